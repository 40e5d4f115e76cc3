import PyProof.Rows.All
import Wide.All
import OpenK.AllK
import Wide.FinOn
import HandS.ForMost
import HandS.WideBits
import HandS.IsInst
import HandS.EndBits
import HandS.Codes
import HandS.Defaults
import KE.IntBitsLaws
import HandS.More
import PyProof.InstEq
import HandS.Style
import HandS.ExcInit
import HandS.ExcField
import HandS.TryOnly
import KE.KExcInit
import PyProof.ExcBaseAll.ArithmeticError
import HandS.WordsExc
import HandS.OwnEq
import PyProof.EqKinds
import PyProof.NeKinds
import KE.KDictZip
import HandS.ListItems
import HandS.Zip
import PyProof.P3Eq
import HandS.Dict
import HandS.DictTup
import HandS.TupLen
import HandS.Deep
import HandS.EndTab
import KE.KNest
import KE.BitLaws
import PyProof.Rows.BitMore
import PySem.Challenge.RW_walkmade_k31_calls_and_metatables
import HandS.MakeKw
import HandS.MakeKwOnly
import HandS.Walk
import HandS.FStr
import HandS.Lambda
import KE.RegKIsAll
import KE.KExcLine
set_option Elab.async false
set_option linter.all false
set_option maxRecDepth 100000
set_option maxHeartbeats 4000000
/-! Readings by steps that look at the head of the goal alone. -/
namespace Rd
open PySem PySem.Spec PyProof.Rows L2

/-! ### defs of the text, packed -/
/-- the def x of the text st stands in the module -/
structure Tx (K : PySem.W.Frag) (mg : Str → Option Value) (x n : Str) (st : Stmt) (ps : List Str) : Prop where
  ex : ∃ f fd, mg x = some (.ref f) ∧ Fun K n n st f fd ∧ Binds K fd ps []
/-- the def x keeps its promise -/
structure Kn (P : Program) (w : World) (K : PySem.W.Frag) (mg : Str → Option Value) (base : Heap) (CX : CXT) (k : Nat) (x : Str) (ps : List Str) (sp : Sp) : Prop where
  ex : ∃ f fd, mg x = some (.ref f) ∧ PySem.W.keepIn K (.ref f) = true ∧ Binds K fd ps [] ∧ FnOk P w K mg base CX k f fd ps sp
/-- a method m of the class at C -/
structure KnM (P : Program) (w : World) (K : PySem.W.Frag) (mg : Str → Option Value) (base : Heap) (CX : CXT) (k : Nat) (C : Addr) (m : Str) (ps : List Str) (sp : Sp) : Prop where
  ex : ∃ f fd, Meth K C m f ∧ Binds K fd ps [] ∧ FnOk P w K mg base CX k f fd ps sp
/-- a class whose __init__ keeps its promise -/
structure KnC (P : Program) (w : World) (K : PySem.W.Frag) (mg : Str → Option Value) (base : Heap) (CX : CXT) (k : Nat) (x : Str) (C : Addr) (ps : List Str) (sp : Sp) : Prop where
  ex : ∃ f fd, mg x = some (.ref C) ∧ Mk K C f ∧ Binds K fd ps [] ∧ FnOk P w K mg base CX k f fd ps sp
/-- a method of the text -/
structure TxM (K : PySem.W.Frag) (C : Addr) (m qual : Str) (st : Stmt) (ps : List Str) : Prop where
  ex : ∃ f fd, Meth K C m f ∧ Fun K m qual st f fd ∧ Binds K fd ps []
structure TxC (K : PySem.W.Frag) (mg : Str → Option Value) (x : Str) (C : Addr) (qual : Str) (st : Stmt) (ps : List Str) : Prop where
  ex : ∃ f fd, mg x = some (.ref C) ∧ Mk K C f ∧ Fun K "__init__" qual st f fd ∧ Binds K fd ps []

section
variable {P : Program} {w : World} {K : PySem.W.Frag} {mg : Str → Option Value} {base : Heap} {CX : CXT} {k : Nat} {x : Str} {ps : List Str} {sp : Sp}
theorem Kn.mono (h : Kn P w K mg base CX k x ps sp) {j : Nat} (hj : k ≤ j) : Kn P w K mg base CX j x ps sp :=
  let ⟨f, fd, a, b, c, d⟩ := h.ex
  ⟨f, fd, a, b, c, d.mono hj⟩
theorem Tx.kn {n : Str} {st : Stmt} (t : Tx K mg x n st ps) (h : ∀ f fd, Fun K n n st f fd → FnOk P w K mg base CX k f fd ps sp) : Kn P w K mg base CX k x ps sp :=
  let ⟨f, fd, a, b, c⟩ := t.ex
  ⟨f, fd, a, b.kp, c, h f fd b⟩
theorem TxM.kn {C : Addr} {m qual : Str} {st : Stmt} (t : TxM K C m qual st ps) (h : ∀ f fd, Fun K m qual st f fd → FnOk P w K mg base CX k f fd ps sp) : KnM P w K mg base CX k C m ps sp :=
  let ⟨f, fd, a, b, c⟩ := t.ex
  ⟨f, fd, a, c, h f fd b⟩
theorem TxC.kn {C : Addr} {qual : Str} {st : Stmt} (t : TxC K mg x C qual st ps) (h : ∀ f fd, Fun K "__init__" qual st f fd → FnOk P w K mg base CX k f fd ps sp) : KnC P w K mg base CX k x C ps sp :=
  let ⟨f, fd, a, b, c, d⟩ := t.ex
  ⟨f, fd, a, b, d, h f fd c⟩
end
section
variable {X : Cx} {k j : Nat} {x : Str} {ps : List Str} {sp : Sp} {p pos apos : Pos} {e o : Expr} {es : List Expr} {t : TA} {ta : TE} {C : Addr} {m : Str}
/-- f(e, ..) -/
theorem pk (h : Kn X.prog X.w X.K X.mg X.base CX0 k x ps sp) (hr : Room j X.A) (ha : PA X (e :: es) t) (hj : k ≤ j := by decide) (hg : Gl X x := by rfl) (hdb : (x == ("__debug__" : Str)) = false := by decide)
    (he : starEach (e :: es) X.env = (false, eval e X.env) :: starEach es X.env := by rfl) (hpl : (backTo pos (starEach es X.env)).any (·.1) = false := by rfl) : PE X (.Call (.Name x p) (e :: es) [] pos) (tCall sp [] E0 t) := by
  obtain ⟨f, fd, a, b, c, d⟩ := h.ex
  exact pe_call d (hr.mono hj) hg a b c .nil pass0 ha hdb he hpl
theorem pk0 (h : Kn X.prog X.w X.K X.mg X.base CX0 k x ps sp) (hr : Room j X.A) (hj : k ≤ j := by decide) (hg : Gl X x := by rfl) (hdb : (x == ("__debug__" : Str)) = false := by decide) : PE X (.Call (.Name x p) [] [] pos) (tCall sp [] E0 tNil) := by
  obtain ⟨f, fd, a, b, c, d⟩ := h.ex
  exact pe_call0 d (hr.mono hj) hg a b c .nil pass0 hdb
/-- C(e, ..) -/
theorem pkC (h : KnC X.prog X.w X.K X.mg X.base CX0 k x C ps sp) (hr : Room j X.A) (ha : PA X (e :: es) t) (hj : k + 1 ≤ j := by decide) (hg : Gl X x := by rfl) (hdb : (x == ("__debug__" : Str)) = false := by decide)
    (he : starEach (e :: es) X.env = (false, eval e X.env) :: starEach es X.env := by rfl) (hpl : (backTo pos (starEach es X.env)).any (·.1) = false := by rfl) : PE X (.Call (.Name x p) (e :: es) [] pos) (tMake C sp [] E0 t) := by
  obtain ⟨f, fd, a, b, c, d⟩ := h.ex
  exact pe_make b d (hr.mono hj) hg a c .nil pass0 ha hdb he hpl
/-- o.m() -/
theorem pkM0 (h : KnM X.prog X.w X.K X.mg X.base CX0 k C m ps sp) (cl : Cls X.K C) (hr : Room j X.A) (ho : PE X o ta) {pl : Sem Bool}
    (ht : eval (.Call (.Attribute o m apos) [] [] pos) X.env = (do
      let ov ← eval o X.env
      standAt apos.atName
      let (f, first) ← holding [ov] (getMethod ov m pl)
      callWith pos f first (backTo pos (starEach [] X.env)) (backToKw pos (keywordEach [] X.env)))) (hj : k ≤ j := by decide) :
    PE X (.Call (.Attribute o m apos) [] [] pos) (tMeth C m sp [] E0 ta tNil) := by
  obtain ⟨f, fd, a, b, d⟩ := h.ex
  exact pe_meth0 ho cl a d (hr.mono hj) b .nil pass0 ht
/-- a class or a constant of the module, as a value -/
theorem pg (x : Str) {v : V} {u : Value} (hm : X.mg x = some u) (r : RelV v u) (hg : Gl X x := by rfl) (hd : (x == ("__debug__" : Str)) = false := by decide) : PE X (.Name x pos) (tC v) := pe_glob hg hm r hd
end
/-- v is .int, .str, .non, .bl -/
theorem rty (n : String) : RelV (.ty n) (.type n) := rfl
theorem rref (a : Addr) : RelV (.ref a) (.ref a) := rfl

/-! ### what is wanted, by the head of the goal -/
section
variable {σ : L2.St} {H : Hp} {Q : VK} {ta tb te : TE} {x y v : V} {r : R2} {K : PySem.W.Frag}
theorem w_var {i : Nat} (h : σ[i]? = some (some v)) (q : Q v H) : tVar i σ H Q := ⟨v, h, q⟩
theorem w_c (q : Q v H) : tC v σ H Q := q
theorem w_op (h : ta σ H fun x H1 => tb σ H1 fun y H2 => r x y H2 Q) : tOp r ta tb σ H Q := h
theorem w_un {r : V → Hp → VK → Prop} (h : ta σ H fun x H1 => r x H1 Q) : tUn r ta σ H Q := h
theorem w_I0 {g : Int → Int → V} {i j : Int} (q : Q (g i j) H) : rI0 g (.int i) (.int j) H Q := ⟨i, j, rfl, rfl, q⟩
theorem w_I {C : Int → Int → Prop} {g : Int → Int → V} {i j : Int} (c : C i j) (q : Q (g i j) H) : rI C g (.int i) (.int j) H Q := ⟨i, j, rfl, rfl, c, q⟩
theorem w_U {g : Int → V} {i : Int} (q : Q (g i) H) : rU g (.int i) H Q := ⟨i, rfl, q⟩
theorem w_eq (s : scal x y = true) (q : Q (.bl (decide (x = y))) H) : rEq x y H Q := ⟨s, q⟩
theorem w_ne (s : scal x y = true) (q : Q (.bl (!decide (x = y))) H) : rNe x y H Q := ⟨s, q⟩
theorem w_bits (h : te σ H fun x H1 => ∃ i, x = .int i ∧ Q (.int (Builtin.Int.intBits i : Nat)) H1) : tBits te σ H Q := h
theorem w_bitsI {R : Int → Prop} {i : Int} (q : R i) : ∃ i', V.int i = .int i' ∧ R i' := ⟨i, rfl, q⟩
def TupK (xs : List V) (H : Hp) (Q : VK) : Prop := xs.length ≤ sizeLine ∧ ∀ p, H p = none → Q (.ref p) (upd H p (.tup xs))
def LstK (xs : List V) (H : Hp) (Q : VK) : Prop := xs.length ≤ sizeLine ∧ ∀ p, H p = none → Q (.ref p) (upd H p (.lst xs))
theorem w_tup {t : TA} (h : t σ H fun xs H1 => TupK xs H1 Q) : tTup t σ H Q := h
theorem w_lst {t : TA} (h : t σ H fun xs H1 => LstK xs H1 Q) : tLst t σ H Q := h
theorem w_nil {Q : List V → Hp → Prop} (q : Q [] H) : tNil σ H Q := q
theorem w_cons {ta : TE} {tr : TA} {Q : List V → Hp → Prop} (h : ta σ H fun x H1 => tr σ H1 fun xs H2 => Q (x :: xs) H2) : tCons ta tr σ H Q := h
theorem w_fld {f : Str} (h : ta σ H fun x H1 => ∃ a C dx fs v, x = .ref a ∧ H1 a = some (.ins C dx fs) ∧ Cls K C ∧ NoAttr K C f ∧ fs.lookup f = some v ∧ Q v H1) : tFld K ta f σ H Q := h
theorem w_fldI {R : V → Prop} {f : Str} {a C dx : Addr} {fs : List (Str × V)} (ho : H a = some (.ins C dx fs)) (c : Cls K C) (n : NoAttr K C f) (l : fs.lookup f = some v) (q : R v) :
    ∃ a' C dx fs v, V.ref a = .ref a' ∧ H a' = some (.ins C dx fs) ∧ Cls K C ∧ NoAttr K C f ∧ fs.lookup f = some v ∧ R v := ⟨a, C, dx, fs, v, rfl, ho, c, n, l, q⟩
theorem w_sfI {R : Addr → Addr → List (Str × V) → Addr → Prop} {f : Str} {a C dx : Addr} {fs : List (Str × V)} (ho : H a = some (.ins C dx fs)) (c : Cls K C) (n : NoAttr K C f) (l : fs.length < 1000) (q : R a dx fs C) :
    ∃ a' C dx fs, V.ref a = .ref a' ∧ H a' = some (.ins C dx fs) ∧ Cls K C ∧ NoAttr K C f ∧ fs.length < 1000 ∧ R a' dx fs C := ⟨a, C, dx, fs, rfl, ho, c, n, l, q⟩
theorem w_call {sp : Sp} {dvs : List V} {E : XK} {t : TA} (h : t σ H fun vs H1 => sp (vs ++ dvs) H1 Q E) : tCall sp dvs E t σ H Q := h
def MakeK (C : Addr) (sp : Sp) (vs : List V) (H1 : Hp) (Q : VK) (E : XK) : Prop := ∀ x dx, H1 x = none → H1 dx = none → dx ≠ x → sp (.ref x :: (vs ++ [])) (upd (upd H1 dx (.own x)) x (.ins C dx [])) (fun v H2 => v = .non ∧ Q (.ref x) H2) E
theorem w_make {C : Addr} {sp : Sp} {E : XK} {t : TA} (h : t σ H fun vs H1 => MakeK C sp vs H1 Q E) : tMake C sp [] E t σ H Q := h
theorem w_cb {r : List V → Hp → VK → Prop} {t : TA} (h : t σ H fun vs H1 => r vs H1 Q) : tCB r t σ H Q := h
theorem w_bl {R : Bool → Prop} {k : Bool} (q : R k) : ∃ k', V.bl k = .bl k' ∧ R k' := ⟨k, rfl, q⟩
theorem w_test {Q : Bool → Hp → Prop} (h : te σ H fun x H' => ∃ k, x = .bl k ∧ Q k H') : tTest te σ H Q := h
theorem w_B {Q : Bool → Hp → Prop} (h : te σ H fun x H' => ∃ k, x = .bl k ∧ Q k H') : tB te σ H Q := h
theorem w_andV (h : ta σ H fun x H1 => ∃ c, x = .bl c ∧ if c = true then tb σ H1 Q else Q (.bl false) H1) : tAndV ta tb σ H Q := h
theorem w_orV (h : ta σ H fun x H1 => ∃ c, x = .bl c ∧ if c = true then Q (.bl true) H1 else tb σ H1 Q) : tOrV ta tb σ H Q := h
theorem w_notV (h : ta σ H fun x H1 => ∃ c, x = .bl c ∧ Q (.bl (!c)) H1) : tNotV ta σ H Q := h
theorem w_and {t u : TT} {Q : Bool → Hp → Prop} (h : t σ H fun c H1 => if c = true then u σ H1 Q else Q false H1) : tAnd t u σ H Q := h
theorem w_or {t u : TT} {Q : Bool → Hp → Prop} (h : t σ H fun c H1 => if c = true then Q true H1 else u σ H1 Q) : tOr t u σ H Q := h
theorem w_not {t : TT} {Q : Bool → Hp → Prop} (h : t σ H fun c H1 => Q (!c) H1) : tNot t σ H Q := h
theorem w_if {t : TT} (h : t σ H fun c H1 => if c = true then ta σ H1 Q else tb σ H1 Q) : tIf t ta tb σ H Q := h
theorem w_isi {x c : V} {t u : Value} {b : Bool} (k : ClsV c u) (ty : TyX K H x t) (e : PySem.W.kitOne K t u = some b) (q : Q (.bl b) H) : rIsi K [x, c] H Q := ⟨x, c, t, u, b, rfl, k, ty, e, q⟩
/-! statements -/
variable {D : Ends} {t u : TS} {n bk ct : L2.St → Hp → Prop} {rt : VK}
theorem w_nx (q : n σ H) : (Ends.mk n rt bk ct).nx σ H := q
theorem w_rt (q : rt v H) : (Ends.mk n rt bk ct).rt v H := q
theorem w_bk (q : bk σ H) : (Ends.mk n rt bk ct).bk σ H := q
theorem w_ct (q : ct σ H) : (Ends.mk n rt bk ct).ct σ H := q
theorem w_seq (h : t { D with nx := u D } σ H) : tSeq t u D σ H := h
theorem w_cut {Mid : L2.St → Hp → Prop} (h1 : t { D with nx := Mid } σ H) (h2 : ∀ σ' H', Mid σ' H' → u D σ' H') : C8.tCut t u D σ H := ⟨Mid, h1, h2⟩
theorem w_next (h : D.nx σ H) : tNext D σ H := h
theorem w_brk (h : D.bk σ H) : tBreak D σ H := h
theorem w_cont (h : D.ct σ H) : tCont D σ H := h
theorem w_ret (h : te σ H D.rt) : tRet te D σ H := h
theorem w_ifS {c : TT} (h : c σ H fun b H1 => if b = true then t D σ H1 else u D σ H1) : tIfS c t u D σ H := h
theorem w_asg {g : TG} (h : te σ H fun x H1 => g x σ H1 D.nx) : tAsg te g D σ H := h
theorem w_name {i : Nat} {Q : L2.St → Hp → Prop} (h : Q (σ.set i (some v)) H) : gName i v σ H Q := h
theorem w_par {i j : Nat} {ta : TA} (h : ta σ H fun vs H1 => ∃ v w, vs = [v, w] ∧ D.nx ((σ.set i (some v)).set j (some w)) H1) : tPar i j ta D σ H := h
theorem w_parI {R : V → V → Prop} {v w : V} (h : R v w) : ∃ v' w', [v, w] = [v', w'] ∧ R v' w' := ⟨v, w, rfl, h⟩
theorem w_ii {R : Int → Int → Prop} {a b : Int} (h : R a b) : ∃ i j, [V.int a, V.int b] = [V.int i, V.int j] ∧ R i j := ⟨a, b, rfl, h⟩
theorem w_i1 {R : Int → Prop} {a : Int} (h : R a) : ∃ i, [V.int a] = [V.int i] ∧ R i := ⟨a, rfl, h⟩
theorem w_drop (h : te σ H fun _ H1 => D.nx σ H1) : tDrop te D σ H := h
theorem w_sFld {tv : TE} {f : Str} (h : tv σ H fun y H1 => ta σ H1 fun x H2 => ∃ a C dx fs, x = .ref a ∧ H2 a = some (.ins C dx fs) ∧ Cls K C ∧ NoAttr K C f ∧ fs.length < 1000 ∧ D.nx σ (upd H2 a (.ins C dx (putF f y fs)))) : sFld K ta tv f D σ H := h
theorem iT {A B : Prop} (h : A) : if true = true then A else B := by rw [if_pos rfl]; exact h
theorem iF {A B : Prop} (h : B) : if false = true then A else B := by rw [if_neg Bool.false_ne_true]; exact h
theorem iD {c : Prop} [Decidable c] {A B : Prop} (h1 : c → A) (h2 : ¬ c → B) : if decide c = true then A else B := by
  by_cases h : c
  · rw [decide_eq_true h]; exact iT (h1 h)
  · rw [decide_eq_false h]; exact iF (h2 h)
theorem iN {c : Prop} [Decidable c] {A B : Prop} (h1 : ¬ c → A) (h2 : c → B) : if (!decide c) = true then A else B := by
  by_cases h : c
  · rw [decide_eq_true h]; exact iF (h2 h)
  · rw [decide_eq_false h]; exact iT (h1 h)
theorem iB {b : Bool} {A B : Prop} (h1 : b = true → A) (h2 : b = false → B) : if b = true then A else B := by
  cases b with
  | true => exact iT (h1 rfl)
  | false => exact iF (h2 rfl)
end
end Rd
open Rd L2 in
section
local macro_rules | `(tactic| walk_at "rd") => `(tactic| first
  | with_reducible refine w_var rfl ?_
  | with_reducible refine w_c ?_
  | with_reducible refine w_op ?_)
end

set_option Elab.async false
set_option linter.all false
set_option maxRecDepth 100000
set_option maxHeartbeats 4000000
/-! The numbers of the program as plain functions. -/
namespace Nu
open PySem L2
abbrev bits (n : Int) : Int := (Builtin.Int.intBits n : Nat)
theorem bits_nn (n : Int) : 0 ≤ bits n := Int.natCast_nonneg _
theorem bits_le {n : Int} {k : Nat} : bits n ≤ k ↔ n.natAbs < 2 ^ k := by
  unfold bits
  rw [Int.ofNat_le]
  exact PySem.intBits_le_iff
theorem bits_zero : bits 0 = 0 := rfl
theorem pow_pos2 (k : Nat) : (0 : Int) < 2 ^ k := Int.pow_pos (by decide)
theorem pow_mono {a b : Nat} (h : a ≤ b) : (2 : Int) ^ a ≤ 2 ^ b := by
  have e : b = a + (b - a) := by omega
  rw [e, Int.pow_add]
  have h1 := pow_pos2 a
  have h2 := pow_pos2 (b - a)
  have := Int.mul_le_mul_of_nonneg_left (show (1 : Int) ≤ 2 ^ (b - a) by omega) (Int.le_of_lt h1)
  omega
theorem pow_cast (k : Nat) : ((2 ^ k : Nat) : Int) = 2 ^ k := by simp
theorem bits_lt_pow {n : Int} (h : 0 ≤ n) {k : Nat} : bits n ≤ k ↔ n < 2 ^ k := by
  rw [bits_le]
  have e := pow_cast k
  omega
/-- 2 ^ (bits n - 1) ≤ n < 2 ^ bits n -/
theorem lt_pow_bits {n : Int} (h : 0 ≤ n) : n < 2 ^ (Builtin.Int.intBits n) := (bits_lt_pow h).1 (Int.le_refl _)
theorem pow_bits_le {n : Int} (h : 0 < n) : (2 : Int) ^ (Builtin.Int.intBits n - 1) ≤ n := by
  have hb : Builtin.Int.intBits n ≠ 0 := by
    intro e
    have := lt_pow_bits (n := n) (by omega)
    rw [e] at this
    simp at this
    omega
  have h2 : ¬ bits n ≤ ((Builtin.Int.intBits n - 1 : Nat) : Int) := by
    unfold bits
    omega
  rw [bits_lt_pow (by omega)] at h2
  omega
theorem bits_pos {n : Int} (h : 0 < n) : 0 < Builtin.Int.intBits n := by
  have := lt_pow_bits (n := n) (by omega)
  rcases Nat.eq_zero_or_pos (Builtin.Int.intBits n) with e | e
  · rw [e] at this; simp at this; omega
  · exact e
/-- bits by its bounds -/
theorem bits_eq {n : Int} {k : Nat} (h1 : (2 : Int) ^ k ≤ n) (h2 : n < 2 ^ (k + 1)) : bits n = k + 1 := by
  have p := pow_pos2 k
  have a : bits n ≤ ((k + 1 : Nat) : Int) := (bits_lt_pow (by omega)).2 h2
  have b : ¬ bits n ≤ ((k : Nat) : Int) := by rw [bits_lt_pow (by omega)]; omega
  omega
theorem bits_shift {n : Int} (h : 0 < n) (k : Nat) : bits (n * 2 ^ k) = bits n + k := by
  have hp := bits_pos h
  have h1 := pow_bits_le h
  have h2 := lt_pow_bits (n := n) (by omega)
  have pk := pow_pos2 k
  have e : Builtin.Int.intBits n - 1 + 1 = Builtin.Int.intBits n := by omega
  have a1 : (2 : Int) ^ (Builtin.Int.intBits n - 1 + k) ≤ n * 2 ^ k := by
    rw [Int.pow_add]
    exact Int.mul_le_mul_of_nonneg_right h1 (by omega)
  have a2 : n * 2 ^ k < 2 ^ (Builtin.Int.intBits n - 1 + k + 1) := by
    rw [show Builtin.Int.intBits n - 1 + k + 1 = Builtin.Int.intBits n + k by omega, Int.pow_add]
    exact Int.mul_lt_mul_of_pos_right h2 pk
  rw [bits_eq a1 a2]
  unfold bits
  omega
theorem bits_mono {a b : Int} (h0 : 0 ≤ a) (h : a ≤ b) : bits a ≤ bits b := by
  have := lt_pow_bits (n := b) (by omega)
  exact (bits_lt_pow h0).2 (by omega)

/-! ### the lowest bit -/
theorem nat_low (k j : Nat) : (2 ^ k * (2 * j + 1)) &&& (2 ^ k * (2 * j + 1) - 1) = 2 ^ (k + 1) * j := by
  have hp : 0 < 2 ^ k := Nat.two_pow_pos k
  have e1 : 2 ^ k * (2 * j + 1) = 2 ^ (k + 1) * j + 2 ^ k := by
    rw [Nat.pow_succ, Nat.mul_add, Nat.mul_one, Nat.mul_assoc]
  have e2 : 2 ^ k * (2 * j + 1) - 1 = 2 ^ (k + 1) * j + (2 ^ k - 1) := by rw [e1]; omega
  have l1 : 2 ^ k < 2 ^ (k + 1) := by rw [Nat.pow_succ]; omega
  have l2 : 2 ^ k - 1 < 2 ^ (k + 1) := by omega
  rw [e2]
  conv => lhs; lhs; rw [e1]
  apply Nat.eq_of_testBit_eq
  intro i
  rw [Nat.testBit_and, Nat.testBit_two_pow_mul_add _ l1, Nat.testBit_two_pow_mul_add _ l2]
  have e3 : 2 ^ (k + 1) * j = 2 ^ (k + 1) * j + 0 := rfl
  rw [e3, Nat.testBit_two_pow_mul_add _ (Nat.two_pow_pos _)]
  by_cases hi : i < k + 1
  · rw [if_pos hi, if_pos hi, if_pos hi, Nat.testBit_two_pow, Nat.testBit_two_pow_sub_one, Nat.zero_testBit]
    by_cases hk : k = i
    · subst hk; simp
    · simp [hk]
  · rw [if_neg hi, if_neg hi, if_neg hi, Bool.and_self]
theorem nat_odd : ∀ n : Nat, 0 < n → ∃ k j : Nat, n = 2 ^ k * (2 * j + 1) := by
  intro n
  induction n using Nat.strongRecOn with
  | ind n ih =>
    intro h
    by_cases c : n % 2 = 1
    · exact ⟨0, n / 2, by simp; omega⟩
    · obtain ⟨k, j, e⟩ := ih (n / 2) (by omega) (by omega)
      refine ⟨k + 1, j, ?_⟩
      have e2 : n = 2 * (n / 2) := by omega
      rw [e2, e, Nat.pow_succ]
      rw [Nat.mul_comm (2 ^ k) 2, Nat.mul_assoc]
/-- what (top & -top).bit_length() - 1 is -/
def less (t : Int) : Int := bits (Builtin.bitAnd t (0 - t)) - 1
theorem less_spec {t : Int} (h : 0 < t) : ∃ (k : Nat) (m : Int), 0 ≤ m ∧ t = 2 ^ k * (2 * m + 1) ∧ less t = k := by
  obtain ⟨n, rfl⟩ := Int.eq_ofNat_of_zero_le (Int.le_of_lt h)
  obtain ⟨k, j, e⟩ := nat_odd n (by omega)
  have hp : 0 < 2 ^ k := Nat.two_pow_pos k
  refine ⟨k, j, Int.natCast_nonneg _, ?_, ?_⟩
  · rw [e]
    simp
  · have a : decide (0 ≤ (n : Int)) = true := decide_eq_true (Int.natCast_nonneg _)
    have b : decide (0 ≤ (0 - (n : Int))) = false := decide_eq_false (by omega)
    have c : Builtin.bitNot (0 - (n : Int)) = ((n - 1 : Nat) : Int) := by
      show -(0 - (n : Int)) - 1 = _
      omega
    have d : Builtin.bitAnd (n : Int) (0 - (n : Int)) = 2 ^ k := by
      unfold Builtin.bitAnd
      rw [a, b]
      show (n : Int) - ((((n : Int).toNat &&& (Builtin.bitNot (0 - (n : Int))).toNat : Nat)) : Int) = 2 ^ k
      rw [c, Int.toNat_natCast, Int.toNat_natCast, e, nat_low]
      have e1 : 2 ^ k * (2 * j + 1) = 2 ^ (k + 1) * j + 2 ^ k := by
        rw [Nat.pow_succ, Nat.mul_add, Nat.mul_one, Nat.mul_assoc]
      rw [e1, ← pow_cast k]
      omega
    unfold less
    rw [d, bits_eq (k := k) (Int.le_refl _) (by rw [Int.pow_succ]; have := pow_pos2 k; omega)]
    omega
/-- top and power with an odd top -/
def red (t p : Int) : Int × Int := if t = 0 then (0, 0) else (t / 2 ^ (less t).toNat, p + less t)
theorem red_zero (p : Int) : red 0 p = (0, 0) := if_pos rfl
theorem red_spec {t : Int} (h : 0 < t) (p : Int) : ∃ (k : Nat) (m : Int), 0 ≤ m ∧ t = 2 ^ k * (2 * m + 1) ∧ red t p = (2 * m + 1, p + k) := by
  obtain ⟨k, m, hm, e, l⟩ := less_spec h
  refine ⟨k, m, hm, e, ?_⟩
  unfold red
  rw [if_neg (by omega), l, Int.toNat_natCast]
  have : t / 2 ^ k = 2 * m + 1 := by
    rw [e]
    exact Int.mul_ediv_cancel_left _ (by have := pow_pos2 k; omega)
  rw [this]
def fitsB (t p : Int) : Bool := (decide (t < 9007199254740992) && (decide (-1074 ≤ p) && decide (bits t + p ≤ 1024))) || decide (t = 0)
theorem pow53 : (9007199254740992 : Int) = 2 ^ 53 := by decide
/-- what nearest hands to Float fits -/
theorem red_fits {t p : Int} (h0 : 0 ≤ t) (h1 : t ≤ 9007199254740992) (h2 : -1074 ≤ p) (h3 : bits t + p ≤ 1024) : fitsB (red t p).1 (red t p).2 = true := by
  by_cases z : t = 0
  · subst z; rw [red_zero]; decide
  · obtain ⟨k, m, hm, e, r⟩ := red_spec (t := t) (by omega) p
    rw [r]
    have pk := pow_pos2 k
    have hlt : 2 * m + 1 < 9007199254740992 := by
      by_cases k0 : k = 0
      · subst k0
        simp at e
        omega
      · have p2 : (2 : Int) ≤ 2 ^ k := by
          obtain ⟨j, rfl⟩ : ∃ j, k = j + 1 := ⟨k - 1, by omega⟩
          rw [Int.pow_succ]
          have := pow_pos2 j
          omega
        have : 2 * (2 * m + 1) ≤ 2 ^ k * (2 * m + 1) := Int.mul_le_mul_of_nonneg_right p2 (by omega)
        omega
    have hb : bits t = bits (2 * m + 1) + k := by
      rw [e, Int.mul_comm]
      exact bits_shift (by omega) k
    unfold fitsB
    rw [decide_eq_true hlt, decide_eq_true (show -1074 ≤ p + (k : Int) by omega), decide_eq_true (show bits (2 * m + 1) + (p + (k : Int)) ≤ 1024 by omega)]
    rfl
end Nu

set_option Elab.async false
set_option linter.all false
set_option maxRecDepth 100000
set_option maxHeartbeats 4000000
namespace Rd
open PySem PySem.Spec L2
section
variable {X : Cx}
theorem pgE (x : Str) {i : Int} {pos : Pos} (hm : ∃ t, X.mg x = some (.int i t)) (hg : Gl X x := by rfl) (hd : (x == ("__debug__" : Str)) = false := by decide) : PE X (.Name x pos) (tC (.int i)) := by
  obtain ⟨t, h⟩ := hm
  exact pe_glob hg h ⟨t, rfl⟩ hd
/-- e.f, as a target -/
def gFld (K : PySem.W.Frag) (to : TE) (f : Str) : TG := fun v σ H Q => to σ H fun x H1 => ∃ a C dx fs, x = .ref a ∧ H1 a = some (.ins C dx fs) ∧ Cls K C ∧ NoAttr K C f ∧ fs.length < 1000 ∧ Q σ (upd H1 a (.ins C dx (putF f v fs)))
theorem pg_fld {o : Expr} {f : Str} {pos : Pos} {to : TE} (ho : PE X o to) : PG X (.Attribute o f pos) (gFld X.K to f) := by
  refine ⟨fun pins s σ H v u Q I r h => ?_⟩
  rw [assign_Attribute]
  refine wpAny_bind (wpAny_holding (thn (ho.run pins s σ H _ I h) fun ov s1 ⟨x, H1, I1, r1, a, C, dx, fs, ex, ea, c, n, l, q1⟩ => ?_))
  subst ex
  obtain rfl : ov = Value.ref a := r1
  refine wpAny_bind (wpAny_standAt (wpAny_bind (wpAny_holding (setattr_ok I1 ea c n l r fun s3 I3 => ?_))))
  exact wpAny_release ⟨σ, _, I3, q1⟩
end
theorem same_get {H H' : Hp} {a : Addr} {o : HO} (s : Same H H') (h : H a = some o) : H' a = some o := s a o h
theorem same_upd {H : Hp} {a : Addr} {o : HO} (h : H a = none) : Same H (upd H a o) := fun b u e => by rw [upd_ne (ne_of_none e h)]; exact e
section
variable {σ : L2.St} {H : Hp} {Q : VK} {ta tb te : TE} {x y v : V} {K : PySem.W.Frag} {xs : List V}
theorem w_tupI (hl : xs.length ≤ 1000) (q : ∀ p H', Same H H' → H p = none → H' p = some (.tup xs) → Q (.ref p) H') : TupK xs H Q :=
  ⟨Nat.le_trans hl (by decide), fun p hp => q p _ (same_upd hp) hp upd_same⟩
theorem w_lstI (hl : xs.length ≤ 1000) (q : ∀ p H', Same H H' → H p = none → H' p = some (.lst xs) → Q (.ref p) H') : LstK xs H Q :=
  ⟨Nat.le_trans hl (by decide), fun p hp => q p _ (same_upd hp) hp upd_same⟩
theorem w_tup1 {x1 : V} (q : ∀ p H', Same H H' → H p = none → H' p = some (.tup [x1]) → Q (.ref p) H') : TupK [x1] H Q := w_tupI (by show 1 ≤ 1000; decide) q
theorem w_lst1 {x1 : V} (q : ∀ p H', Same H H' → H p = none → H' p = some (.lst [x1]) → Q (.ref p) H') : LstK [x1] H Q := w_lstI (by show 1 ≤ 1000; decide) q
theorem w_tup2 {x1 x2 : V} (q : ∀ p H', Same H H' → H p = none → H' p = some (.tup [x1, x2]) → Q (.ref p) H') : TupK [x1, x2] H Q := w_tupI (by show 2 ≤ 1000; decide) q
theorem w_lst2 {x1 x2 : V} (q : ∀ p H', Same H H' → H p = none → H' p = some (.lst [x1, x2]) → Q (.ref p) H') : LstK [x1, x2] H Q := w_lstI (by show 2 ≤ 1000; decide) q
theorem w_tup3 {x1 x2 x3 : V} (q : ∀ p H', Same H H' → H p = none → H' p = some (.tup [x1, x2, x3]) → Q (.ref p) H') : TupK [x1, x2, x3] H Q := w_tupI (by show 3 ≤ 1000; decide) q
theorem w_lst4 {x1 x2 x3 x4 : V} (q : ∀ p H', Same H H' → H p = none → H' p = some (.lst [x1, x2, x3, x4]) → Q (.ref p) H') : LstK [x1, x2, x3, x4] H Q := w_lstI (by show 4 ≤ 1000; decide) q
theorem w_lst3 {x1 x2 x3 : V} (q : ∀ p H', Same H H' → H p = none → H' p = some (.lst [x1, x2, x3]) → Q (.ref p) H') : LstK [x1, x2, x3] H Q := w_lstI (by show 3 ≤ 1000; decide) q
theorem w_in {p : Addr} (h : H p = some (.tup xs)) (f1 : flatV x = true) (f2 : xs.all flatV = true) (q : Q (.bl (inV x xs)) H) : rIn K false x (.ref p) H Q := ⟨p, xs, rfl, .inr (SqT.of h), f1, f2, q⟩
theorem w_nin {p : Addr} (h : H p = some (.tup xs)) (f1 : flatV x = true) (f2 : xs.all flatV = true) (q : Q (.bl (!inV x xs)) H) : rIn K true x (.ref p) H Q := ⟨p, xs, rfl, .inr (SqT.of h), f1, f2, q⟩
theorem w_gtup {n : Nat} {t : TGs} {a : Addr} {Q : L2.St → Hp → Prop} (h : H a = some (.tup xs)) (hn : xs.length = n) (q : t xs σ H Q) : gTup K n t (.ref a) σ H Q := ⟨a, xs, rfl, SqT.of h, hn, q⟩
theorem w_gcons {t : TG} {u : TGs} {v : V} {r : List V} {Q : L2.St → Hp → Prop} (h : t v σ H fun σ' H' => u r σ' H' Q) : gCons t u (v :: r) σ H Q := ⟨v, r, rfl, h⟩
theorem w_gnil {Q : L2.St → Hp → Prop} (h : Q σ H) : gNil [] σ H Q := ⟨rfl, h⟩
theorem w_ixT {p : Addr} {i : Int} (h : H p = some (.tup xs)) (ha : atI xs i = some v) (q : Q v H) : rIxT K (.ref p) (.int i) H Q := ⟨p, xs, i, v, rfl, rfl, SqT.of h, ha, q⟩
theorem w_ixL {p : Addr} {i : Int} (h : H p = some (.lst xs)) (ha : atI xs i = some v) (q : Q v H) : rIxL K (.ref p) (.int i) H Q := ⟨p, xs, i, v, rfl, rfl, SqL.of h, ha, q⟩
theorem w_isN (q : Q (.bl (decide (x = .non))) H) : (V.non = .non ∧ Q (.bl (decide (x = .non))) H) := ⟨rfl, q⟩
theorem dec_ii {i j : Int} : decide (V.int i = V.int j) = decide (i = j) := by
  by_cases h : i = j
  · subst h; simp
  · rw [decide_eq_false h, decide_eq_false (fun e => h (V.int.inj e))]
theorem dec_ss {i j : Str} : decide (V.str i = V.str j) = decide (i = j) := by
  by_cases h : i = j
  · subst h; simp
  · rw [decide_eq_false h, decide_eq_false (fun e => h (V.str.inj e))]
theorem dec_is {i : Int} {j : Str} : decide (V.int i = V.str j) = false := decide_eq_false (fun e => nomatch e)
theorem dec_si {i : Int} {j : Str} : decide (V.str j = V.int i) = false := decide_eq_false (fun e => nomatch e)
/-- the test of two ints for equality -/
theorem w_eqI {i j : Int} (q : Q (.bl (decide (i = j))) H) : rEq (.int i) (.int j) H Q := ⟨rfl, by rw [dec_ii]; exact q⟩
theorem w_neI {i j : Int} (q : Q (.bl (!decide (i = j))) H) : rNe (.int i) (.int j) H Q := ⟨rfl, by rw [dec_ii]; exact q⟩
theorem w_eqS {i j : Str} (q : Q (.bl (decide (i = j))) H) : rEq (.str i) (.str j) H Q := ⟨rfl, by rw [dec_ss]; exact q⟩
theorem w_eqIS {i : Int} {j : Str} (q : Q (.bl false) H) : rEq (.int i) (.str j) H Q := ⟨rfl, by rw [dec_is]; exact q⟩
theorem w_eqSI {i : Int} {j : Str} (q : Q (.bl false) H) : rEq (.str j) (.int i) H Q := ⟨rfl, by rw [dec_si]; exact q⟩
/-- the object ahead of a method's call -/
def MethK (C : Addr) (m : Str) (R : V → Hp → Prop) (x : V) (H : Hp) : Prop := ∃ a dx fs, x = .ref a ∧ H a = some (.ins C dx fs) ∧ fs.lookup m = none ∧ R x H
theorem w_meth {C : Addr} {m : Str} {sp : Sp} {dvs : List V} {E : XK} {t : TA} (h : ta σ H fun x H1 => MethK C m (fun x H1 => t σ H1 fun vs H2 => sp (x :: (vs ++ dvs)) H2 Q E) x H1) : tMeth C m sp dvs E ta t σ H Q := h
theorem w_methI {C : Addr} {m : Str} {R : V → Hp → Prop} {a dx : Addr} {fs : List (Str × V)} (h : H a = some (.ins C dx fs)) (l : fs.lookup m = none) (q : R (.ref a) H) : MethK C m R (.ref a) H := ⟨a, dx, fs, rfl, h, l, q⟩
theorem w_nn {R : Prop} (q : R) : V.non = V.non ∧ R := ⟨rfl, q⟩
end
/-- a class whose __init__ has defaults dvs behind what is written -/
structure KnCD (P : Program) (w : World) (K : PySem.W.Frag) (mg : Str → Option Value) (base : Heap) (CX : CXT) (k : Nat) (x : Str) (C : Addr) (ps : List Str) (dvs : List V) (sp : Sp) : Prop where
  ex : ∃ f fd ds, mg x = some (.ref C) ∧ Mk K C f ∧ Vals dvs ds ∧ Binds K fd ps ds ∧ FnOk P w K mg base CX k f fd ps sp
theorem pkCD {X : Cx} {k j : Nat} {x : Str} {ps : List Str} {sp : Sp} {p pos : Pos} {e : Expr} {es : List Expr} {t : TA} {C : Addr} {dvs : List V} (h : KnCD X.prog X.w X.K X.mg X.base CX0 k x C ps dvs sp) (hr : Room j X.A) (ha : PA X (e :: es) t) (hj : k + 1 ≤ j := by decide) (hg : Gl X x := by rfl) (hdb : (x == ("__debug__" : Str)) = false := by decide)
    (he : starEach (e :: es) X.env = (false, eval e X.env) :: starEach es X.env := by rfl) (hpl : (backTo pos (starEach es X.env)).any (·.1) = false := by rfl) : PE X (.Call (.Name x p) (e :: es) [] pos) (tMake C sp dvs E0 t) := by
  obtain ⟨f, fd, ds, a, b, c, d, g⟩ := h.ex
  exact pe_make b g (hr.mono hj) hg a d c pass0 ha hdb he hpl
def MakeKD (C : Addr) (sp : Sp) (dvs vs : List V) (H1 : Hp) (Q : VK) (E : XK) : Prop := ∀ x dx, H1 x = none → H1 dx = none → dx ≠ x → sp (.ref x :: (vs ++ dvs)) (upd (upd H1 dx (.own x)) x (.ins C dx [])) (fun v H2 => v = .non ∧ Q (.ref x) H2) E
theorem w_makeD {C : Addr} {sp : Sp} {E : XK} {t : TA} {dvs : List V} {σ : L2.St} {H : Hp} {Q : VK} (h : t σ H fun vs H1 => MakeKD C sp dvs vs H1 Q E) : tMake C sp dvs E t σ H Q := h
/-- xs * k -/
theorem w_rep {l : Addr} {k : Int} {xs : List V} {H : Hp} {Q : VK} (h : H l = some (.lst xs)) (h1 : -(2 ^ 63) ≤ k) (h2 : k < 2 ^ 63) (h3 : xs.length * k.toNat ≤ sizeLine) (q : ∀ p H', Same H H' → H p = none → H' p = some (.lst (List.replicate k.toNat xs).flatten) → Q (.ref p) H') : rRep (.ref l) (.int k) H Q :=
  ⟨l, k, xs, rfl, rfl, h, h1, h2, h3, fun p hp => q p _ (same_upd hp) hp upd_same⟩
theorem w_lenL {p : Addr} {K : PySem.W.Frag} {xs : List V} {H : Hp} {R : List V → Prop} (h : H p = some (.lst xs)) (q : R xs) : ∃ p' ys, [V.ref p] = [V.ref p'] ∧ (SqL K H p' ys ∨ SqT K H p' ys) ∧ R ys := ⟨p, xs, rfl, .inl (SqL.of h), q⟩
/-- all but what stands at x is as it was -/
def Oth (x : Addr) (H H' : Hp) : Prop := ∀ b o, b ≠ x → H b = some o → H' b = some o
theorem Oth.refl {x : Addr} {H : Hp} : Oth x H H := fun _ _ _ e => e
theorem Oth.same {x : Addr} {H H1 H2 : Hp} (a : Oth x H H1) (s : Same H1 H2) : Oth x H H2 := fun b o hb e => s b o (a b o hb e)
theorem Oth.put {x : Addr} {H H1 : Hp} {o : HO} (a : Oth x H H1) : Oth x H (upd H1 x o) := fun b u hb e => by rw [upd_ne hb]; exact a b u hb e
theorem Oth.trans {x : Addr} {H H1 H2 : Hp} (a : Oth x H H1) (b : Oth x H1 H2) : Oth x H H2 := fun c o hc e => b c o hc (a c o hc e)
theorem Same.oth {x : Addr} {H H1 : Hp} (s : Same H H1) : Oth x H H1 := fun b o _ e => s b o e
end Rd

set_option Elab.async false
set_option linter.all false
set_option maxRecDepth 100000
set_option maxHeartbeats 4000000
set_option autoImplicit false
namespace Nu
open PySem L2
def pw (t b : Int) : Int := if -1074 > bits t - bits b - 53 then -1074 else bits t - bits b - 53
def t1 (t b : Int) : Int := if pw t b < 0 then t * 2 ^ (0 - pw t b).toNat else t
def b1 (t b : Int) : Int := if pw t b < 0 then b else b * 2 ^ (pw t b).toNat
def b2 (t b : Int) : Int := if 9007199254740992 ≤ t1 t b / b1 t b then b1 t b * 2 ^ (1 : Int).toNat else b1 t b
def p2 (t b : Int) : Int := if 9007199254740992 ≤ t1 t b / b1 t b then pw t b + 1 else pw t b
def wq (t b : Int) : Int := t1 t b / b2 t b
def wr (t b : Int) : Int := t1 t b % b2 t b
def goesUp (t b : Int) : Prop := b2 t b < 2 * wr t b ∨ (2 * wr t b = b2 t b ∧ Builtin.bitAnd (wq t b) 1 = 1)
instance (t b : Int) : Decidable (goesUp t b) := inferInstanceAs (Decidable (_ ∨ _))
def wh (t b : Int) : Int := if goesUp t b then wq t b + 1 else wq t b
section
variable {t b : Int}
theorem pw_ge : -1074 ≤ pw t b := by unfold pw; split <;> omega
theorem pw_ge2 : bits t - bits b - 53 ≤ pw t b := by unfold pw; split <;> omega
theorem pw_le (h : bits t ≤ 2200) : pw t b ≤ 2200 := by
  have := bits_nn b
  unfold pw; split <;> omega
theorem bits_mul_pow {n : Int} (h : 0 ≤ n) (k : Nat) : bits (n * 2 ^ k) ≤ bits n + k := by
  by_cases z : n = 0
  · subst z; rw [Int.zero_mul, bits_zero]; omega
  · rw [bits_shift (by omega)]; omega
theorem t1_nn (h : 0 ≤ t) : 0 ≤ t1 t b := by
  unfold t1
  split
  · exact Int.mul_nonneg h (Int.le_of_lt (pow_pos2 _))
  · exact h
theorem b1_pos (h : 0 < b) : 0 < b1 t b := by
  unfold b1
  split
  · exact h
  · exact Int.mul_pos h (pow_pos2 _)
theorem b2_pos (h : 0 < b) : 0 < b2 t b := by
  have := b1_pos (t := t) h
  unfold b2
  split
  · exact Int.mul_pos this (pow_pos2 _)
  · exact this
theorem t1_bits (h : 0 ≤ t) (hb : bits t ≤ 2200) : bits (t1 t b) ≤ 3274 := by
  unfold t1
  split
  · have := bits_mul_pow h (0 - pw t b).toNat
    have := pw_ge (t := t) (b := b)
    omega
  · omega
theorem b1_bits (h : 0 < b) (ht : bits t ≤ 2200) (hb : bits b ≤ 2200) : bits (b1 t b) ≤ 4400 := by
  unfold b1
  split
  · omega
  · have := bits_mul_pow (n := b) (by omega) (pw t b).toNat
    have := pw_le (t := t) (b := b) ht
    omega
theorem b2_bits (h : 0 < b) (ht : bits t ≤ 2200) (hb : bits b ≤ 2200) : bits (b2 t b) ≤ 4401 := by
  have h1 := b1_bits h ht hb
  unfold b2
  split
  · have := bits_mul_pow (n := b1 t b) (by have := b1_pos (t := t) h; omega) (1 : Int).toNat
    have e : (((1 : Int).toNat : Nat) : Int) = 1 := rfl
    omega
  · omega
theorem p2_ge : -1074 ≤ p2 t b := by
  have := pw_ge (t := t) (b := b)
  unfold p2
  split <;> omega
/-- the quotient ahead of rounding has at most 54 bits -/
theorem t1_lt (ht : 0 ≤ t) (hb : 0 < b) : t1 t b < 18014398509481984 * b1 t b := by
  have h1 := lt_pow_bits (n := t) ht
  have h2 := pow_bits_le hb
  have hm := bits_pos hb
  have g := pw_ge2 (t := t) (b := b)
  have e54 : (18014398509481984 : Int) = 2 ^ 54 := by decide
  rw [e54]
  unfold bits at g
  generalize hn : Builtin.Int.intBits t = n at *
  generalize hk : Builtin.Int.intBits b = m at *
  unfold t1 b1
  split
  · rename_i c
    have a1 : t * 2 ^ (0 - pw t b).toNat < 2 ^ n * 2 ^ (0 - pw t b).toNat := Int.mul_lt_mul_of_pos_right h1 (pow_pos2 _)
    rw [← Int.pow_add] at a1
    have a2 : (2 : Int) ^ (n + (0 - pw t b).toNat) ≤ 2 ^ (54 + (m - 1)) := pow_mono (by omega)
    have a3 : (2 : Int) ^ (54 + (m - 1)) ≤ 2 ^ 54 * b := by
      rw [Int.pow_add]
      exact Int.mul_le_mul_of_nonneg_left h2 (by decide)
    omega
  · rename_i c
    have a2 : (2 : Int) ^ n ≤ 2 ^ (54 + (m - 1) + (pw t b).toNat) := pow_mono (by omega)
    have a3 : (2 : Int) ^ (54 + (m - 1) + (pw t b).toNat) ≤ 2 ^ 54 * (b * 2 ^ (pw t b).toNat) := by
      rw [Int.pow_add, Int.pow_add, Int.mul_assoc]
      exact Int.mul_le_mul_of_nonneg_left (Int.mul_le_mul_of_nonneg_right h2 (Int.le_of_lt (pow_pos2 _))) (by decide)
    omega
theorem wq_nn (ht : 0 ≤ t) (hb : 0 < b) : 0 ≤ wq t b := Int.ediv_nonneg (t1_nn ht) (Int.le_of_lt (b2_pos hb))
theorem wq_lt (ht : 0 ≤ t) (hb : 0 < b) : wq t b < 9007199254740992 := by
  have h := t1_lt ht hb
  have h1 := b1_pos (t := t) hb
  unfold wq b2
  split
  · have e : b1 t b * 2 ^ (1 : Int).toNat = 2 * b1 t b := by
      show b1 t b * 2 = _
      omega
    rw [e]
    refine Int.ediv_lt_of_lt_mul (by omega) ?_
    omega
  · omega
theorem wr_nn (hb : 0 < b) : 0 ≤ wr t b := Int.emod_nonneg _ (by have := b2_pos (t := t) hb; omega)
theorem wr_lt (hb : 0 < b) : wr t b < b2 t b := Int.emod_lt_of_pos _ (b2_pos hb)
theorem wh_nn (ht : 0 ≤ t) (hb : 0 < b) : 0 ≤ wh t b := by
  have := wq_nn ht hb
  unfold wh; split <;> omega
theorem wh_le (ht : 0 ≤ t) (hb : 0 < b) : wh t b ≤ 9007199254740992 := by
  have := wq_lt ht hb
  unfold wh; split <;> omega
theorem wh_fits (ht : 0 ≤ t) (hb : 0 < b) (h : bits (wh t b) + p2 t b ≤ 1024) : fitsB (red (wh t b) (p2 t b)).1 (red (wh t b) (p2 t b)).2 = true :=
  red_fits (wh_nn ht hb) (wh_le ht hb) p2_ge h
end
end Nu

set_option Elab.async false
set_option linter.all false
set_option maxRecDepth 100000
set_option autoImplicit false
set_option maxHeartbeats 4000000
namespace Rd
open PySem PySem.Spec PyProof.Rows PySem.SeqAt L2
/-! bool - bool -/
theorem sub_bools (a b : Bool) : Gives (Builtin.«int.__sub__» ⟨[.bool a, .bool b], []⟩) (.int ((if a = true then (1 : Int) else 0) - if b = true then (1 : Int) else 0)) :=
  .of_wp fun M A E s Q h => by obtain ⟨hp, g, d, tk, os⟩ := s; wp_walk; exact ⟨_, rfl, h⟩
def rSubB : R2 := fun x y H Q => ∃ a b, x = .bl a ∧ y = .bl b ∧ Q (.int ((if a = true then (1 : Int) else 0) - if b = true then (1 : Int) else 0)) H
theorem op_sub_bb {X : Cx} : OpR X (binaryOp .Sub) rSubB := by
  intro pins s σ H x y v u Q I rx ry h
  obtain ⟨a, b, rfl, rfl, q⟩ := h
  cases rx
  cases ry
  exact binaryOp_gives (op := .Sub) (T := "bool") rfl rfl F.fills_bool_sub F.slot_bool_sub F.entry_int_sub (F.args_int_sub_2 _ _) (sub_bools a b) trivial ⟨.int _, H, I.tok _, ⟨_, rfl⟩, q⟩
theorem w_subB {H : Hp} {Q : VK} {a b : Bool} (q : Q (.int ((if a = true then (1 : Int) else 0) - if b = true then (1 : Int) else 0)) H) : rSubB (.bl a) (.bl b) H Q := ⟨a, b, rfl, rfl, q⟩
/-! == of instances without an __eq__ of their own -/
section
variable {prog : Program} {w : World} {A : Around} {E : Value → Shared → Prop} {s : Shared} {K : PySem.W.Frag} {x y C : Addr} {ox oy : Obj} {od od' : Option Obj}
theorem call_objEqO {Q : Value → Shared → Prop} (X : K.In s.heap) (I : PySem.W.InstAt s.heap x ox C od) (hm : PySem.W.mroIn K C (.type "object") = some true) (hx : s.heap.get? x = some ox) (hy : s.heap.get? y = some oy) (hxy : x ≠ y) (hnt : ox.cls ≠ .type "tuple") (hq : Q .notImplemented s) :
    wpAny (model prog w) A (call (.builtin "object.__eq__") [.ref x, .ref y]) Q E s :=
  wpAny_call (codeAny_call_builtin F.cmp_object.eq.plain F.cmpEntry_eq (PySem.W.check_slot F.cmpKind_eq F.cmpSplit_eq (I.type.andThen (PySem.W.looks_mroIn X hm)) (F.cmpArgs_eq _ _) (objEq_entry_other hxy hx hy hnt hq)))
theorem call_objEqS {Q : Value → Shared → Prop} (X : K.In s.heap) (I : PySem.W.InstAt s.heap x ox C od) (hm : PySem.W.mroIn K C (.type "object") = some true) (hq : Q (.bool true) s) :
    wpAny (model prog w) A (call (.builtin "object.__eq__") [.ref x, .ref x]) Q E s :=
  wpAny_call (codeAny_call_builtin F.cmp_object.eq.plain F.cmpEntry_eq (PySem.W.check_slot F.cmpKind_eq F.cmpSplit_eq (I.type.andThen (PySem.W.looks_mroIn X hm)) (F.cmpArgs_eq _ _) (objEq_entry_same hq)))
theorem rc_other (hu : A.units < cLine) (X : K.In s.heap) (I : PySem.W.InstAt s.heap x ox C od) (I' : PySem.W.InstAt s.heap y oy C od') (hx : s.heap.get? x = some ox) (hy : s.heap.get? y = some oy) (hnt : ox.cls ≠ .type "tuple") (hnt' : oy.cls ≠ .type "tuple") (hxy : x ≠ y)
    (hm : PySem.W.mroIn K C (.type "object") = some true) (hs : PySem.W.findIn K (.ref C) "__eq__" = some (some (.builtin "object.__eq__"))) : RcAt A s (.ref x) (.ref y) false := fun prog w E Q h => by
  have one : wpAny (model prog w) A (tryCompare (.ref x) "__eq__" (.ref y)) (fun r s' => r = none ∧ s' = s) E s := by
    unfold tryCompare
    exact wpAny_bind (HN.ifBound_objEq X I hs (call_objEqO X I hm hx hy hxy hnt (wpAny_pure ⟨rfl, rfl⟩)))
  have two : wpAny (model prog w) A (tryCompare (.ref y) "__eq__" (.ref x)) (fun r s' => r = none ∧ s' = s) E s := by
    unfold tryCompare
    exact wpAny_bind (HN.ifBound_objEq X I' hs (call_objEqO X I' hm hy hx hxy.symm hnt' (wpAny_pure ⟨rfl, rfl⟩)))
  simp only [richCompare, cmpInfo_Eq, oneThing_ref]
  refine wpAny_holding (wpAny_bind (wpAny_cRoomFor hu ?_))
  refine wpAny_bind (I.type.here ?_)
  refine wpAny_bind (I'.type.here ?_)
  rw [if_neg (by simp)]
  refine wpAny_bind (wpAny_pure ?_)
  simp only [Bool.false_eq_true, if_false, Bool.not_false, if_true]
  refine wpAny_bind (m := tryCompare (.ref x) _ (.ref y)) (wpAny_mono one (fun r s1 z => ?_) fun _ _ e => e)
  obtain ⟨z1, z2⟩ := z
  subst z1
  subst z2
  refine wpAny_bind (m := tryCompare (.ref y) _ (.ref x)) (wpAny_mono two (fun r s2 z => ?_) fun _ _ e => e)
  obtain ⟨z1, z2⟩ := z
  subst z1
  subst z2
  exact wpAny_bind (wpAny_rule (wpAny_bind (wpAny_isSame_ref_other hxy hx hy hnt (wpAny_pure h))))
theorem rc_self (hu : A.units < cLine) (X : K.In s.heap) (I : PySem.W.InstAt s.heap x ox C od) (hm : PySem.W.mroIn K C (.type "object") = some true) (hs : PySem.W.findIn K (.ref C) "__eq__" = some (some (.builtin "object.__eq__"))) : RcAt A s (.ref x) (.ref x) true := fun prog w E Q h => by
  have one : wpAny (model prog w) A (tryCompare (.ref x) "__eq__" (.ref x)) (fun r s' => r = some (.bool true) ∧ s' = s) E s := by
    unfold tryCompare
    exact wpAny_bind (HN.ifBound_objEq X I hs (call_objEqS X I hm (wpAny_pure ⟨rfl, rfl⟩)))
  simp only [richCompare, cmpInfo_Eq, oneThing_ref]
  refine wpAny_holding (wpAny_bind (wpAny_cRoomFor hu ?_))
  refine wpAny_bind (I.type.here ?_)
  refine wpAny_bind (I.type.here ?_)
  rw [if_neg (by simp)]
  refine wpAny_bind (wpAny_pure ?_)
  simp only [Bool.false_eq_true, if_false, Bool.not_false, if_true]
  refine wpAny_bind (m := tryCompare (.ref x) _ (.ref x)) (wpAny_mono one (fun r s1 z => ?_) fun _ _ e => e)
  obtain ⟨z1, z2⟩ := z
  subst z1
  subst z2
  exact wpAny_pure h
theorem rc_none2 (hu : A.units < cLine) (X : K.In s.heap) (I : PySem.W.InstAt s.heap x ox C od) (hm : PySem.W.mroIn K C (.type "object") = some true) (hs : PySem.W.findIn K (.ref C) "__eq__" = some (some (.builtin "object.__eq__")))
    (hsub : PySem.W.subIn K (.ref C) (.type "NoneType") = some false) : RcAt A s .none (.ref x) false := fun prog w E Q h => by
  have one : wpAny (model prog w) A (tryCompare (.ref x) "__eq__" .none) (fun r s' => r = none ∧ s' = s) E s := by
    unfold tryCompare
    exact wpAny_bind (HN.ifBound_objEq X I hs (HN.call_objEq X I hm (wpAny_pure ⟨rfl, rfl⟩)))
  have two : wpAny (model prog w) A (tryCompare .none "__eq__" (.ref x)) (fun r s' => r = none ∧ s' = s) E s :=
    wpAny_tryCompare_declines (show s.TypeIs .none "NoneType" from rfl) F.slot_NoneType_eq_refl (call_gives F.slot_NoneType_eq_refl rfl F.entry_NoneType_eq (F.args_NoneType_eq_2 _ _) (NoneType___eq___none_ref_0 x) ⟨rfl, rfl, rfl⟩)
  simp only [richCompare, cmpInfo_Eq]
  refine wpAny_holding (wpAny_bind (wpAny_cRoomFor hu ?_))
  refine wpAny_bind (wpAny_typeOf (show s.TypeIs .none "NoneType" from rfl) ?_)
  refine wpAny_bind (I.type.here ?_)
  rw [if_pos (by simp)]
  refine wpAny_bind ((PySem.W.looks_subIn X hsub).here ?_)
  simp only [Bool.false_eq_true, if_false, Bool.not_false, if_true]
  refine wpAny_bind (m := tryCompare .none _ (.ref x)) (wpAny_mono two (fun r s1 z => ?_) fun _ _ e => e)
  obtain ⟨z1, z2⟩ := z
  subst z1
  subst z2
  refine wpAny_bind (m := tryCompare (.ref x) _ .none) (wpAny_mono one (fun r s2 z => ?_) fun _ _ e => e)
  obtain ⟨z1, z2⟩ := z
  subst z1
  subst z2
  exact wpAny_bind (wpAny_rule (wpAny_bind (wpAny_of_eq (rfl : isSame .none (.ref x) = pure false) (wpAny_pure h))))
end
/-- what the text's class at C must have for the == of object -/
structure ObjC (K : PySem.W.Frag) (C : Addr) : Prop where
  hm : PySem.W.mroIn K C (.type "object") = some true
  hs : PySem.W.findIn K (.ref C) "__eq__" = some (some (.builtin "object.__eq__"))
  hn : PySem.W.subIn K (.ref C) (.type "NoneType") = some false
def InsV (C : Addr) (H : Hp) (x : V) : Prop := ∃ a dx fs, x = .ref a ∧ H a = some (.ins C dx fs)
def rEqO (C : Addr) : R2 := fun x y H Q => (scal x y = true ∨ (InsV C H x ∧ (y = .non ∨ InsV C H y)) ∨ (x = .non ∧ InsV C H y)) ∧ Q (.bl (decide (x = y))) H
theorem op_eqO {X : Cx} {C : Addr} (hu : X.A.units < cLine) (O : ObjC X.K C) : OpR X (compareOp .Eq) (rEqO C) := by
  intro pins s σ H x y v u Q I rx ry h
  obtain ⟨c, q⟩ := h
  rcases c with c | ⟨⟨a, dx, fs, rfl, ha⟩, c⟩ | ⟨rfl, ⟨b, dy, gs, rfl, hb⟩⟩
  · exact op_eq pins s σ H x y v u Q I rx ry ⟨c, q⟩
  · cases rx
    obtain ⟨mA, OA, _⟩ := ins_get I.hok ha
    obtain ⟨od, J, _⟩ := OA.look
    have ga : s.heap.get? a = some (PySem.W.instObj C dx) := OA.obj
    rcases c with rfl | ⟨b, dy, gs, rfl, hb⟩
    · cases ry
      show wpAny (model X.prog X.w) X.A (richCompare .Eq _ _) (EP X pins σ Q) X.xe s
      refine HN.rc_none hu I.kIn J O.hm O.hs X.prog X.w X.xe _ ⟨.bl false, H, I, rfl, ?_⟩
      rw [decide_eq_false (fun e => nomatch e)] at q
      exact q
    · cases ry
      obtain ⟨mB, OB, _⟩ := ins_get I.hok hb
      obtain ⟨od', J', _⟩ := OB.look
      have gb : s.heap.get? b = some (PySem.W.instObj C dy) := OB.obj
      show wpAny (model X.prog X.w) X.A (richCompare .Eq _ _) (EP X pins σ Q) X.xe s
      by_cases hab : a = b
      · subst hab
        refine rc_self hu I.kIn J O.hm O.hs X.prog X.w X.xe _ ⟨.bl true, H, I, rfl, ?_⟩
        rw [decide_eq_true rfl] at q
        exact q
      · refine rc_other hu I.kIn J J' ga gb (by intro e; cases e) (by intro e; cases e) hab O.hm O.hs X.prog X.w X.xe _ ⟨.bl false, H, I, rfl, ?_⟩
        rw [decide_eq_false (fun e => hab (V.ref.inj e))] at q
        exact q
  · cases rx
    cases ry
    obtain ⟨mB, OB, _⟩ := ins_get I.hok hb
    obtain ⟨od', J', _⟩ := OB.look
    show wpAny (model X.prog X.w) X.A (richCompare .Eq _ _) (EP X pins σ Q) X.xe s
    refine rc_none2 hu I.kIn J' O.hm O.hs O.hn X.prog X.w X.xe _ ⟨.bl false, H, I, rfl, ?_⟩
    rw [decide_eq_false (fun e => nomatch e)] at q
    exact q
end Rd

set_option Elab.async false
set_option linter.all false
set_option maxRecDepth 100000
set_option autoImplicit false
set_option maxHeartbeats 4000000
namespace Rd
open PySem PySem.Spec PyProof.Rows L2
section
variable {σ : L2.St} {H : Hp} {Q : VK} {K : PySem.W.Frag}
theorem w_int1 {R : Int → Prop} {S : Bool → Prop} {i : Int} (q : R i) : (∃ i', [V.int i] = [V.int i'] ∧ R i') ∨ (∃ k, [V.int i] = [V.bl k] ∧ S k) := .inl ⟨i, rfl, q⟩
theorem w_intB {R : Int → Prop} {S : Bool → Prop} {k : Bool} (q : S k) : (∃ i', [V.bl k] = [V.int i'] ∧ R i') ∨ (∃ k', [V.bl k] = [V.bl k'] ∧ S k') := .inr ⟨k, rfl, q⟩
theorem w_gsub {to ti : TE} {t : TSet} {v : V} {Q : L2.St → Hp → Prop} (h : to σ H fun o H1 => ti σ H1 fun i H2 => t o i v H2 fun H3 => Q σ H3) : gSub to ti t v σ H Q := h
theorem w_setL {p : Addr} {xs : List V} {k : Int} {j : Nat} {v : V} {Q : Hp → Prop} (h : H p = some (.lst xs)) (hj : ixN xs.length k = some j) (q : Q (upd H p (.lst (xs.set j v)))) : rSetL (.ref p) (.int k) v H Q := ⟨p, xs, k, j, rfl, rfl, h, hj, q⟩
theorem w_for {wi : TI} {g : TG} {tb : TS} {D : Ends} (h : wi σ H fun J H1 => ∃ W : Nat → Nat → L2.St → Hp → Prop, (∃ m, W 0 m σ H1) ∧ ∀ i m σ H, W i m σ H →
  (J.stop i H ∧ D.nx σ H) ∨ (J.go i H ∧ ∃ N : L2.St → Hp → Prop, (∀ σ' H', N σ' H' → ∃ m', m' < m ∧ W (i + 1) m' σ' H') ∧ ∀ x H', J.yld i H x H' → g x σ H' fun σ2 H2 => tb { D with nx := N, ct := N, bk := D.nx } σ2 H2)) : tFor wi g tb D σ H := h
def Rng1K (R : It → Hp → Prop) (j : Int) (H : Hp) : Prop := -(2 ^ 62) ≤ j ∧ j < 2 ^ 62 ∧ R (Itr 0 j.toNat) H
theorem w_rng1 {ta : TA} {R : It → Hp → Prop} (h : ta σ H fun vs H1 => ∃ j : Int, vs = [.int j] ∧ -(2 ^ 62) ≤ j ∧ j < 2 ^ 62 ∧ R (Itr 0 j.toNat) H1) : iRng1 ta σ H R := h
theorem w_iList {tl : TE} {R : It → Hp → Prop} (h : tl σ H fun x H1 => ∃ a, x = .ref a ∧ (∃ xs, SqL K H1 a xs) ∧ R (Itl K a) H1) : iList K tl σ H R := h
theorem w_iTup {tl : TE} {R : It → Hp → Prop} (h : tl σ H fun x H1 => ∃ a, x = .ref a ∧ (∃ xs, SqT K H1 a xs) ∧ R (Itt K a) H1) : iTup K tl σ H R := h
theorem w_rng1I {R : Int → Prop} {j : Int} (h1 : -(2 ^ 62) ≤ j) (h2 : j < 2 ^ 62) (q : R j) : ∃ j' : Int, [V.int j] = [V.int j'] ∧ -(2 ^ 62) ≤ j' ∧ j' < 2 ^ 62 ∧ R j' := ⟨j, rfl, h1, h2, q⟩
theorem w_iListI {R : Addr → Prop} {a : Addr} {xs : List V} (h : H a = some (.lst xs)) (q : R a) : ∃ a', V.ref a = .ref a' ∧ (∃ xs, SqL K H a' xs) ∧ R a' := ⟨a, rfl, ⟨xs, SqL.of h⟩, q⟩
theorem w_iTupI {R : Addr → Prop} {a : Addr} {xs : List V} (h : H a = some (.tup xs)) (q : R a) : ∃ a', V.ref a = .ref a' ∧ (∃ xs, SqT K H a' xs) ∧ R a' := ⟨a, rfl, ⟨xs, SqT.of h⟩, q⟩
/-- xs + ys, lists -/
theorem w_cat {l b : Addr} {xs zs : List V} (h : H l = some (.lst xs)) (h' : H b = some (.lst zs)) (hz : xs.length + zs.length ≤ sizeLine) (q : ∀ p H', Same H H' → H p = none → H' p = some (.lst (xs ++ zs)) → Q (.ref p) H') : rCat (.ref l) (.ref b) H Q :=
  ⟨l, b, xs, zs, rfl, rfl, h, h', hz, fun p hp => q p _ (same_upd hp) hp upd_same⟩
end
theorem cmulW {i j : Int} (h : (Builtin.Int.intBits i : Int) + (Builtin.Int.intBits j : Int) ≤ 134217728) : CMulX i j := h
theorem cpow {i j : Int} (h0 : 0 ≤ j) (h1 : j ≤ 1000000) (h2 : i.natAbs < 2 ^ 64) : CPow i j := ⟨h0, h1, h2⟩
end Rd

set_option Elab.async false
set_option linter.all false
set_option maxRecDepth 100000
set_option autoImplicit false
set_option maxHeartbeats 4000000
namespace Rd
open PySem PySem.Spec PyProof.Rows L2
theorem pe_nev {X : Cx} {e : Expr} : PE X e (fun _ _ _ => False) := ⟨fun _ _ _ _ _ _ h => h.elim⟩
section
variable {σ : L2.St} {H : Hp}
theorem w_while {tc : TT} {tb : TS} {D : Ends} (W : Nat → L2.St → Hp → Prop) {m : Nat} (h0 : W m σ H)
    (h : ∀ m σ H, W m σ H → tc σ H fun b H1 => if b = true then ∃ N : L2.St → Hp → Prop, (∀ σ' H', N σ' H' → ∃ m', m' < m ∧ W m' σ' H') ∧ tb { D with nx := N, ct := N, bk := D.nx } σ H1 else D.nx σ H1) : tWhile tc tb D σ H := ⟨W, ⟨m, h0⟩, h⟩
theorem w_turn {W : Nat → L2.St → Hp → Prop} {m : Nat} {tb : TS} {D : Ends} (h : tb { D with nx := fun σ' H' => ∃ m', m' < m ∧ W m' σ' H', ct := fun σ' H' => ∃ m', m' < m ∧ W m' σ' H', bk := D.nx } σ H) : ∃ N : L2.St → Hp → Prop, (∀ σ' H', N σ' H' → ∃ m', m' < m ∧ W m' σ' H') ∧ tb { D with nx := N, ct := N, bk := D.nx } σ H := ⟨_, fun _ _ z => z, h⟩
end
/-- a if c else b, as a test -/
def tIfT (tc t u : TT) : TT := fun σ H Q => tc σ H fun c H1 => if c = true then t σ H1 Q else u σ H1 Q
theorem pt_ifExp {X : Cx} {c a b : Expr} {pos : Pos} {tc t u : TT} (hc : PT X c tc) (ha : PT X a t) (hb : PT X b u) : PT X (.IfExp c a b pos) (tIfT tc t u) := by
  refine ⟨fun pins s σ H Q I h => ?_⟩
  have e : ∀ wh, isTrue (.IfExp c a b pos) X.env wh = (do if ← isTrue c X.env (eval c X.env) then isTrue a X.env (eval a X.env) else isTrue b X.env (eval b X.env)) := fun wh => by rfl
  rw [e]
  refine wpAny_bind (thn (hc.run pins s σ H _ I h) fun d s1 ⟨H1, I1, q1⟩ => ?_)
  cases d with
  | true => exact ha.run pins s1 σ H1 Q I1 (by rw [if_pos rfl] at q1; exact q1)
  | false => exact hb.run pins s1 σ H1 Q I1 (by rw [if_neg Bool.false_ne_true] at q1; exact q1)
section
variable {σ : L2.St} {H : Hp}
theorem w_ifT {tc t u : TT} {Q : Bool → Hp → Prop} (h : tc σ H fun c H1 => if c = true then t σ H1 Q else u σ H1 Q) : tIfT tc t u σ H Q := h
theorem w_chain {r r' : R2} {ta tb tc : TE} {Q : VK} (h : ta σ H fun x H1 => tb σ H1 fun y H2 => r x y H2 fun z H3 => ∃ k, z = .bl k ∧ if k = true then tc σ H3 fun y' H4 => r' y y' H4 Q else Q (.bl false) H3) : tChain r r' ta tb tc σ H Q := h
/-- data, compared -/
theorem w_eqD {K : PySem.W.Frag} {x y : V} {d e : PyData} {Q : VK} (h1 : Dp K H x d) (h2 : Dp K H y e) (s1 : SeqAt.shaped d = true) (s2 : SeqAt.shaped e = true) (q : Q (.bl (PyData.eqv d e)) H) : rEqD K x y H Q := ⟨d, e, h1, h2, s1, s2, q⟩
end
end Rd

set_option Elab.async false
set_option linter.all false
set_option maxRecDepth 100000
set_option autoImplicit false
set_option maxHeartbeats 4000000
namespace Rd
open PySem PySem.Spec PyProof.Rows L2
/-- list + list, each as it stands, ours or the document's -/
def rCatS (K : PySem.W.Frag) : R2 := fun x y H Q => ∃ l b xs zs, x = .ref l ∧ y = .ref b ∧ SqL K H l xs ∧ SqL K H b zs ∧ xs.length + zs.length ≤ sizeLine ∧ ∀ p, H p = none → Q (.ref p) (upd H p (.lst (xs ++ zs)))
theorem op_catS {X : Cx} : OpR X (binaryOp .Add) (rCatS X.K) := by
  intro pins s σ H x y v u Q I rx ry h
  obtain ⟨l, b, xs, zs, rfl, rfl, hH, hB, hz, q⟩ := h
  cases rx
  cases ry
  obtain ⟨its, r, e, z⟩ := I.list hH
  obtain ⟨its2, r2, e2, z2⟩ := I.list hB
  have l1 := r.length
  have l2 := r2.length
  obtain ⟨⟨cls, dd, data, sl⟩, n, ho, hc, hd, hda⟩ := e
  obtain ⟨⟨cls2, dd2, data2, sl2⟩, n2, ho2, hc2, hd2, hda2⟩ := e2
  simp only at hc hd hda hc2 hd2 hda2
  subst hc hd hda hc2 hd2 hda2
  have ea : its.toArray ++ its2.toArray = (its ++ its2).toArray := by simp
  refine concat_meets ⟨_, ho, rfl⟩ ⟨_, ho2, rfl⟩ noFill_list_add seq_list_add PySem.F.slot_list_add PySem.F.entry_list_add (PySem.F.args_list_add_2 _ _) (list_addW l b its.toArray its2.toArray n n2 none none sl sl2 (by rw [List.size_toArray, List.size_toArray]; omega)) ⟨ho, ho2, ?_⟩
  rw [ea]
  exact ⟨.ref _, _, I.lnew (t' := s.toks) (r.append r2) (by rw [List.length_append]; omega), rfl, q _ I.fresh⟩
section
variable {σ : L2.St} {H : Hp} {Q : VK} {K : PySem.W.Frag}
theorem w_catS {l b : Addr} {xs zs : List V} (h : SqL K H l xs) (h' : H b = some (.lst zs)) (hz : xs.length + zs.length ≤ sizeLine) (q : ∀ p H', Same H H' → H p = none → H' p = some (.lst (xs ++ zs)) → Q (.ref p) H') : rCatS K (.ref l) (.ref b) H Q :=
  ⟨l, b, xs, zs, rfl, rfl, h, SqL.of h', hz, fun p hp => q p _ (same_upd hp) hp upd_same⟩
theorem w_sl {r : V → Option Int → Option Int → Hp → VK → Prop} {te : TE} {tl th : TO} (h : te σ H fun x H1 => tl σ H1 fun l H2 => th σ H2 fun u H3 => r x l u H3 Q) : tSl r te tl th σ H Q := h
theorem w_slL {a : Addr} {xs : List V} {lo hi : Option Int} (h : H a = some (.lst xs)) (q : ∀ p H', Same H H' → H p = none → H' p = some (.lst (cutV xs lo hi)) → Q (.ref p) H') : rSlL K (.ref a) lo hi H Q :=
  ⟨a, xs, rfl, SqL.of h, fun p hp => q p _ (same_upd hp) hp upd_same⟩
theorem w_noPart {Q : Option Int → Hp → Prop} (q : Q none H) : tNoPart σ H Q := q
theorem w_part {te : TE} {Q : Option Int → Hp → Prop} (h : te σ H fun x H' => ∃ i, x = .int i ∧ Q (some i) H') : tPart te σ H Q := h
theorem w_partI {R : Int → Prop} {i : Int} (h : R i) : ∃ j, V.int i = .int j ∧ R j := ⟨i, rfl, h⟩
theorem _root_.L2.SqL.same {a : Addr} {xs : List V} {H' : Hp} (h : SqL K H a xs) (s : Same H H') : SqL K H' a xs := by
  rcases h with h | h
  · rcases h with h | ⟨o, h⟩
    · exact .inl (.inl (s _ _ h))
    · exact .inl (.inr ⟨o, s _ _ h⟩)
  · exact .inr h
theorem cut_mem {xs : List V} {lo hi : Option Int} {x : V} (h : x ∈ cutV xs lo hi) : x ∈ xs := List.mem_of_mem_drop (List.mem_of_mem_take h)
end
theorem w_par3 {i j l : Nat} {ta : TA} {D : Ends} {σ : L2.St} {H : Hp} (h : ta σ H fun vs H1 => ∃ v1 v2 v3, vs = [v1, v2, v3] ∧ D.nx (((σ.set i (some v1)).set j (some v2)).set l (some v3)) H1) : tPar3 i j l ta D σ H := h
end Rd
namespace Nu
open PySem L2
theorem p70 : (2 ^ 70 : Nat) = 1180591620717411303424 := by decide
theorem ixN_nat {n : Nat} {r : Int} (h0 : 0 ≤ r) (h1 : r < n) : ixN n r = some r.toNat := by
  unfold ixN
  rw [if_pos h0, if_pos h1]
end Nu

set_option Elab.async false
set_option linter.all false
set_option maxRecDepth 100000
set_option autoImplicit false
set_option maxHeartbeats 4000000
/-! Own classes of exceptions over ArithmeticError, whose __init__ calls the base's and stores. -/
namespace Rd
open PySem PySem.Spec PyProof.Rows L2
abbrev aeMro : List Value := [.type "ArithmeticError", .type "Exception", .type "BaseException", .type "object"]
/-- what the text's class at C must have -/
structure AexC (K : PySem.W.Frag) (C : Addr) : Prop where
  made : PySem.W.excInitIn K C aeMro "ArithmeticError.__new__" = true
  over : PySem.W.excOver K C aeMro = true
  hdC : PySem.W.hasDictIn K C = true
  sa : PySem.W.findIn K (.ref C) "__setattr__" = some (some (.builtin "object.__setattr__"))
  exC : PySem.W.subIn K (.ref C) (.type "BaseException") = some true
  tyC : PySem.W.typeIn K (.ref C) = some (.type "type")
  kC : PySem.W.keepIn K (.ref C) = true
theorem aex_taker {K : PySem.W.Frag} {C : Addr} {f : Str} (n : PySem.W.findIn K (.ref C) f = some none) : PySem.W.takerIn K C f = some none := NoAttr.taker n
section
variable {X : Cx} {pins : List (Addr × Obj)} {σ : L2.St} {H : Hp} {s : Shared} {a C dx : Addr} {f : Str} {y : V} {u : Value} {fs : List (Str × V)} {Q : Unit → Shared → Prop} {E : Value → Shared → Prop} {A : Around}
theorem ast_new (T : AexC X.K C) (I : Inv X pins σ H s) (e : H a = some (exo a C none)) (hno : PySem.W.findIn X.K (.ref C) f = some none) (ry : RelV y u)
    (h : ∀ dx s', H dx = none → dx ≠ a → Inv X pins σ (upd (upd H a (exo a C (some dx))) dx (exd dx [(f, y)])) s' → Q () s') : wpAny (model X.prog X.w) A (setAttr (.ref a) f u) Q E s := by
  obtain ⟨t1, ho⟩ := exo_at I.hok e
  obtain ⟨cd, hc, hd'⟩ := PySem.W.any_some T.hdC
  obtain ⟨hp, g, d, t, os⟩ := s
  have an : a ≠ hp.objs.size := Nat.ne_of_lt (Heap.lt_size ho)
  refine PySem.W.set_plain I.kIn (ox := PySem.W.excObj C t1 none .none) (od := none) ⟨ho, rfl, rfl, trivial⟩ T.sa (PySem.W.osa_openX (od := none) PySem.F.store_ArithmeticError I.kIn ⟨ho, rfl, rfl, trivial⟩ T.over (aex_taker hno) fun b => ?_)
  refine wpAny_bind (wpAny_pure (wpAny_bind (PySem.W.instanceDict_exc (c2 := Value.none) ho (PySem.W.looks_clsIn I.kIn hc) hd' ?_)))
  refine PySem.HandSPX.store_in_new (dx := hp.objs.size) ?_ fun h' tk' hn hs => ?_
  · exact ⟨_, #[], _, (Heap.get?_update_ne _ _ _ _ an.symm).trans (Heap.get?_push_at rfl rfl), rfl, fun e he => absurd he (by simp), fun _ => rfl⟩
  · have hnd : H hp.objs.size = none := I.hok.fresh (Nat.le_refl _)
    have h1a : (hp.update a fun o => { o with dict := some hp.objs.size }).get? a = some (PySem.W.excObj C t1 (some hp.objs.size) .none) := Heap.get?_update_self _ ho rfl
    have J1 := I.write (t' := tk') (x := a) (e := a) (o := exo a C (some hp.objs.size)) (h' := hp.update a fun o => { o with dict := some hp.objs.size }) (by rw [e]; exact True.intro) (.inl rfl) (fun b o hb q => (Heap.get?_update_ne _ _ _ _ hb).trans q) ⟨_, h1a⟩ (exo_ok h1a)
    refine h hp.objs.size _ hnd an.symm (J1.laid (t' := tk') (a := hp.objs.size) (o := exd hp.objs.size [(f, y)]) (h' := h') (fun b o q => ?_) (by simp) (exd_ok hn (relO_put (fs := []) ry fun g => True.intro)))
    by_cases hb : b = a
    · subst hb
      refine (hs.2 _ an).trans ((Heap.get?_update_self _ (Heap.get?_push_of_some _ ho) rfl).trans ?_)
      exact h1a.symm.trans q
    · have q0 : hp.get? b = some o := (Heap.get?_update_ne _ _ _ _ hb).symm.trans q
      exact (hs.2 b (Nat.ne_of_lt (Heap.lt_size q0))).trans ((Heap.get?_update_ne _ _ _ _ hb).trans (Heap.get?_push_of_some _ q0))
theorem ast_old (T : AexC X.K C) (I : Inv X pins σ H s) (e : H a = some (exo a C (some dx))) (ed : H dx = some (exd dx fs)) (hl : fs.length ≤ 900) (hno : PySem.W.findIn X.K (.ref C) f = some none) (ry : RelV y u)
    (h : ∀ s', Inv X pins σ (upd H dx (exd dx ((f, y) :: fs))) s' → Q () s') : wpAny (model X.prog X.w) A (setAttr (.ref a) f u) Q E s := by
  obtain ⟨t1, ho⟩ := exo_at I.hok e
  obtain ⟨mA, hns, rel⟩ := exd_at I.hok ed
  have hw := within_of rel
  obtain ⟨cd, hc, hd'⟩ := PySem.W.any_some T.hdC
  obtain ⟨hp, g, d, t, os⟩ := s
  obtain ⟨oD, _, _, hoD, _, _⟩ := hns.count hw
  refine PySem.W.set_plain I.kIn (ox := PySem.W.excObj C t1 (some dx) .none) (od := some oD) ⟨ho, rfl, rfl, hoD⟩ T.sa (PySem.W.osa_openX (od := some oD) PySem.F.store_ArithmeticError I.kIn ⟨ho, rfl, rfl, hoD⟩ T.over (aex_taker hno) fun b => ?_)
  refine wpAny_bind (wpAny_pure (wpAny_bind (wpAny_bind (wpAny_loadPart ho (wpAny_bind ((PySem.W.looks_clsIn I.kIn hc).at ?_))))))
  rw [hd']
  refine wpAny_pure (a := some dx) (PySem.OEX.store_in_old hns hw (by rw [List.length_map]; omega) fun h' tk' hn hs => ?_)
  have hd : ∃ o, h'.get? dx = some o := by
    obtain ⟨o, _, _, e', _⟩ := hn
    exact ⟨o, e'⟩
  exact h _ (I.write (t' := tk') (x := dx) (e := dx) (o := exd dx ((f, y) :: fs)) (by rw [ed]; exact True.intro) (.inl rfl) (fun b o hb q => (hs.2 b hb).trans q) hd (exd_ok hn (relO_put ry rel)))
/-- the base's __init__: nothing of it is told -/
theorem ainit_ok {us : List Value} {Q : Value → Shared → Prop} (T : AexC X.K C) (I : Inv X pins σ H s) (e : H a = some (exo a C none)) (hl : us.length ≤ sizeLine) (h : ∀ s', Inv X pins σ H s' → Q .none s') :
    wpAny (model X.prog X.w) A (call (.builtin "ArithmeticError.__init__") (.ref a :: us)) Q E s := by
  obtain ⟨nm, N, q, bs, bm, hdct, sn, sub, ab, col, dd, k0, k1, k2, k3, k5, hC, hT⟩ := PySem.W.excInit_of I.kIn T.made
  obtain ⟨t1, ho⟩ := exo_at I.hok e
  obtain ⟨hp, g, d, t, os⟩ := s
  refine wpAny_call (PySem.HandSPX.init_base F.excBase_ArithmeticError hT hC ho hl fun h' t2 k hx => ?_)
  have J := I.write (t' := t) (x := a) (e := a) (o := exo a C none) (by rw [e]; exact True.intro) (.inl rfl) k ⟨_, hx⟩ (exo_ok hx)
  rw [show upd H a (exo a C none) = H from funext fun b => by by_cases hb : b = a <;> simp [upd, hb, e]] at J
  exact h _ J
end
end Rd
namespace Rd
open PySem PySem.Spec PyProof.Rows L2
theorem typ_AE : typeOf (.type "ArithmeticError") = pure (.type "type") := by kernel_rfl
/-- ArithmeticError.__init__(self, ..) -/
def tAI (K : PySem.W.Frag) (ta : TA) : TE := fun σ H Q => ta σ H fun vs H1 => ∃ (a C : Addr) (ws : List V), vs = .ref a :: ws ∧ ws.length ≤ 1000 ∧ AexC K C ∧ H1 a = some (exo a C none) ∧ Q .non H1
/-- self.f = e, self an exception that is being made -/
def tAst (K : PySem.W.Frag) (f : Str) (to te : TE) : TS := fun D σ H => te σ H fun y H1 => to σ H1 fun x H2 => ∃ a C : Addr, x = .ref a ∧ AexC K C ∧ PySem.W.findIn K (.ref C) f = some none ∧
  ((H2 a = some (exo a C none) ∧ ∀ dx, H2 dx = none → dx ≠ a → D.nx σ (upd (upd H2 a (exo a C (some dx))) dx (exd dx [(f, y)]))) ∨
    ∃ (dx : Addr) (fs : List (Str × V)), H2 a = some (exo a C (some dx)) ∧ H2 dx = some (exd dx fs) ∧ fs.length ≤ 900 ∧ D.nx σ (upd H2 dx (exd dx ((f, y) :: fs))))
section
variable {X : Cx} {o e : Expr} {es : List Expr} {to te : TE} {ta : TA} {f : Str} {p p' p1 p2 pos : Pos}
theorem pe_ainit {pl : Sem Bool} (hg : Gl X "ArithmeticError") (hm : X.mg "ArithmeticError" = none) (vV : PySem.W.findCls X.K (.type "ArithmeticError") (.type "type") "__init__" = some (.val (.builtin "ArithmeticError.__init__"))) (ha : PA X (e :: es) ta)
    (hc : eval (.Call (.Attribute (.Name "ArithmeticError" p1) "__init__" p2) (e :: es) [] pos) X.env = (do
      let ov ← eval (.Name "ArithmeticError" p1) X.env
      standAt p2.atName
      let (f, first) ← holding [ov] (getMethod ov "__init__" pl)
      callWith pos f first (backTo pos (starEach (e :: es) X.env)) (backToKw pos (keywordEach [] X.env))) := by rfl)
    (he : starEach (e :: es) X.env = (false, eval e X.env) :: starEach es X.env := by rfl) (hpl : (backTo pos (starEach es X.env)).any (·.1) = false := by rfl) :
    PE X (.Call (.Attribute (.Name "ArithmeticError" p1) "__init__" p2) (e :: es) [] pos) (tAI X.K ta) := by
  refine ⟨fun pins s σ H Q I h => PySem.W.methodCall_KW (ld_blt I hg hm PyProof.Rows.Boot.«ArithmeticError» ?_ (by decide) (by decide)) hc⟩
  obtain ⟨m, fr⟩ := I.fr
  refine PySem.W.method_type fr I.ok.mod.kin typ_AE (by decide +kernel) vV (by decide +kernel) ?_
  refine PyProof.Rows.callWith_method1 (thn (ha.run pos pins _ σ H _ (I.tok _) h) fun us s1 ⟨vs, H1, I1, r1, a, C, ws, ev, hl, T, ea, q⟩ => ?_) he hpl
  subst ev
  cases r1 with
  | @cons _ u0 _ ur ra rw' =>
    obtain rfl : u0 = Value.ref a := ra
    exact ainit_ok T I1 ea (by rw [← Paired.length rw', sizeLine_eq]; omega) fun s' J => ⟨.non, H1, J, rfl, q⟩
theorem ps_ast (ho : PE X o to) (he : PE X e te) (hs : swapsWith e (some (.Attribute o f p')) pos.line X.env = pure false := by rfl) : PS X (.Assign [.Attribute o f p'] e pos) (tAst X.K f to te) := by
  refine ⟨fun pins s σ H D I h => plainObj_wpAny_Assign_Attribute (thn (he.run pins s σ H _ I h) fun v s1 ⟨y, H1, I1, r1, q1⟩ => thn (ho.run pins s1 σ H1 _ I1 q1) fun u s2 ⟨x, H2, I2, r2, a, C, ex, T, hno, q⟩ => ?_) hs⟩
  subst ex
  obtain rfl : u = Value.ref a := r2
  rcases q with ⟨ea, q⟩ | ⟨dx, fs, ea, ed, hl, q⟩
  · exact ast_new T I2 ea hno r1 fun dx s' n ne J => ⟨σ, _, J, q dx n ne⟩
  · exact ast_old T I2 ea ed hl hno r1 fun s' J => ⟨σ, _, J, q⟩
/-- C(e, ..), C over ArithmeticError with its own __init__ -/
theorem pmk_aex {CX : CXT} {x : Str} {C fI : Addr} {k : Nat} {fd : FuncData} {ps : List Str} {sp : Sp} {ds : List Value} {dvs : List V} (T : AexC X.K C) (iC : PySem.W.findIn X.K (.ref C) "__init__" = some (some (.ref fI))) (tI : PySem.W.typeIn X.K (.ref fI) = some (.type "function"))
    (F1 : FnOk X.prog X.w X.K X.mg X.base CX k fI fd ps sp) (hr : Room (k + 1) X.A) (hb : Binds X.K fd ps ds) (hd : Vals dvs ds) (hx : Passes CX X (fun _ _ _ => False)) (hg : Gl X x) (hm : X.mg x = some (.ref C)) (ha : PA X (e :: es) ta)
    (hdb : (x == ("__debug__" : Str)) = false := by decide) (he : starEach (e :: es) X.env = (false, eval e X.env) :: starEach es X.env := by rfl) (hpl : (backTo pos (starEach es X.env)).any (·.1) = false := by rfl) :
    PMk X (.Call (.Name x p) (e :: es) [] pos) (tMkO C sp dvs ta) := by
  intro pins s σ H Q I h
  refine wpAny_Call_Name_kw (ld_glob I hg hm (PySem.W.callWith_K (h₀ := X.base) I.ok.mod.kin T.kC (thn (ha.run pos pins s σ H _ I h) fun us s1 ⟨vs, H1, I1, r1, hz, q1⟩ => ⟨I1.kIn, ?_⟩) he hpl) hdb)
  obtain ⟨nm, N, q, bs, bm, hdct, sn, sub, ab, col, dd, k0, k1, k2, k3, k5, hC, hT⟩ := PySem.W.excInit_of I1.kIn T.made
  show wpAny _ _ (call (.ref C) us) _ _ _
  obtain ⟨hp, g, dr, tk, os⟩ := s1
  have hsz : hp.objs.size ≤ hp.objs.size + 1 := Nat.le_succ _
  have hq := q1 (hp.objs.size + 1) (I1.hok.fresh hsz)
  have kk : ∀ b o, hp.get? b = some o → ((hp.push (PySem.W.kdv_tup us)).push (PySem.HandSPX.excO C hp.objs.size)).get? b = some o := fun b o z => Heap.get?_push_of_some _ (Heap.get?_push_of_some _ z)
  have I2 := I1.laid (t' := tk) (a := hp.objs.size + 1) (o := exo (hp.objs.size + 1) C none) (h' := (hp.push (PySem.W.kdv_tup us)).push (PySem.HandSPX.excO C hp.objs.size)) kk hsz (exo_ok (by heap_get))
  have r2 : Vals (V.ref (hp.objs.size + 1) :: (vs ++ dvs)) (Value.ref (hp.objs.size + 1) :: (us ++ ds)) := .cons rfl (r1.append hd)
  have hl : (Value.ref (hp.objs.size + 1) :: us ++ ds).length = ps.length := (r2.length.symm.trans (F1.len _ _ _ _ hq))
  refine wpAny_call (PySem.HandSPX.call_own F.excBase_ArithmeticError hT hC (PySem.W.looks_findIn I1.kIn iC) (fun self => PySem.W.bind_fn I1.kIn self tI) (by rw [← Paired.length r1, sizeLine_eq]; omega)
    (codeAny_mono (F1.run _ X.stack _ _ ⟨Value.ref (hp.objs.size + 1) :: us, []⟩ (Value.ref (hp.objs.size + 1) :: (us ++ ds)) _ _ (fun _ _ _ => False) (hr.make C us []) (I2.env0.make C us []) (hb _ (Value.ref (hp.objs.size + 1) :: us) I2.kIn hl) r2 hq) fun r s' hq' => ?_))
  match r, hq' with
  | .error er, hq' => exact hx pins σ _ _ er s' I2 hq'
  | .ok (.ret u), hq' =>
    obtain ⟨v, H2, os2, bare2, un2, hok2, rv, ev, d, fs, ea, ed, hd1, q2⟩ := hq'
    subst ev
    obtain ⟨h2, g2, d2, t2, os'⟩ := s'
    exact ⟨rv, mk_end (raises_own T.exC T.tyC) I1 hsz kk un2 hok2 os2 bare2 ea ed hd1 q2⟩
  | .ok .next, hq' => exact False.elim hq'
  | .ok .brk, hq' => exact False.elim hq'
  | .ok .cont, hq' => exact False.elim hq'
end
end Rd

set_option Elab.async false
set_option linter.all false
set_option maxRecDepth 100000
set_option autoImplicit false
set_option maxHeartbeats 4000000
/-! Thrown(value): its own __init__, raised, caught, its field read. -/
namespace Rd
open PySem PySem.Spec PyProof.Rows L2
/-- a statement, an expression that is never reached -/
theorem pe_never {X : Cx} {e : Expr} : PE X e (fun _ _ _ => False) := ⟨fun _ _ _ _ _ _ h => h.elim⟩
def thrFs (v : V) : List (Str × V) := [("level", .int 1), ("value", v)]
def spThr (C : Addr) : Sp := fun vs H Q _ => ∃ x v, vs = [.ref x, v, .int 1] ∧ H x = some (exo x C none) ∧
  ∀ d, H d = none → d ≠ x → Q .non (upd (upd (upd H x (exo x C (some d))) d (exd d [("value", v)])) d (exd d (thrFs v)))
/-- the class Thrown -/
structure KnTh (P : Program) (w : World) (K : PySem.W.Frag) (mg : Str → Option Value) (base : Heap) (C : Addr) : Prop where
  ex : ∃ f fd ds, mg "Thrown" = some (.ref C) ∧ AexC K C ∧ PySem.W.findIn K (.ref C) "__init__" = some (some (.ref f)) ∧ PySem.W.typeIn K (.ref f) = some (.type "function") ∧ Vals [V.int 1] ds ∧
    Binds K fd ["self", "value", "level"] ds ∧ FnOk P w K mg base CX0 1 f fd ["self", "value", "level"] (spThr C)
def tThr (C : Addr) (ta : TA) (W : WX) : TS := fun _ σ H => tMkO C (spThr C) [.int 1] ta σ H fun cls d H' => W cls d σ H'
section
variable {X : Cx} {C : Addr} {j : Nat} {a : Expr} {es : List Expr} {ta : TA} {p pos pos2 : Pos} {W : WX} {x : Str} {ps : List Str} {sp : Sp} {k : Nat}
theorem ps_thr (hc : X.calm = true) (h : KnTh X.prog X.w X.K X.mg X.base C) (hr : Room j X.A) (tk : Takes X W) (ha : PA X [a] ta) (hj : 2 ≤ j := by decide) (hg : Gl X "Thrown" := by rfl)
    (he : starEach (a :: []) X.env = (false, eval a X.env) :: starEach [] X.env := by rfl) (hpl : (backTo pos (starEach [] X.env)).any (·.1) = false := by rfl) :
    PS X (.Raise (some (.Call (.Name "Thrown" p) [a] [] pos)) none pos2) (tThr C ta W) := by
  obtain ⟨f, fd, ds, m, T, iC, tI, hd, hb, F⟩ := h.ex
  exact ps_raise hc tk (pmk_aex T iC tI F (hr.mono hj) hb hd pass0 hg m ha (by decide) he hpl)
/-- f(e, ..), f may raise -/
theorem pkX (h : Kn X.prog X.w X.K X.mg X.base (L2.CX X.prog X.w) k x ps sp) (hr : Room j X.A) (tk : Takes X W) (ha : PA X (a :: es) ta) (hj : k ≤ j := by decide) (hg : Gl X x := by rfl) (hdb : (x == ("__debug__" : Str)) = false := by decide)
    (he : starEach (a :: es) X.env = (false, eval a X.env) :: starEach es X.env := by rfl) (hpl : (backTo pos (starEach es X.env)).any (·.1) = false := by rfl) : PE X (.Call (.Name x p) (a :: es) [] pos) (tCallS sp (WE W) ta) := by
  obtain ⟨f, fd, m, kp, b, F⟩ := h.ex
  exact pe_callS F (hr.mono hj) hg m kp b (fun σ => passAt tk σ) ha hdb he hpl
end
section
variable {σ : L2.St} {H : Hp} {C : Addr} {W : WX} {D : Ends}
def MkOK (C : Addr) (sp : Sp) (dvs vs : List V) (H1 : Hp) (Q : XK) : Prop := vs.length ≤ 1000 ∧ ∀ a, H1 a = none → sp (.ref a :: (vs ++ dvs)) (upd H1 a (exo a C none))
  (fun v H2 => v = .non ∧ ∃ (d : Addr) (fs : List (Str × V)), H2 a = some (exo a C (some d)) ∧ H2 d = some (exd d fs) ∧ H1 d = none ∧ Q (.ref C) (some d) (upd (del H2 a) d (.xd fs))) (fun _ _ _ => False)
theorem w_thr {ta : TA} (h : ta σ H fun vs H1 => MkOK C (spThr C) [.int 1] vs H1 fun cls d H' => W cls d σ H') : tThr C ta W D σ H := h
theorem w_thrI {v : V} {Q : XK} (q : ∀ d H', Same H H' → H d = none → H' d = some (.xd (thrFs v)) → Q (.ref C) (some d) H') : MkOK C (spThr C) [.int 1] [v] H Q := by
  refine ⟨by show 1 ≤ 1000; decide, fun a ha => ⟨a, v, rfl, upd_same, fun d hd hda => ?_⟩⟩
  rw [upd_ne hda] at hd
  refine ⟨rfl, d, thrFs v, ?_, upd_same, hd, q d _ (fun b o e => ?_) hd upd_same⟩
  · rw [upd_ne (Ne.symm hda), upd_ne (Ne.symm hda), upd_same]
  · have ba : b ≠ a := ne_of_none e ha
    have bd : b ≠ d := ne_of_none e hd
    rw [upd_ne bd, del_ne ba, upd_ne bd, upd_ne bd, upd_ne ba, upd_ne ba]
    exact e
theorem w_callS {sp : Sp} {t : TA} {E : L2.St → XK} {Q : VK} (h : t σ H fun vs H1 => sp vs H1 Q (E σ)) : tCallS sp E t σ H Q := h
end
end Rd

set_option Elab.async false
set_option linter.all false
set_option maxRecDepth 100000
set_option autoImplicit false
set_option maxHeartbeats 4000000
/-! o.m(e, ..), m may raise. -/
namespace Rd
open PySem PySem.Spec PyProof.Rows L2
def tMethX (C : Addr) (m : Str) (sp : Sp) (E : L2.St → XK) (ta : TE) (t : TA) : TE := fun σ H Q => ta σ H fun x H1 => ∃ (a dx : Addr) (fs : List (Str × V)), x = .ref a ∧ H1 a = some (.ins C dx fs) ∧ fs.lookup m = none ∧ t σ H1 fun vs H2 => sp (x :: vs) H2 Q (E σ)
section
variable {X : Cx} {k j : Nat} {C : Addr} {m : Str} {ps : List Str} {sp : Sp} {o e : Expr} {es : List Expr} {ta : TE} {t : TA} {apos pos : Pos} {W : WX}
theorem pkMX (h : KnM X.prog X.w X.K X.mg X.base (L2.CX X.prog X.w) k C m ps sp) (cl : Cls X.K C) (hr : Room j X.A) (tk : Takes X W) (ho : PE X o ta) (ha : PA X (e :: es) t) {pl : Sem Bool}
    (ht : eval (.Call (.Attribute o m apos) (e :: es) [] pos) X.env = (do
      let ov ← eval o X.env
      standAt apos.atName
      let (f, first) ← holding [ov] (getMethod ov m pl)
      callWith pos f first (backTo pos (starEach (e :: es) X.env)) (backToKw pos (keywordEach [] X.env)))) (hj : k ≤ j := by decide)
    (hst : starEach (e :: es) X.env = (false, eval e X.env) :: starEach es X.env := by rfl) (hpl : (backTo pos (starEach es X.env)).any (·.1) = false := by rfl) :
    PE X (.Call (.Attribute o m apos) (e :: es) [] pos) (tMethX C m sp (WE W) ta t) := by
  obtain ⟨f, fd, hm, b, F⟩ := h.ex
  refine ⟨fun pins s σ H Q I h => ?_⟩
  refine PySem.W.methodCall_KW (pl := pl) (thn (ho.run pins s σ H _ I h) fun u s1 ⟨x, H1, I1, rx, a, dx, fs, ex, ea, l, q⟩ => ?_) ht
  subst ex
  obtain rfl : u = Value.ref a := rx
  refine getmeth_ok I1 ea cl hm l ?_
  refine PySem.W.callWith_K (first := [.ref a]) (h₀ := X.base) I.ok.mod.kin hm.kp (thn (ha.run pos pins s1 σ H1 _ I1 q) fun us s2 ⟨vs, H2, I2, r, q2⟩ => ⟨I2.kIn, ?_⟩) hst hpl
  exact run_fnS (us := .ref a :: us) (vs := .ref a :: vs) F (hr.mono hj) b (passAt tk σ) I2 (.cons rfl r) q2
theorem w_methX {C : Addr} {m : Str} {sp : Sp} {E : L2.St → XK} {ta : TE} {t : TA} {σ : L2.St} {H : Hp} {Q : VK} (h : ta σ H fun x H1 => MethK C m (fun x H1 => t σ H1 fun vs H2 => sp (x :: vs) H2 Q (E σ)) x H1) : tMethX C m sp E ta t σ H Q := h
end
end Rd

set_option Elab.async false
set_option linter.all false
set_option maxRecDepth 100000
set_option autoImplicit false
set_option maxHeartbeats 4000000
/-! == and != by a text's own __eq__ -/
namespace Rd
open PySem PySem.Spec PyProof.Rows PySem.SeqAt L2
section
variable {prog : Program} {w : World} {A : Around} {E : Value → Shared → Prop} {s : Shared} {K : PySem.W.Frag} {x y C f : Addr} {ox oy : Obj} {od od' : Option Obj}
theorem ifBound_objNe {M : Model} {args : List Value} {Q : Option Value → Shared → Prop} (X : K.In s.heap) (I : PySem.W.InstAt s.heap x ox C od) (hs : PySem.W.findIn K (.ref C) "__ne__" = some (some (.builtin "object.__ne__")))
    (h : wpAny M A (call (.builtin "object.__ne__") (.ref x :: args)) (fun v => Q (some v)) E s) : wpAny M A (callSpecialIfBound? (.ref x) "__ne__" args) Q E s := by
  simp only [callSpecialIfBound?, bindSpecialIfBound?]
  refine wpAny_holding (wpAny_bind (wpAny_bind (wpAny_bind (I.type.here ((PySem.W.looks_findIn X hs).here ?_)))))
  refine wpAny_bind (wpAny_askSetting (wpAny_ite ?_))
  have fin : wpAny M A (call (.builtin "object.__ne__") ([.ref x] ++ args) >>= fun v => pure (some v)) Q E s := wpAny_bind (wpAny_mono h (fun v s' h' => wpAny_pure h') fun _ _ h' => h')
  split
  · exact wpAny_bind (wpAny_of_eq (F.cmp_object.ne.bind _) (wpAny_pure (by exact fin)))
  · exact wpAny_tryCatch (wpAny_bind (wpAny_of_eq (F.cmp_object.ne.bind _) (wpAny_pure (by exact fin))))
theorem objNe_own (X : K.In s.heap) (I : PySem.W.InstAt s.heap x ox C od) (hs : PySem.W.findIn K (.ref C) "__eq__" = some (some (.ref f))) (hf : PySem.W.isFn K (.ref f) = true) (hu : A.units < cLine) {Q : Fin → Shared → Prop}
    (hcall : wpAny (model prog w) A (call (.ref f) [.ref x, .ref y]) (fun v s' => ∃ b, v = .bool b ∧ Q (.done (.ret (.bool (!b)))) s') E s) :
    wpAny (model prog w) A (Builtin.«object.__ne__» ⟨[.ref x, .ref y], []⟩) Q E s := by
  obtain ⟨h, g, d, t, os⟩ := s
  unfold Builtin.«object.__ne__»
  repeat (first
    | with_reducible refine wpAny_cRoomFor hu ?_
    | (refine wpAny_bind (m := callSpecialIfBound? (.ref x) (Str.ofString "__eq__") [.ref y])
        (PySem.W.ifBound_K X I hs hf (wpAny_mono hcall (fun r s' hr => by
          obtain ⟨b, rfl, hq⟩ := hr
          repeat (first | exact hq | exact wpAny_pure hq | exact wpAny_truthy_bool hq | (refine wpAny_bind (m := truthy (.bool _)) (wpAny_truthy_bool ?_)) | wp_step)) fun _ _ e => e)))
    | wp_step)
theorem rcNe_own {Q : Value → Shared → Prop} (hu : A.units + 1 < cLine) (X : K.In s.heap) (I : PySem.W.InstAt s.heap x ox C od) (I' : PySem.W.InstAt s.heap y oy C od') (hm : PySem.W.mroIn K C (.type "object") = some true)
    (hn : PySem.W.findIn K (.ref C) "__ne__" = some (some (.builtin "object.__ne__"))) (hs : PySem.W.findIn K (.ref C) "__eq__" = some (some (.ref f))) (hf : PySem.W.isFn K (.ref f) = true)
    (hcall : wpAny (model prog w) A.in1 (call (.ref f) [.ref x, .ref y]) (fun v s' => ∃ b, v = .bool b ∧ Q (.bool (!b)) s') E s) :
    wpAny (model prog w) A (richCompare .NotEq (.ref x) (.ref y)) Q E s := by
  have one : wpAny (model prog w) A (tryCompare (.ref x) "__ne__" (.ref y)) (fun r s' => ∃ b, r = some (.bool b) ∧ Q (.bool b) s') E s := by
    unfold tryCompare
    refine wpAny_bind (ifBound_objNe X I hn (wpAny_call (codeAny_call_builtin F.cmp_object.ne.plain F.cmpEntry_ne (PySem.W.check_slot F.cmpKind_ne F.cmpSplit_ne (I.type.andThen (PySem.W.looks_mroIn X hm)) (F.cmpArgs_ne _ _)
      (objNe_own X I hs hf hu (wpAny_mono hcall (fun v s' hv => ?_) fun _ _ e => e))))))
    obtain ⟨b, rfl, hq⟩ := hv
    exact ⟨b, rfl, wpAny_pure ⟨_, rfl, hq⟩⟩
  simp only [richCompare, cmpInfo_NotEq, oneThing_ref]
  refine wpAny_holding (wpAny_bind (wpAny_cRoomFor (Nat.lt_of_succ_lt hu) ?_))
  refine wpAny_bind (I.type.here ?_)
  refine wpAny_bind (I'.type.here ?_)
  rw [if_neg (by simp)]
  refine wpAny_bind (wpAny_pure ?_)
  simp only [Bool.false_eq_true, if_false, Bool.not_false, if_true]
  refine wpAny_bind (m := tryCompare (.ref x) _ (.ref y)) (wpAny_mono one (fun r s1 z => ?_) fun _ _ e => e)
  obtain ⟨b, rfl, hq⟩ := z
  exact wpAny_pure hq
end
/-- what a class must have for == and != by its own __eq__ -/
structure EqC (K : PySem.W.Frag) (C : Addr) : Prop where
  hm : PySem.W.mroIn K C (.type "object") = some true
  hn : PySem.W.findIn K (.ref C) "__ne__" = some (some (.builtin "object.__ne__"))
def rOwn (C : Addr) (g : Bool → Bool) (sp : Sp) : R2 := fun x y H Q => ∃ a b dx dy fs gs, x = .ref a ∧ y = .ref b ∧ H a = some (.ins C dx fs) ∧ H b = some (.ins C dy gs) ∧ sp [.ref a, .ref b] H (fun v H' => ∃ k, v = .bl k ∧ Q (.bl (g k)) H') E0
section
variable {X : Cx} {k j : Nat} {C : Addr} {ps : List Str} {sp : Sp}
theorem op_eqOwn (h : KnM X.prog X.w X.K X.mg X.base CX0 k C "__eq__" ps sp) (hr : Room j X.A) (hj : k ≤ j := by decide) : OpR X (compareOp .Eq) (rOwn C id sp) := by
  obtain ⟨f, fd, M, b, F⟩ := h.ex
  intro pins s σ H x y v u Q I rx ry q
  obtain ⟨a, c, dx, dy, fs, gs, rfl, rfl, ha, hc, q⟩ := q
  cases rx
  cases ry
  obtain ⟨mA, J, _⟩ := ins_get I.hok ha
  obtain ⟨mB, J', _⟩ := ins_get I.hok hc
  obtain ⟨od, J, _⟩ := J.look
  obtain ⟨od', J', _⟩ := J'.look
  obtain ⟨m, hF⟩ := I.fr
  show wpAny (model X.prog X.w) X.A (richCompare .Eq (.ref a) (.ref c)) (EP X pins σ Q) X.xe s
  refine PySem.W.cmp_K (op := .Eq) (tb := .ref C) (hr.mono hj).units0 hF I.ok.mod.kin J J'.type (by simp [PySem.W.notFirst]) M.at_ M.fn ?_
  refine wpAny_mono (run_fn (us := [.ref a, .ref c]) (vs := [.ref a, .ref c]) F (hr.mono hj) b .nil pass0 I (.cons rfl (.cons rfl .nil)) q) (fun r s' z => ?_) fun _ _ e => e
  obtain ⟨z, H', I', rz, k', ez, hq⟩ := z
  subst ez
  cases rz
  exact ⟨.bl k', H', I', rfl, hq⟩
theorem op_neOwn (h : KnM X.prog X.w X.K X.mg X.base CX0 k C "__eq__" ps sp) (O : EqC X.K C) (hr : Room j X.A) (hj : k + 1 ≤ j := by decide) : OpR X (compareOp .NotEq) (rOwn C not sp) := by
  obtain ⟨f, fd, M, b, F⟩ := h.ex
  intro pins s σ H x y v u Q I rx ry q
  obtain ⟨a, c, dx, dy, fs, gs, rfl, rfl, ha, hc, q⟩ := q
  cases rx
  cases ry
  obtain ⟨mA, J, _⟩ := ins_get I.hok ha
  obtain ⟨mB, J', _⟩ := ins_get I.hok hc
  obtain ⟨od, J, _⟩ := J.look
  obtain ⟨od', J', _⟩ := J'.look
  have hr' : Room (k + 1) X.A := hr.mono hj
  show wpAny (model X.prog X.w) X.A (richCompare .NotEq (.ref a) (.ref c)) (EP X pins σ Q) X.xe s
  refine rcNe_own (by have := hr'.un; omega) I.kIn J J' O.hm O.hn M.at_ M.fn ?_
  have e0 : Env0 X.prog X.w X.K X.mg X.base X.A.in1 X.stack s H := by
    have e := I.env0
    exact ⟨e.frames, e.mod, e.bs, e.bsz, e.funs, e.frf, e.hok, e.bare⟩
  have hl := F.len _ _ _ _ q
  have r2 : Vals [V.ref a, V.ref c] [Value.ref a, Value.ref c] := .cons rfl (.cons rfl .nil)
  refine wpAny_call (codeAny_mono (F.run X.A.in1 X.stack s H ⟨[.ref a, .ref c], []⟩ [.ref a, .ref c] [.ref a, .ref c] _ E0 hr'.in1 e0 (by
    have := b s [.ref a, .ref c] I.kIn (by simpa using hl)
    simpa using this) r2 q) fun r s' hq => ?_)
  cases r with
  | error e => exact pass0 pins σ H s e s' I hq
  | ok fl =>
    cases fl with
    | ret w =>
      obtain ⟨z, H', I', rz, k', ez, hq2⟩ := I.after hq
      subst ez
      cases rz
      exact ⟨k', rfl, .bl (!k'), H', I', rfl, hq2⟩
    | next => exact False.elim hq
    | brk => exact False.elim hq
    | cont => exact False.elim hq
end
section
variable {C a b dx dy : Addr} {fs gs : List (Str × V)} {g : Bool → Bool} {sp : Sp} {H : Hp} {Q : VK}
theorem w_own (ha : H a = some (.ins C dx fs)) (hb : H b = some (.ins C dy gs)) (q : sp [.ref a, .ref b] H (fun v H' => ∃ k, v = .bl k ∧ Q (.bl (g k)) H') E0) : rOwn C g sp (.ref a) (.ref b) H Q :=
  ⟨a, b, dx, dy, fs, gs, rfl, rfl, ha, hb, q⟩
end
end Rd

set_option Elab.async false
set_option linter.all false
set_option maxRecDepth 100000
set_option autoImplicit false
set_option maxHeartbeats 4000000
/-! == and != by a text's own __eq__ that answers NotImplemented -/
namespace Rd
open PySem PySem.Spec PyProof.Rows PySem.SeqAt L2
/-! ### builtin kinds decline an instance -/
section
variable {prog : Program} {w : World} {A : Around} {E : Value → Shared → Prop} {s : Shared} {K : PySem.W.Frag} {x C dx : Addr} {Q : Value → Shared → Prop}
theorem int_eq_inst (b : Int) (u : Tok) (hl : s.heap.get? x = some (PySem.W.instObj C dx)) {Q : Fin → Shared → Prop} (h : Q (.done (.ret .notImplemented)) s) : wpAny (model prog w) A (Builtin.«int.__eq__» ⟨[.int b u, .ref x], []⟩) Q E s := by
  obtain ⟨hp, g, d, tk, os⟩ := s
  wp_walk using wpAny_loadPart' hl, wpAny_load hl
  exact h
theorem int_ne_inst (b : Int) (u : Tok) (hl : s.heap.get? x = some (PySem.W.instObj C dx)) {Q : Fin → Shared → Prop} (h : Q (.done (.ret .notImplemented)) s) : wpAny (model prog w) A (Builtin.«int.__ne__» ⟨[.int b u, .ref x], []⟩) Q E s := by
  obtain ⟨hp, g, d, tk, os⟩ := s
  wp_walk using wpAny_loadPart' hl, wpAny_load hl
  exact h
theorem str_eq_inst (b : Str) (u : Tok) (hl : s.heap.get? x = some (PySem.W.instObj C dx)) {Q : Fin → Shared → Prop} (h : Q (.done (.ret .notImplemented)) s) : wpAny (model prog w) A (Builtin.«str.__eq__» ⟨[.str b u, .ref x], []⟩) Q E s := by
  obtain ⟨hp, g, d, tk, os⟩ := s
  wp_walk using wpAny_loadPart' hl, wpAny_load hl
  exact h
theorem str_ne_inst (b : Str) (u : Tok) (hl : s.heap.get? x = some (PySem.W.instObj C dx)) {Q : Fin → Shared → Prop} (h : Q (.done (.ret .notImplemented)) s) : wpAny (model prog w) A (Builtin.«str.__ne__» ⟨[.str b u, .ref x], []⟩) Q E s := by
  obtain ⟨hp, g, d, tk, os⟩ := s
  wp_walk using wpAny_loadPart' hl, wpAny_load hl
  exact h
theorem isInst_no {T : String} {od : Option Obj} {ox : Obj} (X : K.In s.heap) (I : PySem.W.InstAt s.heap x ox C od) (hs : PySem.W.subIn K (.ref C) (.type T) = some false) {Q : Bool → Shared → Prop} (h : Q false s) : wpAny (model prog w) A (isInstance (.ref x) (.type T)) Q E s := by
  unfold isInstance
  exact wpAny_bind (I.type.here ((PySem.W.looks_subIn X hs).here h))
theorem list_eq_inst {l : Addr} {items : Array Value} {n : Nat} {dd : Option Addr} {sl : Array (Option Value)} {od : Option Obj} {ox : Obj} (X : K.In s.heap) (I : PySem.W.InstAt s.heap x ox C od) (hs : PySem.W.subIn K (.ref C) (.type "list") = some false)
    (hl : s.heap.get? l = some { cls := .type "list", dict := dd, data := .seq items n, slots := sl }) {Q : Fin → Shared → Prop} (h : Q (.done (.ret .notImplemented)) s) : wpAny (model prog w) A (Builtin.«list.__eq__» ⟨[.ref l, .ref x], []⟩) Q E s := by
  obtain ⟨hp, g, d, tk, os⟩ := s
  repeat (first | (with_reducible refine isInst_no X I hs ?_) | wp_step)
  exact h
theorem list_ne_inst {l : Addr} {items : Array Value} {n : Nat} {dd : Option Addr} {sl : Array (Option Value)} {od : Option Obj} {ox : Obj} (X : K.In s.heap) (I : PySem.W.InstAt s.heap x ox C od) (hs : PySem.W.subIn K (.ref C) (.type "list") = some false)
    (hl : s.heap.get? l = some { cls := .type "list", dict := dd, data := .seq items n, slots := sl }) {Q : Fin → Shared → Prop} (h : Q (.done (.ret .notImplemented)) s) : wpAny (model prog w) A (Builtin.«list.__ne__» ⟨[.ref l, .ref x], []⟩) Q E s := by
  obtain ⟨hp, g, d, tk, os⟩ := s
  repeat (first | (with_reducible refine isInst_no X I hs ?_) | wp_step)
  exact h
theorem tuple_eq_inst {l : Addr} {items : Array Value} {n : Nat} {dd : Option Addr} {sl : Array (Option Value)} {od : Option Obj} {ox : Obj} (X : K.In s.heap) (I : PySem.W.InstAt s.heap x ox C od) (hs : PySem.W.subIn K (.ref C) (.type "tuple") = some false)
    (hl : s.heap.get? l = some { cls := .type "tuple", dict := dd, data := .seq items n, slots := sl }) {Q : Fin → Shared → Prop} (h : Q (.done (.ret .notImplemented)) s) : wpAny (model prog w) A (Builtin.«tuple.__eq__» ⟨[.ref l, .ref x], []⟩) Q E s := by
  obtain ⟨hp, g, d, tk, os⟩ := s
  repeat (first | (with_reducible refine isInst_no X I hs ?_) | wp_step)
  exact h
theorem tuple_ne_inst {l : Addr} {items : Array Value} {n : Nat} {dd : Option Addr} {sl : Array (Option Value)} {od : Option Obj} {ox : Obj} (X : K.In s.heap) (I : PySem.W.InstAt s.heap x ox C od) (hs : PySem.W.subIn K (.ref C) (.type "tuple") = some false)
    (hl : s.heap.get? l = some { cls := .type "tuple", dict := dd, data := .seq items n, slots := sl }) {Q : Fin → Shared → Prop} (h : Q (.done (.ret .notImplemented)) s) : wpAny (model prog w) A (Builtin.«tuple.__ne__» ⟨[.ref l, .ref x], []⟩) Q E s := by
  obtain ⟨hp, g, d, tk, os⟩ := s
  repeat (first | (with_reducible refine isInst_no X I hs ?_) | wp_step)
  exact h
/-- what declines: its own comparison with the instance -/
theorem dec_none : wpAny (model prog w) A (tryCompare .none "__eq__" (.ref x)) (fun r s' => r = none ∧ s' = s) E s :=
  wpAny_tryCompare_declines (show s.TypeIs .none "NoneType" from rfl) F.slot_NoneType_eq_refl (call_gives F.slot_NoneType_eq_refl rfl F.entry_NoneType_eq (F.args_NoneType_eq_2 _ _) (NoneType___eq___none_ref_0 x) ⟨rfl, rfl, rfl⟩)
theorem dec_none' : wpAny (model prog w) A (tryCompare .none "__ne__" (.ref x)) (fun r s' => r = none ∧ s' = s) E s :=
  wpAny_tryCompare_declines (show s.TypeIs .none "NoneType" from rfl) F.slot_NoneType_ne_refl (call_gives F.slot_NoneType_ne_refl rfl F.entry_NoneType_ne (F.args_NoneType_ne_2 _ _) (NoneType___ne___none_ref_0 x) ⟨rfl, rfl, rfl⟩)
theorem dec_int (b : Int) (u : Tok) (hl : s.heap.get? x = some (PySem.W.instObj C dx)) : wpAny (model prog w) A (tryCompare (.int b u) "__eq__" (.ref x)) (fun r s' => r = none ∧ s' = s) E s :=
  wpAny_tryCompare_declines (show s.TypeIs (.int b u) "int" from rfl) F.slot_int_eq_refl (GQ.call_here F.slot_int_eq_refl rfl F.entry_int_eq (F.args_int_eq_2 _ _) (int_eq_inst b u hl ⟨rfl, rfl, rfl⟩))
theorem dec_int' (b : Int) (u : Tok) (hl : s.heap.get? x = some (PySem.W.instObj C dx)) : wpAny (model prog w) A (tryCompare (.int b u) "__ne__" (.ref x)) (fun r s' => r = none ∧ s' = s) E s :=
  wpAny_tryCompare_declines (show s.TypeIs (.int b u) "int" from rfl) F.slot_int_ne_refl (GQ.call_here F.slot_int_ne_refl rfl F.entry_int_ne (F.args_int_ne_2 _ _) (int_ne_inst b u hl ⟨rfl, rfl, rfl⟩))
theorem dec_str (b : Str) (u : Tok) (hl : s.heap.get? x = some (PySem.W.instObj C dx)) : wpAny (model prog w) A (tryCompare (.str b u) "__eq__" (.ref x)) (fun r s' => r = none ∧ s' = s) E s :=
  wpAny_tryCompare_declines (show s.TypeIs (.str b u) "str" from rfl) F.slot_str_eq_refl (GQ.call_here F.slot_str_eq_refl rfl F.entry_str_eq (F.args_str_eq_2 _ _) (str_eq_inst b u hl ⟨rfl, rfl, rfl⟩))
theorem dec_str' (b : Str) (u : Tok) (hl : s.heap.get? x = some (PySem.W.instObj C dx)) : wpAny (model prog w) A (tryCompare (.str b u) "__ne__" (.ref x)) (fun r s' => r = none ∧ s' = s) E s :=
  wpAny_tryCompare_declines (show s.TypeIs (.str b u) "str" from rfl) F.slot_str_ne_refl (GQ.call_here F.slot_str_ne_refl rfl F.entry_str_ne (F.args_str_ne_2 _ _) (str_ne_inst b u hl ⟨rfl, rfl, rfl⟩))
theorem dec_list {l : Addr} {items : Array Value} {n : Nat} {dd : Option Addr} {sl : Array (Option Value)} {od : Option Obj} {ox : Obj} (X : K.In s.heap) (I : PySem.W.InstAt s.heap x ox C od) (hs : PySem.W.subIn K (.ref C) (.type "list") = some false)
    (hl : s.heap.get? l = some { cls := .type "list", dict := dd, data := .seq items n, slots := sl }) : wpAny (model prog w) A (tryCompare (.ref l) "__eq__" (.ref x)) (fun r s' => r = none ∧ s' = s) E s :=
  wpAny_tryCompare_declines (T := "list") ⟨_, hl, rfl⟩ F.slot_list_eq_refl (GQ.call_here F.slot_list_eq_refl ⟨_, hl, rfl⟩ F.entry_list_eq (F.args_list_eq_2 _ _) (list_eq_inst X I hs hl ⟨rfl, rfl, rfl⟩))
theorem dec_list' {l : Addr} {items : Array Value} {n : Nat} {dd : Option Addr} {sl : Array (Option Value)} {od : Option Obj} {ox : Obj} (X : K.In s.heap) (I : PySem.W.InstAt s.heap x ox C od) (hs : PySem.W.subIn K (.ref C) (.type "list") = some false)
    (hl : s.heap.get? l = some { cls := .type "list", dict := dd, data := .seq items n, slots := sl }) : wpAny (model prog w) A (tryCompare (.ref l) "__ne__" (.ref x)) (fun r s' => r = none ∧ s' = s) E s :=
  wpAny_tryCompare_declines (T := "list") ⟨_, hl, rfl⟩ F.slot_list_ne_refl (GQ.call_here F.slot_list_ne_refl ⟨_, hl, rfl⟩ F.entry_list_ne (F.args_list_ne_2 _ _) (list_ne_inst X I hs hl ⟨rfl, rfl, rfl⟩))
theorem dec_tuple {l : Addr} {items : Array Value} {n : Nat} {dd : Option Addr} {sl : Array (Option Value)} {od : Option Obj} {ox : Obj} (X : K.In s.heap) (I : PySem.W.InstAt s.heap x ox C od) (hs : PySem.W.subIn K (.ref C) (.type "tuple") = some false)
    (hl : s.heap.get? l = some { cls := .type "tuple", dict := dd, data := .seq items n, slots := sl }) : wpAny (model prog w) A (tryCompare (.ref l) "__eq__" (.ref x)) (fun r s' => r = none ∧ s' = s) E s :=
  wpAny_tryCompare_declines (T := "tuple") ⟨_, hl, rfl⟩ F.slot_tuple_eq_refl (GQ.call_here F.slot_tuple_eq_refl ⟨_, hl, rfl⟩ F.entry_tuple_eq (F.args_tuple_eq_2 _ _) (tuple_eq_inst X I hs hl ⟨rfl, rfl, rfl⟩))
theorem dec_tuple' {l : Addr} {items : Array Value} {n : Nat} {dd : Option Addr} {sl : Array (Option Value)} {od : Option Obj} {ox : Obj} (X : K.In s.heap) (I : PySem.W.InstAt s.heap x ox C od) (hs : PySem.W.subIn K (.ref C) (.type "tuple") = some false)
    (hl : s.heap.get? l = some { cls := .type "tuple", dict := dd, data := .seq items n, slots := sl }) : wpAny (model prog w) A (tryCompare (.ref l) "__ne__" (.ref x)) (fun r s' => r = none ∧ s' = s) E s :=
  wpAny_tryCompare_declines (T := "tuple") ⟨_, hl, rfl⟩ F.slot_tuple_ne_refl (GQ.call_here F.slot_tuple_ne_refl ⟨_, hl, rfl⟩ F.entry_tuple_ne (F.args_tuple_ne_2 _ _) (tuple_ne_inst X I hs hl ⟨rfl, rfl, rfl⟩))
theorem rcEq_ni {f : Addr} {u : Value} {Tb : String} {ox : Obj} {od : Option Obj} (hu : A.units < cLine) (X : K.In s.heap) (I : PySem.W.InstAt s.heap x ox C od) (hb : s.TypeIs u Tb) (hsub : PySem.W.subIn K (.type Tb) (.ref C) = some false)
    (hs : PySem.W.findIn K (.ref C) "__eq__" = some (some (.ref f))) (hf : PySem.W.isFn K (.ref f) = true)
    (hcall : wpAny (model prog w) A (call (.ref f) [.ref x, u]) (fun v s1 => v = .notImplemented ∧ wpAny (model prog w) A (tryCompare u "__eq__" (.ref x)) (fun r s2 => r = none ∧ s2 = s1) E s1 ∧ wpAny (model prog w) A (isSame (.ref x) u) (fun b s3 => b = false ∧ Q (.bool false) s3) E s1) E s) :
    wpAny (model prog w) A (richCompare .Eq (.ref x) u) Q E s := by
  have one : wpAny (model prog w) A (tryCompare (.ref x) "__eq__" u) (fun r s1 => r = none ∧ wpAny (model prog w) A (tryCompare u "__eq__" (.ref x)) (fun r s2 => r = none ∧ s2 = s1) E s1 ∧ wpAny (model prog w) A (isSame (.ref x) u) (fun b s3 => b = false ∧ Q (.bool false) s3) E s1) E s := by
    unfold tryCompare
    refine wpAny_bind (PySem.W.ifBound_K X I hs hf (wpAny_mono hcall (fun v s1 hv => ?_) fun _ _ e => e))
    obtain ⟨rfl, h1, h2⟩ := hv
    exact wpAny_pure ⟨rfl, h1, h2⟩
  simp only [richCompare, cmpInfo_Eq, oneThing_ref]
  refine wpAny_holding (wpAny_bind (wpAny_cRoomFor hu ?_))
  refine wpAny_bind (I.type.here ?_)
  refine wpAny_bind (wpAny_typeOf hb ?_)
  split
  · refine wpAny_bind ((PySem.W.looks_subIn X hsub).here ?_)
    simp only [Bool.false_eq_true, if_false, Bool.not_false, if_true]
    refine wpAny_bind (m := tryCompare (.ref x) _ u) (wpAny_mono one (fun r s1 z => ?_) fun _ _ e => e)
    obtain ⟨rfl, h1, h2⟩ := z
    refine wpAny_bind (m := tryCompare u _ (.ref x)) (wpAny_mono h1 (fun r s2 z => ?_) fun _ _ e => e)
    obtain ⟨rfl, rfl⟩ := z
    refine wpAny_bind (wpAny_rule (wpAny_bind (wpAny_mono h2 (fun b s3 z => ?_) fun _ _ e => e)))
    obtain ⟨rfl, hq⟩ := z
    exact wpAny_pure hq
  · rename_i q
    exact absurd (by simp) q
theorem objNe_ni {f : Addr} {u : Value} {ox : Obj} {od : Option Obj} (X : K.In s.heap) (I : PySem.W.InstAt s.heap x ox C od) (hs : PySem.W.findIn K (.ref C) "__eq__" = some (some (.ref f))) (hf : PySem.W.isFn K (.ref f) = true) (hu : A.units < cLine) {Q : Fin → Shared → Prop}
    (hcall : wpAny (model prog w) A (call (.ref f) [.ref x, u]) (fun v s' => v = .notImplemented ∧ Q (.done (.ret .notImplemented)) s') E s) :
    wpAny (model prog w) A (Builtin.«object.__ne__» ⟨[.ref x, u], []⟩) Q E s := by
  obtain ⟨h, g, d, t, os⟩ := s
  unfold Builtin.«object.__ne__»
  repeat (first
    | with_reducible refine wpAny_cRoomFor hu ?_
    | (refine wpAny_bind (m := callSpecialIfBound? (.ref x) (Str.ofString "__eq__") [u])
        (PySem.W.ifBound_K X I hs hf (wpAny_mono hcall (fun r s' hr => by
          obtain ⟨rfl, hq⟩ := hr
          repeat (first | exact hq | exact wpAny_pure hq | wp_step)) fun _ _ e => e)))
    | wp_step)
theorem rcNe_ni {f : Addr} {u : Value} {Tb : String} {ox : Obj} {od : Option Obj} (hu : A.units + 1 < cLine) (X : K.In s.heap) (I : PySem.W.InstAt s.heap x ox C od) (hb : s.TypeIs u Tb) (hsub : PySem.W.subIn K (.type Tb) (.ref C) = some false)
    (hm : PySem.W.mroIn K C (.type "object") = some true) (hn : PySem.W.findIn K (.ref C) "__ne__" = some (some (.builtin "object.__ne__"))) (hs : PySem.W.findIn K (.ref C) "__eq__" = some (some (.ref f))) (hf : PySem.W.isFn K (.ref f) = true)
    (hcall : wpAny (model prog w) A.in1 (call (.ref f) [.ref x, u]) (fun v s1 => v = .notImplemented ∧ wpAny (model prog w) A (tryCompare u "__ne__" (.ref x)) (fun r s2 => r = none ∧ s2 = s1) E s1 ∧ wpAny (model prog w) A (isSame (.ref x) u) (fun b s3 => b = false ∧ Q (.bool true) s3) E s1) E s) :
    wpAny (model prog w) A (richCompare .NotEq (.ref x) u) Q E s := by
  have one : wpAny (model prog w) A (tryCompare (.ref x) "__ne__" u) (fun r s1 => r = none ∧ wpAny (model prog w) A (tryCompare u "__ne__" (.ref x)) (fun r s2 => r = none ∧ s2 = s1) E s1 ∧ wpAny (model prog w) A (isSame (.ref x) u) (fun b s3 => b = false ∧ Q (.bool true) s3) E s1) E s := by
    unfold tryCompare
    refine wpAny_bind (ifBound_objNe X I hn (wpAny_call (codeAny_call_builtin F.cmp_object.ne.plain F.cmpEntry_ne (PySem.W.check_slot F.cmpKind_ne F.cmpSplit_ne (I.type.andThen (PySem.W.looks_mroIn X hm)) (F.cmpArgs_ne _ _)
      (objNe_ni X I hs hf hu (wpAny_mono hcall (fun v s1 hv => ?_) fun _ _ e => e))))))
    obtain ⟨rfl, h1, h2⟩ := hv
    exact ⟨rfl, wpAny_pure ⟨rfl, h1, h2⟩⟩
  simp only [richCompare, cmpInfo_NotEq, oneThing_ref]
  refine wpAny_holding (wpAny_bind (wpAny_cRoomFor (Nat.lt_of_succ_lt hu) ?_))
  refine wpAny_bind (I.type.here ?_)
  refine wpAny_bind (wpAny_typeOf hb ?_)
  split
  · refine wpAny_bind ((PySem.W.looks_subIn X hsub).here ?_)
    simp only [Bool.false_eq_true, if_false, Bool.not_false, if_true]
    refine wpAny_bind (m := tryCompare (.ref x) _ u) (wpAny_mono one (fun r s1 z => ?_) fun _ _ e => e)
    obtain ⟨rfl, h1, h2⟩ := z
    refine wpAny_bind (m := tryCompare u _ (.ref x)) (wpAny_mono h1 (fun r s2 z => ?_) fun _ _ e => e)
    obtain ⟨rfl, rfl⟩ := z
    refine wpAny_bind (wpAny_rule (wpAny_bind (wpAny_mono h2 (fun b s3 z => ?_) fun _ _ e => e)))
    obtain ⟨rfl, hq⟩ := z
    exact wpAny_pure hq
  · rename_i q
    exact absurd (by simp) q
end
/-! ### a def that answers NotImplemented -/
def CN (outer : List Env) (P : Program) (w : World) (H : Hp) (s : Shared) (QH : Hp → Prop) (r : Result) (s' : Shared) : Prop :=
  r = .ok (.ret .notImplemented) ∧ ∃ H', s'.os = s.os ∧ AllBare s'.gens ∧ Un (frs outer) [] H H' s.heap s'.heap ∧ HOk P w H' s'.heap ∧ QH H'
abbrev SpN := List L2.V → Hp → (Hp → Prop) → Prop
structure NiOk (P : Program) (w : World) (K : PySem.W.Frag) (mg : Str → Option Value) (base : Heap) (k : Nat) (f : Addr) (fd : FuncData) (ps : List Str) (sp : SpN) : Prop where
  len : ∀ vs H Q, sp vs H Q → vs.length = ps.length
  run : ∀ (A : Around) (outer : List Env) (s : Shared) (H : Hp) (args : Args) (us : List Value) (vs : List L2.V) (Q : Hp → Prop), Room k A → Env0 P w K mg base A outer s H → BindsTo s fd args (ps.zip us) → Vals vs us → sp vs H Q →
    codeAny (model P w) A (.call (.ref f) args) (CN outer P w H s Q) s
section
variable {P : Program} {w : World} {K : PySem.W.Frag} {mg : Str → Option Value} {base : Heap}
theorem ni_ok {x qual : Str} {st : Stmt} {f : Addr} {fd : FuncData} {N ps : List Str} {k : Nat} {sp : SpN} {test : Expr} {p1 p2 p3 : Pos} {els rest : List Stmt} (F : Fun K x qual st f fd) (S : FnScope N ps (defScope st)) (len : ∀ vs H Q, sp vs H Q → vs.length = ps.length)
    (hbd : defBody st = .If test [.Return (some (.Name "NotImplemented" p1)) p2] els p3 :: rest) (hm : mg "NotImplemented" = none)
    (hgl : ∀ (cdv : Value) (A : Around) (outer : List Env) (s : Shared) (H : Hp) (E : XK), Gl (cxOf CX0 P w K mg base N qual (defScope st) f cdv A outer s H E) "NotImplemented")
    (hbody : ∀ (cdv : Value) (A : Around) (outer : List Env) (s : Shared) (H : Hp) (vs : List L2.V) (Q : Hp → Prop), Room k (A.deeper (envOfC qual (defScope st) s.heap.objs.size f cdv)) → sp vs H Q →
      ∃ tt, PT (cxOf CX0 P w K mg base N qual (defScope st) f cdv A outer s H E0) test tt ∧ tt (start N vs) H fun b H' => b = true ∧ Q H') : NiOk P w K mg base (k + 1) f fd ps sp := by
  obtain ⟨oc, od, kV, doc, pm, an, cdv, ct, osl, rfl, lk, hcd⟩ := F.ex
  refine ⟨len, fun A outer s H args us vs Q hr e0 hb r hsp => ?_⟩
  have hl := len _ _ _ hsp
  have KX : K.In s.heap := e0.mod.kin.keeps fun b o e => (e0.bs b o e).1
  have lim : s.heap.NoLimit := e0.mod.nolimit.keeps fun b o e => (e0.bs b o e).1
  have hkind : ∀ y ∈ ps.zip us, (defScope st).names.lookup y.1 = some .local ∨ ((defScope st).names.lookup y.1 = some .cell ∧ ((cellsFrom (s.heap.objs.size + 1) (defScope st).names []).lookup y.1).isSome = true) := fun ⟨n, v⟩ hy => by
    rcases S.par n (List.of_mem_zip hy).1 with q | q
    · exact .inl q
    · exact .inr ⟨q, PySem.W.cellsFrom_some _ _ _ (.inl q)⟩
  refine codeAny_call_function hr.depth (KX _ _ lk) rfl S.co S.gen rfl (PySem.W.codeRec_of KX hcd) (hb _ _ _ _ ?_)
  refine wpAny_newFunctionEnv_cells S.kind hkind fun env he s1 x => ?_
  subst he
  refine ⟨lim.keeps x.toInCall.keep, codeAny_func ?_⟩
  obtain ⟨t, ht, hq⟩ := hbody cdv A outer s H vs Q (hr.deeper _) hsp
  have I : Inv (cxOf CX0 P w K mg base N qual (defScope st) f cdv A outer s H E0) [] (start N vs) H s1 := inv_start S hr.hd e0 hl r x
  show wpAny _ _ (execs (defBody st) _) _ _ s1
  rw [hbd]
  refine wpAny_execs_cons (wpAny_If ?_)
  refine wpAny_mono (ht.run [] s1 (start N vs) H _ I hq) (fun b s2 hs => ?_) fun e s' hs => wpAny_mono hs (fun _ _ z => False.elim z) fun _ _ z => False.elim z
  obtain ⟨H1, I1, rfl, q1⟩ := hs
  refine wpAny_execs_cons (wpAny_Return_some ?_)
  refine ld_blt I1 (hgl cdv A outer s H E0) hm (u := .notImplemented) (by decide +kernel) ?_ (by decide) (by decide)
  exact ⟨rfl, H1, I1.os, I1.bare, I1.base, I1.hok, q1⟩
end
end Rd

set_option Elab.async false
set_option linter.all false
set_option maxRecDepth 100000
set_option autoImplicit false
set_option maxHeartbeats 4000000
namespace Rd
open PySem PySem.Spec PyProof.Rows PySem.SeqAt L2
section
variable {prog : Program} {w : World} {A : Around} {E : Value → Shared → Prop} {s : Shared} {K : PySem.W.Frag} {x C dx : Addr}
theorem same_refs {b : Addr} {ob : Obj} (hne : x ≠ b) (hx : s.heap.get? x = some (PySem.W.instObj C dx)) (hb : s.heap.get? b = some ob) {Q : Bool → Shared → Prop} (h : Q false s) : wpAny (model prog w) A (isSame (.ref x) (.ref b)) Q E s := by
  unfold isSame
  simp only []
  rw [if_neg (by simpa using hne)]
  refine wpAny_bind (wpAny_load hx ?_)
  refine wpAny_bind (wpAny_load hb ?_)
  exact wpAny_pure h
theorem sub_base {T : String} {bs : List Value} (e : fastBuiltinMro T = some bs) (h : bs.contains (.ref C) = false) : PySem.W.subIn K (.type T) (.ref C) = some false := by
  show (fastBuiltinMro T).map (·.contains (.ref C)) = some false
  rw [e]
  simp only [Option.map_some, h]
theorem sub_int : PySem.W.subIn K (.type "int") (.ref C) = some false := sub_base (bs := [.type "int", .type "object"]) (by decide +kernel) rfl
theorem sub_str : PySem.W.subIn K (.type "str") (.ref C) = some false := sub_base (bs := [.type "str", .type "object"]) (by decide +kernel) rfl
theorem sub_list : PySem.W.subIn K (.type "list") (.ref C) = some false := sub_base (bs := [.type "list", .type "object"]) (by decide +kernel) rfl
theorem sub_tuple : PySem.W.subIn K (.type "tuple") (.ref C) = some false := sub_base (bs := [.type "tuple", .type "object"]) (by decide +kernel) rfl
end
/-- what is no instance: None, an int, a text, a list, a tuple -/
inductive OthV (H : Hp) : L2.V → Prop
  | non : OthV H .non
  | int (i : Int) : OthV H (.int i)
  | str (z : Str) : OthV H (.str z)
  | lst {a : Addr} {xs : List L2.V} (h : H a = some (.lst xs)) : OthV H (.ref a)
  | tup {a : Addr} {xs : List L2.V} (h : H a = some (.tup xs)) : OthV H (.ref a)
/-- what the class must not be -/
structure NoSeq (K : PySem.W.Frag) (C : Addr) : Prop where
  l : PySem.W.subIn K (.ref C) (.type "list") = some false
  t : PySem.W.subIn K (.ref C) (.type "tuple") = some false
def spNi (C : Addr) : SpN := fun vs H Q => ∃ a dx fs y, vs = [.ref a, y] ∧ H a = some (.ins C dx fs) ∧ OthV H y ∧ Q H
structure KnNi (P : Program) (w : World) (K : PySem.W.Frag) (mg : Str → Option Value) (base : Heap) (k : Nat) (C : Addr) : Prop where
  ex : ∃ f fd, Meth K C "__eq__" f ∧ Binds K fd ["self", "other"] [] ∧ NiOk P w K mg base k f fd ["self", "other"] (spNi C)
theorem TxM.ni {P : Program} {w : World} {K : PySem.W.Frag} {mg : Str → Option Value} {base : Heap} {k : Nat} {C : Addr} {qual : Str} {st : Stmt} (t : TxM K C "__eq__" qual st ["self", "other"])
    (h : ∀ f fd, Fun K "__eq__" qual st f fd → NiOk P w K mg base k f fd ["self", "other"] (spNi C)) : KnNi P w K mg base k C :=
  let ⟨f, fd, a, b, c⟩ := t.ex
  ⟨f, fd, a, c, h f fd b⟩
def rNi (C : Addr) (k : Bool) : R2 := fun x y H Q => ∃ a dx fs, x = .ref a ∧ H a = some (.ins C dx fs) ∧ OthV H y ∧ Q (.bl k) H
section
variable {X : Cx} {k j : Nat} {C : Addr}
theorem run_ni {pins : List (Addr × Obj)} {σ : L2.St} {H : Hp} {s : Shared} {f : Addr} {fd : FuncData} {us : List Value} {vs : List L2.V} {ps : List Str} {sp : SpN} {A : Around} {QH : Hp → Prop} {E : Value → Shared → Prop} (F : NiOk X.prog X.w X.K X.mg X.base k f fd ps sp) (hr : Room k A) (hb : Binds X.K fd ps [])
    (e0 : Env0 X.prog X.w X.K X.mg X.base A X.stack s H) (I : Inv X pins σ H s) (r : Vals vs us) (h : sp vs H QH) : wpAny (model X.prog X.w) A (call (.ref f) us) (fun v s' => v = .notImplemented ∧ ∃ H', Inv X pins σ H' s' ∧ QH H') E s := by
  have hl : us.length = ps.length := by rw [← r.length]; exact F.len _ _ _ h
  have hb2 := hb s us I.kIn (by simpa using hl)
  refine wpAny_call (codeAny_mono (F.run A X.stack s H ⟨us, []⟩ us vs QH hr e0 (by simpa using hb2) r h) fun rr s' hq => ?_)
  obtain ⟨rfl, H', os, bare, un, hok, q⟩ := hq
  obtain ⟨hh, g, d, t, os'⟩ := s'
  obtain rfl : os' = s.os := os
  exact ⟨rfl, H', I.call (h' := hh) (g' := g) (d' := d) (t' := t) (ch := []) un hok bare (fun b z => absurd z (by simp)), q⟩
theorem op_eqNi (h : KnNi X.prog X.w X.K X.mg X.base k C) (N : NoSeq X.K C) (hr : Room j X.A) (hj : k ≤ j := by decide) : OpR X (compareOp .Eq) (rNi C false) := by
  obtain ⟨f, fd, M, b, F⟩ := h.ex
  intro pins s σ H x y v u Q I rx ry q
  obtain ⟨a, dx, fs, rfl, ha, oy, q⟩ := q
  cases rx
  obtain ⟨mA, J, _⟩ := ins_get I.hok ha
  obtain ⟨od, J', _⟩ := J.look
  have hr' : Room k X.A := hr.mono hj
  have main : ∀ (Tb : String), s.TypeIs u Tb → PySem.W.subIn X.K (.type Tb) (.ref C) = some false →
      (∀ s1, Inv X pins σ H s1 → wpAny (model X.prog X.w) X.A (tryCompare u "__eq__" (.ref a)) (fun r s2 => r = none ∧ s2 = s1) X.xe s1 ∧ ∀ Q' : Bool → Shared → Prop, Q' false s1 → wpAny (model X.prog X.w) X.A (isSame (.ref a) u) Q' X.xe s1) →
      wpAny (model X.prog X.w) X.A (compareOp .Eq (.ref a) u) (EP X pins σ Q) X.xe s := fun Tb hT hsub hd => by
    show wpAny (model X.prog X.w) X.A (richCompare .Eq (.ref a) u) (EP X pins σ Q) X.xe s
    refine rcEq_ni hr'.units0 I.kIn J' hT hsub M.at_ M.fn ?_
    refine wpAny_mono (run_ni (us := [.ref a, u]) (vs := [.ref a, y]) (QH := fun H' => H' = H) F hr' b I.env0 I (.cons rfl (.cons ry .nil)) ⟨a, dx, fs, y, rfl, ha, oy, rfl⟩) (fun v s1 z => ?_) fun _ _ e => e
    obtain ⟨rfl, H', I1, rfl⟩ := z
    obtain ⟨d1, d2⟩ := hd s1 I1
    exact ⟨rfl, d1, d2 _ ⟨rfl, .bl false, H', I1, rfl, q⟩⟩
  cases oy with
  | non =>
    cases ry
    exact main "NoneType" rfl HN.sub_none fun s1 I1 => ⟨dec_none, fun Q' h' => wpAny_of_eq (rfl : isSame (.ref a) .none = pure false) h'⟩
  | int i =>
    obtain ⟨t, rfl⟩ := ry
    refine main "int" rfl sub_int fun s1 I1 => ⟨?_, fun Q' h' => wpAny_of_eq (rfl : isSame (.ref a) (.int i t) = pure false) h'⟩
    obtain ⟨_, J1, _⟩ := ins_get I1.hok ha
    exact dec_int i t J1.obj
  | str z =>
    obtain ⟨t, rfl⟩ := ry
    refine main "str" rfl sub_str fun s1 I1 => ⟨?_, fun Q' h' => wpAny_of_eq (rfl : isSame (.ref a) (.str z t) = pure false) h'⟩
    obtain ⟨_, J1, _⟩ := ins_get I1.hok ha
    exact dec_str z t J1.obj
  | @lst l xs hl =>
    cases ry
    obtain ⟨_, _, _, _, _, e0⟩ := I.lstM hl
    refine main "list" ⟨_, e0, rfl⟩ sub_list fun s1 I1 => ?_
    obtain ⟨_, J1, _⟩ := ins_get I1.hok ha
    obtain ⟨od1, L1, _⟩ := J1.look
    obtain ⟨_, _, _, _, _, e1⟩ := I1.lstM hl
    have hne : a ≠ l := fun z => by rw [z, hl] at ha; cases ha
    exact ⟨dec_list I1.kIn L1 N.l e1, fun Q' h' => same_refs hne J1.obj e1 h'⟩
  | @tup l xs hl =>
    cases ry
    obtain ⟨_, _, p0, _⟩ := I.tuple (SqT.of hl)
    obtain ⟨⟨cls0, dd0, data0, sl0⟩, e0, c0, n0, d0⟩ := p0
    simp only at c0 d0
    subst c0 d0
    refine main "tuple" ⟨_, e0, rfl⟩ sub_tuple fun s1 I1 => ?_
    obtain ⟨_, J1, _⟩ := ins_get I1.hok ha
    obtain ⟨od1, L1, _⟩ := J1.look
    obtain ⟨_, _, p1, _⟩ := I1.tuple (SqT.of hl)
    obtain ⟨⟨cls1, dd1, data1, sl1⟩, e1, c1, n1, d1⟩ := p1
    simp only at c1 d1
    subst c1 d1
    have hne : a ≠ l := fun z => by rw [z, hl] at ha; cases ha
    exact ⟨dec_tuple I1.kIn L1 N.t e1, fun Q' h' => same_refs hne J1.obj e1 h'⟩
theorem op_neNi (h : KnNi X.prog X.w X.K X.mg X.base k C) (O : EqC X.K C) (N : NoSeq X.K C) (hr : Room j X.A) (hj : k + 1 ≤ j := by decide) : OpR X (compareOp .NotEq) (rNi C true) := by
  obtain ⟨f, fd, M, b, F⟩ := h.ex
  intro pins s σ H x y v u Q I rx ry q
  obtain ⟨a, dx, fs, rfl, ha, oy, q⟩ := q
  cases rx
  obtain ⟨mA, J, _⟩ := ins_get I.hok ha
  obtain ⟨od, J', _⟩ := J.look
  have hr' : Room (k + 1) X.A := hr.mono hj
  have e0 : Env0 X.prog X.w X.K X.mg X.base X.A.in1 X.stack s H := by
    have e := I.env0
    exact ⟨e.frames, e.mod, e.bs, e.bsz, e.funs, e.frf, e.hok, e.bare⟩
  have main : ∀ (Tb : String), s.TypeIs u Tb → PySem.W.subIn X.K (.type Tb) (.ref C) = some false →
      (∀ s1, Inv X pins σ H s1 → wpAny (model X.prog X.w) X.A (tryCompare u "__ne__" (.ref a)) (fun r s2 => r = none ∧ s2 = s1) X.xe s1 ∧ ∀ Q' : Bool → Shared → Prop, Q' false s1 → wpAny (model X.prog X.w) X.A (isSame (.ref a) u) Q' X.xe s1) →
      wpAny (model X.prog X.w) X.A (compareOp .NotEq (.ref a) u) (EP X pins σ Q) X.xe s := fun Tb hT hsub hd => by
    show wpAny (model X.prog X.w) X.A (richCompare .NotEq (.ref a) u) (EP X pins σ Q) X.xe s
    refine rcNe_ni (by have := hr'.un; omega) I.kIn J' hT hsub O.hm O.hn M.at_ M.fn ?_
    refine wpAny_mono (run_ni (us := [.ref a, u]) (vs := [.ref a, y]) (QH := fun H' => H' = H) F hr'.in1 b e0 I (.cons rfl (.cons ry .nil)) ⟨a, dx, fs, y, rfl, ha, oy, rfl⟩) (fun v s1 z => ?_) fun _ _ e => e
    obtain ⟨rfl, H', I1, rfl⟩ := z
    obtain ⟨d1, d2⟩ := hd s1 I1
    exact ⟨rfl, d1, d2 _ ⟨rfl, .bl true, H', I1, rfl, q⟩⟩
  cases oy with
  | non =>
    cases ry
    exact main "NoneType" rfl HN.sub_none fun s1 I1 => ⟨dec_none', fun Q' h' => wpAny_of_eq (rfl : isSame (.ref a) .none = pure false) h'⟩
  | int i =>
    obtain ⟨t, rfl⟩ := ry
    refine main "int" rfl sub_int fun s1 I1 => ⟨?_, fun Q' h' => wpAny_of_eq (rfl : isSame (.ref a) (.int i t) = pure false) h'⟩
    obtain ⟨_, J1, _⟩ := ins_get I1.hok ha
    exact dec_int' i t J1.obj
  | str z =>
    obtain ⟨t, rfl⟩ := ry
    refine main "str" rfl sub_str fun s1 I1 => ⟨?_, fun Q' h' => wpAny_of_eq (rfl : isSame (.ref a) (.str z t) = pure false) h'⟩
    obtain ⟨_, J1, _⟩ := ins_get I1.hok ha
    exact dec_str' z t J1.obj
  | @lst l xs hl =>
    cases ry
    obtain ⟨_, _, _, _, _, e0⟩ := I.lstM hl
    refine main "list" ⟨_, e0, rfl⟩ sub_list fun s1 I1 => ?_
    obtain ⟨_, J1, _⟩ := ins_get I1.hok ha
    obtain ⟨od1, L1, _⟩ := J1.look
    obtain ⟨_, _, _, _, _, e1⟩ := I1.lstM hl
    have hne : a ≠ l := fun z => by rw [z, hl] at ha; cases ha
    exact ⟨dec_list' I1.kIn L1 N.l e1, fun Q' h' => same_refs hne J1.obj e1 h'⟩
  | @tup l xs hl =>
    cases ry
    obtain ⟨_, _, p0, _⟩ := I.tuple (SqT.of hl)
    obtain ⟨⟨cls0, dd0, data0, sl0⟩, e0, c0, n0, d0⟩ := p0
    simp only at c0 d0
    subst c0 d0
    refine main "tuple" ⟨_, e0, rfl⟩ sub_tuple fun s1 I1 => ?_
    obtain ⟨_, J1, _⟩ := ins_get I1.hok ha
    obtain ⟨od1, L1, _⟩ := J1.look
    obtain ⟨_, _, p1, _⟩ := I1.tuple (SqT.of hl)
    obtain ⟨⟨cls1, dd1, data1, sl1⟩, e1, c1, n1, d1⟩ := p1
    simp only at c1 d1
    subst c1 d1
    have hne : a ≠ l := fun z => by rw [z, hl] at ha; cases ha
    exact ⟨dec_tuple' I1.kIn L1 N.t e1, fun Q' h' => same_refs hne J1.obj e1 h'⟩
/-- two readings of one operator -/
theorem OpR.orR {op : Value → Value → Sem Value} {r r' : R2} (h : OpR X op r) (h' : OpR X op r') : OpR X op (fun x y H Q => r x y H Q ∨ r' x y H Q) := fun pins s σ H x y v u Q I rx ry q => q.elim (h pins s σ H x y v u Q I rx ry) (h' pins s σ H x y v u Q I rx ry)
/-- two readings of one expression -/
theorem pe_orR {e : Expr} {t t' : TE} (h : PE X e t) (h' : PE X e t') : PE X e (fun σ H Q => t σ H Q ∨ t' σ H Q) := ⟨fun pins s σ H Q I q => q.elim (h.run pins s σ H Q I) (h'.run pins s σ H Q I)⟩
end
end Rd

set_option Elab.async false
set_option linter.all false
set_option maxRecDepth 100000
set_option autoImplicit false
set_option maxHeartbeats 4000000
/-! an instance without an own __eq__, beside an int: != -/
namespace Rd
open PySem PySem.Spec PyProof.Rows PySem.SeqAt L2
section
variable {prog : Program} {w : World} {A : Around} {E : Value → Shared → Prop} {s : Shared} {K : PySem.W.Frag} {x C dx : Addr} {ox : Obj} {od : Option Obj}
theorem objEq_int (i : Int) (t : Tok) {Q : Fin → Shared → Prop} (hq : Q (.done (.ret .notImplemented)) s) : wpAny (model prog w) A (Builtin.«object.__eq__» ⟨[.ref x, .int i t], []⟩) Q E s := by
  obtain ⟨h, g, d, tk, os⟩ := s
  unfold Builtin.«object.__eq__»
  repeat (first | exact hq | (refine wpAny_bind (wpAny_of_eq (rfl : isSame (.ref x) (.int i t) = pure false) (wpAny_pure ?_))) | wp_step)
theorem objNe_int (i : Int) (t : Tok) (X : K.In s.heap) (I : PySem.W.InstAt s.heap x ox C od) (hm : PySem.W.mroIn K C (.type "object") = some true) (hs : PySem.W.findIn K (.ref C) "__eq__" = some (some (.builtin "object.__eq__"))) (hu : A.units < cLine) {Q : Fin → Shared → Prop}
    (hq : Q (.done (.ret .notImplemented)) s) : wpAny (model prog w) A (Builtin.«object.__ne__» ⟨[.ref x, .int i t], []⟩) Q E s := by
  have hc : wpAny (model prog w) A (call (.builtin "object.__eq__") [.ref x, .int i t]) (fun v s' => v = .notImplemented ∧ s' = s) E s :=
    wpAny_call (codeAny_call_builtin F.cmp_object.eq.plain F.cmpEntry_eq (PySem.W.check_slot F.cmpKind_eq F.cmpSplit_eq (I.type.andThen (PySem.W.looks_mroIn X hm)) (F.cmpArgs_eq _ _) (objEq_int i t ⟨rfl, rfl⟩)))
  obtain ⟨h, g, d, tk, os⟩ := s
  unfold Builtin.«object.__ne__»
  repeat (first
    | with_reducible refine wpAny_cRoomFor hu ?_
    | (refine wpAny_bind (m := callSpecialIfBound? (.ref x) (Str.ofString "__eq__") [.int i t])
        (HN.ifBound_objEq X I hs (wpAny_mono hc (fun r s' hr => by
          obtain ⟨rfl, rfl⟩ := hr
          repeat (first | exact hq | exact wpAny_pure hq | wp_step)) fun _ _ e => e)))
    | wp_step)
theorem rcNe_int (i : Int) (t : Tok) (hu : A.units + 1 < cLine) (X : K.In s.heap) (I : PySem.W.InstAt s.heap x ox C od) (hl : s.heap.get? x = some (PySem.W.instObj C dx)) (hm : PySem.W.mroIn K C (.type "object") = some true)
    (hn : PySem.W.findIn K (.ref C) "__ne__" = some (some (.builtin "object.__ne__"))) (hs : PySem.W.findIn K (.ref C) "__eq__" = some (some (.builtin "object.__eq__"))) {Q : Value → Shared → Prop} (q : Q (.bool true) s) :
    wpAny (model prog w) A (richCompare .NotEq (.ref x) (.int i t)) Q E s := by
  have one : wpAny (model prog w) A (tryCompare (.ref x) "__ne__" (.int i t)) (fun r s1 => r = none ∧ s1 = s) E s := by
    unfold tryCompare
    refine wpAny_bind (ifBound_objNe X I hn (wpAny_call (codeAny_call_builtin F.cmp_object.ne.plain F.cmpEntry_ne (PySem.W.check_slot F.cmpKind_ne F.cmpSplit_ne (I.type.andThen (PySem.W.looks_mroIn X hm)) (F.cmpArgs_ne _ _)
      (objNe_int i t X I hm hs hu ?_)))))
    exact wpAny_pure (show (none : Option Value) = none ∧ s = s from ⟨rfl, rfl⟩)
  have two := dec_int' (prog := prog) (w := w) (A := A) (E := E) i t hl
  simp only [richCompare, cmpInfo_NotEq, oneThing_ref]
  refine wpAny_holding (wpAny_bind (wpAny_cRoomFor (Nat.lt_of_succ_lt hu) ?_))
  refine wpAny_bind (I.type.here ?_)
  refine wpAny_bind (wpAny_typeOf (show s.TypeIs (.int i t) "int" from rfl) ?_)
  split
  · refine wpAny_bind ((PySem.W.looks_subIn X sub_int).here ?_)
    simp only [Bool.false_eq_true, if_false, Bool.not_false, if_true]
    refine wpAny_bind (m := tryCompare (.ref x) _ (.int i t)) (wpAny_mono one (fun r s1 z => ?_) fun _ _ e => e)
    obtain ⟨rfl, rfl⟩ := z
    refine wpAny_bind (m := tryCompare (.int i t) _ (.ref x)) (wpAny_mono two (fun r s2 z => ?_) fun _ _ e => e)
    obtain ⟨rfl, rfl⟩ := z
    exact wpAny_bind (wpAny_rule (wpAny_bind (wpAny_of_eq (rfl : isSame (.ref x) (.int i t) = pure false) (wpAny_pure q))))
  · rename_i q
    exact absurd (by simp) q
end
structure ObjN (K : PySem.W.Frag) (C : Addr) : Prop extends ObjC K C where
  hne : PySem.W.findIn K (.ref C) "__ne__" = some (some (.builtin "object.__ne__"))
def rNeOI (C : Addr) : R2 := fun x y H Q => InsV C H x ∧ (∃ i, y = .int i) ∧ Q (.bl true) H
theorem op_neOI {X : Cx} {C : Addr} (hu : X.A.units + 1 < cLine) (O : ObjN X.K C) : OpR X (compareOp .NotEq) (rNeOI C) := by
  intro pins s σ H x y v u Q I rx ry h
  obtain ⟨⟨a, dx, fs, rfl, ha⟩, ⟨i, rfl⟩, q⟩ := h
  cases rx
  obtain ⟨t, rfl⟩ := ry
  obtain ⟨mA, OA, _⟩ := ins_get I.hok ha
  obtain ⟨od, J, _⟩ := OA.look
  show wpAny (model X.prog X.w) X.A (richCompare .NotEq _ _) (EP X pins σ Q) X.xe s
  exact rcNe_int i t hu I.kIn J OA.obj O.hm O.hne O.hs ⟨.bl true, H, I, rfl, q⟩
end Rd

set_option Elab.async false
set_option linter.all false
set_option maxRecDepth 100000
set_option autoImplicit false
set_option maxHeartbeats 4000000
/-! A list of anything, beside the empty list. -/
namespace Rd
open PySem PySem.Spec PyProof.Rows L2
def rNeNil (K : PySem.W.Frag) : R2 := fun x y H Q => ∃ l b xs, x = .ref l ∧ y = .ref b ∧ SqL K H l xs ∧ SqL K H b [] ∧ Q (.bl (!xs.isEmpty)) H
theorem op_neNil {X : Cx} (hu : X.A.units + 64 < cLine) : OpR X (compareOp .NotEq) (rNeNil X.K) := by
  intro pins s σ H x y v u Q I rx ry h
  obtain ⟨l, b, xs, rfl, rfl, hl, hb, q⟩ := h
  cases rx
  cases ry
  obtain ⟨its, r, e, z⟩ := I.list hl
  obtain ⟨its2, r2, e2, z2⟩ := I.list hb
  have l1 := r.length
  have l2 := r2.length
  have z0 : its2 = [] := List.length_eq_zero_iff.1 (by rw [← l2]; rfl)
  subst z0
  have go : ∀ k, k = !xs.isEmpty → SeqAt.RcNeAt X.A s (.ref l) (.ref b) k → wpAny (model X.prog X.w) X.A (compareOp .NotEq (.ref l) (.ref b)) (EP X pins σ Q) X.xe s := fun k hk h => by
    refine h _ _ _ _ ?_
    rw [hk]
    exact ⟨.bl _, H, I, rfl, q⟩
  cases xs with
  | nil =>
    have z1 : its = [] := List.length_eq_zero_iff.1 (by rw [← l1]; rfl)
    subst z1
    refine go false rfl ?_
    exact SeqAt.RcNeAt.lists (e := fun _ => true) e.isList e2.isList rfl (by omega) (fun j h1 h2 => absurd h1 (by simp))
  | cons x xs =>
    refine go true rfl ?_
    refine SeqAt.RcNeAt.lists_lengths e.isList e2.isList ?_ (by omega)
    cases its with
    | nil => cases l1
    | cons a as => rfl
/-- e.f, where the reading must not speak of the context -/
theorem pe_fldK {X : Cx} {K : PySem.W.Frag} {e : Expr} {f : Str} {pos : Pos} {ta : TE} (he : PE X e ta) (hb : attributeBase e f X.env (eval e X.env) = eval e X.env) (hk : X.K = K := by rfl) : PE X (.Attribute e f pos) (tFld K ta f) := hk ▸ pe_fld he hb
section
variable {H : Hp} {K : PySem.W.Frag} {l b : Addr} {xs : List V} {Q : VK}
theorem w_neNil (h1 : SqL K H l xs) (h2 : H b = some (.lst [])) (q : Q (.bl (!xs.isEmpty)) H) : rNeNil K (.ref l) (.ref b) H Q := ⟨l, b, xs, rfl, rfl, h1, SqL.of h2, q⟩
end
end Rd

set_option Elab.async false
set_option linter.all false
set_option maxRecDepth 100000
set_option autoImplicit false
set_option maxHeartbeats 4000000
/-! list(zip(a, b)), a and b lists of one length -/
namespace Rd
open PySem PySem.Spec PyProof.Rows PySem.W L2
/-- a zip of two lists that has told i pairs, as it stands; S: the list that is filled -/
structure ZS (z TI TO i1 i2 l1 l2 S : Addr) (xs ys : Array Value) (h : Heap) (i : Nat) : Prop where
  ti : IsPair h TI (.ref i1) (.ref i2)
  a1 : h.IsListIter i1 l1 i
  a2 : h.IsListIter i2 l2 i
  b1 : h.IsList l1 xs
  b2 : h.IsList l2 ys
  st : (IsZip h z TI TO .none ∧ ∃ u v, IsPair h TO u v) ∨ ∃ T f oT, IsZipHeld h z TI TO T f ∧ h.get? T = some oT ∧ T ≠ z ∧ T ≠ i1 ∧ T ≠ i2 ∧ T ≠ S
structure ZN (z TI TO i1 i2 l1 l2 S : Addr) : Prop where
  z : z < S
  TI : TI < S
  TO : TO < S
  i1 : i1 < S
  i2 : i2 < S
  l1 : l1 < S
  l2 : l2 < S
section
variable {prog : Program} {w : World} {A : Around} {E : Value → Shared → Prop} {s : Shared} {z TI TO i1 i2 l1 l2 S : Addr} {xs ys : Array Value}
theorem ZS.typ {i : Nat} (g : ZS z TI TO i1 i2 l1 l2 S xs ys s.heap i) : s.TypeIs (.ref z) "zip" := by
  rcases g.st with ⟨e, _⟩ | ⟨T, f, oT, e, _⟩ <;> exact ⟨_, e, rfl⟩
theorem ZS.keep {h h' : Heap} {i : Nat} (N : ZN z TI TO i1 i2 l1 l2 S) (g : ZS z TI TO i1 i2 l1 l2 S xs ys h i) (k : ∀ b o, b ≠ S → h.get? b = some o → h'.get? b = some o) : ZS z TI TO i1 i2 l1 l2 S xs ys h' i := by
  have ne : ∀ {b : Addr}, b < S → b ≠ S := fun h => Nat.ne_of_lt h
  refine ⟨k _ _ (ne N.TI) g.ti, g.a1.at fun o => k _ o (ne N.i1), g.a2.at fun o => k _ o (ne N.i2), g.b1.at fun o => k _ o (ne N.l1), g.b2.at fun o => k _ o (ne N.l2), ?_⟩
  rcases g.st with ⟨e, u, v, e2⟩ | ⟨T, f, oT, e, e2, n1, n2, n3, n4⟩
  · exact .inl ⟨k _ _ (ne N.z) e, u, v, k _ _ (ne N.TO) e2⟩
  · exact .inr ⟨T, f, oT, k _ _ (ne N.z) e, k _ _ n4 e2, n1, n2, n3, n4⟩
theorem zs_item {i : Nat} {x y : Value} {Q : Option Value → Shared → Prop} (D : ZipApart z TI TO i1 i2 l1 l2) (g : ZS z TI TO i1 i2 l1 l2 S xs ys s.heap i) (ex : xs[i]? = some x) (ey : ys[i]? = some y) (hS : S < s.heap.objs.size)
    (q : ∀ h', ZS z TI TO i1 i2 l1 l2 S xs ys h' (i + 1) → IsPair h' s.heap.objs.size x y → h'.objs.size = s.heap.objs.size + 1 → (∀ c o, c ≠ z → c ≠ TO → c ≠ i1 → c ≠ i2 → s.heap.get? c = some o → h'.get? c = some o) → Q (some (.ref s.heap.objs.size)) { s with heap := h' }) :
    wpAny (model prog w) A (pyNext (.ref z)) Q E s := by
  have gt : ∀ {c : Addr} {o : Obj}, s.heap.get? c = some o → s.heap.objs.size ≠ c := fun e => Nat.ne_of_gt (Heap.lt_size e)
  have m1 : s.heap.objs.size ≠ i1 := let ⟨_, e, _⟩ := g.a1; gt e
  have m2 : s.heap.objs.size ≠ i2 := let ⟨_, e, _⟩ := g.a2; gt e
  rcases g.st with ⟨e, u, v, e2⟩ | ⟨T, f, oT, e, e2, n1, n2, n3, n4⟩
  · exact wpAny_pyNext_zip_item D e g.ti e2 g.a1 g.a2 g.b1 g.b2 ex ey fun h' c1 c2 c3 c4 c5 c6 hk => q h'
      ⟨hk _ _ D.TIz D.TITO D.TIi1 D.TIi2 g.ti, c3, c4, g.b1.at fun o => hk _ o D.l1z D.l1TO D.l1i1 D.l1i2, g.b2.at fun o => hk _ o D.l2z D.l2TO D.l2i1 D.l2i2,
        .inr ⟨_, false, _, c1, c5, gt e, m1, m2, Nat.ne_of_gt hS⟩⟩ c5 c6 hk
  · exact wpAny_pyNext_zip_item_held D e e2 g.ti g.a1 g.a2 g.b1 g.b2 ex ey fun h' c1 c3 c4 c5 c6 hk => q h'
      ⟨hk _ _ D.TIz D.TIi1 D.TIi2 g.ti, c3, c4, g.b1.at fun o => hk _ o D.l1z D.l1i1 D.l1i2, g.b2.at fun o => hk _ o D.l2z D.l2i1 D.l2i2,
        .inr ⟨T, true, oT, c1, hk _ _ n1 n2 n3 e2, n1, n2, n3, n4⟩⟩ c5 c6 fun c o k1 _ k3 k4 => hk c o k1 k3 k4
theorem zs_done {i : Nat} {Q : Option Value → Shared → Prop} (hh : A.handled = none) (D : ZipApart z TI TO i1 i2 l1 l2) (g : ZS z TI TO i1 i2 l1 l2 S xs ys s.heap i) (ex : xs[i]? = none)
    (q : ∀ h', (∀ c o, c ≠ z → c ≠ TO → c ≠ i1 → c ≠ i2 → s.heap.get? c = some o → h'.get? c = some o) → Q none { s with heap := h' }) : wpAny (model prog w) A (pyNext (.ref z)) Q E s := by
  rcases g.st with ⟨e, u, v, e2⟩ | ⟨T, f, oT, e, e2, n1, n2, n3, n4⟩
  · exact wpAny_pyNext_zip_end hh D e g.ti e2 g.a1 g.a2 g.b1 g.b2 (.inl ex) q
  · exact wpAny_pyNext_zip_end_held hh D e e2 g.ti g.a1 g.a2 g.b1 g.b2 (.inl ex) fun h' hk => q h' fun c o k1 _ k3 k4 => hk c o k1 k3 k4
/-- the pairs that were told, in tuples of their own -/
structure ZG (S : Addr) (xs ys : Array Value) (h : Heap) (as : List Addr) : Prop where
  rise : as.Pairwise (· < ·)
  above : ∀ a ∈ as, S < a ∧ a < h.objs.size
  pair : ∀ (j : Nat) (a : Addr), as[j]? = some a → ∃ x y, xs[j]? = some x ∧ ys[j]? = some y ∧ IsPair h a x y
abbrev lstO (acc : Array Value) (c : Nat) : Obj := { cls := .type "list", dict := none, data := .seq acc c, slots := #[] }
theorem zs_loop {R : Result → Shared → Prop} {h0 : Heap} (hh : A.handled = none) (D : ZipApart z TI TO i1 i2 l1 l2) (N : ZN z TI TO i1 i2 l1 l2 S) (hn : xs.size ≤ sizeLine) (hl : ys.size = xs.size) (res : Value)
    (hR : ∀ (h' : Heap) (tk c : Nat) (as : List Addr) (acc : Array Value), ZG S xs ys h' as → as.length = xs.size → h'.get? S = some (lstO acc c) → acc.toList = as.map Value.ref → (∀ b o, b ≠ S → b ≠ z → b ≠ TO → b ≠ i1 → b ≠ i2 → h0.get? b = some o → h'.get? b = some o) → R (.ok (.ret res)) { s with heap := h', toks := tk }) :
    ∀ (k i : Nat) (h : Heap) (tk c : Nat) (acc : Array Value) (as : List Addr), xs.size - i = k → i ≤ xs.size → ZS z TI TO i1 i2 l1 l2 S xs ys h i → ZG S xs ys h as → as.length = i → h.get? S = some (lstO acc c) → acc.toList = as.map Value.ref →
      (∀ b o, b ≠ S → b ≠ z → b ≠ TO → b ≠ i1 → b ≠ i2 → h0.get? b = some o → h.get? b = some o) → codeAny (model prog w) A (.builtin "list.extend.loop" ⟨[.ref S, .ref z, res], []⟩) R { s with heap := h, toks := tk } := by
  intro k
  induction k with
  | zero =>
    intro i h tk c acc as hk hi g G gl eS ea kp
    refine codeAny_builtin PySem.F.entry_extend_loop (by
      rw [Around.under_plainId PySem.F.plain_extend_loop _]
      show wpAny _ A.in1 (pyNext (.ref z) >>= _) _ _ _
      refine wpAny_bind (zs_done (s := { s with heap := h, toks := tk }) (A := A.in1) hh D g (Array.getElem?_eq_none (by omega)) fun h' he => ?_)
      have up : ∀ a, S ≤ a → ∀ o, h.get? a = some o → h'.get? a = some o := fun a ha o e => by
        exact he a o (Nat.ne_of_gt (Nat.lt_of_lt_of_le N.z ha)) (Nat.ne_of_gt (Nat.lt_of_lt_of_le N.TO ha)) (Nat.ne_of_gt (Nat.lt_of_lt_of_le N.i1 ha)) (Nat.ne_of_gt (Nat.lt_of_lt_of_le N.i2 ha)) e
      refine wpAny_pure (hR h' tk c as acc ⟨G.rise, fun a ha => ⟨(G.above a ha).1, ?_⟩, fun j a hj => ?_⟩ (by omega) (up S (Nat.le_refl _) _ eS) ea fun b o b1 b2 b3 b4 b5 e => he b o b2 b3 b4 b5 (kp b o b1 b2 b3 b4 b5 e))
      · obtain ⟨j, hj⟩ := List.mem_iff_getElem?.1 ha
        obtain ⟨x, y, _, _, e⟩ := G.pair j a hj
        exact Heap.lt_size (up a (Nat.le_of_lt (G.above a ha).1) _ e)
      · obtain ⟨x, y, e1, e2, e⟩ := G.pair j a hj
        exact ⟨x, y, e1, e2, up a (Nat.le_of_lt (G.above a (List.mem_of_getElem? hj)).1) _ e⟩)
  | succ k ih =>
    intro i h tk c acc as hk hi g G gl eS ea kp
    have lt : i < xs.size := by omega
    have ex := Array.getElem?_eq_getElem lt
    have ey := Array.getElem?_eq_getElem (show i < ys.size by omega)
    have asz : acc.size = i := by rw [← Array.length_toList, ea, List.length_map, gl]
    have Sh : S < h.objs.size := Heap.lt_size eS
    refine codeAny_builtin PySem.F.entry_extend_loop (by
      rw [Around.under_plainId PySem.F.plain_extend_loop _]
      show wpAny _ A.in1 (pyNext (.ref z) >>= _) _ _ _
      refine wpAny_bind (zs_item (s := { s with heap := h, toks := tk }) D g ex ey Sh fun h' g' hp hz he => ?_)
      have up : ∀ a, S ≤ a → ∀ o, h.get? a = some o → h'.get? a = some o := fun a ha o e => by
        exact he a o (Nat.ne_of_gt (Nat.lt_of_lt_of_le N.z ha)) (Nat.ne_of_gt (Nat.lt_of_lt_of_le N.TO ha)) (Nat.ne_of_gt (Nat.lt_of_lt_of_le N.i1 ha)) (Nat.ne_of_gt (Nat.lt_of_lt_of_le N.i2 ha)) e
      have eS' := up S (Nat.le_refl _) _ eS
      have on : ∀ b o, b ≠ S → h'.get? b = some o → (h'.update S (Obj.mapSeq (·.push (Value.ref h.objs.size)))).get? b = some o := fun b o hb e => (Heap.get?_update_other _ _ (Ne.symm hb)).trans e
      show wpAny _ A.in1 (updateSeq S (·.push (Value.ref h.objs.size)) >>= _) _ _ _
      refine wpAny_bind (wpAny_updateSeq eS' rfl (wpAny_pure ⟨plainId_quiet PySem.F.plain_extend_loop _, ih (i + 1) _ tk _ (acc.push (Value.ref h.objs.size)) (as ++ [h.objs.size]) (by omega) lt (g'.keep N on) ?_ (by rw [List.length_append, gl]; rfl)
        (Heap.get?_update_self _ eS' rfl) (by rw [Array.toList_push, ea, List.map_append]; rfl) fun b o b1 b2 b3 b4 b5 e => on b o b1 (he b o b2 b3 b4 b5 (kp b o b1 b2 b3 b4 b5 e))⟩) (by show acc.size ≤ _; rw [asz]; omega)
        (by show (acc.push (Value.ref h.objs.size)).size ≤ sizeLine + 1; rw [Array.size_push, asz]; omega))
      have szl : (h'.update S (Obj.mapSeq (·.push (Value.ref h.objs.size)))).objs.size = h.objs.size + 1 := by rw [Heap.size_update]; exact hz
      refine ⟨List.pairwise_append.2 ⟨G.rise, List.pairwise_singleton _ _, fun a ha b hb => ?_⟩, fun a ha => ?_, fun j a hj => ?_⟩
      · rw [List.mem_singleton.1 hb]
        exact (G.above a ha).2
      · rw [szl]
        rcases List.mem_append.1 ha with ha | ha
        · exact ⟨(G.above a ha).1, Nat.lt_succ_of_lt (G.above a ha).2⟩
        · rw [List.mem_singleton.1 ha]
          exact ⟨Sh, Nat.lt_succ_self _⟩
      · by_cases hj2 : j < as.length
        · rw [List.getElem?_append_left hj2] at hj
          obtain ⟨x, y, e1, e2, e⟩ := G.pair j a hj
          have ha := (G.above a (List.mem_of_getElem? hj)).1
          exact ⟨x, y, e1, e2, on a _ (Nat.ne_of_gt ha) (up a (Nat.le_of_lt ha) _ e)⟩
        · rw [List.getElem?_append_right (by omega)] at hj
          have j0 : j - as.length = 0 := by
            have := (List.getElem?_eq_some_iff.1 hj).1
            simpa using this
          rw [j0] at hj
          have ja : j = i := by omega
          cases hj
          rw [ja]
          exact ⟨_, _, ex, ey, on _ _ (Nat.ne_of_gt Sh) hp⟩)
theorem zip_len0 : typeLookup (.type "zip") "__len__" = pure none := by rw [typeLookup_type, builtinLookup_eq_fast]; kernel_rfl
theorem zip_hint0 : typeLookup (.type "zip") "__length_hint__" = pure none := by rw [typeLookup_type, builtinLookup_eq_fast]; kernel_rfl
/-- what the list is filled with -/
abbrev ZR (s : Shared) (S : Addr) (xs ys : Array Value) (z TO i1 i2 : Addr) (R : Shared → Prop) : Prop := ∀ (h' : Heap) (tk c : Nat) (as : List Addr) (acc : Array Value), ZG S xs ys h' as → as.length = xs.size → h'.get? S = some (lstO acc c) → acc.toList = as.map Value.ref →
  (∀ b o, b ≠ S → b ≠ z → b ≠ TO → b ≠ i1 → b ≠ i2 → s.heap.get? b = some o → h'.get? b = some o) → R { s with heap := h', toks := tk }
theorem zs_extend {R : Result → Shared → Prop} {c0 : Nat} (hh : A.handled = none) (D : ZipApart z TI TO i1 i2 l1 l2) (N : ZN z TI TO i1 i2 l1 l2 S) (hn : xs.size ≤ sizeLine) (hl : ys.size = xs.size) (g : ZS z TI TO i1 i2 l1 l2 S xs ys s.heap 0) (eS : s.heap.get? S = some (lstO #[] c0)) (res : Value)
    (hR : ZR s S xs ys z TO i1 i2 fun s' => R (.ok (.ret res)) s') :
    wpAny (model prog w) A.in1 (Builtin.List.listExtendWith (.ref S) (.ref z) res) (fun fin s' => match fin with | .done f => R (.ok f) s' | .again c' => c'.quiet = true ∧ codeAny (model prog w) A c' R s') (fun e s' => R (.error e) s') s := by
  have ne : S ≠ z := Nat.ne_of_gt N.z
  have f1 : Builtin.List.listSameRef (.ref S) (.ref z) = false := by simp [Builtin.List.listSameRef, ne]
  have go : ∀ (h : Heap) (c tk : Nat), (∀ b o, b ≠ S → s.heap.get? b = some o → h.get? b = some o) → h.get? S = some (lstO #[] c) → codeAny (model prog w) A (.builtin "list.extend.loop" ⟨[.ref S, .ref z, res], []⟩) R { s with heap := h, toks := tk } := fun h c tk k e =>
    zs_loop (h0 := s.heap) hh D N hn hl res (fun h' tk' c' as acc a1 a2 a3 a4 a5 => hR h' tk' c' as acc a1 a2 a3 a4 a5) xs.size 0 h tk c #[] [] (Nat.sub_zero _) (Nat.zero_le _) (g.keep N k) ⟨List.Pairwise.nil, fun _ q => (nomatch q), fun j a q => by simp at q⟩ rfl e rfl fun b o b1 _ _ _ _ e => k b o b1 e
  simp only [Builtin.List.listExtendWith]
  refine wpAny_bind (wpAny_typeOf (T := "zip") g.typ ?_)
  simp only [f1, show (Value.type "zip" == Value.type "list") = false by decide, show (Value.type "zip" == Value.type "tuple") = false by decide, Bool.or_false, Bool.false_eq_true, if_false]
  obtain ⟨f0, hz⟩ : ∃ f0, s.heap.get? z = some { cls := .type "zip", dict := none, data := .fields f0, slots := #[] } := by rcases g.st with ⟨e, _⟩ | ⟨T, f, oT, e, _⟩ <;> exact ⟨_, e⟩
  have hi : wpAny (model prog w) A.in1 (pyIter (.ref z)) (fun v s' => v = .ref z ∧ s' = s) (fun e s' => R (.error e) s') s := by
    refine wpAny_pyIter_slot g.typ F.slot_zip_iter (wpAny_call_entry F.slot_zip_iter g.typ F.entry_zip_iter ?_ (F.args_zip_iter_1 _))
    show wpAny _ _ (ret (.ref z)) _ _ s
    exact wpAny_pure ⟨_, rfl, "zip", _, g.typ, F.slot_zip_next.lookup, rfl, rfl⟩
  refine wpAny_bind (wpAny_mono hi (fun v s' hv => ?_) fun _ _ e => e)
  obtain ⟨rfl, rfl⟩ := hv
  refine wpAny_bind (wpAny_holding ?_)
  simp only [Builtin.List.listLengthHint]
  refine wpAny_bind (wpAny_specialOf g.typ zip_len0 ?_)
  refine wpAny_bind (wpAny_specialOf g.typ zip_hint0 (wpAny_pure ?_))
  show wpAny _ A.in1 (rule "list.extend.makes-room" >>= _) _ _ _
  refine wpAny_bind (wpAny_rule (wpAny_bind ?_))
  show wpAny _ A.in1 (updateSeq S (·.push .none) >>= fun _ => updateSeq S (·.pop)) _ _ _
  refine wpAny_bind (wpAny_updateSeq eS rfl ?_)
  have e2 := Heap.get?_update_self (Obj.mapSeq (·.push Value.none)) eS rfl
  refine wpAny_updateSeq (hz := by seq_fits) e2 rfl (wpAny_pure ⟨plainId_quiet F.plain_extend_loop _, go _ _ _ (fun b o hb e => ?_) (Heap.get?_update_self (Obj.mapSeq (·.pop)) e2 rfl)⟩)
  rw [Heap.get?_update_other _ _ (Ne.symm hb), Heap.get?_update_other _ _ (Ne.symm hb)]
  exact e
theorem zs_list {Q : Value → Shared → Prop} (hh : A.handled = none) (D : ZipApart z TI TO i1 i2 l1 l2) (N : ZN z TI TO i1 i2 l1 l2 s.heap.objs.size) (hn : xs.size ≤ sizeLine) (hl : ys.size = xs.size) (g : ZS z TI TO i1 i2 l1 l2 s.heap.objs.size xs ys s.heap 0)
    (hQ : ZR s s.heap.objs.size xs ys z TO i1 i2 fun s' => Q (.ref s.heap.objs.size) s') : wpAny (model prog w) A (call (.type "list") [.ref z]) Q E s := by
  refine callType_codes (Q₁ := fun obj s₁ => obj = .ref s.heap.objs.size ∧ s₁ = { s with heap := s.heap.push { cls := .type "list", data := .seq #[] } }) PySem.F.called_list (PySem.F.typeCall_list_1 _) PySem.F.entry_list_init (code_list_new _ ⟨rfl, rfl⟩) fun obj s₁ h₁ => ?_
  obtain ⟨rfl, rfl⟩ := h₁
  have eS : (s.heap.push { cls := .type "list", data := .seq #[] }).get? s.heap.objs.size = some (lstO #[] 0) := Heap.get?_push_size _ rfl
  refine ⟨⟨_, eS, rfl⟩, PySem.F.args_list_init_2 _ _, ?_⟩
  show wpAny _ _ (Builtin.List.listItems (.ref s.heap.objs.size) >>= _) _ _ _
  refine wpAny_bind ?_
  simp only [Builtin.List.listItems]
  refine wpAny_bind (wpAny_seqItems eS rfl (wpAny_pure ?_))
  show wpAny _ _ (updateSeq s.heap.objs.size (fun _ => #[]) >>= _) _ _ _
  refine wpAny_bind (wpAny_updateSeq eS rfl ?_)
  refine wpAny_bind (wpAny_letGo ?_)
  have on : ∀ b o, b ≠ s.heap.objs.size → s.heap.get? b = some o → ((s.heap.push { cls := .type "list", data := .seq #[] }).update s.heap.objs.size (Obj.mapSeq (fun _ => (#[] : Array Value)))).get? b = some o := fun b o hb e => (Heap.get?_update_other _ _ (Ne.symm hb)).trans (Heap.get?_push_of_some _ e)
  refine zs_extend (A := A.in1) (R := wants (fun r s₂ => r = .none ∧ Q (.ref s.heap.objs.size) s₂) E) hh D N hn hl (g.keep N on) (Heap.get?_update_self (Obj.mapSeq (fun _ => (#[] : Array Value))) eS rfl) .none fun h' tk c as acc a1 a2 a3 a4 a5 => ?_
  exact ⟨rfl, hQ h' tk c as acc a1 a2 a3 a4 fun b o b1 b2 b3 b4 b5 e => a5 b o b1 b2 b3 b4 b5 (on b o b1 e)⟩
end
end Rd

set_option Elab.async false
set_option linter.all false
set_option maxRecDepth 100000
set_option autoImplicit false
set_option maxHeartbeats 4000000
namespace Rd
open PySem PySem.Spec PyProof.Rows PySem.W L2
/-- a list at S and tuples at as are laid -/
def layP (H : Hp) (S : Addr) (as : List Addr) (xs ys : List L2.V) : Hp := fun b =>
  if b = S then some (.lst (as.map V.ref)) else if b ∈ as then some (.tup [xs.getD (as.idxOf b) .non, ys.getD (as.idxOf b) .non]) else H b
theorem layP_S {H : Hp} {S : Addr} {as : List Addr} {xs ys : List L2.V} : layP H S as xs ys S = some (.lst (as.map V.ref)) := if_pos rfl
theorem layP_off {H : Hp} {S b : Addr} {as : List Addr} {xs ys : List L2.V} (h1 : b ≠ S) (h2 : b ∉ as) : layP H S as xs ys b = H b := (if_neg h1).trans (if_neg h2)
theorem layP_at {H : Hp} {S : Addr} {as : List Addr} {xs ys : List L2.V} {j : Nat} {a : Addr} {x y : L2.V} (nd : as.Nodup) (hS : a ≠ S) (hj : as[j]? = some a) (hx : xs[j]? = some x) (hy : ys[j]? = some y) : layP H S as xs ys a = some (.tup [x, y]) := by
  have hm : a ∈ as := List.mem_of_getElem? hj
  have e : as.idxOf a = j := by
    obtain ⟨hl, e⟩ := List.getElem?_eq_some_iff.1 hj
    rw [← e]
    exact nd.idxOf_getElem j hl
  unfold layP
  rw [if_neg hS, if_pos hm, e, List.getD_eq_getElem?_getD, List.getD_eq_getElem?_getD, hx, hy]
  rfl
theorem vals_get : ∀ {vs : List L2.V} {us : List Value}, Vals vs us → ∀ {j : Nat} {u : Value}, us[j]? = some u → ∃ v, vs[j]? = some v ∧ RelV v u
  | _, _, .nil, _, _, h => by cases h
  | _, _, .cons r t, 0, _, h => by cases h; exact ⟨_, rfl, r⟩
  | _, _, .cons r t, j + 1, _, h => vals_get t h
def tLZ (K : PySem.W.Frag) (ta : TA) : TE := fun σ H Q => ta σ H fun vs H1 => ∃ (a b : Addr) (xs ys : List L2.V), vs = [.ref a, .ref b] ∧ SqL K H1 a xs ∧ SqL K H1 b ys ∧ xs.length = ys.length ∧
  ∀ (p : Addr) (ts : List Addr) (H' : Hp), Same H1 H' → H1 p = none → H' p = some (.lst (ts.map V.ref)) → ts.length = xs.length → (∀ (j : Nat) (t : Addr), ts[j]? = some t → ∃ x y, xs[j]? = some x ∧ ys[j]? = some y ∧ H' t = some (.tup [x, y])) → Q (.ref p) H'
section
variable {X : Cx} {pins : List (Addr × Obj)} {σ : L2.St} {H : Hp} {s : Shared}
theorem zip_laid {S : Addr} {h' : Heap} {tk c : Nat} {as : List Addr} {acc xa ya : Array Value} {xs ys : List L2.V} (I : Inv X pins σ H s) (hS : s.heap.objs.size ≤ S) (G : ZG S xa ya h' as) (hl : as.length = xa.size) (hz : xa.size ≤ sizeLine)
    (eS : h'.get? S = some (lstO acc c)) (ea : acc.toList = as.map Value.ref) (rx : Vals xs xa.toList) (ry : Vals ys ya.toList) (hk : ∀ b o, s.heap.get? b = some o → h'.get? b = some o) :
    Inv X pins σ (layP H S as xs ys) { s with heap := h', toks := tk } ∧ Same H (layP H S as xs ys) ∧ H S = none ∧ ∀ (j : Nat) (t : Addr), as[j]? = some t → ∃ x y, xs[j]? = some x ∧ ys[j]? = some y ∧ layP H S as xs ys t = some (.tup [x, y]) := by
  have nd : as.Nodup := List.Pairwise.imp (fun h => Nat.ne_of_lt h) G.rise
  have nS : H S = none := I.hok.fresh hS
  have na : ∀ t ∈ as, H t = none := fun t ht => I.hok.fresh (Nat.le_of_lt (Nat.lt_of_le_of_lt hS (G.above t ht).1))
  have kp : ∀ b u, H b = some u → layP H S as xs ys b = some u := fun b u e => by
    rw [layP_off (ne_of_none e nS) fun z => by rw [na b z] at e; cases e]
    exact e
  have low : ∀ b o, s.heap.get? b = some o → b ≠ S ∧ b ∉ as := fun b o e => by
    have lt := Heap.lt_size e
    exact ⟨fun z => absurd (z ▸ lt) (Nat.not_lt.2 hS), fun z => absurd (Nat.lt_trans lt (Nat.lt_of_le_of_lt hS (G.above b z).1)) (Nat.lt_irrefl _)⟩
  have prs : ∀ (j : Nat) (t : Addr), as[j]? = some t → ∃ x y u v, xs[j]? = some x ∧ ys[j]? = some y ∧ layP H S as xs ys t = some (.tup [x, y]) ∧ RelV x u ∧ RelV y v ∧ IsPair h' t u v := fun j t hj => by
    obtain ⟨u, v, e1, e2, e3⟩ := G.pair j t hj
    obtain ⟨x, f1, r1⟩ := vals_get rx (j := j) (u := u) (by rw [Array.getElem?_toList]; exact e1)
    obtain ⟨y, f2, r2⟩ := vals_get ry (j := j) (u := v) (by rw [Array.getElem?_toList]; exact e2)
    exact ⟨x, y, u, v, f1, f2, layP_at nd (Nat.ne_of_gt (G.above t (List.mem_of_getElem? hj)).1) hj f1 f2, r1, r2, e3⟩
  refine ⟨?_, kp, nS, fun j t hj => let ⟨x, y, _, _, f1, f2, f3, _⟩ := prs j t hj; ⟨x, y, f1, f2, f3⟩⟩
  refine I.call' (ch := []) rfl ⟨fun b o q _ _ _ => hk b o q, fun b o q _ _ _ => ⟨o.slots, hk b o q⟩, fun b o q n _ => by rw [layP_off (low b o q).1 (low b o q).2]; exact n, fun b o q _ => ⟨o, hk b o q⟩, fun b us q => kp b _ q, fun b o u q => kp b _ q, fun b ps q => ⟨#[], by rw [kp b _ q]; simp⟩⟩
    (fun b u q => ?_) I.bare fun b z => by simp at z
  by_cases hb : b = S
  · subst hb
    rw [layP_S] at q
    cases q
    refine ⟨by rw [List.length_map, hl]; exact hz, acc.toList, c, by rw [ea]; exact LiI.vals_refs as, ?_⟩
    rw [Array.toArray_toList]
    exact eS
  · by_cases hb2 : b ∈ as
    · obtain ⟨j, hj⟩ := List.mem_iff_getElem?.1 hb2
      obtain ⟨x, y, u1, u2, f1, f2, f3, r1, r2, f4⟩ := prs j b hj
      rw [f3] at q
      cases q
      exact ⟨by show 2 ≤ sizeLine; decide, [u1, u2], .cons r1 (.cons r2 .nil), ⟨_, f4, rfl, _, rfl⟩⟩
    · rw [layP_off hb hb2] at q
      exact (I.hok b u q).stay (fun d v _ y => hk d v y) (fun d y => kp d _ y) fun d us y => kp d _ y
end
section
variable {X : Cx} {e e2 : Expr} {ta : TA} {p pz pos pos2 : Pos}
/-- list(zip(e, e2)) -/
theorem pe_listzip (hc : X.calm = true) (hg : Gl X "list") (hm : X.mg "list" = none) (hgz : Gl X "zip") (hmz : X.mg "zip" = none) (ha : PA X [e, e2] ta)
    (hs : starEach [.Call (.Name "zip" pz) [e, e2] [] pos2] X.env = (false, eval (.Call (.Name "zip" pz) [e, e2] [] pos2) X.env) :: starEach [] X.env := by rfl) (hs2 : starEach [e, e2] X.env = (false, eval e X.env) :: starEach [e2] X.env := by rfl)
    (hpl : (backTo pos2 (starEach [e2] X.env)).any (·.1) = false := by rfl) : PE X (.Call (.Name "list" p) [.Call (.Name "zip" pz) [e, e2] [] pos2] [] pos) (tLZ X.K ta) := by
  refine ⟨fun pins s σ H Q I hq => ?_⟩
  refine wpAny_Call_Name_kw (ld_blt I hg hm boot_list ?_)
  refine PyProof.Rows.callWith_type1 ?_ hs rfl
  rw [hs]
  refine Calls.spliced_cons (wpAny_Call_Name_kw (ld_blt I hgz hmz PyProof.Rows.boot_zip (PyProof.Rows.callWith_type1 (thn (ha.run pos2 pins s σ H _ I hq) fun us s1 ⟨vs, H1, I1, r1, q1⟩ => ?_) hs2 hpl)))
  obtain ⟨a, b, xs, ys, ev, hqx, hqy, hl, q⟩ := q1
  subst ev
  cases r1 with
  | cons ra rr =>
    cases rr with
    | cons rb rr =>
      cases rr
      cases ra
      cases rb
      obtain ⟨its, rv, p1, z1⟩ := I1.list hqx
      obtain ⟨its2, rv2, p2, z2⟩ := I1.list hqy
      have l1 := rv.length
      have l2 := rv2.length
      refine call_zip_2 p1.isList p2.isList fun h' hz hTI hTO h1 h2 hsz hk => Calls.spliced_nil ?_
      have D := PySem.W.ktu_apart s1.heap.objs.size a b p1.lt p2.lt
      have N : ZN (s1.heap.objs.size + 4) (s1.heap.objs.size + 2) (s1.heap.objs.size + 3) s1.heap.objs.size (s1.heap.objs.size + 1) a b h'.objs.size := by
        have la := p1.lt
        have lb := p2.lt
        rw [hsz]
        exact ⟨Nat.lt_succ_self _, Nat.add_lt_add_left (by decide : 2 < 5) _, Nat.add_lt_add_left (by decide : 3 < 5) _, Nat.lt_add_of_pos_right (by decide), Nat.add_lt_add_left (by decide : 1 < 5) _, Nat.lt_of_lt_of_le la (Nat.le_add_right _ _), Nat.lt_of_lt_of_le lb (Nat.le_add_right _ _)⟩
      refine zs_list (s := { s1 with heap := h' }) (xs := its.toArray) (ys := its2.toArray) (I1.ok.hd hc) D N (by rw [List.size_toArray, ← l1]; omega) (by rw [List.size_toArray, List.size_toArray]; omega)
        ⟨hTI, h1, h2, p1.isList.at fun o => hk _ o, p2.isList.at fun o => hk _ o, .inl ⟨hz, _, _, hTO⟩⟩ fun h'' tk c as acc G al eS ea k2 => ?_
      have hS : s1.heap.objs.size ≤ h'.objs.size := by rw [hsz]; omega
      have kk : ∀ b o, s1.heap.get? b = some o → h''.get? b = some o := fun b o e => by
        have lt := Heap.lt_size e
        have lt2 : b < h'.objs.size := Nat.lt_of_lt_of_le lt hS
        exact k2 b o (Nat.ne_of_lt lt2) (Nat.ne_of_lt (Nat.lt_of_lt_of_le lt (Nat.le_add_right _ _))) (Nat.ne_of_lt (Nat.lt_of_lt_of_le lt (Nat.le_add_right _ _))) (Nat.ne_of_lt lt) (Nat.ne_of_lt (Nat.lt_of_lt_of_le lt (Nat.le_add_right _ _))) (hk b o e)
      obtain ⟨J, sm, nS, prs⟩ := zip_laid (tk := tk) (xs := xs) (ys := ys) I1 hS G al (by rw [List.size_toArray, ← l1]; omega) eS ea (by simpa using rv) (by simpa using rv2) kk
      exact ⟨.ref _, _, J, rfl, q _ as _ sm nS layP_S (by rw [al, List.size_toArray]; omega) prs⟩
end
/-- a, b as a target, where the reading must not speak of the context -/
theorem pg_tupK {X : Cx} {K : PySem.W.Frag} {es : List Expr} {k : Nat} {pos : Pos} {t : TGs} {n : Nat} (hc : X.calm = true) (h : PGs X es t) (hn : (assignEach es X.env).length = n := by rfl) (hst : (assignEach es X.env).findIdx? (·.1) = none := by rfl) (hk : X.K = K := by rfl) : PG X (.Tuple es k pos) (gTup K n t) :=
  hk ▸ pg_tup hc h hn hst
end Rd

set_option Elab.async false
set_option linter.all false
set_option maxRecDepth 100000
set_option autoImplicit false
set_option maxHeartbeats 4000000
/-! == of two lists of ints, bools and None with the same items -/
namespace Rd
open PySem PySem.Spec PyProof.Rows L2
def flV : V → Bool
  | .int _ => true
  | .bl _ => true
  | .non => true
  | _ => false
def datV : V → PyData
  | .int i => .int i
  | .bl b => .bool b
  | _ => .none
theorem dp_flat {K : PySem.W.Frag} {H : Hp} {v : V} (h : flV v = true) : Dp K H v (datV v) := by
  cases v with
  | int i => exact .int i
  | bl b => exact .bl b
  | non => exact .non
  | _ => cases h
theorem dpAll_flat {K : PySem.W.Frag} {H : Hp} : ∀ {vs : List V}, vs.all flV = true → DpAll K H vs (vs.map datV)
  | [], _ => .nil
  | v :: vs, h => by
    rw [List.all_cons, Bool.and_eq_true] at h
    exact .cons (dp_flat h.1) (dpAll_flat h.2)
theorem lay_flat : ∀ (vs : List V), PyData.canLayAll0 (vs.map datV) = true
  | [] => rfl
  | v :: vs => by
    rw [List.map_cons, PyData.canLayAll0, lay_flat vs, Bool.and_true]
    cases v <;> rfl
theorem depth_flat : ∀ (vs : List V), PyData.depthAll (vs.map datV) ≤ 1
  | [] => by simp [PyData.depthAll]
  | v :: vs => by
    have := depth_flat vs
    rw [List.map_cons, PyData.depthAll]
    have e : PyData.depth (datV v) ≤ 1 := by cases v <;> simp [datV, PyData.depth]
    omega
theorem shaped_flat (vs : List V) : SeqAt.shaped (.list (vs.map datV)) = true := by
  have := depth_flat vs
  unfold SeqAt.shaped
  rw [PyData.canLay0, lay_flat, PyData.depth, Bool.true_and]
  exact decide_eq_true (by omega)
theorem w_eqL {K : PySem.W.Frag} {H : Hp} {Q : VK} {a b : Addr} {vs : List V} (h1 : H a = some (.lst vs)) (h2 : H b = some (.lst vs)) (f : vs.all flV = true) (q : Q (.bl true) H) : rEqD K (.ref a) (.ref b) H Q := by
  refine w_eqD (.lst (SqL.of h1) (dpAll_flat f)) (.lst (SqL.of h2) (dpAll_flat f)) (shaped_flat vs) (shaped_flat vs) ?_
  rw [SeqAt.eqv_refl _ (by rw [PyData.canLay0]; exact lay_flat vs)]
  exact q
theorem w_eqT2 {K : PySem.W.Frag} {H : Hp} {Q : VK} {a b : Addr} {x y x' y' : Int} (h1 : H a = some (.tup [.int x, .int y])) (h2 : H b = some (.tup [.int x', .int y'])) (e1 : x = x') (e2 : y = y') (q : Q (.bl true) H) : rEqD K (.ref a) (.ref b) H Q := by
  subst e1 e2
  have sh : SeqAt.shaped (.tuple [.int x, .int y]) = true := by
    unfold SeqAt.shaped
    simp [PyData.canLay0, PyData.canLayAll0, PyData.depth, PyData.depthAll]
  refine w_eqD (.tup (SqT.of h1) (.cons (.int x) (.cons (.int y) .nil))) (.tup (SqT.of h2) (.cons (.int x) (.cons (.int y) .nil))) sh sh ?_
  rw [SeqAt.eqv_refl _ (by simp [PyData.canLay0, PyData.canLayAll0])]
  exact q
theorem w_neT2 {K : PySem.W.Frag} {H : Hp} {Q : VK} {a b : Addr} {x y x' y' : Int} (h1 : H a = some (.tup [.int x, .int y])) (h2 : H b = some (.tup [.int x', .int y'])) (e1 : x = x') (e2 : y = y') (q : Q (.bl false) H) : rNeD K (.ref a) (.ref b) H Q := by
  subst e1 e2
  have sh : SeqAt.shaped (.tuple [.int x, .int y]) = true := by
    unfold SeqAt.shaped
    simp [PyData.canLay0, PyData.canLayAll0, PyData.depth, PyData.depthAll]
  refine ⟨_, _, .tup (SqT.of h1) (.cons (.int x) (.cons (.int y) .nil)), .tup (SqT.of h2) (.cons (.int x) (.cons (.int y) .nil)), sh, sh, ?_⟩
  rw [SeqAt.eqv_refl _ (by simp [PyData.canLay0, PyData.canLayAll0])]
  exact q
end Rd

set_option Elab.async false
set_option linter.all false
set_option maxRecDepth 100000
set_option autoImplicit false
set_option maxHeartbeats 4000000
/-! == of two structures whose parts are the same objects, or plain and the same -/
namespace Rd
open PySem PySem.Spec PyProof.Rows L2
def flVs : V → Bool
  | .int _ => true
  | .bl _ => true
  | .non => true
  | .str _ => true
  | _ => false
inductive Al (K : PySem.W.Frag) (H : Hp) : Nat → V → V → Prop
  | ref {n : Nat} (a : Addr) : Al K H n (.ref a) (.ref a)
  | flat {n : Nat} {v : V} (h : flVs v = true) : Al K H n v v
  | lst {n : Nat} {a b : Addr} {xs ys : List V} (h1 : SqL K H a xs) (h2 : SqL K H b ys) (hl : xs.length = ys.length) (hi : ∀ (j : Nat) (x y : V), xs[j]? = some x → ys[j]? = some y → Al K H n x y) : Al K H (n + 1) (.ref a) (.ref b)
  | tup {n : Nat} {a b : Addr} {xs ys : List V} (h1 : SqT K H a xs) (h2 : SqT K H b ys) (hl : xs.length = ys.length) (hi : ∀ (j : Nat) (x y : V), xs[j]? = some x → ys[j]? = some y → Al K H n x y) : Al K H (n + 1) (.ref a) (.ref b)
theorem vals_at {xs : List V} {us : List Value} (h : Vals xs us) : ∀ {j : Nat} {u : Value}, us[j]? = some u → ∃ x, xs[j]? = some x ∧ RelV x u := by
  induction h with
  | nil => intro j u e; rw [List.getElem?_nil] at e; cases e
  | cons r _ ih =>
    intro j u e
    cases j with
    | zero => cases e; exact ⟨_, rfl, r⟩
    | succ j => rw [List.getElem?_cons_succ] at e; obtain ⟨x, e1, e2⟩ := ih e; exact ⟨x, by rw [List.getElem?_cons_succ]; exact e1, e2⟩
section
variable {X : Cx} {pins : List (Addr × Obj)} {σ : L2.St} {H : Hp} {s : Shared}
theorem flat_eqAt {v : V} {u u' : Value} (h : flVs v = true) (r : RelV v u) (r' : RelV v u') (A : Around) : SeqAt.EqAt A s u u' true := by
  cases v with
  | int i => obtain ⟨t, rfl⟩ := r; obtain ⟨t', rfl⟩ := r'; have := SeqAt.EqAt.int_int (A := A) (s := s) i t i t'; rwa [beq_self_eq_true] at this
  | bl b => cases r; cases r'; exact SeqAt.EqAt.same _
  | non => cases r; cases r'; exact SeqAt.EqAt.same _
  | str x => obtain ⟨t, rfl⟩ := r; obtain ⟨t', rfl⟩ := r'; have := SeqAt.EqAt.str_str (A := A) (s := s) x t x t'; rwa [beq_self_eq_true] at this
  | _ => cases h
theorem all_range (n : Nat) : (List.range n).all (fun _ => true) = true := by
  rw [List.all_eq_true]; exact fun _ _ => rfl
theorem al_eqAt (I : Inv X pins σ H s) : ∀ {n : Nat} {x y : V}, Al X.K H n x y → ∀ {u u' : Value}, RelV x u → RelV y u' → ∀ {A : Around}, A.units + n < cLine → SeqAt.EqAt A s u u' true := by
  intro n x y h
  induction h with
  | ref a => intro u u' r r' A hu; cases r; cases r'; exact SeqAt.EqAt.same _
  | flat h => intro u u' r r' A hu; exact flat_eqAt h r r' A
  | @lst n a b xs ys h1 h2 hl hi ih =>
    intro u u' r r' A hu
    cases r
    cases r'
    by_cases c : a = b
    · subst c; exact SeqAt.EqAt.same _
    obtain ⟨its, r, e, z⟩ := I.list h1
    obtain ⟨its2, r2, e2, z2⟩ := I.list h2
    refine SeqAt.EqAt.of_refs c ?_
    have l1 := r.length
    have l2 := r2.length
    have := SeqAt.RcAt.lists (A := A) (e := fun _ => true) e.isList e2.isList (by rw [List.size_toArray, List.size_toArray]; omega) (by omega) (fun j g1 g2 => by
      obtain ⟨x, ex, rx⟩ := vals_at r (j := j) (u := its.toArray[j]) (by rw [List.getElem_toArray]; exact List.getElem?_eq_getElem _)
      obtain ⟨y, ey, ry⟩ := vals_at r2 (j := j) (u := its2.toArray[j]) (by rw [List.getElem_toArray]; exact List.getElem?_eq_getElem _)
      exact ih j x y ex ey rx ry (A := A.in1) (by have : A.in1.units = A.units + 1 := rfl; omega))
    rwa [all_range] at this
  | @tup n a b xs ys h1 h2 hl hi ih =>
    intro u u' r r' A hu
    cases r
    cases r'
    by_cases c : a = b
    · subst c; exact SeqAt.EqAt.same _
    obtain ⟨its, r, e, z⟩ := I.tuple h1
    obtain ⟨its2, r2, e2, z2⟩ := I.tuple h2
    refine SeqAt.EqAt.of_refs c ?_
    have l1 := r.length
    have l2 := r2.length
    have := SeqAt.RcAt.tuples (A := A) (e := fun _ => true) e e2 (by omega) (fun j g1 g2 => by
      obtain ⟨x, ex, rx⟩ := vals_at r (j := j) (u := its.toArray[j]) (by rw [List.getElem_toArray]; exact List.getElem?_eq_getElem _)
      obtain ⟨y, ey, ry⟩ := vals_at r2 (j := j) (u := its2.toArray[j]) (by rw [List.getElem_toArray]; exact List.getElem?_eq_getElem _)
      exact ih j x y ex ey rx ry (A := A.in1) (by have : A.in1.units = A.units + 1 := rfl; omega))
    rw [all_range, List.size_toArray, List.size_toArray, show its.length = its2.length by omega, beq_self_eq_true] at this
    exact this
/-- == and != of two such structures -/
def rEqAl (K : PySem.W.Frag) : R2 := fun x y H Q => ∃ n a b, x = .ref a ∧ y = .ref b ∧ a ≠ b ∧ n ≤ 60 ∧ Al K H n x y ∧ Q (.bl true) H
def rNeAl (K : PySem.W.Frag) : R2 := fun x y H Q => ∃ n a b, x = .ref a ∧ y = .ref b ∧ a ≠ b ∧ n ≤ 60 ∧ Al K H n x y ∧ Q (.bl false) H
theorem op_eqAl (hu : X.A.units + 64 < cLine) : OpR X (compareOp .Eq) (rEqAl X.K) := by
  intro pins s σ H x y v u Q I rx ry h
  obtain ⟨n, a, b, rfl, rfl, ne, hn, al, q⟩ := h
  cases rx
  cases ry
  have go : ∀ k, k = true → SeqAt.RcAt X.A s (.ref a) (.ref b) k → wpAny (model X.prog X.w) X.A (compareOp .Eq (.ref a) (.ref b)) (EP X pins σ Q) X.xe s := fun k hk h => by
    refine h _ _ _ _ ?_
    rw [hk]
    exact ⟨.bl _, H, I, rfl, q⟩
  cases al with
  | ref => exact absurd rfl ne
  | flat h => cases h
  | @lst n _ _ xs ys h1 h2 hl hi =>
    obtain ⟨its, r, e, z⟩ := I.list h1
    obtain ⟨its2, r2, e2, z2⟩ := I.list h2
    have l1 := r.length
    have l2 := r2.length
    have := SeqAt.RcAt.lists (A := X.A) (e := fun _ => true) e.isList e2.isList (by rw [List.size_toArray, List.size_toArray]; omega) (by omega) (fun j g1 g2 => by
      obtain ⟨x, ex, rx⟩ := vals_at r (j := j) (u := its.toArray[j]) (by rw [List.getElem_toArray]; exact List.getElem?_eq_getElem _)
      obtain ⟨y, ey, ry⟩ := vals_at r2 (j := j) (u := its2.toArray[j]) (by rw [List.getElem_toArray]; exact List.getElem?_eq_getElem _)
      exact al_eqAt I (hi j x y ex ey) rx ry (A := X.A.in1) (by have : X.A.in1.units = X.A.units + 1 := rfl; omega))
    exact go _ (all_range _) this
  | @tup n _ _ xs ys h1 h2 hl hi =>
    obtain ⟨its, r, e, z⟩ := I.tuple h1
    obtain ⟨its2, r2, e2, z2⟩ := I.tuple h2
    have l1 := r.length
    have l2 := r2.length
    have := SeqAt.RcAt.tuples (A := X.A) (e := fun _ => true) e e2 (by omega) (fun j g1 g2 => by
      obtain ⟨x, ex, rx⟩ := vals_at r (j := j) (u := its.toArray[j]) (by rw [List.getElem_toArray]; exact List.getElem?_eq_getElem _)
      obtain ⟨y, ey, ry⟩ := vals_at r2 (j := j) (u := its2.toArray[j]) (by rw [List.getElem_toArray]; exact List.getElem?_eq_getElem _)
      exact al_eqAt I (hi j x y ex ey) rx ry (A := X.A.in1) (by have : X.A.in1.units = X.A.units + 1 := rfl; omega))
    exact go _ (by rw [all_range, List.size_toArray, List.size_toArray, show its.length = its2.length by omega, beq_self_eq_true]; rfl) this
theorem op_neAl (hu : X.A.units + 64 < cLine) : OpR X (compareOp .NotEq) (rNeAl X.K) := by
  intro pins s σ H x y v u Q I rx ry h
  obtain ⟨n, a, b, rfl, rfl, ne, hn, al, q⟩ := h
  cases rx
  cases ry
  have go : ∀ k, k = false → SeqAt.RcNeAt X.A s (.ref a) (.ref b) k → wpAny (model X.prog X.w) X.A (compareOp .NotEq (.ref a) (.ref b)) (EP X pins σ Q) X.xe s := fun k hk h => by
    refine h _ _ _ _ ?_
    rw [hk]
    exact ⟨.bl _, H, I, rfl, q⟩
  cases al with
  | ref => exact absurd rfl ne
  | flat h => cases h
  | @lst n _ _ xs ys h1 h2 hl hi =>
    obtain ⟨its, r, e, z⟩ := I.list h1
    obtain ⟨its2, r2, e2, z2⟩ := I.list h2
    have l1 := r.length
    have l2 := r2.length
    have := SeqAt.RcNeAt.lists (A := X.A) (e := fun _ => true) e.isList e2.isList (by rw [List.size_toArray, List.size_toArray]; omega) (by omega) (fun j g1 g2 => by
      obtain ⟨x, ex, rx⟩ := vals_at r (j := j) (u := its.toArray[j]) (by rw [List.getElem_toArray]; exact List.getElem?_eq_getElem _)
      obtain ⟨y, ey, ry⟩ := vals_at r2 (j := j) (u := its2.toArray[j]) (by rw [List.getElem_toArray]; exact List.getElem?_eq_getElem _)
      exact al_eqAt I (hi j x y ex ey) rx ry (A := X.A.in1) (by have : X.A.in1.units = X.A.units + 1 := rfl; omega))
    exact go _ (by rw [all_range]; rfl) this
  | @tup n _ _ xs ys h1 h2 hl hi =>
    obtain ⟨its, r, e, z⟩ := I.tuple h1
    obtain ⟨its2, r2, e2, z2⟩ := I.tuple h2
    have l1 := r.length
    have l2 := r2.length
    have := SeqAt.RcNeAt.tuples (A := X.A) (e := fun _ => true) e e2 (by omega) (fun j g1 g2 => by
      obtain ⟨x, ex, rx⟩ := vals_at r (j := j) (u := its.toArray[j]) (by rw [List.getElem_toArray]; exact List.getElem?_eq_getElem _)
      obtain ⟨y, ey, ry⟩ := vals_at r2 (j := j) (u := its2.toArray[j]) (by rw [List.getElem_toArray]; exact List.getElem?_eq_getElem _)
      exact al_eqAt I (hi j x y ex ey) rx ry (A := X.A.in1) (by have : X.A.in1.units = X.A.units + 1 := rfl; omega))
    exact go _ (by rw [all_range, List.size_toArray, List.size_toArray, show its.length = its2.length by omega, beq_self_eq_true]; rfl) this
end
section
variable {K : PySem.W.Frag} {H : Hp} {Q : VK}
theorem w_eqAl {n : Nat} {a b : Addr} (ne : a ≠ b) (hn : n ≤ 60) (al : Al K H n (.ref a) (.ref b)) (q : Q (.bl true) H) : rEqAl K (.ref a) (.ref b) H Q := ⟨n, a, b, rfl, rfl, ne, hn, al, q⟩
theorem w_neAl {n : Nat} {a b : Addr} (ne : a ≠ b) (hn : n ≤ 60) (al : Al K H n (.ref a) (.ref b)) (q : Q (.bl false) H) : rNeAl K (.ref a) (.ref b) H Q := ⟨n, a, b, rfl, rfl, ne, hn, al, q⟩
end
end Rd

set_option Elab.async false
set_option linter.all false
set_option maxRecDepth 100000
set_option autoImplicit false
set_option maxHeartbeats 4000000
/-! the same number with an odd top is one alone -/
namespace Nu
open PySem L2
theorem opu : ∀ (k j : Nat) (m n : Int), (2 : Int) ^ k * (2 * m + 1) = 2 ^ j * (2 * n + 1) → k = j ∧ m = n
  | 0, 0, m, n, h => ⟨rfl, by rw [Int.pow_zero, Int.one_mul, Int.one_mul] at h; omega⟩
  | 0, j + 1, m, n, h => by
    rw [Int.pow_zero, Int.one_mul, Int.pow_succ, Int.mul_comm (2 ^ j) 2, Int.mul_assoc] at h
    omega
  | k + 1, 0, m, n, h => by
    rw [Int.pow_zero, Int.one_mul, Int.pow_succ, Int.mul_comm (2 ^ k) 2, Int.mul_assoc] at h
    omega
  | k + 1, j + 1, m, n, h => by
    rw [Int.pow_succ, Int.pow_succ, Int.mul_comm (2 ^ k) 2, Int.mul_assoc, Int.mul_comm (2 ^ j) 2, Int.mul_assoc] at h
    obtain ⟨a, b⟩ := opu k j m n (by omega)
    exact ⟨by omega, b⟩
theorem red_of {m : Int} (hm : 0 ≤ m) (k : Nat) (p : Int) : red (2 ^ k * (2 * m + 1)) p = (2 * m + 1, p + k) := by
  have hp : (0 : Int) < 2 ^ k * (2 * m + 1) := Int.mul_pos (pow_pos2 k) (by omega)
  obtain ⟨j, n, hn, e, r⟩ := red_spec hp p
  obtain ⟨a, b⟩ := opu _ _ _ _ e
  subst a
  subst b
  exact r
theorem red_mul {t : Int} (h : 0 ≤ t) (p : Int) (k : Nat) : red (t * 2 ^ k) (p - k) = red t p := by
  by_cases z : t = 0
  · subst z
    rw [Int.zero_mul, red_zero, red_zero]
  obtain ⟨j, m, hm, e, r⟩ := red_spec (show 0 < t by omega) p
  rw [r, e, Int.mul_comm, ← Int.mul_assoc, ← Int.pow_add, red_of hm]
  have : p - (k : Int) + ((k + j : Nat) : Int) = p + (j : Int) := by omega
  rw [this]
theorem red_half {t : Int} (h : 0 < t) (he : t % 2 = 0) (p : Int) : red (t / 2) (p + 1) = red t p := by
  have e : t = t / 2 * 2 ^ 1 := by rw [Int.pow_succ, Int.pow_zero]; omega
  have := red_mul (t := t / 2) (by omega) (p + 1) 1
  rw [← e] at this
  rw [← this]
  congr 1
  omega
theorem red_odd {t : Int} (h : 0 < t) (he : t % 2 = 1) (p : Int) : red t p = (t, p) := by
  have := red_of (m := t / 2) (by omega) 0 p
  rw [Int.pow_zero, Int.one_mul, show 2 * (t / 2) + 1 = t by omega] at this
  rw [this]
  congr 1
  omega
theorem red_inj {t u p : Int} (ht : 0 ≤ t) (hu : 0 ≤ u) (e : red t p = red u p) : t = u := by
  by_cases z : t = 0
  · by_cases y : u = 0
    · omega
    · obtain ⟨j, m, hm, e2, r⟩ := red_spec (show 0 < u by omega) p
      rw [z, red_zero, r] at e
      have := congrArg Prod.fst e
      simp only at this
      omega
  · obtain ⟨j, m, hm, e2, r⟩ := red_spec (show 0 < t by omega) p
    by_cases y : u = 0
    · rw [y, red_zero, r] at e
      have := congrArg Prod.fst e
      simp only at this
      omega
    · obtain ⟨j', m', hm', e2', r'⟩ := red_spec (show 0 < u by omega) p
      rw [r, r'] at e
      have a := congrArg Prod.fst e
      have b := congrArg Prod.snd e
      simp only at a b
      have : m = m' := by omega
      have : j = j' := by omega
      subst m' j'
      rw [e2, e2']
theorem red_nn {t : Int} (h : 0 ≤ t) (p : Int) : 0 ≤ (red t p).1 := by
  by_cases z : t = 0
  · rw [z, red_zero]; decide
  · obtain ⟨j, m, hm, e2, r⟩ := red_spec (show 0 < t by omega) p
    rw [r]
    show 0 ≤ 2 * m + 1
    omega
theorem red_le {t : Int} (h : 0 ≤ t) (p : Int) : (red t p).1 ≤ t := by
  by_cases z : t = 0
  · rw [z, red_zero]; decide
  · obtain ⟨j, m, hm, e2, r⟩ := red_spec (show 0 < t by omega) p
    rw [r]
    show 2 * m + 1 ≤ t
    rw [e2]
    have := pow_pos2 j
    have : 1 * (2 * m + 1) ≤ 2 ^ j * (2 * m + 1) := Int.mul_le_mul_of_nonneg_right (by omega) (by omega)
    omega
/-- the law's question -/
def isF (t p : Int) : Bool := decide (t = 0) || (decide (-1074 ≤ p) && (decide (bits t ≤ 53) && decide (bits t + p ≤ 1024)))
theorem isF_eq {t p : Int} (h : 0 ≤ t) : isF t p = fitsB t p := by
  have e : decide (bits t ≤ 53) = decide (t < 9007199254740992) := by
    rw [show (9007199254740992 : Int) = 2 ^ 53 by decide]
    exact decide_eq_decide.2 (bits_lt_pow h (k := 53))
  unfold isF fitsB
  rw [e, Bool.or_comm]
  cases decide (-1074 ≤ p) <;> cases decide (t < 9007199254740992) <;> cases decide (bits t + p ≤ 1024) <;> cases decide (t = 0) <;> rfl
end Nu

set_option Elab.async false
set_option linter.all false
set_option maxRecDepth 100000
set_option autoImplicit false
set_option maxHeartbeats 4000000
namespace Rd
open PySem PySem.Spec PyProof.Rows L2 L2.DX
/-! ### dicts by tuples: get, pop, in, put -/
def rGetD : V → List V → Hp → VK → Prop := fun x xs H Q => ∃ a y o, x = .ref a ∧ xs = [y] ∧ DGet H a y o ∧ Q (o.getD .non) H
section
variable {X : Cx} {o i value : Expr} {pos pos' : Pos} {td ty tv : TE}
theorem mt_getD (hu : X.A.units + 64 < cLine) : MtR X "dict.get" rGetD := by
  intro pins s σ H x xs v us Q I rx rxs h
  obtain ⟨a, y, o, rfl, rfl, g, q⟩ := h
  obtain ⟨u, rfl, r1⟩ := vals1 rxs
  obtain rfl : v = .ref a := rx
  exact d_get1 (by omega) I g r1 fun w' s' I' rw' => ⟨_, H, I', rw', q⟩
theorem mt_popD (hu : X.A.units + 64 < cLine) : MtR X "dict.pop" rPopT := mt_popT (by omega)
theorem pc_dnin (hu : X.A.units + 64 < cLine) (hi : PE X i ty) (ho : PE X o td) : PC X .NotIn i o (tDNotIn ty td) := pc_dnotin (by omega) hi ho
theorem pc_dinD (hu : X.A.units + 64 < cLine) (hi : PE X i ty) (ho : PE X o td) : PC X .In i o (tDIn ty td) := pc_din (by omega) hi ho
theorem pe_dixD (hu : X.A.units + 64 < cLine) (ho : PE X o td) (hi : PE X i ty) (hs : NoSl i) : PE X (.Subscript o i pos) (tDGet td ty) := pe_dget (by omega) ho hi hs
theorem ps_dputD (hu : X.A.units + 64 < cLine) (ho : PE X o td) (hi : PE X i ty) (hv : PE X value tv) (hs : swapsWith value (some (.Subscript o i pos')) pos.line X.env = pure false) :
    PS X (.Assign [.Subscript o i pos'] value pos) (sDPut td ty tv) := ps_dput (by omega) ho hi hv hs
/-- o.m(..) of a built-in, where the reading must not speak of the context -/
theorem pe_bmK {K : PySem.W.Frag} {e : Expr} {es : List Expr} {to : TE} {t : TA} {name : Str} {apos cpos : Pos} {T id : String} {r : V → List V → Hp → VK → Prop} (pa : PlainAttrs T) (slot : Slot T name id) (hty : typeOf (.builtin id) = pure (.type "method_descriptor")) (hm : MtR X id r) (ho : PE X o to) (ha : PA X (e :: es) t)
    (hbase : attributeBase o name X.env (eval o X.env) = eval o X.env := by rfl)
    (hfew : ((backTo cpos (starEach (e :: es) X.env)).all (fun x => !x.1) && (backToKw cpos (keywordEach [] X.env)).all (fun x => x.1.isSome)
      && decide ((e :: es).length + ([] : List Keyword).length + (if ([] : List Keyword).isEmpty then 0 else 1) < 30)) = true := by rfl)
    (hline : (apos.endLine == cpos.line) = true := by rfl) (hs : starEach (e :: es) X.env = (false, eval e X.env) :: starEach es X.env := by rfl) (hplain : (backTo cpos (starEach es X.env)).any (·.1) = false := by rfl) (hk : X.K = K := by rfl) :
    PE X (.Call (.Attribute o name apos) (e :: es) [] cpos) (tBM K T r to t) := hk ▸ pe_bm pa slot hty hm ho ha hbase hfew hline hs hplain
end
section
variable {K : PySem.W.Frag} {σ : L2.St} {H : Hp} {Q : VK}
theorem ty_dT {a : Addr} {kvs : List (List Key × V)} (h : H a = some (.dT kvs)) : tyV K "dict" (.ref a) H := .inr (.inr (.inl ⟨rfl, .inr ⟨kvs, h⟩⟩))
theorem w_getD {a b : Addr} {kvs : List (List Key × V)} {k : List Key} (h : H a = some (.dT kvs)) (h' : H b = some (.tup (k.map kV))) (q : Q ((valV kvs k).getD .non) H) : rGetD (.ref a) [.ref b] H Q :=
  ⟨a, _, _, rfl, rfl, DGet.t h h', q⟩
theorem w_popD {a b : Addr} {kvs : List (List Key × V)} {k : List Key} {d : V} (h : H a = some (.dT kvs)) (h' : H b = some (.tup (k.map kV))) (q1 : ∀ v, valV kvs k = some v → Q v (upd H a (.dT (dropK kvs k)))) (q2 : valV kvs k = none → Q d H) : rPopT (.ref a) [.ref b, d] H Q :=
  ⟨a, kvs, k, b, d, rfl, rfl, h, h', q1, q2⟩
theorem w_lenT {a : Addr} {kvs : List (List Key × V)} (h : H a = some (.dT kvs)) (q : Q (.int (kvs.length : Nat)) H) : rLenT [.ref a] H Q := ⟨a, kvs, rfl, h, q⟩
end
end Rd

set_option Elab.async false
set_option linter.all false
set_option maxRecDepth 100000
set_option autoImplicit false
set_option maxHeartbeats 4000000
namespace L2
open PySem PySem.Spec PyProof.Rows
theorem Room.units65 {k : Nat} {A : Around} (r : Room k A) : A.units + 65 < cLine := by have := r.un; omega
end L2
namespace Rd
open PySem PySem.Spec PyProof.Rows L2
section
variable {X : Cx} {K : PySem.W.Frag}
/-! readings that must not speak of the context (in comprehensions) -/
theorem sl_tupK (hk : X.K = K := by rfl) : SlR X (rSlT K) := hk ▸ sl_tup
theorem sl_listK (hk : X.K = K := by rfl) : SlR X (rSlL K) := hk ▸ sl_list
theorem ix_tupK (hk : X.K = K := by rfl) : IxR X (rIxT K) := hk ▸ ix_tup
theorem ix_listK (hk : X.K = K := by rfl) : IxR X (rIxL K) := hk ▸ ix_list
/-- x != y of two such structures, or of plain values -/
def rNeAN (K : PySem.W.Frag) : R2 := fun x y H Q => rNeAl K x y H Q ∨ rNe x y H Q
theorem op_neAN (hu : X.A.units + 64 < cLine) : OpR X (compareOp .NotEq) (rNeAN X.K) := by
  intro pins s σ H x y v u Q I rx ry h
  rcases h with h | h
  · exact op_neAl hu pins s σ H x y v u Q I rx ry h
  · exact op_ne pins s σ H x y v u Q I rx ry h
end
section
variable {K : PySem.W.Frag} {H : Hp} {Q : VK}
theorem w_neAN1 {n : Nat} {a b : Addr} (ne : a ≠ b) (hn : n ≤ 60) (al : Al K H n (.ref a) (.ref b)) (q : Q (.bl false) H) : rNeAN K (.ref a) (.ref b) H Q := .inl (w_neAl ne hn al q)
theorem w_neAN2 (q : Q (.bl false) H) : rNeAN K .non .non H Q := .inr ⟨rfl, q⟩
end
end Rd

set_option Elab.async false
set_option linter.all false
set_option maxRecDepth 100000
set_option maxHeartbeats 4000000
/-! the end of a law three of whose defs (x0, x1, x2) make lambdas: their tables of code objects are empty at the start -/
namespace Rd
open PySem PySem.Spec PyProof.Rows L2 LamX
theorem walk_ofDef3 {l : PySem.W.OpenLaw} {n k : Nat} {q : Program} {loose : List Str} {XP : (Str → Option Value) → Heap → Prop} {YP : World → Heap → Prop} {d : DefRec} {K : Params → PySem.W.Frag} {CX : World → CXT} {x : Str} (x0 x1 x2 : Str)
    (hn : l.most = some n) (hn2 : n ≤ sizeLine) (hdf : d.params.defaults = []) (hr : Room k callerA) (hrec : ((recsOf q).find? fun e => e.name == x0).isSome = true) (hrec1 : ((recsOf q).find? fun e => e.name == x1).isSome = true) (hrec2 : ((recsOf q).find? fun e => e.name == x2).isSome = true) (hY : ∀ (w : World) (h : Heap), YP w h → (K w.params).In h)
    (F : ∀ (w : World) (mg : Str → Option Value) (fa : Addr) (h : Heap), (K w.params).In h → h.Ns mainGlobals mg → mg d.name = some (.ref fa) → (∀ c P, PySem.W.tabIn (K w.params) x0 = some (c, P) → PySem.W.CodeHd h c P ∧ h.get? P = some (PySem.W.tabObj #[])) →
      (∀ c P, PySem.W.tabIn (K w.params) x1 = some (c, P) → PySem.W.CodeHd h c P ∧ h.get? P = some (PySem.W.tabObj #[])) → (∀ c P, PySem.W.tabIn (K w.params) x2 = some (c, P) → PySem.W.CodeHd h c P ∧ h.get? P = some (PySem.W.tabObj #[])) → LawAtS l w (K w.params) (CX w) k n x mg fa h)
    (hCX : ∀ (w : World) (H : Hp) (s : Shared) (e : Value) (s' : Shared), CX w [] H s (fun _ _ _ => False) e s' → False) : PySem.W.WalkO q loose XP YP l.row.toRowW d [] (fun f vs => PySem.call f vs) := by
  refine Att.attach_callB hn hdf fun w s₀ s₁ mg mb fa o pm cd doc a vs ns G Y ho hd hcd hmg hobj hints hlen hbits hg => ?_
  have KX := hY w _ Y
  obtain ⟨dr, hdr⟩ := Option.isSome_iff_exists.1 hrec
  obtain ⟨dr1, hdr1⟩ := Option.isSome_iff_exists.1 hrec1
  obtain ⟨dr2, hdr2⟩ := Option.isSome_iff_exists.1 hrec2
  obtain ⟨fd, cs, sp, hT, nT, C, hb, hsp, hF⟩ := F w mg fa _ KX G.T.g hmg (fun c P e => PySem.W.tab_of G.T KX hdr e) (fun c P e => PySem.W.tab_of G.T KX hdr1 e) fun c P e => PySem.W.tab_of G.T KX hdr2 e
  exact law_callTs KX G.T.g G.T.b G.T.builtins G.T.nolimit hg hT nT C G.T.bmain hobj hints (Nat.le_trans hlen hn2) hr hF hb (fun H hH hS => hsp H a ns hlen hbits hH hS) fun H e s' z => hCX w H s₁ e s' z
end Rd

set_option Elab.async false
set_option linter.all false
set_option maxRecDepth 100000
set_option autoImplicit false
set_option maxHeartbeats 4000000
/-! x != y where y is an instance without an own __eq__; x plain, the same, or an instance of another such class -/
namespace Rd
open PySem PySem.Spec PyProof.Rows PySem.SeqAt L2
section
variable {prog : Program} {w : World} {A : Around} {E : Value → Shared → Prop} {s : Shared} {K : PySem.W.Frag} {x y C Z dx : Addr} {ox oy : Obj} {od od' : Option Obj}
theorem bool_ne_inst (b : Bool) (hl : s.heap.get? x = some (PySem.W.instObj C dx)) {Q : Fin → Shared → Prop} (h : Q (.done (.ret .notImplemented)) s) : wpAny (model prog w) A (Builtin.«int.__ne__» ⟨[.bool b, .ref x], []⟩) Q E s := by
  obtain ⟨hp, g, d, tk, os⟩ := s
  wp_walk using wpAny_loadPart' hl, wpAny_load hl
  exact h
theorem dec_bool' (b : Bool) (hl : s.heap.get? x = some (PySem.W.instObj C dx)) : wpAny (model prog w) A (tryCompare (.bool b) "__ne__" (.ref x)) (fun r s' => r = none ∧ s' = s) E s :=
  wpAny_tryCompare_declines (show s.TypeIs (.bool b) "bool" from rfl) F.slot_bool_ne_refl (GQ.call_here F.slot_bool_ne_refl rfl F.entry_int_ne (F.args_int_ne_2 _ _) (bool_ne_inst b hl ⟨rfl, rfl, rfl⟩))
theorem objEq_fl {v : V} {u : Value} (hv : flVs v = true) (r : RelV v u) {Q : Fin → Shared → Prop} (hq : Q (.done (.ret .notImplemented)) s) : wpAny (model prog w) A (Builtin.«object.__eq__» ⟨[.ref x, u], []⟩) Q E s := by
  obtain ⟨h, g, d, tk, os⟩ := s
  cases v with
  | int i =>
    obtain ⟨t, rfl⟩ := r
    unfold Builtin.«object.__eq__»
    repeat (first | exact hq | (refine wpAny_bind (wpAny_of_eq (rfl : isSame (.ref x) (.int i t) = pure false) (wpAny_pure ?_))) | wp_step)
  | str i =>
    obtain ⟨t, rfl⟩ := r
    unfold Builtin.«object.__eq__»
    repeat (first | exact hq | (refine wpAny_bind (wpAny_of_eq (rfl : isSame (.ref x) (.str i t) = pure false) (wpAny_pure ?_))) | wp_step)
  | bl b =>
    cases r
    unfold Builtin.«object.__eq__»
    repeat (first | exact hq | (refine wpAny_bind (wpAny_of_eq (rfl : isSame (.ref x) (.bool b) = pure false) (wpAny_pure ?_))) | wp_step)
  | non =>
    cases r
    unfold Builtin.«object.__eq__»
    repeat (first | exact hq | (refine wpAny_bind (wpAny_of_eq (rfl : isSame (.ref x) .none = pure false) (wpAny_pure ?_))) | wp_step)
  | _ => cases hv
theorem callEq_fl {v : V} {u : Value} (hv : flVs v = true) (r : RelV v u) (X : K.In s.heap) (I : PySem.W.InstAt s.heap x ox C od) (hm : PySem.W.mroIn K C (.type "object") = some true) {Q : Value → Shared → Prop} (hq : Q .notImplemented s) : wpAny (model prog w) A (call (.builtin "object.__eq__") [.ref x, u]) Q E s :=
  wpAny_call (codeAny_call_builtin F.cmp_object.eq.plain F.cmpEntry_eq (PySem.W.check_slot F.cmpKind_eq F.cmpSplit_eq (I.type.andThen (PySem.W.looks_mroIn X hm)) (F.cmpArgs_eq _ _) (objEq_fl hv r hq)))
/-- object.__ne__ where object.__eq__ declines -/
theorem objNe_dec {u : Value} (X : K.In s.heap) (I : PySem.W.InstAt s.heap x ox C od) (hs : PySem.W.findIn K (.ref C) "__eq__" = some (some (.builtin "object.__eq__"))) (hu : A.units < cLine) {Q : Fin → Shared → Prop}
    (hc : wpAny (model prog w) A (call (.builtin "object.__eq__") [.ref x, u]) (fun v s' => v = .notImplemented ∧ s' = s) E s)
    (hq : Q (.done (.ret .notImplemented)) s) : wpAny (model prog w) A (Builtin.«object.__ne__» ⟨[.ref x, u], []⟩) Q E s := by
  obtain ⟨h, g, d, tk, os⟩ := s
  unfold Builtin.«object.__ne__»
  repeat (first
    | with_reducible refine wpAny_cRoomFor hu ?_
    | (refine wpAny_bind (m := callSpecialIfBound? (.ref x) (Str.ofString "__eq__") [u])
        (HN.ifBound_objEq X I hs (wpAny_mono hc (fun r s' hr => by
          obtain ⟨rfl, rfl⟩ := hr
          repeat (first | exact hq | exact wpAny_pure hq | wp_step)) fun _ _ e => e)))
    | wp_step)
theorem objNe_self (X : K.In s.heap) (I : PySem.W.InstAt s.heap x ox C od) (hs : PySem.W.findIn K (.ref C) "__eq__" = some (some (.builtin "object.__eq__"))) (hm : PySem.W.mroIn K C (.type "object") = some true) (hu : A.units < cLine) {Q : Fin → Shared → Prop}
    (hq : Q (.done (.ret (.bool false))) s) : wpAny (model prog w) A (Builtin.«object.__ne__» ⟨[.ref x, .ref x], []⟩) Q E s := by
  have hc : wpAny (model prog w) A (call (.builtin "object.__eq__") [.ref x, .ref x]) (fun v s' => v = .bool true ∧ s' = s) E s := call_objEqS X I hm ⟨rfl, rfl⟩
  obtain ⟨h, g, d, tk, os⟩ := s
  unfold Builtin.«object.__ne__»
  repeat (first
    | with_reducible refine wpAny_cRoomFor hu ?_
    | (refine wpAny_bind (m := callSpecialIfBound? (.ref x) (Str.ofString "__eq__") [.ref x])
        (HN.ifBound_objEq X I hs (wpAny_mono hc (fun r s' hr => by
          obtain ⟨rfl, rfl⟩ := hr
          repeat (first | exact hq | exact wpAny_pure hq | exact wpAny_truthy_bool hq | (refine wpAny_bind (m := truthy (.bool _)) (wpAny_truthy_bool ?_)) | wp_step)) fun _ _ e => e)))
    | wp_step)
theorem tryNe_dec {u : Value} (X : K.In s.heap) (I : PySem.W.InstAt s.heap x ox C od) (hm : PySem.W.mroIn K C (.type "object") = some true) (hn : PySem.W.findIn K (.ref C) "__ne__" = some (some (.builtin "object.__ne__"))) (hs : PySem.W.findIn K (.ref C) "__eq__" = some (some (.builtin "object.__eq__"))) (hu : A.units + 1 < cLine)
    (hc : wpAny (model prog w) A.in1 (call (.builtin "object.__eq__") [.ref x, u]) (fun v s' => v = .notImplemented ∧ s' = s) E s) : wpAny (model prog w) A (tryCompare (.ref x) "__ne__" u) (fun r s1 => r = none ∧ s1 = s) E s := by
  unfold tryCompare
  refine wpAny_bind (ifBound_objNe X I hn (wpAny_call (codeAny_call_builtin F.cmp_object.ne.plain F.cmpEntry_ne (PySem.W.check_slot F.cmpKind_ne F.cmpSplit_ne (I.type.andThen (PySem.W.looks_mroIn X hm)) (F.cmpArgs_ne _ _)
    (objNe_dec X I hs hu hc ?_)))))
  exact wpAny_pure (show (none : Option Value) = none ∧ s = s from ⟨rfl, rfl⟩)
theorem rcNe_self (hu : A.units + 1 < cLine) (X : K.In s.heap) (I : PySem.W.InstAt s.heap x ox C od) (hm : PySem.W.mroIn K C (.type "object") = some true) (hn : PySem.W.findIn K (.ref C) "__ne__" = some (some (.builtin "object.__ne__"))) (hs : PySem.W.findIn K (.ref C) "__eq__" = some (some (.builtin "object.__eq__")))
    {Q : Value → Shared → Prop} (q : Q (.bool false) s) : wpAny (model prog w) A (richCompare .NotEq (.ref x) (.ref x)) Q E s := by
  have one : wpAny (model prog w) A (tryCompare (.ref x) "__ne__" (.ref x)) (fun r s1 => r = some (.bool false) ∧ s1 = s) E s := by
    unfold tryCompare
    refine wpAny_bind (ifBound_objNe X I hn (wpAny_call (codeAny_call_builtin F.cmp_object.ne.plain F.cmpEntry_ne (PySem.W.check_slot F.cmpKind_ne F.cmpSplit_ne (I.type.andThen (PySem.W.looks_mroIn X hm)) (F.cmpArgs_ne _ _)
      (objNe_self X I hs hm hu ?_)))))
    exact wpAny_pure (show (some (Value.bool false) : Option Value) = some (.bool false) ∧ s = s from ⟨rfl, rfl⟩)
  simp only [richCompare, cmpInfo_NotEq, oneThing_ref]
  refine wpAny_holding (wpAny_bind (wpAny_cRoomFor (Nat.lt_of_succ_lt hu) ?_))
  refine wpAny_bind (I.type.here ?_)
  refine wpAny_bind (I.type.here ?_)
  rw [if_neg (by simp)]
  refine wpAny_bind (wpAny_pure ?_)
  simp only [Bool.false_eq_true, if_false, Bool.not_false, if_true]
  refine wpAny_bind (m := tryCompare (.ref x) _ (.ref x)) (wpAny_mono one (fun r s1 z => ?_) fun _ _ e => e)
  obtain ⟨rfl, rfl⟩ := z
  exact wpAny_pure q
theorem rcNe_left {u : Value} {Tb : String} (hu : A.units + 1 < cLine) (X : K.In s.heap) (I : PySem.W.InstAt s.heap x ox C od) (hb : s.TypeIs u Tb) (hsub : PySem.W.subIn K (.ref C) (.type Tb) = some false) (h0 : oneThing? .NotEq u (.ref x) = none)
    (h1 : wpAny (model prog w) A (tryCompare u "__ne__" (.ref x)) (fun r s' => r = none ∧ s' = s) E s) (h2 : wpAny (model prog w) A (tryCompare (.ref x) "__ne__" u) (fun r s' => r = none ∧ s' = s) E s) (h3 : isSame u (.ref x) = pure false) {Q : Value → Shared → Prop} (q : Q (.bool true) s) :
    wpAny (model prog w) A (richCompare .NotEq u (.ref x)) Q E s := by
  simp only [richCompare, cmpInfo_NotEq, h0]
  refine wpAny_holding (wpAny_bind (wpAny_cRoomFor (Nat.lt_of_succ_lt hu) ?_))
  refine wpAny_bind (wpAny_typeOf hb ?_)
  refine wpAny_bind (I.type.here ?_)
  rw [if_pos (by simp)]
  refine wpAny_bind ((PySem.W.looks_subIn X hsub).here ?_)
  simp only [Bool.false_eq_true, if_false, Bool.not_false, if_true]
  refine wpAny_bind (m := tryCompare u _ (.ref x)) (wpAny_mono h1 (fun r s1 z => ?_) fun _ _ e => e)
  obtain ⟨rfl, rfl⟩ := z
  refine wpAny_bind (m := tryCompare (.ref x) _ u) (wpAny_mono h2 (fun r s2 z => ?_) fun _ _ e => e)
  obtain ⟨rfl, rfl⟩ := z
  exact wpAny_bind (wpAny_rule (wpAny_bind (wpAny_of_eq h3 (wpAny_pure q))))
theorem rcNe_two (hu : A.units + 1 < cLine) (X : K.In s.heap) (I : PySem.W.InstAt s.heap x ox Z od) (I' : PySem.W.InstAt s.heap y oy C od') (hsub : PySem.W.subIn K (.ref C) (.ref Z) = some false) (hZC : Z ≠ C) (hxy : x ≠ y) (hx : s.heap.get? x = some ox) (hy : s.heap.get? y = some oy) (hnt : ox.cls ≠ .type "tuple")
    (h1 : wpAny (model prog w) A (tryCompare (.ref x) "__ne__" (.ref y)) (fun r s' => r = none ∧ s' = s) E s) (h2 : wpAny (model prog w) A (tryCompare (.ref y) "__ne__" (.ref x)) (fun r s' => r = none ∧ s' = s) E s) {Q : Value → Shared → Prop} (q : Q (.bool true) s) :
    wpAny (model prog w) A (richCompare .NotEq (.ref x) (.ref y)) Q E s := by
  simp only [richCompare, cmpInfo_NotEq, oneThing_ref]
  refine wpAny_holding (wpAny_bind (wpAny_cRoomFor (Nat.lt_of_succ_lt hu) ?_))
  refine wpAny_bind (I.type.here ?_)
  refine wpAny_bind (I'.type.here ?_)
  rw [if_pos (by simp; exact hZC)]
  refine wpAny_bind ((PySem.W.looks_subIn X hsub).here ?_)
  simp only [Bool.false_eq_true, if_false, Bool.not_false, if_true]
  refine wpAny_bind (m := tryCompare (.ref x) _ (.ref y)) (wpAny_mono h1 (fun r s1 z => ?_) fun _ _ e => e)
  obtain ⟨rfl, rfl⟩ := z
  refine wpAny_bind (m := tryCompare (.ref y) _ (.ref x)) (wpAny_mono h2 (fun r s2 z => ?_) fun _ _ e => e)
  obtain ⟨rfl, rfl⟩ := z
  exact wpAny_bind (wpAny_rule (wpAny_bind (wpAny_isSame_ref_other hxy hx hy hnt (wpAny_pure q))))
end
/-- no class of plain values is above the class at C -/
structure ObjP (K : PySem.W.Frag) (C : Addr) : Prop extends ObjN K C where
  si : PySem.W.subIn K (.ref C) (.type "int") = some false
  sb : PySem.W.subIn K (.ref C) (.type "bool") = some false
  ss : PySem.W.subIn K (.ref C) (.type "str") = some false
def rNeP (C Z : Addr) : R2 := fun x y H Q => InsV C H y ∧ (flVs x = true ∨ x = y ∨ InsV Z H x) ∧ Q (.bl (!decide (x = y))) H
theorem op_neP {X : Cx} {C Z : Addr} (hu : X.A.units + 1 < cLine) (O : ObjP X.K C) (OZ : ObjN X.K Z) (hsub : PySem.W.subIn X.K (.ref C) (.ref Z) = some false) (hZC : Z ≠ C) : OpR X (compareOp .NotEq) (rNeP C Z) := by
  intro pins s σ H x y v u Q I rx ry h
  obtain ⟨⟨a, dx, fs, rfl, ha⟩, c, q⟩ := h
  cases ry
  obtain ⟨mA, OA, _⟩ := ins_get I.hok ha
  obtain ⟨od, J, _⟩ := OA.look
  have ga : s.heap.get? a = some (PySem.W.instObj C dx) := OA.obj
  show wpAny (model X.prog X.w) X.A (richCompare .NotEq _ _) (EP X pins σ Q) X.xe s
  rcases c with c | rfl | ⟨b, dy, gs, rfl, hb⟩
  · have hc := fun (A : Around) => callEq_fl (prog := X.prog) (w := X.w) (A := A) (E := X.xe) (Q := fun v s' => v = .notImplemented ∧ s' = s) c rx I.kIn J O.hm ⟨rfl, rfl⟩
    have t := tryNe_dec I.kIn J O.hm O.hne O.hs hu (hc _)
    rw [decide_eq_false (fun e => by subst e; cases c)] at q
    cases x with
    | int i => obtain ⟨t', rfl⟩ := rx; exact rcNe_left (Tb := "int") hu I.kIn J (show s.TypeIs (.int i t') "int" from rfl) O.si rfl (dec_int' i t' ga) t rfl ⟨.bl true, H, I, rfl, q⟩
    | str i => obtain ⟨t', rfl⟩ := rx; exact rcNe_left (Tb := "str") hu I.kIn J (show s.TypeIs (.str i t') "str" from rfl) O.ss rfl (dec_str' i t' ga) t rfl ⟨.bl true, H, I, rfl, q⟩
    | bl b => cases rx; exact rcNe_left (Tb := "bool") hu I.kIn J (show s.TypeIs (.bool b) "bool" from rfl) O.sb rfl (dec_bool' b ga) t rfl ⟨.bl true, H, I, rfl, q⟩
    | non => cases rx; exact rcNe_left (Tb := "NoneType") hu I.kIn J (show s.TypeIs .none "NoneType" from rfl) O.hn rfl dec_none' t rfl ⟨.bl true, H, I, rfl, q⟩
    | _ => cases c
  · cases rx
    rw [decide_eq_true rfl] at q
    exact rcNe_self hu I.kIn J O.hm O.hne O.hs ⟨.bl false, H, I, rfl, q⟩
  · cases rx
    obtain ⟨mB, OB, _⟩ := ins_get I.hok hb
    obtain ⟨od', J', _⟩ := OB.look
    have gb : s.heap.get? b = some (PySem.W.instObj Z dy) := OB.obj
    have hba : b ≠ a := fun e => by
      subst e
      rw [ga] at gb
      have := congrArg (fun z => z.map Obj.cls) gb
      simp [PySem.W.instObj] at this
      exact hZC this.symm
    rw [decide_eq_false (fun e => hba (V.ref.inj e))] at q
    refine rcNe_two hu I.kIn J' J hsub hZC hba gb ga (by intro e; cases e) (tryNe_dec I.kIn J' OZ.hm OZ.hne OZ.hs hu (call_objEqO I.kIn J' OZ.hm gb ga hba (by intro e; cases e) ⟨rfl, rfl⟩))
      (tryNe_dec I.kIn J O.hm O.hne O.hs hu (call_objEqO I.kIn J O.hm ga gb hba.symm (by intro e; cases e) ⟨rfl, rfl⟩)) ⟨.bl true, H, I, rfl, q⟩
end Rd

set_option Elab.async false
set_option linter.all false
set_option maxRecDepth 100000
set_option autoImplicit false
set_option maxHeartbeats 4000000
/-! x != y where x is an instance without an own __eq__, y a text -/
namespace Rd
open PySem PySem.Spec PyProof.Rows PySem.SeqAt L2
def rNeIS (Z : Addr) : R2 := fun x y H Q => InsV Z H x ∧ (∃ z, y = .str z) ∧ Q (.bl true) H
theorem op_neIS {X : Cx} {Z : Addr} (hu : X.A.units + 1 < cLine) (O : ObjN X.K Z) : OpR X (compareOp .NotEq) (rNeIS Z) := by
  intro pins s σ H x y v u Q I rx ry h
  obtain ⟨⟨a, dx, fs, rfl, ha⟩, ⟨z, rfl⟩, q⟩ := h
  cases rx
  have rz : RelV (.str z) u := ry
  obtain ⟨t, rfl⟩ := ry
  obtain ⟨mA, OA, _⟩ := ins_get I.hok ha
  obtain ⟨od, J, _⟩ := OA.look
  have ga : s.heap.get? a = some (PySem.W.instObj Z dx) := OA.obj
  have one := tryNe_dec (prog := X.prog) (w := X.w) (A := X.A) (E := X.xe) I.kIn J O.hm O.hne O.hs hu (callEq_fl (v := .str z) rfl rz I.kIn J O.hm ⟨rfl, rfl⟩)
  have two := dec_str' (prog := X.prog) (w := X.w) (A := X.A) (E := X.xe) z t ga
  show wpAny (model X.prog X.w) X.A (richCompare .NotEq _ _) (EP X pins σ Q) X.xe s
  simp only [richCompare, cmpInfo_NotEq, oneThing_ref]
  refine wpAny_holding (wpAny_bind (wpAny_cRoomFor (Nat.lt_of_succ_lt hu) ?_))
  refine wpAny_bind (J.type.here ?_)
  refine wpAny_bind (wpAny_typeOf (show s.TypeIs (.str z t) "str" from rfl) ?_)
  split
  · refine wpAny_bind ((PySem.W.looks_subIn I.kIn sub_str).here ?_)
    simp only [Bool.false_eq_true, if_false, Bool.not_false, if_true]
    refine wpAny_bind (m := tryCompare (.ref a) _ (.str z t)) (wpAny_mono one (fun r s1 z => ?_) fun _ _ e => e)
    obtain ⟨rfl, rfl⟩ := z
    refine wpAny_bind (m := tryCompare (.str _ t) _ (.ref a)) (wpAny_mono two (fun r s2 z => ?_) fun _ _ e => e)
    obtain ⟨rfl, rfl⟩ := z
    exact wpAny_bind (wpAny_rule (wpAny_bind (wpAny_of_eq (rfl : isSame (.ref a) (.str _ t) = pure false) (wpAny_pure ⟨.bl true, H, I, rfl, q⟩))))
  · rename_i q
    exact absurd (by simp) q
end Rd

set_option Elab.async false
set_option linter.all false
set_option maxRecDepth 100000
set_option autoImplicit false
set_option maxHeartbeats 4000000
/-! tables as data: places, nodes with links -/
namespace Tm
open PySem L2
inductive Ky where
  | int (i : Int)
  | str (z : Str)
  | bl (b : Bool)
  /-- a float that is no integer -/
  | fl (s t p : Int)
  | inf (s : Int)
  /-- an object with a number -/
  | ob (a : Addr) (m : Int)
  /-- a function of the library -/
  | nt (a : Addr) (z : Str)
  deriving DecidableEq
structure Nd where
  k : Ky
  v : V
  l : Option Nat
structure Tb where
  A : List V
  N : List (Option Nd)
  fr : Nat
/-! ### the place of a key -/
def rawPlace (sumS : Str → Int) (flS : Int → Int → Int → Int) (k : Ky) (n : Int) : Int := match k with
  | .bl b => Builtin.bitAnd (if b then 1 else 0) (n - 1)
  | .str z => Builtin.bitAnd (sumS z) (n - 1)
  | .int i => i % 18446744073709551616 % Builtin.bitOr (n - 1) 1
  | .fl s t p => flS s t p % Builtin.bitOr (n - 1) 1
  | .inf _ => 0 % Builtin.bitOr (n - 1) 1
  | .ob _ m => m % Builtin.bitOr (n - 1) 1
  | .nt _ z => Builtin.bitAnd (sumS z) (n - 1)
theorem or_one (x : Int) : Builtin.bitOr x 1 = x + 1 - x % 2 := by
  rw [PyProof.Rows.bitOr_and, PyProof.Rows.bitAnd_m1]
theorem mod_or (x : Int) {n : Int} (h : 1 ≤ n) : 0 ≤ x % Builtin.bitOr (n - 1) 1 ∧ x % Builtin.bitOr (n - 1) 1 < n := by
  rw [or_one]
  have h1 : (0 : Int) < n - 1 + 1 - (n - 1) % 2 := by omega
  have a := Int.emod_nonneg x (b := n - 1 + 1 - (n - 1) % 2) (by omega)
  have b := Int.emod_lt_of_pos x h1
  omega
theorem and_mod (x : Int) {n : Int} (h : 1 ≤ n) : 0 ≤ Builtin.bitAnd x (n - 1) ∧ Builtin.bitAnd x (n - 1) < n := by
  have := PyProof.Rows.bitAnd_range x (y := n - 1) (by omega)
  omega
theorem rawPlace_lt (f : Str → Int) (g : Int → Int → Int → Int) (k : Ky) {n : Int} (h : 1 ≤ n) : 0 ≤ rawPlace f g k n ∧ rawPlace f g k n < n := by
  cases k with
  | bl b => exact and_mod _ h
  | str z => exact and_mod _ h
  | int i => exact mod_or _ h
  | fl s t p => exact mod_or _ h
  | inf s => exact mod_or _ h
  | ob a m => exact mod_or _ h
  | nt a z => exact and_mod _ h
/-! ### chains: the nodes told by a function -/
abbrev G := Nat → Option (Option Nd)
inductive Reach (g : G) : Nat → Nat → Prop
  | refl (i : Nat) : Reach g i i
  | step {i m j : Nat} {nd : Nd} (h : g i = some (some nd)) (e : nd.l = some m) (r : Reach g m j) : Reach g i j
structure WG (pl : Ky → Nat) (g : G) : Prop where
  link : ∃ rk : Nat → Nat, ∀ (j : Nat) (nd : Nd) (i : Nat), g j = some (some nd) → nd.l = some i → rk i < rk j ∧ ∃ nd', g i = some (some nd')
  inj : ∀ (i j : Nat) (nd nd' : Nd) (m : Nat), g i = some (some nd) → g j = some (some nd') → nd.l = some m → nd'.l = some m → i = j
  reach : ∀ (j : Nat) (nd : Nd), g j = some (some nd) → Reach g (pl nd.k) j
  main : ∀ (j : Nat) (nd : Nd), g j = some (some nd) → ∃ nd', g (pl nd.k) = some (some nd') ∧ pl nd'.k = pl nd.k
  dist : ∀ (i j : Nat) (nd nd' : Nd), g i = some (some nd) → g j = some (some nd') → nd.k = nd'.k → i = j
section
variable {pl : Ky → Nat} {g g' : G} {a f p : Nat} {k : Ky} {v : V} {nd0 : Nd}
theorem Reach.map (φ : Nat → Nat) (h : ∀ i m nd, g i = some (some nd) → nd.l = some m → Reach g' (φ i) (φ m)) : ∀ {i j : Nat}, Reach g i j → Reach g' (φ i) (φ j) := by
  have tr : ∀ {i m j : Nat}, Reach g' i m → Reach g' m j → Reach g' i j := by
    intro i m j r r2
    induction r with
    | refl => exact r2
    | step h e _ ih => exact .step h e (ih r2)
  intro i j r
  induction r with
  | refl => exact .refl _
  | step h1 e _ ih => exact tr (h _ _ _ h1 e) ih
theorem Reach.last {i j : Nat} (r : Reach g i j) (ne : i ≠ j) : ∃ q nd, g q = some (some nd) ∧ nd.l = some j := by
  induction r with
  | refl => exact absurd rfl ne
  | @step i m j nd h e r ih =>
    by_cases c : m = j
    · subst c
      exact ⟨i, nd, h, e⟩
    · exact ih c
/-- into an empty place -/
theorem WG.empty (w : WG pl g) (ha : pl k = a) (h : g a = some none) (hk : ∀ j nd, g j = some (some nd) → nd.k ≠ k) (e : ∀ j, g' j = if j = a then some (some ⟨k, v, none⟩) else g j) : WG pl g' := by
  have at_a : g' a = some (some ⟨k, v, none⟩) := by rw [e, if_pos rfl]
  have off : ∀ {j : Nat}, j ≠ a → g' j = g j := fun h => by rw [e, if_neg h]
  have occ : ∀ {j : Nat} {nd : Nd}, g j = some (some nd) → j ≠ a := fun h1 z => by rw [z, h] at h1; cases h1
  obtain ⟨rk, hr⟩ := w.link
  have cs : ∀ {j : Nat} {nd : Nd}, g' j = some (some nd) → (j = a ∧ nd = ⟨k, v, none⟩) ∨ (j ≠ a ∧ g j = some (some nd)) := fun {j nd} h1 => by
    by_cases c : j = a
    · subst c
      rw [at_a] at h1
      cases h1
      exact .inl ⟨rfl, rfl⟩
    · rw [off c] at h1
      exact .inr ⟨c, h1⟩
  have up : ∀ {i j : Nat}, Reach g i j → Reach g' i j := fun r => Reach.map id (fun i m nd h1 h2 => .step (by rw [show id i = i from rfl, off (occ h1)]; exact h1) h2 (.refl _)) r
  refine ⟨⟨rk, fun j nd i h1 h2 => ?_⟩, fun i j nd nd' m h1 h2 h3 h4 => ?_, fun j nd h1 => ?_, fun j nd h1 => ?_, fun i j nd nd' h1 h2 h3 => ?_⟩
  · rcases cs h1 with ⟨rfl, rfl⟩ | ⟨c, h1⟩
    · cases h2
    · obtain ⟨b, nd', h3⟩ := hr j nd i h1 h2
      exact ⟨b, nd', by rw [off (occ h3)]; exact h3⟩
  · rcases cs h1 with ⟨rfl, rfl⟩ | ⟨c, h1⟩
    · cases h3
    · rcases cs h2 with ⟨rfl, rfl⟩ | ⟨c2, h2⟩
      · cases h4
      · exact w.inj i j nd nd' m h1 h2 h3 h4
  · rcases cs h1 with ⟨rfl, rfl⟩ | ⟨c, h1⟩
    · rw [show pl (Nd.k ⟨k, v, none⟩) = j from ha]
      exact .refl _
    · exact up (w.reach j nd h1)
  · rcases cs h1 with ⟨rfl, rfl⟩ | ⟨c, h1⟩
    · exact ⟨_, by rw [show pl (Nd.k ⟨k, v, none⟩) = j from ha]; exact at_a, rfl⟩
    · obtain ⟨nd', h2, h3⟩ := w.main j nd h1
      exact ⟨nd', by rw [off (occ h2)]; exact h2, h3⟩
  · rcases cs h1 with ⟨rfl, rfl⟩ | ⟨c, h1⟩
    · rcases cs h2 with ⟨rfl, rfl⟩ | ⟨c2, h2⟩
      · rfl
      · exact absurd h3.symm (hk j nd' h2)
    · rcases cs h2 with ⟨rfl, rfl⟩ | ⟨c2, h2⟩
      · exact absurd h3 (hk i nd h1)
      · exact w.dist i j nd nd' h1 h2 h3
/-- in the place of a node whose key has no value -/
theorem WG.dead (w : WG pl g) (ha : pl k = a) (h : g a = some (some nd0)) (hk : ∀ j nd, g j = some (some nd) → nd.k ≠ k) (e : ∀ j, g' j = if j = a then some (some ⟨k, v, nd0.l⟩) else g j) : WG pl g' := by
  have at_a : g' a = some (some ⟨k, v, nd0.l⟩) := by rw [e, if_pos rfl]
  have off : ∀ {j : Nat}, j ≠ a → g' j = g j := fun h => by rw [e, if_neg h]
  obtain ⟨rk, hr⟩ := w.link
  have cs : ∀ {j : Nat} {nd : Nd}, g' j = some (some nd) → (j = a ∧ nd = ⟨k, v, nd0.l⟩) ∨ (j ≠ a ∧ g j = some (some nd)) := fun {j nd} h1 => by
    by_cases c : j = a
    · subst c
      rw [at_a] at h1
      cases h1
      exact .inl ⟨rfl, rfl⟩
    · rw [off c] at h1
      exact .inr ⟨c, h1⟩
  have old : ∀ {j : Nat} {nd : Nd}, g' j = some (some nd) → ∃ nd2, g j = some (some nd2) ∧ nd2.l = nd.l := fun h1 => by
    rcases cs h1 with ⟨rfl, rfl⟩ | ⟨c, h1⟩
    · exact ⟨_, h, rfl⟩
    · exact ⟨_, h1, rfl⟩
  have new : ∀ {j : Nat} {nd : Nd}, g j = some (some nd) → ∃ nd2, g' j = some (some nd2) ∧ nd2.l = nd.l := fun {j nd} h1 => by
    by_cases c : j = a
    · subst c
      rw [h] at h1
      cases h1
      exact ⟨_, at_a, rfl⟩
    · exact ⟨_, by rw [off c]; exact h1, rfl⟩
  have up : ∀ {i j : Nat}, Reach g i j → Reach g' i j := fun r => Reach.map id (fun i m nd h1 h2 => let ⟨nd2, h3, h4⟩ := new h1; .step h3 (h4.trans h2) (.refl _)) r
  refine ⟨⟨rk, fun j nd i h1 h2 => ?_⟩, fun i j nd nd' m h1 h2 h3 h4 => ?_, fun j nd h1 => ?_, fun j nd h1 => ?_, fun i j nd nd' h1 h2 h3 => ?_⟩
  · obtain ⟨nd2, h3, h4⟩ := old h1
    obtain ⟨b, nd', h5⟩ := hr j nd2 i h3 (h4.trans h2)
    obtain ⟨nd3, h6, _⟩ := new h5
    exact ⟨b, nd3, h6⟩
  · obtain ⟨nd2, h5, h6⟩ := old h1
    obtain ⟨nd3, h7, h8⟩ := old h2
    exact w.inj i j nd2 nd3 m h5 h7 (h6.trans h3) (h8.trans h4)
  · rcases cs h1 with ⟨rfl, rfl⟩ | ⟨c, h1⟩
    · rw [show pl (Nd.k ⟨k, v, nd0.l⟩) = j from ha]
      exact .refl _
    · exact up (w.reach j nd h1)
  · rcases cs h1 with ⟨rfl, rfl⟩ | ⟨c, h1⟩
    · exact ⟨_, by rw [show pl (Nd.k ⟨k, v, nd0.l⟩) = j from ha]; exact at_a, rfl⟩
    · obtain ⟨nd', h2, h3⟩ := w.main j nd h1
      by_cases c2 : pl nd.k = a
      · exact ⟨_, by rw [c2]; exact at_a, by rw [c2]; exact ha⟩
      · exact ⟨nd', by rw [off c2]; exact h2, h3⟩
  · rcases cs h1 with ⟨rfl, rfl⟩ | ⟨c, h1⟩
    · rcases cs h2 with ⟨rfl, rfl⟩ | ⟨c2, h2⟩
      · rfl
      · exact absurd h3.symm (hk j nd' h2)
    · rcases cs h2 with ⟨rfl, rfl⟩ | ⟨c2, h2⟩
      · exact absurd h3 (hk i nd h1)
      · exact w.dist i j nd nd' h1 h2 h3
/-- behind the node of its place, which is at home -/
theorem WG.behind (w : WG pl g) (ha : pl k = a) (h : g a = some (some nd0)) (hh : pl nd0.k = a) (hf : g f = some none) (hk : ∀ j nd, g j = some (some nd) → nd.k ≠ k)
    (e : ∀ j, g' j = if j = a then some (some { nd0 with l := some f }) else if j = f then some (some ⟨k, v, nd0.l⟩) else g j) : WG pl g' := by
  have af : a ≠ f := fun z => by rw [z, hf] at h; cases h
  have at_a : g' a = some (some { nd0 with l := some f }) := by rw [e, if_pos rfl]
  have at_f : g' f = some (some ⟨k, v, nd0.l⟩) := by rw [e, if_neg af.symm, if_pos rfl]
  have off : ∀ {j : Nat}, j ≠ a → j ≠ f → g' j = g j := fun h1 h2 => by rw [e, if_neg h1, if_neg h2]
  have occ : ∀ {j : Nat} {nd : Nd}, g j = some (some nd) → j ≠ f := fun h1 z => by rw [z, hf] at h1; cases h1
  obtain ⟨rk, hr⟩ := w.link
  have cs : ∀ {j : Nat} {nd : Nd}, g' j = some (some nd) → (j = a ∧ nd = { nd0 with l := some f }) ∨ (j = f ∧ nd = ⟨k, v, nd0.l⟩) ∨ (j ≠ a ∧ j ≠ f ∧ g j = some (some nd)) := fun {j nd} h1 => by
    by_cases c : j = a
    · subst c
      rw [at_a] at h1
      cases h1
      exact .inl ⟨rfl, rfl⟩
    · by_cases c2 : j = f
      · subst c2
        rw [at_f] at h1
        cases h1
        exact .inr (.inl ⟨rfl, rfl⟩)
      · rw [off c c2] at h1
        exact .inr (.inr ⟨c, c2, h1⟩)
  have new : ∀ {j : Nat} {nd : Nd}, g j = some (some nd) → ∃ nd2, g' j = some (some nd2) ∧ nd2.k = nd.k := fun {j nd} h1 => by
    by_cases c : j = a
    · subst c
      rw [h] at h1
      cases h1
      exact ⟨_, at_a, rfl⟩
    · exact ⟨_, by rw [off c (occ h1)]; exact h1, rfl⟩
  have up : ∀ {i j : Nat}, Reach g i j → Reach g' i j := fun r => Reach.map id (fun i m nd h1 h2 => by
    show Reach g' i m
    by_cases c : i = a
    · subst c
      rw [h] at h1
      cases h1
      exact .step at_a rfl (.step at_f h2 (.refl _))
    · exact .step (by rw [off c (occ h1)]; exact h1) h2 (.refl _)) r
  refine ⟨⟨fun x => if x = f then 2 * rk a else 2 * rk x + 1, fun j nd i h1 h2 => ?_⟩, fun i j nd nd' m h1 h2 h3 h4 => ?_, fun j nd h1 => ?_, fun j nd h1 => ?_, fun i j nd nd' h1 h2 h3 => ?_⟩
  · rcases cs h1 with ⟨rfl, rfl⟩ | ⟨rfl, rfl⟩ | ⟨c, c2, h1⟩
    · cases h2
      dsimp only
      rw [if_pos rfl, if_neg af]
      exact ⟨Nat.lt_succ_self _, _, at_f⟩
    · obtain ⟨b, nd', h5⟩ := hr a nd0 i h h2
      obtain ⟨nd3, h6, _⟩ := new h5
      dsimp only
      rw [if_neg (occ h5), if_pos rfl]
      exact ⟨by omega, nd3, h6⟩
    · obtain ⟨b, nd', h5⟩ := hr j nd i h1 h2
      obtain ⟨nd3, h6, _⟩ := new h5
      dsimp only
      rw [if_neg (occ h5), if_neg c2]
      exact ⟨by omega, nd3, h6⟩
  · have noF : ∀ {i : Nat} {nd : Nd}, g i = some (some nd) → nd.l ≠ some f := fun h1 h2 => by
      obtain ⟨_, nd', h5⟩ := hr _ _ _ h1 h2
      exact occ h5 rfl
    rcases cs h1 with ⟨rfl, rfl⟩ | ⟨rfl, rfl⟩ | ⟨c, c2, h1⟩
    · cases h3
      rcases cs h2 with ⟨rfl, rfl⟩ | ⟨rfl, rfl⟩ | ⟨d, d2, h2⟩
      · rfl
      · exact absurd (show nd0.l = some _ from h4) (noF h)
      · exact absurd h4 (noF h2)
    · rcases cs h2 with ⟨rfl, rfl⟩ | ⟨rfl, rfl⟩ | ⟨d, d2, h2⟩
      · cases h4
        exact absurd (show nd0.l = some _ from h3) (noF h)
      · rfl
      · exact absurd (w.inj a j nd0 nd' m h h2 h3 h4).symm d
    · rcases cs h2 with ⟨rfl, rfl⟩ | ⟨rfl, rfl⟩ | ⟨d, d2, h2⟩
      · cases h4
        exact absurd h3 (noF h1)
      · exact absurd (w.inj i a nd nd0 m h1 h h3 h4) c
      · exact w.inj i j nd nd' m h1 h2 h3 h4
  · rcases cs h1 with ⟨rfl, rfl⟩ | ⟨rfl, rfl⟩ | ⟨c, c2, h1⟩
    · exact up (w.reach j nd0 h)
    · rw [show pl (Nd.k ⟨k, v, nd0.l⟩) = a from ha]
      exact .step at_a rfl (.refl _)
    · exact up (w.reach j nd h1)
  · rcases cs h1 with ⟨rfl, rfl⟩ | ⟨rfl, rfl⟩ | ⟨c, c2, h1⟩
    · exact ⟨_, by rw [show pl (Nd.k { nd0 with l := some f }) = j from hh]; exact at_a, rfl⟩
    · exact ⟨{ nd0 with l := some j }, by rw [show pl (Nd.k ⟨k, v, nd0.l⟩) = a from ha]; exact at_a, hh.trans ha.symm⟩
    · obtain ⟨nd', h2, h3⟩ := w.main j nd h1
      obtain ⟨nd3, h6, h7⟩ := new h2
      exact ⟨nd3, h6, by rw [h7]; exact h3⟩
  · have key : ∀ {i : Nat} {nd : Nd}, g' i = some (some nd) → (i = f ∧ nd.k = k) ∨ (∃ nd2, g i = some (some nd2) ∧ nd2.k = nd.k) := fun h1 => by
      rcases cs h1 with ⟨rfl, rfl⟩ | ⟨rfl, rfl⟩ | ⟨c, c2, h1⟩
      · exact .inr ⟨_, h, rfl⟩
      · exact .inl ⟨rfl, rfl⟩
      · exact .inr ⟨_, h1, rfl⟩
    rcases key h1 with ⟨rfl, e1⟩ | ⟨nd2, h5, e1⟩
    · rcases key h2 with ⟨rfl, e2⟩ | ⟨nd3, h6, e2⟩
      · rfl
      · exact absurd (e2.trans (h3.symm.trans e1)) (hk _ _ h6)
    · rcases key h2 with ⟨rfl, e2⟩ | ⟨nd3, h6, e2⟩
      · exact absurd (e1.trans (h3.trans e2)) (hk _ _ h5)
      · exact w.dist i j nd2 nd3 h5 h6 (e1.trans (h3.trans e2.symm))
/-- in its place, whose node goes to the free one -/
theorem WG.move {ndp : Nd} (w : WG pl g) (ha : pl k = a) (h : g a = some (some nd0)) (hh : pl nd0.k ≠ a) (hf : g f = some none) (hp : g p = some (some ndp)) (hpl : ndp.l = some a) (hk : ∀ j nd, g j = some (some nd) → nd.k ≠ k)
    (e : ∀ j, g' j = if j = a then some (some ⟨k, v, none⟩) else if j = f then some (some nd0) else if j = p then some (some { ndp with l := some f }) else g j) : WG pl g' := by
  obtain ⟨rk, hr⟩ := w.link
  have af : a ≠ f := fun z => by rw [z, hf] at h; cases h
  have pa : p ≠ a := fun z => by have := (hr p ndp a hp hpl).1; rw [z] at this; omega
  have pf : p ≠ f := fun z => by rw [z, hf] at hp; cases hp
  have at_a : g' a = some (some ⟨k, v, none⟩) := by rw [e, if_pos rfl]
  have at_f : g' f = some (some nd0) := by rw [e, if_neg af.symm, if_pos rfl]
  have at_p : g' p = some (some { ndp with l := some f }) := by rw [e, if_neg pa, if_neg pf, if_pos rfl]
  have off : ∀ {j : Nat}, j ≠ a → j ≠ f → j ≠ p → g' j = g j := fun h1 h2 h3 => by rw [e, if_neg h1, if_neg h2, if_neg h3]
  have occ : ∀ {j : Nat} {nd : Nd}, g j = some (some nd) → j ≠ f := fun h1 z => by rw [z, hf] at h1; cases h1
  have cs : ∀ {j : Nat} {nd : Nd}, g' j = some (some nd) → (j = a ∧ nd = ⟨k, v, none⟩) ∨ (j = f ∧ nd = nd0) ∨ (j = p ∧ nd = { ndp with l := some f }) ∨ (j ≠ a ∧ j ≠ f ∧ j ≠ p ∧ g j = some (some nd)) := fun {j nd} h1 => by
    by_cases c : j = a
    · subst c
      rw [at_a] at h1
      cases h1
      exact .inl ⟨rfl, rfl⟩
    · by_cases c2 : j = f
      · subst c2
        rw [at_f] at h1
        cases h1
        exact .inr (.inl ⟨rfl, rfl⟩)
      · by_cases c3 : j = p
        · subst c3
          rw [at_p] at h1
          cases h1
          exact .inr (.inr (.inl ⟨rfl, rfl⟩))
        · rw [off c c2 c3] at h1
          exact .inr (.inr (.inr ⟨c, c2, c3, h1⟩))
  have noF : ∀ {i : Nat} {nd : Nd}, g i = some (some nd) → nd.l ≠ some f := fun h1 h2 => by
    obtain ⟨_, nd', h5⟩ := hr _ _ _ h1 h2
    exact occ h5 rfl
  have onlyP : ∀ {i : Nat} {nd : Nd}, g i = some (some nd) → nd.l = some a → i = p := fun h1 h2 => w.inj _ _ _ _ _ h1 hp h2 hpl
  have there : ∀ {j : Nat} {nd : Nd}, g j = some (some nd) → ∃ nd2, g' j = some (some nd2) := fun {j nd} h1 => by
    by_cases c : j = a
    · subst c; exact ⟨_, at_a⟩
    · by_cases c3 : j = p
      · subst c3; exact ⟨_, at_p⟩
      · exact ⟨_, by rw [off c (occ h1) c3]; exact h1⟩
  have notA : ∀ {j : Nat} {nd : Nd}, g j = some (some nd) → pl nd.k ≠ a := fun h1 z => by
    obtain ⟨nd', h2, h3⟩ := w.main _ _ h1
    rw [z, h] at h2
    cases h2
    exact hh (h3.trans z)
  have up : ∀ {i j : Nat}, Reach g i j → Reach g' (if i = a then f else i) (if j = a then f else j) := fun r => Reach.map (fun x => if x = a then f else x) (fun i m nd h1 h2 => by
    show Reach g' (if i = a then f else i) (if m = a then f else m)
    by_cases c : i = a
    · subst c
      rw [h] at h1
      cases h1
      have mi : m ≠ i := fun z => by have := (hr i nd0 m h h2).1; rw [z] at this; omega
      rw [if_pos rfl, if_neg mi]
      exact .step at_f h2 (.refl _)
    · rw [if_neg c]
      by_cases c3 : i = p
      · subst c3
        rw [hp] at h1
        cases h1
        rw [hpl] at h2
        cases h2
        rw [if_pos rfl]
        exact .step at_p rfl (.refl _)
      · have ma : m ≠ a := fun z => c3 (onlyP h1 (by rw [h2, z]))
        rw [if_neg ma]
        exact .step (by rw [off c (occ h1) c3]; exact h1) h2 (.refl _)) r
  refine ⟨⟨fun x => if x = f then rk a else rk x, fun j nd i h1 h2 => ?_⟩, fun i j nd nd' m h1 h2 h3 h4 => ?_, fun j nd h1 => ?_, fun j nd h1 => ?_, fun i j nd nd' h1 h2 h3 => ?_⟩
  · rcases cs h1 with ⟨rfl, rfl⟩ | ⟨rfl, rfl⟩ | ⟨rfl, rfl⟩ | ⟨c, c2, c3, h1⟩
    · cases h2
    · obtain ⟨b, nd', h5⟩ := hr a nd i h h2
      obtain ⟨nd3, h6⟩ := there h5
      dsimp only
      rw [if_neg (occ h5), if_pos rfl]
      exact ⟨b, nd3, h6⟩
    · cases h2
      dsimp only
      rw [if_pos rfl, if_neg pf]
      exact ⟨(hr j ndp a hp hpl).1, _, at_f⟩
    · obtain ⟨b, nd', h5⟩ := hr j nd i h1 h2
      obtain ⟨nd3, h6⟩ := there h5
      dsimp only
      rw [if_neg (occ h5), if_neg c2]
      exact ⟨b, nd3, h6⟩
  · have src : ∀ {i m : Nat} {nd : Nd}, g' i = some (some nd) → nd.l = some m → (i = p ∧ m = f) ∨ (∃ nd2, m ≠ f ∧ g (if i = f then a else i) = some (some nd2) ∧ nd2.l = some m ∧ i ≠ a) := fun {i m nd} h1 h2 => by
      rcases cs h1 with ⟨rfl, rfl⟩ | ⟨rfl, rfl⟩ | ⟨rfl, rfl⟩ | ⟨c, c2, c3, h1⟩
      · cases h2
      · exact .inr ⟨nd, fun z => noF h (by rw [h2, z]), by rw [if_pos rfl]; exact h, h2, af.symm⟩
      · cases h2; exact .inl ⟨rfl, rfl⟩
      · exact .inr ⟨nd, fun z => noF h1 (by rw [h2, z]), by rw [if_neg c2]; exact h1, h2, c⟩
    rcases src h1 h3 with ⟨rfl, rfl⟩ | ⟨nd2, mf, h5, h6, ia⟩
    · rcases src h2 h4 with ⟨rfl, _⟩ | ⟨nd3, mf, _⟩
      · rfl
      · exact absurd rfl mf
    · rcases src h2 h4 with ⟨rfl, e2⟩ | ⟨nd3, _, h7, h8, ja⟩
      · exact absurd e2 mf
      · have q := w.inj _ _ _ _ _ h5 h7 h6 h8
        by_cases c : i = f
        · by_cases c2 : j = f
          · rw [c, c2]
          · rw [if_pos c, if_neg c2] at q
            exact absurd q.symm ja
        · by_cases c2 : j = f
          · rw [if_neg c, if_pos c2] at q
            exact absurd q ia
          · rwa [if_neg c, if_neg c2] at q
  · rcases cs h1 with ⟨rfl, rfl⟩ | ⟨rfl, rfl⟩ | ⟨rfl, rfl⟩ | ⟨c, c2, c3, h1⟩
    · rw [show pl (Nd.k ⟨k, v, none⟩) = j from ha]
      exact .refl _
    · have := up (w.reach a nd h)
      rw [if_neg hh, if_pos rfl] at this
      exact this
    · have := up (w.reach j ndp hp)
      rw [if_neg (notA hp), if_neg pa] at this
      exact this
    · have := up (w.reach j nd h1)
      rw [if_neg (notA h1), if_neg c] at this
      exact this
  · have gen : ∀ {j : Nat} {nd : Nd}, g j = some (some nd) → ∃ nd', g' (pl nd.k) = some (some nd') ∧ pl nd'.k = pl nd.k := fun {j nd} h1 => by
      obtain ⟨nd', h2, h3⟩ := w.main _ _ h1
      by_cases c : pl nd.k = p
      · rw [c, hp] at h2
        cases h2
        exact ⟨{ ndp with l := some f }, by rw [c]; exact at_p, h3⟩
      · exact ⟨nd', by rw [off (notA h1) (occ h2) c]; exact h2, h3⟩
    rcases cs h1 with ⟨rfl, rfl⟩ | ⟨rfl, rfl⟩ | ⟨rfl, rfl⟩ | ⟨c, c2, c3, h1⟩
    · exact ⟨_, by rw [show pl (Nd.k ⟨k, v, none⟩) = j from ha]; exact at_a, rfl⟩
    · exact gen h
    · exact (gen hp : ∃ nd', g' (pl ndp.k) = some (some nd') ∧ pl nd'.k = pl ndp.k)
    · exact gen h1
  · have key : ∀ {i : Nat} {nd : Nd}, g' i = some (some nd) → (i = a ∧ nd.k = k) ∨ (∃ nd2, i ≠ a ∧ g (if i = f then a else i) = some (some nd2) ∧ nd2.k = nd.k) := fun h1 => by
      rcases cs h1 with ⟨rfl, rfl⟩ | ⟨rfl, rfl⟩ | ⟨rfl, rfl⟩ | ⟨c, c2, c3, h1⟩
      · exact .inl ⟨rfl, rfl⟩
      · exact .inr ⟨_, af.symm, by rw [if_pos rfl]; exact h, rfl⟩
      · exact .inr ⟨ndp, pa, by rw [if_neg pf]; exact hp, rfl⟩
      · exact .inr ⟨_, c, by rw [if_neg c2]; exact h1, rfl⟩
    rcases key h1 with ⟨rfl, e1⟩ | ⟨nd2, ia, h5, e1⟩
    · rcases key h2 with ⟨rfl, e2⟩ | ⟨nd3, ja, h6, e2⟩
      · rfl
      · exact absurd (e2.trans (h3.symm.trans e1)) (hk _ _ h6)
    · rcases key h2 with ⟨rfl, e2⟩ | ⟨nd3, ja, h6, e2⟩
      · exact absurd (e1.trans (h3.trans e2)) (hk _ _ h5)
      · have q := w.dist _ _ _ _ h5 h6 (e1.trans (h3.trans e2.symm))
        by_cases c : i = f
        · by_cases c2 : j = f
          · rw [c, c2]
          · rw [if_pos c, if_neg c2] at q
            exact absurd q.symm ja
        · by_cases c2 : j = f
          · rw [if_neg c, if_pos c2] at q
            exact absurd q ia
          · rwa [if_neg c, if_neg c2] at q
end
section
variable (pl : Ky → Nat → Nat)
structure WF (T : Tb) : Prop where
  g : WG (fun k => pl k T.N.length) fun j => T.N[j]?
  fr : T.fr ≤ T.N.length
  free : ∀ j : Nat, T.fr ≤ j → T.N[j]? ≠ some none
def inA (A : List V) : Ky → Bool
  | .int i => decide (1 ≤ i) && decide (i ≤ A.length)
  | _ => false
def isK (k : Ky) : Option Nd → Bool
  | some nd => decide (nd.k = k)
  | none => false
def findM (N : List (Option Nd)) (k : Ky) : Option Nat := N.findIdx? (isK k)
theorem findM_some {N : List (Option Nd)} {k : Ky} {j : Nat} (h : findM N k = some j) : ∃ nd, N[j]? = some (some nd) ∧ nd.k = k := by
  unfold findM at h
  obtain ⟨hj, e, _⟩ := List.findIdx?_eq_some_iff_getElem.1 h
  cases hn : N[j] with
  | none => rw [hn] at e; cases e
  | some nd =>
    rw [hn] at e
    exact ⟨nd, by rw [List.getElem?_eq_getElem hj, hn], of_decide_eq_true e⟩
theorem findM_none {N : List (Option Nd)} {k : Ky} (h : findM N k = none) : ∀ (j : Nat) (nd : Nd), N[j]? = some (some nd) → nd.k ≠ k := by
  intro j nd hj e
  unfold findM at h
  rw [List.findIdx?_eq_none_iff] at h
  have : decide (nd.k = k) = false := h (some nd) (List.mem_of_getElem? hj)
  rw [decide_eq_true e] at this
  cases this
/-- the free place: the last empty one below -/
def freeM (N : List (Option Nd)) : Nat → Option Nat
  | 0 => none
  | n + 1 => match N[n]? with
    | some none => some n
    | _ => freeM N n
theorem freeM_some {N : List (Option Nd)} : ∀ {n f : Nat}, freeM N n = some f → f < n ∧ N[f]? = some none ∧ ∀ j : Nat, f < j → j < n → N[j]? ≠ some none
  | 0, f, h => by cases h
  | n + 1, f, h => by
    unfold freeM at h
    split at h
    · rename_i e
      cases h
      exact ⟨Nat.lt_succ_self _, e, fun j h1 h2 => by omega⟩
    · rename_i ne
      obtain ⟨a, b, c⟩ := freeM_some h
      refine ⟨by omega, b, fun j h1 h2 => ?_⟩
      by_cases e : j = n
      · subst e
        exact ne
      · exact c j h1 (by omega)
theorem freeM_none {N : List (Option Nd)} : ∀ {n : Nat}, freeM N n = none → ∀ j : Nat, j < n → N[j]? ≠ some none
  | 0, _, j, h => by omega
  | n + 1, h, j, hj => by
    unfold freeM at h
    split at h
    · cases h
    · rename_i ne
      by_cases e : j = n
      · subst e
        exact ne
      · exact freeM_none h j (by omega)
def occ (N : List (Option Nd)) : Nat := N.countP (·.isSome)
theorem occ_le (N : List (Option Nd)) : occ N ≤ N.length := List.countP_le_length
/-- where a place is empty the free one is found -/
theorem free_found {T : Tb} (w : WF pl T) (h : occ T.N < T.N.length) : ∃ f, freeM T.N T.fr = some f := by
  cases hf : freeM T.N T.fr with
  | some f => exact ⟨f, rfl⟩
  | none =>
    exfalso
    have all : ∀ j : Nat, T.N[j]? ≠ some none := fun j => by
      by_cases c : j < T.fr
      · exact freeM_none hf j c
      · exact w.free j (by omega)
    have : occ T.N = T.N.length := by
      unfold occ
      rw [List.countP_eq_length]
      intro o ho
      obtain ⟨j, hj⟩ := List.mem_iff_getElem?.1 ho
      cases o with
      | none => exact absurd hj (all j)
      | some nd => rfl
    omega
/-! ### a new node -/
def setL (o : Option Nd) (l : Option Nat) : Option Nd := o.map fun nd => { nd with l := l }
/-- the node ahead of a place -/
def aheadM (N : List (Option Nd)) (at' : Nat) : Option Nat := N.findIdx? fun o => match o with
  | some nd => decide (nd.l = some at')
  | none => false
theorem aheadM_some {N : List (Option Nd)} {a p : Nat} (h : aheadM N a = some p) : ∃ nd, N[p]? = some (some nd) ∧ nd.l = some a := by
  unfold aheadM at h
  obtain ⟨hj, e, _⟩ := List.findIdx?_eq_some_iff_getElem.1 h
  cases hn : N[p] with
  | none => rw [hn] at e; cases e
  | some nd =>
    rw [hn] at e
    exact ⟨nd, by rw [List.getElem?_eq_getElem hj, hn], of_decide_eq_true e⟩
/-- put_new where there is a free place -/
def insM (T : Tb) (k : Ky) (v : V) : Tb :=
  let a := pl k T.N.length
  match T.N[a]? with
  | some (some nd) =>
    if nd.v = .non then { T with N := T.N.set a (some ⟨k, v, nd.l⟩) }
    else match freeM T.N T.fr with
      | some f =>
        if pl nd.k T.N.length = a then { T with N := (T.N.set f (some ⟨k, v, nd.l⟩)).set a (some { nd with l := some f }), fr := f }
        else match aheadM T.N a with
          | some p => { T with N := ((T.N.set p (setL (T.N[p]?.getD none) (some f))).set f (some nd)).set a (some ⟨k, v, none⟩), fr := f }
          | none => T
      | none => T
  | _ => { T with N := T.N.set a (some ⟨k, v, none⟩) }
/-- put where there is room -/
def put0 (T : Tb) (k : Ky) (v : V) : Tb :=
  if inA T.A k = true then match k with
    | .int i => { T with A := T.A.set (i - 1).toNat v }
    | _ => T
  else match findM T.N k with
    | some j => { T with N := T.N.modify j fun o => o.map fun nd => { nd with v := v } }
    | none => if v = .non then T else insM pl T k v
/-- whether put wants to grow -/
def needG (T : Tb) (k : Ky) (v : V) : Bool := !inA T.A k && (findM T.N k).isNone && !decide (v = .non) &&
  (T.N.isEmpty || match T.N[pl k T.N.length]? with
    | some (some nd) => !decide (nd.v = .non) && (freeM T.N T.fr).isNone
    | _ => false)
end
end Tm

set_option Elab.async false
set_option linter.all false
set_option maxRecDepth 100000
set_option autoImplicit false
set_option maxHeartbeats 4000000
namespace Tm
open PySem L2
theorem gs {α : Type} {N : List α} {a : Nat} {x : α} (h : a < N.length) (j : Nat) : (N.set a x)[j]? = if j = a then some x else N[j]? := by
  by_cases c : j = a
  · subst c
    rw [if_pos rfl, List.getElem?_set_self h]
  · rw [if_neg c, List.getElem?_set_ne (Ne.symm c)]
theorem occ_set {N : List (Option Nd)} {a : Nat} {nd : Nd} : occ (N.set a (some nd)) ≤ occ N + 1 := by
  unfold occ
  by_cases h : a < N.length
  · rw [List.countP_set h]
    split <;> split <;> omega
  · rw [List.set_eq_of_length_le (by omega)]
    omega
theorem occ_set' {N : List (Option Nd)} {a : Nat} {nd nd' : Nd} (e : N[a]? = some (some nd')) : occ (N.set a (some nd)) = occ N := by
  obtain ⟨h, e⟩ := List.getElem?_eq_some_iff.1 e
  unfold occ
  rw [List.countP_set h, e]
  have : 0 < List.countP (fun x => x.isSome) N := List.countP_pos_iff.2 ⟨some nd', by rw [← e]; exact List.getElem_mem h, rfl⟩
  simp only [Option.isSome_some, if_true]
  omega
/-- values put otherwise -/
theorem WG.vals {pl : Ky → Nat} {g g' : G} (w : WG pl g) (h : ∀ j, g' j = g j ∨ ∃ nd v, g j = some (some nd) ∧ g' j = some (some { nd with v := v })) : WG pl g' := by
  have old : ∀ {j : Nat} {nd : Nd}, g' j = some (some nd) → ∃ nd2, g j = some (some nd2) ∧ nd2.k = nd.k ∧ nd2.l = nd.l := fun {j nd} h1 => by
    rcases h j with e | ⟨nd2, v, e1, e2⟩
    · exact ⟨nd, by rw [← e]; exact h1, rfl, rfl⟩
    · rw [e2] at h1
      cases h1
      exact ⟨nd2, e1, rfl, rfl⟩
  have new : ∀ {j : Nat} {nd : Nd}, g j = some (some nd) → ∃ nd2, g' j = some (some nd2) ∧ nd2.k = nd.k ∧ nd2.l = nd.l := fun {j nd} h1 => by
    rcases h j with e | ⟨nd2, v, e1, e2⟩
    · exact ⟨nd, by rw [e]; exact h1, rfl, rfl⟩
    · rw [e1] at h1
      cases h1
      exact ⟨_, e2, rfl, rfl⟩
  obtain ⟨rk, hr⟩ := w.link
  refine ⟨⟨rk, fun j nd i h1 h2 => ?_⟩, fun i j nd nd' m h1 h2 h3 h4 => ?_, fun j nd h1 => ?_, fun j nd h1 => ?_, fun i j nd nd' h1 h2 h3 => ?_⟩
  · obtain ⟨n2, a, b, c⟩ := old h1
    obtain ⟨d, n3, e⟩ := hr j n2 i a (c.trans h2)
    obtain ⟨n4, f, _⟩ := new e
    exact ⟨d, n4, f⟩
  · obtain ⟨n2, a, b, c⟩ := old h1
    obtain ⟨n3, a', b', c'⟩ := old h2
    exact w.inj i j n2 n3 m a a' (c.trans h3) (c'.trans h4)
  · obtain ⟨n2, a, b, c⟩ := old h1
    have := w.reach j n2 a
    rw [b] at this
    exact Reach.map id (fun i m nd h1 h2 => let ⟨n2, a, b, c⟩ := new h1; .step a (c.trans h2) (.refl _)) this
  · obtain ⟨n2, a, b, c⟩ := old h1
    obtain ⟨n3, d, e⟩ := w.main j n2 a
    obtain ⟨n4, f, g1, _⟩ := new d
    rw [b] at f e
    exact ⟨n4, f, by rw [g1]; exact e⟩
  · obtain ⟨n2, a, b, c⟩ := old h1
    obtain ⟨n3, a', b', c'⟩ := old h2
    exact w.dist i j n2 n3 a a' (b.trans (h3.trans b'.symm))
section
variable {pl : Ky → Nat → Nat}
theorem ahead_is {T : Tb} {k : Ky} {a : Nat} {nd0 : Nd} (w : WF pl T) (h : T.N[a]? = some (some nd0)) (hh : pl nd0.k T.N.length ≠ a) : ∃ p, aheadM T.N a = some p := by
  obtain ⟨q, nd, h1, h2⟩ := (w.g.reach a nd0 h).last hh
  have h1 : T.N[q]? = some (some nd) := h1
  cases e : aheadM T.N a with
  | some p => exact ⟨p, rfl⟩
  | none =>
    unfold aheadM at e
    rw [List.findIdx?_eq_none_iff] at e
    have : decide (nd.l = some a) = false := e (some nd) (List.mem_of_getElem? h1)
    rw [decide_eq_true h2] at this
    cases this
theorem ins_wf {T : Tb} {k : Ky} {v : V} (hpl : ∀ k n, 0 < n → pl k n < n) (w : WF pl T) (h0 : T.N ≠ []) (hk : findM T.N k = none)
    (hg : ∀ nd, T.N[pl k T.N.length]? = some (some nd) → nd.v ≠ .non → ∃ f, freeM T.N T.fr = some f) :
    WF pl (insM pl T k v) ∧ (insM pl T k v).N.length = T.N.length ∧ (insM pl T k v).A = T.A ∧ occ (insM pl T k v).N ≤ occ T.N + 1 := by
  have hlen : 0 < T.N.length := List.length_pos_iff.2 h0
  have ha : pl k T.N.length < T.N.length := hpl _ _ hlen
  have nk : ∀ (j : Nat) (nd : Nd), T.N[j]? = some (some nd) → nd.k ≠ k := findM_none hk
  unfold insM
  generalize ea : pl k T.N.length = a at *
  simp only
  split
  · rename_i nd hnd
    split
    · have len : (T.N.set a (some ⟨k, v, nd.l⟩)).length = T.N.length := List.length_set
      refine ⟨⟨?_, by rw [len]; exact w.fr, fun j hj => ?_⟩, len, rfl, occ_set⟩
      · show WG (fun k' => pl k' (T.N.set a (some ⟨k, v, nd.l⟩)).length) _
        rw [show (fun k' => pl k' (T.N.set a (some ⟨k, v, nd.l⟩)).length) = fun k' => pl k' T.N.length by rw [len]]
        exact w.g.dead ea hnd nk fun j => gs ha j
      · show (T.N.set a _)[j]? ≠ _
        rw [gs ha]
        split
        · exact fun z => by cases z
        · exact w.free j hj
    · rename_i hv
      obtain ⟨f, hf⟩ := hg nd hnd hv
      obtain ⟨f1, f2, f3⟩ := freeM_some hf
      have fl : f < T.N.length := Nat.lt_of_lt_of_le f1 w.fr
      rw [hf]
      simp only
      have fre : ∀ (N' : List (Option Nd)), (∀ j, j ≠ f → T.N[j]? ≠ some none → N'[j]? ≠ some none) → N'[f]? ≠ some none → ∀ j, f ≤ j → N'[j]? ≠ some none := fun N' h1 h2 j hj => by
        by_cases c : j = f
        · rw [c]; exact h2
        · refine h1 j c ?_
          by_cases c2 : j < T.fr
          · exact f3 j (by omega) c2
          · exact w.free j (by omega)
      split
      · rename_i hh
        have len : ((T.N.set f (some ⟨k, v, nd.l⟩)).set a (some { nd with l := some f })).length = T.N.length := by rw [List.length_set, List.length_set]
        have af : a ≠ f := fun z => by rw [z, f2] at hnd; cases hnd
        have get : ∀ j, ((T.N.set f (some ⟨k, v, nd.l⟩)).set a (some { nd with l := some f }))[j]? = if j = a then some (some { nd with l := some f }) else if j = f then some (some ⟨k, v, nd.l⟩) else T.N[j]? := fun j => by
          rw [gs (by rw [List.length_set]; exact ha), gs fl]
        refine ⟨⟨?_, by rw [len]; exact Nat.le_of_lt fl, fre _ (fun j c h1 => ?_) ?_⟩, len, rfl, ?_⟩
        · show WG (fun k' => pl k' ((T.N.set f (some ⟨k, v, nd.l⟩)).set a (some { nd with l := some f })).length) _
          rw [show (fun k' => pl k' ((T.N.set f (some ⟨k, v, nd.l⟩)).set a (some { nd with l := some f })).length) = fun k' => pl k' T.N.length by rw [len]]
          exact w.g.behind ea hnd hh f2 nk get
        · show ((T.N.set f _).set a _)[j]? ≠ _
          rw [get, if_neg c]
          split
          · exact fun z => by cases z
          · exact h1
        · show ((T.N.set f _).set a _)[f]? ≠ _
          rw [get, if_neg af.symm, if_pos rfl]
          exact fun z => by cases z
        · show occ ((T.N.set f _).set a _) ≤ _
          rw [occ_set' (nd' := nd) (by rw [gs fl, if_neg af]; exact hnd)]
          exact occ_set
      · rename_i hh
        obtain ⟨p, hp⟩ := ahead_is (k := k) w hnd hh
        obtain ⟨ndp, p1, p2⟩ := aheadM_some hp
        rw [hp]
        simp only
        have plt : p < T.N.length := (List.getElem?_eq_some_iff.1 p1).1
        have sp : setL (T.N[p]?.getD none) (some f) = some { ndp with l := some f } := by rw [p1]; rfl
        rw [sp]
        obtain ⟨rk, hr⟩ := w.g.link
        have pa : p ≠ a := fun z => by have := (hr p ndp a p1 p2).1; rw [z] at this; omega
        have pf : p ≠ f := fun z => by rw [z, f2] at p1; cases p1
        have af : a ≠ f := fun z => by rw [z, f2] at hnd; cases hnd
        have len : (((T.N.set p (some { ndp with l := some f })).set f (some nd)).set a (some ⟨k, v, none⟩)).length = T.N.length := by rw [List.length_set, List.length_set, List.length_set]
        have get : ∀ j, (((T.N.set p (some { ndp with l := some f })).set f (some nd)).set a (some ⟨k, v, none⟩))[j]? = if j = a then some (some ⟨k, v, none⟩) else if j = f then some (some nd) else if j = p then some (some { ndp with l := some f }) else T.N[j]? := fun j => by
          rw [gs (by rw [List.length_set, List.length_set]; exact ha), gs (by rw [List.length_set]; exact fl), gs plt]
        refine ⟨⟨?_, by rw [len]; exact Nat.le_of_lt fl, fre _ (fun j c h1 => ?_) ?_⟩, len, trivial, ?_⟩
        · show WG (fun k' => pl k' (((T.N.set p (some { ndp with l := some f })).set f (some nd)).set a (some ⟨k, v, none⟩)).length) _
          rw [show (fun k' => pl k' (((T.N.set p (some { ndp with l := some f })).set f (some nd)).set a (some ⟨k, v, none⟩)).length) = fun k' => pl k' T.N.length by rw [len]]
          exact w.g.move ea hnd hh f2 p1 p2 nk get
        · show (((T.N.set p _).set f _).set a _)[j]? ≠ _
          rw [get, if_neg c]
          split
          · exact fun z => by cases z
          · split
            · exact fun z => by cases z
            · exact h1
        · show (((T.N.set p _).set f _).set a _)[f]? ≠ _
          rw [get, if_neg af.symm, if_pos rfl]
          exact fun z => by cases z
        · show occ (((T.N.set p _).set f _).set a _) ≤ _
          have hset : ((T.N.set p (some { ndp with l := some f })).set f (some nd))[a]? = some (some nd) := by rw [gs (by rw [List.length_set]; exact fl), if_neg af, gs plt, if_neg pa.symm]; exact hnd
          rw [occ_set' hset]
          refine Nat.le_trans occ_set ?_
          rw [occ_set' p1]
          exact Nat.le_refl _
  · rename_i hn
    have hnone : T.N[a]? = some none := by
      cases e : T.N[a]? with
      | none => rw [List.getElem?_eq_none_iff] at e; omega
      | some o =>
        cases o with
        | none => rfl
        | some nd => exact absurd e (hn nd)
    have len : (T.N.set a (some ⟨k, v, none⟩)).length = T.N.length := List.length_set
    refine ⟨⟨?_, by rw [len]; exact w.fr, fun j hj => ?_⟩, len, rfl, occ_set⟩
    · show WG (fun k' => pl k' (T.N.set a (some ⟨k, v, none⟩)).length) _
      rw [show (fun k' => pl k' (T.N.set a (some ⟨k, v, none⟩)).length) = fun k' => pl k' T.N.length by rw [len]]
      exact w.g.empty ea hnone nk fun j => gs ha j
    · show (T.N.set a _)[j]? ≠ _
      rw [gs ha]
      split
      · exact fun z => by cases z
      · exact w.free j hj
end
end Tm

set_option Elab.async false
set_option linter.all false
set_option maxRecDepth 100000
set_option autoImplicit false
set_option maxHeartbeats 4000000
namespace Tm
open PySem L2
def liveV (v : V) : Bool := !decide (v = .non)
def liveN : Option Nd → Bool
  | some nd => liveV nd.v
  | none => false
def live (T : Tb) : Nat := T.A.countP liveV + T.N.countP liveN
theorem countP_set_le {α : Type} {p : α → Bool} {N : List α} {a : Nat} {x : α} : (N.set a x).countP p ≤ N.countP p + 1 := by
  by_cases h : a < N.length
  · rw [List.countP_set h]
    split <;> split <;> omega
  · rw [List.set_eq_of_length_le (by omega)]
    omega
theorem countP_set_eq {α : Type} {p : α → Bool} {N : List α} {a : Nat} {x y : α} (e : N[a]? = some y) (h : p x = p y) : (N.set a x).countP p = N.countP p := by
  obtain ⟨hl, e⟩ := List.getElem?_eq_some_iff.1 e
  rw [List.countP_set hl, e, h]
  by_cases c : p y = true
  · have : 0 < List.countP p N := List.countP_pos_iff.2 ⟨y, by rw [← e]; exact List.getElem_mem hl, c⟩
    rw [if_pos c]
    omega
  · rw [if_neg c]
    omega
section
variable {pl : Ky → Nat → Nat}
theorem mod_len {N : List (Option Nd)} {j : Nat} {f : Option Nd → Option Nd} : (N.modify j f).length = N.length := List.length_modify f N j
theorem mod_set {N : List (Option Nd)} {j : Nat} {nd : Nd} {f : Option Nd → Option Nd} (h : N[j]? = some (some nd)) : N.modify j f = N.set j (f (some nd)) := by
  obtain ⟨hl, e⟩ := List.getElem?_eq_some_iff.1 h
  refine List.ext_getElem? fun i => ?_
  rw [List.getElem?_modify, gs hl]
  by_cases c : i = j
  · subst c
    rw [if_pos rfl, h]
    simp
  · rw [if_neg c]
    have c' : ¬ j = i := fun z => c z.symm
    simp [c']
/-- what put does where there is room -/
theorem put0_ok {T : Tb} {k : Ky} {v : V} (hpl : ∀ k n, 0 < n → pl k n < n) (w : WF pl T) (h : occ T.N + (if inA T.A k = true then 0 else 1) ≤ T.N.length) :
    needG pl T k v = false ∧ WF pl (put0 pl T k v) ∧ (put0 pl T k v).N.length = T.N.length ∧ (put0 pl T k v).A.length = T.A.length ∧ occ (put0 pl T k v).N ≤ occ T.N + (if inA T.A k = true then 0 else 1) := by
  unfold needG put0
  by_cases ci : inA T.A k = true
  · rw [if_pos ci] at h
    rw [if_pos ci, if_pos ci, ci]
    refine ⟨rfl, ?_⟩
    cases k with
    | int i => exact ⟨⟨w.g, w.fr, w.free⟩, rfl, List.length_set, Nat.le_refl _⟩
    | str z => exact ⟨w, rfl, rfl, Nat.le_refl _⟩
    | bl b => exact ⟨w, rfl, rfl, Nat.le_refl _⟩
    | fl s t p => exact ⟨w, rfl, rfl, Nat.le_refl _⟩
    | inf s => exact ⟨w, rfl, rfl, Nat.le_refl _⟩
    | ob a m => exact ⟨w, rfl, rfl, Nat.le_refl _⟩
    | nt a z => exact ⟨w, rfl, rfl, Nat.le_refl _⟩
  · rw [if_neg ci] at h
    rw [if_neg ci, if_neg ci]
    have h0 : T.N ≠ [] := fun z => by rw [z] at h; exact absurd h (by show ¬ (_ + 1 ≤ 0); omega)
    obtain ⟨f, hf⟩ := free_found pl w (by omega)
    cases hfi : findM T.N k with
    | some j =>
      simp only
      obtain ⟨nd, hj, hk⟩ := findM_some hfi
      rw [mod_set hj]
      have len : (T.N.set j (Option.map (fun nd => { nd with v := v }) (some nd))).length = T.N.length := List.length_set
      have jl : j < T.N.length := (List.getElem?_eq_some_iff.1 hj).1
      refine ⟨by simp, ⟨?_, by rw [len]; exact w.fr, fun i hi => ?_⟩, len, trivial, Nat.le_trans (Nat.le_of_eq (occ_set' (nd := { nd with v := v }) hj)) (Nat.le_add_right _ _)⟩
      · show WG (fun k' => pl k' (T.N.set j (Option.map (fun nd => { nd with v := v }) (some nd))).length) _
        rw [show (fun k' => pl k' (T.N.set j (Option.map (fun nd => { nd with v := v }) (some nd))).length) = fun k' => pl k' T.N.length by rw [len]]
        refine w.g.vals fun i => ?_
        show (T.N.set j _)[i]? = T.N[i]? ∨ ∃ nd v, T.N[i]? = some (some nd) ∧ (T.N.set j _)[i]? = _
        rw [gs jl]
        by_cases c : i = j
        · subst c
          exact .inr ⟨nd, v, hj, if_pos rfl⟩
        · exact .inl (if_neg c)
      · show (T.N.set j _)[i]? ≠ _
        rw [gs jl]
        split
        · exact fun z => by cases z
        · exact w.free i hi
    | none =>
      simp only
      refine ⟨by
        rw [hf, show T.N.isEmpty = false by cases hN : T.N with | nil => exact absurd hN h0 | cons x xs => rfl]
        split <;> simp, ?_⟩
      by_cases cv : v = .non
      · rw [if_pos cv]
        exact ⟨w, rfl, rfl, by omega⟩
      · rw [if_neg cv]
        obtain ⟨a, b, c, d⟩ := ins_wf (v := v) hpl w h0 hfi (fun nd h1 h2 => ⟨f, hf⟩)
        exact ⟨a, b, by rw [c], d⟩
/-- as put where nothing need grow: a new key's place is empty, dead, or there is a free one -/
theorem put1_ok {T : Tb} {k : Ky} {v : V} (hpl : ∀ k n, 0 < n → pl k n < n) (w : WF pl T) (h : needG pl T k v = false) :
    WF pl (put0 pl T k v) ∧ (put0 pl T k v).N.length = T.N.length ∧ (put0 pl T k v).A.length = T.A.length := by
  unfold needG at h
  unfold put0
  by_cases ci : inA T.A k = true
  · rw [if_pos ci]
    cases k with
    | int i => exact ⟨⟨w.g, w.fr, w.free⟩, rfl, List.length_set⟩
    | str z => exact ⟨w, rfl, rfl⟩
    | bl b => exact ⟨w, rfl, rfl⟩
    | fl s t p => exact ⟨w, rfl, rfl⟩
    | inf s => exact ⟨w, rfl, rfl⟩
    | ob a m => exact ⟨w, rfl, rfl⟩
    | nt a z => exact ⟨w, rfl, rfl⟩
  · rw [if_neg ci]
    rw [show inA T.A k = false from Bool.eq_false_iff.2 ci] at h
    cases hfi : findM T.N k with
    | some j =>
      simp only
      obtain ⟨nd, hj, hk⟩ := findM_some hfi
      rw [mod_set hj]
      have len : (T.N.set j (Option.map (fun nd => { nd with v := v }) (some nd))).length = T.N.length := List.length_set
      have jl : j < T.N.length := (List.getElem?_eq_some_iff.1 hj).1
      refine ⟨⟨?_, by rw [len]; exact w.fr, fun i hi => ?_⟩, len, trivial⟩
      · show WG (fun k' => pl k' (T.N.set j (Option.map (fun nd => { nd with v := v }) (some nd))).length) _
        rw [show (fun k' => pl k' (T.N.set j (Option.map (fun nd => { nd with v := v }) (some nd))).length) = fun k' => pl k' T.N.length by rw [len]]
        refine w.g.vals fun i => ?_
        show (T.N.set j _)[i]? = T.N[i]? ∨ ∃ nd v, T.N[i]? = some (some nd) ∧ (T.N.set j _)[i]? = _
        rw [gs jl]
        by_cases c : i = j
        · subst c
          exact .inr ⟨nd, v, hj, if_pos rfl⟩
        · exact .inl (if_neg c)
      · show (T.N.set j _)[i]? ≠ _
        rw [gs jl]
        split
        · exact fun z => by cases z
        · exact w.free i hi
    | none =>
      simp only
      by_cases cv : v = .non
      · rw [if_pos cv]
        exact ⟨w, rfl, rfl⟩
      · rw [if_neg cv]
        rw [hfi, decide_eq_false cv] at h
        simp only [Bool.not_false, Option.isNone_none, Bool.true_and, Bool.and_true, Bool.or_eq_false_iff] at h
        obtain ⟨h1, h2⟩ := h
        have h0 : T.N ≠ [] := fun z => by rw [z] at h1; cases h1
        obtain ⟨a, b, c, d⟩ := ins_wf (v := v) hpl w h0 hfi (fun nd h3 h4 => by
          rw [h3] at h2
          simp only [decide_eq_false h4, Bool.not_false, Bool.true_and] at h2
          cases hf : freeM T.N T.fr with
          | some f => exact ⟨f, rfl⟩
          | none => rw [hf] at h2; cases h2)
        exact ⟨a, b, by rw [c]⟩
theorem live_mk {A : List V} {N : List (Option Nd)} {f : Nat} : live ⟨A, N, f⟩ = A.countP liveV + N.countP liveN := rfl
theorem ins_live {T : Tb} {k : Ky} {v : V} : live (insM pl T k v) ≤ live T + 1 := by
  unfold insM
  simp only
  have S : ∀ {N : List (Option Nd)} {a : Nat} {x : Option Nd}, (N.set a x).countP liveN ≤ N.countP liveN + 1 := countP_set_le
  split
  · rename_i nd hnd
    split
    · unfold live; dsimp only
      have := S (N := T.N) (a := pl k T.N.length) (x := some ⟨k, v, nd.l⟩)
      omega
    · rename_i hv
      split
      · rename_i f hf
        obtain ⟨f1, f2, f3⟩ := freeM_some hf
        have af : pl k T.N.length ≠ f := fun z => by rw [z, f2] at hnd; cases hnd
        have al := (List.getElem?_eq_some_iff.1 hnd).1
        have fl := (List.getElem?_eq_some_iff.1 f2).1
        split
        · unfold live; dsimp only
          have h1 : ((T.N.set f (some ⟨k, v, nd.l⟩)).set (pl k T.N.length) (some { nd with l := some f })).countP liveN = (T.N.set f (some ⟨k, v, nd.l⟩)).countP liveN :=
            countP_set_eq (y := some nd) (by rw [gs fl, if_neg af]; exact hnd) rfl
          have := S (N := T.N) (a := f) (x := some ⟨k, v, nd.l⟩)
          omega
        · split
          · rename_i p hp
            obtain ⟨ndp, p1, p2⟩ := aheadM_some hp
            have plt := (List.getElem?_eq_some_iff.1 p1).1
            have sp : setL (T.N[p]?.getD none) (some f) = some { ndp with l := some f } := by rw [p1]; rfl
            rw [sp]
            unfold live; dsimp only
            have h1 : (T.N.set p (some { ndp with l := some f })).countP liveN = T.N.countP liveN := countP_set_eq p1 rfl
            by_cases pf : p = f
            · rw [pf, f2] at p1
              cases p1
            · have h2 : ((T.N.set p (some { ndp with l := some f })).set f (some nd)).countP liveN ≤ (T.N.set p (some { ndp with l := some f })).countP liveN + 1 := S
              by_cases pa : pl k T.N.length = p
              · have h3 : (((T.N.set p (some { ndp with l := some f })).set f (some nd)).set (pl k T.N.length) (some ⟨k, v, none⟩)).countP liveN ≤ ((T.N.set p (some { ndp with l := some f })).set f (some nd)).countP liveN + 1 := S
                have h4 : some ndp = some nd := by rw [pa, p1] at hnd; cases hnd; rfl
                have h5 : liveV nd.v = true := by unfold liveV; rw [decide_eq_false hv]; rfl
                by_cases h6 : liveN (some ⟨k, v, none⟩) = true
                · have h7 := countP_set_eq (p := liveN) (N := (T.N.set p (some { ndp with l := some f })).set f (some nd)) (a := pl k T.N.length) (x := some ⟨k, v, none⟩) (y := some { ndp with l := some f }) (by
                    rw [gs (by rw [List.length_set]; exact fl), if_neg af, gs plt, if_pos pa]) (by
                    rw [h6]; cases h4; exact h5.symm)
                  omega
                · have h7 : (((T.N.set p (some { ndp with l := some f })).set f (some nd)).set (pl k T.N.length) (some ⟨k, v, none⟩)).countP liveN ≤ ((T.N.set p (some { ndp with l := some f })).set f (some nd)).countP liveN := by
                    rw [List.countP_set (by rw [List.length_set, List.length_set]; exact al), if_neg h6]
                    omega
                  omega
              · have h7 : (((T.N.set p (some { ndp with l := some f })).set f (some nd)).set (pl k T.N.length) (some ⟨k, v, none⟩)).countP liveN ≤ ((T.N.set p (some { ndp with l := some f })).set f (some nd)).countP liveN := by
                  have e : ((T.N.set p (some { ndp with l := some f })).set f (some nd))[pl k T.N.length]? = some (some nd) := by
                    rw [gs (by rw [List.length_set]; exact fl), if_neg af, gs plt, if_neg pa]; exact hnd
                  have h5 : liveN (some nd) = true := by show liveV nd.v = true; unfold liveV; rw [decide_eq_false hv]; rfl
                  by_cases h6 : liveN (some ⟨k, v, none⟩) = true
                  · rw [countP_set_eq e (h6.trans h5.symm)]
                    exact Nat.le_refl _
                  · rw [List.countP_set (by rw [List.length_set, List.length_set]; exact al), if_neg h6]
                    omega
                omega
          · omega
      · omega
  · unfold live; dsimp only
    have := S (N := T.N) (a := pl k T.N.length) (x := some ⟨k, v, none⟩)
    omega
theorem put0_live {T : Tb} {k : Ky} {v : V} : live (put0 pl T k v) ≤ live T + 1 := by
  unfold put0
  split
  · cases k with
    | int i =>
      show (T.A.set _ _).countP liveV + T.N.countP liveN ≤ T.A.countP liveV + T.N.countP liveN + 1
      have := countP_set_le (p := liveV) (N := T.A) (a := (i - 1).toNat) (x := v)
      omega
    | str z => exact Nat.le_succ (live T)
    | bl b => exact Nat.le_succ (live T)
    | fl s t p => exact Nat.le_succ (live T)
    | inf s => exact Nat.le_succ (live T)
    | ob a m => exact Nat.le_succ (live T)
    | nt a z => exact Nat.le_succ (live T)
  · split
    · rename_i j hfi
      obtain ⟨nd, hj, hk⟩ := findM_some hfi
      show T.A.countP liveV + (T.N.modify j _).countP liveN ≤ T.A.countP liveV + T.N.countP liveN + 1
      rw [mod_set hj]
      have := countP_set_le (p := liveN) (N := T.N) (a := j) (x := Option.map (fun nd => { nd with v := v }) (some nd))
      omega
    · split
      · omega
      · exact ins_live
end
end Tm

set_option Elab.async false
set_option linter.all false
set_option maxRecDepth 100000
set_option autoImplicit false
set_option maxHeartbeats 4000000
namespace Tm
open PySem L2 Nu
def powM (n : Nat) : Nat := if n = 0 then 0 else 2 ^ Builtin.Int.intBits ((n : Int) - 1)
theorem powM_ge (n : Nat) : n ≤ powM n := by
  unfold powM
  split
  · omega
  · have := lt_pow_bits (n := (n : Int) - 1) (by omega)
    have h : ((2 ^ Builtin.Int.intBits ((n : Int) - 1) : Nat) : Int) = 2 ^ Builtin.Int.intBits ((n : Int) - 1) := by simp
    omega
theorem powM_le (n : Nat) : powM n ≤ 2 * n := by
  unfold powM
  split
  · omega
  · by_cases h1 : n = 1
    · subst h1
      decide
    · have a := pow_bits_le (n := (n : Int) - 1) (by omega)
      have b := bits_pos (n := (n : Int) - 1) (by omega)
      obtain ⟨m, hm⟩ : ∃ m, Builtin.Int.intBits ((n : Int) - 1) = m + 1 := ⟨_, (Nat.succ_pred_eq_of_pos b).symm⟩
      rw [hm] at a ⊢
      rw [show m + 1 - 1 = m by omega] at a
      have h : ((2 ^ m : Nat) : Int) = 2 ^ m := by simp
      rw [Nat.pow_succ]
      omega
/-! ### puts in a row -/
section
variable (pl : Ky → Nat → Nat)
def putsM (T : Tb) (l : List (Ky × V)) : Tb := l.foldl (fun T kv => put0 pl T kv.1 kv.2) T
def outs (n : Nat) (k : Ky) : Bool := match k with
  | .int i => !(decide (1 ≤ i) && decide (i ≤ n))
  | _ => true
theorem outs_inA (A : List V) (k : Ky) : outs A.length k = !inA A k := by
  cases k <;> rfl
/-- the old entries with a value: those of the places beyond, those of the nodes -/
def aboveL (a : Nat) : List V → List (Ky × V)
  | [] => []
  | v :: vs => (if v = .non then [] else [(.int ((a : Int) + 1), v)]) ++ aboveL (a + 1) vs
def nodeL : List (Option Nd) → List (Ky × V)
  | [] => []
  | none :: ns => nodeL ns
  | some nd :: ns => (if nd.v = .non then [] else [(nd.k, nd.v)]) ++ nodeL ns
theorem aboveL_len : ∀ (a : Nat) (vs : List V), (aboveL a vs).length = vs.countP liveV
  | _, [] => rfl
  | a, v :: vs => by
    rw [aboveL, List.length_append, aboveL_len (a + 1) vs, List.countP_cons]
    by_cases c : v = .non
    · rw [if_pos c, c]
      show 0 + _ = _ + 0
      omega
    · rw [if_neg c, show liveV v = true by unfold liveV; rw [decide_eq_false c]; rfl, if_pos rfl]
      show 1 + _ = _
      omega
theorem nodeL_len : ∀ (ns : List (Option Nd)), (nodeL ns).length = ns.countP liveN
  | [] => rfl
  | none :: ns => by
    rw [nodeL, nodeL_len ns, List.countP_cons]
    rfl
  | some nd :: ns => by
    rw [nodeL, List.length_append, nodeL_len ns, List.countP_cons]
    by_cases c : nd.v = .non
    · rw [if_pos c, show liveN (some nd) = false by show liveV nd.v = false; rw [c]; rfl]
      show 0 + _ = _
      simp
    · rw [if_neg c, show liveN (some nd) = true by show liveV nd.v = true; unfold liveV; rw [decide_eq_false c]; rfl, if_pos rfl]
      show 1 + _ = _
      omega
def resizeM (T : Tb) (a n : Nat) : Tb :=
  let T1 := putsM pl ⟨T.A.take a, List.replicate (powM n) none, powM n⟩ (aboveL a (T.A.drop a))
  putsM pl ⟨T1.A ++ List.replicate (a - T1.A.length) .non, T1.N, T1.fr⟩ (nodeL T.N)
def makeRoomM (T : Tb) (c : Nat) : Tb := if c > T.A.length then resizeM pl T c T.N.length else T
def keysM (T : Tb) (k : Ky) : List Ky := (aboveL 0 T.A).map (·.1) ++ [k] ++ (nodeL T.N).map (·.1)
/-- how many of the keys are integers up to a bound -/
def ins (l : List Ky) (n : Nat) : Nat := l.countP fun k => !outs n k
def bestM (l : List Ky) : Nat → Nat × Nat
  | 0 => (0, 0)
  | p + 1 => if 2 * ins l (2 ^ p) > 2 ^ p then (2 ^ p, ins l (2 ^ p)) else bestM l p
def growM (T : Tb) (k : Ky) : Tb := resizeM pl T (bestM (keysM T k) 32).1 ((keysM T k).length - (bestM (keysM T k) 32).2)
def putG (T : Tb) (k : Ky) (v : V) : Tb := if needG pl T k v = true then put0 pl (growM pl T k) k v else put0 pl T k v
variable {pl}
theorem puts_ok (hpl : ∀ k n, 0 < n → pl k n < n) : ∀ (l : List (Ky × V)) (T : Tb), WF pl T → occ T.N + l.countP (fun kv => outs T.A.length kv.1) ≤ T.N.length →
    WF pl (putsM pl T l) ∧ (putsM pl T l).N.length = T.N.length ∧ (putsM pl T l).A.length = T.A.length ∧ occ (putsM pl T l).N ≤ occ T.N + l.countP (fun kv => outs T.A.length kv.1) ∧ live (putsM pl T l) ≤ live T + l.length
  | [], T, w, h => ⟨w, rfl, rfl, Nat.le_add_right _ _, Nat.le_refl _⟩
  | (k, v) :: l, T, w, h => by
    rw [List.countP_cons, outs_inA] at h ⊢
    have e : (if (!inA T.A k) = true then 1 else 0) = if inA T.A k = true then 0 else 1 := by cases inA T.A k <;> rfl
    dsimp only at h ⊢
    rw [e] at h ⊢
    obtain ⟨_, w2, l2, a2, o2⟩ := put0_ok (v := v) (k := k) hpl w (by omega)
    have := puts_ok hpl l (put0 pl T k v) w2 (by rw [a2, l2]; omega)
    rw [a2, l2] at this
    obtain ⟨x1, x2, x3, x4, x5⟩ := this
    have lv := put0_live (pl := pl) (T := T) (k := k) (v := v)
    exact ⟨x1, x2, x3, by show occ (putsM pl (put0 pl T k v) l).N ≤ _; omega, by show live (putsM pl (put0 pl T k v) l) ≤ _ + (_ + 1); omega⟩
theorem wf_new (A : List V) (n : Nat) : WF pl ⟨A, List.replicate n none, n⟩ := by
  have no : ∀ (j : Nat) (nd : Nd), (List.replicate n (none : Option Nd))[j]? ≠ some (some nd) := fun j nd z => by
    rw [List.getElem?_replicate] at z
    split at z <;> cases z
  refine ⟨⟨⟨id, fun j nd i h => absurd h (no j nd)⟩, fun i j nd nd' m h => absurd h (no i nd), fun j nd h => absurd h (no j nd), fun j nd h => absurd h (no j nd), fun i j nd nd' h => absurd h (no i nd)⟩, by simp, fun j h z => ?_⟩
  have z : (List.replicate n (none : Option Nd))[j]? = some none := z
  rw [List.getElem?_replicate, if_neg (by have : n ≤ j := h; omega)] at z
  cases z
theorem occ_new (n : Nat) : occ (List.replicate n none) = 0 := by
  unfold occ
  rw [List.countP_replicate]
  rfl
theorem live_new (A : List V) (n : Nat) : live ⟨A, List.replicate n none, n⟩ = A.countP liveV := by
  rw [live_mk, List.countP_replicate]
  rfl
theorem above_out (a : Nat) : ∀ (vs : List V), (aboveL a vs).countP (fun kv => outs a kv.1) = vs.countP liveV := by
  have : ∀ (vs : List V) (b : Nat), a ≤ b → (aboveL b vs).countP (fun kv => outs a kv.1) = vs.countP liveV := by
    intro vs
    induction vs with
    | nil => exact fun _ _ => rfl
    | cons v vs ih =>
      intro b hb
      rw [aboveL, List.countP_append, ih (b + 1) (by omega), List.countP_cons]
      by_cases c : v = .non
      · rw [if_pos c, c]
        show 0 + _ = _ + 0
        omega
      · rw [if_neg c, show liveV v = true by unfold liveV; rw [decide_eq_false c]; rfl, if_pos rfl, List.countP_cons]
        have : outs a (.int ((b : Int) + 1)) = true := by
          unfold outs
          simp
          omega
        dsimp only
        rw [this, if_pos rfl]
        show 0 + 1 + _ = _
        omega
  exact fun vs => this vs a (Nat.le_refl _)
theorem resize_ok {T : Tb} {a n : Nat} (hpl : ∀ k n, 0 < n → pl k n < n) (h : (T.A.drop a).countP liveV + (nodeL T.N).countP (fun kv => outs a kv.1) ≤ powM n) :
    WF pl (resizeM pl T a n) ∧ (resizeM pl T a n).N.length = powM n ∧ (resizeM pl T a n).A.length = a ∧
    occ (resizeM pl T a n).N ≤ (T.A.drop a).countP liveV + (nodeL T.N).countP (fun kv => outs a kv.1) ∧ live (resizeM pl T a n) ≤ live T := by
  unfold resizeM
  have tl : (T.A.take a).length = min a T.A.length := List.length_take
  have c1 : (aboveL a (T.A.drop a)).countP (fun kv => outs (T.A.take a).length kv.1) = (T.A.drop a).countP liveV := by
    by_cases c : a ≤ T.A.length
    · rw [tl, Nat.min_eq_left c]
      exact above_out a _
    · rw [List.drop_eq_nil_of_le (by omega)]
      rfl
  obtain ⟨w1, n1, a1, o1, l1⟩ := puts_ok hpl (aboveL a (T.A.drop a)) ⟨T.A.take a, List.replicate (powM n) none, powM n⟩ (wf_new _ _) (by
    show occ (List.replicate _ none) + _ ≤ (List.replicate _ none).length
    rw [occ_new, List.length_replicate, c1]
    omega)
  rw [show Tb.N ⟨T.A.take a, List.replicate (powM n) none, powM n⟩ = List.replicate (powM n) none from rfl] at n1 o1
  rw [show Tb.A ⟨T.A.take a, List.replicate (powM n) none, powM n⟩ = T.A.take a from rfl] at a1 o1
  rw [occ_new, c1] at o1
  rw [live_new, aboveL_len] at l1
  rw [List.length_replicate] at n1
  rw [tl] at a1
  generalize putsM pl ⟨T.A.take a, List.replicate (powM n) none, powM n⟩ (aboveL a (T.A.drop a)) = T1 at w1 n1 a1 o1 l1
  dsimp only
  have al : (T1.A ++ List.replicate (a - T1.A.length) V.non).length = a := by
    rw [List.length_append, List.length_replicate]
    omega
  obtain ⟨w2, n2, a2, o2, l2⟩ := puts_ok hpl (nodeL T.N) ⟨T1.A ++ List.replicate (a - T1.A.length) .non, T1.N, T1.fr⟩ ⟨w1.g, w1.fr, w1.free⟩ (by
    show occ T1.N + (nodeL T.N).countP (fun kv => outs (T1.A ++ List.replicate (a - T1.A.length) V.non).length kv.1) ≤ T1.N.length
    rw [al]
    omega)
  refine ⟨w2, n2.trans n1, a2.trans al, ?_, ?_⟩
  · have o2 : _ ≤ occ T1.N + (nodeL T.N).countP (fun kv => outs (T1.A ++ List.replicate (a - T1.A.length) V.non).length kv.1) := o2
    rw [al] at o2
    omega
  · rw [nodeL_len, show live ⟨T1.A ++ List.replicate (a - T1.A.length) .non, T1.N, T1.fr⟩ = (T1.A ++ List.replicate (a - T1.A.length) V.non).countP liveV + T1.N.countP liveN from rfl, List.countP_append, List.countP_replicate] at l2
    rw [show liveV .non = false from rfl] at l2
    have e1 : T.A.countP liveV = (T.A.take a).countP liveV + (T.A.drop a).countP liveV := by rw [← List.countP_append, List.take_append_drop]
    have e2 : live T = T.A.countP liveV + T.N.countP liveN := rfl
    have e3 : live T1 = T1.A.countP liveV + T1.N.countP liveN := rfl
    simp only [Bool.false_eq_true, if_false] at l2
    omega
/-! ### growing -/
theorem best_ins (l : List Ky) : ∀ p, (bestM l p).2 = ins l (bestM l p).1 ∧ (bestM l p).1 ≤ 2 * (bestM l p).2
  | 0 => by
    refine ⟨?_, Nat.le_refl 0⟩
    show 0 = ins l 0
    unfold ins
    symm
    rw [List.countP_eq_zero]
    intro k _
    cases k with
    | int i => unfold outs; simp; omega
    | str z => simp [outs]
    | bl b => simp [outs]
    | fl s t p => simp [outs]
    | inf s => simp [outs]
    | ob a m => simp [outs]
    | nt a z => simp [outs]
  | p + 1 => by
    unfold bestM
    split
    · exact ⟨rfl, by show 2 ^ p ≤ _; omega⟩
    · exact best_ins l p
theorem ins_le (l : List Ky) (n : Nat) : ins l n ≤ l.length := List.countP_le_length
theorem keys_len (T : Tb) (k : Ky) : (keysM T k).length = live T + 1 := by
  unfold keysM
  rw [List.length_append, List.length_append, List.length_map, List.length_map, aboveL_len, nodeL_len]
  show _ + 1 + _ = T.A.countP liveV + T.N.countP liveN + 1
  omega
theorem above_cnt (a : Nat) : ∀ (vs : List V) (b : Nat), ((aboveL b vs).map (·.1)).countP (fun k => outs a k) = (vs.drop (a - b)).countP liveV
  | [], b => by
    rw [List.drop_nil]
    rfl
  | v :: vs, b => by
    rw [aboveL, List.map_append, List.countP_append, above_cnt a vs (b + 1)]
    by_cases c : b < a
    · obtain ⟨d, hd⟩ : ∃ d, a - b = d + 1 := ⟨a - b - 1, by omega⟩
      rw [hd, show a - (b + 1) = d by omega, List.drop_succ_cons]
      by_cases c2 : v = .non
      · rw [if_pos c2]
        exact Nat.zero_add _
      · rw [if_neg c2]
        have : outs a (.int ((b : Int) + 1)) = false := by
          unfold outs
          simp
          omega
        rw [show List.map (fun x : Ky × V => x.1) [(Ky.int ((b : Int) + 1), v)] = [Ky.int ((b : Int) + 1)] from rfl, List.countP_cons, this]
        simp
    · rw [show a - (b + 1) = 0 by omega, show a - b = 0 by omega, List.drop_zero, List.drop_zero, List.countP_cons]
      by_cases c2 : v = .non
      · rw [if_pos c2, c2]
        show 0 + _ = _ + 0
        omega
      · rw [if_neg c2, show liveV v = true by unfold liveV; rw [decide_eq_false c2]; rfl, if_pos rfl]
        have : outs a (.int ((b : Int) + 1)) = true := by
          unfold outs
          simp
          omega
        rw [show List.map (fun x : Ky × V => x.1) [(Ky.int ((b : Int) + 1), v)] = [Ky.int ((b : Int) + 1)] from rfl, List.countP_cons, this, if_pos rfl]
        show 0 + 1 + _ = _
        omega
theorem grow_cnt (T : Tb) (k : Ky) (a : Nat) : (T.A.drop a).countP liveV + (nodeL T.N).countP (fun kv => outs a kv.1) + (if outs a k = true then 1 else 0) = (keysM T k).length - ins (keysM T k) a := by
  have h : (keysM T k).length = (keysM T k).countP (fun k => outs a k) + ins (keysM T k) a := by
    unfold ins
    rw [List.length_eq_countP_add_countP (fun k => outs a k)]
    congr 1
    refine List.countP_congr fun x _ => ?_
    simp
  have h2 : (keysM T k).countP (fun k => outs a k) = (T.A.drop a).countP liveV + (if outs a k = true then 1 else 0) + (nodeL T.N).countP (fun kv => outs a kv.1) := by
    unfold keysM
    rw [List.countP_append, List.countP_append, above_cnt, Nat.sub_zero, List.countP_map (p := fun k => outs a k), List.countP_cons]
    simp only [List.countP_nil, Nat.zero_add]
    rfl
  omega
theorem grow_ok {T : Tb} {k : Ky} (hpl : ∀ k n, 0 < n → pl k n < n) :
    WF pl (growM pl T k) ∧ occ (growM pl T k).N + (if inA (growM pl T k).A k = true then 0 else 1) ≤ (growM pl T k).N.length ∧
    (growM pl T k).A.length ≤ 2 * (live T + 1) ∧ (growM pl T k).N.length ≤ 2 * (live T + 1) ∧ live (growM pl T k) ≤ live T := by
  unfold growM
  obtain ⟨b1, b2⟩ := best_ins (keysM T k) 32
  generalize bestM (keysM T k) 32 = b at b1 b2 ⊢
  have c := grow_cnt T k b.1
  rw [← b1] at c
  have p1 := powM_ge ((keysM T k).length - b.2)
  have p2 := powM_le ((keysM T k).length - b.2)
  have kl := keys_len T k
  have i1 := ins_le (keysM T k) b.1
  obtain ⟨w, n1, a1, o1, l1⟩ := resize_ok (pl := pl) (T := T) (a := b.1) (n := (keysM T k).length - b.2) hpl (by omega)
  refine ⟨w, ?_, by omega, by omega, l1⟩
  have : (if inA (resizeM pl T b.1 ((keysM T k).length - b.2)).A k = true then 0 else 1) = if outs b.1 k = true then 1 else 0 := by
    have e : outs b.1 k = !inA (resizeM pl T b.1 ((keysM T k).length - b.2)).A k := by rw [← outs_inA, a1]
    rw [e]
    cases inA (resizeM pl T b.1 ((keysM T k).length - b.2)).A k <;> rfl
  rw [this, n1]
  omega
theorem putG_ok {T : Tb} {k : Ky} {v : V} (hpl : ∀ k n, 0 < n → pl k n < n) (w : WF pl T) :
    WF pl (putG pl T k v) ∧ (putG pl T k v).A.length ≤ max T.A.length (2 * (live T + 1)) ∧ (putG pl T k v).N.length ≤ max T.N.length (2 * (live T + 1)) ∧ live (putG pl T k v) ≤ live T + 1 := by
  unfold putG
  split
  · obtain ⟨w1, o1, a1, n1, l1⟩ := grow_ok (T := T) (k := k) hpl
    obtain ⟨_, w2, n2, a2, _⟩ := put0_ok (v := v) hpl w1 o1
    have := put0_live (pl := pl) (T := growM pl T k) (k := k) (v := v)
    exact ⟨w2, by omega, by omega, by omega⟩
  · rename_i c
    obtain ⟨w2, n2, a2⟩ := put1_ok hpl w (Bool.eq_false_iff.2 c)
    have := put0_live (pl := pl) (T := T) (k := k) (v := v)
    exact ⟨w2, by omega, by omega, this⟩
theorem room_ok {T : Tb} {c : Nat} (hpl : ∀ k n, 0 < n → pl k n < n) (w : WF pl T) :
    WF pl (makeRoomM pl T c) ∧ (makeRoomM pl T c).A.length ≤ max T.A.length c ∧ (makeRoomM pl T c).N.length ≤ 2 * T.N.length ∧ live (makeRoomM pl T c) ≤ live T := by
  unfold makeRoomM
  split
  · have h : (T.A.drop c).countP liveV + (nodeL T.N).countP (fun kv => outs c kv.1) ≤ powM T.N.length := by
      rw [List.drop_eq_nil_of_le (by omega)]
      have a := List.countP_le_length (p := fun kv : Ky × V => outs c kv.1) (l := nodeL T.N)
      rw [nodeL_len] at a
      have b := List.countP_le_length (p := liveN) (l := T.N)
      have := powM_ge T.N.length
      show 0 + _ ≤ _
      omega
    obtain ⟨w2, n2, a2, o2, l2⟩ := resize_ok (pl := pl) hpl h
    have := powM_le T.N.length
    exact ⟨w2, by omega, by omega, l2⟩
  · exact ⟨w, by omega, by omega, Nat.le_refl _⟩
end
end Tm

set_option Elab.async false
set_option linter.all false
set_option maxRecDepth 100000
set_option autoImplicit false
set_option maxHeartbeats 4000000
namespace Tm
open PySem L2
def one1 (b : Nat) (v : V) : List (Ky × V) := if v = .non then [] else [(.int ((b : Int) + 1), v)]
def one2 : Option Nd → List (Ky × V)
  | none => []
  | some nd => if nd.v = .non then [] else [(nd.k, nd.v)]
theorem aboveL_snoc (v : V) : ∀ (l : List V) (a : Nat), aboveL a (l ++ [v]) = aboveL a l ++ one1 (a + l.length) v
  | [], a => by
    show aboveL a [v] = [] ++ one1 (a + 0) v
    rw [aboveL, aboveL, List.append_nil]
    rfl
  | x :: l, a => by
    rw [List.cons_append, aboveL, aboveL_snoc v l (a + 1), aboveL, List.append_assoc, List.length_cons, show a + 1 + l.length = a + (l.length + 1) by omega]
theorem nodeL_snoc (o : Option Nd) : ∀ (l : List (Option Nd)), nodeL (l ++ [o]) = nodeL l ++ one2 o
  | [] => by
    cases o with
    | none => rfl
    | some nd =>
      show nodeL [some nd] = [] ++ one2 (some nd)
      rw [nodeL, nodeL, List.append_nil]
      rfl
  | none :: l => by
    rw [List.cons_append, nodeL, nodeL_snoc o l, nodeL]
  | some nd :: l => by
    rw [List.cons_append, nodeL, nodeL_snoc o l, nodeL, List.append_assoc]
section
variable {pl : Ky → Nat → Nat}
theorem puts_app (T : Tb) (l1 l2 : List (Ky × V)) : putsM pl T (l1 ++ l2) = putsM pl (putsM pl T l1) l2 := List.foldl_append
theorem puts_mid (hpl : ∀ k n, 0 < n → pl k n < n) {T : Tb} {l1 l2 : List (Ky × V)} {kv : Ky × V} (w : WF pl T) (h : occ T.N + (l1 ++ kv :: l2).countP (fun kv => outs T.A.length kv.1) ≤ T.N.length) :
    WF pl (putsM pl T l1) ∧ needG pl (putsM pl T l1) kv.1 kv.2 = false := by
  rw [List.countP_append, List.countP_cons] at h
  obtain ⟨w1, n1, a1, o1, _⟩ := puts_ok hpl l1 T w (by omega)
  refine ⟨w1, (put0_ok hpl w1 ?_).1⟩
  have e : outs T.A.length kv.1 = !inA (putsM pl T l1).A kv.1 := by rw [← outs_inA, a1]
  rw [e] at h
  cases hc : inA (putsM pl T l1).A kv.1 with
  | true => rw [if_pos rfl]; omega
  | false =>
    rw [hc] at h
    rw [if_neg Bool.false_ne_true]
    simp only [Bool.not_false, if_true] at h
    omega
theorem puts_mid' (hpl : ∀ k n, 0 < n → pl k n < n) {T : Tb} {l1 l2 : List (Ky × V)} (w : WF pl T) (h : occ T.N + (l1 ++ l2).countP (fun kv => outs T.A.length kv.1) ≤ T.N.length) :
    WF pl (putsM pl T l1) ∧ (putsM pl T l1).N.length = T.N.length ∧ (putsM pl T l1).A.length = T.A.length ∧ occ (putsM pl T l1).N ≤ occ T.N + l1.countP (fun kv => outs T.A.length kv.1) := by
  rw [List.countP_append] at h
  obtain ⟨w1, n1, a1, o1, _⟩ := puts_ok hpl l1 T w (by omega)
  exact ⟨w1, n1, a1, o1⟩
theorem putsInv {p : Tb → Prop} (q : Ky → Prop) (h : ∀ T k v, p T → q k → p (put0 pl T k v)) : ∀ (l : List (Ky × V)) (T : Tb), p T → (∀ kv ∈ l, q kv.1) → p (putsM pl T l)
  | [], _, h0, _ => h0
  | (k, v) :: l, T, h0, hq => putsInv q h l (put0 pl T k v) (h T k v h0 (hq (k, v) (List.mem_cons_self ..))) fun kv hkv => hq kv (List.mem_cons_of_mem _ hkv)
theorem cut_lo (xs : List V) (a : Nat) : cutV xs (some (a : Int)) none = xs.drop a := by
  unfold cutV
  rw [HT.sIx_nat, HT.sIx_none]
  by_cases h : a ≤ xs.length
  · rw [Nat.min_eq_left h]
    exact List.take_of_length_le (by rw [List.length_drop]; exact Nat.le_refl _)
  · rw [Nat.min_eq_right (by omega), List.drop_eq_nil_of_le (Nat.le_refl _), List.drop_eq_nil_of_le (by omega)]
    exact List.take_nil
theorem cut_hi (xs : List V) (a : Nat) : cutV xs none (some (a : Int)) = xs.take a := by
  unfold cutV
  rw [HT.sIx_nat, HT.sIx_none, List.drop_zero, Nat.sub_zero]
  by_cases h : a ≤ xs.length
  · rw [Nat.min_eq_left h]
  · rw [Nat.min_eq_right (by omega), List.take_of_length_le (Nat.le_refl _), List.take_of_length_le (by omega)]
theorem rep_flat (k : Nat) (v : V) : (List.replicate k [v]).flatten = List.replicate k v := List.flatten_replicate_singleton
theorem take_succ' {α : Type} {l : List α} {i : Nat} {v : α} (h : l[i]? = some v) : l.take (i + 1) = l.take i ++ [v] := by
  rw [List.take_succ, h]
  rfl
theorem aboveL_app : ∀ (l r : List V) (a : Nat), aboveL a (l ++ r) = aboveL a l ++ aboveL (a + l.length) r
  | [], r, a => rfl
  | x :: l, r, a => by
    rw [List.cons_append, aboveL, aboveL_app l r (a + 1), aboveL, List.append_assoc, List.length_cons, show a + 1 + l.length = a + (l.length + 1) by omega]
theorem nodeL_app : ∀ (l r : List (Option Nd)), nodeL (l ++ r) = nodeL l ++ nodeL r
  | [], r => rfl
  | none :: l, r => by rw [List.cons_append, nodeL, nodeL_app l r, nodeL]
  | some nd :: l, r => by rw [List.cons_append, nodeL, nodeL_app l r, nodeL, List.append_assoc]
theorem above_split {l : List V} {i a : Nat} {v : V} (h : l[i]? = some v) (hv : v ≠ .non) : aboveL a l = aboveL a (l.take i) ++ (.int ((a + i : Nat) + 1 : Int), v) :: aboveL (a + i + 1) (l.drop (i + 1)) := by
  have hl := (List.getElem?_eq_some_iff.1 h).1
  have e : l = l.take i ++ (v :: l.drop (i + 1)) := by
    conv => lhs; rw [← List.take_append_drop i l]
    congr 1
    rw [List.drop_eq_getElem_cons hl, (List.getElem?_eq_some_iff.1 h).2]
  conv => lhs; rw [e]
  rw [aboveL_app, List.length_take, Nat.min_eq_left (by omega), aboveL, if_neg hv]
  rfl
theorem node_split {l : List (Option Nd)} {i : Nat} {nd : Nd} (h : l[i]? = some (some nd)) (hv : nd.v ≠ .non) : nodeL l = nodeL (l.take i) ++ (nd.k, nd.v) :: nodeL (l.drop (i + 1)) := by
  have hl := (List.getElem?_eq_some_iff.1 h).1
  have e : l = l.take i ++ (some nd :: l.drop (i + 1)) := by
    conv => lhs; rw [← List.take_append_drop i l]
    congr 1
    rw [List.drop_eq_getElem_cons hl, (List.getElem?_eq_some_iff.1 h).2]
  conv => lhs; rw [e]
  rw [nodeL_app, nodeL, if_neg hv]
  rfl
theorem above_mem {kv : Ky × V} : ∀ {l : List V} {a : Nat}, kv ∈ aboveL a l → ∃ i : Nat, i < l.length ∧ kv.1 = .int (((a + i : Nat) : Int) + 1)
  | [], _, h => by cases h
  | v :: l, a, h => by
    rw [aboveL, List.mem_append] at h
    rcases h with h | h
    · by_cases c : v = .non
      · rw [if_pos c] at h; cases h
      · rw [if_neg c, List.mem_singleton] at h
        subst h
        exact ⟨0, Nat.succ_pos _, rfl⟩
    · obtain ⟨i, h1, h2⟩ := above_mem h
      exact ⟨i + 1, Nat.succ_lt_succ h1, by rw [h2, show a + 1 + i = a + (i + 1) by omega]⟩
theorem node_mem {kv : Ky × V} : ∀ {l : List (Option Nd)}, kv ∈ nodeL l → ∃ nd, some nd ∈ l ∧ kv = (nd.k, nd.v)
  | none :: l, h => by
    rw [nodeL] at h
    obtain ⟨nd, h1, h2⟩ := node_mem h
    exact ⟨nd, List.mem_cons_of_mem _ h1, h2⟩
  | some nd :: l, h => by
    rw [nodeL, List.mem_append] at h
    rcases h with h | h
    · by_cases c : nd.v = .non
      · rw [if_pos c] at h; cases h
      · rw [if_neg c, List.mem_singleton] at h
        exact ⟨nd, List.mem_cons_self .., h⟩
    · obtain ⟨nd, h1, h2⟩ := node_mem h
      exact ⟨nd, List.mem_cons_of_mem _ h1, h2⟩
end
end Tm

set_option Elab.async false
set_option linter.all false
set_option maxRecDepth 100000
set_option autoImplicit false
set_option maxHeartbeats 4000000
namespace Tm
open PySem L2
/-! ### tables as maps: the nodes -/
section
variable {pl : Ky → Nat → Nat}
def has1 (N : List (Option Nd)) (k : Ky) (v : V) : Prop := ∃ (j : Nat) (nd : Nd), N[j]? = some (some nd) ∧ nd.k = k ∧ nd.v = v
theorem find_of {T : Tb} (w : WF pl T) {j : Nat} {nd : Nd} (h : T.N[j]? = some (some nd)) : findM T.N nd.k = some j := by
  cases hf : findM T.N nd.k with
  | none => exact absurd rfl (findM_none hf j nd h)
  | some i =>
    obtain ⟨nd', h1, h2⟩ := findM_some hf
    exact congrArg some (w.g.dist i j nd' nd h1 h h2)
/-- put_new: the new key and the old ones, but for a dead one -/
theorem ins_has {T : Tb} {k : Ky} {v : V} (hpl : ∀ k n, 0 < n → pl k n < n) (w : WF pl T) (h0 : T.N ≠ [])
    (hg : ∀ nd, T.N[pl k T.N.length]? = some (some nd) → nd.v ≠ .non → ∃ f, freeM T.N T.fr = some f) :
    has1 (insM pl T k v).N k v ∧ (∀ k' v', has1 (insM pl T k v).N k' v' → (k' = k ∧ v' = v) ∨ has1 T.N k' v') ∧ (∀ k' v', has1 T.N k' v' → v' ≠ .non → has1 (insM pl T k v).N k' v') := by
  have hlen : 0 < T.N.length := List.length_pos_iff.2 h0
  have ha : pl k T.N.length < T.N.length := hpl _ _ hlen
  unfold insM
  generalize ea : pl k T.N.length = a at *
  simp only
  split
  · rename_i nd hnd
    split
    · rename_i hv
      refine ⟨⟨a, _, by rw [gs ha, if_pos rfl], rfl, rfl⟩, fun k' v' ⟨j, nd', h1, h2, h3⟩ => ?_, fun k' v' ⟨j, nd', h1, h2, h3⟩ nv => ?_⟩
      · rw [gs ha] at h1
        split at h1
        · cases h1; exact .inl ⟨h2.symm, h3.symm⟩
        · exact .inr ⟨j, nd', h1, h2, h3⟩
      · by_cases c : j = a
        · subst c
          rw [hnd] at h1
          cases h1
          exact absurd (h3.symm.trans hv) nv
        · exact ⟨j, nd', by rw [gs ha, if_neg c]; exact h1, h2, h3⟩
    · rename_i hv
      obtain ⟨f, hf⟩ := hg nd hnd hv
      obtain ⟨f1, f2, f3⟩ := freeM_some hf
      have fl : f < T.N.length := Nat.lt_of_lt_of_le f1 w.fr
      have af : a ≠ f := fun z => by rw [z, f2] at hnd; cases hnd
      rw [hf]
      simp only
      split
      · rename_i hh
        have get : ∀ j : Nat, ((T.N.set f (some ⟨k, v, nd.l⟩)).set a (some { nd with l := some f }))[j]? = if j = a then some (some { nd with l := some f }) else if j = f then some (some ⟨k, v, nd.l⟩) else T.N[j]? := fun j => by
          rw [gs (by rw [List.length_set]; exact ha), gs fl]
        refine ⟨⟨f, _, by rw [get, if_neg af.symm, if_pos rfl], rfl, rfl⟩, fun k' v' ⟨j, nd', h1, h2, h3⟩ => ?_, fun k' v' ⟨j, nd', h1, h2, h3⟩ nv => ?_⟩
        · rw [get] at h1
          split at h1
          · cases h1; exact .inr ⟨a, nd, hnd, h2, h3⟩
          · split at h1
            · cases h1; exact .inl ⟨h2.symm, h3.symm⟩
            · exact .inr ⟨j, nd', h1, h2, h3⟩
        · by_cases c : j = a
          · subst c
            rw [hnd] at h1
            cases h1
            exact ⟨j, { nd with l := some f }, by rw [get, if_pos rfl], h2, h3⟩
          · exact ⟨j, nd', by rw [get, if_neg c, if_neg (fun z => by rw [z, f2] at h1; cases h1)]; exact h1, h2, h3⟩
      · rename_i hh
        obtain ⟨p, hp⟩ := ahead_is (k := k) w hnd hh
        obtain ⟨ndp, p1, p2⟩ := aheadM_some hp
        have plt : p < T.N.length := (List.getElem?_eq_some_iff.1 p1).1
        have pf : p ≠ f := fun z => by rw [z, f2] at p1; cases p1
        have pa : p ≠ a := fun z => by
          obtain ⟨rk, hr⟩ := w.g.link
          have := (hr p ndp a p1 p2).1
          rw [z] at this
          omega
        have sp : setL (T.N[p]?.getD none) (some f) = some { ndp with l := some f } := by rw [p1]; rfl
        rw [hp]
        simp only
        rw [sp]
        have get : ∀ j : Nat, (((T.N.set p (some { ndp with l := some f })).set f (some nd)).set a (some ⟨k, v, none⟩))[j]? = if j = a then some (some ⟨k, v, none⟩) else if j = f then some (some nd) else if j = p then some (some { ndp with l := some f }) else T.N[j]? := fun j => by
          rw [gs (by rw [List.length_set, List.length_set]; exact ha), gs (by rw [List.length_set]; exact fl), gs plt]
        refine ⟨⟨a, _, by rw [get, if_pos rfl], rfl, rfl⟩, fun k' v' ⟨j, nd', h1, h2, h3⟩ => ?_, fun k' v' ⟨j, nd', h1, h2, h3⟩ nv => ?_⟩
        · rw [get] at h1
          split at h1
          · cases h1; exact .inl ⟨h2.symm, h3.symm⟩
          · split at h1
            · cases h1; exact .inr ⟨a, nd, hnd, h2, h3⟩
            · split at h1
              · cases h1; exact .inr ⟨p, ndp, p1, h2, h3⟩
              · exact .inr ⟨j, nd', h1, h2, h3⟩
        · by_cases c : j = a
          · subst c
            rw [hnd] at h1
            cases h1
            exact ⟨f, _, by rw [get, if_neg af.symm, if_pos rfl], h2, h3⟩
          · by_cases c2 : j = p
            · subst c2
              rw [p1] at h1
              cases h1
              exact ⟨j, { ndp with l := some f }, by rw [get, if_neg c, if_neg pf, if_pos rfl], h2, h3⟩
            · exact ⟨j, nd', by rw [get, if_neg c, if_neg (fun z => by rw [z, f2] at h1; cases h1), if_neg c2]; exact h1, h2, h3⟩
  · rename_i hn
    refine ⟨⟨a, _, by rw [gs ha, if_pos rfl], rfl, rfl⟩, fun k' v' ⟨j, nd', h1, h2, h3⟩ => ?_, fun k' v' ⟨j, nd', h1, h2, h3⟩ nv => ?_⟩
    · rw [gs ha] at h1
      split at h1
      · cases h1; exact .inl ⟨h2.symm, h3.symm⟩
      · exact .inr ⟨j, nd', h1, h2, h3⟩
    · exact ⟨j, nd', by rw [gs ha, if_neg (fun z => by subst z; exact hn nd' h1)]; exact h1, h2, h3⟩
/-! ### what a table tells -/
def atN' (T : Tb) (j : Nat) : V := match T.N[j]? with
  | some (some nd) => nd.v
  | _ => .non
def tellN (T : Tb) (k : Ky) : V := match findM T.N k with
  | some j => atN' T j
  | none => .non
def tellA (A : List V) : Ky → V
  | .int i => if 1 ≤ i then (A[(i - 1).toNat]?).getD .non else .non
  | _ => .non
theorem tellA_int {A : List V} {i : Int} (h : 1 ≤ i) : tellA A (.int i) = (A[(i - 1).toNat]?).getD .non := if_pos h
def tell (T : Tb) (k : Ky) : V := if inA T.A k = true then tellA T.A k else tellN T k
theorem tellN_of {T : Tb} (w : WF pl T) {k : Ky} {v : V} (h : has1 T.N k v) : tellN T k = v := by
  obtain ⟨j, nd, h1, rfl, rfl⟩ := h
  unfold tellN atN'
  rw [find_of w h1]
  simp only [h1]
theorem tellN_has {T : Tb} {k : Ky} (h : tellN T k ≠ .non) : has1 T.N k (tellN T k) := by
  unfold tellN at h ⊢
  cases hf : findM T.N k with
  | none => rw [hf] at h; exact absurd rfl h
  | some j =>
    obtain ⟨nd, h1, h2⟩ := findM_some hf
    refine ⟨j, nd, h1, h2, ?_⟩
    simp only [atN', h1]
theorem tellN_ext {T T' : Tb} (w : WF pl T) (w' : WF pl T') {k : Ky} (h : ∀ v, v ≠ .non → (has1 T.N k v ↔ has1 T'.N k v)) : tellN T k = tellN T' k := by
  by_cases c : tellN T k = .non
  · by_cases c' : tellN T' k = .non
    · rw [c, c']
    · exact tellN_of w ((h _ c').2 (tellN_has c'))
  · exact (tellN_of w' ((h _ c).1 (tellN_has c))).symm
/-- no node's key is a place -/
def NI (T : Tb) : Prop := ∀ (j : Nat) (nd : Nd), T.N[j]? = some (some nd) → inA T.A nd.k = false
theorem inA_set {A : List V} {i : Nat} {v : V} (k : Ky) : inA (A.set i v) k = inA A k := by
  cases k with
  | int j => unfold inA; rw [List.length_set]
  | str z => rfl
  | bl b => rfl
  | fl s t p => rfl
  | inf s => rfl
  | ob a m => rfl
  | nt a z => rfl
/-- put tells the new value, and the old ones else -/
theorem put0_tell {T : Tb} {k : Ky} {v : V} (hpl : ∀ k n, 0 < n → pl k n < n) (w : WF pl T) (ni : NI T) (h : needG pl T k v = false) : (∀ k', tell (put0 pl T k v) k' = if k' = k then v else tell T k') ∧ NI (put0 pl T k v) := by
  have w' := (put1_ok hpl w h).1
  unfold needG at h
  unfold put0 at w' ⊢
  by_cases ci : inA T.A k = true
  · rw [if_pos ci] at w' ⊢
    cases k with
    | str z => cases ci
    | bl b => cases ci
    | fl s t p => cases ci
    | inf s => cases ci
    | ob a m => cases ci
    | nt a z => cases ci
    | int i =>
      have ci' : 1 ≤ i ∧ i ≤ T.A.length := by
        have c : (decide (1 ≤ i) && decide (i ≤ T.A.length)) = true := ci
        simpa using c
      refine ⟨fun k' => ?_, fun j nd e => ?_⟩
      · unfold tell
        dsimp only
        rw [inA_set]
        by_cases c : inA T.A k' = true
        · rw [if_pos c, if_pos c]
          cases k' with
          | str z => cases c
          | bl b => cases c
          | fl s t p => cases c
          | inf s => cases c
          | ob a m => cases c
          | nt a z => cases c
          | int i' =>
            have c' : 1 ≤ i' ∧ i' ≤ T.A.length := by
              have c : (decide (1 ≤ i') && decide (i' ≤ T.A.length)) = true := c
              simpa using c
            rw [tellA_int c'.1, tellA_int c'.1, gs (by omega)]
            by_cases e : i' = i
            · subst e
              rw [if_pos rfl, if_pos rfl]
              rfl
            · rw [if_neg (by omega), if_neg (fun z => e (Ky.int.inj z))]
        · rw [if_neg c, if_neg c, if_neg (fun z : k' = .int i => c (by rw [z]; exact ci))]
          rfl
      · dsimp only
        rw [inA_set]
        exact ni j nd e
  · rw [if_neg ci] at w' ⊢
    have cf : inA T.A k = false := Bool.eq_false_iff.2 ci
    rw [cf] at h
    cases hf : findM T.N k with
    | some j =>
      rw [hf] at w'
      simp only at w' ⊢
      obtain ⟨nd, hj, hk⟩ := findM_some hf
      have jl : j < T.N.length := (List.getElem?_eq_some_iff.1 hj).1
      rw [mod_set hj] at w' ⊢
      refine ⟨fun k' => ?_, fun i nd' e => ?_⟩
      · unfold tell
        by_cases c : inA T.A k' = true
        · rw [if_pos c, if_pos c, if_neg (fun z : k' = k => ci (by rw [← z]; exact c))]
        · rw [if_neg c, if_neg c]
          by_cases e : k' = k
          · rw [if_pos e]
            exact tellN_of w' ⟨j, { nd with v := v }, by rw [gs jl, if_pos rfl]; rfl, hk.trans e.symm, rfl⟩
          · rw [if_neg e]
            refine tellN_ext w' w fun v' nv => ⟨fun ⟨i, nd', h1, h2, h3⟩ => ?_, fun ⟨i, nd', h1, h2, h3⟩ => ?_⟩
            · have h1 : (T.N.set j _)[i]? = _ := h1
              rw [gs jl] at h1
              split at h1
              · cases h1; exact absurd (h2.symm.trans hk) e
              · exact ⟨i, nd', h1, h2, h3⟩
            · refine ⟨i, nd', ?_, h2, h3⟩
              show (T.N.set j _)[i]? = _
              rw [gs jl, if_neg (fun z => by subst z; rw [hj] at h1; cases h1; exact e (h2.symm.trans hk))]
              exact h1
      · have e : (T.N.set j _)[i]? = _ := e
        rw [gs jl] at e
        split at e
        · cases e; exact ni j nd hj
        · exact ni i nd' e
    | none =>
      rw [hf] at w' h
      simp only at w' ⊢
      by_cases cv : v = .non
      · rw [if_pos cv] at w' ⊢
        refine ⟨fun k' => ?_, ni⟩
        by_cases e : k' = k
        · rw [if_pos e, e, cv]
          unfold tell tellN
          rw [if_neg ci, hf]
        · rw [if_neg e]
      · rw [if_neg cv] at w' ⊢
        rw [decide_eq_false cv] at h
        simp only [Bool.not_false, Option.isNone_none, Bool.true_and, Bool.and_true, Bool.or_eq_false_iff] at h
        obtain ⟨h1, h2⟩ := h
        have h0 : T.N ≠ [] := fun z => by rw [z] at h1; cases h1
        have hg : ∀ nd, T.N[pl k T.N.length]? = some (some nd) → nd.v ≠ .non → ∃ f, freeM T.N T.fr = some f := fun nd h3 h4 => by
          rw [h3] at h2
          simp only [decide_eq_false h4, Bool.not_false, Bool.true_and] at h2
          cases hf : freeM T.N T.fr with
          | some f => exact ⟨f, rfl⟩
          | none => rw [hf] at h2; cases h2
        obtain ⟨_, _, eA, _⟩ := ins_wf (v := v) hpl w h0 hf hg
        obtain ⟨i1, i2, i3⟩ := ins_has (v := v) hpl w h0 hg
        refine ⟨fun k' => ?_, fun j nd e => ?_⟩
        · unfold tell
          rw [eA]
          by_cases c : inA T.A k' = true
          · rw [if_pos c, if_pos c, if_neg (fun z : k' = k => ci (by rw [← z]; exact c))]
          · rw [if_neg c, if_neg c]
            by_cases e : k' = k
            · rw [if_pos e, e]
              exact tellN_of w' i1
            · rw [if_neg e]
              refine tellN_ext w' w fun v' nv => ⟨fun z => ?_, fun z => i3 _ _ z nv⟩
              rcases i2 _ _ z with ⟨a, _⟩ | a
              · exact absurd a e
              · exact a
        · rw [eA]
          rcases i2 nd.k nd.v ⟨j, nd, e, rfl, rfl⟩ with ⟨a, _⟩ | ⟨j', nd', e', a, _⟩
          · rw [a]; exact cf
          · rw [← a]; exact ni j' nd' e'
end
end Tm

set_option Elab.async false
set_option linter.all false
set_option maxRecDepth 100000
set_option autoImplicit false
set_option maxHeartbeats 4000000
namespace Tm
open PySem L2
section
variable {pl : Ky → Nat → Nat}
/-- puts of keys that differ -/
theorem puts_tell (hpl : ∀ k n, 0 < n → pl k n < n) : ∀ (l : List (Ky × V)) (T : Tb), WF pl T → NI T → occ T.N + l.countP (fun kv => outs T.A.length kv.1) ≤ T.N.length → (l.map (·.1)).Nodup →
    (∀ k v, (k, v) ∈ l → tell (putsM pl T l) k = v) ∧ (∀ k, k ∉ l.map (·.1) → tell (putsM pl T l) k = tell T k) ∧ NI (putsM pl T l)
  | [], T, w, ni, h, nd => ⟨(fun k v h => by cases h), fun k _ => rfl, ni⟩
  | (k, v) :: l, T, w, ni, h, nd => by
    rw [List.countP_cons, outs_inA] at h
    have e : (if (!inA T.A k) = true then 1 else 0) = if inA T.A k = true then 0 else 1 := by cases inA T.A k <;> rfl
    dsimp only at h
    rw [e] at h
    obtain ⟨g, w2, l2, a2, o2⟩ := put0_ok (v := v) (k := k) hpl w (by omega)
    obtain ⟨t2, ni2⟩ := put0_tell (v := v) hpl w ni g
    rw [List.map_cons, List.nodup_cons] at nd
    obtain ⟨p1, p2, p3⟩ := puts_tell hpl l (put0 pl T k v) w2 ni2 (by rw [a2, l2]; omega) nd.2
    refine ⟨fun k' v' hm => ?_, fun k' hn => ?_, p3⟩
    · rcases List.mem_cons.1 hm with e | hm
      · cases e
        show tell (putsM pl (put0 pl T k v) l) k = v
        rw [p2 k nd.1, t2, if_pos rfl]
      · exact p1 k' v' hm
    · rw [List.map_cons, List.mem_cons, not_or] at hn
      show tell (putsM pl (put0 pl T k v) l) k' = _
      rw [p2 k' hn.2, t2, if_neg hn.1]
theorem above_keys : ∀ (l : List V) (a : Nat), ((aboveL a l).map (·.1)).Nodup
  | [], _ => List.nodup_nil
  | v :: l, a => by
    rw [aboveL]
    by_cases c : v = .non
    · rw [if_pos c]
      exact above_keys l (a + 1)
    · rw [if_neg c]
      show (Ky.int ((a : Int) + 1) :: (aboveL (a + 1) l).map (·.1)).Nodup
      rw [List.nodup_cons]
      refine ⟨fun h => ?_, above_keys l (a + 1)⟩
      obtain ⟨kv, h1, h2⟩ := List.mem_map.1 h
      obtain ⟨i, _, h3⟩ := above_mem h1
      rw [h3] at h2
      have := Ky.int.inj h2
      omega
theorem above_has {k : Ky} {v : V} : ∀ {l : List V} {a : Nat}, (k, v) ∈ aboveL a l ↔ ∃ i : Nat, l[i]? = some v ∧ v ≠ .non ∧ k = .int (((a + i : Nat) : Int) + 1)
  | [], a => by
    constructor
    · intro h; cases h
    · rintro ⟨i, h, _⟩; rw [List.getElem?_nil] at h; cases h
  | x :: l, a => by
    rw [aboveL, List.mem_append, above_has (l := l) (a := a + 1)]
    constructor
    · rintro (h | ⟨i, h1, h2, h3⟩)
      · by_cases c : x = .non
        · rw [if_pos c] at h; cases h
        · rw [if_neg c, List.mem_singleton] at h
          cases h
          exact ⟨0, rfl, c, rfl⟩
      · exact ⟨i + 1, by rw [List.getElem?_cons_succ]; exact h1, h2, by rw [h3, show a + 1 + i = a + (i + 1) by omega]⟩
    · rintro ⟨i, h1, h2, h3⟩
      cases i with
      | zero =>
        cases h1
        rw [if_neg h2, List.mem_singleton, h3]
        exact .inl rfl
      | succ i =>
        rw [List.getElem?_cons_succ] at h1
        exact .inr ⟨i, h1, h2, by rw [h3, show a + 1 + i = a + (i + 1) by omega]⟩
theorem node_has {k : Ky} {v : V} : ∀ {l : List (Option Nd)}, (k, v) ∈ nodeL l ↔ v ≠ .non ∧ has1 l k v
  | [] => by
    constructor
    · intro h; cases h
    · rintro ⟨_, j, nd, h, _⟩; rw [List.getElem?_nil] at h; cases h
  | none :: l => by
    rw [nodeL, node_has (l := l)]
    constructor
    · rintro ⟨h0, j, nd, h1, h2⟩
      exact ⟨h0, j + 1, nd, by rw [List.getElem?_cons_succ]; exact h1, h2⟩
    · rintro ⟨h0, j, nd, h1, h2⟩
      cases j with
      | zero => cases h1
      | succ j => rw [List.getElem?_cons_succ] at h1; exact ⟨h0, j, nd, h1, h2⟩
  | some n0 :: l => by
    rw [nodeL, List.mem_append, node_has (l := l)]
    constructor
    · rintro (h | ⟨h0, j, nd, h1, h2⟩)
      · by_cases c : n0.v = .non
        · rw [if_pos c] at h; cases h
        · rw [if_neg c, List.mem_singleton] at h
          cases h
          exact ⟨c, 0, n0, rfl, rfl, rfl⟩
      · exact ⟨h0, j + 1, nd, by rw [List.getElem?_cons_succ]; exact h1, h2⟩
    · rintro ⟨h0, j, nd, h1, h2, h3⟩
      cases j with
      | zero =>
        cases h1
        subst h3 h2
        rw [if_neg h0]
        exact .inl (List.mem_singleton.2 rfl)
      | succ j => rw [List.getElem?_cons_succ] at h1; exact .inr ⟨h0, j, nd, h1, h2, h3⟩
theorem node_keys {T : Tb} (w : WF pl T) : ((nodeL T.N).map (·.1)).Nodup := by
  have : ∀ (l : List (Option Nd)), (∀ (i j : Nat) (nd nd' : Nd), l[i]? = some (some nd) → l[j]? = some (some nd') → nd.k = nd'.k → i = j) → ((nodeL l).map (·.1)).Nodup := by
    intro l
    induction l with
    | nil => exact fun _ => List.nodup_nil
    | cons o l ih =>
      intro h
      have ih := ih fun i j nd nd' h1 h2 h3 => by
        have := h (i + 1) (j + 1) nd nd' (by rw [List.getElem?_cons_succ]; exact h1) (by rw [List.getElem?_cons_succ]; exact h2) h3
        omega
      cases o with
      | none => exact ih
      | some nd =>
        rw [nodeL]
        by_cases c : nd.v = .non
        · rw [if_pos c]; exact ih
        · rw [if_neg c]
          show (nd.k :: (nodeL l).map (·.1)).Nodup
          rw [List.nodup_cons]
          refine ⟨fun hm => ?_, ih⟩
          obtain ⟨kv, h1, h2⟩ := List.mem_map.1 hm
          obtain ⟨h0, j, nd', h3, h4, h5⟩ := node_has.1 (show (kv.1, kv.2) ∈ nodeL l from h1)
          have := h 0 (j + 1) nd nd' rfl (by rw [List.getElem?_cons_succ]; exact h3) (by rw [h4, h2])
          omega
  exact this T.N fun i j nd nd' h1 h2 h3 => w.g.dist i j nd nd' h1 h2 h3
theorem ni_new (A : List V) (n : Nat) : NI ⟨A, List.replicate n none, n⟩ := fun j nd e => by
  have e : (List.replicate n (none : Option Nd))[j]? = _ := e
  rw [List.getElem?_replicate] at e
  split at e <;> cases e
theorem tell_new (A : List V) (n : Nat) (k : Ky) : tell ⟨A, List.replicate n none, n⟩ k = tellA A k := by
  unfold tell
  by_cases c : inA A k = true
  · rw [if_pos c]
  · rw [if_neg c]
    have e : tellN ⟨A, List.replicate n none, n⟩ k = .non := by
      by_cases c2 : tellN ⟨A, List.replicate n none, n⟩ k = .non
      · exact c2
      · obtain ⟨j, nd, e, _⟩ := tellN_has c2
        have e : (List.replicate n (none : Option Nd))[j]? = _ := e
        rw [List.getElem?_replicate] at e
        split at e <;> cases e
    rw [e]
    cases k with
    | int i =>
      by_cases h : 1 ≤ i
      · rw [tellA_int h, List.getElem?_eq_none]
        · rfl
        · have c : ¬ ((decide (1 ≤ i) && decide (i ≤ A.length)) = true) := c
          simp at c
          omega
      · exact (if_neg h).symm
    | str z => rfl
    | bl b => rfl
    | fl s t p => rfl
    | inf s => rfl
    | ob a m => rfl
    | nt a z => rfl
end
end Tm

set_option Elab.async false
set_option linter.all false
set_option maxRecDepth 100000
set_option autoImplicit false
set_option maxHeartbeats 4000000
namespace Tm
open PySem L2
section
variable {pl : Ky → Nat → Nat}
theorem tellA_get {A : List V} {i : Nat} : tellA A (.int ((i : Int) + 1)) = (A[i]?).getD .non := by
  rw [tellA_int (by omega), show ((i : Int) + 1 - 1).toNat = i by omega]
theorem tellA_other {A : List V} {k : Ky} (h : ∀ i : Nat, k ≠ .int ((i : Int) + 1)) : tellA A k = .non := by
  cases k with
  | int i =>
    by_cases c : 1 ≤ i
    · refine absurd ?_ (h (i - 1).toNat)
      congr 1
      omega
    · exact if_neg c
  | str z => rfl
  | bl b => rfl
  | fl s t p => rfl
  | inf s => rfl
  | ob a m => rfl
  | nt a z => rfl
theorem ky_cases (k : Ky) : (∃ i : Nat, k = .int ((i : Int) + 1)) ∨ ∀ i : Nat, k ≠ .int ((i : Int) + 1) := by
  by_cases h : ∃ i : Nat, k = .int ((i : Int) + 1)
  · exact .inl h
  · exact .inr fun i e => h ⟨i, e⟩
theorem inA_get {A : List V} {i : Nat} : inA A (.int ((i : Int) + 1)) = decide (i < A.length) := by
  unfold inA
  by_cases c : i < A.length
  · rw [decide_eq_true c]; simp; omega
  · rw [decide_eq_false c]; simp; omega
theorem inA_other {A : List V} {k : Ky} (h : ∀ i : Nat, k ≠ .int ((i : Int) + 1)) : inA A k = false := by
  cases k with
  | int i =>
    by_cases c : 1 ≤ i
    · refine absurd ?_ (h (i - 1).toNat)
      congr 1
      omega
    · unfold inA; simp [c]
  | str z => rfl
  | bl b => rfl
  | fl s t p => rfl
  | inf s => rfl
  | ob a m => rfl
  | nt a z => rfl
/-- both parts anew tell the same -/
theorem resize_tell {T : Tb} {a n : Nat} (hpl : ∀ k n, 0 < n → pl k n < n) (w : WF pl T) (ni : NI T) (h : (T.A.drop a).countP liveV + (nodeL T.N).countP (fun kv => outs a kv.1) ≤ powM n) :
    (∀ k, tell (resizeM pl T a n) k = tell T k) ∧ NI (resizeM pl T a n) := by
  unfold resizeM
  have tl : (T.A.take a).length = min a T.A.length := List.length_take
  have c1 : (aboveL a (T.A.drop a)).countP (fun kv => outs (T.A.take a).length kv.1) = (T.A.drop a).countP liveV := by
    by_cases c : a ≤ T.A.length
    · rw [tl, Nat.min_eq_left c]
      exact above_out a _
    · rw [List.drop_eq_nil_of_le (by omega)]
      rfl
  have hc : occ (⟨T.A.take a, List.replicate (powM n) none, powM n⟩ : Tb).N + (aboveL a (T.A.drop a)).countP (fun kv => outs (⟨T.A.take a, List.replicate (powM n) none, powM n⟩ : Tb).A.length kv.1) ≤ (⟨T.A.take a, List.replicate (powM n) none, powM n⟩ : Tb).N.length := by
    show occ (List.replicate _ none) + _ ≤ (List.replicate _ none).length
    rw [occ_new, List.length_replicate, c1]
    omega
  obtain ⟨w1, n1, a1, o1, l1⟩ := puts_ok hpl (aboveL a (T.A.drop a)) ⟨T.A.take a, List.replicate (powM n) none, powM n⟩ (wf_new _ _) hc
  obtain ⟨p1, p2, p3⟩ := puts_tell hpl (aboveL a (T.A.drop a)) ⟨T.A.take a, List.replicate (powM n) none, powM n⟩ (wf_new _ _) (ni_new _ _) hc (above_keys _ _)
  rw [show Tb.N ⟨T.A.take a, List.replicate (powM n) none, powM n⟩ = List.replicate (powM n) none from rfl] at n1 o1
  rw [show Tb.A ⟨T.A.take a, List.replicate (powM n) none, powM n⟩ = T.A.take a from rfl] at a1 o1
  rw [occ_new, c1] at o1
  rw [List.length_replicate] at n1
  rw [tl] at a1
  have t1 : ∀ k, tell (putsM pl ⟨T.A.take a, List.replicate (powM n) none, powM n⟩ (aboveL a (T.A.drop a))) k = tellA T.A k := fun k => by
    by_cases hm : k ∈ (aboveL a (T.A.drop a)).map (·.1)
    · obtain ⟨kv, h1, h2⟩ := List.mem_map.1 hm
      obtain ⟨i, h3, h4, h5⟩ := above_has.1 (show (kv.1, kv.2) ∈ aboveL a (T.A.drop a) from h1)
      rw [← h2, p1 kv.1 kv.2 h1, h5, tellA_get, ← List.getElem?_drop, h3]
      rfl
    · rw [p2 k hm, tell_new]
      rcases ky_cases k with ⟨i, rfl⟩ | ho
      · rw [tellA_get, tellA_get]
        by_cases ci : i < a
        · rw [List.getElem?_take_of_lt ci]
        · rw [List.getElem?_eq_none (by rw [tl]; omega)]
          cases e : T.A[i]? with
          | none => rfl
          | some v =>
            by_cases cv : v = .non
            · rw [cv]; rfl
            · exfalso
              refine hm (List.mem_map.2 ⟨(.int ((i : Int) + 1), v), above_has.2 ⟨i - a, by rw [List.getElem?_drop, show a + (i - a) = i by omega]; exact e, cv, by rw [show a + (i - a) = i by omega]⟩, rfl⟩)
      · rw [tellA_other ho, tellA_other ho]
  have emp : a > T.A.length → (aboveL a (T.A.drop a)) = [] := fun h => by rw [List.drop_eq_nil_of_le (by omega)]; rfl
  have nod1 : a > T.A.length → ∀ k, tellN (putsM pl ⟨T.A.take a, List.replicate (powM n) none, powM n⟩ (aboveL a (T.A.drop a))) k = .non := fun h k => by
    rw [emp h]
    by_cases c2 : tellN (putsM pl ⟨T.A.take a, List.replicate (powM n) none, powM n⟩ []) k = .non
    · exact c2
    · obtain ⟨j, nd, e, _⟩ := tellN_has c2
      have e : (List.replicate (powM n) (none : Option Nd))[j]? = _ := e
      rw [List.getElem?_replicate] at e
      split at e <;> cases e
  have ni1 : a > T.A.length → ∀ (j : Nat) (nd : Nd), (putsM pl ⟨T.A.take a, List.replicate (powM n) none, powM n⟩ (aboveL a (T.A.drop a))).N[j]? ≠ some (some nd) := fun h j nd e => by
    rw [emp h] at e
    have e : (List.replicate (powM n) (none : Option Nd))[j]? = _ := e
    rw [List.getElem?_replicate] at e
    split at e <;> cases e
  generalize putsM pl ⟨T.A.take a, List.replicate (powM n) none, powM n⟩ (aboveL a (T.A.drop a)) = T1 at w1 n1 a1 o1 l1 p3 t1 nod1 ni1
  dsimp only
  have al : (T1.A ++ List.replicate (a - T1.A.length) V.non).length = a := by
    rw [List.length_append, List.length_replicate]
    omega
  have t2 : ∀ k, tell ⟨T1.A ++ List.replicate (a - T1.A.length) .non, T1.N, T1.fr⟩ k = tellA T.A k := fun k => by
    rw [← t1 k]
    by_cases h : a > T.A.length
    · unfold tell
      have e1 : tellN ⟨T1.A ++ List.replicate (a - T1.A.length) .non, T1.N, T1.fr⟩ k = .non := nod1 h k
      rw [e1, nod1 h k]
      rcases ky_cases k with ⟨i, rfl⟩ | ho
      · rw [inA_get, inA_get, tellA_get, tellA_get, al]
        by_cases c : i < T1.A.length
        · rw [decide_eq_true c, decide_eq_true (by omega), if_pos rfl, if_pos rfl]
          dsimp only
          rw [List.getElem?_append_left c]
        · rw [decide_eq_false c, if_neg Bool.false_ne_true]
          split
          · dsimp only
            rw [List.getElem?_append_right (by omega), List.getElem?_replicate]
            split <;> rfl
          · rfl
      · rw [inA_other ho, inA_other ho]
        rfl
    · rw [show a - T1.A.length = 0 by omega, List.replicate_zero, List.append_nil]
  have ni2 : NI ⟨T1.A ++ List.replicate (a - T1.A.length) .non, T1.N, T1.fr⟩ := fun j nd e => by
    by_cases h : a > T.A.length
    · exact absurd e (ni1 h j nd)
    · have := p3 j nd e
      rw [show a - T1.A.length = 0 by omega, List.replicate_zero, List.append_nil]
      exact this
  obtain ⟨q1, q2, q3⟩ := puts_tell hpl (nodeL T.N) ⟨T1.A ++ List.replicate (a - T1.A.length) .non, T1.N, T1.fr⟩ ⟨w1.g, w1.fr, w1.free⟩ ni2 (by
    show occ T1.N + (nodeL T.N).countP (fun kv => outs (T1.A ++ List.replicate (a - T1.A.length) V.non).length kv.1) ≤ T1.N.length
    rw [al]
    omega) (node_keys w)
  refine ⟨fun k => ?_, q3⟩
  by_cases hm : k ∈ (nodeL T.N).map (·.1)
  · obtain ⟨kv, h1, h2⟩ := List.mem_map.1 hm
    obtain ⟨h3, h4⟩ := node_has.1 (show (kv.1, kv.2) ∈ nodeL T.N from h1)
    rw [← h2, q1 kv.1 kv.2 h1]
    obtain ⟨j, nd, h5, h6, h7⟩ := h4
    have := ni j nd h5
    rw [h6] at this
    unfold tell
    rw [this, if_neg Bool.false_ne_true]
    exact (tellN_of w ⟨j, nd, h5, h6, h7⟩).symm
  · rw [q2 k hm, t2]
    unfold tell
    by_cases c : inA T.A k = true
    · rw [if_pos c]
    · rw [if_neg c]
      have e : tellN T k = .non := by
        by_cases c2 : tellN T k = .non
        · exact c2
        · exact absurd (List.mem_map.2 ⟨(k, tellN T k), node_has.2 ⟨c2, tellN_has c2⟩, rfl⟩) hm
      rw [e]
      rcases ky_cases k with ⟨i, rfl⟩ | ho
      · rw [inA_get] at c
        rw [tellA_get, List.getElem?_eq_none (by simpa using c)]
        rfl
      · exact tellA_other ho
/-- PUT TELLS: the new value of its key, the old ones of all others -/
theorem putG_tell {T : Tb} {k : Ky} {v : V} (hpl : ∀ k n, 0 < n → pl k n < n) (w : WF pl T) (ni : NI T) : (∀ k', tell (putG pl T k v) k' = if k' = k then v else tell T k') ∧ NI (putG pl T k v) := by
  unfold putG
  split
  · have c := fun a => grow_cnt T k a
    obtain ⟨b1, b2⟩ := best_ins (keysM T k) 32
    have p1 := powM_ge ((keysM T k).length - (bestM (keysM T k) 32).2)
    have cb := c (bestM (keysM T k) 32).1
    rw [← b1] at cb
    obtain ⟨t1, n1⟩ := resize_tell (pl := pl) (a := (bestM (keysM T k) 32).1) (n := (keysM T k).length - (bestM (keysM T k) 32).2) hpl w ni (by omega)
    obtain ⟨wg, og, _⟩ := grow_ok (pl := pl) (T := T) (k := k) hpl
    have g := (put0_ok (v := v) hpl wg og).1
    obtain ⟨t2, n2⟩ := put0_tell (T := growM pl T k) (v := v) hpl wg n1 g
    exact ⟨fun k' => by rw [t2, show tell (growM pl T k) k' = tell T k' from t1 k'], n2⟩
  · rename_i c
    exact put0_tell hpl w ni (Bool.eq_false_iff.2 c)
end
end Tm

set_option Elab.async false
set_option linter.all false
set_option maxRecDepth 100000
set_option autoImplicit false
set_option maxHeartbeats 4000000
namespace Tm
open PySem L2
section
variable {pl : Ky → Nat → Nat}
/-- no node is without a value -/
def NDd (T : Tb) : Prop := ∀ (j : Nat) (nd : Nd), T.N[j]? = some (some nd) → nd.v ≠ .non
theorem occ_put {N : List (Option Nd)} {a : Nat} {nd : Nd} (e : N[a]? = some none) : occ (N.set a (some nd)) = occ N + 1 := by
  obtain ⟨h, e⟩ := List.getElem?_eq_some_iff.1 e
  unfold occ
  rw [List.countP_set h, e]
  simp
theorem ins_occ {T : Tb} {k : Ky} {v : V} (hpl : ∀ k n, 0 < n → pl k n < n) (w : WF pl T) (nd0 : NDd T) (h0 : T.N ≠ []) (hv : v ≠ .non)
    (hg : ∀ nd, T.N[pl k T.N.length]? = some (some nd) → nd.v ≠ .non → ∃ f, freeM T.N T.fr = some f) : occ (insM pl T k v).N = occ T.N + 1 ∧ NDd (insM pl T k v) := by
  refine ⟨?_, fun j nd e => ?_⟩
  · have hlen : 0 < T.N.length := List.length_pos_iff.2 h0
    have ha : pl k T.N.length < T.N.length := hpl _ _ hlen
    unfold insM
    generalize ea : pl k T.N.length = a at *
    simp only
    split
    · rename_i nd hnd
      rw [if_neg (nd0 a nd hnd)]
      obtain ⟨f, hf⟩ := hg nd hnd (nd0 a nd hnd)
      obtain ⟨f1, f2, f3⟩ := freeM_some hf
      have fl : f < T.N.length := (List.getElem?_eq_some_iff.1 f2).1
      have af : a ≠ f := fun z => by rw [z, f2] at hnd; cases hnd
      rw [hf]
      simp only
      split
      · show occ ((T.N.set f _).set a _) = _
        rw [occ_set' (nd' := nd) (by rw [gs fl, if_neg af]; exact hnd), occ_put f2]
      · rename_i hh
        obtain ⟨p, hp⟩ := ahead_is (k := k) w hnd hh
        obtain ⟨ndp, p1, p2⟩ := aheadM_some hp
        have plt : p < T.N.length := (List.getElem?_eq_some_iff.1 p1).1
        have pf : p ≠ f := fun z => by rw [z, f2] at p1; cases p1
        have pa : p ≠ a := fun z => by
          obtain ⟨rk, hr⟩ := w.g.link
          have := (hr p ndp a p1 p2).1
          rw [z] at this
          omega
        have sp : setL (T.N[p]?.getD none) (some f) = some { ndp with l := some f } := by rw [p1]; rfl
        rw [hp]
        simp only
        rw [sp]
        show occ (((T.N.set p _).set f _).set a _) = _
        have h1 : ((T.N.set p (some { ndp with l := some f })).set f (some nd))[a]? = some (some nd) := by rw [gs (by rw [List.length_set]; exact fl), if_neg af, gs plt, if_neg pa.symm]; exact hnd
        rw [occ_set' h1, occ_put (by rw [gs plt, if_neg pf.symm]; exact f2), occ_set' p1]
    · rename_i hn
      have hnone : T.N[a]? = some none := by
        cases e : T.N[a]? with
        | none => rw [List.getElem?_eq_none_iff] at e; omega
        | some o =>
          cases o with
          | none => rfl
          | some nd => exact absurd e (hn nd)
      exact occ_put hnone
  · obtain ⟨i1, i2, i3⟩ := ins_has (v := v) hpl w h0 hg
    rcases i2 nd.k nd.v ⟨j, nd, e, rfl, rfl⟩ with ⟨_, z⟩ | ⟨j', nd', e', _, z⟩
    · rw [z]; exact hv
    · rw [← z]; exact nd0 j' nd' e'
/-- a value put where nothing grows -/
theorem put0_occ {T : Tb} {k : Ky} {v : V} (hpl : ∀ k n, 0 < n → pl k n < n) (w : WF pl T) (nd0 : NDd T) (hv : v ≠ .non) (h : needG pl T k v = false) :
    occ (put0 pl T k v).N = occ T.N + (if inA T.A k = false ∧ findM T.N k = none then 1 else 0) ∧ NDd (put0 pl T k v) := by
  unfold needG at h
  unfold put0
  by_cases ci : inA T.A k = true
  · rw [if_pos ci, if_neg (by rw [ci]; simp)]
    cases k with
    | str z => cases ci
    | bl b => cases ci
    | fl s t p => cases ci
    | inf s => cases ci
    | ob a m => cases ci
    | nt a z => cases ci
    | int i => exact ⟨rfl, nd0⟩
  · have cf : inA T.A k = false := Bool.eq_false_iff.2 ci
    rw [if_neg ci]
    rw [cf] at h
    cases hf : findM T.N k with
    | some j =>
      obtain ⟨nd, hj, hk⟩ := findM_some hf
      have jl : j < T.N.length := (List.getElem?_eq_some_iff.1 hj).1
      simp only
      rw [mod_set hj, if_neg (by simp)]
      refine ⟨occ_set' (nd := { nd with v := v }) hj, fun i nd' e => ?_⟩
      have e : (T.N.set j (some { nd with v := v }))[i]? = _ := e
      rw [gs jl] at e
      split at e
      · cases e; exact hv
      · exact nd0 i nd' e
    | none =>
      rw [hf, decide_eq_false hv] at h
      simp only [Bool.not_false, Option.isNone_none, Bool.true_and, Bool.and_true, Bool.or_eq_false_iff] at h
      obtain ⟨h1, h2⟩ := h
      have h0 : T.N ≠ [] := fun z => by rw [z] at h1; cases h1
      simp only
      rw [if_neg hv, if_pos ⟨cf, trivial⟩]
      exact ins_occ hpl w nd0 h0 hv fun nd h3 h4 => by
        rw [h3] at h2
        simp only [decide_eq_false h4, Bool.not_false, Bool.true_and] at h2
        cases hf : freeM T.N T.fr with
        | some f => exact ⟨f, rfl⟩
        | none => rw [hf] at h2; cases h2
/-- under NDd a new key outside wants to grow just if all nodes are in use -/
theorem needG_full {T : Tb} {k : Ky} {v : V} (hpl : ∀ k n, 0 < n → pl k n < n) (w : WF pl T) (nd0 : NDd T) (hv : v ≠ .non) (hi : inA T.A k = false) (hf : findM T.N k = none) : needG pl T k v = decide (occ T.N = T.N.length) := by
  unfold needG
  rw [hi, hf, decide_eq_false hv]
  simp only [Bool.not_false, Option.isNone_none, Bool.true_and, Bool.and_true]
  by_cases c : occ T.N = T.N.length
  · rw [decide_eq_true c]
    by_cases h0 : T.N = []
    · rw [h0]; rfl
    · have n0 : 0 < T.N.length := List.length_pos_iff.2 h0
      have all : ∀ o ∈ T.N, o.isSome = true := by
        unfold occ at c
        exact List.countP_eq_length.1 c
      have ha := hpl k _ n0
      obtain ⟨o, ho⟩ : ∃ o, T.N[pl k T.N.length]? = some o := ⟨_, List.getElem?_eq_getElem ha⟩
      have hs := all o (List.mem_of_getElem? ho)
      cases o with
      | none => cases hs
      | some nd =>
        have nv := nd0 _ nd ho
        have fn : freeM T.N T.fr = none := by
          cases e : freeM T.N T.fr with
          | none => rfl
          | some f =>
            obtain ⟨_, f2, _⟩ := freeM_some e
            have := all none (List.mem_of_getElem? f2)
            cases this
        simp only [ho, fn, decide_eq_false nv]
        simp
  · rw [decide_eq_false c]
    have le := occ_le T.N
    have h0 : T.N ≠ [] := fun z => by
      rw [z] at c
      exact c rfl
    obtain ⟨f, hf⟩ := free_found pl w (by omega)
    have e : T.N.isEmpty = false := by
      cases h : T.N with
      | nil => exact absurd h h0
      | cons z zs => rfl
    rw [e, hf]
    split <;> simp
/-- values of keys that differ and are new -/
theorem puts_occ (hpl : ∀ k n, 0 < n → pl k n < n) : ∀ (l : List (Ky × V)) (T : Tb), WF pl T → NI T → NDd T → occ T.N + l.countP (fun kv => outs T.A.length kv.1) ≤ T.N.length → (l.map (·.1)).Nodup → (∀ kv ∈ l, kv.2 ≠ .non ∧ (outs T.A.length kv.1 = true → findM T.N kv.1 = none)) →
    occ (putsM pl T l).N = occ T.N + l.countP (fun kv => outs T.A.length kv.1) ∧ NDd (putsM pl T l)
  | [], T, w, ni, nd0, h, nd, hl => ⟨rfl, nd0⟩
  | (k, v) :: l, T, w, ni, nd0, h, nd, hl => by
    rw [List.countP_cons, outs_inA] at h ⊢
    have e : (if (!inA T.A k) = true then 1 else 0) = if inA T.A k = true then 0 else 1 := by cases inA T.A k <;> rfl
    dsimp only at h ⊢
    rw [e] at h ⊢
    obtain ⟨g, w2, l2, a2, o2⟩ := put0_ok (v := v) (k := k) hpl w (by omega)
    obtain ⟨t2, ni2⟩ := put0_tell (v := v) hpl w ni g
    obtain ⟨hv, hf⟩ := hl (k, v) (List.mem_cons_self ..)
    obtain ⟨oc, nd2⟩ := put0_occ hpl w nd0 hv g
    rw [List.map_cons, List.nodup_cons] at nd
    have eo : occ (put0 pl T k v).N = occ T.N + (if inA T.A k = true then 0 else 1) := by
      rw [oc]
      cases ci : inA T.A k with
      | true => simp
      | false =>
        have hf := hf (by rw [outs_inA, ci]; rfl)
        have hf : findM T.N k = none := hf
        simp [hf]
    obtain ⟨r1, r2⟩ := puts_occ hpl l (put0 pl T k v) w2 ni2 nd2 (by rw [a2, l2]; omega) nd.2 fun kv hkv => by
      refine ⟨(hl kv (List.mem_cons_of_mem _ hkv)).1, fun ho => ?_⟩
      rw [a2] at ho
      have hn := (hl kv (List.mem_cons_of_mem _ hkv)).2 ho
      cases hf2 : findM (put0 pl T k v).N kv.1 with
      | none => rfl
      | some j =>
        exfalso
        obtain ⟨n1, h1, h2⟩ := findM_some hf2
        have nk : kv.1 ≠ k := fun z => nd.1 (z ▸ List.mem_map.2 ⟨kv, hkv, rfl⟩)
        have t3 := t2 kv.1
        rw [if_neg nk] at t3
        have io : inA T.A kv.1 = false := by
          rw [outs_inA] at ho
          simpa using ho
        have io2 : inA (put0 pl T k v).A kv.1 = false := by
          have : outs (put0 pl T k v).A.length kv.1 = true := by rw [a2]; exact ho
          rw [outs_inA] at this
          simpa using this
        unfold tell at t3
        rw [io, io2, if_neg Bool.false_ne_true, if_neg Bool.false_ne_true, tellN_of w2 ⟨j, n1, h1, h2, rfl⟩] at t3
        unfold tellN at t3
        rw [hn] at t3
        exact nd2 j n1 h1 t3
    exact ⟨by show occ (putsM pl (put0 pl T k v) l).N = _; rw [r1, eo, a2]; omega, r2⟩
end
end Tm

set_option Elab.async false
set_option linter.all false
set_option maxRecDepth 100000
set_option autoImplicit false
set_option maxHeartbeats 4000000
namespace Tm
open PySem L2
section
variable {pl : Ky → Nat → Nat}
theorem ndd_new (A : List V) (n : Nat) : NDd ⟨A, List.replicate n none, n⟩ := fun j nd e => by
  have e : (List.replicate n (none : Option Nd))[j]? = _ := e
  rw [List.getElem?_replicate] at e
  split at e <;> cases e
theorem find_new (n : Nat) (k : Ky) : findM (List.replicate n none) k = none := by
  cases h : findM (List.replicate n none) k with
  | none => rfl
  | some j =>
    obtain ⟨nd, e, _⟩ := findM_some h
    rw [List.getElem?_replicate] at e
    split at e <;> cases e
theorem resize_occ {T : Tb} {a n : Nat} (hpl : ∀ k n, 0 < n → pl k n < n) (w : WF pl T) (ni : NI T) (h : (T.A.drop a).countP liveV + (nodeL T.N).countP (fun kv => outs a kv.1) ≤ powM n) :
    occ (resizeM pl T a n).N = (T.A.drop a).countP liveV + (nodeL T.N).countP (fun kv => outs a kv.1) ∧ NDd (resizeM pl T a n) := by
  unfold resizeM
  have tl : (T.A.take a).length = min a T.A.length := List.length_take
  have c1 : (aboveL a (T.A.drop a)).countP (fun kv => outs (T.A.take a).length kv.1) = (T.A.drop a).countP liveV := by
    by_cases c : a ≤ T.A.length
    · rw [tl, Nat.min_eq_left c]
      exact above_out a _
    · rw [List.drop_eq_nil_of_le (by omega)]
      rfl
  have hc : occ (⟨T.A.take a, List.replicate (powM n) none, powM n⟩ : Tb).N + (aboveL a (T.A.drop a)).countP (fun kv => outs (⟨T.A.take a, List.replicate (powM n) none, powM n⟩ : Tb).A.length kv.1) ≤ (⟨T.A.take a, List.replicate (powM n) none, powM n⟩ : Tb).N.length := by
    show occ (List.replicate _ none) + _ ≤ (List.replicate _ none).length
    rw [occ_new, List.length_replicate, c1]
    omega
  obtain ⟨w1, n1, a1, _, _⟩ := puts_ok hpl (aboveL a (T.A.drop a)) ⟨T.A.take a, List.replicate (powM n) none, powM n⟩ (wf_new _ _) hc
  obtain ⟨p1, p2, p3⟩ := puts_tell hpl (aboveL a (T.A.drop a)) ⟨T.A.take a, List.replicate (powM n) none, powM n⟩ (wf_new _ _) (ni_new _ _) hc (above_keys _ _)
  obtain ⟨o1, d1⟩ := puts_occ hpl (aboveL a (T.A.drop a)) ⟨T.A.take a, List.replicate (powM n) none, powM n⟩ (wf_new _ _) (ni_new _ _) (ndd_new _ _) hc (above_keys _ _) fun kv hkv => by
    obtain ⟨i, _, h2, _⟩ := above_has.1 (show (kv.1, kv.2) ∈ aboveL a (T.A.drop a) from hkv)
    exact ⟨h2, fun _ => find_new _ _⟩
  have o1 : _ = occ (List.replicate (powM n) none) + (aboveL a (T.A.drop a)).countP (fun kv => outs (T.A.take a).length kv.1) := o1
  rw [occ_new, c1] at o1
  rw [show Tb.N ⟨T.A.take a, List.replicate (powM n) none, powM n⟩ = List.replicate (powM n) none from rfl, List.length_replicate] at n1
  rw [show Tb.A ⟨T.A.take a, List.replicate (powM n) none, powM n⟩ = T.A.take a from rfl, tl] at a1
  have far : ∀ k, inA T.A k = false → k ∉ (aboveL a (T.A.drop a)).map (·.1) := fun k hk hm => by
    obtain ⟨kv, h1, h2⟩ := List.mem_map.1 hm
    obtain ⟨i, h3, h4, h5⟩ := above_has.1 (show (kv.1, kv.2) ∈ aboveL a (T.A.drop a) from h1)
    rw [← h2, h5, inA_get] at hk
    have := (List.getElem?_eq_some_iff.1 h3).1
    rw [List.length_drop] at this
    have := of_decide_eq_false hk
    omega
  have no : ∀ k, inA T.A k = false → outs a k = true → findM (putsM pl ⟨T.A.take a, List.replicate (powM n) none, powM n⟩ (aboveL a (T.A.drop a))).N k = none := fun k hk ho => by
    cases hf : findM (putsM pl ⟨T.A.take a, List.replicate (powM n) none, powM n⟩ (aboveL a (T.A.drop a))).N k with
    | none => rfl
    | some j =>
      exfalso
      obtain ⟨nd, h1, h2⟩ := findM_some hf
      have t := p2 k (far k hk)
      rw [tell_new] at t
      have e1 : tellA (T.A.take a) k = .non := by
        rcases ky_cases k with ⟨i, rfl⟩ | hoth
        · rw [inA_get] at hk
          rw [tellA_get, List.getElem?_eq_none (by rw [tl]; have := of_decide_eq_false hk; omega)]
          rfl
        · exact tellA_other hoth
      rw [e1] at t
      have io := p3 j nd h1
      rw [h2] at io
      unfold tell at t
      rw [io, if_neg Bool.false_ne_true, tellN_of w1 ⟨j, nd, h1, h2, rfl⟩] at t
      exact d1 j nd h1 t
  have ni1 : a > T.A.length → ∀ (j : Nat) (nd : Nd), (putsM pl ⟨T.A.take a, List.replicate (powM n) none, powM n⟩ (aboveL a (T.A.drop a))).N[j]? ≠ some (some nd) := fun h j nd e => by
    rw [show aboveL a (T.A.drop a) = [] by rw [List.drop_eq_nil_of_le (by omega)]; rfl] at e
    have e : (List.replicate (powM n) (none : Option Nd))[j]? = _ := e
    rw [List.getElem?_replicate] at e
    split at e <;> cases e
  generalize putsM pl ⟨T.A.take a, List.replicate (powM n) none, powM n⟩ (aboveL a (T.A.drop a)) = T1 at w1 n1 a1 o1 d1 p3 no ni1
  dsimp only
  have al : (T1.A ++ List.replicate (a - T1.A.length) V.non).length = a := by
    rw [List.length_append, List.length_replicate]
    omega
  have ni2 : NI ⟨T1.A ++ List.replicate (a - T1.A.length) .non, T1.N, T1.fr⟩ := fun j nd e => by
    by_cases h : a > T.A.length
    · exact absurd e (ni1 h j nd)
    · have := p3 j nd e
      rw [show a - T1.A.length = 0 by omega, List.replicate_zero, List.append_nil]
      exact this
  obtain ⟨o2, d2⟩ := puts_occ hpl (nodeL T.N) ⟨T1.A ++ List.replicate (a - T1.A.length) .non, T1.N, T1.fr⟩ ⟨w1.g, w1.fr, w1.free⟩ ni2 d1 (by
    show occ T1.N + (nodeL T.N).countP (fun kv => outs (T1.A ++ List.replicate (a - T1.A.length) V.non).length kv.1) ≤ T1.N.length
    rw [al]
    omega) (node_keys w) fun kv hkv => by
      obtain ⟨h3, j, nd, h5, h6, h7⟩ := node_has.1 (show (kv.1, kv.2) ∈ nodeL T.N from hkv)
      have hk := ni j nd h5
      rw [h6] at hk
      exact ⟨h3, fun ho => no kv.1 hk (by rw [← al]; exact ho)⟩
  have o2 : _ = occ T1.N + (nodeL T.N).countP (fun kv => outs (T1.A ++ List.replicate (a - T1.A.length) V.non).length kv.1) := o2
  rw [al, o1] at o2
  exact ⟨by rw [o2]; omega, d2⟩
/-- the rooms behind a growing, and how many nodes are in use -/
theorem grow_room {T : Tb} {k : Ky} {v : V} (hpl : ∀ k n, 0 < n → pl k n < n) (w : WF pl T) (ni : NI T) (g : needG pl T k v = true) :
    (putG pl T k v).A.length = (bestM (keysM T k) 32).1 ∧ (putG pl T k v).N.length = powM ((keysM T k).length - ins (keysM T k) (bestM (keysM T k) 32).1) ∧
    (v ≠ .non → tell T k = .non → occ (putG pl T k v).N = (keysM T k).length - ins (keysM T k) (bestM (keysM T k) 32).1 ∧ NDd (putG pl T k v)) := by
  have c := grow_cnt T k (bestM (keysM T k) 32).1
  obtain ⟨b1, b2⟩ := best_ins (keysM T k) 32
  have p1 := powM_ge ((keysM T k).length - (bestM (keysM T k) 32).2)
  rw [← b1] at c ⊢
  obtain ⟨w1, n1, a1, _, _⟩ := resize_ok (pl := pl) (T := T) (a := (bestM (keysM T k) 32).1) (n := (keysM T k).length - (bestM (keysM T k) 32).2) hpl (by omega)
  obtain ⟨o1, d1⟩ := resize_occ (pl := pl) (T := T) (a := (bestM (keysM T k) 32).1) (n := (keysM T k).length - (bestM (keysM T k) 32).2) hpl w ni (by omega)
  obtain ⟨t1, ni1⟩ := resize_tell (pl := pl) (T := T) (a := (bestM (keysM T k) 32).1) (n := (keysM T k).length - (bestM (keysM T k) 32).2) hpl w ni (by omega)
  obtain ⟨wg, og, _⟩ := grow_ok (pl := pl) (T := T) (k := k) hpl
  obtain ⟨g2, w2, l2, a2, _⟩ := put0_ok (v := v) hpl wg og
  unfold putG
  rw [if_pos g]
  unfold growM at g2 l2 a2 ⊢
  refine ⟨a2.trans a1, l2.trans n1, fun hv tk => ?_⟩
  obtain ⟨oc, d2⟩ := put0_occ (k := k) hpl w1 d1 hv g2
  refine ⟨?_, d2⟩
  rw [oc, o1]
  have e : (if inA (resizeM pl T (bestM (keysM T k) 32).1 ((keysM T k).length - (bestM (keysM T k) 32).2)).A k = false ∧ findM (resizeM pl T (bestM (keysM T k) 32).1 ((keysM T k).length - (bestM (keysM T k) 32).2)).N k = none then 1 else 0) = if outs (bestM (keysM T k) 32).1 k = true then 1 else 0 := by
    have eo : outs (bestM (keysM T k) 32).1 k = !inA (resizeM pl T (bestM (keysM T k) 32).1 ((keysM T k).length - (bestM (keysM T k) 32).2)).A k := by rw [← outs_inA, a1]
    rw [eo]
    cases ci : inA (resizeM pl T (bestM (keysM T k) 32).1 ((keysM T k).length - (bestM (keysM T k) 32).2)).A k with
    | true => simp
    | false =>
      have hf : findM (resizeM pl T (bestM (keysM T k) 32).1 ((keysM T k).length - (bestM (keysM T k) 32).2)).N k = none := by
        cases hf : findM (resizeM pl T (bestM (keysM T k) 32).1 ((keysM T k).length - (bestM (keysM T k) 32).2)).N k with
        | none => rfl
        | some j =>
          exfalso
          obtain ⟨nd, h1, h2⟩ := findM_some hf
          have t := (t1 k).trans tk
          unfold tell at t
          rw [ci, if_neg Bool.false_ne_true, tellN_of w1 ⟨j, nd, h1, h2, rfl⟩] at t
          exact d1 j nd h1 t
      rw [hf]
      simp
  rw [e]
  omega
end
end Tm

set_option Elab.async false
set_option linter.all false
set_option maxRecDepth 100000
set_option autoImplicit false
set_option maxHeartbeats 4000000
namespace Tm
open PySem L2
section
variable {pl : Ky → Nat → Nat}
theorem mem_above0 {T : Tb} {k : Ky} : k ∈ (aboveL 0 T.A).map (·.1) ↔ inA T.A k = true ∧ tell T k ≠ .non := by
  constructor
  · intro h
    obtain ⟨kv, h1, h2⟩ := List.mem_map.1 h
    obtain ⟨i, h3, h4, h5⟩ := above_has.1 (show (kv.1, kv.2) ∈ aboveL 0 T.A from h1)
    rw [Nat.zero_add] at h5
    have hl := (List.getElem?_eq_some_iff.1 h3).1
    have e : inA T.A k = true := by rw [← h2, h5, inA_get, decide_eq_true hl]
    refine ⟨e, ?_⟩
    unfold tell
    rw [if_pos e, ← h2, h5, tellA_get, h3]
    exact h4
  · rintro ⟨e, h⟩
    unfold tell at h
    rw [if_pos e] at h
    rcases ky_cases k with ⟨i, rfl⟩ | ho
    · rw [inA_get] at e
      have hl := of_decide_eq_true e
      rw [tellA_get] at h
      refine List.mem_map.2 ⟨(.int ((i : Int) + 1), T.A[i]), above_has.2 ⟨i, List.getElem?_eq_getElem hl, ?_, by rw [Nat.zero_add]⟩, rfl⟩
      rw [List.getElem?_eq_getElem hl] at h
      exact h
    · rw [inA_other ho] at e
      cases e
theorem mem_node {T : Tb} (w : WF pl T) (ni : NI T) {k : Ky} : k ∈ (nodeL T.N).map (·.1) ↔ inA T.A k = false ∧ tell T k ≠ .non := by
  constructor
  · intro h
    obtain ⟨kv, h1, h2⟩ := List.mem_map.1 h
    obtain ⟨h3, h4⟩ := node_has.1 (show (kv.1, kv.2) ∈ nodeL T.N from h1)
    rw [h2] at h4
    have h5 := h4
    obtain ⟨j, nd, h6, h7, h8⟩ := h5
    have e := ni j nd h6
    rw [h7] at e
    refine ⟨e, ?_⟩
    unfold tell
    rw [e, if_neg Bool.false_ne_true, tellN_of w h4]
    exact h3
  · rintro ⟨e, h⟩
    unfold tell at h
    rw [e, if_neg Bool.false_ne_true] at h
    exact List.mem_map.2 ⟨(k, tellN T k), node_has.2 ⟨h, tellN_has h⟩, rfl⟩
theorem mem_keys {T : Tb} (w : WF pl T) (ni : NI T) {k k' : Ky} : k' ∈ keysM T k ↔ tell T k' ≠ .non ∨ k' = k := by
  unfold keysM
  rw [List.mem_append, List.mem_append, mem_above0, mem_node w ni, List.mem_singleton]
  constructor
  · rintro ((h | h) | h)
    · exact .inl h.2
    · exact .inr h
    · exact .inl h.2
  · rintro (h | h)
    · cases e : inA T.A k' with
      | true => exact .inl (.inl ⟨rfl, h⟩)
      | false => exact .inr ⟨rfl, h⟩
    · exact .inl (.inr h)
theorem keys_nodup {T : Tb} (w : WF pl T) (ni : NI T) {k : Ky} (h : tell T k = .non) : (keysM T k).Nodup := by
  unfold keysM
  rw [List.nodup_append, List.nodup_append]
  refine ⟨⟨above_keys _ _, List.nodup_cons.2 ⟨List.not_mem_nil, List.nodup_nil⟩, fun a ha b hb e => ?_⟩, node_keys w, fun a ha b hb e => ?_⟩
  · rw [List.mem_singleton] at hb
    rw [e, hb] at ha
    exact (mem_above0.1 ha).2 h
  · subst e
    obtain ⟨h1, h2⟩ := (mem_node w ni).1 hb
    rw [List.mem_append, List.mem_singleton] at ha
    rcases ha with ha | ha
    · rw [(mem_above0.1 ha).1] at h1
      cases h1
    · rw [ha] at h2
      exact h2 h
/-- integers up to a bound, among keys that differ -/
theorem ins_range : ∀ (n : Nat) (l : List Ky), l.Nodup → ins l n = (List.range n).countP fun (i : Nat) => decide (Ky.int ((i : Int) + 1) ∈ l)
  | 0, l, _ => by
    unfold ins
    rw [List.range_zero, List.countP_nil, List.countP_eq_zero]
    intro k _
    cases k with
    | int i => unfold outs; simp; omega
    | str z => simp [outs]
    | bl b => simp [outs]
    | fl s t p => simp [outs]
    | inf s => simp [outs]
    | ob a m => simp [outs]
    | nt a z => simp [outs]
  | n + 1, l, h => by
    rw [List.range_succ, List.countP_append, ← ins_range n l h, List.countP_cons, List.countP_nil]
    unfold ins
    clear ins_range
    induction l with
    | nil => rfl
    | cons k l ih =>
      rw [List.nodup_cons] at h
      rw [List.countP_cons, List.countP_cons, ih h.2]
      by_cases e : k = .int ((n : Int) + 1)
      · subst e
        have nm : ¬ Ky.int ((n : Int) + 1) ∈ l := h.1
        have o1 : outs (n + 1) (.int ((n : Int) + 1)) = false := by unfold outs; simp; omega
        have o2 : outs n (.int ((n : Int) + 1)) = true := by unfold outs; simp; omega
        rw [o1, o2, decide_eq_false nm, decide_eq_true (List.mem_cons_self ..)]
        simp
      · have e1 : outs (n + 1) k = outs n k := by
          cases k with
          | int i =>
            unfold outs
            by_cases c : 1 ≤ i
            · by_cases c2 : i ≤ (n : Int)
              · simp [c, c2]; omega
              · have : i ≠ (n : Int) + 1 := fun z => e (by rw [z])
                simp [c, c2]; omega
            · simp [c]
          | str z => rfl
          | bl b => rfl
          | fl s t p => rfl
          | inf s => rfl
          | ob a m => rfl
          | nt a z => rfl
        have e2 : decide (Ky.int ((n : Int) + 1) ∈ k :: l) = decide (Ky.int ((n : Int) + 1) ∈ l) := by
          refine decide_eq_decide.2 ⟨fun z => ?_, List.mem_cons_of_mem _⟩
          rcases List.mem_cons.1 z with z | z
          · exact absurd z.symm e
          · exact z
        rw [e1, e2]
        omega
theorem ins_keys {T : Tb} (w : WF pl T) (ni : NI T) {k : Ky} (h : tell T k = .non) (n : Nat) : ins (keysM T k) n = (List.range n).countP fun (i : Nat) => decide (tell T (.int ((i : Int) + 1)) ≠ .non ∨ Ky.int ((i : Int) + 1) = k) := by
  rw [ins_range n _ (keys_nodup w ni h)]
  exact List.countP_congr fun i _ => by rw [decide_eq_true_eq, decide_eq_true_eq]; exact mem_keys w ni
/-- the best size is the last power of two that is more than half used -/
theorem best_is {l : List Ky} {p : Nat} : ∀ {P : Nat}, p < P → 2 * ins l (2 ^ p) > 2 ^ p → (∀ q, p < q → q < P → 2 * ins l (2 ^ q) ≤ 2 ^ q) → bestM l P = (2 ^ p, ins l (2 ^ p))
  | 0, h, _, _ => absurd h (Nat.not_lt_zero _)
  | P + 1, h, h1, h2 => by
    unfold bestM
    by_cases e : p = P
    · subst e
      rw [if_pos h1]
    · rw [if_neg (by have := h2 P (by omega) (Nat.lt_succ_self P); omega)]
      exact best_is (by omega) h1 fun q a b => h2 q a (by omega)
theorem best_none {l : List Ky} : ∀ {P : Nat}, (∀ q, q < P → 2 * ins l (2 ^ q) ≤ 2 ^ q) → bestM l P = (0, 0)
  | 0, _ => rfl
  | P + 1, h => by
    unfold bestM
    rw [if_neg (by have := h P (Nat.lt_succ_self P); omega)]
    exact best_none fun q a => h q (by omega)
end
end Tm

set_option Elab.async false
set_option linter.all false
set_option maxRecDepth 100000
set_option autoImplicit false
set_option maxHeartbeats 4000000
namespace Tm
open PySem L2 Nu
/-! ### k13: rooms, in plain -/
theorem powM_pow {n : Nat} (h : 0 < n) : ∃ p, powM n = 2 ^ p ∧ 2 ^ p < 2 * n ∧ n ≤ 2 ^ p := by
  have a := powM_ge n
  unfold powM at a ⊢
  rw [if_neg (by omega)] at a ⊢
  refine ⟨_, rfl, ?_, a⟩
  by_cases h1 : n = 1
  · subst h1
    decide
  · have a := pow_bits_le (n := (n : Int) - 1) (by omega)
    have b := bits_pos (n := (n : Int) - 1) (by omega)
    obtain ⟨m, hm⟩ : ∃ m, Builtin.Int.intBits ((n : Int) - 1) = m + 1 := ⟨_, (Nat.succ_pred_eq_of_pos b).symm⟩
    rw [hm] at a ⊢
    rw [show m + 1 - 1 = m by omega] at a
    have h : ((2 ^ m : Nat) : Int) = 2 ^ m := by simp
    rw [Nat.pow_succ]
    omega
theorem pow_uniq {n p q : Nat} (h1 : n ≤ 2 ^ p) (h2 : 2 ^ p < 2 * n) (h3 : n ≤ 2 ^ q) (h4 : 2 ^ q < 2 * n) : p = q := by
  rcases Nat.lt_trichotomy p q with h | h | h
  · have := Nat.pow_le_pow_right (show 0 < 2 by decide) (show p + 1 ≤ q by omega)
    rw [Nat.pow_succ] at this
    omega
  · exact h
  · have := Nat.pow_le_pow_right (show 0 < 2 by decide) (show q + 1 ≤ p by omega)
    rw [Nat.pow_succ] at this
    omega
/-- the least power of two -/
theorem powM_is {n p : Nat} (h1 : n ≤ 2 ^ p) (h2 : 2 ^ p < 2 * n) : powM n = 2 ^ p := by
  obtain ⟨q, e, a, b⟩ := powM_pow (n := n) (by omega)
  rw [e, pow_uniq h1 h2 b a]
theorem powM_step {n : Nat} (h : 0 < n) (h2 : n < powM n) : powM (n + 1) = powM n := by
  obtain ⟨q, e, a, b⟩ := powM_pow h
  rw [e] at h2 ⊢
  exact powM_is (by omega) (by omega)
theorem powM_full {n : Nat} (h : 0 < n) (h2 : n = powM n) : powM (n + 1) = 2 * n := by
  obtain ⟨q, e, a, b⟩ := powM_pow h
  rw [powM_is (p := q + 1) (by rw [Nat.pow_succ]; omega) (by rw [Nat.pow_succ]; omega), Nat.pow_succ]
  omega
/-- a row of keys: 1 to K -/
theorem best_row {l : List Ky} {K : Nat} (h0 : 0 < K) (h1 : K ≤ 1073741824) (h : ∀ p, ins l (2 ^ p) = min (2 ^ p) K) : bestM l 32 = (powM K, K) := by
  obtain ⟨p, e, a, b⟩ := powM_pow h0
  have p31 : p < 32 := by
    rcases Nat.lt_or_ge p 32 with c | c
    · exact c
    · have := Nat.pow_le_pow_right (show 0 < 2 by decide) c
      have e2 : (2 : Nat) ^ 32 = 4294967296 := by decide
      omega
  rw [e, best_is p31 (by rw [h, Nat.min_eq_right b]; exact a) fun q q1 q2 => by
    have := Nat.pow_le_pow_right (show 0 < 2 by decide) (show p + 1 ≤ q by omega)
    rw [Nat.pow_succ] at this
    rw [h, Nat.min_eq_right (by omega)]
    omega]
  rw [h, Nat.min_eq_right b]
/-- no integers at all -/
theorem best_zero {l : List Ky} (h : ∀ p, ins l (2 ^ p) = 0) : bestM l 32 = (0, 0) := best_none fun q _ => by rw [h]; exact Nat.zero_le _
/-! ### the law's own power -/
def lawPow (many : Nat) : Nat → Nat → Nat
  | 0, found => found
  | f + 1, found => if found < many then lawPow many f (max 1 (2 * found)) else found
end Tm

set_option Elab.async false
set_option linter.all false
set_option maxRecDepth 100000
set_option autoImplicit false
set_option maxHeartbeats 4000000
namespace Tm
open PySem L2 Nu
section
variable {pl : Ky → Nat → Nat}
theorem cnt_lt (n K : Nat) : (List.range n).countP (fun i => decide (i < K)) = min n K := by
  induction n with
  | zero => simp
  | succ n ih =>
    rw [List.range_succ, List.countP_append, ih, List.countP_cons, List.countP_nil]
    by_cases h : n < K
    · rw [decide_eq_true h]
      simp
      omega
    · rw [decide_eq_false h]
      simp
      omega
theorem ins_all {l : List Ky} {n : Nat} (h : ∀ k ∈ l, outs n k = false) : ins l n = l.length := by
  unfold ins
  rw [List.countP_eq_length]
  intro k hk
  rw [h k hk]
  rfl
/-- a table that has just the keys 1 to k, in a row -/
structure Row (pl : Ky → Nat → Nat) (f : Nat → V) (k : Nat) (T : Tb) : Prop where
  w : WF pl T
  ni : NI T
  n0 : T.N = []
  a : T.A.length = powM k
  t : ∀ i : Nat, tell T (.int ((i : Int) + 1)) = if i < k then f i else .non
  o : ∀ key, (∀ i : Nat, key ≠ .int ((i : Int) + 1)) → tell T key = .non
theorem row_step {f : Nat → V} {k : Nat} {T : Tb} (hpl : ∀ k n, 0 < n → pl k n < n) (r : Row pl f k T) (hf : ∀ i, f i ≠ .non) (hk : k < 1000000) : Row pl f (k + 1) (putG pl T (.int ((k : Int) + 1)) (f k)) := by
  obtain ⟨w', _, _, _⟩ := putG_ok (pl := pl) (v := f k) (k := .int ((k : Int) + 1)) hpl r.w
  obtain ⟨t', ni'⟩ := putG_tell (v := f k) (k := .int ((k : Int) + 1)) hpl r.w r.ni
  have sizes : (putG pl T (.int ((k : Int) + 1)) (f k)).N = [] ∧ (putG pl T (.int ((k : Int) + 1)) (f k)).A.length = powM (k + 1) := by
    by_cases c : k < powM k
    · have hi : inA T.A (.int ((k : Int) + 1)) = true := by rw [inA_get, r.a, decide_eq_true c]
      have g : needG pl T (.int ((k : Int) + 1)) (f k) = false := by unfold needG; rw [hi]; rfl
      have k0 : 0 < k := by
        rcases Nat.eq_zero_or_pos k with z | z
        · rw [z] at c; exact absurd c (by decide)
        · exact z
      unfold putG put0
      rw [g, if_neg Bool.false_ne_true, hi, if_pos rfl]
      exact ⟨r.n0, by show (T.A.set _ _).length = _; rw [List.length_set, r.a, powM_step k0 c]⟩
    · have e : powM k = k := by have := powM_ge k; omega
      have hi : inA T.A (.int ((k : Int) + 1)) = false := by rw [inA_get, r.a, decide_eq_false (by omega)]
      have hn : findM T.N (.int ((k : Int) + 1)) = none := by rw [r.n0]; rfl
      have g : needG pl T (.int ((k : Int) + 1)) (f k) = true := by
        unfold needG
        rw [hi, hn, decide_eq_false (hf k), r.n0]
        rfl
      have tk : tell T (.int ((k : Int) + 1)) = .non := by rw [r.t, if_neg (Nat.lt_irrefl _)]
      have hins : ∀ n, ins (keysM T (.int ((k : Int) + 1))) n = min n (k + 1) := fun n => by
        rw [ins_keys r.w r.ni tk, ← cnt_lt n (k + 1)]
        refine List.countP_congr fun i _ => ?_
        rw [decide_eq_true_eq, decide_eq_true_eq, r.t]
        constructor
        · rintro (h | h)
          · by_cases c : i < k
            · omega
            · rw [if_neg c] at h; exact absurd rfl h
          · have := Ky.int.inj h
            omega
        · intro h
          by_cases c : i < k
          · rw [if_pos c]; exact .inl (hf i)
          · exact .inr (by congr 1; omega)
      obtain ⟨g1, g2, _⟩ := grow_room (v := f k) hpl r.w r.ni g
      have bb := best_row (l := keysM T (.int ((k : Int) + 1))) (K := k + 1) (Nat.succ_pos _) (by omega) fun p => hins _
      rw [bb] at g1 g2
      have all : ins (keysM T (.int ((k : Int) + 1))) (powM (k + 1)) = (keysM T (.int ((k : Int) + 1))).length := ins_all fun key hm => by
        have pg := powM_ge (k + 1)
        rcases (mem_keys r.w r.ni).1 hm with h | h
        · rcases ky_cases key with ⟨i, rfl⟩ | ho
          · rw [r.t] at h
            by_cases c : i < k
            · unfold outs; simp; omega
            · rw [if_neg c] at h; exact absurd rfl h
          · exact absurd (r.o key ho) h
        · rw [h]
          unfold outs
          simp
          omega
      dsimp only at g1 g2
      rw [all, Nat.sub_self] at g2
      exact ⟨List.length_eq_zero_iff.1 g2, g1⟩
  refine ⟨w', ni', sizes.1, sizes.2, fun i => ?_, fun key ho => ?_⟩
  · rw [t']
    by_cases c : i = k
    · subst c
      rw [if_pos rfl, if_pos (Nat.lt_succ_self _)]
    · rw [if_neg (fun z => c (by have := Ky.int.inj z; omega)), r.t]
      by_cases c2 : i < k
      · rw [if_pos c2, if_pos (by omega)]
      · rw [if_neg c2, if_neg (by omega)]
  · rw [t', if_neg (ho k), r.o key ho]
end
end Tm

set_option Elab.async false
set_option linter.all false
set_option maxRecDepth 100000
set_option autoImplicit false
set_option maxHeartbeats 4000000
namespace Tm
open PySem L2 Nu
section
variable {pl : Ky → Nat → Nat}
/-- a table of keys that stay among the nodes -/
structure Spr (pl : Ky → Nat → Nat) (ks : Nat → Ky) (f : Nat → V) (k : Nat) (T : Tb) : Prop where
  w : WF pl T
  ni : NI T
  nd : NDd T
  a : T.A = []
  n : T.N.length = powM k
  c : occ T.N = k
  t : ∀ i : Nat, i < k → tell T (ks i) = f i
  o : ∀ key, (∀ i : Nat, i < k → key ≠ ks i) → tell T key = .non
theorem live_occ {T : Tb} (nd : NDd T) (a : T.A = []) : live T = occ T.N := by
  unfold live occ
  rw [a, List.countP_nil, Nat.zero_add]
  refine List.countP_congr fun o ho => ?_
  cases o with
  | none => simp [liveN]
  | some n1 =>
    obtain ⟨j, hj⟩ := List.mem_iff_getElem?.1 ho
    have := nd j n1 hj
    simp [liveN, liveV, this]
theorem ins_nil (l : List Ky) : ins l 0 = 0 := by
  unfold ins
  rw [List.countP_eq_zero]
  intro k _
  cases k with
  | int i => unfold outs; simp; omega
  | str z => simp [outs]
  | bl b => simp [outs]
  | fl s t p => simp [outs]
  | inf s => simp [outs]
  | ob a m => simp [outs]
  | nt a z => simp [outs]
theorem spr_step {ks : Nat → Ky} {f : Nat → V} {k : Nat} {T : Tb} (hpl : ∀ k n, 0 < n → pl k n < n) (r : Spr pl ks f k T) (hf : f k ≠ .non) (inj : ∀ i j, ks i = ks j → i = j)
    (hs : ∀ l : List Ky, l.Nodup → (∀ key ∈ l, ∃ i, key = ks i) → ∀ p, 2 * ins l (2 ^ p) ≤ 2 ^ p) : Spr pl ks f (k + 1) (putG pl T (ks k) (f k)) := by
  obtain ⟨w', _, _, _⟩ := putG_ok (pl := pl) (v := f k) (k := ks k) hpl r.w
  obtain ⟨t', ni'⟩ := putG_tell (v := f k) (k := ks k) hpl r.w r.ni
  have tk : tell T (ks k) = .non := r.o _ fun i hi z => by have := inj _ _ z; omega
  have hi : inA T.A (ks k) = false := by
    rw [r.a]
    rcases ky_cases (ks k) with ⟨i, e⟩ | ho
    · rw [e, inA_get]
      exact decide_eq_false (Nat.not_lt_zero i)
    · exact inA_other ho
  have hn : findM T.N (ks k) = none := by
    cases h : findM T.N (ks k) with
    | none => rfl
    | some j =>
      exfalso
      obtain ⟨n1, h1, h2⟩ := findM_some h
      have t := tk
      unfold tell at t
      rw [hi, if_neg Bool.false_ne_true, tellN_of r.w ⟨j, n1, h1, h2, rfl⟩] at t
      exact r.nd j n1 h1 t
  have g0 := needG_full (v := f k) hpl r.w r.nd hf hi hn
  rw [r.c, r.n] at g0
  have sizes : (putG pl T (ks k) (f k)).A = [] ∧ (putG pl T (ks k) (f k)).N.length = powM (k + 1) ∧ occ (putG pl T (ks k) (f k)).N = k + 1 ∧ NDd (putG pl T (ks k) (f k)) := by
    by_cases c : k = powM k
    · rw [decide_eq_true c] at g0
      obtain ⟨g1, g2, g3⟩ := grow_room (v := f k) hpl r.w r.ni g0
      have bb : bestM (keysM T (ks k)) 32 = (0, 0) := best_none fun q _ => hs _ (keys_nodup r.w r.ni tk) (fun key hm => by
        rcases (mem_keys r.w r.ni).1 hm with h | h
        · by_cases e : ∃ i, i < k ∧ key = ks i
          · obtain ⟨i, _, e⟩ := e
            exact ⟨i, e⟩
          · exact absurd (r.o key fun i hi z => e ⟨i, hi, z⟩) h
        · exact ⟨k, h⟩) q
      rw [bb] at g1 g2 g3
      dsimp only at g1 g2 g3
      rw [ins_nil, Nat.sub_zero, keys_len, live_occ r.nd r.a, r.c] at g2 g3
      obtain ⟨g4, g5⟩ := g3 hf tk
      exact ⟨List.length_eq_zero_iff.1 g1, g2, g4, g5⟩
    · rw [decide_eq_false c] at g0
      have lt : k < powM k := by have := powM_ge k; omega
      have k0 : 0 < k := by
        rcases Nat.eq_zero_or_pos k with z | z
        · rw [z] at lt; exact absurd lt (by decide)
        · exact z
      obtain ⟨oc, d⟩ := put0_occ (k := ks k) hpl r.w r.nd hf g0
      obtain ⟨_, n2, a2⟩ := put1_ok hpl r.w g0
      unfold putG
      rw [g0, if_neg Bool.false_ne_true]
      refine ⟨List.length_eq_zero_iff.1 (by rw [a2, r.a]; rfl), by rw [n2, r.n, powM_step k0 lt], ?_, d⟩
      rw [oc, if_pos ⟨hi, hn⟩, r.c]
  obtain ⟨s1, s2, s3, s4⟩ := sizes
  refine ⟨w', ni', s4, s1, s2, s3, fun i hik => ?_, fun key ho => ?_⟩
  · rw [t']
    by_cases c : i = k
    · subst c
      rw [if_pos rfl]
    · rw [if_neg (fun z => c (inj _ _ z)), r.t i (by omega)]
  · rw [t', if_neg (ho k (Nat.lt_succ_self k)), r.o key fun i hik => ho i (by omega)]
theorem spr_new {ks : Nat → Ky} {f : Nat → V} : Spr pl ks f 0 ⟨List.replicate 0 .non, List.replicate (powM 0) none, powM 0⟩ :=
  ⟨wf_new _ _, ni_new _ _, ndd_new _ _, rfl, by rw [List.length_replicate], by exact occ_new _, fun i h => absurd h (Nat.not_lt_zero i), fun key _ => by
    rw [tell_new]
    rcases ky_cases key with ⟨i, rfl⟩ | ho
    · rw [tellA_get]; rfl
    · exact tellA_other ho⟩
theorem row_new {f : Nat → V} : Row pl f 0 ⟨List.replicate 0 .non, List.replicate (powM 0) none, powM 0⟩ :=
  ⟨wf_new _ _, ni_new _ _, rfl, rfl, fun i => by rw [tell_new, tellA_get, if_neg (Nat.not_lt_zero i)]; rfl, fun key ho => by rw [tell_new]; exact tellA_other ho⟩
end
end Tm

set_option Elab.async false
set_option linter.all false
set_option maxRecDepth 100000
set_option autoImplicit false
set_option maxHeartbeats 4000000
namespace Nu
open PySem PySem.Spec PyProof.Rows L2 Rd
def top (i : Nat) : Stmt := PySem.Challenge.pw_walkmade_k31_calls_and_metatables.main.body.getD i (.Pass ⟨0, 0, 0, 0⟩)
abbrev s_Float_init : Stmt := inClass (top 17) 0
abbrev s_Float_is_finite : Stmt := inClass (top 17) 4
abbrev s_Float_ratio : Stmt := inClass (top 17) 5
abbrev s_is_plain : Stmt := top 18
abbrev s_reduced : Stmt := top 19
abbrev s_fits : Stmt := top 20
abbrev s_is_number : Stmt := top 21
abbrev s_order_of : Stmt := top 23
abbrev s_place_of_numbers : Stmt := top 24
abbrev s_same : Stmt := top 26
/-! ### floats as data -/
inductive Fl where
  | fin (s t p : Int)
  | inf (s : Int)
  | nan
  deriving DecidableEq
def Fl.s : Fl → Int
  | .fin s _ _ => s
  | .inf s => s
  | .nan => 1
def Fl.t : Fl → V
  | .fin _ t _ => .int t
  | .inf _ => .str "inf"
  | .nan => .str "nan"
def Fl.p : Fl → Int
  | .fin _ _ p => p
  | _ => 0
def flds (s : Int) (t : V) (p : Int) : List (Str × V) := putF "power" (.int p) (putF "top" t (putF "sign" (.int s) []))
theorem ne_st : ¬ ("sign" : Str) = "top" := by decide +kernel
theorem ne_sp : ¬ ("sign" : Str) = "power" := by decide +kernel
theorem ne_tp : ¬ ("top" : Str) = "power" := by decide +kernel
theorem flds_s (s : Int) (t : V) (p : Int) : (flds s t p).lookup ("sign" : Str) = some (.int s) := by
  unfold flds
  rw [lookup_putF, if_neg ne_sp, lookup_putF, if_neg ne_st, lookup_putF, if_pos rfl]
theorem flds_t (s : Int) (t : V) (p : Int) : (flds s t p).lookup ("top" : Str) = some t := by
  unfold flds
  rw [lookup_putF, if_neg ne_tp, lookup_putF, if_pos rfl]
theorem flds_p (s : Int) (t : V) (p : Int) : (flds s t p).lookup ("power" : Str) = some (.int p) := by
  unfold flds
  rw [lookup_putF, if_pos rfl]
theorem flds_no (s : Int) (t : V) (p : Int) {m : Str} (h1 : ¬ m = "sign") (h2 : ¬ m = "top") (h3 : ¬ m = "power") : (flds s t p).lookup m = none := by
  unfold flds
  rw [lookup_putF, if_neg h3, lookup_putF, if_neg h2, lookup_putF, if_neg h1]
  rfl
/-- the float f stands at a -/
def FlAt (C : Addr) (H : Hp) (a : Addr) (f : Fl) : Prop := ∃ dx, H a = some (.ins C dx (flds f.s f.t f.p))
theorem FlAt.same {C : Addr} {H H' : Hp} {a : Addr} {f : Fl} (h : FlAt C H a f) (s : Same H H') : FlAt C H' a f := let ⟨dx, e⟩ := h; ⟨dx, s _ _ e⟩
/-- a float that stands is well made -/
def Fl.ok : Fl → Prop
  | .fin s t p => (s = 1 ∨ s = -1) ∧ 0 ≤ t ∧ t < 9007199254740992 ∧ (t = 0 → p = 0) ∧ (t ≠ 0 → -1074 ≤ p ∧ bits t + p ≤ 1024 ∧ t % 2 = 1)
  | .inf s => s = 1 ∨ s = -1
  | .nan => True
/-! ### what the text has -/
structure ClsTy (K : PySem.W.Frag) (C : Addr) : Prop where
  ha : PySem.W.findIn K (.ref C) "__class__" = some (some (.builtin "object.__class__"))
  hn : PySem.W.specialIn K (.builtin "object.__class__") "__get__" = some (some (.builtin "getset_descriptor.__get__"))
  htk : PySem.W.takesIn K (.builtin "object.__class__") = some true
  hm : PySem.W.mroIn K C (.type "object") = some true
structure All (K : PySem.W.Frag) (mg : Str → Option Value) (CF : Addr) : Prop where
  b_isinstance : mg "isinstance" = none
  b_int : mg "int" = none
  b_str : mg "str" = none
  b_bool : mg "bool" = none
  b_abs : mg "abs" = none
  b_max : mg "max" = none
  b_min : mg "min" = none
  b_divmod : mg "divmod" = none
  b_len : mg "len" = none
  b_range : mg "range" = none
  c_LEAST : ∃ t, mg "LEAST" = some (.int (-9223372036854775808) t)
  c_MOST : ∃ t, mg "MOST" = some (.int 9223372036854775807 t)
  c_ROOM : ∃ t, mg "ROOM" = some (.int 9007199254740992 t)
  c_LOWEST : ∃ t, mg "LOWEST" = some (.int (-1074) t)
  c_TOO_GREAT : ∃ t, mg "TOO_GREAT" = some (.int 1024 t)
  g_Float : mg "Float" = some (.ref CF)
  l_Float : Cls K CF
  y_Float : ClsTy K CF
  n_sign : NoAttr K CF "sign"
  n_top : NoAttr K CF "top"
  n_power : NoAttr K CF "power"
  i_Fint : PySem.W.kitOne K (.ref CF) (.type "int") = some false
  i_Fbool : PySem.W.kitOne K (.ref CF) (.type "bool") = some false
  i_Fstr : PySem.W.kitOne K (.ref CF) (.type "str") = some false
  i_intF : PySem.W.kitOne K (.type "int") (.ref CF) = some false
  i_boolF : PySem.W.kitOne K (.type "bool") (.ref CF) = some false
  i_strF : PySem.W.kitOne K (.type "str") (.ref CF) = some false
  i_nonF : PySem.W.kitOne K (.type "NoneType") (.ref CF) = some false
  x_init : TxC K mg "Float" CF "Float.__init__" s_Float_init ["self", "sign", "top", "power"]
  x_is_finite : TxM K CF "is_finite" "Float.is_finite" s_Float_is_finite ["self"]
  x_ratio : TxM K CF "ratio" "Float.ratio" s_Float_ratio ["self"]
  x_is_plain : Tx K mg "is_plain" "is_plain" s_is_plain ["number"]
  x_reduced : Tx K mg "reduced" "reduced" s_reduced ["top", "power"]
  x_fits : Tx K mg "fits" "fits" s_fits ["top", "power"]
  x_is_number : Tx K mg "is_number" "is_number" s_is_number ["thing"]
  x_place : Tx K mg "place_of_numbers" "place_of" s_place_of_numbers ["number"]
  x_order : Tx K mg "order_of" "order_of" s_order_of ["one", "other"]
  x_same : Tx K mg "same" "same" s_same ["one", "other"]
/-! ### what isinstance says of a value -/
def Says (K : PySem.W.Frag) (CF : Addr) (H : Hp) (x : V) (pl bo st fl : Bool) : Prop :=
  ∃ t, TyX K H x t ∧ PySem.W.kitOne K t (.type "int") = some (pl || bo) ∧ PySem.W.kitOne K t (.type "bool") = some bo ∧ PySem.W.kitOne K t (.type "str") = some st ∧ PySem.W.kitOne K t (.ref CF) = some fl
local macro_rules | `(tactic| walk_at "hp") => `(tactic| first | assumption | (refine same_get ?sm ?_; (case sm => assumption); walk_at "hp"))
local macro_rules | `(tactic| walk_at "rd") => `(tactic| first
  | (with_reducible show Ends.nx _ _ _; with_reducible refine w_nx ?_)
  | with_reducible refine w_rt ?_
  | (with_reducible show Ends.bk _ _ _; with_reducible refine w_bk ?_)
  | (with_reducible show Ends.ct _ _ _; with_reducible refine w_ct ?_)
  | with_reducible refine w_seq ?_
  | with_reducible refine w_next ?_
  | with_reducible refine w_ret ?_
  | with_reducible refine w_ifS ?_
  | with_reducible refine w_asg ?_
  | with_reducible refine w_name ?_
  | with_reducible refine w_par ?_
  | with_reducible refine w_parI ?_
  | with_reducible refine w_ii ?_
  | with_reducible refine w_i1 ?_
  | with_reducible refine w_drop ?_
  | with_reducible refine w_sFld ?_
  | ((with_reducible refine' w_var ?rdh ?_); (case rdh => exact rfl))
  | with_reducible refine w_c ?_
  | with_reducible refine w_op ?_
  | with_reducible refine w_un ?_
  | with_reducible refine w_I0 ?_
  | with_reducible refine w_U ?_
  | with_reducible refine w_bits ?_
  | with_reducible refine w_bitsI ?_
  | with_reducible refine w_tup ?_
  | with_reducible refine w_lst ?_
  | with_reducible refine w_nil ?_
  | with_reducible refine w_cons ?_
  | with_reducible refine w_fld ?_
  | with_reducible refine w_call ?_
  | with_reducible refine w_make ?_
  | with_reducible refine w_makeD ?_
  | with_reducible refine w_nn ?_
  | with_reducible refine w_subB ?_
  | with_reducible refine w_meth ?_
  | with_reducible refine w_cb ?_
  | with_reducible refine w_test ?_
  | with_reducible refine w_B ?_
  | with_reducible refine w_bl ?_
  | with_reducible refine w_andV ?_
  | with_reducible refine w_orV ?_
  | with_reducible refine w_notV ?_
  | with_reducible refine w_and ?_
  | with_reducible refine w_or ?_
  | with_reducible refine w_not ?_
  | with_reducible refine w_if ?_
  | with_reducible refine w_gnil ?_
  | with_reducible refine w_gcons ?_
  | with_reducible refine iT ?_
  | with_reducible refine iF ?_
  | with_reducible refine w_eqI ?_
  | with_reducible refine w_neI ?_
  | with_reducible refine w_eqS ?_
  | with_reducible refine w_eqIS ?_
  | with_reducible refine w_eqSI ?_)

section
variable {P : Program} {w : World} {K : PySem.W.Frag} {mg : Str → Option Value} {base : Heap} {CF : Addr}
theorem says_int (T : All K mg CF) {H : Hp} {i : Int} : Says K CF H (.int i) true false false false :=
  ⟨_, .base (.int i), kit_ty (by decide +kernel), kit_ty (by decide +kernel), kit_ty (by decide +kernel), T.i_intF⟩
theorem says_bl (T : All K mg CF) {H : Hp} {b : Bool} : Says K CF H (.bl b) false true false false :=
  ⟨_, .base (.bl b), kit_ty (by decide +kernel), kit_ty (by decide +kernel), kit_ty (by decide +kernel), T.i_boolF⟩
theorem says_str (T : All K mg CF) {H : Hp} {x : Str} : Says K CF H (.str x) false false true false :=
  ⟨_, .base (.str x), kit_ty (by decide +kernel), kit_ty (by decide +kernel), kit_ty (by decide +kernel), T.i_strF⟩
theorem says_non (T : All K mg CF) {H : Hp} : Says K CF H .non false false false false :=
  ⟨_, .base .non, kit_ty (by decide +kernel), kit_ty (by decide +kernel), kit_ty (by decide +kernel), T.i_nonF⟩
theorem kit_self (K : PySem.W.Frag) (C : Addr) : PySem.W.kitOne K (.ref C) (.ref C) = some true := by
  unfold PySem.W.kitOne
  rw [if_pos (by simp)]
theorem ty_ins {C : Addr} (c : Cls K C) (y : ClsTy K C) {H : Hp} {a dx : Addr} {fs : List (Str × V)} (h : H a = some (.ins C dx fs)) : TyX K H (.ref a) (.ref C) := .base (.ins h c y.ha y.hn y.htk y.hm)
theorem says_fl (T : All K mg CF) {H : Hp} {a dx : Addr} {fs : List (Str × V)} (h : H a = some (.ins CF dx fs)) : Says K CF H (.ref a) false false false true :=
  ⟨_, ty_ins T.l_Float T.y_Float h, T.i_Fint, T.i_Fbool, T.i_Fstr, kit_self K CF⟩
/-! ### is_plain -/
def spPlain (K : PySem.W.Frag) (CF : Addr) : Sp := fun vs H Q _ => ∃ x pl bo st fl, vs = [x] ∧ Says K CF H x pl bo st fl ∧ Q (.bl ((pl || bo) && !bo)) H
theorem sc_is_plain : FnScope ["number"] ["number"] (defScope s_is_plain) := ⟨rfl, rfl, rfl, by decide +kernel, rfl, by decide +kernel, by decide +kernel⟩
theorem ok_is_plain (T : All K mg CF) : Kn P w K mg base CX0 1 "is_plain" ["number"] (spPlain K CF) := by
  refine T.x_is_plain.kn fun f fd F => ?_
  refine F.ok sc_is_plain (fun vs H Q E h => ?_) (fun cdv A outer s H vs Q E hr h => ?_)
  · obtain ⟨x, pl, bo, st, fl, rfl, _⟩ := h
    rfl
  · obtain ⟨x, pl, bo, st, fl, rfl, ⟨t, ty, i1, i2, i3, i4⟩, q⟩ := h
    refine ⟨_, (pss_one (ps_ret (pe_and (pe_callB call_isi (by rfl) T.b_isinstance boot_isinstance (pa_cons (pv 0) (pa_cons (pe_bltn (by rfl) T.b_int boot_int (rty _)) pa_nil))) (pe_one (pe_not (pe_callB call_isi (by rfl) T.b_isinstance boot_isinstance (pa_cons (pv 0) (pa_cons (pe_bltn (by rfl) T.b_bool boot_bool (rty _)) pa_nil)))))))), ?_⟩
    repeat walk_at "rd"
    refine w_isi (.ty "int") ty i1 ?_
    repeat walk_at "rd"
    refine iB (fun e => ?_) (fun e => ?_)
    · repeat walk_at "rd"
      refine w_isi (.ty "bool") ty i2 ?_
      repeat walk_at "rd"
      rw [e] at q
      exact q
    · repeat walk_at "rd"
      rw [e] at q
      exact q
/-! ### reduced -/
def redV : V → Int → V × Int
  | .int t, p => (.int (red t p).1, (red t p).2)
  | v, _ => (v, 0)
def spReduced : Sp := fun vs H Q _ => ∃ tv p, vs = [tv, .int p] ∧ ((∃ t, tv = .int t ∧ 0 ≤ t) ∨ tv = .str "inf" ∨ tv = .str "nan") ∧
  ∀ q H', Same H H' → H' q = some (.tup [(redV tv p).1, .int (redV tv p).2]) → Q (.ref q) H'
theorem sc_reduced : FnScope ["top", "power", "less"] ["top", "power"] (defScope s_reduced) := ⟨rfl, rfl, rfl, by decide +kernel, rfl, by decide +kernel, by decide +kernel⟩
theorem ok_reduced (T : All K mg CF) : Kn P w K mg base CX0 1 "reduced" ["top", "power"] spReduced := by
  refine T.x_reduced.kn fun f fd F => ?_
  refine F.ok sc_reduced (fun vs H Q E h => ?_) (fun cdv A outer s H vs Q E hr h => ?_)
  · obtain ⟨tv, p, rfl, _⟩ := h
    rfl
  · obtain ⟨tv, p, rfl, c, q⟩ := h
    refine ⟨_, (pss_cons (ps_if (PW.pt (pw_or (pt_cmpR op_in_seq (pv 0) (pe_tup (pa_cons pe_str (pa_cons pe_str pa_nil))) rfl) (pw_or1 (pt_cmpR op_eq (pv 0) pe_int (nomark _))))) (pss_one (ps_ret (pe_tup (pa_cons (pv 0) (pa_cons pe_int pa_nil))))) pss_nil)
      (pss_cons (ps_set (i := 2) sc_reduced.nd rfl (Or.inl rfl) (pe_op op_sub (pe_bits (pe_op op_and (pv 0) (pe_op op_sub pe_int (pv 0)))) pe_int))
      (pss_one (ps_ret (pe_tup (pa_cons (pe_op op_shr (pv 0) (pv 2)) (pa_cons (pe_op op_add (pv 1) (pv 2)) pa_nil))))))), ?_⟩
    repeat walk_at "rd"
    refine w_tup2 fun a1 H1 s1 n1 h1 => ?_
    rcases c with ⟨t, rfl, ht⟩ | rfl | rfl
    · refine w_in h1 rfl rfl ?_
      repeat walk_at "rd"
      refine iF ?_
      repeat walk_at "rd"
      refine iD (fun z => ?_) (fun z => ?_)
      · repeat walk_at "rd"
        refine w_tup2 fun a2 H2 s2 n2 h2 => ?_
        repeat walk_at "rd"
        refine q a2 H2 (s1.trans s2) ?_
        subst z
        show H2 a2 = some (.tup [.int (red 0 p).1, .int (red 0 p).2])
        rw [red_zero]
        exact h2
      · repeat walk_at "rd"
        refine w_I (by obtain ⟨k, m, _, _, e⟩ := less_spec (t := t) (by omega); show 0 ≤ less t; omega) ?_
        repeat walk_at "rd"
        refine w_tup2 fun a2 H2 s2 n2 h2 => ?_
        repeat walk_at "rd"
        refine q a2 H2 (s1.trans s2) ?_
        show H2 a2 = some (.tup [.int (red t p).1, .int (red t p).2])
        unfold red
        rw [if_neg z]
        exact h2
    all_goals
      refine w_in h1 rfl rfl ?_
      repeat walk_at "rd"
      refine iT ?_
      repeat walk_at "rd"
      refine w_tup2 fun a2 H2 s2 n2 h2 => ?_
      repeat walk_at "rd"
      exact q a2 H2 (s1.trans s2) h2
/-! ### fits -/
def spFits : Sp := fun vs H Q _ => ∃ t p, vs = [.int t, .int p] ∧ Q (.bl (fitsB t p)) H
theorem sc_fits : FnScope ["top", "power"] ["top", "power"] (defScope s_fits) := ⟨rfl, rfl, rfl, by decide +kernel, rfl, by decide +kernel, by decide +kernel⟩
theorem ok_fits (T : All K mg CF) : Kn P w K mg base CX0 1 "fits" ["top", "power"] spFits := by
  refine T.x_fits.kn fun f fd F => ?_
  refine F.ok sc_fits (fun vs H Q E h => ?_) (fun cdv A outer s H vs Q E hr h => ?_)
  · obtain ⟨t, p, rfl, _⟩ := h
    rfl
  · obtain ⟨t, p, rfl, q⟩ := h
    refine ⟨_, (pss_one (ps_ret (pe_or (pe_and (pe_cmpR op_lt (pv 0) (pgE "ROOM" T.c_ROOM) (nomark _)) (pe_and (pe_cmpR op_ge (pv 1) (pgE "LOWEST" T.c_LOWEST) (nomark _)) (pe_one (pe_cmpR op_le (pe_op op_add (pe_bits (pv 0)) (pv 1)) (pgE "TOO_GREAT" T.c_TOO_GREAT) (nomark _))))) (pe_one (pe_cmpR op_eq (pv 0) pe_int (nomark _)))))), ?_⟩
    unfold fitsB at q
    repeat walk_at "rd"
    refine iD (fun c1 => ?_) (fun c1 => ?_)
    · rw [decide_eq_true c1, Bool.true_and] at q
      repeat walk_at "rd"
      refine iD (fun c2 => ?_) (fun c2 => ?_)
      · rw [decide_eq_true c2, Bool.true_and] at q
        repeat walk_at "rd"
        refine iD (fun c3 => ?_) (fun c3 => ?_)
        · rw [decide_eq_true (show bits t + p ≤ 1024 from c3), Bool.true_or] at q
          repeat walk_at "rd"
          exact q
        · rw [decide_eq_false (show ¬ bits t + p ≤ 1024 from c3), Bool.false_or] at q
          repeat walk_at "rd"
          exact q
      · rw [decide_eq_false c2, Bool.false_and, Bool.false_or] at q
        repeat walk_at "rd"
        exact q
    · rw [decide_eq_false c1, Bool.false_and, Bool.false_or] at q
      repeat walk_at "rd"
      exact q
theorem cshl {i j : Int} (h : bits i ≤ 10000) (h0 : 0 ≤ j) (h1 : j ≤ 10000) : CShl i j := by
  refine ⟨h0, ?_⟩
  have e : (2 : Int) ^ 27 = 134217728 := by decide
  rw [e]
  have : bits i = (Builtin.Int.intBits i : Nat) := rfl
  omega
theorem cdivw {i j : Int} (h : 0 < j) (hb : bits j ≤ 8000) : CDivW i j := by
  have := (bits_le (n := j) (k := 8000)).1 (by omega)
  exact wide_div h this (by decide) (by decide)
theorem cdivp {i j : Int} (h : 0 < j) (hb : bits i ≤ 4000) : CDivP i j := by
  refine divp_ok h ?_
  have : bits i = (Builtin.Int.intBits i : Nat) := rfl
  omega
theorem cmulx {i j : Int} (h : bits i ≤ 100000) (hb : bits j ≤ 100000) : CMulX i j := by
  unfold CMulX
  have : bits i = (Builtin.Int.intBits i : Nat) := rfl
  have : bits j = (Builtin.Int.intBits j : Nat) := rfl
  omega
end
end Nu

set_option Elab.async false
set_option linter.all false
set_option maxRecDepth 100000
set_option autoImplicit false
set_option maxHeartbeats 4000000
namespace Nu
open PySem PySem.Spec PyProof.Rows L2 Rd
local macro_rules | `(tactic| walk_at "hp") => `(tactic| first | assumption | (refine same_get ?sm ?_; (case sm => assumption); walk_at "hp"))
local macro_rules | `(tactic| walk_at "rd") => `(tactic| first
  | (with_reducible show Ends.nx _ _ _; with_reducible refine w_nx ?_)
  | with_reducible refine w_rt ?_
  | (with_reducible show Ends.bk _ _ _; with_reducible refine w_bk ?_)
  | (with_reducible show Ends.ct _ _ _; with_reducible refine w_ct ?_)
  | with_reducible refine w_seq ?_
  | with_reducible refine w_next ?_
  | with_reducible refine w_ret ?_
  | with_reducible refine w_ifS ?_
  | with_reducible refine w_asg ?_
  | with_reducible refine w_name ?_
  | with_reducible refine w_par ?_
  | with_reducible refine w_parI ?_
  | with_reducible refine w_ii ?_
  | with_reducible refine w_i1 ?_
  | with_reducible refine w_drop ?_
  | with_reducible refine w_sFld ?_
  | ((with_reducible refine' w_var ?rdh ?_); (case rdh => exact rfl))
  | with_reducible refine w_c ?_
  | with_reducible refine w_op ?_
  | with_reducible refine w_un ?_
  | with_reducible refine w_I0 ?_
  | with_reducible refine w_U ?_
  | with_reducible refine w_bits ?_
  | with_reducible refine w_bitsI ?_
  | with_reducible refine w_tup ?_
  | with_reducible refine w_lst ?_
  | with_reducible refine w_nil ?_
  | with_reducible refine w_cons ?_
  | with_reducible refine w_fld ?_
  | with_reducible refine w_call ?_
  | with_reducible refine w_make ?_
  | with_reducible refine w_makeD ?_
  | with_reducible refine w_nn ?_
  | with_reducible refine w_subB ?_
  | with_reducible refine w_meth ?_
  | with_reducible refine w_cb ?_
  | with_reducible refine w_test ?_
  | with_reducible refine w_B ?_
  | with_reducible refine w_bl ?_
  | with_reducible refine w_andV ?_
  | with_reducible refine w_orV ?_
  | with_reducible refine w_notV ?_
  | with_reducible refine w_and ?_
  | with_reducible refine w_or ?_
  | with_reducible refine w_not ?_
  | with_reducible refine w_if ?_
  | with_reducible refine w_gnil ?_
  | with_reducible refine w_gcons ?_
  | with_reducible refine iT ?_
  | with_reducible refine iF ?_
  | with_reducible refine w_eqI ?_
  | with_reducible refine w_neI ?_
  | with_reducible refine w_eqS ?_
  | with_reducible refine w_eqIS ?_
  | with_reducible refine w_eqSI ?_)

section
variable {P : Program} {w : World} {K : PySem.W.Frag} {mg : Str → Option Value} {base : Heap} {CF : Addr}
/-! ### is_finite, ratio -/
def Fl.isFin : Fl → Bool
  | .fin _ _ _ => true
  | _ => false
theorem Fl.ty (f : Fl) (K : PySem.W.Frag) (H : Hp) : ∃ t, TyX K H f.t t ∧ PySem.W.kitOne K t (.type "int") = some f.isFin := by
  cases f with
  | fin s t p => exact ⟨_, .base (.int t), kit_ty (r := true) (by decide +kernel)⟩
  | inf s => exact ⟨_, .base (.str _), kit_ty (r := false) (by decide +kernel)⟩
  | nan => exact ⟨_, .base (.str _), kit_ty (r := false) (by decide +kernel)⟩
def spFinite (CF : Addr) : Sp := fun vs H Q _ => ∃ a f, vs = [.ref a] ∧ FlAt CF H a f ∧ Q (.bl f.isFin) H
theorem sc_Float_is_finite : FnScope ["self"] ["self"] (defScope s_Float_is_finite) := ⟨rfl, rfl, rfl, by decide +kernel, rfl, by decide +kernel, by decide +kernel⟩
theorem ok_is_finite (T : All K mg CF) : KnM P w K mg base CX0 1 CF "is_finite" ["self"] (spFinite CF) := by
  refine T.x_is_finite.kn fun f fd F => ?_
  refine F.ok sc_Float_is_finite (fun vs H Q E h => ?_) (fun cdv A outer s H vs Q E hr h => ?_)
  · obtain ⟨a, f, rfl, _⟩ := h
    rfl
  · obtain ⟨a, f, rfl, ⟨dx, h1⟩, q⟩ := h
    refine ⟨_, (pss_one (ps_ret (pe_callB call_isi (by rfl) T.b_isinstance boot_isinstance (pa_cons (pe_fld (pv 0) rfl) (pa_cons (pe_bltn (by rfl) T.b_int boot_int (rty _)) pa_nil))))), ?_⟩
    repeat walk_at "rd"
    refine w_fldI h1 T.l_Float T.n_top (flds_t _ _ _) ?_
    repeat walk_at "rd"
    obtain ⟨t, ty, k⟩ := f.ty K H
    refine w_isi (.ty "int") ty k ?_
    repeat walk_at "rd"
    exact q
/-- top and bottom of a finite float -/
def ratT (s t p : Int) : Int := if p < 0 then s * t else s * (t * 2 ^ p.toNat)
def ratB (p : Int) : Int := if p < 0 then 2 ^ (0 - p).toNat else 1
def spRatio (CF : Addr) : Sp := fun vs H Q _ => ∃ a s t p, vs = [.ref a] ∧ FlAt CF H a (.fin s t p) ∧ (Fl.fin s t p).ok ∧
  ∀ q H', Same H H' → H q = none → H' q = some (.tup [.int (ratT s t p), .int (ratB p)]) → Q (.ref q) H'
theorem ok_bounds {s t p : Int} (h : (Fl.fin s t p).ok) : bits s ≤ 1 ∧ bits t ≤ 53 ∧ -1074 ≤ p ∧ p ≤ 1023 ∧ 0 ≤ t ∧ bits t + p ≤ 1024 := by
  obtain ⟨hs, h0, h1, h2, h3⟩ := h
  have b1 : bits s ≤ 1 := by rcases hs with rfl | rfl <;> decide
  have b2 : bits t ≤ ((53 : Nat) : Int) := (bits_lt_pow h0).2 (by rw [← pow53]; exact h1)
  by_cases z : t = 0
  · have := h2 z
    subst z
    rw [bits_zero]
    omega
  · obtain ⟨h4, h5, h6⟩ := h3 z
    have : 0 < Builtin.Int.intBits t := bits_pos (by omega)
    have e : bits t = (Builtin.Int.intBits t : Nat) := rfl
    omega
theorem sc_Float_ratio : FnScope ["self"] ["self"] (defScope s_Float_ratio) := ⟨rfl, rfl, rfl, by decide +kernel, rfl, by decide +kernel, by decide +kernel⟩
theorem ok_ratio (T : All K mg CF) : KnM P w K mg base CX0 1 CF "ratio" ["self"] (spRatio CF) := by
  refine T.x_ratio.kn fun f fd F => ?_
  refine F.ok sc_Float_ratio (fun vs H Q E h => ?_) (fun cdv A outer s H vs Q E hr h => ?_)
  · obtain ⟨a, s, t, p, rfl, _⟩ := h
    rfl
  · obtain ⟨a, s, t, p, rfl, ⟨dx, h1⟩, ok, q⟩ := h
    obtain ⟨bs, bt, p1, p2, t0, tp⟩ := ok_bounds ok
    refine ⟨_, (pss_cons (ps_if (pt_cmpR op_lt (pe_fld (pv 0) rfl) pe_int (nomark _)) (pss_one (ps_ret (pe_tup (pa_cons (pe_op op_mulX (pe_fld (pv 0) rfl) (pe_fld (pv 0) rfl)) (pa_cons (pe_op op_shlW pe_int (pe_op op_sub pe_int (pe_fld (pv 0) rfl))) pa_nil))))) pss_nil)
      (pss_one (ps_ret (pe_tup (pa_cons (pe_op op_mulX (pe_fld (pv 0) rfl) (pe_op op_shlW (pe_fld (pv 0) rfl) (pe_fld (pv 0) rfl))) (pa_cons pe_int pa_nil)))))), ?_⟩
    repeat walk_at "rd"
    refine w_fldI h1 T.l_Float T.n_power (flds_p _ _ _) ?_
    repeat walk_at "rd"
    refine iD (fun c => ?_) (fun c => ?_)
    · have c' : p < 0 := c
      repeat walk_at "rd"
      refine w_fldI h1 T.l_Float T.n_sign (flds_s _ _ _) ?_
      repeat walk_at "rd"
      refine w_fldI h1 T.l_Float T.n_top (flds_t _ _ _) ?_
      refine w_I (cmulx (i := s) (j := t) (by omega) (by omega)) ?_
      repeat walk_at "rd"
      refine w_fldI h1 T.l_Float T.n_power (flds_p _ _ _) ?_
      repeat walk_at "rd"
      refine w_I (cshl (i := 1) (j := 0 - p) (by decide) (by omega) (by omega)) ?_
      repeat walk_at "rd"
      refine w_tup2 fun a2 H2 s2 n2 h2 => ?_
      repeat walk_at "rd"
      refine q a2 H2 s2 n2 ?_
      rw [h2]
      unfold ratT ratB
      rw [if_pos c', if_pos c', Int.one_mul] <;> rfl
    · have c' : ¬ p < 0 := c
      repeat walk_at "rd"
      refine w_fldI h1 T.l_Float T.n_sign (flds_s _ _ _) ?_
      repeat walk_at "rd"
      refine w_fldI h1 T.l_Float T.n_top (flds_t _ _ _) ?_
      repeat walk_at "rd"
      refine w_fldI h1 T.l_Float T.n_power (flds_p _ _ _) ?_
      refine w_I (cshl (i := t) (j := p) (by omega) (by omega) (by omega)) ?_
      refine w_I (cmulx (i := s) (j := t * 2 ^ p.toNat) (by omega) (by have := bits_mul_pow t0 p.toNat; omega)) ?_
      repeat walk_at "rd"
      refine w_tup2 fun a2 H2 s2 n2 h2 => ?_
      repeat walk_at "rd"
      refine q a2 H2 s2 n2 ?_
      rw [h2]
      unfold ratT ratB
      rw [if_neg c', if_neg c'] <;> rfl
/-! ### is_number, to_float -/
def spNumber (K : PySem.W.Frag) (CF : Addr) : Sp := fun vs H Q _ => ∃ x pl bo st fl, vs = [x] ∧ Says K CF H x pl bo st fl ∧ Q (.bl (fl || ((pl || bo) && !bo))) H
theorem sc_is_number : FnScope ["thing"] ["thing"] (defScope s_is_number) := ⟨rfl, rfl, rfl, by decide +kernel, rfl, by decide +kernel, by decide +kernel⟩
theorem ok_is_number (T : All K mg CF) (k_is_plain : Kn P w K mg base CX0 1 "is_plain" ["number"] (spPlain K CF)) : Kn P w K mg base CX0 2 "is_number" ["thing"] (spNumber K CF) := by
  refine T.x_is_number.kn fun f fd F => ?_
  refine F.ok sc_is_number (fun vs H Q E h => ?_) (fun cdv A outer s H vs Q E hr h => ?_)
  · obtain ⟨x, pl, bo, st, fl, rfl, _⟩ := h
    rfl
  · obtain ⟨x, pl, bo, st, fl, rfl, sy, q⟩ := h
    obtain ⟨t, ty, i1, i2, i3, i4⟩ := id sy
    refine ⟨_, (pss_one (ps_ret (pe_or (pe_callB call_isi (by rfl) T.b_isinstance boot_isinstance (pa_cons (pv 0) (pa_cons (pg "Float" T.g_Float (rref _)) pa_nil))) (pe_one (pk k_is_plain hr (pa_cons (pv 0) pa_nil)))))), ?_⟩
    repeat walk_at "rd"
    refine w_isi (.own CF) ty i4 ?_
    repeat walk_at "rd"
    refine iB (fun e => ?_) (fun e => ?_)
    · rw [e] at q
      repeat walk_at "rd"
      exact q
    · rw [e] at q
      repeat walk_at "rd"
      exact ⟨x, pl, bo, st, fl, rfl, sy, q⟩
theorem lk_fin (s : Int) (t : V) (p : Int) : (flds s t p).lookup ("is_finite" : Str) = none := flds_no s t p (by decide +kernel) (by decide +kernel) (by decide +kernel)
theorem lk_rat (s : Int) (t : V) (p : Int) : (flds s t p).lookup ("ratio" : Str) = none := flds_no s t p (by decide +kernel) (by decide +kernel) (by decide +kernel)
end
end Nu

set_option Elab.async false
set_option linter.all false
set_option maxRecDepth 100000
set_option autoImplicit false
set_option maxHeartbeats 4000000
namespace Nu
open PySem PySem.Spec PyProof.Rows L2 Rd
local macro_rules | `(tactic| walk_at "hp") => `(tactic| first | assumption | (refine same_get ?sm ?_; (case sm => assumption); walk_at "hp"))
local macro_rules | `(tactic| walk_at "rd") => `(tactic| first
  | (with_reducible show Ends.nx _ _ _; with_reducible refine w_nx ?_)
  | with_reducible refine w_rt ?_
  | (with_reducible show Ends.bk _ _ _; with_reducible refine w_bk ?_)
  | (with_reducible show Ends.ct _ _ _; with_reducible refine w_ct ?_)
  | with_reducible refine w_seq ?_
  | with_reducible refine w_next ?_
  | with_reducible refine w_ret ?_
  | with_reducible refine w_ifS ?_
  | with_reducible refine w_asg ?_
  | with_reducible refine w_name ?_
  | with_reducible refine w_par ?_
  | with_reducible refine w_parI ?_
  | with_reducible refine w_ii ?_
  | with_reducible refine w_i1 ?_
  | with_reducible refine w_drop ?_
  | with_reducible refine w_sFld ?_
  | ((with_reducible refine' w_var ?rdh ?_); (case rdh => exact rfl))
  | with_reducible refine w_c ?_
  | with_reducible refine w_op ?_
  | with_reducible refine w_un ?_
  | with_reducible refine w_I0 ?_
  | with_reducible refine w_U ?_
  | with_reducible refine w_bits ?_
  | with_reducible refine w_bitsI ?_
  | with_reducible refine w_tup ?_
  | with_reducible refine w_lst ?_
  | with_reducible refine w_nil ?_
  | with_reducible refine w_cons ?_
  | with_reducible refine w_fld ?_
  | with_reducible refine w_call ?_
  | with_reducible refine w_make ?_
  | with_reducible refine w_makeD ?_
  | with_reducible refine w_nn ?_
  | with_reducible refine w_subB ?_
  | with_reducible refine w_meth ?_
  | with_reducible refine w_cb ?_
  | with_reducible refine w_test ?_
  | with_reducible refine w_B ?_
  | with_reducible refine w_bl ?_
  | with_reducible refine w_andV ?_
  | with_reducible refine w_orV ?_
  | with_reducible refine w_notV ?_
  | with_reducible refine w_and ?_
  | with_reducible refine w_or ?_
  | with_reducible refine w_not ?_
  | with_reducible refine w_if ?_
  | with_reducible refine w_gnil ?_
  | with_reducible refine w_gcons ?_
  | with_reducible refine iT ?_
  | with_reducible refine iF ?_
  | with_reducible refine w_eqI ?_
  | with_reducible refine w_neI ?_
  | with_reducible refine w_eqS ?_
  | with_reducible refine w_eqIS ?_
  | with_reducible refine w_eqSI ?_)

/-! ### numbers -/
inductive Nm where
  | int (i : Int)
  | fl (f : Fl)
def NmAt (CF : Addr) (H : Hp) (x : V) : Nm → Prop
  | .int i => x = .int i ∧ bits i ≤ 70
  | .fl f => ∃ a, x = .ref a ∧ FlAt CF H a f ∧ f.ok
theorem NmAt.same {CF : Addr} {H H' : Hp} {x : V} : ∀ {n : Nm}, NmAt CF H x n → Same H H' → NmAt CF H' x n
  | .int _, h, _ => h
  | .fl _, ⟨a, e, h, o⟩, s => ⟨a, e, h.same s, o⟩
def place : Nm → Option (Int × Int)
  | .int i => some (i, 1)
  | .fl (.fin s t p) => some (ratT s t p, ratB p)
  | .fl (.inf s) => some (s * 2 ^ 1025, 1)
  | .fl .nan => none
theorem bits_mul (a b : Int) : bits (a * b) ≤ bits a + bits b := by
  have := intBits_mul_le (x := a) (y := b) (m := Builtin.Int.intBits a) (n := Builtin.Int.intBits b) (Nat.le_refl _) (Nat.le_refl _)
  unfold bits
  omega
theorem bits_pow (k : Nat) : bits (2 ^ k) = k + 1 := bits_eq (Int.le_refl _) (by rw [Int.pow_succ]; have := pow_pos2 k; omega)
theorem ratT_bits {s t p : Int} (h : (Fl.fin s t p).ok) : bits (ratT s t p) ≤ 1200 := by
  obtain ⟨bs, bt, p1, p2, t0, tp⟩ := ok_bounds h
  unfold ratT
  split
  · have := bits_mul s t; omega
  · have h1 := bits_mul s (t * 2 ^ p.toNat)
    have h2 := bits_mul_pow t0 p.toNat
    omega
theorem ratB_bits {s t p : Int} (h : (Fl.fin s t p).ok) : bits (ratB p) ≤ 1200 := by
  obtain ⟨bs, bt, p1, p2, t0, tp⟩ := ok_bounds h
  unfold ratB
  split
  · rw [bits_pow]; omega
  · decide
theorem ratB_pos (p : Int) : 0 < ratB p := by
  unfold ratB
  split
  · exact pow_pos2 _
  · decide
theorem place_bits {CF : Addr} {H : Hp} {x : V} {n : Nm} {a b : Int} (h : NmAt CF H x n) (e : place n = some (a, b)) : bits a ≤ 1200 ∧ bits b ≤ 1200 := by
  match n, h, e with
  | .int i, h, e =>
    cases e
    exact ⟨by have := h.2; omega, by decide⟩
  | .fl (.fin s t p), ⟨_, _, _, ok⟩, e =>
    cases e
    exact ⟨ratT_bits ok, ratB_bits ok⟩
  | .fl (.inf s), ⟨_, _, _, ok⟩, e =>
    cases e
    refine ⟨?_, by decide⟩
    have h1 := bits_mul s (2 ^ 1025)
    rw [bits_pow] at h1
    have h2 : bits s ≤ 1 := by rcases (show s = 1 ∨ s = -1 from ok) with rfl | rfl <;> decide
    omega
  | .fl .nan, _, e => cases e
section
variable {P : Program} {w : World} {K : PySem.W.Frag} {mg : Str → Option Value} {base : Heap} {CF : Addr}
theorem NmAt.says (T : All K mg CF) {H : Hp} {x : V} {n : Nm} (h : NmAt CF H x n) : ∃ pl fl, Says K CF H x pl false false fl ∧ (fl || ((pl || false) && !false)) = true ∧ (fl = match n with | .int _ => false | .fl _ => true) := by
  cases n with
  | int i =>
    obtain ⟨rfl, _⟩ := h
    exact ⟨true, false, says_int T, rfl, rfl⟩
  | fl f =>
    obtain ⟨a, rfl, ⟨dx, e⟩, _⟩ := h
    exact ⟨false, true, says_fl T e, rfl, rfl⟩
/-- the place of a number as a fraction -/
def spPlace (CF : Addr) : Sp := fun vs H Q _ => ∃ x n, vs = [x] ∧ NmAt CF H x n ∧ (place n = none → Q .non H) ∧
  ∀ a b, place n = some (a, b) → ∀ q H', Same H H' → H' q = some (.tup [.int a, .int b]) → Q (.ref q) H'
theorem sc_place_of_numbers : FnScope ["number"] ["number"] (defScope s_place_of_numbers) := ⟨rfl, rfl, rfl, by decide +kernel, rfl, by decide +kernel, by decide +kernel⟩
theorem ok_place (T : All K mg CF) (k_Float_is_finite : KnM P w K mg base CX0 1 CF "is_finite" ["self"] (spFinite CF)) (k_Float_ratio : KnM P w K mg base CX0 1 CF "ratio" ["self"] (spRatio CF)) : Kn P w K mg base CX0 2 "place_of_numbers" ["number"] (spPlace CF) := by
  refine T.x_place.kn fun f fd F => ?_
  refine F.ok sc_place_of_numbers (fun vs H Q E h => ?_) (fun cdv A outer s H vs Q E hr h => ?_)
  · obtain ⟨x, n, rfl, _⟩ := h
    rfl
  · obtain ⟨x, n, rfl, hn, q0, q1⟩ := h
    refine ⟨_, (pss_cons (ps_if (pt_not (pt_val (pe_callB call_isi (by rfl) T.b_isinstance boot_isinstance (pa_cons (pv 0) (pa_cons (pg "Float" T.g_Float (rref _)) pa_nil))))) (pss_one (ps_ret (pe_tup (pa_cons (pv 0) (pa_cons pe_int pa_nil))))) pss_nil)
      (pss_cons (ps_if (pt_val (pkM0 k_Float_is_finite T.l_Float hr (pv 0) rfl)) (pss_one (ps_ret (pkM0 k_Float_ratio T.l_Float hr (pv 0) rfl))) pss_nil)
      (pss_one (ps_ret (pe_ifExp (pt_cmpR op_eq (pe_fld (pv 0) rfl) pe_str (nomark _)) pe_non (pe_tup (pa_cons (pe_op op_shlW (pe_fld (pv 0) rfl) (pe_op op_add (pgE "TOO_GREAT" T.c_TOO_GREAT) pe_int)) (pa_cons pe_int pa_nil)))))))), ?_⟩
    obtain ⟨pl, fl, ⟨t, ty, i1, i2, i3, i4⟩, _, efl⟩ := hn.says T
    repeat walk_at "rd"
    refine w_isi (.own CF) ty i4 ?_
    repeat walk_at "rd"
    cases n with
    | int i =>
      obtain ⟨rfl, hb⟩ := hn
      subst efl
      refine iT ?_
      repeat walk_at "rd"
      refine w_tup2 fun a2 H2 s2 n2 h2 => ?_
      exact q1 i 1 rfl a2 H2 s2 h2
    | fl f =>
      obtain ⟨a, rfl, ha, ok⟩ := hn
      obtain ⟨dx, h1⟩ := id ha
      subst efl
      refine iF ?_
      repeat walk_at "rd"
      refine w_methI h1 (lk_fin _ _ _) ?_
      repeat walk_at "rd"
      refine ⟨a, f, rfl, ha, ?_⟩
      repeat walk_at "rd"
      cases f with
      | fin s t p =>
        refine iT ?_
        repeat walk_at "rd"
        refine w_methI h1 (lk_rat _ _ _) ?_
        repeat walk_at "rd"
        refine ⟨a, s, t, p, rfl, ha, ok, fun q H2 s2 n2 h2 => ?_⟩
        exact q1 _ _ rfl q H2 s2 h2
      | inf s =>
        refine iF ?_
        repeat walk_at "rd"
        refine w_fldI h1 T.l_Float T.n_top (flds_t _ _ _) ?_
        repeat walk_at "rd"
        refine w_eqS ?_
        repeat walk_at "rd"
        refine iD (fun z => absurd z (by decide +kernel)) (fun _ => ?_)
        repeat walk_at "rd"
        refine w_fldI h1 T.l_Float T.n_sign (flds_s _ _ _) ?_
        repeat walk_at "rd"
        refine w_I (cshl (i := s) (j := 1024 + 1) (by rcases (show s = 1 ∨ s = -1 from ok) with rfl | rfl <;> decide) (by decide) (by decide)) ?_
        repeat walk_at "rd"
        refine w_tup2 fun a2 H2 s2 n2 h2 => ?_
        repeat walk_at "rd"
        exact q1 _ _ rfl a2 H2 s2 h2
      | nan =>
        refine iF ?_
        repeat walk_at "rd"
        refine w_fldI h1 T.l_Float T.n_top (flds_t _ _ _) ?_
        repeat walk_at "rd"
        refine w_eqS ?_
        repeat walk_at "rd"
        refine iD (fun _ => ?_) (fun z => absurd rfl z)
        repeat walk_at "rd"
        exact q0 rfl
/-! ### order_of -/
def gap (a b : Int × Int) : Int := a.1 * b.2 - b.1 * a.2
def sgnV (g : Int) : Int := (if 0 < g then 1 else 0) - (if g < 0 then 1 else 0)
def ordV (n m : Nm) : V := match place n, place m with
  | some a, some b => .int (sgnV (gap a b))
  | _, _ => .non
def spOrder (CF : Addr) : Sp := fun vs H Q _ => ∃ x y n m, vs = [x, y] ∧ NmAt CF H x n ∧ NmAt CF H y m ∧ ∀ H', Same H H' → Q (ordV n m) H'
/-- what place_of hands back, for reading on -/
def PlV (H : Hp) (v : V) (r : Option (Int × Int)) : Prop := match r with
  | none => v = .non
  | some (a, b) => ∃ q, v = .ref q ∧ H q = some (.tup [.int a, .int b])
theorem PlV.same {H H' : Hp} {v : V} {r : Option (Int × Int)} (h : PlV H v r) (s : Same H H') : PlV H' v r := by
  cases r with
  | none => exact h
  | some ab =>
    obtain ⟨q, e, hq⟩ := h
    exact ⟨q, e, s _ _ hq⟩
theorem u_place {x : V} {n : Nm} {H : Hp} {Q : VK} {E : XK} (h : NmAt CF H x n) (q : ∀ v H', Same H H' → PlV H' v (place n) → Q v H') : spPlace CF ([x] ++ []) H Q E := by
  refine ⟨x, n, rfl, h, fun e => q .non H (Same.refl H) ?_, fun a b e p H' s hp => q (.ref p) H' s ?_⟩
  · rw [e]; rfl
  · rw [e]; exact ⟨p, rfl, hp⟩
theorem sc_order_of : FnScope ["one", "other", "first", "second", "gap"] ["one", "other"] (defScope s_order_of) := ⟨rfl, rfl, rfl, by decide +kernel, rfl, by decide +kernel, by decide +kernel⟩
theorem ok_order (T : All K mg CF) (k_place_of_numbers : Kn P w K mg base CX0 2 "place_of_numbers" ["number"] (spPlace CF)) : Kn P w K mg base CX0 3 "order_of" ["one", "other"] (spOrder CF) := by
  refine T.x_order.kn fun f fd F => ?_
  refine F.ok sc_order_of (fun vs H Q E h => ?_) (fun cdv A outer s H vs Q E hr h => ?_)
  · obtain ⟨x, y, n, m, rfl, _⟩ := h
    rfl
  · obtain ⟨x, y, n, m, rfl, hn, hm, q⟩ := h
    refine ⟨_, (pss_cons (ps_par (by rfl) sc_order_of.nd (i := 2) (j := 3) rfl rfl (by decide) rfl rfl (pa_cons (pk k_place_of_numbers hr (pa_cons (pv 0) pa_nil)) (pa_cons (pk k_place_of_numbers hr (pa_cons (pv 1) pa_nil)) pa_nil)) (by rfl))
      (pss_cons (ps_if (PW.pt (pw_or (pt_cmpR op_isN (pv 2) pe_non (nomark _)) (pw_or1 (pt_cmpR op_isN (pv 3) pe_non (nomark _))))) (pss_one (ps_ret pe_non)) pss_nil)
      (pss_cons (ps_set (i := 4) sc_order_of.nd rfl (Or.inl rfl) (pe_op op_sub (pe_op op_mulX (pe_ix ix_tup (pv 2) pe_int (fun _ _ => rfl)) (pe_ix ix_tup (pv 3) pe_int (fun _ _ => rfl))) (pe_op op_mulX (pe_ix ix_tup (pv 3) pe_int (fun _ _ => rfl)) (pe_ix ix_tup (pv 2) pe_int (fun _ _ => rfl)))))
      (pss_one (ps_ret (pe_op op_sub_bb (pe_cmpR op_gt (pv 4) pe_int (nomark _)) (pe_cmpR op_lt (pv 4) pe_int (nomark _)))))))), ?_⟩
    repeat walk_at "rd"
    refine u_place hn fun v1 H1 s1 p1 => ?_
    repeat walk_at "rd"
    refine u_place (hm.same s1) fun v2 H2 s2 p2 => ?_
    have p1 := p1.same s2
    repeat walk_at "rd"
    have bn := fun a b => place_bits (a := a) (b := b) hn
    have bm := fun a b => place_bits (a := a) (b := b) hm
    unfold ordV at q
    generalize place n = r1 at p1 q bn
    generalize place m = r2 at p2 q bm
    cases r1 with
    | none =>
      obtain rfl : v1 = .non := p1
      refine iT ?_
      repeat walk_at "rd"
      exact q H2 (s1.trans s2)
    | some ab =>
      obtain ⟨q1, rfl, h1⟩ := p1
      refine iF ?_
      repeat walk_at "rd"
      cases r2 with
      | none =>
        obtain rfl : v2 = .non := p2
        refine iT ?_
        repeat walk_at "rd"
        exact q H2 (s1.trans s2)
      | some cd =>
        obtain ⟨q2, rfl, h2⟩ := p2
        obtain ⟨b1, b2⟩ := bn ab.1 ab.2 rfl
        obtain ⟨b3, b4⟩ := bm cd.1 cd.2 rfl
        refine iF ?_
        repeat walk_at "rd"
        refine w_ixT h1 (v := .int ab.1) rfl ?_
        repeat walk_at "rd"
        refine w_ixT h2 (v := .int cd.2) rfl ?_
        refine w_I (cmulx (i := ab.1) (j := cd.2) (by omega) (by omega)) ?_
        repeat walk_at "rd"
        refine w_ixT h2 (v := .int cd.1) rfl ?_
        repeat walk_at "rd"
        refine w_ixT h1 (v := .int ab.2) rfl ?_
        refine w_I (cmulx (i := cd.1) (j := ab.2) (by omega) (by omega)) ?_
        repeat walk_at "rd"
        have q' := q H2 (s1.trans s2)
        have e : sgnV (gap ab cd) = (if decide (0 < ab.1 * cd.2 - cd.1 * ab.2) = true then (1 : Int) else 0) - (if decide (ab.1 * cd.2 - cd.1 * ab.2 < 0) = true then (1 : Int) else 0) := by
          unfold sgnV gap
          simp only [decide_eq_true_eq]
        simp only at q'
        rw [e] at q'
        exact q'
theorem ordV_cases (n m : Nm) : ordV n m = .non ∨ ∃ g, ordV n m = .int g := by
  unfold ordV
  cases place n <;> cases place m <;> first | exact .inl rfl | exact .inr ⟨_, rfl⟩
end
end Nu

set_option Elab.async false
set_option linter.all false
set_option maxRecDepth 100000
set_option autoImplicit false
set_option maxHeartbeats 4000000
namespace Nu
open PySem PySem.Spec PyProof.Rows L2 Rd
local macro_rules | `(tactic| walk_at "hp") => `(tactic| first | assumption | (refine same_get ?sm ?_; (case sm => assumption); walk_at "hp"))
local macro_rules | `(tactic| walk_at "rd") => `(tactic| first
  | (with_reducible show Ends.nx _ _ _; with_reducible refine w_nx ?_)
  | with_reducible refine w_rt ?_
  | (with_reducible show Ends.bk _ _ _; with_reducible refine w_bk ?_)
  | (with_reducible show Ends.ct _ _ _; with_reducible refine w_ct ?_)
  | with_reducible refine w_seq ?_
  | with_reducible refine w_next ?_
  | with_reducible refine w_ret ?_
  | with_reducible refine w_ifS ?_
  | with_reducible refine w_asg ?_
  | with_reducible refine w_name ?_
  | with_reducible refine w_par ?_
  | with_reducible refine w_parI ?_
  | with_reducible refine w_ii ?_
  | with_reducible refine w_i1 ?_
  | with_reducible refine w_drop ?_
  | with_reducible refine w_sFld ?_
  | ((with_reducible refine' w_var ?rdh ?_); (case rdh => exact rfl))
  | with_reducible refine w_c ?_
  | with_reducible refine w_op ?_
  | with_reducible refine w_un ?_
  | with_reducible refine w_I0 ?_
  | with_reducible refine w_U ?_
  | with_reducible refine w_bits ?_
  | with_reducible refine w_bitsI ?_
  | with_reducible refine w_tup ?_
  | with_reducible refine w_lst ?_
  | with_reducible refine w_nil ?_
  | with_reducible refine w_cons ?_
  | with_reducible refine w_fld ?_
  | with_reducible refine w_call ?_
  | with_reducible refine w_make ?_
  | with_reducible refine w_makeD ?_
  | with_reducible refine w_nn ?_
  | with_reducible refine w_subB ?_
  | with_reducible refine w_meth ?_
  | with_reducible refine w_cb ?_
  | with_reducible refine w_test ?_
  | with_reducible refine w_B ?_
  | with_reducible refine w_bl ?_
  | with_reducible refine w_andV ?_
  | with_reducible refine w_orV ?_
  | with_reducible refine w_notV ?_
  | with_reducible refine w_and ?_
  | with_reducible refine w_or ?_
  | with_reducible refine w_not ?_
  | with_reducible refine w_if ?_
  | with_reducible refine w_gnil ?_
  | with_reducible refine w_gcons ?_
  | with_reducible refine iT ?_
  | with_reducible refine iF ?_
  | with_reducible refine w_eqI ?_
  | with_reducible refine w_neI ?_
  | with_reducible refine w_eqS ?_
  | with_reducible refine w_eqIS ?_
  | with_reducible refine w_eqSI ?_)

abbrev s_Table_init : Stmt := inClass (top 40) 0
abbrev s_power_for : Stmt := top 37
/-- what the text has of tables -/
structure AllT (K : PySem.W.Frag) (mg : Str → Option Value) (CF CT : Addr) : Prop extends All K mg CF where
  g_Table : mg "Table" = some (.ref CT)
  l_Table : Cls K CT
  y_Table : ClsTy K CT
  o_Table : ObjC K CT
  n_number : NoAttr K CT "number"
  n_meta : NoAttr K CT "meta"
  n_array : NoAttr K CT "array"
  n_nodes : NoAttr K CT "nodes"
  n_free : NoAttr K CT "free"
  i_Tint : PySem.W.kitOne K (.ref CT) (.type "int") = some false
  i_Tbool : PySem.W.kitOne K (.ref CT) (.type "bool") = some false
  i_Tstr : PySem.W.kitOne K (.ref CT) (.type "str") = some false
  i_TF : PySem.W.kitOne K (.ref CT) (.ref CF) = some false
  x_power_for : Tx K mg "power_for" "power_for" s_power_for ["count"]
  x_Table : ∃ f fd, Mk K CT f ∧ FunD K "__init__" "Table.__init__" (defArgs s_Table_init) (defBody s_Table_init) (defScope s_Table_init) [.int 0, .int 0] [("meta", .non)] f fd
section
variable {P : Program} {w : World} {K : PySem.W.Frag} {mg : Str → Option Value} {base : Heap} {CF CT : Addr}
/-! ### same -/
/-- the kinds of values that are compared -/
inductive Kd (K : PySem.W.Frag) (CF CT : Addr) (H : Hp) : V → Option Nm → Prop where
  | num {x : V} {n : Nm} (h : NmAt CF H x n) : Kd K CF CT H x (some n)
  | bl (b : Bool) : Kd K CF CT H (.bl b) none
  | str (s : Str) : Kd K CF CT H (.str s) none
  | non : Kd K CF CT H .non none
  | tab {x : V} (h : InsV CT H x) : Kd K CF CT H x none
def isBl : V → Bool
  | .bl _ => true
  | _ => false
def isSt : V → Bool
  | .str _ => true
  | _ => false
theorem tfE {b c : Bool} {p : Prop} (e : V.bl b = V.bl c) (h : b = !c := by rfl) : p := by
  cases b <;> cases c <;> first | exact absurd h (by decide) | exact absurd (V.bl.inj e) (by decide)
theorem Kd.says (T : AllT K mg CF CT) {H : Hp} {x : V} {n : Option Nm} (h : Kd K CF CT H x n) : ∃ pl fl, Says K CF H x pl (isBl x) (isSt x) fl ∧ (fl || ((pl || isBl x) && !isBl x)) = n.isSome := by
  cases h with
  | @num _ m h =>
    obtain ⟨pl, fl, s, e, _⟩ := h.says T.toAll
    have e1 : isBl x = false ∧ isSt x = false := by
      cases m with
      | int i => obtain ⟨rfl, _⟩ := h; exact ⟨rfl, rfl⟩
      | fl f => obtain ⟨a, rfl, _⟩ := h; exact ⟨rfl, rfl⟩
    rw [e1.1, e1.2]
    exact ⟨pl, fl, s, e⟩
  | bl b => exact ⟨false, false, says_bl T.toAll, rfl⟩
  | str s => exact ⟨false, false, says_str T.toAll, rfl⟩
  | non => exact ⟨false, false, says_non T.toAll, rfl⟩
  | tab h =>
    obtain ⟨a, dx, fs, rfl, e⟩ := h
    exact ⟨false, false, ⟨_, ty_ins T.l_Table T.y_Table e, T.i_Tint, T.i_Tbool, T.i_Tstr, T.i_TF⟩, rfl⟩
def sameB (x y : V) : Option Nm → Option Nm → Bool
  | some n, some m => decide (ordV n m = .int 0)
  | none, none => decide (x = y)
  | _, _ => false
def spSame (K : PySem.W.Frag) (CF CT : Addr) : Sp := fun vs H Q _ => ∃ x y nx ny, vs = [x, y] ∧ Kd K CF CT H x nx ∧ Kd K CF CT H y ny ∧ ∀ H', Same H H' → Q (.bl (sameB x y nx ny)) H'
theorem u_number {x : V} {pl bo st fl : Bool} {H : Hp} {Q : VK} {E : XK} (h : Says K CF H x pl bo st fl) (q : Q (.bl (fl || ((pl || bo) && !bo))) H) : spNumber K CF ([x] ++ []) H Q E := ⟨x, pl, bo, st, fl, rfl, h, q⟩
theorem sc_same : FnScope ["one", "other"] ["one", "other"] (defScope s_same) := ⟨rfl, rfl, rfl, by decide +kernel, rfl, by decide +kernel, by decide +kernel⟩
theorem ok_same (T : AllT K mg CF CT) (k_is_number : Kn P w K mg base CX0 2 "is_number" ["thing"] (spNumber K CF)) (k_order_of : Kn P w K mg base CX0 3 "order_of" ["one", "other"] (spOrder CF)) :
    Kn P w K mg base CX0 4 "same" ["one", "other"] (spSame K CF CT) := by
  refine T.x_same.kn fun f fd F => ?_
  refine F.ok sc_same (fun vs H Q E h => ?_) (fun cdv A outer s H vs Q E hr h => ?_)
  · obtain ⟨x, y, nx, ny, rfl, _⟩ := h
    rfl
  · obtain ⟨x, y, nx, ny, rfl, hx, hy, q⟩ := h
    refine ⟨_, (pss_cons (ps_if (PW.pt (pw_and (pt_val (pk k_is_number hr (pa_cons (pv 0) pa_nil))) (pw_and1 (pt_val (pk k_is_number hr (pa_cons (pv 1) pa_nil)))))) (pss_one (ps_ret (pe_cmpR op_eq (pk k_order_of hr (pa_cons (pv 0) (pa_cons (pv 1) pa_nil))) pe_int (nomark _)))) pss_nil)
      (pss_cons (ps_if (PW.pt (pw_or (pt_val (pk k_is_number hr (pa_cons (pv 0) pa_nil))) (pw_or1 (pt_val (pk k_is_number hr (pa_cons (pv 1) pa_nil)))))) (pss_one (ps_ret pe_bl)) pss_nil)
      (pss_cons (ps_if (PW.pt (pw_or (pt_cmpR op_ne (pe_callB call_isi (by rfl) T.b_isinstance boot_isinstance (pa_cons (pv 0) (pa_cons (pe_bltn (by rfl) T.b_bool boot_bool (rty _)) pa_nil))) (pe_callB call_isi (by rfl) T.b_isinstance boot_isinstance (pa_cons (pv 1) (pa_cons (pe_bltn (by rfl) T.b_bool boot_bool (rty _)) pa_nil))) (nomark _)) (pw_or1 (pt_cmpR op_ne (pe_callB call_isi (by rfl) T.b_isinstance boot_isinstance (pa_cons (pv 0) (pa_cons (pe_bltn (by rfl) T.b_str boot_str (rty _)) pa_nil))) (pe_callB call_isi (by rfl) T.b_isinstance boot_isinstance (pa_cons (pv 1) (pa_cons (pe_bltn (by rfl) T.b_str boot_str (rty _)) pa_nil))) (nomark _))))) (pss_one (ps_ret pe_bl)) pss_nil)
      (pss_one (ps_ret (pe_cmpR (op_eqO hr.units0 T.o_Table) (pv 0) (pv 1) (nomark _))))))), ?_⟩
    obtain ⟨px, fx, sx, ex⟩ := hx.says T
    obtain ⟨py, fy, sy, ey⟩ := hy.says T
    obtain ⟨tx, tyx, x1, x2, x3, x4⟩ := id sx
    obtain ⟨ty, tyy, y1, y2, y3, y4⟩ := id sy
    repeat walk_at "rd"
    refine u_number sx ?_
    rw [ex]
    repeat walk_at "rd"
    cases nx with
    | some n =>
      refine iT ?_
      repeat walk_at "rd"
      refine u_number sy ?_
      rw [ey]
      repeat walk_at "rd"
      cases ny with
      | some m =>
        refine iT ?_
        repeat walk_at "rd"
        have hn : NmAt CF H x n := by cases hx; assumption
        have hm : NmAt CF H y m := by cases hy; assumption
        refine ⟨x, y, n, m, rfl, hn, hm, fun H1 s1 => ?_⟩
        repeat walk_at "rd"
        refine w_eq (by rcases ordV_cases n m with e | ⟨g, e⟩ <;> rw [e] <;> rfl) ?_
        exact q H1 s1
      | none =>
        refine iF ?_
        repeat walk_at "rd"
        refine u_number sx ?_
        rw [ex]
        repeat walk_at "rd"
        refine iT ?_
        repeat walk_at "rd"
        exact q H (Same.refl H)
    | none =>
      refine iF ?_
      repeat walk_at "rd"
      refine u_number sx ?_
      rw [ex]
      repeat walk_at "rd"
      refine iF ?_
      repeat walk_at "rd"
      refine u_number sy ?_
      rw [ey]
      repeat walk_at "rd"
      cases ny with
      | some m =>
        refine iT ?_
        repeat walk_at "rd"
        exact q H (Same.refl H)
      | none =>
        refine iF ?_
        repeat walk_at "rd"
        refine w_isi (.ty "bool") tyx x2 ?_
        repeat walk_at "rd"
        refine w_isi (.ty "bool") tyy y2 ?_
        refine w_ne rfl ?_
        repeat walk_at "rd"
        have q' := q H (Same.refl H)
        refine iN (fun c => ?_) (fun c => ?_)
        · refine iT ?_
          repeat walk_at "rd"
          have e : decide (x = y) = false := decide_eq_false fun z => c (by rw [z])
          show Q (.bl false) H
          rw [← e]
          exact q'
        · repeat walk_at "rd"
          refine w_isi (.ty "str") tyx x3 ?_
          repeat walk_at "rd"
          refine w_isi (.ty "str") tyy y3 ?_
          refine w_ne rfl ?_
          repeat walk_at "rd"
          refine iN (fun c2 => ?_) (fun c2 => ?_)
          · repeat walk_at "rd"
            have e : decide (x = y) = false := decide_eq_false fun z => c2 (by rw [z])
            show Q (.bl false) H
            rw [← e]
            exact q'
          · repeat walk_at "rd"
            refine ⟨?_, q'⟩
            cases hx with
            | bl b =>
              cases hy with
              | bl b' => exact .inl rfl
              | str s' => exact tfE c
              | non => exact tfE c
              | tab h => obtain ⟨a, dx, fs, rfl, e⟩ := h; exact tfE c
            | str s1 =>
              cases hy with
              | bl b' => exact tfE c
              | str s' => exact .inl rfl
              | non => exact tfE c2
              | tab h => obtain ⟨a, dx, fs, rfl, e⟩ := h; exact tfE c2
            | non =>
              cases hy with
              | bl b' => exact tfE c
              | str s' => exact tfE c2
              | non => exact .inl rfl
              | tab h => exact .inr (.inr ⟨rfl, h⟩)
            | tab h =>
              cases hy with
              | bl b' => obtain ⟨a, dx, fs, rfl, e⟩ := h; exact tfE c
              | str s' => obtain ⟨a, dx, fs, rfl, e⟩ := h; exact tfE c2
              | non => exact .inr (.inl ⟨h, .inl rfl⟩)
              | tab h' => exact .inr (.inl ⟨h, .inr h'⟩)
end
end Nu

set_option Elab.async false
set_option linter.all false
set_option maxRecDepth 100000
set_option autoImplicit false
set_option maxHeartbeats 4000000
/-! Rules and readings that the tables need. -/
namespace Rd
open PySem PySem.Spec PyProof.Rows L2
def rEqNil (K : PySem.W.Frag) : R2 := fun x y H Q => ∃ l b xs, x = .ref l ∧ y = .ref b ∧ SqL K H l xs ∧ SqL K H b [] ∧ Q (.bl xs.isEmpty) H
theorem op_eqNil {X : Cx} (hu : X.A.units + 64 < cLine) : OpR X (compareOp .Eq) (rEqNil X.K) := by
  intro pins s σ H x y v u Q I rx ry h
  obtain ⟨l, b, xs, rfl, rfl, hl, hb, q⟩ := h
  cases rx
  cases ry
  obtain ⟨its, r, e, z⟩ := I.list hl
  obtain ⟨its2, r2, e2, z2⟩ := I.list hb
  have l1 := r.length
  have l2 := r2.length
  have z0 : its2 = [] := List.length_eq_zero_iff.1 (by rw [← l2]; rfl)
  subst z0
  have go : ∀ k, k = xs.isEmpty → SeqAt.RcAt X.A s (.ref l) (.ref b) k → wpAny (model X.prog X.w) X.A (compareOp .Eq (.ref l) (.ref b)) (EP X pins σ Q) X.xe s := fun k hk h => by
    refine h _ _ _ _ ?_
    rw [hk]
    exact ⟨.bl _, H, I, rfl, q⟩
  cases xs with
  | nil =>
    have z1 : its = [] := List.length_eq_zero_iff.1 (by rw [← l1]; rfl)
    subst z1
    refine go true rfl ?_
    exact SeqAt.RcAt.lists (e := fun _ => true) e.isList e2.isList rfl (by omega) (fun j h1 h2 => absurd h1 (by simp))
  | cons x xs =>
    refine go false rfl ?_
    refine SeqAt.RcAt.lists_lengths e.isList e2.isList ?_ (by omega)
    cases its with
    | nil => cases l1
    | cons a as => rfl
theorem _root_.L2.Room.units64 {k : Nat} {A : Around} (r : Room k A) : A.units + 64 < cLine := by have := r.un; omega
section
variable {X : Cx} {k j : Nat} {x : Str} {ps : List Str} {sp : Sp} {p pos apos : Pos} {e o : Expr} {es : List Expr} {t : TA} {ta : TE} {C : Addr} {m : Str}
/-- o.m(e, ..) -/
theorem pkM (h : KnM X.prog X.w X.K X.mg X.base CX0 k C m ps sp) (cl : Cls X.K C) (hr : Room j X.A) (ho : PE X o ta) (ha : PA X (e :: es) t) {pl : Sem Bool}
    (ht : eval (.Call (.Attribute o m apos) (e :: es) [] pos) X.env = (do
      let ov ← eval o X.env
      standAt apos.atName
      let (f, first) ← holding [ov] (getMethod ov m pl)
      callWith pos f first (backTo pos (starEach (e :: es) X.env)) (backToKw pos (keywordEach [] X.env)))) (hj : k ≤ j := by decide)
    (hst : starEach (e :: es) X.env = (false, eval e X.env) :: starEach es X.env := by rfl) (hpl : (backTo pos (starEach es X.env)).any (·.1) = false := by rfl) :
    PE X (.Call (.Attribute o m apos) (e :: es) [] pos) (tMeth C m sp [] E0 ta t) := by
  obtain ⟨f, fd, a, b, d⟩ := h.ex
  exact pe_meth ho cl a d (hr.mono hj) b .nil pass0 ha hst hpl ht
end
section
variable {σ : L2.St} {H : Hp} {Q : VK} {K : PySem.W.Frag} {l b : Addr} {xs : List V}
theorem w_eqNil (h1 : SqL K H l xs) (h2 : H b = some (.lst [])) (q : Q (.bl xs.isEmpty) H) : rEqNil K (.ref l) (.ref b) H Q := ⟨l, b, xs, rfl, rfl, h1, SqL.of h2, q⟩
theorem w_lst0 (q : ∀ p H', Same H H' → H p = none → H' p = some (.lst []) → Q (.ref p) H') : LstK [] H Q := w_lstI (by show 0 ≤ 1000; decide) q
theorem w_iEnum {ta : TA} {R : It → Hp → Prop} (h : ta σ H fun vs H1 => ∃ a xs, vs = [.ref a] ∧ SqL K H1 a xs ∧ R (Ite K a) H1) : iEnum K ta σ H R := h
theorem w_iEnumI {a : Addr} {xs : List V} {R : Addr → Prop} (h : H a = some (.lst xs)) (q : R a) : ∃ a' xs, [V.ref a] = [V.ref a'] ∧ SqL K H a' xs ∧ R a' := ⟨a, xs, rfl, SqL.of h, q⟩
/-- a for over enumerate(list): the list stays, each turn a new pair -/
theorem for_enum {a : Addr} {xs : List V} {g : TG} {tb : TS} {D : Ends} (Pv : Nat → L2.St → Hp → Prop) (h0 : Pv 0 σ H) (hG : ∀ i σ H, i ≤ xs.length → Pv i σ H → H a = some (.lst xs))
    (hs : ∀ (i : Nat) x T σ H, i < xs.length → xs[i]? = some x → Pv i σ H → H T = none → g (.ref T) σ (upd H T (.tup [.int (i : Nat), x])) fun σ2 H2 => tb { D with nx := Pv (i + 1), ct := Pv (i + 1), bk := D.nx } σ2 H2) (hd : ∀ σ H, Pv xs.length σ H → D.nx σ H) :
    ∃ W : Nat → Nat → L2.St → Hp → Prop, (∃ m, W 0 m σ H) ∧ ∀ i m σ H, W i m σ H →
      ((Ite K a).stop i H ∧ D.nx σ H) ∨ ((Ite K a).go i H ∧ ∃ N : L2.St → Hp → Prop, (∀ σ' H', N σ' H' → ∃ m', m' < m ∧ W (i + 1) m' σ' H') ∧ ∀ x H', (Ite K a).yld i H x H' → g x σ H' fun σ2 H2 => tb { D with nx := N, ct := N, bk := D.nx } σ2 H2) :=
  for_it (walk_enum (K := K) (a := a) (xs := xs)) Pv h0 (fun i σ H hi p => SqL.of (hG i σ H hi p)) (fun i x σ H H' hi p y => by
    obtain ⟨T, x', y', rfl, hT, rfl, e1, e2⟩ := y
    cases e1
    exact hs i y' T σ H hi e2 p hT) hd
/-- a comprehension over enumerate(list) -/
theorem lc_enum {a : Addr} {xs : List V} {g : TG} {tt : TT} {te : TE} {vs : List Nat} {σ : L2.St} {H1 : Hp} {D : Addr} {Qd : Hp → Prop} (Pv : Nat → Hp → Prop) (h0 : Pv 0 (upd H1 D (.lst []))) (hG : ∀ i H, i ≤ xs.length → Pv i H → H a = some (.lst xs))
    (hs : ∀ (i : Nat) x T H, i < xs.length → xs[i]? = some x → Pv i H → H T = none → g (.ref T) (wipe σ vs) (upd H T (.tup [.int (i : Nat), x])) fun σ2 H2 => wipe σ2 vs = wipe σ vs ∧ tt σ2 H2 fun b H3 =>
      if b = true then te σ2 H3 fun y H4 => ∃ acc, H4 D = some (.lst acc) ∧ acc.length < sizeLine ∧ Pv (i + 1) (upd H4 D (.lst (acc ++ [y]))) else Pv (i + 1) H3) (hd : ∀ H, Pv xs.length H → Qd H) :
    ∃ W : Nat → Nat → Hp → Prop, (∃ m, W 0 m (upd H1 D (.lst []))) ∧ ∀ i m H, W i m H →
      ((Ite K a).stop i H ∧ Qd H) ∨ ((Ite K a).go i H ∧ ∃ Nx : Hp → Prop, (∀ H', Nx H' → ∃ m', m' < m ∧ W (i + 1) m' H') ∧ ∀ x H', (Ite K a).yld i H x H' → g x (wipe σ vs) H' fun σ2 H2 => wipe σ2 vs = wipe σ vs ∧ tt σ2 H2 fun b H3 =>
        if b = true then te σ2 H3 fun y H4 => ∃ acc, H4 D = some (.lst acc) ∧ acc.length < sizeLine ∧ Nx (upd H4 D (.lst (acc ++ [y]))) else Nx H3) :=
  lc_it (walk_enum (K := K) (a := a) (xs := xs)) Pv h0 (fun i H hi p => SqL.of (hG i H hi p)) (fun i x H H' hi p y => by
    obtain ⟨T, x', y', rfl, hT, rfl, e1, e2⟩ := y
    cases e1
    exact hs i y' T H hi e2 p hT) hd
theorem same_put {H H' : Hp} {D : Addr} {o : HO} (s : Same H H') (n : H D = none) : Same H (upd H' D o) := fun b u e => by
  rw [upd_ne (ne_of_none e n)]
  exact s b u e
theorem w_lc {wi : TI} {g : TG} {tt : TT} {te : TE} {vs : List Nat} {σ : L2.St} {H : Hp} {Q : VK} (h : wi σ H fun J H1 => ∀ D, H1 D = none → ∃ W : Nat → Nat → Hp → Prop, (∃ m, W 0 m (upd H1 D (.lst []))) ∧ ∀ i m H, W i m H →
  (J.stop i H ∧ Q (.ref D) H) ∨ (J.go i H ∧ ∃ Nx : Hp → Prop, (∀ H', Nx H' → ∃ m', m' < m ∧ W (i + 1) m' H') ∧ ∀ x H', J.yld i H x H' → g x (wipe σ vs) H' fun σ2 H2 => wipe σ2 vs = wipe σ vs ∧ tt σ2 H2 fun b H3 =>
    if b = true then te σ2 H3 fun y H4 => ∃ acc, H4 D = some (.lst acc) ∧ acc.length < sizeLine ∧ Nx (upd H4 D (.lst (acc ++ [y]))) else Nx H3)) : tLc wi g tt te vs σ H Q := h
theorem w_yes {σ : L2.St} {H : Hp} {Q : Bool → Hp → Prop} (q : Q true H) : tYes σ H Q := q
/-! augmented assignments -/
theorem w_aug {i : Nat} {te : TE} {ti : TIp} {D : Ends} {x : V} (h : σ[i]? = some (some x)) (q : te σ H fun y H1 => ti x y H1 fun z H2 => D.nx (σ.set i (some z)) H2) : tAug i te ti D σ H := ⟨x, h, q⟩
theorem w_ip {f : Int → Int → Int} {i j : Int} (q : Q (.int (f i j)) H) : ipI f (.int i) (.int j) H Q := ⟨i, j, rfl, rfl, q⟩
theorem ip_mulX {X : Cx} : PIp X .Mult (rI CMul fun i j => .int (i * j)) := iop_mul
theorem w_sAug {ta tv : TE} {rd : V → V → Hp → VK → Prop} {f : Str} {D : Ends} (h : ta σ H fun x H1 => ∃ a C dx fs v, x = .ref a ∧ H1 a = some (.ins C dx fs) ∧ Cls K C ∧ NoAttr K C f ∧ fs.lookup f = some v ∧
  tv σ H1 fun y H2 => rd v y H2 fun z H3 => ∃ dx' fs', H3 a = some (.ins C dx' fs') ∧ fs'.length < 1000 ∧ D.nx σ (upd H3 a (.ins C dx' (putF f z fs')))) : sFldAug K ta tv rd f D σ H := h
theorem w_sub1 {i j : Int} (q : Q (.int (i - j)) H) : rSub (.int i) (.int j) H Q := ⟨i, j, rfl, rfl, q⟩
def rGetL (K : PySem.W.Frag) : R2 := fun x y H Q => ∃ p xs i v, x = .ref p ∧ y = .int i ∧ 0 ≤ i ∧ i < 2 ^ 63 ∧ SqL K H p xs ∧ xs[i.toNat]? = some v ∧ Q v H
theorem pget_list {X : Cx} : PGet X (rGetL X.K) := by
  intro pins s σ H x y v u Q I rx ry h
  obtain ⟨p, xs, i, z, rfl, rfl, h0, h63, hq, he, q⟩ := h
  cases rx
  obtain ⟨t, rfl⟩ := ry
  obtain ⟨its, r, pl, hz⟩ := I.list hq
  obtain ⟨w, ew, rw'⟩ := r.get he
  exact wpAny_getItem_list (Q := fun w s' => EP X pins σ Q w s') pl.isList h0 h63 (by simpa using ew) ⟨z, H, I, rw', q⟩
theorem w_augS {to ti te : TE} {tget : V → V → Hp → VK → Prop} {tip : TIp} {tset : TSet} {D : Ends} (h : to σ H fun o H1 => ti σ H1 fun i H2 => tget o i H2 fun x H3 => te σ H3 fun y H4 => tip x y H4 fun z H5 => tset o i z H5 fun H6 => D.nx σ H6) : tAugS to ti te tget tip tset D σ H := h
/-! the signs of a text -/
theorem w_iStr {te : TE} {R : It → Hp → Prop} (h : te σ H fun v H1 => ∃ x, v = .str x ∧ R (Its x) H1) : iStr te σ H R := h
theorem w_iStrI {x : Str} {R : Str → Prop} (q : R x) : ∃ y, V.str x = .str y ∧ R y := ⟨x, rfl, q⟩
theorem w_ext {a b : Addr} {xs zs : List V} (h1 : H a = some (.lst xs)) (h2 : H b = some (.lst zs)) (hl : xs.length + zs.length ≤ sizeLine) (q : Q .non (upd H a (.lst (xs ++ zs)))) : rExtend (.ref a) [.ref b] H Q := ⟨a, b, xs, zs, rfl, rfl, h1, h2, hl, q⟩
end
end Rd

set_option Elab.async false
set_option linter.all false
set_option maxRecDepth 100000
set_option autoImplicit false
set_option maxHeartbeats 4000000
/-! Methods called with keywords. -/
namespace Rd
open PySem PySem.Spec PyProof.Rows L2
/-- o.m(e, .., k = v, ..): n values and keywords -/
def tMethN (C : Addr) (m : Str) (n nk : Nat) (sp : Sp) (gV : List V → List V → List V) (E : XK) (ta : TE) (t tk : TA) : TE := fun σ H Q => ta σ H fun x H1 => ∃ a dx fs, x = .ref a ∧ H1 a = some (.ins C dx fs) ∧ fs.lookup m = none ∧
  t σ H1 fun vs H2 => tk σ H2 fun zs H3 => vs.length = n ∧ zs.length = nk ∧ sp (gV (x :: vs) zs) H3 Q E
section
variable {X : Cx} {CX : CXT} {k n : Nat} {f C : Addr} {fd : FuncData} {ps ks : List Str} {sp : Sp} {E : XK} {m : Str} {pos apos : Pos} {o e : Expr} {es : List Expr} {kws : List Keyword} {ta : TE} {t tk : TA} {g : List Value → List Value → List Value} {gV : List V → List V → List V}
theorem pe_methN {pl : Sem Bool} (he : PE X o ta) (c : Cls X.K C) (hm : Meth X.K C m f) (F : FnOk X.prog X.w X.K X.mg X.base CX k f fd ps sp) (hr : Room k X.A) (hb : KBn X.K fd ps (n + 1) ks g gV) (hx : Passes CX X E)
    (ha : PA X (e :: es) t) (hkw : PK X kws tk)
    (ht : eval (.Call (.Attribute o m apos) (e :: es) kws pos) X.env = (do
      let ov ← eval o X.env
      standAt apos.atName
      let (f, first) ← holding [ov] (getMethod ov m pl)
      callWith pos f first (backTo pos (starEach (e :: es) X.env)) (backToKw pos (keywordEach kws X.env))) := by rfl)
    (hall : (backToKw pos (keywordEach kws X.env)).all (·.1.isSome) = true := by rfl) (hks : (backToKw pos (keywordEach kws X.env)).filterMap (·.1) = ks := by rfl)
    (hst : starEach (e :: es) X.env = (false, eval e X.env) :: starEach es X.env := by rfl)
    (hpl : ((backTo pos (starEach (e :: es) X.env)).any (·.1) || (backToKw pos (keywordEach kws X.env)).any (·.1.isNone)) = false := by rfl) :
    PE X (.Call (.Attribute o m apos) (e :: es) kws pos) (tMethN C m n ks.length sp gV E ta t tk) := by
  refine ⟨fun pins s σ H Q I h => ?_⟩
  refine PySem.W.methodCall_KW (pl := pl) (thn (he.run pins s σ H _ I h) fun u s1 ⟨x, H1, I1, rx, a, dx, fs, ex, ea, l, q⟩ => ?_) ht
  subst ex
  obtain rfl : u = Value.ref a := rx
  refine getmeth_ok I1 ea c hm l ?_
  refine PySem.W.callWith_KW (first := [.ref a]) (h₀ := X.base) I.ok.mod.kin hm.kp hall (thn (ha.run pos pins s1 σ H1 _ I1 q) fun us s2 ⟨vs, H2, I2, r, q2⟩ => ?_) hpl hst
  refine thn (hkw.run pos pins s2 σ H2 _ I2 q2) fun ws s3 ⟨zs, H3, I3, rz, l1, l2, q3⟩ => ⟨I3.kIn, ?_⟩
  rw [hks]
  exact run_fnN (us := .ref a :: us) (vs := .ref a :: vs) F hr hb hx I3 (.cons rfl r) rz (congrArg Nat.succ l1) l2 q3
theorem pe_methN0 {pl : Sem Bool} (he : PE X o ta) (c : Cls X.K C) (hm : Meth X.K C m f) (F : FnOk X.prog X.w X.K X.mg X.base CX k f fd ps sp) (hr : Room k X.A) (hb : KBn X.K fd ps 1 ks g gV) (hx : Passes CX X E)
    (hkw : PK X kws tk)
    (ht : eval (.Call (.Attribute o m apos) [] kws pos) X.env = (do
      let ov ← eval o X.env
      standAt apos.atName
      let (f, first) ← holding [ov] (getMethod ov m pl)
      callWith pos f first (backTo pos (starEach [] X.env)) (backToKw pos (keywordEach kws X.env))) := by rfl)
    (hall : (backToKw pos (keywordEach kws X.env)).all (·.1.isSome) = true := by rfl) (hks : (backToKw pos (keywordEach kws X.env)).filterMap (·.1) = ks := by rfl)
    (hpl : ((backTo pos (starEach [] X.env)).any (·.1) || (backToKw pos (keywordEach kws X.env)).any (·.1.isNone)) = false := by rfl) :
    PE X (.Call (.Attribute o m apos) [] kws pos) (tMethN C m 0 ks.length sp gV E ta tNil tk) := by
  refine ⟨fun pins s σ H Q I h => ?_⟩
  refine PySem.W.methodCall_KW (pl := pl) (thn (he.run pins s σ H _ I h) fun u s1 ⟨x, H1, I1, rx, a, dx, fs, ex, ea, l, q⟩ => ?_) ht
  subst ex
  obtain rfl : u = Value.ref a := rx
  refine getmeth_ok I1 ea c hm l ?_
  refine PySem.W.callWith_KW0 (first := [.ref a]) (h₀ := X.base) I.ok.mod.kin hm.kp hall ?_ hpl
  refine thn (hkw.run pos pins s1 σ H1 _ I1 q) fun ws s3 ⟨zs, H3, I3, rz, l1, l2, q3⟩ => ⟨I3.kIn, ?_⟩
  rw [hks]
  exact run_fnN (us := [.ref a]) (vs := [.ref a]) F hr hb hx I3 (.cons rfl .nil) rz rfl l2 q3
end
/-- a method's promise, called with n values and the keywords ks -/
structure KnMK (P : Program) (w : World) (K : PySem.W.Frag) (mg : Str → Option Value) (base : Heap) (CX : CXT) (k : Nat) (C : Addr) (m : Str) (n : Nat) (ks : List Str) (sp : Sp) : Prop where
  ex : ∃ f fd ps g, Meth K C m f ∧ KBn K fd ps n ks g (fun vs zs => vs ++ zs) ∧ FnOk P w K mg base CX k f fd ps sp
theorem vals_app {vs zs : List V} {us ws : List Value} (a : Vals vs us) (b : Vals zs ws) : Vals (vs ++ zs) (us ++ ws) := by
  induction a with
  | nil => exact b
  | cons h _ ih => exact .cons h ih
section
variable {X : Cx} {k n j : Nat} {C : Addr} {sp : Sp} {m : Str} {ks : List Str} {pos apos : Pos} {o e : Expr} {es : List Expr} {kws : List Keyword} {ta : TE} {t tk : TA}
theorem pkMK (h : KnMK X.prog X.w X.K X.mg X.base CX0 k C m (n + 1) ks sp) (cl : Cls X.K C) (hr : Room j X.A) (ho : PE X o ta) (ha : PA X (e :: es) t) (hkw : PK X kws tk) {pl : Sem Bool}
    (ht : eval (.Call (.Attribute o m apos) (e :: es) kws pos) X.env = (do
      let ov ← eval o X.env
      standAt apos.atName
      let (f, first) ← holding [ov] (getMethod ov m pl)
      callWith pos f first (backTo pos (starEach (e :: es) X.env)) (backToKw pos (keywordEach kws X.env)))) (hj : k ≤ j := by decide)
    (hall : (backToKw pos (keywordEach kws X.env)).all (·.1.isSome) = true := by rfl) (hks : (backToKw pos (keywordEach kws X.env)).filterMap (·.1) = ks := by rfl)
    (hst : starEach (e :: es) X.env = (false, eval e X.env) :: starEach es X.env := by rfl)
    (hpl : ((backTo pos (starEach (e :: es) X.env)).any (·.1) || (backToKw pos (keywordEach kws X.env)).any (·.1.isNone)) = false := by rfl) :
    PE X (.Call (.Attribute o m apos) (e :: es) kws pos) (tMethN C m n ks.length sp (fun vs zs => vs ++ zs) E0 ta t tk) := by
  obtain ⟨f, fd, ps, g, a, b, d⟩ := h.ex
  exact pe_methN ho cl a d (hr.mono hj) b pass0 ha hkw ht hall hks hst hpl
theorem pkMK0 (h : KnMK X.prog X.w X.K X.mg X.base CX0 k C m 1 ks sp) (cl : Cls X.K C) (hr : Room j X.A) (ho : PE X o ta) (hkw : PK X kws tk) {pl : Sem Bool}
    (ht : eval (.Call (.Attribute o m apos) [] kws pos) X.env = (do
      let ov ← eval o X.env
      standAt apos.atName
      let (f, first) ← holding [ov] (getMethod ov m pl)
      callWith pos f first (backTo pos (starEach [] X.env)) (backToKw pos (keywordEach kws X.env)))) (hj : k ≤ j := by decide)
    (hall : (backToKw pos (keywordEach kws X.env)).all (·.1.isSome) = true := by rfl) (hks : (backToKw pos (keywordEach kws X.env)).filterMap (·.1) = ks := by rfl)
    (hpl : ((backTo pos (starEach [] X.env)).any (·.1) || (backToKw pos (keywordEach kws X.env)).any (·.1.isNone)) = false := by rfl) :
    PE X (.Call (.Attribute o m apos) [] kws pos) (tMethN C m 0 ks.length sp (fun vs zs => vs ++ zs) E0 ta tNil tk) := by
  obtain ⟨f, fd, ps, g, a, b, d⟩ := h.ex
  exact pe_methN0 ho cl a d (hr.mono hj) b pass0 hkw ht hall hks hpl
end
section
variable {P : Program} {w : World} {K : PySem.W.Frag} {mg : Str → Option Value} {base : Heap} {CX : CXT} {k n : Nat} {C : Addr} {m qual : Str} {st : Stmt} {ps ks : List Str} {sp : Sp}
theorem TxM.knk (t : TxM K C m qual st ps) (hb : ∀ f fd, Fun K m qual st f fd → KBn K fd ps n ks (fun us ws => us ++ ws) (fun vs zs => vs ++ zs)) (h : ∀ f fd, Fun K m qual st f fd → FnOk P w K mg base CX k f fd ps sp) : KnMK P w K mg base CX k C m n ks sp :=
  let ⟨f, fd, a, b, _⟩ := t.ex
  ⟨f, fd, ps, _, a, hb f fd b, h f fd b⟩
end
section
variable {σ : L2.St} {H : Hp} {Q : VK}
def MethNK (C : Addr) (m : Str) (R : V → Hp → Prop) (x : V) (H : Hp) : Prop := ∃ a dx fs, x = .ref a ∧ H a = some (.ins C dx fs) ∧ fs.lookup m = none ∧ R x H
theorem w_methN {C : Addr} {m : Str} {n nk : Nat} {sp : Sp} {gV : List V → List V → List V} {E : XK} {ta : TE} {t tk : TA} (h : ta σ H fun x H1 => MethK C m (fun x H1 => t σ H1 fun vs H2 => tk σ H2 fun zs H3 => vs.length = n ∧ zs.length = nk ∧ sp (gV (x :: vs) zs) H3 Q E) x H1) : tMethN C m n nk sp gV E ta t tk σ H Q := h
end
end Rd

set_option Elab.async false
set_option linter.all false
set_option maxRecDepth 100000
set_option autoImplicit false
set_option maxHeartbeats 4000000
namespace Nu
open PySem PySem.Spec PyProof.Rows L2 Rd Tm
/-! ### keys, as numbers -/
def inW (n : Int) : Bool := decide (-9223372036854775808 ≤ n) && decide (n ≤ 9223372036854775807)
def wholeM : Nm → Option Int
  | .int i => some i
  | .fl (.fin s t p) => if p < 0 then none else if 64 < bits t + p then none else if inW (s * (t * 2 ^ p.toNat)) = true then some (s * (t * 2 ^ p.toNat)) else none
  | .fl _ => none
theorem wholeM_fin (s t p : Int) : wholeM (.fl (.fin s t p)) = if p < 0 then none else if 64 < bits t + p then none else if inW (s * (t * 2 ^ p.toNat)) = true then some (s * (t * 2 ^ p.toNat)) else none := rfl
def ov : Option Int → L2.V
  | some i => .int i
  | none => .non
theorem inW_iff {n : Int} : inW n = true ↔ -9223372036854775808 ≤ n ∧ n ≤ 9223372036854775807 := by
  unfold inW
  simp only [Bool.and_eq_true, decide_eq_true_eq]
theorem whole_in {f : Fl} {i : Int} (e : wholeM (.fl f) = some i) : -9223372036854775808 ≤ i ∧ i ≤ 9223372036854775807 := by
  cases f with
  | fin s t p =>
    rw [wholeM_fin] at e
    split at e
    · cases e
    · split at e
      · cases e
      · split at e
        · rename_i c
          rw [← Option.some.inj e]
          exact inW_iff.1 c
        · cases e
  | inf s => cases e
  | nan => cases e
theorem ratT_eq (s t p : Int) : ratT s t p = s * (t * 2 ^ p.toNat) := by
  unfold ratT
  split
  · rw [show p.toNat = 0 by omega, Int.pow_zero, Int.mul_one]
  · rfl
theorem ratB_eq (p : Int) : ratB p = 2 ^ (-p).toNat := by
  unfold ratB
  split
  · rw [show 0 - p = -p by omega]
  · rw [show (-p).toNat = 0 by omega]
    rfl
theorem sg_eq {s s' x y : Int} (hs : s = 1 ∨ s = -1) (hs' : s' = 1 ∨ s' = -1) (hx : 0 < x) (hy : 0 < y) (e : s * x = s' * y) : s = s' ∧ x = y := by
  rcases hs with rfl | rfl <;> rcases hs' with rfl | rfl <;> omega
theorem odd_pow : ∀ (k j : Nat) (m n : Int), (2 : Int) ^ k * (2 * m + 1) = 2 ^ j * (2 * n + 1) → k = j ∧ m = n
  | 0, 0, m, n, e => by simp at e; omega
  | 0, j + 1, m, n, e => by
    rw [Int.pow_zero, Int.one_mul, Int.pow_succ, Int.mul_comm (2 ^ j) 2, Int.mul_assoc] at e
    omega
  | k + 1, 0, m, n, e => by
    rw [Int.pow_zero, Int.one_mul, Int.pow_succ, Int.mul_comm (2 ^ k) 2, Int.mul_assoc] at e
    omega
  | k + 1, j + 1, m, n, e => by
    rw [Int.pow_succ, Int.pow_succ, Int.mul_comm (2 ^ k) 2, Int.mul_comm (2 ^ j) 2, Int.mul_assoc, Int.mul_assoc] at e
    obtain ⟨h1, h2⟩ := odd_pow k j m n (by omega)
    exact ⟨by omega, h2⟩
theorem rat_inj {s t p s' t' p' : Int} (h : (Fl.fin s t p).ok) (h' : (Fl.fin s' t' p').ok) (n : t ≠ 0) (n' : t' ≠ 0) (e : ratT s t p * ratB p' = ratT s' t' p' * ratB p) : s = s' ∧ t = t' ∧ p = p' := by
  obtain ⟨hs, h0, _, _, h3⟩ := h
  obtain ⟨hs', h0', _, _, h3'⟩ := h'
  obtain ⟨_, _, o⟩ := h3 n
  obtain ⟨_, _, o'⟩ := h3' n'
  rw [ratT_eq, ratT_eq, ratB_eq, ratB_eq, Int.mul_assoc, Int.mul_assoc, Int.mul_assoc, Int.mul_assoc, ← Int.pow_add, ← Int.pow_add] at e
  obtain ⟨e1, e2⟩ := sg_eq hs hs' (Int.mul_pos (by omega) (pow_pos2 _)) (Int.mul_pos (by omega) (pow_pos2 _)) e
  obtain ⟨m, hm⟩ : ∃ m, t = 2 * m + 1 := ⟨t / 2, by omega⟩
  obtain ⟨m', hm'⟩ : ∃ m, t' = 2 * m + 1 := ⟨t' / 2, by omega⟩
  rw [hm, hm', Int.mul_comm (2 * m + 1), Int.mul_comm (2 * m' + 1)] at e2
  obtain ⟨e3, e4⟩ := odd_pow _ _ _ _ e2
  exact ⟨e1, by omega, by omega⟩
theorem bits_sg {s x : Int} (hs : s = 1 ∨ s = -1) : bits (s * x) = bits x := by
  rcases hs with rfl | rfl
  · rw [Int.one_mul]
  · have a := fun k : Nat => bits_le (n := -1 * x) (k := k)
    have b := fun k : Nat => bits_le (n := x) (k := k)
    have e : (-1 * x).natAbs = x.natAbs := by omega
    have e1 : bits (-1 * x) = (Builtin.Int.intBits (-1 * x) : Nat) := rfl
    have e2 : bits x = (Builtin.Int.intBits x : Nat) := rfl
    have p1 := (a (Builtin.Int.intBits (-1 * x))).1 (by omega)
    have p2 := (b (Builtin.Int.intBits x)).1 (by omega)
    rw [e] at p1
    have p3 := (b (Builtin.Int.intBits (-1 * x))).2 p1
    rw [← e] at p2
    have p4 := (a (Builtin.Int.intBits x)).2 p2
    omega
theorem bits64' {i : Int} (h1 : -9223372036854775808 ≤ i) (h2 : i ≤ 9223372036854775807) : bits i ≤ 64 := by
  have := (bits_le (n := i) (k := 64)).2
  refine this ?_
  have e : (2 : Nat) ^ 64 = 18446744073709551616 := by decide
  rw [e]
  omega
theorem fin_int {s t p i : Int} (h : (Fl.fin s t p).ok) (n : t ≠ 0) (hw : wholeM (.fl (.fin s t p)) = none) (hi : -9223372036854775808 ≤ i ∧ i ≤ 9223372036854775807) (e : ratT s t p * 1 = i * ratB p) : False := by
  obtain ⟨hs, h0, _, _, h3⟩ := h
  obtain ⟨_, _, o⟩ := h3 n
  rw [ratT_eq, ratB_eq, Int.mul_one] at e
  by_cases c : p < 0
  · obtain ⟨k, hk⟩ : ∃ k, (-p).toNat = k + 1 := ⟨(-p).toNat - 1, by omega⟩
    rw [hk, show p.toNat = 0 by omega, Int.pow_zero, Int.mul_one, Int.pow_succ, ← Int.mul_assoc] at e
    rcases hs with rfl | rfl <;> omega
  · rw [show (-p).toNat = 0 by omega, Int.pow_zero, Int.mul_one] at e
    rw [wholeM_fin, if_neg c] at hw
    have b := bits_shift (n := t) (by omega) p.toNat
    have b2 := bits_sg (x := t * 2 ^ p.toNat) hs
    have b3 := bits64' hi.1 hi.2
    rw [← e] at b3
    rw [if_neg (by omega), e, if_pos (inW_iff.2 hi)] at hw
    cases hw
theorem rat_small {s t p : Int} (h : (Fl.fin s t p).ok) : (ratT s t p).natAbs < 2 ^ 1024 := by
  obtain ⟨bs, bt, p1, p2, t0, tp⟩ := ok_bounds h
  obtain ⟨hs, _⟩ := h
  rw [ratT_eq]
  refine (bits_le (k := 1024)).1 ?_
  rw [bits_sg hs]
  have := bits_mul_pow t0 p.toNat
  omega
theorem inf_fin {s s' t p : Int} (hs : s = 1 ∨ s = -1) (h : (Fl.fin s' t p).ok) (e : s * 2 ^ 1025 * ratB p = ratT s' t p * 1) : False := by
  have a := rat_small h
  have b := ratB_pos p
  rw [Int.mul_one] at e
  rw [← e, Int.natAbs_mul, Int.natAbs_mul] at a
  have e1 : s.natAbs = 1 := by rcases hs with rfl | rfl <;> rfl
  have e2 : ((2 : Int) ^ 1025).natAbs = 2 ^ 1025 := by rw [Int.natAbs_pow]; rfl
  rw [e1, e2, Nat.one_mul] at a
  have b1 : 1 ≤ (ratB p).natAbs := by omega
  have := Nat.mul_le_mul_left (2 ^ 1025) b1
  have p1 : (2 : Nat) ^ 1025 = 2 ^ 1024 * 2 := Nat.pow_succ 2 1024
  have p2 := Nat.two_pow_pos 1024
  rw [p1] at a this
  generalize (2 : Nat) ^ 1024 = X at a this p2
  omega
theorem big1025 : (2 : Int) ^ 1025 > 18446744073709551616 := by decide
theorem inf_int {s i : Int} (hs : s = 1 ∨ s = -1) (hi : -9223372036854775808 ≤ i ∧ i ≤ 9223372036854775807) (e : s * 2 ^ 1025 * 1 = i * 1) : False := by
  have := big1025
  generalize (2 : Int) ^ 1025 = X at e this
  rcases hs with rfl | rfl <;> omega
theorem inf_inf {s s' : Int} (hs : s = 1 ∨ s = -1) (hs' : s' = 1 ∨ s' = -1) (e : s * 2 ^ 1025 * 1 = s' * 2 ^ 1025 * 1) : s = s' := by
  have := big1025
  generalize (2 : Int) ^ 1025 = X at e this
  rcases hs with rfl | rfl <;> rcases hs' with rfl | rfl <;> omega
theorem sgn0 {g : Int} : (V.int (sgnV g) = V.int 0) ↔ g = 0 := by
  unfold sgnV
  constructor
  · intro h
    have h := V.int.inj h
    split at h <;> split at h <;> omega
  · rintro rfl
    rfl
def nmK : Ky → Option Nm
  | .int i => some (.int i)
  | .fl s t p => some (.fl (.fin s t p))
  | .inf s => some (.fl (.inf s))
  | _ => none
def KyOk : Ky → Prop
  | .int i => -9223372036854775808 ≤ i ∧ i ≤ 9223372036854775807
  | .fl s t p => (Fl.fin s t p).ok ∧ t ≠ 0 ∧ wholeM (.fl (.fin s t p)) = none
  | .inf s => s = 1 ∨ s = -1
  | _ => True
theorem ord_iff {n m : Nm} {a b : Int × Int} (hn : place n = some a) (hm : place m = some b) : (ordV n m = .int 0) ↔ a.1 * b.2 = b.1 * a.2 := by
  unfold ordV
  rw [hn, hm]
  simp only
  rw [sgn0]
  unfold gap
  omega
theorem ord_ky {k k' : Ky} {n n' : Nm} (hk : KyOk k) (hk' : KyOk k') (e : nmK k = some n) (e' : nmK k' = some n') : (ordV n n' = .int 0) ↔ k = k' := by
  cases k with
  | str z => cases e
  | bl b => cases e
  | ob a m => cases e
  | nt a z => cases e
  | int i =>
    cases e
    cases k' with
    | str z => cases e'
    | bl b => cases e'
    | ob a m => cases e'
    | nt a z => cases e'
    | int j =>
      cases e'
      rw [ord_iff (a := (i, 1)) (b := (j, 1)) rfl rfl, Ky.int.injEq]
      simp only
      omega
    | fl s t p =>
      cases e'
      rw [ord_iff (a := (i, 1)) (b := (ratT s t p, ratB p)) rfl rfl]
      exact ⟨fun h => (fin_int hk'.1 hk'.2.1 hk'.2.2 hk h.symm).elim, fun h => by cases h⟩
    | inf s =>
      cases e'
      rw [ord_iff (a := (i, 1)) (b := (s * 2 ^ 1025, 1)) rfl rfl]
      exact ⟨fun h => (inf_int hk' hk h.symm).elim, fun h => by cases h⟩
  | fl s t p =>
    cases e
    cases k' with
    | str z => cases e'
    | bl b => cases e'
    | ob a m => cases e'
    | nt a z => cases e'
    | int j =>
      cases e'
      rw [ord_iff (a := (ratT s t p, ratB p)) (b := (j, 1)) rfl rfl]
      exact ⟨fun h => (fin_int hk.1 hk.2.1 hk.2.2 hk' h).elim, fun h => by cases h⟩
    | fl s' t' p' =>
      cases e'
      rw [ord_iff (a := (ratT s t p, ratB p)) (b := (ratT s' t' p', ratB p')) rfl rfl, Ky.fl.injEq]
      constructor
      · exact fun h => rat_inj hk.1 hk'.1 hk.2.1 hk'.2.1 h
      · rintro ⟨rfl, rfl, rfl⟩; rfl
    | inf s' =>
      cases e'
      rw [ord_iff (a := (ratT s t p, ratB p)) (b := (s' * 2 ^ 1025, 1)) rfl rfl]
      exact ⟨fun h => (inf_fin hk' hk.1 h.symm).elim, fun h => by cases h⟩
  | inf s =>
    cases e
    cases k' with
    | str z => cases e'
    | bl b => cases e'
    | ob a m => cases e'
    | nt a z => cases e'
    | int j =>
      cases e'
      rw [ord_iff (a := (s * 2 ^ 1025, 1)) (b := (j, 1)) rfl rfl]
      exact ⟨fun h => (inf_int hk hk' h).elim, fun h => by cases h⟩
    | fl s' t' p' =>
      cases e'
      rw [ord_iff (a := (s * 2 ^ 1025, 1)) (b := (ratT s' t' p', ratB p')) rfl rfl]
      exact ⟨fun h => (inf_fin hk hk'.1 h).elim, fun h => by cases h⟩
    | inf s' =>
      cases e'
      rw [ord_iff (a := (s * 2 ^ 1025, 1)) (b := (s' * 2 ^ 1025, 1)) rfl rfl, Ky.inf.injEq]
      exact ⟨fun h => inf_inf hk hk' h, fun h => by rw [h]⟩
/-! ### keys on the heap -/
def KeyAt (CF CT : Addr) (E : Hp) : Ky → V → Prop
  | .int i, v => v = .int i
  | .str z, v => v = .str z
  | .bl b, v => v = .bl b
  | .fl s t p, v => ∃ a, v = .ref a ∧ FlAt CF E a (.fin s t p)
  | .inf s, v => ∃ a, v = .ref a ∧ FlAt CF E a (.inf s)
  | .ob a m, v => v = .ref a ∧ ∃ dx fs, E a = some (.ins CT dx fs) ∧ fs.lookup ("number" : Str) = some (.int m)
  | .nt _ _, _ => False
theorem KeyAt.mono {CF CT : Addr} {E E' : Hp} {k : Ky} {v : V} (h : KeyAt CF CT E k v) (s : Same E E') : KeyAt CF CT E' k v := by
  cases k with
  | int i => exact h
  | str z => exact h
  | bl b => exact h
  | fl s' t p => obtain ⟨a, e, f⟩ := h; exact ⟨a, e, f.same s⟩
  | inf s' => obtain ⟨a, e, f⟩ := h; exact ⟨a, e, f.same s⟩
  | ob a m => obtain ⟨e, dx, fs, f, l⟩ := h; exact ⟨e, dx, fs, s _ _ f, l⟩
  | nt a z => exact h
theorem kd_ky {K : PySem.W.Frag} {CF CT : Addr} {E H : Hp} {k : Ky} {v : V} (h : KyOk k) (a : KeyAt CF CT E k v) (s : Same E H) : Kd K CF CT H v (nmK k) := by
  cases k with
  | int i =>
    obtain rfl : v = .int i := a
    exact .num ⟨rfl, by have := bits64' h.1 h.2; omega⟩
  | str z => obtain rfl : v = .str z := a; exact .str z
  | bl b => obtain rfl : v = .bl b := a; exact .bl b
  | fl s' t p => obtain ⟨b, rfl, f⟩ := a; exact .num ⟨b, rfl, f.same s, h.1⟩
  | inf s' => obtain ⟨b, rfl, f⟩ := a; exact .num ⟨b, rfl, f.same s, h⟩
  | ob b m => obtain ⟨rfl, dx, fs, f, _⟩ := a; exact .tab ⟨b, dx, fs, rfl, s _ _ f⟩
  | nt b z => exact a.elim
theorem same_ky {CF CT : Addr} {E : Hp} {k k' : Ky} {v v' : V} (h : KyOk k) (h' : KyOk k') (a : KeyAt CF CT E k v) (a' : KeyAt CF CT E k' v') : sameB v v' (nmK k) (nmK k') = decide (k = k') := by
  cases e : nmK k with
  | some n =>
    cases e' : nmK k' with
    | some n' => exact decide_eq_decide.2 (ord_ky h h' e e')
    | none =>
      refine (decide_eq_false fun z => ?_).symm
      rw [z, e'] at e
      cases e
  | none =>
    cases e' : nmK k' with
    | some n' =>
      refine (decide_eq_false fun z => ?_).symm
      rw [← z, e] at e'
      cases e'
    | none =>
      refine decide_eq_decide.2 ?_
      cases k with
      | int i => cases e
      | fl s t p => cases e
      | inf s => cases e
      | nt b z => exact a.elim
      | str z =>
        obtain rfl : v = .str z := a
        cases k' with
        | int i => cases e'
        | fl s t p => cases e'
        | inf s => cases e'
        | nt b z => exact a'.elim
        | str z' => obtain rfl : v' = .str z' := a'; exact ⟨fun h => by cases h; rfl, fun h => by cases h; rfl⟩
        | bl b => obtain rfl : v' = .bl b := a'; exact ⟨fun h => (by cases h), fun h => (by cases h)⟩
        | ob b m => obtain ⟨rfl, _⟩ := a'; exact ⟨fun h => (by cases h), fun h => by cases h⟩
      | bl b =>
        obtain rfl : v = .bl b := a
        cases k' with
        | int i => cases e'
        | fl s t p => cases e'
        | inf s => cases e'
        | nt b z => exact a'.elim
        | str z' => obtain rfl : v' = .str z' := a'; exact ⟨fun h => (by cases h), fun h => (by cases h)⟩
        | bl b' => obtain rfl : v' = .bl b' := a'; exact ⟨fun h => by cases h; rfl, fun h => by cases h; rfl⟩
        | ob b m => obtain ⟨rfl, _⟩ := a'; exact ⟨fun h => (by cases h), fun h => by cases h⟩
      | ob b m =>
        obtain ⟨rfl, dx, fs, f, l⟩ := a
        cases k' with
        | int i => cases e'
        | fl s t p => cases e'
        | inf s => cases e'
        | nt b z => exact a'.elim
        | str z' => obtain rfl : v' = .str z' := a'; exact ⟨fun h => (by cases h), fun h => (by cases h)⟩
        | bl b' => obtain rfl : v' = .bl b' := a'; exact ⟨fun h => (by cases h), fun h => (by cases h)⟩
        | ob b' m' =>
          obtain ⟨rfl, dx', fs', f', l'⟩ := a'
          constructor
          · intro h
            have h := V.ref.inj h
            subst h
            rw [f] at f'
            cases f'
            rw [l] at l'
            cases l'
            rfl
          · intro h; cases h; rfl
/-! ### what is handed in as a key -/
inductive Rw where
  | ky (k : Ky)
  | wh (i : Int)
  | nil
  | nan
def RwAt (CF CT : Addr) (E : Hp) : Rw → V → Prop
  | .ky k, v => KyOk k ∧ KeyAt CF CT E k v
  | .wh i, v => ∃ a f, v = .ref a ∧ FlAt CF E a f ∧ f.ok ∧ wholeM (.fl f) = some i
  | .nil, v => v = .non
  | .nan, v => ∃ a, v = .ref a ∧ FlAt CF E a .nan
theorem RwAt.mono {CF CT : Addr} {E E' : Hp} {r : Rw} {v : V} (h : RwAt CF CT E r v) (s : Same E E') : RwAt CF CT E' r v := by
  cases r with
  | ky k => exact ⟨h.1, h.2.mono s⟩
  | wh i => obtain ⟨a, f, e, g, o, w⟩ := h; exact ⟨a, f, e, g.same s, o, w⟩
  | nil => exact h
  | nan => obtain ⟨a, e, g⟩ := h; exact ⟨a, e, g.same s⟩
/-- the plain key of what is handed in; none of nil and nan -/
def Rw.pl : Rw → Option Ky
  | .ky k => some k
  | .wh i => some (.int i)
  | _ => none
/-- what plain_key tells -/
def PlAt (CF CT : Addr) (E : Hp) : Rw → V → Prop
  | .ky k, v => KyOk k ∧ KeyAt CF CT E k v
  | .wh i, v => v = .int i ∧ KyOk (.int i)
  | .nil, v => v = .non
  | .nan, v => ∃ a, v = .ref a ∧ FlAt CF E a .nan
theorem PlAt.key {CF CT : Addr} {E : Hp} {r : Rw} {k : Ky} {v : V} (h : PlAt CF CT E r v) (e : r.pl = some k) : KyOk k ∧ KeyAt CF CT E k v := by
  cases r with
  | ky k' => cases e; exact h
  | wh i => cases e; exact ⟨h.2, h.1⟩
  | nil => cases e
  | nan => cases e
end Nu

set_option Elab.async false
set_option linter.all false
set_option maxRecDepth 100000
set_option autoImplicit false
set_option maxHeartbeats 4000000
namespace Nu
open PySem PySem.Spec PyProof.Rows L2 Rd Tm
local macro_rules | `(tactic| walk_at "hp") => `(tactic| first | assumption | (refine same_get ?sm ?_; (case sm => assumption); walk_at "hp"))
local macro_rules | `(tactic| walk_at "rd") => `(tactic| first
  | (with_reducible show Ends.nx _ _ _; with_reducible refine w_nx ?_)
  | with_reducible refine w_rt ?_
  | (with_reducible show Ends.bk _ _ _; with_reducible refine w_bk ?_)
  | (with_reducible show Ends.ct _ _ _; with_reducible refine w_ct ?_)
  | with_reducible refine w_seq ?_
  | with_reducible refine w_next ?_
  | with_reducible refine w_ret ?_
  | with_reducible refine w_ifS ?_
  | with_reducible refine w_asg ?_
  | with_reducible refine w_name ?_
  | with_reducible refine w_par ?_
  | with_reducible refine w_parI ?_
  | with_reducible refine w_ii ?_
  | with_reducible refine w_i1 ?_
  | with_reducible refine w_drop ?_
  | with_reducible refine w_sFld ?_
  | ((with_reducible refine' w_var ?rdh ?_); (case rdh => exact rfl))
  | with_reducible refine w_c ?_
  | with_reducible refine w_op ?_
  | with_reducible refine w_un ?_
  | with_reducible refine w_I0 ?_
  | with_reducible refine w_U ?_
  | with_reducible refine w_bits ?_
  | with_reducible refine w_bitsI ?_
  | with_reducible refine w_tup ?_
  | with_reducible refine w_lst ?_
  | with_reducible refine w_nil ?_
  | with_reducible refine w_cons ?_
  | with_reducible refine w_fld ?_
  | with_reducible refine w_call ?_
  | with_reducible refine w_make ?_
  | with_reducible refine w_gsub ?_
  | with_reducible refine w_int1 ?_
  | with_reducible refine w_intB ?_
  | with_reducible refine w_for ?_
  | with_reducible refine w_rng1 ?_
  | with_reducible refine w_iList ?_
  | with_reducible refine w_iTup ?_
  | with_reducible refine w_makeD ?_
  | with_reducible refine w_nn ?_
  | with_reducible refine w_subB ?_
  | with_reducible refine w_meth ?_
  | with_reducible refine w_cb ?_
  | with_reducible refine w_test ?_
  | with_reducible refine w_B ?_
  | with_reducible refine w_bl ?_
  | with_reducible refine w_andV ?_
  | with_reducible refine w_orV ?_
  | with_reducible refine w_notV ?_
  | with_reducible refine w_and ?_
  | with_reducible refine w_or ?_
  | with_reducible refine w_not ?_
  | with_reducible refine w_if ?_
  | with_reducible refine w_gnil ?_
  | with_reducible refine w_gcons ?_
  | with_reducible refine iT ?_
  | with_reducible refine iF ?_
  | with_reducible refine w_eqI ?_
  | with_reducible refine w_neI ?_
  | with_reducible refine w_eqS ?_
  | with_reducible refine w_eqIS ?_
  | with_reducible refine w_eqSI ?_)

abbrev s_Node_init : Stmt := inClass (top 39) 0
abbrev s_whole_of : Stmt := top 22
abbrev s_float_sum : Stmt := top 31
abbrev s_sum_of : Stmt := top 30
abbrev s_place_of_tables : Stmt := top 32
abbrev s_plain_key : Stmt := top 34
abbrev s_is_nan : Stmt := top 35
abbrev s_is_whole : Stmt := top 36
abbrev s_best_size : Stmt := top 38
abbrev s_Table_find : Stmt := inClass (top 40) 2
abbrev s_Table_is_inside : Stmt := inClass (top 40) 3
abbrev s_Table_get : Stmt := inClass (top 40) 4
abbrev s_Table_put : Stmt := inClass (top 40) 5
abbrev s_Table_put_new : Stmt := inClass (top 40) 6
abbrev s_Table_ahead_of : Stmt := inClass (top 40) 7
abbrev s_Table_free_place : Stmt := inClass (top 40) 8
abbrev s_Table_grow : Stmt := inClass (top 40) 9
abbrev s_Table_resize : Stmt := inClass (top 40) 10
abbrev s_Table_make_room : Stmt := inClass (top 40) 11
abbrev s_Table_border : Stmt := inClass (top 40) 12
abbrev s_Table_border_beyond : Stmt := inClass (top 40) 13
abbrev s_Table_between : Stmt := inClass (top 40) 14
abbrev s_Table_index_of : Stmt := inClass (top 40) 15
abbrev s_Table_next_after : Stmt := inClass (top 40) 16
abbrev s_Table_room : Stmt := inClass (top 40) 17
abbrev s_Table_rows : Stmt := inClass (top 40) 18
/-- what the text has of nodes, and the tables' functions -/
structure AllN (K : PySem.W.Frag) (mg : Str → Option Value) (CF CT CN CZ : Addr) : Prop extends AllT K mg CF CT where
  g_Native : mg "Native" = some (.ref CZ)
  i_TZ : PySem.W.kitOne K (.ref CT) (.ref CZ) = some false
  b_list : mg "list" = none
  c_LOW_HALF : ∃ t, mg "LOW_HALF" = some (.int 2147483647 t)
  x_whole_of : Tx K mg "whole_of" "whole_of" s_whole_of ["number"]
  x_float_sum : Tx K mg "float_sum" "float_sum" s_float_sum ["number"]
  x_rows : TxM K CT "rows" "Table.rows" s_Table_rows ["self"]
  g_Node : mg "Node" = some (.ref CN)
  l_Node : Cls K CN
  ne_TN : ¬ CT = CN
  b_enumerate : mg "enumerate" = none
  b_ord : mg "ord" = none
  c_MOST_PLACE : ∃ t, mg "MOST_PLACE" = some (.int 2147483648 t)
  n_key : NoAttr K CN "key"
  n_value : NoAttr K CN "value"
  n_link : NoAttr K CN "link"
  n_dead : NoAttr K CN "is_dead"
  x_Node : TxC K mg "Node" CN "Node.__init__" s_Node_init ["self", "key", "value", "link"]
  x_sum : Tx K mg "sum_of" "sum_of" s_sum_of ["text"]
  x_pot : Tx K mg "place_of_tables" "place_of" s_place_of_tables ["key", "size"]
  x_plain_key : Tx K mg "plain_key" "plain_key" s_plain_key ["key"]
  x_is_nan : Tx K mg "is_nan" "is_nan" s_is_nan ["key"]
  x_is_whole : Tx K mg "is_whole" "is_whole" s_is_whole ["key"]
  x_best_size : Tx K mg "best_size" "best_size" s_best_size ["counts"]
  x_find : TxM K CT "find" "Table.find" s_Table_find ["self", "key", "with_dead"]
  x_is_inside : TxM K CT "is_inside" "Table.is_inside" s_Table_is_inside ["self", "key"]
  x_get : TxM K CT "get" "Table.get" s_Table_get ["self", "key"]
  x_put : TxM K CT "put" "Table.put" s_Table_put ["self", "key", "value"]
  x_put_new : TxM K CT "put_new" "Table.put_new" s_Table_put_new ["self", "key", "value"]
  x_ahead_of : TxM K CT "ahead_of" "Table.ahead_of" s_Table_ahead_of ["self", "key", "at"]
  x_free_place : TxM K CT "free_place" "Table.free_place" s_Table_free_place ["self"]
  x_grow : TxM K CT "grow" "Table.grow" s_Table_grow ["self", "key"]
  x_resize : TxM K CT "resize" "Table.resize" s_Table_resize ["self", "array", "nodes"]
  x_make_room : TxM K CT "make_room" "Table.make_room" s_Table_make_room ["self", "count"]
  x_border : TxM K CT "border" "Table.border" s_Table_border ["self"]
  x_border_beyond : TxM K CT "border_beyond" "Table.border_beyond" s_Table_border_beyond ["self", "low"]
  x_between : TxM K CT "between" "Table.between" s_Table_between ["self", "low", "high"]
  x_index_of : TxM K CT "index_of" "Table.index_of" s_Table_index_of ["self", "key"]
  x_next_after : TxM K CT "next_after" "Table.next_after" s_Table_next_after ["self", "key"]
  x_room : TxM K CT "room" "Table.room" s_Table_room ["self"]
def sumL (l : List Nat) : Int := l.foldl (fun (f : Int) (c : Nat) => (31 * f + (c : Int)) % 4294967296) 0
def sumS (z : Str) : Int := sumL z.cps.toList
def flS (s t p : Int) : Int :=
  let f := (p + bits t + s * (t * 2 ^ 31 / 2 ^ (Builtin.Int.intBits t))) % 4294967296
  if f ≤ 2147483647 then f else 4294967295 - f
def plS (k : Ky) (n : Nat) : Nat := (rawPlace sumS flS k n).toNat
theorem plS_lt (k : Ky) (n : Nat) (h : 0 < n) : plS k n < n := by
  have := rawPlace_lt sumS flS k (n := (n : Int)) (by omega)
  unfold plS
  omega
theorem plS_int (k : Ky) (n : Nat) (h : 0 < n) : ((plS k n : Nat) : Int) = rawPlace sumS flS k n := by
  have := rawPlace_lt sumS flS k (n := (n : Int)) (by omega)
  unfold plS
  omega
section
variable {P : Program} {w : World} {K : PySem.W.Frag} {mg : Str → Option Value} {base : Heap} {CF CT CN CZ : Addr}
/-- what isinstance says of a key -/
def isIn : Ky → Bool
  | .int _ => true
  | _ => false
def isBk : Ky → Bool
  | .bl _ => true
  | _ => false
def isSk : Ky → Bool
  | .str _ => true
  | _ => false
def isFk : Ky → Bool
  | .fl _ _ _ => true
  | .inf _ => true
  | _ => false
theorem says_ky (T : AllN K mg CF CT CN CZ) {E H : Hp} {k : Ky} {v : V} (a : KeyAt CF CT E k v) (s : Same E H) : Says K CF H v (isIn k) (isBk k) (isSk k) (isFk k) := by
  cases k with
  | int i => obtain rfl : v = .int i := a; exact says_int T.toAll
  | str z => obtain rfl : v = .str z := a; exact says_str T.toAll
  | bl b => obtain rfl : v = .bl b := a; exact says_bl T.toAll
  | fl s' t p => obtain ⟨b, rfl, dx, e⟩ := a; exact says_fl T.toAll (s _ _ e)
  | inf s' => obtain ⟨b, rfl, dx, e⟩ := a; exact says_fl T.toAll (s _ _ e)
  | ob b m => obtain ⟨rfl, dx, fs, e, _⟩ := a; exact ⟨_, ty_ins T.l_Table T.y_Table (s _ _ e), T.i_Tint, T.i_Tbool, T.i_Tstr, T.i_TF⟩
  | nt b z => exact a.elim
/-! ### whole_of, float_sum -/
def spWhole (CF : Addr) : Sp := fun vs H Q _ => ∃ a f, vs = [.ref a] ∧ FlAt CF H a f ∧ f.ok ∧ ∀ H', Same H H' → Q (ov (wholeM (.fl f))) H'
theorem sc_whole_of : FnScope ["number", "whole"] ["number"] (defScope s_whole_of) := ⟨rfl, rfl, rfl, by decide +kernel, rfl, by decide +kernel, by decide +kernel⟩
theorem ok_whole_of (T : AllN K mg CF CT CN CZ) (k_Float_is_finite : KnM P w K mg base CX0 1 CF "is_finite" ["self"] (spFinite CF)) (k_Float_ratio : KnM P w K mg base CX0 1 CF "ratio" ["self"] (spRatio CF)) : Kn P w K mg base CX0 2 "whole_of" ["number"] (spWhole CF) := by
  refine T.x_whole_of.kn fun f fd F => ?_
  refine F.ok sc_whole_of (fun vs H Q E h => ?_) (fun cdv A outer s H vs Q E hr h => ?_)
  · obtain ⟨a, f, rfl, _⟩ := h
    rfl
  · obtain ⟨a, f, rfl, hf, ok, q⟩ := h
    refine ⟨_, (pss_cons (ps_if (pt_not (pt_val (pe_callB call_isi (by rfl) T.b_isinstance boot_isinstance (pa_cons (pv 0) (pa_cons (pg "Float" T.g_Float (rref _)) pa_nil))))) (pss_one (ps_ret (pv 0))) pss_nil)
      (pss_cons (ps_if (PW.pt (pw_or (pt_not (pt_val (pkM0 k_Float_is_finite T.l_Float hr (pv 0) rfl))) (pw_or (pt_cmpR op_lt (pe_fld (pv 0) rfl) pe_int (nomark _)) (pw_or1 (pt_cmpR op_gt (pe_op op_add (pe_bits (pe_fld (pv 0) rfl)) (pe_fld (pv 0) rfl)) pe_int (nomark _)))))) (pss_one (ps_ret pe_non)) pss_nil)
      (pss_cons (ps_set (i := 1) sc_whole_of.nd rfl (Or.inl rfl) (pe_ix ix_tup (pkM0 k_Float_ratio T.l_Float hr (pv 0) rfl) pe_int (fun _ _ => rfl)))
      (pss_one (ps_ret (pe_ifExp (pt_chain op_le op_le (pgE "LEAST" T.c_LEAST) (pv 1) (pgE "MOST" T.c_MOST)) (pv 1) pe_non)))))), ?_⟩
    obtain ⟨dx, h1⟩ := id hf
    obtain ⟨ty, tyx, i1, i2, i3, i4⟩ := says_fl T.toAll h1
    repeat walk_at "rd"
    refine w_isi (.own CF) tyx i4 ?_
    repeat walk_at "rd"
    refine iF ?_
    repeat walk_at "rd"
    refine w_methI h1 (lk_fin _ _ _) ?_
    repeat walk_at "rd"
    refine ⟨a, _, rfl, hf, ?_⟩
    cases f with
    | inf s =>
      rw [show (Fl.inf s).isFin = false from rfl]
      repeat walk_at "rd"
      refine iT ?_
      repeat walk_at "rd"
      exact q H (Same.refl _)
    | nan =>
      rw [show Fl.nan.isFin = false from rfl]
      repeat walk_at "rd"
      refine iT ?_
      repeat walk_at "rd"
      exact q H (Same.refl _)
    | fin s t p =>
      have h1 : H a = some (.ins CF dx (flds s (.int t) p)) := h1
      rw [wholeM_fin] at q
      rw [show (Fl.fin s t p).isFin = true from rfl]
      repeat walk_at "rd"
      refine iF ?_
      repeat walk_at "rd"
      refine w_fldI h1 T.l_Float T.n_power (flds_p _ _ _) ?_
      repeat walk_at "rd"
      refine iD (fun c1 => ?_) (fun c1 => ?_)
      · rw [if_pos (show p < 0 from c1)] at q
        repeat walk_at "rd"
        exact q H (Same.refl _)
      rw [if_neg (show ¬ p < 0 from c1)] at q
      repeat walk_at "rd"
      refine w_fldI h1 T.l_Float T.n_top (flds_t _ _ _) ?_
      repeat walk_at "rd"
      refine w_fldI h1 T.l_Float T.n_power (flds_p _ _ _) ?_
      repeat walk_at "rd"
      refine iD (fun c2 => ?_) (fun c2 => ?_)
      · rw [if_pos (show 64 < bits t + p from c2)] at q
        repeat walk_at "rd"
        exact q H (Same.refl _)
      rw [if_neg (show ¬ 64 < bits t + p from c2)] at q
      repeat walk_at "rd"
      refine w_methI h1 (lk_rat _ _ _) ?_
      repeat walk_at "rd"
      refine ⟨a, s, t, p, rfl, hf, ok, fun r H2 s2 n2 e2 => ?_⟩
      repeat walk_at "rd"
      refine w_ixT e2 rfl ?_
      repeat walk_at "rd"
      rw [ratT_eq]
      unfold inW at q
      repeat walk_at "rd"
      refine w_chain ?_
      repeat walk_at "rd"
      refine iD (fun c3 => ?_) (fun c3 => ?_)
      · repeat walk_at "rd"
        rw [decide_eq_true c3, Bool.true_and] at q
        refine iD (fun c4 => ?_) (fun c4 => ?_)
        · rw [if_pos (decide_eq_true c4)] at q
          repeat walk_at "rd"
          exact q H2 s2
        · rw [if_neg (by rw [decide_eq_false c4]; exact Bool.false_ne_true)] at q
          repeat walk_at "rd"
          exact q H2 s2
      · rw [decide_eq_false c3, Bool.false_and, if_neg Bool.false_ne_true] at q
        repeat walk_at "rd"
        exact q H2 s2
def fsM : Fl → Int
  | .fin s t p => flS s t p
  | _ => 0
def spFsum (CF : Addr) : Sp := fun vs H Q _ => ∃ a f, vs = [.ref a] ∧ FlAt CF H a f ∧ f.ok ∧ Q (.int (fsM f)) H
theorem sc_float_sum : FnScope ["number", "width", "part", "found"] ["number"] (defScope s_float_sum) := ⟨rfl, rfl, rfl, by decide +kernel, rfl, by decide +kernel, by decide +kernel⟩
theorem ok_float_sum (T : AllN K mg CF CT CN CZ) (k_Float_is_finite : KnM P w K mg base CX0 1 CF "is_finite" ["self"] (spFinite CF)) : Kn P w K mg base CX0 2 "float_sum" ["number"] (spFsum CF) := by
  refine T.x_float_sum.kn fun f fd F => ?_
  refine F.ok sc_float_sum (fun vs H Q E h => ?_) (fun cdv A outer s H vs Q E hr h => ?_)
  · obtain ⟨a, f, rfl, _⟩ := h
    rfl
  · obtain ⟨a, f, rfl, hf, ok, q⟩ := h
    refine ⟨_, (pss_cons (ps_if (pt_not (pt_val (pkM0 k_Float_is_finite T.l_Float hr (pv 0) rfl))) (pss_one (ps_ret pe_int)) pss_nil)
      (pss_cons (ps_set (i := 1) sc_float_sum.nd rfl (Or.inl rfl) (pe_bits (pe_fld (pv 0) rfl)))
      (pss_cons (ps_set (i := 2) sc_float_sum.nd rfl (Or.inl rfl) (pe_op op_shr (pe_op op_shlW (pe_fld (pv 0) rfl) pe_int) (pv 1)))
      (pss_cons (ps_set (i := 3) sc_float_sum.nd rfl (Or.inl rfl) (pe_op op_mod (pe_op op_add (pe_op op_add (pe_fld (pv 0) rfl) (pv 1)) (pe_op op_mulX (pe_fld (pv 0) rfl) (pv 2))) (pe_op op_pow pe_int pe_int)))
      (pss_one (ps_ret (pe_ifExp (pt_cmpR op_le (pv 3) (pgE "LOW_HALF" T.c_LOW_HALF) (nomark _)) (pv 3) (pe_op op_sub (pe_op op_sub (pe_op op_pow pe_int pe_int) pe_int) (pv 3))))))))), ?_⟩
    obtain ⟨dx, h1⟩ := id hf
    repeat walk_at "rd"
    refine w_methI h1 (lk_fin _ _ _) ?_
    repeat walk_at "rd"
    refine ⟨a, _, rfl, hf, ?_⟩
    cases f with
    | inf s =>
      rw [show (Fl.inf s).isFin = false from rfl]
      repeat walk_at "rd"
      refine iT ?_
      repeat walk_at "rd"
      exact q
    | nan =>
      rw [show Fl.nan.isFin = false from rfl]
      repeat walk_at "rd"
      refine iT ?_
      repeat walk_at "rd"
      exact q
    | fin s t p =>
      have h1 : H a = some (.ins CF dx (flds s (.int t) p)) := h1
      obtain ⟨bs, bt, p1, p2, t0, tp⟩ := ok_bounds ok
      obtain ⟨hs, _⟩ := ok
      rw [show (Fl.fin s t p).isFin = true from rfl]
      repeat walk_at "rd"
      refine iF ?_
      repeat walk_at "rd"
      refine w_fldI h1 T.l_Float T.n_top (flds_t _ _ _) ?_
      repeat walk_at "rd"
      refine w_fldI h1 T.l_Float T.n_top (flds_t _ _ _) ?_
      repeat walk_at "rd"
      refine w_I (cshl (i := t) (j := 31) (by omega) (by decide) (by decide)) ?_
      repeat walk_at "rd"
      refine w_I (show 0 ≤ ((Builtin.Int.intBits t : Nat) : Int) by omega) ?_
      repeat walk_at "rd"
      refine w_fldI h1 T.l_Float T.n_power (flds_p _ _ _) ?_
      repeat walk_at "rd"
      refine w_fldI h1 T.l_Float T.n_sign (flds_s _ _ _) ?_
      repeat walk_at "rd"
      have sm : bits (t * 2 ^ 31 / 2 ^ (Builtin.Int.intBits t)) ≤ 100 := by
        have b1 := bits_mul_pow t0 31
        have a0 : 0 ≤ t * 2 ^ 31 := Int.mul_nonneg t0 (by decide)
        have c1 : t * 2 ^ 31 / 2 ^ (Builtin.Int.intBits t) ≤ t * 2 ^ 31 := Int.ediv_le_self _ a0
        have c0 : 0 ≤ t * 2 ^ 31 / 2 ^ (Builtin.Int.intBits t) := Int.ediv_nonneg a0 (Int.le_of_lt (pow_pos2 _))
        have b2 := (bits_lt_pow (k := 84) a0).1 (by omega)
        exact (bits_lt_pow (k := 100) c0).2 (Int.lt_of_le_of_lt c1 (Int.lt_of_lt_of_le b2 (by decide)))
      rw [show Int.toNat 31 = 31 from rfl, Int.toNat_natCast]
      refine w_I (cmulx (i := s) (by omega) (by omega)) ?_
      repeat walk_at "rd"
      refine w_I (cpow (by decide) (by decide) (by decide)) ?_
      repeat walk_at "rd"
      refine w_I (by decide) ?_
      repeat walk_at "rd"
      have q : Q (.int (flS s t p)) H := q
      unfold flS at q
      have e32 : (2 : Int) ^ Int.toNat 32 = 4294967296 := by decide
      rw [e32]
      refine iD (fun c => ?_) (fun c => ?_)
      · rw [show bits t = (Builtin.Int.intBits t : Nat) from rfl] at q
        simp only [if_pos c] at q
        repeat walk_at "rd"
        exact q
      · rw [show bits t = (Builtin.Int.intBits t : Nat) from rfl] at q
        simp only [if_neg c] at q
        repeat walk_at "rd"
        refine w_I (cpow (by decide) (by decide) (by decide)) ?_
        repeat walk_at "rd"
        rw [e32]
        exact q
/-! ### sum_of -/
def spSum : Sp := fun vs H Q _ => ∃ z, vs = [.str z] ∧ Q (.int (sumS z)) H
theorem sc_sum_of : FnScope ["text", "found", "sign"] ["text"] (defScope s_sum_of) := ⟨rfl, rfl, rfl, by decide +kernel, rfl, by decide +kernel, by decide +kernel⟩
theorem sumL_snoc (l : List Nat) (c : Nat) : sumL (l ++ [c]) = (31 * sumL l + (c : Int)) % 4294967296 := by
  unfold sumL
  rw [List.foldl_append]
  rfl
theorem sumL_range (l : List Nat) : 0 ≤ sumL l ∧ sumL l < 4294967296 := by
  have : ∀ (l : List Nat) (a : Int), 0 ≤ a ∧ a < 4294967296 → 0 ≤ l.foldl (fun (f : Int) (c : Nat) => (31 * f + (c : Int)) % 4294967296) a ∧ l.foldl (fun (f : Int) (c : Nat) => (31 * f + (c : Int)) % 4294967296) a < 4294967296 := by
    intro l
    induction l with
    | nil => exact fun a h => h
    | cons c l ih => exact fun a h => ih _ ⟨Int.emod_nonneg _ (by decide), Int.emod_lt_of_pos _ (by decide)⟩
  exact this l 0 (by decide)
theorem ok_sum_of (T : AllN K mg CF CT CN CZ) : Kn P w K mg base CX0 1 "sum_of" ["text"] spSum := by
  refine T.x_sum.kn fun f fd F => ?_
  refine F.ok sc_sum_of (fun vs H Q E h => ?_) (fun cdv A outer s H vs Q E hr h => ?_)
  · obtain ⟨z, rfl, _⟩ := h
    rfl
  · obtain ⟨z, rfl, q⟩ := h
    refine ⟨_, (pss_cons (ps_set (i := 1) sc_sum_of.nd rfl (Or.inl rfl) pe_int)
      (pss_cons (ps_for PassesOwn.never rfl (pi_str (pv 0)) (pg_name (i := 2) sc_sum_of.nd rfl (Or.inl rfl))
      (pss_one (ps_set (i := 1) sc_sum_of.nd rfl (Or.inl rfl) (pe_op op_mod (pe_op op_add (pe_op op_mulX pe_int (pv 1)) (pe_callB call_ord (by rfl) T.b_ord boot_ord (pa_cons (pv 2) pa_nil))) (pe_op op_pow pe_int pe_int)))))
      (pss_one (ps_ret (pv 1))))), ?_⟩
    repeat walk_at "rd"
    refine w_iStr ?_
    repeat walk_at "rd"
    refine w_iStrI ?_
    refine for_it (walk_str (z := z)) (fun i σ H' => H' = H ∧ ∃ a, σ = [some (.str z), some (.int (sumL (z.cps.toList.take i))), a]) ⟨rfl, none, rfl⟩ (fun _ _ _ _ _ => trivial) ?_ ?_
    · rintro i x σ H1 H2 hi ⟨rfl, a, rfl⟩ ⟨rfl, c, hc, rfl⟩
      repeat walk_at "rd"
      have sr := sumL_range (z.cps.toList.take i)
      have sb := (bits_lt_pow (k := 32) sr.1).2 (by rw [show (2 : Int) ^ 32 = 4294967296 by decide]; omega)
      refine w_I (cmulx (i := 31) (by decide) (by omega)) ?_
      repeat walk_at "rd"
      refine ⟨_, rfl, rfl, ?_⟩
      repeat walk_at "rd"
      refine w_I (cpow (by decide) (by decide) (by decide)) ?_
      repeat walk_at "rd"
      refine w_I (by decide) ?_
      repeat walk_at "rd"
      refine ⟨rfl, some (V.str ⟨#[c]⟩), ?_⟩
      have e : z.cps.toList[i]? = some c := by rw [Array.getElem?_toList]; exact hc
      rw [List.take_succ, e]
      show _ = [some (V.str z), some (.int (sumL (_ ++ [c]))), some (V.str ⟨#[c]⟩)]
      rw [sumL_snoc]
      rfl
    · rintro σ H1 ⟨rfl, a, rfl⟩
      repeat walk_at "rd"
      rw [List.take_of_length_le (by simp)]
      exact q
/-! ### place_of -/
def spPot (CF CT : Addr) : Sp := fun vs H Q _ => ∃ (E : Hp) (k : Ky) (kv : V) (n : Nat), vs = [kv, .int n] ∧ KyOk k ∧ KeyAt CF CT E k kv ∧ Same E H ∧ 0 < n ∧ Q (.int (plS k n : Nat)) H
theorem sc_place_of_tables : FnScope ["key", "size"] ["key", "size"] (defScope s_place_of_tables) := ⟨rfl, rfl, rfl, by decide +kernel, rfl, by decide +kernel, by decide +kernel⟩
theorem ok_pot (T : AllN K mg CF CT CN CZ) (k_sum_of : Kn P w K mg base CX0 1 "sum_of" ["text"] spSum) (k_float_sum : Kn P w K mg base CX0 2 "float_sum" ["number"] (spFsum CF)) : Kn P w K mg base CX0 3 "place_of_tables" ["key", "size"] (spPot CF CT) := by
  refine T.x_pot.kn fun f fd F => ?_
  refine F.ok sc_place_of_tables (fun vs H Q E h => ?_) (fun cdv A outer s H vs Q E hr h => ?_)
  · obtain ⟨E', k, kv, n, rfl, _⟩ := h
    rfl
  · obtain ⟨E', k, kv, n, rfl, kk, ka, sE, hn, q⟩ := h
    refine ⟨_, (pss_cons (ps_if (pt_val (pe_callB call_isi (by rfl) T.b_isinstance boot_isinstance (pa_cons (pv 0) (pa_cons (pe_bltn (by rfl) T.b_bool boot_bool (rty _)) pa_nil)))) (pss_one (ps_ret (pe_op op_and (pe_callTy call_int1 (by rfl) T.b_int boot_int (pa_cons (pv 0) pa_nil)) (pe_op op_sub (pv 1) pe_int)))) pss_nil)
      (pss_cons (ps_if (pt_val (pe_callB call_isi (by rfl) T.b_isinstance boot_isinstance (pa_cons (pv 0) (pa_cons (pe_bltn (by rfl) T.b_str boot_str (rty _)) pa_nil)))) (pss_one (ps_ret (pe_op op_and (pk k_sum_of hr (pa_cons (pv 0) pa_nil)) (pe_op op_sub (pv 1) pe_int)))) pss_nil)
      (pss_cons (ps_if (pt_val (pe_callB call_isi (by rfl) T.b_isinstance boot_isinstance (pa_cons (pv 0) (pa_cons (pe_bltn (by rfl) T.b_int boot_int (rty _)) pa_nil)))) (pss_one (ps_ret (pe_op op_mod (pe_op op_mod (pv 0) (pe_op op_pow pe_int pe_int)) (pe_op op_or (pe_op op_sub (pv 1) pe_int) pe_int)))) pss_nil)
      (pss_cons (ps_if (pt_val (pe_callB call_isi (by rfl) T.b_isinstance boot_isinstance (pa_cons (pv 0) (pa_cons (pg "Float" T.g_Float (rref _)) pa_nil)))) (pss_one (ps_ret (pe_op op_mod (pk k_float_sum hr (pa_cons (pv 0) pa_nil)) (pe_op op_or (pe_op op_sub (pv 1) pe_int) pe_int)))) pss_nil)
      (pss_cons (ps_if (pt_val (pe_callB call_isi (by rfl) T.b_isinstance boot_isinstance (pa_cons (pv 0) (pa_cons (pg "Native" T.g_Native (rref _)) pa_nil)))) (pss_one ps_never) pss_nil)
      (pss_one (ps_ret (pe_op op_mod (pe_fld (pv 0) rfl) (pe_op op_or (pe_op op_sub (pv 1) pe_int) pe_int))))))))), ?_⟩
    obtain ⟨t, ty, i1, i2, i3, i4⟩ := says_ky T ka sE
    rw [plS_int k n hn] at q
    have or0 : 0 < Builtin.bitOr ((n : Int) - 1) 1 := by rw [or_one]; omega
    repeat walk_at "rd"
    refine w_isi (.ty "bool") ty i2 ?_
    repeat walk_at "rd"
    cases k with
    | bl b =>
      obtain rfl : kv = .bl b := ka
      refine iT ?_
      repeat walk_at "rd"
      exact q
    | str z =>
      obtain rfl : kv = .str z := ka
      refine iF ?_
      repeat walk_at "rd"
      refine w_isi (.ty "str") ty i3 ?_
      repeat walk_at "rd"
      refine iT ?_
      repeat walk_at "rd"
      refine ⟨z, rfl, ?_⟩
      repeat walk_at "rd"
      exact q
    | int i =>
      obtain rfl : kv = .int i := ka
      refine iF ?_
      repeat walk_at "rd"
      refine w_isi (.ty "str") ty i3 ?_
      repeat walk_at "rd"
      refine iF ?_
      repeat walk_at "rd"
      refine w_isi (.ty "int") ty i1 ?_
      repeat walk_at "rd"
      refine iT ?_
      repeat walk_at "rd"
      refine w_I (cpow (by decide) (by decide) (by decide)) ?_
      refine w_I (by decide) ?_
      repeat walk_at "rd"
      refine w_I or0 ?_
      repeat walk_at "rd"
      exact q
    | fl s' t' p =>
      obtain ⟨a, rfl, hf⟩ := ka
      refine iF ?_
      repeat walk_at "rd"
      refine w_isi (.ty "str") ty i3 ?_
      repeat walk_at "rd"
      refine iF ?_
      repeat walk_at "rd"
      refine w_isi (.ty "int") ty i1 ?_
      repeat walk_at "rd"
      refine iF ?_
      repeat walk_at "rd"
      refine w_isi (.own CF) ty i4 ?_
      repeat walk_at "rd"
      refine iT ?_
      repeat walk_at "rd"
      refine ⟨a, _, rfl, hf.same sE, kk.1, ?_⟩
      repeat walk_at "rd"
      refine w_I or0 ?_
      repeat walk_at "rd"
      exact q
    | inf s' =>
      obtain ⟨a, rfl, hf⟩ := ka
      refine iF ?_
      repeat walk_at "rd"
      refine w_isi (.ty "str") ty i3 ?_
      repeat walk_at "rd"
      refine iF ?_
      repeat walk_at "rd"
      refine w_isi (.ty "int") ty i1 ?_
      repeat walk_at "rd"
      refine iF ?_
      repeat walk_at "rd"
      refine w_isi (.own CF) ty i4 ?_
      repeat walk_at "rd"
      refine iT ?_
      repeat walk_at "rd"
      refine ⟨a, _, rfl, hf.same sE, kk, ?_⟩
      repeat walk_at "rd"
      refine w_I or0 ?_
      repeat walk_at "rd"
      exact q
    | ob a m =>
      obtain ⟨rfl, dx, fs, ha, lk⟩ := ka
      have ha := sE _ _ ha
      refine iF ?_
      repeat walk_at "rd"
      refine w_isi (.ty "str") ty i3 ?_
      repeat walk_at "rd"
      refine iF ?_
      repeat walk_at "rd"
      refine w_isi (.ty "int") ty i1 ?_
      repeat walk_at "rd"
      refine iF ?_
      repeat walk_at "rd"
      refine w_isi (.own CF) ty i4 ?_
      repeat walk_at "rd"
      refine iF ?_
      repeat walk_at "rd"
      refine w_isi (.own CZ) (ty_ins T.l_Table T.y_Table ha) T.i_TZ ?_
      repeat walk_at "rd"
      refine w_fldI ha T.l_Table T.n_number lk ?_
      repeat walk_at "rd"
      refine w_I or0 ?_
      repeat walk_at "rd"
      exact q
    | nt a z => exact ka.elim
/-! ### plain_key, is_nan, is_whole -/
theorem says_rw (T : AllN K mg CF CT CN CZ) {E H : Hp} {r : Rw} {v : V} (a : RwAt CF CT E r v) (s : Same E H) : ∃ b1 b2 b3 b4, Says K CF H v b1 b2 b3 b4 ∧ (b4 = true → ∃ a f, v = .ref a ∧ FlAt CF E a f ∧ f.ok ∧ (∀ v', (v' = v ∧ wholeM (.fl f) = none ∨ ∃ i, v' = .int i ∧ wholeM (.fl f) = some i) → PlAt CF CT E r v')) ∧ (b4 = false → PlAt CF CT E r v) := by
  cases r with
  | ky k =>
    refine ⟨_, _, _, _, says_ky T a.2 s, fun h => ?_, fun _ => a⟩
    cases k with
    | fl s' t p =>
      obtain ⟨b, e, f⟩ := a.2
      refine ⟨b, _, e, f, a.1.1, fun v' c => ?_⟩
      rcases c with ⟨rfl, _⟩ | ⟨i, _, c⟩
      · exact a
      · rw [a.1.2.2] at c; cases c
    | inf s' =>
      obtain ⟨b, e, f⟩ := a.2
      refine ⟨b, _, e, f, a.1, fun v' c => ?_⟩
      rcases c with ⟨rfl, _⟩ | ⟨i, _, c⟩
      · exact a
      · cases c
    | int i => cases h
    | str i => cases h
    | bl i => cases h
    | ob b m => cases h
    | nt b m => cases h
  | wh i =>
    obtain ⟨b, f, rfl, g, o, hw⟩ := a
    obtain ⟨dx, e⟩ := id g
    refine ⟨_, _, _, _, says_fl T.toAll (s _ _ e), fun _ => ⟨b, f, rfl, g, o, fun v' c => ?_⟩, fun h => by cases h⟩
    rcases c with ⟨_, c⟩ | ⟨j, rfl, c⟩
    · rw [hw] at c; cases c
    · rw [hw] at c; cases c; exact ⟨rfl, whole_in hw⟩
  | nil =>
    obtain rfl : v = .non := a
    exact ⟨_, _, _, _, says_non T.toAll, fun h => (by cases h), fun _ => rfl⟩
  | nan =>
    obtain ⟨b, rfl, g⟩ := a
    obtain ⟨dx, e⟩ := id g
    refine ⟨_, _, _, _, says_fl T.toAll (s _ _ e), fun _ => ⟨b, .nan, rfl, g, trivial, fun v' c => ?_⟩, fun h => by cases h⟩
    rcases c with ⟨rfl, _⟩ | ⟨i, _, c⟩
    · exact ⟨b, rfl, g⟩
    · cases c
def spPlk (CF CT : Addr) : Sp := fun vs H Q _ => ∃ E : Hp, ∃ r kv, vs = [kv] ∧ RwAt CF CT E r kv ∧ Same E H ∧ ∀ kv' H', Same H H' → PlAt CF CT E r kv' → Q kv' H'
theorem sc_plain_key : FnScope ["key", "whole"] ["key"] (defScope s_plain_key) := ⟨rfl, rfl, rfl, by decide +kernel, rfl, by decide +kernel, by decide +kernel⟩
theorem ok_plain_key (T : AllN K mg CF CT CN CZ) (k_whole_of : Kn P w K mg base CX0 2 "whole_of" ["number"] (spWhole CF)) : Kn P w K mg base CX0 3 "plain_key" ["key"] (spPlk CF CT) := by
  refine T.x_plain_key.kn fun f fd F => ?_
  refine F.ok sc_plain_key (fun vs H Q E h => ?_) (fun cdv A outer s H vs Q E hr h => ?_)
  · obtain ⟨E', r, kv, rfl, _⟩ := h
    rfl
  · obtain ⟨E', r, kv, rfl, ra, sE, q⟩ := h
    refine ⟨_, (pss_cons (ps_if (pt_val (pe_callB call_isi (by rfl) T.b_isinstance boot_isinstance (pa_cons (pv 0) (pa_cons (pg "Float" T.g_Float (rref _)) pa_nil)))) (pss_cons (ps_set (i := 1) sc_plain_key.nd rfl (Or.inl rfl) (pk k_whole_of hr (pa_cons (pv 0) pa_nil)))
      (pss_one (ps_ret (pe_ifExp (pt_cmpR op_isN (pv 1) pe_non (nomark _)) (pv 0) (pv 1))))) pss_nil)
      (pss_one (ps_ret (pv 0)))), ?_⟩
    obtain ⟨b1, b2, b3, b4, ⟨t, ty, i1, i2, i3, i4⟩, y4, n4⟩ := says_rw T ra sE
    repeat walk_at "rd"
    refine w_isi (.own CF) ty i4 ?_
    repeat walk_at "rd"
    refine iB (fun c => ?_) (fun c => ?_)
    · obtain ⟨a, f, rfl, hf, ok, pl⟩ := y4 c
      repeat walk_at "rd"
      refine ⟨a, f, rfl, hf.same sE, ok, fun H1 s1 => ?_⟩
      repeat walk_at "rd"
      cases e : wholeM (.fl f) with
      | none =>
        refine iT ?_
        repeat walk_at "rd"
        exact q _ H1 s1 (pl _ (.inl ⟨rfl, e⟩))
      | some i =>
        refine iF ?_
        repeat walk_at "rd"
        exact q _ H1 s1 (pl _ (.inr ⟨i, rfl, e⟩))
    · repeat walk_at "rd"
      exact q _ H (Same.refl _) (n4 c)
/-- isinstance of what plain_key tells -/
def Rw.isI : Rw → Bool
  | .ky k => isIn k
  | .wh _ => true
  | _ => false
def Rw.isB : Rw → Bool
  | .ky k => isBk k
  | _ => false
def Rw.isF : Rw → Bool
  | .ky k => isFk k
  | .nan => true
  | _ => false
def Rw.isN : Rw → Bool
  | .nan => true
  | _ => false
theorem says_pl (T : AllN K mg CF CT CN CZ) {E H : Hp} {r : Rw} {v : V} (a : PlAt CF CT E r v) (s : Same E H) : ∃ b3, Says K CF H v r.isI r.isB b3 r.isF := by
  cases r with
  | ky k => exact ⟨_, says_ky T a.2 s⟩
  | wh i => obtain ⟨rfl, _⟩ := a; exact ⟨_, says_int T.toAll⟩
  | nil => obtain rfl : v = .non := a; exact ⟨_, says_non T.toAll⟩
  | nan => obtain ⟨b, rfl, dx, e⟩ := a; exact ⟨_, says_fl T.toAll (s _ _ e)⟩
def spNan (CF CT : Addr) : Sp := fun vs H Q _ => ∃ E : Hp, ∃ r kv, vs = [kv] ∧ PlAt CF CT E r kv ∧ Same E H ∧ Q (.bl r.isN) H
theorem sc_is_nan : FnScope ["key"] ["key"] (defScope s_is_nan) := ⟨rfl, rfl, rfl, by decide +kernel, rfl, by decide +kernel, by decide +kernel⟩
theorem ok_is_nan (T : AllN K mg CF CT CN CZ) : Kn P w K mg base CX0 1 "is_nan" ["key"] (spNan CF CT) := by
  refine T.x_is_nan.kn fun f fd F => ?_
  refine F.ok sc_is_nan (fun vs H Q E h => ?_) (fun cdv A outer s H vs Q E hr h => ?_)
  · obtain ⟨E', r, kv, rfl, _⟩ := h
    rfl
  · obtain ⟨E', r, kv, rfl, pa, sE, q⟩ := h
    refine ⟨_, (pss_one (ps_ret (pe_and (pe_callB call_isi (by rfl) T.b_isinstance boot_isinstance (pa_cons (pv 0) (pa_cons (pg "Float" T.g_Float (rref _)) pa_nil))) (pe_one (pe_cmpR op_eq (pe_fld (pv 0) rfl) pe_str (nomark _)))))), ?_⟩
    obtain ⟨b3, t, ty, i1, i2, i3, i4⟩ := says_pl T pa sE
    repeat walk_at "rd"
    refine w_isi (.own CF) ty i4 ?_
    repeat walk_at "rd"
    cases r with
    | wh i =>
      refine iF ?_
      repeat walk_at "rd"
      exact q
    | nil =>
      refine iF ?_
      repeat walk_at "rd"
      exact q
    | nan =>
      obtain ⟨b, rfl, dx, e⟩ := pa
      refine iT ?_
      repeat walk_at "rd"
      refine w_fldI (sE _ _ e) T.l_Float T.n_top (flds_t _ _ _) ?_
      repeat walk_at "rd"
      refine w_eqS ?_
      exact q
    | ky k =>
      cases k with
      | fl s' t' p =>
        obtain ⟨b, rfl, dx, e⟩ := pa.2
        refine iT ?_
        repeat walk_at "rd"
        refine w_fldI (sE _ _ e) T.l_Float T.n_top (flds_t _ _ _) ?_
        repeat walk_at "rd"
        refine w_eqIS ?_
        exact q
      | inf s' =>
        obtain ⟨b, rfl, dx, e⟩ := pa.2
        refine iT ?_
        repeat walk_at "rd"
        refine w_fldI (sE _ _ e) T.l_Float T.n_top (flds_t _ _ _) ?_
        repeat walk_at "rd"
        refine w_eqS ?_
        exact q
      | int i => refine iF ?_; repeat walk_at "rd"; exact q
      | str i => refine iF ?_; repeat walk_at "rd"; exact q
      | bl i => refine iF ?_; repeat walk_at "rd"; exact q
      | ob b m => refine iF ?_; repeat walk_at "rd"; exact q
      | nt b m => exact pa.2.elim
def spWh (CF CT : Addr) : Sp := fun vs H Q _ => ∃ E : Hp, ∃ r kv, vs = [kv] ∧ PlAt CF CT E r kv ∧ Same E H ∧ Q (.bl r.isI) H
theorem sc_is_whole : FnScope ["key"] ["key"] (defScope s_is_whole) := ⟨rfl, rfl, rfl, by decide +kernel, rfl, by decide +kernel, by decide +kernel⟩
theorem ok_is_whole (T : AllN K mg CF CT CN CZ) : Kn P w K mg base CX0 1 "is_whole" ["key"] (spWh CF CT) := by
  refine T.x_is_whole.kn fun f fd F => ?_
  refine F.ok sc_is_whole (fun vs H Q E h => ?_) (fun cdv A outer s H vs Q E hr h => ?_)
  · obtain ⟨E', r, kv, rfl, _⟩ := h
    rfl
  · obtain ⟨E', r, kv, rfl, pa, sE, q⟩ := h
    refine ⟨_, (pss_one (ps_ret (pe_and (pe_callB call_isi (by rfl) T.b_isinstance boot_isinstance (pa_cons (pv 0) (pa_cons (pe_bltn (by rfl) T.b_int boot_int (rty _)) pa_nil))) (pe_one (pe_not (pe_callB call_isi (by rfl) T.b_isinstance boot_isinstance (pa_cons (pv 0) (pa_cons (pe_bltn (by rfl) T.b_bool boot_bool (rty _)) pa_nil)))))))), ?_⟩
    obtain ⟨b3, t, ty, i1, i2, i3, i4⟩ := says_pl T pa sE
    have ex : r.isB = true → r.isI = false := by
      cases r with
      | ky k => cases k <;> (intro h; first | rfl | cases h)
      | wh i => intro h; cases h
      | nil => intro h; cases h
      | nan => intro h; cases h
    repeat walk_at "rd"
    refine w_isi (.ty "int") ty i1 ?_
    repeat walk_at "rd"
    cases e1 : r.isI with
    | true =>
      rw [e1] at q ex
      have e2 : r.isB = false := by cases h : r.isB with | false => rfl | true => cases ex h
      refine iT ?_
      repeat walk_at "rd"
      refine w_isi (.ty "bool") ty i2 ?_
      rw [e2]
      repeat walk_at "rd"
      exact q
    | false =>
      rw [e1] at q
      cases e2 : r.isB with
      | false =>
        refine iF ?_
        repeat walk_at "rd"
        exact q
      | true =>
        refine iT ?_
        repeat walk_at "rd"
        refine w_isi (.ty "bool") ty i2 ?_
        rw [e2]
        repeat walk_at "rd"
        exact q
/-! ### power_for, best_size -/
def spPow : Sp := fun vs H Q _ => ∃ n : Nat, vs = [.int n] ∧ n ≤ 1000000 ∧ Q (.int (powM n : Nat)) H
theorem sc_power_for : FnScope ["count"] ["count"] (defScope s_power_for) := ⟨rfl, rfl, rfl, by decide +kernel, rfl, by decide +kernel, by decide +kernel⟩
theorem ok_power_for (T : AllN K mg CF CT CN CZ) : Kn P w K mg base CX0 1 "power_for" ["count"] spPow := by
  refine T.x_power_for.kn fun f fd F => ?_
  refine F.ok sc_power_for (fun vs H Q E h => ?_) (fun cdv A outer s H vs Q E hr h => ?_)
  · obtain ⟨n, rfl, _⟩ := h
    rfl
  · obtain ⟨n, rfl, hn, q⟩ := h
    refine ⟨_, (pss_one (ps_ret (pe_ifExp (pt_cmpR op_eq (pv 0) pe_int (nomark _)) pe_int (pe_op op_shlW pe_int (pe_bits (pe_op op_sub (pv 0) pe_int)))))), ?_⟩
    unfold powM at q
    repeat walk_at "rd"
    refine iD (fun c => ?_) (fun c => ?_)
    · rw [if_pos (by omega)] at q
      repeat walk_at "rd"
      exact q
    · rw [if_neg (by omega)] at q
      have b : bits ((n : Int) - 1) ≤ ((20 : Nat) : Int) := (bits_lt_pow (by omega)).2 (by rw [show (2 : Int) ^ 20 = 1048576 by decide]; omega)
      have b2 : bits ((n : Int) - 1) = (Builtin.Int.intBits ((n : Int) - 1) : Nat) := rfl
      repeat walk_at "rd"
      refine w_I (cshl (i := 1) (j := (Builtin.Int.intBits ((n : Int) - 1) : Nat)) (by decide) (by omega) (by omega)) ?_
      repeat walk_at "rd"
      rw [Int.one_mul, Int.toNat_natCast]
      have e : ((2 ^ Builtin.Int.intBits ((n : Int) - 1) : Nat) : Int) = 2 ^ Builtin.Int.intBits ((n : Int) - 1) := by simp
      rw [e] at q
      exact q
def bestS (c : Nat → Nat) : Nat → Nat × Nat × Nat
  | 0 => (0, 0, 0)
  | p + 1 => if 2 * ((bestS c p).1 + c p) > 2 ^ p then ((bestS c p).1 + c p, 2 ^ p, (bestS c p).1 + c p) else ((bestS c p).1 + c p, (bestS c p).2.1, (bestS c p).2.2)
def cntV (c : Nat → Nat) (n : Nat) : List V := (List.range n).map fun k => V.int (c k : Nat)
theorem cntV_len (c : Nat → Nat) (n : Nat) : (cntV c n).length = n := by simp [cntV]
theorem cntV_get (c : Nat → Nat) {n k : Nat} (h : k < n) : (cntV c n)[k]? = some (.int (c k : Nat)) := by simp [cntV, h]
def spBest : Sp := fun vs H Q _ => ∃ (a : Addr) (c : Nat → Nat), vs = [.ref a] ∧ H a = some (.lst (cntV c 32)) ∧ (∀ p, c p ≤ 100000) ∧
  ∀ q H', Same H H' → H q = none → H' q = some (.tup [.int ((bestS c 32).2.1 : Nat), .int ((bestS c 32).2.2 : Nat)]) → Q (.ref q) H'
theorem bestS_le {c : Nat → Nat} (h : ∀ p, c p ≤ 100000) : ∀ p, (bestS c p).1 ≤ p * 100000
  | 0 => Nat.le_refl 0
  | p + 1 => by
    have a := bestS_le h p
    have b := h p
    unfold bestS
    split <;> (simp only; omega)
theorem sc_best_size : FnScope ["counts", "used", "best", "inside", "power", "count"] ["counts"] (defScope s_best_size) := ⟨rfl, rfl, rfl, by decide +kernel, rfl, by decide +kernel, by decide +kernel⟩
theorem ok_best_size (T : AllN K mg CF CT CN CZ) : Kn P w K mg base CX0 1 "best_size" ["counts"] spBest := by
  refine T.x_best_size.kn fun f fd F => ?_
  refine F.ok sc_best_size (fun vs H Q E h => ?_) (fun cdv A outer s H vs Q E hr h => ?_)
  · obtain ⟨a, c, rfl, _⟩ := h
    rfl
  · obtain ⟨a, c, rfl, ha, hc, q⟩ := h
    refine ⟨_, (pss_cons (ps_asg (pe_tup (pa_cons pe_int (pa_cons pe_int (pa_cons pe_int pa_nil)))) (pg_tup (by rfl) (pgs_cons (pg_name (i := 1) sc_best_size.nd rfl (Or.inl rfl)) (pgs_cons (pg_name (i := 2) sc_best_size.nd rfl (Or.inl rfl)) (pgs_cons (pg_name (i := 3) sc_best_size.nd rfl (Or.inl rfl)) pgs_nil)))))
      (pss_cons (ps_for PassesOwn.never rfl (pi_enum rfl T.b_enumerate (pa_cons (pv 0) pa_nil)) (pg_tup (by rfl) (pgs_cons (pg_name (i := 4) sc_best_size.nd rfl (Or.inl rfl)) (pgs_cons (pg_name (i := 5) sc_best_size.nd rfl (Or.inl rfl)) pgs_nil)))
      (pss_cons (ps_aug (i := 1) sc_best_size.nd rfl (Or.inl rfl) (pv 5) ip_add)
      (pss_one (ps_if (pt_cmpR op_gt (pe_op op_mulX pe_int (pv 1)) (pe_op op_shlW pe_int (pv 4)) (nomark _)) (pss_one (ps_par (by rfl) sc_best_size.nd (i := 2) (j := 3) rfl rfl (by decide) rfl rfl (pa_cons (pe_op op_shlW pe_int (pv 4)) (pa_cons (pv 1) pa_nil)) (by rfl))) pss_nil))))
      (pss_one (ps_ret (pe_tup (pa_cons (pv 2) (pa_cons (pv 3) pa_nil))))))), ?_⟩
    repeat walk_at "rd"
    refine w_tup3 fun q2 H2 s2 n2 h2 => ?_
    refine w_gtup h2 rfl ?_
    repeat walk_at "rd"
    refine w_iEnum ?_
    repeat walk_at "rd"
    refine w_iEnumI (s2 _ _ ha) ?_
    refine for_enum (fun i σ H' => Same H2 H' ∧ ∃ x y, σ = [some (.ref a), some (.int ((bestS c i).1 : Nat)), some (.int ((bestS c i).2.1 : Nat)), some (.int ((bestS c i).2.2 : Nat)), x, y]) ⟨Same.refl _, none, none, rfl⟩ (fun i σ H' _ p => p.1 _ _ (s2 _ _ ha)) ?_ ?_
    · rintro i x T' σ H' hi hx ⟨S, x1, y1, rfl⟩ hT
      rw [cntV_len] at hi
      rw [cntV_get c hi] at hx
      cases hx
      refine w_gtup upd_same rfl ?_
      repeat walk_at "rd"
      refine w_aug rfl ?_
      repeat walk_at "rd"
      refine w_ip ?_
      repeat walk_at "rd"
      have b1 := bestS_le hc i
      have b2 := hc i
      have b3 : (bestS c i).1 + c i ≤ 3300000 := by
        have : i * 100000 ≤ 31 * 100000 := Nat.mul_le_mul_right _ (by omega)
        omega
      have bb : bits (((bestS c i).1 : Int) + (c i : Int)) ≤ ((30 : Nat) : Int) := (bits_lt_pow (by omega)).2 (by rw [show (2 : Int) ^ 30 = 1073741824 by decide]; omega)
      refine w_I (cmulx (i := 2) (j := (bestS c i).1 + c i) (by decide) (by omega)) ?_
      repeat walk_at "rd"
      refine w_I (cshl (i := 1) (j := (i : Nat)) (by decide) (by omega) (by omega)) ?_
      repeat walk_at "rd"
      rw [Int.one_mul, Int.toNat_natCast]
      have S' : Same H2 (upd H' T' (.tup [.int (i : Nat), .int (c i : Nat)])) := S.trans (same_upd hT)
      have e2 : ((2 ^ i : Nat) : Int) = 2 ^ i := by simp
      refine iD (fun d => ?_) (fun d => ?_)
      · repeat walk_at "rd"
        refine w_I (cshl (i := 1) (j := (i : Nat)) (by decide) (by omega) (by omega)) ?_
        repeat walk_at "rd"
        rw [Int.one_mul, Int.toNat_natCast, ← e2]
        refine ⟨S', some (.int (i : Nat)), some (.int (c i : Nat)), ?_⟩
        rw [bestS, if_pos (by omega)]
        rfl
      · repeat walk_at "rd"
        refine ⟨S', some (.int (i : Nat)), some (.int (c i : Nat)), ?_⟩
        rw [bestS, if_neg (by omega)]
        rfl
    · rintro σ H' ⟨S, x1, y1, rfl⟩
      rw [cntV_len]
      repeat walk_at "rd"
      refine w_tup2 fun q3 H3 s3 n3 h3 => ?_
      repeat walk_at "rd"
      exact q q3 H3 ((s2.trans S).trans s3) (by
        cases e : H q3 with
        | none => rfl
        | some o => rw [S _ _ (s2 _ _ e)] at n3; cases n3) h3
end
end Nu

set_option Elab.async false
set_option linter.all false
set_option maxRecDepth 100000
set_option autoImplicit false
set_option maxHeartbeats 4000000
namespace Nu
open PySem PySem.Spec PyProof.Rows L2 Rd Tm
local macro_rules | `(tactic| walk_at "hp") => `(tactic| first | assumption | (refine same_get ?sm ?_; (case sm => assumption); walk_at "hp"))
local macro_rules | `(tactic| walk_at "rd") => `(tactic| first
  | (with_reducible show Ends.nx _ _ _; with_reducible refine w_nx ?_)
  | with_reducible refine w_rt ?_
  | (with_reducible show Ends.bk _ _ _; with_reducible refine w_bk ?_)
  | (with_reducible show Ends.ct _ _ _; with_reducible refine w_ct ?_)
  | with_reducible refine w_seq ?_
  | with_reducible refine w_next ?_
  | with_reducible refine w_ret ?_
  | with_reducible refine w_ifS ?_
  | with_reducible refine w_asg ?_
  | with_reducible refine w_name ?_
  | with_reducible refine w_par ?_
  | with_reducible refine w_parI ?_
  | with_reducible refine w_ii ?_
  | with_reducible refine w_i1 ?_
  | with_reducible refine w_drop ?_
  | with_reducible refine w_sFld ?_
  | ((with_reducible refine' w_var ?rdh ?_); (case rdh => exact rfl))
  | with_reducible refine w_c ?_
  | with_reducible refine w_op ?_
  | with_reducible refine w_un ?_
  | with_reducible refine w_I0 ?_
  | with_reducible refine w_U ?_
  | with_reducible refine w_bits ?_
  | with_reducible refine w_bitsI ?_
  | with_reducible refine w_tup ?_
  | with_reducible refine w_lst ?_
  | with_reducible refine w_nil ?_
  | with_reducible refine w_cons ?_
  | with_reducible refine w_fld ?_
  | with_reducible refine w_call ?_
  | with_reducible refine w_make ?_
  | with_reducible refine w_gsub ?_
  | with_reducible refine w_int1 ?_
  | with_reducible refine w_intB ?_
  | with_reducible refine w_for ?_
  | with_reducible refine w_rng1 ?_
  | with_reducible refine w_iList ?_
  | with_reducible refine w_iTup ?_
  | with_reducible refine w_makeD ?_
  | with_reducible refine w_nn ?_
  | with_reducible refine w_subB ?_
  | with_reducible refine w_meth ?_
  | with_reducible refine w_cb ?_
  | with_reducible refine w_test ?_
  | with_reducible refine w_B ?_
  | with_reducible refine w_bl ?_
  | with_reducible refine w_andV ?_
  | with_reducible refine w_orV ?_
  | with_reducible refine w_notV ?_
  | with_reducible refine w_and ?_
  | with_reducible refine w_or ?_
  | with_reducible refine w_not ?_
  | with_reducible refine w_if ?_
  | with_reducible refine w_gnil ?_
  | with_reducible refine w_gcons ?_
  | with_reducible refine iT ?_
  | with_reducible refine iF ?_
  | with_reducible refine w_eqI ?_
  | with_reducible refine w_neI ?_
  | with_reducible refine w_eqS ?_
  | with_reducible refine w_eqIS ?_
  | with_reducible refine w_eqSI ?_)

/-! ### tables on the heap -/
def nF (k v l : V) : List (Str × V) := [("key", k), ("value", v), ("link", l), ("is_dead", .bl false)]
def tF (n m : V) (pa pn : Addr) (fr : Nat) : List (Str × V) := [("number", n), ("meta", m), ("array", .ref pa), ("nodes", .ref pn), ("free", .int fr)]
def lnV : Option Nat → V
  | none => .non
  | some n => .int n
def adV : Option (Addr × V) → V
  | none => .non
  | some a => .ref a.1
def NdAt (CN : Addr) (H : Hp) (a : Addr) (kv : V) (nd : Nd) : Prop := ∃ dn, H a = some (.ins CN dn (nF kv nd.v (lnV nd.l)))
def InT (x pa pn : Addr) (L : List (Option (Addr × V))) (b : Addr) : Prop := b = x ∨ b = pa ∨ b = pn ∨ ∃ (j : Nat) (kv : V), L[j]? = some (some (b, kv))
structure TC (CF CT CN : Addr) (Ev H : Hp) (x : Addr) (n m : V) (T : Tb) (pa pn : Addr) (L : List (Option (Addr × V))) : Prop where
  ins : ∃ dx, H x = some (.ins CT dx (tF n m pa pn T.fr))
  arr : H pa = some (.lst T.A)
  nod : H pn = some (.lst (L.map adV))
  len : L.length = T.N.length
  nds : ∀ (j : Nat) (a : Addr) (kv : V), L[j]? = some (some (a, kv)) → ∃ nd, T.N[j]? = some (some nd) ∧ KeyAt CF CT Ev nd.k kv ∧ NdAt CN H a kv nd
  nns : ∀ (j : Nat), L[j]? = some none → T.N[j]? = some none
  dis : ∀ (i j : Nat) (a : Addr) (kv kv' : V), L[i]? = some (some (a, kv)) → L[j]? = some (some (a, kv')) → i = j
  ne : ¬ pa = pn
/-- a table on the heap; what Ev tells stands there, too, beside it -/
structure TA (CF CT CN : Addr) (Ev H : Hp) (x : Addr) (n m : V) (T : Tb) (pa pn : Addr) (L : List (Option (Addr × V))) : Prop extends TC CF CT CN Ev H x n m T pa pn L where
  env : Same Ev H
  sep : ∀ b, InT x pa pn L b → Ev b = none
theorem atN {xs : List V} {j : Nat} {v : V} (h : xs[j]? = some v) : atI xs (j : Int) = some v := by
  have hl := (List.getElem?_eq_some_iff.1 h).1
  unfold atI ixN
  rw [if_pos (by omega), if_pos (by omega)]
  simpa using h
section
variable {CF CT CN : Addr} {Ev H H' : Hp} {x pa pn : Addr} {n m : V} {T : Tb} {L : List (Option (Addr × V))}
theorem TC.keep (h : TC CF CT CN Ev H x n m T pa pn L) (s : ∀ b o, InT x pa pn L b → H b = some o → H' b = some o) : TC CF CT CN Ev H' x n m T pa pn L :=
  ⟨let ⟨dx, e⟩ := h.ins; ⟨dx, s _ _ (.inl rfl) e⟩, s _ _ (.inr (.inl rfl)) h.arr, s _ _ (.inr (.inr (.inl rfl))) h.nod, h.len,
    fun j a kv e => let ⟨nd, e1, ka, dn, e2⟩ := h.nds j a kv e; ⟨nd, e1, ka, dn, s _ _ (.inr (.inr (.inr ⟨j, kv, e⟩))) e2⟩, h.nns, h.dis, h.ne⟩
theorem TC.occ {b : Addr} (h : TC CF CT CN Ev H x n m T pa pn L) (i : InT x pa pn L b) : ∃ o, H b = some o := by
  rcases i with rfl | rfl | rfl | ⟨j, kv, e⟩
  · obtain ⟨dx, e⟩ := h.ins; exact ⟨_, e⟩
  · exact ⟨_, h.arr⟩
  · exact ⟨_, h.nod⟩
  · obtain ⟨nd, _, _, dn, e2⟩ := h.nds j b kv e; exact ⟨_, e2⟩
theorem TA.same (h : TA CF CT CN Ev H x n m T pa pn L) (s : Same H H') : TA CF CT CN Ev H' x n m T pa pn L :=
  ⟨h.toTC.keep fun b o _ e => s _ _ e, h.env.trans s, h.sep⟩
theorem TC.node (h : TC CF CT CN Ev H x n m T pa pn L) {j : Nat} {nd : Nd} (e : T.N[j]? = some (some nd)) : ∃ a kv, L[j]? = some (some (a, kv)) ∧ KeyAt CF CT Ev nd.k kv ∧ NdAt CN H a kv nd := by
  have hj := (List.getElem?_eq_some_iff.1 e).1
  obtain ⟨o, ho⟩ : ∃ o, L[j]? = some o := ⟨_, List.getElem?_eq_getElem (by rw [h.len]; exact hj)⟩
  cases o with
  | none => rw [h.nns j ho] at e; cases e
  | some a =>
    obtain ⟨nd', e1, e2, e3⟩ := h.nds j a.1 a.2 ho
    rw [e1] at e
    cases e
    exact ⟨a.1, a.2, ho, e2, e3⟩
theorem TC.hole (h : TC CF CT CN Ev H x n m T pa pn L) {j : Nat} (e : T.N[j]? = some none) : L[j]? = some none := by
  have hj := (List.getElem?_eq_some_iff.1 e).1
  obtain ⟨o, ho⟩ : ∃ o, L[j]? = some o := ⟨_, List.getElem?_eq_getElem (by rw [h.len]; exact hj)⟩
  cases o with
  | none => exact ho
  | some a =>
    obtain ⟨nd', e1, e2⟩ := h.nds j a.1 a.2 ho
    rw [e1] at e
    cases e
theorem TC.ix (h : TC CF CT CN Ev H x n m T pa pn L) {j : Nat} {o : Option (Addr × V)} (e : L[j]? = some o) : atI (L.map adV) (j : Int) = some (adV o) := atN (by rw [List.getElem?_map, e]; rfl)
end
theorem tF_a (n m : V) (pa pn : Addr) (fr : Nat) : (tF n m pa pn fr).lookup ("array" : Str) = some (.ref pa) := rfl
theorem tF_n (n m : V) (pa pn : Addr) (fr : Nat) : (tF n m pa pn fr).lookup ("nodes" : Str) = some (.ref pn) := rfl
theorem tF_f (n m : V) (pa pn : Addr) (fr : Nat) : (tF n m pa pn fr).lookup ("free" : Str) = some (.int fr) := rfl
theorem nF_k (k v l : V) : (nF k v l).lookup ("key" : Str) = some k := rfl
theorem nF_v (k v l : V) : (nF k v l).lookup ("value" : Str) = some v := rfl
theorem nF_l (k v l : V) : (nF k v l).lookup ("link" : Str) = some l := rfl
theorem nF_d (k v l : V) : (nF k v l).lookup ("is_dead" : Str) = some (.bl false) := rfl
theorem nF_pv (k v l v' : V) : putF "value" v' (nF k v l) = nF k v' l := rfl
theorem nF_pl (k v l l' : V) : putF "link" l' (nF k v l) = nF k v l' := rfl
theorem tF_pf (n m : V) (pa pn : Addr) (fr : Nat) (g : Int) (fr' : Nat) (e : g = fr') : putF "free" (.int g) (tF n m pa pn fr) = tF n m pa pn fr' := by subst e; rfl
theorem tF_pa (n m : V) (pa pn q : Addr) (fr : Nat) : putF "array" (.ref q) (tF n m pa pn fr) = tF n m q pn fr := rfl
theorem tF_pn (n m : V) (pa pn q : Addr) (fr : Nat) : putF "nodes" (.ref q) (tF n m pa pn fr) = tF n m pa q fr := rfl
section
variable {P : Program} {w : World} {K : PySem.W.Frag} {mg : Str → Option Value} {base : Heap} {CF CT CN CZ : Addr} {Ev : Hp}
/-! ### a new node -/
def spNode (CN : Addr) : Sp := fun vs H Q _ => ∃ x dx k v l, vs = [.ref x, k, v, l] ∧ H x = some (.ins CN dx []) ∧ ∀ H', Oth x H H' → H' x = some (.ins CN dx (nF k v l)) → Q .non H'
theorem sc_Node_init : FnScope ["self", "key", "value", "link"] ["self", "key", "value", "link"] (defScope s_Node_init) := ⟨rfl, rfl, rfl, by decide +kernel, rfl, by decide +kernel, by decide +kernel⟩
theorem ok_Node (T : AllN K mg CF CT CN CZ) : KnC P w K mg base CX0 1 "Node" CN ["self", "key", "value", "link"] (spNode CN) := by
  refine T.x_Node.kn fun f fd F => ?_
  refine F.ok sc_Node_init (fun vs H Q E h => ?_) (fun cdv A outer s H vs Q E hr h => ?_)
  · obtain ⟨x, dx, k, v, l, rfl, _⟩ := h
    rfl
  · obtain ⟨x, dx, k, v, l, rfl, hx, q⟩ := h
    refine ⟨_, PSs.nox ((pss_cons (ps_fld (pv 0) (pv 1) rfl)
      (pss_cons (ps_fld (pv 0) (pv 2) rfl)
      (pss_cons (ps_fld (pv 0) (pv 3) rfl)
      (pss_one (ps_fld (pv 0) pe_bl rfl)))))), ?_⟩
    repeat walk_at "rd"
    refine w_sfI hx T.l_Node T.n_key (by decide) ?_
    repeat walk_at "rd"
    refine w_sfI upd_same T.l_Node T.n_value (by show 1 < 1000; decide) ?_
    repeat walk_at "rd"
    refine w_sfI upd_same T.l_Node T.n_link (by show 2 < 1000; decide) ?_
    repeat walk_at "rd"
    refine w_sfI upd_same T.l_Node T.n_dead (by show 3 < 1000; decide) ?_
    repeat walk_at "rd"
    exact q _ Oth.refl.put.put.put.put upd_same
theorem u_Node {k v l : V} {H : Hp} {Q : VK} {E : XK} (q : ∀ x H' dx, Same H H' → H x = none → H' x = some (.ins CN dx (nF k v l)) → Q (.ref x) H') : MakeK CN (spNode CN) [k, v, l] H Q E := by
  intro x dx hx hdx ne
  refine ⟨x, dx, k, v, l, rfl, upd_same, fun H' kk hx' => ⟨rfl, q x H' dx (fun b o e => kk b o (ne_of_none e hx) ?_) hx hx'⟩⟩
  rw [upd_ne (ne_of_none e hx), upd_ne (ne_of_none e hdx)]
  exact e
/-! ### is_inside -/
def inR (A : List V) (r : Rw) : Bool := match r.pl with
  | some k => inA A k
  | none => false
theorem inR_isI {A : List V} {r : Rw} (h : r.isI = false) : inR A r = false := by
  cases r with
  | ky k => cases k <;> first | rfl | cases h
  | wh i => cases h
  | nil => rfl
  | nan => rfl
theorem pl_int {CF CT : Addr} {Ev : Hp} {r : Rw} {v : V} (h : PlAt CF CT Ev r v) (e : r.isI = true) : ∃ i, v = .int i ∧ r.pl = some (.int i) := by
  cases r with
  | ky k => cases k <;> first | exact ⟨_, h.2, rfl⟩ | cases e
  | wh i => exact ⟨i, h.1, rfl⟩
  | nil => cases e
  | nan => cases e
def spInside (CF CT CN : Addr) : Sp := fun vs H Q _ => ∃ Ev x n m T pa pn L r kv, vs = [.ref x, kv] ∧ TA CF CT CN Ev H x n m T pa pn L ∧ PlAt CF CT Ev r kv ∧ Q (.bl (inR T.A r)) H
theorem sc_Table_is_inside : FnScope ["self", "key"] ["self", "key"] (defScope s_Table_is_inside) := ⟨rfl, rfl, rfl, by decide +kernel, rfl, by decide +kernel, by decide +kernel⟩
theorem ok_is_inside (T : AllN K mg CF CT CN CZ) (k_is_whole : Kn P w K mg base CX0 1 "is_whole" ["key"] (spWh CF CT)) : KnM P w K mg base CX0 2 CT "is_inside" ["self", "key"] (spInside CF CT CN) := by
  refine T.x_is_inside.kn fun f fd F => ?_
  refine F.ok sc_Table_is_inside (fun vs H Q E h => ?_) (fun cdv A outer s H vs Q E hr h => ?_)
  · obtain ⟨Ev, x, n, m, T, pa, pn, L, r, kv, rfl, _⟩ := h
    rfl
  · obtain ⟨Ev, x, n, m, Tt, pa, pn, L, r, kv, rfl, hT, hr', q⟩ := h
    refine ⟨_, (pss_one (ps_ret (pe_and (pk k_is_whole hr (pa_cons (pv 1) pa_nil)) (pe_one (pe_chain op_le op_le pe_int (pv 1) (pe_callB call_len_seq (by rfl) T.b_len boot_len (pa_cons (pe_fld (pv 0) rfl) pa_nil))))))), ?_⟩
    repeat walk_at "rd"
    refine ⟨Ev, r, kv, rfl, hr', hT.env, ?_⟩
    repeat walk_at "rd"
    cases e0 : r.isI with
    | true =>
      obtain ⟨i, rfl, e1⟩ := pl_int hr' e0
      have q : Q (.bl (inA Tt.A (.int i))) H := by unfold inR at q; rw [e1] at q; exact q
      refine iT ?_
      repeat walk_at "rd"
      obtain ⟨dx, hx⟩ := hT.ins
      refine w_chain ?_
      repeat walk_at "rd"
      refine iD (fun c => ?_) (fun c => ?_)
      · repeat walk_at "rd"
        refine w_fldI hx T.l_Table T.n_array (tF_a _ _ _ _ _) ?_
        repeat walk_at "rd"
        refine w_lenL hT.arr ?_
        refine w_I0 (i := i) ?_
        have e : inA Tt.A (.int i) = decide (i ≤ (Tt.A.length : Int)) := by
          show (decide (1 ≤ i) && decide (i ≤ Tt.A.length)) = _
          rw [decide_eq_true c, Bool.true_and]
        rw [e] at q
        exact q
      · repeat walk_at "rd"
        have e : inA Tt.A (.int i) = false := by
          show (decide (1 ≤ i) && decide (i ≤ Tt.A.length)) = _
          rw [decide_eq_false c, Bool.false_and]
        rw [e] at q
        exact q
    | false =>
      rw [inR_isI e0] at q
      exact iF q
/-! ### free_place -/
theorem freeM_hit {N : List (Option Nd)} {j : Nat} (h : N[j]? = some none) : freeM N (j + 1) = some j := by
  rw [freeM, h]
theorem freeM_miss {N : List (Option Nd)} {j : Nat} {nd : Nd} (h : N[j]? = some (some nd)) : freeM N (j + 1) = freeM N j := by
  rw [freeM, h]
def spFree (CF CT CN : Addr) : Sp := fun vs H Q _ => ∃ Ev x n m T pa pn L, vs = [.ref x] ∧ TA CF CT CN Ev H x n m T pa pn L ∧ T.fr ≤ T.N.length ∧
  ∀ H', Oth x H H' → (∃ dx, H' x = some (.ins CT dx (tF n m pa pn ((freeM T.N T.fr).getD 0)))) → Q (lnV (freeM T.N T.fr)) H'
theorem sc_Table_free_place : FnScope ["self"] ["self"] (defScope s_Table_free_place) := ⟨rfl, rfl, rfl, by decide +kernel, rfl, by decide +kernel, by decide +kernel⟩
theorem ok_free_place (T : AllN K mg CF CT CN CZ) : KnM P w K mg base CX0 1 CT "free_place" ["self"] (spFree CF CT CN) := by
  refine T.x_free_place.kn fun f fd F => ?_
  refine F.ok sc_Table_free_place (fun vs H Q E h => ?_) (fun cdv A outer s H vs Q E hr h => ?_)
  · obtain ⟨Ev, x, n, m, T, pa, pn, L, rfl, _⟩ := h
    rfl
  · obtain ⟨Ev, x, n, m, Tt, pa, pn, L, rfl, hT, hf, q⟩ := h
    refine ⟨_, (pss_cons (ps_while PassesOwn.never (pt_cmpR op_gt (pe_fld (pv 0) rfl) pe_int (nomark _))
      (pss_cons (ps_fldaug (pv 0) pe_int in_sub)
      (pss_one (ps_if (pt_cmpR op_isN (pe_ix ix_list (pe_fld (pv 0) rfl) (pe_fld (pv 0) rfl) (fun _ _ => rfl)) pe_non (nomark _)) (pss_one (ps_ret (pe_fld (pv 0) rfl))) pss_nil))))
      (pss_one (ps_ret pe_non))), ?_⟩
    repeat walk_at "rd"
    obtain ⟨dx, hx⟩ := hT.ins
    have nx : ¬ pn = x := ne_of hT.nod hx (by intro z; cases z)
    refine w_while (fun mm σ' H' => σ' = [some (.ref x)] ∧ Oth x H H' ∧ H' x = some (.ins CT dx (tF n m pa pn mm)) ∧ mm ≤ Tt.N.length ∧ freeM Tt.N mm = freeM Tt.N Tt.fr) ⟨rfl, Oth.refl, hx, hf, rfl⟩ ?_
    rintro mm σ' H1 ⟨rfl, o1, x1, l1, e1⟩
    repeat walk_at "rd"
    refine w_fldI x1 T.l_Table T.n_free (tF_f _ _ _ _ _) ?_
    repeat walk_at "rd"
    cases mm with
    | zero =>
      refine iD (fun c => absurd c (by simp)) (fun _ => ?_)
      repeat walk_at "rd"
      rw [← e1] at q
      exact q H1 o1 ⟨dx, x1⟩
    | succ j =>
      refine iD (fun _ => ?_) (fun c => absurd (by omega) c)
      refine w_turn ?_
      repeat walk_at "rd"
      refine w_sAug ?_
      repeat walk_at "rd"
      refine ⟨x, CT, dx, _, _, rfl, x1, T.l_Table, T.n_free, tF_f _ _ _ _ _, ?_⟩
      repeat walk_at "rd"
      refine w_sub1 ⟨dx, _, x1, by show 5 < 1000; decide, ?_⟩
      rw [tF_pf n m pa pn (j + 1) (((j + 1 : Nat) : Int) - 1) j (by omega)]
      have o2 : Oth x H (upd H1 x (.ins CT dx (tF n m pa pn j))) := o1.put
      have x2 := upd_same (H := H1) (a := x) (o := .ins CT dx (tF n m pa pn j))
      generalize upd H1 x (.ins CT dx (tF n m pa pn j)) = H2 at o2 x2 ⊢
      have n2 : H2 pn = some (.lst (L.map adV)) := o2 _ _ nx hT.nod
      repeat walk_at "rd"
      refine w_fldI x2 T.l_Table T.n_nodes (tF_n _ _ _ _ _) ?_
      repeat walk_at "rd"
      refine w_fldI x2 T.l_Table T.n_free (tF_f _ _ _ _ _) ?_
      obtain ⟨o, ho⟩ : ∃ o, Tt.N[j]? = some o := ⟨_, List.getElem?_eq_getElem (by omega)⟩
      cases o with
      | none =>
        refine w_ixL n2 (hT.ix (hT.hole ho)) ?_
        repeat walk_at "rd"
        refine iT ?_
        repeat walk_at "rd"
        refine w_fldI x2 T.l_Table T.n_free (tF_f _ _ _ _ _) ?_
        repeat walk_at "rd"
        rw [← e1, freeM_hit ho] at q
        exact q H2 o2 ⟨dx, x2⟩
      | some nd =>
        obtain ⟨a, kv, ha, _⟩ := hT.node ho
        refine w_ixL n2 (hT.ix ha) ?_
        repeat walk_at "rd"
        refine iF ?_
        repeat walk_at "rd"
        exact ⟨j, Nat.lt_succ_self j, rfl, o2, x2, by omega, (freeM_miss ho).symm.trans e1⟩
/-! ### find -/
def KysOk (N : List (Option Nd)) : Prop := ∀ (j : Nat) (nd : Nd), N[j]? = some (some nd) → KyOk nd.k
def spFind (CF CT CN : Addr) : Sp := fun vs H Q _ => ∃ Ev x n m T pa pn L k kv b, vs = [.ref x, kv, .bl b] ∧ TA CF CT CN Ev H x n m T pa pn L ∧ WF plS T ∧ KysOk T.N ∧ KyOk k ∧ KeyAt CF CT Ev k kv ∧
  ∀ H', Same H H' → Q (lnV (findM T.N k)) H'
theorem u_same {k k' : Ky} {v v' : V} {H : Hp} {Q : VK} {E : XK} (h1 : KyOk k) (h2 : KyOk k') (a1 : KeyAt CF CT Ev k v) (a2 : KeyAt CF CT Ev k' v') (s : Same Ev H) (q : ∀ H', Same H H' → Q (.bl (decide (k = k'))) H') : spSame K CF CT ([v, v'] ++ []) H Q E :=
  ⟨v, v', nmK k, nmK k', rfl, kd_ky h1 a1 s, kd_ky h2 a2 s, fun H' s => by rw [same_ky h1 h2 a1 a2]; exact q H' s⟩
theorem sc_Table_find : FnScope ["self", "key", "with_dead", "at", "node"] ["self", "key", "with_dead"] (defScope s_Table_find) := ⟨rfl, rfl, rfl, by decide +kernel, rfl, by decide +kernel, by decide +kernel⟩
theorem ok_find (T : AllN K mg CF CT CN CZ) (k_place_of_tables : Kn P w K mg base CX0 3 "place_of_tables" ["key", "size"] (spPot CF CT)) (k_same : Kn P w K mg base CX0 4 "same" ["one", "other"] (spSame K CF CT)) :
    KnM P w K mg base CX0 5 CT "find" ["self", "key", "with_dead"] (spFind CF CT CN) := by
  refine T.x_find.kn fun f fd F => ?_
  refine F.ok sc_Table_find (fun vs H Q E h => ?_) (fun cdv A outer s H vs Q E hr h => ?_)
  · obtain ⟨Ev, x, n, m, T, pa, pn, L, k, kv, b, rfl, _⟩ := h
    rfl
  · obtain ⟨Ev, x, n, m, Tt, pa, pn, L, k, kv, b, rfl, hT, wf, ks, kk, ka, q⟩ := h
    refine ⟨_, (C8.pss_cut (ps_set (i := 3) sc_Table_find.nd rfl (Or.inl rfl) (pe_ifExp (pt_cmpR (op_neNil hr.units64) (pe_fld (pv 0) rfl) (pe_lst pa_nil) (nomark _)) (pk k_place_of_tables hr (pa_cons (pv 1) (pa_cons (pe_callB call_len_seq (by rfl) T.b_len boot_len (pa_cons (pe_fld (pv 0) rfl) pa_nil)) pa_nil))) pe_non))
      (pss_cons (ps_while PassesOwn.never (PW.pt (pw_and (pt_cmpR op_notN (pv 3) pe_non (nomark _)) (pw_and1 (pt_cmpR op_notN (pe_ix ix_list (pe_fld (pv 0) rfl) (pv 3) (fun _ _ => rfl)) pe_non (nomark _)))))
      (pss_cons (ps_set (i := 4) sc_Table_find.nd rfl (Or.inl rfl) (pe_ix ix_list (pe_fld (pv 0) rfl) (pv 3) (fun _ _ => rfl)))
      (pss_cons (ps_if (PW.pt (pw_and (pt_val (pk k_same hr (pa_cons (pe_fld (pv 4) rfl) (pa_cons (pv 1) pa_nil)))) (pw_and1 (PW.pt (pw_or (pt_val (pv 2)) (pw_or1 (pt_not (pt_val (pe_fld (pv 4) rfl))))))))) (pss_one (ps_ret (pv 3))) pss_nil)
      (pss_one (ps_set (i := 3) sc_Table_find.nd rfl (Or.inl rfl) (pe_fld (pv 4) rfl))))))
      (pss_one (ps_ret pe_non)))), ?_⟩
    obtain ⟨dx, hx⟩ := hT.ins
    obtain ⟨rk, hr2⟩ := wf.g.link
    refine w_cut (Mid := fun σ' H1 => ∃ c : Option Nat, σ' = [some (.ref x), some kv, some (.bl b), some (lnV c), none] ∧ Same H H1 ∧ (∀ i, c = some i → ∃ o, Tt.N[i]? = some o) ∧ (∀ f, findM Tt.N k = some f → ∃ i, c = some i ∧ Tm.Reach (fun j => Tt.N[j]?) i f)) ?_ ?_
    · repeat walk_at "rd"
      refine w_fldI hx T.l_Table T.n_nodes (tF_n _ _ _ _ _) ?_
      repeat walk_at "rd"
      refine w_lst0 fun p1 H1 s1 n1 h1 => ?_
      refine w_neNil (SqL.of (s1 _ _ hT.nod)) h1 ?_
      repeat walk_at "rd"
      refine iB (fun c => ?_) (fun c => ?_)
      · have n0 : 0 < Tt.N.length := by
          rw [← hT.len]
          cases hL : L with
          | nil => rw [hL] at c; cases c
          | cons z zs => exact Nat.succ_pos _
        repeat walk_at "rd"
        refine w_fldI (s1 _ _ hx) T.l_Table T.n_nodes (tF_n _ _ _ _ _) ?_
        repeat walk_at "rd"
        refine w_lenL (s1 _ _ hT.nod) ?_
        repeat walk_at "rd"
        refine ⟨Ev, k, kv, Tt.N.length, by rw [List.length_map, hT.len]; rfl, kk, ka, hT.env.trans s1, n0, ?_⟩
        repeat walk_at "rd"
        refine ⟨some (plS k Tt.N.length), rfl, s1, fun i e => ?_, fun f hf => ?_⟩
        · cases e
          exact ⟨_, List.getElem?_eq_getElem (plS_lt k _ n0)⟩
        · obtain ⟨nd, hj, hk⟩ := findM_some hf
          have := wf.g.reach f nd hj
          rw [hk] at this
          exact ⟨_, rfl, this⟩
      · repeat walk_at "rd"
        have l0 : Tt.N = [] := by
          cases hN : Tt.N with
          | nil => rfl
          | cons z zs =>
            have := hT.len
            rw [hN] at this
            cases hL : L with
            | nil => rw [hL] at this; cases this
            | cons z zs => rw [hL] at c; cases c
        refine ⟨none, rfl, s1, (fun i e => by cases e), fun f hf => ?_⟩
        rw [l0] at hf
        cases hf
    · rintro σ' H1 ⟨c0, rfl, s1, a1, b1⟩
      repeat walk_at "rd"
      refine w_while (fun mm σ' H2 => ∃ c y, σ' = [some (.ref x), some kv, some (.bl b), some (lnV c), y] ∧ Same H H2 ∧ (∀ i, c = some i → ∃ o, Tt.N[i]? = some o) ∧ (∀ f, findM Tt.N k = some f → ∃ i, c = some i ∧ Tm.Reach (fun j => Tt.N[j]?) i f) ∧ mm = (match c with | none => 0 | some i => rk i + 1)) ⟨c0, none, rfl, s1, a1, b1, rfl⟩ ?_
      rintro mm σ' H2 ⟨c, y, rfl, s2, a2, b2, rfl⟩
      repeat walk_at "rd"
      cases c with
      | none =>
        have e : findM Tt.N k = none := by
          cases hf : findM Tt.N k with
          | none => rfl
          | some f => obtain ⟨i, e, _⟩ := b2 f hf; cases e
        refine iF ?_
        refine iF ?_
        repeat walk_at "rd"
        have q' := q H2 s2
        rw [e] at q'
        exact q'
      | some i =>
        obtain ⟨o, ho⟩ := a2 i rfl
        refine iT ?_
        repeat walk_at "rd"
        refine w_fldI (s2 _ _ hx) T.l_Table T.n_nodes (tF_n _ _ _ _ _) ?_
        repeat walk_at "rd"
        cases o with
        | none =>
          refine w_ixL (i := (i : Int)) (s2 _ _ hT.nod) (hT.ix (hT.hole ho)) ?_
          have e : findM Tt.N k = none := by
            cases hf : findM Tt.N k with
            | none => rfl
            | some f =>
              obtain ⟨i', e, r⟩ := b2 f hf
              cases e
              cases r with
              | refl => obtain ⟨nd, hj, hk⟩ := findM_some hf; rw [ho] at hj; cases hj
              | step h1 _ _ => rw [ho] at h1; cases h1
          repeat walk_at "rd"
          refine iF ?_
          repeat walk_at "rd"
          have q' := q H2 s2
          rw [e] at q'
          exact q'
        | some nd =>
          obtain ⟨a, kva, ha, kat, dn, hn⟩ := hT.node ho
          refine w_ixL (i := (i : Int)) (s2 _ _ hT.nod) (hT.ix ha) ?_
          repeat walk_at "rd"
          refine iT ?_
          refine w_turn ?_
          repeat walk_at "rd"
          refine w_fldI (s2 _ _ hx) T.l_Table T.n_nodes (tF_n _ _ _ _ _) ?_
          repeat walk_at "rd"
          refine w_ixL (i := (i : Int)) (s2 _ _ hT.nod) (hT.ix ha) ?_
          repeat walk_at "rd"
          refine w_fldI (s2 _ _ hn) T.l_Node T.n_key (nF_k _ _ _) ?_
          repeat walk_at "rd"
          refine u_same (ks i nd ho) kk kat ka (hT.env.trans s2) fun H3 s3 => ?_
          repeat walk_at "rd"
          have s23 := s2.trans s3
          refine iD (fun e => ?_) (fun e => ?_)
          · repeat walk_at "rd"
            have fin : findM Tt.N k = some i := by
              cases hf : findM Tt.N k with
              | none => exact absurd e (findM_none hf i nd ho)
              | some f =>
                obtain ⟨nd2, hj, hk⟩ := findM_some hf
                exact congrArg some (wf.g.dist f i nd2 nd hj ho (hk.trans e.symm))
            have q' := q H3 s23
            rw [fin] at q'
            cases b with
            | true =>
              refine iT ?_
              repeat walk_at "rd"
              exact q'
            | false =>
              refine iF ?_
              repeat walk_at "rd"
              refine w_fldI (s23 _ _ hn) T.l_Node T.n_dead (nF_d _ _ _) ?_
              repeat walk_at "rd"
              refine iT ?_
              repeat walk_at "rd"
              exact q'
          · have e0 : ¬ nd.k = k := e
            repeat walk_at "rd"
            refine w_fldI (s23 _ _ hn) T.l_Node T.n_link (nF_l _ _ _) ?_
            repeat walk_at "rd"
            refine ⟨(match nd.l with | none => 0 | some i => rk i + 1), ?_, nd.l, some (.ref a), rfl, s23, fun i' e => ?_, fun f hf => ?_, rfl⟩
            · cases e : nd.l with
              | none => exact Nat.succ_pos _
              | some i' => exact Nat.succ_lt_succ (hr2 i nd i' ho e).1
            · obtain ⟨_, nd', e'⟩ := hr2 i nd i' ho e
              exact ⟨_, e'⟩
            · obtain ⟨i', e, r⟩ := b2 f hf
              cases e
              cases r with
              | refl => obtain ⟨nd2, hj, hk⟩ := findM_some hf; rw [ho] at hj; cases hj; exact absurd hk e0
              | step h1 e2 r =>
                have h1 : Tt.N[i]? = _ := h1
                rw [ho] at h1
                cases h1
                exact ⟨_, e2, r⟩
end
end Nu

set_option Elab.async false
set_option linter.all false
set_option maxRecDepth 100000
set_option autoImplicit false
set_option maxHeartbeats 4000000
namespace Tm
open PySem L2 Nu
def atM (T : Tb) (j : Nat) : V := match T.N[j]? with
  | some (some nd) => nd.v
  | _ => .non
def getM (T : Tb) (k : Ky) : V := if inA T.A k = true then (match k with
    | .int i => (T.A[(i - 1).toNat]?).getD .non
    | _ => .non)
  else match findM T.N k with
    | some j => atM T j
    | none => .non
def hasM (T : Tb) (i : Int) : Bool := !decide (getM T (.int i) = .non)
def halvM (p : Int → Bool) (lo hi : Int) : Int :=
  if h : hi - lo > 1 then if p ((lo + hi) / 2) = true then halvM p ((lo + hi) / 2) hi else halvM p lo ((lo + hi) / 2) else lo
termination_by (hi - lo).toNat
decreasing_by all_goals omega
def doubM (p : Int → Bool) (lo hi : Int) : Int :=
  if p hi = true then
    if h : 0 < hi ∧ hi ≤ 4611686018427387903 then doubM p hi (2 * hi)
    else if p 9223372036854775807 = true then 9223372036854775807 else halvM p hi 9223372036854775807
  else halvM p lo hi
termination_by (9223372036854775808 - hi).toNat
decreasing_by omega
def beyondM (T : Tb) (low : Int) : Int := if T.N = [] ∨ hasM T (low + 1) = false then low else doubM (hasM T) (max 1 low) (max 1 low)
def bordM (T : Tb) : Int := if 0 < T.A.length ∧ hasM T T.A.length = false then halvM (hasM T) 0 T.A.length else beyondM T T.A.length
def getR (T : Tb) (r : Rw) : V := match r.pl with
  | some k => getM T k
  | none => .non
end Tm
namespace Nu
open PySem PySem.Spec PyProof.Rows L2 Rd Tm
local macro_rules | `(tactic| walk_at "hp") => `(tactic| first | assumption | (refine same_get ?sm ?_; (case sm => assumption); walk_at "hp"))
local macro_rules | `(tactic| walk_at "rd") => `(tactic| first
  | (with_reducible show Ends.nx _ _ _; with_reducible refine w_nx ?_)
  | with_reducible refine w_rt ?_
  | (with_reducible show Ends.bk _ _ _; with_reducible refine w_bk ?_)
  | (with_reducible show Ends.ct _ _ _; with_reducible refine w_ct ?_)
  | with_reducible refine w_seq ?_
  | with_reducible refine w_next ?_
  | with_reducible refine w_ret ?_
  | with_reducible refine w_ifS ?_
  | with_reducible refine w_asg ?_
  | with_reducible refine w_name ?_
  | with_reducible refine w_par ?_
  | with_reducible refine w_parI ?_
  | with_reducible refine w_ii ?_
  | with_reducible refine w_i1 ?_
  | with_reducible refine w_drop ?_
  | with_reducible refine w_sFld ?_
  | ((with_reducible refine' w_var ?rdh ?_); (case rdh => exact rfl))
  | with_reducible refine w_c ?_
  | with_reducible refine w_op ?_
  | with_reducible refine w_un ?_
  | with_reducible refine w_I0 ?_
  | with_reducible refine w_U ?_
  | with_reducible refine w_bits ?_
  | with_reducible refine w_bitsI ?_
  | with_reducible refine w_tup ?_
  | with_reducible refine w_lst ?_
  | with_reducible refine w_nil ?_
  | with_reducible refine w_cons ?_
  | with_reducible refine w_fld ?_
  | with_reducible refine w_call ?_
  | with_reducible refine w_make ?_
  | with_reducible refine w_gsub ?_
  | with_reducible refine w_int1 ?_
  | with_reducible refine w_intB ?_
  | with_reducible refine w_for ?_
  | with_reducible refine w_rng1 ?_
  | with_reducible refine w_iList ?_
  | with_reducible refine w_iTup ?_
  | with_reducible refine w_makeD ?_
  | with_reducible refine w_nn ?_
  | with_reducible refine w_subB ?_
  | with_reducible refine w_meth ?_
  | with_reducible refine w_cb ?_
  | with_reducible refine w_test ?_
  | with_reducible refine w_B ?_
  | with_reducible refine w_bl ?_
  | with_reducible refine w_andV ?_
  | with_reducible refine w_orV ?_
  | with_reducible refine w_notV ?_
  | with_reducible refine w_and ?_
  | with_reducible refine w_or ?_
  | with_reducible refine w_not ?_
  | with_reducible refine w_if ?_
  | with_reducible refine w_gnil ?_
  | with_reducible refine w_gcons ?_
  | with_reducible refine iT ?_
  | with_reducible refine iF ?_
  | with_reducible refine w_eqI ?_
  | with_reducible refine w_neI ?_
  | with_reducible refine w_eqS ?_
  | with_reducible refine w_eqIS ?_
  | with_reducible refine w_eqSI ?_)

section
variable {P : Program} {w : World} {K : PySem.W.Frag} {mg : Str → Option Value} {base : Heap} {CF CT CN CZ : Addr} {Ev : Hp}
theorem kv_nn {k : Ky} {v : V} (h : KeyAt CF CT Ev k v) : decide (v = V.non) = false := by
  cases k with
  | int i => obtain rfl : v = .int i := h; rfl
  | str z => obtain rfl : v = .str z := h; rfl
  | bl b => obtain rfl : v = .bl b := h; rfl
  | fl s t p => obtain ⟨a, rfl, _⟩ := h; rfl
  | inf s => obtain ⟨a, rfl, _⟩ := h; rfl
  | ob a m => obtain ⟨rfl, _⟩ := h; rfl
  | nt a z => exact h.elim
theorem bits64 {i : Int} (h1 : -9223372036854775808 ≤ i) (h2 : i ≤ 9223372036854775807) : bits i ≤ 64 := bits64' h1 h2
/-! ### ahead_of -/
def spAhead (CF CT CN : Addr) : Sp := fun vs H Q _ => ∃ Ev x n m T pa pn L nd0 kv a p, vs = [.ref x, kv, .int (a : Nat)] ∧ KyOk nd0.k ∧ KeyAt CF CT Ev nd0.k kv ∧ TA CF CT CN Ev H x n m T pa pn L ∧ WG (fun k => plS k T.N.length) (fun j => T.N[j]?) ∧ T.N[a]? = some (some nd0) ∧ plS nd0.k T.N.length ≠ a ∧ aheadM T.N a = some p ∧ Q (.int (p : Nat)) H
theorem sc_Table_ahead_of : FnScope ["self", "key", "at", "found"] ["self", "key", "at"] (defScope s_Table_ahead_of) := ⟨rfl, rfl, rfl, by decide +kernel, rfl, by decide +kernel, by decide +kernel⟩
theorem ok_ahead_of (T : AllN K mg CF CT CN CZ) (k_place_of_tables : Kn P w K mg base CX0 3 "place_of_tables" ["key", "size"] (spPot CF CT)) : KnM P w K mg base CX0 4 CT "ahead_of" ["self", "key", "at"] (spAhead CF CT CN) := by
  refine T.x_ahead_of.kn fun f fd F => ?_
  refine F.ok sc_Table_ahead_of (fun vs H Q E h => ?_) (fun cdv A outer s H vs Q E hr h => ?_)
  · obtain ⟨Ev, x, n, m, T, pa, pn, L, nd0, kv, a, p, rfl, _⟩ := h
    rfl
  · obtain ⟨Ev, x, n, m, Tt, pa, pn, L, nd0, kv, a, p, rfl, k0, ka, hT, wf, ha, hne, hp, q⟩ := h
    refine ⟨_, (pss_cons (ps_set (i := 3) sc_Table_ahead_of.nd rfl (Or.inl rfl) (pk k_place_of_tables hr (pa_cons (pv 1) (pa_cons (pe_callB call_len_seq (by rfl) T.b_len boot_len (pa_cons (pe_fld (pv 0) rfl) pa_nil)) pa_nil))))
      (pss_cons (ps_while PassesOwn.never (pt_cmpR op_ne (pe_fld (pe_ix ix_list (pe_fld (pv 0) rfl) (pv 3) (fun _ _ => rfl)) rfl) (pv 2) (nomark _))
      (pss_one (ps_set (i := 3) sc_Table_ahead_of.nd rfl (Or.inl rfl) (pe_fld (pe_ix ix_list (pe_fld (pv 0) rfl) (pv 3) (fun _ _ => rfl)) rfl))))
      (pss_one (ps_ret (pv 3))))), ?_⟩
    obtain ⟨dx, hx⟩ := hT.ins
    obtain ⟨rk, hr2⟩ := wf.link
    obtain ⟨ndp, p1, p2⟩ := aheadM_some hp
    have n0 : 0 < Tt.N.length := by have := (List.getElem?_eq_some_iff.1 ha).1; omega
    repeat walk_at "rd"
    refine w_fldI hx T.l_Table T.n_nodes (tF_n _ _ _ _ _) ?_
    repeat walk_at "rd"
    refine w_lenL hT.nod ?_
    repeat walk_at "rd"
    refine ⟨Ev, nd0.k, kv, Tt.N.length, by rw [List.length_map, hT.len]; rfl, k0, ka, hT.env, n0, ?_⟩
    repeat walk_at "rd"
    refine w_while (fun mm σ' H' => H' = H ∧ ∃ i : Nat, σ' = [some (.ref x), some kv, some (.int (a : Nat)), some (.int (i : Nat))] ∧ Tm.Reach (fun j => Tt.N[j]?) i a ∧ i ≠ a ∧ mm = rk i) ⟨rfl, plS nd0.k Tt.N.length, rfl, wf.reach a nd0 ha, hne, rfl⟩ ?_
    rintro mm σ' H1 ⟨rfl, i, rfl, r, hi, rfl⟩
    repeat walk_at "rd"
    refine w_fldI hx T.l_Table T.n_nodes (tF_n _ _ _ _ _) ?_
    repeat walk_at "rd"
    cases r with
    | refl => exact absurd rfl hi
    | @step _ j _ nd h1 e r =>
      have h1 : Tt.N[i]? = some (some nd) := h1
      obtain ⟨b, kvb, hb, kab, dn, hn⟩ := hT.node h1
      rw [e] at hn
      refine w_ixL (i := (i : Int)) hT.nod (hT.ix hb) ?_
      repeat walk_at "rd"
      refine w_fldI hn T.l_Node T.n_link (nF_l _ _ _) ?_
      repeat walk_at "rd"
      refine w_neI (i := (j : Int)) ?_
      repeat walk_at "rd"
      refine iN (fun c => ?_) (fun c => ?_)
      · refine w_turn ?_
        repeat walk_at "rd"
        refine w_fldI hx T.l_Table T.n_nodes (tF_n _ _ _ _ _) ?_
        repeat walk_at "rd"
        refine w_ixL (i := (i : Int)) hT.nod (hT.ix hb) ?_
        repeat walk_at "rd"
        refine w_fldI hn T.l_Node T.n_link (nF_l _ _ _) ?_
        repeat walk_at "rd"
        exact ⟨rk j, (hr2 i nd j h1 e).1, rfl, j, rfl, r, fun z => c (congrArg Nat.cast z), rfl⟩
      · repeat walk_at "rd"
        have c' : j = a := by omega
        subst c'
        have : i = p := wf.inj i p nd ndp j h1 p1 e p2
        subst this
        exact q
/-! ### get -/
def spGet (CF CT CN : Addr) : Sp := fun vs H Q _ => ∃ Ev x n m T pa pn L r kv, vs = [.ref x, kv] ∧ TA CF CT CN Ev H x n m T pa pn L ∧ WF plS T ∧ KysOk T.N ∧ RwAt CF CT Ev r kv ∧ ∀ H', Same H H' → Q (getR T r) H'
theorem sc_Table_get : FnScope ["self", "key", "at"] ["self", "key"] (defScope s_Table_get) := ⟨rfl, rfl, rfl, by decide +kernel, rfl, by decide +kernel, by decide +kernel⟩
theorem lk_t (n m : V) (pa pn : Addr) (fr : Nat) {f : Str} (h : [("number" : Str), "meta", "array", "nodes", "free"].contains f = false) : (tF n m pa pn fr).lookup f = none := by
  simp only [List.contains_cons, List.contains_nil, Bool.or_eq_false_iff] at h
  obtain ⟨h1, h2, h3, h4, h5, _⟩ := h
  unfold tF
  simp only [List.lookup, h1, h2, h3, h4, h5]
theorem ok_get (T : AllN K mg CF CT CN CZ) (k_plain_key : Kn P w K mg base CX0 3 "plain_key" ["key"] (spPlk CF CT)) (k_is_nan : Kn P w K mg base CX0 1 "is_nan" ["key"] (spNan CF CT)) (k_Table_is_inside : KnM P w K mg base CX0 2 CT "is_inside" ["self", "key"] (spInside CF CT CN)) (k_Table_find : KnM P w K mg base CX0 5 CT "find" ["self", "key", "with_dead"] (spFind CF CT CN)) :
    KnM P w K mg base CX0 6 CT "get" ["self", "key"] (spGet CF CT CN) := by
  refine T.x_get.kn fun f fd F => ?_
  refine F.ok sc_Table_get (fun vs H Q E h => ?_) (fun cdv A outer s H vs Q E hr h => ?_)
  · obtain ⟨Ev, x, n, m, T, pa, pn, L, r, kv, rfl, _⟩ := h
    rfl
  · obtain ⟨Ev, x, n, m, Tt, pa, pn, L, r, kv0, rfl, hT, wf, ks, ra, q⟩ := h
    refine ⟨_, (pss_cons (ps_set (i := 1) sc_Table_get.nd rfl (Or.inl rfl) (pk k_plain_key hr (pa_cons (pv 1) pa_nil)))
      (pss_cons (ps_if (pt_val (pkM k_Table_is_inside T.l_Table hr (pv 0) (pa_cons (pv 1) pa_nil) rfl)) (pss_one (ps_ret (pe_ix ix_list (pe_fld (pv 0) rfl) (pe_op op_sub (pv 1) pe_int) (fun _ _ => rfl)))) pss_nil)
      (pss_cons (ps_if (PW.pt (pw_or (pt_cmpR op_isN (pv 1) pe_non (nomark _)) (pw_or1 (pt_val (pk k_is_nan hr (pa_cons (pv 1) pa_nil)))))) (pss_one (ps_ret pe_non)) pss_nil)
      (pss_cons (ps_set (i := 2) sc_Table_get.nd rfl (Or.inl rfl) (pkM k_Table_find T.l_Table hr (pv 0) (pa_cons (pv 1) (pa_cons pe_bl pa_nil)) rfl))
      (pss_one (ps_ret (pe_ifExp (pt_cmpR op_isN (pv 2) pe_non (nomark _)) pe_non (pe_fld (pe_ix ix_list (pe_fld (pv 0) rfl) (pv 2) (fun _ _ => rfl)) rfl)))))))), ?_⟩
    obtain ⟨dx, hx⟩ := hT.ins
    repeat walk_at "rd"
    refine ⟨Ev, r, kv0, rfl, ra, hT.env, fun kv H0 s0 pa' => ?_⟩
    have hT := hT.same s0
    have hx := s0 _ _ hx
    replace q : ∀ H', Same H0 H' → Q (getR Tt r) H' := fun H' s => q H' (s0.trans s)
    repeat walk_at "rd"
    refine w_methI hx (lk_t _ _ _ _ _ (by decide +kernel)) ?_
    repeat walk_at "rd"
    refine ⟨Ev, x, n, m, Tt, pa, pn, L, r, kv, rfl, hT, pa', ?_⟩
    repeat walk_at "rd"
    unfold getR at q
    refine iB (fun c => ?_) (fun c => ?_)
    · have ei : r.isI = true := by
        cases e : r.isI with
        | true => rfl
        | false => rw [inR_isI e] at c; cases c
      obtain ⟨i, rfl, e⟩ := pl_int pa' ei
      rw [e] at q
      have c : inA Tt.A (.int i) = true := by unfold inR at c; rw [e] at c; exact c
      simp only at q
      unfold getM at q
      rw [if_pos c] at q
      have c' : 1 ≤ i ∧ i ≤ Tt.A.length := by
        have c : (decide (1 ≤ i) && decide (i ≤ Tt.A.length)) = true := c
        simpa using c
      repeat walk_at "rd"
      refine w_fldI hx T.l_Table T.n_array (tF_a _ _ _ _ _) ?_
      repeat walk_at "rd"
      obtain ⟨v, hv⟩ : ∃ v, Tt.A[(i - 1).toNat]? = some v := ⟨_, List.getElem?_eq_getElem (by omega)⟩
      have := atN hv
      rw [show (((i - 1).toNat : Nat) : Int) = i - 1 by omega] at this
      refine w_ixL hT.arr this ?_
      have q' := q H0 (Same.refl _)
      simp only [hv] at q'
      exact q'
    · repeat walk_at "rd"
      cases e : r.pl with
      | none =>
        rw [e] at q
        simp only at q
        cases r with
        | ky k => cases e
        | wh i => cases e
        | nil =>
          obtain rfl : kv = .non := pa'
          refine iD (fun _ => ?_) (fun z => absurd rfl z)
          repeat walk_at "rd"
          exact q H0 (Same.refl _)
        | nan =>
          obtain ⟨b, rfl, g⟩ := id pa'
          refine iD (fun z => by cases z) (fun _ => ?_)
          repeat walk_at "rd"
          refine ⟨Ev, .nan, .ref b, rfl, pa', hT.env, ?_⟩
          rw [show Rw.nan.isN = true from rfl]
          repeat walk_at "rd"
          exact q H0 (Same.refl _)
      | some k =>
        rw [e] at q
        simp only at q
        obtain ⟨kk, ka⟩ := pa'.key e
        have c : inA Tt.A k = false := by unfold inR at c; rw [e] at c; exact c
        unfold getM at q
        rw [if_neg (by rw [c]; decide)] at q
        have nn : r.isN = false := by
          cases r with
          | nan => cases e
          | ky k => rfl
          | wh i => rfl
          | nil => rfl
        rw [kv_nn ka]
        refine iF ?_
        repeat walk_at "rd"
        refine ⟨Ev, r, kv, rfl, pa', hT.env, ?_⟩
        rw [nn]
        repeat walk_at "rd"
        refine w_methI hx (lk_t _ _ _ _ _ (by decide +kernel)) ?_
        repeat walk_at "rd"
        refine ⟨Ev, x, n, m, Tt, pa, pn, L, k, kv, false, rfl, hT, wf, ks, kk, ka, fun H1 s1 => ?_⟩
        repeat walk_at "rd"
        have q' := q H1 s1
        cases hf : findM Tt.N k with
        | none =>
          rw [hf] at q'
          refine iT ?_
          repeat walk_at "rd"
          exact q'
        | some j =>
          rw [hf] at q'
          obtain ⟨nd, hj, hk⟩ := findM_some hf
          obtain ⟨a, kva, ha, kat, dn, hn⟩ := hT.node hj
          refine iF ?_
          repeat walk_at "rd"
          refine w_fldI (s1 _ _ hx) T.l_Table T.n_nodes (tF_n _ _ _ _ _) ?_
          repeat walk_at "rd"
          refine w_ixL (i := (j : Int)) (s1 _ _ hT.nod) (hT.ix ha) ?_
          repeat walk_at "rd"
          refine w_fldI (s1 _ _ hn) T.l_Node T.n_value (nF_v _ _ _) ?_
          unfold atM at q'
          simp only [hj] at q'
          exact q'
/-! ### borders -/
theorem u_get {x pa pn : Addr} {n m : V} {Tt : Tb} {L : List (Option (Addr × V))} {i : Int} {H : Hp} {Q : VK} {E : XK} (hT : TA CF CT CN Ev H x n m Tt pa pn L) (wf : WF plS Tt) (ks : KysOk Tt.N) (h1 : -9223372036854775808 ≤ i) (h2 : i ≤ 9223372036854775807)
    (q : ∀ H', Same H H' → Q (getM Tt (.int i)) H') : spGet CF CT CN (V.ref x :: ([V.int i] ++ [])) H Q E := ⟨Ev, x, n, m, Tt, pa, pn, L, .ky (.int i), .int i, rfl, hT, wf, ks, ⟨⟨h1, h2⟩, rfl⟩, q⟩
theorem TA.nil {x pa pn : Addr} {n m : V} {T : Tb} {L : List (Option (Addr × V))} {H : Hp} (h : TA CF CT CN Ev H x n m T pa pn L) (c : (L.map adV).isEmpty = true) : T.N = [] := by
  have := h.len
  cases hL : L with
  | nil => rw [hL] at this; exact List.length_eq_zero_iff.1 this.symm
  | cons z zs => rw [hL] at c; cases c
theorem TA.nil2 {x pa pn : Addr} {n m : V} {T : Tb} {L : List (Option (Addr × V))} {H : Hp} (h : TA CF CT CN Ev H x n m T pa pn L) (c : T.N = []) : (L.map adV).isEmpty = true := by
  have := h.len
  rw [c] at this
  rw [List.length_eq_zero_iff.1 this]
  rfl
end
end Nu

set_option Elab.async false
set_option linter.all false
set_option maxRecDepth 100000
set_option autoImplicit false
set_option maxHeartbeats 4000000
namespace Nu
open PySem PySem.Spec PyProof.Rows L2 Rd Tm
local macro_rules | `(tactic| walk_at "hp") => `(tactic| first | assumption | (refine same_get ?sm ?_; (case sm => assumption); walk_at "hp"))
local macro_rules | `(tactic| walk_at "rd") => `(tactic| first
  | (with_reducible show Ends.nx _ _ _; with_reducible refine w_nx ?_)
  | with_reducible refine w_rt ?_
  | (with_reducible show Ends.bk _ _ _; with_reducible refine w_bk ?_)
  | (with_reducible show Ends.ct _ _ _; with_reducible refine w_ct ?_)
  | with_reducible refine w_seq ?_
  | with_reducible refine w_next ?_
  | with_reducible refine w_ret ?_
  | with_reducible refine w_ifS ?_
  | with_reducible refine w_asg ?_
  | with_reducible refine w_name ?_
  | with_reducible refine w_par ?_
  | with_reducible refine w_parI ?_
  | with_reducible refine w_ii ?_
  | with_reducible refine w_i1 ?_
  | with_reducible refine w_drop ?_
  | with_reducible refine w_sFld ?_
  | ((with_reducible refine' w_var ?rdh ?_); (case rdh => exact rfl))
  | with_reducible refine w_c ?_
  | with_reducible refine w_op ?_
  | with_reducible refine w_un ?_
  | with_reducible refine w_I0 ?_
  | with_reducible refine w_U ?_
  | with_reducible refine w_bits ?_
  | with_reducible refine w_bitsI ?_
  | with_reducible refine w_tup ?_
  | with_reducible refine w_lst ?_
  | with_reducible refine w_nil ?_
  | with_reducible refine w_cons ?_
  | with_reducible refine w_fld ?_
  | with_reducible refine w_call ?_
  | with_reducible refine w_make ?_
  | with_reducible refine w_gsub ?_
  | with_reducible refine w_int1 ?_
  | with_reducible refine w_intB ?_
  | with_reducible refine w_for ?_
  | with_reducible refine w_rng1 ?_
  | with_reducible refine w_iList ?_
  | with_reducible refine w_iTup ?_
  | with_reducible refine w_makeD ?_
  | with_reducible refine w_nn ?_
  | with_reducible refine w_subB ?_
  | with_reducible refine w_meth ?_
  | with_reducible refine w_cb ?_
  | with_reducible refine w_test ?_
  | with_reducible refine w_B ?_
  | with_reducible refine w_bl ?_
  | with_reducible refine w_andV ?_
  | with_reducible refine w_orV ?_
  | with_reducible refine w_notV ?_
  | with_reducible refine w_and ?_
  | with_reducible refine w_or ?_
  | with_reducible refine w_not ?_
  | with_reducible refine w_if ?_
  | with_reducible refine w_gnil ?_
  | with_reducible refine w_gcons ?_
  | with_reducible refine iT ?_
  | with_reducible refine iF ?_
  | with_reducible refine w_eqI ?_
  | with_reducible refine w_neI ?_
  | with_reducible refine w_eqS ?_
  | with_reducible refine w_eqIS ?_
  | with_reducible refine w_eqSI ?_)

/-! ### what a table's functions change -/
structure Stp (x : Addr) (H : Hp) (pa pn : Addr) (L : List (Option (Addr × V))) (H' : Hp) (pa' pn' : Addr) (L' : List (Option (Addr × V))) : Prop where
  fr : ∀ b o, H b = some o → ¬ InT x pa pn L b → H' b = some o
  nw : ∀ b, InT x pa' pn' L' b → InT x pa pn L b ∨ H b = none
section
variable {x : Addr} {H H1 H2 : Hp} {pa pn pa1 pn1 pa2 pn2 : Addr} {L L1 L2' : List (Option (Addr × V))}
theorem Stp.refl : Stp x H pa pn L H pa pn L := ⟨fun _ _ e _ => e, fun _ h => .inl h⟩
theorem Stp.trans (a : Stp x H pa pn L H1 pa1 pn1 L1) (b : Stp x H1 pa1 pn1 L1 H2 pa2 pn2 L2') : Stp x H pa pn L H2 pa2 pn2 L2' := by
  refine ⟨fun c o e h => b.fr c o (a.fr c o e h) fun z => ?_, fun c h => ?_⟩
  · rcases a.nw c z with z | z
    · exact h z
    · rw [e] at z; cases z
  · rcases b.nw c h with z | z
    · exact a.nw c z
    · by_cases i : InT x pa pn L c
      · exact .inl i
      · refine .inr ?_
        cases e : H c with
        | none => rfl
        | some o => rw [a.fr c o e i] at z; cases z
theorem Stp.of_same (s : Same H H1) : Stp x H pa pn L H1 pa pn L := ⟨fun b o e _ => s b o e, fun _ h => .inl h⟩
theorem Stp.of_oth (s : Oth x H H1) : Stp x H pa pn L H1 pa pn L := ⟨fun b o e h => s b o (fun z => h (.inl z)) e, fun _ h => .inl h⟩
end
section
variable {CF CT CN : Addr} {Ev : Hp} {H H1 : Hp} {x pa pn : Addr} {n m : V} {T : Tb} {L : List (Option (Addr × V))}
theorem mapSet {L : List (Option (Addr × V))} {a : Nat} {o : Option (Addr × V)} : (L.map adV).set a (adV o) = (L.set a o).map adV := (List.map_set).symm
theorem gsL {α : Type} {N : List α} {a : Nat} {x y : α} {j : Nat} (h : (N.set a x)[j]? = some y) : (j = a ∧ y = x) ∨ (j ≠ a ∧ N[j]? = some y) := by
  by_cases c : j = a
  · subst c
    have := (List.getElem?_eq_some_iff.1 h).1
    rw [List.length_set] at this
    rw [List.getElem?_set_self this] at h
    cases h
    exact .inl ⟨rfl, rfl⟩
  · rw [List.getElem?_set_ne (Ne.symm c)] at h
    exact .inr ⟨c, h⟩
theorem set_at {α : Type} {N : List α} {a : Nat} {x : α} {j : Nat} (h : a < N.length) : (N.set a x)[j]? = if j = a then some x else N[j]? := gs h j
/-- the free place goes down -/
theorem TC.free (h : TC CF CT CN Ev H x n m T pa pn L) (s : Oth x H H1) {f : Nat} (hx : ∃ dx, H1 x = some (.ins CT dx (tF n m pa pn f))) (ne : ¬ CT = CN) :
    TC CF CT CN Ev H1 x n m { T with fr := f } pa pn L := by
  obtain ⟨dx, hx0⟩ := h.ins
  refine ⟨hx, s _ _ (ne_of h.arr hx0 (by intro z; cases z)) h.arr, s _ _ (ne_of h.nod hx0 (by intro z; cases z)) h.nod, h.len, fun j a kv e => ?_, h.nns, h.dis, h.ne⟩
  obtain ⟨nd, e1, ka, dn, e2⟩ := h.nds j a kv e
  exact ⟨nd, e1, ka, dn, s _ _ (ne_of e2 hx0 (by intro z; cases z)) e2⟩
/-- a node changed -/
theorem TC.renode (h : TC CF CT CN Ev H x n m T pa pn L) (ne : ¬ CT = CN) {j : Nat} {c dn : Addr} {kv : V} {nd nd' : Nd} (hj : L[j]? = some (some (c, kv))) (hc : H c = some (.ins CN dn (nF kv nd.v (lnV nd.l)))) (ka : KeyAt CF CT Ev nd'.k kv) :
    TC CF CT CN Ev (upd H c (.ins CN dn (nF kv nd'.v (lnV nd'.l)))) x n m { T with N := T.N.set j (some nd') } pa pn L ∧ Stp x H pa pn L (upd H c (.ins CN dn (nF kv nd'.v (lnV nd'.l)))) pa pn L := by
  obtain ⟨dx, hx0⟩ := h.ins
  have hl : j < T.N.length := by rw [← h.len]; exact (List.getElem?_eq_some_iff.1 hj).1
  refine ⟨⟨⟨dx, ?_⟩, ?_, ?_, ?_, fun i a kv2 e => ?_, fun i e => ?_, h.dis, h.ne⟩, ⟨fun b o e hn => ?_, fun b i => .inl i⟩⟩
  · rw [upd_ne (ne_of hx0 hc (by intro z; cases z))]
    exact hx0
  · rw [upd_ne (ne_of h.arr hc (by intro z; cases z))]
    exact h.arr
  · rw [upd_ne (ne_of h.nod hc (by intro z; cases z))]
    exact h.nod
  · show L.length = (T.N.set j _).length
    rw [List.length_set]
    exact h.len
  · show ∃ nd, (T.N.set j (some nd'))[i]? = _ ∧ _
    rw [set_at hl]
    by_cases ci : i = j
    · subst ci
      rw [hj] at e
      cases e
      exact ⟨nd', if_pos rfl, ka, dn, upd_same⟩
    · obtain ⟨nd2, e1, ka2, dn2, e2⟩ := h.nds i a kv2 e
      refine ⟨nd2, by rw [if_neg ci]; exact e1, ka2, dn2, ?_⟩
      rw [upd_ne (fun z => ci (h.dis i j c kv2 kv (by rw [z] at e; exact e) hj))]
      exact e2
  · show (T.N.set j (some nd'))[i]? = _
    rw [set_at hl, if_neg (fun z => by
      subst z
      rw [hj] at e
      cases e)]
    exact h.nns i e
  · rw [upd_ne (fun z => hn (.inr (.inr (.inr ⟨j, kv, by rw [z]; exact hj⟩))))]
    exact e
/-- a new node at a place -/
theorem TC.put (h : TC CF CT CN Ev H x n m T pa pn L) (s : Same H H1) {a : Nat} {b : Addr} {kv : V} {nd : Nd} (hb : H b = none) (ka : KeyAt CF CT Ev nd.k kv) (hn : NdAt CN H1 b kv nd) (ha : a < T.N.length) (ne : ¬ CT = CN) :
    TC CF CT CN Ev (upd H1 pn (.lst ((L.set a (some (b, kv))).map adV))) x n m { T with N := T.N.set a (some nd) } pa pn (L.set a (some (b, kv))) ∧ Stp x H pa pn L (upd H1 pn (.lst ((L.set a (some (b, kv))).map adV))) pa pn (L.set a (some (b, kv))) := by
  obtain ⟨dx, hx0⟩ := h.ins
  obtain ⟨dn, hn⟩ := hn
  have nb : ∀ {c o}, H c = some o → ¬ c = b := fun e z => by rw [z, hb] at e; cases e
  refine ⟨⟨⟨dx, ?_⟩, ?_, upd_same, ?_, fun i c kvc e => ?_, fun i e => ?_, fun i j c kvc kvd e1 e2 => ?_, h.ne⟩, ⟨fun c o e hi => ?_, fun c i => ?_⟩⟩
  · rw [upd_ne (ne_of hx0 h.nod (by intro z; cases z))]
    exact s _ _ hx0
  · rw [upd_ne h.ne]
    exact s _ _ h.arr
  · show (L.set a _).length = (T.N.set a _).length
    rw [List.length_set, List.length_set]
    exact h.len
  · show ∃ nd, (T.N.set a _)[i]? = _ ∧ _
    rw [set_at ha]
    rcases gsL e with ⟨rfl, z⟩ | ⟨ci, e⟩
    · cases z
      refine ⟨nd, if_pos rfl, ka, dn, ?_⟩
      rw [upd_ne (fun z => nb h.nod z.symm)]
      exact hn
    · obtain ⟨nd2, e1, ka2, dn2, e2⟩ := h.nds i c kvc e
      refine ⟨nd2, by rw [if_neg ci]; exact e1, ka2, dn2, ?_⟩
      rw [upd_ne (ne_of e2 h.nod (by intro z; cases z))]
      exact s _ _ e2
  · show (T.N.set a _)[i]? = _
    rcases gsL e with ⟨_, z⟩ | ⟨ci, e⟩
    · cases z
    · rw [set_at ha, if_neg ci]
      exact h.nns i e
  · rcases gsL e1 with ⟨rfl, z⟩ | ⟨ci, g1⟩
    · cases z
      rcases gsL e2 with ⟨rfl, z⟩ | ⟨cj, g2⟩
      · rfl
      · obtain ⟨nd2, _, _, dn2, e3⟩ := h.nds j _ _ g2
        exact absurd rfl (nb e3)
    · rcases gsL e2 with ⟨rfl, z⟩ | ⟨cj, g2⟩
      · cases z
        obtain ⟨nd2, _, _, dn2, e3⟩ := h.nds i _ _ g1
        exact absurd rfl (nb e3)
      · exact h.dis i j c _ _ g1 g2
  · rw [upd_ne (fun z => hi (.inr (.inr (.inl z))))]
    exact s _ _ e
  · rcases i with i | i | i | ⟨j, kvi, i⟩
    · exact .inl (.inl i)
    · exact .inl (.inr (.inl i))
    · exact .inl (.inr (.inr (.inl i)))
    · rcases gsL i with ⟨_, z⟩ | ⟨_, i⟩
      · cases z
        exact .inr hb
      · exact .inl (.inr (.inr (.inr ⟨j, kvi, i⟩)))
/-- a node goes to a free place, a new one to its own -/
theorem TC.shift (h : TC CF CT CN Ev H x n m T pa pn L) {a f : Nat} {b c : Addr} {kv kvc : V} {nd nd0 : Nd} (hc : L[a]? = some (some (c, kvc))) (hf : T.N[f]? = some none) (h0 : T.N[a]? = some (some nd0))
    (s : Same (upd H pn (.lst ((L.set f (some (c, kvc))).map adV))) H1) (hb : H b = none) (ka : KeyAt CF CT Ev nd.k kv) (hn : NdAt CN H1 b kv nd) (ne : ¬ CT = CN) :
    TC CF CT CN Ev (upd H1 pn (.lst (((L.set f (some (c, kvc))).set a (some (b, kv))).map adV))) x n m { T with N := (T.N.set f (some nd0)).set a (some nd) } pa pn ((L.set f (some (c, kvc))).set a (some (b, kv))) ∧
    Stp x H pa pn L (upd H1 pn (.lst (((L.set f (some (c, kvc))).set a (some (b, kv))).map adV))) pa pn ((L.set f (some (c, kvc))).set a (some (b, kv))) := by
  obtain ⟨dx, hx0⟩ := h.ins
  obtain ⟨dn, hn⟩ := hn
  have nb : ∀ {c o}, H c = some o → ¬ c = b := fun e z => by rw [z, hb] at e; cases e
  have fl : f < T.N.length := (List.getElem?_eq_some_iff.1 hf).1
  have al : a < T.N.length := (List.getElem?_eq_some_iff.1 h0).1
  have af : a ≠ f := fun z => by rw [z, hf] at h0; cases h0
  have lf : L[f]? = some none := h.hole hf
  obtain ⟨ndc, hc1, kac, dc, hc2⟩ := h.nds a c kvc hc
  rw [h0] at hc1
  cases hc1
  have s' : ∀ d o, d ≠ pn → H d = some o → H1 d = some o := fun d o z e => s d o (by rw [upd_ne z]; exact e)
  have key : ∀ {i : Nat} {d : Addr} {kvd : V}, ((L.set f (some (c, kvc))).set a (some (b, kv)))[i]? = some (some (d, kvd)) → (i = a ∧ d = b ∧ kvd = kv) ∨ (i = f ∧ d = c ∧ kvd = kvc) ∨ (i ≠ a ∧ i ≠ f ∧ L[i]? = some (some (d, kvd))) := fun {i d kvd} e => by
    rcases gsL e with ⟨rfl, z⟩ | ⟨ci, e⟩
    · cases z; exact .inl ⟨rfl, rfl, rfl⟩
    · rcases gsL e with ⟨rfl, z⟩ | ⟨cf, e⟩
      · cases z; exact .inr (.inl ⟨rfl, rfl, rfl⟩)
      · exact .inr (.inr ⟨ci, cf, e⟩)
  have get : ∀ i : Nat, ((T.N.set f (some nd0)).set a (some nd))[i]? = if i = a then some (some nd) else if i = f then some (some nd0) else T.N[i]? := fun i => by
    rw [set_at (by rw [List.length_set]; exact al), set_at fl]
  have cpn : c ≠ pn := ne_of hc2 h.nod (by intro z; cases z)
  refine ⟨⟨⟨dx, ?_⟩, ?_, upd_same, ?_, fun i d kvd e => ?_, fun i e => ?_, fun i j d kvd kve e1 e2 => ?_, h.ne⟩, ⟨fun d o e hi => ?_, fun d i => ?_⟩⟩
  · have := ne_of hx0 h.nod (by intro z; cases z)
    rw [upd_ne this]
    exact s' _ _ this hx0
  · rw [upd_ne h.ne]
    exact s' _ _ h.ne h.arr
  · show ((L.set f _).set a _).length = ((T.N.set f _).set a _).length
    rw [List.length_set, List.length_set, List.length_set, List.length_set]
    exact h.len
  · show ∃ nd', ((T.N.set f _).set a _)[i]? = _ ∧ _
    rw [get]
    rcases key e with ⟨rfl, rfl, rfl⟩ | ⟨rfl, rfl, rfl⟩ | ⟨ca, cf, e⟩
    · refine ⟨nd, if_pos rfl, ka, dn, ?_⟩
      rw [upd_ne (fun z => nb h.nod z.symm)]
      exact hn
    · refine ⟨nd0, by rw [if_neg af.symm, if_pos rfl], kac, dc, ?_⟩
      rw [upd_ne cpn]
      exact s' _ _ cpn hc2
    · obtain ⟨nd2, e1, ka2, dn2, e2⟩ := h.nds i d kvd e
      have := ne_of e2 h.nod (by intro z; cases z)
      refine ⟨nd2, by rw [if_neg ca, if_neg cf]; exact e1, ka2, dn2, ?_⟩
      rw [upd_ne this]
      exact s' _ _ this e2
  · show ((T.N.set f _).set a _)[i]? = _
    rcases gsL e with ⟨_, z⟩ | ⟨ca, e⟩
    · cases z
    · rcases gsL e with ⟨_, z⟩ | ⟨cf, e⟩
      · cases z
      · rw [get, if_neg ca, if_neg cf]
        exact h.nns i e
  · have nob : ∀ {i : Nat} {kve : V}, L[i]? = some (some (b, kve)) → False := fun e => by
      obtain ⟨nd2, _, _, dn2, e3⟩ := h.nds _ b _ e
      exact nb e3 rfl
    rcases key e1 with ⟨r1, rfl, _⟩ | ⟨r1, rfl, _⟩ | ⟨ca, cf, g1⟩
    · rcases key e2 with ⟨r2, _⟩ | ⟨r2, z, _⟩ | ⟨_, _, g2⟩
      · exact r1.trans r2.symm
      · exact absurd z.symm (nb hc2)
      · exact (nob g2).elim
    · rcases key e2 with ⟨r2, z, _⟩ | ⟨r2, _⟩ | ⟨ca, cf, g2⟩
      · exact absurd z (nb hc2)
      · exact r1.trans r2.symm
      · exact absurd (h.dis j a d _ _ g2 hc) ca
    · rcases key e2 with ⟨r2, rfl, _⟩ | ⟨r2, rfl, _⟩ | ⟨_, _, g2⟩
      · exact (nob g1).elim
      · exact absurd (h.dis i a d _ _ g1 hc) ca
      · exact h.dis i j d _ _ g1 g2
  · have z : d ≠ pn := fun z => hi (.inr (.inr (.inl z)))
    rw [upd_ne z]
    exact s' _ _ z e
  · rcases i with i | i | i | ⟨j, kvi, i⟩
    · exact .inl (.inl i)
    · exact .inl (.inr (.inl i))
    · exact .inl (.inr (.inr (.inl i)))
    · rcases key i with ⟨_, rfl, _⟩ | ⟨_, rfl, _⟩ | ⟨_, _, i⟩
      · exact .inr hb
      · exact .inl (.inr (.inr (.inr ⟨a, kvc, hc⟩)))
      · exact .inl (.inr (.inr (.inr ⟨j, kvi, i⟩)))
theorem TA.of {H' : Hp} {T' : Tb} {pa' pn' : Addr} {L' : List (Option (Addr × V))} (h : TA CF CT CN Ev H x n m T pa pn L) (t : TC CF CT CN Ev H' x n m T' pa' pn' L') (st : Stp x H pa pn L H' pa' pn' L') : TA CF CT CN Ev H' x n m T' pa' pn' L' :=
  ⟨t, fun b o e => st.fr b o (h.env b o e) (fun i => by rw [h.sep b i] at e; cases e), fun b i => by
    rcases st.nw b i with z | z
    · exact h.sep b z
    · cases e : Ev b with
      | none => rfl
      | some o => rw [h.env b o e] at z; cases z⟩
theorem TA.free (h : TA CF CT CN Ev H x n m T pa pn L) (s : Oth x H H1) {f : Nat} (hx : ∃ dx, H1 x = some (.ins CT dx (tF n m pa pn f))) (ne : ¬ CT = CN) :
    TA CF CT CN Ev H1 x n m { T with fr := f } pa pn L := h.of (h.toTC.free s hx ne) (.of_oth s)
theorem TA.renode (h : TA CF CT CN Ev H x n m T pa pn L) (ne : ¬ CT = CN) {j : Nat} {c dn : Addr} {kv : V} {nd nd' : Nd} (hj : L[j]? = some (some (c, kv))) (hc : H c = some (.ins CN dn (nF kv nd.v (lnV nd.l)))) (ka : KeyAt CF CT Ev nd'.k kv) :
    TA CF CT CN Ev (upd H c (.ins CN dn (nF kv nd'.v (lnV nd'.l)))) x n m { T with N := T.N.set j (some nd') } pa pn L ∧ Stp x H pa pn L (upd H c (.ins CN dn (nF kv nd'.v (lnV nd'.l)))) pa pn L :=
  let ⟨a, b⟩ := h.toTC.renode ne hj hc ka
  ⟨h.of a b, b⟩
theorem TA.put (h : TA CF CT CN Ev H x n m T pa pn L) (s : Same H H1) {a : Nat} {b : Addr} {kv : V} {nd : Nd} (hb : H b = none) (ka : KeyAt CF CT Ev nd.k kv) (hn : NdAt CN H1 b kv nd) (ha : a < T.N.length) (ne : ¬ CT = CN) :
    TA CF CT CN Ev (upd H1 pn (.lst ((L.set a (some (b, kv))).map adV))) x n m { T with N := T.N.set a (some nd) } pa pn (L.set a (some (b, kv))) ∧ Stp x H pa pn L (upd H1 pn (.lst ((L.set a (some (b, kv))).map adV))) pa pn (L.set a (some (b, kv))) :=
  let ⟨t, st⟩ := h.toTC.put s hb ka hn ha ne
  ⟨h.of t st, st⟩
theorem TA.shift (h : TA CF CT CN Ev H x n m T pa pn L) {a f : Nat} {b c : Addr} {kv kvc : V} {nd nd0 : Nd} (hc : L[a]? = some (some (c, kvc))) (hf : T.N[f]? = some none) (h0 : T.N[a]? = some (some nd0))
    (s : Same (upd H pn (.lst ((L.set f (some (c, kvc))).map adV))) H1) (hb : H b = none) (ka : KeyAt CF CT Ev nd.k kv) (hn : NdAt CN H1 b kv nd) (ne : ¬ CT = CN) :
    TA CF CT CN Ev (upd H1 pn (.lst (((L.set f (some (c, kvc))).set a (some (b, kv))).map adV))) x n m { T with N := (T.N.set f (some nd0)).set a (some nd) } pa pn ((L.set f (some (c, kvc))).set a (some (b, kv))) ∧
    Stp x H pa pn L (upd H1 pn (.lst (((L.set f (some (c, kvc))).set a (some (b, kv))).map adV))) pa pn ((L.set f (some (c, kvc))).set a (some (b, kv))) :=
  let ⟨t, st⟩ := h.toTC.shift hc hf h0 s hb ka hn ne
  ⟨h.of t st, st⟩
end
end Nu

set_option Elab.async false
set_option linter.all false
set_option maxRecDepth 100000
set_option autoImplicit false
set_option maxHeartbeats 4000000
set_option pp.maxSteps 900
namespace Nu
open PySem PySem.Spec PyProof.Rows L2 Rd Tm
local macro_rules | `(tactic| walk_at "hp") => `(tactic| first | assumption | (refine same_get ?sm ?_; (case sm => assumption); walk_at "hp"))
local macro_rules | `(tactic| walk_at "rd") => `(tactic| first
  | (with_reducible show Ends.nx _ _ _; with_reducible refine w_nx ?_)
  | with_reducible refine w_rt ?_
  | (with_reducible show Ends.bk _ _ _; with_reducible refine w_bk ?_)
  | (with_reducible show Ends.ct _ _ _; with_reducible refine w_ct ?_)
  | with_reducible refine w_seq ?_
  | with_reducible refine w_next ?_
  | with_reducible refine w_ret ?_
  | with_reducible refine w_ifS ?_
  | with_reducible refine w_asg ?_
  | with_reducible refine w_name ?_
  | with_reducible refine w_par ?_
  | with_reducible refine w_parI ?_
  | with_reducible refine w_ii ?_
  | with_reducible refine w_i1 ?_
  | with_reducible refine w_drop ?_
  | with_reducible refine w_sFld ?_
  | ((with_reducible refine' w_var ?rdh ?_); (case rdh => exact rfl))
  | with_reducible refine w_c ?_
  | with_reducible refine w_op ?_
  | with_reducible refine w_un ?_
  | with_reducible refine w_I0 ?_
  | with_reducible refine w_U ?_
  | with_reducible refine w_bits ?_
  | with_reducible refine w_bitsI ?_
  | with_reducible refine w_tup ?_
  | with_reducible refine w_lst ?_
  | with_reducible refine w_nil ?_
  | with_reducible refine w_cons ?_
  | with_reducible refine w_fld ?_
  | with_reducible refine w_call ?_
  | with_reducible refine w_make ?_
  | with_reducible refine w_gsub ?_
  | with_reducible refine w_int1 ?_
  | with_reducible refine w_intB ?_
  | with_reducible refine w_for ?_
  | with_reducible refine w_rng1 ?_
  | with_reducible refine w_iList ?_
  | with_reducible refine w_iTup ?_
  | with_reducible refine w_makeD ?_
  | with_reducible refine w_nn ?_
  | with_reducible refine w_subB ?_
  | with_reducible refine w_meth ?_
  | with_reducible refine w_cb ?_
  | with_reducible refine w_test ?_
  | with_reducible refine w_B ?_
  | with_reducible refine w_bl ?_
  | with_reducible refine w_andV ?_
  | with_reducible refine w_orV ?_
  | with_reducible refine w_notV ?_
  | with_reducible refine w_and ?_
  | with_reducible refine w_or ?_
  | with_reducible refine w_not ?_
  | with_reducible refine w_if ?_
  | with_reducible refine w_gnil ?_
  | with_reducible refine w_gcons ?_
  | with_reducible refine iT ?_
  | with_reducible refine iF ?_
  | with_reducible refine w_eqI ?_
  | with_reducible refine w_neI ?_
  | with_reducible refine w_eqS ?_
  | with_reducible refine w_eqIS ?_
  | with_reducible refine w_eqSI ?_)

section
variable {P : Program} {w : World} {K : PySem.W.Frag} {mg : Str → Option Value} {base : Heap} {CF CT CN CZ : Addr} {Ev : Hp}
def spRoom (CF CT CN : Addr) : Sp := fun vs H Q _ => ∃ Ev x n m T pa pn L, vs = [.ref x] ∧ TA CF CT CN Ev H x n m T pa pn L ∧
  ∀ q H', Same H H' → H q = none → H' q = some (.tup [.int (T.A.length : Nat), .int (T.N.length : Nat)]) → Q (.ref q) H'
theorem sc_Table_room : FnScope ["self"] ["self"] (defScope s_Table_room) := ⟨rfl, rfl, rfl, by decide +kernel, rfl, by decide +kernel, by decide +kernel⟩
theorem ok_room (T : AllN K mg CF CT CN CZ) : KnM P w K mg base CX0 1 CT "room" ["self"] (spRoom CF CT CN) := by
  refine T.x_room.kn fun f fd F => ?_
  refine F.ok sc_Table_room (fun vs H Q E h => ?_) (fun cdv A outer s H vs Q E hr h => ?_)
  · obtain ⟨Ev, x, n, m, T, pa, pn, L, rfl, _⟩ := h
    rfl
  · obtain ⟨Ev, x, n, m, Tt, pa, pn, L, rfl, hT, q⟩ := h
    refine ⟨_, (pss_one (ps_ret (pe_tup (pa_cons (pe_callB call_len_seq (by rfl) T.b_len boot_len (pa_cons (pe_fld (pv 0) rfl) pa_nil)) (pa_cons (pe_callB call_len_seq (by rfl) T.b_len boot_len (pa_cons (pe_fld (pv 0) rfl) pa_nil)) pa_nil))))), ?_⟩
    obtain ⟨dx, hx⟩ := hT.ins
    repeat walk_at "rd"
    refine w_fldI hx T.l_Table T.n_array (tF_a _ _ _ _ _) ?_
    repeat walk_at "rd"
    refine w_lenL hT.arr ?_
    repeat walk_at "rd"
    refine w_fldI hx T.l_Table T.n_nodes (tF_n _ _ _ _ _) ?_
    repeat walk_at "rd"
    refine w_lenL hT.nod ?_
    repeat walk_at "rd"
    rw [List.length_map, hT.len]
    refine w_tup2 fun q2 H2 s2 n2 h2 => ?_
    exact q q2 H2 s2 n2 h2
/-! ### put_new, where nothing grows -/
def spNew0 (CF CT CN : Addr) : Sp := fun vs H Q _ => ∃ Ev x n m T pa pn L k kv v, vs = [.ref x, kv, v] ∧ TA CF CT CN Ev H x n m T pa pn L ∧ WF plS T ∧ KysOk T.N ∧ KyOk k ∧ KeyAt CF CT Ev k kv ∧ findM T.N k = none ∧ T.N ≠ [] ∧
  (∀ nd, T.N[plS k T.N.length]? = some (some nd) → nd.v ≠ .non → ∃ f, freeM T.N T.fr = some f) ∧
  ∀ H' L', TA CF CT CN Ev H' x n m (insM plS T k v) pa pn L' → Stp x H pa pn L H' pa pn L' → Q .non H'
theorem sc_Table_put_new : FnScope ["self", "key", "value", "at", "here", "free"] ["self", "key", "value"] (defScope s_Table_put_new) := ⟨rfl, rfl, rfl, by decide +kernel, rfl, by decide +kernel, by decide +kernel⟩
theorem ok_put_new (T : AllN K mg CF CT CN CZ) (k_place_of_tables : Kn P w K mg base CX0 3 "place_of_tables" ["key", "size"] (spPot CF CT)) (k_Node_init : KnC P w K mg base CX0 1 "Node" CN ["self", "key", "value", "link"] (spNode CN))
    (k_Table_free_place : KnM P w K mg base CX0 1 CT "free_place" ["self"] (spFree CF CT CN)) (k_Table_ahead_of : KnM P w K mg base CX0 4 CT "ahead_of" ["self", "key", "at"] (spAhead CF CT CN)) :
    KnM P w K mg base CX0 5 CT "put_new" ["self", "key", "value"] (spNew0 CF CT CN) := by
  refine T.x_put_new.kn fun f fd F => ?_
  refine F.ok sc_Table_put_new (fun vs H Q E h => ?_) (fun cdv A outer s H vs Q E hr h => ?_)
  · obtain ⟨Ev, x, n, m, T, pa, pn, L, k, kv, v, rfl, _⟩ := h
    rfl
  · obtain ⟨Ev, x, n, m, Tt, pa, pn, L, k, kv, v, rfl, hT, wf, ks, kk, ka, hk, h0, hg, q⟩ := h
    refine ⟨_, (pss_cons (ps_if (pt_cmpR (op_eqNil hr.units64) (pe_fld (pv 0) rfl) (pe_lst pa_nil) (nomark _)) (pss_cons ps_never
      (pss_cons ps_never
      (pss_one ps_retN))) pss_nil)
      (pss_cons (ps_set (i := 3) sc_Table_put_new.nd rfl (Or.inl rfl) (pk k_place_of_tables hr (pa_cons (pv 1) (pa_cons (pe_callB call_len_seq (by rfl) T.b_len boot_len (pa_cons (pe_fld (pv 0) rfl) pa_nil)) pa_nil))))
      (pss_cons (ps_set (i := 4) sc_Table_put_new.nd rfl (Or.inl rfl) (pe_ix ix_list (pe_fld (pv 0) rfl) (pv 3) (fun _ _ => rfl)))
      (pss_cons (ps_if (PW.pt (pw_or (pt_cmpR op_isN (pv 4) pe_non (nomark _)) (pw_or1 (pt_cmpR op_isN (pe_fld (pv 4) rfl) pe_non (nomark _))))) (pss_cons (ps_asg (pkC k_Node_init hr (pa_cons (pv 1) (pa_cons (pv 2) (pa_cons (pe_ifExp (pt_cmpR op_isN (pv 4) pe_non (nomark _)) pe_non (pe_fld (pv 4) rfl)) pa_nil)))) (pg_sub (pe_fld (pv 0) rfl) (pv 3) set_list))
      (pss_one ps_retN)) pss_nil)
      (pss_cons (ps_set (i := 5) sc_Table_put_new.nd rfl (Or.inl rfl) (pkM0 k_Table_free_place T.l_Table hr (pv 0) rfl))
      (pss_one (ps_if (pt_cmpR op_isN (pv 5) pe_non (nomark _)) (pss_cons ps_never
      (pss_one ps_never)) (pss_one (ps_if (pt_cmpR op_eq (pk k_place_of_tables hr (pa_cons (pe_fld (pv 4) rfl) (pa_cons (pe_callB call_len_seq (by rfl) T.b_len boot_len (pa_cons (pe_fld (pv 0) rfl) pa_nil)) pa_nil))) (pv 3) (nomark _)) (pss_cons (ps_asg (pkC k_Node_init hr (pa_cons (pv 1) (pa_cons (pv 2) (pa_cons (pe_fld (pv 4) rfl) pa_nil)))) (pg_sub (pe_fld (pv 0) rfl) (pv 5) set_list))
      (pss_one (ps_fld (pv 4) (pv 5) rfl))) (pss_cons (ps_fld (pe_ix ix_list (pe_fld (pv 0) rfl) (pkM k_Table_ahead_of T.l_Table hr (pv 0) (pa_cons (pe_fld (pv 4) rfl) (pa_cons (pv 3) pa_nil)) rfl) (fun _ _ => rfl)) (pv 5) rfl)
      (pss_cons (ps_asg (pv 4) (pg_sub (pe_fld (pv 0) rfl) (pv 5) set_list))
      (pss_one (ps_asg (pkC k_Node_init hr (pa_cons (pv 1) (pa_cons (pv 2) (pa_cons pe_non pa_nil)))) (pg_sub (pe_fld (pv 0) rfl) (pv 3) set_list)))))))))))))), ?_⟩
    obtain ⟨dx, hx⟩ := hT.ins
    have n0 : 0 < Tt.N.length := List.length_pos_iff.2 h0
    have al := plS_lt k _ n0
    repeat walk_at "rd"
    refine w_fldI hx T.l_Table T.n_nodes (tF_n _ _ _ _ _) ?_
    repeat walk_at "rd"
    refine w_lst0 fun p1 H1 s1 n1 h1 => ?_
    refine w_eqNil (SqL.of (s1 _ _ hT.nod)) h1 ?_
    repeat walk_at "rd"
    refine iB (fun c => absurd (hT.nil c) h0) (fun _ => ?_)
    repeat walk_at "rd"
    refine w_fldI (s1 _ _ hx) T.l_Table T.n_nodes (tF_n _ _ _ _ _) ?_
    repeat walk_at "rd"
    refine w_lenL (s1 _ _ hT.nod) ?_
    repeat walk_at "rd"
    refine ⟨Ev, k, kv, Tt.N.length, by rw [List.length_map, hT.len]; rfl, kk, ka, hT.env.trans s1, n0, ?_⟩
    repeat walk_at "rd"
    refine w_fldI (s1 _ _ hx) T.l_Table T.n_nodes (tF_n _ _ _ _ _) ?_
    repeat walk_at "rd"
    have hT1 := hT.same s1
    have st1 : Stp x H pa pn L H1 pa pn L := .of_same s1
    unfold insM at q
    generalize ea : plS k Tt.N.length = a at al hg q ⊢
    obtain ⟨o, ho⟩ : ∃ o, Tt.N[a]? = some o := ⟨_, List.getElem?_eq_getElem al⟩
    simp only [ho] at q
    cases o with
    | none =>
      refine w_ixL (i := (a : Int)) hT1.nod (hT1.ix (hT1.hole ho)) ?_
      repeat walk_at "rd"
      refine iT ?_
      repeat walk_at "rd"
      refine iT ?_
      repeat walk_at "rd"
      refine u_Node fun b H2 dn s2 nb hb => ?_
      repeat walk_at "rd"
      refine w_fldI (s2 _ _ (s1 _ _ hx)) T.l_Table T.n_nodes (tF_n _ _ _ _ _) ?_
      repeat walk_at "rd"
      obtain ⟨t1, t2⟩ := hT1.put s2 (nd := ⟨k, v, none⟩) nb ka ⟨dn, hb⟩ al T.ne_TN
      refine ⟨pn, _, (a : Int), a, rfl, rfl, s2 _ _ hT1.nod, ?_, ?_⟩
      · unfold ixN
        rw [List.length_map, hT.len, if_pos (by omega), if_pos (by omega)]
        rfl
      rw [show (V.ref b) = adV (some (b, kv)) from rfl, mapSet]
      repeat walk_at "rd"
      exact q _ _ t1 (st1.trans t2)
    | some nd =>
      obtain ⟨c, kvc, hc, kac, dn, hn⟩ := hT1.node ho
      refine w_ixL (i := (a : Int)) hT1.nod (hT1.ix hc) ?_
      repeat walk_at "rd"
      refine iF ?_
      repeat walk_at "rd"
      refine w_fldI hn T.l_Node T.n_value (nF_v _ _ _) ?_
      repeat walk_at "rd"
      simp only at q
      refine iD (fun hv => ?_) (fun hv => ?_)
      · rw [if_pos hv] at q
        repeat walk_at "rd"
        refine iF ?_
        repeat walk_at "rd"
        refine w_fldI hn T.l_Node T.n_link (nF_l _ _ _) ?_
        repeat walk_at "rd"
        refine u_Node fun b H2 dn2 s2 nb hb => ?_
        repeat walk_at "rd"
        refine w_fldI (s2 _ _ (s1 _ _ hx)) T.l_Table T.n_nodes (tF_n _ _ _ _ _) ?_
        repeat walk_at "rd"
        obtain ⟨t1, t2⟩ := hT1.put s2 (nd := ⟨k, v, nd.l⟩) nb ka ⟨dn2, hb⟩ al T.ne_TN
        refine ⟨pn, _, (a : Int), a, rfl, rfl, s2 _ _ hT1.nod, ?_, ?_⟩
        · unfold ixN
          rw [List.length_map, hT.len, if_pos (by omega), if_pos (by omega)]
          rfl
        rw [show (V.ref b) = adV (some (b, kv)) from rfl, mapSet]
        repeat walk_at "rd"
        exact q _ _ t1 (st1.trans t2)
      · rw [if_neg hv] at q
        obtain ⟨f, hf⟩ := hg nd ho hv
        obtain ⟨f1, f2, f3⟩ := freeM_some hf
        have fl : f < Tt.N.length := (List.getElem?_eq_some_iff.1 f2).1
        have af : a ≠ f := fun z => by rw [z, f2] at ho; cases ho
        simp only [hf] at q
        repeat walk_at "rd"
        refine w_methI (s1 _ _ hx) (lk_t _ _ _ _ _ (by decide +kernel)) ?_
        repeat walk_at "rd"
        refine ⟨Ev, x, n, m, Tt, pa, pn, L, rfl, hT1, wf.fr, fun H2 o2 x2 => ?_⟩
        rw [hf] at x2 ⊢
        have hT2 := hT1.free o2 x2 T.ne_TN
        have st2 := st1.trans (.of_oth (pa := pa) (pn := pn) (L := L) o2)
        obtain ⟨dx2, x2⟩ := x2
        obtain ⟨c2, kvc2, hc2, kac2, dn2, hn2⟩ := hT2.node (j := a) ho
        rw [hc] at hc2
        cases hc2
        have nlen : (L.map adV).length = Tt.N.length := by rw [List.length_map, hT.len]
        repeat walk_at "rd"
        refine iF ?_
        repeat walk_at "rd"
        refine w_fldI hn2 T.l_Node T.n_key (nF_k _ _ _) ?_
        repeat walk_at "rd"
        refine w_fldI x2 T.l_Table T.n_nodes (tF_n _ _ _ _ _) ?_
        repeat walk_at "rd"
        refine w_lenL hT2.nod ?_
        repeat walk_at "rd"
        refine ⟨Ev, nd.k, kvc, Tt.N.length, by rw [nlen]; rfl, ks a nd ho, kac, hT2.env, n0, ?_⟩
        repeat walk_at "rd"
        refine iD (fun hh => ?_) (fun hh => ?_)
        · rw [if_pos (by omega)] at q
          repeat walk_at "rd"
          refine w_fldI hn2 T.l_Node T.n_link (nF_l _ _ _) ?_
          repeat walk_at "rd"
          refine u_Node fun b H3 dn3 s3 nb hb => ?_
          repeat walk_at "rd"
          refine w_fldI (s3 _ _ x2) T.l_Table T.n_nodes (tF_n _ _ _ _ _) ?_
          repeat walk_at "rd"
          obtain ⟨t1, t2⟩ := hT2.put s3 (a := f) (nd := ⟨k, v, nd.l⟩) nb ka ⟨dn3, hb⟩ fl T.ne_TN
          refine ⟨pn, _, (f : Int), f, rfl, rfl, s3 _ _ hT2.nod, ?_, ?_⟩
          · unfold ixN
            rw [nlen, if_pos (by omega), if_pos (by omega)]
            rfl
          rw [show (V.ref b) = adV (some (b, kv)) from rfl, mapSet]
          have hca : (L.set f (some (b, kv)))[a]? = some (some (c, kvc)) := by rw [List.getElem?_set_ne af.symm]; exact hc
          obtain ⟨nd4, g4, ka4, dn4, hn4⟩ := t1.nds a c kvc hca
          have g4 : (Tt.N.set f _)[a]? = _ := g4
          rw [set_at fl, if_neg af, ho] at g4
          cases g4
          obtain ⟨t3, t4⟩ := t1.renode T.ne_TN (nd' := { nd with l := some f }) hca hn4 kac
          repeat walk_at "rd"
          refine w_sfI hn4 T.l_Node T.n_link (by show 4 < 1000; decide) ?_
          repeat walk_at "rd"
          exact q _ _ t3 ((st2.trans t2).trans t4)
        · rw [if_neg (by omega)] at q
          have hh' : plS nd.k Tt.N.length ≠ a := by omega
          obtain ⟨p, hp⟩ := ahead_is (k := k) wf ho hh'
          obtain ⟨ndp, p1, p2⟩ := aheadM_some hp
          have pl : p < Tt.N.length := (List.getElem?_eq_some_iff.1 p1).1
          have pf : p ≠ f := fun z => by rw [z, f2] at p1; cases p1
          have pa' : p ≠ a := fun z => by
            obtain ⟨rk, hr2⟩ := wf.g.link
            have := (hr2 p ndp a p1 p2).1
            rw [z] at this
            omega
          have sp : setL (Tt.N[p]?.getD none) (some f) = some { ndp with l := some f } := by rw [p1]; rfl
          simp only [hp, sp] at q
          obtain ⟨cp, kvp, hcp, kap, dnp, hnp⟩ := hT2.node (j := p) p1
          repeat walk_at "rd"
          refine w_fldI x2 T.l_Table T.n_nodes (tF_n _ _ _ _ _) ?_
          repeat walk_at "rd"
          refine w_methI x2 (lk_t _ _ _ _ _ (by decide +kernel)) ?_
          repeat walk_at "rd"
          refine w_fldI hn2 T.l_Node T.n_key (nF_k _ _ _) ?_
          repeat walk_at "rd"
          refine ⟨Ev, x, n, m, { Tt with fr := f }, pa, pn, L, nd, kvc, a, p, rfl, ks a nd ho, kac, hT2, wf.g, ho, hh', hp, ?_⟩
          repeat walk_at "rd"
          refine w_ixL (i := (p : Int)) hT2.nod (hT2.ix hcp) ?_
          repeat walk_at "rd"
          refine w_sfI hnp T.l_Node T.n_link (by show 4 < 1000; decide) ?_
          obtain ⟨t1, t2⟩ := hT2.renode T.ne_TN (nd' := { ndp with l := some f }) hcp hnp kap
          rw [nF_pl]
          have t1 : TA CF CT CN Ev (upd H2 cp (.ins CN dnp (nF kvp ndp.v (lnV (some f))))) x n m ⟨Tt.A, Tt.N.set p (some { ndp with l := some f }), f⟩ pa pn L := t1
          have t2 : Stp x H2 pa pn L (upd H2 cp (.ins CN dnp (nF kvp ndp.v (lnV (some f))))) pa pn L := t2
          generalize upd H2 cp (.ins CN dnp (nF kvp ndp.v (lnV (some f)))) = H3 at t1 t2 ⊢
          obtain ⟨dx3, x3⟩ := t1.ins
          repeat walk_at "rd"
          refine w_fldI x3 T.l_Table T.n_nodes (tF_n _ _ _ _ _) ?_
          repeat walk_at "rd"
          refine ⟨pn, _, (f : Int), f, rfl, rfl, t1.nod, ?_, ?_⟩
          · unfold ixN
            rw [nlen, if_pos (by omega), if_pos (by omega)]
            rfl
          rw [mapSet]
          repeat walk_at "rd"
          refine u_Node fun b H5 dn5 s5 nb hb => ?_
          have nbp : b ≠ pn := fun z => by rw [z, upd_same] at nb; cases nb
          rw [upd_ne nbp] at nb
          have x5 : H5 x = _ := s5 _ _ (by rw [upd_ne (ne_of x3 t1.nod (by intro z; cases z))]; exact x3)
          have n5 : H5 pn = _ := s5 _ _ upd_same
          obtain ⟨t3, t4⟩ := t1.shift (a := a) (f := f) (nd := ⟨k, v, none⟩) (nd0 := nd) hc (by
            show (Tt.N.set p _)[f]? = _
            rw [set_at pl, if_neg pf.symm]
            exact f2) (by
            show (Tt.N.set p _)[a]? = _
            rw [set_at pl, if_neg pa'.symm]
            exact ho) s5 nb ka ⟨dn5, hb⟩ T.ne_TN
          repeat walk_at "rd"
          refine w_fldI x5 T.l_Table T.n_nodes (tF_n _ _ _ _ _) ?_
          repeat walk_at "rd"
          refine ⟨pn, _, (a : Int), a, rfl, rfl, n5, ?_, ?_⟩
          · unfold ixN
            rw [List.length_map, List.length_set, hT.len, if_pos (by omega), if_pos (by omega)]
            rfl
          rw [show (V.ref b) = adV (some (b, kv)) from rfl, mapSet]
          exact q _ _ t3 ((st2.trans t2).trans t4)
end
end Nu

set_option Elab.async false
set_option linter.all false
set_option maxRecDepth 100000
set_option autoImplicit false
set_option maxHeartbeats 4000000
set_option pp.maxSteps 900
namespace Nu
open PySem PySem.Spec PyProof.Rows L2 Rd Tm
local macro_rules | `(tactic| walk_at "hp") => `(tactic| first | assumption | (refine same_get ?sm ?_; (case sm => assumption); walk_at "hp"))
local macro_rules | `(tactic| walk_at "rd") => `(tactic| first
  | (with_reducible show Ends.nx _ _ _; with_reducible refine w_nx ?_)
  | with_reducible refine w_rt ?_
  | (with_reducible show Ends.bk _ _ _; with_reducible refine w_bk ?_)
  | (with_reducible show Ends.ct _ _ _; with_reducible refine w_ct ?_)
  | with_reducible refine w_seq ?_
  | with_reducible refine w_next ?_
  | with_reducible refine w_ret ?_
  | with_reducible refine w_ifS ?_
  | with_reducible refine w_asg ?_
  | with_reducible refine w_name ?_
  | with_reducible refine w_par ?_
  | with_reducible refine w_parI ?_
  | with_reducible refine w_ii ?_
  | with_reducible refine w_i1 ?_
  | with_reducible refine w_drop ?_
  | with_reducible refine w_sFld ?_
  | ((with_reducible refine' w_var ?rdh ?_); (case rdh => exact rfl))
  | with_reducible refine w_c ?_
  | with_reducible refine w_op ?_
  | with_reducible refine w_un ?_
  | with_reducible refine w_I0 ?_
  | with_reducible refine w_U ?_
  | with_reducible refine w_bits ?_
  | with_reducible refine w_bitsI ?_
  | with_reducible refine w_tup ?_
  | with_reducible refine w_lst ?_
  | with_reducible refine w_nil ?_
  | with_reducible refine w_cons ?_
  | with_reducible refine w_fld ?_
  | with_reducible refine w_call ?_
  | with_reducible refine w_make ?_
  | with_reducible refine w_gsub ?_
  | with_reducible refine w_int1 ?_
  | with_reducible refine w_intB ?_
  | with_reducible refine w_for ?_
  | with_reducible refine w_rng1 ?_
  | with_reducible refine w_iList ?_
  | with_reducible refine w_iTup ?_
  | with_reducible refine w_makeD ?_
  | with_reducible refine w_nn ?_
  | with_reducible refine w_subB ?_
  | with_reducible refine w_meth ?_
  | with_reducible refine w_cb ?_
  | with_reducible refine w_test ?_
  | with_reducible refine w_B ?_
  | with_reducible refine w_bl ?_
  | with_reducible refine w_andV ?_
  | with_reducible refine w_orV ?_
  | with_reducible refine w_notV ?_
  | with_reducible refine w_and ?_
  | with_reducible refine w_or ?_
  | with_reducible refine w_not ?_
  | with_reducible refine w_if ?_
  | with_reducible refine w_gnil ?_
  | with_reducible refine w_gcons ?_
  | with_reducible refine iT ?_
  | with_reducible refine iF ?_
  | with_reducible refine w_eqI ?_
  | with_reducible refine w_neI ?_
  | with_reducible refine w_eqS ?_
  | with_reducible refine w_eqIS ?_
  | with_reducible refine w_eqSI ?_)

section
variable {CF CT CN : Addr} {Ev : Hp} {H H1 : Hp} {x pa pn : Addr} {n m : V} {T : Tb} {L : List (Option (Addr × V))}
/-- a place of the array put -/
theorem TC.arrput (h : TC CF CT CN Ev H x n m T pa pn L) {A' : List V} :
    TC CF CT CN Ev (upd H pa (.lst A')) x n m { T with A := A' } pa pn L ∧ Stp x H pa pn L (upd H pa (.lst A')) pa pn L := by
  obtain ⟨dx, hx0⟩ := h.ins
  refine ⟨⟨⟨dx, ?_⟩, upd_same, ?_, h.len, fun j a kv e => ?_, h.nns, h.dis, h.ne⟩, ⟨fun b o e hn => ?_, fun b i => .inl i⟩⟩
  · rw [upd_ne (ne_of hx0 h.arr (by intro z; cases z))]
    exact hx0
  · rw [upd_ne (Ne.symm h.ne)]
    exact h.nod
  · obtain ⟨nd, e1, ka, dn, e2⟩ := h.nds j a kv e
    refine ⟨nd, e1, ka, dn, ?_⟩
    rw [upd_ne (ne_of e2 h.arr (by intro z; cases z))]
    exact e2
  · rw [upd_ne (fun z => hn (.inr (.inl z)))]
    exact e
end
theorem TA.arrput {CF CT CN : Addr} {Ev H : Hp} {x pa pn : Addr} {n m : V} {T : Tb} {L : List (Option (Addr × V))} (h : TA CF CT CN Ev H x n m T pa pn L) {A' : List V} :
    TA CF CT CN Ev (upd H pa (.lst A')) x n m { T with A := A' } pa pn L ∧ Stp x H pa pn L (upd H pa (.lst A')) pa pn L :=
  let ⟨a, b⟩ := h.toTC.arrput (A' := A')
  ⟨h.of a b, b⟩
theorem kys_set {N : List (Option Nd)} {a : Nat} {nd : Nd} (h : KysOk N) (hk : KyOk nd.k) : KysOk (N.set a (some nd)) := fun j nd' e => by
  rcases gsL e with ⟨_, z⟩ | ⟨_, e⟩
  · cases z; exact hk
  · exact h j nd' e
theorem kys_ins {T : Tb} {k : Ky} {v : V} (h : KysOk T.N) (hk : KyOk k) : KysOk (insM plS T k v).N := by
  unfold insM
  simp only
  split
  · rename_i nd hnd
    split
    · exact kys_set h hk
    · split
      · rename_i f hf
        split
        · exact kys_set (kys_set h hk) (h _ nd hnd)
        · split
          · rename_i p hp
            obtain ⟨ndp, p1, p2⟩ := aheadM_some hp
            have sp : setL (T.N[p]?.getD none) (some f) = some { ndp with l := some f } := by rw [p1]; rfl
            rw [sp]
            exact kys_set (kys_set (kys_set h (h _ ndp p1)) (h _ nd hnd)) hk
          · exact h
      · exact h
  · exact kys_set h hk
theorem kys_put0 {T : Tb} {k : Ky} {v : V} (h : KysOk T.N) (hk : KyOk k) : KysOk (put0 plS T k v).N := by
  unfold put0
  split
  · cases k with
    | int i => exact h
    | str z => exact h
    | bl b => exact h
    | fl s t p => exact h
    | inf s => exact h
    | ob a m => exact h
    | nt a z => exact h
  · split
    · rename_i j hj
      obtain ⟨nd, e1, e2⟩ := findM_some hj
      show KysOk (T.N.modify j _)
      rw [mod_set e1]
      exact kys_set h (h _ nd e1)
    · split
      · exact h
      · exact kys_ins h hk
section
variable {P : Program} {w : World} {K : PySem.W.Frag} {mg : Str → Option Value} {base : Heap} {CF CT CN CZ : Addr} {Ev : Hp}
/-! ### put, where nothing grows -/
def spPut0 (CF CT CN : Addr) : Sp := fun vs H Q _ => ∃ Ev x n m T pa pn L k kv v, vs = [.ref x, kv, v] ∧ TA CF CT CN Ev H x n m T pa pn L ∧ WF plS T ∧ KysOk T.N ∧ KyOk k ∧ KeyAt CF CT Ev k kv ∧ needG plS T k v = false ∧
  ∀ H' L', TA CF CT CN Ev H' x n m (put0 plS T k v) pa pn L' → Stp x H pa pn L H' pa pn L' → Q .non H'
theorem sc_Table_put : FnScope ["self", "key", "value", "at"] ["self", "key", "value"] (defScope s_Table_put) := ⟨rfl, rfl, rfl, by decide +kernel, rfl, by decide +kernel, by decide +kernel⟩
theorem ok_put (T : AllN K mg CF CT CN CZ) (k_plain_key : Kn P w K mg base CX0 3 "plain_key" ["key"] (spPlk CF CT)) (k_is_nan : Kn P w K mg base CX0 1 "is_nan" ["key"] (spNan CF CT)) (k_Table_is_inside : KnM P w K mg base CX0 2 CT "is_inside" ["self", "key"] (spInside CF CT CN)) (k_Table_find : KnM P w K mg base CX0 5 CT "find" ["self", "key", "with_dead"] (spFind CF CT CN))
    (k_Table_put_new : KnM P w K mg base CX0 5 CT "put_new" ["self", "key", "value"] (spNew0 CF CT CN)) :
    KnM P w K mg base CX0 6 CT "put" ["self", "key", "value"] (spPut0 CF CT CN) := by
  refine T.x_put.kn fun f fd F => ?_
  refine F.ok sc_Table_put (fun vs H Q E h => ?_) (fun cdv A outer s H vs Q E hr h => ?_)
  · obtain ⟨Ev, x, n, m, T, pa, pn, L, k, kv, v, rfl, _⟩ := h
    rfl
  · obtain ⟨Ev, x, n, m, Tt, pa, pn, L, k, kv0, v, rfl, hT, wf, ks, kk, ka0, hg, q⟩ := h
    refine ⟨_, (pss_cons (ps_set (i := 1) sc_Table_put.nd rfl (Or.inl rfl) (pk k_plain_key hr (pa_cons (pv 1) pa_nil)))
      (pss_cons (ps_if (pt_val (pkM k_Table_is_inside T.l_Table hr (pv 0) (pa_cons (pv 1) pa_nil) rfl)) (pss_cons (ps_asg (pv 2) (pg_sub (pe_fld (pv 0) rfl) (pe_op op_sub (pv 1) pe_int) set_list))
      (pss_one ps_retN)) pss_nil)
      (pss_cons (ps_if (pt_cmpR op_isN (pv 1) pe_non (nomark _)) (pss_one ps_never) pss_nil)
      (pss_cons (ps_if (pt_val (pk k_is_nan hr (pa_cons (pv 1) pa_nil))) (pss_one ps_never) pss_nil)
      (pss_cons (ps_set (i := 3) sc_Table_put.nd rfl (Or.inl rfl) (pkM k_Table_find T.l_Table hr (pv 0) (pa_cons (pv 1) (pa_cons pe_bl pa_nil)) rfl))
      (pss_one (ps_if (pt_cmpR op_notN (pv 3) pe_non (nomark _)) (pss_one (ps_fld (pe_ix ix_list (pe_fld (pv 0) rfl) (pv 3) (fun _ _ => rfl)) (pv 2) rfl)) (pss_one (ps_if (pt_cmpR op_notN (pv 2) pe_non (nomark _)) (pss_one (ps_expr (pkM k_Table_put_new T.l_Table hr (pv 0) (pa_cons (pv 1) (pa_cons (pv 2) pa_nil)) rfl))) pss_nil))))))))), ?_⟩
    obtain ⟨dx, hx⟩ := hT.ins
    repeat walk_at "rd"
    refine ⟨Ev, .ky k, kv0, rfl, ⟨kk, ka0⟩, hT.env, fun kv H0 s0 pk => ?_⟩
    have ka : KeyAt CF CT Ev k kv := pk.2
    replace hT := hT.same s0
    replace hx := s0 _ _ hx
    replace q := fun H' L' t (st : Stp x H0 pa pn L H' pa pn L') => q H' L' t ((Stp.of_same (pa := pa) (pn := pn) (L := L) s0).trans st)
    repeat walk_at "rd"
    refine w_methI hx (lk_t _ _ _ _ _ (by decide +kernel)) ?_
    repeat walk_at "rd"
    refine ⟨Ev, x, n, m, Tt, pa, pn, L, .ky k, kv, rfl, hT, pk, ?_⟩
    repeat walk_at "rd"
    unfold put0 at q
    unfold needG at hg
    refine iB (fun c => ?_) (fun c => ?_)
    · rw [if_pos (show inA Tt.A k = true from c)] at q
      have c : inA Tt.A k = true := c
      cases k with
      | str z => cases c
      | bl b => cases c
      | fl s t p => cases c
      | inf s => cases c
      | ob a m => cases c
      | nt a z => cases c
      | int i =>
        obtain rfl : kv = .int i := ka
        have c' : 1 ≤ i ∧ i ≤ Tt.A.length := by
          have c : (decide (1 ≤ i) && decide (i ≤ Tt.A.length)) = true := c
          simpa using c
        repeat walk_at "rd"
        refine w_fldI hx T.l_Table T.n_array (tF_a _ _ _ _ _) ?_
        repeat walk_at "rd"
        refine ⟨pa, _, i - 1, (i - 1).toNat, rfl, rfl, hT.arr, ?_, ?_⟩
        · unfold ixN
          rw [if_pos (by omega), if_pos (by omega)]
        repeat walk_at "rd"
        obtain ⟨t1, t2⟩ := hT.arrput (A' := Tt.A.set (i - 1).toNat v)
        exact q _ _ t1 t2
    · have c : inA Tt.A k = false := c
      rw [if_neg (by rw [c]; decide)] at q
      rw [c] at hg
      repeat walk_at "rd"
      rw [kv_nn ka]
      refine iF ?_
      repeat walk_at "rd"
      refine ⟨Ev, .ky k, kv, rfl, pk, hT.env, ?_⟩
      rw [show (Rw.ky k).isN = false from rfl]
      repeat walk_at "rd"
      refine w_methI hx (lk_t _ _ _ _ _ (by decide +kernel)) ?_
      repeat walk_at "rd"
      refine ⟨Ev, x, n, m, Tt, pa, pn, L, k, kv, false, rfl, hT, wf, ks, kk, ka, fun H1 s1 => ?_⟩
      have hT1 := hT.same s1
      have st1 : Stp x H0 pa pn L H1 pa pn L := .of_same s1
      repeat walk_at "rd"
      cases hf : findM Tt.N k with
      | some j =>
        simp only [hf] at q
        obtain ⟨nd, hj, hk⟩ := findM_some hf
        obtain ⟨a, kva, ha, kaa, dn, hn⟩ := hT1.node hj
        refine iN (fun _ => ?_) (fun z => nomatch z)
        repeat walk_at "rd"
        refine w_fldI (s1 _ _ hx) T.l_Table T.n_nodes (tF_n _ _ _ _ _) ?_
        repeat walk_at "rd"
        refine w_ixL (i := (j : Int)) hT1.nod (hT1.ix ha) ?_
        obtain ⟨t1, t2⟩ := hT1.renode T.ne_TN (nd' := { nd with v := v }) ha hn kaa
        refine w_sfI hn T.l_Node T.n_value (by show 4 < 1000; decide) ?_
        repeat walk_at "rd"
        rw [mod_set hj] at q
        exact q _ _ t1 (st1.trans t2)
      | none =>
        simp only [hf] at q hg
        refine iN (fun z => absurd rfl z) (fun _ => ?_)
        repeat walk_at "rd"
        refine iN (fun hv => ?_) (fun hv => ?_)
        · rw [if_neg hv] at q
          rw [decide_eq_false hv] at hg
          simp only [Bool.not_false, Option.isNone_none, Bool.true_and, Bool.and_true, Bool.or_eq_false_iff] at hg
          obtain ⟨h1, h2⟩ := hg
          repeat walk_at "rd"
          refine w_methI (s1 _ _ hx) (lk_t _ _ _ _ _ (by decide +kernel)) ?_
          repeat walk_at "rd"
          refine ⟨Ev, x, n, m, Tt, pa, pn, L, k, kv, v, rfl, hT1, wf, ks, kk, ka, hf, (fun z => by rw [z] at h1; cases h1), fun nd h3 h4 => ?_, fun H2 L2 t1 t2 => ?_⟩
          · rw [h3] at h2
            simp only [decide_eq_false h4, Bool.not_false, Bool.true_and] at h2
            cases hf : freeM Tt.N Tt.fr with
            | some f => exact ⟨f, rfl⟩
            | none => rw [hf] at h2; cases h2
          · repeat walk_at "rd"
            exact q _ _ t1 (st1.trans t2)
        · rw [if_pos hv] at q
          repeat walk_at "rd"
          exact q _ _ hT1 st1
end
end Nu

set_option Elab.async false
set_option linter.all false
set_option maxRecDepth 100000
set_option autoImplicit false
set_option maxHeartbeats 4000000
set_option pp.maxSteps 900
namespace Rd
open PySem PySem.Spec PyProof.Rows L2
theorem w_bm {K : PySem.W.Frag} {T : String} {rd : V → List V → Hp → VK → Prop} {to : TE} {ta : TA} {σ : L2.St} {H : Hp} {Q : VK} (h : to σ H fun x H1 => tyV K T x H1 ∧ ta σ H1 fun vs H2 => rd x vs H2 Q) : tBM K T rd to ta σ H Q := h
theorem w_tyL {K : PySem.W.Frag} {p : Addr} {xs : List V} {H : Hp} (h : H p = some (.lst xs)) : tyV K "list" (.ref p) H := .inl ⟨rfl, xs, SqL.of h⟩
end Rd
namespace Nu
open PySem PySem.Spec PyProof.Rows L2 Rd Tm
local macro_rules | `(tactic| walk_at "hp") => `(tactic| first | assumption | (refine same_get ?sm ?_; (case sm => assumption); walk_at "hp"))
local macro_rules | `(tactic| walk_at "rd") => `(tactic| first
  | (with_reducible show Ends.nx _ _ _; with_reducible refine w_nx ?_)
  | with_reducible refine w_rt ?_
  | (with_reducible show Ends.bk _ _ _; with_reducible refine w_bk ?_)
  | (with_reducible show Ends.ct _ _ _; with_reducible refine w_ct ?_)
  | with_reducible refine w_seq ?_
  | with_reducible refine w_next ?_
  | with_reducible refine w_ret ?_
  | with_reducible refine w_ifS ?_
  | with_reducible refine w_asg ?_
  | with_reducible refine w_name ?_
  | with_reducible refine w_par ?_
  | with_reducible refine w_parI ?_
  | with_reducible refine w_ii ?_
  | with_reducible refine w_i1 ?_
  | with_reducible refine w_drop ?_
  | with_reducible refine w_sFld ?_
  | ((with_reducible refine' w_var ?rdh ?_); (case rdh => exact rfl))
  | with_reducible refine w_c ?_
  | with_reducible refine w_op ?_
  | with_reducible refine w_un ?_
  | with_reducible refine w_I0 ?_
  | with_reducible refine w_U ?_
  | with_reducible refine w_bits ?_
  | with_reducible refine w_bitsI ?_
  | with_reducible refine w_tup ?_
  | with_reducible refine w_lst ?_
  | with_reducible refine w_nil ?_
  | with_reducible refine w_cons ?_
  | with_reducible refine w_fld ?_
  | with_reducible refine w_call ?_
  | with_reducible refine w_make ?_
  | with_reducible refine w_gsub ?_
  | with_reducible refine w_int1 ?_
  | with_reducible refine w_intB ?_
  | with_reducible refine w_for ?_
  | with_reducible refine w_rng1 ?_
  | with_reducible refine w_iList ?_
  | with_reducible refine w_iTup ?_
  | with_reducible refine w_makeD ?_
  | with_reducible refine w_nn ?_
  | with_reducible refine w_subB ?_
  | with_reducible refine w_meth ?_
  | with_reducible refine w_cb ?_
  | with_reducible refine w_test ?_
  | with_reducible refine w_B ?_
  | with_reducible refine w_bl ?_
  | with_reducible refine w_andV ?_
  | with_reducible refine w_orV ?_
  | with_reducible refine w_notV ?_
  | with_reducible refine w_and ?_
  | with_reducible refine w_or ?_
  | with_reducible refine w_not ?_
  | with_reducible refine w_if ?_
  | with_reducible refine w_gnil ?_
  | with_reducible refine w_gcons ?_
  | with_reducible refine iT ?_
  | with_reducible refine iF ?_
  | with_reducible refine w_eqI ?_
  | with_reducible refine w_neI ?_
  | with_reducible refine w_eqS ?_
  | with_reducible refine w_eqIS ?_
  | with_reducible refine w_eqSI ?_)

section
variable {CF CT CN : Addr} {Ev : Hp} {H H1 : Hp} {x pa pn : Addr} {n m : V}
/-- a table with nodes anew -/
theorem TC.fresh {A : List V} {k : Nat} (hx : ∃ dx, H x = some (.ins CT dx (tF n m pa pn k))) (ha : H pa = some (.lst A)) (hn : H pn = some (.lst (List.replicate k V.non))) (ne : ¬ pa = pn) :
    TC CF CT CN Ev H x n m ⟨A, List.replicate k none, k⟩ pa pn (List.replicate k none) := by
  have no : ∀ {j : Nat} {a : Addr × V}, (List.replicate k (none : Option (Addr × V)))[j]? ≠ some (some a) := fun {j a} z => by
    rw [List.getElem?_replicate] at z
    split at z <;> cases z
  refine ⟨hx, ha, by rw [List.map_replicate]; exact hn, by rw [List.length_replicate]; show k = (List.replicate k _).length; rw [List.length_replicate], fun j a kv e => absurd e no, fun j e => ?_, fun i j a kv kv' e => absurd e no, ne⟩
  rw [List.getElem?_replicate] at e
  show (List.replicate k _)[j]? = _
  rw [List.getElem?_replicate]
  split at e
  · rename_i h
    rw [if_pos h]
  · cases e
end
theorem kys_puts {T : Tb} {l : List (Ky × V)} (h : KysOk T.N) (hl : ∀ kv ∈ l, KyOk kv.1) : KysOk (putsM plS T l).N :=
  putsInv (p := fun T => KysOk T.N) KyOk (fun _ _ _ a b => kys_put0 a b) l T h hl
section
variable {P : Program} {w : World} {K : PySem.W.Frag} {mg : Str → Option Value} {base : Heap} {CF CT CN CZ : Addr} {Ev : Hp}
def spResize (CF CT CN : Addr) : Sp := fun vs H Q _ => ∃ Ev x n m T pa pn L, ∃ a nn : Nat, vs = [.ref x, .int a, .int nn] ∧ TA CF CT CN Ev H x n m T pa pn L ∧ KysOk T.N ∧ a ≤ 40000 ∧ nn ≤ 40000 ∧ T.A.length ≤ 40000 ∧
  (T.A.drop a).countP liveV + (nodeL T.N).countP (fun kv => outs a kv.1) ≤ powM nn ∧
  ∀ H' pa' pn' L', TA CF CT CN Ev H' x n m (resizeM plS T a nn) pa' pn' L' → Stp x H pa pn L H' pa' pn' L' → Q .non H'
theorem sc_Table_resize : FnScope ["self", "array", "nodes", "old", "beyond", "at", "value", "node"] ["self", "array", "nodes"] (defScope s_Table_resize) := ⟨rfl, rfl, rfl, by decide +kernel, rfl, by decide +kernel, by decide +kernel⟩
theorem ok_resize (T : AllN K mg CF CT CN CZ) (k_power_for : Kn P w K mg base CX0 1 "power_for" ["count"] spPow) (k_Table_put : KnM P w K mg base CX0 6 CT "put" ["self", "key", "value"] (spPut0 CF CT CN)) :
    KnM P w K mg base CX0 7 CT "resize" ["self", "array", "nodes"] (spResize CF CT CN) := by
  refine T.x_resize.kn fun f fd F => ?_
  refine F.ok sc_Table_resize (fun vs H Q E h => ?_) (fun cdv A outer s H vs Q E hr h => ?_)
  · obtain ⟨Ev, x, n, m, T, pa, pn, L, a, nn, rfl, _⟩ := h
    rfl
  · obtain ⟨Ev, x, n, m, Tt, pa, pn, L, a, nn, rfl, hT, ks, la, ln, lA, hc, q⟩ := h
    refine ⟨_, (pss_cons (ps_par (by rfl) sc_Table_resize.nd (i := 3) (j := 4) rfl rfl (by decide) rfl rfl (pa_cons (pe_fld (pv 0) rfl) (pa_cons (pe_slice sl_list (pe_fld (pv 0) rfl) (po_some (pv 1)) po_none) pa_nil)) (by rfl))
      (pss_cons (ps_fld (pv 0) (pe_op op_rep (pe_lst (pa_cons pe_non pa_nil)) (pk k_power_for hr (pa_cons (pv 2) pa_nil))) rfl)
      (pss_cons (ps_fld (pv 0) (pe_callB call_len_seq (by rfl) T.b_len boot_len (pa_cons (pe_fld (pv 0) rfl) pa_nil)) rfl)
      (pss_cons (ps_fld (pv 0) (pe_slice sl_list (pe_fld (pv 0) rfl) po_none (po_some (pv 1))) rfl)
      (pss_cons (ps_for PassesOwn.never rfl (pi_enum rfl T.b_enumerate (pa_cons (pv 4) pa_nil)) (pg_tup (by rfl) (pgs_cons (pg_name (i := 5) sc_Table_resize.nd rfl (Or.inl rfl)) (pgs_cons (pg_name (i := 6) sc_Table_resize.nd rfl (Or.inl rfl)) pgs_nil)))
      (pss_one (ps_if (pt_cmpR op_notN (pv 6) pe_non (nomark _)) (pss_one (ps_expr (pkM k_Table_put T.l_Table hr (pv 0) (pa_cons (pe_op op_add (pe_op op_add (pv 1) (pv 5)) pe_int) (pa_cons (pv 6) pa_nil)) rfl))) pss_nil)))
      (pss_cons (ps_expr (pe_bm PySem.F.plainAttrs_list PySem.F.slot_list_extend PySem.F.type_list_extend mt_extend (pe_fld (pv 0) rfl) (pa_cons (pe_op op_rep (pe_lst (pa_cons pe_non pa_nil)) (pe_op op_sub (pv 1) (pe_callB call_len_seq (by rfl) T.b_len boot_len (pa_cons (pe_fld (pv 0) rfl) pa_nil)))) pa_nil)))
      (pss_one (ps_for PassesOwn.never rfl (pi_list (pv 3)) (pg_name (i := 7) sc_Table_resize.nd rfl (Or.inl rfl))
      (pss_one (ps_if (PW.pt (pw_and (pt_cmpR op_notN (pv 7) pe_non (nomark _)) (pw_and1 (pt_cmpR op_notN (pe_fld (pv 7) rfl) pe_non (nomark _))))) (pss_one (ps_expr (pkM k_Table_put T.l_Table hr (pv 0) (pa_cons (pe_fld (pv 7) rfl) (pa_cons (pe_fld (pv 7) rfl) pa_nil)) rfl))) pss_nil)))))))))), ?_⟩
    obtain ⟨dx, hx⟩ := hT.ins
    repeat walk_at "rd"
    refine w_fldI hx T.l_Table T.n_nodes (tF_n _ _ _ _ _) ?_
    repeat walk_at "rd"
    refine w_sl ?_
    repeat walk_at "rd"
    refine w_fldI hx T.l_Table T.n_array (tF_a _ _ _ _ _) ?_
    refine w_part ?_
    repeat walk_at "rd"
    refine w_noPart ?_
    refine w_slL hT.arr fun pb H1 s1 n1 h1 => ?_
    rw [cut_lo] at h1
    repeat walk_at "rd"
    have pw := powM_le nn
    have slB : ∀ k : Nat, k ≤ 100000 → 1 * k ≤ sizeLine := fun k h => Nat.le_trans (by omega) (show 100000 ≤ sizeLine by decide)
    refine w_lst1 fun p2 H2 s2 n2 h2 => ?_
    repeat walk_at "rd"
    refine ⟨nn, rfl, by omega, ?_⟩
    refine w_rep h2 (by omega) (by omega) (by rw [Int.toNat_natCast]; exact slB _ (by omega)) fun p3 H3 s3 n3 h3 => ?_
    rw [Int.toNat_natCast, rep_flat] at h3
    repeat walk_at "rd"
    have s13 := (s1.trans s2).trans s3
    have x3 := s13 _ _ hx
    refine w_sfI x3 T.l_Table T.n_nodes (by show 5 < 1000; decide) ?_
    rw [tF_pn]
    have o4 : Oth x H3 (upd H3 x (.ins CT dx (tF n m pa p3 Tt.fr))) := Oth.refl.put
    have x4 := upd_same (H := H3) (a := x) (o := .ins CT dx (tF n m pa p3 Tt.fr))
    generalize upd H3 x (.ins CT dx (tF n m pa p3 Tt.fr)) = H4 at o4 x4 ⊢
    have np3 : p3 ≠ x := ne_of h3 x3 (by intro z; cases z)
    repeat walk_at "rd"
    refine w_fldI x4 T.l_Table T.n_nodes (tF_n _ _ _ _ _) ?_
    repeat walk_at "rd"
    refine w_lenL (o4 _ _ np3 h3) ?_
    rw [List.length_replicate]
    repeat walk_at "rd"
    refine w_sfI x4 T.l_Table T.n_free (by show 5 < 1000; decide) ?_
    rw [tF_pf n m pa p3 Tt.fr (powM nn : Nat) (powM nn) rfl]
    have o5 : Oth x H3 (upd H4 x (.ins CT dx (tF n m pa p3 (powM nn)))) := o4.put
    have x5 := upd_same (H := H4) (a := x) (o := .ins CT dx (tF n m pa p3 (powM nn)))
    generalize upd H4 x (.ins CT dx (tF n m pa p3 (powM nn))) = H5 at o5 x5 ⊢
    have npa : pa ≠ x := ne_of hT.arr hx (by intro z; cases z)
    have arr5 : H5 pa = some (.lst Tt.A) := o5 _ _ npa (s13 _ _ hT.arr)
    repeat walk_at "rd"
    refine w_sl ?_
    repeat walk_at "rd"
    refine w_fldI x5 T.l_Table T.n_array (tF_a _ _ _ _ _) ?_
    refine w_noPart ?_
    refine w_part ?_
    repeat walk_at "rd"
    refine w_slL arr5 fun p4 H6 s6 n6 h6 => ?_
    rw [cut_hi] at h6
    repeat walk_at "rd"
    have x6 := s6 _ _ x5
    have np4 : p4 ≠ x := ne_of h6 x6 (by intro z; cases z)
    refine w_sfI x6 T.l_Table T.n_array (by show 5 < 1000; decide) ?_
    rw [tF_pa]
    have o7 : Oth x H6 (upd H6 x (.ins CT dx (tF n m p4 p3 (powM nn)))) := Oth.refl.put
    have x7 := upd_same (H := H6) (a := x) (o := .ins CT dx (tF n m p4 p3 (powM nn)))
    generalize upd H6 x (.ins CT dx (tF n m p4 p3 (powM nn))) = H7 at o7 x7 ⊢
    have keep : Oth x H H7 := fun b o nb e => o7 b o nb (s6 _ _ (o5 _ _ nb (s13 _ _ e)))
    have keep1 : Oth x H1 H7 := fun b o nb e => o7 b o nb (s6 _ _ (o5 _ _ nb (s3 _ _ (s2 _ _ e))))
    have fresh3 : H p3 = none := by
      cases e : H p3 with
      | none => rfl
      | some o => rw [s2 _ _ (s1 _ _ e)] at n3; cases n3
    have fresh31 : H1 p3 = none := by
      cases e : H1 p3 with
      | none => rfl
      | some o => rw [s2 _ _ e] at n3; cases n3
    have fresh4 : H p4 = none := by
      cases e : H p4 with
      | none => rfl
      | some o => rw [o5 _ _ np4 (s13 _ _ e)] at n6; cases n6
    have fresh41 : H1 p4 = none := by
      cases e : H1 p4 with
      | none => rfl
      | some o => rw [o5 _ _ np4 (s3 _ _ (s2 _ _ e))] at n6; cases n6
    have ne43 : ¬ p4 = p3 := fun z => by rw [z, o5 _ _ np3 h3] at n6; cases n6
    have n7 : H7 p3 = some (.lst (List.replicate (powM nn) .non)) := o7 _ _ np3 (s6 _ _ (o5 _ _ np3 h3))
    have a7 : H7 p4 = some (.lst (Tt.A.take a)) := o7 _ _ np4 h6
    have tC := TC.fresh (CF := CF) (CN := CN) (Ev := Ev) ⟨dx, x7⟩ a7 n7 ne43
    have nopb : pb ≠ x := ne_of h1 (s1 _ _ hx) (by intro z; cases z)
    have hpb : H7 pb = some (.lst (Tt.A.drop a)) := keep1 _ _ nopb h1
    have nopn : pn ≠ x := ne_of hT.nod hx (by intro z; cases z)
    have hpn : H7 pn = some (.lst (L.map adV)) := keep _ _ nopn hT.nod
    have st0 : Stp x H pa pn L H7 p4 p3 (List.replicate (powM nn) none) := by
      refine ⟨fun b o e h => keep b o (fun z => h (.inl z)) e, fun b h => ?_⟩
      rcases h with h | h | h | ⟨j, kvh, h⟩
      · exact .inl (.inl h)
      · rw [h]; exact .inr fresh4
      · rw [h]; exact .inr fresh3
      · rw [List.getElem?_replicate] at h
        split at h <;> cases h
    have tA := hT.of tC st0
    /- what stays: the old lists and the old nodes -/
    have out : ∀ b o, b ≠ x → H1 b = some o → ¬ InT x p4 p3 (List.replicate (powM nn) none) b := fun b o nb e h => by
      rcases h with h | h | h | ⟨j, kvh, h⟩
      · exact nb h
      · rw [h, fresh41] at e; cases e
      · rw [h, fresh31] at e; cases e
      · rw [List.getElem?_replicate] at h
        split at h <;> cases h
    have opb := out pb _ nopb h1
    have opn := out pn _ nopn (s1 _ _ hT.nod)
    have ond : ∀ (j : Nat) (c : Addr) (kvc : V), L[j]? = some (some (c, kvc)) → ∃ nd dn, Tt.N[j]? = some (some nd) ∧ KeyAt CF CT Ev nd.k kvc ∧ ¬ InT x p4 p3 (List.replicate (powM nn) none) c ∧ H7 c = some (.ins CN dn (nF kvc nd.v (lnV nd.l))) := fun j c kvc e => by
      obtain ⟨nd, e1, kac, dn, e2⟩ := hT.nds j c kvc e
      have nc : c ≠ x := ne_of e2 hx (by intro z; cases z)
      exact ⟨nd, dn, e1, kac, out c _ nc (s1 _ _ e2), keep _ _ nc e2⟩
    generalize hT0 : (⟨Tt.A.take a, List.replicate (powM nn) none, powM nn⟩ : Tb) = T0 at tA
    have w0 : WF plS T0 := by rw [← hT0]; exact wf_new _ _
    have k0 : KysOk T0.N := fun j nd e => by
      rw [← hT0] at e
      have e : (List.replicate (powM nn) (none : Option Nd))[j]? = _ := e
      rw [List.getElem?_replicate] at e
      split at e <;> cases e
    have oc0 : occ T0.N = 0 := by rw [← hT0]; exact occ_new _
    have nl0 : T0.N.length = powM nn := by rw [← hT0]; exact List.length_replicate
    have al0 : T0.A.length = min a Tt.A.length := by rw [← hT0]; exact List.length_take
    have cnt0 : (aboveL a (Tt.A.drop a)).countP (fun kv => outs T0.A.length kv.1) = (Tt.A.drop a).countP liveV := by
      by_cases c : a ≤ Tt.A.length
      · rw [al0, Nat.min_eq_left c]
        exact above_out a _
      · rw [List.drop_eq_nil_of_le (by omega)]
        rfl
    have q : ∀ H' L', TA CF CT CN Ev H' x n m (putsM plS ⟨(putsM plS T0 (aboveL a (Tt.A.drop a))).A ++ List.replicate (a - (putsM plS T0 (aboveL a (Tt.A.drop a))).A.length) .non, (putsM plS T0 (aboveL a (Tt.A.drop a))).N, (putsM plS T0 (aboveL a (Tt.A.drop a))).fr⟩ (nodeL Tt.N)) p4 p3 L' → Stp x H7 p4 p3 (List.replicate (powM nn) none) H' p4 p3 L' → Q .non H' := fun H' L' t1 t2 => by
      refine q H' p4 p3 L' ?_ (st0.trans t2)
      unfold resizeM
      rw [hT0]
      exact t1
    repeat walk_at "rd"
    refine w_iEnum ?_
    repeat walk_at "rd"
    refine w_iEnumI hpb ?_
    have kyA : ∀ (l : List V), l.length ≤ 40000 → ∀ kv ∈ aboveL a l, KyOk kv.1 := fun l hl kv h => by
      obtain ⟨i, h1, h2⟩ := above_mem h
      rw [h2]
      exact ⟨by omega, by omega⟩
    refine for_enum (fun i σ H' => ∃ L' y1 y2, σ = [some (.ref x), some (.int a), some (.int nn), some (.ref pn), some (.ref pb), y1, y2, none] ∧ TA CF CT CN Ev H' x n m (putsM plS T0 (aboveL a ((Tt.A.drop a).take i))) p4 p3 L' ∧ Stp x H7 p4 p3 (List.replicate (powM nn) none) H' p4 p3 L')
      ⟨_, none, none, rfl, tA, Stp.refl⟩ (fun i σ H' _ ⟨_, _, _, _, _, st⟩ => st.fr _ _ hpb opb) ?_ ?_
    · rintro i v T' σ H8 hi hv ⟨L8, y1, y2, rfl, t8, st8⟩ hT'
      refine w_gtup upd_same rfl ?_
      repeat walk_at "rd"
      have s9 : Same H8 (upd H8 T' (.tup [.int (i : Nat), v])) := same_upd hT'
      generalize upd H8 T' (.tup [.int (i : Nat), v]) = H9 at s9 ⊢
      rw [take_succ' hv, aboveL_snoc, List.length_take, Nat.min_eq_left (by omega)]
      have t9 := t8.same s9
      have st9 := st8.trans (Stp.of_same (pa := p4) (pn := p3) (L := L8) s9)
      refine iN (fun c => ?_) (fun c => ?_)
      · repeat walk_at "rd"
        obtain ⟨dx9, x9⟩ := t9.ins
        refine w_methI x9 (lk_t _ _ _ _ _ (by decide +kernel)) ?_
        repeat walk_at "rd"
        have sp := above_split (a := a) hv c
        obtain ⟨wi, gi⟩ := puts_mid (pl := plS) plS_lt (T := T0) (l1 := aboveL a ((Tt.A.drop a).take i)) (kv := (.int ((a + i : Nat) + 1 : Int), v)) (l2 := aboveL (a + i + 1) ((Tt.A.drop a).drop (i + 1))) w0 (by rw [← sp, cnt0, oc0, nl0]; omega)
        have ki := kys_puts (l := aboveL a ((Tt.A.drop a).take i)) k0 (kyA _ (by rw [List.length_take, List.length_drop]; omega))
        have il : i < Tt.A.length := by rw [List.length_drop] at hi; omega
        refine ⟨Ev, x, n, m, _, p4, p3, L8, .int ((a + i : Nat) + 1 : Int), _, v, ?_, t9, wi, ki, ⟨by omega, by omega⟩, rfl, gi, fun H10 L10 t10 st10 => ?_⟩
        · show _ = [V.ref x, V.int _, v]
          rw [show (((a + i : Nat) : Int) + 1) = (a : Int) + (i : Int) + 1 by omega]
          rfl
        · repeat walk_at "rd"
          refine ⟨L10, some (.int (i : Nat)), some v, rfl, ?_, st9.trans st10⟩
          rw [one1, if_neg c, puts_app]
          exact t10
      · repeat walk_at "rd"
        refine ⟨L8, some (.int (i : Nat)), some v, rfl, ?_, st9⟩
        rw [one1, if_pos c, List.append_nil]
        exact t9
    · rintro σ H8 ⟨L8, y1, y2, rfl, t8, st8⟩
      rw [List.take_of_length_le (Nat.le_refl _)] at t8
      obtain ⟨w1, n1', a1, o1⟩ := puts_mid' (pl := plS) plS_lt (T := T0) (l1 := aboveL a (Tt.A.drop a)) (l2 := []) w0 (by rw [List.append_nil, cnt0, oc0, nl0]; omega)
      have k1 := kys_puts (l := aboveL a (Tt.A.drop a)) k0 (kyA _ (by rw [List.length_drop]; omega))
      rw [cnt0, oc0] at o1
      generalize putsM plS T0 (aboveL a (Tt.A.drop a)) = T1 at t8 w1 n1' a1 o1 k1 q
      obtain ⟨dx8, x8⟩ := t8.ins
      repeat walk_at "rd"
      refine w_bm ?_
      repeat walk_at "rd"
      refine w_fldI x8 T.l_Table T.n_array (tF_a _ _ _ _ _) ?_
      refine ⟨w_tyL t8.arr, ?_⟩
      repeat walk_at "rd"
      refine w_lst1 fun p5 H9 s9 n9 h9 => ?_
      repeat walk_at "rd"
      refine w_fldI (s9 _ _ x8) T.l_Table T.n_array (tF_a _ _ _ _ _) ?_
      repeat walk_at "rd"
      refine w_lenL (s9 _ _ t8.arr) ?_
      repeat walk_at "rd"
      have ek : ((a : Int) - (T1.A.length : Int)).toNat = a - T1.A.length := by omega
      refine w_rep h9 (by omega) (by omega) (by rw [ek]; exact slB _ (by omega)) fun p6 H10 s10 n10 h10 => ?_
      rw [ek, rep_flat] at h10
      have t10 := t8.same (s9.trans s10)
      have st10 := st8.trans (Stp.of_same (pa := p4) (pn := p3) (L := L8) (s9.trans s10))
      repeat walk_at "rd"
      refine w_ext t10.arr h10 (by rw [List.length_replicate]; exact Nat.le_trans (show _ ≤ 100000 by omega) (show 100000 ≤ sizeLine by decide)) ?_
      obtain ⟨t11, st11⟩ := t10.arrput (A' := T1.A ++ List.replicate (a - T1.A.length) .non)
      generalize upd H10 p4 (.lst (T1.A ++ List.replicate (a - T1.A.length) .non)) = H11 at t11 st11 ⊢
      have st11 := st10.trans st11
      have al2 : (T1.A ++ List.replicate (a - T1.A.length) V.non).length = a := by
        rw [List.length_append, List.length_replicate]
        omega
      have t11 : TA CF CT CN Ev H11 x n m ⟨T1.A ++ List.replicate (a - T1.A.length) .non, T1.N, T1.fr⟩ p4 p3 L8 := t11
      have q : ∀ H' L', TA CF CT CN Ev H' x n m (putsM plS ⟨T1.A ++ List.replicate (a - T1.A.length) .non, T1.N, T1.fr⟩ (nodeL Tt.N)) p4 p3 L' → Stp x H7 p4 p3 (List.replicate (powM nn) none) H' p4 p3 L' → Q .non H' := q
      generalize hT2 : (⟨T1.A ++ List.replicate (a - T1.A.length) .non, T1.N, T1.fr⟩ : Tb) = T2 at t11 q
      have w2 : WF plS T2 := by rw [← hT2]; exact ⟨w1.g, w1.fr, w1.free⟩
      have k2 : KysOk T2.N := by rw [← hT2]; exact k1
      have o2 : occ T2.N ≤ 0 + (Tt.A.drop a).countP liveV := by rw [← hT2]; exact o1
      have nl2 : T2.N.length = powM nn := by rw [← hT2]; exact n1'.trans nl0
      have al2 : T2.A.length = a := by rw [← hT2]; exact al2
      have kyN : ∀ (l : List (Option Nd)), (∀ o ∈ l, o ∈ Tt.N) → ∀ kv ∈ nodeL l, KyOk kv.1 := fun l hl kv h => by
        obtain ⟨nd, h1, h2⟩ := node_mem h
        obtain ⟨j, hj⟩ := List.mem_iff_getElem?.1 (hl _ h1)
        rw [h2]
        exact ks j nd hj
      repeat walk_at "rd"
      refine w_iListI (st11.fr _ _ hpn opn) ?_
      refine for_list (xs := L.map adV) (fun i σ H' => ∃ L' y1 y2 y3, σ = [some (.ref x), some (.int a), some (.int nn), some (.ref pn), some (.ref pb), y1, y2, y3] ∧ TA CF CT CN Ev H' x n m (putsM plS T2 (nodeL (Tt.N.take i))) p4 p3 L' ∧ Stp x H7 p4 p3 (List.replicate (powM nn) none) H' p4 p3 L')
        ⟨_, y1, y2, none, rfl, t11, st11⟩ (fun i σ H' _ ⟨_, _, _, _, _, _, st⟩ => SqL.of (st.fr _ _ hpn opn)) ?_ ?_
      · rintro i v σ H12 hv ⟨L12, z1, z2, z3, rfl, t12, st12⟩
        rw [List.getElem?_map] at hv
        cases hL : L[i]? with
        | none => rw [hL] at hv; cases hv
        | some oc =>
          rw [hL] at hv
          cases hv
          repeat walk_at "rd"
          cases oc with
          | none =>
            have hN := hT.nns i hL
            refine iF ?_
            repeat walk_at "rd"
            refine ⟨L12, z1, z2, some .non, rfl, ?_, st12⟩
            rw [take_succ' hN, nodeL_snoc, one2, List.append_nil]
            exact t12
          | some c =>
            obtain ⟨c, kvc⟩ := c
            obtain ⟨nd, dn, hN, kac, onc, hc7⟩ := ond i c kvc hL
            have hc12 := st12.fr _ _ hc7 onc
            refine iT ?_
            repeat walk_at "rd"
            refine w_fldI hc12 T.l_Node T.n_value (nF_v _ _ _) ?_
            repeat walk_at "rd"
            refine iN (fun d => ?_) (fun d => ?_)
            · repeat walk_at "rd"
              obtain ⟨dx12, x12⟩ := t12.ins
              refine w_methI x12 (lk_t _ _ _ _ _ (by decide +kernel)) ?_
              repeat walk_at "rd"
              refine w_fldI hc12 T.l_Node T.n_key (nF_k _ _ _) ?_
              repeat walk_at "rd"
              refine w_fldI hc12 T.l_Node T.n_value (nF_v _ _ _) ?_
              repeat walk_at "rd"
              have sp := node_split hN d
              obtain ⟨wi, gi⟩ := puts_mid (pl := plS) plS_lt (T := T2) (l1 := nodeL (Tt.N.take i)) (kv := (nd.k, nd.v)) (l2 := nodeL (Tt.N.drop (i + 1))) w2 (by rw [← sp, nl2, al2]; omega)
              have ki := kys_puts (l := nodeL (Tt.N.take i)) k2 (kyN _ (fun o ho => List.mem_of_mem_take ho))
              refine ⟨Ev, x, n, m, _, p4, p3, L12, nd.k, kvc, nd.v, rfl, t12, wi, ki, ks i nd hN, kac, gi, fun H13 L13 t13 st13 => ?_⟩
              repeat walk_at "rd"
              refine ⟨L13, z1, z2, some (.ref c), rfl, ?_, st12.trans st13⟩
              rw [take_succ' hN, nodeL_snoc, one2, if_neg d, puts_app]
              exact t13
            · repeat walk_at "rd"
              refine ⟨L12, z1, z2, some (.ref c), rfl, ?_, st12⟩
              rw [take_succ' hN, nodeL_snoc, one2, if_pos d, List.append_nil]
              exact t12
      · rintro σ H12 ⟨L12, z1, z2, z3, rfl, t12, st12⟩
        rw [List.length_map, List.take_of_length_le (by rw [hT.len]; exact Nat.le_refl _)] at t12
        repeat walk_at "rd"
        exact q _ _ t12 st12
end
end Nu

set_option Elab.async false
set_option linter.all false
set_option maxRecDepth 100000
set_option autoImplicit false
set_option maxHeartbeats 4000000
set_option pp.maxSteps 900
namespace Nu
open PySem PySem.Spec PyProof.Rows L2 Rd Tm
local macro_rules | `(tactic| walk_at "hp") => `(tactic| first | assumption | (refine same_get ?sm ?_; (case sm => assumption); walk_at "hp"))
local macro_rules | `(tactic| walk_at "rd") => `(tactic| first
  | (with_reducible show Ends.nx _ _ _; with_reducible refine w_nx ?_)
  | with_reducible refine w_rt ?_
  | (with_reducible show Ends.bk _ _ _; with_reducible refine w_bk ?_)
  | (with_reducible show Ends.ct _ _ _; with_reducible refine w_ct ?_)
  | with_reducible refine w_seq ?_
  | with_reducible refine w_next ?_
  | with_reducible refine w_ret ?_
  | with_reducible refine w_ifS ?_
  | with_reducible refine w_asg ?_
  | with_reducible refine w_name ?_
  | with_reducible refine w_par ?_
  | with_reducible refine w_parI ?_
  | with_reducible refine w_ii ?_
  | with_reducible refine w_i1 ?_
  | with_reducible refine w_drop ?_
  | with_reducible refine w_sFld ?_
  | ((with_reducible refine' w_var ?rdh ?_); (case rdh => exact rfl))
  | with_reducible refine w_c ?_
  | with_reducible refine w_op ?_
  | with_reducible refine w_un ?_
  | with_reducible refine w_I0 ?_
  | with_reducible refine w_U ?_
  | with_reducible refine w_bits ?_
  | with_reducible refine w_bitsI ?_
  | with_reducible refine w_tup ?_
  | with_reducible refine w_lst ?_
  | with_reducible refine w_nil ?_
  | with_reducible refine w_cons ?_
  | with_reducible refine w_fld ?_
  | with_reducible refine w_call ?_
  | with_reducible refine w_make ?_
  | with_reducible refine w_gsub ?_
  | with_reducible refine w_int1 ?_
  | with_reducible refine w_intB ?_
  | with_reducible refine w_for ?_
  | with_reducible refine w_rng1 ?_
  | with_reducible refine w_iList ?_
  | with_reducible refine w_iTup ?_
  | with_reducible refine w_makeD ?_
  | with_reducible refine w_nn ?_
  | with_reducible refine w_subB ?_
  | with_reducible refine w_meth ?_
  | with_reducible refine w_cb ?_
  | with_reducible refine w_test ?_
  | with_reducible refine w_B ?_
  | with_reducible refine w_bl ?_
  | with_reducible refine w_andV ?_
  | with_reducible refine w_orV ?_
  | with_reducible refine w_notV ?_
  | with_reducible refine w_and ?_
  | with_reducible refine w_or ?_
  | with_reducible refine w_not ?_
  | with_reducible refine w_if ?_
  | with_reducible refine w_gnil ?_
  | with_reducible refine w_gcons ?_
  | with_reducible refine iT ?_
  | with_reducible refine iF ?_
  | with_reducible refine w_eqI ?_
  | with_reducible refine w_neI ?_
  | with_reducible refine w_eqS ?_
  | with_reducible refine w_eqIS ?_
  | with_reducible refine w_eqSI ?_)

/-! ### slots of keys -/
def slotIs (q : Nat) : Ky → Bool
  | .int i => decide (1 ≤ i) && decide (Builtin.Int.intBits (i - 1) = q)
  | _ => false
theorem slotIs_int (q : Nat) (j : Int) : slotIs q (.int j) = (decide (1 ≤ j) && decide (Builtin.Int.intBits (j - 1) = q)) := rfl
def slots (l : List Ky) (q : Nat) : Nat := l.countP (slotIs q)
theorem pow2_cast (p : Nat) : ((2 ^ p : Nat) : Int) = 2 ^ p := by simp
theorem le_slot {i : Int} (h : 1 ≤ i) (p : Nat) : i ≤ (2 ^ p : Nat) ↔ Builtin.Int.intBits (i - 1) ≤ p := by
  have a := bits_lt_pow (n := i - 1) (k := p) (by omega)
  rw [pow2_cast]
  have b : bits (i - 1) = (Builtin.Int.intBits (i - 1) : Nat) := rfl
  constructor
  · intro g
    have := a.2 (by omega)
    omega
  · intro g
    have := a.1 (by omega)
    omega
theorem ins_pow (l : List Ky) (p : Nat) : ins l (2 ^ p) = l.countP fun k => match k with
    | .int i => decide (1 ≤ i) && decide (Builtin.Int.intBits (i - 1) ≤ p)
    | _ => false := by
  unfold ins
  refine List.countP_congr fun k _ => ?_
  cases k with
  | int i =>
    by_cases c : 1 ≤ i
    · have := le_slot c p
      simp only [outs, Bool.not_not, decide_eq_true c, Bool.true_and, decide_eq_true_eq]
      exact this
    · simp [outs, c]
  | str z => simp [outs]
  | bl b => simp [outs]
  | fl s t q' => simp [outs]
  | inf s => simp [outs]
  | ob a m => simp [outs]
  | nt a z => simp [outs]
theorem ins_step (l : List Ky) (p : Nat) : ins l (2 ^ (p + 1)) = ins l (2 ^ p) + slots l (p + 1) := by
  rw [ins_pow, ins_pow]
  unfold slots
  induction l with
  | nil => rfl
  | cons k l ih =>
    rw [List.countP_cons, List.countP_cons, List.countP_cons, ih]
    cases k with
    | int i =>
      by_cases c : 1 ≤ i
      · simp only [slotIs, decide_eq_true c, Bool.true_and, decide_eq_true_eq]
        split <;> split <;> split <;> omega
      · simp only [slotIs, decide_eq_false c, Bool.false_and, Bool.false_eq_true, if_false]
        omega
    | str z => simp only [slotIs, Bool.false_eq_true, if_false]; omega
    | bl b => simp only [slotIs, Bool.false_eq_true, if_false]; omega
    | fl s t q' => simp only [slotIs, Bool.false_eq_true, if_false]; omega
    | inf s => simp only [slotIs, Bool.false_eq_true, if_false]; omega
    | ob a m => simp only [slotIs, Bool.false_eq_true, if_false]; omega
    | nt a z => simp only [slotIs, Bool.false_eq_true, if_false]; omega
theorem ins_zero (l : List Ky) : ins l (2 ^ 0) = slots l 0 := by
  rw [ins_pow]
  unfold slots
  refine List.countP_congr fun k _ => ?_
  cases k with
  | int i => simp [slotIs]
  | str z => simp [slotIs]
  | bl b => simp [slotIs]
  | fl s t q' => simp [slotIs]
  | inf s => simp [slotIs]
  | ob a m => simp [slotIs]
  | nt a z => simp [slotIs]
theorem best_used (l : List Ky) : ∀ p, (bestS (slots l) (p + 1)).1 = ins l (2 ^ p)
  | 0 => by
    rw [ins_zero, bestS]
    show (if _ then _ else _ : Nat × Nat × Nat).1 = _
    split <;> exact Nat.zero_add _
  | p + 1 => by
    rw [ins_step, bestS, best_used l p]
    split <;> rfl
theorem best_eq (l : List Ky) : ∀ p, (bestS (slots l) p).2 = bestM l p
  | 0 => rfl
  | p + 1 => by
    have u : (bestS (slots l) p).1 + slots l p = ins l (2 ^ p) := by
      cases p with
      | zero => rw [ins_zero]; exact Nat.zero_add _
      | succ p => rw [best_used, ins_step]
    rw [bestS, bestM, u]
    split
    · rfl
    · exact best_eq l p
theorem cntV_ext {b c : Nat → Nat} {n : Nat} (h : ∀ k, k < n → b k = c k) : cntV b n = cntV c n := by
  unfold cntV
  refine List.map_congr_left fun k hk => ?_
  rw [h k (List.mem_range.1 hk)]
theorem cntV_set {c : Nat → Nat} {n j : Nat} (hj : j < n) : (cntV c n).set j (.int ((c j : Int) + 1)) = cntV (fun q => if q = j then c q + 1 else c q) n := by
  refine List.ext_getElem? fun i => ?_
  by_cases h : i < n
  · rw [cntV_get _ h, gs (by rw [cntV_len]; exact hj), cntV_get _ h]
    by_cases e : i = j
    · subst e
      rw [if_pos rfl, if_pos rfl]
      rfl
    · rw [if_neg e, if_neg e]
  · rw [List.getElem?_eq_none (by rw [List.length_set, cntV_len]; omega), List.getElem?_eq_none (by rw [cntV_len]; omega)]
/-- the keys of a list stand as its values -/
inductive KysAt (CF CT : Addr) (Ev : Hp) : List Ky → List V → Prop
  | nil : KysAt CF CT Ev [] []
  | cons {k : Ky} {v : V} {ks : List Ky} {vs : List V} (h : KeyAt CF CT Ev k v) (t : KysAt CF CT Ev ks vs) : KysAt CF CT Ev (k :: ks) (v :: vs)
theorem KysAt.len {CF CT : Addr} {Ev : Hp} {ks : List Ky} {vs : List V} (h : KysAt CF CT Ev ks vs) : vs.length = ks.length := by
  induction h with
  | nil => rfl
  | cons _ _ ih => rw [List.length_cons, List.length_cons, ih]
theorem KysAt.app {CF CT : Addr} {Ev : Hp} {ks ks' : List Ky} {vs vs' : List V} (h : KysAt CF CT Ev ks vs) (h' : KysAt CF CT Ev ks' vs') : KysAt CF CT Ev (ks ++ ks') (vs ++ vs') := by
  induction h with
  | nil => exact h'
  | cons a _ ih => exact .cons a ih
theorem KysAt.get {CF CT : Addr} {Ev : Hp} {ks : List Ky} {vs : List V} (h : KysAt CF CT Ev ks vs) : ∀ {i : Nat} {v : V}, vs[i]? = some v → ∃ k, ks[i]? = some k ∧ KeyAt CF CT Ev k v := by
  induction h with
  | nil => intro i v e; rw [List.getElem?_nil] at e; cases e
  | cons a _ ih =>
    intro i v e
    cases i with
    | zero => cases e; exact ⟨_, rfl, a⟩
    | succ i => rw [List.getElem?_cons_succ] at e; obtain ⟨k, e1, e2⟩ := ih e; exact ⟨k, by rw [List.getElem?_cons_succ]; exact e1, e2⟩
section
variable {P : Program} {w : World} {K : PySem.W.Frag} {mg : Str → Option Value} {base : Heap} {CF CT CN CZ : Addr} {Ev : Hp}
def spGrow (CF CT CN : Addr) : Sp := fun vs H Q _ => ∃ Ev x n m T pa pn L k kv, vs = [.ref x, kv] ∧ TA CF CT CN Ev H x n m T pa pn L ∧ KysOk T.N ∧ KyOk k ∧ KeyAt CF CT Ev k kv ∧ T.A.length ≤ 9000 ∧ T.N.length ≤ 9000 ∧
  ∀ H' pa' pn' L', TA CF CT CN Ev H' x n m (growM plS T k) pa' pn' L' → Stp x H pa pn L H' pa' pn' L' → Q .non H'
theorem sc_Table_grow : FnScope ["self", "key", "counts", "keys", "at", "value", "node", "one", "array", "inside"] ["self", "key"] (defScope s_Table_grow) := ⟨rfl, rfl, rfl, by decide +kernel, rfl, by decide +kernel, by decide +kernel⟩
theorem ok_grow (T : AllN K mg CF CT CN CZ) (k_is_whole : Kn P w K mg base CX0 1 "is_whole" ["key"] (spWh CF CT)) (k_best_size : Kn P w K mg base CX0 1 "best_size" ["counts"] spBest) (k_Table_resize : KnM P w K mg base CX0 7 CT "resize" ["self", "array", "nodes"] (spResize CF CT CN)) :
    KnM P w K mg base CX0 8 CT "grow" ["self", "key"] (spGrow CF CT CN) := by
  refine T.x_grow.kn fun f fd F => ?_
  refine F.ok sc_Table_grow (fun vs H Q E h => ?_) (fun cdv A outer s H vs Q E hr h => ?_)
  · obtain ⟨Ev, x, n, m, T, pa, pn, L, k, kv, rfl, _⟩ := h
    rfl
  · obtain ⟨Ev, x, n, m, Tt, pa, pn, L, k, kv, rfl, hT, ks, kk, ka, lA, lN, q⟩ := h
    refine ⟨_, (pss_cons (ps_set (i := 2) sc_Table_grow.nd rfl (Or.inl rfl) (pe_op op_rep (pe_lst (pa_cons pe_int pa_nil)) pe_int))
      (pss_cons (ps_set (i := 3) sc_Table_grow.nd rfl (Or.inl rfl) (pe_op op_cat (pe_lc (own := [("at", 4), ("value", 5)]) (g := _) (tt := _) rfl sc_Table_grow.nd (pi_enum rfl T.b_enumerate (pa_cons (pe_fldK (K := K) (pv 0) rfl) pa_nil)) (blkOk_by (N := ["self", "key", "counts", "keys", "at", "value", "node", "one", "array", "inside"]) (sc := defScope s_Table_grow) (by decide +kernel)) (fun _ _ _ _ _ => (pg_tupK (K := K) (n := 2) (by rfl) (pgs_cons (pg_name (i := 4) sc_Table_grow.nd rfl (Or.inl rfl)) (pgs_cons (pg_name (i := 5) sc_Table_grow.nd rfl (Or.inl rfl)) pgs_nil)))) (fun _ _ _ _ _ => pts_one (pt_cmpR op_notN (pv 5) pe_non (nomark _))) (fun _ _ _ _ _ => (pe_op op_add (pv 4) pe_int))) (pe_lst (pa_cons (pv 1) pa_nil))))
      (pss_cons (ps_expr (pe_bm PySem.F.plainAttrs_list PySem.F.slot_list_extend PySem.F.type_list_extend mt_extend (pv 3) (pa_cons (pe_lc (own := [("node", 6)]) (g := (gName 6)) (tt := _) rfl sc_Table_grow.nd (pi_list (pe_fldK (K := K) (pv 0) rfl)) (blkOk_by (N := ["self", "key", "counts", "keys", "at", "value", "node", "one", "array", "inside"]) (sc := defScope s_Table_grow) (by decide +kernel)) (fun _ _ _ _ _ => (pg_name (i := 6) sc_Table_grow.nd rfl (Or.inl rfl))) (fun _ _ _ _ _ => pts_one (PW.pt (pw_and (pt_cmpR op_notN (pv 6) pe_non (nomark _)) (pw_and1 (pt_cmpR op_notN (pe_fldK (K := K) (pv 6) rfl) pe_non (nomark _)))))) (fun _ _ _ _ _ => (pe_fldK (K := K) (pv 6) rfl))) pa_nil)))
      (pss_cons (ps_for PassesOwn.never rfl (pi_list (pv 3)) (pg_name (i := 7) sc_Table_grow.nd rfl (Or.inl rfl))
      (pss_one (ps_if (PW.pt (pw_and (pt_val (pk k_is_whole hr (pa_cons (pv 7) pa_nil))) (pw_and1 (pt_chain op_le op_le pe_int (pv 7) (pgE "MOST_PLACE" T.c_MOST_PLACE))))) (pss_one (ps_augS (pv 2) (pe_bits (pe_op op_sub (pv 7) pe_int)) pget_list pe_int ip_add set_list)) pss_nil)))
      (pss_cons (ps_asg (pk k_best_size hr (pa_cons (pv 2) pa_nil)) (pg_tup (by rfl) (pgs_cons (pg_name (i := 8) sc_Table_grow.nd rfl (Or.inl rfl)) (pgs_cons (pg_name (i := 9) sc_Table_grow.nd rfl (Or.inl rfl)) pgs_nil))))
      (pss_one (ps_expr (pkM k_Table_resize T.l_Table hr (pv 0) (pa_cons (pv 8) (pa_cons (pe_op op_sub (pe_callB call_len_seq (by rfl) T.b_len boot_len (pa_cons (pv 3) pa_nil)) (pv 9)) pa_nil)) rfl)))))))), ?_⟩
    obtain ⟨dx, hx⟩ := hT.ins
    have cl : live Tt ≤ 18000 := by
      have a := List.countP_le_length (p := liveV) (l := Tt.A)
      have b := List.countP_le_length (p := liveN) (l := Tt.N)
      unfold live
      omega
    have slB : ∀ k : Nat, k ≤ 100000 → k ≤ sizeLine := fun k h => Nat.le_trans h (show 100000 ≤ sizeLine by decide)
    have slC : ∀ k : Nat, k < 100000 → k < sizeLine := fun k h => Nat.lt_of_lt_of_le h (show 100000 ≤ sizeLine by decide)
    repeat walk_at "rd"
    refine w_lst1 fun p1 H1 s1 n1 h1 => ?_
    repeat walk_at "rd"
    refine w_rep h1 (by decide) (by decide) (by decide) fun pc H2 s2 n2 h2 => ?_
    rw [rep_flat] at h2
    repeat walk_at "rd"
    refine w_lc ?_
    refine w_iEnum ?_
    repeat walk_at "rd"
    have s12 := s1.trans s2
    refine w_fldI (s12 _ _ hx) T.l_Table T.n_array (tF_a _ _ _ _ _) ?_
    repeat walk_at "rd"
    refine w_iEnumI (s12 _ _ hT.arr) fun D nD => ?_
    refine lc_enum (xs := Tt.A) (fun i H' => Same H2 H' ∧ ∃ vs, H' D = some (.lst vs) ∧ KysAt CF CT Ev ((aboveL 0 (Tt.A.take i)).map (·.1)) vs) ⟨same_upd nD, [], upd_same, .nil⟩ (fun i H' _ p => p.1 _ _ (s12 _ _ hT.arr)) ?_ ?_
    · rintro i v T' H3 hi hv ⟨s3, vs3, d3, k3⟩ nT
      refine w_gtup upd_same rfl ?_
      repeat walk_at "rd"
      refine ⟨rfl, ?_⟩
      have s4 : Same H3 (upd H3 T' (.tup [.int (i : Nat), v])) := same_upd nT
      generalize upd H3 T' (.tup [.int (i : Nat), v]) = H4 at s4 ⊢
      have d4 := s4 _ _ d3
      rw [take_succ' hv, aboveL_snoc, List.length_take, Nat.min_eq_left (by omega), List.map_append, Nat.zero_add]
      repeat walk_at "rd"
      refine iN (fun c => ?_) (fun c => ?_)
      · repeat walk_at "rd"
        refine ⟨_, d4, slC _ ?_, same_put (s3.trans s4) nD, _, upd_same, ?_⟩
        · rw [k3.len, List.length_map, aboveL_len]
          have := List.countP_le_length (p := liveV) (l := Tt.A.take i)
          rw [List.length_take] at this
          omega
        · rw [one1, if_neg c]
          exact k3.app (.cons rfl .nil)
      · refine ⟨s3.trans s4, vs3, d4, ?_⟩
        rw [one1, if_pos c, List.map_nil, List.append_nil]
        exact k3
    · rintro H3 ⟨s3, vs3, d3, k3⟩
      rw [List.take_of_length_le (Nat.le_refl _)] at k3
      repeat walk_at "rd"
      refine w_lst1 fun p4 H4 s4 n4 h4 => ?_
      have lA2 : vs3.length = Tt.A.countP liveV := by
        rw [k3.len, List.length_map, aboveL_len]
      have lA3 := List.countP_le_length (p := liveV) (l := Tt.A)
      have lN3 := List.countP_le_length (p := liveN) (l := Tt.N)
      refine w_cat (s4 _ _ d3) h4 (slB _ (by rw [lA2]; show _ + 1 ≤ _; omega)) fun pk H5 s5 n5 h5 => ?_
      have s25 := (s3.trans s4).trans s5
      repeat walk_at "rd"
      refine w_bm ?_
      repeat walk_at "rd"
      refine ⟨w_tyL h5, ?_⟩
      repeat walk_at "rd"
      refine w_lc ?_
      repeat walk_at "rd"
      have s05 := s12.trans s25
      refine w_fldI (s05 _ _ hx) T.l_Table T.n_nodes (tF_n _ _ _ _ _) ?_
      refine w_iListI (s05 _ _ hT.nod) fun D2 nD2 => ?_
      refine lc_list (xs := L.map adV) (fun i H' => Same H5 H' ∧ ∃ vs, H' D2 = some (.lst vs) ∧ KysAt CF CT Ev ((nodeL (Tt.N.take i)).map (·.1)) vs) ⟨same_upd nD2, [], upd_same, .nil⟩ (fun i H' _ p => SqL.of (p.1 _ _ (s05 _ _ hT.nod))) ?_ ?_
      · rintro i v H6 hv ⟨s6, vs6, d6, k6⟩
        rw [List.getElem?_map] at hv
        cases hL : L[i]? with
        | none => rw [hL] at hv; cases hv
        | some oc =>
          rw [hL] at hv
          cases hv
          have il : i < Tt.N.length := by rw [← hT.len]; exact (List.getElem?_eq_some_iff.1 hL).1
          repeat walk_at "rd"
          refine ⟨rfl, ?_⟩
          repeat walk_at "rd"
          cases oc with
          | none =>
            have hN := hT.nns i hL
            refine iF ?_
            refine iF ?_
            refine ⟨s6, vs6, d6, ?_⟩
            rw [take_succ' hN, nodeL_snoc, one2, List.append_nil]
            exact k6
          | some c =>
            obtain ⟨c, kvc⟩ := c
            obtain ⟨nd, hN, kac, dn, hc⟩ := hT.nds i c kvc hL
            have hc6 := s6 _ _ (s05 _ _ hc)
            refine iT ?_
            repeat walk_at "rd"
            refine w_fldI hc6 T.l_Node T.n_value (nF_v _ _ _) ?_
            repeat walk_at "rd"
            rw [take_succ' hN, nodeL_snoc, one2, List.map_append]
            refine iN (fun d => ?_) (fun d => ?_)
            · repeat walk_at "rd"
              refine w_fldI hc6 T.l_Node T.n_key (nF_k _ _ _) ?_
              refine ⟨_, d6, slC _ ?_, same_put s6 nD2, _, upd_same, ?_⟩
              · rw [k6.len, List.length_map, nodeL_len]
                have := List.countP_le_length (p := liveN) (l := Tt.N.take i)
                rw [List.length_take] at this
                omega
              · rw [if_neg d]
                exact k6.app (.cons kac .nil)
            · refine ⟨s6, vs6, d6, ?_⟩
              rw [if_pos d, List.map_nil, List.append_nil]
              exact k6
      · rintro H6 ⟨s6, vs6, d6, k6⟩
        rw [List.length_map, List.take_of_length_le (by rw [hT.len]; exact Nat.le_refl _)] at k6
        have lN2 : vs6.length = Tt.N.countP liveN := by
          rw [k6.len, List.length_map, nodeL_len]
        repeat walk_at "rd"
        refine w_ext (s6 _ _ h5) d6 (slB _ (by rw [List.length_append, lA2, lN2]; show _ + 1 + _ ≤ _; omega)) ?_
        have kAll : KysAt CF CT Ev (keysM Tt k) (vs3 ++ [kv] ++ vs6) := (k3.app (.cons ka .nil)).app k6
        generalize vs3 ++ [kv] ++ vs6 = vsK at kAll
        have kl := keys_len Tt k
        have kyo : ∀ o ∈ keysM Tt k, KyOk o := fun o ho => by
          unfold keysM at ho
          rw [List.mem_append, List.mem_append] at ho
          rcases ho with (ho | ho) | ho
          · obtain ⟨kv, h1, rfl⟩ := List.mem_map.1 ho
            obtain ⟨i, h2, h3⟩ := above_mem h1
            rw [h3]
            exact ⟨by omega, by omega⟩
          · rw [List.mem_singleton] at ho
            rw [ho]
            exact kk
          · obtain ⟨kv, h1, rfl⟩ := List.mem_map.1 ho
            obtain ⟨nd, h2, h3⟩ := node_mem h1
            obtain ⟨j, hj⟩ := List.mem_iff_getElem?.1 h2
            rw [h3]
            exact ks j nd hj
        have gc := fun a => grow_cnt Tt k a
        unfold growM at q
        have b0 := best_eq (keysM Tt k) 32
        obtain ⟨b1, b2⟩ := best_ins (keysM Tt k) 32
        have il := ins_le (keysM Tt k) (bestM (keysM Tt k) 32).1
        generalize hK : keysM Tt k = ls at *
        have s06 := s05.trans s6
        have n04 : H pk = none := by
          cases e : H pk with
          | none => rfl
          | some o => rw [s4 _ _ (s3 _ _ (s12 _ _ e))] at n5; cases n5
        have n0c : H pc = none := by
          cases e : H pc with
          | none => rfl
          | some o => rw [s1 _ _ e] at n2; cases n2
        have npc : pc ≠ pk := fun z => by
          have := s4 _ _ (s3 _ _ h2)
          rw [z] at this
          rw [this] at n5
          cases n5
        have S7 : Same H (upd H6 pk (.lst vsK)) := same_put s06 n04
        have hk7 := upd_same (H := H6) (a := pk) (o := .lst vsK)
        have hc7 : upd H6 pk (.lst vsK) pc = some (.lst (List.replicate (32 : Int).toNat (.int 0))) := by
          rw [upd_ne npc]
          exact s6 _ _ (s25 _ _ h2)
        generalize upd H6 pk (.lst vsK) = H7 at S7 hk7 hc7 ⊢
        repeat walk_at "rd"
        refine w_iListI hk7 ?_
        refine for_list (xs := vsK) (fun i σ H' => ∃ z, σ = [some (.ref x), some kv, some (.ref pc), some (.ref pk), none, none, none, z, none, none] ∧ Same H H' ∧ H' pk = some (.lst vsK) ∧ H' pc = some (.lst (cntV (slots (ls.take i)) 32)))
          ⟨none, rfl, S7, hk7, by rw [hc7]; rfl⟩ (fun i σ H' _ ⟨_, _, _, h, _⟩ => SqL.of h) ?_ ?_
        · rintro i v σ H8 hv ⟨z, rfl, S8, hk8, hc8⟩
          obtain ⟨o, ho, kao⟩ := kAll.get hv
          have oo := kyo o (List.mem_of_getElem? ho)
          have stp : ∀ q, slots (ls.take (i + 1)) q = slots (ls.take i) q + if slotIs q o = true then 1 else 0 := fun q => by
            rw [take_succ' ho]
            unfold slots
            rw [List.countP_append, List.countP_cons]
            simp only [List.countP_nil, Nat.zero_add]
          have skip : (∀ q, q < 32 → slotIs q o = false) → H8 pc = some (.lst (cntV (slots (ls.take (i + 1))) 32)) := fun h => by
            rw [hc8, cntV_ext (fun q hq => show slots (ls.take i) q = slots (ls.take (i + 1)) q by rw [stp, h q hq]; rfl)]
          repeat walk_at "rd"
          refine ⟨Ev, .ky o, v, rfl, ⟨oo, kao⟩, hT.env.trans S8, ?_⟩
          repeat walk_at "rd"
          cases o with
          | nt b z => exact kao.elim
          | str zz =>
            refine iF ?_
            refine iF ?_
            repeat walk_at "rd"
            exact ⟨_, rfl, S8, hk8, skip fun q hq => rfl⟩
          | bl b =>
            refine iF ?_
            refine iF ?_
            repeat walk_at "rd"
            exact ⟨_, rfl, S8, hk8, skip fun q hq => rfl⟩
          | fl s' t q' =>
            refine iF ?_
            refine iF ?_
            repeat walk_at "rd"
            exact ⟨_, rfl, S8, hk8, skip fun q hq => rfl⟩
          | inf s' =>
            refine iF ?_
            refine iF ?_
            repeat walk_at "rd"
            exact ⟨_, rfl, S8, hk8, skip fun q hq => rfl⟩
          | ob b m' =>
            refine iF ?_
            refine iF ?_
            repeat walk_at "rd"
            exact ⟨_, rfl, S8, hk8, skip fun q hq => rfl⟩
          | int j =>
            obtain rfl : v = .int j := kao
            refine iT ?_
            repeat walk_at "rd"
            refine w_chain ?_
            repeat walk_at "rd"
            refine iD (fun c1 => ?_) (fun c1 => ?_)
            · repeat walk_at "rd"
              have ls31 := le_slot c1 31
              refine iD (fun c2 => ?_) (fun c2 => ?_)
              · have sl : Builtin.Int.intBits (j - 1) ≤ 31 := ls31.1 (by show j ≤ ((2147483648 : Nat) : Int); exact c2)
                refine w_augS ?_
                repeat walk_at "rd"
                refine ⟨pc, _, ((Builtin.Int.intBits (j - 1) : Nat) : Int), _, rfl, rfl, by omega, by omega, SqL.of hc8, by rw [Int.toNat_natCast]; exact cntV_get _ (by omega), ?_⟩
                repeat walk_at "rd"
                refine w_ip ?_
                refine ⟨pc, _, ((Builtin.Int.intBits (j - 1) : Nat) : Int), Builtin.Int.intBits (j - 1), rfl, rfl, hc8, ?_, ?_⟩
                · unfold ixN
                  rw [cntV_len, if_pos (by omega), if_pos (by omega)]
                  rfl
                rw [cntV_set (by omega)]
                repeat walk_at "rd"
                refine ⟨_, rfl, same_put S8 n0c, by rw [upd_ne (Ne.symm npc)]; exact hk8, ?_⟩
                rw [upd_same]
                refine congrArg (fun l => some (HO.lst l)) (cntV_ext fun q hq => ?_)
                rw [stp]
                rw [slotIs_int, decide_eq_true c1, Bool.true_and]
                by_cases e : q = Builtin.Int.intBits (j - 1)
                · rw [if_pos e, decide_eq_true e.symm, if_pos rfl]
                · rw [if_neg e, decide_eq_false (fun z => e z.symm), if_neg Bool.false_ne_true]
                  rfl
              · have sl : ¬ Builtin.Int.intBits (j - 1) ≤ 31 := fun z => c2 (ls31.2 z)
                repeat walk_at "rd"
                refine ⟨_, rfl, S8, hk8, skip fun q hq => ?_⟩
                rw [slotIs_int, decide_eq_true c1, Bool.true_and, decide_eq_false (fun z => sl (by omega))]
            · repeat walk_at "rd"
              refine ⟨_, rfl, S8, hk8, skip fun q hq => ?_⟩
              rw [slotIs_int, decide_eq_false c1, Bool.false_and]
        · rintro σ H8 ⟨z, rfl, S8, hk8, hc8⟩
          have ll : vsK.length = ls.length := kAll.len
          rw [ll, List.take_of_length_le (Nat.le_refl _)] at hc8
          repeat walk_at "rd"
          refine ⟨pc, slots ls, rfl, hc8, fun p => Nat.le_trans List.countP_le_length (by omega), fun q9 H9 s9 n9 h9 => ?_⟩
          rw [b0] at h9
          have gc1 := gc (bestM ls 32).1
          rw [← b1] at gc1 il
          repeat walk_at "rd"
          refine w_gtup h9 rfl ?_
          repeat walk_at "rd"
          have S9 := S8.trans s9
          refine w_methI (S9 _ _ hx) (lk_t _ _ _ _ _ (by decide +kernel)) ?_
          repeat walk_at "rd"
          refine w_lenL (s9 _ _ hk8) ?_
          rw [ll]
          repeat walk_at "rd"
          refine ⟨Ev, x, n, m, Tt, pa, pn, L, (bestM ls 32).1, ls.length - (bestM ls 32).2, ?_, hT.same S9, ks, by omega, by omega, by omega, ?_, fun H10 pa' pn' L' t10 st10 => ?_⟩
          · show _ = [V.ref x, V.int _, V.int _]
            rw [show ((ls.length - (bestM ls 32).2 : Nat) : Int) = (ls.length : Int) - ((bestM ls 32).2 : Int) by omega]
            rfl
          · exact Nat.le_trans (by omega) (powM_ge _)
          · repeat walk_at "rd"
            exact q _ _ _ _ t10 ((Stp.of_same S9).trans st10)
end
end Nu

set_option Elab.async false
set_option linter.all false
set_option maxRecDepth 100000
set_option autoImplicit false
set_option maxHeartbeats 4000000
set_option pp.maxSteps 900
namespace Nu
open PySem PySem.Spec PyProof.Rows L2 Rd Tm
local macro_rules | `(tactic| walk_at "hp") => `(tactic| first | assumption | (refine same_get ?sm ?_; (case sm => assumption); walk_at "hp"))
local macro_rules | `(tactic| walk_at "rd") => `(tactic| first
  | (with_reducible show Ends.nx _ _ _; with_reducible refine w_nx ?_)
  | with_reducible refine w_rt ?_
  | (with_reducible show Ends.bk _ _ _; with_reducible refine w_bk ?_)
  | (with_reducible show Ends.ct _ _ _; with_reducible refine w_ct ?_)
  | with_reducible refine w_seq ?_
  | with_reducible refine w_next ?_
  | with_reducible refine w_ret ?_
  | with_reducible refine w_ifS ?_
  | with_reducible refine w_asg ?_
  | with_reducible refine w_name ?_
  | with_reducible refine w_par ?_
  | with_reducible refine w_parI ?_
  | with_reducible refine w_ii ?_
  | with_reducible refine w_i1 ?_
  | with_reducible refine w_drop ?_
  | with_reducible refine w_sFld ?_
  | ((with_reducible refine' w_var ?rdh ?_); (case rdh => exact rfl))
  | with_reducible refine w_c ?_
  | with_reducible refine w_op ?_
  | with_reducible refine w_un ?_
  | with_reducible refine w_I0 ?_
  | with_reducible refine w_U ?_
  | with_reducible refine w_bits ?_
  | with_reducible refine w_bitsI ?_
  | with_reducible refine w_tup ?_
  | with_reducible refine w_lst ?_
  | with_reducible refine w_nil ?_
  | with_reducible refine w_cons ?_
  | with_reducible refine w_fld ?_
  | with_reducible refine w_call ?_
  | with_reducible refine w_make ?_
  | with_reducible refine w_gsub ?_
  | with_reducible refine w_int1 ?_
  | with_reducible refine w_intB ?_
  | with_reducible refine w_for ?_
  | with_reducible refine w_rng1 ?_
  | with_reducible refine w_iList ?_
  | with_reducible refine w_iTup ?_
  | with_reducible refine w_makeD ?_
  | with_reducible refine w_nn ?_
  | with_reducible refine w_subB ?_
  | with_reducible refine w_meth ?_
  | with_reducible refine w_cb ?_
  | with_reducible refine w_test ?_
  | with_reducible refine w_B ?_
  | with_reducible refine w_bl ?_
  | with_reducible refine w_andV ?_
  | with_reducible refine w_orV ?_
  | with_reducible refine w_notV ?_
  | with_reducible refine w_and ?_
  | with_reducible refine w_or ?_
  | with_reducible refine w_not ?_
  | with_reducible refine w_if ?_
  | with_reducible refine w_gnil ?_
  | with_reducible refine w_gcons ?_
  | with_reducible refine iT ?_
  | with_reducible refine iF ?_
  | with_reducible refine w_eqI ?_
  | with_reducible refine w_neI ?_
  | with_reducible refine w_eqS ?_
  | with_reducible refine w_eqIS ?_
  | with_reducible refine w_eqSI ?_)

theorem kys_resize {T : Tb} {a nn : Nat} (h : KysOk T.N) (hA : T.A.length ≤ 40000) (ha : a ≤ 40000) : KysOk (resizeM plS T a nn).N := by
  unfold resizeM
  refine kys_puts (kys_puts (fun j nd e => ?_) fun kv hk => ?_) fun kv hk => ?_
  · have e : (List.replicate (powM nn) (none : Option Nd))[j]? = _ := e
    rw [List.getElem?_replicate] at e
    split at e <;> cases e
  · obtain ⟨i, h1, h2⟩ := above_mem hk
    rw [List.length_drop] at h1
    rw [h2]
    exact ⟨by omega, by omega⟩
  · obtain ⟨nd, h1, h2⟩ := node_mem hk
    obtain ⟨j, hj⟩ := List.mem_iff_getElem?.1 h1
    rw [h2]
    exact h j nd hj
theorem kys_grow {T : Tb} {k : Ky} (h : KysOk T.N) (hk : KyOk k) (l : T.A.length ≤ 9000 ∧ T.N.length ≤ 9000) : KysOk (growM plS T k).N := by
  unfold growM
  refine kys_resize h (by omega) ?_
  obtain ⟨b1, b2⟩ := best_ins (keysM T k) 32
  have il := ins_le (keysM T k) (bestM (keysM T k) 32).1
  have kl := keys_len T k
  have a := List.countP_le_length (p := liveV) (l := T.A)
  have b := List.countP_le_length (p := liveN) (l := T.N)
  unfold live at kl
  omega
theorem putG_ins {T : Tb} {k : Ky} {v : V} (hi : inA T.A k = false) (hk : findM T.N k = none) (hv : v ≠ .non) (h0 : T.N ≠ []) (g : ∀ nd, T.N[plS k T.N.length]? = some (some nd) → nd.v ≠ .non → ∃ f, freeM T.N T.fr = some f) : putG plS T k v = insM plS T k v := by
  have n : needG plS T k v = false := by
    unfold needG
    rw [hi, hk, decide_eq_false hv]
    have e : T.N.isEmpty = false := by
      cases h : T.N with
      | nil => exact absurd h h0
      | cons z zs => rfl
    rw [e]
    simp only [Bool.not_false, Option.isNone_none, Bool.true_and, Bool.and_true, Bool.false_or]
    split
    · rename_i nd h1
      by_cases h2 : nd.v = .non
      · rw [decide_eq_true h2]; rfl
      · obtain ⟨f, hf⟩ := g nd h1 h2
        rw [hf]
        simp
    · rfl
  unfold putG put0
  rw [n, if_neg Bool.false_ne_true, hi, if_neg Bool.false_ne_true, hk]
  simp only
  rw [if_neg hv]
/-- what is to be known where a table grows ahead of a put -/
def KnGo {K : PySem.W.Frag} (CF CT CN : Addr) (Ev : Hp) (Qn : Hp → Prop) (x : Addr) (n m : V) (k : Ky) (v : V) (H0 : Hp) : Prop :=
  ∃ pa0 pn0 L0 T0, TA CF CT CN Ev H0 x n m T0 pa0 pn0 L0 ∧ KysOk T0.N ∧ KyOk k ∧ T0.A.length ≤ 9000 ∧ T0.N.length ≤ 9000 ∧
  ∀ H1 pa1 pn1 L1, TA CF CT CN Ev H1 x n m (growM plS T0 k) pa1 pn1 L1 → Stp x H0 pa0 pn0 L0 H1 pa1 pn1 L1 →
    ∃ T4 pa4 pn4 L4, TA CF CT CN Ev H1 x n m T4 pa4 pn4 L4 ∧ WF plS T4 ∧ KysOk T4.N ∧ needG plS T4 k v = false ∧
    ∀ H2 L2, TA CF CT CN Ev H2 x n m (put0 plS T4 k v) pa4 pn4 L2 → Stp x H1 pa4 pn4 L4 H2 pa4 pn4 L2 → Qn H2
section
variable {P : Program} {w : World} {K : PySem.W.Frag} {mg : Str → Option Value} {base : Heap} {CF CT CN CZ : Addr} {Ev : Hp}
def spNewG (CF CT CN : Addr) : Sp := fun vs H Q _ => ∃ Ev x n m T pa pn L k kv v, vs = [.ref x, kv, v] ∧ TA CF CT CN Ev H x n m T pa pn L ∧ WF plS T ∧ KysOk T.N ∧ KyOk k ∧ KeyAt CF CT Ev k kv ∧ inA T.A k = false ∧ findM T.N k = none ∧ v ≠ .non ∧ T.A.length ≤ 9000 ∧ T.N.length ≤ 9000 ∧
  ∀ H' pa' pn' L', TA CF CT CN Ev H' x n m (putG plS T k v) pa' pn' L' → Stp x H pa pn L H' pa' pn' L' → Q .non H'
theorem ok_put_newG (T : AllN K mg CF CT CN CZ) (k_place_of_tables : Kn P w K mg base CX0 3 "place_of_tables" ["key", "size"] (spPot CF CT)) (k_Node_init : KnC P w K mg base CX0 1 "Node" CN ["self", "key", "value", "link"] (spNode CN))
    (k_Table_free_place : KnM P w K mg base CX0 1 CT "free_place" ["self"] (spFree CF CT CN)) (k_Table_ahead_of : KnM P w K mg base CX0 4 CT "ahead_of" ["self", "key", "at"] (spAhead CF CT CN)) 
    (k_Table_grow : KnM P w K mg base CX0 8 CT "grow" ["self", "key"] (spGrow CF CT CN)) (k_Table_put : KnM P w K mg base CX0 6 CT "put" ["self", "key", "value"] (spPut0 CF CT CN)) :
    KnM P w K mg base CX0 9 CT "put_new" ["self", "key", "value"] (spNewG CF CT CN) := by
  refine T.x_put_new.kn fun f fd F => ?_
  refine F.ok sc_Table_put_new (fun vs H Q E h => ?_) (fun cdv A outer s H vs Q E hr h => ?_)
  · obtain ⟨Ev, x, n, m, T, pa, pn, L, k, kv, v, rfl, _⟩ := h
    rfl
  · obtain ⟨Ev, x, n, m, Tt, pa, pn, L, k, kv, v, rfl, hT, wf, ks, kk, ka, hi, hk, hv0, lA, lN, q⟩ := h
    refine ⟨_, (pss_cons (ps_if (pt_cmpR (op_eqNil hr.units64) (pe_fld (pv 0) rfl) (pe_lst pa_nil) (nomark _)) (pss_cons (ps_expr (pkM k_Table_grow T.l_Table hr (pv 0) (pa_cons (pv 1) pa_nil) rfl))
      (pss_cons (ps_expr (pkM k_Table_put T.l_Table hr (pv 0) (pa_cons (pv 1) (pa_cons (pv 2) pa_nil)) rfl))
      (pss_one ps_retN))) pss_nil)
      (pss_cons (ps_set (i := 3) sc_Table_put_new.nd rfl (Or.inl rfl) (pk k_place_of_tables hr (pa_cons (pv 1) (pa_cons (pe_callB call_len_seq (by rfl) T.b_len boot_len (pa_cons (pe_fld (pv 0) rfl) pa_nil)) pa_nil))))
      (pss_cons (ps_set (i := 4) sc_Table_put_new.nd rfl (Or.inl rfl) (pe_ix ix_list (pe_fld (pv 0) rfl) (pv 3) (fun _ _ => rfl)))
      (pss_cons (ps_if (PW.pt (pw_or (pt_cmpR op_isN (pv 4) pe_non (nomark _)) (pw_or1 (pt_cmpR op_isN (pe_fld (pv 4) rfl) pe_non (nomark _))))) (pss_cons (ps_asg (pkC k_Node_init hr (pa_cons (pv 1) (pa_cons (pv 2) (pa_cons (pe_ifExp (pt_cmpR op_isN (pv 4) pe_non (nomark _)) pe_non (pe_fld (pv 4) rfl)) pa_nil)))) (pg_sub (pe_fld (pv 0) rfl) (pv 3) set_list))
      (pss_one ps_retN)) pss_nil)
      (pss_cons (ps_set (i := 5) sc_Table_put_new.nd rfl (Or.inl rfl) (pkM0 k_Table_free_place T.l_Table hr (pv 0) rfl))
      (pss_one (ps_if (pt_cmpR op_isN (pv 5) pe_non (nomark _)) (pss_cons (ps_expr (pkM k_Table_grow T.l_Table hr (pv 0) (pa_cons (pv 1) pa_nil) rfl))
      (pss_one (ps_expr (pkM k_Table_put T.l_Table hr (pv 0) (pa_cons (pv 1) (pa_cons (pv 2) pa_nil)) rfl)))) (pss_one (ps_if (pt_cmpR op_eq (pk k_place_of_tables hr (pa_cons (pe_fld (pv 4) rfl) (pa_cons (pe_callB call_len_seq (by rfl) T.b_len boot_len (pa_cons (pe_fld (pv 0) rfl) pa_nil)) pa_nil))) (pv 3) (nomark _)) (pss_cons (ps_asg (pkC k_Node_init hr (pa_cons (pv 1) (pa_cons (pv 2) (pa_cons (pe_fld (pv 4) rfl) pa_nil)))) (pg_sub (pe_fld (pv 0) rfl) (pv 5) set_list))
      (pss_one (ps_fld (pv 4) (pv 5) rfl))) (pss_cons (ps_fld (pe_ix ix_list (pe_fld (pv 0) rfl) (pkM k_Table_ahead_of T.l_Table hr (pv 0) (pa_cons (pe_fld (pv 4) rfl) (pa_cons (pv 3) pa_nil)) rfl) (fun _ _ => rfl)) (pv 5) rfl)
      (pss_cons (ps_asg (pv 4) (pg_sub (pe_fld (pv 0) rfl) (pv 5) set_list))
      (pss_one (ps_asg (pkC k_Node_init hr (pa_cons (pv 1) (pa_cons (pv 2) (pa_cons pe_non pa_nil)))) (pg_sub (pe_fld (pv 0) rfl) (pv 3) set_list)))))))))))))), ?_⟩
    obtain ⟨dx, hx⟩ := hT.ins
    have grown : ∀ {H0 : Hp} {pa0 pn0 : Addr} {L0 : List (Option (Addr × V))} {f0 : Nat}, TA CF CT CN Ev H0 x n m { Tt with fr := f0 } pa0 pn0 L0 → needG plS Tt k v = true → Stp x H pa pn L H0 pa0 pn0 L0 → KnGo (K := K) CF CT CN Ev (Q .non) x n m k v H0 := fun {H0 pa0 pn0 L0 f0} t0 g0 st0 => by
      refine ⟨pa0, pn0, L0, { Tt with fr := f0 }, t0, ks, kk, lA, lN, fun H1 pa1 pn1 L1 t1 st1 => ?_⟩
      obtain ⟨wg, og, _⟩ := grow_ok (pl := plS) (T := Tt) (k := k) plS_lt
      refine ⟨_, pa1, pn1, L1, t1, wg, kys_grow ks kk ⟨lA, lN⟩, (put0_ok (v := v) plS_lt wg og).1, fun H2 L2 t2 st2 => ?_⟩
      refine q H2 pa1 pn1 L2 ?_ ((st0.trans st1).trans st2)
      unfold putG
      rw [if_pos g0]
      exact t2
    repeat walk_at "rd"
    refine w_fldI hx T.l_Table T.n_nodes (tF_n _ _ _ _ _) ?_
    repeat walk_at "rd"
    refine w_lst0 fun p1 H1 s1 n1 h1 => ?_
    refine w_eqNil (SqL.of (s1 _ _ hT.nod)) h1 ?_
    repeat walk_at "rd"
    refine iB (fun c => ?_) (fun c0 => ?_)
    · have e0 := hT.nil c
      obtain ⟨pa0, pn0, L0, T0, t0, ks0, kk0, lA0, lN0, go⟩ := grown (f0 := Tt.fr) (hT.same s1) (by unfold needG; rw [hi, hk, decide_eq_false hv0, e0]; rfl) (.of_same s1)
      obtain ⟨dx0, x0⟩ := t0.ins
      repeat walk_at "rd"
      refine w_methI x0 (lk_t _ _ _ _ _ (by decide +kernel)) ?_
      repeat walk_at "rd"
      refine ⟨Ev, x, n, m, T0, pa0, pn0, L0, k, kv, rfl, t0, ks0, kk0, ka, lA0, lN0, fun H3 pa3 pn3 L3 t3 st3 => ?_⟩
      obtain ⟨T4, pa4, pn4, L4, t4, w4, ks4, g4, go4⟩ := go H3 pa3 pn3 L3 t3 st3
      obtain ⟨dx4, x4⟩ := t4.ins
      repeat walk_at "rd"
      refine w_methI x4 (lk_t _ _ _ _ _ (by decide +kernel)) ?_
      repeat walk_at "rd"
      refine ⟨Ev, x, n, m, T4, pa4, pn4, L4, k, kv, v, rfl, t4, w4, ks4, kk, ka, g4, fun H5 L5 t5 st5 => ?_⟩
      repeat walk_at "rd"
      exact go4 H5 L5 t5 st5
    have h0 : Tt.N ≠ [] := fun z => absurd (hT.nil2 z) (by rw [c0]; decide)
    have n0 : 0 < Tt.N.length := List.length_pos_iff.2 h0
    have al := plS_lt k _ n0
    have qg : (∀ nd, Tt.N[plS k Tt.N.length]? = some (some nd) → nd.v ≠ .non → ∃ f, freeM Tt.N Tt.fr = some f) → ∀ H' L', TA CF CT CN Ev H' x n m (insM plS Tt k v) pa pn L' → Stp x H pa pn L H' pa pn L' → Q .non H' := fun g H' L' t1 st => by
      refine q H' pa pn L' ?_ st
      rw [putG_ins hi hk hv0 h0 g]
      exact t1
    have ng : ∀ nd, Tt.N[plS k Tt.N.length]? = some (some nd) → nd.v ≠ .non → freeM Tt.N Tt.fr = none → needG plS Tt k v = true := fun nd h1 h2 h3 => by
      unfold needG
      rw [hi, hk, decide_eq_false hv0, h1, h3]
      simp [h2]
    repeat walk_at "rd"
    refine w_fldI (s1 _ _ hx) T.l_Table T.n_nodes (tF_n _ _ _ _ _) ?_
    repeat walk_at "rd"
    refine w_lenL (s1 _ _ hT.nod) ?_
    repeat walk_at "rd"
    refine ⟨Ev, k, kv, Tt.N.length, by rw [List.length_map, hT.len]; rfl, kk, ka, hT.env.trans s1, n0, ?_⟩
    repeat walk_at "rd"
    refine w_fldI (s1 _ _ hx) T.l_Table T.n_nodes (tF_n _ _ _ _ _) ?_
    repeat walk_at "rd"
    have hT1 := hT.same s1
    have st1 : Stp x H pa pn L H1 pa pn L := .of_same s1
    unfold insM at qg
    generalize ea : plS k Tt.N.length = a at al qg ng ⊢
    obtain ⟨o, ho⟩ : ∃ o, Tt.N[a]? = some o := ⟨_, List.getElem?_eq_getElem al⟩
    cases o with
    | none =>
      have q := qg (fun nd2 h2 => by rw [ho] at h2; cases h2)
      simp only [ho] at q
      refine w_ixL (i := (a : Int)) hT1.nod (hT1.ix (hT1.hole ho)) ?_
      repeat walk_at "rd"
      refine iT ?_
      repeat walk_at "rd"
      refine iT ?_
      repeat walk_at "rd"
      refine u_Node fun b H2 dn s2 nb hb => ?_
      repeat walk_at "rd"
      refine w_fldI (s2 _ _ (s1 _ _ hx)) T.l_Table T.n_nodes (tF_n _ _ _ _ _) ?_
      repeat walk_at "rd"
      obtain ⟨t1, t2⟩ := hT1.put s2 (nd := ⟨k, v, none⟩) nb ka ⟨dn, hb⟩ al T.ne_TN
      refine ⟨pn, _, (a : Int), a, rfl, rfl, s2 _ _ hT1.nod, ?_, ?_⟩
      · unfold ixN
        rw [List.length_map, hT.len, if_pos (by omega), if_pos (by omega)]
        rfl
      rw [show (V.ref b) = adV (some (b, kv)) from rfl, mapSet]
      repeat walk_at "rd"
      exact q _ _ t1 (st1.trans t2)
    | some nd =>
      obtain ⟨c, kvc, hc, kac, dn, hn⟩ := hT1.node ho
      refine w_ixL (i := (a : Int)) hT1.nod (hT1.ix hc) ?_
      repeat walk_at "rd"
      refine iF ?_
      repeat walk_at "rd"
      refine w_fldI hn T.l_Node T.n_value (nF_v _ _ _) ?_
      repeat walk_at "rd"
      refine iD (fun hv => ?_) (fun hv => ?_)
      · have q := qg (fun nd2 h2 h3 => by rw [ho] at h2; cases h2; exact absurd hv h3)
        simp only [ho] at q
        rw [if_pos hv] at q
        repeat walk_at "rd"
        refine iF ?_
        repeat walk_at "rd"
        refine w_fldI hn T.l_Node T.n_link (nF_l _ _ _) ?_
        repeat walk_at "rd"
        refine u_Node fun b H2 dn2 s2 nb hb => ?_
        repeat walk_at "rd"
        refine w_fldI (s2 _ _ (s1 _ _ hx)) T.l_Table T.n_nodes (tF_n _ _ _ _ _) ?_
        repeat walk_at "rd"
        obtain ⟨t1, t2⟩ := hT1.put s2 (nd := ⟨k, v, nd.l⟩) nb ka ⟨dn2, hb⟩ al T.ne_TN
        refine ⟨pn, _, (a : Int), a, rfl, rfl, s2 _ _ hT1.nod, ?_, ?_⟩
        · unfold ixN
          rw [List.length_map, hT.len, if_pos (by omega), if_pos (by omega)]
          rfl
        rw [show (V.ref b) = adV (some (b, kv)) from rfl, mapSet]
        repeat walk_at "rd"
        exact q _ _ t1 (st1.trans t2)
      · repeat walk_at "rd"
        refine w_methI (s1 _ _ hx) (lk_t _ _ _ _ _ (by decide +kernel)) ?_
        repeat walk_at "rd"
        refine ⟨Ev, x, n, m, Tt, pa, pn, L, rfl, hT1, wf.fr, fun H2 o2 x2 => ?_⟩
        cases hf : freeM Tt.N Tt.fr with
        | none =>
          rw [hf] at x2
          have hT2 := hT1.free o2 x2 T.ne_TN
          obtain ⟨pa0, pn0, L0, T0, t0, ks0, kk0, lA0, lN0, go⟩ := grown hT2 (ng nd ho hv hf) (st1.trans (.of_oth o2))
          obtain ⟨dx0, x0⟩ := t0.ins
          repeat walk_at "rd"
          refine iT ?_
          repeat walk_at "rd"
          refine w_methI x0 (lk_t _ _ _ _ _ (by decide +kernel)) ?_
          repeat walk_at "rd"
          refine ⟨Ev, x, n, m, T0, pa0, pn0, L0, k, kv, rfl, t0, ks0, kk0, ka, lA0, lN0, fun H3 pa3 pn3 L3 t3 st3 => ?_⟩
          obtain ⟨T4, pa4, pn4, L4, t4, w4, ks4, g4, go4⟩ := go H3 pa3 pn3 L3 t3 st3
          obtain ⟨dx4, x4⟩ := t4.ins
          repeat walk_at "rd"
          refine w_methI x4 (lk_t _ _ _ _ _ (by decide +kernel)) ?_
          repeat walk_at "rd"
          refine ⟨Ev, x, n, m, T4, pa4, pn4, L4, k, kv, v, rfl, t4, w4, ks4, kk, ka, g4, fun H5 L5 t5 st5 => ?_⟩
          repeat walk_at "rd"
          exact go4 H5 L5 t5 st5
        | some f =>
        have q := qg (fun nd2 h2 h3 => ⟨f, hf⟩)
        simp only [ho] at q
        rw [if_neg hv] at q
        obtain ⟨f1, f2, f3⟩ := freeM_some hf
        have fl : f < Tt.N.length := (List.getElem?_eq_some_iff.1 f2).1
        have af : a ≠ f := fun z => by rw [z, f2] at ho; cases ho
        simp only [hf] at q
        rw [hf] at x2
        have hT2 := hT1.free o2 x2 T.ne_TN
        have st2 := st1.trans (.of_oth (pa := pa) (pn := pn) (L := L) o2)
        obtain ⟨dx2, x2⟩ := x2
        obtain ⟨c2, kvc2, hc2, kac2, dn2, hn2⟩ := hT2.node (j := a) ho
        rw [hc] at hc2
        cases hc2
        have nlen : (L.map adV).length = Tt.N.length := by rw [List.length_map, hT.len]
        repeat walk_at "rd"
        refine iF ?_
        repeat walk_at "rd"
        refine w_fldI hn2 T.l_Node T.n_key (nF_k _ _ _) ?_
        repeat walk_at "rd"
        refine w_fldI x2 T.l_Table T.n_nodes (tF_n _ _ _ _ _) ?_
        repeat walk_at "rd"
        refine w_lenL hT2.nod ?_
        repeat walk_at "rd"
        refine ⟨Ev, nd.k, kvc, Tt.N.length, by rw [nlen]; rfl, ks a nd ho, kac, hT2.env, n0, ?_⟩
        repeat walk_at "rd"
        refine iD (fun hh => ?_) (fun hh => ?_)
        · rw [if_pos (by omega)] at q
          repeat walk_at "rd"
          refine w_fldI hn2 T.l_Node T.n_link (nF_l _ _ _) ?_
          repeat walk_at "rd"
          refine u_Node fun b H3 dn3 s3 nb hb => ?_
          repeat walk_at "rd"
          refine w_fldI (s3 _ _ x2) T.l_Table T.n_nodes (tF_n _ _ _ _ _) ?_
          repeat walk_at "rd"
          obtain ⟨t1, t2⟩ := hT2.put s3 (a := f) (nd := ⟨k, v, nd.l⟩) nb ka ⟨dn3, hb⟩ fl T.ne_TN
          refine ⟨pn, _, (f : Int), f, rfl, rfl, s3 _ _ hT2.nod, ?_, ?_⟩
          · unfold ixN
            rw [nlen, if_pos (by omega), if_pos (by omega)]
            rfl
          rw [show (V.ref b) = adV (some (b, kv)) from rfl, mapSet]
          have hca : (L.set f (some (b, kv)))[a]? = some (some (c, kvc)) := by rw [List.getElem?_set_ne af.symm]; exact hc
          obtain ⟨nd4, g4, ka4, dn4, hn4⟩ := t1.nds a c kvc hca
          have g4 : (Tt.N.set f _)[a]? = _ := g4
          rw [set_at fl, if_neg af, ho] at g4
          cases g4
          obtain ⟨t3, t4⟩ := t1.renode T.ne_TN (nd' := { nd with l := some f }) hca hn4 kac
          repeat walk_at "rd"
          refine w_sfI hn4 T.l_Node T.n_link (by show 4 < 1000; decide) ?_
          repeat walk_at "rd"
          exact q _ _ t3 ((st2.trans t2).trans t4)
        · rw [if_neg (by omega)] at q
          have hh' : plS nd.k Tt.N.length ≠ a := by omega
          obtain ⟨p, hp⟩ := ahead_is (k := k) wf ho hh'
          obtain ⟨ndp, p1, p2⟩ := aheadM_some hp
          have pl : p < Tt.N.length := (List.getElem?_eq_some_iff.1 p1).1
          have pf : p ≠ f := fun z => by rw [z, f2] at p1; cases p1
          have pa' : p ≠ a := fun z => by
            obtain ⟨rk, hr2⟩ := wf.g.link
            have := (hr2 p ndp a p1 p2).1
            rw [z] at this
            omega
          have sp : setL (Tt.N[p]?.getD none) (some f) = some { ndp with l := some f } := by rw [p1]; rfl
          simp only [hp, sp] at q
          obtain ⟨cp, kvp, hcp, kap, dnp, hnp⟩ := hT2.node (j := p) p1
          repeat walk_at "rd"
          refine w_fldI x2 T.l_Table T.n_nodes (tF_n _ _ _ _ _) ?_
          repeat walk_at "rd"
          refine w_methI x2 (lk_t _ _ _ _ _ (by decide +kernel)) ?_
          repeat walk_at "rd"
          refine w_fldI hn2 T.l_Node T.n_key (nF_k _ _ _) ?_
          repeat walk_at "rd"
          refine ⟨Ev, x, n, m, { Tt with fr := f }, pa, pn, L, nd, kvc, a, p, rfl, ks a nd ho, kac, hT2, wf.g, ho, hh', hp, ?_⟩
          repeat walk_at "rd"
          refine w_ixL (i := (p : Int)) hT2.nod (hT2.ix hcp) ?_
          repeat walk_at "rd"
          refine w_sfI hnp T.l_Node T.n_link (by show 4 < 1000; decide) ?_
          obtain ⟨t1, t2⟩ := hT2.renode T.ne_TN (nd' := { ndp with l := some f }) hcp hnp kap
          rw [nF_pl]
          have t1 : TA CF CT CN Ev (upd H2 cp (.ins CN dnp (nF kvp ndp.v (lnV (some f))))) x n m ⟨Tt.A, Tt.N.set p (some { ndp with l := some f }), f⟩ pa pn L := t1
          have t2 : Stp x H2 pa pn L (upd H2 cp (.ins CN dnp (nF kvp ndp.v (lnV (some f))))) pa pn L := t2
          generalize upd H2 cp (.ins CN dnp (nF kvp ndp.v (lnV (some f)))) = H3 at t1 t2 ⊢
          obtain ⟨dx3, x3⟩ := t1.ins
          repeat walk_at "rd"
          refine w_fldI x3 T.l_Table T.n_nodes (tF_n _ _ _ _ _) ?_
          repeat walk_at "rd"
          refine ⟨pn, _, (f : Int), f, rfl, rfl, t1.nod, ?_, ?_⟩
          · unfold ixN
            rw [nlen, if_pos (by omega), if_pos (by omega)]
            rfl
          rw [mapSet]
          repeat walk_at "rd"
          refine u_Node fun b H5 dn5 s5 nb hb => ?_
          have nbp : b ≠ pn := fun z => by rw [z, upd_same] at nb; cases nb
          rw [upd_ne nbp] at nb
          have x5 : H5 x = _ := s5 _ _ (by rw [upd_ne (ne_of x3 t1.nod (by intro z; cases z))]; exact x3)
          have n5 : H5 pn = _ := s5 _ _ upd_same
          obtain ⟨t3, t4⟩ := t1.shift (a := a) (f := f) (nd := ⟨k, v, none⟩) (nd0 := nd) hc (by
            show (Tt.N.set p _)[f]? = _
            rw [set_at pl, if_neg pf.symm]
            exact f2) (by
            show (Tt.N.set p _)[a]? = _
            rw [set_at pl, if_neg pa'.symm]
            exact ho) s5 nb ka ⟨dn5, hb⟩ T.ne_TN
          repeat walk_at "rd"
          refine w_fldI x5 T.l_Table T.n_nodes (tF_n _ _ _ _ _) ?_
          repeat walk_at "rd"
          refine ⟨pn, _, (a : Int), a, rfl, rfl, n5, ?_, ?_⟩
          · unfold ixN
            rw [List.length_map, List.length_set, hT.len, if_pos (by omega), if_pos (by omega)]
            rfl
          rw [show (V.ref b) = adV (some (b, kv)) from rfl, mapSet]
          exact q _ _ t3 ((st2.trans t2).trans t4)
end
end Nu

set_option Elab.async false
set_option linter.all false
set_option maxRecDepth 100000
set_option autoImplicit false
set_option maxHeartbeats 4000000
set_option pp.maxSteps 900
namespace Nu
open PySem PySem.Spec PyProof.Rows L2 Rd Tm
local macro_rules | `(tactic| walk_at "hp") => `(tactic| first | assumption | (refine same_get ?sm ?_; (case sm => assumption); walk_at "hp"))
local macro_rules | `(tactic| walk_at "rd") => `(tactic| first
  | (with_reducible show Ends.nx _ _ _; with_reducible refine w_nx ?_)
  | with_reducible refine w_rt ?_
  | (with_reducible show Ends.bk _ _ _; with_reducible refine w_bk ?_)
  | (with_reducible show Ends.ct _ _ _; with_reducible refine w_ct ?_)
  | with_reducible refine w_seq ?_
  | with_reducible refine w_next ?_
  | with_reducible refine w_ret ?_
  | with_reducible refine w_ifS ?_
  | with_reducible refine w_asg ?_
  | with_reducible refine w_name ?_
  | with_reducible refine w_par ?_
  | with_reducible refine w_parI ?_
  | with_reducible refine w_ii ?_
  | with_reducible refine w_i1 ?_
  | with_reducible refine w_drop ?_
  | with_reducible refine w_sFld ?_
  | ((with_reducible refine' w_var ?rdh ?_); (case rdh => exact rfl))
  | with_reducible refine w_c ?_
  | with_reducible refine w_op ?_
  | with_reducible refine w_un ?_
  | with_reducible refine w_I0 ?_
  | with_reducible refine w_U ?_
  | with_reducible refine w_bits ?_
  | with_reducible refine w_bitsI ?_
  | with_reducible refine w_tup ?_
  | with_reducible refine w_lst ?_
  | with_reducible refine w_nil ?_
  | with_reducible refine w_cons ?_
  | with_reducible refine w_fld ?_
  | with_reducible refine w_call ?_
  | with_reducible refine w_make ?_
  | with_reducible refine w_gsub ?_
  | with_reducible refine w_int1 ?_
  | with_reducible refine w_intB ?_
  | with_reducible refine w_for ?_
  | with_reducible refine w_rng1 ?_
  | with_reducible refine w_iList ?_
  | with_reducible refine w_iTup ?_
  | with_reducible refine w_makeD ?_
  | with_reducible refine w_nn ?_
  | with_reducible refine w_subB ?_
  | with_reducible refine w_meth ?_
  | with_reducible refine w_cb ?_
  | with_reducible refine w_test ?_
  | with_reducible refine w_B ?_
  | with_reducible refine w_bl ?_
  | with_reducible refine w_andV ?_
  | with_reducible refine w_orV ?_
  | with_reducible refine w_notV ?_
  | with_reducible refine w_and ?_
  | with_reducible refine w_or ?_
  | with_reducible refine w_not ?_
  | with_reducible refine w_if ?_
  | with_reducible refine w_gnil ?_
  | with_reducible refine w_gcons ?_
  | with_reducible refine iT ?_
  | with_reducible refine iF ?_
  | with_reducible refine w_eqI ?_
  | with_reducible refine w_neI ?_
  | with_reducible refine w_eqS ?_
  | with_reducible refine w_eqIS ?_
  | with_reducible refine w_eqSI ?_)

section
variable {P : Program} {w : World} {K : PySem.W.Frag} {mg : Str → Option Value} {base : Heap} {CF CT CN CZ : Addr} {Ev : Hp}
def spPutG (CF CT CN : Addr) : Sp := fun vs H Q _ => ∃ Ev x n m T pa pn L r k kv v, vs = [.ref x, kv, v] ∧ TA CF CT CN Ev H x n m T pa pn L ∧ WF plS T ∧ KysOk T.N ∧ RwAt CF CT Ev r kv ∧ r.pl = some k ∧ T.A.length ≤ 9000 ∧ T.N.length ≤ 9000 ∧
  ∀ H' pa' pn' L', TA CF CT CN Ev H' x n m (putG plS T k v) pa' pn' L' → Stp x H pa pn L H' pa' pn' L' → (v = .non ∨ inA T.A k = true ∨ findM T.N k ≠ none → L' = L) → Q .non H'
theorem fn_putG (T : AllN K mg CF CT CN CZ) (k_plain_key : Kn P w K mg base CX0 3 "plain_key" ["key"] (spPlk CF CT)) (k_is_nan : Kn P w K mg base CX0 1 "is_nan" ["key"] (spNan CF CT)) (k_Table_is_inside : KnM P w K mg base CX0 2 CT "is_inside" ["self", "key"] (spInside CF CT CN)) (k_Table_find : KnM P w K mg base CX0 5 CT "find" ["self", "key", "with_dead"] (spFind CF CT CN))
    (k_Table_put_new : KnM P w K mg base CX0 9 CT "put_new" ["self", "key", "value"] (spNewG CF CT CN))
    {f : Addr} {fd : FuncData} (F : Fun K "put" "Table.put" s_Table_put f fd) : FnOk P w K mg base CX0 10 f fd ["self", "key", "value"] (spPutG CF CT CN) := by
  refine F.ok sc_Table_put (fun vs H Q E h => ?_) (fun cdv A outer s H vs Q E hr h => ?_)
  · obtain ⟨Ev, x, n, m, T, pa, pn, L, r, k, kv, v, rfl, _⟩ := h
    rfl
  · obtain ⟨Ev, x, n, m, Tt, pa, pn, L, r, k, kv0, v, rfl, hT, wf, ks, ra, er, lA, lN, q⟩ := h
    refine ⟨_, (pss_cons (ps_set (i := 1) sc_Table_put.nd rfl (Or.inl rfl) (pk k_plain_key hr (pa_cons (pv 1) pa_nil)))
      (pss_cons (ps_if (pt_val (pkM k_Table_is_inside T.l_Table hr (pv 0) (pa_cons (pv 1) pa_nil) rfl)) (pss_cons (ps_asg (pv 2) (pg_sub (pe_fld (pv 0) rfl) (pe_op op_sub (pv 1) pe_int) set_list))
      (pss_one ps_retN)) pss_nil)
      (pss_cons (ps_if (pt_cmpR op_isN (pv 1) pe_non (nomark _)) (pss_one ps_never) pss_nil)
      (pss_cons (ps_if (pt_val (pk k_is_nan hr (pa_cons (pv 1) pa_nil))) (pss_one ps_never) pss_nil)
      (pss_cons (ps_set (i := 3) sc_Table_put.nd rfl (Or.inl rfl) (pkM k_Table_find T.l_Table hr (pv 0) (pa_cons (pv 1) (pa_cons pe_bl pa_nil)) rfl))
      (pss_one (ps_if (pt_cmpR op_notN (pv 3) pe_non (nomark _)) (pss_one (ps_fld (pe_ix ix_list (pe_fld (pv 0) rfl) (pv 3) (fun _ _ => rfl)) (pv 2) rfl)) (pss_one (ps_if (pt_cmpR op_notN (pv 2) pe_non (nomark _)) (pss_one (ps_expr (pkM k_Table_put_new T.l_Table hr (pv 0) (pa_cons (pv 1) (pa_cons (pv 2) pa_nil)) rfl))) pss_nil))))))))), ?_⟩
    obtain ⟨dx, hx⟩ := hT.ins
    repeat walk_at "rd"
    refine ⟨Ev, r, kv0, rfl, ra, hT.env, fun kv H0 s0 pk => ?_⟩
    obtain ⟨kk, ka⟩ := pk.key er
    have inK : inR Tt.A r = inA Tt.A k := by unfold inR; rw [er]
    replace hT := hT.same s0
    replace hx := s0 _ _ hx
    replace q := fun H' pa' pn' L' t (st : Stp x H0 pa pn L H' pa' pn' L') g => q H' pa' pn' L' t ((Stp.of_same (pa := pa) (pn := pn) (L := L) s0).trans st) g
    repeat walk_at "rd"
    refine w_methI hx (lk_t _ _ _ _ _ (by decide +kernel)) ?_
    repeat walk_at "rd"
    refine ⟨Ev, x, n, m, Tt, pa, pn, L, r, kv, rfl, hT, pk, ?_⟩
    rw [inK]
    repeat walk_at "rd"
    have q0 : needG plS Tt k v = false → ∀ H', TA CF CT CN Ev H' x n m (put0 plS Tt k v) pa pn L → Stp x H0 pa pn L H' pa pn L → Q .non H' := fun g H' t1 st => by
      refine q H' pa pn L ?_ st fun _ => rfl
      unfold putG
      rw [g, if_neg Bool.false_ne_true]
      exact t1
    unfold put0 at q0
    refine iB (fun c => ?_) (fun c => ?_)
    · have q := q0 (by unfold needG; rw [c]; rfl)
      rw [if_pos c] at q
      cases k with
      | str z => cases c
      | bl b => cases c
      | fl s t p => cases c
      | inf s => cases c
      | ob a m => cases c
      | nt a z => cases c
      | int i =>
        obtain rfl : kv = .int i := ka
        have c' : 1 ≤ i ∧ i ≤ Tt.A.length := by
          have c : (decide (1 ≤ i) && decide (i ≤ Tt.A.length)) = true := c
          simpa using c
        repeat walk_at "rd"
        refine w_fldI hx T.l_Table T.n_array (tF_a _ _ _ _ _) ?_
        repeat walk_at "rd"
        refine ⟨pa, _, i - 1, (i - 1).toNat, rfl, rfl, hT.arr, ?_, ?_⟩
        · unfold ixN
          rw [if_pos (by omega), if_pos (by omega)]
        repeat walk_at "rd"
        obtain ⟨t1, t2⟩ := hT.arrput (A' := Tt.A.set (i - 1).toNat v)
        exact q _ t1 t2
    · rw [if_neg (by rw [c]; decide)] at q0
      repeat walk_at "rd"
      rw [kv_nn ka]
      refine iF ?_
      repeat walk_at "rd"
      have nn : r.isN = false := by
        cases r with
        | nan => cases er
        | ky k => rfl
        | wh i => rfl
        | nil => rfl
      refine ⟨Ev, r, kv, rfl, pk, hT.env, ?_⟩
      rw [nn]
      repeat walk_at "rd"
      refine w_methI hx (lk_t _ _ _ _ _ (by decide +kernel)) ?_
      repeat walk_at "rd"
      refine ⟨Ev, x, n, m, Tt, pa, pn, L, k, kv, false, rfl, hT, wf, ks, kk, ka, fun H1 s1 => ?_⟩
      have hT1 := hT.same s1
      have st1 : Stp x H0 pa pn L H1 pa pn L := .of_same s1
      repeat walk_at "rd"
      cases hf : findM Tt.N k with
      | some j =>
        have q := q0 (by unfold needG; rw [c, hf]; rfl)
        simp only [hf] at q
        obtain ⟨nd, hj, hk⟩ := findM_some hf
        obtain ⟨a, kva, ha, kaa, dn, hn⟩ := hT1.node hj
        refine iN (fun _ => ?_) (fun z => nomatch z)
        repeat walk_at "rd"
        refine w_fldI (s1 _ _ hx) T.l_Table T.n_nodes (tF_n _ _ _ _ _) ?_
        repeat walk_at "rd"
        refine w_ixL (i := (j : Int)) hT1.nod (hT1.ix ha) ?_
        obtain ⟨t1, t2⟩ := hT1.renode T.ne_TN (nd' := { nd with v := v }) ha hn kaa
        refine w_sfI hn T.l_Node T.n_value (by show 4 < 1000; decide) ?_
        repeat walk_at "rd"
        rw [mod_set hj] at q
        exact q _ t1 (st1.trans t2)
      | none =>
        refine iN (fun z => absurd rfl z) (fun _ => ?_)
        repeat walk_at "rd"
        refine iN (fun hv => ?_) (fun hv => ?_)
        · repeat walk_at "rd"
          refine w_methI (s1 _ _ hx) (lk_t _ _ _ _ _ (by decide +kernel)) ?_
          repeat walk_at "rd"
          refine ⟨Ev, x, n, m, Tt, pa, pn, L, k, kv, v, rfl, hT1, wf, ks, kk, ka, c, hf, hv, lA, lN, fun H2 pa2 pn2 L2 t1 t2 => ?_⟩
          repeat walk_at "rd"
          exact q _ _ _ _ t1 (st1.trans t2) fun z => by
            rcases z with z | z | z
            · exact absurd z hv
            · rw [c] at z; cases z
            · exact absurd hf z
        · have q := q0 (by unfold needG; rw [hv]; simp)
          simp only [hf] at q
          rw [if_pos hv] at q
          repeat walk_at "rd"
          exact q _ hT1 st1
theorem kbn_put {f : Addr} {fd : FuncData} (F : Fun K "put" "Table.put" s_Table_put f fd) : KBn K fd ["self", "key", "value"] 2 ["value"] (fun us ws => us ++ ws) (fun vs zs => vs ++ zs) := by
  obtain ⟨oc, od, kV, doc, pm, an, cdv, ct, osl, rfl, lk, hcd⟩ := F.ex
  exact ⟨fun s us ws X l1 l2 => match us, ws, l1, l2 with | [a, b], [c], _, _ => .of_eq rfl, fun a b => vals_app a b⟩
/-! ### a new table -/
def spTab (CF CT CN : Addr) : Sp := fun vs H Q _ => ∃ x dx, ∃ n : V, ∃ a nn : Nat, ∃ m : V, vs = [.ref x, n, .int a, .int nn, m] ∧ H x = some (.ins CT dx []) ∧ a ≤ 9000 ∧ nn ≤ 4500 ∧
  ∀ H' pa pn, Oth x H H' → (∀ b, b = pa ∨ b = pn → H b = none) → (∀ Ev, TC CF CT CN Ev H' x n m ⟨List.replicate a .non, List.replicate (powM nn) none, powM nn⟩ pa pn (List.replicate (powM nn) none)) → Q .non H'
theorem sc_Table_init : FnScope ["self", "number", "array", "nodes", "meta"] ["self", "number", "array", "nodes", "meta"] (defScope s_Table_init) := ⟨rfl, rfl, rfl, by decide +kernel, rfl, by decide +kernel, by decide +kernel⟩
theorem ok_Table (T : AllN K mg CF CT CN CZ) (k_power_for : Kn P w K mg base CX0 1 "power_for" ["count"] spPow) {f : Addr} {fd : FuncData} {dvs : List V} {kws : List (Str × V)} (F : FunD K "__init__" "Table.__init__" (defArgs s_Table_init) (defBody s_Table_init) (defScope s_Table_init) dvs kws f fd) :
    FnOk P w K mg base CX0 2 f fd ["self", "number", "array", "nodes", "meta"] (spTab CF CT CN) := by
  refine F.ok sc_Table_init (fun vs H Q E h => ?_) (fun cdv A outer s H vs Q E hr h => ?_)
  · obtain ⟨x, dx, n, a, nn, m, rfl, _⟩ := h
    rfl
  · obtain ⟨x, dx, n, a, nn, m, rfl, hx, la, ln, q⟩ := h
    refine ⟨_, PSs.nox ((pss_cons (ps_fld (pv 0) (pv 1) rfl)
      (pss_cons (ps_fld (pv 0) (pv 4) rfl)
      (pss_cons (ps_fld (pv 0) (pe_op op_rep (pe_lst (pa_cons pe_non pa_nil)) (pv 2)) rfl)
      (pss_cons (ps_fld (pv 0) (pe_op op_rep (pe_lst (pa_cons pe_non pa_nil)) (pk k_power_for hr (pa_cons (pv 3) pa_nil))) rfl)
      (pss_one (ps_fld (pv 0) (pe_callB call_len_seq (by rfl) T.b_len boot_len (pa_cons (pe_fld (pv 0) rfl) pa_nil)) rfl))))))), ?_⟩
    have pw := powM_le nn
    have slB : ∀ k : Nat, k ≤ 100000 → 1 * k ≤ sizeLine := fun k h => Nat.le_trans (by omega) (show 100000 ≤ sizeLine by decide)
    repeat walk_at "rd"
    refine w_sfI hx T.l_Table T.n_number (by decide) ?_
    repeat walk_at "rd"
    refine w_sfI upd_same T.l_Table T.n_meta (by show 1 < 1000; decide) ?_
    have o1 : Oth x H (upd (upd H x (.ins CT dx (putF "number" n []))) x (.ins CT dx (putF "meta" m (putF "number" n [])))) := Oth.refl.put.put
    have x1 : upd (upd H x (.ins CT dx (putF "number" n []))) x (.ins CT dx (putF "meta" m (putF "number" n []))) x = some (.ins CT dx [("number", n), ("meta", m)]) := upd_same
    have back1 : ∀ b, upd (upd H x (.ins CT dx (putF "number" n []))) x (.ins CT dx (putF "meta" m (putF "number" n []))) b = none → H b = none := fun b e => by
      cases e2 : H b with
      | none => rfl
      | some o =>
        by_cases c : b = x
        · subst c; rw [upd_same] at e; cases e
        · rw [o1 b o c e2] at e; cases e
    generalize upd (upd H x (.ins CT dx (putF "number" n []))) x (.ins CT dx (putF "meta" m (putF "number" n []))) = H1 at o1 x1 back1 ⊢
    repeat walk_at "rd"
    refine w_lst1 fun p2 H2 s2 n2 h2 => ?_
    repeat walk_at "rd"
    refine w_rep h2 (by omega) (by omega) (by rw [Int.toNat_natCast]; exact slB _ (by omega)) fun pa H3 s3 n3 h3 => ?_
    rw [Int.toNat_natCast, rep_flat] at h3
    repeat walk_at "rd"
    have x3 := s3 _ _ (s2 _ _ x1)
    have npa : pa ≠ x := ne_of h3 x3 (by intro z; cases z)
    refine w_sfI x3 T.l_Table T.n_array (by show 2 < 1000; decide) ?_
    have o4 : Oth x H3 (upd H3 x (.ins CT dx (putF "array" (.ref pa) [("number", n), ("meta", m)]))) := Oth.refl.put
    have x4 : upd H3 x (.ins CT dx (putF "array" (.ref pa) [("number", n), ("meta", m)])) x = some (.ins CT dx [("number", n), ("meta", m), ("array", .ref pa)]) := upd_same
    generalize upd H3 x (.ins CT dx (putF "array" (.ref pa) [("number", n), ("meta", m)])) = H4 at o4 x4 ⊢
    repeat walk_at "rd"
    refine w_lst1 fun p5 H5 s5 n5 h5 => ?_
    repeat walk_at "rd"
    refine ⟨nn, rfl, by omega, ?_⟩
    refine w_rep h5 (by omega) (by omega) (by rw [Int.toNat_natCast]; exact slB _ (by omega)) fun pn H6 s6 n6 h6 => ?_
    rw [Int.toNat_natCast, rep_flat] at h6
    repeat walk_at "rd"
    have x6 := s6 _ _ (s5 _ _ x4)
    have npn : pn ≠ x := ne_of h6 x6 (by intro z; cases z)
    refine w_sfI x6 T.l_Table T.n_nodes (by show 3 < 1000; decide) ?_
    have o7 : Oth x H6 (upd H6 x (.ins CT dx (putF "nodes" (.ref pn) [("number", n), ("meta", m), ("array", .ref pa)]))) := Oth.refl.put
    have x7 : upd H6 x (.ins CT dx (putF "nodes" (.ref pn) [("number", n), ("meta", m), ("array", .ref pa)])) x = some (.ins CT dx [("number", n), ("meta", m), ("array", .ref pa), ("nodes", .ref pn)]) := upd_same
    generalize upd H6 x (.ins CT dx (putF "nodes" (.ref pn) [("number", n), ("meta", m), ("array", .ref pa)])) = H7 at o7 x7 ⊢
    have h7 := o7 _ _ npn h6
    repeat walk_at "rd"
    refine w_fldI x7 T.l_Table T.n_nodes (v := .ref pn) rfl ?_
    repeat walk_at "rd"
    refine w_lenL h7 ?_
    rw [List.length_replicate]
    repeat walk_at "rd"
    refine w_sfI x7 T.l_Table T.n_free (by show 4 < 1000; decide) ?_
    have o8 : Oth x H7 (upd H7 x (.ins CT dx (putF "free" (.int (powM nn : Nat)) [("number", n), ("meta", m), ("array", .ref pa), ("nodes", .ref pn)]))) := Oth.refl.put
    have x8 : upd H7 x (.ins CT dx (putF "free" (.int (powM nn : Nat)) [("number", n), ("meta", m), ("array", .ref pa), ("nodes", .ref pn)])) x = some (.ins CT dx (tF n m pa pn (powM nn))) := upd_same
    generalize upd H7 x (.ins CT dx (putF "free" (.int (powM nn : Nat)) [("number", n), ("meta", m), ("array", .ref pa), ("nodes", .ref pn)])) = H8 at o8 x8 ⊢
    have a4 := o4 _ _ npa h3
    have a6 := s6 _ _ (s5 _ _ a4)
    have a8 := o8 _ _ npa (o7 _ _ npa a6)
    have ne : ¬ pa = pn := fun z => by rw [← z, s5 _ _ a4] at n6; cases n6
    have fa : H1 pa = none := by
      cases e : H1 pa with
      | none => rfl
      | some o => rw [s2 _ _ e] at n3; cases n3
    have fn : H1 pn = none := by
      cases e : H1 pn with
      | none => rfl
      | some o => rw [s5 _ _ (o4 _ _ npn (s3 _ _ (s2 _ _ e)))] at n6; cases n6
    repeat walk_at "rd"
    refine q H8 pa pn (fun b o nb e => o8 _ _ nb (o7 _ _ nb (s6 _ _ (s5 _ _ (o4 _ _ nb (s3 _ _ (s2 _ _ (o1 _ _ nb e)))))))) (fun b hb => ?_) (fun Ev => TC.fresh ⟨dx, x8⟩ a8 (o8 _ _ npn h7) ne)
    rcases hb with rfl | rfl
    · exact back1 _ fa
    · exact back1 _ fn
end
end Nu

set_option Elab.async false
set_option linter.all false
set_option maxRecDepth 100000
set_option autoImplicit false
set_option maxHeartbeats 4000000
namespace Tm
open PySem L2 Nu
/-! ### borders, in plain -/
theorem halv_ok {p : Int → Bool} : ∀ (d : Nat) (lo hi : Int), (hi - lo).toNat ≤ d → 0 ≤ lo → lo < hi → (lo = 0 ∨ p lo = true) → p hi = false →
    lo ≤ halvM p lo hi ∧ halvM p lo hi < hi ∧ (halvM p lo hi = 0 ∨ p (halvM p lo hi) = true) ∧ p (halvM p lo hi + 1) = false
  | 0, lo, hi, hd, h0, h1, _, _ => by omega
  | d + 1, lo, hi, hd, h0, h1, hl, hh => by
    rw [halvM]
    split
    · split
      · rename_i c hp
        obtain ⟨a, b, e, f⟩ := halv_ok d ((lo + hi) / 2) hi (by omega) (by omega) (by omega) (.inr hp) hh
        exact ⟨by omega, b, e, f⟩
      · rename_i c hp
        obtain ⟨a, b, e, f⟩ := halv_ok d lo ((lo + hi) / 2) (by omega) h0 (by omega) hl (Bool.eq_false_iff.2 hp)
        exact ⟨a, by omega, e, f⟩
    · rename_i c
      have : hi = lo + 1 := by omega
      exact ⟨Int.le_refl _, h1, hl, by rw [← this]; exact hh⟩
theorem doub_ok {p : Int → Bool} : ∀ (d : Nat) (lo hi : Int), (9223372036854775808 - hi).toNat ≤ d → 1 ≤ lo → lo ≤ hi → hi ≤ 9223372036854775807 → (p hi = true ∨ (p lo = true ∧ lo < hi)) →
    1 ≤ doubM p lo hi ∧ doubM p lo hi ≤ 9223372036854775807 ∧ p (doubM p lo hi) = true ∧ (doubM p lo hi = 9223372036854775807 ∨ p (doubM p lo hi + 1) = false)
  | 0, lo, hi, hd, h0, h1, h2, _ => by omega
  | d + 1, lo, hi, hd, h0, h1, h2, hp => by
    rw [doubM]
    split
    · rename_i hh
      split
      · rename_i c
        exact doub_ok d hi (2 * hi) (by omega) (by omega) (by omega) (by omega) (.inr ⟨hh, by omega⟩)
      · rename_i c
        split
        · rename_i hm
          exact ⟨by decide, by decide, hm, .inl rfl⟩
        · rename_i hm
          have ne : hi ≠ 9223372036854775807 := fun z => hm (z ▸ hh)
          obtain ⟨a, b, e, f⟩ := halv_ok (p := p) _ hi 9223372036854775807 (Nat.le_refl _) (by omega) (by omega) (.inr hh) (Bool.eq_false_iff.2 hm)
          refine ⟨by omega, by omega, ?_, .inr f⟩
          rcases e with e | e
          · omega
          · exact e
    · rename_i hh
      rcases hp with hp | ⟨hp, hlt⟩
      · exact absurd hp hh
      · obtain ⟨a, b, e, f⟩ := halv_ok (p := p) _ lo hi (Nat.le_refl _) (by omega) hlt (.inr hp) (Bool.eq_false_iff.2 hh)
        refine ⟨by omega, by omega, ?_, .inr f⟩
        rcases e with e | e
        · omega
        · exact e
theorem find_nil {N : List (Option Nd)} {k : Ky} (h : N = []) : findM N k = none := by
  rw [h]
  rfl
theorem bord_ok (T : Tb) (hl : T.A.length ≤ 1000000) : 0 ≤ bordM T ∧ bordM T ≤ 9223372036854775807 ∧ (bordM T = 0 ∨ hasM T (bordM T) = true) ∧ (bordM T = 9223372036854775807 ∨ hasM T (bordM T + 1) = false) := by
  unfold bordM
  split
  · rename_i c
    obtain ⟨a, b, e, f⟩ := halv_ok (p := hasM T) _ 0 (T.A.length : Nat) (Nat.le_refl _) (Int.le_refl _) (by omega) (.inl rfl) c.2
    exact ⟨a, by omega, e, .inr f⟩
  · rename_i c
    have here : ((T.A.length : Nat) : Int) = 0 ∨ hasM T (T.A.length : Nat) = true := by
      by_cases h0 : 0 < T.A.length
      · refine .inr ?_
        cases e : hasM T (T.A.length : Nat) with
        | true => rfl
        | false => exact absurd ⟨h0, e⟩ c
      · exact .inl (by omega)
    unfold beyondM
    split
    · rename_i d
      refine ⟨by omega, by omega, here, .inr ?_⟩
      rcases d with d | d
      · unfold hasM getM inA
        rw [if_neg (by simp; omega), find_nil d]
        rfl
      · exact d
    · rename_i d
      have d2 : hasM T ((T.A.length : Nat) + 1) = true := by
        cases e : hasM T ((T.A.length : Nat) + 1) with
        | true => rfl
        | false => exact absurd (.inr e) d
      obtain ⟨a, b, e, f⟩ := doub_ok (p := hasM T) _ (max 1 (T.A.length : Nat)) (max 1 (T.A.length : Nat)) (Nat.le_refl _) (by omega) (Int.le_refl _) (by omega) (.inl (by
        rcases here with h | h
        · rw [h] at d2 ⊢
          exact d2
        · by_cases h0 : 0 < T.A.length
          · rw [show max 1 ((T.A.length : Nat) : Int) = (T.A.length : Nat) by omega]
            exact h
          · rw [show ((T.A.length : Nat) : Int) = 0 by omega] at d2 ⊢
            exact d2))
      exact ⟨by omega, b, .inr e, f⟩
end Tm

set_option Elab.async false
set_option linter.all false
set_option maxRecDepth 100000
set_option autoImplicit false
set_option maxHeartbeats 4000000
namespace Tm
open PySem L2 Nu
section
variable {pl : Ky → Nat → Nat}
theorem getM_tell (T : Tb) (k : Ky) : getM T k = tell T k := by
  unfold getM tell
  by_cases c : inA T.A k = true
  · rw [if_pos c, if_pos c]
    cases k with
    | int i =>
      have c' : 1 ≤ i ∧ i ≤ T.A.length := by
        have c : (decide (1 ≤ i) && decide (i ≤ T.A.length)) = true := c
        simpa using c
      exact (if_pos c'.1).symm
    | str z => rfl
    | bl b => rfl
    | fl s t p => rfl
    | inf s => rfl
    | ob a m => rfl
    | nt a z => rfl
  · rw [if_neg c, if_neg c]
    unfold tellN
    cases findM T.N k <;> rfl
theorem hasM_tell (T : Tb) (i : Int) : hasM T i = !decide (tell T (.int i) = .non) := by
  unfold hasM
  rw [getM_tell]
theorem bord_row {T : Tb} {n : Nat} (hl : T.A.length ≤ 1000000) (hn : n ≤ 1000000) (h : ∀ i : Nat, hasM T ((i : Int) + 1) = decide (i < n)) : bordM T = n := by
  obtain ⟨b0, b1, b2, b3⟩ := bord_ok T hl
  obtain ⟨b, e⟩ : ∃ b : Nat, bordM T = b := ⟨(bordM T).toNat, by omega⟩
  rw [e] at b0 b1 b2 b3 ⊢
  have hb : b ≤ n := by
    rcases b2 with b2 | b2
    · omega
    · cases b with
      | zero => omega
      | succ m =>
        rw [show ((m + 1 : Nat) : Int) = (m : Int) + 1 by omega, h] at b2
        have := of_decide_eq_true b2
        omega
  rcases b3 with b3 | b3
  · omega
  · rw [h] at b3
    have := of_decide_eq_false b3
    omega
theorem bord_full {T : Tb} (h1 : T.A.length = 0 ∨ hasM T T.A.length = true) (h2 : hasM T (T.A.length + 1) = false) : bordM T = T.A.length := by
  unfold bordM
  rw [if_neg (by
    rintro ⟨a, b⟩
    rcases h1 with h | h
    · omega
    · rw [b] at h; cases h)]
  unfold beyondM
  rw [if_pos (.inr h2)]
theorem powM_idem (n : Nat) : powM (powM n) = powM n := by
  by_cases h : n = 0
  · subst h; rfl
  · obtain ⟨p, e, a, b⟩ := powM_pow (n := n) (by omega)
    rw [e]
    exact powM_is (Nat.le_refl _) (by have := Nat.two_pow_pos p; omega)
/-! ### keys that are no places -/
theorem ins_strs {l : List Ky} {g : Nat → Str} (h : ∀ key ∈ l, ∃ i, key = .str (g i)) (n : Nat) : ins l n = 0 := by
  unfold ins
  rw [List.countP_eq_zero]
  intro k hk
  obtain ⟨i, rfl⟩ := h k hk
  simp [outs]
theorem third_cnt : ∀ n : Nat, 3 * (List.range n).countP (fun i => decide (4 ≤ i ∧ i % 3 = 1)) ≤ n - 2
  | 0 => by simp
  | n + 1 => by
    have ih := third_cnt n
    have key : ∀ n, 3 * (List.range n).countP (fun i => decide (4 ≤ i ∧ i % 3 = 1)) = 3 * ((n + 1) / 3 - 1) := by
      intro n
      induction n with
      | zero => simp
      | succ n ih =>
        rw [List.range_succ, List.countP_append, Nat.mul_add, ih, List.countP_cons, List.countP_nil]
        by_cases c : 4 ≤ n ∧ n % 3 = 1
        · rw [decide_eq_true c]
          simp
          omega
        · rw [decide_eq_false c]
          simp
          omega
    rw [key]
    omega
theorem ins_third {l : List Ky} (hn : l.Nodup) (h : ∀ key ∈ l, ∃ i : Nat, key = .int (3 * (i : Int) + 5)) (n : Nat) : 2 * ins l n ≤ n := by
  rw [ins_range n l hn]
  have a : (List.range n).countP (fun (i : Nat) => decide (Ky.int ((i : Int) + 1) ∈ l)) ≤ (List.range n).countP (fun i => decide (4 ≤ i ∧ i % 3 = 1)) := by
    refine List.countP_mono_left fun i _ hi => ?_
    obtain ⟨j, hj⟩ := h _ (of_decide_eq_true hi)
    have := Ky.int.inj hj
    exact decide_eq_true (by omega)
  have := third_cnt n
  omega
/-! ### down -/
def bestF (g : Nat → Nat) : Nat → Nat
  | 0 => 0
  | p + 1 => if 2 * g p > 2 ^ p then 2 ^ p else bestF g p
theorem bestM_F {l : List Ky} {g : Nat → Nat} (h : ∀ p, ins l (2 ^ p) = g p) : ∀ P, (bestM l P).1 = bestF g P
  | 0 => rfl
  | P + 1 => by
    unfold bestM bestF
    rw [h]
    by_cases c : 2 * g P > 2 ^ P
    · rw [if_pos c, if_pos c]
    · rw [if_neg c, if_neg c]
      exact bestM_F h P
theorem bestF_cut {g : Nat → Nat} {a : Nat} : ∀ {P : Nat}, a ≤ P → (∀ p, a ≤ p → p < P → 2 * g p ≤ 2 ^ p) → bestF g P = bestF g a
  | 0, h, _ => by rw [Nat.le_zero.1 h]
  | P + 1, h, hg => by
    by_cases c : a = P + 1
    · rw [c]
    · rw [bestF, if_neg (by have := hg P (by omega) (Nat.lt_succ_self P); omega)]
      exact bestF_cut (by omega) fun p h1 h2 => hg p h1 (by omega)
theorem cnt_seg (k M : Nat) : ∀ n : Nat, (List.range n).countP (fun i => decide (k ≤ i ∧ i < M)) = min n M - k
  | 0 => by simp
  | n + 1 => by
    rw [List.range_succ, List.countP_append, cnt_seg k M n, List.countP_cons, List.countP_nil]
    by_cases c : k ≤ n ∧ n < M
    · rw [decide_eq_true c]
      simp
      omega
    · rw [decide_eq_false c]
      simp
      omega
structure Dn (pl : Ky → Nat → Nat) (M aa nn k : Nat) (T : Tb) : Prop where
  w : WF pl T
  ni : NI T
  nd : NDd T
  a : T.A.length = aa
  n : T.N.length = nn
  t : ∀ i : Nat, tell T (.int ((i : Int) + 1)) = if k ≤ i ∧ i < M then .int ((i : Int) + 1) else .non
  o : ∀ key, (∀ i : Nat, key ≠ .int ((i : Int) + 1)) → tell T key = .non
  c : aa ≤ k → occ T.N = M - k
section
variable {M a n k : Nat} {T : Tb}
theorem dn_tell (hpl : ∀ k n, 0 < n → pl k n < n) (r : Dn pl M a n (k + 1) T) (hk : k < M) :
    WF pl (putG pl T (.int ((k : Int) + 1)) (.int ((k : Int) + 1))) ∧ NI (putG pl T (.int ((k : Int) + 1)) (.int ((k : Int) + 1))) ∧
    (∀ i : Nat, tell (putG pl T (.int ((k : Int) + 1)) (.int ((k : Int) + 1))) (.int ((i : Int) + 1)) = if k ≤ i ∧ i < M then .int ((i : Int) + 1) else .non) ∧
    ∀ key, (∀ i : Nat, key ≠ .int ((i : Int) + 1)) → tell (putG pl T (.int ((k : Int) + 1)) (.int ((k : Int) + 1))) key = .non := by
  obtain ⟨w', _, _, _⟩ := putG_ok (pl := pl) (v := .int ((k : Int) + 1)) (k := .int ((k : Int) + 1)) hpl r.w
  obtain ⟨t', ni'⟩ := putG_tell (v := .int ((k : Int) + 1)) (k := .int ((k : Int) + 1)) hpl r.w r.ni
  refine ⟨w', ni', fun i => ?_, fun key ho => ?_⟩
  · rw [t', r.t]
    by_cases e : i = k
    · subst e
      rw [if_pos rfl, if_pos ⟨Nat.le_refl _, hk⟩]
    · rw [if_neg (fun z => e (by have := Ky.int.inj z; omega))]
      by_cases c : k + 1 ≤ i ∧ i < M
      · rw [if_pos c, if_pos (by omega)]
      · rw [if_neg c, if_neg (by omega)]
  · rw [t', if_neg (ho k), r.o key ho]
theorem dn_in (hpl : ∀ k n, 0 < n → pl k n < n) (r : Dn pl M a n (k + 1) T) (hk : k < M) (h : k < a) : Dn pl M a n k (putG pl T (.int ((k : Int) + 1)) (.int ((k : Int) + 1))) := by
  obtain ⟨w', ni', t', o'⟩ := dn_tell hpl r hk
  have hi : inA T.A (.int ((k : Int) + 1)) = true := by rw [inA_get, r.a, decide_eq_true h]
  have g : needG pl T (.int ((k : Int) + 1)) (.int ((k : Int) + 1)) = false := by unfold needG; rw [hi]; rfl
  have e : putG pl T (.int ((k : Int) + 1)) (.int ((k : Int) + 1)) = put0 pl T (.int ((k : Int) + 1)) (.int ((k : Int) + 1)) := by
    unfold putG
    rw [if_neg (by rw [g]; decide)]
  obtain ⟨_, ln, la⟩ := put1_ok (v := .int ((k : Int) + 1)) hpl r.w g
  obtain ⟨_, nd'⟩ := put0_occ (v := .int ((k : Int) + 1)) hpl r.w r.nd (fun z => by cases z) g
  rw [e] at w' ni' t' o' ⊢
  exact ⟨w', ni', nd', la.trans r.a, ln.trans r.n, t', o', fun z => by omega⟩
theorem dn_new (r : Dn pl M a n (k + 1) T) (h : a ≤ k) : inA T.A (.int ((k : Int) + 1)) = false ∧ findM T.N (.int ((k : Int) + 1)) = none := by
  have hi : inA T.A (.int ((k : Int) + 1)) = false := by rw [inA_get, r.a, decide_eq_false (by omega)]
  refine ⟨hi, ?_⟩
  cases hf : findM T.N (.int ((k : Int) + 1)) with
  | none => rfl
  | some j =>
    obtain ⟨nd, h1, h2⟩ := findM_some hf
    have h3 := r.t k
    rw [if_neg (by omega)] at h3
    have h4 : tell T (.int ((k : Int) + 1)) = nd.v := by
      unfold tell
      rw [if_neg (by rw [hi]; decide)]
      exact tellN_of r.w ⟨j, nd, h1, h2, rfl⟩
    exact absurd (h4.symm.trans h3) (r.nd j nd h1)
theorem dn_out (hpl : ∀ k n, 0 < n → pl k n < n) (r : Dn pl M a n (k + 1) T) (hk : k < M) (h : a ≤ k) (hn : M - k ≤ n) : Dn pl M a n k (putG pl T (.int ((k : Int) + 1)) (.int ((k : Int) + 1))) := by
  obtain ⟨w', ni', t', o'⟩ := dn_tell hpl r hk
  obtain ⟨hi, hf⟩ := dn_new r h
  have oc := r.c (by omega)
  have g : needG pl T (.int ((k : Int) + 1)) (.int ((k : Int) + 1)) = false := by
    rw [needG_full hpl r.w r.nd (fun z => by cases z) hi hf, r.n, oc]
    exact decide_eq_false (by omega)
  have e : putG pl T (.int ((k : Int) + 1)) (.int ((k : Int) + 1)) = put0 pl T (.int ((k : Int) + 1)) (.int ((k : Int) + 1)) := by
    unfold putG
    rw [if_neg (by rw [g]; decide)]
  obtain ⟨_, ln, la⟩ := put1_ok (v := .int ((k : Int) + 1)) hpl r.w g
  obtain ⟨oc', nd'⟩ := put0_occ (v := .int ((k : Int) + 1)) hpl r.w r.nd (fun z => by cases z) g
  rw [if_pos ⟨hi, hf⟩] at oc'
  rw [e] at w' ni' t' o' ⊢
  exact ⟨w', ni', nd', la.trans r.a, ln.trans r.n, t', o', fun z => by rw [oc', oc]; omega⟩
theorem dn_grow (hpl : ∀ k n, 0 < n → pl k n < n) (r : Dn pl M a n (k + 1) T) (hk : k < M) (hM : M ≤ 2000) (h : a ≤ k) (hn : n < M - k) :
    Dn pl M (bestF (fun p => min (2 ^ p) M - k) 12) (powM (M - k - (min (bestF (fun p => min (2 ^ p) M - k) 12) M - k))) k (putG pl T (.int ((k : Int) + 1)) (.int ((k : Int) + 1))) := by
  obtain ⟨w', ni', t', o'⟩ := dn_tell hpl r hk
  obtain ⟨hi, hf⟩ := dn_new r h
  have oc := r.c (by omega)
  have ol := occ_le T.N
  have g : needG pl T (.int ((k : Int) + 1)) (.int ((k : Int) + 1)) = true := by
    rw [needG_full hpl r.w r.nd (fun z => by cases z) hi hf, oc, r.n]
    rw [oc, r.n] at ol
    exact decide_eq_true (by omega)
  have tk : tell T (.int ((k : Int) + 1)) = .non := by rw [r.t, if_neg (by omega)]
  obtain ⟨la, ln, oc'⟩ := grow_room (v := .int ((k : Int) + 1)) hpl r.w r.ni g
  obtain ⟨oc', nd'⟩ := oc' (fun z => by cases z) tk
  have insE : ∀ m, ins (keysM T (.int ((k : Int) + 1))) m = min m M - k := fun m => by
    rw [ins_keys r.w r.ni tk, ← cnt_seg k M m]
    refine List.countP_congr fun i _ => ?_
    rw [decide_eq_true_eq, decide_eq_true_eq, r.t]
    constructor
    · rintro (z | z)
      · split at z
        · omega
        · exact absurd rfl z
      · have := Ky.int.inj z; omega
    · intro z
      by_cases c : i = k
      · exact .inr (by rw [c])
      · exact .inl (by rw [if_pos (by omega)]; exact fun z => by cases z)
  have bs : (bestM (keysM T (.int ((k : Int) + 1))) 32).1 = bestF (fun p => min (2 ^ p) M - k) 12 := by
    rw [bestM_F (g := fun p => min (2 ^ p) M - k) (fun p => insE _)]
    refine bestF_cut (by decide) fun p h1 h2 => ?_
    have := Nat.pow_le_pow_right (show 0 < 2 by decide) h1
    have e : (2 : Nat) ^ 12 = 4096 := by decide
    omega
  have len : (keysM T (.int ((k : Int) + 1))).length = M - k := by
    rw [keys_len]
    have : live T = occ T.N := by
      unfold live occ
      have a0 : T.A.countP liveV = 0 := by
        rw [List.countP_eq_zero]
        intro v hv
        obtain ⟨i, hi⟩ := List.getElem?_of_mem hv
        have hl := (List.getElem?_eq_some_iff.1 hi).1
        have h1 := r.t i
        rw [if_neg (by have := r.a; omega)] at h1
        unfold tell at h1
        rw [if_pos (by rw [inA_get, decide_eq_true hl]), tellA_get, hi] at h1
        have h1 : v = .non := h1
        rw [h1]
        decide
      rw [a0, Nat.zero_add]
      refine List.countP_congr fun o ho => ?_
      cases o with
      | none => simp [liveN]
      | some n1 =>
        obtain ⟨j, hj⟩ := List.getElem?_of_mem ho
        have := r.nd j n1 hj
        simp [liveN, liveV, this]
    rw [this, oc]
    omega
  rw [bs] at la ln oc'
  rw [insE, len] at ln oc'
  exact ⟨w', ni', nd', la, ln, t', o', fun z => by rw [oc']; omega⟩
end
theorem dn_start (M : Nat) : Dn pl M 0 0 M ⟨List.replicate 0 .non, List.replicate (powM 0) none, powM 0⟩ :=
  ⟨wf_new _ _, ni_new _ _, ndd_new _ _, rfl, rfl, fun i => by rw [tell_new, tellA_get, if_neg (by omega)]; rfl, fun key ho => by rw [tell_new]; exact tellA_other ho, fun _ => by rw [Nat.sub_self]; exact occ_new _⟩
end
end Tm

set_option Elab.async false
set_option linter.all false
set_option maxRecDepth 100000
set_option autoImplicit false
set_option maxHeartbeats 4000000
set_option pp.maxSteps 900
namespace Nu
open PySem PySem.Spec PyProof.Rows L2 Rd Tm
theorem none_same {H H1 : Hp} {b : Addr} (s : Same H H1) (h : H1 b = none) : H b = none := by
  cases e : H b with
  | none => rfl
  | some o => rw [s b o e] at h; cases h
theorem kysG {T : Tb} {k : Ky} {v : V} (ks : KysOk T.N) (hk : KyOk k) (la : T.A.length ≤ 9000) (ln : T.N.length ≤ 9000) : KysOk (putG plS T k v).N := by
  unfold putG
  split
  · exact kys_put0 (kys_grow ks hk ⟨la, ln⟩) hk
  · exact kys_put0 ks hk
theorem kys_new (n : Nat) : KysOk (List.replicate n none) := fun j nd e => by
  rw [List.getElem?_replicate] at e
  split at e <;> cases e
/-! ### a table of few values -/
structure Pq (j : Nat) (T : Tb) : Prop where
  w : WF plS T
  ni : NI T
  ks : KysOk T.N
  lv : live T ≤ j
  la : T.A.length ≤ 2 * j + 40
  ln : T.N.length ≤ 2 * j + 40
theorem Pq.mono {j j' : Nat} {T : Tb} (p : Pq j T) (h : j ≤ j') : Pq j' T :=
  ⟨p.w, p.ni, p.ks, by have := p.lv; omega, by have := p.la; omega, by have := p.ln; omega⟩
theorem Pq.put {j : Nat} {T : Tb} {k : Ky} {v : V} (p : Pq j T) (hk : KyOk k) (hj : j ≤ 4000) : Pq (j + 1) (putG plS T k v) := by
  obtain ⟨w', a', n', l'⟩ := putG_ok (pl := plS) (v := v) (k := k) plS_lt p.w
  obtain ⟨t', ni'⟩ := putG_tell (pl := plS) (v := v) (k := k) plS_lt p.w p.ni
  have l1 := p.lv
  have l2 := p.la
  have l3 := p.ln
  exact ⟨w', ni', kysG p.ks hk (by omega) (by omega), by omega, by omega, by omega⟩
theorem Pq.tell {j : Nat} {T : Tb} (p : Pq j T) (k : Ky) (v : V) (k' : Ky) : Tm.tell (putG plS T k v) k' = if k' = k then v else Tm.tell T k' :=
  (putG_tell (pl := plS) (v := v) (k := k) plS_lt p.w p.ni).1 k'
theorem tellA_rep (n : Nat) (k : Ky) : tellA (List.replicate n .non) k = .non := by
  cases k with
  | int i =>
    show (if 1 ≤ i then ((List.replicate n V.non)[(i - 1).toNat]?).getD .non else .non) = .non
    rw [List.getElem?_replicate]
    split
    · split <;> rfl
    · rfl
  | _ => rfl
/-- an empty table -/
def emT (a nn : Nat) : Tb := ⟨List.replicate a .non, List.replicate (powM nn) none, powM nn⟩
theorem tell_em (a nn : Nat) (k : Ky) : Tm.tell (emT a nn) k = .non := by
  unfold emT
  rw [tell_new, tellA_rep]
theorem Pq.new {a nn : Nat} (ha : a ≤ 40) (hn : nn ≤ 20) : Pq 0 (emT a nn) := by
  have h := powM_le nn
  have w : WF plS (emT a nn) := wf_new _ _
  have ni : NI (emT a nn) := ni_new _ _
  refine ⟨w, ni, kys_new _, ?_, by show (List.replicate a V.non).length ≤ _; rw [List.length_replicate]; omega, by show (List.replicate (powM nn) (none : Option Nd)).length ≤ _; rw [List.length_replicate]; omega⟩
  show live ⟨List.replicate a .non, List.replicate (powM nn) none, powM nn⟩ ≤ 0
  rw [live_new, List.countP_replicate]
  simp [liveV]
/-! ### many tables -/
structure WR where
  x : Addr
  n : V
  m : V
  T : Tb
  j : Nat
structure RR where
  pa : Addr
  pn : Addr
  L : List (Option (Addr × V))
def E0h : Hp := fun _ => none
def InW (w : WR) (r : RR) (b : Addr) : Prop := InT w.x r.pa r.pn r.L b
structure MTR (CF CT CN : Addr) (S : List Addr) (W : List WR) (R : List RR) (H : Hp) : Prop where
  len : R.length = W.length
  ta : ∀ (i : Nat) w r, W[i]? = some w → R[i]? = some r → TA CF CT CN E0h H w.x w.n w.m w.T r.pa r.pn r.L ∧ Pq w.j w.T
  dis : ∀ (i j : Nat) w w' r r', W[i]? = some w → R[i]? = some r → W[j]? = some w' → R[j]? = some r' → i ≠ j → ∀ b, InW w r b → ¬ InW w' r' b
  out : ∀ b ∈ S, (∃ o, H b = some o) ∧ ∀ (i : Nat) w r, W[i]? = some w → R[i]? = some r → ¬ InW w r b
def MT (CF CT CN : Addr) (S : List Addr) (W : List WR) (H : Hp) : Prop := ∃ R, MTR CF CT CN S W R H
/-- all stays but tables, nodes and lists -/
def KeepT (CT CN : Addr) (H H' : Hp) : Prop := ∀ b o, H b = some o → (∀ dx fs, o ≠ .ins CT dx fs) → (∀ dx fs, o ≠ .ins CN dx fs) → (∀ xs, o ≠ .lst xs) → H' b = some o
section
variable {CF CT CN : Addr} {S S' : List Addr} {W : List WR} {R : List RR} {H H' : Hp} {i : Nat} {w : WR} {Q : VK} {E : XK}
theorem MTR.rr (g : MTR CF CT CN S W R H) (hw : W[i]? = some w) : ∃ r, R[i]? = some r := by
  have hi : i < W.length := (List.getElem?_eq_some_iff.1 hw).1
  exact ⟨_, List.getElem?_eq_getElem (by rw [g.len]; exact hi)⟩
theorem MT.step (g : MT CF CT CN S W H) (fr : ∀ b o, b ∉ S → H b = some o → H' b = some o) (oc : ∀ b ∈ S, ∃ o, H' b = some o) : MT CF CT CN S W H' := by
  obtain ⟨R, g⟩ := g
  refine ⟨R, g.len, fun i w r hw hr => ?_, g.dis, fun b hb => ⟨oc b hb, (g.out b hb).2⟩⟩
  obtain ⟨t, p⟩ := g.ta i w r hw hr
  exact ⟨⟨t.toTC.keep fun b o ib e => fr b o (fun c => (g.out b c).2 i w r hw hr ib) e, fun b o e => (nomatch e), fun b _ => rfl⟩, p⟩
theorem MT.occ (g : MT CF CT CN S W H) {b : Addr} (hb : b ∈ S) : ∃ o, H b = some o := let ⟨_, g⟩ := g; (g.out b hb).1
theorem MT.same (g : MT CF CT CN S W H) (s : Same H H') : MT CF CT CN S W H' :=
  g.step (fun b o _ e => s b o e) fun b hb => let ⟨o, e⟩ := g.occ hb; ⟨o, s b o e⟩
theorem MT.oth (g : MT CF CT CN S W H) {l : Addr} (hl : l ∈ S) (s : Oth l H H') (h : ∃ o, H' l = some o) : MT CF CT CN S W H' :=
  g.step (fun b o c e => s b o (fun z => c (z ▸ hl)) e) fun b hb => by
    by_cases c : b = l
    · rw [c]; exact h
    · obtain ⟨o, e⟩ := g.occ hb
      exact ⟨o, s b o c e⟩
theorem MT.put (g : MT CF CT CN S W H) {l : Addr} {o : HO} (hl : l ∈ S) : MT CF CT CN S W (upd H l o) := g.oth hl (Oth.refl.put) ⟨_, upd_same⟩
theorem MT.add (g : MT CF CT CN S W H) {l : Addr} {o : HO} (s : Same H H') (n : H l = none) (h : H' l = some o) : MT CF CT CN (l :: S) W H' := by
  have g' := g.same s
  have g0 := g
  obtain ⟨R, g⟩ := g
  obtain ⟨R', g'⟩ : ∃ R', MTR CF CT CN S W R' H' ∧ R' = R := by
    refine ⟨R, ⟨g.len, fun i w r hw hr => ?_, g.dis, fun b hb => ⟨?_, (g.out b hb).2⟩⟩, rfl⟩
    · obtain ⟨t, p⟩ := g.ta i w r hw hr
      exact ⟨t.same s, p⟩
    · obtain ⟨o, e⟩ := (g.out b hb).1
      exact ⟨o, s b o e⟩
  obtain ⟨g', rfl⟩ := g'
  refine ⟨R', g'.len, g'.ta, g'.dis, fun b hb => ?_⟩
  rcases List.mem_cons.1 hb with rfl | hb
  · refine ⟨⟨_, h⟩, fun i w r hw hr ib => ?_⟩
    obtain ⟨o, e⟩ := (g.ta i w r hw hr).1.toTC.occ ib
    rw [n] at e
    cases e
  · exact g'.out b hb
theorem MT.less (g : MT CF CT CN S W H) (h : ∀ b ∈ S', b ∈ S) : MT CF CT CN S' W H := let ⟨R, g⟩ := g; ⟨R, g.len, g.ta, g.dis, fun b hb => g.out b (h b hb)⟩
theorem MT.nil (h : ∀ b ∈ S, ∃ o, H b = some o) : MT CF CT CN S [] H := ⟨[], rfl, fun i w r e => (by cases e), fun i j w w' r r' e => (by cases e), fun b hb => ⟨h b hb, fun i w r e => (by cases e)⟩⟩
/-- more is known to stand outside: what is no table, no node, no list -/
theorem MT.out (g : MT CF CT CN S W H) {l : Addr} {o : HO} (h : H l = some o) (h1 : ∀ dx fs, o ≠ .ins CT dx fs) (h2 : ∀ dx fs, o ≠ .ins CN dx fs) (h3 : ∀ xs, o ≠ .lst xs) : MT CF CT CN (l :: S) W H := by
  obtain ⟨R, g⟩ := g
  refine ⟨R, g.len, g.ta, g.dis, fun b hb => ?_⟩
  rcases List.mem_cons.1 hb with rfl | hb
  · refine ⟨⟨_, h⟩, fun i w r hw hr ib => ?_⟩
    obtain ⟨t, _⟩ := g.ta i w r hw hr
    rcases ib with rfl | rfl | rfl | ⟨j, kv, e⟩
    · obtain ⟨dx, e⟩ := t.ins
      rw [h] at e
      cases e
      exact h1 _ _ rfl
    · have e := t.arr
      rw [h] at e
      cases e
      exact h3 _ rfl
    · have e := t.nod
      rw [h] at e
      cases e
      exact h3 _ rfl
    · obtain ⟨nd, _, _, dn, e2⟩ := t.nds j b kv e
      rw [h] at e2
      cases e2
      exact h2 _ _ rfl
  · exact g.out b hb
theorem MT.at (g : MT CF CT CN S W H) (hw : W[i]? = some w) : ∃ dx pa pn fr, H w.x = some (.ins CT dx (tF w.n w.m pa pn fr)) ∧ ∀ v, MT CF CT CN S (W.set i { w with m := v }) (upd H w.x (.ins CT dx (tF w.n v pa pn fr))) := by
  obtain ⟨R, g⟩ := g
  obtain ⟨r, hr⟩ := g.rr hw
  obtain ⟨t, p⟩ := g.ta i w r hw hr
  obtain ⟨dx, hx⟩ := t.ins
  have hi : i < W.length := (List.getElem?_eq_some_iff.1 hw).1
  refine ⟨dx, r.pa, r.pn, w.T.fr, hx, fun v => ⟨R, by rw [List.length_set]; exact g.len, fun j w' r' hw' hr' => ?_, fun j k w1 w2 r1 r2 e1 f1 e2 f2 ne b ib => ?_, fun b hb => ?_⟩⟩
  · by_cases c : j = i
    · subst c
      rw [List.getElem?_set_self hi] at hw'
      cases hw'
      rw [hr] at hr'
      cases hr'
      have px : r.pa ≠ w.x := fun c => by have e := t.arr; rw [c, hx] at e; cases e
      have nx : r.pn ≠ w.x := fun c => by have e := t.nod; rw [c, hx] at e; cases e
      have ax : ∀ (j : Nat) (a : Addr) (kv : V), r.L[j]? = some (some (a, kv)) → a ≠ w.x := fun j a kv e c => by
        obtain ⟨nd, _, _, dn, e2⟩ := t.nds j a kv e
        rw [c, hx] at e2
        cases e2
      exact ⟨⟨⟨⟨dx, upd_same⟩, (upd_ne px).trans t.arr, (upd_ne nx).trans t.nod, t.len, fun j a kv e => let ⟨nd, e1, ka, dn, e2⟩ := t.nds j a kv e; ⟨nd, e1, ka, dn, (upd_ne (ax j a kv e)).trans e2⟩, t.nns, t.dis, t.ne⟩, fun b o e => (nomatch e), fun b _ => rfl⟩, p⟩
    · rw [List.getElem?_set_ne (fun z => c z.symm)] at hw'
      obtain ⟨t', p'⟩ := g.ta j w' r' hw' hr'
      refine ⟨⟨t'.toTC.keep fun b o ib e => (upd_ne fun z => ?_).trans e, fun b o e => (nomatch e), fun b _ => rfl⟩, p'⟩
      subst z
      exact g.dis j i w' w r' r hw' hr' hw hr c _ ib (.inl rfl)
  · have go : ∀ (j : Nat) w1 r1, (W.set i { w with m := v })[j]? = some w1 → R[j]? = some r1 → ∃ w0, W[j]? = some w0 ∧ (InW w1 r1 = InW w0 r1) := fun j w1 r1 e f => by
      by_cases c : j = i
      · subst c
        rw [List.getElem?_set_self hi] at e
        cases e
        exact ⟨w, hw, rfl⟩
      · rw [List.getElem?_set_ne (fun z => c z.symm)] at e
        exact ⟨w1, e, rfl⟩
    obtain ⟨u1, a1, b1⟩ := go j w1 r1 e1 f1
    obtain ⟨u2, a2, b2⟩ := go k w2 r2 e2 f2
    rw [b1] at ib
    rw [b2]
    exact g.dis j k u1 u2 r1 r2 a1 f1 a2 f2 ne b ib
  · refine ⟨?_, fun j w' r' hw' hr' => ?_⟩
    · by_cases c : b = w.x
      · rw [c]; exact ⟨_, upd_same⟩
      · obtain ⟨o, e⟩ := (g.out b hb).1
        exact ⟨o, (upd_ne c).trans e⟩
    · by_cases c : j = i
      · subst c
        rw [List.getElem?_set_self hi] at hw'
        cases hw'
        exact (g.out b hb).2 j w r' hw hr'
      · rw [List.getElem?_set_ne (fun z => c z.symm)] at hw'
        exact (g.out b hb).2 j w' r' hw' hr'
/-- a value is read -/
theorem u_mget {r : Rw} {kv : V} (g : MT CF CT CN S W H) (hw : W[i]? = some w) (ra : RwAt CF CT E0h r kv) (q : ∀ H', MT CF CT CN S W H' → Same H H' → Q (getR w.T r) H') (vs : List V) (e : vs = [.ref w.x, kv]) : spGet CF CT CN vs H Q E := by
  have g' := g
  obtain ⟨R, g⟩ := g
  obtain ⟨rr, hr⟩ := g.rr hw
  obtain ⟨t, p⟩ := g.ta i w rr hw hr
  exact ⟨E0h, w.x, w.n, w.m, w.T, rr.pa, rr.pn, rr.L, r, kv, e, t, p.w, p.ks, ra, fun H' s => q H' (g'.same s) s⟩
/-- a value is put -/
theorem u_mput {r : Rw} {k : Ky} {kv v : V} (g : MT CF CT CN S W H) (hw : W[i]? = some w) (hj : w.j ≤ 4000) (ra : RwAt CF CT E0h r kv) (er : r.pl = some k) (hk : KyOk k)
    (q : ∀ H', MT CF CT CN S (W.set i { w with T := putG plS w.T k v, j := w.j + 1 }) H' → (∀ b ∈ S, ∀ o, H b = some o → H' b = some o) → KeepT CT CN H H' → Q .non H') (vs : List V) (e : vs = [.ref w.x, kv, v]) : spPutG CF CT CN vs H Q E := by
  obtain ⟨R, g⟩ := g
  obtain ⟨rr, hr⟩ := g.rr hw
  obtain ⟨t, p⟩ := g.ta i w rr hw hr
  have hi : i < W.length := (List.getElem?_eq_some_iff.1 hw).1
  have hiR : i < R.length := by rw [g.len]; exact hi
  have la := p.la
  have ln := p.ln
  refine ⟨E0h, w.x, w.n, w.m, w.T, rr.pa, rr.pn, rr.L, r, k, kv, v, e, t, p.w, p.ks, ra, er, by omega, by omega, fun H' pa' pn' L' t' s _ => q H' ⟨R.set i ⟨pa', pn', L'⟩, by rw [List.length_set, List.length_set]; exact g.len, fun j w' r' hw' hr' => ?_, fun j k w1 w2 r1 r2 e1 f1 e2 f2 ne b ib => ?_, fun b hb => ?_⟩ (fun b hb o eb => s.fr b o eb ((g.out b hb).2 i w rr hw hr)) fun b o eb h1 h2 h3 => s.fr b o eb fun ib => ?_⟩
  · by_cases c : j = i
    · subst c
      rw [List.getElem?_set_self hi] at hw'
      cases hw'
      rw [List.getElem?_set_self hiR] at hr'
      cases hr'
      exact ⟨t', p.put hk hj⟩
    · rw [List.getElem?_set_ne (fun z => c z.symm)] at hw'
      rw [List.getElem?_set_ne (fun z => c z.symm)] at hr'
      obtain ⟨t2, p2⟩ := g.ta j w' r' hw' hr'
      exact ⟨⟨t2.toTC.keep fun b o ib e => s.fr b o e (g.dis j i w' w r' rr hw' hr' hw hr c b ib), fun b o e => (nomatch e), fun b _ => rfl⟩, p2⟩
  · have oc : ∀ (j : Nat) w1 r1, j ≠ i → W[j]? = some w1 → R[j]? = some r1 → ∀ b, InW w1 r1 b → ¬ InT w.x pa' pn' L' b := fun j w1 r1 c e f b ib z => by
      rcases s.nw b z with z | z
      · exact g.dis j i w1 w r1 rr e f hw hr c b ib z
      · obtain ⟨o, eo⟩ := (g.ta j w1 r1 e f).1.toTC.occ ib
        rw [z] at eo
        cases eo
    by_cases c1 : j = i
    · subst c1
      rw [List.getElem?_set_self hi] at e1
      rw [List.getElem?_set_self hiR] at f1
      cases e1
      cases f1
      have c2 : ¬ k = j := fun z => ne z.symm
      rw [List.getElem?_set_ne (fun z => c2 z.symm)] at e2 f2
      exact fun z => oc k w2 r2 c2 e2 f2 b z ib
    · rw [List.getElem?_set_ne (fun z => c1 z.symm)] at e1 f1
      by_cases c2 : k = i
      · subst c2
        rw [List.getElem?_set_self hi] at e2
        rw [List.getElem?_set_self hiR] at f2
        cases e2
        cases f2
        exact oc j w1 r1 c1 e1 f1 b ib
      · rw [List.getElem?_set_ne (fun z => c2 z.symm)] at e2 f2
        exact g.dis j k w1 w2 r1 r2 e1 f1 e2 f2 ne b ib
  · obtain ⟨⟨o, eo⟩, no⟩ := g.out b hb
    refine ⟨⟨o, s.fr b o eo (no i w rr hw hr)⟩, fun j w' r' hw' hr' => ?_⟩
    by_cases c : j = i
    · subst c
      rw [List.getElem?_set_self hi] at hw'
      rw [List.getElem?_set_self hiR] at hr'
      cases hw'
      cases hr'
      intro z
      rcases s.nw b z with z | z
      · exact no j w rr hw hr z
      · rw [z] at eo
        cases eo
    · rw [List.getElem?_set_ne (fun z => c z.symm)] at hw' hr'
      exact no j w' r' hw' hr'
  · rcases ib with rfl | rfl | rfl | ⟨j, kv, e⟩
    · obtain ⟨dx, e⟩ := t.ins
      rw [eb] at e
      cases e
      exact h1 _ _ rfl
    · have e := t.arr
      rw [eb] at e
      cases e
      exact h3 _ rfl
    · have e := t.nod
      rw [eb] at e
      cases e
      exact h3 _ rfl
    · obtain ⟨nd, _, _, dn, e2⟩ := t.nds j b kv e
      rw [eb] at e2
      cases e2
      exact h2 _ _ rfl
/-- a new table -/
theorem u_mnew {n m : V} {a nn : Nat} {x dx : Addr} {Qx : Hp → Prop} (g : MT CF CT CN S W H) (ha : a ≤ 40) (hn : nn ≤ 20) (hx : H x = none) (hdx : H dx = none) (ne : dx ≠ x) (vs : List V) (e : vs = [.ref x, n, .int a, .int nn, m])
    (q : ∀ H', MT CF CT CN S (W ++ [⟨x, n, m, emT a nn, 0⟩]) H' → Same H H' → Qx H') :
    spTab CF CT CN vs (upd (upd H dx (.own x)) x (.ins CT dx [])) (fun v H2 => v = .non ∧ Qx H2) E := by
  refine ⟨x, dx, n, a, nn, m, e, upd_same, by omega, by omega, fun H' pa pn o fr t => ?_⟩
  have back : ∀ b, upd (upd H dx (.own x)) x (.ins CT dx []) b = none → H b = none := fun b z => by
    cases eb : H b with
    | none => rfl
    | some u =>
      rw [upd_ne (ne_of_none eb hx), upd_ne (ne_of_none eb hdx), eb] at z
      cases z
  have sm : Same H H' := fun b u eb => by
    refine o b u (ne_of_none eb hx) ?_
    rw [upd_ne (ne_of_none eb hx), upd_ne (ne_of_none eb hdx)]
    exact eb
  have inn : ∀ b, InT x pa pn (List.replicate (powM nn) none) b → H b = none := fun b i => by
    rcases i with i | i | i | ⟨j, kv, i⟩
    · rw [i]; exact hx
    · exact back b (fr b (.inl i))
    · exact back b (fr b (.inr i))
    · rw [List.getElem?_replicate] at i
      split at i <;> cases i
  obtain ⟨R, g⟩ := g
  refine ⟨rfl, q H' ⟨R ++ [⟨pa, pn, List.replicate (powM nn) none⟩], by rw [List.length_append, List.length_append, g.len]; rfl, fun j w' r' hw' hr' => ?_, fun j k w1 w2 r1 r2 e1 f1 e2 f2 ne b ib => ?_, fun b hb => ?_⟩ sm⟩
  · by_cases c : j < W.length
    · rw [List.getElem?_append_left c] at hw'
      rw [List.getElem?_append_left (by rw [g.len]; exact c)] at hr'
      obtain ⟨t2, p2⟩ := g.ta j w' r' hw' hr'
      exact ⟨t2.same sm, p2⟩
    · rw [List.getElem?_append_right (by omega)] at hw'
      rw [List.getElem?_append_right (by rw [g.len]; omega), g.len] at hr'
      have : j - W.length = 0 := by
        have := (List.getElem?_eq_some_iff.1 hw').1
        simpa using this
      rw [this] at hw' hr'
      cases hw'
      cases hr'
      exact ⟨⟨t _, fun b o e => (nomatch e), fun b _ => rfl⟩, Pq.new ha hn⟩
  · have cs : ∀ (j : Nat) w1 r1, (W ++ [⟨x, n, m, emT a nn, 0⟩])[j]? = some w1 → (R ++ [(⟨pa, pn, List.replicate (powM nn) none⟩ : RR)])[j]? = some r1 → (W[j]? = some w1 ∧ R[j]? = some r1 ∧ j < W.length) ∨ (j = W.length ∧ InW w1 r1 = InT x pa pn (List.replicate (powM nn) none)) := fun j w1 r1 e f => by
      by_cases c : j < W.length
      · rw [List.getElem?_append_left c] at e
        rw [List.getElem?_append_left (by rw [g.len]; exact c)] at f
        exact .inl ⟨e, f, c⟩
      · rw [List.getElem?_append_right (by omega)] at e
        rw [List.getElem?_append_right (by rw [g.len]; omega), g.len] at f
        have : j - W.length = 0 := by
          have := (List.getElem?_eq_some_iff.1 e).1
          simpa using this
        rw [this] at e f
        cases e
        cases f
        exact .inr ⟨by omega, rfl⟩
    have occ : ∀ (j : Nat) w1 r1, W[j]? = some w1 → R[j]? = some r1 → ∀ b, InW w1 r1 b → H b ≠ none := fun j w1 r1 e f b ib z => by
      obtain ⟨o, eo⟩ := (g.ta j w1 r1 e f).1.toTC.occ ib
      rw [z] at eo
      cases eo
    rcases cs j w1 r1 e1 f1 with ⟨a1, b1, c1⟩ | ⟨a1, b1⟩
    · rcases cs k w2 r2 e2 f2 with ⟨a2, b2, c2⟩ | ⟨a2, b2⟩
      · exact g.dis j k w1 w2 r1 r2 a1 b1 a2 b2 ne b ib
      · rw [b2]
        exact fun z => occ j w1 r1 a1 b1 b ib (inn b z)
    · rcases cs k w2 r2 e2 f2 with ⟨a2, b2, c2⟩ | ⟨a2, b2⟩
      · rw [b1] at ib
        exact fun z => occ k w2 r2 a2 b2 b z (inn b ib)
      · exact absurd (a1.trans a2.symm) ne
  · obtain ⟨⟨o, eo⟩, no⟩ := g.out b hb
    refine ⟨⟨o, sm b o eo⟩, fun j w' r' hw' hr' => ?_⟩
    by_cases c : j < W.length
    · rw [List.getElem?_append_left c] at hw'
      rw [List.getElem?_append_left (by rw [g.len]; exact c)] at hr'
      exact no j w' r' hw' hr'
    · rw [List.getElem?_append_right (by omega)] at hw'
      rw [List.getElem?_append_right (by rw [g.len]; omega), g.len] at hr'
      have : j - W.length = 0 := by
        have := (List.getElem?_eq_some_iff.1 hw').1
        simpa using this
      rw [this] at hw' hr'
      cases hw'
      cases hr'
      intro z
      rw [inn b z] at eo
      cases eo
end
end Nu

set_option Elab.async false
set_option linter.all false
set_option maxRecDepth 100000
set_option autoImplicit false
set_option maxHeartbeats 4000000
set_option pp.maxSteps 900
namespace Nu
open PySem PySem.Spec PyProof.Rows L2 Rd Tm
local macro_rules | `(tactic| walk_at "hp") => `(tactic| first | assumption | (refine same_get ?sm ?_; (case sm => assumption); walk_at "hp"))
local macro_rules | `(tactic| walk_at "rd") => `(tactic| first
  | (with_reducible show Ends.nx _ _ _; with_reducible refine w_nx ?_)
  | with_reducible refine w_rt ?_
  | (with_reducible show Ends.bk _ _ _; with_reducible refine w_bk ?_)
  | (with_reducible show Ends.ct _ _ _; with_reducible refine w_ct ?_)
  | with_reducible refine w_seq ?_
  | with_reducible refine w_next ?_
  | with_reducible refine w_ret ?_
  | with_reducible refine w_ifS ?_
  | with_reducible refine w_asg ?_
  | with_reducible refine w_name ?_
  | with_reducible refine w_par ?_
  | with_reducible refine w_parI ?_
  | with_reducible refine w_ii ?_
  | with_reducible refine w_i1 ?_
  | with_reducible refine w_drop ?_
  | with_reducible refine w_sFld ?_
  | ((with_reducible refine' w_var ?rdh ?_); (case rdh => exact rfl))
  | with_reducible refine w_c ?_
  | with_reducible refine w_op ?_
  | with_reducible refine w_un ?_
  | with_reducible refine w_I0 ?_
  | with_reducible refine w_U ?_
  | with_reducible refine w_bits ?_
  | with_reducible refine w_bitsI ?_
  | with_reducible refine w_tup ?_
  | with_reducible refine w_lst ?_
  | with_reducible refine w_nil ?_
  | with_reducible refine w_cons ?_
  | with_reducible refine w_fld ?_
  | with_reducible refine w_call ?_
  | with_reducible refine w_make ?_
  | with_reducible refine w_gsub ?_
  | with_reducible refine w_int1 ?_
  | with_reducible refine w_intB ?_
  | with_reducible refine w_for ?_
  | with_reducible refine w_rng1 ?_
  | with_reducible refine w_iList ?_
  | with_reducible refine w_iTup ?_
  | with_reducible refine w_makeD ?_
  | with_reducible refine w_nn ?_
  | with_reducible refine w_subB ?_
  | with_reducible refine w_meth ?_
  | with_reducible refine w_cb ?_
  | with_reducible refine w_test ?_
  | with_reducible refine w_B ?_
  | with_reducible refine w_bl ?_
  | with_reducible refine w_andV ?_
  | with_reducible refine w_orV ?_
  | with_reducible refine w_notV ?_
  | with_reducible refine w_and ?_
  | with_reducible refine w_or ?_
  | with_reducible refine w_not ?_
  | with_reducible refine w_if ?_
  | with_reducible refine w_gnil ?_
  | with_reducible refine w_gcons ?_
  | with_reducible refine iT ?_
  | with_reducible refine iF ?_
  | with_reducible refine w_eqI ?_
  | with_reducible refine w_neI ?_
  | with_reducible refine w_eqS ?_
  | with_reducible refine w_eqIS ?_
  | with_reducible refine w_eqSI ?_)

abbrev s_kind_name : Stmt := top 9
abbrev s_is_function : Stmt := top 10
abbrev s_meta_of : Stmt := top 43
abbrev s_call_target : Stmt := top 44
abbrev s_set_meta : Stmt := top 45
abbrev s_told_meta : Stmt := top 46
abbrev s_is_closable : Stmt := top 47
abbrev s_Native_init : Stmt := inClass (top 7) 0
abbrev s_Table_kind_word : Stmt := inClass (top 40) 1
abbrev s_Native_kind_word : Stmt := inClass (top 7) 1
abbrev s_Thrown_init : Stmt := inClass (top 5) 0
structure AllW (K : PySem.W.Frag) (mg : Str → Option Value) (CF CT CN CZ CG CW CE : Addr) : Prop extends AllN K mg CF CT CN CZ where
  g_Function : mg "Function" = some (.ref CG)
  g_Wrapped : mg "Wrapped" = some (.ref CW)
  l_Native : Cls K CZ
  y_Native : ClsTy K CZ
  n_name : NoAttr K CZ "name"
  n_act : NoAttr K CZ "act"
  x_Native : TxC K mg "Native" CZ "Native.__init__" s_Native_init ["self", "name", "act"]
  x_kwT : TxM K CT "kind_word" "Table.kind_word" s_Table_kind_word ["self"]
  x_kwZ : TxM K CZ "kind_word" "Native.kind_word" s_Native_kind_word ["self"]
  x_kind_name : Tx K mg "kind_name" "kind_name" s_kind_name ["value"]
  x_is_function : Tx K mg "is_function" "is_function" s_is_function ["value"]
  x_meta_of : Tx K mg "meta_of" "meta_of" s_meta_of ["value", "name"]
  x_call_target : Tx K mg "call_target" "call_target" s_call_target ["called", "args"]
  x_set_meta : Tx K mg "set_meta" "set_meta" s_set_meta ["table", "meta"]
  x_told_meta : Tx K mg "told_meta" "told_meta" s_told_meta ["value"]
  x_is_closable : Tx K mg "is_closable" "is_closable" s_is_closable ["value"]
  c_MOST_CALLED : ∃ t, mg "MOST_CALLED" = some (.int 100 t)
  ne_TZ : CT ≠ CZ
  i_TG : PySem.W.kitOne K (.ref CT) (.ref CG) = some false
  i_TW : PySem.W.kitOne K (.ref CT) (.ref CW) = some false
  i_Zint : PySem.W.kitOne K (.ref CZ) (.type "int") = some false
  i_Zbool : PySem.W.kitOne K (.ref CZ) (.type "bool") = some false
  i_Zstr : PySem.W.kitOne K (.ref CZ) (.type "str") = some false
  i_ZT : PySem.W.kitOne K (.ref CZ) (.ref CT) = some false
  i_ZG : PySem.W.kitOne K (.ref CZ) (.ref CG) = some false
  i_intT : PySem.W.kitOne K (.type "int") (.ref CT) = some false
  i_intG : PySem.W.kitOne K (.type "int") (.ref CG) = some false
  i_intZ : PySem.W.kitOne K (.type "int") (.ref CZ) = some false
  i_intW : PySem.W.kitOne K (.type "int") (.ref CW) = some false
  i_boolT : PySem.W.kitOne K (.type "bool") (.ref CT) = some false
  i_boolG : PySem.W.kitOne K (.type "bool") (.ref CG) = some false
  i_boolZ : PySem.W.kitOne K (.type "bool") (.ref CZ) = some false
  i_boolW : PySem.W.kitOne K (.type "bool") (.ref CW) = some false
  i_strT : PySem.W.kitOne K (.type "str") (.ref CT) = some false
  i_strG : PySem.W.kitOne K (.type "str") (.ref CG) = some false
  i_strZ : PySem.W.kitOne K (.type "str") (.ref CZ) = some false
  i_strW : PySem.W.kitOne K (.type "str") (.ref CW) = some false
  i_nonT : PySem.W.kitOne K (.type "NoneType") (.ref CT) = some false
  i_nonG : PySem.W.kitOne K (.type "NoneType") (.ref CG) = some false
  i_nonZ : PySem.W.kitOne K (.type "NoneType") (.ref CZ) = some false
  i_nonW : PySem.W.kitOne K (.type "NoneType") (.ref CW) = some false
  b_AE : mg "ArithmeticError" = none
  v_AE : PySem.W.findCls K (.type "ArithmeticError") (.type "type") "__init__" = some (.val (.builtin "ArithmeticError.__init__"))
  g_Thrown : mg "Thrown" = some (.ref CE)
  a_Thrown : AexC K CE
  xf_Thrown : XfC K CE
  xn_value : PySem.W.findIn K (.ref CE) "value" = some none
  xn_level : PySem.W.findIn K (.ref CE) "level" = some none
  e_Thrown : PySem.W.exmOne K (.ref CE) (.ref CE) = some true
/-! ### kinds of values -/
inductive Kd1 | non | bl | int | str | tab | nat
deriving DecidableEq
def adrs (W : List WR) : List Addr := W.map (·.x)
def Vk (CZ : Addr) (W : List WR) (H : Hp) : Kd1 → V → Prop
  | .non, v => v = .non
  | .bl, v => ∃ b, v = .bl b
  | .int, v => ∃ i, v = .int i
  | .str, v => ∃ z, v = .str z
  | .tab, v => ∃ a, v = .ref a ∧ a ∈ adrs W
  | .nat, v => ∃ a dx fs, v = .ref a ∧ H a = some (.ins CZ dx fs) ∧ fs.lookup ("kind_word" : Str) = none
def kdW : Kd1 → Str
  | .non => "nil"
  | .bl => "boolean"
  | .int => "number"
  | .str => "string"
  | .tab => "table"
  | .nat => "function"
theorem kdW_len (k : Kd1) : (kdW k).length ≤ 8 := by cases k <;> decide +kernel
/-- the record of a table -/
def recW (W : List WR) (a : Addr) : Option WR := W.find? fun w => decide (w.x = a)
/-- a field of a value's metatable -/
def metaW (W : List WR) (v : V) (z : Str) : V := match v with
  | .ref a => (match recW W a with
    | some w => (match w.m with
      | .ref b => (match recW W b with
        | some u => tell u.T (.str z)
        | none => .non)
      | _ => .non)
    | none => .non)
  | _ => .non
/-- what stands in the tables has a kind, metatables are tables -/
structure Gd (CZ : Addr) (W : List WR) (H : Hp) : Prop where
  v : ∀ w ∈ W, ∀ k, ∃ kd, Vk CZ W H kd (tell w.T k)
  m : ∀ w ∈ W, w.m = .non ∨ ∃ b, w.m = .ref b ∧ b ∈ adrs W
section
variable {CF CT CN CZ : Addr} {S : List Addr} {W W' : List WR} {H H' : Hp} {v : V} {kd : Kd1}
theorem Vk.same (h : Vk CZ W H kd v) (s : Same H H') : Vk CZ W H' kd v := by
  cases kd with
  | nat => obtain ⟨a, dx, fs, e, h1, h2⟩ := h; exact ⟨a, dx, fs, e, s _ _ h1, h2⟩
  | _ => exact h
theorem Vk.sub (h : Vk CZ W H kd v) (s : ∀ a ∈ adrs W, a ∈ adrs W') : Vk CZ W' H kd v := by
  cases kd with
  | tab => obtain ⟨a, e, h1⟩ := h; exact ⟨a, e, s _ h1⟩
  | _ => exact h
theorem Vk.keep (h : Vk CZ W H kd v) (ne : CT ≠ CZ) (ne2 : CN ≠ CZ) (s : KeepT CT CN H H') : Vk CZ W H' kd v := by
  cases kd with
  | nat => obtain ⟨a, dx, fs, e, h1, h2⟩ := h; exact ⟨a, dx, fs, e, s _ _ h1 (fun _ _ z => by cases z; exact ne rfl) (fun _ _ z => by cases z; exact ne2 rfl) (fun _ z => by cases z), h2⟩
  | _ => exact h
theorem rec_at {w : WR} (h : recW W w.x = some w) : w ∈ W := List.mem_of_find?_eq_some h
theorem rec_mem {a : Addr} (h : a ∈ adrs W) : ∃ w, recW W a = some w ∧ w.x = a ∧ w ∈ W := by
  obtain ⟨w0, h0, rfl⟩ := List.mem_map.1 h
  cases e : recW W w0.x with
  | none =>
    have := List.find?_eq_none.1 e w0 h0
    simp at this
  | some w => exact ⟨w, rfl, by simpa using List.find?_some e, List.mem_of_find?_eq_some e⟩
theorem rec_none {a : Addr} (h : a ∉ adrs W) : recW W a = none := by
  cases e : recW W a with
  | none => rfl
  | some w => exact absurd (List.mem_map.2 ⟨w, List.mem_of_find?_eq_some e, by simpa using List.find?_some e⟩) h
theorem mem_at {w : WR} (h : w ∈ W) : ∃ i : Nat, W[i]? = some w := List.mem_iff_getElem?.1 h
theorem MT.ins (g : MT CF CT CN S W H) {w : WR} (h : w ∈ W) : ∃ dx pa pn fr, H w.x = some (.ins CT dx (tF w.n w.m pa pn fr)) := by
  obtain ⟨i, hi⟩ := mem_at h
  obtain ⟨dx, pa, pn, fr, e, _⟩ := g.at hi
  exact ⟨dx, pa, pn, fr, e⟩
theorem MT.nat (g : MT CF CT CN S W H) (ne : CT ≠ CZ) {a dx : Addr} {fs : List (Str × V)} (h : H a = some (.ins CZ dx fs)) : a ∉ adrs W := fun z => by
  obtain ⟨w, _, rfl, hw⟩ := rec_mem z
  obtain ⟨dx, pa, pn, fr, e⟩ := g.ins hw
  rw [h] at e
  cases e
  exact ne rfl
def shp : V → Nat
  | .non => 0
  | .bl _ => 1
  | .int _ => 2
  | .str _ => 3
  | .ref _ => 4
  | _ => 5
def shK : Kd1 → Nat
  | .non => 0
  | .bl => 1
  | .int => 2
  | .str => 3
  | .tab => 4
  | .nat => 4
theorem Vk.shp {k : Kd1} (h : Vk CZ W H k v) : shp v = shK k := by
  cases k with
  | non => rw [show v = .non from h]; rfl
  | bl => obtain ⟨_, rfl⟩ := h; rfl
  | int => obtain ⟨_, rfl⟩ := h; rfl
  | str => obtain ⟨_, rfl⟩ := h; rfl
  | tab => obtain ⟨_, rfl, _⟩ := h; rfl
  | nat => obtain ⟨_, _, _, rfl, _⟩ := h; rfl
theorem Vk.det (g : MT CF CT CN S W H) (ne : CT ≠ CZ) {k k' : Kd1} (h : Vk CZ W H k v) (h' : Vk CZ W H k' v) : k = k' := by
  have e := h.shp.symm.trans h'.shp
  have go : ∀ a, a ∈ adrs W → ∀ a' dx fs, V.ref a = V.ref a' → H a' = some (.ins CZ dx fs) → False := fun a h1 a' dx fs e h2 => by
    cases e
    exact g.nat ne h2 h1
  cases k <;> cases k' <;> first
    | rfl
    | (exact absurd e (by decide))
    | (exfalso
       obtain ⟨a, rfl, h1⟩ := h
       obtain ⟨b, dx, fs, e, h2, _⟩ := h'
       exact go a h1 b dx fs e h2)
    | (exfalso
       obtain ⟨b, dx, fs, e, h2, _⟩ := h
       obtain ⟨a, e2, h1⟩ := h'
       exact go a h1 b dx fs (e2.symm.trans e) h2)
/-- the kind of a value -/
def kdOf (W : List WR) : V → Kd1
  | .non => .non
  | .bl _ => .bl
  | .int _ => .int
  | .str _ => .str
  | .ref a => if (recW W a).isSome then .tab else .nat
  | _ => .non
theorem Vk.of (g : MT CF CT CN S W H) (ne : CT ≠ CZ) {k : Kd1} (h : Vk CZ W H k v) : kdOf W v = k := by
  cases k with
  | non => rw [show v = .non from h]; rfl
  | bl => obtain ⟨_, rfl⟩ := h; rfl
  | int => obtain ⟨_, rfl⟩ := h; rfl
  | str => obtain ⟨_, rfl⟩ := h; rfl
  | tab =>
    obtain ⟨a, rfl, ha⟩ := h
    obtain ⟨w, hw, _⟩ := rec_mem ha
    show (if (recW W a).isSome then Kd1.tab else .nat) = .tab
    rw [hw]
    rfl
  | nat =>
    obtain ⟨a, dx, fs, rfl, e, _⟩ := h
    show (if (recW W a).isSome then Kd1.tab else .nat) = .nat
    rw [rec_none (g.nat ne e)]
    rfl
theorem metaW_none {a : Addr} {z : Str} (h : recW W a = none) : metaW W (.ref a) z = .non := by simp only [metaW, h]
theorem metaW_m {a : Addr} {z : Str} {w : WR} (h : recW W a = some w) (hm : w.m = .non) : metaW W (.ref a) z = .non := by simp only [metaW, h, hm]
theorem metaW_t {a b : Addr} {z : Str} {w u : WR} (h : recW W a = some w) (hm : w.m = .ref b) (hu : recW W b = some u) : metaW W (.ref a) z = tell u.T (.str z) := by simp only [metaW, h, hm, hu]
end
section
variable {P : Program} {w : World} {K : PySem.W.Frag} {mg : Str → Option Value} {base : Heap} {CF CT CN CZ CG CW CE : Addr}
theorem says_k1 (T : AllW K mg CF CT CN CZ CG CW CE) {S : List Addr} {W : List WR} {H : Hp} {kd : Kd1} {v : V} (g : MT CF CT CN S W H) (h : Vk CZ W H kd v) : ∃ t, TyX K H v t ∧ PySem.W.kitOne K t (.type "int") = some (decide (kd = .int) || decide (kd = .bl)) ∧ PySem.W.kitOne K t (.type "bool") = some (decide (kd = .bl)) ∧ PySem.W.kitOne K t (.type "str") = some (decide (kd = .str)) ∧
    PySem.W.kitOne K t (.ref CT) = some (decide (kd = .tab)) ∧ PySem.W.kitAny K t [.ref CG, .ref CZ, .ref CW] = some (decide (kd = .nat)) := by
  have three : ∀ t b, PySem.W.kitOne K t (.ref CG) = some false → PySem.W.kitOne K t (.ref CZ) = some b → (b = false → PySem.W.kitOne K t (.ref CW) = some false) → PySem.W.kitAny K t [.ref CG, .ref CZ, .ref CW] = some b := fun t b h1 h2 h3 => by
    unfold PySem.W.kitAny
    rw [h1]
    unfold PySem.W.kitAny
    rw [h2]
    cases b with
    | true => rfl
    | false =>
      unfold PySem.W.kitAny
      rw [h3 rfl]
      rfl
  cases kd with
  | non =>
    obtain rfl : v = .non := h
    exact ⟨_, .base .non, kit_ty (r := false) (by decide +kernel), kit_ty (r := false) (by decide +kernel), kit_ty (r := false) (by decide +kernel), T.i_nonT, three _ false T.i_nonG T.i_nonZ fun _ => T.i_nonW⟩
  | bl =>
    obtain ⟨b, rfl⟩ := h
    exact ⟨_, .base (.bl b), kit_ty (r := true) (by decide +kernel), kit_ty (r := true) (by decide +kernel), kit_ty (r := false) (by decide +kernel), T.i_boolT, three _ false T.i_boolG T.i_boolZ fun _ => T.i_boolW⟩
  | int =>
    obtain ⟨i, rfl⟩ := h
    exact ⟨_, .base (.int i), kit_ty (r := true) (by decide +kernel), kit_ty (r := false) (by decide +kernel), kit_ty (r := false) (by decide +kernel), T.i_intT, three _ false T.i_intG T.i_intZ fun _ => T.i_intW⟩
  | str =>
    obtain ⟨z, rfl⟩ := h
    exact ⟨_, .base (.str z), kit_ty (r := false) (by decide +kernel), kit_ty (r := false) (by decide +kernel), kit_ty (r := true) (by decide +kernel), T.i_strT, three _ false T.i_strG T.i_strZ fun _ => T.i_strW⟩
  | tab =>
    obtain ⟨a, rfl, ha⟩ := h
    obtain ⟨w, _, rfl, hw⟩ := rec_mem ha
    obtain ⟨dx, pa, pn, fr, e⟩ := g.ins hw
    exact ⟨_, ty_ins T.l_Table T.y_Table e, T.i_Tint, T.i_Tbool, T.i_Tstr, kit_self K CT, three _ false T.i_TG T.i_TZ fun _ => T.i_TW⟩
  | nat =>
    obtain ⟨a, dx, fs, rfl, e, _⟩ := h
    exact ⟨_, ty_ins T.l_Native T.y_Native e, T.i_Zint, T.i_Zbool, T.i_Zstr, T.i_ZT, three _ true T.i_ZG (kit_self K CZ) fun z => by cases z⟩
/-! ### kind_name, is_function, meta_of -/
def spKw (C : Addr) (z : Str) : Sp := fun vs H Q _ => ∃ a dx fs, vs = [.ref a] ∧ H a = some (.ins C dx fs) ∧ Q (.str z) H
theorem sc_Table_kind_word : FnScope ["self"] ["self"] (defScope s_Table_kind_word) := ⟨rfl, rfl, rfl, by decide +kernel, rfl, by decide +kernel, by decide +kernel⟩
theorem ok_kwT (T : AllW K mg CF CT CN CZ CG CW CE) : KnM P w K mg base CX0 1 CT "kind_word" ["self"] (spKw CT "table") := by
  refine T.x_kwT.kn fun f fd F => ?_
  refine F.ok sc_Table_kind_word (fun vs H Q E h => ?_) (fun cdv A outer s H vs Q E hr h => ?_)
  · obtain ⟨a, dx, fs, rfl, _⟩ := h
    rfl
  · obtain ⟨a, dx, fs, rfl, e, q⟩ := h
    refine ⟨_, (pss_one (ps_ret pe_str)), ?_⟩
    repeat walk_at "rd"
    exact q
theorem sc_Native_kind_word : FnScope ["self"] ["self"] (defScope s_Native_kind_word) := ⟨rfl, rfl, rfl, by decide +kernel, rfl, by decide +kernel, by decide +kernel⟩
theorem ok_kwZ (T : AllW K mg CF CT CN CZ CG CW CE) : KnM P w K mg base CX0 1 CZ "kind_word" ["self"] (spKw CZ "function") := by
  refine T.x_kwZ.kn fun f fd F => ?_
  refine F.ok sc_Native_kind_word (fun vs H Q E h => ?_) (fun cdv A outer s H vs Q E hr h => ?_)
  · obtain ⟨a, dx, fs, rfl, _⟩ := h
    rfl
  · obtain ⟨a, dx, fs, rfl, e, q⟩ := h
    refine ⟨_, (pss_one (ps_ret pe_str)), ?_⟩
    repeat walk_at "rd"
    exact q
/-- a native function's fields -/
def nvF (z : Str) : List (Str × V) := [("name", .str z), ("act", .non)]
def spKn (CF CT CN CZ : Addr) : Sp := fun vs H Q _ => ∃ S W v kd, vs = [v] ∧ MT CF CT CN S W H ∧ Vk CZ W H kd v ∧ Q (.str (kdW kd)) H
theorem sc_kind_name : FnScope ["value"] ["value"] (defScope s_kind_name) := ⟨rfl, rfl, rfl, by decide +kernel, rfl, by decide +kernel, by decide +kernel⟩
theorem ok_kind_name (T : AllW K mg CF CT CN CZ CG CW CE) (k_Table_kind_word : KnM P w K mg base CX0 1 CT "kind_word" ["self"] (spKw CT "table")) (k_Native_kind_word : KnM P w K mg base CX0 1 CZ "kind_word" ["self"] (spKw CZ "function")) : Kn P w K mg base CX0 2 "kind_name" ["value"] (spKn CF CT CN CZ) := by
  refine T.x_kind_name.kn fun f fd F => ?_
  refine F.ok sc_kind_name (fun vs H Q E h => ?_) (fun cdv A outer s H vs Q E hr h => ?_)
  · obtain ⟨S, W, v, kd, rfl, _⟩ := h
    rfl
  · obtain ⟨S, W, v, kd, rfl, g, hk, q⟩ := h
    refine ⟨_, (pss_cons (ps_if (pt_cmpR op_isN (pv 0) pe_non (nomark _)) (pss_one (ps_ret pe_str)) pss_nil)
      (pss_cons (ps_if (pt_val (pe_callB call_isi (by rfl) T.b_isinstance boot_isinstance (pa_cons (pv 0) (pa_cons (pe_bltn (by rfl) T.b_bool boot_bool (rty _)) pa_nil)))) (pss_one (ps_ret pe_str)) pss_nil)
      (pss_cons (ps_if (pt_val (pe_callB call_isi (by rfl) T.b_isinstance boot_isinstance (pa_cons (pv 0) (pa_cons (pe_bltn (by rfl) T.b_int boot_int (rty _)) pa_nil)))) (pss_one (ps_ret pe_str)) pss_nil)
      (pss_one (ps_ret (pe_ifExp (pt_val (pe_callB call_isi (by rfl) T.b_isinstance boot_isinstance (pa_cons (pv 0) (pa_cons (pe_bltn (by rfl) T.b_str boot_str (rty _)) pa_nil)))) pe_str (pe_orR (pkM0 k_Table_kind_word T.l_Table hr (pv 0) rfl) (pkM0 k_Native_kind_word T.l_Native hr (pv 0) rfl)))))))), ?_⟩
    obtain ⟨t, ty, i1, i2, i3, i4, i5⟩ := says_k1 T g hk
    repeat walk_at "rd"
    cases kd with
    | non =>
      obtain rfl : v = .non := hk
      refine iD (fun _ => ?_) (fun z => absurd rfl z)
      repeat walk_at "rd"
      exact q
    | bl =>
      obtain ⟨b, rfl⟩ := hk
      refine iD (fun z => by cases z) (fun _ => ?_)
      repeat walk_at "rd"
      refine w_isi (.ty "bool") ty i2 ?_
      repeat walk_at "rd"
      refine iT ?_
      repeat walk_at "rd"
      exact q
    | int =>
      obtain ⟨i, rfl⟩ := hk
      refine iD (fun z => by cases z) (fun _ => ?_)
      repeat walk_at "rd"
      refine w_isi (.ty "bool") ty i2 ?_
      repeat walk_at "rd"
      refine iF ?_
      repeat walk_at "rd"
      refine w_isi (.ty "int") ty i1 ?_
      repeat walk_at "rd"
      refine iT ?_
      repeat walk_at "rd"
      exact q
    | str =>
      obtain ⟨z, rfl⟩ := hk
      refine iD (fun z => by cases z) (fun _ => ?_)
      repeat walk_at "rd"
      refine w_isi (.ty "bool") ty i2 ?_
      repeat walk_at "rd"
      refine iF ?_
      repeat walk_at "rd"
      refine w_isi (.ty "int") ty i1 ?_
      repeat walk_at "rd"
      refine iF ?_
      repeat walk_at "rd"
      refine w_isi (.ty "str") ty i3 ?_
      repeat walk_at "rd"
      refine iT ?_
      repeat walk_at "rd"
      exact q
    | tab =>
      obtain ⟨a, rfl, ha⟩ := hk
      obtain ⟨w', _, rfl, hw'⟩ := rec_mem ha
      obtain ⟨dx, pa, pn, fr, e⟩ := g.ins hw'
      refine iD (fun z => by cases z) (fun _ => ?_)
      repeat walk_at "rd"
      refine w_isi (.ty "bool") ty i2 ?_
      repeat walk_at "rd"
      refine iF ?_
      repeat walk_at "rd"
      refine w_isi (.ty "int") ty i1 ?_
      repeat walk_at "rd"
      refine iF ?_
      repeat walk_at "rd"
      refine w_isi (.ty "str") ty i3 ?_
      repeat walk_at "rd"
      refine iF ?_
      repeat walk_at "rd"
      refine .inl ?_
      repeat walk_at "rd"
      refine w_methI e (lk_t _ _ _ _ _ (by decide +kernel)) ?_
      repeat walk_at "rd"
      exact ⟨_, _, _, rfl, e, q⟩
    | nat =>
      obtain ⟨a, dx, fs, rfl, e, lw⟩ := hk
      refine iD (fun z => by cases z) (fun _ => ?_)
      repeat walk_at "rd"
      refine w_isi (.ty "bool") ty i2 ?_
      repeat walk_at "rd"
      refine iF ?_
      repeat walk_at "rd"
      refine w_isi (.ty "int") ty i1 ?_
      repeat walk_at "rd"
      refine iF ?_
      repeat walk_at "rd"
      refine w_isi (.ty "str") ty i3 ?_
      repeat walk_at "rd"
      refine iF ?_
      repeat walk_at "rd"
      refine .inr ?_
      repeat walk_at "rd"
      refine w_methI e lw ?_
      repeat walk_at "rd"
      exact ⟨_, _, _, rfl, e, q⟩
def spIsf (CF CT CN CZ : Addr) : Sp := fun vs H Q _ => ∃ S W v kd, vs = [v] ∧ MT CF CT CN S W H ∧ Vk CZ W H kd v ∧ ∀ H', Same H H' → Q (.bl (decide (kd = .nat))) H'
theorem sc_is_function : FnScope ["value"] ["value"] (defScope s_is_function) := ⟨rfl, rfl, rfl, by decide +kernel, rfl, by decide +kernel, by decide +kernel⟩
theorem ok_is_function (T : AllW K mg CF CT CN CZ CG CW CE) : Kn P w K mg base CX0 1 "is_function" ["value"] (spIsf CF CT CN CZ) := by
  refine T.x_is_function.kn fun f fd F => ?_
  refine F.ok sc_is_function (fun vs H Q E h => ?_) (fun cdv A outer s H vs Q E hr h => ?_)
  · obtain ⟨S, W, v, kd, rfl, _⟩ := h
    rfl
  · obtain ⟨S, W, v, kd, rfl, g, hk, q⟩ := h
    refine ⟨_, (pss_one (ps_ret (pe_callB call_isiT (by rfl) T.b_isinstance boot_isinstance (pa_cons (pv 0) (pa_cons (pe_tup (pa_cons (pg "Function" T.g_Function (rref _)) (pa_cons (pg "Native" T.g_Native (rref _)) (pa_cons (pg "Wrapped" T.g_Wrapped (rref _)) pa_nil)))) pa_nil))))), ?_⟩
    repeat walk_at "rd"
    refine w_tup3 fun q1 H1 s1 n1 h1 => ?_
    obtain ⟨t, ty, i1, i2, i3, i4, i5⟩ := says_k1 T (g.same s1) (hk.same s1)
    repeat walk_at "rd"
    refine ⟨v, q1, _, t, _, _, rfl, h1, .cons (.own CG) (.cons (.own CZ) (.cons (.own CW) .nil)), ty, i5, ?_⟩
    repeat walk_at "rd"
    exact q H1 s1
def spMof (CF CT CN CZ : Addr) : Sp := fun vs H Q _ => ∃ S W v kd z, vs = [v, .str z] ∧ MT CF CT CN S W H ∧ Gd CZ W H ∧ Vk CZ W H kd v ∧ ∀ H', Same H H' → Q (metaW W v z) H'
theorem sc_meta_of : FnScope ["value", "name"] ["value", "name"] (defScope s_meta_of) := ⟨rfl, rfl, rfl, by decide +kernel, rfl, by decide +kernel, by decide +kernel⟩
theorem ok_meta_of (T : AllW K mg CF CT CN CZ CG CW CE) (k_Table_get : KnM P w K mg base CX0 6 CT "get" ["self", "key"] (spGet CF CT CN)) : Kn P w K mg base CX0 7 "meta_of" ["value", "name"] (spMof CF CT CN CZ) := by
  refine T.x_meta_of.kn fun f fd F => ?_
  refine F.ok sc_meta_of (fun vs H Q E h => ?_) (fun cdv A outer s H vs Q E hr h => ?_)
  · obtain ⟨S, W, v, kd, z, rfl, _⟩ := h
    rfl
  · obtain ⟨S, W, v, kd, z, rfl, g, gd, hk, q⟩ := h
    refine ⟨_, (pss_cons (ps_if (PW.pt (pw_or (pt_not (pt_val (pe_callB call_isi (by rfl) T.b_isinstance boot_isinstance (pa_cons (pv 0) (pa_cons (pg "Table" T.g_Table (rref _)) pa_nil))))) (pw_or1 (pt_cmpR op_isN (pe_fld (pv 0) rfl) pe_non (nomark _))))) (pss_one (ps_ret pe_non)) pss_nil)
      (pss_one (ps_ret (pkM k_Table_get T.l_Table hr (pe_fld (pv 0) rfl) (pa_cons (pv 1) pa_nil) rfl)))), ?_⟩
    obtain ⟨t, ty, i1, i2, i3, i4, i5⟩ := says_k1 T g hk
    repeat walk_at "rd"
    refine w_isi (.own CT) ty i4 ?_
    repeat walk_at "rd"
    have noT : kd ≠ .tab → metaW W v z = .non := fun n => by
      cases kd with
      | tab => exact absurd rfl n
      | non => obtain rfl : v = .non := hk; rfl
      | bl => obtain ⟨_, rfl⟩ := hk; rfl
      | int => obtain ⟨_, rfl⟩ := hk; rfl
      | str => obtain ⟨_, rfl⟩ := hk; rfl
      | nat =>
        obtain ⟨a, dx, fs, rfl, e, lw⟩ := hk
        exact metaW_none (rec_none (g.nat T.ne_TZ e))
    by_cases c : kd = .tab
    · subst c
      obtain ⟨a, rfl, ha⟩ := hk
      obtain ⟨w', hr', rfl, hw'⟩ := rec_mem ha
      obtain ⟨dx, pa, pn, fr, e⟩ := g.ins hw'
      refine iF ?_
      repeat walk_at "rd"
      refine w_fldI e T.l_Table T.n_meta (v := w'.m) rfl ?_
      repeat walk_at "rd"
      rcases gd.m w' hw' with hm | ⟨b, hm, hb⟩
      · rw [hm]
        refine iD (fun _ => ?_) (fun z => absurd rfl z)
        repeat walk_at "rd"
        have q' := q H (Same.refl _)
        rw [metaW_m hr' hm] at q'
        exact q'
      · obtain ⟨u, hu, rfl, hu'⟩ := rec_mem hb
        rw [hm]
        refine iD (fun z => by cases z) (fun _ => ?_)
        repeat walk_at "rd"
        refine w_fldI e T.l_Table T.n_meta (v := w'.m) rfl ?_
        rw [hm]
        obtain ⟨dx2, pa2, pn2, fr2, e2⟩ := g.ins hu'
        repeat walk_at "rd"
        refine w_methI e2 (lk_t _ _ _ _ _ (by decide +kernel)) ?_
        repeat walk_at "rd"
        obtain ⟨j, hj⟩ := mem_at hu'
        refine u_mget (r := .ky (.str z)) g hj ⟨trivial, rfl⟩ (fun H' g' s' => ?_) _ rfl
        have q' := q H' s'
        rw [metaW_t hr' hm hu] at q'
        rw [show getR u.T (.ky (.str z)) = tell u.T (.str z) from getM_tell _ _]
        exact q'
    · rw [decide_eq_false c]
      refine iT ?_
      repeat walk_at "rd"
      have q' := q H (Same.refl _)
      rw [noT c] at q'
      exact q'
end
end Nu

set_option Elab.async false
set_option linter.all false
set_option maxRecDepth 100000
set_option autoImplicit false
set_option maxHeartbeats 4000000
set_option pp.maxSteps 900
namespace Rd
open PySem PySem.Spec PyProof.Rows L2
/-- x is True, x is False: x no bool -/
def rIsOB (W : V → Prop) : R2 := fun x y H Q => W x ∧ (∃ b, y = .bl b) ∧ Q (.bl false) H
def NoBl : V → Prop
  | .non => True
  | .int _ => True
  | .str _ => True
  | .ref _ => True
  | _ => False
theorem op_isOB {X : Cx} : OpR X (compareOp .Is) (rIsOB NoBl) := by
  intro pins s σ H x y v u Q I rx ry h
  obtain ⟨n, ⟨b, rfl⟩, q⟩ := h
  cases (show u = Value.bool b from ry)
  cases x with
  | non => cases rx; exact wpAny_is_other rfl (fun z => by cases z) ⟨.bl false, H, I, rfl, q⟩
  | int i => obtain ⟨t, rfl⟩ := rx; exact wpAny_is_other rfl (fun z => by cases z) ⟨.bl false, H, I, rfl, q⟩
  | str z => obtain ⟨t, rfl⟩ := rx; exact wpAny_is_other rfl (fun z => by cases z) ⟨.bl false, H, I, rfl, q⟩
  | ref a => cases rx; exact wpAny_is_other rfl (fun z => by cases z) ⟨.bl false, H, I, rfl, q⟩
  | _ => cases n
end Rd
namespace Nu
open PySem PySem.Spec PyProof.Rows L2 Rd Tm
local macro_rules | `(tactic| walk_at "hp") => `(tactic| first | assumption | (refine same_get ?sm ?_; (case sm => assumption); walk_at "hp"))
local macro_rules | `(tactic| walk_at "rd") => `(tactic| first
  | (with_reducible show Ends.nx _ _ _; with_reducible refine w_nx ?_)
  | with_reducible refine w_rt ?_
  | (with_reducible show Ends.bk _ _ _; with_reducible refine w_bk ?_)
  | (with_reducible show Ends.ct _ _ _; with_reducible refine w_ct ?_)
  | with_reducible refine w_seq ?_
  | with_reducible refine w_next ?_
  | with_reducible refine w_ret ?_
  | with_reducible refine w_ifS ?_
  | with_reducible refine w_asg ?_
  | with_reducible refine w_name ?_
  | with_reducible refine w_par ?_
  | with_reducible refine w_parI ?_
  | with_reducible refine w_ii ?_
  | with_reducible refine w_i1 ?_
  | with_reducible refine w_drop ?_
  | with_reducible refine w_sFld ?_
  | ((with_reducible refine' w_var ?rdh ?_); (case rdh => exact rfl))
  | with_reducible refine w_c ?_
  | with_reducible refine w_op ?_
  | with_reducible refine w_un ?_
  | with_reducible refine w_I0 ?_
  | with_reducible refine w_U ?_
  | with_reducible refine w_bits ?_
  | with_reducible refine w_bitsI ?_
  | with_reducible refine w_tup ?_
  | with_reducible refine w_lst ?_
  | with_reducible refine w_nil ?_
  | with_reducible refine w_cons ?_
  | with_reducible refine w_fld ?_
  | with_reducible refine w_call ?_
  | with_reducible refine w_make ?_
  | with_reducible refine w_gsub ?_
  | with_reducible refine w_int1 ?_
  | with_reducible refine w_intB ?_
  | with_reducible refine w_for ?_
  | with_reducible refine w_rng1 ?_
  | with_reducible refine w_iList ?_
  | with_reducible refine w_iTup ?_
  | with_reducible refine w_makeD ?_
  | with_reducible refine w_nn ?_
  | with_reducible refine w_subB ?_
  | with_reducible refine w_meth ?_
  | with_reducible refine w_cb ?_
  | with_reducible refine w_test ?_
  | with_reducible refine w_B ?_
  | with_reducible refine w_bl ?_
  | with_reducible refine w_andV ?_
  | with_reducible refine w_orV ?_
  | with_reducible refine w_notV ?_
  | with_reducible refine w_and ?_
  | with_reducible refine w_or ?_
  | with_reducible refine w_not ?_
  | with_reducible refine w_if ?_
  | with_reducible refine w_gnil ?_
  | with_reducible refine w_gcons ?_
  | with_reducible refine iT ?_
  | with_reducible refine iF ?_
  | with_reducible refine w_eqI ?_
  | with_reducible refine w_neI ?_
  | with_reducible refine w_eqS ?_
  | with_reducible refine w_eqIS ?_
  | with_reducible refine w_eqSI ?_)

def ErrT (CE : Addr) (msg : Str) (H : Hp) (E : XK) : Prop := ∀ d H', Same H H' → H' d = some (.xd (thrFs (.str msg))) → E (.ref CE) (some d) H'
theorem ErrT.same {CE : Addr} {m : Str} {H H1 : Hp} {E : XK} (h : ErrT CE m H E) (s : Same H H1) : ErrT CE m H1 E := fun d H' s1 e => h d H' (s.trans s1) e
/-- what told_meta tells -/
def toldW (W : List WR) (v : V) : V := match v with
  | .ref a => (match recW W a with
    | some w => if metaW W v "__metatable" = .non then w.m else metaW W v "__metatable"
    | none => .non)
  | _ => .non
def msgCall (k : Kd1) : Str := ((Str.empty ++ "attempt to call a ") ++ kdW k) ++ " value"
def msgLong : Str := "'__call' chain too long; possibly a loop"
/-- what a call comes to -/
def callW (W : List WR) : Nat → V → List V → Sum Str (V × List V)
  | 0, _, _ => .inl msgLong
  | n + 1, c, as => if kdOf W c = .nat then .inr (c, as) else if metaW W c "__call" = .non then .inl (msgCall (kdOf W c)) else callW W n (metaW W c "__call") (c :: as)
theorem gd_meta {CF CT CN CZ : Addr} {S : List Addr} {W : List WR} {H : Hp} (gd : Gd CZ W H) (v : V) (z : Str) : ∃ kd, Vk CZ W H kd (metaW W v z) := by
  cases v with
  | ref a =>
    cases hr : recW W a with
    | none => exact ⟨.non, metaW_none hr⟩
    | some w =>
      have hw : w ∈ W := List.mem_of_find?_eq_some hr
      rcases gd.m w hw with hm | ⟨b, hm, hb⟩
      · exact ⟨.non, metaW_m hr hm⟩
      · obtain ⟨u, hu, rfl, hu'⟩ := rec_mem hb
        rw [metaW_t hr hm hu]
        exact gd.v u hu' _
  | _ => exact ⟨.non, rfl⟩
section
variable {CZ : Addr} {W : List WR} {H H' : Hp}
theorem Gd.same (g : Gd CZ W H) (s : Same H H') : Gd CZ W H' := ⟨fun w hw k => let ⟨kd, h⟩ := g.v w hw k; ⟨kd, h.same s⟩, g.m⟩
end
section
variable {P : Program} {w : World} {K : PySem.W.Frag} {mg : Str → Option Value} {base : Heap} {CF CT CN CZ CG CW CE : Addr}
def spTold (CF CT CN CZ : Addr) : Sp := fun vs H Q _ => ∃ S W v kd, vs = [v] ∧ MT CF CT CN S W H ∧ Gd CZ W H ∧ Vk CZ W H kd v ∧ ∀ H', Same H H' → Q (toldW W v) H'
theorem sc_told_meta : FnScope ["value", "found"] ["value"] (defScope s_told_meta) := ⟨rfl, rfl, rfl, by decide +kernel, rfl, by decide +kernel, by decide +kernel⟩
theorem ok_told_meta (T : AllW K mg CF CT CN CZ CG CW CE) (k_Table_get : KnM P w K mg base CX0 6 CT "get" ["self", "key"] (spGet CF CT CN)) : Kn P w K mg base CX0 7 "told_meta" ["value"] (spTold CF CT CN CZ) := by
  refine T.x_told_meta.kn fun f fd F => ?_
  refine F.ok sc_told_meta (fun vs H Q E h => ?_) (fun cdv A outer s H vs Q E hr h => ?_)
  · obtain ⟨S, W, v, kd, rfl, _⟩ := h
    rfl
  · obtain ⟨S, W, v, kd, rfl, g, gd, hk, q⟩ := h
    refine ⟨_, (pss_cons (ps_if (PW.pt (pw_or (pt_not (pt_val (pe_callB call_isi (by rfl) T.b_isinstance boot_isinstance (pa_cons (pv 0) (pa_cons (pg "Table" T.g_Table (rref _)) pa_nil))))) (pw_or1 (pt_cmpR op_isN (pe_fld (pv 0) rfl) pe_non (nomark _))))) (pss_one (ps_ret pe_non)) pss_nil)
      (pss_cons (ps_set (i := 1) sc_told_meta.nd rfl (Or.inl rfl) (pkM k_Table_get T.l_Table hr (pe_fld (pv 0) rfl) (pa_cons pe_str pa_nil) rfl))
      (pss_one (ps_ret (pe_ifExp (pt_cmpR op_isN (pv 1) pe_non (nomark _)) (pe_fld (pv 0) rfl) (pv 1)))))), ?_⟩
    obtain ⟨t, ty, i1, i2, i3, i4, i5⟩ := says_k1 T g hk
    repeat walk_at "rd"
    refine w_isi (.own CT) ty i4 ?_
    repeat walk_at "rd"
    by_cases c : kd = .tab
    · subst c
      obtain ⟨a, rfl, ha⟩ := hk
      obtain ⟨w', hr', rfl, hw'⟩ := rec_mem ha
      obtain ⟨dx, pa, pn, fr, e⟩ := g.ins hw'
      refine iF ?_
      repeat walk_at "rd"
      refine w_fldI e T.l_Table T.n_meta (v := w'.m) rfl ?_
      repeat walk_at "rd"
      rcases gd.m w' hw' with hm | ⟨b, hm, hb⟩
      · rw [hm]
        refine iD (fun _ => ?_) (fun z => absurd rfl z)
        repeat walk_at "rd"
        have q' := q H (Same.refl _)
        unfold toldW at q'
        simp only [hr', metaW_m hr' hm, if_pos] at q'
        rw [hm] at q'
        exact q'
      · obtain ⟨u, hu, rfl, hu'⟩ := rec_mem hb
        rw [hm]
        refine iD (fun z => by cases z) (fun _ => ?_)
        repeat walk_at "rd"
        refine w_fldI e T.l_Table T.n_meta (v := w'.m) rfl ?_
        rw [hm]
        obtain ⟨dx2, pa2, pn2, fr2, e2⟩ := g.ins hu'
        repeat walk_at "rd"
        refine w_methI e2 (lk_t _ _ _ _ _ (by decide +kernel)) ?_
        repeat walk_at "rd"
        obtain ⟨j, hj⟩ := mem_at hu'
        refine u_mget (r := .ky (.str "__metatable")) g hj ⟨trivial, rfl⟩ (fun H' g' s' => ?_) _ rfl
        have q' := q H' s'
        unfold toldW at q'
        simp only [hr'] at q'
        rw [metaW_t hr' hm hu, hm] at q'
        rw [show getR u.T (.ky (.str "__metatable")) = tell u.T (.str "__metatable") from getM_tell _ _]
        repeat walk_at "rd"
        refine iD (fun z => ?_) (fun z => ?_)
        · rw [if_pos z] at q'
          repeat walk_at "rd"
          refine w_fldI (s' _ _ e) T.l_Table T.n_meta (v := w'.m) rfl ?_
          rw [hm]
          exact q'
        · rw [if_neg z] at q'
          repeat walk_at "rd"
          exact q'
    · rw [decide_eq_false c]
      refine iT ?_
      repeat walk_at "rd"
      have q' := q H (Same.refl _)
      have : toldW W v = .non := by
        cases kd with
        | tab => exact absurd rfl c
        | non => obtain rfl : v = .non := hk; rfl
        | bl => obtain ⟨_, rfl⟩ := hk; rfl
        | int => obtain ⟨_, rfl⟩ := hk; rfl
        | str => obtain ⟨_, rfl⟩ := hk; rfl
        | nat =>
          obtain ⟨a, dx, fs, rfl, e, _⟩ := hk
          unfold toldW
          simp only [rec_none (g.nat T.ne_TZ e)]
      rw [this] at q'
      exact q'
def closeB (W : List WR) (v : V) : Bool := decide (v = .non) || decide (v = .bl false) || !decide (metaW W v "__close" = .non)
def spClo (CF CT CN CZ : Addr) : Sp := fun vs H Q _ => ∃ S W v kd, vs = [v] ∧ MT CF CT CN S W H ∧ Gd CZ W H ∧ Vk CZ W H kd v ∧ ∀ H', Same H H' → Q (.bl (closeB W v)) H'
theorem sc_is_closable : FnScope ["value"] ["value"] (defScope s_is_closable) := ⟨rfl, rfl, rfl, by decide +kernel, rfl, by decide +kernel, by decide +kernel⟩
theorem ok_is_closable (T : AllW K mg CF CT CN CZ CG CW CE) (k_meta_of : Kn P w K mg base CX0 7 "meta_of" ["value", "name"] (spMof CF CT CN CZ)) : Kn P w K mg base CX0 8 "is_closable" ["value"] (spClo CF CT CN CZ) := by
  refine T.x_is_closable.kn fun f fd F => ?_
  refine F.ok sc_is_closable (fun vs H Q E h => ?_) (fun cdv A outer s H vs Q E hr h => ?_)
  · obtain ⟨S, W, v, kd, rfl, _⟩ := h
    rfl
  · obtain ⟨S, W, v, kd, rfl, g, gd, hk, q⟩ := h
    refine ⟨_, (pss_one (ps_ret (pe_or (pe_cmpR op_isN (pv 0) pe_non (nomark _)) (pe_or (pe_cmpR (OpR.orR op_isBl op_isOB) (pv 0) pe_bl (nomark _)) (pe_one (pe_cmpR op_notN (pk k_meta_of hr (pa_cons (pv 0) (pa_cons pe_str pa_nil))) pe_non (nomark _))))))), ?_⟩
    repeat walk_at "rd"
    unfold closeB at q
    refine iD (fun c => ?_) (fun c => ?_)
    · repeat walk_at "rd"
      rw [decide_eq_true c] at q
      exact q H (Same.refl _)
    · rw [decide_eq_false c, Bool.false_or] at q
      repeat walk_at "rd"
      by_cases cb : kd = .bl
      · subst cb
        obtain ⟨b, rfl⟩ := hk
        refine .inl ⟨b, false, rfl, rfl, ?_⟩
        repeat walk_at "rd"
        refine iD (fun d => ?_) (fun d => ?_)
        · subst d
          repeat walk_at "rd"
          rw [decide_eq_true rfl] at q
          exact q H (Same.refl _)
        · repeat walk_at "rd"
          refine ⟨S, W, .bl b, .bl, "__close", rfl, g, gd, ⟨b, rfl⟩, fun H' s' => ?_⟩
          repeat walk_at "rd"
          rw [decide_eq_false (fun z => d (by cases z; rfl)), Bool.false_or] at q
          exact q H' s'
      · refine .inr ⟨?_, ⟨false, rfl⟩, ?_⟩
        · cases kd with
          | bl => exact absurd rfl cb
          | non => obtain rfl : v = .non := hk; exact trivial
          | int => obtain ⟨_, rfl⟩ := hk; exact trivial
          | str => obtain ⟨_, rfl⟩ := hk; exact trivial
          | tab => obtain ⟨_, rfl, _⟩ := hk; exact trivial
          | nat => obtain ⟨_, _, _, rfl, _⟩ := hk; exact trivial
        · have vb : ¬ v = .bl false := fun z => by
            subst z
            have := hk.shp
            cases kd <;> first | exact absurd rfl cb | exact absurd this (by decide)
          rw [decide_eq_false vb, Bool.false_or] at q
          repeat walk_at "rd"
          refine ⟨S, W, v, kd, "__close", rfl, g, gd, hk, fun H' s' => ?_⟩
          repeat walk_at "rd"
          exact q H' s'
/-! ### set_meta -/
def spSetM (CF CT CN CZ : Addr) : Sp := fun vs H Q _ => ∃ S W i u v, vs = [.ref u.x, v] ∧ MT CF CT CN S W H ∧ Gd CZ W H ∧ W[i]? = some u ∧ metaW W (.ref u.x) "__metatable" = .non ∧ ∀ H', MT CF CT CN S (W.set i { u with m := v }) H' → Oth u.x H H' → Q .non H'
theorem sc_set_meta : FnScope ["table", "meta"] ["table", "meta"] (defScope s_set_meta) := ⟨rfl, rfl, rfl, by decide +kernel, rfl, by decide +kernel, by decide +kernel⟩
theorem ok_set_meta (T : AllW K mg CF CT CN CZ CG CW CE) (k_meta_of : Kn P w K mg base CX0 7 "meta_of" ["value", "name"] (spMof CF CT CN CZ)) : Kn P w K mg base CX0 8 "set_meta" ["table", "meta"] (spSetM CF CT CN CZ) := by
  refine T.x_set_meta.kn fun f fd F => ?_
  refine F.ok sc_set_meta (fun vs H Q E h => ?_) (fun cdv A outer s H vs Q E hr h => ?_)
  · obtain ⟨S, W, i, u, v, rfl, _⟩ := h
    rfl
  · obtain ⟨S, W, i, u, v, rfl, g, gd, hu, hm, q⟩ := h
    refine ⟨_, (pss_cons (ps_if (pt_cmpR op_notN (pk k_meta_of hr (pa_cons (pv 0) (pa_cons pe_str pa_nil))) pe_non (nomark _)) (pss_one ps_never) pss_nil)
      (pss_one (ps_fld (pv 0) (pv 1) rfl))), ?_⟩
    repeat walk_at "rd"
    refine ⟨S, W, .ref u.x, .tab, "__metatable", rfl, g, gd, ⟨_, rfl, List.mem_map.2 ⟨u, List.mem_of_getElem? hu, rfl⟩⟩, fun H1 s1 => ?_⟩
    rw [hm]
    repeat walk_at "rd"
    refine iN (fun h => absurd rfl h) (fun _ => ?_)
    repeat walk_at "rd"
    obtain ⟨dx, pa, pn, fr, e, g2⟩ := (g.same s1).at hu
    refine w_sfI e T.l_Table T.n_meta (by show 5 < 1000; decide) ?_
    repeat walk_at "rd"
    refine q _ (g2 v) fun b o hb eb => (upd_ne hb).trans (s1 _ _ eb)
end
end Nu

set_option Elab.async false
set_option linter.all false
set_option maxRecDepth 100000
set_option autoImplicit false
set_option maxHeartbeats 4000000
set_option pp.maxSteps 900
namespace Nu
open PySem PySem.Spec PyProof.Rows L2 Rd Tm
local macro_rules | `(tactic| walk_at "hp") => `(tactic| first | assumption | (refine same_get ?sm ?_; (case sm => assumption); walk_at "hp"))
local macro_rules | `(tactic| walk_at "rd") => `(tactic| first
  | (with_reducible show Ends.nx _ _ _; with_reducible refine w_nx ?_)
  | with_reducible refine w_rt ?_
  | (with_reducible show Ends.bk _ _ _; with_reducible refine w_bk ?_)
  | (with_reducible show Ends.ct _ _ _; with_reducible refine w_ct ?_)
  | with_reducible refine w_seq ?_
  | with_reducible refine w_next ?_
  | with_reducible refine w_ret ?_
  | with_reducible refine w_ifS ?_
  | with_reducible refine w_asg ?_
  | with_reducible refine w_name ?_
  | with_reducible refine w_par ?_
  | with_reducible refine w_parI ?_
  | with_reducible refine w_ii ?_
  | with_reducible refine w_i1 ?_
  | with_reducible refine w_drop ?_
  | with_reducible refine w_sFld ?_
  | ((with_reducible refine' w_var ?rdh ?_); (case rdh => exact rfl))
  | with_reducible refine w_c ?_
  | with_reducible refine w_op ?_
  | with_reducible refine w_un ?_
  | with_reducible refine w_I0 ?_
  | with_reducible refine w_U ?_
  | with_reducible refine w_bits ?_
  | with_reducible refine w_bitsI ?_
  | with_reducible refine w_tup ?_
  | with_reducible refine w_lst ?_
  | with_reducible refine w_nil ?_
  | with_reducible refine w_cons ?_
  | with_reducible refine w_fld ?_
  | with_reducible refine w_call ?_
  | with_reducible refine w_make ?_
  | with_reducible refine w_gsub ?_
  | with_reducible refine w_int1 ?_
  | with_reducible refine w_intB ?_
  | with_reducible refine w_for ?_
  | with_reducible refine w_rng1 ?_
  | with_reducible refine w_iList ?_
  | with_reducible refine w_iTup ?_
  | with_reducible refine w_makeD ?_
  | with_reducible refine w_nn ?_
  | with_reducible refine w_subB ?_
  | with_reducible refine w_meth ?_
  | with_reducible refine w_cb ?_
  | with_reducible refine w_test ?_
  | with_reducible refine w_B ?_
  | with_reducible refine w_bl ?_
  | with_reducible refine w_andV ?_
  | with_reducible refine w_orV ?_
  | with_reducible refine w_notV ?_
  | with_reducible refine w_and ?_
  | with_reducible refine w_or ?_
  | with_reducible refine w_not ?_
  | with_reducible refine w_if ?_
  | with_reducible refine w_gnil ?_
  | with_reducible refine w_gcons ?_
  | with_reducible refine iT ?_
  | with_reducible refine iF ?_
  | with_reducible refine w_eqI ?_
  | with_reducible refine w_neI ?_
  | with_reducible refine w_eqS ?_
  | with_reducible refine w_eqIS ?_
  | with_reducible refine w_eqSI ?_)

section
variable {P : Program} {w : World} {K : PySem.W.Frag} {mg : Str → Option Value} {base : Heap} {CF CT CN CZ CG CW CE : Addr}
/-! ### set_meta, where it throws; call_target -/
def spSetX (CF CT CN CZ CE : Addr) : Sp := fun vs H Q E => ∃ S W v kd m, vs = [v, m] ∧ MT CF CT CN S W H ∧ Gd CZ W H ∧ Vk CZ W H kd v ∧ metaW W v "__metatable" ≠ .non ∧ ErrT CE "cannot change a protected metatable" H E
theorem ok_set_metaX (T : AllW K mg CF CT CN CZ CG CW CE) (k_Thrown : KnTh P w K mg base CE) (k_meta_of : Kn P w K mg base CX0 7 "meta_of" ["value", "name"] (spMof CF CT CN CZ)) : Kn P w K mg base (L2.CX P w) 8 "set_meta" ["table", "meta"] (spSetX CF CT CN CZ CE) := by
  refine T.x_set_meta.kn fun f fd F => ?_
  refine F.okX sc_set_meta (fun vs H Q E h => ?_) (fun cdv A outer s H vs Q E hr h => ?_)
  · obtain ⟨S, W, v, kd, m, rfl, _⟩ := h
    rfl
  · obtain ⟨S, W, v, kd, m, rfl, g, gd, hk, hm, q⟩ := h
    refine ⟨_, (pss_cons (ps_if (pt_cmpR op_notN (pk k_meta_of hr (pa_cons (pv 0) (pa_cons pe_str pa_nil))) pe_non (nomark _)) (pss_one (ps_thr rfl k_Thrown hr (takes_of rfl rfl rfl rfl) (pa_cons pe_str pa_nil))) pss_nil)
      (pss_one ps_never)), ?_⟩
    repeat walk_at "rd"
    refine ⟨S, W, v, kd, "__metatable", rfl, g, gd, hk, fun H1 s1 => ?_⟩
    repeat walk_at "rd"
    refine iN (fun h => ?_) (fun h => absurd h hm)
    repeat walk_at "rd"
    refine w_thr ?_
    repeat walk_at "rd"
    exact w_thrI fun d H' s3 n3 e3 => q d H' (s1.trans s3) e3
def spCall (CF CT CN CZ CE : Addr) (K : PySem.W.Frag) : Sp := fun vs H Q E => ∃ S W c kd l as, vs = [c, .ref l] ∧ MT CF CT CN S W H ∧ Gd CZ W H ∧ Vk CZ W H kd c ∧ H l = some (.lst as) ∧ as.length ≤ 1000 ∧
  match callW W 100 c as with
  | .inl z => ErrT CE z H E
  | .inr (f, bs) => ∀ p l' H', Same H H' → H p = none → H l' = none → H' p = some (.tup [f, .ref l']) → H' l' = some (.lst bs) → Q (.ref p) H'
theorem sc_call_target : FnScope ["called", "args", "turn", "event"] ["called", "args"] (defScope s_call_target) := ⟨rfl, rfl, rfl, by decide +kernel, rfl, by decide +kernel, by decide +kernel⟩
theorem ok_call_target (T : AllW K mg CF CT CN CZ CG CW CE) (k_Thrown : KnTh P w K mg base CE) (k_meta_of : Kn P w K mg base CX0 7 "meta_of" ["value", "name"] (spMof CF CT CN CZ)) (k_is_function : Kn P w K mg base CX0 1 "is_function" ["value"] (spIsf CF CT CN CZ)) (k_kind_name : Kn P w K mg base CX0 2 "kind_name" ["value"] (spKn CF CT CN CZ)) :
    Kn P w K mg base (L2.CX P w) 8 "call_target" ["called", "args"] (spCall CF CT CN CZ CE K) := by
  refine T.x_call_target.kn fun f fd F => ?_
  refine F.okX sc_call_target (fun vs H Q E h => ?_) (fun cdv A outer s H vs Q E hr h => ?_)
  · obtain ⟨S, W, c, kd, l, as, rfl, _⟩ := h
    rfl
  · obtain ⟨S, W, c, kd, l, as, rfl, g, gd, hk, hl, la, q⟩ := h
    refine ⟨_, (pss_cons (ps_set (i := 1) sc_call_target.nd rfl (Or.inl rfl) (pe_callTy call_list_of (by rfl) T.b_list boot_list (pa_cons (pv 1) pa_nil)))
      (pss_cons (ps_for (passes_of rfl) rfl (pi_range1 rfl T.b_range (pa_cons (pgE "MOST_CALLED" T.c_MOST_CALLED) pa_nil)) (pg_name (i := 2) sc_call_target.nd rfl (Or.inl rfl))
      (pss_cons (ps_if (pt_val (pk k_is_function hr (pa_cons (pv 0) pa_nil))) (pss_one (ps_ret (pe_tup (pa_cons (pv 0) (pa_cons (pv 1) pa_nil))))) pss_nil)
      (pss_cons (ps_set (i := 3) sc_call_target.nd rfl (Or.inl rfl) (pk k_meta_of hr (pa_cons (pv 0) (pa_cons pe_str pa_nil))))
      (pss_cons (ps_if (pt_cmpR op_isN (pv 3) pe_non (nomark _)) (pss_one (ps_thr rfl k_Thrown hr (takes_of rfl rfl rfl rfl) (pa_cons (pe_joined (PJ.cons pe_str (PJ.cons (pe_fmt (pk k_kind_name hr (pa_cons (pv 0) pa_nil))) (PJ.cons pe_str PJ.nil)))) pa_nil))) pss_nil)
      (pss_cons (ps_set (i := 1) sc_call_target.nd rfl (Or.inl rfl) (pe_op op_cat (pe_lst (pa_cons (pv 0) pa_nil)) (pv 1)))
      (pss_one (ps_set (i := 0) sc_call_target.nd rfl (Or.inl rfl) (pv 3))))))))
      (pss_one (ps_thr rfl k_Thrown hr (takes_of rfl rfl rfl rfl) (pa_cons pe_str pa_nil))))), ?_⟩
    obtain ⟨res, hres⟩ : ∃ r, callW W 100 c as = r := ⟨_, rfl⟩
    rw [hres] at q
    repeat walk_at "rd"
    refine ⟨l, as, rfl, .inl (SqL.of hl), fun l1 n1 => ?_⟩
    have s1 := same_upd (o := .lst as) n1
    have h1 := upd_same (H := H) (a := l1) (o := .lst as)
    generalize upd H l1 (.lst as) = H1 at s1 h1 ⊢
    repeat walk_at "rd"
    refine ⟨by decide, by decide, ?_⟩
    refine for_range (lo := 0) (fun i σ' H' => ∃ c' kd' l' bs y2 y3, σ' = [some c', some (.ref l'), y2, y3] ∧ Same H H' ∧ Vk CZ W H kd' c' ∧ H l' = none ∧ H' l' = some (.lst bs) ∧ bs.length ≤ as.length + i ∧ callW W (100 - i) c' bs = res) ⟨c, kd, l1, as, none, none, rfl, s1, hk, n1, h1, Nat.le_refl _, hres⟩ ?_ ?_
    · rintro i σ' H2 hi ⟨c', kd', l', bs, y2, y3, rfl, s2, hk', n', h', lb, e⟩
      have hi : i < 100 := hi
      have e2 : 100 - i = (100 - (i + 1)) + 1 := by omega
      rw [e2] at e
      unfold callW at e
      rw [hk'.of g T.ne_TZ] at e
      repeat walk_at "rd"
      refine ⟨S, W, c', kd', rfl, g.same s2, hk'.same s2, fun H3 s3 => ?_⟩
      repeat walk_at "rd"
      refine iD (fun z => ?_) (fun z => ?_)
      · rw [if_pos z] at e
        rw [← e] at q
        repeat walk_at "rd"
        refine w_tup2 fun p4 H4 s4 n4 h4 => ?_
        have s24 := s2.trans s3
        exact q p4 l' H4 (s24.trans s4) (by
          cases e0 : H p4 with
          | none => rfl
          | some o => rw [s24 _ _ e0] at n4; cases n4) n' h4 (s4 _ _ (s3 _ _ h'))
      · rw [if_neg z] at e
        repeat walk_at "rd"
        have s23 := s2.trans s3
        refine ⟨S, W, c', kd', "__call", rfl, g.same s23, gd.same s23, hk'.same s23, fun H4 s4 => ?_⟩
        have s24 := s23.trans s4
        repeat walk_at "rd"
        refine iD (fun z2 => ?_) (fun z2 => ?_)
        · rw [if_pos z2] at e
          rw [← e] at q
          repeat walk_at "rd"
          refine w_thr ?_
          refine w_cons ?_
          simp only [tJs, tFmt, tC]
          refine ⟨_, rfl, by decide +kernel, ?_⟩
          repeat walk_at "rd"
          refine ⟨S, W, c', kd', rfl, g.same s24, hk'.same s24, ?_⟩
          refine .inl ⟨_, rfl, by cases kd' <;> decide +kernel, _, rfl, by cases kd' <;> decide +kernel, _, rfl, by cases kd' <;> decide +kernel, ?_⟩
          repeat walk_at "rd"
          exact w_thrI fun d H' s5 n5 e5 => q d H' (s24.trans s5) e5
        · rw [if_neg z2] at e
          repeat walk_at "rd"
          refine w_lst1 fun l5 H5 s5 n5 h5 => ?_
          repeat walk_at "rd"
          have h'5 := s5 _ _ (s4 _ _ (s3 _ _ h'))
          refine w_cat h5 h'5 (Nat.le_of_lt (Nat.lt_of_le_of_lt (show 1 + bs.length ≤ 99999 by omega) (show 99999 < sizeLine by decide))) fun l6 H6 s6 n6 h6 => ?_
          repeat walk_at "rd"
          have s26 := (s24.trans s5).trans s6
          obtain ⟨kd2, hk2⟩ := gd_meta (CF := CF) (CT := CT) (CN := CN) (S := S) gd c' "__call"
          exact ⟨metaW W c' "__call", kd2, l6, c' :: bs, _, _, rfl, s26, hk2, none_same (s24.trans s5) n6, h6, by show bs.length + 1 ≤ _; omega, e⟩
    · rintro σ' H2 ⟨c', kd', l', bs, y2, y3, rfl, s2, hk', n', h', lb, e⟩
      have e : callW W 0 c' bs = res := e
      unfold callW at e
      rw [← e] at q
      repeat walk_at "rd"
      refine w_thr ?_
      repeat walk_at "rd"
      exact w_thrI fun d H' s3 n3 e3 => q d H' (s2.trans s3) e3
end
end Nu

set_option Elab.async false
set_option linter.all false
set_option maxRecDepth 100000
set_option autoImplicit false
set_option maxHeartbeats 4000000
set_option pp.maxSteps 900
namespace Nu
open PySem PySem.Spec PyProof.Rows L2 Rd Tm
/-! ### what the records say: the metatable of an address, the value of a table at a key -/
def mOf (W : List WR) (a : Addr) : V := match recW W a with
  | some w => w.m
  | none => .non
def tlW (W : List WR) (a : Addr) (k : Ky) : V := match recW W a with
  | some w => tell w.T k
  | none => .non
theorem metaW_eq (W : List WR) (a : Addr) (z : Str) : metaW W (.ref a) z = (match mOf W a with
  | .ref b => tlW W b (.str z)
  | _ => .non) := by
  unfold metaW mOf tlW
  cases h : recW W a with
  | none => simp only [h]
  | some w => cases hm : w.m <;> simp only [h, hm] <;> rfl
theorem toldW_eq (W : List WR) (a : Addr) : toldW W (.ref a) = if metaW W (.ref a) "__metatable" = .non then mOf W a else metaW W (.ref a) "__metatable" := by
  unfold toldW mOf
  cases e : recW W a with
  | none =>
    rw [metaW_none e]
    simp only [e, if_pos]
  | some w => simp only [e]
theorem kdOf_tab {W : List WR} {a : Addr} (h : a ∈ adrs W) : kdOf W (.ref a) = .tab := by
  obtain ⟨w, hw, _⟩ := rec_mem h
  show (if (recW W a).isSome then Kd1.tab else .nat) = .tab
  rw [hw]
  rfl
theorem kdOf_nat {W : List WR} {a : Addr} (h : a ∉ adrs W) : kdOf W (.ref a) = .nat := by
  show (if (recW W a).isSome then Kd1.tab else .nat) = .nat
  rw [rec_none h]
  rfl
section
variable {CF CT CN CZ : Addr} {S : List Addr} {W : List WR} {H H' : Hp} {i : Nat} {w u : WR}
theorem adrs_set (hu : W[i]? = some u) (w : WR) (e : w.x = u.x) : adrs (W.set i w) = adrs W := by
  unfold adrs
  rw [List.map_set, e]
  refine List.ext_getElem? fun j => ?_
  by_cases c : j = i
  · subst c
    have hi : j < W.length := (List.getElem?_eq_some_iff.1 hu).1
    rw [List.getElem?_set_self (by rw [List.length_map]; exact hi), List.getElem?_map, hu]
    rfl
  · rw [List.getElem?_set_ne (fun z => c z.symm)]
theorem MT.inj (g : MT CF CT CN S W H) {j : Nat} {w' : WR} (hw : W[i]? = some w) (hw' : W[j]? = some w') (e : w.x = w'.x) : i = j := by
  obtain ⟨R, g⟩ := g
  obtain ⟨r, hr⟩ := g.rr hw
  obtain ⟨r', hr'⟩ := g.rr hw'
  refine Classical.byContradiction fun c => g.dis i j w w' r r' hw hr hw' hr' c w.x (.inl rfl) (.inl e)
theorem MT.rec (g : MT CF CT CN S W H) (hw : W[i]? = some w) : recW W w.x = some w := by
  obtain ⟨w', h1, h2, h3⟩ := rec_mem (List.mem_map.2 ⟨w, List.mem_of_getElem? hw, rfl⟩)
  obtain ⟨j, hj⟩ := mem_at h3
  have := g.inj hw hj h2.symm
  subst this
  rw [hw] at hj
  cases hj
  exact h1
theorem MT.idx (g : MT CF CT CN S W H) {a : Addr} (h : a ∈ adrs W) : ∃ (i : Nat) (u : WR), W[i]? = some u ∧ u.x = a ∧ recW W a = some u := by
  obtain ⟨u, h1, h2, h3⟩ := rec_mem h
  obtain ⟨i, hi⟩ := mem_at h3
  exact ⟨i, u, hi, h2, h1⟩
theorem rec_app {a : Addr} (w : WR) (h : w.x ∉ adrs W) : recW (W ++ [w]) a = if a = w.x then some w else recW W a := by
  unfold recW
  rw [List.find?_append]
  by_cases c : a = w.x
  · subst c
    rw [if_pos rfl, show W.find? (fun v => decide (v.x = w.x)) = none from rec_none h]
    simp
  · rw [if_neg c]
    have : List.find? (fun v : WR => decide (v.x = a)) [w] = none := by simp [show ¬ w.x = a from fun z => c z.symm]
    rw [this]
    cases W.find? (fun v => decide (v.x = a)) <;> rfl
theorem MT.rec_set (g : MT CF CT CN S W H) (g' : MT CF CT CN S (W.set i w) H') (hu : W[i]? = some u) (e : w.x = u.x) (a : Addr) : recW (W.set i w) a = if a = u.x then some w else recW W a := by
  have hi : i < W.length := (List.getElem?_eq_some_iff.1 hu).1
  by_cases c : a = u.x
  · rw [if_pos c, c, ← e]
    exact g'.rec (List.getElem?_set_self hi)
  · rw [if_neg c]
    by_cases ha : a ∈ adrs W
    · obtain ⟨j, v, hj, rfl, hr⟩ := g.idx ha
      rw [hr]
      refine g'.rec (i := j) ?_
      rw [List.getElem?_set_ne (fun z => c (by subst z; rw [hu] at hj; cases hj; rfl))]
      exact hj
    · rw [rec_none ha]
      exact rec_none (by rw [adrs_set hu w e]; exact ha)
theorem mOf_app {a n : Nat} {x : Addr} {nv : V} (h : x ∉ adrs W) (b : Addr) : mOf (W ++ [⟨x, nv, .non, emT a n, 0⟩]) b = mOf W b := by
  unfold mOf
  rw [rec_app _ h]
  by_cases c : b = x
  · rw [if_pos c, c, rec_none h]
  · rw [if_neg c]
theorem tlW_app {a n : Nat} {x : Addr} {nv : V} (h : x ∉ adrs W) (b : Addr) (k : Ky) : tlW (W ++ [⟨x, nv, .non, emT a n, 0⟩]) b k = tlW W b k := by
  unfold tlW
  rw [rec_app _ h]
  by_cases c : b = x
  · rw [if_pos c, c, rec_none h]
    exact tell_em _ _ _
  · rw [if_neg c]
theorem MT.mOf_T (g : MT CF CT CN S W H) {T : Tb} {j : Nat} (g' : MT CF CT CN S (W.set i { u with T := T, j := j }) H') (hu : W[i]? = some u) (b : Addr) : mOf (W.set i { u with T := T, j := j }) b = mOf W b := by
  unfold mOf
  rw [g.rec_set g' hu rfl]
  by_cases c : b = u.x
  · rw [if_pos c, c, g.rec hu]
  · rw [if_neg c]
theorem MT.tlW_T (g : MT CF CT CN S W H) {k : Ky} {v : V} {j : Nat} (g' : MT CF CT CN S (W.set i { u with T := putG plS u.T k v, j := j }) H') (hu : W[i]? = some u) (b : Addr) (k' : Ky) : tlW (W.set i { u with T := putG plS u.T k v, j := j }) b k' = if b = u.x ∧ k' = k then v else tlW W b k' := by
  unfold tlW
  rw [g.rec_set g' hu rfl]
  by_cases c : b = u.x
  · rw [if_pos c, c, g.rec hu]
    show tell (putG plS u.T k v) k' = _
    obtain ⟨R, g0⟩ := g
    obtain ⟨r, hr⟩ := g0.rr hu
    rw [(g0.ta i u r hu hr).2.tell]
    by_cases c2 : k' = k
    · rw [if_pos c2, if_pos ⟨rfl, c2⟩]
    · rw [if_neg c2, if_neg fun z => c2 z.2]
  · rw [if_neg c, if_neg fun z => c z.1]
theorem MT.mOf_m (g : MT CF CT CN S W H) {v : V} (g' : MT CF CT CN S (W.set i { u with m := v }) H') (hu : W[i]? = some u) (b : Addr) : mOf (W.set i { u with m := v }) b = if b = u.x then v else mOf W b := by
  unfold mOf
  rw [g.rec_set g' hu rfl]
  by_cases c : b = u.x
  · rw [if_pos c, if_pos c]
  · rw [if_neg c, if_neg c]
theorem MT.tlW_m (g : MT CF CT CN S W H) {v : V} (g' : MT CF CT CN S (W.set i { u with m := v }) H') (hu : W[i]? = some u) (b : Addr) (k : Ky) : tlW (W.set i { u with m := v }) b k = tlW W b k := by
  unfold tlW
  rw [g.rec_set g' hu rfl]
  by_cases c : b = u.x
  · rw [if_pos c, c, g.rec hu]
  · rw [if_neg c]
theorem Gd.tl (g : Gd CZ W H) (a : Addr) (k : Ky) : ∃ kd, Vk CZ W H kd (tlW W a k) := by
  unfold tlW
  cases e : recW W a with
  | none => exact ⟨.non, rfl⟩
  | some w => exact g.v w (List.mem_of_find?_eq_some e) k
theorem Gd.mo (g : Gd CZ W H) (a : Addr) : mOf W a = .non ∨ ∃ b, mOf W a = .ref b ∧ b ∈ adrs W := by
  unfold mOf
  cases e : recW W a with
  | none => exact .inl rfl
  | some w => exact g.m w (List.mem_of_find?_eq_some e)
theorem Gd.of (g : MT CF CT CN S W H) (h1 : ∀ a k, ∃ kd, Vk CZ W H kd (tlW W a k)) (h2 : ∀ a, mOf W a = .non ∨ ∃ b, mOf W a = .ref b ∧ b ∈ adrs W) : Gd CZ W H := by
  refine ⟨fun w hw k => ?_, fun w hw => ?_⟩
  · obtain ⟨i, hi⟩ := mem_at hw
    have := h1 w.x k
    unfold tlW at this
    rw [g.rec hi] at this
    exact this
  · obtain ⟨i, hi⟩ := mem_at hw
    have := h2 w.x
    unfold mOf at this
    rw [g.rec hi] at this
    exact this
/-- the tables of a law, good, with at most n puts each -/
structure St (CF CT CN CZ : Addr) (S : List Addr) (W : List WR) (H : Hp) (n : Nat) : Prop where
  g : MT CF CT CN S W H
  gd : Gd CZ W H
  jb : ∀ w ∈ W, w.j ≤ n
/-- what stays -/
structure Fr (CT CN : Addr) (S : List Addr) (H H' : Hp) : Prop where
  s : ∀ b ∈ S, ∀ o, H b = some o → H' b = some o
  k : KeepT CT CN H H'
theorem Fr.of {CT CN : Addr} {S : List Addr} {H H' : Hp} (s : Same H H') : Fr CT CN S H H' := ⟨fun b _ o e => s b o e, fun b o e _ _ _ => s b o e⟩
theorem Fr.trans {CT CN : Addr} {S : List Addr} {H H1 H2 : Hp} (a : Fr CT CN S H H1) (b : Fr CT CN S H1 H2) : Fr CT CN S H H2 := ⟨fun c hc o e => b.s c hc o (a.s c hc o e), fun c o e h1 h2 h3 => b.k c o (a.k c o e h1 h2 h3) h1 h2 h3⟩
theorem St.same {n : Nat} (t : St CF CT CN CZ S W H n) (s : Same H H') : St CF CT CN CZ S W H' n := ⟨t.g.same s, t.gd.same s, t.jb⟩
theorem St.mono {n m : Nat} (t : St CF CT CN CZ S W H n) (h : n ≤ m) : St CF CT CN CZ S W H m := ⟨t.g, t.gd, fun w hw => Nat.le_trans (t.jb w hw) h⟩
theorem St.add {n : Nat} {l : Addr} {o : HO} (t : St CF CT CN CZ S W H n) (s : Same H H') (e : H l = none) (h : H' l = some o) : St CF CT CN CZ (l :: S) W H' n := ⟨t.g.add s e h, t.gd.same s, t.jb⟩
theorem St.less {n : Nat} {S' : List Addr} (t : St CF CT CN CZ S W H n) (h : ∀ b ∈ S', b ∈ S) : St CF CT CN CZ S' W H n := ⟨t.g.less h, t.gd, t.jb⟩
theorem St.nil (h : ∀ b ∈ S, ∃ o, H b = some o) : St CF CT CN CZ S [] H 0 := ⟨MT.nil h, ⟨fun w hw => (by cases hw), fun w hw => (by cases hw)⟩, fun w hw => (by cases hw)⟩
/-- a list outside changes -/
theorem St.oth {n : Nat} (t : St CF CT CN CZ S W H n) {l : Addr} {xs ys : List V} (hl : l ∈ S) (e : H l = some (.lst xs)) (s : Oth l H H') (e' : H' l = some (.lst ys)) : St CF CT CN CZ S W H' n := by
  have k : ∀ {kd v}, Vk CZ W H kd v → Vk CZ W H' kd v := fun {kd v} h => by
    cases kd with
    | nat =>
      obtain ⟨a, dx, fs, ev, h1, h2⟩ := h
      refine ⟨a, dx, fs, ev, s a _ (fun z => ?_) h1, h2⟩
      rw [z, e] at h1
      cases h1
    | _ => exact h
  exact ⟨t.g.oth hl s ⟨_, e'⟩, ⟨fun w hw q => let ⟨kd, h⟩ := t.gd.v w hw q; ⟨kd, k h⟩, t.gd.m⟩, t.jb⟩
theorem St.fresh {n : Nat} (t : St CF CT CN CZ S W H n) {x : Addr} (h : H x = none) : x ∉ adrs W := fun z => by
  obtain ⟨i, u, hi, e, _⟩ := t.g.idx z
  obtain ⟨dx, pa, pn, fr, e2⟩ := t.g.ins (List.mem_of_getElem? hi)
  rw [e, h] at e2
  cases e2
end
end Nu

set_option Elab.async false
set_option linter.all false
set_option maxRecDepth 100000
set_option autoImplicit false
set_option maxHeartbeats 4000000
set_option pp.maxSteps 900
namespace Nu
open PySem PySem.Spec PyProof.Rows L2 Rd Tm
local macro_rules | `(tactic| walk_at "hp") => `(tactic| first | assumption | (refine same_get ?sm ?_; (case sm => assumption); walk_at "hp"))
local macro_rules | `(tactic| walk_at "rd") => `(tactic| first
  | (with_reducible show Ends.nx _ _ _; with_reducible refine w_nx ?_)
  | with_reducible refine w_rt ?_
  | (with_reducible show Ends.bk _ _ _; with_reducible refine w_bk ?_)
  | (with_reducible show Ends.ct _ _ _; with_reducible refine w_ct ?_)
  | with_reducible refine w_seq ?_
  | with_reducible refine w_next ?_
  | with_reducible refine w_ret ?_
  | with_reducible refine w_ifS ?_
  | with_reducible refine w_asg ?_
  | with_reducible refine w_name ?_
  | with_reducible refine w_par ?_
  | with_reducible refine w_parI ?_
  | with_reducible refine w_ii ?_
  | with_reducible refine w_i1 ?_
  | with_reducible refine w_drop ?_
  | with_reducible refine w_sFld ?_
  | ((with_reducible refine' w_var ?rdh ?_); (case rdh => exact rfl))
  | with_reducible refine w_c ?_
  | with_reducible refine w_op ?_
  | with_reducible refine w_un ?_
  | with_reducible refine w_I0 ?_
  | with_reducible refine w_U ?_
  | with_reducible refine w_bits ?_
  | with_reducible refine w_bitsI ?_
  | with_reducible refine w_tup ?_
  | with_reducible refine w_lst ?_
  | with_reducible refine w_nil ?_
  | with_reducible refine w_cons ?_
  | with_reducible refine w_fld ?_
  | with_reducible refine w_call ?_
  | with_reducible refine w_make ?_
  | with_reducible refine w_gsub ?_
  | with_reducible refine w_int1 ?_
  | with_reducible refine w_intB ?_
  | with_reducible refine w_for ?_
  | with_reducible refine w_rng1 ?_
  | with_reducible refine w_iList ?_
  | with_reducible refine w_iTup ?_
  | with_reducible refine w_makeD ?_
  | with_reducible refine w_nn ?_
  | with_reducible refine w_subB ?_
  | with_reducible refine w_meth ?_
  | with_reducible refine w_cb ?_
  | with_reducible refine w_test ?_
  | with_reducible refine w_B ?_
  | with_reducible refine w_bl ?_
  | with_reducible refine w_andV ?_
  | with_reducible refine w_orV ?_
  | with_reducible refine w_notV ?_
  | with_reducible refine w_and ?_
  | with_reducible refine w_or ?_
  | with_reducible refine w_not ?_
  | with_reducible refine w_if ?_
  | with_reducible refine w_gnil ?_
  | with_reducible refine w_gcons ?_
  | with_reducible refine iT ?_
  | with_reducible refine iF ?_
  | with_reducible refine w_eqI ?_
  | with_reducible refine w_neI ?_
  | with_reducible refine w_eqS ?_
  | with_reducible refine w_eqIS ?_
  | with_reducible refine w_eqSI ?_)

section
variable {CF CT CN CZ : Addr} {S : List Addr} {W : List WR} {H : Hp} {n : Nat} {Q : VK} {E : XK}
/-! ### a new table, a put, a metatable set: what changes -/
theorem u_snew {x dx : Addr} {Qx : Hp → Prop} {i : Int} (t : St CF CT CN CZ S W H n) (hx : H x = none) (hdx : H dx = none) (ne : dx ≠ x) (vs : List V) (e : vs = [.ref x, .int i, .int 0, .int 0, .non])
    (q : ∀ W' H', St CF CT CN CZ S W' H' n → Same H H' → adrs W' = adrs W ++ [x] → mOf W' = mOf W → tlW W' = tlW W → Qx H') :
    spTab CF CT CN vs (upd (upd H dx (.own x)) x (.ins CT dx [])) (fun v H2 => v = .non ∧ Qx H2) E := by
  have hx' := t.fresh hx
  refine u_mnew (a := 0) (nn := 0) t.g (by decide) (by decide) hx hdx ne vs e fun H' g' s' => ?_
  have ad : adrs (W ++ [(⟨x, .int i, .non, emT 0 0, 0⟩ : WR)]) = adrs W ++ [x] := List.map_append
  have mo : mOf (W ++ [(⟨x, .int i, .non, emT 0 0, 0⟩ : WR)]) = mOf W := funext fun b => mOf_app hx' b
  have tl : tlW (W ++ [(⟨x, .int i, .non, emT 0 0, 0⟩ : WR)]) = tlW W := funext fun b => funext fun k => tlW_app hx' b k
  have sub : ∀ b ∈ adrs W, b ∈ adrs (W ++ [(⟨x, .int i, .non, emT 0 0, 0⟩ : WR)]) := fun b hb => by rw [ad]; exact List.mem_append_left _ hb
  refine q _ H' ⟨g', Gd.of g' (fun a k => ?_) (fun a => ?_), fun w hw => ?_⟩ s' ad mo tl
  · rw [tl]
    obtain ⟨kd, h⟩ := t.gd.tl a k
    exact ⟨kd, (h.same s').sub sub⟩
  · rw [mo]
    rcases t.gd.mo a with h | ⟨b, h, hb⟩
    · exact .inl h
    · exact .inr ⟨b, h, sub b hb⟩
  · rcases List.mem_append.1 hw with h | h
    · exact t.jb w h
    · cases List.mem_singleton.1 h
      exact Nat.zero_le _
theorem u_sput {a : Addr} {z : Str} {v : V} {kd : Kd1} (n1 : CT ≠ CZ) (n2 : CN ≠ CZ) (t : St CF CT CN CZ S W H n) (hn : n ≤ 4000) (ha : a ∈ adrs W) (hv : Vk CZ W H kd v) (vs : List V) (e : vs = [.ref a, .str z, v])
    (q : ∀ W' H', St CF CT CN CZ S W' H' (n + 1) → adrs W' = adrs W → mOf W' = mOf W → (∀ b k, tlW W' b k = if b = a ∧ k = .str z then v else tlW W b k) → Fr CT CN S H H' → Q .non H') : spPutG CF CT CN vs H Q E := by
  obtain ⟨i, u, hu, rfl, hr⟩ := t.g.idx ha
  refine u_mput (r := .ky (.str z)) (k := .str z) t.g hu (Nat.le_trans (t.jb u (List.mem_of_getElem? hu)) hn) ⟨trivial, rfl⟩ rfl trivial (fun H' g' fs k' => ?_) vs e
  have ad := adrs_set hu { u with T := putG plS u.T (.str z) v, j := u.j + 1 } rfl
  have mo : mOf (W.set i { u with T := putG plS u.T (.str z) v, j := u.j + 1 }) = mOf W := funext fun b => t.g.mOf_T g' hu b
  have tl := t.g.tlW_T g' hu
  have sub : ∀ b ∈ adrs W, b ∈ adrs (W.set i { u with T := putG plS u.T (.str z) v, j := u.j + 1 }) := fun b hb => by rw [ad]; exact hb
  refine q _ H' ⟨g', Gd.of g' (fun a k => ?_) (fun a => ?_), fun w hw => ?_⟩ ad mo tl ⟨fs, k'⟩
  · rw [tl]
    split
    · exact ⟨kd, (hv.keep n1 n2 k').sub sub⟩
    · obtain ⟨kd, h⟩ := t.gd.tl a k
      exact ⟨kd, (h.keep n1 n2 k').sub sub⟩
  · rw [mo]
    rcases t.gd.mo a with h | ⟨b, h, hb⟩
    · exact .inl h
    · exact .inr ⟨b, h, sub b hb⟩
  · rcases List.mem_or_eq_of_mem_set hw with h | h
    · exact Nat.le_succ_of_le (t.jb w h)
    · rw [h]
      exact Nat.succ_le_succ (t.jb u (List.mem_of_getElem? hu))
theorem u_sset {a : Addr} {v : V} (n1 : CT ≠ CZ) (n2 : CN ≠ CZ) (t : St CF CT CN CZ S W H n) (ha : a ∈ adrs W) (hm : metaW W (.ref a) "__metatable" = .non) (hv : v = .non ∨ ∃ b, v = .ref b ∧ b ∈ adrs W) (vs : List V) (e : vs = [.ref a, v])
    (q : ∀ W' H', St CF CT CN CZ S W' H' n → adrs W' = adrs W → (∀ b, mOf W' b = if b = a then v else mOf W b) → tlW W' = tlW W → Fr CT CN S H H' → Q .non H') : spSetM CF CT CN CZ vs H Q E := by
  obtain ⟨i, u, hu, rfl, hr⟩ := t.g.idx ha
  refine ⟨S, W, i, u, v, e, t.g, t.gd, hu, hm, fun H' g' o => ?_⟩
  obtain ⟨dx, pa, pn, fr, hx⟩ := t.g.ins (List.mem_of_getElem? hu)
  have k' : KeepT CT CN H H' := fun b p eb h1 h2 h3 => o b p (fun z => h1 dx _ (by rw [z, hx] at eb; cases eb; rfl)) eb
  have fs : ∀ b ∈ S, ∀ p, H b = some p → H' b = some p := fun b hb p eb => o b p (fun z => by
    obtain ⟨R, g⟩ := t.g
    obtain ⟨r, hr⟩ := g.rr hu
    exact (g.out b hb).2 i u r hu hr (.inl z)) eb
  have ad := adrs_set hu { u with m := v } rfl
  have mo := t.g.mOf_m g' hu
  have tl : tlW (W.set i { u with m := v }) = tlW W := funext fun b => funext fun k => t.g.tlW_m g' hu b k
  have sub : ∀ b ∈ adrs W, b ∈ adrs (W.set i { u with m := v }) := fun b hb => by rw [ad]; exact hb
  refine q _ H' ⟨g', Gd.of g' (fun a k => ?_) (fun a => ?_), fun w hw => ?_⟩ ad mo tl ⟨fs, k'⟩
  · rw [tl]
    obtain ⟨kd, h⟩ := t.gd.tl a k
    exact ⟨kd, (h.keep n1 n2 k').sub sub⟩
  · rw [mo]
    split
    · rcases hv with h | ⟨b, h, hb⟩
      · exact .inl h
      · exact .inr ⟨b, h, sub b hb⟩
    · rcases t.gd.mo a with h | ⟨b, h, hb⟩
      · exact .inl h
      · exact .inr ⟨b, h, sub b hb⟩
  · rcases List.mem_or_eq_of_mem_set hw with h | h
    · exact t.jb w h
    · rw [h]
      exact t.jb u (List.mem_of_getElem? hu)
end
end Nu

set_option Elab.async false
set_option linter.all false
set_option maxRecDepth 100000
set_option autoImplicit false
set_option maxHeartbeats 4000000
set_option pp.maxSteps 900
namespace Nu
open PySem PySem.Spec PyProof.Rows L2 Rd Tm
local macro_rules | `(tactic| walk_at "hp") => `(tactic| first | assumption | (refine same_get ?sm ?_; (case sm => assumption); walk_at "hp"))
local macro_rules | `(tactic| walk_at "rd") => `(tactic| first
  | (with_reducible show Ends.nx _ _ _; with_reducible refine w_nx ?_)
  | with_reducible refine w_rt ?_
  | (with_reducible show Ends.bk _ _ _; with_reducible refine w_bk ?_)
  | (with_reducible show Ends.ct _ _ _; with_reducible refine w_ct ?_)
  | with_reducible refine w_seq ?_
  | with_reducible refine w_next ?_
  | with_reducible refine w_ret ?_
  | with_reducible refine w_ifS ?_
  | with_reducible refine w_asg ?_
  | with_reducible refine w_name ?_
  | with_reducible refine w_par ?_
  | with_reducible refine w_parI ?_
  | with_reducible refine w_ii ?_
  | with_reducible refine w_i1 ?_
  | with_reducible refine w_drop ?_
  | with_reducible refine w_sFld ?_
  | ((with_reducible refine' w_var ?rdh ?_); (case rdh => exact rfl))
  | with_reducible refine w_c ?_
  | with_reducible refine w_op ?_
  | with_reducible refine w_un ?_
  | with_reducible refine w_I0 ?_
  | with_reducible refine w_U ?_
  | with_reducible refine w_bits ?_
  | with_reducible refine w_bitsI ?_
  | with_reducible refine w_tup ?_
  | with_reducible refine w_lst ?_
  | with_reducible refine w_nil ?_
  | with_reducible refine w_cons ?_
  | with_reducible refine w_fld ?_
  | with_reducible refine w_call ?_
  | with_reducible refine w_make ?_
  | with_reducible refine w_gsub ?_
  | with_reducible refine w_int1 ?_
  | with_reducible refine w_intB ?_
  | with_reducible refine w_for ?_
  | with_reducible refine w_rng1 ?_
  | with_reducible refine w_iList ?_
  | with_reducible refine w_iTup ?_
  | with_reducible refine w_makeD ?_
  | with_reducible refine w_nn ?_
  | with_reducible refine w_subB ?_
  | with_reducible refine w_meth ?_
  | with_reducible refine w_cb ?_
  | with_reducible refine w_test ?_
  | with_reducible refine w_B ?_
  | with_reducible refine w_bl ?_
  | with_reducible refine w_andV ?_
  | with_reducible refine w_orV ?_
  | with_reducible refine w_notV ?_
  | with_reducible refine w_and ?_
  | with_reducible refine w_or ?_
  | with_reducible refine w_not ?_
  | with_reducible refine w_if ?_
  | with_reducible refine w_gnil ?_
  | with_reducible refine w_gcons ?_
  | with_reducible refine iT ?_
  | with_reducible refine iF ?_
  | with_reducible refine w_eqI ?_
  | with_reducible refine w_neI ?_
  | with_reducible refine w_eqS ?_
  | with_reducible refine w_eqIS ?_
  | with_reducible refine w_eqSI ?_)

abbrev s_law_cell_at : Stmt := top 49
abbrev s_law_well : Stmt := top 50
abbrev s_law_draw : Stmt := top 51
abbrev s_law_one : Stmt := top 52
abbrev s_law_with : Stmt := top 54
structure AllM (K : PySem.W.Frag) (mg : Str → Option Value) (CF CT CN CZ CG CW CE : Addr) : Prop extends AllW K mg CF CT CN CZ CG CW CE where
  ne_NZ : CN ≠ CZ
  x_cell : Tx K mg "_law_cell_at" "_law_cell_at" s_law_cell_at ["script", "k"]
  x_well : Tx K mg "_law_well" "_law_well" s_law_well ["cell"]
  x_draw : Tx K mg "_law_draw" "_law_draw" s_law_draw ["well", "many"]
  x_one : Tx K mg "_law_one" "_law_one" s_law_one ["well", "some"]
  x_with : Tx K mg "_law_with" "_law_with" s_law_with ["table", "name", "value"]
/-! ### the well: a list of three ints -/
structure WellD (n : Nat) (a b c : Int) : Prop where
  a0 : 0 ≤ a
  c0 : 0 ≤ c
  c1 : c ≤ n
def Well (n : Nat) (H : Hp) (w : Addr) : Prop := ∃ a b c, H w = some (.lst [.int a, .int b, .int c]) ∧ WellD n a b c
theorem Well.mono {n m : Nat} {H : Hp} {w : Addr} (h : Well n H w) (hm : n ≤ m) : Well m H w := by
  obtain ⟨a, b, c, e, d⟩ := h
  exact ⟨a, b, c, e, ⟨d.a0, d.c0, by have := d.c1; omega⟩⟩
theorem Well.same {n : Nat} {H H' : Hp} {w : Addr} (h : Well n H w) (s : Same H H') : Well n H' w := by
  obtain ⟨a, b, c, e, d⟩ := h
  exact ⟨a, b, c, s _ _ e, d⟩
theorem Well.fr {n : Nat} {CT CN : Addr} {S : List Addr} {H H' : Hp} {w : Addr} (h : Well n H w) (s : Fr CT CN S H H') (hw : w ∈ S) : Well n H' w := by
  obtain ⟨a, b, c, e, d⟩ := h
  exact ⟨a, b, c, s.s _ hw _ e, d⟩
theorem cmulS {i j : Int} (h : i.natAbs < 18446744073709551616) (h' : j.natAbs < 18446744073709551616) : CMulX i j := by
  refine cmulW ?_
  have a := (bits_le (n := i) (k := 64)).2 h
  have b := (bits_le (n := j) (k := 64)).2 h'
  unfold bits at a b
  omega
section
variable {P : Program} {w : World} {K : PySem.W.Frag} {mg : Str → Option Value} {base : Heap} {CF CT CN CZ CG CW CE : Addr}
def spCell (K : PySem.W.Frag) : Sp := fun vs H Q _ => ∃ (a : Addr) (ns : List Int) (k : Nat), vs = [.ref a, .int k] ∧ SqL K H a (ns.map V.int) ∧ ns.length ≤ 63 ∧ (∀ z ∈ ns, bits z ≤ 1048576) ∧ k ≤ 1000 ∧ ∀ z, bits z ≤ 1048576 → Q (.int z) H
theorem sc_law_cell_at : FnScope ["script", "k"] ["script", "k"] (defScope s_law_cell_at) := ⟨rfl, rfl, rfl, by decide +kernel, rfl, by decide +kernel, by decide +kernel⟩
theorem ok_cell (T : AllM K mg CF CT CN CZ CG CW CE) : Kn P w K mg base CX0 1 "_law_cell_at" ["script", "k"] (spCell K) := by
  refine T.x_cell.kn fun f fd F => ?_
  refine F.ok sc_law_cell_at (fun vs H Q E h => ?_) (fun cdv A outer s H vs Q E hr h => ?_)
  · obtain ⟨a, ns, k, rfl, _⟩ := h
    rfl
  · obtain ⟨a, ns, k, rfl, hS, hl, hb, hk, q⟩ := h
    refine ⟨_, (pss_one (ps_ret (pe_ifExp (pt_cmpR op_lt (pv 1) (pe_callB call_len_seq (by rfl) T.b_len boot_len (pa_cons (pv 0) pa_nil)) (nomark _)) (pe_ix ix_list (pv 0) (pv 1) (fun _ _ => rfl)) pe_int))), ?_⟩
    repeat walk_at "rd"
    refine ⟨a, _, rfl, .inl hS, ?_⟩
    rw [List.length_map]
    repeat walk_at "rd"
    refine iD (fun c => ?_) (fun c => ?_)
    · obtain ⟨y, hy⟩ : ∃ y, ns[k]? = some y := ⟨_, List.getElem?_eq_getElem (by omega)⟩
      have by' := hb y (List.mem_of_getElem? hy)
      repeat walk_at "rd"
      refine ⟨a, _, (k : Int), .int y, rfl, rfl, hS, atN (by rw [List.getElem?_map, hy]; rfl), ?_⟩
      repeat walk_at "rd"
      exact q y by'
    · repeat walk_at "rd"
      exact q 0 (by decide)
def spWell : Sp := fun vs H Q _ => ∃ c, vs = [.int c] ∧ bits c ≤ 1048576 ∧ ∀ p H', Same H H' → H p = none → Well 0 H' p → Q (.ref p) H'
theorem sc_law_well : FnScope ["cell"] ["cell"] (defScope s_law_well) := ⟨rfl, rfl, rfl, by decide +kernel, rfl, by decide +kernel, by decide +kernel⟩
theorem ok_well (T : AllM K mg CF CT CN CZ CG CW CE) : Kn P w K mg base CX0 1 "_law_well" ["cell"] spWell := by
  refine T.x_well.kn fun f fd F => ?_
  refine F.ok sc_law_well (fun vs H Q E h => ?_) (fun cdv A outer s H vs Q E hr h => ?_)
  · obtain ⟨c, rfl, _⟩ := h
    rfl
  · obtain ⟨c, rfl, hc, q⟩ := h
    refine ⟨_, (pss_one (ps_ret (pe_lst (pa_cons (pe_op op_mulX (pv 0) (pe_callTy call_int1 (by rfl) T.b_int boot_int (pa_cons (pe_cmpR op_ge (pv 0) (pe_op op_pow pe_int pe_int) (nomark _)) pa_nil))) (pa_cons (pv 0) (pa_cons pe_int pa_nil)))))), ?_⟩
    repeat walk_at "rd"
    refine w_I (cpow (by decide) (by decide) (by decide)) ?_
    repeat walk_at "rd"
    refine w_I (cmulW (by have : bits (if decide (10 ^ Int.toNat 18 ≤ c) = true then (1 : Int) else 0) ≤ 1 := by split <;> decide
                          unfold bits at this hc; omega)) ?_
    repeat walk_at "rd"
    refine w_lst3 fun p H' s n h => ?_
    refine q p H' s n ⟨_, _, _, h, ?_, Int.le_refl _, Int.le_refl _⟩
    by_cases g : (10 : Int) ^ Int.toNat 18 ≤ c
    · rw [decide_eq_true g, if_pos rfl, Int.mul_one]
      have : (0 : Int) < 10 ^ Int.toNat 18 := by decide
      omega
    · rw [decide_eq_false g, if_neg Bool.false_ne_true, Int.mul_zero]
      exact Int.le_refl _
/-! ### a draw -/
def spDraw : Sp := fun vs H Q _ => ∃ p many n, vs = [.ref p, .int many] ∧ Well n H p ∧ n < 1000000 ∧ 0 < many ∧ bits many ≤ 64 ∧
  ∀ r H', Oth p H H' → Well (n + 1) H' p → 0 ≤ r → r < many → Q (.int r) H'
theorem sc_law_draw : FnScope ["well", "many", "drawn", "salt", "mixed"] ["well", "many"] (defScope s_law_draw) := ⟨rfl, rfl, rfl, by decide +kernel, rfl, by decide +kernel, by decide +kernel⟩
theorem ok_draw (T : AllM K mg CF CT CN CZ CG CW CE) : Kn P w K mg base CX0 1 "_law_draw" ["well", "many"] spDraw := by
  refine T.x_draw.kn fun f fd F => ?_
  refine F.ok sc_law_draw (fun vs H Q E h => ?_) (fun cdv A outer s H vs Q E hr h => ?_)
  · obtain ⟨p, many, n, rfl, _⟩ := h
    rfl
  · obtain ⟨p, many, n, rfl, ⟨a, b, c, hw, d⟩, hn, m0, m1, q⟩ := h
    refine ⟨_, (pss_cons (ps_if (pt_cmpR op_gt (pe_ix ix_list (pv 0) pe_int (fun _ _ => rfl)) pe_int (nomark _)) (pss_cons (ps_set (i := 2) sc_law_draw.nd rfl (Or.inl rfl) (pe_op op_mod (pe_callTy call_int1 (by rfl) T.b_int boot_int (pa_cons (pe_ix ix_list (pv 0) pe_int (fun _ _ => rfl)) pa_nil)) (pv 1)))
      (pss_cons (ps_asg (pe_op op_fdivW (pe_ix ix_list (pv 0) pe_int (fun _ _ => rfl)) (pv 1)) (pg_sub (pv 0) pe_int set_list))
      (pss_one (ps_ret (pv 2))))) pss_nil)
      (pss_cons (ps_asg (pe_op op_add (pe_ix ix_list (pv 0) pe_int (fun _ _ => rfl)) pe_int) (pg_sub (pv 0) pe_int set_list))
      (pss_cons (ps_set (i := 3) sc_law_draw.nd rfl (Or.inl rfl) (pe_op op_add (pe_op op_mod (pe_callTy call_int1 (by rfl) T.b_int boot_int (pa_cons (pe_ix ix_list (pv 0) pe_int (fun _ _ => rfl)) pa_nil)) pe_int) (pe_op op_mulX (pe_op op_mod (pe_callTy call_int1 (by rfl) T.b_int boot_int (pa_cons (pe_op op_fdivW (pe_ix ix_list (pv 0) pe_int (fun _ _ => rfl)) pe_int) pa_nil)) pe_int) pe_int)))
      (pss_cons (ps_set (i := 4) sc_law_draw.nd rfl (Or.inl rfl) (pe_op op_mod (pe_callTy call_int1 (by rfl) T.b_int boot_int (pa_cons (pe_op op_pow (pe_op op_add (pe_op op_add (pv 3) (pe_op op_mulX pe_int (pe_ix ix_list (pv 0) pe_int (fun _ _ => rfl)))) pe_int) pe_int) pa_nil)) pe_int))
      (pss_cons (ps_set (i := 4) sc_law_draw.nd rfl (Or.inl rfl) (pe_op op_mod (pe_callTy call_int1 (by rfl) T.b_int boot_int (pa_cons (pe_op op_mulX (pv 4) (pe_op op_add (pe_op op_add (pe_op op_fdivW (pv 4) pe_int) pe_int) (pe_ix ix_list (pv 0) pe_int (fun _ _ => rfl)))) pa_nil)) pe_int))
      (pss_one (ps_ret (pe_op op_mod (pe_callTy call_int1 (by rfl) T.b_int boot_int (pa_cons (pe_op op_mod (pe_callTy call_int1 (by rfl) T.b_int boot_int (pa_cons (pe_op op_mulX (pv 4) (pe_op op_add (pe_op op_fdivW (pv 4) pe_int) pe_int)) pa_nil)) pe_int) pa_nil)) (pv 1))))))))), ?_⟩
    obtain ⟨a0, c0, c1⟩ := d
    repeat walk_at "rd"
    refine w_ixL hw (v := .int a) rfl ?_
    repeat walk_at "rd"
    refine iD (fun g => ?_) (fun g => ?_)
    · repeat walk_at "rd"
      refine w_ixL hw (v := .int a) rfl ?_
      repeat walk_at "rd"
      refine w_I m0 ?_
      repeat walk_at "rd"
      refine w_ixL hw (v := .int a) rfl ?_
      repeat walk_at "rd"
      refine w_I (cdivw m0 (by omega)) ?_
      repeat walk_at "rd"
      refine w_setL hw rfl ?_
      repeat walk_at "rd"
      refine q _ _ Oth.refl.put ⟨_, _, _, upd_same, ?_⟩ (Int.emod_nonneg _ (by omega)) (Int.emod_lt_of_pos _ m0)
      have e0 : 0 ≤ a / many := Int.ediv_nonneg a0 (by omega)
      exact ⟨e0, c0, by omega⟩
    · repeat walk_at "rd"
      refine w_ixL hw (v := .int c) rfl ?_
      repeat walk_at "rd"
      refine w_setL (j := 2) hw rfl ?_
      have hw2 := upd_same (H := H) (a := p) (o := .lst (List.set [V.int a, .int b, .int c] 2 (.int (c + 1))))
      have o2 := (Oth.refl (x := p) (H := H)).put (o := .lst (List.set [V.int a, .int b, .int c] 2 (.int (c + 1))))
      generalize upd H p (.lst (List.set [V.int a, .int b, .int c] 2 (.int (c + 1)))) = H2 at hw2 o2 ⊢
      change H2 p = some (.lst [.int a, .int b, .int (c + 1)]) at hw2
      have W2 : Well (n + 1) H2 p := ⟨_, _, _, hw2, ⟨a0, by omega, by omega⟩⟩
      repeat walk_at "rd"
      refine w_ixL hw2 (v := .int b) rfl ?_
      repeat walk_at "rd"
      refine w_I (by decide) ?_
      repeat walk_at "rd"
      refine w_ixL hw2 (v := .int b) rfl ?_
      repeat walk_at "rd"
      refine w_I (cdivw (by decide) (by decide)) ?_
      repeat walk_at "rd"
      refine w_I (by decide) ?_
      repeat walk_at "rd"
      have g0 := Int.emod_nonneg b (show (2147483587 : Int) ≠ 0 by decide)
      have g1 := Int.emod_lt_of_pos b (show (0 : Int) < 2147483587 by decide)
      have g2 := Int.emod_nonneg (b / 2147483587) (show (64997 : Int) ≠ 0 by decide)
      have g3 := Int.emod_lt_of_pos (b / 2147483587) (show (0 : Int) < 64997 by decide)
      generalize b % 2147483587 = a1 at g0 g1 ⊢
      generalize b / 2147483587 % 64997 = a2 at g2 g3 ⊢
      refine w_I (cmulS (by omega) (by decide)) ?_
      repeat walk_at "rd"
      refine w_ixL hw2 (v := .int (c + 1)) rfl ?_
      repeat walk_at "rd"
      refine w_I (cmulS (by decide) (by omega)) ?_
      repeat walk_at "rd"
      refine w_I (cpow (by decide) (by decide) (by omega)) ?_
      repeat walk_at "rd"
      refine w_I (by decide) ?_
      repeat walk_at "rd"
      have h0 := Int.emod_nonneg ((a1 + a2 * 43 + 6011 * (c + 1) + 37) ^ Int.toNat 5) (show (2147483647 : Int) ≠ 0 by decide)
      have h1 := Int.emod_lt_of_pos ((a1 + a2 * 43 + 6011 * (c + 1) + 37) ^ Int.toNat 5) (show (0 : Int) < 2147483647 by decide)
      generalize (a1 + a2 * 43 + 6011 * (c + 1) + 37) ^ Int.toNat 5 % 2147483647 = b1 at h0 h1 ⊢
      refine w_I (cdivw (by decide) (by decide)) ?_
      repeat walk_at "rd"
      refine w_ixL hw2 (v := .int (c + 1)) rfl ?_
      repeat walk_at "rd"
      refine w_I (cmulS (by omega) (by omega)) ?_
      repeat walk_at "rd"
      refine w_I (by decide) ?_
      repeat walk_at "rd"
      have i0 := Int.emod_nonneg (b1 * (b1 / 971 + 50023 + (c + 1))) (show (2147483629 : Int) ≠ 0 by decide)
      have i1 := Int.emod_lt_of_pos (b1 * (b1 / 971 + 50023 + (c + 1))) (show (0 : Int) < 2147483629 by decide)
      generalize b1 * (b1 / 971 + 50023 + (c + 1)) % 2147483629 = c1' at i0 i1 ⊢
      refine w_I (cdivw (by decide) (by decide)) ?_
      repeat walk_at "rd"
      refine w_I (cmulS (by omega) (by omega)) ?_
      repeat walk_at "rd"
      refine w_I (by decide) ?_
      repeat walk_at "rd"
      refine w_I m0 ?_
      exact q _ _ o2 W2 (Int.emod_nonneg _ (by omega)) (Int.emod_lt_of_pos _ m0)
/-! ### one of some -/
def spOne : Sp := fun vs H Q _ => ∃ (p l : Addr) (n : Nat) (xs : List V), vs = [.ref p, .ref l] ∧ Well n H p ∧ n < 1000000 ∧ l ≠ p ∧ H l = some (.lst xs) ∧ 0 < xs.length ∧ xs.length ≤ 1000 ∧
  ∀ (i : Nat) v H', xs[i]? = some v → Oth p H H' → Well (n + 1) H' p → Q v H'
theorem sc_law_one : FnScope ["well", "some"] ["well", "some"] (defScope s_law_one) := ⟨rfl, rfl, rfl, by decide +kernel, rfl, by decide +kernel, by decide +kernel⟩
theorem ok_one (T : AllM K mg CF CT CN CZ CG CW CE) (k_law_draw : Kn P w K mg base CX0 1 "_law_draw" ["well", "many"] spDraw) : Kn P w K mg base CX0 2 "_law_one" ["well", "some"] spOne := by
  refine T.x_one.kn fun f fd F => ?_
  refine F.ok sc_law_one (fun vs H Q E h => ?_) (fun cdv A outer s H vs Q E hr h => ?_)
  · obtain ⟨p, l, n, xs, rfl, _⟩ := h
    rfl
  · obtain ⟨p, l, n, xs, rfl, hw, hn, lp, hl, l0, l1, q⟩ := h
    refine ⟨_, (pss_one (ps_ret (pe_ix ix_list (pv 1) (pk k_law_draw hr (pa_cons (pv 0) (pa_cons (pe_callB call_len_seq (by rfl) T.b_len boot_len (pa_cons (pv 1) pa_nil)) pa_nil))) (fun _ _ => rfl)))), ?_⟩
    repeat walk_at "rd"
    refine w_lenL hl ?_
    repeat walk_at "rd"
    refine ⟨p, _, n, rfl, hw, hn, by omega, bits64 (by omega) (by omega), fun r H' o W r0 r1 => ?_⟩
    obtain ⟨v, hv⟩ : ∃ v, xs[r.toNat]? = some v := ⟨_, List.getElem?_eq_getElem (by omega)⟩
    have e := atN hv
    rw [Int.toNat_of_nonneg r0] at e
    refine w_ixL (o _ _ lp hl) e ?_
    exact q _ _ _ hv o W
/-! ### Native(name, None) -/
def spNat (CZ : Addr) : Sp := fun vs H Q _ => ∃ x dx z, vs = [.ref x, .str z, .non] ∧ H x = some (.ins CZ dx []) ∧ ∀ H', Oth x H H' → H' x = some (.ins CZ dx (nvF z)) → Q .non H'
theorem sc_Native_init : FnScope ["self", "name", "act"] ["self", "name", "act"] (defScope s_Native_init) := ⟨rfl, rfl, rfl, by decide +kernel, rfl, by decide +kernel, by decide +kernel⟩
theorem ok_Native (T : AllM K mg CF CT CN CZ CG CW CE) : KnC P w K mg base CX0 1 "Native" CZ ["self", "name", "act"] (spNat CZ) := by
  refine T.x_Native.kn fun f fd F => ?_
  refine F.ok sc_Native_init (fun vs H Q E h => ?_) (fun cdv A outer s H vs Q E hr h => ?_)
  · obtain ⟨x, dx, z, rfl, _⟩ := h
    rfl
  · obtain ⟨x, dx, z, rfl, hx, q⟩ := h
    refine ⟨_, (pss_cons (ps_fld (pv 0) (pv 1) rfl)
      (pss_one (ps_fld (pv 0) (pv 2) rfl))), ?_⟩
    repeat walk_at "rd"
    refine w_sfI hx T.l_Native T.n_name (by decide) ?_
    repeat walk_at "rd"
    refine w_sfI upd_same T.l_Native T.n_act (by have := length_putF "name" (V.str z) []; simp at this; omega) ?_
    repeat walk_at "rd"
    exact q _ Oth.refl.put.put upd_same
theorem u_nat {z : Str} {H : Hp} {Q : VK} {E : XK} (q : ∀ x H', Same H H' → H x = none → (∃ dx, H' x = some (.ins CZ dx (nvF z))) → Q (.ref x) H') : MakeK CZ (spNat CZ) [.str z, .non] H Q E := by
  intro x dx hx hdx ne
  refine ⟨x, dx, z, rfl, upd_same, fun H' k hx' => ⟨rfl, q x H' (fun b o e => k b o (ne_of_none e hx) ?_) hx ⟨dx, hx'⟩⟩⟩
  rw [upd_ne (ne_of_none e hx), upd_ne (ne_of_none e hdx)]
  exact e
theorem Vk.mk {W : List WR} {H : Hp} {x : Addr} {z : Str} (h : ∃ dx, H x = some (.ins CZ dx (nvF z))) : Vk CZ W H .nat (.ref x) := by
  obtain ⟨dx, h⟩ := h
  have h1 : (("kind_word" : Str) == "name") = false := by decide +kernel
  have h2 : (("kind_word" : Str) == "act") = false := by decide +kernel
  exact ⟨x, dx, _, rfl, h, by simp only [nvF, List.lookup, h1, h2]⟩
/-! ### a metatable with a field -/
def spWith (CF CT CN CZ : Addr) : Sp := fun vs H Q _ => ∃ S W n a z v kd, vs = [.ref a, .str z, v] ∧ St CF CT CN CZ S W H n ∧ n ≤ 1000 ∧ a ∈ adrs W ∧ metaW W (.ref a) "__metatable" = .non ∧ Vk CZ W H kd v ∧
  ∀ x W' H', St CF CT CN CZ S W' H' (n + 1) → H x = none → adrs W' = adrs W ++ [x] → (∀ b, mOf W' b = if b = a then .ref x else mOf W b) → (∀ b k, tlW W' b k = if b = x ∧ k = .str z then v else tlW W b k) → Fr CT CN S H H' → Q (.ref x) H'
theorem sc_law_with : FnScope ["table", "name", "value", "meta"] ["table", "name", "value"] (defScope s_law_with) := ⟨rfl, rfl, rfl, by decide +kernel, rfl, by decide +kernel, by decide +kernel⟩
theorem ok_with (T : AllM K mg CF CT CN CZ CG CW CE) (k_Table1 : KnCD P w K mg base CX0 2 "Table" CT ["self", "number", "array", "nodes", "meta"] [.int 0, .int 0, .non] (spTab CF CT CN)) (k_Table_put : KnM P w K mg base CX0 10 CT "put" ["self", "key", "value"] (spPutG CF CT CN))
    (k_set_meta : Kn P w K mg base CX0 8 "set_meta" ["table", "meta"] (spSetM CF CT CN CZ)) : Kn P w K mg base CX0 11 "_law_with" ["table", "name", "value"] (spWith CF CT CN CZ) := by
  refine T.x_with.kn fun f fd F => ?_
  refine F.ok sc_law_with (fun vs H Q E h => ?_) (fun cdv A outer s H vs Q E hr h => ?_)
  · obtain ⟨S, W, n, a, z, v, kd, rfl, _⟩ := h
    rfl
  · obtain ⟨S, W, n, a, z, v, kd, rfl, t, hn, ha, hm, hv, q⟩ := h
    refine ⟨_, (pss_cons (ps_set (i := 3) sc_law_with.nd rfl (Or.inl rfl) (pkCD k_Table1 hr (pa_cons pe_int pa_nil)))
      (pss_cons (ps_expr (pkM k_Table_put T.l_Table hr (pv 3) (pa_cons (pv 1) (pa_cons (pv 2) pa_nil)) rfl))
      (pss_cons (ps_expr (pk k_set_meta hr (pa_cons (pv 0) (pa_cons (pv 3) pa_nil))))
      (pss_one (ps_ret (pv 3)))))), ?_⟩
    repeat walk_at "rd"
    intro x dx hx hdx ne
    refine u_snew t hx hdx ne _ rfl fun W1 H1 t1 s1 ad1 mo1 tl1 => ?_
    have sub : ∀ b ∈ adrs W, b ∈ adrs W1 := fun b hb => by rw [ad1]; exact List.mem_append_left _ hb
    have x1 : x ∈ adrs W1 := by rw [ad1]; exact List.mem_append_right _ (List.mem_singleton.2 rfl)
    obtain ⟨i1, u1, hu1, eu1, _⟩ := t1.g.idx x1
    obtain ⟨d1, pa1, pn1, fr1, e1⟩ := t1.g.ins (List.mem_of_getElem? hu1)
    rw [eu1] at e1
    repeat walk_at "rd"
    refine w_methI e1 (lk_t _ _ _ _ _ (by decide +kernel)) ?_
    repeat walk_at "rd"
    refine u_sput T.ne_TZ T.ne_NZ t1 (by omega) x1 ((hv.same s1).sub sub) _ rfl fun W2 H2 t2 ad2 mo2 tl2 f2 => ?_
    repeat walk_at "rd"
    have nx : x ≠ a := fun c => t.fresh hx (c ▸ ha)
    refine u_sset T.ne_TZ T.ne_NZ t2 (a := a) (v := .ref x) (by rw [ad2]; exact sub _ ha) ?_ (.inr ⟨x, rfl, by rw [ad2]; exact x1⟩) _ rfl fun W3 H3 t3 ad3 mo3 tl3 f3 => ?_
    · rw [metaW_eq] at hm ⊢
      rw [mo2, mo1]
      rcases t.gd.mo a with e | ⟨b, e, hb⟩
      · rw [e]
      · rw [e] at hm ⊢
        show tlW W2 b _ = _
        rw [tl2, if_neg (show ¬ (b = x ∧ _) from fun c => t.fresh hx (c.1 ▸ hb)), tl1]
        exact hm
    · repeat walk_at "rd"
      refine q x W3 H3 t3 hx (by rw [ad3, ad2, ad1]) (fun b => ?_) (fun b k => ?_) (((Fr.of s1).trans f2).trans f3)
      · rw [mo3, mo2, mo1]
      · rw [tl3, tl2, tl1]
end
end Nu

set_option Elab.async false
set_option linter.all false
set_option maxRecDepth 100000
set_option autoImplicit false
set_option maxHeartbeats 4000000
set_option pp.maxSteps 900
namespace Rd
open PySem PySem.Spec PyProof.Rows L2 LamX
/-- a statement's reading where the frame has n slots -/
theorem ps_len {X : Cx} {st : Stmt} {t : TS} (n : Nat) (h : PS X st t) (hn : X.N.length = n := by rfl) : PS X st (fun D σ H => σ.length = n → t D σ H) := ⟨fun pins s σ H D I q => h.run pins s σ H D I (q (I.len.trans hn))⟩
section
variable {X : Cx} {K : PySem.W.Frag}
theorem pi_listK {tg l : Expr} {tl : TE} (hl : PE X l tl) (hk : X.K = K := by rfl) : PI X tg l (iList K tl) := hk ▸ pi_list hl
theorem op_notInDK (hu : X.A.units + 65 < cLine) (hk : X.K = K := by rfl) : OpR X (compareOp .NotIn) (rNotInD K) := hk ▸ op_notInD hu
end
section
variable {X : Cx}
/-- x(lambda: body), x a def of the text -/
theorem pe_lamF {T : List (Addr × Str)} {TT : (XK → Hp → VK → Prop) → Hp → VK → Prop} {x a : Str} {c Pt : Addr} {k : Nat} {st : Stmt} {Ng : List Str} {params : Arguments} {body : Expr} {scope : Scope} {t : XK → TE} {p lpos pos : Pos} (tx : Tx X.K X.mg x x st [a]) (Sg : FnScope Ng [a] (defScope st)) (hNg : Ng[0]? = some a) (hva : Vis (defScope st) a)
    (hG : ∀ (g : Addr) (cdg : Value), GivesTo X Ng x (defScope st) g cdg (defBody st) a (X.env.qual ++ "<lambda>") TT) (hg : Gl X x) (TB : TabB X.base X.mg c Pt) (hcode : X.env.code = .ref c) (hmT : (Pt, X.env.qual ++ "<lambda>") ∈ T) (hu : ∀ p ∈ T, p.1 = Pt → p.2 = X.env.qual ++ "<lambda>") (hr : Room (k + 2) X.A)
    (L : LamS X.env.scope scope) (hdef : defaultsOf params X.env = ([], [])) (hbind : ∀ (q : Str) (cl : List (Str × Addr)) (pm cv ctv : Value), bindArgs (PySem.W.kla_fn "<lambda>" q params body scope cl pm cv ctv) ⟨[], []⟩ = pure [])
    (hbody : ∀ (A : Around) (outer : List Env) (s : Shared) (H : Hp) (E : XK) (f c' : Addr), Room k (A.deeper (lamEnv X scope s.heap.objs.size f c')) → PE (lamCx X A outer s H E scope f c') body (t E))
    (hdb : (x == ("__debug__" : Str)) = false := by decide) (hd : (a == ("__debug__" : Str)) = false := by decide) (hcd : (a == ("__classdict__" : Str)) = false := by decide) : PE X (.Call (.Name x p) [.Lambda params body scope lpos] [] pos) (tLam T TT t) := by
  obtain ⟨f, fd, hm, F, hb⟩ := tx.ex
  obtain ⟨oc, od, kV, doc, pm, an, cdv, ct, osl, rfl, lk, hc⟩ := F.ex
  exact pe_lamcall hg hm F.kp lk hc hb Sg hNg hva (hG f cdv) TB hcode hmT hu hr L hdef hbind hbody hdb hd hcd
end
end Rd
namespace Nu
open PySem PySem.Spec PyProof.Rows L2 L2.DX Rd Tm LamX
local macro_rules | `(tactic| walk_at "hp") => `(tactic| first | assumption | (refine same_get ?sm ?_; (case sm => assumption); walk_at "hp"))
local macro_rules | `(tactic| walk_at "rd") => `(tactic| first
  | (with_reducible show Ends.nx _ _ _; with_reducible refine w_nx ?_)
  | with_reducible refine w_rt ?_
  | (with_reducible show Ends.bk _ _ _; with_reducible refine w_bk ?_)
  | (with_reducible show Ends.ct _ _ _; with_reducible refine w_ct ?_)
  | with_reducible refine w_seq ?_
  | with_reducible refine w_next ?_
  | with_reducible refine w_ret ?_
  | with_reducible refine w_ifS ?_
  | with_reducible refine w_asg ?_
  | with_reducible refine w_name ?_
  | with_reducible refine w_par ?_
  | with_reducible refine w_parI ?_
  | with_reducible refine w_ii ?_
  | with_reducible refine w_i1 ?_
  | with_reducible refine w_drop ?_
  | with_reducible refine w_sFld ?_
  | ((with_reducible refine' w_var ?rdh ?_); (case rdh => exact rfl))
  | with_reducible refine w_c ?_
  | with_reducible refine w_op ?_
  | with_reducible refine w_un ?_
  | with_reducible refine w_I0 ?_
  | with_reducible refine w_U ?_
  | with_reducible refine w_bits ?_
  | with_reducible refine w_bitsI ?_
  | with_reducible refine w_tup ?_
  | with_reducible refine w_lst ?_
  | with_reducible refine w_nil ?_
  | with_reducible refine w_cons ?_
  | with_reducible refine w_fld ?_
  | with_reducible refine w_call ?_
  | with_reducible refine w_make ?_
  | with_reducible refine w_gsub ?_
  | with_reducible refine w_int1 ?_
  | with_reducible refine w_intB ?_
  | with_reducible refine w_for ?_
  | with_reducible refine w_rng1 ?_
  | with_reducible refine w_iList ?_
  | with_reducible refine w_iTup ?_
  | with_reducible refine w_makeD ?_
  | with_reducible refine w_nn ?_
  | with_reducible refine w_subB ?_
  | with_reducible refine w_meth ?_
  | with_reducible refine w_cb ?_
  | with_reducible refine w_test ?_
  | with_reducible refine w_B ?_
  | with_reducible refine w_bl ?_
  | with_reducible refine w_andV ?_
  | with_reducible refine w_orV ?_
  | with_reducible refine w_notV ?_
  | with_reducible refine w_and ?_
  | with_reducible refine w_or ?_
  | with_reducible refine w_not ?_
  | with_reducible refine w_if ?_
  | with_reducible refine w_gnil ?_
  | with_reducible refine w_gcons ?_
  | with_reducible refine iT ?_
  | with_reducible refine iF ?_
  | with_reducible refine w_eqI ?_
  | with_reducible refine w_neI ?_
  | with_reducible refine w_eqS ?_
  | with_reducible refine w_eqIS ?_
  | with_reducible refine w_eqSI ?_)

/-- a def whose code object is known -/
theorem fun_okC {P : Program} {w : World} {K : PySem.W.Frag} {mg : Str → Option Value} {base : Heap} {x qual : Str} {st : Stmt} {f c : Addr} {fd : FuncData} {N ps : List Str} {k : Nat} {sp : Sp} (F : Fun K x qual st f fd) (hc : fd.code = .ref c) (S : FnScope N ps (defScope st)) (len : ∀ vs H Q E, sp vs H Q E → vs.length = ps.length)
    (hbody : ∀ (A : Around) (outer : List Env) (s : Shared) (H : Hp) (vs : List L2.V) (Q : VK) (E : XK), Room k (A.deeper (envOfC qual (defScope st) s.heap.objs.size f (.ref c))) → sp vs H Q E →
      ∃ t, PSs (cxOf CX0 P w K mg base N qual (defScope st) f (.ref c) A outer s H E).nox (defBody st) t ∧ t { nx := fun _ H' => Q .non H', rt := Q } (start N vs) H) : FnOk P w K mg base CX0 (k + 1) f fd ps sp := by
  obtain ⟨oc, od, kV, doc, pm, an, cdv, ct, osl, rfl, lk, hcd⟩ := F.ex
  have e : cdv = .ref c := hc
  subst e
  refine fn_of lk hcd S len fun A outer s H vs Q E hr hsp => ?_
  obtain ⟨t, h, q⟩ := hbody A outer s H vs Q E hr hsp
  exact ⟨t, h.nox, q⟩
abbrev s_law_told : Stmt := top 53
abbrev s_law_called_right : Stmt := top 55
abbrev s_law_ring_right : Stmt := top 56
abbrev s_law_protected_right : Stmt := top 57
abbrev s_law_closable_right : Stmt := top 58
abbrev s_law : Stmt := top 59
structure AllX (K : PySem.W.Frag) (mg : Str → Option Value) (CF CT CN CZ CG CW CE C1 C2 C3 P1 P2 P3 : Addr) : Prop extends AllM K mg CF CT CN CZ CG CW CE where
  x_told : Tx K mg "_law_told" "_law_told" s_law_told ["ask"]
  x_called : ∃ f fd, mg "_law_called_right" = some (.ref f) ∧ Fun K "_law_called_right" "_law_called_right" s_law_called_right f fd ∧ Binds K fd ["well"] [] ∧ fd.code = .ref C1
  x_ring : ∃ f fd, mg "_law_ring_right" = some (.ref f) ∧ Fun K "_law_ring_right" "_law_ring_right" s_law_ring_right f fd ∧ Binds K fd [] [] ∧ fd.code = .ref C2
  x_prot : ∃ f fd, mg "_law_protected_right" = some (.ref f) ∧ Fun K "_law_protected_right" "_law_protected_right" s_law_protected_right f fd ∧ Binds K fd ["well"] [] ∧ fd.code = .ref C3
  x_clos : Tx K mg "_law_closable_right" "_law_closable_right" s_law_closable_right ["well"]
  p_Table : ObjP K CT
  on_Native : ObjN K CZ
  s_TZ : PySem.W.subIn K (.ref CT) (.ref CZ) = some false
  ne_12 : P1 ≠ P2
  ne_13 : P1 ≠ P3
  ne_23 : P2 ≠ P3
theorem sc_law_told : FnScope ["ask", "e"] ["ask"] (defScope s_law_told) := ⟨rfl, rfl, rfl, by decide +kernel, rfl, by decide +kernel, by decide +kernel⟩
def XfK (a : Addr) (cls : Value) (d : Option Addr) (C : Addr) (f : Str) (x : V) (H1 : Hp) (Q : VK) : Prop := x = .ref a ∧ cls = .ref C ∧ ∃ (dd : Addr) (fs : List (Str × V)) (v : V), d = some dd ∧ H1 dd = some (.xd fs) ∧ fs.lookup f = some v ∧ Q v H1
theorem w_xf {a : Addr} {cls : Value} {d : Option Addr} {C : Addr} {f : Str} {te : TE} {Q : VK} {σ : L2.St} {H : Hp} (h : te σ H fun x H1 => XfK a cls d C f x H1 Q) : tXf a cls d C f te σ H Q := h
theorem thr_value (v : V) : (thrFs v).lookup ("value" : Str) = some v := by
  have h : (("value" : Str) == ("level" : Str)) = false := by decide +kernel
  simp [thrFs, List.lookup, h]
/-- what is told of a lambda: what it gives, or ("thrown", the value) -/
def TTt (CE : Addr) : (XK → Hp → VK → Prop) → Hp → VK → Prop := fun tl H Q =>
  tl (fun cls d H' => cls = .ref CE ∧ ∃ (dd : Addr) (fs : List (Str × L2.V)) (v : L2.V), d = some dd ∧ H' dd = some (.xd fs) ∧ fs.lookup ("value" : Str) = some v ∧ ∀ p, H' p = none → Q (.ref p) (upd H' p (.tup [.str "thrown", v]))) H Q
theorem told_gives {X : Cx} {CE : Addr} {q : Str} (hm : X.mg "Thrown" = some (.ref CE)) (xf : XfC X.K CE) (xn : PySem.W.findIn X.K (.ref CE) "value" = some none) (ex : PySem.W.exmOne X.K (.ref CE) (.ref CE) = some true) (g : Addr) (cdg : Value) :
    GivesTo X ["ask", "e"] "_law_told" (defScope s_law_told) g cdg (defBody s_law_told) "ask" q (TTt CE) := by
  intro f c' s H Q tl act hc h
  refine ⟨_, pss_one (ps_try_as (i := 1) (tb := fun W D σ H => ∃ Ech : XK, (∀ cls d σ' H', Ech cls d H' → W cls d σ' H') ∧ σ[0]? = some (some (.ref f)) ∧ H c' = some (CodeO c' q) ∧ tl Ech H D.rt)
    (ts := fun a cls d D σ H => σ.length = 2 → tRet (tTup (tCons (tC (.str "thrown")) (tCons (tXf a cls d CE "value" (tVar 1)) tNil))) D σ H) rfl rfl sc_law_told.nd rfl rfl ⟨rfl, by decide, Or.inl hm⟩ L2.takes0 (fun W pn xe tk _ => ?_)
    (fun a oe cls d pn hz hf => pss_one (ps_len 2 (ps_ret (pe_tup (pa_cons pe_str (pa_cons (pe_xf xf xn hz hf (pv 1)) pa_nil))))))), ?_⟩
  · refine ⟨fun pins s' σ H' D I h' => ?_⟩
    obtain ⟨Ech, hW, h1, h2, h3⟩ := h'
    exact (pss_one (ps_ret (act W pn xe Ech _ _ tk hW))).run pins s' σ H' D I ⟨h1, h2, h3⟩
  · refine ⟨fun cls d H' => cls = .ref CE ∧ ∃ (dd : Addr) (fs : List (Str × L2.V)) (v : L2.V), d = some dd ∧ H' dd = some (.xd fs) ∧ fs.lookup ("value" : Str) = some v ∧ ∀ p, H' p = none → Q (.ref p) (upd H' p (.tup [.str "thrown", v])), ?_, rfl, hc, h⟩
    rintro cls d σ' H' ⟨rfl, dd, fs, v, rfl, e, l, qq⟩
    refine ⟨true, ex, fun _ a ha hl => ?_, fun z => nomatch z⟩
    have hl2 : (σ'.set 1 (some (V.ref a)))[1]? = some (some (V.ref a)) := by
      rw [List.length_set] at hl
      simp [List.getElem?_set, hl]
    refine w_ret (w_tup (w_cons (w_c (w_cons (w_xf (w_var hl2 ⟨rfl, rfl, dd, fs, v, rfl, e, l, ?_⟩))))))
    exact w_nil ⟨by show 2 ≤ sizeLine; decide, fun p hp => qq p hp⟩
def qL1 : Str := (envOfC "_law_called_right" (defScope s_law_called_right) 0 0 .none).qual ++ "<lambda>"
def qL2 : Str := (envOfC "_law_ring_right" (defScope s_law_ring_right) 0 0 .none).qual ++ "<lambda>"
def qL3 : Str := (envOfC "_law_protected_right" (defScope s_law_protected_right) 0 0 .none).qual ++ "<lambda>"
def TLof (P1 P2 P3 : Addr) : List (Addr × Str) := [(P1, qL1), (P2, qL2), (P3, qL3)]
theorem tl_mem1 {P1 P2 P3 : Addr} : (P1, qL1) ∈ TLof P1 P2 P3 := List.mem_cons_self
theorem tl_mem2 {P1 P2 P3 : Addr} : (P2, qL2) ∈ TLof P1 P2 P3 := List.mem_cons_of_mem _ List.mem_cons_self
theorem tl_mem3 {P1 P2 P3 : Addr} : (P3, qL3) ∈ TLof P1 P2 P3 := List.mem_cons_of_mem _ (List.mem_cons_of_mem _ List.mem_cons_self)
theorem tl_any {P1 P2 P3 : Addr} (a : P1 ≠ P2) (b : P1 ≠ P3) (c : P2 ≠ P3) : (∀ p ∈ TLof P1 P2 P3, p.1 = P1 → p.2 = qL1) ∧ (∀ p ∈ TLof P1 P2 P3, p.1 = P2 → p.2 = qL2) ∧ (∀ p ∈ TLof P1 P2 P3, p.1 = P3 → p.2 = qL3) := by
  refine ⟨fun p hp e => ?_, fun p hp e => ?_, fun p hp e => ?_⟩
  all_goals
    unfold TLof at hp
    simp only [List.mem_cons, List.not_mem_nil, or_false] at hp
    rcases hp with rfl | rfl | rfl
    all_goals first
      | exact absurd e a
      | exact absurd e b
      | exact absurd e c
      | exact absurd e.symm a
      | exact absurd e.symm b
      | exact absurd e.symm c
      | rfl
/-- all but the tables stays, and the tables are well -/
structure EN (TL : List (Addr × Str)) (H H' : Hp) : Prop where
  e : ExtN H H'
  t : Tabs TL H'
section
variable {TL : List (Addr × Str)} {H H1 H2 H' : Hp}
theorem EN.refl (t : Tabs TL H) : EN TL H H := ⟨ExtN.refl _, t⟩
theorem EN.same (a : EN TL H H1) (s : Same H1 H2) : EN TL H H2 := ⟨a.e.trans (.of s), a.t.ext s⟩
theorem EN.trans (a : EN TL H H1) (b : EN TL H1 H2) : EN TL H H2 := ⟨a.e.trans b.e, b.t⟩
theorem EN.lst {a : Addr} {xs : List V} (s : EN TL H H') (h : H a = some (.lst xs)) : H' a = some (.lst xs) := s.e _ _ h fun ps z => by cases z
theorem EN.tup {a : Addr} {xs : List V} (s : EN TL H H') (h : H a = some (.tup xs)) : H' a = some (.tup xs) := s.e _ _ h fun ps z => by cases z
theorem EN.ins {a C dx : Addr} {fs : List (Str × V)} (s : EN TL H H') (h : H a = some (.ins C dx fs)) : H' a = some (.ins C dx fs) := s.e _ _ h fun ps z => by cases z
theorem w_lam {TT : (XK → Hp → VK → Prop) → Hp → VK → Prop} {t : XK → TE} {σ : L2.St} {Q : VK} (hT : Tabs TL H) (q : ∀ H1, ExtN H H1 → Tabs TL H1 → TT (fun E H' Q' => t E σ H' Q') H1 Q) : tLam TL TT t σ H Q := ⟨hT, q⟩
theorem tabs_keep (t : Tabs TL H) (k : ∀ b o, H b = some o → (∀ C d fs, o ≠ .ins C d fs) → (∀ xs, o ≠ .lst xs) → H' b = some o) : Tabs TL H' := fun p hp => by
  obtain ⟨ps, h1, h2, h3⟩ := t p hp
  refine ⟨ps, k _ _ h1 (fun _ _ _ z => by cases z) (fun _ z => by cases z), h2, fun pos cv hc => ?_⟩
  obtain ⟨c, e1, e2⟩ := h3 pos cv hc
  exact ⟨c, e1, k _ _ e2 (fun _ _ _ z => by unfold CodeO at z; cases z) fun _ z => by unfold CodeO at z; cases z⟩
theorem tabs_oth {w : Addr} {xs : List V} (t : Tabs TL H) (s : Oth w H H') (h : H w = some (.lst xs)) : Tabs TL H' :=
  tabs_keep t fun b o e _ hl => s b o (fun c => by rw [c, h] at e; cases e; exact hl xs rfl) e
theorem tabs_put {w : Addr} {xs : List V} {o : HO} (t : Tabs TL H) (h : H w = some (.lst xs)) : Tabs TL (upd H w o) := tabs_oth t Oth.refl.put h
end
section
variable {CF CT CN CZ : Addr} {S : List Addr} {W : List WR} {H H' : Hp} {n : Nat}
theorem TA.kind {CF CT CN : Addr} {Ev H : Hp} {x : Addr} {n m : V} {T : Tb} {pa pn : Addr} {L : List (Option (Addr × V))} (t : TA CF CT CN Ev H x n m T pa pn L) {b : Addr} (i : InT x pa pn L b) : ∃ o, H b = some o ∧ ((∃ C d fs, o = .ins C d fs) ∨ ∃ xs, o = .lst xs) := by
  rcases i with rfl | rfl | rfl | ⟨j, kv, e⟩
  · obtain ⟨dx, e⟩ := t.ins
    exact ⟨_, e, .inl ⟨_, _, _, rfl⟩⟩
  · exact ⟨_, t.arr, .inr ⟨_, rfl⟩⟩
  · exact ⟨_, t.nod, .inr ⟨_, rfl⟩⟩
  · obtain ⟨nd, _, _, dn, e2⟩ := t.nds j b kv e
    exact ⟨_, e2, .inl ⟨_, _, _, rfl⟩⟩
variable {CF CT CN x : Addr} {Ev Ev' H H' : Hp} {S : List Addr} {T : Tb} {L : List (Option (Addr × V))} {Q : VK} {E : XK}
/-- tables stand where all but tables of code objects stays -/
theorem MT.ext (g : MT CF CT CN S W H) (e : ExtN H H') (hS : ∀ b ∈ S, ∀ ps, H b ≠ some (.tbl ps)) : MT CF CT CN S W H' := by
  obtain ⟨R, g⟩ := g
  refine ⟨R, g.len, fun i w r hw hr => ?_, g.dis, fun b hb => ?_⟩
  · obtain ⟨t, p⟩ := g.ta i w r hw hr
    exact ⟨⟨t.toTC.keep fun b o i eb => e b o eb fun ps z => (by
      obtain ⟨u, hu, hk⟩ := t.kind i
      rw [eb] at hu
      cases hu
      rcases hk with ⟨C, d, fs, e⟩ | ⟨xs, e⟩ <;> rw [e] at z <;> cases z), fun b o e => (nomatch e), fun b _ => rfl⟩, p⟩
  · obtain ⟨o, eo⟩ := (g.out b hb).1
    exact ⟨⟨o, e b o eo fun ps z => hS b hb ps (z ▸ eo)⟩, (g.out b hb).2⟩
theorem Vk.ext {kd : Kd1} {v : V} (h : Vk CZ W H kd v) (s : ExtN H H') : Vk CZ W H' kd v := by
  cases kd with
  | nat => obtain ⟨a, dx, fs, e, h1, h2⟩ := h; exact ⟨a, dx, fs, e, s _ _ h1 (fun ps z => by cases z), h2⟩
  | _ => exact h
theorem St.ext (t : St CF CT CN CZ S W H n) (e : ExtN H H') (hS : ∀ b ∈ S, ∀ ps, H b ≠ some (.tbl ps)) : St CF CT CN CZ S W H' n :=
  ⟨t.g.ext e hS, ⟨fun w hw k => let ⟨kd, h⟩ := t.gd.v w hw k; ⟨kd, h.ext e⟩, t.gd.m⟩, t.jb⟩
/-- tables of code objects stand where tables change -/
theorem tabs_fr {TL : List (Addr × Str)} (t : Tabs TL H) (f : Fr CT CN S H H') : Tabs TL H' := tabs_keep t fun b o e h1 h2 => f.k b o e (fun dx fs z => h1 _ _ _ z) (fun dx fs z => h1 _ _ _ z) h2
end
end Nu

set_option Elab.async false
set_option linter.all false
set_option maxRecDepth 100000
set_option autoImplicit false
set_option maxHeartbeats 4000000
set_option pp.maxSteps 900
namespace L2
open PySem PySem.Spec PyProof.Rows
theorem Room.units1 {k : Nat} {A : Around} (r : Room k A) : A.units + 1 < cLine := by have := r.un; omega
end L2
namespace Nu
open PySem PySem.Spec PyProof.Rows L2 L2.DX Rd Tm LamX
local macro_rules | `(tactic| walk_at "hp") => `(tactic| first | assumption | (refine same_get ?sm ?_; (case sm => assumption); walk_at "hp"))
local macro_rules | `(tactic| walk_at "rd") => `(tactic| first
  | (with_reducible show Ends.nx _ _ _; with_reducible refine w_nx ?_)
  | with_reducible refine w_rt ?_
  | (with_reducible show Ends.bk _ _ _; with_reducible refine w_bk ?_)
  | (with_reducible show Ends.ct _ _ _; with_reducible refine w_ct ?_)
  | with_reducible refine w_seq ?_
  | with_reducible refine w_next ?_
  | with_reducible refine w_ret ?_
  | with_reducible refine w_ifS ?_
  | with_reducible refine w_asg ?_
  | with_reducible refine w_name ?_
  | with_reducible refine w_par ?_
  | with_reducible refine w_parI ?_
  | with_reducible refine w_ii ?_
  | with_reducible refine w_i1 ?_
  | with_reducible refine w_drop ?_
  | with_reducible refine w_sFld ?_
  | ((with_reducible refine' w_var ?rdh ?_); (case rdh => exact rfl))
  | with_reducible refine w_c ?_
  | with_reducible refine w_op ?_
  | with_reducible refine w_un ?_
  | with_reducible refine w_I0 ?_
  | with_reducible refine w_U ?_
  | with_reducible refine w_bits ?_
  | with_reducible refine w_bitsI ?_
  | with_reducible refine w_tup ?_
  | with_reducible refine w_lst ?_
  | with_reducible refine w_nil ?_
  | with_reducible refine w_cons ?_
  | with_reducible refine w_fld ?_
  | with_reducible refine w_call ?_
  | with_reducible refine w_make ?_
  | with_reducible refine w_gsub ?_
  | with_reducible refine w_int1 ?_
  | with_reducible refine w_intB ?_
  | with_reducible refine w_for ?_
  | with_reducible refine w_rng1 ?_
  | with_reducible refine w_iList ?_
  | with_reducible refine w_iTup ?_
  | with_reducible refine w_makeD ?_
  | with_reducible refine w_nn ?_
  | with_reducible refine w_subB ?_
  | with_reducible refine w_meth ?_
  | with_reducible refine w_cb ?_
  | with_reducible refine w_test ?_
  | with_reducible refine w_B ?_
  | with_reducible refine w_bl ?_
  | with_reducible refine w_andV ?_
  | with_reducible refine w_orV ?_
  | with_reducible refine w_notV ?_
  | with_reducible refine w_and ?_
  | with_reducible refine w_or ?_
  | with_reducible refine w_not ?_
  | with_reducible refine w_if ?_
  | with_reducible refine w_gnil ?_
  | with_reducible refine w_gcons ?_
  | with_reducible refine iT ?_
  | with_reducible refine iF ?_
  | with_reducible refine w_eqI ?_
  | with_reducible refine w_neI ?_
  | with_reducible refine w_eqS ?_
  | with_reducible refine w_eqIS ?_
  | with_reducible refine w_eqSI ?_)

theorem al_tupF {K : PySem.W.Frag} {H : Hp} {n : Nat} {a b : Addr} {xs : List V} (h : H a = some (.tup xs)) (h' : H b = some (.tup xs)) (f : ∀ v ∈ xs, flVs v = true ∨ ∃ c, v = .ref c) : Al K H (n + 1) (.ref a) (.ref b) := by
  refine .tup (SqT.of h) (SqT.of h') rfl fun j x y e1 e2 => ?_
  rw [e1] at e2
  cases e2
  rcases f x (List.mem_of_getElem? e1) with z | ⟨c, rfl⟩
  · exact .flat z
  · exact .ref c
theorem ps2_flat (a b : V) (ha : flVs a = true) (hb : flVs b = true) : ∀ v ∈ [a, b], flVs v = true ∨ ∃ c, v = .ref c := fun v hv => by
  simp only [List.mem_cons, List.not_mem_nil, or_false] at hv
  rcases hv with rfl | rfl
  · exact .inl ha
  · exact .inl hb
/-- a state of the law: tables, the well at p, what stands since H0 -/
structure Lw (CF CT CN CZ : Addr) (TL : List (Addr × Str)) (S0 : List Addr) (p : Addr) (H0 : Hp) (S : List Addr) (W : List WR) (H : Hp) (n : Nat) : Prop where
  st : St CF CT CN CZ S W H n
  sp : ∀ b ∈ S0, b ∈ S
  tb : Tabs TL H
  kp : ∀ b ∈ S0, b ≠ p → ∀ o, H0 b = some o → H b = some o
  nt : ∀ b ∈ S, ∀ ps, H b ≠ some (.tbl ps)
section
variable {CF CT CN CZ p : Addr} {TL : List (Addr × Str)} {S0 S : List Addr} {H0 H H' : Hp} {W W' : List WR} {n m : Nat}
theorem Lw.occ (L : Lw CF CT CN CZ TL S0 p H0 S W H n) {b : Addr} (hb : b ∈ S) : ∃ o, H b = some o := L.st.g.occ hb
theorem Lw.same (L : Lw CF CT CN CZ TL S0 p H0 S W H n) (s : Same H H') : Lw CF CT CN CZ TL S0 p H0 S W H' n :=
  ⟨L.st.same s, L.sp, L.tb.ext s, fun b hb ne o e => s _ _ (L.kp b hb ne o e), fun b hb ps e => by
    obtain ⟨o, eo⟩ := L.occ hb
    rw [s _ _ eo] at e
    cases e
    exact L.nt b hb ps eo⟩
theorem Lw.add (L : Lw CF CT CN CZ TL S0 p H0 S W H n) {l : Addr} {xs : List V} (s : Same H H') (e : H l = none) (h : H' l = some (.lst xs)) : Lw CF CT CN CZ TL S0 p H0 (l :: S) W H' n :=
  ⟨L.st.add s e h, fun b hb => List.mem_cons_of_mem _ (L.sp b hb), L.tb.ext s, fun b hb ne o e => s _ _ (L.kp b hb ne o e), fun b hb ps e => by
    rcases List.mem_cons.1 hb with z | hb
    · rw [z, h] at e; cases e
    · exact (L.same s).nt b hb ps e⟩
theorem Lw.less (L : Lw CF CT CN CZ TL S0 p H0 S W H n) {S' : List Addr} (h : ∀ b ∈ S', b ∈ S) (h2 : ∀ b ∈ S0, b ∈ S') : Lw CF CT CN CZ TL S0 p H0 S' W H n :=
  ⟨L.st.less h, h2, L.tb, L.kp, fun b hb => L.nt b (h b hb)⟩
theorem Lw.new (L : Lw CF CT CN CZ TL S0 p H0 S W H n) (t : St CF CT CN CZ S W' H' m) (s : Same H H') : Lw CF CT CN CZ TL S0 p H0 S W' H' m :=
  ⟨t, L.sp, (L.same s).tb, (L.same s).kp, (L.same s).nt⟩
theorem Lw.fr (L : Lw CF CT CN CZ TL S0 p H0 S W H n) (t : St CF CT CN CZ S W' H' m) (f : Fr CT CN S H H') : Lw CF CT CN CZ TL S0 p H0 S W' H' m :=
  ⟨t, L.sp, tabs_fr L.tb f, fun b hb ne o e => f.s b (L.sp b hb) _ (L.kp b hb ne o e), fun b hb ps e => by
    obtain ⟨o, eo⟩ := L.occ hb
    rw [f.s b hb _ eo] at e
    cases e
    exact L.nt b hb ps eo⟩
theorem Lw.ext (L : Lw CF CT CN CZ TL S0 p H0 S W H n) (e : ExtN H H') (t : Tabs TL H') : Lw CF CT CN CZ TL S0 p H0 S W H' n :=
  ⟨L.st.ext e L.nt, L.sp, t, fun b hb ne o eb => e b o (L.kp b hb ne o eb) fun ps z => L.nt b (L.sp b hb) ps (z ▸ L.kp b hb ne o eb), fun b hb ps z => by
    obtain ⟨o, eo⟩ := L.occ hb
    by_cases c : ∃ ps, o = .tbl ps
    · obtain ⟨ps, rfl⟩ := c
      exact L.nt b hb ps eo
    · rw [e b o eo fun ps z => c ⟨ps, z⟩] at z
      cases z
      exact c ⟨_, rfl⟩⟩
/-- a draw -/
theorem Lw.draw (L : Lw CF CT CN CZ TL S0 p H0 S W H n) {xs ys : List V} (hp : p ∈ S) (s : Oth p H H') (e : H p = some (.lst xs)) (e' : H' p = some (.lst ys)) : Lw CF CT CN CZ TL S0 p H0 S W H' n :=
  ⟨L.st.oth hp e s e', L.sp, tabs_oth L.tb s e, fun b hb ne o eb => s b o ne (L.kp b hb ne o eb), fun b hb ps z => by
    by_cases c : b = p
    · rw [c, e'] at z; cases z
    · obtain ⟨o, eo⟩ := L.occ hb
      rw [s b o c eo] at z
      cases z
      exact L.nt b hb ps eo⟩
theorem Lw.nil (hS : ∀ b ∈ S0, (∃ o, H b = some o) ∧ ∀ ps, H b ≠ some (.tbl ps)) (t : Tabs TL H) : Lw CF CT CN CZ TL S0 p H S0 [] H 0 :=
  ⟨St.nil fun b hb => (hS b hb).1, fun b hb => hb, t, fun b _ _ o e => e, fun b hb => (hS b hb).2⟩
end
theorem meta_non {W : List WR} {a : Addr} (z : Str) (h : mOf W a = .non) : metaW W (.ref a) z = .non := by
  rw [metaW_eq, h]
section
variable {P : Program} {w : World} {K : PySem.W.Frag} {mg : Str → Option Value} {base : Heap} {CF CT CN CZ CG CW CE C1 C2 C3 P1 P2 P3 : Addr}
/-- what a part of the law may ask and what it leaves -/
def spPart0 (P1 P2 P3 : Addr) : Sp := fun vs H Q _ => ∃ S0 : List Addr, vs = [] ∧ (∀ b ∈ S0, (∃ o, H b = some o) ∧ ∀ ps, H b ≠ some (.tbl ps)) ∧ Tabs (TLof P1 P2 P3) H ∧
  ∀ H', (∀ b ∈ S0, ∀ o, H b = some o → H' b = some o) → Tabs (TLof P1 P2 P3) H' → Q (.bl true) H'
theorem callW_loop {W : List WR} {a : Addr} (ha : a ∈ adrs W) (h : metaW W (.ref a) "__call" = .ref a) : ∀ n as, callW W n (.ref a) as = .inl msgLong := fun n => by
  induction n with
  | zero => intro as; rfl
  | succ n ih =>
    intro as
    unfold callW
    rw [kdOf_tab ha, if_neg (by decide), h, if_neg (fun z => by cases z)]
    exact ih _
theorem sc_law_ring_right : FnScope ["ring"] [] (defScope s_law_ring_right) := ⟨rfl, rfl, rfl, by decide +kernel, rfl, by decide +kernel, by decide +kernel⟩
theorem ok_ring (T : AllX K mg CF CT CN CZ CG CW CE C1 C2 C3 P1 P2 P3) (TB : TabB base mg C2 P2) (k_Table1 : KnCD P w K mg base CX0 2 "Table" CT ["self", "number", "array", "nodes", "meta"] [.int 0, .int 0, .non] (spTab CF CT CN))
    (k_law_with : Kn P w K mg base CX0 11 "_law_with" ["table", "name", "value"] (spWith CF CT CN CZ)) (k_call_target : Kn P w K mg base (L2.CX P w) 8 "call_target" ["called", "args"] (spCall CF CT CN CZ CE K)) :
    Kn P w K mg base CX0 14 "_law_ring_right" [] (spPart0 P1 P2 P3) := by
  obtain ⟨f, fd, hm, F, hb, hcode⟩ := T.x_ring
  refine ⟨f, fd, hm, F.kp, hb, ?_⟩
  refine fun_okC F hcode sc_law_ring_right (fun vs H Q E h => ?_) (fun A outer s H vs Q E hr h => ?_)
  · obtain ⟨S0, rfl, _⟩ := h
    rfl
  · obtain ⟨S0, rfl, hS, tb, q⟩ := h
    refine ⟨_, (pss_cons (ps_set (i := 0) sc_law_ring_right.nd rfl (Or.inr rfl) (pkCD k_Table1 hr (pa_cons pe_int pa_nil)))
      (pss_cons (ps_expr (pk k_law_with hr (pa_cons (pv 0) (pa_cons pe_str (pa_cons (pv 0) pa_nil)))))
      (pss_one (ps_ret (pe_cmpR (op_eqAl hr.units) (pe_lamF (T := TLof P1 P2 P3) T.x_told sc_law_told rfl (by first | exact Or.inl rfl | exact Or.inr (Or.inl rfl)) (told_gives T.g_Thrown T.xf_Thrown T.xn_value T.e_Thrown) rfl TB rfl tl_mem2 (tl_any T.ne_12 T.ne_13 T.ne_23).2.1 (hr.mono (by decide : 12 ≤ 13)) (show LamS (defScope s_law_ring_right) _ from lamS_by (by decide +kernel)) rfl (fun _ _ _ _ _ => rfl) (fun A outer s H E f c hr => (pkX k_call_target hr (takes_of rfl rfl rfl rfl) (pa_cons (pv 0) (pa_cons (pe_lst pa_nil) pa_nil))))) (pe_tup (pa_cons pe_str (pa_cons pe_str pa_nil))) (nomark _)))))), ?_⟩
    repeat walk_at "rd"
    intro x dx hx hdx ne
    have L0 : Lw CF CT CN CZ (TLof P1 P2 P3) S0 x H S0 [] H 0 := Lw.nil hS tb
    refine u_snew L0.st hx hdx ne _ rfl fun W1 H1 t1 s1 ad1 mo1 tl1 => ?_
    have x1 : x ∈ adrs W1 := by rw [ad1]; exact List.mem_append_right _ (List.mem_singleton.2 rfl)
    have L1 := L0.new t1 s1
    repeat walk_at "rd"
    refine ⟨S0, W1, 0, x, "__call", .ref x, .tab, rfl, t1, by decide, x1, meta_non _ (by rw [mo1]; rfl), ⟨x, rfl, x1⟩, fun y W2 H2 t2 hy ad2 mo2 tl2 f2 => ?_⟩
    have L2 := L1.fr t2 f2
    repeat walk_at "rd"
    refine w_lam L2.tb fun H3 e3 t3 => ?_
    have L3 := L2.ext e3 t3
    unfold TTt
    refine w_callS ?_
    repeat walk_at "rd"
    refine w_lst0 fun l4 H4 s4 n4 h4 => ?_
    repeat walk_at "rd"
    have L4 := L3.same s4
    have x2 : x ∈ adrs W2 := by rw [ad2]; exact List.mem_append_left _ x1
    have mx : metaW W2 (.ref x) "__call" = .ref x := by
      rw [metaW_eq, mo2, if_pos rfl]
      show tlW W2 y _ = _
      rw [tl2, if_pos ⟨rfl, rfl⟩]
    refine ⟨S0, W2, .ref x, .tab, l4, [], rfl, L4.st.g, L4.st.gd, ⟨x, rfl, x2⟩, h4, by decide, ?_⟩
    rw [callW_loop x2 mx]
    intro d H5 s5 e5
    refine ⟨rfl, d, _, _, rfl, e5, thr_value _, fun p6 hp6 => ?_⟩
    have s6 := s5.trans (same_upd (o := .tup [.str "thrown", .str msgLong]) hp6)
    have h6 := upd_same (H := H5) (a := p6) (o := .tup [.str "thrown", .str msgLong])
    generalize upd H5 p6 (.tup [.str "thrown", .str msgLong]) = H6 at s6 h6 ⊢
    repeat walk_at "rd"
    refine w_tup2 fun p7 H7 s7 n7 h7 => ?_
    refine w_eqAl (n := 1) (fun c => by rw [c] at h6; rw [h6] at n7; cases n7) (by decide) (al_tupF (s7 _ _ h6) h7 (ps2_flat _ _ rfl rfl)) ?_
    repeat walk_at "rd"
    have L7 := (L4.same s6).same s7
    refine q H7 (fun b hb o e => ?_) L7.tb
    exact L7.kp b hb (fun z => by rw [z, hx] at e; cases e) o e
end
end Nu

set_option Elab.async false
set_option linter.all false
set_option maxRecDepth 100000
set_option autoImplicit false
set_option maxHeartbeats 4000000
set_option pp.maxSteps 900
namespace Nu
open PySem PySem.Spec PyProof.Rows L2 L2.DX Rd Tm LamX
local macro_rules | `(tactic| walk_at "hp") => `(tactic| first | assumption | (refine same_get ?sm ?_; (case sm => assumption); walk_at "hp"))
local macro_rules | `(tactic| walk_at "rd") => `(tactic| first
  | (with_reducible show Ends.nx _ _ _; with_reducible refine w_nx ?_)
  | with_reducible refine w_rt ?_
  | (with_reducible show Ends.bk _ _ _; with_reducible refine w_bk ?_)
  | (with_reducible show Ends.ct _ _ _; with_reducible refine w_ct ?_)
  | with_reducible refine w_seq ?_
  | with_reducible refine w_next ?_
  | with_reducible refine w_ret ?_
  | with_reducible refine w_ifS ?_
  | with_reducible refine w_asg ?_
  | with_reducible refine w_name ?_
  | with_reducible refine w_par ?_
  | with_reducible refine w_parI ?_
  | with_reducible refine w_ii ?_
  | with_reducible refine w_i1 ?_
  | with_reducible refine w_drop ?_
  | with_reducible refine w_sFld ?_
  | ((with_reducible refine' w_var ?rdh ?_); (case rdh => exact rfl))
  | with_reducible refine w_c ?_
  | with_reducible refine w_op ?_
  | with_reducible refine w_un ?_
  | with_reducible refine w_I0 ?_
  | with_reducible refine w_U ?_
  | with_reducible refine w_bits ?_
  | with_reducible refine w_bitsI ?_
  | with_reducible refine w_tup ?_
  | with_reducible refine w_lst ?_
  | with_reducible refine w_nil ?_
  | with_reducible refine w_cons ?_
  | with_reducible refine w_fld ?_
  | with_reducible refine w_call ?_
  | with_reducible refine w_make ?_
  | with_reducible refine w_gsub ?_
  | with_reducible refine w_int1 ?_
  | with_reducible refine w_intB ?_
  | with_reducible refine w_for ?_
  | with_reducible refine w_rng1 ?_
  | with_reducible refine w_iList ?_
  | with_reducible refine w_iTup ?_
  | with_reducible refine w_makeD ?_
  | with_reducible refine w_nn ?_
  | with_reducible refine w_subB ?_
  | with_reducible refine w_meth ?_
  | with_reducible refine w_cb ?_
  | with_reducible refine w_test ?_
  | with_reducible refine w_B ?_
  | with_reducible refine w_bl ?_
  | with_reducible refine w_andV ?_
  | with_reducible refine w_orV ?_
  | with_reducible refine w_notV ?_
  | with_reducible refine w_and ?_
  | with_reducible refine w_or ?_
  | with_reducible refine w_not ?_
  | with_reducible refine w_if ?_
  | with_reducible refine w_gnil ?_
  | with_reducible refine w_gcons ?_
  | with_reducible refine iT ?_
  | with_reducible refine iF ?_
  | with_reducible refine w_eqI ?_
  | with_reducible refine w_neI ?_
  | with_reducible refine w_eqS ?_
  | with_reducible refine w_eqIS ?_
  | with_reducible refine w_eqSI ?_)

theorem Lw.drawW {CF CT CN CZ p : Addr} {TL : List (Addr × Str)} {S0 S : List Addr} {H0 H H' : Hp} {W : List WR} {n a b : Nat} (L : Lw CF CT CN CZ TL S0 p H0 S W H n) (hp : p ∈ S) (s : Oth p H H') (w : Well a H p) (w' : Well b H' p) : Lw CF CT CN CZ TL S0 p H0 S W H' n := by
  obtain ⟨_, _, _, e, _⟩ := w
  obtain ⟨_, _, _, e', _⟩ := w'
  exact L.draw hp s e e'
theorem ne_none {H : Hp} {a b : Addr} {n : Nat} (w : Well n H b) (h : H a = none) : a ≠ b := fun c => by
  obtain ⟨_, _, _, e, _⟩ := w
  rw [c, e] at h
  cases h
/-- a value with its kind, seen apart from the tables -/
theorem meta_fl {W : List WR} {v : V} (z : Str) (h : flVs v = true) : metaW W v z = .non := by
  cases v <;> first | rfl | cases h
theorem told_fl {W : List WR} {v : V} (h : flVs v = true) : toldW W v = .non := by
  cases v <;> first | rfl | cases h
theorem told_nt {W : List WR} {a : Addr} (h : a ∉ adrs W) : toldW W (.ref a) = .non := by
  rw [toldW_eq, metaW_none (rec_none h), if_pos rfl]
  unfold mOf
  rw [rec_none h]
/-- one row of the law's list -/
def RowC (CZ x : Addr) (W : List WR) (H : Hp) (t : V) : Prop := ∃ a v b, t = .ref a ∧ H a = some (.tup [v, .bl b]) ∧ (∃ kd, Vk CZ W H kd v) ∧ closeB W v = b ∧ (flVs v = true ∨ v = .ref x ∨ InsV CZ H v) ∧ (v ≠ .ref x → metaW W v "a" = .non ∧ toldW W v = .non)
theorem RowC.same {CZ x : Addr} {W : List WR} {H H' : Hp} {t : V} (h : RowC CZ x W H t) (s : Same H H') : RowC CZ x W H' t := by
  obtain ⟨a, v, b, e, h1, ⟨kd, h2⟩, h3, h4, h5⟩ := h
  exact ⟨a, v, b, e, s _ _ h1, ⟨kd, h2.same s⟩, h3, h4.imp id (Or.imp id fun ⟨c, dx, fs, e, h⟩ => ⟨c, dx, fs, e, s _ _ h⟩), h5⟩
theorem RowC.fl {CZ x : Addr} {W : List WR} {H : Hp} {a : Addr} {v : V} {b : Bool} {kd : Kd1} (h : H a = some (.tup [v, .bl b])) (hk : Vk CZ W H kd v) (hv : flVs v = true) (hb : (decide (v = .non) || decide (v = .bl false)) = b) : RowC CZ x W H (.ref a) := by
  refine ⟨a, v, b, rfl, h, ⟨kd, hk⟩, ?_, .inl hv, fun _ => ⟨meta_fl _ hv, told_fl hv⟩⟩
  unfold closeB
  rw [meta_fl _ hv, decide_eq_true rfl, hb]
  cases b <;> rfl
section
variable {P : Program} {w : World} {K : PySem.W.Frag} {mg : Str → Option Value} {base : Heap} {CF CT CN CZ CG CW CE C1 C2 C3 P1 P2 P3 : Addr}
def spPart (P1 P2 P3 : Addr) : Sp := fun vs H Q _ => ∃ (S0 : List Addr) (p : Addr) (n : Nat), vs = [.ref p] ∧ p ∈ S0 ∧ Well n H p ∧ n < 900000 ∧ (∀ b ∈ S0, (∃ o, H b = some o) ∧ ∀ ps, H b ≠ some (.tbl ps)) ∧ Tabs (TLof P1 P2 P3) H ∧
  ∀ H', (∀ b ∈ S0, b ≠ p → ∀ o, H b = some o → H' b = some o) → Well (n + 20) H' p → Tabs (TLof P1 P2 P3) H' → Q (.bl true) H'
theorem sc_law_closable_right : FnScope ["well", "table", "some", "value", "is_so"] ["well"] (defScope s_law_closable_right) := ⟨rfl, rfl, rfl, by decide +kernel, rfl, by decide +kernel, by decide +kernel⟩
theorem ok_clos (T : AllX K mg CF CT CN CZ CG CW CE C1 C2 C3 P1 P2 P3) (k_Table1 : KnCD P w K mg base CX0 2 "Table" CT ["self", "number", "array", "nodes", "meta"] [.int 0, .int 0, .non] (spTab CF CT CN)) (k_Native_init : KnC P w K mg base CX0 1 "Native" CZ ["self", "name", "act"] (spNat CZ))
    (k_law_one : Kn P w K mg base CX0 2 "_law_one" ["well", "some"] spOne) (k_is_closable : Kn P w K mg base CX0 8 "is_closable" ["value"] (spClo CF CT CN CZ)) (k_meta_of : Kn P w K mg base CX0 7 "meta_of" ["value", "name"] (spMof CF CT CN CZ)) (k_told_meta : Kn P w K mg base CX0 7 "told_meta" ["value"] (spTold CF CT CN CZ))
    (k_law_with : Kn P w K mg base CX0 11 "_law_with" ["table", "name", "value"] (spWith CF CT CN CZ)) : Kn P w K mg base CX0 14 "_law_closable_right" ["well"] (spPart P1 P2 P3) := by
  refine T.x_clos.kn fun f fd F => ?_
  refine F.ok sc_law_closable_right (fun vs H Q E h => ?_) (fun cdv A outer s H vs Q E hr h => ?_)
  · obtain ⟨S0, p, n, rfl, _⟩ := h
    rfl
  · obtain ⟨S0, p, n, rfl, hp, hw, hn, hS, tb, q⟩ := h
    refine ⟨_, (pss_cons (ps_set (i := 1) sc_law_closable_right.nd rfl (Or.inl rfl) (pkCD k_Table1 hr (pa_cons pe_int pa_nil)))
      (pss_cons (ps_if (pt_val (pk k_is_closable hr (pa_cons (pv 1) pa_nil))) (pss_one (ps_ret pe_bl)) pss_nil)
      (pss_cons (ps_expr (pk k_law_with hr (pa_cons (pv 1) (pa_cons (pk k_law_one hr (pa_cons (pv 0) (pa_cons (pe_lst (pa_cons pe_str (pa_cons pe_str (pa_cons pe_str pa_nil)))) pa_nil))) (pa_cons (pkC k_Native_init hr (pa_cons pe_str (pa_cons pe_non pa_nil))) pa_nil)))))
      (pss_cons (ps_if (pt_val (pk k_is_closable hr (pa_cons (pv 1) pa_nil))) (pss_one (ps_ret pe_bl)) pss_nil)
      (pss_cons (ps_expr (pk k_law_with hr (pa_cons (pv 1) (pa_cons pe_str (pa_cons (pk k_law_one hr (pa_cons (pv 0) (pa_cons (pe_lst (pa_cons (pkC k_Native_init hr (pa_cons pe_str (pa_cons pe_non pa_nil))) (pa_cons pe_int (pa_cons pe_bl (pa_cons pe_str pa_nil))))) pa_nil))) pa_nil)))))
      (pss_cons (ps_set (i := 2) sc_law_closable_right.nd rfl (Or.inl rfl) (pe_lst (pa_cons (pe_tup (pa_cons pe_non (pa_cons pe_bl pa_nil))) (pa_cons (pe_tup (pa_cons pe_bl (pa_cons pe_bl pa_nil))) (pa_cons (pe_tup (pa_cons pe_bl (pa_cons pe_bl pa_nil))) (pa_cons (pe_tup (pa_cons pe_int (pa_cons pe_bl pa_nil))) (pa_cons (pe_tup (pa_cons pe_str (pa_cons pe_bl pa_nil))) (pa_cons (pe_tup (pa_cons (pkC k_Native_init hr (pa_cons pe_str (pa_cons pe_non pa_nil))) (pa_cons pe_bl pa_nil))) pa_nil))))))))
      (pss_cons (ps_for PassesOwn.never rfl (pi_list (pe_op op_cat (pv 2) (pe_lst (pa_cons (pe_tup (pa_cons (pv 1) (pa_cons pe_bl pa_nil))) pa_nil)))) (pg_tup (by rfl) (pgs_cons (pg_name (i := 3) sc_law_closable_right.nd rfl (Or.inl rfl)) (pgs_cons (pg_name (i := 4) sc_law_closable_right.nd rfl (Or.inl rfl)) pgs_nil)))
      (pss_cons (ps_if (pt_cmpR op_ne (pk k_is_closable hr (pa_cons (pv 3) pa_nil)) (pv 4) (nomark _)) (pss_one (ps_ret pe_bl)) pss_nil)
      (pss_one (ps_if (PW.pt (pw_and (pt_cmpR (op_neP hr.units1 T.p_Table T.on_Native T.s_TZ T.ne_TZ.symm) (pv 3) (pv 1) (nomark _)) (pw_and1 (PW.pt (pw_or (pt_cmpR op_notN (pk k_meta_of hr (pa_cons (pv 3) (pa_cons pe_str pa_nil))) pe_non (nomark _)) (pw_or1 (pt_cmpR op_notN (pk k_told_meta hr (pa_cons (pv 3) pa_nil)) pe_non (nomark _)))))))) (pss_one (ps_ret pe_bl)) pss_nil))))
      (pss_one (ps_ret pe_bl))))))))), ?_⟩
    have L0 : Lw CF CT CN CZ (TLof P1 P2 P3) S0 p H S0 [] H 0 := Lw.nil hS tb
    repeat walk_at "rd"
    intro x dx hx hdx ne
    refine u_snew L0.st hx hdx ne _ rfl fun W1 H1 t1 s1 ad1 mo1 tl1 => ?_
    have x1 : x ∈ adrs W1 := by rw [ad1]; exact List.mem_append_right _ (List.mem_singleton.2 rfl)
    have L1 := L0.new t1 s1
    have w1 := hw.same s1
    repeat walk_at "rd"
    refine ⟨S0, W1, .ref x, .tab, rfl, L1.st.g, L1.st.gd, ⟨x, rfl, x1⟩, fun H2 s2 => ?_⟩
    have mo1x : mOf W1 x = .non := by rw [mo1]; rfl
    have c1 : closeB W1 (.ref x) = false := by
      unfold closeB
      rw [meta_non _ mo1x]
      rfl
    rw [c1]
    have L2 := L1.same s2
    have w2 := w1.same s2
    repeat walk_at "rd"
    refine w_lst3 fun l3 H3 s3 n3 h3 => ?_
    have L3 := L2.same s3
    have w3 := w2.same s3
    repeat walk_at "rd"
    refine ⟨p, l3, n, _, rfl, w3, by omega, ne_none w2 n3, h3, by show 0 < 3; decide, by show 3 ≤ 1000; decide, fun i v H4 hv o4 w4 => ?_⟩
    have L4 := L3.drawW hp o4 w3 w4
    obtain ⟨z, rfl, hz⟩ : ∃ z : Str, v = .str z ∧ (Ky.str ("__close" : Str)) ≠ .str z ∧ (Ky.str ("__metatable" : Str)) ≠ .str z := by
      have := List.mem_of_getElem? hv
      simp only [List.mem_cons, List.not_mem_nil, or_false] at this
      rcases this with rfl | rfl | rfl <;> exact ⟨_, rfl, by decide +kernel, by decide +kernel⟩
    repeat walk_at "rd"
    refine u_nat fun y5 H5 s5 n5 h5 => ?_
    have L5 := L4.same s5
    have w5 := w4.same s5
    repeat walk_at "rd"
    refine ⟨S0, W1, 0, x, z, .ref y5, .nat, rfl, L5.st, by decide, x1, meta_non _ mo1x, Vk.mk h5, fun m6 W6 H6 t6 n6 ad6 mo6 tl6 f6 => ?_⟩
    have L6 := L5.fr t6 f6
    have w6 := w5.fr f6 hp
    have x6 : x ∈ adrs W6 := by rw [ad6]; exact List.mem_append_left _ x1
    have mx6 : ∀ k, metaW W6 (.ref x) k = if Ky.str k = .str z then .ref y5 else .non := fun k => by
      rw [metaW_eq, mo6, if_pos rfl]
      show tlW W6 m6 _ = _
      rw [tl6]
      by_cases c : Ky.str k = .str z
      · rw [if_pos ⟨rfl, c⟩, if_pos c]
      · rw [if_neg fun d => c d.2, if_neg c, tl1]
        rfl
    repeat walk_at "rd"
    refine ⟨S0, W6, .ref x, .tab, rfl, L6.st.g, L6.st.gd, ⟨x, rfl, x6⟩, fun H7 s7 => ?_⟩
    have c6 : closeB W6 (.ref x) = false := by
      unfold closeB
      rw [mx6, if_neg hz.1]
      rfl
    rw [c6]
    have L7 := L6.same s7
    have w7 := w6.same s7
    repeat walk_at "rd"
    refine u_nat fun y8 H8 s8 n8 h8 => ?_
    have L8 := L7.same s8
    have w8 := w7.same s8
    repeat walk_at "rd"
    refine w_lstI (by show 4 ≤ 1000; decide) fun l9 H9 s9 n9 h9 => ?_
    have L9 := L8.same s9
    have w9 := w8.same s9
    repeat walk_at "rd"
    refine ⟨p, l9, n + 1, _, rfl, w9, by omega, ne_none w8 n9, h9, by show 0 < 4; decide, by show 4 ≤ 1000; decide, fun i v H10 hv o10 w10 => ?_⟩
    have L10 := L9.drawW hp o10 w9 w10
    have h10 : ∃ dx, H10 y8 = some (.ins CZ dx (nvF "f")) := by
      obtain ⟨dx, e⟩ := h8
      exact ⟨dx, o10 _ _ (ne_none w7 n8) (s9 _ _ e)⟩
    obtain ⟨kd, hk, nv⟩ : ∃ kd, Vk CZ W6 H10 kd v ∧ v ≠ .non := by
      have := List.mem_of_getElem? hv
      simp only [List.mem_cons, List.not_mem_nil, or_false] at this
      rcases this with rfl | rfl | rfl | rfl
      · exact ⟨.nat, Vk.mk h10, fun z => by cases z⟩
      · exact ⟨.int, ⟨_, rfl⟩, fun z => by cases z⟩
      · exact ⟨.bl, ⟨_, rfl⟩, fun z => by cases z⟩
      · exact ⟨.str, ⟨_, rfl⟩, fun z => by cases z⟩
    repeat walk_at "rd"
    refine ⟨S0, W6, 1, x, "__close", v, kd, rfl, L10.st, by decide, x6, by rw [mx6, if_neg hz.2], hk, fun m11 W11 H11 t11 n11 ad11 mo11 tl11 f11 => ?_⟩
    have L11 := L10.fr t11 f11
    have w11 := w10.fr f11 hp
    have x11 : x ∈ adrs W11 := by rw [ad11]; exact List.mem_append_left _ x6
    have cx : closeB W11 (.ref x) = true := by
      unfold closeB
      rw [metaW_eq, mo11, if_pos rfl]
      show (_ || _ || !decide (tlW W11 m11 _ = _)) = _
      rw [tl11, if_pos ⟨rfl, rfl⟩, decide_eq_false nv]
      simp
    repeat walk_at "rd"
    refine w_tup2 fun a1 G1 r1 k1 e1 => ?_
    repeat walk_at "rd"
    refine w_tup2 fun a2 G2 r2 k2 e2 => ?_
    repeat walk_at "rd"
    refine w_tup2 fun a3 G3 r3 k3 e3 => ?_
    repeat walk_at "rd"
    refine w_tup2 fun a4 G4 r4 k4 e4 => ?_
    repeat walk_at "rd"
    refine w_tup2 fun a5 G5 r5 k5 e5 => ?_
    repeat walk_at "rd"
    refine u_nat fun y6 G6 r6 k6 e6 => ?_
    repeat walk_at "rd"
    refine w_tup2 fun a7 G7 r7 k7 e7 => ?_
    repeat walk_at "rd"
    refine w_lstI (by show 6 ≤ 1000; decide) fun l8 G8 r8 k8 e8 => ?_
    repeat walk_at "rd"
    refine w_tup2 fun a9 G9 r9 k9 e9 => ?_
    repeat walk_at "rd"
    refine w_lst1 fun l10 G10 r10 k10 e10 => ?_
    repeat walk_at "rd"
    refine w_cat (r10 _ _ (r9 _ _ e8)) e10 (by show 6 + 1 ≤ sizeLine; decide) fun l11 G11 r11 k11 e11 => ?_
    have r811 := (r9.trans r10).trans r11
    have r711 := r8.trans r811
    have r611 := r7.trans r711
    have r511 := r6.trans r611
    have r411 := r5.trans r511
    have r311 := r4.trans r411
    have r211 := r3.trans r311
    have r111 := r2.trans r211
    have r011 := r1.trans r111
    have L12 := L11.same r011
    have w12 := w11.same r011
    have hin : ∃ dx, G11 y6 = some (.ins CZ dx (nvF "f")) := by
      obtain ⟨dx, e⟩ := e6
      exact ⟨dx, r611 _ _ e⟩
    have ny : y6 ∉ adrs W11 := by
      obtain ⟨dx, e⟩ := hin
      exact L12.st.g.nat T.ne_TZ e
    refine w_iListI e11 ?_
    refine for_list (xs := [V.ref a1, .ref a2, .ref a3, .ref a4, .ref a5, .ref a7] ++ [.ref a9]) (fun _ σ H' => ∃ y3 y4, σ = [some (.ref p), some (.ref x), some (.ref l8), y3, y4] ∧ Same G11 H') ⟨none, none, rfl, Same.refl _⟩ (fun i σ H' _ ⟨_, _, _, s⟩ => SqL.of (s _ _ e11)) ?_ ?_
    · rintro i t σ H12 hi ⟨y3, y4, rfl, s12⟩
      have row : RowC CZ x W11 G11 t := by
        have := List.mem_of_getElem? hi
        simp only [List.mem_append, List.mem_cons, List.not_mem_nil, or_false] at this
        rcases this with (rfl | rfl | rfl | rfl | rfl | rfl) | rfl
        · exact RowC.fl (kd := .non) (r111 _ _ e1) rfl rfl rfl
        · exact RowC.fl (kd := .bl) (r211 _ _ e2) ⟨_, rfl⟩ rfl rfl
        · exact RowC.fl (kd := .bl) (r311 _ _ e3) ⟨_, rfl⟩ rfl rfl
        · exact RowC.fl (kd := .int) (r411 _ _ e4) ⟨_, rfl⟩ rfl rfl
        · exact RowC.fl (kd := .str) (r511 _ _ e5) ⟨_, rfl⟩ rfl rfl
        · refine ⟨a7, .ref y6, false, rfl, r711 _ _ e7, ⟨.nat, Vk.mk hin⟩, ?_, .inr (.inr ?_), fun _ => ⟨metaW_none (rec_none ny), told_nt ny⟩⟩
          · unfold closeB
            rw [metaW_none (rec_none ny)]
            rfl
          · obtain ⟨dx, e⟩ := hin
            exact ⟨y6, dx, _, rfl, e⟩
        · exact ⟨a9, .ref x, true, rfl, (r10.trans r11) _ _ e9, ⟨.tab, x, rfl, x11⟩, cx, .inr (.inl rfl), fun z => absurd rfl z⟩
      obtain ⟨a, v, b, rfl, ha, ⟨kd, hk⟩, hc, ho, hm⟩ := row.same s12
      have L13 := L12.same s12
      repeat walk_at "rd"
      refine w_gtup ha rfl ?_
      repeat walk_at "rd"
      refine ⟨S0, W11, v, kd, rfl, L13.st.g, L13.st.gd, hk, fun H14 s14 => ?_⟩
      have L14 := L13.same s14
      rw [hc]
      repeat walk_at "rd"
      refine ⟨rfl, ?_⟩
      rw [decide_eq_true rfl]
      repeat walk_at "rd"
      refine iF ?_
      repeat walk_at "rd"
      obtain ⟨ix, ux, hux, eux, _⟩ := L14.st.g.idx x11
      obtain ⟨dx2, pa2, pn2, fr2, hx2⟩ := L14.st.g.ins (List.mem_of_getElem? hux)
      rw [eux] at hx2
      refine ⟨⟨x, dx2, _, rfl, hx2⟩, ho.imp id (Or.imp id fun ⟨c, dx, fs, e, h⟩ => ⟨c, dx, fs, e, s14 _ _ h⟩), ?_⟩
      repeat walk_at "rd"
      by_cases cv : v = .ref x
      · rw [decide_eq_true cv]
        refine iF ?_
        repeat walk_at "rd"
        exact ⟨_, _, rfl, s12.trans s14⟩
      · rw [decide_eq_false cv]
        refine iT ?_
        obtain ⟨m1, m2⟩ := hm cv
        repeat walk_at "rd"
        refine ⟨S0, W11, v, kd, "a", rfl, L14.st.g, L14.st.gd, hk.same s14, fun H15 s15 => ?_⟩
        have L15 := L14.same s15
        rw [m1]
        repeat walk_at "rd"
        refine iN (fun h => absurd rfl h) (fun _ => ?_)
        repeat walk_at "rd"
        refine ⟨S0, W11, v, kd, rfl, L15.st.g, L15.st.gd, (hk.same s14).same s15, fun H16 s16 => ?_⟩
        rw [m2]
        repeat walk_at "rd"
        refine iN (fun h => absurd rfl h) (fun _ => ?_)
        repeat walk_at "rd"
        exact ⟨_, _, rfl, ((s12.trans s14).trans s15).trans s16⟩
    · rintro σ H12 ⟨y3, y4, rfl, s12⟩
      repeat walk_at "rd"
      have L13 := L12.same s12
      exact q H12 L13.kp ((w12.same s12).mono (by omega)) L13.tb
end
end Nu

set_option Elab.async false
set_option linter.all false
set_option maxRecDepth 100000
set_option autoImplicit false
set_option maxHeartbeats 4000000
set_option pp.maxSteps 900
namespace Nu
open PySem PySem.Spec PyProof.Rows L2 L2.DX Rd Tm LamX
local macro_rules | `(tactic| walk_at "hp") => `(tactic| first | assumption | (refine same_get ?sm ?_; (case sm => assumption); walk_at "hp"))
local macro_rules | `(tactic| walk_at "rd") => `(tactic| first
  | (with_reducible show Ends.nx _ _ _; with_reducible refine w_nx ?_)
  | with_reducible refine w_rt ?_
  | (with_reducible show Ends.bk _ _ _; with_reducible refine w_bk ?_)
  | (with_reducible show Ends.ct _ _ _; with_reducible refine w_ct ?_)
  | with_reducible refine w_seq ?_
  | with_reducible refine w_next ?_
  | with_reducible refine w_ret ?_
  | with_reducible refine w_ifS ?_
  | with_reducible refine w_asg ?_
  | with_reducible refine w_name ?_
  | with_reducible refine w_par ?_
  | with_reducible refine w_parI ?_
  | with_reducible refine w_ii ?_
  | with_reducible refine w_i1 ?_
  | with_reducible refine w_drop ?_
  | with_reducible refine w_sFld ?_
  | ((with_reducible refine' w_var ?rdh ?_); (case rdh => exact rfl))
  | with_reducible refine w_c ?_
  | with_reducible refine w_op ?_
  | with_reducible refine w_un ?_
  | with_reducible refine w_I0 ?_
  | with_reducible refine w_U ?_
  | with_reducible refine w_bits ?_
  | with_reducible refine w_bitsI ?_
  | with_reducible refine w_tup ?_
  | with_reducible refine w_lst ?_
  | with_reducible refine w_nil ?_
  | with_reducible refine w_cons ?_
  | with_reducible refine w_fld ?_
  | with_reducible refine w_call ?_
  | with_reducible refine w_make ?_
  | with_reducible refine w_gsub ?_
  | with_reducible refine w_int1 ?_
  | with_reducible refine w_intB ?_
  | with_reducible refine w_for ?_
  | with_reducible refine w_rng1 ?_
  | with_reducible refine w_iList ?_
  | with_reducible refine w_iTup ?_
  | with_reducible refine w_makeD ?_
  | with_reducible refine w_nn ?_
  | with_reducible refine w_subB ?_
  | with_reducible refine w_meth ?_
  | with_reducible refine w_cb ?_
  | with_reducible refine w_test ?_
  | with_reducible refine w_B ?_
  | with_reducible refine w_bl ?_
  | with_reducible refine w_andV ?_
  | with_reducible refine w_orV ?_
  | with_reducible refine w_notV ?_
  | with_reducible refine w_and ?_
  | with_reducible refine w_or ?_
  | with_reducible refine w_not ?_
  | with_reducible refine w_if ?_
  | with_reducible refine w_gnil ?_
  | with_reducible refine w_gcons ?_
  | with_reducible refine iT ?_
  | with_reducible refine iF ?_
  | with_reducible refine w_eqI ?_
  | with_reducible refine w_neI ?_
  | with_reducible refine w_eqS ?_
  | with_reducible refine w_eqIS ?_
  | with_reducible refine w_eqSI ?_)

theorem St.insT {CF CT CN CZ : Addr} {S : List Addr} {W : List WR} {H : Hp} {n : Nat} (t : St CF CT CN CZ S W H n) {a : Addr} (h : a ∈ adrs W) : ∃ dx n m pa pn fr, H a = some (.ins CT dx (tF n m pa pn fr)) := by
  obtain ⟨i, u, hu, e, _⟩ := t.g.idx h
  obtain ⟨dx, pa, pn, fr, hx⟩ := t.g.ins (List.mem_of_getElem? hu)
  rw [e] at hx
  exact ⟨dx, _, _, pa, pn, fr, hx⟩
theorem St.insV {CF CT CN CZ : Addr} {S : List Addr} {W : List WR} {H : Hp} {n : Nat} (t : St CF CT CN CZ S W H n) {a : Addr} (h : a ∈ adrs W) : InsV CT H (.ref a) := by
  obtain ⟨dx, n, m, pa, pn, fr, e⟩ := t.insT h
  exact ⟨a, dx, _, rfl, e⟩
section
variable {P : Program} {w : World} {K : PySem.W.Frag} {mg : Str → Option Value} {base : Heap} {CF CT CN CZ CG CW CE C1 C2 C3 P1 P2 P3 : Addr}
theorem sc_law_protected_right : FnScope ["well", "table", "mark", "meta", "far", "other", "refused"] ["well"] (defScope s_law_protected_right) := ⟨rfl, rfl, rfl, by decide +kernel, rfl, by decide +kernel, by decide +kernel⟩
theorem ok_prot (T : AllX K mg CF CT CN CZ CG CW CE C1 C2 C3 P1 P2 P3) (TB : TabB base mg C3 P3) (k_Table1 : KnCD P w K mg base CX0 2 "Table" CT ["self", "number", "array", "nodes", "meta"] [.int 0, .int 0, .non] (spTab CF CT CN)) (k_Table_put : KnM P w K mg base CX0 10 CT "put" ["self", "key", "value"] (spPutG CF CT CN))
    (k_law_one : Kn P w K mg base CX0 2 "_law_one" ["well", "some"] spOne) (k_meta_of : Kn P w K mg base CX0 7 "meta_of" ["value", "name"] (spMof CF CT CN CZ)) (k_told_meta : Kn P w K mg base CX0 7 "told_meta" ["value"] (spTold CF CT CN CZ))
    (k_set_meta : Kn P w K mg base CX0 8 "set_meta" ["table", "meta"] (spSetM CF CT CN CZ)) (k_set_metaX : Kn P w K mg base (L2.CX P w) 8 "set_meta" ["table", "meta"] (spSetX CF CT CN CZ CE))
    (k_law_with : Kn P w K mg base CX0 11 "_law_with" ["table", "name", "value"] (spWith CF CT CN CZ)) : Kn P w K mg base CX0 14 "_law_protected_right" ["well"] (spPart P1 P2 P3) := by
  obtain ⟨f, fd, hm, F, hb, hcode⟩ := T.x_prot
  refine ⟨f, fd, hm, F.kp, hb, ?_⟩
  refine fun_okC F hcode sc_law_protected_right (fun vs H Q E h => ?_) (fun A outer s H vs Q E hr h => ?_)
  · obtain ⟨S0, p, n, rfl, _⟩ := h
    rfl
  · obtain ⟨S0, p, n, rfl, hp, hw, hn, hS, tb, q⟩ := h
    refine ⟨_, (pss_cons (ps_asg (pe_tup (pa_cons (pkCD k_Table1 hr (pa_cons pe_int pa_nil)) (pa_cons (pk k_law_one hr (pa_cons (pv 0) (pa_cons (pe_lst (pa_cons pe_int (pa_cons pe_str (pa_cons pe_bl (pa_cons pe_bl (pa_cons (pkCD k_Table1 hr (pa_cons pe_int pa_nil)) (pa_cons pe_non pa_nil))))))) pa_nil))) pa_nil))) (pg_tup (by rfl) (pgs_cons (pg_name (i := 1) sc_law_protected_right.nd rfl (Or.inr rfl)) (pgs_cons (pg_name (i := 2) sc_law_protected_right.nd rfl (Or.inl rfl)) pgs_nil))))
      (pss_cons (ps_if (PW.pt (pw_or (pt_cmpR op_notN (pk k_told_meta hr (pa_cons (pv 1) pa_nil)) pe_non (nomark _)) (pw_or1 (pt_cmpR op_notN (pk k_meta_of hr (pa_cons (pv 1) (pa_cons pe_str pa_nil))) pe_non (nomark _))))) (pss_one (ps_ret pe_bl)) pss_nil)
      (pss_cons (ps_set (i := 3) sc_law_protected_right.nd rfl (Or.inl rfl) (pk k_law_with hr (pa_cons (pv 1) (pa_cons pe_str (pa_cons (pv 2) pa_nil)))))
      (pss_cons (ps_expr (pkM k_Table_put T.l_Table hr (pv 3) (pa_cons pe_str (pa_cons pe_int pa_nil)) rfl))
      (pss_cons (ps_set (i := 4) sc_law_protected_right.nd rfl (Or.inl rfl) (pk k_law_with hr (pa_cons (pv 3) (pa_cons pe_str (pa_cons pe_int pa_nil)))))
      (pss_cons (ps_if (PW.pt (pw_or (pt_cmpR (OpR.orR op_ne (op_neP hr.units1 T.p_Table T.on_Native T.s_TZ T.ne_TZ.symm)) (pk k_told_meta hr (pa_cons (pv 1) pa_nil)) (pe_ifExp (pt_cmpR op_isN (pv 2) pe_non (nomark _)) (pv 3) (pv 2)) (nomark _)) (pw_or1 (pt_cmpR op_notN (pk k_meta_of hr (pa_cons (pv 1) (pa_cons pe_str pa_nil))) pe_non (nomark _))))) (pss_one (ps_ret pe_bl)) pss_nil)
      (pss_cons (ps_if (PW.pt (pw_or (pt_cmpR op_ne (pk k_meta_of hr (pa_cons (pv 1) (pa_cons pe_str pa_nil))) pe_int (nomark _)) (pw_or (pt_cmpR op_ne (pk k_meta_of hr (pa_cons (pv 3) (pa_cons pe_str pa_nil))) pe_int (nomark _)) (pw_or1 (pt_cmpR op_notN (pk k_meta_of hr (pa_cons (pv 3) (pa_cons pe_str pa_nil))) pe_non (nomark _)))))) (pss_one (ps_ret pe_bl)) pss_nil)
      (pss_cons (ps_if (pt_cmpR (op_neP hr.units1 T.p_Table T.on_Native T.s_TZ T.ne_TZ.symm) (pk k_told_meta hr (pa_cons (pv 3) pa_nil)) (pv 4) (nomark _)) (pss_one (ps_ret pe_bl)) pss_nil)
      (pss_cons (ps_set (i := 5) sc_law_protected_right.nd rfl (Or.inr rfl) (pk k_law_one hr (pa_cons (pv 0) (pa_cons (pe_lst (pa_cons (pkCD k_Table1 hr (pa_cons pe_int pa_nil)) (pa_cons pe_non (pa_cons (pv 1) pa_nil)))) pa_nil))))
      (pss_cons (ps_if (pt_cmpR op_notN (pv 2) pe_non (nomark _)) (pss_cons (ps_set (i := 6) sc_law_protected_right.nd rfl (Or.inl rfl) (pe_tup (pa_cons pe_str (pa_cons pe_str pa_nil))))
      (pss_one (ps_ret (pe_and (pe_cmpR (op_eqAl hr.units) (pe_lamF (T := TLof P1 P2 P3) T.x_told sc_law_told rfl (by first | exact Or.inl rfl | exact Or.inr (Or.inl rfl)) (told_gives T.g_Thrown T.xf_Thrown T.xn_value T.e_Thrown) rfl TB rfl tl_mem3 (tl_any T.ne_12 T.ne_13 T.ne_23).2.2 (hr.mono (by decide : 12 ≤ 13)) (show LamS (defScope s_law_protected_right) _ from lamS_by (by decide +kernel)) rfl (fun _ _ _ _ _ => rfl) (fun A outer s H E f c hr => (pkX k_set_metaX hr (takes_of rfl rfl rfl rfl) (pa_cons (pv 1) (pa_cons (pv 5) pa_nil))))) (pv 6) (nomark _)) (pe_one (pe_cmpR op_eq (pk k_meta_of hr (pa_cons (pv 1) (pa_cons pe_str pa_nil))) pe_int (nomark _))))))) pss_nil)
      (pss_cons (ps_expr (pk k_set_meta hr (pa_cons (pv 1) (pa_cons (pv 5) pa_nil))))
      (pss_one (ps_ret (pe_cmpR (op_eqO hr.units0 T.o_Table) (pk k_told_meta hr (pa_cons (pv 1) pa_nil)) (pv 5) (nomark _))))))))))))))), ?_⟩
    have L0 : Lw CF CT CN CZ (TLof P1 P2 P3) S0 p H S0 [] H 0 := Lw.nil hS tb
    repeat walk_at "rd"
    intro x dx hx hdx ne
    refine u_snew L0.st hx hdx ne _ rfl fun W1 H1 t1 s1 ad1 mo1 tl1 => ?_
    have x1 : x ∈ adrs W1 := by rw [ad1]; exact List.mem_append_right _ (List.mem_singleton.2 rfl)
    have L1 := L0.new t1 s1
    have w1 := hw.same s1
    repeat walk_at "rd"
    intro x3 dx3 hx3 hdx3 ne3
    refine u_snew L1.st hx3 hdx3 ne3 _ rfl fun W2 H2 t2 s2 ad2 mo2 tl2 => ?_
    have L2 := L1.new t2 s2
    have w2 := w1.same s2
    have x2 : x ∈ adrs W2 := by rw [ad2]; exact List.mem_append_left _ x1
    have x32 : x3 ∈ adrs W2 := by rw [ad2]; exact List.mem_append_right _ (List.mem_singleton.2 rfl)
    have mo2' : ∀ b, mOf W2 b = .non := fun b => by rw [mo2, mo1]; rfl
    have tl2' : ∀ b k, tlW W2 b k = .non := fun b k => by rw [tl2, tl1]; rfl
    repeat walk_at "rd"
    refine w_lstI (by show 6 ≤ 1000; decide) fun l3 H3 s3 n3 h3 => ?_
    have L3 := L2.same s3
    have w3 := w2.same s3
    repeat walk_at "rd"
    refine ⟨p, l3, n, _, rfl, w3, by omega, ne_none w2 n3, h3, by show 0 < 6; decide, by show 6 ≤ 1000; decide, fun i v H4 hv o4 w4 => ?_⟩
    have L4 := L3.drawW hp o4 w3 w4
    obtain ⟨kd, hk, hvv⟩ : ∃ kd, (∀ W H, x3 ∈ adrs W → Vk CZ W H kd v) ∧ (flVs v = true ∨ v = .ref x3) := by
      have := List.mem_of_getElem? hv
      simp only [List.mem_cons, List.not_mem_nil, or_false] at this
      rcases this with rfl | rfl | rfl | rfl | rfl | rfl
      · exact ⟨.int, fun _ _ _ => ⟨_, rfl⟩, .inl rfl⟩
      · exact ⟨.str, fun _ _ _ => ⟨_, rfl⟩, .inl rfl⟩
      · exact ⟨.bl, fun _ _ _ => ⟨_, rfl⟩, .inl rfl⟩
      · exact ⟨.bl, fun _ _ _ => ⟨_, rfl⟩, .inl rfl⟩
      · exact ⟨.tab, fun _ _ h => ⟨_, rfl, h⟩, .inr rfl⟩
      · exact ⟨.non, fun _ _ _ => rfl, .inl rfl⟩
    clear hv h3 i
    repeat walk_at "rd"
    refine w_tup2 fun a5 H5 s5 n5 h5 => ?_
    have L5 := L4.same s5
    have w5 := w4.same s5
    refine w_gtup h5 rfl ?_
    repeat walk_at "rd"
    have tx : toldW W2 (.ref x) = .non := by rw [toldW_eq, meta_non _ (mo2' x), if_pos rfl, mo2' x]
    refine ⟨S0, W2, .ref x, .tab, rfl, L5.st.g, L5.st.gd, ⟨x, rfl, x2⟩, fun H6 s6 => ?_⟩
    rw [tx]
    have L6 := L5.same s6
    have w6 := w5.same s6
    repeat walk_at "rd"
    refine iN (fun h => absurd rfl h) (fun _ => ?_)
    repeat walk_at "rd"
    refine ⟨S0, W2, .ref x, .tab, "a", rfl, L6.st.g, L6.st.gd, ⟨x, rfl, x2⟩, fun H7 s7 => ?_⟩
    rw [meta_non _ (mo2' x)]
    have L7 := L6.same s7
    have w7 := w6.same s7
    repeat walk_at "rd"
    refine iN (fun h => absurd rfl h) (fun _ => ?_)
    repeat walk_at "rd"
    refine ⟨S0, W2, 0, x, "__metatable", v, kd, rfl, L7.st, by decide, x2, meta_non _ (mo2' x), hk _ _ x32, fun m W8 H8 t8 nm ad8 mo8 tl8 f8 => ?_⟩
    have L8 := L7.fr t8 f8
    have w8 := w7.fr f8 hp
    have x8 : x ∈ adrs W8 := by rw [ad8]; exact List.mem_append_left _ x2
    have x38 : x3 ∈ adrs W8 := by rw [ad8]; exact List.mem_append_left _ x32
    have m8 : m ∈ adrs W8 := by rw [ad8]; exact List.mem_append_right _ (List.mem_singleton.2 rfl)
    have mx : m ≠ x := fun c => L7.st.fresh nm (c ▸ x2)
    obtain ⟨dm, mn, mm, mpa, mpn, mfr, hm8⟩ := L8.st.insT m8
    repeat walk_at "rd"
    refine w_methI hm8 (lk_t _ _ _ _ _ (by decide +kernel)) ?_
    repeat walk_at "rd"
    refine u_sput (kd := .int) T.ne_TZ T.ne_NZ L8.st (by decide) m8 ⟨7, rfl⟩ _ rfl fun W9 H9 t9 ad9 mo9 tl9 f9 => ?_
    have L9 := L8.fr t9 f9
    have w9 := w8.fr f9 hp
    repeat walk_at "rd"
    have mom : mOf W9 m = .non := by rw [mo9, mo8, if_neg mx, mo2']
    refine ⟨S0, W9, 2, m, "b", .int 8, .int, rfl, L9.st, by decide, by rw [ad9]; exact m8, meta_non _ mom, ⟨8, rfl⟩, fun g W10 H10 t10 ng ad10 mo10 tl10 f10 => ?_⟩
    have L10 := L9.fr t10 f10
    have w10 := w9.fr f10 hp
    have x10 : x ∈ adrs W10 := by rw [ad10, ad9]; exact List.mem_append_left _ x8
    have x310 : x3 ∈ adrs W10 := by rw [ad10, ad9]; exact List.mem_append_left _ x38
    have m10 : m ∈ adrs W10 := by rw [ad10, ad9]; exact List.mem_append_left _ m8
    have g10 : g ∈ adrs W10 := by rw [ad10]; exact List.mem_append_right _ (List.mem_singleton.2 rfl)
    have gm : g ≠ m := fun c => L9.st.fresh ng (by rw [ad9]; exact c ▸ m8)
    have gx : g ≠ x := fun c => L9.st.fresh ng (by rw [ad9]; exact c ▸ x8)
    have tlm : ∀ z : Str, tlW W10 m (.str z) = if Ky.str z = .str "a" then .int 7 else if Ky.str z = .str "__metatable" then v else .non := fun z => by
      rw [tl10, if_neg fun c => gm c.1.symm, tl9, tl8, tl2']
      by_cases c : Ky.str z = .str "a"
      · rw [if_pos ⟨rfl, c⟩, if_pos c]
      · rw [if_neg fun d => c d.2, if_neg c]
        by_cases c2 : Ky.str z = .str "__metatable"
        · rw [if_pos ⟨rfl, c2⟩, if_pos c2]
        · rw [if_neg fun d => c2 d.2, if_neg c2]
    have tlg : ∀ z : Str, tlW W10 g (.str z) = if Ky.str z = .str "b" then .int 8 else .non := fun z => by
      rw [tl10]
      by_cases c : Ky.str z = .str "b"
      · rw [if_pos ⟨rfl, c⟩, if_pos c]
      · rw [if_neg fun d => c d.2, if_neg c, tl9, if_neg fun c => gm c.1, tl8, if_neg fun c => gm c.1, tl2']
    have mox : mOf W10 x = .ref m := by rw [mo10, if_neg mx.symm, mo9, mo8, if_pos rfl]
    have mom10 : mOf W10 m = .ref g := by rw [mo10, if_pos rfl]
    have mex : ∀ z : Str, metaW W10 (.ref x) z = if Ky.str z = .str "a" then .int 7 else if Ky.str z = .str "__metatable" then v else .non := fun z => by
      rw [metaW_eq, mox]
      exact tlm z
    have mem' : ∀ z : Str, metaW W10 (.ref m) z = if Ky.str z = .str "b" then .int 8 else .non := fun z => by
      rw [metaW_eq, mom10]
      exact tlg z
    have mexM : metaW W10 (.ref x) "__metatable" = v := by rw [mex, if_neg (by decide +kernel), if_pos rfl]
    have mexA : metaW W10 (.ref x) "a" = .int 7 := by rw [mex, if_pos rfl]
    have mexB : metaW W10 (.ref x) "b" = .non := by rw [mex, if_neg (by decide +kernel), if_neg (by decide +kernel)]
    have memA : metaW W10 (.ref m) "a" = .non := by rw [mem', if_neg (by decide +kernel)]
    have memB : metaW W10 (.ref m) "b" = .int 8 := by rw [mem', if_pos rfl]
    have memM : metaW W10 (.ref m) "__metatable" = .non := by rw [mem', if_neg (by decide +kernel)]
    have tox : toldW W10 (.ref x) = if v = .non then .ref m else v := by
      rw [toldW_eq, mexM, mox]
    have tom : toldW W10 (.ref m) = .ref g := by
      rw [toldW_eq, memM, if_pos rfl, mom10]
    repeat walk_at "rd"
    refine ⟨S0, W10, .ref x, .tab, rfl, L10.st.g, L10.st.gd, ⟨x, rfl, x10⟩, fun H11 s11 => ?_⟩
    have L11 := L10.same s11
    have w11 := w10.same s11
    rw [tox]
    repeat walk_at "rd"
    have step : ∀ Qx : VK, Qx (.bl false) H11 → (rNe (if v = .non then .ref m else v) (if v = .non then .ref m else v) H11 Qx ∨ rNeP CT CZ (if v = .non then .ref m else v) (if v = .non then .ref m else v) H11 Qx) := fun Qx qx => by
      by_cases c : v = .non
      · rw [if_pos c]
        refine .inr ⟨L11.st.insV m10, .inr (.inl rfl), ?_⟩
        rw [decide_eq_true rfl]
        exact qx
      · rw [if_neg c]
        rcases hvv with hv | rfl
        · refine .inl ⟨?_, ?_⟩
          · cases v <;> first | rfl | cases hv | exact absurd rfl c
          · rw [decide_eq_true rfl]
            exact qx
        · refine .inr ⟨L11.st.insV x310, .inr (.inl rfl), ?_⟩
          rw [decide_eq_true rfl]
          exact qx
    refine iD (fun c => ?_) (fun c => ?_)
    · repeat walk_at "rd"
      have st := step
      rw [if_pos c] at st
      rw [if_pos c]
      refine st _ ?_
      repeat walk_at "rd"
      refine ⟨S0, W10, .ref x, .tab, "b", rfl, L11.st.g, L11.st.gd, ⟨x, rfl, x10⟩, fun H12 s12 => ?_⟩
      have L12 := L11.same s12
      have w12 := w11.same s12
      rw [mexB]
      repeat walk_at "rd"
      refine iN (fun h => absurd rfl h) (fun _ => ?_)
      repeat walk_at "rd"
      refine ⟨S0, W10, .ref x, .tab, "a", rfl, L12.st.g, L12.st.gd, ⟨x, rfl, x10⟩, fun H13 s13 => ?_⟩
      have L13 := L12.same s13
      have w13 := w12.same s13
      rw [mexA]
      repeat walk_at "rd"
      refine iN (fun h => absurd rfl h) (fun _ => ?_)
      repeat walk_at "rd"
      refine ⟨S0, W10, .ref m, .tab, "b", rfl, L13.st.g, L13.st.gd, ⟨m, rfl, m10⟩, fun H14 s14 => ?_⟩
      have L14 := L13.same s14
      have w14 := w13.same s14
      rw [memB]
      repeat walk_at "rd"
      refine iN (fun h => absurd rfl h) (fun _ => ?_)
      repeat walk_at "rd"
      refine ⟨S0, W10, .ref m, .tab, "a", rfl, L14.st.g, L14.st.gd, ⟨m, rfl, m10⟩, fun H15 s15 => ?_⟩
      have L15 := L14.same s15
      have w15 := w14.same s15
      rw [memA]
      repeat walk_at "rd"
      refine iN (fun h => absurd rfl h) (fun _ => ?_)
      repeat walk_at "rd"
      refine ⟨S0, W10, .ref m, .tab, rfl, L15.st.g, L15.st.gd, ⟨m, rfl, m10⟩, fun H16 s16 => ?_⟩
      have L16 := L15.same s16
      have w16 := w15.same s16
      rw [tom]
      repeat walk_at "rd"
      refine ⟨L16.st.insV g10, .inr (.inl rfl), ?_⟩
      rw [decide_eq_true rfl]
      repeat walk_at "rd"
      refine iF ?_
      repeat walk_at "rd"
      intro x4 dx4 hx4 hdx4 ne4
      refine u_snew L16.st hx4 hdx4 ne4 _ rfl fun W17 H17 t17 s17 ad17 mo17 tl17 => ?_
      have L17 := L16.new t17 s17
      have w17 := w16.same s17
      have x17 : x ∈ adrs W17 := by rw [ad17]; exact List.mem_append_left _ x10
      have x417 : x4 ∈ adrs W17 := by rw [ad17]; exact List.mem_append_right _ (List.mem_singleton.2 rfl)
      have x4m : x4 ≠ m := fun c => L16.st.fresh hx4 (c ▸ m10)
      have x4g : x4 ≠ g := fun c => L16.st.fresh hx4 (c ▸ g10)
      have me17 : ∀ z : Str, metaW W17 (.ref x) z = metaW W10 (.ref x) z := fun z => by rw [metaW_eq, metaW_eq, mo17, tl17]
      repeat walk_at "rd"
      refine w_lst3 fun l18 H18 s18 n18 h18 => ?_
      have L18 := L17.same s18
      have w18 := w17.same s18
      repeat walk_at "rd"
      refine ⟨p, l18, n + 1, _, rfl, w18, by omega, ne_none w17 n18, h18, by show 0 < 3; decide, by show 3 ≤ 1000; decide, fun i u H19 hu o19 w19 => ?_⟩
      have L19 := L18.drawW hp o19 w18 w19
      have hu' : u = .ref x4 ∨ u = .non ∨ u = .ref x := by
        have := List.mem_of_getElem? hu
        simpa only [List.mem_cons, List.not_mem_nil, or_false] using this
      clear hu h18 i
      repeat walk_at "rd"
      refine iN (fun c' => ?_) (fun c' => ?_)
      · repeat walk_at "rd"
        refine w_tup2 fun a20 H20 s20 n20 h20 => ?_
        have L20 := L19.same s20
        have w20 := w19.same s20
        repeat walk_at "rd"
        refine w_lam L20.tb fun H21 e21 t21 => ?_
        have L21 := L20.ext e21 t21
        unfold TTt
        refine w_callS ?_
        repeat walk_at "rd"
        refine ⟨S0, W17, .ref x, .tab, u, rfl, L21.st.g, L21.st.gd, ⟨x, rfl, x17⟩, by rw [me17, mexM]; exact c', fun d H22 s22 e22 => ⟨rfl, d, _, _, rfl, e22, thr_value _, fun p23 hp23 => ?_⟩⟩
        have s23 := s22.trans (same_upd (o := .tup [.str "thrown", .str "cannot change a protected metatable"]) hp23)
        have h23 := upd_same (H := H22) (a := p23) (o := .tup [.str "thrown", .str "cannot change a protected metatable"])
        have h20' : upd H22 p23 (.tup [.str "thrown", .str "cannot change a protected metatable"]) a20 = some (.tup [.str "thrown", .str "cannot change a protected metatable"]) := s23 _ _ (e21 _ _ h20 fun ps z => by cases z)
        have ne23 : p23 ≠ a20 := fun z => by
          have := s22 _ _ (e21 _ _ h20 fun ps z => by cases z)
          rw [← z, hp23] at this
          cases this
        generalize upd H22 p23 (.tup [.str "thrown", .str "cannot change a protected metatable"]) = H23 at s23 h23 h20' ⊢
        have L23 := L21.same s23
        have w23 : Well (n + 1 + 1) H23 p := by
          obtain ⟨a, b, c, e, d⟩ := w20
          exact ⟨a, b, c, s23 _ _ (e21 _ _ e fun ps z => by cases z), d⟩
        repeat walk_at "rd"
        refine w_eqAl (n := 1) ne23 (by decide) (al_tupF h23 h20' (ps2_flat _ _ rfl rfl)) ?_
        repeat walk_at "rd"
        refine ⟨S0, W17, .ref x, .tab, "a", rfl, L23.st.g, L23.st.gd, ⟨x, rfl, x17⟩, fun H24 s24 => ?_⟩
        have L24 := L23.same s24
        rw [me17, mexA]
        repeat walk_at "rd"
        exact q H24 L24.kp ((w23.same s24).mono (by omega)) L24.tb
      · repeat walk_at "rd"
        refine u_sset T.ne_TZ T.ne_NZ L19.st x17 (v := u) (by rw [me17, mexM]; exact c') ?_ _ rfl fun W20 H20 t20 ad20 mo20 tl20 f20 => ?_
        · rcases hu' with rfl | rfl | rfl
          · exact .inr ⟨_, rfl, x417⟩
          · exact .inl rfl
          · exact .inr ⟨_, rfl, x17⟩
        · have L20 := L19.fr t20 f20
          have w20 := w19.fr f20 hp
          have x20 : x ∈ adrs W20 := by rw [ad20]; exact x17
          have x420 : x4 ∈ adrs W20 := by rw [ad20]; exact x417
          have tl0 : ∀ b k, b ≠ m → b ≠ g → tlW W20 b k = .non := fun b k h1 h2 => by
            rw [tl20, tl17, tl10, if_neg fun c => h2 c.1, tl9, if_neg fun c => h1 c.1, tl8, if_neg fun c => h1 c.1, tl2']
          have me20 : metaW W20 (.ref x) "__metatable" = .non := by
            rw [metaW_eq, mo20, if_pos rfl]
            rcases hu' with rfl | rfl | rfl
            · exact tl0 _ _ x4m x4g
            · rfl
            · exact tl0 _ _ mx.symm gx.symm
          have to20 : toldW W20 (.ref x) = u := by rw [toldW_eq, me20, if_pos rfl, mo20, if_pos rfl]
          repeat walk_at "rd"
          refine ⟨S0, W20, .ref x, .tab, rfl, L20.st.g, L20.st.gd, ⟨x, rfl, x20⟩, fun H21 s21 => ?_⟩
          have L21 := L20.same s21
          rw [to20]
          repeat walk_at "rd"
          refine ⟨?_, ?_⟩
          · rcases hu' with rfl | rfl | rfl
            · exact .inr (.inl ⟨L21.st.insV x420, .inr (L21.st.insV x420)⟩)
            · exact .inl rfl
            · exact .inr (.inl ⟨L21.st.insV x20, .inr (L21.st.insV x20)⟩)
          · rw [decide_eq_true rfl]
            repeat walk_at "rd"
            exact q H21 L21.kp ((w20.same s21).mono (by omega)) L21.tb
    · repeat walk_at "rd"
      have st := step
      rw [if_neg c] at st
      rw [if_neg c]
      refine st _ ?_
      repeat walk_at "rd"
      refine ⟨S0, W10, .ref x, .tab, "b", rfl, L11.st.g, L11.st.gd, ⟨x, rfl, x10⟩, fun H12 s12 => ?_⟩
      have L12 := L11.same s12
      have w12 := w11.same s12
      rw [mexB]
      repeat walk_at "rd"
      refine iN (fun h => absurd rfl h) (fun _ => ?_)
      repeat walk_at "rd"
      refine ⟨S0, W10, .ref x, .tab, "a", rfl, L12.st.g, L12.st.gd, ⟨x, rfl, x10⟩, fun H13 s13 => ?_⟩
      have L13 := L12.same s13
      have w13 := w12.same s13
      rw [mexA]
      repeat walk_at "rd"
      refine iN (fun h => absurd rfl h) (fun _ => ?_)
      repeat walk_at "rd"
      refine ⟨S0, W10, .ref m, .tab, "b", rfl, L13.st.g, L13.st.gd, ⟨m, rfl, m10⟩, fun H14 s14 => ?_⟩
      have L14 := L13.same s14
      have w14 := w13.same s14
      rw [memB]
      repeat walk_at "rd"
      refine iN (fun h => absurd rfl h) (fun _ => ?_)
      repeat walk_at "rd"
      refine ⟨S0, W10, .ref m, .tab, "a", rfl, L14.st.g, L14.st.gd, ⟨m, rfl, m10⟩, fun H15 s15 => ?_⟩
      have L15 := L14.same s15
      have w15 := w14.same s15
      rw [memA]
      repeat walk_at "rd"
      refine iN (fun h => absurd rfl h) (fun _ => ?_)
      repeat walk_at "rd"
      refine ⟨S0, W10, .ref m, .tab, rfl, L15.st.g, L15.st.gd, ⟨m, rfl, m10⟩, fun H16 s16 => ?_⟩
      have L16 := L15.same s16
      have w16 := w15.same s16
      rw [tom]
      repeat walk_at "rd"
      refine ⟨L16.st.insV g10, .inr (.inl rfl), ?_⟩
      rw [decide_eq_true rfl]
      repeat walk_at "rd"
      refine iF ?_
      repeat walk_at "rd"
      intro x4 dx4 hx4 hdx4 ne4
      refine u_snew L16.st hx4 hdx4 ne4 _ rfl fun W17 H17 t17 s17 ad17 mo17 tl17 => ?_
      have L17 := L16.new t17 s17
      have w17 := w16.same s17
      have x17 : x ∈ adrs W17 := by rw [ad17]; exact List.mem_append_left _ x10
      have x417 : x4 ∈ adrs W17 := by rw [ad17]; exact List.mem_append_right _ (List.mem_singleton.2 rfl)
      have x4m : x4 ≠ m := fun c => L16.st.fresh hx4 (c ▸ m10)
      have x4g : x4 ≠ g := fun c => L16.st.fresh hx4 (c ▸ g10)
      have me17 : ∀ z : Str, metaW W17 (.ref x) z = metaW W10 (.ref x) z := fun z => by rw [metaW_eq, metaW_eq, mo17, tl17]
      repeat walk_at "rd"
      refine w_lst3 fun l18 H18 s18 n18 h18 => ?_
      have L18 := L17.same s18
      have w18 := w17.same s18
      repeat walk_at "rd"
      refine ⟨p, l18, n + 1, _, rfl, w18, by omega, ne_none w17 n18, h18, by show 0 < 3; decide, by show 3 ≤ 1000; decide, fun i u H19 hu o19 w19 => ?_⟩
      have L19 := L18.drawW hp o19 w18 w19
      have hu' : u = .ref x4 ∨ u = .non ∨ u = .ref x := by
        have := List.mem_of_getElem? hu
        simpa only [List.mem_cons, List.not_mem_nil, or_false] using this
      clear hu h18 i
      repeat walk_at "rd"
      refine iN (fun c' => ?_) (fun c' => ?_)
      · repeat walk_at "rd"
        refine w_tup2 fun a20 H20 s20 n20 h20 => ?_
        have L20 := L19.same s20
        have w20 := w19.same s20
        repeat walk_at "rd"
        refine w_lam L20.tb fun H21 e21 t21 => ?_
        have L21 := L20.ext e21 t21
        unfold TTt
        refine w_callS ?_
        repeat walk_at "rd"
        refine ⟨S0, W17, .ref x, .tab, u, rfl, L21.st.g, L21.st.gd, ⟨x, rfl, x17⟩, by rw [me17, mexM]; exact c', fun d H22 s22 e22 => ⟨rfl, d, _, _, rfl, e22, thr_value _, fun p23 hp23 => ?_⟩⟩
        have s23 := s22.trans (same_upd (o := .tup [.str "thrown", .str "cannot change a protected metatable"]) hp23)
        have h23 := upd_same (H := H22) (a := p23) (o := .tup [.str "thrown", .str "cannot change a protected metatable"])
        have h20' : upd H22 p23 (.tup [.str "thrown", .str "cannot change a protected metatable"]) a20 = some (.tup [.str "thrown", .str "cannot change a protected metatable"]) := s23 _ _ (e21 _ _ h20 fun ps z => by cases z)
        have ne23 : p23 ≠ a20 := fun z => by
          have := s22 _ _ (e21 _ _ h20 fun ps z => by cases z)
          rw [← z, hp23] at this
          cases this
        generalize upd H22 p23 (.tup [.str "thrown", .str "cannot change a protected metatable"]) = H23 at s23 h23 h20' ⊢
        have L23 := L21.same s23
        have w23 : Well (n + 1 + 1) H23 p := by
          obtain ⟨a, b, c, e, d⟩ := w20
          exact ⟨a, b, c, s23 _ _ (e21 _ _ e fun ps z => by cases z), d⟩
        repeat walk_at "rd"
        refine w_eqAl (n := 1) ne23 (by decide) (al_tupF h23 h20' (ps2_flat _ _ rfl rfl)) ?_
        repeat walk_at "rd"
        refine ⟨S0, W17, .ref x, .tab, "a", rfl, L23.st.g, L23.st.gd, ⟨x, rfl, x17⟩, fun H24 s24 => ?_⟩
        have L24 := L23.same s24
        rw [me17, mexA]
        repeat walk_at "rd"
        exact q H24 L24.kp ((w23.same s24).mono (by omega)) L24.tb
      · repeat walk_at "rd"
        refine u_sset T.ne_TZ T.ne_NZ L19.st x17 (v := u) (by rw [me17, mexM]; exact c') ?_ _ rfl fun W20 H20 t20 ad20 mo20 tl20 f20 => ?_
        · rcases hu' with rfl | rfl | rfl
          · exact .inr ⟨_, rfl, x417⟩
          · exact .inl rfl
          · exact .inr ⟨_, rfl, x17⟩
        · have L20 := L19.fr t20 f20
          have w20 := w19.fr f20 hp
          have x20 : x ∈ adrs W20 := by rw [ad20]; exact x17
          have x420 : x4 ∈ adrs W20 := by rw [ad20]; exact x417
          have tl0 : ∀ b k, b ≠ m → b ≠ g → tlW W20 b k = .non := fun b k h1 h2 => by
            rw [tl20, tl17, tl10, if_neg fun c => h2 c.1, tl9, if_neg fun c => h1 c.1, tl8, if_neg fun c => h1 c.1, tl2']
          have me20 : metaW W20 (.ref x) "__metatable" = .non := by
            rw [metaW_eq, mo20, if_pos rfl]
            rcases hu' with rfl | rfl | rfl
            · exact tl0 _ _ x4m x4g
            · rfl
            · exact tl0 _ _ mx.symm gx.symm
          have to20 : toldW W20 (.ref x) = u := by rw [toldW_eq, me20, if_pos rfl, mo20, if_pos rfl]
          repeat walk_at "rd"
          refine ⟨S0, W20, .ref x, .tab, rfl, L20.st.g, L20.st.gd, ⟨x, rfl, x20⟩, fun H21 s21 => ?_⟩
          have L21 := L20.same s21
          rw [to20]
          repeat walk_at "rd"
          refine ⟨?_, ?_⟩
          · rcases hu' with rfl | rfl | rfl
            · exact .inr (.inl ⟨L21.st.insV x420, .inr (L21.st.insV x420)⟩)
            · exact .inl rfl
            · exact .inr (.inl ⟨L21.st.insV x20, .inr (L21.st.insV x20)⟩)
          · rw [decide_eq_true rfl]
            repeat walk_at "rd"
            exact q H21 L21.kp ((w20.same s21).mono (by omega)) L21.tb
end
end Nu

set_option Elab.async false
set_option linter.all false
set_option maxRecDepth 100000
set_option autoImplicit false
set_option maxHeartbeats 4000000
set_option pp.maxSteps 900
namespace Nu
open PySem PySem.Spec PyProof.Rows L2 L2.DX Rd Tm LamX
/-! ### what a call of a chain comes to, in plain Lean -/
structure Chain (W : List WR) (rs : List Addr) (v : V) : Prop where
  tab : ∀ r ∈ rs, r ∈ adrs W
  nx : ∀ (j : Nat) r, rs[j]? = some r → ∀ u, (rs.map V.ref ++ [v])[j + 1]? = some u → metaW W (.ref r) "__call" = u
  last : metaW W v "__call" = .non
theorem chain_at {rs : List Addr} {v : V} {j : Nat} (h : j ≤ rs.length) : ∃ u, (rs.map V.ref ++ [v])[j]? = some u ∧ ((∃ r, rs[j]? = some r ∧ u = .ref r ∧ j < rs.length) ∨ (j = rs.length ∧ u = v)) := by
  by_cases c : j < rs.length
  · obtain ⟨r, hr⟩ : ∃ r, rs[j]? = some r := ⟨_, List.getElem?_eq_getElem c⟩
    refine ⟨.ref r, ?_, .inl ⟨r, hr, rfl, c⟩⟩
    rw [List.getElem?_append_left (by rw [List.length_map]; exact c), List.getElem?_map, hr]
    rfl
  · have e : j = rs.length := by omega
    refine ⟨v, ?_, .inr ⟨e, rfl⟩⟩
    rw [List.getElem?_append_right (by rw [List.length_map]; omega), List.length_map, e, Nat.sub_self]
    rfl
theorem callW_succ (W : List WR) (n : Nat) (c : V) (as : List V) : callW W (n + 1) c as = if kdOf W c = .nat then .inr (c, as) else if metaW W c "__call" = .non then .inl (msgCall (kdOf W c)) else callW W n (metaW W c "__call") (c :: as) := rfl
theorem callW_step {W : List WR} {rs : List Addr} {v : V} (C : Chain W rs v) {j n : Nat} {u u' : V} (as : List V) (h : (rs.map V.ref ++ [v])[j]? = some u) (h' : (rs.map V.ref ++ [v])[j + 1]? = some u') (ne : u' ≠ .non) : callW W (n + 1) u as = callW W n u' (u :: as) := by
  have hj : j < rs.length := by
    have := (List.getElem?_eq_some_iff.1 h').1
    rw [List.length_append, List.length_map] at this
    simpa using this
  obtain ⟨r, hr⟩ : ∃ r, rs[j]? = some r := ⟨_, List.getElem?_eq_getElem hj⟩
  have e : u = .ref r := by
    rw [List.getElem?_append_left (by rw [List.length_map]; exact hj), List.getElem?_map, hr] at h
    cases h
    rfl
  subst e
  have m := C.nx j r hr u' h'
  rw [callW_succ, kdOf_tab (C.tab r (List.mem_of_getElem? hr)), if_neg (by decide), m, if_neg ne]
theorem callW_go {W : List WR} {rs : List Addr} {v : V} (C : Chain W rs v) (as : List V) (j n : Nat) (hj : j ≤ rs.length) (hv : v ≠ .non ∨ j < rs.length ∨ j = 0) :
    ∃ u0 u, (rs.map V.ref ++ [v])[0]? = some u0 ∧ (rs.map V.ref ++ [v])[j]? = some u ∧ callW W (n + j) u0 as = callW W n u (((rs.take j).map V.ref).reverse ++ as) := by
  induction j generalizing n with
  | zero =>
    obtain ⟨u, hu, _⟩ := chain_at (v := v) (Nat.zero_le rs.length)
    exact ⟨u, u, hu, hu, rfl⟩
  | succ j ih =>
    obtain ⟨u0, u, h0, hu, e⟩ := ih (n + 1) (by omega) (.inr (.inl (by omega)))
    obtain ⟨u', hu', c⟩ := chain_at (v := v) hj
    obtain ⟨r, hr⟩ : ∃ r, rs[j]? = some r := ⟨_, List.getElem?_eq_getElem (show j < rs.length by omega)⟩
    have eu : u = .ref r := by
      rw [List.getElem?_append_left (by rw [List.length_map]; omega), List.getElem?_map, hr] at hu
      cases hu
      rfl
    refine ⟨u0, u', h0, hu', ?_⟩
    rw [show n + (j + 1) = n + 1 + j by omega, e, callW_step C _ hu hu' ?_, List.take_add_one, hr]
    · rw [List.map_append, List.reverse_append, eu]
      rfl
    · rcases c with ⟨_, _, rfl, _⟩ | ⟨ej, rfl⟩
      · exact fun z => by cases z
      · rcases hv with h | h | h
        · exact h
        · omega
        · omega
theorem chain_res {W : List WR} {rs : List Addr} {v : V} (C : Chain W rs v) (as : List V) (u0 : V) (h0 : (rs.map V.ref ++ [v])[0]? = some u0) :
    callW W 100 u0 as = if 100 < rs.length ∨ (rs.length = 100 ∧ v ≠ .non) then .inl msgLong else if kdOf W v = .nat then .inr (v, (rs.map V.ref).reverse ++ as) else .inl (msgCall (if v = .non ∧ 0 < rs.length then .tab else kdOf W v)) := by
  by_cases c : 100 < rs.length ∨ (rs.length = 100 ∧ v ≠ .non)
  · rw [if_pos c]
    obtain ⟨u0', u, h0', hu, e⟩ := callW_go C as 100 0 (by omega) (c.elim (fun h => .inr (.inl h)) fun h => .inl h.2)
    rw [h0] at h0'
    cases h0'
    rw [show (100 : Nat) = 0 + 100 from rfl, e]
    rfl
  · rw [if_neg c]
    by_cases cv : v = .non
    · subst cv
      rw [show kdOf W .non = .non from rfl, if_neg (by decide)]
      by_cases c0 : 0 < rs.length
      · rw [if_pos ⟨rfl, c0⟩]
        obtain ⟨u0', u, h0', hu, e⟩ := callW_go C as (rs.length - 1) (100 - (rs.length - 1)) (by omega) (.inr (.inl (by omega)))
        rw [h0] at h0'
        cases h0'
        rw [show 100 - (rs.length - 1) + (rs.length - 1) = 100 by omega] at e
        rw [e]
        obtain ⟨r, hr⟩ : ∃ r, rs[rs.length - 1]? = some r := ⟨_, List.getElem?_eq_getElem (by omega)⟩
        rw [List.getElem?_append_left (by rw [List.length_map]; omega), List.getElem?_map, hr] at hu
        cases hu
        obtain ⟨k, hk⟩ : ∃ k, 100 - (rs.length - 1) = k + 1 := ⟨100 - rs.length, by omega⟩
        rw [hk]
        have m := C.nx (rs.length - 1) r hr .non (by
          rw [show rs.length - 1 + 1 = rs.length by omega, List.getElem?_append_right (by rw [List.length_map]; omega), List.length_map, Nat.sub_self]
          rfl)
        rw [callW_succ, kdOf_tab (C.tab r (List.mem_of_getElem? hr)), if_neg (by decide), m, if_pos rfl]
      · rw [if_neg fun z => c0 z.2]
        have e0 : rs = [] := List.length_eq_zero_iff.1 (by omega)
        subst e0
        cases h0
        rfl
    · obtain ⟨u0', u, h0', hu, e⟩ := callW_go C as rs.length (100 - rs.length) (Nat.le_refl _) (.inl cv)
      rw [h0] at h0'
      cases h0'
      have hl : rs.length ≤ 99 := by
        refine Classical.byContradiction fun z => c ?_
        by_cases z2 : 100 < rs.length
        · exact .inl z2
        · exact .inr ⟨by omega, cv⟩
      rw [show 100 - rs.length + rs.length = 100 by omega] at e
      rw [e]
      have eu : u = v := by
        rw [List.getElem?_append_right (by rw [List.length_map]; omega), List.length_map, Nat.sub_self] at hu
        cases hu
        rfl
      subst eu
      obtain ⟨k, hk⟩ : ∃ k, 100 - rs.length = k + 1 := ⟨99 - rs.length, by omega⟩
      rw [hk, List.take_of_length_le (Nat.le_refl _)]
      rw [callW_succ]
      by_cases ck : kdOf W u = .nat
      · rw [if_pos ck, if_pos ck]
      · rw [if_neg ck, if_neg ck, C.last, if_pos rfl, if_neg fun z => cv z.1]
/-- what a metatable of one field changes -/
theorem meta_with {CZ : Addr} {W W' : List WR} {H : Hp} (gd : Gd CZ W H) {a x : Addr} {z0 : Str} {v : V} (hx : x ∉ adrs W) (mo : ∀ b, mOf W' b = if b = a then .ref x else mOf W b) (tl : ∀ b k, tlW W' b k = if b = x ∧ k = .str z0 then v else tlW W b k) (r : Addr) (z : Str) :
    metaW W' (.ref r) z = if r = a then (if Ky.str z = .str z0 then v else .non) else metaW W (.ref r) z := by
  rw [metaW_eq, mo]
  by_cases c : r = a
  · rw [if_pos c, if_pos c]
    show tlW W' x _ = _
    rw [tl]
    by_cases c2 : Ky.str z = .str z0
    · rw [if_pos ⟨rfl, c2⟩, if_pos c2]
    · rw [if_neg fun d => c2 d.2, if_neg c2]
      unfold tlW
      rw [rec_none hx]
  · rw [if_neg c, if_neg c, metaW_eq]
    rcases gd.mo r with e | ⟨b, e, hb⟩
    · rw [e]
    · rw [e]
      show tlW W' b _ = tlW W b _
      rw [tl, if_neg (show ¬ (b = x ∧ _) from fun d => hx (d.1 ▸ hb))]
end Nu

set_option Elab.async false
set_option linter.all false
set_option maxRecDepth 100000
set_option autoImplicit false
set_option maxHeartbeats 4000000
set_option pp.maxSteps 900
namespace Nu
open PySem PySem.Spec PyProof.Rows L2 L2.DX Rd Tm LamX
local macro_rules | `(tactic| walk_at "hp") => `(tactic| first | assumption | (refine same_get ?sm ?_; (case sm => assumption); walk_at "hp"))
local macro_rules | `(tactic| walk_at "rd") => `(tactic| first
  | (with_reducible show Ends.nx _ _ _; with_reducible refine w_nx ?_)
  | with_reducible refine w_rt ?_
  | (with_reducible show Ends.bk _ _ _; with_reducible refine w_bk ?_)
  | (with_reducible show Ends.ct _ _ _; with_reducible refine w_ct ?_)
  | with_reducible refine w_seq ?_
  | with_reducible refine w_next ?_
  | with_reducible refine w_ret ?_
  | with_reducible refine w_ifS ?_
  | with_reducible refine w_asg ?_
  | with_reducible refine w_name ?_
  | with_reducible refine w_par ?_
  | with_reducible refine w_parI ?_
  | with_reducible refine w_ii ?_
  | with_reducible refine w_i1 ?_
  | with_reducible refine w_drop ?_
  | with_reducible refine w_sFld ?_
  | ((with_reducible refine' w_var ?rdh ?_); (case rdh => exact rfl))
  | with_reducible refine w_c ?_
  | with_reducible refine w_op ?_
  | with_reducible refine w_un ?_
  | with_reducible refine w_I0 ?_
  | with_reducible refine w_U ?_
  | with_reducible refine w_bits ?_
  | with_reducible refine w_bitsI ?_
  | with_reducible refine w_tup ?_
  | with_reducible refine w_lst ?_
  | with_reducible refine w_nil ?_
  | with_reducible refine w_cons ?_
  | with_reducible refine w_fld ?_
  | with_reducible refine w_call ?_
  | with_reducible refine w_make ?_
  | with_reducible refine w_gsub ?_
  | with_reducible refine w_int1 ?_
  | with_reducible refine w_intB ?_
  | with_reducible refine w_for ?_
  | with_reducible refine w_rng1 ?_
  | with_reducible refine w_iList ?_
  | with_reducible refine w_iTup ?_
  | with_reducible refine w_makeD ?_
  | with_reducible refine w_nn ?_
  | with_reducible refine w_subB ?_
  | with_reducible refine w_meth ?_
  | with_reducible refine w_cb ?_
  | with_reducible refine w_test ?_
  | with_reducible refine w_B ?_
  | with_reducible refine w_bl ?_
  | with_reducible refine w_andV ?_
  | with_reducible refine w_orV ?_
  | with_reducible refine w_notV ?_
  | with_reducible refine w_and ?_
  | with_reducible refine w_or ?_
  | with_reducible refine w_not ?_
  | with_reducible refine w_if ?_
  | with_reducible refine w_gnil ?_
  | with_reducible refine w_gcons ?_
  | with_reducible refine iT ?_
  | with_reducible refine iF ?_
  | with_reducible refine w_eqI ?_
  | with_reducible refine w_neI ?_
  | with_reducible refine w_eqS ?_
  | with_reducible refine w_eqIS ?_
  | with_reducible refine w_eqSI ?_)

theorem Lw.put {CF CT CN CZ p : Addr} {TL : List (Addr × Str)} {S0 S : List Addr} {H0 H : Hp} {W : List WR} {n : Nat} (L : Lw CF CT CN CZ TL S0 p H0 S W H n) {l : Addr} {xs ys : List V} (hl : l ∈ S) (n0 : l ∉ S0) (e : H l = some (.lst xs)) : Lw CF CT CN CZ TL S0 p H0 S W (upd H l (.lst ys)) n :=
  ⟨L.st.oth hl e Oth.refl.put upd_same, L.sp, tabs_put L.tb e, fun b hb ne o eb => (upd_ne (show b ≠ l from fun c => by subst c; exact n0 hb)).trans (L.kp b hb ne o eb), fun b hb ps z => by
    by_cases c : b = l
    · rw [c, upd_same] at z; cases z
    · rw [upd_ne c] at z
      exact L.nt b hb ps z⟩
theorem Vk.putL {CZ : Addr} {W : List WR} {H : Hp} {kd : Kd1} {v : V} {l : Addr} {xs : List V} {o : HO} (h : Vk CZ W H kd v) (e : H l = some (.lst xs)) : Vk CZ W (upd H l o) kd v := by
  cases kd with
  | nat =>
    obtain ⟨a, dx, fs, ev, h1, h2⟩ := h
    refine ⟨a, dx, fs, ev, (upd_ne fun c => ?_).trans h1, h2⟩
    rw [c, e] at h1
    cases h1
  | _ => exact h
theorem Vk.oth {CZ : Addr} {W : List WR} {H H' : Hp} {kd : Kd1} {v : V} {l : Addr} {xs : List V} (h : Vk CZ W H kd v) (e : H l = some (.lst xs)) (s : Oth l H H') : Vk CZ W H' kd v := by
  cases kd with
  | nat =>
    obtain ⟨a, dx, fs, ev, h1, h2⟩ := h
    refine ⟨a, dx, fs, ev, s _ _ (fun c => ?_) h1, h2⟩
    rw [c, e] at h1
    cases h1
  | _ => exact h
theorem Vk.othW {CZ : Addr} {W : List WR} {H H' : Hp} {kd : Kd1} {v : V} {p : Addr} {n : Nat} (h : Vk CZ W H kd v) (w : Well n H p) (s : Oth p H H') : Vk CZ W H' kd v := by
  obtain ⟨_, _, _, e, _⟩ := w
  exact h.oth e s
theorem w_revL {K : PySem.W.Frag} {te : TE} {σ : L2.St} {H : Hp} {Q : VK} (h : te σ H fun x H1 => ∃ a xs, x = .ref a ∧ SqL K H1 a xs ∧ ∀ p, H1 p = none → Q (.ref p) (upd H1 p (.lst xs.reverse))) : tRevL K te σ H Q := h
theorem slE (k : Nat) (h : k ≤ 5000) : k < sizeLine := Nat.lt_of_le_of_lt h (by decide)
def dueM (mm : Nat) (v : V) (kd : Kd1) : Option Str := if 100 < mm ∨ (mm = 100 ∧ v ≠ .non) then some msgLong else if kd = .nat then none else some (msgCall (if v = .non ∧ 0 < mm then .tab else kd))
structure Fd (CF CT CN CZ : Addr) (TL : List (Addr × Str)) (S0 : List Addr) (p : Addr) (H : Hp) (W : List WR) (kd : Kd1) (v : V) (rs : List Addr) (as : List V) (D D2 lh : Addr) (mm m : Nat) (S1 : List Addr) (H' : Hp) : Prop where
  L : Lw CF CT CN CZ TL S0 p H S1 W H' mm
  w : Well m H' p
  d : H' D = some (.lst (rs.map V.ref))
  a : H' D2 = some (.lst as)
  h : H' lh = some (.lst as)
  k : Vk CZ W H' kd v
theorem Fd.same {CF CT CN CZ : Addr} {TL : List (Addr × Str)} {S0 : List Addr} {p : Addr} {H : Hp} {W : List WR} {kd : Kd1} {v : V} {rs : List Addr} {as : List V} {D D2 lh : Addr} {mm m : Nat} {S1 : List Addr} {H' H2 : Hp} (F : Fd CF CT CN CZ TL S0 p H W kd v rs as D D2 lh mm m S1 H') (s : Same H' H2) : Fd CF CT CN CZ TL S0 p H W kd v rs as D D2 lh mm m S1 H2 :=
  ⟨F.L.same s, F.w.same s, s _ _ F.d, s _ _ F.a, s _ _ F.h, F.k.same s⟩
theorem due_nat {mm : Nat} {v : V} {kd : Kd1} (h : dueM mm v kd = none) : kd = .nat := by
  unfold dueM at h
  split at h
  · cases h
  · split at h
    · assumption
    · cases h
/-- what a call is found to be: an error's text, or a native with its arguments -/
def FdC (du : Option Str) (v : V) (xs : List V) (Q : Addr → Prop) (fs : List V) (H' : Hp) : Prop :=
  (∃ m, du = some m ∧ fs = [.str "thrown", .str m]) ∨ (du = none ∧ ∃ r, fs = [v, .ref r] ∧ H' r = some (.lst xs) ∧ Q r)
theorem FdC.same {du : Option Str} {v : V} {xs : List V} {Q : Addr → Prop} {fs : List V} {H1 H2 : Hp} (h : FdC du v xs Q fs H1) (s : Same H1 H2) : FdC du v xs Q fs H2 := by
  rcases h with h | ⟨e, r, ef, hr, q⟩
  · exact .inl h
  · exact .inr ⟨e, r, ef, s _ _ hr, q⟩
section
variable {P : Program} {w : World} {K : PySem.W.Frag} {mg : Str → Option Value} {base : Heap} {CF CT CN CZ CG CW CE C1 C2 C3 P1 P2 P3 : Addr}
theorem says_k2 (T : AllW K mg CF CT CN CZ CG CW CE) {S : List Addr} {W : List WR} {H : Hp} {kd : Kd1} {v : V} (g : MT CF CT CN S W H) (h : Vk CZ W H kd v) : ∃ t, TyX K H v t ∧ PySem.W.kitOne K t (.ref CZ) = some (decide (kd = .nat)) := by
  cases kd with
  | non =>
    obtain rfl : v = .non := h
    exact ⟨_, .base .non, T.i_nonZ⟩
  | bl =>
    obtain ⟨b, rfl⟩ := h
    exact ⟨_, .base (.bl b), T.i_boolZ⟩
  | int =>
    obtain ⟨i, rfl⟩ := h
    exact ⟨_, .base (.int i), T.i_intZ⟩
  | str =>
    obtain ⟨z, rfl⟩ := h
    exact ⟨_, .base (.str z), T.i_strZ⟩
  | tab =>
    obtain ⟨a, rfl, ha⟩ := h
    obtain ⟨w, _, rfl, hw⟩ := rec_mem ha
    obtain ⟨dx, pa, pn, fr, e⟩ := g.ins hw
    exact ⟨_, ty_ins T.l_Table T.y_Table e, T.i_TZ⟩
  | nat =>
    obtain ⟨a, dx, fs, rfl, e, _⟩ := h
    exact ⟨_, ty_ins T.l_Native T.y_Native e, kit_self K CZ⟩
theorem sc_law_called_right : FnScope ["well", "many", "last", "row", "k", "args", "handed", "found", "due", "wrong"] ["well"] (defScope s_law_called_right) := ⟨rfl, rfl, rfl, by decide +kernel, rfl, by decide +kernel, by decide +kernel⟩
theorem ok_called (T : AllX K mg CF CT CN CZ CG CW CE C1 C2 C3 P1 P2 P3) (TB : TabB base mg C1 P1) (k_Table1 : KnCD P w K mg base CX0 2 "Table" CT ["self", "number", "array", "nodes", "meta"] [.int 0, .int 0, .non] (spTab CF CT CN)) (k_Native_init : KnC P w K mg base CX0 1 "Native" CZ ["self", "name", "act"] (spNat CZ))
    (k_law_draw : Kn P w K mg base CX0 1 "_law_draw" ["well", "many"] spDraw) (k_law_one : Kn P w K mg base CX0 2 "_law_one" ["well", "some"] spOne) (k_kind_name : Kn P w K mg base CX0 2 "kind_name" ["value"] (spKn CF CT CN CZ)) (k_call_target : Kn P w K mg base (L2.CX P w) 8 "call_target" ["called", "args"] (spCall CF CT CN CZ CE K))
    (k_law_with : Kn P w K mg base CX0 11 "_law_with" ["table", "name", "value"] (spWith CF CT CN CZ)) : Kn P w K mg base CX0 14 "_law_called_right" ["well"] (spPart P1 P2 P3) := by
  obtain ⟨f, fd, hm, F, hb, hcode⟩ := T.x_called
  refine ⟨f, fd, hm, F.kp, hb, ?_⟩
  refine fun_okC F hcode sc_law_called_right (fun vs H Q E h => ?_) (fun A outer s H vs Q E hr h => ?_)
  · obtain ⟨S0, p, n, rfl, _⟩ := h
    rfl
  · obtain ⟨S0, p, n, rfl, hp, hw, hn, hS, tb, q⟩ := h
    refine ⟨_, (pss_cons (ps_set (i := 1) sc_law_called_right.nd rfl (Or.inl rfl) (pk k_law_one hr (pa_cons (pv 0) (pa_cons (pe_lst (pa_cons pe_int (pa_cons pe_int (pa_cons pe_int (pa_cons pe_int (pa_cons pe_int (pa_cons pe_int (pa_cons pe_int (pa_cons pe_int (pa_cons (pk k_law_draw hr (pa_cons (pv 0) (pa_cons pe_int pa_nil))) pa_nil)))))))))) pa_nil))))
      (pss_cons (ps_set (i := 2) sc_law_called_right.nd rfl (Or.inr rfl) (pk k_law_one hr (pa_cons (pv 0) (pa_cons (pe_lst (pa_cons (pkC k_Native_init hr (pa_cons pe_str (pa_cons pe_non pa_nil))) (pa_cons (pkC k_Native_init hr (pa_cons pe_str (pa_cons pe_non pa_nil))) (pa_cons pe_non (pa_cons pe_int (pa_cons pe_str (pa_cons pe_bl (pa_cons (pkCD k_Table1 hr (pa_cons pe_int pa_nil)) pa_nil)))))))) pa_nil))))
      (pss_cons (ps_set (i := 3) sc_law_called_right.nd rfl (Or.inr rfl) (pe_lc (own := [("k", 4)]) (g := (gName 4)) (tt := tYes) rfl sc_law_called_right.nd (pi_range1 rfl T.b_range (pa_cons (pv 1) pa_nil)) (blkOk_by (N := ["well", "many", "last", "row", "k", "args", "handed", "found", "due", "wrong"]) (sc := defScope s_law_called_right) (by decide +kernel)) (fun _ _ _ _ _ => (pg_name (i := 4) sc_law_called_right.nd rfl (Or.inl rfl))) (fun _ _ _ _ _ => pts_nil) (fun _ _ _ _ _ => (pkCD k_Table1 hr (pa_cons (pe_op op_add (pv 4) pe_int) pa_nil)))))
      (pss_cons (ps_for PassesOwn.never rfl (pi_range1 rfl T.b_range (pa_cons (pv 1) pa_nil)) (pg_name (i := 4) sc_law_called_right.nd rfl (Or.inl rfl))
      (pss_one (ps_expr (pk k_law_with hr (pa_cons (pe_ix ix_list (pv 3) (pv 4) (fun _ _ => rfl)) (pa_cons pe_str (pa_cons (pe_ix ix_list (pe_op op_cat (pv 3) (pe_lst (pa_cons (pv 2) pa_nil))) (pe_op op_add (pv 4) pe_int) (fun _ _ => rfl)) pa_nil)))))))
      (pss_cons (ps_set (i := 5) sc_law_called_right.nd rfl (Or.inr rfl) (pe_lc (own := [("k", 4)]) (g := (gName 4)) (tt := tYes) rfl sc_law_called_right.nd (pi_range1 rfl T.b_range (pa_cons (pk k_law_draw hr (pa_cons (pv 0) (pa_cons pe_int pa_nil))) pa_nil)) (blkOk_by (N := ["well", "many", "last", "row", "k", "args", "handed", "found", "due", "wrong"]) (sc := defScope s_law_called_right) (by decide +kernel)) (fun _ _ _ _ _ => (pg_name (i := 4) sc_law_called_right.nd rfl (Or.inl rfl))) (fun _ _ _ _ _ => pts_nil) (fun _ _ _ _ _ => (pk k_law_one hr (pa_cons (pv 0) (pa_cons (pe_lst (pa_cons pe_int (pa_cons pe_non (pa_cons pe_str (pa_cons (pkCD k_Table1 hr (pa_cons pe_int pa_nil)) pa_nil))))) pa_nil))))))
      (pss_cons (ps_set (i := 6) sc_law_called_right.nd rfl (Or.inl rfl) (pe_callTy call_list_of (by rfl) T.b_list boot_list (pa_cons (pv 5) pa_nil)))
      (C8.pss_cut (ps_set (i := 7) sc_law_called_right.nd rfl (Or.inl rfl) (pe_lamF (T := TLof P1 P2 P3) T.x_told sc_law_told rfl (by first | exact Or.inl rfl | exact Or.inr (Or.inl rfl)) (told_gives T.g_Thrown T.xf_Thrown T.xn_value T.e_Thrown) rfl TB rfl tl_mem1 (tl_any T.ne_12 T.ne_13 T.ne_23).1 (hr.mono (by decide : 12 ≤ 13)) (show LamS (defScope s_law_called_right) _ from lamS_by (by decide +kernel)) rfl (fun _ _ _ _ _ => rfl) (fun A outer s H E f c hr => (pkX k_call_target hr (takes_of rfl rfl rfl rfl) (pa_cons (pe_ix (ix_listK (K := K)) (pe_op op_cat (pv 3) (pe_lst (pa_cons (pv 2) pa_nil))) pe_int (fun _ _ => rfl)) (pa_cons (pv 5) pa_nil))))))
      (pss_cons (ps_set (i := 8) sc_law_called_right.nd rfl (Or.inl rfl) (pe_tup (pa_cons (pv 2) (pa_cons (pe_op op_cat (pe_revL (pv 3)) (pv 5)) pa_nil))))
      (C8.pss_cut (ps_if (PW.pt (pw_or (pt_cmpR op_gt (pv 1) pe_int (nomark _)) (pw_or1 (PW.pt (pw_and (pt_cmpR op_eq (pv 1) pe_int (nomark _)) (pw_and1 (pt_cmpR op_notN (pv 2) pe_non (nomark _)))))))) (pss_one (ps_set (i := 8) sc_law_called_right.nd rfl (Or.inl rfl) (pe_tup (pa_cons pe_str (pa_cons pe_str pa_nil))))) (pss_one (ps_if (pt_not (pt_val (pe_callB call_isi (by rfl) T.b_isinstance boot_isinstance (pa_cons (pv 2) (pa_cons (pg "Native" T.g_Native (rref _)) pa_nil))))) (pss_cons (ps_set (i := 9) sc_law_called_right.nd rfl (Or.inl rfl) (pv 2))
      (pss_cons (ps_if (PW.pt (pw_and (pt_cmpR op_isN (pv 2) pe_non (nomark _)) (pw_and1 (pt_cmpR op_gt (pv 1) pe_int (nomark _))))) (pss_one (ps_set (i := 9) sc_law_called_right.nd rfl (Or.inl rfl) (pe_ix ix_list (pv 3) (pe_op op_sub (pv 1) pe_int) (fun _ _ => rfl)))) pss_nil)
      (pss_one (ps_set (i := 8) sc_law_called_right.nd rfl (Or.inl rfl) (pe_tup (pa_cons pe_str (pa_cons (pe_op op_add_str (pe_op op_add_str pe_str (pk k_kind_name hr (pa_cons (pv 9) pa_nil))) pe_str) pa_nil))))))) pss_nil)))
      (pss_cons (ps_if (pt_cmpR (op_neAl hr.units) (pv 7) (pv 8) (nomark _)) (pss_one (ps_ret pe_bl)) pss_nil)
      (pss_cons (ps_if (pt_cmpR (OpR.orR op_ne (op_neIS hr.units1 T.on_Native)) (pe_ix ix_tup (pv 8) pe_int (fun _ _ => rfl)) pe_str (nomark _)) (pss_one (ps_expr (pe_bm PySem.F.plainAttrs_list PySem.F.slot_list_append PySem.F.type_list_append mt_append (pe_ix ix_tup (pv 7) pe_int (fun _ _ => rfl)) (pa_cons pe_non pa_nil)))) pss_nil)
      (pss_one (ps_ret (pe_cmpR (op_eqAl hr.units) (pv 5) (pv 6) (nomark _))))))))))))))), ?_⟩
    have L0 : Lw CF CT CN CZ (TLof P1 P2 P3) S0 p H S0 [] H 0 := Lw.nil hS tb
    repeat walk_at "rd"
    refine ⟨p, 111, n, rfl, hw, by omega, by decide, by decide, fun r H1 o1 w1 r0 r1 => ?_⟩
    have L1 := L0.drawW hp o1 hw w1
    repeat walk_at "rd"
    refine w_lstI (by show 9 ≤ 1000; decide) fun l2 H2 s2 n2 h2 => ?_
    have L2 := L1.same s2
    have w2 := w1.same s2
    repeat walk_at "rd"
    refine ⟨p, l2, n + 1, _, rfl, w2, by omega, ne_none w1 n2, h2, by show 0 < 9; decide, by show 9 ≤ 1000; decide, fun i mv H3 hv o3 w3 => ?_⟩
    have L3 := L2.drawW hp o3 w2 w3
    obtain ⟨mm, rfl, hmm⟩ : ∃ mm : Nat, mv = .int (mm : Nat) ∧ mm ≤ 110 := by
      have := List.mem_of_getElem? hv
      simp only [List.mem_cons, List.not_mem_nil, or_false] at this
      rcases this with rfl | rfl | rfl | rfl | rfl | rfl | rfl | rfl | rfl
      · exact ⟨0, rfl, by decide⟩
      · exact ⟨1, rfl, by decide⟩
      · exact ⟨2, rfl, by decide⟩
      · exact ⟨5, rfl, by decide⟩
      · exact ⟨98, rfl, by decide⟩
      · exact ⟨99, rfl, by decide⟩
      · exact ⟨100, rfl, by decide⟩
      · exact ⟨101, rfl, by decide⟩
      · exact ⟨r.toNat, by rw [Int.toNat_of_nonneg r0], by omega⟩
    clear hv h2 i r0 r1 L0 L1 L2
    repeat walk_at "rd"
    refine u_nat fun y4 H4 s4 n4 h4 => ?_
    have L4 := L3.same s4
    have w4 := w3.same s4
    repeat walk_at "rd"
    refine u_nat fun y5 H5 s5 n5 h5 => ?_
    have L5 := L4.same s5
    have w5 := w4.same s5
    repeat walk_at "rd"
    intro x6 dx6 hx6 hdx6 ne6
    refine u_snew L5.st hx6 hdx6 ne6 _ rfl fun W6 H6 t6 s6 ad6 mo6 tl6 => ?_
    have L6 := L5.new t6 s6
    have w6 := w5.same s6
    have x66 : x6 ∈ adrs W6 := by rw [ad6]; exact List.mem_append_right _ (List.mem_singleton.2 rfl)
    repeat walk_at "rd"
    refine w_lstI (by show 7 ≤ 1000; decide) fun l7 H7 s7 n7 h7 => ?_
    have L7 := L6.same s7
    have w7 := w6.same s7
    repeat walk_at "rd"
    refine ⟨p, l7, n + 2, _, rfl, w7, by omega, ne_none w6 n7, h7, by show 0 < 7; decide, by show 7 ≤ 1000; decide, fun i v H8 hv o8 w8 => ?_⟩
    have L8 := L7.drawW hp o8 w7 w8
    obtain ⟨kd, hk, hkv⟩ : ∃ kd, Vk CZ W6 H8 kd v ∧ (flVs v = true ∨ kd = .nat ∨ v = .ref x6) := by
      have a4 : Vk CZ W6 H8 .nat (.ref y4) := (((Vk.mk (W := W6) h4).same ((s5.trans s6).trans s7)).othW w7 o8)
      have a5 : Vk CZ W6 H8 .nat (.ref y5) := (((Vk.mk (W := W6) h5).same (s6.trans s7)).othW w7 o8)
      have := List.mem_of_getElem? hv
      simp only [List.mem_cons, List.not_mem_nil, or_false] at this
      rcases this with rfl | rfl | rfl | rfl | rfl | rfl | rfl
      · exact ⟨.nat, a4, .inr (.inl rfl)⟩
      · exact ⟨.nat, a5, .inr (.inl rfl)⟩
      · exact ⟨.non, rfl, .inl rfl⟩
      · exact ⟨.int, ⟨_, rfl⟩, .inl rfl⟩
      · exact ⟨.str, ⟨_, rfl⟩, .inl rfl⟩
      · exact ⟨.bl, ⟨_, rfl⟩, .inl rfl⟩
      · exact ⟨.tab, ⟨_, rfl, x66⟩, .inr (.inr rfl)⟩
    have mo8 : ∀ b, mOf W6 b = .non := fun b => by rw [mo6]; rfl
    have tl8 : ∀ b k, tlW W6 b k = .non := fun b k => by rw [tl6]; rfl
    clear hv h7 i h4 h5 L3 L4 L5 L6 L7 mo6 tl6
    repeat walk_at "rd"
    refine w_lc ?_
    repeat walk_at "rd"
    refine ⟨by omega, by omega, fun D nD => ?_⟩
    have nS : D ∉ S0 := fun h => by
      obtain ⟨o, e⟩ := L8.occ h
      rw [nD] at e
      cases e
    have sD := same_upd (o := .lst []) nD
    have pD : D ≠ p := ne_none w8 nD
    refine lc_range (lo := 0) (fun i H' => ∃ W rs, Lw CF CT CN CZ (TLof P1 P2 P3) S0 p H (D :: S0) W H' 0 ∧ Well (n + 3) H' p ∧ H' D = some (.lst (rs.map V.ref)) ∧ rs.length = i ∧ (∀ r ∈ rs, r ∈ adrs W) ∧ rs.Nodup ∧ x6 ∉ rs ∧ x6 ∈ adrs W ∧ (∀ b, mOf W b = .non) ∧ (∀ b k, tlW W b k = .non) ∧ Vk CZ W H' kd v)
      ⟨W6, [], L8.add sD nD upd_same, w8.same sD, upd_same, rfl, fun r hr => (by cases hr), List.nodup_nil, fun hr => (by cases hr), x66, mo8, tl8, hk.same sD⟩ ?_ ?_
    · rintro i H9 hi ⟨W, rs, L9, w9, hD, lr, hrs, nd, x6n, x6m, mo, tl, hk9⟩
      have hi : i < mm := by omega
      repeat walk_at "rd"
      refine ⟨rfl, ?_⟩
      refine w_yes ?_
      refine iT ?_
      repeat walk_at "rd"
      intro x dx hx hdx ne
      refine u_snew L9.st hx hdx ne _ rfl fun W' H10 t10 s10 ad mo' tl' => ?_
      have L10 := L9.new t10 s10
      have hD10 := s10 _ _ hD
      have sub : ∀ b ∈ adrs W, b ∈ adrs W' := fun b hb => by rw [ad]; exact List.mem_append_left _ hb
      have xm : x ∈ adrs W' := by rw [ad]; exact List.mem_append_right _ (List.mem_singleton.2 rfl)
      have xr : x ∉ rs := fun h => L9.st.fresh hx (hrs x h)
      refine ⟨_, hD10, slE _ (by rw [List.length_map, lr]; omega), W', rs ++ [x], L10.put List.mem_cons_self nS hD10, ?_, ?_, by rw [List.length_append, lr]; rfl, fun r hr => ?_, ?_, fun h => ?_, sub _ x6m, fun b => by rw [mo', mo], fun b k => by rw [tl', tl], ((hk9.same s10).sub sub).putL hD10⟩
      · obtain ⟨a, b, c, e, d⟩ := w9
        exact ⟨a, b, c, (upd_ne pD.symm).trans (s10 _ _ e), d⟩
      · rw [upd_same, List.map_append]
        rfl
      · rcases List.mem_append.1 hr with h | h
        · exact sub _ (hrs r h)
        · cases List.mem_singleton.1 h
          exact xm
      · exact List.nodup_append.2 ⟨nd, List.pairwise_singleton _ _, fun a ha b hb => by
          cases List.mem_singleton.1 hb
          exact fun z => xr (z ▸ ha)⟩
      · rcases List.mem_append.1 h with h | h
        · exact x6n h
        · cases List.mem_singleton.1 h
          exact L9.st.fresh hx x6m
    · rintro H9 ⟨W9, rs, L9, w9, hD9, lr, hrs9, nd, x6n, x69, mo9, tl9, hk9⟩
      have lr : rs.length = mm := by omega
      clear L8 hk mo8 tl8
      repeat walk_at "rd"
      have hlen : (rs.map V.ref ++ [v]).length = mm + 1 := by rw [List.length_append, List.length_map, lr]; rfl
      refine ⟨by omega, by omega, ?_⟩
      refine for_range (lo := 0) (fun i σ' H' => ∃ W y, σ' = [some (.ref p), some (.int (mm : Nat)), some v, some (.ref D), y, none, none, none, none, none] ∧ Lw CF CT CN CZ (TLof P1 P2 P3) S0 p H (D :: S0) W H' i ∧ Well (n + 3) H' p ∧ H' D = some (.lst (rs.map V.ref)) ∧ (∀ r ∈ rs, r ∈ adrs W) ∧ x6 ∈ adrs W ∧ mOf W x6 = .non ∧
        (∀ (j : Nat) r, rs[j]? = some r → ∀ z : Str, metaW W (.ref r) z = if j < i ∧ Ky.str z = .str "__call" then ((rs.map V.ref ++ [v])[j + 1]?).getD .non else .non) ∧ Vk CZ W H' kd v)
        ⟨W9, none, rfl, L9, w9, hD9, hrs9, x69, mo9 x6, fun j r _ z => by rw [if_neg fun c => absurd c.1 (Nat.not_lt_zero _)]; exact meta_non _ (mo9 r), hk9⟩ ?_ ?_
      · rintro i σ' H10 hi ⟨W10, y, rfl, L10, w10, hD10, hrs10, x610, mo10, me10, hk10⟩
        have hi : i < mm := by omega
        repeat walk_at "rd"
        obtain ⟨r, hr⟩ : ∃ r, rs[i]? = some r := ⟨_, List.getElem?_eq_getElem (by omega)⟩
        rw [show (0 : Int) + (i : Int) = (i : Nat) from Int.zero_add _]
        refine w_ixL hD10 (atN (by rw [List.getElem?_map, hr]; rfl)) ?_
        repeat walk_at "rd"
        refine w_lst1 fun l11 H11 s11 n11 h11 => ?_
        have L11 := L10.same s11
        repeat walk_at "rd"
        refine w_cat (s11 _ _ hD10) h11 (by rw [List.length_map, lr]; exact Nat.le_of_lt (slE _ (by show mm + 1 ≤ _; omega))) fun l12 H12 s12 n12 h12 => ?_
        have L12 := L11.same s12
        have s012 := s11.trans s12
        obtain ⟨u, hu⟩ : ∃ u, (rs.map V.ref ++ [v])[i + 1]? = some u := ⟨_, List.getElem?_eq_getElem (by omega)⟩
        have hku : ∃ ku, Vk CZ W10 H12 ku u := by
          have := List.mem_of_getElem? hu
          simp only [List.mem_append, List.mem_map, List.mem_singleton] at this
          rcases this with ⟨c, hc, rfl⟩ | rfl
          · exact ⟨.tab, c, rfl, hrs10 c hc⟩
          · exact ⟨kd, hk10.same s012⟩
        obtain ⟨ku, hku⟩ := hku
        repeat walk_at "rd"
        refine w_ixL h12 (atN (j := i + 1) hu) ?_
        repeat walk_at "rd"
        have hrm := List.mem_of_getElem? hr
        refine ⟨D :: S0, W10, i, r, "__call", u, ku, rfl, L12.st, by omega, hrs10 r hrm, by rw [me10 i r hr, if_neg fun c => absurd c.1 (Nat.lt_irrefl _)], hku, fun x W13 H13 t13 nx ad13 mo13 tl13 f13 => ?_⟩
        have L13 := L12.fr t13 f13
        have sub : ∀ b ∈ adrs W10, b ∈ adrs W13 := fun b hb => by rw [ad13]; exact List.mem_append_left _ hb
        have xn := L12.st.fresh nx
        repeat walk_at "rd"
        refine ⟨W13, _, rfl, L13, (w10.same s012).fr f13 (List.mem_cons_of_mem _ hp), f13.s D List.mem_cons_self _ (s012 _ _ hD10), fun b hb => sub b (hrs10 b hb), sub _ x610, by rw [mo13, if_neg (show ¬ x6 = r from fun c => x6n (c ▸ hrm))]; exact mo10, fun j c hc z => ?_, ((hk10.same s012).keep T.ne_TZ T.ne_NZ f13.k).sub sub⟩
        rw [meta_with L12.st.gd xn mo13 tl13]
        by_cases cj : j = i
        · subst cj
          rw [hr] at hc
          cases hc
          rw [if_pos rfl, hu]
          by_cases cz : Ky.str z = .str "__call"
          · rw [if_pos cz, if_pos ⟨Nat.lt_succ_self _, cz⟩]
            rfl
          · rw [if_neg cz, if_neg fun d => cz d.2]
        · have : c ≠ r := fun d => cj (by
            subst d
            exact (List.getElem?_inj (List.getElem?_eq_some_iff.1 hc).1 nd).1 (hc.trans hr.symm))
          rw [if_neg this, me10 j c hc]
          by_cases c2 : j < i ∧ Ky.str z = .str "__call"
          · rw [if_pos c2, if_pos ⟨by omega, c2.2⟩]
          · rw [if_neg c2, if_neg fun d => c2 ⟨by omega, d.2⟩]
      · rintro σ' H10 ⟨W10, y, rfl, L10, w10, hD10, hrs10, x610, mo10, me10, hk10⟩
        clear L9 w9 hD9 hrs9 x69 mo9 tl9 hk9
        repeat walk_at "rd"
        refine w_lc ?_
        repeat walk_at "rd"
        refine ⟨p, 4, n + 3, rfl, w10, by omega, by decide, by decide, fun r H11 o11 w11 r0 r1 => ?_⟩
        have L11 := L10.drawW (List.mem_cons_of_mem _ hp) o11 w10 w11
        have hD11 := o11 D _ pD hD10
        have hk11 := hk10.othW w10 o11
        obtain ⟨q0, rfl⟩ := Int.eq_ofNat_of_zero_le r0
        have hq0 : q0 ≤ 3 := by omega
        clear L10 w10 hD10 hk10 r0 r1
        repeat walk_at "rd"
        refine ⟨by omega, by omega, fun D2 nD2 => ?_⟩
        have nS2 : D2 ∉ S0 := fun h => by
          obtain ⟨o, e⟩ := L11.occ (List.mem_cons_of_mem _ h)
          rw [nD2] at e
          cases e
        have sD2 := same_upd (o := .lst []) nD2
        have pD2 : D2 ≠ p := ne_none w11 nD2
        have dD2 : D2 ≠ D := fun c => by rw [c, hD11] at nD2; cases nD2
        refine lc_range (lo := 0) (fun i H' => ∃ W as, Lw CF CT CN CZ (TLof P1 P2 P3) S0 p H (D2 :: D :: S0) W H' mm ∧ Well (n + 4 + i) H' p ∧ H' D2 = some (.lst as) ∧ as.length = i ∧ (∀ a ∈ as, flVs a = true ∨ ∃ c, a = .ref c) ∧ H' D = some (.lst (rs.map V.ref)) ∧ (∀ b ∈ adrs W10, b ∈ adrs W) ∧ (∀ b, mOf W b = mOf W10 b) ∧ (∀ b k, tlW W b k = tlW W10 b k) ∧ Vk CZ W H' kd v)
          ⟨W10, [], L11.add sD2 nD2 upd_same, w11.same sD2, upd_same, rfl, fun a ha => (by cases ha), sD2 _ _ hD11, fun b hb => hb, fun b => rfl, fun b k => rfl, hk11.same sD2⟩ ?_ ?_
        · rintro i H12 hi ⟨W12, as, L12, w12, hD12, la, has, hDr, ad12, mo12, tl12, hk12⟩
          have hi : i < q0 := by omega
          repeat walk_at "rd"
          refine ⟨rfl, ?_⟩
          refine w_yes ?_
          refine iT ?_
          repeat walk_at "rd"
          intro x dx hx hdx ne
          refine u_snew L12.st hx hdx ne _ rfl fun W' H13 t13 s13 ad mo' tl' => ?_
          have L13 := L12.new t13 s13
          have w13 := w12.same s13
          have sub : ∀ b ∈ adrs W12, b ∈ adrs W' := fun b hb => by rw [ad]; exact List.mem_append_left _ hb
          repeat walk_at "rd"
          refine w_lstI (by show 4 ≤ 1000; decide) fun l14 H14 s14 n14 h14 => ?_
          have L14 := L13.same s14
          have w14 := w13.same s14
          repeat walk_at "rd"
          refine ⟨p, l14, n + 4 + i, _, rfl, w14, by omega, ne_none w13 n14, h14, by show 0 < 4; decide, by show 4 ≤ 1000; decide, fun j u H15 hu o15 w15 => ?_⟩
          have L15 := L14.drawW (List.mem_cons_of_mem _ (List.mem_cons_of_mem _ hp)) o15 w14 w15
          have hD15 := o15 _ _ pD2 (s14 _ _ (s13 _ _ hD12))
          have hDr15 := o15 _ _ pD (s14 _ _ (s13 _ _ hDr))
          have hu' : flVs u = true ∨ ∃ c, u = .ref c := by
            have := List.mem_of_getElem? hu
            simp only [List.mem_cons, List.not_mem_nil, or_false] at this
            rcases this with rfl | rfl | rfl | rfl
            · exact .inl rfl
            · exact .inl rfl
            · exact .inl rfl
            · exact .inr ⟨_, rfl⟩
          refine ⟨_, hD15, slE _ (by omega), W', as ++ [u], L15.put List.mem_cons_self nS2 hD15, ?_, upd_same, by rw [List.length_append, la]; rfl, fun a ha => ?_, (upd_ne dD2.symm).trans hDr15, fun b hb => sub b (ad12 b hb), fun b => by rw [mo', mo12], fun b k => by rw [tl', tl12], ((((hk12.same (s13.trans s14)).sub sub).othW w14 o15)).putL hD15⟩
          · obtain ⟨a, b, c, e, d⟩ := w15
            exact ⟨a, b, c, (upd_ne pD2.symm).trans e, d⟩
          · rcases List.mem_append.1 ha with h | h
            · exact has a h
            · cases List.mem_singleton.1 h
              exact hu'
        · rintro H12 ⟨W12, as, L12, w12, hD12, la, has, hDr, ad12, mo12, tl12, hk12⟩
          have la : as.length ≤ 3 := by omega
          clear L11 w11 hD11 hk11
          have ch : Chain W12 rs v := by
            have me : ∀ r z, metaW W12 (.ref r) z = metaW W10 (.ref r) z := fun r z => by
              rw [metaW_eq, metaW_eq, mo12]
              cases mOf W10 r <;> first | rfl | exact tl12 _ _
            refine ⟨fun r hr => ad12 r (hrs10 r hr), fun j r hr u hu => ?_, ?_⟩
            · rw [me, me10 j r hr, if_pos ⟨by have := (List.getElem?_eq_some_iff.1 hr).1; omega, rfl⟩, hu]
              rfl
            · rcases hkv with h | h | h
              · exact meta_fl _ h
              · subst h
                obtain ⟨a, dx, fs, rfl, e, _⟩ := hk12
                exact metaW_none (rec_none (L12.st.g.nat T.ne_TZ e))
              · subst h
                exact meta_non _ (by rw [mo12]; exact mo10)
          have hrs12 : ∀ r ∈ rs, r ∈ adrs W12 := fun r hr => ad12 r (hrs10 r hr)
          clear me10 hrs10 mo10 mo12 tl12 ad12 x610
          repeat walk_at "rd"
          refine ⟨D2, as, rfl, .inl (SqL.of hD12), fun l13 n13 => ?_⟩
          have s13 := same_upd (o := .lst as) n13
          have h13 := upd_same (H := H12) (a := l13) (o := .lst as)
          generalize upd H12 l13 (.lst as) = H13 at s13 h13 ⊢
          have L13 := L12.same s13
          have w13 := w12.same s13
          have l13D : l13 ≠ D2 := fun c => by rw [c, hD12] at n13; cases n13
          have hvf : flVs v = true ∨ ∃ c, v = .ref c := by
            rcases hkv with h | h | h
            · exact .inl h
            · subst h
              obtain ⟨a, dx, fs, rfl, e, _⟩ := hk12
              exact .inr ⟨a, rfl⟩
            · exact .inr ⟨x6, h⟩
          have w13' : Well (n + 4 + q0) H13 p := w13
          have hD13 := s13 _ _ hDr
          have hA13 := s13 _ _ hD12
          have hk13 := hk12.same s13
          have hl2 : l13 ∉ S0 := fun h => by
            obtain ⟨o, e⟩ := L12.occ (List.mem_cons_of_mem _ (List.mem_cons_of_mem _ h))
            rw [n13] at e
            cases e
          clear L12 w12 hD12 hDr hk12 w13 s13 n13
          repeat walk_at "rd"
          refine w_cut (Mid := fun σ' H' => ∃ S1 pd fs, σ' = [some (.ref p), some (.int (mm : Nat)), some v, some (.ref D), y, some (.ref D2), some (.ref l13), some (.ref pd), none, none] ∧ Fd CF CT CN CZ (TLof P1 P2 P3) S0 p H W12 kd v rs as D D2 l13 mm (n + 4 + q0) S1 H' ∧ H' pd = some (.tup fs) ∧ FdC (dueM mm v kd) v ((rs.map V.ref).reverse ++ as) (fun r => r ∈ S1 ∧ r ∉ S0 ∧ r ≠ D2 ∧ r ≠ l13) fs H') ?_ ?_
          · repeat walk_at "rd"
            refine w_lam L13.tb fun H14 e14 t14 => ?_
            have L14 := L13.ext e14 t14
            have w14 : Well (n + 4 + q0) H14 p := by
              obtain ⟨a, b, c, e, d⟩ := w13'
              exact ⟨a, b, c, e14 _ _ e (fun ps z => by cases z), d⟩
            have hD14 := e14 _ _ hD13 fun ps z => by cases z
            have hA14 := e14 _ _ hA13 fun ps z => by cases z
            have hH14 := e14 _ _ h13 fun ps z => by cases z
            have hk14 := hk13.ext e14
            have F14 : Fd CF CT CN CZ (TLof P1 P2 P3) S0 p H W12 kd v rs as D D2 l13 mm (n + 4 + q0) (D2 :: D :: S0) H14 := ⟨L14, w14, hD14, hA14, hH14, hk14⟩
            clear L13 w13' hD13 hA13 h13 hk13
            unfold TTt
            refine w_callS ?_
            repeat walk_at "rd"
            refine w_lst1 fun l15 H15 s15 n15 h15 => ?_
            repeat walk_at "rd"
            refine w_cat (s15 _ _ hD14) h15 (by rw [List.length_map, lr]; exact Nat.le_of_lt (slE _ (by show mm + 1 ≤ _; omega))) fun l16 H16 s16 n16 h16 => ?_
            have s146 := s15.trans s16
            have L16 := L14.same s146
            obtain ⟨u, hu, cu⟩ := chain_at (rs := rs) (v := v) (Nat.zero_le _)
            have hku : ∃ ku, Vk CZ W12 H16 ku u := by
              rcases cu with ⟨c, hc, rfl, _⟩ | ⟨_, rfl⟩
              · exact ⟨.tab, c, rfl, hrs12 c (List.mem_of_getElem? hc)⟩
              · exact ⟨kd, hk14.same s146⟩
            obtain ⟨ku, hku⟩ := hku
            repeat walk_at "rd"
            refine ⟨l16, _, 0, u, rfl, rfl, SqL.of h16, atN (j := 0) hu, ?_⟩
            repeat walk_at "rd"
            refine ⟨D2 :: D :: S0, W12, u, ku, D2, as, rfl, L16.st.g, L16.st.gd, hku, s146 _ _ hA14, by omega, ?_⟩
            rw [chain_res ch as u hu, lr, hk14.of L14.st.g T.ne_TZ]
            have hdu : dueM mm v kd = if 100 < mm ∨ (mm = 100 ∧ v ≠ .non) then some msgLong else if kd = .nat then none else some (msgCall (if v = .non ∧ 0 < mm then .tab else kd)) := rfl
            clear cu ch hu hku
            have F16 := F14.same s146
            by_cases cA : 100 < mm ∨ (mm = 100 ∧ v ≠ .non)
            · rw [if_pos cA] at hdu ⊢
              intro d H17 s17 e17
              refine ⟨rfl, d, _, _, rfl, e17, thr_value _, fun p18 hp18 => ?_⟩
              have s18 := s17.trans (same_upd (o := .tup [.str "thrown", .str msgLong]) hp18)
              have h18 := upd_same (H := H17) (a := p18) (o := .tup [.str "thrown", .str msgLong])
              repeat walk_at "rd"
              exact ⟨_, p18, _, rfl, F16.same s18, h18, .inl ⟨_, hdu, rfl⟩⟩
            · rw [if_neg cA] at hdu ⊢
              by_cases cN : kd = .nat
              · rw [if_pos cN] at hdu ⊢
                intro p18 l17 H18 s18 np18 nl17 h18 hl17
                repeat walk_at "rd"
                have F18 := F16.same s18
                have ne : ∀ b o, H16 b = some o → l17 ≠ b := fun b o e c => (by rw [c, e] at nl17; cases nl17)
                exact ⟨_, p18, _, rfl, ⟨L16.add s18 nl17 hl17, F18.w, F18.d, F18.a, F18.h, F18.k⟩, h18, .inr ⟨hdu, l17, rfl, hl17, List.mem_cons_self, (fun h => by
                  obtain ⟨o, e⟩ := L16.occ (List.mem_cons_of_mem _ (List.mem_cons_of_mem _ h))
                  exact ne _ _ e rfl), ne _ _ F16.a, ne _ _ F16.h⟩⟩
              · rw [if_neg cN] at hdu ⊢
                generalize hK : (if v = .non ∧ 0 < mm then Kd1.tab else kd) = kk at hdu ⊢
                intro d H17 s17 e17
                refine ⟨rfl, d, _, _, rfl, e17, thr_value _, fun p18 hp18 => ?_⟩
                have s18 := s17.trans (same_upd (o := .tup [.str "thrown", .str (msgCall kk)]) hp18)
                have h18 := upd_same (H := H17) (a := p18) (o := .tup [.str "thrown", .str (msgCall kk)])
                repeat walk_at "rd"
                exact ⟨_, p18, _, rfl, F16.same s18, h18, .inl ⟨_, hdu, rfl⟩⟩
          · rintro σ' H18 ⟨S1, pd, fs, rfl, F18, h18, c18⟩
            clear L13 w13' hD13 hA13 h13 hk13 ch
            repeat walk_at "rd"
            refine w_revL ?_
            repeat walk_at "rd"
            refine ⟨D, _, rfl, SqL.of F18.d, fun l19 n19 => ?_⟩
            have s19 := same_upd (o := .lst (rs.map V.ref).reverse) n19
            have h19 := upd_same (H := H18) (a := l19) (o := .lst (rs.map V.ref).reverse)
            generalize upd H18 l19 (.lst (rs.map V.ref).reverse) = H19 at s19 h19 ⊢
            repeat walk_at "rd"
            refine w_cat h19 (s19 _ _ F18.a) (by rw [List.length_reverse, List.length_map]; exact Nat.le_of_lt (slE _ (by omega))) fun l20 H20 s20 n20 h20 => ?_
            repeat walk_at "rd"
            refine w_tup2 fun a21 H21 s21 n21 h21 => ?_
            have s1821 := (s19.trans s20).trans s21
            have F21 := F18.same s1821
            have n2118 : pd ≠ a21 := fun c => by rw [← c, (s19.trans s20) _ _ h18] at n21; cases n21
            have h18 := s1821 _ _ h18
            have c18 := c18.same s1821
            have h20 := s21 _ _ h20
            clear F18 s1821 s19 s20 s21 n19 n20 n21 h19
            repeat walk_at "rd"
            refine w_cut (Mid := fun σ' H' => ∃ pe es y9, σ' = [some (.ref p), some (.int (mm : Nat)), some v, some (.ref D), y, some (.ref D2), some (.ref l13), some (.ref pd), some (.ref pe), y9] ∧ Same H21 H' ∧ pd ≠ pe ∧ H' pe = some (.tup es) ∧ FdC (dueM mm v kd) v ((rs.map V.ref).reverse ++ as) (fun _ => True) es H') ?_ ?_
            · obtain ⟨tt, ty, it⟩ := says_k2 T.toAllW F21.L.st.g F21.k
              have hdu : dueM mm v kd = if 100 < mm ∨ (mm = 100 ∧ v ≠ .non) then some msgLong else if kd = .nat then none else some (msgCall (if v = .non ∧ 0 < mm then .tab else kd)) := rfl
              have np : ∀ {a : Addr}, H21 a = none → pd ≠ a := fun {a} h c => by rw [← c, h18] at h; cases h
              repeat walk_at "rd"
              by_cases cA : 100 < mm ∨ (mm = 100 ∧ v ≠ .non)
              · rw [if_pos cA] at hdu
                refine iD (fun c1 => ?_) (fun c1 => ?_)
                · repeat walk_at "rd"
                  refine w_tup2 fun a22 H22 s22 n22 h22 => ?_
                  repeat walk_at "rd"
                  exact ⟨a22, _, _, rfl, s22, np n22, h22, .inl ⟨_, hdu, rfl⟩⟩
                · have cB := cA.resolve_left (by omega)
                  repeat walk_at "rd"
                  refine iD (fun c2 => ?_) (fun c2 => absurd (by omega) c2)
                  repeat walk_at "rd"
                  refine iN (fun _ => ?_) (fun h => absurd h cB.2)
                  repeat walk_at "rd"
                  refine w_tup2 fun a22 H22 s22 n22 h22 => ?_
                  repeat walk_at "rd"
                  exact ⟨a22, _, _, rfl, s22, np n22, h22, .inl ⟨_, hdu, rfl⟩⟩
              · rw [if_neg cA] at hdu
                refine iD (fun c1 => absurd (.inl (by omega)) cA) (fun c1 => ?_)
                repeat walk_at "rd"
                have none_or : mm = 100 → v = .non := fun e => Classical.byContradiction fun z => cA (.inr ⟨e, z⟩)
                refine iD (fun c2 => ?_) (fun c2 => ?_)
                · repeat walk_at "rd"
                  refine iN (fun h => absurd (none_or (by omega)) h) (fun _ => ?_)
                  repeat walk_at "rd"
                  refine w_isi (.own CZ) ty it ?_
                  by_cases cN : kd = .nat
                  · rw [if_pos cN] at hdu
                    rw [decide_eq_true cN]
                    repeat walk_at "rd"
                    refine iF ?_
                    repeat walk_at "rd"
                    exact ⟨a21, _, _, rfl, .refl _, n2118, h21, .inr ⟨hdu, l20, rfl, h20, trivial⟩⟩
                  · rw [if_neg cN] at hdu
                    rw [decide_eq_false cN]
                    repeat walk_at "rd"
                    refine iT ?_
                    repeat walk_at "rd"
                    refine iD (fun c3 => ?_) (fun c3 => ?_)
                    · repeat walk_at "rd"
                      refine iD (fun c4 => ?_) (fun c4 => ?_)
                      · rw [if_pos ⟨c3, by omega⟩] at hdu
                        repeat walk_at "rd"
                        obtain ⟨r, hr⟩ : ∃ r, rs[mm - 1]? = some r := ⟨_, List.getElem?_eq_getElem (by omega)⟩
                        rw [show (mm : Int) - 1 = ((mm - 1 : Nat) : Int) by omega]
                        refine w_ixL F21.d (atN (by rw [List.getElem?_map, hr]; rfl)) ?_
                        repeat walk_at "rd"
                        refine ⟨S1, W12, _, .tab, rfl, F21.L.st.g, ⟨r, rfl, hrs12 r (List.mem_of_getElem? hr)⟩, ?_⟩
                        repeat walk_at "rd"
                        refine ⟨_, _, rfl, rfl, by decide +kernel, ?_⟩
                        repeat walk_at "rd"
                        refine ⟨_, _, rfl, rfl, by decide +kernel, ?_⟩
                        repeat walk_at "rd"
                        refine w_tup2 fun a22 H22 s22 n22 h22 => ?_
                        repeat walk_at "rd"
                        exact ⟨a22, _, _, rfl, s22, np n22, h22, .inl ⟨_, hdu, rfl⟩⟩
                      · rw [if_neg fun z => c4 (by omega)] at hdu
                        repeat walk_at "rd"
                        refine ⟨S1, W12, _, kd, rfl, F21.L.st.g, F21.k, ?_⟩
                        repeat walk_at "rd"
                        refine ⟨_, _, rfl, rfl, by cases kd <;> decide +kernel, ?_⟩
                        repeat walk_at "rd"
                        refine ⟨_, _, rfl, rfl, by cases kd <;> decide +kernel, ?_⟩
                        repeat walk_at "rd"
                        refine w_tup2 fun a22 H22 s22 n22 h22 => ?_
                        repeat walk_at "rd"
                        exact ⟨a22, _, _, rfl, s22, np n22, h22, .inl ⟨_, hdu, rfl⟩⟩
                    · rw [if_neg fun z => c3 z.1] at hdu
                      repeat walk_at "rd"
                      refine ⟨S1, W12, _, kd, rfl, F21.L.st.g, F21.k, ?_⟩
                      repeat walk_at "rd"
                      refine ⟨_, _, rfl, rfl, by cases kd <;> decide +kernel, ?_⟩
                      repeat walk_at "rd"
                      refine ⟨_, _, rfl, rfl, by cases kd <;> decide +kernel, ?_⟩
                      repeat walk_at "rd"
                      refine w_tup2 fun a22 H22 s22 n22 h22 => ?_
                      repeat walk_at "rd"
                      exact ⟨a22, _, _, rfl, s22, np n22, h22, .inl ⟨_, hdu, rfl⟩⟩
                · repeat walk_at "rd"
                  refine w_isi (.own CZ) ty it ?_
                  by_cases cN : kd = .nat
                  · rw [if_pos cN] at hdu
                    rw [decide_eq_true cN]
                    repeat walk_at "rd"
                    refine iF ?_
                    repeat walk_at "rd"
                    exact ⟨a21, _, _, rfl, .refl _, n2118, h21, .inr ⟨hdu, l20, rfl, h20, trivial⟩⟩
                  · rw [if_neg cN] at hdu
                    rw [decide_eq_false cN]
                    repeat walk_at "rd"
                    refine iT ?_
                    repeat walk_at "rd"
                    refine iD (fun c3 => ?_) (fun c3 => ?_)
                    · repeat walk_at "rd"
                      refine iD (fun c4 => ?_) (fun c4 => ?_)
                      · rw [if_pos ⟨c3, by omega⟩] at hdu
                        repeat walk_at "rd"
                        obtain ⟨r, hr⟩ : ∃ r, rs[mm - 1]? = some r := ⟨_, List.getElem?_eq_getElem (by omega)⟩
                        rw [show (mm : Int) - 1 = ((mm - 1 : Nat) : Int) by omega]
                        refine w_ixL F21.d (atN (by rw [List.getElem?_map, hr]; rfl)) ?_
                        repeat walk_at "rd"
                        refine ⟨S1, W12, _, .tab, rfl, F21.L.st.g, ⟨r, rfl, hrs12 r (List.mem_of_getElem? hr)⟩, ?_⟩
                        repeat walk_at "rd"
                        refine ⟨_, _, rfl, rfl, by decide +kernel, ?_⟩
                        repeat walk_at "rd"
                        refine ⟨_, _, rfl, rfl, by decide +kernel, ?_⟩
                        repeat walk_at "rd"
                        refine w_tup2 fun a22 H22 s22 n22 h22 => ?_
                        repeat walk_at "rd"
                        exact ⟨a22, _, _, rfl, s22, np n22, h22, .inl ⟨_, hdu, rfl⟩⟩
                      · rw [if_neg fun z => c4 (by omega)] at hdu
                        repeat walk_at "rd"
                        refine ⟨S1, W12, _, kd, rfl, F21.L.st.g, F21.k, ?_⟩
                        repeat walk_at "rd"
                        refine ⟨_, _, rfl, rfl, by cases kd <;> decide +kernel, ?_⟩
                        repeat walk_at "rd"
                        refine ⟨_, _, rfl, rfl, by cases kd <;> decide +kernel, ?_⟩
                        repeat walk_at "rd"
                        refine w_tup2 fun a22 H22 s22 n22 h22 => ?_
                        repeat walk_at "rd"
                        exact ⟨a22, _, _, rfl, s22, np n22, h22, .inl ⟨_, hdu, rfl⟩⟩
                    · rw [if_neg fun z => c3 z.1] at hdu
                      repeat walk_at "rd"
                      refine ⟨S1, W12, _, kd, rfl, F21.L.st.g, F21.k, ?_⟩
                      repeat walk_at "rd"
                      refine ⟨_, _, rfl, rfl, by cases kd <;> decide +kernel, ?_⟩
                      repeat walk_at "rd"
                      refine ⟨_, _, rfl, rfl, by cases kd <;> decide +kernel, ?_⟩
                      repeat walk_at "rd"
                      refine w_tup2 fun a22 H22 s22 n22 h22 => ?_
                      repeat walk_at "rd"
                      exact ⟨a22, _, _, rfl, s22, np n22, h22, .inl ⟨_, hdu, rfl⟩⟩
            · rintro σ' H22 ⟨pe, es, y9, rfl, s22, npe, hpe, c22⟩
              have F22 := F21.same s22
              have h18 := s22 _ _ h18
              have c18 := c18.same s22
              clear F21 h20 h21
              repeat walk_at "rd"
              rcases c18 with ⟨m, hm, rfl⟩ | ⟨hm, r, rfl, hr, rS, r0, rD2, rl⟩
              · obtain rfl : es = [.str "thrown", .str m] := by
                  rcases c22 with ⟨m', h', rfl⟩ | ⟨h', _⟩
                  · rw [hm] at h'
                    cases h'
                    rfl
                  · rw [hm] at h'
                    cases h'
                refine w_neAl (n := 1) npe (by decide) (al_tupF h18 hpe (ps2_flat _ _ rfl rfl)) ?_
                repeat walk_at "rd"
                refine w_ixT hpe (v := .str "thrown") rfl ?_
                repeat walk_at "rd"
                refine .inl ⟨rfl, ?_⟩
                rw [decide_eq_true rfl]
                repeat walk_at "rd"
                refine iF ?_
                repeat walk_at "rd"
                refine w_eqAl (n := 1) l13D.symm (by decide) (.lst (SqL.of F22.a) (SqL.of F22.h) rfl fun j x y e1 e2 => by rw [e1] at e2; cases e2; exact (has x (List.mem_of_getElem? e1)).elim Al.flat (fun ⟨c, e⟩ => e ▸ Al.ref c)) ?_
                repeat walk_at "rd"
                exact q _ F22.L.kp (F22.w.mono (by omega)) F22.L.tb
              · obtain ⟨r2, rfl, hr2⟩ : ∃ r2, es = [v, .ref r2] ∧ H22 r2 = some (.lst ((rs.map V.ref).reverse ++ as)) := by
                  rcases c22 with ⟨m', h', _⟩ | ⟨_, r2, e, h, _⟩
                  · rw [hm] at h'
                    cases h'
                  · exact ⟨r2, e, h⟩
                have hin : InsV CZ H22 v := by
                  obtain ⟨a, dx, fs, e, h, _⟩ := (due_nat hm) ▸ F22.k
                  exact ⟨a, dx, fs, e, h⟩
                have alL : Al K H22 1 (.ref r) (.ref r2) := .lst (SqL.of hr) (SqL.of hr2) rfl fun j x y e1 e2 => by
                  rw [e1] at e2
                  cases e2
                  have := List.mem_of_getElem? e1
                  rcases List.mem_append.1 this with h | h
                  · rw [List.mem_reverse, List.mem_map] at h
                    obtain ⟨c, _, rfl⟩ := h
                    exact .ref c
                  · exact (has x h).elim Al.flat (fun ⟨c, e⟩ => e ▸ Al.ref c)
                have alV : Al K H22 1 v v := hvf.elim Al.flat (fun ⟨c, e⟩ => e ▸ Al.ref c)
                refine w_neAl (n := 2) npe (by decide) (.tup (SqT.of h18) (SqT.of hpe) rfl fun j x y e1 e2 => ?_) ?_
                · match j with
                  | 0 => cases e1; cases e2; exact alV
                  | 1 => cases e1; cases e2; exact alL
                  | (j + 2) => cases e1
                repeat walk_at "rd"
                refine w_ixT hpe (v := v) rfl ?_
                repeat walk_at "rd"
                refine .inr ⟨hin, ⟨_, rfl⟩, ?_⟩
                repeat walk_at "rd"
                refine w_bm ?_
                repeat walk_at "rd"
                refine w_ixT h18 (v := .ref r) rfl ?_
                refine ⟨w_tyL hr, ?_⟩
                repeat walk_at "rd"
                refine ⟨r, _, .non, rfl, rfl, hr, slE _ (by rw [List.length_append, List.length_reverse, List.length_map]; omega), ?_⟩
                repeat walk_at "rd"
                have Lz := F22.L.put (ys := (List.map V.ref rs).reverse ++ as ++ [V.non]) rS r0 hr
                refine w_eqAl (n := 1) l13D.symm (by decide) (.lst (SqL.of ((upd_ne rD2.symm).trans F22.a)) (SqL.of ((upd_ne rl.symm).trans F22.h)) rfl fun j x y e1 e2 => by rw [e1] at e2; cases e2; exact (has x (List.mem_of_getElem? e1)).elim Al.flat (fun ⟨c, e⟩ => e ▸ Al.ref c)) ?_
                repeat walk_at "rd"
                refine q _ Lz.kp ?_ Lz.tb
                obtain ⟨a, b, c, e, d⟩ := F22.w.mono (m := n + 20) (by omega)
                exact ⟨a, b, c, (upd_ne (show p ≠ r from fun z => r0 (z ▸ hp))).trans e, d⟩
end
end Nu

set_option Elab.async false
set_option linter.all false
set_option maxRecDepth 100000
set_option autoImplicit false
set_option maxHeartbeats 4000000
set_option pp.maxSteps 900
namespace Nu
open PySem PySem.Spec PyProof.Rows L2 L2.DX Rd Tm LamX
local macro_rules | `(tactic| walk_at "hp") => `(tactic| first | assumption | (refine same_get ?sm ?_; (case sm => assumption); walk_at "hp"))
local macro_rules | `(tactic| walk_at "rd") => `(tactic| first
  | (with_reducible show Ends.nx _ _ _; with_reducible refine w_nx ?_)
  | with_reducible refine w_rt ?_
  | (with_reducible show Ends.bk _ _ _; with_reducible refine w_bk ?_)
  | (with_reducible show Ends.ct _ _ _; with_reducible refine w_ct ?_)
  | with_reducible refine w_seq ?_
  | with_reducible refine w_next ?_
  | with_reducible refine w_ret ?_
  | with_reducible refine w_ifS ?_
  | with_reducible refine w_asg ?_
  | with_reducible refine w_name ?_
  | with_reducible refine w_par ?_
  | with_reducible refine w_parI ?_
  | with_reducible refine w_ii ?_
  | with_reducible refine w_i1 ?_
  | with_reducible refine w_drop ?_
  | with_reducible refine w_sFld ?_
  | ((with_reducible refine' w_var ?rdh ?_); (case rdh => exact rfl))
  | with_reducible refine w_c ?_
  | with_reducible refine w_op ?_
  | with_reducible refine w_un ?_
  | with_reducible refine w_I0 ?_
  | with_reducible refine w_U ?_
  | with_reducible refine w_bits ?_
  | with_reducible refine w_bitsI ?_
  | with_reducible refine w_tup ?_
  | with_reducible refine w_lst ?_
  | with_reducible refine w_nil ?_
  | with_reducible refine w_cons ?_
  | with_reducible refine w_fld ?_
  | with_reducible refine w_call ?_
  | with_reducible refine w_make ?_
  | with_reducible refine w_gsub ?_
  | with_reducible refine w_int1 ?_
  | with_reducible refine w_intB ?_
  | with_reducible refine w_for ?_
  | with_reducible refine w_rng1 ?_
  | with_reducible refine w_iList ?_
  | with_reducible refine w_iTup ?_
  | with_reducible refine w_makeD ?_
  | with_reducible refine w_nn ?_
  | with_reducible refine w_subB ?_
  | with_reducible refine w_meth ?_
  | with_reducible refine w_cb ?_
  | with_reducible refine w_test ?_
  | with_reducible refine w_B ?_
  | with_reducible refine w_bl ?_
  | with_reducible refine w_andV ?_
  | with_reducible refine w_orV ?_
  | with_reducible refine w_notV ?_
  | with_reducible refine w_and ?_
  | with_reducible refine w_or ?_
  | with_reducible refine w_not ?_
  | with_reducible refine w_if ?_
  | with_reducible refine w_gnil ?_
  | with_reducible refine w_gcons ?_
  | with_reducible refine iT ?_
  | with_reducible refine iF ?_
  | with_reducible refine w_eqI ?_
  | with_reducible refine w_neI ?_
  | with_reducible refine w_eqS ?_
  | with_reducible refine w_eqIS ?_
  | with_reducible refine w_eqSI ?_)

structure AllV (K : PySem.W.Frag) (mg : Str → Option Value) (CF CT CN CZ CG CW CE C1 C2 C3 P1 P2 P3 : Addr) : Prop extends AllX K mg CF CT CN CZ CG CW CE C1 C2 C3 P1 P2 P3 where
section
variable {P : Program} {w : World} {K : PySem.W.Frag} {mg : Str → Option Value} {base : Heap} {CF CT CN CZ CG CW CE C1 C2 C3 P1 P2 P3 : Addr}
def spLaw (K : PySem.W.Frag) (P1 P2 P3 : Addr) : Sp := fun vs H Q _ => ∃ (a : Addr) (ns : List Int), vs = [.ref a] ∧ SqL K H a (ns.map V.int) ∧ ns.length ≤ 63 ∧ (∀ z ∈ ns, bits z ≤ 1048576) ∧ Tabs (TLof P1 P2 P3) H ∧ ∀ H', Q (.bl true) H'
theorem sql_set {H : Hp} {a : Addr} {xs : List V} (h : SqL K H a xs) : ∃ SA : List Addr, (∀ b ∈ SA, (∃ o, H b = some o) ∧ ∀ ps, H b ≠ some (.tbl ps)) ∧ ∀ H', (∀ b ∈ SA, ∀ o, H b = some o → H' b = some o) → SqL K H' a xs := by
  rcases h with (h | ⟨o, h⟩) | h
  · exact ⟨[a], fun b hb => by cases List.mem_singleton.1 hb; exact ⟨⟨_, h⟩, fun ps z => by rw [h] at z; cases z⟩, fun H' s => .inl (.inl (s a (List.mem_singleton.2 rfl) _ h))⟩
  · exact ⟨[a], fun b hb => by cases List.mem_singleton.1 hb; exact ⟨⟨_, h⟩, fun ps z => by rw [h] at z; cases z⟩, fun H' s => .inl (.inr ⟨o, s a (List.mem_singleton.2 rfl) _ h⟩)⟩
  · exact ⟨[], fun b hb => (by cases hb), fun H' _ => .inr h⟩
theorem sc_law : FnScope ["script", "k", "well", "turn"] ["script"] (defScope s_law) := ⟨rfl, rfl, rfl, by decide +kernel, rfl, by decide +kernel, by decide +kernel⟩
theorem ok_law (T : AllV K mg CF CT CN CZ CG CW CE C1 C2 C3 P1 P2 P3) (k_law_ring_right : Kn P w K mg base CX0 14 "_law_ring_right" [] (spPart0 P1 P2 P3)) (k_law_cell_at : Kn P w K mg base CX0 1 "_law_cell_at" ["script", "k"] (spCell K)) (k_law_well : Kn P w K mg base CX0 1 "_law_well" ["cell"] spWell)
    (k_law_called_right : Kn P w K mg base CX0 14 "_law_called_right" ["well"] (spPart P1 P2 P3)) (k_law_protected_right : Kn P w K mg base CX0 14 "_law_protected_right" ["well"] (spPart P1 P2 P3)) (k_law_closable_right : Kn P w K mg base CX0 14 "_law_closable_right" ["well"] (spPart P1 P2 P3))
    {f : Addr} {fd : FuncData} (F : Fun K "law" "law" s_law f fd) : FnOk P w K mg base CX0 20 f fd ["script"] (spLaw K P1 P2 P3) := by
  refine F.ok sc_law (fun vs H Q E h => ?_) (fun cdv A outer s H vs Q E hr h => ?_)
  · obtain ⟨a, ns, rfl, _⟩ := h
    rfl
  · obtain ⟨a, ns, rfl, hS, hl, hb, tb, q⟩ := h
    refine ⟨_, (pss_cons (ps_if (pt_not (pt_val (pk0 k_law_ring_right hr))) (pss_one (ps_ret pe_bl)) pss_nil)
      (pss_cons (ps_for PassesOwn.never rfl (pi_range1 rfl T.b_range (pa_cons (pe_callB (call_max2 (by rfl)) (by rfl) T.b_max boot_max (pa_cons pe_int (pa_cons (pe_callB (call_min2 (by rfl)) (by rfl) T.b_min boot_min (pa_cons pe_int (pa_cons (pe_callB call_len_seq (by rfl) T.b_len boot_len (pa_cons (pv 0) pa_nil)) pa_nil))) pa_nil))) pa_nil)) (pg_name (i := 1) sc_law.nd rfl (Or.inl rfl))
      (pss_cons (ps_set (i := 2) sc_law.nd rfl (Or.inl rfl) (pk k_law_well hr (pa_cons (pk k_law_cell_at hr (pa_cons (pv 0) (pa_cons (pv 1) pa_nil))) pa_nil)))
      (pss_one (ps_for PassesOwn.never rfl (pi_range1 rfl T.b_range (pa_cons pe_int pa_nil)) (pg_name (i := 3) sc_law.nd rfl (Or.inl rfl))
      (pss_one (ps_if (PW.pt (pw_or (pt_not (pt_val (pk k_law_called_right hr (pa_cons (pv 2) pa_nil)))) (pw_or (pt_not (pt_val (pk k_law_protected_right hr (pa_cons (pv 2) pa_nil)))) (pw_or1 (pt_not (pt_val (pk k_law_closable_right hr (pa_cons (pv 2) pa_nil)))))))) (pss_one (ps_ret pe_bl)) pss_nil))))))
      (pss_one (ps_ret pe_bl)))), ?_⟩
    obtain ⟨SA, hSA, hSq⟩ := sql_set hS
    have keep : ∀ {H1 : Hp}, (∀ b ∈ SA, ∀ o, H b = some o → H1 b = some o) → ∀ b ∈ SA, (∃ o, H1 b = some o) ∧ ∀ ps, H1 b ≠ some (.tbl ps) := fun {H1} k b hb => by
      obtain ⟨⟨o, e⟩, n⟩ := hSA b hb
      exact ⟨⟨o, k b hb o e⟩, fun ps z => by rw [k b hb o e] at z; cases z; exact n ps e⟩
    repeat walk_at "rd"
    refine ⟨SA, rfl, hSA, tb, fun H1 k1 t1 => ?_⟩
    repeat walk_at "rd"
    refine iF ?_
    repeat walk_at "rd"
    refine ⟨a, _, rfl, .inl (hSq H1 k1), ?_⟩
    rw [List.length_map]
    repeat walk_at "rd"
    refine ⟨by split <;> split <;> omega, by split <;> split <;> omega, ?_⟩
    refine for_range (lo := 0) (fun i σ' H' => ∃ y y2 y3, σ' = [some (.ref a), y, y2, y3] ∧ (∀ b ∈ SA, ∀ o, H b = some o → H' b = some o) ∧ Tabs (TLof P1 P2 P3) H') ⟨none, none, none, rfl, k1, t1⟩ ?_ ?_
    · rintro i σ' H2 hi ⟨y, y2, y3, rfl, k2, t2⟩
      have hi : i ≤ 6 := by
        revert hi
        split <;> split <;> omega
      repeat walk_at "rd"
      refine ⟨a, ns, i, by rw [Int.zero_add]; rfl, hSq H2 k2, hl, hb, by omega, fun z hz => ?_⟩
      repeat walk_at "rd"
      refine ⟨z, rfl, hz, fun p H3 s3 n3 w3 => ?_⟩
      have k3 : ∀ b ∈ SA, ∀ o, H b = some o → H3 b = some o := fun b hb o e => s3 _ _ (k2 b hb o e)
      have np : ∀ b ∈ SA, b ≠ p := fun b hb c => by
        obtain ⟨⟨o, e⟩, _⟩ := hSA b hb
        have := k2 b hb o e
        rw [c, n3] at this
        cases this
      have t3 := t2.ext s3
      have occ : ∀ {H1 : Hp} {n : Nat}, Well n H1 p → (∀ b ∈ SA, ∀ o, H b = some o → H1 b = some o) → ∀ b ∈ p :: SA, (∃ o, H1 b = some o) ∧ ∀ ps, H1 b ≠ some (.tbl ps) := fun {H1 n} w k b hb => by
        rcases List.mem_cons.1 hb with e | hb
        · obtain ⟨_, _, _, h, _⟩ := w
          rw [e]
          exact ⟨⟨_, h⟩, fun ps z => by rw [h] at z; cases z⟩
        · exact keep k b hb
      have kk : ∀ {Ha Hb : Hp}, (∀ b ∈ SA, ∀ o, H b = some o → Ha b = some o) → (∀ b ∈ p :: SA, b ≠ p → ∀ o, Ha b = some o → Hb b = some o) → ∀ b ∈ SA, ∀ o, H b = some o → Hb b = some o := fun {Ha Hb} k k' b hb o e => k' b (List.mem_cons_of_mem _ hb) (np b hb) o (k b hb o e)
      repeat walk_at "rd"
      refine ⟨by decide, by decide, ?_⟩
      refine for_range (lo := 0) (fun j σ' H' => ∃ y3, σ' = [some (.ref a), some (.int (0 + (i : Nat))), some (.ref p), y3] ∧ (∀ b ∈ SA, ∀ o, H b = some o → H' b = some o) ∧ Tabs (TLof P1 P2 P3) H' ∧ Well (60 * j) H' p) ⟨_, rfl, k3, t3, w3⟩ ?_ ?_
      · rintro j σ' H4 hj ⟨y4, rfl, k4, t4, w4⟩
        have hj : j < 6 := hj
        repeat walk_at "rd"
        refine ⟨p :: SA, p, 60 * j, rfl, List.mem_cons_self, w4, by omega, occ w4 k4, t4, fun H5 k5 w5 t5 => ?_⟩
        have k5 := kk k4 k5
        repeat walk_at "rd"
        refine iF ?_
        repeat walk_at "rd"
        refine ⟨p :: SA, p, 60 * j + 20, rfl, List.mem_cons_self, w5, by omega, occ w5 k5, t5, fun H6 k6 w6 t6 => ?_⟩
        have k6 := kk k5 k6
        repeat walk_at "rd"
        refine iF ?_
        repeat walk_at "rd"
        refine ⟨p :: SA, p, 60 * j + 20 + 20, rfl, List.mem_cons_self, w6, by omega, occ w6 k6, t6, fun H7 k7 w7 t7 => ?_⟩
        have k7 := kk k6 k7
        repeat walk_at "rd"
        refine iF ?_
        repeat walk_at "rd"
        exact ⟨_, rfl, k7, t7, w7.mono (by omega)⟩
      · rintro σ' H4 ⟨y4, rfl, k4, t4, w4⟩
        repeat walk_at "rd"
        exact ⟨_, _, _, rfl, k4, t4⟩
    · rintro σ' H2 ⟨y, y2, y3, rfl, k2, t2⟩
      repeat walk_at "rd"
      exact q H2
end
end Nu

set_option Elab.async false
set_option linter.all false
set_option maxRecDepth 100000
set_option autoImplicit false
set_option maxHeartbeats 4000000
namespace Nu
open PySem PySem.Spec PyProof.Rows L2 Rd Tm
local macro_rules | `(tactic| walk_at "rd") => `(tactic| first
  | (with_reducible show Ends.nx _ _ _; with_reducible refine w_nx ?_)
  | with_reducible refine w_seq ?_
  | with_reducible refine w_drop ?_
  | with_reducible refine w_nil ?_
  | with_reducible refine w_cons ?_
  | ((with_reducible refine' w_var ?rdh ?_); (case rdh => exact rfl)))
theorem exm_own {K : PySem.W.Frag} {C : Addr} (h1 : PySem.W.subIn K (.ref C) (.type "BaseException") = some true) (h2 : PySem.W.isClsIn K C = true) (h3 : PySem.W.typeIn K (.ref C) = some (.type "type")) (h4 : PySem.W.subIn K (.ref C) (.ref C) = some true) : PySem.W.exmOne K (.ref C) (.ref C) = some true := by
  have e2 : (PySem.W.clsIn K C).isSome = true := h2
  unfold PySem.W.exmOne PySem.W.kitCls
  simp [h1, h3, h4, e2]
theorem w_ai {K : PySem.W.Frag} {ta : L2.TA} {σ : L2.St} {H : Hp} {Q : VK} (h : ta σ H fun vs H1 => ∃ (a C : Addr) (ws : List V), vs = .ref a :: ws ∧ ws.length ≤ 1000 ∧ AexC K C ∧ H1 a = some (exo a C none) ∧ Q .non H1) : tAI K ta σ H Q := h
theorem w_ast {K : PySem.W.Frag} {f : Str} {to te : TE} {D : Ends} {σ : L2.St} {H : Hp} (h : te σ H fun y H1 => to σ H1 fun x H2 => ∃ a C : Addr, x = .ref a ∧ AexC K C ∧ PySem.W.findIn K (.ref C) f = some none ∧
  ((H2 a = some (exo a C none) ∧ ∀ dx, H2 dx = none → dx ≠ a → D.nx σ (upd (upd H2 a (exo a C (some dx))) dx (exd dx [(f, y)]))) ∨
    ∃ (dx : Addr) (fs : List (Str × V)), H2 a = some (exo a C (some dx)) ∧ H2 dx = some (exd dx fs) ∧ fs.length ≤ 900 ∧ D.nx σ (upd H2 dx (exd dx ((f, y) :: fs))))) : tAst K f to te D σ H := h
theorem sc_Thrown_init : FnScope ["self", "value", "level"] ["self", "value", "level"] (defScope s_Thrown_init) := ⟨rfl, rfl, rfl, by decide +kernel, rfl, by decide +kernel, by decide +kernel⟩
theorem thr_kn {P : Program} {w : World} {K : PySem.W.Frag} {mg : Str → Option Value} {base : Heap} {CF CT CN CZ CG CW CE C1 C2 C3 P1 P2 P3 : Addr} (T : AllV K mg CF CT CN CZ CG CW CE C1 C2 C3 P1 P2 P3) {f : Addr} {fd : FuncData}
    (F : FunD K "__init__" "Thrown.__init__" (defArgs s_Thrown_init) (defBody s_Thrown_init) (defScope s_Thrown_init) [.int 1] [] f fd) (a : PySem.W.findIn K (.ref CE) "__init__" = some (some (.ref f))) (t : PySem.W.typeIn K (.ref f) = some (.type "function")) : KnTh P w K mg base CE := by
  obtain ⟨ds, hv, hb⟩ := F.binds1 (ps := ["self", "value", "level"]) 2 0 (by simp) (by decide)
    (fun TT kV doc pm an cdv ct us its h1 h2 => match us, its, h1, h2 with
      | [a, b], [c], _, _ => ⟨_, rfl, rfl⟩)
  refine ⟨f, fd, ds, T.g_Thrown, T.a_Thrown, a, t, hv, hb, ?_⟩
  refine F.ok sc_Thrown_init (fun vs H Q E h => ?_) (fun cdv A outer s H vs Q E hr h => ?_)
  · obtain ⟨x, v, rfl, _⟩ := h
    rfl
  · obtain ⟨x, v, rfl, hx, q⟩ := h
    refine ⟨_, PSs.nox (pss_cons (ps_expr (pe_ainit rfl T.b_AE T.v_AE (pa_cons (pv 0) (pa_cons (pv 1) pa_nil)))) (pss_cons (ps_ast (pv 0) (pv 1)) (pss_one (ps_ast (pv 0) (pv 2))))), ?_⟩
    repeat walk_at "rd"
    refine w_ai ?_
    repeat walk_at "rd"
    refine ⟨x, CE, [v], rfl, by show 1 ≤ 1000; decide, T.a_Thrown, hx, ?_⟩
    repeat walk_at "rd"
    refine w_ast ?_
    repeat walk_at "rd"
    refine ⟨x, CE, rfl, T.a_Thrown, T.xn_value, .inl ⟨hx, fun d hd hda => ?_⟩⟩
    repeat walk_at "rd"
    refine w_ast ?_
    repeat walk_at "rd"
    refine ⟨x, CE, rfl, T.a_Thrown, T.xn_level, .inr ⟨d, _, by rw [upd_ne (Ne.symm hda), upd_same], upd_same, by show 1 ≤ 900; decide, ?_⟩⟩
    exact q d hd hda
section
variable {P : Program} {w : World} {K : PySem.W.Frag} {mg : Str → Option Value} {base : Heap} {CF CT CN CZ : Addr}
theorem kn_Table1 (T : AllN K mg CF CT CN CZ) (k : Kn P w K mg base CX0 1 "power_for" ["count"] spPow) : KnCD P w K mg base CX0 2 "Table" CT ["self", "number", "array", "nodes", "meta"] [.int 0, .int 0, .non] (spTab CF CT CN) := by
  obtain ⟨f, fd, M, F⟩ := T.x_Table
  obtain ⟨ds, hv, hb⟩ := F.binds (ps := ["self", "number", "array", "nodes", "meta"]) 2 0 (by simp) (by decide)
    (fun TT D doc pm an cdv ct us its ks h1 h2 h3 => match us, its, ks, h1, h2, h3 with
      | [a, b], [c, d], [e], _, _, _ => ⟨_, rfl, _, _, _, _, _, _, rfl, rfl, rfl⟩) (by simp)
  exact ⟨f, fd, ds, T.g_Table, M, hv, hb, ok_Table T k F⟩
theorem ok_all {CG CW CE C1 C2 C3 P1 P2 P3 : Addr} (T : AllV K mg CF CT CN CZ CG CW CE C1 C2 C3 P1 P2 P3) (TB : LamX.TabB base mg C1 P1) (TB2 : LamX.TabB base mg C2 P2) (TB3 : LamX.TabB base mg C3 P3) (kT : KnTh P w K mg base CE) {f : Addr} {fd : FuncData} (F : Fun K "law" "law" s_law f fd) : FnOk P w K mg base CX0 20 f fd ["script"] (spLaw K P1 P2 P3) := by
  have N := T.toAllN
  have A := T.toAll
  have W := T.toAllW
  have M := T.toAllM
  have k1 := ok_is_plain (P := P) (w := w) (base := base) A
  have k8 := ok_is_finite (P := P) (w := w) (base := base) A
  have k9 := ok_ratio (P := P) (w := w) (base := base) A
  have k10 := ok_is_number (P := P) (w := w) (base := base) A k1
  have k12 := ok_place (P := P) (w := w) (base := base) A k8 k9
  have k13 := ok_order (P := P) (w := w) (base := base) A k12
  have k15 := ok_same (P := P) (w := w) (base := base) T.toAllT k10 k13
  have s0 := ok_whole_of (P := P) (w := w) (base := base) N k8 k9
  have s00 := ok_float_sum (P := P) (w := w) (base := base) N k8
  have s1 := ok_sum_of (P := P) (w := w) (base := base) N
  have s2 := ok_pot (P := P) (w := w) (base := base) N s1 s00
  have s3 := ok_plain_key (P := P) (w := w) (base := base) N s0
  have s4 := ok_is_nan (P := P) (w := w) (base := base) N
  have s5 := ok_is_whole (P := P) (w := w) (base := base) N
  have s6 := ok_power_for (P := P) (w := w) (base := base) N
  have s7 := ok_best_size (P := P) (w := w) (base := base) N
  have s8 := ok_Node (P := P) (w := w) (base := base) N
  have t1 := ok_is_inside (P := P) (w := w) (base := base) N s5
  have t2 := ok_free_place (P := P) (w := w) (base := base) N
  have t3 := ok_find (P := P) (w := w) (base := base) N s2 k15
  have t4 := ok_ahead_of (P := P) (w := w) (base := base) N s2
  have t5 := ok_get (P := P) (w := w) (base := base) N s3 s4 t1 t3
  have u1 := ok_put_new (P := P) (w := w) (base := base) N s2 s8 t2 t4
  have u2 := ok_put (P := P) (w := w) (base := base) N s3 s4 t1 t3 u1
  have u3 := ok_resize (P := P) (w := w) (base := base) N s6 u2
  have u4 := ok_grow (P := P) (w := w) (base := base) N s5 s7 u3
  have u5 := ok_put_newG (P := P) (w := w) (base := base) N s2 s8 t2 t4 u4 u2
  have u6 : KnM P w K mg base CX0 10 CT "put" ["self", "key", "value"] (spPutG CF CT CN) := T.x_put.kn fun f fd F => fn_putG N s3 s4 t1 t3 u5 F
  have kt := kn_Table1 (P := P) (w := w) (base := base) N s6
  have e1 := ok_kwT (P := P) (w := w) (base := base) W
  have e2 := ok_kwZ (P := P) (w := w) (base := base) W
  have e3 := ok_kind_name (P := P) (w := w) (base := base) W e1 e2
  have e4 := ok_is_function (P := P) (w := w) (base := base) W
  have e5 := ok_meta_of (P := P) (w := w) (base := base) W t5
  have e6 := ok_told_meta (P := P) (w := w) (base := base) W t5
  have e7 := ok_is_closable (P := P) (w := w) (base := base) W e5
  have e8 := ok_set_meta (P := P) (w := w) (base := base) W e5
  have e9 := ok_set_metaX (P := P) (w := w) (base := base) W kT e5
  have e10 := ok_call_target (P := P) (w := w) (base := base) W kT e5 e4 e3
  have m1 := ok_cell (P := P) (w := w) (base := base) M
  have m2 := ok_well (P := P) (w := w) (base := base) M
  have m3 := ok_draw (P := P) (w := w) (base := base) M
  have m4 := ok_one (P := P) (w := w) (base := base) M m3
  have m5 := ok_Native (P := P) (w := w) (base := base) M
  have m6 := ok_with (P := P) (w := w) (base := base) M kt u6 e8
  have l1 := ok_ring (P := P) (w := w) (base := base) T.toAllX TB2 kt m6 e10
  have l2 := ok_clos (P := P) (w := w) (base := base) T.toAllX kt m5 m4 e7 e5 e6 m6
  have l3 := ok_prot (P := P) (w := w) (base := base) T.toAllX TB3 kt u6 m4 e5 e6 e8 e9 m6
  have l4 := ok_called (P := P) (w := w) (base := base) T.toAllX TB kt m5 m3 m4 e3 e10 m6
  exact ok_law T l1 m1 m2 l4 l3 l2 F
end
theorem fin_mk {l : PySem.W.OpenLaw} {w : World} {K : PySem.W.Frag} {h : Heap} {mg : Str → Option Value} {fa : Addr} (X : K.In h) (G : h.Ns mainGlobals mg) (hfa : mg "law" = some (.ref fa))
    {t_LOW_HALF : Tok}
    {t_LEAST : Tok}
    {t_MOST : Tok}
    {t_ROOM : Tok}
    {t_LOWEST : Tok}
    {t_TOO_GREAT : Tok}
    {t_MOST_PLACE : Tok}
    {t_MOST_CALLED : Tok}
    {CF : Addr}
    {CT : Addr}
    {CN : Addr}
    {CZ : Addr}
    {f1 : Addr} {od1 an1 : Option Addr} {sl1 : Array (Option Value)} {oc1 dc1 pm1 cd1 ct1 kV1 : Value}
    {f2 : Addr} {od2 an2 : Option Addr} {sl2 : Array (Option Value)} {oc2 dc2 pm2 cd2 ct2 kV2 : Value}
    {f3 : Addr} {od3 an3 : Option Addr} {sl3 : Array (Option Value)} {oc3 dc3 pm3 cd3 ct3 kV3 : Value}
    {f4 : Addr} {od4 an4 : Option Addr} {sl4 : Array (Option Value)} {oc4 dc4 pm4 cd4 ct4 kV4 : Value}
    {f5 : Addr} {od5 an5 : Option Addr} {sl5 : Array (Option Value)} {oc5 dc5 pm5 cd5 ct5 kV5 : Value}
    {f6 : Addr} {od6 an6 : Option Addr} {sl6 : Array (Option Value)} {oc6 dc6 pm6 cd6 ct6 kV6 : Value}
    {f7 : Addr} {od7 an7 : Option Addr} {sl7 : Array (Option Value)} {oc7 dc7 pm7 cd7 ct7 kV7 : Value}
    {f8 : Addr} {od8 an8 : Option Addr} {sl8 : Array (Option Value)} {oc8 dc8 pm8 cd8 ct8 kV8 : Value}
    {f9 : Addr} {od9 an9 : Option Addr} {sl9 : Array (Option Value)} {oc9 dc9 pm9 cd9 ct9 kV9 : Value}
    {f10 : Addr} {od10 an10 : Option Addr} {sl10 : Array (Option Value)} {oc10 dc10 pm10 cd10 ct10 kV10 : Value}
    {f11 : Addr} {od11 an11 : Option Addr} {sl11 : Array (Option Value)} {oc11 dc11 pm11 cd11 ct11 kV11 : Value}
    {f12 : Addr} {od12 an12 : Option Addr} {sl12 : Array (Option Value)} {oc12 dc12 pm12 cd12 ct12 kV12 : Value}
    {f13 : Addr} {od13 an13 : Option Addr} {sl13 : Array (Option Value)} {oc13 dc13 pm13 cd13 ct13 kV13 : Value}
    {f14 : Addr} {od14 an14 : Option Addr} {sl14 : Array (Option Value)} {oc14 dc14 pm14 cd14 ct14 kV14 : Value}
    {f15 : Addr} {od15 an15 : Option Addr} {sl15 : Array (Option Value)} {oc15 dc15 pm15 cd15 ct15 kV15 : Value}
    {f16 : Addr} {od16 an16 : Option Addr} {sl16 : Array (Option Value)} {oc16 dc16 pm16 cd16 ct16 kV16 : Value}
    {f17 : Addr} {od17 an17 : Option Addr} {sl17 : Array (Option Value)} {oc17 dc17 pm17 cd17 ct17 kV17 : Value}
    {f18 : Addr} {od18 an18 : Option Addr} {sl18 : Array (Option Value)} {oc18 dc18 pm18 cd18 ct18 kV18 : Value}
    {f19 : Addr} {od19 an19 : Option Addr} {sl19 : Array (Option Value)} {oc19 dc19 pm19 cd19 ct19 kV19 : Value}
    {f20 : Addr} {od20 an20 : Option Addr} {sl20 : Array (Option Value)} {oc20 dc20 pm20 cd20 ct20 kV20 : Value}
    {f21 : Addr} {od21 an21 : Option Addr} {sl21 : Array (Option Value)} {oc21 dc21 pm21 cd21 ct21 kV21 : Value}
    {f22 : Addr} {od22 an22 : Option Addr} {sl22 : Array (Option Value)} {oc22 dc22 pm22 cd22 ct22 kV22 : Value}
    {f23 : Addr} {od23 an23 : Option Addr} {sl23 : Array (Option Value)} {oc23 dc23 pm23 cd23 ct23 kV23 : Value}
    {f24 : Addr} {od24 an24 : Option Addr} {sl24 : Array (Option Value)} {oc24 dc24 pm24 cd24 ct24 kV24 : Value}
    {f25 : Addr} {od25 an25 : Option Addr} {sl25 : Array (Option Value)} {oc25 dc25 pm25 cd25 ct25 kV25 : Value}
    {f26 : Addr} {od26 an26 : Option Addr} {sl26 : Array (Option Value)} {oc26 dc26 pm26 cd26 ct26 kV26 : Value}
    {f27 : Addr} {od27 an27 : Option Addr} {sl27 : Array (Option Value)} {oc27 dc27 pm27 cd27 ct27 kV27 : Value}
    {f28 : Addr} {od28 an28 : Option Addr} {sl28 : Array (Option Value)} {oc28 dc28 pm28 cd28 ct28 kV28 : Value}
    {f29 : Addr} {od29 an29 : Option Addr} {sl29 : Array (Option Value)} {oc29 dc29 pm29 cd29 ct29 kV29 : Value}
    {f30 : Addr} {od30 an30 : Option Addr} {sl30 : Array (Option Value)} {oc30 dc30 pm30 cd30 ct30 kV30 : Value}
    {f31 : Addr} {od31 an31 : Option Addr} {sl31 : Array (Option Value)} {oc31 dc31 pm31 cd31 ct31 kV31 : Value}
    {f32 : Addr} {od32 an32 : Option Addr} {sl32 : Array (Option Value)} {oc32 dc32 pm32 cd32 ct32 kV32 : Value}
    {f33 : Addr} {od33 an33 : Option Addr} {sl33 : Array (Option Value)} {oc33 dc33 pm33 cd33 ct33 kV33 : Value}
    {f34 : Addr} {od34 an34 : Option Addr} {sl34 : Array (Option Value)} {oc34 dc34 pm34 cd34 ct34 kV34 : Value}
    {f35 : Addr} {od35 an35 : Option Addr} {sl35 : Array (Option Value)} {oc35 dc35 pm35 cd35 ct35 kV35 : Value}
    {f36 : Addr} {od36 an36 : Option Addr} {sl36 : Array (Option Value)} {oc36 dc36 pm36 cd36 ct36 kV36 : Value}
    {f37 : Addr} {od37 an37 : Option Addr} {sl37 : Array (Option Value)} {oc37 dc37 pm37 cd37 ct37 kV37 : Value}
    {f38 : Addr} {od38 an38 : Option Addr} {sl38 : Array (Option Value)} {oc38 dc38 pm38 cd38 ct38 kV38 : Value}
    {f39 : Addr} {od39 an39 : Option Addr} {sl39 : Array (Option Value)} {oc39 dc39 pm39 cd39 ct39 kV39 : Value}
    {f40 : Addr} {od40 an40 : Option Addr} {sl40 : Array (Option Value)} {oc40 dc40 pm40 cd40 ct40 kV40 : Value}
    {f41 : Addr} {od41 an41 : Option Addr} {sl41 : Array (Option Value)} {oc41 dc41 pm41 cd41 ct41 kV41 : Value}
    {f42 : Addr} {od42 an42 : Option Addr} {sl42 : Array (Option Value)} {oc42 dc42 pm42 cd42 ct42 kV42 : Value}
    {f43 : Addr} {od43 an43 : Option Addr} {sl43 : Array (Option Value)} {oc43 dc43 pm43 cd43 ct43 kV43 : Value}
    {f44 : Addr} {od44 an44 : Option Addr} {sl44 : Array (Option Value)} {oc44 dc44 pm44 cd44 ct44 kV44 : Value}
    {f45 : Addr} {od45 an45 : Option Addr} {sl45 : Array (Option Value)} {oc45 dc45 pm45 cd45 ct45 kV45 : Value}
    {f46 : Addr} {od46 an46 : Option Addr} {sl46 : Array (Option Value)} {oc46 dc46 pm46 cd46 ct46 kV46 : Value}
    {f47 : Addr} {od47 an47 : Option Addr} {sl47 : Array (Option Value)} {oc47 dc47 pm47 cd47 ct47 kV47 : Value}
    {f48 : Addr} {od48 an48 : Option Addr} {sl48 : Array (Option Value)} {oc48 dc48 pm48 cd48 ct48 kV48 : Value}
    {f49 : Addr} {od49 an49 : Option Addr} {sl49 : Array (Option Value)} {oc49 dc49 pm49 cd49 ct49 kV49 : Value}
    {f50 : Addr} {od50 an50 : Option Addr} {sl50 : Array (Option Value)} {oc50 dc50 pm50 cd50 ct50 kV50 : Value}
    {f51 : Addr} {od51 an51 : Option Addr} {sl51 : Array (Option Value)} {oc51 dc51 pm51 cd51 ct51 kV51 : Value}
    {f52 : Addr} {od52 an52 : Option Addr} {sl52 : Array (Option Value)} {oc52 dc52 pm52 cd52 ct52 kV52 : Value}
    {f53 : Addr} {od53 an53 : Option Addr} {sl53 : Array (Option Value)} {oc53 dc53 pm53 cd53 ct53 kV53 : Value}
    {f54 : Addr} {od54 an54 : Option Addr} {sl54 : Array (Option Value)} {oc54 dc54 pm54 cd54 ct54 kV54 : Value}
    {f55 : Addr} {od55 an55 : Option Addr} {sl55 : Array (Option Value)} {oc55 dc55 pm55 cd55 ct55 kV55 : Value}
    {f99 : Addr} {od99 an99 : Option Addr} {sl99 : Array (Option Value)} {oc99 dc99 pm99 cd99 ct99 : Value} {TD KD : Addr} {ocD : Value} {odD : Option Addr} {slD : Array (Option Value)} {tD1 tD2 : Tok} {nD : Nat}
    
    
    
    
    {CG : Addr}
    {CW : Addr}
    
    
    
    
    
    
    
    
    
    
    
    
    
    
    
    
    
    
    
    
    
    
    
    
    {CE : Addr} {f98 : Addr} {od98 an98 : Option Addr} {sl98 : Array (Option Value)} {oc98 dc98 pm98 cd98 ct98 kV98 : Value} {TE : Addr} {ocE : Value} {odE : Option Addr} {slE : Array (Option Value)} {tE1 : Tok} {nE : Nat}
    
    
    
    
    
    
    
    {C1 P1 : Addr} {eC97 : Value} {ddC97 : Option Addr} {vsC97 : Array Value} {slC97 : Array (Option Value)} {f97 : Addr} {od97 an97 : Option Addr} {sl97 : Array (Option Value)} {oc97 dc97 pm97 ct97 kV97 : Value}
    {C2 P2 : Addr} {eC96 : Value} {ddC96 : Option Addr} {vsC96 : Array Value} {slC96 : Array (Option Value)} {f96 : Addr} {od96 an96 : Option Addr} {sl96 : Array (Option Value)} {oc96 dc96 pm96 ct96 kV96 : Value}
    {C3 P3 : Addr} {eC95 : Value} {ddC95 : Option Addr} {vsC95 : Array Value} {slC95 : Array (Option Value)} {f95 : Addr} {od95 an95 : Option Addr} {sl95 : Array (Option Value)} {oc95 dc95 pm95 ct95 kV95 : Value}
    
    
    
    
    
    
    (b_isinstance : PySem.W.nsIn K mainGlobals "isinstance" = some none)
    (b_int : PySem.W.nsIn K mainGlobals "int" = some none)
    (b_str : PySem.W.nsIn K mainGlobals "str" = some none)
    (b_bool : PySem.W.nsIn K mainGlobals "bool" = some none)
    (b_abs : PySem.W.nsIn K mainGlobals "abs" = some none)
    (b_max : PySem.W.nsIn K mainGlobals "max" = some none)
    (b_min : PySem.W.nsIn K mainGlobals "min" = some none)
    (b_divmod : PySem.W.nsIn K mainGlobals "divmod" = some none)
    (b_len : PySem.W.nsIn K mainGlobals "len" = some none)
    (b_range : PySem.W.nsIn K mainGlobals "range" = some none)
    (b_enumerate : PySem.W.nsIn K mainGlobals "enumerate" = some none)
    (b_ord : PySem.W.nsIn K mainGlobals "ord" = some none)
    (b_list : PySem.W.nsIn K mainGlobals "list" = some none)
    (c_LOW_HALF : PySem.W.nsIn K mainGlobals "LOW_HALF" = some (some (.int (2147483647) t_LOW_HALF)))
    (c_LEAST : PySem.W.nsIn K mainGlobals "LEAST" = some (some (.int (-9223372036854775808) t_LEAST)))
    (c_MOST : PySem.W.nsIn K mainGlobals "MOST" = some (some (.int (9223372036854775807) t_MOST)))
    (c_ROOM : PySem.W.nsIn K mainGlobals "ROOM" = some (some (.int (9007199254740992) t_ROOM)))
    (c_LOWEST : PySem.W.nsIn K mainGlobals "LOWEST" = some (some (.int (-1074) t_LOWEST)))
    (c_TOO_GREAT : PySem.W.nsIn K mainGlobals "TOO_GREAT" = some (some (.int (1024) t_TOO_GREAT)))
    (c_MOST_PLACE : PySem.W.nsIn K mainGlobals "MOST_PLACE" = some (some (.int (2147483648) t_MOST_PLACE)))
    (c_MOST_CALLED : PySem.W.nsIn K mainGlobals "MOST_CALLED" = some (some (.int (100) t_MOST_CALLED)))
    (g_Float : PySem.W.nsIn K mainGlobals "Float" = some (some (.ref CF)))
    (pg_Float : PySem.W.plainGet K CF Str.empty = true)
    (hd_Float : PySem.W.hasDictIn K CF = true)
    (po_Float : PySem.W.plainOver K CF = true)
    (sa_Float : PySem.W.findIn K (.ref CF) "__setattr__" = some (some (.builtin "object.__setattr__")))
    (yc_Float : PySem.W.findIn K (.ref CF) "__class__" = some (some (.builtin "object.__class__")))
    (ym_Float : PySem.W.mroIn K CF (.type "object") = some true)
    (n_sign : PySem.W.findIn K (.ref CF) "sign" = some none)
    (n_top : PySem.W.findIn K (.ref CF) "top" = some none)
    (n_power : PySem.W.findIn K (.ref CF) "power" = some none)
    (i_Fint : PySem.W.kitOne K (.ref CF) (.type "int") = some false)
    (i_Fbool : PySem.W.kitOne K (.ref CF) (.type "bool") = some false)
    (i_Fstr : PySem.W.kitOne K (.ref CF) (.type "str") = some false)
    (i_intF : PySem.W.kitOne K (.type "int") (.ref CF) = some false)
    (i_boolF : PySem.W.kitOne K (.type "bool") (.ref CF) = some false)
    (i_strF : PySem.W.kitOne K (.type "str") (.ref CF) = some false)
    (i_nonF : PySem.W.kitOne K (.type "NoneType") (.ref CF) = some false)
    (mk_Float : PySem.W.makesIn K CF = true)
    (kc_Float : PySem.W.keepIn K (.ref CF) = true)
    (g_Table : PySem.W.nsIn K mainGlobals "Table" = some (some (.ref CT)))
    (pg_Table : PySem.W.plainGet K CT Str.empty = true)
    (hd_Table : PySem.W.hasDictIn K CT = true)
    (po_Table : PySem.W.plainOver K CT = true)
    (sa_Table : PySem.W.findIn K (.ref CT) "__setattr__" = some (some (.builtin "object.__setattr__")))
    (yc_Table : PySem.W.findIn K (.ref CT) "__class__" = some (some (.builtin "object.__class__")))
    (ym_Table : PySem.W.mroIn K CT (.type "object") = some true)
    (n_number : PySem.W.findIn K (.ref CT) "number" = some none)
    (n_meta : PySem.W.findIn K (.ref CT) "meta" = some none)
    (n_array : PySem.W.findIn K (.ref CT) "array" = some none)
    (n_nodes : PySem.W.findIn K (.ref CT) "nodes" = some none)
    (n_free : PySem.W.findIn K (.ref CT) "free" = some none)
    (i_Tint : PySem.W.kitOne K (.ref CT) (.type "int") = some false)
    (i_Tbool : PySem.W.kitOne K (.ref CT) (.type "bool") = some false)
    (i_Tstr : PySem.W.kitOne K (.ref CT) (.type "str") = some false)
    (i_TF : PySem.W.kitOne K (.ref CT) (.ref CF) = some false)
    (mk_Table : PySem.W.makesIn K CT = true)
    (kc_Table : PySem.W.keepIn K (.ref CT) = true)
    (g_Node : PySem.W.nsIn K mainGlobals "Node" = some (some (.ref CN)))
    (pg_Node : PySem.W.plainGet K CN Str.empty = true)
    (hd_Node : PySem.W.hasDictIn K CN = true)
    (po_Node : PySem.W.plainOver K CN = true)
    (sa_Node : PySem.W.findIn K (.ref CN) "__setattr__" = some (some (.builtin "object.__setattr__")))
    (yc_Node : PySem.W.findIn K (.ref CN) "__class__" = some (some (.builtin "object.__class__")))
    (ym_Node : PySem.W.mroIn K CN (.type "object") = some true)
    (n_key : PySem.W.findIn K (.ref CN) "key" = some none)
    (n_value : PySem.W.findIn K (.ref CN) "value" = some none)
    (n_link : PySem.W.findIn K (.ref CN) "link" = some none)
    (n_is_dead : PySem.W.findIn K (.ref CN) "is_dead" = some none)
    (mk_Node : PySem.W.makesIn K CN = true)
    (kc_Node : PySem.W.keepIn K (.ref CN) = true)
    (g_Native : PySem.W.nsIn K mainGlobals "Native" = some (some (.ref CZ)))
    (pg_Native : PySem.W.plainGet K CZ Str.empty = true)
    (hd_Native : PySem.W.hasDictIn K CZ = true)
    (po_Native : PySem.W.plainOver K CZ = true)
    (sa_Native : PySem.W.findIn K (.ref CZ) "__setattr__" = some (some (.builtin "object.__setattr__")))
    (yc_Native : PySem.W.findIn K (.ref CZ) "__class__" = some (some (.builtin "object.__class__")))
    (ym_Native : PySem.W.mroIn K CZ (.type "object") = some true)
    (n_name : PySem.W.findIn K (.ref CZ) "name" = some none)
    (n_act : PySem.W.findIn K (.ref CZ) "act" = some none)
    (mk_Native : PySem.W.makesIn K CZ = true)
    (kc_Native : PySem.W.keepIn K (.ref CZ) = true)
    (y_spec : PySem.W.specialIn K (.builtin "object.__class__") "__get__" = some (some (.builtin "getset_descriptor.__get__")))
    (y_takes : PySem.W.takesIn K (.builtin "object.__class__") = some true)
    (a1 : PySem.W.findIn K (.ref CF) "__init__" = some (some (.ref f1)))
    (l1 : K.lookup f1 = some ⟨oc1, od1, .func (PySem.W.fnOf "__init__" "Float.__init__" (defArgs s_Float_init) (defBody s_Float_init) (defScope s_Float_init) .none kV1 dc1 pm1 an1 cd1 ct1), sl1⟩)
    (c1 : PySem.W.codeIn K cd1 "Float.__init__" = true)
    (k1 : PySem.W.keepIn K (.ref f1) = true)
    (i1 : PySem.W.isFn K (.ref f1) = true)
    (a2 : PySem.W.findIn K (.ref CN) "__init__" = some (some (.ref f2)))
    (l2 : K.lookup f2 = some ⟨oc2, od2, .func (PySem.W.fnOf "__init__" "Node.__init__" (defArgs s_Node_init) (defBody s_Node_init) (defScope s_Node_init) .none kV2 dc2 pm2 an2 cd2 ct2), sl2⟩)
    (c2 : PySem.W.codeIn K cd2 "Node.__init__" = true)
    (k2 : PySem.W.keepIn K (.ref f2) = true)
    (i2 : PySem.W.isFn K (.ref f2) = true)
    (a3 : PySem.W.findIn K (.ref CZ) "__init__" = some (some (.ref f3)))
    (l3 : K.lookup f3 = some ⟨oc3, od3, .func (PySem.W.fnOf "__init__" "Native.__init__" (defArgs s_Native_init) (defBody s_Native_init) (defScope s_Native_init) .none kV3 dc3 pm3 an3 cd3 ct3), sl3⟩)
    (c3 : PySem.W.codeIn K cd3 "Native.__init__" = true)
    (k3 : PySem.W.keepIn K (.ref f3) = true)
    (i3 : PySem.W.isFn K (.ref f3) = true)
    (a4 : PySem.W.findIn K (.ref CF) "is_finite" = some (some (.ref f4)))
    (l4 : K.lookup f4 = some ⟨oc4, od4, .func (PySem.W.fnOf "is_finite" "Float.is_finite" (defArgs s_Float_is_finite) (defBody s_Float_is_finite) (defScope s_Float_is_finite) .none kV4 dc4 pm4 an4 cd4 ct4), sl4⟩)
    (c4 : PySem.W.codeIn K cd4 "Float.is_finite" = true)
    (k4 : PySem.W.keepIn K (.ref f4) = true)
    (i4 : PySem.W.isFn K (.ref f4) = true)
    (a5 : PySem.W.findIn K (.ref CF) "ratio" = some (some (.ref f5)))
    (l5 : K.lookup f5 = some ⟨oc5, od5, .func (PySem.W.fnOf "ratio" "Float.ratio" (defArgs s_Float_ratio) (defBody s_Float_ratio) (defScope s_Float_ratio) .none kV5 dc5 pm5 an5 cd5 ct5), sl5⟩)
    (c5 : PySem.W.codeIn K cd5 "Float.ratio" = true)
    (k5 : PySem.W.keepIn K (.ref f5) = true)
    (i5 : PySem.W.isFn K (.ref f5) = true)
    (a6 : PySem.W.findIn K (.ref CT) "kind_word" = some (some (.ref f6)))
    (l6 : K.lookup f6 = some ⟨oc6, od6, .func (PySem.W.fnOf "kind_word" "Table.kind_word" (defArgs s_Table_kind_word) (defBody s_Table_kind_word) (defScope s_Table_kind_word) .none kV6 dc6 pm6 an6 cd6 ct6), sl6⟩)
    (c6 : PySem.W.codeIn K cd6 "Table.kind_word" = true)
    (k6 : PySem.W.keepIn K (.ref f6) = true)
    (i6 : PySem.W.isFn K (.ref f6) = true)
    (a7 : PySem.W.findIn K (.ref CZ) "kind_word" = some (some (.ref f7)))
    (l7 : K.lookup f7 = some ⟨oc7, od7, .func (PySem.W.fnOf "kind_word" "Native.kind_word" (defArgs s_Native_kind_word) (defBody s_Native_kind_word) (defScope s_Native_kind_word) .none kV7 dc7 pm7 an7 cd7 ct7), sl7⟩)
    (c7 : PySem.W.codeIn K cd7 "Native.kind_word" = true)
    (k7 : PySem.W.keepIn K (.ref f7) = true)
    (i7 : PySem.W.isFn K (.ref f7) = true)
    (a8 : PySem.W.findIn K (.ref CT) "find" = some (some (.ref f8)))
    (l8 : K.lookup f8 = some ⟨oc8, od8, .func (PySem.W.fnOf "find" "Table.find" (defArgs s_Table_find) (defBody s_Table_find) (defScope s_Table_find) .none kV8 dc8 pm8 an8 cd8 ct8), sl8⟩)
    (c8 : PySem.W.codeIn K cd8 "Table.find" = true)
    (k8 : PySem.W.keepIn K (.ref f8) = true)
    (i8 : PySem.W.isFn K (.ref f8) = true)
    (a9 : PySem.W.findIn K (.ref CT) "is_inside" = some (some (.ref f9)))
    (l9 : K.lookup f9 = some ⟨oc9, od9, .func (PySem.W.fnOf "is_inside" "Table.is_inside" (defArgs s_Table_is_inside) (defBody s_Table_is_inside) (defScope s_Table_is_inside) .none kV9 dc9 pm9 an9 cd9 ct9), sl9⟩)
    (c9 : PySem.W.codeIn K cd9 "Table.is_inside" = true)
    (k9 : PySem.W.keepIn K (.ref f9) = true)
    (i9 : PySem.W.isFn K (.ref f9) = true)
    (a10 : PySem.W.findIn K (.ref CT) "get" = some (some (.ref f10)))
    (l10 : K.lookup f10 = some ⟨oc10, od10, .func (PySem.W.fnOf "get" "Table.get" (defArgs s_Table_get) (defBody s_Table_get) (defScope s_Table_get) .none kV10 dc10 pm10 an10 cd10 ct10), sl10⟩)
    (c10 : PySem.W.codeIn K cd10 "Table.get" = true)
    (k10 : PySem.W.keepIn K (.ref f10) = true)
    (i10 : PySem.W.isFn K (.ref f10) = true)
    (a11 : PySem.W.findIn K (.ref CT) "put" = some (some (.ref f11)))
    (l11 : K.lookup f11 = some ⟨oc11, od11, .func (PySem.W.fnOf "put" "Table.put" (defArgs s_Table_put) (defBody s_Table_put) (defScope s_Table_put) .none kV11 dc11 pm11 an11 cd11 ct11), sl11⟩)
    (c11 : PySem.W.codeIn K cd11 "Table.put" = true)
    (k11 : PySem.W.keepIn K (.ref f11) = true)
    (i11 : PySem.W.isFn K (.ref f11) = true)
    (a12 : PySem.W.findIn K (.ref CT) "put_new" = some (some (.ref f12)))
    (l12 : K.lookup f12 = some ⟨oc12, od12, .func (PySem.W.fnOf "put_new" "Table.put_new" (defArgs s_Table_put_new) (defBody s_Table_put_new) (defScope s_Table_put_new) .none kV12 dc12 pm12 an12 cd12 ct12), sl12⟩)
    (c12 : PySem.W.codeIn K cd12 "Table.put_new" = true)
    (k12 : PySem.W.keepIn K (.ref f12) = true)
    (i12 : PySem.W.isFn K (.ref f12) = true)
    (a13 : PySem.W.findIn K (.ref CT) "ahead_of" = some (some (.ref f13)))
    (l13 : K.lookup f13 = some ⟨oc13, od13, .func (PySem.W.fnOf "ahead_of" "Table.ahead_of" (defArgs s_Table_ahead_of) (defBody s_Table_ahead_of) (defScope s_Table_ahead_of) .none kV13 dc13 pm13 an13 cd13 ct13), sl13⟩)
    (c13 : PySem.W.codeIn K cd13 "Table.ahead_of" = true)
    (k13 : PySem.W.keepIn K (.ref f13) = true)
    (i13 : PySem.W.isFn K (.ref f13) = true)
    (a14 : PySem.W.findIn K (.ref CT) "free_place" = some (some (.ref f14)))
    (l14 : K.lookup f14 = some ⟨oc14, od14, .func (PySem.W.fnOf "free_place" "Table.free_place" (defArgs s_Table_free_place) (defBody s_Table_free_place) (defScope s_Table_free_place) .none kV14 dc14 pm14 an14 cd14 ct14), sl14⟩)
    (c14 : PySem.W.codeIn K cd14 "Table.free_place" = true)
    (k14 : PySem.W.keepIn K (.ref f14) = true)
    (i14 : PySem.W.isFn K (.ref f14) = true)
    (a15 : PySem.W.findIn K (.ref CT) "grow" = some (some (.ref f15)))
    (l15 : K.lookup f15 = some ⟨oc15, od15, .func (PySem.W.fnOf "grow" "Table.grow" (defArgs s_Table_grow) (defBody s_Table_grow) (defScope s_Table_grow) .none kV15 dc15 pm15 an15 cd15 ct15), sl15⟩)
    (c15 : PySem.W.codeIn K cd15 "Table.grow" = true)
    (k15 : PySem.W.keepIn K (.ref f15) = true)
    (i15 : PySem.W.isFn K (.ref f15) = true)
    (a16 : PySem.W.findIn K (.ref CT) "resize" = some (some (.ref f16)))
    (l16 : K.lookup f16 = some ⟨oc16, od16, .func (PySem.W.fnOf "resize" "Table.resize" (defArgs s_Table_resize) (defBody s_Table_resize) (defScope s_Table_resize) .none kV16 dc16 pm16 an16 cd16 ct16), sl16⟩)
    (c16 : PySem.W.codeIn K cd16 "Table.resize" = true)
    (k16 : PySem.W.keepIn K (.ref f16) = true)
    (i16 : PySem.W.isFn K (.ref f16) = true)
    (a17 : PySem.W.findIn K (.ref CT) "make_room" = some (some (.ref f17)))
    (l17 : K.lookup f17 = some ⟨oc17, od17, .func (PySem.W.fnOf "make_room" "Table.make_room" (defArgs s_Table_make_room) (defBody s_Table_make_room) (defScope s_Table_make_room) .none kV17 dc17 pm17 an17 cd17 ct17), sl17⟩)
    (c17 : PySem.W.codeIn K cd17 "Table.make_room" = true)
    (k17 : PySem.W.keepIn K (.ref f17) = true)
    (i17 : PySem.W.isFn K (.ref f17) = true)
    (a18 : PySem.W.findIn K (.ref CT) "border" = some (some (.ref f18)))
    (l18 : K.lookup f18 = some ⟨oc18, od18, .func (PySem.W.fnOf "border" "Table.border" (defArgs s_Table_border) (defBody s_Table_border) (defScope s_Table_border) .none kV18 dc18 pm18 an18 cd18 ct18), sl18⟩)
    (c18 : PySem.W.codeIn K cd18 "Table.border" = true)
    (k18 : PySem.W.keepIn K (.ref f18) = true)
    (i18 : PySem.W.isFn K (.ref f18) = true)
    (a19 : PySem.W.findIn K (.ref CT) "border_beyond" = some (some (.ref f19)))
    (l19 : K.lookup f19 = some ⟨oc19, od19, .func (PySem.W.fnOf "border_beyond" "Table.border_beyond" (defArgs s_Table_border_beyond) (defBody s_Table_border_beyond) (defScope s_Table_border_beyond) .none kV19 dc19 pm19 an19 cd19 ct19), sl19⟩)
    (c19 : PySem.W.codeIn K cd19 "Table.border_beyond" = true)
    (k19 : PySem.W.keepIn K (.ref f19) = true)
    (i19 : PySem.W.isFn K (.ref f19) = true)
    (a20 : PySem.W.findIn K (.ref CT) "between" = some (some (.ref f20)))
    (l20 : K.lookup f20 = some ⟨oc20, od20, .func (PySem.W.fnOf "between" "Table.between" (defArgs s_Table_between) (defBody s_Table_between) (defScope s_Table_between) .none kV20 dc20 pm20 an20 cd20 ct20), sl20⟩)
    (c20 : PySem.W.codeIn K cd20 "Table.between" = true)
    (k20 : PySem.W.keepIn K (.ref f20) = true)
    (i20 : PySem.W.isFn K (.ref f20) = true)
    (a21 : PySem.W.findIn K (.ref CT) "index_of" = some (some (.ref f21)))
    (l21 : K.lookup f21 = some ⟨oc21, od21, .func (PySem.W.fnOf "index_of" "Table.index_of" (defArgs s_Table_index_of) (defBody s_Table_index_of) (defScope s_Table_index_of) .none kV21 dc21 pm21 an21 cd21 ct21), sl21⟩)
    (c21 : PySem.W.codeIn K cd21 "Table.index_of" = true)
    (k21 : PySem.W.keepIn K (.ref f21) = true)
    (i21 : PySem.W.isFn K (.ref f21) = true)
    (a22 : PySem.W.findIn K (.ref CT) "next_after" = some (some (.ref f22)))
    (l22 : K.lookup f22 = some ⟨oc22, od22, .func (PySem.W.fnOf "next_after" "Table.next_after" (defArgs s_Table_next_after) (defBody s_Table_next_after) (defScope s_Table_next_after) .none kV22 dc22 pm22 an22 cd22 ct22), sl22⟩)
    (c22 : PySem.W.codeIn K cd22 "Table.next_after" = true)
    (k22 : PySem.W.keepIn K (.ref f22) = true)
    (i22 : PySem.W.isFn K (.ref f22) = true)
    (a23 : PySem.W.findIn K (.ref CT) "room" = some (some (.ref f23)))
    (l23 : K.lookup f23 = some ⟨oc23, od23, .func (PySem.W.fnOf "room" "Table.room" (defArgs s_Table_room) (defBody s_Table_room) (defScope s_Table_room) .none kV23 dc23 pm23 an23 cd23 ct23), sl23⟩)
    (c23 : PySem.W.codeIn K cd23 "Table.room" = true)
    (k23 : PySem.W.keepIn K (.ref f23) = true)
    (i23 : PySem.W.isFn K (.ref f23) = true)
    (a24 : PySem.W.findIn K (.ref CT) "rows" = some (some (.ref f24)))
    (l24 : K.lookup f24 = some ⟨oc24, od24, .func (PySem.W.fnOf "rows" "Table.rows" (defArgs s_Table_rows) (defBody s_Table_rows) (defScope s_Table_rows) .none kV24 dc24 pm24 an24 cd24 ct24), sl24⟩)
    (c24 : PySem.W.codeIn K cd24 "Table.rows" = true)
    (k24 : PySem.W.keepIn K (.ref f24) = true)
    (i24 : PySem.W.isFn K (.ref f24) = true)
    (a25 : PySem.W.nsIn K mainGlobals "is_plain" = some (some (.ref f25)))
    (l25 : K.lookup f25 = some ⟨oc25, od25, .func (PySem.W.fnOf "is_plain" "is_plain" (defArgs s_is_plain) (defBody s_is_plain) (defScope s_is_plain) .none kV25 dc25 pm25 an25 cd25 ct25), sl25⟩)
    (c25 : PySem.W.codeIn K cd25 "is_plain" = true)
    (k25 : PySem.W.keepIn K (.ref f25) = true)
    (a26 : PySem.W.nsIn K mainGlobals "reduced" = some (some (.ref f26)))
    (l26 : K.lookup f26 = some ⟨oc26, od26, .func (PySem.W.fnOf "reduced" "reduced" (defArgs s_reduced) (defBody s_reduced) (defScope s_reduced) .none kV26 dc26 pm26 an26 cd26 ct26), sl26⟩)
    (c26 : PySem.W.codeIn K cd26 "reduced" = true)
    (k26 : PySem.W.keepIn K (.ref f26) = true)
    (a27 : PySem.W.nsIn K mainGlobals "fits" = some (some (.ref f27)))
    (l27 : K.lookup f27 = some ⟨oc27, od27, .func (PySem.W.fnOf "fits" "fits" (defArgs s_fits) (defBody s_fits) (defScope s_fits) .none kV27 dc27 pm27 an27 cd27 ct27), sl27⟩)
    (c27 : PySem.W.codeIn K cd27 "fits" = true)
    (k27 : PySem.W.keepIn K (.ref f27) = true)
    (a28 : PySem.W.nsIn K mainGlobals "is_number" = some (some (.ref f28)))
    (l28 : K.lookup f28 = some ⟨oc28, od28, .func (PySem.W.fnOf "is_number" "is_number" (defArgs s_is_number) (defBody s_is_number) (defScope s_is_number) .none kV28 dc28 pm28 an28 cd28 ct28), sl28⟩)
    (c28 : PySem.W.codeIn K cd28 "is_number" = true)
    (k28 : PySem.W.keepIn K (.ref f28) = true)
    (a29 : PySem.W.nsIn K mainGlobals "place_of_numbers" = some (some (.ref f29)))
    (l29 : K.lookup f29 = some ⟨oc29, od29, .func (PySem.W.fnOf "place_of" "place_of" (defArgs s_place_of_numbers) (defBody s_place_of_numbers) (defScope s_place_of_numbers) .none kV29 dc29 pm29 an29 cd29 ct29), sl29⟩)
    (c29 : PySem.W.codeIn K cd29 "place_of" = true)
    (k29 : PySem.W.keepIn K (.ref f29) = true)
    (a30 : PySem.W.nsIn K mainGlobals "order_of" = some (some (.ref f30)))
    (l30 : K.lookup f30 = some ⟨oc30, od30, .func (PySem.W.fnOf "order_of" "order_of" (defArgs s_order_of) (defBody s_order_of) (defScope s_order_of) .none kV30 dc30 pm30 an30 cd30 ct30), sl30⟩)
    (c30 : PySem.W.codeIn K cd30 "order_of" = true)
    (k30 : PySem.W.keepIn K (.ref f30) = true)
    (a31 : PySem.W.nsIn K mainGlobals "same" = some (some (.ref f31)))
    (l31 : K.lookup f31 = some ⟨oc31, od31, .func (PySem.W.fnOf "same" "same" (defArgs s_same) (defBody s_same) (defScope s_same) .none kV31 dc31 pm31 an31 cd31 ct31), sl31⟩)
    (c31 : PySem.W.codeIn K cd31 "same" = true)
    (k31 : PySem.W.keepIn K (.ref f31) = true)
    (a32 : PySem.W.nsIn K mainGlobals "power_for" = some (some (.ref f32)))
    (l32 : K.lookup f32 = some ⟨oc32, od32, .func (PySem.W.fnOf "power_for" "power_for" (defArgs s_power_for) (defBody s_power_for) (defScope s_power_for) .none kV32 dc32 pm32 an32 cd32 ct32), sl32⟩)
    (c32 : PySem.W.codeIn K cd32 "power_for" = true)
    (k32 : PySem.W.keepIn K (.ref f32) = true)
    (a33 : PySem.W.nsIn K mainGlobals "sum_of" = some (some (.ref f33)))
    (l33 : K.lookup f33 = some ⟨oc33, od33, .func (PySem.W.fnOf "sum_of" "sum_of" (defArgs s_sum_of) (defBody s_sum_of) (defScope s_sum_of) .none kV33 dc33 pm33 an33 cd33 ct33), sl33⟩)
    (c33 : PySem.W.codeIn K cd33 "sum_of" = true)
    (k33 : PySem.W.keepIn K (.ref f33) = true)
    (a34 : PySem.W.nsIn K mainGlobals "place_of_tables" = some (some (.ref f34)))
    (l34 : K.lookup f34 = some ⟨oc34, od34, .func (PySem.W.fnOf "place_of" "place_of" (defArgs s_place_of_tables) (defBody s_place_of_tables) (defScope s_place_of_tables) .none kV34 dc34 pm34 an34 cd34 ct34), sl34⟩)
    (c34 : PySem.W.codeIn K cd34 "place_of" = true)
    (k34 : PySem.W.keepIn K (.ref f34) = true)
    (a35 : PySem.W.nsIn K mainGlobals "plain_key" = some (some (.ref f35)))
    (l35 : K.lookup f35 = some ⟨oc35, od35, .func (PySem.W.fnOf "plain_key" "plain_key" (defArgs s_plain_key) (defBody s_plain_key) (defScope s_plain_key) .none kV35 dc35 pm35 an35 cd35 ct35), sl35⟩)
    (c35 : PySem.W.codeIn K cd35 "plain_key" = true)
    (k35 : PySem.W.keepIn K (.ref f35) = true)
    (a36 : PySem.W.nsIn K mainGlobals "is_nan" = some (some (.ref f36)))
    (l36 : K.lookup f36 = some ⟨oc36, od36, .func (PySem.W.fnOf "is_nan" "is_nan" (defArgs s_is_nan) (defBody s_is_nan) (defScope s_is_nan) .none kV36 dc36 pm36 an36 cd36 ct36), sl36⟩)
    (c36 : PySem.W.codeIn K cd36 "is_nan" = true)
    (k36 : PySem.W.keepIn K (.ref f36) = true)
    (a37 : PySem.W.nsIn K mainGlobals "is_whole" = some (some (.ref f37)))
    (l37 : K.lookup f37 = some ⟨oc37, od37, .func (PySem.W.fnOf "is_whole" "is_whole" (defArgs s_is_whole) (defBody s_is_whole) (defScope s_is_whole) .none kV37 dc37 pm37 an37 cd37 ct37), sl37⟩)
    (c37 : PySem.W.codeIn K cd37 "is_whole" = true)
    (k37 : PySem.W.keepIn K (.ref f37) = true)
    (a38 : PySem.W.nsIn K mainGlobals "best_size" = some (some (.ref f38)))
    (l38 : K.lookup f38 = some ⟨oc38, od38, .func (PySem.W.fnOf "best_size" "best_size" (defArgs s_best_size) (defBody s_best_size) (defScope s_best_size) .none kV38 dc38 pm38 an38 cd38 ct38), sl38⟩)
    (c38 : PySem.W.codeIn K cd38 "best_size" = true)
    (k38 : PySem.W.keepIn K (.ref f38) = true)
    (a39 : PySem.W.nsIn K mainGlobals "whole_of" = some (some (.ref f39)))
    (l39 : K.lookup f39 = some ⟨oc39, od39, .func (PySem.W.fnOf "whole_of" "whole_of" (defArgs s_whole_of) (defBody s_whole_of) (defScope s_whole_of) .none kV39 dc39 pm39 an39 cd39 ct39), sl39⟩)
    (c39 : PySem.W.codeIn K cd39 "whole_of" = true)
    (k39 : PySem.W.keepIn K (.ref f39) = true)
    (a40 : PySem.W.nsIn K mainGlobals "float_sum" = some (some (.ref f40)))
    (l40 : K.lookup f40 = some ⟨oc40, od40, .func (PySem.W.fnOf "float_sum" "float_sum" (defArgs s_float_sum) (defBody s_float_sum) (defScope s_float_sum) .none kV40 dc40 pm40 an40 cd40 ct40), sl40⟩)
    (c40 : PySem.W.codeIn K cd40 "float_sum" = true)
    (k40 : PySem.W.keepIn K (.ref f40) = true)
    (a41 : PySem.W.nsIn K mainGlobals "kind_name" = some (some (.ref f41)))
    (l41 : K.lookup f41 = some ⟨oc41, od41, .func (PySem.W.fnOf "kind_name" "kind_name" (defArgs s_kind_name) (defBody s_kind_name) (defScope s_kind_name) .none kV41 dc41 pm41 an41 cd41 ct41), sl41⟩)
    (c41 : PySem.W.codeIn K cd41 "kind_name" = true)
    (k41 : PySem.W.keepIn K (.ref f41) = true)
    (a42 : PySem.W.nsIn K mainGlobals "is_function" = some (some (.ref f42)))
    (l42 : K.lookup f42 = some ⟨oc42, od42, .func (PySem.W.fnOf "is_function" "is_function" (defArgs s_is_function) (defBody s_is_function) (defScope s_is_function) .none kV42 dc42 pm42 an42 cd42 ct42), sl42⟩)
    (c42 : PySem.W.codeIn K cd42 "is_function" = true)
    (k42 : PySem.W.keepIn K (.ref f42) = true)
    (a43 : PySem.W.nsIn K mainGlobals "meta_of" = some (some (.ref f43)))
    (l43 : K.lookup f43 = some ⟨oc43, od43, .func (PySem.W.fnOf "meta_of" "meta_of" (defArgs s_meta_of) (defBody s_meta_of) (defScope s_meta_of) .none kV43 dc43 pm43 an43 cd43 ct43), sl43⟩)
    (c43 : PySem.W.codeIn K cd43 "meta_of" = true)
    (k43 : PySem.W.keepIn K (.ref f43) = true)
    (a44 : PySem.W.nsIn K mainGlobals "call_target" = some (some (.ref f44)))
    (l44 : K.lookup f44 = some ⟨oc44, od44, .func (PySem.W.fnOf "call_target" "call_target" (defArgs s_call_target) (defBody s_call_target) (defScope s_call_target) .none kV44 dc44 pm44 an44 cd44 ct44), sl44⟩)
    (c44 : PySem.W.codeIn K cd44 "call_target" = true)
    (k44 : PySem.W.keepIn K (.ref f44) = true)
    (a45 : PySem.W.nsIn K mainGlobals "set_meta" = some (some (.ref f45)))
    (l45 : K.lookup f45 = some ⟨oc45, od45, .func (PySem.W.fnOf "set_meta" "set_meta" (defArgs s_set_meta) (defBody s_set_meta) (defScope s_set_meta) .none kV45 dc45 pm45 an45 cd45 ct45), sl45⟩)
    (c45 : PySem.W.codeIn K cd45 "set_meta" = true)
    (k45 : PySem.W.keepIn K (.ref f45) = true)
    (a46 : PySem.W.nsIn K mainGlobals "told_meta" = some (some (.ref f46)))
    (l46 : K.lookup f46 = some ⟨oc46, od46, .func (PySem.W.fnOf "told_meta" "told_meta" (defArgs s_told_meta) (defBody s_told_meta) (defScope s_told_meta) .none kV46 dc46 pm46 an46 cd46 ct46), sl46⟩)
    (c46 : PySem.W.codeIn K cd46 "told_meta" = true)
    (k46 : PySem.W.keepIn K (.ref f46) = true)
    (a47 : PySem.W.nsIn K mainGlobals "is_closable" = some (some (.ref f47)))
    (l47 : K.lookup f47 = some ⟨oc47, od47, .func (PySem.W.fnOf "is_closable" "is_closable" (defArgs s_is_closable) (defBody s_is_closable) (defScope s_is_closable) .none kV47 dc47 pm47 an47 cd47 ct47), sl47⟩)
    (c47 : PySem.W.codeIn K cd47 "is_closable" = true)
    (k47 : PySem.W.keepIn K (.ref f47) = true)
    (a48 : PySem.W.nsIn K mainGlobals "_law_cell_at" = some (some (.ref f48)))
    (l48 : K.lookup f48 = some ⟨oc48, od48, .func (PySem.W.fnOf "_law_cell_at" "_law_cell_at" (defArgs s_law_cell_at) (defBody s_law_cell_at) (defScope s_law_cell_at) .none kV48 dc48 pm48 an48 cd48 ct48), sl48⟩)
    (c48 : PySem.W.codeIn K cd48 "_law_cell_at" = true)
    (k48 : PySem.W.keepIn K (.ref f48) = true)
    (a49 : PySem.W.nsIn K mainGlobals "_law_well" = some (some (.ref f49)))
    (l49 : K.lookup f49 = some ⟨oc49, od49, .func (PySem.W.fnOf "_law_well" "_law_well" (defArgs s_law_well) (defBody s_law_well) (defScope s_law_well) .none kV49 dc49 pm49 an49 cd49 ct49), sl49⟩)
    (c49 : PySem.W.codeIn K cd49 "_law_well" = true)
    (k49 : PySem.W.keepIn K (.ref f49) = true)
    (a50 : PySem.W.nsIn K mainGlobals "_law_draw" = some (some (.ref f50)))
    (l50 : K.lookup f50 = some ⟨oc50, od50, .func (PySem.W.fnOf "_law_draw" "_law_draw" (defArgs s_law_draw) (defBody s_law_draw) (defScope s_law_draw) .none kV50 dc50 pm50 an50 cd50 ct50), sl50⟩)
    (c50 : PySem.W.codeIn K cd50 "_law_draw" = true)
    (k50 : PySem.W.keepIn K (.ref f50) = true)
    (a51 : PySem.W.nsIn K mainGlobals "_law_one" = some (some (.ref f51)))
    (l51 : K.lookup f51 = some ⟨oc51, od51, .func (PySem.W.fnOf "_law_one" "_law_one" (defArgs s_law_one) (defBody s_law_one) (defScope s_law_one) .none kV51 dc51 pm51 an51 cd51 ct51), sl51⟩)
    (c51 : PySem.W.codeIn K cd51 "_law_one" = true)
    (k51 : PySem.W.keepIn K (.ref f51) = true)
    (a52 : PySem.W.nsIn K mainGlobals "_law_with" = some (some (.ref f52)))
    (l52 : K.lookup f52 = some ⟨oc52, od52, .func (PySem.W.fnOf "_law_with" "_law_with" (defArgs s_law_with) (defBody s_law_with) (defScope s_law_with) .none kV52 dc52 pm52 an52 cd52 ct52), sl52⟩)
    (c52 : PySem.W.codeIn K cd52 "_law_with" = true)
    (k52 : PySem.W.keepIn K (.ref f52) = true)
    (a53 : PySem.W.nsIn K mainGlobals "_law_told" = some (some (.ref f53)))
    (l53 : K.lookup f53 = some ⟨oc53, od53, .func (PySem.W.fnOf "_law_told" "_law_told" (defArgs s_law_told) (defBody s_law_told) (defScope s_law_told) .none kV53 dc53 pm53 an53 cd53 ct53), sl53⟩)
    (c53 : PySem.W.codeIn K cd53 "_law_told" = true)
    (k53 : PySem.W.keepIn K (.ref f53) = true)
    (a54 : PySem.W.nsIn K mainGlobals "_law_closable_right" = some (some (.ref f54)))
    (l54 : K.lookup f54 = some ⟨oc54, od54, .func (PySem.W.fnOf "_law_closable_right" "_law_closable_right" (defArgs s_law_closable_right) (defBody s_law_closable_right) (defScope s_law_closable_right) .none kV54 dc54 pm54 an54 cd54 ct54), sl54⟩)
    (c54 : PySem.W.codeIn K cd54 "_law_closable_right" = true)
    (k54 : PySem.W.keepIn K (.ref f54) = true)
    (a55 : PySem.W.nsIn K mainGlobals "law" = some (some (.ref f55)))
    (l55 : K.lookup f55 = some ⟨oc55, od55, .func (PySem.W.fnOf "law" "law" (defArgs s_law) (defBody s_law) (defScope s_law) .none kV55 dc55 pm55 an55 cd55 ct55), sl55⟩)
    (c55 : PySem.W.codeIn K cd55 "law" = true)
    (k55 : PySem.W.keepIn K (.ref f55) = true)
    (a99 : PySem.W.findIn K (.ref CT) "__init__" = some (some (.ref f99)))
    (l99 : K.lookup f99 = some ⟨oc99, od99, .func (PySem.W.fnOf "__init__" "Table.__init__" (defArgs s_Table_init) (defBody s_Table_init) (defScope s_Table_init) (.ref TD) (.ref KD) dc99 pm99 an99 cd99 ct99), sl99⟩)
    (c99 : PySem.W.codeIn K cd99 "Table.__init__" = true)
    (k99 : PySem.W.keepIn K (.ref f99) = true)
    (i99 : PySem.W.isFn K (.ref f99) = true)
    (lD : K.lookup TD = some ⟨ocD, odD, .seq [Value.int 0 tD1, Value.int 0 tD2].toArray nD, slD⟩)
    (kD : PySem.W.nsIn K KD "meta" = some (some .none))
    (o_eq : PySem.W.findIn K (.ref CT) "__eq__" = some (some (.builtin "object.__eq__")))
    (o_sub : PySem.W.subIn K (.ref CT) (.type "NoneType") = some false)
    (ne_TN : ¬ CT = CN)
    (ne_TZ : CT ≠ CZ)
    (ne_NZ : CN ≠ CZ)
    (g_Function : PySem.W.nsIn K mainGlobals "Function" = some (some (.ref CG)))
    (g_Wrapped : PySem.W.nsIn K mainGlobals "Wrapped" = some (some (.ref CW)))
    (i_TG : PySem.W.kitOne K (.ref CT) (.ref CG) = some false)
    (i_TW : PySem.W.kitOne K (.ref CT) (.ref CW) = some false)
    (i_Zint : PySem.W.kitOne K (.ref CZ) (.type "int") = some false)
    (i_Zbool : PySem.W.kitOne K (.ref CZ) (.type "bool") = some false)
    (i_Zstr : PySem.W.kitOne K (.ref CZ) (.type "str") = some false)
    (i_ZT : PySem.W.kitOne K (.ref CZ) (.ref CT) = some false)
    (i_ZG : PySem.W.kitOne K (.ref CZ) (.ref CG) = some false)
    (i_TZ : PySem.W.kitOne K (.ref CT) (.ref CZ) = some false)
    (i_intT : PySem.W.kitOne K (.type "int") (.ref CT) = some false)
    (i_intG : PySem.W.kitOne K (.type "int") (.ref CG) = some false)
    (i_intZ : PySem.W.kitOne K (.type "int") (.ref CZ) = some false)
    (i_intW : PySem.W.kitOne K (.type "int") (.ref CW) = some false)
    (i_boolT : PySem.W.kitOne K (.type "bool") (.ref CT) = some false)
    (i_boolG : PySem.W.kitOne K (.type "bool") (.ref CG) = some false)
    (i_boolZ : PySem.W.kitOne K (.type "bool") (.ref CZ) = some false)
    (i_boolW : PySem.W.kitOne K (.type "bool") (.ref CW) = some false)
    (i_strT : PySem.W.kitOne K (.type "str") (.ref CT) = some false)
    (i_strG : PySem.W.kitOne K (.type "str") (.ref CG) = some false)
    (i_strZ : PySem.W.kitOne K (.type "str") (.ref CZ) = some false)
    (i_strW : PySem.W.kitOne K (.type "str") (.ref CW) = some false)
    (i_nonT : PySem.W.kitOne K (.type "NoneType") (.ref CT) = some false)
    (i_nonG : PySem.W.kitOne K (.type "NoneType") (.ref CG) = some false)
    (i_nonZ : PySem.W.kitOne K (.type "NoneType") (.ref CZ) = some false)
    (i_nonW : PySem.W.kitOne K (.type "NoneType") (.ref CW) = some false)
    (g_Thrown : PySem.W.nsIn K mainGlobals "Thrown" = some (some (.ref CE)))
    (th_made : PySem.W.excInitIn K CE aeMro "ArithmeticError.__new__" = true)
    (th_over : PySem.W.excOver K CE aeMro = true)
    (th_hd : PySem.W.hasDictIn K CE = true)
    (th_sa : PySem.W.findIn K (.ref CE) "__setattr__" = some (some (.builtin "object.__setattr__")))
    (th_ex : PySem.W.subIn K (.ref CE) (.type "BaseException") = some true)
    (th_ty : PySem.W.typeIn K (.ref CE) = some (.type "type"))
    (th_kp : PySem.W.keepIn K (.ref CE) = true)
    (th_ga : PySem.W.findIn K (.ref CE) "__getattribute__" = some (some (.builtin "BaseException.__getattribute__")))
    (th_gg : PySem.W.findIn K (.ref CE) "__getattr__" = some none)
    (xn_value : PySem.W.findIn K (.ref CE) "value" = some none)
    (xn_level : PySem.W.findIn K (.ref CE) "level" = some none)
    (th_ic : PySem.W.isClsIn K CE = true)
    (th_sc : PySem.W.subIn K (.ref CE) (.ref CE) = some true)
    (b_AE : PySem.W.nsIn K mainGlobals "ArithmeticError" = some none)
    (v_AE : PySem.W.findCls K (.type "ArithmeticError") (.type "type") "__init__" = some (.val (.builtin "ArithmeticError.__init__")))
    (a98 : PySem.W.findIn K (.ref CE) "__init__" = some (some (.ref f98)))
    (l98 : K.lookup f98 = some ⟨oc98, od98, .func (PySem.W.fnOf "__init__" "Thrown.__init__" (defArgs s_Thrown_init) (defBody s_Thrown_init) (defScope s_Thrown_init) (.ref TE) kV98 dc98 pm98 an98 cd98 ct98), sl98⟩)
    (c98 : PySem.W.codeIn K cd98 "Thrown.__init__" = true)
    (k98 : PySem.W.keepIn K (.ref f98) = true)
    (i98 : PySem.W.typeIn K (.ref f98) = some (.type "function"))
    (lE : K.lookup TE = some ⟨ocE, odE, .seq [Value.int 1 tE1].toArray nE, slE⟩)
    (a97 : PySem.W.nsIn K mainGlobals "_law_called_right" = some (some (.ref f97)))
    (l97 : K.lookup f97 = some ⟨oc97, od97, .func (PySem.W.fnOf "_law_called_right" "_law_called_right" (defArgs s_law_called_right) (defBody s_law_called_right) (defScope s_law_called_right) .none kV97 dc97 pm97 an97 (.ref C1) ct97), sl97⟩)
    (c97 : PySem.W.codeIn K (.ref C1) "_law_called_right" = true)
    (k97 : PySem.W.keepIn K (.ref f97) = true)
    (lC97 : K.lookup C1 = some ⟨eC97, ddC97, .fields vsC97, slC97⟩)
    (v97 : vsC97[11]? = some (.ref P1))
    (lk97 : K.lookup P1 = none)
    (a96 : PySem.W.nsIn K mainGlobals "_law_ring_right" = some (some (.ref f96)))
    (l96 : K.lookup f96 = some ⟨oc96, od96, .func (PySem.W.fnOf "_law_ring_right" "_law_ring_right" (defArgs s_law_ring_right) (defBody s_law_ring_right) (defScope s_law_ring_right) .none kV96 dc96 pm96 an96 (.ref C2) ct96), sl96⟩)
    (c96 : PySem.W.codeIn K (.ref C2) "_law_ring_right" = true)
    (k96 : PySem.W.keepIn K (.ref f96) = true)
    (lC96 : K.lookup C2 = some ⟨eC96, ddC96, .fields vsC96, slC96⟩)
    (v96 : vsC96[11]? = some (.ref P2))
    (lk96 : K.lookup P2 = none)
    (a95 : PySem.W.nsIn K mainGlobals "_law_protected_right" = some (some (.ref f95)))
    (l95 : K.lookup f95 = some ⟨oc95, od95, .func (PySem.W.fnOf "_law_protected_right" "_law_protected_right" (defArgs s_law_protected_right) (defBody s_law_protected_right) (defScope s_law_protected_right) .none kV95 dc95 pm95 an95 (.ref C3) ct95), sl95⟩)
    (c95 : PySem.W.codeIn K (.ref C3) "_law_protected_right" = true)
    (k95 : PySem.W.keepIn K (.ref f95) = true)
    (lC95 : K.lookup C3 = some ⟨eC95, ddC95, .fields vsC95, slC95⟩)
    (v95 : vsC95[11]? = some (.ref P3))
    (lk95 : K.lookup P3 = none)
    (ne_Table : PySem.W.findIn K (.ref CT) "__ne__" = some (some (.builtin "object.__ne__")))
    (p_si : PySem.W.subIn K (.ref CT) (.type "int") = some false)
    (p_sb : PySem.W.subIn K (.ref CT) (.type "bool") = some false)
    (p_ss : PySem.W.subIn K (.ref CT) (.type "str") = some false)
    (oN_eq : PySem.W.findIn K (.ref CZ) "__eq__" = some (some (.builtin "object.__eq__")))
    (oN_sub : PySem.W.subIn K (.ref CZ) (.type "NoneType") = some false)
    (ne_Native : PySem.W.findIn K (.ref CZ) "__ne__" = some (some (.builtin "object.__ne__")))
    (s_TZ : PySem.W.subIn K (.ref CT) (.ref CZ) = some false)
    (ne_12 : P1 ≠ P2)
    (ne_13 : P1 ≠ P3)
    (ne_23 : P2 ≠ P3)
    (tab : ∀ c P, PySem.W.tabIn K "_law_called_right" = some (c, P) → PySem.W.CodeHd h c P ∧ h.get? P = some (PySem.W.tabObj #[])) (tab2 : ∀ c P, PySem.W.tabIn K "_law_ring_right" = some (c, P) → PySem.W.CodeHd h c P ∧ h.get? P = some (PySem.W.tabObj #[])) (tab3 : ∀ c P, PySem.W.tabIn K "_law_protected_right" = some (c, P) → PySem.W.CodeHd h c P ∧ h.get? P = some (PySem.W.tabObj #[])) : LamX.LawAtS l w K CX0 20 63 "script" mg fa h := by
  have e := hfa.symm.trans (PySem.W.mg_of X G a55)
  cases e
  have T : AllV K mg CF CT CN CZ CG CW CE C1 C2 C3 P1 P2 P3 := {
    b_isinstance := PySem.W.mg_none_of X G b_isinstance
    b_int := PySem.W.mg_none_of X G b_int
    b_str := PySem.W.mg_none_of X G b_str
    b_bool := PySem.W.mg_none_of X G b_bool
    b_abs := PySem.W.mg_none_of X G b_abs
    b_max := PySem.W.mg_none_of X G b_max
    b_min := PySem.W.mg_none_of X G b_min
    b_divmod := PySem.W.mg_none_of X G b_divmod
    b_len := PySem.W.mg_none_of X G b_len
    b_range := PySem.W.mg_none_of X G b_range
    b_enumerate := PySem.W.mg_none_of X G b_enumerate
    b_ord := PySem.W.mg_none_of X G b_ord
    b_list := PySem.W.mg_none_of X G b_list
    c_LOW_HALF := ⟨_, PySem.W.mg_of X G c_LOW_HALF⟩
    c_LEAST := ⟨_, PySem.W.mg_of X G c_LEAST⟩
    c_MOST := ⟨_, PySem.W.mg_of X G c_MOST⟩
    c_ROOM := ⟨_, PySem.W.mg_of X G c_ROOM⟩
    c_LOWEST := ⟨_, PySem.W.mg_of X G c_LOWEST⟩
    c_TOO_GREAT := ⟨_, PySem.W.mg_of X G c_TOO_GREAT⟩
    c_MOST_PLACE := ⟨_, PySem.W.mg_of X G c_MOST_PLACE⟩
    c_MOST_CALLED := ⟨_, PySem.W.mg_of X G c_MOST_CALLED⟩
    g_Float := PySem.W.mg_of X G g_Float
    l_Float := ⟨pg_Float, hd_Float, po_Float, sa_Float⟩
    y_Float := ⟨yc_Float, y_spec, y_takes, ym_Float⟩
    n_sign := n_sign
    n_top := n_top
    n_power := n_power
    i_Fint := i_Fint
    i_Fbool := i_Fbool
    i_Fstr := i_Fstr
    i_intF := i_intF
    i_boolF := i_boolF
    i_strF := i_strF
    i_nonF := i_nonF
    g_Table := PySem.W.mg_of X G g_Table
    l_Table := ⟨pg_Table, hd_Table, po_Table, sa_Table⟩
    y_Table := ⟨yc_Table, y_spec, y_takes, ym_Table⟩
    n_number := n_number
    n_meta := n_meta
    n_array := n_array
    n_nodes := n_nodes
    n_free := n_free
    i_Tint := i_Tint
    i_Tbool := i_Tbool
    i_Tstr := i_Tstr
    i_TF := i_TF
    g_Node := PySem.W.mg_of X G g_Node
    l_Node := ⟨pg_Node, hd_Node, po_Node, sa_Node⟩
    n_key := n_key
    n_value := n_value
    n_link := n_link
    n_dead := n_is_dead
    g_Native := PySem.W.mg_of X G g_Native
    l_Native := ⟨pg_Native, hd_Native, po_Native, sa_Native⟩
    y_Native := ⟨yc_Native, y_spec, y_takes, ym_Native⟩
    n_name := n_name
    n_act := n_act
    x_init := ⟨_, _, PySem.W.mg_of X G g_Float, ⟨mk_Float, a1, i1, kc_Float⟩, fun_mk (st := s_Float_init) l1 c1 k1, (fun_mk (st := s_Float_init) l1 c1 k1).binds (fun _ _ _ _ _ _ us hl => match us, hl with | [_, _, _, _], _ => rfl)⟩
    x_Node := ⟨_, _, PySem.W.mg_of X G g_Node, ⟨mk_Node, a2, i2, kc_Node⟩, fun_mk (st := s_Node_init) l2 c2 k2, (fun_mk (st := s_Node_init) l2 c2 k2).binds (fun _ _ _ _ _ _ us hl => match us, hl with | [_, _, _, _], _ => rfl)⟩
    x_Native := ⟨_, _, PySem.W.mg_of X G g_Native, ⟨mk_Native, a3, i3, kc_Native⟩, fun_mk (st := s_Native_init) l3 c3 k3, (fun_mk (st := s_Native_init) l3 c3 k3).binds (fun _ _ _ _ _ _ us hl => match us, hl with | [_, _, _], _ => rfl)⟩
    x_is_finite := ⟨_, _, ⟨a4, i4, k4⟩, fun_mk (st := s_Float_is_finite) l4 c4 k4, (fun_mk (st := s_Float_is_finite) l4 c4 k4).binds (fun _ _ _ _ _ _ us hl => match us, hl with | [_], _ => rfl)⟩
    x_ratio := ⟨_, _, ⟨a5, i5, k5⟩, fun_mk (st := s_Float_ratio) l5 c5 k5, (fun_mk (st := s_Float_ratio) l5 c5 k5).binds (fun _ _ _ _ _ _ us hl => match us, hl with | [_], _ => rfl)⟩
    x_kwT := ⟨_, _, ⟨a6, i6, k6⟩, fun_mk (st := s_Table_kind_word) l6 c6 k6, (fun_mk (st := s_Table_kind_word) l6 c6 k6).binds (fun _ _ _ _ _ _ us hl => match us, hl with | [_], _ => rfl)⟩
    x_kwZ := ⟨_, _, ⟨a7, i7, k7⟩, fun_mk (st := s_Native_kind_word) l7 c7 k7, (fun_mk (st := s_Native_kind_word) l7 c7 k7).binds (fun _ _ _ _ _ _ us hl => match us, hl with | [_], _ => rfl)⟩
    x_find := ⟨_, _, ⟨a8, i8, k8⟩, fun_mk (st := s_Table_find) l8 c8 k8, (fun_mk (st := s_Table_find) l8 c8 k8).binds (fun _ _ _ _ _ _ us hl => match us, hl with | [_, _, _], _ => rfl)⟩
    x_is_inside := ⟨_, _, ⟨a9, i9, k9⟩, fun_mk (st := s_Table_is_inside) l9 c9 k9, (fun_mk (st := s_Table_is_inside) l9 c9 k9).binds (fun _ _ _ _ _ _ us hl => match us, hl with | [_, _], _ => rfl)⟩
    x_get := ⟨_, _, ⟨a10, i10, k10⟩, fun_mk (st := s_Table_get) l10 c10 k10, (fun_mk (st := s_Table_get) l10 c10 k10).binds (fun _ _ _ _ _ _ us hl => match us, hl with | [_, _], _ => rfl)⟩
    x_put := ⟨_, _, ⟨a11, i11, k11⟩, fun_mk (st := s_Table_put) l11 c11 k11, (fun_mk (st := s_Table_put) l11 c11 k11).binds (fun _ _ _ _ _ _ us hl => match us, hl with | [_, _, _], _ => rfl)⟩
    x_put_new := ⟨_, _, ⟨a12, i12, k12⟩, fun_mk (st := s_Table_put_new) l12 c12 k12, (fun_mk (st := s_Table_put_new) l12 c12 k12).binds (fun _ _ _ _ _ _ us hl => match us, hl with | [_, _, _], _ => rfl)⟩
    x_ahead_of := ⟨_, _, ⟨a13, i13, k13⟩, fun_mk (st := s_Table_ahead_of) l13 c13 k13, (fun_mk (st := s_Table_ahead_of) l13 c13 k13).binds (fun _ _ _ _ _ _ us hl => match us, hl with | [_, _, _], _ => rfl)⟩
    x_free_place := ⟨_, _, ⟨a14, i14, k14⟩, fun_mk (st := s_Table_free_place) l14 c14 k14, (fun_mk (st := s_Table_free_place) l14 c14 k14).binds (fun _ _ _ _ _ _ us hl => match us, hl with | [_], _ => rfl)⟩
    x_grow := ⟨_, _, ⟨a15, i15, k15⟩, fun_mk (st := s_Table_grow) l15 c15 k15, (fun_mk (st := s_Table_grow) l15 c15 k15).binds (fun _ _ _ _ _ _ us hl => match us, hl with | [_, _], _ => rfl)⟩
    x_resize := ⟨_, _, ⟨a16, i16, k16⟩, fun_mk (st := s_Table_resize) l16 c16 k16, (fun_mk (st := s_Table_resize) l16 c16 k16).binds (fun _ _ _ _ _ _ us hl => match us, hl with | [_, _, _], _ => rfl)⟩
    x_make_room := ⟨_, _, ⟨a17, i17, k17⟩, fun_mk (st := s_Table_make_room) l17 c17 k17, (fun_mk (st := s_Table_make_room) l17 c17 k17).binds (fun _ _ _ _ _ _ us hl => match us, hl with | [_, _], _ => rfl)⟩
    x_border := ⟨_, _, ⟨a18, i18, k18⟩, fun_mk (st := s_Table_border) l18 c18 k18, (fun_mk (st := s_Table_border) l18 c18 k18).binds (fun _ _ _ _ _ _ us hl => match us, hl with | [_], _ => rfl)⟩
    x_border_beyond := ⟨_, _, ⟨a19, i19, k19⟩, fun_mk (st := s_Table_border_beyond) l19 c19 k19, (fun_mk (st := s_Table_border_beyond) l19 c19 k19).binds (fun _ _ _ _ _ _ us hl => match us, hl with | [_, _], _ => rfl)⟩
    x_between := ⟨_, _, ⟨a20, i20, k20⟩, fun_mk (st := s_Table_between) l20 c20 k20, (fun_mk (st := s_Table_between) l20 c20 k20).binds (fun _ _ _ _ _ _ us hl => match us, hl with | [_, _, _], _ => rfl)⟩
    x_index_of := ⟨_, _, ⟨a21, i21, k21⟩, fun_mk (st := s_Table_index_of) l21 c21 k21, (fun_mk (st := s_Table_index_of) l21 c21 k21).binds (fun _ _ _ _ _ _ us hl => match us, hl with | [_, _], _ => rfl)⟩
    x_next_after := ⟨_, _, ⟨a22, i22, k22⟩, fun_mk (st := s_Table_next_after) l22 c22 k22, (fun_mk (st := s_Table_next_after) l22 c22 k22).binds (fun _ _ _ _ _ _ us hl => match us, hl with | [_, _], _ => rfl)⟩
    x_room := ⟨_, _, ⟨a23, i23, k23⟩, fun_mk (st := s_Table_room) l23 c23 k23, (fun_mk (st := s_Table_room) l23 c23 k23).binds (fun _ _ _ _ _ _ us hl => match us, hl with | [_], _ => rfl)⟩
    x_rows := ⟨_, _, ⟨a24, i24, k24⟩, fun_mk (st := s_Table_rows) l24 c24 k24, (fun_mk (st := s_Table_rows) l24 c24 k24).binds (fun _ _ _ _ _ _ us hl => match us, hl with | [_], _ => rfl)⟩
    x_is_plain := ⟨_, _, PySem.W.mg_of X G a25, fun_mk (st := s_is_plain) l25 c25 k25, (fun_mk (st := s_is_plain) l25 c25 k25).binds (fun _ _ _ _ _ _ us hl => match us, hl with | [_], _ => rfl)⟩
    x_reduced := ⟨_, _, PySem.W.mg_of X G a26, fun_mk (st := s_reduced) l26 c26 k26, (fun_mk (st := s_reduced) l26 c26 k26).binds (fun _ _ _ _ _ _ us hl => match us, hl with | [_, _], _ => rfl)⟩
    x_fits := ⟨_, _, PySem.W.mg_of X G a27, fun_mk (st := s_fits) l27 c27 k27, (fun_mk (st := s_fits) l27 c27 k27).binds (fun _ _ _ _ _ _ us hl => match us, hl with | [_, _], _ => rfl)⟩
    x_is_number := ⟨_, _, PySem.W.mg_of X G a28, fun_mk (st := s_is_number) l28 c28 k28, (fun_mk (st := s_is_number) l28 c28 k28).binds (fun _ _ _ _ _ _ us hl => match us, hl with | [_], _ => rfl)⟩
    x_place := ⟨_, _, PySem.W.mg_of X G a29, fun_mk (st := s_place_of_numbers) l29 c29 k29, (fun_mk (st := s_place_of_numbers) l29 c29 k29).binds (fun _ _ _ _ _ _ us hl => match us, hl with | [_], _ => rfl)⟩
    x_order := ⟨_, _, PySem.W.mg_of X G a30, fun_mk (st := s_order_of) l30 c30 k30, (fun_mk (st := s_order_of) l30 c30 k30).binds (fun _ _ _ _ _ _ us hl => match us, hl with | [_, _], _ => rfl)⟩
    x_same := ⟨_, _, PySem.W.mg_of X G a31, fun_mk (st := s_same) l31 c31 k31, (fun_mk (st := s_same) l31 c31 k31).binds (fun _ _ _ _ _ _ us hl => match us, hl with | [_, _], _ => rfl)⟩
    x_power_for := ⟨_, _, PySem.W.mg_of X G a32, fun_mk (st := s_power_for) l32 c32 k32, (fun_mk (st := s_power_for) l32 c32 k32).binds (fun _ _ _ _ _ _ us hl => match us, hl with | [_], _ => rfl)⟩
    x_sum := ⟨_, _, PySem.W.mg_of X G a33, fun_mk (st := s_sum_of) l33 c33 k33, (fun_mk (st := s_sum_of) l33 c33 k33).binds (fun _ _ _ _ _ _ us hl => match us, hl with | [_], _ => rfl)⟩
    x_pot := ⟨_, _, PySem.W.mg_of X G a34, fun_mk (st := s_place_of_tables) l34 c34 k34, (fun_mk (st := s_place_of_tables) l34 c34 k34).binds (fun _ _ _ _ _ _ us hl => match us, hl with | [_, _], _ => rfl)⟩
    x_plain_key := ⟨_, _, PySem.W.mg_of X G a35, fun_mk (st := s_plain_key) l35 c35 k35, (fun_mk (st := s_plain_key) l35 c35 k35).binds (fun _ _ _ _ _ _ us hl => match us, hl with | [_], _ => rfl)⟩
    x_is_nan := ⟨_, _, PySem.W.mg_of X G a36, fun_mk (st := s_is_nan) l36 c36 k36, (fun_mk (st := s_is_nan) l36 c36 k36).binds (fun _ _ _ _ _ _ us hl => match us, hl with | [_], _ => rfl)⟩
    x_is_whole := ⟨_, _, PySem.W.mg_of X G a37, fun_mk (st := s_is_whole) l37 c37 k37, (fun_mk (st := s_is_whole) l37 c37 k37).binds (fun _ _ _ _ _ _ us hl => match us, hl with | [_], _ => rfl)⟩
    x_best_size := ⟨_, _, PySem.W.mg_of X G a38, fun_mk (st := s_best_size) l38 c38 k38, (fun_mk (st := s_best_size) l38 c38 k38).binds (fun _ _ _ _ _ _ us hl => match us, hl with | [_], _ => rfl)⟩
    x_whole_of := ⟨_, _, PySem.W.mg_of X G a39, fun_mk (st := s_whole_of) l39 c39 k39, (fun_mk (st := s_whole_of) l39 c39 k39).binds (fun _ _ _ _ _ _ us hl => match us, hl with | [_], _ => rfl)⟩
    x_float_sum := ⟨_, _, PySem.W.mg_of X G a40, fun_mk (st := s_float_sum) l40 c40 k40, (fun_mk (st := s_float_sum) l40 c40 k40).binds (fun _ _ _ _ _ _ us hl => match us, hl with | [_], _ => rfl)⟩
    x_kind_name := ⟨_, _, PySem.W.mg_of X G a41, fun_mk (st := s_kind_name) l41 c41 k41, (fun_mk (st := s_kind_name) l41 c41 k41).binds (fun _ _ _ _ _ _ us hl => match us, hl with | [_], _ => rfl)⟩
    x_is_function := ⟨_, _, PySem.W.mg_of X G a42, fun_mk (st := s_is_function) l42 c42 k42, (fun_mk (st := s_is_function) l42 c42 k42).binds (fun _ _ _ _ _ _ us hl => match us, hl with | [_], _ => rfl)⟩
    x_meta_of := ⟨_, _, PySem.W.mg_of X G a43, fun_mk (st := s_meta_of) l43 c43 k43, (fun_mk (st := s_meta_of) l43 c43 k43).binds (fun _ _ _ _ _ _ us hl => match us, hl with | [_, _], _ => rfl)⟩
    x_call_target := ⟨_, _, PySem.W.mg_of X G a44, fun_mk (st := s_call_target) l44 c44 k44, (fun_mk (st := s_call_target) l44 c44 k44).binds (fun _ _ _ _ _ _ us hl => match us, hl with | [_, _], _ => rfl)⟩
    x_set_meta := ⟨_, _, PySem.W.mg_of X G a45, fun_mk (st := s_set_meta) l45 c45 k45, (fun_mk (st := s_set_meta) l45 c45 k45).binds (fun _ _ _ _ _ _ us hl => match us, hl with | [_, _], _ => rfl)⟩
    x_told_meta := ⟨_, _, PySem.W.mg_of X G a46, fun_mk (st := s_told_meta) l46 c46 k46, (fun_mk (st := s_told_meta) l46 c46 k46).binds (fun _ _ _ _ _ _ us hl => match us, hl with | [_], _ => rfl)⟩
    x_is_closable := ⟨_, _, PySem.W.mg_of X G a47, fun_mk (st := s_is_closable) l47 c47 k47, (fun_mk (st := s_is_closable) l47 c47 k47).binds (fun _ _ _ _ _ _ us hl => match us, hl with | [_], _ => rfl)⟩
    x_cell := ⟨_, _, PySem.W.mg_of X G a48, fun_mk (st := s_law_cell_at) l48 c48 k48, (fun_mk (st := s_law_cell_at) l48 c48 k48).binds (fun _ _ _ _ _ _ us hl => match us, hl with | [_, _], _ => rfl)⟩
    x_well := ⟨_, _, PySem.W.mg_of X G a49, fun_mk (st := s_law_well) l49 c49 k49, (fun_mk (st := s_law_well) l49 c49 k49).binds (fun _ _ _ _ _ _ us hl => match us, hl with | [_], _ => rfl)⟩
    x_draw := ⟨_, _, PySem.W.mg_of X G a50, fun_mk (st := s_law_draw) l50 c50 k50, (fun_mk (st := s_law_draw) l50 c50 k50).binds (fun _ _ _ _ _ _ us hl => match us, hl with | [_, _], _ => rfl)⟩
    x_one := ⟨_, _, PySem.W.mg_of X G a51, fun_mk (st := s_law_one) l51 c51 k51, (fun_mk (st := s_law_one) l51 c51 k51).binds (fun _ _ _ _ _ _ us hl => match us, hl with | [_, _], _ => rfl)⟩
    x_with := ⟨_, _, PySem.W.mg_of X G a52, fun_mk (st := s_law_with) l52 c52 k52, (fun_mk (st := s_law_with) l52 c52 k52).binds (fun _ _ _ _ _ _ us hl => match us, hl with | [_, _, _], _ => rfl)⟩
    x_told := ⟨_, _, PySem.W.mg_of X G a53, fun_mk (st := s_law_told) l53 c53 k53, (fun_mk (st := s_law_told) l53 c53 k53).binds (fun _ _ _ _ _ _ us hl => match us, hl with | [_], _ => rfl)⟩
    x_clos := ⟨_, _, PySem.W.mg_of X G a54, fun_mk (st := s_law_closable_right) l54 c54 k54, (fun_mk (st := s_law_closable_right) l54 c54 k54).binds (fun _ _ _ _ _ _ us hl => match us, hl with | [_], _ => rfl)⟩
    x_Table := ⟨_, _, ⟨mk_Table, a99, i99, kc_Table⟩, ⟨⟨_, _, _, _, _, _, _, _, _, _, rfl, l99, c99, .inr ⟨by simp, TD, _, _, _, rfl, lD, rfl, .cons ⟨_, rfl⟩ (.cons ⟨_, rfl⟩ .nil)⟩, .inr ⟨KD, rfl, fun q hq => by rw [List.mem_singleton] at hq; subst hq; exact ⟨_, kD, rfl⟩⟩⟩, k99⟩⟩
    o_Table := ⟨ym_Table, o_eq, o_sub⟩
    ne_TN := ne_TN
    ne_TZ := ne_TZ
    ne_NZ := ne_NZ
    g_Function := PySem.W.mg_of X G g_Function
    g_Wrapped := PySem.W.mg_of X G g_Wrapped
    i_TG := i_TG
    i_TW := i_TW
    i_Zint := i_Zint
    i_Zbool := i_Zbool
    i_Zstr := i_Zstr
    i_ZT := i_ZT
    i_ZG := i_ZG
    i_TZ := i_TZ
    i_intT := i_intT
    i_intG := i_intG
    i_intZ := i_intZ
    i_intW := i_intW
    i_boolT := i_boolT
    i_boolG := i_boolG
    i_boolZ := i_boolZ
    i_boolW := i_boolW
    i_strT := i_strT
    i_strG := i_strG
    i_strZ := i_strZ
    i_strW := i_strW
    i_nonT := i_nonT
    i_nonG := i_nonG
    i_nonZ := i_nonZ
    i_nonW := i_nonW
    g_Thrown := PySem.W.mg_of X G g_Thrown
    a_Thrown := ⟨th_made, th_over, th_hd, th_sa, th_ex, th_ty, th_kp⟩
    xf_Thrown := ⟨th_ga, th_gg, th_ex, th_hd⟩
    xn_value := xn_value
    xn_level := xn_level
    e_Thrown := exm_own th_ex th_ic th_ty th_sc
    b_AE := PySem.W.mg_none_of X G b_AE
    v_AE := v_AE
    x_called := ⟨_, _, PySem.W.mg_of X G a97, fun_mk (st := s_law_called_right) l97 c97 k97, (fun_mk (st := s_law_called_right) l97 c97 k97).binds (fun _ _ _ _ _ _ us hl => match us, hl with | [_], _ => rfl), rfl⟩
    x_ring := ⟨_, _, PySem.W.mg_of X G a96, fun_mk (st := s_law_ring_right) l96 c96 k96, (fun_mk (st := s_law_ring_right) l96 c96 k96).binds (fun _ _ _ _ _ _ us hl => match us, hl with | [], _ => rfl), rfl⟩
    x_prot := ⟨_, _, PySem.W.mg_of X G a95, fun_mk (st := s_law_protected_right) l95 c95 k95, (fun_mk (st := s_law_protected_right) l95 c95 k95).binds (fun _ _ _ _ _ _ us hl => match us, hl with | [_], _ => rfl), rfl⟩
    p_Table := ⟨⟨⟨ym_Table, o_eq, o_sub⟩, ne_Table⟩, p_si, p_sb, p_ss⟩
    on_Native := ⟨⟨ym_Native, oN_eq, oN_sub⟩, ne_Native⟩
    s_TZ := s_TZ
    ne_12 := ne_12
    ne_13 := ne_13
    ne_23 := ne_23
  }
  have tb97 : PySem.W.tabIn K "_law_called_right" = some (C1, P1) := by
    unfold PySem.W.tabIn
    rw [a97]
    dsimp only
    rw [l97]
    dsimp only [PySem.W.fnOf]
    rw [lC97]
    dsimp only
    rw [v97]
  have tb96 : PySem.W.tabIn K "_law_ring_right" = some (C2, P2) := by
    unfold PySem.W.tabIn
    rw [a96]
    dsimp only
    rw [l96]
    dsimp only [PySem.W.fnOf]
    rw [lC96]
    dsimp only
    rw [v96]
  have tb95 : PySem.W.tabIn K "_law_protected_right" = some (C3, P3) := by
    unfold PySem.W.tabIn
    rw [a95]
    dsimp only
    rw [l95]
    dsimp only [PySem.W.fnOf]
    rw [lC95]
    dsimp only
    rw [v95]
  obtain ⟨cH, gP⟩ := tab _ _ tb97
  obtain ⟨cH2, gP2⟩ := tab2 _ _ tb96
  obtain ⟨cH3, gP3⟩ := tab3 _ _ tb95
  refine ⟨PySem.W.fnOf "law" "law" (defArgs s_law) (defBody s_law) (defScope s_law) .none kV55 dc55 pm55 an55 cd55 ct55, [(C1, P1), (C2, P2), (C3, P3)], spLaw K P1 P2 P3, ?q1, ?q2, ?q3, fun s v => .of_eq rfl, fun H a ns h1 h2 h3 h4 => ⟨a, ns, rfl, h4, h1, fun z hz => Int.ofNat_le.2 (h2 z hz), ?q4, fun _ => rfl⟩, fun base _ _ htb => ok_all T (htb _ List.mem_cons_self) (htb _ (List.mem_cons_of_mem _ List.mem_cons_self)) (htb _ (List.mem_cons_of_mem _ (List.mem_cons_of_mem _ List.mem_cons_self))) (thr_kn T ⟨⟨_, _, _, _, _, _, _, _, _, _, rfl, l98, c98, .inr ⟨by simp, TE, _, _, _, rfl, lE, rfl, .cons ⟨_, rfl⟩ .nil⟩, .inl rfl⟩, k98⟩ a98 i98) (fun_mk (st := s_law) l55 c55 k55)⟩
  case q1 =>
   exact fun p hp => by
    simp only [List.mem_cons, List.not_mem_nil, or_false] at hp
    rcases hp with rfl | rfl | rfl
    · exact gP
    · exact gP2
    · exact gP3
  case q2 =>
   exact fun p hp => by
    simp only [List.mem_cons, List.not_mem_nil, or_false] at hp
    rcases hp with rfl | rfl | rfl
    · exact lk97
    · exact lk96
    · exact lk95
  case q3 =>
   exact fun p hp => by
    simp only [List.mem_cons, List.not_mem_nil, or_false] at hp
    rcases hp with rfl | rfl | rfl
    · exact cH
    · exact cH2
    · exact cH3
  case q4 =>
   intro p hp
   unfold TLof at hp
   simp only [List.mem_cons, List.not_mem_nil, or_false] at hp
   rcases hp with rfl | rfl | rfl
   · exact LamX.TabS.nil (h3 _ List.mem_cons_self)
   · exact LamX.TabS.nil (h3 _ (List.mem_cons_of_mem _ List.mem_cons_self))
   · exact LamX.TabS.nil (h3 _ (List.mem_cons_of_mem _ (List.mem_cons_of_mem _ List.mem_cons_self)))
end Nu

open PySem PySem.W PyProof.Rows
set_option Elab.async false
set_option maxRecDepth 100000
set_option maxHeartbeats 0
open_top hd31 for PySem.Challenge.rw_walkmade_k31_calls_and_metatables
theorem PySem.Challenge.cw_walkmade_k31_calls_and_metatables_holds : PySem.Challenge.rw_walkmade_k31_calls_and_metatables.Holds :=
  hd31 (by
  k_fill
  refine Rd.walk_ofDef3 (l := PySem.Challenge.rw_walkmade_k31_calls_and_metatables) (n := 63) (k := 20) (x := "script") (CX := fun _ => L2.CX0) "_law_called_right" "_law_ring_right" "_law_protected_right" rfl (by decide) rfl ⟨rfl, by decide, by decide⟩ (by decide +kernel) (by decide +kernel) (by decide +kernel) (fun w h Y => PySem.W.km_in_of Y) ?F (fun _ _ _ _ _ z => z)
  case F =>
    intro w mg fa h KX G hmg tab tab2 tab3
    refine' Nu.fin_mk KX G hmg ?b_isinstance ?b_int ?b_str ?b_bool ?b_abs ?b_max ?b_min ?b_divmod ?b_len ?b_range ?b_enumerate ?b_ord ?b_list ?c_LOW_HALF ?c_LEAST ?c_MOST ?c_ROOM ?c_LOWEST ?c_TOO_GREAT ?c_MOST_PLACE ?c_MOST_CALLED ?g_Float ?pg_Float ?hd_Float ?po_Float ?sa_Float ?yc_Float ?ym_Float ?n_sign ?n_top ?n_power ?i_Fint ?i_Fbool ?i_Fstr ?i_intF ?i_boolF ?i_strF ?i_nonF ?mk_Float ?kc_Float ?g_Table ?pg_Table ?hd_Table ?po_Table ?sa_Table ?yc_Table ?ym_Table ?n_number ?n_meta ?n_array ?n_nodes ?n_free ?i_Tint ?i_Tbool ?i_Tstr ?i_TF ?mk_Table ?kc_Table ?g_Node ?pg_Node ?hd_Node ?po_Node ?sa_Node ?yc_Node ?ym_Node ?n_key ?n_value ?n_link ?n_is_dead ?mk_Node ?kc_Node ?g_Native ?pg_Native ?hd_Native ?po_Native ?sa_Native ?yc_Native ?ym_Native ?n_name ?n_act ?mk_Native ?kc_Native ?y_spec ?y_takes ?a1 ?l1 ?c1 ?k1 ?i1 ?a2 ?l2 ?c2 ?k2 ?i2 ?a3 ?l3 ?c3 ?k3 ?i3 ?a4 ?l4 ?c4 ?k4 ?i4 ?a5 ?l5 ?c5 ?k5 ?i5 ?a6 ?l6 ?c6 ?k6 ?i6 ?a7 ?l7 ?c7 ?k7 ?i7 ?a8 ?l8 ?c8 ?k8 ?i8 ?a9 ?l9 ?c9 ?k9 ?i9 ?a10 ?l10 ?c10 ?k10 ?i10 ?a11 ?l11 ?c11 ?k11 ?i11 ?a12 ?l12 ?c12 ?k12 ?i12 ?a13 ?l13 ?c13 ?k13 ?i13 ?a14 ?l14 ?c14 ?k14 ?i14 ?a15 ?l15 ?c15 ?k15 ?i15 ?a16 ?l16 ?c16 ?k16 ?i16 ?a17 ?l17 ?c17 ?k17 ?i17 ?a18 ?l18 ?c18 ?k18 ?i18 ?a19 ?l19 ?c19 ?k19 ?i19 ?a20 ?l20 ?c20 ?k20 ?i20 ?a21 ?l21 ?c21 ?k21 ?i21 ?a22 ?l22 ?c22 ?k22 ?i22 ?a23 ?l23 ?c23 ?k23 ?i23 ?a24 ?l24 ?c24 ?k24 ?i24 ?a25 ?l25 ?c25 ?k25 ?a26 ?l26 ?c26 ?k26 ?a27 ?l27 ?c27 ?k27 ?a28 ?l28 ?c28 ?k28 ?a29 ?l29 ?c29 ?k29 ?a30 ?l30 ?c30 ?k30 ?a31 ?l31 ?c31 ?k31 ?a32 ?l32 ?c32 ?k32 ?a33 ?l33 ?c33 ?k33 ?a34 ?l34 ?c34 ?k34 ?a35 ?l35 ?c35 ?k35 ?a36 ?l36 ?c36 ?k36 ?a37 ?l37 ?c37 ?k37 ?a38 ?l38 ?c38 ?k38 ?a39 ?l39 ?c39 ?k39 ?a40 ?l40 ?c40 ?k40 ?a41 ?l41 ?c41 ?k41 ?a42 ?l42 ?c42 ?k42 ?a43 ?l43 ?c43 ?k43 ?a44 ?l44 ?c44 ?k44 ?a45 ?l45 ?c45 ?k45 ?a46 ?l46 ?c46 ?k46 ?a47 ?l47 ?c47 ?k47 ?a48 ?l48 ?c48 ?k48 ?a49 ?l49 ?c49 ?k49 ?a50 ?l50 ?c50 ?k50 ?a51 ?l51 ?c51 ?k51 ?a52 ?l52 ?c52 ?k52 ?a53 ?l53 ?c53 ?k53 ?a54 ?l54 ?c54 ?k54 ?a55 ?l55 ?c55 ?k55 ?a99 ?l99 ?c99 ?k99 ?i99 ?lD ?kD ?o_eq ?o_sub ?ne_TN ?ne_TZ ?ne_NZ ?g_Function ?g_Wrapped ?i_TG ?i_TW ?i_Zint ?i_Zbool ?i_Zstr ?i_ZT ?i_ZG ?i_TZ ?i_intT ?i_intG ?i_intZ ?i_intW ?i_boolT ?i_boolG ?i_boolZ ?i_boolW ?i_strT ?i_strG ?i_strZ ?i_strW ?i_nonT ?i_nonG ?i_nonZ ?i_nonW ?g_Thrown ?th_made ?th_over ?th_hd ?th_sa ?th_ex ?th_ty ?th_kp ?th_ga ?th_gg ?xn_value ?xn_level ?th_ic ?th_sc ?b_AE ?v_AE ?a98 ?l98 ?c98 ?k98 ?i98 ?lE ?a97 ?l97 ?c97 ?k97 ?lC97 ?v97 ?lk97 ?a96 ?l96 ?c96 ?k96 ?lC96 ?v96 ?lk96 ?a95 ?l95 ?c95 ?k95 ?lC95 ?v95 ?lk95 ?ne_Table ?p_si ?p_sb ?p_ss ?oN_eq ?oN_sub ?ne_Native ?s_TZ ?ne_12 ?ne_13 ?ne_23 tab tab2 tab3
    (case b_isinstance => k_is)
    (case b_int => k_is)
    (case b_str => k_is)
    (case b_bool => k_is)
    (case b_abs => k_is)
    (case b_max => k_is)
    (case b_min => k_is)
    (case b_divmod => k_is)
    (case b_len => k_is)
    (case b_range => k_is)
    (case b_enumerate => k_is)
    (case b_ord => k_is)
    (case b_list => k_is)
    (case c_LOW_HALF => k_is)
    (case c_LEAST => k_is)
    (case c_MOST => k_is)
    (case c_ROOM => k_is)
    (case c_LOWEST => k_is)
    (case c_TOO_GREAT => k_is)
    (case c_MOST_PLACE => k_is)
    (case c_MOST_CALLED => k_is)
    (case g_Float => k_is)
    (case pg_Float => k_is)
    (case hd_Float => k_is)
    (case po_Float => k_is)
    (case sa_Float => k_is)
    (case yc_Float => k_is)
    (case ym_Float => k_is)
    (case n_sign => k_is)
    (case n_top => k_is)
    (case n_power => k_is)
    (case i_Fint => kit_is)
    (case i_Fbool => kit_is)
    (case i_Fstr => kit_is)
    (case i_intF => kit_is)
    (case i_boolF => kit_is)
    (case i_strF => kit_is)
    (case i_nonF => kit_is)
    (case mk_Float => k_is)
    (case kc_Float => k_is)
    (case g_Table => k_is)
    (case pg_Table => k_is)
    (case hd_Table => k_is)
    (case po_Table => k_is)
    (case sa_Table => k_is)
    (case yc_Table => k_is)
    (case ym_Table => k_is)
    (case n_number => k_is)
    (case n_meta => k_is)
    (case n_array => k_is)
    (case n_nodes => k_is)
    (case n_free => k_is)
    (case i_Tint => kit_is)
    (case i_Tbool => kit_is)
    (case i_Tstr => kit_is)
    (case i_TF => kit_is)
    (case mk_Table => k_is)
    (case kc_Table => k_is)
    (case g_Node => k_is)
    (case pg_Node => k_is)
    (case hd_Node => k_is)
    (case po_Node => k_is)
    (case sa_Node => k_is)
    (case yc_Node => k_is)
    (case ym_Node => k_is)
    (case n_key => k_is)
    (case n_value => k_is)
    (case n_link => k_is)
    (case n_is_dead => k_is)
    (case mk_Node => k_is)
    (case kc_Node => k_is)
    (case g_Native => k_is)
    (case pg_Native => k_is)
    (case hd_Native => k_is)
    (case po_Native => k_is)
    (case sa_Native => k_is)
    (case yc_Native => k_is)
    (case ym_Native => k_is)
    (case n_name => k_is)
    (case n_act => k_is)
    (case mk_Native => k_is)
    (case kc_Native => k_is)
    (case y_spec => k_is)
    (case y_takes => k_is)
    (case a1 => k_is)
    (case l1 => k_is)
    (case c1 => k_is)
    (case k1 => k_is)
    (case i1 => k_is)
    (case a2 => k_is)
    (case l2 => k_is)
    (case c2 => k_is)
    (case k2 => k_is)
    (case i2 => k_is)
    (case a3 => k_is)
    (case l3 => k_is)
    (case c3 => k_is)
    (case k3 => k_is)
    (case i3 => k_is)
    (case a4 => k_is)
    (case l4 => k_is)
    (case c4 => k_is)
    (case k4 => k_is)
    (case i4 => k_is)
    (case a5 => k_is)
    (case l5 => k_is)
    (case c5 => k_is)
    (case k5 => k_is)
    (case i5 => k_is)
    (case a6 => k_is)
    (case l6 => k_is)
    (case c6 => k_is)
    (case k6 => k_is)
    (case i6 => k_is)
    (case a7 => k_is)
    (case l7 => k_is)
    (case c7 => k_is)
    (case k7 => k_is)
    (case i7 => k_is)
    (case a8 => k_is)
    (case l8 => k_is)
    (case c8 => k_is)
    (case k8 => k_is)
    (case i8 => k_is)
    (case a9 => k_is)
    (case l9 => k_is)
    (case c9 => k_is)
    (case k9 => k_is)
    (case i9 => k_is)
    (case a10 => k_is)
    (case l10 => k_is)
    (case c10 => k_is)
    (case k10 => k_is)
    (case i10 => k_is)
    (case a11 => k_is)
    (case l11 => k_is)
    (case c11 => k_is)
    (case k11 => k_is)
    (case i11 => k_is)
    (case a12 => k_is)
    (case l12 => k_is)
    (case c12 => k_is)
    (case k12 => k_is)
    (case i12 => k_is)
    (case a13 => k_is)
    (case l13 => k_is)
    (case c13 => k_is)
    (case k13 => k_is)
    (case i13 => k_is)
    (case a14 => k_is)
    (case l14 => k_is)
    (case c14 => k_is)
    (case k14 => k_is)
    (case i14 => k_is)
    (case a15 => k_is)
    (case l15 => k_is)
    (case c15 => k_is)
    (case k15 => k_is)
    (case i15 => k_is)
    (case a16 => k_is)
    (case l16 => k_is)
    (case c16 => k_is)
    (case k16 => k_is)
    (case i16 => k_is)
    (case a17 => k_is)
    (case l17 => k_is)
    (case c17 => k_is)
    (case k17 => k_is)
    (case i17 => k_is)
    (case a18 => k_is)
    (case l18 => k_is)
    (case c18 => k_is)
    (case k18 => k_is)
    (case i18 => k_is)
    (case a19 => k_is)
    (case l19 => k_is)
    (case c19 => k_is)
    (case k19 => k_is)
    (case i19 => k_is)
    (case a20 => k_is)
    (case l20 => k_is)
    (case c20 => k_is)
    (case k20 => k_is)
    (case i20 => k_is)
    (case a21 => k_is)
    (case l21 => k_is)
    (case c21 => k_is)
    (case k21 => k_is)
    (case i21 => k_is)
    (case a22 => k_is)
    (case l22 => k_is)
    (case c22 => k_is)
    (case k22 => k_is)
    (case i22 => k_is)
    (case a23 => k_is)
    (case l23 => k_is)
    (case c23 => k_is)
    (case k23 => k_is)
    (case i23 => k_is)
    (case a24 => k_is)
    (case l24 => k_is)
    (case c24 => k_is)
    (case k24 => k_is)
    (case i24 => k_is)
    (case a25 => k_is)
    (case l25 => k_is)
    (case c25 => k_is)
    (case k25 => k_is)
    (case a26 => k_is)
    (case l26 => k_is)
    (case c26 => k_is)
    (case k26 => k_is)
    (case a27 => k_is)
    (case l27 => k_is)
    (case c27 => k_is)
    (case k27 => k_is)
    (case a28 => k_is)
    (case l28 => k_is)
    (case c28 => k_is)
    (case k28 => k_is)
    (case a29 => k_is)
    (case l29 => k_is)
    (case c29 => k_is)
    (case k29 => k_is)
    (case a30 => k_is)
    (case l30 => k_is)
    (case c30 => k_is)
    (case k30 => k_is)
    (case a31 => k_is)
    (case l31 => k_is)
    (case c31 => k_is)
    (case k31 => k_is)
    (case a32 => k_is)
    (case l32 => k_is)
    (case c32 => k_is)
    (case k32 => k_is)
    (case a33 => k_is)
    (case l33 => k_is)
    (case c33 => k_is)
    (case k33 => k_is)
    (case a34 => k_is)
    (case l34 => k_is)
    (case c34 => k_is)
    (case k34 => k_is)
    (case a35 => k_is)
    (case l35 => k_is)
    (case c35 => k_is)
    (case k35 => k_is)
    (case a36 => k_is)
    (case l36 => k_is)
    (case c36 => k_is)
    (case k36 => k_is)
    (case a37 => k_is)
    (case l37 => k_is)
    (case c37 => k_is)
    (case k37 => k_is)
    (case a38 => k_is)
    (case l38 => k_is)
    (case c38 => k_is)
    (case k38 => k_is)
    (case a39 => k_is)
    (case l39 => k_is)
    (case c39 => k_is)
    (case k39 => k_is)
    (case a40 => k_is)
    (case l40 => k_is)
    (case c40 => k_is)
    (case k40 => k_is)
    (case a41 => k_is)
    (case l41 => k_is)
    (case c41 => k_is)
    (case k41 => k_is)
    (case a42 => k_is)
    (case l42 => k_is)
    (case c42 => k_is)
    (case k42 => k_is)
    (case a43 => k_is)
    (case l43 => k_is)
    (case c43 => k_is)
    (case k43 => k_is)
    (case a44 => k_is)
    (case l44 => k_is)
    (case c44 => k_is)
    (case k44 => k_is)
    (case a45 => k_is)
    (case l45 => k_is)
    (case c45 => k_is)
    (case k45 => k_is)
    (case a46 => k_is)
    (case l46 => k_is)
    (case c46 => k_is)
    (case k46 => k_is)
    (case a47 => k_is)
    (case l47 => k_is)
    (case c47 => k_is)
    (case k47 => k_is)
    (case a48 => k_is)
    (case l48 => k_is)
    (case c48 => k_is)
    (case k48 => k_is)
    (case a49 => k_is)
    (case l49 => k_is)
    (case c49 => k_is)
    (case k49 => k_is)
    (case a50 => k_is)
    (case l50 => k_is)
    (case c50 => k_is)
    (case k50 => k_is)
    (case a51 => k_is)
    (case l51 => k_is)
    (case c51 => k_is)
    (case k51 => k_is)
    (case a52 => k_is)
    (case l52 => k_is)
    (case c52 => k_is)
    (case k52 => k_is)
    (case a53 => k_is)
    (case l53 => k_is)
    (case c53 => k_is)
    (case k53 => k_is)
    (case a54 => k_is)
    (case l54 => k_is)
    (case c54 => k_is)
    (case k54 => k_is)
    (case a55 => k_is)
    (case l55 => k_is)
    (case c55 => k_is)
    (case k55 => k_is)
    (case a99 => k_is)
    (case l99 => k_is)
    (case c99 => k_is)
    (case k99 => k_is)
    (case i99 => k_is)
    (case lD => k_is)
    (case kD => k_is)
    (case o_eq => k_is)
    (case o_sub => k_is)
    (case ne_TN => decide)
    (case ne_TZ => decide)
    (case ne_NZ => decide)
    (case g_Function => k_is)
    (case g_Wrapped => k_is)
    (case i_TG => kit_is)
    (case i_TW => kit_is)
    (case i_Zint => kit_is)
    (case i_Zbool => kit_is)
    (case i_Zstr => kit_is)
    (case i_ZT => kit_is)
    (case i_ZG => kit_is)
    (case i_TZ => kit_is)
    (case i_intT => kit_is)
    (case i_intG => kit_is)
    (case i_intZ => kit_is)
    (case i_intW => kit_is)
    (case i_boolT => kit_is)
    (case i_boolG => kit_is)
    (case i_boolZ => kit_is)
    (case i_boolW => kit_is)
    (case i_strT => kit_is)
    (case i_strG => kit_is)
    (case i_strZ => kit_is)
    (case i_strW => kit_is)
    (case i_nonT => kit_is)
    (case i_nonG => kit_is)
    (case i_nonZ => kit_is)
    (case i_nonW => kit_is)
    (case g_Thrown => k_is)
    (case th_made => kx_is)
    (case th_over => kx_is)
    (case th_hd => k_is)
    (case th_sa => k_is)
    (case th_ex => k_is)
    (case th_ty => k_is)
    (case th_kp => k_is)
    (case th_ga => k_is)
    (case th_gg => k_is)
    (case xn_value => k_is)
    (case xn_level => k_is)
    (case th_ic => k_is)
    (case th_sc => first | rfl | k_is)
    (case b_AE => k_is)
    (case v_AE => k_is)
    (case a98 => k_is)
    (case l98 => k_is)
    (case c98 => k_is)
    (case k98 => k_is)
    (case i98 => k_is)
    (case lE => k_is)
    (case a97 => k_is)
    (case l97 => k_is)
    (case c97 => k_is)
    (case k97 => k_is)
    (case lC97 => k_is)
    (case v97 => rfl)
    (case lk97 => first | k_is | kernel_rfl | rfl)
    (case a96 => k_is)
    (case l96 => k_is)
    (case c96 => k_is)
    (case k96 => k_is)
    (case lC96 => k_is)
    (case v96 => rfl)
    (case lk96 => first | k_is | kernel_rfl | rfl)
    (case a95 => k_is)
    (case l95 => k_is)
    (case c95 => k_is)
    (case k95 => k_is)
    (case lC95 => k_is)
    (case v95 => rfl)
    (case lk95 => first | k_is | kernel_rfl | rfl)
    (case ne_Table => k_is)
    (case p_si => k_is)
    (case p_sb => k_is)
    (case p_ss => k_is)
    (case oN_eq => k_is)
    (case oN_sub => k_is)
    (case ne_Native => k_is)
    (case s_TZ => k_is)
    (case ne_12 => decide)
    (case ne_13 => decide)
    (case ne_23 => decide)
  )
