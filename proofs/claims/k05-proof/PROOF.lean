import PyProof.Rows.All
import Wide.All
import OpenK.AllK
import Wide.FinOn
import HandS.ForMost
import HandS.WideBits
import HandS.IsInst
import HandS.EndBits
import HandS.Codes
import HandS.Defaults
import HandS.More
import PyProof.InstEq
import KE.IntBitsLaws
import PySem.Challenge.RW_walkmade_k05_whole_order_of_numbers
import HandS.Deep
import HandS.Walk
import KE.RegKIsAll
set_option Elab.async false
set_option linter.all false
set_option maxRecDepth 100000
set_option maxHeartbeats 4000000
/-! Readings by steps that look at the head of the goal alone. -/
namespace Rd
open PySem PySem.Spec PyProof.Rows L2

/-! ### defs of the text, packed -/
/-- the def x of the text st stands in the module -/
structure Tx (K : PySem.W.Frag) (mg : Str → Option Value) (x n : Str) (st : Stmt) (ps : List Str) : Prop where
  ex : ∃ f fd, mg x = some (.ref f) ∧ Fun K n n st f fd ∧ Binds K fd ps []
/-- the def x keeps its promise -/
structure Kn (P : Program) (w : World) (K : PySem.W.Frag) (mg : Str → Option Value) (base : Heap) (CX : CXT) (k : Nat) (x : Str) (ps : List Str) (sp : Sp) : Prop where
  ex : ∃ f fd, mg x = some (.ref f) ∧ PySem.W.keepIn K (.ref f) = true ∧ Binds K fd ps [] ∧ FnOk P w K mg base CX k f fd ps sp
/-- a method m of the class at C -/
structure KnM (P : Program) (w : World) (K : PySem.W.Frag) (mg : Str → Option Value) (base : Heap) (CX : CXT) (k : Nat) (C : Addr) (m : Str) (ps : List Str) (sp : Sp) : Prop where
  ex : ∃ f fd, Meth K C m f ∧ Binds K fd ps [] ∧ FnOk P w K mg base CX k f fd ps sp
/-- a class whose __init__ keeps its promise -/
structure KnC (P : Program) (w : World) (K : PySem.W.Frag) (mg : Str → Option Value) (base : Heap) (CX : CXT) (k : Nat) (x : Str) (C : Addr) (ps : List Str) (sp : Sp) : Prop where
  ex : ∃ f fd, mg x = some (.ref C) ∧ Mk K C f ∧ Binds K fd ps [] ∧ FnOk P w K mg base CX k f fd ps sp
/-- a method of the text -/
structure TxM (K : PySem.W.Frag) (C : Addr) (m qual : Str) (st : Stmt) (ps : List Str) : Prop where
  ex : ∃ f fd, Meth K C m f ∧ Fun K m qual st f fd ∧ Binds K fd ps []
structure TxC (K : PySem.W.Frag) (mg : Str → Option Value) (x : Str) (C : Addr) (qual : Str) (st : Stmt) (ps : List Str) : Prop where
  ex : ∃ f fd, mg x = some (.ref C) ∧ Mk K C f ∧ Fun K "__init__" qual st f fd ∧ Binds K fd ps []

section
variable {P : Program} {w : World} {K : PySem.W.Frag} {mg : Str → Option Value} {base : Heap} {CX : CXT} {k : Nat} {x : Str} {ps : List Str} {sp : Sp}
theorem Kn.mono (h : Kn P w K mg base CX k x ps sp) {j : Nat} (hj : k ≤ j) : Kn P w K mg base CX j x ps sp :=
  let ⟨f, fd, a, b, c, d⟩ := h.ex
  ⟨f, fd, a, b, c, d.mono hj⟩
theorem Tx.kn {n : Str} {st : Stmt} (t : Tx K mg x n st ps) (h : ∀ f fd, Fun K n n st f fd → FnOk P w K mg base CX k f fd ps sp) : Kn P w K mg base CX k x ps sp :=
  let ⟨f, fd, a, b, c⟩ := t.ex
  ⟨f, fd, a, b.kp, c, h f fd b⟩
theorem TxM.kn {C : Addr} {m qual : Str} {st : Stmt} (t : TxM K C m qual st ps) (h : ∀ f fd, Fun K m qual st f fd → FnOk P w K mg base CX k f fd ps sp) : KnM P w K mg base CX k C m ps sp :=
  let ⟨f, fd, a, b, c⟩ := t.ex
  ⟨f, fd, a, c, h f fd b⟩
theorem TxC.kn {C : Addr} {qual : Str} {st : Stmt} (t : TxC K mg x C qual st ps) (h : ∀ f fd, Fun K "__init__" qual st f fd → FnOk P w K mg base CX k f fd ps sp) : KnC P w K mg base CX k x C ps sp :=
  let ⟨f, fd, a, b, c, d⟩ := t.ex
  ⟨f, fd, a, b, d, h f fd c⟩
end
section
variable {X : Cx} {k j : Nat} {x : Str} {ps : List Str} {sp : Sp} {p pos apos : Pos} {e o : Expr} {es : List Expr} {t : TA} {ta : TE} {C : Addr} {m : Str}
/-- f(e, ..) -/
theorem pk (h : Kn X.prog X.w X.K X.mg X.base CX0 k x ps sp) (hr : Room j X.A) (ha : PA X (e :: es) t) (hj : k ≤ j := by decide) (hg : Gl X x := by rfl) (hdb : (x == ("__debug__" : Str)) = false := by decide)
    (he : starEach (e :: es) X.env = (false, eval e X.env) :: starEach es X.env := by rfl) (hpl : (backTo pos (starEach es X.env)).any (·.1) = false := by rfl) : PE X (.Call (.Name x p) (e :: es) [] pos) (tCall sp [] E0 t) := by
  obtain ⟨f, fd, a, b, c, d⟩ := h.ex
  exact pe_call d (hr.mono hj) hg a b c .nil pass0 ha hdb he hpl
theorem pk0 (h : Kn X.prog X.w X.K X.mg X.base CX0 k x ps sp) (hr : Room j X.A) (hj : k ≤ j := by decide) (hg : Gl X x := by rfl) (hdb : (x == ("__debug__" : Str)) = false := by decide) : PE X (.Call (.Name x p) [] [] pos) (tCall sp [] E0 tNil) := by
  obtain ⟨f, fd, a, b, c, d⟩ := h.ex
  exact pe_call0 d (hr.mono hj) hg a b c .nil pass0 hdb
/-- C(e, ..) -/
theorem pkC (h : KnC X.prog X.w X.K X.mg X.base CX0 k x C ps sp) (hr : Room j X.A) (ha : PA X (e :: es) t) (hj : k + 1 ≤ j := by decide) (hg : Gl X x := by rfl) (hdb : (x == ("__debug__" : Str)) = false := by decide)
    (he : starEach (e :: es) X.env = (false, eval e X.env) :: starEach es X.env := by rfl) (hpl : (backTo pos (starEach es X.env)).any (·.1) = false := by rfl) : PE X (.Call (.Name x p) (e :: es) [] pos) (tMake C sp [] E0 t) := by
  obtain ⟨f, fd, a, b, c, d⟩ := h.ex
  exact pe_make b d (hr.mono hj) hg a c .nil pass0 ha hdb he hpl
/-- o.m() -/
theorem pkM0 (h : KnM X.prog X.w X.K X.mg X.base CX0 k C m ps sp) (cl : Cls X.K C) (hr : Room j X.A) (ho : PE X o ta) {pl : Sem Bool}
    (ht : eval (.Call (.Attribute o m apos) [] [] pos) X.env = (do
      let ov ← eval o X.env
      standAt apos.atName
      let (f, first) ← holding [ov] (getMethod ov m pl)
      callWith pos f first (backTo pos (starEach [] X.env)) (backToKw pos (keywordEach [] X.env)))) (hj : k ≤ j := by decide) :
    PE X (.Call (.Attribute o m apos) [] [] pos) (tMeth C m sp [] E0 ta tNil) := by
  obtain ⟨f, fd, a, b, d⟩ := h.ex
  exact pe_meth0 ho cl a d (hr.mono hj) b .nil pass0 ht
/-- a class or a constant of the module, as a value -/
theorem pg (x : Str) {v : V} {u : Value} (hm : X.mg x = some u) (r : RelV v u) (hg : Gl X x := by rfl) (hd : (x == ("__debug__" : Str)) = false := by decide) : PE X (.Name x pos) (tC v) := pe_glob hg hm r hd
end
/-- v is .int, .str, .non, .bl -/
theorem rty (n : String) : RelV (.ty n) (.type n) := rfl
theorem rref (a : Addr) : RelV (.ref a) (.ref a) := rfl

/-! ### what is wanted, by the head of the goal -/
section
variable {σ : L2.St} {H : Hp} {Q : VK} {ta tb te : TE} {x y v : V} {r : R2} {K : PySem.W.Frag}
theorem w_var {i : Nat} (h : σ[i]? = some (some v)) (q : Q v H) : tVar i σ H Q := ⟨v, h, q⟩
theorem w_c (q : Q v H) : tC v σ H Q := q
theorem w_op (h : ta σ H fun x H1 => tb σ H1 fun y H2 => r x y H2 Q) : tOp r ta tb σ H Q := h
theorem w_un {r : V → Hp → VK → Prop} (h : ta σ H fun x H1 => r x H1 Q) : tUn r ta σ H Q := h
theorem w_I0 {g : Int → Int → V} {i j : Int} (q : Q (g i j) H) : rI0 g (.int i) (.int j) H Q := ⟨i, j, rfl, rfl, q⟩
theorem w_I {C : Int → Int → Prop} {g : Int → Int → V} {i j : Int} (c : C i j) (q : Q (g i j) H) : rI C g (.int i) (.int j) H Q := ⟨i, j, rfl, rfl, c, q⟩
theorem w_U {g : Int → V} {i : Int} (q : Q (g i) H) : rU g (.int i) H Q := ⟨i, rfl, q⟩
theorem w_eq (s : scal x y = true) (q : Q (.bl (decide (x = y))) H) : rEq x y H Q := ⟨s, q⟩
theorem w_ne (s : scal x y = true) (q : Q (.bl (!decide (x = y))) H) : rNe x y H Q := ⟨s, q⟩
theorem w_bits (h : te σ H fun x H1 => ∃ i, x = .int i ∧ Q (.int (Builtin.Int.intBits i : Nat)) H1) : tBits te σ H Q := h
theorem w_bitsI {R : Int → Prop} {i : Int} (q : R i) : ∃ i', V.int i = .int i' ∧ R i' := ⟨i, rfl, q⟩
def TupK (xs : List V) (H : Hp) (Q : VK) : Prop := xs.length ≤ sizeLine ∧ ∀ p, H p = none → Q (.ref p) (upd H p (.tup xs))
def LstK (xs : List V) (H : Hp) (Q : VK) : Prop := xs.length ≤ sizeLine ∧ ∀ p, H p = none → Q (.ref p) (upd H p (.lst xs))
theorem w_tup {t : TA} (h : t σ H fun xs H1 => TupK xs H1 Q) : tTup t σ H Q := h
theorem w_lst {t : TA} (h : t σ H fun xs H1 => LstK xs H1 Q) : tLst t σ H Q := h
theorem w_nil {Q : List V → Hp → Prop} (q : Q [] H) : tNil σ H Q := q
theorem w_cons {ta : TE} {tr : TA} {Q : List V → Hp → Prop} (h : ta σ H fun x H1 => tr σ H1 fun xs H2 => Q (x :: xs) H2) : tCons ta tr σ H Q := h
theorem w_fld {f : Str} (h : ta σ H fun x H1 => ∃ a C dx fs v, x = .ref a ∧ H1 a = some (.ins C dx fs) ∧ Cls K C ∧ NoAttr K C f ∧ fs.lookup f = some v ∧ Q v H1) : tFld K ta f σ H Q := h
theorem w_fldI {R : V → Prop} {f : Str} {a C dx : Addr} {fs : List (Str × V)} (ho : H a = some (.ins C dx fs)) (c : Cls K C) (n : NoAttr K C f) (l : fs.lookup f = some v) (q : R v) :
    ∃ a' C dx fs v, V.ref a = .ref a' ∧ H a' = some (.ins C dx fs) ∧ Cls K C ∧ NoAttr K C f ∧ fs.lookup f = some v ∧ R v := ⟨a, C, dx, fs, v, rfl, ho, c, n, l, q⟩
theorem w_sfI {R : Addr → Addr → List (Str × V) → Addr → Prop} {f : Str} {a C dx : Addr} {fs : List (Str × V)} (ho : H a = some (.ins C dx fs)) (c : Cls K C) (n : NoAttr K C f) (l : fs.length < 1000) (q : R a dx fs C) :
    ∃ a' C dx fs, V.ref a = .ref a' ∧ H a' = some (.ins C dx fs) ∧ Cls K C ∧ NoAttr K C f ∧ fs.length < 1000 ∧ R a' dx fs C := ⟨a, C, dx, fs, rfl, ho, c, n, l, q⟩
theorem w_call {sp : Sp} {dvs : List V} {E : XK} {t : TA} (h : t σ H fun vs H1 => sp (vs ++ dvs) H1 Q E) : tCall sp dvs E t σ H Q := h
def MakeK (C : Addr) (sp : Sp) (vs : List V) (H1 : Hp) (Q : VK) (E : XK) : Prop := ∀ x dx, H1 x = none → H1 dx = none → dx ≠ x → sp (.ref x :: (vs ++ [])) (upd (upd H1 dx (.own x)) x (.ins C dx [])) (fun v H2 => v = .non ∧ Q (.ref x) H2) E
theorem w_make {C : Addr} {sp : Sp} {E : XK} {t : TA} (h : t σ H fun vs H1 => MakeK C sp vs H1 Q E) : tMake C sp [] E t σ H Q := h
theorem w_cb {r : List V → Hp → VK → Prop} {t : TA} (h : t σ H fun vs H1 => r vs H1 Q) : tCB r t σ H Q := h
theorem w_bl {R : Bool → Prop} {k : Bool} (q : R k) : ∃ k', V.bl k = .bl k' ∧ R k' := ⟨k, rfl, q⟩
theorem w_test {Q : Bool → Hp → Prop} (h : te σ H fun x H' => ∃ k, x = .bl k ∧ Q k H') : tTest te σ H Q := h
theorem w_B {Q : Bool → Hp → Prop} (h : te σ H fun x H' => ∃ k, x = .bl k ∧ Q k H') : tB te σ H Q := h
theorem w_andV (h : ta σ H fun x H1 => ∃ c, x = .bl c ∧ if c = true then tb σ H1 Q else Q (.bl false) H1) : tAndV ta tb σ H Q := h
theorem w_orV (h : ta σ H fun x H1 => ∃ c, x = .bl c ∧ if c = true then Q (.bl true) H1 else tb σ H1 Q) : tOrV ta tb σ H Q := h
theorem w_notV (h : ta σ H fun x H1 => ∃ c, x = .bl c ∧ Q (.bl (!c)) H1) : tNotV ta σ H Q := h
theorem w_and {t u : TT} {Q : Bool → Hp → Prop} (h : t σ H fun c H1 => if c = true then u σ H1 Q else Q false H1) : tAnd t u σ H Q := h
theorem w_or {t u : TT} {Q : Bool → Hp → Prop} (h : t σ H fun c H1 => if c = true then Q true H1 else u σ H1 Q) : tOr t u σ H Q := h
theorem w_not {t : TT} {Q : Bool → Hp → Prop} (h : t σ H fun c H1 => Q (!c) H1) : tNot t σ H Q := h
theorem w_if {t : TT} (h : t σ H fun c H1 => if c = true then ta σ H1 Q else tb σ H1 Q) : tIf t ta tb σ H Q := h
theorem w_isi {x c : V} {t u : Value} {b : Bool} (k : ClsV c u) (ty : TyX K H x t) (e : PySem.W.kitOne K t u = some b) (q : Q (.bl b) H) : rIsi K [x, c] H Q := ⟨x, c, t, u, b, rfl, k, ty, e, q⟩
/-! statements -/
variable {D : Ends} {t u : TS} {n bk ct : L2.St → Hp → Prop} {rt : VK}
theorem w_nx (q : n σ H) : (Ends.mk n rt bk ct).nx σ H := q
theorem w_rt (q : rt v H) : (Ends.mk n rt bk ct).rt v H := q
theorem w_bk (q : bk σ H) : (Ends.mk n rt bk ct).bk σ H := q
theorem w_ct (q : ct σ H) : (Ends.mk n rt bk ct).ct σ H := q
theorem w_seq (h : t { D with nx := u D } σ H) : tSeq t u D σ H := h
theorem w_cut {Mid : L2.St → Hp → Prop} (h1 : t { D with nx := Mid } σ H) (h2 : ∀ σ' H', Mid σ' H' → u D σ' H') : C8.tCut t u D σ H := ⟨Mid, h1, h2⟩
theorem w_next (h : D.nx σ H) : tNext D σ H := h
theorem w_brk (h : D.bk σ H) : tBreak D σ H := h
theorem w_cont (h : D.ct σ H) : tCont D σ H := h
theorem w_ret (h : te σ H D.rt) : tRet te D σ H := h
theorem w_ifS {c : TT} (h : c σ H fun b H1 => if b = true then t D σ H1 else u D σ H1) : tIfS c t u D σ H := h
theorem w_asg {g : TG} (h : te σ H fun x H1 => g x σ H1 D.nx) : tAsg te g D σ H := h
theorem w_name {i : Nat} {Q : L2.St → Hp → Prop} (h : Q (σ.set i (some v)) H) : gName i v σ H Q := h
theorem w_par {i j : Nat} {ta : TA} (h : ta σ H fun vs H1 => ∃ v w, vs = [v, w] ∧ D.nx ((σ.set i (some v)).set j (some w)) H1) : tPar i j ta D σ H := h
theorem w_parI {R : V → V → Prop} {v w : V} (h : R v w) : ∃ v' w', [v, w] = [v', w'] ∧ R v' w' := ⟨v, w, rfl, h⟩
theorem w_ii {R : Int → Int → Prop} {a b : Int} (h : R a b) : ∃ i j, [V.int a, V.int b] = [V.int i, V.int j] ∧ R i j := ⟨a, b, rfl, h⟩
theorem w_i1 {R : Int → Prop} {a : Int} (h : R a) : ∃ i, [V.int a] = [V.int i] ∧ R i := ⟨a, rfl, h⟩
theorem w_drop (h : te σ H fun _ H1 => D.nx σ H1) : tDrop te D σ H := h
theorem w_sFld {tv : TE} {f : Str} (h : tv σ H fun y H1 => ta σ H1 fun x H2 => ∃ a C dx fs, x = .ref a ∧ H2 a = some (.ins C dx fs) ∧ Cls K C ∧ NoAttr K C f ∧ fs.length < 1000 ∧ D.nx σ (upd H2 a (.ins C dx (putF f y fs)))) : sFld K ta tv f D σ H := h
theorem iT {A B : Prop} (h : A) : if true = true then A else B := by rw [if_pos rfl]; exact h
theorem iF {A B : Prop} (h : B) : if false = true then A else B := by rw [if_neg Bool.false_ne_true]; exact h
theorem iD {c : Prop} [Decidable c] {A B : Prop} (h1 : c → A) (h2 : ¬ c → B) : if decide c = true then A else B := by
  by_cases h : c
  · rw [decide_eq_true h]; exact iT (h1 h)
  · rw [decide_eq_false h]; exact iF (h2 h)
theorem iN {c : Prop} [Decidable c] {A B : Prop} (h1 : ¬ c → A) (h2 : c → B) : if (!decide c) = true then A else B := by
  by_cases h : c
  · rw [decide_eq_true h]; exact iF (h2 h)
  · rw [decide_eq_false h]; exact iT (h1 h)
theorem iB {b : Bool} {A B : Prop} (h1 : b = true → A) (h2 : b = false → B) : if b = true then A else B := by
  cases b with
  | true => exact iT (h1 rfl)
  | false => exact iF (h2 rfl)
end
end Rd
open Rd L2 in
section
local macro_rules | `(tactic| walk_at "rd") => `(tactic| first
  | with_reducible refine w_var rfl ?_
  | with_reducible refine w_c ?_
  | with_reducible refine w_op ?_)
end

set_option Elab.async false
set_option linter.all false
set_option maxRecDepth 100000
set_option maxHeartbeats 4000000
namespace Rd
open PySem PySem.Spec L2
section
variable {X : Cx}
theorem pgE (x : Str) {i : Int} {pos : Pos} (hm : ∃ t, X.mg x = some (.int i t)) (hg : Gl X x := by rfl) (hd : (x == ("__debug__" : Str)) = false := by decide) : PE X (.Name x pos) (tC (.int i)) := by
  obtain ⟨t, h⟩ := hm
  exact pe_glob hg h ⟨t, rfl⟩ hd
/-- e.f, as a target -/
def gFld (K : PySem.W.Frag) (to : TE) (f : Str) : TG := fun v σ H Q => to σ H fun x H1 => ∃ a C dx fs, x = .ref a ∧ H1 a = some (.ins C dx fs) ∧ Cls K C ∧ NoAttr K C f ∧ fs.length < 1000 ∧ Q σ (upd H1 a (.ins C dx (putF f v fs)))
theorem pg_fld {o : Expr} {f : Str} {pos : Pos} {to : TE} (ho : PE X o to) : PG X (.Attribute o f pos) (gFld X.K to f) := by
  refine ⟨fun pins s σ H v u Q I r h => ?_⟩
  rw [assign_Attribute]
  refine wpAny_bind (wpAny_holding (thn (ho.run pins s σ H _ I h) fun ov s1 ⟨x, H1, I1, r1, a, C, dx, fs, ex, ea, c, n, l, q1⟩ => ?_))
  subst ex
  obtain rfl : ov = Value.ref a := r1
  refine wpAny_bind (wpAny_standAt (wpAny_bind (wpAny_holding (setattr_ok I1 ea c n l r fun s3 I3 => ?_))))
  exact wpAny_release ⟨σ, _, I3, q1⟩
end
theorem same_get {H H' : Hp} {a : Addr} {o : HO} (s : Same H H') (h : H a = some o) : H' a = some o := s a o h
theorem same_upd {H : Hp} {a : Addr} {o : HO} (h : H a = none) : Same H (upd H a o) := fun b u e => by rw [upd_ne (ne_of_none e h)]; exact e
section
variable {σ : L2.St} {H : Hp} {Q : VK} {ta tb te : TE} {x y v : V} {K : PySem.W.Frag} {xs : List V}
theorem w_tupI (hl : xs.length ≤ 1000) (q : ∀ p H', Same H H' → H p = none → H' p = some (.tup xs) → Q (.ref p) H') : TupK xs H Q :=
  ⟨Nat.le_trans hl (by decide), fun p hp => q p _ (same_upd hp) hp upd_same⟩
theorem w_lstI (hl : xs.length ≤ 1000) (q : ∀ p H', Same H H' → H p = none → H' p = some (.lst xs) → Q (.ref p) H') : LstK xs H Q :=
  ⟨Nat.le_trans hl (by decide), fun p hp => q p _ (same_upd hp) hp upd_same⟩
theorem w_tup1 {x1 : V} (q : ∀ p H', Same H H' → H p = none → H' p = some (.tup [x1]) → Q (.ref p) H') : TupK [x1] H Q := w_tupI (by show 1 ≤ 1000; decide) q
theorem w_lst1 {x1 : V} (q : ∀ p H', Same H H' → H p = none → H' p = some (.lst [x1]) → Q (.ref p) H') : LstK [x1] H Q := w_lstI (by show 1 ≤ 1000; decide) q
theorem w_tup2 {x1 x2 : V} (q : ∀ p H', Same H H' → H p = none → H' p = some (.tup [x1, x2]) → Q (.ref p) H') : TupK [x1, x2] H Q := w_tupI (by show 2 ≤ 1000; decide) q
theorem w_lst2 {x1 x2 : V} (q : ∀ p H', Same H H' → H p = none → H' p = some (.lst [x1, x2]) → Q (.ref p) H') : LstK [x1, x2] H Q := w_lstI (by show 2 ≤ 1000; decide) q
theorem w_tup3 {x1 x2 x3 : V} (q : ∀ p H', Same H H' → H p = none → H' p = some (.tup [x1, x2, x3]) → Q (.ref p) H') : TupK [x1, x2, x3] H Q := w_tupI (by show 3 ≤ 1000; decide) q
theorem w_lst4 {x1 x2 x3 x4 : V} (q : ∀ p H', Same H H' → H p = none → H' p = some (.lst [x1, x2, x3, x4]) → Q (.ref p) H') : LstK [x1, x2, x3, x4] H Q := w_lstI (by show 4 ≤ 1000; decide) q
theorem w_lst3 {x1 x2 x3 : V} (q : ∀ p H', Same H H' → H p = none → H' p = some (.lst [x1, x2, x3]) → Q (.ref p) H') : LstK [x1, x2, x3] H Q := w_lstI (by show 3 ≤ 1000; decide) q
theorem w_in {p : Addr} (h : H p = some (.tup xs)) (f1 : flatV x = true) (f2 : xs.all flatV = true) (q : Q (.bl (inV x xs)) H) : rIn K false x (.ref p) H Q := ⟨p, xs, rfl, .inr (SqT.of h), f1, f2, q⟩
theorem w_nin {p : Addr} (h : H p = some (.tup xs)) (f1 : flatV x = true) (f2 : xs.all flatV = true) (q : Q (.bl (!inV x xs)) H) : rIn K true x (.ref p) H Q := ⟨p, xs, rfl, .inr (SqT.of h), f1, f2, q⟩
theorem w_gtup {n : Nat} {t : TGs} {a : Addr} {Q : L2.St → Hp → Prop} (h : H a = some (.tup xs)) (hn : xs.length = n) (q : t xs σ H Q) : gTup K n t (.ref a) σ H Q := ⟨a, xs, rfl, SqT.of h, hn, q⟩
theorem w_gcons {t : TG} {u : TGs} {v : V} {r : List V} {Q : L2.St → Hp → Prop} (h : t v σ H fun σ' H' => u r σ' H' Q) : gCons t u (v :: r) σ H Q := ⟨v, r, rfl, h⟩
theorem w_gnil {Q : L2.St → Hp → Prop} (h : Q σ H) : gNil [] σ H Q := ⟨rfl, h⟩
theorem w_ixT {p : Addr} {i : Int} (h : H p = some (.tup xs)) (ha : atI xs i = some v) (q : Q v H) : rIxT K (.ref p) (.int i) H Q := ⟨p, xs, i, v, rfl, rfl, SqT.of h, ha, q⟩
theorem w_ixL {p : Addr} {i : Int} (h : H p = some (.lst xs)) (ha : atI xs i = some v) (q : Q v H) : rIxL K (.ref p) (.int i) H Q := ⟨p, xs, i, v, rfl, rfl, SqL.of h, ha, q⟩
theorem w_isN (q : Q (.bl (decide (x = .non))) H) : (V.non = .non ∧ Q (.bl (decide (x = .non))) H) := ⟨rfl, q⟩
theorem dec_ii {i j : Int} : decide (V.int i = V.int j) = decide (i = j) := by
  by_cases h : i = j
  · subst h; simp
  · rw [decide_eq_false h, decide_eq_false (fun e => h (V.int.inj e))]
theorem dec_ss {i j : Str} : decide (V.str i = V.str j) = decide (i = j) := by
  by_cases h : i = j
  · subst h; simp
  · rw [decide_eq_false h, decide_eq_false (fun e => h (V.str.inj e))]
theorem dec_is {i : Int} {j : Str} : decide (V.int i = V.str j) = false := decide_eq_false (fun e => nomatch e)
theorem dec_si {i : Int} {j : Str} : decide (V.str j = V.int i) = false := decide_eq_false (fun e => nomatch e)
/-- the test of two ints for equality -/
theorem w_eqI {i j : Int} (q : Q (.bl (decide (i = j))) H) : rEq (.int i) (.int j) H Q := ⟨rfl, by rw [dec_ii]; exact q⟩
theorem w_neI {i j : Int} (q : Q (.bl (!decide (i = j))) H) : rNe (.int i) (.int j) H Q := ⟨rfl, by rw [dec_ii]; exact q⟩
theorem w_eqS {i j : Str} (q : Q (.bl (decide (i = j))) H) : rEq (.str i) (.str j) H Q := ⟨rfl, by rw [dec_ss]; exact q⟩
theorem w_eqIS {i : Int} {j : Str} (q : Q (.bl false) H) : rEq (.int i) (.str j) H Q := ⟨rfl, by rw [dec_is]; exact q⟩
theorem w_eqSI {i : Int} {j : Str} (q : Q (.bl false) H) : rEq (.str j) (.int i) H Q := ⟨rfl, by rw [dec_si]; exact q⟩
/-- the object ahead of a method's call -/
def MethK (C : Addr) (m : Str) (R : V → Hp → Prop) (x : V) (H : Hp) : Prop := ∃ a dx fs, x = .ref a ∧ H a = some (.ins C dx fs) ∧ fs.lookup m = none ∧ R x H
theorem w_meth {C : Addr} {m : Str} {sp : Sp} {dvs : List V} {E : XK} {t : TA} (h : ta σ H fun x H1 => MethK C m (fun x H1 => t σ H1 fun vs H2 => sp (x :: (vs ++ dvs)) H2 Q E) x H1) : tMeth C m sp dvs E ta t σ H Q := h
theorem w_methI {C : Addr} {m : Str} {R : V → Hp → Prop} {a dx : Addr} {fs : List (Str × V)} (h : H a = some (.ins C dx fs)) (l : fs.lookup m = none) (q : R (.ref a) H) : MethK C m R (.ref a) H := ⟨a, dx, fs, rfl, h, l, q⟩
theorem w_nn {R : Prop} (q : R) : V.non = V.non ∧ R := ⟨rfl, q⟩
end
/-- a class whose __init__ has defaults dvs behind what is written -/
structure KnCD (P : Program) (w : World) (K : PySem.W.Frag) (mg : Str → Option Value) (base : Heap) (CX : CXT) (k : Nat) (x : Str) (C : Addr) (ps : List Str) (dvs : List V) (sp : Sp) : Prop where
  ex : ∃ f fd ds, mg x = some (.ref C) ∧ Mk K C f ∧ Vals dvs ds ∧ Binds K fd ps ds ∧ FnOk P w K mg base CX k f fd ps sp
theorem pkCD {X : Cx} {k j : Nat} {x : Str} {ps : List Str} {sp : Sp} {p pos : Pos} {e : Expr} {es : List Expr} {t : TA} {C : Addr} {dvs : List V} (h : KnCD X.prog X.w X.K X.mg X.base CX0 k x C ps dvs sp) (hr : Room j X.A) (ha : PA X (e :: es) t) (hj : k + 1 ≤ j := by decide) (hg : Gl X x := by rfl) (hdb : (x == ("__debug__" : Str)) = false := by decide)
    (he : starEach (e :: es) X.env = (false, eval e X.env) :: starEach es X.env := by rfl) (hpl : (backTo pos (starEach es X.env)).any (·.1) = false := by rfl) : PE X (.Call (.Name x p) (e :: es) [] pos) (tMake C sp dvs E0 t) := by
  obtain ⟨f, fd, ds, a, b, c, d, g⟩ := h.ex
  exact pe_make b g (hr.mono hj) hg a d c pass0 ha hdb he hpl
def MakeKD (C : Addr) (sp : Sp) (dvs vs : List V) (H1 : Hp) (Q : VK) (E : XK) : Prop := ∀ x dx, H1 x = none → H1 dx = none → dx ≠ x → sp (.ref x :: (vs ++ dvs)) (upd (upd H1 dx (.own x)) x (.ins C dx [])) (fun v H2 => v = .non ∧ Q (.ref x) H2) E
theorem w_makeD {C : Addr} {sp : Sp} {E : XK} {t : TA} {dvs : List V} {σ : L2.St} {H : Hp} {Q : VK} (h : t σ H fun vs H1 => MakeKD C sp dvs vs H1 Q E) : tMake C sp dvs E t σ H Q := h
/-- xs * k -/
theorem w_rep {l : Addr} {k : Int} {xs : List V} {H : Hp} {Q : VK} (h : H l = some (.lst xs)) (h1 : -(2 ^ 63) ≤ k) (h2 : k < 2 ^ 63) (h3 : xs.length * k.toNat ≤ sizeLine) (q : ∀ p H', Same H H' → H p = none → H' p = some (.lst (List.replicate k.toNat xs).flatten) → Q (.ref p) H') : rRep (.ref l) (.int k) H Q :=
  ⟨l, k, xs, rfl, rfl, h, h1, h2, h3, fun p hp => q p _ (same_upd hp) hp upd_same⟩
theorem w_lenL {p : Addr} {K : PySem.W.Frag} {xs : List V} {H : Hp} {R : List V → Prop} (h : H p = some (.lst xs)) (q : R xs) : ∃ p' ys, [V.ref p] = [V.ref p'] ∧ (SqL K H p' ys ∨ SqT K H p' ys) ∧ R ys := ⟨p, xs, rfl, .inl (SqL.of h), q⟩
/-- all but what stands at x is as it was -/
def Oth (x : Addr) (H H' : Hp) : Prop := ∀ b o, b ≠ x → H b = some o → H' b = some o
theorem Oth.refl {x : Addr} {H : Hp} : Oth x H H := fun _ _ _ e => e
theorem Oth.same {x : Addr} {H H1 H2 : Hp} (a : Oth x H H1) (s : Same H1 H2) : Oth x H H2 := fun b o hb e => s b o (a b o hb e)
theorem Oth.put {x : Addr} {H H1 : Hp} {o : HO} (a : Oth x H H1) : Oth x H (upd H1 x o) := fun b u hb e => by rw [upd_ne hb]; exact a b u hb e
theorem Oth.trans {x : Addr} {H H1 H2 : Hp} (a : Oth x H H1) (b : Oth x H1 H2) : Oth x H H2 := fun c o hc e => b c o hc (a c o hc e)
theorem Same.oth {x : Addr} {H H1 : Hp} (s : Same H H1) : Oth x H H1 := fun b o _ e => s b o e
end Rd

set_option Elab.async false
set_option linter.all false
set_option maxRecDepth 100000
set_option autoImplicit false
set_option maxHeartbeats 4000000
namespace Rd
open PySem PySem.Spec PyProof.Rows PySem.SeqAt L2
/-! bool - bool -/
theorem sub_bools (a b : Bool) : Gives (Builtin.«int.__sub__» ⟨[.bool a, .bool b], []⟩) (.int ((if a = true then (1 : Int) else 0) - if b = true then (1 : Int) else 0)) :=
  .of_wp fun M A E s Q h => by obtain ⟨hp, g, d, tk, os⟩ := s; wp_walk; exact ⟨_, rfl, h⟩
def rSubB : R2 := fun x y H Q => ∃ a b, x = .bl a ∧ y = .bl b ∧ Q (.int ((if a = true then (1 : Int) else 0) - if b = true then (1 : Int) else 0)) H
theorem op_sub_bb {X : Cx} : OpR X (binaryOp .Sub) rSubB := by
  intro pins s σ H x y v u Q I rx ry h
  obtain ⟨a, b, rfl, rfl, q⟩ := h
  cases rx
  cases ry
  exact binaryOp_gives (op := .Sub) (T := "bool") rfl rfl F.fills_bool_sub F.slot_bool_sub F.entry_int_sub (F.args_int_sub_2 _ _) (sub_bools a b) trivial ⟨.int _, H, I.tok _, ⟨_, rfl⟩, q⟩
theorem w_subB {H : Hp} {Q : VK} {a b : Bool} (q : Q (.int ((if a = true then (1 : Int) else 0) - if b = true then (1 : Int) else 0)) H) : rSubB (.bl a) (.bl b) H Q := ⟨a, b, rfl, rfl, q⟩
/-! == of instances without an __eq__ of their own -/
section
variable {prog : Program} {w : World} {A : Around} {E : Value → Shared → Prop} {s : Shared} {K : PySem.W.Frag} {x y C : Addr} {ox oy : Obj} {od od' : Option Obj}
theorem call_objEqO {Q : Value → Shared → Prop} (X : K.In s.heap) (I : PySem.W.InstAt s.heap x ox C od) (hm : PySem.W.mroIn K C (.type "object") = some true) (hx : s.heap.get? x = some ox) (hy : s.heap.get? y = some oy) (hxy : x ≠ y) (hnt : ox.cls ≠ .type "tuple") (hq : Q .notImplemented s) :
    wpAny (model prog w) A (call (.builtin "object.__eq__") [.ref x, .ref y]) Q E s :=
  wpAny_call (codeAny_call_builtin F.cmp_object.eq.plain F.cmpEntry_eq (PySem.W.check_slot F.cmpKind_eq F.cmpSplit_eq (I.type.andThen (PySem.W.looks_mroIn X hm)) (F.cmpArgs_eq _ _) (objEq_entry_other hxy hx hy hnt hq)))
theorem call_objEqS {Q : Value → Shared → Prop} (X : K.In s.heap) (I : PySem.W.InstAt s.heap x ox C od) (hm : PySem.W.mroIn K C (.type "object") = some true) (hq : Q (.bool true) s) :
    wpAny (model prog w) A (call (.builtin "object.__eq__") [.ref x, .ref x]) Q E s :=
  wpAny_call (codeAny_call_builtin F.cmp_object.eq.plain F.cmpEntry_eq (PySem.W.check_slot F.cmpKind_eq F.cmpSplit_eq (I.type.andThen (PySem.W.looks_mroIn X hm)) (F.cmpArgs_eq _ _) (objEq_entry_same hq)))
theorem rc_other (hu : A.units < cLine) (X : K.In s.heap) (I : PySem.W.InstAt s.heap x ox C od) (I' : PySem.W.InstAt s.heap y oy C od') (hx : s.heap.get? x = some ox) (hy : s.heap.get? y = some oy) (hnt : ox.cls ≠ .type "tuple") (hnt' : oy.cls ≠ .type "tuple") (hxy : x ≠ y)
    (hm : PySem.W.mroIn K C (.type "object") = some true) (hs : PySem.W.findIn K (.ref C) "__eq__" = some (some (.builtin "object.__eq__"))) : RcAt A s (.ref x) (.ref y) false := fun prog w E Q h => by
  have one : wpAny (model prog w) A (tryCompare (.ref x) "__eq__" (.ref y)) (fun r s' => r = none ∧ s' = s) E s := by
    unfold tryCompare
    exact wpAny_bind (HN.ifBound_objEq X I hs (call_objEqO X I hm hx hy hxy hnt (wpAny_pure ⟨rfl, rfl⟩)))
  have two : wpAny (model prog w) A (tryCompare (.ref y) "__eq__" (.ref x)) (fun r s' => r = none ∧ s' = s) E s := by
    unfold tryCompare
    exact wpAny_bind (HN.ifBound_objEq X I' hs (call_objEqO X I' hm hy hx hxy.symm hnt' (wpAny_pure ⟨rfl, rfl⟩)))
  simp only [richCompare, cmpInfo_Eq, oneThing_ref]
  refine wpAny_holding (wpAny_bind (wpAny_cRoomFor hu ?_))
  refine wpAny_bind (I.type.here ?_)
  refine wpAny_bind (I'.type.here ?_)
  rw [if_neg (by simp)]
  refine wpAny_bind (wpAny_pure ?_)
  simp only [Bool.false_eq_true, if_false, Bool.not_false, if_true]
  refine wpAny_bind (m := tryCompare (.ref x) _ (.ref y)) (wpAny_mono one (fun r s1 z => ?_) fun _ _ e => e)
  obtain ⟨z1, z2⟩ := z
  subst z1
  subst z2
  refine wpAny_bind (m := tryCompare (.ref y) _ (.ref x)) (wpAny_mono two (fun r s2 z => ?_) fun _ _ e => e)
  obtain ⟨z1, z2⟩ := z
  subst z1
  subst z2
  exact wpAny_bind (wpAny_rule (wpAny_bind (wpAny_isSame_ref_other hxy hx hy hnt (wpAny_pure h))))
theorem rc_self (hu : A.units < cLine) (X : K.In s.heap) (I : PySem.W.InstAt s.heap x ox C od) (hm : PySem.W.mroIn K C (.type "object") = some true) (hs : PySem.W.findIn K (.ref C) "__eq__" = some (some (.builtin "object.__eq__"))) : RcAt A s (.ref x) (.ref x) true := fun prog w E Q h => by
  have one : wpAny (model prog w) A (tryCompare (.ref x) "__eq__" (.ref x)) (fun r s' => r = some (.bool true) ∧ s' = s) E s := by
    unfold tryCompare
    exact wpAny_bind (HN.ifBound_objEq X I hs (call_objEqS X I hm (wpAny_pure ⟨rfl, rfl⟩)))
  simp only [richCompare, cmpInfo_Eq, oneThing_ref]
  refine wpAny_holding (wpAny_bind (wpAny_cRoomFor hu ?_))
  refine wpAny_bind (I.type.here ?_)
  refine wpAny_bind (I.type.here ?_)
  rw [if_neg (by simp)]
  refine wpAny_bind (wpAny_pure ?_)
  simp only [Bool.false_eq_true, if_false, Bool.not_false, if_true]
  refine wpAny_bind (m := tryCompare (.ref x) _ (.ref x)) (wpAny_mono one (fun r s1 z => ?_) fun _ _ e => e)
  obtain ⟨z1, z2⟩ := z
  subst z1
  subst z2
  exact wpAny_pure h
theorem rc_none2 (hu : A.units < cLine) (X : K.In s.heap) (I : PySem.W.InstAt s.heap x ox C od) (hm : PySem.W.mroIn K C (.type "object") = some true) (hs : PySem.W.findIn K (.ref C) "__eq__" = some (some (.builtin "object.__eq__")))
    (hsub : PySem.W.subIn K (.ref C) (.type "NoneType") = some false) : RcAt A s .none (.ref x) false := fun prog w E Q h => by
  have one : wpAny (model prog w) A (tryCompare (.ref x) "__eq__" .none) (fun r s' => r = none ∧ s' = s) E s := by
    unfold tryCompare
    exact wpAny_bind (HN.ifBound_objEq X I hs (HN.call_objEq X I hm (wpAny_pure ⟨rfl, rfl⟩)))
  have two : wpAny (model prog w) A (tryCompare .none "__eq__" (.ref x)) (fun r s' => r = none ∧ s' = s) E s :=
    wpAny_tryCompare_declines (show s.TypeIs .none "NoneType" from rfl) F.slot_NoneType_eq_refl (call_gives F.slot_NoneType_eq_refl rfl F.entry_NoneType_eq (F.args_NoneType_eq_2 _ _) (NoneType___eq___none_ref_0 x) ⟨rfl, rfl, rfl⟩)
  simp only [richCompare, cmpInfo_Eq]
  refine wpAny_holding (wpAny_bind (wpAny_cRoomFor hu ?_))
  refine wpAny_bind (wpAny_typeOf (show s.TypeIs .none "NoneType" from rfl) ?_)
  refine wpAny_bind (I.type.here ?_)
  rw [if_pos (by simp)]
  refine wpAny_bind ((PySem.W.looks_subIn X hsub).here ?_)
  simp only [Bool.false_eq_true, if_false, Bool.not_false, if_true]
  refine wpAny_bind (m := tryCompare .none _ (.ref x)) (wpAny_mono two (fun r s1 z => ?_) fun _ _ e => e)
  obtain ⟨z1, z2⟩ := z
  subst z1
  subst z2
  refine wpAny_bind (m := tryCompare (.ref x) _ .none) (wpAny_mono one (fun r s2 z => ?_) fun _ _ e => e)
  obtain ⟨z1, z2⟩ := z
  subst z1
  subst z2
  exact wpAny_bind (wpAny_rule (wpAny_bind (wpAny_of_eq (rfl : isSame .none (.ref x) = pure false) (wpAny_pure h))))
end
/-- what the text's class at C must have for the == of object -/
structure ObjC (K : PySem.W.Frag) (C : Addr) : Prop where
  hm : PySem.W.mroIn K C (.type "object") = some true
  hs : PySem.W.findIn K (.ref C) "__eq__" = some (some (.builtin "object.__eq__"))
  hn : PySem.W.subIn K (.ref C) (.type "NoneType") = some false
def InsV (C : Addr) (H : Hp) (x : V) : Prop := ∃ a dx fs, x = .ref a ∧ H a = some (.ins C dx fs)
def rEqO (C : Addr) : R2 := fun x y H Q => (scal x y = true ∨ (InsV C H x ∧ (y = .non ∨ InsV C H y)) ∨ (x = .non ∧ InsV C H y)) ∧ Q (.bl (decide (x = y))) H
theorem op_eqO {X : Cx} {C : Addr} (hu : X.A.units < cLine) (O : ObjC X.K C) : OpR X (compareOp .Eq) (rEqO C) := by
  intro pins s σ H x y v u Q I rx ry h
  obtain ⟨c, q⟩ := h
  rcases c with c | ⟨⟨a, dx, fs, rfl, ha⟩, c⟩ | ⟨rfl, ⟨b, dy, gs, rfl, hb⟩⟩
  · exact op_eq pins s σ H x y v u Q I rx ry ⟨c, q⟩
  · cases rx
    obtain ⟨mA, OA, _⟩ := ins_get I.hok ha
    obtain ⟨od, J, _⟩ := OA.look
    have ga : s.heap.get? a = some (PySem.W.instObj C dx) := OA.obj
    rcases c with rfl | ⟨b, dy, gs, rfl, hb⟩
    · cases ry
      show wpAny (model X.prog X.w) X.A (richCompare .Eq _ _) (EP X pins σ Q) X.xe s
      refine HN.rc_none hu I.kIn J O.hm O.hs X.prog X.w X.xe _ ⟨.bl false, H, I, rfl, ?_⟩
      rw [decide_eq_false (fun e => nomatch e)] at q
      exact q
    · cases ry
      obtain ⟨mB, OB, _⟩ := ins_get I.hok hb
      obtain ⟨od', J', _⟩ := OB.look
      have gb : s.heap.get? b = some (PySem.W.instObj C dy) := OB.obj
      show wpAny (model X.prog X.w) X.A (richCompare .Eq _ _) (EP X pins σ Q) X.xe s
      by_cases hab : a = b
      · subst hab
        refine rc_self hu I.kIn J O.hm O.hs X.prog X.w X.xe _ ⟨.bl true, H, I, rfl, ?_⟩
        rw [decide_eq_true rfl] at q
        exact q
      · refine rc_other hu I.kIn J J' ga gb (by intro e; cases e) (by intro e; cases e) hab O.hm O.hs X.prog X.w X.xe _ ⟨.bl false, H, I, rfl, ?_⟩
        rw [decide_eq_false (fun e => hab (V.ref.inj e))] at q
        exact q
  · cases rx
    cases ry
    obtain ⟨mB, OB, _⟩ := ins_get I.hok hb
    obtain ⟨od', J', _⟩ := OB.look
    show wpAny (model X.prog X.w) X.A (richCompare .Eq _ _) (EP X pins σ Q) X.xe s
    refine rc_none2 hu I.kIn J' O.hm O.hs O.hn X.prog X.w X.xe _ ⟨.bl false, H, I, rfl, ?_⟩
    rw [decide_eq_false (fun e => nomatch e)] at q
    exact q
end Rd

set_option Elab.async false
set_option linter.all false
set_option maxRecDepth 100000
set_option autoImplicit false
set_option maxHeartbeats 4000000
namespace Rd
open PySem PySem.Spec PyProof.Rows L2
section
variable {σ : L2.St} {H : Hp} {Q : VK} {K : PySem.W.Frag}
theorem w_int1 {R : Int → Prop} {S : Bool → Prop} {i : Int} (q : R i) : (∃ i', [V.int i] = [V.int i'] ∧ R i') ∨ (∃ k, [V.int i] = [V.bl k] ∧ S k) := .inl ⟨i, rfl, q⟩
theorem w_intB {R : Int → Prop} {S : Bool → Prop} {k : Bool} (q : S k) : (∃ i', [V.bl k] = [V.int i'] ∧ R i') ∨ (∃ k', [V.bl k] = [V.bl k'] ∧ S k') := .inr ⟨k, rfl, q⟩
theorem w_gsub {to ti : TE} {t : TSet} {v : V} {Q : L2.St → Hp → Prop} (h : to σ H fun o H1 => ti σ H1 fun i H2 => t o i v H2 fun H3 => Q σ H3) : gSub to ti t v σ H Q := h
theorem w_setL {p : Addr} {xs : List V} {k : Int} {j : Nat} {v : V} {Q : Hp → Prop} (h : H p = some (.lst xs)) (hj : ixN xs.length k = some j) (q : Q (upd H p (.lst (xs.set j v)))) : rSetL (.ref p) (.int k) v H Q := ⟨p, xs, k, j, rfl, rfl, h, hj, q⟩
theorem w_for {wi : TI} {g : TG} {tb : TS} {D : Ends} (h : wi σ H fun J H1 => ∃ W : Nat → Nat → L2.St → Hp → Prop, (∃ m, W 0 m σ H1) ∧ ∀ i m σ H, W i m σ H →
  (J.stop i H ∧ D.nx σ H) ∨ (J.go i H ∧ ∃ N : L2.St → Hp → Prop, (∀ σ' H', N σ' H' → ∃ m', m' < m ∧ W (i + 1) m' σ' H') ∧ ∀ x H', J.yld i H x H' → g x σ H' fun σ2 H2 => tb { D with nx := N, ct := N, bk := D.nx } σ2 H2)) : tFor wi g tb D σ H := h
def Rng1K (R : It → Hp → Prop) (j : Int) (H : Hp) : Prop := -(2 ^ 62) ≤ j ∧ j < 2 ^ 62 ∧ R (Itr 0 j.toNat) H
theorem w_rng1 {ta : TA} {R : It → Hp → Prop} (h : ta σ H fun vs H1 => ∃ j : Int, vs = [.int j] ∧ -(2 ^ 62) ≤ j ∧ j < 2 ^ 62 ∧ R (Itr 0 j.toNat) H1) : iRng1 ta σ H R := h
theorem w_iList {tl : TE} {R : It → Hp → Prop} (h : tl σ H fun x H1 => ∃ a, x = .ref a ∧ (∃ xs, SqL K H1 a xs) ∧ R (Itl K a) H1) : iList K tl σ H R := h
theorem w_iTup {tl : TE} {R : It → Hp → Prop} (h : tl σ H fun x H1 => ∃ a, x = .ref a ∧ (∃ xs, SqT K H1 a xs) ∧ R (Itt K a) H1) : iTup K tl σ H R := h
theorem w_rng1I {R : Int → Prop} {j : Int} (h1 : -(2 ^ 62) ≤ j) (h2 : j < 2 ^ 62) (q : R j) : ∃ j' : Int, [V.int j] = [V.int j'] ∧ -(2 ^ 62) ≤ j' ∧ j' < 2 ^ 62 ∧ R j' := ⟨j, rfl, h1, h2, q⟩
theorem w_iListI {R : Addr → Prop} {a : Addr} {xs : List V} (h : H a = some (.lst xs)) (q : R a) : ∃ a', V.ref a = .ref a' ∧ (∃ xs, SqL K H a' xs) ∧ R a' := ⟨a, rfl, ⟨xs, SqL.of h⟩, q⟩
theorem w_iTupI {R : Addr → Prop} {a : Addr} {xs : List V} (h : H a = some (.tup xs)) (q : R a) : ∃ a', V.ref a = .ref a' ∧ (∃ xs, SqT K H a' xs) ∧ R a' := ⟨a, rfl, ⟨xs, SqT.of h⟩, q⟩
/-- xs + ys, lists -/
theorem w_cat {l b : Addr} {xs zs : List V} (h : H l = some (.lst xs)) (h' : H b = some (.lst zs)) (hz : xs.length + zs.length ≤ sizeLine) (q : ∀ p H', Same H H' → H p = none → H' p = some (.lst (xs ++ zs)) → Q (.ref p) H') : rCat (.ref l) (.ref b) H Q :=
  ⟨l, b, xs, zs, rfl, rfl, h, h', hz, fun p hp => q p _ (same_upd hp) hp upd_same⟩
end
theorem cmulW {i j : Int} (h : (Builtin.Int.intBits i : Int) + (Builtin.Int.intBits j : Int) ≤ 134217728) : CMulX i j := h
theorem cpow {i j : Int} (h0 : 0 ≤ j) (h1 : j ≤ 1000000) (h2 : i.natAbs < 2 ^ 64) : CPow i j := ⟨h0, h1, h2⟩
end Rd

set_option Elab.async false
set_option linter.all false
set_option maxRecDepth 100000
set_option maxHeartbeats 4000000
/-! The numbers of the program as plain functions. -/
namespace Nu
open PySem L2
abbrev bits (n : Int) : Int := (Builtin.Int.intBits n : Nat)
theorem bits_nn (n : Int) : 0 ≤ bits n := Int.natCast_nonneg _
theorem bits_le {n : Int} {k : Nat} : bits n ≤ k ↔ n.natAbs < 2 ^ k := by
  unfold bits
  rw [Int.ofNat_le]
  exact PySem.intBits_le_iff
theorem bits_zero : bits 0 = 0 := rfl
theorem pow_pos2 (k : Nat) : (0 : Int) < 2 ^ k := Int.pow_pos (by decide)
theorem pow_mono {a b : Nat} (h : a ≤ b) : (2 : Int) ^ a ≤ 2 ^ b := by
  have e : b = a + (b - a) := by omega
  rw [e, Int.pow_add]
  have h1 := pow_pos2 a
  have h2 := pow_pos2 (b - a)
  have := Int.mul_le_mul_of_nonneg_left (show (1 : Int) ≤ 2 ^ (b - a) by omega) (Int.le_of_lt h1)
  omega
theorem pow_cast (k : Nat) : ((2 ^ k : Nat) : Int) = 2 ^ k := by simp
theorem bits_lt_pow {n : Int} (h : 0 ≤ n) {k : Nat} : bits n ≤ k ↔ n < 2 ^ k := by
  rw [bits_le]
  have e := pow_cast k
  omega
/-- 2 ^ (bits n - 1) ≤ n < 2 ^ bits n -/
theorem lt_pow_bits {n : Int} (h : 0 ≤ n) : n < 2 ^ (Builtin.Int.intBits n) := (bits_lt_pow h).1 (Int.le_refl _)
theorem pow_bits_le {n : Int} (h : 0 < n) : (2 : Int) ^ (Builtin.Int.intBits n - 1) ≤ n := by
  have hb : Builtin.Int.intBits n ≠ 0 := by
    intro e
    have := lt_pow_bits (n := n) (by omega)
    rw [e] at this
    simp at this
    omega
  have h2 : ¬ bits n ≤ ((Builtin.Int.intBits n - 1 : Nat) : Int) := by
    unfold bits
    omega
  rw [bits_lt_pow (by omega)] at h2
  omega
theorem bits_pos {n : Int} (h : 0 < n) : 0 < Builtin.Int.intBits n := by
  have := lt_pow_bits (n := n) (by omega)
  rcases Nat.eq_zero_or_pos (Builtin.Int.intBits n) with e | e
  · rw [e] at this; simp at this; omega
  · exact e
/-- bits by its bounds -/
theorem bits_eq {n : Int} {k : Nat} (h1 : (2 : Int) ^ k ≤ n) (h2 : n < 2 ^ (k + 1)) : bits n = k + 1 := by
  have p := pow_pos2 k
  have a : bits n ≤ ((k + 1 : Nat) : Int) := (bits_lt_pow (by omega)).2 h2
  have b : ¬ bits n ≤ ((k : Nat) : Int) := by rw [bits_lt_pow (by omega)]; omega
  omega
theorem bits_shift {n : Int} (h : 0 < n) (k : Nat) : bits (n * 2 ^ k) = bits n + k := by
  have hp := bits_pos h
  have h1 := pow_bits_le h
  have h2 := lt_pow_bits (n := n) (by omega)
  have pk := pow_pos2 k
  have e : Builtin.Int.intBits n - 1 + 1 = Builtin.Int.intBits n := by omega
  have a1 : (2 : Int) ^ (Builtin.Int.intBits n - 1 + k) ≤ n * 2 ^ k := by
    rw [Int.pow_add]
    exact Int.mul_le_mul_of_nonneg_right h1 (by omega)
  have a2 : n * 2 ^ k < 2 ^ (Builtin.Int.intBits n - 1 + k + 1) := by
    rw [show Builtin.Int.intBits n - 1 + k + 1 = Builtin.Int.intBits n + k by omega, Int.pow_add]
    exact Int.mul_lt_mul_of_pos_right h2 pk
  rw [bits_eq a1 a2]
  unfold bits
  omega
theorem bits_mono {a b : Int} (h0 : 0 ≤ a) (h : a ≤ b) : bits a ≤ bits b := by
  have := lt_pow_bits (n := b) (by omega)
  exact (bits_lt_pow h0).2 (by omega)

/-! ### the lowest bit -/
theorem nat_low (k j : Nat) : (2 ^ k * (2 * j + 1)) &&& (2 ^ k * (2 * j + 1) - 1) = 2 ^ (k + 1) * j := by
  have hp : 0 < 2 ^ k := Nat.two_pow_pos k
  have e1 : 2 ^ k * (2 * j + 1) = 2 ^ (k + 1) * j + 2 ^ k := by
    rw [Nat.pow_succ, Nat.mul_add, Nat.mul_one, Nat.mul_assoc]
  have e2 : 2 ^ k * (2 * j + 1) - 1 = 2 ^ (k + 1) * j + (2 ^ k - 1) := by rw [e1]; omega
  have l1 : 2 ^ k < 2 ^ (k + 1) := by rw [Nat.pow_succ]; omega
  have l2 : 2 ^ k - 1 < 2 ^ (k + 1) := by omega
  rw [e2]
  conv => lhs; lhs; rw [e1]
  apply Nat.eq_of_testBit_eq
  intro i
  rw [Nat.testBit_and, Nat.testBit_two_pow_mul_add _ l1, Nat.testBit_two_pow_mul_add _ l2]
  have e3 : 2 ^ (k + 1) * j = 2 ^ (k + 1) * j + 0 := rfl
  rw [e3, Nat.testBit_two_pow_mul_add _ (Nat.two_pow_pos _)]
  by_cases hi : i < k + 1
  · rw [if_pos hi, if_pos hi, if_pos hi, Nat.testBit_two_pow, Nat.testBit_two_pow_sub_one, Nat.zero_testBit]
    by_cases hk : k = i
    · subst hk; simp
    · simp [hk]
  · rw [if_neg hi, if_neg hi, if_neg hi, Bool.and_self]
theorem nat_odd : ∀ n : Nat, 0 < n → ∃ k j : Nat, n = 2 ^ k * (2 * j + 1) := by
  intro n
  induction n using Nat.strongRecOn with
  | ind n ih =>
    intro h
    by_cases c : n % 2 = 1
    · exact ⟨0, n / 2, by simp; omega⟩
    · obtain ⟨k, j, e⟩ := ih (n / 2) (by omega) (by omega)
      refine ⟨k + 1, j, ?_⟩
      have e2 : n = 2 * (n / 2) := by omega
      rw [e2, e, Nat.pow_succ]
      rw [Nat.mul_comm (2 ^ k) 2, Nat.mul_assoc]
/-- what (top & -top).bit_length() - 1 is -/
def less (t : Int) : Int := bits (Builtin.bitAnd t (0 - t)) - 1
theorem less_spec {t : Int} (h : 0 < t) : ∃ (k : Nat) (m : Int), 0 ≤ m ∧ t = 2 ^ k * (2 * m + 1) ∧ less t = k := by
  obtain ⟨n, rfl⟩ := Int.eq_ofNat_of_zero_le (Int.le_of_lt h)
  obtain ⟨k, j, e⟩ := nat_odd n (by omega)
  have hp : 0 < 2 ^ k := Nat.two_pow_pos k
  refine ⟨k, j, Int.natCast_nonneg _, ?_, ?_⟩
  · rw [e]
    simp
  · have a : decide (0 ≤ (n : Int)) = true := decide_eq_true (Int.natCast_nonneg _)
    have b : decide (0 ≤ (0 - (n : Int))) = false := decide_eq_false (by omega)
    have c : Builtin.bitNot (0 - (n : Int)) = ((n - 1 : Nat) : Int) := by
      show -(0 - (n : Int)) - 1 = _
      omega
    have d : Builtin.bitAnd (n : Int) (0 - (n : Int)) = 2 ^ k := by
      unfold Builtin.bitAnd
      rw [a, b]
      show (n : Int) - ((((n : Int).toNat &&& (Builtin.bitNot (0 - (n : Int))).toNat : Nat)) : Int) = 2 ^ k
      rw [c, Int.toNat_natCast, Int.toNat_natCast, e, nat_low]
      have e1 : 2 ^ k * (2 * j + 1) = 2 ^ (k + 1) * j + 2 ^ k := by
        rw [Nat.pow_succ, Nat.mul_add, Nat.mul_one, Nat.mul_assoc]
      rw [e1, ← pow_cast k]
      omega
    unfold less
    rw [d, bits_eq (k := k) (Int.le_refl _) (by rw [Int.pow_succ]; have := pow_pos2 k; omega)]
    omega
/-- top and power with an odd top -/
def red (t p : Int) : Int × Int := if t = 0 then (0, 0) else (t / 2 ^ (less t).toNat, p + less t)
theorem red_zero (p : Int) : red 0 p = (0, 0) := if_pos rfl
theorem red_spec {t : Int} (h : 0 < t) (p : Int) : ∃ (k : Nat) (m : Int), 0 ≤ m ∧ t = 2 ^ k * (2 * m + 1) ∧ red t p = (2 * m + 1, p + k) := by
  obtain ⟨k, m, hm, e, l⟩ := less_spec h
  refine ⟨k, m, hm, e, ?_⟩
  unfold red
  rw [if_neg (by omega), l, Int.toNat_natCast]
  have : t / 2 ^ k = 2 * m + 1 := by
    rw [e]
    exact Int.mul_ediv_cancel_left _ (by have := pow_pos2 k; omega)
  rw [this]
def fitsB (t p : Int) : Bool := (decide (t < 9007199254740992) && (decide (-1074 ≤ p) && decide (bits t + p ≤ 1024))) || decide (t = 0)
theorem pow53 : (9007199254740992 : Int) = 2 ^ 53 := by decide
/-- what nearest hands to Float fits -/
theorem red_fits {t p : Int} (h0 : 0 ≤ t) (h1 : t ≤ 9007199254740992) (h2 : -1074 ≤ p) (h3 : bits t + p ≤ 1024) : fitsB (red t p).1 (red t p).2 = true := by
  by_cases z : t = 0
  · subst z; rw [red_zero]; decide
  · obtain ⟨k, m, hm, e, r⟩ := red_spec (t := t) (by omega) p
    rw [r]
    have pk := pow_pos2 k
    have hlt : 2 * m + 1 < 9007199254740992 := by
      by_cases k0 : k = 0
      · subst k0
        simp at e
        omega
      · have p2 : (2 : Int) ≤ 2 ^ k := by
          obtain ⟨j, rfl⟩ : ∃ j, k = j + 1 := ⟨k - 1, by omega⟩
          rw [Int.pow_succ]
          have := pow_pos2 j
          omega
        have : 2 * (2 * m + 1) ≤ 2 ^ k * (2 * m + 1) := Int.mul_le_mul_of_nonneg_right p2 (by omega)
        omega
    have hb : bits t = bits (2 * m + 1) + k := by
      rw [e, Int.mul_comm]
      exact bits_shift (by omega) k
    unfold fitsB
    rw [decide_eq_true hlt, decide_eq_true (show -1074 ≤ p + (k : Int) by omega), decide_eq_true (show bits (2 * m + 1) + (p + (k : Int)) ≤ 1024 by omega)]
    rfl
end Nu

set_option Elab.async false
set_option linter.all false
set_option maxRecDepth 100000
set_option maxHeartbeats 4000000
set_option autoImplicit false
namespace Nu
open PySem L2
def pw (t b : Int) : Int := if -1074 > bits t - bits b - 53 then -1074 else bits t - bits b - 53
def t1 (t b : Int) : Int := if pw t b < 0 then t * 2 ^ (0 - pw t b).toNat else t
def b1 (t b : Int) : Int := if pw t b < 0 then b else b * 2 ^ (pw t b).toNat
def b2 (t b : Int) : Int := if 9007199254740992 ≤ t1 t b / b1 t b then b1 t b * 2 ^ (1 : Int).toNat else b1 t b
def p2 (t b : Int) : Int := if 9007199254740992 ≤ t1 t b / b1 t b then pw t b + 1 else pw t b
def wq (t b : Int) : Int := t1 t b / b2 t b
def wr (t b : Int) : Int := t1 t b % b2 t b
def goesUp (t b : Int) : Prop := b2 t b < 2 * wr t b ∨ (2 * wr t b = b2 t b ∧ Builtin.bitAnd (wq t b) 1 = 1)
instance (t b : Int) : Decidable (goesUp t b) := inferInstanceAs (Decidable (_ ∨ _))
def wh (t b : Int) : Int := if goesUp t b then wq t b + 1 else wq t b
section
variable {t b : Int}
theorem pw_ge : -1074 ≤ pw t b := by unfold pw; split <;> omega
theorem pw_ge2 : bits t - bits b - 53 ≤ pw t b := by unfold pw; split <;> omega
theorem pw_le (h : bits t ≤ 2200) : pw t b ≤ 2200 := by
  have := bits_nn b
  unfold pw; split <;> omega
theorem bits_mul_pow {n : Int} (h : 0 ≤ n) (k : Nat) : bits (n * 2 ^ k) ≤ bits n + k := by
  by_cases z : n = 0
  · subst z; rw [Int.zero_mul, bits_zero]; omega
  · rw [bits_shift (by omega)]; omega
theorem t1_nn (h : 0 ≤ t) : 0 ≤ t1 t b := by
  unfold t1
  split
  · exact Int.mul_nonneg h (Int.le_of_lt (pow_pos2 _))
  · exact h
theorem b1_pos (h : 0 < b) : 0 < b1 t b := by
  unfold b1
  split
  · exact h
  · exact Int.mul_pos h (pow_pos2 _)
theorem b2_pos (h : 0 < b) : 0 < b2 t b := by
  have := b1_pos (t := t) h
  unfold b2
  split
  · exact Int.mul_pos this (pow_pos2 _)
  · exact this
theorem t1_bits (h : 0 ≤ t) (hb : bits t ≤ 2200) : bits (t1 t b) ≤ 3274 := by
  unfold t1
  split
  · have := bits_mul_pow h (0 - pw t b).toNat
    have := pw_ge (t := t) (b := b)
    omega
  · omega
theorem b1_bits (h : 0 < b) (ht : bits t ≤ 2200) (hb : bits b ≤ 2200) : bits (b1 t b) ≤ 4400 := by
  unfold b1
  split
  · omega
  · have := bits_mul_pow (n := b) (by omega) (pw t b).toNat
    have := pw_le (t := t) (b := b) ht
    omega
theorem b2_bits (h : 0 < b) (ht : bits t ≤ 2200) (hb : bits b ≤ 2200) : bits (b2 t b) ≤ 4401 := by
  have h1 := b1_bits h ht hb
  unfold b2
  split
  · have := bits_mul_pow (n := b1 t b) (by have := b1_pos (t := t) h; omega) (1 : Int).toNat
    have e : (((1 : Int).toNat : Nat) : Int) = 1 := rfl
    omega
  · omega
theorem p2_ge : -1074 ≤ p2 t b := by
  have := pw_ge (t := t) (b := b)
  unfold p2
  split <;> omega
/-- the quotient ahead of rounding has at most 54 bits -/
theorem t1_lt (ht : 0 ≤ t) (hb : 0 < b) : t1 t b < 18014398509481984 * b1 t b := by
  have h1 := lt_pow_bits (n := t) ht
  have h2 := pow_bits_le hb
  have hm := bits_pos hb
  have g := pw_ge2 (t := t) (b := b)
  have e54 : (18014398509481984 : Int) = 2 ^ 54 := by decide
  rw [e54]
  unfold bits at g
  generalize hn : Builtin.Int.intBits t = n at *
  generalize hk : Builtin.Int.intBits b = m at *
  unfold t1 b1
  split
  · rename_i c
    have a1 : t * 2 ^ (0 - pw t b).toNat < 2 ^ n * 2 ^ (0 - pw t b).toNat := Int.mul_lt_mul_of_pos_right h1 (pow_pos2 _)
    rw [← Int.pow_add] at a1
    have a2 : (2 : Int) ^ (n + (0 - pw t b).toNat) ≤ 2 ^ (54 + (m - 1)) := pow_mono (by omega)
    have a3 : (2 : Int) ^ (54 + (m - 1)) ≤ 2 ^ 54 * b := by
      rw [Int.pow_add]
      exact Int.mul_le_mul_of_nonneg_left h2 (by decide)
    omega
  · rename_i c
    have a2 : (2 : Int) ^ n ≤ 2 ^ (54 + (m - 1) + (pw t b).toNat) := pow_mono (by omega)
    have a3 : (2 : Int) ^ (54 + (m - 1) + (pw t b).toNat) ≤ 2 ^ 54 * (b * 2 ^ (pw t b).toNat) := by
      rw [Int.pow_add, Int.pow_add, Int.mul_assoc]
      exact Int.mul_le_mul_of_nonneg_left (Int.mul_le_mul_of_nonneg_right h2 (Int.le_of_lt (pow_pos2 _))) (by decide)
    omega
theorem wq_nn (ht : 0 ≤ t) (hb : 0 < b) : 0 ≤ wq t b := Int.ediv_nonneg (t1_nn ht) (Int.le_of_lt (b2_pos hb))
theorem wq_lt (ht : 0 ≤ t) (hb : 0 < b) : wq t b < 9007199254740992 := by
  have h := t1_lt ht hb
  have h1 := b1_pos (t := t) hb
  unfold wq b2
  split
  · have e : b1 t b * 2 ^ (1 : Int).toNat = 2 * b1 t b := by
      show b1 t b * 2 = _
      omega
    rw [e]
    refine Int.ediv_lt_of_lt_mul (by omega) ?_
    omega
  · omega
theorem wr_nn (hb : 0 < b) : 0 ≤ wr t b := Int.emod_nonneg _ (by have := b2_pos (t := t) hb; omega)
theorem wr_lt (hb : 0 < b) : wr t b < b2 t b := Int.emod_lt_of_pos _ (b2_pos hb)
theorem wh_nn (ht : 0 ≤ t) (hb : 0 < b) : 0 ≤ wh t b := by
  have := wq_nn ht hb
  unfold wh; split <;> omega
theorem wh_le (ht : 0 ≤ t) (hb : 0 < b) : wh t b ≤ 9007199254740992 := by
  have := wq_lt ht hb
  unfold wh; split <;> omega
theorem wh_fits (ht : 0 ≤ t) (hb : 0 < b) (h : bits (wh t b) + p2 t b ≤ 1024) : fitsB (red (wh t b) (p2 t b)).1 (red (wh t b) (p2 t b)).2 = true :=
  red_fits (wh_nn ht hb) (wh_le ht hb) p2_ge h
end
end Nu

set_option Elab.async false
set_option linter.all false
set_option maxRecDepth 100000
set_option autoImplicit false
set_option maxHeartbeats 4000000
namespace Nu
open PySem PySem.Spec PyProof.Rows L2 Rd
def top (i : Nat) : Stmt := PySem.Challenge.pw_walkmade_k05_whole_order_of_numbers.main.body.getD i (.Pass ⟨0, 0, 0, 0⟩)
abbrev s_Float_init : Stmt := inClass (top 12) 0
abbrev s_Float_is_finite : Stmt := inClass (top 12) 4
abbrev s_Float_ratio : Stmt := inClass (top 12) 5
abbrev s_is_plain : Stmt := top 13
abbrev s_reduced : Stmt := top 14
abbrev s_fits : Stmt := top 15
abbrev s_sign_of : Stmt := top 16
abbrev s_infinity : Stmt := top 17
abbrev s_nearest : Stmt := top 18
abbrev s_is_number : Stmt := top 19
abbrev s_to_float : Stmt := top 20
abbrev s_order_of : Stmt := top 22
abbrev s_place_of_numbers : Stmt := top 23
abbrev s_compare : Stmt := top 25
abbrev s_same : Stmt := top 26
/-! ### floats as data -/
inductive Fl where
  | fin (s t p : Int)
  | inf (s : Int)
  | nan
  deriving DecidableEq
def Fl.s : Fl → Int
  | .fin s _ _ => s
  | .inf s => s
  | .nan => 1
def Fl.t : Fl → V
  | .fin _ t _ => .int t
  | .inf _ => .str "inf"
  | .nan => .str "nan"
def Fl.p : Fl → Int
  | .fin _ _ p => p
  | _ => 0
def flds (s : Int) (t : V) (p : Int) : List (Str × V) := putF "power" (.int p) (putF "top" t (putF "sign" (.int s) []))
theorem ne_st : ¬ ("sign" : Str) = "top" := by decide +kernel
theorem ne_sp : ¬ ("sign" : Str) = "power" := by decide +kernel
theorem ne_tp : ¬ ("top" : Str) = "power" := by decide +kernel
theorem flds_s (s : Int) (t : V) (p : Int) : (flds s t p).lookup ("sign" : Str) = some (.int s) := by
  unfold flds
  rw [lookup_putF, if_neg ne_sp, lookup_putF, if_neg ne_st, lookup_putF, if_pos rfl]
theorem flds_t (s : Int) (t : V) (p : Int) : (flds s t p).lookup ("top" : Str) = some t := by
  unfold flds
  rw [lookup_putF, if_neg ne_tp, lookup_putF, if_pos rfl]
theorem flds_p (s : Int) (t : V) (p : Int) : (flds s t p).lookup ("power" : Str) = some (.int p) := by
  unfold flds
  rw [lookup_putF, if_pos rfl]
theorem flds_no (s : Int) (t : V) (p : Int) {m : Str} (h1 : ¬ m = "sign") (h2 : ¬ m = "top") (h3 : ¬ m = "power") : (flds s t p).lookup m = none := by
  unfold flds
  rw [lookup_putF, if_neg h3, lookup_putF, if_neg h2, lookup_putF, if_neg h1]
  rfl
/-- the float f stands at a -/
def FlAt (C : Addr) (H : Hp) (a : Addr) (f : Fl) : Prop := ∃ dx, H a = some (.ins C dx (flds f.s f.t f.p))
theorem FlAt.same {C : Addr} {H H' : Hp} {a : Addr} {f : Fl} (h : FlAt C H a f) (s : Same H H') : FlAt C H' a f := let ⟨dx, e⟩ := h; ⟨dx, s _ _ e⟩
/-- a float that stands is well made -/
def Fl.ok : Fl → Prop
  | .fin s t p => (s = 1 ∨ s = -1) ∧ 0 ≤ t ∧ t < 9007199254740992 ∧ (t = 0 → p = 0) ∧ (t ≠ 0 → -1074 ≤ p ∧ bits t + p ≤ 1024 ∧ t % 2 = 1)
  | .inf s => s = 1 ∨ s = -1
  | .nan => True
/-! ### what the text has -/
structure ClsTy (K : PySem.W.Frag) (C : Addr) : Prop where
  ha : PySem.W.findIn K (.ref C) "__class__" = some (some (.builtin "object.__class__"))
  hn : PySem.W.specialIn K (.builtin "object.__class__") "__get__" = some (some (.builtin "getset_descriptor.__get__"))
  htk : PySem.W.takesIn K (.builtin "object.__class__") = some true
  hm : PySem.W.mroIn K C (.type "object") = some true
structure All (K : PySem.W.Frag) (mg : Str → Option Value) (CF : Addr) : Prop where
  b_isinstance : mg "isinstance" = none
  b_int : mg "int" = none
  b_str : mg "str" = none
  b_bool : mg "bool" = none
  b_abs : mg "abs" = none
  b_max : mg "max" = none
  b_min : mg "min" = none
  b_divmod : mg "divmod" = none
  b_len : mg "len" = none
  b_range : mg "range" = none
  c_LEAST : ∃ t, mg "LEAST" = some (.int (-9223372036854775808) t)
  c_MOST : ∃ t, mg "MOST" = some (.int 9223372036854775807 t)
  c_ROOM : ∃ t, mg "ROOM" = some (.int 9007199254740992 t)
  c_LOWEST : ∃ t, mg "LOWEST" = some (.int (-1074) t)
  c_TOO_GREAT : ∃ t, mg "TOO_GREAT" = some (.int 1024 t)
  g_Float : mg "Float" = some (.ref CF)
  l_Float : Cls K CF
  y_Float : ClsTy K CF
  n_sign : NoAttr K CF "sign"
  n_top : NoAttr K CF "top"
  n_power : NoAttr K CF "power"
  i_Fint : PySem.W.kitOne K (.ref CF) (.type "int") = some false
  i_Fbool : PySem.W.kitOne K (.ref CF) (.type "bool") = some false
  i_Fstr : PySem.W.kitOne K (.ref CF) (.type "str") = some false
  i_intF : PySem.W.kitOne K (.type "int") (.ref CF) = some false
  i_boolF : PySem.W.kitOne K (.type "bool") (.ref CF) = some false
  i_strF : PySem.W.kitOne K (.type "str") (.ref CF) = some false
  i_nonF : PySem.W.kitOne K (.type "NoneType") (.ref CF) = some false
  x_init : TxC K mg "Float" CF "Float.__init__" s_Float_init ["self", "sign", "top", "power"]
  x_is_finite : TxM K CF "is_finite" "Float.is_finite" s_Float_is_finite ["self"]
  x_ratio : TxM K CF "ratio" "Float.ratio" s_Float_ratio ["self"]
  x_is_plain : Tx K mg "is_plain" "is_plain" s_is_plain ["number"]
  x_reduced : Tx K mg "reduced" "reduced" s_reduced ["top", "power"]
  x_fits : Tx K mg "fits" "fits" s_fits ["top", "power"]
  x_sign_of : Tx K mg "sign_of" "sign_of" s_sign_of ["is_negative"]
  x_infinity : Tx K mg "infinity" "infinity" s_infinity ["sign"]
  x_nearest : Tx K mg "nearest" "nearest" s_nearest ["sign", "top", "bottom"]
  x_is_number : Tx K mg "is_number" "is_number" s_is_number ["thing"]
  x_to_float : Tx K mg "to_float" "to_float" s_to_float ["number"]
  x_place : Tx K mg "place_of_numbers" "place_of" s_place_of_numbers ["number"]
  x_order : Tx K mg "order_of" "order_of" s_order_of ["one", "other"]
  x_compare : Tx K mg "compare" "compare" s_compare ["word", "one", "other"]
  x_same : Tx K mg "same" "same" s_same ["one", "other"]
/-! ### what isinstance says of a value -/
def Says (K : PySem.W.Frag) (CF : Addr) (H : Hp) (x : V) (pl bo st fl : Bool) : Prop :=
  ∃ t, TyX K H x t ∧ PySem.W.kitOne K t (.type "int") = some (pl || bo) ∧ PySem.W.kitOne K t (.type "bool") = some bo ∧ PySem.W.kitOne K t (.type "str") = some st ∧ PySem.W.kitOne K t (.ref CF) = some fl
local macro_rules | `(tactic| walk_at "hp") => `(tactic| first | assumption | (refine same_get ?sm ?_; (case sm => assumption); walk_at "hp"))
local macro_rules | `(tactic| walk_at "rd") => `(tactic| first
  | with_reducible refine w_nx ?_
  | with_reducible refine w_rt ?_
  | with_reducible refine w_bk ?_
  | with_reducible refine w_ct ?_
  | with_reducible refine w_seq ?_
  | with_reducible refine w_next ?_
  | with_reducible refine w_ret ?_
  | with_reducible refine w_ifS ?_
  | with_reducible refine w_asg ?_
  | with_reducible refine w_name ?_
  | with_reducible refine w_par ?_
  | with_reducible refine w_parI ?_
  | with_reducible refine w_ii ?_
  | with_reducible refine w_i1 ?_
  | with_reducible refine w_drop ?_
  | with_reducible refine w_sFld ?_
  | ((with_reducible refine' w_var ?rdh ?_); (case rdh => exact rfl))
  | with_reducible refine w_c ?_
  | with_reducible refine w_op ?_
  | with_reducible refine w_un ?_
  | with_reducible refine w_I0 ?_
  | with_reducible refine w_U ?_
  | with_reducible refine w_bits ?_
  | with_reducible refine w_bitsI ?_
  | with_reducible refine w_tup ?_
  | with_reducible refine w_lst ?_
  | with_reducible refine w_nil ?_
  | with_reducible refine w_cons ?_
  | with_reducible refine w_fld ?_
  | with_reducible refine w_call ?_
  | with_reducible refine w_make ?_
  | with_reducible refine w_makeD ?_
  | with_reducible refine w_nn ?_
  | with_reducible refine w_subB ?_
  | with_reducible refine w_meth ?_
  | with_reducible refine w_cb ?_
  | with_reducible refine w_test ?_
  | with_reducible refine w_B ?_
  | with_reducible refine w_bl ?_
  | with_reducible refine w_andV ?_
  | with_reducible refine w_orV ?_
  | with_reducible refine w_notV ?_
  | with_reducible refine w_and ?_
  | with_reducible refine w_or ?_
  | with_reducible refine w_not ?_
  | with_reducible refine w_if ?_
  | with_reducible refine w_gnil ?_
  | with_reducible refine w_gcons ?_
  | with_reducible refine iT ?_
  | with_reducible refine iF ?_
  | with_reducible refine w_eqI ?_
  | with_reducible refine w_neI ?_
  | with_reducible refine w_eqS ?_
  | with_reducible refine w_eqIS ?_
  | with_reducible refine w_eqSI ?_)

section
variable {P : Program} {w : World} {K : PySem.W.Frag} {mg : Str → Option Value} {base : Heap} {CF : Addr}
theorem says_int (T : All K mg CF) {H : Hp} {i : Int} : Says K CF H (.int i) true false false false :=
  ⟨_, .base (.int i), kit_ty (by decide +kernel), kit_ty (by decide +kernel), kit_ty (by decide +kernel), T.i_intF⟩
theorem says_bl (T : All K mg CF) {H : Hp} {b : Bool} : Says K CF H (.bl b) false true false false :=
  ⟨_, .base (.bl b), kit_ty (by decide +kernel), kit_ty (by decide +kernel), kit_ty (by decide +kernel), T.i_boolF⟩
theorem says_str (T : All K mg CF) {H : Hp} {x : Str} : Says K CF H (.str x) false false true false :=
  ⟨_, .base (.str x), kit_ty (by decide +kernel), kit_ty (by decide +kernel), kit_ty (by decide +kernel), T.i_strF⟩
theorem says_non (T : All K mg CF) {H : Hp} : Says K CF H .non false false false false :=
  ⟨_, .base .non, kit_ty (by decide +kernel), kit_ty (by decide +kernel), kit_ty (by decide +kernel), T.i_nonF⟩
theorem kit_self (K : PySem.W.Frag) (C : Addr) : PySem.W.kitOne K (.ref C) (.ref C) = some true := by
  unfold PySem.W.kitOne
  rw [if_pos (by simp)]
theorem ty_ins {C : Addr} (c : Cls K C) (y : ClsTy K C) {H : Hp} {a dx : Addr} {fs : List (Str × V)} (h : H a = some (.ins C dx fs)) : TyX K H (.ref a) (.ref C) := .base (.ins h c y.ha y.hn y.htk y.hm)
theorem says_fl (T : All K mg CF) {H : Hp} {a dx : Addr} {fs : List (Str × V)} (h : H a = some (.ins CF dx fs)) : Says K CF H (.ref a) false false false true :=
  ⟨_, ty_ins T.l_Float T.y_Float h, T.i_Fint, T.i_Fbool, T.i_Fstr, kit_self K CF⟩
/-! ### is_plain -/
def spPlain (K : PySem.W.Frag) (CF : Addr) : Sp := fun vs H Q _ => ∃ x pl bo st fl, vs = [x] ∧ Says K CF H x pl bo st fl ∧ Q (.bl ((pl || bo) && !bo)) H
theorem sc_is_plain : FnScope ["number"] ["number"] (defScope s_is_plain) := ⟨rfl, rfl, rfl, by decide +kernel, rfl, by decide +kernel, by decide +kernel⟩
theorem ok_is_plain (T : All K mg CF) : Kn P w K mg base CX0 1 "is_plain" ["number"] (spPlain K CF) := by
  refine T.x_is_plain.kn fun f fd F => ?_
  refine F.ok sc_is_plain (fun vs H Q E h => ?_) (fun cdv A outer s H vs Q E hr h => ?_)
  · obtain ⟨x, pl, bo, st, fl, rfl, _⟩ := h
    rfl
  · obtain ⟨x, pl, bo, st, fl, rfl, ⟨t, ty, i1, i2, i3, i4⟩, q⟩ := h
    refine ⟨_, (pss_one (ps_ret (pe_and (pe_callB call_isi (by rfl) T.b_isinstance boot_isinstance (pa_cons (pv 0) (pa_cons (pe_bltn (by rfl) T.b_int boot_int (rty _)) pa_nil))) (pe_one (pe_not (pe_callB call_isi (by rfl) T.b_isinstance boot_isinstance (pa_cons (pv 0) (pa_cons (pe_bltn (by rfl) T.b_bool boot_bool (rty _)) pa_nil)))))))), ?_⟩
    repeat walk_at "rd"
    refine w_isi (.ty "int") ty i1 ?_
    repeat walk_at "rd"
    refine iB (fun e => ?_) (fun e => ?_)
    · repeat walk_at "rd"
      refine w_isi (.ty "bool") ty i2 ?_
      repeat walk_at "rd"
      rw [e] at q
      exact q
    · repeat walk_at "rd"
      rw [e] at q
      exact q
/-! ### reduced -/
def redV : V → Int → V × Int
  | .int t, p => (.int (red t p).1, (red t p).2)
  | v, _ => (v, 0)
def spReduced : Sp := fun vs H Q _ => ∃ tv p, vs = [tv, .int p] ∧ ((∃ t, tv = .int t ∧ 0 ≤ t) ∨ tv = .str "inf" ∨ tv = .str "nan") ∧
  ∀ q H', Same H H' → H' q = some (.tup [(redV tv p).1, .int (redV tv p).2]) → Q (.ref q) H'
theorem sc_reduced : FnScope ["top", "power", "less"] ["top", "power"] (defScope s_reduced) := ⟨rfl, rfl, rfl, by decide +kernel, rfl, by decide +kernel, by decide +kernel⟩
theorem ok_reduced (T : All K mg CF) : Kn P w K mg base CX0 1 "reduced" ["top", "power"] spReduced := by
  refine T.x_reduced.kn fun f fd F => ?_
  refine F.ok sc_reduced (fun vs H Q E h => ?_) (fun cdv A outer s H vs Q E hr h => ?_)
  · obtain ⟨tv, p, rfl, _⟩ := h
    rfl
  · obtain ⟨tv, p, rfl, c, q⟩ := h
    refine ⟨_, (pss_cons (ps_if (PW.pt (pw_or (pt_cmpR op_in_seq (pv 0) (pe_tup (pa_cons pe_str (pa_cons pe_str pa_nil))) rfl) (pw_or1 (pt_cmpR op_eq (pv 0) pe_int (nomark _))))) (pss_one (ps_ret (pe_tup (pa_cons (pv 0) (pa_cons pe_int pa_nil))))) pss_nil)
      (pss_cons (ps_set (i := 2) sc_reduced.nd rfl (Or.inl rfl) (pe_op op_sub (pe_bits (pe_op op_and (pv 0) (pe_op op_sub pe_int (pv 0)))) pe_int))
      (pss_one (ps_ret (pe_tup (pa_cons (pe_op op_shr (pv 0) (pv 2)) (pa_cons (pe_op op_add (pv 1) (pv 2)) pa_nil))))))), ?_⟩
    repeat walk_at "rd"
    refine w_tup2 fun a1 H1 s1 n1 h1 => ?_
    rcases c with ⟨t, rfl, ht⟩ | rfl | rfl
    · refine w_in h1 rfl rfl ?_
      repeat walk_at "rd"
      refine iF ?_
      repeat walk_at "rd"
      refine iD (fun z => ?_) (fun z => ?_)
      · repeat walk_at "rd"
        refine w_tup2 fun a2 H2 s2 n2 h2 => ?_
        repeat walk_at "rd"
        refine q a2 H2 (s1.trans s2) ?_
        subst z
        show H2 a2 = some (.tup [.int (red 0 p).1, .int (red 0 p).2])
        rw [red_zero]
        exact h2
      · repeat walk_at "rd"
        refine w_I (by obtain ⟨k, m, _, _, e⟩ := less_spec (t := t) (by omega); show 0 ≤ less t; omega) ?_
        repeat walk_at "rd"
        refine w_tup2 fun a2 H2 s2 n2 h2 => ?_
        repeat walk_at "rd"
        refine q a2 H2 (s1.trans s2) ?_
        show H2 a2 = some (.tup [.int (red t p).1, .int (red t p).2])
        unfold red
        rw [if_neg z]
        exact h2
    all_goals
      refine w_in h1 rfl rfl ?_
      repeat walk_at "rd"
      refine iT ?_
      repeat walk_at "rd"
      refine w_tup2 fun a2 H2 s2 n2 h2 => ?_
      repeat walk_at "rd"
      exact q a2 H2 (s1.trans s2) h2
/-! ### fits -/
def spFits : Sp := fun vs H Q _ => ∃ t p, vs = [.int t, .int p] ∧ Q (.bl (fitsB t p)) H
theorem sc_fits : FnScope ["top", "power"] ["top", "power"] (defScope s_fits) := ⟨rfl, rfl, rfl, by decide +kernel, rfl, by decide +kernel, by decide +kernel⟩
theorem ok_fits (T : All K mg CF) : Kn P w K mg base CX0 1 "fits" ["top", "power"] spFits := by
  refine T.x_fits.kn fun f fd F => ?_
  refine F.ok sc_fits (fun vs H Q E h => ?_) (fun cdv A outer s H vs Q E hr h => ?_)
  · obtain ⟨t, p, rfl, _⟩ := h
    rfl
  · obtain ⟨t, p, rfl, q⟩ := h
    refine ⟨_, (pss_one (ps_ret (pe_or (pe_and (pe_cmpR op_lt (pv 0) (pgE "ROOM" T.c_ROOM) (nomark _)) (pe_and (pe_cmpR op_ge (pv 1) (pgE "LOWEST" T.c_LOWEST) (nomark _)) (pe_one (pe_cmpR op_le (pe_op op_add (pe_bits (pv 0)) (pv 1)) (pgE "TOO_GREAT" T.c_TOO_GREAT) (nomark _))))) (pe_one (pe_cmpR op_eq (pv 0) pe_int (nomark _)))))), ?_⟩
    unfold fitsB at q
    repeat walk_at "rd"
    refine iD (fun c1 => ?_) (fun c1 => ?_)
    · rw [decide_eq_true c1, Bool.true_and] at q
      repeat walk_at "rd"
      refine iD (fun c2 => ?_) (fun c2 => ?_)
      · rw [decide_eq_true c2, Bool.true_and] at q
        repeat walk_at "rd"
        refine iD (fun c3 => ?_) (fun c3 => ?_)
        · rw [decide_eq_true (show bits t + p ≤ 1024 from c3), Bool.true_or] at q
          repeat walk_at "rd"
          exact q
        · rw [decide_eq_false (show ¬ bits t + p ≤ 1024 from c3), Bool.false_or] at q
          repeat walk_at "rd"
          exact q
      · rw [decide_eq_false c2, Bool.false_and, Bool.false_or] at q
        repeat walk_at "rd"
        exact q
    · rw [decide_eq_false c1, Bool.false_and, Bool.false_or] at q
      repeat walk_at "rd"
      exact q
/-! ### sign_of -/
def spSign : Sp := fun vs H Q _ => ∃ b, vs = [.bl b] ∧ Q (.int (if b = true then -1 else 1)) H
theorem sc_sign_of : FnScope ["is_negative"] ["is_negative"] (defScope s_sign_of) := ⟨rfl, rfl, rfl, by decide +kernel, rfl, by decide +kernel, by decide +kernel⟩
theorem ok_sign_of (T : All K mg CF) : Kn P w K mg base CX0 1 "sign_of" ["is_negative"] spSign := by
  refine T.x_sign_of.kn fun f fd F => ?_
  refine F.ok sc_sign_of (fun vs H Q E h => ?_) (fun cdv A outer s H vs Q E hr h => ?_)
  · obtain ⟨b, rfl, _⟩ := h
    rfl
  · obtain ⟨b, rfl, q⟩ := h
    refine ⟨_, (pss_one (ps_ret (pe_ifExp (pt_val (pv 0)) (pe_un un_neg pe_int) pe_int))), ?_⟩
    repeat walk_at "rd"
    cases b with
    | true =>
      refine iT ?_
      repeat walk_at "rd"
      exact q
    | false =>
      refine iF ?_
      repeat walk_at "rd"
      exact q
/-! ### Float(sign, top, power) -/
/-- the arguments that make the float f -/
def Arg (s : Int) (tv : V) (p : Int) (f : Fl) : Prop :=
  (∃ t, tv = .int t ∧ 0 ≤ t ∧ (s = 1 ∨ s = -1) ∧ fitsB (red t p).1 (red t p).2 = true ∧ f = .fin s (red t p).1 (red t p).2) ∨
  (tv = .str "inf" ∧ p = 0 ∧ (s = 1 ∨ s = -1) ∧ f = .inf s) ∨ (tv = .str "nan" ∧ p = 0 ∧ s = 1 ∧ f = .nan)
theorem Arg.redV {s p : Int} {tv : V} {f : Fl} (a : Arg s tv p f) : f.s = s ∧ f.t = (redV tv p).1 ∧ f.p = (redV tv p).2 := by
  rcases a with ⟨t, rfl, _, _, _, rfl⟩ | ⟨rfl, _, _, rfl⟩ | ⟨rfl, _, rfl, rfl⟩ <;> exact ⟨rfl, rfl, rfl⟩
theorem Arg.ok {s p : Int} {tv : V} {f : Fl} (a : Arg s tv p f) : f.ok := by
  rcases a with ⟨t, rfl, h0, hs, hf, rfl⟩ | ⟨rfl, _, hs, rfl⟩ | ⟨rfl, _, rfl, rfl⟩
  · by_cases z : t = 0
    · subst z
      rw [red_zero]
      exact ⟨hs, by decide, by decide, fun _ => rfl, fun h => absurd rfl h⟩
    · obtain ⟨k, m, hm, e, r⟩ := red_spec (t := t) (by omega) p
      rw [r] at hf ⊢
      unfold fitsB at hf
      have z2 : ¬ 2 * m + 1 = 0 := by omega
      rw [decide_eq_false z2, Bool.or_false, Bool.and_eq_true, Bool.and_eq_true, decide_eq_true_eq, decide_eq_true_eq, decide_eq_true_eq] at hf
      exact ⟨hs, by omega, hf.1, fun h => absurd h z2, fun _ => ⟨hf.2.1, hf.2.2, by omega⟩⟩
  · exact hs
  · exact trivial
def spInit (C : Addr) : Sp := fun vs H Q _ => ∃ x dx s tv p f, vs = [.ref x, .int s, tv, .int p] ∧ H x = some (.ins C dx []) ∧ Arg s tv p f ∧
  ∀ H', (∀ b o, b ≠ x → H b = some o → H' b = some o) → H' x = some (.ins C dx (flds f.s f.t f.p)) → Q .non H'
theorem u_plain_int (T : All K mg CF) {i : Int} {H : Hp} {Q : VK} {E : XK} (q : Q (.bl true) H) : spPlain K CF ([V.int i] ++ []) H Q E :=
  ⟨.int i, true, false, false, false, rfl, says_int T, q⟩
theorem u_reduced {tv : V} {p : Int} {H : Hp} {Q : VK} {E : XK} (c : (∃ t, tv = .int t ∧ 0 ≤ t) ∨ tv = .str "inf" ∨ tv = .str "nan") (q : ∀ a H', Same H H' → H' a = some (.tup [(redV tv p).1, .int (redV tv p).2]) → Q (.ref a) H') :
    spReduced ([tv, V.int p] ++ []) H Q E := ⟨tv, p, rfl, c, q⟩
theorem u_fits {t p : Int} {H : Hp} {Q : VK} {E : XK} (q : Q (.bl (fitsB t p)) H) : spFits ([V.int t, V.int p] ++ []) H Q E := ⟨t, p, rfl, q⟩
theorem w_gFld {to : TE} {f : Str} {v : V} {σ : L2.St} {H : Hp} {Q : L2.St → Hp → Prop} (h : to σ H fun x H1 => ∃ a C dx fs, x = .ref a ∧ H1 a = some (.ins C dx fs) ∧ Cls K C ∧ NoAttr K C f ∧ fs.length < 1000 ∧ Q σ (upd H1 a (.ins C dx (putF f v fs)))) : gFld K to f v σ H Q := h
theorem putF_s (s : Int) : putF "sign" (.int s) [] = [(("sign" : Str), V.int s)] := rfl
theorem len_put (f : Str) (v : V) (fs : List (Str × V)) {n : Nat} (h : fs.length < n) (hn : n < 1000) : (putF f v fs).length < 1000 := by
  have := length_putF f v fs
  omega
theorem lenf (s : Int) (t : V) (p : Int) : (flds s t p).length < 1000 := by
  unfold flds
  have a := length_putF "power" (.int p) (putF "top" t (putF "sign" (.int s) []))
  have b := length_putF "top" t (putF "sign" (.int s) [])
  have c := length_putF "sign" (.int s) []
  simp at c
  omega
theorem sc_Float_init : FnScope ["self", "sign", "top", "power"] ["self", "sign", "top", "power"] (defScope s_Float_init) := ⟨rfl, rfl, rfl, by decide +kernel, rfl, by decide +kernel, by decide +kernel⟩
theorem ok_init (T : All K mg CF) (k_is_plain : Kn P w K mg base CX0 1 "is_plain" ["number"] (spPlain K CF)) (k_reduced : Kn P w K mg base CX0 1 "reduced" ["top", "power"] spReduced) (k_fits : Kn P w K mg base CX0 1 "fits" ["top", "power"] spFits) :
    KnC P w K mg base CX0 2 "Float" CF ["self", "sign", "top", "power"] (spInit CF) := by
  refine T.x_init.kn fun f fd F => ?_
  refine F.ok sc_Float_init (fun vs H Q E h => ?_) (fun cdv A outer s H vs Q E hr h => ?_)
  · obtain ⟨x, dx, s, tv, p, f, rfl, _⟩ := h
    rfl
  · obtain ⟨x, dx, s, tv, p, f, rfl, hx, a, q⟩ := h
    refine ⟨_, (pss_cons (ps_if (PW.pt (pw_or (pt_not (pt_val (pk k_is_plain hr (pa_cons (pv 1) pa_nil)))) (pw_or1 (pt_cmpR op_notIn_seq (pv 1) (pe_tup (pa_cons pe_int (pa_cons (pe_un un_neg pe_int) pa_nil))) rfl)))) (pss_one ps_never) pss_nil)
      (C8.pss_cut (ps_if (PW.pt (pw_and (pt_val (pe_callB call_isi (by rfl) T.b_isinstance boot_isinstance (pa_cons (pv 2) (pa_cons (pe_bltn (by rfl) T.b_str boot_str (rty _)) pa_nil)))) (pw_and1 (pt_cmpR op_in_seq (pv 2) (pe_tup (pa_cons pe_str (pa_cons pe_str pa_nil))) rfl)))) (pss_cons (ps_if (PW.pt (pw_and (pt_cmpR op_eq (pv 2) pe_str (nomark _)) (pw_and1 (pt_cmpR op_eq (pv 1) (pe_un un_neg pe_int) (nomark _))))) (pss_one ps_never) pss_nil)
      (pss_one (ps_if (PW.pt (pw_or (pt_not (pt_val (pk k_is_plain hr (pa_cons (pv 3) pa_nil)))) (pw_or1 (pt_cmpR op_ne (pv 3) pe_int (nomark _))))) (pss_one ps_never) pss_nil))) (pss_one (ps_if (PW.pt (pw_or (pt_not (pt_val (pk k_is_plain hr (pa_cons (pv 2) pa_nil)))) (pw_or1 (pt_cmpR op_lt (pv 2) pe_int (nomark _))))) (pss_one ps_never) (pss_one (ps_if (pt_not (pt_val (pk k_is_plain hr (pa_cons (pv 3) pa_nil)))) (pss_one ps_never) pss_nil)))))
      (pss_cons (ps_fld (pv 0) (pv 1) rfl)
      (pss_cons (ps_asg (pk k_reduced hr (pa_cons (pv 2) (pa_cons (pv 3) pa_nil))) (pg_tup (by rfl) (pgs_cons (pg_fld (pv 0)) (pgs_cons (pg_fld (pv 0)) pgs_nil))))
      (pss_one (ps_if (PW.pt (pw_and (pt_cmpR op_notIn_seq (pe_fld (pv 0) rfl) (pe_tup (pa_cons pe_str (pa_cons pe_str pa_nil))) rfl) (pw_and1 (pt_not (pt_val (pk k_fits hr (pa_cons (pe_fld (pv 0) rfl) (pa_cons (pe_fld (pv 0) rfl) pa_nil)))))))) (pss_one ps_never) pss_nil)))))), ?_⟩
    have hs : s = 1 ∨ s = -1 := by rcases a with ⟨t, _, _, h, _, _⟩ | ⟨_, _, h, _⟩ | ⟨_, _, h, _⟩ <;> first | exact h | exact .inl h
    repeat walk_at "rd"
    refine u_plain_int T ?_
    repeat walk_at "rd"
    refine iF ?_
    repeat walk_at "rd"
    refine w_tup2 fun a1 H1 s1 n1 h1 => ?_
    refine w_nin h1 rfl rfl ?_
    repeat walk_at "rd"
    have e1 : (!inV (V.int s) [V.int 1, V.int (-1)]) = false := by rcases hs with rfl | rfl <;> rfl
    rw [e1]
    refine iF ?_
    repeat walk_at "rd"
    refine w_cut (Mid := fun σ' H' => σ' = start ["self", "sign", "top", "power"] [.ref x, .int s, tv, .int p] ∧ Same H H') ?_ ?_
    · repeat walk_at "rd"
      rcases a with ⟨t, rfl, h0, _, hf, rfl⟩ | ⟨rfl, rfl, _, rfl⟩ | ⟨rfl, rfl, rfl, rfl⟩
      · refine w_isi (.ty "str") (.base (.int t)) (kit_ty (b := "str") (r := false) (by decide +kernel)) ?_
        repeat walk_at "rd"
        refine u_plain_int T ?_
        repeat walk_at "rd"
        refine iF ?_
        repeat walk_at "rd"
        refine iD (fun z => by omega) (fun _ => ?_)
        repeat walk_at "rd"
        refine u_plain_int T ?_
        repeat walk_at "rd"
        refine iF ?_
        repeat walk_at "rd"
        exact ⟨rfl, s1⟩
      · refine w_isi (.ty "str") (.base (.str _)) (kit_ty (b := "str") (r := true) (by decide +kernel)) ?_
        repeat walk_at "rd"
        refine w_tup2 fun a2 H2 s2 n2 h2 => ?_
        refine w_in h2 rfl rfl ?_
        repeat walk_at "rd"
        refine iT ?_
        repeat walk_at "rd"
        refine iD (fun z => absurd z (by decide +kernel)) (fun _ => ?_)
        repeat walk_at "rd"
        refine u_plain_int T ?_
        repeat walk_at "rd"
        refine iF ?_
        repeat walk_at "rd"
        refine iN (fun z => absurd rfl z) (fun _ => ?_)
        repeat walk_at "rd"
        exact ⟨rfl, s1.trans s2⟩
      · refine w_isi (.ty "str") (.base (.str _)) (kit_ty (b := "str") (r := true) (by decide +kernel)) ?_
        repeat walk_at "rd"
        refine w_tup2 fun a2 H2 s2 n2 h2 => ?_
        refine w_in h2 rfl rfl ?_
        repeat walk_at "rd"
        refine iT ?_
        repeat walk_at "rd"
        refine iD (fun _ => ?_) (fun z => absurd rfl z)
        repeat walk_at "rd"
        refine iD (fun z => absurd z (by decide)) (fun _ => ?_)
        repeat walk_at "rd"
        refine u_plain_int T ?_
        repeat walk_at "rd"
        refine iF ?_
        repeat walk_at "rd"
        refine iN (fun z => absurd rfl z) (fun _ => ?_)
        repeat walk_at "rd"
        exact ⟨rfl, s1.trans s2⟩
    · rintro σ' H3 ⟨rfl, s3⟩
      obtain ⟨e1, e2, e3⟩ := a.redV
      have hx3 := s3 _ _ hx
      repeat walk_at "rd"
      refine w_sfI hx3 T.l_Float T.n_sign (by decide) ?_
      repeat walk_at "rd"
      refine u_reduced (by rcases a with ⟨t, rfl, h0, _⟩ | ⟨rfl, _⟩ | ⟨rfl, _⟩ <;> first | exact .inl ⟨_, rfl, h0⟩ | exact .inr (.inl rfl) | exact .inr (.inr rfl)) fun a4 H4 s4 h4 => ?_
      have hx4 : H4 x = some (.ins CF dx (putF "sign" (.int s) [])) := s4 _ _ upd_same
      refine w_gtup h4 rfl ?_
      repeat walk_at "rd"
      refine w_gFld ?_
      repeat walk_at "rd"
      refine w_sfI hx4 T.l_Float T.n_top (by show 1 < 1000; decide) ?_
      repeat walk_at "rd"
      refine w_gFld ?_
      repeat walk_at "rd"
      refine w_sfI upd_same T.l_Float T.n_power (len_put _ _ _ (n := 2) (by show 1 < 2; decide) (by decide)) ?_
      repeat walk_at "rd"
      rw [upd_upd]
      have ef : (putF "power" (.int (redV tv p).2) (putF "top" (redV tv p).1 (putF "sign" (.int s) []))) = flds f.s f.t f.p := by rw [e1, e2, e3]; rfl
      rw [ef]
      generalize eH5 : upd H4 x (.ins CF dx (flds f.s f.t f.p)) = H5
      have hx5 : H5 x = some (.ins CF dx (flds f.s f.t f.p)) := by rw [← eH5]; exact upd_same
      have k5 : ∀ b o, b ≠ x → H b = some o → H5 b = some o := fun b o hb e => by
        rw [← eH5, upd_ne hb]
        exact s4 _ _ (by rw [upd_ne hb]; exact s3 _ _ e)
      refine w_fldI hx5 T.l_Float T.n_top (flds_t _ _ _) ?_
      repeat walk_at "rd"
      refine w_tup2 fun a6 H6 s6 n6 h6 => ?_
      have hx6 := s6 _ _ hx5
      have k6 : ∀ b o, b ≠ x → H b = some o → H6 b = some o := fun b o hb e => s6 _ _ (k5 b o hb e)
      rcases a with ⟨t, rfl, h0, _, hf, rfl⟩ | ⟨rfl, rfl, _, rfl⟩ | ⟨rfl, rfl, rfl, rfl⟩
      · refine w_nin h6 rfl rfl ?_
        repeat walk_at "rd"
        refine iT ?_
        repeat walk_at "rd"
        refine w_fldI hx6 T.l_Float T.n_top (flds_t _ _ _) ?_
        repeat walk_at "rd"
        refine w_fldI hx6 T.l_Float T.n_power (flds_p _ _ _) ?_
        repeat walk_at "rd"
        refine u_fits ?_
        repeat walk_at "rd"
        show if (!fitsB (red t p).1 (red t p).2) = true then _ else _
        rw [hf]
        refine iF ?_
        repeat walk_at "rd"
        exact q H6 k6 hx6
      all_goals
        refine w_nin h6 rfl rfl ?_
        repeat walk_at "rd"
        refine iF ?_
        refine iF ?_
        repeat walk_at "rd"
        exact q H6 k6 hx6
/-- Float(s, tv, p) makes f -/
theorem u_Float {s p : Int} {tv : V} {f : Fl} {H : Hp} {Q : VK} {E : XK} (a : Arg s tv p f) (q : ∀ x H', Same H H' → H x = none → FlAt CF H' x f → Q (.ref x) H') : MakeK CF (spInit CF) [.int s, tv, .int p] H Q E := by
  intro x dx hx hdx ne
  refine ⟨x, dx, s, tv, p, f, rfl, upd_same, a, fun H' k hx' => ⟨rfl, q x H' (fun b o e => k b o (ne_of_none e hx) ?_) hx ⟨dx, hx'⟩⟩⟩
  rw [upd_ne (ne_of_none e hx), upd_ne (ne_of_none e hdx)]
  exact e
end
end Nu

set_option Elab.async false
set_option linter.all false
set_option maxRecDepth 100000
set_option autoImplicit false
set_option maxHeartbeats 4000000
namespace Nu
open PySem PySem.Spec PyProof.Rows L2 Rd
local macro_rules | `(tactic| walk_at "hp") => `(tactic| first | assumption | (refine same_get ?sm ?_; (case sm => assumption); walk_at "hp"))
local macro_rules | `(tactic| walk_at "rd") => `(tactic| first
  | with_reducible refine w_nx ?_
  | with_reducible refine w_rt ?_
  | with_reducible refine w_bk ?_
  | with_reducible refine w_ct ?_
  | with_reducible refine w_seq ?_
  | with_reducible refine w_next ?_
  | with_reducible refine w_ret ?_
  | with_reducible refine w_ifS ?_
  | with_reducible refine w_asg ?_
  | with_reducible refine w_name ?_
  | with_reducible refine w_par ?_
  | with_reducible refine w_parI ?_
  | with_reducible refine w_ii ?_
  | with_reducible refine w_i1 ?_
  | with_reducible refine w_drop ?_
  | with_reducible refine w_sFld ?_
  | ((with_reducible refine' w_var ?rdh ?_); (case rdh => exact rfl))
  | with_reducible refine w_c ?_
  | with_reducible refine w_op ?_
  | with_reducible refine w_un ?_
  | with_reducible refine w_I0 ?_
  | with_reducible refine w_U ?_
  | with_reducible refine w_bits ?_
  | with_reducible refine w_bitsI ?_
  | with_reducible refine w_tup ?_
  | with_reducible refine w_lst ?_
  | with_reducible refine w_nil ?_
  | with_reducible refine w_cons ?_
  | with_reducible refine w_fld ?_
  | with_reducible refine w_call ?_
  | with_reducible refine w_make ?_
  | with_reducible refine w_makeD ?_
  | with_reducible refine w_nn ?_
  | with_reducible refine w_subB ?_
  | with_reducible refine w_meth ?_
  | with_reducible refine w_cb ?_
  | with_reducible refine w_test ?_
  | with_reducible refine w_B ?_
  | with_reducible refine w_bl ?_
  | with_reducible refine w_andV ?_
  | with_reducible refine w_orV ?_
  | with_reducible refine w_notV ?_
  | with_reducible refine w_and ?_
  | with_reducible refine w_or ?_
  | with_reducible refine w_not ?_
  | with_reducible refine w_if ?_
  | with_reducible refine w_gnil ?_
  | with_reducible refine w_gcons ?_
  | with_reducible refine iT ?_
  | with_reducible refine iF ?_
  | with_reducible refine w_eqI ?_
  | with_reducible refine w_neI ?_
  | with_reducible refine w_eqS ?_
  | with_reducible refine w_eqIS ?_
  | with_reducible refine w_eqSI ?_)

section
variable {P : Program} {w : World} {K : PySem.W.Frag} {mg : Str → Option Value} {base : Heap} {CF : Addr}
/-- a new float -/
def NewF (CF : Addr) (f : Fl) (H : Hp) (Q : VK) : Prop := ∀ x H', Same H H' → H x = none → FlAt CF H' x f → Q (.ref x) H'
/-! ### infinity -/
def spInf (CF : Addr) : Sp := fun vs H Q _ => ∃ s, vs = [.int s] ∧ (s = 1 ∨ s = -1) ∧ NewF CF (.inf s) H Q
theorem sc_infinity : FnScope ["sign"] ["sign"] (defScope s_infinity) := ⟨rfl, rfl, rfl, by decide +kernel, rfl, by decide +kernel, by decide +kernel⟩
theorem ok_infinity (T : All K mg CF) (k_Float_init : KnC P w K mg base CX0 2 "Float" CF ["self", "sign", "top", "power"] (spInit CF)) : Kn P w K mg base CX0 4 "infinity" ["sign"] (spInf CF) := by
  refine T.x_infinity.kn fun f fd F => ?_
  refine F.ok sc_infinity (fun vs H Q E h => ?_) (fun cdv A outer s H vs Q E hr h => ?_)
  · obtain ⟨s, rfl, _⟩ := h
    rfl
  · obtain ⟨s, rfl, hs, q⟩ := h
    refine ⟨_, (pss_one (ps_ret (pkC k_Float_init hr (pa_cons (pv 0) (pa_cons pe_str (pa_cons pe_int pa_nil)))))), ?_⟩
    repeat walk_at "rd"
    refine u_Float (.inr (.inl ⟨rfl, rfl, hs, rfl⟩)) fun x H' s1 n1 h1 => ?_
    exact q x H' s1 n1 h1
/-! ### nearest -/
def nearM (s t b : Int) : Fl := if t = 0 then .fin s 0 0 else if 1024 < bits (wh t b) + p2 t b then .inf s else .fin s (red (wh t b) (p2 t b)).1 (red (wh t b) (p2 t b)).2
def spNear (CF : Addr) : Sp := fun vs H Q _ => ∃ s t b, vs = [.int s, .int t, .int b] ∧ (s = 1 ∨ s = -1) ∧ 0 ≤ t ∧ 0 < b ∧ bits t ≤ 2200 ∧ bits b ≤ 2200 ∧ NewF CF (nearM s t b) H Q
theorem cshl {i j : Int} (h : bits i ≤ 10000) (h0 : 0 ≤ j) (h1 : j ≤ 10000) : CShl i j := by
  refine ⟨h0, ?_⟩
  have e : (2 : Int) ^ 27 = 134217728 := by decide
  rw [e]
  have : bits i = (Builtin.Int.intBits i : Nat) := rfl
  omega
theorem cdivw {i j : Int} (h : 0 < j) (hb : bits j ≤ 8000) : CDivW i j := by
  have := (bits_le (n := j) (k := 8000)).1 (by omega)
  exact wide_div h this (by decide) (by decide)
theorem cdivp {i j : Int} (h : 0 < j) (hb : bits i ≤ 4000) : CDivP i j := by
  refine divp_ok h ?_
  have : bits i = (Builtin.Int.intBits i : Nat) := rfl
  omega
theorem cmulx {i j : Int} (h : bits i ≤ 100000) (hb : bits j ≤ 100000) : CMulX i j := by
  unfold CMulX
  have : bits i = (Builtin.Int.intBits i : Nat) := rfl
  have : bits j = (Builtin.Int.intBits j : Nat) := rfl
  omega
theorem sc_nearest : FnScope ["sign", "top", "bottom", "power", "whole", "rest"] ["sign", "top", "bottom"] (defScope s_nearest) := ⟨rfl, rfl, rfl, by decide +kernel, rfl, by decide +kernel, by decide +kernel⟩
theorem ok_nearest (T : All K mg CF) (k_Float_init : KnC P w K mg base CX0 2 "Float" CF ["self", "sign", "top", "power"] (spInit CF)) (k_infinity : Kn P w K mg base CX0 4 "infinity" ["sign"] (spInf CF)) :
    Kn P w K mg base CX0 5 "nearest" ["sign", "top", "bottom"] (spNear CF) := by
  refine T.x_nearest.kn fun f fd F => ?_
  refine F.ok sc_nearest (fun vs H Q E h => ?_) (fun cdv A outer s H vs Q E hr h => ?_)
  · obtain ⟨s, t, b, rfl, _⟩ := h
    rfl
  · obtain ⟨s, t, b, rfl, hs, ht, hb, bt, bb, q⟩ := h
    refine ⟨_, (pss_cons (ps_if (pt_cmpR op_eq (pv 1) pe_int (nomark _)) (pss_one (ps_ret (pkC k_Float_init hr (pa_cons (pv 0) (pa_cons pe_int (pa_cons pe_int pa_nil)))))) pss_nil)
      (pss_cons (ps_set (i := 3) sc_nearest.nd rfl (Or.inl rfl) (pe_callB (call_max2 rfl) (by rfl) T.b_max boot_max (pa_cons (pe_op op_sub (pe_op op_sub (pe_bits (pv 1)) (pe_bits (pv 2))) pe_int) (pa_cons (pgE "LOWEST" T.c_LOWEST) pa_nil))))
      (C8.pss_cut (ps_if (pt_cmpR op_lt (pv 3) pe_int (nomark _)) (pss_one (ps_set (i := 1) sc_nearest.nd rfl (Or.inl rfl) (pe_op op_shlW (pv 1) (pe_op op_sub pe_int (pv 3))))) (pss_one (ps_set (i := 2) sc_nearest.nd rfl (Or.inl rfl) (pe_op op_shlW (pv 2) (pv 3)))))
      (C8.pss_cut (ps_if (pt_cmpR op_ge (pe_op op_fdivW (pv 1) (pv 2)) (pgE "ROOM" T.c_ROOM) (nomark _)) (pss_cons (ps_set (i := 2) sc_nearest.nd rfl (Or.inl rfl) (pe_op op_shlW (pv 2) pe_int))
      (pss_one (ps_set (i := 3) sc_nearest.nd rfl (Or.inl rfl) (pe_op op_add (pv 3) pe_int)))) pss_nil)
      (pss_cons (ps_asg (pe_callB call_divmodW (by rfl) T.b_divmod boot_divmod (pa_cons (pv 1) (pa_cons (pv 2) pa_nil))) (pg_tup (by rfl) (pgs_cons (pg_name (i := 4) sc_nearest.nd rfl (Or.inl rfl)) (pgs_cons (pg_name (i := 5) sc_nearest.nd rfl (Or.inl rfl)) pgs_nil))))
      (C8.pss_cut (ps_if (PW.pt (pw_or (pt_cmpR op_gt (pe_op op_mulX pe_int (pv 5)) (pv 2) (nomark _)) (pw_or1 (PW.pt (pw_and (pt_cmpR op_eq (pe_op op_mulX pe_int (pv 5)) (pv 2) (nomark _)) (pw_and1 (pt_cmpR op_eq (pe_op op_and (pv 4) pe_int) pe_int (nomark _)))))))) (pss_one (ps_set (i := 4) sc_nearest.nd rfl (Or.inl rfl) (pe_op op_add (pv 4) pe_int))) pss_nil)
      (pss_cons (ps_if (pt_cmpR op_gt (pe_op op_add (pe_bits (pv 4)) (pv 3)) (pgE "TOO_GREAT" T.c_TOO_GREAT) (nomark _)) (pss_one (ps_ret (pk k_infinity hr (pa_cons (pv 0) pa_nil)))) pss_nil)
      (pss_one (ps_ret (pkC k_Float_init hr (pa_cons (pv 0) (pa_cons (pv 4) (pa_cons (pv 3) pa_nil))))))))))))), ?_⟩
    repeat walk_at "rd"
    refine iD (fun z => ?_) (fun z => ?_)
    · repeat walk_at "rd"
      subst z
      refine u_Float (.inl ⟨0, rfl, by decide, hs, by rw [red_zero]; decide, rfl⟩) fun x H' s1 n1 h1 => ?_
      refine q x H' s1 n1 ?_
      unfold nearM
      rw [if_pos rfl]
      rw [red_zero] at h1
      exact h1
    · repeat walk_at "rd"
      rw [show (if (-1074 : Int) > ((Builtin.Int.intBits t : Nat) : Int) - ((Builtin.Int.intBits b : Nat) : Int) - 53 then (-1074 : Int) else ((Builtin.Int.intBits t : Nat) : Int) - ((Builtin.Int.intBits b : Nat) : Int) - 53) = pw t b from rfl]
      have g1 := pw_ge (t := t) (b := b)
      have g2 := pw_le (t := t) (b := b) bt
      repeat walk_at "rd"
      refine w_cut (Mid := fun σ' H' => σ' = [some (.int s), some (.int (t1 t b)), some (.int (b1 t b)), some (.int (pw t b)), none, none] ∧ H' = H) ?_ ?_
      · repeat walk_at "rd"
        refine iD (fun c => ?_) (fun c => ?_)
        · repeat walk_at "rd"
          refine w_I (cshl (by omega) (by omega) (by omega)) ?_
          repeat walk_at "rd"
          refine ⟨?_, rfl⟩
          unfold t1 b1
          rw [if_pos c, if_pos c]
          rfl
        · repeat walk_at "rd"
          refine w_I (cshl (by omega) (by omega) (by omega)) ?_
          repeat walk_at "rd"
          refine ⟨?_, rfl⟩
          unfold t1 b1
          rw [if_neg c, if_neg c]
          rfl
      rintro σ' H' ⟨rfl, rfl⟩
      have h1 := b1_pos (t := t) hb
      have h2 := b2_pos (t := t) hb
      have h3 := b1_bits hb bt bb
      have h4 := b2_bits hb bt bb
      have h5 := t1_bits (b := b) ht bt
      refine w_cut (Mid := fun σ' H'' => σ' = [some (.int s), some (.int (t1 t b)), some (.int (b2 t b)), some (.int (p2 t b)), none, none] ∧ H'' = H') ?_ ?_
      · repeat walk_at "rd"
        refine w_I (cdivw h1 (by omega)) ?_
        repeat walk_at "rd"
        refine iD (fun c => ?_) (fun c => ?_)
        · repeat walk_at "rd"
          refine w_I (cshl (by omega) (by omega) (by omega)) ?_
          repeat walk_at "rd"
          refine ⟨?_, rfl⟩
          unfold b2 p2
          rw [if_pos c, if_pos c]
          rfl
        · repeat walk_at "rd"
          refine ⟨?_, rfl⟩
          unfold b2 p2
          rw [if_neg c, if_neg c]
      rintro σ' H'' ⟨rfl, rfl⟩
      repeat walk_at "rd"
      refine ⟨cdivp h2 (by omega), fun a1 n1 => ?_⟩
      have s1 := same_upd (o := .tup [.int (t1 t b / b2 t b), .int (t1 t b % b2 t b)]) n1
      have e1 := upd_same (H := H'') (a := a1) (o := .tup [.int (t1 t b / b2 t b), .int (t1 t b % b2 t b)])
      generalize upd H'' a1 (.tup [.int (t1 t b / b2 t b), .int (t1 t b % b2 t b)]) = H1 at s1 e1 ⊢
      refine w_gtup e1 rfl ?_
      repeat walk_at "rd"
      rw [show t1 t b / b2 t b = wq t b from rfl, show t1 t b % b2 t b = wr t b from rfl]
      have r0 := wr_nn (t := t) hb
      have r1 := wr_lt (t := t) hb
      have rb : bits (wr t b) ≤ 4401 := Int.le_trans (bits_mono r0 (Int.le_of_lt r1)) h4
      refine w_cut (Mid := fun σ' H'' => σ' = [some (.int s), some (.int (t1 t b)), some (.int (b2 t b)), some (.int (p2 t b)), some (.int (wh t b)), some (.int (wr t b))] ∧ H'' = H1) ?_ ?_
      · have up : goesUp t b → wh t b = wq t b + 1 := fun c => if_pos c
        have dn : ¬ goesUp t b → wh t b = wq t b := fun c => if_neg c
        repeat walk_at "rd"
        refine w_I (cmulx (by decide) (by omega)) ?_
        repeat walk_at "rd"
        refine iD (fun c => ?_) (fun c => ?_)
        · refine iT ?_
          repeat walk_at "rd"
          refine ⟨?_, rfl⟩
          rw [up (.inl c)]
          rfl
        · repeat walk_at "rd"
          refine w_I (cmulx (by decide) (by omega)) ?_
          repeat walk_at "rd"
          refine iD (fun c2 => ?_) (fun c2 => ?_)
          · repeat walk_at "rd"
            refine iD (fun c3 => ?_) (fun c3 => ?_)
            · repeat walk_at "rd"
              refine ⟨?_, rfl⟩
              rw [up (.inr ⟨c2, c3⟩)]
              rfl
            · repeat walk_at "rd"
              refine ⟨?_, rfl⟩
              rw [dn (fun h => h.elim c fun h => c3 h.2)]
              rfl
          · repeat walk_at "rd"
            refine ⟨?_, rfl⟩
            rw [dn (fun h => h.elim c fun h => c2 h.1)]
            rfl
      rintro σ' H3 ⟨rfl, rfl⟩
      repeat walk_at "rd"
      refine iD (fun c => ?_) (fun c => ?_)
      · repeat walk_at "rd"
        refine ⟨s, rfl, hs, fun x H' s2 n2 h2 => ?_⟩
        refine q x H' (s1.trans s2) (s1.free n2) ?_
        unfold nearM
        rw [if_neg z, if_pos c]
        exact h2
      · repeat walk_at "rd"
        refine u_Float (.inl ⟨wh t b, rfl, wh_nn ht hb, hs, wh_fits ht hb (Int.not_lt.mp c), rfl⟩) fun x H' s2 n2 h2 => ?_
        refine q x H' (s1.trans s2) (s1.free n2) ?_
        unfold nearM
        rw [if_neg z, if_neg c]
        exact h2
end
end Nu

set_option Elab.async false
set_option linter.all false
set_option maxRecDepth 100000
set_option autoImplicit false
set_option maxHeartbeats 4000000
namespace Nu
open PySem PySem.Spec PyProof.Rows L2 Rd
local macro_rules | `(tactic| walk_at "hp") => `(tactic| first | assumption | (refine same_get ?sm ?_; (case sm => assumption); walk_at "hp"))
local macro_rules | `(tactic| walk_at "rd") => `(tactic| first
  | with_reducible refine w_nx ?_
  | with_reducible refine w_rt ?_
  | with_reducible refine w_bk ?_
  | with_reducible refine w_ct ?_
  | with_reducible refine w_seq ?_
  | with_reducible refine w_next ?_
  | with_reducible refine w_ret ?_
  | with_reducible refine w_ifS ?_
  | with_reducible refine w_asg ?_
  | with_reducible refine w_name ?_
  | with_reducible refine w_par ?_
  | with_reducible refine w_parI ?_
  | with_reducible refine w_ii ?_
  | with_reducible refine w_i1 ?_
  | with_reducible refine w_drop ?_
  | with_reducible refine w_sFld ?_
  | ((with_reducible refine' w_var ?rdh ?_); (case rdh => exact rfl))
  | with_reducible refine w_c ?_
  | with_reducible refine w_op ?_
  | with_reducible refine w_un ?_
  | with_reducible refine w_I0 ?_
  | with_reducible refine w_U ?_
  | with_reducible refine w_bits ?_
  | with_reducible refine w_bitsI ?_
  | with_reducible refine w_tup ?_
  | with_reducible refine w_lst ?_
  | with_reducible refine w_nil ?_
  | with_reducible refine w_cons ?_
  | with_reducible refine w_fld ?_
  | with_reducible refine w_call ?_
  | with_reducible refine w_make ?_
  | with_reducible refine w_makeD ?_
  | with_reducible refine w_nn ?_
  | with_reducible refine w_subB ?_
  | with_reducible refine w_meth ?_
  | with_reducible refine w_cb ?_
  | with_reducible refine w_test ?_
  | with_reducible refine w_B ?_
  | with_reducible refine w_bl ?_
  | with_reducible refine w_andV ?_
  | with_reducible refine w_orV ?_
  | with_reducible refine w_notV ?_
  | with_reducible refine w_and ?_
  | with_reducible refine w_or ?_
  | with_reducible refine w_not ?_
  | with_reducible refine w_if ?_
  | with_reducible refine w_gnil ?_
  | with_reducible refine w_gcons ?_
  | with_reducible refine iT ?_
  | with_reducible refine iF ?_
  | with_reducible refine w_eqI ?_
  | with_reducible refine w_neI ?_
  | with_reducible refine w_eqS ?_
  | with_reducible refine w_eqIS ?_
  | with_reducible refine w_eqSI ?_)

section
variable {P : Program} {w : World} {K : PySem.W.Frag} {mg : Str → Option Value} {base : Heap} {CF : Addr}
/-! ### is_finite, ratio -/
def Fl.isFin : Fl → Bool
  | .fin _ _ _ => true
  | _ => false
theorem Fl.ty (f : Fl) (K : PySem.W.Frag) (H : Hp) : ∃ t, TyX K H f.t t ∧ PySem.W.kitOne K t (.type "int") = some f.isFin := by
  cases f with
  | fin s t p => exact ⟨_, .base (.int t), kit_ty (r := true) (by decide +kernel)⟩
  | inf s => exact ⟨_, .base (.str _), kit_ty (r := false) (by decide +kernel)⟩
  | nan => exact ⟨_, .base (.str _), kit_ty (r := false) (by decide +kernel)⟩
def spFinite (CF : Addr) : Sp := fun vs H Q _ => ∃ a f, vs = [.ref a] ∧ FlAt CF H a f ∧ Q (.bl f.isFin) H
theorem sc_Float_is_finite : FnScope ["self"] ["self"] (defScope s_Float_is_finite) := ⟨rfl, rfl, rfl, by decide +kernel, rfl, by decide +kernel, by decide +kernel⟩
theorem ok_is_finite (T : All K mg CF) : KnM P w K mg base CX0 1 CF "is_finite" ["self"] (spFinite CF) := by
  refine T.x_is_finite.kn fun f fd F => ?_
  refine F.ok sc_Float_is_finite (fun vs H Q E h => ?_) (fun cdv A outer s H vs Q E hr h => ?_)
  · obtain ⟨a, f, rfl, _⟩ := h
    rfl
  · obtain ⟨a, f, rfl, ⟨dx, h1⟩, q⟩ := h
    refine ⟨_, (pss_one (ps_ret (pe_callB call_isi (by rfl) T.b_isinstance boot_isinstance (pa_cons (pe_fld (pv 0) rfl) (pa_cons (pe_bltn (by rfl) T.b_int boot_int (rty _)) pa_nil))))), ?_⟩
    repeat walk_at "rd"
    refine w_fldI h1 T.l_Float T.n_top (flds_t _ _ _) ?_
    repeat walk_at "rd"
    obtain ⟨t, ty, k⟩ := f.ty K H
    refine w_isi (.ty "int") ty k ?_
    repeat walk_at "rd"
    exact q
/-- top and bottom of a finite float -/
def ratT (s t p : Int) : Int := if p < 0 then s * t else s * (t * 2 ^ p.toNat)
def ratB (p : Int) : Int := if p < 0 then 2 ^ (0 - p).toNat else 1
def spRatio (CF : Addr) : Sp := fun vs H Q _ => ∃ a s t p, vs = [.ref a] ∧ FlAt CF H a (.fin s t p) ∧ (Fl.fin s t p).ok ∧
  ∀ q H', Same H H' → H q = none → H' q = some (.tup [.int (ratT s t p), .int (ratB p)]) → Q (.ref q) H'
theorem ok_bounds {s t p : Int} (h : (Fl.fin s t p).ok) : bits s ≤ 1 ∧ bits t ≤ 53 ∧ -1074 ≤ p ∧ p ≤ 1023 ∧ 0 ≤ t ∧ bits t + p ≤ 1024 := by
  obtain ⟨hs, h0, h1, h2, h3⟩ := h
  have b1 : bits s ≤ 1 := by rcases hs with rfl | rfl <;> decide
  have b2 : bits t ≤ ((53 : Nat) : Int) := (bits_lt_pow h0).2 (by rw [← pow53]; exact h1)
  by_cases z : t = 0
  · have := h2 z
    subst z
    rw [bits_zero]
    omega
  · obtain ⟨h4, h5, h6⟩ := h3 z
    have : 0 < Builtin.Int.intBits t := bits_pos (by omega)
    have e : bits t = (Builtin.Int.intBits t : Nat) := rfl
    omega
theorem sc_Float_ratio : FnScope ["self"] ["self"] (defScope s_Float_ratio) := ⟨rfl, rfl, rfl, by decide +kernel, rfl, by decide +kernel, by decide +kernel⟩
theorem ok_ratio (T : All K mg CF) : KnM P w K mg base CX0 1 CF "ratio" ["self"] (spRatio CF) := by
  refine T.x_ratio.kn fun f fd F => ?_
  refine F.ok sc_Float_ratio (fun vs H Q E h => ?_) (fun cdv A outer s H vs Q E hr h => ?_)
  · obtain ⟨a, s, t, p, rfl, _⟩ := h
    rfl
  · obtain ⟨a, s, t, p, rfl, ⟨dx, h1⟩, ok, q⟩ := h
    obtain ⟨bs, bt, p1, p2, t0, tp⟩ := ok_bounds ok
    refine ⟨_, (pss_cons (ps_if (pt_cmpR op_lt (pe_fld (pv 0) rfl) pe_int (nomark _)) (pss_one (ps_ret (pe_tup (pa_cons (pe_op op_mulX (pe_fld (pv 0) rfl) (pe_fld (pv 0) rfl)) (pa_cons (pe_op op_shlW pe_int (pe_op op_sub pe_int (pe_fld (pv 0) rfl))) pa_nil))))) pss_nil)
      (pss_one (ps_ret (pe_tup (pa_cons (pe_op op_mulX (pe_fld (pv 0) rfl) (pe_op op_shlW (pe_fld (pv 0) rfl) (pe_fld (pv 0) rfl))) (pa_cons pe_int pa_nil)))))), ?_⟩
    repeat walk_at "rd"
    refine w_fldI h1 T.l_Float T.n_power (flds_p _ _ _) ?_
    repeat walk_at "rd"
    refine iD (fun c => ?_) (fun c => ?_)
    · have c' : p < 0 := c
      repeat walk_at "rd"
      refine w_fldI h1 T.l_Float T.n_sign (flds_s _ _ _) ?_
      repeat walk_at "rd"
      refine w_fldI h1 T.l_Float T.n_top (flds_t _ _ _) ?_
      refine w_I (cmulx (i := s) (j := t) (by omega) (by omega)) ?_
      repeat walk_at "rd"
      refine w_fldI h1 T.l_Float T.n_power (flds_p _ _ _) ?_
      repeat walk_at "rd"
      refine w_I (cshl (i := 1) (j := 0 - p) (by decide) (by omega) (by omega)) ?_
      repeat walk_at "rd"
      refine w_tup2 fun a2 H2 s2 n2 h2 => ?_
      repeat walk_at "rd"
      refine q a2 H2 s2 n2 ?_
      rw [h2]
      unfold ratT ratB
      rw [if_pos c', if_pos c', Int.one_mul] <;> rfl
    · have c' : ¬ p < 0 := c
      repeat walk_at "rd"
      refine w_fldI h1 T.l_Float T.n_sign (flds_s _ _ _) ?_
      repeat walk_at "rd"
      refine w_fldI h1 T.l_Float T.n_top (flds_t _ _ _) ?_
      repeat walk_at "rd"
      refine w_fldI h1 T.l_Float T.n_power (flds_p _ _ _) ?_
      refine w_I (cshl (i := t) (j := p) (by omega) (by omega) (by omega)) ?_
      refine w_I (cmulx (i := s) (j := t * 2 ^ p.toNat) (by omega) (by have := bits_mul_pow t0 p.toNat; omega)) ?_
      repeat walk_at "rd"
      refine w_tup2 fun a2 H2 s2 n2 h2 => ?_
      repeat walk_at "rd"
      refine q a2 H2 s2 n2 ?_
      rw [h2]
      unfold ratT ratB
      rw [if_neg c', if_neg c'] <;> rfl
/-! ### is_number, to_float -/
def spNumber (K : PySem.W.Frag) (CF : Addr) : Sp := fun vs H Q _ => ∃ x pl bo st fl, vs = [x] ∧ Says K CF H x pl bo st fl ∧ Q (.bl (fl || ((pl || bo) && !bo))) H
theorem sc_is_number : FnScope ["thing"] ["thing"] (defScope s_is_number) := ⟨rfl, rfl, rfl, by decide +kernel, rfl, by decide +kernel, by decide +kernel⟩
theorem ok_is_number (T : All K mg CF) (k_is_plain : Kn P w K mg base CX0 1 "is_plain" ["number"] (spPlain K CF)) : Kn P w K mg base CX0 2 "is_number" ["thing"] (spNumber K CF) := by
  refine T.x_is_number.kn fun f fd F => ?_
  refine F.ok sc_is_number (fun vs H Q E h => ?_) (fun cdv A outer s H vs Q E hr h => ?_)
  · obtain ⟨x, pl, bo, st, fl, rfl, _⟩ := h
    rfl
  · obtain ⟨x, pl, bo, st, fl, rfl, sy, q⟩ := h
    obtain ⟨t, ty, i1, i2, i3, i4⟩ := id sy
    refine ⟨_, (pss_one (ps_ret (pe_or (pe_callB call_isi (by rfl) T.b_isinstance boot_isinstance (pa_cons (pv 0) (pa_cons (pg "Float" T.g_Float (rref _)) pa_nil))) (pe_one (pk k_is_plain hr (pa_cons (pv 0) pa_nil)))))), ?_⟩
    repeat walk_at "rd"
    refine w_isi (.own CF) ty i4 ?_
    repeat walk_at "rd"
    refine iB (fun e => ?_) (fun e => ?_)
    · rw [e] at q
      repeat walk_at "rd"
      exact q
    · rw [e] at q
      repeat walk_at "rd"
      exact ⟨x, pl, bo, st, fl, rfl, sy, q⟩
/-- a float is itself; an int of 64 bits the nearest -/
def spToF (K : PySem.W.Frag) (CF : Addr) : Sp := fun vs H Q _ => (∃ a f, vs = [.ref a] ∧ FlAt CF H a f ∧ Q (.ref a) H) ∨
  (∃ i, vs = [.int i] ∧ bits i ≤ 2000 ∧ NewF CF (nearM (if i < 0 then -1 else 1) (if i < 0 then -i else i) 1) H Q)
theorem sc_to_float : FnScope ["number"] ["number"] (defScope s_to_float) := ⟨rfl, rfl, rfl, by decide +kernel, rfl, by decide +kernel, by decide +kernel⟩
theorem ok_to_float (T : All K mg CF) (k_sign_of : Kn P w K mg base CX0 1 "sign_of" ["is_negative"] spSign) (k_nearest : Kn P w K mg base CX0 5 "nearest" ["sign", "top", "bottom"] (spNear CF)) : Kn P w K mg base CX0 6 "to_float" ["number"] (spToF K CF) := by
  refine T.x_to_float.kn fun f fd F => ?_
  refine F.ok sc_to_float (fun vs H Q E h => ?_) (fun cdv A outer s H vs Q E hr h => ?_)
  · rcases h with ⟨a, f, rfl, _⟩ | ⟨i, rfl, _⟩ <;> rfl
  · refine ⟨_, (pss_cons (ps_if (pt_val (pe_callB call_isi (by rfl) T.b_isinstance boot_isinstance (pa_cons (pv 0) (pa_cons (pg "Float" T.g_Float (rref _)) pa_nil)))) (pss_one (ps_ret (pv 0))) pss_nil)
      (pss_one (ps_ret (pk k_nearest hr (pa_cons (pk k_sign_of hr (pa_cons (pe_cmpR op_lt (pv 0) pe_int (nomark _)) pa_nil)) (pa_cons (pe_callB call_abs (by rfl) T.b_abs boot_abs (pa_cons (pv 0) pa_nil)) (pa_cons pe_int pa_nil))))))), ?_⟩
    rcases h with ⟨a, f, rfl, ⟨dx, h1⟩, q⟩ | ⟨i, rfl, hb, q⟩
    · obtain ⟨t, ty, i1, i2, i3, i4⟩ := says_fl T h1
      repeat walk_at "rd"
      refine w_isi (.own CF) ty i4 ?_
      repeat walk_at "rd"
      exact q
    · obtain ⟨t, ty, i1, i2, i3, i4⟩ := says_int (i := i) (H := H) T
      repeat walk_at "rd"
      refine w_isi (.own CF) ty i4 ?_
      repeat walk_at "rd"
      refine ⟨_, rfl, ?_⟩
      repeat walk_at "rd"
      refine ⟨_, _, _, rfl, ?_, ?_, by decide, ?_, by decide, ?_⟩
      · by_cases c : i < 0
        · rw [decide_eq_true c, if_pos rfl]; exact .inr rfl
        · rw [decide_eq_false c, if_neg Bool.false_ne_true]; exact .inl rfl
      · split <;> omega
      · have e : bits (if i < 0 then -i else i) = bits i := by
          split
          · exact congrArg Nat.cast (by unfold Builtin.Int.intBits; simp)
          · rfl
        rw [e]
        omega
      · have e : (if decide (i < 0) = true then (-1 : Int) else 1) = (if i < 0 then -1 else 1) := by
          by_cases c : i < 0
          · rw [decide_eq_true c, if_pos rfl, if_pos c]
          · rw [decide_eq_false c, if_neg Bool.false_ne_true, if_neg c]
        rw [e]
        exact q
theorem lk_fin (s : Int) (t : V) (p : Int) : (flds s t p).lookup ("is_finite" : Str) = none := flds_no s t p (by decide +kernel) (by decide +kernel) (by decide +kernel)
theorem lk_rat (s : Int) (t : V) (p : Int) : (flds s t p).lookup ("ratio" : Str) = none := flds_no s t p (by decide +kernel) (by decide +kernel) (by decide +kernel)
end
end Nu

set_option Elab.async false
set_option linter.all false
set_option maxRecDepth 100000
set_option autoImplicit false
set_option maxHeartbeats 4000000
namespace Nu
open PySem PySem.Spec PyProof.Rows L2 Rd
local macro_rules | `(tactic| walk_at "hp") => `(tactic| first | assumption | (refine same_get ?sm ?_; (case sm => assumption); walk_at "hp"))
local macro_rules | `(tactic| walk_at "rd") => `(tactic| first
  | with_reducible refine w_nx ?_
  | with_reducible refine w_rt ?_
  | with_reducible refine w_bk ?_
  | with_reducible refine w_ct ?_
  | with_reducible refine w_seq ?_
  | with_reducible refine w_next ?_
  | with_reducible refine w_ret ?_
  | with_reducible refine w_ifS ?_
  | with_reducible refine w_asg ?_
  | with_reducible refine w_name ?_
  | with_reducible refine w_par ?_
  | with_reducible refine w_parI ?_
  | with_reducible refine w_ii ?_
  | with_reducible refine w_i1 ?_
  | with_reducible refine w_drop ?_
  | with_reducible refine w_sFld ?_
  | ((with_reducible refine' w_var ?rdh ?_); (case rdh => exact rfl))
  | with_reducible refine w_c ?_
  | with_reducible refine w_op ?_
  | with_reducible refine w_un ?_
  | with_reducible refine w_I0 ?_
  | with_reducible refine w_U ?_
  | with_reducible refine w_bits ?_
  | with_reducible refine w_bitsI ?_
  | with_reducible refine w_tup ?_
  | with_reducible refine w_lst ?_
  | with_reducible refine w_nil ?_
  | with_reducible refine w_cons ?_
  | with_reducible refine w_fld ?_
  | with_reducible refine w_call ?_
  | with_reducible refine w_make ?_
  | with_reducible refine w_makeD ?_
  | with_reducible refine w_nn ?_
  | with_reducible refine w_subB ?_
  | with_reducible refine w_meth ?_
  | with_reducible refine w_cb ?_
  | with_reducible refine w_test ?_
  | with_reducible refine w_B ?_
  | with_reducible refine w_bl ?_
  | with_reducible refine w_andV ?_
  | with_reducible refine w_orV ?_
  | with_reducible refine w_notV ?_
  | with_reducible refine w_and ?_
  | with_reducible refine w_or ?_
  | with_reducible refine w_not ?_
  | with_reducible refine w_if ?_
  | with_reducible refine w_gnil ?_
  | with_reducible refine w_gcons ?_
  | with_reducible refine iT ?_
  | with_reducible refine iF ?_
  | with_reducible refine w_eqI ?_
  | with_reducible refine w_neI ?_
  | with_reducible refine w_eqS ?_
  | with_reducible refine w_eqIS ?_
  | with_reducible refine w_eqSI ?_)

/-! ### numbers -/
inductive Nm where
  | int (i : Int)
  | fl (f : Fl)
def NmAt (CF : Addr) (H : Hp) (x : V) : Nm → Prop
  | .int i => x = .int i ∧ bits i ≤ 70
  | .fl f => ∃ a, x = .ref a ∧ FlAt CF H a f ∧ f.ok
theorem NmAt.same {CF : Addr} {H H' : Hp} {x : V} : ∀ {n : Nm}, NmAt CF H x n → Same H H' → NmAt CF H' x n
  | .int _, h, _ => h
  | .fl _, ⟨a, e, h, o⟩, s => ⟨a, e, h.same s, o⟩
def place : Nm → Option (Int × Int)
  | .int i => some (i, 1)
  | .fl (.fin s t p) => some (ratT s t p, ratB p)
  | .fl (.inf s) => some (s * 2 ^ 1025, 1)
  | .fl .nan => none
theorem bits_mul (a b : Int) : bits (a * b) ≤ bits a + bits b := by
  have := intBits_mul_le (x := a) (y := b) (m := Builtin.Int.intBits a) (n := Builtin.Int.intBits b) (Nat.le_refl _) (Nat.le_refl _)
  unfold bits
  omega
theorem bits_pow (k : Nat) : bits (2 ^ k) = k + 1 := bits_eq (Int.le_refl _) (by rw [Int.pow_succ]; have := pow_pos2 k; omega)
theorem ratT_bits {s t p : Int} (h : (Fl.fin s t p).ok) : bits (ratT s t p) ≤ 1200 := by
  obtain ⟨bs, bt, p1, p2, t0, tp⟩ := ok_bounds h
  unfold ratT
  split
  · have := bits_mul s t; omega
  · have h1 := bits_mul s (t * 2 ^ p.toNat)
    have h2 := bits_mul_pow t0 p.toNat
    omega
theorem ratB_bits {s t p : Int} (h : (Fl.fin s t p).ok) : bits (ratB p) ≤ 1200 := by
  obtain ⟨bs, bt, p1, p2, t0, tp⟩ := ok_bounds h
  unfold ratB
  split
  · rw [bits_pow]; omega
  · decide
theorem ratB_pos (p : Int) : 0 < ratB p := by
  unfold ratB
  split
  · exact pow_pos2 _
  · decide
theorem place_bits {CF : Addr} {H : Hp} {x : V} {n : Nm} {a b : Int} (h : NmAt CF H x n) (e : place n = some (a, b)) : bits a ≤ 1200 ∧ bits b ≤ 1200 := by
  match n, h, e with
  | .int i, h, e =>
    cases e
    exact ⟨by have := h.2; omega, by decide⟩
  | .fl (.fin s t p), ⟨_, _, _, ok⟩, e =>
    cases e
    exact ⟨ratT_bits ok, ratB_bits ok⟩
  | .fl (.inf s), ⟨_, _, _, ok⟩, e =>
    cases e
    refine ⟨?_, by decide⟩
    have h1 := bits_mul s (2 ^ 1025)
    rw [bits_pow] at h1
    have h2 : bits s ≤ 1 := by rcases (show s = 1 ∨ s = -1 from ok) with rfl | rfl <;> decide
    omega
  | .fl .nan, _, e => cases e
section
variable {P : Program} {w : World} {K : PySem.W.Frag} {mg : Str → Option Value} {base : Heap} {CF : Addr}
theorem NmAt.says (T : All K mg CF) {H : Hp} {x : V} {n : Nm} (h : NmAt CF H x n) : ∃ pl fl, Says K CF H x pl false false fl ∧ (fl || ((pl || false) && !false)) = true ∧ (fl = match n with | .int _ => false | .fl _ => true) := by
  cases n with
  | int i =>
    obtain ⟨rfl, _⟩ := h
    exact ⟨true, false, says_int T, rfl, rfl⟩
  | fl f =>
    obtain ⟨a, rfl, ⟨dx, e⟩, _⟩ := h
    exact ⟨false, true, says_fl T e, rfl, rfl⟩
/-- the place of a number as a fraction -/
def spPlace (CF : Addr) : Sp := fun vs H Q _ => ∃ x n, vs = [x] ∧ NmAt CF H x n ∧ (place n = none → Q .non H) ∧
  ∀ a b, place n = some (a, b) → ∀ q H', Same H H' → H' q = some (.tup [.int a, .int b]) → Q (.ref q) H'
theorem sc_place_of_numbers : FnScope ["number"] ["number"] (defScope s_place_of_numbers) := ⟨rfl, rfl, rfl, by decide +kernel, rfl, by decide +kernel, by decide +kernel⟩
theorem ok_place (T : All K mg CF) (k_Float_is_finite : KnM P w K mg base CX0 1 CF "is_finite" ["self"] (spFinite CF)) (k_Float_ratio : KnM P w K mg base CX0 1 CF "ratio" ["self"] (spRatio CF)) : Kn P w K mg base CX0 2 "place_of_numbers" ["number"] (spPlace CF) := by
  refine T.x_place.kn fun f fd F => ?_
  refine F.ok sc_place_of_numbers (fun vs H Q E h => ?_) (fun cdv A outer s H vs Q E hr h => ?_)
  · obtain ⟨x, n, rfl, _⟩ := h
    rfl
  · obtain ⟨x, n, rfl, hn, q0, q1⟩ := h
    refine ⟨_, (pss_cons (ps_if (pt_not (pt_val (pe_callB call_isi (by rfl) T.b_isinstance boot_isinstance (pa_cons (pv 0) (pa_cons (pg "Float" T.g_Float (rref _)) pa_nil))))) (pss_one (ps_ret (pe_tup (pa_cons (pv 0) (pa_cons pe_int pa_nil))))) pss_nil)
      (pss_cons (ps_if (pt_val (pkM0 k_Float_is_finite T.l_Float hr (pv 0) rfl)) (pss_one (ps_ret (pkM0 k_Float_ratio T.l_Float hr (pv 0) rfl))) pss_nil)
      (pss_one (ps_ret (pe_ifExp (pt_cmpR op_eq (pe_fld (pv 0) rfl) pe_str (nomark _)) pe_non (pe_tup (pa_cons (pe_op op_shlW (pe_fld (pv 0) rfl) (pe_op op_add (pgE "TOO_GREAT" T.c_TOO_GREAT) pe_int)) (pa_cons pe_int pa_nil)))))))), ?_⟩
    obtain ⟨pl, fl, ⟨t, ty, i1, i2, i3, i4⟩, _, efl⟩ := hn.says T
    repeat walk_at "rd"
    refine w_isi (.own CF) ty i4 ?_
    repeat walk_at "rd"
    cases n with
    | int i =>
      obtain ⟨rfl, hb⟩ := hn
      subst efl
      refine iT ?_
      repeat walk_at "rd"
      refine w_tup2 fun a2 H2 s2 n2 h2 => ?_
      exact q1 i 1 rfl a2 H2 s2 h2
    | fl f =>
      obtain ⟨a, rfl, ha, ok⟩ := hn
      obtain ⟨dx, h1⟩ := id ha
      subst efl
      refine iF ?_
      repeat walk_at "rd"
      refine w_methI h1 (lk_fin _ _ _) ?_
      repeat walk_at "rd"
      refine ⟨a, f, rfl, ha, ?_⟩
      repeat walk_at "rd"
      cases f with
      | fin s t p =>
        refine iT ?_
        repeat walk_at "rd"
        refine w_methI h1 (lk_rat _ _ _) ?_
        repeat walk_at "rd"
        refine ⟨a, s, t, p, rfl, ha, ok, fun q H2 s2 n2 h2 => ?_⟩
        exact q1 _ _ rfl q H2 s2 h2
      | inf s =>
        refine iF ?_
        repeat walk_at "rd"
        refine w_fldI h1 T.l_Float T.n_top (flds_t _ _ _) ?_
        repeat walk_at "rd"
        refine w_eqS ?_
        repeat walk_at "rd"
        refine iD (fun z => absurd z (by decide +kernel)) (fun _ => ?_)
        repeat walk_at "rd"
        refine w_fldI h1 T.l_Float T.n_sign (flds_s _ _ _) ?_
        repeat walk_at "rd"
        refine w_I (cshl (i := s) (j := 1024 + 1) (by rcases (show s = 1 ∨ s = -1 from ok) with rfl | rfl <;> decide) (by decide) (by decide)) ?_
        repeat walk_at "rd"
        refine w_tup2 fun a2 H2 s2 n2 h2 => ?_
        repeat walk_at "rd"
        exact q1 _ _ rfl a2 H2 s2 h2
      | nan =>
        refine iF ?_
        repeat walk_at "rd"
        refine w_fldI h1 T.l_Float T.n_top (flds_t _ _ _) ?_
        repeat walk_at "rd"
        refine w_eqS ?_
        repeat walk_at "rd"
        refine iD (fun _ => ?_) (fun z => absurd rfl z)
        repeat walk_at "rd"
        exact q0 rfl
/-! ### order_of -/
def gap (a b : Int × Int) : Int := a.1 * b.2 - b.1 * a.2
def sgnV (g : Int) : Int := (if 0 < g then 1 else 0) - (if g < 0 then 1 else 0)
def ordV (n m : Nm) : V := match place n, place m with
  | some a, some b => .int (sgnV (gap a b))
  | _, _ => .non
def spOrder (CF : Addr) : Sp := fun vs H Q _ => ∃ x y n m, vs = [x, y] ∧ NmAt CF H x n ∧ NmAt CF H y m ∧ ∀ H', Same H H' → Q (ordV n m) H'
/-- what place_of hands back, for reading on -/
def PlV (H : Hp) (v : V) (r : Option (Int × Int)) : Prop := match r with
  | none => v = .non
  | some (a, b) => ∃ q, v = .ref q ∧ H q = some (.tup [.int a, .int b])
theorem PlV.same {H H' : Hp} {v : V} {r : Option (Int × Int)} (h : PlV H v r) (s : Same H H') : PlV H' v r := by
  cases r with
  | none => exact h
  | some ab =>
    obtain ⟨q, e, hq⟩ := h
    exact ⟨q, e, s _ _ hq⟩
theorem u_place {x : V} {n : Nm} {H : Hp} {Q : VK} {E : XK} (h : NmAt CF H x n) (q : ∀ v H', Same H H' → PlV H' v (place n) → Q v H') : spPlace CF ([x] ++ []) H Q E := by
  refine ⟨x, n, rfl, h, fun e => q .non H (Same.refl H) ?_, fun a b e p H' s hp => q (.ref p) H' s ?_⟩
  · rw [e]; rfl
  · rw [e]; exact ⟨p, rfl, hp⟩
theorem sc_order_of : FnScope ["one", "other", "first", "second", "gap"] ["one", "other"] (defScope s_order_of) := ⟨rfl, rfl, rfl, by decide +kernel, rfl, by decide +kernel, by decide +kernel⟩
theorem ok_order (T : All K mg CF) (k_place_of_numbers : Kn P w K mg base CX0 2 "place_of_numbers" ["number"] (spPlace CF)) : Kn P w K mg base CX0 3 "order_of" ["one", "other"] (spOrder CF) := by
  refine T.x_order.kn fun f fd F => ?_
  refine F.ok sc_order_of (fun vs H Q E h => ?_) (fun cdv A outer s H vs Q E hr h => ?_)
  · obtain ⟨x, y, n, m, rfl, _⟩ := h
    rfl
  · obtain ⟨x, y, n, m, rfl, hn, hm, q⟩ := h
    refine ⟨_, (pss_cons (ps_par (by rfl) sc_order_of.nd (i := 2) (j := 3) rfl rfl (by decide) rfl rfl (pa_cons (pk k_place_of_numbers hr (pa_cons (pv 0) pa_nil)) (pa_cons (pk k_place_of_numbers hr (pa_cons (pv 1) pa_nil)) pa_nil)) (by rfl))
      (pss_cons (ps_if (PW.pt (pw_or (pt_cmpR op_isN (pv 2) pe_non (nomark _)) (pw_or1 (pt_cmpR op_isN (pv 3) pe_non (nomark _))))) (pss_one (ps_ret pe_non)) pss_nil)
      (pss_cons (ps_set (i := 4) sc_order_of.nd rfl (Or.inl rfl) (pe_op op_sub (pe_op op_mulX (pe_ix ix_tup (pv 2) pe_int (fun _ _ => rfl)) (pe_ix ix_tup (pv 3) pe_int (fun _ _ => rfl))) (pe_op op_mulX (pe_ix ix_tup (pv 3) pe_int (fun _ _ => rfl)) (pe_ix ix_tup (pv 2) pe_int (fun _ _ => rfl)))))
      (pss_one (ps_ret (pe_op op_sub_bb (pe_cmpR op_gt (pv 4) pe_int (nomark _)) (pe_cmpR op_lt (pv 4) pe_int (nomark _)))))))), ?_⟩
    repeat walk_at "rd"
    refine u_place hn fun v1 H1 s1 p1 => ?_
    repeat walk_at "rd"
    refine u_place (hm.same s1) fun v2 H2 s2 p2 => ?_
    have p1 := p1.same s2
    repeat walk_at "rd"
    have bn := fun a b => place_bits (a := a) (b := b) hn
    have bm := fun a b => place_bits (a := a) (b := b) hm
    unfold ordV at q
    generalize place n = r1 at p1 q bn
    generalize place m = r2 at p2 q bm
    cases r1 with
    | none =>
      obtain rfl : v1 = .non := p1
      refine iT ?_
      repeat walk_at "rd"
      exact q H2 (s1.trans s2)
    | some ab =>
      obtain ⟨q1, rfl, h1⟩ := p1
      refine iF ?_
      repeat walk_at "rd"
      cases r2 with
      | none =>
        obtain rfl : v2 = .non := p2
        refine iT ?_
        repeat walk_at "rd"
        exact q H2 (s1.trans s2)
      | some cd =>
        obtain ⟨q2, rfl, h2⟩ := p2
        obtain ⟨b1, b2⟩ := bn ab.1 ab.2 rfl
        obtain ⟨b3, b4⟩ := bm cd.1 cd.2 rfl
        refine iF ?_
        repeat walk_at "rd"
        refine w_ixT h1 (v := .int ab.1) rfl ?_
        repeat walk_at "rd"
        refine w_ixT h2 (v := .int cd.2) rfl ?_
        refine w_I (cmulx (i := ab.1) (j := cd.2) (by omega) (by omega)) ?_
        repeat walk_at "rd"
        refine w_ixT h2 (v := .int cd.1) rfl ?_
        repeat walk_at "rd"
        refine w_ixT h1 (v := .int ab.2) rfl ?_
        refine w_I (cmulx (i := cd.1) (j := ab.2) (by omega) (by omega)) ?_
        repeat walk_at "rd"
        have q' := q H2 (s1.trans s2)
        have e : sgnV (gap ab cd) = (if decide (0 < ab.1 * cd.2 - cd.1 * ab.2) = true then (1 : Int) else 0) - (if decide (ab.1 * cd.2 - cd.1 * ab.2 < 0) = true then (1 : Int) else 0) := by
          unfold sgnV gap
          simp only [decide_eq_true_eq]
        simp only at q'
        rw [e] at q'
        exact q'
/-! ### compare -/
def cmpV (w : Str) (n m : Nm) : Bool := match ordV n m with
  | .int g => if w = "lt" then decide (g < 0) else decide (g ≤ 0)
  | _ => false
def spCompare (CF : Addr) : Sp := fun vs H Q _ => ∃ w x y n m, vs = [.str w, x, y] ∧ NmAt CF H x n ∧ NmAt CF H y m ∧ ∀ H', Same H H' → Q (.bl (cmpV w n m)) H'
theorem ordV_cases (n m : Nm) : ordV n m = .non ∨ ∃ g, ordV n m = .int g := by
  unfold ordV
  cases place n <;> cases place m <;> first | exact .inl rfl | exact .inr ⟨_, rfl⟩
theorem sc_compare : FnScope ["word", "one", "other", "order"] ["word", "one", "other"] (defScope s_compare) := ⟨rfl, rfl, rfl, by decide +kernel, rfl, by decide +kernel, by decide +kernel⟩
theorem ok_compare (T : All K mg CF) (k_order_of : Kn P w K mg base CX0 3 "order_of" ["one", "other"] (spOrder CF)) : Kn P w K mg base CX0 4 "compare" ["word", "one", "other"] (spCompare CF) := by
  refine T.x_compare.kn fun f fd F => ?_
  refine F.ok sc_compare (fun vs H Q E h => ?_) (fun cdv A outer s H vs Q E hr h => ?_)
  · obtain ⟨w, x, y, n, m, rfl, _⟩ := h
    rfl
  · obtain ⟨w, x, y, n, m, rfl, hn, hm, q⟩ := h
    refine ⟨_, (pss_cons (ps_set (i := 3) sc_compare.nd rfl (Or.inl rfl) (pk k_order_of hr (pa_cons (pv 1) (pa_cons (pv 2) pa_nil))))
      (pss_cons (ps_if (pt_cmpR op_isN (pv 3) pe_non (nomark _)) (pss_one (ps_ret pe_bl)) pss_nil)
      (pss_one (ps_ret (pe_ifExp (pt_cmpR op_eq (pv 0) pe_str (nomark _)) (pe_cmpR op_lt (pv 3) pe_int (nomark _)) (pe_cmpR op_le (pv 3) pe_int (nomark _))))))), ?_⟩
    repeat walk_at "rd"
    refine ⟨x, y, n, m, rfl, hn, hm, fun H1 s1 => ?_⟩
    have q' := q H1 s1
    unfold cmpV at q'
    repeat walk_at "rd"
    rcases ordV_cases n m with e | ⟨g, e⟩
    · rw [e] at q' ⊢
      refine iT ?_
      repeat walk_at "rd"
      exact q'
    · rw [e] at q' ⊢
      refine iF ?_
      repeat walk_at "rd"
      simp only at q'
      refine iD (fun c => ?_) (fun c => ?_)
      · rw [if_pos c] at q'
        repeat walk_at "rd"
        exact q'
      · rw [if_neg c] at q'
        repeat walk_at "rd"
        exact q'
end
end Nu

set_option Elab.async false
set_option linter.all false
set_option maxRecDepth 100000
set_option autoImplicit false
set_option maxHeartbeats 4000000
namespace Nu
open PySem PySem.Spec PyProof.Rows L2 Rd
local macro_rules | `(tactic| walk_at "hp") => `(tactic| first | assumption | (refine same_get ?sm ?_; (case sm => assumption); walk_at "hp"))
local macro_rules | `(tactic| walk_at "rd") => `(tactic| first
  | with_reducible refine w_nx ?_
  | with_reducible refine w_rt ?_
  | with_reducible refine w_bk ?_
  | with_reducible refine w_ct ?_
  | with_reducible refine w_seq ?_
  | with_reducible refine w_next ?_
  | with_reducible refine w_ret ?_
  | with_reducible refine w_ifS ?_
  | with_reducible refine w_asg ?_
  | with_reducible refine w_name ?_
  | with_reducible refine w_par ?_
  | with_reducible refine w_parI ?_
  | with_reducible refine w_ii ?_
  | with_reducible refine w_i1 ?_
  | with_reducible refine w_drop ?_
  | with_reducible refine w_sFld ?_
  | ((with_reducible refine' w_var ?rdh ?_); (case rdh => exact rfl))
  | with_reducible refine w_c ?_
  | with_reducible refine w_op ?_
  | with_reducible refine w_un ?_
  | with_reducible refine w_I0 ?_
  | with_reducible refine w_U ?_
  | with_reducible refine w_bits ?_
  | with_reducible refine w_bitsI ?_
  | with_reducible refine w_tup ?_
  | with_reducible refine w_lst ?_
  | with_reducible refine w_nil ?_
  | with_reducible refine w_cons ?_
  | with_reducible refine w_fld ?_
  | with_reducible refine w_call ?_
  | with_reducible refine w_make ?_
  | with_reducible refine w_makeD ?_
  | with_reducible refine w_nn ?_
  | with_reducible refine w_subB ?_
  | with_reducible refine w_meth ?_
  | with_reducible refine w_cb ?_
  | with_reducible refine w_test ?_
  | with_reducible refine w_B ?_
  | with_reducible refine w_bl ?_
  | with_reducible refine w_andV ?_
  | with_reducible refine w_orV ?_
  | with_reducible refine w_notV ?_
  | with_reducible refine w_and ?_
  | with_reducible refine w_or ?_
  | with_reducible refine w_not ?_
  | with_reducible refine w_if ?_
  | with_reducible refine w_gnil ?_
  | with_reducible refine w_gcons ?_
  | with_reducible refine iT ?_
  | with_reducible refine iF ?_
  | with_reducible refine w_eqI ?_
  | with_reducible refine w_neI ?_
  | with_reducible refine w_eqS ?_
  | with_reducible refine w_eqIS ?_
  | with_reducible refine w_eqSI ?_)

abbrev s_Table_init : Stmt := inClass (top 37) 0
abbrev s_power_for : Stmt := top 36
/-- what the text has of tables -/
structure AllT (K : PySem.W.Frag) (mg : Str → Option Value) (CF CT : Addr) : Prop extends All K mg CF where
  g_Table : mg "Table" = some (.ref CT)
  l_Table : Cls K CT
  y_Table : ClsTy K CT
  o_Table : ObjC K CT
  n_number : NoAttr K CT "number"
  n_meta : NoAttr K CT "meta"
  n_array : NoAttr K CT "array"
  n_nodes : NoAttr K CT "nodes"
  n_free : NoAttr K CT "free"
  i_Tint : PySem.W.kitOne K (.ref CT) (.type "int") = some false
  i_Tbool : PySem.W.kitOne K (.ref CT) (.type "bool") = some false
  i_Tstr : PySem.W.kitOne K (.ref CT) (.type "str") = some false
  i_TF : PySem.W.kitOne K (.ref CT) (.ref CF) = some false
  x_power_for : Tx K mg "power_for" "power_for" s_power_for ["count"]
  x_Table : ∃ f fd, Mk K CT f ∧ FunD K "__init__" "Table.__init__" (defArgs s_Table_init) (defBody s_Table_init) (defScope s_Table_init) [.int 0, .int 0] [("meta", .non)] f fd
section
variable {P : Program} {w : World} {K : PySem.W.Frag} {mg : Str → Option Value} {base : Heap} {CF CT : Addr}
/-! ### same -/
/-- the kinds of values that are compared -/
inductive Kd (K : PySem.W.Frag) (CF CT : Addr) (H : Hp) : V → Option Nm → Prop where
  | num {x : V} {n : Nm} (h : NmAt CF H x n) : Kd K CF CT H x (some n)
  | bl (b : Bool) : Kd K CF CT H (.bl b) none
  | str (s : Str) : Kd K CF CT H (.str s) none
  | non : Kd K CF CT H .non none
  | tab {x : V} (h : InsV CT H x) : Kd K CF CT H x none
def isBl : V → Bool
  | .bl _ => true
  | _ => false
def isSt : V → Bool
  | .str _ => true
  | _ => false
theorem tfE {b c : Bool} {p : Prop} (e : V.bl b = V.bl c) (h : b = !c := by rfl) : p := by
  cases b <;> cases c <;> first | exact absurd h (by decide) | exact absurd (V.bl.inj e) (by decide)
theorem Kd.says (T : AllT K mg CF CT) {H : Hp} {x : V} {n : Option Nm} (h : Kd K CF CT H x n) : ∃ pl fl, Says K CF H x pl (isBl x) (isSt x) fl ∧ (fl || ((pl || isBl x) && !isBl x)) = n.isSome := by
  cases h with
  | @num _ m h =>
    obtain ⟨pl, fl, s, e, _⟩ := h.says T.toAll
    have e1 : isBl x = false ∧ isSt x = false := by
      cases m with
      | int i => obtain ⟨rfl, _⟩ := h; exact ⟨rfl, rfl⟩
      | fl f => obtain ⟨a, rfl, _⟩ := h; exact ⟨rfl, rfl⟩
    rw [e1.1, e1.2]
    exact ⟨pl, fl, s, e⟩
  | bl b => exact ⟨false, false, says_bl T.toAll, rfl⟩
  | str s => exact ⟨false, false, says_str T.toAll, rfl⟩
  | non => exact ⟨false, false, says_non T.toAll, rfl⟩
  | tab h =>
    obtain ⟨a, dx, fs, rfl, e⟩ := h
    exact ⟨false, false, ⟨_, ty_ins T.l_Table T.y_Table e, T.i_Tint, T.i_Tbool, T.i_Tstr, T.i_TF⟩, rfl⟩
def sameB (x y : V) : Option Nm → Option Nm → Bool
  | some n, some m => decide (ordV n m = .int 0)
  | none, none => decide (x = y)
  | _, _ => false
def spSame (K : PySem.W.Frag) (CF CT : Addr) : Sp := fun vs H Q _ => ∃ x y nx ny, vs = [x, y] ∧ Kd K CF CT H x nx ∧ Kd K CF CT H y ny ∧ ∀ H', Same H H' → Q (.bl (sameB x y nx ny)) H'
theorem u_number {x : V} {pl bo st fl : Bool} {H : Hp} {Q : VK} {E : XK} (h : Says K CF H x pl bo st fl) (q : Q (.bl (fl || ((pl || bo) && !bo))) H) : spNumber K CF ([x] ++ []) H Q E := ⟨x, pl, bo, st, fl, rfl, h, q⟩
theorem sc_same : FnScope ["one", "other"] ["one", "other"] (defScope s_same) := ⟨rfl, rfl, rfl, by decide +kernel, rfl, by decide +kernel, by decide +kernel⟩
theorem ok_same (T : AllT K mg CF CT) (k_is_number : Kn P w K mg base CX0 2 "is_number" ["thing"] (spNumber K CF)) (k_order_of : Kn P w K mg base CX0 3 "order_of" ["one", "other"] (spOrder CF)) :
    Kn P w K mg base CX0 4 "same" ["one", "other"] (spSame K CF CT) := by
  refine T.x_same.kn fun f fd F => ?_
  refine F.ok sc_same (fun vs H Q E h => ?_) (fun cdv A outer s H vs Q E hr h => ?_)
  · obtain ⟨x, y, nx, ny, rfl, _⟩ := h
    rfl
  · obtain ⟨x, y, nx, ny, rfl, hx, hy, q⟩ := h
    refine ⟨_, (pss_cons (ps_if (PW.pt (pw_and (pt_val (pk k_is_number hr (pa_cons (pv 0) pa_nil))) (pw_and1 (pt_val (pk k_is_number hr (pa_cons (pv 1) pa_nil)))))) (pss_one (ps_ret (pe_cmpR op_eq (pk k_order_of hr (pa_cons (pv 0) (pa_cons (pv 1) pa_nil))) pe_int (nomark _)))) pss_nil)
      (pss_cons (ps_if (PW.pt (pw_or (pt_val (pk k_is_number hr (pa_cons (pv 0) pa_nil))) (pw_or1 (pt_val (pk k_is_number hr (pa_cons (pv 1) pa_nil)))))) (pss_one (ps_ret pe_bl)) pss_nil)
      (pss_cons (ps_if (PW.pt (pw_or (pt_cmpR op_ne (pe_callB call_isi (by rfl) T.b_isinstance boot_isinstance (pa_cons (pv 0) (pa_cons (pe_bltn (by rfl) T.b_bool boot_bool (rty _)) pa_nil))) (pe_callB call_isi (by rfl) T.b_isinstance boot_isinstance (pa_cons (pv 1) (pa_cons (pe_bltn (by rfl) T.b_bool boot_bool (rty _)) pa_nil))) (nomark _)) (pw_or1 (pt_cmpR op_ne (pe_callB call_isi (by rfl) T.b_isinstance boot_isinstance (pa_cons (pv 0) (pa_cons (pe_bltn (by rfl) T.b_str boot_str (rty _)) pa_nil))) (pe_callB call_isi (by rfl) T.b_isinstance boot_isinstance (pa_cons (pv 1) (pa_cons (pe_bltn (by rfl) T.b_str boot_str (rty _)) pa_nil))) (nomark _))))) (pss_one (ps_ret pe_bl)) pss_nil)
      (pss_one (ps_ret (pe_cmpR (op_eqO hr.units0 T.o_Table) (pv 0) (pv 1) (nomark _))))))), ?_⟩
    obtain ⟨px, fx, sx, ex⟩ := hx.says T
    obtain ⟨py, fy, sy, ey⟩ := hy.says T
    obtain ⟨tx, tyx, x1, x2, x3, x4⟩ := id sx
    obtain ⟨ty, tyy, y1, y2, y3, y4⟩ := id sy
    repeat walk_at "rd"
    refine u_number sx ?_
    rw [ex]
    repeat walk_at "rd"
    cases nx with
    | some n =>
      refine iT ?_
      repeat walk_at "rd"
      refine u_number sy ?_
      rw [ey]
      repeat walk_at "rd"
      cases ny with
      | some m =>
        refine iT ?_
        repeat walk_at "rd"
        have hn : NmAt CF H x n := by cases hx; assumption
        have hm : NmAt CF H y m := by cases hy; assumption
        refine ⟨x, y, n, m, rfl, hn, hm, fun H1 s1 => ?_⟩
        repeat walk_at "rd"
        refine w_eq (by rcases ordV_cases n m with e | ⟨g, e⟩ <;> rw [e] <;> rfl) ?_
        exact q H1 s1
      | none =>
        refine iF ?_
        repeat walk_at "rd"
        refine u_number sx ?_
        rw [ex]
        repeat walk_at "rd"
        refine iT ?_
        repeat walk_at "rd"
        exact q H (Same.refl H)
    | none =>
      refine iF ?_
      repeat walk_at "rd"
      refine u_number sx ?_
      rw [ex]
      repeat walk_at "rd"
      refine iF ?_
      repeat walk_at "rd"
      refine u_number sy ?_
      rw [ey]
      repeat walk_at "rd"
      cases ny with
      | some m =>
        refine iT ?_
        repeat walk_at "rd"
        exact q H (Same.refl H)
      | none =>
        refine iF ?_
        repeat walk_at "rd"
        refine w_isi (.ty "bool") tyx x2 ?_
        repeat walk_at "rd"
        refine w_isi (.ty "bool") tyy y2 ?_
        refine w_ne rfl ?_
        repeat walk_at "rd"
        have q' := q H (Same.refl H)
        refine iN (fun c => ?_) (fun c => ?_)
        · refine iT ?_
          repeat walk_at "rd"
          have e : decide (x = y) = false := decide_eq_false fun z => c (by rw [z])
          show Q (.bl false) H
          rw [← e]
          exact q'
        · repeat walk_at "rd"
          refine w_isi (.ty "str") tyx x3 ?_
          repeat walk_at "rd"
          refine w_isi (.ty "str") tyy y3 ?_
          refine w_ne rfl ?_
          repeat walk_at "rd"
          refine iN (fun c2 => ?_) (fun c2 => ?_)
          · repeat walk_at "rd"
            have e : decide (x = y) = false := decide_eq_false fun z => c2 (by rw [z])
            show Q (.bl false) H
            rw [← e]
            exact q'
          · repeat walk_at "rd"
            refine ⟨?_, q'⟩
            cases hx with
            | bl b =>
              cases hy with
              | bl b' => exact .inl rfl
              | str s' => exact tfE c
              | non => exact tfE c
              | tab h => obtain ⟨a, dx, fs, rfl, e⟩ := h; exact tfE c
            | str s1 =>
              cases hy with
              | bl b' => exact tfE c
              | str s' => exact .inl rfl
              | non => exact tfE c2
              | tab h => obtain ⟨a, dx, fs, rfl, e⟩ := h; exact tfE c2
            | non =>
              cases hy with
              | bl b' => exact tfE c
              | str s' => exact tfE c2
              | non => exact .inl rfl
              | tab h => exact .inr (.inr ⟨rfl, h⟩)
            | tab h =>
              cases hy with
              | bl b' => obtain ⟨a, dx, fs, rfl, e⟩ := h; exact tfE c
              | str s' => obtain ⟨a, dx, fs, rfl, e⟩ := h; exact tfE c2
              | non => exact .inr (.inl ⟨h, .inl rfl⟩)
              | tab h' => exact .inr (.inl ⟨h, .inr h'⟩)
end
end Nu

set_option Elab.async false
set_option linter.all false
set_option maxRecDepth 100000
set_option autoImplicit false
set_option maxHeartbeats 4000000
namespace Nu
open PySem PySem.Spec PyProof.Rows L2 Rd
local macro_rules | `(tactic| walk_at "hp") => `(tactic| first | assumption | (refine same_get ?sm ?_; (case sm => assumption); walk_at "hp"))
local macro_rules | `(tactic| walk_at "rd") => `(tactic| first
  | with_reducible refine w_nx ?_
  | with_reducible refine w_rt ?_
  | with_reducible refine w_bk ?_
  | with_reducible refine w_ct ?_
  | with_reducible refine w_seq ?_
  | with_reducible refine w_next ?_
  | with_reducible refine w_ret ?_
  | with_reducible refine w_ifS ?_
  | with_reducible refine w_asg ?_
  | with_reducible refine w_name ?_
  | with_reducible refine w_par ?_
  | with_reducible refine w_parI ?_
  | with_reducible refine w_ii ?_
  | with_reducible refine w_i1 ?_
  | with_reducible refine w_drop ?_
  | with_reducible refine w_sFld ?_
  | ((with_reducible refine' w_var ?rdh ?_); (case rdh => exact rfl))
  | with_reducible refine w_c ?_
  | with_reducible refine w_op ?_
  | with_reducible refine w_un ?_
  | with_reducible refine w_I0 ?_
  | with_reducible refine w_U ?_
  | with_reducible refine w_bits ?_
  | with_reducible refine w_bitsI ?_
  | with_reducible refine w_tup ?_
  | with_reducible refine w_lst ?_
  | with_reducible refine w_nil ?_
  | with_reducible refine w_cons ?_
  | with_reducible refine w_fld ?_
  | with_reducible refine w_call ?_
  | with_reducible refine w_make ?_
  | with_reducible refine w_makeD ?_
  | with_reducible refine w_nn ?_
  | with_reducible refine w_subB ?_
  | with_reducible refine w_meth ?_
  | with_reducible refine w_cb ?_
  | with_reducible refine w_test ?_
  | with_reducible refine w_B ?_
  | with_reducible refine w_bl ?_
  | with_reducible refine w_andV ?_
  | with_reducible refine w_orV ?_
  | with_reducible refine w_notV ?_
  | with_reducible refine w_and ?_
  | with_reducible refine w_or ?_
  | with_reducible refine w_not ?_
  | with_reducible refine w_if ?_
  | with_reducible refine w_gnil ?_
  | with_reducible refine w_gcons ?_
  | with_reducible refine iT ?_
  | with_reducible refine iF ?_
  | with_reducible refine w_eqI ?_
  | with_reducible refine w_neI ?_
  | with_reducible refine w_eqS ?_
  | with_reducible refine w_eqIS ?_
  | with_reducible refine w_eqSI ?_)

section
variable {P : Program} {w : World} {K : PySem.W.Frag} {mg : Str → Option Value} {base : Heap} {CF CT : Addr}
/-! ### power_for(0), Table(n) -/
def spPow0 : Sp := fun vs H Q _ => vs = [.int 0] ∧ Q (.int 0) H
theorem sc_power_for : FnScope ["count"] ["count"] (defScope s_power_for) := ⟨rfl, rfl, rfl, by decide +kernel, rfl, by decide +kernel, by decide +kernel⟩
theorem ok_power_for (T : AllT K mg CF CT) : Kn P w K mg base CX0 1 "power_for" ["count"] spPow0 := by
  refine T.x_power_for.kn fun f fd F => ?_
  refine F.ok sc_power_for (fun vs H Q E h => ?_) (fun cdv A outer s H vs Q E hr h => ?_)
  · obtain ⟨rfl, _⟩ := h
    rfl
  · obtain ⟨rfl, q⟩ := h
    refine ⟨_, (pss_one (ps_ret (pe_ifExp (pt_cmpR op_eq (pv 0) pe_int (nomark _)) pe_int (pe_op op_shlW pe_int (pe_bits (pe_op op_sub (pv 0) pe_int)))))), ?_⟩
    repeat walk_at "rd"
    refine iD (fun _ => ?_) (fun z => absurd rfl z)
    repeat walk_at "rd"
    exact q
def spTab (CT : Addr) : Sp := fun vs H Q _ => ∃ x dx n, vs = [.ref x, .int n, .int 0, .int 0, .non] ∧ H x = some (.ins CT dx []) ∧
  ∀ H' fs, (∀ b o, b ≠ x → H b = some o → H' b = some o) → H' x = some (.ins CT dx fs) → Q .non H'
theorem sc_Table_init : FnScope ["self", "number", "array", "nodes", "meta"] ["self", "number", "array", "nodes", "meta"] (defScope s_Table_init) := ⟨rfl, rfl, rfl, by decide +kernel, rfl, by decide +kernel, by decide +kernel⟩
theorem ok_Table (T : AllT K mg CF CT) (k_power_for : Kn P w K mg base CX0 1 "power_for" ["count"] spPow0) : KnCD P w K mg base CX0 2 "Table" CT ["self", "number", "array", "nodes", "meta"] [.int 0, .int 0, .non] (spTab CT) := by
  obtain ⟨f, fd, M, F⟩ := T.x_Table
  obtain ⟨ds, hv, hb⟩ := F.binds (ps := ["self", "number", "array", "nodes", "meta"]) 2 0 (by simp) (by decide)
    (fun TT D doc pm an cdv ct us its ks h1 h2 h3 => match us, its, ks, h1, h2, h3 with
      | [a, b], [c, d], [e], _, _, _ => ⟨_, rfl, _, _, _, _, _, _, rfl, rfl, rfl⟩) (by simp)
  refine ⟨f, fd, ds, T.g_Table, M, hv, hb, ?_⟩
  refine F.ok sc_Table_init (fun vs H Q E h => ?_) (fun cdv A outer s H vs Q E hr h => ?_)
  · obtain ⟨x, dx, n, rfl, _⟩ := h
    rfl
  · obtain ⟨x, dx, n, rfl, hx, q⟩ := h
    refine ⟨_, PSs.nox ((pss_cons (ps_fld (pv 0) (pv 1) rfl)
      (pss_cons (ps_fld (pv 0) (pv 4) rfl)
      (pss_cons (ps_fld (pv 0) (pe_op op_rep (pe_lst (pa_cons pe_non pa_nil)) (pv 2)) rfl)
      (pss_cons (ps_fld (pv 0) (pe_op op_rep (pe_lst (pa_cons pe_non pa_nil)) (pk k_power_for hr (pa_cons (pv 3) pa_nil))) rfl)
      (pss_one (ps_fld (pv 0) (pe_callB call_len_seq (by rfl) T.b_len boot_len (pa_cons (pe_fld (pv 0) rfl) pa_nil)) rfl))))))), ?_⟩
    repeat walk_at "rd"
    refine w_sfI hx T.l_Table T.n_number (by decide) ?_
    repeat walk_at "rd"
    refine w_sfI upd_same T.l_Table T.n_meta (by show 1 < 1000; decide) ?_
    have o1 : Oth x H (upd (upd H x (.ins CT dx (putF "number" (.int n) []))) x (.ins CT dx (putF "meta" .non (putF "number" (.int n) [])))) := Oth.refl.put.put
    have x1 := upd_same (H := upd H x (.ins CT dx (putF "number" (.int n) []))) (a := x) (o := .ins CT dx (putF "meta" .non (putF "number" (.int n) [])))
    have l1 : (putF "meta" .non (putF "number" (.int n) [])).length ≤ 2 := Nat.le_refl 2
    generalize upd (upd H x (.ins CT dx (putF "number" (.int n) []))) x (.ins CT dx (putF "meta" .non (putF "number" (.int n) []))) = H1 at o1 x1 ⊢
    generalize putF "meta" .non (putF "number" (.int n) []) = f1 at x1 l1
    repeat walk_at "rd"
    refine w_lst1 fun p2 H2 s2 n2 h2 => ?_
    repeat walk_at "rd"
    refine w_rep h2 (by decide) (by decide) (by decide) fun p3 H3 s3 n3 h3 => ?_
    repeat walk_at "rd"
    have x3 := s3 _ _ (s2 _ _ x1)
    have o3 := (o1.same s2).same s3
    refine w_sfI x3 T.l_Table T.n_array (by omega) ?_
    have l4 := length_putF "array" (.ref p3) f1
    have o4 := o3.put (o := .ins CT dx (putF "array" (.ref p3) f1))
    have x4 := upd_same (H := H3) (a := x) (o := .ins CT dx (putF "array" (.ref p3) f1))
    generalize upd H3 x (.ins CT dx (putF "array" (.ref p3) f1)) = H4 at o4 x4 ⊢
    generalize putF "array" (.ref p3) f1 = f4 at x4 l4
    repeat walk_at "rd"
    refine w_lst1 fun p5 H5 s5 n5 h5 => ?_
    repeat walk_at "rd"
    refine ⟨rfl, ?_⟩
    refine w_rep h5 (by decide) (by decide) (by decide) fun p6 H6 s6 n6 h6 => ?_
    repeat walk_at "rd"
    have x6 := s6 _ _ (s5 _ _ x4)
    have o6 := (o4.same s5).same s6
    refine w_sfI x6 T.l_Table T.n_nodes (by omega) ?_
    have l7 := length_putF "nodes" (.ref p6) f4
    have o7 := o6.put (o := .ins CT dx (putF "nodes" (.ref p6) f4))
    have x7 := upd_same (H := H6) (a := x) (o := .ins CT dx (putF "nodes" (.ref p6) f4))
    have y7 : (putF "nodes" (.ref p6) f4).lookup ("nodes" : Str) = some (.ref p6) := by rw [lookup_putF, if_pos rfl]
    have np : p6 ≠ x := ne_of h6 x6 (by intro z; cases z)
    have h7 : upd H6 x (.ins CT dx (putF "nodes" (.ref p6) f4)) p6 = some (.lst (List.replicate (0 : Int).toNat [V.non]).flatten) := by rw [upd_ne np]; exact h6
    generalize upd H6 x (.ins CT dx (putF "nodes" (.ref p6) f4)) = H7 at o7 x7 h7 ⊢
    generalize putF "nodes" (.ref p6) f4 = f7 at x7 l7 y7
    repeat walk_at "rd"
    refine w_fldI x7 T.l_Table T.n_nodes y7 ?_
    repeat walk_at "rd"
    refine w_lenL h7 ?_
    repeat walk_at "rd"
    refine w_sfI x7 T.l_Table T.n_free (by omega) ?_
    repeat walk_at "rd"
    exact q _ _ (o7.put) upd_same
theorem u_Table {n : Int} {H : Hp} {Q : VK} {E : XK} (q : ∀ x H', Same H H' → H x = none → InsV CT H' (.ref x) → Q (.ref x) H') : MakeKD CT (spTab CT) [.int 0, .int 0, .non] [.int n] H Q E := by
  intro x dx hx hdx ne
  refine ⟨x, dx, n, rfl, upd_same, fun H' fs k hx' => ⟨rfl, q x H' (fun b o e => k b o (ne_of_none e hx) ?_) hx ⟨x, dx, fs, rfl, hx'⟩⟩⟩
  rw [upd_ne (ne_of_none e hx), upd_ne (ne_of_none e hdx)]
  exact e
end
end Nu

set_option Elab.async false
set_option linter.all false
set_option maxRecDepth 100000
set_option autoImplicit false
set_option maxHeartbeats 4000000
namespace Nu
open PySem PySem.Spec PyProof.Rows L2 Rd
local macro_rules | `(tactic| walk_at "hp") => `(tactic| first | assumption | (refine same_get ?sm ?_; (case sm => assumption); walk_at "hp"))
local macro_rules | `(tactic| walk_at "rd") => `(tactic| first
  | with_reducible refine w_nx ?_
  | with_reducible refine w_rt ?_
  | with_reducible refine w_bk ?_
  | with_reducible refine w_ct ?_
  | with_reducible refine w_seq ?_
  | with_reducible refine w_next ?_
  | with_reducible refine w_ret ?_
  | with_reducible refine w_ifS ?_
  | with_reducible refine w_asg ?_
  | with_reducible refine w_name ?_
  | with_reducible refine w_par ?_
  | with_reducible refine w_parI ?_
  | with_reducible refine w_ii ?_
  | with_reducible refine w_i1 ?_
  | with_reducible refine w_drop ?_
  | with_reducible refine w_sFld ?_
  | ((with_reducible refine' w_var ?rdh ?_); (case rdh => exact rfl))
  | with_reducible refine w_c ?_
  | with_reducible refine w_op ?_
  | with_reducible refine w_un ?_
  | with_reducible refine w_I0 ?_
  | with_reducible refine w_U ?_
  | with_reducible refine w_bits ?_
  | with_reducible refine w_bitsI ?_
  | with_reducible refine w_tup ?_
  | with_reducible refine w_lst ?_
  | with_reducible refine w_nil ?_
  | with_reducible refine w_cons ?_
  | with_reducible refine w_fld ?_
  | with_reducible refine w_call ?_
  | with_reducible refine w_make ?_
  | with_reducible refine w_gsub ?_
  | with_reducible refine w_int1 ?_
  | with_reducible refine w_intB ?_
  | with_reducible refine w_for ?_
  | with_reducible refine w_rng1 ?_
  | with_reducible refine w_iList ?_
  | with_reducible refine w_iTup ?_
  | with_reducible refine w_makeD ?_
  | with_reducible refine w_nn ?_
  | with_reducible refine w_subB ?_
  | with_reducible refine w_meth ?_
  | with_reducible refine w_cb ?_
  | with_reducible refine w_test ?_
  | with_reducible refine w_B ?_
  | with_reducible refine w_bl ?_
  | with_reducible refine w_andV ?_
  | with_reducible refine w_orV ?_
  | with_reducible refine w_notV ?_
  | with_reducible refine w_and ?_
  | with_reducible refine w_or ?_
  | with_reducible refine w_not ?_
  | with_reducible refine w_if ?_
  | with_reducible refine w_gnil ?_
  | with_reducible refine w_gcons ?_
  | with_reducible refine iT ?_
  | with_reducible refine iF ?_
  | with_reducible refine w_eqI ?_
  | with_reducible refine w_neI ?_
  | with_reducible refine w_eqS ?_
  | with_reducible refine w_eqIS ?_
  | with_reducible refine w_eqSI ?_)

abbrev s_law_well : Stmt := top 39
abbrev s_law_draw : Stmt := top 40
abbrev s_law_one : Stmt := top 41
abbrev s_law_great : Stmt := top 42
structure AllL (K : PySem.W.Frag) (mg : Str → Option Value) (CF CT : Addr) : Prop extends AllT K mg CF CT where
  x_well : Tx K mg "_law_well" "_law_well" s_law_well ["cell"]
  x_draw : Tx K mg "_law_draw" "_law_draw" s_law_draw ["well", "many"]
  x_one : Tx K mg "_law_one" "_law_one" s_law_one ["well", "some"]
  x_great : Tx K mg "_law_great" "_law_great" s_law_great ["well", "bits"]
/-! ### the well: a list of three ints -/
structure WellD (n : Nat) (a b c : Int) : Prop where
  a0 : 0 ≤ a
  a1 : bits a ≤ 1048580
  b0 : 0 ≤ b
  b1 : b < 2147483647
  c0 : 0 ≤ c
  c1 : c ≤ n
def Well (n : Nat) (H : Hp) (w : Addr) : Prop := ∃ a b c, H w = some (.lst [.int a, .int b, .int c]) ∧ WellD n a b c
theorem Well.mono {n m : Nat} {H : Hp} {w : Addr} (h : Well n H w) (hm : n ≤ m) : Well m H w := by
  obtain ⟨a, b, c, e, d⟩ := h
  exact ⟨a, b, c, e, ⟨d.a0, d.a1, d.b0, d.b1, d.c0, by have := d.c1; omega⟩⟩
theorem Well.same {n : Nat} {H H' : Hp} {w : Addr} (h : Well n H w) (s : Same H H') : Well n H' w := by
  obtain ⟨a, b, c, e, d⟩ := h
  exact ⟨a, b, c, s _ _ e, d⟩
theorem bits_small {n : Int} {k : Nat} (h0 : 0 ≤ n) (h : n < 2 ^ k) : bits n ≤ k := (bits_lt_pow h0).2 h
theorem bits_i (n : Int) : bits n = (Builtin.Int.intBits n : Nat) := rfl
theorem cmulS {i j : Int} (h : i.natAbs < 18446744073709551616) (h' : j.natAbs < 18446744073709551616) : CMulX i j := by
  refine cmulW ?_
  have a := (bits_le (n := i) (k := 64)).2 h
  have b := (bits_le (n := j) (k := 64)).2 h'
  unfold bits at a b
  omega
section
variable {P : Program} {w : World} {K : PySem.W.Frag} {mg : Str → Option Value} {base : Heap} {CF CT : Addr}
def spWell : Sp := fun vs H Q _ => ∃ c, vs = [.int c] ∧ bits c ≤ 1048576 ∧ ∀ p H', Same H H' → H p = none → Well 0 H' p → Q (.ref p) H'
theorem sc_law_well : FnScope ["cell"] ["cell"] (defScope s_law_well) := ⟨rfl, rfl, rfl, by decide +kernel, rfl, by decide +kernel, by decide +kernel⟩
theorem ok_well (T : AllL K mg CF CT) : Kn P w K mg base CX0 1 "_law_well" ["cell"] spWell := by
  refine T.x_well.kn fun f fd F => ?_
  refine F.ok sc_law_well (fun vs H Q E h => ?_) (fun cdv A outer s H vs Q E hr h => ?_)
  · obtain ⟨c, rfl, _⟩ := h
    rfl
  · obtain ⟨c, rfl, hc, q⟩ := h
    refine ⟨_, (pss_one (ps_ret (pe_lst (pa_cons (pe_op op_mulX (pv 0) (pe_callTy call_int1 (by rfl) T.b_int boot_int (pa_cons (pe_cmpR op_ge (pv 0) (pe_op op_pow pe_int pe_int) (nomark _)) pa_nil))) (pa_cons (pe_op op_mod (pe_callTy call_int1 (by rfl) T.b_int boot_int (pa_cons (pv 0) pa_nil)) pe_int) (pa_cons pe_int pa_nil)))))), ?_⟩
    repeat walk_at "rd"
    refine w_I (cpow (by decide) (by decide) (by decide)) ?_
    repeat walk_at "rd"
    refine w_I (cmulW (by have : bits (if decide (10 ^ Int.toNat 18 ≤ c) = true then (1 : Int) else 0) ≤ 1 := by split <;> decide
                          unfold bits at this hc; omega)) ?_
    repeat walk_at "rd"
    refine w_I (by decide) ?_
    repeat walk_at "rd"
    refine w_lst3 fun p H' s n h => ?_
    refine q p H' s n ⟨_, _, _, h, ?_⟩
    by_cases g : (10 : Int) ^ Int.toNat 18 ≤ c
    · rw [decide_eq_true g, if_pos rfl, Int.mul_one]
      have : (0 : Int) < 10 ^ Int.toNat 18 := by decide
      exact ⟨by omega, by omega, Int.emod_nonneg _ (by decide), Int.emod_lt_of_pos _ (by decide), Int.le_refl _, Int.le_refl _⟩
    · rw [decide_eq_false g, if_neg Bool.false_ne_true, Int.mul_zero]
      exact ⟨Int.le_refl _, by decide, Int.emod_nonneg _ (by decide), Int.emod_lt_of_pos _ (by decide), Int.le_refl _, Int.le_refl _⟩
/-! ### a draw -/
def spDraw : Sp := fun vs H Q _ => ∃ p many n, vs = [.ref p, .int many] ∧ Well n H p ∧ n < 1000000 ∧ 0 < many ∧ bits many ≤ 64 ∧
  ∀ r H', Oth p H H' → Well (n + 1) H' p → 0 ≤ r → r < many → Q (.int r) H'
theorem sc_law_draw : FnScope ["well", "many", "digit", "number"] ["well", "many"] (defScope s_law_draw) := ⟨rfl, rfl, rfl, by decide +kernel, rfl, by decide +kernel, by decide +kernel⟩
theorem ok_draw (T : AllL K mg CF CT) : Kn P w K mg base CX0 1 "_law_draw" ["well", "many"] spDraw := by
  refine T.x_draw.kn fun f fd F => ?_
  refine F.ok sc_law_draw (fun vs H Q E h => ?_) (fun cdv A outer s H vs Q E hr h => ?_)
  · obtain ⟨p, many, n, rfl, _⟩ := h
    rfl
  · obtain ⟨p, many, n, rfl, ⟨a, b, c, hw, d⟩, hn, m0, m1, q⟩ := h
    refine ⟨_, (pss_cons (ps_if (pt_cmpR op_gt (pe_ix ix_list (pv 0) pe_int (fun _ _ => rfl)) pe_int (nomark _)) (pss_cons (ps_set (i := 2) sc_law_draw.nd rfl (Or.inl rfl) (pe_op op_mod (pe_callTy call_int1 (by rfl) T.b_int boot_int (pa_cons (pe_ix ix_list (pv 0) pe_int (fun _ _ => rfl)) pa_nil)) (pv 1)))
      (pss_cons (ps_asg (pe_op op_fdivW (pe_ix ix_list (pv 0) pe_int (fun _ _ => rfl)) (pv 1)) (pg_sub (pv 0) pe_int set_list))
      (pss_one (ps_ret (pv 2))))) pss_nil)
      (pss_cons (ps_asg (pe_op op_add (pe_ix ix_list (pv 0) pe_int (fun _ _ => rfl)) pe_int) (pg_sub (pv 0) pe_int set_list))
      (pss_cons (ps_set (i := 3) sc_law_draw.nd rfl (Or.inl rfl) (pe_op op_mod (pe_callTy call_int1 (by rfl) T.b_int boot_int (pa_cons (pe_op op_add (pe_op op_add (pe_op op_mulX (pe_ix ix_list (pv 0) pe_int (fun _ _ => rfl)) pe_int) (pe_op op_mulX pe_int (pe_ix ix_list (pv 0) pe_int (fun _ _ => rfl)))) pe_int) pa_nil)) pe_int))
      (pss_cons (ps_set (i := 3) sc_law_draw.nd rfl (Or.inl rfl) (pe_op op_mod (pe_callTy call_int1 (by rfl) T.b_int boot_int (pa_cons (pe_op op_mulX (pv 3) (pe_op op_add (pe_op op_fdivW (pv 3) pe_int) pe_int)) pa_nil)) pe_int))
      (pss_cons (ps_set (i := 3) sc_law_draw.nd rfl (Or.inl rfl) (pe_op op_mod (pe_callTy call_int1 (by rfl) T.b_int boot_int (pa_cons (pe_op op_mulX (pv 3) (pe_op op_add (pe_op op_add (pe_op op_fdivW (pv 3) pe_int) pe_int) (pe_ix ix_list (pv 0) pe_int (fun _ _ => rfl)))) pa_nil)) pe_int))
      (pss_one (ps_ret (pe_op op_mod (pe_callTy call_int1 (by rfl) T.b_int boot_int (pa_cons (pe_op op_fdivW (pv 3) pe_int) pa_nil)) (pv 1))))))))), ?_⟩
    obtain ⟨a0, a1, b0, b1, c0, c1⟩ := d
    repeat walk_at "rd"
    refine w_ixL hw (v := .int a) rfl ?_
    repeat walk_at "rd"
    refine iD (fun g => ?_) (fun g => ?_)
    · repeat walk_at "rd"
      refine w_ixL hw (v := .int a) rfl ?_
      repeat walk_at "rd"
      refine w_I m0 ?_
      repeat walk_at "rd"
      refine w_ixL hw (v := .int a) rfl ?_
      repeat walk_at "rd"
      refine w_I (cdivw m0 (by omega)) ?_
      repeat walk_at "rd"
      refine w_setL hw rfl ?_
      repeat walk_at "rd"
      refine q _ _ Oth.refl.put ⟨_, _, _, upd_same, ?_⟩ (Int.emod_nonneg _ (by omega)) (Int.emod_lt_of_pos _ m0)
      have e : a / many ≤ a := Int.ediv_le_self _ a0
      have e0 : 0 ≤ a / many := Int.ediv_nonneg a0 (by omega)
      exact ⟨e0, by have := bits_mono e0 e; omega, b0, b1, c0, by omega⟩
    · repeat walk_at "rd"
      refine w_ixL hw (v := .int c) rfl ?_
      repeat walk_at "rd"
      refine w_setL (j := 2) hw rfl ?_
      have hw2 := upd_same (H := H) (a := p) (o := .lst (List.set [V.int a, .int b, .int c] 2 (.int (c + 1))))
      have o2 := (Oth.refl (x := p) (H := H)).put (o := .lst (List.set [V.int a, .int b, .int c] 2 (.int (c + 1))))
      generalize upd H p (.lst (List.set [V.int a, .int b, .int c] 2 (.int (c + 1)))) = H2 at hw2 o2 ⊢
      change H2 p = some (.lst [.int a, .int b, .int (c + 1)]) at hw2
      have W2 : Well (n + 1) H2 p := ⟨_, _, _, hw2, ⟨a0, a1, b0, b1, by omega, by omega⟩⟩
      repeat walk_at "rd"
      refine w_ixL hw2 (v := .int b) rfl ?_
      repeat walk_at "rd"
      refine w_I (cmulS (by omega) (by decide)) ?_
      repeat walk_at "rd"
      refine w_ixL hw2 (v := .int (c + 1)) rfl ?_
      refine w_I (cmulS (by decide) (by omega)) ?_
      repeat walk_at "rd"
      refine w_I (by decide) ?_
      have g0 := Int.emod_nonneg (b * 48271 + 30103 * (c + 1) + 11) (show (2147483647 : Int) ≠ 0 by decide)
      have g1 := Int.emod_lt_of_pos (b * 48271 + 30103 * (c + 1) + 11) (show (0 : Int) < 2147483647 by decide)
      generalize (b * 48271 + 30103 * (c + 1) + 11) % 2147483647 = x1 at g0 g1 ⊢
      repeat walk_at "rd"
      refine w_I (cdivw (by decide) (by decide)) ?_
      repeat walk_at "rd"
      refine w_I (cmulS (by omega) (by omega)) ?_
      repeat walk_at "rd"
      refine w_I (by decide) ?_
      have g2 := Int.emod_nonneg (x1 * (x1 / 1009 + 69621)) (show (2147483629 : Int) ≠ 0 by decide)
      have g3 := Int.emod_lt_of_pos (x1 * (x1 / 1009 + 69621)) (show (0 : Int) < 2147483629 by decide)
      generalize x1 * (x1 / 1009 + 69621) % 2147483629 = x2 at g2 g3 ⊢
      repeat walk_at "rd"
      refine w_I (cdivw (by decide) (by decide)) ?_
      repeat walk_at "rd"
      refine w_ixL hw2 (v := .int (c + 1)) rfl ?_
      repeat walk_at "rd"
      refine w_I (cmulS (by omega) (by omega)) ?_
      repeat walk_at "rd"
      refine w_I (by decide) ?_
      repeat walk_at "rd"
      refine w_I (cdivw (by decide) (by decide)) ?_
      repeat walk_at "rd"
      refine w_I m0 ?_
      exact q _ _ o2 W2 (Int.emod_nonneg _ (by omega)) (Int.emod_lt_of_pos _ m0)
/-! ### one of some -/
def spOne : Sp := fun vs H Q _ => ∃ (p l : Addr) (n : Nat) (xs : List V), vs = [.ref p, .ref l] ∧ Well n H p ∧ n < 1000000 ∧ l ≠ p ∧ H l = some (.lst xs) ∧ 0 < xs.length ∧ xs.length ≤ 1000 ∧
  ∀ (i : Nat) v H', xs[i]? = some v → Oth p H H' → Well (n + 1) H' p → Q v H'
theorem atI_nat {xs : List V} {r : Int} (h0 : 0 ≤ r) (h1 : r < xs.length) : ∃ v, atI xs r = some v ∧ xs[r.toNat]? = some v := by
  obtain ⟨k, rfl⟩ := Int.eq_ofNat_of_zero_le h0
  have h : k < xs.length := by omega
  refine ⟨xs[k], ?_, ?_⟩
  · unfold atI ixN
    rw [if_pos h0, if_pos h1]
    simp [h]
  · simp [h]
theorem sc_law_one : FnScope ["well", "some"] ["well", "some"] (defScope s_law_one) := ⟨rfl, rfl, rfl, by decide +kernel, rfl, by decide +kernel, by decide +kernel⟩
theorem ok_one (T : AllL K mg CF CT) (k_law_draw : Kn P w K mg base CX0 1 "_law_draw" ["well", "many"] spDraw) : Kn P w K mg base CX0 2 "_law_one" ["well", "some"] spOne := by
  refine T.x_one.kn fun f fd F => ?_
  refine F.ok sc_law_one (fun vs H Q E h => ?_) (fun cdv A outer s H vs Q E hr h => ?_)
  · obtain ⟨p, l, n, xs, rfl, _⟩ := h
    rfl
  · obtain ⟨p, l, n, xs, rfl, hw, hn, lp, hl, l0, l1, q⟩ := h
    refine ⟨_, (pss_one (ps_ret (pe_ix ix_list (pv 1) (pk k_law_draw hr (pa_cons (pv 0) (pa_cons (pe_callB call_len_seq (by rfl) T.b_len boot_len (pa_cons (pv 1) pa_nil)) pa_nil))) (fun _ _ => rfl)))), ?_⟩
    repeat walk_at "rd"
    refine w_lenL hl ?_
    repeat walk_at "rd"
    refine ⟨p, _, n, rfl, hw, hn, by omega, ?_, fun r H' o W r0 r1 => ?_⟩
    · have := (bits_lt_pow (n := (xs.length : Int)) (k := 64) (by omega)).2 (Int.lt_trans (show (xs.length : Int) < 18446744073709551615 by omega) (by decide))
      exact this
    repeat walk_at "rd"
    obtain ⟨v, e1, e2⟩ := atI_nat r0 r1
    refine w_ixL (o l _ lp hl) e1 ?_
    exact q _ v H' e2 o W
end
end Nu

set_option Elab.async false
set_option linter.all false
set_option maxRecDepth 100000
set_option autoImplicit false
set_option maxHeartbeats 4000000
namespace Nu
open PySem PySem.Spec PyProof.Rows L2 Rd
local macro_rules | `(tactic| walk_at "hp") => `(tactic| first | assumption | (refine same_get ?sm ?_; (case sm => assumption); walk_at "hp"))
local macro_rules | `(tactic| walk_at "rd") => `(tactic| first
  | with_reducible refine w_nx ?_
  | with_reducible refine w_rt ?_
  | with_reducible refine w_bk ?_
  | with_reducible refine w_ct ?_
  | with_reducible refine w_seq ?_
  | with_reducible refine w_next ?_
  | with_reducible refine w_ret ?_
  | with_reducible refine w_ifS ?_
  | with_reducible refine w_asg ?_
  | with_reducible refine w_name ?_
  | with_reducible refine w_par ?_
  | with_reducible refine w_parI ?_
  | with_reducible refine w_ii ?_
  | with_reducible refine w_i1 ?_
  | with_reducible refine w_drop ?_
  | with_reducible refine w_sFld ?_
  | ((with_reducible refine' w_var ?rdh ?_); (case rdh => exact rfl))
  | with_reducible refine w_c ?_
  | with_reducible refine w_op ?_
  | with_reducible refine w_un ?_
  | with_reducible refine w_I0 ?_
  | with_reducible refine w_U ?_
  | with_reducible refine w_bits ?_
  | with_reducible refine w_bitsI ?_
  | with_reducible refine w_tup ?_
  | with_reducible refine w_lst ?_
  | with_reducible refine w_nil ?_
  | with_reducible refine w_cons ?_
  | with_reducible refine w_fld ?_
  | with_reducible refine w_call ?_
  | with_reducible refine w_make ?_
  | with_reducible refine w_gsub ?_
  | with_reducible refine w_int1 ?_
  | with_reducible refine w_intB ?_
  | with_reducible refine w_for ?_
  | with_reducible refine w_rng1 ?_
  | with_reducible refine w_iList ?_
  | with_reducible refine w_iTup ?_
  | with_reducible refine w_makeD ?_
  | with_reducible refine w_nn ?_
  | with_reducible refine w_subB ?_
  | with_reducible refine w_meth ?_
  | with_reducible refine w_cb ?_
  | with_reducible refine w_test ?_
  | with_reducible refine w_B ?_
  | with_reducible refine w_bl ?_
  | with_reducible refine w_andV ?_
  | with_reducible refine w_orV ?_
  | with_reducible refine w_notV ?_
  | with_reducible refine w_and ?_
  | with_reducible refine w_or ?_
  | with_reducible refine w_not ?_
  | with_reducible refine w_if ?_
  | with_reducible refine w_gnil ?_
  | with_reducible refine w_gcons ?_
  | with_reducible refine iT ?_
  | with_reducible refine iF ?_
  | with_reducible refine w_eqI ?_
  | with_reducible refine w_neI ?_
  | with_reducible refine w_eqS ?_
  | with_reducible refine w_eqIS ?_
  | with_reducible refine w_eqSI ?_)

abbrev s_law_finite : Stmt := top 43
abbrev s_law_float : Stmt := top 44
abbrev s_law_fraction : Stmt := top 45
abbrev s_law_right : Stmt := top 46
abbrev s_law_numbers : Stmt := top 47
abbrev s_law_others_right : Stmt := top 48
abbrev s_law : Stmt := top 49
structure AllM (K : PySem.W.Frag) (mg : Str → Option Value) (CF CT : Addr) : Prop extends AllL K mg CF CT where
  b_enumerate : mg "enumerate" = none
  x_finite : Tx K mg "_law_finite" "_law_finite" s_law_finite ["well"]
  x_float : Tx K mg "_law_float" "_law_float" s_law_float ["well"]
  x_fraction : Tx K mg "_law_fraction" "_law_fraction" s_law_fraction ["number"]
  x_right : Tx K mg "_law_right" "_law_right" s_law_right ["one", "other"]
  x_numbers : Tx K mg "_law_numbers" "_law_numbers" s_law_numbers ["well"]
  x_others : Tx K mg "_law_others_right" "_law_others_right" s_law_others_right ["well"]
  x_law : Tx K mg "law" "law" s_law ["script"]
section
variable {P : Program} {w : World} {K : PySem.W.Frag} {mg : Str → Option Value} {base : Heap} {CF CT : Addr}
/-! ### a great int -/
def spGreat : Sp := fun vs H Q _ => ∃ (p : Addr) (b : Int) (n : Nat), vs = [.ref p, .int b] ∧ Well n H p ∧ n < 900000 ∧ 0 ≤ b ∧ b ≤ 100 ∧
  ∀ r H', Oth p H H' → Well (n + 10) H' p → 0 ≤ r → r < 2 ^ b.toNat → Q (.int r) H'
theorem sc_law_great : FnScope ["well", "bits", "number", "k"] ["well", "bits"] (defScope s_law_great) := ⟨rfl, rfl, rfl, by decide +kernel, rfl, by decide +kernel, by decide +kernel⟩
theorem ok_great (T : AllL K mg CF CT) (k_law_draw : Kn P w K mg base CX0 1 "_law_draw" ["well", "many"] spDraw) : Kn P w K mg base CX0 2 "_law_great" ["well", "bits"] spGreat := by
  refine T.x_great.kn fun f fd F => ?_
  refine F.ok sc_law_great (fun vs H Q E h => ?_) (fun cdv A outer s H vs Q E hr h => ?_)
  · obtain ⟨p, b, n, rfl, _⟩ := h
    rfl
  · obtain ⟨p, b, n, rfl, hw, hn, hb0, hb1, q⟩ := h
    refine ⟨_, (pss_cons (ps_set (i := 2) sc_law_great.nd rfl (Or.inl rfl) pe_int)
      (pss_cons (ps_for PassesOwn.never rfl (pi_range1 rfl T.b_range (pa_cons (pe_op op_add pe_int (pe_op op_fdivW (pv 1) pe_int)) pa_nil)) (pg_name (i := 3) sc_law_great.nd rfl (Or.inl rfl))
      (pss_one (ps_set (i := 2) sc_law_great.nd rfl (Or.inl rfl) (pe_op op_add (pe_op op_mulX (pv 2) pe_int) (pk k_law_draw hr (pa_cons (pv 0) (pa_cons pe_int pa_nil)))))))
      (pss_one (ps_ret (pe_op op_mod (pe_callTy call_int1 (by rfl) T.b_int boot_int (pa_cons (pv 2) pa_nil)) (pe_op op_shlW pe_int (pv 1))))))), ?_⟩
    repeat walk_at "rd"
    refine w_I (cdivw (by decide) (by decide)) ?_
    repeat walk_at "rd"
    refine ⟨by omega, by omega, ?_⟩
    have e : (1 + b / 20).toNat ≤ 6 := by omega
    generalize (1 + b / 20).toNat = m at e ⊢
    refine for_range (lo := 0) (fun i σ H' => ∃ num kv, σ = [some (.ref p), some (.int b), some (.int num), kv] ∧ Oth p H H' ∧ Well (n + i) H' p ∧ 0 ≤ num ∧ num < 2 ^ (20 * i)) ⟨0, none, rfl, Oth.refl, hw, Int.le_refl _, by decide⟩ ?_ ?_
    · intro i σ H1 hi ⟨num, kv, es, o1, w1, n0, n1⟩
      subst es
      repeat walk_at "rd"
      have bn := (bits_lt_pow n0).2 n1
      refine w_I (cmulW (by unfold bits at bn; have : Builtin.Int.intBits 1048576 = 21 := by decide
                            omega)) ?_
      repeat walk_at "rd"
      refine ⟨p, 1048576, n + i, rfl, w1, by omega, by decide, by decide, fun r H2 o2 w2 r0 r1 => ?_⟩
      repeat walk_at "rd"
      refine ⟨_, _, rfl, o1.trans o2, w2, by omega, ?_⟩
      rw [show 20 * (i + 1) = 20 * i + 20 from by omega, Int.pow_add, show (2 : Int) ^ 20 = 1048576 by decide]
      omega
    · intro σ H1 ⟨num, kv, es, o1, w1, n0, n1⟩
      subst es
      repeat walk_at "rd"
      refine w_I (cshl (by decide) hb0 (by omega)) ?_
      repeat walk_at "rd"
      have pp := pow_pos2 b.toNat
      refine w_I (by rw [Int.one_mul]; exact pp) ?_
      rw [Int.one_mul]
      exact q _ _ o1 (w1.mono (by omega)) (Int.emod_nonneg _ (by omega)) (Int.emod_lt_of_pos _ pp)
theorem u_draw {p : Addr} {many : Int} {n : Nat} {H : Hp} {Q : VK} {E : XK} (hw : Well n H p) (hn : n < 1000000) (m0 : 0 < many) (m1 : bits many ≤ 64) (q : ∀ r H', Oth p H H' → Well (n + 1) H' p → 0 ≤ r → r < many → Q (.int r) H') : spDraw ([V.ref p, V.int many] ++ []) H Q E :=
  ⟨p, many, n, rfl, hw, hn, m0, m1, q⟩
theorem u_one {p l : Addr} {xs : List V} {n : Nat} {H : Hp} {Q : VK} {E : XK} (hw : Well n H p) (hn : n < 1000000) (hl : H l = some (.lst xs)) (lp : l ≠ p) (l0 : 0 < xs.length) (l1 : xs.length ≤ 1000) (q : ∀ v H', v ∈ xs → Oth p H H' → Well (n + 1) H' p → Q v H') : spOne ([V.ref p, V.ref l] ++ []) H Q E :=
  ⟨p, l, n, xs, rfl, hw, hn, lp, hl, l0, l1, fun i v H' e o W => q v H' (List.mem_of_getElem? e) o W⟩
/-- a call of _law_one on a list that is made in the call -/
theorem u_great {p : Addr} {b : Int} {n : Nat} {H : Hp} {Q : VK} {E : XK} (hw : Well n H p) (hn : n < 900000) (m0 : 0 ≤ b) (m1 : b ≤ 100) (q : ∀ r H', Oth p H H' → Well (n + 10) H' p → 0 ≤ r → r < 2 ^ b.toNat → Q (.int r) H') : spGreat ([V.ref p, V.int b] ++ []) H Q E :=
  ⟨p, b, n, rfl, hw, hn, m0, m1, q⟩
theorem Well.ne {n : Nat} {H : Hp} {p l : Addr} (h : Well n H p) (e : H l = none) : l ≠ p := by
  rintro rfl
  obtain ⟨_, _, _, k, _⟩ := h
  rw [e] at k
  cases k
/-! ### a finite float's parts -/
structure FinA (s t p : Int) : Prop where
  hs : s = 1 ∨ s = -1
  t0 : 0 ≤ t
  t1 : t < 9007199254740992
  p0 : -1074 ≤ p
  p1 : p ≤ 971
def spFin : Sp := fun vs H Q _ => ∃ (p : Addr) (n : Nat), vs = [.ref p] ∧ Well n H p ∧ n < 800000 ∧
  ∀ q H' s t pw, Oth p H H' → Well (n + 40) H' p → H' q = some (.tup [.int s, .int t, .int pw]) → FinA s t pw → Q (.ref q) H'
theorem sc_law_finite : FnScope ["well", "sign", "way", "some"] ["well"] (defScope s_law_finite) := ⟨rfl, rfl, rfl, by decide +kernel, rfl, by decide +kernel, by decide +kernel⟩
theorem ok_finite (T : AllM K mg CF CT) (k_law_draw : Kn P w K mg base CX0 1 "_law_draw" ["well", "many"] spDraw) (k_law_one : Kn P w K mg base CX0 2 "_law_one" ["well", "some"] spOne) (k_law_great : Kn P w K mg base CX0 2 "_law_great" ["well", "bits"] spGreat) :
    Kn P w K mg base CX0 3 "_law_finite" ["well"] spFin := by
  refine T.x_finite.kn fun f fd F => ?_
  refine F.ok sc_law_finite (fun vs H Q E h => ?_) (fun cdv A outer s H vs Q E hr h => ?_)
  · obtain ⟨p, n, rfl, _⟩ := h
    rfl
  · obtain ⟨p, n, rfl, hw, hn, q⟩ := h
    refine ⟨_, (pss_cons (ps_par (by rfl) sc_law_finite.nd (i := 1) (j := 2) rfl rfl (by decide) rfl rfl (pa_cons (pk k_law_one hr (pa_cons (pv 0) (pa_cons (pe_lst (pa_cons pe_int (pa_cons (pe_un un_neg pe_int) pa_nil))) pa_nil))) (pa_cons (pk k_law_draw hr (pa_cons (pv 0) (pa_cons pe_int pa_nil))) pa_nil)) (by rfl))
      (pss_cons (ps_if (pt_cmpR op_eq (pv 2) pe_int (nomark _)) (pss_one (ps_ret (pe_tup (pa_cons (pv 1) (pa_cons pe_int (pa_cons pe_int pa_nil)))))) pss_nil)
      (pss_cons (ps_if (pt_cmpR op_lt (pv 2) pe_int (nomark _)) (pss_one (ps_ret (pe_tup (pa_cons (pv 1) (pa_cons (pk k_law_draw hr (pa_cons (pv 0) (pa_cons pe_int pa_nil))) (pa_cons (pk k_law_one hr (pa_cons (pv 0) (pa_cons (pe_lst (pa_cons pe_int (pa_cons pe_int (pa_cons (pe_un un_neg pe_int) (pa_cons (pe_un un_neg pe_int) pa_nil))))) pa_nil))) pa_nil)))))) pss_nil)
      (pss_cons (ps_set (i := 3) sc_law_finite.nd rfl (Or.inl rfl) (pe_lst (pa_cons (pe_op op_sub (pk k_law_draw hr (pa_cons (pv 0) (pa_cons pe_int pa_nil))) pe_int) (pa_cons (pe_op op_sub pe_int (pk k_law_draw hr (pa_cons (pv 0) (pa_cons pe_int pa_nil)))) (pa_cons (pk k_law_draw hr (pa_cons (pv 0) (pa_cons pe_int pa_nil))) (pa_cons (pe_op op_sub pe_int (pk k_law_draw hr (pa_cons (pv 0) (pa_cons pe_int pa_nil)))) pa_nil))))))
      (pss_cons (ps_set (i := 3) sc_law_finite.nd rfl (Or.inl rfl) (pe_op op_cat (pv 3) (pe_lst (pa_cons (pe_op op_sub (pe_un un_neg pe_int) (pk k_law_draw hr (pa_cons (pv 0) (pa_cons pe_int pa_nil)))) (pa_cons (pe_op op_sub (pk k_law_draw hr (pa_cons (pv 0) (pa_cons pe_int pa_nil))) pe_int) pa_nil)))))
      (pss_one (ps_ret (pe_tup (pa_cons (pv 1) (pa_cons (pk k_law_great hr (pa_cons (pv 0) (pa_cons (pk k_law_one hr (pa_cons (pv 0) (pa_cons (pe_lst (pa_cons pe_int (pa_cons pe_int (pa_cons pe_int (pa_cons pe_int pa_nil))))) pa_nil))) pa_nil))) (pa_cons (pe_callB (call_min2 rfl) (by rfl) T.b_min boot_min (pa_cons pe_int (pa_cons (pk k_law_one hr (pa_cons (pv 0) (pa_cons (pv 3) pa_nil))) pa_nil))) pa_nil))))))))))), ?_⟩
    repeat walk_at "rd"
    refine w_lst2 fun a1 H1 s1 n1 h1 => ?_
    repeat walk_at "rd"
    refine u_one (hw.same s1) (by omega) h1 (hw.ne n1) (by decide) (by decide) fun v H2 hv o2 w2 => ?_
    have o2 := (Rd.Same.oth (x := p) s1).trans o2
    obtain ⟨sg, rfl, hs⟩ : ∃ sg, v = .int sg ∧ (sg = 1 ∨ sg = -1) := by
      simp only [List.mem_cons, List.not_mem_nil, or_false] at hv
      rcases hv with rfl | rfl
      · exact ⟨_, rfl, .inl rfl⟩
      · exact ⟨_, rfl, .inr rfl⟩
    repeat walk_at "rd"
    refine u_draw w2 (by omega) (by decide) (by decide) fun way H3 o3 w3 r0 r1 => ?_
    have o3 := o2.trans o3
    repeat walk_at "rd"
    refine iD (fun _ => ?_) (fun _ => ?_)
    · repeat walk_at "rd"
      refine w_tup3 fun a4 H4 s4 n4 h4 => ?_
      repeat walk_at "rd"
      exact q a4 H4 sg 0 0 (o3.same s4) ((w3.mono (by omega)).same s4) h4 ⟨hs, by decide, by decide, by decide, by decide⟩
    repeat walk_at "rd"
    refine iD (fun _ => ?_) (fun _ => ?_)
    · repeat walk_at "rd"
      refine u_draw w3 (by omega) (by decide) (by decide) fun t H4 o4 w4 t0 t1 => ?_
      repeat walk_at "rd"
      refine w_lst4 fun a5 H5 s5 n5 h5 => ?_
      repeat walk_at "rd"
      refine u_one (w4.same s5) (by omega) h5 (w4.ne n5) (by decide) (by decide) fun v H6 hv o6 w6 => ?_
      have o6 := ((o3.trans o4).same s5).trans o6
      obtain ⟨pw, rfl, hp⟩ : ∃ pw, v = .int pw ∧ -3 ≤ pw ∧ pw ≤ 0 := by
        simp only [List.mem_cons, List.not_mem_nil, or_false] at hv
        rcases hv with rfl | rfl | rfl | rfl <;> exact ⟨_, rfl, by decide, by decide⟩
      repeat walk_at "rd"
      refine w_tup3 fun a4 H4 s4 n4 h4 => ?_
      repeat walk_at "rd"
      exact q a4 H4 sg t pw (o6.same s4) ((w6.mono (by omega)).same s4) h4 ⟨hs, t0, by omega, by omega, by omega⟩
    repeat walk_at "rd"
    refine u_draw w3 (by omega) (by decide) (by decide) fun t1 H4 o4 w4 t1l t1u => ?_
    repeat walk_at "rd"
    refine u_draw w4 (by omega) (by decide) (by decide) fun t2 H5 o5 w5 t2l t2u => ?_
    repeat walk_at "rd"
    refine u_draw w5 (by omega) (by decide) (by decide) fun t3 H6 o6 w6 t3l t3u => ?_
    repeat walk_at "rd"
    refine u_draw w6 (by omega) (by decide) (by decide) fun t4 H7 o7 w7 t4l t4u => ?_
    have o7 := (((o3.trans o4).trans o5).trans o6).trans o7
    repeat walk_at "rd"
    refine w_lst4 fun a8 H8 s8 n8 h8 => ?_
    have o8 := o7.same s8
    have w8 := w7.same s8
    have ne8 := w7.ne n8
    repeat walk_at "rd"
    refine u_draw w8 (by omega) (by decide) (by decide) fun t5 H9 o9 w9 t5l t5u => ?_
    repeat walk_at "rd"
    refine u_draw w9 (by omega) (by decide) (by decide) fun t6 H10 o10 w10 t6l t6u => ?_
    have o10 := (o8.trans o9).trans o10
    have h8 : H10 a8 = _ := (‹Oth p H9 H10›) _ _ ne8 ((‹Oth p H8 H9›) _ _ ne8 h8)
    repeat walk_at "rd"
    refine w_lst2 fun a11 H11 s11 n11 h11 => ?_
    repeat walk_at "rd"
    refine w_cat (s11 _ _ h8) h11 (by show 4 + 2 ≤ sizeLine; decide) fun a12 H12 s12 n12 h12 => ?_
    have o12 := (o10.same s11).same s12
    have w12 := (w10.same s11).same s12
    have ne12 := (w10.same s11).ne n12
    repeat walk_at "rd"
    refine w_lst4 fun a13 H13 s13 n13 h13 => ?_
    repeat walk_at "rd"
    refine u_one (w12.same s13) (by omega) h13 (w12.ne n13) (by decide) (by decide) fun v H14 hv o14 w14 => ?_
    have k14 : H14 a12 = _ := o14 _ _ ne12 (s13 _ _ h12)
    have o14 := (o12.same s13).trans o14
    obtain ⟨bt, rfl, hbt⟩ : ∃ bt, v = .int bt ∧ 0 ≤ bt ∧ bt ≤ 53 := by
      simp only [List.mem_cons, List.not_mem_nil, or_false] at hv
      rcases hv with rfl | rfl | rfl | rfl <;> exact ⟨_, rfl, by decide, by decide⟩
    repeat walk_at "rd"
    refine u_great w14 (by omega) hbt.1 (by omega) fun t H15 o15 w15 tl tu => ?_
    have k15 : H15 a12 = _ := o15 _ _ ne12 k14
    have o15 := o14.trans o15
    repeat walk_at "rd"
    refine u_one w15 (by omega) k15 ne12 (by show 0 < 6; decide) (by show 6 ≤ 1000; decide) fun v H16 hv o16 w16 => ?_
    have o16 := o15.trans o16
    obtain ⟨pw, rfl, hp⟩ : ∃ pw, v = .int pw ∧ -1074 ≤ pw ∧ pw ≤ 1100 := by
      simp only [List.cons_append, List.nil_append, List.mem_cons, List.not_mem_nil, or_false] at hv
      rcases hv with rfl | rfl | rfl | rfl | rfl | rfl <;> exact ⟨_, rfl, by omega, by omega⟩
    repeat walk_at "rd"
    refine w_tup3 fun a4 H4 s4 n4 h4 => ?_
    refine q a4 H4 sg t (if pw < 971 then pw else 971) (o16.same s4) ((w16.mono (by omega)).same s4) h4 ⟨hs, tl, ?_, by split <;> omega, by split <;> omega⟩
    have := pow_mono (a := bt.toNat) (b := 53) (by omega)
    rw [show (2 : Int) ^ 53 = 9007199254740992 by decide] at this
    omega
theorem u_fin {p : Addr} {n : Nat} {H : Hp} {Q : VK} {E : XK} (hw : Well n H p) (hn : n < 800000) (q : ∀ q H' s t pw, Oth p H H' → Well (n + 40) H' p → H' q = some (.tup [.int s, .int t, .int pw]) → FinA s t pw → Q (.ref q) H') : spFin ([V.ref p] ++ []) H Q E :=
  ⟨p, n, rfl, hw, hn, q⟩
theorem FinA.arg {s t p : Int} (h : FinA s t p) : Arg s (.int t) p (.fin s (red t p).1 (red t p).2) := by
  obtain ⟨hs, t0, t1, p0, p1⟩ := h
  refine .inl ⟨t, rfl, t0, hs, red_fits t0 (by omega) p0 ?_, rfl⟩
  have := bits_small t0 (k := 53) (by rw [show (2 : Int) ^ 53 = 9007199254740992 by decide]; exact t1)
  omega
/-! ### a float -/
def spFlt (CF : Addr) : Sp := fun vs H Q _ => ∃ (p : Addr) (n : Nat), vs = [.ref p] ∧ Well n H p ∧ n < 700000 ∧
  ∀ x f H', Oth p H H' → Well (n + 50) H' p → FlAt CF H' x f → f.ok → Q (.ref x) H'
theorem sc_law_float : FnScope ["well", "sign", "top", "power"] ["well"] (defScope s_law_float) := ⟨rfl, rfl, rfl, by decide +kernel, rfl, by decide +kernel, by decide +kernel⟩
theorem ok_float (T : AllM K mg CF CT) (k_law_draw : Kn P w K mg base CX0 1 "_law_draw" ["well", "many"] spDraw) (k_law_one : Kn P w K mg base CX0 2 "_law_one" ["well", "some"] spOne) (k_law_finite : Kn P w K mg base CX0 3 "_law_finite" ["well"] spFin)
    (k_Float_init : KnC P w K mg base CX0 2 "Float" CF ["self", "sign", "top", "power"] (spInit CF)) : Kn P w K mg base CX0 4 "_law_float" ["well"] (spFlt CF) := by
  refine T.x_float.kn fun f fd F => ?_
  refine F.ok sc_law_float (fun vs H Q E h => ?_) (fun cdv A outer s H vs Q E hr h => ?_)
  · obtain ⟨p, n, rfl, _⟩ := h
    rfl
  · obtain ⟨p, n, rfl, hw, hn, q⟩ := h
    refine ⟨_, (pss_cons (ps_if (pt_cmpR op_eq (pk k_law_draw hr (pa_cons (pv 0) (pa_cons pe_int pa_nil))) pe_int (nomark _)) (pss_one (ps_ret (pk k_law_one hr (pa_cons (pv 0) (pa_cons (pe_lst (pa_cons (pkC k_Float_init hr (pa_cons pe_int (pa_cons pe_str (pa_cons pe_int pa_nil)))) (pa_cons (pkC k_Float_init hr (pa_cons (pe_un un_neg pe_int) (pa_cons pe_str (pa_cons pe_int pa_nil)))) (pa_cons (pkC k_Float_init hr (pa_cons pe_int (pa_cons pe_str (pa_cons pe_int pa_nil)))) pa_nil)))) pa_nil))))) pss_nil)
      (pss_cons (ps_asg (pk k_law_finite hr (pa_cons (pv 0) pa_nil)) (pg_tup (by rfl) (pgs_cons (pg_name (i := 1) sc_law_float.nd rfl (Or.inl rfl)) (pgs_cons (pg_name (i := 2) sc_law_float.nd rfl (Or.inl rfl)) (pgs_cons (pg_name (i := 3) sc_law_float.nd rfl (Or.inl rfl)) pgs_nil)))))
      (pss_one (ps_ret (pkC k_Float_init hr (pa_cons (pv 1) (pa_cons (pv 2) (pa_cons (pv 3) pa_nil)))))))), ?_⟩
    repeat walk_at "rd"
    refine u_draw hw (by omega) (by decide) (by decide) fun r H1 o1 w1 r0 r1 => ?_
    repeat walk_at "rd"
    refine iD (fun _ => ?_) (fun _ => ?_)
    · repeat walk_at "rd"
      refine u_Float (.inr (.inl ⟨rfl, rfl, .inl rfl, rfl⟩)) fun x1 H2 s2 n2 h2 => ?_
      repeat walk_at "rd"
      refine u_Float (.inr (.inl ⟨rfl, rfl, .inr rfl, rfl⟩)) fun x2 H3 s3 n3 h3 => ?_
      repeat walk_at "rd"
      refine u_Float (.inr (.inr ⟨rfl, rfl, rfl, rfl⟩)) fun x3 H4 s4 n4 h4 => ?_
      repeat walk_at "rd"
      refine w_lst3 fun a5 H5 s5 n5 h5 => ?_
      repeat walk_at "rd"
      have w5 := (((w1.same s2).same s3).same s4).same s5
      refine u_one w5 (by omega) h5 ((((w1.same s2).same s3).same s4).ne n5) (by show 0 < 3; decide) (by show 3 ≤ 1000; decide) fun v H6 hv o6 w6 => ?_
      have o7 := ((((o1.same s2).same s3).same s4).same s5).trans o6
      have k1 : ∀ x f, x ≠ p → FlAt CF H5 x f → FlAt CF H6 x f := fun x f hx ⟨dx, e⟩ => ⟨dx, o6 _ _ hx e⟩
      simp only [List.mem_cons, List.not_mem_nil, or_false] at hv
      rcases hv with rfl | rfl | rfl
      · exact q x1 _ H6 o7 (w6.mono (by omega)) (k1 _ _ (w1.ne n2) (((h2.same s3).same s4).same s5)) (.inl rfl)
      · exact q x2 _ H6 o7 (w6.mono (by omega)) (k1 _ _ ((w1.same s2).ne n3) ((h3.same s4).same s5)) (.inr rfl)
      · exact q x3 _ H6 o7 (w6.mono (by omega)) (k1 _ _ (((w1.same s2).same s3).ne n4) (h4.same s5)) trivial
    · repeat walk_at "rd"
      refine u_fin w1 (by omega) fun a2 H2 s t pw o2 w2 h2 fa => ?_
      refine w_gtup h2 rfl ?_
      repeat walk_at "rd"
      refine u_Float fa.arg fun x H3 s3 n3 h3 => ?_
      exact q x _ H3 ((o1.trans o2).same s3) ((w2.same s3).mono (by omega)) h3 fa.arg.ok
/-! ### the fraction of a number, as the law has it -/
def frac : Nm → Option (Int × Int)
  | .int i => some (i, 1)
  | .fl (.fin s t p) => some (ratT s t p, ratB p)
  | .fl (.inf s) => some (s * 2 ^ 2000, 1)
  | .fl .nan => none
def spFrac (CF : Addr) : Sp := fun vs H Q _ => ∃ x n, vs = [x] ∧ NmAt CF H x n ∧ ∀ v H', Same H H' → PlV H' v (frac n) → Q v H'
theorem u_frac {x : V} {n : Nm} {H : Hp} {Q : VK} {E : XK} (h : NmAt CF H x n) (q : ∀ v H', Same H H' → PlV H' v (frac n) → Q v H') : spFrac CF ([x] ++ []) H Q E := ⟨x, n, rfl, h, q⟩
theorem sc_law_fraction : FnScope ["number"] ["number"] (defScope s_law_fraction) := ⟨rfl, rfl, rfl, by decide +kernel, rfl, by decide +kernel, by decide +kernel⟩
theorem ok_fraction (T : AllM K mg CF CT) : Kn P w K mg base CX0 1 "_law_fraction" ["number"] (spFrac CF) := by
  refine T.x_fraction.kn fun f fd F => ?_
  refine F.ok sc_law_fraction (fun vs H Q E h => ?_) (fun cdv A outer s H vs Q E hr h => ?_)
  · obtain ⟨x, n, rfl, _⟩ := h
    rfl
  · obtain ⟨x, n, rfl, hn, q⟩ := h
    refine ⟨_, (pss_cons (ps_if (pt_val (pe_callB call_isi (by rfl) T.b_isinstance boot_isinstance (pa_cons (pv 0) (pa_cons (pe_bltn (by rfl) T.b_int boot_int (rty _)) pa_nil)))) (pss_one (ps_ret (pe_tup (pa_cons (pv 0) (pa_cons pe_int pa_nil))))) pss_nil)
      (pss_cons (ps_if (pt_cmpR op_eq (pe_fld (pv 0) rfl) pe_str (nomark _)) (pss_one (ps_ret pe_non)) pss_nil)
      (pss_cons (ps_if (pt_cmpR op_eq (pe_fld (pv 0) rfl) pe_str (nomark _)) (pss_one (ps_ret (pe_tup (pa_cons (pe_op op_shlW (pe_fld (pv 0) rfl) pe_int) (pa_cons pe_int pa_nil))))) pss_nil)
      (pss_cons (ps_if (pt_cmpR op_lt (pe_fld (pv 0) rfl) pe_int (nomark _)) (pss_one (ps_ret (pe_tup (pa_cons (pe_op op_mulX (pe_fld (pv 0) rfl) (pe_fld (pv 0) rfl)) (pa_cons (pe_op op_shlW pe_int (pe_op op_sub pe_int (pe_fld (pv 0) rfl))) pa_nil))))) pss_nil)
      (pss_one (ps_ret (pe_tup (pa_cons (pe_op op_mulX (pe_fld (pv 0) rfl) (pe_op op_shlW (pe_fld (pv 0) rfl) (pe_fld (pv 0) rfl))) (pa_cons pe_int pa_nil))))))))), ?_⟩
    cases n with
    | int i =>
      obtain ⟨rfl, hb⟩ := hn
      obtain ⟨t, ty, i1, i2, i3, i4⟩ := says_int T.toAll (H := H) (i := i)
      repeat walk_at "rd"
      refine w_isi (.ty "int") ty i1 ?_
      repeat walk_at "rd"
      refine iT ?_
      repeat walk_at "rd"
      refine w_tup2 fun a2 H2 s2 n2 h2 => ?_
      exact q _ H2 s2 ⟨a2, rfl, h2⟩
    | fl f =>
      obtain ⟨a, rfl, ha, ok⟩ := hn
      obtain ⟨dx, h1⟩ := id ha
      obtain ⟨t, ty, i1, i2, i3, i4⟩ := says_fl T.toAll h1
      repeat walk_at "rd"
      refine w_isi (.ty "int") ty i1 ?_
      repeat walk_at "rd"
      refine iF ?_
      repeat walk_at "rd"
      refine w_fldI h1 T.l_Float T.n_top (flds_t _ _ _) ?_
      repeat walk_at "rd"
      cases f with
      | fin s t p =>
        obtain ⟨bs, bt, p1, p2, t0, tp⟩ := ok_bounds ok
        refine w_eqIS ?_
        repeat walk_at "rd"
        refine w_fldI h1 T.l_Float T.n_top (flds_t _ _ _) ?_
        repeat walk_at "rd"
        refine w_eqIS ?_
        repeat walk_at "rd"
        refine w_fldI h1 T.l_Float T.n_power (flds_p _ _ _) ?_
        repeat walk_at "rd"
        refine iD (fun c => ?_) (fun c => ?_)
        · repeat walk_at "rd"
          refine w_fldI h1 T.l_Float T.n_sign (flds_s _ _ _) ?_
          repeat walk_at "rd"
          refine w_fldI h1 T.l_Float T.n_top (flds_t _ _ _) ?_
          refine w_I (cmulx (i := s) (j := t) (by omega) (by omega)) ?_
          repeat walk_at "rd"
          refine w_fldI h1 T.l_Float T.n_power (flds_p _ _ _) ?_
          repeat walk_at "rd"
          change p < 0 at c
          refine w_I (cshl (i := 1) (j := 0 - p) (by decide) (by omega) (by omega)) ?_
          repeat walk_at "rd"
          refine w_tup2 fun a2 H2 s2 n2 h2 => ?_
          refine q _ H2 s2 ⟨a2, rfl, ?_⟩
          unfold ratT ratB
          rw [if_pos c, if_pos c]
          rw [Int.one_mul] at h2
          exact h2
        · repeat walk_at "rd"
          refine w_fldI h1 T.l_Float T.n_sign (flds_s _ _ _) ?_
          repeat walk_at "rd"
          refine w_fldI h1 T.l_Float T.n_top (flds_t _ _ _) ?_
          repeat walk_at "rd"
          refine w_fldI h1 T.l_Float T.n_power (flds_p _ _ _) ?_
          change ¬ p < 0 at c
          refine w_I (cshl (i := t) (j := p) (by omega) (by omega) (by omega)) ?_
          have := bits_mul_pow t0 p.toNat
          refine w_I (cmulx (i := s) (j := t * 2 ^ p.toNat) (by omega) (by omega)) ?_
          repeat walk_at "rd"
          refine w_tup2 fun a2 H2 s2 n2 h2 => ?_
          refine q _ H2 s2 ⟨a2, rfl, ?_⟩
          unfold ratT ratB
          rw [if_neg c, if_neg c]
          exact h2
      | inf s =>
        refine w_eqS ?_
        repeat walk_at "rd"
        refine iD (fun z => absurd z (by decide +kernel)) (fun _ => ?_)
        repeat walk_at "rd"
        refine w_fldI h1 T.l_Float T.n_top (flds_t _ _ _) ?_
        repeat walk_at "rd"
        refine w_eqS ?_
        repeat walk_at "rd"
        refine iD (fun _ => ?_) (fun z => absurd rfl z)
        repeat walk_at "rd"
        refine w_fldI h1 T.l_Float T.n_sign (flds_s _ _ _) ?_
        repeat walk_at "rd"
        refine w_I (cshl (i := s) (j := 2000) (by rcases (show s = 1 ∨ s = -1 from ok) with rfl | rfl <;> decide) (by decide) (by decide)) ?_
        repeat walk_at "rd"
        refine w_tup2 fun a2 H2 s2 n2 h2 => ?_
        repeat walk_at "rd"
        exact q _ H2 s2 ⟨a2, rfl, h2⟩
      | nan =>
        refine w_eqS ?_
        repeat walk_at "rd"
        refine iD (fun _ => ?_) (fun z => absurd rfl z)
        repeat walk_at "rd"
        exact q .non H (Same.refl H) rfl
end
end Nu

set_option Elab.async false
set_option linter.all false
set_option maxRecDepth 100000
set_option autoImplicit false
set_option maxHeartbeats 4000000
namespace Nu
open PySem PySem.Spec PyProof.Rows L2 Rd
local macro_rules | `(tactic| walk_at "hp") => `(tactic| first | assumption | (refine same_get ?sm ?_; (case sm => assumption); walk_at "hp"))
local macro_rules | `(tactic| walk_at "rd") => `(tactic| first
  | with_reducible refine w_nx ?_
  | with_reducible refine w_rt ?_
  | with_reducible refine w_bk ?_
  | with_reducible refine w_ct ?_
  | with_reducible refine w_seq ?_
  | with_reducible refine w_next ?_
  | with_reducible refine w_ret ?_
  | with_reducible refine w_ifS ?_
  | with_reducible refine w_asg ?_
  | with_reducible refine w_name ?_
  | with_reducible refine w_par ?_
  | with_reducible refine w_parI ?_
  | with_reducible refine w_ii ?_
  | with_reducible refine w_i1 ?_
  | with_reducible refine w_drop ?_
  | with_reducible refine w_sFld ?_
  | ((with_reducible refine' w_var ?rdh ?_); (case rdh => exact rfl))
  | with_reducible refine w_c ?_
  | with_reducible refine w_op ?_
  | with_reducible refine w_un ?_
  | with_reducible refine w_I0 ?_
  | with_reducible refine w_U ?_
  | with_reducible refine w_bits ?_
  | with_reducible refine w_bitsI ?_
  | with_reducible refine w_tup ?_
  | with_reducible refine w_lst ?_
  | with_reducible refine w_nil ?_
  | with_reducible refine w_cons ?_
  | with_reducible refine w_fld ?_
  | with_reducible refine w_call ?_
  | with_reducible refine w_make ?_
  | with_reducible refine w_gsub ?_
  | with_reducible refine w_int1 ?_
  | with_reducible refine w_intB ?_
  | with_reducible refine w_for ?_
  | with_reducible refine w_rng1 ?_
  | with_reducible refine w_iList ?_
  | with_reducible refine w_iTup ?_
  | with_reducible refine w_makeD ?_
  | with_reducible refine w_nn ?_
  | with_reducible refine w_subB ?_
  | with_reducible refine w_meth ?_
  | with_reducible refine w_cb ?_
  | with_reducible refine w_test ?_
  | with_reducible refine w_B ?_
  | with_reducible refine w_bl ?_
  | with_reducible refine w_andV ?_
  | with_reducible refine w_orV ?_
  | with_reducible refine w_notV ?_
  | with_reducible refine w_and ?_
  | with_reducible refine w_or ?_
  | with_reducible refine w_not ?_
  | with_reducible refine w_if ?_
  | with_reducible refine w_gnil ?_
  | with_reducible refine w_gcons ?_
  | with_reducible refine iT ?_
  | with_reducible refine iF ?_
  | with_reducible refine w_eqI ?_
  | with_reducible refine w_neI ?_
  | with_reducible refine w_eqS ?_
  | with_reducible refine w_eqIS ?_
  | with_reducible refine w_eqSI ?_)

/-! ### the order of the fractions is the order of the places -/
def Nm.ok : Nm → Prop
  | .int i => bits i ≤ 70
  | .fl f => f.ok
theorem NmAt.ok {CF : Addr} {H : Hp} {x : V} : ∀ {n : Nm}, NmAt CF H x n → n.ok
  | .int _, h => h.2
  | .fl _, ⟨_, _, _, o⟩ => o
theorem sgn_pos {g : Int} (h : 0 < g) : sgnV g = 1 := by
  unfold sgnV
  rw [if_pos h, if_neg (by omega)]
  rfl
theorem sgn_neg {g : Int} (h : g < 0) : sgnV g = -1 := by
  unfold sgnV
  rw [if_neg (by omega), if_pos h]
  rfl
theorem sgn_zero : sgnV 0 = 0 := rfl
def isInf : Nm → Option Int
  | .fl (.inf s) => some s
  | _ => none
theorem fin_lt {n : Nm} {a b : Int} (h : n.ok) (e : place n = some (a, b)) (hi : isInf n = none) : frac n = some (a, b) ∧ 0 < b ∧ -(2 ^ 1025 * b) < a ∧ a < 2 ^ 1025 * b := by
  match n, h, e, hi with
  | .int i, h, e, _ =>
    cases e
    refine ⟨rfl, by decide, ?_⟩
    have h1 := (bits_le (n := a) (k := 70)).1 h
    have h2 : (2 ^ 70 : Nat) = 1180591620717411303424 := by decide
    have h3 : (1180591620717411303424 : Int) ≤ 2 ^ 1025 := pow_mono (a := 70) (b := 1025) (by decide)
    rw [h2] at h1
    generalize (2 : Int) ^ 1025 = M at h3 ⊢
    omega
  | .fl (.fin s t p), ok, e, _ =>
    cases e
    refine ⟨rfl, ratB_pos p, ?_⟩
    obtain ⟨bs, bt, p1, p2, t0, tp⟩ := ok_bounds ok
    obtain ⟨hs, _, tl, _, _⟩ := ok
    have key : 0 ≤ (if p < 0 then t else t * 2 ^ p.toNat) ∧ (if p < 0 then t else t * 2 ^ p.toNat) < 2 ^ 1025 * ratB p := by
      unfold ratB
      by_cases c : p < 0
      · rw [if_pos c, if_pos c]
        have h1 := pow_pos2 (0 - p).toNat
        have h3 : (9007199254740992 : Int) ≤ 2 ^ 1025 := pow_mono (a := 53) (b := 1025) (by decide)
        have h4 : (2 : Int) ^ 1025 * 1 ≤ 2 ^ 1025 * 2 ^ (0 - p).toNat := Int.mul_le_mul_of_nonneg_left (by omega) (by omega)
        generalize (2 : Int) ^ 1025 * 2 ^ (0 - p).toNat = M at h4 ⊢
        omega
      · rw [if_neg c, if_neg c]
        have h1 := bits_mul_pow t0 p.toNat
        have h0 : 0 ≤ t * 2 ^ p.toNat := Int.mul_nonneg t0 (Int.le_of_lt (pow_pos2 _))
        have h2 := (bits_lt_pow h0 (k := 1025)).1 (by omega)
        exact ⟨h0, by omega⟩
    have e : ratT s t p = s * (if p < 0 then t else t * 2 ^ p.toNat) := by
      unfold ratT
      split <;> rfl
    rw [e]
    generalize (2 : Int) ^ 1025 * ratB p = M at key ⊢
    rcases hs with rfl | rfl <;> omega
  | .fl (.inf s), _, _, hi => cases hi
theorem gap_inf {s a b M : Int} (hs : s = 1 ∨ s = -1) (h1 : -(M * b) < a) (h2 : a < M * b) : sgnV (gap (s * M, 1) (a, b)) = s ∧ sgnV (gap (a, b) (s * M, 1)) = -s := by
  unfold gap
  simp only [Int.mul_one]
  rw [Int.mul_assoc]
  generalize M * b = N at h1 h2 ⊢
  rcases hs with rfl | rfl
  · exact ⟨sgn_pos (by omega), sgn_neg (by omega)⟩
  · exact ⟨sgn_neg (by omega), sgn_pos (by omega)⟩
theorem gap_infs {s r M : Int} (hM : 0 < M) (hs : s = 1 ∨ s = -1) (hr : r = 1 ∨ r = -1) : sgnV (gap (s * M, 1) (r * M, 1)) = sgnV (s - r) := by
  unfold gap
  simp only [Int.mul_one]
  rcases hs with rfl | rfl <;> rcases hr with rfl | rfl
  · rw [show (1 : Int) * M - 1 * M = 0 by omega]; rfl
  · rw [sgn_pos (by omega)]; rfl
  · rw [sgn_neg (by omega)]; rfl
  · rw [show (-1 : Int) * M - -1 * M = 0 by omega]; rfl
theorem wider {a b M : Int} (hb : 0 < b) (hM : 2 ^ 1025 ≤ M) (h1 : -(2 ^ 1025 * b) < a) (h2 : a < 2 ^ 1025 * b) : -(M * b) < a ∧ a < M * b := by
  have := Int.mul_le_mul_of_nonneg_right hM (Int.le_of_lt hb)
  generalize (2 : Int) ^ 1025 * b = N1 at h1 h2 this
  generalize M * b = N2 at this ⊢
  omega
def fracV (n m : Nm) : V := match frac n, frac m with
  | some a, some b => .int (sgnV (gap a b))
  | _, _ => .non
theorem place_none {n : Nm} : place n = none → frac n = none := by
  match n with
  | .int _ => intro h; cases h
  | .fl (.fin _ _ _) => intro h; cases h
  | .fl (.inf _) => intro h; cases h
  | .fl .nan => intro _; rfl
theorem inf_of {n : Nm} {s : Int} (h : isInf n = some s) (ok : n.ok) : place n = some (s * 2 ^ 1025, 1) ∧ frac n = some (s * 2 ^ 2000, 1) ∧ (s = 1 ∨ s = -1) := by
  match n, h with
  | .fl (.inf s), h =>
    cases h
    exact ⟨rfl, rfl, ok⟩
theorem big2000 : (2 : Int) ^ 1025 ≤ 2 ^ 2000 := pow_mono (by decide)
theorem ord_frac {n m : Nm} (hn : n.ok) (hm : m.ok) : ordV n m = fracV n m := by
  unfold ordV fracV
  cases en : place n with
  | none =>
    rw [place_none en]
  | some a =>
    cases em : place m with
    | none =>
      rw [place_none em]
      cases frac n <;> rfl
    | some b =>
      cases jn : isInf n with
      | none =>
        obtain ⟨fn, b0, l1, l2⟩ := fin_lt hn (a := a.1) (b := a.2) en jn
        cases jm : isInf m with
        | none =>
          obtain ⟨fm, _⟩ := fin_lt hm (a := b.1) (b := b.2) em jm
          rw [fn, fm]
        | some r =>
          obtain ⟨pm, fm, hr⟩ := inf_of jm hm
          rw [em] at pm
          cases pm
          rw [fn, fm]
          obtain ⟨k1, k2⟩ := wider b0 big2000 l1 l2
          show V.int _ = V.int _
          rw [(gap_inf hr l1 l2).2, (gap_inf hr k1 k2).2]
      | some s =>
        obtain ⟨pn, fn, hs⟩ := inf_of jn hn
        rw [en] at pn
        cases pn
        cases jm : isInf m with
        | none =>
          obtain ⟨fm, b0, l1, l2⟩ := fin_lt hm (a := b.1) (b := b.2) em jm
          obtain ⟨k1, k2⟩ := wider b0 big2000 l1 l2
          rw [fn, fm]
          show V.int _ = V.int _
          rw [(gap_inf hs l1 l2).1, (gap_inf hs k1 k2).1]
        | some r =>
          obtain ⟨pm, fm, hr⟩ := inf_of jm hm
          rw [em] at pm
          cases pm
          rw [fn, fm]
          show V.int _ = V.int _
          rw [gap_infs (pow_pos2 _) hs hr, gap_infs (pow_pos2 _) hs hr]
theorem sgn_lt {g : Int} : (sgnV g < 0) ↔ g < 0 := by
  unfold sgnV
  split <;> split <;> omega
theorem sgn_le {g : Int} : (sgnV g ≤ 0) ↔ g ≤ 0 := by
  unfold sgnV
  split <;> split <;> omega
theorem sgn_eq {g : Int} : (sgnV g = 0) ↔ g = 0 := by
  unfold sgnV
  split <;> split <;> omega
theorem frac_bits {n : Nm} {a b : Int} (h : n.ok) (e : frac n = some (a, b)) : bits a ≤ 3000 ∧ bits b ≤ 3000 := by
  match n, h, e with
  | .int i, h, e =>
    cases e
    exact ⟨by have : bits a ≤ 70 := h; omega, by decide⟩
  | .fl (.fin s t p), ok, e =>
    cases e
    exact ⟨by have := ratT_bits ok; omega, by have := ratB_bits ok; omega⟩
  | .fl (.inf s), ok, e =>
    cases e
    refine ⟨?_, by decide⟩
    have h1 := bits_mul s (2 ^ 2000)
    rw [bits_pow] at h1
    have h2 : bits s ≤ 1 := by rcases (show s = 1 ∨ s = -1 from ok) with rfl | rfl <;> decide
    omega
  | .fl .nan, _, e => cases e
section
variable {P : Program} {w : World} {K : PySem.W.Frag} {mg : Str → Option Value} {base : Heap} {CF CT : Addr}
theorem w_yes {σ : L2.St} {H : Hp} {Q : Bool → Hp → Prop} (q : Q true H) : tYes σ H Q := q
theorem same_put {H H' : Hp} {D : Addr} {o : HO} (s : Same H H') (n : H D = none) : Same H (upd H' D o) := fun b u e => by
  rw [upd_ne (ne_of_none e n)]
  exact s b u e
theorem w_lc {wi : TI} {g : TG} {tt : TT} {te : TE} {vs : List Nat} {σ : L2.St} {H : Hp} {Q : VK} (h : wi σ H fun J H1 => ∀ D, H1 D = none → ∃ W : Nat → Nat → Hp → Prop, (∃ m, W 0 m (upd H1 D (.lst []))) ∧ ∀ i m H, W i m H →
  (J.stop i H ∧ Q (.ref D) H) ∨ (J.go i H ∧ ∃ Nx : Hp → Prop, (∀ H', Nx H' → ∃ m', m' < m ∧ W (i + 1) m' H') ∧ ∀ x H', J.yld i H x H' → g x (wipe σ vs) H' fun σ2 H2 => wipe σ2 vs = wipe σ vs ∧ tt σ2 H2 fun b H3 =>
    if b = true then te σ2 H3 fun y H4 => ∃ acc, H4 D = some (.lst acc) ∧ acc.length < sizeLine ∧ Nx (upd H4 D (.lst (acc ++ [y]))) else Nx H3)) : tLc wi g tt te vs σ H Q := h
theorem w_eqB3 {a b : Addr} {c1 c2 c3 : Bool} {H : Hp} {Q : VK} (h1 : H a = some (.lst [.bl c1, .bl c2, .bl c3])) (h2 : H b = some (.lst [.bl c1, .bl c2, .bl c3])) (q : Q (.bl true) H) : rEqD K (.ref a) (.ref b) H Q := by
  refine ⟨.list [.bool c1, .bool c2, .bool c3], .list [.bool c1, .bool c2, .bool c3], .lst (SqL.of h1) (.cons (.bl _) (.cons (.bl _) (.cons (.bl _) .nil))), .lst (SqL.of h2) (.cons (.bl _) (.cons (.bl _) (.cons (.bl _) .nil))), rfl, rfl, ?_⟩
  have e : PyData.eqv (.list [.bool c1, .bool c2, .bool c3]) (.list [.bool c1, .bool c2, .bool c3]) = true := by
    cases c1 <;> cases c2 <;> cases c3 <;> decide +kernel
  rw [e]
  exact q
def spRight (CF : Addr) : Sp := fun vs H Q _ => ∃ x y n m, vs = [x, y] ∧ NmAt CF H x n ∧ NmAt CF H y m ∧ ∀ H', Same H H' → Q (.bl true) H'
theorem u_cmp {wd : Str} {x y : V} {n m : Nm} {H : Hp} {Q : VK} {E : XK} (hn : NmAt CF H x n) (hm : NmAt CF H y m) (q : ∀ H', Same H H' → Q (.bl (cmpV wd n m)) H') : spCompare CF ([V.str wd, x, y] ++ []) H Q E := ⟨wd, x, y, n, m, rfl, hn, hm, q⟩
theorem u_same {x y : V} {n m : Nm} {H : Hp} {Q : VK} {E : XK} (hn : NmAt CF H x n) (hm : NmAt CF H y m) (q : ∀ H', Same H H' → Q (.bl (decide (ordV n m = .int 0))) H') : spSame K CF CT ([x, y] ++ []) H Q E := ⟨x, y, some n, some m, rfl, .num hn, .num hm, q⟩
theorem call_isiK {X : Cx} {K : PySem.W.Frag} (h : X.K = K) : CallR X (.builtin "isinstance") (rIsi K) := by
  subst h
  exact call_isi
theorem sc_law_right : FnScope ["one", "other", "first", "second", "dues", "gap", "told", "mark"] ["one", "other"] (defScope s_law_right) := ⟨rfl, rfl, rfl, by decide +kernel, rfl, by decide +kernel, by decide +kernel⟩
theorem ok_right (T : AllM K mg CF CT) (k_law_fraction : Kn P w K mg base CX0 1 "_law_fraction" ["number"] (spFrac CF)) (k_compare : Kn P w K mg base CX0 4 "compare" ["word", "one", "other"] (spCompare CF)) (k_same : Kn P w K mg base CX0 4 "same" ["one", "other"] (spSame K CF CT)) :
    Kn P w K mg base CX0 5 "_law_right" ["one", "other"] (spRight CF) := by
  refine T.x_right.kn fun f fd F => ?_
  refine F.ok sc_law_right (fun vs H Q E h => ?_) (fun cdv A outer s H vs Q E hr h => ?_)
  · obtain ⟨x, y, n, m, rfl, _⟩ := h
    rfl
  · obtain ⟨x, y, n, m, rfl, hn, hm, q⟩ := h
    refine ⟨_, (pss_cons (ps_par (by rfl) sc_law_right.nd (i := 2) (j := 3) rfl rfl (by decide) rfl rfl (pa_cons (pk k_law_fraction hr (pa_cons (pv 0) pa_nil)) (pa_cons (pk k_law_fraction hr (pa_cons (pv 1) pa_nil)) pa_nil)) (by rfl))
      (C8.pss_cut (ps_if (PW.pt (pw_or (pt_cmpR op_isN (pv 2) pe_non (nomark _)) (pw_or1 (pt_cmpR op_isN (pv 3) pe_non (nomark _))))) (pss_one (ps_set (i := 4) sc_law_right.nd rfl (Or.inl rfl) (pe_lst (pa_cons pe_bl (pa_cons pe_bl (pa_cons pe_bl pa_nil)))))) (pss_cons (ps_set (i := 5) sc_law_right.nd rfl (Or.inl rfl) (pe_op op_sub (pe_op op_mulX (pe_ix ix_tup (pv 2) pe_int (fun _ _ => rfl)) (pe_ix ix_tup (pv 3) pe_int (fun _ _ => rfl))) (pe_op op_mulX (pe_ix ix_tup (pv 3) pe_int (fun _ _ => rfl)) (pe_ix ix_tup (pv 2) pe_int (fun _ _ => rfl)))))
      (pss_one (ps_set (i := 4) sc_law_right.nd rfl (Or.inl rfl) (pe_lst (pa_cons (pe_cmpR op_lt (pv 5) pe_int (nomark _)) (pa_cons (pe_cmpR op_le (pv 5) pe_int (nomark _)) (pa_cons (pe_cmpR op_eq (pv 5) pe_int (nomark _)) pa_nil))))))))
      (pss_cons (ps_set (i := 6) sc_law_right.nd rfl (Or.inl rfl) (pe_lst (pa_cons (pk k_compare hr (pa_cons pe_str (pa_cons (pv 0) (pa_cons (pv 1) pa_nil)))) (pa_cons (pk k_compare hr (pa_cons pe_str (pa_cons (pv 0) (pa_cons (pv 1) pa_nil)))) (pa_cons (pk k_same hr (pa_cons (pv 0) (pa_cons (pv 1) pa_nil))) pa_nil)))))
      (pss_one (ps_ret (pe_and (pe_cmpR (op_eqD hr.units) (pv 6) (pv 4) (nomark _)) (pe_one (pe_cmpR (op_eqD hr.units) (pe_lc (own := [("mark", 7)]) (g := (gName 7)) (tt := tYes) rfl sc_law_right.nd (pi_list (pv 6)) (blkOk_by (N := ["one", "other", "first", "second", "dues", "gap", "told", "mark"]) (sc := defScope s_law_right) (by decide +kernel)) (fun _ _ _ _ _ => (pg_name (i := 7) sc_law_right.nd rfl (Or.inl rfl))) (fun _ _ _ _ _ => pts_nil) (fun _ _ _ _ _ => (pe_callB (call_isiK (K := K) rfl) (by rfl) T.b_isinstance boot_isinstance (pa_cons (pv 7) (pa_cons (pe_bltn (by rfl) T.b_bool boot_bool (rty _)) pa_nil))))) (pe_op op_rep (pe_lst (pa_cons pe_bl pa_nil)) pe_int) (nomark _))))))))), ?_⟩
    repeat walk_at "rd"
    refine u_frac hn fun v1 H1 s1 p1 => ?_
    repeat walk_at "rd"
    refine u_frac (hm.same s1) fun v2 H2 s2 p2 => ?_
    have p1 := p1.same s2
    have hn2 := (hn.same s1).same s2
    have hm2 := (hm.same s1).same s2
    have s2 := s1.trans s2
    repeat walk_at "rd"
    refine w_cut (Mid := fun σ' H' => ∃ g d, σ' = [some x, some y, some v1, some v2, some (.ref d), g, none, none] ∧ Same H H' ∧ H' d = some (.lst [.bl (cmpV "lt" n m), .bl (cmpV "le" n m), .bl (decide (ordV n m = .int 0))])) ?_ ?_
    · have eo := ord_frac hn.ok hm.ok
      have bn := fun a b => frac_bits (a := a) (b := b) hn.ok
      have bm := fun a b => frac_bits (a := a) (b := b) hm.ok
      unfold cmpV
      rw [eo]
      unfold fracV
      generalize frac n = r1 at p1 bn
      generalize frac m = r2 at p2 bm
      repeat walk_at "rd"
      cases r1 with
      | none =>
        obtain rfl : v1 = .non := p1
        refine iT ?_
        repeat walk_at "rd"
        refine w_lst3 fun a3 H3 s3 n3 h3 => ?_
        repeat walk_at "rd"
        exact ⟨_, a3, rfl, s2.trans s3, h3⟩
      | some ab =>
        obtain ⟨q1, rfl, h1⟩ := p1
        refine iF ?_
        repeat walk_at "rd"
        cases r2 with
        | none =>
          obtain rfl : v2 = .non := p2
          refine iT ?_
          repeat walk_at "rd"
          refine w_lst3 fun a3 H3 s3 n3 h3 => ?_
          repeat walk_at "rd"
          exact ⟨_, a3, rfl, s2.trans s3, h3⟩
        | some cd =>
          obtain ⟨q2, rfl, h2⟩ := p2
          obtain ⟨b1, b2⟩ := bn ab.1 ab.2 rfl
          obtain ⟨b3, b4⟩ := bm cd.1 cd.2 rfl
          refine iF ?_
          repeat walk_at "rd"
          refine w_ixT h1 (v := .int ab.1) rfl ?_
          repeat walk_at "rd"
          refine w_ixT h2 (v := .int cd.2) rfl ?_
          refine w_I (cmulx (i := ab.1) (j := cd.2) (by omega) (by omega)) ?_
          repeat walk_at "rd"
          refine w_ixT h2 (v := .int cd.1) rfl ?_
          repeat walk_at "rd"
          refine w_ixT h1 (v := .int ab.2) rfl ?_
          refine w_I (cmulx (i := cd.1) (j := ab.2) (by omega) (by omega)) ?_
          repeat walk_at "rd"
          refine w_lst3 fun a3 H3 s3 n3 h3 => ?_
          repeat walk_at "rd"
          refine ⟨_, a3, rfl, s2.trans s3, ?_⟩
          rw [h3]
          show _ = some (HO.lst [.bl (if ("lt" : Str) = "lt" then decide (sgnV (gap ab cd) < 0) else decide (sgnV (gap ab cd) ≤ 0)), .bl (if ("le" : Str) = "lt" then decide (sgnV (gap ab cd) < 0) else decide (sgnV (gap ab cd) ≤ 0)), .bl (decide (V.int (sgnV (gap ab cd)) = V.int 0))])
          rw [if_pos rfl, if_neg (by decide +kernel), dec_ii, decide_eq_decide.2 sgn_lt, decide_eq_decide.2 sgn_le, decide_eq_decide.2 sgn_eq]
          rfl
    · rintro σ' H3 ⟨g, d, rfl, s3, h3⟩
      have hn3 := hn.same s3
      have hm3 := hm.same s3
      repeat walk_at "rd"
      refine u_cmp hn3 hm3 fun H4 s4 => ?_
      repeat walk_at "rd"
      refine u_cmp (hn3.same s4) (hm3.same s4) fun H5 s5 => ?_
      repeat walk_at "rd"
      refine u_same ((hn3.same s4).same s5) ((hm3.same s4).same s5) fun H6 s6 => ?_
      repeat walk_at "rd"
      refine w_lst3 fun a7 H7 s7 n7 h7 => ?_
      have s7 := ((s4.trans s5).trans s6).trans s7
      repeat walk_at "rd"
      refine w_eqB3 h7 (s7 _ _ h3) ?_
      have s7 := s3.trans s7
      generalize cmpV "lt" n m = c1 at h7
      generalize cmpV "le" n m = c2 at h7
      generalize decide (ordV n m = V.int 0) = c3 at h7
      repeat walk_at "rd"
      refine w_lc ?_
      repeat walk_at "rd"
      refine w_iListI h7 fun D nD => ?_
      refine lc_list (xs := [.bl c1, .bl c2, .bl c3]) (fun i H' => Same H7 H' ∧ H' D = some (.lst (List.replicate i (.bl true)))) ⟨same_upd nD, upd_same⟩ (fun i H' _ p => SqL.of (p.1 _ _ h7)) ?_ ?_
      · intro i x H' hi ⟨p1, p2⟩
        obtain ⟨b, rfl⟩ : ∃ b, x = .bl b := by
          have := List.mem_of_getElem? hi
          simp only [List.mem_cons, List.not_mem_nil, or_false] at this
          rcases this with rfl | rfl | rfl <;> exact ⟨_, rfl⟩
        have hi3 : i < 3 := (List.getElem?_eq_some_iff.mp hi).1
        repeat walk_at "rd"
        refine ⟨rfl, ?_⟩
        refine w_yes ?_
        refine iT ?_
        repeat walk_at "rd"
        obtain ⟨t, ty, i1, i2, i3, i4⟩ := says_bl T.toAll (H := H') (b := b)
        refine w_isi (.ty "bool") ty i2 ?_
        refine ⟨_, p2, by rw [List.length_replicate]; exact Nat.lt_trans hi3 (by decide), same_put p1 nD, ?_⟩
        rw [upd_same, List.replicate_succ']
      · intro H' ⟨p1, p2⟩
        repeat walk_at "rd"
        refine w_lst1 fun a8 H8 s8 n8 h8 => ?_
        repeat walk_at "rd"
        refine w_rep h8 (by decide) (by decide) (by decide) fun a9 H9 s9 n9 h9 => ?_
        repeat walk_at "rd"
        refine w_eqB3 (c1 := true) (c2 := true) (c3 := true) (s9 _ _ (s8 _ _ p2)) h9 ?_
        exact q H9 (((s7.trans p1).trans s8).trans s9)
end
end Nu

set_option Elab.async false
set_option linter.all false
set_option maxRecDepth 100000
set_option autoImplicit false
set_option maxHeartbeats 4000000
namespace Nu
open PySem PySem.Spec PyProof.Rows L2 Rd
local macro_rules | `(tactic| walk_at "hp") => `(tactic| first | assumption | (refine same_get ?sm ?_; (case sm => assumption); walk_at "hp"))
local macro_rules | `(tactic| walk_at "rd") => `(tactic| first
  | with_reducible refine w_nx ?_
  | with_reducible refine w_rt ?_
  | with_reducible refine w_bk ?_
  | with_reducible refine w_ct ?_
  | with_reducible refine w_seq ?_
  | with_reducible refine w_next ?_
  | with_reducible refine w_ret ?_
  | with_reducible refine w_ifS ?_
  | with_reducible refine w_asg ?_
  | with_reducible refine w_name ?_
  | with_reducible refine w_par ?_
  | with_reducible refine w_parI ?_
  | with_reducible refine w_ii ?_
  | with_reducible refine w_i1 ?_
  | with_reducible refine w_drop ?_
  | with_reducible refine w_sFld ?_
  | ((with_reducible refine' w_var ?rdh ?_); (case rdh => exact rfl))
  | with_reducible refine w_c ?_
  | with_reducible refine w_op ?_
  | with_reducible refine w_un ?_
  | with_reducible refine w_I0 ?_
  | with_reducible refine w_U ?_
  | with_reducible refine w_bits ?_
  | with_reducible refine w_bitsI ?_
  | with_reducible refine w_tup ?_
  | with_reducible refine w_lst ?_
  | with_reducible refine w_nil ?_
  | with_reducible refine w_cons ?_
  | with_reducible refine w_fld ?_
  | with_reducible refine w_call ?_
  | with_reducible refine w_make ?_
  | with_reducible refine w_gsub ?_
  | with_reducible refine w_int1 ?_
  | with_reducible refine w_intB ?_
  | with_reducible refine w_for ?_
  | with_reducible refine w_rng1 ?_
  | with_reducible refine w_iList ?_
  | with_reducible refine w_iTup ?_
  | with_reducible refine w_makeD ?_
  | with_reducible refine w_nn ?_
  | with_reducible refine w_subB ?_
  | with_reducible refine w_meth ?_
  | with_reducible refine w_cb ?_
  | with_reducible refine w_test ?_
  | with_reducible refine w_B ?_
  | with_reducible refine w_bl ?_
  | with_reducible refine w_andV ?_
  | with_reducible refine w_orV ?_
  | with_reducible refine w_notV ?_
  | with_reducible refine w_and ?_
  | with_reducible refine w_or ?_
  | with_reducible refine w_not ?_
  | with_reducible refine w_if ?_
  | with_reducible refine w_gnil ?_
  | with_reducible refine w_gcons ?_
  | with_reducible refine iT ?_
  | with_reducible refine iF ?_
  | with_reducible refine w_eqI ?_
  | with_reducible refine w_neI ?_
  | with_reducible refine w_eqS ?_
  | with_reducible refine w_eqIS ?_
  | with_reducible refine w_eqSI ?_)

theorem Well.here {n : Nat} {H : Hp} {p : Addr} (h : Well n H p) : ∃ xs, H p = some (.lst xs) := let ⟨_, _, _, e, _⟩ := h; ⟨_, e⟩
theorem NmAt.oth {CF p : Addr} {H H' : Hp} {x : V} {k : Nat} : ∀ {n : Nm}, NmAt CF H x n → Oth p H H' → Well k H p → NmAt CF H' x n
  | .int _, h, _, _ => h
  | .fl _, ⟨a, e, ⟨dx, ha⟩, ok⟩, o, hw => ⟨a, e, ⟨dx, o _ _ (by
      rintro rfl
      obtain ⟨xs, k⟩ := hw.here
      rw [ha] at k
      cases k) ha⟩, ok⟩
/-- all of vs are numbers -/
def Nms (CF : Addr) (H : Hp) (vs : List V) : Prop := ∀ v ∈ vs, ∃ n, NmAt CF H v n
theorem Nms.same {CF : Addr} {H H' : Hp} {vs : List V} (h : Nms CF H vs) (s : Same H H') : Nms CF H' vs := fun v hv => let ⟨n, e⟩ := h v hv; ⟨n, e.same s⟩
theorem Nms.oth {CF p : Addr} {H H' : Hp} {vs : List V} {k : Nat} (h : Nms CF H vs) (o : Oth p H H') (hw : Well k H p) : Nms CF H' vs := fun v hv => let ⟨n, e⟩ := h v hv; ⟨n, e.oth o hw⟩
theorem Nms.nil {CF : Addr} {H : Hp} : Nms CF H [] := fun v hv => nomatch hv
theorem Nms.cons {CF : Addr} {H : Hp} {v : V} {vs : List V} {n : Nm} (h : NmAt CF H v n) (t : Nms CF H vs) : Nms CF H (v :: vs) := fun u hu => by
  rcases List.mem_cons.1 hu with rfl | hu
  · exact ⟨n, h⟩
  · exact t u hu
theorem nearM_ok {s t b : Int} (hs : s = 1 ∨ s = -1) (ht : 0 ≤ t) (hb : 0 < b) : (nearM s t b).ok := by
  unfold nearM
  by_cases z : t = 0
  · rw [if_pos z]
    exact ⟨hs, by decide, by decide, fun _ => rfl, fun h => absurd rfl h⟩
  · rw [if_neg z]
    by_cases c : 1024 < bits (wh t b) + p2 t b
    · rw [if_pos c]
      exact hs
    · rw [if_neg c]
      exact Arg.ok (tv := .int (wh t b)) (p := p2 t b) (.inl ⟨wh t b, rfl, wh_nn ht hb, hs, wh_fits ht hb (Int.not_lt.mp c), rfl⟩)
theorem Fl.ok.again {f : Fl} (h : f.ok) : ∃ g, Arg f.s f.t f.p g := by
  cases f with
  | fin s t p =>
    obtain ⟨hs, t0, t1, z, nz⟩ := h
    refine ⟨_, .inl ⟨t, rfl, t0, hs, red_fits t0 (by omega) ?_ ?_, rfl⟩⟩
    · by_cases c : t = 0
      · show -1074 ≤ p
        rw [z c]; decide
      · exact (nz c).1
    · by_cases c : t = 0
      · show bits t + p ≤ 1024
        rw [z c, c]; decide
      · exact (nz c).2.1
  | inf s => exact ⟨_, .inr (.inl ⟨rfl, rfl, h, rfl⟩)⟩
  | nan => exact ⟨_, .inr (.inr ⟨rfl, rfl, rfl, rfl⟩)⟩
section
variable {P : Program} {w : World} {K : PySem.W.Frag} {mg : Str → Option Value} {base : Heap} {CF CT : Addr}
theorem u_flt {p : Addr} {n : Nat} {H : Hp} {Q : VK} {E : XK} (hw : Well n H p) (hn : n < 700000) (q : ∀ x f H', Oth p H H' → Well (n + 50) H' p → FlAt CF H' x f → f.ok → Q (.ref x) H') : spFlt CF ([V.ref p] ++ []) H Q E := ⟨p, n, rfl, hw, hn, q⟩
theorem u_toF {i : Int} {H : Hp} {Q : VK} {E : XK} (hb : bits i ≤ 2000) (q : ∀ x H' f, Same H H' → H x = none → FlAt CF H' x f → f.ok → Q (.ref x) H') : spToF K CF ([V.int i] ++ []) H Q E := by
  refine .inr ⟨i, rfl, hb, fun x H' s n h => q x H' _ s n h (nearM_ok ?_ ?_ (by decide))⟩
  · split
    · exact .inr rfl
    · exact .inl rfl
  · split <;> omega
def spNums (CF : Addr) : Sp := fun vs H Q _ => ∃ (p : Addr) (n : Nat), vs = [.ref p] ∧ Well n H p ∧ n < 500000 ∧
  ∀ l H' xs, Oth p H H' → Well (n + 300) H' p → H' l = some (.lst xs) → l ≠ p → xs.length ≤ 20 → Nms CF H' xs → Q (.ref l) H'
theorem p70 : (2 ^ 70 : Nat) = 1180591620717411303424 := by decide
theorem bits64 {i : Int} (h1 : -9223372036854775808 ≤ i) (h2 : i ≤ 9223372036854775808) : bits i ≤ 70 := (bits_le (k := 70)).2 (by rw [p70]; omega)
theorem sc_law_numbers : FnScope ["well", "found", "number", "near", "some"] ["well"] (defScope s_law_numbers) := ⟨rfl, rfl, rfl, by decide +kernel, rfl, by decide +kernel, by decide +kernel⟩
theorem ok_numbers (T : AllM K mg CF CT) (k_law_draw : Kn P w K mg base CX0 1 "_law_draw" ["well", "many"] spDraw) (k_law_one : Kn P w K mg base CX0 2 "_law_one" ["well", "some"] spOne) (k_law_great : Kn P w K mg base CX0 2 "_law_great" ["well", "bits"] spGreat)
    (k_law_float : Kn P w K mg base CX0 4 "_law_float" ["well"] (spFlt CF)) (k_to_float : Kn P w K mg base CX0 6 "to_float" ["number"] (spToF K CF)) (k_Float_init : KnC P w K mg base CX0 2 "Float" CF ["self", "sign", "top", "power"] (spInit CF)) :
    Kn P w K mg base CX0 7 "_law_numbers" ["well"] (spNums CF) := by
  refine T.x_numbers.kn fun f fd F => ?_
  refine F.ok sc_law_numbers (fun vs H Q E h => ?_) (fun cdv A outer s H vs Q E hr h => ?_)
  · obtain ⟨p, n, rfl, _⟩ := h
    rfl
  · obtain ⟨p, n, rfl, hw, hn, q⟩ := h
    refine ⟨_, (pss_cons (ps_set (i := 1) sc_law_numbers.nd rfl (Or.inl rfl) (pe_lst (pa_cons (pk k_law_float hr (pa_cons (pv 0) pa_nil)) (pa_cons (pk k_law_float hr (pa_cons (pv 0) pa_nil)) pa_nil))))
      (pss_cons (ps_set (i := 2) sc_law_numbers.nd rfl (Or.inl rfl) (pe_op op_sub (pk k_law_great hr (pa_cons (pv 0) (pa_cons (pk k_law_one hr (pa_cons (pv 0) (pa_cons (pe_lst (pa_cons pe_int (pa_cons pe_int (pa_cons pe_int pa_nil)))) pa_nil))) pa_nil))) (pe_op op_shlW pe_int pe_int)))
      (pss_cons (ps_set (i := 2) sc_law_numbers.nd rfl (Or.inl rfl) (pk k_law_one hr (pa_cons (pv 0) (pa_cons (pe_lst (pa_cons (pv 2) (pa_cons (pe_op op_sub pe_int (pe_op op_fdivW (pv 2) pe_int)) (pa_cons (pe_op op_sub (pk k_law_draw hr (pa_cons (pv 0) (pa_cons pe_int pa_nil))) pe_int) (pa_cons (pe_op op_sub (pe_op op_add (pe_op op_shlW pe_int pe_int) (pk k_law_draw hr (pa_cons (pv 0) (pa_cons pe_int pa_nil)))) pe_int) pa_nil))))) pa_nil))))
      (pss_cons (ps_set (i := 3) sc_law_numbers.nd rfl (Or.inl rfl) (pk k_to_float hr (pa_cons (pv 2) pa_nil)))
      (pss_cons (ps_set (i := 1) sc_law_numbers.nd rfl (Or.inl rfl) (pe_op op_cat (pv 1) (pe_lst (pa_cons (pv 2) (pa_cons (pv 3) (pa_cons (pkC k_Float_init hr (pa_cons pe_int (pa_cons pe_int (pa_cons pe_int pa_nil)))) (pa_cons (pkC k_Float_init hr (pa_cons (pe_un un_neg pe_int) (pa_cons pe_int (pa_cons pe_int pa_nil)))) (pa_cons pe_int (pa_cons (pkC k_Float_init hr (pa_cons pe_int (pa_cons pe_int (pa_cons pe_int pa_nil)))) (pa_cons (pe_op op_sub (pe_op op_shlW pe_int pe_int) pe_int) (pa_cons (pe_un un_neg (pe_op op_shlW pe_int pe_int)) pa_nil)))))))))))
      (pss_cons (ps_set (i := 4) sc_law_numbers.nd rfl (Or.inl rfl) (pe_callB (call_min2 rfl) (by rfl) T.b_min boot_min (pa_cons (pe_op op_sub (pe_op op_shlW pe_int pe_int) pe_int) (pa_cons (pe_callB (call_max2 rfl) (by rfl) T.b_max boot_max (pa_cons (pe_un un_neg (pe_op op_shlW pe_int pe_int)) (pa_cons (pe_op op_add (pv 2) (pk k_law_one hr (pa_cons (pv 0) (pa_cons (pe_lst (pa_cons pe_int (pa_cons (pe_un un_neg pe_int) (pa_cons pe_int (pa_cons (pe_un un_neg pe_int) pa_nil))))) pa_nil)))) pa_nil))) pa_nil))))
      (pss_one (ps_ret (pe_op op_cat (pv 1) (pe_lst (pa_cons (pv 4) (pa_cons (pk k_to_float hr (pa_cons (pv 4) pa_nil)) (pa_cons (pkC k_Float_init hr (pa_cons (pe_fld (pv 3) rfl) (pa_cons (pe_fld (pv 3) rfl) (pa_cons (pe_fld (pv 3) rfl) pa_nil)))) (pa_cons (pkC k_Float_init hr (pa_cons pe_int (pa_cons pe_str (pa_cons pe_int pa_nil)))) pa_nil)))))))))))))), ?_⟩
    repeat walk_at "rd"
    refine u_flt hw (by omega) fun x1 f1 H1 o1 w1 h1 k1 => ?_
    have N1 : Nms CF H1 [.ref x1] := .cons (n := .fl f1) ⟨x1, rfl, h1, k1⟩ .nil
    repeat walk_at "rd"
    refine u_flt w1 (by omega) fun x2 f2 H2 o2 w2 h2 k2 => ?_
    have N2 : Nms CF H2 [.ref x2, .ref x1] := .cons (n := .fl f2) ⟨x2, rfl, h2, k2⟩ (N1.oth o2 w1)
    have O2 := o1.trans o2
    repeat walk_at "rd"
    refine w_lst2 fun fo H3 s3 n3 h3 => ?_
    have N3 := N2.same s3
    have O3 := O2.same s3
    have w3 := w2.same s3
    have nef := w2.ne n3
    clear o1 o2 s3 n3 N1 N2
    repeat walk_at "rd"
    refine w_lst3 fun a4 H4 s4 n4 h4 => ?_
    repeat walk_at "rd"
    refine u_one (w3.same s4) (by omega) h4 (w3.ne n4) (by decide) (by decide) fun v H5 hv o5 w5 => ?_
    have N5 := (N3.same s4).oth o5 (w3.same s4)
    have O5 := (O3.same s4).trans o5
    have h5 : H5 fo = _ := o5 _ _ nef (s4 _ _ h3)
    obtain ⟨bt, rfl, hbt⟩ : ∃ bt, v = .int bt ∧ 0 ≤ bt ∧ bt ≤ 64 := by
      simp only [List.mem_cons, List.not_mem_nil, or_false] at hv
      rcases hv with rfl | rfl | rfl <;> exact ⟨_, rfl, by decide, by decide⟩
    repeat walk_at "rd"
    refine u_great w5 (by omega) hbt.1 (by omega) fun g H6 o6 w6 gl gu => ?_
    have N6 := N5.oth o6 w5
    have O6 := O5.trans o6
    have h6 : H6 fo = _ := o6 _ _ nef h5
    have gu : g < 18446744073709551616 := by
      have := pow_mono (a := bt.toNat) (b := 64) (by omega)
      rw [show (2 : Int) ^ 64 = 18446744073709551616 by decide] at this
      omega
    clear o5 o6 N3 N5 h3 h5 O3 O5
    repeat walk_at "rd"
    refine w_I (cshl (i := 1) (j := 63) (by decide) (by decide) (by decide)) ?_
    repeat walk_at "rd"
    have e63 : (1 : Int) * 2 ^ (63 : Int).toNat = 9223372036854775808 := by decide
    rw [e63]
    have e53 : (1 : Int) * 2 ^ (53 : Int).toNat = 9007199254740992 := by decide
    refine w_I (cdivw (i := g - 9223372036854775808) (j := 2) (by decide) (by decide)) ?_
    repeat walk_at "rd"
    refine u_draw w6 (by omega) (by decide) (by decide) fun d1 H7 o7 w7 d1l d1u => ?_
    repeat walk_at "rd"
    refine w_I (cshl (i := 1) (j := 53) (by decide) (by decide) (by decide)) ?_
    rw [e53]
    repeat walk_at "rd"
    refine u_draw w7 (by omega) (by decide) (by decide) fun d2 H8 o8 w8 d2l d2u => ?_
    repeat walk_at "rd"
    refine w_lst4 fun a9 H9 s9 n9 h9 => ?_
    repeat walk_at "rd"
    refine u_one (w8.same s9) (by omega) h9 (w8.ne n9) (by show 0 < 4; decide) (by show 4 ≤ 1000; decide) fun v H10 hv o10 w10 => ?_
    have N10 := (((N6.oth o7 w6).oth o8 w7).same s9).oth o10 (w8.same s9)
    have O10 := (((O6.trans o7).trans o8).same s9).trans o10
    have h10 : H10 fo = _ := o10 _ _ nef (s9 _ _ (o8 _ _ nef (o7 _ _ nef h6)))
    obtain ⟨nu, rfl, l1, l2⟩ : ∃ nu, v = .int nu ∧ -9223372036854775808 ≤ nu ∧ nu ≤ 9223372036854775808 := by
      simp only [List.mem_cons, List.not_mem_nil, or_false] at hv
      rcases hv with rfl | rfl | rfl | rfl <;> exact ⟨_, rfl, by omega, by omega⟩
    clear o7 o8 o10 N6 h6 O6 hv s9
    have bnu := bits64 l1 l2
    repeat walk_at "rd"
    refine u_toF (by omega) fun x11 H11 f11 s11 n11 h11 k11 => ?_
    have N11 : Nms CF H11 [.int nu, .ref x11, .ref x2, .ref x1] := .cons (n := .int nu) ⟨rfl, bnu⟩ (.cons (n := .fl f11) ⟨x11, rfl, h11, k11⟩ (N10.same s11))
    have ne11 := w10.ne n11
    have w11 := w10.same s11
    have O11 := O10.same s11
    have h11' := s11 _ _ h10
    clear O10 N10 h10 s11 n11
    repeat walk_at "rd"
    refine u_Float (.inl ⟨0, rfl, by decide, .inl rfl, by rw [red_zero]; decide, rfl⟩) fun x12 H12 s12 n12 h12 => ?_
    repeat walk_at "rd"
    refine u_Float (.inl ⟨0, rfl, by decide, .inr rfl, by rw [red_zero]; decide, rfl⟩) fun x13 H13 s13 n13 h13 => ?_
    repeat walk_at "rd"
    refine u_Float (.inl ⟨1, rfl, by decide, .inl rfl, red_fits (by decide) (by decide) (by decide) (by decide), rfl⟩) fun x14 H14 s14 n14 h14 => ?_
    repeat walk_at "rd"
    refine w_I (cshl (i := 1) (j := 63) (by decide) (by decide) (by decide)) ?_
    rw [e63]
    repeat walk_at "rd"
    refine w_I (cshl (i := 1) (j := 63) (by decide) (by decide) (by decide)) ?_
    rw [e63]
    repeat walk_at "rd"
    refine w_lstI (by show 8 ≤ 1000; decide) fun a15 H15 s15 n15 h15 => ?_
    repeat walk_at "rd"
    have h15f := s15 _ _ (s14 _ _ (s13 _ _ (s12 _ _ h11')))
    refine w_cat h15f h15 (by show 2 + 8 ≤ sizeLine; decide) fun fa H16 s16 n16 h16 => ?_
    have S14 := s15.trans s16
    have S13 := s14.trans S14
    have S12 := s13.trans S13
    have N16 : Nms CF H16 [.ref x12, .ref x13, .ref x14, .int nu, .ref x11, .ref x2, .ref x1] :=
      .cons (n := .fl _) ⟨x12, rfl, h12.same S12, Arg.ok (.inl ⟨0, rfl, by decide, .inl rfl, by rw [red_zero]; decide, rfl⟩)⟩
      (.cons (n := .fl _) ⟨x13, rfl, h13.same S13, Arg.ok (.inl ⟨0, rfl, by decide, .inr rfl, by rw [red_zero]; decide, rfl⟩)⟩
      (.cons (n := .fl _) ⟨x14, rfl, h14.same S14, Arg.ok (.inl ⟨1, rfl, by decide, .inl rfl, red_fits (by decide) (by decide) (by decide) (by decide), rfl⟩)⟩
      ((N11.same s12).same S12)))
    have S11 := s12.trans S12
    have O16 := O11.same S11
    have w16 := w11.same S11
    have k16 := h11.same S11
    have ne16 := (((((w11.same s12).same s13).same s14).same s15)).ne n16
    clear S12 S13 S14 S11 s12 s13 s14 s15 h12 h13 h14 h15 h15f N11 O11 w11 h11 h11' s16 n15
    repeat walk_at "rd"
    refine w_I (cshl (i := 1) (j := 63) (by decide) (by decide) (by decide)) ?_
    rw [e63]
    repeat walk_at "rd"
    refine w_I (cshl (i := 1) (j := 63) (by decide) (by decide) (by decide)) ?_
    rw [e63]
    repeat walk_at "rd"
    refine w_lst4 fun a17 H17 s17 n17 h17 => ?_
    repeat walk_at "rd"
    refine u_one (w16.same s17) (by omega) h17 (w16.ne n17) (by decide) (by decide) fun v H18 hv o18 w18 => ?_
    have N18 := (N16.same s17).oth o18 (w16.same s17)
    have O18 := (O16.same s17).trans o18
    have h18 : H18 fa = _ := o18 _ _ ne16 (s17 _ _ h16)
    have k18 : FlAt CF H18 x11 f11 := by
      obtain ⟨dx, e⟩ := k16.same s17
      exact ⟨dx, o18 _ _ ne11 e⟩
    obtain ⟨st, rfl, st1, st2⟩ : ∃ st, v = .int st ∧ -600 ≤ st ∧ st ≤ 600 := by
      simp only [List.mem_cons, List.not_mem_nil, or_false] at hv
      rcases hv with rfl | rfl | rfl | rfl <;> exact ⟨_, rfl, by decide, by decide⟩
    repeat walk_at "rd"
    generalize hm1 : (if nu + st > -9223372036854775808 then nu + st else -9223372036854775808) = m1
    have b1 : -9223372036854775808 ≤ m1 := by rw [← hm1]; split <;> omega
    generalize hm2 : (if m1 < 9223372036854775808 - 1 then m1 else 9223372036854775808 - 1) = so
    have b2 : -9223372036854775808 ≤ so ∧ so ≤ 9223372036854775808 := by rw [← hm2]; split <;> omega
    have bso := bits64 b2.1 b2.2
    refine u_toF (by omega) fun x19 H19 f19 s19 n19 h19 k19 => ?_
    have N19 : Nms CF H19 _ := .cons (n := .fl f19) ⟨x19, rfl, h19, k19⟩ (N18.same s19)
    have k19' := k18.same s19
    obtain ⟨dx, k19e⟩ := id k19'
    repeat walk_at "rd"
    refine w_fldI k19e T.l_Float T.n_sign (flds_s _ _ _) ?_
    repeat walk_at "rd"
    refine w_fldI k19e T.l_Float T.n_top (flds_t _ _ _) ?_
    repeat walk_at "rd"
    refine w_fldI k19e T.l_Float T.n_power (flds_p _ _ _) ?_
    repeat walk_at "rd"
    obtain ⟨f20, ar⟩ := k11.again
    refine u_Float ar fun x20 H20 s20 n20 h20 => ?_
    repeat walk_at "rd"
    refine u_Float (.inr (.inr ⟨rfl, rfl, rfl, rfl⟩)) fun x21 H21 s21 n21 h21 => ?_
    repeat walk_at "rd"
    refine w_lst4 fun a22 H22 s22 n22 h22 => ?_
    repeat walk_at "rd"
    have S21 := s21.trans s22
    have S20 := s20.trans S21
    have S19 := s19.trans S20
    refine w_cat (S19 _ _ h18) h22 (by show 2 + 8 + 4 ≤ sizeLine; decide) fun l H23 s23 n23 h23 => ?_
    have S22 := s22.trans s23
    have S21 := s21.trans S22
    have S20 := s20.trans S21
    have S19 := s19.trans S20
    refine q l H23 _ (O18.same S19) ((w18.same S19).mono (by omega)) h23 ((w18.same (s19.trans (s20.trans (s21.trans s22)))).ne n23) (by show 14 ≤ 20; decide) ?_
    have M : ∀ v ∈ [V.ref x12, .ref x13, .ref x14, .int nu, .ref x11, .ref x2, .ref x1], ∃ n, NmAt CF H23 v n := N18.same S19
    have kt : ∀ i : Int, -9223372036854775808 ≤ i → i ≤ 9223372036854775808 → ∃ n, NmAt CF H23 (.int i) n := fun i a b => ⟨.int i, rfl, bits64 a b⟩
    intro v hv
    simp only [List.cons_append, List.nil_append, List.mem_cons, List.not_mem_nil, or_false] at hv
    rcases hv with rfl | rfl | rfl | rfl | rfl | rfl | rfl | rfl | rfl | rfl | rfl | rfl | rfl | rfl
    · exact M _ (by simp)
    · exact M _ (by simp)
    · exact M _ (by simp)
    · exact M _ (by simp)
    · exact M _ (by simp)
    · exact M _ (by simp)
    · exact kt _ (by decide) (by decide)
    · exact M _ (by simp)
    · exact kt _ (by decide) (by decide)
    · exact kt _ (by decide) (by decide)
    · exact kt _ b2.1 b2.2
    · exact ⟨.fl f19, x19, rfl, h19.same (s20.trans S21), k19⟩
    · exact ⟨.fl f20, x20, rfl, h20.same S21, ar.ok⟩
    · exact ⟨.fl .nan, x21, rfl, h21.same S22, trivial⟩
end
end Nu

set_option Elab.async false
set_option linter.all false
set_option maxRecDepth 100000
set_option autoImplicit false
set_option maxHeartbeats 4000000
namespace Nu
open PySem PySem.Spec PyProof.Rows L2 Rd
def xv (wd : Str) (t0 t1 f1 f0 : Addr) : Nat → V
  | 0 => .non
  | 1 => .bl true
  | 2 => .bl false
  | 3 => .int 0
  | 4 => .int 1
  | 5 => .ref f1
  | 6 => .ref f0
  | 7 => .str wd
  | 8 => .str (wd ++ "x")
  | 9 => .ref t0
  | _ => .ref t1
def nv : Nat → Option Nm
  | 3 => some (.int 0)
  | 4 => some (.int 1)
  | 5 => some (.fl (.fin 1 (red 1 0).1 (red 1 0).2))
  | 6 => some (.fl (.fin 1 (red 0 0).1 (red 0 0).2))
  | _ => none
def dueB (i k : Int) : Bool := decide (i = k) || ([PyData.tuple [.int 4, .int 5], .tuple [.int 3, .int 6]].any fun z => PyData.eqv z (.tuple [.int (if k < i then k else i), .int (if k > i then k else i)]))
def cls : Nat → Nat
  | 5 => 4
  | 6 => 3
  | n => n
theorem due_cls : ∀ i : Fin 11, ∀ k : Fin 11, dueB (i.1 : Int) (k.1 : Int) = decide (cls i.1 = cls k.1) := by decide +kernel
theorem num_cls : ∀ i : Fin 11, ∀ k : Fin 11, ∀ n m, nv i.1 = some n → nv k.1 = some m → decide (ordV n m = .int 0) = decide (cls i.1 = cls k.1) := by
  have h : ∀ i : Fin 11, ∀ k : Fin 11, (match nv i.1, nv k.1 with | some n, some m => decide (ordV n m = .int 0) | _, _ => decide (cls i.1 = cls k.1)) = decide (cls i.1 = cls k.1) := by decide +kernel
  intro i k n m e1 e2
  have := h i k
  rw [e1, e2] at this
  exact this
theorem mix_cls : ∀ i : Fin 11, ∀ k : Fin 11, (nv i.1).isSome ≠ (nv k.1).isSome → cls i.1 ≠ cls k.1 := by decide +kernel
theorem non_cls {wd : Str} {t0 t1 f1 f0 : Addr} (ht : t0 ≠ t1) (hw : ¬ wd = wd ++ "x") : ∀ i k : Nat, i < 11 → k < 11 → nv i = none → nv k = none → decide (xv wd t0 t1 f1 f0 i = xv wd t0 t1 f1 f0 k) = decide (cls i = cls k) := by
  have e1 : decide (V.str wd = V.str (wd ++ "x")) = false := decide_eq_false fun z => hw (V.str.inj z)
  have e2 : decide (V.str (wd ++ "x") = V.str wd) = false := decide_eq_false fun z => hw (V.str.inj z).symm
  have e3 : decide (V.ref t0 = V.ref t1) = false := decide_eq_false fun z => ht (V.ref.inj z)
  have e4 : decide (V.ref t1 = V.ref t0) = false := decide_eq_false fun z => ht (V.ref.inj z).symm
  have C : ∀ i, i < 11 → nv i = none → i = 0 ∨ i = 1 ∨ i = 2 ∨ i = 7 ∨ i = 8 ∨ i = 9 ∨ i = 10 := by
    intro i hi hn
    by_cases a : i = 3
    · subst a; cases hn
    by_cases b : i = 4
    · subst b; cases hn
    by_cases c : i = 5
    · subst c; cases hn
    by_cases d : i = 6
    · subst d; cases hn
    omega
  intro i k hi hk ni nk
  rcases C i hi ni with rfl | rfl | rfl | rfl | rfl | rfl | rfl <;> rcases C k hk nk with rfl | rfl | rfl | rfl | rfl | rfl | rfl <;>
    first
    | exact e1
    | exact e2
    | exact e3
    | exact e4
    | exact decide_eq_true rfl
    | exact decide_eq_false (fun z => nomatch z)
    | decide
theorem oth_ok {wd : Str} {t0 t1 f1 f0 : Addr} (ht : t0 ≠ t1) (hw : ¬ wd = wd ++ "x") {i k : Nat} (hi : i < 11) (hk : k < 11) : sameB (xv wd t0 t1 f1 f0 i) (xv wd t0 t1 f1 f0 k) (nv i) (nv k) = dueB i k := by
  rw [due_cls ⟨i, hi⟩ ⟨k, hk⟩]
  cases ei : nv i with
  | none =>
    cases ek : nv k with
    | none => exact non_cls ht hw i k hi hk ei ek
    | some m => exact (decide_eq_false (mix_cls ⟨i, hi⟩ ⟨k, hk⟩ (by rw [ei, ek]; intro z; cases z))).symm
  | some n =>
    cases ek : nv k with
    | none => exact (decide_eq_false (mix_cls ⟨i, hi⟩ ⟨k, hk⟩ (by rw [ei, ek]; intro z; cases z))).symm
    | some m => exact num_cls ⟨i, hi⟩ ⟨k, hk⟩ n m ei ek
theorem str_ne (wd : Str) : ¬ wd = wd ++ "x" := by
  intro h
  have := congrArg (fun s : Str => s.cps.size) h
  have e : (wd ++ ("x" : Str)).cps.size = wd.cps.size + ("x" : Str).cps.size := Array.size_append
  have e1 : ("x" : Str).cps.size = 1 := by decide +kernel
  change wd.cps.size = (wd ++ ("x" : Str)).cps.size at this
  omega
theorem xv_list {wd : Str} {t0 t1 f1 f0 : Addr} {i : Nat} {x : V} (h : [V.non, .bl true, .bl false, .int 0, .int 1, .ref f1, .ref f0, .str wd, .str (wd ++ "x"), .ref t0, .ref t1][i]? = some x) : i < 11 ∧ x = xv wd t0 t1 f1 f0 i := by
  have hi : i < 11 := (List.getElem?_eq_some_iff.mp h).1
  refine ⟨hi, ?_⟩
  match i, hi, h with
  | 0, _, h => cases h; rfl
  | 1, _, h => cases h; rfl
  | 2, _, h => cases h; rfl
  | 3, _, h => cases h; rfl
  | 4, _, h => cases h; rfl
  | 5, _, h => cases h; rfl
  | 6, _, h => cases h; rfl
  | 7, _, h => cases h; rfl
  | 8, _, h => cases h; rfl
  | 9, _, h => cases h; rfl
  | 10, _, h => cases h; rfl
end Nu

set_option Elab.async false
set_option linter.all false
set_option maxRecDepth 100000
set_option autoImplicit false
set_option maxHeartbeats 4000000
namespace Rd
open PySem PySem.Spec PyProof.Rows L2
theorem _root_.L2.Room.units65 {k : Nat} {A : Around} (r : Room k A) : A.units + 65 < cLine := by have := r.un; omega
/-- x in t, t a tuple of data of any depth -/
def rInDT (K : PySem.W.Frag) : R2 := fun x y H Q => ∃ d ds, Dp K H x d ∧ Dp K H y (.tuple ds) ∧ SeqAt.shaped d = true ∧ SeqAt.shaped (.tuple ds) = true ∧ Q (.bl (ds.any fun z => PyData.eqv z d)) H
theorem op_inDT {X : Cx} (hu : X.A.units + 65 < cLine) : OpR X (compareOp .In) (rInDT X.K) := by
  intro pins s σ H x y v u Q I rx ry h
  obtain ⟨d, ds, hd, he, sd, se, q⟩ := h
  obtain ⟨as, r1⟩ := Dp.reads I d x v hd rx
  obtain ⟨bs, r2⟩ := Dp.reads I (.tuple ds) y u he ry
  exact SeqAt.in_tuple_reads r2 r1 (SeqAt.canLay_of_shaped se) (SeqAt.canLay_of_shaped sd) (room_in_shaped sd hu) ⟨.bl _, H, I, rfl, q⟩
section
variable {σ : L2.St} {H : Hp} {K : PySem.W.Frag}
theorem w_iEnum {ta : TA} {R : It → Hp → Prop} (h : ta σ H fun vs H1 => ∃ a xs, vs = [.ref a] ∧ SqL K H1 a xs ∧ R (Ite K a) H1) : iEnum K ta σ H R := h
theorem w_iEnumI {a : Addr} {xs : List V} {R : Addr → Prop} (h : H a = some (.lst xs)) (q : R a) : ∃ a' xs, [V.ref a] = [V.ref a'] ∧ SqL K H a' xs ∧ R a' := ⟨a, xs, rfl, SqL.of h, q⟩
/-- a for over enumerate(list): the list stays, each turn a new pair -/
theorem for_enum {a : Addr} {xs : List V} {g : TG} {tb : TS} {D : Ends} (Pv : Nat → L2.St → Hp → Prop) (h0 : Pv 0 σ H) (hG : ∀ i σ H, i ≤ xs.length → Pv i σ H → H a = some (.lst xs))
    (hs : ∀ (i : Nat) x T σ H, i < xs.length → xs[i]? = some x → Pv i σ H → H T = none → g (.ref T) σ (upd H T (.tup [.int (i : Nat), x])) fun σ2 H2 => tb { D with nx := Pv (i + 1), ct := Pv (i + 1), bk := D.nx } σ2 H2) (hd : ∀ σ H, Pv xs.length σ H → D.nx σ H) :
    ∃ W : Nat → Nat → L2.St → Hp → Prop, (∃ m, W 0 m σ H) ∧ ∀ i m σ H, W i m σ H →
      ((Ite K a).stop i H ∧ D.nx σ H) ∨ ((Ite K a).go i H ∧ ∃ N : L2.St → Hp → Prop, (∀ σ' H', N σ' H' → ∃ m', m' < m ∧ W (i + 1) m' σ' H') ∧ ∀ x H', (Ite K a).yld i H x H' → g x σ H' fun σ2 H2 => tb { D with nx := N, ct := N, bk := D.nx } σ2 H2) :=
  for_it (walk_enum (K := K) (a := a) (xs := xs)) Pv h0 (fun i σ H hi p => SqL.of (hG i σ H hi p)) (fun i x σ H H' hi p y => by
    obtain ⟨T, x', y', rfl, hT, rfl, e1, e2⟩ := y
    cases e1
    exact hs i y' T σ H hi e2 p hT) hd
end
end Rd
namespace Nu
open PySem PySem.Spec PyProof.Rows L2 Rd
local macro_rules | `(tactic| walk_at "hp") => `(tactic| first | assumption | (refine same_get ?sm ?_; (case sm => assumption); walk_at "hp"))
local macro_rules | `(tactic| walk_at "rd") => `(tactic| first
  | with_reducible refine w_nx ?_
  | with_reducible refine w_rt ?_
  | with_reducible refine w_bk ?_
  | with_reducible refine w_ct ?_
  | with_reducible refine w_seq ?_
  | with_reducible refine w_next ?_
  | with_reducible refine w_ret ?_
  | with_reducible refine w_ifS ?_
  | with_reducible refine w_asg ?_
  | with_reducible refine w_name ?_
  | with_reducible refine w_par ?_
  | with_reducible refine w_parI ?_
  | with_reducible refine w_ii ?_
  | with_reducible refine w_i1 ?_
  | with_reducible refine w_drop ?_
  | with_reducible refine w_sFld ?_
  | ((with_reducible refine' w_var ?rdh ?_); (case rdh => exact rfl))
  | with_reducible refine w_c ?_
  | with_reducible refine w_op ?_
  | with_reducible refine w_un ?_
  | with_reducible refine w_I0 ?_
  | with_reducible refine w_U ?_
  | with_reducible refine w_bits ?_
  | with_reducible refine w_bitsI ?_
  | with_reducible refine w_tup ?_
  | with_reducible refine w_lst ?_
  | with_reducible refine w_nil ?_
  | with_reducible refine w_cons ?_
  | with_reducible refine w_fld ?_
  | with_reducible refine w_call ?_
  | with_reducible refine w_make ?_
  | with_reducible refine w_gsub ?_
  | with_reducible refine w_int1 ?_
  | with_reducible refine w_intB ?_
  | with_reducible refine w_for ?_
  | with_reducible refine w_rng1 ?_
  | with_reducible refine w_iList ?_
  | with_reducible refine w_iTup ?_
  | with_reducible refine w_makeD ?_
  | with_reducible refine w_nn ?_
  | with_reducible refine w_subB ?_
  | with_reducible refine w_meth ?_
  | with_reducible refine w_cb ?_
  | with_reducible refine w_test ?_
  | with_reducible refine w_B ?_
  | with_reducible refine w_bl ?_
  | with_reducible refine w_andV ?_
  | with_reducible refine w_orV ?_
  | with_reducible refine w_notV ?_
  | with_reducible refine w_and ?_
  | with_reducible refine w_or ?_
  | with_reducible refine w_not ?_
  | with_reducible refine w_if ?_
  | with_reducible refine w_gnil ?_
  | with_reducible refine w_gcons ?_
  | with_reducible refine iT ?_
  | with_reducible refine iF ?_
  | with_reducible refine w_eqI ?_
  | with_reducible refine w_neI ?_
  | with_reducible refine w_eqS ?_
  | with_reducible refine w_eqIS ?_
  | with_reducible refine w_eqSI ?_)

section
variable {P : Program} {w : World} {K : PySem.W.Frag} {mg : Str → Option Value} {base : Heap} {CF CT : Addr}
theorem Kd.same {H H' : Hp} {x : V} {n : Option Nm} (h : Kd K CF CT H x n) (s : Same H H') : Kd K CF CT H' x n := by
  cases h with
  | num h => exact .num (h.same s)
  | bl b => exact .bl b
  | str x => exact .str x
  | non => exact .non
  | tab h =>
    obtain ⟨a, dx, fs, e, k⟩ := h
    exact .tab ⟨a, dx, fs, e, s _ _ k⟩
def spOthers : Sp := fun vs H Q _ => ∃ (p : Addr) (n : Nat), vs = [.ref p] ∧ Well n H p ∧ n < 900000 ∧ ∀ H', Oth p H H' → Q (.bl true) H'
theorem sc_law_others_right : FnScope ["well", "tables", "word", "some", "at", "one", "k", "other", "due"] ["well"] (defScope s_law_others_right) := ⟨rfl, rfl, rfl, by decide +kernel, rfl, by decide +kernel, by decide +kernel⟩
theorem ok_others (T : AllM K mg CF CT) (k_law_one : Kn P w K mg base CX0 2 "_law_one" ["well", "some"] spOne) (k_Table_init : KnCD P w K mg base CX0 2 "Table" CT ["self", "number", "array", "nodes", "meta"] [.int 0, .int 0, .non] (spTab CT))
    (k_Float_init : KnC P w K mg base CX0 2 "Float" CF ["self", "sign", "top", "power"] (spInit CF)) (k_same : Kn P w K mg base CX0 4 "same" ["one", "other"] (spSame K CF CT)) :
    Kn P w K mg base CX0 5 "_law_others_right" ["well"] spOthers := by
  refine T.x_others.kn fun f fd F => ?_
  refine F.ok sc_law_others_right (fun vs H Q E h => ?_) (fun cdv A outer s H vs Q E hr h => ?_)
  · obtain ⟨p, n, rfl, _⟩ := h
    rfl
  · obtain ⟨p, n, rfl, hw, hn, q⟩ := h
    refine ⟨_, (pss_cons (ps_par (by rfl) sc_law_others_right.nd (i := 1) (j := 2) rfl rfl (by decide) rfl rfl (pa_cons (pe_lst (pa_cons (pkCD k_Table_init hr (pa_cons pe_int pa_nil)) (pa_cons (pkCD k_Table_init hr (pa_cons pe_int pa_nil)) pa_nil))) (pa_cons (pk k_law_one hr (pa_cons (pv 0) (pa_cons (pe_lst (pa_cons pe_str (pa_cons pe_str (pa_cons pe_str (pa_cons pe_str (pa_cons pe_str pa_nil)))))) pa_nil))) pa_nil)) (by rfl))
      (pss_cons (ps_set (i := 3) sc_law_others_right.nd rfl (Or.inl rfl) (pe_lst (pa_cons pe_non (pa_cons pe_bl (pa_cons pe_bl (pa_cons pe_int (pa_cons pe_int (pa_cons (pkC k_Float_init hr (pa_cons pe_int (pa_cons pe_int (pa_cons pe_int pa_nil)))) (pa_cons (pkC k_Float_init hr (pa_cons pe_int (pa_cons pe_int (pa_cons pe_int pa_nil)))) (pa_cons (pv 2) (pa_cons (pe_op op_add_str (pv 2) pe_str) (pa_cons (pe_ix ix_list (pv 1) pe_int (fun _ _ => rfl)) (pa_cons (pe_ix ix_list (pv 1) pe_int (fun _ _ => rfl)) pa_nil)))))))))))))
      (pss_cons (ps_for PassesOwn.never rfl (pi_enum rfl T.b_enumerate (pa_cons (pv 3) pa_nil)) (pg_tup (by rfl) (pgs_cons (pg_name (i := 4) sc_law_others_right.nd rfl (Or.inl rfl)) (pgs_cons (pg_name (i := 5) sc_law_others_right.nd rfl (Or.inl rfl)) pgs_nil)))
      (pss_one (ps_for PassesOwn.never rfl (pi_enum rfl T.b_enumerate (pa_cons (pv 3) pa_nil)) (pg_tup (by rfl) (pgs_cons (pg_name (i := 6) sc_law_others_right.nd rfl (Or.inl rfl)) (pgs_cons (pg_name (i := 7) sc_law_others_right.nd rfl (Or.inl rfl)) pgs_nil)))
      (pss_cons (ps_set (i := 8) sc_law_others_right.nd rfl (Or.inl rfl) (pe_or (pe_cmpR op_eq (pv 4) (pv 6) (nomark _)) (pe_one (pe_cmpR (op_inDT (show _ + 65 < cLine from hr.units65)) (pe_tup (pa_cons (pe_callB (call_min2 rfl) (by rfl) T.b_min boot_min (pa_cons (pv 4) (pa_cons (pv 6) pa_nil))) (pa_cons (pe_callB (call_max2 rfl) (by rfl) T.b_max boot_max (pa_cons (pv 4) (pa_cons (pv 6) pa_nil))) pa_nil))) (pe_tup (pa_cons (pe_tup (pa_cons pe_int (pa_cons pe_int pa_nil))) (pa_cons (pe_tup (pa_cons pe_int (pa_cons pe_int pa_nil))) pa_nil))) rfl))))
      (pss_one (ps_if (pt_cmpR op_ne (pk k_same hr (pa_cons (pv 5) (pa_cons (pv 7) pa_nil))) (pv 8) (nomark _)) (pss_one (ps_ret pe_bl)) pss_nil))))))
      (pss_one (ps_ret pe_bl))))), ?_⟩
    repeat walk_at "rd"
    refine u_Table fun t0 H1 s1 n1 i1 => ?_
    repeat walk_at "rd"
    refine u_Table fun t1 H2 s2 n2 i2 => ?_
    have w2 := (hw.same s1).same s2
    have ht : t0 ≠ t1 := by
      obtain ⟨a, dx, fs, e, k⟩ := i1
      cases e
      exact ne_of_none k n2
    repeat walk_at "rd"
    refine w_lst2 fun ta H3 s3 n3 h3 => ?_
    have w3 := w2.same s3
    have ne3 := w2.ne n3
    repeat walk_at "rd"
    refine w_lstI (by show 5 ≤ 1000; decide) fun a4 H4 s4 n4 h4 => ?_
    repeat walk_at "rd"
    refine u_one (w3.same s4) (by omega) h4 (w3.ne n4) (by decide) (by decide) fun v H5 hv o5 w5 => ?_
    obtain ⟨wd, rfl, hwd⟩ : ∃ wd, v = .str wd ∧ wd.length ≤ 10 := by
      simp only [List.mem_cons, List.not_mem_nil, or_false] at hv
      rcases hv with rfl | rfl | rfl | rfl | rfl <;> exact ⟨_, rfl, by decide +kernel⟩
    have S3 := (s2.trans s3).trans s4
    have j1 : InsV CT H5 (.ref t0) := by
      obtain ⟨a, dx, fs, e, k⟩ := i1
      cases e
      refine ⟨_, dx, fs, rfl, o5 _ _ ?_ (S3 _ _ k)⟩
      exact (hw.ne n1)
    have j2 : InsV CT H5 (.ref t1) := by
      obtain ⟨a, dx, fs, e, k⟩ := i2
      cases e
      refine ⟨_, dx, fs, rfl, o5 _ _ ?_ ((s3.trans s4) _ _ k)⟩
      exact ((hw.same s1).ne n2)
    have h5 : H5 ta = _ := o5 _ _ ne3 (s4 _ _ h3)
    have O5 := (Rd.Same.oth (x := p) ((s1.trans s2).trans (s3.trans s4))).trans o5
    repeat walk_at "rd"
    refine u_Float (.inl ⟨1, rfl, by decide, .inl rfl, red_fits (by decide) (by decide) (by decide) (by decide), rfl⟩) fun f1 H6 s6 n6 h6 => ?_
    repeat walk_at "rd"
    refine u_Float (.inl ⟨0, rfl, by decide, .inl rfl, by rw [red_zero]; decide, rfl⟩) fun f0 H7 s7 n7 h7 => ?_
    repeat walk_at "rd"
    refine ⟨wd, "x", rfl, rfl, Nat.le_trans (Nat.add_le_add_right hwd _) (by decide +kernel), ?_⟩
    repeat walk_at "rd"
    have S7 := s6.trans s7
    refine w_ixL (S7 _ _ h5) (v := .ref t0) rfl ?_
    repeat walk_at "rd"
    refine w_ixL (S7 _ _ h5) (v := .ref t1) rfl ?_
    repeat walk_at "rd"
    refine w_lstI (by show 11 ≤ 1000; decide) fun L H8 s8 n8 h8 => ?_
    have S8 := S7.trans s8
    have O8 := O5.same S8
    have kd : ∀ H', Same H8 H' → ∀ i, i < 11 → Kd K CF CT H' (xv wd t0 t1 f1 f0 i) (nv i) := by
      intro H' S i hi
      refine Kd.same ?_ S
      match i, hi with
      | 0, _ => exact .non
      | 1, _ => exact .bl _
      | 2, _ => exact .bl _
      | 3, _ => exact .num ⟨rfl, by decide⟩
      | 4, _ => exact .num ⟨rfl, by decide⟩
      | 5, _ => exact .num ⟨f1, rfl, h6.same (s7.trans s8), Arg.ok (.inl ⟨1, rfl, by decide, .inl rfl, red_fits (by decide) (by decide) (by decide) (by decide), rfl⟩)⟩
      | 6, _ => exact .num ⟨f0, rfl, h7.same s8, Arg.ok (.inl ⟨0, rfl, by decide, .inl rfl, by rw [red_zero]; decide, rfl⟩)⟩
      | 7, _ => exact .str _
      | 8, _ => exact .str _
      | 9, _ => exact (Kd.tab j1).same S8
      | 10, _ => exact (Kd.tab j2).same S8
    clear h6 h7 j1 j2 h5 s6 s7 s8 S7 S8 O5
    repeat walk_at "rd"
    refine w_iEnum ?_
    repeat walk_at "rd"
    refine w_iEnumI h8 ?_
    refine for_enum (fun _ σ H' => ∃ a b c d e, σ = [some (.ref p), some (.ref ta), some (.str wd), some (.ref L), a, b, c, d, e] ∧ Same H8 H') ⟨_, _, _, _, _, rfl, Same.refl _⟩ (fun i σ H' _ ⟨_, _, _, _, _, _, S⟩ => S _ _ h8) ?_ ?_
    · rintro i x T1 σ H9 hi hx ⟨a, b, c, d, e, rfl, S9⟩ hT1
      obtain ⟨hi, rfl⟩ := xv_list hx
      have S10 := S9.trans (same_upd (o := .tup [.int (i : Nat), xv wd t0 t1 f1 f0 i]) hT1)
      have h10 := upd_same (H := H9) (a := T1) (o := .tup [.int (i : Nat), xv wd t0 t1 f1 f0 i])
      generalize upd H9 T1 (.tup [.int (i : Nat), xv wd t0 t1 f1 f0 i]) = H10 at S10 h10 ⊢
      refine w_gtup h10 rfl ?_
      repeat walk_at "rd"
      refine w_iEnum ?_
      repeat walk_at "rd"
      refine w_iEnumI (S10 _ _ h8) ?_
      refine for_enum (fun _ σ H' => ∃ c d e, σ = [some (.ref p), some (.ref ta), some (.str wd), some (.ref L), some (.int (i : Nat)), some (xv wd t0 t1 f1 f0 i), c, d, e] ∧ Same H8 H') ⟨_, _, _, rfl, S10⟩ (fun i σ H' _ ⟨_, _, _, _, S⟩ => S _ _ h8) ?_ ?_
      · rintro k y T2 σ H11 hk hy ⟨c, d, e, rfl, S11⟩ hT2
        obtain ⟨hk, rfl⟩ := xv_list hy
        have S12 := S11.trans (same_upd (o := .tup [.int (k : Nat), xv wd t0 t1 f1 f0 k]) hT2)
        have h12 := upd_same (H := H11) (a := T2) (o := .tup [.int (k : Nat), xv wd t0 t1 f1 f0 k])
        generalize upd H11 T2 (.tup [.int (k : Nat), xv wd t0 t1 f1 f0 k]) = H12 at S12 h12 ⊢
        refine w_gtup h12 rfl ?_
        repeat walk_at "rd"
        have ok := oth_ok (f1 := f1) (f0 := f0) ht (str_ne wd) hi hk
        refine iD (fun z => ?_) (fun z => ?_)
        · have eb : dueB (i : Nat) (k : Nat) = true := by
            unfold dueB
            rw [decide_eq_true z, Bool.true_or]
          repeat walk_at "rd"
          refine ⟨_, _, _, _, rfl, kd _ S12 i hi, kd _ S12 k hk, fun H2 S2 => ?_⟩
          rw [ok, eb]
          repeat walk_at "rd"
          refine w_ne rfl ?_
          repeat walk_at "rd"
          refine iN (fun z => absurd rfl z) (fun _ => ?_)
          repeat walk_at "rd"
          exact ⟨_, _, _, rfl, S12.trans S2⟩
        · have eb : dueB (i : Nat) (k : Nat) = ([PyData.tuple [.int 4, .int 5], .tuple [.int 3, .int 6]].any fun z => PyData.eqv z (.tuple [.int (if (k : Int) < i then k else i), .int (if (k : Int) > i then k else i)])) := by
            unfold dueB
            rw [decide_eq_false z, Bool.false_or]
          repeat walk_at "rd"
          refine w_tup2 fun b1 I1 t1 m1 g1 => ?_
          repeat walk_at "rd"
          refine w_tup2 fun b2 I2 t2 m2 g2 => ?_
          repeat walk_at "rd"
          refine w_tup2 fun b3 I3 t3 m3 g3 => ?_
          repeat walk_at "rd"
          refine w_tup2 fun b4 I4 t4 m4 g4 => ?_
          have r3 := t4 _ _ g3
          have r2 := (t3.trans t4) _ _ g2
          have r1 := (t2.trans (t3.trans t4)) _ _ g1
          have U := S12.trans (t1.trans (t2.trans (t3.trans t4)))
          refine ⟨.tuple [.int _, .int _], [.tuple [.int 4, .int 5], .tuple [.int 3, .int 6]], .tup (SqT.of r1) (.cons (.int _) (.cons (.int _) .nil)), .tup (SqT.of g4) (.cons (.tup (SqT.of r2) (.cons (.int _) (.cons (.int _) .nil))) (.cons (.tup (SqT.of r3) (.cons (.int _) (.cons (.int _) .nil))) .nil)), rfl, rfl, ?_⟩
          rw [← eb]
          repeat walk_at "rd"
          refine ⟨_, _, _, _, rfl, kd _ U i hi, kd _ U k hk, fun H2 S2 => ?_⟩
          rw [ok]
          repeat walk_at "rd"
          refine w_ne rfl ?_
          repeat walk_at "rd"
          refine iN (fun z => absurd rfl z) (fun _ => ?_)
          repeat walk_at "rd"
          exact ⟨_, _, _, rfl, U.trans S2⟩
      · rintro σ H' ⟨c, d, e, rfl, S⟩
        exact ⟨_, _, _, _, _, rfl, S⟩
    · rintro σ H' ⟨a, b, c, d, e, rfl, S⟩
      repeat walk_at "rd"
      exact q H' (O8.same S)
end
end Nu

set_option Elab.async false
set_option linter.all false
set_option maxRecDepth 100000
set_option autoImplicit false
set_option maxHeartbeats 4000000
namespace Rd
open PySem PySem.Spec PyProof.Rows L2
/-- list + list, each as it stands, ours or the document's -/
def rCatS (K : PySem.W.Frag) : R2 := fun x y H Q => ∃ l b xs zs, x = .ref l ∧ y = .ref b ∧ SqL K H l xs ∧ SqL K H b zs ∧ xs.length + zs.length ≤ sizeLine ∧ ∀ p, H p = none → Q (.ref p) (upd H p (.lst (xs ++ zs)))
theorem op_catS {X : Cx} : OpR X (binaryOp .Add) (rCatS X.K) := by
  intro pins s σ H x y v u Q I rx ry h
  obtain ⟨l, b, xs, zs, rfl, rfl, hH, hB, hz, q⟩ := h
  cases rx
  cases ry
  obtain ⟨its, r, e, z⟩ := I.list hH
  obtain ⟨its2, r2, e2, z2⟩ := I.list hB
  have l1 := r.length
  have l2 := r2.length
  obtain ⟨⟨cls, dd, data, sl⟩, n, ho, hc, hd, hda⟩ := e
  obtain ⟨⟨cls2, dd2, data2, sl2⟩, n2, ho2, hc2, hd2, hda2⟩ := e2
  simp only at hc hd hda hc2 hd2 hda2
  subst hc hd hda hc2 hd2 hda2
  have ea : its.toArray ++ its2.toArray = (its ++ its2).toArray := by simp
  refine concat_meets ⟨_, ho, rfl⟩ ⟨_, ho2, rfl⟩ noFill_list_add seq_list_add PySem.F.slot_list_add PySem.F.entry_list_add (PySem.F.args_list_add_2 _ _) (list_addW l b its.toArray its2.toArray n n2 none none sl sl2 (by rw [List.size_toArray, List.size_toArray]; omega)) ⟨ho, ho2, ?_⟩
  rw [ea]
  exact ⟨.ref _, _, I.lnew (t' := s.toks) (r.append r2) (by rw [List.length_append]; omega), rfl, q _ I.fresh⟩
section
variable {σ : L2.St} {H : Hp} {Q : VK} {K : PySem.W.Frag}
theorem w_catS {l b : Addr} {xs zs : List V} (h : SqL K H l xs) (h' : H b = some (.lst zs)) (hz : xs.length + zs.length ≤ sizeLine) (q : ∀ p H', Same H H' → H p = none → H' p = some (.lst (xs ++ zs)) → Q (.ref p) H') : rCatS K (.ref l) (.ref b) H Q :=
  ⟨l, b, xs, zs, rfl, rfl, h, SqL.of h', hz, fun p hp => q p _ (same_upd hp) hp upd_same⟩
theorem w_sl {r : V → Option Int → Option Int → Hp → VK → Prop} {te : TE} {tl th : TO} (h : te σ H fun x H1 => tl σ H1 fun l H2 => th σ H2 fun u H3 => r x l u H3 Q) : tSl r te tl th σ H Q := h
theorem w_slL {a : Addr} {xs : List V} {lo hi : Option Int} (h : H a = some (.lst xs)) (q : ∀ p H', Same H H' → H p = none → H' p = some (.lst (cutV xs lo hi)) → Q (.ref p) H') : rSlL K (.ref a) lo hi H Q :=
  ⟨a, xs, rfl, SqL.of h, fun p hp => q p _ (same_upd hp) hp upd_same⟩
theorem w_noPart {Q : Option Int → Hp → Prop} (q : Q none H) : tNoPart σ H Q := q
theorem w_part {te : TE} {Q : Option Int → Hp → Prop} (h : te σ H fun x H' => ∃ i, x = .int i ∧ Q (some i) H') : tPart te σ H Q := h
theorem w_partI {R : Int → Prop} {i : Int} (h : R i) : ∃ j, V.int i = .int j ∧ R j := ⟨i, rfl, h⟩
theorem _root_.L2.SqL.same {a : Addr} {xs : List V} {H' : Hp} (h : SqL K H a xs) (s : Same H H') : SqL K H' a xs := by
  rcases h with h | h
  · rcases h with h | ⟨o, h⟩
    · exact .inl (.inl (s _ _ h))
    · exact .inl (.inr ⟨o, s _ _ h⟩)
  · exact .inr h
theorem cut_mem {xs : List V} {lo hi : Option Int} {x : V} (h : x ∈ cutV xs lo hi) : x ∈ xs := List.mem_of_mem_drop (List.mem_of_mem_take h)
end
end Rd
namespace Nu
open PySem PySem.Spec PyProof.Rows L2 Rd
local macro_rules | `(tactic| walk_at "hp") => `(tactic| first | assumption | (refine same_get ?sm ?_; (case sm => assumption); walk_at "hp"))
local macro_rules | `(tactic| walk_at "rd") => `(tactic| first
  | with_reducible refine w_nx ?_
  | with_reducible refine w_rt ?_
  | with_reducible refine w_bk ?_
  | with_reducible refine w_ct ?_
  | with_reducible refine w_seq ?_
  | with_reducible refine w_next ?_
  | with_reducible refine w_ret ?_
  | with_reducible refine w_ifS ?_
  | with_reducible refine w_asg ?_
  | with_reducible refine w_name ?_
  | with_reducible refine w_par ?_
  | with_reducible refine w_parI ?_
  | with_reducible refine w_ii ?_
  | with_reducible refine w_i1 ?_
  | with_reducible refine w_drop ?_
  | with_reducible refine w_sFld ?_
  | ((with_reducible refine' w_var ?rdh ?_); (case rdh => exact rfl))
  | with_reducible refine w_c ?_
  | with_reducible refine w_op ?_
  | with_reducible refine w_un ?_
  | with_reducible refine w_I0 ?_
  | with_reducible refine w_U ?_
  | with_reducible refine w_bits ?_
  | with_reducible refine w_bitsI ?_
  | with_reducible refine w_tup ?_
  | with_reducible refine w_lst ?_
  | with_reducible refine w_nil ?_
  | with_reducible refine w_cons ?_
  | with_reducible refine w_fld ?_
  | with_reducible refine w_call ?_
  | with_reducible refine w_make ?_
  | with_reducible refine w_gsub ?_
  | with_reducible refine w_int1 ?_
  | with_reducible refine w_intB ?_
  | with_reducible refine w_for ?_
  | with_reducible refine w_rng1 ?_
  | with_reducible refine w_iList ?_
  | with_reducible refine w_iTup ?_
  | with_reducible refine w_makeD ?_
  | with_reducible refine w_nn ?_
  | with_reducible refine w_subB ?_
  | with_reducible refine w_meth ?_
  | with_reducible refine w_cb ?_
  | with_reducible refine w_test ?_
  | with_reducible refine w_B ?_
  | with_reducible refine w_bl ?_
  | with_reducible refine w_andV ?_
  | with_reducible refine w_orV ?_
  | with_reducible refine w_notV ?_
  | with_reducible refine w_and ?_
  | with_reducible refine w_or ?_
  | with_reducible refine w_not ?_
  | with_reducible refine w_if ?_
  | with_reducible refine w_gnil ?_
  | with_reducible refine w_gcons ?_
  | with_reducible refine iT ?_
  | with_reducible refine iF ?_
  | with_reducible refine w_eqI ?_
  | with_reducible refine w_neI ?_
  | with_reducible refine w_eqS ?_
  | with_reducible refine w_eqIS ?_
  | with_reducible refine w_eqSI ?_)

section
variable {P : Program} {w : World} {K : PySem.W.Frag} {mg : Str → Option Value} {base : Heap} {CF CT : Addr}
def spLaw (K : PySem.W.Frag) : Sp := fun vs H Q _ => ∃ (a : Addr) (ns : List Int), vs = [.ref a] ∧ SqL K H a (ns.map V.int) ∧ ns.length ≤ 63 ∧ (∀ z ∈ ns, bits z ≤ 1048576) ∧ ∀ H', Q (.bl true) H'
theorem sc_law : FnScope ["script", "cell", "well", "some", "one", "other"] ["script"] (defScope s_law) := ⟨rfl, rfl, rfl, by decide +kernel, rfl, by decide +kernel, by decide +kernel⟩
theorem ok_law (T : AllM K mg CF CT) (k_law_well : Kn P w K mg base CX0 1 "_law_well" ["cell"] spWell) (k_law_numbers : Kn P w K mg base CX0 7 "_law_numbers" ["well"] (spNums CF)) (k_law_right : Kn P w K mg base CX0 5 "_law_right" ["one", "other"] (spRight CF))
    (k_law_others_right : Kn P w K mg base CX0 5 "_law_others_right" ["well"] spOthers) {f : Addr} {fd : FuncData} (F : Fun K "law" "law" s_law f fd) : FnOk P w K mg base CX0 8 f fd ["script"] (spLaw K) := by
  refine F.ok sc_law (fun vs H Q E h => ?_) (fun cdv A outer s H vs Q E hr h => ?_)
  · obtain ⟨a, ns, rfl, _⟩ := h
    rfl
  · obtain ⟨a, ns, rfl, hS, hl, hb, q⟩ := h
    refine ⟨_, (pss_cons (ps_for PassesOwn.never rfl (pi_list (pe_slice sl_list (pe_op op_catS (pv 0) (pe_lst (pa_cons pe_int pa_nil))) po_none (po_some pe_int))) (pg_name (i := 1) sc_law.nd rfl (Or.inl rfl))
      (pss_cons (ps_set (i := 2) sc_law.nd rfl (Or.inl rfl) (pk k_law_well hr (pa_cons (pv 1) pa_nil)))
      (pss_cons (ps_set (i := 3) sc_law.nd rfl (Or.inl rfl) (pk k_law_numbers hr (pa_cons (pv 2) pa_nil)))
      (pss_cons (ps_for PassesOwn.never rfl (pi_list (pv 3)) (pg_name (i := 4) sc_law.nd rfl (Or.inl rfl))
      (pss_one (ps_for PassesOwn.never rfl (pi_list (pv 3)) (pg_name (i := 5) sc_law.nd rfl (Or.inl rfl))
      (pss_one (ps_if (pt_not (pt_val (pk k_law_right hr (pa_cons (pv 4) (pa_cons (pv 5) pa_nil))))) (pss_one (ps_ret pe_bl)) pss_nil)))))
      (pss_one (ps_if (pt_not (pt_val (pk k_law_others_right hr (pa_cons (pv 2) pa_nil)))) (pss_one (ps_ret pe_bl)) pss_nil))))))
      (pss_one (ps_ret pe_bl))), ?_⟩
    repeat walk_at "rd"
    refine w_sl ?_
    repeat walk_at "rd"
    refine w_lst1 fun b1 H1 s1 n1 h1 => ?_
    refine w_catS (hS.same s1) h1 (by rw [List.length_map]; exact Nat.le_trans (Nat.add_le_add_right hl _) (by show 63 + 1 ≤ sizeLine; decide)) fun b2 H2 s2 n2 h2 => ?_
    refine w_noPart ?_
    refine w_part ?_
    repeat walk_at "rd"
    refine w_slL h2 fun L H3 s3 n3 h3 => ?_
    refine w_iListI h3 ?_
    have hx : ∀ x ∈ cutV (ns.map V.int ++ [V.int 0]) none (some 8), ∃ z, x = .int z ∧ bits z ≤ 1048576 := by
      intro x hx
      have := cut_mem hx
      simp only [List.mem_append, List.mem_map, List.mem_cons, List.not_mem_nil, or_false] at this
      rcases this with ⟨z, hz, rfl⟩ | rfl
      · exact ⟨z, rfl, hb z hz⟩
      · exact ⟨0, rfl, by decide⟩
    generalize cutV (ns.map V.int ++ [V.int 0]) none (some 8) = xs at h3 hx
    refine for_list (xs := xs) (fun _ σ H' => ∃ c w s o t, σ = [some (.ref a), c, w, s, o, t] ∧ H' L = some (.lst xs)) ⟨_, _, _, _, _, rfl, h3⟩ (fun i σ H' _ ⟨_, _, _, _, _, _, h⟩ => SqL.of h) ?_ ?_
    · rintro i x σ H4 hi ⟨c, w1, s4, o4, t4, rfl, h4⟩
      obtain ⟨z, rfl, hz⟩ := hx x (List.mem_of_getElem? hi)
      repeat walk_at "rd"
      refine ⟨z, rfl, hz, fun p H5 s5 n5 w5 => ?_⟩
      have neL : L ≠ p := ne_of_none h4 n5
      have h5 := s5 _ _ h4
      repeat walk_at "rd"
      refine ⟨p, 0, rfl, w5, by decide, fun l H6 vs o6 w6 h6 nel hlen N6 => ?_⟩
      have h6L : H6 L = _ := o6 _ _ neL h5
      repeat walk_at "rd"
      refine w_iListI h6 ?_
      refine for_list (xs := vs) (fun _ σ H' => ∃ o t, σ = [some (.ref a), some (.int z), some (.ref p), some (.ref l), o, t] ∧ Same H6 H') ⟨_, _, rfl, Same.refl _⟩ (fun i σ H' _ ⟨_, _, _, S⟩ => SqL.of (S _ _ h6)) ?_ ?_
      · rintro i1 x σ H7 hi1 ⟨o7, t7, rfl, S7⟩
        obtain ⟨n, hn⟩ := N6 x (List.mem_of_getElem? hi1)
        repeat walk_at "rd"
        refine w_iListI (S7 _ _ h6) ?_
        refine for_list (xs := vs) (fun _ σ H' => ∃ t, σ = [some (.ref a), some (.int z), some (.ref p), some (.ref l), some x, t] ∧ Same H6 H') ⟨_, rfl, S7⟩ (fun i σ H' _ ⟨_, _, S⟩ => SqL.of (S _ _ h6)) ?_ ?_
        · rintro i2 y σ H8 hi2 ⟨t8, rfl, S8⟩
          obtain ⟨m, hm⟩ := N6 y (List.mem_of_getElem? hi2)
          repeat walk_at "rd"
          refine ⟨x, y, n, m, rfl, hn.same S8, hm.same S8, fun H9 S9 => ?_⟩
          repeat walk_at "rd"
          refine iF ?_
          repeat walk_at "rd"
          exact ⟨_, rfl, S8.trans S9⟩
        · rintro σ H8 ⟨t8, rfl, S8⟩
          exact ⟨_, _, rfl, S8⟩
      · rintro σ H7 ⟨o7, t7, rfl, S7⟩
        repeat walk_at "rd"
        refine ⟨p, _, rfl, w6.same S7, by decide, fun H8 o8 => ?_⟩
        repeat walk_at "rd"
        refine iF ?_
        repeat walk_at "rd"
        exact ⟨_, _, _, _, _, rfl, o8 _ _ neL (S7 _ _ h6L)⟩
    · rintro σ H4 ⟨c, w1, s4, o4, t4, rfl, h4⟩
      repeat walk_at "rd"
      exact q H4
end
end Nu

set_option Elab.async false
set_option linter.all false
set_option maxRecDepth 100000
set_option autoImplicit false
set_option maxHeartbeats 4000000
namespace Nu
open PySem PySem.Spec PyProof.Rows L2 Rd
theorem ok_all {P : Program} {w : World} {K : PySem.W.Frag} {mg : Str → Option Value} {base : Heap} {CF CT : Addr} (T : AllM K mg CF CT) {f : Addr} {fd : FuncData} (F : Fun K "law" "law" s_law f fd) : FnOk P w K mg base CX0 20 f fd ["script"] (spLaw K) := by
  have A := T.toAll
  have k1 := ok_is_plain (P := P) (w := w) (base := base) A
  have k2 := ok_reduced (P := P) (w := w) (base := base) A
  have k3 := ok_fits (P := P) (w := w) (base := base) A
  have k4 := ok_sign_of (P := P) (w := w) (base := base) A
  have k5 := ok_init (P := P) (w := w) (base := base) A k1 k2 k3
  have k6 := ok_infinity (P := P) (w := w) (base := base) A k5
  have k7 := ok_nearest (P := P) (w := w) (base := base) A k5 k6
  have k8 := ok_is_finite (P := P) (w := w) (base := base) A
  have k9 := ok_ratio (P := P) (w := w) (base := base) A
  have k10 := ok_is_number (P := P) (w := w) (base := base) A k1
  have k11 := ok_to_float (P := P) (w := w) (base := base) A k4 k7
  have k12 := ok_place (P := P) (w := w) (base := base) A k8 k9
  have k13 := ok_order (P := P) (w := w) (base := base) A k12
  have k14 := ok_compare (P := P) (w := w) (base := base) A k13
  have k15 := ok_same (P := P) (w := w) (base := base) T.toAllT k10 k13
  have k16 := ok_power_for (P := P) (w := w) (base := base) T.toAllT
  have k17 := ok_Table (P := P) (w := w) (base := base) T.toAllT k16
  have k18 := ok_well (P := P) (w := w) (base := base) T.toAllL
  have k19 := ok_draw (P := P) (w := w) (base := base) T.toAllL
  have k20 := ok_one (P := P) (w := w) (base := base) T.toAllL k19
  have k21 := ok_great (P := P) (w := w) (base := base) T.toAllL k19
  have k22 := ok_finite (P := P) (w := w) (base := base) T k19 k20 k21
  have k23 := ok_float (P := P) (w := w) (base := base) T k19 k20 k22 k5
  have k24 := ok_fraction (P := P) (w := w) (base := base) T
  have k25 := ok_right (P := P) (w := w) (base := base) T k24 k14 k15
  have k26 := ok_numbers (P := P) (w := w) (base := base) T k19 k20 k21 k23 k11 k5
  have k27 := ok_others (P := P) (w := w) (base := base) T k20 k17 k5 k15
  exact (ok_law T k18 k26 k25 k27 F).mono (by decide)
theorem fin_mk {l : PySem.W.OpenLaw} {w : World} {K : PySem.W.Frag} {h : Heap} {mg : Str → Option Value} {fa : Addr} (X : K.In h) (G : h.Ns mainGlobals mg) (hfa : mg "law" = some (.ref fa))
    {t_LEAST : Tok}
    {t_MOST : Tok}
    {t_ROOM : Tok}
    {t_LOWEST : Tok}
    {t_TOO_GREAT : Tok}
    {CF : Addr}
    {CT : Addr}
    {f1 : Addr} {od1 an1 : Option Addr} {sl1 : Array (Option Value)} {oc1 dc1 pm1 cd1 ct1 kV1 : Value}
    {f2 : Addr} {od2 an2 : Option Addr} {sl2 : Array (Option Value)} {oc2 dc2 pm2 cd2 ct2 kV2 : Value}
    {f3 : Addr} {od3 an3 : Option Addr} {sl3 : Array (Option Value)} {oc3 dc3 pm3 cd3 ct3 kV3 : Value}
    {f4 : Addr} {od4 an4 : Option Addr} {sl4 : Array (Option Value)} {oc4 dc4 pm4 cd4 ct4 kV4 : Value}
    {f5 : Addr} {od5 an5 : Option Addr} {sl5 : Array (Option Value)} {oc5 dc5 pm5 cd5 ct5 kV5 : Value}
    {f6 : Addr} {od6 an6 : Option Addr} {sl6 : Array (Option Value)} {oc6 dc6 pm6 cd6 ct6 kV6 : Value}
    {f7 : Addr} {od7 an7 : Option Addr} {sl7 : Array (Option Value)} {oc7 dc7 pm7 cd7 ct7 kV7 : Value}
    {f8 : Addr} {od8 an8 : Option Addr} {sl8 : Array (Option Value)} {oc8 dc8 pm8 cd8 ct8 kV8 : Value}
    {f9 : Addr} {od9 an9 : Option Addr} {sl9 : Array (Option Value)} {oc9 dc9 pm9 cd9 ct9 kV9 : Value}
    {f10 : Addr} {od10 an10 : Option Addr} {sl10 : Array (Option Value)} {oc10 dc10 pm10 cd10 ct10 kV10 : Value}
    {f11 : Addr} {od11 an11 : Option Addr} {sl11 : Array (Option Value)} {oc11 dc11 pm11 cd11 ct11 kV11 : Value}
    {f12 : Addr} {od12 an12 : Option Addr} {sl12 : Array (Option Value)} {oc12 dc12 pm12 cd12 ct12 kV12 : Value}
    {f13 : Addr} {od13 an13 : Option Addr} {sl13 : Array (Option Value)} {oc13 dc13 pm13 cd13 ct13 kV13 : Value}
    {f14 : Addr} {od14 an14 : Option Addr} {sl14 : Array (Option Value)} {oc14 dc14 pm14 cd14 ct14 kV14 : Value}
    {f15 : Addr} {od15 an15 : Option Addr} {sl15 : Array (Option Value)} {oc15 dc15 pm15 cd15 ct15 kV15 : Value}
    {f16 : Addr} {od16 an16 : Option Addr} {sl16 : Array (Option Value)} {oc16 dc16 pm16 cd16 ct16 kV16 : Value}
    {f17 : Addr} {od17 an17 : Option Addr} {sl17 : Array (Option Value)} {oc17 dc17 pm17 cd17 ct17 kV17 : Value}
    {f18 : Addr} {od18 an18 : Option Addr} {sl18 : Array (Option Value)} {oc18 dc18 pm18 cd18 ct18 kV18 : Value}
    {f19 : Addr} {od19 an19 : Option Addr} {sl19 : Array (Option Value)} {oc19 dc19 pm19 cd19 ct19 kV19 : Value}
    {f20 : Addr} {od20 an20 : Option Addr} {sl20 : Array (Option Value)} {oc20 dc20 pm20 cd20 ct20 kV20 : Value}
    {f21 : Addr} {od21 an21 : Option Addr} {sl21 : Array (Option Value)} {oc21 dc21 pm21 cd21 ct21 kV21 : Value}
    {f22 : Addr} {od22 an22 : Option Addr} {sl22 : Array (Option Value)} {oc22 dc22 pm22 cd22 ct22 kV22 : Value}
    {f23 : Addr} {od23 an23 : Option Addr} {sl23 : Array (Option Value)} {oc23 dc23 pm23 cd23 ct23 kV23 : Value}
    {f24 : Addr} {od24 an24 : Option Addr} {sl24 : Array (Option Value)} {oc24 dc24 pm24 cd24 ct24 kV24 : Value}
    {f25 : Addr} {od25 an25 : Option Addr} {sl25 : Array (Option Value)} {oc25 dc25 pm25 cd25 ct25 kV25 : Value}
    {f26 : Addr} {od26 an26 : Option Addr} {sl26 : Array (Option Value)} {oc26 dc26 pm26 cd26 ct26 kV26 : Value}
    {f27 : Addr} {od27 an27 : Option Addr} {sl27 : Array (Option Value)} {oc27 dc27 pm27 cd27 ct27 kV27 : Value}
    {f99 : Addr} {od99 an99 : Option Addr} {sl99 : Array (Option Value)} {oc99 dc99 pm99 cd99 ct99 : Value} {TD KD : Addr} {ocD : Value} {odD : Option Addr} {slD : Array (Option Value)} {tD1 tD2 : Tok} {nD : Nat}
    
    (b_isinstance : PySem.W.nsIn K mainGlobals "isinstance" = some none)
    (b_int : PySem.W.nsIn K mainGlobals "int" = some none)
    (b_str : PySem.W.nsIn K mainGlobals "str" = some none)
    (b_bool : PySem.W.nsIn K mainGlobals "bool" = some none)
    (b_abs : PySem.W.nsIn K mainGlobals "abs" = some none)
    (b_max : PySem.W.nsIn K mainGlobals "max" = some none)
    (b_min : PySem.W.nsIn K mainGlobals "min" = some none)
    (b_divmod : PySem.W.nsIn K mainGlobals "divmod" = some none)
    (b_len : PySem.W.nsIn K mainGlobals "len" = some none)
    (b_range : PySem.W.nsIn K mainGlobals "range" = some none)
    (b_enumerate : PySem.W.nsIn K mainGlobals "enumerate" = some none)
    (c_LEAST : PySem.W.nsIn K mainGlobals "LEAST" = some (some (.int (-9223372036854775808) t_LEAST)))
    (c_MOST : PySem.W.nsIn K mainGlobals "MOST" = some (some (.int (9223372036854775807) t_MOST)))
    (c_ROOM : PySem.W.nsIn K mainGlobals "ROOM" = some (some (.int (9007199254740992) t_ROOM)))
    (c_LOWEST : PySem.W.nsIn K mainGlobals "LOWEST" = some (some (.int (-1074) t_LOWEST)))
    (c_TOO_GREAT : PySem.W.nsIn K mainGlobals "TOO_GREAT" = some (some (.int (1024) t_TOO_GREAT)))
    (g_Float : PySem.W.nsIn K mainGlobals "Float" = some (some (.ref CF)))
    (pg_Float : PySem.W.plainGet K CF Str.empty = true)
    (hd_Float : PySem.W.hasDictIn K CF = true)
    (po_Float : PySem.W.plainOver K CF = true)
    (sa_Float : PySem.W.findIn K (.ref CF) "__setattr__" = some (some (.builtin "object.__setattr__")))
    (yc_Float : PySem.W.findIn K (.ref CF) "__class__" = some (some (.builtin "object.__class__")))
    (ym_Float : PySem.W.mroIn K CF (.type "object") = some true)
    (n_sign : PySem.W.findIn K (.ref CF) "sign" = some none)
    (n_top : PySem.W.findIn K (.ref CF) "top" = some none)
    (n_power : PySem.W.findIn K (.ref CF) "power" = some none)
    (i_Fint : PySem.W.kitOne K (.ref CF) (.type "int") = some false)
    (i_Fbool : PySem.W.kitOne K (.ref CF) (.type "bool") = some false)
    (i_Fstr : PySem.W.kitOne K (.ref CF) (.type "str") = some false)
    (i_intF : PySem.W.kitOne K (.type "int") (.ref CF) = some false)
    (i_boolF : PySem.W.kitOne K (.type "bool") (.ref CF) = some false)
    (i_strF : PySem.W.kitOne K (.type "str") (.ref CF) = some false)
    (i_nonF : PySem.W.kitOne K (.type "NoneType") (.ref CF) = some false)
    (mk_Float : PySem.W.makesIn K CF = true)
    (kc_Float : PySem.W.keepIn K (.ref CF) = true)
    (g_Table : PySem.W.nsIn K mainGlobals "Table" = some (some (.ref CT)))
    (pg_Table : PySem.W.plainGet K CT Str.empty = true)
    (hd_Table : PySem.W.hasDictIn K CT = true)
    (po_Table : PySem.W.plainOver K CT = true)
    (sa_Table : PySem.W.findIn K (.ref CT) "__setattr__" = some (some (.builtin "object.__setattr__")))
    (yc_Table : PySem.W.findIn K (.ref CT) "__class__" = some (some (.builtin "object.__class__")))
    (ym_Table : PySem.W.mroIn K CT (.type "object") = some true)
    (n_number : PySem.W.findIn K (.ref CT) "number" = some none)
    (n_meta : PySem.W.findIn K (.ref CT) "meta" = some none)
    (n_array : PySem.W.findIn K (.ref CT) "array" = some none)
    (n_nodes : PySem.W.findIn K (.ref CT) "nodes" = some none)
    (n_free : PySem.W.findIn K (.ref CT) "free" = some none)
    (i_Tint : PySem.W.kitOne K (.ref CT) (.type "int") = some false)
    (i_Tbool : PySem.W.kitOne K (.ref CT) (.type "bool") = some false)
    (i_Tstr : PySem.W.kitOne K (.ref CT) (.type "str") = some false)
    (i_TF : PySem.W.kitOne K (.ref CT) (.ref CF) = some false)
    (mk_Table : PySem.W.makesIn K CT = true)
    (kc_Table : PySem.W.keepIn K (.ref CT) = true)
    (y_spec : PySem.W.specialIn K (.builtin "object.__class__") "__get__" = some (some (.builtin "getset_descriptor.__get__")))
    (y_takes : PySem.W.takesIn K (.builtin "object.__class__") = some true)
    (a1 : PySem.W.findIn K (.ref CF) "__init__" = some (some (.ref f1)))
    (l1 : K.lookup f1 = some ⟨oc1, od1, .func (PySem.W.fnOf "__init__" "Float.__init__" (defArgs s_Float_init) (defBody s_Float_init) (defScope s_Float_init) .none kV1 dc1 pm1 an1 cd1 ct1), sl1⟩)
    (c1 : PySem.W.codeIn K cd1 "Float.__init__" = true)
    (k1 : PySem.W.keepIn K (.ref f1) = true)
    (i1 : PySem.W.isFn K (.ref f1) = true)
    (a2 : PySem.W.findIn K (.ref CF) "is_finite" = some (some (.ref f2)))
    (l2 : K.lookup f2 = some ⟨oc2, od2, .func (PySem.W.fnOf "is_finite" "Float.is_finite" (defArgs s_Float_is_finite) (defBody s_Float_is_finite) (defScope s_Float_is_finite) .none kV2 dc2 pm2 an2 cd2 ct2), sl2⟩)
    (c2 : PySem.W.codeIn K cd2 "Float.is_finite" = true)
    (k2 : PySem.W.keepIn K (.ref f2) = true)
    (i2 : PySem.W.isFn K (.ref f2) = true)
    (a3 : PySem.W.findIn K (.ref CF) "ratio" = some (some (.ref f3)))
    (l3 : K.lookup f3 = some ⟨oc3, od3, .func (PySem.W.fnOf "ratio" "Float.ratio" (defArgs s_Float_ratio) (defBody s_Float_ratio) (defScope s_Float_ratio) .none kV3 dc3 pm3 an3 cd3 ct3), sl3⟩)
    (c3 : PySem.W.codeIn K cd3 "Float.ratio" = true)
    (k3 : PySem.W.keepIn K (.ref f3) = true)
    (i3 : PySem.W.isFn K (.ref f3) = true)
    (a4 : PySem.W.nsIn K mainGlobals "is_plain" = some (some (.ref f4)))
    (l4 : K.lookup f4 = some ⟨oc4, od4, .func (PySem.W.fnOf "is_plain" "is_plain" (defArgs s_is_plain) (defBody s_is_plain) (defScope s_is_plain) .none kV4 dc4 pm4 an4 cd4 ct4), sl4⟩)
    (c4 : PySem.W.codeIn K cd4 "is_plain" = true)
    (k4 : PySem.W.keepIn K (.ref f4) = true)
    (a5 : PySem.W.nsIn K mainGlobals "reduced" = some (some (.ref f5)))
    (l5 : K.lookup f5 = some ⟨oc5, od5, .func (PySem.W.fnOf "reduced" "reduced" (defArgs s_reduced) (defBody s_reduced) (defScope s_reduced) .none kV5 dc5 pm5 an5 cd5 ct5), sl5⟩)
    (c5 : PySem.W.codeIn K cd5 "reduced" = true)
    (k5 : PySem.W.keepIn K (.ref f5) = true)
    (a6 : PySem.W.nsIn K mainGlobals "fits" = some (some (.ref f6)))
    (l6 : K.lookup f6 = some ⟨oc6, od6, .func (PySem.W.fnOf "fits" "fits" (defArgs s_fits) (defBody s_fits) (defScope s_fits) .none kV6 dc6 pm6 an6 cd6 ct6), sl6⟩)
    (c6 : PySem.W.codeIn K cd6 "fits" = true)
    (k6 : PySem.W.keepIn K (.ref f6) = true)
    (a7 : PySem.W.nsIn K mainGlobals "sign_of" = some (some (.ref f7)))
    (l7 : K.lookup f7 = some ⟨oc7, od7, .func (PySem.W.fnOf "sign_of" "sign_of" (defArgs s_sign_of) (defBody s_sign_of) (defScope s_sign_of) .none kV7 dc7 pm7 an7 cd7 ct7), sl7⟩)
    (c7 : PySem.W.codeIn K cd7 "sign_of" = true)
    (k7 : PySem.W.keepIn K (.ref f7) = true)
    (a8 : PySem.W.nsIn K mainGlobals "infinity" = some (some (.ref f8)))
    (l8 : K.lookup f8 = some ⟨oc8, od8, .func (PySem.W.fnOf "infinity" "infinity" (defArgs s_infinity) (defBody s_infinity) (defScope s_infinity) .none kV8 dc8 pm8 an8 cd8 ct8), sl8⟩)
    (c8 : PySem.W.codeIn K cd8 "infinity" = true)
    (k8 : PySem.W.keepIn K (.ref f8) = true)
    (a9 : PySem.W.nsIn K mainGlobals "nearest" = some (some (.ref f9)))
    (l9 : K.lookup f9 = some ⟨oc9, od9, .func (PySem.W.fnOf "nearest" "nearest" (defArgs s_nearest) (defBody s_nearest) (defScope s_nearest) .none kV9 dc9 pm9 an9 cd9 ct9), sl9⟩)
    (c9 : PySem.W.codeIn K cd9 "nearest" = true)
    (k9 : PySem.W.keepIn K (.ref f9) = true)
    (a10 : PySem.W.nsIn K mainGlobals "is_number" = some (some (.ref f10)))
    (l10 : K.lookup f10 = some ⟨oc10, od10, .func (PySem.W.fnOf "is_number" "is_number" (defArgs s_is_number) (defBody s_is_number) (defScope s_is_number) .none kV10 dc10 pm10 an10 cd10 ct10), sl10⟩)
    (c10 : PySem.W.codeIn K cd10 "is_number" = true)
    (k10 : PySem.W.keepIn K (.ref f10) = true)
    (a11 : PySem.W.nsIn K mainGlobals "to_float" = some (some (.ref f11)))
    (l11 : K.lookup f11 = some ⟨oc11, od11, .func (PySem.W.fnOf "to_float" "to_float" (defArgs s_to_float) (defBody s_to_float) (defScope s_to_float) .none kV11 dc11 pm11 an11 cd11 ct11), sl11⟩)
    (c11 : PySem.W.codeIn K cd11 "to_float" = true)
    (k11 : PySem.W.keepIn K (.ref f11) = true)
    (a12 : PySem.W.nsIn K mainGlobals "place_of_numbers" = some (some (.ref f12)))
    (l12 : K.lookup f12 = some ⟨oc12, od12, .func (PySem.W.fnOf "place_of" "place_of" (defArgs s_place_of_numbers) (defBody s_place_of_numbers) (defScope s_place_of_numbers) .none kV12 dc12 pm12 an12 cd12 ct12), sl12⟩)
    (c12 : PySem.W.codeIn K cd12 "place_of" = true)
    (k12 : PySem.W.keepIn K (.ref f12) = true)
    (a13 : PySem.W.nsIn K mainGlobals "order_of" = some (some (.ref f13)))
    (l13 : K.lookup f13 = some ⟨oc13, od13, .func (PySem.W.fnOf "order_of" "order_of" (defArgs s_order_of) (defBody s_order_of) (defScope s_order_of) .none kV13 dc13 pm13 an13 cd13 ct13), sl13⟩)
    (c13 : PySem.W.codeIn K cd13 "order_of" = true)
    (k13 : PySem.W.keepIn K (.ref f13) = true)
    (a14 : PySem.W.nsIn K mainGlobals "compare" = some (some (.ref f14)))
    (l14 : K.lookup f14 = some ⟨oc14, od14, .func (PySem.W.fnOf "compare" "compare" (defArgs s_compare) (defBody s_compare) (defScope s_compare) .none kV14 dc14 pm14 an14 cd14 ct14), sl14⟩)
    (c14 : PySem.W.codeIn K cd14 "compare" = true)
    (k14 : PySem.W.keepIn K (.ref f14) = true)
    (a15 : PySem.W.nsIn K mainGlobals "same" = some (some (.ref f15)))
    (l15 : K.lookup f15 = some ⟨oc15, od15, .func (PySem.W.fnOf "same" "same" (defArgs s_same) (defBody s_same) (defScope s_same) .none kV15 dc15 pm15 an15 cd15 ct15), sl15⟩)
    (c15 : PySem.W.codeIn K cd15 "same" = true)
    (k15 : PySem.W.keepIn K (.ref f15) = true)
    (a16 : PySem.W.nsIn K mainGlobals "power_for" = some (some (.ref f16)))
    (l16 : K.lookup f16 = some ⟨oc16, od16, .func (PySem.W.fnOf "power_for" "power_for" (defArgs s_power_for) (defBody s_power_for) (defScope s_power_for) .none kV16 dc16 pm16 an16 cd16 ct16), sl16⟩)
    (c16 : PySem.W.codeIn K cd16 "power_for" = true)
    (k16 : PySem.W.keepIn K (.ref f16) = true)
    (a17 : PySem.W.nsIn K mainGlobals "_law_well" = some (some (.ref f17)))
    (l17 : K.lookup f17 = some ⟨oc17, od17, .func (PySem.W.fnOf "_law_well" "_law_well" (defArgs s_law_well) (defBody s_law_well) (defScope s_law_well) .none kV17 dc17 pm17 an17 cd17 ct17), sl17⟩)
    (c17 : PySem.W.codeIn K cd17 "_law_well" = true)
    (k17 : PySem.W.keepIn K (.ref f17) = true)
    (a18 : PySem.W.nsIn K mainGlobals "_law_draw" = some (some (.ref f18)))
    (l18 : K.lookup f18 = some ⟨oc18, od18, .func (PySem.W.fnOf "_law_draw" "_law_draw" (defArgs s_law_draw) (defBody s_law_draw) (defScope s_law_draw) .none kV18 dc18 pm18 an18 cd18 ct18), sl18⟩)
    (c18 : PySem.W.codeIn K cd18 "_law_draw" = true)
    (k18 : PySem.W.keepIn K (.ref f18) = true)
    (a19 : PySem.W.nsIn K mainGlobals "_law_one" = some (some (.ref f19)))
    (l19 : K.lookup f19 = some ⟨oc19, od19, .func (PySem.W.fnOf "_law_one" "_law_one" (defArgs s_law_one) (defBody s_law_one) (defScope s_law_one) .none kV19 dc19 pm19 an19 cd19 ct19), sl19⟩)
    (c19 : PySem.W.codeIn K cd19 "_law_one" = true)
    (k19 : PySem.W.keepIn K (.ref f19) = true)
    (a20 : PySem.W.nsIn K mainGlobals "_law_great" = some (some (.ref f20)))
    (l20 : K.lookup f20 = some ⟨oc20, od20, .func (PySem.W.fnOf "_law_great" "_law_great" (defArgs s_law_great) (defBody s_law_great) (defScope s_law_great) .none kV20 dc20 pm20 an20 cd20 ct20), sl20⟩)
    (c20 : PySem.W.codeIn K cd20 "_law_great" = true)
    (k20 : PySem.W.keepIn K (.ref f20) = true)
    (a21 : PySem.W.nsIn K mainGlobals "_law_finite" = some (some (.ref f21)))
    (l21 : K.lookup f21 = some ⟨oc21, od21, .func (PySem.W.fnOf "_law_finite" "_law_finite" (defArgs s_law_finite) (defBody s_law_finite) (defScope s_law_finite) .none kV21 dc21 pm21 an21 cd21 ct21), sl21⟩)
    (c21 : PySem.W.codeIn K cd21 "_law_finite" = true)
    (k21 : PySem.W.keepIn K (.ref f21) = true)
    (a22 : PySem.W.nsIn K mainGlobals "_law_float" = some (some (.ref f22)))
    (l22 : K.lookup f22 = some ⟨oc22, od22, .func (PySem.W.fnOf "_law_float" "_law_float" (defArgs s_law_float) (defBody s_law_float) (defScope s_law_float) .none kV22 dc22 pm22 an22 cd22 ct22), sl22⟩)
    (c22 : PySem.W.codeIn K cd22 "_law_float" = true)
    (k22 : PySem.W.keepIn K (.ref f22) = true)
    (a23 : PySem.W.nsIn K mainGlobals "_law_fraction" = some (some (.ref f23)))
    (l23 : K.lookup f23 = some ⟨oc23, od23, .func (PySem.W.fnOf "_law_fraction" "_law_fraction" (defArgs s_law_fraction) (defBody s_law_fraction) (defScope s_law_fraction) .none kV23 dc23 pm23 an23 cd23 ct23), sl23⟩)
    (c23 : PySem.W.codeIn K cd23 "_law_fraction" = true)
    (k23 : PySem.W.keepIn K (.ref f23) = true)
    (a24 : PySem.W.nsIn K mainGlobals "_law_right" = some (some (.ref f24)))
    (l24 : K.lookup f24 = some ⟨oc24, od24, .func (PySem.W.fnOf "_law_right" "_law_right" (defArgs s_law_right) (defBody s_law_right) (defScope s_law_right) .none kV24 dc24 pm24 an24 cd24 ct24), sl24⟩)
    (c24 : PySem.W.codeIn K cd24 "_law_right" = true)
    (k24 : PySem.W.keepIn K (.ref f24) = true)
    (a25 : PySem.W.nsIn K mainGlobals "_law_numbers" = some (some (.ref f25)))
    (l25 : K.lookup f25 = some ⟨oc25, od25, .func (PySem.W.fnOf "_law_numbers" "_law_numbers" (defArgs s_law_numbers) (defBody s_law_numbers) (defScope s_law_numbers) .none kV25 dc25 pm25 an25 cd25 ct25), sl25⟩)
    (c25 : PySem.W.codeIn K cd25 "_law_numbers" = true)
    (k25 : PySem.W.keepIn K (.ref f25) = true)
    (a26 : PySem.W.nsIn K mainGlobals "_law_others_right" = some (some (.ref f26)))
    (l26 : K.lookup f26 = some ⟨oc26, od26, .func (PySem.W.fnOf "_law_others_right" "_law_others_right" (defArgs s_law_others_right) (defBody s_law_others_right) (defScope s_law_others_right) .none kV26 dc26 pm26 an26 cd26 ct26), sl26⟩)
    (c26 : PySem.W.codeIn K cd26 "_law_others_right" = true)
    (k26 : PySem.W.keepIn K (.ref f26) = true)
    (a27 : PySem.W.nsIn K mainGlobals "law" = some (some (.ref f27)))
    (l27 : K.lookup f27 = some ⟨oc27, od27, .func (PySem.W.fnOf "law" "law" (defArgs s_law) (defBody s_law) (defScope s_law) .none kV27 dc27 pm27 an27 cd27 ct27), sl27⟩)
    (c27 : PySem.W.codeIn K cd27 "law" = true)
    (k27 : PySem.W.keepIn K (.ref f27) = true)
    (a99 : PySem.W.findIn K (.ref CT) "__init__" = some (some (.ref f99)))
    (l99 : K.lookup f99 = some ⟨oc99, od99, .func (PySem.W.fnOf "__init__" "Table.__init__" (defArgs s_Table_init) (defBody s_Table_init) (defScope s_Table_init) (.ref TD) (.ref KD) dc99 pm99 an99 cd99 ct99), sl99⟩)
    (c99 : PySem.W.codeIn K cd99 "Table.__init__" = true)
    (k99 : PySem.W.keepIn K (.ref f99) = true)
    (i99 : PySem.W.isFn K (.ref f99) = true)
    (lD : K.lookup TD = some ⟨ocD, odD, .seq [Value.int 0 tD1, Value.int 0 tD2].toArray nD, slD⟩)
    (kD : PySem.W.nsIn K KD "meta" = some (some .none))
    (o_eq : PySem.W.findIn K (.ref CT) "__eq__" = some (some (.builtin "object.__eq__")))
    (o_sub : PySem.W.subIn K (.ref CT) (.type "NoneType") = some false)
    : ∃ fd : FuncData, (∀ (s : Shared) (v : Value), BindsTo s fd ⟨[v], []⟩ [("script", v)]) ∧ ∀ base : Heap, K.In base → base.Ns mainGlobals mg → FnOk l.prog w K mg base CX0 20 fa fd ["script"] (spLaw K) := by
  have e := hfa.symm.trans (PySem.W.mg_of X G a27)
  cases e
  have T : AllM K mg CF CT := {
    b_isinstance := PySem.W.mg_none_of X G b_isinstance
    b_int := PySem.W.mg_none_of X G b_int
    b_str := PySem.W.mg_none_of X G b_str
    b_bool := PySem.W.mg_none_of X G b_bool
    b_abs := PySem.W.mg_none_of X G b_abs
    b_max := PySem.W.mg_none_of X G b_max
    b_min := PySem.W.mg_none_of X G b_min
    b_divmod := PySem.W.mg_none_of X G b_divmod
    b_len := PySem.W.mg_none_of X G b_len
    b_range := PySem.W.mg_none_of X G b_range
    b_enumerate := PySem.W.mg_none_of X G b_enumerate
    c_LEAST := ⟨_, PySem.W.mg_of X G c_LEAST⟩
    c_MOST := ⟨_, PySem.W.mg_of X G c_MOST⟩
    c_ROOM := ⟨_, PySem.W.mg_of X G c_ROOM⟩
    c_LOWEST := ⟨_, PySem.W.mg_of X G c_LOWEST⟩
    c_TOO_GREAT := ⟨_, PySem.W.mg_of X G c_TOO_GREAT⟩
    g_Float := PySem.W.mg_of X G g_Float
    l_Float := ⟨pg_Float, hd_Float, po_Float, sa_Float⟩
    y_Float := ⟨yc_Float, y_spec, y_takes, ym_Float⟩
    n_sign := n_sign
    n_top := n_top
    n_power := n_power
    i_Fint := i_Fint
    i_Fbool := i_Fbool
    i_Fstr := i_Fstr
    i_intF := i_intF
    i_boolF := i_boolF
    i_strF := i_strF
    i_nonF := i_nonF
    g_Table := PySem.W.mg_of X G g_Table
    l_Table := ⟨pg_Table, hd_Table, po_Table, sa_Table⟩
    y_Table := ⟨yc_Table, y_spec, y_takes, ym_Table⟩
    n_number := n_number
    n_meta := n_meta
    n_array := n_array
    n_nodes := n_nodes
    n_free := n_free
    i_Tint := i_Tint
    i_Tbool := i_Tbool
    i_Tstr := i_Tstr
    i_TF := i_TF
    x_init := ⟨_, _, PySem.W.mg_of X G g_Float, ⟨mk_Float, a1, i1, kc_Float⟩, fun_mk (st := s_Float_init) l1 c1 k1, (fun_mk (st := s_Float_init) l1 c1 k1).binds (fun _ _ _ _ _ _ us hl => match us, hl with | [_, _, _, _], _ => rfl)⟩
    x_is_finite := ⟨_, _, ⟨a2, i2, k2⟩, fun_mk (st := s_Float_is_finite) l2 c2 k2, (fun_mk (st := s_Float_is_finite) l2 c2 k2).binds (fun _ _ _ _ _ _ us hl => match us, hl with | [_], _ => rfl)⟩
    x_ratio := ⟨_, _, ⟨a3, i3, k3⟩, fun_mk (st := s_Float_ratio) l3 c3 k3, (fun_mk (st := s_Float_ratio) l3 c3 k3).binds (fun _ _ _ _ _ _ us hl => match us, hl with | [_], _ => rfl)⟩
    x_is_plain := ⟨_, _, PySem.W.mg_of X G a4, fun_mk (st := s_is_plain) l4 c4 k4, (fun_mk (st := s_is_plain) l4 c4 k4).binds (fun _ _ _ _ _ _ us hl => match us, hl with | [_], _ => rfl)⟩
    x_reduced := ⟨_, _, PySem.W.mg_of X G a5, fun_mk (st := s_reduced) l5 c5 k5, (fun_mk (st := s_reduced) l5 c5 k5).binds (fun _ _ _ _ _ _ us hl => match us, hl with | [_, _], _ => rfl)⟩
    x_fits := ⟨_, _, PySem.W.mg_of X G a6, fun_mk (st := s_fits) l6 c6 k6, (fun_mk (st := s_fits) l6 c6 k6).binds (fun _ _ _ _ _ _ us hl => match us, hl with | [_, _], _ => rfl)⟩
    x_sign_of := ⟨_, _, PySem.W.mg_of X G a7, fun_mk (st := s_sign_of) l7 c7 k7, (fun_mk (st := s_sign_of) l7 c7 k7).binds (fun _ _ _ _ _ _ us hl => match us, hl with | [_], _ => rfl)⟩
    x_infinity := ⟨_, _, PySem.W.mg_of X G a8, fun_mk (st := s_infinity) l8 c8 k8, (fun_mk (st := s_infinity) l8 c8 k8).binds (fun _ _ _ _ _ _ us hl => match us, hl with | [_], _ => rfl)⟩
    x_nearest := ⟨_, _, PySem.W.mg_of X G a9, fun_mk (st := s_nearest) l9 c9 k9, (fun_mk (st := s_nearest) l9 c9 k9).binds (fun _ _ _ _ _ _ us hl => match us, hl with | [_, _, _], _ => rfl)⟩
    x_is_number := ⟨_, _, PySem.W.mg_of X G a10, fun_mk (st := s_is_number) l10 c10 k10, (fun_mk (st := s_is_number) l10 c10 k10).binds (fun _ _ _ _ _ _ us hl => match us, hl with | [_], _ => rfl)⟩
    x_to_float := ⟨_, _, PySem.W.mg_of X G a11, fun_mk (st := s_to_float) l11 c11 k11, (fun_mk (st := s_to_float) l11 c11 k11).binds (fun _ _ _ _ _ _ us hl => match us, hl with | [_], _ => rfl)⟩
    x_place := ⟨_, _, PySem.W.mg_of X G a12, fun_mk (st := s_place_of_numbers) l12 c12 k12, (fun_mk (st := s_place_of_numbers) l12 c12 k12).binds (fun _ _ _ _ _ _ us hl => match us, hl with | [_], _ => rfl)⟩
    x_order := ⟨_, _, PySem.W.mg_of X G a13, fun_mk (st := s_order_of) l13 c13 k13, (fun_mk (st := s_order_of) l13 c13 k13).binds (fun _ _ _ _ _ _ us hl => match us, hl with | [_, _], _ => rfl)⟩
    x_compare := ⟨_, _, PySem.W.mg_of X G a14, fun_mk (st := s_compare) l14 c14 k14, (fun_mk (st := s_compare) l14 c14 k14).binds (fun _ _ _ _ _ _ us hl => match us, hl with | [_, _, _], _ => rfl)⟩
    x_same := ⟨_, _, PySem.W.mg_of X G a15, fun_mk (st := s_same) l15 c15 k15, (fun_mk (st := s_same) l15 c15 k15).binds (fun _ _ _ _ _ _ us hl => match us, hl with | [_, _], _ => rfl)⟩
    x_power_for := ⟨_, _, PySem.W.mg_of X G a16, fun_mk (st := s_power_for) l16 c16 k16, (fun_mk (st := s_power_for) l16 c16 k16).binds (fun _ _ _ _ _ _ us hl => match us, hl with | [_], _ => rfl)⟩
    x_well := ⟨_, _, PySem.W.mg_of X G a17, fun_mk (st := s_law_well) l17 c17 k17, (fun_mk (st := s_law_well) l17 c17 k17).binds (fun _ _ _ _ _ _ us hl => match us, hl with | [_], _ => rfl)⟩
    x_draw := ⟨_, _, PySem.W.mg_of X G a18, fun_mk (st := s_law_draw) l18 c18 k18, (fun_mk (st := s_law_draw) l18 c18 k18).binds (fun _ _ _ _ _ _ us hl => match us, hl with | [_, _], _ => rfl)⟩
    x_one := ⟨_, _, PySem.W.mg_of X G a19, fun_mk (st := s_law_one) l19 c19 k19, (fun_mk (st := s_law_one) l19 c19 k19).binds (fun _ _ _ _ _ _ us hl => match us, hl with | [_, _], _ => rfl)⟩
    x_great := ⟨_, _, PySem.W.mg_of X G a20, fun_mk (st := s_law_great) l20 c20 k20, (fun_mk (st := s_law_great) l20 c20 k20).binds (fun _ _ _ _ _ _ us hl => match us, hl with | [_, _], _ => rfl)⟩
    x_finite := ⟨_, _, PySem.W.mg_of X G a21, fun_mk (st := s_law_finite) l21 c21 k21, (fun_mk (st := s_law_finite) l21 c21 k21).binds (fun _ _ _ _ _ _ us hl => match us, hl with | [_], _ => rfl)⟩
    x_float := ⟨_, _, PySem.W.mg_of X G a22, fun_mk (st := s_law_float) l22 c22 k22, (fun_mk (st := s_law_float) l22 c22 k22).binds (fun _ _ _ _ _ _ us hl => match us, hl with | [_], _ => rfl)⟩
    x_fraction := ⟨_, _, PySem.W.mg_of X G a23, fun_mk (st := s_law_fraction) l23 c23 k23, (fun_mk (st := s_law_fraction) l23 c23 k23).binds (fun _ _ _ _ _ _ us hl => match us, hl with | [_], _ => rfl)⟩
    x_right := ⟨_, _, PySem.W.mg_of X G a24, fun_mk (st := s_law_right) l24 c24 k24, (fun_mk (st := s_law_right) l24 c24 k24).binds (fun _ _ _ _ _ _ us hl => match us, hl with | [_, _], _ => rfl)⟩
    x_numbers := ⟨_, _, PySem.W.mg_of X G a25, fun_mk (st := s_law_numbers) l25 c25 k25, (fun_mk (st := s_law_numbers) l25 c25 k25).binds (fun _ _ _ _ _ _ us hl => match us, hl with | [_], _ => rfl)⟩
    x_others := ⟨_, _, PySem.W.mg_of X G a26, fun_mk (st := s_law_others_right) l26 c26 k26, (fun_mk (st := s_law_others_right) l26 c26 k26).binds (fun _ _ _ _ _ _ us hl => match us, hl with | [_], _ => rfl)⟩
    x_law := ⟨_, _, PySem.W.mg_of X G a27, fun_mk (st := s_law) l27 c27 k27, (fun_mk (st := s_law) l27 c27 k27).binds (fun _ _ _ _ _ _ us hl => match us, hl with | [_], _ => rfl)⟩
    x_Table := ⟨_, _, ⟨mk_Table, a99, i99, kc_Table⟩, ⟨⟨_, _, _, _, _, _, _, _, _, _, rfl, l99, c99, .inr ⟨by simp, TD, _, _, _, rfl, lD, rfl, .cons ⟨_, rfl⟩ (.cons ⟨_, rfl⟩ .nil)⟩, .inr ⟨KD, rfl, fun q hq => by rw [List.mem_singleton] at hq; subst hq; exact ⟨_, kD, rfl⟩⟩⟩, k99⟩⟩
    o_Table := ⟨ym_Table, o_eq, o_sub⟩
  }
  exact ⟨PySem.W.fnOf "law" "law" (defArgs s_law) (defBody s_law) (defScope s_law) .none kV27 dc27 pm27 an27 cd27 ct27, fun s v => .of_eq rfl, fun base _ _ => ok_all T (fun_mk (st := s_law) l27 c27 k27)⟩
end Nu

open PySem PySem.W PyProof.Rows
set_option Elab.async false
set_option maxRecDepth 100000
set_option maxHeartbeats 0
open_top hd05 for PySem.Challenge.rw_walkmade_k05_whole_order_of_numbers
theorem PySem.Challenge.cw_walkmade_k05_whole_order_of_numbers_holds : PySem.Challenge.rw_walkmade_k05_whole_order_of_numbers.Holds :=
  hd05 (by
  k_fill
  refine L2.walk_ofB (l := PySem.Challenge.rw_walkmade_k05_whole_order_of_numbers) (n := 63) (k := 20) (x := "script") (CX := fun _ => L2.CX0) (sp := fun w => Nu.spLaw (hd05.heap_39 w.params)) rfl (by decide) rfl ⟨rfl, by decide, by decide⟩ (fun w h Y => PySem.W.kIn_of Y) ?F
    (fun w H a ns h1 h2 _ h4 => ⟨a, ns, rfl, h4, h1, fun z hz => Int.ofNat_le.2 (h2 z hz), fun _ => rfl⟩) (fun _ _ _ _ _ z => z)
  case F =>
    intro w mg fa h KX G hmg
    refine' Nu.fin_mk KX G hmg ?b_isinstance ?b_int ?b_str ?b_bool ?b_abs ?b_max ?b_min ?b_divmod ?b_len ?b_range ?b_enumerate ?c_LEAST ?c_MOST ?c_ROOM ?c_LOWEST ?c_TOO_GREAT ?g_Float ?pg_Float ?hd_Float ?po_Float ?sa_Float ?yc_Float ?ym_Float ?n_sign ?n_top ?n_power ?i_Fint ?i_Fbool ?i_Fstr ?i_intF ?i_boolF ?i_strF ?i_nonF ?mk_Float ?kc_Float ?g_Table ?pg_Table ?hd_Table ?po_Table ?sa_Table ?yc_Table ?ym_Table ?n_number ?n_meta ?n_array ?n_nodes ?n_free ?i_Tint ?i_Tbool ?i_Tstr ?i_TF ?mk_Table ?kc_Table ?y_spec ?y_takes ?a1 ?l1 ?c1 ?k1 ?i1 ?a2 ?l2 ?c2 ?k2 ?i2 ?a3 ?l3 ?c3 ?k3 ?i3 ?a4 ?l4 ?c4 ?k4 ?a5 ?l5 ?c5 ?k5 ?a6 ?l6 ?c6 ?k6 ?a7 ?l7 ?c7 ?k7 ?a8 ?l8 ?c8 ?k8 ?a9 ?l9 ?c9 ?k9 ?a10 ?l10 ?c10 ?k10 ?a11 ?l11 ?c11 ?k11 ?a12 ?l12 ?c12 ?k12 ?a13 ?l13 ?c13 ?k13 ?a14 ?l14 ?c14 ?k14 ?a15 ?l15 ?c15 ?k15 ?a16 ?l16 ?c16 ?k16 ?a17 ?l17 ?c17 ?k17 ?a18 ?l18 ?c18 ?k18 ?a19 ?l19 ?c19 ?k19 ?a20 ?l20 ?c20 ?k20 ?a21 ?l21 ?c21 ?k21 ?a22 ?l22 ?c22 ?k22 ?a23 ?l23 ?c23 ?k23 ?a24 ?l24 ?c24 ?k24 ?a25 ?l25 ?c25 ?k25 ?a26 ?l26 ?c26 ?k26 ?a27 ?l27 ?c27 ?k27 ?a99 ?l99 ?c99 ?k99 ?i99 ?lD ?kD ?o_eq ?o_sub
    (case b_isinstance => k_is)
    (case b_int => k_is)
    (case b_str => k_is)
    (case b_bool => k_is)
    (case b_abs => k_is)
    (case b_max => k_is)
    (case b_min => k_is)
    (case b_divmod => k_is)
    (case b_len => k_is)
    (case b_range => k_is)
    (case b_enumerate => k_is)
    (case c_LEAST => k_is)
    (case c_MOST => k_is)
    (case c_ROOM => k_is)
    (case c_LOWEST => k_is)
    (case c_TOO_GREAT => k_is)
    (case g_Float => k_is)
    (case pg_Float => k_is)
    (case hd_Float => k_is)
    (case po_Float => k_is)
    (case sa_Float => k_is)
    (case yc_Float => k_is)
    (case ym_Float => k_is)
    (case n_sign => k_is)
    (case n_top => k_is)
    (case n_power => k_is)
    (case i_Fint => kit_is)
    (case i_Fbool => kit_is)
    (case i_Fstr => kit_is)
    (case i_intF => kit_is)
    (case i_boolF => kit_is)
    (case i_strF => kit_is)
    (case i_nonF => kit_is)
    (case mk_Float => k_is)
    (case kc_Float => k_is)
    (case g_Table => k_is)
    (case pg_Table => k_is)
    (case hd_Table => k_is)
    (case po_Table => k_is)
    (case sa_Table => k_is)
    (case yc_Table => k_is)
    (case ym_Table => k_is)
    (case n_number => k_is)
    (case n_meta => k_is)
    (case n_array => k_is)
    (case n_nodes => k_is)
    (case n_free => k_is)
    (case i_Tint => kit_is)
    (case i_Tbool => kit_is)
    (case i_Tstr => kit_is)
    (case i_TF => kit_is)
    (case mk_Table => k_is)
    (case kc_Table => k_is)
    (case y_spec => k_is)
    (case y_takes => k_is)
    (case a1 => k_is)
    (case l1 => k_is)
    (case c1 => k_is)
    (case k1 => k_is)
    (case i1 => k_is)
    (case a2 => k_is)
    (case l2 => k_is)
    (case c2 => k_is)
    (case k2 => k_is)
    (case i2 => k_is)
    (case a3 => k_is)
    (case l3 => k_is)
    (case c3 => k_is)
    (case k3 => k_is)
    (case i3 => k_is)
    (case a4 => k_is)
    (case l4 => k_is)
    (case c4 => k_is)
    (case k4 => k_is)
    (case a5 => k_is)
    (case l5 => k_is)
    (case c5 => k_is)
    (case k5 => k_is)
    (case a6 => k_is)
    (case l6 => k_is)
    (case c6 => k_is)
    (case k6 => k_is)
    (case a7 => k_is)
    (case l7 => k_is)
    (case c7 => k_is)
    (case k7 => k_is)
    (case a8 => k_is)
    (case l8 => k_is)
    (case c8 => k_is)
    (case k8 => k_is)
    (case a9 => k_is)
    (case l9 => k_is)
    (case c9 => k_is)
    (case k9 => k_is)
    (case a10 => k_is)
    (case l10 => k_is)
    (case c10 => k_is)
    (case k10 => k_is)
    (case a11 => k_is)
    (case l11 => k_is)
    (case c11 => k_is)
    (case k11 => k_is)
    (case a12 => k_is)
    (case l12 => k_is)
    (case c12 => k_is)
    (case k12 => k_is)
    (case a13 => k_is)
    (case l13 => k_is)
    (case c13 => k_is)
    (case k13 => k_is)
    (case a14 => k_is)
    (case l14 => k_is)
    (case c14 => k_is)
    (case k14 => k_is)
    (case a15 => k_is)
    (case l15 => k_is)
    (case c15 => k_is)
    (case k15 => k_is)
    (case a16 => k_is)
    (case l16 => k_is)
    (case c16 => k_is)
    (case k16 => k_is)
    (case a17 => k_is)
    (case l17 => k_is)
    (case c17 => k_is)
    (case k17 => k_is)
    (case a18 => k_is)
    (case l18 => k_is)
    (case c18 => k_is)
    (case k18 => k_is)
    (case a19 => k_is)
    (case l19 => k_is)
    (case c19 => k_is)
    (case k19 => k_is)
    (case a20 => k_is)
    (case l20 => k_is)
    (case c20 => k_is)
    (case k20 => k_is)
    (case a21 => k_is)
    (case l21 => k_is)
    (case c21 => k_is)
    (case k21 => k_is)
    (case a22 => k_is)
    (case l22 => k_is)
    (case c22 => k_is)
    (case k22 => k_is)
    (case a23 => k_is)
    (case l23 => k_is)
    (case c23 => k_is)
    (case k23 => k_is)
    (case a24 => k_is)
    (case l24 => k_is)
    (case c24 => k_is)
    (case k24 => k_is)
    (case a25 => k_is)
    (case l25 => k_is)
    (case c25 => k_is)
    (case k25 => k_is)
    (case a26 => k_is)
    (case l26 => k_is)
    (case c26 => k_is)
    (case k26 => k_is)
    (case a27 => k_is)
    (case l27 => k_is)
    (case c27 => k_is)
    (case k27 => k_is)
    (case a99 => k_is)
    (case l99 => k_is)
    (case c99 => k_is)
    (case k99 => k_is)
    (case i99 => k_is)
    (case lD => k_is)
    (case kD => k_is)
    (case o_eq => k_is)
    (case o_sub => k_is)
  )
