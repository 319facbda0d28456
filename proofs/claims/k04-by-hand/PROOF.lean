import PyProof.Rows.All
import Wide.All
import OpenK.AllK
import Wide.FinOn
import PyProof.EqAt
import PyProof.EqKinds
import PyProof.TupleCall
import HandS.ForMost
import HandS.Wide
import HandS.Style
import HandS.IsInst
import HandS.EndBits
import PySem.Challenge.RW_takeagain_k04_answers_by_hand
set_option Elab.async false
set_option linter.all false
set_option maxRecDepth 100000
set_option maxHeartbeats 4000000
namespace Tk
open PySem PySem.Spec PyProof.Rows L2
/-! ### defs by their promises, addresses left aside -/
/-- a def of the text at the module's name x -/
def Dfn (K : PySem.W.Frag) (mg : Str → Option Value) (x : Str) (st : Stmt) : Prop := ∃ f fd, mg x = some (.ref f) ∧ Fun K x x st f fd
/-- a method m of the class at C -/
def Mdf (K : PySem.W.Frag) (C : Addr) (m q : Str) (st : Stmt) : Prop := ∃ f fd, Meth K C m f ∧ Fun K m q st f fd
section
variable (P : Program) (w : World) (K : PySem.W.Frag) (mg : Str → Option Value) (base : Heap) (CX : CXT)
/-- the def called x keeps the promise sp -/
def OkG (k : Nat) (x : Str) (sp : Sp) : Prop := ∃ f fd ps, mg x = some (.ref f) ∧ FnOk P w K mg base CX k f fd ps sp ∧ PySem.W.keepIn K (.ref f) = true ∧ Binds K fd ps []
/-- the method m of the class at C -/
def OkM (k : Nat) (C : Addr) (m : Str) (sp : Sp) : Prop := ∃ f fd ps, Cls K C ∧ Meth K C m f ∧ FnOk P w K mg base CX k f fd ps sp ∧ Binds K fd ps []
/-- the class at C, called x, with an own __init__ -/
def OkC (k : Nat) (x : Str) (C : Addr) (sp : Sp) : Prop := ∃ f fd ps, mg x = some (.ref C) ∧ Mk K C f ∧ FnOk P w K mg base CX k f fd ps sp ∧ Binds K fd ps []
end
section
variable {P : Program} {w : World} {K : PySem.W.Frag} {mg : Str → Option Value} {base : Heap} {CX : CXT} {k : Nat} {x m q : Str} {st : Stmt} {C : Addr} {sp : Sp} {ps : List Str}
theorem OkG.of (D : Dfn K mg x st) (b : ∀ f fd, Fun K x x st f fd → Binds K fd ps []) (h : ∀ f fd, Fun K x x st f fd → FnOk P w K mg base CX k f fd ps sp) : OkG P w K mg base CX k x sp := by
  obtain ⟨f, fd, e, F⟩ := D
  exact ⟨f, fd, ps, e, h f fd F, F.kp, b f fd F⟩
theorem OkM.of (c : Cls K C) (D : Mdf K C m q st) (b : ∀ f fd, Fun K m q st f fd → Binds K fd ps []) (h : ∀ f fd, Fun K m q st f fd → FnOk P w K mg base CX k f fd ps sp) : OkM P w K mg base CX k C m sp := by
  obtain ⟨f, fd, e, F⟩ := D
  exact ⟨f, fd, ps, c, e, h f fd F, b f fd F⟩
theorem OkC.of (e : mg x = some (.ref C)) (mk : PySem.W.makesIn K C = true) (kp : PySem.W.keepIn K (.ref C) = true) (D : Mdf K C "__init__" q st) (b : ∀ f fd, Fun K "__init__" q st f fd → Binds K fd ps []) (h : ∀ f fd, Fun K "__init__" q st f fd → FnOk P w K mg base CX k f fd ps sp) : OkC P w K mg base CX k x C sp := by
  obtain ⟨f, fd, d, F⟩ := D
  exact ⟨f, fd, ps, e, ⟨mk, d.at_, d.fn, kp⟩, h f fd F, b f fd F⟩
end
/-- a call: the promise at the arguments -/
def tCallO (sp : Sp) (E : XK) (t : TA) : TE := fun σ H Q => t σ H fun vs H1 => sp vs H1 Q E
def tMethO (C : Addr) (m : Str) (sp : Sp) (E : XK) (ta : TE) (t : TA) : TE := fun σ H Q => ta σ H fun x H1 => ∃ a dx fs, x = .ref a ∧ H1 a = some (.ins C dx fs) ∧ fs.lookup m = none ∧ t σ H1 fun vs H2 => sp (x :: vs) H2 Q E
def tMakeO (C : Addr) (sp : Sp) (E : XK) (t : TA) : TE := fun σ H Q => t σ H fun vs H1 => ∀ x dx, H1 x = none → H1 dx = none → dx ≠ x →
  sp (.ref x :: vs) (upd (upd H1 dx (.own x)) x (.ins C dx [])) (fun v H2 => v = .non ∧ Q (.ref x) H2) E
section
variable {X : Cx} {CX : CXT} {k : Nat} {C : Addr} {sp : Sp} {E : XK} {x m : Str} {p pos apos : Pos} {e o : Expr} {es : List Expr} {ta : TE} {t : TA}
theorem pe_callO (O : OkG X.prog X.w X.K X.mg X.base CX k x sp) (hr : Room k X.A) (hg : Gl X x) (hx : Passes CX X E) (ha : PA X (e :: es) t) (hdb : (x == ("__debug__" : Str)) = false := by decide)
    (he : starEach (e :: es) X.env = (false, eval e X.env) :: starEach es X.env := by rfl) (hpl : (backTo pos (starEach es X.env)).any (·.1) = false := by rfl) : PE X (.Call (.Name x p) (e :: es) [] pos) (tCallO sp E t) := by
  obtain ⟨f, fd, ps, hm, F, hk, hb⟩ := O
  have h := pe_call (dvs := []) (p := p) (pos := pos) F hr hg hm hk hb .nil hx ha hdb he hpl
  refine ⟨fun pins s σ H Q I z => h.run pins s σ H Q I ?_⟩
  have e0 : (fun (vs : List V) (H1 : Hp) => sp (vs ++ []) H1 Q E) = fun vs H1 => sp vs H1 Q E := by
    funext vs H1
    rw [List.append_nil]
  show t σ H (fun vs H1 => sp (vs ++ []) H1 Q E)
  rw [e0]
  exact z
theorem pe_makeO (O : OkC X.prog X.w X.K X.mg X.base CX k x C sp) (hr : Room (k + 1) X.A) (hg : Gl X x) (hx : Passes CX X E) (ha : PA X (e :: es) t) (hdb : (x == ("__debug__" : Str)) = false := by decide)
    (he : starEach (e :: es) X.env = (false, eval e X.env) :: starEach es X.env := by rfl) (hpl : (backTo pos (starEach es X.env)).any (·.1) = false := by rfl) : PE X (.Call (.Name x p) (e :: es) [] pos) (tMakeO C sp E t) := by
  obtain ⟨f, fd, ps, hm, M, F, hb⟩ := O
  have h := pe_make (dvs := []) (p := p) (pos := pos) M F hr hg hm hb .nil hx ha hdb he hpl
  refine ⟨fun pins s σ H Q I z => h.run pins s σ H Q I ?_⟩
  have e0 : (fun (vs : List V) (H1 : Hp) => ∀ x dx, H1 x = none → H1 dx = none → dx ≠ x → sp (.ref x :: (vs ++ [])) (upd (upd H1 dx (.own x)) x (.ins C dx [])) (fun v H2 => v = .non ∧ Q (.ref x) H2) E) =
      fun vs H1 => ∀ x dx, H1 x = none → H1 dx = none → dx ≠ x → sp (.ref x :: vs) (upd (upd H1 dx (.own x)) x (.ins C dx [])) (fun v H2 => v = .non ∧ Q (.ref x) H2) E := by
    funext vs H1
    rw [List.append_nil]
  show t σ H _
  rw [e0]
  exact z
theorem pe_methO {pl : Sem Bool} (O : OkM X.prog X.w X.K X.mg X.base CX k C m sp) (hr : Room k X.A) (hx : Passes CX X E) (he : PE X o ta) (ha : PA X (e :: es) t)
    (hst : starEach (e :: es) X.env = (false, eval e X.env) :: starEach es X.env := by rfl) (hpl : (backTo pos (starEach es X.env)).any (·.1) = false := by rfl)
    (ht : eval (.Call (.Attribute o m apos) (e :: es) [] pos) X.env = (do
      let ov ← eval o X.env
      standAt apos.atName
      let (f, first) ← holding [ov] (getMethod ov m pl)
      callWith pos f first (backTo pos (starEach (e :: es) X.env)) (backToKw pos (keywordEach [] X.env))) := by rfl) :
    PE X (.Call (.Attribute o m apos) (e :: es) [] pos) (tMethO C m sp E ta t) := by
  obtain ⟨f, fd, ps, c, hm, F, hb⟩ := O
  have h := pe_meth (dvs := []) (pos := pos) (apos := apos) he c hm F hr hb .nil hx ha hst hpl ht
  refine ⟨fun pins s σ H Q I z => h.run pins s σ H Q I ?_⟩
  have e0 : ∀ x, (fun (vs : List V) (H1 : Hp) => sp (x :: (vs ++ [])) H1 Q E) = fun vs H1 => sp (x :: vs) H1 Q E := by
    intro x
    funext vs H1
    rw [List.append_nil]
  show ta σ H (fun x H1 => ∃ a dx fs, x = .ref a ∧ H1 a = some (.ins C dx fs) ∧ fs.lookup m = none ∧ t σ H1 fun vs H2 => sp (x :: (vs ++ [])) H2 Q E)
  simp only [e0]
  exact z
theorem pe_methO0 {pl : Sem Bool} (O : OkM X.prog X.w X.K X.mg X.base CX k C m sp) (hr : Room k X.A) (hx : Passes CX X E) (he : PE X o ta)
    (ht : eval (.Call (.Attribute o m apos) [] [] pos) X.env = (do
      let ov ← eval o X.env
      standAt apos.atName
      let (f, first) ← holding [ov] (getMethod ov m pl)
      callWith pos f first (backTo pos (starEach [] X.env)) (backToKw pos (keywordEach [] X.env))) := by rfl) :
    PE X (.Call (.Attribute o m apos) [] [] pos) (tMethO C m sp E ta tNil) := by
  obtain ⟨f, fd, ps, c, hm, F, hb⟩ := O
  have h := pe_meth0 (dvs := []) (pos := pos) (apos := apos) he c hm F hr hb .nil hx ht
  exact ⟨fun pins s σ H Q I z => h.run pins s σ H Q I z⟩
end
/-! ### lists of ints compared -/
def pint : Int → PyData := .int
theorem dp_ints {K : PySem.W.Frag} {H : Hp} : ∀ ns : List Int, DpAll K H (ns.map V.int) (ns.map PyData.int)
  | [] => .nil
  | n :: r => .cons (.int n) (dp_ints r)
theorem can_ints : ∀ ns : List Int, PyData.canLayAll0 (ns.map PyData.int) = true
  | [] => rfl
  | n :: r => by
    show (PyData.canLay0 (.int n) && PyData.canLayAll0 (r.map PyData.int)) = true
    rw [can_ints r]
    rfl
theorem deep_ints : ∀ ns : List Int, PyData.depthAll (ns.map PyData.int) ≤ 1
  | [] => by decide
  | n :: r => by
    have ih := deep_ints r
    simp only [List.map_cons, PyData.depthAll, PyData.depth]
    omega
theorem eqv_ints : ∀ ns ms : List Int, PyData.eqvAll (ns.map PyData.int) (ms.map PyData.int) = decide (ns = ms)
  | [], [] => rfl
  | [], m :: ms => by simp [PyData.eqvAll]
  | n :: ns, [] => by simp [PyData.eqvAll]
  | n :: ns, m :: ms => by
    simp only [List.map_cons, PyData.eqvAll, eqv_ints ns ms, PyData.eqv]
    rw [Bool.eq_iff_iff]
    simp
theorem shaped_ints (ns : List Int) : SeqAt.shaped (.list (ns.map PyData.int)) = true := by
  unfold SeqAt.shaped
  rw [Bool.and_eq_true]
  refine ⟨can_ints ns, decide_eq_true ?_⟩
  have := deep_ints ns
  simp only [PyData.depth]
  omega
section
variable {X : Cx}
def rEqIs (K : PySem.W.Frag) : R2 := fun x y H Q => ∃ (a b : Addr) (ns ms : List Int), x = .ref a ∧ y = .ref b ∧ SqL K H a (ns.map V.int) ∧ SqL K H b (ms.map V.int) ∧ Q (.bl (decide (ns = ms))) H
def rNeIs (K : PySem.W.Frag) : R2 := fun x y H Q => ∃ (a b : Addr) (ns ms : List Int), x = .ref a ∧ y = .ref b ∧ SqL K H a (ns.map V.int) ∧ SqL K H b (ms.map V.int) ∧ Q (.bl (!decide (ns = ms))) H
theorem op_eqIs (hu : X.A.units + 64 < cLine) : OpR X (compareOp .Eq) (rEqIs X.K) := fun pins s σ H x y v u Q I rx ry h => by
  obtain ⟨a, b, ns, ms, rfl, rfl, ha, hb, q⟩ := h
  refine op_eqD hu pins s σ H _ _ v u Q I rx ry ⟨_, _, .lst ha (dp_ints ns), .lst hb (dp_ints ms), shaped_ints ns, shaped_ints ms, ?_⟩
  have e : PyData.eqv (.list (ns.map PyData.int)) (.list (ms.map PyData.int)) = decide (ns = ms) := by
    rw [← eqv_ints]
    simp only [PyData.eqv]
  rw [e]
  exact q
theorem op_neIs (hu : X.A.units + 64 < cLine) : OpR X (compareOp .NotEq) (rNeIs X.K) := fun pins s σ H x y v u Q I rx ry h => by
  obtain ⟨a, b, ns, ms, rfl, rfl, ha, hb, q⟩ := h
  refine op_neD hu pins s σ H _ _ v u Q I rx ry ⟨_, _, .lst ha (dp_ints ns), .lst hb (dp_ints ms), shaped_ints ns, shaped_ints ms, ?_⟩
  have e : PyData.eqv (.list (ns.map PyData.int)) (.list (ms.map PyData.int)) = decide (ns = ms) := by
    rw [← eqv_ints]
    simp only [PyData.eqv]
  rw [e]
  exact q
/-! tuples of ints compared -/
theorem shapedT_ints (ns : List Int) : SeqAt.shaped (.tuple (ns.map PyData.int)) = true := by
  unfold SeqAt.shaped
  rw [Bool.and_eq_true]
  refine ⟨can_ints ns, decide_eq_true ?_⟩
  have := deep_ints ns
  simp only [PyData.depth]
  omega
def rEqTs (K : PySem.W.Frag) : R2 := fun x y H Q => ∃ (a b : Addr) (ns ms : List Int), x = .ref a ∧ y = .ref b ∧ SqT K H a (ns.map V.int) ∧ SqT K H b (ms.map V.int) ∧ Q (.bl (decide (ns = ms))) H
def rNeTs (K : PySem.W.Frag) : R2 := fun x y H Q => ∃ (a b : Addr) (ns ms : List Int), x = .ref a ∧ y = .ref b ∧ SqT K H a (ns.map V.int) ∧ SqT K H b (ms.map V.int) ∧ Q (.bl (!decide (ns = ms))) H
theorem op_eqTs (hu : X.A.units + 64 < cLine) : OpR X (compareOp .Eq) (rEqTs X.K) := fun pins s σ H x y v u Q I rx ry h => by
  obtain ⟨a, b, ns, ms, rfl, rfl, ha, hb, q⟩ := h
  refine op_eqD hu pins s σ H _ _ v u Q I rx ry ⟨_, _, .tup ha (dp_ints ns), .tup hb (dp_ints ms), shapedT_ints ns, shapedT_ints ms, ?_⟩
  have e : PyData.eqv (.tuple (ns.map PyData.int)) (.tuple (ms.map PyData.int)) = decide (ns = ms) := by
    rw [← eqv_ints]
    simp only [PyData.eqv]
  rw [e]
  exact q
theorem op_neTs (hu : X.A.units + 64 < cLine) : OpR X (compareOp .NotEq) (rNeTs X.K) := fun pins s σ H x y v u Q I rx ry h => by
  obtain ⟨a, b, ns, ms, rfl, rfl, ha, hb, q⟩ := h
  refine op_neD hu pins s σ H _ _ v u Q I rx ry ⟨_, _, .tup ha (dp_ints ns), .tup hb (dp_ints ms), shapedT_ints ns, shapedT_ints ms, ?_⟩
  have e : PyData.eqv (.tuple (ns.map PyData.int)) (.tuple (ms.map PyData.int)) = decide (ns = ms) := by
    rw [← eqv_ints]
    simp only [PyData.eqv]
  rw [e]
  exact q
/-- one expression, two readings: either may be answered -/
def tAlt (t u : TE) : TE := fun σ H Q => t σ H Q ∨ u σ H Q
theorem pe_alt {e : Expr} {t u : TE} (h1 : PE X e t) (h2 : PE X e u) : PE X e (tAlt t u) :=
  ⟨fun pins s σ H Q I h => h.elim (h1.run pins s σ H Q I) (h2.run pins s σ H Q I)⟩
/-- * of any two that the model multiplies -/
theorem op_mulA : OpR X (binaryOp .Mult) (rI IntMulOk fun i j => .int (i * j)) := opI fun _ _ _ _ _ _ _ hc q => mul_int q hc
end
/-! ### heaps -/
theorem same_upd {H : Hp} {p : Addr} {o : HO} (h : H p = none) : Same H (upd H p o) := fun b x e => by
  rw [upd_ne (ne_of_none e h)]
  exact e
theorem same_new {H H' : Hp} {p : Addr} {o : HO} (s : Same H H') (h : H p = none) : Same H (upd H' p o) := fun b x e => by
  rw [upd_ne (ne_of_none e h)]
  exact s b x e
theorem same_lst {H H' : Hp} {p : Addr} {o : HO} (s : Same H H') (h : H' p = none) : Same H (upd H' p o) := same_new s (s.free h)
theorem ne_none {H : Hp} {a b : Addr} {o : HO} (h : H a = some o) (h' : H b = none) : b ≠ a := (ne_of_none h h').symm
/-- isinstance of own classes -/
theorem kit_self {K : PySem.W.Frag} {C : Addr} : PySem.W.kitOne K (.ref C) (.ref C) = some true := if_pos (by simp)
theorem kit_own {K : PySem.W.Frag} {C D : Addr} {b : Bool} (i : PySem.W.isClsIn K D = true) (t : PySem.W.typeIn K (.ref D) = some (.type "type")) (s : PySem.W.subIn K (.ref C) (.ref D) = some b) (ne : b = false → C ≠ D) : PySem.W.kitOne K (.ref C) (.ref D) = some b := by
  have i2 : (PySem.W.clsIn K D).isSome = true := i
  unfold PySem.W.kitOne
  by_cases c : C = D
  · subst c
    cases b with
    | true => exact if_pos (by simp)
    | false => exact absurd rfl (ne rfl)
  · rw [if_neg (by intro z; exact c (by simpa using z))]
    show (if ((PySem.W.clsIn K D).isSome && PySem.W.typeIn K (.ref D) == some (.type "type")) = true then PySem.W.subIn K (.ref C) (.ref D) else none) = some b
    rw [if_pos (by rw [i2, t]; rfl)]
    exact s
/-- whole numbers -/
inductive Wh (K : PySem.W.Frag) (H : Hp) : V → Bool → Prop where
  | int (n : Int) : Wh K H (.int n) (decide (0 ≤ n))
  | bl (b : Bool) : Wh K H (.bl b) false
  | oth {v : V} {t : String} : TyX K H v (.type t) → kitB t "int" = some false → Wh K H v false
end Tk
namespace TA
/-! ### rows of steps, by what they are -/
structure IsRow (k : Int) (h : Nat → Int) (p : Nat → Nat) : Prop where
  k1 : 1 ≤ k
  z : h 0 = 1
  s : ∀ n, h (n + 1) = h n + h (p n)
  le : ∀ n, p n ≤ n
  ge : ∀ n, h n ≤ k * h (p n)
  lt : ∀ n i, i < p n → k * h i < h n
section
variable {k : Int} {h : Nat → Int} {p : Nat → Nat}
theorem IsRow.pos (R : IsRow k h p) : ∀ n, 1 ≤ h n := by
  intro n
  induction n using Nat.strongRecOn with
  | _ n ih =>
    cases n with
    | zero => rw [R.z]; omega
    | succ m =>
      rw [R.s m]
      have a := ih m (Nat.lt_succ_self m)
      have b := ih (p m) (Nat.lt_succ_of_le (R.le m))
      omega
theorem IsRow.up (R : IsRow k h p) (n : Nat) : h n < h (n + 1) := by
  rw [R.s n]
  have := R.pos (p n)
  omega
theorem IsRow.mono (R : IsRow k h p) : ∀ {a b : Nat}, a ≤ b → h a ≤ h b := by
  intro a b hab
  induction b with
  | zero =>
    have e : a = 0 := by omega
    subst e
    exact Int.le_refl _
  | succ m ih =>
    by_cases e : a = m + 1
    · subst e
      exact Int.le_refl _
    · have := ih (by omega)
      have := R.up m
      omega
theorem IsRow.smono (R : IsRow k h p) {a b : Nat} (hab : a < b) : h a < h b := by
  have := R.up a
  have := R.mono (show a + 1 ≤ b from hab)
  omega
theorem IsRow.lt_of (R : IsRow k h p) {a b : Nat} (q : h a < h b) : a < b := by
  by_cases c : a < b
  · exact c
  · have := R.mono (show b ≤ a by omega)
    omega
theorem IsRow.inj (R : IsRow k h p) {a b : Nat} (q : h a = h b) : a = b := by
  rcases Nat.lt_trichotomy a b with c | c | c
  · have := R.smono c
    omega
  · exact c
  · have := R.smono c
    omega
theorem IsRow.big (R : IsRow k h p) : ∀ n : Nat, (n : Int) + 1 ≤ h n := by
  intro n
  induction n with
  | zero => rw [R.z]; omega
  | succ m ih =>
    have := R.up m
    omega
theorem kle (R : IsRow k h p) {a b : Int} (hab : a ≤ b) : k * a ≤ k * b := Int.mul_le_mul_of_nonneg_left hab (by have := R.k1; omega)
/-- what is less by the factor stands ahead of p -/
theorem IsRow.below (R : IsRow k h p) {i j : Nat} (q : k * h j < h i) : j < p i := by
  by_cases c : j < p i
  · exact c
  · have h1 := R.ge i
    have h2 := kle R (R.mono (show p i ≤ j by omega))
    omega
theorem IsRow.p_mono (R : IsRow k h p) (n : Nat) : p n ≤ p (n + 1) := by
  by_cases c : p n ≤ p (n + 1)
  · exact c
  · have h1 := R.lt n (p (n + 1)) (by omega)
    have h2 := R.ge (n + 1)
    have h3 := R.up n
    omega
/-! ### sums -/
def Gap (k : Int) : List Int → Prop
  | a :: b :: r => k * b < a ∧ Gap k (b :: r)
  | _ => True
def Of (h : Nat → Int) (l : List Int) : Prop := ∀ x ∈ l, ∃ i, x = h i
theorem Gap.tail {a : Int} {l : List Int} (g : Gap k (a :: l)) : Gap k l := by
  cases l with
  | nil => trivial
  | cons b r => exact g.2
theorem Gap.cons {a : Int} {l : List Int} (g : Gap k l) (q : ∀ b r, l = b :: r → k * b < a) : Gap k (a :: l) := by
  cases l with
  | nil => trivial
  | cons b r => exact ⟨q b r rfl, g⟩
theorem Of.tail {a : Int} {l : List Int} (o : Of h (a :: l)) : Of h l := fun x hx => o x (List.mem_cons_of_mem _ hx)
theorem sum_nonneg (R : IsRow k h p) : ∀ {l : List Int}, Of h l → 0 ≤ l.sum
  | [], _ => by simp
  | a :: r, o => by
    obtain ⟨i, e⟩ := o a List.mem_cons_self
    have := R.pos i
    have := sum_nonneg R o.tail
    rw [List.sum_cons]
    omega
/-- a sum is less than the step behind its first -/
theorem sum_lt (R : IsRow k h p) : ∀ {l : List Int} {i : Nat}, Gap k (h i :: l) → Of h l → l.sum < h (p i)
  | [], i, _, _ => by
    have := R.pos (p i)
    simp only [List.sum_nil]
    omega
  | b :: r, i, g, o => by
    obtain ⟨j, e⟩ := o b List.mem_cons_self
    subst e
    have hj : j < p i := R.below g.1
    have ih := sum_lt R (i := j) (l := r) g.2 o.tail
    have h1 := R.s j
    have h2 := R.mono (show j + 1 ≤ p i from hj)
    rw [List.sum_cons]
    omega
def greedy (h : Nat → Int) : Nat → Int → List Int
  | 0, _ => []
  | m + 1, n => if h m ≤ n then h m :: greedy h m (n - h m) else greedy h m n
theorem greedy_of : ∀ (m : Nat) (n : Int), Of h (greedy h m n) := by
  intro m
  induction m with
  | zero =>
    intro n x hx
    cases hx
  | succ m ih =>
    intro n x hx
    unfold greedy at hx
    split at hx
    · rcases List.mem_cons.mp hx with e | e
      · exact ⟨m, e⟩
      · exact ih _ x e
    · exact ih n x hx
theorem greedy_zero (R : IsRow k h p) : ∀ m, greedy h m 0 = [] := by
  intro m
  induction m with
  | zero => rfl
  | succ m ih =>
    unfold greedy
    have := R.pos m
    rw [if_neg (by omega)]
    exact ih
/-- the greedy sum comes to it, and is a sum -/
theorem greedy_ok (R : IsRow k h p) : ∀ (m : Nat) (n : Int), 0 ≤ n → n < h m → (greedy h m n).sum = n ∧ Gap k (greedy h m n) := by
  intro m
  induction m with
  | zero =>
    intro n h0 h1
    rw [R.z] at h1
    exact ⟨by show (0 : Int) = n; omega, trivial⟩
  | succ m ih =>
    intro n h0 h1
    unfold greedy
    split
    · rename_i c
      have hs := R.s m
      have hp := R.mono (R.le m)
      obtain ⟨a, b⟩ := ih (n - h m) (by omega) (by omega)
      refine ⟨by rw [List.sum_cons, a]; omega, b.cons fun x r e => ?_⟩
      obtain ⟨j, ej⟩ := greedy_of m (n - h m) x (by rw [e]; exact List.mem_cons_self)
      have hr : 0 ≤ r.sum := sum_nonneg R (l := r) fun y hy => greedy_of m (n - h m) y (by rw [e]; exact List.mem_cons_of_mem _ hy)
      rw [e, List.sum_cons] at a
      subst ej
      exact R.lt m j (R.lt_of (by omega))
    · rename_i c
      exact ih n h0 (by omega)
/-- there is no other -/
theorem greedy_uniq (R : IsRow k h p) : ∀ (m : Nat) (l : List Int), Gap k l → Of h l → l.sum < h m → l = greedy h m l.sum := by
  intro m
  induction m with
  | zero =>
    intro l g o q
    cases l with
    | nil => rfl
    | cons a r =>
      obtain ⟨i, e⟩ := o a List.mem_cons_self
      have := R.pos i
      have := sum_nonneg R o.tail
      rw [List.sum_cons, R.z] at q
      omega
  | succ m ih =>
    intro l g o q
    cases l with
    | nil =>
      show [] = greedy h (m + 1) 0
      rw [greedy_zero R]
    | cons a r =>
      obtain ⟨i, e⟩ := o a List.mem_cons_self
      subst e
      have h1 := sum_lt R g o.tail
      have h2 := R.s i
      have h3 := sum_nonneg R o.tail
      rw [List.sum_cons] at q
      have h4 : i < m + 1 := R.lt_of (by omega)
      unfold greedy
      by_cases c : i = m
      · subst c
        have h5 := R.mono (R.le i)
        rw [List.sum_cons, if_pos (by omega)]
        have e2 : h i + r.sum - h i = r.sum := by omega
        rw [e2, ← ih r g.tail o.tail (by omega)]
      · have h5 := R.mono (show i + 1 ≤ m by omega)
        rw [List.sum_cons, if_neg (by omega)]
        rw [← List.sum_cons]
        exact ih _ g o (by rw [List.sum_cons]; omega)
/-! ### growth -/
theorem IsRow.grow1 (R : IsRow k h p) (n : Nat) : ∀ m : Nat, (k + m) * h n ≤ k * h (n + m) := by
  intro m
  induction m with
  | zero => simp
  | succ m ih =>
    have h1 := R.s (n + m)
    have h2 := R.ge (n + m)
    have h3 := R.mono (show n ≤ n + m by omega)
    have e1 : (k + ((m + 1 : Nat) : Int)) * h n = (k + m) * h n + h n := by
      rw [show (k + ((m + 1 : Nat) : Int)) = (k + m) + 1 by omega, Int.add_mul, Int.one_mul]
    have e2 : k * h (n + m + 1) = k * h (n + m) + k * h (p (n + m)) := by rw [h1, Int.mul_add]
    show (k + ((m + 1 : Nat) : Int)) * h n ≤ k * h (n + m + 1)
    omega
theorem IsRow.dbl (R : IsRow k h p) (n : Nat) : 2 * h n ≤ h (n + k.toNat) := by
  have h1 := R.k1
  have g := R.grow1 n k.toNat
  have e : (k + (k.toNat : Int)) = k * 2 := by omega
  rw [e, Int.mul_assoc] at g
  exact Int.le_of_mul_le_mul_left g (by omega)
theorem IsRow.pow (R : IsRow k h p) : ∀ m : Nat, (2 : Int) ^ m ≤ h (k.toNat * m) := by
  intro m
  induction m with
  | zero =>
    rw [Nat.mul_zero, R.z]
    simp
  | succ m ih =>
    have g := R.dbl (k.toNat * m)
    rw [Int.pow_succ, Nat.mul_succ]
    omega
/-- how many steps there may be up to a number -/
theorem IsRow.few (R : IsRow k h p) {N B : Nat} (hk : k ≤ 30) (q : ∀ i, i < N → h i < 2 ^ B) : N ≤ 30 * B := by
  by_cases c : N ≤ 30 * B
  · exact c
  · have h1 := q (30 * B) (by omega)
    have h2 := R.pow B
    have h3 := R.mono (show k.toNat * B ≤ 30 * B from Nat.mul_le_mul_right B (by have := R.k1; omega))
    omega
end
/-! ### the row as it is made -/
def adv (k : Int) (l : List Int) : Nat := l.findIdx fun y => decide (l.getLastD 0 ≤ k * y)
def nxt (k : Int) (l : List Int) : List Int := l ++ [l.getLastD 0 + l.getD (adv k l) 0]
def row (k : Int) : Nat → List Int
  | 0 => [1]
  | n + 1 => nxt k (row k n)
def h (k : Int) (n : Nat) : Int := (row k n).getLastD 0
def p (k : Int) (n : Nat) : Nat := adv k (row k n)
theorem row_len (k : Int) : ∀ n, (row k n).length = n + 1
  | 0 => rfl
  | n + 1 => by
    show (nxt k (row k n)).length = n + 1 + 1
    unfold nxt
    rw [List.length_append, row_len k n]
    rfl
theorem row_succ (k : Int) (n : Nat) : row k (n + 1) = row k n ++ [h k (n + 1)] := by
  show nxt k (row k n) = row k n ++ [(nxt k (row k n)).getLastD 0]
  unfold nxt
  rw [List.getLastD_concat]
theorem row_get (k : Int) : ∀ n i, i ≤ n → (row k n)[i]? = some (h k i)
  | 0, i, hi => by
    have e : i = 0 := by omega
    subst e
    rfl
  | n + 1, i, hi => by
    rw [row_succ]
    by_cases c : i = n + 1
    · subst c
      rw [List.getElem?_append_right (by rw [row_len]; exact Nat.le_refl _), row_len, Nat.sub_self]
      rfl
    · rw [List.getElem?_append_left (by rw [row_len]; omega)]
      exact row_get k n i (by omega)
theorem row_getD (k : Int) {n i : Nat} (hi : i ≤ n) : (row k n).getD i 0 = h k i := by
  rw [List.getD_eq_getElem?_getD, row_get k n i hi]
  rfl
theorem row_map (k : Int) (n : Nat) : row k n = (List.range (n + 1)).map (h k) := by
  apply List.ext_getElem?
  intro i
  by_cases c : i ≤ n
  · rw [row_get k n i c, List.getElem?_map, List.getElem?_range (by omega)]
    rfl
  · rw [List.getElem?_eq_none_iff.mpr (by rw [row_len]; omega), List.getElem?_eq_none_iff.mpr (by rw [List.length_map, List.length_range]; omega)]
theorem isRow {k : Int} (hk : 1 ≤ k) : IsRow k (h k) (p k) := by
  have step : ∀ n, (∀ i, i ≤ n → 1 ≤ h k i) → p k n ≤ n ∧ h k n ≤ k * h k (p k n) ∧ (∀ i, i < p k n → k * h k i < h k n) ∧ h k (n + 1) = h k n + h k (p k n) := by
    intro n hp
    have hpos := hp n (Nat.le_refl _)
    have ex : ∃ x ∈ row k n, (fun y => decide ((row k n).getLastD 0 ≤ k * y)) x = true := by
      refine ⟨h k n, List.mem_of_getElem? (row_get k n n (Nat.le_refl _)), decide_eq_true ?_⟩
      show h k n ≤ k * h k n
      have := Int.mul_le_mul_of_nonneg_right hk (show 0 ≤ h k n by omega)
      omega
    have hlt : p k n < (row k n).length := List.findIdx_lt_length_of_exists ex
    have hle : p k n ≤ n := by
      rw [row_len] at hlt
      omega
    have hget : (row k n)[p k n] = h k (p k n) := by
      have := row_get k n _ hle
      rw [List.getElem?_eq_getElem hlt] at this
      exact Option.some.inj this
    refine ⟨hle, ?_, ?_, ?_⟩
    · have := List.findIdx_getElem (xs := row k n) (p := fun y => decide ((row k n).getLastD 0 ≤ k * y)) (w := hlt)
      have := of_decide_eq_true this
      change h k n ≤ k * (row k n)[p k n] at this
      rw [hget] at this
      exact this
    · intro i hi
      have hil : i < (row k n).length := Nat.lt_trans hi hlt
      have := List.not_of_lt_findIdx (xs := row k n) (p := fun y => decide ((row k n).getLastD 0 ≤ k * y)) hi
      have hg : (row k n)[i] = h k i := by
        have := row_get k n i (by omega)
        rw [List.getElem?_eq_getElem hil] at this
        exact Option.some.inj this
      have h2 : ¬ h k n ≤ k * (row k n)[i] := fun c => by
        have c2 : decide ((row k n).getLastD 0 ≤ k * (row k n)[i]) = true := decide_eq_true c
        simp_all
        omega
      rw [hg] at h2
      omega
    · show (nxt k (row k n)).getLastD 0 = h k n + h k (p k n)
      unfold nxt
      rw [List.getLastD_concat]
      show h k n + (row k n).getD (p k n) 0 = _
      rw [row_getD k hle]
  have pos : ∀ n, 1 ≤ h k n := by
    intro n
    induction n using Nat.strongRecOn with
    | _ n ih =>
      cases n with
      | zero => exact Int.le_refl _
      | succ m =>
        have hm : ∀ i, i ≤ m → 1 ≤ h k i := fun i hi => ih i (by omega)
        obtain ⟨a, _, _, b⟩ := step m hm
        have := hm m (Nat.le_refl _)
        have := hm _ a
        rw [b]
        omega
  exact ⟨hk, rfl, fun n => (step n fun i _ => pos i).2.2.2, fun n => (step n fun i _ => pos i).1, fun n => (step n fun i _ => pos i).2.1, fun n i q => (step n fun i _ => pos i).2.2.1 i q⟩
/-! ### the sum that comes to a heap -/
def parts (k n : Int) : List Int := greedy (h k) n.toNat n
theorem lt_h {k : Int} (hk : 1 ≤ k) {n : Int} (hn : 0 ≤ n) : n < h k n.toNat := by
  have := (isRow hk).big n.toNat
  omega
theorem parts_of {k : Int} (hk : 1 ≤ k) {n : Int} : Of (h k) (parts k n) := greedy_of _ _
theorem parts_sum {k : Int} (hk : 1 ≤ k) {n : Int} (hn : 0 ≤ n) : (parts k n).sum = n := (greedy_ok (isRow hk) _ _ hn (lt_h hk hn)).1
theorem parts_gap {k : Int} (hk : 1 ≤ k) {n : Int} (hn : 0 ≤ n) : Gap k (parts k n) := (greedy_ok (isRow hk) _ _ hn (lt_h hk hn)).2
theorem parts_uniq {k : Int} (hk : 1 ≤ k) {l : List Int} (g : Gap k l) (o : Of (h k) l) : parts k l.sum = l :=
  (greedy_uniq (isRow hk) _ l g o (lt_h hk (sum_nonneg (isRow hk) o))).symm
theorem greedy_parts {k : Int} (hk : 1 ≤ k) {n : Int} {m : Nat} (hn : 0 ≤ n) (hm : n < h k m) : greedy (h k) m n = parts k n := by
  obtain ⟨a, b⟩ := greedy_ok (isRow hk) m n hn hm
  have := parts_uniq hk b (greedy_of m n)
  rw [a] at this
  exact this.symm
theorem parts_zero {k : Int} : parts k 0 = [] := rfl
theorem parts_nil {k : Int} (hk : 1 ≤ k) {n : Int} (hn : 0 ≤ n) (e : parts k n = []) : n = 0 := by
  have := parts_sum hk hn
  rw [e] at this
  exact this.symm
theorem parts_pos {k : Int} (hk : 1 ≤ k) {n x : Int} (hx : x ∈ parts k n) : 1 ≤ x := by
  obtain ⟨i, e⟩ := parts_of hk x hx
  rw [e]
  exact (isRow hk).pos i
theorem mem_le : ∀ {l : List Int} {x : Int}, (∀ y ∈ l, 0 ≤ y) → x ∈ l → x ≤ l.sum
  | a :: r, x, hp, hx => by
    have hr : 0 ≤ r.sum := by
      clear hx
      have hp2 : ∀ y ∈ r, 0 ≤ y := fun y hy => hp y (List.mem_cons_of_mem _ hy)
      clear hp
      induction r with
      | nil => simp
      | cons b r ih =>
        have h1 := hp2 b List.mem_cons_self
        have h2 := ih fun y hy => hp2 y (List.mem_cons_of_mem _ hy)
        rw [List.sum_cons]
        omega
    have ha := hp a List.mem_cons_self
    rw [List.sum_cons]
    rcases List.mem_cons.mp hx with e | e
    · omega
    · have := mem_le (l := r) (fun y hy => hp y (List.mem_cons_of_mem _ hy)) e
      omega
theorem parts_le {k : Int} (hk : 1 ≤ k) {n x : Int} (hn : 0 ≤ n) (hx : x ∈ parts k n) : x ≤ n := by
  have := mem_le (l := parts k n) (fun y hy => by have := parts_pos hk hy; omega) hx
  rwa [parts_sum hk hn] at this
/-! ### who wins -/
def lost (k n L : Int) : Bool := match (parts k n).getLast? with
  | none => true
  | some x => decide (L < x)
theorem lost_nil {k n L : Int} (e : parts k n = []) : lost k n L = true := by
  unfold lost
  rw [e]
  rfl
theorem lost_some {k n L x : Int} (e : (parts k n).getLast? = some x) : lost k n L = decide (L < x) := by
  unfold lost
  rw [e]
theorem Gap.init {k : Int} : ∀ {l : List Int} {x : Int}, Gap k (l ++ [x]) → Gap k l
  | [], _, _ => trivial
  | [_], _, _ => trivial
  | a :: b :: r, x, g => ⟨g.1, Gap.init (l := b :: r) g.2⟩
theorem Gap.last {k : Int} : ∀ {l : List Int} {y x : Int}, Gap k (l ++ [y] ++ [x]) → k * x < y
  | [], _, _, g => g.1
  | [_], _, _, g => g.2.1
  | a :: b :: r, y, x, g => Gap.last (l := b :: r) g.2
theorem Gap.app {k : Int} : ∀ {l r : List Int}, Gap k l → Gap k r → (∀ y x t, l.getLast? = some y → r = x :: t → k * x < y) → Gap k (l ++ r)
  | [], r, _, g2, _ => g2
  | [a], r, _, g2, q => g2.cons fun b t e => q a b t rfl e
  | a :: b :: l, r, g1, g2, q => ⟨g1.1, Gap.app (l := b :: l) g1.2 g2 fun y x t e e2 => q y x t (by rw [List.getLast?_cons_cons]; exact e) e2⟩
theorem sum_app (l r : List Int) : (l ++ r).sum = l.sum + r.sum := List.sum_append
theorem Of.app {h : Nat → Int} {l r : List Int} (a : Of h l) (b : Of h r) : Of h (l ++ r) := fun x hx => (List.mem_append.mp hx).elim (a x) (b x)
/-- the last part taken away -/
theorem parts_less {k : Int} (hk : 1 ≤ k) {n x : Int} {l : List Int} (hn : 0 ≤ n) (e : parts k n = l ++ [x]) : parts k (n - x) = l ∧ 1 ≤ x ∧ x ≤ n := by
  have hs := parts_sum hk hn
  have hg := parts_gap hk hn
  have ho := parts_of hk (n := n)
  have hx : x ∈ parts k n := by rw [e]; exact List.mem_append_right _ List.mem_cons_self
  have h1 := parts_pos hk hx
  have h2 := parts_le hk hn hx
  rw [e] at hs hg ho
  rw [sum_app, List.sum_cons, List.sum_nil] at hs
  have := parts_uniq hk hg.init fun y hy => ho y (List.mem_append_left _ hy)
  rw [show l.sum = n - x by omega] at this
  exact ⟨this, h1, h2⟩
theorem lost_less {k : Int} (hk : 1 ≤ k) {n x : Int} (hn : 0 ≤ n) (e : (parts k n).getLast? = some x) : lost k (n - x) (k * x) = true ∧ 1 ≤ x ∧ x ≤ n := by
  obtain ⟨l, e2⟩ : ∃ l, parts k n = l ++ [x] := List.getLast?_eq_some_iff.mp e
  obtain ⟨a, b, c⟩ := parts_less hk hn e2
  refine ⟨?_, b, c⟩
  cases q : l.getLast? with
  | none =>
    have : l = [] := List.getLast?_eq_none_iff.mp q
    exact lost_nil (by rw [a, this])
  | some y =>
    rw [lost_some (x := y) (by rw [a]; exact q)]
    obtain ⟨l2, e3⟩ := List.getLast?_eq_some_iff.mp q
    have hg := parts_gap hk hn
    rw [e2, e3] at hg
    exact decide_eq_true hg.last
/-- from a lost one no taking leads to a lost one -/
theorem lost_taking {k : Int} (hk : 1 ≤ k) {n L t : Int} (hn : 0 ≤ n) (hl : lost k n L = true) (h1 : 1 ≤ t) (h2 : t ≤ n) (h3 : t ≤ L) : lost k (n - t) (k * t) = false := by
  have R := isRow hk
  cases q : (parts k n).getLast? with
  | none =>
    have e : parts k n = [] := List.getLast?_eq_none_iff.mp q
    have := parts_nil hk hn e
    omega
  | some x =>
    obtain ⟨l, e⟩ := List.getLast?_eq_some_iff.mp q
    rw [lost_some q] at hl
    have hlx := of_decide_eq_true hl
    obtain ⟨a, b, c⟩ := parts_less hk hn e
    have hg := parts_gap hk hn
    have ho := parts_of hk (n := n)
    rw [e] at hg ho
    -- what is left of the last part
    have r0 : 0 ≤ x - t := by omega
    have rs := parts_sum hk r0
    have rg := parts_gap hk r0
    have ro := parts_of hk (n := x - t)
    have rne : parts k (x - t) ≠ [] := fun z => by
      have := parts_nil hk r0 z
      omega
    have all : parts k (n - t) = l ++ parts k (x - t) := by
      have hgap : Gap k (l ++ parts k (x - t)) := hg.init.app rg fun y z t' el er => by
        obtain ⟨l2, e3⟩ := List.getLast?_eq_some_iff.mp el
        rw [e3] at hg
        have h4 := hg.last
        have h5 := parts_le hk r0 (x := z) (by rw [er]; exact List.mem_cons_self)
        have h6 := kle R (show z ≤ x by omega)
        omega
      have := parts_uniq hk hgap (Of.app (fun y hy => ho y (List.mem_append_left _ hy)) ro)
      rw [sum_app, rs] at this
      have ls : l.sum = n - x := by
        have := parts_sum hk (show 0 ≤ n - x by omega)
        rwa [a] at this
      rw [show l.sum + (x - t) = n - t by omega] at this
      exact this
    obtain ⟨y, hy⟩ : ∃ y, (parts k (x - t)).getLast? = some y := by
      cases q2 : (parts k (x - t)).getLast? with
      | none => exact absurd (List.getLast?_eq_none_iff.mp q2) rne
      | some y => exact ⟨y, rfl⟩
    have hlast : (parts k (n - t)).getLast? = some y := by
      rw [all, List.getLast?_append, hy]
      rfl
    rw [lost_some hlast]
    apply decide_eq_false
    intro bad
    -- else the last part would have two sums
    have ts := parts_sum hk (show 0 ≤ t by omega)
    have tg := parts_gap hk (show 0 ≤ t by omega)
    have hgap : Gap k (parts k (x - t) ++ parts k t) := rg.app tg fun y' z t' el er => by
      rw [hy] at el
      cases el
      have h5 := parts_le hk (show 0 ≤ t by omega) (x := z) (by rw [er]; exact List.mem_cons_self)
      have h6 := kle R h5
      omega
    have u := parts_uniq hk hgap (Of.app ro (parts_of hk))
    rw [sum_app, rs, ts, show x - t + t = x by omega] at u
    obtain ⟨i, ei⟩ := ho x (List.mem_append_right _ List.mem_cons_self)
    have v := parts_uniq hk (l := [x]) trivial (fun y' hy' => ⟨i, by rw [List.mem_singleton.mp hy', ei]⟩)
    rw [List.sum_cons, List.sum_nil, Int.add_zero] at v
    rw [v] at u
    have hlen : ([x] : List Int).length = (parts k (x - t)).length + (parts k t).length := by
      rw [← List.length_append, ← u]
    have n1 : (parts k (x - t)).length ≠ 0 := fun z => rne (List.length_eq_zero_iff.mp z)
    have n2 : (parts k t).length ≠ 0 := fun z => by
      have := parts_nil hk (show 0 ≤ t by omega) (List.length_eq_zero_iff.mp z)
      omega
    have : ([x] : List Int).length = 1 := rfl
    omega
/-- who is to take can win just where the last part is no more than the limit -/
theorem not_lost {k : Int} {n L x : Int} (e : (parts k n).getLast? = some x) : lost k n L = false ↔ x ≤ L := by
  rw [lost_some e]
  constructor
  · intro q
    have := of_decide_eq_false q
    omega
  · intro q
    exact decide_eq_false (by omega)
theorem lost_zero {k L : Int} : lost k 0 L = true := rfl
end TA
namespace Tx
open PySem PySem.Spec PyProof.Rows L2 Tk
/-! ### the text by places -/
def topS (i : Nat) : Stmt := PySem.Challenge.pw_takeagain_k04_answers_by_hand.main.body.getD i (.Pass ⟨0, 0, 0, 0⟩)
abbrev s_is_whole : Stmt := topS 1
abbrev s_Steps_init : Stmt := inClass (topS 2) 0
abbrev s_Steps_more : Stmt := inClass (topS 2) 1
abbrev s_steps_to : Stmt := topS 3
abbrev s_parts_of : Stmt := topS 4
abbrev s_is_sum : Stmt := topS 5
abbrev s_is_lost : Stmt := topS 8
abbrev s_Lost_init : Stmt := inClass (topS 9) 0
abbrev s_Lost_shows : Stmt := inClass (topS 9) 1
abbrev s_Won_init : Stmt := inClass (topS 10) 0
abbrev s_Won_shows : Stmt := inClass (topS 10) 1
abbrev s__law_cell_at : Stmt := topS 12
abbrev s__law_draw : Stmt := topS 13
abbrev s__law_value : Stmt := topS 14
abbrev s__law_factor : Stmt := topS 15
abbrev s__law_steps : Stmt := topS 16
abbrev s__law_parts : Stmt := topS 17
abbrev s__law_heap : Stmt := topS 18
abbrev s__law_limits : Stmt := topS 19
abbrev s__law_lost : Stmt := topS 20
abbrev s__law_whole : Stmt := topS 21
abbrev s__law_is_sum : Stmt := topS 22
abbrev s__law_says : Stmt := topS 23
abbrev s__law_lost_right : Stmt := topS 24
abbrev s__law_won_right : Stmt := topS 25
abbrev s_law : Stmt := topS 26
abbrev n_is_whole : List Str := ["thing"]
theorem sc_is_whole : FnScope ["thing"] ["thing"] (defScope s_is_whole) := ⟨rfl, rfl, rfl, by decide +kernel, rfl, by decide +kernel, by decide +kernel⟩
abbrev n_Steps_init : List Str := ["self", "factor"]
theorem sc_Steps_init : FnScope ["self", "factor"] ["self", "factor"] (defScope s_Steps_init) := ⟨rfl, rfl, rfl, by decide +kernel, rfl, by decide +kernel, by decide +kernel⟩
abbrev n_Steps_more : List Str := ["self"]
theorem sc_Steps_more : FnScope ["self"] ["self"] (defScope s_Steps_more) := ⟨rfl, rfl, rfl, by decide +kernel, rfl, by decide +kernel, by decide +kernel⟩
abbrev n_steps_to : List Str := ["factor", "number", "steps"]
theorem sc_steps_to : FnScope ["factor", "number", "steps"] ["factor", "number"] (defScope s_steps_to) := ⟨rfl, rfl, rfl, by decide +kernel, rfl, by decide +kernel, by decide +kernel⟩
abbrev n_parts_of : List Str := ["factor", "heap", "found", "step"]
theorem sc_parts_of : FnScope ["factor", "heap", "found", "step"] ["factor", "heap"] (defScope s_parts_of) := ⟨rfl, rfl, rfl, by decide +kernel, rfl, by decide +kernel, by decide +kernel⟩
abbrev n_is_sum : List Str := ["factor", "parts", "steps", "part", "at"]
theorem sc_is_sum : FnScope ["factor", "parts", "steps", "part", "at"] ["factor", "parts"] (defScope s_is_sum) := ⟨rfl, rfl, rfl, by decide +kernel, rfl, by decide +kernel, by decide +kernel⟩
abbrev n_is_lost : List Str := ["factor", "heap", "limit", "parts"]
theorem sc_is_lost : FnScope ["factor", "heap", "limit", "parts"] ["factor", "heap", "limit"] (defScope s_is_lost) := ⟨rfl, rfl, rfl, by decide +kernel, rfl, by decide +kernel, by decide +kernel⟩
abbrev n_Lost_init : List Str := ["self", "parts"]
theorem sc_Lost_init : FnScope ["self", "parts"] ["self", "parts"] (defScope s_Lost_init) := ⟨rfl, rfl, rfl, by decide +kernel, rfl, by decide +kernel, by decide +kernel⟩
abbrev n_Lost_shows : List Str := ["self", "factor", "heap", "limit"]
theorem sc_Lost_shows : FnScope ["self", "factor", "heap", "limit"] ["self", "factor", "heap", "limit"] (defScope s_Lost_shows) := ⟨rfl, rfl, rfl, by decide +kernel, rfl, by decide +kernel, by decide +kernel⟩
abbrev n_Won_init : List Str := ["self", "taking"]
theorem sc_Won_init : FnScope ["self", "taking"] ["self", "taking"] (defScope s_Won_init) := ⟨rfl, rfl, rfl, by decide +kernel, rfl, by decide +kernel, by decide +kernel⟩
abbrev n_Won_shows : List Str := ["self", "factor", "heap", "limit"]
theorem sc_Won_shows : FnScope ["self", "factor", "heap", "limit"] ["self", "factor", "heap", "limit"] (defScope s_Won_shows) := ⟨rfl, rfl, rfl, by decide +kernel, rfl, by decide +kernel, by decide +kernel⟩
abbrev n__law_cell_at : List Str := ["_law_script", "_law_k"]
theorem sc__law_cell_at : FnScope ["_law_script", "_law_k"] ["_law_script", "_law_k"] (defScope s__law_cell_at) := ⟨rfl, rfl, rfl, by decide +kernel, rfl, by decide +kernel, by decide +kernel⟩
abbrev n__law_draw : List Str := ["_law_cell", "_law_k", "_law_many", "_law_primes"]
theorem sc__law_draw : FnScope ["_law_cell", "_law_k", "_law_many", "_law_primes"] ["_law_cell", "_law_k", "_law_many"] (defScope s__law_draw) := ⟨rfl, rfl, rfl, by decide +kernel, rfl, by decide +kernel, by decide +kernel⟩
abbrev n__law_value : List Str := ["_law_cell", "_law_k", "_law_limit"]
theorem sc__law_value : FnScope ["_law_cell", "_law_k", "_law_limit"] ["_law_cell", "_law_k", "_law_limit"] (defScope s__law_value) := ⟨rfl, rfl, rfl, by decide +kernel, rfl, by decide +kernel, by decide +kernel⟩
abbrev n__law_factor : List Str := ["_law_script", "_law_k", "_law_cell"]
theorem sc__law_factor : FnScope ["_law_script", "_law_k", "_law_cell"] ["_law_script", "_law_k"] (defScope s__law_factor) := ⟨rfl, rfl, rfl, by decide +kernel, rfl, by decide +kernel, by decide +kernel⟩
abbrev n__law_steps : List Str := ["_law_factor_here", "_law_number", "_law_found", "_law_at", "_law_step"]
theorem sc__law_steps : FnScope ["_law_factor_here", "_law_number", "_law_found", "_law_at", "_law_step"] ["_law_factor_here", "_law_number"] (defScope s__law_steps) := ⟨rfl, rfl, rfl, by decide +kernel, rfl, by decide +kernel, by decide +kernel⟩
abbrev n__law_parts : List Str := ["_law_factor_here", "_law_heap_here", "_law_found", "_law_step"]
theorem sc__law_parts : FnScope ["_law_factor_here", "_law_heap_here", "_law_found", "_law_step"] ["_law_factor_here", "_law_heap_here"] (defScope s__law_parts) := ⟨rfl, rfl, rfl, by decide +kernel, rfl, by decide +kernel, by decide +kernel⟩
abbrev n__law_heap : List Str := ["_law_script", "_law_k", "_law_factor_here", "_law_cell", "_law_kind", "_law_found", "_law_steps_here"]
theorem sc__law_heap : FnScope ["_law_script", "_law_k", "_law_factor_here", "_law_cell", "_law_kind", "_law_found", "_law_steps_here"] ["_law_script", "_law_k", "_law_factor_here"] (defScope s__law_heap) := ⟨rfl, rfl, rfl, by decide +kernel, rfl, by decide +kernel, by decide +kernel⟩
abbrev n__law_limits : List Str := ["_law_factor_here", "_law_heap_here", "_law_parts_here", "_law_least", "_law_found"]
theorem sc__law_limits : FnScope ["_law_factor_here", "_law_heap_here", "_law_parts_here", "_law_least", "_law_found"] ["_law_factor_here", "_law_heap_here"] (defScope s__law_limits) := ⟨rfl, rfl, rfl, by decide +kernel, rfl, by decide +kernel, by decide +kernel⟩
abbrev n__law_lost : List Str := ["_law_factor_here", "_law_heap_here", "_law_limit", "_law_parts_here"]
theorem sc__law_lost : FnScope ["_law_factor_here", "_law_heap_here", "_law_limit", "_law_parts_here"] ["_law_factor_here", "_law_heap_here", "_law_limit"] (defScope s__law_lost) := ⟨rfl, rfl, rfl, by decide +kernel, rfl, by decide +kernel, by decide +kernel⟩
abbrev n__law_whole : List Str := ["_law_number"]
theorem sc__law_whole : FnScope ["_law_number"] ["_law_number"] (defScope s__law_whole) := ⟨rfl, rfl, rfl, by decide +kernel, rfl, by decide +kernel, by decide +kernel⟩
abbrev n__law_is_sum : List Str := ["_law_factor_here", "_law_parts_here", "_law_part"]
theorem sc__law_is_sum : FnScope ["_law_factor_here", "_law_parts_here", "_law_part"] ["_law_factor_here", "_law_parts_here"] (defScope s__law_is_sum) := ⟨rfl, rfl, rfl, by decide +kernel, rfl, by decide +kernel, by decide +kernel⟩
abbrev n__law_says : List Str := ["_law_said", "_law_due"]
theorem sc__law_says : FnScope ["_law_said", "_law_due"] ["_law_said", "_law_due"] (defScope s__law_says) := ⟨rfl, rfl, rfl, by decide +kernel, rfl, by decide +kernel, by decide +kernel⟩
abbrev n__law_lost_right : List Str := ["_law_factor_here", "_law_heap_here", "_law_limit", "_law_parts_here", "_law_handed", "_law_answer", "_law_due"]
theorem sc__law_lost_right : FnScope ["_law_factor_here", "_law_heap_here", "_law_limit", "_law_parts_here", "_law_handed", "_law_answer", "_law_due"] ["_law_factor_here", "_law_heap_here", "_law_limit", "_law_parts_here"] (defScope s__law_lost_right) := ⟨rfl, rfl, rfl, by decide +kernel, rfl, by decide +kernel, by decide +kernel⟩
abbrev n__law_won_right : List Str := ["_law_factor_here", "_law_heap_here", "_law_limit", "_law_taking", "_law_due"]
theorem sc__law_won_right : FnScope ["_law_factor_here", "_law_heap_here", "_law_limit", "_law_taking", "_law_due"] ["_law_factor_here", "_law_heap_here", "_law_limit", "_law_taking"] (defScope s__law_won_right) := ⟨rfl, rfl, rfl, by decide +kernel, rfl, by decide +kernel, by decide +kernel⟩
abbrev n_law : List Str := ["_law_script", "_law_k", "_law_factor_here", "_law_cell", "_law_heap_here", "_law_parts_here", "_law_sums", "_law_limit", "_law_least", "_law_taking", "_law_good", "_law_bad", "_law_part", "_law_some", "_law_said"]
theorem sc_law : FnScope ["_law_script", "_law_k", "_law_factor_here", "_law_cell", "_law_heap_here", "_law_parts_here", "_law_sums", "_law_limit", "_law_least", "_law_taking", "_law_good", "_law_bad", "_law_part", "_law_some", "_law_said"] ["_law_script"] (defScope s_law) := ⟨rfl, rfl, rfl, by decide +kernel, rfl, by decide +kernel, by decide +kernel⟩
theorem bd_is_whole {K : PySem.W.Frag} {f : Addr} {fd : FuncData} (F : Fun K "is_whole" "is_whole" s_is_whole f fd) : Binds K fd ["thing"] [] := F.binds (ps := ["thing"]) fun _ _ _ _ _ _ us hl => match us, hl with | [_], _ => rfl
theorem bd_Steps_init {K : PySem.W.Frag} {f : Addr} {fd : FuncData} (F : Fun K "__init__" "Steps.__init__" s_Steps_init f fd) : Binds K fd ["self", "factor"] [] := F.binds (ps := ["self", "factor"]) fun _ _ _ _ _ _ us hl => match us, hl with | [_, _], _ => rfl
theorem bd_Steps_more {K : PySem.W.Frag} {f : Addr} {fd : FuncData} (F : Fun K "more" "Steps.more" s_Steps_more f fd) : Binds K fd ["self"] [] := F.binds (ps := ["self"]) fun _ _ _ _ _ _ us hl => match us, hl with | [_], _ => rfl
theorem bd_steps_to {K : PySem.W.Frag} {f : Addr} {fd : FuncData} (F : Fun K "steps_to" "steps_to" s_steps_to f fd) : Binds K fd ["factor", "number"] [] := F.binds (ps := ["factor", "number"]) fun _ _ _ _ _ _ us hl => match us, hl with | [_, _], _ => rfl
theorem bd_parts_of {K : PySem.W.Frag} {f : Addr} {fd : FuncData} (F : Fun K "parts_of" "parts_of" s_parts_of f fd) : Binds K fd ["factor", "heap"] [] := F.binds (ps := ["factor", "heap"]) fun _ _ _ _ _ _ us hl => match us, hl with | [_, _], _ => rfl
theorem bd_is_sum {K : PySem.W.Frag} {f : Addr} {fd : FuncData} (F : Fun K "is_sum" "is_sum" s_is_sum f fd) : Binds K fd ["factor", "parts"] [] := F.binds (ps := ["factor", "parts"]) fun _ _ _ _ _ _ us hl => match us, hl with | [_, _], _ => rfl
theorem bd_is_lost {K : PySem.W.Frag} {f : Addr} {fd : FuncData} (F : Fun K "is_lost" "is_lost" s_is_lost f fd) : Binds K fd ["factor", "heap", "limit"] [] := F.binds (ps := ["factor", "heap", "limit"]) fun _ _ _ _ _ _ us hl => match us, hl with | [_, _, _], _ => rfl
theorem bd_Lost_init {K : PySem.W.Frag} {f : Addr} {fd : FuncData} (F : Fun K "__init__" "Lost.__init__" s_Lost_init f fd) : Binds K fd ["self", "parts"] [] := F.binds (ps := ["self", "parts"]) fun _ _ _ _ _ _ us hl => match us, hl with | [_, _], _ => rfl
theorem bd_Lost_shows {K : PySem.W.Frag} {f : Addr} {fd : FuncData} (F : Fun K "shows" "Lost.shows" s_Lost_shows f fd) : Binds K fd ["self", "factor", "heap", "limit"] [] := F.binds (ps := ["self", "factor", "heap", "limit"]) fun _ _ _ _ _ _ us hl => match us, hl with | [_, _, _, _], _ => rfl
theorem bd_Won_init {K : PySem.W.Frag} {f : Addr} {fd : FuncData} (F : Fun K "__init__" "Won.__init__" s_Won_init f fd) : Binds K fd ["self", "taking"] [] := F.binds (ps := ["self", "taking"]) fun _ _ _ _ _ _ us hl => match us, hl with | [_, _], _ => rfl
theorem bd_Won_shows {K : PySem.W.Frag} {f : Addr} {fd : FuncData} (F : Fun K "shows" "Won.shows" s_Won_shows f fd) : Binds K fd ["self", "factor", "heap", "limit"] [] := F.binds (ps := ["self", "factor", "heap", "limit"]) fun _ _ _ _ _ _ us hl => match us, hl with | [_, _, _, _], _ => rfl
theorem bd__law_cell_at {K : PySem.W.Frag} {f : Addr} {fd : FuncData} (F : Fun K "_law_cell_at" "_law_cell_at" s__law_cell_at f fd) : Binds K fd ["_law_script", "_law_k"] [] := F.binds (ps := ["_law_script", "_law_k"]) fun _ _ _ _ _ _ us hl => match us, hl with | [_, _], _ => rfl
theorem bd__law_draw {K : PySem.W.Frag} {f : Addr} {fd : FuncData} (F : Fun K "_law_draw" "_law_draw" s__law_draw f fd) : Binds K fd ["_law_cell", "_law_k", "_law_many"] [] := F.binds (ps := ["_law_cell", "_law_k", "_law_many"]) fun _ _ _ _ _ _ us hl => match us, hl with | [_, _, _], _ => rfl
theorem bd__law_value {K : PySem.W.Frag} {f : Addr} {fd : FuncData} (F : Fun K "_law_value" "_law_value" s__law_value f fd) : Binds K fd ["_law_cell", "_law_k", "_law_limit"] [] := F.binds (ps := ["_law_cell", "_law_k", "_law_limit"]) fun _ _ _ _ _ _ us hl => match us, hl with | [_, _, _], _ => rfl
theorem bd__law_factor {K : PySem.W.Frag} {f : Addr} {fd : FuncData} (F : Fun K "_law_factor" "_law_factor" s__law_factor f fd) : Binds K fd ["_law_script", "_law_k"] [] := F.binds (ps := ["_law_script", "_law_k"]) fun _ _ _ _ _ _ us hl => match us, hl with | [_, _], _ => rfl
theorem bd__law_steps {K : PySem.W.Frag} {f : Addr} {fd : FuncData} (F : Fun K "_law_steps" "_law_steps" s__law_steps f fd) : Binds K fd ["_law_factor_here", "_law_number"] [] := F.binds (ps := ["_law_factor_here", "_law_number"]) fun _ _ _ _ _ _ us hl => match us, hl with | [_, _], _ => rfl
theorem bd__law_parts {K : PySem.W.Frag} {f : Addr} {fd : FuncData} (F : Fun K "_law_parts" "_law_parts" s__law_parts f fd) : Binds K fd ["_law_factor_here", "_law_heap_here"] [] := F.binds (ps := ["_law_factor_here", "_law_heap_here"]) fun _ _ _ _ _ _ us hl => match us, hl with | [_, _], _ => rfl
theorem bd__law_heap {K : PySem.W.Frag} {f : Addr} {fd : FuncData} (F : Fun K "_law_heap" "_law_heap" s__law_heap f fd) : Binds K fd ["_law_script", "_law_k", "_law_factor_here"] [] := F.binds (ps := ["_law_script", "_law_k", "_law_factor_here"]) fun _ _ _ _ _ _ us hl => match us, hl with | [_, _, _], _ => rfl
theorem bd__law_limits {K : PySem.W.Frag} {f : Addr} {fd : FuncData} (F : Fun K "_law_limits" "_law_limits" s__law_limits f fd) : Binds K fd ["_law_factor_here", "_law_heap_here"] [] := F.binds (ps := ["_law_factor_here", "_law_heap_here"]) fun _ _ _ _ _ _ us hl => match us, hl with | [_, _], _ => rfl
theorem bd__law_lost {K : PySem.W.Frag} {f : Addr} {fd : FuncData} (F : Fun K "_law_lost" "_law_lost" s__law_lost f fd) : Binds K fd ["_law_factor_here", "_law_heap_here", "_law_limit"] [] := F.binds (ps := ["_law_factor_here", "_law_heap_here", "_law_limit"]) fun _ _ _ _ _ _ us hl => match us, hl with | [_, _, _], _ => rfl
theorem bd__law_whole {K : PySem.W.Frag} {f : Addr} {fd : FuncData} (F : Fun K "_law_whole" "_law_whole" s__law_whole f fd) : Binds K fd ["_law_number"] [] := F.binds (ps := ["_law_number"]) fun _ _ _ _ _ _ us hl => match us, hl with | [_], _ => rfl
theorem bd__law_is_sum {K : PySem.W.Frag} {f : Addr} {fd : FuncData} (F : Fun K "_law_is_sum" "_law_is_sum" s__law_is_sum f fd) : Binds K fd ["_law_factor_here", "_law_parts_here"] [] := F.binds (ps := ["_law_factor_here", "_law_parts_here"]) fun _ _ _ _ _ _ us hl => match us, hl with | [_, _], _ => rfl
theorem bd__law_says {K : PySem.W.Frag} {f : Addr} {fd : FuncData} (F : Fun K "_law_says" "_law_says" s__law_says f fd) : Binds K fd ["_law_said", "_law_due"] [] := F.binds (ps := ["_law_said", "_law_due"]) fun _ _ _ _ _ _ us hl => match us, hl with | [_, _], _ => rfl
theorem bd__law_lost_right {K : PySem.W.Frag} {f : Addr} {fd : FuncData} (F : Fun K "_law_lost_right" "_law_lost_right" s__law_lost_right f fd) : Binds K fd ["_law_factor_here", "_law_heap_here", "_law_limit", "_law_parts_here"] [] := F.binds (ps := ["_law_factor_here", "_law_heap_here", "_law_limit", "_law_parts_here"]) fun _ _ _ _ _ _ us hl => match us, hl with | [_, _, _, _], _ => rfl
theorem bd__law_won_right {K : PySem.W.Frag} {f : Addr} {fd : FuncData} (F : Fun K "_law_won_right" "_law_won_right" s__law_won_right f fd) : Binds K fd ["_law_factor_here", "_law_heap_here", "_law_limit", "_law_taking"] [] := F.binds (ps := ["_law_factor_here", "_law_heap_here", "_law_limit", "_law_taking"]) fun _ _ _ _ _ _ us hl => match us, hl with | [_, _, _, _], _ => rfl
theorem bd_law {K : PySem.W.Frag} {f : Addr} {fd : FuncData} (F : Fun K "law" "law" s_law f fd) : Binds K fd ["_law_script"] [] := F.binds (ps := ["_law_script"]) fun _ _ _ _ _ _ us hl => match us, hl with | [_], _ => rfl
structure Txt (K : PySem.W.Frag) (mg : Str → Option Value) (CSteps CLost CWon : Addr) : Prop where
  D_is_whole : Dfn K mg "is_whole" s_is_whole
  D_steps_to : Dfn K mg "steps_to" s_steps_to
  D_parts_of : Dfn K mg "parts_of" s_parts_of
  D_is_sum : Dfn K mg "is_sum" s_is_sum
  D_is_lost : Dfn K mg "is_lost" s_is_lost
  D__law_cell_at : Dfn K mg "_law_cell_at" s__law_cell_at
  D__law_draw : Dfn K mg "_law_draw" s__law_draw
  D__law_value : Dfn K mg "_law_value" s__law_value
  D__law_factor : Dfn K mg "_law_factor" s__law_factor
  D__law_steps : Dfn K mg "_law_steps" s__law_steps
  D__law_parts : Dfn K mg "_law_parts" s__law_parts
  D__law_heap : Dfn K mg "_law_heap" s__law_heap
  D__law_limits : Dfn K mg "_law_limits" s__law_limits
  D__law_lost : Dfn K mg "_law_lost" s__law_lost
  D__law_whole : Dfn K mg "_law_whole" s__law_whole
  D__law_is_sum : Dfn K mg "_law_is_sum" s__law_is_sum
  D__law_says : Dfn K mg "_law_says" s__law_says
  D__law_lost_right : Dfn K mg "_law_lost_right" s__law_lost_right
  D__law_won_right : Dfn K mg "_law_won_right" s__law_won_right
  e_Steps : mg "Steps" = some (.ref CSteps)
  mk_Steps : PySem.W.makesIn K CSteps = true
  kp_Steps : PySem.W.keepIn K (.ref CSteps) = true
  cl_Steps : Cls K CSteps
  n_Steps_factor : NoAttr K CSteps "factor"
  n_Steps_made : NoAttr K CSteps "made"
  n_Steps_least : NoAttr K CSteps "least"
  D_Steps_init : Mdf K CSteps "__init__" "Steps.__init__" s_Steps_init
  D_Steps_more : Mdf K CSteps "more" "Steps.more" s_Steps_more
  e_Lost : mg "Lost" = some (.ref CLost)
  mk_Lost : PySem.W.makesIn K CLost = true
  kp_Lost : PySem.W.keepIn K (.ref CLost) = true
  cl_Lost : Cls K CLost
  n_Lost_parts : NoAttr K CLost "parts"
  D_Lost_init : Mdf K CLost "__init__" "Lost.__init__" s_Lost_init
  D_Lost_shows : Mdf K CLost "shows" "Lost.shows" s_Lost_shows
  e_Won : mg "Won" = some (.ref CWon)
  mk_Won : PySem.W.makesIn K CWon = true
  kp_Won : PySem.W.keepIn K (.ref CWon) = true
  cl_Won : Cls K CWon
  n_Won_taking : NoAttr K CWon "taking"
  D_Won_init : Mdf K CWon "__init__" "Won.__init__" s_Won_init
  D_Won_shows : Mdf K CWon "shows" "Won.shows" s_Won_shows
  b_all : mg "all" = none
  b_list : mg "list" = none
  b_range : mg "range" = none
  b_isinstance : mg "isinstance" = none
  b_int : mg "int" = none
  b_len : mg "len" = none
  b_max : mg "max" = none
  b_bool : mg "bool" = none
  b_min : mg "min" = none
  b_sum : mg "sum" = none
end Tx
namespace TA
/-- where the search for the next least stands behind n steps -/
def q (k : Int) : Nat → Nat
  | 0 => 0
  | n + 1 => p k n
theorem q_le {k : Int} (hk : 1 ≤ k) : ∀ n, q k n ≤ p k n
  | 0 => Nat.zero_le _
  | n + 1 => (isRow hk).p_mono n
end TA
namespace Tx
open PySem PySem.Spec PyProof.Rows L2 Tk TA
/-! ### fields -/
theorem putF_idem (f : Str) (v u : V) : ∀ fs : List (Str × V), putF f v (putF f u fs) = putF f v fs
  | [] => by
    show (if f = f then _ else _) = _
    rw [if_pos rfl]
    all_goals rfl
  | (g, x) :: r => by
    have ih := putF_idem f v u r
    by_cases h : g = f
    · show putF f v (if g = f then (g, u) :: r else (g, x) :: putF f u r) = (if g = f then (g, v) :: r else (g, x) :: putF f v r)
      rw [if_pos h, if_pos h]
      show (if g = f then (g, v) :: r else (g, u) :: putF f v r) = (g, v) :: r
      rw [if_pos h]
    · show putF f v (if g = f then (g, u) :: r else (g, x) :: putF f u r) = (if g = f then (g, v) :: r else (g, x) :: putF f v r)
      rw [if_neg h, if_neg h]
      show (if g = f then (g, v) :: putF f u r else (g, x) :: putF f v (putF f u r)) = _
      rw [if_neg h, ih]
def fS (k : Int) (l : Addr) (n : Int) : List (Str × V) := putF "least" (.int n) (putF "made" (.ref l) (putF "factor" (.int k) []))
theorem fS_factor (k : Int) (l : Addr) (n : Int) : (fS k l n).lookup ("factor" : Str) = some (.int k) := by
  unfold fS
  rw [lookup_putF, if_neg (by decide +kernel), lookup_putF, if_neg (by decide +kernel), lookup_putF, if_pos rfl]
theorem fS_made (k : Int) (l : Addr) (n : Int) : (fS k l n).lookup ("made" : Str) = some (.ref l) := by
  unfold fS
  rw [lookup_putF, if_neg (by decide +kernel), lookup_putF, if_pos rfl]
theorem fS_least (k : Int) (l : Addr) (n : Int) : (fS k l n).lookup ("least" : Str) = some (.int n) := by
  unfold fS
  rw [lookup_putF, if_pos rfl]
theorem fS_more (k : Int) (l : Addr) (n : Int) : (fS k l n).lookup ("more" : Str) = none := by
  unfold fS
  rw [lookup_putF, if_neg (by decide +kernel), lookup_putF, if_neg (by decide +kernel), lookup_putF, if_neg (by decide +kernel)]
  all_goals rfl
theorem fS_put (k : Int) (l : Addr) (n m : Int) : putF "least" (.int m) (fS k l n) = fS k l m := putF_idem _ _ _ _
theorem fS_len (k : Int) (l : Addr) (n : Int) : (fS k l n).length < 1000 := by
  have a := length_putF ("factor" : Str) (.int k) []
  have b := length_putF ("made" : Str) (.ref l) (putF "factor" (.int k) [])
  have c := length_putF ("least" : Str) (.int n) (putF "made" (.ref l) (putF "factor" (.int k) []))
  have z : ([] : List (Str × V)).length = 0 := rfl
  unfold fS
  omega
/-- the Steps at x: behind n steps by the factor k, its list at l -/
structure StepsAt (C : Addr) (k : Int) (n : Nat) (H : Hp) (x l : Addr) : Prop where
  ob : ∃ dx, H x = some (.ins C dx (fS k l (q k n)))
  ls : H l = some (.lst ((row k n).map V.int))
theorem at_row (k : Int) {n i : Nat} (hi : i ≤ n) : atI ((row k n).map V.int) (i : Int) = some (.int (h k i)) := atI_nat (by rw [List.getElem?_map, row_get k n i hi]; all_goals rfl)
theorem at_row_last (k : Int) : ∀ n, atI ((row k n).map V.int) (-1) = some (.int (h k n))
  | 0 => by
    show atI ([] ++ [V.int 1]) (-1) = _
    exact atI_last _ _
  | n + 1 => by
    rw [row_succ, List.map_append]
    exact atI_last _ _
section
variable {P : Program} {w : World} {K : PySem.W.Frag} {mg : Str → Option Value} {base : Heap} {CSteps CLost CWon : Addr}
/-! ### is_whole -/
def sp_is_whole (K : PySem.W.Frag) : Sp := fun vs H Q _ => ∃ v b, vs = [v] ∧ Wh K H v b ∧ Q (.bl b) H
theorem ok_is_whole (T : Txt K mg CSteps CLost CWon) : OkG P w K mg base CX0 1 "is_whole" (sp_is_whole K) := by
  refine OkG.of T.D_is_whole (fun _ _ => bd_is_whole) fun f fd F => F.ok sc_is_whole (fun vs H Q E h => ?_) (fun cdv A outer s H vs Q E hr h => ?_)
  · obtain ⟨v, b, rfl, _⟩ := h
    rfl
  · obtain ⟨v, b, rfl, hw, g⟩ := h
    refine ⟨_, (pss_one (ps_ret (pe_and (pe_callB call_isi (by rfl) T.b_isinstance (by decide +kernel) (pa_cons (pv 0) (pa_cons (pe_bltn (v := .ty "int") (by rfl) T.b_int (by decide +kernel) rfl) pa_nil))) (pe_and (pe_not (pe_callB call_isi (by rfl) T.b_isinstance (by decide +kernel) (pa_cons (pv 0) (pa_cons (pe_bltn (v := .ty "bool") (by rfl) T.b_bool (by decide +kernel) rfl) pa_nil)))) (pe_one (pe_cmpR op_ge (pv 0) pe_int (nomark _))))))), ?_⟩
    cases hw with
    | int n =>
      refine ⟨_, rfl, _, _, _, _, true, rfl, .ty _, .base (.int n), kit_ty (by decide +kernel), _, rfl, iteT ?_⟩
      refine ⟨_, rfl, _, _, _, _, false, rfl, .ty _, .base (.int n), kit_ty (by decide +kernel), _, rfl, _, rfl, iteT ?_⟩
      exact ⟨_, rfl, _, _, rfl, rfl, g⟩
    | bl c =>
      refine ⟨_, rfl, _, _, _, _, true, rfl, .ty _, .base (.bl c), kit_ty (by decide +kernel), _, rfl, iteT ?_⟩
      exact ⟨_, rfl, _, _, _, _, true, rfl, .ty _, .base (.bl c), kit_ty (by decide +kernel), _, rfl, _, rfl, iteF g⟩
    | oth ty kt =>
      exact ⟨_, rfl, _, _, _, _, false, rfl, .ty _, ty, kit_ty kt, _, rfl, iteF g⟩
/-! ### Steps -/
def sp_Steps_init (C : Addr) : Sp := fun vs H Q _ => ∃ (x dx : Addr) (k : Int), vs = [.ref x, .int k] ∧ H x = some (.ins C dx []) ∧ ∀ (l : Addr) (H' : Hp), H l = none → StepsAt C k 0 H' x l → (∀ b o, H b = some o → b ≠ x → H' b = some o) → Q .non H'
theorem ok_Steps_init (T : Txt K mg CSteps CLost CWon) : OkC P w K mg base CX0 1 "Steps" CSteps (sp_Steps_init CSteps) := by
  refine OkC.of T.e_Steps T.mk_Steps T.kp_Steps T.D_Steps_init (fun _ _ => bd_Steps_init) fun f fd F => F.ok sc_Steps_init (fun vs H Q E h => ?_) (fun cdv A outer s H vs Q E hr h => ?_)
  · obtain ⟨x, dx, k, rfl, _⟩ := h
    rfl
  · obtain ⟨x, dx, k, rfl, hx, g⟩ := h
    refine ⟨_, (pss_cons (ps_fld (pv 0) (pv 1) rfl)
      (pss_cons (ps_fld (pv 0) (pe_lst (pa_cons pe_int pa_nil)) rfl)
      (pss_one (ps_fld (pv 0) pe_int rfl)))), ?_⟩
    refine ⟨_, rfl, _, rfl, x, _, dx, _, rfl, hx, T.cl_Steps, T.n_Steps_factor, (by show 0 < 1000; decide), ?_⟩
    refine ⟨(by show 1 ≤ sizeLine; decide), fun l hl => ?_⟩
    have nxl : x ≠ l := fun e => by
      rw [← e, upd_same] at hl
      cases hl
    have hl0 : H l = none := by
      rw [upd_ne nxl.symm] at hl
      exact hl
    refine ⟨_, rfl, x, _, dx, _, rfl, Eq.trans (upd_ne nxl) upd_same, T.cl_Steps, T.n_Steps_made, (by show 1 < 1000; decide), ?_⟩
    refine ⟨_, rfl, x, _, dx, _, rfl, upd_same, T.cl_Steps, T.n_Steps_least, ?_, ?_⟩
    · have b := length_putF ("made" : Str) (.ref l) (putF "factor" (.int k) [])
      have z : (putF ("factor" : Str) (.int k) []).length = 1 := rfl
      omega
    · refine g l _ hl0 ⟨⟨dx, upd_same⟩, ?_⟩ fun b o e hb => ?_
      · rw [upd_ne nxl.symm, upd_ne nxl.symm, upd_same]
        all_goals rfl
      · rw [upd_ne hb, upd_ne hb, upd_ne (ne_of_none e hl0), upd_ne hb]
        exact e
def sp_more (C : Addr) : Sp := fun vs H Q _ => ∃ (x l : Addr) (k : Int) (n : Nat), vs = [.ref x] ∧ StepsAt C k n H x l ∧ 1 ≤ k ∧ k ≤ 30 ∧ n < 1000000 ∧ ∀ H' : Hp, StepsAt C k (n + 1) H' x l → (∀ b o, H b = some o → b ≠ x → b ≠ l → H' b = some o) → Q .non H'
theorem ok_Steps_more (T : Txt K mg CSteps CLost CWon) : OkM P w K mg base CX0 1 CSteps "more" (sp_more CSteps) := by
  refine OkM.of T.cl_Steps T.D_Steps_more (fun _ _ => bd_Steps_more) fun f fd F => F.ok sc_Steps_more (fun vs H Q E h => ?_) (fun cdv A outer s H vs Q E hr h => ?_)
  · obtain ⟨x, l, k, n, rfl, _⟩ := h
    rfl
  · obtain ⟨x, l, k, n, rfl, ⟨⟨dx, hx⟩, hl⟩, hk, hk30, hn, g⟩ := h
    have R := isRow hk
    have nxl : x ≠ l := ne_of hx hl (by intro z; cases z)
    refine ⟨_, (pss_cons (ps_while PassesOwn.never (pt_cmpR op_lt (pe_op op_mul (pe_fld (pv 0) rfl) (pe_ix ix_list (pe_fld (pv 0) rfl) (pe_fld (pv 0) rfl) (fun _ _ => rfl))) (pe_ix ix_list (pe_fld (pv 0) rfl) (pe_un un_neg pe_int) (fun _ _ => rfl)) (nomark _)) (pss_one (ps_fldaug (pv 0) pe_int in_add)))
      (pss_one (ps_expr (pe_bm PySem.F.plainAttrs_list PySem.F.slot_list_append PySem.F.type_list_append mt_append (pe_fld (pv 0) rfl) (pa_cons (pe_op op_add (pe_ix ix_list (pe_fld (pv 0) rfl) (pe_un un_neg pe_int) (fun _ _ => rfl)) (pe_ix ix_list (pe_fld (pv 0) rfl) (pe_fld (pv 0) rfl) (fun _ _ => rfl))) pa_nil))))), ?_⟩
    refine ⟨fun m σ H' => ∃ j : Nat, m = p k n - j ∧ j ≤ p k n ∧ σ = [some (.ref x)] ∧ H' x = some (.ins CSteps dx (fS k l j)) ∧ H' l = some (.lst ((row k n).map V.int)) ∧ (∀ b o, H b = some o → b ≠ x → H' b = some o),
      ⟨_, q k n, rfl, q_le hk n, rfl, hx, hl, fun b o e _ => e⟩, ?_⟩
    rintro m σ H' ⟨j, rfl, hj, rfl, hx', hl', kp⟩
    have hjn : j ≤ n := Nat.le_trans hj (R.le n)
    refine ⟨_, rfl, x, _, dx, _, _, rfl, hx', T.cl_Steps, T.n_Steps_factor, fS_factor _ _ _, ?_⟩
    refine ⟨_, rfl, x, _, dx, _, _, rfl, hx', T.cl_Steps, T.n_Steps_made, fS_made _ _ _, _, rfl, x, _, dx, _, _, rfl, hx', T.cl_Steps, T.n_Steps_least, fS_least _ _ _, l, _, _, _, rfl, rfl, SqL.of hl', at_row k hjn, ?_⟩
    refine ⟨_, _, rfl, rfl, .inl ⟨by omega, by omega⟩, ?_⟩
    refine ⟨_, rfl, x, _, dx, _, _, rfl, hx', T.cl_Steps, T.n_Steps_made, fS_made _ _ _, _, rfl, l, _, _, _, rfl, rfl, SqL.of hl', at_row_last k n, ?_⟩
    refine ⟨_, _, rfl, rfl, _, rfl, ?_⟩
    refine ite2 (fun c => ?_) (fun c => ?_)
    · have c := of_decide_eq_true c
      have hlt : j < p k n := R.below c
      refine ⟨fun σ' H'' => σ' = [some (.ref x)] ∧ H'' x = some (.ins CSteps dx (fS k l (j + 1 : Nat))) ∧ H'' l = some (.lst ((row k n).map V.int)) ∧ (∀ b o, H b = some o → b ≠ x → H'' b = some o), ?_, ?_⟩
      · rintro σ' H'' ⟨rfl, a, b, d⟩
        exact ⟨_, by omega, j + 1, rfl, by omega, rfl, a, b, d⟩
      · refine ⟨_, rfl, x, _, dx, _, _, rfl, hx', T.cl_Steps, T.n_Steps_least, fS_least _ _ _, _, _, rfl, rfl, dx, _, hx', fS_len _ _ _, ?_⟩
        refine ⟨rfl, ?_, ?_, fun b o e hb => ?_⟩
        · rw [upd_same, fS_put]
          all_goals rfl
        · rw [upd_ne nxl.symm]
          exact hl'
        · rw [upd_ne hb]
          exact kp b o e hb
    · have c : ¬ k * h k j < h k n := fun z => c (decide_eq_true z)
      have ej : j = p k n := by
        by_cases d : j = p k n
        · exact d
        · exact absurd (R.lt n j (by omega)) c
      refine ⟨_, rfl, x, _, dx, _, _, rfl, hx', T.cl_Steps, T.n_Steps_made, fS_made _ _ _, .inl ⟨rfl, _, SqL.of hl'⟩, ?_⟩
      refine ⟨_, rfl, x, _, dx, _, _, rfl, hx', T.cl_Steps, T.n_Steps_made, fS_made _ _ _, _, rfl, l, _, _, _, rfl, rfl, SqL.of hl', at_row_last k n, ?_⟩
      refine ⟨_, rfl, x, _, dx, _, _, rfl, hx', T.cl_Steps, T.n_Steps_made, fS_made _ _ _, _, rfl, x, _, dx, _, _, rfl, hx', T.cl_Steps, T.n_Steps_least, fS_least _ _ _, l, _, _, _, rfl, rfl, SqL.of hl', at_row k hjn, ?_⟩
      refine ⟨_, _, rfl, rfl, l, _, _, rfl, rfl, hl', ?_, ?_⟩
      · rw [List.length_map, row_len, sizeLine_eq]
        omega
      · refine g _ ⟨⟨dx, ?_⟩, ?_⟩ fun b o e hb hb2 => ?_
        · rw [upd_ne nxl, hx', ej]
          all_goals rfl
        · rw [upd_same, row_succ, List.map_append, R.s n, ej]
          all_goals rfl
        · rw [upd_ne hb2]
          exact kp b o e hb
/-! ### steps_to -/
def sp_steps_to : Sp := fun vs H Q _ => ∃ (k m : Int) (B : Nat), vs = [.int k, .int m] ∧ 1 ≤ k ∧ k ≤ 30 ∧ m < 2 ^ B ∧ B ≤ 30000 ∧ ∀ (N : Nat) (H' : Hp) (l : Addr), Same H H' → H l = none → H' l = some (.lst ((row k N).map V.int)) → m < h k N → (∀ i, i < N → h k i ≤ m) → N ≤ 30 * B → Q (.ref l) H'
theorem ok_steps_to (T : Txt K mg CSteps CLost CWon) : OkG P w K mg base CX0 3 "steps_to" sp_steps_to := by
  have G_Steps : OkC P w K mg base CX0 1 "Steps" CSteps (sp_Steps_init CSteps) := ok_Steps_init T
  have G_more : OkM P w K mg base CX0 1 CSteps "more" (sp_more CSteps) := ok_Steps_more T
  refine OkG.of T.D_steps_to (fun _ _ => bd_steps_to) fun f fd F => F.ok sc_steps_to (fun vs H Q E h => ?_) (fun cdv A outer s H vs Q E hr h => ?_)
  · obtain ⟨k, m, B, rfl, _⟩ := h
    rfl
  · obtain ⟨k, m, B, rfl, hk, hk30, hm, hB, g⟩ := h
    have R := isRow hk
    refine ⟨_, (pss_cons (ps_set (i := 2) sc_steps_to.nd rfl (by first | exact Or.inl rfl | exact Or.inr rfl) (pe_makeO G_Steps (hr.mono (by first | decide | exact Nat.le_refl _)) (by rfl) pass0 (pa_cons (pv 0) pa_nil)))
      (pss_cons (ps_while PassesOwn.never (pt_cmpR op_le (pe_ix ix_list (pe_fld (pv 2) rfl) (pe_un un_neg pe_int) (fun _ _ => rfl)) (pv 1) (nomark _)) (pss_one (ps_expr (pe_methO0 G_more (hr.mono (by first | decide | exact Nat.le_refl _)) pass0 (pv 2)))))
      (pss_one (ps_ret (pe_fld (pv 2) rfl))))), ?_⟩
    refine ⟨_, rfl, fun x dx nx ndx nex => ?_⟩
    refine ⟨x, dx, k, rfl, upd_same, fun l H1 hl0 S0 kp => ⟨rfl, ?_⟩⟩
    have nlx : l ≠ x := fun e => by
      rw [e, upd_same] at hl0
      cases hl0
    have nldx : l ≠ dx := fun e => by
      rw [e, upd_ne nex, upd_same] at hl0
      cases hl0
    have hl : H l = none := by
      rw [upd_ne nlx, upd_ne nldx] at hl0
      exact hl0
    have s1 : Same H H1 := Same.made nx ndx kp
    have few : ∀ n, (∀ i, i < n → h k i ≤ m) → n ≤ 30 * B := fun n a => R.few hk30 fun i hi => by
      have := a i hi
      omega
    refine ⟨fun z σ H' => ∃ n : Nat, z = 30 * B + 1 - n ∧ σ = [some (.int k), some (.int m), some (.ref x)] ∧ StepsAt CSteps k n H' x l ∧ Same H H' ∧ (∀ i, i < n → h k i ≤ m),
      ⟨_, 0, rfl, rfl, S0, s1, fun i hi => absurd hi (Nat.not_lt_zero _)⟩, ?_⟩
    rintro z σ H' ⟨n, rfl, rfl, S, sm, hi⟩
    obtain ⟨dy, hx'⟩ := S.ob
    have hn := few n hi
    refine ⟨_, rfl, x, _, dy, _, _, rfl, hx', T.cl_Steps, T.n_Steps_made, fS_made _ _ _, _, rfl, l, _, _, _, rfl, rfl, SqL.of S.ls, at_row_last k n, _, rfl, _, _, rfl, rfl, _, rfl, ?_⟩
    refine ite2 (fun c => ?_) (fun c => ?_)
    · have c := of_decide_eq_true c
      refine ⟨fun σ' H'' => σ' = [some (.int k), some (.int m), some (.ref x)] ∧ StepsAt CSteps k (n + 1) H'' x l ∧ Same H H'', ?_, ?_⟩
      · rintro σ' H'' ⟨rfl, a, b⟩
        have hi' : ∀ i, i < n + 1 → h k i ≤ m := fun i q => by
          by_cases d : i = n
          · rw [d]
            exact c
          · exact hi i (by omega)
        have := few _ hi'
        exact ⟨_, by omega, n + 1, rfl, rfl, a, b, hi'⟩
      · refine ⟨_, rfl, x, dy, _, rfl, hx', fS_more _ _ _, x, l, k, n, rfl, S, hk, hk30, by omega, fun H2 S2 kp2 => ?_⟩
        exact ⟨rfl, S2, fun b o e => kp2 b o (sm b o e) (ne_of_none e nx) (ne_of_none e hl)⟩
    · have c : ¬ h k n ≤ m := fun z => c (decide_eq_true z)
      refine ⟨_, rfl, x, _, dy, _, _, rfl, hx', T.cl_Steps, T.n_Steps_made, fS_made _ _ _, ?_⟩
      exact g n H' l sm hl S.ls (by omega) hi hn
/-! ### parts_of -/
def sp_parts_of : Sp := fun vs H Q _ => ∃ (k n : Int) (B : Nat), vs = [.int k, .int n] ∧ 1 ≤ k ∧ k ≤ 30 ∧ 0 ≤ n ∧ n < 2 ^ B ∧ B ≤ 30000 ∧ ∀ (H' : Hp) (l : Addr), Same H H' → H l = none → H' l = some (.lst ((parts k n).map V.int)) → Q (.ref l) H'
theorem row_rev (k : Int) (N i : Nat) (hi : i ≤ N) : ((row k N).map V.int).reverse[i]? = some (.int (h k (N - i))) := by
  rw [List.getElem?_reverse (by rw [List.length_map, row_len]; omega), List.length_map, row_len, List.getElem?_map, row_get k N _ (by omega)]
  show some (V.int (h k (N + 1 - 1 - i))) = _
  rw [show N + 1 - 1 - i = N - i by omega]
theorem ok_parts_of (T : Txt K mg CSteps CLost CWon) : OkG P w K mg base CX0 4 "parts_of" sp_parts_of := by
  have G_steps_to : OkG P w K mg base CX0 3 "steps_to" sp_steps_to := ok_steps_to T
  refine OkG.of T.D_parts_of (fun _ _ => bd_parts_of) fun f fd F => F.ok sc_parts_of (fun vs H Q E h => ?_) (fun cdv A outer s H vs Q E hr h => ?_)
  · obtain ⟨k, m, B, rfl, _⟩ := h
    rfl
  · obtain ⟨k, n, B, rfl, hk, hk30, h0, hm, hB, g⟩ := h
    have R := isRow hk
    refine ⟨_, (pss_cons (ps_set (i := 2) sc_parts_of.nd rfl (by first | exact Or.inl rfl | exact Or.inr rfl) (pe_lst pa_nil))
      (pss_cons (ps_for PassesOwn.never rfl (pi_list (pe_revL (pe_callO G_steps_to (hr.mono (by first | decide | exact Nat.le_refl _)) (by rfl) pass0 (pa_cons (pv 0) (pa_cons (pv 1) pa_nil))))) (pg_name (i := 3) sc_parts_of.nd rfl (by first | exact Or.inl rfl | exact Or.inr rfl)) (pss_one (ps_if (pt_cmpR op_le (pv 3) (pv 1) (nomark _)) (pss_cons (ps_expr (pe_bm PySem.F.plainAttrs_list PySem.F.slot_list_append PySem.F.type_list_append mt_append (pv 2) (pa_cons (pv 3) pa_nil)))
      (pss_one (ps_aug (i := 1) sc_parts_of.nd rfl (by first | exact Or.inl rfl | exact Or.inr rfl) (pv 3) ip_sub))) pss_nil)))
      (pss_one (ps_ret (pv 2))))), ?_⟩
    refine ⟨Nat.zero_le _, fun o no => ?_⟩
    refine ⟨_, rfl, _, rfl, k, n, B, rfl, hk, hk30, hm, hB, fun N H1 l s1 nl hl lt hi hN => ?_⟩
    have ho : H1 o = some (.lst []) := s1 o _ upd_same
    have s1' : Same H H1 := (same_upd no).trans s1
    refine ⟨l, _, rfl, SqL.of hl, fun r nr => ?_⟩
    have hlen : ((row k N).map V.int).reverse.length = N + 1 := by rw [List.length_reverse, List.length_map, row_len]
    have nro : o ≠ r := ne_of_none ho nr
    refine ⟨_, rfl, ⟨_, SqL.of upd_same⟩, for_list (K := K) (a := r) (xs := ((row k N).map V.int).reverse) (fun i σ H' => ∃ (f : List Int) (rest : Int) (v : Option V), σ = [some (.int k), some (.int rest), some (.ref o), v] ∧ Same H H' ∧ H' r = some (.lst ((row k N).map V.int).reverse) ∧ H' o = some (.lst (f.map V.int)) ∧ f.length ≤ i ∧ f ++ greedy (h k) (N + 1 - i) rest = parts k n)
      ⟨[], n, none, rfl, same_lst s1' nr, upd_same, by rw [upd_ne nro]; exact ho, Nat.le_refl _, ?_⟩ (fun i σ H' _ ⟨_, _, _, _, _, z, _⟩ => SqL.of z) ?_ ?_⟩
    · exact greedy_parts hk h0 (Int.lt_trans lt (R.up N))
    · rintro i y σ H' hi' ⟨f, rest, v, rfl, sm, hr', ho', hf, eq⟩
      have hil : i < N + 1 := by
        have := (List.getElem?_eq_some_iff.mp hi').1
        rw [hlen] at this
        exact this
      have ey : y = .int (h k (N - i)) := Option.some.inj (hi'.symm.trans (row_rev k N i (by omega)))
      subst ey
      have en : N + 1 - i = (N - i) + 1 := by omega
      have en2 : N + 1 - (i + 1) = N - i := by omega
      refine ⟨_, rfl, _, rfl, _, _, rfl, rfl, _, rfl, ?_⟩
      refine ite2 (fun c => ?_) (fun c => ?_)
      · have c := of_decide_eq_true c
        refine ⟨_, rfl, .inl ⟨rfl, _, SqL.of ho'⟩, _, rfl, o, _, _, rfl, rfl, ho', ?_, ?_⟩
        · rw [List.length_map, sizeLine_eq]
          omega
        · refine ⟨_, rfl, _, rfl, _, _, rfl, rfl, ?_⟩
          refine ⟨f ++ [h k (N - i)], rest - h k (N - i), _, rfl, same_new sm no, ?_, ?_, ?_, ?_⟩
          · rw [upd_ne nro.symm]
            exact hr'
          · rw [upd_same, List.map_append]
            all_goals rfl
          · rw [List.length_append]
            show f.length + 1 ≤ i + 1
            omega
          · rw [en] at eq
            unfold greedy at eq
            rw [if_pos c] at eq
            rw [en2, List.append_assoc]
            exact eq
      · have c : ¬ h k (N - i) ≤ rest := fun z => c (decide_eq_true z)
        refine ⟨f, rest, _, rfl, sm, hr', ho', by omega, ?_⟩
        rw [en] at eq
        unfold greedy at eq
        rw [if_neg c] at eq
        rw [en2]
        exact eq
    · rintro σ H' ⟨f, rest, v, rfl, sm, hr', ho', hf, eq⟩
      rw [hlen, Nat.sub_self] at eq
      have ef : f = parts k n := by
        rw [← eq]
        show f = f ++ []
        rw [List.append_nil]
      rw [ef] at ho'
      exact ⟨_, rfl, g H' o sm no ho'⟩
end
end Tx
namespace Tx
open PySem PySem.Spec PyProof.Rows L2 Tk TA
def fL (l : Addr) : List (Str × V) := putF "parts" (.ref l) []
theorem fL_parts (l : Addr) : (fL l).lookup ("parts" : Str) = some (.ref l) := by
  unfold fL
  rw [lookup_putF, if_pos rfl]
theorem fL_shows (l : Addr) : (fL l).lookup ("shows" : Str) = none := by
  unfold fL
  rw [lookup_putF, if_neg (by decide +kernel)]
  all_goals rfl
def fW (t : V) : List (Str × V) := putF "taking" t []
theorem fW_taking (t : V) : (fW t).lookup ("taking" : Str) = some t := by
  unfold fW
  rw [lookup_putF, if_pos rfl]
theorem fW_shows (t : V) : (fW t).lookup ("shows" : Str) = none := by
  unfold fW
  rw [lookup_putF, if_neg (by decide +kernel)]
  all_goals rfl
/-- a Lost at x, its list at l -/
structure LostAt (C : Addr) (H : Hp) (x l : Addr) (ps : List Int) : Prop where
  ob : ∃ dx, H x = some (.ins C dx (fL l))
  ls : H l = some (.lst (ps.map V.int))
/-- a Won at x -/
def WonAt (C : Addr) (H : Hp) (x : Addr) (t : Int) : Prop := ∃ dx, H x = some (.ins C dx (fW (.int t)))
section
variable {P : Program} {w : World} {K : PySem.W.Frag} {mg : Str → Option Value} {base : Heap} {CSteps CLost CWon : Addr}
def sp_Lost (K : PySem.W.Frag) (C : Addr) : Sp := fun vs H Q _ => ∃ (x dx a : Addr) (ps : List Int), vs = [.ref x, .ref a] ∧ H x = some (.ins C dx []) ∧ SqL K H a (ps.map V.int) ∧ ∀ (l : Addr) (H' : Hp), H l = none → LostAt C H' x l ps → (∀ b o, H b = some o → b ≠ x → H' b = some o) → Q .non H'
theorem ok_Lost_init (T : Txt K mg CSteps CLost CWon) : OkC P w K mg base CX0 1 "Lost" CLost (sp_Lost K CLost) := by
  refine OkC.of T.e_Lost T.mk_Lost T.kp_Lost T.D_Lost_init (fun _ _ => bd_Lost_init) fun f fd F => F.ok sc_Lost_init (fun vs H Q E h => ?_) (fun cdv A outer s H vs Q E hr h => ?_)
  · obtain ⟨x, dx, a, ps, rfl, _⟩ := h
    rfl
  · obtain ⟨x, dx, a, ps, rfl, hx, ha, g⟩ := h
    refine ⟨_, (pss_one (ps_fld (pv 0) (pe_callTy call_list_of (by rfl) T.b_list (by decide +kernel) (pa_cons (pv 1) pa_nil)) rfl)), ?_⟩
    refine ⟨_, rfl, a, _, rfl, .inl ha, fun l hl => ?_⟩
    have nxl : x ≠ l := ne_of_none hx hl
    refine ⟨_, rfl, x, _, dx, _, rfl, Eq.trans (upd_ne nxl) hx, T.cl_Lost, T.n_Lost_parts, (by show 0 < 1000; decide), ?_⟩
    refine g l _ hl ⟨⟨dx, upd_same⟩, by rw [upd_ne nxl.symm, upd_same]⟩ fun b o e hb => ?_
    rw [upd_ne hb, upd_ne (ne_of_none e hl)]
    exact e
def sp_Won (C : Addr) : Sp := fun vs H Q _ => ∃ (x dx : Addr) (t : Int), vs = [.ref x, .int t] ∧ H x = some (.ins C dx []) ∧ ∀ (H' : Hp), WonAt C H' x t → (∀ b o, H b = some o → b ≠ x → H' b = some o) → Q .non H'
theorem ok_Won_init (T : Txt K mg CSteps CLost CWon) : OkC P w K mg base CX0 1 "Won" CWon (sp_Won CWon) := by
  refine OkC.of T.e_Won T.mk_Won T.kp_Won T.D_Won_init (fun _ _ => bd_Won_init) fun f fd F => F.ok sc_Won_init (fun vs H Q E h => ?_) (fun cdv A outer s H vs Q E hr h => ?_)
  · obtain ⟨x, dx, t, rfl, _⟩ := h
    rfl
  · obtain ⟨x, dx, t, rfl, hx, g⟩ := h
    refine ⟨_, (pss_one (ps_fld (pv 0) (pv 1) rfl)), ?_⟩
    refine ⟨_, rfl, _, rfl, x, _, dx, _, rfl, hx, T.cl_Won, T.n_Won_taking, (by show 0 < 1000; decide), ?_⟩
    refine g _ ⟨dx, upd_same⟩ fun b o e hb => ?_
    rw [upd_ne hb]
    exact e
end
end Tx
namespace TA
theorem abs_add {a b : Int} {x : Nat} (ha : a.natAbs < 2 ^ x) (hb : b.natAbs < 2 ^ x) : (a + b).natAbs < 2 ^ (x + 1) := by
  rw [Nat.pow_succ]
  omega
theorem abs_up {a : Int} {x y : Nat} (ha : a.natAbs < 2 ^ x) (h : x ≤ y) : a.natAbs < 2 ^ y := Nat.lt_of_lt_of_le ha (Nat.pow_le_pow_right (by decide) h)
end TA
namespace Tx
open PySem PySem.Spec PyProof.Rows L2 Tk TA
/-- two factors of so many bits -/
theorem mulOk_of {i j : Int} {a b : Nat} (ha : i.natAbs < 2 ^ a) (hb : j.natAbs < 2 ^ b) (h : a + b ≤ 130000000) : IntMulOk i j := by
  have lg : ∀ (x : Int) (n : Nat), x.natAbs < 2 ^ n → Builtin.Int.intBits x ≤ n := by
    intro x n hx
    unfold Builtin.Int.intBits
    split
    · omega
    · rename_i c
      have c0 : x.natAbs ≠ 0 := by
        intro z
        simp_all
      have := (Nat.log2_lt c0).mpr hx
      omega
  have h1 := lg i a ha
  have h2 := lg j b hb
  have e : bitsLine = 134217728 := by decide
  unfold IntMulOk
  intro z
  rw [Bool.and_eq_true] at z
  have z2 := z.2
  unfold Builtin.Int.intTooBig at z2
  have z3 := of_decide_eq_true z2
  rw [e] at z3
  omega
theorem bits_abs {x : Int} {n : Nat} (h : Builtin.Int.intBits x ≤ n) : x.natAbs < 2 ^ n := by
  unfold Builtin.Int.intBits at h
  split at h
  · rename_i c
    have : x.natAbs = 0 := by simp_all
    rw [this]
    exact Nat.pow_pos (by decide)
  · rename_i c
    have c0 : x.natAbs ≠ 0 := by
      intro z
      simp_all
    exact (Nat.log2_lt c0).mp (by omega)
/-- the script: at most 63 numbers below so many bits -/
def Scr (K : PySem.W.Frag) (H : Hp) (a : Addr) (B : Nat) : Prop := ∃ ns : List Int, SqL K H a (ns.map V.int) ∧ ns.length ≤ 63 ∧ ∀ z ∈ ns, z.natAbs < 2 ^ B
theorem Scr.same {K : PySem.W.Frag} {H H' : Hp} {a : Addr} {B : Nat} (S : Scr K H a B) (e : Same H H') : Scr K H' a B := by
  obtain ⟨ns, s, l, b⟩ := S
  exact ⟨ns, e.seq s, l, b⟩
def primes : List Int := [1000003, 1000033, 1000037, 1000039, 1000081, 1000099, 1000117, 1000121, 1000133, 1000151, 1000159, 1000171, 1000183, 1000187, 1000193, 1000199]
theorem primes_pos : ∀ p ∈ primes, 0 < p := by decide
theorem primes_at {i : Int} (h0 : 0 ≤ i) (h1 : i < 16) : ∃ p : Int, atI (primes.map V.int) i = some (.int p) ∧ 0 < p := by
  have hl : i.toNat < primes.length := by
    show i.toNat < 16
    omega
  refine ⟨primes[i.toNat], at_of (j := i.toNat) (by omega) ?_, primes_pos _ (List.getElem_mem _)⟩
  rw [List.getElem?_map, List.getElem?_eq_getElem hl]
  rfl
section
variable {P : Program} {w : World} {K : PySem.W.Frag} {mg : Str → Option Value} {base : Heap} {CSteps CLost CWon : Addr}
def sp_cell_at (K : PySem.W.Frag) : Sp := fun vs H Q _ => ∃ (a : Addr) (k : Int) (B : Nat), vs = [.ref a, .int k] ∧ Scr K H a B ∧ 0 ≤ k ∧ ∀ z : Int, z.natAbs < 2 ^ B → Q (.int z) H
theorem ok_cell_at (T : Txt K mg CSteps CLost CWon) : OkG P w K mg base CX0 1 "_law_cell_at" (sp_cell_at K) := by
  refine OkG.of T.D__law_cell_at (fun _ _ => bd__law_cell_at) fun f fd F => F.ok sc__law_cell_at (fun vs H Q E h => ?_) (fun cdv A outer s H vs Q E hr h => ?_)
  · obtain ⟨a, k, B, rfl, _⟩ := h
    rfl
  · obtain ⟨a, k, B, rfl, ⟨ns, hS, hlen, hb⟩, hk, g⟩ := h
    refine ⟨_, (pss_cons (ps_if (pt_cmpR op_lt (pv 1) (pe_callB call_len_seq (by rfl) T.b_len (by decide +kernel) (pa_cons (pv 0) pa_nil)) (nomark _)) (pss_one (ps_ret (pe_ix ix_list (pv 0) (pv 1) (fun _ _ => rfl)))) pss_nil)
      (pss_one (ps_ret pe_int))), ?_⟩
    refine ⟨_, rfl, _, rfl, a, _, rfl, .inl hS, _, _, rfl, rfl, _, rfl, ?_⟩
    refine ite2 (fun c => ?_) (fun c => ?_)
    · have c := of_decide_eq_true c
      rw [List.length_map] at c
      have hl : k.toNat < ns.length := by omega
      refine ⟨_, rfl, _, rfl, a, _, _, .int ns[k.toNat], rfl, rfl, hS, at_of (j := k.toNat) (by omega) ?_, ?_⟩
      · rw [List.getElem?_map, List.getElem?_eq_getElem hl]
        rfl
      · exact g _ (hb _ (List.getElem_mem hl))
    · exact g 0 (Nat.pow_pos (by decide))
def sp_draw : Sp := fun vs H Q _ => ∃ c k m : Int, vs = [.int c, .int k, .int m] ∧ 0 < m ∧ ∀ (r : Int) (H' : Hp), 0 ≤ r → r < m → Same H H' → Q (.int r) H'
theorem ok_draw (T : Txt K mg CSteps CLost CWon) : OkG P w K mg base CX0 1 "_law_draw" sp_draw := by
  refine OkG.of T.D__law_draw (fun _ _ => bd__law_draw) fun f fd F => F.ok sc__law_draw (fun vs H Q E h => ?_) (fun cdv A outer s H vs Q E hr h => ?_)
  · obtain ⟨c, k, m, rfl, _⟩ := h
    rfl
  · obtain ⟨c, k, m, rfl, hm, g⟩ := h
    refine ⟨_, (pss_cons (ps_set (i := 3) sc__law_draw.nd rfl (by first | exact Or.inl rfl | exact Or.inr rfl) (pe_tup (pa_cons pe_int (pa_cons pe_int (pa_cons pe_int (pa_cons pe_int (pa_cons pe_int (pa_cons pe_int (pa_cons pe_int (pa_cons pe_int (pa_cons pe_int (pa_cons pe_int (pa_cons pe_int (pa_cons pe_int (pa_cons pe_int (pa_cons pe_int (pa_cons pe_int (pa_cons pe_int pa_nil))))))))))))))))))
      (pss_one (ps_ret (pe_op op_mod (pe_op op_mod (pe_op op_add (pe_op op_mul (pv 0) pe_int) (pe_op op_mul (pv 1) pe_int)) (pe_ix ix_tup (pv 3) (pe_op op_mod (pv 1) pe_int) (fun _ _ => rfl))) (pv 2))))), ?_⟩
    refine ⟨(by show 16 ≤ sizeLine; decide), fun p np => ?_⟩
    obtain ⟨v, hv, pv⟩ := primes_at (i := k % 16) (Int.emod_nonneg _ (by decide)) (Int.emod_lt_of_pos _ (by decide))
    have hT : SqT K (upd H p (.tup (primes.map V.int))) p (primes.map V.int) := SqT.of upd_same
    refine ⟨_, rfl, _, _, rfl, rfl, .inr ⟨by decide, by decide⟩, _, rfl, _, _, rfl, rfl, .inr ⟨by decide, by decide⟩, _, _, rfl, rfl, ?_⟩
    refine ⟨_, rfl, _, rfl, _, _, rfl, rfl, (by show (0 : Int) < 16; decide), p, _, _, _, rfl, rfl, hT, hv, ?_⟩
    refine ⟨_, _, rfl, rfl, pv, _, rfl, _, _, rfl, rfl, hm, ?_⟩
    exact g _ _ (Int.emod_nonneg _ (by omega)) (Int.emod_lt_of_pos _ hm) (same_upd np)
end
end Tx
namespace Tx
open PySem PySem.Spec PyProof.Rows L2 Tk TA
/-- an item of a written tuple of ints -/
theorem tup_at {l : List Int} {i : Int} (h0 : 0 ≤ i) (h1 : i < l.length) : ∃ v : Int, v ∈ l ∧ atI (l.map V.int) i = some (.int v) := by
  have hl : i.toNat < l.length := by omega
  refine ⟨l[i.toNat], List.getElem_mem _, at_of (j := i.toNat) (by omega) ?_⟩
  rw [List.getElem?_map, List.getElem?_eq_getElem hl]
  rfl
section
variable {P : Program} {w : World} {K : PySem.W.Frag} {mg : Str → Option Value} {base : Heap} {CSteps CLost CWon : Addr}
def sp_value : Sp := fun vs H Q _ => ∃ (c k m : Int) (B : Nat), vs = [.int c, .int k, .int m] ∧ c.natAbs < 2 ^ B ∧ B ≤ 2000000 ∧ 0 ≤ k ∧ k ≤ 1000 ∧ 0 < m ∧ m ≤ 10 ^ 40 ∧ ∀ (r : Int) (H' : Hp), 0 ≤ r → r < 10 ^ 40 → Same H H' → Q (.int r) H'
theorem ok_value (T : Txt K mg CSteps CLost CWon) : OkG P w K mg base CX0 2 "_law_value" sp_value := by
  have G__law_draw : OkG P w K mg base CX0 1 "_law_draw" sp_draw := ok_draw T
  refine OkG.of T.D__law_value (fun _ _ => bd__law_value) fun f fd F => F.ok sc__law_value (fun vs H Q E h => ?_) (fun cdv A outer s H vs Q E hr h => ?_)
  · obtain ⟨c, k, m, B, rfl, _⟩ := h
    rfl
  · obtain ⟨c, k, m, B, rfl, hc, hB, hk, hk2, hm, hm2, g⟩ := h
    refine ⟨_, (pss_cons (ps_if (pt_cmpR op_ge (pv 0) (pe_op op_pow pe_int pe_int) (nomark _)) (pss_one (ps_ret (pe_op op_mod (pe_op op_sub (pv 0) (pe_op op_pow pe_int pe_int)) (pe_op op_pow pe_int pe_int)))) pss_nil)
      (pss_one (ps_ret (pe_callO G__law_draw (hr.mono (by first | decide | exact Nat.le_refl _)) (by rfl) pass0 (pa_cons (pe_op op_mulA (pe_op op_add (pv 0) (pe_op op_mulA pe_int (pv 1))) (pe_op op_add (pe_op op_add (pv 0) (pe_op op_mulA pe_int (pv 1))) pe_int)) (pa_cons (pe_op op_add (pe_op op_mod (pv 1) pe_int) pe_int) (pa_cons (pv 2) pa_nil))))))), ?_⟩
    refine ⟨_, rfl, _, _, rfl, rfl, ⟨by decide, by decide, by decide⟩, _, _, rfl, rfl, _, rfl, ?_⟩
    refine ite2 (fun d => ?_) (fun d => ?_)
    · refine ⟨_, rfl, _, _, rfl, rfl, ⟨by decide, by decide, by decide⟩, _, _, rfl, rfl, _, _, rfl, rfl, ⟨by decide, by decide, by decide⟩, _, _, rfl, rfl, (by show (0 : Int) < 10 ^ 40; decide), ?_⟩
      exact g _ _ (Int.emod_nonneg _ (by show (10 : Int) ^ 40 ≠ 0; decide)) (Int.emod_lt_of_pos _ (by decide)) (Same.refl H)
    · have a1 : (c + 977 * k).natAbs < 2 ^ (B + 20 + 1) := abs_add (abs_up hc (by omega)) (Nat.lt_of_lt_of_le (show (977 * k).natAbs < 2 ^ 20 by omega) (Nat.pow_le_pow_right (by decide) (by omega)))
      have a2 : (c + 31 * k).natAbs < 2 ^ (B + 20 + 1) := abs_add (abs_up hc (by omega)) (Nat.lt_of_lt_of_le (show (31 * k).natAbs < 2 ^ 20 by omega) (Nat.pow_le_pow_right (by decide) (by omega)))
      have a3 : (c + 31 * k + 5).natAbs < 2 ^ (B + 20 + 1 + 1) := abs_add a2 (Nat.lt_of_lt_of_le (show (5 : Int).natAbs < 2 ^ 20 by decide) (Nat.pow_le_pow_right (by decide) (by omega)))
      have b1 : ∀ z : Int, 0 ≤ z → z ≤ 1000 → z.natAbs < 2 ^ 20 := fun z h1 h2 => by omega
      refine ⟨_, rfl, _, rfl, _, _, rfl, rfl, mulOk_of (a := 20) (b := 20) (by decide) (b1 k hk hk2) (by decide), _, _, rfl, rfl, ?_⟩
      refine ⟨_, rfl, _, rfl, _, _, rfl, rfl, mulOk_of (a := 20) (b := 20) (by decide) (b1 k hk hk2) (by decide), _, _, rfl, rfl, _, _, rfl, rfl, ?_⟩
      refine ⟨_, _, rfl, rfl, mulOk_of a1 a3 (by omega), ?_⟩
      refine ⟨_, rfl, _, _, rfl, rfl, (by show (0 : Int) < 9; decide), _, _, rfl, rfl, _, rfl, ?_⟩
      exact ⟨_, _, m, rfl, hm, fun r H' r0 r1 sm => g r H' r0 (Int.lt_of_lt_of_le r1 hm2) sm⟩
def sp_factor (K : PySem.W.Frag) : Sp := fun vs H Q _ => ∃ (a : Addr) (k : Int) (B : Nat), vs = [.ref a, .int k] ∧ Scr K H a B ∧ 0 ≤ k ∧ ∀ (r : Int) (H' : Hp), 1 ≤ r → r ≤ 30 → Same H H' → Q (.int r) H'
theorem ok_factor (T : Txt K mg CSteps CLost CWon) : OkG P w K mg base CX0 2 "_law_factor" (sp_factor K) := by
  have G__law_draw : OkG P w K mg base CX0 1 "_law_draw" sp_draw := ok_draw T
  have G__law_cell_at : OkG P w K mg base CX0 1 "_law_cell_at" (sp_cell_at K) := ok_cell_at T
  refine OkG.of T.D__law_factor (fun _ _ => bd__law_factor) fun f fd F => F.ok sc__law_factor (fun vs H Q E h => ?_) (fun cdv A outer s H vs Q E hr h => ?_)
  · obtain ⟨a, k, B, rfl, _⟩ := h
    rfl
  · obtain ⟨a, k, B, rfl, hS, hk, g⟩ := h
    refine ⟨_, (pss_cons (ps_set (i := 2) sc__law_factor.nd rfl (by first | exact Or.inl rfl | exact Or.inr rfl) (pe_op op_mod (pe_callO G__law_cell_at (hr.mono (by first | decide | exact Nat.le_refl _)) (by rfl) pass0 (pa_cons (pv 0) (pa_cons (pv 1) pa_nil))) (pe_op op_pow pe_int pe_int)))
      (pss_one (ps_ret (pe_ix ix_tup (pe_tup (pa_cons pe_int (pa_cons pe_int (pa_cons pe_int (pa_cons (pe_op op_add pe_int (pe_callO G__law_draw (hr.mono (by first | decide | exact Nat.le_refl _)) (by rfl) pass0 (pa_cons (pv 2) (pa_cons pe_int (pa_cons pe_int pa_nil))))) (pa_cons (pe_op op_add pe_int (pe_callO G__law_draw (hr.mono (by first | decide | exact Nat.le_refl _)) (by rfl) pass0 (pa_cons (pv 2) (pa_cons pe_int (pa_cons pe_int pa_nil))))) pa_nil)))))) (pe_callO G__law_draw (hr.mono (by first | decide | exact Nat.le_refl _)) (by rfl) pass0 (pa_cons (pe_op op_add (pv 2) (pe_op op_mul pe_int (pv 1))) (pa_cons pe_int (pa_cons pe_int pa_nil)))) (fun _ _ => rfl))))), ?_⟩
    refine ⟨_, rfl, _, rfl, a, k, B, rfl, hS, hk, fun z hz => ?_⟩
    refine ⟨_, _, rfl, rfl, ⟨by decide, by decide, by decide⟩, _, _, rfl, rfl, (by show (0 : Int) < 10 ^ 18; decide), ?_⟩
    refine ⟨_, rfl, _, _, _, rfl, (by decide), fun r1 H1 r10 r11 s1 => ⟨_, _, rfl, rfl, ?_⟩⟩
    refine ⟨_, rfl, _, _, _, rfl, (by decide), fun r2 H2 r20 r21 s2 => ⟨_, _, rfl, rfl, ?_⟩⟩
    refine ⟨(by show 5 ≤ sizeLine; decide), fun p np => ?_⟩
    refine ⟨_, rfl, _, rfl, _, _, rfl, rfl, .inl ⟨by decide, by decide⟩, _, _, rfl, rfl, _, _, _, rfl, (by decide), fun r3 H3 r30 r31 s3 => ?_⟩
    obtain ⟨v, hv, av⟩ := tup_at (l := [1, 2, 3, 1 + r1, 1 + r2]) r30 r31
    refine ⟨p, _, _, _, rfl, rfl, SqT.of (s3 _ _ upd_same), av, ?_⟩
    refine g v H3 ?_ ?_ ((s1.trans s2).trans ((same_upd np).trans s3))
    · simp only [List.mem_cons, List.not_mem_nil, or_false] at hv
      omega
    · simp only [List.mem_cons, List.not_mem_nil, or_false] at hv
      omega
end
end Tx
namespace Tx
open PySem PySem.Spec PyProof.Rows L2 Tk TA
section
variable {P : Program} {w : World} {K : PySem.W.Frag} {mg : Str → Option Value} {base : Heap} {CSteps CLost CWon : Addr}
/-- the steps below the N-th -/
def upto (k : Int) (N : Nat) : List Int := (List.range N).map (h k)
theorem upto_succ (k : Int) (N : Nat) : upto k (N + 1) = upto k N ++ [h k N] := by
  unfold upto
  rw [List.range_succ, List.map_append]
  rfl
theorem upto_get (k : Int) {N i : Nat} (hi : i < N) : (upto k N)[i]? = some (h k i) := by
  unfold upto
  rw [List.getElem?_map, List.getElem?_range hi]
  rfl
theorem upto_len (k : Int) (N : Nat) : (upto k N).length = N := by
  unfold upto
  rw [List.length_map, List.length_range]
def sp_law_steps : Sp := fun vs H Q _ => ∃ (k m : Int) (B : Nat), vs = [.int k, .int m] ∧ 1 ≤ k ∧ k ≤ 30 ∧ m < 2 ^ B ∧ B ≤ 30000 ∧ ∀ (N : Nat) (H' : Hp) (l : Addr), Same H H' → H l = none → H' l = some (.lst ((upto k N).map V.int)) → m < h k N → (∀ i, i < N → h k i ≤ m) → N ≤ 30 * B → Q (.ref l) H'
theorem ok_law_steps (T : Txt K mg CSteps CLost CWon) : OkG P w K mg base CX0 1 "_law_steps" sp_law_steps := by
  refine OkG.of T.D__law_steps (fun _ _ => bd__law_steps) fun f fd F => F.ok sc__law_steps (fun vs H Q E h => ?_) (fun cdv A outer s H vs Q E hr h => ?_)
  · obtain ⟨k, m, B, rfl, _⟩ := h
    rfl
  · obtain ⟨k, m, B, rfl, hk, hk30, hm, hB, g⟩ := h
    have R := isRow hk
    refine ⟨_, (pss_cons (ps_par (i := 2) (j := 3) rfl sc__law_steps.nd rfl rfl (by decide) rfl rfl (pa_cons (pe_lst (pa_cons pe_int pa_nil)) (pa_cons pe_int pa_nil)) (by rfl))
      (pss_cons (ps_while PassesOwn.never (pt_cmpR op_le (pe_ix ix_list (pv 2) (pe_un un_neg pe_int) (fun _ _ => rfl)) (pv 1) (nomark _)) (pss_cons (ps_while PassesOwn.never (pt_cmpR op_lt (pe_op op_mul (pv 0) (pe_ix ix_list (pv 2) (pv 3) (fun _ _ => rfl))) (pe_ix ix_list (pv 2) (pe_un un_neg pe_int) (fun _ _ => rfl)) (nomark _)) (pss_one (ps_set (i := 3) sc__law_steps.nd rfl (by first | exact Or.inl rfl | exact Or.inr rfl) (pe_op op_add (pv 3) pe_int))))
      (pss_one (ps_expr (pe_bm PySem.F.plainAttrs_list PySem.F.slot_list_append PySem.F.type_list_append mt_append (pv 2) (pa_cons (pe_op op_add (pe_ix ix_list (pv 2) (pe_un un_neg pe_int) (fun _ _ => rfl)) (pe_ix ix_list (pv 2) (pv 3) (fun _ _ => rfl))) pa_nil))))))
      (pss_one (ps_ret (pe_lc (own := [("_law_step", 4)]) (g := gName 4) rfl sc__law_steps.nd (pi_list (pv 2)) (blkOk_by (own := [("_law_step", 4)]) (N := n__law_steps) (sc := defScope s__law_steps) (by decide +kernel)) (fun _ _ _ _ _ => (pg_name (i := 4) sc__law_steps.nd rfl (by first | exact Or.inl rfl | exact Or.inr rfl))) (fun _ _ _ _ _ => (pts_one (pt_cmpR op_le (pv 4) (pv 1) (nomark _)))) (fun _ _ _ _ _ => (pv 4))))))), ?_⟩
    refine ⟨(by show 1 ≤ sizeLine; decide), fun l hl => ?_⟩
    refine ⟨_, _, rfl, ?_⟩
    have few : ∀ n, (∀ i, i < n → h k i ≤ m) → n ≤ 30 * B := fun n a => R.few hk30 fun i hi => by
      have := a i hi
      omega
    refine ⟨fun z σ H' => ∃ n : Nat, z = 30 * B + 1 - n ∧ σ = [some (.int k), some (.int m), some (.ref l), some (.int (q k n)), none] ∧ H' l = some (.lst ((row k n).map V.int)) ∧ Same H H' ∧ (∀ i, i < n → h k i ≤ m),
      ⟨_, 0, rfl, rfl, upd_same, same_upd hl, fun i hi => absurd hi (Nat.not_lt_zero _)⟩, ?_⟩
    rintro z σ H' ⟨n, rfl, rfl, hl', sm, hi⟩
    have hn := few n hi
    refine ⟨_, rfl, _, rfl, l, _, _, _, rfl, rfl, SqL.of hl', at_row_last k n, _, rfl, _, _, rfl, rfl, _, rfl, ?_⟩
    refine ite2 (fun c => ?_) (fun c => ?_)
    · have c := of_decide_eq_true c
      refine ⟨fun σ' H'' => σ' = [some (.int k), some (.int m), some (.ref l), some (.int (q k (n + 1))), none] ∧ H'' l = some (.lst ((row k (n + 1)).map V.int)) ∧ Same H H'', ?_, ?_⟩
      · rintro σ' H'' ⟨rfl, a, b⟩
        have hi' : ∀ i, i < n + 1 → h k i ≤ m := fun i q => by
          by_cases d : i = n
          · rw [d]
            exact c
          · exact hi i (by omega)
        have := few _ hi'
        exact ⟨_, by omega, n + 1, rfl, rfl, a, b, hi'⟩
      · refine ⟨fun y σ H' => ∃ j : Nat, y = p k n - j ∧ j ≤ p k n ∧ σ = [some (.int k), some (.int m), some (.ref l), some (.int j), none] ∧ H' l = some (.lst ((row k n).map V.int)) ∧ Same H H',
          ⟨_, q k n, rfl, q_le hk n, rfl, hl', sm⟩, ?_⟩
        rintro y σ H' ⟨j, rfl, hj, rfl, hl', sm⟩
        have hjn : j ≤ n := Nat.le_trans hj (R.le n)
        refine ⟨_, rfl, _, rfl, _, rfl, l, _, _, _, rfl, rfl, SqL.of hl', at_row k hjn, ?_⟩
        refine ⟨_, _, rfl, rfl, .inl ⟨by omega, by omega⟩, ?_⟩
        refine ⟨_, rfl, _, rfl, l, _, _, _, rfl, rfl, SqL.of hl', at_row_last k n, _, _, rfl, rfl, _, rfl, ?_⟩
        refine ite2 (fun c => ?_) (fun c => ?_)
        · have c := of_decide_eq_true c
          have hlt : j < p k n := R.below c
          refine ⟨fun σ' H'' => σ' = [some (.int k), some (.int m), some (.ref l), some (.int (j + 1 : Nat)), none] ∧ H'' = H', ?_, ?_⟩
          · rintro σ' H'' ⟨rfl, rfl⟩
            exact ⟨_, by omega, j + 1, rfl, by omega, rfl, hl', sm⟩
          · exact ⟨_, rfl, _, _, rfl, rfl, rfl, rfl⟩
        · have c : ¬ k * h k j < h k n := fun z => c (decide_eq_true z)
          have ej : j = p k n := by
            by_cases d : j = p k n
            · exact d
            · exact absurd (R.lt n j (by omega)) c
          refine ⟨_, rfl, .inl ⟨rfl, _, SqL.of hl'⟩, _, rfl, _, rfl, l, _, _, _, rfl, rfl, SqL.of hl', at_row_last k n, ?_⟩
          refine ⟨_, rfl, _, rfl, l, _, _, _, rfl, rfl, SqL.of hl', at_row k hjn, _, _, rfl, rfl, l, _, _, rfl, rfl, hl', ?_, ?_⟩
          · rw [List.length_map, row_len, sizeLine_eq]
            omega
          · refine ⟨?_, ?_, same_new sm hl⟩
            · rw [ej]
              rfl
            · rw [upd_same, row_succ, List.map_append, R.s n, ej]
              rfl
    · have c : ¬ h k n ≤ m := fun z => c (decide_eq_true z)
      refine ⟨_, rfl, l, rfl, ⟨_, SqL.of hl'⟩, fun D nD => ?_⟩
      have nDl : l ≠ D := ne_of_none hl' nD
      refine lc_list (K := K) (a := l) (xs := (row k n).map V.int) (fun i H2 => H2 l = some (.lst ((row k n).map V.int)) ∧ H2 D = some (.lst ((upto k (min i n)).map V.int)) ∧ Same H H2)
        ⟨by rw [upd_ne nDl]; exact hl', by rw [upd_same, Nat.zero_min]; rfl, same_new sm (sm.free nD)⟩ (fun i H2 _ z => SqL.of z.1) ?_ ?_
      · rintro i y H2 hy ⟨a, b, d⟩
        have hin : i ≤ n := by
          have := (List.getElem?_eq_some_iff.mp hy).1
          rw [List.length_map, row_len] at this
          omega
        have ey : y = .int (h k i) := by
          rw [List.getElem?_map, row_get k n i hin] at hy
          exact (Option.some.inj hy).symm
        subst ey
        refine ⟨rfl, _, rfl, _, rfl, _, _, rfl, rfl, _, rfl, ?_⟩
        by_cases e : i = n
        · subst e
          rw [decide_eq_false c]
          refine iteF ⟨a, ?_, d⟩
          rw [Nat.min_self] at b
          rw [Nat.min_eq_right (Nat.le_succ _)]
          exact b
        · rw [decide_eq_true (hi i (by omega))]
          rw [Nat.min_eq_left hin] at b
          refine iteT ⟨_, rfl, _, b, ?_, by rw [upd_ne nDl]; exact a, ?_, same_new d (sm.free nD)⟩
          · rw [List.length_map, upto_len, sizeLine_eq]
            omega
          · rw [upd_same, Nat.min_eq_left (by omega), upto_succ, List.map_append]
            rfl
      · rintro H2 ⟨a, b, d⟩
        rw [List.length_map, row_len, Nat.min_eq_right (Nat.le_succ _)] at b
        exact g n H2 D d (sm.free nD) b (by omega) hi hn
def sp_law_parts : Sp := sp_parts_of
theorem upto_rev (k : Int) {N i : Nat} (hi : i < N) : ((upto k N).map V.int).reverse[i]? = some (.int (h k (N - 1 - i))) := by
  rw [List.getElem?_reverse (by rw [List.length_map, upto_len]; exact hi), List.length_map, upto_len, List.getElem?_map, upto_get k (by omega)]
  rfl
theorem ok_law_parts (T : Txt K mg CSteps CLost CWon) : OkG P w K mg base CX0 2 "_law_parts" sp_law_parts := by
  have G__law_steps : OkG P w K mg base CX0 1 "_law_steps" sp_law_steps := ok_law_steps T
  refine OkG.of T.D__law_parts (fun _ _ => bd__law_parts) fun f fd F => F.ok sc__law_parts (fun vs H Q E h => ?_) (fun cdv A outer s H vs Q E hr h => ?_)
  · obtain ⟨k, m, B, rfl, _⟩ := h
    rfl
  · obtain ⟨k, n, B, rfl, hk, hk30, h0, hm, hB, g⟩ := h
    have R := isRow hk
    refine ⟨_, (pss_cons (ps_set (i := 2) sc__law_parts.nd rfl (by first | exact Or.inl rfl | exact Or.inr rfl) (pe_lst pa_nil))
      (pss_cons (ps_for PassesOwn.never rfl (pi_list (pe_revL (pe_callO G__law_steps (hr.mono (by first | decide | exact Nat.le_refl _)) (by rfl) pass0 (pa_cons (pv 0) (pa_cons (pv 1) pa_nil))))) (pg_name (i := 3) sc__law_parts.nd rfl (by first | exact Or.inl rfl | exact Or.inr rfl)) (pss_one (ps_if (pt_cmpR op_le (pv 3) (pv 1) (nomark _)) (pss_cons (ps_expr (pe_bm PySem.F.plainAttrs_list PySem.F.slot_list_append PySem.F.type_list_append mt_append (pv 2) (pa_cons (pv 3) pa_nil)))
      (pss_one (ps_set (i := 1) sc__law_parts.nd rfl (by first | exact Or.inl rfl | exact Or.inr rfl) (pe_op op_sub (pv 1) (pv 3))))) pss_nil)))
      (pss_one (ps_ret (pv 2))))), ?_⟩
    refine ⟨Nat.zero_le _, fun o no => ?_⟩
    refine ⟨_, rfl, _, rfl, k, n, B, rfl, hk, hk30, hm, hB, fun N H1 l s1 nl hl lt hi hN => ?_⟩
    have ho : H1 o = some (.lst []) := s1 o _ upd_same
    have s1' : Same H H1 := (same_upd no).trans s1
    refine ⟨l, _, rfl, SqL.of hl, fun r nr => ?_⟩
    have hlen : ((upto k N).map V.int).reverse.length = N := by rw [List.length_reverse, List.length_map, upto_len]
    have nro : o ≠ r := ne_of_none ho nr
    refine ⟨_, rfl, ⟨_, SqL.of upd_same⟩, for_list (K := K) (a := r) (xs := ((upto k N).map V.int).reverse) (fun i σ H' => ∃ (f : List Int) (rest : Int) (v : Option V), σ = [some (.int k), some (.int rest), some (.ref o), v] ∧ Same H H' ∧ H' r = some (.lst ((upto k N).map V.int).reverse) ∧ H' o = some (.lst (f.map V.int)) ∧ f.length ≤ i ∧ f ++ greedy (h k) (N - i) rest = parts k n)
      ⟨[], n, none, rfl, same_lst s1' nr, upd_same, by rw [upd_ne nro]; exact ho, Nat.le_refl _, greedy_parts hk h0 lt⟩ (fun i σ H' _ ⟨_, _, _, _, _, z, _⟩ => SqL.of z) ?_ ?_⟩
    · rintro i y σ H' hi' ⟨f, rest, v, rfl, sm, hr', ho', hf, eq⟩
      have hil : i < N := by
        have := (List.getElem?_eq_some_iff.mp hi').1
        rw [hlen] at this
        exact this
      have ey : y = .int (h k (N - 1 - i)) := Option.some.inj (hi'.symm.trans (upto_rev k hil))
      subst ey
      have en : N - i = (N - 1 - i) + 1 := by omega
      have en2 : N - (i + 1) = N - 1 - i := by omega
      refine ⟨_, rfl, _, rfl, _, _, rfl, rfl, _, rfl, ?_⟩
      refine ite2 (fun c => ?_) (fun c => ?_)
      · have c := of_decide_eq_true c
        refine ⟨_, rfl, .inl ⟨rfl, _, SqL.of ho'⟩, _, rfl, o, _, _, rfl, rfl, ho', ?_, ?_⟩
        · rw [List.length_map, sizeLine_eq]
          omega
        · refine ⟨_, rfl, _, rfl, _, _, rfl, rfl, ?_⟩
          refine ⟨f ++ [h k (N - 1 - i)], rest - h k (N - 1 - i), _, rfl, same_new sm no, ?_, ?_, ?_, ?_⟩
          · rw [upd_ne nro.symm]
            exact hr'
          · rw [upd_same, List.map_append]
            rfl
          · rw [List.length_append]
            show f.length + 1 ≤ i + 1
            omega
          · rw [en] at eq
            unfold greedy at eq
            rw [if_pos c] at eq
            rw [en2, List.append_assoc]
            exact eq
      · have c : ¬ h k (N - 1 - i) ≤ rest := fun z => c (decide_eq_true z)
        refine ⟨f, rest, _, rfl, sm, hr', ho', by omega, ?_⟩
        rw [en] at eq
        unfold greedy at eq
        rw [if_neg c] at eq
        rw [en2]
        exact eq
    · rintro σ H' ⟨f, rest, v, rfl, sm, hr', ho', hf, eq⟩
      rw [hlen, Nat.sub_self] at eq
      have ef : f = parts k n := by
        rw [← eq]
        show f = f ++ []
        rw [List.append_nil]
      rw [ef] at ho'
      exact ⟨_, rfl, g H' o sm no ho'⟩
def sp_heap (K : PySem.W.Frag) : Sp := fun vs H Q _ => ∃ (a : Addr) (k f : Int) (B : Nat), vs = [.ref a, .int k, .int f] ∧ Scr K H a B ∧ B ≤ 2000000 ∧ 0 ≤ k ∧ k ≤ 100 ∧ 1 ≤ f ∧ f ≤ 30 ∧ ∀ (r : Int) (H' : Hp), 0 ≤ r → r < 2 ^ 140 → Same H H' → Q (.int r) H'
theorem ok_heap (T : Txt K mg CSteps CLost CWon) : OkG P w K mg base CX0 3 "_law_heap" (sp_heap K) := by
  have G__law_draw : OkG P w K mg base CX0 1 "_law_draw" sp_draw := ok_draw T
  have G__law_cell_at : OkG P w K mg base CX0 1 "_law_cell_at" (sp_cell_at K) := ok_cell_at T
  have G__law_value : OkG P w K mg base CX0 2 "_law_value" sp_value := ok_value T
  have G__law_steps : OkG P w K mg base CX0 1 "_law_steps" sp_law_steps := ok_law_steps T
  refine OkG.of T.D__law_heap (fun _ _ => bd__law_heap) fun f fd F => F.ok sc__law_heap (fun vs H Q E h => ?_) (fun cdv A outer s H vs Q E hr h => ?_)
  · obtain ⟨a, k, f, B, rfl, _⟩ := h
    rfl
  · obtain ⟨a, k, f, B, rfl, hS, hB, hk, hk2, hf, hf30, g⟩ := h
    have R := isRow hf
    refine ⟨_, (pss_cons (ps_set (i := 3) sc__law_heap.nd rfl (by first | exact Or.inl rfl | exact Or.inr rfl) (pe_callO G__law_cell_at (hr.mono (by first | decide | exact Nat.le_refl _)) (by rfl) pass0 (pa_cons (pv 0) (pa_cons (pe_op op_add (pv 1) pe_int) pa_nil))))
      (pss_cons (ps_set (i := 4) sc__law_heap.nd rfl (by first | exact Or.inl rfl | exact Or.inr rfl) (pe_callO G__law_draw (hr.mono (by first | decide | exact Nat.le_refl _)) (by rfl) pass0 (pa_cons (pe_op op_add (pe_op op_mod (pv 3) (pe_op op_pow pe_int pe_int)) (pv 1)) (pa_cons pe_int (pa_cons pe_int pa_nil)))))
      (pss_cons (ps_set (i := 5) sc__law_heap.nd rfl (by first | exact Or.inl rfl | exact Or.inr rfl) (pe_callO G__law_value (hr.mono (by first | decide | exact Nat.le_refl _)) (by rfl) pass0 (pa_cons (pv 3) (pa_cons (pe_op op_add (pv 1) pe_int) (pa_cons (pe_ix ix_tup (pe_tup (pa_cons pe_int (pa_cons pe_int (pa_cons pe_int pa_nil)))) (pe_callO G__law_draw (hr.mono (by first | decide | exact Nat.le_refl _)) (by rfl) pass0 (pa_cons (pe_op op_mod (pv 3) (pe_op op_pow pe_int pe_int)) (pa_cons pe_int (pa_cons pe_int pa_nil)))) (fun _ _ => rfl)) pa_nil)))))
      (pss_cons (ps_set (i := 5) sc__law_heap.nd rfl (by first | exact Or.inl rfl | exact Or.inr rfl) (pe_ifExp (pt_cmpR op_lt (pv 2) pe_int (nomark _)) (pv 5) (pe_op op_mod (pv 5) (pe_op op_pow pe_int pe_int))))
      (pss_cons (ps_if (pt_cmpR op_gt (pv 4) pe_int (nomark _)) (pss_cons (ps_set (i := 6) sc__law_heap.nd rfl (by first | exact Or.inl rfl | exact Or.inr rfl) (pe_callO G__law_steps (hr.mono (by first | decide | exact Nat.le_refl _)) (by rfl) pass0 (pa_cons (pv 2) (pa_cons (pe_op op_add (pv 5) pe_int) pa_nil))))
      (pss_one (ps_set (i := 5) sc__law_heap.nd rfl (by first | exact Or.inl rfl | exact Or.inr rfl) (pe_op op_add (pe_ix ix_list (pv 6) (pe_un un_neg pe_int) (fun _ _ => rfl)) (pe_ix ix_tup (pe_tup (pa_cons pe_int (pa_cons pe_int (pa_cons (pe_ix ix_list (pv 6) (pe_op op_fdiv (pe_callB call_len_seq (by rfl) T.b_len (by decide +kernel) (pa_cons (pv 6) pa_nil)) pe_int) (fun _ _ => rfl)) pa_nil)))) (pe_op op_sub (pv 4) pe_int) (fun _ _ => rfl)))))) pss_nil)
      (pss_one (ps_ret (pv 5)))))))), ?_⟩
    refine ⟨_, rfl, _, rfl, _, _, rfl, rfl, a, _, B, rfl, hS, by omega, fun c hc => ?_⟩
    refine ⟨_, rfl, _, _, rfl, rfl, ⟨by decide, by decide, by decide⟩, _, _, rfl, rfl, (by show (0 : Int) < 10 ^ 18; decide), _, rfl, _, _, rfl, rfl, _, _, _, rfl, (by decide), fun kind H1 k0 k1 s1 => ?_⟩
    refine ⟨_, rfl, _, rfl, _, _, rfl, rfl, (by show 3 ≤ sizeLine; decide), fun t nt => ?_⟩
    refine ⟨_, rfl, _, _, rfl, rfl, ⟨by decide, by decide, by decide⟩, _, _, rfl, rfl, (by show (0 : Int) < 10 ^ 18; decide), _, _, _, rfl, (by decide), fun d H2 d0 d1 s2 => ?_⟩
    obtain ⟨lim, hlim, av⟩ := tup_at (l := [20, 300, 900000]) d0 d1
    refine ⟨t, _, _, _, rfl, rfl, SqT.of (s2 _ _ upd_same), av, ?_⟩
    have hl1 : 0 < lim ∧ lim ≤ 900000 := by
      simp only [List.mem_cons, List.not_mem_nil, or_false] at hlim
      omega
    refine ⟨c, _, lim, B, rfl, hc, hB, by omega, by omega, hl1.1, Int.le_trans hl1.2 (by decide), fun v H3 v0 v1 s3 => ?_⟩
    have s03 : Same H H3 := s1.trans ((same_upd nt).trans (s2.trans s3))
    have e12 : (10 : Int) ^ (12 : Int).toNat = 1000000000000 := rfl
    -- found = found if factor < 4 else found % 10 ** 12
    refine ⟨_, rfl, _, _, rfl, rfl, _, rfl, ite2 (fun _ => ⟨_, rfl, ?_⟩) (fun _ => ⟨_, rfl, _, _, rfl, rfl, ⟨by decide, by decide, by decide⟩, _, _, rfl, rfl, (by show (0 : Int) < 10 ^ 12; decide), ?_⟩)⟩
    case' refine_1 =>
      have p0 := v0
      have p1 := v1
    case' refine_2 =>
      have p0 : 0 ≤ v % 10 ^ (12 : Int).toNat := Int.emod_nonneg _ (by decide)
      have p1 : v % 10 ^ (12 : Int).toNat < 10 ^ 40 := Int.lt_trans (Int.emod_lt_of_pos _ (by decide)) (by decide)
    all_goals
      refine ⟨_, rfl, _, _, rfl, rfl, _, rfl, ite2 (fun ck => ?_) (fun _ => ?_)⟩
      · have ck := of_decide_eq_true ck
        refine ⟨_, rfl, _, rfl, _, _, rfl, rfl, f, _, 140, rfl, hf, hf30, (by omega), (by decide), fun N H4 l s4 nl hl lt hi hN => ?_⟩
        have hN0 : N ≠ 0 := fun e => by
          rw [e, R.z] at lt
          omega
        obtain ⟨M, rfl⟩ : ∃ M, N = M + 1 := ⟨N - 1, by omega⟩
        have last : atI ((upto f (M + 1)).map V.int) (-1) = some (.int (h f M)) := by
          rw [upto_succ, List.map_append]
          exact atI_last _ _
        have hM := hi M (Nat.lt_succ_self M)
        have pM := R.pos M
        refine ⟨_, rfl, _, rfl, l, _, _, _, rfl, rfl, SqL.of hl, last, ?_⟩
        have hmid : (M + 1) / 2 < M + 1 := by omega
        have mid : atI ((upto f (M + 1)).map V.int) ((((M + 1 : Nat) : Int)) / 2) = some (.int (h f ((M + 1) / 2))) := at_of (j := (M + 1) / 2) (by omega) (by rw [List.getElem?_map, upto_get f hmid]; rfl)
        have hm2 := hi _ hmid
        have pm2 := R.pos ((M + 1) / 2)
        refine ⟨_, rfl, _, rfl, l, _, rfl, .inl (SqL.of hl), ?_⟩
        rw [List.length_map, upto_len]
        refine ⟨_, _, rfl, rfl, ⟨by decide, by decide⟩, l, _, _, _, rfl, rfl, SqL.of hl, mid, ?_⟩
        refine ⟨(by show 3 ≤ sizeLine; decide), fun t2 nt2 => ?_⟩
        obtain ⟨u, hu2, av2⟩ := tup_at (l := [0, 1, h f ((M + 1) / 2)]) (i := kind - 3) (by omega) (by show kind - 3 < 3; omega)
        refine ⟨_, rfl, _, _, rfl, rfl, t2, _, _, _, rfl, rfl, SqT.of upd_same, av2, _, _, rfl, rfl, ?_⟩
        have hu3 : 0 ≤ u ∧ u ≤ 10 ^ 40 + 1 := by
          simp only [List.mem_cons, List.not_mem_nil, or_false] at hu2
          omega
        exact ⟨_, rfl, g _ _ (by omega) (by omega) ((s03.trans s4).trans (same_upd nt2))⟩
      · exact ⟨_, rfl, g _ _ p0 (by omega) s03⟩
end
end Tx
namespace TA
theorem gap_iff {k : Int} : ∀ {l : List Int}, Gap k l ↔ ∀ (i : Nat) (a b : Int), l[i]? = some a → l[i + 1]? = some b → k * b < a
  | [] => ⟨fun _ i a b e _ => by simp at e, fun _ => trivial⟩
  | [x] => ⟨fun _ i a b _ e => by simp at e, fun _ => trivial⟩
  | x :: y :: r => by
    constructor
    · intro g i a b e1 e2
      cases i with
      | zero =>
        have h1 : x = a := Option.some.inj e1
        have h2 : y = b := Option.some.inj e2
        subst h1 h2
        exact g.1
      | succ j => exact (gap_iff (l := y :: r)).mp g.2 j a b e1 e2
    · intro q
      exact ⟨q 0 x y rfl rfl, (gap_iff (l := y :: r)).mpr fun i a b e1 e2 => q (i + 1) a b e1 e2⟩
/-- all parts are no greater than the first -/
theorem gap_le_head {k : Int} (hk : 1 ≤ k) : ∀ {l : List Int} {a : Int}, Gap k (a :: l) → (∀ x ∈ a :: l, 0 < x) → ∀ x ∈ a :: l, x ≤ a
  | [], a, _, _, x, hx => by
    rw [List.mem_singleton.mp hx]
    exact Int.le_refl _
  | b :: r, a, g, hp, x, hx => by
    rcases List.mem_cons.mp hx with e | e
    · rw [e]
      exact Int.le_refl _
    · have h1 := gap_le_head hk (l := r) g.2 (fun y hy => hp y (List.mem_cons_of_mem _ hy)) x e
      have h2 := hp b (List.mem_cons_of_mem _ List.mem_cons_self)
      have h3 : b ≤ k * b := by
        have := Int.mul_le_mul_of_nonneg_right hk (show 0 ≤ b by omega)
        omega
      have := g.1
      omega
theorem greedy_len {h : Nat → Int} : ∀ (m : Nat) (n : Int), (greedy h m n).length ≤ m
  | 0, _ => Nat.le_refl _
  | m + 1, n => by
    unfold greedy
    split
    · rw [List.length_cons]
      have := greedy_len (h := h) m (n - h m)
      omega
    · have := greedy_len (h := h) m n
      omega
theorem parts_len {k : Int} (hk : 1 ≤ k) (hk30 : k ≤ 30) {n : Int} {B : Nat} (hn : 0 ≤ n) (hB : n < 2 ^ B) : (parts k n).length ≤ 30 * B := by
  have h1 := (isRow hk).pow B
  have h2 := greedy_parts hk (m := k.toNat * B) hn (by omega)
  have h3 := greedy_len (h := h k) (k.toNat * B) n
  rw [h2] at h3
  have h4 : k.toNat * B ≤ 30 * B := Nat.mul_le_mul_right B (by omega)
  omega
theorem of_pos {k : Int} (hk : 1 ≤ k) {l : List Int} (o : Of (h k) l) : ∀ x ∈ l, 0 < x := fun x hx => by
  obtain ⟨i, e⟩ := o x hx
  have := (isRow hk).pos i
  omega
theorem mem_row {k : Int} {N : Nat} {x : Int} : x ∈ row k N ↔ ∃ i, i ≤ N ∧ x = h k i := by
  rw [row_map, List.mem_map]
  constructor
  · rintro ⟨i, hi, e⟩
    exact ⟨i, by have := List.mem_range.mp hi; omega, e.symm⟩
  · rintro ⟨i, hi, e⟩
    exact ⟨i, List.mem_range.mpr (by omega), e.symm⟩
end TA
namespace Tx
open PySem PySem.Spec PyProof.Rows L2 Tk TA
theorem inV_ints (x : Int) (xs : List Int) : inV (.int x) (xs.map V.int) = decide (x ∈ xs) := by
  rw [Bool.eq_iff_iff, decide_eq_true_iff]
  unfold inV
  rw [List.any_map, List.any_eq_true]
  constructor
  · rintro ⟨y, hy, e⟩
    have : y = x := by simpa [eqV] using e
    rw [← this]
    exact hy
  · intro hx
    exact ⟨x, hx, by simp [eqV]⟩
theorem flat_ints (xs : List Int) : (xs.map V.int).all flatV = true := by
  rw [List.all_map, List.all_eq_true]
  intro x _
  rfl
theorem map_get_int {l : List Int} {i : Nat} {y : V} (h : (l.map V.int)[i]? = some y) : ∃ z, l[i]? = some z ∧ y = V.int z := by
  rw [List.getElem?_map] at h
  cases e : l[i]? with
  | none =>
    rw [e] at h
    cases h
  | some z =>
    rw [e] at h
    exact ⟨z, rfl, (Option.some.inj h).symm⟩
theorem take_more {α : Type} : ∀ {l : List α} {i : Nat} {x : α}, l[i]? = some x → l.take (i + 1) = l.take i ++ [x]
  | [], i, x, h => by simp at h
  | a :: l, 0, x, h => by
    have e : a = x := Option.some.inj h
    subst e
    rfl
  | a :: l, i + 1, x, h => by
    have ih := take_more (l := l) (i := i) (x := x) h
    show a :: l.take (i + 1) = a :: l.take i ++ [x]
    rw [ih]
    rfl
theorem maps_bl (l : List Int) (f : Int → Bool) : (l.map fun x => V.bl (f x)) = (l.map f).map V.bl := by
  rw [List.map_map]
  rfl
section
variable {P : Program} {w : World} {K : PySem.W.Frag} {mg : Str → Option Value} {base : Heap} {CSteps CLost CWon : Addr}
def sp_is_sum : Sp := fun vs H Q _ => ∃ (k : Int) (a : Addr) (l : List Int) (B : Nat), vs = [.int k, .ref a] ∧ H a = some (.lst (l.map V.int)) ∧ 1 ≤ k ∧ k ≤ 30 ∧ l.length ≤ 1000000 ∧ (∀ x ∈ l, x < 2 ^ B) ∧ B ≤ 30000 ∧
  ∀ (b : Bool) (H' : Hp), Same H H' → (b = true ↔ Gap k l ∧ Of (h k) l) → Q (.bl b) H'
theorem ok_is_sum (T : Txt K mg CSteps CLost CWon) : OkG P w K mg base CX0 4 "is_sum" sp_is_sum := by
  have G_is_whole : OkG P w K mg base CX0 1 "is_whole" (sp_is_whole K) := ok_is_whole T
  have G_steps_to : OkG P w K mg base CX0 3 "steps_to" sp_steps_to := ok_steps_to T
  refine OkG.of T.D_is_sum (fun _ _ => bd_is_sum) fun f fd F => F.ok sc_is_sum (fun vs H Q E h => ?_) (fun cdv A outer s H vs Q E hr h => ?_)
  · obtain ⟨k, a, l, B, rfl, _⟩ := h
    rfl
  · obtain ⟨k, a, l, B, rfl, ha, hk, hk30, hlen, hlt, hB, g⟩ := h
    have R := isRow hk
    refine ⟨_, (pss_cons (ps_if (PW.pt (pw_or (pt_not (pt_val (pe_callB call_isi (by rfl) T.b_isinstance (by decide +kernel) (pa_cons (pv 1) (pa_cons (pe_bltn (v := .ty "list") (by rfl) T.b_list (by decide +kernel) rfl) pa_nil))))) (pw_or1 (pt_not (pt_val (pe_callB (cr_all rfl) (by rfl) T.b_all (by decide +kernel) (pa_cons (pe_lc (own := [("part", 3)]) (g := gName 3) (tt := tYes) rfl sc_is_sum.nd (pi_list (pv 1)) (blkOk_by (own := [("part", 3)]) (N := n_is_sum) (sc := defScope s_is_sum) (by decide +kernel)) (fun _ _ _ _ _ => (pg_name (i := 3) sc_is_sum.nd rfl (by first | exact Or.inl rfl | exact Or.inr rfl))) (fun _ _ _ _ _ => pts_nil) (fun _ _ _ _ _ => (pe_and (pe_callO G_is_whole (hr.mono (by first | decide | exact Nat.le_refl _)) (by rfl) pass0 (pa_cons (pv 3) pa_nil)) (pe_one (pe_cmpR op_gt (pv 3) pe_int (nomark _)))))) pa_nil))))))) (pss_one (ps_ret pe_bl)) pss_nil)
      (pss_cons (ps_if (pt_not (pt_val (pe_callB (cr_all rfl) (by rfl) T.b_all (by decide +kernel) (pa_cons (pe_lc (own := [("at", 4)]) (g := gName 4) (tt := tYes) rfl sc_is_sum.nd (pi_range2 (by rfl) T.b_range (pa_cons pe_int (pa_cons (pe_callB call_len_seq (by rfl) T.b_len (by decide +kernel) (pa_cons (pv 1) pa_nil)) pa_nil))) (blkOk_by (own := [("at", 4)]) (N := n_is_sum) (sc := defScope s_is_sum) (by decide +kernel)) (fun _ _ _ _ _ => (pg_name (i := 4) sc_is_sum.nd rfl (by first | exact Or.inl rfl | exact Or.inr rfl))) (fun _ _ _ _ _ => pts_nil) (fun _ _ _ _ _ => (pe_cmpR op_gt (pe_ix (r := rIxL K) ix_list (pv 1) (pe_op op_sub (pv 4) pe_int) (fun _ _ => rfl)) (pe_op op_mul (pv 0) (pe_ix (r := rIxL K) ix_list (pv 1) (pv 4) (fun _ _ => rfl))) (nomark _)))) pa_nil)))) (pss_one (ps_ret pe_bl)) pss_nil)
      (pss_cons (ps_if (pt_cmpR (op_eqIs hr.units) (pv 1) (pe_lst pa_nil) (nomark _)) (pss_one (ps_ret pe_bl)) pss_nil)
      (pss_cons (ps_set (i := 2) sc_is_sum.nd rfl (by first | exact Or.inl rfl | exact Or.inr rfl) (pe_callO G_steps_to (hr.mono (by first | decide | exact Nat.le_refl _)) (by rfl) pass0 (pa_cons (pv 0) (pa_cons (pe_ix ix_list (pv 1) pe_int (fun _ _ => rfl)) pa_nil))))
      (pss_one (ps_ret (pe_callB (cr_all rfl) (by rfl) T.b_all (by decide +kernel) (pa_cons (pe_lc (own := [("part", 3)]) (g := gName 3) (tt := tYes) rfl sc_is_sum.nd (pi_list (pv 1)) (blkOk_by (own := [("part", 3)]) (N := n_is_sum) (sc := defScope s_is_sum) (by decide +kernel)) (fun _ _ _ _ _ => (pg_name (i := 3) sc_is_sum.nd rfl (by first | exact Or.inl rfl | exact Or.inr rfl))) (fun _ _ _ _ _ => pts_nil) (fun _ _ _ _ _ => (pe_cmpR (r := rIn K false) op_in_seq (pv 3) (pv 2) (by rfl)))) pa_nil)))))))), ?_⟩
    have fail : ∀ H', Same H H' → ¬ (Gap k l ∧ Of (TA.h k) l) → Q (.bl false) H' := fun H' sm n => g false H' sm ⟨fun z => absurd z Bool.false_ne_true, fun z => absurd z n⟩
    -- isinstance(parts, list)
    refine ⟨_, rfl, _, _, _, _, true, rfl, .ty _, .base (.lst ha), kit_ty (by decide +kernel), _, rfl, iteF ?_⟩
    -- each a whole number above 0
    refine ⟨_, rfl, a, rfl, ⟨_, SqL.of ha⟩, fun D nD => lc_list (K := K) (a := a) (xs := l.map V.int) (fun i H2 => Same H H2 ∧ H2 D = some (.lst ((l.take i).map fun x => V.bl (decide (0 < x)))))
      ⟨same_upd nD, upd_same⟩ (fun i H2 _ z => SqL.of (z.1 _ _ ha)) ?_ ?_⟩
    · rintro i y H2 hy ⟨sm, hD⟩
      obtain ⟨z, hz, rfl⟩ := map_get_int hy
      have hil : i < l.length := (List.getElem?_eq_some_iff.mp hz).1
      have fin : ∀ b : Bool, b = decide (0 < z) → ∃ acc, H2 D = some (.lst acc) ∧ acc.length < sizeLine ∧ Same H (upd H2 D (.lst (acc ++ [.bl b]))) ∧ (upd H2 D (.lst (acc ++ [.bl b]))) D = some (.lst ((l.take (i + 1)).map fun x => V.bl (decide (0 < x)))) := by
        intro b eb
        refine ⟨_, hD, ?_, same_new sm nD, ?_⟩
        · rw [List.length_map, List.length_take, sizeLine_eq]
          omega
        · rw [upd_same, take_more hz, List.map_append, eb]
          rfl
      refine ⟨rfl, ⟨_, rfl, _, _, rfl, .int z, _, rfl, ite2 (fun c => ?_) (fun c => ?_)⟩⟩
      · exact ⟨_, rfl, _, _, rfl, rfl, fin _ rfl⟩
      · have c : ¬ (0 : Int) ≤ z := fun q => c (decide_eq_true q)
        exact fin _ (decide_eq_false (by omega)).symm
    · rintro H2 ⟨sm, hD⟩
      rw [List.length_map, List.take_length, maps_bl l fun x => decide ((0 : Int) < x)] at hD
      refine ⟨D, _, rfl, SqL.of hD, _, rfl, ?_⟩
      have e1 : (l.map fun x => decide ((0 : Int) < x)).all id = true ↔ ∀ x ∈ l, 0 < x := by
        rw [List.all_map, List.all_eq_true]
        exact ⟨fun q x hx => of_decide_eq_true (q x hx), fun q x hx => decide_eq_true (q x hx)⟩
      cases c1 : (l.map fun x => decide ((0 : Int) < x)).all id with
      | false =>
        refine iteT (fail H2 sm fun z => ?_)
        rw [e1.mpr (of_pos hk z.2)] at c1
        cases c1
      | true =>
        have hpos := e1.mp c1
        refine iteF ?_
        -- each more than the factor times the next one
        have ha2 : H2 a = some (.lst (l.map V.int)) := sm _ _ ha
        refine ⟨_, rfl, a, _, rfl, .inl (SqL.of ha2), ?_⟩
        rw [List.length_map]
        refine ⟨1, _, rfl, ⟨by decide, by decide, by omega, by omega⟩, fun D2 nD2 => ?_⟩
        have en : ((l.length : Int) - 1).toNat = l.length - 1 := by omega
        rw [en]
        have gapb : ∀ i, i < l.length - 1 → ∃ x y, l[i]? = some x ∧ l[i + 1]? = some y := fun i hi => ⟨l[i]'(by omega), l[i + 1]'(by omega), List.getElem?_eq_getElem _, List.getElem?_eq_getElem _⟩
        refine lc_range (lo := 1) (n := l.length - 1) (fun i H3 => Same H2 H3 ∧ ∃ bs : List Bool, H3 D2 = some (.lst (bs.map V.bl)) ∧ bs.length = i ∧ (bs.all id = true ↔ ∀ (j : Nat) (x y : Int), j < i → l[j]? = some x → l[j + 1]? = some y → k * y < x))
          ⟨same_upd nD2, [], upd_same, rfl, ⟨fun _ j x y hj => absurd hj (Nat.not_lt_zero _), fun _ => rfl⟩⟩ ?_ ?_
        · rintro i H3 hi ⟨sm3, bs, hD2, hbs, eb⟩
          have ha3 : H3 a = some (.lst (l.map V.int)) := sm3 _ _ ha2
          obtain ⟨x, y, hx, hy⟩ := gapb i hi
          have a0 : atI (l.map V.int) (1 + (i : Int) - 1) = some (.int x) := at_of (j := i) (by omega) (by rw [List.getElem?_map, hx]; rfl)
          have a1 : atI (l.map V.int) (1 + (i : Int)) = some (.int y) := at_of (j := i + 1) (by omega) (by rw [List.getElem?_map, hy]; rfl)
          refine ⟨rfl, ⟨_, rfl, _, rfl, _, _, rfl, rfl, a, _, _, _, rfl, rfl, SqL.of ha3, a0, ?_⟩⟩
          refine ⟨_, rfl, _, rfl, _, rfl, a, _, _, _, rfl, rfl, SqL.of ha3, a1, _, _, rfl, rfl, .inl ⟨by omega, by omega⟩, _, _, rfl, rfl, ?_⟩
          refine ⟨_, hD2, ?_, same_new sm3 nD2, bs ++ [decide (k * y < x)], ?_, ?_, ?_⟩
          · rw [List.length_map, sizeLine_eq]
            omega
          · rw [upd_same, List.map_append]
            rfl
          · rw [List.length_append, hbs]
            rfl
          · rw [List.all_append, Bool.and_eq_true, eb]
            constructor
            · rintro ⟨q1, q2⟩ j x' y' hj e1 e2
              by_cases ej : j = i
              · subst ej
                rw [hx] at e1
                rw [hy] at e2
                cases e1
                cases e2
                simpa using q2
              · exact q1 j x' y' (by omega) e1 e2
            · intro q
              refine ⟨fun j x' y' hj e1 e2 => q j x' y' (by omega) e1 e2, ?_⟩
              have := q i x y (by omega) hx hy
              simpa using this
        · rintro H3 ⟨sm3, bs, hD2, hbs, eb⟩
          have ha3 : H3 a = some (.lst (l.map V.int)) := sm3 _ _ ha2
          have sm03 : Same H H3 := sm.trans sm3
          have eb' : bs.all id = true ↔ Gap k l := by
            rw [eb, gap_iff]
            exact ⟨fun q i x y e1 e2 => q i x y (by have := (List.getElem?_eq_some_iff.mp e2).1; omega) e1 e2, fun q j x y _ e1 e2 => q j x y e1 e2⟩
          refine ⟨D2, _, rfl, SqL.of hD2, _, rfl, ?_⟩
          cases c2 : bs.all id with
          | false =>
            refine iteT (fail H3 sm03 fun z => ?_)
            rw [eb'.mpr z.1] at c2
            cases c2
          | true =>
            have hgap := eb'.mp c2
            refine iteF ?_
            -- if parts == []
            refine ⟨_, rfl, Nat.zero_le _, fun E0 nE0 => ?_⟩
            have ha4 : (upd H3 E0 (.lst [])) a = some (.lst (l.map V.int)) := by
              rw [upd_ne (ne_of_none ha3 nE0)]
              exact ha3
            have sm04 : Same H (upd H3 E0 (.lst [])) := same_new sm03 (sm03.free nE0)
            refine ⟨a, E0, l, [], rfl, rfl, SqL.of ha4, SqL.of upd_same, _, rfl, ?_⟩
            cases l with
            | nil =>
              refine ite2 (fun _ => ?_) (fun c => absurd (decide_eq_true rfl) c)
              exact g true _ sm04 ⟨fun _ => ⟨trivial, fun x hx => by cases hx⟩, fun _ => rfl⟩
            | cons p0 r =>
              refine ite2 (fun c => by have := of_decide_eq_true c; cases this) (fun _ => ?_)
              have hp0 : p0 ∈ p0 :: r := List.mem_cons_self
              refine ⟨_, rfl, _, rfl, a, _, 0, .int p0, rfl, rfl, SqL.of ha4, atI_nat (j := 0) rfl, ?_⟩
              refine ⟨k, p0, B, rfl, hk, hk30, hlt p0 hp0, hB, fun N H5 sl s5 nsl hsl lt5 hi5 hN5 => ?_⟩
              have ha5 : H5 a = some (.lst ((p0 :: r).map V.int)) := s5 _ _ ha4
              refine ⟨_, rfl, a, rfl, ⟨_, SqL.of ha5⟩, fun D3 nD3 => lc_list (K := K) (a := a) (xs := (p0 :: r).map V.int) (fun i H6 => Same H5 H6 ∧ H6 D3 = some (.lst (((p0 :: r).take i).map fun x => V.bl (decide (x ∈ row k N)))))
                ⟨same_upd nD3, upd_same⟩ (fun i H6 _ z => SqL.of (z.1 _ _ ha5)) ?_ ?_⟩
              · rintro i y H6 hy ⟨sm6, hD3⟩
                obtain ⟨z, hz, rfl⟩ := map_get_int hy
                have hil : i < (p0 :: r).length := (List.getElem?_eq_some_iff.mp hz).1
                refine ⟨rfl, ⟨_, rfl, _, rfl, sl, _, rfl, .inl (SqL.of (sm6 _ _ hsl)), rfl, flat_ints _, ?_⟩⟩
                refine ⟨_, hD3, ?_, same_new sm6 nD3, ?_⟩
                · rw [List.length_map, List.length_take, sizeLine_eq]
                  omega
                · rw [upd_same, take_more hz, List.map_append]
                  show some (HO.lst (_ ++ [V.bl (inV (.int z) ((row k N).map V.int))])) = _
                  rw [inV_ints]
                  rfl
              · rintro H6 ⟨sm6, hD3⟩
                rw [List.length_map, List.take_length, maps_bl (p0 :: r) fun x => decide (x ∈ row k N)] at hD3
                refine ⟨D3, _, rfl, SqL.of hD3, ?_⟩
                refine g _ H6 ((sm04.trans s5).trans sm6) ?_
                rw [List.all_map, List.all_eq_true]
                constructor
                · intro q
                  refine ⟨hgap, fun x hx => ?_⟩
                  obtain ⟨i, _, e⟩ := mem_row.mp (of_decide_eq_true (q x hx))
                  exact ⟨i, e⟩
                · rintro ⟨_, o⟩ x hx
                  obtain ⟨i, e⟩ := o x hx
                  have := gap_le_head hk hgap hpos x hx
                  refine decide_eq_true (mem_row.mpr ⟨i, ?_, e⟩)
                  have : i < N := R.lt_of (by omega)
                  omega
end
end Tx
namespace TA
/-- what a Lost tells is so -/
def shL (k n L : Int) (ps : List Int) : Prop := (Gap k ps ∧ Of (h k) ps) ∧ ps.sum = n ∧ ∀ t, ps.getLast? = some t → L < t
/-- what a Won tells is so -/
def shW (k n L t : Int) : Prop := 1 ≤ t ∧ t ≤ n ∧ t ≤ L ∧ lost k (n - t) (k * t) = true
end TA
namespace Tx
open PySem PySem.Spec PyProof.Rows L2 Tk TA
theorem last_int {l : List Int} {x : Int} (e : l.getLast? = some x) : atI (l.map V.int) (-1) = some (.int x) := by
  obtain ⟨r, er⟩ := List.getLast?_eq_some_iff.mp e
  rw [er, List.map_append]
  exact atI_last _ _
section
variable {P : Program} {w : World} {K : PySem.W.Frag} {mg : Str → Option Value} {base : Heap} {CSteps CLost CWon : Addr}
def sp_is_lost : Sp := fun vs H Q _ => ∃ (k n L : Int) (B : Nat), vs = [.int k, .int n, .int L] ∧ 1 ≤ k ∧ k ≤ 30 ∧ 0 ≤ n ∧ n < 2 ^ B ∧ B ≤ 30000 ∧ ∀ H' : Hp, Same H H' → Q (.bl (lost k n L)) H'
theorem ok_is_lost (T : Txt K mg CSteps CLost CWon) : OkG P w K mg base CX0 5 "is_lost" sp_is_lost := by
  have G_parts_of : OkG P w K mg base CX0 4 "parts_of" sp_parts_of := ok_parts_of T
  refine OkG.of T.D_is_lost (fun _ _ => bd_is_lost) fun f fd F => F.ok sc_is_lost (fun vs H Q E h => ?_) (fun cdv A outer s H vs Q E hr h => ?_)
  · obtain ⟨k, n, L, B, rfl, _⟩ := h
    rfl
  · obtain ⟨k, n, L, B, rfl, hk, hk30, h0, hn, hB, g⟩ := h
    refine ⟨_, (pss_cons (ps_set (i := 3) sc_is_lost.nd rfl (by first | exact Or.inl rfl | exact Or.inr rfl) (pe_callO G_parts_of (hr.mono (by first | decide | exact Nat.le_refl _)) (by rfl) pass0 (pa_cons (pv 0) (pa_cons (pv 1) pa_nil))))
      (pss_one (ps_ret (pe_or (pe_cmpR (op_eqIs hr.units) (pv 3) (pe_lst pa_nil) (nomark _)) (pe_one (pe_cmpR op_gt (pe_ix ix_list (pv 3) (pe_un un_neg pe_int) (fun _ _ => rfl)) (pv 2) (nomark _))))))), ?_⟩
    refine ⟨_, rfl, _, rfl, k, n, B, rfl, hk, hk30, h0, hn, hB, fun H1 l s1 nl hl => ?_⟩
    refine ⟨_, rfl, Nat.zero_le _, fun e ne => ?_⟩
    have hl' : (upd H1 e (.lst [])) l = some (.lst ((parts k n).map V.int)) := by
      rw [upd_ne (ne_of_none hl ne)]
      exact hl
    have s2 : Same H (upd H1 e (.lst [])) := same_lst s1 ne
    have g2 := g _ s2
    refine ⟨l, e, parts k n, [], rfl, rfl, SqL.of hl', SqL.of upd_same, _, rfl, ?_⟩
    cases q : (parts k n).getLast? with
    | none =>
      have e0 : parts k n = [] := List.getLast?_eq_none_iff.mp q
      rw [decide_eq_true e0]
      rw [lost_nil e0] at g2
      exact iteT g2
    | some t =>
      have ne0 : ¬ parts k n = [] := fun z => by
        rw [z] at q
        cases q
      rw [decide_eq_false ne0]
      rw [lost_some q] at g2
      exact iteF ⟨_, rfl, _, rfl, l, _, _, _, rfl, rfl, SqL.of hl', last_int q, _, rfl, _, _, rfl, rfl, g2⟩
/-! ### an answer's own word -/
def sp_Lost_shows (C : Addr) : Sp := fun vs H Q _ => ∃ (x l : Addr) (ps : List Int) (k n L : Int) (B : Nat), vs = [.ref x, .int k, .int n, .int L] ∧ LostAt C H x l ps ∧ 1 ≤ k ∧ k ≤ 30 ∧ ps.length ≤ 1000000 ∧ (∀ y ∈ ps, y < 2 ^ B) ∧ B ≤ 30000 ∧
  ∀ (b : Bool) (H' : Hp), Same H H' → (b = true ↔ shL k n L ps) → Q (.bl b) H'
theorem ok_Lost_shows (T : Txt K mg CSteps CLost CWon) : OkM P w K mg base CX0 5 CLost "shows" (sp_Lost_shows CLost) := by
  have G_is_sum : OkG P w K mg base CX0 4 "is_sum" sp_is_sum := ok_is_sum T
  refine OkM.of T.cl_Lost T.D_Lost_shows (fun _ _ => bd_Lost_shows) fun f fd F => F.ok sc_Lost_shows (fun vs H Q E h => ?_) (fun cdv A outer s H vs Q E hr h => ?_)
  · obtain ⟨x, l, ps, k, n, L, B, rfl, _⟩ := h
    rfl
  · obtain ⟨x, l, ps, k, n, L, B, rfl, ⟨⟨dx, hx⟩, hl⟩, hk, hk30, hlen, hlt, hB, g⟩ := h
    refine ⟨_, (pss_cons (ps_if (PW.pt (pw_or (pt_not (pt_val (pe_callO G_is_sum (hr.mono (by first | decide | exact Nat.le_refl _)) (by rfl) pass0 (pa_cons (pv 1) (pa_cons (pe_fld (pv 0) rfl) pa_nil))))) (pw_or1 (pt_cmpR op_ne (pe_callB (cr_sum rfl) (by rfl) T.b_sum (by decide +kernel) (pa_cons (pe_fld (pv 0) rfl) pa_nil)) (pv 2) (nomark _))))) (pss_one (ps_ret pe_bl)) pss_nil)
      (pss_one (ps_ret (pe_or (pe_cmpR (op_eqIs hr.units) (pe_fld (pv 0) rfl) (pe_lst pa_nil) (nomark _)) (pe_one (pe_cmpR op_gt (pe_ix ix_list (pe_fld (pv 0) rfl) (pe_un un_neg pe_int) (fun _ _ => rfl)) (pv 3) (nomark _))))))), ?_⟩
    refine ⟨_, rfl, _, rfl, x, _, dx, _, _, rfl, hx, T.cl_Lost, T.n_Lost_parts, fL_parts _, ?_⟩
    refine ⟨k, l, ps, B, rfl, hl, hk, hk30, hlen, hlt, hB, fun b H1 s1 hb => ⟨_, rfl, ?_⟩⟩
    have hx1 := s1 _ _ hx
    have hl1 := s1 _ _ hl
    cases b with
    | false =>
      refine iteT (g false H1 s1 ⟨fun z => absurd z Bool.false_ne_true, fun z => ?_⟩)
      exact hb.mpr z.1
    | true =>
      have his := hb.mp rfl
      refine iteF ⟨_, rfl, x, _, dx, _, _, rfl, hx1, T.cl_Lost, T.n_Lost_parts, fL_parts _, l, _, rfl, SqL.of hl1, _, rfl, rfl, _, rfl, ?_⟩
      by_cases es : ps.sum = n
      · refine iteNS (by rw [es]) ?_
        refine ⟨_, rfl, x, _, dx, _, _, rfl, hx1, T.cl_Lost, T.n_Lost_parts, fL_parts _, Nat.zero_le _, fun e ne => ?_⟩
        have hl2 : (upd H1 e (.lst [])) l = some (.lst (ps.map V.int)) := by
          rw [upd_ne (ne_of_none hl1 ne)]
          exact hl1
        have hx2 : (upd H1 e (.lst [])) x = some (.ins CLost dx (fL l)) := by
          rw [upd_ne (ne_of_none hx1 ne)]
          exact hx1
        have s2 : Same H (upd H1 e (.lst [])) := same_lst s1 ne
        refine ⟨l, e, ps, [], rfl, rfl, SqL.of hl2, SqL.of upd_same, _, rfl, ?_⟩
        cases q : ps.getLast? with
        | none =>
          have e0 : ps = [] := List.getLast?_eq_none_iff.mp q
          rw [decide_eq_true e0]
          exact iteT (g true _ s2 ⟨fun _ => ⟨his, es, fun t z => by rw [q] at z; cases z⟩, fun _ => rfl⟩)
        | some t =>
          have ne0 : ¬ ps = [] := fun z => by
            rw [z] at q
            cases q
          rw [decide_eq_false ne0]
          refine iteF ⟨_, rfl, x, _, dx, _, _, rfl, hx2, T.cl_Lost, T.n_Lost_parts, fL_parts _, _, rfl, l, _, _, _, rfl, rfl, SqL.of hl2, last_int q, _, rfl, _, _, rfl, rfl, ?_⟩
          refine g _ _ s2 ?_
          rw [decide_eq_true_iff]
          refine ⟨fun z => ⟨his, es, fun t' e' => ?_⟩, fun z => z.2.2 t q⟩
          rw [q] at e'
          cases e'
          exact z
      · have e1 : (!decide (V.int ps.sum = V.int n)) = true := by
          rw [decide_eq_false fun z => es (V.int.inj z)]
          rfl
        show if (!decide (V.int ps.sum = V.int n)) = true then _ else _
        rw [e1]
        exact iteT (g false H1 s1 ⟨fun z => absurd z Bool.false_ne_true, fun z => absurd z.2.1 es⟩)
def sp_Won_shows (C : Addr) : Sp := fun vs H Q _ => ∃ (x : Addr) (t k n L : Int) (B : Nat), vs = [.ref x, .int k, .int n, .int L] ∧ WonAt C H x t ∧ 1 ≤ k ∧ k ≤ 30 ∧ n < 2 ^ B ∧ B ≤ 30000 ∧
  ∀ (b : Bool) (H' : Hp), Same H H' → (b = true ↔ shW k n L t) → Q (.bl b) H'
theorem ok_Won_shows (T : Txt K mg CSteps CLost CWon) : OkM P w K mg base CX0 6 CWon "shows" (sp_Won_shows CWon) := by
  have G_is_whole : OkG P w K mg base CX0 1 "is_whole" (sp_is_whole K) := ok_is_whole T
  have G_is_lost : OkG P w K mg base CX0 5 "is_lost" sp_is_lost := ok_is_lost T
  refine OkM.of T.cl_Won T.D_Won_shows (fun _ _ => bd_Won_shows) fun f fd F => F.ok sc_Won_shows (fun vs H Q E h => ?_) (fun cdv A outer s H vs Q E hr h => ?_)
  · obtain ⟨x, t, k, n, L, B, rfl, _⟩ := h
    rfl
  · obtain ⟨x, t, k, n, L, B, rfl, ⟨dx, hx⟩, hk, hk30, hn, hB, g⟩ := h
    have no : ¬ shW k n L t → Q (.bl false) H := fun z => g false H (Same.refl H) ⟨fun y => absurd y Bool.false_ne_true, fun y => absurd y z⟩
    refine ⟨_, (pss_cons (ps_if (PW.pt (pw_or (pt_not (pt_val (pe_callO G_is_whole (hr.mono (by first | decide | exact Nat.le_refl _)) (by rfl) pass0 (pa_cons (pe_fld (pv 0) rfl) pa_nil)))) (pw_or1 (pt_not (pt_chain op_le op_le pe_int (pe_fld (pv 0) rfl) (pe_callB (call_min2 rfl) (by rfl) T.b_min (by decide +kernel) (pa_cons (pv 2) (pa_cons (pv 3) pa_nil)))))))) (pss_one (ps_ret pe_bl)) pss_nil)
      (pss_one (ps_ret (pe_callO G_is_lost (hr.mono (by first | decide | exact Nat.le_refl _)) (by rfl) pass0 (pa_cons (pv 1) (pa_cons (pe_op op_sub (pv 2) (pe_fld (pv 0) rfl)) (pa_cons (pe_op op_mul (pv 1) (pe_fld (pv 0) rfl)) pa_nil))))))), ?_⟩
    refine ⟨_, rfl, x, _, dx, _, _, rfl, hx, T.cl_Won, T.n_Won_taking, fW_taking _, _, _, rfl, .int t, _, rfl, ?_⟩
    by_cases t0 : 0 ≤ t
    · rw [decide_eq_true t0]
      refine iteF ⟨_, rfl, x, _, dx, _, _, rfl, hx, T.cl_Won, T.n_Won_taking, fW_taking _, _, _, rfl, rfl, _, rfl, ?_⟩
      by_cases t1 : 1 ≤ t
      · rw [decide_eq_true t1]
        refine iteT ⟨_, rfl, _, rfl, _, _, rfl, _, _, rfl, rfl, _, rfl, ?_⟩
        by_cases t2 : t ≤ n ∧ t ≤ L
        · rw [decide_eq_true (by split <;> omega)]
          refine iteF ?_
          refine ⟨_, rfl, _, rfl, _, rfl, x, _, dx, _, _, rfl, hx, T.cl_Won, T.n_Won_taking, fW_taking _, _, _, rfl, rfl, ?_⟩
          refine ⟨_, rfl, _, rfl, x, _, dx, _, _, rfl, hx, T.cl_Won, T.n_Won_taking, fW_taking _, _, _, rfl, rfl, .inl ⟨by omega, by omega⟩, ?_⟩
          refine ⟨k, n - t, k * t, B, rfl, hk, hk30, by omega, by omega, hB, fun H1 s1 => g _ H1 s1 ?_⟩
          exact ⟨fun z => ⟨t1, t2.1, t2.2, z⟩, fun z => z.2.2.2⟩
        · rw [decide_eq_false (by split <;> omega)]
          exact iteT (no fun z => t2 ⟨z.2.1, z.2.2.1⟩)
      · rw [decide_eq_false t1]
        exact iteF ⟨_, rfl, iteT (no fun z => t1 z.1)⟩
    · rw [decide_eq_false t0]
      exact iteT (no fun z => t0 (by have := z.1; omega))
end
end Tx
namespace Tx
open PySem PySem.Spec PyProof.Rows L2 Tk TA
section
variable {P : Program} {w : World} {K : PySem.W.Frag} {mg : Str → Option Value} {base : Heap} {CSteps CLost CWon : Addr}
def sp_law_lost : Sp := sp_is_lost
theorem ok_law_lost (T : Txt K mg CSteps CLost CWon) : OkG P w K mg base CX0 3 "_law_lost" sp_law_lost := by
  have G__law_parts : OkG P w K mg base CX0 2 "_law_parts" sp_law_parts := ok_law_parts T
  refine OkG.of T.D__law_lost (fun _ _ => bd__law_lost) fun f fd F => F.ok sc__law_lost (fun vs H Q E h => ?_) (fun cdv A outer s H vs Q E hr h => ?_)
  · obtain ⟨k, n, L, B, rfl, _⟩ := h
    rfl
  · obtain ⟨k, n, L, B, rfl, hk, hk30, h0, hn, hB, g⟩ := h
    refine ⟨_, (pss_cons (ps_set (i := 3) sc__law_lost.nd rfl (by first | exact Or.inl rfl | exact Or.inr rfl) (pe_callO G__law_parts (hr.mono (by first | decide | exact Nat.le_refl _)) (by rfl) pass0 (pa_cons (pv 0) (pa_cons (pv 1) pa_nil))))
      (pss_one (ps_ret (pe_or (pe_cmpR (op_eqIs hr.units) (pv 3) (pe_lst pa_nil) (nomark _)) (pe_one (pe_cmpR op_gt (pe_ix ix_list (pv 3) (pe_un un_neg pe_int) (fun _ _ => rfl)) (pv 2) (nomark _))))))), ?_⟩
    refine ⟨_, rfl, _, rfl, k, n, B, rfl, hk, hk30, h0, hn, hB, fun H1 l s1 nl hl => ?_⟩
    refine ⟨_, rfl, Nat.zero_le _, fun e ne => ?_⟩
    have hl' : (upd H1 e (.lst [])) l = some (.lst ((parts k n).map V.int)) := by
      rw [upd_ne (ne_of_none hl ne)]
      exact hl
    have s2 : Same H (upd H1 e (.lst [])) := same_lst s1 ne
    have g2 := g _ s2
    refine ⟨l, e, parts k n, [], rfl, rfl, SqL.of hl', SqL.of upd_same, _, rfl, ?_⟩
    cases q : (parts k n).getLast? with
    | none =>
      have e0 : parts k n = [] := List.getLast?_eq_none_iff.mp q
      rw [decide_eq_true e0]
      rw [lost_nil e0] at g2
      exact iteT g2
    | some t =>
      have ne0 : ¬ parts k n = [] := fun z => by
        rw [z] at q
        cases q
      rw [decide_eq_false ne0]
      rw [lost_some q] at g2
      exact iteF ⟨_, rfl, _, rfl, l, _, _, _, rfl, rfl, SqL.of hl', last_int q, _, rfl, _, _, rfl, rfl, g2⟩
def sp_law_whole : Sp := fun vs H Q _ => ∃ n : Int, vs = [.int n] ∧ Q (.bl true) H
theorem ok_law_whole (T : Txt K mg CSteps CLost CWon) : OkG P w K mg base CX0 1 "_law_whole" sp_law_whole := by
  refine OkG.of T.D__law_whole (fun _ _ => bd__law_whole) fun f fd F => F.ok sc__law_whole (fun vs H Q E h => ?_) (fun cdv A outer s H vs Q E hr h => ?_)
  · obtain ⟨n, rfl, _⟩ := h
    rfl
  · obtain ⟨n, rfl, g⟩ := h
    refine ⟨_, (pss_one (ps_ret (pe_and (pe_callB call_isi (by rfl) T.b_isinstance (by decide +kernel) (pa_cons (pv 0) (pa_cons (pe_bltn (v := .ty "int") (by rfl) T.b_int (by decide +kernel) rfl) pa_nil))) (pe_one (pe_not (pe_callB call_isi (by rfl) T.b_isinstance (by decide +kernel) (pa_cons (pv 0) (pa_cons (pe_bltn (v := .ty "bool") (by rfl) T.b_bool (by decide +kernel) rfl) pa_nil)))))))), ?_⟩
    refine ⟨_, rfl, _, _, _, _, true, rfl, .ty _, .base (.int n), kit_ty (by decide +kernel), _, rfl, iteT ?_⟩
    exact ⟨_, rfl, _, _, _, _, false, rfl, .ty _, .base (.int n), kit_ty (by decide +kernel), _, rfl, g⟩
def sp_says : Sp := fun vs H Q _ => ∃ a b : Bool, vs = [.bl a, .bl b] ∧ Q (.bl (decide (a = b))) H
theorem ok_says (T : Txt K mg CSteps CLost CWon) : OkG P w K mg base CX0 1 "_law_says" sp_says := by
  refine OkG.of T.D__law_says (fun _ _ => bd__law_says) fun f fd F => F.ok sc__law_says (fun vs H Q E h => ?_) (fun cdv A outer s H vs Q E hr h => ?_)
  · obtain ⟨a, b, rfl, _⟩ := h
    rfl
  · obtain ⟨a, b, rfl, g⟩ := h
    refine ⟨_, (pss_one (ps_ret (pe_and (pe_callB call_isi (by rfl) T.b_isinstance (by decide +kernel) (pa_cons (pv 0) (pa_cons (pe_bltn (v := .ty "bool") (by rfl) T.b_bool (by decide +kernel) rfl) pa_nil))) (pe_one (pe_cmpR op_eq (pv 0) (pv 1) (nomark _)))))), ?_⟩
    refine ⟨_, rfl, _, _, _, _, true, rfl, .ty _, .base (.bl a), kit_ty (by decide +kernel), _, rfl, iteT ?_⟩
    refine ⟨_, rfl, _, rfl, rfl, ?_⟩
    have e : decide (V.bl a = V.bl b) = decide (a = b) := by
      rw [Bool.eq_iff_iff, decide_eq_true_iff, decide_eq_true_iff]
      exact ⟨fun z => V.bl.inj z, fun z => by rw [z]⟩
    rw [e]
    exact g
def sp_law_is_sum : Sp := fun vs H Q _ => ∃ (k : Int) (a : Addr) (l : List Int) (B : Nat), vs = [.int k, .ref a] ∧ H a = some (.lst (l.map V.int)) ∧ 1 ≤ k ∧ k ≤ 30 ∧ l.length ≤ 1000000 ∧ l.sum < 2 ^ B ∧ B ≤ 30000 ∧
  ∀ (b : Bool) (H' : Hp), Same H H' → (b = true ↔ Gap k l ∧ Of (h k) l) → Q (.bl b) H'
theorem sum_pos : ∀ {l : List Int}, (∀ x ∈ l, 0 < x) → 0 ≤ l.sum
  | [], _ => by simp
  | a :: r, o => by
    have := o a List.mem_cons_self
    have := sum_pos (l := r) fun x hx => o x (List.mem_cons_of_mem _ hx)
    rw [List.sum_cons]
    omega
theorem ok_law_is_sum (T : Txt K mg CSteps CLost CWon) : OkG P w K mg base CX0 3 "_law_is_sum" sp_law_is_sum := by
  have G__law_whole : OkG P w K mg base CX0 1 "_law_whole" sp_law_whole := ok_law_whole T
  have G__law_parts : OkG P w K mg base CX0 2 "_law_parts" sp_law_parts := ok_law_parts T
  refine OkG.of T.D__law_is_sum (fun _ _ => bd__law_is_sum) fun f fd F => F.ok sc__law_is_sum (fun vs H Q E h => ?_) (fun cdv A outer s H vs Q E hr h => ?_)
  · obtain ⟨k, a, l, B, rfl, _⟩ := h
    rfl
  · obtain ⟨k, a, l, B, rfl, ha, hk, hk30, hlen, hsum, hB, g⟩ := h
    refine ⟨_, (pss_cons (ps_if (PW.pt (pw_or (pt_not (pt_val (pe_callB call_isi (by rfl) T.b_isinstance (by decide +kernel) (pa_cons (pv 1) (pa_cons (pe_bltn (v := .ty "list") (by rfl) T.b_list (by decide +kernel) rfl) pa_nil))))) (pw_or1 (pt_not (pt_val (pe_callB (cr_all rfl) (by rfl) T.b_all (by decide +kernel) (pa_cons (pe_lc (own := [("_law_part", 2)]) (g := gName 2) (tt := tYes) rfl sc__law_is_sum.nd (pi_list (pv 1)) (blkOk_by (own := [("_law_part", 2)]) (N := n__law_is_sum) (sc := defScope s__law_is_sum) (by decide +kernel)) (fun _ _ _ _ _ => (pg_name (i := 2) sc__law_is_sum.nd rfl (by first | exact Or.inl rfl | exact Or.inr rfl))) (fun _ _ _ _ _ => pts_nil) (fun _ _ _ _ _ => (pe_and (pe_callO G__law_whole (hr.mono (by first | decide | exact Nat.le_refl _)) (by rfl) pass0 (pa_cons (pv 2) pa_nil)) (pe_one (pe_cmpR op_gt (pv 2) pe_int (nomark _)))))) pa_nil))))))) (pss_one (ps_ret pe_bl)) pss_nil)
      (pss_one (ps_ret (pe_cmpR (op_eqIs hr.units) (pv 1) (pe_callO G__law_parts (hr.mono (by first | decide | exact Nat.le_refl _)) (by rfl) pass0 (pa_cons (pv 0) (pa_cons (pe_callB (cr_sum rfl) (by rfl) T.b_sum (by decide +kernel) (pa_cons (pv 1) pa_nil)) pa_nil))) (nomark _))))), ?_⟩
    refine ⟨_, rfl, _, _, _, _, true, rfl, .ty _, .base (.lst ha), kit_ty (by decide +kernel), _, rfl, iteF ?_⟩
    refine ⟨_, rfl, a, rfl, ⟨_, SqL.of ha⟩, fun D nD => lc_list (K := K) (a := a) (xs := l.map V.int) (fun i H2 => Same H H2 ∧ H2 D = some (.lst ((l.take i).map fun x => V.bl (decide (0 < x)))))
      ⟨same_upd nD, upd_same⟩ (fun i H2 _ z => SqL.of (z.1 _ _ ha)) ?_ ?_⟩
    · rintro i y H2 hy ⟨sm, hD⟩
      obtain ⟨z, hz, rfl⟩ := map_get_int hy
      have hil : i < l.length := (List.getElem?_eq_some_iff.mp hz).1
      refine ⟨rfl, ⟨_, rfl, _, rfl, _, rfl, iteT ⟨_, rfl, _, _, rfl, rfl, ?_⟩⟩⟩
      refine ⟨_, hD, ?_, same_new sm nD, ?_⟩
      · rw [List.length_map, List.length_take, sizeLine_eq]
        omega
      · rw [upd_same, take_more hz, List.map_append]
        rfl
    · rintro H2 ⟨sm, hD⟩
      rw [List.length_map, List.take_length, maps_bl l fun x => decide ((0 : Int) < x)] at hD
      refine ⟨D, _, rfl, SqL.of hD, _, rfl, ?_⟩
      have e1 : (l.map fun x => decide ((0 : Int) < x)).all id = true ↔ ∀ x ∈ l, 0 < x := by
        rw [List.all_map, List.all_eq_true]
        exact ⟨fun q x hx => of_decide_eq_true (q x hx), fun q x hx => decide_eq_true (q x hx)⟩
      cases c1 : (l.map fun x => decide ((0 : Int) < x)).all id with
      | false =>
        refine iteT (g false H2 sm ⟨fun z => absurd z Bool.false_ne_true, fun z => ?_⟩)
        rw [e1.mpr (of_pos hk z.2)] at c1
        exact c1.symm
      | true =>
        have hpos := e1.mp c1
        have ha2 := sm _ _ ha
        have h0 := sum_pos hpos
        refine iteF ⟨_, rfl, _, rfl, _, rfl, a, _, rfl, SqL.of ha2, ?_⟩
        refine ⟨k, l.sum, B, rfl, hk, hk30, h0, hsum, hB, fun H3 l2 s3 nl2 hl2 => ⟨a, l2, l, parts k l.sum, rfl, rfl, SqL.of (s3 _ _ ha2), SqL.of hl2, ?_⟩⟩
        refine g _ H3 (sm.trans s3) ?_
        rw [decide_eq_true_iff]
        constructor
        · intro e
          rw [e]
          exact ⟨parts_gap hk h0, parts_of hk⟩
        · rintro ⟨a1, a2⟩
          exact (parts_uniq hk a1 a2).symm
def sp_limits : Sp := fun vs H Q _ => ∃ (k n : Int) (B : Nat), vs = [.int k, .int n] ∧ 1 ≤ k ∧ k ≤ 30 ∧ 0 ≤ n ∧ n < 2 ^ B ∧ B ≤ 30000 ∧ ∀ (ls : List Int) (H' : Hp) (l : Addr), (∀ x ∈ ls, 0 ≤ x) → ls.length ≤ 7 → Same H H' → H l = none → H' l = some (.lst (ls.map V.int)) → Q (.ref l) H'
theorem ok_limits (T : Txt K mg CSteps CLost CWon) : OkG P w K mg base CX0 3 "_law_limits" sp_limits := by
  have G__law_parts : OkG P w K mg base CX0 2 "_law_parts" sp_law_parts := ok_law_parts T
  refine OkG.of T.D__law_limits (fun _ _ => bd__law_limits) fun f fd F => F.ok sc__law_limits (fun vs H Q E h => ?_) (fun cdv A outer s H vs Q E hr h => ?_)
  · obtain ⟨k, n, B, rfl, _⟩ := h
    rfl
  · obtain ⟨k, n, B, rfl, hk, hk30, h0, hn, hB, g⟩ := h
    refine ⟨_, (pss_cons (ps_set (i := 2) sc__law_limits.nd rfl (by first | exact Or.inl rfl | exact Or.inr rfl) (pe_op op_cat (pe_callO G__law_parts (hr.mono (by first | decide | exact Nat.le_refl _)) (by rfl) pass0 (pa_cons (pv 0) (pa_cons (pv 1) pa_nil))) (pe_lst (pa_cons pe_int pa_nil))))
      (pss_cons (ps_set (i := 3) sc__law_limits.nd rfl (by first | exact Or.inl rfl | exact Or.inr rfl) (pe_ix ix_list (pv 2) (pe_callB (call_max2 rfl) (by rfl) T.b_max (by decide +kernel) (pa_cons pe_int (pa_cons (pe_op op_sub (pe_callB call_len_seq (by rfl) T.b_len (by decide +kernel) (pa_cons (pv 2) pa_nil)) pe_int) pa_nil))) (fun _ _ => rfl)))
      (pss_cons (ps_set (i := 4) sc__law_limits.nd rfl (by first | exact Or.inl rfl | exact Or.inr rfl) (pe_lst (pa_cons (pv 3) (pa_cons (pe_op op_sub (pv 3) pe_int) (pa_cons (pv 1) (pa_cons (pe_callB (call_max2 rfl) (by rfl) T.b_max (by decide +kernel) (pa_cons pe_int (pa_cons (pe_op op_sub (pv 1) pe_int) pa_nil))) pa_nil))))))
      (pss_one (ps_ret (pe_ifExp (pt_cmpR op_gt (pv 0) pe_int (nomark _)) (pv 4) (pe_op op_cat (pv 4) (pe_lst (pa_cons pe_int (pa_cons pe_int (pa_cons (pe_ix ix_list (pv 2) pe_int (fun _ _ => rfl)) pa_nil))))))))))), ?_⟩
    have hlen := parts_len hk hk30 h0 hn
    refine ⟨_, rfl, _, rfl, k, n, B, rfl, hk, hk30, h0, hn, hB, fun H1 l1 s1 nl1 hl1 => ?_⟩
    refine ⟨(by show 1 ≤ sizeLine; decide), fun e ne => ?_⟩
    have hl1' : (upd H1 e (.lst [.int 1])) l1 = some (.lst ((parts k n).map V.int)) := by
      rw [upd_ne (ne_of_none hl1 ne)]
      exact hl1
    refine ⟨l1, e, _, _, rfl, rfl, hl1', upd_same, ?_, fun l2 nl2 => ?_⟩
    · rw [List.length_map, sizeLine_eq]
      show (parts k n).length + 1 ≤ _
      omega
    have s2 : Same H (upd (upd H1 e (.lst [.int 1])) l2 (.lst ((parts k n).map V.int ++ [.int 1]))) := same_lst (same_lst s1 ne) nl2
    have el : ((parts k n).map V.int ++ [V.int 1]) = (parts k n ++ [1]).map V.int := by
      rw [List.map_append]
      rfl
    rw [el]
    rw [el] at s2
    generalize hH2 : upd (upd H1 e (.lst [.int 1])) l2 (.lst ((parts k n ++ [1]).map V.int)) = H2 at s2
    have hl2 : H2 l2 = some (.lst ((parts k n ++ [1]).map V.int)) := by rw [← hH2, upd_same]
    have hpos : ∀ x ∈ parts k n ++ [1], 1 ≤ x := fun x hx => by
      rcases List.mem_append.mp hx with q | q
      · exact parts_pos hk q
      · rw [List.mem_singleton.mp q]
        exact Int.le_refl _
    have ln : (parts k n ++ [1]).length = (parts k n).length + 1 := by rw [List.length_append]; rfl
    refine ⟨_, rfl, _, rfl, l2, _, rfl, .inl (SqL.of hl2), ?_⟩
    rw [List.length_map, ln]
    refine ⟨_, _, rfl, rfl, _, _, rfl, ?_⟩
    obtain ⟨j, ej, hj⟩ : ∃ j : Nat, (if (((parts k n).length + 1 : Nat) : Int) - 2 > 0 then (((parts k n).length + 1 : Nat) : Int) - 2 else 0) = (j : Int) ∧ j < (parts k n ++ [1]).length := by
      by_cases c : (((parts k n).length + 1 : Nat) : Int) - 2 > 0
      · rw [if_pos c]
        exact ⟨(parts k n).length - 1, by omega, by omega⟩
      · rw [if_neg c]
        exact ⟨0, rfl, by omega⟩
    rw [ej]
    have hm : (parts k n ++ [1])[j] ∈ parts k n ++ [1] := List.getElem_mem hj
    generalize hy : (parts k n ++ [1])[j] = y at hm
    have py := hpos y hm
    refine ⟨l2, _, _, .int y, rfl, rfl, SqL.of hl2, atI_nat (by rw [List.getElem?_map, List.getElem?_eq_getElem hj, hy]; rfl), ?_⟩
    refine ⟨_, rfl, _, rfl, _, _, rfl, rfl, _, rfl, _, rfl, _, _, rfl, rfl, _, _, rfl, (by show 4 ≤ sizeLine; decide), fun l3 nl3 => ?_⟩
    have s3 := same_lst (o := HO.lst ([y, y - 1, n, if n - 1 > 0 then n - 1 else 0].map V.int)) s2 nl3
    have p4 : ∀ x ∈ [y, y - 1, n, if n - 1 > 0 then n - 1 else 0], 0 ≤ x := fun x hx => by
      simp only [List.mem_cons, List.not_mem_nil, or_false] at hx
      split at hx <;> omega
    refine ⟨_, rfl, _, _, rfl, rfl, _, rfl, ite2 (fun _ => ?_) (fun _ => ?_)⟩
    · exact ⟨_, rfl, g [y, y - 1, n, if n - 1 > 0 then n - 1 else 0] _ l3 p4 (by show 4 ≤ 7; decide) s3 (s2.free nl3) upd_same⟩
    · have hl2' : (upd H2 l3 (HO.lst ([y, y - 1, n, if n - 1 > 0 then n - 1 else 0].map V.int))) l2 = some (.lst ((parts k n ++ [1]).map V.int)) := by
        rw [upd_ne (ne_of_none hl2 nl3)]
        exact hl2
      have h0' : 0 < (parts k n ++ [1]).length := by omega
      have hm0 : (parts k n ++ [1])[0] ∈ parts k n ++ [1] := List.getElem_mem h0'
      generalize hy0 : (parts k n ++ [1])[0] = y0 at hm0
      have py0 := hpos y0 hm0
      refine ⟨_, rfl, _, rfl, l2, _, _, .int y0, rfl, rfl, SqL.of hl2', atI_nat (j := 0) (by rw [List.getElem?_map, List.getElem?_eq_getElem h0', hy0]; rfl), (by show 3 ≤ sizeLine; decide), fun l4 nl4 => ?_⟩
      have s4 := same_lst (o := HO.lst ([0, 1, y0].map V.int)) s3 nl4
      refine ⟨l3, l4, _, _, rfl, rfl, Eq.trans (upd_ne (ne_of_none upd_same nl4)) upd_same, upd_same, (by show 4 + 3 ≤ sizeLine; decide), fun l5 nl5 => ?_⟩
      refine g ([y, y - 1, n, if n - 1 > 0 then n - 1 else 0] ++ [0, 1, y0]) _ l5 (fun x hx => ?_) (by show 4 + 3 ≤ 7; decide) (same_lst s4 nl5) (s4.free nl5) upd_same
      rcases List.mem_append.mp hx with q | q
      · exact p4 x q
      · simp only [List.mem_cons, List.not_mem_nil, or_false] at q
        omega
end
end Tx
namespace TA
/-- a list of no great numbers -/
def Okl (l : List Int) : Prop := l.length ≤ 20000 ∧ ∀ y ∈ l, y < 2 ^ 200
theorem sum_le_len : ∀ {l : List Int}, (∀ y ∈ l, y < 2 ^ 200) → l.sum ≤ (l.length : Int) * 2 ^ 200
  | [], _ => by simp
  | a :: r, h => by
    have h1 := h a List.mem_cons_self
    have h2 := sum_le_len (l := r) fun y hy => h y (List.mem_cons_of_mem _ hy)
    rw [List.sum_cons, List.length_cons]
    have e : (((r.length + 1 : Nat) : Int)) * 2 ^ 200 = (r.length : Int) * 2 ^ 200 + 2 ^ 200 := by
      rw [Int.natCast_add, Int.add_mul]
      simp
    omega
theorem Okl.sum {l : List Int} (o : Okl l) : l.sum < 2 ^ 300 := by
  have h1 := sum_le_len o.2
  have h2 := o.1
  have h3 : (l.length : Int) * 2 ^ 200 ≤ 20000 * 2 ^ 200 := Int.mul_le_mul_of_nonneg_right (by omega) (by decide)
  have h4 : (20000 : Int) * 2 ^ 200 < 2 ^ 300 := by omega
  omega
theorem Okl.lt {l : List Int} (o : Okl l) : ∀ y ∈ l, y < 2 ^ 300 := fun y hy => by
  have := o.2 y hy
  omega
theorem Okl.sub {l m : List Int} (o : Okl l) (h1 : m.length ≤ l.length) (h2 : ∀ y ∈ m, y ∈ l) : Okl m := ⟨Nat.le_trans h1 o.1, fun y hy => o.2 y (h2 y hy)⟩
end TA
namespace Tx
open PySem PySem.Spec PyProof.Rows L2 Tk TA
theorem LostAt.same {C : Addr} {H H' : Hp} {x l : Addr} {ps : List Int} (A : LostAt C H x l ps) (s : Same H H') : LostAt C H' x l ps := by
  obtain ⟨⟨dx, hx⟩, hl⟩ := A
  exact ⟨⟨dx, s _ _ hx⟩, s _ _ hl⟩
theorem bool_eq {a b : Bool} {p : Prop} (ha : a = true ↔ p) (hb : b = true ↔ p) : decide (a = b) = true := by
  refine decide_eq_true ?_
  rw [Bool.eq_iff_iff, ha, hb]
section
variable {P : Program} {w : World} {K : PySem.W.Frag} {mg : Str → Option Value} {base : Heap} {CSteps CLost CWon : Addr}
def sp_lost_right : Sp := fun vs H Q _ => ∃ (k n L : Int) (a : Addr) (ps : List Int), vs = [.int k, .int n, .int L, .ref a] ∧ 1 ≤ k ∧ k ≤ 30 ∧ H a = some (.lst (ps.map V.int)) ∧ Okl ps ∧ ∀ H' : Hp, Same H H' → Q (.bl true) H'
theorem ok_lost_right (T : Txt K mg CSteps CLost CWon) : OkG P w K mg base CX0 7 "_law_lost_right" sp_lost_right := by
  have G_Lost : OkC P w K mg base CX0 1 "Lost" CLost (sp_Lost K CLost) := ok_Lost_init T
  have G__law_is_sum : OkG P w K mg base CX0 3 "_law_is_sum" sp_law_is_sum := ok_law_is_sum T
  have G__law_says : OkG P w K mg base CX0 1 "_law_says" sp_says := ok_says T
  have G_Lost_shows : OkM P w K mg base CX0 5 CLost "shows" (sp_Lost_shows CLost) := ok_Lost_shows T
  have G_Won_shows : OkM P w K mg base CX0 6 CWon "shows" (sp_Won_shows CWon) := ok_Won_shows T
  refine OkG.of T.D__law_lost_right (fun _ _ => bd__law_lost_right) fun f fd F => F.ok sc__law_lost_right (fun vs H Q E h => ?_) (fun cdv A outer s H vs Q E hr h => ?_)
  · obtain ⟨k, n, L, a, ps, rfl, _⟩ := h
    rfl
  · obtain ⟨k, n, L, a, ps, rfl, hk, hk30, ha, ho, g⟩ := h
    have hlen : ps.length ≤ 1000000 := Nat.le_trans ho.1 (by decide)
    refine ⟨_, (pss_cons (ps_set (i := 4) sc__law_lost_right.nd rfl (by first | exact Or.inl rfl | exact Or.inr rfl) (pe_callTy call_list_of (by rfl) T.b_list (by decide +kernel) (pa_cons (pv 3) pa_nil)))
      (pss_cons (ps_set (i := 5) sc__law_lost_right.nd rfl (by first | exact Or.inl rfl | exact Or.inr rfl) (pe_makeO G_Lost (hr.mono (by first | decide | exact Nat.le_refl _)) (by rfl) pass0 (pa_cons (pv 4) pa_nil)))
      (pss_cons (ps_expr (pe_bm PySem.F.plainAttrs_list PySem.F.slot_list_append PySem.F.type_list_append mt_append (pv 4) (pa_cons pe_int pa_nil)))
      (pss_cons (ps_set (i := 6) sc__law_lost_right.nd rfl (by first | exact Or.inl rfl | exact Or.inr rfl) (pe_and (pe_callO G__law_is_sum (hr.mono (by first | decide | exact Nat.le_refl _)) (by rfl) pass0 (pa_cons (pv 0) (pa_cons (pv 3) pa_nil))) (pe_and (pe_cmpR op_eq (pe_callB (cr_sum rfl) (by rfl) T.b_sum (by decide +kernel) (pa_cons (pv 3) pa_nil)) (pv 1) (nomark _)) (pe_one (pe_or (pe_cmpR (op_eqIs hr.units) (pv 3) (pe_lst pa_nil) (nomark _)) (pe_one (pe_cmpR op_gt (pe_ix ix_list (pv 3) (pe_un un_neg pe_int) (fun _ _ => rfl)) (pv 2) (nomark _))))))))
      (pss_one (ps_ret (pe_and (pe_cmpR (op_eqIs hr.units) (pe_fld (pv 5) rfl) (pv 3) (nomark _)) (pe_one (pe_callO G__law_says (hr.mono (by first | decide | exact Nat.le_refl _)) (by rfl) pass0 (pa_cons (pe_alt (pe_methO G_Lost_shows (hr.mono (by first | decide | exact Nat.le_refl _)) pass0 (pv 5) (pa_cons (pv 0) (pa_cons (pv 1) (pa_cons (pv 2) pa_nil)))) (pe_methO G_Won_shows (hr.mono (by first | decide | exact Nat.le_refl _)) pass0 (pv 5) (pa_cons (pv 0) (pa_cons (pv 1) (pa_cons (pv 2) pa_nil))))) (pa_cons (pv 6) pa_nil))))))))))), ?_⟩
    -- handed = list(parts); answer = Lost(handed); handed.append(1)
    refine ⟨_, rfl, a, _, rfl, .inl (SqL.of ha), fun l1 nl1 => ?_⟩
    have s1 : Same H (upd H l1 (.lst (ps.map V.int))) := same_upd nl1
    refine ⟨_, rfl, fun x dx nx ndx nex => ?_⟩
    have s2 : Same (upd H l1 (.lst (ps.map V.int))) (upd (upd (upd H l1 (.lst (ps.map V.int))) dx (.own x)) x (.ins CLost dx [])) := fun b o e => by
      rw [upd_ne (ne_of_none e nx), upd_ne (ne_of_none e ndx)]
      exact e
    refine ⟨x, dx, l1, ps, rfl, upd_same, SqL.of (s2 _ _ upd_same), fun l2 H2 nl2 A2 kp => ⟨rfl, ?_⟩⟩
    have s3 : Same (upd H l1 (.lst (ps.map V.int))) H2 := Same.made nx ndx kp
    have h1 : H2 l1 = some (.lst (ps.map V.int)) := s3 _ _ upd_same
    refine ⟨_, rfl, .inl ⟨rfl, _, SqL.of h1⟩, l1, _, _, rfl, rfl, h1, ?_, ?_⟩
    · have := ho.1
      rw [List.length_map, sizeLine_eq]
      omega
    have e1 : (ps.map V.int ++ [V.int 1]) = (ps ++ [1]).map V.int := by
      rw [List.map_append]
      rfl
    rw [e1]
    generalize hH3 : upd H2 l1 (.lst ((ps ++ [1]).map V.int)) = H3
    have s4 : Same H H3 := by
      rw [← hH3]
      exact same_new (s1.trans s3) nl1
    obtain ⟨⟨dx2, hx2⟩, hl2⟩ := A2
    have nx1 : x ≠ l1 := ne_of hx2 h1 (by intro z; cases z)
    have n21 : l2 ≠ l1 := (ne_of_none (s2 _ _ upd_same) nl2).symm
    have A3 : LostAt CLost H3 x l2 ps := ⟨⟨dx2, by rw [← hH3, upd_ne nx1]; exact hx2⟩, by rw [← hH3, upd_ne n21]; exact hl2⟩
    -- what is due
    refine ⟨_, rfl, _, rfl, k, a, ps, 300, rfl, s4 _ _ ha, hk, hk30, hlen, ho.sum, (by decide), fun b H4 s5 hb => ⟨_, rfl, ?_⟩⟩
    have ha4 := s5 _ _ (s4 _ _ ha)
    have A4 := A3.same s5
    -- the end, whatever is due
    have fin : ∀ (d : Bool) (H5 : Hp), Same H4 H5 → (d = true ↔ shL k n L ps) → tRet (tAndV (tOp (rEqIs K) (tFld K (tVar 5) "parts") (tVar 3)) (tCallO sp_says E0 (tCons (tAlt (tMethO CLost "shows" (sp_Lost_shows CLost) E0 (tVar 5) (tCons (tVar 0) (tCons (tVar 1) (tCons (tVar 2) tNil)))) (tMethO CWon "shows" (sp_Won_shows CWon) E0 (tVar 5) (tCons (tVar 0) (tCons (tVar 1) (tCons (tVar 2) tNil))))) (tCons (tVar 6) tNil)))) { nx := fun _ H' => Q .non H', rt := Q } [some (.int k), some (.int n), some (.int L), some (.ref a), some (.ref l1), some (.ref x), some (.bl d)] H5 := by
      intro d H5 s6 hd
      have A5 := A4.same s6
      obtain ⟨⟨dx5, hx5⟩, hl5⟩ := id A5
      refine ⟨_, rfl, x, _, dx5, _, _, rfl, hx5, T.cl_Lost, T.n_Lost_parts, fL_parts _, _, rfl, l2, a, ps, ps, rfl, rfl, SqL.of hl5, SqL.of (s6 _ _ ha4), _, rfl, ?_⟩
      rw [decide_eq_true rfl]
      refine iteT (.inl ⟨_, rfl, x, dx5, _, rfl, hx5, fL_shows _, _, rfl, _, rfl, _, rfl, x, l2, ps, k, n, L, 300, rfl, A5, hk, hk30, hlen, ho.lt, by decide, fun b6 H6 s7 hb6 => ?_⟩)
      refine ⟨_, rfl, b6, d, rfl, ?_⟩
      rw [bool_eq hb6 hd]
      exact g H6 (s4.trans (s5.trans (s6.trans s7)))
    cases b with
    | false =>
      refine iteF (fin false H4 (Same.refl _) ⟨fun z => absurd z Bool.false_ne_true, fun z => hb.mpr z.1⟩)
    | true =>
      have his := hb.mp rfl
      refine iteT ⟨_, rfl, a, _, rfl, SqL.of ha4, _, rfl, rfl, _, rfl, ?_⟩
      by_cases es : ps.sum = n
      · rw [decide_eq_true (show V.int ps.sum = V.int n by rw [es])]
        refine iteT ⟨_, rfl, Nat.zero_le _, fun e ne => ?_⟩
        have ha5 : (upd H4 e (.lst [])) a = some (.lst (ps.map V.int)) := by
          rw [upd_ne (ne_of_none ha4 ne)]
          exact ha4
        refine ⟨a, e, ps, [], rfl, rfl, SqL.of ha5, SqL.of upd_same, _, rfl, ?_⟩
        cases q : ps.getLast? with
        | none =>
          have e0 : ps = [] := List.getLast?_eq_none_iff.mp q
          rw [decide_eq_true e0]
          exact iteT (fin true _ (same_upd ne) ⟨fun _ => ⟨his, es, fun t z => by rw [q] at z; cases z⟩, fun _ => rfl⟩)
        | some t =>
          have ne0 : ¬ ps = [] := fun z => by
            rw [z] at q
            cases q
          rw [decide_eq_false ne0]
          refine iteF ⟨_, rfl, _, rfl, a, _, _, _, rfl, rfl, SqL.of ha5, last_int q, _, rfl, _, _, rfl, rfl, ?_⟩
          refine fin _ _ (same_upd ne) ?_
          rw [decide_eq_true_iff]
          refine ⟨fun z => ⟨his, es, fun t' e' => ?_⟩, fun z => z.2.2 t q⟩
          rw [q] at e'
          cases e'
          exact z
      · rw [decide_eq_false (show ¬ V.int ps.sum = V.int n from fun z => es (V.int.inj z))]
        exact iteF (fin false H4 (Same.refl _) ⟨fun z => absurd z Bool.false_ne_true, fun z => absurd z.2.1 es⟩)
def sp_won_right : Sp := fun vs H Q _ => ∃ k n L t : Int, vs = [.int k, .int n, .int L, .int t] ∧ 1 ≤ k ∧ k ≤ 30 ∧ n < 2 ^ 300 ∧ ∀ H' : Hp, Same H H' → Q (.bl true) H'
theorem ok_won_right (T : Txt K mg CSteps CLost CWon) : OkG P w K mg base CX0 7 "_law_won_right" sp_won_right := by
  have G_Won : OkC P w K mg base CX0 1 "Won" CWon (sp_Won CWon) := ok_Won_init T
  have G__law_lost : OkG P w K mg base CX0 3 "_law_lost" sp_law_lost := ok_law_lost T
  have G__law_says : OkG P w K mg base CX0 1 "_law_says" sp_says := ok_says T
  have G_Won_shows : OkM P w K mg base CX0 6 CWon "shows" (sp_Won_shows CWon) := ok_Won_shows T
  refine OkG.of T.D__law_won_right (fun _ _ => bd__law_won_right) fun f fd F => F.ok sc__law_won_right (fun vs H Q E h => ?_) (fun cdv A outer s H vs Q E hr h => ?_)
  · obtain ⟨k, n, L, t, rfl, _⟩ := h
    rfl
  · obtain ⟨k, n, L, t, rfl, hk, hk30, hn, g⟩ := h
    refine ⟨_, (pss_cons (ps_set (i := 4) sc__law_won_right.nd rfl (by first | exact Or.inl rfl | exact Or.inr rfl) (pe_chain op_le op_le pe_int (pv 3) (pe_callB (call_min2 rfl) (by rfl) T.b_min (by decide +kernel) (pa_cons (pv 1) (pa_cons (pv 2) pa_nil)))))
      (pss_cons (ps_set (i := 4) sc__law_won_right.nd rfl (by first | exact Or.inl rfl | exact Or.inr rfl) (pe_and (pv 4) (pe_one (pe_callO G__law_lost (hr.mono (by first | decide | exact Nat.le_refl _)) (by rfl) pass0 (pa_cons (pv 0) (pa_cons (pe_op op_sub (pv 1) (pv 3)) (pa_cons (pe_op op_mul (pv 0) (pv 3)) pa_nil)))))))
      (pss_one (ps_ret (pe_and (pe_cmpR op_eq (pe_fld (pe_makeO G_Won (hr.mono (by first | decide | exact Nat.le_refl _)) (by rfl) pass0 (pa_cons (pv 3) pa_nil)) rfl) (pv 3) (nomark _)) (pe_one (pe_callO G__law_says (hr.mono (by first | decide | exact Nat.le_refl _)) (by rfl) pass0 (pa_cons (pe_methO G_Won_shows (hr.mono (by first | decide | exact Nat.le_refl _)) pass0 (pe_makeO G_Won (hr.mono (by first | decide | exact Nat.le_refl _)) (by rfl) pass0 (pa_cons (pv 3) pa_nil)) (pa_cons (pv 0) (pa_cons (pv 1) (pa_cons (pv 2) pa_nil)))) (pa_cons (pv 4) pa_nil))))))))), ?_⟩
    have fin : ∀ (d : Bool) (H1 : Hp), Same H H1 → (d = true ↔ shW k n L t) → tRet (tAndV (tOp rEq (tFld K (tMakeO CWon (sp_Won CWon) E0 (tCons (tVar 3) tNil)) "taking") (tVar 3)) (tCallO sp_says E0 (tCons (tMethO CWon "shows" (sp_Won_shows CWon) E0 (tMakeO CWon (sp_Won CWon) E0 (tCons (tVar 3) tNil)) (tCons (tVar 0) (tCons (tVar 1) (tCons (tVar 2) tNil)))) (tCons (tVar 4) tNil)))) { nx := fun _ H' => Q .non H', rt := Q } [some (.int k), some (.int n), some (.int L), some (.int t), some (.bl d)] H1 := by
      intro d H1 s1 hd
      refine ⟨_, rfl, fun x dx nx ndx nex => ?_⟩
      refine ⟨x, dx, t, rfl, upd_same, fun H2 ⟨dx2, hx2⟩ kp => ⟨rfl, ?_⟩⟩
      have s2 : Same H1 H2 := Same.made nx ndx kp
      refine ⟨x, _, dx2, _, _, rfl, hx2, T.cl_Won, T.n_Won_taking, fW_taking _, _, rfl, rfl, _, rfl, ?_⟩
      rw [decide_eq_true rfl]
      refine iteT ⟨_, rfl, fun y dy ny ndy ney => ?_⟩
      refine ⟨y, dy, t, rfl, upd_same, fun H3 A3 kp3 => ⟨rfl, ?_⟩⟩
      have s3 : Same H2 H3 := Same.made ny ndy kp3
      obtain ⟨dy3, hy3⟩ := id A3
      refine ⟨y, dy3, _, rfl, hy3, fW_shows _, _, rfl, _, rfl, _, rfl, y, t, k, n, L, 300, rfl, A3, hk, hk30, hn, by decide, fun b6 H6 s7 hb6 => ?_⟩
      refine ⟨_, rfl, b6, d, rfl, ?_⟩
      rw [bool_eq hb6 hd]
      exact g H6 (s1.trans (s2.trans (s3.trans s7)))
    have no : ¬ shW k n L t → (false = true ↔ shW k n L t) := fun z => ⟨fun y => absurd y Bool.false_ne_true, fun y => absurd y z⟩
    refine ⟨_, rfl, _, _, rfl, rfl, _, rfl, ?_⟩
    by_cases t1 : 1 ≤ t
    · rw [decide_eq_true t1]
      refine iteT ⟨_, rfl, _, rfl, _, _, rfl, _, _, rfl, rfl, ?_⟩
      by_cases t2 : t ≤ n ∧ t ≤ L
      · refine ⟨_, rfl, _, rfl, ?_⟩
        rw [decide_eq_true (show t ≤ if L < n then L else n by split <;> omega)]
        refine iteT ?_
        refine ⟨_, rfl, _, rfl, _, rfl, _, _, rfl, rfl, _, rfl, _, rfl, _, _, rfl, rfl, .inl ⟨by omega, by omega⟩, k, n - t, k * t, 300, rfl, hk, hk30, by omega, by omega, by decide, fun H1 s1 => ?_⟩
        exact fin _ H1 s1 ⟨fun z => ⟨t1, t2.1, t2.2, z⟩, fun z => z.2.2.2⟩
      · refine ⟨_, rfl, _, rfl, ?_⟩
        rw [decide_eq_false (show ¬ t ≤ if L < n then L else n by split <;> omega)]
        refine iteF ?_
        exact fin false H (Same.refl H) (no fun z => t2 ⟨z.2.1, z.2.2.1⟩)
    · rw [decide_eq_false t1]
      refine iteF ⟨_, rfl, _, rfl, iteF ?_⟩
      exact fin false H (Same.refl H) (no fun z => t1 z.1)
end
end Tx
namespace Tx
open PySem PySem.Spec PyProof.Rows L2 Tk TA
theorem cut63 (xs : List V) : cutV xs none (some 63) = xs.take 63 := by
  unfold cutV
  rw [show HT.sIx xs.length xs.length (some 63) = min 63 xs.length from HT.sIx_nat xs.length xs.length 63, HT.sIx_none]
  show (xs.drop 0).take (min 63 xs.length - 0) = xs.take 63
  rw [List.drop_zero, Nat.sub_zero]
  by_cases c : 63 ≤ xs.length
  · rw [Nat.min_eq_left c]
  · rw [Nat.min_eq_right (by omega), List.take_of_length_le (Nat.le_refl _), List.take_of_length_le (by omega)]
theorem cut_ints (ls : List Int) (lo hi : Option Int) : ∃ ms : List Int, cutV (ls.map V.int) lo hi = ms.map V.int ∧ ms.length ≤ ls.length ∧ ∀ y ∈ ms, y ∈ ls := by
  unfold cutV
  rw [← List.map_drop, ← List.map_take]
  refine ⟨_, rfl, ?_, fun y hy => List.mem_of_mem_drop (List.mem_of_mem_take hy)⟩
  rw [List.length_take, List.length_drop]
  omega
theorem rg : ∀ n : Nat, n < 64 → ∃ m : Nat, RgC 0 (n : Int) (1 + (n : Int) / 3) m ∧ ∀ i, i < m → 0 ≤ (0 : Int) + (i : Int) * (1 + (n : Int) / 3) ∧ (0 : Int) + (i : Int) * (1 + (n : Int) / 3) < 64 := by
  have key : ∀ n : Nat, n < 64 → (1 + (n : Int) / 3 ≠ 0 ∧ (1 + (n : Int) / 3).natAbs < 1073741824 ∧ Builtin.Range.small 0 (n : Int) (1 + (n : Int) / 3) = true ∧ Builtin.Range.rangeSize 0 (n : Int) (1 + (n : Int) / 3) = ((Builtin.Range.rangeSize 0 (n : Int) (1 + (n : Int) / 3)).toNat : Int)) ∧
      ∀ i, i < (Builtin.Range.rangeSize 0 (n : Int) (1 + (n : Int) / 3)).toNat → 0 ≤ (0 : Int) + (i : Int) * (1 + (n : Int) / 3) ∧ (0 : Int) + (i : Int) * (1 + (n : Int) / 3) < 64 := by
    decide +kernel
  intro n hn
  obtain ⟨a, b⟩ := key n hn
  exact ⟨_, a, b⟩
/-- a list of ints, none great, stands at a -/
def OkAt (H : Hp) (a : Addr) : Prop := ∃ ps : List Int, H a = some (.lst (ps.map V.int)) ∧ Okl ps
theorem OkAt.same {H H' : Hp} {a : Addr} (o : OkAt H a) (s : Same H H') : OkAt H' a := by
  obtain ⟨ps, e, q⟩ := o
  exact ⟨ps, s _ _ e, q⟩
theorem keep {H : Hp} {p : Addr} (np : H p = none) : ∀ o, Same H (upd H p o) := fun o => same_upd np
def Sums (H : Hp) (S : Addr) (as : List Addr) : Prop := H S = some (.lst (as.map V.ref)) ∧ ∀ a ∈ as, OkAt H a
theorem Sums.same {H H' : Hp} {S : Addr} {as : List Addr} (o : Sums H S as) (s : Same H H') : Sums H' S as := ⟨s _ _ o.1, fun a ha => (o.2 a ha).same s⟩
theorem map_get_ref {l : List Addr} {i : Nat} {y : V} (h : (l.map V.ref)[i]? = some y) : ∃ z ∈ l, y = V.ref z := by
  rw [List.getElem?_map] at h
  cases e : l[i]? with
  | none =>
    rw [e] at h
    cases h
  | some z =>
    rw [e] at h
    exact ⟨z, List.mem_of_getElem? e, (Option.some.inj h).symm⟩
theorem reps_snoc (i : Nat) : ((List.replicate i true).map V.bl) ++ [V.bl true] = (List.replicate (i + 1) true).map V.bl := by
  rw [List.replicate_succ', List.map_append]
  rfl
theorem reps_all (i : Nat) : (List.replicate i true).all id = true := by
  rw [List.all_eq_true]
  intro x hx
  rw [(List.mem_replicate.mp hx).2]
  rfl
section
variable {P : Program} {w : World} {K : PySem.W.Frag} {mg : Str → Option Value} {base : Heap} {CSteps CLost CWon : Addr}
theorem mk_lost {ps : List Int} {e x dx : Addr} {H1 : Hp} {Qw : VK} (he : H1 e = some (.lst (ps.map V.int))) (nx : H1 x = none) (ndx : H1 dx = none) (nex : dx ≠ x)
    (k : ∀ (l dx2 : Addr) (H2 : Hp), Same H1 H2 → LostAt CLost H2 x l ps → H2 x = some (.ins CLost dx2 (fL l)) → Qw .non H2) : sp_Lost K CLost [.ref x, .ref e] (upd (upd H1 dx (.own x)) x (.ins CLost dx [])) Qw E0 := by
  have s2 : Same H1 (upd (upd H1 dx (.own x)) x (.ins CLost dx [])) := fun b o e => by
    rw [upd_ne (ne_of_none e nx), upd_ne (ne_of_none e ndx)]
    exact e
  refine ⟨x, dx, e, ps, rfl, upd_same, SqL.of (s2 _ _ he), fun l H2 nl A kp => ?_⟩
  obtain ⟨dx2, hx2⟩ := A.ob
  exact k l dx2 H2 (Same.made nx ndx kp) A hx2
theorem mk_won {t : Int} {x dx : Addr} {H1 : Hp} {Qw : VK} (nx : H1 x = none) (ndx : H1 dx = none) (nex : dx ≠ x)
    (k : ∀ (dx2 : Addr) (H2 : Hp), Same H1 H2 → H2 x = some (.ins CWon dx2 (fW (.int t))) → Qw .non H2) : sp_Won CWon [.ref x, .int t] (upd (upd H1 dx (.own x)) x (.ins CWon dx [])) Qw E0 := by
  refine ⟨x, dx, t, rfl, upd_same, fun H2 A kp => ?_⟩
  obtain ⟨dx2, hx2⟩ := A
  exact k dx2 H2 (Same.made nx ndx kp) hx2
theorem bool_no {b : Bool} {p : Prop} (hb : b = true ↔ p) (np : ¬ p) : b = false := by
  cases b with
  | false => rfl
  | true => exact absurd (hb.mp rfl) np
def sp_law (K : PySem.W.Frag) : Sp := fun vs H Q _ => ∃ (a : Addr) (B : Nat), vs = [.ref a] ∧ Scr K H a B ∧ B ≤ 2000000 ∧ ∀ H' : Hp, Q (.bl true) H'
theorem ok_law (T : Txt K mg CSteps CLost CWon) {f : Addr} {fd : FuncData} (F : Fun K "law" "law" s_law f fd) : FnOk P w K mg base CX0 60 f fd ["_law_script"] (sp_law K) := by
  have G__law_cell_at : OkG P w K mg base CX0 1 "_law_cell_at" (sp_cell_at K) := ok_cell_at T
  have G__law_factor : OkG P w K mg base CX0 2 "_law_factor" (sp_factor K) := ok_factor T
  have G__law_heap : OkG P w K mg base CX0 3 "_law_heap" (sp_heap K) := ok_heap T
  have G__law_parts : OkG P w K mg base CX0 2 "_law_parts" sp_law_parts := ok_law_parts T
  have G__law_limits : OkG P w K mg base CX0 3 "_law_limits" sp_limits := ok_limits T
  have G__law_says : OkG P w K mg base CX0 1 "_law_says" sp_says := ok_says T
  have G__law_lost_right : OkG P w K mg base CX0 7 "_law_lost_right" sp_lost_right := ok_lost_right T
  have G__law_won_right : OkG P w K mg base CX0 7 "_law_won_right" sp_won_right := ok_won_right T
  have G_Lost : OkC P w K mg base CX0 1 "Lost" CLost (sp_Lost K CLost) := ok_Lost_init T
  have G_Won : OkC P w K mg base CX0 1 "Won" CWon (sp_Won CWon) := ok_Won_init T
  have G_Lost_shows : OkM P w K mg base CX0 5 CLost "shows" (sp_Lost_shows CLost) := ok_Lost_shows T
  have G_Won_shows : OkM P w K mg base CX0 6 CWon "shows" (sp_Won_shows CWon) := ok_Won_shows T
  refine F.ok sc_law (fun vs H Q E h => ?_) (fun cdv A outer s H vs Q E hr h => ?_)
  · obtain ⟨a, B, rfl, _⟩ := h
    rfl
  · obtain ⟨a, B, rfl, ⟨ns, hS, hlen, hbit⟩, hB, g⟩ := h
    refine ⟨_, (pss_cons (ps_set (i := 0) sc_law.nd rfl (by first | exact Or.inl rfl | exact Or.inr rfl) (pe_slice sl_list (pv 0) po_none (po_some pe_int)))
      (pss_cons (ps_for PassesOwn.never rfl (pi_range3 (by rfl) T.b_range (pa_cons pe_int (pa_cons (pe_callB call_len_seq (by rfl) T.b_len (by decide +kernel) (pa_cons (pv 0) pa_nil)) (pa_cons (pe_op op_add pe_int (pe_op op_fdiv (pe_callB call_len_seq (by rfl) T.b_len (by decide +kernel) (pa_cons (pv 0) pa_nil)) pe_int)) pa_nil)))) (pg_name (i := 1) sc_law.nd rfl (by first | exact Or.inl rfl | exact Or.inr rfl)) (pss_cons (ps_asg (pe_tup (pa_cons (pe_callO G__law_factor (hr.mono (by first | decide | exact Nat.le_refl _)) (by rfl) pass0 (pa_cons (pv 0) (pa_cons (pv 1) pa_nil))) (pa_cons (pe_op op_mod (pe_callO G__law_cell_at (hr.mono (by first | decide | exact Nat.le_refl _)) (by rfl) pass0 (pa_cons (pv 0) (pa_cons (pe_op op_add (pv 1) pe_int) pa_nil))) (pe_op op_pow pe_int pe_int)) pa_nil))) (pg_tup (by rfl) (pgs_cons (pg_name (i := 2) sc_law.nd rfl (by first | exact Or.inl rfl | exact Or.inr rfl)) (pgs_cons (pg_name (i := 3) sc_law.nd rfl (by first | exact Or.inl rfl | exact Or.inr rfl)) pgs_nil))))
      (pss_cons (ps_set (i := 4) sc_law.nd rfl (by first | exact Or.inl rfl | exact Or.inr rfl) (pe_callO G__law_heap (hr.mono (by first | decide | exact Nat.le_refl _)) (by rfl) pass0 (pa_cons (pv 0) (pa_cons (pv 1) (pa_cons (pv 2) pa_nil)))))
      (pss_cons (ps_set (i := 5) sc_law.nd rfl (by first | exact Or.inl rfl | exact Or.inr rfl) (pe_callO G__law_parts (hr.mono (by first | decide | exact Nat.le_refl _)) (by rfl) pass0 (pa_cons (pv 2) (pa_cons (pv 4) pa_nil))))
      (pss_cons (ps_set (i := 6) sc_law.nd rfl (by first | exact Or.inl rfl | exact Or.inr rfl) (pe_lst (pa_cons (pv 5) (pa_cons (pe_revL (pv 5)) (pa_cons (pe_slice sl_list (pv 5) (po_some pe_int) po_none) (pa_cons (pe_slice sl_list (pv 5) po_none (po_some (pe_un un_neg pe_int))) (pa_cons (pe_op op_cat (pv 5) (pe_lst (pa_cons pe_int pa_nil))) (pa_cons (pe_op op_cat (pv 5) (pe_slice sl_list (pv 5) (po_some (pe_un un_neg pe_int)) po_none)) (pa_cons (pe_lst (pa_cons (pv 4) pa_nil)) (pa_cons (pe_lst pa_nil) (pa_cons (pe_lst (pa_cons pe_int pa_nil)) (pa_cons (pe_lst (pa_cons (pv 3) pa_nil)) pa_nil))))))))))))
      (pss_cons (ps_set (i := 6) sc_law.nd rfl (by first | exact Or.inl rfl | exact Or.inr rfl) (pe_op op_cat (pv 6) (pe_lst (pa_cons (pe_op op_cat (pe_lc (own := [("_law_part", 12)]) (g := gName 12) (tt := tYes) rfl sc_law.nd (pi_list (pe_slice sl_list (pv 5) po_none (po_some pe_int))) (blkOk_by (own := [("_law_part", 12)]) (N := n_law) (sc := defScope s_law) (by decide +kernel)) (fun _ _ _ _ _ => (pg_name (i := 12) sc_law.nd rfl (by first | exact Or.inl rfl | exact Or.inr rfl))) (fun _ _ _ _ _ => pts_nil) (fun _ _ _ _ _ => (pe_op op_add (pv 12) pe_int))) (pe_slice sl_list (pv 5) (po_some pe_int) po_none)) (pa_cons (pe_callO G__law_parts (hr.mono (by first | decide | exact Nat.le_refl _)) (by rfl) pass0 (pa_cons (pe_op op_add (pe_op op_mod (pv 2) pe_int) pe_int) (pa_cons (pv 4) pa_nil))) (pa_cons (pe_op op_cat (pe_lst (pa_cons (pe_un un_neg pe_int) pa_nil)) (pv 5)) pa_nil))))))
      (pss_one (ps_for PassesOwn.never rfl (pi_list (pe_slice sl_list (pe_callO G__law_limits (hr.mono (by first | decide | exact Nat.le_refl _)) (by rfl) pass0 (pa_cons (pv 2) (pa_cons (pv 4) pa_nil))) po_none (po_some (pe_ifExp (pt_cmpR op_gt (pv 2) pe_int (nomark _)) pe_int pe_int)))) (pg_name (i := 7) sc_law.nd rfl (by first | exact Or.inl rfl | exact Or.inr rfl)) (pss_cons (ps_if (pt_not (pt_val (pe_callB (cr_all rfl) (by rfl) T.b_all (by decide +kernel) (pa_cons (pe_lc (own := [("_law_some", 13)]) (g := gName 13) (tt := tYes) rfl sc_law.nd (pi_list (pv 6)) (blkOk_by (own := [("_law_some", 13)]) (N := n_law) (sc := defScope s_law) (by decide +kernel)) (fun _ _ _ _ _ => (pg_name (i := 13) sc_law.nd rfl (by first | exact Or.inl rfl | exact Or.inr rfl))) (fun _ _ _ _ _ => pts_nil) (fun _ _ _ _ _ => (pe_callO G__law_lost_right (hr.mono (by first | decide | exact Nat.le_refl _)) (by rfl) pass0 (pa_cons (pv 2) (pa_cons (pv 4) (pa_cons (pv 7) (pa_cons (pv 13) pa_nil))))))) pa_nil)))) (pss_one (ps_ret pe_bl)) pss_nil)
      (pss_cons (ps_set (i := 8) sc_law.nd rfl (by first | exact Or.inl rfl | exact Or.inr rfl) (pe_ix ix_list (pe_op op_cat (pv 5) (pe_lst (pa_cons pe_int pa_nil))) (pe_callB (call_max2 rfl) (by rfl) T.b_max (by decide +kernel) (pa_cons pe_int (pa_cons (pe_op op_sub (pe_callB call_len_seq (by rfl) T.b_len (by decide +kernel) (pa_cons (pv 5) pa_nil)) pe_int) pa_nil))) (fun _ _ => rfl)))
      (pss_one (ps_for PassesOwn.never rfl (pi_tup (pe_tup (pa_cons (pv 8) (pa_cons (pe_op op_add (pv 8) pe_int) (pa_cons (pe_op op_sub (pv 8) pe_int) (pa_cons pe_int (pa_cons (pe_un un_neg pe_int) (pa_cons (pe_un un_neg (pv 8)) (pa_cons (pv 4) (pa_cons (pv 7) (pa_cons (pe_op op_add (pv 7) pe_int) (pa_cons (pe_op op_sub (pv 4) pe_int) (pa_cons (pv 3) pa_nil))))))))))))) (pg_name (i := 9) sc_law.nd rfl (by first | exact Or.inl rfl | exact Or.inr rfl)) (pss_one (ps_if (pt_not (pt_val (pe_callO G__law_won_right (hr.mono (by first | decide | exact Nat.le_refl _)) (by rfl) pass0 (pa_cons (pv 2) (pa_cons (pv 4) (pa_cons (pv 7) (pa_cons (pv 9) pa_nil))))))) (pss_one (ps_ret pe_bl)) pss_nil))))))))))))))
      (pss_cons (ps_set (i := 10) sc_law.nd rfl (by first | exact Or.inl rfl | exact Or.inr rfl) (pe_lst (pa_cons (pe_methO G_Lost_shows (hr.mono (by first | decide | exact Nat.le_refl _)) pass0 (pe_makeO G_Lost (hr.mono (by first | decide | exact Nat.le_refl _)) (by rfl) pass0 (pa_cons (pe_lst (pa_cons pe_int pa_nil)) pa_nil)) (pa_cons pe_int (pa_cons pe_int (pa_cons pe_int pa_nil)))) (pa_cons (pe_methO G_Won_shows (hr.mono (by first | decide | exact Nat.le_refl _)) pass0 (pe_makeO G_Won (hr.mono (by first | decide | exact Nat.le_refl _)) (by rfl) pass0 (pa_cons pe_int pa_nil)) (pa_cons pe_int (pa_cons pe_int (pa_cons pe_int pa_nil)))) (pa_cons (pe_methO G_Lost_shows (hr.mono (by first | decide | exact Nat.le_refl _)) pass0 (pe_makeO G_Lost (hr.mono (by first | decide | exact Nat.le_refl _)) (by rfl) pass0 (pa_cons (pe_lst pa_nil) pa_nil)) (pa_cons pe_int (pa_cons pe_int (pa_cons pe_int pa_nil)))) (pa_cons (pe_methO G_Won_shows (hr.mono (by first | decide | exact Nat.le_refl _)) pass0 (pe_makeO G_Won (hr.mono (by first | decide | exact Nat.le_refl _)) (by rfl) pass0 (pa_cons pe_int pa_nil)) (pa_cons pe_int (pa_cons pe_int (pa_cons pe_int pa_nil)))) pa_nil))))))
      (pss_cons (ps_set (i := 11) sc_law.nd rfl (by first | exact Or.inl rfl | exact Or.inr rfl) (pe_lst (pa_cons (pe_methO G_Lost_shows (hr.mono (by first | decide | exact Nat.le_refl _)) pass0 (pe_makeO G_Lost (hr.mono (by first | decide | exact Nat.le_refl _)) (by rfl) pass0 (pa_cons (pe_lst (pa_cons pe_int pa_nil)) pa_nil)) (pa_cons pe_int (pa_cons pe_int (pa_cons pe_int pa_nil)))) (pa_cons (pe_methO G_Won_shows (hr.mono (by first | decide | exact Nat.le_refl _)) pass0 (pe_makeO G_Won (hr.mono (by first | decide | exact Nat.le_refl _)) (by rfl) pass0 (pa_cons pe_int pa_nil)) (pa_cons pe_int (pa_cons pe_int (pa_cons pe_int pa_nil)))) (pa_cons (pe_methO G_Lost_shows (hr.mono (by first | decide | exact Nat.le_refl _)) pass0 (pe_makeO G_Lost (hr.mono (by first | decide | exact Nat.le_refl _)) (by rfl) pass0 (pa_cons (pe_lst (pa_cons pe_int (pa_cons pe_int pa_nil))) pa_nil)) (pa_cons pe_int (pa_cons pe_int (pa_cons pe_int pa_nil)))) (pa_cons (pe_methO G_Won_shows (hr.mono (by first | decide | exact Nat.le_refl _)) pass0 (pe_makeO G_Won (hr.mono (by first | decide | exact Nat.le_refl _)) (by rfl) pass0 (pa_cons pe_int pa_nil)) (pa_cons pe_int (pa_cons pe_int (pa_cons pe_int pa_nil)))) pa_nil))))))
      (pss_one (ps_ret (pe_and (pe_callB (cr_all rfl) (by rfl) T.b_all (by decide +kernel) (pa_cons (pe_lc (own := [("_law_said", 14)]) (g := gName 14) (tt := tYes) rfl sc_law.nd (pi_list (pv 10)) (blkOk_by (own := [("_law_said", 14)]) (N := n_law) (sc := defScope s_law) (by decide +kernel)) (fun _ _ _ _ _ => (pg_name (i := 14) sc_law.nd rfl (by first | exact Or.inl rfl | exact Or.inr rfl))) (fun _ _ _ _ _ => pts_nil) (fun _ _ _ _ _ => (pe_callO G__law_says (hr.mono (by first | decide | exact Nat.le_refl _)) (by rfl) pass0 (pa_cons (pv 14) (pa_cons pe_bl pa_nil))))) pa_nil)) (pe_one (pe_callB (cr_all rfl) (by rfl) T.b_all (by decide +kernel) (pa_cons (pe_lc (own := [("_law_said", 14)]) (g := gName 14) (tt := tYes) rfl sc_law.nd (pi_list (pv 11)) (blkOk_by (own := [("_law_said", 14)]) (N := n_law) (sc := defScope s_law) (by decide +kernel)) (fun _ _ _ _ _ => (pg_name (i := 14) sc_law.nd rfl (by first | exact Or.inl rfl | exact Or.inr rfl))) (fun _ _ _ _ _ => pts_nil) (fun _ _ _ _ _ => (pe_callO G__law_says (hr.mono (by first | decide | exact Nat.le_refl _)) (by rfl) pass0 (pa_cons (pv 14) (pa_cons pe_bl pa_nil))))) pa_nil)))))))))), ?_⟩
    refine ⟨_, rfl, 63, rfl, a, _, rfl, hS, fun c nc => ?_⟩
    rw [cut63, ← List.map_take]
    have hlen' : (ns.take 63).length < 64 := by
      rw [List.length_take]
      omega
    have S0 : Scr K (upd H c (.lst ((ns.take 63).map V.int))) c B := ⟨ns.take 63, SqL.of upd_same, by omega, fun z hz => hbit z (List.mem_of_mem_take hz)⟩
    generalize (upd H c (.lst ((ns.take 63).map V.int))) = H0 at S0
    obtain ⟨ms, hms, hml, hmb⟩ := id S0
    obtain ⟨m, hrg, hrb⟩ := rg ms.length (by omega)
    refine ⟨_, rfl, c, _, rfl, .inl hms, _, rfl, c, _, rfl, .inl hms, ?_⟩
    rw [List.length_map]
    refine ⟨_, _, rfl, rfl, ⟨by decide, by decide⟩, _, _, rfl, rfl, 0, _, _, m, rfl, hrg, ?_⟩
    refine for_rangeC (lo := 0) (c := 1 + (ms.length : Int) / 3) (n := m) (fun i σ H' => ∃ u1 u2 u3 u4 u5 u6 u7 u8 u9 u10 u11 : Option V, σ = [some (.ref c), u1, u2, u3, u4, u5, u6, u7, u8, u9, u10, u11, none, none, none] ∧ Same H0 H') ⟨_, _, _, _, _, _, _, _, _, _, _, rfl, Same.refl _⟩ ?_ ?_
    · rintro i σ H1 hi ⟨u1, u2, u3, u4, u5, u6, u7, u8, u9, u10, u11, rfl, s1⟩
      obtain ⟨hk0, hk1⟩ := hrb i hi
      revert hk0 hk1
      show 0 ≤ (0 : Int) + (i : Int) * (1 + (ms.length : Int) / 3) → (0 : Int) + (i : Int) * (1 + (ms.length : Int) / 3) < 64 → _
      generalize (0 : Int) + (i : Int) * (1 + (ms.length : Int) / 3) = k
      intro hk0 hk1
      -- factor, cell
      refine ⟨_, rfl, _, rfl, c, k, B, rfl, S0.same s1, hk0, fun fac H2 f1 f30 s2 => ?_⟩
      refine ⟨_, rfl, _, rfl, _, _, rfl, rfl, c, _, B, rfl, S0.same (s1.trans s2), by omega, fun ce hce => ?_⟩
      refine ⟨_, _, rfl, rfl, ⟨by decide, by decide, by decide⟩, _, _, rfl, rfl, (by show (0 : Int) < 10 ^ 40; decide), ?_⟩
      have c0 : 0 ≤ ce % 10 ^ (40 : Int).toNat := Int.emod_nonneg _ (by decide)
      have c1 : ce % 10 ^ (40 : Int).toNat < 10 ^ 40 := Int.emod_lt_of_pos _ (by decide)
      obtain ⟨cell, hcell⟩ : ∃ cell, cell = ce % 10 ^ (40 : Int).toNat := ⟨_, rfl⟩
      rw [← hcell] at c0 c1
      refine ⟨(by show 2 ≤ sizeLine; decide), fun tp ntp => ⟨tp, _, rfl, SqT.of upd_same, rfl, _, _, rfl, _, _, rfl, rfl, ?_⟩⟩
      show tSeq _ _ _ [some (.ref c), some (.int k), some (.int fac), some (.int (ce % 10 ^ (40 : Int).toNat)), u4, u5, u6, u7, u8, u9, u10, u11, none, none, none] (upd H2 tp (.tup [.int fac, .int (ce % 10 ^ (40 : Int).toNat)]))
      rw [← hcell]
      have s2' := s2.trans (keep ntp (.tup [.int fac, .int cell]))
      -- heap, parts
      refine ⟨_, rfl, _, rfl, _, rfl, c, k, fac, B, rfl, S0.same (s1.trans s2'), hB, hk0, by omega, f1, f30, fun hp H3 p0 p1 s3 => ?_⟩
      refine ⟨_, rfl, _, rfl, fac, hp, 140, rfl, f1, f30, p0, p1, (by decide), fun H4 l s4 nl hl => ?_⟩
      have s04 := s1.trans (s2'.trans (s3.trans s4))
      have plen := parts_len f1 f30 p0 p1
      have ple : ∀ y ∈ parts fac hp, 1 ≤ y ∧ y < 2 ^ 140 := fun y hy => ⟨parts_pos f1 hy, Int.lt_of_le_of_lt (parts_le f1 p0 hy) p1⟩
      have ok0 : Okl (parts fac hp) := ⟨by omega, fun y hy => by have := (ple y hy).2; omega⟩
      have okcut : ∀ lo hi, ∃ ms : List Int, cutV ((parts fac hp).map V.int) lo hi = ms.map V.int ∧ ms.length ≤ (parts fac hp).length ∧ Okl ms ∧ ∀ y ∈ ms, y ∈ parts fac hp := fun lo hi => by
        obtain ⟨ms, e, a, b⟩ := cut_ints (parts fac hp) lo hi
        exact ⟨ms, e, a, ok0.sub a b, b⟩
      have len0 : ((parts fac hp).map V.int).length ≤ 4200 := by rw [List.length_map]; omega
      -- the sums, ten
      refine ⟨_, rfl, _, rfl, l, _, rfl, SqL.of hl, fun p1' n1 => ?_⟩
      have k1 := keep n1
      have l1 := k1 (.lst ((parts fac hp).map V.int).reverse) _ _ hl
      refine ⟨_, rfl, _, rfl, l, _, rfl, SqL.of l1, fun p2 n2 => ?_⟩
      have k2 := keep n2
      have l2 := k2 (.lst (cutV ((parts fac hp).map V.int) (some 1) none)) _ _ l1
      refine ⟨_, rfl, _, rfl, _, rfl, l, _, rfl, SqL.of l2, fun p3 n3 => ?_⟩
      have k3 := keep n3
      have l3 := k3 (.lst (cutV ((parts fac hp).map V.int) none (some (-1)))) _ _ l2
      refine ⟨_, rfl, (by show 1 ≤ sizeLine; decide), fun e1 m1 => ?_⟩
      have k4 := keep m1
      have l4 := k4 (.lst [.int 1]) _ _ l3
      refine ⟨l, e1, _, _, rfl, rfl, l4, upd_same, ?_, fun p4 n4 => ?_⟩
      · rw [sizeLine_eq]
        show _ + 1 ≤ _
        omega
      have k5 := keep n4
      have l5 := k5 (.lst ((parts fac hp).map V.int ++ [.int 1])) _ _ l4
      refine ⟨_, rfl, _, rfl, _, rfl, _, rfl, l, _, rfl, SqL.of l5, fun e2 m2 => ?_⟩
      have k6 := keep m2
      have l6 := k6 (.lst (cutV ((parts fac hp).map V.int) (some (-1)) none)) _ _ l5
      refine ⟨l, e2, _, _, rfl, rfl, l6, upd_same, ?_, fun p5 n5 => ?_⟩
      · have := cutV_length ((parts fac hp).map V.int) (some (-1)) none
        rw [sizeLine_eq]
        omega
      have k7 := keep n5
      have l7 := k7 (.lst ((parts fac hp).map V.int ++ cutV ((parts fac hp).map V.int) (some (-1)) none)) _ _ l6
      refine ⟨_, rfl, (by show 1 ≤ sizeLine; decide), fun p6 n6 => ?_⟩
      have k8 := keep n6
      refine ⟨(by show 0 ≤ sizeLine; decide), fun p7 n7 => ?_⟩
      have k9 := keep n7
      refine ⟨(by show 1 ≤ sizeLine; decide), fun p8 n8 => ?_⟩
      have k10 := keep n8
      refine ⟨_, rfl, (by show 1 ≤ sizeLine; decide), fun p9 n9 => ?_⟩
      have k11 := keep n9
      refine ⟨(by show 10 ≤ sizeLine; decide), fun S nS => ?_⟩
      have k12 := keep nS
      -- the same from each on to the last
      have t11 := k12 (.lst [.ref l, .ref p1', .ref p2, .ref p3, .ref p4, .ref p5, .ref p6, .ref p7, .ref p8, .ref p9])
      have t10 := (k11 (.lst [.int cell])).trans t11
      have t9 := (k10 (.lst [.int 0])).trans t10
      have t8 := (k9 (.lst [])).trans t9
      have t7 := (k8 (.lst [.int hp])).trans t8
      have t6 := (k7 (.lst ((parts fac hp).map V.int ++ cutV ((parts fac hp).map V.int) (some (-1)) none))).trans t7
      have t5 := (k6 (.lst (cutV ((parts fac hp).map V.int) (some (-1)) none))).trans t6
      have t4 := (k5 (.lst ((parts fac hp).map V.int ++ [.int 1]))).trans t5
      have t3 := (k4 (.lst [.int 1])).trans t4
      have t2 := (k3 (.lst (cutV ((parts fac hp).map V.int) none (some (-1))))).trans t3
      have t1 := (k2 (.lst (cutV ((parts fac hp).map V.int) (some 1) none))).trans t2
      have t0 := (k1 (.lst ((parts fac hp).map V.int).reverse)).trans t1
      have hs1 : Sums _ S [l, p1', p2, p3, p4, p5, p6, p7, p8, p9] := ⟨upd_same, fun a ha => by
        simp only [List.mem_cons, List.not_mem_nil, or_false] at ha
        rcases ha with e | e | e | e | e | e | e | e | e | e
        · subst e
          exact ⟨_, t0 _ _ hl, ok0⟩
        · subst e
          refine ⟨(parts fac hp).reverse, (t1 _ _ upd_same).trans (by rw [List.map_reverse]), ok0.sub (by rw [List.length_reverse]; exact Nat.le_refl _) fun y hy => List.mem_reverse.mp hy⟩
        · subst e
          obtain ⟨ms, em, _, o, _⟩ := okcut (some 1) none
          exact ⟨ms, (t2 _ _ upd_same).trans (by rw [em]), o⟩
        · subst e
          obtain ⟨ms, em, _, o, _⟩ := okcut none (some (-1))
          exact ⟨ms, (t3 _ _ upd_same).trans (by rw [em]), o⟩
        · subst e
          refine ⟨parts fac hp ++ [1], (t5 _ _ upd_same).trans (by rw [List.map_append]; rfl), ?_, fun y hy => ?_⟩
          · rw [List.length_append]
            show _ + 1 ≤ _
            omega
          · rcases List.mem_append.mp hy with q | q
            · exact ok0.2 y q
            · rw [List.mem_singleton.mp q]
              decide
        · subst e
          obtain ⟨ms, em, hm, o, _⟩ := okcut (some (-1)) none
          refine ⟨parts fac hp ++ ms, (t7 _ _ upd_same).trans (by rw [List.map_append, em]), ?_, fun y hy => ?_⟩
          · rw [List.length_append]
            omega
          · rcases List.mem_append.mp hy with q | q
            · exact ok0.2 y q
            · exact o.2 y q
        · subst e
          refine ⟨[hp], t8 _ _ upd_same, (by show 1 ≤ 20000; decide), fun y hy => ?_⟩
          rw [List.mem_singleton.mp hy]
          omega
        · subst e
          exact ⟨[], t9 _ _ upd_same, by decide, fun y hy => by cases hy⟩
        · subst e
          refine ⟨[0], t10 _ _ upd_same, by decide, fun y hy => ?_⟩
          rw [List.mem_singleton.mp hy]
          decide
        · subst e
          refine ⟨[cell], t11 _ _ upd_same, (by show 1 ≤ 20000; decide), fun y hy => ?_⟩
          rw [List.mem_singleton.mp hy]
          omega⟩
      have hlS := t0 _ _ hl
      -- three more
      obtain ⟨m1', em1, _, om1, hm1⟩ := okcut none (some 1)
      refine ⟨_, rfl, _, rfl, _, rfl, l, _, rfl, SqL.of hlS, fun e3 m3 => ?_⟩
      have k13 := keep m3
      rw [em1]
      refine ⟨e3, rfl, ⟨_, SqL.of upd_same⟩, fun D nD => ?_⟩
      have k14 := keep nD
      have he3 := k14 (.lst []) _ _ (upd_same (H := _) (a := e3) (o := HO.lst (m1'.map V.int)))
      refine lc_list (K := K) (a := e3) (xs := m1'.map V.int) (fun i H' => Same _ H' ∧ H' e3 = some (.lst (m1'.map V.int)) ∧ H' D = some (.lst (((m1'.take i).map (· + 1)).map V.int))) ⟨(k13 _).trans (k14 _), he3, upd_same⟩ (fun i H' _ z => SqL.of z.2.1) ?_ ?_
      · rintro j y H5 hy ⟨s5, h5, hD⟩
        obtain ⟨z, hz, rfl⟩ := map_get_int hy
        have hj : j < m1'.length := (List.getElem?_eq_some_iff.mp hz).1
        refine ⟨rfl, ⟨_, rfl, _, _, rfl, rfl, ?_⟩⟩
        have nDe : e3 ≠ D := ne_of_none upd_same nD
        refine ⟨_, hD, ?_, same_new s5 ((k13 (.lst (m1'.map V.int))).free nD), by rw [upd_ne nDe]; exact h5, ?_⟩
        · have := om1.1
          rw [List.length_map, List.length_map, List.length_take, sizeLine_eq]
          omega
        · rw [upd_same, take_more hz, List.map_append, List.map_append]
          rfl
      rintro H5 ⟨s5, _, hD⟩
      rw [List.length_map, List.take_length] at hD
      have hl5 := s5 _ _ hlS
      have hs5 := hs1.same s5
      refine ⟨_, rfl, _, rfl, l, _, rfl, SqL.of hl5, fun e4 m4 => ?_⟩
      have k15 := keep m4
      obtain ⟨m2', em2, hm2l, om2, hm2⟩ := okcut (some 1) none
      rw [em2]
      refine ⟨D, e4, _, _, rfl, rfl, k15 _ _ _ hD, upd_same, ?_, fun q1 nq1 => ?_⟩
      · have := om1.1
        have := om2.1
        rw [List.length_map, List.length_map, List.length_map, sizeLine_eq]
        omega
      have k16 := keep nq1
      have s6 := (k15 (.lst (m2'.map V.int))).trans (k16 (.lst (((m1'.map (· + 1)).map V.int) ++ m2'.map V.int)))
      have okq1 : OkAt (upd (upd H5 e4 (.lst (m2'.map V.int))) q1 (.lst (((m1'.map (· + 1)).map V.int) ++ m2'.map V.int))) q1 := by
        refine ⟨m1'.map (· + 1) ++ m2', by rw [upd_same, List.map_append], ?_, fun y hy => ?_⟩
        · have h1 := (cut_ints (parts fac hp) none (some 1))
          have := om1.1
          rw [List.length_append, List.length_map]
          have q1 : m1'.length ≤ (parts fac hp).length := by
            have e := congrArg List.length em1
            have := cutV_length ((parts fac hp).map V.int) none (some 1)
            rw [e, List.length_map, List.length_map] at this
            exact this
          omega
        · rcases List.mem_append.mp hy with q | q
          · obtain ⟨z, hz, e⟩ := List.mem_map.mp q
            have := (ple z (hm1 z hz)).2
            omega
          · exact om2.2 y q
      have m0 : 0 ≤ fac % 30 := Int.emod_nonneg _ (by decide)
      have m1 : fac % 30 < 30 := Int.emod_lt_of_pos _ (by decide)
      refine ⟨_, rfl, _, _, rfl, rfl, (by show (0 : Int) < 30; decide), _, _, rfl, rfl, _, rfl, fac % 30 + 1, hp, 140, rfl, by omega, by omega, p0, p1, (by decide), fun H7 q2 s7 nq2 hq2 => ?_⟩
      have plen2 := parts_len (k := fac % 30 + 1) (by omega) (by omega) p0 p1
      have okq2 : OkAt H7 q2 := ⟨_, hq2, by omega, fun y hy => by have := parts_le (k := fac % 30 + 1) (by omega) p0 hy; omega⟩
      have hl7 := s7 _ _ (s6 _ _ hl5)
      refine ⟨_, rfl, (by show 1 ≤ sizeLine; decide), fun e5 m5 => ?_⟩
      have k17 := keep m5
      refine ⟨_, rfl, e5, l, _, _, rfl, rfl, upd_same, k17 _ _ _ hl7, ?_, fun q3 nq3 => ?_⟩
      · rw [sizeLine_eq]
        show 1 + _ ≤ _
        omega
      have k18 := keep nq3
      have s8 := (k17 (.lst [.int (-1)])).trans (k18 (.lst ([.int (-1)] ++ (parts fac hp).map V.int)))
      have okq3 : OkAt (upd (upd H7 e5 (.lst [.int (-1)])) q3 (.lst ([.int (-1)] ++ (parts fac hp).map V.int))) q3 := by
        refine ⟨[-1] ++ parts fac hp, by rw [upd_same, List.map_append]; rfl, ?_, fun y hy => ?_⟩
        · rw [List.length_append]
          show 1 + _ ≤ _
          omega
        · rcases List.mem_append.mp hy with q | q
          · rw [List.mem_singleton.mp q]
            decide
          · exact ok0.2 y q
      refine ⟨(by show 3 ≤ sizeLine; decide), fun S2 nS2 => ?_⟩
      have k19 := keep nS2
      have s58 := s6.trans (s7.trans s8)
      refine ⟨S, S2, _, _, rfl, rfl, k19 _ _ _ (s58 _ _ hs5.1), upd_same, (by show 10 + 3 ≤ sizeLine; decide), fun S3 nS3 => ?_⟩
      have k20 := keep nS3
      have s9 := (k19 (.lst [.ref q1, .ref q2, .ref q3])).trans (k20 (.lst (([l, p1', p2, p3, p4, p5, p6, p7, p8, p9].map V.ref) ++ [.ref q1, .ref q2, .ref q3])))
      have hs9 : Sums _ S3 ([l, p1', p2, p3, p4, p5, p6, p7, p8, p9] ++ [q1, q2, q3]) := ⟨upd_same, fun a ha => by
        rcases List.mem_append.mp ha with q | q
        · exact ((hs5.2 a q).same s58).same s9
        · simp only [List.mem_cons, List.not_mem_nil, or_false] at q
          rcases q with e | e | e
          · subst e
            exact (okq1.same (s7.trans s8)).same s9
          · subst e
            exact (okq2.same s8).same s9
          · subst e
            exact okq3.same s9⟩
      have hl9 := s9 _ _ (s8 _ _ hl7)
      have s09 := s04.trans (t0.trans (s5.trans (s58.trans s9)))
      -- the limits
      refine ⟨_, rfl, _, rfl, fac, hp, 140, rfl, f1, f30, p0, p1, (by decide), fun ls H10 ll lpos llen s10 nll hll => ?_⟩
      have s010 := s09.trans s10
      obtain ⟨as, hasl, hs10⟩ : ∃ as : List Addr, as.length = 13 ∧ Sums H10 S3 as := ⟨_, rfl, hs9.same s10⟩
      have hl10 := s10 _ _ hl9
      refine ⟨_, rfl, _, _, rfl, rfl, _, rfl, ite2 (fun _ => ?_) (fun _ => ?_)⟩
      case' refine_1 => obtain ⟨lm, elm, _, hlm⟩ := cut_ints ls none (some 2)
      case' refine_2 => obtain ⟨lm, elm, _, hlm⟩ := cut_ints ls none (some 5)
      all_goals
        refine ⟨_, rfl, ll, _, rfl, SqL.of hll, fun lq nlq => ?_⟩
        rw [elm]
        have k21 := keep nlq (.lst (lm.map V.int))
        refine ⟨lq, rfl, ⟨_, SqL.of upd_same⟩, for_list (K := K) (a := lq) (xs := lm.map V.int) (fun j σ H' => ∃ u7 u8 u9 : Option V, σ = [some (.ref c), some (.int k), some (.int fac), some (.int cell), some (.int hp), some (.ref l), some (.ref S3), u7, u8, u9, u10, u11, none, none, none] ∧ Same (upd H10 lq (.lst (lm.map V.int))) H')
          ⟨_, _, _, rfl, Same.refl _⟩ (fun j σ H' _ ⟨_, _, _, _, z⟩ => SqL.of (z _ _ upd_same)) ?_ ?_⟩
        · rintro j y σ H11 hy ⟨u7, u8, u9, rfl, s11⟩
          obtain ⟨L, hL, rfl⟩ := map_get_int hy
          have L0 : 0 ≤ L := lpos L (hlm L (List.mem_of_getElem? hL))
          have hs11 := hs10.same (k21.trans s11)
          have hl11 := (k21.trans s11) _ _ hl10
          -- all sums
          refine ⟨_, rfl, S3, rfl, ⟨_, SqL.of hs11.1⟩, fun D nD => lc_list (K := K) (a := S3) (xs := as.map V.ref) (fun i H' => Same H11 H' ∧ H' D = some (.lst ((List.replicate i true).map V.bl))) ⟨same_upd nD, upd_same⟩ (fun i H' _ z => SqL.of (z.1 _ _ hs11.1)) ?_ ?_⟩
          · rintro i y H12 hy ⟨s12, hD⟩
            have hi : i < as.length := by
              have := (List.getElem?_eq_some_iff.mp hy).1
              rw [List.length_map] at this
              exact this
            have hal : as.length = 13 := hasl
            obtain ⟨a1, ha1, rfl⟩ := map_get_ref hy
            obtain ⟨ps, hps, ops⟩ := (hs11.2 a1 ha1).same s12
            refine ⟨rfl, ⟨_, rfl, _, rfl, _, rfl, _, rfl, fac, hp, L, a1, ps, rfl, f1, f30, hps, ops, fun H13 s13 => ?_⟩⟩
            refine ⟨_, s13 _ _ hD, ?_, same_new (s12.trans s13) nD, ?_⟩
            · rw [List.length_map, List.length_replicate, sizeLine_eq]
              omega
            · rw [upd_same, reps_snoc]
          · rintro H12 ⟨s12, hD⟩
            refine ⟨D, _, rfl, SqL.of hD, _, rfl, ?_⟩
            rw [reps_all]
            refine iteF ?_
            -- the least part
            have hl12 := s12 _ _ hl11
            refine ⟨_, rfl, (by show 1 ≤ sizeLine; decide), fun e6 m6 => ?_⟩
            have k22 := keep m6
            refine ⟨l, e6, _, _, rfl, rfl, k22 _ _ _ hl12, upd_same, ?_, fun e7 m7 => ?_⟩
            · rw [sizeLine_eq]
              show _ + 1 ≤ _
              omega
            have k23 := keep m7
            have s14 := (k22 (.lst [.int 1])).trans (k23 (.lst ((parts fac hp).map V.int ++ [.int 1])))
            refine ⟨_, rfl, l, _, rfl, .inl (SqL.of (s14 _ _ hl12)), ?_⟩
            rw [List.length_map]
            refine ⟨_, _, rfl, rfl, _, _, rfl, ?_⟩
            have el : ((parts fac hp).map V.int ++ [V.int 1]) = (parts fac hp ++ [1]).map V.int := by
              rw [List.map_append]
              rfl
            have ln : (parts fac hp ++ [1]).length = (parts fac hp).length + 1 := by rw [List.length_append]; rfl
            obtain ⟨jj, ejj, hjj⟩ : ∃ jj : Nat, (if ((parts fac hp).length : Int) - 1 > 0 then ((parts fac hp).length : Int) - 1 else 0) = (jj : Int) ∧ jj < (parts fac hp ++ [1]).length := by
              by_cases c : ((parts fac hp).length : Int) - 1 > 0
              · rw [if_pos c]
                exact ⟨(parts fac hp).length - 1, by omega, by omega⟩
              · rw [if_neg c]
                exact ⟨0, rfl, by omega⟩
            rw [ejj]
            refine ⟨e7, _, _, .int (parts fac hp ++ [1])[jj], rfl, rfl, SqL.of upd_same, by rw [el]; exact atI_nat (by rw [List.getElem?_map, List.getElem?_eq_getElem hjj]; rfl), ?_⟩
            generalize (parts fac hp ++ [1])[jj] = le
            have s1114 := s12.trans s14
            -- takings
            refine ⟨_, rfl, _, rfl, _, _, rfl, rfl, _, rfl, _, _, rfl, rfl, _, rfl, _, rfl, _, rfl, _, rfl, _, rfl, _, rfl, _, _, rfl, rfl, _, rfl, _, _, rfl, rfl, _, rfl, (by show 11 ≤ sizeLine; decide), fun tq ntq => ?_⟩
            have k24 := keep ntq
            refine ⟨tq, rfl, ⟨_, SqT.of upd_same⟩, for_tup (K := K) (a := tq) (xs := [V.int le, V.int (le + 1), V.int (le - 1), V.int 0, V.int (-1), V.int (-le), V.int hp, V.int L, V.int (L + 1), V.int (hp - 1), V.int cell]) (fun j σ H' => ∃ u9 : Option V, σ = [some (.ref c), some (.int k), some (.int fac), some (.int cell), some (.int hp), some (.ref l), some (.ref S3), some (.int L), some (.int le), u9, u10, u11, none, none, none] ∧ Same _ H')
              ⟨_, rfl, Same.refl _⟩ (fun j σ H' _ ⟨_, _, z⟩ => SqT.of (z _ _ upd_same)) ?_ ?_⟩
            · rintro j y σ H15 hy ⟨u9, rfl, s15⟩
              obtain ⟨z, rfl⟩ : ∃ z, y = V.int z := by
                have := List.mem_of_getElem? hy
                simp only [List.mem_cons, List.not_mem_nil, or_false] at this
                rcases this with e | e | e | e | e | e | e | e | e | e | e
                all_goals exact ⟨_, e⟩
              refine ⟨_, rfl, _, rfl, _, rfl, _, rfl, fac, hp, L, z, rfl, f1, f30, by omega, fun H16 s16 => ⟨_, rfl, iteF ?_⟩⟩
              exact ⟨_, rfl, s15.trans s16⟩
            · rintro σ H15 ⟨u9, rfl, s15⟩
              exact ⟨_, _, _, rfl, s11.trans (s1114.trans ((k24 _).trans s15))⟩
        · rintro σ H11 ⟨u7, u8, u9, rfl, s11⟩
          exact ⟨_, _, _, _, _, _, _, _, _, _, _, rfl, s010.trans (k21.trans s11)⟩
    · rintro σ H1 ⟨u1, u2, u3, u4, u5, u6, u7, u8, u9, u10, u11, rfl, s1⟩
      have o13 : Of (h 2) [13] := fun x hx => ⟨5, by rw [List.mem_singleton.mp hx]; decide +kernel⟩
      -- good ones
      refine ⟨(by show 1 ≤ sizeLine; decide), fun a1 n1 => ?_⟩
      refine fun x1 dx nx ndx nex => mk_lost (ps := [13]) upd_same nx ndx nex fun l1 dx1 H2 s2 A2 hx2 => ⟨rfl, ?_⟩
      refine ⟨x1, dx1, _, rfl, hx2, fL_shows _, x1, l1, [13], 2, 13, 12, 10, rfl, A2, (by decide), (by decide), (by decide), (by decide), (by decide), fun b1 H3 s3 hb1 => ?_⟩
      rw [hb1.mpr ⟨⟨trivial, o13⟩, by decide, fun t e => by cases e; decide⟩]
      refine fun x2 dx nx ndx nex => mk_won (t := 1) nx ndx nex fun dx2 H4 s4 hx4 => ⟨rfl, ?_⟩
      refine ⟨x2, dx2, _, rfl, hx4, fW_shows _, x2, 1, 2, 12, 11, 10, rfl, ⟨dx2, hx4⟩, (by decide), (by decide), (by decide), (by decide), fun b2 H5 s5 hb2 => ?_⟩
      rw [hb2.mpr ⟨by decide, by decide, by decide, by decide +kernel⟩]
      refine ⟨(by show 0 ≤ sizeLine; decide), fun a3 n3 => ?_⟩
      refine fun x3 dx nx ndx nex => mk_lost (ps := []) upd_same nx ndx nex fun l3 dx3 H6 s6 A6 hx6 => ⟨rfl, ?_⟩
      refine ⟨x3, dx3, _, rfl, hx6, fL_shows _, x3, l3, [], 2, 0, 5, 10, rfl, A6, (by decide), (by decide), (by decide), (by decide), (by decide), fun b3 H7 s7 hb3 => ?_⟩
      rw [hb3.mpr ⟨⟨trivial, fun x hx => by cases hx⟩, by decide, fun t e => by cases e⟩]
      refine fun x4 dx nx ndx nex => mk_won (t := 4) nx ndx nex fun dx4 H8 s8 hx8 => ⟨rfl, ?_⟩
      refine ⟨x4, dx4, _, rfl, hx8, fW_shows _, x4, 4, 2, 4, 4, 10, rfl, ⟨dx4, hx8⟩, (by decide), (by decide), (by decide), (by decide), fun b4 H9 s9 hb4 => ?_⟩
      rw [hb4.mpr ⟨by decide, by decide, by decide, by decide +kernel⟩]
      refine ⟨(by show 4 ≤ sizeLine; decide), fun G nG => ?_⟩
      have hG : (upd H9 G (.lst [.bl true, .bl true, .bl true, .bl true])) G = some (.lst ((List.replicate 4 true).map V.bl)) := upd_same
      -- bad ones
      refine ⟨(by show 1 ≤ sizeLine; decide), fun a5 n5 => ?_⟩
      refine fun x5 dx nx ndx nex => mk_lost (ps := [13]) upd_same nx ndx nex fun l5 dx5 H12 s12 A12 hx12 => ⟨rfl, ?_⟩
      refine ⟨x5, dx5, _, rfl, hx12, fL_shows _, x5, l5, [13], 2, 13, 13, 10, rfl, A12, (by decide), (by decide), (by decide), (by decide), (by decide), fun b5 H13 s13 hb5 => ?_⟩
      rw [bool_no hb5 fun z => by have := z.2.2 13 rfl; omega]
      refine fun x6 dx nx ndx nex => mk_won (t := 2) nx ndx nex fun dx6 H14 s14 hx14 => ⟨rfl, ?_⟩
      refine ⟨x6, dx6, _, rfl, hx14, fW_shows _, x6, 2, 2, 12, 11, 10, rfl, ⟨dx6, hx14⟩, (by decide), (by decide), (by decide), (by decide), fun b6 H15 s15 hb6 => ?_⟩
      rw [bool_no hb6 fun z => absurd z.2.2.2 (by decide +kernel)]
      refine ⟨(by show 2 ≤ sizeLine; decide), fun a7 n7 => ?_⟩
      refine fun x7 dx nx ndx nex => mk_lost (ps := [8, 5]) upd_same nx ndx nex fun l7 dx7 H16 s16 A16 hx16 => ⟨rfl, ?_⟩
      refine ⟨x7, dx7, _, rfl, hx16, fL_shows _, x7, l7, [8, 5], 2, 13, 1, 10, rfl, A16, (by decide), (by decide), (by decide), (by decide), (by decide), fun b7 H17 s17 hb7 => ?_⟩
      rw [bool_no hb7 fun z => absurd z.1.1.1 (by decide)]
      refine fun x8 dx nx ndx nex => mk_won (t := 5) nx ndx nex fun dx8 H18 s18 hx18 => ⟨rfl, ?_⟩
      refine ⟨x8, dx8, _, rfl, hx18, fW_shows _, x8, 5, 2, 4, 9, 10, rfl, ⟨dx8, hx18⟩, (by decide), (by decide), (by decide), (by decide), fun b8 H19 s19 hb8 => ?_⟩
      rw [bool_no hb8 fun z => absurd z.2.1 (by decide)]
      refine ⟨(by show 4 ≤ sizeLine; decide), fun G2 nG2 => ?_⟩
      have hG2 : (upd H19 G2 (.lst [.bl false, .bl false, .bl false, .bl false])) G2 = some (.lst ((List.replicate 4 false).map V.bl)) := upd_same
      have hG' : (upd H19 G2 (.lst [.bl false, .bl false, .bl false, .bl false])) G = some (.lst ((List.replicate 4 true).map V.bl)) :=
        keep nG2 _ _ _ (s19 _ _ (s18 _ _ (s17 _ _ (s16 _ _ (keep n7 _ _ _ (s15 _ _ (s14 _ _ (s13 _ _ (s12 _ _ (keep n5 _ _ _ hG))))))))))
      generalize (upd H19 G2 (.lst [.bl false, .bl false, .bl false, .bl false])) = H20 at hG2 hG'
      -- all as it is
      refine ⟨_, rfl, G, rfl, ⟨_, SqL.of hG'⟩, fun D nD => lc_list (K := K) (a := G) (xs := (List.replicate 4 true).map V.bl) (fun i H' => Same H20 H' ∧ H' D = some (.lst ((List.replicate i true).map V.bl))) ⟨same_upd nD, upd_same⟩ (fun i H' _ z => SqL.of (z.1 _ _ hG')) ?_ ?_⟩
      · rintro i y H21 hy ⟨s21, hD⟩
        have hi : i < 4 := (List.getElem?_eq_some_iff.mp hy).1
        obtain rfl : y = V.bl true := by
          obtain ⟨z, hz, e⟩ := List.mem_map.mp (List.mem_of_getElem? hy)
          rw [← e, (List.mem_replicate.mp hz).2]
        refine ⟨rfl, ⟨_, rfl, true, true, rfl, ?_⟩⟩
        refine ⟨_, hD, ?_, same_new s21 nD, ?_⟩
        · rw [List.length_map, List.length_replicate, sizeLine_eq]
          omega
        · rw [upd_same, ← reps_snoc]
          rfl
      · rintro H21 ⟨s21, hD⟩
        refine ⟨D, _, rfl, SqL.of hD, _, rfl, ?_⟩
        rw [reps_all]
        have hG3 := s21 _ _ hG2
        refine iteT ⟨_, rfl, G2, rfl, ⟨_, SqL.of hG3⟩, fun D2 nD2 => lc_list (K := K) (a := G2) (xs := (List.replicate 4 false).map V.bl) (fun i H' => Same H21 H' ∧ H' D2 = some (.lst ((List.replicate i true).map V.bl))) ⟨same_upd nD2, upd_same⟩ (fun i H' _ z => SqL.of (z.1 _ _ hG3)) ?_ ?_⟩
        · rintro i y H22 hy ⟨s22, hD2⟩
          have hi : i < 4 := (List.getElem?_eq_some_iff.mp hy).1
          obtain rfl : y = V.bl false := by
            obtain ⟨z, hz, e⟩ := List.mem_map.mp (List.mem_of_getElem? hy)
            rw [← e, (List.mem_replicate.mp hz).2]
          refine ⟨rfl, ⟨_, rfl, false, false, rfl, ?_⟩⟩
          refine ⟨_, hD2, ?_, same_new s22 nD2, ?_⟩
          · rw [List.length_map, List.length_replicate, sizeLine_eq]
            omega
          · rw [upd_same, ← reps_snoc]
            rfl
        · rintro H22 ⟨s22, hD2⟩
          refine ⟨D2, _, rfl, SqL.of hD2, ?_⟩
          rw [reps_all]
          exact g H22
end
end Tx
namespace Tx
open PySem PySem.Spec PyProof.Rows L2 Tk TA
theorem all_mk {P : Program} {w : World} {K : PySem.W.Frag} {h : Heap} {mg : Str → Option Value} {fa CSteps CLost CWon f_is_whole f_Steps_init f_Steps_more f_steps_to f_parts_of f_is_sum f_is_lost f_Lost_init f_Lost_shows f_Won_init f_Won_shows f__law_cell_at f__law_draw f__law_value f__law_factor f__law_steps f__law_parts f__law_heap f__law_limits f__law_lost f__law_whole f__law_is_sum f__law_says f__law_lost_right f__law_won_right f_law : Addr} (X : K.In h) (G : h.Ns mainGlobals mg) (hfa : mg "law" = some (.ref fa))
    {od_is_whole an_is_whole od_Steps_init an_Steps_init od_Steps_more an_Steps_more od_steps_to an_steps_to od_parts_of an_parts_of od_is_sum an_is_sum od_is_lost an_is_lost od_Lost_init an_Lost_init od_Lost_shows an_Lost_shows od_Won_init an_Won_init od_Won_shows an_Won_shows od__law_cell_at an__law_cell_at od__law_draw an__law_draw od__law_value an__law_value od__law_factor an__law_factor od__law_steps an__law_steps od__law_parts an__law_parts od__law_heap an__law_heap od__law_limits an__law_limits od__law_lost an__law_lost od__law_whole an__law_whole od__law_is_sum an__law_is_sum od__law_says an__law_says od__law_lost_right an__law_lost_right od__law_won_right an__law_won_right od_law an_law : Option Addr} {sl_is_whole sl_Steps_init sl_Steps_more sl_steps_to sl_parts_of sl_is_sum sl_is_lost sl_Lost_init sl_Lost_shows sl_Won_init sl_Won_shows sl__law_cell_at sl__law_draw sl__law_value sl__law_factor sl__law_steps sl__law_parts sl__law_heap sl__law_limits sl__law_lost sl__law_whole sl__law_is_sum sl__law_says sl__law_lost_right sl__law_won_right sl_law : Array (Option Value)} {oc_is_whole kV_is_whole dc_is_whole pm_is_whole cd_is_whole ct_is_whole oc_Steps_init kV_Steps_init dc_Steps_init pm_Steps_init cd_Steps_init ct_Steps_init oc_Steps_more kV_Steps_more dc_Steps_more pm_Steps_more cd_Steps_more ct_Steps_more oc_steps_to kV_steps_to dc_steps_to pm_steps_to cd_steps_to ct_steps_to oc_parts_of kV_parts_of dc_parts_of pm_parts_of cd_parts_of ct_parts_of oc_is_sum kV_is_sum dc_is_sum pm_is_sum cd_is_sum ct_is_sum oc_is_lost kV_is_lost dc_is_lost pm_is_lost cd_is_lost ct_is_lost oc_Lost_init kV_Lost_init dc_Lost_init pm_Lost_init cd_Lost_init ct_Lost_init oc_Lost_shows kV_Lost_shows dc_Lost_shows pm_Lost_shows cd_Lost_shows ct_Lost_shows oc_Won_init kV_Won_init dc_Won_init pm_Won_init cd_Won_init ct_Won_init oc_Won_shows kV_Won_shows dc_Won_shows pm_Won_shows cd_Won_shows ct_Won_shows oc__law_cell_at kV__law_cell_at dc__law_cell_at pm__law_cell_at cd__law_cell_at ct__law_cell_at oc__law_draw kV__law_draw dc__law_draw pm__law_draw cd__law_draw ct__law_draw oc__law_value kV__law_value dc__law_value pm__law_value cd__law_value ct__law_value oc__law_factor kV__law_factor dc__law_factor pm__law_factor cd__law_factor ct__law_factor oc__law_steps kV__law_steps dc__law_steps pm__law_steps cd__law_steps ct__law_steps oc__law_parts kV__law_parts dc__law_parts pm__law_parts cd__law_parts ct__law_parts oc__law_heap kV__law_heap dc__law_heap pm__law_heap cd__law_heap ct__law_heap oc__law_limits kV__law_limits dc__law_limits pm__law_limits cd__law_limits ct__law_limits oc__law_lost kV__law_lost dc__law_lost pm__law_lost cd__law_lost ct__law_lost oc__law_whole kV__law_whole dc__law_whole pm__law_whole cd__law_whole ct__law_whole oc__law_is_sum kV__law_is_sum dc__law_is_sum pm__law_is_sum cd__law_is_sum ct__law_is_sum oc__law_says kV__law_says dc__law_says pm__law_says cd__law_says ct__law_says oc__law_lost_right kV__law_lost_right dc__law_lost_right pm__law_lost_right cd__law_lost_right ct__law_lost_right oc__law_won_right kV__law_won_right dc__law_won_right pm__law_won_right cd__law_won_right ct__law_won_right oc_law kV_law dc_law pm_law cd_law ct_law : Value}
    (e_Steps : PySem.W.nsIn K mainGlobals "Steps" = some (some (.ref CSteps)))
    (e_Lost : PySem.W.nsIn K mainGlobals "Lost" = some (some (.ref CLost)))
    (e_Won : PySem.W.nsIn K mainGlobals "Won" = some (some (.ref CWon)))
    (a_is_whole : PySem.W.nsIn K mainGlobals "is_whole" = some (some (.ref f_is_whole)))
    (l_is_whole : K.lookup f_is_whole = some ⟨oc_is_whole, od_is_whole, .func (PySem.W.fnOf "is_whole" "is_whole" (defArgs s_is_whole) (defBody s_is_whole) (defScope s_is_whole) .none kV_is_whole dc_is_whole pm_is_whole an_is_whole cd_is_whole ct_is_whole), sl_is_whole⟩)
    (c_is_whole : PySem.W.codeIn K cd_is_whole "is_whole" = true)
    (k_is_whole : PySem.W.keepIn K (.ref f_is_whole) = true)
    (a_Steps_init : PySem.W.findIn K (.ref CSteps) "__init__" = some (some (.ref f_Steps_init)))
    (i_Steps_init : PySem.W.isFn K (.ref f_Steps_init) = true)
    (l_Steps_init : K.lookup f_Steps_init = some ⟨oc_Steps_init, od_Steps_init, .func (PySem.W.fnOf "__init__" "Steps.__init__" (defArgs s_Steps_init) (defBody s_Steps_init) (defScope s_Steps_init) .none kV_Steps_init dc_Steps_init pm_Steps_init an_Steps_init cd_Steps_init ct_Steps_init), sl_Steps_init⟩)
    (c_Steps_init : PySem.W.codeIn K cd_Steps_init "Steps.__init__" = true)
    (k_Steps_init : PySem.W.keepIn K (.ref f_Steps_init) = true)
    (a_Steps_more : PySem.W.findIn K (.ref CSteps) "more" = some (some (.ref f_Steps_more)))
    (i_Steps_more : PySem.W.isFn K (.ref f_Steps_more) = true)
    (l_Steps_more : K.lookup f_Steps_more = some ⟨oc_Steps_more, od_Steps_more, .func (PySem.W.fnOf "more" "Steps.more" (defArgs s_Steps_more) (defBody s_Steps_more) (defScope s_Steps_more) .none kV_Steps_more dc_Steps_more pm_Steps_more an_Steps_more cd_Steps_more ct_Steps_more), sl_Steps_more⟩)
    (c_Steps_more : PySem.W.codeIn K cd_Steps_more "Steps.more" = true)
    (k_Steps_more : PySem.W.keepIn K (.ref f_Steps_more) = true)
    (a_steps_to : PySem.W.nsIn K mainGlobals "steps_to" = some (some (.ref f_steps_to)))
    (l_steps_to : K.lookup f_steps_to = some ⟨oc_steps_to, od_steps_to, .func (PySem.W.fnOf "steps_to" "steps_to" (defArgs s_steps_to) (defBody s_steps_to) (defScope s_steps_to) .none kV_steps_to dc_steps_to pm_steps_to an_steps_to cd_steps_to ct_steps_to), sl_steps_to⟩)
    (c_steps_to : PySem.W.codeIn K cd_steps_to "steps_to" = true)
    (k_steps_to : PySem.W.keepIn K (.ref f_steps_to) = true)
    (a_parts_of : PySem.W.nsIn K mainGlobals "parts_of" = some (some (.ref f_parts_of)))
    (l_parts_of : K.lookup f_parts_of = some ⟨oc_parts_of, od_parts_of, .func (PySem.W.fnOf "parts_of" "parts_of" (defArgs s_parts_of) (defBody s_parts_of) (defScope s_parts_of) .none kV_parts_of dc_parts_of pm_parts_of an_parts_of cd_parts_of ct_parts_of), sl_parts_of⟩)
    (c_parts_of : PySem.W.codeIn K cd_parts_of "parts_of" = true)
    (k_parts_of : PySem.W.keepIn K (.ref f_parts_of) = true)
    (a_is_sum : PySem.W.nsIn K mainGlobals "is_sum" = some (some (.ref f_is_sum)))
    (l_is_sum : K.lookup f_is_sum = some ⟨oc_is_sum, od_is_sum, .func (PySem.W.fnOf "is_sum" "is_sum" (defArgs s_is_sum) (defBody s_is_sum) (defScope s_is_sum) .none kV_is_sum dc_is_sum pm_is_sum an_is_sum cd_is_sum ct_is_sum), sl_is_sum⟩)
    (c_is_sum : PySem.W.codeIn K cd_is_sum "is_sum" = true)
    (k_is_sum : PySem.W.keepIn K (.ref f_is_sum) = true)
    (a_is_lost : PySem.W.nsIn K mainGlobals "is_lost" = some (some (.ref f_is_lost)))
    (l_is_lost : K.lookup f_is_lost = some ⟨oc_is_lost, od_is_lost, .func (PySem.W.fnOf "is_lost" "is_lost" (defArgs s_is_lost) (defBody s_is_lost) (defScope s_is_lost) .none kV_is_lost dc_is_lost pm_is_lost an_is_lost cd_is_lost ct_is_lost), sl_is_lost⟩)
    (c_is_lost : PySem.W.codeIn K cd_is_lost "is_lost" = true)
    (k_is_lost : PySem.W.keepIn K (.ref f_is_lost) = true)
    (a_Lost_init : PySem.W.findIn K (.ref CLost) "__init__" = some (some (.ref f_Lost_init)))
    (i_Lost_init : PySem.W.isFn K (.ref f_Lost_init) = true)
    (l_Lost_init : K.lookup f_Lost_init = some ⟨oc_Lost_init, od_Lost_init, .func (PySem.W.fnOf "__init__" "Lost.__init__" (defArgs s_Lost_init) (defBody s_Lost_init) (defScope s_Lost_init) .none kV_Lost_init dc_Lost_init pm_Lost_init an_Lost_init cd_Lost_init ct_Lost_init), sl_Lost_init⟩)
    (c_Lost_init : PySem.W.codeIn K cd_Lost_init "Lost.__init__" = true)
    (k_Lost_init : PySem.W.keepIn K (.ref f_Lost_init) = true)
    (a_Lost_shows : PySem.W.findIn K (.ref CLost) "shows" = some (some (.ref f_Lost_shows)))
    (i_Lost_shows : PySem.W.isFn K (.ref f_Lost_shows) = true)
    (l_Lost_shows : K.lookup f_Lost_shows = some ⟨oc_Lost_shows, od_Lost_shows, .func (PySem.W.fnOf "shows" "Lost.shows" (defArgs s_Lost_shows) (defBody s_Lost_shows) (defScope s_Lost_shows) .none kV_Lost_shows dc_Lost_shows pm_Lost_shows an_Lost_shows cd_Lost_shows ct_Lost_shows), sl_Lost_shows⟩)
    (c_Lost_shows : PySem.W.codeIn K cd_Lost_shows "Lost.shows" = true)
    (k_Lost_shows : PySem.W.keepIn K (.ref f_Lost_shows) = true)
    (a_Won_init : PySem.W.findIn K (.ref CWon) "__init__" = some (some (.ref f_Won_init)))
    (i_Won_init : PySem.W.isFn K (.ref f_Won_init) = true)
    (l_Won_init : K.lookup f_Won_init = some ⟨oc_Won_init, od_Won_init, .func (PySem.W.fnOf "__init__" "Won.__init__" (defArgs s_Won_init) (defBody s_Won_init) (defScope s_Won_init) .none kV_Won_init dc_Won_init pm_Won_init an_Won_init cd_Won_init ct_Won_init), sl_Won_init⟩)
    (c_Won_init : PySem.W.codeIn K cd_Won_init "Won.__init__" = true)
    (k_Won_init : PySem.W.keepIn K (.ref f_Won_init) = true)
    (a_Won_shows : PySem.W.findIn K (.ref CWon) "shows" = some (some (.ref f_Won_shows)))
    (i_Won_shows : PySem.W.isFn K (.ref f_Won_shows) = true)
    (l_Won_shows : K.lookup f_Won_shows = some ⟨oc_Won_shows, od_Won_shows, .func (PySem.W.fnOf "shows" "Won.shows" (defArgs s_Won_shows) (defBody s_Won_shows) (defScope s_Won_shows) .none kV_Won_shows dc_Won_shows pm_Won_shows an_Won_shows cd_Won_shows ct_Won_shows), sl_Won_shows⟩)
    (c_Won_shows : PySem.W.codeIn K cd_Won_shows "Won.shows" = true)
    (k_Won_shows : PySem.W.keepIn K (.ref f_Won_shows) = true)
    (a__law_cell_at : PySem.W.nsIn K mainGlobals "_law_cell_at" = some (some (.ref f__law_cell_at)))
    (l__law_cell_at : K.lookup f__law_cell_at = some ⟨oc__law_cell_at, od__law_cell_at, .func (PySem.W.fnOf "_law_cell_at" "_law_cell_at" (defArgs s__law_cell_at) (defBody s__law_cell_at) (defScope s__law_cell_at) .none kV__law_cell_at dc__law_cell_at pm__law_cell_at an__law_cell_at cd__law_cell_at ct__law_cell_at), sl__law_cell_at⟩)
    (c__law_cell_at : PySem.W.codeIn K cd__law_cell_at "_law_cell_at" = true)
    (k__law_cell_at : PySem.W.keepIn K (.ref f__law_cell_at) = true)
    (a__law_draw : PySem.W.nsIn K mainGlobals "_law_draw" = some (some (.ref f__law_draw)))
    (l__law_draw : K.lookup f__law_draw = some ⟨oc__law_draw, od__law_draw, .func (PySem.W.fnOf "_law_draw" "_law_draw" (defArgs s__law_draw) (defBody s__law_draw) (defScope s__law_draw) .none kV__law_draw dc__law_draw pm__law_draw an__law_draw cd__law_draw ct__law_draw), sl__law_draw⟩)
    (c__law_draw : PySem.W.codeIn K cd__law_draw "_law_draw" = true)
    (k__law_draw : PySem.W.keepIn K (.ref f__law_draw) = true)
    (a__law_value : PySem.W.nsIn K mainGlobals "_law_value" = some (some (.ref f__law_value)))
    (l__law_value : K.lookup f__law_value = some ⟨oc__law_value, od__law_value, .func (PySem.W.fnOf "_law_value" "_law_value" (defArgs s__law_value) (defBody s__law_value) (defScope s__law_value) .none kV__law_value dc__law_value pm__law_value an__law_value cd__law_value ct__law_value), sl__law_value⟩)
    (c__law_value : PySem.W.codeIn K cd__law_value "_law_value" = true)
    (k__law_value : PySem.W.keepIn K (.ref f__law_value) = true)
    (a__law_factor : PySem.W.nsIn K mainGlobals "_law_factor" = some (some (.ref f__law_factor)))
    (l__law_factor : K.lookup f__law_factor = some ⟨oc__law_factor, od__law_factor, .func (PySem.W.fnOf "_law_factor" "_law_factor" (defArgs s__law_factor) (defBody s__law_factor) (defScope s__law_factor) .none kV__law_factor dc__law_factor pm__law_factor an__law_factor cd__law_factor ct__law_factor), sl__law_factor⟩)
    (c__law_factor : PySem.W.codeIn K cd__law_factor "_law_factor" = true)
    (k__law_factor : PySem.W.keepIn K (.ref f__law_factor) = true)
    (a__law_steps : PySem.W.nsIn K mainGlobals "_law_steps" = some (some (.ref f__law_steps)))
    (l__law_steps : K.lookup f__law_steps = some ⟨oc__law_steps, od__law_steps, .func (PySem.W.fnOf "_law_steps" "_law_steps" (defArgs s__law_steps) (defBody s__law_steps) (defScope s__law_steps) .none kV__law_steps dc__law_steps pm__law_steps an__law_steps cd__law_steps ct__law_steps), sl__law_steps⟩)
    (c__law_steps : PySem.W.codeIn K cd__law_steps "_law_steps" = true)
    (k__law_steps : PySem.W.keepIn K (.ref f__law_steps) = true)
    (a__law_parts : PySem.W.nsIn K mainGlobals "_law_parts" = some (some (.ref f__law_parts)))
    (l__law_parts : K.lookup f__law_parts = some ⟨oc__law_parts, od__law_parts, .func (PySem.W.fnOf "_law_parts" "_law_parts" (defArgs s__law_parts) (defBody s__law_parts) (defScope s__law_parts) .none kV__law_parts dc__law_parts pm__law_parts an__law_parts cd__law_parts ct__law_parts), sl__law_parts⟩)
    (c__law_parts : PySem.W.codeIn K cd__law_parts "_law_parts" = true)
    (k__law_parts : PySem.W.keepIn K (.ref f__law_parts) = true)
    (a__law_heap : PySem.W.nsIn K mainGlobals "_law_heap" = some (some (.ref f__law_heap)))
    (l__law_heap : K.lookup f__law_heap = some ⟨oc__law_heap, od__law_heap, .func (PySem.W.fnOf "_law_heap" "_law_heap" (defArgs s__law_heap) (defBody s__law_heap) (defScope s__law_heap) .none kV__law_heap dc__law_heap pm__law_heap an__law_heap cd__law_heap ct__law_heap), sl__law_heap⟩)
    (c__law_heap : PySem.W.codeIn K cd__law_heap "_law_heap" = true)
    (k__law_heap : PySem.W.keepIn K (.ref f__law_heap) = true)
    (a__law_limits : PySem.W.nsIn K mainGlobals "_law_limits" = some (some (.ref f__law_limits)))
    (l__law_limits : K.lookup f__law_limits = some ⟨oc__law_limits, od__law_limits, .func (PySem.W.fnOf "_law_limits" "_law_limits" (defArgs s__law_limits) (defBody s__law_limits) (defScope s__law_limits) .none kV__law_limits dc__law_limits pm__law_limits an__law_limits cd__law_limits ct__law_limits), sl__law_limits⟩)
    (c__law_limits : PySem.W.codeIn K cd__law_limits "_law_limits" = true)
    (k__law_limits : PySem.W.keepIn K (.ref f__law_limits) = true)
    (a__law_lost : PySem.W.nsIn K mainGlobals "_law_lost" = some (some (.ref f__law_lost)))
    (l__law_lost : K.lookup f__law_lost = some ⟨oc__law_lost, od__law_lost, .func (PySem.W.fnOf "_law_lost" "_law_lost" (defArgs s__law_lost) (defBody s__law_lost) (defScope s__law_lost) .none kV__law_lost dc__law_lost pm__law_lost an__law_lost cd__law_lost ct__law_lost), sl__law_lost⟩)
    (c__law_lost : PySem.W.codeIn K cd__law_lost "_law_lost" = true)
    (k__law_lost : PySem.W.keepIn K (.ref f__law_lost) = true)
    (a__law_whole : PySem.W.nsIn K mainGlobals "_law_whole" = some (some (.ref f__law_whole)))
    (l__law_whole : K.lookup f__law_whole = some ⟨oc__law_whole, od__law_whole, .func (PySem.W.fnOf "_law_whole" "_law_whole" (defArgs s__law_whole) (defBody s__law_whole) (defScope s__law_whole) .none kV__law_whole dc__law_whole pm__law_whole an__law_whole cd__law_whole ct__law_whole), sl__law_whole⟩)
    (c__law_whole : PySem.W.codeIn K cd__law_whole "_law_whole" = true)
    (k__law_whole : PySem.W.keepIn K (.ref f__law_whole) = true)
    (a__law_is_sum : PySem.W.nsIn K mainGlobals "_law_is_sum" = some (some (.ref f__law_is_sum)))
    (l__law_is_sum : K.lookup f__law_is_sum = some ⟨oc__law_is_sum, od__law_is_sum, .func (PySem.W.fnOf "_law_is_sum" "_law_is_sum" (defArgs s__law_is_sum) (defBody s__law_is_sum) (defScope s__law_is_sum) .none kV__law_is_sum dc__law_is_sum pm__law_is_sum an__law_is_sum cd__law_is_sum ct__law_is_sum), sl__law_is_sum⟩)
    (c__law_is_sum : PySem.W.codeIn K cd__law_is_sum "_law_is_sum" = true)
    (k__law_is_sum : PySem.W.keepIn K (.ref f__law_is_sum) = true)
    (a__law_says : PySem.W.nsIn K mainGlobals "_law_says" = some (some (.ref f__law_says)))
    (l__law_says : K.lookup f__law_says = some ⟨oc__law_says, od__law_says, .func (PySem.W.fnOf "_law_says" "_law_says" (defArgs s__law_says) (defBody s__law_says) (defScope s__law_says) .none kV__law_says dc__law_says pm__law_says an__law_says cd__law_says ct__law_says), sl__law_says⟩)
    (c__law_says : PySem.W.codeIn K cd__law_says "_law_says" = true)
    (k__law_says : PySem.W.keepIn K (.ref f__law_says) = true)
    (a__law_lost_right : PySem.W.nsIn K mainGlobals "_law_lost_right" = some (some (.ref f__law_lost_right)))
    (l__law_lost_right : K.lookup f__law_lost_right = some ⟨oc__law_lost_right, od__law_lost_right, .func (PySem.W.fnOf "_law_lost_right" "_law_lost_right" (defArgs s__law_lost_right) (defBody s__law_lost_right) (defScope s__law_lost_right) .none kV__law_lost_right dc__law_lost_right pm__law_lost_right an__law_lost_right cd__law_lost_right ct__law_lost_right), sl__law_lost_right⟩)
    (c__law_lost_right : PySem.W.codeIn K cd__law_lost_right "_law_lost_right" = true)
    (k__law_lost_right : PySem.W.keepIn K (.ref f__law_lost_right) = true)
    (a__law_won_right : PySem.W.nsIn K mainGlobals "_law_won_right" = some (some (.ref f__law_won_right)))
    (l__law_won_right : K.lookup f__law_won_right = some ⟨oc__law_won_right, od__law_won_right, .func (PySem.W.fnOf "_law_won_right" "_law_won_right" (defArgs s__law_won_right) (defBody s__law_won_right) (defScope s__law_won_right) .none kV__law_won_right dc__law_won_right pm__law_won_right an__law_won_right cd__law_won_right ct__law_won_right), sl__law_won_right⟩)
    (c__law_won_right : PySem.W.codeIn K cd__law_won_right "_law_won_right" = true)
    (k__law_won_right : PySem.W.keepIn K (.ref f__law_won_right) = true)
    (a_law : PySem.W.nsIn K mainGlobals "law" = some (some (.ref f_law)))
    (l_law : K.lookup f_law = some ⟨oc_law, od_law, .func (PySem.W.fnOf "law" "law" (defArgs s_law) (defBody s_law) (defScope s_law) .none kV_law dc_law pm_law an_law cd_law ct_law), sl_law⟩)
    (c_law : PySem.W.codeIn K cd_law "law" = true)
    (k_law : PySem.W.keepIn K (.ref f_law) = true)
    (mk_Steps : PySem.W.makesIn K CSteps = true)
    (kp_Steps : PySem.W.keepIn K (.ref CSteps) = true)
    (pg_Steps : PySem.W.plainGet K CSteps Str.empty = true)
    (hd_Steps : PySem.W.hasDictIn K CSteps = true)
    (po_Steps : PySem.W.plainOver K CSteps = true)
    (sa_Steps : PySem.W.findIn K (.ref CSteps) "__setattr__" = some (some (.builtin "object.__setattr__")))
    (n_Steps_factor : PySem.W.findIn K (.ref CSteps) "factor" = some none)
    (n_Steps_made : PySem.W.findIn K (.ref CSteps) "made" = some none)
    (n_Steps_least : PySem.W.findIn K (.ref CSteps) "least" = some none)
    (mk_Lost : PySem.W.makesIn K CLost = true)
    (kp_Lost : PySem.W.keepIn K (.ref CLost) = true)
    (pg_Lost : PySem.W.plainGet K CLost Str.empty = true)
    (hd_Lost : PySem.W.hasDictIn K CLost = true)
    (po_Lost : PySem.W.plainOver K CLost = true)
    (sa_Lost : PySem.W.findIn K (.ref CLost) "__setattr__" = some (some (.builtin "object.__setattr__")))
    (n_Lost_parts : PySem.W.findIn K (.ref CLost) "parts" = some none)
    (mk_Won : PySem.W.makesIn K CWon = true)
    (kp_Won : PySem.W.keepIn K (.ref CWon) = true)
    (pg_Won : PySem.W.plainGet K CWon Str.empty = true)
    (hd_Won : PySem.W.hasDictIn K CWon = true)
    (po_Won : PySem.W.plainOver K CWon = true)
    (sa_Won : PySem.W.findIn K (.ref CWon) "__setattr__" = some (some (.builtin "object.__setattr__")))
    (n_Won_taking : PySem.W.findIn K (.ref CWon) "taking" = some none)
    (z_all : PySem.W.nsIn K mainGlobals "all" = some none)
    (z_list : PySem.W.nsIn K mainGlobals "list" = some none)
    (z_range : PySem.W.nsIn K mainGlobals "range" = some none)
    (z_isinstance : PySem.W.nsIn K mainGlobals "isinstance" = some none)
    (z_int : PySem.W.nsIn K mainGlobals "int" = some none)
    (z_len : PySem.W.nsIn K mainGlobals "len" = some none)
    (z_max : PySem.W.nsIn K mainGlobals "max" = some none)
    (z_bool : PySem.W.nsIn K mainGlobals "bool" = some none)
    (z_min : PySem.W.nsIn K mainGlobals "min" = some none)
    (z_sum : PySem.W.nsIn K mainGlobals "sum" = some none)
    : ∃ fd : FuncData, (∀ (s : Shared) (v : Value), BindsTo s fd ⟨[v], []⟩ [("_law_script", v)]) ∧ ∀ base : Heap, K.In base → base.Ns mainGlobals mg → FnOk P w K mg base CX0 60 fa fd ["_law_script"] (sp_law K) := by
  have e := hfa.symm.trans (PySem.W.mg_of X G a_law)
  cases e
  have T : Txt K mg CSteps CLost CWon := {
    D_is_whole := ⟨f_is_whole, _, PySem.W.mg_of X G a_is_whole, fun_mk (st := s_is_whole) l_is_whole c_is_whole k_is_whole⟩,
    D_Steps_init := ⟨f_Steps_init, _, ⟨a_Steps_init, i_Steps_init, k_Steps_init⟩, fun_mk (st := s_Steps_init) l_Steps_init c_Steps_init k_Steps_init⟩,
    D_Steps_more := ⟨f_Steps_more, _, ⟨a_Steps_more, i_Steps_more, k_Steps_more⟩, fun_mk (st := s_Steps_more) l_Steps_more c_Steps_more k_Steps_more⟩,
    D_steps_to := ⟨f_steps_to, _, PySem.W.mg_of X G a_steps_to, fun_mk (st := s_steps_to) l_steps_to c_steps_to k_steps_to⟩,
    D_parts_of := ⟨f_parts_of, _, PySem.W.mg_of X G a_parts_of, fun_mk (st := s_parts_of) l_parts_of c_parts_of k_parts_of⟩,
    D_is_sum := ⟨f_is_sum, _, PySem.W.mg_of X G a_is_sum, fun_mk (st := s_is_sum) l_is_sum c_is_sum k_is_sum⟩,
    D_is_lost := ⟨f_is_lost, _, PySem.W.mg_of X G a_is_lost, fun_mk (st := s_is_lost) l_is_lost c_is_lost k_is_lost⟩,
    D_Lost_init := ⟨f_Lost_init, _, ⟨a_Lost_init, i_Lost_init, k_Lost_init⟩, fun_mk (st := s_Lost_init) l_Lost_init c_Lost_init k_Lost_init⟩,
    D_Lost_shows := ⟨f_Lost_shows, _, ⟨a_Lost_shows, i_Lost_shows, k_Lost_shows⟩, fun_mk (st := s_Lost_shows) l_Lost_shows c_Lost_shows k_Lost_shows⟩,
    D_Won_init := ⟨f_Won_init, _, ⟨a_Won_init, i_Won_init, k_Won_init⟩, fun_mk (st := s_Won_init) l_Won_init c_Won_init k_Won_init⟩,
    D_Won_shows := ⟨f_Won_shows, _, ⟨a_Won_shows, i_Won_shows, k_Won_shows⟩, fun_mk (st := s_Won_shows) l_Won_shows c_Won_shows k_Won_shows⟩,
    D__law_cell_at := ⟨f__law_cell_at, _, PySem.W.mg_of X G a__law_cell_at, fun_mk (st := s__law_cell_at) l__law_cell_at c__law_cell_at k__law_cell_at⟩,
    D__law_draw := ⟨f__law_draw, _, PySem.W.mg_of X G a__law_draw, fun_mk (st := s__law_draw) l__law_draw c__law_draw k__law_draw⟩,
    D__law_value := ⟨f__law_value, _, PySem.W.mg_of X G a__law_value, fun_mk (st := s__law_value) l__law_value c__law_value k__law_value⟩,
    D__law_factor := ⟨f__law_factor, _, PySem.W.mg_of X G a__law_factor, fun_mk (st := s__law_factor) l__law_factor c__law_factor k__law_factor⟩,
    D__law_steps := ⟨f__law_steps, _, PySem.W.mg_of X G a__law_steps, fun_mk (st := s__law_steps) l__law_steps c__law_steps k__law_steps⟩,
    D__law_parts := ⟨f__law_parts, _, PySem.W.mg_of X G a__law_parts, fun_mk (st := s__law_parts) l__law_parts c__law_parts k__law_parts⟩,
    D__law_heap := ⟨f__law_heap, _, PySem.W.mg_of X G a__law_heap, fun_mk (st := s__law_heap) l__law_heap c__law_heap k__law_heap⟩,
    D__law_limits := ⟨f__law_limits, _, PySem.W.mg_of X G a__law_limits, fun_mk (st := s__law_limits) l__law_limits c__law_limits k__law_limits⟩,
    D__law_lost := ⟨f__law_lost, _, PySem.W.mg_of X G a__law_lost, fun_mk (st := s__law_lost) l__law_lost c__law_lost k__law_lost⟩,
    D__law_whole := ⟨f__law_whole, _, PySem.W.mg_of X G a__law_whole, fun_mk (st := s__law_whole) l__law_whole c__law_whole k__law_whole⟩,
    D__law_is_sum := ⟨f__law_is_sum, _, PySem.W.mg_of X G a__law_is_sum, fun_mk (st := s__law_is_sum) l__law_is_sum c__law_is_sum k__law_is_sum⟩,
    D__law_says := ⟨f__law_says, _, PySem.W.mg_of X G a__law_says, fun_mk (st := s__law_says) l__law_says c__law_says k__law_says⟩,
    D__law_lost_right := ⟨f__law_lost_right, _, PySem.W.mg_of X G a__law_lost_right, fun_mk (st := s__law_lost_right) l__law_lost_right c__law_lost_right k__law_lost_right⟩,
    D__law_won_right := ⟨f__law_won_right, _, PySem.W.mg_of X G a__law_won_right, fun_mk (st := s__law_won_right) l__law_won_right c__law_won_right k__law_won_right⟩,
    e_Steps := PySem.W.mg_of X G e_Steps,
    mk_Steps := mk_Steps,
    kp_Steps := kp_Steps,
    cl_Steps := ⟨pg_Steps, hd_Steps, po_Steps, sa_Steps⟩,
    n_Steps_factor := n_Steps_factor,
    n_Steps_made := n_Steps_made,
    n_Steps_least := n_Steps_least,
    e_Lost := PySem.W.mg_of X G e_Lost,
    mk_Lost := mk_Lost,
    kp_Lost := kp_Lost,
    cl_Lost := ⟨pg_Lost, hd_Lost, po_Lost, sa_Lost⟩,
    n_Lost_parts := n_Lost_parts,
    e_Won := PySem.W.mg_of X G e_Won,
    mk_Won := mk_Won,
    kp_Won := kp_Won,
    cl_Won := ⟨pg_Won, hd_Won, po_Won, sa_Won⟩,
    n_Won_taking := n_Won_taking,
    b_all := PySem.W.mg_none_of X G z_all,
    b_list := PySem.W.mg_none_of X G z_list,
    b_range := PySem.W.mg_none_of X G z_range,
    b_isinstance := PySem.W.mg_none_of X G z_isinstance,
    b_int := PySem.W.mg_none_of X G z_int,
    b_len := PySem.W.mg_none_of X G z_len,
    b_max := PySem.W.mg_none_of X G z_max,
    b_bool := PySem.W.mg_none_of X G z_bool,
    b_min := PySem.W.mg_none_of X G z_min,
    b_sum := PySem.W.mg_none_of X G z_sum }
  exact ⟨PySem.W.fnOf "law" "law" (defArgs s_law) (defBody s_law) (defScope s_law) .none kV_law dc_law pm_law an_law cd_law ct_law, fun s v => .of_eq rfl, fun base _ _ => ok_law T (fun_mk (st := s_law) l_law c_law k_law)⟩
theorem walk {l : PySem.W.OpenLaw} {q : Program} {loose : List Str} {XP : (Str → Option Value) → Heap → Prop} {YP : World → Heap → Prop} {d : DefRec} {K : Params → PySem.W.Frag} (hn : l.most = some 63) (hdf : d.params.defaults = [])
    (hY : ∀ (w : World) (h : Heap), YP w h → (K w.params).In h)
    (F : ∀ (w : World) (mg : Str → Option Value) (fa : Addr) (h : Heap), (K w.params).In h → h.Ns mainGlobals mg → mg d.name = some (.ref fa) →
      ∃ fd : FuncData, (∀ (s : Shared) (u : Value), BindsTo s fd ⟨[u], []⟩ [("_law_script", u)]) ∧ ∀ base : Heap, (K w.params).In base → base.Ns mainGlobals mg → FnOk l.prog w (K w.params) mg base CX0 60 fa fd ["_law_script"] (sp_law (K w.params))) :
    PySem.W.WalkO q loose XP YP l.row.toRowW d [] (fun f vs => PySem.call f vs) :=
  L2.walk_ofB (n := 63) (k := 60) (x := "_law_script") (CX := fun _ => CX0) (sp := fun w => sp_law (K w.params)) hn (by decide) hdf ⟨rfl, by decide, by decide⟩ hY F (fun w H a ns hl hb _ hS => by
    obtain ⟨B, hB⟩ : ∃ B : Nat, B = 1048576 := ⟨_, rfl⟩
    exact ⟨a, B, rfl, ⟨ns, hS, hl, fun z hz => bits_abs (by rw [hB]; exact hb z hz)⟩, by omega, fun _ => rfl⟩) fun _ _ _ _ _ z => z
end Tx
open PySem PySem.W PyProof.Rows
set_option maxRecDepth 100000 in
set_option maxHeartbeats 0 in
theorem PySem.Challenge.cw_takeagain_k04_answers_by_hand_holds : PySem.Challenge.rw_takeagain_k04_answers_by_hand.Holds := by
  w_on; o_law; k_head; (case hw => w_witness2)
  k_fill
  refine Tx.walk (l := PySem.Challenge.rw_takeagain_k04_answers_by_hand) rfl rfl (fun w h Y => PySem.W.kIn_of Y) ?F
  case F =>
    intro w mg fa h KX G hmg
    refine' Tx.all_mk KX G hmg ?e_Steps ?e_Lost ?e_Won ?a_is_whole ?l_is_whole ?c_is_whole ?k_is_whole ?a_Steps_init ?i_Steps_init ?l_Steps_init ?c_Steps_init ?k_Steps_init ?a_Steps_more ?i_Steps_more ?l_Steps_more ?c_Steps_more ?k_Steps_more ?a_steps_to ?l_steps_to ?c_steps_to ?k_steps_to ?a_parts_of ?l_parts_of ?c_parts_of ?k_parts_of ?a_is_sum ?l_is_sum ?c_is_sum ?k_is_sum ?a_is_lost ?l_is_lost ?c_is_lost ?k_is_lost ?a_Lost_init ?i_Lost_init ?l_Lost_init ?c_Lost_init ?k_Lost_init ?a_Lost_shows ?i_Lost_shows ?l_Lost_shows ?c_Lost_shows ?k_Lost_shows ?a_Won_init ?i_Won_init ?l_Won_init ?c_Won_init ?k_Won_init ?a_Won_shows ?i_Won_shows ?l_Won_shows ?c_Won_shows ?k_Won_shows ?a__law_cell_at ?l__law_cell_at ?c__law_cell_at ?k__law_cell_at ?a__law_draw ?l__law_draw ?c__law_draw ?k__law_draw ?a__law_value ?l__law_value ?c__law_value ?k__law_value ?a__law_factor ?l__law_factor ?c__law_factor ?k__law_factor ?a__law_steps ?l__law_steps ?c__law_steps ?k__law_steps ?a__law_parts ?l__law_parts ?c__law_parts ?k__law_parts ?a__law_heap ?l__law_heap ?c__law_heap ?k__law_heap ?a__law_limits ?l__law_limits ?c__law_limits ?k__law_limits ?a__law_lost ?l__law_lost ?c__law_lost ?k__law_lost ?a__law_whole ?l__law_whole ?c__law_whole ?k__law_whole ?a__law_is_sum ?l__law_is_sum ?c__law_is_sum ?k__law_is_sum ?a__law_says ?l__law_says ?c__law_says ?k__law_says ?a__law_lost_right ?l__law_lost_right ?c__law_lost_right ?k__law_lost_right ?a__law_won_right ?l__law_won_right ?c__law_won_right ?k__law_won_right ?a_law ?l_law ?c_law ?k_law ?mk_Steps ?kp_Steps ?pg_Steps ?hd_Steps ?po_Steps ?sa_Steps ?n_Steps_factor ?n_Steps_made ?n_Steps_least ?mk_Lost ?kp_Lost ?pg_Lost ?hd_Lost ?po_Lost ?sa_Lost ?n_Lost_parts ?mk_Won ?kp_Won ?pg_Won ?hd_Won ?po_Won ?sa_Won ?n_Won_taking ?z_all ?z_list ?z_range ?z_isinstance ?z_int ?z_len ?z_max ?z_bool ?z_min ?z_sum
    (case e_Steps => k_is)
    (case e_Lost => k_is)
    (case e_Won => k_is)
    (case a_is_whole => k_is)
    (case l_is_whole => k_is)
    (case c_is_whole => k_is)
    (case k_is_whole => k_is)
    (case a_Steps_init => k_is)
    (case i_Steps_init => k_is)
    (case l_Steps_init => k_is)
    (case c_Steps_init => k_is)
    (case k_Steps_init => k_is)
    (case a_Steps_more => k_is)
    (case i_Steps_more => k_is)
    (case l_Steps_more => k_is)
    (case c_Steps_more => k_is)
    (case k_Steps_more => k_is)
    (case a_steps_to => k_is)
    (case l_steps_to => k_is)
    (case c_steps_to => k_is)
    (case k_steps_to => k_is)
    (case a_parts_of => k_is)
    (case l_parts_of => k_is)
    (case c_parts_of => k_is)
    (case k_parts_of => k_is)
    (case a_is_sum => k_is)
    (case l_is_sum => k_is)
    (case c_is_sum => k_is)
    (case k_is_sum => k_is)
    (case a_is_lost => k_is)
    (case l_is_lost => k_is)
    (case c_is_lost => k_is)
    (case k_is_lost => k_is)
    (case a_Lost_init => k_is)
    (case i_Lost_init => k_is)
    (case l_Lost_init => k_is)
    (case c_Lost_init => k_is)
    (case k_Lost_init => k_is)
    (case a_Lost_shows => k_is)
    (case i_Lost_shows => k_is)
    (case l_Lost_shows => k_is)
    (case c_Lost_shows => k_is)
    (case k_Lost_shows => k_is)
    (case a_Won_init => k_is)
    (case i_Won_init => k_is)
    (case l_Won_init => k_is)
    (case c_Won_init => k_is)
    (case k_Won_init => k_is)
    (case a_Won_shows => k_is)
    (case i_Won_shows => k_is)
    (case l_Won_shows => k_is)
    (case c_Won_shows => k_is)
    (case k_Won_shows => k_is)
    (case a__law_cell_at => k_is)
    (case l__law_cell_at => k_is)
    (case c__law_cell_at => k_is)
    (case k__law_cell_at => k_is)
    (case a__law_draw => k_is)
    (case l__law_draw => k_is)
    (case c__law_draw => k_is)
    (case k__law_draw => k_is)
    (case a__law_value => k_is)
    (case l__law_value => k_is)
    (case c__law_value => k_is)
    (case k__law_value => k_is)
    (case a__law_factor => k_is)
    (case l__law_factor => k_is)
    (case c__law_factor => k_is)
    (case k__law_factor => k_is)
    (case a__law_steps => k_is)
    (case l__law_steps => k_is)
    (case c__law_steps => k_is)
    (case k__law_steps => k_is)
    (case a__law_parts => k_is)
    (case l__law_parts => k_is)
    (case c__law_parts => k_is)
    (case k__law_parts => k_is)
    (case a__law_heap => k_is)
    (case l__law_heap => k_is)
    (case c__law_heap => k_is)
    (case k__law_heap => k_is)
    (case a__law_limits => k_is)
    (case l__law_limits => k_is)
    (case c__law_limits => k_is)
    (case k__law_limits => k_is)
    (case a__law_lost => k_is)
    (case l__law_lost => k_is)
    (case c__law_lost => k_is)
    (case k__law_lost => k_is)
    (case a__law_whole => k_is)
    (case l__law_whole => k_is)
    (case c__law_whole => k_is)
    (case k__law_whole => k_is)
    (case a__law_is_sum => k_is)
    (case l__law_is_sum => k_is)
    (case c__law_is_sum => k_is)
    (case k__law_is_sum => k_is)
    (case a__law_says => k_is)
    (case l__law_says => k_is)
    (case c__law_says => k_is)
    (case k__law_says => k_is)
    (case a__law_lost_right => k_is)
    (case l__law_lost_right => k_is)
    (case c__law_lost_right => k_is)
    (case k__law_lost_right => k_is)
    (case a__law_won_right => k_is)
    (case l__law_won_right => k_is)
    (case c__law_won_right => k_is)
    (case k__law_won_right => k_is)
    (case a_law => k_is)
    (case l_law => k_is)
    (case c_law => k_is)
    (case k_law => k_is)
    (case mk_Steps => k_is)
    (case kp_Steps => k_is)
    (case pg_Steps => k_is)
    (case hd_Steps => k_is)
    (case po_Steps => k_is)
    (case sa_Steps => k_is)
    (case n_Steps_factor => k_is)
    (case n_Steps_made => k_is)
    (case n_Steps_least => k_is)
    (case mk_Lost => k_is)
    (case kp_Lost => k_is)
    (case pg_Lost => k_is)
    (case hd_Lost => k_is)
    (case po_Lost => k_is)
    (case sa_Lost => k_is)
    (case n_Lost_parts => k_is)
    (case mk_Won => k_is)
    (case kp_Won => k_is)
    (case pg_Won => k_is)
    (case hd_Won => k_is)
    (case po_Won => k_is)
    (case sa_Won => k_is)
    (case n_Won_taking => k_is)
    (case z_all => k_is)
    (case z_list => k_is)
    (case z_range => k_is)
    (case z_isinstance => k_is)
    (case z_int => k_is)
    (case z_len => k_is)
    (case z_max => k_is)
    (case z_bool => k_is)
    (case z_min => k_is)
    (case z_sum => k_is)
#print axioms PySem.Challenge.cw_takeagain_k04_answers_by_hand_holds
