import PyProof.Rows.All
import Wide.All
import OpenK.AllK
import Wide.FinOn
import PyProof.EqAt
import PyProof.EqKinds
import PyProof.TupleCall
import HandS.ForMost
import HandS.Wide
import HandS.Style
import HandS.IsInst
import HandS.EndBits
import PySem.Challenge.RW_takeagain_k03_tried
set_option Elab.async false
set_option linter.all false
set_option maxRecDepth 100000
set_option maxHeartbeats 4000000
namespace Tk
open PySem PySem.Spec PyProof.Rows L2
/-! ### defs by their promises, addresses left aside -/
/-- a def of the text at the module's name x -/
def Dfn (K : PySem.W.Frag) (mg : Str → Option Value) (x : Str) (st : Stmt) : Prop := ∃ f fd, mg x = some (.ref f) ∧ Fun K x x st f fd
/-- a method m of the class at C -/
def Mdf (K : PySem.W.Frag) (C : Addr) (m q : Str) (st : Stmt) : Prop := ∃ f fd, Meth K C m f ∧ Fun K m q st f fd
section
variable (P : Program) (w : World) (K : PySem.W.Frag) (mg : Str → Option Value) (base : Heap) (CX : CXT)
/-- the def called x keeps the promise sp -/
def OkG (k : Nat) (x : Str) (sp : Sp) : Prop := ∃ f fd ps, mg x = some (.ref f) ∧ FnOk P w K mg base CX k f fd ps sp ∧ PySem.W.keepIn K (.ref f) = true ∧ Binds K fd ps []
/-- the method m of the class at C -/
def OkM (k : Nat) (C : Addr) (m : Str) (sp : Sp) : Prop := ∃ f fd ps, Cls K C ∧ Meth K C m f ∧ FnOk P w K mg base CX k f fd ps sp ∧ Binds K fd ps []
/-- the class at C, called x, with an own __init__ -/
def OkC (k : Nat) (x : Str) (C : Addr) (sp : Sp) : Prop := ∃ f fd ps, mg x = some (.ref C) ∧ Mk K C f ∧ FnOk P w K mg base CX k f fd ps sp ∧ Binds K fd ps []
end
section
variable {P : Program} {w : World} {K : PySem.W.Frag} {mg : Str → Option Value} {base : Heap} {CX : CXT} {k : Nat} {x m q : Str} {st : Stmt} {C : Addr} {sp : Sp} {ps : List Str}
theorem OkG.of (D : Dfn K mg x st) (b : ∀ f fd, Fun K x x st f fd → Binds K fd ps []) (h : ∀ f fd, Fun K x x st f fd → FnOk P w K mg base CX k f fd ps sp) : OkG P w K mg base CX k x sp := by
  obtain ⟨f, fd, e, F⟩ := D
  exact ⟨f, fd, ps, e, h f fd F, F.kp, b f fd F⟩
theorem OkM.of (c : Cls K C) (D : Mdf K C m q st) (b : ∀ f fd, Fun K m q st f fd → Binds K fd ps []) (h : ∀ f fd, Fun K m q st f fd → FnOk P w K mg base CX k f fd ps sp) : OkM P w K mg base CX k C m sp := by
  obtain ⟨f, fd, e, F⟩ := D
  exact ⟨f, fd, ps, c, e, h f fd F, b f fd F⟩
theorem OkC.of (e : mg x = some (.ref C)) (mk : PySem.W.makesIn K C = true) (kp : PySem.W.keepIn K (.ref C) = true) (D : Mdf K C "__init__" q st) (b : ∀ f fd, Fun K "__init__" q st f fd → Binds K fd ps []) (h : ∀ f fd, Fun K "__init__" q st f fd → FnOk P w K mg base CX k f fd ps sp) : OkC P w K mg base CX k x C sp := by
  obtain ⟨f, fd, d, F⟩ := D
  exact ⟨f, fd, ps, e, ⟨mk, d.at_, d.fn, kp⟩, h f fd F, b f fd F⟩
end
/-- a call: the promise at the arguments -/
def tCallO (sp : Sp) (E : XK) (t : TA) : TE := fun σ H Q => t σ H fun vs H1 => sp vs H1 Q E
def tMethO (C : Addr) (m : Str) (sp : Sp) (E : XK) (ta : TE) (t : TA) : TE := fun σ H Q => ta σ H fun x H1 => ∃ a dx fs, x = .ref a ∧ H1 a = some (.ins C dx fs) ∧ fs.lookup m = none ∧ t σ H1 fun vs H2 => sp (x :: vs) H2 Q E
def tMakeO (C : Addr) (sp : Sp) (E : XK) (t : TA) : TE := fun σ H Q => t σ H fun vs H1 => ∀ x dx, H1 x = none → H1 dx = none → dx ≠ x →
  sp (.ref x :: vs) (upd (upd H1 dx (.own x)) x (.ins C dx [])) (fun v H2 => v = .non ∧ Q (.ref x) H2) E
section
variable {X : Cx} {CX : CXT} {k : Nat} {C : Addr} {sp : Sp} {E : XK} {x m : Str} {p pos apos : Pos} {e o : Expr} {es : List Expr} {ta : TE} {t : TA}
theorem pe_callO (O : OkG X.prog X.w X.K X.mg X.base CX k x sp) (hr : Room k X.A) (hg : Gl X x) (hx : Passes CX X E) (ha : PA X (e :: es) t) (hdb : (x == ("__debug__" : Str)) = false := by decide)
    (he : starEach (e :: es) X.env = (false, eval e X.env) :: starEach es X.env := by rfl) (hpl : (backTo pos (starEach es X.env)).any (·.1) = false := by rfl) : PE X (.Call (.Name x p) (e :: es) [] pos) (tCallO sp E t) := by
  obtain ⟨f, fd, ps, hm, F, hk, hb⟩ := O
  have h := pe_call (dvs := []) (p := p) (pos := pos) F hr hg hm hk hb .nil hx ha hdb he hpl
  refine ⟨fun pins s σ H Q I z => h.run pins s σ H Q I ?_⟩
  have e0 : (fun (vs : List V) (H1 : Hp) => sp (vs ++ []) H1 Q E) = fun vs H1 => sp vs H1 Q E := by
    funext vs H1
    rw [List.append_nil]
  show t σ H (fun vs H1 => sp (vs ++ []) H1 Q E)
  rw [e0]
  exact z
theorem pe_makeO (O : OkC X.prog X.w X.K X.mg X.base CX k x C sp) (hr : Room (k + 1) X.A) (hg : Gl X x) (hx : Passes CX X E) (ha : PA X (e :: es) t) (hdb : (x == ("__debug__" : Str)) = false := by decide)
    (he : starEach (e :: es) X.env = (false, eval e X.env) :: starEach es X.env := by rfl) (hpl : (backTo pos (starEach es X.env)).any (·.1) = false := by rfl) : PE X (.Call (.Name x p) (e :: es) [] pos) (tMakeO C sp E t) := by
  obtain ⟨f, fd, ps, hm, M, F, hb⟩ := O
  have h := pe_make (dvs := []) (p := p) (pos := pos) M F hr hg hm hb .nil hx ha hdb he hpl
  refine ⟨fun pins s σ H Q I z => h.run pins s σ H Q I ?_⟩
  have e0 : (fun (vs : List V) (H1 : Hp) => ∀ x dx, H1 x = none → H1 dx = none → dx ≠ x → sp (.ref x :: (vs ++ [])) (upd (upd H1 dx (.own x)) x (.ins C dx [])) (fun v H2 => v = .non ∧ Q (.ref x) H2) E) =
      fun vs H1 => ∀ x dx, H1 x = none → H1 dx = none → dx ≠ x → sp (.ref x :: vs) (upd (upd H1 dx (.own x)) x (.ins C dx [])) (fun v H2 => v = .non ∧ Q (.ref x) H2) E := by
    funext vs H1
    rw [List.append_nil]
  show t σ H _
  rw [e0]
  exact z
theorem pe_methO {pl : Sem Bool} (O : OkM X.prog X.w X.K X.mg X.base CX k C m sp) (hr : Room k X.A) (hx : Passes CX X E) (he : PE X o ta) (ha : PA X (e :: es) t)
    (hst : starEach (e :: es) X.env = (false, eval e X.env) :: starEach es X.env := by rfl) (hpl : (backTo pos (starEach es X.env)).any (·.1) = false := by rfl)
    (ht : eval (.Call (.Attribute o m apos) (e :: es) [] pos) X.env = (do
      let ov ← eval o X.env
      standAt apos.atName
      let (f, first) ← holding [ov] (getMethod ov m pl)
      callWith pos f first (backTo pos (starEach (e :: es) X.env)) (backToKw pos (keywordEach [] X.env))) := by rfl) :
    PE X (.Call (.Attribute o m apos) (e :: es) [] pos) (tMethO C m sp E ta t) := by
  obtain ⟨f, fd, ps, c, hm, F, hb⟩ := O
  have h := pe_meth (dvs := []) (pos := pos) (apos := apos) he c hm F hr hb .nil hx ha hst hpl ht
  refine ⟨fun pins s σ H Q I z => h.run pins s σ H Q I ?_⟩
  have e0 : ∀ x, (fun (vs : List V) (H1 : Hp) => sp (x :: (vs ++ [])) H1 Q E) = fun vs H1 => sp (x :: vs) H1 Q E := by
    intro x
    funext vs H1
    rw [List.append_nil]
  show ta σ H (fun x H1 => ∃ a dx fs, x = .ref a ∧ H1 a = some (.ins C dx fs) ∧ fs.lookup m = none ∧ t σ H1 fun vs H2 => sp (x :: (vs ++ [])) H2 Q E)
  simp only [e0]
  exact z
theorem pe_methO0 {pl : Sem Bool} (O : OkM X.prog X.w X.K X.mg X.base CX k C m sp) (hr : Room k X.A) (hx : Passes CX X E) (he : PE X o ta)
    (ht : eval (.Call (.Attribute o m apos) [] [] pos) X.env = (do
      let ov ← eval o X.env
      standAt apos.atName
      let (f, first) ← holding [ov] (getMethod ov m pl)
      callWith pos f first (backTo pos (starEach [] X.env)) (backToKw pos (keywordEach [] X.env))) := by rfl) :
    PE X (.Call (.Attribute o m apos) [] [] pos) (tMethO C m sp E ta tNil) := by
  obtain ⟨f, fd, ps, c, hm, F, hb⟩ := O
  have h := pe_meth0 (dvs := []) (pos := pos) (apos := apos) he c hm F hr hb .nil hx ht
  exact ⟨fun pins s σ H Q I z => h.run pins s σ H Q I z⟩
end
/-! ### lists of ints compared -/
def pint : Int → PyData := .int
theorem dp_ints {K : PySem.W.Frag} {H : Hp} : ∀ ns : List Int, DpAll K H (ns.map V.int) (ns.map PyData.int)
  | [] => .nil
  | n :: r => .cons (.int n) (dp_ints r)
theorem can_ints : ∀ ns : List Int, PyData.canLayAll0 (ns.map PyData.int) = true
  | [] => rfl
  | n :: r => by
    show (PyData.canLay0 (.int n) && PyData.canLayAll0 (r.map PyData.int)) = true
    rw [can_ints r]
    rfl
theorem deep_ints : ∀ ns : List Int, PyData.depthAll (ns.map PyData.int) ≤ 1
  | [] => by decide
  | n :: r => by
    have ih := deep_ints r
    simp only [List.map_cons, PyData.depthAll, PyData.depth]
    omega
theorem eqv_ints : ∀ ns ms : List Int, PyData.eqvAll (ns.map PyData.int) (ms.map PyData.int) = decide (ns = ms)
  | [], [] => rfl
  | [], m :: ms => by simp [PyData.eqvAll]
  | n :: ns, [] => by simp [PyData.eqvAll]
  | n :: ns, m :: ms => by
    simp only [List.map_cons, PyData.eqvAll, eqv_ints ns ms, PyData.eqv]
    rw [Bool.eq_iff_iff]
    simp
theorem shaped_ints (ns : List Int) : SeqAt.shaped (.list (ns.map PyData.int)) = true := by
  unfold SeqAt.shaped
  rw [Bool.and_eq_true]
  refine ⟨can_ints ns, decide_eq_true ?_⟩
  have := deep_ints ns
  simp only [PyData.depth]
  omega
section
variable {X : Cx}
def rEqIs (K : PySem.W.Frag) : R2 := fun x y H Q => ∃ (a b : Addr) (ns ms : List Int), x = .ref a ∧ y = .ref b ∧ SqL K H a (ns.map V.int) ∧ SqL K H b (ms.map V.int) ∧ Q (.bl (decide (ns = ms))) H
def rNeIs (K : PySem.W.Frag) : R2 := fun x y H Q => ∃ (a b : Addr) (ns ms : List Int), x = .ref a ∧ y = .ref b ∧ SqL K H a (ns.map V.int) ∧ SqL K H b (ms.map V.int) ∧ Q (.bl (!decide (ns = ms))) H
theorem op_eqIs (hu : X.A.units + 64 < cLine) : OpR X (compareOp .Eq) (rEqIs X.K) := fun pins s σ H x y v u Q I rx ry h => by
  obtain ⟨a, b, ns, ms, rfl, rfl, ha, hb, q⟩ := h
  refine op_eqD hu pins s σ H _ _ v u Q I rx ry ⟨_, _, .lst ha (dp_ints ns), .lst hb (dp_ints ms), shaped_ints ns, shaped_ints ms, ?_⟩
  have e : PyData.eqv (.list (ns.map PyData.int)) (.list (ms.map PyData.int)) = decide (ns = ms) := by
    rw [← eqv_ints]
    simp only [PyData.eqv]
  rw [e]
  exact q
theorem op_neIs (hu : X.A.units + 64 < cLine) : OpR X (compareOp .NotEq) (rNeIs X.K) := fun pins s σ H x y v u Q I rx ry h => by
  obtain ⟨a, b, ns, ms, rfl, rfl, ha, hb, q⟩ := h
  refine op_neD hu pins s σ H _ _ v u Q I rx ry ⟨_, _, .lst ha (dp_ints ns), .lst hb (dp_ints ms), shaped_ints ns, shaped_ints ms, ?_⟩
  have e : PyData.eqv (.list (ns.map PyData.int)) (.list (ms.map PyData.int)) = decide (ns = ms) := by
    rw [← eqv_ints]
    simp only [PyData.eqv]
  rw [e]
  exact q
/-- * of any two that the model multiplies -/
theorem op_mulA : OpR X (binaryOp .Mult) (rI IntMulOk fun i j => .int (i * j)) := opI fun _ _ _ _ _ _ _ hc q => mul_int q hc
end
/-! ### heaps -/
theorem same_upd {H : Hp} {p : Addr} {o : HO} (h : H p = none) : Same H (upd H p o) := fun b x e => by
  rw [upd_ne (ne_of_none e h)]
  exact e
theorem same_new {H H' : Hp} {p : Addr} {o : HO} (s : Same H H') (h : H p = none) : Same H (upd H' p o) := fun b x e => by
  rw [upd_ne (ne_of_none e h)]
  exact s b x e
theorem same_lst {H H' : Hp} {p : Addr} {o : HO} (s : Same H H') (h : H' p = none) : Same H (upd H' p o) := same_new s (s.free h)
theorem ne_none {H : Hp} {a b : Addr} {o : HO} (h : H a = some o) (h' : H b = none) : b ≠ a := (ne_of_none h h').symm
/-- isinstance of own classes -/
theorem kit_self {K : PySem.W.Frag} {C : Addr} : PySem.W.kitOne K (.ref C) (.ref C) = some true := if_pos (by simp)
theorem kit_own {K : PySem.W.Frag} {C D : Addr} {b : Bool} (i : PySem.W.isClsIn K D = true) (t : PySem.W.typeIn K (.ref D) = some (.type "type")) (s : PySem.W.subIn K (.ref C) (.ref D) = some b) (ne : b = false → C ≠ D) : PySem.W.kitOne K (.ref C) (.ref D) = some b := by
  have i2 : (PySem.W.clsIn K D).isSome = true := i
  unfold PySem.W.kitOne
  by_cases c : C = D
  · subst c
    cases b with
    | true => exact if_pos (by simp)
    | false => exact absurd rfl (ne rfl)
  · rw [if_neg (by intro z; exact c (by simpa using z))]
    show (if ((PySem.W.clsIn K D).isSome && PySem.W.typeIn K (.ref D) == some (.type "type")) = true then PySem.W.subIn K (.ref C) (.ref D) else none) = some b
    rw [if_pos (by rw [i2, t]; rfl)]
    exact s
/-- whole numbers -/
inductive Wh (K : PySem.W.Frag) (H : Hp) : V → Bool → Prop where
  | int (n : Int) : Wh K H (.int n) (decide (0 ≤ n))
  | bl (b : Bool) : Wh K H (.bl b) false
  | oth {v : V} {t : String} : TyX K H v (.type t) → kitB t "int" = some false → Wh K H v false
end Tk
namespace TA
/-! ### rows of steps, by what they are -/
structure IsRow (k : Int) (h : Nat → Int) (p : Nat → Nat) : Prop where
  k1 : 1 ≤ k
  z : h 0 = 1
  s : ∀ n, h (n + 1) = h n + h (p n)
  le : ∀ n, p n ≤ n
  ge : ∀ n, h n ≤ k * h (p n)
  lt : ∀ n i, i < p n → k * h i < h n
section
variable {k : Int} {h : Nat → Int} {p : Nat → Nat}
theorem IsRow.pos (R : IsRow k h p) : ∀ n, 1 ≤ h n := by
  intro n
  induction n using Nat.strongRecOn with
  | _ n ih =>
    cases n with
    | zero => rw [R.z]; omega
    | succ m =>
      rw [R.s m]
      have a := ih m (Nat.lt_succ_self m)
      have b := ih (p m) (Nat.lt_succ_of_le (R.le m))
      omega
theorem IsRow.up (R : IsRow k h p) (n : Nat) : h n < h (n + 1) := by
  rw [R.s n]
  have := R.pos (p n)
  omega
theorem IsRow.mono (R : IsRow k h p) : ∀ {a b : Nat}, a ≤ b → h a ≤ h b := by
  intro a b hab
  induction b with
  | zero =>
    have e : a = 0 := by omega
    subst e
    exact Int.le_refl _
  | succ m ih =>
    by_cases e : a = m + 1
    · subst e
      exact Int.le_refl _
    · have := ih (by omega)
      have := R.up m
      omega
theorem IsRow.smono (R : IsRow k h p) {a b : Nat} (hab : a < b) : h a < h b := by
  have := R.up a
  have := R.mono (show a + 1 ≤ b from hab)
  omega
theorem IsRow.lt_of (R : IsRow k h p) {a b : Nat} (q : h a < h b) : a < b := by
  by_cases c : a < b
  · exact c
  · have := R.mono (show b ≤ a by omega)
    omega
theorem IsRow.inj (R : IsRow k h p) {a b : Nat} (q : h a = h b) : a = b := by
  rcases Nat.lt_trichotomy a b with c | c | c
  · have := R.smono c
    omega
  · exact c
  · have := R.smono c
    omega
theorem IsRow.big (R : IsRow k h p) : ∀ n : Nat, (n : Int) + 1 ≤ h n := by
  intro n
  induction n with
  | zero => rw [R.z]; omega
  | succ m ih =>
    have := R.up m
    omega
theorem kle (R : IsRow k h p) {a b : Int} (hab : a ≤ b) : k * a ≤ k * b := Int.mul_le_mul_of_nonneg_left hab (by have := R.k1; omega)
/-- what is less by the factor stands ahead of p -/
theorem IsRow.below (R : IsRow k h p) {i j : Nat} (q : k * h j < h i) : j < p i := by
  by_cases c : j < p i
  · exact c
  · have h1 := R.ge i
    have h2 := kle R (R.mono (show p i ≤ j by omega))
    omega
theorem IsRow.p_mono (R : IsRow k h p) (n : Nat) : p n ≤ p (n + 1) := by
  by_cases c : p n ≤ p (n + 1)
  · exact c
  · have h1 := R.lt n (p (n + 1)) (by omega)
    have h2 := R.ge (n + 1)
    have h3 := R.up n
    omega
/-! ### sums -/
def Gap (k : Int) : List Int → Prop
  | a :: b :: r => k * b < a ∧ Gap k (b :: r)
  | _ => True
def Of (h : Nat → Int) (l : List Int) : Prop := ∀ x ∈ l, ∃ i, x = h i
theorem Gap.tail {a : Int} {l : List Int} (g : Gap k (a :: l)) : Gap k l := by
  cases l with
  | nil => trivial
  | cons b r => exact g.2
theorem Gap.cons {a : Int} {l : List Int} (g : Gap k l) (q : ∀ b r, l = b :: r → k * b < a) : Gap k (a :: l) := by
  cases l with
  | nil => trivial
  | cons b r => exact ⟨q b r rfl, g⟩
theorem Of.tail {a : Int} {l : List Int} (o : Of h (a :: l)) : Of h l := fun x hx => o x (List.mem_cons_of_mem _ hx)
theorem sum_nonneg (R : IsRow k h p) : ∀ {l : List Int}, Of h l → 0 ≤ l.sum
  | [], _ => by simp
  | a :: r, o => by
    obtain ⟨i, e⟩ := o a List.mem_cons_self
    have := R.pos i
    have := sum_nonneg R o.tail
    rw [List.sum_cons]
    omega
/-- a sum is less than the step behind its first -/
theorem sum_lt (R : IsRow k h p) : ∀ {l : List Int} {i : Nat}, Gap k (h i :: l) → Of h l → l.sum < h (p i)
  | [], i, _, _ => by
    have := R.pos (p i)
    simp only [List.sum_nil]
    omega
  | b :: r, i, g, o => by
    obtain ⟨j, e⟩ := o b List.mem_cons_self
    subst e
    have hj : j < p i := R.below g.1
    have ih := sum_lt R (i := j) (l := r) g.2 o.tail
    have h1 := R.s j
    have h2 := R.mono (show j + 1 ≤ p i from hj)
    rw [List.sum_cons]
    omega
def greedy (h : Nat → Int) : Nat → Int → List Int
  | 0, _ => []
  | m + 1, n => if h m ≤ n then h m :: greedy h m (n - h m) else greedy h m n
theorem greedy_of : ∀ (m : Nat) (n : Int), Of h (greedy h m n) := by
  intro m
  induction m with
  | zero =>
    intro n x hx
    cases hx
  | succ m ih =>
    intro n x hx
    unfold greedy at hx
    split at hx
    · rcases List.mem_cons.mp hx with e | e
      · exact ⟨m, e⟩
      · exact ih _ x e
    · exact ih n x hx
theorem greedy_zero (R : IsRow k h p) : ∀ m, greedy h m 0 = [] := by
  intro m
  induction m with
  | zero => rfl
  | succ m ih =>
    unfold greedy
    have := R.pos m
    rw [if_neg (by omega)]
    exact ih
/-- the greedy sum comes to it, and is a sum -/
theorem greedy_ok (R : IsRow k h p) : ∀ (m : Nat) (n : Int), 0 ≤ n → n < h m → (greedy h m n).sum = n ∧ Gap k (greedy h m n) := by
  intro m
  induction m with
  | zero =>
    intro n h0 h1
    rw [R.z] at h1
    exact ⟨by show (0 : Int) = n; omega, trivial⟩
  | succ m ih =>
    intro n h0 h1
    unfold greedy
    split
    · rename_i c
      have hs := R.s m
      have hp := R.mono (R.le m)
      obtain ⟨a, b⟩ := ih (n - h m) (by omega) (by omega)
      refine ⟨by rw [List.sum_cons, a]; omega, b.cons fun x r e => ?_⟩
      obtain ⟨j, ej⟩ := greedy_of m (n - h m) x (by rw [e]; exact List.mem_cons_self)
      have hr : 0 ≤ r.sum := sum_nonneg R (l := r) fun y hy => greedy_of m (n - h m) y (by rw [e]; exact List.mem_cons_of_mem _ hy)
      rw [e, List.sum_cons] at a
      subst ej
      exact R.lt m j (R.lt_of (by omega))
    · rename_i c
      exact ih n h0 (by omega)
/-- there is no other -/
theorem greedy_uniq (R : IsRow k h p) : ∀ (m : Nat) (l : List Int), Gap k l → Of h l → l.sum < h m → l = greedy h m l.sum := by
  intro m
  induction m with
  | zero =>
    intro l g o q
    cases l with
    | nil => rfl
    | cons a r =>
      obtain ⟨i, e⟩ := o a List.mem_cons_self
      have := R.pos i
      have := sum_nonneg R o.tail
      rw [List.sum_cons, R.z] at q
      omega
  | succ m ih =>
    intro l g o q
    cases l with
    | nil =>
      show [] = greedy h (m + 1) 0
      rw [greedy_zero R]
    | cons a r =>
      obtain ⟨i, e⟩ := o a List.mem_cons_self
      subst e
      have h1 := sum_lt R g o.tail
      have h2 := R.s i
      have h3 := sum_nonneg R o.tail
      rw [List.sum_cons] at q
      have h4 : i < m + 1 := R.lt_of (by omega)
      unfold greedy
      by_cases c : i = m
      · subst c
        have h5 := R.mono (R.le i)
        rw [List.sum_cons, if_pos (by omega)]
        have e2 : h i + r.sum - h i = r.sum := by omega
        rw [e2, ← ih r g.tail o.tail (by omega)]
      · have h5 := R.mono (show i + 1 ≤ m by omega)
        rw [List.sum_cons, if_neg (by omega)]
        rw [← List.sum_cons]
        exact ih _ g o (by rw [List.sum_cons]; omega)
/-! ### growth -/
theorem IsRow.grow1 (R : IsRow k h p) (n : Nat) : ∀ m : Nat, (k + m) * h n ≤ k * h (n + m) := by
  intro m
  induction m with
  | zero => simp
  | succ m ih =>
    have h1 := R.s (n + m)
    have h2 := R.ge (n + m)
    have h3 := R.mono (show n ≤ n + m by omega)
    have e1 : (k + ((m + 1 : Nat) : Int)) * h n = (k + m) * h n + h n := by
      rw [show (k + ((m + 1 : Nat) : Int)) = (k + m) + 1 by omega, Int.add_mul, Int.one_mul]
    have e2 : k * h (n + m + 1) = k * h (n + m) + k * h (p (n + m)) := by rw [h1, Int.mul_add]
    show (k + ((m + 1 : Nat) : Int)) * h n ≤ k * h (n + m + 1)
    omega
theorem IsRow.dbl (R : IsRow k h p) (n : Nat) : 2 * h n ≤ h (n + k.toNat) := by
  have h1 := R.k1
  have g := R.grow1 n k.toNat
  have e : (k + (k.toNat : Int)) = k * 2 := by omega
  rw [e, Int.mul_assoc] at g
  exact Int.le_of_mul_le_mul_left g (by omega)
theorem IsRow.pow (R : IsRow k h p) : ∀ m : Nat, (2 : Int) ^ m ≤ h (k.toNat * m) := by
  intro m
  induction m with
  | zero =>
    rw [Nat.mul_zero, R.z]
    simp
  | succ m ih =>
    have g := R.dbl (k.toNat * m)
    rw [Int.pow_succ, Nat.mul_succ]
    omega
/-- how many steps there may be up to a number -/
theorem IsRow.few (R : IsRow k h p) {N B : Nat} (hk : k ≤ 30) (q : ∀ i, i < N → h i < 2 ^ B) : N ≤ 30 * B := by
  by_cases c : N ≤ 30 * B
  · exact c
  · have h1 := q (30 * B) (by omega)
    have h2 := R.pow B
    have h3 := R.mono (show k.toNat * B ≤ 30 * B from Nat.mul_le_mul_right B (by have := R.k1; omega))
    omega
end
/-! ### the row as it is made -/
def adv (k : Int) (l : List Int) : Nat := l.findIdx fun y => decide (l.getLastD 0 ≤ k * y)
def nxt (k : Int) (l : List Int) : List Int := l ++ [l.getLastD 0 + l.getD (adv k l) 0]
def row (k : Int) : Nat → List Int
  | 0 => [1]
  | n + 1 => nxt k (row k n)
def h (k : Int) (n : Nat) : Int := (row k n).getLastD 0
def p (k : Int) (n : Nat) : Nat := adv k (row k n)
theorem row_len (k : Int) : ∀ n, (row k n).length = n + 1
  | 0 => rfl
  | n + 1 => by
    show (nxt k (row k n)).length = n + 1 + 1
    unfold nxt
    rw [List.length_append, row_len k n]
    rfl
theorem row_succ (k : Int) (n : Nat) : row k (n + 1) = row k n ++ [h k (n + 1)] := by
  show nxt k (row k n) = row k n ++ [(nxt k (row k n)).getLastD 0]
  unfold nxt
  rw [List.getLastD_concat]
theorem row_get (k : Int) : ∀ n i, i ≤ n → (row k n)[i]? = some (h k i)
  | 0, i, hi => by
    have e : i = 0 := by omega
    subst e
    rfl
  | n + 1, i, hi => by
    rw [row_succ]
    by_cases c : i = n + 1
    · subst c
      rw [List.getElem?_append_right (by rw [row_len]; exact Nat.le_refl _), row_len, Nat.sub_self]
      rfl
    · rw [List.getElem?_append_left (by rw [row_len]; omega)]
      exact row_get k n i (by omega)
theorem row_getD (k : Int) {n i : Nat} (hi : i ≤ n) : (row k n).getD i 0 = h k i := by
  rw [List.getD_eq_getElem?_getD, row_get k n i hi]
  rfl
theorem row_map (k : Int) (n : Nat) : row k n = (List.range (n + 1)).map (h k) := by
  apply List.ext_getElem?
  intro i
  by_cases c : i ≤ n
  · rw [row_get k n i c, List.getElem?_map, List.getElem?_range (by omega)]
    rfl
  · rw [List.getElem?_eq_none_iff.mpr (by rw [row_len]; omega), List.getElem?_eq_none_iff.mpr (by rw [List.length_map, List.length_range]; omega)]
theorem isRow {k : Int} (hk : 1 ≤ k) : IsRow k (h k) (p k) := by
  have step : ∀ n, (∀ i, i ≤ n → 1 ≤ h k i) → p k n ≤ n ∧ h k n ≤ k * h k (p k n) ∧ (∀ i, i < p k n → k * h k i < h k n) ∧ h k (n + 1) = h k n + h k (p k n) := by
    intro n hp
    have hpos := hp n (Nat.le_refl _)
    have ex : ∃ x ∈ row k n, (fun y => decide ((row k n).getLastD 0 ≤ k * y)) x = true := by
      refine ⟨h k n, List.mem_of_getElem? (row_get k n n (Nat.le_refl _)), decide_eq_true ?_⟩
      show h k n ≤ k * h k n
      have := Int.mul_le_mul_of_nonneg_right hk (show 0 ≤ h k n by omega)
      omega
    have hlt : p k n < (row k n).length := List.findIdx_lt_length_of_exists ex
    have hle : p k n ≤ n := by
      rw [row_len] at hlt
      omega
    have hget : (row k n)[p k n] = h k (p k n) := by
      have := row_get k n _ hle
      rw [List.getElem?_eq_getElem hlt] at this
      exact Option.some.inj this
    refine ⟨hle, ?_, ?_, ?_⟩
    · have := List.findIdx_getElem (xs := row k n) (p := fun y => decide ((row k n).getLastD 0 ≤ k * y)) (w := hlt)
      have := of_decide_eq_true this
      change h k n ≤ k * (row k n)[p k n] at this
      rw [hget] at this
      exact this
    · intro i hi
      have hil : i < (row k n).length := Nat.lt_trans hi hlt
      have := List.not_of_lt_findIdx (xs := row k n) (p := fun y => decide ((row k n).getLastD 0 ≤ k * y)) hi
      have hg : (row k n)[i] = h k i := by
        have := row_get k n i (by omega)
        rw [List.getElem?_eq_getElem hil] at this
        exact Option.some.inj this
      have h2 : ¬ h k n ≤ k * (row k n)[i] := fun c => by
        have c2 : decide ((row k n).getLastD 0 ≤ k * (row k n)[i]) = true := decide_eq_true c
        simp_all
        omega
      rw [hg] at h2
      omega
    · show (nxt k (row k n)).getLastD 0 = h k n + h k (p k n)
      unfold nxt
      rw [List.getLastD_concat]
      show h k n + (row k n).getD (p k n) 0 = _
      rw [row_getD k hle]
  have pos : ∀ n, 1 ≤ h k n := by
    intro n
    induction n using Nat.strongRecOn with
    | _ n ih =>
      cases n with
      | zero => exact Int.le_refl _
      | succ m =>
        have hm : ∀ i, i ≤ m → 1 ≤ h k i := fun i hi => ih i (by omega)
        obtain ⟨a, _, _, b⟩ := step m hm
        have := hm m (Nat.le_refl _)
        have := hm _ a
        rw [b]
        omega
  exact ⟨hk, rfl, fun n => (step n fun i _ => pos i).2.2.2, fun n => (step n fun i _ => pos i).1, fun n => (step n fun i _ => pos i).2.1, fun n i q => (step n fun i _ => pos i).2.2.1 i q⟩
/-! ### the sum that comes to a heap -/
def parts (k n : Int) : List Int := greedy (h k) n.toNat n
theorem lt_h {k : Int} (hk : 1 ≤ k) {n : Int} (hn : 0 ≤ n) : n < h k n.toNat := by
  have := (isRow hk).big n.toNat
  omega
theorem parts_of {k : Int} (hk : 1 ≤ k) {n : Int} : Of (h k) (parts k n) := greedy_of _ _
theorem parts_sum {k : Int} (hk : 1 ≤ k) {n : Int} (hn : 0 ≤ n) : (parts k n).sum = n := (greedy_ok (isRow hk) _ _ hn (lt_h hk hn)).1
theorem parts_gap {k : Int} (hk : 1 ≤ k) {n : Int} (hn : 0 ≤ n) : Gap k (parts k n) := (greedy_ok (isRow hk) _ _ hn (lt_h hk hn)).2
theorem parts_uniq {k : Int} (hk : 1 ≤ k) {l : List Int} (g : Gap k l) (o : Of (h k) l) : parts k l.sum = l :=
  (greedy_uniq (isRow hk) _ l g o (lt_h hk (sum_nonneg (isRow hk) o))).symm
theorem greedy_parts {k : Int} (hk : 1 ≤ k) {n : Int} {m : Nat} (hn : 0 ≤ n) (hm : n < h k m) : greedy (h k) m n = parts k n := by
  obtain ⟨a, b⟩ := greedy_ok (isRow hk) m n hn hm
  have := parts_uniq hk b (greedy_of m n)
  rw [a] at this
  exact this.symm
theorem parts_zero {k : Int} : parts k 0 = [] := rfl
theorem parts_nil {k : Int} (hk : 1 ≤ k) {n : Int} (hn : 0 ≤ n) (e : parts k n = []) : n = 0 := by
  have := parts_sum hk hn
  rw [e] at this
  exact this.symm
theorem parts_pos {k : Int} (hk : 1 ≤ k) {n x : Int} (hx : x ∈ parts k n) : 1 ≤ x := by
  obtain ⟨i, e⟩ := parts_of hk x hx
  rw [e]
  exact (isRow hk).pos i
theorem mem_le : ∀ {l : List Int} {x : Int}, (∀ y ∈ l, 0 ≤ y) → x ∈ l → x ≤ l.sum
  | a :: r, x, hp, hx => by
    have hr : 0 ≤ r.sum := by
      clear hx
      have hp2 : ∀ y ∈ r, 0 ≤ y := fun y hy => hp y (List.mem_cons_of_mem _ hy)
      clear hp
      induction r with
      | nil => simp
      | cons b r ih =>
        have h1 := hp2 b List.mem_cons_self
        have h2 := ih fun y hy => hp2 y (List.mem_cons_of_mem _ hy)
        rw [List.sum_cons]
        omega
    have ha := hp a List.mem_cons_self
    rw [List.sum_cons]
    rcases List.mem_cons.mp hx with e | e
    · omega
    · have := mem_le (l := r) (fun y hy => hp y (List.mem_cons_of_mem _ hy)) e
      omega
theorem parts_le {k : Int} (hk : 1 ≤ k) {n x : Int} (hn : 0 ≤ n) (hx : x ∈ parts k n) : x ≤ n := by
  have := mem_le (l := parts k n) (fun y hy => by have := parts_pos hk hy; omega) hx
  rwa [parts_sum hk hn] at this
/-! ### who wins -/
def lost (k n L : Int) : Bool := match (parts k n).getLast? with
  | none => true
  | some x => decide (L < x)
theorem lost_nil {k n L : Int} (e : parts k n = []) : lost k n L = true := by
  unfold lost
  rw [e]
  rfl
theorem lost_some {k n L x : Int} (e : (parts k n).getLast? = some x) : lost k n L = decide (L < x) := by
  unfold lost
  rw [e]
theorem Gap.init {k : Int} : ∀ {l : List Int} {x : Int}, Gap k (l ++ [x]) → Gap k l
  | [], _, _ => trivial
  | [_], _, _ => trivial
  | a :: b :: r, x, g => ⟨g.1, Gap.init (l := b :: r) g.2⟩
theorem Gap.last {k : Int} : ∀ {l : List Int} {y x : Int}, Gap k (l ++ [y] ++ [x]) → k * x < y
  | [], _, _, g => g.1
  | [_], _, _, g => g.2.1
  | a :: b :: r, y, x, g => Gap.last (l := b :: r) g.2
theorem Gap.app {k : Int} : ∀ {l r : List Int}, Gap k l → Gap k r → (∀ y x t, l.getLast? = some y → r = x :: t → k * x < y) → Gap k (l ++ r)
  | [], r, _, g2, _ => g2
  | [a], r, _, g2, q => g2.cons fun b t e => q a b t rfl e
  | a :: b :: l, r, g1, g2, q => ⟨g1.1, Gap.app (l := b :: l) g1.2 g2 fun y x t e e2 => q y x t (by rw [List.getLast?_cons_cons]; exact e) e2⟩
theorem sum_app (l r : List Int) : (l ++ r).sum = l.sum + r.sum := List.sum_append
theorem Of.app {h : Nat → Int} {l r : List Int} (a : Of h l) (b : Of h r) : Of h (l ++ r) := fun x hx => (List.mem_append.mp hx).elim (a x) (b x)
/-- the last part taken away -/
theorem parts_less {k : Int} (hk : 1 ≤ k) {n x : Int} {l : List Int} (hn : 0 ≤ n) (e : parts k n = l ++ [x]) : parts k (n - x) = l ∧ 1 ≤ x ∧ x ≤ n := by
  have hs := parts_sum hk hn
  have hg := parts_gap hk hn
  have ho := parts_of hk (n := n)
  have hx : x ∈ parts k n := by rw [e]; exact List.mem_append_right _ List.mem_cons_self
  have h1 := parts_pos hk hx
  have h2 := parts_le hk hn hx
  rw [e] at hs hg ho
  rw [sum_app, List.sum_cons, List.sum_nil] at hs
  have := parts_uniq hk hg.init fun y hy => ho y (List.mem_append_left _ hy)
  rw [show l.sum = n - x by omega] at this
  exact ⟨this, h1, h2⟩
theorem lost_less {k : Int} (hk : 1 ≤ k) {n x : Int} (hn : 0 ≤ n) (e : (parts k n).getLast? = some x) : lost k (n - x) (k * x) = true ∧ 1 ≤ x ∧ x ≤ n := by
  obtain ⟨l, e2⟩ : ∃ l, parts k n = l ++ [x] := List.getLast?_eq_some_iff.mp e
  obtain ⟨a, b, c⟩ := parts_less hk hn e2
  refine ⟨?_, b, c⟩
  cases q : l.getLast? with
  | none =>
    have : l = [] := List.getLast?_eq_none_iff.mp q
    exact lost_nil (by rw [a, this])
  | some y =>
    rw [lost_some (x := y) (by rw [a]; exact q)]
    obtain ⟨l2, e3⟩ := List.getLast?_eq_some_iff.mp q
    have hg := parts_gap hk hn
    rw [e2, e3] at hg
    exact decide_eq_true hg.last
/-- from a lost one no taking leads to a lost one -/
theorem lost_taking {k : Int} (hk : 1 ≤ k) {n L t : Int} (hn : 0 ≤ n) (hl : lost k n L = true) (h1 : 1 ≤ t) (h2 : t ≤ n) (h3 : t ≤ L) : lost k (n - t) (k * t) = false := by
  have R := isRow hk
  cases q : (parts k n).getLast? with
  | none =>
    have e : parts k n = [] := List.getLast?_eq_none_iff.mp q
    have := parts_nil hk hn e
    omega
  | some x =>
    obtain ⟨l, e⟩ := List.getLast?_eq_some_iff.mp q
    rw [lost_some q] at hl
    have hlx := of_decide_eq_true hl
    obtain ⟨a, b, c⟩ := parts_less hk hn e
    have hg := parts_gap hk hn
    have ho := parts_of hk (n := n)
    rw [e] at hg ho
    -- what is left of the last part
    have r0 : 0 ≤ x - t := by omega
    have rs := parts_sum hk r0
    have rg := parts_gap hk r0
    have ro := parts_of hk (n := x - t)
    have rne : parts k (x - t) ≠ [] := fun z => by
      have := parts_nil hk r0 z
      omega
    have all : parts k (n - t) = l ++ parts k (x - t) := by
      have hgap : Gap k (l ++ parts k (x - t)) := hg.init.app rg fun y z t' el er => by
        obtain ⟨l2, e3⟩ := List.getLast?_eq_some_iff.mp el
        rw [e3] at hg
        have h4 := hg.last
        have h5 := parts_le hk r0 (x := z) (by rw [er]; exact List.mem_cons_self)
        have h6 := kle R (show z ≤ x by omega)
        omega
      have := parts_uniq hk hgap (Of.app (fun y hy => ho y (List.mem_append_left _ hy)) ro)
      rw [sum_app, rs] at this
      have ls : l.sum = n - x := by
        have := parts_sum hk (show 0 ≤ n - x by omega)
        rwa [a] at this
      rw [show l.sum + (x - t) = n - t by omega] at this
      exact this
    obtain ⟨y, hy⟩ : ∃ y, (parts k (x - t)).getLast? = some y := by
      cases q2 : (parts k (x - t)).getLast? with
      | none => exact absurd (List.getLast?_eq_none_iff.mp q2) rne
      | some y => exact ⟨y, rfl⟩
    have hlast : (parts k (n - t)).getLast? = some y := by
      rw [all, List.getLast?_append, hy]
      rfl
    rw [lost_some hlast]
    apply decide_eq_false
    intro bad
    -- else the last part would have two sums
    have ts := parts_sum hk (show 0 ≤ t by omega)
    have tg := parts_gap hk (show 0 ≤ t by omega)
    have hgap : Gap k (parts k (x - t) ++ parts k t) := rg.app tg fun y' z t' el er => by
      rw [hy] at el
      cases el
      have h5 := parts_le hk (show 0 ≤ t by omega) (x := z) (by rw [er]; exact List.mem_cons_self)
      have h6 := kle R h5
      omega
    have u := parts_uniq hk hgap (Of.app ro (parts_of hk))
    rw [sum_app, rs, ts, show x - t + t = x by omega] at u
    obtain ⟨i, ei⟩ := ho x (List.mem_append_right _ List.mem_cons_self)
    have v := parts_uniq hk (l := [x]) trivial (fun y' hy' => ⟨i, by rw [List.mem_singleton.mp hy', ei]⟩)
    rw [List.sum_cons, List.sum_nil, Int.add_zero] at v
    rw [v] at u
    have hlen : ([x] : List Int).length = (parts k (x - t)).length + (parts k t).length := by
      rw [← List.length_append, ← u]
    have n1 : (parts k (x - t)).length ≠ 0 := fun z => rne (List.length_eq_zero_iff.mp z)
    have n2 : (parts k t).length ≠ 0 := fun z => by
      have := parts_nil hk (show 0 ≤ t by omega) (List.length_eq_zero_iff.mp z)
      omega
    have : ([x] : List Int).length = 1 := rfl
    omega
/-- who is to take can win just where the last part is no more than the limit -/
theorem not_lost {k : Int} {n L x : Int} (e : (parts k n).getLast? = some x) : lost k n L = false ↔ x ≤ L := by
  rw [lost_some e]
  constructor
  · intro q
    have := of_decide_eq_false q
    omega
  · intro q
    exact decide_eq_false (by omega)
theorem lost_zero {k L : Int} : lost k 0 L = true := rfl
end TA
namespace Tx
open PySem PySem.Spec PyProof.Rows L2 Tk
/-! ### the text by places -/
def topS (i : Nat) : Stmt := PySem.Challenge.pw_takeagain_k03_tried.main.body.getD i (.Pass ⟨0, 0, 0, 0⟩)
abbrev s__wall : Stmt := topS 0
abbrev s_is_whole : Stmt := topS 8
abbrev s_check_factor : Stmt := topS 9
abbrev s_check_heap : Stmt := topS 10
abbrev s_Steps_init : Stmt := inClass (topS 11) 0
abbrev s_Steps_more : Stmt := inClass (topS 11) 1
abbrev s_steps_to : Stmt := topS 12
abbrev s_parts_of : Stmt := topS 13
abbrev s_Lost_init : Stmt := inClass (topS 16) 0
abbrev s_Lost_shows : Stmt := inClass (topS 16) 1
abbrev s_Won_init : Stmt := inClass (topS 17) 0
abbrev s_Won_shows : Stmt := inClass (topS 17) 1
abbrev s_check_all : Stmt := topS 19
abbrev s_told : Stmt := topS 20
abbrev s__law_cell_at : Stmt := topS 22
abbrev s__law_draw : Stmt := topS 23
abbrev s__law_won : Stmt := topS 24
abbrev s__law_right : Stmt := topS 25
abbrev s_law : Stmt := topS 26
abbrev n_is_whole : List Str := ["thing"]
theorem sc_is_whole : FnScope ["thing"] ["thing"] (defScope s_is_whole) := ⟨rfl, rfl, rfl, by decide +kernel, rfl, by decide +kernel, by decide +kernel⟩
abbrev n_check_factor : List Str := ["factor"]
theorem sc_check_factor : FnScope ["factor"] ["factor"] (defScope s_check_factor) := ⟨rfl, rfl, rfl, by decide +kernel, rfl, by decide +kernel, by decide +kernel⟩
abbrev n_check_heap : List Str := ["heap"]
theorem sc_check_heap : FnScope ["heap"] ["heap"] (defScope s_check_heap) := ⟨rfl, rfl, rfl, by decide +kernel, rfl, by decide +kernel, by decide +kernel⟩
abbrev n_Steps_init : List Str := ["self", "factor"]
theorem sc_Steps_init : FnScope ["self", "factor"] ["self", "factor"] (defScope s_Steps_init) := ⟨rfl, rfl, rfl, by decide +kernel, rfl, by decide +kernel, by decide +kernel⟩
abbrev n_Steps_more : List Str := ["self"]
theorem sc_Steps_more : FnScope ["self"] ["self"] (defScope s_Steps_more) := ⟨rfl, rfl, rfl, by decide +kernel, rfl, by decide +kernel, by decide +kernel⟩
abbrev n_steps_to : List Str := ["factor", "number", "steps"]
theorem sc_steps_to : FnScope ["factor", "number", "steps"] ["factor", "number"] (defScope s_steps_to) := ⟨rfl, rfl, rfl, by decide +kernel, rfl, by decide +kernel, by decide +kernel⟩
abbrev n_parts_of : List Str := ["factor", "heap", "found", "step"]
theorem sc_parts_of : FnScope ["factor", "heap", "found", "step"] ["factor", "heap"] (defScope s_parts_of) := ⟨rfl, rfl, rfl, by decide +kernel, rfl, by decide +kernel, by decide +kernel⟩
abbrev n_Lost_init : List Str := ["self", "parts"]
theorem sc_Lost_init : FnScope ["self", "parts"] ["self", "parts"] (defScope s_Lost_init) := ⟨rfl, rfl, rfl, by decide +kernel, rfl, by decide +kernel, by decide +kernel⟩
abbrev n_Won_init : List Str := ["self", "taking"]
theorem sc_Won_init : FnScope ["self", "taking"] ["self", "taking"] (defScope s_Won_init) := ⟨rfl, rfl, rfl, by decide +kernel, rfl, by decide +kernel, by decide +kernel⟩
abbrev n_check_all : List Str := ["factor", "heap", "limit"]
theorem sc_check_all : FnScope ["factor", "heap", "limit"] ["factor", "heap", "limit"] (defScope s_check_all) := ⟨rfl, rfl, rfl, by decide +kernel, rfl, by decide +kernel, by decide +kernel⟩
abbrev n_told : List Str := ["factor", "heap", "limit", "parts"]
theorem sc_told : FnScope ["factor", "heap", "limit", "parts"] ["factor", "heap", "limit"] (defScope s_told) := ⟨rfl, rfl, rfl, by decide +kernel, rfl, by decide +kernel, by decide +kernel⟩
abbrev n__law_cell_at : List Str := ["_law_script", "_law_k"]
theorem sc__law_cell_at : FnScope ["_law_script", "_law_k"] ["_law_script", "_law_k"] (defScope s__law_cell_at) := ⟨rfl, rfl, rfl, by decide +kernel, rfl, by decide +kernel, by decide +kernel⟩
abbrev n__law_draw : List Str := ["_law_cell", "_law_k", "_law_many", "_law_primes"]
theorem sc__law_draw : FnScope ["_law_cell", "_law_k", "_law_many", "_law_primes"] ["_law_cell", "_law_k", "_law_many"] (defScope s__law_draw) := ⟨rfl, rfl, rfl, by decide +kernel, rfl, by decide +kernel, by decide +kernel⟩
abbrev n__law_won : List Str := ["_law_factor", "_law_most", "_law_found", "_law_heap", "_law_limit", "_law_good"]
theorem sc__law_won : FnScope ["_law_factor", "_law_most", "_law_found", "_law_heap", "_law_limit", "_law_good"] ["_law_factor", "_law_most"] (defScope s__law_won) := ⟨rfl, rfl, rfl, by decide +kernel, rfl, by decide +kernel, by decide +kernel⟩
abbrev n__law_right : List Str := ["_law_factor", "_law_most", "_law_won_here", "_law_heap", "_law_limit", "_law_found"]
theorem sc__law_right : FnScope ["_law_factor", "_law_most", "_law_won_here", "_law_heap", "_law_limit", "_law_found"] ["_law_factor", "_law_most"] (defScope s__law_right) := ⟨rfl, rfl, rfl, by decide +kernel, rfl, by decide +kernel, by decide +kernel⟩
abbrev n_law : List Str := ["_law_script", "_law_cell"]
theorem sc_law : FnScope ["_law_script", "_law_cell"] ["_law_script"] (defScope s_law) := ⟨rfl, rfl, rfl, by decide +kernel, rfl, by decide +kernel, by decide +kernel⟩
theorem bd_is_whole {K : PySem.W.Frag} {f : Addr} {fd : FuncData} (F : Fun K "is_whole" "is_whole" s_is_whole f fd) : Binds K fd ["thing"] [] := F.binds (ps := ["thing"]) fun _ _ _ _ _ _ us hl => match us, hl with | [_], _ => rfl
theorem bd_check_factor {K : PySem.W.Frag} {f : Addr} {fd : FuncData} (F : Fun K "check_factor" "check_factor" s_check_factor f fd) : Binds K fd ["factor"] [] := F.binds (ps := ["factor"]) fun _ _ _ _ _ _ us hl => match us, hl with | [_], _ => rfl
theorem bd_check_heap {K : PySem.W.Frag} {f : Addr} {fd : FuncData} (F : Fun K "check_heap" "check_heap" s_check_heap f fd) : Binds K fd ["heap"] [] := F.binds (ps := ["heap"]) fun _ _ _ _ _ _ us hl => match us, hl with | [_], _ => rfl
theorem bd_Steps_init {K : PySem.W.Frag} {f : Addr} {fd : FuncData} (F : Fun K "__init__" "Steps.__init__" s_Steps_init f fd) : Binds K fd ["self", "factor"] [] := F.binds (ps := ["self", "factor"]) fun _ _ _ _ _ _ us hl => match us, hl with | [_, _], _ => rfl
theorem bd_Steps_more {K : PySem.W.Frag} {f : Addr} {fd : FuncData} (F : Fun K "more" "Steps.more" s_Steps_more f fd) : Binds K fd ["self"] [] := F.binds (ps := ["self"]) fun _ _ _ _ _ _ us hl => match us, hl with | [_], _ => rfl
theorem bd_steps_to {K : PySem.W.Frag} {f : Addr} {fd : FuncData} (F : Fun K "steps_to" "steps_to" s_steps_to f fd) : Binds K fd ["factor", "number"] [] := F.binds (ps := ["factor", "number"]) fun _ _ _ _ _ _ us hl => match us, hl with | [_, _], _ => rfl
theorem bd_parts_of {K : PySem.W.Frag} {f : Addr} {fd : FuncData} (F : Fun K "parts_of" "parts_of" s_parts_of f fd) : Binds K fd ["factor", "heap"] [] := F.binds (ps := ["factor", "heap"]) fun _ _ _ _ _ _ us hl => match us, hl with | [_, _], _ => rfl
theorem bd_Lost_init {K : PySem.W.Frag} {f : Addr} {fd : FuncData} (F : Fun K "__init__" "Lost.__init__" s_Lost_init f fd) : Binds K fd ["self", "parts"] [] := F.binds (ps := ["self", "parts"]) fun _ _ _ _ _ _ us hl => match us, hl with | [_, _], _ => rfl
theorem bd_Won_init {K : PySem.W.Frag} {f : Addr} {fd : FuncData} (F : Fun K "__init__" "Won.__init__" s_Won_init f fd) : Binds K fd ["self", "taking"] [] := F.binds (ps := ["self", "taking"]) fun _ _ _ _ _ _ us hl => match us, hl with | [_, _], _ => rfl
theorem bd_check_all {K : PySem.W.Frag} {f : Addr} {fd : FuncData} (F : Fun K "check_all" "check_all" s_check_all f fd) : Binds K fd ["factor", "heap", "limit"] [] := F.binds (ps := ["factor", "heap", "limit"]) fun _ _ _ _ _ _ us hl => match us, hl with | [_, _, _], _ => rfl
theorem bd_told {K : PySem.W.Frag} {f : Addr} {fd : FuncData} (F : Fun K "told" "told" s_told f fd) : Binds K fd ["factor", "heap", "limit"] [] := F.binds (ps := ["factor", "heap", "limit"]) fun _ _ _ _ _ _ us hl => match us, hl with | [_, _, _], _ => rfl
theorem bd__law_cell_at {K : PySem.W.Frag} {f : Addr} {fd : FuncData} (F : Fun K "_law_cell_at" "_law_cell_at" s__law_cell_at f fd) : Binds K fd ["_law_script", "_law_k"] [] := F.binds (ps := ["_law_script", "_law_k"]) fun _ _ _ _ _ _ us hl => match us, hl with | [_, _], _ => rfl
theorem bd__law_draw {K : PySem.W.Frag} {f : Addr} {fd : FuncData} (F : Fun K "_law_draw" "_law_draw" s__law_draw f fd) : Binds K fd ["_law_cell", "_law_k", "_law_many"] [] := F.binds (ps := ["_law_cell", "_law_k", "_law_many"]) fun _ _ _ _ _ _ us hl => match us, hl with | [_, _, _], _ => rfl
theorem bd__law_won {K : PySem.W.Frag} {f : Addr} {fd : FuncData} (F : Fun K "_law_won" "_law_won" s__law_won f fd) : Binds K fd ["_law_factor", "_law_most"] [] := F.binds (ps := ["_law_factor", "_law_most"]) fun _ _ _ _ _ _ us hl => match us, hl with | [_, _], _ => rfl
theorem bd__law_right {K : PySem.W.Frag} {f : Addr} {fd : FuncData} (F : Fun K "_law_right" "_law_right" s__law_right f fd) : Binds K fd ["_law_factor", "_law_most"] [] := F.binds (ps := ["_law_factor", "_law_most"]) fun _ _ _ _ _ _ us hl => match us, hl with | [_, _], _ => rfl
theorem bd_law {K : PySem.W.Frag} {f : Addr} {fd : FuncData} (F : Fun K "law" "law" s_law f fd) : Binds K fd ["_law_script"] [] := F.binds (ps := ["_law_script"]) fun _ _ _ _ _ _ us hl => match us, hl with | [_], _ => rfl
structure Txt (K : PySem.W.Frag) (mg : Str → Option Value) (CSteps CLost CWon : Addr) : Prop where
  D_is_whole : Dfn K mg "is_whole" s_is_whole
  D_check_factor : Dfn K mg "check_factor" s_check_factor
  D_check_heap : Dfn K mg "check_heap" s_check_heap
  D_steps_to : Dfn K mg "steps_to" s_steps_to
  D_parts_of : Dfn K mg "parts_of" s_parts_of
  D_check_all : Dfn K mg "check_all" s_check_all
  D_told : Dfn K mg "told" s_told
  D__law_cell_at : Dfn K mg "_law_cell_at" s__law_cell_at
  D__law_draw : Dfn K mg "_law_draw" s__law_draw
  D__law_won : Dfn K mg "_law_won" s__law_won
  D__law_right : Dfn K mg "_law_right" s__law_right
  e_Steps : mg "Steps" = some (.ref CSteps)
  mk_Steps : PySem.W.makesIn K CSteps = true
  kp_Steps : PySem.W.keepIn K (.ref CSteps) = true
  cl_Steps : Cls K CSteps
  n_Steps_factor : NoAttr K CSteps "factor"
  n_Steps_made : NoAttr K CSteps "made"
  n_Steps_least : NoAttr K CSteps "least"
  D_Steps_init : Mdf K CSteps "__init__" "Steps.__init__" s_Steps_init
  D_Steps_more : Mdf K CSteps "more" "Steps.more" s_Steps_more
  e_Lost : mg "Lost" = some (.ref CLost)
  mk_Lost : PySem.W.makesIn K CLost = true
  kp_Lost : PySem.W.keepIn K (.ref CLost) = true
  cl_Lost : Cls K CLost
  n_Lost_parts : NoAttr K CLost "parts"
  D_Lost_init : Mdf K CLost "__init__" "Lost.__init__" s_Lost_init
  e_Won : mg "Won" = some (.ref CWon)
  mk_Won : PySem.W.makesIn K CWon = true
  kp_Won : PySem.W.keepIn K (.ref CWon) = true
  cl_Won : Cls K CWon
  n_Won_taking : NoAttr K CWon "taking"
  D_Won_init : Mdf K CWon "__init__" "Won.__init__" s_Won_init
  b_range : mg "range" = none
  b_isinstance : mg "isinstance" = none
  b_int : mg "int" = none
  b_list : mg "list" = none
  b_len : mg "len" = none
  b_bool : mg "bool" = none
  b_min : mg "min" = none
  hn_ : PySem.W.specialIn K (.builtin "object.__class__") "__get__" = some (some (.builtin "getset_descriptor.__get__"))
  htk_ : PySem.W.takesIn K (.builtin "object.__class__") = some true
  hc_Lost : PySem.W.findIn K (.ref CLost) "__class__" = some (some (.builtin "object.__class__"))
  hm_Lost : PySem.W.mroIn K CLost (.type "object") = some true
  kt_Lost_Won : PySem.W.kitOne K (.ref CLost) (.ref CWon) = some false
  kt_Lost_Lost : PySem.W.kitOne K (.ref CLost) (.ref CLost) = some true
  hc_Won : PySem.W.findIn K (.ref CWon) "__class__" = some (some (.builtin "object.__class__"))
  hm_Won : PySem.W.mroIn K CWon (.type "object") = some true
  kt_Won_Won : PySem.W.kitOne K (.ref CWon) (.ref CWon) = some true
  kt_Won_Lost : PySem.W.kitOne K (.ref CWon) (.ref CLost) = some false
  m_GREATEST : ∃ t, mg "GREATEST" = some (.int 30 t)
theorem Txt.tyLost {K : PySem.W.Frag} {mg : Str → Option Value} {CSteps CLost CWon a dx : Addr} {H : Hp} {fs : List (Str × V)} (T : Txt K mg CSteps CLost CWon) (e : H a = some (.ins CLost dx fs)) : TyX K H (.ref a) (.ref CLost) := .base (.ins e T.cl_Lost T.hc_Lost T.hn_ T.htk_ T.hm_Lost)
theorem Txt.tyWon {K : PySem.W.Frag} {mg : Str → Option Value} {CSteps CLost CWon a dx : Addr} {H : Hp} {fs : List (Str × V)} (T : Txt K mg CSteps CLost CWon) (e : H a = some (.ins CWon dx fs)) : TyX K H (.ref a) (.ref CWon) := .base (.ins e T.cl_Won T.hc_Won T.hn_ T.htk_ T.hm_Won)
end Tx
namespace TA
/-- where the search for the next least stands behind n steps -/
def q (k : Int) : Nat → Nat
  | 0 => 0
  | n + 1 => p k n
theorem q_le {k : Int} (hk : 1 ≤ k) : ∀ n, q k n ≤ p k n
  | 0 => Nat.zero_le _
  | n + 1 => (isRow hk).p_mono n
end TA
namespace Tx
open PySem PySem.Spec PyProof.Rows L2 Tk TA
/-! ### fields -/
theorem putF_idem (f : Str) (v u : V) : ∀ fs : List (Str × V), putF f v (putF f u fs) = putF f v fs
  | [] => by
    show (if f = f then _ else _) = _
    rw [if_pos rfl]
    all_goals rfl
  | (g, x) :: r => by
    have ih := putF_idem f v u r
    by_cases h : g = f
    · show putF f v (if g = f then (g, u) :: r else (g, x) :: putF f u r) = (if g = f then (g, v) :: r else (g, x) :: putF f v r)
      rw [if_pos h, if_pos h]
      show (if g = f then (g, v) :: r else (g, u) :: putF f v r) = (g, v) :: r
      rw [if_pos h]
    · show putF f v (if g = f then (g, u) :: r else (g, x) :: putF f u r) = (if g = f then (g, v) :: r else (g, x) :: putF f v r)
      rw [if_neg h, if_neg h]
      show (if g = f then (g, v) :: putF f u r else (g, x) :: putF f v (putF f u r)) = _
      rw [if_neg h, ih]
def fS (k : Int) (l : Addr) (n : Int) : List (Str × V) := putF "least" (.int n) (putF "made" (.ref l) (putF "factor" (.int k) []))
theorem fS_factor (k : Int) (l : Addr) (n : Int) : (fS k l n).lookup ("factor" : Str) = some (.int k) := by
  unfold fS
  rw [lookup_putF, if_neg (by decide +kernel), lookup_putF, if_neg (by decide +kernel), lookup_putF, if_pos rfl]
theorem fS_made (k : Int) (l : Addr) (n : Int) : (fS k l n).lookup ("made" : Str) = some (.ref l) := by
  unfold fS
  rw [lookup_putF, if_neg (by decide +kernel), lookup_putF, if_pos rfl]
theorem fS_least (k : Int) (l : Addr) (n : Int) : (fS k l n).lookup ("least" : Str) = some (.int n) := by
  unfold fS
  rw [lookup_putF, if_pos rfl]
theorem fS_more (k : Int) (l : Addr) (n : Int) : (fS k l n).lookup ("more" : Str) = none := by
  unfold fS
  rw [lookup_putF, if_neg (by decide +kernel), lookup_putF, if_neg (by decide +kernel), lookup_putF, if_neg (by decide +kernel)]
  all_goals rfl
theorem fS_put (k : Int) (l : Addr) (n m : Int) : putF "least" (.int m) (fS k l n) = fS k l m := putF_idem _ _ _ _
theorem fS_len (k : Int) (l : Addr) (n : Int) : (fS k l n).length < 1000 := by
  have a := length_putF ("factor" : Str) (.int k) []
  have b := length_putF ("made" : Str) (.ref l) (putF "factor" (.int k) [])
  have c := length_putF ("least" : Str) (.int n) (putF "made" (.ref l) (putF "factor" (.int k) []))
  have z : ([] : List (Str × V)).length = 0 := rfl
  unfold fS
  omega
/-- the Steps at x: behind n steps by the factor k, its list at l -/
structure StepsAt (C : Addr) (k : Int) (n : Nat) (H : Hp) (x l : Addr) : Prop where
  ob : ∃ dx, H x = some (.ins C dx (fS k l (q k n)))
  ls : H l = some (.lst ((row k n).map V.int))
theorem at_row (k : Int) {n i : Nat} (hi : i ≤ n) : atI ((row k n).map V.int) (i : Int) = some (.int (h k i)) := atI_nat (by rw [List.getElem?_map, row_get k n i hi]; all_goals rfl)
theorem at_row_last (k : Int) : ∀ n, atI ((row k n).map V.int) (-1) = some (.int (h k n))
  | 0 => by
    show atI ([] ++ [V.int 1]) (-1) = _
    exact atI_last _ _
  | n + 1 => by
    rw [row_succ, List.map_append]
    exact atI_last _ _
section
variable {P : Program} {w : World} {K : PySem.W.Frag} {mg : Str → Option Value} {base : Heap} {CSteps CLost CWon : Addr}
/-! ### is_whole -/
def sp_is_whole (K : PySem.W.Frag) : Sp := fun vs H Q _ => ∃ v b, vs = [v] ∧ Wh K H v b ∧ Q (.bl b) H
theorem ok_is_whole (T : Txt K mg CSteps CLost CWon) : OkG P w K mg base CX0 1 "is_whole" (sp_is_whole K) := by
  refine OkG.of T.D_is_whole (fun _ _ => bd_is_whole) fun f fd F => F.ok sc_is_whole (fun vs H Q E h => ?_) (fun cdv A outer s H vs Q E hr h => ?_)
  · obtain ⟨v, b, rfl, _⟩ := h
    rfl
  · obtain ⟨v, b, rfl, hw, g⟩ := h
    refine ⟨_, (pss_one (ps_ret (pe_and (pe_callB call_isi (by rfl) T.b_isinstance (by decide +kernel) (pa_cons (pv 0) (pa_cons (pe_bltn (v := .ty "int") (by rfl) T.b_int (by decide +kernel) rfl) pa_nil))) (pe_and (pe_not (pe_callB call_isi (by rfl) T.b_isinstance (by decide +kernel) (pa_cons (pv 0) (pa_cons (pe_bltn (v := .ty "bool") (by rfl) T.b_bool (by decide +kernel) rfl) pa_nil)))) (pe_one (pe_cmpR op_ge (pv 0) pe_int (nomark _))))))), ?_⟩
    cases hw with
    | int n =>
      refine ⟨_, rfl, _, _, _, _, true, rfl, .ty _, .base (.int n), kit_ty (by decide +kernel), _, rfl, iteT ?_⟩
      refine ⟨_, rfl, _, _, _, _, false, rfl, .ty _, .base (.int n), kit_ty (by decide +kernel), _, rfl, _, rfl, iteT ?_⟩
      exact ⟨_, rfl, _, _, rfl, rfl, g⟩
    | bl c =>
      refine ⟨_, rfl, _, _, _, _, true, rfl, .ty _, .base (.bl c), kit_ty (by decide +kernel), _, rfl, iteT ?_⟩
      exact ⟨_, rfl, _, _, _, _, true, rfl, .ty _, .base (.bl c), kit_ty (by decide +kernel), _, rfl, _, rfl, iteF g⟩
    | oth ty kt =>
      exact ⟨_, rfl, _, _, _, _, false, rfl, .ty _, ty, kit_ty kt, _, rfl, iteF g⟩
/-! ### Steps -/
def sp_Steps_init (C : Addr) : Sp := fun vs H Q _ => ∃ (x dx : Addr) (k : Int), vs = [.ref x, .int k] ∧ H x = some (.ins C dx []) ∧ ∀ (l : Addr) (H' : Hp), H l = none → StepsAt C k 0 H' x l → (∀ b o, H b = some o → b ≠ x → H' b = some o) → Q .non H'
theorem ok_Steps_init (T : Txt K mg CSteps CLost CWon) : OkC P w K mg base CX0 1 "Steps" CSteps (sp_Steps_init CSteps) := by
  refine OkC.of T.e_Steps T.mk_Steps T.kp_Steps T.D_Steps_init (fun _ _ => bd_Steps_init) fun f fd F => F.ok sc_Steps_init (fun vs H Q E h => ?_) (fun cdv A outer s H vs Q E hr h => ?_)
  · obtain ⟨x, dx, k, rfl, _⟩ := h
    rfl
  · obtain ⟨x, dx, k, rfl, hx, g⟩ := h
    refine ⟨_, (pss_cons (ps_fld (pv 0) (pv 1) rfl)
      (pss_cons (ps_fld (pv 0) (pe_lst (pa_cons pe_int pa_nil)) rfl)
      (pss_one (ps_fld (pv 0) pe_int rfl)))), ?_⟩
    refine ⟨_, rfl, _, rfl, x, _, dx, _, rfl, hx, T.cl_Steps, T.n_Steps_factor, (by show 0 < 1000; decide), ?_⟩
    refine ⟨(by show 1 ≤ sizeLine; decide), fun l hl => ?_⟩
    have nxl : x ≠ l := fun e => by
      rw [← e, upd_same] at hl
      cases hl
    have hl0 : H l = none := by
      rw [upd_ne nxl.symm] at hl
      exact hl
    refine ⟨_, rfl, x, _, dx, _, rfl, Eq.trans (upd_ne nxl) upd_same, T.cl_Steps, T.n_Steps_made, (by show 1 < 1000; decide), ?_⟩
    refine ⟨_, rfl, x, _, dx, _, rfl, upd_same, T.cl_Steps, T.n_Steps_least, ?_, ?_⟩
    · have b := length_putF ("made" : Str) (.ref l) (putF "factor" (.int k) [])
      have z : (putF ("factor" : Str) (.int k) []).length = 1 := rfl
      omega
    · refine g l _ hl0 ⟨⟨dx, upd_same⟩, ?_⟩ fun b o e hb => ?_
      · rw [upd_ne nxl.symm, upd_ne nxl.symm, upd_same]
        all_goals rfl
      · rw [upd_ne hb, upd_ne hb, upd_ne (ne_of_none e hl0), upd_ne hb]
        exact e
def sp_more (C : Addr) : Sp := fun vs H Q _ => ∃ (x l : Addr) (k : Int) (n : Nat), vs = [.ref x] ∧ StepsAt C k n H x l ∧ 1 ≤ k ∧ k ≤ 30 ∧ n < 1000000 ∧ ∀ H' : Hp, StepsAt C k (n + 1) H' x l → (∀ b o, H b = some o → b ≠ x → b ≠ l → H' b = some o) → Q .non H'
theorem ok_Steps_more (T : Txt K mg CSteps CLost CWon) : OkM P w K mg base CX0 1 CSteps "more" (sp_more CSteps) := by
  refine OkM.of T.cl_Steps T.D_Steps_more (fun _ _ => bd_Steps_more) fun f fd F => F.ok sc_Steps_more (fun vs H Q E h => ?_) (fun cdv A outer s H vs Q E hr h => ?_)
  · obtain ⟨x, l, k, n, rfl, _⟩ := h
    rfl
  · obtain ⟨x, l, k, n, rfl, ⟨⟨dx, hx⟩, hl⟩, hk, hk30, hn, g⟩ := h
    have R := isRow hk
    have nxl : x ≠ l := ne_of hx hl (by intro z; cases z)
    refine ⟨_, (pss_cons (ps_while PassesOwn.never (pt_cmpR op_lt (pe_op op_mul (pe_fld (pv 0) rfl) (pe_ix ix_list (pe_fld (pv 0) rfl) (pe_fld (pv 0) rfl) (fun _ _ => rfl))) (pe_ix ix_list (pe_fld (pv 0) rfl) (pe_un un_neg pe_int) (fun _ _ => rfl)) (nomark _)) (pss_one (ps_fldaug (pv 0) pe_int in_add)))
      (pss_one (ps_expr (pe_bm PySem.F.plainAttrs_list PySem.F.slot_list_append PySem.F.type_list_append mt_append (pe_fld (pv 0) rfl) (pa_cons (pe_op op_add (pe_ix ix_list (pe_fld (pv 0) rfl) (pe_un un_neg pe_int) (fun _ _ => rfl)) (pe_ix ix_list (pe_fld (pv 0) rfl) (pe_fld (pv 0) rfl) (fun _ _ => rfl))) pa_nil))))), ?_⟩
    refine ⟨fun m σ H' => ∃ j : Nat, m = p k n - j ∧ j ≤ p k n ∧ σ = [some (.ref x)] ∧ H' x = some (.ins CSteps dx (fS k l j)) ∧ H' l = some (.lst ((row k n).map V.int)) ∧ (∀ b o, H b = some o → b ≠ x → H' b = some o),
      ⟨_, q k n, rfl, q_le hk n, rfl, hx, hl, fun b o e _ => e⟩, ?_⟩
    rintro m σ H' ⟨j, rfl, hj, rfl, hx', hl', kp⟩
    have hjn : j ≤ n := Nat.le_trans hj (R.le n)
    refine ⟨_, rfl, x, _, dx, _, _, rfl, hx', T.cl_Steps, T.n_Steps_factor, fS_factor _ _ _, ?_⟩
    refine ⟨_, rfl, x, _, dx, _, _, rfl, hx', T.cl_Steps, T.n_Steps_made, fS_made _ _ _, _, rfl, x, _, dx, _, _, rfl, hx', T.cl_Steps, T.n_Steps_least, fS_least _ _ _, l, _, _, _, rfl, rfl, SqL.of hl', at_row k hjn, ?_⟩
    refine ⟨_, _, rfl, rfl, .inl ⟨by omega, by omega⟩, ?_⟩
    refine ⟨_, rfl, x, _, dx, _, _, rfl, hx', T.cl_Steps, T.n_Steps_made, fS_made _ _ _, _, rfl, l, _, _, _, rfl, rfl, SqL.of hl', at_row_last k n, ?_⟩
    refine ⟨_, _, rfl, rfl, _, rfl, ?_⟩
    refine ite2 (fun c => ?_) (fun c => ?_)
    · have c := of_decide_eq_true c
      have hlt : j < p k n := R.below c
      refine ⟨fun σ' H'' => σ' = [some (.ref x)] ∧ H'' x = some (.ins CSteps dx (fS k l (j + 1 : Nat))) ∧ H'' l = some (.lst ((row k n).map V.int)) ∧ (∀ b o, H b = some o → b ≠ x → H'' b = some o), ?_, ?_⟩
      · rintro σ' H'' ⟨rfl, a, b, d⟩
        exact ⟨_, by omega, j + 1, rfl, by omega, rfl, a, b, d⟩
      · refine ⟨_, rfl, x, _, dx, _, _, rfl, hx', T.cl_Steps, T.n_Steps_least, fS_least _ _ _, _, _, rfl, rfl, dx, _, hx', fS_len _ _ _, ?_⟩
        refine ⟨rfl, ?_, ?_, fun b o e hb => ?_⟩
        · rw [upd_same, fS_put]
          all_goals rfl
        · rw [upd_ne nxl.symm]
          exact hl'
        · rw [upd_ne hb]
          exact kp b o e hb
    · have c : ¬ k * h k j < h k n := fun z => c (decide_eq_true z)
      have ej : j = p k n := by
        by_cases d : j = p k n
        · exact d
        · exact absurd (R.lt n j (by omega)) c
      refine ⟨_, rfl, x, _, dx, _, _, rfl, hx', T.cl_Steps, T.n_Steps_made, fS_made _ _ _, .inl ⟨rfl, _, SqL.of hl'⟩, ?_⟩
      refine ⟨_, rfl, x, _, dx, _, _, rfl, hx', T.cl_Steps, T.n_Steps_made, fS_made _ _ _, _, rfl, l, _, _, _, rfl, rfl, SqL.of hl', at_row_last k n, ?_⟩
      refine ⟨_, rfl, x, _, dx, _, _, rfl, hx', T.cl_Steps, T.n_Steps_made, fS_made _ _ _, _, rfl, x, _, dx, _, _, rfl, hx', T.cl_Steps, T.n_Steps_least, fS_least _ _ _, l, _, _, _, rfl, rfl, SqL.of hl', at_row k hjn, ?_⟩
      refine ⟨_, _, rfl, rfl, l, _, _, rfl, rfl, hl', ?_, ?_⟩
      · rw [List.length_map, row_len, sizeLine_eq]
        omega
      · refine g _ ⟨⟨dx, ?_⟩, ?_⟩ fun b o e hb hb2 => ?_
        · rw [upd_ne nxl, hx', ej]
          all_goals rfl
        · rw [upd_same, row_succ, List.map_append, R.s n, ej]
          all_goals rfl
        · rw [upd_ne hb2]
          exact kp b o e hb
/-! ### steps_to -/
def sp_steps_to : Sp := fun vs H Q _ => ∃ (k m : Int) (B : Nat), vs = [.int k, .int m] ∧ 1 ≤ k ∧ k ≤ 30 ∧ m < 2 ^ B ∧ B ≤ 30000 ∧ ∀ (N : Nat) (H' : Hp) (l : Addr), Same H H' → H l = none → H' l = some (.lst ((row k N).map V.int)) → m < h k N → (∀ i, i < N → h k i ≤ m) → N ≤ 30 * B → Q (.ref l) H'
theorem ok_steps_to (T : Txt K mg CSteps CLost CWon) : OkG P w K mg base CX0 3 "steps_to" sp_steps_to := by
  have G_Steps : OkC P w K mg base CX0 1 "Steps" CSteps (sp_Steps_init CSteps) := ok_Steps_init T
  have G_more : OkM P w K mg base CX0 1 CSteps "more" (sp_more CSteps) := ok_Steps_more T
  refine OkG.of T.D_steps_to (fun _ _ => bd_steps_to) fun f fd F => F.ok sc_steps_to (fun vs H Q E h => ?_) (fun cdv A outer s H vs Q E hr h => ?_)
  · obtain ⟨k, m, B, rfl, _⟩ := h
    rfl
  · obtain ⟨k, m, B, rfl, hk, hk30, hm, hB, g⟩ := h
    have R := isRow hk
    refine ⟨_, (pss_cons (ps_set (i := 2) sc_steps_to.nd rfl (by first | exact Or.inl rfl | exact Or.inr rfl) (pe_makeO G_Steps (hr.mono (by first | decide | exact Nat.le_refl _)) (by rfl) pass0 (pa_cons (pv 0) pa_nil)))
      (pss_cons (ps_while PassesOwn.never (pt_cmpR op_le (pe_ix ix_list (pe_fld (pv 2) rfl) (pe_un un_neg pe_int) (fun _ _ => rfl)) (pv 1) (nomark _)) (pss_one (ps_expr (pe_methO0 G_more (hr.mono (by first | decide | exact Nat.le_refl _)) pass0 (pv 2)))))
      (pss_one (ps_ret (pe_fld (pv 2) rfl))))), ?_⟩
    refine ⟨_, rfl, fun x dx nx ndx nex => ?_⟩
    refine ⟨x, dx, k, rfl, upd_same, fun l H1 hl0 S0 kp => ⟨rfl, ?_⟩⟩
    have nlx : l ≠ x := fun e => by
      rw [e, upd_same] at hl0
      cases hl0
    have nldx : l ≠ dx := fun e => by
      rw [e, upd_ne nex, upd_same] at hl0
      cases hl0
    have hl : H l = none := by
      rw [upd_ne nlx, upd_ne nldx] at hl0
      exact hl0
    have s1 : Same H H1 := Same.made nx ndx kp
    have few : ∀ n, (∀ i, i < n → h k i ≤ m) → n ≤ 30 * B := fun n a => R.few hk30 fun i hi => by
      have := a i hi
      omega
    refine ⟨fun z σ H' => ∃ n : Nat, z = 30 * B + 1 - n ∧ σ = [some (.int k), some (.int m), some (.ref x)] ∧ StepsAt CSteps k n H' x l ∧ Same H H' ∧ (∀ i, i < n → h k i ≤ m),
      ⟨_, 0, rfl, rfl, S0, s1, fun i hi => absurd hi (Nat.not_lt_zero _)⟩, ?_⟩
    rintro z σ H' ⟨n, rfl, rfl, S, sm, hi⟩
    obtain ⟨dy, hx'⟩ := S.ob
    have hn := few n hi
    refine ⟨_, rfl, x, _, dy, _, _, rfl, hx', T.cl_Steps, T.n_Steps_made, fS_made _ _ _, _, rfl, l, _, _, _, rfl, rfl, SqL.of S.ls, at_row_last k n, _, rfl, _, _, rfl, rfl, _, rfl, ?_⟩
    refine ite2 (fun c => ?_) (fun c => ?_)
    · have c := of_decide_eq_true c
      refine ⟨fun σ' H'' => σ' = [some (.int k), some (.int m), some (.ref x)] ∧ StepsAt CSteps k (n + 1) H'' x l ∧ Same H H'', ?_, ?_⟩
      · rintro σ' H'' ⟨rfl, a, b⟩
        have hi' : ∀ i, i < n + 1 → h k i ≤ m := fun i q => by
          by_cases d : i = n
          · rw [d]
            exact c
          · exact hi i (by omega)
        have := few _ hi'
        exact ⟨_, by omega, n + 1, rfl, rfl, a, b, hi'⟩
      · refine ⟨_, rfl, x, dy, _, rfl, hx', fS_more _ _ _, x, l, k, n, rfl, S, hk, hk30, by omega, fun H2 S2 kp2 => ?_⟩
        exact ⟨rfl, S2, fun b o e => kp2 b o (sm b o e) (ne_of_none e nx) (ne_of_none e hl)⟩
    · have c : ¬ h k n ≤ m := fun z => c (decide_eq_true z)
      refine ⟨_, rfl, x, _, dy, _, _, rfl, hx', T.cl_Steps, T.n_Steps_made, fS_made _ _ _, ?_⟩
      exact g n H' l sm hl S.ls (by omega) hi hn
/-! ### parts_of -/
def sp_parts_of : Sp := fun vs H Q _ => ∃ (k n : Int) (B : Nat), vs = [.int k, .int n] ∧ 1 ≤ k ∧ k ≤ 30 ∧ 0 ≤ n ∧ n < 2 ^ B ∧ B ≤ 30000 ∧ ∀ (H' : Hp) (l : Addr), Same H H' → H l = none → H' l = some (.lst ((parts k n).map V.int)) → Q (.ref l) H'
theorem row_rev (k : Int) (N i : Nat) (hi : i ≤ N) : ((row k N).map V.int).reverse[i]? = some (.int (h k (N - i))) := by
  rw [List.getElem?_reverse (by rw [List.length_map, row_len]; omega), List.length_map, row_len, List.getElem?_map, row_get k N _ (by omega)]
  show some (V.int (h k (N + 1 - 1 - i))) = _
  rw [show N + 1 - 1 - i = N - i by omega]
theorem ok_parts_of (T : Txt K mg CSteps CLost CWon) : OkG P w K mg base CX0 4 "parts_of" sp_parts_of := by
  have G_steps_to : OkG P w K mg base CX0 3 "steps_to" sp_steps_to := ok_steps_to T
  refine OkG.of T.D_parts_of (fun _ _ => bd_parts_of) fun f fd F => F.ok sc_parts_of (fun vs H Q E h => ?_) (fun cdv A outer s H vs Q E hr h => ?_)
  · obtain ⟨k, m, B, rfl, _⟩ := h
    rfl
  · obtain ⟨k, n, B, rfl, hk, hk30, h0, hm, hB, g⟩ := h
    have R := isRow hk
    refine ⟨_, (pss_cons (ps_set (i := 2) sc_parts_of.nd rfl (by first | exact Or.inl rfl | exact Or.inr rfl) (pe_lst pa_nil))
      (pss_cons (ps_for PassesOwn.never rfl (pi_list (pe_revL (pe_callO G_steps_to (hr.mono (by first | decide | exact Nat.le_refl _)) (by rfl) pass0 (pa_cons (pv 0) (pa_cons (pv 1) pa_nil))))) (pg_name (i := 3) sc_parts_of.nd rfl (by first | exact Or.inl rfl | exact Or.inr rfl)) (pss_one (ps_if (pt_cmpR op_le (pv 3) (pv 1) (nomark _)) (pss_cons (ps_expr (pe_bm PySem.F.plainAttrs_list PySem.F.slot_list_append PySem.F.type_list_append mt_append (pv 2) (pa_cons (pv 3) pa_nil)))
      (pss_one (ps_aug (i := 1) sc_parts_of.nd rfl (by first | exact Or.inl rfl | exact Or.inr rfl) (pv 3) ip_sub))) pss_nil)))
      (pss_one (ps_ret (pv 2))))), ?_⟩
    refine ⟨Nat.zero_le _, fun o no => ?_⟩
    refine ⟨_, rfl, _, rfl, k, n, B, rfl, hk, hk30, hm, hB, fun N H1 l s1 nl hl lt hi hN => ?_⟩
    have ho : H1 o = some (.lst []) := s1 o _ upd_same
    have s1' : Same H H1 := (same_upd no).trans s1
    refine ⟨l, _, rfl, SqL.of hl, fun r nr => ?_⟩
    have hlen : ((row k N).map V.int).reverse.length = N + 1 := by rw [List.length_reverse, List.length_map, row_len]
    have nro : o ≠ r := ne_of_none ho nr
    refine ⟨_, rfl, ⟨_, SqL.of upd_same⟩, for_list (K := K) (a := r) (xs := ((row k N).map V.int).reverse) (fun i σ H' => ∃ (f : List Int) (rest : Int) (v : Option V), σ = [some (.int k), some (.int rest), some (.ref o), v] ∧ Same H H' ∧ H' r = some (.lst ((row k N).map V.int).reverse) ∧ H' o = some (.lst (f.map V.int)) ∧ f.length ≤ i ∧ f ++ greedy (h k) (N + 1 - i) rest = parts k n)
      ⟨[], n, none, rfl, same_lst s1' nr, upd_same, by rw [upd_ne nro]; exact ho, Nat.le_refl _, ?_⟩ (fun i σ H' _ ⟨_, _, _, _, _, z, _⟩ => SqL.of z) ?_ ?_⟩
    · exact greedy_parts hk h0 (Int.lt_trans lt (R.up N))
    · rintro i y σ H' hi' ⟨f, rest, v, rfl, sm, hr', ho', hf, eq⟩
      have hil : i < N + 1 := by
        have := (List.getElem?_eq_some_iff.mp hi').1
        rw [hlen] at this
        exact this
      have ey : y = .int (h k (N - i)) := Option.some.inj (hi'.symm.trans (row_rev k N i (by omega)))
      subst ey
      have en : N + 1 - i = (N - i) + 1 := by omega
      have en2 : N + 1 - (i + 1) = N - i := by omega
      refine ⟨_, rfl, _, rfl, _, _, rfl, rfl, _, rfl, ?_⟩
      refine ite2 (fun c => ?_) (fun c => ?_)
      · have c := of_decide_eq_true c
        refine ⟨_, rfl, .inl ⟨rfl, _, SqL.of ho'⟩, _, rfl, o, _, _, rfl, rfl, ho', ?_, ?_⟩
        · rw [List.length_map, sizeLine_eq]
          omega
        · refine ⟨_, rfl, _, rfl, _, _, rfl, rfl, ?_⟩
          refine ⟨f ++ [h k (N - i)], rest - h k (N - i), _, rfl, same_new sm no, ?_, ?_, ?_, ?_⟩
          · rw [upd_ne nro.symm]
            exact hr'
          · rw [upd_same, List.map_append]
            all_goals rfl
          · rw [List.length_append]
            show f.length + 1 ≤ i + 1
            omega
          · rw [en] at eq
            unfold greedy at eq
            rw [if_pos c] at eq
            rw [en2, List.append_assoc]
            exact eq
      · have c : ¬ h k (N - i) ≤ rest := fun z => c (decide_eq_true z)
        refine ⟨f, rest, _, rfl, sm, hr', ho', by omega, ?_⟩
        rw [en] at eq
        unfold greedy at eq
        rw [if_neg c] at eq
        rw [en2]
        exact eq
    · rintro σ H' ⟨f, rest, v, rfl, sm, hr', ho', hf, eq⟩
      rw [hlen, Nat.sub_self] at eq
      have ef : f = parts k n := by
        rw [← eq]
        show f = f ++ []
        rw [List.append_nil]
      rw [ef] at ho'
      exact ⟨_, rfl, g H' o sm no ho'⟩
end
end Tx
namespace Tx
open PySem PySem.Spec PyProof.Rows L2 Tk TA
section
variable {P : Program} {w : World} {K : PySem.W.Frag} {mg : Str → Option Value} {base : Heap} {CSteps CLost CWon : Addr}
def sp_check_factor : Sp := fun vs H Q _ => ∃ k : Int, vs = [.int k] ∧ 1 ≤ k ∧ k ≤ 30 ∧ Q .non H
theorem ok_check_factor (T : Txt K mg CSteps CLost CWon) : OkG P w K mg base CX0 2 "check_factor" sp_check_factor := by
  refine OkG.of T.D_check_factor (fun _ _ => bd_check_factor) fun f fd F => F.ok sc_check_factor (fun vs H Q E h => ?_) (fun cdv A outer s H vs Q E hr h => ?_)
  · obtain ⟨k, rfl, _⟩ := h
    rfl
  · obtain ⟨k, rfl, h1, h2, g⟩ := h
    have G_is_whole : OkG P w K mg base CX0 1 "is_whole" (sp_is_whole K) := ok_is_whole T
    refine ⟨_, (pss_one (ps_if (PW.pt (pw_or (pt_not (pt_val (pe_callO G_is_whole (hr.mono (by first | decide | exact Nat.le_refl _)) (by rfl) pass0 (pa_cons (pv 0) pa_nil)))) (pw_or1 (pt_not (pt_chain op_le op_le pe_int (pv 0) (pe_glob (v := .int 30) (by rfl) T.m_GREATEST.choose_spec ⟨_, rfl⟩)))))) (pss_one ps_never) pss_nil)), ?_⟩
    refine ⟨_, rfl, _, _, rfl, .int k, _, rfl, ?_⟩
    rw [decide_eq_true (by omega)]
    refine iteF ?_
    refine ⟨_, rfl, _, _, rfl, rfl, _, rfl, ?_⟩
    rw [decide_eq_true h1]
    refine iteT ⟨_, _, rfl, rfl, _, rfl, ?_⟩
    rw [decide_eq_true h2]
    exact iteF g
def sp_check_heap : Sp := fun vs H Q _ => ∃ n : Int, vs = [.int n] ∧ 0 ≤ n ∧ Q .non H
theorem ok_check_heap (T : Txt K mg CSteps CLost CWon) : OkG P w K mg base CX0 2 "check_heap" sp_check_heap := by
  refine OkG.of T.D_check_heap (fun _ _ => bd_check_heap) fun f fd F => F.ok sc_check_heap (fun vs H Q E h => ?_) (fun cdv A outer s H vs Q E hr h => ?_)
  · obtain ⟨k, rfl, _⟩ := h
    rfl
  · obtain ⟨n, rfl, h1, g⟩ := h
    have G_is_whole : OkG P w K mg base CX0 1 "is_whole" (sp_is_whole K) := ok_is_whole T
    refine ⟨_, (pss_one (ps_if (pt_not (pt_val (pe_callO G_is_whole (hr.mono (by first | decide | exact Nat.le_refl _)) (by rfl) pass0 (pa_cons (pv 0) pa_nil)))) (pss_one ps_never) pss_nil)), ?_⟩
    refine ⟨_, rfl, _, _, rfl, .int n, _, rfl, ?_⟩
    rw [decide_eq_true h1]
    exact iteF g
end
end Tx
namespace Tx
open PySem PySem.Spec PyProof.Rows L2 Tk TA
def fL (l : Addr) : List (Str × V) := putF "parts" (.ref l) []
theorem fL_parts (l : Addr) : (fL l).lookup ("parts" : Str) = some (.ref l) := by
  unfold fL
  rw [lookup_putF, if_pos rfl]
theorem fL_shows (l : Addr) : (fL l).lookup ("shows" : Str) = none := by
  unfold fL
  rw [lookup_putF, if_neg (by decide +kernel)]
  all_goals rfl
def fW (t : V) : List (Str × V) := putF "taking" t []
theorem fW_taking (t : V) : (fW t).lookup ("taking" : Str) = some t := by
  unfold fW
  rw [lookup_putF, if_pos rfl]
theorem fW_shows (t : V) : (fW t).lookup ("shows" : Str) = none := by
  unfold fW
  rw [lookup_putF, if_neg (by decide +kernel)]
  all_goals rfl
/-- a Lost at x, its list at l -/
structure LostAt (C : Addr) (H : Hp) (x l : Addr) (ps : List Int) : Prop where
  ob : ∃ dx, H x = some (.ins C dx (fL l))
  ls : H l = some (.lst (ps.map V.int))
/-- a Won at x -/
def WonAt (C : Addr) (H : Hp) (x : Addr) (t : Int) : Prop := ∃ dx, H x = some (.ins C dx (fW (.int t)))
section
variable {P : Program} {w : World} {K : PySem.W.Frag} {mg : Str → Option Value} {base : Heap} {CSteps CLost CWon : Addr}
def sp_Lost (K : PySem.W.Frag) (C : Addr) : Sp := fun vs H Q _ => ∃ (x dx a : Addr) (ps : List Int), vs = [.ref x, .ref a] ∧ H x = some (.ins C dx []) ∧ SqL K H a (ps.map V.int) ∧ ∀ (l : Addr) (H' : Hp), H l = none → LostAt C H' x l ps → (∀ b o, H b = some o → b ≠ x → H' b = some o) → Q .non H'
theorem ok_Lost_init (T : Txt K mg CSteps CLost CWon) : OkC P w K mg base CX0 1 "Lost" CLost (sp_Lost K CLost) := by
  refine OkC.of T.e_Lost T.mk_Lost T.kp_Lost T.D_Lost_init (fun _ _ => bd_Lost_init) fun f fd F => F.ok sc_Lost_init (fun vs H Q E h => ?_) (fun cdv A outer s H vs Q E hr h => ?_)
  · obtain ⟨x, dx, a, ps, rfl, _⟩ := h
    rfl
  · obtain ⟨x, dx, a, ps, rfl, hx, ha, g⟩ := h
    refine ⟨_, (pss_one (ps_fld (pv 0) (pe_callTy call_list_of (by rfl) T.b_list (by decide +kernel) (pa_cons (pv 1) pa_nil)) rfl)), ?_⟩
    refine ⟨_, rfl, a, _, rfl, .inl ha, fun l hl => ?_⟩
    have nxl : x ≠ l := ne_of_none hx hl
    refine ⟨_, rfl, x, _, dx, _, rfl, Eq.trans (upd_ne nxl) hx, T.cl_Lost, T.n_Lost_parts, (by show 0 < 1000; decide), ?_⟩
    refine g l _ hl ⟨⟨dx, upd_same⟩, by rw [upd_ne nxl.symm, upd_same]⟩ fun b o e hb => ?_
    rw [upd_ne hb, upd_ne (ne_of_none e hl)]
    exact e
def sp_Won (C : Addr) : Sp := fun vs H Q _ => ∃ (x dx : Addr) (t : Int), vs = [.ref x, .int t] ∧ H x = some (.ins C dx []) ∧ ∀ (H' : Hp), WonAt C H' x t → (∀ b o, H b = some o → b ≠ x → H' b = some o) → Q .non H'
theorem ok_Won_init (T : Txt K mg CSteps CLost CWon) : OkC P w K mg base CX0 1 "Won" CWon (sp_Won CWon) := by
  refine OkC.of T.e_Won T.mk_Won T.kp_Won T.D_Won_init (fun _ _ => bd_Won_init) fun f fd F => F.ok sc_Won_init (fun vs H Q E h => ?_) (fun cdv A outer s H vs Q E hr h => ?_)
  · obtain ⟨x, dx, t, rfl, _⟩ := h
    rfl
  · obtain ⟨x, dx, t, rfl, hx, g⟩ := h
    refine ⟨_, (pss_one (ps_fld (pv 0) (pv 1) rfl)), ?_⟩
    refine ⟨_, rfl, _, rfl, x, _, dx, _, rfl, hx, T.cl_Won, T.n_Won_taking, (by show 0 < 1000; decide), ?_⟩
    refine g _ ⟨dx, upd_same⟩ fun b o e hb => ?_
    rw [upd_ne hb]
    exact e
def sp_check_all : Sp := fun vs H Q _ => ∃ k n L : Int, vs = [.int k, .int n, .int L] ∧ 1 ≤ k ∧ k ≤ 30 ∧ 0 ≤ n ∧ 0 ≤ L ∧ Q .non H
theorem ok_check_all (T : Txt K mg CSteps CLost CWon) : OkG P w K mg base CX0 3 "check_all" sp_check_all := by
  have G_check_factor : OkG P w K mg base CX0 2 "check_factor" sp_check_factor := ok_check_factor T
  have G_check_heap : OkG P w K mg base CX0 2 "check_heap" sp_check_heap := ok_check_heap T
  have G_is_whole : OkG P w K mg base CX0 1 "is_whole" (sp_is_whole K) := ok_is_whole T
  refine OkG.of T.D_check_all (fun _ _ => bd_check_all) fun f fd F => F.ok sc_check_all (fun vs H Q E h => ?_) (fun cdv A outer s H vs Q E hr h => ?_)
  · obtain ⟨k, n, L, rfl, _⟩ := h
    rfl
  · obtain ⟨k, n, L, rfl, hk, hk30, h0, hL, g⟩ := h
    refine ⟨_, (pss_cons (ps_expr (pe_callO G_check_factor (hr.mono (by first | decide | exact Nat.le_refl _)) (by rfl) pass0 (pa_cons (pv 0) pa_nil)))
      (pss_cons (ps_expr (pe_callO G_check_heap (hr.mono (by first | decide | exact Nat.le_refl _)) (by rfl) pass0 (pa_cons (pv 1) pa_nil)))
      (pss_one (ps_if (pt_not (pt_val (pe_callO G_is_whole (hr.mono (by first | decide | exact Nat.le_refl _)) (by rfl) pass0 (pa_cons (pv 2) pa_nil)))) (pss_one ps_never) pss_nil)))), ?_⟩
    refine ⟨_, rfl, k, rfl, hk, hk30, _, rfl, n, rfl, h0, ?_⟩
    refine ⟨_, rfl, _, _, rfl, .int L, _, rfl, ?_⟩
    rw [decide_eq_true hL]
    exact iteF g
theorem at_last_int {l : List Int} {x : Int} (e : l.getLast? = some x) : atI (l.map V.int) (-1) = some (.int x) := by
  obtain ⟨r, er⟩ := List.getLast?_eq_some_iff.mp e
  rw [er, List.map_append]
  exact atI_last _ _
def sp_told (CL CW : Addr) : Sp := fun vs H Q _ => ∃ (k n L : Int) (B : Nat), vs = [.int k, .int n, .int L] ∧ 1 ≤ k ∧ k ≤ 30 ∧ 0 ≤ n ∧ 0 ≤ L ∧ n < 2 ^ B ∧ B ≤ 30000 ∧
  (∀ (H' : Hp) (x l : Addr), lost k n L = true → Same H H' → H x = none → H l = none → LostAt CL H' x l (parts k n) → Q (.ref x) H') ∧
  (∀ (H' : Hp) (x : Addr) (t : Int), lost k n L = false → (parts k n).getLast? = some t → Same H H' → H x = none → WonAt CW H' x t → Q (.ref x) H')
theorem ok_told (T : Txt K mg CSteps CLost CWon) : OkG P w K mg base CX0 5 "told" (sp_told CLost CWon) := by
  have G_check_all : OkG P w K mg base CX0 3 "check_all" sp_check_all := ok_check_all T
  have G_parts_of : OkG P w K mg base CX0 4 "parts_of" sp_parts_of := ok_parts_of T
  have G_Lost : OkC P w K mg base CX0 1 "Lost" CLost (sp_Lost K CLost) := ok_Lost_init T
  have G_Won : OkC P w K mg base CX0 1 "Won" CWon (sp_Won CWon) := ok_Won_init T
  refine OkG.of T.D_told (fun _ _ => bd_told) fun f fd F => F.ok sc_told (fun vs H Q E h => ?_) (fun cdv A outer s H vs Q E hr h => ?_)
  · obtain ⟨k, n, L, B, rfl, _⟩ := h
    rfl
  · obtain ⟨k, n, L, B, rfl, hk, hk30, h0, hL, hn, hB, gL, gW⟩ := h
    refine ⟨_, (pss_cons (ps_expr (pe_callO G_check_all (hr.mono (by first | decide | exact Nat.le_refl _)) (by rfl) pass0 (pa_cons (pv 0) (pa_cons (pv 1) (pa_cons (pv 2) pa_nil)))))
      (pss_cons (ps_set (i := 3) sc_told.nd rfl (by first | exact Or.inl rfl | exact Or.inr rfl) (pe_callO G_parts_of (hr.mono (by first | decide | exact Nat.le_refl _)) (by rfl) pass0 (pa_cons (pv 0) (pa_cons (pv 1) pa_nil))))
      (pss_cons (ps_if (PW.pt (pw_or (pt_cmpR (op_eqIs hr.units) (pv 3) (pe_lst pa_nil) (nomark _)) (pw_or1 (pt_cmpR op_gt (pe_ix ix_list (pv 3) (pe_un un_neg pe_int) (fun _ _ => rfl)) (pv 2) (nomark _))))) (pss_one (ps_ret (pe_makeO G_Lost (hr.mono (by first | decide | exact Nat.le_refl _)) (by rfl) pass0 (pa_cons (pv 3) pa_nil)))) pss_nil)
      (pss_one (ps_ret (pe_makeO G_Won (hr.mono (by first | decide | exact Nat.le_refl _)) (by rfl) pass0 (pa_cons (pe_ix ix_list (pv 3) (pe_un un_neg pe_int) (fun _ _ => rfl)) pa_nil))))))), ?_⟩
    refine ⟨_, rfl, _, rfl, _, rfl, k, n, L, rfl, hk, hk30, h0, hL, ?_⟩
    refine ⟨_, rfl, _, rfl, k, n, B, rfl, hk, hk30, h0, hn, hB, fun H1 l s1 nl hl => ?_⟩
    refine ⟨_, rfl, Nat.zero_le _, fun e ne => ?_⟩
    have hl' : (upd H1 e (.lst [])) l = some (.lst ((parts k n).map V.int)) := by
      rw [upd_ne (ne_of_none hl ne)]
      exact hl
    have s2 : Same H (upd H1 e (.lst [])) := same_lst s1 ne
    -- a new Lost
    have mkL : lost k n L = true → ∀ x dx, (upd H1 e (.lst [])) x = none → (upd H1 e (.lst [])) dx = none → dx ≠ x →
        sp_Lost K CLost [.ref x, .ref l] (upd (upd (upd H1 e (.lst [])) dx (.own x)) x (.ins CLost dx [])) (fun v H2 => v = .non ∧ Q (.ref x) H2) E0 := by
      intro hlost x dx nx ndx nex
      have s3 : Same (upd H1 e (.lst [])) (upd (upd (upd H1 e (.lst [])) dx (.own x)) x (.ins CLost dx [])) := fun b o e => by
        rw [upd_ne (ne_of_none e nx), upd_ne (ne_of_none e ndx)]
        exact e
      refine ⟨x, dx, l, parts k n, rfl, upd_same, SqL.of (s3 _ _ hl'), fun l2 H2 nl2 A2 kp => ⟨rfl, ?_⟩⟩
      have s4 : Same H H2 := s2.trans (Same.made nx ndx kp)
      refine gL H2 x l2 hlost s4 (s2.free nx) ((s2.trans s3).free nl2) A2
    cases q : (parts k n).getLast? with
    | none =>
      have e0 : parts k n = [] := List.getLast?_eq_none_iff.mp q
      refine ⟨l, e, parts k n, [], rfl, rfl, SqL.of hl', SqL.of upd_same, _, rfl, ?_⟩
      rw [decide_eq_true e0]
      exact iteT (iteT ⟨_, rfl, fun x dx nx ndx nex => mkL (lost_nil e0) x dx nx ndx nex⟩)
    | some t =>
      have ne0 : ¬ parts k n = [] := fun z => by
        rw [z] at q
        cases q
      refine ⟨l, e, parts k n, [], rfl, rfl, SqL.of hl', SqL.of upd_same, _, rfl, ?_⟩
      rw [decide_eq_false ne0]
      refine iteF ⟨_, rfl, _, rfl, l, _, _, _, rfl, rfl, SqL.of hl', at_last_int q, _, rfl, _, _, rfl, rfl, _, rfl, ?_⟩
      refine ite2 (fun c => ?_) (fun c => ?_)
      · have c := of_decide_eq_true c
        exact ⟨_, rfl, fun x dx nx ndx nex => mkL (by rw [lost_some q]; exact decide_eq_true c) x dx nx ndx nex⟩
      · have c : ¬ L < t := fun z => c (decide_eq_true z)
        refine ⟨_, rfl, _, rfl, l, _, _, _, rfl, rfl, SqL.of hl', at_last_int q, fun x dx nx ndx nex => ?_⟩
        refine ⟨x, dx, t, rfl, upd_same, fun H2 A2 kp => ⟨rfl, ?_⟩⟩
        exact gW H2 x t (by rw [lost_some q]; exact decide_eq_false c) q (s2.trans (Same.made nx ndx kp)) (s2.free nx) A2
end
end Tx
namespace TA
theorem abs_add {a b : Int} {x : Nat} (ha : a.natAbs < 2 ^ x) (hb : b.natAbs < 2 ^ x) : (a + b).natAbs < 2 ^ (x + 1) := by
  rw [Nat.pow_succ]
  omega
theorem abs_up {a : Int} {x y : Nat} (ha : a.natAbs < 2 ^ x) (h : x ≤ y) : a.natAbs < 2 ^ y := Nat.lt_of_lt_of_le ha (Nat.pow_le_pow_right (by decide) h)
end TA
namespace Tx
open PySem PySem.Spec PyProof.Rows L2 Tk TA
/-- two factors of so many bits -/
theorem mulOk_of {i j : Int} {a b : Nat} (ha : i.natAbs < 2 ^ a) (hb : j.natAbs < 2 ^ b) (h : a + b ≤ 130000000) : IntMulOk i j := by
  have lg : ∀ (x : Int) (n : Nat), x.natAbs < 2 ^ n → Builtin.Int.intBits x ≤ n := by
    intro x n hx
    unfold Builtin.Int.intBits
    split
    · omega
    · rename_i c
      have c0 : x.natAbs ≠ 0 := by
        intro z
        simp_all
      have := (Nat.log2_lt c0).mpr hx
      omega
  have h1 := lg i a ha
  have h2 := lg j b hb
  have e : bitsLine = 134217728 := by decide
  unfold IntMulOk
  intro z
  rw [Bool.and_eq_true] at z
  have z2 := z.2
  unfold Builtin.Int.intTooBig at z2
  have z3 := of_decide_eq_true z2
  rw [e] at z3
  omega
theorem bits_abs {x : Int} {n : Nat} (h : Builtin.Int.intBits x ≤ n) : x.natAbs < 2 ^ n := by
  unfold Builtin.Int.intBits at h
  split at h
  · rename_i c
    have : x.natAbs = 0 := by simp_all
    rw [this]
    exact Nat.pow_pos (by decide)
  · rename_i c
    have c0 : x.natAbs ≠ 0 := by
      intro z
      simp_all
    exact (Nat.log2_lt c0).mp (by omega)
/-- the script: at most 63 numbers below so many bits -/
def Scr (K : PySem.W.Frag) (H : Hp) (a : Addr) (B : Nat) : Prop := ∃ ns : List Int, SqL K H a (ns.map V.int) ∧ ns.length ≤ 63 ∧ ∀ z ∈ ns, z.natAbs < 2 ^ B
theorem Scr.same {K : PySem.W.Frag} {H H' : Hp} {a : Addr} {B : Nat} (S : Scr K H a B) (e : Same H H') : Scr K H' a B := by
  obtain ⟨ns, s, l, b⟩ := S
  exact ⟨ns, e.seq s, l, b⟩
def primes : List Int := [1000003, 1000033, 1000037, 1000039, 1000081, 1000099, 1000117, 1000121, 1000133, 1000151, 1000159, 1000171, 1000183, 1000187, 1000193, 1000199]
theorem primes_pos : ∀ p ∈ primes, 0 < p := by decide
theorem primes_at {i : Int} (h0 : 0 ≤ i) (h1 : i < 16) : ∃ p : Int, atI (primes.map V.int) i = some (.int p) ∧ 0 < p := by
  have hl : i.toNat < primes.length := by
    show i.toNat < 16
    omega
  refine ⟨primes[i.toNat], at_of (j := i.toNat) (by omega) ?_, primes_pos _ (List.getElem_mem _)⟩
  rw [List.getElem?_map, List.getElem?_eq_getElem hl]
  rfl
section
variable {P : Program} {w : World} {K : PySem.W.Frag} {mg : Str → Option Value} {base : Heap} {CSteps CLost CWon : Addr}
def sp_cell_at (K : PySem.W.Frag) : Sp := fun vs H Q _ => ∃ (a : Addr) (k : Int) (B : Nat), vs = [.ref a, .int k] ∧ Scr K H a B ∧ 0 ≤ k ∧ ∀ z : Int, z.natAbs < 2 ^ B → Q (.int z) H
theorem ok_cell_at (T : Txt K mg CSteps CLost CWon) : OkG P w K mg base CX0 1 "_law_cell_at" (sp_cell_at K) := by
  refine OkG.of T.D__law_cell_at (fun _ _ => bd__law_cell_at) fun f fd F => F.ok sc__law_cell_at (fun vs H Q E h => ?_) (fun cdv A outer s H vs Q E hr h => ?_)
  · obtain ⟨a, k, B, rfl, _⟩ := h
    rfl
  · obtain ⟨a, k, B, rfl, ⟨ns, hS, hlen, hb⟩, hk, g⟩ := h
    refine ⟨_, (pss_cons (ps_if (pt_cmpR op_lt (pv 1) (pe_callB call_len_seq (by rfl) T.b_len (by decide +kernel) (pa_cons (pv 0) pa_nil)) (nomark _)) (pss_one (ps_ret (pe_ix ix_list (pv 0) (pv 1) (fun _ _ => rfl)))) pss_nil)
      (pss_one (ps_ret pe_int))), ?_⟩
    refine ⟨_, rfl, _, rfl, a, _, rfl, .inl hS, _, _, rfl, rfl, _, rfl, ?_⟩
    refine ite2 (fun c => ?_) (fun c => ?_)
    · have c := of_decide_eq_true c
      rw [List.length_map] at c
      have hl : k.toNat < ns.length := by omega
      refine ⟨_, rfl, _, rfl, a, _, _, .int ns[k.toNat], rfl, rfl, hS, at_of (j := k.toNat) (by omega) ?_, ?_⟩
      · rw [List.getElem?_map, List.getElem?_eq_getElem hl]
        rfl
      · exact g _ (hb _ (List.getElem_mem hl))
    · exact g 0 (Nat.pow_pos (by decide))
def sp_draw : Sp := fun vs H Q _ => ∃ c k m : Int, vs = [.int c, .int k, .int m] ∧ 0 < m ∧ ∀ (r : Int) (H' : Hp), 0 ≤ r → r < m → Same H H' → Q (.int r) H'
theorem ok_draw (T : Txt K mg CSteps CLost CWon) : OkG P w K mg base CX0 1 "_law_draw" sp_draw := by
  refine OkG.of T.D__law_draw (fun _ _ => bd__law_draw) fun f fd F => F.ok sc__law_draw (fun vs H Q E h => ?_) (fun cdv A outer s H vs Q E hr h => ?_)
  · obtain ⟨c, k, m, rfl, _⟩ := h
    rfl
  · obtain ⟨c, k, m, rfl, hm, g⟩ := h
    refine ⟨_, (pss_cons (ps_set (i := 3) sc__law_draw.nd rfl (by first | exact Or.inl rfl | exact Or.inr rfl) (pe_tup (pa_cons pe_int (pa_cons pe_int (pa_cons pe_int (pa_cons pe_int (pa_cons pe_int (pa_cons pe_int (pa_cons pe_int (pa_cons pe_int (pa_cons pe_int (pa_cons pe_int (pa_cons pe_int (pa_cons pe_int (pa_cons pe_int (pa_cons pe_int (pa_cons pe_int (pa_cons pe_int pa_nil))))))))))))))))))
      (pss_one (ps_ret (pe_op op_mod (pe_op op_mod (pe_op op_add (pe_op op_mul (pv 0) pe_int) (pe_op op_mul (pv 1) pe_int)) (pe_ix ix_tup (pv 3) (pe_op op_mod (pv 1) pe_int) (fun _ _ => rfl))) (pv 2))))), ?_⟩
    refine ⟨(by show 16 ≤ sizeLine; decide), fun p np => ?_⟩
    obtain ⟨v, hv, pv⟩ := primes_at (i := k % 16) (Int.emod_nonneg _ (by decide)) (Int.emod_lt_of_pos _ (by decide))
    have hT : SqT K (upd H p (.tup (primes.map V.int))) p (primes.map V.int) := SqT.of upd_same
    refine ⟨_, rfl, _, _, rfl, rfl, .inr ⟨by decide, by decide⟩, _, rfl, _, _, rfl, rfl, .inr ⟨by decide, by decide⟩, _, _, rfl, rfl, ?_⟩
    refine ⟨_, rfl, _, rfl, _, _, rfl, rfl, (by show (0 : Int) < 16; decide), p, _, _, _, rfl, rfl, hT, hv, ?_⟩
    refine ⟨_, _, rfl, rfl, pv, _, rfl, _, _, rfl, rfl, hm, ?_⟩
    exact g _ _ (Int.emod_nonneg _ (by omega)) (Int.emod_lt_of_pos _ hm) (same_upd np)
end
end Tx
namespace TA
theorem lost_min {k : Int} (hk : 1 ≤ k) {n M x : Int} (hn : 0 ≤ n) (hM : n ≤ M) : lost k n (if x < M then x else M) = lost k n x := by
  cases e : (parts k n).getLast? with
  | none => rw [lost_nil (List.getLast?_eq_none_iff.mp e), lost_nil (List.getLast?_eq_none_iff.mp e)]
  | some y =>
    have hy := parts_le hk hn (List.mem_of_getLast? e)
    rw [lost_some e, lost_some e, Bool.eq_iff_iff, decide_eq_true_iff, decide_eq_true_iff]
    split <;> omega
theorem lost_none {k : Int} (hk : 1 ≤ k) (n : Int) : lost k n 0 = true := by
  cases e : (parts k n).getLast? with
  | none => exact lost_nil (List.getLast?_eq_none_iff.mp e)
  | some y =>
    have := parts_pos hk (List.mem_of_getLast? e)
    rw [lost_some e]
    exact decide_eq_true (by omega)
theorem won_far {k : Int} (hk : 1 ≤ k) {n l : Int} (hn : 0 ≤ n) (hl : n < l) : lost k n (l - 1) = lost k n l := by
  cases e : (parts k n).getLast? with
  | none => rw [lost_nil (List.getLast?_eq_none_iff.mp e), lost_nil (List.getLast?_eq_none_iff.mp e)]
  | some y =>
    have hy := parts_le hk hn (List.mem_of_getLast? e)
    rw [lost_some e, lost_some e, decide_eq_false (by omega), decide_eq_false (by omega)]
theorem won_near {k : Int} (hk : 1 ≤ k) {n l : Int} (hn : 0 ≤ n) (h1 : 1 ≤ l) (hl : l ≤ n) : (!lost k n (l - 1) || lost k (n - l) (k * l)) = !lost k n l := by
  cases e : (parts k n).getLast? with
  | none =>
    have := parts_nil hk hn (List.getLast?_eq_none_iff.mp e)
    omega
  | some y =>
    by_cases c : y ≤ l - 1
    · rw [lost_some e, lost_some e, decide_eq_false (by omega), decide_eq_false (by omega)]
      rfl
    · by_cases c2 : y = l
      · subst c2
        rw [(lost_less hk hn e).1, lost_some (L := y) e, decide_eq_false (p := y < y) (by omega)]
        simp
      · have hlost : lost k n l = true := by
          rw [lost_some e]
          exact decide_eq_true (by omega)
        rw [lost_taking hk hn hlost h1 hl (Int.le_refl _), hlost, lost_some e, decide_eq_true (by omega)]
        rfl
end TA
namespace Tx
open PySem PySem.Spec PyProof.Rows L2 Tk TA
abbrev DK := List (List L2.Key × V)
/-- the key of a heap and a limit -/
def kk (n l : Int) : List L2.Key := [.inl n, .inl l]
theorem kk_inj {a b c d : Int} (e : kk a b = kk c d) : a = c ∧ b = d := by
  unfold kk at e
  injection e with e1 e2
  injection e2 with e2 _
  injection e1 with e1
  injection e2 with e2
  exact ⟨e1, e2⟩
/-- what is told so far: all heaps below i, of i all limits below j -/
def Has (k M : Int) (kvs : DK) (i j : Int) : Prop := ∀ n l : Int, 0 ≤ n → 0 ≤ l → l ≤ M → (n < i ∨ (n = i ∧ l < j)) → valV kvs (kk n l) = some (.bl (!lost k n l))
def Keys (M : Int) (kvs : DK) : Prop := ∀ p ∈ kvs, ∃ n l : Int, p.1 = kk n l ∧ 0 ≤ n ∧ n ≤ M ∧ 0 ≤ l ∧ l ≤ M
theorem mem_putK {kvs : DK} {k : List L2.Key} {v : V} {p : List L2.Key × V} (h : p ∈ putK kvs k v) : p.1 = k ∨ p ∈ kvs ∨ ∃ p' ∈ kvs, p.1 = p'.1 := by
  unfold putK at h
  split at h
  · obtain ⟨p', hp, e⟩ := List.mem_map.mp h
    right
    right
    refine ⟨p', hp, ?_⟩
    rw [← e]
    split <;> rfl
  · rcases List.mem_append.mp h with q | q
    · exact .inr (.inl q)
    · exact .inl (by rw [List.mem_singleton.mp q])
theorem Keys.put {M : Int} {kvs : DK} (K : Keys M kvs) {n l : Int} {v : V} (h0 : 0 ≤ n) (h1 : n ≤ M) (h2 : 0 ≤ l) (h3 : l ≤ M) : Keys M (putK kvs (kk n l) v) := fun p hp => by
  rcases mem_putK hp with e | e | ⟨p', hp', e⟩
  · exact ⟨n, l, e, h0, h1, h2, h3⟩
  · exact K p e
  · rw [e]
    exact K p' hp'
theorem putK_len (kvs : DK) (k : List L2.Key) (v : V) : (putK kvs k v).length ≤ kvs.length + 1 := by
  unfold putK
  split
  · rw [List.length_map]
    omega
  · rw [List.length_append]
    exact Nat.le_refl _
theorem Has.put {k M : Int} {kvs : DK} {i j : Int} (Hs : Has k M kvs i j) : Has k M (putK kvs (kk i j) (.bl (!lost k i j))) i (j + 1) := fun n l h0 h1 h2 h3 => by
  rw [valV_put]
  by_cases c : kk n l = kk i j
  · obtain ⟨rfl, rfl⟩ := kk_inj c
    rw [if_pos rfl]
  · rw [if_neg c]
    refine Hs n l h0 h1 h2 ?_
    rcases h3 with q | ⟨q1, q2⟩
    · exact .inl q
    · refine .inr ⟨q1, ?_⟩
      by_cases c2 : l = j
      · exact absurd (by rw [q1, c2]) c
      · omega
section
variable {P : Program} {w : World} {K : PySem.W.Frag} {mg : Str → Option Value} {base : Heap} {CSteps CLost CWon : Addr}
def sp_law_won : Sp := fun vs H Q _ => ∃ (k M : Int), vs = [.int k, .int M] ∧ 1 ≤ k ∧ k ≤ 30 ∧ 0 ≤ M ∧ M ≤ 100 ∧ ∀ (H' : Hp) (d : Addr) (kvs : DK), Same H H' → H d = none → H' d = some (.dT kvs) → Has k M kvs (M + 1) 0 → Keys M kvs → Q (.ref d) H'
theorem ok_law_won (T : Txt K mg CSteps CLost CWon) : OkG P w K mg base CX0 1 "_law_won" sp_law_won := by
  refine OkG.of T.D__law_won (fun _ _ => bd__law_won) fun f fd F => F.ok sc__law_won (fun vs H Q E h => ?_) (fun cdv A outer s H vs Q E hr h => ?_)
  · obtain ⟨k, M, rfl, _⟩ := h
    rfl
  · obtain ⟨k, M, rfl, hk, hk30, hM, hM2, g⟩ := h
    have hu := hu_of hr
    refine ⟨_, (pss_cons (ps_set (i := 2) sc__law_won.nd rfl (by first | exact Or.inl rfl | exact Or.inr rfl) pe_dnewT)
      (pss_cons (ps_for PassesOwn.never rfl (pi_range1 (by rfl) T.b_range (pa_cons (pe_op op_add (pv 1) pe_int) pa_nil)) (pg_name (i := 3) sc__law_won.nd rfl (by first | exact Or.inl rfl | exact Or.inr rfl)) (pss_cons (ps_dput hu (pv 2) (pe_tup (pa_cons (pv 3) (pa_cons pe_int pa_nil))) pe_bl rfl)
      (pss_one (ps_for PassesOwn.never rfl (pi_range2 (by rfl) T.b_range (pa_cons pe_int (pa_cons (pe_op op_add (pv 1) pe_int) pa_nil))) (pg_name (i := 4) sc__law_won.nd rfl (by first | exact Or.inl rfl | exact Or.inr rfl)) (pss_cons (ps_set (i := 5) sc__law_won.nd rfl (by first | exact Or.inl rfl | exact Or.inr rfl) (pe_dget hu (pv 2) (pe_tup (pa_cons (pv 3) (pa_cons (pe_op op_sub (pv 4) pe_int) pa_nil))) (fun _ _ => rfl)))
      (pss_cons (ps_if (pt_cmpR op_le (pv 4) (pv 3) (nomark _)) (pss_one (ps_set (i := 5) sc__law_won.nd rfl (by first | exact Or.inl rfl | exact Or.inr rfl) (pe_or (pv 5) (pe_one (pe_not (pe_dget hu (pv 2) (pe_tup (pa_cons (pe_op op_sub (pv 3) (pv 4)) (pa_cons (pe_callB (call_min2 rfl) (by rfl) T.b_min (by decide +kernel) (pa_cons (pv 1) (pa_cons (pe_op op_mul (pv 0) (pv 4)) pa_nil))) pa_nil))) (fun _ _ => rfl))))))) pss_nil)
      (pss_one (ps_dput hu (pv 2) (pe_tup (pa_cons (pv 3) (pa_cons (pv 4) pa_nil))) (pv 5) rfl))))))))
      (pss_one (ps_ret (pv 2))))), ?_⟩
    intro d hd
    obtain ⟨m, rfl⟩ : ∃ m : Nat, M = m := ⟨M.toNat, by omega⟩
    refine ⟨_, rfl, _, _, rfl, rfl, _, rfl, by omega, by omega, ?_⟩
    rw [show ((m : Int) + 1).toNat = m + 1 by omega]
    refine for_range (lo := 0) (n := m + 1) (fun i σ H' => ∃ (u3 u4 u5 : Option V) (kvs : DK), σ = [some (.int k), some (.int m), some (.ref d), u3, u4, u5] ∧ Same H H' ∧ H' d = some (.dT kvs) ∧ Has k m kvs i 0 ∧ Keys m kvs ∧ kvs.length ≤ i * 200)
      ⟨none, none, none, [], rfl, same_upd hd, upd_same, fun n l h0 _ _ h3 => by omega, fun p hp => (by cases hp), by simp⟩ ?_ ?_
    · rintro i σ H1 hi ⟨u3, u4, u5, kvs, rfl, s1, hD, hs, hkeys, hlen⟩
      rw [show (0 : Int) + (i : Int) = i by omega]
      -- found[(heap, 0)] = False
      refine ⟨_, rfl, _, rfl, (by show 2 ≤ sizeLine; decide), fun t nt => ?_⟩
      have hD1 : (upd H1 t (.tup [.int i, .int 0])) d = some (.dT kvs) := by rw [upd_ne (ne_of_none hD nt)]; exact hD
      refine ⟨d, _, rfl, DPut.t (k := kk i 0) hD1 upd_same (by rw [sizeLine_eq]; omega), ?_⟩
      have l0 := lost_none hk (i : Int)
      have hs1 : Has k m (putK kvs (kk i 0) (.bl false)) i (0 + 1) := by
        have := hs.put
        rw [l0] at this
        exact this
      refine ⟨_, rfl, _, _, rfl, rfl, 1, _, rfl, ⟨by decide, by decide, by omega, by omega⟩, ?_⟩
      rw [show ((m : Int) + 1 - 1).toNat = m by omega]
      refine for_range (lo := 1) (n := m) (fun j σ H' => ∃ (u4 u5 : Option V) (kvs : DK), σ = [some (.int k), some (.int m), some (.ref d), some (.int i), u4, u5] ∧ Same H H' ∧ H' d = some (.dT kvs) ∧ Has k m kvs i (1 + (j : Int)) ∧ Keys m kvs ∧ kvs.length ≤ i * 200 + 1 + j)
        ⟨u4, u5, _, rfl, same_new (same_lst s1 nt) hd, upd_same, (by rw [show (1 + ((0 : Nat) : Int)) = (0 : Int) + 1 by rfl]; exact hs1), hkeys.put (by omega) (by omega) (by omega) (by omega), by have := putK_len kvs (kk i 0) (.bl false); omega⟩ ?_ ?_
      · rintro j σ H2 hj ⟨u4, u5, kvs2, rfl, s2, hD2, hs2, hkeys2, hlen2⟩
        have em : (m : Int) < 2 ^ 62 := by omega
        -- good = found[(heap, limit - 1)]
        refine ⟨_, rfl, _, rfl, _, rfl, _, _, rfl, rfl, (by show 2 ≤ sizeLine; decide), fun t2 nt2 => ?_⟩
        have hD3 : (upd H2 t2 (.tup [.int i, .int (1 + (j : Int) - 1)])) d = some (.dT kvs2) := by rw [upd_ne (ne_of_none hD2 nt2)]; exact hD2
        have g1 := DGet.t (k := kk i (1 + (j : Int) - 1)) hD3 upd_same
        rw [hs2 i (1 + (j : Int) - 1) (by omega) (by omega) (by omega) (.inr ⟨rfl, by omega⟩)] at g1
        refine ⟨d, _, rfl, g1, ?_⟩
        have s3 : Same H (upd H2 t2 (.tup [.int i, .int (1 + (j : Int) - 1)])) := same_lst s2 nt2
        have put : ∀ (H4 : Hp), Same H H4 → H4 d = some (.dT kvs2) → ∀ t3, H4 t3 = none → ∃ (a : Addr) (H5 : Hp), V.ref d = .ref a ∧ DPut (upd H4 t3 (.tup [.int i, .int (1 + (j : Int))])) a (.ref t3) (.bl (!lost k i (1 + (j : Int)))) H5 ∧
            ∃ (u4' u5' : Option V) (kvs' : DK), [some (V.int k), some (.int m), some (.ref d), some (.int i), some (.int (1 + (j : Int))), some (.bl (!lost k i (1 + (j : Int))))] = [some (V.int k), some (.int m), some (.ref d), some (.int i), u4', u5'] ∧ Same H H5 ∧ H5 d = some (.dT kvs') ∧ Has k m kvs' i (1 + ((j + 1 : Nat) : Int)) ∧ Keys m kvs' ∧ kvs'.length ≤ i * 200 + 1 + (j + 1) := by
          intro H4 s4 hD4 t3 nt3
          have hD5 : (upd H4 t3 (.tup [.int i, .int (1 + (j : Int))])) d = some (.dT kvs2) := by rw [upd_ne (ne_of_none hD4 nt3)]; exact hD4
          refine ⟨d, _, rfl, DPut.t (k := kk i (1 + (j : Int))) hD5 upd_same (by rw [sizeLine_eq]; omega), _, _, _, rfl, same_new (same_lst s4 nt3) hd, upd_same, ?_, hkeys2.put (by omega) (by omega) (by omega) (by omega), by have := putK_len kvs2 (kk i (1 + (j : Int))) (.bl (!lost k i (1 + (j : Int)))); omega⟩
          have := hs2.put
          rw [show (1 + ((j + 1 : Nat) : Int)) = 1 + (j : Int) + 1 by omega]
          exact this
        refine ⟨_, rfl, _, rfl, _, _, rfl, rfl, _, rfl, ?_⟩
        refine ite2 (fun c => ?_) (fun c => ?_)
        · have c := of_decide_eq_true c
          refine ⟨_, rfl, _, rfl, ?_⟩
          have near := won_near hk (n := i) (l := 1 + (j : Int)) (by omega) (by omega) c
          refine ite2 (fun b => ?_) (fun b => ?_)
          · -- so far it is won
            rw [b] at near
            refine ⟨_, rfl, _, rfl, _, rfl, _, rfl, (by show 2 ≤ sizeLine; decide), fun t3 nt3 => ?_⟩
            have := put _ s3 hD3 t3 nt3
            rw [← near] at this
            exact this
          · have b : (!lost k i (1 + (j : Int) - 1)) = false := by simpa using b
            rw [b] at near
            refine ⟨_, rfl, _, rfl, _, rfl, _, _, rfl, rfl, _, rfl, _, rfl, _, rfl, _, _, rfl, rfl, .inl ⟨by omega, by omega⟩, _, _, rfl, (by show 2 ≤ sizeLine; decide), fun t4 nt4 => ?_⟩
            have hD6 : ∀ o, (upd (upd H2 t2 (.tup [.int i, .int (1 + (j : Int) - 1)])) t4 o) d = some (.dT kvs2) := fun o => by rw [upd_ne (ne_of_none hD3 nt4)]; exact hD3
            have g2 := DGet.t (k := kk ((i : Int) - (1 + (j : Int))) (if k * (1 + (j : Int)) < m then k * (1 + (j : Int)) else m)) (hD6 _) upd_same
            have kp : 0 ≤ k * (1 + (j : Int)) := Int.mul_nonneg (by omega) (by omega)
            rw [hs2 _ _ (by omega) (by split <;> omega) (by split <;> omega) (.inl (by omega)), lost_min hk (by omega) (by omega)] at g2
            refine ⟨d, _, rfl, g2, _, rfl, ?_⟩
            rw [Bool.not_not]
            refine ⟨_, rfl, _, rfl, _, rfl, _, rfl, (by show 2 ≤ sizeLine; decide), fun t3 nt3 => ?_⟩
            have := put _ (same_lst s3 nt4) (hD6 _) t3 nt3
            rw [← near, Bool.false_or] at this
            exact this
        · have c : ¬ (1 + (j : Int)) ≤ i := fun z => c (decide_eq_true z)
          refine ⟨_, rfl, _, rfl, _, rfl, _, rfl, (by show 2 ≤ sizeLine; decide), fun t3 nt3 => ?_⟩
          have := put _ s3 hD3 t3 nt3
          rw [← won_far hk (n := i) (l := 1 + (j : Int)) (by omega) (by omega)] at this
          exact this
      · rintro σ H2 ⟨u4, u5, kvs2, rfl, s2, hD2, hs2, hkeys2, hlen2⟩
        refine ⟨_, _, _, kvs2, rfl, s2, hD2, fun n l h0 h1 h2 h3 => hs2 n l h0 h1 h2 ?_, hkeys2, by omega⟩
        omega
    · rintro σ H1 ⟨u3, u4, u5, kvs, rfl, s1, hD, hs, hkeys, hlen⟩
      exact ⟨_, rfl, g H1 d kvs s1 hd hD hs hkeys⟩
def sp_right : Sp := fun vs H Q _ => ∃ (k M : Int), vs = [.int k, .int M] ∧ 1 ≤ k ∧ k ≤ 30 ∧ 0 ≤ M ∧ M ≤ 100 ∧ ∀ (H' : Hp), Q (.bl true) H'
theorem ok_right (T : Txt K mg CSteps CLost CWon) : OkG P w K mg base CX0 6 "_law_right" sp_right := by
  have G__law_won : OkG P w K mg base CX0 1 "_law_won" sp_law_won := ok_law_won T
  have G_told : OkG P w K mg base CX0 5 "told" (sp_told CLost CWon) := ok_told T
  refine OkG.of T.D__law_right (fun _ _ => bd__law_right) fun f fd F => F.ok sc__law_right (fun vs H Q E h => ?_) (fun cdv A outer s H vs Q E hr h => ?_)
  · obtain ⟨k, M, rfl, _⟩ := h
    rfl
  · obtain ⟨k, M, rfl, hk, hk30, hM, hM2, g⟩ := h
    have hu := hu_of hr
    refine ⟨_, (pss_cons (ps_set (i := 2) sc__law_right.nd rfl (by first | exact Or.inl rfl | exact Or.inr rfl) (pe_callO G__law_won (hr.mono (by first | decide | exact Nat.le_refl _)) (by rfl) pass0 (pa_cons (pv 0) (pa_cons (pv 1) pa_nil))))
      (pss_cons (ps_lock (ps_for PassesOwn.never rfl (pi_keys (pv 2)) (pg_tup (by rfl) (pgs_cons (pg_name (i := 3) sc__law_right.nd rfl (by first | exact Or.inl rfl | exact Or.inr rfl)) (pgs_cons (pg_name (i := 4) sc__law_right.nd rfl (by first | exact Or.inl rfl | exact Or.inr rfl)) pgs_nil))) (pss_cons (ps_set (i := 5) sc__law_right.nd rfl (by first | exact Or.inl rfl | exact Or.inr rfl) (pe_callO G_told (hr.mono (by first | decide | exact Nat.le_refl _)) (by rfl) pass0 (pa_cons (pv 0) (pa_cons (pv 3) (pa_cons (pv 4) pa_nil)))))
      (pss_cons (ps_if (PW.pt (pw_or (pt_cmpR op_ne (pe_callB call_isi (by rfl) T.b_isinstance (by decide +kernel) (pa_cons (pv 5) (pa_cons (pe_glob (v := .ref CWon) (by rfl) T.e_Won rfl) pa_nil))) (pe_dget hu (pv 2) (pe_tup (pa_cons (pv 3) (pa_cons (pv 4) pa_nil))) (fun _ _ => rfl)) (nomark _)) (pw_or1 (pt_cmpR op_eq (pe_callB call_isi (by rfl) T.b_isinstance (by decide +kernel) (pa_cons (pv 5) (pa_cons (pe_glob (v := .ref CWon) (by rfl) T.e_Won rfl) pa_nil))) (pe_callB call_isi (by rfl) T.b_isinstance (by decide +kernel) (pa_cons (pv 5) (pa_cons (pe_glob (v := .ref CLost) (by rfl) T.e_Lost rfl) pa_nil))) (nomark _))))) (pss_one (ps_ret pe_bl)) pss_nil)
      (pss_one (ps_if (pt_val (pe_callB call_isi (by rfl) T.b_isinstance (by decide +kernel) (pa_cons (pv 5) (pa_cons (pe_glob (v := .ref CWon) (by rfl) T.e_Won rfl) pa_nil)))) (pss_cons (ps_if (pt_not (pt_chain op_le op_le pe_int (pe_fld (pv 5) rfl) (pe_callB (call_min2 rfl) (by rfl) T.b_min (by decide +kernel) (pa_cons (pv 3) (pa_cons (pv 4) pa_nil))))) (pss_one (ps_ret pe_bl)) pss_nil)
      (pss_one (ps_if (pt_val (pe_dget hu (pv 2) (pe_tup (pa_cons (pe_op op_sub (pv 3) (pe_fld (pv 5) rfl)) (pa_cons (pe_callB (call_min2 rfl) (by rfl) T.b_min (by decide +kernel) (pa_cons (pv 1) (pa_cons (pe_op op_mul (pv 0) (pe_fld (pv 5) rfl)) pa_nil))) pa_nil))) (fun _ _ => rfl))) (pss_one (ps_ret pe_bl)) pss_nil))) pss_nil))))))
      (pss_one (ps_ret pe_bl)))), ?_⟩
    refine ⟨_, rfl, _, rfl, k, M, rfl, hk, hk30, hM, hM2, fun H1 d kvs s1 nd hD hs hkeys => ?_⟩
    have at_ : ∀ n l : Int, 0 ≤ n → n ≤ M → 0 ≤ l → l ≤ M → valV kvs (kk n l) = some (.bl (!lost k n l)) := fun n l h0 h1 h2 h3 => hs n l h0 h2 h3 (.inl (by omega))
    refine ⟨d, _, hD, trivial, fun od => ?_⟩
    generalize hG : upd H1 d (.frz od (.dT kvs)) = H2
    have hD2 : H2 d = some (.frz od (.dT kvs)) := by rw [← hG, upd_same]
    refine ⟨_, rfl, d, od, rfl, .inr ⟨kvs, hD2, ?_⟩⟩
    refine ⟨fun i m σ H' => m = kvs.length - i ∧ i ≤ kvs.length ∧ (∃ u3 u4 u5 : Option V, σ = [some (.int k), some (.int M), some (.ref d), u3, u4, u5]) ∧ H' d = some (.frz od (.dT kvs)), ⟨_, rfl, Nat.zero_le _, ⟨none, none, none, rfl⟩, hD2⟩, ?_⟩
    rintro i m σ H3 ⟨rfl, hi, ⟨u3, u4, u5, rfl⟩, hD3⟩
    by_cases hlt : i < kvs.length
    · refine .inr ⟨⟨hD3, hlt⟩, fun σ' H' => (∃ u3 u4 u5 : Option V, σ' = [some (.int k), some (.int M), some (.ref d), u3, u4, u5]) ∧ H' d = some (.frz od (.dT kvs)), ?_, ?_⟩
      · rintro σ' H' ⟨a, b⟩
        exact ⟨_, by omega, rfl, hlt, a, b⟩
      · rintro x H4 ⟨rfl, key, v, q, hkv, rfl, hq⟩
        obtain ⟨n, l, ekey, n0, n1, l0, l1⟩ := hkeys (key, v) (List.mem_of_getElem? hkv)
        have ekey : key = kk n l := ekey
        subst ekey
        refine ⟨q, _, rfl, SqT.of hq, rfl, _, _, rfl, _, _, rfl, rfl, ?_⟩
        have dget : ∀ (H5 : Hp) (t : Addr) (n l : Int), 0 ≤ n → n ≤ M → 0 ≤ l → l ≤ M → H5 d = some (.frz od (.dT kvs)) → H5 t = none → ∃ a v, V.ref d = .ref a ∧ DGet (upd H5 t (.tup [.int n, .int l])) a (.ref t) (some v) ∧ v = .bl (!lost k n l) := by
          intro H5 t n l n0 n1 l0 l1 h5 nt
          refine ⟨d, _, rfl, .inr ⟨kvs, kk n l, t, .inr ⟨od, ?_⟩, rfl, upd_same, (at_ n l n0 n1 l0 l1).symm⟩, rfl⟩
          rw [upd_ne (ne_of_none h5 nt)]
          exact h5
        refine ⟨_, rfl, _, rfl, _, rfl, k, n, l, 7, rfl, hk, hk30, n0, l0, by omega, by decide, ?_, ?_⟩
        · -- lost
          intro H5 x l2 hlost s5 nx nl2 A5
          obtain ⟨dx, hx⟩ := A5.ob
          have h5 := s5 _ _ hD3
          refine ⟨_, rfl, _, _, _, _, false, rfl, .own _, T.tyLost hx, T.kt_Lost_Won, ?_⟩
          refine ⟨_, rfl, _, rfl, _, rfl, (by show 2 ≤ sizeLine; decide), fun t nt => ?_⟩
          obtain ⟨a, v, e1, e2, e3⟩ := dget H5 t n l n0 n1 l0 l1 h5 nt
          have hx' : (upd H5 t (.tup [.int n, .int l])) x = some (.ins CLost dx (fL l2)) := by rw [upd_ne (ne_of_none hx nt)]; exact hx
          refine ⟨a, v, e1, e2, ?_⟩
          rw [e3, hlost]
          refine ⟨rfl, _, rfl, iteNS rfl ?_⟩
          refine ⟨_, rfl, _, _, _, _, false, rfl, .own _, T.tyLost hx', T.kt_Lost_Won, _, rfl, _, _, _, _, true, rfl, .own _, T.tyLost hx', T.kt_Lost_Lost, rfl, _, rfl, ?_⟩
          refine iteF ?_
          refine ⟨_, rfl, _, _, _, _, false, rfl, .own _, T.tyLost hx', T.kt_Lost_Won, _, rfl, iteF ?_⟩
          refine ⟨⟨_, _, _, rfl⟩, ?_⟩
          rw [upd_ne (ne_of_none h5 nt)]
          exact h5
        · -- won
          intro H5 x t0 hwon hlast s5 nx ⟨dx, hx⟩
          have h5 := s5 _ _ hD3
          obtain ⟨ls, t1, tn⟩ := lost_less hk n0 hlast
          have tl : t0 ≤ l := (not_lost hlast).mp hwon
          refine ⟨_, rfl, _, _, _, _, true, rfl, .own _, T.tyWon hx, T.kt_Won_Won, ?_⟩
          refine ⟨_, rfl, _, rfl, _, rfl, (by show 2 ≤ sizeLine; decide), fun t nt => ?_⟩
          obtain ⟨a, v, e1, e2, e3⟩ := dget H5 t n l n0 n1 l0 l1 h5 nt
          have hx' : (upd H5 t (.tup [.int n, .int l])) x = some (.ins CWon dx (fW (.int t0))) := by rw [upd_ne (ne_of_none hx nt)]; exact hx
          have h6 : (upd H5 t (.tup [.int n, .int l])) d = some (.frz od (.dT kvs)) := by rw [upd_ne (ne_of_none h5 nt)]; exact h5
          refine ⟨a, v, e1, e2, ?_⟩
          rw [e3, hwon]
          refine ⟨rfl, _, rfl, iteNS rfl ?_⟩
          refine ⟨_, rfl, _, _, _, _, true, rfl, .own _, T.tyWon hx', T.kt_Won_Won, _, rfl, _, _, _, _, false, rfl, .own _, T.tyWon hx', T.kt_Won_Lost, rfl, _, rfl, ?_⟩
          refine iteF ?_
          refine ⟨_, rfl, _, _, _, _, true, rfl, .own _, T.tyWon hx', T.kt_Won_Won, _, rfl, iteT ?_⟩
          refine ⟨_, rfl, x, _, dx, _, _, rfl, hx', T.cl_Won, T.n_Won_taking, fW_taking _, _, _, rfl, rfl, _, rfl, ?_⟩
          rw [decide_eq_true t1]
          refine iteT ⟨_, rfl, _, rfl, _, _, rfl, _, _, rfl, rfl, _, rfl, ?_⟩
          rw [decide_eq_true (by split <;> omega)]
          refine iteF ?_
          refine ⟨_, rfl, _, rfl, _, rfl, x, _, dx, _, _, rfl, hx', T.cl_Won, T.n_Won_taking, fW_taking _, _, _, rfl, rfl, ?_⟩
          refine ⟨_, rfl, _, rfl, _, rfl, x, _, dx, _, _, rfl, hx', T.cl_Won, T.n_Won_taking, fW_taking _, _, _, rfl, rfl, .inl ⟨by omega, by omega⟩, _, _, rfl, (by show 2 ≤ sizeLine; decide), fun t' nt' => ?_⟩
          have kp : 0 ≤ k * t0 := Int.mul_nonneg (by omega) (by omega)
          obtain ⟨a', v', e1', e2', e3'⟩ := dget _ t' (n - t0) (if k * t0 < M then k * t0 else M) (by omega) (by omega) (by split <;> omega) (by split <;> omega) h6 nt'
          refine ⟨a', v', e1', e2', ?_⟩
          rw [e3', lost_min hk (by omega) (by omega), ls]
          refine ⟨_, rfl, iteF ?_⟩
          refine ⟨⟨_, _, _, rfl⟩, ?_⟩
          rw [upd_ne (ne_of_none h6 nt')]
          exact h6
    · refine .inl ⟨⟨hD3, by omega⟩, hD3, ?_⟩
      exact g _
/-! ### the law -/
def sp_law (K : PySem.W.Frag) : Sp := fun vs H Q _ => ∃ (a : Addr) (B : Nat), vs = [.ref a] ∧ Scr K H a B ∧ B ≤ 2000000 ∧ ∀ H' : Hp, Q (.bl true) H'
theorem ok_law (T : Txt K mg CSteps CLost CWon) {f : Addr} {fd : FuncData} (F : Fun K "law" "law" s_law f fd) : FnOk P w K mg base CX0 60 f fd ["_law_script"] (sp_law K) := by
  have G__law_cell_at : OkG P w K mg base CX0 1 "_law_cell_at" (sp_cell_at K) := ok_cell_at T
  have G__law_draw : OkG P w K mg base CX0 1 "_law_draw" sp_draw := ok_draw T
  have G__law_right : OkG P w K mg base CX0 6 "_law_right" sp_right := ok_right T
  refine F.ok sc_law (fun vs H Q E h => ?_) (fun cdv A outer s H vs Q E hr h => ?_)
  · obtain ⟨a, B, rfl, _⟩ := h
    rfl
  · obtain ⟨a, B, rfl, hS, hB, g⟩ := h
    refine ⟨_, (pss_cons (ps_set (i := 1) sc_law.nd rfl (by first | exact Or.inl rfl | exact Or.inr rfl) (pe_op op_mod (pe_callO G__law_cell_at (hr.mono (by first | decide | exact Nat.le_refl _)) (by rfl) pass0 (pa_cons (pv 0) (pa_cons pe_int pa_nil))) (pe_op op_pow pe_int pe_int)))
      (pss_cons (ps_if (pt_not (pt_val (pe_callO G__law_right (hr.mono (by first | decide | exact Nat.le_refl _)) (by rfl) pass0 (pa_cons (pe_op op_add pe_int (pe_callO G__law_draw (hr.mono (by first | decide | exact Nat.le_refl _)) (by rfl) pass0 (pa_cons (pv 1) (pa_cons pe_int (pa_cons pe_int pa_nil))))) (pa_cons (pe_op op_add pe_int (pe_callO G__law_draw (hr.mono (by first | decide | exact Nat.le_refl _)) (by rfl) pass0 (pa_cons (pv 1) (pa_cons pe_int (pa_cons pe_int pa_nil))))) pa_nil))))) (pss_one (ps_ret pe_bl)) pss_nil)
      (pss_one (ps_ret (pe_and (pe_callO G__law_right (hr.mono (by first | decide | exact Nat.le_refl _)) (by rfl) pass0 (pa_cons pe_int (pa_cons pe_int pa_nil))) (pe_one (pe_callO G__law_right (hr.mono (by first | decide | exact Nat.le_refl _)) (by rfl) pass0 (pa_cons (pe_op op_add pe_int (pe_callO G__law_draw (hr.mono (by first | decide | exact Nat.le_refl _)) (by rfl) pass0 (pa_cons (pv 1) (pa_cons pe_int (pa_cons pe_int pa_nil))))) (pa_cons pe_int pa_nil))))))))), ?_⟩
    refine ⟨_, rfl, a, 0, B, rfl, hS, (by decide), fun z hz => ?_⟩
    refine ⟨_, _, rfl, rfl, ⟨by decide, by decide, by decide⟩, _, _, rfl, rfl, (by show (0 : Int) < 10 ^ 18; decide), ?_⟩
    refine ⟨_, rfl, _, _, _, rfl, (by decide), fun r1 H1 r10 r11 s1 => ⟨_, _, rfl, rfl, ?_⟩⟩
    refine ⟨_, rfl, _, _, _, rfl, (by decide), fun r2 H2 r20 r21 s2 => ⟨_, _, rfl, rfl, ?_⟩⟩
    refine ⟨_, _, rfl, by omega, by omega, by omega, by omega, fun H3 => ⟨_, rfl, iteF ?_⟩⟩
    refine ⟨2, 18, rfl, (by decide), (by decide), (by decide), (by decide), fun H4 => ⟨_, rfl, iteT ?_⟩⟩
    refine ⟨_, rfl, _, _, _, rfl, (by decide), fun r3 H5 r30 r31 s5 => ⟨_, _, rfl, rfl, ?_⟩⟩
    exact ⟨_, _, rfl, by omega, by omega, by decide, by decide, fun H6 => g H6⟩
end
end Tx
namespace Tx
open PySem PySem.Spec PyProof.Rows L2 Tk TA
theorem all_mk {P : Program} {w : World} {K : PySem.W.Frag} {h : Heap} {mg : Str → Option Value} {fa CSteps CLost CWon f_is_whole f_check_factor f_check_heap f_Steps_init f_Steps_more f_steps_to f_parts_of f_Lost_init f_Won_init f_check_all f_told f__law_cell_at f__law_draw f__law_won f__law_right f_law : Addr} (X : K.In h) (G : h.Ns mainGlobals mg) (hfa : mg "law" = some (.ref fa))
    {od_is_whole an_is_whole od_check_factor an_check_factor od_check_heap an_check_heap od_Steps_init an_Steps_init od_Steps_more an_Steps_more od_steps_to an_steps_to od_parts_of an_parts_of od_Lost_init an_Lost_init od_Won_init an_Won_init od_check_all an_check_all od_told an_told od__law_cell_at an__law_cell_at od__law_draw an__law_draw od__law_won an__law_won od__law_right an__law_right od_law an_law : Option Addr} {sl_is_whole sl_check_factor sl_check_heap sl_Steps_init sl_Steps_more sl_steps_to sl_parts_of sl_Lost_init sl_Won_init sl_check_all sl_told sl__law_cell_at sl__law_draw sl__law_won sl__law_right sl_law : Array (Option Value)} {oc_is_whole kV_is_whole dc_is_whole pm_is_whole cd_is_whole ct_is_whole oc_check_factor kV_check_factor dc_check_factor pm_check_factor cd_check_factor ct_check_factor oc_check_heap kV_check_heap dc_check_heap pm_check_heap cd_check_heap ct_check_heap oc_Steps_init kV_Steps_init dc_Steps_init pm_Steps_init cd_Steps_init ct_Steps_init oc_Steps_more kV_Steps_more dc_Steps_more pm_Steps_more cd_Steps_more ct_Steps_more oc_steps_to kV_steps_to dc_steps_to pm_steps_to cd_steps_to ct_steps_to oc_parts_of kV_parts_of dc_parts_of pm_parts_of cd_parts_of ct_parts_of oc_Lost_init kV_Lost_init dc_Lost_init pm_Lost_init cd_Lost_init ct_Lost_init oc_Won_init kV_Won_init dc_Won_init pm_Won_init cd_Won_init ct_Won_init oc_check_all kV_check_all dc_check_all pm_check_all cd_check_all ct_check_all oc_told kV_told dc_told pm_told cd_told ct_told oc__law_cell_at kV__law_cell_at dc__law_cell_at pm__law_cell_at cd__law_cell_at ct__law_cell_at oc__law_draw kV__law_draw dc__law_draw pm__law_draw cd__law_draw ct__law_draw oc__law_won kV__law_won dc__law_won pm__law_won cd__law_won ct__law_won oc__law_right kV__law_right dc__law_right pm__law_right cd__law_right ct__law_right oc_law kV_law dc_law pm_law cd_law ct_law : Value} {t_GREATEST : _}
    (e_Steps : PySem.W.nsIn K mainGlobals "Steps" = some (some (.ref CSteps)))
    (e_Lost : PySem.W.nsIn K mainGlobals "Lost" = some (some (.ref CLost)))
    (e_Won : PySem.W.nsIn K mainGlobals "Won" = some (some (.ref CWon)))
    (a_is_whole : PySem.W.nsIn K mainGlobals "is_whole" = some (some (.ref f_is_whole)))
    (l_is_whole : K.lookup f_is_whole = some ⟨oc_is_whole, od_is_whole, .func (PySem.W.fnOf "is_whole" "is_whole" (defArgs s_is_whole) (defBody s_is_whole) (defScope s_is_whole) .none kV_is_whole dc_is_whole pm_is_whole an_is_whole cd_is_whole ct_is_whole), sl_is_whole⟩)
    (c_is_whole : PySem.W.codeIn K cd_is_whole "is_whole" = true)
    (k_is_whole : PySem.W.keepIn K (.ref f_is_whole) = true)
    (a_check_factor : PySem.W.nsIn K mainGlobals "check_factor" = some (some (.ref f_check_factor)))
    (l_check_factor : K.lookup f_check_factor = some ⟨oc_check_factor, od_check_factor, .func (PySem.W.fnOf "check_factor" "check_factor" (defArgs s_check_factor) (defBody s_check_factor) (defScope s_check_factor) .none kV_check_factor dc_check_factor pm_check_factor an_check_factor cd_check_factor ct_check_factor), sl_check_factor⟩)
    (c_check_factor : PySem.W.codeIn K cd_check_factor "check_factor" = true)
    (k_check_factor : PySem.W.keepIn K (.ref f_check_factor) = true)
    (a_check_heap : PySem.W.nsIn K mainGlobals "check_heap" = some (some (.ref f_check_heap)))
    (l_check_heap : K.lookup f_check_heap = some ⟨oc_check_heap, od_check_heap, .func (PySem.W.fnOf "check_heap" "check_heap" (defArgs s_check_heap) (defBody s_check_heap) (defScope s_check_heap) .none kV_check_heap dc_check_heap pm_check_heap an_check_heap cd_check_heap ct_check_heap), sl_check_heap⟩)
    (c_check_heap : PySem.W.codeIn K cd_check_heap "check_heap" = true)
    (k_check_heap : PySem.W.keepIn K (.ref f_check_heap) = true)
    (a_Steps_init : PySem.W.findIn K (.ref CSteps) "__init__" = some (some (.ref f_Steps_init)))
    (i_Steps_init : PySem.W.isFn K (.ref f_Steps_init) = true)
    (l_Steps_init : K.lookup f_Steps_init = some ⟨oc_Steps_init, od_Steps_init, .func (PySem.W.fnOf "__init__" "Steps.__init__" (defArgs s_Steps_init) (defBody s_Steps_init) (defScope s_Steps_init) .none kV_Steps_init dc_Steps_init pm_Steps_init an_Steps_init cd_Steps_init ct_Steps_init), sl_Steps_init⟩)
    (c_Steps_init : PySem.W.codeIn K cd_Steps_init "Steps.__init__" = true)
    (k_Steps_init : PySem.W.keepIn K (.ref f_Steps_init) = true)
    (a_Steps_more : PySem.W.findIn K (.ref CSteps) "more" = some (some (.ref f_Steps_more)))
    (i_Steps_more : PySem.W.isFn K (.ref f_Steps_more) = true)
    (l_Steps_more : K.lookup f_Steps_more = some ⟨oc_Steps_more, od_Steps_more, .func (PySem.W.fnOf "more" "Steps.more" (defArgs s_Steps_more) (defBody s_Steps_more) (defScope s_Steps_more) .none kV_Steps_more dc_Steps_more pm_Steps_more an_Steps_more cd_Steps_more ct_Steps_more), sl_Steps_more⟩)
    (c_Steps_more : PySem.W.codeIn K cd_Steps_more "Steps.more" = true)
    (k_Steps_more : PySem.W.keepIn K (.ref f_Steps_more) = true)
    (a_steps_to : PySem.W.nsIn K mainGlobals "steps_to" = some (some (.ref f_steps_to)))
    (l_steps_to : K.lookup f_steps_to = some ⟨oc_steps_to, od_steps_to, .func (PySem.W.fnOf "steps_to" "steps_to" (defArgs s_steps_to) (defBody s_steps_to) (defScope s_steps_to) .none kV_steps_to dc_steps_to pm_steps_to an_steps_to cd_steps_to ct_steps_to), sl_steps_to⟩)
    (c_steps_to : PySem.W.codeIn K cd_steps_to "steps_to" = true)
    (k_steps_to : PySem.W.keepIn K (.ref f_steps_to) = true)
    (a_parts_of : PySem.W.nsIn K mainGlobals "parts_of" = some (some (.ref f_parts_of)))
    (l_parts_of : K.lookup f_parts_of = some ⟨oc_parts_of, od_parts_of, .func (PySem.W.fnOf "parts_of" "parts_of" (defArgs s_parts_of) (defBody s_parts_of) (defScope s_parts_of) .none kV_parts_of dc_parts_of pm_parts_of an_parts_of cd_parts_of ct_parts_of), sl_parts_of⟩)
    (c_parts_of : PySem.W.codeIn K cd_parts_of "parts_of" = true)
    (k_parts_of : PySem.W.keepIn K (.ref f_parts_of) = true)
    (a_Lost_init : PySem.W.findIn K (.ref CLost) "__init__" = some (some (.ref f_Lost_init)))
    (i_Lost_init : PySem.W.isFn K (.ref f_Lost_init) = true)
    (l_Lost_init : K.lookup f_Lost_init = some ⟨oc_Lost_init, od_Lost_init, .func (PySem.W.fnOf "__init__" "Lost.__init__" (defArgs s_Lost_init) (defBody s_Lost_init) (defScope s_Lost_init) .none kV_Lost_init dc_Lost_init pm_Lost_init an_Lost_init cd_Lost_init ct_Lost_init), sl_Lost_init⟩)
    (c_Lost_init : PySem.W.codeIn K cd_Lost_init "Lost.__init__" = true)
    (k_Lost_init : PySem.W.keepIn K (.ref f_Lost_init) = true)
    (a_Won_init : PySem.W.findIn K (.ref CWon) "__init__" = some (some (.ref f_Won_init)))
    (i_Won_init : PySem.W.isFn K (.ref f_Won_init) = true)
    (l_Won_init : K.lookup f_Won_init = some ⟨oc_Won_init, od_Won_init, .func (PySem.W.fnOf "__init__" "Won.__init__" (defArgs s_Won_init) (defBody s_Won_init) (defScope s_Won_init) .none kV_Won_init dc_Won_init pm_Won_init an_Won_init cd_Won_init ct_Won_init), sl_Won_init⟩)
    (c_Won_init : PySem.W.codeIn K cd_Won_init "Won.__init__" = true)
    (k_Won_init : PySem.W.keepIn K (.ref f_Won_init) = true)
    (a_check_all : PySem.W.nsIn K mainGlobals "check_all" = some (some (.ref f_check_all)))
    (l_check_all : K.lookup f_check_all = some ⟨oc_check_all, od_check_all, .func (PySem.W.fnOf "check_all" "check_all" (defArgs s_check_all) (defBody s_check_all) (defScope s_check_all) .none kV_check_all dc_check_all pm_check_all an_check_all cd_check_all ct_check_all), sl_check_all⟩)
    (c_check_all : PySem.W.codeIn K cd_check_all "check_all" = true)
    (k_check_all : PySem.W.keepIn K (.ref f_check_all) = true)
    (a_told : PySem.W.nsIn K mainGlobals "told" = some (some (.ref f_told)))
    (l_told : K.lookup f_told = some ⟨oc_told, od_told, .func (PySem.W.fnOf "told" "told" (defArgs s_told) (defBody s_told) (defScope s_told) .none kV_told dc_told pm_told an_told cd_told ct_told), sl_told⟩)
    (c_told : PySem.W.codeIn K cd_told "told" = true)
    (k_told : PySem.W.keepIn K (.ref f_told) = true)
    (a__law_cell_at : PySem.W.nsIn K mainGlobals "_law_cell_at" = some (some (.ref f__law_cell_at)))
    (l__law_cell_at : K.lookup f__law_cell_at = some ⟨oc__law_cell_at, od__law_cell_at, .func (PySem.W.fnOf "_law_cell_at" "_law_cell_at" (defArgs s__law_cell_at) (defBody s__law_cell_at) (defScope s__law_cell_at) .none kV__law_cell_at dc__law_cell_at pm__law_cell_at an__law_cell_at cd__law_cell_at ct__law_cell_at), sl__law_cell_at⟩)
    (c__law_cell_at : PySem.W.codeIn K cd__law_cell_at "_law_cell_at" = true)
    (k__law_cell_at : PySem.W.keepIn K (.ref f__law_cell_at) = true)
    (a__law_draw : PySem.W.nsIn K mainGlobals "_law_draw" = some (some (.ref f__law_draw)))
    (l__law_draw : K.lookup f__law_draw = some ⟨oc__law_draw, od__law_draw, .func (PySem.W.fnOf "_law_draw" "_law_draw" (defArgs s__law_draw) (defBody s__law_draw) (defScope s__law_draw) .none kV__law_draw dc__law_draw pm__law_draw an__law_draw cd__law_draw ct__law_draw), sl__law_draw⟩)
    (c__law_draw : PySem.W.codeIn K cd__law_draw "_law_draw" = true)
    (k__law_draw : PySem.W.keepIn K (.ref f__law_draw) = true)
    (a__law_won : PySem.W.nsIn K mainGlobals "_law_won" = some (some (.ref f__law_won)))
    (l__law_won : K.lookup f__law_won = some ⟨oc__law_won, od__law_won, .func (PySem.W.fnOf "_law_won" "_law_won" (defArgs s__law_won) (defBody s__law_won) (defScope s__law_won) .none kV__law_won dc__law_won pm__law_won an__law_won cd__law_won ct__law_won), sl__law_won⟩)
    (c__law_won : PySem.W.codeIn K cd__law_won "_law_won" = true)
    (k__law_won : PySem.W.keepIn K (.ref f__law_won) = true)
    (a__law_right : PySem.W.nsIn K mainGlobals "_law_right" = some (some (.ref f__law_right)))
    (l__law_right : K.lookup f__law_right = some ⟨oc__law_right, od__law_right, .func (PySem.W.fnOf "_law_right" "_law_right" (defArgs s__law_right) (defBody s__law_right) (defScope s__law_right) .none kV__law_right dc__law_right pm__law_right an__law_right cd__law_right ct__law_right), sl__law_right⟩)
    (c__law_right : PySem.W.codeIn K cd__law_right "_law_right" = true)
    (k__law_right : PySem.W.keepIn K (.ref f__law_right) = true)
    (a_law : PySem.W.nsIn K mainGlobals "law" = some (some (.ref f_law)))
    (l_law : K.lookup f_law = some ⟨oc_law, od_law, .func (PySem.W.fnOf "law" "law" (defArgs s_law) (defBody s_law) (defScope s_law) .none kV_law dc_law pm_law an_law cd_law ct_law), sl_law⟩)
    (c_law : PySem.W.codeIn K cd_law "law" = true)
    (k_law : PySem.W.keepIn K (.ref f_law) = true)
    (hn_ : PySem.W.specialIn K (.builtin "object.__class__") "__get__" = some (some (.builtin "getset_descriptor.__get__")))
    (htk_ : PySem.W.takesIn K (.builtin "object.__class__") = some true)
    (hc_Lost : PySem.W.findIn K (.ref CLost) "__class__" = some (some (.builtin "object.__class__")))
    (hm_Lost : PySem.W.mroIn K CLost (.type "object") = some true)
    (hc_Won : PySem.W.findIn K (.ref CWon) "__class__" = some (some (.builtin "object.__class__")))
    (hm_Won : PySem.W.mroIn K CWon (.type "object") = some true)
    (ne_LW : CLost ≠ CWon)
    (is_Won : PySem.W.isClsIn K CWon = true)
    (tp_Won : PySem.W.typeIn K (.ref CWon) = some (.type "type"))
    (sb_Lost_Won : PySem.W.subIn K (.ref CLost) (.ref CWon) = some false)
    (is_Lost : PySem.W.isClsIn K CLost = true)
    (tp_Lost : PySem.W.typeIn K (.ref CLost) = some (.type "type"))
    (sb_Won_Lost : PySem.W.subIn K (.ref CWon) (.ref CLost) = some false)
    (mk_Steps : PySem.W.makesIn K CSteps = true)
    (kp_Steps : PySem.W.keepIn K (.ref CSteps) = true)
    (pg_Steps : PySem.W.plainGet K CSteps Str.empty = true)
    (hd_Steps : PySem.W.hasDictIn K CSteps = true)
    (po_Steps : PySem.W.plainOver K CSteps = true)
    (sa_Steps : PySem.W.findIn K (.ref CSteps) "__setattr__" = some (some (.builtin "object.__setattr__")))
    (n_Steps_factor : PySem.W.findIn K (.ref CSteps) "factor" = some none)
    (n_Steps_made : PySem.W.findIn K (.ref CSteps) "made" = some none)
    (n_Steps_least : PySem.W.findIn K (.ref CSteps) "least" = some none)
    (mk_Lost : PySem.W.makesIn K CLost = true)
    (kp_Lost : PySem.W.keepIn K (.ref CLost) = true)
    (pg_Lost : PySem.W.plainGet K CLost Str.empty = true)
    (hd_Lost : PySem.W.hasDictIn K CLost = true)
    (po_Lost : PySem.W.plainOver K CLost = true)
    (sa_Lost : PySem.W.findIn K (.ref CLost) "__setattr__" = some (some (.builtin "object.__setattr__")))
    (n_Lost_parts : PySem.W.findIn K (.ref CLost) "parts" = some none)
    (mk_Won : PySem.W.makesIn K CWon = true)
    (kp_Won : PySem.W.keepIn K (.ref CWon) = true)
    (pg_Won : PySem.W.plainGet K CWon Str.empty = true)
    (hd_Won : PySem.W.hasDictIn K CWon = true)
    (po_Won : PySem.W.plainOver K CWon = true)
    (sa_Won : PySem.W.findIn K (.ref CWon) "__setattr__" = some (some (.builtin "object.__setattr__")))
    (n_Won_taking : PySem.W.findIn K (.ref CWon) "taking" = some none)
    (z_range : PySem.W.nsIn K mainGlobals "range" = some none)
    (z_isinstance : PySem.W.nsIn K mainGlobals "isinstance" = some none)
    (z_int : PySem.W.nsIn K mainGlobals "int" = some none)
    (z_list : PySem.W.nsIn K mainGlobals "list" = some none)
    (z_len : PySem.W.nsIn K mainGlobals "len" = some none)
    (z_bool : PySem.W.nsIn K mainGlobals "bool" = some none)
    (z_min : PySem.W.nsIn K mainGlobals "min" = some none)
    (g_GREATEST : PySem.W.nsIn K mainGlobals "GREATEST" = some (some (.int 30 t_GREATEST)))
    : ∃ fd : FuncData, (∀ (s : Shared) (v : Value), BindsTo s fd ⟨[v], []⟩ [("_law_script", v)]) ∧ ∀ base : Heap, K.In base → base.Ns mainGlobals mg → FnOk P w K mg base CX0 60 fa fd ["_law_script"] (sp_law K) := by
  have e := hfa.symm.trans (PySem.W.mg_of X G a_law)
  cases e
  have T : Txt K mg CSteps CLost CWon := {
    D_is_whole := ⟨f_is_whole, _, PySem.W.mg_of X G a_is_whole, fun_mk (st := s_is_whole) l_is_whole c_is_whole k_is_whole⟩,
    D_check_factor := ⟨f_check_factor, _, PySem.W.mg_of X G a_check_factor, fun_mk (st := s_check_factor) l_check_factor c_check_factor k_check_factor⟩,
    D_check_heap := ⟨f_check_heap, _, PySem.W.mg_of X G a_check_heap, fun_mk (st := s_check_heap) l_check_heap c_check_heap k_check_heap⟩,
    D_Steps_init := ⟨f_Steps_init, _, ⟨a_Steps_init, i_Steps_init, k_Steps_init⟩, fun_mk (st := s_Steps_init) l_Steps_init c_Steps_init k_Steps_init⟩,
    D_Steps_more := ⟨f_Steps_more, _, ⟨a_Steps_more, i_Steps_more, k_Steps_more⟩, fun_mk (st := s_Steps_more) l_Steps_more c_Steps_more k_Steps_more⟩,
    D_steps_to := ⟨f_steps_to, _, PySem.W.mg_of X G a_steps_to, fun_mk (st := s_steps_to) l_steps_to c_steps_to k_steps_to⟩,
    D_parts_of := ⟨f_parts_of, _, PySem.W.mg_of X G a_parts_of, fun_mk (st := s_parts_of) l_parts_of c_parts_of k_parts_of⟩,
    D_Lost_init := ⟨f_Lost_init, _, ⟨a_Lost_init, i_Lost_init, k_Lost_init⟩, fun_mk (st := s_Lost_init) l_Lost_init c_Lost_init k_Lost_init⟩,
    D_Won_init := ⟨f_Won_init, _, ⟨a_Won_init, i_Won_init, k_Won_init⟩, fun_mk (st := s_Won_init) l_Won_init c_Won_init k_Won_init⟩,
    D_check_all := ⟨f_check_all, _, PySem.W.mg_of X G a_check_all, fun_mk (st := s_check_all) l_check_all c_check_all k_check_all⟩,
    D_told := ⟨f_told, _, PySem.W.mg_of X G a_told, fun_mk (st := s_told) l_told c_told k_told⟩,
    D__law_cell_at := ⟨f__law_cell_at, _, PySem.W.mg_of X G a__law_cell_at, fun_mk (st := s__law_cell_at) l__law_cell_at c__law_cell_at k__law_cell_at⟩,
    D__law_draw := ⟨f__law_draw, _, PySem.W.mg_of X G a__law_draw, fun_mk (st := s__law_draw) l__law_draw c__law_draw k__law_draw⟩,
    D__law_won := ⟨f__law_won, _, PySem.W.mg_of X G a__law_won, fun_mk (st := s__law_won) l__law_won c__law_won k__law_won⟩,
    D__law_right := ⟨f__law_right, _, PySem.W.mg_of X G a__law_right, fun_mk (st := s__law_right) l__law_right c__law_right k__law_right⟩,
    hn_ := hn_,
    htk_ := htk_,
    hc_Lost := hc_Lost,
    hm_Lost := hm_Lost,
    hc_Won := hc_Won,
    hm_Won := hm_Won,
    kt_Lost_Won := kit_own is_Won tp_Won sb_Lost_Won (fun _ => ne_LW),
    kt_Won_Won := kit_self,
    kt_Lost_Lost := kit_self,
    kt_Won_Lost := kit_own is_Lost tp_Lost sb_Won_Lost (fun _ => ne_LW.symm),
    e_Steps := PySem.W.mg_of X G e_Steps,
    mk_Steps := mk_Steps,
    kp_Steps := kp_Steps,
    cl_Steps := ⟨pg_Steps, hd_Steps, po_Steps, sa_Steps⟩,
    n_Steps_factor := n_Steps_factor,
    n_Steps_made := n_Steps_made,
    n_Steps_least := n_Steps_least,
    e_Lost := PySem.W.mg_of X G e_Lost,
    mk_Lost := mk_Lost,
    kp_Lost := kp_Lost,
    cl_Lost := ⟨pg_Lost, hd_Lost, po_Lost, sa_Lost⟩,
    n_Lost_parts := n_Lost_parts,
    e_Won := PySem.W.mg_of X G e_Won,
    mk_Won := mk_Won,
    kp_Won := kp_Won,
    cl_Won := ⟨pg_Won, hd_Won, po_Won, sa_Won⟩,
    n_Won_taking := n_Won_taking,
    b_range := PySem.W.mg_none_of X G z_range,
    b_isinstance := PySem.W.mg_none_of X G z_isinstance,
    b_int := PySem.W.mg_none_of X G z_int,
    b_list := PySem.W.mg_none_of X G z_list,
    b_len := PySem.W.mg_none_of X G z_len,
    b_bool := PySem.W.mg_none_of X G z_bool,
    b_min := PySem.W.mg_none_of X G z_min,
    m_GREATEST := ⟨t_GREATEST, PySem.W.mg_of X G g_GREATEST⟩ }
  exact ⟨PySem.W.fnOf "law" "law" (defArgs s_law) (defBody s_law) (defScope s_law) .none kV_law dc_law pm_law an_law cd_law ct_law, fun s v => .of_eq rfl, fun base _ _ => ok_law T (fun_mk (st := s_law) l_law c_law k_law)⟩
theorem walk {l : PySem.W.OpenLaw} {q : Program} {loose : List Str} {XP : (Str → Option Value) → Heap → Prop} {YP : World → Heap → Prop} {d : DefRec} {K : Params → PySem.W.Frag} (hn : l.most = some 63) (hdf : d.params.defaults = [])
    (hY : ∀ (w : World) (h : Heap), YP w h → (K w.params).In h)
    (F : ∀ (w : World) (mg : Str → Option Value) (fa : Addr) (h : Heap), (K w.params).In h → h.Ns mainGlobals mg → mg d.name = some (.ref fa) →
      ∃ fd : FuncData, (∀ (s : Shared) (u : Value), BindsTo s fd ⟨[u], []⟩ [("_law_script", u)]) ∧ ∀ base : Heap, (K w.params).In base → base.Ns mainGlobals mg → FnOk l.prog w (K w.params) mg base CX0 60 fa fd ["_law_script"] (sp_law (K w.params))) :
    PySem.W.WalkO q loose XP YP l.row.toRowW d [] (fun f vs => PySem.call f vs) :=
  L2.walk_ofB (n := 63) (k := 60) (x := "_law_script") (CX := fun _ => CX0) (sp := fun w => sp_law (K w.params)) hn (by decide) hdf ⟨rfl, by decide, by decide⟩ hY F (fun w H a ns hl hb _ hS => by
    obtain ⟨B, hB⟩ : ∃ B : Nat, B = 1048576 := ⟨_, rfl⟩
    exact ⟨a, B, rfl, ⟨ns, hS, hl, fun z hz => bits_abs (by rw [hB]; exact hb z hz)⟩, by omega, fun _ => rfl⟩) fun _ _ _ _ _ z => z
end Tx
open PySem PySem.W PyProof.Rows
set_option maxRecDepth 100000 in
set_option maxHeartbeats 0 in
theorem PySem.Challenge.cw_takeagain_k03_tried_holds : PySem.Challenge.rw_takeagain_k03_tried.Holds := by
  w_on; o_law; k_head; (case hw => w_witness2)
  k_fill
  refine Tx.walk (l := PySem.Challenge.rw_takeagain_k03_tried) rfl rfl (fun w h Y => PySem.W.kIn_of Y) ?F
  case F =>
    intro w mg fa h KX G hmg
    refine' Tx.all_mk KX G hmg ?e_Steps ?e_Lost ?e_Won ?a_is_whole ?l_is_whole ?c_is_whole ?k_is_whole ?a_check_factor ?l_check_factor ?c_check_factor ?k_check_factor ?a_check_heap ?l_check_heap ?c_check_heap ?k_check_heap ?a_Steps_init ?i_Steps_init ?l_Steps_init ?c_Steps_init ?k_Steps_init ?a_Steps_more ?i_Steps_more ?l_Steps_more ?c_Steps_more ?k_Steps_more ?a_steps_to ?l_steps_to ?c_steps_to ?k_steps_to ?a_parts_of ?l_parts_of ?c_parts_of ?k_parts_of ?a_Lost_init ?i_Lost_init ?l_Lost_init ?c_Lost_init ?k_Lost_init ?a_Won_init ?i_Won_init ?l_Won_init ?c_Won_init ?k_Won_init ?a_check_all ?l_check_all ?c_check_all ?k_check_all ?a_told ?l_told ?c_told ?k_told ?a__law_cell_at ?l__law_cell_at ?c__law_cell_at ?k__law_cell_at ?a__law_draw ?l__law_draw ?c__law_draw ?k__law_draw ?a__law_won ?l__law_won ?c__law_won ?k__law_won ?a__law_right ?l__law_right ?c__law_right ?k__law_right ?a_law ?l_law ?c_law ?k_law ?hn_ ?htk_ ?hc_Lost ?hm_Lost ?hc_Won ?hm_Won ?ne_LW ?is_Won ?tp_Won ?sb_Lost_Won ?is_Lost ?tp_Lost ?sb_Won_Lost ?mk_Steps ?kp_Steps ?pg_Steps ?hd_Steps ?po_Steps ?sa_Steps ?n_Steps_factor ?n_Steps_made ?n_Steps_least ?mk_Lost ?kp_Lost ?pg_Lost ?hd_Lost ?po_Lost ?sa_Lost ?n_Lost_parts ?mk_Won ?kp_Won ?pg_Won ?hd_Won ?po_Won ?sa_Won ?n_Won_taking ?z_range ?z_isinstance ?z_int ?z_list ?z_len ?z_bool ?z_min ?g_GREATEST
    (case e_Steps => k_is)
    (case e_Lost => k_is)
    (case e_Won => k_is)
    (case a_is_whole => k_is)
    (case l_is_whole => k_is)
    (case c_is_whole => k_is)
    (case k_is_whole => k_is)
    (case a_check_factor => k_is)
    (case l_check_factor => k_is)
    (case c_check_factor => k_is)
    (case k_check_factor => k_is)
    (case a_check_heap => k_is)
    (case l_check_heap => k_is)
    (case c_check_heap => k_is)
    (case k_check_heap => k_is)
    (case a_Steps_init => k_is)
    (case i_Steps_init => k_is)
    (case l_Steps_init => k_is)
    (case c_Steps_init => k_is)
    (case k_Steps_init => k_is)
    (case a_Steps_more => k_is)
    (case i_Steps_more => k_is)
    (case l_Steps_more => k_is)
    (case c_Steps_more => k_is)
    (case k_Steps_more => k_is)
    (case a_steps_to => k_is)
    (case l_steps_to => k_is)
    (case c_steps_to => k_is)
    (case k_steps_to => k_is)
    (case a_parts_of => k_is)
    (case l_parts_of => k_is)
    (case c_parts_of => k_is)
    (case k_parts_of => k_is)
    (case a_Lost_init => k_is)
    (case i_Lost_init => k_is)
    (case l_Lost_init => k_is)
    (case c_Lost_init => k_is)
    (case k_Lost_init => k_is)
    (case a_Won_init => k_is)
    (case i_Won_init => k_is)
    (case l_Won_init => k_is)
    (case c_Won_init => k_is)
    (case k_Won_init => k_is)
    (case a_check_all => k_is)
    (case l_check_all => k_is)
    (case c_check_all => k_is)
    (case k_check_all => k_is)
    (case a_told => k_is)
    (case l_told => k_is)
    (case c_told => k_is)
    (case k_told => k_is)
    (case a__law_cell_at => k_is)
    (case l__law_cell_at => k_is)
    (case c__law_cell_at => k_is)
    (case k__law_cell_at => k_is)
    (case a__law_draw => k_is)
    (case l__law_draw => k_is)
    (case c__law_draw => k_is)
    (case k__law_draw => k_is)
    (case a__law_won => k_is)
    (case l__law_won => k_is)
    (case c__law_won => k_is)
    (case k__law_won => k_is)
    (case a__law_right => k_is)
    (case l__law_right => k_is)
    (case c__law_right => k_is)
    (case k__law_right => k_is)
    (case a_law => k_is)
    (case l_law => k_is)
    (case c_law => k_is)
    (case k_law => k_is)
    (case hn_ => k_is)
    (case htk_ => k_is)
    (case hc_Lost => k_is)
    (case hm_Lost => k_is)
    (case hc_Won => k_is)
    (case hm_Won => k_is)
    (case ne_LW => decide)
    (case is_Won => k_is)
    (case tp_Won => k_is)
    (case sb_Lost_Won => k_is)
    (case is_Lost => k_is)
    (case tp_Lost => k_is)
    (case sb_Won_Lost => k_is)
    (case mk_Steps => k_is)
    (case kp_Steps => k_is)
    (case pg_Steps => k_is)
    (case hd_Steps => k_is)
    (case po_Steps => k_is)
    (case sa_Steps => k_is)
    (case n_Steps_factor => k_is)
    (case n_Steps_made => k_is)
    (case n_Steps_least => k_is)
    (case mk_Lost => k_is)
    (case kp_Lost => k_is)
    (case pg_Lost => k_is)
    (case hd_Lost => k_is)
    (case po_Lost => k_is)
    (case sa_Lost => k_is)
    (case n_Lost_parts => k_is)
    (case mk_Won => k_is)
    (case kp_Won => k_is)
    (case pg_Won => k_is)
    (case hd_Won => k_is)
    (case po_Won => k_is)
    (case sa_Won => k_is)
    (case n_Won_taking => k_is)
    (case z_range => k_is)
    (case z_isinstance => k_is)
    (case z_int => k_is)
    (case z_list => k_is)
    (case z_len => k_is)
    (case z_bool => k_is)
    (case z_min => k_is)
    (case g_GREATEST => k_is)
#print axioms PySem.Challenge.cw_takeagain_k03_tried_holds
