import PyProof.Rows.All
import Wide.All
import OpenK.AllK
import Wide.FinOn
import PyProof.EqAt
import PyProof.EqKinds
import PyProof.TupleCall
import HandS.ForMost
import HandS.Wide
import HandS.Style
import HandS.IsInst
import HandS.EndBits
import HandS.ForExc
import HandS.ExcIs
import HandS.ExcCtx
import HandS.HotCalls
import PySem.Challenge.RW_takeagain_k05_refused
set_option Elab.async false
set_option linter.all false
set_option maxRecDepth 100000
set_option maxHeartbeats 4000000
namespace Tk
open PySem PySem.Spec PyProof.Rows L2
/-! ### defs by their promises, addresses left aside -/
/-- a def of the text at the module's name x -/
def Dfn (K : PySem.W.Frag) (mg : Str → Option Value) (x : Str) (st : Stmt) : Prop := ∃ f fd, mg x = some (.ref f) ∧ Fun K x x st f fd
/-- a method m of the class at C -/
def Mdf (K : PySem.W.Frag) (C : Addr) (m q : Str) (st : Stmt) : Prop := ∃ f fd, Meth K C m f ∧ Fun K m q st f fd
section
variable (P : Program) (w : World) (K : PySem.W.Frag) (mg : Str → Option Value) (base : Heap) (CX : CXT)
/-- the def called x keeps the promise sp -/
def OkG (k : Nat) (x : Str) (sp : Sp) : Prop := ∃ f fd ps, mg x = some (.ref f) ∧ FnOk P w K mg base CX k f fd ps sp ∧ PySem.W.keepIn K (.ref f) = true ∧ Binds K fd ps []
/-- the method m of the class at C -/
def OkM (k : Nat) (C : Addr) (m : Str) (sp : Sp) : Prop := ∃ f fd ps, Cls K C ∧ Meth K C m f ∧ FnOk P w K mg base CX k f fd ps sp ∧ Binds K fd ps []
/-- the class at C, called x, with an own __init__ -/
def OkC (k : Nat) (x : Str) (C : Addr) (sp : Sp) : Prop := ∃ f fd ps, mg x = some (.ref C) ∧ Mk K C f ∧ FnOk P w K mg base CX k f fd ps sp ∧ Binds K fd ps []
end
section
variable {P : Program} {w : World} {K : PySem.W.Frag} {mg : Str → Option Value} {base : Heap} {CX : CXT} {k : Nat} {x m q : Str} {st : Stmt} {C : Addr} {sp : Sp} {ps : List Str}
theorem OkG.of (D : Dfn K mg x st) (b : ∀ f fd, Fun K x x st f fd → Binds K fd ps []) (h : ∀ f fd, Fun K x x st f fd → FnOk P w K mg base CX k f fd ps sp) : OkG P w K mg base CX k x sp := by
  obtain ⟨f, fd, e, F⟩ := D
  exact ⟨f, fd, ps, e, h f fd F, F.kp, b f fd F⟩
theorem OkM.of (c : Cls K C) (D : Mdf K C m q st) (b : ∀ f fd, Fun K m q st f fd → Binds K fd ps []) (h : ∀ f fd, Fun K m q st f fd → FnOk P w K mg base CX k f fd ps sp) : OkM P w K mg base CX k C m sp := by
  obtain ⟨f, fd, e, F⟩ := D
  exact ⟨f, fd, ps, c, e, h f fd F, b f fd F⟩
theorem OkC.of (e : mg x = some (.ref C)) (mk : PySem.W.makesIn K C = true) (kp : PySem.W.keepIn K (.ref C) = true) (D : Mdf K C "__init__" q st) (b : ∀ f fd, Fun K "__init__" q st f fd → Binds K fd ps []) (h : ∀ f fd, Fun K "__init__" q st f fd → FnOk P w K mg base CX k f fd ps sp) : OkC P w K mg base CX k x C sp := by
  obtain ⟨f, fd, d, F⟩ := D
  exact ⟨f, fd, ps, e, ⟨mk, d.at_, d.fn, kp⟩, h f fd F, b f fd F⟩
end
/-- a call: the promise at the arguments -/
def tCallO (sp : Sp) (E : XK) (t : TA) : TE := fun σ H Q => t σ H fun vs H1 => sp vs H1 Q E
def tMethO (C : Addr) (m : Str) (sp : Sp) (E : XK) (ta : TE) (t : TA) : TE := fun σ H Q => ta σ H fun x H1 => ∃ a dx fs, x = .ref a ∧ H1 a = some (.ins C dx fs) ∧ fs.lookup m = none ∧ t σ H1 fun vs H2 => sp (x :: vs) H2 Q E
def tMakeO (C : Addr) (sp : Sp) (E : XK) (t : TA) : TE := fun σ H Q => t σ H fun vs H1 => ∀ x dx, H1 x = none → H1 dx = none → dx ≠ x →
  sp (.ref x :: vs) (upd (upd H1 dx (.own x)) x (.ins C dx [])) (fun v H2 => v = .non ∧ Q (.ref x) H2) E
section
variable {X : Cx} {CX : CXT} {k : Nat} {C : Addr} {sp : Sp} {E : XK} {x m : Str} {p pos apos : Pos} {e o : Expr} {es : List Expr} {ta : TE} {t : TA}
theorem pe_callO (O : OkG X.prog X.w X.K X.mg X.base CX k x sp) (hr : Room k X.A) (hg : Gl X x) (hx : Passes CX X E) (ha : PA X (e :: es) t) (hdb : (x == ("__debug__" : Str)) = false := by decide)
    (he : starEach (e :: es) X.env = (false, eval e X.env) :: starEach es X.env := by rfl) (hpl : (backTo pos (starEach es X.env)).any (·.1) = false := by rfl) : PE X (.Call (.Name x p) (e :: es) [] pos) (tCallO sp E t) := by
  obtain ⟨f, fd, ps, hm, F, hk, hb⟩ := O
  have h := pe_call (dvs := []) (p := p) (pos := pos) F hr hg hm hk hb .nil hx ha hdb he hpl
  refine ⟨fun pins s σ H Q I z => h.run pins s σ H Q I ?_⟩
  have e0 : (fun (vs : List V) (H1 : Hp) => sp (vs ++ []) H1 Q E) = fun vs H1 => sp vs H1 Q E := by
    funext vs H1
    rw [List.append_nil]
  show t σ H (fun vs H1 => sp (vs ++ []) H1 Q E)
  rw [e0]
  exact z
theorem pe_makeO (O : OkC X.prog X.w X.K X.mg X.base CX k x C sp) (hr : Room (k + 1) X.A) (hg : Gl X x) (hx : Passes CX X E) (ha : PA X (e :: es) t) (hdb : (x == ("__debug__" : Str)) = false := by decide)
    (he : starEach (e :: es) X.env = (false, eval e X.env) :: starEach es X.env := by rfl) (hpl : (backTo pos (starEach es X.env)).any (·.1) = false := by rfl) : PE X (.Call (.Name x p) (e :: es) [] pos) (tMakeO C sp E t) := by
  obtain ⟨f, fd, ps, hm, M, F, hb⟩ := O
  have h := pe_make (dvs := []) (p := p) (pos := pos) M F hr hg hm hb .nil hx ha hdb he hpl
  refine ⟨fun pins s σ H Q I z => h.run pins s σ H Q I ?_⟩
  have e0 : (fun (vs : List V) (H1 : Hp) => ∀ x dx, H1 x = none → H1 dx = none → dx ≠ x → sp (.ref x :: (vs ++ [])) (upd (upd H1 dx (.own x)) x (.ins C dx [])) (fun v H2 => v = .non ∧ Q (.ref x) H2) E) =
      fun vs H1 => ∀ x dx, H1 x = none → H1 dx = none → dx ≠ x → sp (.ref x :: vs) (upd (upd H1 dx (.own x)) x (.ins C dx [])) (fun v H2 => v = .non ∧ Q (.ref x) H2) E := by
    funext vs H1
    rw [List.append_nil]
  show t σ H _
  rw [e0]
  exact z
theorem pe_methO {pl : Sem Bool} (O : OkM X.prog X.w X.K X.mg X.base CX k C m sp) (hr : Room k X.A) (hx : Passes CX X E) (he : PE X o ta) (ha : PA X (e :: es) t)
    (hst : starEach (e :: es) X.env = (false, eval e X.env) :: starEach es X.env := by rfl) (hpl : (backTo pos (starEach es X.env)).any (·.1) = false := by rfl)
    (ht : eval (.Call (.Attribute o m apos) (e :: es) [] pos) X.env = (do
      let ov ← eval o X.env
      standAt apos.atName
      let (f, first) ← holding [ov] (getMethod ov m pl)
      callWith pos f first (backTo pos (starEach (e :: es) X.env)) (backToKw pos (keywordEach [] X.env))) := by rfl) :
    PE X (.Call (.Attribute o m apos) (e :: es) [] pos) (tMethO C m sp E ta t) := by
  obtain ⟨f, fd, ps, c, hm, F, hb⟩ := O
  have h := pe_meth (dvs := []) (pos := pos) (apos := apos) he c hm F hr hb .nil hx ha hst hpl ht
  refine ⟨fun pins s σ H Q I z => h.run pins s σ H Q I ?_⟩
  have e0 : ∀ x, (fun (vs : List V) (H1 : Hp) => sp (x :: (vs ++ [])) H1 Q E) = fun vs H1 => sp (x :: vs) H1 Q E := by
    intro x
    funext vs H1
    rw [List.append_nil]
  show ta σ H (fun x H1 => ∃ a dx fs, x = .ref a ∧ H1 a = some (.ins C dx fs) ∧ fs.lookup m = none ∧ t σ H1 fun vs H2 => sp (x :: (vs ++ [])) H2 Q E)
  simp only [e0]
  exact z
theorem pe_methO0 {pl : Sem Bool} (O : OkM X.prog X.w X.K X.mg X.base CX k C m sp) (hr : Room k X.A) (hx : Passes CX X E) (he : PE X o ta)
    (ht : eval (.Call (.Attribute o m apos) [] [] pos) X.env = (do
      let ov ← eval o X.env
      standAt apos.atName
      let (f, first) ← holding [ov] (getMethod ov m pl)
      callWith pos f first (backTo pos (starEach [] X.env)) (backToKw pos (keywordEach [] X.env))) := by rfl) :
    PE X (.Call (.Attribute o m apos) [] [] pos) (tMethO C m sp E ta tNil) := by
  obtain ⟨f, fd, ps, c, hm, F, hb⟩ := O
  have h := pe_meth0 (dvs := []) (pos := pos) (apos := apos) he c hm F hr hb .nil hx ht
  exact ⟨fun pins s σ H Q I z => h.run pins s σ H Q I z⟩
end
/-! ### lists of ints compared -/
def pint : Int → PyData := .int
theorem dp_ints {K : PySem.W.Frag} {H : Hp} : ∀ ns : List Int, DpAll K H (ns.map V.int) (ns.map PyData.int)
  | [] => .nil
  | n :: r => .cons (.int n) (dp_ints r)
theorem can_ints : ∀ ns : List Int, PyData.canLayAll0 (ns.map PyData.int) = true
  | [] => rfl
  | n :: r => by
    show (PyData.canLay0 (.int n) && PyData.canLayAll0 (r.map PyData.int)) = true
    rw [can_ints r]
    rfl
theorem deep_ints : ∀ ns : List Int, PyData.depthAll (ns.map PyData.int) ≤ 1
  | [] => by decide
  | n :: r => by
    have ih := deep_ints r
    simp only [List.map_cons, PyData.depthAll, PyData.depth]
    omega
theorem eqv_ints : ∀ ns ms : List Int, PyData.eqvAll (ns.map PyData.int) (ms.map PyData.int) = decide (ns = ms)
  | [], [] => rfl
  | [], m :: ms => by simp [PyData.eqvAll]
  | n :: ns, [] => by simp [PyData.eqvAll]
  | n :: ns, m :: ms => by
    simp only [List.map_cons, PyData.eqvAll, eqv_ints ns ms, PyData.eqv]
    rw [Bool.eq_iff_iff]
    simp
theorem shaped_ints (ns : List Int) : SeqAt.shaped (.list (ns.map PyData.int)) = true := by
  unfold SeqAt.shaped
  rw [Bool.and_eq_true]
  refine ⟨can_ints ns, decide_eq_true ?_⟩
  have := deep_ints ns
  simp only [PyData.depth]
  omega
section
variable {X : Cx}
def rEqIs (K : PySem.W.Frag) : R2 := fun x y H Q => ∃ (a b : Addr) (ns ms : List Int), x = .ref a ∧ y = .ref b ∧ SqL K H a (ns.map V.int) ∧ SqL K H b (ms.map V.int) ∧ Q (.bl (decide (ns = ms))) H
def rNeIs (K : PySem.W.Frag) : R2 := fun x y H Q => ∃ (a b : Addr) (ns ms : List Int), x = .ref a ∧ y = .ref b ∧ SqL K H a (ns.map V.int) ∧ SqL K H b (ms.map V.int) ∧ Q (.bl (!decide (ns = ms))) H
theorem op_eqIs (hu : X.A.units + 64 < cLine) : OpR X (compareOp .Eq) (rEqIs X.K) := fun pins s σ H x y v u Q I rx ry h => by
  obtain ⟨a, b, ns, ms, rfl, rfl, ha, hb, q⟩ := h
  refine op_eqD hu pins s σ H _ _ v u Q I rx ry ⟨_, _, .lst ha (dp_ints ns), .lst hb (dp_ints ms), shaped_ints ns, shaped_ints ms, ?_⟩
  have e : PyData.eqv (.list (ns.map PyData.int)) (.list (ms.map PyData.int)) = decide (ns = ms) := by
    rw [← eqv_ints]
    simp only [PyData.eqv]
  rw [e]
  exact q
theorem op_neIs (hu : X.A.units + 64 < cLine) : OpR X (compareOp .NotEq) (rNeIs X.K) := fun pins s σ H x y v u Q I rx ry h => by
  obtain ⟨a, b, ns, ms, rfl, rfl, ha, hb, q⟩ := h
  refine op_neD hu pins s σ H _ _ v u Q I rx ry ⟨_, _, .lst ha (dp_ints ns), .lst hb (dp_ints ms), shaped_ints ns, shaped_ints ms, ?_⟩
  have e : PyData.eqv (.list (ns.map PyData.int)) (.list (ms.map PyData.int)) = decide (ns = ms) := by
    rw [← eqv_ints]
    simp only [PyData.eqv]
  rw [e]
  exact q
/-! tuples of ints compared -/
theorem shapedT_ints (ns : List Int) : SeqAt.shaped (.tuple (ns.map PyData.int)) = true := by
  unfold SeqAt.shaped
  rw [Bool.and_eq_true]
  refine ⟨can_ints ns, decide_eq_true ?_⟩
  have := deep_ints ns
  simp only [PyData.depth]
  omega
def rEqTs (K : PySem.W.Frag) : R2 := fun x y H Q => ∃ (a b : Addr) (ns ms : List Int), x = .ref a ∧ y = .ref b ∧ SqT K H a (ns.map V.int) ∧ SqT K H b (ms.map V.int) ∧ Q (.bl (decide (ns = ms))) H
def rNeTs (K : PySem.W.Frag) : R2 := fun x y H Q => ∃ (a b : Addr) (ns ms : List Int), x = .ref a ∧ y = .ref b ∧ SqT K H a (ns.map V.int) ∧ SqT K H b (ms.map V.int) ∧ Q (.bl (!decide (ns = ms))) H
theorem op_eqTs (hu : X.A.units + 64 < cLine) : OpR X (compareOp .Eq) (rEqTs X.K) := fun pins s σ H x y v u Q I rx ry h => by
  obtain ⟨a, b, ns, ms, rfl, rfl, ha, hb, q⟩ := h
  refine op_eqD hu pins s σ H _ _ v u Q I rx ry ⟨_, _, .tup ha (dp_ints ns), .tup hb (dp_ints ms), shapedT_ints ns, shapedT_ints ms, ?_⟩
  have e : PyData.eqv (.tuple (ns.map PyData.int)) (.tuple (ms.map PyData.int)) = decide (ns = ms) := by
    rw [← eqv_ints]
    simp only [PyData.eqv]
  rw [e]
  exact q
theorem op_neTs (hu : X.A.units + 64 < cLine) : OpR X (compareOp .NotEq) (rNeTs X.K) := fun pins s σ H x y v u Q I rx ry h => by
  obtain ⟨a, b, ns, ms, rfl, rfl, ha, hb, q⟩ := h
  refine op_neD hu pins s σ H _ _ v u Q I rx ry ⟨_, _, .tup ha (dp_ints ns), .tup hb (dp_ints ms), shapedT_ints ns, shapedT_ints ms, ?_⟩
  have e : PyData.eqv (.tuple (ns.map PyData.int)) (.tuple (ms.map PyData.int)) = decide (ns = ms) := by
    rw [← eqv_ints]
    simp only [PyData.eqv]
  rw [e]
  exact q
/-- one expression, two readings: either may be answered -/
def tAlt (t u : TE) : TE := fun σ H Q => t σ H Q ∨ u σ H Q
theorem pe_alt {e : Expr} {t u : TE} (h1 : PE X e t) (h2 : PE X e u) : PE X e (tAlt t u) :=
  ⟨fun pins s σ H Q I h => h.elim (h1.run pins s σ H Q I) (h2.run pins s σ H Q I)⟩
/-- * of any two that the model multiplies -/
theorem op_mulA : OpR X (binaryOp .Mult) (rI IntMulOk fun i j => .int (i * j)) := opI fun _ _ _ _ _ _ _ hc q => mul_int q hc
end
/-! ### heaps -/
theorem same_upd {H : Hp} {p : Addr} {o : HO} (h : H p = none) : Same H (upd H p o) := fun b x e => by
  rw [upd_ne (ne_of_none e h)]
  exact e
theorem same_new {H H' : Hp} {p : Addr} {o : HO} (s : Same H H') (h : H p = none) : Same H (upd H' p o) := fun b x e => by
  rw [upd_ne (ne_of_none e h)]
  exact s b x e
theorem same_lst {H H' : Hp} {p : Addr} {o : HO} (s : Same H H') (h : H' p = none) : Same H (upd H' p o) := same_new s (s.free h)
theorem ne_none {H : Hp} {a b : Addr} {o : HO} (h : H a = some o) (h' : H b = none) : b ≠ a := (ne_of_none h h').symm
/-- isinstance of own classes -/
theorem kit_self {K : PySem.W.Frag} {C : Addr} : PySem.W.kitOne K (.ref C) (.ref C) = some true := if_pos (by simp)
theorem kit_own {K : PySem.W.Frag} {C D : Addr} {b : Bool} (i : PySem.W.isClsIn K D = true) (t : PySem.W.typeIn K (.ref D) = some (.type "type")) (s : PySem.W.subIn K (.ref C) (.ref D) = some b) (ne : b = false → C ≠ D) : PySem.W.kitOne K (.ref C) (.ref D) = some b := by
  have i2 : (PySem.W.clsIn K D).isSome = true := i
  unfold PySem.W.kitOne
  by_cases c : C = D
  · subst c
    cases b with
    | true => exact if_pos (by simp)
    | false => exact absurd rfl (ne rfl)
  · rw [if_neg (by intro z; exact c (by simpa using z))]
    show (if ((PySem.W.clsIn K D).isSome && PySem.W.typeIn K (.ref D) == some (.type "type")) = true then PySem.W.subIn K (.ref C) (.ref D) else none) = some b
    rw [if_pos (by rw [i2, t]; rfl)]
    exact s
/-- whole numbers -/
inductive Wh (K : PySem.W.Frag) (H : Hp) : V → Bool → Prop where
  | int (n : Int) : Wh K H (.int n) (decide (0 ≤ n))
  | bl (b : Bool) : Wh K H (.bl b) false
  | oth {v : V} {t : String} : TyX K H v (.type t) → kitB t "int" = some false → Wh K H v false
end Tk
namespace Tk
open PySem PySem.Spec PyProof.Rows L2 L2H
/-! ### defs that may raise (the error's context is None) -/
theorem takesN0 {X : Cx} : L2N.Takes X (fun _ _ _ _ => False) := fun _ _ x => by
  obtain ⟨_, _, _, _, _, _, _, _, _, _, _, _, _, _, _, _, z⟩ := x
  exact z.elim
section
variable {P : Program} {w : World} {K : PySem.W.Frag} {mg : Str → Option Value} {base : Heap}
theorem okN {x qual : Str} {st : Stmt} {f : Addr} {fd : FuncData} {N ps : List Str} {k : Nat} {sp : Sp} (F : Fun K x qual st f fd) (S : FnScope N ps (defScope st)) (hl : ∀ vs H Q E, sp vs H Q E → vs.length = ps.length)
    (hb : ∀ (cdv : Value) (A : Around) (outer : List Env) (s : Shared) (H : Hp) (vs : List V) (Q : VK) (E : XK), Room k (A.deeper (envOfC qual (defScope st) s.heap.objs.size f cdv)) → sp vs H Q E →
      ∃ t, PSs (cxOf (L2N.CX P w) P w K mg base N qual (defScope st) f cdv A outer s H E) (defBody st) t ∧ t { nx := fun _ H' => Q .non H', rt := Q } (start N vs) H) : FnOk P w K mg base (L2N.CX P w) (k + 1) f fd ps sp := by
  obtain ⟨oc, od, kV, doc, pm, an, cdv, ct, osl, e, lk, hc⟩ := F.ex
  subst e
  exact fn_of lk hc S hl fun A outer s H vs Q E hr h => hb cdv A outer s H vs Q E hr h
/-- a def that may raise keeps the promise sp; as an address -/
def HeldN (P : Program) (w : World) (K : PySem.W.Frag) (mg : Str → Option Value) (base : Heap) (k : Nat) (f : Addr) (sp : Sp) : Prop := ∃ fd ps, FnOk P w K mg base (L2N.CX P w) k f fd ps sp ∧ PySem.W.keepIn K (.ref f) = true ∧ Binds K fd ps []
theorem OkG.held {k j : Nat} {x : Str} {sp : Sp} {f : Addr} (O : OkG P w K mg base (L2N.CX P w) k x sp) (h : k ≤ j) (e : mg x = some (.ref f)) : HeldN P w K mg base j f sp := by
  obtain ⟨g, fd, ps, e2, F, kp, b⟩ := O
  rw [e] at e2
  cases e2
  exact ⟨fd, ps, F.mono h, kp, b⟩
end
/-- a call of what a local name holds; what is raised is wished for at the caller's slots -/
def tAsk (i : Nat) (f : Addr) (sp : Sp) (W : WX) (t : TA) : TE := fun σ H Q => σ[i]? = some (some (.ref f)) ∧ t σ H fun vs H1 => sp vs H1 Q (fun cls d H' => W cls d σ H')
theorem pe_ask {X : Cx} {k i : Nat} {f : Addr} {sp : Sp} {W : WX} {x : Str} {p pos : Pos} {e : Expr} {es : List Expr} {t : TA} (O : HeldN X.prog X.w X.K X.mg X.base k f sp) (hr : Room k X.A) (tk : L2N.Takes X W) (ha : PA X (e :: es) t)
    (hN : X.N[i]? = some x := by rfl) (hv : Vis X.env.scope x := by first | exact Or.inl rfl | exact Or.inr (Or.inl rfl) | exact Or.inr (Or.inr rfl))
    (hdb : (x == ("__debug__" : Str)) = false := by decide) (hcd : (x == ("__classdict__" : Str)) = false := by decide)
    (he : starEach (e :: es) X.env = (false, eval e X.env) :: starEach es X.env := by rfl) (hpl : (backTo pos (starEach es X.env)).any (·.1) = false := by rfl) : PE X (.Call (.Name x p) (e :: es) [] pos) (tAsk i f sp W t) := by
  obtain ⟨fd, ps, F, hk, hb⟩ := O
  refine ⟨fun pins s σ H Q I ⟨hs, ht⟩ => ?_⟩
  have name := (pe_var (pos := p) hN hv hdb hcd).run pins s σ H (fun v G => v = .ref f ∧ G = H) I ⟨_, hs, rfl, rfl⟩
  refine wpAny_Call_Name_kw (thn name ?_)
  rintro u s1 ⟨v, G, I1, r1, ev, eG⟩
  subst ev eG
  cases r1
  have args := thn (ha.run pos pins s1 σ G _ I1 ht) (Q' := fun us s2 => X.K.In s2.heap ∧ wpAny (model X.prog X.w) X.A (call (.ref f) us) (EP X pins σ Q) X.xe s2) (fun us s2 ⟨vs, H2, I2, r, q⟩ =>
    ⟨I2.kIn, run_fnS (E := fun σ cls d H' => W cls d σ H') F hr hb (L2N.passAt tk σ) I2 r q⟩)
  exact PySem.W.callWith_K (h₀ := X.base) I.ok.mod.kin hk args he hpl
theorem passLN {X : Cx} : Passes (L2N.CX X.prog X.w) X E0 := fun _ _ _ _ _ _ _ h => by
  obtain ⟨_, _, _, _, _, _, _, _, _, _, _, _, z⟩ := h
  exact z.elim
/-- what stands of an error class of the text -/
structure Err (K : PySem.W.Frag) (mg : Str → Option Value) (n : Str) (C T : Addr) : Prop where
  e : mg n = some (.ref C)
  xe : PySem.W.excIn K C [.type "ValueError", .type "Exception", .type "BaseException", .type "object"] "ValueError.__new__" = true
  kp : PySem.W.keepIn K (.ref C) = true
  bs : PySem.W.subIn K (.ref C) (.type "BaseException") = some true
  ve : PySem.W.subIn K (.ref C) (.type "ValueError") = some true
  tk : PySem.W.subIn K (.ref C) (.ref T) = some true
  tp : PySem.W.typeIn K (.ref C) = some (.type "type")
  ex : ExcC K C
/-! ### lists of truths compared -/
theorem dp_bools {K : PySem.W.Frag} {H : Hp} : ∀ bs : List Bool, DpAll K H (bs.map V.bl) (bs.map PyData.bool)
  | [] => .nil
  | b :: r => .cons (.bl b) (dp_bools r)
theorem can_bools : ∀ bs : List Bool, PyData.canLayAll0 (bs.map PyData.bool) = true
  | [] => rfl
  | b :: r => by
    show (PyData.canLay0 (.bool b) && PyData.canLayAll0 (r.map PyData.bool)) = true
    rw [can_bools r]
    rfl
theorem deep_bools : ∀ bs : List Bool, PyData.depthAll (bs.map PyData.bool) ≤ 1
  | [] => by decide
  | b :: r => by
    have ih := deep_bools r
    simp only [List.map_cons, PyData.depthAll, PyData.depth]
    omega
theorem eqv_bools : ∀ bs : List Bool, PyData.eqvAll (bs.map PyData.bool) (bs.map PyData.bool) = true
  | [] => rfl
  | b :: r => by
    simp only [List.map_cons, PyData.eqvAll, eqv_bools r, PyData.eqv]
    simp
theorem shaped_bools (bs : List Bool) : SeqAt.shaped (.list (bs.map PyData.bool)) = true := by
  unfold SeqAt.shaped
  rw [Bool.and_eq_true]
  refine ⟨can_bools bs, decide_eq_true ?_⟩
  have := deep_bools bs
  simp only [PyData.depth]
  omega
def rEqBs (K : PySem.W.Frag) : R2 := fun x y H Q => ∃ (a b : Addr) (bs : List Bool), x = .ref a ∧ y = .ref b ∧ SqL K H a (bs.map V.bl) ∧ SqL K H b (bs.map V.bl) ∧ Q (.bl true) H
def rNeBs (K : PySem.W.Frag) : R2 := fun x y H Q => ∃ (a b : Addr) (bs : List Bool), x = .ref a ∧ y = .ref b ∧ SqL K H a (bs.map V.bl) ∧ SqL K H b (bs.map V.bl) ∧ Q (.bl false) H
theorem op_eqBs {X : Cx} (hu : X.A.units + 64 < cLine) : OpR X (compareOp .Eq) (rEqBs X.K) := fun pins s σ H x y v u Q I rx ry h => by
  obtain ⟨a, b, bs, rfl, rfl, ha, hb, q⟩ := h
  refine op_eqD hu pins s σ H _ _ v u Q I rx ry ⟨_, _, .lst ha (dp_bools bs), .lst hb (dp_bools bs), shaped_bools bs, shaped_bools bs, ?_⟩
  have e : PyData.eqv (.list (bs.map PyData.bool)) (.list (bs.map PyData.bool)) = true := by
    simp only [PyData.eqv]
    exact eqv_bools bs
  rw [e]
  exact q
theorem op_neBs {X : Cx} (hu : X.A.units + 64 < cLine) : OpR X (compareOp .NotEq) (rNeBs X.K) := fun pins s σ H x y v u Q I rx ry h => by
  obtain ⟨a, b, bs, rfl, rfl, ha, hb, q⟩ := h
  refine op_neD hu pins s σ H _ _ v u Q I rx ry ⟨_, _, .lst ha (dp_bools bs), .lst hb (dp_bools bs), shaped_bools bs, shaped_bools bs, ?_⟩
  have e : PyData.eqv (.list (bs.map PyData.bool)) (.list (bs.map PyData.bool)) = true := by
    simp only [PyData.eqv]
    exact eqv_bools bs
  rw [e]
  exact q
/-! ### a def called within an except suite, the error handed in -/
section
variable (P : Program) (w : World) (K : PySem.W.Frag) (mg : Str → Option Value) (base : Heap)
/-- the promise may speak of the handled error's object p -/
structure FnP (k : Nat) (f : Addr) (fd : FuncData) (ps : List Str) (sp : Addr × Obj → Sp) : Prop where
  len : ∀ p vs H Q E, sp p vs H Q E → vs.length = ps.length
  go : ∀ (p : Addr × Obj) (A : Around) (outer : List Env) (s : Shared) (H : Hp) (args : Args) (us : List Value) (vs : List V) (Q : VK) (E : XK), Hot1 A p → RoomH k A → PinOk outer H s p → Env0 P w K mg base A outer s H → BindsTo s fd args (ps.zip us) → Vals vs us → sp p vs H Q E →
    codeAny (model P w) A (.call (.ref f) args) (CR CX0 outer P w H s Q E) s
end
section
variable {P : Program} {w : World} {K : PySem.W.Frag} {mg : Str → Option Value} {base : Heap}
theorem okP {x qual : Str} {st : Stmt} {f : Addr} {fd : FuncData} {N ps : List Str} {k : Nat} {sp : Addr × Obj → Sp} (F : Fun K x qual st f fd) (S : FnScope N ps (defScope st)) (hl : ∀ p vs H Q E, sp p vs H Q E → vs.length = ps.length)
    (hb : ∀ (cdv : Value) (A : Around) (outer : List Env) (s : Shared) (H : Hp) (vs : List V) (Q : VK) (E : XK) (p : Addr × Obj), Hot1 A p → RoomH k (A.deeper (envOfC qual (defScope st) s.heap.objs.size f cdv)) → sp p vs H Q E →
      ∃ t, PSs (cxH CX0 P w K mg base N qual (defScope st) f cdv A outer s H E p) (defBody st) t ∧ t { nx := fun _ H' => Q .non H', rt := Q } (L2.start N vs) H) : FnP P w K mg base (k + 1) f fd ps sp := by
  obtain ⟨oc, od, kV, doc, pm, an, cdv, ct, osl, e, lk, hc⟩ := F.ex
  subst e
  refine ⟨hl, ?_⟩
  intro p A outer s H args us vs Q E hot hr pin e0 bd rv hsp
  have KX : K.In s.heap := e0.mod.kin.keeps fun b o z => And.left (e0.bs b o z)
  have kinds : ∀ y ∈ ps.zip us, (defScope st).names.lookup y.1 = some .local ∨ ((defScope st).names.lookup y.1 = some .cell ∧ ((cellsFrom (s.heap.objs.size + 1) (defScope st).names []).lookup y.1).isSome = true) := by
    intro y hy
    cases S.par y.1 (List.of_mem_zip (b := y.2) hy).1 with
    | inl q => exact Or.inl q
    | inr q => exact Or.inr ⟨q, PySem.W.cellsFrom_some _ _ _ (Or.inl q)⟩
  have enter := codeAny_call_function (prog := P) (w := w) (args := args) (R := CR CX0 outer P w H s Q E) hr.depth (KX _ _ lk) rfl S.co S.gen rfl (PySem.W.codeRec_of KX hc)
  refine enter (bd _ _ _ _ (wpAny_newFunctionEnv_cells S.kind kinds ?_))
  intro env he s1 x1
  subst he
  have lim : s.heap.NoLimit := e0.mod.nolimit.keeps fun b o z => And.left (e0.bs b o z)
  refine ⟨lim.keeps x1.toInCall.keep, codeAny_func ?_⟩
  obtain ⟨t, pt, ht⟩ := hb cdv A outer s H vs Q E p hot (hr.deeper _) hsp
  have I0 := inv_startH (CX := CX0) (qual := qual) (f := f) (cd := cdv) (E := E) S pin e0 (hl _ _ _ _ _ hsp) rv x1
  refine wpAny_mono (pt.run [] s1 (L2.start N vs) H _ I0 ht) ?_ fun _ _ z => z
  intro fl s2 hs
  match fl, hs with
  | .ret _, ⟨v, _, H', J, r, q⟩ => exact ⟨v, H', J.os, J.bare, J.base, J.hok, r, q⟩
  | .next, ⟨_, H', J, q⟩ => exact ⟨V.non, H', J.os, J.bare, J.base, J.hok, rfl, q⟩
  | .brk, ⟨_, _, _, q⟩ => exact q.elim
  | .cont, ⟨_, _, _, q⟩ => exact q.elim
/-- isinstance of the pinned error -/
theorem call_isP {X : Cx} {a D : Addr} {oe : Obj} (C : ExcC X.K D) (hz : Zc (.ref D) none oe) (hf : ∃ vs, oe.data = .fields vs) (hm : (a, oe) ∈ X.pn) : CallR X (.builtin "isinstance") (rIsE X.K D a) := by
  intro pins s σ H xs us Q I r ⟨c, cv, b, ex, hcv, e, q⟩
  subst ex
  obtain ⟨u1, u2, eu, r1, r2⟩ := vals2 r
  subst eu
  cases r1
  obtain rfl := hcv _ r2
  obtain ⟨vs, hv⟩ := hf
  have hget := (I.pin (a, oe) (List.mem_append_left _ hm)).1
  have J : PySem.W.InstAt s.heap a oe D none := by
    rcases oe with ⟨oc, od, oda, osl⟩
    cases hz with
    | intro z1 z2 =>
      cases (show oc = Value.ref D from z1)
      cases (show od = none from z2)
      cases (show oda = Data.fields vs from hv)
      exact ⟨hget, rfl, rfl, trivial⟩
  refine PySem.W.kia_one (PySem.W.handS_kitx_exc C.hg C.hk C.hs C.hd C.ha C.hn C.ht C.hm) I.kIn J e (fun z => by cases z) fun tk => ?_
  exact ⟨.bl b, H, I.tok tk, rfl, q⟩
/-- f(n), n the error that the suite holds -/
def tErr (a : Addr) (cls : Value) (d : Option Addr) (te : TE) (G : Value → Option Addr → Hp → VK → Prop) : TE := fun σ H Q => tCons te tNil σ H fun vs H1 => ∃ v, vs = [v] ∧ v = .ref a ∧ G cls d H1 Q
theorem pe_err {X : Cx} {k : Nat} {f a : Addr} {fd : FuncData} {y : Str} {sp : Addr × Obj → Sp} {oe : Obj} {cls : Value} {d : Option Addr} {pn : List (Addr × Obj)} {x : Str} {p pos : Pos} {e : Expr} {te : TE} {G : Value → Option Addr → Hp → VK → Prop}
    (F : FnP X.prog X.w X.K X.mg X.base k f fd [y] sp) (hb : Binds X.K fd [y] []) (hr : Room k X.A) (hm : X.mg x = some (.ref f)) (hk : PySem.W.keepIn X.K (.ref f) = true)
    (hz : L2N.Zn cls d oe) (hf : ∃ vs, oe.data = .fields vs) (hG : ∀ H Q, G cls d H Q → sp (a, oe) [.ref a] H Q (fun _ _ _ => False)) (he : PE (X.suite a ((a, oe) :: pn)) e te) (hg : Gl X x := by rfl)
    (hdb : (x == ("__debug__" : Str)) = false := by decide) (hst : starEach (e :: []) X.env = (false, eval e X.env) :: starEach [] X.env := by rfl) (hpl : (backTo pos (starEach [] X.env)).any (·.1) = false := by rfl) :
    PE (X.suite a ((a, oe) :: pn)) (.Call (.Name x p) [e] [] pos) (tErr a cls d te G) := by
  obtain ⟨vs0, hv⟩ := hf
  have hot : Hot1 (X.suite a ((a, oe) :: pn)).A (a, oe) := ⟨rfl, vs0, hv, hz.2.2 vs0 hv⟩
  refine ⟨fun pins s σ H Q I h => ?_⟩
  have args : PA (X.suite a ((a, oe) :: pn)) [e] (tCons te tNil) := pa_cons he pa_nil hst
  refine wpAny_Call_Name_kw (ld_glob I hg hm ?_ hdb)
  refine PySem.W.callWith_K (h₀ := X.base) I.ok.mod.kin hk (thn (args.run pos pins s σ H _ I h) ?_) hst hpl
  rintro us s1 ⟨vs, G1, I1, r1, v, ev, ea, q⟩
  subst ev ea
  refine ⟨I1.kIn, ?_⟩
  have P1 := I1.pin (a, oe) (List.mem_append_left _ List.mem_cons_self)
  have pin : PinOk (X.suite a ((a, oe) :: pn)).stack G1 s1 (a, oe) := ⟨P1.1, P1.2.1, fun hm => (List.mem_cons.mp (I1.stkSub a hm)).elim P1.2.2.1 P1.2.2.2.1, P1.2.2.2.2⟩
  have ul : us.length = 1 := by rw [← r1.length]; rfl
  have bd := hb s1 us I1.kIn (by rw [List.append_nil]; exact ul)
  rw [List.append_nil] at bd
  refine wpAny_call (codeAny_mono (F.go (a, oe) _ _ s1 G1 ⟨us, []⟩ us _ Q _ hot ⟨hr.dp, hr.un⟩ pin I1.env0 bd r1 (hG G1 Q q)) ?_)
  intro r s2 hq
  match r, hq with
  | .ok (.ret _), hq => exact I1.after hq
  | .ok .next, hq => exact hq.elim
  | .ok .brk, hq => exact hq.elim
  | .ok .cont, hq => exact hq.elim
  | .error _, hq => exact hq.elim
end
end Tk
namespace TA
/-! ### rows of steps, by what they are -/
structure IsRow (k : Int) (h : Nat → Int) (p : Nat → Nat) : Prop where
  k1 : 1 ≤ k
  z : h 0 = 1
  s : ∀ n, h (n + 1) = h n + h (p n)
  le : ∀ n, p n ≤ n
  ge : ∀ n, h n ≤ k * h (p n)
  lt : ∀ n i, i < p n → k * h i < h n
section
variable {k : Int} {h : Nat → Int} {p : Nat → Nat}
theorem IsRow.pos (R : IsRow k h p) : ∀ n, 1 ≤ h n := by
  intro n
  induction n using Nat.strongRecOn with
  | _ n ih =>
    cases n with
    | zero => rw [R.z]; omega
    | succ m =>
      rw [R.s m]
      have a := ih m (Nat.lt_succ_self m)
      have b := ih (p m) (Nat.lt_succ_of_le (R.le m))
      omega
theorem IsRow.up (R : IsRow k h p) (n : Nat) : h n < h (n + 1) := by
  rw [R.s n]
  have := R.pos (p n)
  omega
theorem IsRow.mono (R : IsRow k h p) : ∀ {a b : Nat}, a ≤ b → h a ≤ h b := by
  intro a b hab
  induction b with
  | zero =>
    have e : a = 0 := by omega
    subst e
    exact Int.le_refl _
  | succ m ih =>
    by_cases e : a = m + 1
    · subst e
      exact Int.le_refl _
    · have := ih (by omega)
      have := R.up m
      omega
theorem IsRow.smono (R : IsRow k h p) {a b : Nat} (hab : a < b) : h a < h b := by
  have := R.up a
  have := R.mono (show a + 1 ≤ b from hab)
  omega
theorem IsRow.lt_of (R : IsRow k h p) {a b : Nat} (q : h a < h b) : a < b := by
  by_cases c : a < b
  · exact c
  · have := R.mono (show b ≤ a by omega)
    omega
theorem IsRow.inj (R : IsRow k h p) {a b : Nat} (q : h a = h b) : a = b := by
  rcases Nat.lt_trichotomy a b with c | c | c
  · have := R.smono c
    omega
  · exact c
  · have := R.smono c
    omega
theorem IsRow.big (R : IsRow k h p) : ∀ n : Nat, (n : Int) + 1 ≤ h n := by
  intro n
  induction n with
  | zero => rw [R.z]; omega
  | succ m ih =>
    have := R.up m
    omega
theorem kle (R : IsRow k h p) {a b : Int} (hab : a ≤ b) : k * a ≤ k * b := Int.mul_le_mul_of_nonneg_left hab (by have := R.k1; omega)
/-- what is less by the factor stands ahead of p -/
theorem IsRow.below (R : IsRow k h p) {i j : Nat} (q : k * h j < h i) : j < p i := by
  by_cases c : j < p i
  · exact c
  · have h1 := R.ge i
    have h2 := kle R (R.mono (show p i ≤ j by omega))
    omega
theorem IsRow.p_mono (R : IsRow k h p) (n : Nat) : p n ≤ p (n + 1) := by
  by_cases c : p n ≤ p (n + 1)
  · exact c
  · have h1 := R.lt n (p (n + 1)) (by omega)
    have h2 := R.ge (n + 1)
    have h3 := R.up n
    omega
/-! ### sums -/
def Gap (k : Int) : List Int → Prop
  | a :: b :: r => k * b < a ∧ Gap k (b :: r)
  | _ => True
def Of (h : Nat → Int) (l : List Int) : Prop := ∀ x ∈ l, ∃ i, x = h i
theorem Gap.tail {a : Int} {l : List Int} (g : Gap k (a :: l)) : Gap k l := by
  cases l with
  | nil => trivial
  | cons b r => exact g.2
theorem Gap.cons {a : Int} {l : List Int} (g : Gap k l) (q : ∀ b r, l = b :: r → k * b < a) : Gap k (a :: l) := by
  cases l with
  | nil => trivial
  | cons b r => exact ⟨q b r rfl, g⟩
theorem Of.tail {a : Int} {l : List Int} (o : Of h (a :: l)) : Of h l := fun x hx => o x (List.mem_cons_of_mem _ hx)
theorem sum_nonneg (R : IsRow k h p) : ∀ {l : List Int}, Of h l → 0 ≤ l.sum
  | [], _ => by simp
  | a :: r, o => by
    obtain ⟨i, e⟩ := o a List.mem_cons_self
    have := R.pos i
    have := sum_nonneg R o.tail
    rw [List.sum_cons]
    omega
/-- a sum is less than the step behind its first -/
theorem sum_lt (R : IsRow k h p) : ∀ {l : List Int} {i : Nat}, Gap k (h i :: l) → Of h l → l.sum < h (p i)
  | [], i, _, _ => by
    have := R.pos (p i)
    simp only [List.sum_nil]
    omega
  | b :: r, i, g, o => by
    obtain ⟨j, e⟩ := o b List.mem_cons_self
    subst e
    have hj : j < p i := R.below g.1
    have ih := sum_lt R (i := j) (l := r) g.2 o.tail
    have h1 := R.s j
    have h2 := R.mono (show j + 1 ≤ p i from hj)
    rw [List.sum_cons]
    omega
def greedy (h : Nat → Int) : Nat → Int → List Int
  | 0, _ => []
  | m + 1, n => if h m ≤ n then h m :: greedy h m (n - h m) else greedy h m n
theorem greedy_of : ∀ (m : Nat) (n : Int), Of h (greedy h m n) := by
  intro m
  induction m with
  | zero =>
    intro n x hx
    cases hx
  | succ m ih =>
    intro n x hx
    unfold greedy at hx
    split at hx
    · rcases List.mem_cons.mp hx with e | e
      · exact ⟨m, e⟩
      · exact ih _ x e
    · exact ih n x hx
theorem greedy_zero (R : IsRow k h p) : ∀ m, greedy h m 0 = [] := by
  intro m
  induction m with
  | zero => rfl
  | succ m ih =>
    unfold greedy
    have := R.pos m
    rw [if_neg (by omega)]
    exact ih
/-- the greedy sum comes to it, and is a sum -/
theorem greedy_ok (R : IsRow k h p) : ∀ (m : Nat) (n : Int), 0 ≤ n → n < h m → (greedy h m n).sum = n ∧ Gap k (greedy h m n) := by
  intro m
  induction m with
  | zero =>
    intro n h0 h1
    rw [R.z] at h1
    exact ⟨by show (0 : Int) = n; omega, trivial⟩
  | succ m ih =>
    intro n h0 h1
    unfold greedy
    split
    · rename_i c
      have hs := R.s m
      have hp := R.mono (R.le m)
      obtain ⟨a, b⟩ := ih (n - h m) (by omega) (by omega)
      refine ⟨by rw [List.sum_cons, a]; omega, b.cons fun x r e => ?_⟩
      obtain ⟨j, ej⟩ := greedy_of m (n - h m) x (by rw [e]; exact List.mem_cons_self)
      have hr : 0 ≤ r.sum := sum_nonneg R (l := r) fun y hy => greedy_of m (n - h m) y (by rw [e]; exact List.mem_cons_of_mem _ hy)
      rw [e, List.sum_cons] at a
      subst ej
      exact R.lt m j (R.lt_of (by omega))
    · rename_i c
      exact ih n h0 (by omega)
/-- there is no other -/
theorem greedy_uniq (R : IsRow k h p) : ∀ (m : Nat) (l : List Int), Gap k l → Of h l → l.sum < h m → l = greedy h m l.sum := by
  intro m
  induction m with
  | zero =>
    intro l g o q
    cases l with
    | nil => rfl
    | cons a r =>
      obtain ⟨i, e⟩ := o a List.mem_cons_self
      have := R.pos i
      have := sum_nonneg R o.tail
      rw [List.sum_cons, R.z] at q
      omega
  | succ m ih =>
    intro l g o q
    cases l with
    | nil =>
      show [] = greedy h (m + 1) 0
      rw [greedy_zero R]
    | cons a r =>
      obtain ⟨i, e⟩ := o a List.mem_cons_self
      subst e
      have h1 := sum_lt R g o.tail
      have h2 := R.s i
      have h3 := sum_nonneg R o.tail
      rw [List.sum_cons] at q
      have h4 : i < m + 1 := R.lt_of (by omega)
      unfold greedy
      by_cases c : i = m
      · subst c
        have h5 := R.mono (R.le i)
        rw [List.sum_cons, if_pos (by omega)]
        have e2 : h i + r.sum - h i = r.sum := by omega
        rw [e2, ← ih r g.tail o.tail (by omega)]
      · have h5 := R.mono (show i + 1 ≤ m by omega)
        rw [List.sum_cons, if_neg (by omega)]
        rw [← List.sum_cons]
        exact ih _ g o (by rw [List.sum_cons]; omega)
/-! ### growth -/
theorem IsRow.grow1 (R : IsRow k h p) (n : Nat) : ∀ m : Nat, (k + m) * h n ≤ k * h (n + m) := by
  intro m
  induction m with
  | zero => simp
  | succ m ih =>
    have h1 := R.s (n + m)
    have h2 := R.ge (n + m)
    have h3 := R.mono (show n ≤ n + m by omega)
    have e1 : (k + ((m + 1 : Nat) : Int)) * h n = (k + m) * h n + h n := by
      rw [show (k + ((m + 1 : Nat) : Int)) = (k + m) + 1 by omega, Int.add_mul, Int.one_mul]
    have e2 : k * h (n + m + 1) = k * h (n + m) + k * h (p (n + m)) := by rw [h1, Int.mul_add]
    show (k + ((m + 1 : Nat) : Int)) * h n ≤ k * h (n + m + 1)
    omega
theorem IsRow.dbl (R : IsRow k h p) (n : Nat) : 2 * h n ≤ h (n + k.toNat) := by
  have h1 := R.k1
  have g := R.grow1 n k.toNat
  have e : (k + (k.toNat : Int)) = k * 2 := by omega
  rw [e, Int.mul_assoc] at g
  exact Int.le_of_mul_le_mul_left g (by omega)
theorem IsRow.pow (R : IsRow k h p) : ∀ m : Nat, (2 : Int) ^ m ≤ h (k.toNat * m) := by
  intro m
  induction m with
  | zero =>
    rw [Nat.mul_zero, R.z]
    simp
  | succ m ih =>
    have g := R.dbl (k.toNat * m)
    rw [Int.pow_succ, Nat.mul_succ]
    omega
/-- how many steps there may be up to a number -/
theorem IsRow.few (R : IsRow k h p) {N B : Nat} (hk : k ≤ 30) (q : ∀ i, i < N → h i < 2 ^ B) : N ≤ 30 * B := by
  by_cases c : N ≤ 30 * B
  · exact c
  · have h1 := q (30 * B) (by omega)
    have h2 := R.pow B
    have h3 := R.mono (show k.toNat * B ≤ 30 * B from Nat.mul_le_mul_right B (by have := R.k1; omega))
    omega
end
/-! ### the row as it is made -/
def adv (k : Int) (l : List Int) : Nat := l.findIdx fun y => decide (l.getLastD 0 ≤ k * y)
def nxt (k : Int) (l : List Int) : List Int := l ++ [l.getLastD 0 + l.getD (adv k l) 0]
def row (k : Int) : Nat → List Int
  | 0 => [1]
  | n + 1 => nxt k (row k n)
def h (k : Int) (n : Nat) : Int := (row k n).getLastD 0
def p (k : Int) (n : Nat) : Nat := adv k (row k n)
theorem row_len (k : Int) : ∀ n, (row k n).length = n + 1
  | 0 => rfl
  | n + 1 => by
    show (nxt k (row k n)).length = n + 1 + 1
    unfold nxt
    rw [List.length_append, row_len k n]
    rfl
theorem row_succ (k : Int) (n : Nat) : row k (n + 1) = row k n ++ [h k (n + 1)] := by
  show nxt k (row k n) = row k n ++ [(nxt k (row k n)).getLastD 0]
  unfold nxt
  rw [List.getLastD_concat]
theorem row_get (k : Int) : ∀ n i, i ≤ n → (row k n)[i]? = some (h k i)
  | 0, i, hi => by
    have e : i = 0 := by omega
    subst e
    rfl
  | n + 1, i, hi => by
    rw [row_succ]
    by_cases c : i = n + 1
    · subst c
      rw [List.getElem?_append_right (by rw [row_len]; exact Nat.le_refl _), row_len, Nat.sub_self]
      rfl
    · rw [List.getElem?_append_left (by rw [row_len]; omega)]
      exact row_get k n i (by omega)
theorem row_getD (k : Int) {n i : Nat} (hi : i ≤ n) : (row k n).getD i 0 = h k i := by
  rw [List.getD_eq_getElem?_getD, row_get k n i hi]
  rfl
theorem row_map (k : Int) (n : Nat) : row k n = (List.range (n + 1)).map (h k) := by
  apply List.ext_getElem?
  intro i
  by_cases c : i ≤ n
  · rw [row_get k n i c, List.getElem?_map, List.getElem?_range (by omega)]
    rfl
  · rw [List.getElem?_eq_none_iff.mpr (by rw [row_len]; omega), List.getElem?_eq_none_iff.mpr (by rw [List.length_map, List.length_range]; omega)]
theorem isRow {k : Int} (hk : 1 ≤ k) : IsRow k (h k) (p k) := by
  have step : ∀ n, (∀ i, i ≤ n → 1 ≤ h k i) → p k n ≤ n ∧ h k n ≤ k * h k (p k n) ∧ (∀ i, i < p k n → k * h k i < h k n) ∧ h k (n + 1) = h k n + h k (p k n) := by
    intro n hp
    have hpos := hp n (Nat.le_refl _)
    have ex : ∃ x ∈ row k n, (fun y => decide ((row k n).getLastD 0 ≤ k * y)) x = true := by
      refine ⟨h k n, List.mem_of_getElem? (row_get k n n (Nat.le_refl _)), decide_eq_true ?_⟩
      show h k n ≤ k * h k n
      have := Int.mul_le_mul_of_nonneg_right hk (show 0 ≤ h k n by omega)
      omega
    have hlt : p k n < (row k n).length := List.findIdx_lt_length_of_exists ex
    have hle : p k n ≤ n := by
      rw [row_len] at hlt
      omega
    have hget : (row k n)[p k n] = h k (p k n) := by
      have := row_get k n _ hle
      rw [List.getElem?_eq_getElem hlt] at this
      exact Option.some.inj this
    refine ⟨hle, ?_, ?_, ?_⟩
    · have := List.findIdx_getElem (xs := row k n) (p := fun y => decide ((row k n).getLastD 0 ≤ k * y)) (w := hlt)
      have := of_decide_eq_true this
      change h k n ≤ k * (row k n)[p k n] at this
      rw [hget] at this
      exact this
    · intro i hi
      have hil : i < (row k n).length := Nat.lt_trans hi hlt
      have := List.not_of_lt_findIdx (xs := row k n) (p := fun y => decide ((row k n).getLastD 0 ≤ k * y)) hi
      have hg : (row k n)[i] = h k i := by
        have := row_get k n i (by omega)
        rw [List.getElem?_eq_getElem hil] at this
        exact Option.some.inj this
      have h2 : ¬ h k n ≤ k * (row k n)[i] := fun c => by
        have c2 : decide ((row k n).getLastD 0 ≤ k * (row k n)[i]) = true := decide_eq_true c
        simp_all
        omega
      rw [hg] at h2
      omega
    · show (nxt k (row k n)).getLastD 0 = h k n + h k (p k n)
      unfold nxt
      rw [List.getLastD_concat]
      show h k n + (row k n).getD (p k n) 0 = _
      rw [row_getD k hle]
  have pos : ∀ n, 1 ≤ h k n := by
    intro n
    induction n using Nat.strongRecOn with
    | _ n ih =>
      cases n with
      | zero => exact Int.le_refl _
      | succ m =>
        have hm : ∀ i, i ≤ m → 1 ≤ h k i := fun i hi => ih i (by omega)
        obtain ⟨a, _, _, b⟩ := step m hm
        have := hm m (Nat.le_refl _)
        have := hm _ a
        rw [b]
        omega
  exact ⟨hk, rfl, fun n => (step n fun i _ => pos i).2.2.2, fun n => (step n fun i _ => pos i).1, fun n => (step n fun i _ => pos i).2.1, fun n i q => (step n fun i _ => pos i).2.2.1 i q⟩
/-! ### the sum that comes to a heap -/
def parts (k n : Int) : List Int := greedy (h k) n.toNat n
theorem lt_h {k : Int} (hk : 1 ≤ k) {n : Int} (hn : 0 ≤ n) : n < h k n.toNat := by
  have := (isRow hk).big n.toNat
  omega
theorem parts_of {k : Int} (hk : 1 ≤ k) {n : Int} : Of (h k) (parts k n) := greedy_of _ _
theorem parts_sum {k : Int} (hk : 1 ≤ k) {n : Int} (hn : 0 ≤ n) : (parts k n).sum = n := (greedy_ok (isRow hk) _ _ hn (lt_h hk hn)).1
theorem parts_gap {k : Int} (hk : 1 ≤ k) {n : Int} (hn : 0 ≤ n) : Gap k (parts k n) := (greedy_ok (isRow hk) _ _ hn (lt_h hk hn)).2
theorem parts_uniq {k : Int} (hk : 1 ≤ k) {l : List Int} (g : Gap k l) (o : Of (h k) l) : parts k l.sum = l :=
  (greedy_uniq (isRow hk) _ l g o (lt_h hk (sum_nonneg (isRow hk) o))).symm
theorem greedy_parts {k : Int} (hk : 1 ≤ k) {n : Int} {m : Nat} (hn : 0 ≤ n) (hm : n < h k m) : greedy (h k) m n = parts k n := by
  obtain ⟨a, b⟩ := greedy_ok (isRow hk) m n hn hm
  have := parts_uniq hk b (greedy_of m n)
  rw [a] at this
  exact this.symm
theorem parts_zero {k : Int} : parts k 0 = [] := rfl
theorem parts_nil {k : Int} (hk : 1 ≤ k) {n : Int} (hn : 0 ≤ n) (e : parts k n = []) : n = 0 := by
  have := parts_sum hk hn
  rw [e] at this
  exact this.symm
theorem parts_pos {k : Int} (hk : 1 ≤ k) {n x : Int} (hx : x ∈ parts k n) : 1 ≤ x := by
  obtain ⟨i, e⟩ := parts_of hk x hx
  rw [e]
  exact (isRow hk).pos i
theorem mem_le : ∀ {l : List Int} {x : Int}, (∀ y ∈ l, 0 ≤ y) → x ∈ l → x ≤ l.sum
  | a :: r, x, hp, hx => by
    have hr : 0 ≤ r.sum := by
      clear hx
      have hp2 : ∀ y ∈ r, 0 ≤ y := fun y hy => hp y (List.mem_cons_of_mem _ hy)
      clear hp
      induction r with
      | nil => simp
      | cons b r ih =>
        have h1 := hp2 b List.mem_cons_self
        have h2 := ih fun y hy => hp2 y (List.mem_cons_of_mem _ hy)
        rw [List.sum_cons]
        omega
    have ha := hp a List.mem_cons_self
    rw [List.sum_cons]
    rcases List.mem_cons.mp hx with e | e
    · omega
    · have := mem_le (l := r) (fun y hy => hp y (List.mem_cons_of_mem _ hy)) e
      omega
theorem parts_le {k : Int} (hk : 1 ≤ k) {n x : Int} (hn : 0 ≤ n) (hx : x ∈ parts k n) : x ≤ n := by
  have := mem_le (l := parts k n) (fun y hy => by have := parts_pos hk hy; omega) hx
  rwa [parts_sum hk hn] at this
/-! ### who wins -/
def lost (k n L : Int) : Bool := match (parts k n).getLast? with
  | none => true
  | some x => decide (L < x)
theorem lost_nil {k n L : Int} (e : parts k n = []) : lost k n L = true := by
  unfold lost
  rw [e]
  rfl
theorem lost_some {k n L x : Int} (e : (parts k n).getLast? = some x) : lost k n L = decide (L < x) := by
  unfold lost
  rw [e]
theorem Gap.init {k : Int} : ∀ {l : List Int} {x : Int}, Gap k (l ++ [x]) → Gap k l
  | [], _, _ => trivial
  | [_], _, _ => trivial
  | a :: b :: r, x, g => ⟨g.1, Gap.init (l := b :: r) g.2⟩
theorem Gap.last {k : Int} : ∀ {l : List Int} {y x : Int}, Gap k (l ++ [y] ++ [x]) → k * x < y
  | [], _, _, g => g.1
  | [_], _, _, g => g.2.1
  | a :: b :: r, y, x, g => Gap.last (l := b :: r) g.2
theorem Gap.app {k : Int} : ∀ {l r : List Int}, Gap k l → Gap k r → (∀ y x t, l.getLast? = some y → r = x :: t → k * x < y) → Gap k (l ++ r)
  | [], r, _, g2, _ => g2
  | [a], r, _, g2, q => g2.cons fun b t e => q a b t rfl e
  | a :: b :: l, r, g1, g2, q => ⟨g1.1, Gap.app (l := b :: l) g1.2 g2 fun y x t e e2 => q y x t (by rw [List.getLast?_cons_cons]; exact e) e2⟩
theorem sum_app (l r : List Int) : (l ++ r).sum = l.sum + r.sum := List.sum_append
theorem Of.app {h : Nat → Int} {l r : List Int} (a : Of h l) (b : Of h r) : Of h (l ++ r) := fun x hx => (List.mem_append.mp hx).elim (a x) (b x)
/-- the last part taken away -/
theorem parts_less {k : Int} (hk : 1 ≤ k) {n x : Int} {l : List Int} (hn : 0 ≤ n) (e : parts k n = l ++ [x]) : parts k (n - x) = l ∧ 1 ≤ x ∧ x ≤ n := by
  have hs := parts_sum hk hn
  have hg := parts_gap hk hn
  have ho := parts_of hk (n := n)
  have hx : x ∈ parts k n := by rw [e]; exact List.mem_append_right _ List.mem_cons_self
  have h1 := parts_pos hk hx
  have h2 := parts_le hk hn hx
  rw [e] at hs hg ho
  rw [sum_app, List.sum_cons, List.sum_nil] at hs
  have := parts_uniq hk hg.init fun y hy => ho y (List.mem_append_left _ hy)
  rw [show l.sum = n - x by omega] at this
  exact ⟨this, h1, h2⟩
theorem lost_less {k : Int} (hk : 1 ≤ k) {n x : Int} (hn : 0 ≤ n) (e : (parts k n).getLast? = some x) : lost k (n - x) (k * x) = true ∧ 1 ≤ x ∧ x ≤ n := by
  obtain ⟨l, e2⟩ : ∃ l, parts k n = l ++ [x] := List.getLast?_eq_some_iff.mp e
  obtain ⟨a, b, c⟩ := parts_less hk hn e2
  refine ⟨?_, b, c⟩
  cases q : l.getLast? with
  | none =>
    have : l = [] := List.getLast?_eq_none_iff.mp q
    exact lost_nil (by rw [a, this])
  | some y =>
    rw [lost_some (x := y) (by rw [a]; exact q)]
    obtain ⟨l2, e3⟩ := List.getLast?_eq_some_iff.mp q
    have hg := parts_gap hk hn
    rw [e2, e3] at hg
    exact decide_eq_true hg.last
/-- from a lost one no taking leads to a lost one -/
theorem lost_taking {k : Int} (hk : 1 ≤ k) {n L t : Int} (hn : 0 ≤ n) (hl : lost k n L = true) (h1 : 1 ≤ t) (h2 : t ≤ n) (h3 : t ≤ L) : lost k (n - t) (k * t) = false := by
  have R := isRow hk
  cases q : (parts k n).getLast? with
  | none =>
    have e : parts k n = [] := List.getLast?_eq_none_iff.mp q
    have := parts_nil hk hn e
    omega
  | some x =>
    obtain ⟨l, e⟩ := List.getLast?_eq_some_iff.mp q
    rw [lost_some q] at hl
    have hlx := of_decide_eq_true hl
    obtain ⟨a, b, c⟩ := parts_less hk hn e
    have hg := parts_gap hk hn
    have ho := parts_of hk (n := n)
    rw [e] at hg ho
    -- what is left of the last part
    have r0 : 0 ≤ x - t := by omega
    have rs := parts_sum hk r0
    have rg := parts_gap hk r0
    have ro := parts_of hk (n := x - t)
    have rne : parts k (x - t) ≠ [] := fun z => by
      have := parts_nil hk r0 z
      omega
    have all : parts k (n - t) = l ++ parts k (x - t) := by
      have hgap : Gap k (l ++ parts k (x - t)) := hg.init.app rg fun y z t' el er => by
        obtain ⟨l2, e3⟩ := List.getLast?_eq_some_iff.mp el
        rw [e3] at hg
        have h4 := hg.last
        have h5 := parts_le hk r0 (x := z) (by rw [er]; exact List.mem_cons_self)
        have h6 := kle R (show z ≤ x by omega)
        omega
      have := parts_uniq hk hgap (Of.app (fun y hy => ho y (List.mem_append_left _ hy)) ro)
      rw [sum_app, rs] at this
      have ls : l.sum = n - x := by
        have := parts_sum hk (show 0 ≤ n - x by omega)
        rwa [a] at this
      rw [show l.sum + (x - t) = n - t by omega] at this
      exact this
    obtain ⟨y, hy⟩ : ∃ y, (parts k (x - t)).getLast? = some y := by
      cases q2 : (parts k (x - t)).getLast? with
      | none => exact absurd (List.getLast?_eq_none_iff.mp q2) rne
      | some y => exact ⟨y, rfl⟩
    have hlast : (parts k (n - t)).getLast? = some y := by
      rw [all, List.getLast?_append, hy]
      rfl
    rw [lost_some hlast]
    apply decide_eq_false
    intro bad
    -- else the last part would have two sums
    have ts := parts_sum hk (show 0 ≤ t by omega)
    have tg := parts_gap hk (show 0 ≤ t by omega)
    have hgap : Gap k (parts k (x - t) ++ parts k t) := rg.app tg fun y' z t' el er => by
      rw [hy] at el
      cases el
      have h5 := parts_le hk (show 0 ≤ t by omega) (x := z) (by rw [er]; exact List.mem_cons_self)
      have h6 := kle R h5
      omega
    have u := parts_uniq hk hgap (Of.app ro (parts_of hk))
    rw [sum_app, rs, ts, show x - t + t = x by omega] at u
    obtain ⟨i, ei⟩ := ho x (List.mem_append_right _ List.mem_cons_self)
    have v := parts_uniq hk (l := [x]) trivial (fun y' hy' => ⟨i, by rw [List.mem_singleton.mp hy', ei]⟩)
    rw [List.sum_cons, List.sum_nil, Int.add_zero] at v
    rw [v] at u
    have hlen : ([x] : List Int).length = (parts k (x - t)).length + (parts k t).length := by
      rw [← List.length_append, ← u]
    have n1 : (parts k (x - t)).length ≠ 0 := fun z => rne (List.length_eq_zero_iff.mp z)
    have n2 : (parts k t).length ≠ 0 := fun z => by
      have := parts_nil hk (show 0 ≤ t by omega) (List.length_eq_zero_iff.mp z)
      omega
    have : ([x] : List Int).length = 1 := rfl
    omega
/-- who is to take can win just where the last part is no more than the limit -/
theorem not_lost {k : Int} {n L x : Int} (e : (parts k n).getLast? = some x) : lost k n L = false ↔ x ≤ L := by
  rw [lost_some e]
  constructor
  · intro q
    have := of_decide_eq_false q
    omega
  · intro q
    exact decide_eq_false (by omega)
theorem lost_zero {k L : Int} : lost k 0 L = true := rfl
end TA
namespace Tx
open PySem PySem.Spec PyProof.Rows L2 Tk
/-! ### the text by places -/
def topS (i : Nat) : Stmt := PySem.Challenge.pw_takeagain_k05_refused.main.body.getD i (.Pass ⟨0, 0, 0, 0⟩)
abbrev s__wall : Stmt := topS 0
abbrev s_is_whole : Stmt := topS 12
abbrev s_check_factor : Stmt := topS 13
abbrev s_check_heap : Stmt := topS 14
abbrev s_Steps_init : Stmt := inClass (topS 15) 0
abbrev s_Steps_more : Stmt := inClass (topS 15) 1
abbrev s_steps_to : Stmt := topS 16
abbrev s_step_by : Stmt := topS 17
abbrev s_parts_of : Stmt := topS 18
abbrev s_sum_of : Stmt := topS 19
abbrev s_is_sum : Stmt := topS 20
abbrev s_whole : Stmt := topS 21
abbrev s_Lost_init : Stmt := inClass (topS 24) 0
abbrev s_Lost_shows : Stmt := inClass (topS 24) 1
abbrev s_Won_init : Stmt := inClass (topS 25) 0
abbrev s_Won_shows : Stmt := inClass (topS 25) 1
abbrev s_check_all : Stmt := topS 27
abbrev s_told : Stmt := topS 28
abbrev s_behind : Stmt := topS 29
abbrev s__law_cell_at : Stmt := topS 31
abbrev s__law_draw : Stmt := topS 32
abbrev s__law_value : Stmt := topS 33
abbrev s__law_factor : Stmt := topS 34
abbrev s__law_kinds : Stmt := topS 35
abbrev s__law_with_factor : Stmt := topS 36
abbrev s__law_with_heap : Stmt := topS 37
abbrev s__law_with_limit : Stmt := topS 38
abbrev s__law_with_number : Stmt := topS 39
abbrev s__law_with_sum : Stmt := topS 40
abbrev s__law_with_taking : Stmt := topS 41
abbrev s__law_told : Stmt := topS 42
abbrev s__law_all : Stmt := topS 43
abbrev s_law : Stmt := topS 44
abbrev n_is_whole : List Str := ["thing"]
theorem sc_is_whole : FnScope ["thing"] ["thing"] (defScope s_is_whole) := ⟨rfl, rfl, rfl, by decide +kernel, rfl, by decide +kernel, by decide +kernel⟩
abbrev n_check_factor : List Str := ["factor"]
theorem sc_check_factor : FnScope ["factor"] ["factor"] (defScope s_check_factor) := ⟨rfl, rfl, rfl, by decide +kernel, rfl, by decide +kernel, by decide +kernel⟩
abbrev n_check_heap : List Str := ["heap"]
theorem sc_check_heap : FnScope ["heap"] ["heap"] (defScope s_check_heap) := ⟨rfl, rfl, rfl, by decide +kernel, rfl, by decide +kernel, by decide +kernel⟩
abbrev n_Steps_init : List Str := ["self", "factor"]
theorem sc_Steps_init : FnScope ["self", "factor"] ["self", "factor"] (defScope s_Steps_init) := ⟨rfl, rfl, rfl, by decide +kernel, rfl, by decide +kernel, by decide +kernel⟩
abbrev n_Steps_more : List Str := ["self"]
theorem sc_Steps_more : FnScope ["self"] ["self"] (defScope s_Steps_more) := ⟨rfl, rfl, rfl, by decide +kernel, rfl, by decide +kernel, by decide +kernel⟩
abbrev n_steps_to : List Str := ["factor", "number", "steps"]
theorem sc_steps_to : FnScope ["factor", "number", "steps"] ["factor", "number"] (defScope s_steps_to) := ⟨rfl, rfl, rfl, by decide +kernel, rfl, by decide +kernel, by decide +kernel⟩
abbrev n_step_by : List Str := ["factor", "number", "steps", "turn"]
theorem sc_step_by : FnScope ["factor", "number", "steps", "turn"] ["factor", "number"] (defScope s_step_by) := ⟨rfl, rfl, rfl, by decide +kernel, rfl, by decide +kernel, by decide +kernel⟩
abbrev n_parts_of : List Str := ["factor", "heap", "found", "step"]
theorem sc_parts_of : FnScope ["factor", "heap", "found", "step"] ["factor", "heap"] (defScope s_parts_of) := ⟨rfl, rfl, rfl, by decide +kernel, rfl, by decide +kernel, by decide +kernel⟩
abbrev n_sum_of : List Str := ["factor", "heap"]
theorem sc_sum_of : FnScope ["factor", "heap"] ["factor", "heap"] (defScope s_sum_of) := ⟨rfl, rfl, rfl, by decide +kernel, rfl, by decide +kernel, by decide +kernel⟩
abbrev n_is_sum : List Str := ["factor", "parts", "steps", "part", "at"]
theorem sc_is_sum : FnScope ["factor", "parts", "steps", "part", "at"] ["factor", "parts"] (defScope s_is_sum) := ⟨rfl, rfl, rfl, by decide +kernel, rfl, by decide +kernel, by decide +kernel⟩
abbrev n_whole : List Str := ["factor", "parts"]
theorem sc_whole : FnScope ["factor", "parts"] ["factor", "parts"] (defScope s_whole) := ⟨rfl, rfl, rfl, by decide +kernel, rfl, by decide +kernel, by decide +kernel⟩
abbrev n_Lost_init : List Str := ["self", "parts"]
theorem sc_Lost_init : FnScope ["self", "parts"] ["self", "parts"] (defScope s_Lost_init) := ⟨rfl, rfl, rfl, by decide +kernel, rfl, by decide +kernel, by decide +kernel⟩
abbrev n_Won_init : List Str := ["self", "taking"]
theorem sc_Won_init : FnScope ["self", "taking"] ["self", "taking"] (defScope s_Won_init) := ⟨rfl, rfl, rfl, by decide +kernel, rfl, by decide +kernel, by decide +kernel⟩
abbrev n_check_all : List Str := ["factor", "heap", "limit"]
theorem sc_check_all : FnScope ["factor", "heap", "limit"] ["factor", "heap", "limit"] (defScope s_check_all) := ⟨rfl, rfl, rfl, by decide +kernel, rfl, by decide +kernel, by decide +kernel⟩
abbrev n_told : List Str := ["factor", "heap", "limit", "parts"]
theorem sc_told : FnScope ["factor", "heap", "limit", "parts"] ["factor", "heap", "limit"] (defScope s_told) := ⟨rfl, rfl, rfl, by decide +kernel, rfl, by decide +kernel, by decide +kernel⟩
abbrev n_behind : List Str := ["factor", "heap", "limit", "taking"]
theorem sc_behind : FnScope ["factor", "heap", "limit", "taking"] ["factor", "heap", "limit", "taking"] (defScope s_behind) := ⟨rfl, rfl, rfl, by decide +kernel, rfl, by decide +kernel, by decide +kernel⟩
abbrev n__law_cell_at : List Str := ["_law_script", "_law_k"]
theorem sc__law_cell_at : FnScope ["_law_script", "_law_k"] ["_law_script", "_law_k"] (defScope s__law_cell_at) := ⟨rfl, rfl, rfl, by decide +kernel, rfl, by decide +kernel, by decide +kernel⟩
abbrev n__law_draw : List Str := ["_law_cell", "_law_k", "_law_many", "_law_primes"]
theorem sc__law_draw : FnScope ["_law_cell", "_law_k", "_law_many", "_law_primes"] ["_law_cell", "_law_k", "_law_many"] (defScope s__law_draw) := ⟨rfl, rfl, rfl, by decide +kernel, rfl, by decide +kernel, by decide +kernel⟩
abbrev n__law_value : List Str := ["_law_cell", "_law_k", "_law_limit"]
theorem sc__law_value : FnScope ["_law_cell", "_law_k", "_law_limit"] ["_law_cell", "_law_k", "_law_limit"] (defScope s__law_value) := ⟨rfl, rfl, rfl, by decide +kernel, rfl, by decide +kernel, by decide +kernel⟩
abbrev n__law_factor : List Str := ["_law_script", "_law_k", "_law_cell"]
theorem sc__law_factor : FnScope ["_law_script", "_law_k", "_law_cell"] ["_law_script", "_law_k"] (defScope s__law_factor) := ⟨rfl, rfl, rfl, by decide +kernel, rfl, by decide +kernel, by decide +kernel⟩
abbrev n__law_kinds : List Str := ["_law_error", "_law_found"]
theorem sc__law_kinds : FnScope ["_law_error", "_law_found"] ["_law_error"] (defScope s__law_kinds) := ⟨rfl, rfl, rfl, by decide +kernel, rfl, by decide +kernel, by decide +kernel⟩
abbrev n__law_with_factor : List Str := ["_law_door", "_law_factor_here"]
theorem sc__law_with_factor : FnScope ["_law_door", "_law_factor_here"] ["_law_door", "_law_factor_here"] (defScope s__law_with_factor) := ⟨rfl, rfl, rfl, by decide +kernel, rfl, by decide +kernel, by decide +kernel⟩
abbrev n__law_with_heap : List Str := ["_law_door", "_law_heap"]
theorem sc__law_with_heap : FnScope ["_law_door", "_law_heap"] ["_law_door", "_law_heap"] (defScope s__law_with_heap) := ⟨rfl, rfl, rfl, by decide +kernel, rfl, by decide +kernel, by decide +kernel⟩
abbrev n__law_with_limit : List Str := ["_law_door", "_law_limit"]
theorem sc__law_with_limit : FnScope ["_law_door", "_law_limit"] ["_law_door", "_law_limit"] (defScope s__law_with_limit) := ⟨rfl, rfl, rfl, by decide +kernel, rfl, by decide +kernel, by decide +kernel⟩
abbrev n__law_with_number : List Str := ["_law_door", "_law_number"]
theorem sc__law_with_number : FnScope ["_law_door", "_law_number"] ["_law_door", "_law_number"] (defScope s__law_with_number) := ⟨rfl, rfl, rfl, by decide +kernel, rfl, by decide +kernel, by decide +kernel⟩
abbrev n__law_with_sum : List Str := ["_law_factor_here", "_law_parts"]
theorem sc__law_with_sum : FnScope ["_law_factor_here", "_law_parts"] ["_law_factor_here", "_law_parts"] (defScope s__law_with_sum) := ⟨rfl, rfl, rfl, by decide +kernel, rfl, by decide +kernel, by decide +kernel⟩
abbrev n__law_with_taking : List Str := ["_law_where", "_law_taking", "_law_factor_here", "_law_heap", "_law_limit"]
theorem sc__law_with_taking : FnScope ["_law_where", "_law_taking", "_law_factor_here", "_law_heap", "_law_limit"] ["_law_where", "_law_taking"] (defScope s__law_with_taking) := ⟨rfl, rfl, rfl, by decide +kernel, rfl, by decide +kernel, by decide +kernel⟩
abbrev n__law_told : List Str := ["_law_ask", "_law_one", "_law_other", "_law_error"]
theorem sc__law_told : FnScope ["_law_ask", "_law_one", "_law_other", "_law_error"] ["_law_ask", "_law_one", "_law_other"] (defScope s__law_told) := ⟨rfl, rfl, rfl, by decide +kernel, rfl, by decide +kernel, by decide +kernel⟩
abbrev n__law_all : List Str := ["_law_ask", "_law_doors", "_law_things", "_law_due", "_law_door", "_law_thing"]
theorem sc__law_all : FnScope ["_law_ask", "_law_doors", "_law_things", "_law_due", "_law_door", "_law_thing"] ["_law_ask", "_law_doors", "_law_things", "_law_due"] (defScope s__law_all) := ⟨rfl, rfl, rfl, by decide +kernel, rfl, by decide +kernel, by decide +kernel⟩
abbrev n_law : List Str := ["_law_script", "_law_far", "_law_due", "_law_k", "_law_strange", "_law_bad", "_law_factor_here", "_law_heap", "_law_limit", "_law_most", "_law_where", "_law_taking", "_law_after"]
theorem sc_law : FnScope ["_law_script", "_law_far", "_law_due", "_law_k", "_law_strange", "_law_bad", "_law_factor_here", "_law_heap", "_law_limit", "_law_most", "_law_where", "_law_taking", "_law_after"] ["_law_script"] (defScope s_law) := ⟨rfl, rfl, rfl, by decide +kernel, rfl, by decide +kernel, by decide +kernel⟩
theorem bd_is_whole {K : PySem.W.Frag} {f : Addr} {fd : FuncData} (F : Fun K "is_whole" "is_whole" s_is_whole f fd) : Binds K fd ["thing"] [] := F.binds (ps := ["thing"]) fun _ _ _ _ _ _ us hl => match us, hl with | [_], _ => rfl
theorem bd_check_factor {K : PySem.W.Frag} {f : Addr} {fd : FuncData} (F : Fun K "check_factor" "check_factor" s_check_factor f fd) : Binds K fd ["factor"] [] := F.binds (ps := ["factor"]) fun _ _ _ _ _ _ us hl => match us, hl with | [_], _ => rfl
theorem bd_check_heap {K : PySem.W.Frag} {f : Addr} {fd : FuncData} (F : Fun K "check_heap" "check_heap" s_check_heap f fd) : Binds K fd ["heap"] [] := F.binds (ps := ["heap"]) fun _ _ _ _ _ _ us hl => match us, hl with | [_], _ => rfl
theorem bd_Steps_init {K : PySem.W.Frag} {f : Addr} {fd : FuncData} (F : Fun K "__init__" "Steps.__init__" s_Steps_init f fd) : Binds K fd ["self", "factor"] [] := F.binds (ps := ["self", "factor"]) fun _ _ _ _ _ _ us hl => match us, hl with | [_, _], _ => rfl
theorem bd_Steps_more {K : PySem.W.Frag} {f : Addr} {fd : FuncData} (F : Fun K "more" "Steps.more" s_Steps_more f fd) : Binds K fd ["self"] [] := F.binds (ps := ["self"]) fun _ _ _ _ _ _ us hl => match us, hl with | [_], _ => rfl
theorem bd_steps_to {K : PySem.W.Frag} {f : Addr} {fd : FuncData} (F : Fun K "steps_to" "steps_to" s_steps_to f fd) : Binds K fd ["factor", "number"] [] := F.binds (ps := ["factor", "number"]) fun _ _ _ _ _ _ us hl => match us, hl with | [_, _], _ => rfl
theorem bd_step_by {K : PySem.W.Frag} {f : Addr} {fd : FuncData} (F : Fun K "step_by" "step_by" s_step_by f fd) : Binds K fd ["factor", "number"] [] := F.binds (ps := ["factor", "number"]) fun _ _ _ _ _ _ us hl => match us, hl with | [_, _], _ => rfl
theorem bd_parts_of {K : PySem.W.Frag} {f : Addr} {fd : FuncData} (F : Fun K "parts_of" "parts_of" s_parts_of f fd) : Binds K fd ["factor", "heap"] [] := F.binds (ps := ["factor", "heap"]) fun _ _ _ _ _ _ us hl => match us, hl with | [_, _], _ => rfl
theorem bd_sum_of {K : PySem.W.Frag} {f : Addr} {fd : FuncData} (F : Fun K "sum_of" "sum_of" s_sum_of f fd) : Binds K fd ["factor", "heap"] [] := F.binds (ps := ["factor", "heap"]) fun _ _ _ _ _ _ us hl => match us, hl with | [_, _], _ => rfl
theorem bd_is_sum {K : PySem.W.Frag} {f : Addr} {fd : FuncData} (F : Fun K "is_sum" "is_sum" s_is_sum f fd) : Binds K fd ["factor", "parts"] [] := F.binds (ps := ["factor", "parts"]) fun _ _ _ _ _ _ us hl => match us, hl with | [_, _], _ => rfl
theorem bd_whole {K : PySem.W.Frag} {f : Addr} {fd : FuncData} (F : Fun K "whole" "whole" s_whole f fd) : Binds K fd ["factor", "parts"] [] := F.binds (ps := ["factor", "parts"]) fun _ _ _ _ _ _ us hl => match us, hl with | [_, _], _ => rfl
theorem bd_Lost_init {K : PySem.W.Frag} {f : Addr} {fd : FuncData} (F : Fun K "__init__" "Lost.__init__" s_Lost_init f fd) : Binds K fd ["self", "parts"] [] := F.binds (ps := ["self", "parts"]) fun _ _ _ _ _ _ us hl => match us, hl with | [_, _], _ => rfl
theorem bd_Won_init {K : PySem.W.Frag} {f : Addr} {fd : FuncData} (F : Fun K "__init__" "Won.__init__" s_Won_init f fd) : Binds K fd ["self", "taking"] [] := F.binds (ps := ["self", "taking"]) fun _ _ _ _ _ _ us hl => match us, hl with | [_, _], _ => rfl
theorem bd_check_all {K : PySem.W.Frag} {f : Addr} {fd : FuncData} (F : Fun K "check_all" "check_all" s_check_all f fd) : Binds K fd ["factor", "heap", "limit"] [] := F.binds (ps := ["factor", "heap", "limit"]) fun _ _ _ _ _ _ us hl => match us, hl with | [_, _, _], _ => rfl
theorem bd_told {K : PySem.W.Frag} {f : Addr} {fd : FuncData} (F : Fun K "told" "told" s_told f fd) : Binds K fd ["factor", "heap", "limit"] [] := F.binds (ps := ["factor", "heap", "limit"]) fun _ _ _ _ _ _ us hl => match us, hl with | [_, _, _], _ => rfl
theorem bd_behind {K : PySem.W.Frag} {f : Addr} {fd : FuncData} (F : Fun K "behind" "behind" s_behind f fd) : Binds K fd ["factor", "heap", "limit", "taking"] [] := F.binds (ps := ["factor", "heap", "limit", "taking"]) fun _ _ _ _ _ _ us hl => match us, hl with | [_, _, _, _], _ => rfl
theorem bd__law_cell_at {K : PySem.W.Frag} {f : Addr} {fd : FuncData} (F : Fun K "_law_cell_at" "_law_cell_at" s__law_cell_at f fd) : Binds K fd ["_law_script", "_law_k"] [] := F.binds (ps := ["_law_script", "_law_k"]) fun _ _ _ _ _ _ us hl => match us, hl with | [_, _], _ => rfl
theorem bd__law_draw {K : PySem.W.Frag} {f : Addr} {fd : FuncData} (F : Fun K "_law_draw" "_law_draw" s__law_draw f fd) : Binds K fd ["_law_cell", "_law_k", "_law_many"] [] := F.binds (ps := ["_law_cell", "_law_k", "_law_many"]) fun _ _ _ _ _ _ us hl => match us, hl with | [_, _, _], _ => rfl
theorem bd__law_value {K : PySem.W.Frag} {f : Addr} {fd : FuncData} (F : Fun K "_law_value" "_law_value" s__law_value f fd) : Binds K fd ["_law_cell", "_law_k", "_law_limit"] [] := F.binds (ps := ["_law_cell", "_law_k", "_law_limit"]) fun _ _ _ _ _ _ us hl => match us, hl with | [_, _, _], _ => rfl
theorem bd__law_factor {K : PySem.W.Frag} {f : Addr} {fd : FuncData} (F : Fun K "_law_factor" "_law_factor" s__law_factor f fd) : Binds K fd ["_law_script", "_law_k"] [] := F.binds (ps := ["_law_script", "_law_k"]) fun _ _ _ _ _ _ us hl => match us, hl with | [_, _], _ => rfl
theorem bd__law_kinds {K : PySem.W.Frag} {f : Addr} {fd : FuncData} (F : Fun K "_law_kinds" "_law_kinds" s__law_kinds f fd) : Binds K fd ["_law_error"] [] := F.binds (ps := ["_law_error"]) fun _ _ _ _ _ _ us hl => match us, hl with | [_], _ => rfl
theorem bd__law_with_factor {K : PySem.W.Frag} {f : Addr} {fd : FuncData} (F : Fun K "_law_with_factor" "_law_with_factor" s__law_with_factor f fd) : Binds K fd ["_law_door", "_law_factor_here"] [] := F.binds (ps := ["_law_door", "_law_factor_here"]) fun _ _ _ _ _ _ us hl => match us, hl with | [_, _], _ => rfl
theorem bd__law_with_heap {K : PySem.W.Frag} {f : Addr} {fd : FuncData} (F : Fun K "_law_with_heap" "_law_with_heap" s__law_with_heap f fd) : Binds K fd ["_law_door", "_law_heap"] [] := F.binds (ps := ["_law_door", "_law_heap"]) fun _ _ _ _ _ _ us hl => match us, hl with | [_, _], _ => rfl
theorem bd__law_with_limit {K : PySem.W.Frag} {f : Addr} {fd : FuncData} (F : Fun K "_law_with_limit" "_law_with_limit" s__law_with_limit f fd) : Binds K fd ["_law_door", "_law_limit"] [] := F.binds (ps := ["_law_door", "_law_limit"]) fun _ _ _ _ _ _ us hl => match us, hl with | [_, _], _ => rfl
theorem bd__law_with_number {K : PySem.W.Frag} {f : Addr} {fd : FuncData} (F : Fun K "_law_with_number" "_law_with_number" s__law_with_number f fd) : Binds K fd ["_law_door", "_law_number"] [] := F.binds (ps := ["_law_door", "_law_number"]) fun _ _ _ _ _ _ us hl => match us, hl with | [_, _], _ => rfl
theorem bd__law_with_sum {K : PySem.W.Frag} {f : Addr} {fd : FuncData} (F : Fun K "_law_with_sum" "_law_with_sum" s__law_with_sum f fd) : Binds K fd ["_law_factor_here", "_law_parts"] [] := F.binds (ps := ["_law_factor_here", "_law_parts"]) fun _ _ _ _ _ _ us hl => match us, hl with | [_, _], _ => rfl
theorem bd__law_with_taking {K : PySem.W.Frag} {f : Addr} {fd : FuncData} (F : Fun K "_law_with_taking" "_law_with_taking" s__law_with_taking f fd) : Binds K fd ["_law_where", "_law_taking"] [] := F.binds (ps := ["_law_where", "_law_taking"]) fun _ _ _ _ _ _ us hl => match us, hl with | [_, _], _ => rfl
theorem bd__law_told {K : PySem.W.Frag} {f : Addr} {fd : FuncData} (F : Fun K "_law_told" "_law_told" s__law_told f fd) : Binds K fd ["_law_ask", "_law_one", "_law_other"] [] := F.binds (ps := ["_law_ask", "_law_one", "_law_other"]) fun _ _ _ _ _ _ us hl => match us, hl with | [_, _, _], _ => rfl
theorem bd__law_all {K : PySem.W.Frag} {f : Addr} {fd : FuncData} (F : Fun K "_law_all" "_law_all" s__law_all f fd) : Binds K fd ["_law_ask", "_law_doors", "_law_things", "_law_due"] [] := F.binds (ps := ["_law_ask", "_law_doors", "_law_things", "_law_due"]) fun _ _ _ _ _ _ us hl => match us, hl with | [_, _, _, _], _ => rfl
theorem bd_law {K : PySem.W.Frag} {f : Addr} {fd : FuncData} (F : Fun K "law" "law" s_law f fd) : Binds K fd ["_law_script"] [] := F.binds (ps := ["_law_script"]) fun _ _ _ _ _ _ us hl => match us, hl with | [_], _ => rfl
structure Txt (K : PySem.W.Frag) (mg : Str → Option Value) (CTakeError CBadFactor CBadHeap CBadLimit CBadNumber CBadSum CBadTaking CSteps CLost CWon : Addr) : Prop where
  D_is_whole : Dfn K mg "is_whole" s_is_whole
  D_check_factor : Dfn K mg "check_factor" s_check_factor
  D_check_heap : Dfn K mg "check_heap" s_check_heap
  D_steps_to : Dfn K mg "steps_to" s_steps_to
  D_step_by : Dfn K mg "step_by" s_step_by
  D_parts_of : Dfn K mg "parts_of" s_parts_of
  D_sum_of : Dfn K mg "sum_of" s_sum_of
  D_is_sum : Dfn K mg "is_sum" s_is_sum
  D_whole : Dfn K mg "whole" s_whole
  D_check_all : Dfn K mg "check_all" s_check_all
  D_told : Dfn K mg "told" s_told
  D_behind : Dfn K mg "behind" s_behind
  D__law_cell_at : Dfn K mg "_law_cell_at" s__law_cell_at
  D__law_draw : Dfn K mg "_law_draw" s__law_draw
  D__law_value : Dfn K mg "_law_value" s__law_value
  D__law_factor : Dfn K mg "_law_factor" s__law_factor
  D__law_kinds : Dfn K mg "_law_kinds" s__law_kinds
  D__law_with_factor : Dfn K mg "_law_with_factor" s__law_with_factor
  D__law_with_heap : Dfn K mg "_law_with_heap" s__law_with_heap
  D__law_with_limit : Dfn K mg "_law_with_limit" s__law_with_limit
  D__law_with_number : Dfn K mg "_law_with_number" s__law_with_number
  D__law_with_sum : Dfn K mg "_law_with_sum" s__law_with_sum
  D__law_with_taking : Dfn K mg "_law_with_taking" s__law_with_taking
  D__law_told : Dfn K mg "_law_told" s__law_told
  D__law_all : Dfn K mg "_law_all" s__law_all
  e_TakeError : mg "TakeError" = some (.ref CTakeError)
  e_BadFactor : mg "BadFactor" = some (.ref CBadFactor)
  e_BadHeap : mg "BadHeap" = some (.ref CBadHeap)
  e_BadLimit : mg "BadLimit" = some (.ref CBadLimit)
  e_BadNumber : mg "BadNumber" = some (.ref CBadNumber)
  e_BadSum : mg "BadSum" = some (.ref CBadSum)
  e_BadTaking : mg "BadTaking" = some (.ref CBadTaking)
  e_Steps : mg "Steps" = some (.ref CSteps)
  mk_Steps : PySem.W.makesIn K CSteps = true
  kp_Steps : PySem.W.keepIn K (.ref CSteps) = true
  cl_Steps : Cls K CSteps
  n_Steps_factor : NoAttr K CSteps "factor"
  n_Steps_made : NoAttr K CSteps "made"
  n_Steps_least : NoAttr K CSteps "least"
  D_Steps_init : Mdf K CSteps "__init__" "Steps.__init__" s_Steps_init
  D_Steps_more : Mdf K CSteps "more" "Steps.more" s_Steps_more
  e_Lost : mg "Lost" = some (.ref CLost)
  mk_Lost : PySem.W.makesIn K CLost = true
  kp_Lost : PySem.W.keepIn K (.ref CLost) = true
  cl_Lost : Cls K CLost
  n_Lost_parts : NoAttr K CLost "parts"
  D_Lost_init : Mdf K CLost "__init__" "Lost.__init__" s_Lost_init
  e_Won : mg "Won" = some (.ref CWon)
  mk_Won : PySem.W.makesIn K CWon = true
  kp_Won : PySem.W.keepIn K (.ref CWon) = true
  cl_Won : Cls K CWon
  n_Won_taking : NoAttr K CWon "taking"
  D_Won_init : Mdf K CWon "__init__" "Won.__init__" s_Won_init
  x_BadFactor : Err K mg "BadFactor" CBadFactor CTakeError
  kt_BadFactor_BadFactor : PySem.W.kitOne K (.ref CBadFactor) (.ref CBadFactor) = some true
  kt_BadFactor_BadHeap : PySem.W.kitOne K (.ref CBadFactor) (.ref CBadHeap) = some false
  kt_BadFactor_BadLimit : PySem.W.kitOne K (.ref CBadFactor) (.ref CBadLimit) = some false
  kt_BadFactor_BadNumber : PySem.W.kitOne K (.ref CBadFactor) (.ref CBadNumber) = some false
  kt_BadFactor_BadSum : PySem.W.kitOne K (.ref CBadFactor) (.ref CBadSum) = some false
  kt_BadFactor_BadTaking : PySem.W.kitOne K (.ref CBadFactor) (.ref CBadTaking) = some false
  x_BadHeap : Err K mg "BadHeap" CBadHeap CTakeError
  kt_BadHeap_BadFactor : PySem.W.kitOne K (.ref CBadHeap) (.ref CBadFactor) = some false
  kt_BadHeap_BadHeap : PySem.W.kitOne K (.ref CBadHeap) (.ref CBadHeap) = some true
  kt_BadHeap_BadLimit : PySem.W.kitOne K (.ref CBadHeap) (.ref CBadLimit) = some false
  kt_BadHeap_BadNumber : PySem.W.kitOne K (.ref CBadHeap) (.ref CBadNumber) = some false
  kt_BadHeap_BadSum : PySem.W.kitOne K (.ref CBadHeap) (.ref CBadSum) = some false
  kt_BadHeap_BadTaking : PySem.W.kitOne K (.ref CBadHeap) (.ref CBadTaking) = some false
  x_BadLimit : Err K mg "BadLimit" CBadLimit CTakeError
  kt_BadLimit_BadFactor : PySem.W.kitOne K (.ref CBadLimit) (.ref CBadFactor) = some false
  kt_BadLimit_BadHeap : PySem.W.kitOne K (.ref CBadLimit) (.ref CBadHeap) = some false
  kt_BadLimit_BadLimit : PySem.W.kitOne K (.ref CBadLimit) (.ref CBadLimit) = some true
  kt_BadLimit_BadNumber : PySem.W.kitOne K (.ref CBadLimit) (.ref CBadNumber) = some false
  kt_BadLimit_BadSum : PySem.W.kitOne K (.ref CBadLimit) (.ref CBadSum) = some false
  kt_BadLimit_BadTaking : PySem.W.kitOne K (.ref CBadLimit) (.ref CBadTaking) = some false
  x_BadNumber : Err K mg "BadNumber" CBadNumber CTakeError
  kt_BadNumber_BadFactor : PySem.W.kitOne K (.ref CBadNumber) (.ref CBadFactor) = some false
  kt_BadNumber_BadHeap : PySem.W.kitOne K (.ref CBadNumber) (.ref CBadHeap) = some false
  kt_BadNumber_BadLimit : PySem.W.kitOne K (.ref CBadNumber) (.ref CBadLimit) = some false
  kt_BadNumber_BadNumber : PySem.W.kitOne K (.ref CBadNumber) (.ref CBadNumber) = some true
  kt_BadNumber_BadSum : PySem.W.kitOne K (.ref CBadNumber) (.ref CBadSum) = some false
  kt_BadNumber_BadTaking : PySem.W.kitOne K (.ref CBadNumber) (.ref CBadTaking) = some false
  x_BadSum : Err K mg "BadSum" CBadSum CTakeError
  kt_BadSum_BadFactor : PySem.W.kitOne K (.ref CBadSum) (.ref CBadFactor) = some false
  kt_BadSum_BadHeap : PySem.W.kitOne K (.ref CBadSum) (.ref CBadHeap) = some false
  kt_BadSum_BadLimit : PySem.W.kitOne K (.ref CBadSum) (.ref CBadLimit) = some false
  kt_BadSum_BadNumber : PySem.W.kitOne K (.ref CBadSum) (.ref CBadNumber) = some false
  kt_BadSum_BadSum : PySem.W.kitOne K (.ref CBadSum) (.ref CBadSum) = some true
  kt_BadSum_BadTaking : PySem.W.kitOne K (.ref CBadSum) (.ref CBadTaking) = some false
  x_BadTaking : Err K mg "BadTaking" CBadTaking CTakeError
  kt_BadTaking_BadFactor : PySem.W.kitOne K (.ref CBadTaking) (.ref CBadFactor) = some false
  kt_BadTaking_BadHeap : PySem.W.kitOne K (.ref CBadTaking) (.ref CBadHeap) = some false
  kt_BadTaking_BadLimit : PySem.W.kitOne K (.ref CBadTaking) (.ref CBadLimit) = some false
  kt_BadTaking_BadNumber : PySem.W.kitOne K (.ref CBadTaking) (.ref CBadNumber) = some false
  kt_BadTaking_BadSum : PySem.W.kitOne K (.ref CBadTaking) (.ref CBadSum) = some false
  kt_BadTaking_BadTaking : PySem.W.kitOne K (.ref CBadTaking) (.ref CBadTaking) = some true
  bs_TakeError : PySem.W.subIn K (.ref CTakeError) (.type "BaseException") = some true
  hd_TakeError : PySem.W.hasDictIn K CTakeError = true
  tp_TakeError : PySem.W.typeIn K (.ref CTakeError) = some (.type "type")
  b_ValueError : mg "ValueError" = none
  b_range : mg "range" = none
  b_all : mg "all" = none
  b_sum : mg "sum" = none
  b_isinstance : mg "isinstance" = none
  b_int : mg "int" = none
  b_list : mg "list" = none
  b_len : mg "len" = none
  b_bool : mg "bool" = none
  b_min : mg "min" = none
  m_GREATEST : ∃ t, mg "GREATEST" = some (.int 30 t)
  m_MOST : ∃ t, mg "MOST" = some (.int 3000 t)
end Tx
namespace TA
/-- where the search for the next least stands behind n steps -/
def q (k : Int) : Nat → Nat
  | 0 => 0
  | n + 1 => p k n
theorem q_le {k : Int} (hk : 1 ≤ k) : ∀ n, q k n ≤ p k n
  | 0 => Nat.zero_le _
  | n + 1 => (isRow hk).p_mono n
end TA
namespace Tx
open PySem PySem.Spec PyProof.Rows L2 Tk TA
/-! ### fields -/
theorem putF_idem (f : Str) (v u : V) : ∀ fs : List (Str × V), putF f v (putF f u fs) = putF f v fs
  | [] => by
    show (if f = f then _ else _) = _
    rw [if_pos rfl]
    all_goals rfl
  | (g, x) :: r => by
    have ih := putF_idem f v u r
    by_cases h : g = f
    · show putF f v (if g = f then (g, u) :: r else (g, x) :: putF f u r) = (if g = f then (g, v) :: r else (g, x) :: putF f v r)
      rw [if_pos h, if_pos h]
      show (if g = f then (g, v) :: r else (g, u) :: putF f v r) = (g, v) :: r
      rw [if_pos h]
    · show putF f v (if g = f then (g, u) :: r else (g, x) :: putF f u r) = (if g = f then (g, v) :: r else (g, x) :: putF f v r)
      rw [if_neg h, if_neg h]
      show (if g = f then (g, v) :: putF f u r else (g, x) :: putF f v (putF f u r)) = _
      rw [if_neg h, ih]
def fS (k : Int) (l : Addr) (n : Int) : List (Str × V) := putF "least" (.int n) (putF "made" (.ref l) (putF "factor" (.int k) []))
theorem fS_factor (k : Int) (l : Addr) (n : Int) : (fS k l n).lookup ("factor" : Str) = some (.int k) := by
  unfold fS
  rw [lookup_putF, if_neg (by decide +kernel), lookup_putF, if_neg (by decide +kernel), lookup_putF, if_pos rfl]
theorem fS_made (k : Int) (l : Addr) (n : Int) : (fS k l n).lookup ("made" : Str) = some (.ref l) := by
  unfold fS
  rw [lookup_putF, if_neg (by decide +kernel), lookup_putF, if_pos rfl]
theorem fS_least (k : Int) (l : Addr) (n : Int) : (fS k l n).lookup ("least" : Str) = some (.int n) := by
  unfold fS
  rw [lookup_putF, if_pos rfl]
theorem fS_more (k : Int) (l : Addr) (n : Int) : (fS k l n).lookup ("more" : Str) = none := by
  unfold fS
  rw [lookup_putF, if_neg (by decide +kernel), lookup_putF, if_neg (by decide +kernel), lookup_putF, if_neg (by decide +kernel)]
  all_goals rfl
theorem fS_put (k : Int) (l : Addr) (n m : Int) : putF "least" (.int m) (fS k l n) = fS k l m := putF_idem _ _ _ _
theorem fS_len (k : Int) (l : Addr) (n : Int) : (fS k l n).length < 1000 := by
  have a := length_putF ("factor" : Str) (.int k) []
  have b := length_putF ("made" : Str) (.ref l) (putF "factor" (.int k) [])
  have c := length_putF ("least" : Str) (.int n) (putF "made" (.ref l) (putF "factor" (.int k) []))
  have z : ([] : List (Str × V)).length = 0 := rfl
  unfold fS
  omega
/-- the Steps at x: behind n steps by the factor k, its list at l -/
structure StepsAt (C : Addr) (k : Int) (n : Nat) (H : Hp) (x l : Addr) : Prop where
  ob : ∃ dx, H x = some (.ins C dx (fS k l (q k n)))
  ls : H l = some (.lst ((row k n).map V.int))
theorem at_row (k : Int) {n i : Nat} (hi : i ≤ n) : atI ((row k n).map V.int) (i : Int) = some (.int (h k i)) := atI_nat (by rw [List.getElem?_map, row_get k n i hi]; all_goals rfl)
theorem at_row_last (k : Int) : ∀ n, atI ((row k n).map V.int) (-1) = some (.int (h k n))
  | 0 => by
    show atI ([] ++ [V.int 1]) (-1) = _
    exact atI_last _ _
  | n + 1 => by
    rw [row_succ, List.map_append]
    exact atI_last _ _
section
variable {P : Program} {w : World} {K : PySem.W.Frag} {mg : Str → Option Value} {base : Heap} {CTakeError CBadFactor CBadHeap CBadLimit CBadNumber CBadSum CBadTaking CSteps CLost CWon : Addr}
/-! ### is_whole -/
def sp_is_whole (K : PySem.W.Frag) : Sp := fun vs H Q _ => ∃ v b, vs = [v] ∧ Wh K H v b ∧ Q (.bl b) H
theorem ok_is_whole (T : Txt K mg CTakeError CBadFactor CBadHeap CBadLimit CBadNumber CBadSum CBadTaking CSteps CLost CWon) : OkG P w K mg base CX0 1 "is_whole" (sp_is_whole K) := by
  refine OkG.of T.D_is_whole (fun _ _ => bd_is_whole) fun f fd F => F.ok sc_is_whole (fun vs H Q E h => ?_) (fun cdv A outer s H vs Q E hr h => ?_)
  · obtain ⟨v, b, rfl, _⟩ := h
    rfl
  · obtain ⟨v, b, rfl, hw, g⟩ := h
    refine ⟨_, (pss_one (ps_ret (pe_and (pe_callB call_isi (by rfl) T.b_isinstance (by decide +kernel) (pa_cons (pv 0) (pa_cons (pe_bltn (v := .ty "int") (by rfl) T.b_int (by decide +kernel) rfl) pa_nil))) (pe_and (pe_not (pe_callB call_isi (by rfl) T.b_isinstance (by decide +kernel) (pa_cons (pv 0) (pa_cons (pe_bltn (v := .ty "bool") (by rfl) T.b_bool (by decide +kernel) rfl) pa_nil)))) (pe_one (pe_cmpR op_ge (pv 0) pe_int (nomark _))))))), ?_⟩
    cases hw with
    | int n =>
      refine ⟨_, rfl, _, _, _, _, true, rfl, .ty _, .base (.int n), kit_ty (by decide +kernel), _, rfl, iteT ?_⟩
      refine ⟨_, rfl, _, _, _, _, false, rfl, .ty _, .base (.int n), kit_ty (by decide +kernel), _, rfl, _, rfl, iteT ?_⟩
      exact ⟨_, rfl, _, _, rfl, rfl, g⟩
    | bl c =>
      refine ⟨_, rfl, _, _, _, _, true, rfl, .ty _, .base (.bl c), kit_ty (by decide +kernel), _, rfl, iteT ?_⟩
      exact ⟨_, rfl, _, _, _, _, true, rfl, .ty _, .base (.bl c), kit_ty (by decide +kernel), _, rfl, _, rfl, iteF g⟩
    | oth ty kt =>
      exact ⟨_, rfl, _, _, _, _, false, rfl, .ty _, ty, kit_ty kt, _, rfl, iteF g⟩
/-! ### Steps -/
def sp_Steps_init (C : Addr) : Sp := fun vs H Q _ => ∃ (x dx : Addr) (k : Int), vs = [.ref x, .int k] ∧ H x = some (.ins C dx []) ∧ ∀ (l : Addr) (H' : Hp), H l = none → StepsAt C k 0 H' x l → (∀ b o, H b = some o → b ≠ x → H' b = some o) → Q .non H'
theorem ok_Steps_init (T : Txt K mg CTakeError CBadFactor CBadHeap CBadLimit CBadNumber CBadSum CBadTaking CSteps CLost CWon) : OkC P w K mg base CX0 1 "Steps" CSteps (sp_Steps_init CSteps) := by
  refine OkC.of T.e_Steps T.mk_Steps T.kp_Steps T.D_Steps_init (fun _ _ => bd_Steps_init) fun f fd F => F.ok sc_Steps_init (fun vs H Q E h => ?_) (fun cdv A outer s H vs Q E hr h => ?_)
  · obtain ⟨x, dx, k, rfl, _⟩ := h
    rfl
  · obtain ⟨x, dx, k, rfl, hx, g⟩ := h
    refine ⟨_, (pss_cons (ps_fld (pv 0) (pv 1) rfl)
      (pss_cons (ps_fld (pv 0) (pe_lst (pa_cons pe_int pa_nil)) rfl)
      (pss_one (ps_fld (pv 0) pe_int rfl)))), ?_⟩
    refine ⟨_, rfl, _, rfl, x, _, dx, _, rfl, hx, T.cl_Steps, T.n_Steps_factor, (by show 0 < 1000; decide), ?_⟩
    refine ⟨(by show 1 ≤ sizeLine; decide), fun l hl => ?_⟩
    have nxl : x ≠ l := fun e => by
      rw [← e, upd_same] at hl
      cases hl
    have hl0 : H l = none := by
      rw [upd_ne nxl.symm] at hl
      exact hl
    refine ⟨_, rfl, x, _, dx, _, rfl, Eq.trans (upd_ne nxl) upd_same, T.cl_Steps, T.n_Steps_made, (by show 1 < 1000; decide), ?_⟩
    refine ⟨_, rfl, x, _, dx, _, rfl, upd_same, T.cl_Steps, T.n_Steps_least, ?_, ?_⟩
    · have b := length_putF ("made" : Str) (.ref l) (putF "factor" (.int k) [])
      have z : (putF ("factor" : Str) (.int k) []).length = 1 := rfl
      omega
    · refine g l _ hl0 ⟨⟨dx, upd_same⟩, ?_⟩ fun b o e hb => ?_
      · rw [upd_ne nxl.symm, upd_ne nxl.symm, upd_same]
        all_goals rfl
      · rw [upd_ne hb, upd_ne hb, upd_ne (ne_of_none e hl0), upd_ne hb]
        exact e
def sp_more (C : Addr) : Sp := fun vs H Q _ => ∃ (x l : Addr) (k : Int) (n : Nat), vs = [.ref x] ∧ StepsAt C k n H x l ∧ 1 ≤ k ∧ k ≤ 30 ∧ n < 1000000 ∧ ∀ H' : Hp, StepsAt C k (n + 1) H' x l → (∀ b o, H b = some o → b ≠ x → b ≠ l → H' b = some o) → Q .non H'
theorem ok_Steps_more (T : Txt K mg CTakeError CBadFactor CBadHeap CBadLimit CBadNumber CBadSum CBadTaking CSteps CLost CWon) : OkM P w K mg base CX0 1 CSteps "more" (sp_more CSteps) := by
  refine OkM.of T.cl_Steps T.D_Steps_more (fun _ _ => bd_Steps_more) fun f fd F => F.ok sc_Steps_more (fun vs H Q E h => ?_) (fun cdv A outer s H vs Q E hr h => ?_)
  · obtain ⟨x, l, k, n, rfl, _⟩ := h
    rfl
  · obtain ⟨x, l, k, n, rfl, ⟨⟨dx, hx⟩, hl⟩, hk, hk30, hn, g⟩ := h
    have R := isRow hk
    have nxl : x ≠ l := ne_of hx hl (by intro z; cases z)
    refine ⟨_, (pss_cons (ps_while PassesOwn.never (pt_cmpR op_lt (pe_op op_mul (pe_fld (pv 0) rfl) (pe_ix ix_list (pe_fld (pv 0) rfl) (pe_fld (pv 0) rfl) (fun _ _ => rfl))) (pe_ix ix_list (pe_fld (pv 0) rfl) (pe_un un_neg pe_int) (fun _ _ => rfl)) (nomark _)) (pss_one (ps_fldaug (pv 0) pe_int in_add)))
      (pss_one (ps_expr (pe_bm PySem.F.plainAttrs_list PySem.F.slot_list_append PySem.F.type_list_append mt_append (pe_fld (pv 0) rfl) (pa_cons (pe_op op_add (pe_ix ix_list (pe_fld (pv 0) rfl) (pe_un un_neg pe_int) (fun _ _ => rfl)) (pe_ix ix_list (pe_fld (pv 0) rfl) (pe_fld (pv 0) rfl) (fun _ _ => rfl))) pa_nil))))), ?_⟩
    refine ⟨fun m σ H' => ∃ j : Nat, m = p k n - j ∧ j ≤ p k n ∧ σ = [some (.ref x)] ∧ H' x = some (.ins CSteps dx (fS k l j)) ∧ H' l = some (.lst ((row k n).map V.int)) ∧ (∀ b o, H b = some o → b ≠ x → H' b = some o),
      ⟨_, q k n, rfl, q_le hk n, rfl, hx, hl, fun b o e _ => e⟩, ?_⟩
    rintro m σ H' ⟨j, rfl, hj, rfl, hx', hl', kp⟩
    have hjn : j ≤ n := Nat.le_trans hj (R.le n)
    refine ⟨_, rfl, x, _, dx, _, _, rfl, hx', T.cl_Steps, T.n_Steps_factor, fS_factor _ _ _, ?_⟩
    refine ⟨_, rfl, x, _, dx, _, _, rfl, hx', T.cl_Steps, T.n_Steps_made, fS_made _ _ _, _, rfl, x, _, dx, _, _, rfl, hx', T.cl_Steps, T.n_Steps_least, fS_least _ _ _, l, _, _, _, rfl, rfl, SqL.of hl', at_row k hjn, ?_⟩
    refine ⟨_, _, rfl, rfl, .inl ⟨by omega, by omega⟩, ?_⟩
    refine ⟨_, rfl, x, _, dx, _, _, rfl, hx', T.cl_Steps, T.n_Steps_made, fS_made _ _ _, _, rfl, l, _, _, _, rfl, rfl, SqL.of hl', at_row_last k n, ?_⟩
    refine ⟨_, _, rfl, rfl, _, rfl, ?_⟩
    refine ite2 (fun c => ?_) (fun c => ?_)
    · have c := of_decide_eq_true c
      have hlt : j < p k n := R.below c
      refine ⟨fun σ' H'' => σ' = [some (.ref x)] ∧ H'' x = some (.ins CSteps dx (fS k l (j + 1 : Nat))) ∧ H'' l = some (.lst ((row k n).map V.int)) ∧ (∀ b o, H b = some o → b ≠ x → H'' b = some o), ?_, ?_⟩
      · rintro σ' H'' ⟨rfl, a, b, d⟩
        exact ⟨_, by omega, j + 1, rfl, by omega, rfl, a, b, d⟩
      · refine ⟨_, rfl, x, _, dx, _, _, rfl, hx', T.cl_Steps, T.n_Steps_least, fS_least _ _ _, _, _, rfl, rfl, dx, _, hx', fS_len _ _ _, ?_⟩
        refine ⟨rfl, ?_, ?_, fun b o e hb => ?_⟩
        · rw [upd_same, fS_put]
          all_goals rfl
        · rw [upd_ne nxl.symm]
          exact hl'
        · rw [upd_ne hb]
          exact kp b o e hb
    · have c : ¬ k * h k j < h k n := fun z => c (decide_eq_true z)
      have ej : j = p k n := by
        by_cases d : j = p k n
        · exact d
        · exact absurd (R.lt n j (by omega)) c
      refine ⟨_, rfl, x, _, dx, _, _, rfl, hx', T.cl_Steps, T.n_Steps_made, fS_made _ _ _, .inl ⟨rfl, _, SqL.of hl'⟩, ?_⟩
      refine ⟨_, rfl, x, _, dx, _, _, rfl, hx', T.cl_Steps, T.n_Steps_made, fS_made _ _ _, _, rfl, l, _, _, _, rfl, rfl, SqL.of hl', at_row_last k n, ?_⟩
      refine ⟨_, rfl, x, _, dx, _, _, rfl, hx', T.cl_Steps, T.n_Steps_made, fS_made _ _ _, _, rfl, x, _, dx, _, _, rfl, hx', T.cl_Steps, T.n_Steps_least, fS_least _ _ _, l, _, _, _, rfl, rfl, SqL.of hl', at_row k hjn, ?_⟩
      refine ⟨_, _, rfl, rfl, l, _, _, rfl, rfl, hl', ?_, ?_⟩
      · rw [List.length_map, row_len, sizeLine_eq]
        omega
      · refine g _ ⟨⟨dx, ?_⟩, ?_⟩ fun b o e hb hb2 => ?_
        · rw [upd_ne nxl, hx', ej]
          all_goals rfl
        · rw [upd_same, row_succ, List.map_append, R.s n, ej]
          all_goals rfl
        · rw [upd_ne hb2]
          exact kp b o e hb
/-! ### steps_to -/
def sp_steps_to : Sp := fun vs H Q _ => ∃ (k m : Int) (B : Nat), vs = [.int k, .int m] ∧ 1 ≤ k ∧ k ≤ 30 ∧ m < 2 ^ B ∧ B ≤ 30000 ∧ ∀ (N : Nat) (H' : Hp) (l : Addr), Same H H' → H l = none → H' l = some (.lst ((row k N).map V.int)) → m < h k N → (∀ i, i < N → h k i ≤ m) → N ≤ 30 * B → Q (.ref l) H'
theorem ok_steps_to (T : Txt K mg CTakeError CBadFactor CBadHeap CBadLimit CBadNumber CBadSum CBadTaking CSteps CLost CWon) : OkG P w K mg base CX0 3 "steps_to" sp_steps_to := by
  have G_Steps : OkC P w K mg base CX0 1 "Steps" CSteps (sp_Steps_init CSteps) := ok_Steps_init T
  have G_more : OkM P w K mg base CX0 1 CSteps "more" (sp_more CSteps) := ok_Steps_more T
  refine OkG.of T.D_steps_to (fun _ _ => bd_steps_to) fun f fd F => F.ok sc_steps_to (fun vs H Q E h => ?_) (fun cdv A outer s H vs Q E hr h => ?_)
  · obtain ⟨k, m, B, rfl, _⟩ := h
    rfl
  · obtain ⟨k, m, B, rfl, hk, hk30, hm, hB, g⟩ := h
    have R := isRow hk
    refine ⟨_, (pss_cons (ps_set (i := 2) sc_steps_to.nd rfl (by first | exact Or.inl rfl | exact Or.inr rfl) (pe_makeO G_Steps (hr.mono (by first | decide | exact Nat.le_refl _)) (by rfl) pass0 (pa_cons (pv 0) pa_nil)))
      (pss_cons (ps_while PassesOwn.never (pt_cmpR op_le (pe_ix ix_list (pe_fld (pv 2) rfl) (pe_un un_neg pe_int) (fun _ _ => rfl)) (pv 1) (nomark _)) (pss_one (ps_expr (pe_methO0 G_more (hr.mono (by first | decide | exact Nat.le_refl _)) pass0 (pv 2)))))
      (pss_one (ps_ret (pe_fld (pv 2) rfl))))), ?_⟩
    refine ⟨_, rfl, fun x dx nx ndx nex => ?_⟩
    refine ⟨x, dx, k, rfl, upd_same, fun l H1 hl0 S0 kp => ⟨rfl, ?_⟩⟩
    have nlx : l ≠ x := fun e => by
      rw [e, upd_same] at hl0
      cases hl0
    have nldx : l ≠ dx := fun e => by
      rw [e, upd_ne nex, upd_same] at hl0
      cases hl0
    have hl : H l = none := by
      rw [upd_ne nlx, upd_ne nldx] at hl0
      exact hl0
    have s1 : Same H H1 := Same.made nx ndx kp
    have few : ∀ n, (∀ i, i < n → h k i ≤ m) → n ≤ 30 * B := fun n a => R.few hk30 fun i hi => by
      have := a i hi
      omega
    refine ⟨fun z σ H' => ∃ n : Nat, z = 30 * B + 1 - n ∧ σ = [some (.int k), some (.int m), some (.ref x)] ∧ StepsAt CSteps k n H' x l ∧ Same H H' ∧ (∀ i, i < n → h k i ≤ m),
      ⟨_, 0, rfl, rfl, S0, s1, fun i hi => absurd hi (Nat.not_lt_zero _)⟩, ?_⟩
    rintro z σ H' ⟨n, rfl, rfl, S, sm, hi⟩
    obtain ⟨dy, hx'⟩ := S.ob
    have hn := few n hi
    refine ⟨_, rfl, x, _, dy, _, _, rfl, hx', T.cl_Steps, T.n_Steps_made, fS_made _ _ _, _, rfl, l, _, _, _, rfl, rfl, SqL.of S.ls, at_row_last k n, _, rfl, _, _, rfl, rfl, _, rfl, ?_⟩
    refine ite2 (fun c => ?_) (fun c => ?_)
    · have c := of_decide_eq_true c
      refine ⟨fun σ' H'' => σ' = [some (.int k), some (.int m), some (.ref x)] ∧ StepsAt CSteps k (n + 1) H'' x l ∧ Same H H'', ?_, ?_⟩
      · rintro σ' H'' ⟨rfl, a, b⟩
        have hi' : ∀ i, i < n + 1 → h k i ≤ m := fun i q => by
          by_cases d : i = n
          · rw [d]
            exact c
          · exact hi i (by omega)
        have := few _ hi'
        exact ⟨_, by omega, n + 1, rfl, rfl, a, b, hi'⟩
      · refine ⟨_, rfl, x, dy, _, rfl, hx', fS_more _ _ _, x, l, k, n, rfl, S, hk, hk30, by omega, fun H2 S2 kp2 => ?_⟩
        exact ⟨rfl, S2, fun b o e => kp2 b o (sm b o e) (ne_of_none e nx) (ne_of_none e hl)⟩
    · have c : ¬ h k n ≤ m := fun z => c (decide_eq_true z)
      refine ⟨_, rfl, x, _, dy, _, _, rfl, hx', T.cl_Steps, T.n_Steps_made, fS_made _ _ _, ?_⟩
      exact g n H' l sm hl S.ls (by omega) hi hn
/-! ### parts_of -/
def sp_parts_of : Sp := fun vs H Q _ => ∃ (k n : Int) (B : Nat), vs = [.int k, .int n] ∧ 1 ≤ k ∧ k ≤ 30 ∧ 0 ≤ n ∧ n < 2 ^ B ∧ B ≤ 30000 ∧ ∀ (H' : Hp) (l : Addr), Same H H' → H l = none → H' l = some (.lst ((parts k n).map V.int)) → Q (.ref l) H'
theorem row_rev (k : Int) (N i : Nat) (hi : i ≤ N) : ((row k N).map V.int).reverse[i]? = some (.int (h k (N - i))) := by
  rw [List.getElem?_reverse (by rw [List.length_map, row_len]; omega), List.length_map, row_len, List.getElem?_map, row_get k N _ (by omega)]
  show some (V.int (h k (N + 1 - 1 - i))) = _
  rw [show N + 1 - 1 - i = N - i by omega]
theorem ok_parts_of (T : Txt K mg CTakeError CBadFactor CBadHeap CBadLimit CBadNumber CBadSum CBadTaking CSteps CLost CWon) : OkG P w K mg base CX0 4 "parts_of" sp_parts_of := by
  have G_steps_to : OkG P w K mg base CX0 3 "steps_to" sp_steps_to := ok_steps_to T
  refine OkG.of T.D_parts_of (fun _ _ => bd_parts_of) fun f fd F => F.ok sc_parts_of (fun vs H Q E h => ?_) (fun cdv A outer s H vs Q E hr h => ?_)
  · obtain ⟨k, m, B, rfl, _⟩ := h
    rfl
  · obtain ⟨k, n, B, rfl, hk, hk30, h0, hm, hB, g⟩ := h
    have R := isRow hk
    refine ⟨_, (pss_cons (ps_set (i := 2) sc_parts_of.nd rfl (by first | exact Or.inl rfl | exact Or.inr rfl) (pe_lst pa_nil))
      (pss_cons (ps_for PassesOwn.never rfl (pi_list (pe_revL (pe_callO G_steps_to (hr.mono (by first | decide | exact Nat.le_refl _)) (by rfl) pass0 (pa_cons (pv 0) (pa_cons (pv 1) pa_nil))))) (pg_name (i := 3) sc_parts_of.nd rfl (by first | exact Or.inl rfl | exact Or.inr rfl)) (pss_one (ps_if (pt_cmpR op_le (pv 3) (pv 1) (nomark _)) (pss_cons (ps_expr (pe_bm PySem.F.plainAttrs_list PySem.F.slot_list_append PySem.F.type_list_append mt_append (pv 2) (pa_cons (pv 3) pa_nil)))
      (pss_one (ps_aug (i := 1) sc_parts_of.nd rfl (by first | exact Or.inl rfl | exact Or.inr rfl) (pv 3) ip_sub))) pss_nil)))
      (pss_one (ps_ret (pv 2))))), ?_⟩
    refine ⟨Nat.zero_le _, fun o no => ?_⟩
    refine ⟨_, rfl, _, rfl, k, n, B, rfl, hk, hk30, hm, hB, fun N H1 l s1 nl hl lt hi hN => ?_⟩
    have ho : H1 o = some (.lst []) := s1 o _ upd_same
    have s1' : Same H H1 := (same_upd no).trans s1
    refine ⟨l, _, rfl, SqL.of hl, fun r nr => ?_⟩
    have hlen : ((row k N).map V.int).reverse.length = N + 1 := by rw [List.length_reverse, List.length_map, row_len]
    have nro : o ≠ r := ne_of_none ho nr
    refine ⟨_, rfl, ⟨_, SqL.of upd_same⟩, for_list (K := K) (a := r) (xs := ((row k N).map V.int).reverse) (fun i σ H' => ∃ (f : List Int) (rest : Int) (v : Option V), σ = [some (.int k), some (.int rest), some (.ref o), v] ∧ Same H H' ∧ H' r = some (.lst ((row k N).map V.int).reverse) ∧ H' o = some (.lst (f.map V.int)) ∧ f.length ≤ i ∧ f ++ greedy (h k) (N + 1 - i) rest = parts k n)
      ⟨[], n, none, rfl, same_lst s1' nr, upd_same, by rw [upd_ne nro]; exact ho, Nat.le_refl _, ?_⟩ (fun i σ H' _ ⟨_, _, _, _, _, z, _⟩ => SqL.of z) ?_ ?_⟩
    · exact greedy_parts hk h0 (Int.lt_trans lt (R.up N))
    · rintro i y σ H' hi' ⟨f, rest, v, rfl, sm, hr', ho', hf, eq⟩
      have hil : i < N + 1 := by
        have := (List.getElem?_eq_some_iff.mp hi').1
        rw [hlen] at this
        exact this
      have ey : y = .int (h k (N - i)) := Option.some.inj (hi'.symm.trans (row_rev k N i (by omega)))
      subst ey
      have en : N + 1 - i = (N - i) + 1 := by omega
      have en2 : N + 1 - (i + 1) = N - i := by omega
      refine ⟨_, rfl, _, rfl, _, _, rfl, rfl, _, rfl, ?_⟩
      refine ite2 (fun c => ?_) (fun c => ?_)
      · have c := of_decide_eq_true c
        refine ⟨_, rfl, .inl ⟨rfl, _, SqL.of ho'⟩, _, rfl, o, _, _, rfl, rfl, ho', ?_, ?_⟩
        · rw [List.length_map, sizeLine_eq]
          omega
        · refine ⟨_, rfl, _, rfl, _, _, rfl, rfl, ?_⟩
          refine ⟨f ++ [h k (N - i)], rest - h k (N - i), _, rfl, same_new sm no, ?_, ?_, ?_, ?_⟩
          · rw [upd_ne nro.symm]
            exact hr'
          · rw [upd_same, List.map_append]
            all_goals rfl
          · rw [List.length_append]
            show f.length + 1 ≤ i + 1
            omega
          · rw [en] at eq
            unfold greedy at eq
            rw [if_pos c] at eq
            rw [en2, List.append_assoc]
            exact eq
      · have c : ¬ h k (N - i) ≤ rest := fun z => c (decide_eq_true z)
        refine ⟨f, rest, _, rfl, sm, hr', ho', by omega, ?_⟩
        rw [en] at eq
        unfold greedy at eq
        rw [if_neg c] at eq
        rw [en2]
        exact eq
    · rintro σ H' ⟨f, rest, v, rfl, sm, hr', ho', hf, eq⟩
      rw [hlen, Nat.sub_self] at eq
      have ef : f = parts k n := by
        rw [← eq]
        show f = f ++ []
        rw [List.append_nil]
      rw [ef] at ho'
      exact ⟨_, rfl, g H' o sm no ho'⟩
end
end Tx
namespace Tx
open PySem PySem.Spec PyProof.Rows L2 Tk TA
def fL (l : Addr) : List (Str × V) := putF "parts" (.ref l) []
theorem fL_parts (l : Addr) : (fL l).lookup ("parts" : Str) = some (.ref l) := by
  unfold fL
  rw [lookup_putF, if_pos rfl]
theorem fL_shows (l : Addr) : (fL l).lookup ("shows" : Str) = none := by
  unfold fL
  rw [lookup_putF, if_neg (by decide +kernel)]
  all_goals rfl
def fW (t : V) : List (Str × V) := putF "taking" t []
theorem fW_taking (t : V) : (fW t).lookup ("taking" : Str) = some t := by
  unfold fW
  rw [lookup_putF, if_pos rfl]
theorem fW_shows (t : V) : (fW t).lookup ("shows" : Str) = none := by
  unfold fW
  rw [lookup_putF, if_neg (by decide +kernel)]
  all_goals rfl
/-- a Lost at x, its list at l -/
structure LostAt (C : Addr) (H : Hp) (x l : Addr) (ps : List Int) : Prop where
  ob : ∃ dx, H x = some (.ins C dx (fL l))
  ls : H l = some (.lst (ps.map V.int))
/-- a Won at x -/
def WonAt (C : Addr) (H : Hp) (x : Addr) (t : Int) : Prop := ∃ dx, H x = some (.ins C dx (fW (.int t)))
section
variable {P : Program} {w : World} {K : PySem.W.Frag} {mg : Str → Option Value} {base : Heap} {CTakeError CBadFactor CBadHeap CBadLimit CBadNumber CBadSum CBadTaking CSteps CLost CWon : Addr}
def sp_Lost (K : PySem.W.Frag) (C : Addr) : Sp := fun vs H Q _ => ∃ (x dx a : Addr) (ps : List Int), vs = [.ref x, .ref a] ∧ H x = some (.ins C dx []) ∧ SqL K H a (ps.map V.int) ∧ ∀ (l : Addr) (H' : Hp), H l = none → LostAt C H' x l ps → (∀ b o, H b = some o → b ≠ x → H' b = some o) → Q .non H'
theorem ok_Lost_init (T : Txt K mg CTakeError CBadFactor CBadHeap CBadLimit CBadNumber CBadSum CBadTaking CSteps CLost CWon) : OkC P w K mg base CX0 1 "Lost" CLost (sp_Lost K CLost) := by
  refine OkC.of T.e_Lost T.mk_Lost T.kp_Lost T.D_Lost_init (fun _ _ => bd_Lost_init) fun f fd F => F.ok sc_Lost_init (fun vs H Q E h => ?_) (fun cdv A outer s H vs Q E hr h => ?_)
  · obtain ⟨x, dx, a, ps, rfl, _⟩ := h
    rfl
  · obtain ⟨x, dx, a, ps, rfl, hx, ha, g⟩ := h
    refine ⟨_, (pss_one (ps_fld (pv 0) (pe_callTy call_list_of (by rfl) T.b_list (by decide +kernel) (pa_cons (pv 1) pa_nil)) rfl)), ?_⟩
    refine ⟨_, rfl, a, _, rfl, .inl ha, fun l hl => ?_⟩
    have nxl : x ≠ l := ne_of_none hx hl
    refine ⟨_, rfl, x, _, dx, _, rfl, Eq.trans (upd_ne nxl) hx, T.cl_Lost, T.n_Lost_parts, (by show 0 < 1000; decide), ?_⟩
    refine g l _ hl ⟨⟨dx, upd_same⟩, by rw [upd_ne nxl.symm, upd_same]⟩ fun b o e hb => ?_
    rw [upd_ne hb, upd_ne (ne_of_none e hl)]
    exact e
def sp_Won (C : Addr) : Sp := fun vs H Q _ => ∃ (x dx : Addr) (t : Int), vs = [.ref x, .int t] ∧ H x = some (.ins C dx []) ∧ ∀ (H' : Hp), WonAt C H' x t → (∀ b o, H b = some o → b ≠ x → H' b = some o) → Q .non H'
theorem ok_Won_init (T : Txt K mg CTakeError CBadFactor CBadHeap CBadLimit CBadNumber CBadSum CBadTaking CSteps CLost CWon) : OkC P w K mg base CX0 1 "Won" CWon (sp_Won CWon) := by
  refine OkC.of T.e_Won T.mk_Won T.kp_Won T.D_Won_init (fun _ _ => bd_Won_init) fun f fd F => F.ok sc_Won_init (fun vs H Q E h => ?_) (fun cdv A outer s H vs Q E hr h => ?_)
  · obtain ⟨x, dx, t, rfl, _⟩ := h
    rfl
  · obtain ⟨x, dx, t, rfl, hx, g⟩ := h
    refine ⟨_, (pss_one (ps_fld (pv 0) (pv 1) rfl)), ?_⟩
    refine ⟨_, rfl, _, rfl, x, _, dx, _, rfl, hx, T.cl_Won, T.n_Won_taking, (by show 0 < 1000; decide), ?_⟩
    refine g _ ⟨dx, upd_same⟩ fun b o e hb => ?_
    rw [upd_ne hb]
    exact e
end
end Tx
namespace TA
theorem abs_add {a b : Int} {x : Nat} (ha : a.natAbs < 2 ^ x) (hb : b.natAbs < 2 ^ x) : (a + b).natAbs < 2 ^ (x + 1) := by
  rw [Nat.pow_succ]
  omega
theorem abs_up {a : Int} {x y : Nat} (ha : a.natAbs < 2 ^ x) (h : x ≤ y) : a.natAbs < 2 ^ y := Nat.lt_of_lt_of_le ha (Nat.pow_le_pow_right (by decide) h)
end TA
namespace Tx
open PySem PySem.Spec PyProof.Rows L2 Tk TA
/-- two factors of so many bits -/
theorem mulOk_of {i j : Int} {a b : Nat} (ha : i.natAbs < 2 ^ a) (hb : j.natAbs < 2 ^ b) (h : a + b ≤ 130000000) : IntMulOk i j := by
  have lg : ∀ (x : Int) (n : Nat), x.natAbs < 2 ^ n → Builtin.Int.intBits x ≤ n := by
    intro x n hx
    unfold Builtin.Int.intBits
    split
    · omega
    · rename_i c
      have c0 : x.natAbs ≠ 0 := by
        intro z
        simp_all
      have := (Nat.log2_lt c0).mpr hx
      omega
  have h1 := lg i a ha
  have h2 := lg j b hb
  have e : bitsLine = 134217728 := by decide
  unfold IntMulOk
  intro z
  rw [Bool.and_eq_true] at z
  have z2 := z.2
  unfold Builtin.Int.intTooBig at z2
  have z3 := of_decide_eq_true z2
  rw [e] at z3
  omega
theorem bits_abs {x : Int} {n : Nat} (h : Builtin.Int.intBits x ≤ n) : x.natAbs < 2 ^ n := by
  unfold Builtin.Int.intBits at h
  split at h
  · rename_i c
    have : x.natAbs = 0 := by simp_all
    rw [this]
    exact Nat.pow_pos (by decide)
  · rename_i c
    have c0 : x.natAbs ≠ 0 := by
      intro z
      simp_all
    exact (Nat.log2_lt c0).mp (by omega)
/-- the script: at most 63 numbers below so many bits -/
def Scr (K : PySem.W.Frag) (H : Hp) (a : Addr) (B : Nat) : Prop := ∃ ns : List Int, SqL K H a (ns.map V.int) ∧ ns.length ≤ 63 ∧ ∀ z ∈ ns, z.natAbs < 2 ^ B
theorem Scr.same {K : PySem.W.Frag} {H H' : Hp} {a : Addr} {B : Nat} (S : Scr K H a B) (e : Same H H') : Scr K H' a B := by
  obtain ⟨ns, s, l, b⟩ := S
  exact ⟨ns, e.seq s, l, b⟩
def primes : List Int := [1000003, 1000033, 1000037, 1000039, 1000081, 1000099, 1000117, 1000121, 1000133, 1000151, 1000159, 1000171, 1000183, 1000187, 1000193, 1000199]
theorem primes_pos : ∀ p ∈ primes, 0 < p := by decide
theorem primes_at {i : Int} (h0 : 0 ≤ i) (h1 : i < 16) : ∃ p : Int, atI (primes.map V.int) i = some (.int p) ∧ 0 < p := by
  have hl : i.toNat < primes.length := by
    show i.toNat < 16
    omega
  refine ⟨primes[i.toNat], at_of (j := i.toNat) (by omega) ?_, primes_pos _ (List.getElem_mem _)⟩
  rw [List.getElem?_map, List.getElem?_eq_getElem hl]
  rfl
section
variable {P : Program} {w : World} {K : PySem.W.Frag} {mg : Str → Option Value} {base : Heap} {CTakeError CBadFactor CBadHeap CBadLimit CBadNumber CBadSum CBadTaking CSteps CLost CWon : Addr}
def sp_cell_at (K : PySem.W.Frag) : Sp := fun vs H Q _ => ∃ (a : Addr) (k : Int) (B : Nat), vs = [.ref a, .int k] ∧ Scr K H a B ∧ 0 ≤ k ∧ ∀ z : Int, z.natAbs < 2 ^ B → Q (.int z) H
theorem ok_cell_at (T : Txt K mg CTakeError CBadFactor CBadHeap CBadLimit CBadNumber CBadSum CBadTaking CSteps CLost CWon) : OkG P w K mg base CX0 1 "_law_cell_at" (sp_cell_at K) := by
  refine OkG.of T.D__law_cell_at (fun _ _ => bd__law_cell_at) fun f fd F => F.ok sc__law_cell_at (fun vs H Q E h => ?_) (fun cdv A outer s H vs Q E hr h => ?_)
  · obtain ⟨a, k, B, rfl, _⟩ := h
    rfl
  · obtain ⟨a, k, B, rfl, ⟨ns, hS, hlen, hb⟩, hk, g⟩ := h
    refine ⟨_, (pss_cons (ps_if (pt_cmpR op_lt (pv 1) (pe_callB call_len_seq (by rfl) T.b_len (by decide +kernel) (pa_cons (pv 0) pa_nil)) (nomark _)) (pss_one (ps_ret (pe_ix ix_list (pv 0) (pv 1) (fun _ _ => rfl)))) pss_nil)
      (pss_one (ps_ret pe_int))), ?_⟩
    refine ⟨_, rfl, _, rfl, a, _, rfl, .inl hS, _, _, rfl, rfl, _, rfl, ?_⟩
    refine ite2 (fun c => ?_) (fun c => ?_)
    · have c := of_decide_eq_true c
      rw [List.length_map] at c
      have hl : k.toNat < ns.length := by omega
      refine ⟨_, rfl, _, rfl, a, _, _, .int ns[k.toNat], rfl, rfl, hS, at_of (j := k.toNat) (by omega) ?_, ?_⟩
      · rw [List.getElem?_map, List.getElem?_eq_getElem hl]
        rfl
      · exact g _ (hb _ (List.getElem_mem hl))
    · exact g 0 (Nat.pow_pos (by decide))
def sp_draw : Sp := fun vs H Q _ => ∃ c k m : Int, vs = [.int c, .int k, .int m] ∧ 0 < m ∧ ∀ (r : Int) (H' : Hp), 0 ≤ r → r < m → Same H H' → Q (.int r) H'
theorem ok_draw (T : Txt K mg CTakeError CBadFactor CBadHeap CBadLimit CBadNumber CBadSum CBadTaking CSteps CLost CWon) : OkG P w K mg base CX0 1 "_law_draw" sp_draw := by
  refine OkG.of T.D__law_draw (fun _ _ => bd__law_draw) fun f fd F => F.ok sc__law_draw (fun vs H Q E h => ?_) (fun cdv A outer s H vs Q E hr h => ?_)
  · obtain ⟨c, k, m, rfl, _⟩ := h
    rfl
  · obtain ⟨c, k, m, rfl, hm, g⟩ := h
    refine ⟨_, (pss_cons (ps_set (i := 3) sc__law_draw.nd rfl (by first | exact Or.inl rfl | exact Or.inr rfl) (pe_tup (pa_cons pe_int (pa_cons pe_int (pa_cons pe_int (pa_cons pe_int (pa_cons pe_int (pa_cons pe_int (pa_cons pe_int (pa_cons pe_int (pa_cons pe_int (pa_cons pe_int (pa_cons pe_int (pa_cons pe_int (pa_cons pe_int (pa_cons pe_int (pa_cons pe_int (pa_cons pe_int pa_nil))))))))))))))))))
      (pss_one (ps_ret (pe_op op_mod (pe_op op_mod (pe_op op_add (pe_op op_mul (pv 0) pe_int) (pe_op op_mul (pv 1) pe_int)) (pe_ix ix_tup (pv 3) (pe_op op_mod (pv 1) pe_int) (fun _ _ => rfl))) (pv 2))))), ?_⟩
    refine ⟨(by show 16 ≤ sizeLine; decide), fun p np => ?_⟩
    obtain ⟨v, hv, pv⟩ := primes_at (i := k % 16) (Int.emod_nonneg _ (by decide)) (Int.emod_lt_of_pos _ (by decide))
    have hT : SqT K (upd H p (.tup (primes.map V.int))) p (primes.map V.int) := SqT.of upd_same
    refine ⟨_, rfl, _, _, rfl, rfl, .inr ⟨by decide, by decide⟩, _, rfl, _, _, rfl, rfl, .inr ⟨by decide, by decide⟩, _, _, rfl, rfl, ?_⟩
    refine ⟨_, rfl, _, rfl, _, _, rfl, rfl, (by show (0 : Int) < 16; decide), p, _, _, _, rfl, rfl, hT, hv, ?_⟩
    refine ⟨_, _, rfl, rfl, pv, _, rfl, _, _, rfl, rfl, hm, ?_⟩
    exact g _ _ (Int.emod_nonneg _ (by omega)) (Int.emod_lt_of_pos _ hm) (same_upd np)
end
end Tx
namespace Tx
open PySem PySem.Spec PyProof.Rows L2 Tk TA
/-- an item of a written tuple of ints -/
theorem tup_at {l : List Int} {i : Int} (h0 : 0 ≤ i) (h1 : i < l.length) : ∃ v : Int, v ∈ l ∧ atI (l.map V.int) i = some (.int v) := by
  have hl : i.toNat < l.length := by omega
  refine ⟨l[i.toNat], List.getElem_mem _, at_of (j := i.toNat) (by omega) ?_⟩
  rw [List.getElem?_map, List.getElem?_eq_getElem hl]
  rfl
section
variable {P : Program} {w : World} {K : PySem.W.Frag} {mg : Str → Option Value} {base : Heap} {CTakeError CBadFactor CBadHeap CBadLimit CBadNumber CBadSum CBadTaking CSteps CLost CWon : Addr}
def sp_value : Sp := fun vs H Q _ => ∃ (c k m : Int) (B : Nat), vs = [.int c, .int k, .int m] ∧ c.natAbs < 2 ^ B ∧ B ≤ 2000000 ∧ 0 ≤ k ∧ k ≤ 1000 ∧ 0 < m ∧ m ≤ 10 ^ 40 ∧ ∀ (r : Int) (H' : Hp), 0 ≤ r → r < 10 ^ 40 → Same H H' → Q (.int r) H'
theorem ok_value (T : Txt K mg CTakeError CBadFactor CBadHeap CBadLimit CBadNumber CBadSum CBadTaking CSteps CLost CWon) : OkG P w K mg base CX0 2 "_law_value" sp_value := by
  have G__law_draw : OkG P w K mg base CX0 1 "_law_draw" sp_draw := ok_draw T
  refine OkG.of T.D__law_value (fun _ _ => bd__law_value) fun f fd F => F.ok sc__law_value (fun vs H Q E h => ?_) (fun cdv A outer s H vs Q E hr h => ?_)
  · obtain ⟨c, k, m, B, rfl, _⟩ := h
    rfl
  · obtain ⟨c, k, m, B, rfl, hc, hB, hk, hk2, hm, hm2, g⟩ := h
    refine ⟨_, (pss_cons (ps_if (pt_cmpR op_ge (pv 0) (pe_op op_pow pe_int pe_int) (nomark _)) (pss_one (ps_ret (pe_op op_mod (pe_op op_sub (pv 0) (pe_op op_pow pe_int pe_int)) (pe_op op_pow pe_int pe_int)))) pss_nil)
      (pss_one (ps_ret (pe_callO G__law_draw (hr.mono (by first | decide | exact Nat.le_refl _)) (by rfl) pass0 (pa_cons (pe_op op_mulA (pe_op op_add (pv 0) (pe_op op_mulA pe_int (pv 1))) (pe_op op_add (pe_op op_add (pv 0) (pe_op op_mulA pe_int (pv 1))) pe_int)) (pa_cons (pe_op op_add (pe_op op_mod (pv 1) pe_int) pe_int) (pa_cons (pv 2) pa_nil))))))), ?_⟩
    refine ⟨_, rfl, _, _, rfl, rfl, ⟨by decide, by decide, by decide⟩, _, _, rfl, rfl, _, rfl, ?_⟩
    refine ite2 (fun d => ?_) (fun d => ?_)
    · refine ⟨_, rfl, _, _, rfl, rfl, ⟨by decide, by decide, by decide⟩, _, _, rfl, rfl, _, _, rfl, rfl, ⟨by decide, by decide, by decide⟩, _, _, rfl, rfl, (by show (0 : Int) < 10 ^ 40; decide), ?_⟩
      exact g _ _ (Int.emod_nonneg _ (by show (10 : Int) ^ 40 ≠ 0; decide)) (Int.emod_lt_of_pos _ (by decide)) (Same.refl H)
    · have a1 : (c + 977 * k).natAbs < 2 ^ (B + 20 + 1) := abs_add (abs_up hc (by omega)) (Nat.lt_of_lt_of_le (show (977 * k).natAbs < 2 ^ 20 by omega) (Nat.pow_le_pow_right (by decide) (by omega)))
      have a2 : (c + 31 * k).natAbs < 2 ^ (B + 20 + 1) := abs_add (abs_up hc (by omega)) (Nat.lt_of_lt_of_le (show (31 * k).natAbs < 2 ^ 20 by omega) (Nat.pow_le_pow_right (by decide) (by omega)))
      have a3 : (c + 31 * k + 5).natAbs < 2 ^ (B + 20 + 1 + 1) := abs_add a2 (Nat.lt_of_lt_of_le (show (5 : Int).natAbs < 2 ^ 20 by decide) (Nat.pow_le_pow_right (by decide) (by omega)))
      have b1 : ∀ z : Int, 0 ≤ z → z ≤ 1000 → z.natAbs < 2 ^ 20 := fun z h1 h2 => by omega
      refine ⟨_, rfl, _, rfl, _, _, rfl, rfl, mulOk_of (a := 20) (b := 20) (by decide) (b1 k hk hk2) (by decide), _, _, rfl, rfl, ?_⟩
      refine ⟨_, rfl, _, rfl, _, _, rfl, rfl, mulOk_of (a := 20) (b := 20) (by decide) (b1 k hk hk2) (by decide), _, _, rfl, rfl, _, _, rfl, rfl, ?_⟩
      refine ⟨_, _, rfl, rfl, mulOk_of a1 a3 (by omega), ?_⟩
      refine ⟨_, rfl, _, _, rfl, rfl, (by show (0 : Int) < 9; decide), _, _, rfl, rfl, _, rfl, ?_⟩
      exact ⟨_, _, m, rfl, hm, fun r H' r0 r1 sm => g r H' r0 (Int.lt_of_lt_of_le r1 hm2) sm⟩
def sp_factor (K : PySem.W.Frag) : Sp := fun vs H Q _ => ∃ (a : Addr) (k : Int) (B : Nat), vs = [.ref a, .int k] ∧ Scr K H a B ∧ 0 ≤ k ∧ ∀ (r : Int) (H' : Hp), 1 ≤ r → r ≤ 30 → Same H H' → Q (.int r) H'
theorem ok_factor (T : Txt K mg CTakeError CBadFactor CBadHeap CBadLimit CBadNumber CBadSum CBadTaking CSteps CLost CWon) : OkG P w K mg base CX0 2 "_law_factor" (sp_factor K) := by
  have G__law_draw : OkG P w K mg base CX0 1 "_law_draw" sp_draw := ok_draw T
  have G__law_cell_at : OkG P w K mg base CX0 1 "_law_cell_at" (sp_cell_at K) := ok_cell_at T
  refine OkG.of T.D__law_factor (fun _ _ => bd__law_factor) fun f fd F => F.ok sc__law_factor (fun vs H Q E h => ?_) (fun cdv A outer s H vs Q E hr h => ?_)
  · obtain ⟨a, k, B, rfl, _⟩ := h
    rfl
  · obtain ⟨a, k, B, rfl, hS, hk, g⟩ := h
    refine ⟨_, (pss_cons (ps_set (i := 2) sc__law_factor.nd rfl (by first | exact Or.inl rfl | exact Or.inr rfl) (pe_op op_mod (pe_callO G__law_cell_at (hr.mono (by first | decide | exact Nat.le_refl _)) (by rfl) pass0 (pa_cons (pv 0) (pa_cons (pv 1) pa_nil))) (pe_op op_pow pe_int pe_int)))
      (pss_one (ps_ret (pe_ix ix_tup (pe_tup (pa_cons pe_int (pa_cons pe_int (pa_cons pe_int (pa_cons (pe_op op_add pe_int (pe_callO G__law_draw (hr.mono (by first | decide | exact Nat.le_refl _)) (by rfl) pass0 (pa_cons (pv 2) (pa_cons pe_int (pa_cons pe_int pa_nil))))) (pa_cons (pe_op op_add pe_int (pe_callO G__law_draw (hr.mono (by first | decide | exact Nat.le_refl _)) (by rfl) pass0 (pa_cons (pv 2) (pa_cons pe_int (pa_cons pe_int pa_nil))))) pa_nil)))))) (pe_callO G__law_draw (hr.mono (by first | decide | exact Nat.le_refl _)) (by rfl) pass0 (pa_cons (pe_op op_add (pv 2) (pe_op op_mul pe_int (pv 1))) (pa_cons pe_int (pa_cons pe_int pa_nil)))) (fun _ _ => rfl))))), ?_⟩
    refine ⟨_, rfl, _, rfl, a, k, B, rfl, hS, hk, fun z hz => ?_⟩
    refine ⟨_, _, rfl, rfl, ⟨by decide, by decide, by decide⟩, _, _, rfl, rfl, (by show (0 : Int) < 10 ^ 18; decide), ?_⟩
    refine ⟨_, rfl, _, _, _, rfl, (by decide), fun r1 H1 r10 r11 s1 => ⟨_, _, rfl, rfl, ?_⟩⟩
    refine ⟨_, rfl, _, _, _, rfl, (by decide), fun r2 H2 r20 r21 s2 => ⟨_, _, rfl, rfl, ?_⟩⟩
    refine ⟨(by show 5 ≤ sizeLine; decide), fun p np => ?_⟩
    refine ⟨_, rfl, _, rfl, _, _, rfl, rfl, .inl ⟨by decide, by decide⟩, _, _, rfl, rfl, _, _, _, rfl, (by decide), fun r3 H3 r30 r31 s3 => ?_⟩
    obtain ⟨v, hv, av⟩ := tup_at (l := [1, 2, 3, 1 + r1, 1 + r2]) r30 r31
    refine ⟨p, _, _, _, rfl, rfl, SqT.of (s3 _ _ upd_same), av, ?_⟩
    refine g v H3 ?_ ?_ ((s1.trans s2).trans ((same_upd np).trans s3))
    · simp only [List.mem_cons, List.not_mem_nil, or_false] at hv
      omega
    · simp only [List.mem_cons, List.not_mem_nil, or_false] at hv
      omega
end
end Tx
namespace TA
theorem gap_iff {k : Int} : ∀ {l : List Int}, Gap k l ↔ ∀ (i : Nat) (a b : Int), l[i]? = some a → l[i + 1]? = some b → k * b < a
  | [] => ⟨fun _ i a b e _ => by simp at e, fun _ => trivial⟩
  | [x] => ⟨fun _ i a b _ e => by simp at e, fun _ => trivial⟩
  | x :: y :: r => by
    constructor
    · intro g i a b e1 e2
      cases i with
      | zero =>
        have h1 : x = a := Option.some.inj e1
        have h2 : y = b := Option.some.inj e2
        subst h1 h2
        exact g.1
      | succ j => exact (gap_iff (l := y :: r)).mp g.2 j a b e1 e2
    · intro q
      exact ⟨q 0 x y rfl rfl, (gap_iff (l := y :: r)).mpr fun i a b e1 e2 => q (i + 1) a b e1 e2⟩
/-- all parts are no greater than the first -/
theorem gap_le_head {k : Int} (hk : 1 ≤ k) : ∀ {l : List Int} {a : Int}, Gap k (a :: l) → (∀ x ∈ a :: l, 0 < x) → ∀ x ∈ a :: l, x ≤ a
  | [], a, _, _, x, hx => by
    rw [List.mem_singleton.mp hx]
    exact Int.le_refl _
  | b :: r, a, g, hp, x, hx => by
    rcases List.mem_cons.mp hx with e | e
    · rw [e]
      exact Int.le_refl _
    · have h1 := gap_le_head hk (l := r) g.2 (fun y hy => hp y (List.mem_cons_of_mem _ hy)) x e
      have h2 := hp b (List.mem_cons_of_mem _ List.mem_cons_self)
      have h3 : b ≤ k * b := by
        have := Int.mul_le_mul_of_nonneg_right hk (show 0 ≤ b by omega)
        omega
      have := g.1
      omega
theorem greedy_len {h : Nat → Int} : ∀ (m : Nat) (n : Int), (greedy h m n).length ≤ m
  | 0, _ => Nat.le_refl _
  | m + 1, n => by
    unfold greedy
    split
    · rw [List.length_cons]
      have := greedy_len (h := h) m (n - h m)
      omega
    · have := greedy_len (h := h) m n
      omega
theorem parts_len {k : Int} (hk : 1 ≤ k) (hk30 : k ≤ 30) {n : Int} {B : Nat} (hn : 0 ≤ n) (hB : n < 2 ^ B) : (parts k n).length ≤ 30 * B := by
  have h1 := (isRow hk).pow B
  have h2 := greedy_parts hk (m := k.toNat * B) hn (by omega)
  have h3 := greedy_len (h := h k) (k.toNat * B) n
  rw [h2] at h3
  have h4 : k.toNat * B ≤ 30 * B := Nat.mul_le_mul_right B (by omega)
  omega
theorem of_pos {k : Int} (hk : 1 ≤ k) {l : List Int} (o : Of (h k) l) : ∀ x ∈ l, 0 < x := fun x hx => by
  obtain ⟨i, e⟩ := o x hx
  have := (isRow hk).pos i
  omega
theorem mem_row {k : Int} {N : Nat} {x : Int} : x ∈ row k N ↔ ∃ i, i ≤ N ∧ x = h k i := by
  rw [row_map, List.mem_map]
  constructor
  · rintro ⟨i, hi, e⟩
    exact ⟨i, by have := List.mem_range.mp hi; omega, e.symm⟩
  · rintro ⟨i, hi, e⟩
    exact ⟨i, List.mem_range.mpr (by omega), e.symm⟩
end TA
namespace Tx
open PySem PySem.Spec PyProof.Rows L2 Tk TA
theorem inV_ints (x : Int) (xs : List Int) : inV (.int x) (xs.map V.int) = decide (x ∈ xs) := by
  rw [Bool.eq_iff_iff, decide_eq_true_iff]
  unfold inV
  rw [List.any_map, List.any_eq_true]
  constructor
  · rintro ⟨y, hy, e⟩
    have : y = x := by simpa [eqV] using e
    rw [← this]
    exact hy
  · intro hx
    exact ⟨x, hx, by simp [eqV]⟩
theorem flat_ints (xs : List Int) : (xs.map V.int).all flatV = true := by
  rw [List.all_map, List.all_eq_true]
  intro x _
  rfl
theorem map_get_int {l : List Int} {i : Nat} {y : V} (h : (l.map V.int)[i]? = some y) : ∃ z, l[i]? = some z ∧ y = V.int z := by
  rw [List.getElem?_map] at h
  cases e : l[i]? with
  | none =>
    rw [e] at h
    cases h
  | some z =>
    rw [e] at h
    exact ⟨z, rfl, (Option.some.inj h).symm⟩
theorem take_more {α : Type} : ∀ {l : List α} {i : Nat} {x : α}, l[i]? = some x → l.take (i + 1) = l.take i ++ [x]
  | [], i, x, h => by simp at h
  | a :: l, 0, x, h => by
    have e : a = x := Option.some.inj h
    subst e
    rfl
  | a :: l, i + 1, x, h => by
    have ih := take_more (l := l) (i := i) (x := x) h
    show a :: l.take (i + 1) = a :: l.take i ++ [x]
    rw [ih]
    rfl
theorem maps_bl (l : List Int) (f : Int → Bool) : (l.map fun x => V.bl (f x)) = (l.map f).map V.bl := by
  rw [List.map_map]
  rfl
section
variable {P : Program} {w : World} {K : PySem.W.Frag} {mg : Str → Option Value} {base : Heap} {CTakeError CBadFactor CBadHeap CBadLimit CBadNumber CBadSum CBadTaking CSteps CLost CWon : Addr}
def sp_is_sum : Sp := fun vs H Q _ => ∃ (k : Int) (a : Addr) (l : List Int) (B : Nat), vs = [.int k, .ref a] ∧ H a = some (.lst (l.map V.int)) ∧ 1 ≤ k ∧ k ≤ 30 ∧ l.length ≤ 1000000 ∧ (∀ x ∈ l, x < 2 ^ B) ∧ B ≤ 30000 ∧
  ∀ (b : Bool) (H' : Hp), Same H H' → (b = true ↔ Gap k l ∧ Of (h k) l) → Q (.bl b) H'
theorem fn_is_sum (T : Txt K mg CTakeError CBadFactor CBadHeap CBadLimit CBadNumber CBadSum CBadTaking CSteps CLost CWon) {f : Addr} {fd : FuncData} (F : Fun K "is_sum" "is_sum" s_is_sum f fd) : FnOk P w K mg base CX0 4 f fd ["factor", "parts"] sp_is_sum := by
  have G_is_whole : OkG P w K mg base CX0 1 "is_whole" (sp_is_whole K) := ok_is_whole T
  have G_steps_to : OkG P w K mg base CX0 3 "steps_to" sp_steps_to := ok_steps_to T
  refine F.ok sc_is_sum (fun vs H Q E h => ?_) (fun cdv A outer s H vs Q E hr h => ?_)
  · obtain ⟨k, a, l, B, rfl, _⟩ := h
    rfl
  · obtain ⟨k, a, l, B, rfl, ha, hk, hk30, hlen, hlt, hB, g⟩ := h
    have R := isRow hk
    refine ⟨_, (pss_cons (ps_if (PW.pt (pw_or (pt_not (pt_val (pe_callB call_isi (by rfl) T.b_isinstance (by decide +kernel) (pa_cons (pv 1) (pa_cons (pe_bltn (v := .ty "list") (by rfl) T.b_list (by decide +kernel) rfl) pa_nil))))) (pw_or1 (pt_not (pt_val (pe_callB (cr_all rfl) (by rfl) T.b_all (by decide +kernel) (pa_cons (pe_lc (own := [("part", 3)]) (g := gName 3) (tt := tYes) rfl sc_is_sum.nd (pi_list (pv 1)) (blkOk_by (own := [("part", 3)]) (N := n_is_sum) (sc := defScope s_is_sum) (by decide +kernel)) (fun _ _ _ _ _ => (pg_name (i := 3) sc_is_sum.nd rfl (by first | exact Or.inl rfl | exact Or.inr rfl))) (fun _ _ _ _ _ => pts_nil) (fun _ _ _ _ _ => (pe_and (pe_callO G_is_whole (hr.mono (by first | decide | exact Nat.le_refl _)) (by rfl) pass0 (pa_cons (pv 3) pa_nil)) (pe_one (pe_cmpR op_gt (pv 3) pe_int (nomark _)))))) pa_nil))))))) (pss_one (ps_ret pe_bl)) pss_nil)
      (pss_cons (ps_if (pt_not (pt_val (pe_callB (cr_all rfl) (by rfl) T.b_all (by decide +kernel) (pa_cons (pe_lc (own := [("at", 4)]) (g := gName 4) (tt := tYes) rfl sc_is_sum.nd (pi_range2 (by rfl) T.b_range (pa_cons pe_int (pa_cons (pe_callB call_len_seq (by rfl) T.b_len (by decide +kernel) (pa_cons (pv 1) pa_nil)) pa_nil))) (blkOk_by (own := [("at", 4)]) (N := n_is_sum) (sc := defScope s_is_sum) (by decide +kernel)) (fun _ _ _ _ _ => (pg_name (i := 4) sc_is_sum.nd rfl (by first | exact Or.inl rfl | exact Or.inr rfl))) (fun _ _ _ _ _ => pts_nil) (fun _ _ _ _ _ => (pe_cmpR op_gt (pe_ix (r := rIxL K) ix_list (pv 1) (pe_op op_sub (pv 4) pe_int) (fun _ _ => rfl)) (pe_op op_mul (pv 0) (pe_ix (r := rIxL K) ix_list (pv 1) (pv 4) (fun _ _ => rfl))) (nomark _)))) pa_nil)))) (pss_one (ps_ret pe_bl)) pss_nil)
      (pss_cons (ps_if (pt_cmpR (op_eqIs hr.units) (pv 1) (pe_lst pa_nil) (nomark _)) (pss_one (ps_ret pe_bl)) pss_nil)
      (pss_cons (ps_set (i := 2) sc_is_sum.nd rfl (by first | exact Or.inl rfl | exact Or.inr rfl) (pe_callO G_steps_to (hr.mono (by first | decide | exact Nat.le_refl _)) (by rfl) pass0 (pa_cons (pv 0) (pa_cons (pe_ix ix_list (pv 1) pe_int (fun _ _ => rfl)) pa_nil))))
      (pss_one (ps_ret (pe_callB (cr_all rfl) (by rfl) T.b_all (by decide +kernel) (pa_cons (pe_lc (own := [("part", 3)]) (g := gName 3) (tt := tYes) rfl sc_is_sum.nd (pi_list (pv 1)) (blkOk_by (own := [("part", 3)]) (N := n_is_sum) (sc := defScope s_is_sum) (by decide +kernel)) (fun _ _ _ _ _ => (pg_name (i := 3) sc_is_sum.nd rfl (by first | exact Or.inl rfl | exact Or.inr rfl))) (fun _ _ _ _ _ => pts_nil) (fun _ _ _ _ _ => (pe_cmpR (r := rIn K false) op_in_seq (pv 3) (pv 2) (by rfl)))) pa_nil)))))))), ?_⟩
    have fail : ∀ H', Same H H' → ¬ (Gap k l ∧ Of (TA.h k) l) → Q (.bl false) H' := fun H' sm n => g false H' sm ⟨fun z => absurd z Bool.false_ne_true, fun z => absurd z n⟩
    -- isinstance(parts, list)
    refine ⟨_, rfl, _, _, _, _, true, rfl, .ty _, .base (.lst ha), kit_ty (by decide +kernel), _, rfl, iteF ?_⟩
    -- each a whole number above 0
    refine ⟨_, rfl, a, rfl, ⟨_, SqL.of ha⟩, fun D nD => lc_list (K := K) (a := a) (xs := l.map V.int) (fun i H2 => Same H H2 ∧ H2 D = some (.lst ((l.take i).map fun x => V.bl (decide (0 < x)))))
      ⟨same_upd nD, upd_same⟩ (fun i H2 _ z => SqL.of (z.1 _ _ ha)) ?_ ?_⟩
    · rintro i y H2 hy ⟨sm, hD⟩
      obtain ⟨z, hz, rfl⟩ := map_get_int hy
      have hil : i < l.length := (List.getElem?_eq_some_iff.mp hz).1
      have fin : ∀ b : Bool, b = decide (0 < z) → ∃ acc, H2 D = some (.lst acc) ∧ acc.length < sizeLine ∧ Same H (upd H2 D (.lst (acc ++ [.bl b]))) ∧ (upd H2 D (.lst (acc ++ [.bl b]))) D = some (.lst ((l.take (i + 1)).map fun x => V.bl (decide (0 < x)))) := by
        intro b eb
        refine ⟨_, hD, ?_, same_new sm nD, ?_⟩
        · rw [List.length_map, List.length_take, sizeLine_eq]
          omega
        · rw [upd_same, take_more hz, List.map_append, eb]
          rfl
      refine ⟨rfl, ⟨_, rfl, _, _, rfl, .int z, _, rfl, ite2 (fun c => ?_) (fun c => ?_)⟩⟩
      · exact ⟨_, rfl, _, _, rfl, rfl, fin _ rfl⟩
      · have c : ¬ (0 : Int) ≤ z := fun q => c (decide_eq_true q)
        exact fin _ (decide_eq_false (by omega)).symm
    · rintro H2 ⟨sm, hD⟩
      rw [List.length_map, List.take_length, maps_bl l fun x => decide ((0 : Int) < x)] at hD
      refine ⟨D, _, rfl, SqL.of hD, _, rfl, ?_⟩
      have e1 : (l.map fun x => decide ((0 : Int) < x)).all id = true ↔ ∀ x ∈ l, 0 < x := by
        rw [List.all_map, List.all_eq_true]
        exact ⟨fun q x hx => of_decide_eq_true (q x hx), fun q x hx => decide_eq_true (q x hx)⟩
      cases c1 : (l.map fun x => decide ((0 : Int) < x)).all id with
      | false =>
        refine iteT (fail H2 sm fun z => ?_)
        rw [e1.mpr (of_pos hk z.2)] at c1
        cases c1
      | true =>
        have hpos := e1.mp c1
        refine iteF ?_
        -- each more than the factor times the next one
        have ha2 : H2 a = some (.lst (l.map V.int)) := sm _ _ ha
        refine ⟨_, rfl, a, _, rfl, .inl (SqL.of ha2), ?_⟩
        rw [List.length_map]
        refine ⟨1, _, rfl, ⟨by decide, by decide, by omega, by omega⟩, fun D2 nD2 => ?_⟩
        have en : ((l.length : Int) - 1).toNat = l.length - 1 := by omega
        rw [en]
        have gapb : ∀ i, i < l.length - 1 → ∃ x y, l[i]? = some x ∧ l[i + 1]? = some y := fun i hi => ⟨l[i]'(by omega), l[i + 1]'(by omega), List.getElem?_eq_getElem _, List.getElem?_eq_getElem _⟩
        refine lc_range (lo := 1) (n := l.length - 1) (fun i H3 => Same H2 H3 ∧ ∃ bs : List Bool, H3 D2 = some (.lst (bs.map V.bl)) ∧ bs.length = i ∧ (bs.all id = true ↔ ∀ (j : Nat) (x y : Int), j < i → l[j]? = some x → l[j + 1]? = some y → k * y < x))
          ⟨same_upd nD2, [], upd_same, rfl, ⟨fun _ j x y hj => absurd hj (Nat.not_lt_zero _), fun _ => rfl⟩⟩ ?_ ?_
        · rintro i H3 hi ⟨sm3, bs, hD2, hbs, eb⟩
          have ha3 : H3 a = some (.lst (l.map V.int)) := sm3 _ _ ha2
          obtain ⟨x, y, hx, hy⟩ := gapb i hi
          have a0 : atI (l.map V.int) (1 + (i : Int) - 1) = some (.int x) := at_of (j := i) (by omega) (by rw [List.getElem?_map, hx]; rfl)
          have a1 : atI (l.map V.int) (1 + (i : Int)) = some (.int y) := at_of (j := i + 1) (by omega) (by rw [List.getElem?_map, hy]; rfl)
          refine ⟨rfl, ⟨_, rfl, _, rfl, _, _, rfl, rfl, a, _, _, _, rfl, rfl, SqL.of ha3, a0, ?_⟩⟩
          refine ⟨_, rfl, _, rfl, _, rfl, a, _, _, _, rfl, rfl, SqL.of ha3, a1, _, _, rfl, rfl, .inl ⟨by omega, by omega⟩, _, _, rfl, rfl, ?_⟩
          refine ⟨_, hD2, ?_, same_new sm3 nD2, bs ++ [decide (k * y < x)], ?_, ?_, ?_⟩
          · rw [List.length_map, sizeLine_eq]
            omega
          · rw [upd_same, List.map_append]
            rfl
          · rw [List.length_append, hbs]
            rfl
          · rw [List.all_append, Bool.and_eq_true, eb]
            constructor
            · rintro ⟨q1, q2⟩ j x' y' hj e1 e2
              by_cases ej : j = i
              · subst ej
                rw [hx] at e1
                rw [hy] at e2
                cases e1
                cases e2
                simpa using q2
              · exact q1 j x' y' (by omega) e1 e2
            · intro q
              refine ⟨fun j x' y' hj e1 e2 => q j x' y' (by omega) e1 e2, ?_⟩
              have := q i x y (by omega) hx hy
              simpa using this
        · rintro H3 ⟨sm3, bs, hD2, hbs, eb⟩
          have ha3 : H3 a = some (.lst (l.map V.int)) := sm3 _ _ ha2
          have sm03 : Same H H3 := sm.trans sm3
          have eb' : bs.all id = true ↔ Gap k l := by
            rw [eb, gap_iff]
            exact ⟨fun q i x y e1 e2 => q i x y (by have := (List.getElem?_eq_some_iff.mp e2).1; omega) e1 e2, fun q j x y _ e1 e2 => q j x y e1 e2⟩
          refine ⟨D2, _, rfl, SqL.of hD2, _, rfl, ?_⟩
          cases c2 : bs.all id with
          | false =>
            refine iteT (fail H3 sm03 fun z => ?_)
            rw [eb'.mpr z.1] at c2
            cases c2
          | true =>
            have hgap := eb'.mp c2
            refine iteF ?_
            -- if parts == []
            refine ⟨_, rfl, Nat.zero_le _, fun E0 nE0 => ?_⟩
            have ha4 : (upd H3 E0 (.lst [])) a = some (.lst (l.map V.int)) := by
              rw [upd_ne (ne_of_none ha3 nE0)]
              exact ha3
            have sm04 : Same H (upd H3 E0 (.lst [])) := same_new sm03 (sm03.free nE0)
            refine ⟨a, E0, l, [], rfl, rfl, SqL.of ha4, SqL.of upd_same, _, rfl, ?_⟩
            cases l with
            | nil =>
              refine ite2 (fun _ => ?_) (fun c => absurd (decide_eq_true rfl) c)
              exact g true _ sm04 ⟨fun _ => ⟨trivial, fun x hx => by cases hx⟩, fun _ => rfl⟩
            | cons p0 r =>
              refine ite2 (fun c => by have := of_decide_eq_true c; cases this) (fun _ => ?_)
              have hp0 : p0 ∈ p0 :: r := List.mem_cons_self
              refine ⟨_, rfl, _, rfl, a, _, 0, .int p0, rfl, rfl, SqL.of ha4, atI_nat (j := 0) rfl, ?_⟩
              refine ⟨k, p0, B, rfl, hk, hk30, hlt p0 hp0, hB, fun N H5 sl s5 nsl hsl lt5 hi5 hN5 => ?_⟩
              have ha5 : H5 a = some (.lst ((p0 :: r).map V.int)) := s5 _ _ ha4
              refine ⟨_, rfl, a, rfl, ⟨_, SqL.of ha5⟩, fun D3 nD3 => lc_list (K := K) (a := a) (xs := (p0 :: r).map V.int) (fun i H6 => Same H5 H6 ∧ H6 D3 = some (.lst (((p0 :: r).take i).map fun x => V.bl (decide (x ∈ row k N)))))
                ⟨same_upd nD3, upd_same⟩ (fun i H6 _ z => SqL.of (z.1 _ _ ha5)) ?_ ?_⟩
              · rintro i y H6 hy ⟨sm6, hD3⟩
                obtain ⟨z, hz, rfl⟩ := map_get_int hy
                have hil : i < (p0 :: r).length := (List.getElem?_eq_some_iff.mp hz).1
                refine ⟨rfl, ⟨_, rfl, _, rfl, sl, _, rfl, .inl (SqL.of (sm6 _ _ hsl)), rfl, flat_ints _, ?_⟩⟩
                refine ⟨_, hD3, ?_, same_new sm6 nD3, ?_⟩
                · rw [List.length_map, List.length_take, sizeLine_eq]
                  omega
                · rw [upd_same, take_more hz, List.map_append]
                  show some (HO.lst (_ ++ [V.bl (inV (.int z) ((row k N).map V.int))])) = _
                  rw [inV_ints]
                  rfl
              · rintro H6 ⟨sm6, hD3⟩
                rw [List.length_map, List.take_length, maps_bl (p0 :: r) fun x => decide (x ∈ row k N)] at hD3
                refine ⟨D3, _, rfl, SqL.of hD3, ?_⟩
                refine g _ H6 ((sm04.trans s5).trans sm6) ?_
                rw [List.all_map, List.all_eq_true]
                constructor
                · intro q
                  refine ⟨hgap, fun x hx => ?_⟩
                  obtain ⟨i, _, e⟩ := mem_row.mp (of_decide_eq_true (q x hx))
                  exact ⟨i, e⟩
                · rintro ⟨_, o⟩ x hx
                  obtain ⟨i, e⟩ := o x hx
                  have := gap_le_head hk hgap hpos x hx
                  refine decide_eq_true (mem_row.mpr ⟨i, ?_, e⟩)
                  have : i < N := R.lt_of (by omega)
                  omega
theorem ok_is_sum (T : Txt K mg CTakeError CBadFactor CBadHeap CBadLimit CBadNumber CBadSum CBadTaking CSteps CLost CWon) : OkG P w K mg base CX0 4 "is_sum" sp_is_sum := OkG.of T.D_is_sum (fun _ _ => bd_is_sum) fun f fd F => fn_is_sum T F
end
end Tx
namespace Tx
open PySem PySem.Spec PyProof.Rows L2 Tk TA
/-! ### what is refused -/
theorem gt3 {x y z : Prop} (h : x ∧ y ∧ z) : x := h.1
/-- what is no whole number from 0 on -/
inductive Strange (H : Hp) : V → Prop where
  | non : Strange H .non
  | bl (b : Bool) : Strange H (.bl b)
  | str (x : Str) : Strange H (.str x)
  | neg {n : Int} (h : n < 0) : Strange H (.int n)
  | lst {a : Addr} {xs : List V} (e : H a = some (.lst xs)) : Strange H (.ref a)
  | tup {a : Addr} {xs : List V} (e : H a = some (.tup xs)) : Strange H (.ref a)
  | dT {a : Addr} {kvs : List (List Key × V)} (e : H a = some (.dT kvs)) : Strange H (.ref a)
theorem Strange.same {H H' : Hp} {v : V} (s : Same H H') (h : Strange H v) : Strange H' v := by
  cases h with
  | non => exact .non
  | bl b => exact .bl b
  | str x => exact .str x
  | neg h => exact .neg h
  | lst e => exact .lst (s _ _ e)
  | tup e => exact .tup (s _ _ e)
  | dT e => exact .dT (s _ _ e)
theorem Strange.wh {K : PySem.W.Frag} {H : Hp} {v : V} (h : Strange H v) : Wh K H v false := by
  cases h with
  | non => exact .oth (.base .non) (by decide +kernel)
  | bl b => exact .bl b
  | str x => exact .oth (.base (.str x)) (by decide +kernel)
  | @neg n h =>
    have := Wh.int (K := K) (H := H) n
    rw [decide_eq_false (by omega)] at this
    exact this
  | lst e => exact .oth (.base (.lst e)) (by decide +kernel)
  | tup e => exact .oth (.base (.tup e)) (by decide +kernel)
  | dT e => exact .oth (.base (.dT e)) (by decide +kernel)
theorem wh_nat {K : PySem.W.Frag} {H : Hp} {n : Int} (h : 0 ≤ n) : Wh K H (.int n) true := by
  have := Wh.int (K := K) (H := H) n
  rw [decide_eq_true h] at this
  exact this
def BadF (H : Hp) (v : V) : Prop := (∃ k : Int, v = .int k ∧ 0 ≤ k ∧ ¬ (1 ≤ k ∧ k ≤ 30)) ∨ Strange H v
def OkF (v : V) : Prop := ∃ k : Int, v = .int k ∧ 1 ≤ k ∧ k ≤ 30
def OkN (v : V) : Prop := ∃ n : Int, v = .int n ∧ 0 ≤ n
theorem BadF.same {H H' : Hp} {v : V} (s : Same H H') : BadF H v → BadF H' v := fun h => h.elim .inl fun z => .inr (z.same s)
def GateF (H : Hp) (E : XK) (C : Addr) (v : V) (R : Prop) : Prop := (BadF H v ∧ E (.ref C) none H) ∨ (OkF v ∧ R)
def GateN (H : Hp) (E : XK) (C : Addr) (v : V) (R : Prop) : Prop := (Strange H v ∧ E (.ref C) none H) ∨ (OkN v ∧ R)
theorem GateF.imp {H : Hp} {E : XK} {C : Addr} {v : V} {R R' : Prop} (f : OkF v → R → R') : GateF H E C v R → GateF H E C v R' := fun h => h.elim .inl fun z => .inr ⟨z.1, f z.1 z.2⟩
theorem GateN.imp {H : Hp} {E : XK} {C : Addr} {v : V} {R R' : Prop} (f : OkN v → R → R') : GateN H E C v R → GateN H E C v R' := fun h => h.elim .inl fun z => .inr ⟨z.1, f z.1 z.2⟩
/-- refused by the class at C, whatever new things there are -/
def refuse (H : Hp) (E : XK) (C : Addr) : Prop := ∀ H', Same H H' → E (.ref C) none H'
def BadNum (H : Hp) (v : V) : Prop := (∃ n : Int, v = .int n ∧ 3000 < n) ∨ Strange H v
def BadT (H : Hp) (t : V) (N L : Int) : Prop := (∃ m : Int, t = .int m ∧ 0 ≤ m ∧ ¬ (1 ≤ m ∧ m ≤ N ∧ m ≤ L)) ∨ Strange H t
/-! what is no sum -/
inductive NotL (H : Hp) : V → Prop where
  | non : NotL H .non
  | bl (b : Bool) : NotL H (.bl b)
  | str (x : Str) : NotL H (.str x)
  | int (n : Int) : NotL H (.int n)
  | tup {a : Addr} {xs : List V} (e : H a = some (.tup xs)) : NotL H (.ref a)
  | dT {a : Addr} {kvs : List (List Key × V)} (e : H a = some (.dT kvs)) : NotL H (.ref a)
theorem NotL.same {H H' : Hp} {v : V} (s : Same H H') (h : NotL H v) : NotL H' v := by
  cases h with
  | non => exact .non
  | bl b => exact .bl b
  | str x => exact .str x
  | int h => exact .int h
  | tup e => exact .tup (s _ _ e)
  | dT e => exact .dT (s _ _ e)
theorem NotL.ty {K : PySem.W.Frag} {H : Hp} {v : V} (h : NotL H v) : ∃ t, TyX K H v (.type t) ∧ kitB t "list" = some false := by
  cases h with
  | non => exact ⟨_, .base .non, by decide +kernel⟩
  | bl b => exact ⟨_, .base (.bl b), by decide +kernel⟩
  | str x => exact ⟨_, .base (.str x), by decide +kernel⟩
  | int n => exact ⟨_, .base (.int n), by decide +kernel⟩
  | tup e => exact ⟨_, .base (.tup e), by decide +kernel⟩
  | dT e => exact ⟨_, .base (.dT e), by decide +kernel⟩
/-- an item: a number, or a strange thing -/
def Item (H : Hp) (x : V) : Prop := (∃ n : Int, x = .int n ∧ 0 ≤ n) ∨ Strange H x
theorem Item.same {H H' : Hp} {v : V} (s : Same H H') : Item H v → Item H' v := fun h => h.elim .inl fun z => .inr (z.same s)
inductive BadS (k : Int) (H : Hp) : V → Prop where
  | not {v : V} (h : NotL H v) : BadS k H v
  | item {a : Addr} {xs : List V} (e : H a = some (.lst xs)) (len : xs.length ≤ 1000) (all : ∀ x ∈ xs, Item H x) (bad : ∃ x ∈ xs, Strange H x) : BadS k H (.ref a)
  | sum {a : Addr} {l : List Int} (e : H a = some (.lst (l.map V.int))) (len : l.length ≤ 1000) (lt : ∀ x ∈ l, x < 2 ^ 300) (bad : ¬ (Gap k l ∧ Of (h k) l)) : BadS k H (.ref a)
theorem BadS.same {k : Int} {H H' : Hp} {v : V} (s : Same H H') (h : BadS k H v) : BadS k H' v := by
  cases h with
  | not h => exact .not (h.same s)
  | item e len all bad => exact .item (s _ _ e) len (fun x hx => (all x hx).same s) (by obtain ⟨x, hx, z⟩ := bad; exact ⟨x, hx, z.same s⟩)
  | sum e len lt bad => exact .sum (s _ _ e) len lt bad
section
variable {P : Program} {w : World} {K : PySem.W.Frag} {mg : Str → Option Value} {base : Heap} {CTakeError CBadFactor CBadHeap CBadLimit CBadNumber CBadSum CBadTaking CSteps CLost CWon : Addr}
def sp_check_factor (C : Addr) : Sp := fun vs H Q E => ∃ v, vs = [v] ∧ GateF H E C v (Q .non H)
theorem ok_check_factor (T : Txt K mg CTakeError CBadFactor CBadHeap CBadLimit CBadNumber CBadSum CBadTaking CSteps CLost CWon) : OkG P w K mg base (L2N.CX P w) 2 "check_factor" (sp_check_factor CBadFactor) := by
  have G_is_whole : OkG P w K mg base CX0 1 "is_whole" (sp_is_whole K) := ok_is_whole T
  refine OkG.of T.D_check_factor (fun _ _ => bd_check_factor) fun f fd F => okN F sc_check_factor (fun vs H Q E h => ?_) (fun cdv A outer s H vs Q E hr h => ?_)
  · obtain ⟨k, rfl, _⟩ := h
    rfl
  · obtain ⟨v, rfl, g⟩ := h
    refine ⟨_, (pss_one (ps_if (PW.pt (pw_or (pt_not (pt_val (pe_callO G_is_whole (hr.mono (by first | decide | exact Nat.le_refl _)) (by rfl) pass0 (pa_cons (pv 0) pa_nil)))) (pw_or1 (pt_not (pt_chain op_le op_le pe_int (pv 0) (pe_glob (v := .int 30) (by rfl) T.m_GREATEST.choose_spec ⟨_, rfl⟩)))))) (pss_one (L2N.ps_raise rfl (L2N.takes_of rfl rfl rfl rfl) (L2N.pmk_own PySem.F.excBase_ValueError T.x_BadFactor.xe T.x_BadFactor.e T.x_BadFactor.kp (raises_own T.x_BadFactor.bs T.x_BadFactor.tp) rfl))) pss_nil)), ?_⟩
    rcases g with ⟨b, g⟩ | ⟨⟨k, rfl, h1, h2⟩, g⟩
    · rcases b with ⟨k, rfl, h0, hk⟩ | b
      · refine ⟨_, rfl, _, _, rfl, wh_nat h0, _, rfl, ?_⟩
        refine iteF ?_
        refine ⟨_, rfl, _, _, rfl, rfl, _, rfl, ?_⟩
        refine ite2 (fun c => ?_) (fun c => ?_)
        · have c := of_decide_eq_true c
          refine ⟨_, _, rfl, rfl, _, rfl, ?_⟩
          rw [decide_eq_false (by omega)]
          exact iteT g
        · exact ⟨_, rfl, iteT g⟩
      · exact ⟨_, rfl, _, _, rfl, b.wh, _, rfl, iteT g⟩
    · refine ⟨_, rfl, _, _, rfl, wh_nat (by omega), _, rfl, ?_⟩
      refine iteF ?_
      refine ⟨_, rfl, _, _, rfl, rfl, _, rfl, ?_⟩
      rw [decide_eq_true h1]
      refine iteT ⟨_, _, rfl, rfl, _, rfl, ?_⟩
      rw [decide_eq_true h2]
      exact iteF g
def sp_check_heap (C : Addr) : Sp := fun vs H Q E => ∃ v, vs = [v] ∧ GateN H E C v (Q .non H)
theorem ok_check_heap (T : Txt K mg CTakeError CBadFactor CBadHeap CBadLimit CBadNumber CBadSum CBadTaking CSteps CLost CWon) : OkG P w K mg base (L2N.CX P w) 2 "check_heap" (sp_check_heap CBadHeap) := by
  have G_is_whole : OkG P w K mg base CX0 1 "is_whole" (sp_is_whole K) := ok_is_whole T
  refine OkG.of T.D_check_heap (fun _ _ => bd_check_heap) fun f fd F => okN F sc_check_heap (fun vs H Q E h => ?_) (fun cdv A outer s H vs Q E hr h => ?_)
  · obtain ⟨k, rfl, _⟩ := h
    rfl
  · obtain ⟨v, rfl, g⟩ := h
    refine ⟨_, (pss_one (ps_if (pt_not (pt_val (pe_callO G_is_whole (hr.mono (by first | decide | exact Nat.le_refl _)) (by rfl) pass0 (pa_cons (pv 0) pa_nil)))) (pss_one (L2N.ps_raise rfl (L2N.takes_of rfl rfl rfl rfl) (L2N.pmk_own PySem.F.excBase_ValueError T.x_BadHeap.xe T.x_BadHeap.e T.x_BadHeap.kp (raises_own T.x_BadHeap.bs T.x_BadHeap.tp) rfl))) pss_nil)), ?_⟩
    rcases g with ⟨b, g⟩ | ⟨⟨n, rfl, h1⟩, g⟩
    · exact ⟨_, rfl, _, _, rfl, b.wh, _, rfl, iteT g⟩
    · exact ⟨_, rfl, _, _, rfl, wh_nat h1, _, rfl, iteF g⟩
def sp_check_all (CF CH CL : Addr) : Sp := fun vs H Q E => ∃ f n L, vs = [f, n, L] ∧ GateF H E CF f (GateN H E CH n (GateN H E CL L (Q .non H)))
theorem ok_check_all (T : Txt K mg CTakeError CBadFactor CBadHeap CBadLimit CBadNumber CBadSum CBadTaking CSteps CLost CWon) : OkG P w K mg base (L2N.CX P w) 3 "check_all" (sp_check_all CBadFactor CBadHeap CBadLimit) := by
  have G_check_factor : OkG P w K mg base (L2N.CX P w) 2 "check_factor" (sp_check_factor CBadFactor) := ok_check_factor T
  have G_check_heap : OkG P w K mg base (L2N.CX P w) 2 "check_heap" (sp_check_heap CBadHeap) := ok_check_heap T
  have G_is_whole : OkG P w K mg base CX0 1 "is_whole" (sp_is_whole K) := ok_is_whole T
  refine OkG.of T.D_check_all (fun _ _ => bd_check_all) fun f fd F => okN F sc_check_all (fun vs H Q E h => ?_) (fun cdv A outer s H vs Q E hr h => ?_)
  · obtain ⟨k, n, L, rfl, _⟩ := h
    rfl
  · obtain ⟨k, n, L, rfl, g1⟩ := h
    refine ⟨_, (pss_cons (ps_expr (pe_callO G_check_factor (hr.mono (by first | decide | exact Nat.le_refl _)) (by rfl) (L2N.passes_call (L2N.takes_of rfl rfl rfl rfl) (fun _ _ _ _ h => h)) (pa_cons (pv 0) pa_nil)))
      (pss_cons (ps_expr (pe_callO G_check_heap (hr.mono (by first | decide | exact Nat.le_refl _)) (by rfl) (L2N.passes_call (L2N.takes_of rfl rfl rfl rfl) (fun _ _ _ _ h => h)) (pa_cons (pv 1) pa_nil)))
      (pss_one (ps_if (pt_not (pt_val (pe_callO G_is_whole (hr.mono (by first | decide | exact Nat.le_refl _)) (by rfl) pass0 (pa_cons (pv 2) pa_nil)))) (pss_one (L2N.ps_raise rfl (L2N.takes_of rfl rfl rfl rfl) (L2N.pmk_own PySem.F.excBase_ValueError T.x_BadLimit.xe T.x_BadLimit.e T.x_BadLimit.kp (raises_own T.x_BadLimit.bs T.x_BadLimit.tp) rfl))) pss_nil)))), ?_⟩
    refine ⟨_, rfl, _, rfl, g1.imp fun _ g2 => ?_⟩
    refine ⟨_, rfl, _, rfl, g2.imp fun _ g3 => ?_⟩
    clear g1 g2
    rcases g3 with ⟨b, g⟩ | ⟨⟨n, rfl, h1⟩, g⟩
    · exact ⟨_, rfl, _, _, rfl, b.wh, _, rfl, iteT g⟩
    · exact ⟨_, rfl, _, _, rfl, wh_nat h1, _, rfl, iteF g⟩
def sp_step_by (CF CN : Addr) : Sp := fun vs H Q E => ∃ f v, vs = [f, v] ∧ GateF H E CF f ((BadNum H v ∧ E (.ref CN) none H) ∨ ∃ n : Int, v = .int n ∧ 0 ≤ n ∧ n ≤ 3000 ∧ ∀ (k : Int) (H' : Hp), f = .int k → Same H H' → Q (.int (h k n.toNat)) H')
theorem ok_step_by (T : Txt K mg CTakeError CBadFactor CBadHeap CBadLimit CBadNumber CBadSum CBadTaking CSteps CLost CWon) : OkG P w K mg base (L2N.CX P w) 3 "step_by" (sp_step_by CBadFactor CBadNumber) := by
  have G_check_factor : OkG P w K mg base (L2N.CX P w) 2 "check_factor" (sp_check_factor CBadFactor) := ok_check_factor T
  have G_is_whole : OkG P w K mg base CX0 1 "is_whole" (sp_is_whole K) := ok_is_whole T
  have G_Steps : OkC P w K mg base CX0 1 "Steps" CSteps (sp_Steps_init CSteps) := ok_Steps_init T
  have G_more : OkM P w K mg base CX0 1 CSteps "more" (sp_more CSteps) := ok_Steps_more T
  refine OkG.of T.D_step_by (fun _ _ => bd_step_by) fun f fd F => okN F sc_step_by (fun vs H Q E h => ?_) (fun cdv A outer s H vs Q E hr h => ?_)
  · obtain ⟨k, n, rfl, _⟩ := h
    rfl
  · obtain ⟨f, v, rfl, g1⟩ := h
    refine ⟨_, (pss_cons (ps_expr (pe_callO G_check_factor (hr.mono (by first | decide | exact Nat.le_refl _)) (by rfl) (L2N.passes_call (L2N.takes_of rfl rfl rfl rfl) (fun _ _ _ _ h => h)) (pa_cons (pv 0) pa_nil)))
      (pss_cons (ps_if (PW.pt (pw_or (pt_not (pt_val (pe_callO G_is_whole (hr.mono (by first | decide | exact Nat.le_refl _)) (by rfl) pass0 (pa_cons (pv 1) pa_nil)))) (pw_or1 (pt_cmpR op_gt (pv 1) (pe_glob (v := .int 3000) (by rfl) T.m_MOST.choose_spec ⟨_, rfl⟩) (nomark _))))) (pss_one (L2N.ps_raise rfl (L2N.takes_of rfl rfl rfl rfl) (L2N.pmk_own PySem.F.excBase_ValueError T.x_BadNumber.xe T.x_BadNumber.e T.x_BadNumber.kp (raises_own T.x_BadNumber.bs T.x_BadNumber.tp) rfl))) pss_nil)
      (pss_cons (ps_set (i := 2) sc_step_by.nd rfl (by first | exact Or.inl rfl | exact Or.inr rfl) (pe_makeO G_Steps (hr.mono (by first | decide | exact Nat.le_refl _)) (by rfl) pass0 (pa_cons (pv 0) pa_nil)))
      (pss_cons (ps_for (passes_of rfl) rfl (pi_range1 (by rfl) T.b_range (pa_cons (pv 1) pa_nil)) (pg_name (i := 3) sc_step_by.nd rfl (by first | exact Or.inl rfl | exact Or.inr rfl)) (pss_one (ps_expr (pe_methO0 G_more (hr.mono (by first | decide | exact Nat.le_refl _)) pass0 (pv 2)))))
      (pss_one (ps_ret (pe_ix ix_list (pe_fld (pv 2) rfl) (pv 1) (fun _ _ => rfl)))))))), ?_⟩
    refine ⟨_, rfl, _, rfl, g1.imp fun ok g2 => ?_⟩
    clear g1
    rcases g2 with ⟨b, g⟩ | ⟨n, rfl, h0, hn, g⟩
    · rcases b with ⟨n, rfl, hn⟩ | b
      · refine ⟨_, rfl, _, _, rfl, wh_nat (by omega), _, rfl, ?_⟩
        refine iteF ⟨_, rfl, _, _, rfl, rfl, _, rfl, ?_⟩
        rw [decide_eq_true hn]
        exact iteT g
      · exact ⟨_, rfl, _, _, rfl, b.wh, _, rfl, iteT g⟩
    · obtain ⟨k, rfl, hk, hk30⟩ := ok
      have g := g k
      refine ⟨_, rfl, _, _, rfl, wh_nat h0, _, rfl, ?_⟩
      refine iteF ⟨_, rfl, _, _, rfl, rfl, _, rfl, ?_⟩
      rw [decide_eq_false (by omega)]
      refine iteF ⟨_, rfl, fun x dx nx ndx nex => ?_⟩
      refine ⟨x, dx, k, rfl, upd_same, fun l H1 hl0 S0 kp => ⟨rfl, ?_⟩⟩
      have nlx : l ≠ x := fun e => by
        rw [e, upd_same] at hl0
        cases hl0
      have nldx : l ≠ dx := fun e => by
        rw [e, upd_ne nex, upd_same] at hl0
        cases hl0
      have hl : H l = none := by
        rw [upd_ne nlx, upd_ne nldx] at hl0
        exact hl0
      have s1 : Same H H1 := Same.made nx ndx kp
      refine ⟨_, rfl, n, rfl, (by omega), (by omega), for_range (lo := 0) (n := n.toNat) (fun i σ H' => ∃ v : Option V, σ = [some (.int k), some (.int n), some (.ref x), v] ∧ StepsAt CSteps k i H' x l ∧ Same H H') ⟨none, rfl, S0, s1⟩ ?_ ?_⟩
      · rintro i σ H' hi ⟨v, rfl, S, sm⟩
        obtain ⟨dy, hx'⟩ := S.ob
        refine ⟨_, rfl, x, dy, _, rfl, hx', fS_more _ _ _, x, l, k, i, rfl, S, hk, hk30, by omega, fun H2 S2 kp2 => ?_⟩
        exact ⟨_, rfl, S2, fun b o e => kp2 b o (sm b o e) (ne_of_none e nx) (ne_of_none e hl)⟩
      · rintro σ H' ⟨v, rfl, S, sm⟩
        obtain ⟨dy, hx'⟩ := S.ob
        refine ⟨_, rfl, x, _, dy, _, _, rfl, hx', T.cl_Steps, T.n_Steps_made, fS_made _ _ _, _, rfl, l, _, _, _, rfl, rfl, SqL.of S.ls, at_of (j := n.toNat) (by omega) ?_, g H' rfl sm⟩
        rw [List.getElem?_map, row_get k _ _ (Nat.le_refl _)]
        rfl
def sp_sum_of (CF CH : Addr) : Sp := fun vs H Q E => ∃ f n, vs = [f, n] ∧ GateF H E CF f (GateN H E CH n False)
theorem ok_sum_of (T : Txt K mg CTakeError CBadFactor CBadHeap CBadLimit CBadNumber CBadSum CBadTaking CSteps CLost CWon) : OkG P w K mg base (L2N.CX P w) 5 "sum_of" (sp_sum_of CBadFactor CBadHeap) := by
  have G_check_factor : OkG P w K mg base (L2N.CX P w) 2 "check_factor" (sp_check_factor CBadFactor) := ok_check_factor T
  have G_check_heap : OkG P w K mg base (L2N.CX P w) 2 "check_heap" (sp_check_heap CBadHeap) := ok_check_heap T
  have G_parts_of : OkG P w K mg base CX0 4 "parts_of" sp_parts_of := ok_parts_of T
  refine OkG.of T.D_sum_of (fun _ _ => bd_sum_of) fun f fd F => okN F sc_sum_of (fun vs H Q E h => ?_) (fun cdv A outer s H vs Q E hr h => ?_)
  · obtain ⟨k, n, rfl, _⟩ := h
    rfl
  · obtain ⟨f, n, rfl, g⟩ := h
    refine ⟨_, (pss_cons (ps_expr (pe_callO G_check_factor (hr.mono (by first | decide | exact Nat.le_refl _)) (by rfl) (L2N.passes_call (L2N.takes_of rfl rfl rfl rfl) (fun _ _ _ _ h => h)) (pa_cons (pv 0) pa_nil)))
      (pss_cons (ps_expr (pe_callO G_check_heap (hr.mono (by first | decide | exact Nat.le_refl _)) (by rfl) (L2N.passes_call (L2N.takes_of rfl rfl rfl rfl) (fun _ _ _ _ h => h)) (pa_cons (pv 1) pa_nil)))
      (pss_one (ps_ret (pe_callO G_parts_of (hr.mono (by first | decide | exact Nat.le_refl _)) (by rfl) pass0 (pa_cons (pv 0) (pa_cons (pv 1) pa_nil))))))), ?_⟩
    refine ⟨_, rfl, _, rfl, g.imp fun _ g => ?_⟩
    exact ⟨_, rfl, _, rfl, g.imp fun _ g => g.elim⟩
def sp_told (CF CH CL : Addr) : Sp := fun vs H Q E => ∃ f n L, vs = [f, n, L] ∧ GateF H E CF f (GateN H E CH n (GateN H E CL L False))
theorem ok_told (T : Txt K mg CTakeError CBadFactor CBadHeap CBadLimit CBadNumber CBadSum CBadTaking CSteps CLost CWon) : OkG P w K mg base (L2N.CX P w) 5 "told" (sp_told CBadFactor CBadHeap CBadLimit) := by
  have G_check_all : OkG P w K mg base (L2N.CX P w) 3 "check_all" (sp_check_all CBadFactor CBadHeap CBadLimit) := ok_check_all T
  have G_parts_of : OkG P w K mg base CX0 4 "parts_of" sp_parts_of := ok_parts_of T
  have G_Lost : OkC P w K mg base CX0 1 "Lost" CLost (sp_Lost K CLost) := ok_Lost_init T
  have G_Won : OkC P w K mg base CX0 1 "Won" CWon (sp_Won CWon) := ok_Won_init T
  refine OkG.of T.D_told (fun _ _ => bd_told) fun f fd F => okN F sc_told (fun vs H Q E h => ?_) (fun cdv A outer s H vs Q E hr h => ?_)
  · obtain ⟨k, n, L, rfl, _⟩ := h
    rfl
  · obtain ⟨f, n, L, rfl, g⟩ := h
    refine ⟨_, (pss_cons (ps_expr (pe_callO G_check_all (hr.mono (by first | decide | exact Nat.le_refl _)) (by rfl) (L2N.passes_call (L2N.takes_of rfl rfl rfl rfl) (fun _ _ _ _ h => h)) (pa_cons (pv 0) (pa_cons (pv 1) (pa_cons (pv 2) pa_nil)))))
      (pss_cons (ps_set (i := 3) sc_told.nd rfl (by first | exact Or.inl rfl | exact Or.inr rfl) (pe_callO G_parts_of (hr.mono (by first | decide | exact Nat.le_refl _)) (by rfl) pass0 (pa_cons (pv 0) (pa_cons (pv 1) pa_nil))))
      (pss_cons (ps_if (PW.pt (pw_or (pt_cmpR (op_eqIs hr.units) (pv 3) (pe_lst pa_nil) (nomark _)) (pw_or1 (pt_cmpR op_gt (pe_ix ix_list (pv 3) (pe_un un_neg pe_int) (fun _ _ => rfl)) (pv 2) (nomark _))))) (pss_one (ps_ret (pe_makeO G_Lost (hr.mono (by first | decide | exact Nat.le_refl _)) (by rfl) pass0 (pa_cons (pv 3) pa_nil)))) pss_nil)
      (pss_one (ps_ret (pe_makeO G_Won (hr.mono (by first | decide | exact Nat.le_refl _)) (by rfl) pass0 (pa_cons (pe_ix ix_list (pv 3) (pe_un un_neg pe_int) (fun _ _ => rfl)) pa_nil))))))), ?_⟩
    exact ⟨_, rfl, _, rfl, _, rfl, _, _, _, rfl, g.imp fun _ g => g.imp fun _ g => g.imp fun _ g => g.elim⟩
def sp_behind (CF CH CL CT : Addr) : Sp := fun vs H Q E => ∃ f n L t, vs = [f, n, L, t] ∧ GateF H E CF f (GateN H E CH n (GateN H E CL L (∃ N M : Int, n = .int N ∧ L = .int M ∧ ((BadT H t N M ∧ E (.ref CT) none H) ∨
  ∃ m : Int, t = .int m ∧ 1 ≤ m ∧ m ≤ N ∧ m ≤ M ∧ ∀ (k : Int) (H' : Hp) (p : Addr), f = .int k → Same H H' → H p = none → H' p = some (.tup [.int (N - m), .int (k * m)]) → Q (.ref p) H'))))
theorem ok_behind (T : Txt K mg CTakeError CBadFactor CBadHeap CBadLimit CBadNumber CBadSum CBadTaking CSteps CLost CWon) : OkG P w K mg base (L2N.CX P w) 4 "behind" (sp_behind CBadFactor CBadHeap CBadLimit CBadTaking) := by
  have G_check_all : OkG P w K mg base (L2N.CX P w) 3 "check_all" (sp_check_all CBadFactor CBadHeap CBadLimit) := ok_check_all T
  have G_is_whole : OkG P w K mg base CX0 1 "is_whole" (sp_is_whole K) := ok_is_whole T
  refine OkG.of T.D_behind (fun _ _ => bd_behind) fun f fd F => okN F sc_behind (fun vs H Q E h => ?_) (fun cdv A outer s H vs Q E hr h => ?_)
  · obtain ⟨k, n, L, t, rfl, _⟩ := h
    rfl
  · obtain ⟨f, n, L, t, rfl, g1⟩ := h
    refine ⟨_, (pss_cons (ps_expr (pe_callO G_check_all (hr.mono (by first | decide | exact Nat.le_refl _)) (by rfl) (L2N.passes_call (L2N.takes_of rfl rfl rfl rfl) (fun _ _ _ _ h => h)) (pa_cons (pv 0) (pa_cons (pv 1) (pa_cons (pv 2) pa_nil)))))
      (pss_cons (ps_if (PW.pt (pw_or (pt_not (pt_val (pe_callO G_is_whole (hr.mono (by first | decide | exact Nat.le_refl _)) (by rfl) pass0 (pa_cons (pv 3) pa_nil)))) (pw_or1 (pt_not (pt_chain op_le op_le pe_int (pv 3) (pe_callB (call_min2 rfl) (by rfl) T.b_min (by decide +kernel) (pa_cons (pv 1) (pa_cons (pv 2) pa_nil)))))))) (pss_one (L2N.ps_raise rfl (L2N.takes_of rfl rfl rfl rfl) (L2N.pmk_own PySem.F.excBase_ValueError T.x_BadTaking.xe T.x_BadTaking.e T.x_BadTaking.kp (raises_own T.x_BadTaking.bs T.x_BadTaking.tp) rfl))) pss_nil)
      (pss_one (ps_ret (pe_tup (pa_cons (pe_op op_sub (pv 1) (pv 3)) (pa_cons (pe_op op_mul (pv 0) (pv 3)) pa_nil))))))), ?_⟩
    refine ⟨_, rfl, _, rfl, _, rfl, _, _, _, rfl, g1.imp fun okf g2 => g2.imp fun _ g3 => g3.imp fun _ g4 => ?_⟩
    clear g1 g2 g3
    obtain ⟨N, M, rfl, rfl, g5⟩ := g4
    rcases g5 with ⟨b, g⟩ | ⟨m, rfl, m1, m2, m3, g⟩
    · rcases b with ⟨m, rfl, h0, hm⟩ | b
      · refine ⟨_, rfl, _, _, rfl, wh_nat h0, _, rfl, ?_⟩
        refine iteF ⟨_, rfl, _, _, rfl, rfl, _, rfl, ?_⟩
        refine ite2 (fun c => ?_) (fun c => ?_)
        · have c := of_decide_eq_true c
          refine ⟨_, rfl, _, rfl, _, _, rfl, _, _, rfl, rfl, _, rfl, ?_⟩
          rw [decide_eq_false (by split <;> omega)]
          exact iteT g
        · exact ⟨_, rfl, iteT g⟩
      · exact ⟨_, rfl, _, _, rfl, b.wh, _, rfl, iteT g⟩
    · obtain ⟨k, rfl, hk, hk30⟩ := okf
      refine ⟨_, rfl, _, _, rfl, wh_nat (by omega), _, rfl, ?_⟩
      refine iteF ⟨_, rfl, _, _, rfl, rfl, _, rfl, ?_⟩
      rw [decide_eq_true m1]
      refine iteT ⟨_, rfl, _, rfl, _, _, rfl, _, _, rfl, rfl, _, rfl, ?_⟩
      rw [decide_eq_true (by split <;> omega)]
      refine iteF ⟨_, rfl, _, rfl, _, _, rfl, rfl, _, rfl, _, rfl, _, _, rfl, rfl, .inl ⟨by omega, by omega⟩, (by show 2 ≤ sizeLine; decide), fun p np => ?_⟩
      exact g k _ p rfl (same_upd np) np upd_same
end
end Tx
namespace Tx
open PySem PySem.Spec PyProof.Rows L2 Tk TA
theorem Strange.notInt {H : Hp} {n : Int} (h0 : 0 ≤ n) (h : Strange H (.int n)) : False := by
  cases h with
  | neg h => omega
section
variable {P : Program} {w : World} {K : PySem.W.Frag} {mg : Str → Option Value} {base : Heap} {CTakeError CBadFactor CBadHeap CBadLimit CBadNumber CBadSum CBadTaking CSteps CLost CWon : Addr}
/-- what is seen at the first line to be no sum -/
def OddS (H : Hp) (v : V) : Prop := NotL H v ∨ ∃ (a : Addr) (xs : List V), v = .ref a ∧ H a = some (.lst xs) ∧ xs.length ≤ 1000 ∧ (∀ x ∈ xs, Item H x) ∧ ∃ x ∈ xs, Strange H x
def sp_is_sumV : Sp := fun vs H Q _ => ∃ (k v : V), vs = [k, v] ∧ OddS H v ∧ ∀ H' : Hp, Same H H' → Q (.bl false) H'
theorem fn_is_sumV (T : Txt K mg CTakeError CBadFactor CBadHeap CBadLimit CBadNumber CBadSum CBadTaking CSteps CLost CWon) {f : Addr} {fd : FuncData} (F : Fun K "is_sum" "is_sum" s_is_sum f fd) : FnOk P w K mg base CX0 4 f fd ["factor", "parts"] sp_is_sumV := by
  have G_is_whole : OkG P w K mg base CX0 1 "is_whole" (sp_is_whole K) := ok_is_whole T
  have G_steps_to : OkG P w K mg base CX0 3 "steps_to" sp_steps_to := ok_steps_to T
  refine F.ok sc_is_sum (fun vs H Q E h => ?_) (fun cdv A outer s H vs Q E hr h => ?_)
  · obtain ⟨k, v, rfl, _⟩ := h
    rfl
  · obtain ⟨k, v, rfl, odd, g⟩ := h
    refine ⟨_, (pss_cons (ps_if (PW.pt (pw_or (pt_not (pt_val (pe_callB call_isi (by rfl) T.b_isinstance (by decide +kernel) (pa_cons (pv 1) (pa_cons (pe_bltn (v := .ty "list") (by rfl) T.b_list (by decide +kernel) rfl) pa_nil))))) (pw_or1 (pt_not (pt_val (pe_callB (cr_all rfl) (by rfl) T.b_all (by decide +kernel) (pa_cons (pe_lc (own := [("part", 3)]) (g := gName 3) (tt := tYes) rfl sc_is_sum.nd (pi_list (pv 1)) (blkOk_by (own := [("part", 3)]) (N := n_is_sum) (sc := defScope s_is_sum) (by decide +kernel)) (fun _ _ _ _ _ => (pg_name (i := 3) sc_is_sum.nd rfl (by first | exact Or.inl rfl | exact Or.inr rfl))) (fun _ _ _ _ _ => pts_nil) (fun _ _ _ _ _ => (pe_and (pe_callO G_is_whole (hr.mono (by first | decide | exact Nat.le_refl _)) (by rfl) pass0 (pa_cons (pv 3) pa_nil)) (pe_one (pe_cmpR op_gt (pv 3) pe_int (nomark _)))))) pa_nil))))))) (pss_one (ps_ret pe_bl)) pss_nil)
      (pss_cons (ps_if (pt_not (pt_val (pe_callB (cr_all rfl) (by rfl) T.b_all (by decide +kernel) (pa_cons (pe_lc (own := [("at", 4)]) (g := gName 4) (tt := tYes) rfl sc_is_sum.nd (pi_range2 (by rfl) T.b_range (pa_cons pe_int (pa_cons (pe_callB call_len_seq (by rfl) T.b_len (by decide +kernel) (pa_cons (pv 1) pa_nil)) pa_nil))) (blkOk_by (own := [("at", 4)]) (N := n_is_sum) (sc := defScope s_is_sum) (by decide +kernel)) (fun _ _ _ _ _ => (pg_name (i := 4) sc_is_sum.nd rfl (by first | exact Or.inl rfl | exact Or.inr rfl))) (fun _ _ _ _ _ => pts_nil) (fun _ _ _ _ _ => (pe_cmpR op_gt (pe_ix (r := rIxL K) ix_list (pv 1) (pe_op op_sub (pv 4) pe_int) (fun _ _ => rfl)) (pe_op op_mul (pv 0) (pe_ix (r := rIxL K) ix_list (pv 1) (pv 4) (fun _ _ => rfl))) (nomark _)))) pa_nil)))) (pss_one (ps_ret pe_bl)) pss_nil)
      (pss_cons (ps_if (pt_cmpR (op_eqIs hr.units) (pv 1) (pe_lst pa_nil) (nomark _)) (pss_one (ps_ret pe_bl)) pss_nil)
      (pss_cons (ps_set (i := 2) sc_is_sum.nd rfl (by first | exact Or.inl rfl | exact Or.inr rfl) (pe_callO G_steps_to (hr.mono (by first | decide | exact Nat.le_refl _)) (by rfl) pass0 (pa_cons (pv 0) (pa_cons (pe_ix ix_list (pv 1) pe_int (fun _ _ => rfl)) pa_nil))))
      (pss_one (ps_ret (pe_callB (cr_all rfl) (by rfl) T.b_all (by decide +kernel) (pa_cons (pe_lc (own := [("part", 3)]) (g := gName 3) (tt := tYes) rfl sc_is_sum.nd (pi_list (pv 1)) (blkOk_by (own := [("part", 3)]) (N := n_is_sum) (sc := defScope s_is_sum) (by decide +kernel)) (fun _ _ _ _ _ => (pg_name (i := 3) sc_is_sum.nd rfl (by first | exact Or.inl rfl | exact Or.inr rfl))) (fun _ _ _ _ _ => pts_nil) (fun _ _ _ _ _ => (pe_cmpR (r := rIn K false) op_in_seq (pv 3) (pv 2) (by rfl)))) pa_nil)))))))), ?_⟩
    rcases odd with nl | ⟨a, xs, rfl, ha, len, hall, x0, hx0, bad⟩
    · obtain ⟨t, ty, kt⟩ := nl.ty (K := K)
      exact ⟨_, rfl, _, _, _, _, false, rfl, .ty _, ty, kit_ty kt, _, rfl, iteT (g H (Same.refl H))⟩
    · refine ⟨_, rfl, _, _, _, _, true, rfl, .ty _, .base (.lst ha), kit_ty (by decide +kernel), _, rfl, iteF ?_⟩
      refine ⟨_, rfl, a, rfl, ⟨_, SqL.of ha⟩, fun D nD => lc_list (K := K) (a := a) (xs := xs) (fun i H2 => Same H H2 ∧ ∃ bs : List Bool, H2 D = some (.lst (bs.map V.bl)) ∧ bs.length = i ∧ (bs.all id = true → ∀ (j : Nat) (x : V), j < i → xs[j]? = some x → ¬ Strange H x))
        ⟨same_upd nD, [], upd_same, rfl, fun _ j x hj => absurd hj (Nat.not_lt_zero _)⟩ (fun i H2 _ z => SqL.of (z.1 _ _ ha)) ?_ ?_⟩
      · rintro i y H2 hy ⟨sm, bs, hD, hbs, eb⟩
        have hil : i < xs.length := (List.getElem?_eq_some_iff.mp hy).1
        have fin : ∀ b : Bool, (b = true → ¬ Strange H y) → ∃ acc, H2 D = some (.lst acc) ∧ acc.length < sizeLine ∧ Same H (upd H2 D (.lst (acc ++ [.bl b]))) ∧ ∃ bs : List Bool, (upd H2 D (.lst (acc ++ [.bl b]))) D = some (.lst (bs.map V.bl)) ∧ bs.length = i + 1 ∧ (bs.all id = true → ∀ (j : Nat) (x : V), j < i + 1 → xs[j]? = some x → ¬ Strange H x) := by
          intro b nb
          refine ⟨_, hD, ?_, same_new sm nD, bs ++ [b], ?_, ?_, ?_⟩
          · rw [List.length_map, sizeLine_eq]
            omega
          · rw [upd_same, List.map_append]
            rfl
          · rw [List.length_append, hbs]
            rfl
          · rw [List.all_append, Bool.and_eq_true]
            rintro ⟨q1, q2⟩ j x hj ex
            by_cases ej : j = i
            · subst ej
              rw [hy] at ex
              cases ex
              exact nb (by simpa using q2)
            · exact eb q1 j x (by omega) ex
        rcases hall y (List.mem_of_getElem? hy) with ⟨n, rfl, h0⟩ | st
        · refine ⟨rfl, ⟨_, rfl, _, _, rfl, wh_nat h0, _, rfl, iteT ?_⟩⟩
          exact ⟨_, rfl, _, _, rfl, rfl, fin _ fun _ z => z.notInt h0⟩
        · refine ⟨rfl, ⟨_, rfl, _, _, rfl, (st.same sm).wh, _, rfl, iteF ?_⟩⟩
          exact fin _ fun z => by cases z
      · rintro H2 ⟨sm, bs, hD, hbs, eb⟩
        refine ⟨D, _, rfl, SqL.of hD, _, rfl, ?_⟩
        cases c1 : bs.all id with
        | false => exact iteT (g H2 sm)
        | true =>
          obtain ⟨j, hj⟩ := List.getElem?_of_mem hx0
          exact absurd bad (eb c1 j x0 (List.getElem?_eq_some_iff.mp hj).1 hj)
theorem or_fn {CX : CXT} {k : Nat} {f : Addr} {fd : FuncData} {ps : List Str} {sp sp' : Sp} (F : FnOk P w K mg base CX k f fd ps sp) (G : FnOk P w K mg base CX k f fd ps sp') : FnOk P w K mg base CX k f fd ps (fun vs H Q E => sp vs H Q E ∨ sp' vs H Q E) :=
  ⟨fun vs H Q E h => h.elim (F.len vs H Q E) (G.len vs H Q E), fun A outer s H args us vs Q E hr he hb hv hs => hs.elim (F.run A outer s H args us vs Q E hr he hb hv) (G.run A outer s H args us vs Q E hr he hb hv)⟩
def sp_is_sumO : Sp := fun vs H Q E => sp_is_sum vs H Q E ∨ sp_is_sumV vs H Q E
theorem ok_is_sumO (T : Txt K mg CTakeError CBadFactor CBadHeap CBadLimit CBadNumber CBadSum CBadTaking CSteps CLost CWon) : OkG P w K mg base CX0 4 "is_sum" sp_is_sumO := OkG.of T.D_is_sum (fun _ _ => bd_is_sum) fun f fd F => or_fn (fn_is_sum T F) (fn_is_sumV T F)
def sp_whole (CF CS : Addr) : Sp := fun vs H Q E => ∃ f v, vs = [f, v] ∧ GateF H E CF f (∃ k : Int, f = .int k ∧ ((BadS k H v ∧ refuse H E CS) ∨ ∃ (a : Addr) (l : List Int), v = .ref a ∧ H a = some (.lst (l.map V.int)) ∧ l.length ≤ 1000 ∧ (∀ x ∈ l, x < 2 ^ 300) ∧ Gap k l ∧ Of (h k) l ∧ ∀ H' : Hp, Same H H' → Q (.int l.sum) H'))
theorem ok_whole (T : Txt K mg CTakeError CBadFactor CBadHeap CBadLimit CBadNumber CBadSum CBadTaking CSteps CLost CWon) : OkG P w K mg base (L2N.CX P w) 5 "whole" (sp_whole CBadFactor CBadSum) := by
  have G_check_factor : OkG P w K mg base (L2N.CX P w) 2 "check_factor" (sp_check_factor CBadFactor) := ok_check_factor T
  have G_is_sum : OkG P w K mg base CX0 4 "is_sum" sp_is_sumO := ok_is_sumO T
  refine OkG.of T.D_whole (fun _ _ => bd_whole) fun f fd F => okN F sc_whole (fun vs H Q E h => ?_) (fun cdv A outer s H vs Q E hr h => ?_)
  · obtain ⟨k, a, rfl, _⟩ := h
    rfl
  · obtain ⟨f, v, rfl, g1⟩ := h
    refine ⟨_, (pss_cons (ps_expr (pe_callO G_check_factor (hr.mono (by first | decide | exact Nat.le_refl _)) (by rfl) (L2N.passes_call (L2N.takes_of rfl rfl rfl rfl) (fun _ _ _ _ h => h)) (pa_cons (pv 0) pa_nil)))
      (pss_cons (ps_if (pt_not (pt_val (pe_callO G_is_sum (hr.mono (by first | decide | exact Nat.le_refl _)) (by rfl) pass0 (pa_cons (pv 0) (pa_cons (pv 1) pa_nil))))) (pss_one (L2N.ps_raise rfl (L2N.takes_of rfl rfl rfl rfl) (L2N.pmk_own PySem.F.excBase_ValueError T.x_BadSum.xe T.x_BadSum.e T.x_BadSum.kp (raises_own T.x_BadSum.bs T.x_BadSum.tp) rfl))) pss_nil)
      (pss_one (ps_ret (pe_callB (cr_sum rfl) (by rfl) T.b_sum (by decide +kernel) (pa_cons (pv 1) pa_nil)))))), ?_⟩
    refine ⟨_, rfl, _, rfl, g1.imp fun ok g2 => ?_⟩
    clear g1
    obtain ⟨k, rfl, g3⟩ := g2
    obtain ⟨k', e, hk, hk30⟩ := ok
    cases e
    rcases g3 with ⟨b, g⟩ | ⟨a, l, rfl, ha, len, lt, hg, ho, g⟩
    · cases b with
      | not nl => exact ⟨_, rfl, _, rfl, .inr ⟨_, _, rfl, .inl nl, fun H' sm => ⟨_, rfl, iteT (g H' sm)⟩⟩⟩
      | item ha len hall bad => exact ⟨_, rfl, _, rfl, .inr ⟨_, _, rfl, .inr ⟨_, _, rfl, ha, len, hall, bad⟩, fun H' sm => ⟨_, rfl, iteT (g H' sm)⟩⟩⟩
      | @sum a l ha len lt bad =>
        refine ⟨_, rfl, _, rfl, .inl ⟨k, a, l, 300, rfl, ha, hk, hk30, by omega, lt, by decide, fun b H' sm hb => ⟨_, rfl, ?_⟩⟩⟩
        cases b with
        | false => exact iteT (g H' sm)
        | true => exact absurd (hb.mp rfl) bad
    · refine ⟨_, rfl, _, rfl, .inl ⟨k, a, l, 300, rfl, ha, hk, hk30, by omega, lt, by decide, fun b H' sm hb => ⟨_, rfl, ?_⟩⟩⟩
      rw [hb.mpr ⟨hg, ho⟩]
      refine iteF ⟨_, rfl, a, l, rfl, SqL.of (sm _ _ ha), g H' sm⟩
end
end Tx
namespace Tx
open PySem PySem.Spec PyProof.Rows L2 Tk TA
theorem iteY {c A B : Prop} [Decidable c] (hc : c) (h : A) : if c then A else B := by
  rw [if_pos hc]
  exact h
theorem iteZ {c A B : Prop} [Decidable c] (hc : ¬ c) (h : B) : if c then A else B := by
  rw [if_neg hc]
  exact h
section
variable {P : Program} {w : World} {K : PySem.W.Frag} {mg : Str → Option Value} {base : Heap} {CTakeError CBadFactor CBadHeap CBadLimit CBadNumber CBadSum CBadTaking CSteps CLost CWon : Addr}
/-! ### the doors -/
def sp_with_factor (C : Addr) : Sp := fun vs H Q E => ∃ (i : Int) (v : V), vs = [.int i, v] ∧ 0 ≤ i ∧ i < 5 ∧ BadF H v ∧ refuse H E C
theorem ok_with_factor (T : Txt K mg CTakeError CBadFactor CBadHeap CBadLimit CBadNumber CBadSum CBadTaking CSteps CLost CWon) : OkG P w K mg base (L2N.CX P w) 6 "_law_with_factor" (sp_with_factor CBadFactor) := by
  have G_step_by : OkG P w K mg base (L2N.CX P w) 3 "step_by" (sp_step_by CBadFactor CBadNumber) := ok_step_by T
  have G_sum_of : OkG P w K mg base (L2N.CX P w) 5 "sum_of" (sp_sum_of CBadFactor CBadHeap) := ok_sum_of T
  have G_whole : OkG P w K mg base (L2N.CX P w) 5 "whole" (sp_whole CBadFactor CBadSum) := ok_whole T
  have G_told : OkG P w K mg base (L2N.CX P w) 5 "told" (sp_told CBadFactor CBadHeap CBadLimit) := ok_told T
  have G_behind : OkG P w K mg base (L2N.CX P w) 4 "behind" (sp_behind CBadFactor CBadHeap CBadLimit CBadTaking) := ok_behind T
  refine OkG.of T.D__law_with_factor (fun _ _ => bd__law_with_factor) fun f fd F => okN F sc__law_with_factor (fun vs H Q E h => ?_) (fun cdv A outer s H vs Q E hr h => ?_)
  · obtain ⟨i, v, rfl, _⟩ := h
    rfl
  · obtain ⟨i, v, rfl, i0, i5, b, g⟩ := h
    have gf : ∀ R, GateF H E CBadFactor v R := fun R => .inl ⟨b, g H (Same.refl H)⟩
    refine ⟨_, (pss_cons (ps_if (pt_cmpR op_lt (pv 0) pe_int (nomark _)) (pss_one (ps_ret (pe_ifExp (pt_cmpR op_eq (pv 0) pe_int (nomark _)) (pe_callO G_step_by (hr.mono (by first | decide | exact Nat.le_refl _)) (by rfl) (L2N.passes_call (L2N.takes_of rfl rfl rfl rfl) (fun _ _ _ _ h => h)) (pa_cons (pv 1) (pa_cons (pe_un un_neg pe_int) pa_nil))) (pe_ifExp (pt_cmpR op_eq (pv 0) pe_int (nomark _)) (pe_callO G_sum_of (hr.mono (by first | decide | exact Nat.le_refl _)) (by rfl) (L2N.passes_call (L2N.takes_of rfl rfl rfl rfl) (fun _ _ _ _ h => h)) (pa_cons (pv 1) (pa_cons (pe_un un_neg pe_int) pa_nil))) (pe_callO G_whole (hr.mono (by first | decide | exact Nat.le_refl _)) (by rfl) (L2N.passes_call (L2N.takes_of rfl rfl rfl rfl) (fun _ _ _ _ h => h)) (pa_cons (pv 1) (pa_cons pe_non pa_nil))))))) pss_nil)
      (pss_one (ps_ret (pe_ifExp (pt_cmpR op_eq (pv 0) pe_int (nomark _)) (pe_callO G_told (hr.mono (by first | decide | exact Nat.le_refl _)) (by rfl) (L2N.passes_call (L2N.takes_of rfl rfl rfl rfl) (fun _ _ _ _ h => h)) (pa_cons (pv 1) (pa_cons (pe_un un_neg pe_int) (pa_cons (pe_un un_neg pe_int) pa_nil)))) (pe_callO G_behind (hr.mono (by first | decide | exact Nat.le_refl _)) (by rfl) (L2N.passes_call (L2N.takes_of rfl rfl rfl rfl) (fun _ _ _ _ h => h)) (pa_cons (pv 1) (pa_cons pe_non (pa_cons pe_non (pa_cons pe_non pa_nil))))))))), ?_⟩
    rcases (show i = 0 ∨ i = 1 ∨ i = 2 ∨ i = 3 ∨ i = 4 by omega) with rfl | rfl | rfl | rfl | rfl
    · exact ⟨_, rfl, _, _, rfl, rfl, _, rfl, iteY (by decide) ⟨_, rfl, rfl, _, rfl, iteY (by simp) ⟨_, rfl, _, rfl, _, _, rfl, gf _⟩⟩⟩
    · exact ⟨_, rfl, _, _, rfl, rfl, _, rfl, iteY (by decide) ⟨_, rfl, rfl, _, rfl, iteZ (by simp) ⟨_, rfl, rfl, _, rfl, iteY (by simp) ⟨_, rfl, _, rfl, _, _, rfl, gf _⟩⟩⟩⟩
    · exact ⟨_, rfl, _, _, rfl, rfl, _, rfl, iteY (by decide) ⟨_, rfl, rfl, _, rfl, iteZ (by simp) ⟨_, rfl, rfl, _, rfl, iteZ (by simp) ⟨_, rfl, _, _, rfl, gf _⟩⟩⟩⟩
    · exact ⟨_, rfl, _, _, rfl, rfl, _, rfl, iteZ (by decide) ⟨_, rfl, rfl, _, rfl, iteY (by simp) ⟨_, rfl, _, rfl, _, rfl, _, _, _, rfl, gf _⟩⟩⟩
    · exact ⟨_, rfl, _, _, rfl, rfl, _, rfl, iteZ (by decide) ⟨_, rfl, rfl, _, rfl, iteZ (by simp) ⟨_, rfl, _, _, _, _, rfl, gf _⟩⟩⟩
def sp_with_heap (C : Addr) : Sp := fun vs H Q E => ∃ (i : Int) (v : V), vs = [.int i, v] ∧ 0 ≤ i ∧ i < 3 ∧ Strange H v ∧ refuse H E C
theorem ok_with_heap (T : Txt K mg CTakeError CBadFactor CBadHeap CBadLimit CBadNumber CBadSum CBadTaking CSteps CLost CWon) : OkG P w K mg base (L2N.CX P w) 6 "_law_with_heap" (sp_with_heap CBadHeap) := by
  have G_sum_of : OkG P w K mg base (L2N.CX P w) 5 "sum_of" (sp_sum_of CBadFactor CBadHeap) := ok_sum_of T
  have G_told : OkG P w K mg base (L2N.CX P w) 5 "told" (sp_told CBadFactor CBadHeap CBadLimit) := ok_told T
  have G_behind : OkG P w K mg base (L2N.CX P w) 4 "behind" (sp_behind CBadFactor CBadHeap CBadLimit CBadTaking) := ok_behind T
  refine OkG.of T.D__law_with_heap (fun _ _ => bd__law_with_heap) fun f fd F => okN F sc__law_with_heap (fun vs H Q E h => ?_) (fun cdv A outer s H vs Q E hr h => ?_)
  · obtain ⟨i, v, rfl, _⟩ := h
    rfl
  · obtain ⟨i, v, rfl, i0, i5, b, g⟩ := h
    have gn : ∀ R, GateN H E CBadHeap v R := fun R => .inl ⟨b, g H (Same.refl H)⟩
    refine ⟨_, (pss_one (ps_ret (pe_ifExp (pt_cmpR op_eq (pv 0) pe_int (nomark _)) (pe_callO G_sum_of (hr.mono (by first | decide | exact Nat.le_refl _)) (by rfl) (L2N.passes_call (L2N.takes_of rfl rfl rfl rfl) (fun _ _ _ _ h => h)) (pa_cons pe_int (pa_cons (pv 1) pa_nil))) (pe_ifExp (pt_cmpR op_eq (pv 0) pe_int (nomark _)) (pe_callO G_told (hr.mono (by first | decide | exact Nat.le_refl _)) (by rfl) (L2N.passes_call (L2N.takes_of rfl rfl rfl rfl) (fun _ _ _ _ h => h)) (pa_cons pe_int (pa_cons (pv 1) (pa_cons (pe_un un_neg pe_int) pa_nil)))) (pe_callO G_behind (hr.mono (by first | decide | exact Nat.le_refl _)) (by rfl) (L2N.passes_call (L2N.takes_of rfl rfl rfl rfl) (fun _ _ _ _ h => h)) (pa_cons pe_int (pa_cons (pv 1) (pa_cons pe_non (pa_cons pe_int pa_nil))))))))), ?_⟩
    rcases (show i = 0 ∨ i = 1 ∨ i = 2 by omega) with rfl | rfl | rfl
    · exact ⟨_, rfl, rfl, _, rfl, iteY (by simp) ⟨_, rfl, _, _, rfl, .inr ⟨⟨2, rfl, by decide, by decide⟩, gn _⟩⟩⟩
    · exact ⟨_, rfl, rfl, _, rfl, iteZ (by simp) ⟨_, rfl, rfl, _, rfl, iteY (by simp) ⟨_, rfl, _, rfl, _, _, _, rfl, .inr ⟨⟨30, rfl, by decide, by decide⟩, gn _⟩⟩⟩⟩
    · exact ⟨_, rfl, rfl, _, rfl, iteZ (by simp) ⟨_, rfl, rfl, _, rfl, iteZ (by simp) ⟨_, rfl, _, _, _, _, rfl, .inr ⟨⟨1, rfl, by decide, by decide⟩, gn _⟩⟩⟩⟩
def sp_with_limit (C : Addr) : Sp := fun vs H Q E => ∃ (i : Int) (v : V), vs = [.int i, v] ∧ 0 ≤ i ∧ i < 2 ∧ Strange H v ∧ refuse H E C
theorem ok_with_limit (T : Txt K mg CTakeError CBadFactor CBadHeap CBadLimit CBadNumber CBadSum CBadTaking CSteps CLost CWon) : OkG P w K mg base (L2N.CX P w) 6 "_law_with_limit" (sp_with_limit CBadLimit) := by
  have G_told : OkG P w K mg base (L2N.CX P w) 5 "told" (sp_told CBadFactor CBadHeap CBadLimit) := ok_told T
  have G_behind : OkG P w K mg base (L2N.CX P w) 4 "behind" (sp_behind CBadFactor CBadHeap CBadLimit CBadTaking) := ok_behind T
  refine OkG.of T.D__law_with_limit (fun _ _ => bd__law_with_limit) fun f fd F => okN F sc__law_with_limit (fun vs H Q E h => ?_) (fun cdv A outer s H vs Q E hr h => ?_)
  · obtain ⟨i, v, rfl, _⟩ := h
    rfl
  · obtain ⟨i, v, rfl, i0, i5, b, g⟩ := h
    have gn : ∀ R, GateN H E CBadLimit v R := fun R => .inl ⟨b, g H (Same.refl H)⟩
    refine ⟨_, (pss_one (ps_ret (pe_ifExp (pt_cmpR op_eq (pv 0) pe_int (nomark _)) (pe_callO G_told (hr.mono (by first | decide | exact Nat.le_refl _)) (by rfl) (L2N.passes_call (L2N.takes_of rfl rfl rfl rfl) (fun _ _ _ _ h => h)) (pa_cons pe_int (pa_cons pe_int (pa_cons (pv 1) pa_nil)))) (pe_callO G_behind (hr.mono (by first | decide | exact Nat.le_refl _)) (by rfl) (L2N.passes_call (L2N.takes_of rfl rfl rfl rfl) (fun _ _ _ _ h => h)) (pa_cons pe_int (pa_cons pe_int (pa_cons (pv 1) (pa_cons pe_non pa_nil)))))))), ?_⟩
    rcases (show i = 0 ∨ i = 1 by omega) with rfl | rfl
    · exact ⟨_, rfl, rfl, _, rfl, iteY (by simp) ⟨_, rfl, _, _, _, rfl, .inr ⟨⟨3, rfl, by decide, by decide⟩, .inr ⟨⟨9, rfl, by decide⟩, gn _⟩⟩⟩⟩
    · exact ⟨_, rfl, rfl, _, rfl, iteZ (by simp) ⟨_, rfl, _, _, _, _, rfl, .inr ⟨⟨3, rfl, by decide, by decide⟩, .inr ⟨⟨9, rfl, by decide⟩, gn _⟩⟩⟩⟩
def sp_with_number (C : Addr) : Sp := fun vs H Q E => ∃ (i : Int) (v : V), vs = [.int i, v] ∧ 0 ≤ i ∧ i < 2 ∧ BadNum H v ∧ refuse H E C
theorem ok_with_number (T : Txt K mg CTakeError CBadFactor CBadHeap CBadLimit CBadNumber CBadSum CBadTaking CSteps CLost CWon) : OkG P w K mg base (L2N.CX P w) 6 "_law_with_number" (sp_with_number CBadNumber) := by
  have G_step_by : OkG P w K mg base (L2N.CX P w) 3 "step_by" (sp_step_by CBadFactor CBadNumber) := ok_step_by T
  refine OkG.of T.D__law_with_number (fun _ _ => bd__law_with_number) fun f fd F => okN F sc__law_with_number (fun vs H Q E h => ?_) (fun cdv A outer s H vs Q E hr h => ?_)
  · obtain ⟨i, v, rfl, _⟩ := h
    rfl
  · obtain ⟨i, v, rfl, i0, i5, b, g⟩ := h
    refine ⟨_, (pss_one (ps_ret (pe_callO G_step_by (hr.mono (by first | decide | exact Nat.le_refl _)) (by rfl) (L2N.passes_call (L2N.takes_of rfl rfl rfl rfl) (fun _ _ _ _ h => h)) (pa_cons (pe_op op_sub pe_int (pe_op op_mul pe_int (pv 0))) (pa_cons (pv 1) pa_nil))))), ?_⟩
    exact ⟨_, rfl, _, _, rfl, rfl, .inl ⟨by decide, by decide⟩, _, _, rfl, rfl, _, rfl, _, _, rfl, .inr ⟨⟨30 - 29 * i, rfl, by omega, by omega⟩, .inl ⟨b, g H (Same.refl H)⟩⟩⟩
def sp_with_sum (C : Addr) : Sp := fun vs H Q E => ∃ (k : Int) (v : V), vs = [.int k, v] ∧ 1 ≤ k ∧ k ≤ 30 ∧ BadS k H v ∧ refuse H E C
theorem ok_with_sum (T : Txt K mg CTakeError CBadFactor CBadHeap CBadLimit CBadNumber CBadSum CBadTaking CSteps CLost CWon) : OkG P w K mg base (L2N.CX P w) 6 "_law_with_sum" (sp_with_sum CBadSum) := by
  have G_whole : OkG P w K mg base (L2N.CX P w) 5 "whole" (sp_whole CBadFactor CBadSum) := ok_whole T
  refine OkG.of T.D__law_with_sum (fun _ _ => bd__law_with_sum) fun f fd F => okN F sc__law_with_sum (fun vs H Q E h => ?_) (fun cdv A outer s H vs Q E hr h => ?_)
  · obtain ⟨i, v, rfl, _⟩ := h
    rfl
  · obtain ⟨k, v, rfl, k0, k30, b, g⟩ := h
    refine ⟨_, (pss_one (ps_ret (pe_callO G_whole (hr.mono (by first | decide | exact Nat.le_refl _)) (by rfl) (L2N.passes_call (L2N.takes_of rfl rfl rfl rfl) (fun _ _ _ _ h => h)) (pa_cons (pv 0) (pa_cons (pv 1) pa_nil))))), ?_⟩
    exact ⟨_, rfl, _, rfl, _, _, rfl, .inr ⟨⟨k, rfl, k0, k30⟩, k, rfl, .inl ⟨b, g⟩⟩⟩
def sp_with_taking (K : PySem.W.Frag) (C : Addr) : Sp := fun vs H Q E => ∃ (a : Addr) (k N L : Int) (v : V), vs = [.ref a, v] ∧ SqT K H a [.int k, .int N, .int L] ∧ 1 ≤ k ∧ k ≤ 30 ∧ 0 ≤ N ∧ 0 ≤ L ∧ BadT H v N L ∧ refuse H E C
theorem ok_with_taking (T : Txt K mg CTakeError CBadFactor CBadHeap CBadLimit CBadNumber CBadSum CBadTaking CSteps CLost CWon) : OkG P w K mg base (L2N.CX P w) 6 "_law_with_taking" (sp_with_taking K CBadTaking) := by
  have G_behind : OkG P w K mg base (L2N.CX P w) 4 "behind" (sp_behind CBadFactor CBadHeap CBadLimit CBadTaking) := ok_behind T
  refine OkG.of T.D__law_with_taking (fun _ _ => bd__law_with_taking) fun f fd F => okN F sc__law_with_taking (fun vs H Q E h => ?_) (fun cdv A outer s H vs Q E hr h => ?_)
  · obtain ⟨a, k, N, L, v, rfl, _⟩ := h
    rfl
  · obtain ⟨a, k, N, L, v, rfl, ha, k0, k30, N0, L0, b, g⟩ := h
    refine ⟨_, (pss_cons (ps_asg (pv 0) (pg_tup (by rfl) (pgs_cons (pg_name (i := 2) sc__law_with_taking.nd rfl (by first | exact Or.inl rfl | exact Or.inr rfl)) (pgs_cons (pg_name (i := 3) sc__law_with_taking.nd rfl (by first | exact Or.inl rfl | exact Or.inr rfl)) (pgs_cons (pg_name (i := 4) sc__law_with_taking.nd rfl (by first | exact Or.inl rfl | exact Or.inr rfl)) pgs_nil)))))
      (pss_one (ps_ret (pe_callO G_behind (hr.mono (by first | decide | exact Nat.le_refl _)) (by rfl) (L2N.passes_call (L2N.takes_of rfl rfl rfl rfl) (fun _ _ _ _ h => h)) (pa_cons (pv 2) (pa_cons (pv 3) (pa_cons (pv 4) (pa_cons (pv 1) pa_nil)))))))), ?_⟩
    exact ⟨_, rfl, a, _, rfl, ha, rfl, _, _, rfl, _, _, rfl, _, _, rfl, rfl, _, rfl, _, rfl, _, rfl, _, rfl, _, _, _, _, rfl, .inr ⟨⟨k, rfl, k0, k30⟩, .inr ⟨⟨N, rfl, N0⟩, .inr ⟨⟨L, rfl, L0⟩, N, L, rfl, rfl, .inl ⟨b, g H (Same.refl H)⟩⟩⟩⟩⟩
end
end Tx
namespace Tx
open PySem PySem.Spec PyProof.Rows L2 L2H Tk TA
def ec (CF CH CL CN CS CT : Addr) (i : Nat) : Addr := match i with
  | 0 => CF
  | 1 => CH
  | 2 => CL
  | 3 => CN
  | 4 => CS
  | _ => CT
def kb (i : Nat) : List Bool := [i == 0, i == 1, i == 2, i == 3, i == 4, i == 5, true]
theorem kit_val {K : PySem.W.Frag} {C : Addr} (e : PySem.W.subIn K (.ref C) (.type "ValueError") = some true) : PySem.W.kitOne K (.ref C) (.type "ValueError") = some true := by
  unfold PySem.W.kitOne
  by_cases c : (Value.ref C == Value.type "ValueError") = true
  · rw [if_pos c]
  · rw [if_neg c]
    show (if PySem.W.kitMeta "ValueError" = true then PySem.W.subIn K (.ref C) (.type "ValueError") else none) = some true
    rw [if_pos (by decide +kernel)]
    exact e
section
variable {P : Program} {w : World} {K : PySem.W.Frag} {mg : Str → Option Value} {base : Heap} {CTakeError CBadFactor CBadHeap CBadLimit CBadNumber CBadSum CBadTaking CSteps CLost CWon : Addr}
theorem ec_facts (T : Txt K mg CTakeError CBadFactor CBadHeap CBadLimit CBadNumber CBadSum CBadTaking CSteps CLost CWon) : ∀ i : Nat, i < 6 → ExcC K (ec CBadFactor CBadHeap CBadLimit CBadNumber CBadSum CBadTaking i) ∧ PySem.W.subIn K (.ref (ec CBadFactor CBadHeap CBadLimit CBadNumber CBadSum CBadTaking i)) (.ref CTakeError) = some true ∧
    PySem.W.kitOne K (.ref (ec CBadFactor CBadHeap CBadLimit CBadNumber CBadSum CBadTaking i)) (.ref CBadFactor) = some (i == 0) ∧
    PySem.W.kitOne K (.ref (ec CBadFactor CBadHeap CBadLimit CBadNumber CBadSum CBadTaking i)) (.ref CBadHeap) = some (i == 1) ∧
    PySem.W.kitOne K (.ref (ec CBadFactor CBadHeap CBadLimit CBadNumber CBadSum CBadTaking i)) (.ref CBadLimit) = some (i == 2) ∧
    PySem.W.kitOne K (.ref (ec CBadFactor CBadHeap CBadLimit CBadNumber CBadSum CBadTaking i)) (.ref CBadNumber) = some (i == 3) ∧
    PySem.W.kitOne K (.ref (ec CBadFactor CBadHeap CBadLimit CBadNumber CBadSum CBadTaking i)) (.ref CBadSum) = some (i == 4) ∧
    PySem.W.kitOne K (.ref (ec CBadFactor CBadHeap CBadLimit CBadNumber CBadSum CBadTaking i)) (.ref CBadTaking) = some (i == 5) ∧
    PySem.W.kitOne K (.ref (ec CBadFactor CBadHeap CBadLimit CBadNumber CBadSum CBadTaking i)) (.type "ValueError") = some true
  | 0, _ => ⟨T.x_BadFactor.ex, T.x_BadFactor.tk, T.kt_BadFactor_BadFactor, T.kt_BadFactor_BadHeap, T.kt_BadFactor_BadLimit, T.kt_BadFactor_BadNumber, T.kt_BadFactor_BadSum, T.kt_BadFactor_BadTaking, kit_val T.x_BadFactor.ve⟩
  | 1, _ => ⟨T.x_BadHeap.ex, T.x_BadHeap.tk, T.kt_BadHeap_BadFactor, T.kt_BadHeap_BadHeap, T.kt_BadHeap_BadLimit, T.kt_BadHeap_BadNumber, T.kt_BadHeap_BadSum, T.kt_BadHeap_BadTaking, kit_val T.x_BadHeap.ve⟩
  | 2, _ => ⟨T.x_BadLimit.ex, T.x_BadLimit.tk, T.kt_BadLimit_BadFactor, T.kt_BadLimit_BadHeap, T.kt_BadLimit_BadLimit, T.kt_BadLimit_BadNumber, T.kt_BadLimit_BadSum, T.kt_BadLimit_BadTaking, kit_val T.x_BadLimit.ve⟩
  | 3, _ => ⟨T.x_BadNumber.ex, T.x_BadNumber.tk, T.kt_BadNumber_BadFactor, T.kt_BadNumber_BadHeap, T.kt_BadNumber_BadLimit, T.kt_BadNumber_BadNumber, T.kt_BadNumber_BadSum, T.kt_BadNumber_BadTaking, kit_val T.x_BadNumber.ve⟩
  | 4, _ => ⟨T.x_BadSum.ex, T.x_BadSum.tk, T.kt_BadSum_BadFactor, T.kt_BadSum_BadHeap, T.kt_BadSum_BadLimit, T.kt_BadSum_BadNumber, T.kt_BadSum_BadSum, T.kt_BadSum_BadTaking, kit_val T.x_BadSum.ve⟩
  | 5, _ => ⟨T.x_BadTaking.ex, T.x_BadTaking.tk, T.kt_BadTaking_BadFactor, T.kt_BadTaking_BadHeap, T.kt_BadTaking_BadLimit, T.kt_BadTaking_BadNumber, T.kt_BadTaking_BadSum, T.kt_BadTaking_BadTaking, kit_val T.x_BadTaking.ve⟩
  | n + 6, h => absurd h (by omega)
/-- what stands of the error, and what is told of it -/
def sp_kinds (CF CH CL CN CS CT : Addr) (p : Addr × Obj) : Sp := fun vs H Q _ => vs = [.ref p.1] ∧ (∃ us, p.2.data = .fields us) ∧ ∃ i : Nat, i < 6 ∧ Zc (.ref (ec CF CH CL CN CS CT i)) none p.2 ∧
  ∀ (H' : Hp) (a : Addr), Same H H' → H a = none → H' a = some (.lst ((kb i).map V.bl)) → Q (.ref a) H'
theorem fn_kinds (T : Txt K mg CTakeError CBadFactor CBadHeap CBadLimit CBadNumber CBadSum CBadTaking CSteps CLost CWon) {f : Addr} {fd : FuncData} (F : Fun K "_law_kinds" "_law_kinds" s__law_kinds f fd) : FnP P w K mg base 1 f fd ["_law_error"] (sp_kinds CBadFactor CBadHeap CBadLimit CBadNumber CBadSum CBadTaking) := by
  refine okP F sc__law_kinds (fun p vs H Q E h => ?_) (fun cdv A outer s H vs Q E p hot hr h => ?_)
  · obtain ⟨rfl, _⟩ := h
    rfl
  · obtain ⟨rfl, hfl, i, hi, hzc, g⟩ := h
    obtain ⟨hex, _, k0, k1, k2, k3, k4, k5, kv⟩ := ec_facts T i hi
    refine ⟨_, (pss_cons (ps_set (i := 1) sc__law_kinds.nd rfl (by first | exact Or.inl rfl | exact Or.inr rfl) (pe_lst (pa_cons (pe_callB (call_isP hex hzc hfl (by exact List.mem_cons_self)) (by rfl) T.b_isinstance (by decide +kernel) (pa_cons (pv 0) (pa_cons (pe_glob (v := .ref CBadFactor) (by rfl) T.e_BadFactor rfl) pa_nil))) (pa_cons (pe_callB (call_isP hex hzc hfl (by exact List.mem_cons_self)) (by rfl) T.b_isinstance (by decide +kernel) (pa_cons (pv 0) (pa_cons (pe_glob (v := .ref CBadHeap) (by rfl) T.e_BadHeap rfl) pa_nil))) (pa_cons (pe_callB (call_isP hex hzc hfl (by exact List.mem_cons_self)) (by rfl) T.b_isinstance (by decide +kernel) (pa_cons (pv 0) (pa_cons (pe_glob (v := .ref CBadLimit) (by rfl) T.e_BadLimit rfl) pa_nil))) pa_nil)))))
      (pss_cons (ps_set (i := 1) sc__law_kinds.nd rfl (by first | exact Or.inl rfl | exact Or.inr rfl) (pe_op op_cat (pv 1) (pe_lst (pa_cons (pe_callB (call_isP hex hzc hfl (by exact List.mem_cons_self)) (by rfl) T.b_isinstance (by decide +kernel) (pa_cons (pv 0) (pa_cons (pe_glob (v := .ref CBadNumber) (by rfl) T.e_BadNumber rfl) pa_nil))) (pa_cons (pe_callB (call_isP hex hzc hfl (by exact List.mem_cons_self)) (by rfl) T.b_isinstance (by decide +kernel) (pa_cons (pv 0) (pa_cons (pe_glob (v := .ref CBadSum) (by rfl) T.e_BadSum rfl) pa_nil))) (pa_cons (pe_callB (call_isP hex hzc hfl (by exact List.mem_cons_self)) (by rfl) T.b_isinstance (by decide +kernel) (pa_cons (pv 0) (pa_cons (pe_glob (v := .ref CBadTaking) (by rfl) T.e_BadTaking rfl) pa_nil))) pa_nil))))))
      (pss_one (ps_ret (pe_op op_cat (pv 1) (pe_lst (pa_cons (pe_callB (call_isP hex hzc hfl (by exact List.mem_cons_self)) (by rfl) T.b_isinstance (by decide +kernel) (pa_cons (pv 0) (pa_cons (pe_bltn (v := .ty "ValueError") (by rfl) T.b_ValueError (by decide +kernel) rfl) pa_nil))) pa_nil))))))), ?_⟩
    refine ⟨_, rfl, _, _, _, rfl, (fun u h => h), k0, ?_⟩
    refine ⟨_, rfl, _, _, _, rfl, (fun u h => h), k1, ?_⟩
    refine ⟨_, rfl, _, _, _, rfl, (fun u h => h), k2, ?_⟩
    refine ⟨(by show 3 ≤ sizeLine; decide), fun l1 n1 => ?_⟩
    refine ⟨_, rfl, ?_⟩
    refine ⟨_, rfl, _, _, _, rfl, (fun u h => h), k3, ?_⟩
    refine ⟨_, rfl, _, _, _, rfl, (fun u h => h), k4, ?_⟩
    refine ⟨_, rfl, _, _, _, rfl, (fun u h => h), k5, ?_⟩
    refine ⟨(by show 3 ≤ sizeLine; decide), fun l2 n2 => ?_⟩
    refine ⟨l1, l2, _, _, rfl, rfl, Eq.trans (upd_ne (ne_of_none upd_same n2)) upd_same, upd_same, (by show 3 + 3 ≤ sizeLine; decide), fun l3 n3 => ?_⟩
    refine ⟨_, rfl, ?_⟩
    refine ⟨_, rfl, _, _, _, rfl, (fun u h => h), kv, ?_⟩
    refine ⟨(by show 1 ≤ sizeLine; decide), fun l4 n4 => ?_⟩
    refine ⟨l3, l4, _, _, rfl, rfl, Eq.trans (upd_ne (ne_of_none upd_same n4)) upd_same, upd_same, (by show 6 + 1 ≤ sizeLine; decide), fun l5 n5 => ?_⟩
    exact g _ l5 (same_lst (same_lst (same_lst (same_lst (same_upd n1) n2) n3) n4) n5) (Same.free (same_lst (same_lst (same_lst (same_upd n1) n2) n3) n4) n5) upd_same
/-! ### the refusal of one asking -/
def sp_told1 (P : Program) (w : World) (K : PySem.W.Frag) (mg : Str → Option Value) (base : Heap) (CF CH CL CN CS CT : Addr) : Sp := fun vs H Q _ => ∃ (f : Addr) (x y : V) (i : Nat) (spf : Sp), vs = [.ref f, x, y] ∧ HeldN P w K mg base 6 f spf ∧ i < 6 ∧
  (∀ (Q' : VK) (E' : XK), refuse H E' (ec CF CH CL CN CS CT i) → spf [x, y] H Q' E') ∧ ∀ (H' : Hp) (a : Addr), Same H H' → H a = none → H' a = some (.lst ((kb i).map V.bl)) → Q (.ref a) H'
theorem ok_told1 (T : Txt K mg CTakeError CBadFactor CBadHeap CBadLimit CBadNumber CBadSum CBadTaking CSteps CLost CWon) : OkG P w K mg base CX0 7 "_law_told" (sp_told1 P w K mg base CBadFactor CBadHeap CBadLimit CBadNumber CBadSum CBadTaking) := by
  obtain ⟨fk, fdk, mk, Fk⟩ := T.D__law_kinds
  refine OkG.of T.D__law_told (fun _ _ => bd__law_told) fun f fd F => F.ok sc__law_told (fun vs H Q E h => ?_) (fun cdv A outer s H vs Q E hr h => ?_)
  · obtain ⟨fa, x, y, i, spf, rfl, _⟩ := h
    rfl
  · obtain ⟨fa, x, y, i, spf, rfl, O, hi, ask, g⟩ := h
    refine ⟨_, pss_cons (L2N.ps_try_as (i := 3) (tb := fun W => tDrop (tAsk 0 fa spf W (tCons (tVar 1) (tCons (tVar 2) tNil))))
      (ts := fun a cls d => tRet (tErr a cls d (tVar 3) (fun cls d H1 Q1 => ∃ i : Nat, i < 6 ∧ cls = .ref (ec CBadFactor CBadHeap CBadLimit CBadNumber CBadSum CBadTaking i) ∧ d = none ∧ ∀ (H' : Hp) (a : Addr), Same H1 H' → H1 a = none → H' a = some (.lst ((kb i).map V.bl)) → Q1 (.ref a) H')))
      (Wout := fun _ _ _ _ => False) rfl rfl sc__law_told.nd rfl rfl ⟨rfl, by decide, .inl T.e_TakeError⟩ takesN0
      (fun W pn xe tk _ => pss_one (ps_expr (pe_ask O (hr.mono (by decide)) tk (pa_cons (pv 1) (pa_cons (pv 2) pa_nil)))))
      (fun a oe cls d pn hz hf => pss_one (ps_ret (pe_err (fn_kinds T Fk) (bd__law_kinds Fk) (hr.mono (by decide)) mk Fk.kp hz hf (fun H1 Q1 q => ?_) (pv 3)))))
      (pss_one (ps_ret (pe_lst pa_nil))), ?_⟩
    · obtain ⟨j, hj, rfl, rfl, g⟩ := q
      exact ⟨rfl, hf, j, hj, hz.zc, g⟩
    · refine ⟨rfl, _, rfl, _, rfl, ask _ _ fun H' sm => ?_⟩
      obtain ⟨hex, tke, _⟩ := ec_facts T i hi
      refine ⟨true, PySem.W.exm_ref T.bs_TakeError T.hd_TakeError T.tp_TakeError tke, fun _ a0 _ => ?_, fun q => nomatch q⟩
      exact ⟨_, rfl, _, rfl, rfl, i, hi, rfl, rfl, fun H2 a sm2 na e => g H2 a (sm.trans sm2) (sm.free na) e⟩
/-! ### at all doors, of all things -/
theorem reps_snoc {α : Type} (v : α) (i : Nat) : List.replicate (i + 1) v = List.replicate i v ++ [v] := List.replicate_succ'
theorem reps_all (n : Nat) : ((List.replicate n true).all id) = true := by
  rw [List.all_eq_true]
  intro x hx
  exact List.eq_of_mem_replicate hx
def sp_all (P : Program) (w : World) (K : PySem.W.Frag) (mg : Str → Option Value) (base : Heap) (CF CH CL CN CS CT : Addr) : Sp := fun vs H Q _ => ∃ (f da ta ua : Addr) (ds ts : List V) (i : Nat) (spf : Sp), vs = [.ref f, .ref da, .ref ta, .ref ua] ∧ HeldN P w K mg base 6 f spf ∧ i < 6 ∧
  H da = some (.lst ds) ∧ H ta = some (.lst ts) ∧ ts.length ≤ 1000 ∧ H ua = some (.lst ((kb i).map V.bl)) ∧
  (∀ x ∈ ds, ∀ y ∈ ts, ∀ (H' : Hp) (Q' : VK) (E' : XK), Same H H' → refuse H' E' (ec CF CH CL CN CS CT i) → spf [x, y] H' Q' E') ∧ ∀ (H' : Hp), Same H H' → Q (.bl true) H'
theorem ok_all (T : Txt K mg CTakeError CBadFactor CBadHeap CBadLimit CBadNumber CBadSum CBadTaking CSteps CLost CWon) : OkG P w K mg base CX0 8 "_law_all" (sp_all P w K mg base CBadFactor CBadHeap CBadLimit CBadNumber CBadSum CBadTaking) := by
  have G__law_told : OkG P w K mg base CX0 7 "_law_told" (sp_told1 P w K mg base CBadFactor CBadHeap CBadLimit CBadNumber CBadSum CBadTaking) := ok_told1 T
  refine OkG.of T.D__law_all (fun _ _ => bd__law_all) fun f fd F => F.ok sc__law_all (fun vs H Q E h => ?_) (fun cdv A outer s H vs Q E hr h => ?_)
  · obtain ⟨fa, da, ta, ua, ds, ts, i, spf, rfl, _⟩ := h
    rfl
  · obtain ⟨fa, da, ta, ua, ds, ts, i, spf, rfl, O, hi, hd, ht, tl, hu, ask, g⟩ := h
    refine ⟨_, (pss_cons (ps_for PassesOwn.never rfl (pi_list (pv 1)) (pg_name (i := 4) sc__law_all.nd rfl (by first | exact Or.inl rfl | exact Or.inr rfl)) (pss_one (ps_if (pt_not (pt_val (pe_callB (cr_all rfl) (by rfl) T.b_all (by decide +kernel) (pa_cons (pe_lc (own := [("_law_thing", 5)]) (g := gName 5) (tt := tYes) rfl sc__law_all.nd (pi_list (pv 2)) (blkOk_by (own := [("_law_thing", 5)]) (N := n__law_all) (sc := defScope s__law_all) (by decide +kernel)) (fun _ _ _ _ _ => (pg_name (i := 5) sc__law_all.nd rfl (by first | exact Or.inl rfl | exact Or.inr rfl))) (fun _ _ _ _ _ => pts_nil) (fun _ _ _ _ _ => (pe_cmpR (r := rEqBs K) (op_eqBs hr.units) (pe_callO G__law_told (hr.mono (by first | decide | exact Nat.le_refl _)) (by rfl) pass0 (pa_cons (pv 0) (pa_cons (pv 4) (pa_cons (pv 5) pa_nil)))) (pv 3) (nomark _)))) pa_nil)))) (pss_one (ps_ret pe_bl)) pss_nil)))
      (pss_one (ps_ret pe_bl))), ?_⟩
    refine ⟨_, rfl, _, rfl, ⟨_, SqL.of hd⟩, for_list (K := K) (a := da) (xs := ds) (fun _ σ H' => ∃ v u : Option V, σ = [some (.ref fa), some (.ref da), some (.ref ta), some (.ref ua), v, u] ∧ Same H H') ⟨_, _, rfl, Same.refl H⟩ (fun _ σ H' _ ⟨_, _, _, z⟩ => SqL.of (z _ _ hd)) ?_ ?_⟩
    · rintro j x σ H1 hx ⟨v, u, rfl, sm⟩
      have hx' := List.mem_of_getElem? hx
      have ht1 := sm _ _ ht
      refine ⟨_, rfl, ta, rfl, ⟨_, SqL.of ht1⟩, fun D nD => lc_list (K := K) (a := ta) (xs := ts) (fun n H2 => Same H1 H2 ∧ H2 D = some (.lst ((List.replicate n true).map V.bl))) ⟨same_upd nD, upd_same⟩ (fun n H2 _ z => SqL.of (z.1 _ _ ht1)) ?_ ?_⟩
      · rintro n y H2 hy ⟨sm2, hD⟩
        have hnl : n < ts.length := (List.getElem?_eq_some_iff.mp hy).1
        have s02 := sm.trans sm2
        refine ⟨rfl, ⟨_, rfl, _, rfl, _, rfl, fa, x, y, i, spf, rfl, O, hi, fun Q' E' r => ask x hx' y (List.mem_of_getElem? hy) H2 Q' E' s02 r, fun H3 l sm3 nl hl => ?_⟩⟩
        refine ⟨_, rfl, l, ua, kb i, rfl, rfl, SqL.of hl, SqL.of (sm3 _ _ (s02 _ _ hu)), ?_⟩
        refine ⟨_, sm3 _ _ hD, ?_, same_new (sm2.trans sm3) nD, ?_⟩
        · rw [List.length_map, List.length_replicate, sizeLine_eq]
          omega
        · rw [upd_same, reps_snoc, List.map_append]
          rfl
      · rintro H2 ⟨sm2, hD⟩
        refine ⟨D, _, rfl, SqL.of hD, _, rfl, ?_⟩
        rw [reps_all]
        exact iteF ⟨_, _, rfl, sm.trans sm2⟩
    · rintro σ H1 ⟨v, u, rfl, sm⟩
      exact g H1 sm
end
end Tx
namespace TA
theorem not_step {k x : Int} (hk : 1 ≤ k) (j : Nat) (a : h k j < x) (b : x < h k (j + 1)) : ∀ i, x ≠ h k i := by
  intro i e
  have R := isRow hk
  by_cases c : i ≤ j
  · have := R.mono c
    omega
  · have := R.mono (show j + 1 ≤ i by omega)
    omega
theorem bad_step {k x : Int} {l : List Int} (hx : x ∈ l) (hk : 1 ≤ k) (j : Nat) (a : h k j < x) (b : x < h k (j + 1)) : ¬ (Gap k l ∧ Of (h k) l) := fun z => by
  obtain ⟨i, e⟩ := z.2 x hx
  exact not_step hk j a b i e
theorem bad_pos {k x : Int} {l : List Int} (hx : x ∈ l) (hk : 1 ≤ k) (a : x ≤ 0) : ¬ (Gap k l ∧ Of (h k) l) := fun z => by
  have h1 := isRow hk
  obtain ⟨i, e⟩ := z.2 x hx
  have := h1.pos i
  omega
theorem h_one : ∀ n : Nat, h 1 n = 2 ^ n
  | 0 => rfl
  | n + 1 => by
    have R := isRow (k := 1) (by decide)
    have e : p 1 n = n := by
      have h1 := R.ge n
      have h2 := R.le n
      by_cases c : p 1 n = n
      · exact c
      · have := R.smono (show p 1 n < n by omega)
        omega
    rw [R.s n, e, h_one n, Int.pow_succ]
    omega
end TA
namespace Tx
open PySem PySem.Spec PyProof.Rows L2 L2H Tk TA
theorem fm {α : Type} {P : α → Prop} {a : α} {l : List α} (h : P a) (r : ∀ x ∈ l, P x) : ∀ x ∈ a :: l, P x := List.forall_mem_cons.mpr ⟨h, r⟩
theorem fn {α : Type} {P : α → Prop} : ∀ x ∈ ([] : List α), P x := fun _ h => nomatch h
theorem fa {α : Type} {P : α → Prop} {l r : List α} (h : ∀ x ∈ l, P x) (h2 : ∀ x ∈ r, P x) : ∀ x ∈ l ++ r, P x := List.forall_mem_append.mpr ⟨h, h2⟩
def strangeL (far : Int) (p2 p3 p4 : Addr) : List V := [.non, .str "1", .bl true, .bl false, .ref p2, .ref p3, .ref p4, .int (-1), .int (-1 - far)]
theorem bad_sum {k : Int} {H : Hp} {a : Addr} (l : List Int) (e : H a = some (.lst (l.map V.int))) (len : l.length ≤ 1000) (bad : ¬ (Gap k l ∧ Of (h k) l)) (lt : ∀ x ∈ l, x < 2 ^ 300) : BadS k H (.ref a) := .sum e len lt bad
theorem door5 : ∀ x ∈ ([.int 0, .int 1, .int 2, .int 3, .int 4] : List V), ∃ i : Int, x = .int i ∧ 0 ≤ i ∧ i < 5 := fm ⟨_, rfl, by decide, by decide⟩ (fm ⟨_, rfl, by decide, by decide⟩ (fm ⟨_, rfl, by decide, by decide⟩ (fm ⟨_, rfl, by decide, by decide⟩ (fm ⟨_, rfl, by decide, by decide⟩ fn))))
theorem door3 : ∀ x ∈ ([.int 0, .int 1, .int 2] : List V), ∃ i : Int, x = .int i ∧ 0 ≤ i ∧ i < 3 := fm ⟨_, rfl, by decide, by decide⟩ (fm ⟨_, rfl, by decide, by decide⟩ (fm ⟨_, rfl, by decide, by decide⟩ fn))
theorem door2 : ∀ x ∈ ([.int 0, .int 1] : List V), ∃ i : Int, x = .int i ∧ 0 ≤ i ∧ i < 2 := fm ⟨_, rfl, by decide, by decide⟩ (fm ⟨_, rfl, by decide, by decide⟩ fn)
theorem kb_of : ∀ i : Nat, i < 6 → ([.bl (decide (V.int (0 + (i : Int)) = V.int 0)), .bl (decide (V.int (0 + (i : Int)) = V.int 1)), .bl (decide (V.int (0 + (i : Int)) = V.int 2)), .bl (decide (V.int (0 + (i : Int)) = V.int 3)), .bl (decide (V.int (0 + (i : Int)) = V.int 4)), .bl (decide (V.int (0 + (i : Int)) = V.int 5)), .bl true] : List V) = (kb i).map V.bl := by
  intro i hi
  rcases (show i = 0 ∨ i = 1 ∨ i = 2 ∨ i = 3 ∨ i = 4 ∨ i = 5 by omega) with rfl | rfl | rfl | rfl | rfl | rfl <;> simp [kb]
section
variable {P : Program} {w : World} {K : PySem.W.Frag} {mg : Str → Option Value} {base : Heap} {CTakeError CBadFactor CBadHeap CBadLimit CBadNumber CBadSum CBadTaking CSteps CLost CWon : Addr}
def sp_law (K : PySem.W.Frag) : Sp := fun vs H Q _ => ∃ (a : Addr) (B : Nat), vs = [.ref a] ∧ Scr K H a B ∧ B ≤ 2000000 ∧ ∀ H' : Hp, Q (.bl true) H'
theorem ok_law (T : Txt K mg CTakeError CBadFactor CBadHeap CBadLimit CBadNumber CBadSum CBadTaking CSteps CLost CWon) {f : Addr} {fd : FuncData} (F : Fun K "law" "law" s_law f fd) : FnOk P w K mg base CX0 60 f fd ["_law_script"] (sp_law K) := by
  have G__law_cell_at : OkG P w K mg base CX0 1 "_law_cell_at" (sp_cell_at K) := ok_cell_at T
  have G__law_value : OkG P w K mg base CX0 2 "_law_value" sp_value := ok_value T
  have G__law_factor : OkG P w K mg base CX0 2 "_law_factor" (sp_factor K) := ok_factor T
  have G__law_told : OkG P w K mg base CX0 7 "_law_told" (sp_told1 P w K mg base CBadFactor CBadHeap CBadLimit CBadNumber CBadSum CBadTaking) := ok_told1 T
  have G__law_all : OkG P w K mg base CX0 8 "_law_all" (sp_all P w K mg base CBadFactor CBadHeap CBadLimit CBadNumber CBadSum CBadTaking) := ok_all T
  have G_behind : OkG P w K mg base (L2N.CX P w) 4 "behind" (sp_behind CBadFactor CBadHeap CBadLimit CBadTaking) := ok_behind T
  have G_whole : OkG P w K mg base (L2N.CX P w) 5 "whole" (sp_whole CBadFactor CBadSum) := ok_whole T
  have G_step_by : OkG P w K mg base (L2N.CX P w) 3 "step_by" (sp_step_by CBadFactor CBadNumber) := ok_step_by T
  obtain ⟨f__law_with_factor, _, e__law_with_factor, _⟩ := T.D__law_with_factor
  obtain ⟨f__law_with_heap, _, e__law_with_heap, _⟩ := T.D__law_with_heap
  obtain ⟨f__law_with_limit, _, e__law_with_limit, _⟩ := T.D__law_with_limit
  obtain ⟨f__law_with_number, _, e__law_with_number, _⟩ := T.D__law_with_number
  obtain ⟨f__law_with_sum, _, e__law_with_sum, _⟩ := T.D__law_with_sum
  obtain ⟨f__law_with_taking, _, e__law_with_taking, _⟩ := T.D__law_with_taking
  have OF : HeldN P w K mg base 6 f__law_with_factor (sp_with_factor CBadFactor) := (ok_with_factor T).held (by decide) e__law_with_factor
  have OH : HeldN P w K mg base 6 f__law_with_heap (sp_with_heap CBadHeap) := (ok_with_heap T).held (by decide) e__law_with_heap
  have OL : HeldN P w K mg base 6 f__law_with_limit (sp_with_limit CBadLimit) := (ok_with_limit T).held (by decide) e__law_with_limit
  have ON : HeldN P w K mg base 6 f__law_with_number (sp_with_number CBadNumber) := (ok_with_number T).held (by decide) e__law_with_number
  have OS : HeldN P w K mg base 6 f__law_with_sum (sp_with_sum CBadSum) := (ok_with_sum T).held (by decide) e__law_with_sum
  have OT : HeldN P w K mg base 6 f__law_with_taking (sp_with_taking K CBadTaking) := (ok_with_taking T).held (by decide) e__law_with_taking
  refine F.ok sc_law (fun vs H Q E h => ?_) (fun cdv A outer s H vs Q E hr h => ?_)
  · obtain ⟨a, B, rfl, _⟩ := h
    rfl
  · obtain ⟨a, B, rfl, S0, hB, g⟩ := h
    refine ⟨_, (pss_cons (ps_set (i := 1) sc_law.nd rfl (by first | exact Or.inl rfl | exact Or.inr rfl) (pe_callO G__law_value (hr.mono (by first | decide | exact Nat.le_refl _)) (by rfl) pass0 (pa_cons (pe_callO G__law_cell_at (hr.mono (by first | decide | exact Nat.le_refl _)) (by rfl) pass0 (pa_cons (pv 0) (pa_cons pe_int pa_nil))) (pa_cons pe_int (pa_cons pe_int pa_nil)))))
      (pss_cons (ps_set (i := 2) sc_law.nd rfl (by first | exact Or.inl rfl | exact Or.inr rfl) (pe_lst pa_nil))
      (pss_cons (ps_for PassesOwn.never rfl (pi_range1 (by rfl) T.b_range (pa_cons pe_int pa_nil)) (pg_name (i := 3) sc_law.nd rfl (by first | exact Or.inl rfl | exact Or.inr rfl)) (pss_one (ps_expr (pe_bm PySem.F.plainAttrs_list PySem.F.slot_list_append PySem.F.type_list_append mt_append (pv 2) (pa_cons (pe_lst (pa_cons (pe_cmpR op_eq (pv 3) pe_int (nomark _)) (pa_cons (pe_cmpR op_eq (pv 3) pe_int (nomark _)) (pa_cons (pe_cmpR op_eq (pv 3) pe_int (nomark _)) (pa_cons (pe_cmpR op_eq (pv 3) pe_int (nomark _)) (pa_cons (pe_cmpR op_eq (pv 3) pe_int (nomark _)) (pa_cons (pe_cmpR op_eq (pv 3) pe_int (nomark _)) (pa_cons pe_bl pa_nil)))))))) pa_nil)))))
      (pss_cons (ps_set (i := 4) sc_law.nd rfl (by first | exact Or.inl rfl | exact Or.inr rfl) (pe_lst (pa_cons pe_non (pa_cons pe_str (pa_cons pe_bl (pa_cons pe_bl (pa_cons (pe_lst (pa_cons pe_int pa_nil)) (pa_cons (pe_tup (pa_cons pe_int pa_nil)) (pa_cons pe_dnewT (pa_cons (pe_un un_neg pe_int) (pa_cons (pe_op op_sub (pe_un un_neg pe_int) (pv 1)) pa_nil)))))))))))
      (pss_cons (ps_if (pt_not (pt_val (pe_callO G__law_all (hr.mono (by first | decide | exact Nat.le_refl _)) (by rfl) pass0 (pa_cons (pe_glob (v := .ref f__law_with_factor) (by rfl) e__law_with_factor rfl) (pa_cons (pe_lst (pa_cons pe_int (pa_cons pe_int (pa_cons pe_int (pa_cons pe_int (pa_cons pe_int pa_nil)))))) (pa_cons (pe_op op_cat (pv 4) (pe_lst (pa_cons pe_int (pa_cons pe_int (pa_cons (pe_op op_add pe_int (pv 1)) pa_nil))))) (pa_cons (pe_ix ix_list (pv 2) pe_int (fun _ _ => rfl)) pa_nil))))))) (pss_one (ps_ret pe_bl)) pss_nil)
      (pss_cons (ps_if (pt_not (pt_val (pe_callO G__law_all (hr.mono (by first | decide | exact Nat.le_refl _)) (by rfl) pass0 (pa_cons (pe_glob (v := .ref f__law_with_heap) (by rfl) e__law_with_heap rfl) (pa_cons (pe_lst (pa_cons pe_int (pa_cons pe_int (pa_cons pe_int pa_nil)))) (pa_cons (pv 4) (pa_cons (pe_ix ix_list (pv 2) pe_int (fun _ _ => rfl)) pa_nil))))))) (pss_one (ps_ret pe_bl)) pss_nil)
      (pss_cons (ps_if (pt_not (pt_val (pe_callO G__law_all (hr.mono (by first | decide | exact Nat.le_refl _)) (by rfl) pass0 (pa_cons (pe_glob (v := .ref f__law_with_limit) (by rfl) e__law_with_limit rfl) (pa_cons (pe_lst (pa_cons pe_int (pa_cons pe_int pa_nil))) (pa_cons (pv 4) (pa_cons (pe_ix ix_list (pv 2) pe_int (fun _ _ => rfl)) pa_nil))))))) (pss_one (ps_ret pe_bl)) pss_nil)
      (pss_cons (ps_if (pt_not (pt_val (pe_callO G__law_all (hr.mono (by first | decide | exact Nat.le_refl _)) (by rfl) pass0 (pa_cons (pe_glob (v := .ref f__law_with_number) (by rfl) e__law_with_number rfl) (pa_cons (pe_lst (pa_cons pe_int (pa_cons pe_int pa_nil))) (pa_cons (pe_op op_cat (pv 4) (pe_lst (pa_cons pe_int (pa_cons (pe_op op_add pe_int (pv 1)) pa_nil)))) (pa_cons (pe_ix ix_list (pv 2) pe_int (fun _ _ => rfl)) pa_nil))))))) (pss_one (ps_ret pe_bl)) pss_nil)
      (pss_cons (ps_set (i := 5) sc_law.nd rfl (by first | exact Or.inl rfl | exact Or.inr rfl) (pe_lst (pa_cons pe_non (pa_cons (pe_tup pa_nil) (pa_cons (pe_tup (pa_cons pe_int (pa_cons pe_int pa_nil))) (pa_cons pe_str (pa_cons pe_dnewT (pa_cons pe_int (pa_cons (pe_lst (pa_cons pe_non pa_nil)) (pa_cons (pe_lst (pa_cons pe_str pa_nil)) (pa_cons (pe_lst (pa_cons pe_bl pa_nil)) (pa_cons (pe_lst (pa_cons pe_int pa_nil)) (pa_cons (pe_lst (pa_cons pe_int (pa_cons pe_int pa_nil))) (pa_cons (pe_lst (pa_cons (pe_un un_neg pe_int) pa_nil)) (pa_cons (pe_lst (pa_cons pe_int (pa_cons (pe_op op_sub (pe_un un_neg pe_int) (pv 1)) pa_nil))) (pa_cons (pe_lst (pa_cons pe_int pa_nil)) (pa_cons (pe_lst (pa_cons pe_int pa_nil)) pa_nil)))))))))))))))))
      (pss_cons (ps_set (i := 5) sc_law.nd rfl (by first | exact Or.inl rfl | exact Or.inr rfl) (pe_op op_cat (pv 5) (pe_lst (pa_cons (pe_lst (pa_cons pe_int (pa_cons pe_int pa_nil))) (pa_cons (pe_lst (pa_cons pe_int (pa_cons pe_int pa_nil))) (pa_cons (pe_lst (pa_cons pe_int (pa_cons pe_int pa_nil))) (pa_cons (pe_lst (pa_cons pe_int (pa_cons pe_int pa_nil))) (pa_cons (pe_lst (pa_cons pe_int (pa_cons pe_int pa_nil))) (pa_cons (pe_lst (pa_cons pe_int (pa_cons pe_int pa_nil))) (pa_cons (pe_lst (pa_cons pe_int (pa_cons pe_int (pa_cons pe_int pa_nil)))) (pa_cons (pe_lst (pa_cons pe_int (pa_cons pe_int (pa_cons pe_bl pa_nil)))) (pa_cons (pe_lst (pa_cons pe_int (pa_cons pe_int pa_nil))) (pa_cons (pe_lst (pa_cons (pe_op op_pow pe_int pe_int) (pa_cons pe_int pa_nil))) pa_nil)))))))))))))
      (pss_cons (ps_set (i := 5) sc_law.nd rfl (by first | exact Or.inl rfl | exact Or.inr rfl) (pe_op op_cat (pv 5) (pe_lst (pa_cons (pe_lst (pa_cons (pe_lst (pa_cons pe_int pa_nil)) pa_nil)) (pa_cons (pe_lst (pa_cons pe_int (pa_cons pe_int (pa_cons pe_int pa_nil)))) pa_nil)))))
      (pss_cons (ps_if (pt_not (pt_val (pe_callO G__law_all (hr.mono (by first | decide | exact Nat.le_refl _)) (by rfl) pass0 (pa_cons (pe_glob (v := .ref f__law_with_sum) (by rfl) e__law_with_sum rfl) (pa_cons (pe_lst (pa_cons pe_int pa_nil)) (pa_cons (pv 5) (pa_cons (pe_ix ix_list (pv 2) pe_int (fun _ _ => rfl)) pa_nil))))))) (pss_one (ps_ret pe_bl)) pss_nil)
      (pss_cons (ps_if (pt_not (pt_val (pe_callO G__law_all (hr.mono (by first | decide | exact Nat.le_refl _)) (by rfl) pass0 (pa_cons (pe_glob (v := .ref f__law_with_sum) (by rfl) e__law_with_sum rfl) (pa_cons (pe_lst (pa_cons pe_int pa_nil)) (pa_cons (pe_lst (pa_cons (pe_lst (pa_cons pe_int (pa_cons pe_int pa_nil))) (pa_cons (pe_lst (pa_cons pe_int (pa_cons pe_int pa_nil))) (pa_cons (pe_lst (pa_cons pe_int pa_nil)) (pa_cons (pe_lst (pa_cons pe_int pa_nil)) pa_nil))))) (pa_cons (pe_ix ix_list (pv 2) pe_int (fun _ _ => rfl)) pa_nil))))))) (pss_one (ps_ret pe_bl)) pss_nil)
      (pss_cons (ps_set (i := 6) sc_law.nd rfl (by first | exact Or.inl rfl | exact Or.inr rfl) (pe_callO G__law_factor (hr.mono (by first | decide | exact Nat.le_refl _)) (by rfl) pass0 (pa_cons (pv 0) (pa_cons pe_int pa_nil))))
      (pss_cons (ps_for PassesOwn.never rfl (pi_tup (pe_tup (pa_cons (pe_tup (pa_cons (pe_op op_add pe_int (pv 1)) (pa_cons pe_int pa_nil))) (pa_cons (pe_tup (pa_cons pe_int (pa_cons (pe_op op_add pe_int (pv 1)) pa_nil))) (pa_cons (pe_tup (pa_cons pe_int (pa_cons pe_int pa_nil))) (pa_cons (pe_tup (pa_cons pe_int (pa_cons pe_int pa_nil))) (pa_cons (pe_tup (pa_cons pe_int (pa_cons pe_int pa_nil))) pa_nil))))))) (pg_tup (by rfl) (pgs_cons (pg_name (i := 7) sc_law.nd rfl (by first | exact Or.inl rfl | exact Or.inr rfl)) (pgs_cons (pg_name (i := 8) sc_law.nd rfl (by first | exact Or.inl rfl | exact Or.inr rfl)) pgs_nil))) (pss_cons (ps_par (i := 9) (j := 10) rfl sc_law.nd rfl rfl (by decide) rfl rfl (pa_cons (pe_callB (call_min2 rfl) (by rfl) T.b_min (by decide +kernel) (pa_cons (pv 7) (pa_cons (pv 8) pa_nil))) (pa_cons (pe_tup (pa_cons (pv 6) (pa_cons (pv 7) (pa_cons (pv 8) pa_nil)))) pa_nil)) (by rfl))
      (pss_cons (ps_for PassesOwn.never rfl (pi_list (pe_op op_cat (pv 4) (pe_lst (pa_cons pe_int (pa_cons (pe_op op_add (pv 9) pe_int) (pa_cons (pe_op op_add (pe_op op_add (pv 9) pe_int) (pv 1)) pa_nil)))))) (pg_name (i := 11) sc_law.nd rfl (by first | exact Or.inl rfl | exact Or.inr rfl)) (pss_one (ps_if (pt_cmpR (r := rNeBs K) (op_neBs hr.units) (pe_callO G__law_told (hr.mono (by first | decide | exact Nat.le_refl _)) (by rfl) pass0 (pa_cons (pe_glob (v := .ref f__law_with_taking) (by rfl) e__law_with_taking rfl) (pa_cons (pv 10) (pa_cons (pv 11) pa_nil)))) (pe_ix ix_list (pv 2) pe_int (fun _ _ => rfl)) (nomark _)) (pss_one (ps_ret pe_bl)) pss_nil)))
      (pss_cons (ps_set (i := 12) sc_law.nd rfl (by first | exact Or.inl rfl | exact Or.inr rfl) (pe_tup (pa_cons (pe_op op_sub (pv 7) (pv 9)) (pa_cons (pe_op op_mulA (pv 6) (pv 9)) pa_nil))))
      (pss_one (ps_if (PW.pt (pw_and (pt_cmpR op_gt (pv 9) pe_int (nomark _)) (pw_and1 (pt_cmpR (op_neTs hr.units) (pe_callO G_behind (hr.mono (by first | decide | exact Nat.le_refl _)) (by rfl) passLN (pa_cons (pv 6) (pa_cons (pv 7) (pa_cons (pv 8) (pa_cons (pv 9) pa_nil))))) (pv 12) (nomark _))))) (pss_one (ps_ret pe_bl)) pss_nil))))))
      (pss_one (ps_ret (pe_and (pe_cmpR op_eq (pe_callO G_whole (hr.mono (by first | decide | exact Nat.le_refl _)) (by rfl) passLN (pa_cons pe_int (pa_cons (pe_lst (pa_cons pe_int (pa_cons pe_int pa_nil))) pa_nil))) pe_int (nomark _)) (pe_and (pe_cmpR op_eq (pe_callO G_step_by (hr.mono (by first | decide | exact Nat.le_refl _)) (by rfl) passLN (pa_cons pe_int (pa_cons pe_int pa_nil))) (pe_op op_shl pe_int pe_int) (nomark _)) (pe_one (pe_cmpR op_eq (pe_callO G_step_by (hr.mono (by first | decide | exact Nat.le_refl _)) (by rfl) passLN (pa_cons pe_int (pa_cons pe_int pa_nil))) pe_int (nomark _)))))))))))))))))))))), ?_⟩
    refine ⟨_, rfl, a, 0, B, rfl, S0, (by decide), fun z hz => ⟨z, 3, 900000, B, rfl, hz, hB, (by decide), (by decide), (by decide), (by decide), fun far H1 far0 far1 s1 => ?_⟩⟩
    -- what is due
    refine ⟨(by show 0 ≤ sizeLine; decide), ?_⟩
    (intro p1 n1; generalize hG : upd H1 p1 _ = G1; have k1 : Same H1 G1 := (by rw [← hG]; exact same_upd n1); have e1 := (congrFun hG.symm p1).trans upd_same; clear hG)
    refine ⟨6, rfl, (by decide), (by decide), for_range (lo := 0) (n := 6) (fun i σ H' => ∃ (v : Option V) (as : List Addr), σ = [some (.ref a), some (.int far), some (.ref p1), v, none, none, none, none, none, none, none, none, none] ∧ Same H1 H' ∧ H' p1 = some (.lst (as.map V.ref)) ∧ as.length = i ∧ ∀ j, j < i → ∃ b, as[j]? = some b ∧ b ≠ p1 ∧ H' b = some (.lst ((kb j).map V.bl)))
      ⟨none, [], rfl, k1, e1, rfl, fun j hj => absurd hj (Nat.not_lt_zero _)⟩ ?_ ?_⟩
    · rintro i σ H2 hi ⟨v, as, rfl, sm, hp, hl, hb⟩
      refine ⟨_, rfl, .inl ⟨rfl, _, SqL.of hp⟩, _, rfl, rfl, _, rfl, rfl, _, rfl, rfl, _, rfl, rfl, _, rfl, rfl, _, rfl, rfl, (by show 7 ≤ sizeLine; decide), ?_⟩
      (intro p2 n2; generalize hG : upd H2 p2 _ = G2; have k2 : Same H2 G2 := (by rw [← hG]; exact same_upd n2); have e2 := (congrFun hG.symm p2).trans upd_same; clear hG)
      have np : p2 ≠ p1 := (ne_of_none hp n2).symm
      refine ⟨p1, _, _, rfl, rfl, k2 _ _ hp, ?_, ?_⟩
      · rw [List.length_map, sizeLine_eq]
        omega
      · refine ⟨_, as ++ [p2], rfl, same_new (sm.trans k2) n1, ?_, ?_, fun j hj => ?_⟩
        · rw [upd_same, List.map_append]
          rfl
        · rw [List.length_append, hl]
          rfl
        · by_cases c : j = i
          · subst c
            refine ⟨p2, ?_, np, ?_⟩
            · rw [List.getElem?_append_right (by omega), hl, Nat.sub_self]
              rfl
            · rw [upd_ne np, ← kb_of j hi]
              exact e2
          · obtain ⟨b, b1, b2, b3⟩ := hb j (by omega)
            refine ⟨b, ?_, b2, ?_⟩
            · rw [List.getElem?_append_left (by omega)]
              exact b1
            · rw [upd_ne b2]
              exact k2 _ _ b3
    · rintro σ GD ⟨v3, as, rfl, smD, hdue, hlen, hbs⟩
      have due : ∀ j : Nat, j < 6 → ∃ b, (as.map V.ref)[j]? = some (.ref b) ∧ GD b = some (.lst ((kb j).map V.bl)) := fun j hj => by
        obtain ⟨b, b1, _, b3⟩ := hbs j hj
        exact ⟨b, by rw [List.getElem?_map, b1]; rfl, b3⟩
      obtain ⟨b0, d0, hb0⟩ := due 0 (by decide)
      obtain ⟨b1, d1, hb1⟩ := due 1 (by decide)
      obtain ⟨b2, d2, hb2⟩ := due 2 (by decide)
      obtain ⟨b3, d3, hb3⟩ := due 3 (by decide)
      obtain ⟨b4, d4, hb4⟩ := due 4 (by decide)
      obtain ⟨b5, d5, hb5⟩ := due 5 (by decide)
      -- what is strange
      refine ⟨(by show 1 ≤ sizeLine; decide), ?_⟩
      (intro p2 n2; generalize hG : upd GD p2 _ = G2; have k2 : Same GD G2 := (by rw [← hG]; exact same_upd n2); have e2 := (congrFun hG.symm p2).trans upd_same; clear hG)
      refine ⟨(by show 1 ≤ sizeLine; decide), ?_⟩
      (intro p3 n3; generalize hG : upd G2 p3 _ = G3; have k3 : Same G2 G3 := (by rw [← hG]; exact same_upd n3); have e3 := (congrFun hG.symm p3).trans upd_same; clear hG)
      (intro p4 n4; generalize hG : upd G3 p4 _ = G4; have k4 : Same G3 G4 := (by rw [← hG]; exact same_upd n4); have e4 := (congrFun hG.symm p4).trans upd_same; clear hG)
      refine ⟨_, rfl, _, rfl, _, rfl, _, _, rfl, rfl, (by show 9 ≤ sizeLine; decide), ?_⟩
      (intro p5 n5; generalize hG : upd G4 p5 _ = G5; have k5 : Same G4 G5 := (by rw [← hG]; exact same_upd n5); have e5 := (congrFun hG.symm p5).trans upd_same; clear hG)
      have q5 : Same GD G5 := k2.trans (k3.trans (k4.trans k5))
      have hst : ∀ G, Same G5 G → ∀ x ∈ strangeL far p2 p3 p4, Strange G x := fun G s => by
        have s4 := k5.trans s
        have s3 := k4.trans s4
        have s2 := k3.trans s3
        exact fm .non (fm (.str _) (fm (.bl _) (fm (.bl _) (fm (.lst (s2 _ _ e2)) (fm (.tup (s3 _ _ e3)) (fm (.dT (s4 _ _ e4)) (fm (.neg (by decide)) (fm (.neg (by omega)) fn))))))))
      change G5 p5 = some (.lst (strangeL far p2 p3 p4)) at e5
      have slen : (strangeL far p2 p3 p4).length = 9 := rfl
      -- no factor
      refine ⟨(by show 5 ≤ sizeLine; decide), ?_⟩
      (intro p6 n6; generalize hG : upd G5 p6 _ = G6; have k6 : Same G5 G6 := (by rw [← hG]; exact same_upd n6); have e6 := (congrFun hG.symm p6).trans upd_same; clear hG)
      refine ⟨_, rfl, _, rfl, _, _, rfl, rfl, (by show 3 ≤ sizeLine; decide), ?_⟩
      (intro p7 n7; generalize hG : upd G6 p7 _ = G7; have k7 : Same G6 G7 := (by rw [← hG]; exact same_upd n7); have e7 := (congrFun hG.symm p7).trans upd_same; clear hG)
      refine ⟨p5, p7, _, _, rfl, rfl, k7 _ _ (k6 _ _ e5), e7, (by show 9 + 3 ≤ sizeLine; decide), ?_⟩
      (intro p8 n8; generalize hG : upd G7 p8 _ = G8; have k8 : Same G7 G8 := (by rw [← hG]; exact same_upd n8); have e8 := (congrFun hG.symm p8).trans upd_same; clear hG)
      have q8 : Same G5 G8 := k6.trans (k7.trans k8)
      refine ⟨_, rfl, p1, _, 0, .ref b0, rfl, rfl, SqL.of (q8 _ _ (q5 _ _ hdue)), atI_nat d0, ?_⟩
      refine ⟨f__law_with_factor, p6, p8, b0, _, _, 0, _, rfl, OF, (by decide), k8 _ _ (k7 _ _ e6), e8, (by show 12 ≤ 1000; decide), q8 _ _ (q5 _ _ hb0), ?_, fun G9 s9 => ⟨_, rfl, iteF ?_⟩⟩
      · intro x hx y hy H' Q' E' sm r
        obtain ⟨i, rfl, i0, i5⟩ := door5 x hx
        exact ⟨i, y, rfl, i0, i5, fa (fun y hy => .inr (hst H' (q8.trans sm) y hy)) (fm (.inl ⟨_, rfl, by decide, by omega⟩) (fm (.inl ⟨_, rfl, by decide, by omega⟩) (fm (.inl ⟨_, rfl, by omega, by omega⟩) fn))) y hy, r⟩
      have q9 : Same G5 G9 := q8.trans s9
      -- no heap
      refine ⟨(by show 3 ≤ sizeLine; decide), ?_⟩
      (intro p10 n10; generalize hG : upd G9 p10 _ = G10; have k10 : Same G9 G10 := (by rw [← hG]; exact same_upd n10); have e10 := (congrFun hG.symm p10).trans upd_same; clear hG)
      have q10 : Same G5 G10 := q9.trans k10
      refine ⟨_, rfl, _, rfl, p1, _, 1, .ref b1, rfl, rfl, SqL.of (q10 _ _ (q5 _ _ hdue)), atI_nat d1, ?_⟩
      refine ⟨f__law_with_heap, p10, p5, b1, _, _, 1, _, rfl, OH, (by decide), e10, q10 _ _ e5, (by show 9 ≤ 1000; decide), q10 _ _ (q5 _ _ hb1), ?_, fun G11 s11 => ⟨_, rfl, iteF ?_⟩⟩
      · intro x hx y hy H' Q' E' sm r
        obtain ⟨i, rfl, i0, i5⟩ := door3 x hx
        exact ⟨i, y, rfl, i0, i5, hst H' (q10.trans sm) y hy, r⟩
      have q11 : Same G5 G11 := q10.trans s11
      -- no limit
      refine ⟨(by show 2 ≤ sizeLine; decide), ?_⟩
      (intro p12 n12; generalize hG : upd G11 p12 _ = G12; have k12 : Same G11 G12 := (by rw [← hG]; exact same_upd n12); have e12 := (congrFun hG.symm p12).trans upd_same; clear hG)
      have q12 : Same G5 G12 := q11.trans k12
      refine ⟨_, rfl, _, rfl, p1, _, 2, .ref b2, rfl, rfl, SqL.of (q12 _ _ (q5 _ _ hdue)), atI_nat d2, ?_⟩
      refine ⟨f__law_with_limit, p12, p5, b2, _, _, 2, _, rfl, OL, (by decide), e12, q12 _ _ e5, (by show 9 ≤ 1000; decide), q12 _ _ (q5 _ _ hb2), ?_, fun G13 s13 => ⟨_, rfl, iteF ?_⟩⟩
      · intro x hx y hy H' Q' E' sm r
        obtain ⟨i, rfl, i0, i5⟩ := door2 x hx
        exact ⟨i, y, rfl, i0, i5, hst H' (q12.trans sm) y hy, r⟩
      have q13 : Same G5 G13 := q12.trans s13
      -- no number
      refine ⟨(by show 2 ≤ sizeLine; decide), ?_⟩
      (intro p14 n14; generalize hG : upd G13 p14 _ = G14; have k14 : Same G13 G14 := (by rw [← hG]; exact same_upd n14); have e14 := (congrFun hG.symm p14).trans upd_same; clear hG)
      refine ⟨_, rfl, _, rfl, _, _, rfl, rfl, (by show 2 ≤ sizeLine; decide), ?_⟩
      (intro p15 n15; generalize hG : upd G14 p15 _ = G15; have k15 : Same G14 G15 := (by rw [← hG]; exact same_upd n15); have e15 := (congrFun hG.symm p15).trans upd_same; clear hG)
      refine ⟨p5, p15, _, _, rfl, rfl, k15 _ _ (k14 _ _ (q13 _ _ e5)), e15, (by show 9 + 2 ≤ sizeLine; decide), ?_⟩
      (intro p16 n16; generalize hG : upd G15 p16 _ = G16; have k16 : Same G15 G16 := (by rw [← hG]; exact same_upd n16); have e16 := (congrFun hG.symm p16).trans upd_same; clear hG)
      have q16 : Same G5 G16 := q13.trans (k14.trans (k15.trans k16))
      refine ⟨_, rfl, p1, _, 3, .ref b3, rfl, rfl, SqL.of (q16 _ _ (q5 _ _ hdue)), atI_nat d3, ?_⟩
      refine ⟨f__law_with_number, p14, p16, b3, _, _, 3, _, rfl, ON, (by decide), k16 _ _ (k15 _ _ e14), e16, (by show 11 ≤ 1000; decide), q16 _ _ (q5 _ _ hb3), ?_, fun G17 s17 => ⟨_, rfl, iteF ?_⟩⟩
      · intro x hx y hy H' Q' E' sm r
        obtain ⟨i, rfl, i0, i5⟩ := door2 x hx
        exact ⟨i, y, rfl, i0, i5, fa (fun y hy => .inr (hst H' (q16.trans sm) y hy)) (fm (.inl ⟨_, rfl, by decide⟩) (fm (.inl ⟨_, rfl, by omega⟩) fn)) y hy, r⟩
      have q17 : Same G5 G17 := q16.trans s17
      -- no sum
      refine ⟨(by show 0 ≤ sizeLine; decide), ?_⟩
      (intro p18 n18; generalize hG : upd G17 p18 _ = G18; have k18 : Same G17 G18 := (by rw [← hG]; exact same_upd n18); have e18 := (congrFun hG.symm p18).trans upd_same; clear hG)
      refine ⟨(by show 2 ≤ sizeLine; decide), ?_⟩
      (intro p19 n19; generalize hG : upd G18 p19 _ = G19; have k19 : Same G18 G19 := (by rw [← hG]; exact same_upd n19); have e19 := (congrFun hG.symm p19).trans upd_same; clear hG)
      (intro p20 n20; generalize hG : upd G19 p20 _ = G20; have k20 : Same G19 G20 := (by rw [← hG]; exact same_upd n20); have e20 := (congrFun hG.symm p20).trans upd_same; clear hG)
      refine ⟨(by show 1 ≤ sizeLine; decide), ?_⟩
      (intro p21 n21; generalize hG : upd G20 p21 _ = G21; have k21 : Same G20 G21 := (by rw [← hG]; exact same_upd n21); have e21 := (congrFun hG.symm p21).trans upd_same; clear hG)
      refine ⟨(by show 1 ≤ sizeLine; decide), ?_⟩
      (intro p22 n22; generalize hG : upd G21 p22 _ = G22; have k22 : Same G21 G22 := (by rw [← hG]; exact same_upd n22); have e22 := (congrFun hG.symm p22).trans upd_same; clear hG)
      refine ⟨(by show 1 ≤ sizeLine; decide), ?_⟩
      (intro p23 n23; generalize hG : upd G22 p23 _ = G23; have k23 : Same G22 G23 := (by rw [← hG]; exact same_upd n23); have e23 := (congrFun hG.symm p23).trans upd_same; clear hG)
      refine ⟨(by show 1 ≤ sizeLine; decide), ?_⟩
      (intro p24 n24; generalize hG : upd G23 p24 _ = G24; have k24 : Same G23 G24 := (by rw [← hG]; exact same_upd n24); have e24 := (congrFun hG.symm p24).trans upd_same; clear hG)
      refine ⟨(by show 2 ≤ sizeLine; decide), ?_⟩
      (intro p25 n25; generalize hG : upd G24 p25 _ = G25; have k25 : Same G24 G25 := (by rw [← hG]; exact same_upd n25); have e25 := (congrFun hG.symm p25).trans upd_same; clear hG)
      refine ⟨_, rfl, (by show 1 ≤ sizeLine; decide), ?_⟩
      (intro p26 n26; generalize hG : upd G25 p26 _ = G26; have k26 : Same G25 G26 := (by rw [← hG]; exact same_upd n26); have e26 := (congrFun hG.symm p26).trans upd_same; clear hG)
      refine ⟨_, rfl, _, rfl, _, _, rfl, rfl, (by show 2 ≤ sizeLine; decide), ?_⟩
      (intro p27 n27; generalize hG : upd G26 p27 _ = G27; have k27 : Same G26 G27 := (by rw [← hG]; exact same_upd n27); have e27 := (congrFun hG.symm p27).trans upd_same; clear hG)
      refine ⟨(by show 1 ≤ sizeLine; decide), ?_⟩
      (intro p28 n28; generalize hG : upd G27 p28 _ = G28; have k28 : Same G27 G28 := (by rw [← hG]; exact same_upd n28); have e28 := (congrFun hG.symm p28).trans upd_same; clear hG)
      refine ⟨(by show 1 ≤ sizeLine; decide), ?_⟩
      (intro p29 n29; generalize hG : upd G28 p29 _ = G29; have k29 : Same G28 G29 := (by rw [← hG]; exact same_upd n29); have e29 := (congrFun hG.symm p29).trans upd_same; clear hG)
      refine ⟨(by show 15 ≤ sizeLine; decide), ?_⟩
      (intro p30 n30; generalize hG : upd G29 p30 _ = G30; have k30 : Same G29 G30 := (by rw [← hG]; exact same_upd n30); have e30 := (congrFun hG.symm p30).trans upd_same; clear hG)
      refine ⟨_, rfl, (by show 2 ≤ sizeLine; decide), ?_⟩
      (intro p31 n31; generalize hG : upd G30 p31 _ = G31; have k31 : Same G30 G31 := (by rw [← hG]; exact same_upd n31); have e31 := (congrFun hG.symm p31).trans upd_same; clear hG)
      refine ⟨(by show 2 ≤ sizeLine; decide), ?_⟩
      (intro p32 n32; generalize hG : upd G31 p32 _ = G32; have k32 : Same G31 G32 := (by rw [← hG]; exact same_upd n32); have e32 := (congrFun hG.symm p32).trans upd_same; clear hG)
      refine ⟨(by show 2 ≤ sizeLine; decide), ?_⟩
      (intro p33 n33; generalize hG : upd G32 p33 _ = G33; have k33 : Same G32 G33 := (by rw [← hG]; exact same_upd n33); have e33 := (congrFun hG.symm p33).trans upd_same; clear hG)
      refine ⟨(by show 2 ≤ sizeLine; decide), ?_⟩
      (intro p34 n34; generalize hG : upd G33 p34 _ = G34; have k34 : Same G33 G34 := (by rw [← hG]; exact same_upd n34); have e34 := (congrFun hG.symm p34).trans upd_same; clear hG)
      refine ⟨(by show 2 ≤ sizeLine; decide), ?_⟩
      (intro p35 n35; generalize hG : upd G34 p35 _ = G35; have k35 : Same G34 G35 := (by rw [← hG]; exact same_upd n35); have e35 := (congrFun hG.symm p35).trans upd_same; clear hG)
      refine ⟨(by show 2 ≤ sizeLine; decide), ?_⟩
      (intro p36 n36; generalize hG : upd G35 p36 _ = G36; have k36 : Same G35 G36 := (by rw [← hG]; exact same_upd n36); have e36 := (congrFun hG.symm p36).trans upd_same; clear hG)
      refine ⟨(by show 3 ≤ sizeLine; decide), ?_⟩
      (intro p37 n37; generalize hG : upd G36 p37 _ = G37; have k37 : Same G36 G37 := (by rw [← hG]; exact same_upd n37); have e37 := (congrFun hG.symm p37).trans upd_same; clear hG)
      refine ⟨(by show 3 ≤ sizeLine; decide), ?_⟩
      (intro p38 n38; generalize hG : upd G37 p38 _ = G38; have k38 : Same G37 G38 := (by rw [← hG]; exact same_upd n38); have e38 := (congrFun hG.symm p38).trans upd_same; clear hG)
      refine ⟨(by show 2 ≤ sizeLine; decide), ?_⟩
      (intro p39 n39; generalize hG : upd G38 p39 _ = G39; have k39 : Same G38 G39 := (by rw [← hG]; exact same_upd n39); have e39 := (congrFun hG.symm p39).trans upd_same; clear hG)
      refine ⟨_, _, rfl, rfl, ⟨by decide, by decide, by decide⟩, (by show 2 ≤ sizeLine; decide), ?_⟩
      (intro p40 n40; generalize hG : upd G39 p40 _ = G40; have k40 : Same G39 G40 := (by rw [← hG]; exact same_upd n40); have e40 := (congrFun hG.symm p40).trans upd_same; clear hG)
      refine ⟨(by show 10 ≤ sizeLine; decide), ?_⟩
      (intro p41 n41; generalize hG : upd G40 p41 _ = G41; have k41 : Same G40 G41 := (by rw [← hG]; exact same_upd n41); have e41 := (congrFun hG.symm p41).trans upd_same; clear hG)
      refine ⟨p30, p41, _, _, rfl, rfl, k41 _ _ (k40 _ _ (k39 _ _ (k38 _ _ (k37 _ _ (k36 _ _ (k35 _ _ (k34 _ _ (k33 _ _ (k32 _ _ (k31 _ _ e30)))))))))), e41, (by show 15 + 10 ≤ sizeLine; decide), ?_⟩
      (intro p42 n42; generalize hG : upd G41 p42 _ = G42; have k42 : Same G41 G42 := (by rw [← hG]; exact same_upd n42); have e42 := (congrFun hG.symm p42).trans upd_same; clear hG)
      refine ⟨_, rfl, (by show 1 ≤ sizeLine; decide), ?_⟩
      (intro p43 n43; generalize hG : upd G42 p43 _ = G43; have k43 : Same G42 G43 := (by rw [← hG]; exact same_upd n43); have e43 := (congrFun hG.symm p43).trans upd_same; clear hG)
      refine ⟨(by show 1 ≤ sizeLine; decide), ?_⟩
      (intro p44 n44; generalize hG : upd G43 p44 _ = G44; have k44 : Same G43 G44 := (by rw [← hG]; exact same_upd n44); have e44 := (congrFun hG.symm p44).trans upd_same; clear hG)
      refine ⟨(by show 3 ≤ sizeLine; decide), ?_⟩
      (intro p45 n45; generalize hG : upd G44 p45 _ = G45; have k45 : Same G44 G45 := (by rw [← hG]; exact same_upd n45); have e45 := (congrFun hG.symm p45).trans upd_same; clear hG)
      refine ⟨(by show 2 ≤ sizeLine; decide), ?_⟩
      (intro p46 n46; generalize hG : upd G45 p46 _ = G46; have k46 : Same G45 G46 := (by rw [← hG]; exact same_upd n46); have e46 := (congrFun hG.symm p46).trans upd_same; clear hG)
      refine ⟨p42, p46, _, _, rfl, rfl, k46 _ _ (k45 _ _ (k44 _ _ (k43 _ _ e42))), e46, (by show 25 + 2 ≤ sizeLine; decide), ?_⟩
      (intro p47 n47; generalize hG : upd G46 p47 _ = G47; have k47 : Same G46 G47 := (by rw [← hG]; exact same_upd n47); have e47 := (congrFun hG.symm p47).trans upd_same; clear hG)
      refine ⟨(by show 1 ≤ sizeLine; decide), ?_⟩
      (intro p48 n48; generalize hG : upd G47 p48 _ = G48; have k48 : Same G47 G48 := (by rw [← hG]; exact same_upd n48); have e48 := (congrFun hG.symm p48).trans upd_same; clear hG)
      (have c48 : Same G48 G48 := Same.refl _; have c47 : Same G47 G48 := k48.trans c48; have c46 : Same G46 G48 := k47.trans c47; have c45 : Same G45 G48 := k46.trans c46; have c44 : Same G44 G48 := k45.trans c45; have c43 : Same G43 G48 := k44.trans c44; have c42 : Same G42 G48 := k43.trans c43; have c41 : Same G41 G48 := k42.trans c42; have c40 : Same G40 G48 := k41.trans c41; have c39 : Same G39 G48 := k40.trans c40; have c38 : Same G38 G48 := k39.trans c39; have c37 : Same G37 G48 := k38.trans c38; have c36 : Same G36 G48 := k37.trans c37; have c35 : Same G35 G48 := k36.trans c36; have c34 : Same G34 G48 := k35.trans c35; have c33 : Same G33 G48 := k34.trans c34; have c32 : Same G32 G48 := k33.trans c33; have c31 : Same G31 G48 := k32.trans c32; have c30 : Same G30 G48 := k31.trans c31; have c29 : Same G29 G48 := k30.trans c30; have c28 : Same G28 G48 := k29.trans c29; have c27 : Same G27 G48 := k28.trans c28; have c26 : Same G26 G48 := k27.trans c27; have c25 : Same G25 G48 := k26.trans c26; have c24 : Same G24 G48 := k25.trans c25; have c23 : Same G23 G48 := k24.trans c24; have c22 : Same G22 G48 := k23.trans c23; have c21 : Same G21 G48 := k22.trans c22; have c20 : Same G20 G48 := k21.trans c21; have c19 : Same G19 G48 := k20.trans c20; have c18 : Same G18 G48 := k19.trans c19; have c17 : Same G17 G48 := k18.trans c18)
      have q48 : Same G5 G48 := q17.trans c17
      refine ⟨_, rfl, _, rfl, p1, _, 4, .ref b4, rfl, rfl, SqL.of (q48 _ _ (q5 _ _ hdue)), atI_nat d4, ?_⟩
      refine ⟨f__law_with_sum, p48, p47, b4, _, _, 4, _, rfl, OS, (by decide), e48, c47 _ _ e47, (by show 27 ≤ 1000; decide), q48 _ _ (q5 _ _ hb4), ?_, fun G49 s49 => ⟨_, rfl, iteF ?_⟩⟩
      · intro x hx y hy H' Q' E' sm r
        obtain rfl : x = .int 2 := by simpa using hx
        refine ⟨2, y, rfl, by decide, by decide, ?_, r⟩
        clear hx r
        revert y
        have far300 : -1 - far < 2 ^ 300 := Int.lt_of_lt_of_le (show -1 - far < 1 by omega) (by decide)
        have x0 : BadS 2 H' _ := .not .non
        have x1 : BadS 2 H' _ := .not (.tup (sm _ _ (c18 _ _ e18)))
        have x2 : BadS 2 H' _ := .not (.tup (sm _ _ (c19 _ _ e19)))
        have x3 : BadS 2 H' _ := .not (.str "8")
        have x4 : BadS 2 H' _ := .not (.dT (sm _ _ (c20 _ _ e20)))
        have x5 : BadS 2 H' _ := .not (.int 5)
        have x6 : BadS 2 H' _ := .item (sm _ _ (c21 _ _ e21)) (Nat.le_of_ble_eq_true rfl) (fm (.inr .non) fn) ⟨_, List.mem_cons_self, .non⟩
        have x7 : BadS 2 H' _ := .item (sm _ _ (c22 _ _ e22)) (Nat.le_of_ble_eq_true rfl) (fm (.inr (.str _)) fn) ⟨_, List.mem_cons_self, .str _⟩
        have x8 : BadS 2 H' _ := .item (sm _ _ (c23 _ _ e23)) (Nat.le_of_ble_eq_true rfl) (fm (.inr (.bl _)) fn) ⟨_, List.mem_cons_self, .bl _⟩
        have x9 : BadS 2 H' _ := bad_sum [0] (sm _ _ (c24 _ _ e24)) (Nat.le_of_ble_eq_true rfl) (bad_pos (x := 0) List.mem_cons_self (by decide) (by decide)) (by decide)
        have x10 : BadS 2 H' _ := bad_sum [8, 0] (sm _ _ (c25 _ _ e25)) (Nat.le_of_ble_eq_true rfl) (bad_pos (x := 0) (List.mem_cons_of_mem _ List.mem_cons_self) (by decide) (by decide)) (by decide)
        have x11 : BadS 2 H' _ := bad_sum [-1] (sm _ _ (c26 _ _ e26)) (Nat.le_of_ble_eq_true rfl) (bad_pos (x := -1) List.mem_cons_self (by decide) (by decide)) (by decide)
        have x12 : BadS 2 H' _ := bad_sum [8, -1 - far] (sm _ _ (c27 _ _ e27)) (Nat.le_of_ble_eq_true rfl) (bad_pos (x := -1 - far) (List.mem_cons_of_mem _ List.mem_cons_self) (by decide) (by omega)) (fm (by decide) (fm far300 fn))
        have x13 : BadS 2 H' _ := bad_sum [4] (sm _ _ (c28 _ _ e28)) (Nat.le_of_ble_eq_true rfl) (bad_step (x := 4) List.mem_cons_self (by decide) 2 (by decide +kernel) (by decide +kernel)) (by decide)
        have x14 : BadS 2 H' _ := bad_sum [7] (sm _ _ (c29 _ _ e29)) (Nat.le_of_ble_eq_true rfl) (bad_step (x := 7) List.mem_cons_self (by decide) 3 (by decide +kernel) (by decide +kernel)) (by decide)
        have y0 : BadS 2 H' _ := bad_sum [8, 4] (sm _ _ (c31 _ _ e31)) (Nat.le_of_ble_eq_true rfl) (fun z => absurd z.1.1 (by decide)) (by decide)
        have y1 : BadS 2 H' _ := bad_sum [5, 8] (sm _ _ (c32 _ _ e32)) (Nat.le_of_ble_eq_true rfl) (fun z => absurd z.1.1 (by decide)) (by decide)
        have y2 : BadS 2 H' _ := bad_sum [8, 5] (sm _ _ (c33 _ _ e33)) (Nat.le_of_ble_eq_true rfl) (fun z => absurd z.1.1 (by decide)) (by decide)
        have y3 : BadS 2 H' _ := bad_sum [8, 8] (sm _ _ (c34 _ _ e34)) (Nat.le_of_ble_eq_true rfl) (fun z => absurd z.1.1 (by decide)) (by decide)
        have y4 : BadS 2 H' _ := bad_sum [3, 2] (sm _ _ (c35 _ _ e35)) (Nat.le_of_ble_eq_true rfl) (fun z => absurd z.1.1 (by decide)) (by decide)
        have y5 : BadS 2 H' _ := bad_sum [2, 1] (sm _ _ (c36 _ _ e36)) (Nat.le_of_ble_eq_true rfl) (fun z => absurd z.1.1 (by decide)) (by decide)
        have y6 : BadS 2 H' _ := bad_sum [13, 5, 3] (sm _ _ (c37 _ _ e37)) (Nat.le_of_ble_eq_true rfl) (fun z => absurd z.1.2.1 (by decide)) (by decide)
        have y7 : BadS 2 H' _ := .item (sm _ _ (c38 _ _ e38)) (Nat.le_of_ble_eq_true rfl) (fm (.inl ⟨8, rfl, by decide⟩) (fm (.inl ⟨3, rfl, by decide⟩) (fm (.inr (.bl _)) fn))) ⟨.bl false, (List.mem_cons_of_mem _ (List.mem_cons_of_mem _ List.mem_cons_self)), .bl _⟩
        have y8 : BadS 2 H' _ := bad_sum [6, 1] (sm _ _ (c39 _ _ e39)) (Nat.le_of_ble_eq_true rfl) (bad_step (x := 6) List.mem_cons_self (by decide) 3 (by decide +kernel) (by decide +kernel)) (by decide)
        have y9 : BadS 2 H' _ := bad_sum [10 ^ 40, 1] (sm _ _ (c40 _ _ e40)) (Nat.le_of_ble_eq_true rfl) (bad_step (x := 10 ^ 40) List.mem_cons_self (by decide) 191 (by decide +kernel) (by decide +kernel)) (by decide)
        have z0 : BadS 2 H' _ := .item (sm _ _ (c44 _ _ e44)) (Nat.le_of_ble_eq_true rfl) (fm (.inr (.lst (sm _ _ (c43 _ _ e43)))) fn) ⟨_, List.mem_cons_self, .lst (sm _ _ (c43 _ _ e43))⟩
        have z1 : BadS 2 H' _ := bad_sum [8, 2, 2] (sm _ _ (c45 _ _ e45)) (Nat.le_of_ble_eq_true rfl) (fun z => absurd z.1.2.1 (by decide)) (by decide)
        exact fa (fa (fm x0 (fm x1 (fm x2 (fm x3 (fm x4 (fm x5 (fm x6 (fm x7 (fm x8 (fm x9 (fm x10 (fm x11 (fm x12 (fm x13 (fm x14 fn))))))))))))))) (fm y0 (fm y1 (fm y2 (fm y3 (fm y4 (fm y5 (fm y6 (fm y7 (fm y8 (fm y9 fn))))))))))) (fm z0 (fm z1 fn))
      have q49 : Same G5 G49 := q48.trans s49
      -- by thirty
      refine ⟨(by show 1 ≤ sizeLine; decide), ?_⟩
      (intro p50 n50; generalize hG : upd G49 p50 _ = G50; have k50 : Same G49 G50 := (by rw [← hG]; exact same_upd n50); have e50 := (congrFun hG.symm p50).trans upd_same; clear hG)
      refine ⟨(by show 2 ≤ sizeLine; decide), ?_⟩
      (intro p51 n51; generalize hG : upd G50 p51 _ = G51; have k51 : Same G50 G51 := (by rw [← hG]; exact same_upd n51); have e51 := (congrFun hG.symm p51).trans upd_same; clear hG)
      refine ⟨(by show 2 ≤ sizeLine; decide), ?_⟩
      (intro p52 n52; generalize hG : upd G51 p52 _ = G52; have k52 : Same G51 G52 := (by rw [← hG]; exact same_upd n52); have e52 := (congrFun hG.symm p52).trans upd_same; clear hG)
      refine ⟨(by show 1 ≤ sizeLine; decide), ?_⟩
      (intro p53 n53; generalize hG : upd G52 p53 _ = G53; have k53 : Same G52 G53 := (by rw [← hG]; exact same_upd n53); have e53 := (congrFun hG.symm p53).trans upd_same; clear hG)
      refine ⟨(by show 1 ≤ sizeLine; decide), ?_⟩
      (intro p54 n54; generalize hG : upd G53 p54 _ = G54; have k54 : Same G53 G54 := (by rw [← hG]; exact same_upd n54); have e54 := (congrFun hG.symm p54).trans upd_same; clear hG)
      refine ⟨(by show 4 ≤ sizeLine; decide), ?_⟩
      (intro p55 n55; generalize hG : upd G54 p55 _ = G55; have k55 : Same G54 G55 := (by rw [← hG]; exact same_upd n55); have e55 := (congrFun hG.symm p55).trans upd_same; clear hG)
      (have c55 : Same G55 G55 := Same.refl _; have c54 : Same G54 G55 := k55.trans c55; have c53 : Same G53 G55 := k54.trans c54; have c52 : Same G52 G55 := k53.trans c53; have c51 : Same G51 G55 := k52.trans c52; have c50 : Same G50 G55 := k51.trans c51; have c49 : Same G49 G55 := k50.trans c50)
      have q55 : Same G5 G55 := q49.trans c49
      refine ⟨_, rfl, p1, _, 4, .ref b4, rfl, rfl, SqL.of (q55 _ _ (q5 _ _ hdue)), atI_nat d4, ?_⟩
      refine ⟨f__law_with_sum, p50, p55, b4, _, _, 4, _, rfl, OS, (by decide), c50 _ _ e50, e55, (by show 4 ≤ 1000; decide), q55 _ _ (q5 _ _ hb4), ?_, fun G56 s56 => ⟨_, rfl, iteF ?_⟩⟩
      · intro x hx y hy H' Q' E' sm r
        obtain rfl : x = .int 30 := by simpa using hx
        refine ⟨30, y, rfl, by decide, by decide, ?_, r⟩
        clear hx r
        revert y
        have x0 : BadS 30 H' _ := bad_sum [30, 1] (sm _ _ (c51 _ _ e51)) (Nat.le_of_ble_eq_true rfl) (fun z => absurd z.1.1 (by decide)) (by decide)
        have x1 : BadS 30 H' _ := bad_sum [2, 1] (sm _ _ (c52 _ _ e52)) (Nat.le_of_ble_eq_true rfl) (fun z => absurd z.1.1 (by decide)) (by decide)
        have x2 : BadS 30 H' _ := bad_sum [0] (sm _ _ (c53 _ _ e53)) (Nat.le_of_ble_eq_true rfl) (bad_pos (x := 0) List.mem_cons_self (by decide) (by decide)) (by decide)
        have x3 : BadS 30 H' _ := bad_sum [32] (sm _ _ (c54 _ _ e54)) (Nat.le_of_ble_eq_true rfl) (bad_step (x := 32) List.mem_cons_self (by decide) 30 (by decide +kernel) (by decide +kernel)) (by decide)
        exact fm x0 (fm x1 (fm x2 (fm x3 fn)))
      have q56 : Same G5 G56 := q55.trans s56
      have h56 : Same H G56 := s1.trans (smD.trans (q5.trans q56))
      -- takings
      refine ⟨_, rfl, a, 0, B, rfl, S0.same h56, (by decide), fun fac G57 f1 f30 s57 => ?_⟩
      have q57 : Same G5 G57 := q56.trans s57
      refine ⟨_, rfl, _, _, rfl, rfl, (by show 2 ≤ sizeLine; decide), ?_⟩
      (intro p58 n58; generalize hG : upd G57 p58 _ = G58; have k58 : Same G57 G58 := (by rw [← hG]; exact same_upd n58); have e58 := (congrFun hG.symm p58).trans upd_same; clear hG)
      refine ⟨_, rfl, _, _, rfl, rfl, (by show 2 ≤ sizeLine; decide), ?_⟩
      (intro p59 n59; generalize hG : upd G58 p59 _ = G59; have k59 : Same G58 G59 := (by rw [← hG]; exact same_upd n59); have e59 := (congrFun hG.symm p59).trans upd_same; clear hG)
      refine ⟨(by show 2 ≤ sizeLine; decide), ?_⟩
      (intro p60 n60; generalize hG : upd G59 p60 _ = G60; have k60 : Same G59 G60 := (by rw [← hG]; exact same_upd n60); have e60 := (congrFun hG.symm p60).trans upd_same; clear hG)
      refine ⟨(by show 2 ≤ sizeLine; decide), ?_⟩
      (intro p61 n61; generalize hG : upd G60 p61 _ = G61; have k61 : Same G60 G61 := (by rw [← hG]; exact same_upd n61); have e61 := (congrFun hG.symm p61).trans upd_same; clear hG)
      refine ⟨(by show 2 ≤ sizeLine; decide), ?_⟩
      (intro p62 n62; generalize hG : upd G61 p62 _ = G62; have k62 : Same G61 G62 := (by rw [← hG]; exact same_upd n62); have e62 := (congrFun hG.symm p62).trans upd_same; clear hG)
      refine ⟨(by show 5 ≤ sizeLine; decide), ?_⟩
      (intro p63 n63; generalize hG : upd G62 p63 _ = G63; have k63 : Same G62 G63 := (by rw [← hG]; exact same_upd n63); have e63 := (congrFun hG.symm p63).trans upd_same; clear hG)
      (have c63 : Same G63 G63 := Same.refl _; have c62 : Same G62 G63 := k63.trans c63; have c61 : Same G61 G63 := k62.trans c62; have c60 : Same G60 G63 := k61.trans c61; have c59 : Same G59 G63 := k60.trans c60; have c58 : Same G58 G63 := k59.trans c59; have c57 : Same G57 G63 := k58.trans c58)
      have hpair : ∀ x ∈ ([.ref p58, .ref p59, .ref p60, .ref p61, .ref p62] : List V), ∃ (t : Addr) (N L : Int), x = .ref t ∧ G63 t = some (.tup [.int N, .int L]) ∧ 0 ≤ N ∧ 0 ≤ L ∧ N < 2 ^ 150 ∧ L < 2 ^ 150 := by
        have h40 : (10 : Int) ^ 40 + 9 < 2 ^ 150 := by decide
        exact fm ⟨_, _, _, rfl, c58 _ _ e58, by omega, by decide, by omega, by decide⟩ (fm ⟨_, _, _, rfl, c59 _ _ e59, by decide, by omega, by decide, by omega⟩ (fm ⟨_, _, _, rfl, c60 _ _ e60, by decide, by decide, by decide, by decide⟩ (fm ⟨_, _, _, rfl, c61 _ _ e61, by decide, by decide, by decide, by decide⟩ (fm ⟨_, _, _, rfl, c62 _ _ e62, by decide, by decide, by decide, by decide⟩ fn))))
      have q63 : Same G5 G63 := q57.trans c57
      refine ⟨_, rfl, ⟨_, SqT.of e63⟩, for_tup (K := K) (a := p63) (xs := _) (fun i σ H' => ∃ u7 u8 u9 u10 u11 u12 : Option V, σ = [some (.ref a), some (.int far), some (.ref p1), v3, some (.ref p5), some (.ref p47), some (.int fac), u7, u8, u9, u10, u11, u12] ∧ Same G63 H')
        ⟨_, _, _, _, _, _, rfl, Same.refl _⟩ (fun i σ H' _ ⟨_, _, _, _, _, _, _, z⟩ => SqT.of (z _ _ e63)) ?_ ?_⟩
      · rintro i x σ J0 hx ⟨u7, u8, u9, u10, u11, u12, rfl, sJ⟩
        obtain ⟨t, N, L, rfl, ht, N0, L0, N1, L1⟩ := hpair x (List.mem_of_getElem? hx)
        refine ⟨t, _, rfl, SqT.of (sJ _ _ ht), rfl, _, _, rfl, _, _, rfl, rfl, ?_⟩
        refine ⟨_, rfl, _, rfl, _, _, rfl, ?_⟩
        generalize hm : (if L < N then L else N) = m
        have hm' : 0 ≤ m ∧ m ≤ N ∧ m ≤ L ∧ (m = N ∨ m = L) := by
          rw [← hm]
          split <;> omega
        clear hm
        obtain ⟨m0, mN, mL, mE⟩ := hm'
        refine ⟨_, rfl, _, rfl, _, rfl, (by show 3 ≤ sizeLine; decide), ?_⟩
        (intro p64 n64; generalize hG : upd J0 p64 _ = G64; have k64 : Same J0 G64 := (by rw [← hG]; exact same_upd n64); have e64 := (congrFun hG.symm p64).trans upd_same; clear hG)
        refine ⟨_, _, rfl, ?_⟩
        have qJ : Same G5 J0 := q63.trans sJ
        refine ⟨_, rfl, _, rfl, _, _, rfl, rfl, _, rfl, _, _, rfl, rfl, _, rfl, _, _, rfl, rfl, (by show 3 ≤ sizeLine; decide), ?_⟩
        (intro p65 n65; generalize hG : upd G64 p65 _ = G65; have k65 : Same G64 G65 := (by rw [← hG]; exact same_upd n65); have e65 := (congrFun hG.symm p65).trans upd_same; clear hG)
        refine ⟨p5, p65, _, _, rfl, rfl, k65 _ _ (k64 _ _ (qJ _ _ e5)), e65, (by show 9 + 3 ≤ sizeLine; decide), ?_⟩
        (intro p66 n66; generalize hG : upd G65 p66 _ = G66; have k66 : Same G65 G66 := (by rw [← hG]; exact same_upd n66); have e66 := (congrFun hG.symm p66).trans upd_same; clear hG)
        have q66 : Same G5 G66 := qJ.trans (k64.trans (k65.trans k66))
        have w66 : SqT K G66 p64 [.int fac, .int N, .int L] := SqT.of (k66 _ _ (k65 _ _ e64))
        refine ⟨_, rfl, ⟨_, SqL.of e66⟩, for_list (K := K) (a := p66) (xs := _) (fun i σ H' => ∃ u11 : Option V, σ = [some (.ref a), some (.int far), some (.ref p1), v3, some (.ref p5), some (.ref p47), some (.int fac), some (.int N), some (.int L), some (.int m), some (.ref p64), u11, u12] ∧ Same G66 H')
          ⟨_, rfl, Same.refl _⟩ (fun i σ H' _ ⟨_, _, z⟩ => SqL.of (z _ _ e66)) ?_ ?_⟩
        · rintro j y σ J1 hy ⟨u11', rfl, s66⟩
          have bad' : ∀ y ∈ strangeL far p2 p3 p4 ++ [.int 0, .int (m + 1), .int (m + 1 + far)], BadT J1 y N L := fa (fun y hy => .inr (hst J1 (q66.trans s66) y hy)) (fm (.inl ⟨_, rfl, by decide, by omega⟩) (fm (.inl ⟨_, rfl, by omega, by omega⟩) (fm (.inl ⟨_, rfl, by omega, by omega⟩) fn)))
          have bad := bad' y (List.mem_of_getElem? hy)
          refine ⟨_, rfl, _, rfl, f__law_with_taking, .ref p64, y, 5, _, rfl, OT, (by decide), fun Q' E' r => ⟨p64, fac, N, L, y, rfl, SqT.of (s66 _ _ (k66 _ _ (k65 _ _ e64))), f1, f30, N0, L0, bad, r⟩, fun J2 l s2 nl hl => ?_⟩
          have q2 : Same G5 J2 := q66.trans (s66.trans s2)
          refine ⟨_, rfl, p1, _, 5, .ref b5, rfl, rfl, SqL.of (q2 _ _ (q5 _ _ hdue)), atI_nat d5, l, b5, kb 5, rfl, rfl, SqL.of hl, SqL.of (q2 _ _ (q5 _ _ hb5)), _, rfl, iteF ?_⟩
          exact ⟨_, rfl, s66.trans s2⟩
        · rintro σ J1 ⟨u11', rfl, s66⟩
          refine ⟨_, rfl, _, rfl, _, _, rfl, rfl, _, rfl, _, rfl, _, _, rfl, rfl, mulOk_of (a := 20) (b := 150) (by omega) (by omega) (by decide), (by show 2 ≤ sizeLine; decide), ?_⟩
          (intro p67 n67; generalize hG : upd J1 p67 _ = G67; have k67 : Same J1 G67 := (by rw [← hG]; exact same_upd n67); have e67 := (congrFun hG.symm p67).trans upd_same; clear hG)
          have s67 : Same G63 G67 := sJ.trans (k64.trans (k65.trans (k66.trans (s66.trans k67))))
          refine ⟨_, rfl, _, _, rfl, rfl, _, rfl, ite2 (fun c => ?_) (fun c => ?_)⟩
          · have c := of_decide_eq_true c
            refine ⟨_, rfl, _, rfl, _, rfl, _, rfl, _, _, _, _, rfl, .inr ⟨⟨fac, rfl, f1, f30⟩, .inr ⟨⟨N, rfl, N0⟩, .inr ⟨⟨L, rfl, L0⟩, N, L, rfl, rfl, .inr ⟨m, rfl, by omega, mN, mL, fun k J2 t2 ek s2 nt2 ht2 => ?_⟩⟩⟩⟩⟩
            cases ek
            refine ⟨_, rfl, t2, p67, [N - m, fac * m], [N - m, fac * m], rfl, rfl, SqT.of ht2, SqT.of (s2 _ _ e67), _, rfl, iteNS rfl ?_⟩
            exact ⟨_, _, _, _, _, _, rfl, s67.trans s2⟩
          · exact ⟨_, _, _, _, _, _, rfl, s67⟩
      · rintro σ J0 ⟨u7, u8, u9, u10, u11, u12, rfl, sJ⟩
        refine ⟨(by show 2 ≤ sizeLine; decide), ?_⟩
        (intro p64 n64; generalize hG : upd J0 p64 _ = G64; have k64 : Same J0 G64 := (by rw [← hG]; exact same_upd n64); have e64 := (congrFun hG.symm p64).trans upd_same; clear hG)
        refine ⟨_, _, rfl, .inr ⟨⟨30, rfl, by decide, by decide⟩, 30, rfl, .inr ⟨p64, [31, 1], rfl, e64, by decide, by decide, ⟨by decide, trivial⟩, fm ⟨30, by decide +kernel⟩ (fm ⟨0, by decide +kernel⟩ fn), fun J1 s1 => ?_⟩⟩⟩
        refine ⟨rfl, _, rfl, iteY (by decide) ?_⟩
        refine ⟨_, _, rfl, .inr ⟨⟨1, rfl, by decide, by decide⟩, .inr ⟨3000, rfl, by decide, by decide, fun k J2 ek s2 => ?_⟩⟩⟩
        cases ek
        refine ⟨_, _, rfl, rfl, ⟨by decide, by decide, by decide⟩, rfl, _, rfl, ?_⟩
        have e2 : (decide (V.int (h 1 (3000 : Int).toNat) = V.int (1 * 2 ^ (3000 : Int).toNat))) = true := by
          rw [h_one, Int.one_mul]
          exact decide_eq_true rfl
        rw [e2]
        refine iteT ⟨_, _, rfl, .inr ⟨⟨30, rfl, by decide, by decide⟩, .inr ⟨0, rfl, by decide, by decide, fun k J3 ek s3 => ?_⟩⟩⟩
        cases ek
        exact ⟨rfl, g J3⟩
end
end Tx
namespace Tx
open PySem PySem.Spec PyProof.Rows L2 Tk TA
theorem all_mk {P : Program} {w : World} {K : PySem.W.Frag} {h : Heap} {mg : Str → Option Value} {fa CTakeError CBadFactor CBadHeap CBadLimit CBadNumber CBadSum CBadTaking CSteps CLost CWon f_is_whole f_check_factor f_check_heap f_Steps_init f_Steps_more f_steps_to f_step_by f_parts_of f_sum_of f_is_sum f_whole f_Lost_init f_Won_init f_check_all f_told f_behind f__law_cell_at f__law_draw f__law_value f__law_factor f__law_kinds f__law_with_factor f__law_with_heap f__law_with_limit f__law_with_number f__law_with_sum f__law_with_taking f__law_told f__law_all f_law : Addr} (X : K.In h) (G : h.Ns mainGlobals mg) (hfa : mg "law" = some (.ref fa))
    {od_is_whole an_is_whole od_check_factor an_check_factor od_check_heap an_check_heap od_Steps_init an_Steps_init od_Steps_more an_Steps_more od_steps_to an_steps_to od_step_by an_step_by od_parts_of an_parts_of od_sum_of an_sum_of od_is_sum an_is_sum od_whole an_whole od_Lost_init an_Lost_init od_Won_init an_Won_init od_check_all an_check_all od_told an_told od_behind an_behind od__law_cell_at an__law_cell_at od__law_draw an__law_draw od__law_value an__law_value od__law_factor an__law_factor od__law_kinds an__law_kinds od__law_with_factor an__law_with_factor od__law_with_heap an__law_with_heap od__law_with_limit an__law_with_limit od__law_with_number an__law_with_number od__law_with_sum an__law_with_sum od__law_with_taking an__law_with_taking od__law_told an__law_told od__law_all an__law_all od_law an_law : Option Addr} {sl_is_whole sl_check_factor sl_check_heap sl_Steps_init sl_Steps_more sl_steps_to sl_step_by sl_parts_of sl_sum_of sl_is_sum sl_whole sl_Lost_init sl_Won_init sl_check_all sl_told sl_behind sl__law_cell_at sl__law_draw sl__law_value sl__law_factor sl__law_kinds sl__law_with_factor sl__law_with_heap sl__law_with_limit sl__law_with_number sl__law_with_sum sl__law_with_taking sl__law_told sl__law_all sl_law : Array (Option Value)} {oc_is_whole kV_is_whole dc_is_whole pm_is_whole cd_is_whole ct_is_whole oc_check_factor kV_check_factor dc_check_factor pm_check_factor cd_check_factor ct_check_factor oc_check_heap kV_check_heap dc_check_heap pm_check_heap cd_check_heap ct_check_heap oc_Steps_init kV_Steps_init dc_Steps_init pm_Steps_init cd_Steps_init ct_Steps_init oc_Steps_more kV_Steps_more dc_Steps_more pm_Steps_more cd_Steps_more ct_Steps_more oc_steps_to kV_steps_to dc_steps_to pm_steps_to cd_steps_to ct_steps_to oc_step_by kV_step_by dc_step_by pm_step_by cd_step_by ct_step_by oc_parts_of kV_parts_of dc_parts_of pm_parts_of cd_parts_of ct_parts_of oc_sum_of kV_sum_of dc_sum_of pm_sum_of cd_sum_of ct_sum_of oc_is_sum kV_is_sum dc_is_sum pm_is_sum cd_is_sum ct_is_sum oc_whole kV_whole dc_whole pm_whole cd_whole ct_whole oc_Lost_init kV_Lost_init dc_Lost_init pm_Lost_init cd_Lost_init ct_Lost_init oc_Won_init kV_Won_init dc_Won_init pm_Won_init cd_Won_init ct_Won_init oc_check_all kV_check_all dc_check_all pm_check_all cd_check_all ct_check_all oc_told kV_told dc_told pm_told cd_told ct_told oc_behind kV_behind dc_behind pm_behind cd_behind ct_behind oc__law_cell_at kV__law_cell_at dc__law_cell_at pm__law_cell_at cd__law_cell_at ct__law_cell_at oc__law_draw kV__law_draw dc__law_draw pm__law_draw cd__law_draw ct__law_draw oc__law_value kV__law_value dc__law_value pm__law_value cd__law_value ct__law_value oc__law_factor kV__law_factor dc__law_factor pm__law_factor cd__law_factor ct__law_factor oc__law_kinds kV__law_kinds dc__law_kinds pm__law_kinds cd__law_kinds ct__law_kinds oc__law_with_factor kV__law_with_factor dc__law_with_factor pm__law_with_factor cd__law_with_factor ct__law_with_factor oc__law_with_heap kV__law_with_heap dc__law_with_heap pm__law_with_heap cd__law_with_heap ct__law_with_heap oc__law_with_limit kV__law_with_limit dc__law_with_limit pm__law_with_limit cd__law_with_limit ct__law_with_limit oc__law_with_number kV__law_with_number dc__law_with_number pm__law_with_number cd__law_with_number ct__law_with_number oc__law_with_sum kV__law_with_sum dc__law_with_sum pm__law_with_sum cd__law_with_sum ct__law_with_sum oc__law_with_taking kV__law_with_taking dc__law_with_taking pm__law_with_taking cd__law_with_taking ct__law_with_taking oc__law_told kV__law_told dc__law_told pm__law_told cd__law_told ct__law_told oc__law_all kV__law_all dc__law_all pm__law_all cd__law_all ct__law_all oc_law kV_law dc_law pm_law cd_law ct_law : Value} {t_GREATEST t_MOST : _}
    (e_TakeError : PySem.W.nsIn K mainGlobals "TakeError" = some (some (.ref CTakeError)))
    (e_BadFactor : PySem.W.nsIn K mainGlobals "BadFactor" = some (some (.ref CBadFactor)))
    (e_BadHeap : PySem.W.nsIn K mainGlobals "BadHeap" = some (some (.ref CBadHeap)))
    (e_BadLimit : PySem.W.nsIn K mainGlobals "BadLimit" = some (some (.ref CBadLimit)))
    (e_BadNumber : PySem.W.nsIn K mainGlobals "BadNumber" = some (some (.ref CBadNumber)))
    (e_BadSum : PySem.W.nsIn K mainGlobals "BadSum" = some (some (.ref CBadSum)))
    (e_BadTaking : PySem.W.nsIn K mainGlobals "BadTaking" = some (some (.ref CBadTaking)))
    (e_Steps : PySem.W.nsIn K mainGlobals "Steps" = some (some (.ref CSteps)))
    (e_Lost : PySem.W.nsIn K mainGlobals "Lost" = some (some (.ref CLost)))
    (e_Won : PySem.W.nsIn K mainGlobals "Won" = some (some (.ref CWon)))
    (a_is_whole : PySem.W.nsIn K mainGlobals "is_whole" = some (some (.ref f_is_whole)))
    (l_is_whole : K.lookup f_is_whole = some ⟨oc_is_whole, od_is_whole, .func (PySem.W.fnOf "is_whole" "is_whole" (defArgs s_is_whole) (defBody s_is_whole) (defScope s_is_whole) .none kV_is_whole dc_is_whole pm_is_whole an_is_whole cd_is_whole ct_is_whole), sl_is_whole⟩)
    (c_is_whole : PySem.W.codeIn K cd_is_whole "is_whole" = true)
    (k_is_whole : PySem.W.keepIn K (.ref f_is_whole) = true)
    (a_check_factor : PySem.W.nsIn K mainGlobals "check_factor" = some (some (.ref f_check_factor)))
    (l_check_factor : K.lookup f_check_factor = some ⟨oc_check_factor, od_check_factor, .func (PySem.W.fnOf "check_factor" "check_factor" (defArgs s_check_factor) (defBody s_check_factor) (defScope s_check_factor) .none kV_check_factor dc_check_factor pm_check_factor an_check_factor cd_check_factor ct_check_factor), sl_check_factor⟩)
    (c_check_factor : PySem.W.codeIn K cd_check_factor "check_factor" = true)
    (k_check_factor : PySem.W.keepIn K (.ref f_check_factor) = true)
    (a_check_heap : PySem.W.nsIn K mainGlobals "check_heap" = some (some (.ref f_check_heap)))
    (l_check_heap : K.lookup f_check_heap = some ⟨oc_check_heap, od_check_heap, .func (PySem.W.fnOf "check_heap" "check_heap" (defArgs s_check_heap) (defBody s_check_heap) (defScope s_check_heap) .none kV_check_heap dc_check_heap pm_check_heap an_check_heap cd_check_heap ct_check_heap), sl_check_heap⟩)
    (c_check_heap : PySem.W.codeIn K cd_check_heap "check_heap" = true)
    (k_check_heap : PySem.W.keepIn K (.ref f_check_heap) = true)
    (a_Steps_init : PySem.W.findIn K (.ref CSteps) "__init__" = some (some (.ref f_Steps_init)))
    (i_Steps_init : PySem.W.isFn K (.ref f_Steps_init) = true)
    (l_Steps_init : K.lookup f_Steps_init = some ⟨oc_Steps_init, od_Steps_init, .func (PySem.W.fnOf "__init__" "Steps.__init__" (defArgs s_Steps_init) (defBody s_Steps_init) (defScope s_Steps_init) .none kV_Steps_init dc_Steps_init pm_Steps_init an_Steps_init cd_Steps_init ct_Steps_init), sl_Steps_init⟩)
    (c_Steps_init : PySem.W.codeIn K cd_Steps_init "Steps.__init__" = true)
    (k_Steps_init : PySem.W.keepIn K (.ref f_Steps_init) = true)
    (a_Steps_more : PySem.W.findIn K (.ref CSteps) "more" = some (some (.ref f_Steps_more)))
    (i_Steps_more : PySem.W.isFn K (.ref f_Steps_more) = true)
    (l_Steps_more : K.lookup f_Steps_more = some ⟨oc_Steps_more, od_Steps_more, .func (PySem.W.fnOf "more" "Steps.more" (defArgs s_Steps_more) (defBody s_Steps_more) (defScope s_Steps_more) .none kV_Steps_more dc_Steps_more pm_Steps_more an_Steps_more cd_Steps_more ct_Steps_more), sl_Steps_more⟩)
    (c_Steps_more : PySem.W.codeIn K cd_Steps_more "Steps.more" = true)
    (k_Steps_more : PySem.W.keepIn K (.ref f_Steps_more) = true)
    (a_steps_to : PySem.W.nsIn K mainGlobals "steps_to" = some (some (.ref f_steps_to)))
    (l_steps_to : K.lookup f_steps_to = some ⟨oc_steps_to, od_steps_to, .func (PySem.W.fnOf "steps_to" "steps_to" (defArgs s_steps_to) (defBody s_steps_to) (defScope s_steps_to) .none kV_steps_to dc_steps_to pm_steps_to an_steps_to cd_steps_to ct_steps_to), sl_steps_to⟩)
    (c_steps_to : PySem.W.codeIn K cd_steps_to "steps_to" = true)
    (k_steps_to : PySem.W.keepIn K (.ref f_steps_to) = true)
    (a_step_by : PySem.W.nsIn K mainGlobals "step_by" = some (some (.ref f_step_by)))
    (l_step_by : K.lookup f_step_by = some ⟨oc_step_by, od_step_by, .func (PySem.W.fnOf "step_by" "step_by" (defArgs s_step_by) (defBody s_step_by) (defScope s_step_by) .none kV_step_by dc_step_by pm_step_by an_step_by cd_step_by ct_step_by), sl_step_by⟩)
    (c_step_by : PySem.W.codeIn K cd_step_by "step_by" = true)
    (k_step_by : PySem.W.keepIn K (.ref f_step_by) = true)
    (a_parts_of : PySem.W.nsIn K mainGlobals "parts_of" = some (some (.ref f_parts_of)))
    (l_parts_of : K.lookup f_parts_of = some ⟨oc_parts_of, od_parts_of, .func (PySem.W.fnOf "parts_of" "parts_of" (defArgs s_parts_of) (defBody s_parts_of) (defScope s_parts_of) .none kV_parts_of dc_parts_of pm_parts_of an_parts_of cd_parts_of ct_parts_of), sl_parts_of⟩)
    (c_parts_of : PySem.W.codeIn K cd_parts_of "parts_of" = true)
    (k_parts_of : PySem.W.keepIn K (.ref f_parts_of) = true)
    (a_sum_of : PySem.W.nsIn K mainGlobals "sum_of" = some (some (.ref f_sum_of)))
    (l_sum_of : K.lookup f_sum_of = some ⟨oc_sum_of, od_sum_of, .func (PySem.W.fnOf "sum_of" "sum_of" (defArgs s_sum_of) (defBody s_sum_of) (defScope s_sum_of) .none kV_sum_of dc_sum_of pm_sum_of an_sum_of cd_sum_of ct_sum_of), sl_sum_of⟩)
    (c_sum_of : PySem.W.codeIn K cd_sum_of "sum_of" = true)
    (k_sum_of : PySem.W.keepIn K (.ref f_sum_of) = true)
    (a_is_sum : PySem.W.nsIn K mainGlobals "is_sum" = some (some (.ref f_is_sum)))
    (l_is_sum : K.lookup f_is_sum = some ⟨oc_is_sum, od_is_sum, .func (PySem.W.fnOf "is_sum" "is_sum" (defArgs s_is_sum) (defBody s_is_sum) (defScope s_is_sum) .none kV_is_sum dc_is_sum pm_is_sum an_is_sum cd_is_sum ct_is_sum), sl_is_sum⟩)
    (c_is_sum : PySem.W.codeIn K cd_is_sum "is_sum" = true)
    (k_is_sum : PySem.W.keepIn K (.ref f_is_sum) = true)
    (a_whole : PySem.W.nsIn K mainGlobals "whole" = some (some (.ref f_whole)))
    (l_whole : K.lookup f_whole = some ⟨oc_whole, od_whole, .func (PySem.W.fnOf "whole" "whole" (defArgs s_whole) (defBody s_whole) (defScope s_whole) .none kV_whole dc_whole pm_whole an_whole cd_whole ct_whole), sl_whole⟩)
    (c_whole : PySem.W.codeIn K cd_whole "whole" = true)
    (k_whole : PySem.W.keepIn K (.ref f_whole) = true)
    (a_Lost_init : PySem.W.findIn K (.ref CLost) "__init__" = some (some (.ref f_Lost_init)))
    (i_Lost_init : PySem.W.isFn K (.ref f_Lost_init) = true)
    (l_Lost_init : K.lookup f_Lost_init = some ⟨oc_Lost_init, od_Lost_init, .func (PySem.W.fnOf "__init__" "Lost.__init__" (defArgs s_Lost_init) (defBody s_Lost_init) (defScope s_Lost_init) .none kV_Lost_init dc_Lost_init pm_Lost_init an_Lost_init cd_Lost_init ct_Lost_init), sl_Lost_init⟩)
    (c_Lost_init : PySem.W.codeIn K cd_Lost_init "Lost.__init__" = true)
    (k_Lost_init : PySem.W.keepIn K (.ref f_Lost_init) = true)
    (a_Won_init : PySem.W.findIn K (.ref CWon) "__init__" = some (some (.ref f_Won_init)))
    (i_Won_init : PySem.W.isFn K (.ref f_Won_init) = true)
    (l_Won_init : K.lookup f_Won_init = some ⟨oc_Won_init, od_Won_init, .func (PySem.W.fnOf "__init__" "Won.__init__" (defArgs s_Won_init) (defBody s_Won_init) (defScope s_Won_init) .none kV_Won_init dc_Won_init pm_Won_init an_Won_init cd_Won_init ct_Won_init), sl_Won_init⟩)
    (c_Won_init : PySem.W.codeIn K cd_Won_init "Won.__init__" = true)
    (k_Won_init : PySem.W.keepIn K (.ref f_Won_init) = true)
    (a_check_all : PySem.W.nsIn K mainGlobals "check_all" = some (some (.ref f_check_all)))
    (l_check_all : K.lookup f_check_all = some ⟨oc_check_all, od_check_all, .func (PySem.W.fnOf "check_all" "check_all" (defArgs s_check_all) (defBody s_check_all) (defScope s_check_all) .none kV_check_all dc_check_all pm_check_all an_check_all cd_check_all ct_check_all), sl_check_all⟩)
    (c_check_all : PySem.W.codeIn K cd_check_all "check_all" = true)
    (k_check_all : PySem.W.keepIn K (.ref f_check_all) = true)
    (a_told : PySem.W.nsIn K mainGlobals "told" = some (some (.ref f_told)))
    (l_told : K.lookup f_told = some ⟨oc_told, od_told, .func (PySem.W.fnOf "told" "told" (defArgs s_told) (defBody s_told) (defScope s_told) .none kV_told dc_told pm_told an_told cd_told ct_told), sl_told⟩)
    (c_told : PySem.W.codeIn K cd_told "told" = true)
    (k_told : PySem.W.keepIn K (.ref f_told) = true)
    (a_behind : PySem.W.nsIn K mainGlobals "behind" = some (some (.ref f_behind)))
    (l_behind : K.lookup f_behind = some ⟨oc_behind, od_behind, .func (PySem.W.fnOf "behind" "behind" (defArgs s_behind) (defBody s_behind) (defScope s_behind) .none kV_behind dc_behind pm_behind an_behind cd_behind ct_behind), sl_behind⟩)
    (c_behind : PySem.W.codeIn K cd_behind "behind" = true)
    (k_behind : PySem.W.keepIn K (.ref f_behind) = true)
    (a__law_cell_at : PySem.W.nsIn K mainGlobals "_law_cell_at" = some (some (.ref f__law_cell_at)))
    (l__law_cell_at : K.lookup f__law_cell_at = some ⟨oc__law_cell_at, od__law_cell_at, .func (PySem.W.fnOf "_law_cell_at" "_law_cell_at" (defArgs s__law_cell_at) (defBody s__law_cell_at) (defScope s__law_cell_at) .none kV__law_cell_at dc__law_cell_at pm__law_cell_at an__law_cell_at cd__law_cell_at ct__law_cell_at), sl__law_cell_at⟩)
    (c__law_cell_at : PySem.W.codeIn K cd__law_cell_at "_law_cell_at" = true)
    (k__law_cell_at : PySem.W.keepIn K (.ref f__law_cell_at) = true)
    (a__law_draw : PySem.W.nsIn K mainGlobals "_law_draw" = some (some (.ref f__law_draw)))
    (l__law_draw : K.lookup f__law_draw = some ⟨oc__law_draw, od__law_draw, .func (PySem.W.fnOf "_law_draw" "_law_draw" (defArgs s__law_draw) (defBody s__law_draw) (defScope s__law_draw) .none kV__law_draw dc__law_draw pm__law_draw an__law_draw cd__law_draw ct__law_draw), sl__law_draw⟩)
    (c__law_draw : PySem.W.codeIn K cd__law_draw "_law_draw" = true)
    (k__law_draw : PySem.W.keepIn K (.ref f__law_draw) = true)
    (a__law_value : PySem.W.nsIn K mainGlobals "_law_value" = some (some (.ref f__law_value)))
    (l__law_value : K.lookup f__law_value = some ⟨oc__law_value, od__law_value, .func (PySem.W.fnOf "_law_value" "_law_value" (defArgs s__law_value) (defBody s__law_value) (defScope s__law_value) .none kV__law_value dc__law_value pm__law_value an__law_value cd__law_value ct__law_value), sl__law_value⟩)
    (c__law_value : PySem.W.codeIn K cd__law_value "_law_value" = true)
    (k__law_value : PySem.W.keepIn K (.ref f__law_value) = true)
    (a__law_factor : PySem.W.nsIn K mainGlobals "_law_factor" = some (some (.ref f__law_factor)))
    (l__law_factor : K.lookup f__law_factor = some ⟨oc__law_factor, od__law_factor, .func (PySem.W.fnOf "_law_factor" "_law_factor" (defArgs s__law_factor) (defBody s__law_factor) (defScope s__law_factor) .none kV__law_factor dc__law_factor pm__law_factor an__law_factor cd__law_factor ct__law_factor), sl__law_factor⟩)
    (c__law_factor : PySem.W.codeIn K cd__law_factor "_law_factor" = true)
    (k__law_factor : PySem.W.keepIn K (.ref f__law_factor) = true)
    (a__law_kinds : PySem.W.nsIn K mainGlobals "_law_kinds" = some (some (.ref f__law_kinds)))
    (l__law_kinds : K.lookup f__law_kinds = some ⟨oc__law_kinds, od__law_kinds, .func (PySem.W.fnOf "_law_kinds" "_law_kinds" (defArgs s__law_kinds) (defBody s__law_kinds) (defScope s__law_kinds) .none kV__law_kinds dc__law_kinds pm__law_kinds an__law_kinds cd__law_kinds ct__law_kinds), sl__law_kinds⟩)
    (c__law_kinds : PySem.W.codeIn K cd__law_kinds "_law_kinds" = true)
    (k__law_kinds : PySem.W.keepIn K (.ref f__law_kinds) = true)
    (a__law_with_factor : PySem.W.nsIn K mainGlobals "_law_with_factor" = some (some (.ref f__law_with_factor)))
    (l__law_with_factor : K.lookup f__law_with_factor = some ⟨oc__law_with_factor, od__law_with_factor, .func (PySem.W.fnOf "_law_with_factor" "_law_with_factor" (defArgs s__law_with_factor) (defBody s__law_with_factor) (defScope s__law_with_factor) .none kV__law_with_factor dc__law_with_factor pm__law_with_factor an__law_with_factor cd__law_with_factor ct__law_with_factor), sl__law_with_factor⟩)
    (c__law_with_factor : PySem.W.codeIn K cd__law_with_factor "_law_with_factor" = true)
    (k__law_with_factor : PySem.W.keepIn K (.ref f__law_with_factor) = true)
    (a__law_with_heap : PySem.W.nsIn K mainGlobals "_law_with_heap" = some (some (.ref f__law_with_heap)))
    (l__law_with_heap : K.lookup f__law_with_heap = some ⟨oc__law_with_heap, od__law_with_heap, .func (PySem.W.fnOf "_law_with_heap" "_law_with_heap" (defArgs s__law_with_heap) (defBody s__law_with_heap) (defScope s__law_with_heap) .none kV__law_with_heap dc__law_with_heap pm__law_with_heap an__law_with_heap cd__law_with_heap ct__law_with_heap), sl__law_with_heap⟩)
    (c__law_with_heap : PySem.W.codeIn K cd__law_with_heap "_law_with_heap" = true)
    (k__law_with_heap : PySem.W.keepIn K (.ref f__law_with_heap) = true)
    (a__law_with_limit : PySem.W.nsIn K mainGlobals "_law_with_limit" = some (some (.ref f__law_with_limit)))
    (l__law_with_limit : K.lookup f__law_with_limit = some ⟨oc__law_with_limit, od__law_with_limit, .func (PySem.W.fnOf "_law_with_limit" "_law_with_limit" (defArgs s__law_with_limit) (defBody s__law_with_limit) (defScope s__law_with_limit) .none kV__law_with_limit dc__law_with_limit pm__law_with_limit an__law_with_limit cd__law_with_limit ct__law_with_limit), sl__law_with_limit⟩)
    (c__law_with_limit : PySem.W.codeIn K cd__law_with_limit "_law_with_limit" = true)
    (k__law_with_limit : PySem.W.keepIn K (.ref f__law_with_limit) = true)
    (a__law_with_number : PySem.W.nsIn K mainGlobals "_law_with_number" = some (some (.ref f__law_with_number)))
    (l__law_with_number : K.lookup f__law_with_number = some ⟨oc__law_with_number, od__law_with_number, .func (PySem.W.fnOf "_law_with_number" "_law_with_number" (defArgs s__law_with_number) (defBody s__law_with_number) (defScope s__law_with_number) .none kV__law_with_number dc__law_with_number pm__law_with_number an__law_with_number cd__law_with_number ct__law_with_number), sl__law_with_number⟩)
    (c__law_with_number : PySem.W.codeIn K cd__law_with_number "_law_with_number" = true)
    (k__law_with_number : PySem.W.keepIn K (.ref f__law_with_number) = true)
    (a__law_with_sum : PySem.W.nsIn K mainGlobals "_law_with_sum" = some (some (.ref f__law_with_sum)))
    (l__law_with_sum : K.lookup f__law_with_sum = some ⟨oc__law_with_sum, od__law_with_sum, .func (PySem.W.fnOf "_law_with_sum" "_law_with_sum" (defArgs s__law_with_sum) (defBody s__law_with_sum) (defScope s__law_with_sum) .none kV__law_with_sum dc__law_with_sum pm__law_with_sum an__law_with_sum cd__law_with_sum ct__law_with_sum), sl__law_with_sum⟩)
    (c__law_with_sum : PySem.W.codeIn K cd__law_with_sum "_law_with_sum" = true)
    (k__law_with_sum : PySem.W.keepIn K (.ref f__law_with_sum) = true)
    (a__law_with_taking : PySem.W.nsIn K mainGlobals "_law_with_taking" = some (some (.ref f__law_with_taking)))
    (l__law_with_taking : K.lookup f__law_with_taking = some ⟨oc__law_with_taking, od__law_with_taking, .func (PySem.W.fnOf "_law_with_taking" "_law_with_taking" (defArgs s__law_with_taking) (defBody s__law_with_taking) (defScope s__law_with_taking) .none kV__law_with_taking dc__law_with_taking pm__law_with_taking an__law_with_taking cd__law_with_taking ct__law_with_taking), sl__law_with_taking⟩)
    (c__law_with_taking : PySem.W.codeIn K cd__law_with_taking "_law_with_taking" = true)
    (k__law_with_taking : PySem.W.keepIn K (.ref f__law_with_taking) = true)
    (a__law_told : PySem.W.nsIn K mainGlobals "_law_told" = some (some (.ref f__law_told)))
    (l__law_told : K.lookup f__law_told = some ⟨oc__law_told, od__law_told, .func (PySem.W.fnOf "_law_told" "_law_told" (defArgs s__law_told) (defBody s__law_told) (defScope s__law_told) .none kV__law_told dc__law_told pm__law_told an__law_told cd__law_told ct__law_told), sl__law_told⟩)
    (c__law_told : PySem.W.codeIn K cd__law_told "_law_told" = true)
    (k__law_told : PySem.W.keepIn K (.ref f__law_told) = true)
    (a__law_all : PySem.W.nsIn K mainGlobals "_law_all" = some (some (.ref f__law_all)))
    (l__law_all : K.lookup f__law_all = some ⟨oc__law_all, od__law_all, .func (PySem.W.fnOf "_law_all" "_law_all" (defArgs s__law_all) (defBody s__law_all) (defScope s__law_all) .none kV__law_all dc__law_all pm__law_all an__law_all cd__law_all ct__law_all), sl__law_all⟩)
    (c__law_all : PySem.W.codeIn K cd__law_all "_law_all" = true)
    (k__law_all : PySem.W.keepIn K (.ref f__law_all) = true)
    (a_law : PySem.W.nsIn K mainGlobals "law" = some (some (.ref f_law)))
    (l_law : K.lookup f_law = some ⟨oc_law, od_law, .func (PySem.W.fnOf "law" "law" (defArgs s_law) (defBody s_law) (defScope s_law) .none kV_law dc_law pm_law an_law cd_law ct_law), sl_law⟩)
    (c_law : PySem.W.codeIn K cd_law "law" = true)
    (k_law : PySem.W.keepIn K (.ref f_law) = true)
    (hn_ : PySem.W.specialIn K (.builtin "object.__class__") "__get__" = some (some (.builtin "getset_descriptor.__get__")))
    (htk_ : PySem.W.takesIn K (.builtin "object.__class__") = some true)
    (bs_TakeError : PySem.W.subIn K (.ref CTakeError) (.type "BaseException") = some true)
    (hd_TakeError : PySem.W.hasDictIn K CTakeError = true)
    (tp_TakeError : PySem.W.typeIn K (.ref CTakeError) = some (.type "type"))
    (z_ValueError : PySem.W.nsIn K mainGlobals "ValueError" = some none)
    (xe_BadFactor : PySem.W.excIn K CBadFactor [.type "ValueError", .type "Exception", .type "BaseException", .type "object"] "ValueError.__new__" = true)
    (kp_BadFactor : PySem.W.keepIn K (.ref CBadFactor) = true)
    (bs_BadFactor : PySem.W.subIn K (.ref CBadFactor) (.type "BaseException") = some true)
    (ve_BadFactor : PySem.W.subIn K (.ref CBadFactor) (.type "ValueError") = some true)
    (tk_BadFactor : PySem.W.subIn K (.ref CBadFactor) (.ref CTakeError) = some true)
    (tp_BadFactor : PySem.W.typeIn K (.ref CBadFactor) = some (.type "type"))
    (is_BadFactor : PySem.W.isClsIn K CBadFactor = true)
    (ga_BadFactor : PySem.W.findIn K (.ref CBadFactor) "__getattribute__" = some (some (.builtin "BaseException.__getattribute__")))
    (gt_BadFactor : PySem.W.findIn K (.ref CBadFactor) "__getattr__" = some none)
    (hd_BadFactor : PySem.W.hasDictIn K CBadFactor = true)
    (hc_BadFactor : PySem.W.findIn K (.ref CBadFactor) "__class__" = some (some (.builtin "object.__class__")))
    (hm_BadFactor : PySem.W.mroIn K CBadFactor (.type "object") = some true)
    (xe_BadHeap : PySem.W.excIn K CBadHeap [.type "ValueError", .type "Exception", .type "BaseException", .type "object"] "ValueError.__new__" = true)
    (kp_BadHeap : PySem.W.keepIn K (.ref CBadHeap) = true)
    (bs_BadHeap : PySem.W.subIn K (.ref CBadHeap) (.type "BaseException") = some true)
    (ve_BadHeap : PySem.W.subIn K (.ref CBadHeap) (.type "ValueError") = some true)
    (tk_BadHeap : PySem.W.subIn K (.ref CBadHeap) (.ref CTakeError) = some true)
    (tp_BadHeap : PySem.W.typeIn K (.ref CBadHeap) = some (.type "type"))
    (is_BadHeap : PySem.W.isClsIn K CBadHeap = true)
    (ga_BadHeap : PySem.W.findIn K (.ref CBadHeap) "__getattribute__" = some (some (.builtin "BaseException.__getattribute__")))
    (gt_BadHeap : PySem.W.findIn K (.ref CBadHeap) "__getattr__" = some none)
    (hd_BadHeap : PySem.W.hasDictIn K CBadHeap = true)
    (hc_BadHeap : PySem.W.findIn K (.ref CBadHeap) "__class__" = some (some (.builtin "object.__class__")))
    (hm_BadHeap : PySem.W.mroIn K CBadHeap (.type "object") = some true)
    (xe_BadLimit : PySem.W.excIn K CBadLimit [.type "ValueError", .type "Exception", .type "BaseException", .type "object"] "ValueError.__new__" = true)
    (kp_BadLimit : PySem.W.keepIn K (.ref CBadLimit) = true)
    (bs_BadLimit : PySem.W.subIn K (.ref CBadLimit) (.type "BaseException") = some true)
    (ve_BadLimit : PySem.W.subIn K (.ref CBadLimit) (.type "ValueError") = some true)
    (tk_BadLimit : PySem.W.subIn K (.ref CBadLimit) (.ref CTakeError) = some true)
    (tp_BadLimit : PySem.W.typeIn K (.ref CBadLimit) = some (.type "type"))
    (is_BadLimit : PySem.W.isClsIn K CBadLimit = true)
    (ga_BadLimit : PySem.W.findIn K (.ref CBadLimit) "__getattribute__" = some (some (.builtin "BaseException.__getattribute__")))
    (gt_BadLimit : PySem.W.findIn K (.ref CBadLimit) "__getattr__" = some none)
    (hd_BadLimit : PySem.W.hasDictIn K CBadLimit = true)
    (hc_BadLimit : PySem.W.findIn K (.ref CBadLimit) "__class__" = some (some (.builtin "object.__class__")))
    (hm_BadLimit : PySem.W.mroIn K CBadLimit (.type "object") = some true)
    (xe_BadNumber : PySem.W.excIn K CBadNumber [.type "ValueError", .type "Exception", .type "BaseException", .type "object"] "ValueError.__new__" = true)
    (kp_BadNumber : PySem.W.keepIn K (.ref CBadNumber) = true)
    (bs_BadNumber : PySem.W.subIn K (.ref CBadNumber) (.type "BaseException") = some true)
    (ve_BadNumber : PySem.W.subIn K (.ref CBadNumber) (.type "ValueError") = some true)
    (tk_BadNumber : PySem.W.subIn K (.ref CBadNumber) (.ref CTakeError) = some true)
    (tp_BadNumber : PySem.W.typeIn K (.ref CBadNumber) = some (.type "type"))
    (is_BadNumber : PySem.W.isClsIn K CBadNumber = true)
    (ga_BadNumber : PySem.W.findIn K (.ref CBadNumber) "__getattribute__" = some (some (.builtin "BaseException.__getattribute__")))
    (gt_BadNumber : PySem.W.findIn K (.ref CBadNumber) "__getattr__" = some none)
    (hd_BadNumber : PySem.W.hasDictIn K CBadNumber = true)
    (hc_BadNumber : PySem.W.findIn K (.ref CBadNumber) "__class__" = some (some (.builtin "object.__class__")))
    (hm_BadNumber : PySem.W.mroIn K CBadNumber (.type "object") = some true)
    (xe_BadSum : PySem.W.excIn K CBadSum [.type "ValueError", .type "Exception", .type "BaseException", .type "object"] "ValueError.__new__" = true)
    (kp_BadSum : PySem.W.keepIn K (.ref CBadSum) = true)
    (bs_BadSum : PySem.W.subIn K (.ref CBadSum) (.type "BaseException") = some true)
    (ve_BadSum : PySem.W.subIn K (.ref CBadSum) (.type "ValueError") = some true)
    (tk_BadSum : PySem.W.subIn K (.ref CBadSum) (.ref CTakeError) = some true)
    (tp_BadSum : PySem.W.typeIn K (.ref CBadSum) = some (.type "type"))
    (is_BadSum : PySem.W.isClsIn K CBadSum = true)
    (ga_BadSum : PySem.W.findIn K (.ref CBadSum) "__getattribute__" = some (some (.builtin "BaseException.__getattribute__")))
    (gt_BadSum : PySem.W.findIn K (.ref CBadSum) "__getattr__" = some none)
    (hd_BadSum : PySem.W.hasDictIn K CBadSum = true)
    (hc_BadSum : PySem.W.findIn K (.ref CBadSum) "__class__" = some (some (.builtin "object.__class__")))
    (hm_BadSum : PySem.W.mroIn K CBadSum (.type "object") = some true)
    (xe_BadTaking : PySem.W.excIn K CBadTaking [.type "ValueError", .type "Exception", .type "BaseException", .type "object"] "ValueError.__new__" = true)
    (kp_BadTaking : PySem.W.keepIn K (.ref CBadTaking) = true)
    (bs_BadTaking : PySem.W.subIn K (.ref CBadTaking) (.type "BaseException") = some true)
    (ve_BadTaking : PySem.W.subIn K (.ref CBadTaking) (.type "ValueError") = some true)
    (tk_BadTaking : PySem.W.subIn K (.ref CBadTaking) (.ref CTakeError) = some true)
    (tp_BadTaking : PySem.W.typeIn K (.ref CBadTaking) = some (.type "type"))
    (is_BadTaking : PySem.W.isClsIn K CBadTaking = true)
    (ga_BadTaking : PySem.W.findIn K (.ref CBadTaking) "__getattribute__" = some (some (.builtin "BaseException.__getattribute__")))
    (gt_BadTaking : PySem.W.findIn K (.ref CBadTaking) "__getattr__" = some none)
    (hd_BadTaking : PySem.W.hasDictIn K CBadTaking = true)
    (hc_BadTaking : PySem.W.findIn K (.ref CBadTaking) "__class__" = some (some (.builtin "object.__class__")))
    (hm_BadTaking : PySem.W.mroIn K CBadTaking (.type "object") = some true)
    (ne_BadFactor_BadHeap : CBadFactor ≠ CBadHeap)
    (ne_BadFactor_BadLimit : CBadFactor ≠ CBadLimit)
    (ne_BadFactor_BadNumber : CBadFactor ≠ CBadNumber)
    (ne_BadFactor_BadSum : CBadFactor ≠ CBadSum)
    (ne_BadFactor_BadTaking : CBadFactor ≠ CBadTaking)
    (ne_BadHeap_BadLimit : CBadHeap ≠ CBadLimit)
    (ne_BadHeap_BadNumber : CBadHeap ≠ CBadNumber)
    (ne_BadHeap_BadSum : CBadHeap ≠ CBadSum)
    (ne_BadHeap_BadTaking : CBadHeap ≠ CBadTaking)
    (ne_BadLimit_BadNumber : CBadLimit ≠ CBadNumber)
    (ne_BadLimit_BadSum : CBadLimit ≠ CBadSum)
    (ne_BadLimit_BadTaking : CBadLimit ≠ CBadTaking)
    (ne_BadNumber_BadSum : CBadNumber ≠ CBadSum)
    (ne_BadNumber_BadTaking : CBadNumber ≠ CBadTaking)
    (ne_BadSum_BadTaking : CBadSum ≠ CBadTaking)
    (sb_BadFactor_BadHeap : PySem.W.subIn K (.ref CBadFactor) (.ref CBadHeap) = some false)
    (sb_BadFactor_BadLimit : PySem.W.subIn K (.ref CBadFactor) (.ref CBadLimit) = some false)
    (sb_BadFactor_BadNumber : PySem.W.subIn K (.ref CBadFactor) (.ref CBadNumber) = some false)
    (sb_BadFactor_BadSum : PySem.W.subIn K (.ref CBadFactor) (.ref CBadSum) = some false)
    (sb_BadFactor_BadTaking : PySem.W.subIn K (.ref CBadFactor) (.ref CBadTaking) = some false)
    (sb_BadHeap_BadFactor : PySem.W.subIn K (.ref CBadHeap) (.ref CBadFactor) = some false)
    (sb_BadHeap_BadLimit : PySem.W.subIn K (.ref CBadHeap) (.ref CBadLimit) = some false)
    (sb_BadHeap_BadNumber : PySem.W.subIn K (.ref CBadHeap) (.ref CBadNumber) = some false)
    (sb_BadHeap_BadSum : PySem.W.subIn K (.ref CBadHeap) (.ref CBadSum) = some false)
    (sb_BadHeap_BadTaking : PySem.W.subIn K (.ref CBadHeap) (.ref CBadTaking) = some false)
    (sb_BadLimit_BadFactor : PySem.W.subIn K (.ref CBadLimit) (.ref CBadFactor) = some false)
    (sb_BadLimit_BadHeap : PySem.W.subIn K (.ref CBadLimit) (.ref CBadHeap) = some false)
    (sb_BadLimit_BadNumber : PySem.W.subIn K (.ref CBadLimit) (.ref CBadNumber) = some false)
    (sb_BadLimit_BadSum : PySem.W.subIn K (.ref CBadLimit) (.ref CBadSum) = some false)
    (sb_BadLimit_BadTaking : PySem.W.subIn K (.ref CBadLimit) (.ref CBadTaking) = some false)
    (sb_BadNumber_BadFactor : PySem.W.subIn K (.ref CBadNumber) (.ref CBadFactor) = some false)
    (sb_BadNumber_BadHeap : PySem.W.subIn K (.ref CBadNumber) (.ref CBadHeap) = some false)
    (sb_BadNumber_BadLimit : PySem.W.subIn K (.ref CBadNumber) (.ref CBadLimit) = some false)
    (sb_BadNumber_BadSum : PySem.W.subIn K (.ref CBadNumber) (.ref CBadSum) = some false)
    (sb_BadNumber_BadTaking : PySem.W.subIn K (.ref CBadNumber) (.ref CBadTaking) = some false)
    (sb_BadSum_BadFactor : PySem.W.subIn K (.ref CBadSum) (.ref CBadFactor) = some false)
    (sb_BadSum_BadHeap : PySem.W.subIn K (.ref CBadSum) (.ref CBadHeap) = some false)
    (sb_BadSum_BadLimit : PySem.W.subIn K (.ref CBadSum) (.ref CBadLimit) = some false)
    (sb_BadSum_BadNumber : PySem.W.subIn K (.ref CBadSum) (.ref CBadNumber) = some false)
    (sb_BadSum_BadTaking : PySem.W.subIn K (.ref CBadSum) (.ref CBadTaking) = some false)
    (sb_BadTaking_BadFactor : PySem.W.subIn K (.ref CBadTaking) (.ref CBadFactor) = some false)
    (sb_BadTaking_BadHeap : PySem.W.subIn K (.ref CBadTaking) (.ref CBadHeap) = some false)
    (sb_BadTaking_BadLimit : PySem.W.subIn K (.ref CBadTaking) (.ref CBadLimit) = some false)
    (sb_BadTaking_BadNumber : PySem.W.subIn K (.ref CBadTaking) (.ref CBadNumber) = some false)
    (sb_BadTaking_BadSum : PySem.W.subIn K (.ref CBadTaking) (.ref CBadSum) = some false)
    (mk_Steps : PySem.W.makesIn K CSteps = true)
    (kp_Steps : PySem.W.keepIn K (.ref CSteps) = true)
    (pg_Steps : PySem.W.plainGet K CSteps Str.empty = true)
    (hd_Steps : PySem.W.hasDictIn K CSteps = true)
    (po_Steps : PySem.W.plainOver K CSteps = true)
    (sa_Steps : PySem.W.findIn K (.ref CSteps) "__setattr__" = some (some (.builtin "object.__setattr__")))
    (n_Steps_factor : PySem.W.findIn K (.ref CSteps) "factor" = some none)
    (n_Steps_made : PySem.W.findIn K (.ref CSteps) "made" = some none)
    (n_Steps_least : PySem.W.findIn K (.ref CSteps) "least" = some none)
    (mk_Lost : PySem.W.makesIn K CLost = true)
    (kp_Lost : PySem.W.keepIn K (.ref CLost) = true)
    (pg_Lost : PySem.W.plainGet K CLost Str.empty = true)
    (hd_Lost : PySem.W.hasDictIn K CLost = true)
    (po_Lost : PySem.W.plainOver K CLost = true)
    (sa_Lost : PySem.W.findIn K (.ref CLost) "__setattr__" = some (some (.builtin "object.__setattr__")))
    (n_Lost_parts : PySem.W.findIn K (.ref CLost) "parts" = some none)
    (mk_Won : PySem.W.makesIn K CWon = true)
    (kp_Won : PySem.W.keepIn K (.ref CWon) = true)
    (pg_Won : PySem.W.plainGet K CWon Str.empty = true)
    (hd_Won : PySem.W.hasDictIn K CWon = true)
    (po_Won : PySem.W.plainOver K CWon = true)
    (sa_Won : PySem.W.findIn K (.ref CWon) "__setattr__" = some (some (.builtin "object.__setattr__")))
    (n_Won_taking : PySem.W.findIn K (.ref CWon) "taking" = some none)
    (z_range : PySem.W.nsIn K mainGlobals "range" = some none)
    (z_all : PySem.W.nsIn K mainGlobals "all" = some none)
    (z_sum : PySem.W.nsIn K mainGlobals "sum" = some none)
    (z_isinstance : PySem.W.nsIn K mainGlobals "isinstance" = some none)
    (z_int : PySem.W.nsIn K mainGlobals "int" = some none)
    (z_list : PySem.W.nsIn K mainGlobals "list" = some none)
    (z_len : PySem.W.nsIn K mainGlobals "len" = some none)
    (z_bool : PySem.W.nsIn K mainGlobals "bool" = some none)
    (z_min : PySem.W.nsIn K mainGlobals "min" = some none)
    (g_GREATEST : PySem.W.nsIn K mainGlobals "GREATEST" = some (some (.int 30 t_GREATEST)))
    (g_MOST : PySem.W.nsIn K mainGlobals "MOST" = some (some (.int 3000 t_MOST)))
    : ∃ fd : FuncData, (∀ (s : Shared) (v : Value), BindsTo s fd ⟨[v], []⟩ [("_law_script", v)]) ∧ ∀ base : Heap, K.In base → base.Ns mainGlobals mg → FnOk P w K mg base CX0 60 fa fd ["_law_script"] (sp_law K) := by
  have e := hfa.symm.trans (PySem.W.mg_of X G a_law)
  cases e
  have T : Txt K mg CTakeError CBadFactor CBadHeap CBadLimit CBadNumber CBadSum CBadTaking CSteps CLost CWon := {
    D_is_whole := ⟨f_is_whole, _, PySem.W.mg_of X G a_is_whole, fun_mk (st := s_is_whole) l_is_whole c_is_whole k_is_whole⟩,
    D_check_factor := ⟨f_check_factor, _, PySem.W.mg_of X G a_check_factor, fun_mk (st := s_check_factor) l_check_factor c_check_factor k_check_factor⟩,
    D_check_heap := ⟨f_check_heap, _, PySem.W.mg_of X G a_check_heap, fun_mk (st := s_check_heap) l_check_heap c_check_heap k_check_heap⟩,
    D_Steps_init := ⟨f_Steps_init, _, ⟨a_Steps_init, i_Steps_init, k_Steps_init⟩, fun_mk (st := s_Steps_init) l_Steps_init c_Steps_init k_Steps_init⟩,
    D_Steps_more := ⟨f_Steps_more, _, ⟨a_Steps_more, i_Steps_more, k_Steps_more⟩, fun_mk (st := s_Steps_more) l_Steps_more c_Steps_more k_Steps_more⟩,
    D_steps_to := ⟨f_steps_to, _, PySem.W.mg_of X G a_steps_to, fun_mk (st := s_steps_to) l_steps_to c_steps_to k_steps_to⟩,
    D_step_by := ⟨f_step_by, _, PySem.W.mg_of X G a_step_by, fun_mk (st := s_step_by) l_step_by c_step_by k_step_by⟩,
    D_parts_of := ⟨f_parts_of, _, PySem.W.mg_of X G a_parts_of, fun_mk (st := s_parts_of) l_parts_of c_parts_of k_parts_of⟩,
    D_sum_of := ⟨f_sum_of, _, PySem.W.mg_of X G a_sum_of, fun_mk (st := s_sum_of) l_sum_of c_sum_of k_sum_of⟩,
    D_is_sum := ⟨f_is_sum, _, PySem.W.mg_of X G a_is_sum, fun_mk (st := s_is_sum) l_is_sum c_is_sum k_is_sum⟩,
    D_whole := ⟨f_whole, _, PySem.W.mg_of X G a_whole, fun_mk (st := s_whole) l_whole c_whole k_whole⟩,
    D_Lost_init := ⟨f_Lost_init, _, ⟨a_Lost_init, i_Lost_init, k_Lost_init⟩, fun_mk (st := s_Lost_init) l_Lost_init c_Lost_init k_Lost_init⟩,
    D_Won_init := ⟨f_Won_init, _, ⟨a_Won_init, i_Won_init, k_Won_init⟩, fun_mk (st := s_Won_init) l_Won_init c_Won_init k_Won_init⟩,
    D_check_all := ⟨f_check_all, _, PySem.W.mg_of X G a_check_all, fun_mk (st := s_check_all) l_check_all c_check_all k_check_all⟩,
    D_told := ⟨f_told, _, PySem.W.mg_of X G a_told, fun_mk (st := s_told) l_told c_told k_told⟩,
    D_behind := ⟨f_behind, _, PySem.W.mg_of X G a_behind, fun_mk (st := s_behind) l_behind c_behind k_behind⟩,
    D__law_cell_at := ⟨f__law_cell_at, _, PySem.W.mg_of X G a__law_cell_at, fun_mk (st := s__law_cell_at) l__law_cell_at c__law_cell_at k__law_cell_at⟩,
    D__law_draw := ⟨f__law_draw, _, PySem.W.mg_of X G a__law_draw, fun_mk (st := s__law_draw) l__law_draw c__law_draw k__law_draw⟩,
    D__law_value := ⟨f__law_value, _, PySem.W.mg_of X G a__law_value, fun_mk (st := s__law_value) l__law_value c__law_value k__law_value⟩,
    D__law_factor := ⟨f__law_factor, _, PySem.W.mg_of X G a__law_factor, fun_mk (st := s__law_factor) l__law_factor c__law_factor k__law_factor⟩,
    D__law_kinds := ⟨f__law_kinds, _, PySem.W.mg_of X G a__law_kinds, fun_mk (st := s__law_kinds) l__law_kinds c__law_kinds k__law_kinds⟩,
    D__law_with_factor := ⟨f__law_with_factor, _, PySem.W.mg_of X G a__law_with_factor, fun_mk (st := s__law_with_factor) l__law_with_factor c__law_with_factor k__law_with_factor⟩,
    D__law_with_heap := ⟨f__law_with_heap, _, PySem.W.mg_of X G a__law_with_heap, fun_mk (st := s__law_with_heap) l__law_with_heap c__law_with_heap k__law_with_heap⟩,
    D__law_with_limit := ⟨f__law_with_limit, _, PySem.W.mg_of X G a__law_with_limit, fun_mk (st := s__law_with_limit) l__law_with_limit c__law_with_limit k__law_with_limit⟩,
    D__law_with_number := ⟨f__law_with_number, _, PySem.W.mg_of X G a__law_with_number, fun_mk (st := s__law_with_number) l__law_with_number c__law_with_number k__law_with_number⟩,
    D__law_with_sum := ⟨f__law_with_sum, _, PySem.W.mg_of X G a__law_with_sum, fun_mk (st := s__law_with_sum) l__law_with_sum c__law_with_sum k__law_with_sum⟩,
    D__law_with_taking := ⟨f__law_with_taking, _, PySem.W.mg_of X G a__law_with_taking, fun_mk (st := s__law_with_taking) l__law_with_taking c__law_with_taking k__law_with_taking⟩,
    D__law_told := ⟨f__law_told, _, PySem.W.mg_of X G a__law_told, fun_mk (st := s__law_told) l__law_told c__law_told k__law_told⟩,
    D__law_all := ⟨f__law_all, _, PySem.W.mg_of X G a__law_all, fun_mk (st := s__law_all) l__law_all c__law_all k__law_all⟩,
    bs_TakeError := bs_TakeError,
    hd_TakeError := hd_TakeError,
    tp_TakeError := tp_TakeError,
    b_ValueError := PySem.W.mg_none_of X G z_ValueError,
    x_BadFactor := ⟨PySem.W.mg_of X G e_BadFactor, xe_BadFactor, kp_BadFactor, bs_BadFactor, ve_BadFactor, tk_BadFactor, tp_BadFactor, ⟨ga_BadFactor, gt_BadFactor, bs_BadFactor, hd_BadFactor, hc_BadFactor, hn_, htk_, hm_BadFactor⟩⟩,
    x_BadHeap := ⟨PySem.W.mg_of X G e_BadHeap, xe_BadHeap, kp_BadHeap, bs_BadHeap, ve_BadHeap, tk_BadHeap, tp_BadHeap, ⟨ga_BadHeap, gt_BadHeap, bs_BadHeap, hd_BadHeap, hc_BadHeap, hn_, htk_, hm_BadHeap⟩⟩,
    x_BadLimit := ⟨PySem.W.mg_of X G e_BadLimit, xe_BadLimit, kp_BadLimit, bs_BadLimit, ve_BadLimit, tk_BadLimit, tp_BadLimit, ⟨ga_BadLimit, gt_BadLimit, bs_BadLimit, hd_BadLimit, hc_BadLimit, hn_, htk_, hm_BadLimit⟩⟩,
    x_BadNumber := ⟨PySem.W.mg_of X G e_BadNumber, xe_BadNumber, kp_BadNumber, bs_BadNumber, ve_BadNumber, tk_BadNumber, tp_BadNumber, ⟨ga_BadNumber, gt_BadNumber, bs_BadNumber, hd_BadNumber, hc_BadNumber, hn_, htk_, hm_BadNumber⟩⟩,
    x_BadSum := ⟨PySem.W.mg_of X G e_BadSum, xe_BadSum, kp_BadSum, bs_BadSum, ve_BadSum, tk_BadSum, tp_BadSum, ⟨ga_BadSum, gt_BadSum, bs_BadSum, hd_BadSum, hc_BadSum, hn_, htk_, hm_BadSum⟩⟩,
    x_BadTaking := ⟨PySem.W.mg_of X G e_BadTaking, xe_BadTaking, kp_BadTaking, bs_BadTaking, ve_BadTaking, tk_BadTaking, tp_BadTaking, ⟨ga_BadTaking, gt_BadTaking, bs_BadTaking, hd_BadTaking, hc_BadTaking, hn_, htk_, hm_BadTaking⟩⟩,
    kt_BadFactor_BadFactor := kit_self,
    kt_BadFactor_BadHeap := kit_own is_BadHeap tp_BadHeap sb_BadFactor_BadHeap (fun _ => ne_BadFactor_BadHeap),
    kt_BadFactor_BadLimit := kit_own is_BadLimit tp_BadLimit sb_BadFactor_BadLimit (fun _ => ne_BadFactor_BadLimit),
    kt_BadFactor_BadNumber := kit_own is_BadNumber tp_BadNumber sb_BadFactor_BadNumber (fun _ => ne_BadFactor_BadNumber),
    kt_BadFactor_BadSum := kit_own is_BadSum tp_BadSum sb_BadFactor_BadSum (fun _ => ne_BadFactor_BadSum),
    kt_BadFactor_BadTaking := kit_own is_BadTaking tp_BadTaking sb_BadFactor_BadTaking (fun _ => ne_BadFactor_BadTaking),
    kt_BadHeap_BadFactor := kit_own is_BadFactor tp_BadFactor sb_BadHeap_BadFactor (fun _ => ne_BadFactor_BadHeap.symm),
    kt_BadHeap_BadHeap := kit_self,
    kt_BadHeap_BadLimit := kit_own is_BadLimit tp_BadLimit sb_BadHeap_BadLimit (fun _ => ne_BadHeap_BadLimit),
    kt_BadHeap_BadNumber := kit_own is_BadNumber tp_BadNumber sb_BadHeap_BadNumber (fun _ => ne_BadHeap_BadNumber),
    kt_BadHeap_BadSum := kit_own is_BadSum tp_BadSum sb_BadHeap_BadSum (fun _ => ne_BadHeap_BadSum),
    kt_BadHeap_BadTaking := kit_own is_BadTaking tp_BadTaking sb_BadHeap_BadTaking (fun _ => ne_BadHeap_BadTaking),
    kt_BadLimit_BadFactor := kit_own is_BadFactor tp_BadFactor sb_BadLimit_BadFactor (fun _ => ne_BadFactor_BadLimit.symm),
    kt_BadLimit_BadHeap := kit_own is_BadHeap tp_BadHeap sb_BadLimit_BadHeap (fun _ => ne_BadHeap_BadLimit.symm),
    kt_BadLimit_BadLimit := kit_self,
    kt_BadLimit_BadNumber := kit_own is_BadNumber tp_BadNumber sb_BadLimit_BadNumber (fun _ => ne_BadLimit_BadNumber),
    kt_BadLimit_BadSum := kit_own is_BadSum tp_BadSum sb_BadLimit_BadSum (fun _ => ne_BadLimit_BadSum),
    kt_BadLimit_BadTaking := kit_own is_BadTaking tp_BadTaking sb_BadLimit_BadTaking (fun _ => ne_BadLimit_BadTaking),
    kt_BadNumber_BadFactor := kit_own is_BadFactor tp_BadFactor sb_BadNumber_BadFactor (fun _ => ne_BadFactor_BadNumber.symm),
    kt_BadNumber_BadHeap := kit_own is_BadHeap tp_BadHeap sb_BadNumber_BadHeap (fun _ => ne_BadHeap_BadNumber.symm),
    kt_BadNumber_BadLimit := kit_own is_BadLimit tp_BadLimit sb_BadNumber_BadLimit (fun _ => ne_BadLimit_BadNumber.symm),
    kt_BadNumber_BadNumber := kit_self,
    kt_BadNumber_BadSum := kit_own is_BadSum tp_BadSum sb_BadNumber_BadSum (fun _ => ne_BadNumber_BadSum),
    kt_BadNumber_BadTaking := kit_own is_BadTaking tp_BadTaking sb_BadNumber_BadTaking (fun _ => ne_BadNumber_BadTaking),
    kt_BadSum_BadFactor := kit_own is_BadFactor tp_BadFactor sb_BadSum_BadFactor (fun _ => ne_BadFactor_BadSum.symm),
    kt_BadSum_BadHeap := kit_own is_BadHeap tp_BadHeap sb_BadSum_BadHeap (fun _ => ne_BadHeap_BadSum.symm),
    kt_BadSum_BadLimit := kit_own is_BadLimit tp_BadLimit sb_BadSum_BadLimit (fun _ => ne_BadLimit_BadSum.symm),
    kt_BadSum_BadNumber := kit_own is_BadNumber tp_BadNumber sb_BadSum_BadNumber (fun _ => ne_BadNumber_BadSum.symm),
    kt_BadSum_BadSum := kit_self,
    kt_BadSum_BadTaking := kit_own is_BadTaking tp_BadTaking sb_BadSum_BadTaking (fun _ => ne_BadSum_BadTaking),
    kt_BadTaking_BadFactor := kit_own is_BadFactor tp_BadFactor sb_BadTaking_BadFactor (fun _ => ne_BadFactor_BadTaking.symm),
    kt_BadTaking_BadHeap := kit_own is_BadHeap tp_BadHeap sb_BadTaking_BadHeap (fun _ => ne_BadHeap_BadTaking.symm),
    kt_BadTaking_BadLimit := kit_own is_BadLimit tp_BadLimit sb_BadTaking_BadLimit (fun _ => ne_BadLimit_BadTaking.symm),
    kt_BadTaking_BadNumber := kit_own is_BadNumber tp_BadNumber sb_BadTaking_BadNumber (fun _ => ne_BadNumber_BadTaking.symm),
    kt_BadTaking_BadSum := kit_own is_BadSum tp_BadSum sb_BadTaking_BadSum (fun _ => ne_BadSum_BadTaking.symm),
    kt_BadTaking_BadTaking := kit_self,
    e_TakeError := PySem.W.mg_of X G e_TakeError,
    e_BadFactor := PySem.W.mg_of X G e_BadFactor,
    e_BadHeap := PySem.W.mg_of X G e_BadHeap,
    e_BadLimit := PySem.W.mg_of X G e_BadLimit,
    e_BadNumber := PySem.W.mg_of X G e_BadNumber,
    e_BadSum := PySem.W.mg_of X G e_BadSum,
    e_BadTaking := PySem.W.mg_of X G e_BadTaking,
    e_Steps := PySem.W.mg_of X G e_Steps,
    mk_Steps := mk_Steps,
    kp_Steps := kp_Steps,
    cl_Steps := ⟨pg_Steps, hd_Steps, po_Steps, sa_Steps⟩,
    n_Steps_factor := n_Steps_factor,
    n_Steps_made := n_Steps_made,
    n_Steps_least := n_Steps_least,
    e_Lost := PySem.W.mg_of X G e_Lost,
    mk_Lost := mk_Lost,
    kp_Lost := kp_Lost,
    cl_Lost := ⟨pg_Lost, hd_Lost, po_Lost, sa_Lost⟩,
    n_Lost_parts := n_Lost_parts,
    e_Won := PySem.W.mg_of X G e_Won,
    mk_Won := mk_Won,
    kp_Won := kp_Won,
    cl_Won := ⟨pg_Won, hd_Won, po_Won, sa_Won⟩,
    n_Won_taking := n_Won_taking,
    b_range := PySem.W.mg_none_of X G z_range,
    b_all := PySem.W.mg_none_of X G z_all,
    b_sum := PySem.W.mg_none_of X G z_sum,
    b_isinstance := PySem.W.mg_none_of X G z_isinstance,
    b_int := PySem.W.mg_none_of X G z_int,
    b_list := PySem.W.mg_none_of X G z_list,
    b_len := PySem.W.mg_none_of X G z_len,
    b_bool := PySem.W.mg_none_of X G z_bool,
    b_min := PySem.W.mg_none_of X G z_min,
    m_GREATEST := ⟨t_GREATEST, PySem.W.mg_of X G g_GREATEST⟩,
    m_MOST := ⟨t_MOST, PySem.W.mg_of X G g_MOST⟩ }
  exact ⟨PySem.W.fnOf "law" "law" (defArgs s_law) (defBody s_law) (defScope s_law) .none kV_law dc_law pm_law an_law cd_law ct_law, fun s v => .of_eq rfl, fun base _ _ => ok_law T (fun_mk (st := s_law) l_law c_law k_law)⟩
theorem walk {l : PySem.W.OpenLaw} {q : Program} {loose : List Str} {XP : (Str → Option Value) → Heap → Prop} {YP : World → Heap → Prop} {d : DefRec} {K : Params → PySem.W.Frag} (hn : l.most = some 63) (hdf : d.params.defaults = [])
    (hY : ∀ (w : World) (h : Heap), YP w h → (K w.params).In h)
    (F : ∀ (w : World) (mg : Str → Option Value) (fa : Addr) (h : Heap), (K w.params).In h → h.Ns mainGlobals mg → mg d.name = some (.ref fa) →
      ∃ fd : FuncData, (∀ (s : Shared) (u : Value), BindsTo s fd ⟨[u], []⟩ [("_law_script", u)]) ∧ ∀ base : Heap, (K w.params).In base → base.Ns mainGlobals mg → FnOk l.prog w (K w.params) mg base CX0 60 fa fd ["_law_script"] (sp_law (K w.params))) :
    PySem.W.WalkO q loose XP YP l.row.toRowW d [] (fun f vs => PySem.call f vs) :=
  L2.walk_ofB (n := 63) (k := 60) (x := "_law_script") (CX := fun _ => CX0) (sp := fun w => sp_law (K w.params)) hn (by decide) hdf ⟨rfl, by decide, by decide⟩ hY F (fun w H a ns hl hb _ hS => by
    obtain ⟨B, hB⟩ : ∃ B : Nat, B = 1048576 := ⟨_, rfl⟩
    exact ⟨a, B, rfl, ⟨ns, hS, hl, fun z hz => bits_abs (by rw [hB]; exact hb z hz)⟩, by omega, fun _ => rfl⟩) fun _ _ _ _ _ z => z
end Tx
open PySem PySem.W PyProof.Rows
set_option maxRecDepth 100000 in
set_option maxHeartbeats 0 in
theorem PySem.Challenge.cw_takeagain_k05_refused_holds : PySem.Challenge.rw_takeagain_k05_refused.Holds := by
  w_on; o_law; k_head; (case hw => w_witness2)
  k_fill
  refine Tx.walk (l := PySem.Challenge.rw_takeagain_k05_refused) rfl rfl (fun w h Y => PySem.W.kIn_of Y) ?F
  case F =>
    intro w mg fa h KX G hmg
    refine' Tx.all_mk KX G hmg ?e_TakeError ?e_BadFactor ?e_BadHeap ?e_BadLimit ?e_BadNumber ?e_BadSum ?e_BadTaking ?e_Steps ?e_Lost ?e_Won ?a_is_whole ?l_is_whole ?c_is_whole ?k_is_whole ?a_check_factor ?l_check_factor ?c_check_factor ?k_check_factor ?a_check_heap ?l_check_heap ?c_check_heap ?k_check_heap ?a_Steps_init ?i_Steps_init ?l_Steps_init ?c_Steps_init ?k_Steps_init ?a_Steps_more ?i_Steps_more ?l_Steps_more ?c_Steps_more ?k_Steps_more ?a_steps_to ?l_steps_to ?c_steps_to ?k_steps_to ?a_step_by ?l_step_by ?c_step_by ?k_step_by ?a_parts_of ?l_parts_of ?c_parts_of ?k_parts_of ?a_sum_of ?l_sum_of ?c_sum_of ?k_sum_of ?a_is_sum ?l_is_sum ?c_is_sum ?k_is_sum ?a_whole ?l_whole ?c_whole ?k_whole ?a_Lost_init ?i_Lost_init ?l_Lost_init ?c_Lost_init ?k_Lost_init ?a_Won_init ?i_Won_init ?l_Won_init ?c_Won_init ?k_Won_init ?a_check_all ?l_check_all ?c_check_all ?k_check_all ?a_told ?l_told ?c_told ?k_told ?a_behind ?l_behind ?c_behind ?k_behind ?a__law_cell_at ?l__law_cell_at ?c__law_cell_at ?k__law_cell_at ?a__law_draw ?l__law_draw ?c__law_draw ?k__law_draw ?a__law_value ?l__law_value ?c__law_value ?k__law_value ?a__law_factor ?l__law_factor ?c__law_factor ?k__law_factor ?a__law_kinds ?l__law_kinds ?c__law_kinds ?k__law_kinds ?a__law_with_factor ?l__law_with_factor ?c__law_with_factor ?k__law_with_factor ?a__law_with_heap ?l__law_with_heap ?c__law_with_heap ?k__law_with_heap ?a__law_with_limit ?l__law_with_limit ?c__law_with_limit ?k__law_with_limit ?a__law_with_number ?l__law_with_number ?c__law_with_number ?k__law_with_number ?a__law_with_sum ?l__law_with_sum ?c__law_with_sum ?k__law_with_sum ?a__law_with_taking ?l__law_with_taking ?c__law_with_taking ?k__law_with_taking ?a__law_told ?l__law_told ?c__law_told ?k__law_told ?a__law_all ?l__law_all ?c__law_all ?k__law_all ?a_law ?l_law ?c_law ?k_law ?hn_ ?htk_ ?bs_TakeError ?hd_TakeError ?tp_TakeError ?z_ValueError ?xe_BadFactor ?kp_BadFactor ?bs_BadFactor ?ve_BadFactor ?tk_BadFactor ?tp_BadFactor ?is_BadFactor ?ga_BadFactor ?gt_BadFactor ?hd_BadFactor ?hc_BadFactor ?hm_BadFactor ?xe_BadHeap ?kp_BadHeap ?bs_BadHeap ?ve_BadHeap ?tk_BadHeap ?tp_BadHeap ?is_BadHeap ?ga_BadHeap ?gt_BadHeap ?hd_BadHeap ?hc_BadHeap ?hm_BadHeap ?xe_BadLimit ?kp_BadLimit ?bs_BadLimit ?ve_BadLimit ?tk_BadLimit ?tp_BadLimit ?is_BadLimit ?ga_BadLimit ?gt_BadLimit ?hd_BadLimit ?hc_BadLimit ?hm_BadLimit ?xe_BadNumber ?kp_BadNumber ?bs_BadNumber ?ve_BadNumber ?tk_BadNumber ?tp_BadNumber ?is_BadNumber ?ga_BadNumber ?gt_BadNumber ?hd_BadNumber ?hc_BadNumber ?hm_BadNumber ?xe_BadSum ?kp_BadSum ?bs_BadSum ?ve_BadSum ?tk_BadSum ?tp_BadSum ?is_BadSum ?ga_BadSum ?gt_BadSum ?hd_BadSum ?hc_BadSum ?hm_BadSum ?xe_BadTaking ?kp_BadTaking ?bs_BadTaking ?ve_BadTaking ?tk_BadTaking ?tp_BadTaking ?is_BadTaking ?ga_BadTaking ?gt_BadTaking ?hd_BadTaking ?hc_BadTaking ?hm_BadTaking ?ne_BadFactor_BadHeap ?ne_BadFactor_BadLimit ?ne_BadFactor_BadNumber ?ne_BadFactor_BadSum ?ne_BadFactor_BadTaking ?ne_BadHeap_BadLimit ?ne_BadHeap_BadNumber ?ne_BadHeap_BadSum ?ne_BadHeap_BadTaking ?ne_BadLimit_BadNumber ?ne_BadLimit_BadSum ?ne_BadLimit_BadTaking ?ne_BadNumber_BadSum ?ne_BadNumber_BadTaking ?ne_BadSum_BadTaking ?sb_BadFactor_BadHeap ?sb_BadFactor_BadLimit ?sb_BadFactor_BadNumber ?sb_BadFactor_BadSum ?sb_BadFactor_BadTaking ?sb_BadHeap_BadFactor ?sb_BadHeap_BadLimit ?sb_BadHeap_BadNumber ?sb_BadHeap_BadSum ?sb_BadHeap_BadTaking ?sb_BadLimit_BadFactor ?sb_BadLimit_BadHeap ?sb_BadLimit_BadNumber ?sb_BadLimit_BadSum ?sb_BadLimit_BadTaking ?sb_BadNumber_BadFactor ?sb_BadNumber_BadHeap ?sb_BadNumber_BadLimit ?sb_BadNumber_BadSum ?sb_BadNumber_BadTaking ?sb_BadSum_BadFactor ?sb_BadSum_BadHeap ?sb_BadSum_BadLimit ?sb_BadSum_BadNumber ?sb_BadSum_BadTaking ?sb_BadTaking_BadFactor ?sb_BadTaking_BadHeap ?sb_BadTaking_BadLimit ?sb_BadTaking_BadNumber ?sb_BadTaking_BadSum ?mk_Steps ?kp_Steps ?pg_Steps ?hd_Steps ?po_Steps ?sa_Steps ?n_Steps_factor ?n_Steps_made ?n_Steps_least ?mk_Lost ?kp_Lost ?pg_Lost ?hd_Lost ?po_Lost ?sa_Lost ?n_Lost_parts ?mk_Won ?kp_Won ?pg_Won ?hd_Won ?po_Won ?sa_Won ?n_Won_taking ?z_range ?z_all ?z_sum ?z_isinstance ?z_int ?z_list ?z_len ?z_bool ?z_min ?g_GREATEST ?g_MOST
    (case e_TakeError => k_is)
    (case e_BadFactor => k_is)
    (case e_BadHeap => k_is)
    (case e_BadLimit => k_is)
    (case e_BadNumber => k_is)
    (case e_BadSum => k_is)
    (case e_BadTaking => k_is)
    (case e_Steps => k_is)
    (case e_Lost => k_is)
    (case e_Won => k_is)
    (case a_is_whole => k_is)
    (case l_is_whole => k_is)
    (case c_is_whole => k_is)
    (case k_is_whole => k_is)
    (case a_check_factor => k_is)
    (case l_check_factor => k_is)
    (case c_check_factor => k_is)
    (case k_check_factor => k_is)
    (case a_check_heap => k_is)
    (case l_check_heap => k_is)
    (case c_check_heap => k_is)
    (case k_check_heap => k_is)
    (case a_Steps_init => k_is)
    (case i_Steps_init => k_is)
    (case l_Steps_init => k_is)
    (case c_Steps_init => k_is)
    (case k_Steps_init => k_is)
    (case a_Steps_more => k_is)
    (case i_Steps_more => k_is)
    (case l_Steps_more => k_is)
    (case c_Steps_more => k_is)
    (case k_Steps_more => k_is)
    (case a_steps_to => k_is)
    (case l_steps_to => k_is)
    (case c_steps_to => k_is)
    (case k_steps_to => k_is)
    (case a_step_by => k_is)
    (case l_step_by => k_is)
    (case c_step_by => k_is)
    (case k_step_by => k_is)
    (case a_parts_of => k_is)
    (case l_parts_of => k_is)
    (case c_parts_of => k_is)
    (case k_parts_of => k_is)
    (case a_sum_of => k_is)
    (case l_sum_of => k_is)
    (case c_sum_of => k_is)
    (case k_sum_of => k_is)
    (case a_is_sum => k_is)
    (case l_is_sum => k_is)
    (case c_is_sum => k_is)
    (case k_is_sum => k_is)
    (case a_whole => k_is)
    (case l_whole => k_is)
    (case c_whole => k_is)
    (case k_whole => k_is)
    (case a_Lost_init => k_is)
    (case i_Lost_init => k_is)
    (case l_Lost_init => k_is)
    (case c_Lost_init => k_is)
    (case k_Lost_init => k_is)
    (case a_Won_init => k_is)
    (case i_Won_init => k_is)
    (case l_Won_init => k_is)
    (case c_Won_init => k_is)
    (case k_Won_init => k_is)
    (case a_check_all => k_is)
    (case l_check_all => k_is)
    (case c_check_all => k_is)
    (case k_check_all => k_is)
    (case a_told => k_is)
    (case l_told => k_is)
    (case c_told => k_is)
    (case k_told => k_is)
    (case a_behind => k_is)
    (case l_behind => k_is)
    (case c_behind => k_is)
    (case k_behind => k_is)
    (case a__law_cell_at => k_is)
    (case l__law_cell_at => k_is)
    (case c__law_cell_at => k_is)
    (case k__law_cell_at => k_is)
    (case a__law_draw => k_is)
    (case l__law_draw => k_is)
    (case c__law_draw => k_is)
    (case k__law_draw => k_is)
    (case a__law_value => k_is)
    (case l__law_value => k_is)
    (case c__law_value => k_is)
    (case k__law_value => k_is)
    (case a__law_factor => k_is)
    (case l__law_factor => k_is)
    (case c__law_factor => k_is)
    (case k__law_factor => k_is)
    (case a__law_kinds => k_is)
    (case l__law_kinds => k_is)
    (case c__law_kinds => k_is)
    (case k__law_kinds => k_is)
    (case a__law_with_factor => k_is)
    (case l__law_with_factor => k_is)
    (case c__law_with_factor => k_is)
    (case k__law_with_factor => k_is)
    (case a__law_with_heap => k_is)
    (case l__law_with_heap => k_is)
    (case c__law_with_heap => k_is)
    (case k__law_with_heap => k_is)
    (case a__law_with_limit => k_is)
    (case l__law_with_limit => k_is)
    (case c__law_with_limit => k_is)
    (case k__law_with_limit => k_is)
    (case a__law_with_number => k_is)
    (case l__law_with_number => k_is)
    (case c__law_with_number => k_is)
    (case k__law_with_number => k_is)
    (case a__law_with_sum => k_is)
    (case l__law_with_sum => k_is)
    (case c__law_with_sum => k_is)
    (case k__law_with_sum => k_is)
    (case a__law_with_taking => k_is)
    (case l__law_with_taking => k_is)
    (case c__law_with_taking => k_is)
    (case k__law_with_taking => k_is)
    (case a__law_told => k_is)
    (case l__law_told => k_is)
    (case c__law_told => k_is)
    (case k__law_told => k_is)
    (case a__law_all => k_is)
    (case l__law_all => k_is)
    (case c__law_all => k_is)
    (case k__law_all => k_is)
    (case a_law => k_is)
    (case l_law => k_is)
    (case c_law => k_is)
    (case k_law => k_is)
    (case hn_ => k_is)
    (case htk_ => k_is)
    (case bs_TakeError => k_is)
    (case hd_TakeError => k_is)
    (case tp_TakeError => k_is)
    (case z_ValueError => k_is)
    (case xe_BadFactor => k_exc)
    (case kp_BadFactor => k_is)
    (case bs_BadFactor => k_is)
    (case ve_BadFactor => k_is)
    (case tk_BadFactor => k_is)
    (case tp_BadFactor => k_is)
    (case is_BadFactor => k_is)
    (case ga_BadFactor => k_is)
    (case gt_BadFactor => k_is)
    (case hd_BadFactor => k_is)
    (case hc_BadFactor => k_is)
    (case hm_BadFactor => k_is)
    (case xe_BadHeap => k_exc)
    (case kp_BadHeap => k_is)
    (case bs_BadHeap => k_is)
    (case ve_BadHeap => k_is)
    (case tk_BadHeap => k_is)
    (case tp_BadHeap => k_is)
    (case is_BadHeap => k_is)
    (case ga_BadHeap => k_is)
    (case gt_BadHeap => k_is)
    (case hd_BadHeap => k_is)
    (case hc_BadHeap => k_is)
    (case hm_BadHeap => k_is)
    (case xe_BadLimit => k_exc)
    (case kp_BadLimit => k_is)
    (case bs_BadLimit => k_is)
    (case ve_BadLimit => k_is)
    (case tk_BadLimit => k_is)
    (case tp_BadLimit => k_is)
    (case is_BadLimit => k_is)
    (case ga_BadLimit => k_is)
    (case gt_BadLimit => k_is)
    (case hd_BadLimit => k_is)
    (case hc_BadLimit => k_is)
    (case hm_BadLimit => k_is)
    (case xe_BadNumber => k_exc)
    (case kp_BadNumber => k_is)
    (case bs_BadNumber => k_is)
    (case ve_BadNumber => k_is)
    (case tk_BadNumber => k_is)
    (case tp_BadNumber => k_is)
    (case is_BadNumber => k_is)
    (case ga_BadNumber => k_is)
    (case gt_BadNumber => k_is)
    (case hd_BadNumber => k_is)
    (case hc_BadNumber => k_is)
    (case hm_BadNumber => k_is)
    (case xe_BadSum => k_exc)
    (case kp_BadSum => k_is)
    (case bs_BadSum => k_is)
    (case ve_BadSum => k_is)
    (case tk_BadSum => k_is)
    (case tp_BadSum => k_is)
    (case is_BadSum => k_is)
    (case ga_BadSum => k_is)
    (case gt_BadSum => k_is)
    (case hd_BadSum => k_is)
    (case hc_BadSum => k_is)
    (case hm_BadSum => k_is)
    (case xe_BadTaking => k_exc)
    (case kp_BadTaking => k_is)
    (case bs_BadTaking => k_is)
    (case ve_BadTaking => k_is)
    (case tk_BadTaking => k_is)
    (case tp_BadTaking => k_is)
    (case is_BadTaking => k_is)
    (case ga_BadTaking => k_is)
    (case gt_BadTaking => k_is)
    (case hd_BadTaking => k_is)
    (case hc_BadTaking => k_is)
    (case hm_BadTaking => k_is)
    (case ne_BadFactor_BadHeap => decide)
    (case ne_BadFactor_BadLimit => decide)
    (case ne_BadFactor_BadNumber => decide)
    (case ne_BadFactor_BadSum => decide)
    (case ne_BadFactor_BadTaking => decide)
    (case ne_BadHeap_BadLimit => decide)
    (case ne_BadHeap_BadNumber => decide)
    (case ne_BadHeap_BadSum => decide)
    (case ne_BadHeap_BadTaking => decide)
    (case ne_BadLimit_BadNumber => decide)
    (case ne_BadLimit_BadSum => decide)
    (case ne_BadLimit_BadTaking => decide)
    (case ne_BadNumber_BadSum => decide)
    (case ne_BadNumber_BadTaking => decide)
    (case ne_BadSum_BadTaking => decide)
    (case sb_BadFactor_BadHeap => k_is)
    (case sb_BadFactor_BadLimit => k_is)
    (case sb_BadFactor_BadNumber => k_is)
    (case sb_BadFactor_BadSum => k_is)
    (case sb_BadFactor_BadTaking => k_is)
    (case sb_BadHeap_BadFactor => k_is)
    (case sb_BadHeap_BadLimit => k_is)
    (case sb_BadHeap_BadNumber => k_is)
    (case sb_BadHeap_BadSum => k_is)
    (case sb_BadHeap_BadTaking => k_is)
    (case sb_BadLimit_BadFactor => k_is)
    (case sb_BadLimit_BadHeap => k_is)
    (case sb_BadLimit_BadNumber => k_is)
    (case sb_BadLimit_BadSum => k_is)
    (case sb_BadLimit_BadTaking => k_is)
    (case sb_BadNumber_BadFactor => k_is)
    (case sb_BadNumber_BadHeap => k_is)
    (case sb_BadNumber_BadLimit => k_is)
    (case sb_BadNumber_BadSum => k_is)
    (case sb_BadNumber_BadTaking => k_is)
    (case sb_BadSum_BadFactor => k_is)
    (case sb_BadSum_BadHeap => k_is)
    (case sb_BadSum_BadLimit => k_is)
    (case sb_BadSum_BadNumber => k_is)
    (case sb_BadSum_BadTaking => k_is)
    (case sb_BadTaking_BadFactor => k_is)
    (case sb_BadTaking_BadHeap => k_is)
    (case sb_BadTaking_BadLimit => k_is)
    (case sb_BadTaking_BadNumber => k_is)
    (case sb_BadTaking_BadSum => k_is)
    (case mk_Steps => k_is)
    (case kp_Steps => k_is)
    (case pg_Steps => k_is)
    (case hd_Steps => k_is)
    (case po_Steps => k_is)
    (case sa_Steps => k_is)
    (case n_Steps_factor => k_is)
    (case n_Steps_made => k_is)
    (case n_Steps_least => k_is)
    (case mk_Lost => k_is)
    (case kp_Lost => k_is)
    (case pg_Lost => k_is)
    (case hd_Lost => k_is)
    (case po_Lost => k_is)
    (case sa_Lost => k_is)
    (case n_Lost_parts => k_is)
    (case mk_Won => k_is)
    (case kp_Won => k_is)
    (case pg_Won => k_is)
    (case hd_Won => k_is)
    (case po_Won => k_is)
    (case sa_Won => k_is)
    (case n_Won_taking => k_is)
    (case z_range => k_is)
    (case z_all => k_is)
    (case z_sum => k_is)
    (case z_isinstance => k_is)
    (case z_int => k_is)
    (case z_list => k_is)
    (case z_len => k_is)
    (case z_bool => k_is)
    (case z_min => k_is)
    (case g_GREATEST => k_is)
    (case g_MOST => k_is)
#print axioms PySem.Challenge.cw_takeagain_k05_refused_holds
