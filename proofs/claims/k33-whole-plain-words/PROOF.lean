import PyProof.Rows.All
import Wide.All
import OpenK.AllK
import Wide.FinOn
import HandS.Evl
import HandS.Codes
import HandS.Iter
import HandS.Comp
import HandS.Property
import HandS.ClsMeth
import HandS.Star
import HandS.OwnEq
import HandS.IsInst
import HandS.CallLocal
import HandS.Text
import HandS.Conv
import HandS.More
import HandS.Dict
import HandS.SetBool
import HandS.Defaults
import KE.GoesEnum
import HandS.ForMost
import PyProof.GenRules
import PyProof.GenQ
import HandS.GenOver
import HandS.GenCall
import HandS.GenList
import PyProof.ListNew
import HandS.DictComp
import KE.KDictPairs
import HandS.Strs
import HandS.Ends
import PySem.Challenge.RW_maprows_k33_whole_plain_words
set_option Elab.async false
set_option linter.all false
section
set_option maxRecDepth 100000
set_option maxHeartbeats 1000000
/-! Readings by weakest preconditions: expressions by what their values satisfy, blocks by continuations. -/
namespace FU
open PySem PySem.Spec PyProof.Rows L2
open Evl (Ex)

/-- a word about a value, kept as the heap grows -/
structure Wd where
  p : V → Hp → Prop
  st : ∀ {v : V} {H H' : Hp}, Ex H H' → p v H → p v H'
instance : CoeFun Wd (fun _ => V → Hp → Prop) := ⟨Wd.p⟩
def isv (v : V) : Wd := ⟨fun x _ => x = v, fun _ h => h⟩
abbrev isI (i : Int) : Wd := isv (.int i)
abbrev isB (b : Bool) : Wd := isv (.bl b)
abbrev isS (s : Str) : Wd := isv (.str s)
abbrev isN : Wd := isv .non

/-! ### the readings that are always right -/
section
variable {X : Cx}
def wE (X : Cx) (e : Expr) : TE := fun σ H Q => ∀ pins s, L2.Inv X pins σ H s → wpAny (model X.prog X.w) X.A (eval e X.env) (EP X pins σ Q) X.xe s
def wT (X : Cx) (e : Expr) : TT := fun σ H Q => ∀ pins s, L2.Inv X pins σ H s → wpAny (model X.prog X.w) X.A (isTrue e X.env (eval e X.env)) (TP X pins σ Q) X.xe s
def wA (X : Cx) (es : List Expr) : TA := fun σ H Q => ∀ pos pins s, L2.Inv X pins σ H s → wpAny (model X.prog X.w) X.A (spliced (backTo pos (starEach es X.env))) (AP X pins σ Q) X.xe s
def wS (X : Cx) (st : Stmt) : TS := fun D σ H => ∀ pins s, L2.Inv X pins σ H s → wpAny (model X.prog X.w) X.A (exec st X.env) (L2.SP X pins D) X.xe s
def wSs (X : Cx) (st : List Stmt) : TS := fun D σ H => ∀ pins s, L2.Inv X pins σ H s → wpAny (model X.prog X.w) X.A (execs st X.env) (L2.SP X pins D) X.xe s
theorem rE {e : Expr} : PE X e (wE X e) := ⟨fun pins s _ _ _ I h => h pins s I⟩
theorem rT {e : Expr} : PT X e (wT X e) := ⟨fun pins s _ _ _ I h => h pins s I⟩
theorem rA {es : List Expr} : PA X es (wA X es) := ⟨fun pos pins s _ _ _ I h => h pos pins s I⟩
theorem rS {st : Stmt} : PS X st (wS X st) := ⟨fun pins s _ _ _ I h => h pins s I⟩
theorem rSs {st : List Stmt} : PSs X st (wSs X st) := ⟨fun pins s _ _ _ I h => h pins s I⟩
theorem ofE {e : Expr} {te : TE} (h : PE X e te) {σ H Q} (q : te σ H Q) : wE X e σ H Q := fun pins s I => h.run pins s σ H Q I q
theorem ofT {e : Expr} {te : TT} (h : PT X e te) {σ H Q} (q : te σ H Q) : wT X e σ H Q := fun pins s I => h.run pins s σ H Q I q
theorem ofA {es : List Expr} {te : TA} (h : PA X es te) {σ H Q} (q : te σ H Q) : wA X es σ H Q := fun pos pins s I => h.run pos pins s σ H Q I q
theorem ofS {st : Stmt} {t : TS} (h : PS X st t) {D σ H} (q : t D σ H) : wS X st D σ H := fun pins s I => h.run pins s σ H D I q
theorem ofSs {st : List Stmt} {t : TS} (h : PSs X st t) {D σ H} (q : t D σ H) : wSs X st D σ H := fun pins s I => h.run pins s σ H D I q

/-! ### judgements -/
def Evp (te : TE) (σ : L2.St) (H : Hp) (P : Wd) : Prop := ∀ H1, Ex H H1 → ∀ Q : VK, (∀ v H2, Ex H1 H2 → P v H2 → Q v H2) → te σ H1 Q
def EvE (X : Cx) (e : Expr) (σ : L2.St) (H : Hp) (P : Wd) : Prop := Evp (wE X e) σ H P
def EvT (X : Cx) (e : Expr) (σ : L2.St) (H : Hp) (b : Bool) : Prop := ∀ H1, Ex H H1 → ∀ Q : Bool → Hp → Prop, (∀ H2, Ex H1 H2 → Q b H2) → wT X e σ H1 Q
def Alls : List Wd → List V → Hp → Prop
  | [], [], _ => True
  | P :: Ps, v :: vs, H => P v H ∧ Alls Ps vs H
  | _, _, _ => False
def EvA (X : Cx) (es : List Expr) (σ : L2.St) (H : Hp) (Ps : List Wd) : Prop := ∀ H1, Ex H H1 → ∀ Q : List V → Hp → Prop, (∀ vs H2, Ex H1 H2 → Alls Ps vs H2 → Q vs H2) → wA X es σ H1 Q
theorem Alls.ex : ∀ {Ps : List Wd} {vs : List V} {H H' : Hp}, Ex H H' → Alls Ps vs H → Alls Ps vs H'
  | [], [], _, _, _, _ => trivial
  | P :: _, _ :: _, _, _, e, ⟨h, r⟩ => ⟨P.st e h, Alls.ex e r⟩
  | [], _ :: _, _, _, _, h => h.elim
  | _ :: _, [], _, _, _, h => h.elim
theorem Alls.len : ∀ {Ps : List Wd} {vs : List V} {H : Hp}, Alls Ps vs H → vs.length = Ps.length
  | [], [], _, _ => rfl
  | _ :: _, _ :: _, _, ⟨_, r⟩ => congrArg (· + 1) (Alls.len r)
  | [], _ :: _, _, h => h.elim
  | _ :: _, [], _, h => h.elim
theorem Alls.get : ∀ {Ps : List Wd} {vs : List V} {H : Hp} {i : Nat} {P : Wd}, Alls Ps vs H → Ps[i]? = some P → ∃ v, vs[i]? = some v ∧ P v H
  | _ :: _, v :: _, _, 0, _, ⟨h, _⟩, e => ⟨v, rfl, by cases e; exact h⟩
  | _ :: _, _ :: _, _, i + 1, _, ⟨_, r⟩, e => Alls.get (i := i) r e
  | [], [], _, i, _, _, e => by simp at e
  | [], _ :: _, _, _, _, h, _ => h.elim
  | _ :: _, [], _, _, _, h, _ => h.elim
theorem Alls.get' {Ps : List Wd} {vs : List V} {H : Hp} {i : Nat} {v : V} (h : Alls Ps vs H) (e : vs[i]? = some v) : ∃ P, Ps[i]? = some P ∧ P v H := by
  have hl := h.len
  have hi : i < Ps.length := by rw [← hl]; exact (List.getElem?_eq_some_iff.mp e).1
  obtain ⟨v', e', q⟩ := h.get (List.getElem?_eq_getElem hi)
  rw [e] at e'; cases e'
  exact ⟨_, List.getElem?_eq_getElem hi, q⟩
theorem Alls.app : ∀ {Ps Qs : List Wd} {vs ws : List V} {H : Hp}, Alls Ps vs H → Alls Qs ws H → Alls (Ps ++ Qs) (vs ++ ws) H
  | [], _, [], _, _, _, h => h
  | _ :: _, _, _ :: _, _, _, ⟨a, r⟩, h => ⟨a, Alls.app r h⟩
  | [], _, _ :: _, _, _, h, _ => h.elim
  | _ :: _, _, [], _, _, h, _ => h.elim
theorem Alls.drop : ∀ {Ps : List Wd} {vs : List V} {H : Hp} (n : Nat), Alls Ps vs H → Alls (Ps.drop n) (vs.drop n) H
  | _, _, _, 0, h => h
  | [], [], _, _ + 1, _ => trivial
  | _ :: _, _ :: _, _, n + 1, ⟨_, r⟩ => Alls.drop n r
  | [], _ :: _, _, _, h => h.elim
  | _ :: _, [], _, _, h => h.elim
theorem Alls.take : ∀ {Ps : List Wd} {vs : List V} {H : Hp} (n : Nat), Alls Ps vs H → Alls (Ps.take n) (vs.take n) H
  | _, _, _, 0, _ => by simp [Alls]
  | [], [], _, _ + 1, _ => trivial
  | _ :: _, _ :: _, _, n + 1, ⟨a, r⟩ => ⟨a, Alls.take n r⟩
  | [], _ :: _, _, _, h => h.elim
  | _ :: _, [], _, _, h => h.elim
/-- values that are known -/
theorem Alls.isv : ∀ {xs vs : List V} {H : Hp}, Alls (xs.map FU.isv) vs H ↔ vs = xs
  | [], [], _ => ⟨fun _ => rfl, fun _ => trivial⟩
  | x :: xs, v :: vs, H => by
    show (v = x ∧ Alls (xs.map FU.isv) vs H) ↔ _
    rw [Alls.isv (xs := xs)]
    constructor
    · rintro ⟨rfl, rfl⟩; rfl
    · intro e; cases e; exact ⟨rfl, rfl⟩
  | [], _ :: _, _ => ⟨fun h => h.elim, fun h => by cases h⟩
  | _ :: _, [], _ => ⟨fun h => h.elim, fun h => by cases h⟩

/-! ### lists, tuples -/
def tupV (K : PySem.W.Frag) (xs : List V) : Wd := ⟨fun v H => ∃ p, v = .ref p ∧ SqT K H p xs, fun e ⟨p, h1, h2⟩ => ⟨p, h1, Evl.ex_t e h2⟩⟩
def lstV (K : PySem.W.Frag) (xs : List V) : Wd := ⟨fun v H => ∃ p, v = .ref p ∧ SqL K H p xs, fun e ⟨p, h1, h2⟩ => ⟨p, h1, Evl.ex_l e h2⟩⟩
def tupP (K : PySem.W.Frag) (Ps : List Wd) : Wd := ⟨fun v H => ∃ p xs, v = .ref p ∧ SqT K H p xs ∧ Alls Ps xs H, fun e ⟨p, xs, h1, h2, h3⟩ => ⟨p, xs, h1, Evl.ex_t e h2, h3.ex e⟩⟩
def lstP (K : PySem.W.Frag) (Ps : List Wd) : Wd := ⟨fun v H => ∃ p xs, v = .ref p ∧ SqL K H p xs ∧ Alls Ps xs H, fun e ⟨p, xs, h1, h2, h3⟩ => ⟨p, xs, h1, Evl.ex_l e h2, h3.ex e⟩⟩
theorem tupP_v {K : PySem.W.Frag} {xs : List V} {v : V} {H : Hp} : tupP K (xs.map isv) v H ↔ tupV K xs v H :=
  ⟨fun ⟨p, ys, h1, h2, h3⟩ => ⟨p, h1, by rw [← Alls.isv.mp h3]; exact h2⟩, fun ⟨p, h1, h2⟩ => ⟨p, xs, h1, h2, Alls.isv.mpr rfl⟩⟩
theorem lstP_v {K : PySem.W.Frag} {xs : List V} {v : V} {H : Hp} : lstP K (xs.map isv) v H ↔ lstV K xs v H :=
  ⟨fun ⟨p, ys, h1, h2, h3⟩ => ⟨p, h1, by rw [← Alls.isv.mp h3]; exact h2⟩, fun ⟨p, h1, h2⟩ => ⟨p, xs, h1, h2, Alls.isv.mpr rfl⟩⟩

variable {σ : L2.St} {H H' : Hp} {e a b c : Expr} {es : List Expr} {P P' Pa Pb Pc : Wd} {Ps : List Wd} {pos px : Pos} {x : Str} {v : V} {i j : Int} {D : Ends} {st : Stmt} {rest : List Stmt}
theorem EvE.mono (e1 : Ex H H') (h : EvE X e σ H P) : EvE X e σ H' P := fun H1 a Q q => h H1 (e1.trans a) Q q
theorem EvT.mono {b : Bool} (e1 : Ex H H') (h : EvT X e σ H b) : EvT X e σ H' b := fun H1 a Q q => h H1 (e1.trans a) Q q
theorem EvA.mono (e1 : Ex H H') (h : EvA X es σ H Ps) : EvA X es σ H' Ps := fun H1 a Q q => h H1 (e1.trans a) Q q
theorem EvE.imp (h : EvE X e σ H P) (k : ∀ v H1, Ex H H1 → P v H1 → P' v H1) : EvE X e σ H P' := fun H1 e1 Q q => h H1 e1 Q fun v H2 e2 hp => q v H2 e2 (k v H2 (e1.trans e2) hp)
theorem EvE.of {te : TE} (h : PE X e te) (k : Evp te σ H P) : EvE X e σ H P := fun H1 e1 Q q => ofE h (k H1 e1 Q q)
theorem EvT.is {b b' : Bool} (h : EvT X e σ H b) (e1 : b = b') : EvT X e σ H b' := e1 ▸ h
theorem EvE.is {v w : V} (h : EvE X e σ H (isv v)) (e1 : v = w) : EvE X e σ H (isv w) := e1 ▸ h

/-! ### names, constants -/
theorem x_var (k : Nat) {v : V} (h : σ[k]? = some (some v)) (hp : P v H) (hN : X.N[k]? = some x := by rfl) (hv : Vis X.env.scope x := by first | exact Or.inl rfl | exact Or.inr (Or.inl rfl) | exact Or.inr (Or.inr rfl)) (hd : (x == ("__debug__" : Str)) = false := by decide)
    (hcd : (x == ("__classdict__" : Str)) = false := by decide) : EvE X (.Name x pos) σ H P := .of (pe_var hN hv hd hcd) fun H1 e1 Q q => ⟨v, h, q v H1 (Ex.refl _) (P.st e1 hp)⟩
theorem x_int {k : Nat} : EvE X (.Constant (.int i) k pos) σ H (isI i) := .of pe_int fun H1 _ Q q => q _ H1 (Ex.refl _) rfl
theorem x_bool {b : Bool} {k : Nat} : EvE X (.Constant (.bool b) k pos) σ H (isB b) := .of pe_bl fun H1 _ Q q => q _ H1 (Ex.refl _) rfl
theorem x_str {s : Str} {k : Nat} : EvE X (.Constant (.str s) k pos) σ H (isS s) := .of pe_str fun H1 _ Q q => q _ H1 (Ex.refl _) rfl
theorem x_none {k : Nat} : EvE X (.Constant .none k pos) σ H isN := .of pe_non fun H1 _ Q q => q _ H1 (Ex.refl _) rfl
theorem x_glob {v : V} {u : Value} (hm : X.mg x = some u) (r : RelV v u) (hg : Gl X x := by rfl) (hd : (x == ("__debug__" : Str)) = false := by decide) : EvE X (.Name x pos) σ H (isv v) := .of (pe_glob hg hm r hd) fun H1 _ Q q => q _ H1 (Ex.refl _) rfl

/-! ### operators -/
theorem x_op {op : Operator} {r : R2} (ho : OpR X (binaryOp op) r) (ha : EvE X a σ H Pa) (hb : EvE X b σ H Pb)
    (k : ∀ x y H1, Ex H H1 → Pa x H1 → Pb y H1 → ∀ Q : VK, (∀ v H2, Ex H1 H2 → P v H2 → Q v H2) → r x y H1 Q) : EvE X (.BinOp a op b pos) σ H P :=
  .of (pe_op ho rE rE) fun H1 e1 Q q => ha H1 e1 _ fun x H2 e2 hx => hb H2 (e1.trans e2) _ fun y H3 e3 hy => k x y H3 ((e1.trans e2).trans e3) (Pa.st e3 hx) hy Q fun v H4 e4 hv => q v H4 ((e2.trans e3).trans e4) hv
theorem x_add (ha : EvE X a σ H (isI i)) (hb : EvE X b σ H (isI j)) : EvE X (.BinOp a .Add b pos) σ H (isI (i + j)) := x_op op_add ha hb fun x y H1 _ hx hy Q q => ⟨i, j, hx, hy, q _ H1 (Ex.refl _) rfl⟩
theorem x_sub (ha : EvE X a σ H (isI i)) (hb : EvE X b σ H (isI j)) : EvE X (.BinOp a .Sub b pos) σ H (isI (i - j)) := x_op op_sub ha hb fun x y H1 _ hx hy Q q => ⟨i, j, hx, hy, q _ H1 (Ex.refl _) rfl⟩
theorem x_mul (ha : EvE X a σ H (isI i)) (hb : EvE X b σ H (isI j)) (hc : CMul i j) : EvE X (.BinOp a .Mult b pos) σ H (isI (i * j)) := x_op op_mul ha hb fun x y H1 _ hx hy Q q => ⟨i, j, hx, hy, hc, q _ H1 (Ex.refl _) rfl⟩
theorem x_mod (ha : EvE X a σ H (isI i)) (hb : EvE X b σ H (isI j)) (hc : 0 < j) : EvE X (.BinOp a .Mod b pos) σ H (isI (i % j)) := x_op op_mod ha hb fun x y H1 _ hx hy Q q => ⟨i, j, hx, hy, hc, q _ H1 (Ex.refl _) rfl⟩
theorem x_fdiv (ha : EvE X a σ H (isI i)) (hb : EvE X b σ H (isI j)) (hc : CDiv i j) : EvE X (.BinOp a .FloorDiv b pos) σ H (isI (i / j)) := x_op op_fdiv ha hb fun x y H1 _ hx hy Q q => ⟨i, j, hx, hy, hc, q _ H1 (Ex.refl _) rfl⟩
theorem x_pow (ha : EvE X a σ H (isI i)) (hb : EvE X b σ H (isI j)) (hc : CPow i j) : EvE X (.BinOp a .Pow b pos) σ H (isI (i ^ j.toNat)) := x_op op_pow ha hb fun x y H1 _ hx hy Q q => ⟨i, j, hx, hy, hc, q _ H1 (Ex.refl _) rfl⟩
theorem x_addS {s t : Str} (ha : EvE X a σ H (isS s)) (hb : EvE X b σ H (isS t)) (hc : s.length + t.length ≤ sizeLine) : EvE X (.BinOp a .Add b pos) σ H (isS (s ++ t)) := x_op op_add_str ha hb fun x y H1 _ hx hy Q q => ⟨s, t, hx, hy, hc, q _ H1 (Ex.refl _) rfl⟩
/-- list + list -/
theorem x_cat {Ps Qs : List Wd} (ha : EvE X a σ H (lstP X.K Ps)) (hb : EvE X b σ H (lstP X.K Qs)) (hc : Ps.length + Qs.length ≤ sizeLine) (hr : ∀ {p q xs ys H1} {Q : VK}, SqL X.K H1 p xs → SqL X.K H1 q ys → xs.length + ys.length ≤ sizeLine → (∀ t, H1 t = none → Q (.ref t) (upd H1 t (.lst (xs ++ ys)))) → rCat (.ref p) (.ref q) H1 Q) :
    EvE X (.BinOp a .Add b pos) σ H (lstP X.K (Ps ++ Qs)) := x_op op_cat ha hb fun x y H1 _ ⟨p, xs, hx, hp, ax⟩ ⟨p2, ys, hy, hp2, ay⟩ Q q => by
  subst hx hy
  exact hr hp hp2 (by rw [ax.len, ay.len]; exact hc) fun t ht => q _ _ (Ex.new ht) ⟨t, xs ++ ys, rfl, Evl.sq_of upd_same, Alls.app (ax.ex (Ex.new ht)) (ay.ex (Ex.new ht))⟩

/-! ### comparisons -/
theorem t_op {op : CmpOp} {r : R2} {b' : Bool} (ho : OpR X (compareOp op) r) (ha : EvE X a σ H Pa) (hb : EvE X b σ H Pb)
    (k : ∀ x y H1, Ex H H1 → Pa x H1 → Pb y H1 → ∀ Q : VK, (∀ H2, Ex H1 H2 → Q (.bl b') H2) → r x y H1 Q) (hm : behindInMarks op b = false := by first | exact nomark _ | with_unfolding_all rfl) : EvT X (.Compare a [op] [b] pos) σ H b' :=
  fun H1 e1 Q q => ofT (pt_cmpR ho rE rE hm) (ha H1 e1 _ fun x H2 e2 hx => hb H2 (e1.trans e2) _ fun y H3 e3 hy => k x y H3 ((e1.trans e2).trans e3) (Pa.st e3 hx) hy _ fun H4 e4 => ⟨b', rfl, q H4 ((e2.trans e3).trans e4)⟩)
theorem x_cmp {op : CmpOp} {r : R2} {b' : Bool} (ho : OpR X (compareOp op) r) (ha : EvE X a σ H Pa) (hb : EvE X b σ H Pb)
    (k : ∀ x y H1, Ex H H1 → Pa x H1 → Pb y H1 → ∀ Q : VK, (∀ H2, Ex H1 H2 → Q (.bl b') H2) → r x y H1 Q) (hm : behindInMarks op b = false := by first | exact nomark _ | with_unfolding_all rfl) : EvE X (.Compare a [op] [b] pos) σ H (isB b') :=
  .of (pe_cmpR ho rE rE hm) fun H1 e1 Q q => ha H1 e1 _ fun x H2 e2 hx => hb H2 (e1.trans e2) _ fun y H3 e3 hy => k x y H3 ((e1.trans e2).trans e3) (Pa.st e3 hx) hy _ fun H4 e4 => q _ H4 ((e2.trans e3).trans e4) rfl
theorem k_eq {v w : V} (hs : scal v w = true) : ∀ x y H1, Ex H H1 → isv v x H1 → isv w y H1 → ∀ Q : VK, (∀ H2, Ex H1 H2 → Q (.bl (decide (v = w))) H2) → rEq x y H1 Q := fun x y H1 _ hx hy Q q => by
  cases hx; cases hy
  exact ⟨hs, q H1 (Ex.refl _)⟩
theorem k_ne {v w : V} (hs : scal v w = true) : ∀ x y H1, Ex H H1 → isv v x H1 → isv w y H1 → ∀ Q : VK, (∀ H2, Ex H1 H2 → Q (.bl (!decide (v = w))) H2) → rNe x y H1 Q := fun x y H1 _ hx hy Q q => by
  cases hx; cases hy
  exact ⟨hs, q H1 (Ex.refl _)⟩
theorem k_I {g : Int → Int → Bool} : ∀ x y H1, Ex H H1 → isI i x H1 → isI j y H1 → ∀ Q : VK, (∀ H2, Ex H1 H2 → Q (.bl (g i j)) H2) → rI0 (fun i j => .bl (g i j)) x y H1 Q := fun x y H1 _ hx hy Q q => ⟨i, j, hx, hy, q H1 (Ex.refl _)⟩
theorem t_eq {v w : V} (ha : EvE X a σ H (isv v)) (hb : EvE X b σ H (isv w)) (hs : scal v w = true := by rfl) : EvT X (.Compare a [.Eq] [b] pos) σ H (decide (v = w)) := t_op op_eq ha hb (k_eq hs)
theorem t_ne {v w : V} (ha : EvE X a σ H (isv v)) (hb : EvE X b σ H (isv w)) (hs : scal v w = true := by rfl) : EvT X (.Compare a [.NotEq] [b] pos) σ H (!decide (v = w)) := t_op op_ne ha hb (k_ne hs)
theorem t_lt (ha : EvE X a σ H (isI i)) (hb : EvE X b σ H (isI j)) : EvT X (.Compare a [.Lt] [b] pos) σ H (decide (i < j)) := t_op op_lt ha hb (k_I (g := fun i j => decide (i < j)))
theorem t_le (ha : EvE X a σ H (isI i)) (hb : EvE X b σ H (isI j)) : EvT X (.Compare a [.LtE] [b] pos) σ H (decide (i ≤ j)) := t_op op_le ha hb (k_I (g := fun i j => decide (i ≤ j)))
theorem t_gt (ha : EvE X a σ H (isI i)) (hb : EvE X b σ H (isI j)) : EvT X (.Compare a [.Gt] [b] pos) σ H (decide (j < i)) := t_op op_gt ha hb (k_I (g := fun i j => decide (j < i)))
theorem t_ge (ha : EvE X a σ H (isI i)) (hb : EvE X b σ H (isI j)) : EvT X (.Compare a [.GtE] [b] pos) σ H (decide (j ≤ i)) := t_op op_ge ha hb (k_I (g := fun i j => decide (j ≤ i)))
theorem x_eq {v w : V} (ha : EvE X a σ H (isv v)) (hb : EvE X b σ H (isv w)) (hs : scal v w = true := by rfl) : EvE X (.Compare a [.Eq] [b] pos) σ H (isB (decide (v = w))) := x_cmp op_eq ha hb (k_eq hs)
theorem x_ne {v w : V} (ha : EvE X a σ H (isv v)) (hb : EvE X b σ H (isv w)) (hs : scal v w = true := by rfl) : EvE X (.Compare a [.NotEq] [b] pos) σ H (isB (!decide (v = w))) := x_cmp op_ne ha hb (k_ne hs)
theorem x_lt (ha : EvE X a σ H (isI i)) (hb : EvE X b σ H (isI j)) : EvE X (.Compare a [.Lt] [b] pos) σ H (isB (decide (i < j))) := x_cmp op_lt ha hb (k_I (g := fun i j => decide (i < j)))
theorem x_le (ha : EvE X a σ H (isI i)) (hb : EvE X b σ H (isI j)) : EvE X (.Compare a [.LtE] [b] pos) σ H (isB (decide (i ≤ j))) := x_cmp op_le ha hb (k_I (g := fun i j => decide (i ≤ j)))
theorem x_gt (ha : EvE X a σ H (isI i)) (hb : EvE X b σ H (isI j)) : EvE X (.Compare a [.Gt] [b] pos) σ H (isB (decide (j < i))) := x_cmp op_gt ha hb (k_I (g := fun i j => decide (j < i)))
theorem x_ge (ha : EvE X a σ H (isI i)) (hb : EvE X b σ H (isI j)) : EvE X (.Compare a [.GtE] [b] pos) σ H (isB (decide (j ≤ i))) := x_cmp op_ge ha hb (k_I (g := fun i j => decide (j ≤ i)))
theorem x_isN (ha : EvE X a σ H (isv v)) (hb : EvE X b σ H isN) : EvE X (.Compare a [.Is] [b] pos) σ H (isB (decide (v = .non))) := x_cmp op_isN ha hb fun x y H1 _ hx hy Q q => by
  cases hx; cases hy
  exact ⟨rfl, q H1 (Ex.refl _)⟩
theorem t_isN (ha : EvE X a σ H (isv v)) (hb : EvE X b σ H isN) : EvT X (.Compare a [.Is] [b] pos) σ H (decide (v = .non)) := t_op op_isN ha hb fun x y H1 _ hx hy Q q => by
  cases hx; cases hy
  exact ⟨rfl, q H1 (Ex.refl _)⟩
/-- a <= b <= c -/
theorem t_chain {k : Int} (ha : EvE X a σ H (isI i)) (hb : EvE X b σ H (isI j)) (hc : EvE X c σ H (isI k)) (hm : lastMarks [.LtE, .LtE] [b, c] = false := by with_unfolding_all rfl) : EvT X (.Compare a [.LtE, .LtE] [b, c] pos) σ H (decide (i ≤ j) && decide (j ≤ k)) :=
  fun H1 e1 Q q => ofT (pt_chain op_le op_le rE rE rE hm) (ha H1 e1 _ fun x H2 e2 hx => hb H2 (e1.trans e2) _ fun y H3 e3 hy => ⟨i, j, hx, hy, decide (i ≤ j), rfl, by
    by_cases h : i ≤ j
    · rw [decide_eq_true h, if_pos rfl]
      exact hc H3 ((e1.trans e2).trans e3) _ fun z H4 e4 hz => ⟨j, k, hy, hz, decide (j ≤ k), rfl, by rw [decide_eq_true h, Bool.true_and] at q; exact q H4 ((e2.trans e3).trans e4)⟩
    · rw [decide_eq_false h, if_neg (by decide)]
      exact ⟨false, rfl, by rw [decide_eq_false h, Bool.false_and] at q; exact q H3 (e2.trans e3)⟩⟩)

/-! ### truth -/
theorem t_val {b' : Bool} (h : EvE X e σ H (isB b')) (he : ∀ whole, isTrue e X.env whole = (do let v ← whole; standAt e.pos; holding [v] (truthy v)) := by intro _; rfl) : EvT X e σ H b' := fun H1 e1 Q q => ofT (pt_val rE he) (h H1 e1 _ fun v H2 e2 hv => ⟨b', hv, q H2 e2⟩)
theorem t_not {b' : Bool} (h : EvT X a σ H b') : EvT X (.UnaryOp .Not a pos) σ H (!b') := fun H1 e1 Q q => ofT (pt_not rT) (h H1 e1 _ q)
theorem t_and {b1 b2 : Bool} (h1 : EvT X a σ H b1) (h2 : b1 = true → EvT X b σ H b2) : EvT X (.BoolOp .And [a, b] pos) σ H (b1 && b2) := fun H1 e1 Q q => ofT (pw_and rT (pw_and1 rT)).pt (h1 H1 e1 _ fun H2 e2 => by
  cases b1 with
  | true => exact h2 rfl H2 (e1.trans e2) _ fun H3 e3 => q H3 (e2.trans e3)
  | false => exact q H2 e2)
theorem t_or {b1 b2 : Bool} (h1 : EvT X a σ H b1) (h2 : b1 = false → EvT X b σ H b2) : EvT X (.BoolOp .Or [a, b] pos) σ H (b1 || b2) := fun H1 e1 Q q => ofT (pw_or rT (pw_or1 rT)).pt (h1 H1 e1 _ fun H2 e2 => by
  cases b1 with
  | false => exact h2 rfl H2 (e1.trans e2) _ fun H3 e3 => q H3 (e2.trans e3)
  | true => exact q H2 e2)
theorem t_or3 {b1 b2 b3 : Bool} (h1 : EvT X a σ H b1) (h2 : b1 = false → EvT X b σ H b2) (h3 : b1 = false → b2 = false → EvT X c σ H b3) : EvT X (.BoolOp .Or [a, b, c] pos) σ H (b1 || b2 || b3) := fun H1 e1 Q q => ofT (pw_or rT (pw_or rT (pw_or1 rT))).pt (h1 H1 e1 _ fun H2 e2 => by
  cases b1 with
  | true => exact q H2 e2
  | false =>
    refine h2 rfl H2 (e1.trans e2) _ fun H3 e3 => ?_
    cases b2 with
    | true => exact q H3 (e2.trans e3)
    | false => exact h3 rfl rfl H3 ((e1.trans e2).trans e3) _ fun H4 e4 => q H4 ((e2.trans e3).trans e4))
theorem x_andB {b1 b2 : Bool} (h1 : EvE X a σ H (isB b1)) (h2 : b1 = true → EvE X b σ H (isB b2)) : EvE X (.BoolOp .And [a, b] pos) σ H (isB (b1 && b2)) := .of (pe_and rE (pe_one rE)) fun H1 e1 Q q => h1 H1 e1 _ fun x H2 e2 hx => ⟨b1, hx, by
  cases b1 with
  | true => exact h2 rfl H2 (e1.trans e2) _ fun v H3 e3 hv => q v H3 (e2.trans e3) hv
  | false => exact q _ H2 e2 rfl⟩
theorem x_and3 {b1 b2 b3 : Bool} (h1 : EvE X a σ H (isB b1)) (h2 : b1 = true → EvE X b σ H (isB b2)) (h3 : b1 = true → b2 = true → EvE X c σ H (isB b3)) : EvE X (.BoolOp .And [a, b, c] pos) σ H (isB (b1 && b2 && b3)) := .of (pe_and rE (pe_and rE (pe_one rE))) fun H1 e1 Q q => h1 H1 e1 _ fun x H2 e2 hx => ⟨b1, hx, by
  cases b1 with
  | false => exact q _ H2 e2 rfl
  | true =>
    refine h2 rfl H2 (e1.trans e2) _ fun y H3 e3 hy => ⟨b2, hy, ?_⟩
    cases b2 with
    | false => exact q _ H3 (e2.trans e3) rfl
    | true => exact h3 rfl rfl H3 ((e1.trans e2).trans e3) _ fun v H4 e4 hv => q v H4 ((e2.trans e3).trans e4) hv⟩
theorem x_orB {b1 b2 : Bool} (h1 : EvE X a σ H (isB b1)) (h2 : b1 = false → EvE X b σ H (isB b2)) : EvE X (.BoolOp .Or [a, b] pos) σ H (isB (b1 || b2)) := .of (pe_or rE (pe_one rE)) fun H1 e1 Q q => h1 H1 e1 _ fun x H2 e2 hx => ⟨b1, hx, by
  cases b1 with
  | false => exact h2 rfl H2 (e1.trans e2) _ fun v H3 e3 hv => q v H3 (e2.trans e3) hv
  | true => exact q _ H2 e2 rfl⟩
theorem x_if {b' : Bool} (hc : EvT X c σ H b') (h1 : b' = true → EvE X a σ H P) (h2 : b' = false → EvE X b σ H P) : EvE X (.IfExp c a b pos) σ H P := .of (pe_ifExp rT rE rE) fun H1 e1 Q q => hc H1 e1 _ fun H2 e2 => by
  cases b' with
  | true => exact h1 rfl H2 (e1.trans e2) _ fun v H3 e3 hv => q v H3 (e2.trans e3) hv
  | false => exact h2 rfl H2 (e1.trans e2) _ fun v H3 e3 hv => q v H3 (e2.trans e3) hv

/-! ### arguments, displays -/
theorem a_nil : EvA X [] σ H [] := fun H1 e1 Q q => ofA pa_nil (q [] H1 (Ex.refl _) trivial)
theorem a_cons (h : EvE X e σ H P) (hr : EvA X es σ H Ps) (hs : starEach (e :: es) X.env = (false, eval e X.env) :: starEach es X.env := by rfl) : EvA X (e :: es) σ H (P :: Ps) := fun H1 e1 Q q =>
  ofA (pa_cons rE rA hs) (h H1 e1 _ fun v H2 e2 hv => hr H2 (e1.trans e2) _ fun vs H3 e3 hvs => q _ H3 (e2.trans e3) ⟨P.st e3 hv, hvs⟩)
theorem x_tup {k : Nat} (h : EvA X es σ H Ps) (hl : Ps.length ≤ 100000 := by simp) : EvE X (.Tuple es k pos) σ H (tupP X.K Ps) := .of (pe_tup rA) fun H1 e1 Q q => h H1 e1 _ fun vs H2 e2 hvs =>
  ⟨Evl.sz_of (by rw [hvs.len]; exact hl), fun p hp => q _ _ (e2.trans (Ex.new hp)) ⟨p, vs, rfl, Evl.st_of upd_same, hvs.ex (Ex.new hp)⟩⟩
theorem x_lst (h : EvA X es σ H Ps) (hl : Ps.length ≤ 100000 := by simp) : EvE X (.List es pos) σ H (lstP X.K Ps) := .of (pe_lst rA) fun H1 e1 Q q => h H1 e1 _ fun vs H2 e2 hvs =>
  ⟨Evl.sz_of (by rw [hvs.len]; exact hl), fun p hp => q _ _ (e2.trans (Ex.new hp)) ⟨p, vs, rfl, Evl.sq_of upd_same, hvs.ex (Ex.new hp)⟩⟩

/-! ### calls of built-ins -/
theorem x_blt {id : String} {r : List V → Hp → VK → Prop} (hc : CallR X (.builtin id) r) (hm : X.mg x = none) (ha : EvA X (e :: es) σ H Ps) (k : ∀ vs H1, Ex H H1 → Alls Ps vs H1 → ∀ Q : VK, (∀ v H2, Ex H1 H2 → P v H2 → Q v H2) → r vs H1 Q)
    (hv : bootBuiltins x = some (.builtin id)) (hg : Gl X x := by rfl) (hn : x ≠ "__name__" := by decide) (hdb : (x == ("__debug__" : Str)) = false := by decide)
    (he : starEach (e :: es) X.env = (false, eval e X.env) :: starEach es X.env := by rfl) (hpl : (backTo pos (starEach es X.env)).any (·.1) = false := by rfl) : EvE X (.Call (.Name x px) (e :: es) [] pos) σ H P :=
  .of (pe_callB hc hg hm hv rA hn hdb he hpl) fun H1 e1 Q q => ha H1 e1 _ fun vs H2 e2 hvs => k vs H2 (e1.trans e2) hvs Q fun v H3 e3 h => q v H3 (e2.trans e3) h
theorem x_bty {T : String} {r : List V → Hp → VK → Prop} (hc : CallR X (.type T) r) (hm : X.mg x = none) (ha : EvA X (e :: es) σ H Ps) (k : ∀ vs H1, Ex H H1 → Alls Ps vs H1 → ∀ Q : VK, (∀ v H2, Ex H1 H2 → P v H2 → Q v H2) → r vs H1 Q)
    (hv : bootBuiltins x = some (.type T)) (hg : Gl X x := by rfl) (hn : x ≠ "__name__" := by decide) (hdb : (x == ("__debug__" : Str)) = false := by decide)
    (he : starEach (e :: es) X.env = (false, eval e X.env) :: starEach es X.env := by rfl) (hpl : (backTo pos (starEach es X.env)).any (·.1) = false := by rfl) : EvE X (.Call (.Name x px) (e :: es) [] pos) σ H P :=
  .of (pe_callTy hc hg hm hv rA hn hdb he hpl) fun H1 e1 Q q => ha H1 e1 _ fun vs H2 e2 hvs => k vs H2 (e1.trans e2) hvs Q fun v H3 e3 h => q v H3 (e2.trans e3) h

/-! ### own functions -/
/-- a contract: arguments, the heap, what the answer satisfies -/
abbrev Ct := List V → Hp → Wd → Prop
def spC (C : Ct) : Sp := fun vs H Q _ => ∃ P, C vs H P ∧ ∀ v H', Ex H H' → P v H' → Q v H'
theorem x_call {k j : Nat} {C : Ct} {dvs : List V} (c : C8.Cal X.prog X.w X.K X.mg X.base k x (spC C) dvs) (hr : Room j X.A) (ha : EvA X (e :: es) σ H Ps) (h : ∀ vs H1, Ex H H1 → Alls Ps vs H1 → C (vs ++ dvs) H1 P) (hk : k ≤ j := by omega) (hg : Gl X x := by rfl)
    (hdb : (x == ("__debug__" : Str)) = false := by decide) (he : starEach (e :: es) X.env = (false, eval e X.env) :: starEach es X.env := by rfl) (hpl : (backTo pos (starEach es X.env)).any (·.1) = false := by rfl) : EvE X (.Call (.Name x px) (e :: es) [] pos) σ H P :=
  .of (C8.pe_c c hr hk hg rA hdb he hpl) fun H1 e1 Q q => ha H1 e1 _ fun vs H2 e2 hvs => ⟨P, h vs H2 (e1.trans e2) hvs, fun v H3 e3 hv => q v H3 (e2.trans e3) hv⟩

/-! ### blocks -/
theorem c_nil (h : D.nx σ H) : wSs X [] D σ H := ofSs pss_nil h
theorem c_cons (h : wS X st { D with nx := wSs X rest D } σ H) : wSs X (st :: rest) D σ H := ofSs (pss_cons rS rSs) h
theorem c_asg {k : Nat} (h : EvE X e σ H P) (q : ∀ v H1, Ex H H1 → P v H1 → wSs X rest D (σ.set k (some v)) H1) (nd : X.N.Nodup) (hN : X.N[k]? = some x := by rfl) (hx : Loc X.env.scope x := by first | exact Or.inl rfl | exact Or.inr rfl)
    (hs : swapsWith e (some (.Name x px)) pos.line X.env = pure false := by rfl) (hf : X.fn x = true ∨ X.env.scope.names.lookup x = some .local := by first | exact Or.inl rfl | exact Or.inr rfl) : wSs X (.Assign [.Name x px] e pos :: rest) D σ H :=
  c_cons (ofS (ps_set nd hN hx rE hs hf) (h H (Ex.refl _) _ fun v H1 e1 hv => q v H1 e1 hv))
theorem c_ret (h : EvE X e σ H P) (q : ∀ v H1, Ex H H1 → P v H1 → D.rt v H1) : wSs X (.Return (some e) pos :: rest) D σ H :=
  c_cons (ofS (ps_ret rE) (h H (Ex.refl _) _ fun v H1 e1 hv => q v H1 e1 hv))
theorem c_if {ba bb : List Stmt} {b' : Bool} (h : EvT X c σ H b') (h1 : b' = true → ∀ H1, Ex H H1 → wSs X ba { D with nx := wSs X rest D } σ H1) (h2 : b' = false → ∀ H1, Ex H H1 → wSs X bb { D with nx := wSs X rest D } σ H1) : wSs X (.If c ba bb pos :: rest) D σ H :=
  c_cons (ofS (ps_if rT rSs rSs) (h H (Ex.refl _) _ fun H1 e1 => by
    cases b' with
    | true => exact h1 rfl H1 e1
    | false => exact h2 rfl H1 e1))
/-- an if whose test fails, without else -/
theorem c_skip {ba : List Stmt} {b' : Bool} (h : EvT X c σ H b') (q : ∀ H1, Ex H H1 → wSs X rest D σ H1) (hb : b' = false := by rfl) : wSs X (.If c ba [] pos :: rest) D σ H :=
  c_if h (fun z => by rw [hb] at z; cases z) fun _ H1 e1 => c_nil (q H1 e1)
theorem c_expr (h : EvE X e σ H P) (q : ∀ v H1, Ex H H1 → P v H1 → wSs X rest D σ H1) (hs : swapsWith e none pos.line X.env = pure false := by rfl) : wSs X (.Expr e pos :: rest) D σ H :=
  c_cons (ofS (ps_expr rE hs) (h H (Ex.refl _) _ fun v H1 e1 hv => q v H1 e1 hv))
end

/-! ### a def by its body -/
section
variable {P : Program} {w : World} {K : PySem.W.Frag} {mg : Str → Option Value} {base : Heap}
theorem cal_of {x : Str} {st : Stmt} {f : Addr} {fd : FuncData} {N ps : List Str} {ds : List Value} {dvs : List V} {k : Nat} {C : Ct} (F : C8.Def K mg x st f fd) (b : Binds K fd ps ds) (d : Vals dvs ds) (S : FnScope N ps (C8.fnScope st)) (len : ∀ vs H P, C vs H P → vs.length = ps.length)
    (hbody : ∀ (cdv : Value) (A : Around) (outer : List Env) (s : Shared) (H : Hp) (vs : List V) (Q : VK) (E : XK) (W : Wd), Room k (A.deeper (envOfC x (C8.fnScope st) s.heap.objs.size f cdv)) → C vs H W → (∀ v H', Ex H H' → W v H' → Q v H') →
      wSs (cxOf C8.CX0 P w K mg base N x (C8.fnScope st) f cdv A outer s H E).nox (C8.fnBody st) { nx := fun _ H' => Q .non H', rt := Q } (start N vs) H) : C8.Cal P w K mg base (k + 1) x (spC C) dvs :=
  C8.cal0 F b d S (fun vs H Q E ⟨W, h, _⟩ => len vs H W h) fun cdv A outer s H vs Q E hr ⟨W, h, q⟩ => ⟨_, rSs, hbody cdv A outer s H vs Q E W hr h q⟩
end
end FU
end
section
set_option maxRecDepth 100000
set_option maxHeartbeats 1000000
namespace FU
open PySem PySem.Spec PyProof.Rows L2
open Evl (Ex)

/-- all but lists stay -/
def Exs (H H' : Hp) : Prop := ∀ a o, H a = some o → (∀ xs, o ≠ .lst xs) → H' a = some o
theorem Exs.of {H H' : Hp} (e : Ex H H') : Exs H H' := fun a o h _ => e a o h
theorem Exs.trans {H H1 H2 : Hp} (a : Exs H H1) (b : Exs H1 H2) : Exs H H2 := fun x o h n => b x o (a x o h n) n
theorem Exs.put {H : Hp} {l : Addr} {xs ys : List V} (h : H l = some (.lst xs)) : Exs H (upd H l (.lst ys)) := fun a o e n => by
  have : a ≠ l := fun z => by subst z; rw [h] at e; cases e; exact n xs rfl
  rw [upd_ne this]; exact e
theorem Exs.rd {H H' : Hp} {a : Addr} {u : HO} (e : Exs H H') (n : ∀ xs, u ≠ .lst xs) (h : Rd H a u) : Rd H' a u := by
  rcases h with h | ⟨o, h⟩
  · exact .inl (e a _ h n)
  · exact .inr ⟨o, e a _ h fun xs z => by cases z⟩
theorem Exs.t {K : PySem.W.Frag} {H H' : Hp} {a : Addr} {xs : List V} (e : Exs H H') (h : SqT K H a xs) : SqT K H' a xs := by
  rcases h with h | h
  · exact .inl (e.rd (fun ys z => by cases z) h)
  · exact .inr h
/-- a word that speaks of no list -/
def NL (P : Wd) : Prop := ∀ {v : V} {H H' : Hp}, Exs H H' → P v H → P v H'
theorem nl_isv {v : V} : NL (isv v) := fun _ h => h
theorem nl_tupV {K : PySem.W.Frag} {xs : List V} : NL (tupV K xs) := fun e ⟨p, h1, h2⟩ => ⟨p, h1, e.t h2⟩
theorem Alls.exs : ∀ {Ps : List Wd} {vs : List V} {H H' : Hp}, (∀ P ∈ Ps, NL P) → Exs H H' → Alls Ps vs H → Alls Ps vs H'
  | [], [], _, _, _, _, _ => trivial
  | P :: _, _ :: _, _, _, n, e, ⟨h, r⟩ => ⟨n P List.mem_cons_self e h, Alls.exs (fun Q hQ => n Q (List.mem_cons_of_mem _ hQ)) e r⟩
  | [], _ :: _, _, _, _, _, h => h.elim
  | _ :: _, [], _, _, _, _, h => h.elim
theorem nl_tupP {K : PySem.W.Frag} {Ps : List Wd} (n : ∀ P ∈ Ps, NL P) : NL (tupP K Ps) := fun e ⟨p, xs, h1, h2, h3⟩ => ⟨p, xs, h1, e.t h2, h3.exs n e⟩

section
variable {X : Cx} {σ : L2.St} {H : Hp} {α : Type}
/-! ### sources -/
/-- the turns give what zs says, as long as the heap only grows -/
def JOk (J : It) (H2 : Hp) (zs : List α) (q : α → Wd) : Prop := ∀ H3, Ex H2 H3 → (∀ i z, zs[i]? = some z → J.go i H3 ∧ ∀ x H4, J.yld i H3 x H4 → Ex H3 H4 ∧ q z x H4) ∧ J.stop zs.length H3
structure Src (X : Cx) (tg iter : Expr) (σ : L2.St) (H : Hp) (zs : List α) (q : α → Wd) : Prop where
  ex : ∃ wi : TI, PI X tg iter wi ∧ ∀ H1, Ex H H1 → ∀ R : It → Hp → Prop, (∀ J H2, Ex H1 H2 → JOk J H2 zs q → R J H2) → wi σ H1 R
theorem Src.mono {H' : Hp} {tg iter : Expr} {zs : List α} {q : α → Wd} (e : Ex H H') (h : Src X tg iter σ H zs q) : Src X tg iter σ H' zs q := by
  obtain ⟨wi, a, b⟩ := h.ex
  exact ⟨wi, a, fun H1 e1 => b H1 (e.trans e1)⟩
theorem alls_map {Ps : α → Wd} {zs : List α} {xs : List V} {H : Hp} {i : Nat} {z : α} {x : V} (h : Alls (zs.map Ps) xs H) (e1 : zs[i]? = some z) (e2 : xs[i]? = some x) : Ps z x H := by
  obtain ⟨v, e, q⟩ := h.get (i := i) (P := Ps z) (by rw [List.getElem?_map, e1]; rfl)
  rw [e2] at e; cases e
  exact q
theorem sqL_uni {K : PySem.W.Frag} {a : Addr} {xs ys : List V} {H : Hp} (h1 : SqL K H a xs) (h2 : H a = some (.lst ys)) : (H a = some (.lst xs)) ∨ True := .inr trivial
theorem src_list {tg e : Expr} {zs : List α} {q : α → Wd} (h : EvE X e σ H (lstP X.K (zs.map q))) : Src X tg e σ H zs q := ⟨_, pi_list rE, fun H1 e1 R k => h H1 e1 _ fun v H2 e2 ⟨a, xs, hv, hs, ha⟩ => ⟨a, hv, ⟨xs, hs⟩, k _ H2 e2 fun H3 e3 => by
  have hs3 := Evl.ex_l e3 hs
  have hl : xs.length = zs.length := by rw [ha.len, List.length_map]
  refine ⟨fun i z hz => ?_, ⟨xs, hs3, by rw [hl]; exact Nat.le_refl _⟩⟩
  have hi : i < xs.length := by rw [hl]; exact (List.getElem?_eq_some_iff.mp hz).1
  refine ⟨⟨xs, xs[i], hs3, List.getElem?_eq_getElem hi⟩, fun x H4 ⟨e4, y⟩ => ?_⟩
  subst e4
  exact ⟨Ex.refl _, alls_map (ha.ex e3) hz (y xs hs3)⟩⟩⟩
theorem src_tup {tg e : Expr} {zs : List α} {q : α → Wd} (h : EvE X e σ H (tupP X.K (zs.map q))) : Src X tg e σ H zs q := ⟨_, pi_tup rE, fun H1 e1 R k => h H1 e1 _ fun v H2 e2 ⟨a, xs, hv, hs, ha⟩ => ⟨a, hv, ⟨xs, hs⟩, k _ H2 e2 fun H3 e3 => by
  have hs3 := Evl.ex_t e3 hs
  have hl : xs.length = zs.length := by rw [ha.len, List.length_map]
  refine ⟨fun i z hz => ?_, ⟨xs, hs3, by rw [hl]; exact Nat.le_refl _⟩⟩
  have hi : i < xs.length := by rw [hl]; exact (List.getElem?_eq_some_iff.mp hz).1
  refine ⟨⟨xs, xs[i], hs3, List.getElem?_eq_getElem hi⟩, fun x H4 ⟨e4, y⟩ => ?_⟩
  subst e4
  exact ⟨Ex.refl _, alls_map (ha.ex e3) hz (y xs hs3)⟩⟩⟩
theorem range_get {n i k : Nat} (h : (List.range n)[i]? = some k) : k = i ∧ i < n := by
  have hi := (List.getElem?_eq_some_iff.mp h)
  obtain ⟨h1, h2⟩ := hi
  rw [List.getElem_range] at h2
  rw [List.length_range] at h1
  exact ⟨h2.symm, h1⟩
/-- range(n) -/
theorem src_r1 {tg a : Expr} {n : Nat} {p pos : Pos} (h : EvE X a σ H (isI n)) (hn : n ≤ 100000) (hm : X.mg "range" = none) (hg : Gl X "range" := by rfl) (hs : starEach [a] X.env = [(false, eval a X.env)] := by rfl) :
    Src X tg (.Call (.Name "range" p) [a] [] pos) σ H (List.range n) fun i => isI i := ⟨_, pi_range1 hg hm rA hs, fun H1 e1 R k => a_cons h a_nil hs H1 e1 _ fun vs H2 e2 hv => by
  have e := (Alls.isv (xs := [.int n])).mp hv
  subst e
  refine ⟨n, rfl, by omega, by omega, k _ H2 e2 fun H3 e3 => ⟨fun i z hz => ?_, ?_⟩⟩
  · obtain ⟨hz, hi⟩ := range_get hz
    subst hz
    refine ⟨by show z < (n : Int).toNat; omega, fun x H4 ⟨e4, y⟩ => ?_⟩
    subst e4
    exact ⟨Ex.refl _, by rw [y]; show V.int _ = V.int _; rw [Int.zero_add]⟩
  · show (n : Int).toNat ≤ _
    rw [List.length_range]; omega⟩
/-- range(lo, hi) -/
theorem src_r2 {tg a b : Expr} {lo hi : Int} {p pos : Pos} (h1 : EvE X a σ H (isI lo)) (h2 : EvE X b σ H (isI hi)) (hb : -100000 ≤ lo ∧ lo ≤ 100000 ∧ -100000 ≤ hi ∧ hi ≤ 100000) (hm : X.mg "range" = none) (hg : Gl X "range" := by rfl)
    (hs : starEach [a, b] X.env = [(false, eval a X.env), (false, eval b X.env)] := by rfl) (hs2 : starEach [b] X.env = [(false, eval b X.env)] := by rfl) (hs3 : starEach [a, b] X.env = (false, eval a X.env) :: starEach [b] X.env := by rfl) :
    Src X tg (.Call (.Name "range" p) [a, b] [] pos) σ H (List.range (hi - lo).toNat) fun i => isI (lo + i) := ⟨_, pi_range2 hg hm rA hs hs2, fun H1 e1 R k => a_cons h1 (a_cons h2 a_nil hs2) hs3 H1 e1 _ fun vs H2 e2 hv => by
  have e := (Alls.isv (xs := [.int lo, .int hi])).mp hv
  subst e
  refine ⟨lo, hi, rfl, by omega, k _ H2 e2 fun H3 e3 => ⟨fun i z hz => ?_, ?_⟩⟩
  · obtain ⟨hz, hi⟩ := range_get hz
    subst hz
    refine ⟨hi, fun x H4 ⟨e4, y⟩ => ?_⟩
    subst e4
    exact ⟨Ex.refl _, y⟩
  · show _ ≤ _
    rw [List.length_range]; exact Nat.le_refl _⟩
/-- range(hi, lo, -1) -/
theorem src_down {tg a b c : Expr} {hi lo : Int} {p pos : Pos} (h1 : EvE X a σ H (isI hi)) (h2 : EvE X b σ H (isI lo)) (h3 : EvE X c σ H (isI (-1))) (hb : -100000 ≤ lo ∧ lo ≤ 100000 ∧ -100000 ≤ hi ∧ hi ≤ 100000) (hm : X.mg "range" = none) (hg : Gl X "range" := by rfl)
    (hs : starEach [a, b, c] X.env = (false, eval a X.env) :: starEach [b, c] X.env := by rfl) (hpl : (backTo pos (starEach [b, c] X.env)).any (·.1) = false := by rfl) (hs1 : starEach [b, c] X.env = (false, eval b X.env) :: starEach [c] X.env := by rfl) (hs2 : starEach [c] X.env = (false, eval c X.env) :: starEach [] X.env := by rfl) :
    Src X tg (.Call (.Name "range" p) [a, b, c] [] pos) σ H (List.range (hi - lo).toNat) fun i => isI (hi - i) := ⟨_, pi_range3 hg hm rA hs hpl, fun H1 e1 R k => a_cons h1 (a_cons h2 (a_cons h3 a_nil hs2) hs1) hs H1 e1 _ fun vs H2 e2 hv => by
  have e := (Alls.isv (xs := [.int hi, .int lo, .int (-1)])).mp hv
  subst e
  refine ⟨hi, lo, -1, _, rfl, RgC.neg (by omega) (by omega) (by omega) (by omega), k _ H2 e2 fun H3 e3 => ⟨fun i z hz => ?_, ?_⟩⟩
  · obtain ⟨hz, hi⟩ := range_get hz
    subst hz
    refine ⟨hi, fun x H4 ⟨e4, y⟩ => ?_⟩
    subst e4
    exact ⟨Ex.refl _, by rw [y]; show V.int _ = V.int _; congr 1; omega⟩
  · show _ ≤ _
    rw [List.length_range]; exact Nat.le_refl _⟩
/-- for c in s -/
theorem src_str {tg e : Expr} {s : Str} (h : EvE X e σ H (isS s)) : Src X tg e σ H s.cps.toList fun c => isS ⟨#[c]⟩ := ⟨_, pi_str rE, fun H1 e1 R k => h H1 e1 _ fun v H2 e2 hv => ⟨s, hv, k _ H2 e2 fun H3 e3 => ⟨fun i z hz => by
  have hz' : s.cps[i]? = some z := by rw [← Array.getElem?_toList]; exact hz
  refine ⟨(Array.getElem?_eq_some_iff.mp hz').1, fun x H4 ⟨e4, c, hc, y⟩ => ?_⟩
  subst e4
  rw [hz'] at hc; cases hc
  exact ⟨Ex.refl _, y⟩, by show s.cps.size ≤ _; rw [Array.length_toList]; exact Nat.le_refl _⟩⟩⟩

/-! ### for -/
variable {D : Ends} {rest body : List Stmt} {pos px : Pos} {x : Str} {iter : Expr}
/-- the heap only grows -/
theorem c_for {k : Nat} {zs : List α} {q : α → Wd} (h : Src X (.Name x px) iter σ H zs q) (Pv : Hp → Nat → L2.St → Hp → Prop) (h0 : ∀ H1, Ex H H1 → Pv H1 0 σ H1) (hx : ∀ H1 i σ' H', Pv H1 i σ' H' → Ex H1 H')
    (hs : ∀ H1 i z σ' H', Ex H H1 → zs[i]? = some z → Pv H1 i σ' H' → ∀ y H2, Ex H' H2 → q z y H2 → wSs X body { nx := Pv H1 (i + 1), ct := Pv H1 (i + 1), bk := wSs X rest D, rt := D.rt } (σ'.set k (some y)) H2)
    (hd : ∀ H1 σ' H', Ex H H1 → Pv H1 zs.length σ' H' → wSs X rest D σ' H') (nd : X.N.Nodup) (hc : X.calm = true := by rfl) (hp : PassesOwn (model X.prog X.w) X.A X.env X.xe := by exact PassesOwn.never) (hN : X.N[k]? = some x := by rfl) (hl : Loc X.env.scope x := by first | exact Or.inl rfl | exact Or.inr rfl)
    (hf : X.fn x = true ∨ X.env.scope.names.lookup x = some .local := by first | exact Or.inl rfl | exact Or.inr rfl) (hsi : ∀ y, foldedSetIterable iter X.env y = pure y := by intro _; rfl) : wSs X (.For (.Name x px) iter body [] pos :: rest) D σ H := by
  obtain ⟨wi, hpi, hw⟩ := h.ex
  refine c_cons (ofS (ps_for hp hc hpi (pg_name nd hN hl hf) rSs hsi) (hw H (Ex.refl _) _ fun J H1 e1 hJ => ?_))
  refine ⟨fun i m σ' H' => m = zs.length - i ∧ i ≤ zs.length ∧ Pv H1 i σ' H', ⟨zs.length, by simp, Nat.zero_le _, h0 H1 e1⟩, ?_⟩
  rintro i m σ' H' ⟨rfl, hi, p⟩
  obtain ⟨hgo, hstop⟩ := hJ H' (hx _ _ _ _ p)
  by_cases hlt : i < zs.length
  · have hz := List.getElem?_eq_getElem hlt
    obtain ⟨g1, g2⟩ := hgo i _ hz
    refine .inr ⟨g1, Pv H1 (i + 1), fun σ2 H2 p' => ⟨zs.length - (i + 1), by omega, rfl, hlt, p'⟩, fun y H2 hy => ?_⟩
    obtain ⟨e2, hq⟩ := g2 y H2 hy
    exact hs H1 i _ σ' H' e1 hz p y H2 e2 hq
  · have e : i = zs.length := by omega
    subst e
    exact .inl ⟨hstop, hd H1 σ' H' e1 p⟩
/-- over a list, or a tuple, that stays though others change -/
theorem c_forL {k : Nat} {P : Wd} (h : EvE X iter σ H P) (hk : ∀ v H1, Ex H H1 → P v H1 → ∃ a xs, v = .ref a ∧ SqL X.K H1 a xs ∧ ∃ Pv : Nat → L2.St → Hp → Prop, Pv 0 σ H1 ∧ (∀ i σ' H', Pv i σ' H' → SqL X.K H' a xs) ∧
      (∀ i y σ' H', xs[i]? = some y → Pv i σ' H' → wSs X body { nx := Pv (i + 1), ct := Pv (i + 1), bk := wSs X rest D, rt := D.rt } (σ'.set k (some y)) H') ∧ (∀ σ' H', Pv xs.length σ' H' → wSs X rest D σ' H'))
    (nd : X.N.Nodup) (hc : X.calm = true := by rfl) (hp : PassesOwn (model X.prog X.w) X.A X.env X.xe := by exact PassesOwn.never) (hN : X.N[k]? = some x := by rfl) (hl : Loc X.env.scope x := by first | exact Or.inl rfl | exact Or.inr rfl)
    (hf : X.fn x = true ∨ X.env.scope.names.lookup x = some .local := by first | exact Or.inl rfl | exact Or.inr rfl) (hsi : ∀ y, foldedSetIterable iter X.env y = pure y := by intro _; rfl) : wSs X (.For (.Name x px) iter body [] pos :: rest) D σ H :=
  c_cons (ofS (ps_for hp hc (pi_list rE) (pg_name nd hN hl hf) rSs hsi) (h H (Ex.refl _) _ fun v H1 e1 hv => by
    obtain ⟨a, xs, e, hx, Pv, h0, h1, h2, h3⟩ := hk v H1 e1 hv
    exact ⟨a, e, ⟨xs, hx⟩, for_list (D := { D with nx := wSs X rest D }) Pv h0 (fun i σ' H' _ p => h1 i σ' H' p) h2 h3⟩))
theorem c_forT {k : Nat} {P : Wd} (h : EvE X iter σ H P) (hk : ∀ v H1, Ex H H1 → P v H1 → ∃ a xs, v = .ref a ∧ SqT X.K H1 a xs ∧ ∃ Pv : Nat → L2.St → Hp → Prop, Pv 0 σ H1 ∧ (∀ i σ' H', Pv i σ' H' → SqT X.K H' a xs) ∧
      (∀ i y σ' H', xs[i]? = some y → Pv i σ' H' → wSs X body { nx := Pv (i + 1), ct := Pv (i + 1), bk := wSs X rest D, rt := D.rt } (σ'.set k (some y)) H') ∧ (∀ σ' H', Pv xs.length σ' H' → wSs X rest D σ' H'))
    (nd : X.N.Nodup) (hc : X.calm = true := by rfl) (hp : PassesOwn (model X.prog X.w) X.A X.env X.xe := by exact PassesOwn.never) (hN : X.N[k]? = some x := by rfl) (hl : Loc X.env.scope x := by first | exact Or.inl rfl | exact Or.inr rfl)
    (hf : X.fn x = true ∨ X.env.scope.names.lookup x = some .local := by first | exact Or.inl rfl | exact Or.inr rfl) (hsi : ∀ y, foldedSetIterable iter X.env y = pure y := by intro _; rfl) : wSs X (.For (.Name x px) iter body [] pos :: rest) D σ H :=
  c_cons (ofS (ps_for hp hc (pi_tup rE) (pg_name nd hN hl hf) rSs hsi) (h H (Ex.refl _) _ fun v H1 e1 hv => by
    obtain ⟨a, xs, e, hx, Pv, h0, h1, h2, h3⟩ := hk v H1 e1 hv
    exact ⟨a, e, ⟨xs, hx⟩, for_tup (D := { D with nx := wSs X rest D }) Pv h0 (fun i σ' H' _ p => h1 i σ' H' p) h2 h3⟩))

/-! ### comprehensions -/
/-- an element in any block -/
def wB (X : Cx) (scope : Scope) (elt : Expr) : TE := fun σ H Q => ∀ (s : Shared) (H0 : Hp) (C : Addr) (cl : List (Str × Addr)) (fp : List Addr), wE (X.blk s H0 scope (compEnvC scope cl C X.env) fp) elt σ H Q
theorem rB {scope : Scope} {elt : Expr} (s : Shared) (H0 : Hp) (C : Addr) (cl : List (Str × Addr)) (fp : List Addr) : PE (X.blk s H0 scope (compEnvC scope cl C X.env) fp) elt (wB X scope elt) := ⟨fun pins s' _ _ _ I h => h s H0 C cl fp pins s' I⟩
theorem x_lc {k : Nat} {elt : Expr} {scope : Scope} {zs : List α} {q p : α → Wd} (h : Src X (.Name x px) iter σ H zs q) (hz : zs.length ≤ 40000) (hn : ∀ z ∈ zs, NL (p z))
    (he : ∀ z ∈ zs, ∀ y H2, Ex H H2 → q z y H2 → ∀ (s : Shared) (H0 : Hp) (C : Addr) (cl : List (Str × Addr)) (fp : List Addr), EvE (X.blk s H0 scope (compEnvC scope cl C X.env) fp) elt ((σ.set k none).set k (some y)) H2 (p z))
    (nd : X.N.Nodup) (ok : BlkOk X.N X.env.scope scope [(x, k)]) (hgx : ∀ (s : Shared) (H : Hp) (C : Addr) (cl : List (Str × Addr)) (fp : List Addr), L2.PG (X.blk s H scope (compEnvC scope cl C X.env) fp) (.Name x px) (gName k)) (hc : X.calm = true := by rfl) (hsi : ∀ y, foldedSetIterable iter X.env y = pure y := by intro _; rfl) :
    EvE X (.ListComp elt [⟨.Name x px, iter, [], 0⟩] scope pos) σ H (lstP X.K (zs.map p)) := by
  obtain ⟨wi, hpi, hw⟩ := h.ex
  refine .of (pe_lc (own := [(x, k)]) (g := gName k) (tt := tYes) hc nd hpi ok hgx (fun _ _ _ _ _ => pts_nil) (fun s H C cl fp => rB s H C cl fp) hsi) fun H1 e1 Q hq => ?_
  refine hw H1 e1 _ fun J H2 e2 hJ => fun Dl hD => ?_
  have hwipe : ∀ y : V, wipe ((wipe σ [k]).set k (some y)) [k] = wipe σ [k] := fun y => by
    show ((σ.set k none).set k (some y)).set k none = σ.set k none
    simp
  refine ⟨fun i m H' => m = zs.length - i ∧ i ≤ zs.length ∧ Ex H2 H' ∧ ∃ acc, H' Dl = some (.lst acc) ∧ Alls ((zs.take i).map p) acc H', ⟨zs.length, by simp, Nat.zero_le _, Ex.new hD, [], upd_same, by simp [Alls]⟩, ?_⟩
  rintro i m H' ⟨rfl, hi, eH, acc, hacc, hal⟩
  obtain ⟨hgo, hstop⟩ := hJ H' eH
  by_cases hlt : i < zs.length
  · have hzi := List.getElem?_eq_getElem hlt
    obtain ⟨g1, g2⟩ := hgo i _ hzi
    have hmem : zs[i] ∈ zs := List.getElem_mem hlt
    refine .inr ⟨g1, fun H'' => Ex H2 H'' ∧ ∃ acc, H'' Dl = some (.lst acc) ∧ Alls ((zs.take (i + 1)).map p) acc H'', fun H'' p' => ⟨zs.length - (i + 1), by omega, rfl, hlt, p'⟩, fun y H3 hy => ?_⟩
    obtain ⟨e3, hq3⟩ := g2 y H3 hy
    refine ⟨hwipe y, ?_⟩
    show wB X scope elt ((σ.set k none).set k (some y)) H3 _
    intro s H0 C cl fp
    refine he _ hmem y H3 (((e1.trans e2).trans eH).trans e3) hq3 s H0 C cl fp H3 (Ex.refl _) _ fun v H4 e4 hv => ?_
    have hD4 : H4 Dl = some (.lst acc) := e4 _ _ (e3 _ _ hacc)
    have hlen := hal.len
    rw [List.length_map, List.length_take] at hlen
    refine ⟨acc, hD4, Evl.sz_lt (by omega), Ex.mut ((eH.trans e3).trans e4) hD, acc ++ [v], upd_same, ?_⟩
    rw [List.take_succ, hzi, List.map_append]
    refine Alls.app (Alls.exs (fun P hP => ?_) ((Exs.of (e3.trans e4)).trans (Exs.put hD4)) hal) ⟨hn _ hmem (Exs.put hD4) hv, trivial⟩
    obtain ⟨z, hz1, hz2⟩ := List.mem_map.mp hP
    subst hz2
    exact hn z (List.mem_of_mem_take hz1)
  · have e : i = zs.length := by omega
    subst e
    rw [List.take_length] at hal
    exact .inl ⟨hstop, hq _ H' (e2.trans eH) ⟨Dl, acc, rfl, Evl.sq_of hacc, hal⟩⟩
end
end FU
end
section
set_option maxRecDepth 100000
set_option maxHeartbeats 1000000
namespace FU
open PySem PySem.Spec PyProof.Rows L2
open Evl (Ex)

/-- an instance of C with these attributes -/
def InsAt (C : Addr) (fs : List (Str × V)) (v : V) (H : Hp) : Prop := ∃ a dx, v = .ref a ∧ H a = some (.ins C dx fs)

section
variable {X : Cx} {σ : L2.St} {H : Hp} {e a b o : Expr} {es : List Expr} {P Po Pa Pb : Wd} {Ps : List Wd} {pos px apos : Pos} {x m f : Str} {C : Addr} {D : Ends} {rest : List Stmt}
theorem x_fld (cl : Cls X.K C) (hn : NoAttr X.K C f) (ho : EvE X o σ H Po) (k : ∀ v H1, Ex H H1 → Po v H1 → ∃ fs y, InsAt C fs v H1 ∧ fs.lookup f = some y ∧ P y H1) (hb : attributeBase o f X.env (eval o X.env) = eval o X.env := by rfl) : EvE X (.Attribute o f pos) σ H P :=
  .of (pe_fld rE hb) fun H1 e1 Q q => ho H1 e1 _ fun v H2 e2 hv => by
    obtain ⟨fs, y, ⟨a, dx, ev, ha⟩, hl, hp⟩ := k v H2 (e1.trans e2) hv
    exact ⟨a, C, dx, fs, y, ev, ha, cl, hn, hl, q y H2 e2 hp⟩
/-- a property's getter -/
structure Prp (P : Program) (w : World) (K : PySem.W.Frag) (mg : Str → Option Value) (base : Heap) (k : Nat) (C : Addr) (f : Str) (Ct : Ct) : Prop where
  ex : ∃ (p g : Addr) (fd : FuncData) (ps : List Str), PropOf K C f p g ∧ FnOk P w K mg base C8.CX0 k g fd ps (spC Ct) ∧ Binds K fd ps []
theorem x_prop {k j : Nat} {Ct : Ct} (c : Prp X.prog X.w X.K X.mg X.base k C f Ct) (cl : Cls X.K C) (hr : Room j X.A) (ho : EvE X o σ H Po) (h : ∀ v H1, Ex H H1 → Po v H1 → (∃ fs, InsAt C fs v H1) ∧ Ct [v] H1 P) (hk : k + 1 ≤ j := by omega) (hb : attributeBase o f X.env (eval o X.env) = eval o X.env := by rfl) : EvE X (.Attribute o f pos) σ H P := by
  obtain ⟨p, g, fd, ps, hp, F, bd⟩ := c.ex
  refine .of (pe_prop (E := C8.E0) rE cl hp F (hr.mono hk) bd .nil (fun _ _ _ _ _ _ _ z => z.elim) hb) fun H1 e1 Q q => ho H1 e1 _ fun v H2 e2 hv => ?_
  obtain ⟨⟨fs, a, dx, ev, ha⟩, hc⟩ := h v H2 (e1.trans e2) hv
  subst ev
  exact ⟨a, dx, fs, rfl, ha, P, hc, fun y H3 e3 hy => q y H3 (e2.trans e3) hy⟩
/-- o.m(..) -/
theorem x_meth {k j : Nat} {Ct : Ct} {dvs : List V} {pl : Sem Bool} (c : C8.Met X.prog X.w X.K X.mg X.base k C m (spC Ct) dvs) (hr : Room j X.A) (ho : EvE X o σ H Po) (ha : EvA X (e :: es) σ H Ps)
    (h : ∀ v vs H1, Ex H H1 → Po v H1 → Alls Ps vs H1 → (∃ fs, InsAt C fs v H1 ∧ fs.lookup m = none) ∧ Ct (v :: (vs ++ dvs)) H1 P) (h0 : ∀ v H1, Ex H H1 → Po v H1 → ∃ fs, InsAt C fs v H1 ∧ fs.lookup m = none) (hk : k ≤ j := by omega)
    (hst : starEach (e :: es) X.env = (false, eval e X.env) :: starEach es X.env := by rfl) (hpl : (backTo pos (starEach es X.env)).any (·.1) = false := by rfl)
    (ht : eval (.Call (.Attribute o m apos) (e :: es) [] pos) X.env = (do
      let ov ← eval o X.env
      standAt apos.atName
      let (f, first) ← holding [ov] (getMethod ov m pl)
      callWith pos f first (backTo pos (starEach (e :: es) X.env)) (backToKw pos (keywordEach [] X.env))) := by rfl) : EvE X (.Call (.Attribute o m apos) (e :: es) [] pos) σ H P :=
  .of (C8.pe_mt c hr hk rE rA hst hpl ht) fun H1 e1 Q q => ho H1 e1 _ fun v H2 e2 hv => by
    obtain ⟨fs, ⟨a, dx, ev, ha0⟩, hl⟩ := h0 v H2 (e1.trans e2) hv
    refine ⟨a, dx, fs, ev, ha0, hl, ha H2 (e1.trans e2) _ fun vs H3 e3 hvs => ⟨P, (h v vs H3 ((e1.trans e2).trans e3) (Po.st e3 hv) hvs).2, fun y H4 e4 hy => q y H4 ((e2.trans e3).trans e4) hy⟩⟩
theorem x_meth0 {k j : Nat} {Ct : Ct} {dvs : List V} {pl : Sem Bool} (c : C8.Met X.prog X.w X.K X.mg X.base k C m (spC Ct) dvs) (hr : Room j X.A) (ho : EvE X o σ H Po)
    (h : ∀ v H1, Ex H H1 → Po v H1 → (∃ fs, InsAt C fs v H1 ∧ fs.lookup m = none) ∧ Ct (v :: dvs) H1 P) (hk : k ≤ j := by omega)
    (ht : eval (.Call (.Attribute o m apos) [] [] pos) X.env = (do
      let ov ← eval o X.env
      standAt apos.atName
      let (f, first) ← holding [ov] (getMethod ov m pl)
      callWith pos f first (backTo pos (starEach [] X.env)) (backToKw pos (keywordEach [] X.env))) := by rfl) : EvE X (.Call (.Attribute o m apos) [] [] pos) σ H P :=
  .of (C8.pe_mt0 c hr hk rE ht) fun H1 e1 Q q => ho H1 e1 _ fun v H2 e2 hv => by
    obtain ⟨⟨fs, ⟨a, dx, ev, ha0⟩, hl⟩, hc⟩ := h v H2 (e1.trans e2) hv
    exact ⟨a, dx, fs, ev, ha0, hl, P, hc, fun y H4 e4 hy => q y H4 (e2.trans e4) hy⟩
/-- a classmethod -/
structure Cme (P : Program) (w : World) (K : PySem.W.Frag) (mg : Str → Option Value) (base : Heap) (k : Nat) (C : Addr) (m : Str) (Ct : Ct) : Prop where
  ex : ∃ (p g : Addr) (fd : FuncData) (ps : List Str) (mc : Value), ClX.CRead K C mc ∧ ClX.CMet K C mc m p g ∧ FnOk P w K mg base C8.CX0 k g fd ps (spC Ct) ∧ Binds K fd ps []
theorem x_cmeth {k j : Nat} {Ct : Ct} {pl : Sem Bool} (c : Cme X.prog X.w X.K X.mg X.base k C m Ct) (hr : Room j X.A) (ho : EvE X o σ H (isv (.ref C))) (ha : EvA X (e :: es) σ H Ps) (h : ∀ vs H1, Ex H H1 → Alls Ps vs H1 → Ct (.ref C :: vs) H1 P) (hk : k ≤ j := by omega)
    (hst : starEach (e :: es) X.env = (false, eval e X.env) :: starEach es X.env := by rfl) (hpl : (backTo pos (starEach es X.env)).any (·.1) = false := by rfl)
    (ht : eval (.Call (.Attribute o m apos) (e :: es) [] pos) X.env = (do
      let ov ← eval o X.env
      standAt apos.atName
      let (f, first) ← holding [ov] (getMethod ov m pl)
      callWith pos f first (backTo pos (starEach (e :: es) X.env)) (backToKw pos (keywordEach [] X.env))) := by rfl) : EvE X (.Call (.Attribute o m apos) (e :: es) [] pos) σ H P := by
  obtain ⟨p, g, fd, ps, mc, r, cm, F, bd⟩ := c.ex
  refine .of (ClX.pe_cmeth (E := C8.E0) rE r cm (F.raw bd .nil) (hr.mono hk) C8.pass0 rA hst hpl ht) fun H1 e1 Q q => ho H1 e1 _ fun v H2 e2 hv => ⟨hv, ha H2 (e1.trans e2) _ fun vs H3 e3 hvs => ?_⟩
  show spC Ct (.ref C :: vs ++ []) H3 Q _
  rw [List.append_nil]
  exact ⟨P, h vs H3 ((e1.trans e2).trans e3) hvs, fun y H4 e4 hy => q y H4 ((e2.trans e3).trans e4) hy⟩
/-- what __init__ puts down -/
def spIn (C : Addr) (Ct : List V → Hp → List (Str × V) → Prop) : Sp := fun vs H Q _ => ∃ a dx us fs, vs = .ref a :: us ∧ H a = some (.ins C dx []) ∧ H dx = some (.own a) ∧ Ct us H fs ∧ ∀ H', (∀ b o, b ≠ a → H b = some o → H' b = some o) → H' a = some (.ins C dx fs) → Q .non H'
theorem make_ex {H1 H' : Hp} {a dx : Addr} {C : Addr} (h1 : H1 a = none) (h2 : H1 dx = none) (h : ∀ b o, b ≠ a → (upd (upd H1 dx (.own a)) a (.ins C dx [])) b = some o → H' b = some o) : Ex H1 H' := fun b o e => by
  have n1 : b ≠ a := ne_of_none e h1
  have n2 : b ≠ dx := ne_of_none e h2
  exact h b o n1 (by rw [upd_ne n1, upd_ne n2]; exact e)
theorem x_make {k j : Nat} {Ct : List V → Hp → List (Str × V) → Prop} (c : C8.Mak X.prog X.w X.K X.mg X.base k x C (spIn C Ct) []) (hr : Room j X.A) (ha : EvA X (e :: es) σ H Ps)
    (h : ∀ vs H1, Ex H H1 → Alls Ps vs H1 → ∃ fs, (∀ H2, Ex H1 H2 → Ct vs H2 fs) ∧ ∀ v H2, Ex H1 H2 → InsAt C fs v H2 → P v H2) (hk : k + 1 ≤ j := by omega) (hg : Gl X x := by rfl)
    (hdb : (x == ("__debug__" : Str)) = false := by decide) (he : starEach (e :: es) X.env = (false, eval e X.env) :: starEach es X.env := by rfl) (hpl : (backTo pos (starEach es X.env)).any (·.1) = false := by rfl) : EvE X (.Call (.Name x px) (e :: es) [] pos) σ H P :=
  .of (C8.pe_mk c hr hk hg rA hdb he hpl) fun H1 e1 Q q => ha H1 e1 _ fun vs H2 e2 hvs y dx n1 n2 ne => by
    obtain ⟨fs, h1, h2⟩ := h vs H2 (e1.trans e2) hvs
    have ex2 : Ex H2 (upd (upd H2 dx (.own y)) y (.ins C dx [])) := fun b o e => by rw [upd_ne (ne_of_none e n1), upd_ne (ne_of_none e n2)]; exact e
    refine ⟨y, dx, vs, fs, by simp, upd_same, by rw [upd_ne ne]; exact upd_same, h1 _ ex2, fun H' k1 k2 => ⟨rfl, ?_⟩⟩
    exact q _ _ (e2.trans (make_ex n1 n2 k1)) (h2 _ _ (make_ex n1 n2 k1) ⟨y, dx, rfl, k2⟩)
/-- a class held by a local name, called -/
theorem pe_makeL {CX : CXT} {k i : Nat} {f : Addr} {fd : FuncData} {ps : List Str} {sp : Sp} {E : XK} {t : TA} (M : Mk X.K C f) (F : FnOk X.prog X.w X.K X.mg X.base CX k f fd ps sp) (hr : Room (k + 1) X.A) (hb : Binds X.K fd ps []) (hx : Passes CX X E) (ha : PA X (e :: es) t)
    (hN : X.N[i]? = some x) (hv : Vis X.env.scope x) (hd : (x == ("__debug__" : Str)) = false) (hcd : (x == ("__classdict__" : Str)) = false) (he : starEach (e :: es) X.env = (false, eval e X.env) :: starEach es X.env) (hpl : (backTo pos (starEach es X.env)).any (·.1) = false) :
    PE X (.Call (.Name x px) (e :: es) [] pos) (fun σ H Q => σ[i]? = some (some (.ref C)) ∧ tMake C sp [] E t σ H Q) := by
  refine ⟨fun pins s σ H Q I ⟨hs, ht⟩ => ?_⟩
  refine wpAny_Call_Name_kw (thn ((pe_var (pos := px) hN hv hd hcd).run pins s σ H (fun v H1 => v = .ref C ∧ H1 = H) I ⟨.ref C, hs, rfl, rfl⟩) fun u s1 ⟨v, H1, I1, r1, q1⟩ => ?_)
  obtain ⟨rfl, rfl⟩ := q1
  cases r1
  refine PySem.W.callWith_K (h₀ := X.base) I.ok.mod.kin M.kp (thn (ha.run pos pins s1 σ _ _ I1 ht) fun us s2 ⟨vs, H2, I2, r, q⟩ => ⟨I2.kIn, ?_⟩) he hpl
  exact run_make M F hr hb .nil hx I2 r q
theorem x_makeL {k j : Nat} {cn : Str} {Ct : List V → Hp → List (Str × V) → Prop} (i : Nat) (c : C8.Mak X.prog X.w X.K X.mg X.base k cn C (spIn C Ct) []) (hr : Room j X.A) (hs : σ[i]? = some (some (.ref C))) (ha : EvA X (e :: es) σ H Ps)
    (h : ∀ vs H1, Ex H H1 → Alls Ps vs H1 → ∃ fs, (∀ H2, Ex H1 H2 → Ct vs H2 fs) ∧ ∀ v H2, Ex H1 H2 → InsAt C fs v H2 → P v H2) (hk : k + 1 ≤ j := by omega) (hN : X.N[i]? = some x := by rfl) (hv : Vis X.env.scope x := by first | exact Or.inl rfl | exact Or.inr (Or.inl rfl) | exact Or.inr (Or.inr rfl))
    (hd : (x == ("__debug__" : Str)) = false := by decide) (hcd : (x == ("__classdict__" : Str)) = false := by decide) (he : starEach (e :: es) X.env = (false, eval e X.env) :: starEach es X.env := by rfl) (hpl : (backTo pos (starEach es X.env)).any (·.1) = false := by rfl) : EvE X (.Call (.Name x px) (e :: es) [] pos) σ H P := by
  obtain ⟨f, fd, ps, ds, M, F, hm, bd, hdv⟩ := c.ex
  cases hdv
  exact .of (pe_makeL (E := C8.E0) M F (hr.mono hk) bd C8.pass0 rA hN hv hd hcd he hpl) fun H1 e1 Q q => ⟨hs, ha H1 e1 _ fun vs H2 e2 hvs y dx n1 n2 ne => by
    obtain ⟨fs, h1, h2⟩ := h vs H2 (e1.trans e2) hvs
    have ex2 : Ex H2 (upd (upd H2 dx (.own y)) y (.ins C dx [])) := fun b o e => by rw [upd_ne (ne_of_none e n1), upd_ne (ne_of_none e n2)]; exact e
    refine ⟨y, dx, vs, fs, by simp, upd_same, by rw [upd_ne ne]; exact upd_same, h1 _ ex2, fun H' k1 k2 => ⟨rfl, ?_⟩⟩
    exact q _ _ (e2.trans (make_ex n1 n2 k1)) (h2 _ _ (make_ex n1 n2 k1) ⟨y, dx, rfl, k2⟩)⟩

/-! ### own operators -/
theorem cmpBack_of {pins : List (Addr × Obj)} {Q : VK} {r : Value} {s' : Shared} (h : EP X pins σ Q r s') : PySem.W.CmpBack (EP X pins σ Q) r s' := by
  cases r with
  | notImplemented =>
    obtain ⟨z, H', I', rz, qz⟩ := h
    cases z with
    | non => cases rz
    | bl _ => cases rz
    | int _ => obtain ⟨t, e⟩ := rz; cases e
    | str _ => obtain ⟨t, e⟩ := rz; cases e
    | byt _ => obtain ⟨t, e⟩ := rz; cases e
    | flt _ => obtain ⟨t, e⟩ := rz; cases e
    | ref _ => cases rz
    | ty _ => cases rz
  | _ => exact h
theorem op_own {op : Operator} {k : Nat} {Ct : Ct} (c : C8.Met X.prog X.w X.K X.mg X.base k C (PySem.dunder op.info.2) (spC Ct) []) (hc : PySem.W.selfFirst X.K C = true) (hr : Room k X.A) :
    OpR X (binaryOp op) (fun x y H Q => ∃ fs gs, InsAt C fs x H ∧ InsAt C gs y H ∧ ∃ P : Wd, Ct [x, y] H P ∧ ∀ v H', Ex H H' → P v H' → Q v H') := by
  intro pins s σ H x y v u Q I rx ry hq
  obtain ⟨fs, gs, ⟨a, dx, ea, ha⟩, ⟨b, dy, eb, hb⟩, P, hC, q⟩ := hq
  subst ea eb
  cases rx
  cases ry
  obtain ⟨f, fd, ps, ds, cl, mt, F, bd, dv⟩ := c.ex
  cases dv
  obtain ⟨mA, J, _⟩ := ins_get I.hok ha
  obtain ⟨mB, J', _⟩ := ins_get I.hok hb
  obtain ⟨od, J, _⟩ := J.look
  obtain ⟨od', J', _⟩ := J'.look
  obtain ⟨m, hF⟩ := I.fr
  refine PySem.W.binop_K hF I.ok.mod.kin J J'.type hc mt.at_ mt.fn ?_
  refine thn (run_fn (us := [.ref a, .ref b]) (vs := [.ref a, .ref b]) (Q := Q) (E := C8.E0) F hr bd .nil C8.pass0 I (.cons rfl (.cons rfl .nil)) ⟨P, hC, fun v H' e h => q v H' e h⟩) fun r s' hr' => ?_
  exact cmpBack_of hr'
theorem op_eqOwn {k : Nat} {Ct : Ct} (c : C8.Met X.prog X.w X.K X.mg X.base k C "__eq__" (spC Ct) []) (hr : Room k X.A) :
    OpR X (compareOp .Eq) (fun x y H Q => ∃ fs gs, InsAt C fs x H ∧ InsAt C gs y H ∧ ∃ P : Wd, Ct [x, y] H P ∧ ∀ v H', Ex H H' → P v H' → Q v H') := by
  intro pins s σ H x y v u Q I rx ry hq
  obtain ⟨fs, gs, ⟨a, dx, ea, ha⟩, ⟨b, dy, eb, hb⟩, P, hC, q⟩ := hq
  subst ea eb
  cases rx
  cases ry
  obtain ⟨f, fd, ps, ds, cl, mt, F, bd, dv⟩ := c.ex
  cases dv
  obtain ⟨mA, J, _⟩ := ins_get I.hok ha
  obtain ⟨mB, J', _⟩ := ins_get I.hok hb
  obtain ⟨od, J, _⟩ := J.look
  obtain ⟨od', J', _⟩ := J'.look
  obtain ⟨m, hF⟩ := I.fr
  show wpAny (model X.prog X.w) X.A (richCompare .Eq (.ref a) (.ref b)) (EP X pins σ Q) X.xe s
  refine PySem.W.cmp_K (op := .Eq) (tb := .ref C) hr.units0 hF I.ok.mod.kin J J'.type (by simp [PySem.W.notFirst]) mt.at_ mt.fn ?_
  refine thn (run_fn (us := [.ref a, .ref b]) (vs := [.ref a, .ref b]) (Q := Q) (E := C8.E0) F hr bd .nil C8.pass0 I (.cons rfl (.cons rfl .nil)) ⟨P, hC, fun v H' e h => q v H' e h⟩) fun r s' hr' => ?_
  exact cmpBack_of hr'

/-! ### self.f = e -/
theorem c_setf (cl : Cls X.K C) (hn : NoAttr X.K C f) (he : EvE X e σ H P) (ho : EvE X o σ H Po) (k : ∀ y v H1, Ex H H1 → P y H1 → Po v H1 → ∃ a dx fs, v = .ref a ∧ H1 a = some (.ins C dx fs) ∧ fs.length < 1000 ∧ wSs X rest D σ (upd H1 a (.ins C dx (putF f y fs))))
    (hs : swapsWith e (some (.Attribute o f px)) pos.line X.env = pure false := by rfl) : wSs X (.Assign [.Attribute o f px] e pos :: rest) D σ H :=
  c_cons (ofS (ps_fld rE rE hs) (he H (Ex.refl _) _ fun y H1 e1 hy => ho H1 e1 _ fun v H2 e2 hv => by
    obtain ⟨a, dx, fs, ev, ha, hl, hw⟩ := k y v H2 (e1.trans e2) (P.st e2 hy) hv
    exact ⟨a, C, dx, fs, ev, ha, cl, hn, hl, hw⟩))

/-! ### star items -/
theorem a_starL {Qs : List Wd} (h : EvE X e σ H (lstP X.K Ps)) (hr : EvA X es σ H Qs) (hs : starEach (.Starred e px :: es) X.env = (true, eval e X.env) :: starEach es X.env := by rfl) : EvA X (.Starred e px :: es) σ H (Ps ++ Qs) := fun H1 e1 Q q =>
  ofA (StX.pa_star rE rA hs) (h H1 e1 _ fun v H2 e2 ⟨p, xs, ev, hx, hal⟩ => ⟨p, xs, ev, .inr hx, hr H2 (e1.trans e2) _ fun ys H3 e3 hys => q _ H3 (e2.trans e3) (Alls.app (hal.ex e3) hys)⟩)
theorem a_starT {Qs : List Wd} (h : EvE X e σ H (tupP X.K Ps)) (hr : EvA X es σ H Qs) (hs : starEach (.Starred e px :: es) X.env = (true, eval e X.env) :: starEach es X.env := by rfl) : EvA X (.Starred e px :: es) σ H (Ps ++ Qs) := fun H1 e1 Q q =>
  ofA (StX.pa_star rE rA hs) (h H1 e1 _ fun v H2 e2 ⟨p, xs, ev, hx, hal⟩ => ⟨p, xs, ev, .inl hx, hr H2 (e1.trans e2) _ fun ys H3 e3 hys => q _ H3 (e2.trans e3) (Alls.app (hal.ex e3) hys)⟩)
end
end FU
end
section
set_option maxRecDepth 100000
set_option maxHeartbeats 1000000
namespace FU
open PySem PySem.Spec PyProof.Rows L2
open Evl (Ex)

section
variable {X : Cx} {σ : L2.St} {H : Hp} {e a b o : Expr} {es : List Expr} {P Po Pa Pb : Wd} {Ps : List Wd} {pos px apos : Pos} {i j : Int}
theorem Alls.one {P : Wd} : ∀ {vs : List V} {H : Hp}, Alls [P] vs H → ∃ v, vs = [v] ∧ P v H
  | [], _, h => h.elim
  | [v], _, h => ⟨v, rfl, h.1⟩
  | _ :: _ :: _, _, h => h.2.elim
theorem Alls.two {P Q : Wd} : ∀ {vs : List V} {H : Hp}, Alls [P, Q] vs H → ∃ v w, vs = [v, w] ∧ P v H ∧ Q w H
  | [], _, h => h.elim
  | v :: vs, _, h => by
    obtain ⟨w, e, q⟩ := Alls.one h.2
    exact ⟨v, w, by rw [e], h.1, q⟩
theorem Alls.three {P Q R : Wd} : ∀ {vs : List V} {H : Hp}, Alls [P, Q, R] vs H → ∃ v w u, vs = [v, w, u] ∧ P v H ∧ Q w H ∧ R u H
  | [], _, h => h.elim
  | v :: vs, _, h => by
    obtain ⟨w, u, e, q, r⟩ := Alls.two h.2
    exact ⟨v, w, u, by rw [e], h.1, q, r⟩
abbrev Pl0 (X : Cx) (e : Expr) : Prop := starEach [e] X.env = (false, eval e X.env) :: starEach [] X.env
theorem x_len (hm : X.mg "len" = none) (h : EvE X e σ H (lstP X.K Ps)) (hg : Gl X "len" := by rfl) (hs : Pl0 X e := by rfl) (hpl : (backTo pos (starEach [] X.env)).any (·.1) = false := by rfl) : EvE X (.Call (.Name "len" px) [e] [] pos) σ H (isI Ps.length) :=
  x_blt call_len_seq hm (a_cons h a_nil hs) (fun vs H1 _ hv Q q => by
    obtain ⟨v, rfl, p, xs, rfl, hx, al⟩ := Alls.one hv
    exact ⟨p, xs, rfl, .inl hx, q _ H1 (Ex.refl _) (by rw [al.len]; rfl)⟩) PySem.boot_len hg (by decide) (by decide) hs hpl
theorem x_lenT (hm : X.mg "len" = none) (h : EvE X e σ H (tupP X.K Ps)) (hg : Gl X "len" := by rfl) (hs : Pl0 X e := by rfl) (hpl : (backTo pos (starEach [] X.env)).any (·.1) = false := by rfl) : EvE X (.Call (.Name "len" px) [e] [] pos) σ H (isI Ps.length) :=
  x_blt call_len_seq hm (a_cons h a_nil hs) (fun vs H1 _ hv Q q => by
    obtain ⟨v, rfl, p, xs, rfl, hx, al⟩ := Alls.one hv
    exact ⟨p, xs, rfl, .inr hx, q _ H1 (Ex.refl _) (by rw [al.len]; rfl)⟩) PySem.boot_len hg (by decide) (by decide) hs hpl
theorem x_lenS {z : Str} (hm : X.mg "len" = none) (h : EvE X e σ H (isS z)) (hz : z.length ≤ 1000) (hg : Gl X "len" := by rfl) (hs : Pl0 X e := by rfl) (hpl : (backTo pos (starEach [] X.env)).any (·.1) = false := by rfl) : EvE X (.Call (.Name "len" px) [e] [] pos) σ H (isI z.length) :=
  x_blt call_len_str hm (a_cons h a_nil hs) (fun vs H1 _ hv Q q => ⟨z, (Alls.isv (xs := [.str z])).mp hv, Evl.sz_of (by omega), q _ H1 (Ex.refl _) rfl⟩) PySem.boot_len hg (by decide) (by decide) hs hpl
theorem x_min2 (hm : X.mg "min" = none) (h1 : EvE X a σ H (isI i)) (h2 : EvE X b σ H (isI j)) (hc : X.calm = true := by rfl) (hg : Gl X "min" := by rfl) (hs : starEach [a, b] X.env = (false, eval a X.env) :: starEach [b] X.env := by rfl) (hs2 : Pl0 X b := by rfl) (hpl : (backTo pos (starEach [b] X.env)).any (·.1) = false := by rfl) :
    EvE X (.Call (.Name "min" px) [a, b] [] pos) σ H (isI (min i j)) :=
  x_blt (call_min2 hc) hm (a_cons h1 (a_cons h2 a_nil hs2) hs) (fun vs H1 _ hv Q q => ⟨i, j, (Alls.isv (xs := [.int i, .int j])).mp hv, q _ H1 (Ex.refl _) (by show V.int _ = V.int _; congr 1; split <;> omega)⟩) (by decide +kernel) hg (by decide) (by decide) hs hpl
theorem x_max2 (hm : X.mg "max" = none) (h1 : EvE X a σ H (isI i)) (h2 : EvE X b σ H (isI j)) (hc : X.calm = true := by rfl) (hg : Gl X "max" := by rfl) (hs : starEach [a, b] X.env = (false, eval a X.env) :: starEach [b] X.env := by rfl) (hs2 : Pl0 X b := by rfl) (hpl : (backTo pos (starEach [b] X.env)).any (·.1) = false := by rfl) :
    EvE X (.Call (.Name "max" px) [a, b] [] pos) σ H (isI (max i j)) :=
  x_blt (call_max2 hc) hm (a_cons h1 (a_cons h2 a_nil hs2) hs) (fun vs H1 _ hv Q q => ⟨i, j, (Alls.isv (xs := [.int i, .int j])).mp hv, q _ H1 (Ex.refl _) (by show V.int _ = V.int _; congr 1; split <;> omega)⟩) (by decide +kernel) hg (by decide) (by decide) hs hpl
theorem x_intI (hm : X.mg "int" = none) (h : EvE X e σ H (isI i)) (hg : Gl X "int" := by rfl) (hs : Pl0 X e := by rfl) (hpl : (backTo pos (starEach [] X.env)).any (·.1) = false := by rfl) : EvE X (.Call (.Name "int" px) [e] [] pos) σ H (isI i) :=
  x_bty call_int1 hm (a_cons h a_nil hs) (fun vs H1 _ hv Q q => .inl ⟨i, (Alls.isv (xs := [.int i])).mp hv, q _ H1 (Ex.refl _) rfl⟩) (by decide +kernel) hg (by decide) (by decide) hs hpl
theorem x_intB {k : Bool} (hm : X.mg "int" = none) (h : EvE X e σ H (isB k)) (hg : Gl X "int" := by rfl) (hs : Pl0 X e := by rfl) (hpl : (backTo pos (starEach [] X.env)).any (·.1) = false := by rfl) : EvE X (.Call (.Name "int" px) [e] [] pos) σ H (isI (if k then 1 else 0)) :=
  x_bty call_int1 hm (a_cons h a_nil hs) (fun vs H1 _ hv Q q => .inr ⟨k, (Alls.isv (xs := [.bl k])).mp hv, q _ H1 (Ex.refl _) rfl⟩) (by decide +kernel) hg (by decide) (by decide) hs hpl
theorem x_intS {z : Str} {n : Int} (hm : X.mg "int" = none) (h : EvE X e σ H (isS z)) (hz : PySem.intText? z = some n) (hl : z.length ≤ 640) (hg : Gl X "int" := by rfl) (hs : Pl0 X e := by rfl) (hpl : (backTo pos (starEach [] X.env)).any (·.1) = false := by rfl) : EvE X (.Call (.Name "int" px) [e] [] pos) σ H (isI n) :=
  x_bty call_int_str hm (a_cons h a_nil hs) (fun vs H1 _ hv Q q => ⟨z, n, (Alls.isv (xs := [.str z])).mp hv, hz, hl, q _ H1 (Ex.refl _) rfl⟩) (by decide +kernel) hg (by decide) (by decide) hs hpl
theorem x_strI (hm : X.mg "str" = none) (h : EvE X e σ H (isI i)) (hz : i.natAbs.log2 < 1920) (hg : Gl X "str" := by rfl) (hs : Pl0 X e := by rfl) (hpl : (backTo pos (starEach [] X.env)).any (·.1) = false := by rfl) : EvE X (.Call (.Name "str" px) [e] [] pos) σ H (isS (Str.ofString (toString i))) :=
  x_bty call_str_int hm (a_cons h a_nil hs) (fun vs H1 _ hv Q q => ⟨i, (Alls.isv (xs := [.int i])).mp hv, hz, q _ H1 (Ex.refl _) rfl⟩) (by decide +kernel) hg (by decide) (by decide) hs hpl
/-- tuple(list) -/
theorem x_tupL (hm : X.mg "tuple" = none) (h : EvE X e σ H (lstP X.K Ps)) (hg : Gl X "tuple" := by rfl) (hs : Pl0 X e := by rfl) (hpl : (backTo pos (starEach [] X.env)).any (·.1) = false := by rfl) : EvE X (.Call (.Name "tuple" px) [e] [] pos) σ H (tupP X.K Ps) :=
  x_bty call_tuple_of hm (a_cons h a_nil hs) (fun vs H1 _ hv Q q => by
    obtain ⟨v, rfl, p, xs, rfl, hx, al⟩ := Alls.one hv
    exact ⟨p, xs, rfl, .inl ⟨hx, fun l hl => q _ _ (Ex.new hl) ⟨l, xs, rfl, Evl.st_of upd_same, al.ex (Ex.new hl)⟩⟩⟩) (by decide +kernel) hg (by decide) (by decide) hs hpl
theorem x_tupT (hm : X.mg "tuple" = none) (h : EvE X e σ H (tupP X.K Ps)) (hg : Gl X "tuple" := by rfl) (hs : Pl0 X e := by rfl) (hpl : (backTo pos (starEach [] X.env)).any (·.1) = false := by rfl) : EvE X (.Call (.Name "tuple" px) [e] [] pos) σ H (tupP X.K Ps) :=
  x_bty call_tuple_of hm (a_cons h a_nil hs) (fun vs H1 _ hv Q q => by
    obtain ⟨v, rfl, p, xs, rfl, hx, al⟩ := Alls.one hv
    exact ⟨p, xs, rfl, .inr ⟨hx, q _ _ (Ex.refl _) ⟨p, xs, rfl, hx, al⟩⟩⟩) (by decide +kernel) hg (by decide) (by decide) hs hpl
/-- list(list), list(tuple) -/
theorem x_lstT (hm : X.mg "list" = none) (h : EvE X e σ H (tupP X.K Ps)) (hg : Gl X "list" := by rfl) (hs : Pl0 X e := by rfl) (hpl : (backTo pos (starEach [] X.env)).any (·.1) = false := by rfl) : EvE X (.Call (.Name "list" px) [e] [] pos) σ H (lstP X.K Ps) :=
  x_bty call_list_of hm (a_cons h a_nil hs) (fun vs H1 _ hv Q q => by
    obtain ⟨v, rfl, p, xs, rfl, hx, al⟩ := Alls.one hv
    exact ⟨p, xs, rfl, .inr hx, fun l hl => q _ _ (Ex.new hl) ⟨l, xs, rfl, Evl.sq_of upd_same, al.ex (Ex.new hl)⟩⟩) (by decide +kernel) hg (by decide) (by decide) hs hpl
theorem lst_ints {K : PySem.W.Frag} {ns : List Int} {v : V} {H : Hp} (h : lstP K (ns.map fun i => isI i) v H) : ∃ p, v = .ref p ∧ SqL K H p (ns.map V.int) := by
  have e : (ns.map fun i => isI i) = (ns.map V.int).map isv := by rw [List.map_map]; rfl
  rw [e] at h
  obtain ⟨p, h1, h2⟩ := lstP_v.mp h
  exact ⟨p, h1, h2⟩
theorem x_sum {ns : List Int} (hm : X.mg "sum" = none) (h : EvE X e σ H (lstP X.K (ns.map fun i => isI i))) (hc : X.calm = true := by rfl) (hg : Gl X "sum" := by rfl) (hs : Pl0 X e := by rfl) (hpl : (backTo pos (starEach [] X.env)).any (·.1) = false := by rfl) : EvE X (.Call (.Name "sum" px) [e] [] pos) σ H (isI ns.sum) :=
  x_blt (cr_sum hc) hm (a_cons h a_nil hs) (fun vs H1 _ hv Q q => by
    obtain ⟨v, rfl, hv'⟩ := Alls.one hv
    obtain ⟨p, rfl, hx⟩ := lst_ints hv'
    exact ⟨p, ns, rfl, hx, q _ H1 (Ex.refl _) rfl⟩) (by decide +kernel) hg (by decide) (by decide) hs hpl
theorem x_maxL {ns : List Int} {m : Int} (hm : X.mg "max" = none) (h : EvE X e σ H (lstP X.K (ns.map fun i => isI i))) (h0 : m ∈ ns) (h1 : ∀ y ∈ ns, y ≤ m) (hc : X.calm = true := by rfl) (hg : Gl X "max" := by rfl) (hs : Pl0 X e := by rfl) (hpl : (backTo pos (starEach [] X.env)).any (·.1) = false := by rfl) : EvE X (.Call (.Name "max" px) [e] [] pos) σ H (isI m) :=
  x_blt (cr_max hc) hm (a_cons h a_nil hs) (fun vs H1 _ hv Q q => by
    obtain ⟨v, rfl, hv'⟩ := Alls.one hv
    obtain ⟨p, rfl, hx⟩ := lst_ints hv'
    exact ⟨p, ns, rfl, hx, List.length_pos_of_mem h0, fun y hy hb => q _ H1 (Ex.refl _) (by show V.int _ = V.int _; congr 1; have := h1 y hy; have := hb m h0; omega)⟩) (by decide +kernel) hg (by decide) (by decide) hs hpl
theorem x_minL {ns : List Int} {m : Int} (hm : X.mg "min" = none) (h : EvE X e σ H (lstP X.K (ns.map fun i => isI i))) (h0 : m ∈ ns) (h1 : ∀ y ∈ ns, m ≤ y) (hc : X.calm = true := by rfl) (hg : Gl X "min" := by rfl) (hs : Pl0 X e := by rfl) (hpl : (backTo pos (starEach [] X.env)).any (·.1) = false := by rfl) : EvE X (.Call (.Name "min" px) [e] [] pos) σ H (isI m) :=
  x_blt (cr_min hc) hm (a_cons h a_nil hs) (fun vs H1 _ hv Q q => by
    obtain ⟨v, rfl, hv'⟩ := Alls.one hv
    obtain ⟨p, rfl, hx⟩ := lst_ints hv'
    exact ⟨p, ns, rfl, hx, List.length_pos_of_mem h0, fun y hy hb => q _ H1 (Ex.refl _) (by show V.int _ = V.int _; congr 1; have := h1 y hy; have := hb m h0; omega)⟩) (by decide +kernel) hg (by decide) (by decide) hs hpl
theorem x_all {bs : List Bool} (hm : X.mg "all" = none) (h : EvE X e σ H (lstP X.K (bs.map fun b => isB b))) (hc : X.calm = true := by rfl) (hg : Gl X "all" := by rfl) (hs : Pl0 X e := by rfl) (hpl : (backTo pos (starEach [] X.env)).any (·.1) = false := by rfl) : EvE X (.Call (.Name "all" px) [e] [] pos) σ H (isB (bs.all id)) :=
  x_blt (cr_all hc) hm (a_cons h a_nil hs) (fun vs H1 _ hv Q q => by
    obtain ⟨v, rfl, hv'⟩ := Alls.one hv
    have e : (bs.map fun b => isB b) = (bs.map V.bl).map isv := by rw [List.map_map]; rfl
    rw [e] at hv'
    obtain ⟨p, rfl, hx⟩ := lstP_v.mp hv'
    exact ⟨p, bs, rfl, hx, q _ H1 (Ex.refl _) rfl⟩) (by decide +kernel) hg (by decide) (by decide) hs hpl

end
end FU
end
section
set_option maxRecDepth 100000
set_option maxHeartbeats 1000000
namespace FU
open PySem PySem.Spec PyProof.Rows L2
open Evl (Ex)

section
variable {X : Cx} {σ : L2.St} {H : Hp} {e a b o : Expr} {es : List Expr} {P Po Pa Pb : Wd} {Ps : List Wd} {pos px apos : Pos} {i j : Int}
theorem x_neg (h : EvE X e σ H (isI i)) : EvE X (.UnaryOp .USub e pos) σ H (isI (-i)) := .of (pe_un un_neg rE) fun H1 e1 Q q => h H1 e1 _ fun v H2 e2 hv => ⟨i, hv, q _ H2 e2 rfl⟩
theorem x_ixL {k : Nat} {P : Wd} (ha : EvE X a σ H (lstP X.K Ps)) (hb : EvE X b σ H (isI (k : Int))) (hP : Ps[k]? = some P) (hs : PlainIx b := by exact fun _ _ => rfl) : EvE X (.Subscript a b pos) σ H P :=
  .of (pe_ix ix_list rE rE hs) fun H1 e1 Q q => ha H1 e1 _ fun v H2 e2 ⟨p, xs, ev, hx, al⟩ => hb H2 (e1.trans e2) _ fun y H3 e3 hy => by
    obtain ⟨x, hx1, hx2⟩ := al.get hP
    exact ⟨p, xs, (k : Int), x, ev, hy, Evl.ex_l e3 hx, atI_nat hx1, q _ H3 (e2.trans e3) (P.st e3 hx2)⟩
theorem x_ixT {k : Nat} {P : Wd} (ha : EvE X a σ H (tupP X.K Ps)) (hb : EvE X b σ H (isI (k : Int))) (hP : Ps[k]? = some P) (hs : PlainIx b := by exact fun _ _ => rfl) : EvE X (.Subscript a b pos) σ H P :=
  .of (pe_ix ix_tup rE rE hs) fun H1 e1 Q q => ha H1 e1 _ fun v H2 e2 ⟨p, xs, ev, hx, al⟩ => hb H2 (e1.trans e2) _ fun y H3 e3 hy => by
    obtain ⟨x, hx1, hx2⟩ := al.get hP
    exact ⟨p, xs, (k : Int), x, ev, hy, Evl.ex_t e3 hx, atI_nat hx1, q _ H3 (e2.trans e3) (P.st e3 hx2)⟩
theorem x_ixS {k : Nat} {z : Str} {c : Nat} (ha : EvE X a σ H (isS z)) (hb : EvE X b σ H (isI (k : Int))) (hz : z.length ≤ 100000) (hP : z.cps.toList[k]? = some c) (hs : PlainIx b := by exact fun _ _ => rfl) : EvE X (.Subscript a b pos) σ H (isS ⟨#[c]⟩) :=
  .of (pe_ix ix_str rE rE hs) fun H1 e1 Q q => ha H1 e1 _ fun v H2 e2 hv => hb H2 (e1.trans e2) _ fun y H3 e3 hy => ⟨z, (k : Int), c, hv, hy, Evl.sz_of hz, atI_nat hP, q _ H3 (e2.trans e3) rfl⟩
theorem cutV_drop (xs : List V) (n : Nat) (h : n ≤ xs.length) : cutV xs (some (n : Int)) none = xs.drop n := by
  unfold cutV
  rw [HT.sIx_nat, HT.sIx_none, Nat.min_eq_left h]
  rw [List.take_of_length_le]
  rw [List.length_drop]; exact Nat.le_refl _
theorem cutV_last (xs : List V) (h : 1 ≤ xs.length) : cutV xs none (some (-1)) = xs.take (xs.length - 1) := by
  unfold cutV
  have e : HT.sIx xs.length xs.length (some (-1)) = xs.length - 1 := by
    show (if (-1 : Int) < 0 then ((-1 : Int) + (xs.length : Int)).toNat else min (-1 : Int).toNat xs.length) = _
    rw [if_pos (by decide)]; omega
  rw [e, HT.sIx_none]
  simp
/-- xs[n:] -/
theorem x_from {n : Nat} {p2 : Pos} (ha : EvE X a σ H (lstP X.K Ps)) (hb : EvE X b σ H (isI (n : Int))) (hn : n ≤ Ps.length) : EvE X (.Subscript a (.Slice (some b) none none p2) pos) σ H (lstP X.K (Ps.drop n)) :=
  .of (pe_slice sl_list rE (po_some rE) po_none) fun H1 e1 Q q => ha H1 e1 _ fun v H2 e2 ⟨p, xs, ev, hx, al⟩ => hb H2 (e1.trans e2) _ fun y H3 e3 hy => ⟨(n : Int), hy, p, xs, ev, Evl.ex_l e3 hx, fun t ht => by
    rw [cutV_drop xs n (by rw [al.len]; exact hn)]
    exact q _ _ ((e2.trans e3).trans (Ex.new ht)) ⟨t, _, rfl, Evl.sq_of upd_same, (al.drop n).ex (e3.trans (Ex.new ht))⟩⟩
/-- xs[:-1] -/
theorem x_upto {p2 : Pos} (ha : EvE X a σ H (lstP X.K Ps)) (hb : EvE X b σ H (isI (-1))) (hn : 1 ≤ Ps.length) : EvE X (.Subscript a (.Slice none (some b) none p2) pos) σ H (lstP X.K (Ps.take (Ps.length - 1))) :=
  .of (pe_slice sl_list rE po_none (po_some rE)) fun H1 e1 Q q => ha H1 e1 _ fun v H2 e2 ⟨p, xs, ev, hx, al⟩ => hb H2 (e1.trans e2) _ fun y H3 e3 hy => ⟨-1, hy, p, xs, ev, Evl.ex_l e3 hx, fun t ht => by
    rw [cutV_last xs (by rw [al.len]; exact hn), al.len]
    exact q _ _ ((e2.trans e3).trans (Ex.new ht)) ⟨t, _, rfl, Evl.sq_of upd_same, (al.take _).ex (e3.trans (Ex.new ht))⟩⟩

/-! ### x in (..), x in [..] -/
theorem k_inT {v : V} {xs : List V} (h1 : flatV v = true) (h2 : xs.all flatV = true) : ∀ x y H1, Ex H H1 → isv v x H1 → tupP X.K (xs.map isv) y H1 → ∀ Q : VK, (∀ H2, Ex H1 H2 → Q (.bl (inV v xs)) H2) → rIn X.K false x y H1 Q := fun x y H1 _ hx hy Q q => by
  obtain ⟨p, e, h⟩ := tupP_v.mp hy
  cases hx
  exact ⟨p, xs, e, .inr h, h1, h2, q H1 (Ex.refl _)⟩
theorem k_inL {v : V} {xs : List V} (h1 : flatV v = true) (h2 : xs.all flatV = true) : ∀ x y H1, Ex H H1 → isv v x H1 → lstP X.K (xs.map isv) y H1 → ∀ Q : VK, (∀ H2, Ex H1 H2 → Q (.bl (inV v xs)) H2) → rIn X.K false x y H1 Q := fun x y H1 _ hx hy Q q => by
  obtain ⟨p, e, h⟩ := lstP_v.mp hy
  cases hx
  exact ⟨p, xs, e, .inl h, h1, h2, q H1 (Ex.refl _)⟩
theorem t_inT {v : V} {xs : List V} (ha : EvE X a σ H (isv v)) (hb : EvE X b σ H (tupP X.K (xs.map isv))) (h1 : flatV v = true := by rfl) (h2 : xs.all flatV = true := by rfl) (hm : behindInMarks .In b = false := by with_unfolding_all rfl) : EvT X (.Compare a [.In] [b] pos) σ H (inV v xs) := t_op op_in_seq ha hb (k_inT h1 h2) hm
theorem t_inL {v : V} {xs : List V} (ha : EvE X a σ H (isv v)) (hb : EvE X b σ H (lstP X.K (xs.map isv))) (h1 : flatV v = true := by rfl) (h2 : xs.all flatV = true := by rfl) (hm : behindInMarks .In b = false := by with_unfolding_all rfl) : EvT X (.Compare a [.In] [b] pos) σ H (inV v xs) := t_op op_in_seq ha hb (k_inL h1 h2) hm
/-- x in d, d a dict of the module -/
theorem x_inD {z : Str} {d : Addr} {es : Array DictEntry} {n : Nat} {r : Option Value} (D : KDict X.K X.w d es n) (ha : EvE X a σ H (isS z)) (hb : EvE X b σ H (isv (.ref d))) (hr : PySem.W.nsIn X.K d z = some r) (hm : behindInMarks .In b = false := by with_unfolding_all rfl) : EvE X (.Compare a [.In] [b] pos) σ H (isB r.isSome) :=
  x_cmp (op_in_kd D) ha hb (fun x y H1 _ hx hy Q q => ⟨z, r, hx, hy, hr, q H1 (Ex.refl _)⟩) hm
theorem t_inD {z : Str} {d : Addr} {es : Array DictEntry} {n : Nat} {r : Option Value} (D : KDict X.K X.w d es n) (ha : EvE X a σ H (isS z)) (hb : EvE X b σ H (isv (.ref d))) (hr : PySem.W.nsIn X.K d z = some r) (hm : behindInMarks .In b = false := by with_unfolding_all rfl) : EvT X (.Compare a [.In] [b] pos) σ H r.isSome :=
  t_op (op_in_kd D) ha hb (fun x y H1 _ hx hy Q q => ⟨z, r, hx, hy, hr, q H1 (Ex.refl _)⟩) hm

/-! ### dict displays -/
def dctP (kvs : List (Key × V)) : Wd := ⟨fun v H => ∃ p, v = .ref p ∧ H p = some (.dK kvs), fun e ⟨p, h1, h2⟩ => ⟨p, h1, e _ _ h2⟩⟩
theorem x_disp2 {k1 k2 : Key} {v1 v2 : V} {c d : Expr} (h1 : EvE X a σ H (isv (kV k1))) (h2 : EvE X b σ H (isv v1)) (h3 : EvE X c σ H (isv (kV k2))) (h4 : EvE X d σ H (isv v2)) (hne : k1 ≠ k2) : EvE X (.Dict [some a, some c] [b, d] pos) σ H (dctP [(k1, v1), (k2, v2)]) :=
  .of (pe_disp (pps_cons rE rE (pps_cons rE rE pps_nil)) rfl rfl (by simp) (by simp)) fun H1 e1 Q q => fun p hp =>
    h1 _ (e1.trans (Ex.new hp)) _ fun x1 H2 e2 hx1 => h2 _ ((e1.trans (Ex.new hp)).trans e2) _ fun y1 H3 e3 hy1 => h3 _ (((e1.trans (Ex.new hp)).trans e2).trans e3) _ fun x2 H4 e4 hx2 => h4 _ ((((e1.trans (Ex.new hp)).trans e2).trans e3).trans e4) _ fun y2 H5 e5 hy2 => by
      cases hx1; cases hy1; cases hx2; cases hy2
      have ee := ((e2.trans e3).trans e4).trans e5
      refine ⟨ee p _ upd_same, [(k1, v1), (k2, v2)], rfl, by simp, ?_⟩
      have em : mergeK [] [(k1, v1), (k2, v2)] = [(k1, v1), (k2, v2)] := by
        simp [mergeK, putK, hne]
      rw [em]
      exact q _ _ (fun b o hb => by rw [upd_ne (ne_of_none hb hp)]; exact ee b o (by rw [upd_ne (ne_of_none hb hp)]; exact hb)) ⟨p, rfl, upd_same⟩
/-- d[k] -/
theorem x_dget {kvs : List (Key × V)} {k : Key} {v : V} (hu : X.A.units + 1 < cLine) (ha : EvE X a σ H (dctP kvs)) (hb : EvE X b σ H (isv (kV k))) (hv : valV kvs k = some v) (hs : NoSl b := by exact fun _ _ => rfl) : EvE X (.Subscript a b pos) σ H (isv v) :=
  .of (pe_dget hu rE rE hs) fun H1 e1 Q q => ha H1 e1 _ fun x H2 e2 ⟨p, ex, hp⟩ => hb H2 (e1.trans e2) _ fun y H3 e3 hy => ⟨p, v, ex, by
    cases hy
    rw [← hv]
    exact DGet.k (e3 _ _ hp), q _ H3 (e2.trans e3) rfl⟩
/-- d.get(k, x) -/
theorem x_dget2 {kvs : List (Key × V)} {k : Key} {w : V} {c : Expr} {cpos : Pos} (hu : X.A.units + 1 < cLine) (ha : EvE X a σ H (dctP kvs)) (hb : EvE X b σ H (isv (kV k))) (hc : EvE X c σ H (isv w)) (m : M2 X a "get" apos b c cpos) : EvE X (.Call (.Attribute a "get" apos) [b, c] [] cpos) σ H (isv ((valV kvs k).getD w)) :=
  .of (pe_dget2 hu rE rE rE m) fun H1 e1 Q q => ha H1 e1 _ fun x H2 e2 ⟨p, ex, hp⟩ => ⟨p, ex, .inl ⟨kvs, .inl hp⟩, hb H2 (e1.trans e2) _ fun y H3 e3 hy => hc H3 ((e1.trans e2).trans e3) _ fun z H4 e4 hz => ⟨_, by
    cases hy
    exact DGet.k (e4 _ _ (e3 _ _ hp)), by
    cases hz
    exact q _ H4 ((e2.trans e3).trans e4) rfl⟩⟩
end
end FU
end
section
set_option maxRecDepth 100000
set_option maxHeartbeats 1000000
namespace FU.ExtT
open PySem PySem.AutoSeq1
open MeetsSeq MeetsSeq2 MeetsSeq3 SeqRoads2
theorem ext_tup (l : Addr) (items : Array Value) (n : Nat) (b : Addr) (items2 : Array Value) (n2 : Nat) (dd : Option Addr) (sl : Array (Option Value)) (hs0 : ¬(!items.isEmpty && Builtin.List.listTooLong (items.size + items2.size)) = true) (hs1 : items.size ≤ sizeLine) (hs2 : items.size + items2.size ≤ sizeLine + 1 := by seq_fits) :
    Meets (Builtin.«list.extend» ⟨[.ref l, .ref b], []⟩) (fun _ R s => s.heap.get? l = some { cls := .type "list", dict := none, data := .seq items n, slots := #[] } ∧ s.heap.get? b = some { cls := .type "tuple", dict := dd, data := .seq items2 n2, slots := sl } ∧ R (.ok (.ret Value.none)) { s with heap := s.heap.update l (Obj.mapSeq fun x => x ++ items2), toks := s.toks }) :=
  .of_wp fun prog w A R s h => by
    obtain ⟨hp, g, d, tk, os⟩ := s; obtain ⟨hl, hb, h⟩ := h; have f1 := idx_int; have f2 := sub_tuple_tuple; have f3 := sub_list_list; have f4 := sub_tuple_list; have f5 := sub_list_tuple;
    have hz' : (items ++ items2).size ≤ sizeLine + 1 := by rw [Array.size_append]; exact hs2
    wp_walk using (wpAny_updateSeq hl rfl (hz := hs1) (_hz' := hz')), wpAny_loadPart' hl, wpAny_loadPart' hb; exact ⟨_, rfl, h⟩
end FU.ExtT
namespace FU
open PySem PySem.Spec PyProof.Rows L2
open Evl (Ex)
def rExtT (K : PySem.W.Frag) : V → List V → Hp → VK → Prop := fun x vs H Q => ∃ l b xs zs, x = .ref l ∧ vs = [.ref b] ∧ H l = some (.lst xs) ∧ SqT K H b zs ∧ xs.length + zs.length ≤ sizeLine ∧ Q .non (upd H l (.lst (xs ++ zs)))
theorem mt_extT {X : Cx} : MtM X "list.extend" (rExtT X.K) := by
  intro pins s σ H x vs v us Q I rx rv h
  obtain ⟨l, b, xs, zs, rfl, rfl, hH, hB, hz, q⟩ := h
  cases rx
  obtain ⟨u, rfl, ru⟩ := rv.one
  cases ru
  obtain ⟨z, its, n, r, hl, e⟩ := I.lstM hH
  obtain ⟨its2, r2, ⟨o, e2, hc, n2, hd⟩, hz2⟩ := I.tuple hB
  have hl2 := r2.length
  have hsz : its.toArray.size + its2.toArray.size ≤ sizeLine := by rw [List.size_toArray, List.size_toArray]; omega
  have hlong : ¬ (!its.toArray.isEmpty && Builtin.List.listTooLong (its.toArray.size + its2.toArray.size)) = true := by
    rw [notLongL hsz, Bool.and_false]
    exact Bool.false_ne_true
  obtain ⟨c, dd, dat, sl⟩ := o
  simp only at hc hd
  subst hc hd
  refine call_meets F.slot_list_extend ⟨_, e, rfl⟩ F.entry_list_extend (F.args_list_extend_2 _ _)
    (ExtT.ext_tup l its.toArray n b its2.toArray n2 dd sl hlong (by rw [List.size_toArray]; omega) (by omega)) ⟨e, e2, ?_⟩
  refine ⟨.non, _, I.lset (its' := its ++ its2) (t' := s.toks) hH e (by simp) (r.append r2) ?_, rfl, q⟩
  rw [List.length_append]
  omega

section
variable {X : Cx} {σ : L2.St} {H : Hp} {e a b o : Expr} {es : List Expr} {P : Wd} {Ps : List Wd} {pos px apos cpos : Pos} {x : Str} {D : Ends} {rest : List Stmt}
/-- x = [..]: a list of its own -/
theorem c_asgNew {k : Nat} (h : EvA X es σ H Ps) (q : ∀ p xs H1, H p = none → Ex H H1 → H1 p = some (.lst xs) → Alls Ps xs H1 → wSs X rest D (σ.set k (some (.ref p))) H1) (nd : X.N.Nodup) (hl : Ps.length ≤ 100000 := by simp) (hN : X.N[k]? = some x := by rfl) (hx : Loc X.env.scope x := by first | exact Or.inl rfl | exact Or.inr rfl)
    (hs : swapsWith (.List es pos) (some (.Name x px)) cpos.line X.env = pure false := by rfl) (hf : X.fn x = true ∨ X.env.scope.names.lookup x = some .local := by first | exact Or.inl rfl | exact Or.inr rfl) : wSs X (.Assign [.Name x px] (.List es pos) cpos :: rest) D σ H :=
  c_cons (ofS (ps_set nd hN hx (pe_lst rA) hs hf) (h H (Ex.refl _) _ fun vs H1 e1 hvs => ⟨Evl.sz_of (by rw [hvs.len]; exact hl), fun p hp => q p vs _ (Evl.fresh_back e1 hp) (e1.trans (Ex.new hp)) upd_same (hvs.ex (Ex.new hp))⟩))
/-- l.append(e), l a list of its own -/
theorem c_append {l : Addr} {xs : List V} (hl : H l = some (.lst xs)) (ho : EvE X o σ H (isv (.ref l))) (he : EvE X e σ H P) (hz : xs.length < 100000) (q : ∀ v H1, Ex H H1 → P v H1 → wSs X rest D σ (upd H1 l (.lst (xs ++ [v]))))
    (hbase : attributeBase o "append" X.env (eval o X.env) = eval o X.env := by rfl) (hfew : ((backTo cpos (starEach [e] X.env)).all (fun x => !x.1) && (backToKw cpos (keywordEach [] X.env)).all (fun x => x.1.isSome)
    && decide (([e] : List Expr).length + ([] : List Keyword).length + (if ([] : List Keyword).isEmpty then 0 else 1) < 30)) = true := by rfl) (hline : (apos.endLine == cpos.line) = true := by rfl) (hs1 : starEach [e] X.env = (false, eval e X.env) :: starEach [] X.env := by rfl) (hpl : (backTo cpos (starEach [] X.env)).any (·.1) = false := by rfl)
    (hs : swapsWith (.Call (.Attribute o "append" apos) [e] [] cpos) none pos.line X.env = pure false := by rfl) : wSs X (.Expr (.Call (.Attribute o "append" apos) [e] [] cpos) pos :: rest) D σ H :=
  c_cons (ofS (ps_expr (pe_bm PySem.F.plainAttrs_list PySem.F.slot_list_append PySem.F.type_list_append mt_append rE (pa_cons rE pa_nil hs1) hbase hfew hline hs1 hpl) hs) (ho H (Ex.refl _) _ fun v H1 e1 hv => by
    cases hv
    exact ⟨.inl ⟨rfl, xs, Evl.sq_of (e1 l _ hl)⟩, he H1 e1 _ fun y H2 e2 hy => ⟨l, xs, y, rfl, rfl, e2 l _ (e1 l _ hl), Evl.sz_lt hz, q y H2 (e1.trans e2) hy⟩⟩))
/-- l.extend(t), l a list of its own, t a tuple -/
theorem c_extT {l : Addr} {xs : List V} (hl : H l = some (.lst xs)) (ho : EvE X o σ H (isv (.ref l))) (he : EvE X e σ H (tupP X.K Ps)) (hz : xs.length + Ps.length ≤ 100000) (q : ∀ ys H1, Ex H H1 → Alls Ps ys H1 → wSs X rest D σ (upd H1 l (.lst (xs ++ ys))))
    (hbase : attributeBase o "extend" X.env (eval o X.env) = eval o X.env := by rfl) (hfew : ((backTo cpos (starEach [e] X.env)).all (fun x => !x.1) && (backToKw cpos (keywordEach [] X.env)).all (fun x => x.1.isSome)
    && decide (([e] : List Expr).length + ([] : List Keyword).length + (if ([] : List Keyword).isEmpty then 0 else 1) < 30)) = true := by rfl) (hline : (apos.endLine == cpos.line) = true := by rfl) (hs1 : starEach [e] X.env = (false, eval e X.env) :: starEach [] X.env := by rfl) (hpl : (backTo cpos (starEach [] X.env)).any (·.1) = false := by rfl)
    (hs : swapsWith (.Call (.Attribute o "extend" apos) [e] [] cpos) none pos.line X.env = pure false := by rfl) : wSs X (.Expr (.Call (.Attribute o "extend" apos) [e] [] cpos) pos :: rest) D σ H :=
  c_cons (ofS (ps_expr (pe_bm PySem.F.plainAttrs_list PySem.F.slot_list_extend PySem.F.type_list_extend mt_extT rE (pa_cons rE pa_nil hs1) hbase hfew hline hs1 hpl) hs) (ho H (Ex.refl _) _ fun v H1 e1 hv => by
    cases hv
    exact ⟨.inl ⟨rfl, xs, Evl.sq_of (e1 l _ hl)⟩, he H1 e1 _ fun y H2 e2 ⟨p, ys, ey, hy, hal⟩ => ⟨l, p, xs, ys, rfl, by rw [ey], e2 l _ (e1 l _ hl), hy, Evl.sz_of (by rw [hal.len]; exact hz), q ys H2 (e1.trans e2) hal⟩⟩))
/-- f(..) by a positional promise -/
theorem pe_callRg {CX : CXT} {k : Nat} {f : Addr} {sp : Sp} {E : XK} {t : TA} (F : FnR X.prog X.w X.K X.mg X.base CX k f sp) (hr : Room k X.A) (hg : Gl X x) (hm : X.mg x = some (.ref f)) (hk : PySem.W.keepIn X.K (.ref f) = true) (hx : Passes CX X E)
    (ha : PA X (e :: es) t) (hdb : (x == ("__debug__" : Str)) = false := by decide) (he : starEach (e :: es) X.env = (false, eval e X.env) :: starEach es X.env := by rfl) (hpl : (backTo pos (starEach es X.env)).any (·.1) = false := by rfl) :
    PE X (.Call (.Name x px) (e :: es) [] pos) (fun σ H Q => t σ H fun vs H1 => sp vs H1 Q E) := by
  refine ⟨fun pins s σ H Q I h => ?_⟩
  refine wpAny_Call_Name_kw (ld_glob I hg hm ?_ hdb)
  refine PySem.W.callWith_K (h₀ := X.base) I.ok.mod.kin hk (thn (ha.run pos pins s σ H _ I h) fun us s1 ⟨vs, H1, I1, r, q⟩ => ⟨I1.kIn, ?_⟩) he hpl
  exact wpAny_call (run_fnR F hr hx I1 r q)
/-- such a def, by its name -/
structure CalR (P : Program) (w : World) (K : PySem.W.Frag) (mg : Str → Option Value) (base : Heap) (k : Nat) (x : Str) (C : Ct) : Prop where
  ex : ∃ f : Addr, FnR P w K mg base C8.CX0 k f (spC C) ∧ mg x = some (.ref f) ∧ PySem.W.keepIn K (.ref f) = true
theorem x_calR {k j : Nat} {C : Ct} (c : CalR X.prog X.w X.K X.mg X.base k x C) (hr : Room j X.A) (ha : EvA X (e :: es) σ H Ps) (h : ∀ vs H1, Ex H H1 → Alls Ps vs H1 → C vs H1 P) (hk : k ≤ j := by omega) (hg : Gl X x := by rfl)
    (hdb : (x == ("__debug__" : Str)) = false := by decide) (he : starEach (e :: es) X.env = (false, eval e X.env) :: starEach es X.env := by rfl) (hpl : (backTo pos (starEach es X.env)).any (·.1) = false := by rfl) : EvE X (.Call (.Name x px) (e :: es) [] pos) σ H P := by
  obtain ⟨f, F, hm, kp⟩ := c.ex
  exact .of (pe_callRg (E := C8.E0) F (hr.mono hk) hg hm kp C8.pass0 rA hdb he hpl) fun H1 e1 Q q => ha H1 e1 _ fun vs H2 e2 hvs => ⟨P, h vs H2 (e1.trans e2) hvs, fun v H3 e3 hv => q v H3 (e2.trans e3) hv⟩
/-- own == -/
theorem x_eqW {k j : Nat} {Cc : Ct} {C : Addr} {Pa Pb : Wd} {r : Bool} (c : C8.Met X.prog X.w X.K X.mg X.base k C "__eq__" (spC Cc) []) (hr : Room j X.A) (ha : EvE X a σ H Pa) (hb : EvE X b σ H Pb)
    (h : ∀ x y H1, Ex H H1 → Pa x H1 → Pb y H1 → (∃ fs, InsAt C fs x H1) ∧ (∃ gs, InsAt C gs y H1) ∧ Cc [x, y] H1 (isB r)) (hk : k ≤ j := by omega) : EvE X (.Compare a [.Eq] [b] pos) σ H (isB r) :=
  x_cmp (op_eqOwn c (hr.mono hk)) ha hb (fun x y H1 e1 hx hy Q q => by
    obtain ⟨⟨fs, h1⟩, ⟨gs, h2⟩, h3⟩ := h x y H1 e1 hx hy
    exact ⟨fs, gs, h1, h2, isB r, h3, fun v H' e' hv => by cases hv; exact q H' e'⟩) (nomark _)
theorem t_eqW {k j : Nat} {Cc : Ct} {C : Addr} {Pa Pb : Wd} {r : Bool} (c : C8.Met X.prog X.w X.K X.mg X.base k C "__eq__" (spC Cc) []) (hr : Room j X.A) (ha : EvE X a σ H Pa) (hb : EvE X b σ H Pb)
    (h : ∀ x y H1, Ex H H1 → Pa x H1 → Pb y H1 → (∃ fs, InsAt C fs x H1) ∧ (∃ gs, InsAt C gs y H1) ∧ Cc [x, y] H1 (isB r)) (hk : k ≤ j := by omega) : EvT X (.Compare a [.Eq] [b] pos) σ H r :=
  t_op (op_eqOwn c (hr.mono hk)) ha hb (fun x y H1 e1 hx hy Q q => by
    obtain ⟨⟨fs, h1⟩, ⟨gs, h2⟩, h3⟩ := h x y H1 e1 hx hy
    exact ⟨fs, gs, h1, h2, isB r, h3, fun v H' e' hv => by cases hv; exact q H' e'⟩) (nomark _)
/-- own + and & -/
theorem x_binW {op : Operator} {k j : Nat} {Cc : Ct} {C : Addr} {Pa Pb : Wd} (c : C8.Met X.prog X.w X.K X.mg X.base k C (PySem.dunder op.info.2) (spC Cc) []) (hsf : PySem.W.selfFirst X.K C = true) (hr : Room j X.A) (ha : EvE X a σ H Pa) (hb : EvE X b σ H Pb)
    (h : ∀ x y H1, Ex H H1 → Pa x H1 → Pb y H1 → (∃ fs, InsAt C fs x H1) ∧ (∃ gs, InsAt C gs y H1) ∧ Cc [x, y] H1 P) (hk : k ≤ j := by omega) : EvE X (.BinOp a op b pos) σ H P :=
  x_op (op_own c hsf (hr.mono hk)) ha hb fun x y H1 e1 hx hy Q q => by
    obtain ⟨⟨fs, h1⟩, ⟨gs, h2⟩, h3⟩ := h x y H1 e1 hx hy
    exact ⟨fs, gs, h1, h2, P, h3, q⟩
end
end FU
end
section
set_option maxRecDepth 100000
set_option maxHeartbeats 1000000
namespace FU
open PySem PySem.Spec PyProof.Rows L2
open Evl (Ex)
section
variable {X : Cx} {σ : L2.St} {H : Hp} {α β : Type} {D : Ends} {rest body : List Stmt} {pos px py spos : Pos} {x y : Str} {iter : Expr} {P : Wd}
/-- an iterator, by what it does -/
def wI (X : Cx) (tg iter : Expr) : TI := fun σ H R => ∀ pins s, L2.Inv X pins σ H s → wpAny (model X.prog X.w) X.A (eval iter X.env) (fun v s1 => wpAny (model X.prog X.w) X.A (pyIter v) (PIE X pins σ tg R) X.xe s1) X.xe s
theorem rI' {tg iter : Expr} : PI X tg iter (wI X tg iter) := ⟨fun pins s _ _ _ I h => h pins s I⟩
theorem Src.w {tg : Expr} {zs : List α} {q : α → Wd} (h : Src X tg iter σ H zs q) : ∀ H1, Ex H H1 → ∀ R : It → Hp → Prop, (∀ J H2, Ex H1 H2 → JOk J H2 zs q → R J H2) → wI X tg iter σ H1 R := fun H1 e1 R k pins s I => by
  obtain ⟨wi, hp, hw⟩ := h.ex
  exact hp.run pins s σ H1 R I (hw H1 e1 R k)
/-- the reading of a comprehension with one clause -/
theorem lc_read {k : Nat} {scope : Scope} {elt : Expr} {zs : List α} {q p : α → Wd} {Q : VK} {H0 H1 : Hp} {wi : TI} (e0 : Ex H0 H1) (hw : ∀ H1, Ex H0 H1 → ∀ R : It → Hp → Prop, (∀ J H2, Ex H1 H2 → JOk J H2 zs q → R J H2) → wi σ H1 R) (hz : zs.length ≤ 40000) (hn : ∀ z ∈ zs, NL (p z))
    (he : ∀ z ∈ zs, ∀ y H2, Ex H0 H2 → q z y H2 → ∀ (s : Shared) (H0 : Hp) (C : Addr) (cl : List (Str × Addr)) (fp : List Addr), EvE (X.blk s H0 scope (compEnvC scope cl C X.env) fp) elt ((σ.set k none).set k (some y)) H2 (p z))
    (hq : ∀ v H2, Ex H1 H2 → lstP X.K (zs.map p) v H2 → Q v H2) : tLc wi (gName k) tYes (wB X scope elt) [k] σ H1 Q := by
  refine hw H1 e0 _ fun J H2 e2 hJ => fun Dl hD => ?_
  have hwipe : ∀ y : V, wipe ((wipe σ [k]).set k (some y)) [k] = wipe σ [k] := fun y => by
    show ((σ.set k none).set k (some y)).set k none = σ.set k none
    simp
  refine ⟨fun i m H' => m = zs.length - i ∧ i ≤ zs.length ∧ Ex H2 H' ∧ ∃ acc, H' Dl = some (.lst acc) ∧ Alls ((zs.take i).map p) acc H', ⟨zs.length, by simp, Nat.zero_le _, Ex.new hD, [], upd_same, by simp [Alls]⟩, ?_⟩
  rintro i m H' ⟨rfl, hi, eH, acc, hacc, hal⟩
  obtain ⟨hgo, hstop⟩ := hJ H' eH
  by_cases hlt : i < zs.length
  · have hzi := List.getElem?_eq_getElem hlt
    obtain ⟨g1, g2⟩ := hgo i _ hzi
    have hmem : zs[i] ∈ zs := List.getElem_mem hlt
    refine .inr ⟨g1, fun H'' => Ex H2 H'' ∧ ∃ acc, H'' Dl = some (.lst acc) ∧ Alls ((zs.take (i + 1)).map p) acc H'', fun H'' p' => ⟨zs.length - (i + 1), by omega, rfl, hlt, p'⟩, fun y H3 hy => ?_⟩
    obtain ⟨e3, hq3⟩ := g2 y H3 hy
    refine ⟨hwipe y, ?_⟩
    show wB X scope elt ((σ.set k none).set k (some y)) H3 _
    intro s H0 C cl fp
    refine he _ hmem y H3 (((e0.trans e2).trans eH).trans e3) hq3 s H0 C cl fp H3 (Ex.refl _) _ fun v H4 e4 hv => ?_
    have hD4 : H4 Dl = some (.lst acc) := e4 _ _ (e3 _ _ hacc)
    have hlen := hal.len
    rw [List.length_map, List.length_take] at hlen
    refine ⟨acc, hD4, Evl.sz_lt (by omega), Ex.mut ((eH.trans e3).trans e4) hD, acc ++ [v], upd_same, ?_⟩
    rw [List.take_succ, hzi, List.map_append]
    refine Alls.app (Alls.exs (fun P hP => ?_) ((Exs.of (e3.trans e4)).trans (Exs.put hD4)) hal) ⟨hn _ hmem (Exs.put hD4) hv, trivial⟩
    obtain ⟨z, hz1, hz2⟩ := List.mem_map.mp hP
    subst hz2
    exact hn z (List.mem_of_mem_take hz1)
  · have e : i = zs.length := by omega
    subst e
    rw [List.take_length] at hal
    exact .inl ⟨hstop, hq _ H' (e2.trans eH) ⟨Dl, acc, rfl, Evl.sq_of hacc, hal⟩⟩
/-- y = [.. for x in ..] on one line -/
theorem c_asgLc {i k : Nat} {elt : Expr} {scope : Scope} {zs : List α} {q p : α → Wd} (h : Src X (.Name x px) iter σ H zs q) (hz : zs.length ≤ 40000) (hn : ∀ z ∈ zs, NL (p z))
    (he : ∀ z ∈ zs, ∀ y H2, Ex H H2 → q z y H2 → ∀ (s : Shared) (H0 : Hp) (C : Addr) (cl : List (Str × Addr)) (fp : List Addr), EvE (X.blk s H0 scope (compEnvC scope cl C X.env) fp) elt ((σ.set k none).set k (some y)) H2 (p z))
    (qn : ∀ v H1, Ex H H1 → lstP X.K (zs.map p) v H1 → wSs X rest D (σ.set i (some v)) H1)
    (nd : X.N.Nodup) (ok : BlkOk X.N X.env.scope scope [(x, k)]) (hgx : ∀ (s : Shared) (H : Hp) (C : Addr) (cl : List (Str × Addr)) (fp : List Addr), L2.PG (X.blk s H scope (compEnvC scope cl C X.env) fp) (.Name x px) (gName k)) (hc : X.calm = true := by rfl) (hy : X.N[i]? = some y := by rfl) (hyl : X.env.scope.names.lookup y = some .local := by rfl)
    (hsw : swapsWith (.ListComp elt [⟨.Name x px, iter, [], 0⟩] scope pos) (some (.Name y py)) spos.line X.env = pure true := by exact sw_true rfl rfl rfl (by decide +kernel)) (hsi : ∀ y, foldedSetIterable iter X.env y = pure y := by intro _; rfl) :
    wSs X (.Assign [.Name y py] (.ListComp elt [⟨.Name x px, iter, [], 0⟩] scope pos) spos :: rest) D σ H := by
  obtain ⟨wi, hpi, hw⟩ := h.ex
  exact c_cons (ofS (ps_setLc (own := [(x, k)]) (g := gName k) (tt := tYes) hc nd hy hyl hsw hpi ok hgx (fun _ _ _ _ _ => pts_nil) (fun s H C cl fp => rB s H C cl fp) hsi) (lc_read (Ex.refl _) hw hz hn he fun v H2 e2 hv => qn v H2 e2 hv))
/-- a source in any block -/
def wBI (X : Cx) (scope : Scope) (tg iter : Expr) : TI := fun σ H R => ∀ (s : Shared) (H0 : Hp) (C : Addr) (cl : List (Str × Addr)) (fp : List Addr), wI (X.blk s H0 scope (compEnvC scope cl C X.env) fp) tg iter σ H R
def wBT (X : Cx) (scope : Scope) (c : Expr) : TT := fun σ H Q => ∀ (s : Shared) (H0 : Hp) (C : Addr) (cl : List (Str × Addr)) (fp : List Addr), wT (X.blk s H0 scope (compEnvC scope cl C X.env) fp) c σ H Q
/-- a source that is known from the start -/
structure SrcB (X : Cx) (tg iter : Expr) (σ : L2.St) (H : Hp) (zs : List α) (q : α → Wd) : Prop where
  ex : ∃ wi : TI, PI X tg iter wi ∧ ∀ H1, Ex H H1 → ∀ R : It → Hp → Prop, (∀ J H2, Ex H1 H2 → JOk J H zs q → R J H2) → wi σ H1 R
theorem srcB_var {tg : Expr} {k : Nat} {zs : List α} {q : α → Wd} {v : V} (hs : σ[k]? = some (some v)) (hv : lstP X.K (zs.map q) v H) (hN : X.N[k]? = some x := by rfl) (hvis : Vis X.env.scope x := by first | exact Or.inl rfl | exact Or.inr (Or.inl rfl) | exact Or.inr (Or.inr rfl)) (hd : (x == ("__debug__" : Str)) = false := by decide)
    (hcd : (x == ("__classdict__" : Str)) = false := by decide) : SrcB X tg (.Name x px) σ H zs q := by
  obtain ⟨a, xs, rfl, hx, ha⟩ := hv
  refine ⟨_, pi_list (pe_var hN hvis hd hcd), fun H1 e1 R k => ⟨.ref a, hs, a, rfl, ⟨xs, Evl.ex_l e1 hx⟩, k _ H1 (Ex.refl _) fun H3 e3 => ?_⟩⟩
  have hs3 := Evl.ex_l e3 hx
  have hl : xs.length = zs.length := by rw [ha.len, List.length_map]
  refine ⟨fun i z hz => ?_, ⟨xs, hs3, by rw [hl]; exact Nat.le_refl _⟩⟩
  have hi : i < xs.length := by rw [hl]; exact (List.getElem?_eq_some_iff.mp hz).1
  refine ⟨⟨xs, xs[i], hs3, List.getElem?_eq_getElem hi⟩, fun x H4 ⟨e4, y⟩ => ?_⟩
  subst e4
  exact ⟨Ex.refl _, alls_map (ha.ex e3) hz (y xs hs3)⟩
theorem SrcB.w {tg : Expr} {zs : List α} {q : α → Wd} (h : SrcB X tg iter σ H zs q) : ∀ H1, Ex H H1 → ∀ R : It → Hp → Prop, (∀ J H2, Ex H1 H2 → JOk J H zs q → R J H2) → wI X tg iter σ H1 R := fun H1 e1 R k pins s I => by
  obtain ⟨wi, hp, hw⟩ := h.ex
  exact hp.run pins s σ H1 R I (hw H1 e1 R k)
theorem mem_own2 {x y : Str} {k1 k2 : Nat} : ∀ i ∈ [k2], i ∈ [(x, k1), (y, k2)].map (·.2) := fun i hi => by
  have : i = k2 := by simpa using hi
  subst this; simp
/-- [.. for x in .. for y in .. if ..] -/
theorem x_lc2 {k1 k2 : Nat} {elt iter1 c : Expr} {scope : Scope} {zs : List α} {ys : List β} {q : α → Wd} {q2 : β → Wd} {f : α → β → Bool} {p : α → β → Wd} (h : Src X (.Name x px) iter σ H zs q) (hk : k1 ≠ k2) (hz : zs.length * ys.length ≤ 40000) (hn : ∀ z ∈ zs, ∀ w ∈ ys, NL (p z w)) (hnq : ∀ z ∈ zs, NL (q z))
    (h1 : ∀ z ∈ zs, ∀ v, ∀ (s : Shared) (H0 : Hp) (C : Addr) (cl : List (Str × Addr)) (fp : List Addr), SrcB (X.blk s H0 scope (compEnvC scope cl C X.env) fp) (.Name y py) iter1 (((σ.set k2 none).set k1 none).set k1 (some v)) H ys q2)
    (he : ∀ z ∈ zs, ∀ w ∈ ys, ∀ v u H2, Ex H H2 → q z v H2 → q2 w u H2 → ∀ (s : Shared) (H0 : Hp) (C : Addr) (cl : List (Str × Addr)) (fp : List Addr), EvT (X.blk s H0 scope (compEnvC scope cl C X.env) fp) c (((((σ.set k2 none).set k1 none).set k1 (some v)).set k2 none).set k2 (some u)) H2 (f z w) ∧
      (f z w = true → EvE (X.blk s H0 scope (compEnvC scope cl C X.env) fp) elt (((((σ.set k2 none).set k1 none).set k1 (some v)).set k2 none).set k2 (some u)) H2 (p z w)))
    (nd : X.N.Nodup) (ok : BlkOk X.N X.env.scope scope [(x, k1), (y, k2)]) (hgx : ∀ (s : Shared) (H : Hp) (C : Addr) (cl : List (Str × Addr)) (fp : List Addr), L2.PG (X.blk s H scope (compEnvC scope cl C X.env) fp) (.Name x px) (gName k1))
    (hgy : ∀ (s : Shared) (H : Hp) (C : Addr) (cl : List (Str × Addr)) (fp : List Addr), L2.PG (X.blk s H scope (compEnvC scope cl C X.env) fp) (.Name y py) (gName k2)) (hc : X.calm = true := by rfl) (hsi : ∀ y, foldedSetIterable iter X.env y = pure y := by intro _; rfl) (hsi1 : ∀ env y, foldedSetIterable iter1 env y = pure y := by intro _ _; rfl) :
    EvE X (.ListComp elt [⟨.Name x px, iter, [], 0⟩, ⟨.Name y py, iter1, [c], 0⟩] scope pos) σ H (lstP X.K (zs.flatMap fun z => (ys.filter (f z)).map (p z))) := by
  obtain ⟨wi, hpi, hw⟩ := h.ex
  refine .of (pe_lc2 (own := [(x, k1), (y, k2)]) (vs1 := [k2]) (g := gName k1) (tt := tYes) (wi1 := wBI X scope (.Name y py) iter1) (g1 := gName k2) (tt1 := wBT X scope c) (te := wB X scope elt) hc nd hpi ok mem_own2 hgx (fun _ _ _ _ _ => pts_nil)
    (fun s H C cl fp => ⟨fun pins s' _ _ _ I h => h s H C cl fp pins s' I⟩) hgy (fun s H C cl fp => pts_one ⟨fun pins s' _ _ _ I h => h s H C cl fp pins s' I⟩) (fun s H C cl fp => rB s H C cl fp) hsi hsi1) fun H1 e1 Q hq => ?_
  refine hw H1 e1 _ fun J H2 e2 hJ => fun Dl hD => ?_
  have nlz : ∀ (l : List α), (∀ z ∈ l, z ∈ zs) → ∀ P ∈ l.flatMap (fun z => (ys.filter (f z)).map (p z)), NL P := fun l hl P hP => by
    obtain ⟨z, hz1, hP⟩ := List.mem_flatMap.mp hP
    obtain ⟨w, hw1, rfl⟩ := List.mem_map.mp hP
    exact hn z (hl z hz1) w ((List.mem_filter.mp hw1).1)
  have nly : ∀ z ∈ zs, ∀ (l : List β), (∀ w ∈ l, w ∈ ys) → ∀ P ∈ (l.filter (f z)).map (p z), NL P := fun z hz l hl P hP => by
    obtain ⟨w, hw1, rfl⟩ := List.mem_map.mp hP
    exact hn z hz w (hl w ((List.mem_filter.mp hw1).1))
  have lenz : ∀ l : List α, (l.flatMap fun z => (ys.filter (f z)).map (p z)).length ≤ l.length * ys.length := fun l => by
    induction l with
    | nil => simp
    | cons a r ih =>
      rw [List.flatMap_cons, List.length_append, List.length_map, List.length_cons, Nat.succ_mul]
      have := List.length_filter_le (f a) ys
      omega
  refine ⟨fun i m H' => m = zs.length - i ∧ i ≤ zs.length ∧ Ex H2 H' ∧ ∃ acc, H' Dl = some (.lst acc) ∧ Alls ((zs.take i).flatMap fun z => (ys.filter (f z)).map (p z)) acc H', ⟨zs.length, by simp, Nat.zero_le _, Ex.new hD, [], upd_same, by simp [Alls]⟩, ?_⟩
  rintro i m H' ⟨rfl, hi, eH, acc, hacc, hal⟩
  obtain ⟨hgo, hstop⟩ := hJ H' eH
  by_cases hlt : i < zs.length
  · have hzi := List.getElem?_eq_getElem hlt
    obtain ⟨g1, g2⟩ := hgo i _ hzi
    have hmem : zs[i] ∈ zs := List.getElem_mem hlt
    refine .inr ⟨g1, fun H'' => Ex H2 H'' ∧ ∃ acc, H'' Dl = some (.lst acc) ∧ Alls ((zs.take (i + 1)).flatMap fun z => (ys.filter (f z)).map (p z)) acc H'', fun H'' p' => ⟨zs.length - (i + 1), by omega, rfl, hlt, p'⟩, fun v H3 hy => ?_⟩
    obtain ⟨e3, hq3⟩ := g2 v H3 hy
    have ee : Ex H H3 := (((e1.trans e2).trans eH).trans e3)
    refine ⟨?_, ?_⟩
    · show ((((σ.set k2 none).set k1 none).set k1 (some v)).set k2 none).set k1 none = (σ.set k2 none).set k1 none
      have e1 : ((σ.set k2 none).set k1 none).set k1 (some v) = (σ.set k2 none).set k1 (some v) := by simp
      rw [e1, List.set_comm _ _ hk]
      simp
    show wBI X scope (.Name y py) iter1 (((σ.set k2 none).set k1 none).set k1 (some v)) H3 _
    intro s H0 C cl fp
    refine (h1 _ hmem v s H0 C cl fp).w H3 ee _ fun J1 H4 e4 hJ1 => ?_
    have hA : Alls ((zs.take i).flatMap fun z => (ys.filter (f z)).map (p z)) acc H4 := hal.ex (e3.trans e4)
    -- the turns within
    refine ⟨fun j m H' => m = ys.length - j ∧ j ≤ ys.length ∧ Ex H2 H' ∧ q zs[i] v H' ∧ ∃ acc, H' Dl = some (.lst acc) ∧ Alls (((zs.take i).flatMap fun z => (ys.filter (f z)).map (p z)) ++ ((ys.take j).filter (f zs[i])).map (p zs[i])) acc H', ⟨ys.length, by simp, Nat.zero_le _, (eH.trans e3).trans e4, (q _).st e4 hq3, acc, e4 _ _ (e3 _ _ hacc), by simpa using hA⟩, ?_⟩
    rintro j m H5 ⟨rfl, hj, eH5, hq5, acc5, hacc5, hal5⟩
    obtain ⟨hgo1, hstop1⟩ := hJ1 H5 ((e1.trans e2).trans eH5)
    by_cases hlt1 : j < ys.length
    · have hyj := List.getElem?_eq_getElem hlt1
      obtain ⟨g3, g4⟩ := hgo1 j _ hyj
      have hmem1 : ys[j] ∈ ys := List.getElem_mem hlt1
      refine .inr ⟨g3, fun H'' => Ex H2 H'' ∧ q zs[i] v H'' ∧ ∃ acc, H'' Dl = some (.lst acc) ∧ Alls (((zs.take i).flatMap fun z => (ys.filter (f z)).map (p z)) ++ ((ys.take (j + 1)).filter (f zs[i])).map (p zs[i])) acc H'', fun H'' p' => ⟨ys.length - (j + 1), by omega, rfl, hlt1, p'⟩, fun u H6 hu => ?_⟩
      obtain ⟨e6, hq6⟩ := g4 u H6 hu
      have ee6 : Ex H H6 := ((e1.trans e2).trans eH5).trans e6
      refine ⟨?_, ?_⟩
      · show ((((((σ.set k2 none).set k1 none).set k1 (some v)).set k2 none).set k2 (some u)).set k2 none) = ((((σ.set k2 none).set k1 none).set k1 (some v)).set k2 none)
        simp
      show wBT X scope c (((((σ.set k2 none).set k1 none).set k1 (some v)).set k2 none).set k2 (some u)) H6 _
      intro s H0 C cl fp
      obtain ⟨ht, hel⟩ := he _ hmem _ hmem1 v u H6 ee6 ((q _).st e6 hq5) hq6 s H0 C cl fp
      refine ht H6 (Ex.refl _) _ fun H7 e7 => ?_
      have tk : ((ys.take (j + 1)).filter (f zs[i])).map (p zs[i]) = ((ys.take j).filter (f zs[i])).map (p zs[i]) ++ (if f zs[i] ys[j] = true then [p zs[i] ys[j]] else []) := by
        rw [List.take_succ, hyj]
        show ((ys.take j ++ [ys[j]]).filter (f zs[i])).map (p zs[i]) = _
        rw [List.filter_append, List.map_append, List.filter_cons]
        by_cases hf : f zs[i] ys[j] = true
        · rw [if_pos hf, if_pos hf]; rfl
        · rw [if_neg hf, if_neg hf]; rfl
      by_cases hf : f zs[i] ys[j] = true
      · rw [if_pos hf]
        show wB X scope elt _ H7 _
        intro s H0 C cl fp
        obtain ⟨_, hel⟩ := he _ hmem _ hmem1 v u H6 ee6 ((q _).st e6 hq5) hq6 s H0 C cl fp
        refine hel hf H7 e7 _ fun v8 H8 e8 hv8 => ?_
        have hD8 : H8 Dl = some (.lst acc5) := e8 _ _ (e7 _ _ (e6 _ _ hacc5))
        have hlen := hal5.len
        have hlz := lenz (zs.take i)
        have hly := List.length_filter_le (f zs[i]) (ys.take j)
        rw [List.length_append, List.length_map] at hlen
        rw [List.length_take] at hly hlz
        have hbound : min i zs.length * ys.length + ys.length ≤ zs.length * ys.length := by
          have : (min i zs.length + 1) * ys.length ≤ zs.length * ys.length := Nat.mul_le_mul_right _ (by omega)
          rw [Nat.succ_mul] at this; exact this
        refine ⟨acc5, hD8, Evl.sz_lt (by omega), Ex.mut (((eH5.trans e6).trans e7).trans e8) hD, hnq _ hmem (Exs.put hD8) ((q _).st ((e6.trans e7).trans e8) hq5), acc5 ++ [v8], upd_same, ?_⟩
        rw [tk, if_pos hf, ← List.append_assoc]
        refine Alls.app (Alls.exs (fun P hP => ?_) ((Exs.of ((e6.trans e7).trans e8)).trans (Exs.put hD8)) hal5) ⟨hn _ hmem _ hmem1 (Exs.put hD8) hv8, trivial⟩
        rcases List.mem_append.mp hP with hP | hP
        · exact nlz _ (fun z hz => List.mem_of_mem_take hz) P hP
        · exact nly _ hmem _ (fun w hw => List.mem_of_mem_take hw) P hP
      · rw [if_neg hf]
        refine ⟨(eH5.trans e6).trans e7, (q _).st (e6.trans e7) hq5, acc5, e7 _ _ (e6 _ _ hacc5), ?_⟩
        rw [tk, if_neg hf, List.append_nil]
        exact hal5.ex (e6.trans e7)
    · have e : j = ys.length := by omega
      subst e
      refine .inl ⟨hstop1, eH5, acc5, hacc5, ?_⟩
      rw [List.take_length] at hal5
      rw [List.take_succ, hzi, List.flatMap_append]
      simpa using hal5
  · have e : i = zs.length := by omega
    subst e
    rw [List.take_length] at hal
    exact .inl ⟨hstop, hq _ H' (e2.trans eH) ⟨Dl, acc, rfl, Evl.sq_of hacc, hal⟩⟩
end
end FU
end
section
set_option maxRecDepth 100000
set_option maxHeartbeats 1000000
namespace WK
open PySem PySem.Spec PyProof.Rows L2 FU
open Evl (Ex)
/-! The text by places, and what is known of it behind its top. -/
def top (i : Nat) : Stmt := PySem.Challenge.pw_maprows_k33_whole_plain_words.main.body.getD i (.Pass ⟨0, 0, 0, 0⟩)
def wmet (i : Nat) : Stmt := (C8.clsBody (top 21)).getD i (.Pass ⟨0, 0, 0, 0⟩)
set_option genInjectivity false in
set_option genSizeOf false in
structure Fx (K : PySem.W.Frag) (w : World) (mg : Str → Option Value) where
  C : Addr
  dO : Addr
  dT : Addr
  eO : Array DictEntry
  eT : Array DictEntry
  nO : Nat
  nT : Nat
  kO : KDict K w dO eO nO
  kT : KDict K w dT eT nT
  mO : mg "OTHER" = some (.ref dO)
  mT : mg "TURNED" = some (.ref dT)
  iO0 : ∃ u, PySem.W.nsIn K dO ">" = some (some u)
  iO1 : ∃ u, PySem.W.nsIn K dO "<" = some (some u)
  iT0 : ∃ u, PySem.W.nsIn K dT "right" = some (some u)
  iT1 : ∃ u, PySem.W.nsIn K dT "left" = some (some u)
  oT0 : PySem.W.nsIn K dT "+" = some none
  oT1 : PySem.W.nsIn K dT "&" = some none
  most : ∃ t, mg "MOST_ARROWS" = some (.int 6 t)
  z_len : mg "len" = none
  z_range : mg "range" = none
  z_isinstance : mg "isinstance" = none
  z_all : mg "all" = none
  z_list : mg "list" = none
  z_tuple : mg "tuple" = none
  z_max : mg "max" = none
  z_min : mg "min" = none
  z_int : mg "int" = none
  z_str : mg "str" = none
  z_sum : mg "sum" = none
  z_enumerate : mg "enumerate" = none
  z_set : mg "set" = none
  z_dict : mg "dict" = none
  z_bool : mg "bool" = none
  mC : mg "Word" = some (.ref C)
  cl : Cls K C
  inC : C8.InsC K C
  sf : PySem.W.selfFirst K C = true
  na_own_sign : NoAttr K C "own_sign"
  na_own_place : NoAttr K C "own_place"
  na_own_parts : NoAttr K C "own_parts"
  mc : Value
  rd : ClX.CRead K C mc
  f_init : Addr
  fd_init : FuncData
  mkC : Mk K C f_init
  d_init : C8.Fun K "__init__" "Word.__init__" (wmet 0) f_init fd_init
  b_init : Binds K fd_init ["self", "sign", "place", "parts"] []
  f_madd : Addr
  fd_madd : FuncData
  me_madd : Meth K C "__add__" f_madd
  d_madd : C8.Fun K "__add__" "Word.__add__" (wmet 10) f_madd fd_madd
  b_madd : Binds K fd_madd ["self", "other"] []
  f_mand : Addr
  fd_mand : FuncData
  me_mand : Meth K C "__and__" f_mand
  d_mand : C8.Fun K "__and__" "Word.__and__" (wmet 11) f_mand fd_mand
  b_mand : Binds K fd_mand ["self", "other"] []
  f_right : Addr
  fd_right : FuncData
  me_right : Meth K C "right" f_right
  d_right : C8.Fun K "right" "Word.right" (wmet 7) f_right fd_right
  b_right : Binds K fd_right ["self"] []
  f_left : Addr
  fd_left : FuncData
  me_left : Meth K C "left" f_left
  d_left : C8.Fun K "left" "Word.left" (wmet 8) f_left fd_left
  b_left : Binds K fd_left ["self"] []
  f_joined_by : Addr
  fd_joined_by : FuncData
  me_joined_by : Meth K C "joined_by" f_joined_by
  d_joined_by : C8.Fun K "joined_by" "Word.joined_by" (wmet 9) f_joined_by fd_joined_by
  b_joined_by : Binds K fd_joined_by ["self", "sign", "other"] []
  f_text : Addr
  fd_text : FuncData
  me_text : Meth K C "text" f_text
  d_text : C8.Fun K "text" "Word.text" (wmet 14) f_text fd_text
  b_text : Binds K fd_text ["self"] []
  f_part_text : Addr
  fd_part_text : FuncData
  me_part_text : Meth K C "part_text" f_part_text
  d_part_text : C8.Fun K "part_text" "Word.part_text" (wmet 15) f_part_text fd_part_text
  b_part_text : Binds K fd_part_text ["self", "index", "in_brackets"] []
  f_meq : Addr
  fd_meq : FuncData
  me_meq : Meth K C "__eq__" f_meq
  d_meq : C8.Fun K "__eq__" "Word.__eq__" (wmet 16) f_meq fd_meq
  b_meq : Binds K fd_meq ["self", "other"] []
  f_fits : Addr
  fd_fits : FuncData
  me_fits : Meth K C "fits" f_fits
  d_fits : C8.Fun K "fits" "Word.fits" (wmet 17) f_fits fd_fits
  b_fits : Binds K fd_fits ["self", "pattern"] []
  p_psign : Addr
  f_psign : Addr
  fd_psign : FuncData
  po_psign : PropOf K C "sign" p_psign f_psign
  d_psign : C8.Fun K "sign" "Word.sign" (wmet 1) f_psign fd_psign
  b_psign : Binds K fd_psign ["self"] []
  p_pplace : Addr
  f_pplace : Addr
  fd_pplace : FuncData
  po_pplace : PropOf K C "place" p_pplace f_pplace
  d_pplace : C8.Fun K "place" "Word.place" (wmet 2) f_pplace fd_pplace
  b_pplace : Binds K fd_pplace ["self"] []
  p_pparts : Addr
  f_pparts : Addr
  fd_pparts : FuncData
  po_pparts : PropOf K C "parts" p_pparts f_pparts
  d_pparts : C8.Fun K "parts" "Word.parts" (wmet 3) f_pparts fd_pparts
  b_pparts : Binds K fd_pparts ["self"] []
  p_preach : Addr
  f_preach : Addr
  fd_preach : FuncData
  po_preach : PropOf K C "reach" p_preach f_preach
  d_preach : C8.Fun K "reach" "Word.reach" (wmet 4) f_preach fd_preach
  b_preach : Binds K fd_preach ["self"] []
  p_cnone : Addr
  f_cnone : Addr
  fd_cnone : FuncData
  cm_cnone : ClX.CMet K C mc "none" p_cnone f_cnone
  d_cnone : C8.Fun K "none" "Word.none" (wmet 5) f_cnone fd_cnone
  b_cnone : Binds K fd_cnone ["cls", "place"] []
  p_cwhole : Addr
  f_cwhole : Addr
  fd_cwhole : FuncData
  cm_cwhole : ClX.CMet K C mc "whole" p_cwhole f_cwhole
  d_cwhole : C8.Fun K "whole" "Word.whole" (wmet 6) f_cwhole fd_cwhole
  b_cwhole : Binds K fd_cwhole ["cls", "place"] []
  f_is_integer : Addr
  fd_is_integer : FuncData
  d_is_integer : C8.Def K mg "is_integer" (top 9) f_is_integer fd_is_integer
  b_is_integer : Binds K fd_is_integer ["value", "low", "high"] []
  f_is_pattern : Addr
  fd_is_pattern : FuncData
  d_is_pattern : C8.Def K mg "is_pattern" (top 13) f_is_pattern fd_is_pattern
  b_is_pattern : Binds K fd_is_pattern ["value"] []
  f_need_pattern : Addr
  fd_need_pattern : FuncData
  d_need_pattern : C8.Def K mg "need_pattern" (top 14) f_need_pattern fd_need_pattern
  b_need_pattern : Binds K fd_need_pattern ["pattern"] []
  f_all_bars : Addr
  fd_all_bars : FuncData
  d_all_bars : C8.Def K mg "all_bars" (top 15) f_all_bars fd_all_bars
  b_all_bars : Binds K fd_all_bars ["pattern"] []
  f_need_place : Addr
  fd_need_place : FuncData
  d_need_place : C8.Def K mg "need_place" (top 19) f_need_place fd_need_place
  b_need_place : Binds K fd_need_place ["place"] []
  f_mark : Addr
  fd_mark : FuncData
  d_mark : C8.Def K mg "mark" (top 25) f_mark fd_mark
  b_mark : Binds K fd_mark ["pattern", "word", "bar"] []
  f_marks : Addr
  fd_marks : FuncData
  d_marks : C8.Def K mg "marks" (top 26) f_marks fd_marks
  b_marks : Binds K fd_marks ["pattern", "word"] []
  f_need_pair : Addr
  fd_need_pair : FuncData
  d_need_pair : C8.Def K mg "need_pair" (top 27) f_need_pair fd_need_pair
  b_need_pair : Binds K fd_need_pair ["pattern", "one", "other"] []
  f_parting : Addr
  fd_parting : FuncData
  d_parting : C8.Def K mg "parting" (top 28) f_parting fd_parting
  b_parting : Binds K fd_parting ["pattern", "one", "other"] []
  f_breach : Addr
  fd_breach : FuncData
  d_breach : C8.Def K mg "breach" (top 29) f_breach fd_breach
  b_breach : Binds K fd_breach ["pattern", "one", "other"] []
  f_same : Addr
  fd_same : FuncData
  d_same : C8.Def K mg "same" (top 30) f_same fd_same
  b_same : Binds K fd_same ["pattern", "one", "other"] []
  f_within : Addr
  fd_within : FuncData
  d_within : C8.Def K mg "within" (top 31) f_within fd_within
  b_within : Binds K fd_within ["pattern", "one", "other"] []
  f_need_place_of : Addr
  fd_need_place_of : FuncData
  d_need_place_of : C8.Def K mg "need_place_of" (top 32) f_need_place_of fd_need_place_of
  b_need_place_of : Binds K fd_need_place_of ["pattern", "place"] []
  f_births : Addr
  fd_births : FuncData
  d_births : C8.Def K mg "births" (top 33) f_births fd_births
  b_births : Binds K fd_births ["pattern", "place"] []
  f_ends : Addr
  fd_ends : FuncData
  d_ends : C8.Def K mg "ends" (top 34) f_ends fd_ends
  b_ends : Binds K fd_ends ["pattern", "place"] []
  f_stair : Addr
  fd_stair : FuncData
  d_stair : C8.Def K mg "stair" (top 35) f_stair fd_stair
  b_stair : Binds K fd_stair ["pattern", "word"] []
  f_left_words : Addr
  fd_left_words : FuncData
  d_left_words : C8.Def K mg "left_words" (top 36) f_left_words fd_left_words
  b_left_words : Binds K fd_left_words ["pattern", "place"] []
  f_right_words : Addr
  fd_right_words : FuncData
  d_right_words : C8.Def K mg "right_words" (top 37) f_right_words fd_right_words
  b_right_words : Binds K fd_right_words ["pattern", "place"] []
  f_word_of : Addr
  fd_word_of : FuncData
  d_word_of : C8.Def K mg "word_of" (top 38) f_word_of fd_word_of
  b_word_of : Binds K fd_word_of ["pattern", "place", "steps"] []
  f_cornered : Addr
  fd_cornered : FuncData
  d_cornered : C8.Def K mg "cornered" (top 39) f_cornered fd_cornered
  b_cornered : Binds K fd_cornered ["lefts", "rights", "births_held", "ends_held"] []
  f_plain : Addr
  fd_plain : FuncData
  d_plain : C8.Def K mg "plain" (top 40) f_plain fd_plain
  b_plain : Binds K fd_plain ["pattern", "word"] []
  f_stairs_count : Addr
  fd_stairs_count : FuncData
  d_stairs_count : C8.Def K mg "stairs_count" (top 42) f_stairs_count fd_stairs_count
  b_stairs_count : Binds K fd_stairs_count ["length", "most"] []
  f_plain_count : Addr
  fd_plain_count : FuncData
  d_plain_count : C8.Def K mg "plain_count" (top 43) f_plain_count fd_plain_count
  b_plain_count : Binds K fd_plain_count ["pattern", "place"] []
  f_law_cell : Addr
  fd_law_cell : FuncData
  d_law_cell : C8.Def K mg "_law_cell" (top 46) f_law_cell fd_law_cell
  b_law_cell : Binds K fd_law_cell ["_law_script", "_law_k"] []
  f_law_box : Addr
  fd_law_box : FuncData
  d_law_box : C8.Def K mg "_law_box" (top 47) f_law_box fd_law_box
  b_law_box : Binds K fd_law_box ["_law_cell_here"] []
  f_law_take : Addr
  fd_law_take : FuncData
  d_law_take : C8.Def K mg "_law_take" (top 48) f_law_take fd_law_take
  b_law_take : Binds K fd_law_take ["_law_box_here", "_law_many"] []
  f_law_pattern : Addr
  fd_law_pattern : FuncData
  d_law_pattern : C8.Def K mg "_law_pattern" (top 49) f_law_pattern fd_law_pattern
  b_law_pattern : Binds K fd_law_pattern ["_law_box_here", "_law_most"] []
  f_law_bars : Addr
  fd_law_bars : FuncData
  d_law_bars : C8.Def K mg "_law_bars" (top 50) f_law_bars fd_law_bars
  b_law_bars : Binds K fd_law_bars ["_law_arrows"] []
  f_law_shape : Addr
  fd_law_shape : FuncData
  d_law_shape : C8.Def K mg "_law_shape" (top 51) f_law_shape fd_law_shape
  b_law_shape : Binds K fd_law_shape ["_law_box_here", "_law_place_here", "_law_last", "_law_deep"] []
  f_law_place : Addr
  fd_law_place : FuncData
  d_law_place : C8.Def K mg "_law_place" (top 52) f_law_place fd_law_place
  b_law_place : Binds K fd_law_place ["_law_shape_here"] []
  f_law_word : Addr
  fd_law_word : FuncData
  d_law_word : C8.Def K mg "_law_word" (top 53) f_law_word fd_law_word
  b_law_word : Binds K fd_law_word ["_law_shape_here"] []
  f_law_mark : Addr
  fd_law_mark : FuncData
  d_law_mark : C8.Def K mg "_law_mark" (top 54) f_law_mark fd_law_mark
  b_law_mark : Binds K fd_law_mark ["_law_arrows", "_law_shape_here", "_law_bar"] []
  f_law_marks : Addr
  fd_law_marks : FuncData
  d_law_marks : C8.Def K mg "_law_marks" (top 55) f_law_marks fd_law_marks
  b_law_marks : Binds K fd_law_marks ["_law_arrows", "_law_shape_here"] []
  f_law_births : Addr
  fd_law_births : FuncData
  d_law_births : C8.Def K mg "_law_births" (top 56) f_law_births fd_law_births
  b_law_births : Binds K fd_law_births ["_law_arrows", "_law_place_here"] []
  f_law_about : Addr
  fd_law_about : FuncData
  d_law_about : C8.Def K mg "_law_about" (top 57) f_law_about fd_law_about
  b_law_about : Binds K fd_law_about ["_law_arrows"] []
  f_law_lasts : Addr
  fd_law_lasts : FuncData
  d_law_lasts : C8.Def K mg "_law_lasts" (top 58) f_law_lasts fd_law_lasts
  b_law_lasts : Binds K fd_law_lasts ["_law_arrows", "_law_place_here"] []
  f_law_stair : Addr
  fd_law_stair : FuncData
  d_law_stair : C8.Def K mg "_law_stair" (top 59) f_law_stair fd_law_stair
  b_law_stair : Binds K fd_law_stair ["_law_arrows", "_law_shape_here"] []
  f_law_stairs : Addr
  fd_law_stairs : FuncData
  d_law_stairs : C8.Def K mg "_law_stairs" (top 60) f_law_stairs fd_law_stairs
  b_law_stairs : Binds K fd_law_stairs ["_law_long", "_law_most"] []
  f_law_choices : Addr
  fd_law_choices : FuncData
  d_law_choices : C8.Def K mg "_law_choices" (top 61) f_law_choices fd_law_choices
  b_law_choices : Binds K fd_law_choices ["_law_many", "_law_few"] []
  f_law_all_right : Addr
  fd_law_all_right : FuncData
  d_law_all_right : C8.Def K mg "_law_all_right" (top 62) f_law_all_right fd_law_all_right
  b_law_all_right : Binds K fd_law_all_right ["_law_arrows", "_law_place_here"] []
  f_law_lattice_right : Addr
  fd_law_lattice_right : FuncData
  d_law_lattice_right : C8.Def K mg "_law_lattice_right" (top 63) f_law_lattice_right fd_law_lattice_right
  b_law_lattice_right : Binds K fd_law_lattice_right ["_law_arrows", "_law_one", "_law_two"] []
  f_law : Addr
  fd_law : FuncData
  d_law : C8.Def K mg "law" (top 64) f_law fd_law
  b_law : Binds K fd_law ["_law_script"] []
  f_stairs : Addr
  fd_stairs : FuncData
  d_stairs : C8.Def K mg "stairs" (top 41) f_stairs fd_stairs
  b_stairs : Binds K fd_stairs ["length", "most"] []
  f_plain_words : Addr
  fd_plain_words : FuncData
  d_plain_words : C8.Def K mg "plain_words" (top 44) f_plain_words fd_plain_words
  b_plain_words : Binds K fd_plain_words ["pattern", "place"] []
  f_need_fitting : Addr
  fd_need_fitting : FuncData
  d_need_fitting : C8.Def K mg "need_fitting" (top 24) f_need_fitting fd_need_fitting
  df_need_fitting : fd_need_fitting.defaults = .none
end WK
end
section
set_option maxRecDepth 100000
set_option maxHeartbeats 4000000
namespace WK
open PySem PySem.Spec PyProof.Rows L2 FU
/-! the facts' structure, made -/
theorem FB {K : PySem.W.Frag} {x qual : Str} {st : Stmt} {f : Addr} {oc dV kV dc pm cd ct : Value} {od an : Option Addr} {sl : Array (Option Value)} (l : K.lookup f = some ⟨oc, od, .func (PySem.W.fnOf x qual (C8.fnArgs st) (C8.fnBody st) (C8.fnScope st) dV kV dc pm an cd ct), sl⟩) (c : PySem.W.codeIn K cd qual = true) :
    C8.Fun K x qual st f (PySem.W.fnOf x qual (C8.fnArgs st) (C8.fnBody st) (C8.fnScope st) dV kV dc pm an cd ct) := ⟨oc, od, dV, kV, dc, pm, an, cd, ct, sl, rfl, l, c⟩
theorem bI {K : PySem.W.Frag} {f tI : Addr} {oc kV dc pm cd ct ocI : Value} {od an odI : Option Addr} {sl slI : Array (Option Value)} {nI : Nat} (l : K.lookup f = some ⟨oc, od, .func (PySem.W.fnOf "is_integer" "is_integer" (C8.fnArgs (top 9)) (C8.fnBody (top 9)) (C8.fnScope (top 9)) (.ref tI) kV dc pm an cd ct), sl⟩) (c : PySem.W.codeIn K cd "is_integer" = true) (k : PySem.W.keepIn K (.ref f) = true) (t : K.lookup tI = some ⟨ocI, odI, .seq #[.none, .none] nI, slI⟩) :
    Binds K (PySem.W.fnOf "is_integer" "is_integer" (C8.fnArgs (top 9)) (C8.fnBody (top 9)) (C8.fnScope (top 9)) (.ref tI) kV dc pm an cd ct) ["value", "low", "high"] [] := by
  have F : FunD K "is_integer" "is_integer" (C8.fnArgs (top 9)) (C8.fnBody (top 9)) (C8.fnScope (top 9)) [.non, .non] [] f (PySem.W.fnOf "is_integer" "is_integer" (C8.fnArgs (top 9)) (C8.fnBody (top 9)) (C8.fnScope (top 9)) (.ref tI) kV dc pm an cd ct) :=
    ⟨⟨oc, od, .ref tI, kV, dc, pm, an, cd, ct, sl, rfl, l, c, .inr ⟨by simp, tI, _, [.none, .none], nI, rfl, t, rfl, .cons rfl (.cons rfl .nil)⟩, .inl rfl⟩, k⟩
  obtain ⟨ds, hv, hb⟩ := F.binds1 (ps := ["value", "low", "high"]) 3 2 (by simp) rfl fun T kV doc pm an cdv ct us its h1 h2 => match us, its, h1, h2 with
    | [_, _, _], [_, _], _, _ => ⟨_, rfl, rfl⟩
  cases hv
  exact hb
def mkFx {K : PySem.W.Frag} {w : World} {h : Heap} {mg : Str → Option Value} (X : K.In h) (G : h.Ns mainGlobals mg)
    {dO dT C : Addr} {eO eT : Array DictEntry} {nO nT : Nat} {uO0 uO1 uT0 uT1 : Value} {tm : Nat} {f_init : Addr} {oc_init : Value} {kV_init : Value} {dc_init : Value} {pm_init : Value} {cd_init : Value} {ct_init : Value} {od_init : Option Addr} {an_init : Option Addr} {sl_init : Array (Option Value)} {f_madd : Addr} {oc_madd : Value} {kV_madd : Value} {dc_madd : Value} {pm_madd : Value} {cd_madd : Value} {ct_madd : Value} {od_madd : Option Addr} {an_madd : Option Addr} {sl_madd : Array (Option Value)} {f_mand : Addr} {oc_mand : Value} {kV_mand : Value} {dc_mand : Value} {pm_mand : Value} {cd_mand : Value} {ct_mand : Value} {od_mand : Option Addr} {an_mand : Option Addr} {sl_mand : Array (Option Value)} {f_right : Addr} {oc_right : Value} {kV_right : Value} {dc_right : Value} {pm_right : Value} {cd_right : Value} {ct_right : Value} {od_right : Option Addr} {an_right : Option Addr} {sl_right : Array (Option Value)} {f_left : Addr} {oc_left : Value} {kV_left : Value} {dc_left : Value} {pm_left : Value} {cd_left : Value} {ct_left : Value} {od_left : Option Addr} {an_left : Option Addr} {sl_left : Array (Option Value)} {f_joined_by : Addr} {oc_joined_by : Value} {kV_joined_by : Value} {dc_joined_by : Value} {pm_joined_by : Value} {cd_joined_by : Value} {ct_joined_by : Value} {od_joined_by : Option Addr} {an_joined_by : Option Addr} {sl_joined_by : Array (Option Value)} {f_text : Addr} {oc_text : Value} {kV_text : Value} {dc_text : Value} {pm_text : Value} {cd_text : Value} {ct_text : Value} {od_text : Option Addr} {an_text : Option Addr} {sl_text : Array (Option Value)} {f_part_text : Addr} {oc_part_text : Value} {kV_part_text : Value} {dc_part_text : Value} {pm_part_text : Value} {cd_part_text : Value} {ct_part_text : Value} {od_part_text : Option Addr} {an_part_text : Option Addr} {sl_part_text : Array (Option Value)} {f_meq : Addr} {oc_meq : Value} {kV_meq : Value} {dc_meq : Value} {pm_meq : Value} {cd_meq : Value} {ct_meq : Value} {od_meq : Option Addr} {an_meq : Option Addr} {sl_meq : Array (Option Value)} {f_fits : Addr} {oc_fits : Value} {kV_fits : Value} {dc_fits : Value} {pm_fits : Value} {cd_fits : Value} {ct_fits : Value} {od_fits : Option Addr} {an_fits : Option Addr} {sl_fits : Array (Option Value)} {p_psign f_psign : Addr} {rest_psign : List Value} {oc_psign : Value} {kV_psign : Value} {dc_psign : Value} {pm_psign : Value} {cd_psign : Value} {ct_psign : Value} {od_psign : Option Addr} {an_psign : Option Addr} {sl_psign : Array (Option Value)} {p_pplace f_pplace : Addr} {rest_pplace : List Value} {oc_pplace : Value} {kV_pplace : Value} {dc_pplace : Value} {pm_pplace : Value} {cd_pplace : Value} {ct_pplace : Value} {od_pplace : Option Addr} {an_pplace : Option Addr} {sl_pplace : Array (Option Value)} {p_pparts f_pparts : Addr} {rest_pparts : List Value} {oc_pparts : Value} {kV_pparts : Value} {dc_pparts : Value} {pm_pparts : Value} {cd_pparts : Value} {ct_pparts : Value} {od_pparts : Option Addr} {an_pparts : Option Addr} {sl_pparts : Array (Option Value)} {p_preach f_preach : Addr} {rest_preach : List Value} {oc_preach : Value} {kV_preach : Value} {dc_preach : Value} {pm_preach : Value} {cd_preach : Value} {ct_preach : Value} {od_preach : Option Addr} {an_preach : Option Addr} {sl_preach : Array (Option Value)} {p_cnone f_cnone : Addr} {rest_cnone : List Value} {oc_cnone : Value} {kV_cnone : Value} {dc_cnone : Value} {pm_cnone : Value} {cd_cnone : Value} {ct_cnone : Value} {od_cnone : Option Addr} {an_cnone : Option Addr} {sl_cnone : Array (Option Value)} {p_cwhole f_cwhole : Addr} {rest_cwhole : List Value} {oc_cwhole : Value} {kV_cwhole : Value} {dc_cwhole : Value} {pm_cwhole : Value} {cd_cwhole : Value} {ct_cwhole : Value} {od_cwhole : Option Addr} {an_cwhole : Option Addr} {sl_cwhole : Array (Option Value)} {f_is_integer : Addr} {tI : Addr} {ocI : Value} {odI : Option Addr} {nI : Nat} {slI : Array (Option Value)} {oc_is_integer : Value} {kV_is_integer : Value} {dc_is_integer : Value} {pm_is_integer : Value} {cd_is_integer : Value} {ct_is_integer : Value} {od_is_integer : Option Addr} {an_is_integer : Option Addr} {sl_is_integer : Array (Option Value)} {f_is_pattern : Addr} {oc_is_pattern : Value} {kV_is_pattern : Value} {dc_is_pattern : Value} {pm_is_pattern : Value} {cd_is_pattern : Value} {ct_is_pattern : Value} {od_is_pattern : Option Addr} {an_is_pattern : Option Addr} {sl_is_pattern : Array (Option Value)} {f_need_pattern : Addr} {oc_need_pattern : Value} {kV_need_pattern : Value} {dc_need_pattern : Value} {pm_need_pattern : Value} {cd_need_pattern : Value} {ct_need_pattern : Value} {od_need_pattern : Option Addr} {an_need_pattern : Option Addr} {sl_need_pattern : Array (Option Value)} {f_all_bars : Addr} {oc_all_bars : Value} {kV_all_bars : Value} {dc_all_bars : Value} {pm_all_bars : Value} {cd_all_bars : Value} {ct_all_bars : Value} {od_all_bars : Option Addr} {an_all_bars : Option Addr} {sl_all_bars : Array (Option Value)} {f_need_place : Addr} {oc_need_place : Value} {kV_need_place : Value} {dc_need_place : Value} {pm_need_place : Value} {cd_need_place : Value} {ct_need_place : Value} {od_need_place : Option Addr} {an_need_place : Option Addr} {sl_need_place : Array (Option Value)} {f_mark : Addr} {oc_mark : Value} {kV_mark : Value} {dc_mark : Value} {pm_mark : Value} {cd_mark : Value} {ct_mark : Value} {od_mark : Option Addr} {an_mark : Option Addr} {sl_mark : Array (Option Value)} {f_marks : Addr} {oc_marks : Value} {kV_marks : Value} {dc_marks : Value} {pm_marks : Value} {cd_marks : Value} {ct_marks : Value} {od_marks : Option Addr} {an_marks : Option Addr} {sl_marks : Array (Option Value)} {f_need_pair : Addr} {oc_need_pair : Value} {kV_need_pair : Value} {dc_need_pair : Value} {pm_need_pair : Value} {cd_need_pair : Value} {ct_need_pair : Value} {od_need_pair : Option Addr} {an_need_pair : Option Addr} {sl_need_pair : Array (Option Value)} {f_parting : Addr} {oc_parting : Value} {kV_parting : Value} {dc_parting : Value} {pm_parting : Value} {cd_parting : Value} {ct_parting : Value} {od_parting : Option Addr} {an_parting : Option Addr} {sl_parting : Array (Option Value)} {f_breach : Addr} {oc_breach : Value} {kV_breach : Value} {dc_breach : Value} {pm_breach : Value} {cd_breach : Value} {ct_breach : Value} {od_breach : Option Addr} {an_breach : Option Addr} {sl_breach : Array (Option Value)} {f_same : Addr} {oc_same : Value} {kV_same : Value} {dc_same : Value} {pm_same : Value} {cd_same : Value} {ct_same : Value} {od_same : Option Addr} {an_same : Option Addr} {sl_same : Array (Option Value)} {f_within : Addr} {oc_within : Value} {kV_within : Value} {dc_within : Value} {pm_within : Value} {cd_within : Value} {ct_within : Value} {od_within : Option Addr} {an_within : Option Addr} {sl_within : Array (Option Value)} {f_need_place_of : Addr} {oc_need_place_of : Value} {kV_need_place_of : Value} {dc_need_place_of : Value} {pm_need_place_of : Value} {cd_need_place_of : Value} {ct_need_place_of : Value} {od_need_place_of : Option Addr} {an_need_place_of : Option Addr} {sl_need_place_of : Array (Option Value)} {f_births : Addr} {oc_births : Value} {kV_births : Value} {dc_births : Value} {pm_births : Value} {cd_births : Value} {ct_births : Value} {od_births : Option Addr} {an_births : Option Addr} {sl_births : Array (Option Value)} {f_ends : Addr} {oc_ends : Value} {kV_ends : Value} {dc_ends : Value} {pm_ends : Value} {cd_ends : Value} {ct_ends : Value} {od_ends : Option Addr} {an_ends : Option Addr} {sl_ends : Array (Option Value)} {f_stair : Addr} {oc_stair : Value} {kV_stair : Value} {dc_stair : Value} {pm_stair : Value} {cd_stair : Value} {ct_stair : Value} {od_stair : Option Addr} {an_stair : Option Addr} {sl_stair : Array (Option Value)} {f_left_words : Addr} {oc_left_words : Value} {kV_left_words : Value} {dc_left_words : Value} {pm_left_words : Value} {cd_left_words : Value} {ct_left_words : Value} {od_left_words : Option Addr} {an_left_words : Option Addr} {sl_left_words : Array (Option Value)} {f_right_words : Addr} {oc_right_words : Value} {kV_right_words : Value} {dc_right_words : Value} {pm_right_words : Value} {cd_right_words : Value} {ct_right_words : Value} {od_right_words : Option Addr} {an_right_words : Option Addr} {sl_right_words : Array (Option Value)} {f_word_of : Addr} {oc_word_of : Value} {kV_word_of : Value} {dc_word_of : Value} {pm_word_of : Value} {cd_word_of : Value} {ct_word_of : Value} {od_word_of : Option Addr} {an_word_of : Option Addr} {sl_word_of : Array (Option Value)} {f_cornered : Addr} {oc_cornered : Value} {kV_cornered : Value} {dc_cornered : Value} {pm_cornered : Value} {cd_cornered : Value} {ct_cornered : Value} {od_cornered : Option Addr} {an_cornered : Option Addr} {sl_cornered : Array (Option Value)} {f_plain : Addr} {oc_plain : Value} {kV_plain : Value} {dc_plain : Value} {pm_plain : Value} {cd_plain : Value} {ct_plain : Value} {od_plain : Option Addr} {an_plain : Option Addr} {sl_plain : Array (Option Value)} {f_stairs_count : Addr} {oc_stairs_count : Value} {kV_stairs_count : Value} {dc_stairs_count : Value} {pm_stairs_count : Value} {cd_stairs_count : Value} {ct_stairs_count : Value} {od_stairs_count : Option Addr} {an_stairs_count : Option Addr} {sl_stairs_count : Array (Option Value)} {f_plain_count : Addr} {oc_plain_count : Value} {kV_plain_count : Value} {dc_plain_count : Value} {pm_plain_count : Value} {cd_plain_count : Value} {ct_plain_count : Value} {od_plain_count : Option Addr} {an_plain_count : Option Addr} {sl_plain_count : Array (Option Value)} {f_law_cell : Addr} {oc_law_cell : Value} {kV_law_cell : Value} {dc_law_cell : Value} {pm_law_cell : Value} {cd_law_cell : Value} {ct_law_cell : Value} {od_law_cell : Option Addr} {an_law_cell : Option Addr} {sl_law_cell : Array (Option Value)} {f_law_box : Addr} {oc_law_box : Value} {kV_law_box : Value} {dc_law_box : Value} {pm_law_box : Value} {cd_law_box : Value} {ct_law_box : Value} {od_law_box : Option Addr} {an_law_box : Option Addr} {sl_law_box : Array (Option Value)} {f_law_take : Addr} {oc_law_take : Value} {kV_law_take : Value} {dc_law_take : Value} {pm_law_take : Value} {cd_law_take : Value} {ct_law_take : Value} {od_law_take : Option Addr} {an_law_take : Option Addr} {sl_law_take : Array (Option Value)} {f_law_pattern : Addr} {oc_law_pattern : Value} {kV_law_pattern : Value} {dc_law_pattern : Value} {pm_law_pattern : Value} {cd_law_pattern : Value} {ct_law_pattern : Value} {od_law_pattern : Option Addr} {an_law_pattern : Option Addr} {sl_law_pattern : Array (Option Value)} {f_law_bars : Addr} {oc_law_bars : Value} {kV_law_bars : Value} {dc_law_bars : Value} {pm_law_bars : Value} {cd_law_bars : Value} {ct_law_bars : Value} {od_law_bars : Option Addr} {an_law_bars : Option Addr} {sl_law_bars : Array (Option Value)} {f_law_shape : Addr} {oc_law_shape : Value} {kV_law_shape : Value} {dc_law_shape : Value} {pm_law_shape : Value} {cd_law_shape : Value} {ct_law_shape : Value} {od_law_shape : Option Addr} {an_law_shape : Option Addr} {sl_law_shape : Array (Option Value)} {f_law_place : Addr} {oc_law_place : Value} {kV_law_place : Value} {dc_law_place : Value} {pm_law_place : Value} {cd_law_place : Value} {ct_law_place : Value} {od_law_place : Option Addr} {an_law_place : Option Addr} {sl_law_place : Array (Option Value)} {f_law_word : Addr} {oc_law_word : Value} {kV_law_word : Value} {dc_law_word : Value} {pm_law_word : Value} {cd_law_word : Value} {ct_law_word : Value} {od_law_word : Option Addr} {an_law_word : Option Addr} {sl_law_word : Array (Option Value)} {f_law_mark : Addr} {oc_law_mark : Value} {kV_law_mark : Value} {dc_law_mark : Value} {pm_law_mark : Value} {cd_law_mark : Value} {ct_law_mark : Value} {od_law_mark : Option Addr} {an_law_mark : Option Addr} {sl_law_mark : Array (Option Value)} {f_law_marks : Addr} {oc_law_marks : Value} {kV_law_marks : Value} {dc_law_marks : Value} {pm_law_marks : Value} {cd_law_marks : Value} {ct_law_marks : Value} {od_law_marks : Option Addr} {an_law_marks : Option Addr} {sl_law_marks : Array (Option Value)} {f_law_births : Addr} {oc_law_births : Value} {kV_law_births : Value} {dc_law_births : Value} {pm_law_births : Value} {cd_law_births : Value} {ct_law_births : Value} {od_law_births : Option Addr} {an_law_births : Option Addr} {sl_law_births : Array (Option Value)} {f_law_about : Addr} {oc_law_about : Value} {kV_law_about : Value} {dc_law_about : Value} {pm_law_about : Value} {cd_law_about : Value} {ct_law_about : Value} {od_law_about : Option Addr} {an_law_about : Option Addr} {sl_law_about : Array (Option Value)} {f_law_lasts : Addr} {oc_law_lasts : Value} {kV_law_lasts : Value} {dc_law_lasts : Value} {pm_law_lasts : Value} {cd_law_lasts : Value} {ct_law_lasts : Value} {od_law_lasts : Option Addr} {an_law_lasts : Option Addr} {sl_law_lasts : Array (Option Value)} {f_law_stair : Addr} {oc_law_stair : Value} {kV_law_stair : Value} {dc_law_stair : Value} {pm_law_stair : Value} {cd_law_stair : Value} {ct_law_stair : Value} {od_law_stair : Option Addr} {an_law_stair : Option Addr} {sl_law_stair : Array (Option Value)} {f_law_stairs : Addr} {oc_law_stairs : Value} {kV_law_stairs : Value} {dc_law_stairs : Value} {pm_law_stairs : Value} {cd_law_stairs : Value} {ct_law_stairs : Value} {od_law_stairs : Option Addr} {an_law_stairs : Option Addr} {sl_law_stairs : Array (Option Value)} {f_law_choices : Addr} {oc_law_choices : Value} {kV_law_choices : Value} {dc_law_choices : Value} {pm_law_choices : Value} {cd_law_choices : Value} {ct_law_choices : Value} {od_law_choices : Option Addr} {an_law_choices : Option Addr} {sl_law_choices : Array (Option Value)} {f_law_all_right : Addr} {oc_law_all_right : Value} {kV_law_all_right : Value} {dc_law_all_right : Value} {pm_law_all_right : Value} {cd_law_all_right : Value} {ct_law_all_right : Value} {od_law_all_right : Option Addr} {an_law_all_right : Option Addr} {sl_law_all_right : Array (Option Value)} {f_law_lattice_right : Addr} {oc_law_lattice_right : Value} {kV_law_lattice_right : Value} {dc_law_lattice_right : Value} {pm_law_lattice_right : Value} {cd_law_lattice_right : Value} {ct_law_lattice_right : Value} {od_law_lattice_right : Option Addr} {an_law_lattice_right : Option Addr} {sl_law_lattice_right : Array (Option Value)} {f_law : Addr} {oc_law : Value} {kV_law : Value} {dc_law : Value} {pm_law : Value} {cd_law : Value} {ct_law : Value} {od_law : Option Addr} {an_law : Option Addr} {sl_law : Array (Option Value)} {f_stairs : Addr} {oc_stairs : Value} {kV_stairs : Value} {dc_stairs : Value} {pm_stairs : Value} {cd_stairs : Value} {ct_stairs : Value} {od_stairs : Option Addr} {an_stairs : Option Addr} {sl_stairs : Array (Option Value)} {f_plain_words : Addr} {oc_plain_words : Value} {kV_plain_words : Value} {dc_plain_words : Value} {pm_plain_words : Value} {cd_plain_words : Value} {ct_plain_words : Value} {od_plain_words : Option Addr} {an_plain_words : Option Addr} {sl_plain_words : Array (Option Value)} {f_need_fitting : Addr} {oc_need_fitting : Value} {kV_need_fitting : Value} {dc_need_fitting : Value} {pm_need_fitting : Value} {cd_need_fitting : Value} {ct_need_fitting : Value} {od_need_fitting : Option Addr} {an_need_fitting : Option Addr} {sl_need_fitting : Array (Option Value)}
    (aO : PySem.W.nsIn K mainGlobals "OTHER" = some (some (.ref dO)))
    (lO : K.lookup dO = some ⟨.type "dict", none, .dict eO nO, #[]⟩)
    (kO : PySem.W.KeysLit w.params eO.toList)
    (sO : (dO == sysModules) = false)
    (aT : PySem.W.nsIn K mainGlobals "TURNED" = some (some (.ref dT)))
    (lT : K.lookup dT = some ⟨.type "dict", none, .dict eT nT, #[]⟩)
    (kT : PySem.W.KeysLit w.params eT.toList)
    (sT : (dT == sysModules) = false)
    (iO0 : PySem.W.nsIn K dO ">" = some (some uO0))
    (iO1 : PySem.W.nsIn K dO "<" = some (some uO1))
    (iT0 : PySem.W.nsIn K dT "right" = some (some uT0))
    (iT1 : PySem.W.nsIn K dT "left" = some (some uT1))
    (oT0 : PySem.W.nsIn K dT "+" = some none)
    (oT1 : PySem.W.nsIn K dT "&" = some none)
    (mA : PySem.W.nsIn K mainGlobals "MOST_ARROWS" = some (some (.int 6 tm)))
    (z_len : PySem.W.nsIn K mainGlobals "len" = some none)
    (z_range : PySem.W.nsIn K mainGlobals "range" = some none)
    (z_isinstance : PySem.W.nsIn K mainGlobals "isinstance" = some none)
    (z_all : PySem.W.nsIn K mainGlobals "all" = some none)
    (z_list : PySem.W.nsIn K mainGlobals "list" = some none)
    (z_tuple : PySem.W.nsIn K mainGlobals "tuple" = some none)
    (z_max : PySem.W.nsIn K mainGlobals "max" = some none)
    (z_min : PySem.W.nsIn K mainGlobals "min" = some none)
    (z_int : PySem.W.nsIn K mainGlobals "int" = some none)
    (z_str : PySem.W.nsIn K mainGlobals "str" = some none)
    (z_sum : PySem.W.nsIn K mainGlobals "sum" = some none)
    (z_enumerate : PySem.W.nsIn K mainGlobals "enumerate" = some none)
    (z_set : PySem.W.nsIn K mainGlobals "set" = some none)
    (z_dict : PySem.W.nsIn K mainGlobals "dict" = some none)
    (z_bool : PySem.W.nsIn K mainGlobals "bool" = some none)
    (aC : PySem.W.nsIn K mainGlobals "Word" = some (some (.ref C)))
    (c_pg : PySem.W.plainGet K C Str.empty = true)
    (c_hd : PySem.W.hasDictIn K C = true)
    (c_po : PySem.W.plainOver K C = true)
    (c_sa : PySem.W.findIn K (.ref C) "__setattr__" = some (some (.builtin "object.__setattr__")))
    (i_ha : PySem.W.findIn K (.ref C) "__class__" = some (some (.builtin "object.__class__")))
    (i_hn : PySem.W.specialIn K (.builtin "object.__class__") "__get__" = some (some (.builtin "getset_descriptor.__get__")))
    (i_tk : PySem.W.takesIn K (.builtin "object.__class__") = some true)
    (i_hm : PySem.W.mroIn K C (.type "object") = some true)
    (i_me : PySem.W.kitOne K (.ref C) (.ref C) = some true)
    (sf : PySem.W.selfFirst K C = true)
    (na_own_sign : PySem.W.findIn K (.ref C) "own_sign" = some none)
    (na_own_place : PySem.W.findIn K (.ref C) "own_place" = some none)
    (na_own_parts : PySem.W.findIn K (.ref C) "own_parts" = some none)
    (r_rd : PySem.W.readsIn K C (.type "type") = true)
    (r_ga : PySem.W.specialIn K (.ref C) "__getattribute__" = some (some (.builtin "type.__getattribute__")))
    (e_init : PySem.W.findIn K (.ref C) "__init__" = some (some (.ref f_init)))
    (i_init : PySem.W.isFn K (.ref f_init) = true)
    (l_init : K.lookup f_init = some ⟨oc_init, od_init, .func (PySem.W.fnOf "__init__" "Word.__init__" (C8.fnArgs (wmet 0)) (C8.fnBody (wmet 0)) (C8.fnScope (wmet 0)) .none kV_init dc_init pm_init an_init cd_init ct_init), sl_init⟩)
    (c_init : PySem.W.codeIn K cd_init "Word.__init__" = true)
    (m_init : PySem.W.makesIn K C = true)
    (k_C : PySem.W.keepIn K (.ref C) = true)
    (e_madd : PySem.W.findIn K (.ref C) "__add__" = some (some (.ref f_madd)))
    (i_madd : PySem.W.isFn K (.ref f_madd) = true)
    (l_madd : K.lookup f_madd = some ⟨oc_madd, od_madd, .func (PySem.W.fnOf "__add__" "Word.__add__" (C8.fnArgs (wmet 10)) (C8.fnBody (wmet 10)) (C8.fnScope (wmet 10)) .none kV_madd dc_madd pm_madd an_madd cd_madd ct_madd), sl_madd⟩)
    (c_madd : PySem.W.codeIn K cd_madd "Word.__add__" = true)
    (k_madd : PySem.W.keepIn K (.ref f_madd) = true)
    (e_mand : PySem.W.findIn K (.ref C) "__and__" = some (some (.ref f_mand)))
    (i_mand : PySem.W.isFn K (.ref f_mand) = true)
    (l_mand : K.lookup f_mand = some ⟨oc_mand, od_mand, .func (PySem.W.fnOf "__and__" "Word.__and__" (C8.fnArgs (wmet 11)) (C8.fnBody (wmet 11)) (C8.fnScope (wmet 11)) .none kV_mand dc_mand pm_mand an_mand cd_mand ct_mand), sl_mand⟩)
    (c_mand : PySem.W.codeIn K cd_mand "Word.__and__" = true)
    (k_mand : PySem.W.keepIn K (.ref f_mand) = true)
    (e_right : PySem.W.findIn K (.ref C) "right" = some (some (.ref f_right)))
    (i_right : PySem.W.isFn K (.ref f_right) = true)
    (l_right : K.lookup f_right = some ⟨oc_right, od_right, .func (PySem.W.fnOf "right" "Word.right" (C8.fnArgs (wmet 7)) (C8.fnBody (wmet 7)) (C8.fnScope (wmet 7)) .none kV_right dc_right pm_right an_right cd_right ct_right), sl_right⟩)
    (c_right : PySem.W.codeIn K cd_right "Word.right" = true)
    (k_right : PySem.W.keepIn K (.ref f_right) = true)
    (e_left : PySem.W.findIn K (.ref C) "left" = some (some (.ref f_left)))
    (i_left : PySem.W.isFn K (.ref f_left) = true)
    (l_left : K.lookup f_left = some ⟨oc_left, od_left, .func (PySem.W.fnOf "left" "Word.left" (C8.fnArgs (wmet 8)) (C8.fnBody (wmet 8)) (C8.fnScope (wmet 8)) .none kV_left dc_left pm_left an_left cd_left ct_left), sl_left⟩)
    (c_left : PySem.W.codeIn K cd_left "Word.left" = true)
    (k_left : PySem.W.keepIn K (.ref f_left) = true)
    (e_joined_by : PySem.W.findIn K (.ref C) "joined_by" = some (some (.ref f_joined_by)))
    (i_joined_by : PySem.W.isFn K (.ref f_joined_by) = true)
    (l_joined_by : K.lookup f_joined_by = some ⟨oc_joined_by, od_joined_by, .func (PySem.W.fnOf "joined_by" "Word.joined_by" (C8.fnArgs (wmet 9)) (C8.fnBody (wmet 9)) (C8.fnScope (wmet 9)) .none kV_joined_by dc_joined_by pm_joined_by an_joined_by cd_joined_by ct_joined_by), sl_joined_by⟩)
    (c_joined_by : PySem.W.codeIn K cd_joined_by "Word.joined_by" = true)
    (k_joined_by : PySem.W.keepIn K (.ref f_joined_by) = true)
    (e_text : PySem.W.findIn K (.ref C) "text" = some (some (.ref f_text)))
    (i_text : PySem.W.isFn K (.ref f_text) = true)
    (l_text : K.lookup f_text = some ⟨oc_text, od_text, .func (PySem.W.fnOf "text" "Word.text" (C8.fnArgs (wmet 14)) (C8.fnBody (wmet 14)) (C8.fnScope (wmet 14)) .none kV_text dc_text pm_text an_text cd_text ct_text), sl_text⟩)
    (c_text : PySem.W.codeIn K cd_text "Word.text" = true)
    (k_text : PySem.W.keepIn K (.ref f_text) = true)
    (e_part_text : PySem.W.findIn K (.ref C) "part_text" = some (some (.ref f_part_text)))
    (i_part_text : PySem.W.isFn K (.ref f_part_text) = true)
    (l_part_text : K.lookup f_part_text = some ⟨oc_part_text, od_part_text, .func (PySem.W.fnOf "part_text" "Word.part_text" (C8.fnArgs (wmet 15)) (C8.fnBody (wmet 15)) (C8.fnScope (wmet 15)) .none kV_part_text dc_part_text pm_part_text an_part_text cd_part_text ct_part_text), sl_part_text⟩)
    (c_part_text : PySem.W.codeIn K cd_part_text "Word.part_text" = true)
    (k_part_text : PySem.W.keepIn K (.ref f_part_text) = true)
    (e_meq : PySem.W.findIn K (.ref C) "__eq__" = some (some (.ref f_meq)))
    (i_meq : PySem.W.isFn K (.ref f_meq) = true)
    (l_meq : K.lookup f_meq = some ⟨oc_meq, od_meq, .func (PySem.W.fnOf "__eq__" "Word.__eq__" (C8.fnArgs (wmet 16)) (C8.fnBody (wmet 16)) (C8.fnScope (wmet 16)) .none kV_meq dc_meq pm_meq an_meq cd_meq ct_meq), sl_meq⟩)
    (c_meq : PySem.W.codeIn K cd_meq "Word.__eq__" = true)
    (k_meq : PySem.W.keepIn K (.ref f_meq) = true)
    (e_fits : PySem.W.findIn K (.ref C) "fits" = some (some (.ref f_fits)))
    (i_fits : PySem.W.isFn K (.ref f_fits) = true)
    (l_fits : K.lookup f_fits = some ⟨oc_fits, od_fits, .func (PySem.W.fnOf "fits" "Word.fits" (C8.fnArgs (wmet 17)) (C8.fnBody (wmet 17)) (C8.fnScope (wmet 17)) .none kV_fits dc_fits pm_fits an_fits cd_fits ct_fits), sl_fits⟩)
    (c_fits : PySem.W.codeIn K cd_fits "Word.fits" = true)
    (k_fits : PySem.W.keepIn K (.ref f_fits) = true)
    (e_psign : PySem.W.findIn K (.ref C) "sign" = some (some (.ref p_psign)))
    (g_psign : PySem.W.specialIn K (.ref p_psign) "__get__" = some (some (.builtin "property.__get__")))
    (t_psign : PySem.W.takesIn K (.ref p_psign) = some true)
    (r_psign : PySem.W.recIn K p_psign "property" = some (.ref f_psign :: rest_psign))
    (l_psign : K.lookup f_psign = some ⟨oc_psign, od_psign, .func (PySem.W.fnOf "sign" "Word.sign" (C8.fnArgs (wmet 1)) (C8.fnBody (wmet 1)) (C8.fnScope (wmet 1)) .none kV_psign dc_psign pm_psign an_psign cd_psign ct_psign), sl_psign⟩)
    (c_psign : PySem.W.codeIn K cd_psign "Word.sign" = true)
    (e_pplace : PySem.W.findIn K (.ref C) "place" = some (some (.ref p_pplace)))
    (g_pplace : PySem.W.specialIn K (.ref p_pplace) "__get__" = some (some (.builtin "property.__get__")))
    (t_pplace : PySem.W.takesIn K (.ref p_pplace) = some true)
    (r_pplace : PySem.W.recIn K p_pplace "property" = some (.ref f_pplace :: rest_pplace))
    (l_pplace : K.lookup f_pplace = some ⟨oc_pplace, od_pplace, .func (PySem.W.fnOf "place" "Word.place" (C8.fnArgs (wmet 2)) (C8.fnBody (wmet 2)) (C8.fnScope (wmet 2)) .none kV_pplace dc_pplace pm_pplace an_pplace cd_pplace ct_pplace), sl_pplace⟩)
    (c_pplace : PySem.W.codeIn K cd_pplace "Word.place" = true)
    (e_pparts : PySem.W.findIn K (.ref C) "parts" = some (some (.ref p_pparts)))
    (g_pparts : PySem.W.specialIn K (.ref p_pparts) "__get__" = some (some (.builtin "property.__get__")))
    (t_pparts : PySem.W.takesIn K (.ref p_pparts) = some true)
    (r_pparts : PySem.W.recIn K p_pparts "property" = some (.ref f_pparts :: rest_pparts))
    (l_pparts : K.lookup f_pparts = some ⟨oc_pparts, od_pparts, .func (PySem.W.fnOf "parts" "Word.parts" (C8.fnArgs (wmet 3)) (C8.fnBody (wmet 3)) (C8.fnScope (wmet 3)) .none kV_pparts dc_pparts pm_pparts an_pparts cd_pparts ct_pparts), sl_pparts⟩)
    (c_pparts : PySem.W.codeIn K cd_pparts "Word.parts" = true)
    (e_preach : PySem.W.findIn K (.ref C) "reach" = some (some (.ref p_preach)))
    (g_preach : PySem.W.specialIn K (.ref p_preach) "__get__" = some (some (.builtin "property.__get__")))
    (t_preach : PySem.W.takesIn K (.ref p_preach) = some true)
    (r_preach : PySem.W.recIn K p_preach "property" = some (.ref f_preach :: rest_preach))
    (l_preach : K.lookup f_preach = some ⟨oc_preach, od_preach, .func (PySem.W.fnOf "reach" "Word.reach" (C8.fnArgs (wmet 4)) (C8.fnBody (wmet 4)) (C8.fnScope (wmet 4)) .none kV_preach dc_preach pm_preach an_preach cd_preach ct_preach), sl_preach⟩)
    (c_preach : PySem.W.codeIn K cd_preach "Word.reach" = true)
    (e_cnone : PySem.W.findCls K (.ref C) (.type "type") "none" = some (.get (.builtin "classmethod.__get__") (.ref p_cnone) .none (.ref C)))
    (r_cnone : PySem.W.recIn K p_cnone "classmethod" = some (.ref f_cnone :: rest_cnone))
    (i_cnone : PySem.W.fnIn K f_cnone = true)
    (l_cnone : K.lookup f_cnone = some ⟨oc_cnone, od_cnone, .func (PySem.W.fnOf "none" "Word.none" (C8.fnArgs (wmet 5)) (C8.fnBody (wmet 5)) (C8.fnScope (wmet 5)) .none kV_cnone dc_cnone pm_cnone an_cnone cd_cnone ct_cnone), sl_cnone⟩)
    (c_cnone : PySem.W.codeIn K cd_cnone "Word.none" = true)
    (e_cwhole : PySem.W.findCls K (.ref C) (.type "type") "whole" = some (.get (.builtin "classmethod.__get__") (.ref p_cwhole) .none (.ref C)))
    (r_cwhole : PySem.W.recIn K p_cwhole "classmethod" = some (.ref f_cwhole :: rest_cwhole))
    (i_cwhole : PySem.W.fnIn K f_cwhole = true)
    (l_cwhole : K.lookup f_cwhole = some ⟨oc_cwhole, od_cwhole, .func (PySem.W.fnOf "whole" "Word.whole" (C8.fnArgs (wmet 6)) (C8.fnBody (wmet 6)) (C8.fnScope (wmet 6)) .none kV_cwhole dc_cwhole pm_cwhole an_cwhole cd_cwhole ct_cwhole), sl_cwhole⟩)
    (c_cwhole : PySem.W.codeIn K cd_cwhole "Word.whole" = true)
    (a_is_integer : PySem.W.nsIn K mainGlobals "is_integer" = some (some (.ref f_is_integer)))
    (l_is_integer : K.lookup f_is_integer = some ⟨oc_is_integer, od_is_integer, .func (PySem.W.fnOf "is_integer" "is_integer" (C8.fnArgs (top 9)) (C8.fnBody (top 9)) (C8.fnScope (top 9)) (.ref tI) kV_is_integer dc_is_integer pm_is_integer an_is_integer cd_is_integer ct_is_integer), sl_is_integer⟩)
    (c_is_integer : PySem.W.codeIn K cd_is_integer "is_integer" = true)
    (l_dI : K.lookup tI = some ⟨ocI, odI, .seq #[.none, .none] nI, slI⟩)
    (k_is_integer : PySem.W.keepIn K (.ref f_is_integer) = true)
    (a_is_pattern : PySem.W.nsIn K mainGlobals "is_pattern" = some (some (.ref f_is_pattern)))
    (l_is_pattern : K.lookup f_is_pattern = some ⟨oc_is_pattern, od_is_pattern, .func (PySem.W.fnOf "is_pattern" "is_pattern" (C8.fnArgs (top 13)) (C8.fnBody (top 13)) (C8.fnScope (top 13)) .none kV_is_pattern dc_is_pattern pm_is_pattern an_is_pattern cd_is_pattern ct_is_pattern), sl_is_pattern⟩)
    (c_is_pattern : PySem.W.codeIn K cd_is_pattern "is_pattern" = true)
    (k_is_pattern : PySem.W.keepIn K (.ref f_is_pattern) = true)
    (a_need_pattern : PySem.W.nsIn K mainGlobals "need_pattern" = some (some (.ref f_need_pattern)))
    (l_need_pattern : K.lookup f_need_pattern = some ⟨oc_need_pattern, od_need_pattern, .func (PySem.W.fnOf "need_pattern" "need_pattern" (C8.fnArgs (top 14)) (C8.fnBody (top 14)) (C8.fnScope (top 14)) .none kV_need_pattern dc_need_pattern pm_need_pattern an_need_pattern cd_need_pattern ct_need_pattern), sl_need_pattern⟩)
    (c_need_pattern : PySem.W.codeIn K cd_need_pattern "need_pattern" = true)
    (k_need_pattern : PySem.W.keepIn K (.ref f_need_pattern) = true)
    (a_all_bars : PySem.W.nsIn K mainGlobals "all_bars" = some (some (.ref f_all_bars)))
    (l_all_bars : K.lookup f_all_bars = some ⟨oc_all_bars, od_all_bars, .func (PySem.W.fnOf "all_bars" "all_bars" (C8.fnArgs (top 15)) (C8.fnBody (top 15)) (C8.fnScope (top 15)) .none kV_all_bars dc_all_bars pm_all_bars an_all_bars cd_all_bars ct_all_bars), sl_all_bars⟩)
    (c_all_bars : PySem.W.codeIn K cd_all_bars "all_bars" = true)
    (k_all_bars : PySem.W.keepIn K (.ref f_all_bars) = true)
    (a_need_place : PySem.W.nsIn K mainGlobals "need_place" = some (some (.ref f_need_place)))
    (l_need_place : K.lookup f_need_place = some ⟨oc_need_place, od_need_place, .func (PySem.W.fnOf "need_place" "need_place" (C8.fnArgs (top 19)) (C8.fnBody (top 19)) (C8.fnScope (top 19)) .none kV_need_place dc_need_place pm_need_place an_need_place cd_need_place ct_need_place), sl_need_place⟩)
    (c_need_place : PySem.W.codeIn K cd_need_place "need_place" = true)
    (k_need_place : PySem.W.keepIn K (.ref f_need_place) = true)
    (a_mark : PySem.W.nsIn K mainGlobals "mark" = some (some (.ref f_mark)))
    (l_mark : K.lookup f_mark = some ⟨oc_mark, od_mark, .func (PySem.W.fnOf "mark" "mark" (C8.fnArgs (top 25)) (C8.fnBody (top 25)) (C8.fnScope (top 25)) .none kV_mark dc_mark pm_mark an_mark cd_mark ct_mark), sl_mark⟩)
    (c_mark : PySem.W.codeIn K cd_mark "mark" = true)
    (k_mark : PySem.W.keepIn K (.ref f_mark) = true)
    (a_marks : PySem.W.nsIn K mainGlobals "marks" = some (some (.ref f_marks)))
    (l_marks : K.lookup f_marks = some ⟨oc_marks, od_marks, .func (PySem.W.fnOf "marks" "marks" (C8.fnArgs (top 26)) (C8.fnBody (top 26)) (C8.fnScope (top 26)) .none kV_marks dc_marks pm_marks an_marks cd_marks ct_marks), sl_marks⟩)
    (c_marks : PySem.W.codeIn K cd_marks "marks" = true)
    (k_marks : PySem.W.keepIn K (.ref f_marks) = true)
    (a_need_pair : PySem.W.nsIn K mainGlobals "need_pair" = some (some (.ref f_need_pair)))
    (l_need_pair : K.lookup f_need_pair = some ⟨oc_need_pair, od_need_pair, .func (PySem.W.fnOf "need_pair" "need_pair" (C8.fnArgs (top 27)) (C8.fnBody (top 27)) (C8.fnScope (top 27)) .none kV_need_pair dc_need_pair pm_need_pair an_need_pair cd_need_pair ct_need_pair), sl_need_pair⟩)
    (c_need_pair : PySem.W.codeIn K cd_need_pair "need_pair" = true)
    (k_need_pair : PySem.W.keepIn K (.ref f_need_pair) = true)
    (a_parting : PySem.W.nsIn K mainGlobals "parting" = some (some (.ref f_parting)))
    (l_parting : K.lookup f_parting = some ⟨oc_parting, od_parting, .func (PySem.W.fnOf "parting" "parting" (C8.fnArgs (top 28)) (C8.fnBody (top 28)) (C8.fnScope (top 28)) .none kV_parting dc_parting pm_parting an_parting cd_parting ct_parting), sl_parting⟩)
    (c_parting : PySem.W.codeIn K cd_parting "parting" = true)
    (k_parting : PySem.W.keepIn K (.ref f_parting) = true)
    (a_breach : PySem.W.nsIn K mainGlobals "breach" = some (some (.ref f_breach)))
    (l_breach : K.lookup f_breach = some ⟨oc_breach, od_breach, .func (PySem.W.fnOf "breach" "breach" (C8.fnArgs (top 29)) (C8.fnBody (top 29)) (C8.fnScope (top 29)) .none kV_breach dc_breach pm_breach an_breach cd_breach ct_breach), sl_breach⟩)
    (c_breach : PySem.W.codeIn K cd_breach "breach" = true)
    (k_breach : PySem.W.keepIn K (.ref f_breach) = true)
    (a_same : PySem.W.nsIn K mainGlobals "same" = some (some (.ref f_same)))
    (l_same : K.lookup f_same = some ⟨oc_same, od_same, .func (PySem.W.fnOf "same" "same" (C8.fnArgs (top 30)) (C8.fnBody (top 30)) (C8.fnScope (top 30)) .none kV_same dc_same pm_same an_same cd_same ct_same), sl_same⟩)
    (c_same : PySem.W.codeIn K cd_same "same" = true)
    (k_same : PySem.W.keepIn K (.ref f_same) = true)
    (a_within : PySem.W.nsIn K mainGlobals "within" = some (some (.ref f_within)))
    (l_within : K.lookup f_within = some ⟨oc_within, od_within, .func (PySem.W.fnOf "within" "within" (C8.fnArgs (top 31)) (C8.fnBody (top 31)) (C8.fnScope (top 31)) .none kV_within dc_within pm_within an_within cd_within ct_within), sl_within⟩)
    (c_within : PySem.W.codeIn K cd_within "within" = true)
    (k_within : PySem.W.keepIn K (.ref f_within) = true)
    (a_need_place_of : PySem.W.nsIn K mainGlobals "need_place_of" = some (some (.ref f_need_place_of)))
    (l_need_place_of : K.lookup f_need_place_of = some ⟨oc_need_place_of, od_need_place_of, .func (PySem.W.fnOf "need_place_of" "need_place_of" (C8.fnArgs (top 32)) (C8.fnBody (top 32)) (C8.fnScope (top 32)) .none kV_need_place_of dc_need_place_of pm_need_place_of an_need_place_of cd_need_place_of ct_need_place_of), sl_need_place_of⟩)
    (c_need_place_of : PySem.W.codeIn K cd_need_place_of "need_place_of" = true)
    (k_need_place_of : PySem.W.keepIn K (.ref f_need_place_of) = true)
    (a_births : PySem.W.nsIn K mainGlobals "births" = some (some (.ref f_births)))
    (l_births : K.lookup f_births = some ⟨oc_births, od_births, .func (PySem.W.fnOf "births" "births" (C8.fnArgs (top 33)) (C8.fnBody (top 33)) (C8.fnScope (top 33)) .none kV_births dc_births pm_births an_births cd_births ct_births), sl_births⟩)
    (c_births : PySem.W.codeIn K cd_births "births" = true)
    (k_births : PySem.W.keepIn K (.ref f_births) = true)
    (a_ends : PySem.W.nsIn K mainGlobals "ends" = some (some (.ref f_ends)))
    (l_ends : K.lookup f_ends = some ⟨oc_ends, od_ends, .func (PySem.W.fnOf "ends" "ends" (C8.fnArgs (top 34)) (C8.fnBody (top 34)) (C8.fnScope (top 34)) .none kV_ends dc_ends pm_ends an_ends cd_ends ct_ends), sl_ends⟩)
    (c_ends : PySem.W.codeIn K cd_ends "ends" = true)
    (k_ends : PySem.W.keepIn K (.ref f_ends) = true)
    (a_stair : PySem.W.nsIn K mainGlobals "stair" = some (some (.ref f_stair)))
    (l_stair : K.lookup f_stair = some ⟨oc_stair, od_stair, .func (PySem.W.fnOf "stair" "stair" (C8.fnArgs (top 35)) (C8.fnBody (top 35)) (C8.fnScope (top 35)) .none kV_stair dc_stair pm_stair an_stair cd_stair ct_stair), sl_stair⟩)
    (c_stair : PySem.W.codeIn K cd_stair "stair" = true)
    (k_stair : PySem.W.keepIn K (.ref f_stair) = true)
    (a_left_words : PySem.W.nsIn K mainGlobals "left_words" = some (some (.ref f_left_words)))
    (l_left_words : K.lookup f_left_words = some ⟨oc_left_words, od_left_words, .func (PySem.W.fnOf "left_words" "left_words" (C8.fnArgs (top 36)) (C8.fnBody (top 36)) (C8.fnScope (top 36)) .none kV_left_words dc_left_words pm_left_words an_left_words cd_left_words ct_left_words), sl_left_words⟩)
    (c_left_words : PySem.W.codeIn K cd_left_words "left_words" = true)
    (k_left_words : PySem.W.keepIn K (.ref f_left_words) = true)
    (a_right_words : PySem.W.nsIn K mainGlobals "right_words" = some (some (.ref f_right_words)))
    (l_right_words : K.lookup f_right_words = some ⟨oc_right_words, od_right_words, .func (PySem.W.fnOf "right_words" "right_words" (C8.fnArgs (top 37)) (C8.fnBody (top 37)) (C8.fnScope (top 37)) .none kV_right_words dc_right_words pm_right_words an_right_words cd_right_words ct_right_words), sl_right_words⟩)
    (c_right_words : PySem.W.codeIn K cd_right_words "right_words" = true)
    (k_right_words : PySem.W.keepIn K (.ref f_right_words) = true)
    (a_word_of : PySem.W.nsIn K mainGlobals "word_of" = some (some (.ref f_word_of)))
    (l_word_of : K.lookup f_word_of = some ⟨oc_word_of, od_word_of, .func (PySem.W.fnOf "word_of" "word_of" (C8.fnArgs (top 38)) (C8.fnBody (top 38)) (C8.fnScope (top 38)) .none kV_word_of dc_word_of pm_word_of an_word_of cd_word_of ct_word_of), sl_word_of⟩)
    (c_word_of : PySem.W.codeIn K cd_word_of "word_of" = true)
    (k_word_of : PySem.W.keepIn K (.ref f_word_of) = true)
    (a_cornered : PySem.W.nsIn K mainGlobals "cornered" = some (some (.ref f_cornered)))
    (l_cornered : K.lookup f_cornered = some ⟨oc_cornered, od_cornered, .func (PySem.W.fnOf "cornered" "cornered" (C8.fnArgs (top 39)) (C8.fnBody (top 39)) (C8.fnScope (top 39)) .none kV_cornered dc_cornered pm_cornered an_cornered cd_cornered ct_cornered), sl_cornered⟩)
    (c_cornered : PySem.W.codeIn K cd_cornered "cornered" = true)
    (k_cornered : PySem.W.keepIn K (.ref f_cornered) = true)
    (a_plain : PySem.W.nsIn K mainGlobals "plain" = some (some (.ref f_plain)))
    (l_plain : K.lookup f_plain = some ⟨oc_plain, od_plain, .func (PySem.W.fnOf "plain" "plain" (C8.fnArgs (top 40)) (C8.fnBody (top 40)) (C8.fnScope (top 40)) .none kV_plain dc_plain pm_plain an_plain cd_plain ct_plain), sl_plain⟩)
    (c_plain : PySem.W.codeIn K cd_plain "plain" = true)
    (k_plain : PySem.W.keepIn K (.ref f_plain) = true)
    (a_stairs_count : PySem.W.nsIn K mainGlobals "stairs_count" = some (some (.ref f_stairs_count)))
    (l_stairs_count : K.lookup f_stairs_count = some ⟨oc_stairs_count, od_stairs_count, .func (PySem.W.fnOf "stairs_count" "stairs_count" (C8.fnArgs (top 42)) (C8.fnBody (top 42)) (C8.fnScope (top 42)) .none kV_stairs_count dc_stairs_count pm_stairs_count an_stairs_count cd_stairs_count ct_stairs_count), sl_stairs_count⟩)
    (c_stairs_count : PySem.W.codeIn K cd_stairs_count "stairs_count" = true)
    (k_stairs_count : PySem.W.keepIn K (.ref f_stairs_count) = true)
    (a_plain_count : PySem.W.nsIn K mainGlobals "plain_count" = some (some (.ref f_plain_count)))
    (l_plain_count : K.lookup f_plain_count = some ⟨oc_plain_count, od_plain_count, .func (PySem.W.fnOf "plain_count" "plain_count" (C8.fnArgs (top 43)) (C8.fnBody (top 43)) (C8.fnScope (top 43)) .none kV_plain_count dc_plain_count pm_plain_count an_plain_count cd_plain_count ct_plain_count), sl_plain_count⟩)
    (c_plain_count : PySem.W.codeIn K cd_plain_count "plain_count" = true)
    (k_plain_count : PySem.W.keepIn K (.ref f_plain_count) = true)
    (a_law_cell : PySem.W.nsIn K mainGlobals "_law_cell" = some (some (.ref f_law_cell)))
    (l_law_cell : K.lookup f_law_cell = some ⟨oc_law_cell, od_law_cell, .func (PySem.W.fnOf "_law_cell" "_law_cell" (C8.fnArgs (top 46)) (C8.fnBody (top 46)) (C8.fnScope (top 46)) .none kV_law_cell dc_law_cell pm_law_cell an_law_cell cd_law_cell ct_law_cell), sl_law_cell⟩)
    (c_law_cell : PySem.W.codeIn K cd_law_cell "_law_cell" = true)
    (k_law_cell : PySem.W.keepIn K (.ref f_law_cell) = true)
    (a_law_box : PySem.W.nsIn K mainGlobals "_law_box" = some (some (.ref f_law_box)))
    (l_law_box : K.lookup f_law_box = some ⟨oc_law_box, od_law_box, .func (PySem.W.fnOf "_law_box" "_law_box" (C8.fnArgs (top 47)) (C8.fnBody (top 47)) (C8.fnScope (top 47)) .none kV_law_box dc_law_box pm_law_box an_law_box cd_law_box ct_law_box), sl_law_box⟩)
    (c_law_box : PySem.W.codeIn K cd_law_box "_law_box" = true)
    (k_law_box : PySem.W.keepIn K (.ref f_law_box) = true)
    (a_law_take : PySem.W.nsIn K mainGlobals "_law_take" = some (some (.ref f_law_take)))
    (l_law_take : K.lookup f_law_take = some ⟨oc_law_take, od_law_take, .func (PySem.W.fnOf "_law_take" "_law_take" (C8.fnArgs (top 48)) (C8.fnBody (top 48)) (C8.fnScope (top 48)) .none kV_law_take dc_law_take pm_law_take an_law_take cd_law_take ct_law_take), sl_law_take⟩)
    (c_law_take : PySem.W.codeIn K cd_law_take "_law_take" = true)
    (k_law_take : PySem.W.keepIn K (.ref f_law_take) = true)
    (a_law_pattern : PySem.W.nsIn K mainGlobals "_law_pattern" = some (some (.ref f_law_pattern)))
    (l_law_pattern : K.lookup f_law_pattern = some ⟨oc_law_pattern, od_law_pattern, .func (PySem.W.fnOf "_law_pattern" "_law_pattern" (C8.fnArgs (top 49)) (C8.fnBody (top 49)) (C8.fnScope (top 49)) .none kV_law_pattern dc_law_pattern pm_law_pattern an_law_pattern cd_law_pattern ct_law_pattern), sl_law_pattern⟩)
    (c_law_pattern : PySem.W.codeIn K cd_law_pattern "_law_pattern" = true)
    (k_law_pattern : PySem.W.keepIn K (.ref f_law_pattern) = true)
    (a_law_bars : PySem.W.nsIn K mainGlobals "_law_bars" = some (some (.ref f_law_bars)))
    (l_law_bars : K.lookup f_law_bars = some ⟨oc_law_bars, od_law_bars, .func (PySem.W.fnOf "_law_bars" "_law_bars" (C8.fnArgs (top 50)) (C8.fnBody (top 50)) (C8.fnScope (top 50)) .none kV_law_bars dc_law_bars pm_law_bars an_law_bars cd_law_bars ct_law_bars), sl_law_bars⟩)
    (c_law_bars : PySem.W.codeIn K cd_law_bars "_law_bars" = true)
    (k_law_bars : PySem.W.keepIn K (.ref f_law_bars) = true)
    (a_law_shape : PySem.W.nsIn K mainGlobals "_law_shape" = some (some (.ref f_law_shape)))
    (l_law_shape : K.lookup f_law_shape = some ⟨oc_law_shape, od_law_shape, .func (PySem.W.fnOf "_law_shape" "_law_shape" (C8.fnArgs (top 51)) (C8.fnBody (top 51)) (C8.fnScope (top 51)) .none kV_law_shape dc_law_shape pm_law_shape an_law_shape cd_law_shape ct_law_shape), sl_law_shape⟩)
    (c_law_shape : PySem.W.codeIn K cd_law_shape "_law_shape" = true)
    (k_law_shape : PySem.W.keepIn K (.ref f_law_shape) = true)
    (a_law_place : PySem.W.nsIn K mainGlobals "_law_place" = some (some (.ref f_law_place)))
    (l_law_place : K.lookup f_law_place = some ⟨oc_law_place, od_law_place, .func (PySem.W.fnOf "_law_place" "_law_place" (C8.fnArgs (top 52)) (C8.fnBody (top 52)) (C8.fnScope (top 52)) .none kV_law_place dc_law_place pm_law_place an_law_place cd_law_place ct_law_place), sl_law_place⟩)
    (c_law_place : PySem.W.codeIn K cd_law_place "_law_place" = true)
    (k_law_place : PySem.W.keepIn K (.ref f_law_place) = true)
    (a_law_word : PySem.W.nsIn K mainGlobals "_law_word" = some (some (.ref f_law_word)))
    (l_law_word : K.lookup f_law_word = some ⟨oc_law_word, od_law_word, .func (PySem.W.fnOf "_law_word" "_law_word" (C8.fnArgs (top 53)) (C8.fnBody (top 53)) (C8.fnScope (top 53)) .none kV_law_word dc_law_word pm_law_word an_law_word cd_law_word ct_law_word), sl_law_word⟩)
    (c_law_word : PySem.W.codeIn K cd_law_word "_law_word" = true)
    (k_law_word : PySem.W.keepIn K (.ref f_law_word) = true)
    (a_law_mark : PySem.W.nsIn K mainGlobals "_law_mark" = some (some (.ref f_law_mark)))
    (l_law_mark : K.lookup f_law_mark = some ⟨oc_law_mark, od_law_mark, .func (PySem.W.fnOf "_law_mark" "_law_mark" (C8.fnArgs (top 54)) (C8.fnBody (top 54)) (C8.fnScope (top 54)) .none kV_law_mark dc_law_mark pm_law_mark an_law_mark cd_law_mark ct_law_mark), sl_law_mark⟩)
    (c_law_mark : PySem.W.codeIn K cd_law_mark "_law_mark" = true)
    (k_law_mark : PySem.W.keepIn K (.ref f_law_mark) = true)
    (a_law_marks : PySem.W.nsIn K mainGlobals "_law_marks" = some (some (.ref f_law_marks)))
    (l_law_marks : K.lookup f_law_marks = some ⟨oc_law_marks, od_law_marks, .func (PySem.W.fnOf "_law_marks" "_law_marks" (C8.fnArgs (top 55)) (C8.fnBody (top 55)) (C8.fnScope (top 55)) .none kV_law_marks dc_law_marks pm_law_marks an_law_marks cd_law_marks ct_law_marks), sl_law_marks⟩)
    (c_law_marks : PySem.W.codeIn K cd_law_marks "_law_marks" = true)
    (k_law_marks : PySem.W.keepIn K (.ref f_law_marks) = true)
    (a_law_births : PySem.W.nsIn K mainGlobals "_law_births" = some (some (.ref f_law_births)))
    (l_law_births : K.lookup f_law_births = some ⟨oc_law_births, od_law_births, .func (PySem.W.fnOf "_law_births" "_law_births" (C8.fnArgs (top 56)) (C8.fnBody (top 56)) (C8.fnScope (top 56)) .none kV_law_births dc_law_births pm_law_births an_law_births cd_law_births ct_law_births), sl_law_births⟩)
    (c_law_births : PySem.W.codeIn K cd_law_births "_law_births" = true)
    (k_law_births : PySem.W.keepIn K (.ref f_law_births) = true)
    (a_law_about : PySem.W.nsIn K mainGlobals "_law_about" = some (some (.ref f_law_about)))
    (l_law_about : K.lookup f_law_about = some ⟨oc_law_about, od_law_about, .func (PySem.W.fnOf "_law_about" "_law_about" (C8.fnArgs (top 57)) (C8.fnBody (top 57)) (C8.fnScope (top 57)) .none kV_law_about dc_law_about pm_law_about an_law_about cd_law_about ct_law_about), sl_law_about⟩)
    (c_law_about : PySem.W.codeIn K cd_law_about "_law_about" = true)
    (k_law_about : PySem.W.keepIn K (.ref f_law_about) = true)
    (a_law_lasts : PySem.W.nsIn K mainGlobals "_law_lasts" = some (some (.ref f_law_lasts)))
    (l_law_lasts : K.lookup f_law_lasts = some ⟨oc_law_lasts, od_law_lasts, .func (PySem.W.fnOf "_law_lasts" "_law_lasts" (C8.fnArgs (top 58)) (C8.fnBody (top 58)) (C8.fnScope (top 58)) .none kV_law_lasts dc_law_lasts pm_law_lasts an_law_lasts cd_law_lasts ct_law_lasts), sl_law_lasts⟩)
    (c_law_lasts : PySem.W.codeIn K cd_law_lasts "_law_lasts" = true)
    (k_law_lasts : PySem.W.keepIn K (.ref f_law_lasts) = true)
    (a_law_stair : PySem.W.nsIn K mainGlobals "_law_stair" = some (some (.ref f_law_stair)))
    (l_law_stair : K.lookup f_law_stair = some ⟨oc_law_stair, od_law_stair, .func (PySem.W.fnOf "_law_stair" "_law_stair" (C8.fnArgs (top 59)) (C8.fnBody (top 59)) (C8.fnScope (top 59)) .none kV_law_stair dc_law_stair pm_law_stair an_law_stair cd_law_stair ct_law_stair), sl_law_stair⟩)
    (c_law_stair : PySem.W.codeIn K cd_law_stair "_law_stair" = true)
    (k_law_stair : PySem.W.keepIn K (.ref f_law_stair) = true)
    (a_law_stairs : PySem.W.nsIn K mainGlobals "_law_stairs" = some (some (.ref f_law_stairs)))
    (l_law_stairs : K.lookup f_law_stairs = some ⟨oc_law_stairs, od_law_stairs, .func (PySem.W.fnOf "_law_stairs" "_law_stairs" (C8.fnArgs (top 60)) (C8.fnBody (top 60)) (C8.fnScope (top 60)) .none kV_law_stairs dc_law_stairs pm_law_stairs an_law_stairs cd_law_stairs ct_law_stairs), sl_law_stairs⟩)
    (c_law_stairs : PySem.W.codeIn K cd_law_stairs "_law_stairs" = true)
    (k_law_stairs : PySem.W.keepIn K (.ref f_law_stairs) = true)
    (a_law_choices : PySem.W.nsIn K mainGlobals "_law_choices" = some (some (.ref f_law_choices)))
    (l_law_choices : K.lookup f_law_choices = some ⟨oc_law_choices, od_law_choices, .func (PySem.W.fnOf "_law_choices" "_law_choices" (C8.fnArgs (top 61)) (C8.fnBody (top 61)) (C8.fnScope (top 61)) .none kV_law_choices dc_law_choices pm_law_choices an_law_choices cd_law_choices ct_law_choices), sl_law_choices⟩)
    (c_law_choices : PySem.W.codeIn K cd_law_choices "_law_choices" = true)
    (k_law_choices : PySem.W.keepIn K (.ref f_law_choices) = true)
    (a_law_all_right : PySem.W.nsIn K mainGlobals "_law_all_right" = some (some (.ref f_law_all_right)))
    (l_law_all_right : K.lookup f_law_all_right = some ⟨oc_law_all_right, od_law_all_right, .func (PySem.W.fnOf "_law_all_right" "_law_all_right" (C8.fnArgs (top 62)) (C8.fnBody (top 62)) (C8.fnScope (top 62)) .none kV_law_all_right dc_law_all_right pm_law_all_right an_law_all_right cd_law_all_right ct_law_all_right), sl_law_all_right⟩)
    (c_law_all_right : PySem.W.codeIn K cd_law_all_right "_law_all_right" = true)
    (k_law_all_right : PySem.W.keepIn K (.ref f_law_all_right) = true)
    (a_law_lattice_right : PySem.W.nsIn K mainGlobals "_law_lattice_right" = some (some (.ref f_law_lattice_right)))
    (l_law_lattice_right : K.lookup f_law_lattice_right = some ⟨oc_law_lattice_right, od_law_lattice_right, .func (PySem.W.fnOf "_law_lattice_right" "_law_lattice_right" (C8.fnArgs (top 63)) (C8.fnBody (top 63)) (C8.fnScope (top 63)) .none kV_law_lattice_right dc_law_lattice_right pm_law_lattice_right an_law_lattice_right cd_law_lattice_right ct_law_lattice_right), sl_law_lattice_right⟩)
    (c_law_lattice_right : PySem.W.codeIn K cd_law_lattice_right "_law_lattice_right" = true)
    (k_law_lattice_right : PySem.W.keepIn K (.ref f_law_lattice_right) = true)
    (a_law : PySem.W.nsIn K mainGlobals "law" = some (some (.ref f_law)))
    (l_law : K.lookup f_law = some ⟨oc_law, od_law, .func (PySem.W.fnOf "law" "law" (C8.fnArgs (top 64)) (C8.fnBody (top 64)) (C8.fnScope (top 64)) .none kV_law dc_law pm_law an_law cd_law ct_law), sl_law⟩)
    (c_law : PySem.W.codeIn K cd_law "law" = true)
    (k_law : PySem.W.keepIn K (.ref f_law) = true)
    (a_stairs : PySem.W.nsIn K mainGlobals "stairs" = some (some (.ref f_stairs)))
    (l_stairs : K.lookup f_stairs = some ⟨oc_stairs, od_stairs, .func (PySem.W.fnOf "stairs" "stairs" (C8.fnArgs (top 41)) (C8.fnBody (top 41)) (C8.fnScope (top 41)) .none kV_stairs dc_stairs pm_stairs an_stairs cd_stairs ct_stairs), sl_stairs⟩)
    (c_stairs : PySem.W.codeIn K cd_stairs "stairs" = true)
    (k_stairs : PySem.W.keepIn K (.ref f_stairs) = true)
    (a_plain_words : PySem.W.nsIn K mainGlobals "plain_words" = some (some (.ref f_plain_words)))
    (l_plain_words : K.lookup f_plain_words = some ⟨oc_plain_words, od_plain_words, .func (PySem.W.fnOf "plain_words" "plain_words" (C8.fnArgs (top 44)) (C8.fnBody (top 44)) (C8.fnScope (top 44)) .none kV_plain_words dc_plain_words pm_plain_words an_plain_words cd_plain_words ct_plain_words), sl_plain_words⟩)
    (c_plain_words : PySem.W.codeIn K cd_plain_words "plain_words" = true)
    (k_plain_words : PySem.W.keepIn K (.ref f_plain_words) = true)
    (a_need_fitting : PySem.W.nsIn K mainGlobals "need_fitting" = some (some (.ref f_need_fitting)))
    (l_need_fitting : K.lookup f_need_fitting = some ⟨oc_need_fitting, od_need_fitting, .func (PySem.W.fnOf "need_fitting" "need_fitting" (C8.fnArgs (top 24)) (C8.fnBody (top 24)) (C8.fnScope (top 24)) .none kV_need_fitting dc_need_fitting pm_need_fitting an_need_fitting cd_need_fitting ct_need_fitting), sl_need_fitting⟩)
    (c_need_fitting : PySem.W.codeIn K cd_need_fitting "need_fitting" = true)
    (k_need_fitting : PySem.W.keepIn K (.ref f_need_fitting) = true)
    : Fx K w mg where
  kO := ⟨lO, kO, sO⟩
  mO := PySem.W.mg_of X G aO
  kT := ⟨lT, kT, sT⟩
  mT := PySem.W.mg_of X G aT
  dO := dO
  dT := dT
  eO := eO
  eT := eT
  nO := nO
  nT := nT
  iO0 := ⟨_, iO0⟩
  iO1 := ⟨_, iO1⟩
  iT0 := ⟨_, iT0⟩
  iT1 := ⟨_, iT1⟩
  oT0 := oT0
  oT1 := oT1
  most := ⟨_, PySem.W.mg_of X G mA⟩
  z_len := PySem.W.mg_none_of X G z_len
  z_range := PySem.W.mg_none_of X G z_range
  z_isinstance := PySem.W.mg_none_of X G z_isinstance
  z_all := PySem.W.mg_none_of X G z_all
  z_list := PySem.W.mg_none_of X G z_list
  z_tuple := PySem.W.mg_none_of X G z_tuple
  z_max := PySem.W.mg_none_of X G z_max
  z_min := PySem.W.mg_none_of X G z_min
  z_int := PySem.W.mg_none_of X G z_int
  z_str := PySem.W.mg_none_of X G z_str
  z_sum := PySem.W.mg_none_of X G z_sum
  z_enumerate := PySem.W.mg_none_of X G z_enumerate
  z_set := PySem.W.mg_none_of X G z_set
  z_dict := PySem.W.mg_none_of X G z_dict
  z_bool := PySem.W.mg_none_of X G z_bool
  C := C
  mC := PySem.W.mg_of X G aC
  cl := ⟨c_pg, c_hd, c_po, c_sa⟩
  inC := ⟨⟨c_pg, c_hd, c_po, c_sa⟩, i_ha, i_hn, i_tk, i_hm, i_me⟩
  sf := sf
  na_own_sign := na_own_sign
  na_own_place := na_own_place
  na_own_parts := na_own_parts
  mc := .type "type"
  rd := ⟨r_rd, r_ga⟩
  f_init := f_init
  fd_init := (PySem.W.fnOf "__init__" "Word.__init__" (C8.fnArgs (wmet 0)) (C8.fnBody (wmet 0)) (C8.fnScope (wmet 0)) .none kV_init dc_init pm_init an_init cd_init ct_init)
  mkC := ⟨m_init, e_init, i_init, k_C⟩
  d_init := FB l_init c_init
  b_init := (FB (st := wmet 0) l_init c_init).binds rfl fun _ _ _ _ _ _ us hl => match us, hl with | [_, _, _, _], _ => rfl
  f_madd := f_madd
  fd_madd := (PySem.W.fnOf "__add__" "Word.__add__" (C8.fnArgs (wmet 10)) (C8.fnBody (wmet 10)) (C8.fnScope (wmet 10)) .none kV_madd dc_madd pm_madd an_madd cd_madd ct_madd)
  me_madd := ⟨e_madd, i_madd, k_madd⟩
  d_madd := FB l_madd c_madd
  b_madd := (FB (st := wmet 10) l_madd c_madd).binds rfl fun _ _ _ _ _ _ us hl => match us, hl with | [_, _], _ => rfl
  f_mand := f_mand
  fd_mand := (PySem.W.fnOf "__and__" "Word.__and__" (C8.fnArgs (wmet 11)) (C8.fnBody (wmet 11)) (C8.fnScope (wmet 11)) .none kV_mand dc_mand pm_mand an_mand cd_mand ct_mand)
  me_mand := ⟨e_mand, i_mand, k_mand⟩
  d_mand := FB l_mand c_mand
  b_mand := (FB (st := wmet 11) l_mand c_mand).binds rfl fun _ _ _ _ _ _ us hl => match us, hl with | [_, _], _ => rfl
  f_right := f_right
  fd_right := (PySem.W.fnOf "right" "Word.right" (C8.fnArgs (wmet 7)) (C8.fnBody (wmet 7)) (C8.fnScope (wmet 7)) .none kV_right dc_right pm_right an_right cd_right ct_right)
  me_right := ⟨e_right, i_right, k_right⟩
  d_right := FB l_right c_right
  b_right := (FB (st := wmet 7) l_right c_right).binds rfl fun _ _ _ _ _ _ us hl => match us, hl with | [_], _ => rfl
  f_left := f_left
  fd_left := (PySem.W.fnOf "left" "Word.left" (C8.fnArgs (wmet 8)) (C8.fnBody (wmet 8)) (C8.fnScope (wmet 8)) .none kV_left dc_left pm_left an_left cd_left ct_left)
  me_left := ⟨e_left, i_left, k_left⟩
  d_left := FB l_left c_left
  b_left := (FB (st := wmet 8) l_left c_left).binds rfl fun _ _ _ _ _ _ us hl => match us, hl with | [_], _ => rfl
  f_joined_by := f_joined_by
  fd_joined_by := (PySem.W.fnOf "joined_by" "Word.joined_by" (C8.fnArgs (wmet 9)) (C8.fnBody (wmet 9)) (C8.fnScope (wmet 9)) .none kV_joined_by dc_joined_by pm_joined_by an_joined_by cd_joined_by ct_joined_by)
  me_joined_by := ⟨e_joined_by, i_joined_by, k_joined_by⟩
  d_joined_by := FB l_joined_by c_joined_by
  b_joined_by := (FB (st := wmet 9) l_joined_by c_joined_by).binds rfl fun _ _ _ _ _ _ us hl => match us, hl with | [_, _, _], _ => rfl
  f_text := f_text
  fd_text := (PySem.W.fnOf "text" "Word.text" (C8.fnArgs (wmet 14)) (C8.fnBody (wmet 14)) (C8.fnScope (wmet 14)) .none kV_text dc_text pm_text an_text cd_text ct_text)
  me_text := ⟨e_text, i_text, k_text⟩
  d_text := FB l_text c_text
  b_text := (FB (st := wmet 14) l_text c_text).binds rfl fun _ _ _ _ _ _ us hl => match us, hl with | [_], _ => rfl
  f_part_text := f_part_text
  fd_part_text := (PySem.W.fnOf "part_text" "Word.part_text" (C8.fnArgs (wmet 15)) (C8.fnBody (wmet 15)) (C8.fnScope (wmet 15)) .none kV_part_text dc_part_text pm_part_text an_part_text cd_part_text ct_part_text)
  me_part_text := ⟨e_part_text, i_part_text, k_part_text⟩
  d_part_text := FB l_part_text c_part_text
  b_part_text := (FB (st := wmet 15) l_part_text c_part_text).binds rfl fun _ _ _ _ _ _ us hl => match us, hl with | [_, _, _], _ => rfl
  f_meq := f_meq
  fd_meq := (PySem.W.fnOf "__eq__" "Word.__eq__" (C8.fnArgs (wmet 16)) (C8.fnBody (wmet 16)) (C8.fnScope (wmet 16)) .none kV_meq dc_meq pm_meq an_meq cd_meq ct_meq)
  me_meq := ⟨e_meq, i_meq, k_meq⟩
  d_meq := FB l_meq c_meq
  b_meq := (FB (st := wmet 16) l_meq c_meq).binds rfl fun _ _ _ _ _ _ us hl => match us, hl with | [_, _], _ => rfl
  f_fits := f_fits
  fd_fits := (PySem.W.fnOf "fits" "Word.fits" (C8.fnArgs (wmet 17)) (C8.fnBody (wmet 17)) (C8.fnScope (wmet 17)) .none kV_fits dc_fits pm_fits an_fits cd_fits ct_fits)
  me_fits := ⟨e_fits, i_fits, k_fits⟩
  d_fits := FB l_fits c_fits
  b_fits := (FB (st := wmet 17) l_fits c_fits).binds rfl fun _ _ _ _ _ _ us hl => match us, hl with | [_, _], _ => rfl
  p_psign := p_psign
  f_psign := f_psign
  fd_psign := (PySem.W.fnOf "sign" "Word.sign" (C8.fnArgs (wmet 1)) (C8.fnBody (wmet 1)) (C8.fnScope (wmet 1)) .none kV_psign dc_psign pm_psign an_psign cd_psign ct_psign)
  po_psign := ⟨e_psign, g_psign, t_psign, _, r_psign⟩
  d_psign := FB l_psign c_psign
  b_psign := (FB (st := wmet 1) l_psign c_psign).binds rfl fun _ _ _ _ _ _ us hl => match us, hl with | [_], _ => rfl
  p_pplace := p_pplace
  f_pplace := f_pplace
  fd_pplace := (PySem.W.fnOf "place" "Word.place" (C8.fnArgs (wmet 2)) (C8.fnBody (wmet 2)) (C8.fnScope (wmet 2)) .none kV_pplace dc_pplace pm_pplace an_pplace cd_pplace ct_pplace)
  po_pplace := ⟨e_pplace, g_pplace, t_pplace, _, r_pplace⟩
  d_pplace := FB l_pplace c_pplace
  b_pplace := (FB (st := wmet 2) l_pplace c_pplace).binds rfl fun _ _ _ _ _ _ us hl => match us, hl with | [_], _ => rfl
  p_pparts := p_pparts
  f_pparts := f_pparts
  fd_pparts := (PySem.W.fnOf "parts" "Word.parts" (C8.fnArgs (wmet 3)) (C8.fnBody (wmet 3)) (C8.fnScope (wmet 3)) .none kV_pparts dc_pparts pm_pparts an_pparts cd_pparts ct_pparts)
  po_pparts := ⟨e_pparts, g_pparts, t_pparts, _, r_pparts⟩
  d_pparts := FB l_pparts c_pparts
  b_pparts := (FB (st := wmet 3) l_pparts c_pparts).binds rfl fun _ _ _ _ _ _ us hl => match us, hl with | [_], _ => rfl
  p_preach := p_preach
  f_preach := f_preach
  fd_preach := (PySem.W.fnOf "reach" "Word.reach" (C8.fnArgs (wmet 4)) (C8.fnBody (wmet 4)) (C8.fnScope (wmet 4)) .none kV_preach dc_preach pm_preach an_preach cd_preach ct_preach)
  po_preach := ⟨e_preach, g_preach, t_preach, _, r_preach⟩
  d_preach := FB l_preach c_preach
  b_preach := (FB (st := wmet 4) l_preach c_preach).binds rfl fun _ _ _ _ _ _ us hl => match us, hl with | [_], _ => rfl
  p_cnone := p_cnone
  f_cnone := f_cnone
  fd_cnone := (PySem.W.fnOf "none" "Word.none" (C8.fnArgs (wmet 5)) (C8.fnBody (wmet 5)) (C8.fnScope (wmet 5)) .none kV_cnone dc_cnone pm_cnone an_cnone cd_cnone ct_cnone)
  cm_cnone := ⟨e_cnone, ⟨_, r_cnone⟩, i_cnone⟩
  d_cnone := FB l_cnone c_cnone
  b_cnone := (FB (st := wmet 5) l_cnone c_cnone).binds rfl fun _ _ _ _ _ _ us hl => match us, hl with | [_, _], _ => rfl
  p_cwhole := p_cwhole
  f_cwhole := f_cwhole
  fd_cwhole := (PySem.W.fnOf "whole" "Word.whole" (C8.fnArgs (wmet 6)) (C8.fnBody (wmet 6)) (C8.fnScope (wmet 6)) .none kV_cwhole dc_cwhole pm_cwhole an_cwhole cd_cwhole ct_cwhole)
  cm_cwhole := ⟨e_cwhole, ⟨_, r_cwhole⟩, i_cwhole⟩
  d_cwhole := FB l_cwhole c_cwhole
  b_cwhole := (FB (st := wmet 6) l_cwhole c_cwhole).binds rfl fun _ _ _ _ _ _ us hl => match us, hl with | [_, _], _ => rfl
  f_is_integer := f_is_integer
  fd_is_integer := (PySem.W.fnOf "is_integer" "is_integer" (C8.fnArgs (top 9)) (C8.fnBody (top 9)) (C8.fnScope (top 9)) (.ref tI) kV_is_integer dc_is_integer pm_is_integer an_is_integer cd_is_integer ct_is_integer)
  d_is_integer := ⟨FB l_is_integer c_is_integer, PySem.W.mg_of X G a_is_integer, k_is_integer⟩
  b_is_integer := bI l_is_integer c_is_integer k_is_integer l_dI
  f_is_pattern := f_is_pattern
  fd_is_pattern := (PySem.W.fnOf "is_pattern" "is_pattern" (C8.fnArgs (top 13)) (C8.fnBody (top 13)) (C8.fnScope (top 13)) .none kV_is_pattern dc_is_pattern pm_is_pattern an_is_pattern cd_is_pattern ct_is_pattern)
  d_is_pattern := ⟨FB l_is_pattern c_is_pattern, PySem.W.mg_of X G a_is_pattern, k_is_pattern⟩
  b_is_pattern := (FB (st := top 13) l_is_pattern c_is_pattern).binds rfl fun _ _ _ _ _ _ us hl => match us, hl with | [_], _ => rfl
  f_need_pattern := f_need_pattern
  fd_need_pattern := (PySem.W.fnOf "need_pattern" "need_pattern" (C8.fnArgs (top 14)) (C8.fnBody (top 14)) (C8.fnScope (top 14)) .none kV_need_pattern dc_need_pattern pm_need_pattern an_need_pattern cd_need_pattern ct_need_pattern)
  d_need_pattern := ⟨FB l_need_pattern c_need_pattern, PySem.W.mg_of X G a_need_pattern, k_need_pattern⟩
  b_need_pattern := (FB (st := top 14) l_need_pattern c_need_pattern).binds rfl fun _ _ _ _ _ _ us hl => match us, hl with | [_], _ => rfl
  f_all_bars := f_all_bars
  fd_all_bars := (PySem.W.fnOf "all_bars" "all_bars" (C8.fnArgs (top 15)) (C8.fnBody (top 15)) (C8.fnScope (top 15)) .none kV_all_bars dc_all_bars pm_all_bars an_all_bars cd_all_bars ct_all_bars)
  d_all_bars := ⟨FB l_all_bars c_all_bars, PySem.W.mg_of X G a_all_bars, k_all_bars⟩
  b_all_bars := (FB (st := top 15) l_all_bars c_all_bars).binds rfl fun _ _ _ _ _ _ us hl => match us, hl with | [_], _ => rfl
  f_need_place := f_need_place
  fd_need_place := (PySem.W.fnOf "need_place" "need_place" (C8.fnArgs (top 19)) (C8.fnBody (top 19)) (C8.fnScope (top 19)) .none kV_need_place dc_need_place pm_need_place an_need_place cd_need_place ct_need_place)
  d_need_place := ⟨FB l_need_place c_need_place, PySem.W.mg_of X G a_need_place, k_need_place⟩
  b_need_place := (FB (st := top 19) l_need_place c_need_place).binds rfl fun _ _ _ _ _ _ us hl => match us, hl with | [_], _ => rfl
  f_mark := f_mark
  fd_mark := (PySem.W.fnOf "mark" "mark" (C8.fnArgs (top 25)) (C8.fnBody (top 25)) (C8.fnScope (top 25)) .none kV_mark dc_mark pm_mark an_mark cd_mark ct_mark)
  d_mark := ⟨FB l_mark c_mark, PySem.W.mg_of X G a_mark, k_mark⟩
  b_mark := (FB (st := top 25) l_mark c_mark).binds rfl fun _ _ _ _ _ _ us hl => match us, hl with | [_, _, _], _ => rfl
  f_marks := f_marks
  fd_marks := (PySem.W.fnOf "marks" "marks" (C8.fnArgs (top 26)) (C8.fnBody (top 26)) (C8.fnScope (top 26)) .none kV_marks dc_marks pm_marks an_marks cd_marks ct_marks)
  d_marks := ⟨FB l_marks c_marks, PySem.W.mg_of X G a_marks, k_marks⟩
  b_marks := (FB (st := top 26) l_marks c_marks).binds rfl fun _ _ _ _ _ _ us hl => match us, hl with | [_, _], _ => rfl
  f_need_pair := f_need_pair
  fd_need_pair := (PySem.W.fnOf "need_pair" "need_pair" (C8.fnArgs (top 27)) (C8.fnBody (top 27)) (C8.fnScope (top 27)) .none kV_need_pair dc_need_pair pm_need_pair an_need_pair cd_need_pair ct_need_pair)
  d_need_pair := ⟨FB l_need_pair c_need_pair, PySem.W.mg_of X G a_need_pair, k_need_pair⟩
  b_need_pair := (FB (st := top 27) l_need_pair c_need_pair).binds rfl fun _ _ _ _ _ _ us hl => match us, hl with | [_, _, _], _ => rfl
  f_parting := f_parting
  fd_parting := (PySem.W.fnOf "parting" "parting" (C8.fnArgs (top 28)) (C8.fnBody (top 28)) (C8.fnScope (top 28)) .none kV_parting dc_parting pm_parting an_parting cd_parting ct_parting)
  d_parting := ⟨FB l_parting c_parting, PySem.W.mg_of X G a_parting, k_parting⟩
  b_parting := (FB (st := top 28) l_parting c_parting).binds rfl fun _ _ _ _ _ _ us hl => match us, hl with | [_, _, _], _ => rfl
  f_breach := f_breach
  fd_breach := (PySem.W.fnOf "breach" "breach" (C8.fnArgs (top 29)) (C8.fnBody (top 29)) (C8.fnScope (top 29)) .none kV_breach dc_breach pm_breach an_breach cd_breach ct_breach)
  d_breach := ⟨FB l_breach c_breach, PySem.W.mg_of X G a_breach, k_breach⟩
  b_breach := (FB (st := top 29) l_breach c_breach).binds rfl fun _ _ _ _ _ _ us hl => match us, hl with | [_, _, _], _ => rfl
  f_same := f_same
  fd_same := (PySem.W.fnOf "same" "same" (C8.fnArgs (top 30)) (C8.fnBody (top 30)) (C8.fnScope (top 30)) .none kV_same dc_same pm_same an_same cd_same ct_same)
  d_same := ⟨FB l_same c_same, PySem.W.mg_of X G a_same, k_same⟩
  b_same := (FB (st := top 30) l_same c_same).binds rfl fun _ _ _ _ _ _ us hl => match us, hl with | [_, _, _], _ => rfl
  f_within := f_within
  fd_within := (PySem.W.fnOf "within" "within" (C8.fnArgs (top 31)) (C8.fnBody (top 31)) (C8.fnScope (top 31)) .none kV_within dc_within pm_within an_within cd_within ct_within)
  d_within := ⟨FB l_within c_within, PySem.W.mg_of X G a_within, k_within⟩
  b_within := (FB (st := top 31) l_within c_within).binds rfl fun _ _ _ _ _ _ us hl => match us, hl with | [_, _, _], _ => rfl
  f_need_place_of := f_need_place_of
  fd_need_place_of := (PySem.W.fnOf "need_place_of" "need_place_of" (C8.fnArgs (top 32)) (C8.fnBody (top 32)) (C8.fnScope (top 32)) .none kV_need_place_of dc_need_place_of pm_need_place_of an_need_place_of cd_need_place_of ct_need_place_of)
  d_need_place_of := ⟨FB l_need_place_of c_need_place_of, PySem.W.mg_of X G a_need_place_of, k_need_place_of⟩
  b_need_place_of := (FB (st := top 32) l_need_place_of c_need_place_of).binds rfl fun _ _ _ _ _ _ us hl => match us, hl with | [_, _], _ => rfl
  f_births := f_births
  fd_births := (PySem.W.fnOf "births" "births" (C8.fnArgs (top 33)) (C8.fnBody (top 33)) (C8.fnScope (top 33)) .none kV_births dc_births pm_births an_births cd_births ct_births)
  d_births := ⟨FB l_births c_births, PySem.W.mg_of X G a_births, k_births⟩
  b_births := (FB (st := top 33) l_births c_births).binds rfl fun _ _ _ _ _ _ us hl => match us, hl with | [_, _], _ => rfl
  f_ends := f_ends
  fd_ends := (PySem.W.fnOf "ends" "ends" (C8.fnArgs (top 34)) (C8.fnBody (top 34)) (C8.fnScope (top 34)) .none kV_ends dc_ends pm_ends an_ends cd_ends ct_ends)
  d_ends := ⟨FB l_ends c_ends, PySem.W.mg_of X G a_ends, k_ends⟩
  b_ends := (FB (st := top 34) l_ends c_ends).binds rfl fun _ _ _ _ _ _ us hl => match us, hl with | [_, _], _ => rfl
  f_stair := f_stair
  fd_stair := (PySem.W.fnOf "stair" "stair" (C8.fnArgs (top 35)) (C8.fnBody (top 35)) (C8.fnScope (top 35)) .none kV_stair dc_stair pm_stair an_stair cd_stair ct_stair)
  d_stair := ⟨FB l_stair c_stair, PySem.W.mg_of X G a_stair, k_stair⟩
  b_stair := (FB (st := top 35) l_stair c_stair).binds rfl fun _ _ _ _ _ _ us hl => match us, hl with | [_, _], _ => rfl
  f_left_words := f_left_words
  fd_left_words := (PySem.W.fnOf "left_words" "left_words" (C8.fnArgs (top 36)) (C8.fnBody (top 36)) (C8.fnScope (top 36)) .none kV_left_words dc_left_words pm_left_words an_left_words cd_left_words ct_left_words)
  d_left_words := ⟨FB l_left_words c_left_words, PySem.W.mg_of X G a_left_words, k_left_words⟩
  b_left_words := (FB (st := top 36) l_left_words c_left_words).binds rfl fun _ _ _ _ _ _ us hl => match us, hl with | [_, _], _ => rfl
  f_right_words := f_right_words
  fd_right_words := (PySem.W.fnOf "right_words" "right_words" (C8.fnArgs (top 37)) (C8.fnBody (top 37)) (C8.fnScope (top 37)) .none kV_right_words dc_right_words pm_right_words an_right_words cd_right_words ct_right_words)
  d_right_words := ⟨FB l_right_words c_right_words, PySem.W.mg_of X G a_right_words, k_right_words⟩
  b_right_words := (FB (st := top 37) l_right_words c_right_words).binds rfl fun _ _ _ _ _ _ us hl => match us, hl with | [_, _], _ => rfl
  f_word_of := f_word_of
  fd_word_of := (PySem.W.fnOf "word_of" "word_of" (C8.fnArgs (top 38)) (C8.fnBody (top 38)) (C8.fnScope (top 38)) .none kV_word_of dc_word_of pm_word_of an_word_of cd_word_of ct_word_of)
  d_word_of := ⟨FB l_word_of c_word_of, PySem.W.mg_of X G a_word_of, k_word_of⟩
  b_word_of := (FB (st := top 38) l_word_of c_word_of).binds rfl fun _ _ _ _ _ _ us hl => match us, hl with | [_, _, _], _ => rfl
  f_cornered := f_cornered
  fd_cornered := (PySem.W.fnOf "cornered" "cornered" (C8.fnArgs (top 39)) (C8.fnBody (top 39)) (C8.fnScope (top 39)) .none kV_cornered dc_cornered pm_cornered an_cornered cd_cornered ct_cornered)
  d_cornered := ⟨FB l_cornered c_cornered, PySem.W.mg_of X G a_cornered, k_cornered⟩
  b_cornered := (FB (st := top 39) l_cornered c_cornered).binds rfl fun _ _ _ _ _ _ us hl => match us, hl with | [_, _, _, _], _ => rfl
  f_plain := f_plain
  fd_plain := (PySem.W.fnOf "plain" "plain" (C8.fnArgs (top 40)) (C8.fnBody (top 40)) (C8.fnScope (top 40)) .none kV_plain dc_plain pm_plain an_plain cd_plain ct_plain)
  d_plain := ⟨FB l_plain c_plain, PySem.W.mg_of X G a_plain, k_plain⟩
  b_plain := (FB (st := top 40) l_plain c_plain).binds rfl fun _ _ _ _ _ _ us hl => match us, hl with | [_, _], _ => rfl
  f_stairs_count := f_stairs_count
  fd_stairs_count := (PySem.W.fnOf "stairs_count" "stairs_count" (C8.fnArgs (top 42)) (C8.fnBody (top 42)) (C8.fnScope (top 42)) .none kV_stairs_count dc_stairs_count pm_stairs_count an_stairs_count cd_stairs_count ct_stairs_count)
  d_stairs_count := ⟨FB l_stairs_count c_stairs_count, PySem.W.mg_of X G a_stairs_count, k_stairs_count⟩
  b_stairs_count := (FB (st := top 42) l_stairs_count c_stairs_count).binds rfl fun _ _ _ _ _ _ us hl => match us, hl with | [_, _], _ => rfl
  f_plain_count := f_plain_count
  fd_plain_count := (PySem.W.fnOf "plain_count" "plain_count" (C8.fnArgs (top 43)) (C8.fnBody (top 43)) (C8.fnScope (top 43)) .none kV_plain_count dc_plain_count pm_plain_count an_plain_count cd_plain_count ct_plain_count)
  d_plain_count := ⟨FB l_plain_count c_plain_count, PySem.W.mg_of X G a_plain_count, k_plain_count⟩
  b_plain_count := (FB (st := top 43) l_plain_count c_plain_count).binds rfl fun _ _ _ _ _ _ us hl => match us, hl with | [_, _], _ => rfl
  f_law_cell := f_law_cell
  fd_law_cell := (PySem.W.fnOf "_law_cell" "_law_cell" (C8.fnArgs (top 46)) (C8.fnBody (top 46)) (C8.fnScope (top 46)) .none kV_law_cell dc_law_cell pm_law_cell an_law_cell cd_law_cell ct_law_cell)
  d_law_cell := ⟨FB l_law_cell c_law_cell, PySem.W.mg_of X G a_law_cell, k_law_cell⟩
  b_law_cell := (FB (st := top 46) l_law_cell c_law_cell).binds rfl fun _ _ _ _ _ _ us hl => match us, hl with | [_, _], _ => rfl
  f_law_box := f_law_box
  fd_law_box := (PySem.W.fnOf "_law_box" "_law_box" (C8.fnArgs (top 47)) (C8.fnBody (top 47)) (C8.fnScope (top 47)) .none kV_law_box dc_law_box pm_law_box an_law_box cd_law_box ct_law_box)
  d_law_box := ⟨FB l_law_box c_law_box, PySem.W.mg_of X G a_law_box, k_law_box⟩
  b_law_box := (FB (st := top 47) l_law_box c_law_box).binds rfl fun _ _ _ _ _ _ us hl => match us, hl with | [_], _ => rfl
  f_law_take := f_law_take
  fd_law_take := (PySem.W.fnOf "_law_take" "_law_take" (C8.fnArgs (top 48)) (C8.fnBody (top 48)) (C8.fnScope (top 48)) .none kV_law_take dc_law_take pm_law_take an_law_take cd_law_take ct_law_take)
  d_law_take := ⟨FB l_law_take c_law_take, PySem.W.mg_of X G a_law_take, k_law_take⟩
  b_law_take := (FB (st := top 48) l_law_take c_law_take).binds rfl fun _ _ _ _ _ _ us hl => match us, hl with | [_, _], _ => rfl
  f_law_pattern := f_law_pattern
  fd_law_pattern := (PySem.W.fnOf "_law_pattern" "_law_pattern" (C8.fnArgs (top 49)) (C8.fnBody (top 49)) (C8.fnScope (top 49)) .none kV_law_pattern dc_law_pattern pm_law_pattern an_law_pattern cd_law_pattern ct_law_pattern)
  d_law_pattern := ⟨FB l_law_pattern c_law_pattern, PySem.W.mg_of X G a_law_pattern, k_law_pattern⟩
  b_law_pattern := (FB (st := top 49) l_law_pattern c_law_pattern).binds rfl fun _ _ _ _ _ _ us hl => match us, hl with | [_, _], _ => rfl
  f_law_bars := f_law_bars
  fd_law_bars := (PySem.W.fnOf "_law_bars" "_law_bars" (C8.fnArgs (top 50)) (C8.fnBody (top 50)) (C8.fnScope (top 50)) .none kV_law_bars dc_law_bars pm_law_bars an_law_bars cd_law_bars ct_law_bars)
  d_law_bars := ⟨FB l_law_bars c_law_bars, PySem.W.mg_of X G a_law_bars, k_law_bars⟩
  b_law_bars := (FB (st := top 50) l_law_bars c_law_bars).binds rfl fun _ _ _ _ _ _ us hl => match us, hl with | [_], _ => rfl
  f_law_shape := f_law_shape
  fd_law_shape := (PySem.W.fnOf "_law_shape" "_law_shape" (C8.fnArgs (top 51)) (C8.fnBody (top 51)) (C8.fnScope (top 51)) .none kV_law_shape dc_law_shape pm_law_shape an_law_shape cd_law_shape ct_law_shape)
  d_law_shape := ⟨FB l_law_shape c_law_shape, PySem.W.mg_of X G a_law_shape, k_law_shape⟩
  b_law_shape := (FB (st := top 51) l_law_shape c_law_shape).binds rfl fun _ _ _ _ _ _ us hl => match us, hl with | [_, _, _, _], _ => rfl
  f_law_place := f_law_place
  fd_law_place := (PySem.W.fnOf "_law_place" "_law_place" (C8.fnArgs (top 52)) (C8.fnBody (top 52)) (C8.fnScope (top 52)) .none kV_law_place dc_law_place pm_law_place an_law_place cd_law_place ct_law_place)
  d_law_place := ⟨FB l_law_place c_law_place, PySem.W.mg_of X G a_law_place, k_law_place⟩
  b_law_place := (FB (st := top 52) l_law_place c_law_place).binds rfl fun _ _ _ _ _ _ us hl => match us, hl with | [_], _ => rfl
  f_law_word := f_law_word
  fd_law_word := (PySem.W.fnOf "_law_word" "_law_word" (C8.fnArgs (top 53)) (C8.fnBody (top 53)) (C8.fnScope (top 53)) .none kV_law_word dc_law_word pm_law_word an_law_word cd_law_word ct_law_word)
  d_law_word := ⟨FB l_law_word c_law_word, PySem.W.mg_of X G a_law_word, k_law_word⟩
  b_law_word := (FB (st := top 53) l_law_word c_law_word).binds rfl fun _ _ _ _ _ _ us hl => match us, hl with | [_], _ => rfl
  f_law_mark := f_law_mark
  fd_law_mark := (PySem.W.fnOf "_law_mark" "_law_mark" (C8.fnArgs (top 54)) (C8.fnBody (top 54)) (C8.fnScope (top 54)) .none kV_law_mark dc_law_mark pm_law_mark an_law_mark cd_law_mark ct_law_mark)
  d_law_mark := ⟨FB l_law_mark c_law_mark, PySem.W.mg_of X G a_law_mark, k_law_mark⟩
  b_law_mark := (FB (st := top 54) l_law_mark c_law_mark).binds rfl fun _ _ _ _ _ _ us hl => match us, hl with | [_, _, _], _ => rfl
  f_law_marks := f_law_marks
  fd_law_marks := (PySem.W.fnOf "_law_marks" "_law_marks" (C8.fnArgs (top 55)) (C8.fnBody (top 55)) (C8.fnScope (top 55)) .none kV_law_marks dc_law_marks pm_law_marks an_law_marks cd_law_marks ct_law_marks)
  d_law_marks := ⟨FB l_law_marks c_law_marks, PySem.W.mg_of X G a_law_marks, k_law_marks⟩
  b_law_marks := (FB (st := top 55) l_law_marks c_law_marks).binds rfl fun _ _ _ _ _ _ us hl => match us, hl with | [_, _], _ => rfl
  f_law_births := f_law_births
  fd_law_births := (PySem.W.fnOf "_law_births" "_law_births" (C8.fnArgs (top 56)) (C8.fnBody (top 56)) (C8.fnScope (top 56)) .none kV_law_births dc_law_births pm_law_births an_law_births cd_law_births ct_law_births)
  d_law_births := ⟨FB l_law_births c_law_births, PySem.W.mg_of X G a_law_births, k_law_births⟩
  b_law_births := (FB (st := top 56) l_law_births c_law_births).binds rfl fun _ _ _ _ _ _ us hl => match us, hl with | [_, _], _ => rfl
  f_law_about := f_law_about
  fd_law_about := (PySem.W.fnOf "_law_about" "_law_about" (C8.fnArgs (top 57)) (C8.fnBody (top 57)) (C8.fnScope (top 57)) .none kV_law_about dc_law_about pm_law_about an_law_about cd_law_about ct_law_about)
  d_law_about := ⟨FB l_law_about c_law_about, PySem.W.mg_of X G a_law_about, k_law_about⟩
  b_law_about := (FB (st := top 57) l_law_about c_law_about).binds rfl fun _ _ _ _ _ _ us hl => match us, hl with | [_], _ => rfl
  f_law_lasts := f_law_lasts
  fd_law_lasts := (PySem.W.fnOf "_law_lasts" "_law_lasts" (C8.fnArgs (top 58)) (C8.fnBody (top 58)) (C8.fnScope (top 58)) .none kV_law_lasts dc_law_lasts pm_law_lasts an_law_lasts cd_law_lasts ct_law_lasts)
  d_law_lasts := ⟨FB l_law_lasts c_law_lasts, PySem.W.mg_of X G a_law_lasts, k_law_lasts⟩
  b_law_lasts := (FB (st := top 58) l_law_lasts c_law_lasts).binds rfl fun _ _ _ _ _ _ us hl => match us, hl with | [_, _], _ => rfl
  f_law_stair := f_law_stair
  fd_law_stair := (PySem.W.fnOf "_law_stair" "_law_stair" (C8.fnArgs (top 59)) (C8.fnBody (top 59)) (C8.fnScope (top 59)) .none kV_law_stair dc_law_stair pm_law_stair an_law_stair cd_law_stair ct_law_stair)
  d_law_stair := ⟨FB l_law_stair c_law_stair, PySem.W.mg_of X G a_law_stair, k_law_stair⟩
  b_law_stair := (FB (st := top 59) l_law_stair c_law_stair).binds rfl fun _ _ _ _ _ _ us hl => match us, hl with | [_, _], _ => rfl
  f_law_stairs := f_law_stairs
  fd_law_stairs := (PySem.W.fnOf "_law_stairs" "_law_stairs" (C8.fnArgs (top 60)) (C8.fnBody (top 60)) (C8.fnScope (top 60)) .none kV_law_stairs dc_law_stairs pm_law_stairs an_law_stairs cd_law_stairs ct_law_stairs)
  d_law_stairs := ⟨FB l_law_stairs c_law_stairs, PySem.W.mg_of X G a_law_stairs, k_law_stairs⟩
  b_law_stairs := (FB (st := top 60) l_law_stairs c_law_stairs).binds rfl fun _ _ _ _ _ _ us hl => match us, hl with | [_, _], _ => rfl
  f_law_choices := f_law_choices
  fd_law_choices := (PySem.W.fnOf "_law_choices" "_law_choices" (C8.fnArgs (top 61)) (C8.fnBody (top 61)) (C8.fnScope (top 61)) .none kV_law_choices dc_law_choices pm_law_choices an_law_choices cd_law_choices ct_law_choices)
  d_law_choices := ⟨FB l_law_choices c_law_choices, PySem.W.mg_of X G a_law_choices, k_law_choices⟩
  b_law_choices := (FB (st := top 61) l_law_choices c_law_choices).binds rfl fun _ _ _ _ _ _ us hl => match us, hl with | [_, _], _ => rfl
  f_law_all_right := f_law_all_right
  fd_law_all_right := (PySem.W.fnOf "_law_all_right" "_law_all_right" (C8.fnArgs (top 62)) (C8.fnBody (top 62)) (C8.fnScope (top 62)) .none kV_law_all_right dc_law_all_right pm_law_all_right an_law_all_right cd_law_all_right ct_law_all_right)
  d_law_all_right := ⟨FB l_law_all_right c_law_all_right, PySem.W.mg_of X G a_law_all_right, k_law_all_right⟩
  b_law_all_right := (FB (st := top 62) l_law_all_right c_law_all_right).binds rfl fun _ _ _ _ _ _ us hl => match us, hl with | [_, _], _ => rfl
  f_law_lattice_right := f_law_lattice_right
  fd_law_lattice_right := (PySem.W.fnOf "_law_lattice_right" "_law_lattice_right" (C8.fnArgs (top 63)) (C8.fnBody (top 63)) (C8.fnScope (top 63)) .none kV_law_lattice_right dc_law_lattice_right pm_law_lattice_right an_law_lattice_right cd_law_lattice_right ct_law_lattice_right)
  d_law_lattice_right := ⟨FB l_law_lattice_right c_law_lattice_right, PySem.W.mg_of X G a_law_lattice_right, k_law_lattice_right⟩
  b_law_lattice_right := (FB (st := top 63) l_law_lattice_right c_law_lattice_right).binds rfl fun _ _ _ _ _ _ us hl => match us, hl with | [_, _, _], _ => rfl
  f_law := f_law
  fd_law := (PySem.W.fnOf "law" "law" (C8.fnArgs (top 64)) (C8.fnBody (top 64)) (C8.fnScope (top 64)) .none kV_law dc_law pm_law an_law cd_law ct_law)
  d_law := ⟨FB l_law c_law, PySem.W.mg_of X G a_law, k_law⟩
  b_law := (FB (st := top 64) l_law c_law).binds rfl fun _ _ _ _ _ _ us hl => match us, hl with | [_], _ => rfl
  f_stairs := f_stairs
  fd_stairs := (PySem.W.fnOf "stairs" "stairs" (C8.fnArgs (top 41)) (C8.fnBody (top 41)) (C8.fnScope (top 41)) .none kV_stairs dc_stairs pm_stairs an_stairs cd_stairs ct_stairs)
  d_stairs := ⟨FB l_stairs c_stairs, PySem.W.mg_of X G a_stairs, k_stairs⟩
  b_stairs := (FB (st := top 41) l_stairs c_stairs).binds rfl fun _ _ _ _ _ _ us hl => match us, hl with | [_, _], _ => rfl
  f_plain_words := f_plain_words
  fd_plain_words := (PySem.W.fnOf "plain_words" "plain_words" (C8.fnArgs (top 44)) (C8.fnBody (top 44)) (C8.fnScope (top 44)) .none kV_plain_words dc_plain_words pm_plain_words an_plain_words cd_plain_words ct_plain_words)
  d_plain_words := ⟨FB l_plain_words c_plain_words, PySem.W.mg_of X G a_plain_words, k_plain_words⟩
  b_plain_words := (FB (st := top 44) l_plain_words c_plain_words).binds rfl fun _ _ _ _ _ _ us hl => match us, hl with | [_, _], _ => rfl
  f_need_fitting := f_need_fitting
  fd_need_fitting := (PySem.W.fnOf "need_fitting" "need_fitting" (C8.fnArgs (top 24)) (C8.fnBody (top 24)) (C8.fnScope (top 24)) .none kV_need_fitting dc_need_fitting pm_need_fitting an_need_fitting cd_need_fitting ct_need_fitting)
  d_need_fitting := ⟨FB l_need_fitting c_need_fitting, PySem.W.mg_of X G a_need_fitting, k_need_fitting⟩
  df_need_fitting := rfl
end WK
end
section
set_option maxRecDepth 100000
set_option maxHeartbeats 1000000
namespace WK
open PySem PySem.Spec PyProof.Rows L2 FU
open Evl (Ex)

section
variable {X : Cx} {σ : L2.St} {H : Hp} {e a b : Expr} {es : List Expr} {P : Wd} {Ps : List Wd} {pos px : Pos} {x : Str}
/-- f(..), no defaults -/
theorem x_cal {k j : Nat} {C : Ct} (c : C8.Cal X.prog X.w X.K X.mg X.base k x (spC C) []) (hr : Room j X.A) (ha : EvA X (e :: es) σ H Ps) (h : ∀ vs H1, Ex H H1 → Alls Ps vs H1 → C vs H1 P) (hk : k ≤ j := by omega) (hg : Gl X x := by rfl)
    (hdb : (x == ("__debug__" : Str)) = false := by decide) (he : starEach (e :: es) X.env = (false, eval e X.env) :: starEach es X.env := by rfl) (hpl : (backTo pos (starEach es X.env)).any (·.1) = false := by rfl) : EvE X (.Call (.Name x px) (e :: es) [] pos) σ H P :=
  x_call c hr ha (fun vs H1 e1 hv => by rw [List.append_nil]; exact h vs H1 e1 hv) hk hg hdb he hpl
/-- a built-in type as a value -/
theorem x_ty {T : String} (hm : X.mg x = none) (hv : bootBuiltins x = some (.type T)) (hg : Gl X x := by rfl) (hn : x ≠ "__name__" := by decide) (hd : (x == ("__debug__" : Str)) = false := by decide) : EvE X (.Name x pos) σ H (isv (.ty T)) := .of (pe_bltn (v := .ty T) hg hm hv rfl hn hd) fun H1 _ Q q => q _ H1 (Ex.refl _) rfl
theorem x_isi {v : V} {T t : String} {r : Bool} (hm : X.mg "isinstance" = none) (ha : EvE X a σ H (isv v)) (hb : EvE X b σ H (isv (.ty T))) (ht : ∀ H1, TyX X.K H1 v (.type t)) (hk : kitB t T = some r) (hg : Gl X "isinstance" := by rfl) (hs : starEach [a, b] X.env = (false, eval a X.env) :: starEach [b] X.env := by rfl) (hs2 : starEach [b] X.env = (false, eval b X.env) :: starEach [] X.env := by rfl) (hpl : (backTo pos (starEach [b] X.env)).any (·.1) = false := by rfl) :
    EvE X (.Call (.Name "isinstance" px) [a, b] [] pos) σ H (isB r) :=
  x_blt call_isi hm (a_cons ha (a_cons hb a_nil hs2) hs) (fun vs H1 _ hv Q q => ⟨v, .ty T, .type t, .type T, r, (Alls.isv (xs := [v, .ty T])).mp hv, .ty T, ht H1, kit_ty hk, q _ H1 (Ex.refl _) rfl⟩) (by decide +kernel) hg (by decide) (by decide) hs hpl
end

section
variable {P : Program} {w : World} {K : PySem.W.Frag} {mg : Str → Option Value} {base : Heap}
/-! ### is_integer -/
def ctIsInt : Ct := fun vs H P => ∃ i lo hi : Int, vs = [.int i, .int lo, .int hi] ∧ P = isB (decide (lo ≤ i) && decide (i ≤ hi))
theorem sc_isint : FnScope ["value", "low", "high"] ["value", "low", "high"] (C8.fnScope (top 9)) := C8.fnScope_by (by decide +kernel)
theorem ok_isint (T : Fx K w mg) : C8.Cal P w K mg base 1 "is_integer" (spC ctIsInt) [] := by
  refine cal_of T.d_is_integer T.b_is_integer .nil sc_isint (fun vs H W ⟨_, _, _, e, _⟩ => by rw [e]; rfl) fun cdv A outer s H vs Q E W hr hC hQ => ?_
  obtain ⟨i, lo, hi, rfl, rfl⟩ := hC
  refine c_skip (t_or (t_not (t_val (x_isi (r := true) T.z_isinstance (x_var 0 rfl rfl) (x_ty T.z_int PyProof.Rows.boot_int) (fun _ => .base (.int i)) (by decide +kernel)))) fun _ => t_val (x_isi (r := false) T.z_isinstance (x_var 0 rfl rfl) (x_ty T.z_bool PyProof.Rows.boot_bool) (fun _ => .base (.int i)) (by decide +kernel))) fun H1 e1 => ?_
  refine c_ret (x_andB (x_orB (x_isN (x_var 1 rfl rfl) x_none) fun _ => x_ge (x_var 0 rfl rfl) (x_var 1 rfl rfl)) fun _ => x_orB (x_isN (x_var 2 rfl rfl) x_none) fun _ => x_le (x_var 0 rfl rfl) (x_var 2 rfl rfl)) fun v H2 e2 hv => ?_
  exact hQ v H2 (e1.trans e2) hv
end
end WK
end
section
/-! Mathematics of the words: no program in sight. -/
namespace MR

/-- a word (and the law's shape of it) -/
inductive W where
  | leaf (b : Bool) (p : Int)
  | rt (w : W)
  | lf (w : W)
  | add (x y : W)
  | meet (x y : W)
  deriving DecidableEq

def W.place : W → Int
  | .leaf _ p => p
  | .rt w => w.place + 1
  | .lf w => w.place - 1
  | .add x _ => x.place
  | .meet x _ => x.place
def W.parts : W → List W
  | .leaf _ _ => []
  | .rt w => [w]
  | .lf w => [w]
  | .add x y => [x, y]
  | .meet x y => [x, y]
def W.depth : W → Nat
  | .leaf _ _ => 0
  | .rt w => w.depth + 1
  | .lf w => w.depth + 1
  | .add x y => max x.depth y.depth + 1
  | .meet x y => max x.depth y.depth + 1
def W.low : W → Int
  | .leaf _ p => p
  | .rt w => min (w.place + 1) w.low
  | .lf w => min (w.place - 1) w.low
  | .add x y => min x.place (min x.low y.low)
  | .meet x y => min x.place (min x.low y.low)
/-- all places lie in 0 .. k, sums and meets are of one place -/
def Wf (k : Int) : W → Prop
  | .leaf _ p => 0 ≤ p ∧ p ≤ k
  | .rt w => Wf k w ∧ w.place + 1 ≤ k
  | .lf w => Wf k w ∧ 0 ≤ w.place - 1
  | .add x y => Wf k x ∧ Wf k y ∧ x.place = y.place
  | .meet x y => Wf k x ∧ Wf k y ∧ x.place = y.place
theorem Wf.pl {k : Int} : ∀ {w : W}, Wf k w → 0 ≤ w.place ∧ w.place ≤ k
  | .leaf _ _, h => h
  | .rt w, h => by have := Wf.pl h.1; have := h.2; simp only [W.place]; omega
  | .lf w, h => by have := Wf.pl h.1; have := h.2; simp only [W.place]; omega
  | .add x y, h => by simp only [W.place]; exact Wf.pl (w := x) (show Wf k x from h.1)
  | .meet x y, h => by simp only [W.place]; exact Wf.pl (w := x) (show Wf k x from h.1)
theorem Wf.mono {k m : Int} (hk : k ≤ m) : ∀ {w : W}, Wf k w → Wf m w
  | .leaf _ _, h => ⟨h.1, Int.le_trans h.2 hk⟩
  | .rt w, h => ⟨Wf.mono hk h.1, Int.le_trans h.2 hk⟩
  | .lf w, h => ⟨Wf.mono hk h.1, h.2⟩
  | .add x y, h => ⟨Wf.mono hk h.1, Wf.mono hk h.2.1, h.2.2⟩
  | .meet x y, h => ⟨Wf.mono hk h.1, Wf.mono hk h.2.1, h.2.2⟩

/-- the arrow with a number: true is > -/
def ar (pat : List Bool) (i : Int) : Bool := pat.getD i.toNat false

/-- a place is one of a bar's -/
def inB (a b p : Int) : Bool := decide (a ≤ p) && decide (p ≤ b)

/-- the mark of a word on a bar -/
def mkW (pat : List Bool) (a b : Int) : W → Bool
  | .leaf t p => inB a b p && t
  | .rt x => inB a b (x.place + 1) && (if inB a b x.place then mkW pat a b x else !ar pat x.place)
  | .lf x => inB a b (x.place - 1) && (if inB a b x.place then mkW pat a b x else ar pat (x.place - 1))
  | .add x y => inB a b x.place && (mkW pat a b x || mkW pat a b y)
  | .meet x y => inB a b x.place && (mkW pat a b x && mkW pat a b y)
theorem mkW_out {pat : List Bool} {a b : Int} {w : W} (h : inB a b w.place = false) : mkW pat a b w = false := by
  cases w <;> simp only [W.place] at h <;> simp [mkW, h]
def b2i (b : Bool) : Int := if b then 1 else 0

/-! ### births and ends, from the bottom to the top -/
def bth (pat : List Bool) : Nat → List Int
  | 0 => [0]
  | n + 1 => if ar pat n then bth pat n ++ [((n + 1 : Nat) : Int)] else ((n + 1 : Nat) : Int) :: bth pat n
/-- n steps down from the last place -/
def eds (pat : List Bool) : Nat → List Int
  | 0 => [(pat.length : Int)]
  | n + 1 => if ar pat ((pat.length : Int) - ((n + 1 : Nat) : Int)) then ((pat.length : Int) - ((n + 1 : Nat) : Int)) :: eds pat n else eds pat n ++ [(pat.length : Int) - ((n + 1 : Nat) : Int)]
theorem bth_len (pat : List Bool) : ∀ n, (bth pat n).length = n + 1
  | 0 => rfl
  | n + 1 => by
    unfold bth
    split <;> simp [bth_len pat n]
theorem eds_len (pat : List Bool) : ∀ n, (eds pat n).length = n + 1
  | 0 => rfl
  | n + 1 => by
    unfold eds
    split <;> simp [eds_len pat n]
theorem bth_mem (pat : List Bool) : ∀ {n : Nat} {a : Int}, a ∈ bth pat n ↔ 0 ≤ a ∧ a ≤ n
  | 0, a => by simp [bth]; omega
  | n + 1, a => by
    have ih := @bth_mem pat n a
    unfold bth
    have e : (0 ≤ a ∧ a ≤ (n : Int)) ∨ a = ((n + 1 : Nat) : Int) ↔ 0 ≤ a ∧ a ≤ ((n + 1 : Nat) : Int) := by omega
    split <;> simp only [List.mem_append, List.mem_cons, List.not_mem_nil, or_false, ih]
    · exact e
    · exact Or.comm.trans e
theorem eds_mem (pat : List Bool) : ∀ {n : Nat} {b : Int}, b ∈ eds pat n ↔ (pat.length : Int) - n ≤ b ∧ b ≤ pat.length
  | 0, b => by simp [eds]; omega
  | n + 1, b => by
    have ih := @eds_mem pat n b
    unfold eds
    have e : ((pat.length : Int) - n ≤ b ∧ b ≤ pat.length) ∨ b = (pat.length : Int) - ((n + 1 : Nat) : Int) ↔ (pat.length : Int) - ((n + 1 : Nat) : Int) ≤ b ∧ b ≤ pat.length := by omega
    split <;> simp only [List.mem_append, List.mem_cons, List.not_mem_nil, or_false, ih]
    · exact Or.comm.trans e
    · exact e
/-- strictly below, among the births; among the ends -/
def RB (pat : List Bool) (a a' : Int) : Prop := (a < a' ∧ ar pat (a' - 1) = true) ∨ (a' < a ∧ ar pat (a - 1) = false)
def RE (pat : List Bool) (b b' : Int) : Prop := (b < b' ∧ ar pat b = true) ∨ (b' < b ∧ ar pat b' = false)
theorem bth_pw (pat : List Bool) : ∀ n, (bth pat n).Pairwise (RB pat)
  | 0 => by simp [bth]
  | n + 1 => by
    have ih := bth_pw pat n
    unfold bth
    split
    · rename_i h
      refine List.pairwise_append.mpr ⟨ih, by simp, fun a ha c hc => ?_⟩
      have := (bth_mem pat).mp ha
      have e : c = ((n + 1 : Nat) : Int) := by simpa using hc
      subst e
      refine .inl ⟨by omega, ?_⟩
      have e : (((n + 1 : Nat) : Int) - 1) = (n : Int) := by omega
      rw [e]; exact h
    · rename_i h
      refine List.pairwise_cons.mpr ⟨fun a ha => ?_, ih⟩
      have := (bth_mem pat).mp ha
      refine .inr ⟨by omega, ?_⟩
      have e : (((n + 1 : Nat) : Int) - 1) = (n : Int) := by omega
      rw [e]; simpa using h
theorem eds_pw (pat : List Bool) : ∀ n, (eds pat n).Pairwise (RE pat)
  | 0 => by simp [eds]
  | n + 1 => by
    have ih := eds_pw pat n
    unfold eds
    split
    · rename_i h
      refine List.pairwise_cons.mpr ⟨fun b hb => ?_, ih⟩
      have := (eds_mem pat).mp hb
      exact .inl ⟨by omega, h⟩
    · rename_i h
      refine List.pairwise_append.mpr ⟨ih, by simp, fun b hb c hc => ?_⟩
      have := (eds_mem pat).mp hb
      have e : c = (pat.length : Int) - ((n + 1 : Nat) : Int) := by simpa using hc
      subst e
      exact .inr ⟨by omega, by simpa using h⟩

/-- whenever a mark is 1, so it is on each bar that holds the place and whose ends are not above -/
theorem dc {pat : List Bool} {k : Int} : ∀ {w : W}, Wf k w → ∀ {a a' b b' : Int}, 0 ≤ a → a ≤ w.place → 0 ≤ a' → a' ≤ w.place → w.place ≤ b → w.place ≤ b' → (a' = a ∨ RB pat a' a) → (b' = b ∨ RE pat b' b) → mkW pat a b w = true → mkW pat a' b' w = true
  | .leaf t p, _, a, a', b, b', h1, h2, h3, h4, h5, h6, _, _, hm => by
    simp only [W.place] at h2 h4 h5 h6
    simp only [mkW, inB, Bool.and_eq_true, decide_eq_true_eq] at hm ⊢
    exact ⟨⟨h4, h6⟩, hm.2⟩
  | .add x y, w, a, a', b, b', h1, h2, h3, h4, h5, h6, ha, hb, hm => by
    simp only [W.place] at h2 h4 h5 h6
    have hp : x.place = y.place := w.2.2
    simp only [mkW, inB, Bool.and_eq_true, Bool.or_eq_true, decide_eq_true_eq] at hm ⊢
    refine ⟨⟨h4, h6⟩, ?_⟩
    rcases hm.2 with q | q
    · exact .inl (dc w.1 h1 h2 h3 h4 h5 h6 ha hb q)
    · exact .inr (dc w.2.1 h1 (by omega) h3 (by omega) (by omega) (by omega) ha hb q)
  | .meet x y, w, a, a', b, b', h1, h2, h3, h4, h5, h6, ha, hb, hm => by
    simp only [W.place] at h2 h4 h5 h6
    have hp : x.place = y.place := w.2.2
    simp only [mkW, inB, Bool.and_eq_true, decide_eq_true_eq] at hm ⊢
    exact ⟨⟨h4, h6⟩, dc w.1 h1 h2 h3 h4 h5 h6 ha hb hm.2.1, dc w.2.1 h1 (by omega) h3 (by omega) (by omega) (by omega) ha hb hm.2.2⟩
  | .rt x, w, a, a', b, b', h1, h2, h3, h4, h5, h6, ha, hb, hm => by
    simp only [W.place] at h2 h4 h5 h6
    have hx := Wf.pl w.1
    simp only [mkW, Bool.and_eq_true] at hm ⊢
    refine ⟨by simp [inB]; omega, ?_⟩
    have hm := hm.2
    by_cases c : a ≤ x.place
    · have e : inB a b x.place = true := by simp [inB]; omega
      rw [if_pos e] at hm
      by_cases c' : a' ≤ x.place
      · have e' : inB a' b' x.place = true := by simp [inB]; omega
        rw [if_pos e']
        exact dc w.1 h1 c h3 c' (by omega) (by omega) ha hb hm
      · have e' : ¬ inB a' b' x.place = true := by simp [inB]; omega
        rw [if_neg e']
        have q : a' = x.place + 1 := by omega
        rcases ha with ha | ha | ha
        · omega
        · omega
        · have : a' - 1 = x.place := by omega
          rw [this] at ha; simp [ha.2]
    · have e : ¬ inB a b x.place = true := by simp [inB]; omega
      rw [if_neg e] at hm
      have q : a = x.place + 1 := by omega
      by_cases c' : a' ≤ x.place
      · rcases ha with ha | ha | ha
        · omega
        · have : a - 1 = x.place := by omega
          rw [this] at ha
          rw [ha.2] at hm; cases hm
        · omega
      · have e' : ¬ inB a' b' x.place = true := by simp [inB]; omega
        rw [if_neg e']; exact hm
  | .lf x, w, a, a', b, b', h1, h2, h3, h4, h5, h6, ha, hb, hm => by
    simp only [W.place] at h2 h4 h5 h6
    have hx := Wf.pl w.1
    simp only [mkW, Bool.and_eq_true] at hm ⊢
    refine ⟨by simp [inB]; omega, ?_⟩
    have hm := hm.2
    by_cases c : x.place ≤ b
    · have e : inB a b x.place = true := by simp [inB]; omega
      rw [if_pos e] at hm
      by_cases c' : x.place ≤ b'
      · have e' : inB a' b' x.place = true := by simp [inB]; omega
        rw [if_pos e']
        exact dc w.1 h1 (by omega) h3 (by omega) c c' ha hb hm
      · have e' : ¬ inB a' b' x.place = true := by simp [inB]; omega
        rw [if_neg e']
        have q : b' = x.place - 1 := by omega
        rcases hb with hb | hb | hb
        · omega
        · rw [q] at hb; exact hb.2
        · omega
    · have e : ¬ inB a b x.place = true := by simp [inB]; omega
      rw [if_neg e] at hm
      have q : b = x.place - 1 := by omega
      by_cases c' : x.place ≤ b'
      · rcases hb with hb | hb | hb
        · omega
        · omega
        · rw [q] at hb; rw [hb.2] at hm; cases hm
      · have e' : ¬ inB a' b' x.place = true := by simp [inB]; omega
        rw [if_neg e']; exact hm
end MR
end
section
namespace MR
/-! ### prefixes: where a mark falls off it stays off -/
theorem count_prefix {f : Int → Bool} : ∀ {E : List Int}, E.Pairwise (fun b b' => f b' = true → f b = true) → ∀ (j : Nat) (h : j < E.length), f E[j] = decide (j < E.countP f)
  | [], _, j, h => absurd h (Nat.not_lt_zero _)
  | b :: E, pw, j, h => by
    obtain ⟨h1, h2⟩ := List.pairwise_cons.mp pw
    by_cases c : f b = true
    · rw [List.countP_cons_of_pos c]
      cases j with
      | zero => simp [c]
      | succ j =>
        have := count_prefix h2 j (by simpa using h)
        simp only [List.getElem_cons_succ, this]
        simp
    · have z : E.countP f = 0 := List.countP_eq_zero.mpr fun a ha q => c (h1 a ha q)
      rw [List.countP_cons_of_neg c, z]
      cases j with
      | zero => simpa using c
      | succ j =>
        simp only [List.getElem_cons_succ]
        have hm : E[j]'(by simpa using h) ∈ E := List.getElem_mem _
        have : ¬ f (E[j]'(by simpa using h)) = true := fun q => c (h1 _ hm q)
        simpa using this

/-- the ends at a place, from the bottom to the top -/
def endsL (pat : List Bool) (p : Int) : List Int := eds pat ((pat.length : Int) - p).toNat
def birthsL (pat : List Bool) (p : Int) : List Int := bth pat p.toNat
theorem birthsL_mem {pat : List Bool} {p a : Int} (h : 0 ≤ p) : a ∈ birthsL pat p ↔ 0 ≤ a ∧ a ≤ p := by
  unfold birthsL; rw [bth_mem]; omega
theorem endsL_mem {pat : List Bool} {p b : Int} (h : p ≤ pat.length) : b ∈ endsL pat p ↔ p ≤ b ∧ b ≤ pat.length := by
  unfold endsL; rw [eds_mem]; omega
/-- in a row of the births: how many marks are 1 -/
def rowN (pat : List Bool) (w : W) (a : Int) : Nat := (endsL pat w.place).countP fun b => mkW pat a b w
def stairW (pat : List Bool) (w : W) : List Int := (birthsL pat w.place).map fun a => (rowN pat w a : Int)

section
variable {pat : List Bool} {w v : W}
theorem row_pw (h : Wf pat.length w) {a : Int} (ha : 0 ≤ a) (ha' : a ≤ w.place) : (endsL pat w.place).Pairwise fun b b' => mkW pat a b' w = true → mkW pat a b w = true := by
  have hp := Wf.pl h
  refine (List.Pairwise.imp_of_mem (R := RE pat) ?_ (eds_pw pat _))
  intro b b' hb hb' r q
  have m1 := (endsL_mem (pat := pat) hp.2).mp hb
  have m2 := (endsL_mem (pat := pat) hp.2).mp hb'
  exact dc h ha ha' ha ha' m2.1 m1.1 (.inl rfl) (.inr r) q
/-- a mark by its row's number -/
theorem mk_row (h : Wf pat.length w) {a : Int} (ha : 0 ≤ a) (ha' : a ≤ w.place) (j : Nat) (hj : j < (endsL pat w.place).length) : mkW pat a ((endsL pat w.place)[j]) w = decide (j < rowN pat w a) :=
  count_prefix (f := fun b => mkW pat a b w) (row_pw h ha ha') j hj
theorem row_le (w : W) (a : Int) : rowN pat w a ≤ (endsL pat w.place).length := List.countP_le_length
/-- marks are told by the stair -/
theorem mk_of_rows (h : Wf pat.length w) (h' : Wf pat.length v) (hp : w.place = v.place) (hr : ∀ a, 0 ≤ a → a ≤ w.place → rowN pat w a ≤ rowN pat v a) {a b : Int} (ha : 0 ≤ a) (hb : b ≤ pat.length) (hm : mkW pat a b w = true) : mkW pat a b v = true := by
  by_cases c : inB a b w.place = true
  · have c' : a ≤ w.place ∧ w.place ≤ b := by simpa [inB] using c
    have pl := Wf.pl h
    have mb : b ∈ endsL pat w.place := (endsL_mem pl.2).mpr ⟨c'.2, hb⟩
    obtain ⟨j, hj, e⟩ := List.mem_iff_getElem.mp mb
    have q1 := mk_row h ha c'.1 j hj
    have hj' : j < (endsL pat v.place).length := by rw [← hp]; exact hj
    have q2 := mk_row h' ha (by rw [← hp]; exact c'.1) j hj'
    have e2 : (endsL pat v.place)[j] = b := by
      have : ∀ {x y : Int} (hxy : x = y) (h1 : j < (endsL pat x).length) (h2 : j < (endsL pat y).length), (endsL pat x)[j] = (endsL pat y)[j] := by
        intro x y hxy h1 h2; subst hxy; rfl
      rw [← this hp hj hj', e]
    rw [e] at q1
    rw [e2] at q2
    rw [hm] at q1
    have := hr a ha c'.1
    have q1' := of_decide_eq_true q1.symm
    rw [q2]
    exact decide_eq_true (Nat.lt_of_lt_of_le q1' this)
  · have := mkW_out (pat := pat) (a := a) (b := b) (w := w) (by simpa using c)
    rw [this] at hm; cases hm
theorem stair_get {p : Int} (hp : w.place = p) : stairW pat w = (birthsL pat p).map fun a => (rowN pat w a : Int) := by subst hp; rfl
theorem rows_of_stair (hp : w.place = v.place) (h0 : 0 ≤ w.place) (e : stairW pat w = stairW pat v) : ∀ a, 0 ≤ a → a ≤ w.place → rowN pat w a = rowN pat v a := by
  intro a ha ha'
  rw [stair_get hp, stair_get (w := v) rfl] at e
  have := (List.map_inj_left.mp e) a ((birthsL_mem (by omega)).mpr ⟨ha, by omega⟩)
  exact_mod_cast this
theorem mk_eq_of_stair (h : Wf pat.length w) (h' : Wf pat.length v) (hp : w.place = v.place) (e : stairW pat w = stairW pat v) {a b : Int} (ha : 0 ≤ a) (hb : b ≤ pat.length) : mkW pat a b w = mkW pat a b v := by
  have r := rows_of_stair hp (Wf.pl h).1 e
  rw [Bool.eq_iff_iff]
  exact ⟨mk_of_rows h h' hp (fun a q1 q2 => Nat.le_of_eq (r a q1 q2)) ha hb, mk_of_rows h' h hp.symm (fun a q1 q2 => Nat.le_of_eq (r a q1 (by omega)).symm) ha hb⟩
theorem stair_of_mk (hp : w.place = v.place) (h : ∀ a b, mkW pat a b w = mkW pat a b v) : stairW pat w = stairW pat v := by
  rw [stair_get hp, stair_get (w := v) rfl]
  refine List.map_congr_left fun a _ => ?_
  unfold rowN
  rw [hp]
  congr 2
  exact funext fun b => h a b
end

/-! ### all stairs -/
/-- 0, 1, .. m -/
def upTo (m : Int) : List Int := (List.range (m + 1).toNat).map fun (i : Nat) => (i : Int)
theorem mem_upTo {m x : Int} : x ∈ upTo m ↔ 0 ≤ x ∧ x ≤ m := by
  unfold upTo
  simp only [List.mem_map, List.mem_range]
  constructor
  · rintro ⟨i, h, rfl⟩; omega
  · rintro ⟨h1, h2⟩; exact ⟨x.toNat, by omega, by omega⟩
def stairsL : Nat → Int → List (List Int)
  | 0, _ => [[]]
  | n + 1, m => (upTo m).flatMap fun f => (stairsL n f).map fun r => f :: r
theorem mem_stairs : ∀ {n : Nat} {m : Int} {l : List Int}, l ∈ stairsL n m ↔ l.length = n ∧ l.Pairwise (fun x y => y ≤ x) ∧ ∀ x ∈ l, 0 ≤ x ∧ x ≤ m
  | 0, m, l => by
    simp only [stairsL, List.mem_singleton]
    constructor
    · rintro rfl; simp
    · rintro ⟨h, _⟩; exact List.length_eq_zero_iff.mp h
  | n + 1, m, l => by
    simp only [stairsL, List.mem_flatMap, List.mem_map, mem_upTo]
    constructor
    · rintro ⟨f, ⟨f0, f1⟩, r, hr, rfl⟩
      obtain ⟨h1, h2, h3⟩ := mem_stairs.mp hr
      refine ⟨by simp [h1], List.pairwise_cons.mpr ⟨fun x hx => (h3 x hx).2, h2⟩, fun x hx => ?_⟩
      rcases List.mem_cons.mp hx with rfl | hx
      · exact ⟨f0, f1⟩
      · have := h3 x hx; omega
    · rintro ⟨h1, h2, h3⟩
      cases l with
      | nil => simp at h1
      | cons f r =>
        obtain ⟨p1, p2⟩ := List.pairwise_cons.mp h2
        have hf := h3 f List.mem_cons_self
        exact ⟨f, hf, r, mem_stairs.mpr ⟨by simpa using h1, p2, fun x hx => ⟨(h3 x (List.mem_cons_of_mem _ hx)).1, p1 x hx⟩⟩, rfl⟩

theorem stair_mem {pat : List Bool} {w : W} (h : Wf pat.length w) : stairW pat w ∈ stairsL (w.place.toNat + 1) ((pat.length : Int) - w.place + 1) := by
  have hp := Wf.pl h
  refine mem_stairs.mpr ⟨by simp [stairW, birthsL, bth_len], ?_, fun x hx => ?_⟩
  · unfold stairW
    rw [List.pairwise_map]
    refine List.Pairwise.imp_of_mem (R := RB pat) ?_ (bth_pw pat _)
    intro a a' ha ha' r
    have m1 := (birthsL_mem (pat := pat) hp.1).mp ha
    have m2 := (birthsL_mem (pat := pat) hp.1).mp ha'
    have : rowN pat w a' ≤ rowN pat w a := by
      refine List.countP_mono_left fun b hb q => ?_
      have mb := (endsL_mem (pat := pat) hp.2).mp hb
      exact dc h m2.1 m2.2 m1.1 m1.2 mb.1 mb.1 (.inr r) (.inl rfl) q
    show (rowN pat w a' : Int) ≤ rowN pat w a
    omega
  · obtain ⟨a, _, rfl⟩ := List.mem_map.mp hx
    have := row_le (pat := pat) w a
    rw [endsL, eds_len] at this
    omega
end MR
end
section
namespace MR
/-! ### the plain words -/
def lws (pat : List Bool) : Nat → List W
  | 0 => [.leaf false 0, .leaf true 0]
  | n + 1 => W.leaf false ((n + 1 : Nat) : Int) :: ((if ar pat n then ((lws pat n).map W.rt).tail else ((lws pat n).map W.rt).dropLast) ++ [W.leaf true ((n + 1 : Nat) : Int)])
/-- n steps down from the last place -/
def rws (pat : List Bool) : Nat → List W
  | 0 => [.leaf false pat.length, .leaf true pat.length]
  | n + 1 => W.leaf false ((pat.length : Int) - ((n + 1 : Nat) : Int)) :: ((if ar pat ((pat.length : Int) - ((n + 1 : Nat) : Int)) then ((rws pat n).map W.lf).dropLast else ((rws pat n).map W.lf).tail) ++ [W.leaf true ((pat.length : Int) - ((n + 1 : Nat) : Int))])
theorem lws_len (pat : List Bool) : ∀ n, (lws pat n).length = n + 2
  | 0 => rfl
  | n + 1 => by
    unfold lws
    have := lws_len pat n
    split <;> simp [this]
theorem rws_len (pat : List Bool) : ∀ n, (rws pat n).length = n + 2
  | 0 => rfl
  | n + 1 => by
    unfold rws
    have := rws_len pat n
    split <;> simp [this]

/-- w holds just the i lowest births at its place p -/
structure LeftW (pat : List Bool) (n i : Nat) (w : W) : Prop where
  wf : Wf pat.length w
  pl : w.place = n
  mrk : ∀ (j : Nat) (hj : j < (bth pat n).length) (b : Int), (n : Int) ≤ b → mkW pat ((bth pat n)[j]) b w = decide (j < i)
theorem lws_mk {pat : List Bool} : ∀ (n : Nat), (n : Int) ≤ pat.length → ∀ (i : Nat) (hi : i < (lws pat n).length), LeftW pat n i ((lws pat n)[i])
  | 0, hn, i, hi => by
    have hi' : i < 2 := by simpa [lws] using hi
    have bl : (bth pat 0) = [0] := rfl
    rcases Nat.lt_succ_iff_lt_or_eq.mp hi' with h | h
    · have : i = 0 := by omega
      subst this
      refine ⟨⟨by decide, by simpa using hn⟩, rfl, fun j hj b hb => ?_⟩
      have hj0 : j = 0 := by simpa [bl] using hj
      subst hj0
      simp [lws, mkW]
    · subst h
      refine ⟨⟨by decide, by simpa using hn⟩, rfl, fun j hj b hb => ?_⟩
      have hj0 : j = 0 := by simpa [bl] using hj
      subst hj0
      have : (0 : Int) ≤ b := by simpa using hb
      simp [lws, mkW, inB, bth, this]
  | n + 1, hn, i, hi => by
    have hn' : (n : Int) ≤ pat.length := by omega
    have ih := lws_mk (pat := pat) n hn'
    have ll := lws_len pat n
    have bl := bth_len pat n
    have wfl : ∀ t, Wf pat.length (W.leaf t ((n + 1 : Nat) : Int)) := fun t => ⟨by omega, hn⟩
    have pe : ((n + 1 : Nat) : Int) - 1 = n := by omega
    -- the marks of a word led on, at an old birth and at the new one
    have old : ∀ {m : Nat} {w : W}, LeftW pat n m w → ∀ (j : Nat) (hj : j < (bth pat n).length) (b : Int), ((n + 1 : Nat) : Int) ≤ b → mkW pat ((bth pat n)[j]) b (W.rt w) = decide (j < m) := fun {m w} L j hj b hb => by
      have mem := (bth_mem pat).mp (List.getElem_mem hj)
      have e1 : inB ((bth pat n)[j]) b (w.place + 1) = true := by rw [L.pl]; simp [inB]; omega
      have e2 : inB ((bth pat n)[j]) b w.place = true := by rw [L.pl]; simp [inB]; omega
      simp only [mkW, e1, e2, Bool.true_and, if_true]
      exact L.mrk j hj b (by omega)
    have new : ∀ {m : Nat} {w : W}, LeftW pat n m w → ∀ (b : Int), ((n + 1 : Nat) : Int) ≤ b → mkW pat ((n + 1 : Nat) : Int) b (W.rt w) = !ar pat n := fun {m w} L b hb => by
      have e1 : inB ((n + 1 : Nat) : Int) b (w.place + 1) = true := by rw [L.pl]; simp [inB]; omega
      have e2 : inB ((n + 1 : Nat) : Int) b w.place = false := by rw [L.pl]; simp [inB]; omega
      simp only [mkW, e1, e2, Bool.true_and, Bool.false_eq_true, if_false]
      rw [L.pl]
    have led : ∀ {m : Nat} {w : W}, LeftW pat n m w → Wf pat.length (W.rt w) ∧ (W.rt w).place = ((n + 1 : Nat) : Int) := fun {m w} L => ⟨⟨L.wf, by rw [L.pl]; omega⟩, by simp only [W.place]; rw [L.pl]; omega⟩
    have zero : LeftW pat (n + 1) 0 (W.leaf false ((n + 1 : Nat) : Int)) := ⟨wfl _, rfl, fun j hj b hb => by simp [mkW]⟩
    have last : LeftW pat (n + 1) (n + 2) (W.leaf true ((n + 1 : Nat) : Int)) := ⟨wfl _, rfl, fun j hj b hb => by
      have m2 := (bth_mem pat).mp (List.getElem_mem hj)
      have hj' : j < n + 2 := by rw [bth_len] at hj; exact hj
      simp only [mkW, Bool.and_true]
      rw [decide_eq_true hj']
      simp [inB]; omega⟩
    by_cases c : ar pat n = true
    · have eL : lws pat (n + 1) = W.leaf false ((n + 1 : Nat) : Int) :: (((lws pat n).map W.rt).tail ++ [W.leaf true ((n + 1 : Nat) : Int)]) := by
        rw [lws, if_pos c]
      have eB : bth pat (n + 1) = bth pat n ++ [((n + 1 : Nat) : Int)] := by rw [bth, if_pos c]
      have hi2 : i < n + 3 := by rw [lws_len] at hi; omega
      by_cases i0 : i = 0
      · subst i0; simp only [eL, List.getElem_cons_zero]; exact zero
      · by_cases il : i = n + 2
        · subst il
          have : (lws pat (n + 1))[n + 2] = W.leaf true ((n + 1 : Nat) : Int) := by
            simp only [eL, List.getElem_cons_succ]
            rw [List.getElem_append_right (by simp [ll])]
            simp [ll]
          rw [this]; exact last
        · obtain ⟨m, rfl⟩ : ∃ m, i = m + 1 := ⟨i - 1, by omega⟩
          have hm : m + 1 < (lws pat n).length := by omega
          have : (lws pat (n + 1))[m + 1] = W.rt ((lws pat n)[m + 1]) := by
            simp only [eL, List.getElem_cons_succ]
            rw [List.getElem_append_left (by simp [ll]; omega)]
            simp
          rw [this]
          have L := ih (m + 1) hm
          refine ⟨(led L).1, (led L).2, fun j hj b hb => ?_⟩
          by_cases jl : j < (bth pat n).length
          · have : (bth pat (n + 1))[j] = (bth pat n)[j] := by simp only [eB]; rw [List.getElem_append_left jl]
            rw [this]
            exact old L j jl b hb
          · have hj2 : j = n + 1 := by rw [bth_len] at hj; omega
            have : (bth pat (n + 1))[j] = ((n + 1 : Nat) : Int) := by
              simp only [eB]; rw [List.getElem_append_right (by omega)]; simp
            rw [this, new L b hb, c]
            have : ¬ j < m + 1 := by omega
            simp [this]
    · have eL : lws pat (n + 1) = W.leaf false ((n + 1 : Nat) : Int) :: (((lws pat n).map W.rt).dropLast ++ [W.leaf true ((n + 1 : Nat) : Int)]) := by
        rw [lws, if_neg c]
      have eB : bth pat (n + 1) = ((n + 1 : Nat) : Int) :: bth pat n := by rw [bth, if_neg c]
      have hi2 : i < n + 3 := by rw [lws_len] at hi; omega
      by_cases i0 : i = 0
      · subst i0; simp only [eL, List.getElem_cons_zero]; exact zero
      · by_cases il : i = n + 2
        · subst il
          have : (lws pat (n + 1))[n + 2] = W.leaf true ((n + 1 : Nat) : Int) := by
            simp only [eL, List.getElem_cons_succ]
            rw [List.getElem_append_right (by simp [ll])]
            simp [ll]
          rw [this]; exact last
        · obtain ⟨m, rfl⟩ : ∃ m, i = m + 1 := ⟨i - 1, by omega⟩
          have hm : m < (lws pat n).length := by omega
          have : (lws pat (n + 1))[m + 1] = W.rt ((lws pat n)[m]) := by
            simp only [eL, List.getElem_cons_succ]
            rw [List.getElem_append_left (by simp [ll]; omega)]
            simp
          rw [this]
          have L := ih m hm
          refine ⟨(led L).1, (led L).2, fun j hj b hb => ?_⟩
          cases j with
          | zero =>
            have : (bth pat (n + 1))[0] = ((n + 1 : Nat) : Int) := by simp only [eB, List.getElem_cons_zero]
            rw [this, new L b hb]
            simp [c]
          | succ j =>
            have jl : j < (bth pat n).length := by rw [bth_len] at hj ⊢; omega
            have : (bth pat (n + 1))[j + 1] = (bth pat n)[j] := by simp only [eB, List.getElem_cons_succ]
            rw [this, old L j jl b hb]
            simp

structure RightW (pat : List Bool) (n i : Nat) (w : W) : Prop where
  wf : Wf pat.length w
  pl : w.place = (pat.length : Int) - n
  mrk : ∀ (j : Nat) (hj : j < (eds pat n).length) (a : Int), a ≤ (pat.length : Int) - n → mkW pat a ((eds pat n)[j]) w = decide (j < i)
theorem rws_mk {pat : List Bool} : ∀ (n : Nat), n ≤ pat.length → ∀ (i : Nat) (hi : i < (rws pat n).length), RightW pat n i ((rws pat n)[i])
  | 0, hn, i, hi => by
    have hi' : i < 2 := by simpa [rws] using hi
    have bl : (eds pat 0) = [(pat.length : Int)] := rfl
    rcases Nat.lt_succ_iff_lt_or_eq.mp hi' with h | h
    · have : i = 0 := by omega
      subst this
      refine ⟨⟨by omega, by omega⟩, by simp [rws, W.place], fun j hj b hb => ?_⟩
      simp [rws, mkW]
    · subst h
      refine ⟨⟨by omega, by omega⟩, by simp [rws, W.place], fun j hj a ha => ?_⟩
      have hj0 : j = 0 := by simpa [bl] using hj
      subst hj0
      simp [rws, mkW, inB, eds]; omega
  | n + 1, hn, i, hi => by
    have ih := rws_mk (pat := pat) n (by omega)
    have ll := rws_len pat n
    have bl := eds_len pat n
    generalize hP : (pat.length : Int) - ((n + 1 : Nat) : Int) = P
    have wfl : ∀ t, Wf pat.length (W.leaf t P) := fun t => ⟨by omega, by omega⟩
    have old : ∀ {m : Nat} {w : W}, RightW pat n m w → ∀ (j : Nat) (hj : j < (eds pat n).length) (a : Int), a ≤ P → mkW pat a ((eds pat n)[j]) (W.lf w) = decide (j < m) := fun {m w} L j hj a ha => by
      have mem := (eds_mem pat).mp (List.getElem_mem hj)
      have pl := L.pl
      have e1 : inB a ((eds pat n)[j]) (w.place - 1) = true := by simp [inB]; omega
      have e2 : inB a ((eds pat n)[j]) w.place = true := by simp [inB]; omega
      simp only [mkW, e1, e2, Bool.true_and, if_true]
      exact L.mrk j hj a (by omega)
    have new : ∀ {m : Nat} {w : W}, RightW pat n m w → ∀ (a : Int), a ≤ P → mkW pat a P (W.lf w) = ar pat P := fun {m w} L a ha => by
      have pl := L.pl
      have ep : w.place - 1 = P := by omega
      have e1 : inB a P (w.place - 1) = true := by simp [inB]; omega
      have e2 : inB a P w.place = false := by simp [inB]; omega
      simp only [mkW, e1, e2, Bool.true_and, Bool.false_eq_true, if_false]
      rw [ep]
    have led : ∀ {m : Nat} {w : W}, RightW pat n m w → Wf pat.length (W.lf w) ∧ (W.lf w).place = P := fun {m w} L => by
      have pl := L.pl
      exact ⟨⟨L.wf, by omega⟩, by simp only [W.place]; omega⟩
    have zero : RightW pat (n + 1) 0 (W.leaf false P) := ⟨wfl _, hP.symm, fun j hj b hb => by simp [mkW]⟩
    have last : RightW pat (n + 1) (n + 2) (W.leaf true P) := ⟨wfl _, hP.symm, fun j hj a ha => by
      have m2 := (eds_mem pat).mp (List.getElem_mem hj)
      have hj' : j < n + 2 := by rw [eds_len] at hj; exact hj
      simp only [mkW, Bool.and_true]
      rw [decide_eq_true hj']
      simp [inB]; omega⟩
    have hi2 : i < n + 3 := by rw [rws_len] at hi; omega
    by_cases c : ar pat P = true
    · have eL : rws pat (n + 1) = W.leaf false P :: (((rws pat n).map W.lf).dropLast ++ [W.leaf true P]) := by
        rw [rws, hP, if_pos c]
      have eB : eds pat (n + 1) = P :: eds pat n := by rw [eds, hP, if_pos c]
      by_cases i0 : i = 0
      · subst i0; simp only [eL, List.getElem_cons_zero]; exact zero
      · by_cases il : i = n + 2
        · subst il
          have : (rws pat (n + 1))[n + 2] = W.leaf true P := by
            simp only [eL, List.getElem_cons_succ]
            rw [List.getElem_append_right (by simp [ll])]
            simp [ll]
          rw [this]; exact last
        · obtain ⟨m, rfl⟩ : ∃ m, i = m + 1 := ⟨i - 1, by omega⟩
          have hm : m < (rws pat n).length := by omega
          have : (rws pat (n + 1))[m + 1] = W.lf ((rws pat n)[m]) := by
            simp only [eL, List.getElem_cons_succ]
            rw [List.getElem_append_left (by simp [ll]; omega)]
            simp
          rw [this]
          have L := ih m hm
          refine ⟨(led L).1, (led L).2.trans hP.symm, fun j hj a ha => ?_⟩
          have ha' : a ≤ P := by omega
          cases j with
          | zero =>
            have : (eds pat (n + 1))[0] = P := by simp only [eB, List.getElem_cons_zero]
            rw [this, new L a ha', c]
            simp
          | succ j =>
            have jl : j < (eds pat n).length := by rw [eds_len] at hj ⊢; omega
            have : (eds pat (n + 1))[j + 1] = (eds pat n)[j] := by simp only [eB, List.getElem_cons_succ]
            rw [this, old L j jl a ha']
            simp
    · have eL : rws pat (n + 1) = W.leaf false P :: (((rws pat n).map W.lf).tail ++ [W.leaf true P]) := by
        rw [rws, hP, if_neg c]
      have eB : eds pat (n + 1) = eds pat n ++ [P] := by rw [eds, hP, if_neg c]
      by_cases i0 : i = 0
      · subst i0; simp only [eL, List.getElem_cons_zero]; exact zero
      · by_cases il : i = n + 2
        · subst il
          have : (rws pat (n + 1))[n + 2] = W.leaf true P := by
            simp only [eL, List.getElem_cons_succ]
            rw [List.getElem_append_right (by simp [ll])]
            simp [ll]
          rw [this]; exact last
        · obtain ⟨m, rfl⟩ : ∃ m, i = m + 1 := ⟨i - 1, by omega⟩
          have hm : m + 1 < (rws pat n).length := by omega
          have : (rws pat (n + 1))[m + 1] = W.lf ((rws pat n)[m + 1]) := by
            simp only [eL, List.getElem_cons_succ]
            rw [List.getElem_append_left (by simp [ll]; omega)]
            simp
          rw [this]
          have L := ih (m + 1) hm
          refine ⟨(led L).1, (led L).2.trans hP.symm, fun j hj a ha => ?_⟩
          have ha' : a ≤ P := by omega
          by_cases jl : j < (eds pat n).length
          · have : (eds pat (n + 1))[j] = (eds pat n)[j] := by simp only [eB]; rw [List.getElem_append_left jl]
            rw [this]
            exact old L j jl a ha'
          · have hj2 : j = n + 1 := by rw [eds_len] at hj; omega
            have : (eds pat (n + 1))[j] = P := by
              simp only [eB]; rw [List.getElem_append_right (by omega)]; simp
            rw [this, new L a ha']
            have : ¬ j < m + 1 := by omega
            simp [this, c]
end MR
end
section
namespace MR
/-! ### the word of a stair -/
def corner (L R : List W) (i j : Nat) : W :=
  if i = L.length - 1 then R.getD j (.leaf false 0) else if j = R.length - 1 then L.getD i (.leaf false 0) else .meet (L.getD i (.leaf false 0)) (R.getD j (.leaf false 0))
def plus : Option W → W → W
  | none, c => c
  | some f, c => .add f c
def woGo (L R : List W) : List Int → Nat → Option W → Option W
  | [], _, f => f
  | c :: r, i, f => if r.headD 0 < c then woGo L R r (i + 1) (some (plus f (corner L R (i + 1) c.toNat))) else woGo L R r (i + 1) f
def nL (pat : List Bool) (p : Int) : List W := lws pat p.toNat
def nR (pat : List Bool) (p : Int) : List W := rws pat ((pat.length : Int) - p).toNat
def wordOf (pat : List Bool) (p : Int) (s : List Int) : W := (woGo (nL pat p) (nR pat p) s 0 none).getD (.leaf false p)
def plainW (pat : List Bool) (w : W) : W := wordOf pat w.place (stairW pat w)

/-- marks at the i-th birth and the j-th end -/
def mij (pat : List Bool) (p : Int) (w : W) (i j : Nat) : Bool := mkW pat ((birthsL pat p).getD i 0) ((endsL pat p).getD j 0) w
structure At (pat : List Bool) (p : Int) (w : W) (f : Nat → Nat → Bool) : Prop where
  wf : Wf pat.length w
  pl : w.place = p
  mrk : ∀ i j : Nat, i < p.toNat + 1 → j < ((pat.length : Int) - p).toNat + 1 → mij pat p w i j = f i j

section
variable {pat : List Bool} {p : Int} (h0 : 0 ≤ p) (h1 : p ≤ pat.length)
include h0 h1
theorem inB_ij {i j : Nat} (hi : i < p.toNat + 1) (hj : j < ((pat.length : Int) - p).toNat + 1) : inB ((birthsL pat p).getD i 0) ((endsL pat p).getD j 0) p = true := by
  have e1 : i < (birthsL pat p).length := by rw [birthsL, bth_len]; exact hi
  have e2 : j < (endsL pat p).length := by rw [endsL, eds_len]; exact hj
  have q1 := (birthsL_mem (pat := pat) h0).mp (List.getElem_mem e1)
  have q2 := (endsL_mem (pat := pat) h1).mp (List.getElem_mem e2)
  rw [List.getD_eq_getElem?_getD, List.getD_eq_getElem?_getD, List.getElem?_eq_getElem e1, List.getElem?_eq_getElem e2]
  simp only [Option.getD_some, inB, Bool.and_eq_true, decide_eq_true_eq]
  exact ⟨q1.2, q2.1⟩
theorem left_at {i : Nat} (hi : i < p.toNat + 2) : At pat p ((nL pat p).getD i (.leaf false 0)) fun a _ => decide (a < i) := by
  have hl : i < (lws pat p.toNat).length := by rw [lws_len]; exact hi
  have L := lws_mk (pat := pat) p.toNat (by omega) i hl
  have e : (nL pat p).getD i (.leaf false 0) = (lws pat p.toNat)[i] := by
    rw [nL, List.getD_eq_getElem?_getD, List.getElem?_eq_getElem hl]; rfl
  rw [e]
  refine ⟨L.wf, by rw [L.pl]; omega, fun a j ha hj => ?_⟩
  have e1 : a < (bth pat p.toNat).length := by rw [bth_len]; exact ha
  have e2 : j < (endsL pat p).length := by rw [endsL, eds_len]; exact hj
  have q2 := (endsL_mem (pat := pat) h1).mp (List.getElem_mem e2)
  unfold mij
  rw [birthsL, List.getD_eq_getElem?_getD, List.getElem?_eq_getElem e1]
  refine L.mrk a e1 _ ?_
  rw [List.getD_eq_getElem?_getD, List.getElem?_eq_getElem e2]
  simp only [Option.getD_some]
  omega
theorem right_at {j : Nat} (hj : j < ((pat.length : Int) - p).toNat + 2) : At pat p ((nR pat p).getD j (.leaf false 0)) fun _ b => decide (b < j) := by
  have hl : j < (rws pat ((pat.length : Int) - p).toNat).length := by rw [rws_len]; exact hj
  have L := rws_mk (pat := pat) ((pat.length : Int) - p).toNat (by omega) j hl
  have e : (nR pat p).getD j (.leaf false 0) = (rws pat ((pat.length : Int) - p).toNat)[j] := by
    rw [nR, List.getD_eq_getElem?_getD, List.getElem?_eq_getElem hl]; rfl
  rw [e]
  refine ⟨L.wf, by rw [L.pl]; omega, fun a b ha hb => ?_⟩
  have e1 : a < (birthsL pat p).length := by rw [birthsL, bth_len]; exact ha
  have e2 : b < (eds pat ((pat.length : Int) - p).toNat).length := by rw [eds_len]; exact hb
  have q1 := (birthsL_mem (pat := pat) h0).mp (List.getElem_mem e1)
  unfold mij
  rw [endsL, List.getD_eq_getElem?_getD (l := eds pat _), List.getElem?_eq_getElem e2]
  refine L.mrk b e2 _ ?_
  rw [List.getD_eq_getElem?_getD, List.getElem?_eq_getElem e1]
  simp only [Option.getD_some]
  omega
theorem At.meet {x y : W} {f g : Nat → Nat → Bool} (a : At pat p x f) (b : At pat p y g) : At pat p (.meet x y) fun i j => f i j && g i j :=
  ⟨⟨a.wf, b.wf, a.pl.trans b.pl.symm⟩, a.pl, fun i j hi hj => by
    show mkW _ _ _ (W.meet x y) = _
    simp only [mkW, a.pl, inB_ij h0 h1 hi hj, Bool.true_and]
    rw [← a.mrk i j hi hj, ← b.mrk i j hi hj]; rfl⟩
theorem At.add {x y : W} {f g : Nat → Nat → Bool} (a : At pat p x f) (b : At pat p y g) : At pat p (.add x y) fun i j => f i j || g i j :=
  ⟨⟨a.wf, b.wf, a.pl.trans b.pl.symm⟩, a.pl, fun i j hi hj => by
    show mkW _ _ _ (W.add x y) = _
    simp only [mkW, a.pl, inB_ij h0 h1 hi hj, Bool.true_and]
    rw [← a.mrk i j hi hj, ← b.mrk i j hi hj]; rfl⟩
theorem At.cong {x : W} {f g : Nat → Nat → Bool} (a : At pat p x f) (h : ∀ i j, i < p.toNat + 1 → j < ((pat.length : Int) - p).toNat + 1 → f i j = g i j) : At pat p x g :=
  ⟨a.wf, a.pl, fun i j hi hj => (a.mrk i j hi hj).trans (h i j hi hj)⟩
theorem corner_at {i j : Nat} (hi : i < p.toNat + 2) (hj : j < ((pat.length : Int) - p).toNat + 2) : At pat p (corner (nL pat p) (nR pat p) i j) fun a b => decide (a < i) && decide (b < j) := by
  have ll : (nL pat p).length = p.toNat + 2 := lws_len _ _
  have rl : (nR pat p).length = ((pat.length : Int) - p).toNat + 2 := rws_len _ _
  unfold corner
  rw [ll, rl]
  split
  · rename_i e
    refine (right_at h0 h1 hj).cong h0 h1 fun a b ha hb => ?_
    have : a < i := by omega
    simp [this]
  · split
    · rename_i e
      refine (left_at h0 h1 hi).cong h0 h1 fun a b ha hb => ?_
      have : b < j := by omega
      simp [this]
    · exact (left_at h0 h1 hi).meet h0 h1 (right_at h0 h1 hj)

/-- what a stair covers from its i-th step on -/
def cov : List Int → Nat → Nat → Nat → Bool
  | [], _, _, _ => false
  | c :: r, i, a, b => (decide (r.headD 0 < c) && decide (a < i + 1) && decide ((b : Int) < c)) || cov r (i + 1) a b
omit h0 h1 in
theorem cov_at : ∀ {s : List Int} {i a b : Nat}, s.Pairwise (fun x y => y ≤ x) → (∀ x ∈ s, 0 ≤ x) → a ≤ i → cov s i a b = decide ((b : Int) < s.headD 0)
  | [], i, a, b, _, _, _ => by simp [cov]
  | c :: r, i, a, b, pw, nn, h => by
    obtain ⟨p1, p2⟩ := List.pairwise_cons.mp pw
    have ih := cov_at (i := i + 1) (a := a) (b := b) p2 (fun x hx => nn x (List.mem_cons_of_mem _ hx)) (by omega)
    have hc := nn c List.mem_cons_self
    have hr : r.headD 0 ≤ c := by
      cases r with
      | nil => simpa using hc
      | cons d r => exact p1 d List.mem_cons_self
    unfold cov
    rw [ih]
    show (decide (r.headD 0 < c) && decide (a < i + 1) && decide ((b : Int) < c) || decide ((b : Int) < r.headD 0)) = decide ((b : Int) < c)
    have ha : a < i + 1 := by omega
    rw [decide_eq_true ha, Bool.and_true, Bool.eq_iff_iff]
    simp only [Bool.or_eq_true, Bool.and_eq_true, decide_eq_true_eq]
    constructor
    · rintro (⟨_, q⟩ | q) <;> omega
    · intro q
      by_cases z : r.headD 0 < c
      · exact .inl ⟨z, q⟩
      · right; omega
omit h0 h1 in
theorem cov_eq : ∀ {s : List Int} {i a b : Nat}, s.Pairwise (fun x y => y ≤ x) → (∀ x ∈ s, 0 ≤ x) → i ≤ a → cov s i a b = decide ((b : Int) < s.getD (a - i) 0)
  | [], i, a, b, _, _, _ => by simp [cov]
  | c :: r, i, a, b, pw, nn, h => by
    by_cases e : a = i
    · subst e
      rw [cov_at pw nn (Nat.le_refl _), Nat.sub_self]; rfl
    · obtain ⟨p1, p2⟩ := List.pairwise_cons.mp pw
      have ih := cov_eq (i := i + 1) (a := a) (b := b) p2 (fun x hx => nn x (List.mem_cons_of_mem _ hx)) (by omega)
      unfold cov
      rw [ih]
      have : ¬ a < i + 1 := by omega
      have e2 : a - i = (a - (i + 1)) + 1 := by omega
      rw [e2]
      simp [this]
def AtO (pat : List Bool) (p : Int) (o : Option W) (f : Nat → Nat → Bool) : Prop := match o with
  | none => ∀ i j, f i j = false
  | some w => At pat p w f
theorem woGo_at : ∀ {s : List Int} {i : Nat} {o : Option W} {f : Nat → Nat → Bool}, AtO pat p o f → i + s.length ≤ p.toNat + 1 → (∀ x ∈ s, 0 ≤ x ∧ x ≤ (pat.length : Int) - p + 1) →
    ∃ g, AtO pat p (woGo (nL pat p) (nR pat p) s i o) g ∧ ∀ a b, a < p.toNat + 1 → b < ((pat.length : Int) - p).toNat + 1 → g a b = (f a b || cov s i a b)
  | [], i, o, f, ho, _, _ => ⟨f, ho, fun a b _ _ => by simp [cov]⟩
  | c :: r, i, o, f, ho, hl, hs => by
    have hl' : i + r.length + 1 ≤ p.toNat + 1 := by simp only [List.length_cons] at hl; omega
    have hc := hs c List.mem_cons_self
    have hs' : ∀ x ∈ r, 0 ≤ x ∧ x ≤ (pat.length : Int) - p + 1 := fun x hx => hs x (List.mem_cons_of_mem _ hx)
    unfold woGo
    split
    · rename_i hlt
      have C := corner_at (pat := pat) (p := p) h0 h1 (i := i + 1) (j := c.toNat) (by omega) (by omega)
      have hp : AtO pat p (some (plus o (corner (nL pat p) (nR pat p) (i + 1) c.toNat))) fun a b => f a b || (decide (a < i + 1) && decide (b < c.toNat)) := by
        cases o with
        | none =>
          refine C.cong h0 h1 fun a b _ _ => ?_
          have : f a b = false := ho a b
          simp [this]
        | some w => exact At.add h0 h1 ho C
      obtain ⟨g, hg, e⟩ := woGo_at (s := r) (i := i + 1) hp (by omega) hs'
      refine ⟨g, hg, fun a b ha hb => ?_⟩
      rw [e a b ha hb]
      conv => rhs; unfold cov
      have q : decide (b < c.toNat) = decide ((b : Int) < c) := by rw [decide_eq_decide]; omega
      rw [q, decide_eq_true hlt]
      simp [Bool.or_assoc]
    · rename_i hlt
      obtain ⟨g, hg, e⟩ := woGo_at (s := r) (i := i + 1) ho (by omega) hs'
      refine ⟨g, hg, fun a b ha hb => ?_⟩
      rw [e a b ha hb]
      conv => rhs; unfold cov
      rw [decide_eq_false hlt]
      simp
theorem wordOf_at {s : List Int} (hs : s ∈ stairsL (p.toNat + 1) ((pat.length : Int) - p + 1)) : At pat p (wordOf pat p s) fun a b => decide ((b : Int) < s.getD a 0) := by
  obtain ⟨hl, pw, bd⟩ := mem_stairs.mp hs
  obtain ⟨g, hg, e⟩ := woGo_at (pat := pat) (p := p) h0 h1 (s := s) (i := 0) (o := none) (f := fun _ _ => false) (fun _ _ => rfl) (by omega) bd
  have key : ∀ a b, a < p.toNat + 1 → b < ((pat.length : Int) - p).toNat + 1 → g a b = decide ((b : Int) < s.getD a 0) := fun a b ha hb => by
    rw [e a b ha hb, cov_eq pw (fun x hx => (bd x hx).1) (Nat.zero_le _), Nat.sub_zero]
    simp
  unfold wordOf
  cases q : woGo (nL pat p) (nR pat p) s 0 none with
  | none =>
    rw [q] at hg
    refine ⟨⟨h0, h1⟩, rfl, fun a b ha hb => ?_⟩
    rw [← key a b ha hb, hg a b]
    simp [mij, mkW]
  | some w =>
    rw [q] at hg
    exact At.cong h0 h1 hg key
end
theorem countP_ix {f : Int → Bool} : ∀ {E : List Int} {m : Nat}, (∀ (j : Nat) (h : j < E.length), f E[j] = decide (j < m)) → m ≤ E.length → E.countP f = m
  | [], m, _, h => by simp at h; simp [h]
  | b :: E, m, hf, hm => by
    have h0 := hf 0 (by simp)
    simp only [List.getElem_cons_zero] at h0
    cases m with
    | zero =>
      have hb : ¬ f b = true := by rw [h0]; simp
      rw [List.countP_cons_of_neg hb]
      refine countP_ix (fun j h => ?_) (Nat.zero_le _)
      have := hf (j + 1) (by simpa using h)
      simpa using this
    | succ m =>
      have hb : f b = true := by rw [h0]; simp
      rw [List.countP_cons_of_pos hb]
      congr 1
      refine countP_ix (fun j h => ?_) (by simpa using hm)
      have := hf (j + 1) (by simpa using h)
      simpa using this
/-- the word of a stair has this stair -/
theorem stair_wordOf {pat : List Bool} {p : Int} (h0 : 0 ≤ p) (h1 : p ≤ pat.length) {s : List Int} (hs : s ∈ stairsL (p.toNat + 1) ((pat.length : Int) - p + 1)) : stairW pat (wordOf pat p s) = s := by
  have A := wordOf_at h0 h1 hs
  obtain ⟨hl, pw, bd⟩ := mem_stairs.mp hs
  rw [stair_get A.pl]
  refine List.ext_getElem (by simp [birthsL, bth_len, hl]) fun i hi hi' => ?_
  have hi2 : i < (birthsL pat p).length := by simpa using hi
  have hi3 : i < p.toNat + 1 := by omega
  have hb : (birthsL pat p).getD i 0 = (birthsL pat p)[i] := by rw [List.getD_eq_getElem?_getD, List.getElem?_eq_getElem hi2]; rfl
  have hsi : s.getD i 0 = s[i] := by rw [List.getD_eq_getElem?_getD, List.getElem?_eq_getElem hi']; rfl
  have bi := bd s[i] (List.getElem_mem hi')
  simp only [List.getElem_map]
  have : rowN pat (wordOf pat p s) (birthsL pat p)[i] = (s[i]).toNat := by
    unfold rowN
    rw [A.pl]
    refine countP_ix (fun j hj => ?_) (by rw [endsL, eds_len]; omega)
    have hj2 : j < ((pat.length : Int) - p).toNat + 1 := by rw [endsL, eds_len] at hj; exact hj
    have q := A.mrk i j hi3 hj2
    unfold mij at q
    rw [hb, hsi] at q
    have hE : (endsL pat p).getD j 0 = (endsL pat p)[j] := by rw [List.getD_eq_getElem?_getD, List.getElem?_eq_getElem hj]; rfl
    rw [hE] at q
    rw [q, decide_eq_decide]
    omega
  rw [this]
  omega
theorem plainW_ok {pat : List Bool} {w : W} (h : Wf pat.length w) : Wf pat.length (plainW pat w) ∧ (plainW pat w).place = w.place ∧ stairW pat (plainW pat w) = stairW pat w := by
  have hp := Wf.pl h
  have hs := stair_mem h
  have A := wordOf_at hp.1 hp.2 hs
  exact ⟨A.wf, A.pl, stair_wordOf hp.1 hp.2 hs⟩
end MR
end
section
namespace MR
section
variable {pat : List Bool} {x y : W}
theorem row_add (hx : Wf pat.length x) (hy : Wf pat.length y) (hp : x.place = y.place) {a : Int} (ha : 0 ≤ a) (ha' : a ≤ x.place) : rowN pat (.add x y) a = max (rowN pat x a) (rowN pat y a) := by
  have lx := row_le (pat := pat) x a
  have ly := row_le (pat := pat) y a
  rw [← hp] at ly
  refine countP_ix (fun j hj => ?_) (Nat.max_le.mpr ⟨lx, ly⟩)
  have hj : j < (endsL pat x.place).length := hj
  have q1 := mk_row hx ha ha' j hj
  have q2 := mk_row hy ha (by omega) j (by rw [← hp]; exact hj)
  have mem := (endsL_mem (pat := pat) (Wf.pl hx).2).mp (List.getElem_mem hj)
  have e : inB a ((endsL pat x.place)[j]) x.place = true := by simp [inB]; omega
  show mkW pat a ((endsL pat x.place)[j]) (.add x y) = _
  simp only [mkW, e, Bool.true_and, q1]
  have e2 : mkW pat a ((endsL pat x.place)[j]) y = decide (j < rowN pat y a) := by
    rw [← q2]; congr 1; simp only [hp]
  rw [e2, Bool.eq_iff_iff]
  simp only [Bool.or_eq_true, decide_eq_true_eq]
  omega
theorem row_meet (hx : Wf pat.length x) (hy : Wf pat.length y) (hp : x.place = y.place) {a : Int} (ha : 0 ≤ a) (ha' : a ≤ x.place) : rowN pat (.meet x y) a = min (rowN pat x a) (rowN pat y a) := by
  have lx := row_le (pat := pat) x a
  refine countP_ix (fun j hj => ?_) (Nat.le_trans (Nat.min_le_left _ _) lx)
  have hj : j < (endsL pat x.place).length := hj
  have q1 := mk_row hx ha ha' j hj
  have q2 := mk_row hy ha (by omega) j (by rw [← hp]; exact hj)
  have mem := (endsL_mem (pat := pat) (Wf.pl hx).2).mp (List.getElem_mem hj)
  have e : inB a ((endsL pat x.place)[j]) x.place = true := by simp [inB]; omega
  show mkW pat a ((endsL pat x.place)[j]) (.meet x y) = _
  simp only [mkW, e, Bool.true_and, q1]
  have e2 : mkW pat a ((endsL pat x.place)[j]) y = decide (j < rowN pat y a) := by
    rw [← q2]; congr 1; simp only [hp]
  rw [e2, Bool.eq_iff_iff]
  simp only [Bool.and_eq_true, decide_eq_true_eq]
  omega
theorem stair_add (hx : Wf pat.length x) (hy : Wf pat.length y) (hp : x.place = y.place) : stairW pat (.add x y) = List.zipWith max (stairW pat x) (stairW pat y) := by
  have h0 := (Wf.pl hx).1
  rw [stair_get (w := W.add x y) (p := x.place) rfl, stair_get (w := x) rfl, stair_get (w := y) hp.symm, List.zipWith_map, List.zipWith_self]
  refine List.map_congr_left fun a ha => ?_
  have m := (birthsL_mem (pat := pat) h0).mp ha
  rw [row_add hx hy hp m.1 m.2]
  omega
theorem stair_meet (hx : Wf pat.length x) (hy : Wf pat.length y) (hp : x.place = y.place) : stairW pat (.meet x y) = List.zipWith min (stairW pat x) (stairW pat y) := by
  have h0 := (Wf.pl hx).1
  rw [stair_get (w := W.meet x y) (p := x.place) rfl, stair_get (w := x) rfl, stair_get (w := y) hp.symm, List.zipWith_map, List.zipWith_self]
  refine List.map_congr_left fun a ha => ?_
  have m := (birthsL_mem (pat := pat) h0).mp ha
  rw [row_meet hx hy hp m.1 m.2]
  omega
/-- contained in all rows, by marks and by stairs -/
theorem within_iff (hx : Wf pat.length x) (hy : Wf pat.length y) (hp : x.place = y.place) :
    (∀ a b : Int, 0 ≤ a → a ≤ b → b ≤ pat.length → mkW pat a b x = true → mkW pat a b y = true) ↔ List.zipWith min (stairW pat x) (stairW pat y) = stairW pat x := by
  have pl := Wf.pl hx
  rw [stair_get (w := x) rfl, stair_get (w := y) hp.symm, List.zipWith_map, List.zipWith_self]
  constructor
  · intro h
    refine List.map_congr_left fun a ha => ?_
    have m := (birthsL_mem (pat := pat) pl.1).mp ha
    have : rowN pat x a ≤ rowN pat y a := by
      unfold rowN
      rw [← hp]
      refine List.countP_mono_left fun b hb q => ?_
      have mb := (endsL_mem (pat := pat) pl.2).mp hb
      exact h a b m.1 (by omega) mb.2 q
    omega
  · intro h a b ha _ hb hm
    refine mk_of_rows hx hy hp (fun a' q1 q2 => ?_) ha hb hm
    have := (List.map_inj_left.mp h) a' ((birthsL_mem pl.1).mpr ⟨q1, q2⟩)
    omega
theorem same_iff (hx : Wf pat.length x) (hy : Wf pat.length y) (hp : x.place = y.place) :
    (∀ a b : Int, 0 ≤ a → a ≤ b → b ≤ pat.length → mkW pat a b x = mkW pat a b y) ↔ stairW pat x = stairW pat y := by
  have pl := Wf.pl hx
  constructor
  · intro h
    rw [stair_get (w := x) rfl, stair_get (w := y) hp.symm]
    refine List.map_congr_left fun a ha => ?_
    have m := (birthsL_mem (pat := pat) pl.1).mp ha
    have : rowN pat x a = rowN pat y a := by
      unfold rowN
      rw [← hp]
      refine List.countP_congr fun b hb => ?_
      have mb := (endsL_mem (pat := pat) pl.2).mp hb
      rw [h a b m.1 (by omega) mb.2]
    rw [this]
  · intro h a b ha _ hb
    exact mk_eq_of_stair hx hy hp h ha hb
end

/-! ### texts, as code points -/
def W.isAdd : W → Bool
  | .add _ _ => true
  | _ => false
def W.isMeet : W → Bool
  | .meet _ _ => true
  | _ => false
def brk (b : Bool) (t : List Nat) : List Nat := if b then 40 :: (t ++ [41]) else t
def textW : W → List Nat
  | .leaf b p => [if b then 49 else 48, 64, 48 + p.toNat]
  | .rt w => [114, 105, 103, 104, 116, 40] ++ textW w ++ [41]
  | .lf w => [108, 101, 102, 116, 40] ++ textW w ++ [41]
  | .add x y => textW x ++ [32, 43, 32] ++ brk y.isAdd (textW y)
  | .meet x y => brk x.isAdd (textW x) ++ [32, 38, 32] ++ brk (y.isMeet || y.isAdd) (textW y)
def Lin : W → Prop
  | .leaf _ p => 0 ≤ p
  | .rt w => Lin w
  | .lf w => Lin w
  | _ => False
theorem Lin.clean : ∀ {w : W}, Lin w → 38 ∉ textW w ∧ 43 ∉ textW w
  | .leaf b p, h => by
    have : 0 ≤ p := h
    cases b <;> simp [textW] <;> omega
  | .rt w, h => by
    have := Lin.clean (w := w) h
    simp [textW, this]
  | .lf w, h => by
    have := Lin.clean (w := w) h
    simp [textW, this]
theorem Lin.flags {w : W} (h : Lin w) : w.isAdd = false ∧ w.isMeet = false := by
  cases w <;> first | exact ⟨rfl, rfl⟩ | exact absurd h id
theorem Lin.inj : ∀ {w v : W}, Lin w → Lin v → textW w = textW v → w = v
  | .leaf b p, .leaf c q, h, h', e => by
    have h : 0 ≤ p := h
    have h' : 0 ≤ q := h'
    simp only [textW, List.cons.injEq, and_true, true_and] at e
    have e1 : b = c := by cases b <;> cases c <;> simp at e ⊢
    have e2 : p = q := by have := e.2; omega
    rw [e1, e2]
  | .rt w, .rt v, h, h', e => by
    simp only [textW, List.cons_append, List.nil_append, List.cons.injEq, true_and] at e
    have e' := List.append_cancel_right e
    rw [Lin.inj (w := w) (v := v) h h' e']
  | .lf w, .lf v, h, h', e => by
    simp only [textW, List.cons_append, List.nil_append, List.cons.injEq, true_and] at e
    have e' := List.append_cancel_right e
    rw [Lin.inj (w := w) (v := v) h h' e']
  | .leaf b p, .rt v, _, _, e => by cases b <;> simp [textW] at e
  | .leaf b p, .lf v, _, _, e => by cases b <;> simp [textW] at e
  | .rt w, .leaf b p, _, _, e => by cases b <;> simp [textW] at e
  | .lf w, .leaf b p, _, _, e => by cases b <;> simp [textW] at e
  | .rt w, .lf v, _, _, e => by simp [textW] at e
  | .lf w, .rt v, _, _, e => by simp [textW] at e
/-- a corner's word: one carried leaf, or the meet of two -/
def Cor : W → Prop
  | .meet x y => Lin x ∧ Lin y
  | w => Lin w
/-- split behind the first sign c -/
theorem split_at {c : Nat} : ∀ {a b r s : List Nat}, c ∉ a → c ∉ b → a ++ c :: r = b ++ c :: s → a = b ∧ r = s
  | [], [], _, _, _, _, e => by simpa using e
  | [], y :: b, _, _, _, hb, e => by
    simp only [List.nil_append, List.cons_append, List.cons.injEq] at e
    exact absurd (by rw [e.1]; exact List.mem_cons_self) hb
  | x :: a, [], _, _, ha, _, e => by
    simp only [List.nil_append, List.cons_append, List.cons.injEq] at e
    exact absurd (by rw [e.1]; exact List.mem_cons_self) ha
  | x :: a, y :: b, r, s, ha, hb, e => by
    simp only [List.cons_append, List.cons.injEq] at e
    obtain ⟨q1, q2⟩ := split_at (fun z => ha (List.mem_cons_of_mem _ z)) (fun z => hb (List.mem_cons_of_mem _ z)) e.2
    exact ⟨by rw [e.1, q1], q2⟩
theorem text_meet {x y : W} (hx : Lin x) (hy : Lin y) : textW (.meet x y) = (textW x ++ [32]) ++ 38 :: (32 :: textW y) := by
  simp [textW, brk, hx.flags, hy.flags]
theorem Cor.noplus : ∀ {w : W}, Cor w → 43 ∉ textW w
  | .meet x y, h => by
    rw [text_meet h.1 h.2]
    simp [h.1.clean, h.2.clean]
  | .leaf b p, h => (Lin.clean (w := .leaf b p) h).2
  | .rt w, h => (Lin.clean (w := .rt w) h).2
  | .lf w, h => (Lin.clean (w := .lf w) h).2
  | .add _ _, h => absurd h id
theorem Cor.flag {w : W} (h : Cor w) : w.isAdd = false := by
  cases w <;> first | rfl | exact absurd h id
theorem Cor.inj {w v : W} (h : Cor w) (h' : Cor v) (e : textW w = textW v) : w = v := by
  by_cases a : w.isMeet = true
  · by_cases b : v.isMeet = true
    · cases w <;> first | (exact absurd a Bool.false_ne_true) | skip
      cases v <;> first | (exact absurd b Bool.false_ne_true) | skip
      rw [text_meet h.1 h.2, text_meet h'.1 h'.2] at e
      obtain ⟨e1, e2⟩ := split_at (by simp [h.1.clean]) (by simp [h'.1.clean]) e
      have e1 := List.append_cancel_right e1
      have e2 : _ = _ := (List.cons.inj e2).2
      rw [Lin.inj h.1 h'.1 e1, Lin.inj h.2 h'.2 e2]
    · cases w <;> first | (exact absurd a Bool.false_ne_true) | skip
      have hv : Lin v := by cases v <;> first | exact h' | exact absurd rfl b
      have := hv.clean.1
      rw [← e, text_meet h.1 h.2] at this
      simp at this
  · have hw : Lin w := by cases w <;> first | exact h | exact absurd rfl a
    by_cases b : v.isMeet = true
    · cases v <;> first | (exact absurd b Bool.false_ne_true) | skip
      have := hw.clean.1
      rw [e, text_meet h'.1 h'.2] at this
      simp at this
    · have hv : Lin v := by cases v <;> first | exact h' | exact absurd rfl b
      exact Lin.inj hw hv e

theorem lws_lin (pat : List Bool) : ∀ (n : Nat), ∀ w ∈ lws pat n, Lin w
  | 0, w, h => by simp [lws] at h; rcases h with rfl | rfl <;> simp [Lin]
  | n + 1, w, h => by
    have ih := lws_lin pat n
    simp only [lws, List.mem_cons, List.mem_append, List.not_mem_nil, or_false] at h
    rcases h with rfl | h | rfl
    · simp only [Lin]; omega
    · have hm : w ∈ (lws pat n).map W.rt := by
        split at h
        · exact List.mem_of_mem_tail h
        · exact (List.dropLast_sublist _).subset h
      obtain ⟨v, hv, rfl⟩ := List.mem_map.mp hm
      exact ih v hv
    · simp only [Lin]; omega
theorem rws_lin (pat : List Bool) : ∀ (n : Nat), n ≤ pat.length → ∀ w ∈ rws pat n, Lin w
  | 0, _, w, h => by simp [rws] at h; rcases h with rfl | rfl <;> simp [Lin]
  | n + 1, hn, w, h => by
    have ih := rws_lin pat n (by omega)
    simp only [rws, List.mem_cons, List.mem_append, List.not_mem_nil, or_false] at h
    rcases h with rfl | h | rfl
    · simp only [Lin]; omega
    · have hm : w ∈ (rws pat n).map W.lf := by
        split at h
        · exact (List.dropLast_sublist _).subset h
        · exact List.mem_of_mem_tail h
      obtain ⟨v, hv, rfl⟩ := List.mem_map.mp hm
      exact ih v hv
    · simp only [Lin]; omega
theorem getD_lin {l : List W} (h : ∀ w ∈ l, Lin w) (i : Nat) : Lin (l.getD i (.leaf false 0)) := by
  rw [List.getD_eq_getElem?_getD]
  cases e : l[i]? with
  | none => simp [Lin]
  | some w => exact h w (List.mem_of_getElem? e)
theorem Cor.of {w : W} (h : Lin w) : Cor w := by cases w <;> first | exact h | exact absurd h id
theorem corner_cor {L R : List W} (hL : ∀ w ∈ L, Lin w) (hR : ∀ w ∈ R, Lin w) (i j : Nat) : Cor (corner L R i j) := by
  unfold corner
  split
  · exact .of (getD_lin hR j)
  · split
    · exact .of (getD_lin hL i)
    · exact ⟨getD_lin hL i, getD_lin hR j⟩

/-- the corners of a stair, from its i-th step on -/
def crs (L R : List W) : List Int → Nat → List W
  | [], _ => []
  | c :: r, i => if r.headD 0 < c then corner L R (i + 1) c.toNat :: crs L R r (i + 1) else crs L R r (i + 1)
def sumAll (o : Option W) (cs : List W) : Option W := cs.foldl (fun o c => some (plus o c)) o
theorem woGo_sum (L R : List W) : ∀ (s : List Int) (i : Nat) (o : Option W), woGo L R s i o = sumAll o (crs L R s i)
  | [], _, _ => rfl
  | c :: r, i, o => by
    unfold woGo crs
    split
    · rw [woGo_sum L R r (i + 1)]; rfl
    · exact woGo_sum L R r (i + 1) o
/-- the texts of the further parts -/
def tailT : List W → List Nat
  | [] => []
  | c :: r => 32 :: 43 :: 32 :: (textW c ++ tailT r)
theorem text_sum : ∀ {cs : List W} {w : W}, (∀ c ∈ cs, Cor c) → ∃ v, sumAll (some w) cs = some v ∧ textW v = textW w ++ tailT cs
  | [], w, _ => ⟨w, rfl, by simp [tailT]⟩
  | c :: cs, w, h => by
    obtain ⟨v, e, t⟩ := text_sum (cs := cs) (w := .add w c) fun d hd => h d (List.mem_cons_of_mem _ hd)
    refine ⟨v, e, ?_⟩
    have hc := (h c List.mem_cons_self).flag
    rw [t]
    simp [textW, tailT, brk, hc]
theorem tail_split : ∀ {c d : W} {r s : List W}, Cor c → Cor d → (∀ x ∈ r, Cor x) → (∀ x ∈ s, Cor x) → textW c ++ tailT r = textW d ++ tailT s → c = d ∧ r = s
  | c, d, [], [], hc, hd, _, _, e => by
    simp only [tailT, List.append_nil] at e
    exact ⟨hc.inj hd e, rfl⟩
  | c, d, [], y :: s, hc, hd, _, _, e => by
    simp only [tailT, List.append_nil] at e
    have := hc.noplus
    rw [e] at this
    simp at this
  | c, d, x :: r, [], hc, hd, _, _, e => by
    simp only [tailT, List.append_nil] at e
    have := hd.noplus
    rw [← e] at this
    simp at this
  | c, d, x :: r, y :: s, hc, hd, hr, hs, e => by
    have e' : (textW c ++ [32]) ++ 43 :: (32 :: (textW x ++ tailT r)) = (textW d ++ [32]) ++ 43 :: (32 :: (textW y ++ tailT s)) := by
      simpa [tailT] using e
    obtain ⟨e1, e2⟩ := split_at (by simp [hc.noplus]) (by simp [hd.noplus]) e'
    have e1 := List.append_cancel_right e1
    have e2 := (List.cons.inj e2).2
    obtain ⟨q1, q2⟩ := tail_split (hr x List.mem_cons_self) (hs y List.mem_cons_self) (fun z hz => hr z (List.mem_cons_of_mem _ hz)) (fun z hz => hs z (List.mem_cons_of_mem _ hz)) e2
    exact ⟨hc.inj hd e1, by rw [q1, q2]⟩
theorem crs_cor {L R : List W} (hL : ∀ w ∈ L, Lin w) (hR : ∀ w ∈ R, Lin w) : ∀ (s : List Int) (i : Nat), ∀ c ∈ crs L R s i, Cor c
  | [], _, c, h => by simp [crs] at h
  | a :: r, i, c, h => by
    unfold crs at h
    split at h
    · rcases List.mem_cons.mp h with rfl | h
      · exact corner_cor hL hR _ _
      · exact crs_cor hL hR r (i + 1) c h
    · exact crs_cor hL hR r (i + 1) c h
/-- words of stairs with one text are one word -/
theorem wordOf_text {pat : List Bool} {p : Int} (h0 : 0 ≤ p) (h1 : p ≤ pat.length) {s t : List Int} (e : textW (wordOf pat p s) = textW (wordOf pat p t)) (hs : s ∈ stairsL (p.toNat + 1) ((pat.length : Int) - p + 1)) (ht : t ∈ stairsL (p.toNat + 1) ((pat.length : Int) - p + 1)) : s = t := by
  have hL : ∀ w ∈ nL pat p, Lin w := lws_lin pat _
  have hR : ∀ w ∈ nR pat p, Lin w := rws_lin pat _ (by omega)
  have same : wordOf pat p s = wordOf pat p t → s = t := fun q => by
    rw [← stair_wordOf h0 h1 hs, ← stair_wordOf h0 h1 ht, q]
  refine same ?_
  unfold wordOf at e ⊢
  rw [woGo_sum, woGo_sum] at e ⊢
  have cs := crs_cor hL hR s 0
  have ct := crs_cor hL hR t 0
  have leafC : Cor (.leaf false p) := h0
  cases qs : crs (nL pat p) (nR pat p) s 0 with
  | nil =>
    cases qt : crs (nL pat p) (nR pat p) t 0 with
    | nil => rfl
    | cons d r =>
      rw [qs, qt] at e
      rw [qt] at ct
      obtain ⟨v, ev, tv⟩ := text_sum (cs := r) (w := d) fun x hx => ct x (List.mem_cons_of_mem _ hx)
      have ev' : sumAll none (d :: r) = some v := ev
      rw [ev'] at e
      have e : textW (.leaf false p) = textW v := e
      rw [tv] at e
      have e2 : textW (.leaf false p) ++ tailT [] = textW d ++ tailT r := by simpa [tailT] using e
      obtain ⟨q1, q2⟩ := tail_split leafC (ct d List.mem_cons_self) (by simp) (fun x hx => ct x (List.mem_cons_of_mem _ hx)) e2
      subst q2
      have ev2 : v = d := (Option.some.inj ev).symm
      rw [ev']
      show W.leaf false p = v
      rw [ev2, q1]
  | cons c r =>
    rw [qs] at cs
    obtain ⟨u, eu, tu⟩ := text_sum (cs := r) (w := c) fun x hx => cs x (List.mem_cons_of_mem _ hx)
    have eu' : sumAll none (c :: r) = some u := eu
    cases qt : crs (nL pat p) (nR pat p) t 0 with
    | nil =>
      rw [qs, qt, eu'] at e
      have e : textW u = textW (.leaf false p) := e
      rw [tu] at e
      have e2 : textW c ++ tailT r = textW (.leaf false p) ++ tailT [] := by simpa [tailT] using e
      obtain ⟨q1, q2⟩ := tail_split (cs c List.mem_cons_self) leafC (fun x hx => cs x (List.mem_cons_of_mem _ hx)) (by simp) e2
      subst q2
      have ev2 : u = c := (Option.some.inj eu).symm
      rw [eu']
      show u = W.leaf false p
      rw [ev2, q1]
    | cons d r' =>
      rw [qs, qt, eu'] at e
      rw [qt] at ct
      obtain ⟨v, ev, tv⟩ := text_sum (cs := r') (w := d) fun x hx => ct x (List.mem_cons_of_mem _ hx)
      have ev' : sumAll none (d :: r') = some v := ev
      rw [ev'] at e
      have e : textW u = textW v := e
      rw [tu, tv] at e
      obtain ⟨q1, q2⟩ := tail_split (cs c List.mem_cons_self) (ct d List.mem_cons_self) (fun x hx => cs x (List.mem_cons_of_mem _ hx)) (fun x hx => ct x (List.mem_cons_of_mem _ hx)) e
      rw [q1, q2]
end MR
end
section
set_option maxRecDepth 100000
set_option maxHeartbeats 1000000
namespace WK
open PySem PySem.Spec PyProof.Rows L2 FU
open Evl (Ex)
open MR (W)

/-! ### words as they stand in the heap -/
def wfs (sg : Str) (pl : Int) (t : Addr) : List (Str × V) := [("own_sign", .str sg), ("own_place", .int pl), ("own_parts", .ref t)]
def Nd (K : PySem.W.Frag) (C : Addr) (sg : Str) (pl : Int) (xs : List V) (v : V) (H : Hp) : Prop := ∃ t, InsAt C (wfs sg pl t) v H ∧ SqT K H t xs
def sgn : W → Str
  | .leaf b _ => if b then "1" else "0"
  | .rt _ => "right"
  | .lf _ => "left"
  | .add _ _ => "+"
  | .meet _ _ => "&"
def WAt (K : PySem.W.Frag) (C : Addr) : W → V → Hp → Prop
  | .leaf b p, v, H => Nd K C (sgn (.leaf b p)) p [] v H
  | .rt w, v, H => ∃ x, Nd K C "right" (w.place + 1) [x] v H ∧ WAt K C w x H
  | .lf w, v, H => ∃ x, Nd K C "left" (w.place - 1) [x] v H ∧ WAt K C w x H
  | .add w u, v, H => ∃ x y, Nd K C "+" w.place [x, y] v H ∧ WAt K C w x H ∧ WAt K C u y H
  | .meet w u, v, H => ∃ x y, Nd K C "&" w.place [x, y] v H ∧ WAt K C w x H ∧ WAt K C u y H
theorem InsAt.exs {C : Addr} {fs : List (Str × V)} {v : V} {H H' : Hp} (e : Exs H H') (h : InsAt C fs v H) : InsAt C fs v H' := by
  obtain ⟨a, dx, h1, h2⟩ := h
  exact ⟨a, dx, h1, e _ _ h2 fun xs z => by cases z⟩
theorem Nd.exs {K : PySem.W.Frag} {C : Addr} {sg : Str} {pl : Int} {xs : List V} {v : V} {H H' : Hp} (e : Exs H H') (h : Nd K C sg pl xs v H) : Nd K C sg pl xs v H' := by
  obtain ⟨t, h1, h2⟩ := h
  exact ⟨t, InsAt.exs e h1, e.t h2⟩
theorem WAt.exs {K : PySem.W.Frag} {C : Addr} {H H' : Hp} (e : Exs H H') : ∀ {w : W} {v : V}, WAt K C w v H → WAt K C w v H'
  | .leaf _ _, _, h => Nd.exs e h
  | .rt _, _, ⟨x, h1, h2⟩ => ⟨x, Nd.exs e h1, WAt.exs e h2⟩
  | .lf _, _, ⟨x, h1, h2⟩ => ⟨x, Nd.exs e h1, WAt.exs e h2⟩
  | .add _ _, _, ⟨x, y, h1, h2, h3⟩ => ⟨x, y, Nd.exs e h1, WAt.exs e h2, WAt.exs e h3⟩
  | .meet _ _, _, ⟨x, y, h1, h2, h3⟩ => ⟨x, y, Nd.exs e h1, WAt.exs e h2, WAt.exs e h3⟩
def isW (K : PySem.W.Frag) (C : Addr) (w : W) : Wd := ⟨WAt K C w, fun e h => WAt.exs (Exs.of e) h⟩
theorem nl_isW {K : PySem.W.Frag} {C : Addr} {w : W} : NL (isW K C w) := fun e h => WAt.exs e h
theorem isW.node {K : PySem.W.Frag} {C : Addr} {H : Hp} : ∀ {w : W} {v : V}, isW K C w v H → ∃ t xs, InsAt C (wfs (sgn w) w.place t) v H ∧ SqT K H t xs ∧ Alls (w.parts.map (isW K C)) xs H
  | .leaf _ _, _, ⟨t, h1, h2⟩ => ⟨t, [], h1, h2, trivial⟩
  | .rt _, _, ⟨x, ⟨t, h1, h2⟩, h3⟩ => ⟨t, [x], h1, h2, h3, trivial⟩
  | .lf _, _, ⟨x, ⟨t, h1, h2⟩, h3⟩ => ⟨t, [x], h1, h2, h3, trivial⟩
  | .add _ _, _, ⟨x, y, ⟨t, h1, h2⟩, h3, h4⟩ => ⟨t, [x, y], h1, h2, h3, h4, trivial⟩
  | .meet _ _, _, ⟨x, y, ⟨t, h1, h2⟩, h3, h4⟩ => ⟨t, [x, y], h1, h2, h3, h4, trivial⟩
theorem isW.mk {K : PySem.W.Frag} {C : Addr} {H : Hp} {t : Addr} {xs : List V} {v : V} : ∀ {w : W}, InsAt C (wfs (sgn w) w.place t) v H → SqT K H t xs → Alls (w.parts.map (isW K C)) xs H → isW K C w v H
  | .leaf _ _, h1, h2, h3 => by
    have e := h3.len
    have e : xs = [] := List.length_eq_zero_iff.mp e
    subst e
    exact ⟨t, h1, h2⟩
  | .rt _, h1, h2, h3 => by
    obtain ⟨x, rfl, h⟩ := Alls.one h3
    exact ⟨x, ⟨t, h1, h2⟩, h⟩
  | .lf _, h1, h2, h3 => by
    obtain ⟨x, rfl, h⟩ := Alls.one h3
    exact ⟨x, ⟨t, h1, h2⟩, h⟩
  | .add _ _, h1, h2, h3 => by
    obtain ⟨x, y, rfl, h, h'⟩ := Alls.two h3
    exact ⟨x, y, ⟨t, h1, h2⟩, h, h'⟩
  | .meet _ _, h1, h2, h3 => by
    obtain ⟨x, y, rfl, h, h'⟩ := Alls.two h3
    exact ⟨x, y, ⟨t, h1, h2⟩, h, h'⟩

section
variable {w : World} {mg : Str → Option Value}
variable {X : Cx} {σ : L2.St} {H : Hp} {e a b o : Expr} {es : List Expr} {P : Wd} {Ps : List Wd} {pos px apos : Pos} {x m : Str} {u : W}
theorem x_osign {C : Addr} (cl : Cls X.K C) (na : NoAttr X.K C "own_sign") (h : EvE X o σ H (isW X.K C u)) (hb : attributeBase o "own_sign" X.env (eval o X.env) = eval o X.env := by rfl) : EvE X (.Attribute o "own_sign" pos) σ H (isS (sgn u)) :=
  x_fld cl na h (fun v H1 _ hv => by
    obtain ⟨t, xs, h1, h2, h3⟩ := isW.node hv
    exact ⟨_, .str (sgn u), h1, rfl, rfl⟩) hb
theorem x_oplace {C : Addr} (cl : Cls X.K C) (na : NoAttr X.K C "own_place") (h : EvE X o σ H (isW X.K C u)) (hb : attributeBase o "own_place" X.env (eval o X.env) = eval o X.env := by rfl) : EvE X (.Attribute o "own_place" pos) σ H (isI u.place) :=
  x_fld cl na h (fun v H1 _ hv => by
    obtain ⟨t, xs, h1, h2, h3⟩ := isW.node hv
    exact ⟨_, .int u.place, h1, rfl, rfl⟩) hb
theorem x_oparts {C : Addr} (cl : Cls X.K C) (na : NoAttr X.K C "own_parts") (h : EvE X o σ H (isW X.K C u)) (hb : attributeBase o "own_parts" X.env (eval o X.env) = eval o X.env := by rfl) : EvE X (.Attribute o "own_parts" pos) σ H (tupP X.K (u.parts.map (isW X.K C))) :=
  x_fld cl na h (fun v H1 _ hv => by
    obtain ⟨t, xs, h1, h2, h3⟩ := isW.node hv
    exact ⟨_, .ref t, h1, rfl, t, xs, rfl, h2, h3⟩) hb
/-- a word has no such attribute of its own -/
def noFld (m : Str) : Bool := (m != ("own_sign" : Str)) && (m != ("own_place" : Str)) && (m != ("own_parts" : Str))
theorem wfs_none {sg : Str} {pl : Int} {t : Addr} (h : noFld m = true) : (wfs sg pl t).lookup m = none := by
  unfold noFld at h
  simp only [Bool.and_eq_true, bne_iff_ne, ne_eq] at h
  obtain ⟨⟨h1, h2⟩, h3⟩ := h
  have b1 : (m == ("own_sign" : Str)) = false := beq_eq_false_iff_ne.mpr h1
  have b2 : (m == ("own_place" : Str)) = false := beq_eq_false_iff_ne.mpr h2
  have b3 : (m == ("own_parts" : Str)) = false := beq_eq_false_iff_ne.mpr h3
  simp [wfs, List.lookup, b1, b2, b3]
theorem isW.ins {K : PySem.W.Frag} {C : Addr} {v : V} (h : noFld m = true) (hv : isW K C u v H) : ∃ fs, InsAt C fs v H ∧ fs.lookup m = none := by
  obtain ⟨t, xs, h1, _⟩ := isW.node hv
  exact ⟨_, h1, wfs_none h⟩
theorem x_wmet {k j : Nat} {Ct : Ct} {C : Addr} {pl : Sem Bool} (c : C8.Met X.prog X.w X.K X.mg X.base k C m (spC Ct) []) (hr : Room j X.A) (ho : EvE X o σ H (isW X.K C u)) (ha : EvA X (e :: es) σ H Ps)
    (h : ∀ v vs H1, Ex H H1 → isW X.K C u v H1 → Alls Ps vs H1 → Ct (v :: vs) H1 P) (hk : k ≤ j := by omega) (hf : noFld m = true := by decide +kernel)
    (hst : starEach (e :: es) X.env = (false, eval e X.env) :: starEach es X.env := by rfl) (hpl : (backTo pos (starEach es X.env)).any (·.1) = false := by rfl)
    (ht : eval (.Call (.Attribute o m apos) (e :: es) [] pos) X.env = (do
      let ov ← eval o X.env
      standAt apos.atName
      let (f, first) ← holding [ov] (getMethod ov m pl)
      callWith pos f first (backTo pos (starEach (e :: es) X.env)) (backToKw pos (keywordEach [] X.env))) := by rfl) : EvE X (.Call (.Attribute o m apos) (e :: es) [] pos) σ H P :=
  x_meth (pl := pl) c hr ho ha (fun v vs H1 e1 hv hvs => ⟨isW.ins hf hv, by rw [List.append_nil]; exact h v vs H1 e1 hv hvs⟩) (fun v H1 e1 hv => isW.ins hf hv) hk hst hpl ht
theorem x_wmet0 {k j : Nat} {Ct : Ct} {C : Addr} {pl : Sem Bool} (c : C8.Met X.prog X.w X.K X.mg X.base k C m (spC Ct) []) (hr : Room j X.A) (ho : EvE X o σ H (isW X.K C u))
    (h : ∀ v H1, Ex H H1 → isW X.K C u v H1 → Ct [v] H1 P) (hk : k ≤ j := by omega) (hf : noFld m = true := by decide +kernel)
    (ht : eval (.Call (.Attribute o m apos) [] [] pos) X.env = (do
      let ov ← eval o X.env
      standAt apos.atName
      let (f, first) ← holding [ov] (getMethod ov m pl)
      callWith pos f first (backTo pos (starEach [] X.env)) (backToKw pos (keywordEach [] X.env))) := by rfl) : EvE X (.Call (.Attribute o m apos) [] [] pos) σ H P :=
  x_meth0 (pl := pl) c hr ho (fun v H1 e1 hv => ⟨isW.ins hf hv, h v H1 e1 hv⟩) hk ht
theorem x_wprop {k j : Nat} {Ct : Ct} {C : Addr} (c : Prp X.prog X.w X.K X.mg X.base k C m Ct) (cl : Cls X.K C) (hr : Room j X.A) (ho : EvE X o σ H (isW X.K C u)) (h : ∀ v H1, Ex H H1 → isW X.K C u v H1 → Ct [v] H1 P) (hk : k + 1 ≤ j := by omega) (hb : attributeBase o m X.env (eval o X.env) = eval o X.env := by rfl) : EvE X (.Attribute o m pos) σ H P :=
  x_prop c cl hr ho (fun v H1 e1 hv => by
    obtain ⟨t, xs, h1, _⟩ := isW.node hv
    exact ⟨⟨_, h1⟩, h v H1 e1 hv⟩) hk hb
/-- tuple(t), t a tuple: itself -/
theorem x_tupSame {t : Addr} {xs : List V} (hm : X.mg "tuple" = none) (h : EvE X e σ H (isv (.ref t))) (hx : SqT X.K H t xs) (hg : Gl X "tuple" := by rfl) (hs : Pl0 X e := by rfl) (hpl : (backTo pos (starEach [] X.env)).any (·.1) = false := by rfl) : EvE X (.Call (.Name "tuple" px) [e] [] pos) σ H (isv (.ref t)) :=
  x_bty call_tuple_of hm (a_cons h a_nil hs) (fun vs H1 e1 hv Q q => ⟨t, xs, (Alls.isv (xs := [.ref t])).mp hv, .inr ⟨Evl.ex_t e1 hx, q _ _ (Ex.refl _) rfl⟩⟩) (by decide +kernel) hg (by decide) (by decide) hs hpl
end

section
variable {P : Program} {w : World} {K : PySem.W.Frag} {mg : Str → Option Value} {base : Heap}
/-! ### a method, a getter, a classmethod by its body -/
theorem met_of {m qual : Str} {C : Addr} {st : Stmt} {f : Addr} {fd : FuncData} {N ps : List Str} {k : Nat} {Cc : Ct} (c : Cls K C) (me : Meth K C m f) (F : C8.Fun K m qual st f fd) (b : Binds K fd ps []) (S : FnScope N ps (C8.fnScope st)) (len : ∀ vs H P, Cc vs H P → vs.length = ps.length)
    (hbody : ∀ (cdv : Value) (A : Around) (outer : List Env) (s : Shared) (H : Hp) (vs : List V) (Q : VK) (E : XK) (W : Wd), Room k (A.deeper (envOfC qual (C8.fnScope st) s.heap.objs.size f cdv)) → Cc vs H W → (∀ v H', Ex H H' → W v H' → Q v H') →
      wSs (cxOf C8.CX0 P w K mg base N qual (C8.fnScope st) f cdv A outer s H E).nox (C8.fnBody st) { nx := fun _ H' => Q .non H', rt := Q } (start N vs) H) : C8.Met P w K mg base (k + 1) C m (spC Cc) [] :=
  C8.met0 c me F b S (fun vs H Q E ⟨W, h, _⟩ => len vs H W h) fun cdv A outer s H vs Q E hr ⟨W, h, q⟩ => ⟨_, rSs, hbody cdv A outer s H vs Q E W hr h q⟩
theorem prp_of {m qual : Str} {C p : Addr} {st : Stmt} {f : Addr} {fd : FuncData} {N ps : List Str} {k : Nat} {Cc : Ct} (po : PropOf K C m p f) (F : C8.Fun K m qual st f fd) (b : Binds K fd ps []) (S : FnScope N ps (C8.fnScope st)) (len : ∀ vs H P, Cc vs H P → vs.length = ps.length)
    (hbody : ∀ (cdv : Value) (A : Around) (outer : List Env) (s : Shared) (H : Hp) (vs : List V) (Q : VK) (E : XK) (W : Wd), Room k (A.deeper (envOfC qual (C8.fnScope st) s.heap.objs.size f cdv)) → Cc vs H W → (∀ v H', Ex H H' → W v H' → Q v H') →
      wSs (cxOf C8.CX0 P w K mg base N qual (C8.fnScope st) f cdv A outer s H E).nox (C8.fnBody st) { nx := fun _ H' => Q .non H', rt := Q } (start N vs) H) : Prp P w K mg base (k + 1) C m Cc :=
  ⟨p, f, fd, ps, po, C8.fn0 F S (fun vs H Q E ⟨W, h, _⟩ => len vs H W h) fun cdv A outer s H vs Q E hr ⟨W, h, q⟩ => ⟨_, rSs, hbody cdv A outer s H vs Q E W hr h q⟩, b⟩
theorem cme_of {m qual : Str} {C p : Addr} {mc : Value} {st : Stmt} {f : Addr} {fd : FuncData} {N ps : List Str} {k : Nat} {Cc : Ct} (r : ClX.CRead K C mc) (cm : ClX.CMet K C mc m p f) (F : C8.Fun K m qual st f fd) (b : Binds K fd ps []) (S : FnScope N ps (C8.fnScope st)) (len : ∀ vs H P, Cc vs H P → vs.length = ps.length)
    (hbody : ∀ (cdv : Value) (A : Around) (outer : List Env) (s : Shared) (H : Hp) (vs : List V) (Q : VK) (E : XK) (W : Wd), Room k (A.deeper (envOfC qual (C8.fnScope st) s.heap.objs.size f cdv)) → Cc vs H W → (∀ v H', Ex H H' → W v H' → Q v H') →
      wSs (cxOf C8.CX0 P w K mg base N qual (C8.fnScope st) f cdv A outer s H E).nox (C8.fnBody st) { nx := fun _ H' => Q .non H', rt := Q } (start N vs) H) : Cme P w K mg base (k + 1) C m Cc :=
  ⟨p, f, fd, ps, mc, r, cm, C8.fn0 F S (fun vs H Q E ⟨W, h, _⟩ => len vs H W h) fun cdv A outer s H vs Q E hr ⟨W, h, q⟩ => ⟨_, rSs, hbody cdv A outer s H vs Q E W hr h q⟩, b⟩

/-! ### __init__ -/
def ctInit (K : PySem.W.Frag) : List V → Hp → List (Str × V) → Prop := fun us H fs => ∃ sg pl t xs, us = [.str sg, .int pl, .ref t] ∧ SqT K H t xs ∧ fs = wfs sg pl t
theorem sc_init : FnScope ["self", "sign", "place", "parts"] ["self", "sign", "place", "parts"] (C8.fnScope (wmet 0)) := C8.fnScope_by (by decide +kernel)
theorem ok_init (T : Fx K w mg) : C8.Mak P w K mg base 1 "Word" T.C (spIn T.C (ctInit K)) [] := by
  refine C8.mak0 T.mkC T.mC T.d_init T.b_init .nil sc_init (fun vs H Q E h => ?_) fun cdv A outer s H vs Q E hr h => ⟨_, rSs, ?_⟩
  · obtain ⟨a, dx, us, fs, rfl, _, _, ⟨sg, pl, t, xs, rfl, _⟩, _⟩ := h
    rfl
  · obtain ⟨a, dx, us, fs, rfl, ha, hdx, ⟨sg, pl, t, xs, rfl, hx, rfl⟩, q⟩ := h
    refine c_setf T.cl T.na_own_sign (x_var (P := isS sg) 1 rfl rfl) (x_var (P := isv (.ref a)) 0 rfl rfl) fun y v H1 e1 hy hv => ?_
    cases hy; cases hv
    refine ⟨a, dx, [], rfl, e1 _ _ ha, by decide, ?_⟩
    refine c_setf T.cl T.na_own_place (x_var (P := isI pl) 2 rfl rfl) (x_var (P := isv (.ref a)) 0 rfl rfl) fun y v H2 e2 hy hv => ?_
    cases hy; cases hv
    refine ⟨a, dx, _, rfl, e2 _ _ upd_same, (by show 1 < 1000; decide), ?_⟩
    have ne : ∀ {b : Addr} {u : HO}, H b = some u → (∀ fs, u ≠ .ins T.C dx fs) → b ≠ a := fun {b u} hb hu z => by subst z; rw [ha] at hb; cases hb; exact hu _ rfl
    have hx1 : SqT K (upd H1 a (.ins T.C dx (putF "own_sign" (.str sg) []))) t xs := by
      rcases Evl.ex_t e1 hx with h | h
      · refine .inl ?_
        rcases h with h | ⟨o, h⟩
        · have : t ≠ a := fun z => by subst z; rw [e1 _ _ ha] at h; cases h
          exact .inl (by rw [upd_ne this]; exact h)
        · have : t ≠ a := fun z => by subst z; rw [e1 _ _ ha] at h; cases h
          exact .inr ⟨o, by rw [upd_ne this]; exact h⟩
      · exact .inr h
    have hx2 : SqT K (upd H2 a (.ins T.C dx (putF "own_place" (.int pl) (putF "own_sign" (.str sg) [])))) t xs := by
      rcases Evl.ex_t e2 hx1 with h | h
      · refine .inl ?_
        rcases h with h | ⟨o, h⟩
        · have : t ≠ a := fun z => by subst z; rw [e2 _ _ upd_same] at h; cases h
          exact .inl (by rw [upd_ne this]; exact h)
        · have : t ≠ a := fun z => by subst z; rw [e2 _ _ upd_same] at h; cases h
          exact .inr ⟨o, by rw [upd_ne this]; exact h⟩
      · exact .inr h
    refine c_setf T.cl T.na_own_parts (x_tupSame (X := (cxOf C8.CX0 P w K mg base _ _ _ _ cdv A outer s H E).nox) T.z_tuple (x_var (P := isv (.ref t)) 3 rfl rfl) hx2) (x_var (P := isv (.ref a)) 0 rfl rfl) fun y v H3 e3 hy hv => ?_
    cases hy; cases hv
    refine ⟨a, dx, _, rfl, e3 _ _ upd_same, (by show 2 < 1000; decide), ?_⟩
    refine c_nil (q _ (fun b o hb h0 => ?_) (by rw [upd_same]; rfl))
    rw [upd_ne hb]
    refine e3 _ _ ?_
    rw [upd_ne hb]
    refine e2 _ _ ?_
    rw [upd_ne hb]
    exact e1 _ _ h0
end
end WK
end
section
set_option maxRecDepth 100000
set_option maxHeartbeats 1000000
namespace WK
open PySem PySem.Spec PyProof.Rows L2 FU
open Evl (Ex)
open MR (W)

def pc (b : Bool) : Nat := if b then 62 else 60
def pstr (pat : List Bool) : Str := ⟨(pat.map pc).toArray⟩
theorem pstr_len (pat : List Bool) : (pstr pat).length = pat.length := by
  show ((pat.map pc).toArray).size = _
  simp
theorem pstr_list (pat : List Bool) : (pstr pat).cps.toList = pat.map pc := by simp [pstr]
theorem str_gt : ((">" : String) : Str) = ⟨#[62]⟩ := by decide +kernel
theorem str_lt : (("<" : String) : Str) = ⟨#[60]⟩ := by decide +kernel

section
variable {P : Program} {w : World} {K : PySem.W.Frag} {mg : Str → Option Value} {base : Heap}
/-! ### getters -/
def ctSign (K : PySem.W.Frag) (C : Addr) : Ct := fun vs H P => ∃ u v, vs = [v] ∧ isW K C u v H ∧ P = isS (sgn u)
def ctPlace (K : PySem.W.Frag) (C : Addr) : Ct := fun vs H P => ∃ u v, vs = [v] ∧ isW K C u v H ∧ P = isI u.place
def ctParts (K : PySem.W.Frag) (C : Addr) : Ct := fun vs H P => ∃ u v, vs = [v] ∧ isW K C u v H ∧ P = tupP K (u.parts.map (isW K C))
theorem sc_sign : FnScope ["self"] ["self"] (C8.fnScope (wmet 1)) := C8.fnScope_by (by decide +kernel)
theorem sc_place : FnScope ["self"] ["self"] (C8.fnScope (wmet 2)) := C8.fnScope_by (by decide +kernel)
theorem sc_parts : FnScope ["self"] ["self"] (C8.fnScope (wmet 3)) := C8.fnScope_by (by decide +kernel)
theorem ok_sign (T : Fx K w mg) : Prp P w K mg base 1 T.C "sign" (ctSign K T.C) := by
  refine prp_of T.po_psign T.d_psign T.b_psign sc_sign (fun vs H W ⟨_, _, e, _⟩ => by rw [e]; rfl) fun cdv A outer s H vs Q E W hr hC hQ => ?_
  obtain ⟨u, v, rfl, hu, rfl⟩ := hC
  exact c_ret (x_osign T.cl T.na_own_sign (x_var 0 rfl hu)) hQ
theorem ok_place (T : Fx K w mg) : Prp P w K mg base 1 T.C "place" (ctPlace K T.C) := by
  refine prp_of T.po_pplace T.d_pplace T.b_pplace sc_place (fun vs H W ⟨_, _, e, _⟩ => by rw [e]; rfl) fun cdv A outer s H vs Q E W hr hC hQ => ?_
  obtain ⟨u, v, rfl, hu, rfl⟩ := hC
  exact c_ret (x_oplace T.cl T.na_own_place (x_var 0 rfl hu)) hQ
theorem ok_parts (T : Fx K w mg) : Prp P w K mg base 1 T.C "parts" (ctParts K T.C) := by
  refine prp_of T.po_pparts T.d_pparts T.b_pparts sc_parts (fun vs H W ⟨_, _, e, _⟩ => by rw [e]; rfl) fun cdv A outer s H vs Q E W hr hC hQ => ?_
  obtain ⟨u, v, rfl, hu, rfl⟩ := hC
  refine c_ret ?_ hQ
  exact x_oparts T.cl T.na_own_parts (x_var (P := isW K T.C u) 0 rfl hu)

/-! ### need_place, the simple words -/
def ctNeedPlace : Ct := fun vs H P => ∃ p : Int, vs = [.int p] ∧ 0 ≤ p ∧ p ≤ 6 ∧ P = isN
theorem sc_needplace : FnScope ["place"] ["place"] (C8.fnScope (top 19)) := C8.fnScope_by (by decide +kernel)
theorem ok_needplace (T : Fx K w mg) : C8.Cal P w K mg base 2 "need_place" (spC ctNeedPlace) [] := by
  refine cal_of T.d_need_place T.b_need_place .nil sc_needplace (fun vs H W ⟨_, e, _⟩ => by rw [e]; rfl) fun cdv A outer s H vs Q E W hr hC hQ => ?_
  obtain ⟨p, rfl, h0, h1, rfl⟩ := hC
  obtain ⟨t, ht⟩ := T.most
  refine c_skip (t_not (t_val (x_cal (ok_isint T) hr (a_cons (x_var 0 rfl rfl) (a_cons x_int (a_cons (x_glob (v := .int 6) ht ⟨t, rfl⟩) a_nil))) fun vs H1 _ hv => ⟨p, 0, 6, Alls.isv.mp hv, rfl⟩))) (fun H1 e1 => ?_) (by simp [h0, h1])
  exact c_nil (hQ _ _ e1 rfl)
def ctLeaf (K : PySem.W.Frag) (C : Addr) (b : Bool) : Ct := fun vs H P => ∃ p : Int, vs = [.ref C, .int p] ∧ 0 ≤ p ∧ p ≤ 6 ∧ P = isW K C (.leaf b p)
theorem sc_none : FnScope ["cls", "place"] ["cls", "place"] (C8.fnScope (wmet 5)) := C8.fnScope_by (by decide +kernel)
theorem sc_whole : FnScope ["cls", "place"] ["cls", "place"] (C8.fnScope (wmet 6)) := C8.fnScope_by (by decide +kernel)
theorem mk_word {C : Addr} {u : W} {Qs : List Wd} (hq : Qs = u.parts.map (isW K C)) : ∀ vs H1, Alls [isS (sgn u), isI u.place, tupP K Qs] vs H1 → ∃ fs, (∀ H2, Ex H1 H2 → ctInit K vs H2 fs) ∧ ∀ v H2, Ex H1 H2 → InsAt C fs v H2 → isW K C u v H2 := fun vs H1 hv => by
  obtain ⟨a, b, c, rfl, ha, hb, t, xs, rfl, hx, hal⟩ := Alls.three hv
  cases ha; cases hb
  refine ⟨wfs (sgn u) u.place t, fun H2 e2 => ⟨_, _, t, xs, rfl, Evl.ex_t e2 hx, rfl⟩, fun v H2 e2 hi => isW.mk hi (Evl.ex_t e2 hx) ?_⟩
  rw [← hq]
  exact hal.ex e2
theorem ok_none (T : Fx K w mg) : Cme P w K mg base 3 T.C "none" (ctLeaf K T.C false) := by
  refine cme_of T.rd T.cm_cnone T.d_cnone T.b_cnone sc_none (fun vs H W ⟨_, e, _⟩ => by rw [e]; rfl) fun cdv A outer s H vs Q E W hr hC hQ => ?_
  obtain ⟨p, rfl, h0, h1, rfl⟩ := hC
  refine c_expr (x_cal (P := isN) (ok_needplace T) hr (a_cons (x_var (P := isI p) 1 rfl rfl) a_nil) fun vs H1 _ hv => ⟨p, (Alls.isv (xs := [.int p])).mp hv, h0, h1, rfl⟩) fun v H1 e1 _ => ?_
  refine c_ret (P := isW K T.C (.leaf false p)) (x_makeL 0 (ok_init T) hr rfl (a_cons x_str (a_cons (x_var (P := isI p) 1 rfl rfl) (a_cons (x_tup a_nil) a_nil))) fun vs H2 _ hv => mk_word (u := .leaf false p) rfl vs H2 hv) fun v H2 e2 hv => hQ v H2 (e1.trans e2) hv
theorem ok_whole (T : Fx K w mg) : Cme P w K mg base 3 T.C "whole" (ctLeaf K T.C true) := by
  refine cme_of T.rd T.cm_cwhole T.d_cwhole T.b_cwhole sc_whole (fun vs H W ⟨_, e, _⟩ => by rw [e]; rfl) fun cdv A outer s H vs Q E W hr hC hQ => ?_
  obtain ⟨p, rfl, h0, h1, rfl⟩ := hC
  refine c_expr (x_cal (P := isN) (ok_needplace T) hr (a_cons (x_var (P := isI p) 1 rfl rfl) a_nil) fun vs H1 _ hv => ⟨p, (Alls.isv (xs := [.int p])).mp hv, h0, h1, rfl⟩) fun v H1 e1 _ => ?_
  refine c_ret (P := isW K T.C (.leaf true p)) (x_makeL 0 (ok_init T) hr rfl (a_cons x_str (a_cons (x_var (P := isI p) 1 rfl rfl) (a_cons (x_tup a_nil) a_nil))) fun vs H2 _ hv => mk_word (u := .leaf true p) rfl vs H2 hv) fun v H2 e2 hv => hQ v H2 (e1.trans e2) hv

/-! ### right, left -/
def ctRight (K : PySem.W.Frag) (C : Addr) : Ct := fun vs H P => ∃ u v, vs = [v] ∧ isW K C u v H ∧ 0 ≤ u.place + 1 ∧ u.place + 1 ≤ 6 ∧ P = isW K C (.rt u)
def ctLeft (K : PySem.W.Frag) (C : Addr) : Ct := fun vs H P => ∃ u v, vs = [v] ∧ isW K C u v H ∧ 0 ≤ u.place - 1 ∧ u.place - 1 ≤ 6 ∧ P = isW K C (.lf u)
theorem sc_right : FnScope ["self"] ["self"] (C8.fnScope (wmet 7)) := C8.fnScope_by (by decide +kernel)
theorem sc_left : FnScope ["self"] ["self"] (C8.fnScope (wmet 8)) := C8.fnScope_by (by decide +kernel)
theorem ok_right (T : Fx K w mg) : C8.Met P w K mg base 3 T.C "right" (spC (ctRight K T.C)) [] := by
  refine met_of T.cl T.me_right T.d_right T.b_right sc_right (fun vs H W ⟨_, _, e, _⟩ => by rw [e]; rfl) fun cdv A outer s H vs Q E W hr hC hQ => ?_
  obtain ⟨u, v, rfl, hu, h0, h1, rfl⟩ := hC
  refine c_expr (x_cal (P := isN) (ok_needplace T) hr (a_cons (x_add (x_oplace T.cl T.na_own_place (x_var 0 rfl hu)) x_int) a_nil) fun vs H1 _ hv => ⟨u.place + 1, (Alls.isv (xs := [.int (u.place + 1)])).mp hv, h0, h1, rfl⟩) fun _ H1 e1 _ => ?_
  have hu1 := (isW K T.C u).st e1 hu
  exact c_ret (P := isW K T.C (.rt u)) (x_make (ok_init T) hr (a_cons x_str (a_cons (x_add (x_oplace T.cl T.na_own_place (x_var 0 rfl hu1)) x_int) (a_cons (x_tup (a_cons (x_var 0 rfl hu1) a_nil)) a_nil))) fun vs H2 _ hv => mk_word (u := .rt u) rfl vs H2 hv) fun v H2 e2 hv => hQ v H2 (e1.trans e2) hv
theorem ok_left (T : Fx K w mg) : C8.Met P w K mg base 3 T.C "left" (spC (ctLeft K T.C)) [] := by
  refine met_of T.cl T.me_left T.d_left T.b_left sc_left (fun vs H W ⟨_, _, e, _⟩ => by rw [e]; rfl) fun cdv A outer s H vs Q E W hr hC hQ => ?_
  obtain ⟨u, v, rfl, hu, h0, h1, rfl⟩ := hC
  refine c_expr (x_cal (P := isN) (ok_needplace T) hr (a_cons (x_sub (x_oplace T.cl T.na_own_place (x_var 0 rfl hu)) x_int) a_nil) fun vs H1 _ hv => ⟨u.place - 1, (Alls.isv (xs := [.int (u.place - 1)])).mp hv, h0, h1, rfl⟩) fun _ H1 e1 _ => ?_
  have hu1 := (isW K T.C u).st e1 hu
  exact c_ret (P := isW K T.C (.lf u)) (x_make (ok_init T) hr (a_cons x_str (a_cons (x_sub (x_oplace T.cl T.na_own_place (x_var 0 rfl hu1)) x_int) (a_cons (x_tup (a_cons (x_var 0 rfl hu1) a_nil)) a_nil))) fun vs H2 _ hv => mk_word (u := .lf u) rfl vs H2 hv) fun v H2 e2 hv => hQ v H2 (e1.trans e2) hv

/-! ### sums and meets -/
def both (b : Bool) (x y : W) : W := if b then .add x y else .meet x y
theorem both_sgn (b : Bool) (x y : W) : sgn (both b x y) = if b then ("+" : Str) else ("&" : Str) := by cases b <;> rfl
theorem both_place (b : Bool) (x y : W) : (both b x y).place = x.place := by cases b <;> rfl
theorem both_parts (b : Bool) (x y : W) : (both b x y).parts = [x, y] := by cases b <;> rfl
def ctJoin (K : PySem.W.Frag) (C : Addr) : Ct := fun vs H P => ∃ (b : Bool) (x y : W) (v u : V), vs = [v, .str (sgn (both b x y)), u] ∧ isW K C x v H ∧ isW K C y u H ∧ x.place = y.place ∧ P = isW K C (both b x y)
theorem sc_join : FnScope ["self", "sign", "other"] ["self", "sign", "other"] (C8.fnScope (wmet 9)) := C8.fnScope_by (by decide +kernel)
theorem ok_join (T : Fx K w mg) : C8.Met P w K mg base 3 T.C "joined_by" (spC (ctJoin K T.C)) [] := by
  refine met_of T.cl T.me_joined_by T.d_joined_by T.b_joined_by sc_join (fun vs H W ⟨_, _, _, _, _, e, _⟩ => by rw [e]; rfl) fun cdv A outer s H vs Q E W hr hC hQ => ?_
  obtain ⟨b, x, y, v, u, rfl, hx, hy, hp, rfl⟩ := hC
  refine c_skip (t_ne (x_oplace T.cl T.na_own_place (x_var 0 rfl hx)) (x_oplace T.cl T.na_own_place (x_var 2 rfl hy))) (fun H1 e1 => ?_) (by simp [hp])
  have hx1 := (isW K T.C x).st e1 hx
  have hy1 := (isW K T.C y).st e1 hy
  have ep : (both b x y).place = x.place := both_place b x y
  refine c_ret (P := isW K T.C (both b x y)) (x_make (Ps := [isS (sgn (both b x y)), isI (both b x y).place, tupP K [isW K T.C x, isW K T.C y]]) (ok_init T) hr (a_cons (x_var (P := isS _) 1 rfl rfl) (a_cons (by rw [ep]; exact x_oplace T.cl T.na_own_place (x_var 0 rfl hx1)) (a_cons (x_tup (a_cons (x_var 0 rfl hx1) (a_cons (x_var 2 rfl hy1) a_nil))) a_nil))) fun vs H2 _ hv => mk_word (u := both b x y) (by rw [both_parts]; rfl) vs H2 hv) fun v H2 e2 hv => hQ v H2 (e1.trans e2) hv
def ctBin (K : PySem.W.Frag) (C : Addr) (b : Bool) : Ct := fun vs H P => ∃ (x y : W) (v u : V), vs = [v, u] ∧ isW K C x v H ∧ isW K C y u H ∧ x.place = y.place ∧ P = isW K C (both b x y)
theorem sc_add : FnScope ["self", "other"] ["self", "other"] (C8.fnScope (wmet 10)) := C8.fnScope_by (by decide +kernel)
theorem sc_and : FnScope ["self", "other"] ["self", "other"] (C8.fnScope (wmet 11)) := C8.fnScope_by (by decide +kernel)
theorem ok_add (T : Fx K w mg) : C8.Met P w K mg base 4 T.C "__add__" (spC (ctBin K T.C true)) [] := by
  refine met_of T.cl T.me_madd T.d_madd T.b_madd sc_add (fun vs H W ⟨_, _, _, _, e, _⟩ => by rw [e]; rfl) fun cdv A outer s H vs Q E W hr hC hQ => ?_
  obtain ⟨x, y, v, u, rfl, hx, hy, hp, rfl⟩ := hC
  refine c_ret (P := isW K T.C (both true x y)) (x_wmet (ok_join T) hr (x_var 0 rfl hx) (a_cons x_str (a_cons (x_var 1 rfl hy) a_nil)) fun v vs H1 e1 hv hvs => ?_) hQ
  obtain ⟨a, b, rfl, ha, hb⟩ := Alls.two hvs
  cases ha
  exact ⟨true, x, y, v, b, rfl, hv, hb, hp, rfl⟩
theorem ok_and (T : Fx K w mg) : C8.Met P w K mg base 4 T.C "__and__" (spC (ctBin K T.C false)) [] := by
  refine met_of T.cl T.me_mand T.d_mand T.b_mand sc_and (fun vs H W ⟨_, _, _, _, e, _⟩ => by rw [e]; rfl) fun cdv A outer s H vs Q E W hr hC hQ => ?_
  obtain ⟨x, y, v, u, rfl, hx, hy, hp, rfl⟩ := hC
  refine c_ret (P := isW K T.C (both false x y)) (x_wmet (ok_join T) hr (x_var 0 rfl hx) (a_cons x_str (a_cons (x_var 1 rfl hy) a_nil)) fun v vs H1 e1 hv hvs => ?_) hQ
  obtain ⟨a, b, rfl, ha, hb⟩ := Alls.two hvs
  cases ha
  exact ⟨false, x, y, v, b, rfl, hv, hb, hp, rfl⟩

/-! ### patterns -/
def ctPat : Ct := fun vs H P => ∃ pat : List Bool, vs = [.str (pstr pat)] ∧ pat.length ≤ 6 ∧ P = isB true
theorem sc_ispat : FnScope ["value", "sign"] ["value"] (C8.fnScope (top 13)) := C8.fnScope_by (by decide +kernel)
theorem ok_ispat (T : Fx K w mg) : C8.Cal P w K mg base 1 "is_pattern" (spC ctPat) [] := by
  refine cal_of T.d_is_pattern T.b_is_pattern .nil sc_ispat (fun vs H W ⟨_, e, _⟩ => by rw [e]; rfl) fun cdv A outer s H vs Q E W hr hC hQ => ?_
  obtain ⟨pat, rfl, hl, rfl⟩ := hC
  obtain ⟨t, ht⟩ := T.most
  have hlen : (pstr pat).length ≤ 1000 := by rw [pstr_len]; omega
  refine c_ret (P := isB true) (EvE.is (x_and3 (b1 := true) (b2 := decide (((pstr pat).length : Int) ≤ 6)) (b3 := ((pstr pat).cps.toList.map fun _ => true).all id) (x_isi (r := true) T.z_isinstance (x_var (P := isS (pstr pat)) 0 rfl rfl) (x_ty T.z_str PyProof.Rows.boot_str) (fun _ => .base (.str _)) (by decide +kernel))
    (fun _ => x_le (x_lenS T.z_len (x_var (P := isS (pstr pat)) 0 rfl rfl) hlen) (x_glob (v := .int 6) ht ⟨t, rfl⟩))
    (fun _ _ => x_all T.z_all (by
      rw [List.map_map]
      refine x_lc (q := fun c => isS ⟨#[c]⟩) (p := fun _ => isB true) (k := 1) (src_str (x_var (P := isS (pstr pat)) 0 rfl rfl)) ?_ (fun _ _ => nl_isv) (fun c hc y H2 e2 hy s H0 C cl fp => ?_) sc_ispat.nd (blkOk_by (N := ["value", "sign"]) (sc := C8.fnScope (top 13)) (by decide +kernel)) (fun _ _ _ _ _ => pg_name sc_ispat.nd rfl (Or.inl rfl))
      · rw [pstr_list, List.length_map]; omega
      · rw [pstr_list] at hc
        obtain ⟨b, _, hb⟩ := List.mem_map.mp hc
        subst hb
        have hin : ∃ u, PySem.W.nsIn K T.dO ⟨#[pc b]⟩ = some (some u) := by
          cases b with
          | true => have := T.iO0; rw [str_gt] at this; exact this
          | false => have := T.iO1; rw [str_lt] at this; exact this
        obtain ⟨u, hu⟩ := hin
        exact x_inD (r := some u) T.kO (x_var 1 rfl hy) (x_glob T.mO rfl) hu))) (by
      have h1 : decide (((pstr pat).length : Int) ≤ 6) = true := by rw [pstr_len]; exact decide_eq_true (by omega)
      have h2 : ((pstr pat).cps.toList.map fun _ => true).all id = true := by simp
      rw [h1, h2]; rfl)) hQ
end
end WK
end
section
set_option maxRecDepth 100000
set_option maxHeartbeats 1000000
namespace WK
open PySem PySem.Spec PyProof.Rows L2 FU
open Evl (Ex)
open MR (W Wf textW brk)

/-! ### the reach -/
def hi : W → Int
  | .leaf _ p => p
  | .rt w => max (w.place + 1) (hi w)
  | .lf w => max (w.place - 1) (hi w)
  | .add x y => max x.place (max (hi x) (hi y))
  | .meet x y => max x.place (max (hi x) (hi y))
theorem low_le : ∀ u : W, u.low ≤ u.place ∧ u.place ≤ hi u
  | .leaf _ _ => ⟨Int.le_refl _, Int.le_refl _⟩
  | .rt w => by simp only [W.low, W.place, hi]; omega
  | .lf w => by simp only [W.low, W.place, hi]; omega
  | .add x y => by simp only [W.low, W.place, hi]; omega
  | .meet x y => by simp only [W.low, W.place, hi]; omega
theorem hi_le {k : Int} : ∀ {u : W}, Wf k u → hi u ≤ k
  | .leaf _ _, h => h.2
  | .rt w, h => by have := hi_le h.1; have := h.2; simp only [hi]; omega
  | .lf w, h => by have := hi_le h.1; have := Wf.pl h.1; simp only [hi]; omega
  | .add x y, h => by have := hi_le (u := x) h.1; have := hi_le (u := y) h.2.1; have := Wf.pl (w := x) h.1; simp only [hi]; omega
  | .meet x y, h => by have := hi_le (u := x) h.1; have := hi_le (u := y) h.2.1; have := Wf.pl (w := x) h.1; simp only [hi]; omega
def rch (u : W) : List Int := u.place :: u.parts.flatMap fun q => [q.low, hi q]
theorem rch_low (u : W) : u.low ∈ rch u ∧ ∀ y ∈ rch u, u.low ≤ y := by
  cases u with
  | leaf b p => simp [rch, W.place, W.parts, W.low]
  | rt x => have := low_le x; simp [rch, W.place, W.parts, W.low]; omega
  | lf x => have := low_le x; simp [rch, W.place, W.parts, W.low]; omega
  | add x y => have := low_le x; have := low_le y; simp [rch, W.place, W.parts, W.low]; omega
  | meet x y => have := low_le x; have := low_le y; simp [rch, W.place, W.parts, W.low]; omega
theorem rch_hi (u : W) : hi u ∈ rch u ∧ ∀ y ∈ rch u, y ≤ hi u := by
  cases u with
  | leaf b p => simp [rch, W.place, W.parts, hi]
  | rt x => have := low_le x; simp [rch, W.place, W.parts, hi]; omega
  | lf x => have := low_le x; simp [rch, W.place, W.parts, hi]; omega
  | add x y => have := low_le x; have := low_le y; simp [rch, W.place, W.parts, hi]; omega
  | meet x y => have := low_le x; have := low_le y; simp [rch, W.place, W.parts, hi]; omega
theorem parts_len (u : W) : u.parts.length ≤ 2 := by cases u <;> simp [W.parts]
theorem parts_depth {u q : W} (h : q ∈ u.parts) : q.depth < u.depth := by
  cases u <;> simp [W.parts] at h <;> simp only [W.depth]
  · subst h; omega
  · subst h; omega
  · rcases h with rfl | rfl <;> omega
  · rcases h with rfl | rfl <;> omega
theorem parts_wf {k : Int} {u q : W} (hw : Wf k u) (h : q ∈ u.parts) : Wf k q := by
  cases u <;> simp [W.parts] at h
  · subst h; exact hw.1
  · subst h; exact hw.1
  · rcases h with rfl | rfl
    · exact hw.1
    · exact hw.2.1
  · rcases h with rfl | rfl
    · exact hw.1
    · exact hw.2.1

section
variable {P : Program} {w : World} {K : PySem.W.Frag} {mg : Str → Option Value} {base : Heap}
/-! ### need_pattern -/
def ctNeedPat : Ct := fun vs H P => ∃ pat : List Bool, vs = [.str (pstr pat)] ∧ pat.length ≤ 6 ∧ P = isN
theorem sc_needpat : FnScope ["pattern"] ["pattern"] (C8.fnScope (top 14)) := C8.fnScope_by (by decide +kernel)
theorem ok_needpat (T : Fx K w mg) : C8.Cal P w K mg base 2 "need_pattern" (spC ctNeedPat) [] := by
  refine cal_of T.d_need_pattern T.b_need_pattern .nil sc_needpat (fun vs H W ⟨_, e, _⟩ => by rw [e]; rfl) fun cdv A outer s H vs Q E W hr hC hQ => ?_
  obtain ⟨pat, rfl, hl, rfl⟩ := hC
  refine c_skip (t_not (t_val (b' := true) (x_cal (ok_ispat T) hr (a_cons (x_var (P := isS (pstr pat)) 0 rfl rfl) a_nil) fun vs H1 _ hv => ⟨pat, (Alls.isv (xs := [.str (pstr pat)])).mp hv, hl, rfl⟩))) (fun H1 e1 => ?_)
  exact c_nil (hQ _ _ e1 rfl)

/-! ### reach -/
def ctReach (K : PySem.W.Frag) (C : Addr) (n : Nat) : Ct := fun vs H P => ∃ u v, vs = [v] ∧ isW K C u v H ∧ u.depth ≤ n ∧ P = tupP K [isI u.low, isI (hi u)]
theorem sc_reach : FnScope ["self", "places", "part"] ["self"] (C8.fnScope (wmet 4)) := C8.fnScope_by (by decide +kernel)
theorem lstOwn {K : PySem.W.Frag} {ns : List Int} {l : Addr} {H : Hp} (h : H l = some (.lst (ns.map V.int))) : lstP K (ns.map fun i => isI i) (.ref l) H := by
  have e : (ns.map fun i => isI i) = (ns.map V.int).map isv := by rw [List.map_map]; rfl
  rw [e]
  exact lstP_v.mpr ⟨l, rfl, Evl.sq_of h⟩
theorem flatMap_take_succ {α β : Type} {l : List α} {f : α → List β} {i : Nat} {x : α} (h : l[i]? = some x) : (l.take (i + 1)).flatMap f = (l.take i).flatMap f ++ f x := by
  rw [List.take_succ, h]; simp
theorem len2 {α : Type} {f : α → List Int} (h : ∀ a, (f a).length = 2) : ∀ l : List α, (l.flatMap f).length = 2 * l.length
  | [] => rfl
  | a :: r => by rw [List.flatMap_cons, List.length_append, h a, len2 h r, List.length_cons]; omega
theorem ok_reach (T : Fx K w mg) : ∀ n : Nat, Prp P w K mg base (2 * n + 1) T.C "reach" (ctReach K T.C n) := by
  intro n
  induction n with
  | zero =>
    refine prp_of T.po_preach T.d_preach T.b_preach sc_reach (fun vs H W ⟨_, _, e, _⟩ => by rw [e]; rfl) fun cdv A outer s H vs Q E W hr hC hQ => ?_
    obtain ⟨u, v, rfl, hu, hd, rfl⟩ := hC
    obtain ⟨b, p, rfl⟩ : ∃ b p, u = .leaf b p := by cases u <;> simp [W.depth] at hd; exact ⟨_, _, rfl⟩
    refine c_asgNew (k := 1) (a_cons (x_oplace T.cl T.na_own_place (x_var 0 rfl hu)) a_nil) (fun l xs H1 hl e1 hx hal => ?_) sc_reach.nd
    obtain ⟨a, rfl, ha⟩ := Alls.one hal
    cases ha
    have hu1 := (isW K T.C (.leaf b p)).st e1 hu
    refine c_for (k := 2) (src_tup (zs := (W.leaf b p).parts) (q := isW K T.C) (x_oparts T.cl T.na_own_parts (x_var (P := isW K T.C (.leaf b p)) 0 rfl hu1))) (fun H2 i σ' H' => σ' = [some v, some (.ref l), none] ∧ Ex H2 H') (fun H2 e2 => ⟨rfl, Ex.refl _⟩) (fun _ _ _ _ h => h.2) (fun _ i z _ _ _ hz => by simp [W.parts] at hz) (fun H2 σ' H' e2 h => ?_) sc_reach.nd
    obtain ⟨rfl, e3⟩ := h
    have hl3 : H' l = some (.lst ([p].map V.int)) := e3 _ _ (e2 _ _ hx)
    exact c_ret (x_tup (a_cons (x_minL (ns := [p]) (m := p) T.z_min (x_var 1 rfl (lstOwn hl3)) (by simp) (by simp)) (a_cons (x_maxL (ns := [p]) (m := p) T.z_max (x_var 1 rfl (lstOwn hl3)) (by simp) (by simp)) a_nil))) fun v H4 e4 hv => hQ v H4 (((e1.trans e2).trans e3).trans e4) hv
  | succ n ih =>
    refine prp_of (k := 2 * n + 2) T.po_preach T.d_preach T.b_preach sc_reach (fun vs H W ⟨_, _, e, _⟩ => by rw [e]; rfl) fun cdv A outer s H vs Q E W hr hC hQ => ?_
    obtain ⟨u, v, rfl, hu, hd, rfl⟩ := hC
    refine c_asgNew (k := 1) (a_cons (x_oplace T.cl T.na_own_place (x_var 0 rfl hu)) a_nil) (fun l xs H1 hl e1 hx hal => ?_) sc_reach.nd
    obtain ⟨a, rfl, ha⟩ := Alls.one hal
    cases ha
    have hu1 := (isW K T.C u).st e1 hu
    refine c_forT (k := 2) (x_oparts T.cl T.na_own_parts (x_var (P := isW K T.C u) 0 rfl hu1)) (fun t H2 e2 ht => ?_) sc_reach.nd
    obtain ⟨a, ys, rfl, hys, hal⟩ := ht
    have hly : ys.length = u.parts.length := by rw [hal.len, List.length_map]
    refine ⟨a, ys, rfl, hys, fun i σ' H' => (∃ y, σ' = [some v, some (.ref l), y]) ∧ Ex H H' ∧ Exs H2 H' ∧ H' l = some (.lst ((u.place :: (u.parts.take i).flatMap fun q => [q.low, hi q]).map V.int)), ⟨⟨none, rfl⟩, e1.trans e2, fun _ _ h _ => h, e2 _ _ hx⟩, fun i σ' H' h => h.2.2.1.t hys, fun i y σ' H' hy h => ?_, fun σ' H' h => ?_⟩
    · obtain ⟨⟨y0, rfl⟩, eH, es, hl'⟩ := h
      have hi' : i < u.parts.length := by rw [← hly]; exact (List.getElem?_eq_some_iff.mp hy).1
      have hq := alls_map (zs := u.parts) (hal.exs (fun P hP => by obtain ⟨z, _, rfl⟩ := List.mem_map.mp hP; exact nl_isW) es) (List.getElem?_eq_getElem hi') hy
      have hdq := parts_depth (List.getElem_mem hi')
      refine c_extT hl' (x_var (P := isv (.ref l)) 1 rfl rfl) (x_wprop (P := tupP K [isI (u.parts[i]).low, isI (hi u.parts[i])]) (ih) T.cl hr (x_var (P := isW K T.C u.parts[i]) 2 rfl hq) fun v H3 _ hv => ⟨_, v, rfl, hv, by omega, rfl⟩) ?_ (fun zs H3 e3 hz => ?_)
      · have h1 := parts_len u
        rw [List.length_map, List.length_cons, len2 (fun _ => rfl), List.length_take]
        simp; omega
      · refine c_nil ⟨⟨_, rfl⟩, Ex.mut (eH.trans e3) (by
          cases q : H l with
          | none => rfl
          | some o => rw [hl] at q; cases q), (es.trans (Exs.of e3)).trans (Exs.put (e3 _ _ hl')), ?_⟩
        rw [upd_same]
        have ez := (Alls.isv (xs := [.int (u.parts[i]).low, .int (hi u.parts[i])])).mp hz
        subst ez
        rw [flatMap_take_succ (List.getElem?_eq_getElem hi')]
        simp
    · obtain ⟨⟨y0, rfl⟩, eH, es, hl'⟩ := h
      rw [hly, List.take_length] at hl'
      have hl' : H' l = some (.lst ((rch u).map V.int)) := hl'
      exact c_ret (x_tup (a_cons (x_minL T.z_min (x_var 1 rfl (lstOwn hl')) (rch_low u).1 (rch_low u).2) (a_cons (x_maxL T.z_max (x_var 1 rfl (lstOwn hl')) (rch_hi u).1 (rch_hi u).2) a_nil))) fun v H4 e4 hv => hQ v H4 (eH.trans e4) hv
end
end WK
end
section
set_option maxRecDepth 100000
set_option maxHeartbeats 1000000
namespace WK
open PySem PySem.Spec PyProof.Rows L2 FU
open Evl (Ex)
open MR (W Wf textW brk)

/-! ### texts -/
def lS (l : List Nat) : Str := ⟨l.toArray⟩
theorem lS_app (a b : List Nat) : lS a ++ lS b = lS (a ++ b) := by
  show (⟨a.toArray ++ b.toArray⟩ : Str) = ⟨(a ++ b).toArray⟩
  simp
theorem lS_len (a : List Nat) : (lS a).length = a.length := by
  show a.toArray.size = _
  simp
theorem lS_inj {a b : List Nat} (h : lS a = lS b) : a = b := by
  have : a.toArray = b.toArray := congrArg Str.cps h
  simpa using this
theorem brk_ge (b : Bool) (t : List Nat) : t.length ≤ (brk b t).length := by unfold brk; split <;> simp; omega
theorem text_parts {u q : W} (h : q ∈ u.parts) : (textW q).length ≤ (textW u).length := by
  cases u with
  | leaf b p => simp [W.parts] at h
  | rt x => simp [W.parts] at h; subst h; simp only [textW, List.length_append]; omega
  | lf x => simp [W.parts] at h; subst h; simp only [textW, List.length_append]; omega
  | add x y =>
    have := brk_ge y.isAdd (textW y)
    simp [W.parts] at h
    rcases h with rfl | rfl <;> simp only [textW, List.length_append] <;> omega
  | meet x y =>
    have := brk_ge x.isAdd (textW x)
    have := brk_ge (y.isMeet || y.isAdd) (textW y)
    simp [W.parts] at h
    rcases h with rfl | rfl <;> simp only [textW, List.length_append] <;> omega
theorem brk_len (b : Bool) (t : List Nat) : (brk b t).length ≤ t.length + 2 := by unfold brk; split <;> simp
theorem str_0 : (("0" : String) : Str) = lS [48] := by decide +kernel
theorem str_1 : (("1" : String) : Str) = lS [49] := by decide +kernel
theorem str_at : (("@" : String) : Str) = lS [64] := by decide +kernel
theorem str_r : (("right" : String) : Str) = lS [114, 105, 103, 104, 116] := by decide +kernel
theorem str_l : (("left" : String) : Str) = lS [108, 101, 102, 116] := by decide +kernel
theorem str_op : (("(" : String) : Str) = lS [40] := by decide +kernel
theorem str_cl : ((")" : String) : Str) = lS [41] := by decide +kernel
theorem str_sp : ((" " : String) : Str) = lS [32] := by decide +kernel
theorem str_pl : (("+" : String) : Str) = lS [43] := by decide +kernel
theorem str_am : (("&" : String) : Str) = lS [38] := by decide +kernel
theorem str_dig {p : Int} (h0 : 0 ≤ p) (h1 : p ≤ 6) : Str.ofString (toString p) = lS [48 + p.toNat] := by
  have : p = 0 ∨ p = 1 ∨ p = 2 ∨ p = 3 ∨ p = 4 ∨ p = 5 ∨ p = 6 := by omega
  rcases this with rfl | rfl | rfl | rfl | rfl | rfl | rfl <;> decide +kernel

def sgL : W → List Nat
  | .leaf b _ => if b then [49] else [48]
  | .rt _ => [114, 105, 103, 104, 116]
  | .lf _ => [108, 101, 102, 116]
  | .add _ _ => [43]
  | .meet _ _ => [38]
theorem sgn_l : ∀ u : W, sgn u = lS (sgL u)
  | .leaf false _ => str_0
  | .leaf true _ => str_1
  | .rt _ => str_r
  | .lf _ => str_l
  | .add _ _ => str_pl
  | .meet _ _ => str_am
theorem sgL_len (u : W) : (sgL u).length ≤ 5 := by cases u <;> simp [sgL]; split <;> simp
theorem is_am : ∀ u : W, decide (V.str (sgn u) = V.str ("&" : Str)) = u.isMeet
  | .leaf false _ => (by decide +kernel : decide (V.str ("0" : Str) = V.str ("&" : Str)) = false)
  | .leaf true _ => (by decide +kernel : decide (V.str ("1" : Str) = V.str ("&" : Str)) = false)
  | .rt _ => (by decide +kernel : decide (V.str ("right" : Str) = V.str ("&" : Str)) = false)
  | .lf _ => (by decide +kernel : decide (V.str ("left" : Str) = V.str ("&" : Str)) = false)
  | .add _ _ => (by decide +kernel : decide (V.str ("+" : Str) = V.str ("&" : Str)) = false)
  | .meet _ _ => (by decide +kernel : decide (V.str ("&" : Str) = V.str ("&" : Str)) = true)
theorem is_pl : ∀ u : W, decide (V.str (sgn u) = V.str ("+" : Str)) = u.isAdd
  | .leaf false _ => (by decide +kernel : decide (V.str ("0" : Str) = V.str ("+" : Str)) = false)
  | .leaf true _ => (by decide +kernel : decide (V.str ("1" : Str) = V.str ("+" : Str)) = false)
  | .rt _ => (by decide +kernel : decide (V.str ("right" : Str) = V.str ("+" : Str)) = false)
  | .lf _ => (by decide +kernel : decide (V.str ("left" : Str) = V.str ("+" : Str)) = false)
  | .add _ _ => (by decide +kernel : decide (V.str ("+" : Str) = V.str ("+" : Str)) = true)
  | .meet _ _ => (by decide +kernel : decide (V.str ("&" : Str) = V.str ("+" : Str)) = false)
def isLeaf : W → Bool
  | .leaf _ _ => true
  | _ => false
theorem in_01 : ∀ u : W, inV (.str (sgn u)) [.str "0", .str "1"] = isLeaf u
  | .leaf false _ => (by decide +kernel : inV (.str ("0" : Str)) [.str "0", .str "1"] = true)
  | .leaf true _ => (by decide +kernel : inV (.str ("1" : Str)) [.str "0", .str "1"] = true)
  | .rt _ => (by decide +kernel : inV (.str ("right" : Str)) [.str "0", .str "1"] = false)
  | .lf _ => (by decide +kernel : inV (.str ("left" : Str)) [.str "0", .str "1"] = false)
  | .add _ _ => (by decide +kernel : inV (.str ("+" : Str)) [.str "0", .str "1"] = false)
  | .meet _ _ => (by decide +kernel : inV (.str ("&" : Str)) [.str "0", .str "1"] = false)
section
variable {X : Cx} {σ : L2.St} {H : Hp} {e a b o : Expr} {pos : Pos} {u : W} {C : Addr}
theorem x_strL {s : Str} {l : List Nat} {k : Nat} (h : s = lS l) : EvE X (.Constant (.str s) k pos) σ H (isS (lS l)) := by
  rw [← h]; exact x_str
theorem x_addL {l m : List Nat} (ha : EvE X a σ H (isS (lS l))) (hb : EvE X b σ H (isS (lS m))) (hc : l.length + m.length ≤ 100000) : EvE X (.BinOp a .Add b pos) σ H (isS (lS (l ++ m))) := by
  rw [← lS_app]
  exact x_addS ha hb (by rw [lS_len, lS_len]; exact Evl.sz_of hc)
theorem x_osL (cl : Cls X.K C) (na : NoAttr X.K C "own_sign") (h : EvE X o σ H (isW X.K C u)) (hb : attributeBase o "own_sign" X.env (eval o X.env) = eval o X.env := by rfl) : EvE X (.Attribute o "own_sign" pos) σ H (isS (lS (sgL u))) := by
  rw [← sgn_l]; exact x_osign cl na h hb
end
section
variable {P : Program} {w : World} {K : PySem.W.Frag} {mg : Str → Option Value} {base : Heap}
/-! ### fits -/
def ctFits (K : PySem.W.Frag) (C : Addr) (n : Nat) : Ct := fun vs H P => ∃ (u : W) (v : V) (pat : List Bool), vs = [v, .str (pstr pat)] ∧ isW K C u v H ∧ pat.length ≤ 6 ∧ Wf pat.length u ∧ u.depth ≤ n ∧ P = isB true
theorem sc_fits : FnScope ["self", "pattern"] ["self", "pattern"] (C8.fnScope (wmet 17)) := C8.fnScope_by (by decide +kernel)
theorem ok_fits (T : Fx K w mg) (n : Nat) : C8.Met P w K mg base (2 * n + 3) T.C "fits" (spC (ctFits K T.C n)) [] := by
  refine met_of (k := 2 * n + 2) T.cl T.me_fits T.d_fits T.b_fits sc_fits (fun vs H W ⟨_, _, _, e, _⟩ => by rw [e]; rfl) fun cdv A outer s H vs Q E W hr hC hQ => ?_
  obtain ⟨u, v, pat, rfl, hu, hl, hw, hd, rfl⟩ := hC
  refine c_expr (x_cal (P := isN) (ok_needpat T) hr (a_cons (x_var (P := isS (pstr pat)) 1 rfl rfl) a_nil) fun vs H1 _ hv => ⟨pat, (Alls.isv (xs := [.str (pstr pat)])).mp hv, hl, rfl⟩) fun _ H1 e1 _ => ?_
  have hu1 := (isW K T.C u).st e1 hu
  have hlen : (pstr pat).length ≤ 1000 := by rw [pstr_len]; omega
  refine c_ret (EvE.is (x_le (i := hi u) (j := ((pstr pat).length : Int)) (x_ixT (k := 1) (Ps := [isI u.low, isI (hi u)]) (x_wprop (ok_reach T n) T.cl hr (x_var (P := isW K T.C u) 0 rfl hu1) fun v H3 _ hv => ⟨u, v, rfl, hv, hd, rfl⟩) x_int rfl) (x_lenS T.z_len (x_var (P := isS (pstr pat)) 1 rfl rfl) hlen)) ?_) fun v H2 e2 hv => hQ v H2 (e1.trans e2) hv
  have := hi_le hw
  rw [pstr_len, decide_eq_true this]

/-! ### text -/
def ctText (K : PySem.W.Frag) (C : Addr) (n : Nat) : Ct := fun vs H P => ∃ u v, vs = [v] ∧ isW K C u v H ∧ u.depth ≤ n ∧ Wf 6 u ∧ (textW u).length ≤ 50000 ∧ P = isS (lS (textW u))
def ctPart (K : PySem.W.Frag) (C : Addr) (n : Nat) : Ct := fun vs H P => ∃ (u q : W) (v : V) (i : Nat) (b : Bool), vs = [v, .int i, .bl b] ∧ isW K C u v H ∧ u.parts[i]? = some q ∧ u.depth ≤ n + 1 ∧ Wf 6 u ∧ (textW u).length ≤ 50000 ∧ P = isS (lS (brk b (textW q)))
theorem sc_text : FnScope ["self", "first", "within", "second"] ["self"] (C8.fnScope (wmet 14)) := C8.fnScope_by (by decide +kernel)
theorem sc_part : FnScope ["self", "index", "in_brackets", "told"] ["self", "index", "in_brackets"] (C8.fnScope (wmet 15)) := C8.fnScope_by (by decide +kernel)
theorem ok_part (T : Fx K w mg) {n k : Nat} (h : C8.Met P w K mg base k T.C "text" (spC (ctText K T.C n)) []) : C8.Met P w K mg base (k + 1) T.C "part_text" (spC (ctPart K T.C n)) [] := by
  refine met_of T.cl T.me_part_text T.d_part_text T.b_part_text sc_part (fun vs H W ⟨_, _, _, _, _, e, _⟩ => by rw [e]; rfl) fun cdv A outer s H vs Q E W hr hC hQ => ?_
  obtain ⟨u, q, v, i, b, rfl, hu, hq, hd, hw, hl, rfl⟩ := hC
  have hm := List.mem_of_getElem? hq
  have hdq := parts_depth hm
  have hwq := parts_wf hw hm
  have hlq := text_parts hm
  refine c_asg (k := 3) (P := isS (lS (textW q))) (x_wmet0 h hr (x_ixT (k := i) (P := isW K T.C q) (x_oparts T.cl T.na_own_parts (x_var (P := isW K T.C u) 0 rfl hu)) (x_var (P := isI i) 1 rfl rfl) (by rw [List.getElem?_map, hq]; rfl)) fun v H1 _ hv => ⟨q, v, rfl, hv, by omega, hwq, by omega, rfl⟩) (fun x H1 e1 hx => ?_) sc_part.nd
  cases hx
  refine c_ret (P := isS (lS (brk b (textW q)))) (x_if (b' := b) (t_val (x_var (P := isB b) 2 rfl rfl)) (fun hb => ?_) fun hb => ?_) fun v H2 e2 hv => hQ v H2 (e1.trans e2) hv
  · subst hb
    refine EvE.is (x_addL (x_addL (x_strL str_op) (x_var (P := isS (lS (textW q))) 3 rfl rfl) (by simp; omega)) (x_strL str_cl) (by simp; omega)) (by simp [brk])
  · subst hb
    exact x_var (P := isS (lS (textW q))) 3 rfl rfl
theorem ok_text (T : Fx K w mg) : ∀ n : Nat, C8.Met P w K mg base (2 * n + 1) T.C "text" (spC (ctText K T.C n)) [] := by
  have leafy : ∀ {n k : Nat} {cdv : Value} {A : Around} {outer : List Env} {s : Shared} {H : Hp} {Q : VK} {E : XK} {v : V} {b : Bool} {p : Int}, isW K T.C (.leaf b p) v H → 0 ≤ p → p ≤ 6 → (∀ v' H', Ex H H' → isS (lS (textW (.leaf b p))) v' H' → Q v' H') →
      wSs (cxOf C8.CX0 P w K mg base ["self", "first", "within", "second"] "Word.text" (C8.fnScope (wmet 14)) T.f_text cdv A outer s H E).nox (C8.fnBody (wmet 14)) { nx := fun _ H' => Q .non H', rt := Q } (start ["self", "first", "within", "second"] [v]) H := by
    intro n k cdv A outer s H Q E v b p hu h0 h1 hQ
    refine c_if (b' := true) (EvT.is (t_inT (v := .str (sgn (.leaf b p))) (xs := [.str "0", .str "1"]) (x_osign T.cl T.na_own_sign (x_var (P := isW K T.C (.leaf b p)) 0 rfl hu)) (x_tup (a_cons x_str (a_cons x_str a_nil)))) (in_01 _)) (fun _ H1 e1 => ?_) fun z => by cases z
    have hu1 := (isW K T.C (.leaf b p)).st e1 hu
    have hsl := sgL_len (.leaf b p)
    refine c_ret (P := isS (lS (textW (.leaf b p)))) (EvE.is (x_addL (x_addL (x_osL T.cl T.na_own_sign (x_var (P := isW K T.C (.leaf b p)) 0 rfl hu1)) (x_strL str_at) (by simp; omega)) (EvE.is (x_strI T.z_str (x_oplace T.cl T.na_own_place (x_var (P := isW K T.C (.leaf b p)) 0 rfl hu1)) ?_) (congrArg V.str (str_dig h0 h1))) (by simp; omega)) (by cases b <;> rfl)) fun v H2 e2 hv => hQ v H2 (e1.trans e2) hv
    show p.natAbs.log2 < 1920
    have : p.natAbs ≤ 6 := by omega
    exact Nat.lt_of_le_of_lt (Nat.log2_le_self _) (by omega)
  intro n
  induction n with
  | zero =>
    refine met_of T.cl T.me_text T.d_text T.b_text sc_text (fun vs H W ⟨_, _, e, _⟩ => by rw [e]; rfl) fun cdv A outer s H vs Q E W hr hC hQ => ?_
    obtain ⟨u, v, rfl, hu, hd, hw, hl, rfl⟩ := hC
    obtain ⟨b, p, rfl⟩ : ∃ b p, u = .leaf b p := by cases u <;> simp [W.depth] at hd; exact ⟨_, _, rfl⟩
    exact leafy (n := 0) (k := 0) hu hw.1 hw.2 hQ
  | succ n ih =>
    have hpart := ok_part T ih
    refine met_of (k := 2 * n + 2) T.cl T.me_text T.d_text T.b_text sc_text (fun vs H W ⟨_, _, e, _⟩ => by rw [e]; rfl) fun cdv A outer s H vs Q E W hr hC hQ => ?_
    obtain ⟨u, v, rfl, hu, hd, hw, hl, rfl⟩ := hC
    have one : ∀ (q : W), u.parts = [q] → (∃ r, PySem.W.nsIn K T.dT (sgn u) = some (some r)) → textW u = sgL u ++ [40] ++ textW q ++ [41] → isLeaf u = false →
      wSs (cxOf C8.CX0 P w K mg base ["self", "first", "within", "second"] "Word.text" (C8.fnScope (wmet 14)) T.f_text cdv A outer s H E).nox (C8.fnBody (wmet 14)) { nx := fun _ H' => Q .non H', rt := Q } (start ["self", "first", "within", "second"] [v]) H := fun q hp ⟨r, hr2⟩ ht hno => by
      have hm : q ∈ u.parts := by rw [hp]; exact List.mem_cons_self
      have hdq := parts_depth hm
      have hlq := text_parts hm
      have hsl := sgL_len u
      refine c_skip (EvT.is (t_inT (v := .str (sgn u)) (xs := [.str "0", .str "1"]) (x_osign T.cl T.na_own_sign (x_var (P := isW K T.C u) 0 rfl hu)) (x_tup (a_cons x_str (a_cons x_str a_nil)))) (by rw [in_01, hno])) (fun H1 e1 => ?_)
      have hu1 := (isW K T.C u).st e1 hu
      refine c_if (b' := true) (t_inD (r := some r) T.kT (x_osign T.cl T.na_own_sign (x_var (P := isW K T.C u) 0 rfl hu1)) (x_glob T.mT rfl) hr2) (fun _ H2 e2 => ?_) fun z => by cases z
      have hu2 := (isW K T.C u).st e2 hu1
      refine c_ret (P := isS (lS (textW u))) (EvE.is (x_addL (x_addL (x_addL (x_osL T.cl T.na_own_sign (x_var (P := isW K T.C u) 0 rfl hu2)) (x_strL str_op) (by simp; omega)) (x_wmet0 (P := isS (lS (textW q))) ih hr (x_ixT (k := 0) (P := isW K T.C q) (x_oparts T.cl T.na_own_parts (x_var (P := isW K T.C u) 0 rfl hu2)) x_int (by rw [hp]; rfl)) fun v H3 _ hv => ⟨q, v, rfl, hv, by omega, parts_wf hw hm, by omega, rfl⟩) (by simp; omega)) (x_strL str_cl) (by simp; omega)) (by rw [ht])) fun v H3 e3 hv => hQ v H3 ((e1.trans e2).trans e3) hv
    have two : ∀ (x y : W) (b : Bool), u = both b x y →
      wSs (cxOf C8.CX0 P w K mg base ["self", "first", "within", "second"] "Word.text" (C8.fnScope (wmet 14)) T.f_text cdv A outer s H E).nox (C8.fnBody (wmet 14)) { nx := fun _ H' => Q .non H', rt := Q } (start ["self", "first", "within", "second"] [v]) H := fun x y b e => by
      have hpp : u.parts = [x, y] := by rw [e, both_parts]
      have hmx : x ∈ u.parts := by rw [hpp]; simp
      have hmy : y ∈ u.parts := by rw [hpp]; simp
      have hsu : sgn u = if b then ("+" : Str) else ("&" : Str) := by rw [e, both_sgn]
      have hlf : isLeaf u = false := by rw [e]; cases b <;> rfl
      have hno : PySem.W.nsIn K T.dT (sgn u) = some none := by rw [hsu]; cases b; exact T.oT1; exact T.oT0
      have htx : textW u = brk (u.isMeet && x.isAdd) (textW x) ++ [32] ++ sgL u ++ [32] ++ brk (decide (V.str (sgn y) = V.str (sgn u)) || (u.isMeet && y.isAdd)) (textW y) := by
        rw [hsu, e]
        cases b
        · show _ = brk (true && x.isAdd) (textW x) ++ [32] ++ [38] ++ [32] ++ brk (decide (V.str (sgn y) = V.str ("&" : Str)) || (true && y.isAdd)) (textW y)
          rw [is_am]
          show textW (.meet x y) = _
          simp [textW]
        · show _ = brk (false && x.isAdd) (textW x) ++ [32] ++ [43] ++ [32] ++ brk (decide (V.str (sgn y) = V.str ("+" : Str)) || (false && y.isAdd)) (textW y)
          rw [is_pl]
          show textW (.add x y) = _
          simp [textW, brk]
      have hlt := congrArg List.length htx
      simp only [List.length_append, List.length_cons, List.length_nil] at hlt
      have hsl := sgL_len u
      refine c_skip (EvT.is (t_inT (v := .str (sgn u)) (xs := [.str "0", .str "1"]) (x_osign T.cl T.na_own_sign (x_var (P := isW K T.C u) 0 rfl hu)) (x_tup (a_cons x_str (a_cons x_str a_nil)))) (by rw [in_01, hlf])) (fun H1 e1 => ?_)
      have hu1 := (isW K T.C u).st e1 hu
      refine c_skip (t_inD (r := none) T.kT (x_osign T.cl T.na_own_sign (x_var (P := isW K T.C u) 0 rfl hu1)) (x_glob T.mT rfl) hno) (fun H2 e2 => ?_)
      have hu2 := (isW K T.C u).st e2 hu1
      refine c_asg (k := 1) (P := isS (lS (brk (u.isMeet && x.isAdd) (textW x)))) (x_wmet hpart hr (x_var (P := isW K T.C u) 0 rfl hu2) (a_cons x_int (a_cons (EvE.is (x_andB (x_eq (x_osign T.cl T.na_own_sign (x_var (P := isW K T.C u) 0 rfl hu2)) x_str) fun _ => x_eq (x_osign T.cl T.na_own_sign (x_ixT (k := 0) (P := isW K T.C x) (x_oparts T.cl T.na_own_parts (x_var (P := isW K T.C u) 0 rfl hu2)) x_int (by rw [hpp]; rfl))) x_str) (by rw [is_am, is_pl])) a_nil)) fun v vs H3 _ hv hvs => ?_) (fun z H3 e3 hz => ?_) sc_text.nd
      · have ev := (Alls.isv (xs := [.int 0, .bl (u.isMeet && x.isAdd)])).mp hvs
        exact ⟨u, x, v, 0, _, by rw [ev]; rfl, hv, by rw [hpp]; rfl, hd, hw, hl, rfl⟩
      cases hz
      have hu3 := (isW K T.C u).st e3 hu2
      refine c_asg (k := 2) (P := isS (sgn y)) (x_osign T.cl T.na_own_sign (x_ixT (k := 1) (P := isW K T.C y) (x_oparts T.cl T.na_own_parts (x_var (P := isW K T.C u) 0 rfl hu3)) x_int (by rw [hpp]; rfl))) (fun z H4 e4 hz => ?_) sc_text.nd
      cases hz
      have hu4 := (isW K T.C u).st e4 hu3
      refine c_asg (k := 3) (P := isS (lS (brk (decide (V.str (sgn y) = V.str (sgn u)) || (u.isMeet && y.isAdd)) (textW y)))) (x_wmet hpart hr (x_var (P := isW K T.C u) 0 rfl hu4) (a_cons x_int (a_cons (EvE.is (x_orB (x_eq (x_var (P := isS (sgn y)) 2 rfl rfl) (x_osign T.cl T.na_own_sign (x_var (P := isW K T.C u) 0 rfl hu4))) fun _ => x_andB (x_eq (x_osign T.cl T.na_own_sign (x_var (P := isW K T.C u) 0 rfl hu4)) x_str) fun _ => x_eq (x_var (P := isS (sgn y)) 2 rfl rfl) x_str) (by rw [is_am, is_pl])) a_nil)) fun v vs H5 _ hv hvs => ?_) (fun z H5 e5 hz => ?_) sc_text.nd
      · have ev := (Alls.isv (xs := [.int 1, .bl (decide (V.str (sgn y) = V.str (sgn u)) || (u.isMeet && y.isAdd))])).mp hvs
        exact ⟨u, y, v, 1, _, by rw [ev]; rfl, hv, by rw [hpp]; rfl, hd, hw, hl, rfl⟩
      cases hz
      have hu5 := (isW K T.C u).st e5 hu4
      refine c_ret (P := isS (lS (textW u))) (EvE.is (x_addL (x_addL (x_addL (x_addL (x_var (P := isS (lS (brk (u.isMeet && x.isAdd) (textW x)))) 1 rfl rfl) (x_strL str_sp) ?_) (x_osL T.cl T.na_own_sign (x_var (P := isW K T.C u) 0 rfl hu5)) ?_) (x_strL str_sp) ?_) (x_var (P := isS (lS (brk (decide (V.str (sgn y) = V.str (sgn u)) || (u.isMeet && y.isAdd)) (textW y)))) 3 rfl rfl) ?_) (by rw [← htx])) fun v H6 e6 hv => hQ v H6 (((((e1.trans e2).trans e3).trans e4).trans e5).trans e6) hv
      all_goals (simp only [List.length_append, List.length_cons, List.length_nil]; omega)
    cases u with
    | leaf b p => exact leafy (n := n) (k := 0) hu hw.1 hw.2 hQ
    | rt x => exact one x rfl T.iT0 rfl rfl
    | lf x => exact one x rfl T.iT1 rfl rfl
    | add x y => exact two x y true rfl
    | meet x y => exact two x y false rfl
end
end WK
end
section
set_option maxRecDepth 100000
set_option maxHeartbeats 1000000
namespace WK
open PySem PySem.Spec PyProof.Rows L2 FU
open Evl (Ex)
open MR (W Wf textW brk mkW inB ar b2i)

section
variable {X : Cx} {σ : L2.St} {H : Hp} {e a b o : Expr} {pos px : Pos} {u : W} {C : Addr} {n : Nat}
/-- isinstance(word, Word) -/
theorem x_isC (hm : X.mg "isinstance" = none) (c : C8.InsC X.K C) (ha : EvE X a σ H (isW X.K C u)) (hb : EvE X b σ H (isv (.ref C))) (hg : Gl X "isinstance" := by rfl) (hs : starEach [a, b] X.env = (false, eval a X.env) :: starEach [b] X.env := by rfl) (hs2 : starEach [b] X.env = (false, eval b X.env) :: starEach [] X.env := by rfl) (hpl : (backTo pos (starEach [b] X.env)).any (·.1) = false := by rfl) :
    EvE X (.Call (.Name "isinstance" px) [a, b] [] pos) σ H (isB true) :=
  x_blt (C8.call_isC c) hm (a_cons ha (a_cons hb a_nil hs2) hs) (fun vs H1 _ hv Q q => by
    obtain ⟨v, w, rfl, hv1, hw⟩ := Alls.two hv
    cases hw
    obtain ⟨t, xs, ⟨p, dx, e1, e2⟩, _⟩ := isW.node hv1
    subst e1
    exact ⟨p, dx, _, rfl, e2, q _ H1 (Ex.refl _) rfl⟩) (by decide +kernel) hg (by decide) (by decide) hs hpl
/-- list(range(n)) -/
theorem x_lstRange (hm : X.mg "list" = none) (hmr : X.mg "range" = none) (h : EvE X a σ H (isI (n : Int))) (hn : n ≤ 100000) (hc : X.calm = true := by rfl) (hg : Gl X "list" := by rfl) (hgr : Gl X "range" := by rfl) {p2 pos2 : Pos}
    (na : starEach [a] X.env = (false, eval a X.env) :: starEach [] X.env := by rfl) (na2 : starEach [Expr.Call (.Name "range" p2) [a] [] pos2] X.env = (false, eval (.Call (.Name "range" p2) [a] [] pos2) X.env) :: starEach [] X.env := by rfl) :
    EvE X (.Call (.Name "list" px) [.Call (.Name "range" p2) [a] [] pos2] [] pos) σ H (lstP X.K ((List.range n).map fun (i : Nat) => isI (i : Int))) :=
  .of (pe_listRg hc hg hm (prg_1 hgr hmr rE na) na2) fun H1 e1 Q q => h H1 e1 _ fun v H2 e2 hv => ⟨n, hv, RgOk.of_le (by omega) (by omega) (by omega) (by omega), fun p hp => q _ _ (e2.trans (Ex.new hp)) ⟨p, rgV 0 n, rfl, Evl.sq_of upd_same, by
    have e : ((List.range n).map fun (i : Nat) => isI (i : Int)) = (rgV 0 n).map isv := by
      unfold rgV
      rw [List.map_map]
      have : ((n : Int) - 0).toNat = n := by omega
      rw [this]
      refine List.map_congr_left fun i _ => ?_
      show isv (V.int i) = isv (V.int (0 + (i : Int)))
      rw [Int.zero_add]
    rw [e]
    exact Alls.isv.mpr rfl⟩⟩
end

section
variable {P : Program} {w : World} {K : PySem.W.Frag} {mg : Str → Option Value} {base : Heap}
/-! ### == -/
def ctEq (K : PySem.W.Frag) (C : Addr) (n : Nat) : Ct := fun vs H P => ∃ (x y : W) (v u : V), vs = [v, u] ∧ isW K C x v H ∧ isW K C y u H ∧ x.depth ≤ n ∧ y.depth ≤ n ∧ Wf 6 x ∧ Wf 6 y ∧ (textW x).length ≤ 50000 ∧ (textW y).length ≤ 50000 ∧ P = isB (decide (textW x = textW y))
theorem sc_eq : FnScope ["self", "other"] ["self", "other"] (C8.fnScope (wmet 16)) := C8.fnScope_by (by decide +kernel)
theorem ok_eq (T : Fx K w mg) (n : Nat) : C8.Met P w K mg base (2 * n + 2) T.C "__eq__" (spC (ctEq K T.C n)) [] := by
  refine met_of (k := 2 * n + 1) T.cl T.me_meq T.d_meq T.b_meq sc_eq (fun vs H W ⟨_, _, _, _, e, _⟩ => by rw [e]; rfl) fun cdv A outer s H vs Q E W hr hC hQ => ?_
  obtain ⟨x, y, v, u, rfl, hx, hy, d1, d2, w1, w2, l1, l2, rfl⟩ := hC
  refine c_ret (P := isB (decide (textW x = textW y))) (EvE.is (x_andB (x_isC (u := y) T.z_isinstance T.inC (x_var (P := isW K T.C y) 1 rfl hy) (x_glob T.mC rfl)) fun _ => x_eq (v := .str (lS (textW x))) (w := .str (lS (textW y))) (x_wmet0 (ok_text T n) hr (x_var (P := isW K T.C x) 0 rfl hx) fun v H1 _ hv => ⟨x, v, rfl, hv, d1, w1, l1, rfl⟩) (x_wmet0 (ok_text T n) hr (x_var (P := isW K T.C y) 1 rfl hy) fun v H1 _ hv => ⟨y, v, rfl, hv, d2, w2, l2, rfl⟩)) ?_) hQ
  congr 1
  rw [Bool.true_and, Bool.eq_iff_iff, decide_eq_true_iff, decide_eq_true_iff]
  constructor
  · intro h; exact lS_inj (V.str.inj h)
  · intro h; rw [h]

/-! ### bars -/
def barsL (n : Nat) : List (Int × Int) := (List.range (n + 1)).flatMap fun (a : Nat) => ((List.range (n + 1)).filter fun (b : Nat) => decide ((a : Int) ≤ (b : Int))).map fun (b : Nat) => ((a : Int), (b : Int))
def isBar (K : PySem.W.Frag) (b : Int × Int) : Wd := tupP K [isI b.1, isI b.2]
theorem nl_isBar {K : PySem.W.Frag} {b : Int × Int} : NL (isBar K b) := nl_tupP fun P hP => by
  simp at hP
  rcases hP with rfl | rfl <;> exact nl_isv
def ctBars (K : PySem.W.Frag) : Ct := fun vs H P => ∃ pat : List Bool, vs = [.str (pstr pat)] ∧ pat.length ≤ 6 ∧ P = lstP K ((barsL pat.length).map (isBar K))
theorem sc_bars : FnScope ["pattern", "places", "first", "last"] ["pattern"] (C8.fnScope (top 15)) := C8.fnScope_by (by decide +kernel)
theorem ok_bars (T : Fx K w mg) : C8.Cal P w K mg base 1 "all_bars" (spC (ctBars K)) [] := by
  refine cal_of T.d_all_bars T.b_all_bars .nil sc_bars (fun vs H W ⟨_, e, _⟩ => by rw [e]; rfl) fun cdv A outer s H vs Q E W hr hC hQ => ?_
  obtain ⟨pat, rfl, hl, rfl⟩ := hC
  have hlen : (pstr pat).length ≤ 1000 := by rw [pstr_len]; omega
  refine c_asg (k := 1) (P := lstP K ((List.range (pat.length + 1)).map fun (i : Nat) => isI (i : Int))) (x_lstRange T.z_list T.z_range (EvE.is (x_add (x_lenS T.z_len (x_var (P := isS (pstr pat)) 0 rfl rfl) hlen) x_int) (by rw [pstr_len]; rfl)) (by omega)) (fun v H1 e1 hv => ?_) sc_bars.nd
  have hbl : (barsL pat.length).map (isBar K) = (List.range (pat.length + 1)).flatMap fun (a : Nat) => ((List.range (pat.length + 1)).filter fun (b : Nat) => decide ((a : Int) ≤ (b : Int))).map fun (b : Nat) => isBar K ((a : Int), (b : Int)) := by
    simp only [barsL, List.map_flatMap, List.map_map]
    rfl
  rw [hbl] at hQ
  refine c_ret (x_lc2 (k1 := 2) (k2 := 3) (q := fun (i : Nat) => isI (i : Int)) (q2 := fun (i : Nat) => isI (i : Int)) (f := fun (a b : Nat) => decide ((a : Int) ≤ (b : Int))) (p := fun (a b : Nat) => isBar K ((a : Int), (b : Int))) (src_list (x_var 1 rfl hv)) (by decide) ?_ (fun _ _ _ _ => nl_isBar) (fun _ _ => nl_isv) (fun z _ v2 s H0 C cl fp => srcB_var (k := 1) rfl hv)
    (fun z hz wv hw v2 u H2 e2 h1 h2 s H0 C cl fp => ⟨t_le (x_var 2 rfl h1) (x_var 3 rfl h2), fun _ => x_tup (a_cons (x_var 2 rfl h1) (a_cons (x_var 3 rfl h2) a_nil))⟩) sc_bars.nd (blkOk_by (N := ["pattern", "places", "first", "last"]) (sc := C8.fnScope (top 15)) (by decide +kernel)) (fun _ _ _ _ _ => pg_name sc_bars.nd rfl (Or.inl rfl)) (fun _ _ _ _ _ => pg_name sc_bars.nd rfl (Or.inl rfl))) fun v2 H2 e2 h2 => hQ v2 H2 (e1.trans e2) h2
  have : (pat.length + 1) * (pat.length + 1) ≤ 7 * 7 := Nat.mul_le_mul (by omega) (by omega)
  rw [List.length_range]; omega
end
end WK
end
section
set_option maxRecDepth 100000
set_option maxHeartbeats 1000000
namespace WK
open PySem PySem.Spec PyProof.Rows L2 FU
open Evl (Ex)
open MR (W Wf textW brk mkW inB ar)

section
variable {P : Program} {w : World} {K : PySem.W.Frag} {mg : Str → Option Value} {base : Heap}
/-! ### need_fitting -/
def ctFit (K : PySem.W.Frag) (C : Addr) (n : Nat) : Ct := fun vs H P => ∃ (pat : List Bool) (ws : List V) (us : List W), vs = .str (pstr pat) :: ws ∧ Alls (us.map (isW K C)) ws H ∧ pat.length ≤ 6 ∧ (∀ u ∈ us, Wf pat.length u ∧ u.depth ≤ n) ∧ us.length ≤ 10 ∧ P = isN
theorem sc_fit : FnScope ["pattern", "words", "word"] ["pattern", "words"] (C8.fnScope (top 24)) := C8.fnScope_by (by decide +kernel)
theorem ok_fit (T : Fx K w mg) (n : Nat) : CalR P w K mg base (2 * n + 4) "need_fitting" (ctFit K T.C n) := by
  refine ⟨T.f_need_fitting, ?_, T.d_need_fitting.mgf, T.d_need_fitting.kp⟩
  obtain ⟨oc, od, dV, kV, doc, pm, an, cdv, ct, osl, efd, lk, hcd⟩ := T.d_need_fitting.fn.ex
  have hdf := T.df_need_fitting
  generalize T.fd_need_fitting = fd at efd lk hdf
  subst efd
  have hdV : dV = .none := hdf
  subst hdV
  refine FnR.imp (StX.fn_star (ps := ["pattern"]) (pv := "words") (k := 2 * n + 3) (N := ["pattern", "words", "word"]) (sp := fun vs H Q _ => ∃ (pat : List Bool) (p : Addr) (us : List W), vs = [.str (pstr pat), .ref p] ∧ tupP K (us.map (isW K T.C)) (.ref p) H ∧ pat.length ≤ 6 ∧ (∀ u ∈ us, Wf pat.length u ∧ u.depth ≤ n) ∧ us.length ≤ 10 ∧ ∀ H', Ex H H' → Q .non H') lk hcd sc_fit (fun _ _ _ _ _ _ _ _ _ _ _ z => z) (StX.bind_star1 (B := fun l => bindArgs (PySem.W.fnOf "need_fitting" "need_fitting" (C8.fnArgs (top 24)) (C8.fnBody (top 24)) (C8.fnScope (top 24)) .none kV doc pm an cdv ct) ⟨l, []⟩) (p1 := "pattern") (pv := "words") (fun a => rfl) (fun a r rs => rfl)) fun A outer s H vs Q E hr h => ?_) fun vs H Q E h => ?_
  · obtain ⟨pat, p, us, rfl, hp, hl, hus, hlen, hQ⟩ := h
    refine ⟨_, rSs.nox, ?_⟩
    show wSs (cxOf C8.CX0 P w K mg base ["pattern", "words", "word"] "need_fitting" (C8.fnScope (top 24)) T.f_need_fitting cdv A outer s H E).nox (C8.fnBody (top 24)) _ (start ["pattern", "words", "word"] [.str (pstr pat), .ref p]) H
    refine c_expr (x_cal (P := isN) (ok_needpat T) hr (a_cons (x_var (P := isS (pstr pat)) 0 rfl rfl) a_nil) fun vs H1 _ hv => ⟨pat, (Alls.isv (xs := [.str (pstr pat)])).mp hv, hl, rfl⟩) fun _ H1 e1 _ => ?_
    have hp1 := (tupP K (us.map (isW K T.C))).st e1 hp
    refine c_for (k := 2) (src_tup (x_var (P := tupP K (us.map (isW K T.C))) 1 rfl hp1)) (fun H2 i σ' H' => (∃ y, σ' = [some (.str (pstr pat)), some (.ref p), y]) ∧ Ex H2 H') (fun H2 _ => ⟨⟨none, rfl⟩, Ex.refl _⟩) (fun _ _ _ _ h => h.2) (fun H2 i z σ' H' e2 hz h y H3 e3 hy => ?_) (fun H2 σ' H' e2 h => ?_) sc_fit.nd
    · obtain ⟨⟨y0, rfl⟩, e4⟩ := h
      have hm := List.mem_of_getElem? hz
      refine c_skip (t_not (t_val (b' := true) (x_wmet (ok_fits T n) hr (x_var (P := isW K T.C z) 2 rfl hy) (a_cons (x_var (P := isS (pstr pat)) 0 rfl rfl) a_nil) fun v vs H5 _ hv hvs => ?_))) (fun H5 e5 => c_nil ⟨⟨_, rfl⟩, (e4.trans e3).trans e5⟩)
      have ev := (Alls.isv (xs := [.str (pstr pat)])).mp hvs
      subst ev
      exact ⟨z, v, pat, rfl, hv, hl, (hus z hm).1, (hus z hm).2, rfl⟩
    · obtain ⟨⟨y0, rfl⟩, e4⟩ := h
      exact c_nil (hQ _ ((e1.trans e2).trans e4))
  · obtain ⟨Wd, ⟨pat, ws, us, rfl, hal, hl, hus, hlen, rfl⟩, q⟩ := h
    have hlw : ws.length = us.length := by rw [hal.len, List.length_map]
    refine ⟨[.str (pstr pat)], ws, rfl, rfl, Evl.sz_of (by omega), fun p hp => ⟨pat, p, us, rfl, ⟨p, ws, rfl, Evl.st_of upd_same, hal.ex (Ex.new hp)⟩, hl, hus, hlen, fun H' e => q _ _ ((Ex.new hp).trans e) rfl⟩⟩

/-! ### marks -/
def ctMark (K : PySem.W.Frag) (C : Addr) (n : Nat) : Ct := fun vs H P => ∃ (pat : List Bool) (u : W) (bar : Int × Int) (v b : V), vs = [.str (pstr pat), v, b] ∧ isW K C u v H ∧ isBar K bar b H ∧ pat.length ≤ 6 ∧ Wf pat.length u ∧ u.depth ≤ n ∧ P = isI (MR.b2i (mkW pat bar.1 bar.2 u))
theorem sc_mark : FnScope ["pattern", "word", "bar", "found", "came", "index", "part"] ["pattern", "word", "bar"] (C8.fnScope (top 25)) := C8.fnScope_by (by decide +kernel)
theorem int_0 : PySem.intText? ("0" : Str) = some 0 := by decide +kernel
theorem int_1 : PySem.intText? ("1" : Str) = some 1 := by decide +kernel
theorem pat_at {pat : List Bool} {i : Int} (h0 : 0 ≤ i) (h1 : i < pat.length) : (pstr pat).cps.toList[i.toNat]? = some (pc (ar pat i)) := by
  rw [pstr_list, List.getElem?_map]
  unfold ar
  rw [List.getD_eq_getElem?_getD, List.getElem?_eq_getElem (by omega)]
  rfl
theorem eq_gt (b : Bool) : decide (V.str ⟨#[pc b]⟩ = V.str (">" : Str)) = b := by
  rw [str_gt]
  cases b <;> decide +kernel
theorem ok_mark (T : Fx K w mg) : ∀ n : Nat, C8.Cal P w K mg base (n + 3) "mark" (spC (ctMark K T.C n)) [] := by
  intro n
  induction n with
  | zero =>
    refine cal_of T.d_mark T.b_mark .nil sc_mark (fun vs H W ⟨_, _, _, _, _, e, _⟩ => by rw [e]; rfl) fun cdv A outer s H vs Q E W hr hC hQ => ?_
    obtain ⟨pat, u, bar, v, b, rfl, hu, hb, hl, hw, hd, rfl⟩ := hC
    obtain ⟨t, p, rfl⟩ : ∃ b p, u = .leaf b p := by cases u <;> simp [W.depth] at hd; exact ⟨_, _, rfl⟩
    refine c_if (b' := !inB bar.1 bar.2 p) (t_not (t_chain (x_ixT (k := 0) (Ps := [isI bar.1, isI bar.2]) (x_var (P := isBar K bar) 2 rfl hb) x_int rfl) (x_wprop (ok_place T) T.cl hr (x_var (P := isW K T.C (.leaf t p)) 1 rfl hu) fun v H1 _ hv => ⟨_, v, rfl, hv, rfl⟩) (x_ixT (k := 1) (Ps := [isI bar.1, isI bar.2]) (x_var (P := isBar K bar) 2 rfl hb) x_int rfl))) (fun hz H1 e1 => ?_) fun hz H1 e1 => ?_
    · have hz' : inB bar.1 bar.2 p = false := by simpa using hz
      refine c_ret (EvE.is x_int ?_) fun v H2 e2 hv => hQ v H2 (e1.trans e2) hv
      simp [mkW, hz', MR.b2i]
    · have hz' : inB bar.1 bar.2 p = true := by simpa using hz
      have hu1 := (isW K T.C (.leaf t p)).st e1 hu
      refine c_nil ?_
      refine c_if (b' := true) (EvT.is (t_inT (v := .str (sgn (.leaf t p))) (xs := [.str "0", .str "1"]) (x_wprop (ok_sign T) T.cl hr (x_var (P := isW K T.C (.leaf t p)) 1 rfl hu1) fun v H1 _ hv => ⟨_, v, rfl, hv, rfl⟩) (x_tup (a_cons x_str (a_cons x_str a_nil)))) (in_01 _)) (fun _ H2 e2 => ?_) fun z => by cases z
      have hu2 := (isW K T.C (.leaf t p)).st e2 hu1
      refine c_ret (EvE.is (x_intS (z := sgn (.leaf t p)) (n := MR.b2i t) T.z_int (x_wprop (ok_sign T) T.cl hr (x_var (P := isW K T.C (.leaf t p)) 1 rfl hu2) fun v H1 _ hv => ⟨_, v, rfl, hv, rfl⟩) (by cases t; exact int_0; exact int_1) (by cases t; exact (by decide +kernel : (("0" : Str)).length ≤ 640); exact (by decide +kernel : (("1" : Str)).length ≤ 640))) ?_) fun v H3 e3 hv => hQ v H3 ((e1.trans e2).trans e3) hv
      simp [mkW, hz']
  | succ n ih =>
    refine cal_of (k := n + 3) T.d_mark T.b_mark .nil sc_mark (fun vs H W ⟨_, _, _, _, _, e, _⟩ => by rw [e]; rfl) fun cdv A outer s H vs Q E W hr hC hQ => ?_
    obtain ⟨pat, u, bar, v, b, rfl, hu, hb, hl, hw, hd, rfl⟩ := hC
    have hmk : ∀ (X : Cx), X.prog = P → X.w = w → X.K = K → X.mg = mg → X.base = base → C8.Cal X.prog X.w X.K X.mg X.base (n + 3) "mark" (spC (ctMark K T.C n)) [] := fun X h1 h2 h3 h4 h5 => by rw [h1, h2, h3, h4, h5]; exact ih
    refine c_if (b' := !inB bar.1 bar.2 u.place) (t_not (t_chain (x_ixT (k := 0) (Ps := [isI bar.1, isI bar.2]) (x_var (P := isBar K bar) 2 rfl hb) x_int rfl) (x_wprop (ok_place T) T.cl hr (x_var (P := isW K T.C u) 1 rfl hu) fun v H1 _ hv => ⟨_, v, rfl, hv, rfl⟩) (x_ixT (k := 1) (Ps := [isI bar.1, isI bar.2]) (x_var (P := isBar K bar) 2 rfl hb) x_int rfl))) (fun hz H1 e1 => ?_) fun hz H1 e1 => ?_
    · have hz' : inB bar.1 bar.2 u.place = false := by simpa using hz
      refine c_ret (EvE.is x_int ?_) fun v H2 e2 hv => hQ v H2 (e1.trans e2) hv
      rw [MR.mkW_out hz']; rfl
    have hz' : inB bar.1 bar.2 u.place = true := by simpa using hz
    have hu1 := (isW K T.C u).st e1 hu
    have hb1 := (isBar K bar).st e1 hb
    refine c_nil ?_
    have hpl := Wf.pl hw
    refine c_if (b' := isLeaf u) (EvT.is (t_inT (v := .str (sgn u)) (xs := [.str "0", .str "1"]) (x_wprop (ok_sign T) T.cl hr (x_var (P := isW K T.C u) 1 rfl hu1) fun v H1 _ hv => ⟨_, v, rfl, hv, rfl⟩) (x_tup (a_cons x_str (a_cons x_str a_nil)))) (in_01 _)) (fun hlf H2 e2 => ?_) fun hlf H2 e2 => ?_
    · obtain ⟨t, p, rfl⟩ : ∃ b p, u = .leaf b p := by cases u <;> first | exact ⟨_, _, rfl⟩ | cases hlf
      have hu2 := (isW K T.C (.leaf t p)).st e2 hu1
      refine c_ret (EvE.is (x_intS (z := sgn (.leaf t p)) (n := MR.b2i t) T.z_int (x_wprop (ok_sign T) T.cl hr (x_var (P := isW K T.C (.leaf t p)) 1 rfl hu2) fun v H1 _ hv => ⟨_, v, rfl, hv, rfl⟩) (by cases t; exact int_0; exact int_1) (by cases t; exact (by decide +kernel : (("0" : Str)).length ≤ 640); exact (by decide +kernel : (("1" : Str)).length ≤ 640))) ?_) fun v H3 e3 hv => hQ v H3 ((e1.trans e2).trans e3) hv
      have hz2 : inB bar.1 bar.2 p = true := hz'
      simp [mkW, hz2]
    have hu2 := (isW K T.C u).st e2 hu1
    have hb2 := (isBar K bar).st e2 hb1
    refine c_nil ?_
    -- the parts' marks
    refine c_asgLc (i := 3) (k := 6) (q := isW K T.C) (p := fun q => isI (MR.b2i (mkW pat bar.1 bar.2 q))) (src_tup (zs := u.parts) (x_wprop (ok_parts T) T.cl hr (x_var (P := isW K T.C u) 1 rfl hu2) fun v H1 _ hv => ⟨_, v, rfl, hv, rfl⟩)) (by have := parts_len u; omega) (fun _ _ => nl_isv) (fun q hq y H3 e3 hy s H0 C cl fp => ?_) (fun fv H3 e3 hf => ?_) sc_mark.nd (blkOk_by (N := ["pattern", "word", "bar", "found", "came", "index", "part"]) (sc := C8.fnScope (top 25)) (by decide +kernel)) (fun _ _ _ _ _ => pg_name sc_mark.nd rfl (Or.inl rfl))
    · refine x_cal (hmk _ rfl rfl rfl rfl rfl) hr (a_cons (x_var (P := isS (pstr pat)) 0 rfl rfl) (a_cons (x_var (P := isW K T.C q) 6 rfl hy) (a_cons (x_var (P := isBar K bar) 2 rfl ((isBar K bar).st e3 hb2)) a_nil))) fun vs H4 _ hvs => ?_
      obtain ⟨a1, a2, a3, rfl, h1, h2, h3⟩ := Alls.three hvs
      cases h1
      exact ⟨pat, q, bar, a2, a3, rfl, h2, h3, hl, parts_wf hw hq, by have := parts_depth hq; omega, rfl⟩
    have hu3 := (isW K T.C u).st e3 hu2
    have hb3 := (isBar K bar).st e3 hb2
    have hf' : lstP K ((u.parts.map fun q => MR.b2i (mkW pat bar.1 bar.2 q)).map fun i => isI i) fv H3 := by rw [List.map_map]; exact hf
    refine c_if (b' := u.isAdd) (EvT.is (t_eq (v := .str (sgn u)) (w := .str "+") (x_wprop (ok_sign T) T.cl hr (x_var (P := isW K T.C u) 1 rfl hu3) fun v H1 _ hv => ⟨_, v, rfl, hv, rfl⟩) x_str) (is_pl u)) (fun hs H4 e4 => ?_) fun hs H4 e4 => ?_
    · obtain ⟨x, y, rfl⟩ : ∃ x y, u = .add x y := by cases u <;> first | exact ⟨_, _, rfl⟩ | cases hs
      have hf4 := (lstP K _).st e4 hf'
      have hz2 : inB bar.1 bar.2 x.place = true := hz'
      refine c_ret (EvE.is (x_maxL (m := MR.b2i (mkW pat bar.1 bar.2 x || mkW pat bar.1 bar.2 y)) T.z_max (x_var 3 rfl hf4) ?_ ?_) ?_) fun v H5 e5 hv => hQ v H5 ((((e1.trans e2).trans e3).trans e4).trans e5) hv
      · show _ ∈ [MR.b2i (mkW pat bar.1 bar.2 x), MR.b2i (mkW pat bar.1 bar.2 y)]
        cases mkW pat bar.1 bar.2 x <;> cases mkW pat bar.1 bar.2 y <;> decide
      · show ∀ z ∈ [MR.b2i (mkW pat bar.1 bar.2 x), MR.b2i (mkW pat bar.1 bar.2 y)], _
        cases mkW pat bar.1 bar.2 x <;> cases mkW pat bar.1 bar.2 y <;> decide
      · simp [mkW, hz2]
    have hu4 := (isW K T.C u).st e4 hu3
    refine c_nil ?_
    refine c_if (b' := u.isMeet) (EvT.is (t_eq (v := .str (sgn u)) (w := .str "&") (x_wprop (ok_sign T) T.cl hr (x_var (P := isW K T.C u) 1 rfl hu4) fun v H1 _ hv => ⟨_, v, rfl, hv, rfl⟩) x_str) (is_am u)) (fun hs2 H5 e5 => ?_) fun hs2 H5 e5 => ?_
    · obtain ⟨x, y, rfl⟩ : ∃ x y, u = .meet x y := by cases u <;> first | exact ⟨_, _, rfl⟩ | cases hs2
      have hf4 := (lstP K _).st (e4.trans e5) hf'
      have hz2 : inB bar.1 bar.2 x.place = true := hz'
      refine c_ret (EvE.is (x_minL (m := MR.b2i (mkW pat bar.1 bar.2 x && mkW pat bar.1 bar.2 y)) T.z_min (x_var 3 rfl hf4) ?_ ?_) ?_) fun v H6 e6 hv => hQ v H6 (((((e1.trans e2).trans e3).trans e4).trans e5).trans e6) hv
      · show _ ∈ [MR.b2i (mkW pat bar.1 bar.2 x), MR.b2i (mkW pat bar.1 bar.2 y)]
        cases mkW pat bar.1 bar.2 x <;> cases mkW pat bar.1 bar.2 y <;> decide
      · show ∀ z ∈ [MR.b2i (mkW pat bar.1 bar.2 x), MR.b2i (mkW pat bar.1 bar.2 y)], _
        cases mkW pat bar.1 bar.2 x <;> cases mkW pat bar.1 bar.2 y <;> decide
      · simp [mkW, hz2]
    have hu5 := (isW K T.C u).st e5 hu4
    have hb5 := (isBar K bar).st (e4.trans e5) hb3
    have hf5 := (lstP K _).st (e4.trans e5) hf
    refine c_nil ?_
    obtain ⟨q, hq⟩ : ∃ q, u.parts = [q] := by
      cases u with
      | leaf b p => cases hlf
      | rt x => exact ⟨x, rfl⟩
      | lf x => exact ⟨x, rfl⟩
      | add x y => cases hs
      | meet x y => cases hs2
    have hm : q ∈ u.parts := by rw [hq]; exact List.mem_cons_self
    have hplq := Wf.pl (parts_wf hw hm)
    refine c_asg (k := 4) (P := isI q.place) (x_wprop (ok_place T) T.cl hr (x_ixT (k := 0) (P := isW K T.C q) (x_wprop (ok_parts T) T.cl hr (x_var (P := isW K T.C u) 1 rfl hu5) fun v H1 _ hv => ⟨_, v, rfl, hv, rfl⟩) x_int (by rw [hq]; rfl)) fun v H1 _ hv => ⟨_, v, rfl, hv, rfl⟩) (fun z H6 e6 hz6 => ?_) sc_mark.nd
    cases hz6
    have hu6 := (isW K T.C u).st e6 hu5
    refine c_asg (k := 5) (P := isI (min q.place u.place)) (x_min2 T.z_min (x_var (P := isI q.place) 4 rfl rfl) (x_wprop (ok_place T) T.cl hr (x_var (P := isW K T.C u) 1 rfl hu6) fun v H1 _ hv => ⟨_, v, rfl, hv, rfl⟩)) (fun z H7 e7 hz7 => ?_) sc_mark.nd
    cases hz7
    have hu7 := (isW K T.C u).st e7 hu6
    have hb7 := (isBar K bar).st (e6.trans e7) hb5
    have hf7 := (lstP K _).st (e6.trans e7) hf5
    have eH : Ex H H7 := (((((e1.trans e2).trans e3).trans e4).trans e5).trans e6).trans e7
    refine c_if (b' := inB bar.1 bar.2 q.place) (t_chain (x_ixT (k := 0) (Ps := [isI bar.1, isI bar.2]) (x_var (P := isBar K bar) 2 rfl hb7) x_int rfl) (x_var (P := isI q.place) 4 rfl rfl) (x_ixT (k := 1) (Ps := [isI bar.1, isI bar.2]) (x_var (P := isBar K bar) 2 rfl hb7) x_int rfl)) (fun hin H8 e8 => ?_) fun hin H8 e8 => ?_
    · refine c_ret (EvE.is (x_ixL (k := 0) (P := isI (MR.b2i (mkW pat bar.1 bar.2 q))) (x_var 3 rfl ((lstP K _).st e8 hf7)) x_int (by rw [hq]; rfl)) ?_) fun v H9 e9 hv => hQ v H9 ((eH.trans e8).trans e9) hv
      cases u with
      | leaf b p => cases hlf
      | add x y => cases hs
      | meet x y => cases hs2
      | rt x =>
        obtain rfl : x = q := by simpa [W.parts] using hq
        have hz2 : inB bar.1 bar.2 (x.place + 1) = true := hz'
        simp [mkW, hz2, hin]
      | lf x =>
        obtain rfl : x = q := by simpa [W.parts] using hq
        have hz2 : inB bar.1 bar.2 (x.place - 1) = true := hz'
        simp [mkW, hz2, hin]
    have hu8 := (isW K T.C u).st e8 hu7
    refine c_nil ?_
    have hidx : 0 ≤ min q.place u.place ∧ min q.place u.place < pat.length := by
      cases u with
      | leaf b p => cases hlf
      | add x y => cases hs
      | meet x y => cases hs2
      | rt x =>
        obtain rfl : x = q := by simpa [W.parts] using hq
        have h2 : 0 ≤ x.place + 1 ∧ x.place + 1 ≤ pat.length := hpl
        show 0 ≤ min x.place (x.place + 1) ∧ min x.place (x.place + 1) < _
        omega
      | lf x =>
        obtain rfl : x = q := by simpa [W.parts] using hq
        have h2 : 0 ≤ x.place - 1 ∧ x.place - 1 ≤ pat.length := hpl
        show 0 ≤ min x.place (x.place - 1) ∧ min x.place (x.place - 1) < _
        omega
    have hnat : ((min q.place u.place).toNat : Int) = min q.place u.place := by omega
    refine c_ret (EvE.is (x_intB (k := !decide (V.bl (ar pat (min q.place u.place)) = V.bl (decide (q.place < u.place)))) T.z_int (x_ne (v := .bl (ar pat (min q.place u.place))) (w := .bl (decide (q.place < u.place))) (EvE.is (x_eq (v := .str ⟨#[pc (ar pat (min q.place u.place))]⟩) (w := .str ">") (x_ixS (k := (min q.place u.place).toNat) (z := pstr pat) (x_var (P := isS (pstr pat)) 0 rfl rfl) (by rw [hnat]; exact x_var (P := isI (min q.place u.place)) 5 rfl rfl) (by rw [pstr_len]; omega) (pat_at hidx.1 hidx.2)) x_str) (by rw [eq_gt])) (x_gt (x_wprop (ok_place T) T.cl hr (x_var (P := isW K T.C u) 1 rfl hu8) fun v H1 _ hv => ⟨_, v, rfl, hv, rfl⟩) (x_var (P := isI q.place) 4 rfl rfl)))) ?_) fun v H9 e9 hv => hQ v H9 ((eH.trans e8).trans e9) hv
    cases u with
    | leaf b p => cases hlf
    | add x y => cases hs
    | meet x y => cases hs2
    | rt x =>
      obtain rfl : x = q := by simpa [W.parts] using hq
      have hz2 : inB bar.1 bar.2 (x.place + 1) = true := hz'
      have e1 : min x.place (W.rt x).place = x.place := by show min x.place (x.place + 1) = _; omega
      have e2 : decide (x.place < (W.rt x).place) = true := decide_eq_true (by show x.place < x.place + 1; omega)
      rw [e1, e2]
      simp only [mkW, hz2, hin]
      cases ar pat x.place <;> rfl
    | lf x =>
      obtain rfl : x = q := by simpa [W.parts] using hq
      have hz2 : inB bar.1 bar.2 (x.place - 1) = true := hz'
      have e1 : min x.place (W.lf x).place = x.place - 1 := by show min x.place (x.place - 1) = _; omega
      have e2 : decide (x.place < (W.lf x).place) = false := decide_eq_false (by show ¬ x.place < x.place - 1; omega)
      rw [e1, e2]
      simp only [mkW, hz2, hin]
      cases ar pat (x.place - 1) <;> rfl
end
end WK
end
section
set_option maxRecDepth 100000
set_option maxHeartbeats 1000000
namespace WK
open PySem PySem.Spec PyProof.Rows L2 FU
open Evl (Ex)
open MR (W Wf textW brk mkW inB ar)

/-- None, or not -/
def isOpt (b : Bool) : Wd := ⟨fun v _ => decide (v = .non) = b, fun _ h => h⟩
section
variable {X : Cx} {σ : L2.St} {H : Hp} {a b : Expr} {pos : Pos} {r : Bool}
theorem x_isNP (ha : EvE X a σ H (isOpt r)) (hb : EvE X b σ H isN) : EvE X (.Compare a [.Is] [b] pos) σ H (isB r) := x_cmp op_isN ha hb (fun x y H1 _ hx hy Q q => by
  cases hy
  refine ⟨rfl, ?_⟩
  have hx : decide (x = .non) = r := hx
  rw [hx]
  exact q H1 (Ex.refl _)) (nomark _)
theorem sqL_put {K : PySem.W.Frag} {H : Hp} {a l : Addr} {xs ys zs : List V} (h : SqL K H a xs) (hl : H l = some (.lst ys)) (hne : xs ≠ ys) : SqL K (upd H l (.lst zs)) a xs := by
  rcases h with h | h
  · refine .inl ?_
    rcases h with h | ⟨o, h⟩
    · have : a ≠ l := fun z => by subst z; rw [hl] at h; cases h; exact hne rfl
      exact .inl (by rw [upd_ne this]; exact h)
    · have : a ≠ l := fun z => by subst z; rw [hl] at h; cases h
      exact .inr ⟨o, by rw [upd_ne this]; exact h⟩
  · exact .inr h
end

section
variable {P : Program} {w : World} {K : PySem.W.Frag} {mg : Str → Option Value} {base : Heap}
/-! ### pairs -/
def ctPair (K : PySem.W.Frag) (C : Addr) (n : Nat) (R : List Bool → W → W → Wd) : Ct := fun vs H P => ∃ (pat : List Bool) (x y : W) (v u : V), vs = [.str (pstr pat), v, u] ∧ isW K C x v H ∧ isW K C y u H ∧ pat.length ≤ 6 ∧ Wf pat.length x ∧ Wf pat.length y ∧ x.place = y.place ∧ x.depth ≤ n ∧ y.depth ≤ n ∧ P = R pat x y
theorem ctPair.len {C : Addr} {n : Nat} {R : List Bool → W → W → Wd} {vs : List V} {H : Hp} {W : Wd} (h : ctPair K C n R vs H W) : vs.length = 3 := by
  obtain ⟨_, _, _, _, _, e, _⟩ := h
  rw [e]; rfl
theorem sc_pair : FnScope ["pattern", "one", "other"] ["pattern", "one", "other"] (C8.fnScope (top 27)) := C8.fnScope_by (by decide +kernel)
theorem ok_pair (T : Fx K w mg) (n : Nat) : C8.Cal P w K mg base (2 * n + 5) "need_pair" (spC (ctPair K T.C n fun _ _ _ => isN)) [] := by
  refine cal_of (k := 2 * n + 4) T.d_need_pair T.b_need_pair .nil sc_pair (fun vs H W h => ctPair.len h) fun cdv A outer s H vs Q E W hr hC hQ => ?_
  obtain ⟨pat, x, y, v, u, rfl, hx, hy, hl, wx, wy, hp, dx, dy, rfl⟩ := hC
  refine c_expr (x_calR (P := isN) (ok_fit T n) hr (a_cons (x_var (P := isS (pstr pat)) 0 rfl rfl) (a_cons (x_var (P := isW K T.C x) 1 rfl hx) (a_cons (x_var (P := isW K T.C y) 2 rfl hy) a_nil))) fun vs H1 _ hvs => ?_) (fun _ H1 e1 _ => ?_)
  · obtain ⟨a, b, c, rfl, ha, hb, hc⟩ := Alls.three hvs
    cases ha
    refine ⟨pat, [b, c], [x, y], rfl, ⟨hb, hc, trivial⟩, hl, fun z hz => ?_, by simp, rfl⟩
    simp at hz
    rcases hz with rfl | rfl
    · exact ⟨wx, dx⟩
    · exact ⟨wy, dy⟩
  have hx1 := (isW K T.C x).st e1 hx
  have hy1 := (isW K T.C y).st e1 hy
  refine c_skip (t_ne (x_wprop (P := isI x.place) (ok_place T) T.cl hr (x_var (P := isW K T.C x) 1 rfl hx1) fun v H1 _ hv => ⟨_, v, rfl, hv, rfl⟩) (x_wprop (P := isI y.place) (ok_place T) T.cl hr (x_var (P := isW K T.C y) 2 rfl hy1) fun v H1 _ hv => ⟨_, v, rfl, hv, rfl⟩)) (fun H2 e2 => ?_) (by simp [hp])
  exact c_nil (hQ _ _ (e1.trans e2) rfl)

def allEq (pat : List Bool) (x y : W) : Bool := (barsL pat.length).all fun b => decide (mkW pat b.1 b.2 x = mkW pat b.1 b.2 y)
def allLe (pat : List Bool) (x y : W) : Bool := (barsL pat.length).all fun b => decide (mkW pat b.1 b.2 x = true → mkW pat b.1 b.2 y = true)
theorem all_take {α : Type} {f : α → Bool} {l : List α} {i : Nat} {z : α} (h : (l.take i).all f = true) (hz : l[i]? = some z) (hf : f z = true) : (l.take (i + 1)).all f = true := by
  rw [List.take_succ, hz, List.all_append, h]
  simp [hf]
theorem all_not {α : Type} {f : α → Bool} {l : List α} {i : Nat} {z : α} (hz : l[i]? = some z) (hf : f z = false) : l.all f = false := by
  rw [List.all_eq_false]
  exact ⟨z, List.mem_of_getElem? hz, by simp [hf]⟩
theorem b2i_ne (a b : Bool) : (!decide (V.int (MR.b2i a) = V.int (MR.b2i b))) = !decide (a = b) := by cases a <;> cases b <;> decide
theorem b2i_gt (a b : Bool) : decide (MR.b2i b < MR.b2i a) = !decide (a = true → b = true) := by cases a <;> cases b <;> decide
theorem sc_parting : FnScope ["pattern", "one", "other", "bar"] ["pattern", "one", "other"] (C8.fnScope (top 28)) := C8.fnScope_by (by decide +kernel)
theorem sc_breach : FnScope ["pattern", "one", "other", "bar"] ["pattern", "one", "other"] (C8.fnScope (top 29)) := C8.fnScope_by (by decide +kernel)
theorem ok_parting (T : Fx K w mg) (n : Nat) : C8.Cal P w K mg base (2 * n + 6) "parting" (spC (ctPair K T.C n fun pat x y => isOpt (allEq pat x y))) [] := by
  refine cal_of (k := 2 * n + 5) T.d_parting T.b_parting .nil sc_parting (fun vs H W h => ctPair.len h) fun cdv A outer s H vs Q E W hr hC hQ => ?_
  obtain ⟨pat, x, y, v, u, rfl, hx, hy, hl, wx, wy, hp, dx, dy, rfl⟩ := hC
  refine c_expr (x_cal (P := isN) (ok_pair T n) hr (a_cons (x_var (P := isS (pstr pat)) 0 rfl rfl) (a_cons (x_var (P := isW K T.C x) 1 rfl hx) (a_cons (x_var (P := isW K T.C y) 2 rfl hy) a_nil))) fun vs H1 _ hvs => ?_) (fun _ H1 e1 _ => ?_)
  · obtain ⟨a, b, c, rfl, ha, hb, hc⟩ := Alls.three hvs
    cases ha
    exact ⟨pat, x, y, b, c, rfl, hb, hc, hl, wx, wy, hp, dx, dy, rfl⟩
  refine c_for (k := 3) (zs := barsL pat.length) (q := isBar K) (src_list (x_cal (ok_bars T) hr (a_cons (x_var (P := isS (pstr pat)) 0 rfl rfl) a_nil) fun vs H1 _ hv => ⟨pat, (Alls.isv (xs := [.str (pstr pat)])).mp hv, hl, rfl⟩)) (fun H2 i σ' H' => (∃ z, σ' = [some (.str (pstr pat)), some v, some u, z]) ∧ Ex H2 H' ∧ ((barsL pat.length).take i).all (fun b => decide (mkW pat b.1 b.2 x = mkW pat b.1 b.2 y)) = true) (fun H2 _ => ⟨⟨none, rfl⟩, Ex.refl _, by simp⟩) (fun _ _ _ _ h => h.2.1) (fun H2 i z σ' H' e2 hz h b H3 e3 hb => ?_) (fun H2 σ' H' e2 h => ?_) sc_parting.nd
  · obtain ⟨⟨z0, rfl⟩, e4, hall⟩ := h
    have ee : Ex H H3 := ((e1.trans e2).trans e4).trans e3
    refine c_if (b' := !decide (mkW pat z.1 z.2 x = mkW pat z.1 z.2 y)) (EvT.is (t_ne (v := .int (MR.b2i (mkW pat z.1 z.2 x))) (w := .int (MR.b2i (mkW pat z.1 z.2 y))) (x_cal (ok_mark T n) hr (a_cons (x_var (P := isS (pstr pat)) 0 rfl rfl) (a_cons (x_var (P := isW K T.C x) 1 rfl ((isW K T.C x).st ee hx)) (a_cons (x_var (P := isBar K z) 3 rfl hb) a_nil))) fun vs H4 _ hvs => ?_) (x_cal (ok_mark T n) hr (a_cons (x_var (P := isS (pstr pat)) 0 rfl rfl) (a_cons (x_var (P := isW K T.C y) 2 rfl ((isW K T.C y).st ee hy)) (a_cons (x_var (P := isBar K z) 3 rfl hb) a_nil))) fun vs H4 _ hvs => ?_)) (b2i_ne _ _)) (fun hc H4 e5 => ?_) fun hc H4 e5 => ?_
    · obtain ⟨a1, a2, a3, rfl, h1, h2, h3⟩ := Alls.three hvs
      cases h1
      exact ⟨pat, x, z, a2, a3, rfl, h2, h3, hl, wx, dx, rfl⟩
    · obtain ⟨a1, a2, a3, rfl, h1, h2, h3⟩ := Alls.three hvs
      cases h1
      exact ⟨pat, y, z, a2, a3, rfl, h2, h3, hl, wy, dy, rfl⟩
    · refine c_ret (x_var (P := isBar K z) 3 rfl ((isBar K z).st e5 hb)) fun v H5 e6 hv => hQ v H5 ((ee.trans e5).trans e6) ?_
      obtain ⟨p, xs, rfl, _⟩ := hv
      show decide (V.ref p = V.non) = allEq pat x y
      have : allEq pat x y = false := all_not hz (by simpa using hc)
      rw [this]; rfl
    · refine c_nil (c_nil ⟨⟨_, rfl⟩, (e4.trans e3).trans e5, all_take hall hz (by simpa using hc)⟩)
  · obtain ⟨⟨z0, rfl⟩, e4, hall⟩ := h
    rw [List.take_length] at hall
    refine c_ret x_none fun v H5 e6 hv => hQ v H5 (((e1.trans e2).trans e4).trans e6) ?_
    cases hv
    show decide (V.non = V.non) = allEq pat x y
    have : allEq pat x y = true := hall
    rw [this]; rfl
theorem ok_breach (T : Fx K w mg) (n : Nat) : C8.Cal P w K mg base (2 * n + 6) "breach" (spC (ctPair K T.C n fun pat x y => isOpt (allLe pat x y))) [] := by
  refine cal_of (k := 2 * n + 5) T.d_breach T.b_breach .nil sc_breach (fun vs H W h => ctPair.len h) fun cdv A outer s H vs Q E W hr hC hQ => ?_
  obtain ⟨pat, x, y, v, u, rfl, hx, hy, hl, wx, wy, hp, dx, dy, rfl⟩ := hC
  refine c_expr (x_cal (P := isN) (ok_pair T n) hr (a_cons (x_var (P := isS (pstr pat)) 0 rfl rfl) (a_cons (x_var (P := isW K T.C x) 1 rfl hx) (a_cons (x_var (P := isW K T.C y) 2 rfl hy) a_nil))) fun vs H1 _ hvs => ?_) (fun _ H1 e1 _ => ?_)
  · obtain ⟨a, b, c, rfl, ha, hb, hc⟩ := Alls.three hvs
    cases ha
    exact ⟨pat, x, y, b, c, rfl, hb, hc, hl, wx, wy, hp, dx, dy, rfl⟩
  refine c_for (k := 3) (zs := barsL pat.length) (q := isBar K) (src_list (x_cal (ok_bars T) hr (a_cons (x_var (P := isS (pstr pat)) 0 rfl rfl) a_nil) fun vs H1 _ hv => ⟨pat, (Alls.isv (xs := [.str (pstr pat)])).mp hv, hl, rfl⟩)) (fun H2 i σ' H' => (∃ z, σ' = [some (.str (pstr pat)), some v, some u, z]) ∧ Ex H2 H' ∧ ((barsL pat.length).take i).all (fun b => decide (mkW pat b.1 b.2 x = true → mkW pat b.1 b.2 y = true)) = true) (fun H2 _ => ⟨⟨none, rfl⟩, Ex.refl _, by simp⟩) (fun _ _ _ _ h => h.2.1) (fun H2 i z σ' H' e2 hz h b H3 e3 hb => ?_) (fun H2 σ' H' e2 h => ?_) sc_breach.nd
  · obtain ⟨⟨z0, rfl⟩, e4, hall⟩ := h
    have ee : Ex H H3 := ((e1.trans e2).trans e4).trans e3
    refine c_if (b' := !decide (mkW pat z.1 z.2 x = true → mkW pat z.1 z.2 y = true)) (EvT.is (t_gt (i := MR.b2i (mkW pat z.1 z.2 x)) (j := MR.b2i (mkW pat z.1 z.2 y)) (x_cal (ok_mark T n) hr (a_cons (x_var (P := isS (pstr pat)) 0 rfl rfl) (a_cons (x_var (P := isW K T.C x) 1 rfl ((isW K T.C x).st ee hx)) (a_cons (x_var (P := isBar K z) 3 rfl hb) a_nil))) fun vs H4 _ hvs => ?_) (x_cal (ok_mark T n) hr (a_cons (x_var (P := isS (pstr pat)) 0 rfl rfl) (a_cons (x_var (P := isW K T.C y) 2 rfl ((isW K T.C y).st ee hy)) (a_cons (x_var (P := isBar K z) 3 rfl hb) a_nil))) fun vs H4 _ hvs => ?_)) (b2i_gt _ _)) (fun hc H4 e5 => ?_) fun hc H4 e5 => ?_
    · obtain ⟨a1, a2, a3, rfl, h1, h2, h3⟩ := Alls.three hvs
      cases h1
      exact ⟨pat, x, z, a2, a3, rfl, h2, h3, hl, wx, dx, rfl⟩
    · obtain ⟨a1, a2, a3, rfl, h1, h2, h3⟩ := Alls.three hvs
      cases h1
      exact ⟨pat, y, z, a2, a3, rfl, h2, h3, hl, wy, dy, rfl⟩
    · refine c_ret (x_var (P := isBar K z) 3 rfl ((isBar K z).st e5 hb)) fun v H5 e6 hv => hQ v H5 ((ee.trans e5).trans e6) ?_
      obtain ⟨p, xs, rfl, _⟩ := hv
      show decide (V.ref p = V.non) = allLe pat x y
      have : allLe pat x y = false := all_not hz (by simpa using hc)
      rw [this]; rfl
    · refine c_nil (c_nil ⟨⟨_, rfl⟩, (e4.trans e3).trans e5, all_take hall hz (by have := hc; revert this; cases mkW pat z.1 z.2 x <;> cases mkW pat z.1 z.2 y <;> simp)⟩)
  · obtain ⟨⟨z0, rfl⟩, e4, hall⟩ := h
    rw [List.take_length] at hall
    refine c_ret x_none fun v H5 e6 hv => hQ v H5 (((e1.trans e2).trans e4).trans e6) ?_
    cases hv
    show decide (V.non = V.non) = allLe pat x y
    have : allLe pat x y = true := hall
    rw [this]; rfl
theorem sc_same : FnScope ["pattern", "one", "other"] ["pattern", "one", "other"] (C8.fnScope (top 30)) := C8.fnScope_by (by decide +kernel)
theorem sc_within : FnScope ["pattern", "one", "other"] ["pattern", "one", "other"] (C8.fnScope (top 31)) := C8.fnScope_by (by decide +kernel)
theorem ok_same (T : Fx K w mg) (n : Nat) : C8.Cal P w K mg base (2 * n + 7) "same" (spC (ctPair K T.C n fun pat x y => isB (allEq pat x y))) [] := by
  refine cal_of (k := 2 * n + 6) T.d_same T.b_same .nil sc_same (fun vs H W h => ctPair.len h) fun cdv A outer s H vs Q E W hr hC hQ => ?_
  obtain ⟨pat, x, y, v, u, rfl, hx, hy, hl, wx, wy, hp, dx, dy, rfl⟩ := hC
  refine c_ret (x_isNP (x_cal (ok_parting T n) hr (a_cons (x_var (P := isS (pstr pat)) 0 rfl rfl) (a_cons (x_var (P := isW K T.C x) 1 rfl hx) (a_cons (x_var (P := isW K T.C y) 2 rfl hy) a_nil))) fun vs H1 _ hvs => ?_) x_none) hQ
  obtain ⟨a, b, c, rfl, ha, hb, hc⟩ := Alls.three hvs
  cases ha
  exact ⟨pat, x, y, b, c, rfl, hb, hc, hl, wx, wy, hp, dx, dy, rfl⟩
theorem ok_within (T : Fx K w mg) (n : Nat) : C8.Cal P w K mg base (2 * n + 7) "within" (spC (ctPair K T.C n fun pat x y => isB (allLe pat x y))) [] := by
  refine cal_of (k := 2 * n + 6) T.d_within T.b_within .nil sc_within (fun vs H W h => ctPair.len h) fun cdv A outer s H vs Q E W hr hC hQ => ?_
  obtain ⟨pat, x, y, v, u, rfl, hx, hy, hl, wx, wy, hp, dx, dy, rfl⟩ := hC
  refine c_ret (x_isNP (x_cal (ok_breach T n) hr (a_cons (x_var (P := isS (pstr pat)) 0 rfl rfl) (a_cons (x_var (P := isW K T.C x) 1 rfl hx) (a_cons (x_var (P := isW K T.C y) 2 rfl hy) a_nil))) fun vs H1 _ hvs => ?_) x_none) hQ
  obtain ⟨a, b, c, rfl, ha, hb, hc⟩ := Alls.three hvs
  cases ha
  exact ⟨pat, x, y, b, c, rfl, hb, hc, hl, wx, wy, hp, dx, dy, rfl⟩
end
end WK
end
section
set_option maxRecDepth 100000
set_option maxHeartbeats 1000000
namespace WK
open PySem PySem.Spec PyProof.Rows L2 FU
open Evl (Ex)
open MR (W Wf textW brk mkW inB ar bth eds)

section
variable {P : Program} {w : World} {K : PySem.W.Frag} {mg : Str → Option Value} {base : Heap}
/-! ### a pattern and one of its places -/
def ctPlaceOf (R : List Bool → Nat → Wd) : Ct := fun vs H P => ∃ (pat : List Bool) (p : Nat), vs = [.str (pstr pat), .int p] ∧ pat.length ≤ 6 ∧ p ≤ pat.length ∧ P = R pat p
theorem ctPlaceOf.len {R : List Bool → Nat → Wd} {vs : List V} {H : Hp} {W : Wd} (h : ctPlaceOf R vs H W) : vs.length = 2 := by
  obtain ⟨_, _, e, _⟩ := h
  rw [e]; rfl
theorem sc_npo : FnScope ["pattern", "place"] ["pattern", "place"] (C8.fnScope (top 32)) := C8.fnScope_by (by decide +kernel)
theorem ok_npo (T : Fx K w mg) : C8.Cal P w K mg base 3 "need_place_of" (spC (ctPlaceOf fun _ _ => isN)) [] := by
  refine cal_of (k := 2) T.d_need_place_of T.b_need_place_of .nil sc_npo (fun vs H W h => ctPlaceOf.len h) fun cdv A outer s H vs Q E W hr hC hQ => ?_
  obtain ⟨pat, p, rfl, hl, hp, rfl⟩ := hC
  refine c_expr (x_cal (P := isN) (ok_needpat T) hr (a_cons (x_var (P := isS (pstr pat)) 0 rfl rfl) a_nil) fun vs H1 _ hv => ⟨pat, (Alls.isv (xs := [.str (pstr pat)])).mp hv, hl, rfl⟩) (fun _ H1 e1 _ => ?_)
  refine c_skip (t_not (t_val (x_cal (P := isB true) (ok_isint T) hr (a_cons (x_var (P := isI p) 1 rfl rfl) (a_cons (x_int (i := 0)) (a_cons (x_lenS T.z_len (x_var (P := isS (pstr pat)) 0 rfl rfl) (by rw [pstr_len]; omega)) a_nil))) fun vs H2 _ hv => ⟨p, 0, (pstr pat).length, (Alls.isv (xs := [.int p, .int 0, .int (pstr pat).length])).mp hv, ?_⟩))) (fun H2 e2 => ?_)
  · rw [pstr_len]
    congr 2
    simp
    omega
  · exact c_nil (hQ _ _ (e1.trans e2) rfl)
theorem eq_lt (b : Bool) : decide (V.str ⟨#[pc b]⟩ = V.str ("<" : Str)) = !b := by
  cases b <;> decide +kernel
theorem sc_births : FnScope ["pattern", "place", "found", "other"] ["pattern", "place"] (C8.fnScope (top 33)) := C8.fnScope_by (by decide +kernel)
theorem sc_ends : FnScope ["pattern", "place", "found", "other"] ["pattern", "place"] (C8.fnScope (top 34)) := C8.fnScope_by (by decide +kernel)
abbrev isL (K : PySem.W.Frag) (l : List Int) : Wd := lstP K (l.map fun i => isI i)
theorem ok_births (T : Fx K w mg) : C8.Cal P w K mg base 4 "births" (spC (ctPlaceOf fun pat p => isL K (bth pat p))) [] := by
  refine cal_of (k := 3) T.d_births T.b_births .nil sc_births (fun vs H W h => ctPlaceOf.len h) fun cdv A outer s H vs Q E W hr hC hQ => ?_
  obtain ⟨pat, p, rfl, hl, hp, rfl⟩ := hC
  refine c_expr (x_cal (P := isN) (ok_npo T) hr (a_cons (x_var (P := isS (pstr pat)) 0 rfl rfl) (a_cons (x_var (P := isI p) 1 rfl rfl) a_nil)) fun vs H1 _ hv => ⟨pat, p, (Alls.isv (xs := [.str (pstr pat), .int p])).mp hv, hl, hp, rfl⟩) (fun _ H1 e1 _ => ?_)
  refine c_asg (k := 2) (P := isL K (bth pat 0)) (x_lst (a_cons (x_int (i := 0)) a_nil) (by show (1 : Nat) ≤ 100000; decide)) (fun v H2 e2 hv => ?_) sc_births.nd
  refine c_for (k := 3) (src_r2 (lo := 1) (hi := (p : Int) + 1) x_int (x_add (x_var (P := isI p) 1 rfl rfl) x_int) (by omega) T.z_range) (fun H3 i σ' H' => (∃ v z, σ' = [some (.str (pstr pat)), some (.int p), some v, z] ∧ isL K (bth pat i) v H') ∧ Ex H3 H') (fun H3 e3 => ⟨⟨v, none, rfl, (isL K (bth pat 0)).st e3 hv⟩, Ex.refl _⟩) (fun _ _ _ _ h => h.2) (fun H3 i z σ' H' e3 hz h b H4 e4 hb => ?_) (fun H3 σ' H' e3 h => ?_) sc_births.nd
  · obtain ⟨⟨v, z0, rfl, hv⟩, e5⟩ := h
    obtain ⟨rfl, hi⟩ := range_get hz
    have hb : b = .int (1 + z) := hb
    subst hb
    have hv4 := (isL K (bth pat z)).st e4 hv
    have hz6 : z < pat.length := by omega
    refine c_asg (k := 2) (P := isL K (bth pat (z + 1))) (x_if (b' := ar pat z) (EvT.is (t_eq (x_ixS (k := z) (x_var (P := isS (pstr pat)) 0 rfl rfl) (EvE.is (x_sub (x_var (P := isI (1 + z)) 3 rfl rfl) x_int) (by congr 1; omega)) (by rw [pstr_len]; omega) (pat_at (i := (z : Int)) (by omega) (by omega))) x_str) (eq_gt _)) (fun hc => ?_) fun hc => ?_) (fun v5 H5 e6 h5 => ?_) sc_births.nd
    · have e : (bth pat (z + 1)).map (fun i => isI i) = ((bth pat z).map fun i => isI i) ++ [isI (1 + z)] := by
        have : (1 + (z : Int)) = ((z + 1 : Nat) : Int) := by omega
        rw [bth, if_pos hc, List.map_append, this]; rfl
      show EvE _ _ _ _ (lstP K _)
      rw [e]
      exact x_lst (a_starL (x_var (P := isL K (bth pat z)) 2 rfl hv4) (a_cons (x_var (P := isI (1 + z)) 3 rfl rfl) a_nil)) (by simp [MR.bth_len]; omega)
    · have e : (bth pat (z + 1)).map (fun i => isI i) = isI (1 + z) :: (((bth pat z).map fun i => isI i) ++ []) := by
        have : (1 + (z : Int)) = ((z + 1 : Nat) : Int) := by omega
        rw [bth, if_neg (by rw [hc]; decide), this, List.append_nil]; rfl
      show EvE _ _ _ _ (lstP K _)
      rw [e]
      exact x_lst (a_cons (x_var (P := isI (1 + z)) 3 rfl rfl) (a_starL (x_var (P := isL K (bth pat z)) 2 rfl hv4) a_nil)) (by simp [MR.bth_len]; omega)
    · exact c_nil ⟨⟨v5, _, rfl, h5⟩, (e5.trans e4).trans e6⟩
  · obtain ⟨⟨v, z0, rfl, hv⟩, e5⟩ := h
    rw [List.length_range] at hv
    have : ((p : Int) + 1 - 1).toNat = p := by omega
    rw [this] at hv
    refine c_ret (x_var (P := isL K (bth pat p)) 2 rfl hv) fun v6 H6 e6 h6 => hQ v6 H6 ((((e1.trans e2).trans e3).trans e5).trans e6) h6
theorem ok_ends (T : Fx K w mg) : C8.Cal P w K mg base 4 "ends" (spC (ctPlaceOf fun pat p => isL K (eds pat (pat.length - p)))) [] := by
  refine cal_of (k := 3) T.d_ends T.b_ends .nil sc_ends (fun vs H W h => ctPlaceOf.len h) fun cdv A outer s H vs Q E W hr hC hQ => ?_
  obtain ⟨pat, p, rfl, hl, hp, rfl⟩ := hC
  have hln : (pstr pat).length ≤ 1000 := by rw [pstr_len]; omega
  refine c_expr (x_cal (P := isN) (ok_npo T) hr (a_cons (x_var (P := isS (pstr pat)) 0 rfl rfl) (a_cons (x_var (P := isI p) 1 rfl rfl) a_nil)) fun vs H1 _ hv => ⟨pat, p, (Alls.isv (xs := [.str (pstr pat), .int p])).mp hv, hl, hp, rfl⟩) (fun _ H1 e1 _ => ?_)
  refine c_asg (k := 2) (P := isL K (eds pat 0)) (x_lst (a_cons (EvE.is (x_lenS T.z_len (x_var (P := isS (pstr pat)) 0 rfl rfl) hln) (by rw [pstr_len])) a_nil) (by show (1 : Nat) ≤ 100000; decide)) (fun v H2 e2 hv => ?_) sc_ends.nd
  refine c_for (k := 3) (src_down (hi := (pat.length : Int) - 1) (lo := (p : Int) - 1) (EvE.is (x_sub (x_lenS T.z_len (x_var (P := isS (pstr pat)) 0 rfl rfl) hln) x_int) (by rw [pstr_len])) (x_sub (x_var (P := isI p) 1 rfl rfl) x_int) (x_neg x_int) (by omega) T.z_range) (fun H3 i σ' H' => (∃ v z, σ' = [some (.str (pstr pat)), some (.int p), some v, z] ∧ isL K (eds pat i) v H') ∧ Ex H3 H') (fun H3 e3 => ⟨⟨v, none, rfl, (isL K (eds pat 0)).st e3 hv⟩, Ex.refl _⟩) (fun _ _ _ _ h => h.2) (fun H3 i z σ' H' e3 hz h b H4 e4 hb => ?_) (fun H3 σ' H' e3 h => ?_) sc_ends.nd
  · obtain ⟨⟨v, z0, rfl, hv⟩, e5⟩ := h
    obtain ⟨rfl, hi⟩ := range_get hz
    have hb : b = .int ((pat.length : Int) - 1 - z) := hb
    subst hb
    have hv4 := (isL K (eds pat z)).st e4 hv
    have hz6 : (pat.length : Int) - 1 - z = ((pat.length - 1 - z : Nat) : Int) := by omega
    have hz7 : (pat.length : Int) - ((z + 1 : Nat) : Int) = (pat.length : Int) - 1 - z := by omega
    refine c_asg (k := 2) (P := isL K (eds pat (z + 1))) (x_if (b' := !ar pat ((pat.length : Int) - 1 - z)) (EvT.is (t_eq (x_ixS (k := pat.length - 1 - z) (x_var (P := isS (pstr pat)) 0 rfl rfl) (EvE.is (x_var (P := isI ((pat.length : Int) - 1 - z)) 3 rfl rfl) (by rw [hz6])) (by rw [pstr_len]; omega) (pat_at (i := ((pat.length - 1 - z : Nat) : Int)) (by omega) (by omega))) x_str) (by rw [hz6]; exact eq_lt _)) (fun hc => ?_) fun hc => ?_) (fun v5 H5 e6 h5 => ?_) sc_ends.nd
    · have e : (eds pat (z + 1)).map (fun i => isI i) = ((eds pat z).map fun i => isI i) ++ [isI ((pat.length : Int) - 1 - z)] := by
        rw [eds, hz7, if_neg (by simpa using hc), List.map_append]; rfl
      show EvE _ _ _ _ (lstP K _)
      rw [e]
      exact x_lst (a_starL (x_var (P := isL K (eds pat z)) 2 rfl hv4) (a_cons (x_var (P := isI ((pat.length : Int) - 1 - z)) 3 rfl rfl) a_nil)) (by simp [MR.eds_len]; omega)
    · have e : (eds pat (z + 1)).map (fun i => isI i) = isI ((pat.length : Int) - 1 - z) :: (((eds pat z).map fun i => isI i) ++ []) := by
        rw [eds, hz7, if_pos (by simpa using hc), List.append_nil]; rfl
      show EvE _ _ _ _ (lstP K _)
      rw [e]
      exact x_lst (a_cons (x_var (P := isI ((pat.length : Int) - 1 - z)) 3 rfl rfl) (a_starL (x_var (P := isL K (eds pat z)) 2 rfl hv4) a_nil)) (by simp [MR.eds_len]; omega)
    · exact c_nil ⟨⟨v5, _, rfl, h5⟩, (e5.trans e4).trans e6⟩
  · obtain ⟨⟨v, z0, rfl, hv⟩, e5⟩ := h
    rw [List.length_range] at hv
    have : ((pat.length : Int) - 1 - ((p : Int) - 1)).toNat = pat.length - p := by omega
    rw [this] at hv
    refine c_ret (x_var (P := isL K (eds pat (pat.length - p))) 2 rfl hv) fun v6 H6 e6 h6 => hQ v6 H6 ((((e1.trans e2).trans e3).trans e5).trans e6) h6
end
end WK
end
section
set_option maxRecDepth 100000
set_option maxHeartbeats 1000000
namespace WK
open PySem PySem.Spec PyProof.Rows L2 FU
open Evl (Ex)
open MR (W Wf textW brk mkW inB ar bth eds birthsL endsL rowN stairW lws rws)

/-- all but one list stands as it was -/
def Off (l : Addr) (H H' : Hp) : Prop := ∀ b o, b ≠ l → H b = some o → H' b = some o
theorem Off.refl {l : Addr} {H : Hp} : Off l H H := fun _ _ _ h => h
theorem Off.ex {l : Addr} {H H1 H2 : Hp} (a : Off l H H1) (e : Ex H1 H2) : Off l H H2 := fun b o n h => e _ _ (a b o n h)
theorem Off.trans {l : Addr} {H H1 H2 : Hp} (a : Off l H H1) (e : Off l H1 H2) : Off l H H2 := fun b o n h => e b o n (a b o n h)
theorem Off.put {l : Addr} {H : Hp} {u : HO} : Off l H (upd H l u) := fun b o n h => by rw [upd_ne n]; exact h
theorem Off.exs {l : Addr} {H H' : Hp} {xs : List V} (hl : H l = some (.lst xs)) (a : Off l H H') : Exs H H' := fun b o h n => a b o (fun z => by subst z; rw [hl] at h; cases h; exact n xs rfl) h
theorem Off.new {l : Addr} {H H' : Hp} (hl : H l = none) (a : Off l H H') : Ex H H' := fun b o h => a b o (fun z => by subst z; rw [hl] at h; cases h) h
theorem sqL_off {K : PySem.W.Frag} {H H' : Hp} {a l : Addr} {xs : List V} (h : SqL K H a xs) (hl : H l = none ∨ ∃ ys, H l = some (.lst ys) ∧ xs ≠ ys) (e : Off l H H') : SqL K H' a xs := by
  have hne : ∀ o, H a = some o → (o = .lst xs ∨ ∀ ys, o ≠ .lst ys) → a ≠ l := fun o ho hx z => by
    subst z
    rcases hl with hl | ⟨ys, hl, hy⟩
    · rw [hl] at ho; cases ho
    · rw [hl] at ho; cases ho
      rcases hx with hx | hx
      · cases hx; exact hy rfl
      · exact hx ys rfl
  rcases h with h | h
  · refine .inl ?_
    rcases h with h | ⟨o, h⟩
    · exact .inl (e _ _ (hne _ h (.inl rfl)) h)
    · exact .inr ⟨o, e _ _ (hne _ h (.inr fun ys z => by cases z)) h⟩
  · exact .inr h

theorem sum_b2i {α : Type} (f : α → Bool) : ∀ l : List α, (l.map fun b => MR.b2i (f b)).sum = ((l.countP f : Nat) : Int)
  | [] => rfl
  | a :: l => by
    rw [List.map_cons, List.sum_cons, sum_b2i f l, List.countP_cons]
    cases f a <;> simp [MR.b2i] <;> omega
theorem take_snoc {α : Type} {l : List α} {i : Nat} {z : α} (hz : l[i]? = some z) : l.take (i + 1) = l.take i ++ [z] := by
  rw [List.take_succ, hz]; rfl
theorem ints_of {K : PySem.W.Frag} {l : List Int} {v : V} {H : Hp} (h : isL K l v H) : ∃ p, v = .ref p ∧ SqL K H p (l.map V.int) := lst_ints h
theorem ints_to {K : PySem.W.Frag} {l : List Int} {p : Addr} {H : Hp} (h : SqL K H p (l.map V.int)) : isL K l (.ref p) H := by
  refine ⟨p, l.map V.int, rfl, h, ?_⟩
  have : l.map (fun i => isI i) = (l.map V.int).map FU.isv := by rw [List.map_map]; rfl
  rw [this]; exact Alls.isv.mpr rfl

section
variable {P : Program} {w : World} {K : PySem.W.Frag} {mg : Str → Option Value} {base : Heap}
/-! ### the stair of a word -/
def ctWord (K : PySem.W.Frag) (C : Addr) (n : Nat) (R : List Bool → W → Wd) : Ct := fun vs H P => ∃ (pat : List Bool) (u : W) (v : V), vs = [.str (pstr pat), v] ∧ isW K C u v H ∧ pat.length ≤ 6 ∧ Wf pat.length u ∧ u.depth ≤ n ∧ P = R pat u
theorem ctWord.len {C : Addr} {n : Nat} {R : List Bool → W → Wd} {vs : List V} {H : Hp} {W : Wd} (h : ctWord K C n R vs H W) : vs.length = 2 := by
  obtain ⟨_, _, _, e, _⟩ := h
  rw [e]; rfl
abbrev isT (K : PySem.W.Frag) (l : List Int) : Wd := tupP K (l.map fun i => isI i)
theorem sc_stair : FnScope ["pattern", "word", "last", "found", "first", "end"] ["pattern", "word"] (C8.fnScope (top 35)) := C8.fnScope_by (by decide +kernel)
theorem ok_stair (T : Fx K w mg) (n : Nat) : C8.Cal P w K mg base (2 * n + 5) "stair" (spC (ctWord K T.C n fun pat u => isT K (stairW pat u))) [] := by
  refine cal_of (k := 2 * n + 4) T.d_stair T.b_stair .nil sc_stair (fun vs H W h => ctWord.len h) fun cdv A outer s H vs Q E W hr hC hQ => ?_
  obtain ⟨pat, u, v, rfl, hu, hl, hw, hd, rfl⟩ := hC
  have hpl := Wf.pl hw
  have hp : u.place = ((u.place.toNat : Nat) : Int) := by omega
  have hmk : ∀ (X : Cx), X.prog = P → X.w = w → X.K = K → X.mg = mg → X.base = base → C8.Cal X.prog X.w X.K X.mg X.base (n + 3) "mark" (spC (ctMark K T.C n)) [] := fun X h1 h2 h3 h4 h5 => by rw [h1, h2, h3, h4, h5]; exact ok_mark T n
  refine c_expr (x_calR (P := isN) (ok_fit T n) hr (a_cons (x_var (P := isS (pstr pat)) 0 rfl rfl) (a_cons (x_var (P := isW K T.C u) 1 rfl hu) a_nil)) fun vs H1 _ hvs => ?_) (fun _ H1 e1 _ => ?_)
  · obtain ⟨a, b, rfl, ha, hb⟩ := Alls.two hvs
    cases ha
    refine ⟨pat, [b], [u], rfl, ⟨hb, trivial⟩, hl, fun z hz => ?_, by simp, rfl⟩
    simp at hz
    subst hz
    exact ⟨hw, hd⟩
  have hu1 := (isW K T.C u).st e1 hu
  refine c_asg (k := 2) (P := isL K (endsL pat u.place)) (x_cal (ok_ends T) hr (a_cons (x_var (P := isS (pstr pat)) 0 rfl rfl) (a_cons (x_wprop (P := isI u.place) (ok_place T) T.cl hr (x_var (P := isW K T.C u) 1 rfl hu1) fun v H1 _ hv => ⟨_, v, rfl, hv, rfl⟩) a_nil)) fun vs H2 _ hv => ⟨pat, u.place.toNat, by rw [← hp]; exact (Alls.isv (xs := [.str (pstr pat), .int u.place])).mp hv, hl, by omega, ?_⟩) (fun v2 H2 e2 hv2 => ?_) sc_stair.nd
  · have : ((pat.length : Int) - u.place).toNat = pat.length - u.place.toNat := by omega
    rw [endsL, this]; rfl
  have hu2 := (isW K T.C u).st e2 hu1
  refine c_asgNew (k := 3) a_nil (fun l xs3 H3 hn3 e3 hl3 hx3 => ?_) sc_stair.nd
  have hu3 := (isW K T.C u).st e3 hu2
  obtain rfl : xs3 = [] := List.length_eq_zero_iff.mp hx3.len
  obtain ⟨a2, rfl, hs2⟩ := ints_of hv2
  refine c_forL (k := 4) (P := isL K (birthsL pat u.place)) (x_cal (ok_births T) hr (a_cons (x_var (P := isS (pstr pat)) 0 rfl rfl) (a_cons (x_wprop (P := isI u.place) (ok_place T) T.cl hr (x_var (P := isW K T.C u) 1 rfl hu3) fun v H1 _ hv => ⟨_, v, rfl, hv, rfl⟩) a_nil)) fun vs H2 _ hv => ⟨pat, u.place.toNat, by rw [← hp]; exact (Alls.isv (xs := [.str (pstr pat), .int u.place])).mp hv, hl, by omega, rfl⟩) (fun v4 H4 e4 hv4 => ?_) sc_stair.nd
  obtain ⟨a4, rfl, hs4⟩ := ints_of hv4
  have hbl : (birthsL pat u.place).length = u.place.toNat + 1 := MR.bth_len _ _
  refine ⟨a4, (birthsL pat u.place).map V.int, rfl, hs4, fun i σ' H' => ∃ z, σ' = [some (.str (pstr pat)), some v, some (.ref a2), some (.ref l), z, none] ∧ Off l H4 H' ∧ H' l = some (.lst (((stairW pat u).take i).map V.int)), ⟨none, rfl, Off.refl, e4 _ _ hl3⟩, fun i σ' H' h => ?_, fun i y σ' H' hy h => ?_, fun σ' H' h => ?_⟩
  · obtain ⟨z, rfl, ho, hl'⟩ := h
    refine sqL_off hs4 (.inr ⟨[], e4 _ _ hl3, fun z => ?_⟩) ho
    have := congrArg List.length z
    rw [List.length_map, hbl] at this
    cases this
  · obtain ⟨z, rfl, ho, hl'⟩ := h
    rw [List.getElem?_map] at hy
    obtain ⟨a, ha, rfl⟩ := Option.map_eq_some_iff.mp hy
    have hE : Exs H4 H' := ho.exs (e4 _ _ hl3)
    have hu' : isW K T.C u v H' := nl_isW hE ((isW K T.C u).st e4 hu3)
    have hlast : isL K (endsL pat u.place) (.ref a2) H' := ints_to (sqL_off hs2 (.inl hn3) (Off.trans (H1 := H4) (fun b o _ h => e4 _ _ (e3 _ _ h)) ho))
    have hst : (stairW pat u)[i]? = some (rowN pat u a : Int) := by
      rw [stairW, List.getElem?_map, ha]; rfl
    have hi : i < (stairW pat u).length := (List.getElem?_eq_some_iff.mp hst).1
    have hsl : (stairW pat u).length = u.place.toNat + 1 := by rw [stairW, List.length_map, hbl]
    have hel : (endsL pat u.place).length ≤ 7 := by rw [endsL, MR.eds_len]; omega
    refine c_append (P := isI (rowN pat u a)) hl' (x_var (P := isv (.ref l)) 3 rfl rfl) (EvE.is (x_sum (ns := (endsL pat u.place).map fun b => MR.b2i (mkW pat a b u)) T.z_sum (EvE.imp (x_lc (k := 5) (q := fun b => isI b) (p := fun b => isI (MR.b2i (mkW pat a b u))) (src_list (zs := endsL pat u.place) (x_var (P := isL K (endsL pat u.place)) 2 rfl hlast)) (by omega) (fun _ _ => nl_isv) (fun b hb y H5 e5 hy s H0 C cl fp => ?_) sc_stair.nd (blkOk_by (N := ["pattern", "word", "last", "found", "first", "end"]) (sc := C8.fnScope (top 35)) (by decide +kernel)) (fun _ _ _ _ _ => pg_name sc_stair.nd rfl (Or.inl rfl))) fun v H1 _ hv => by rw [List.map_map]; exact hv)) (by rw [sum_b2i]; rfl)) ?_ (fun y H5 e5 hy => ?_)
    · refine x_cal (hmk _ rfl rfl rfl rfl rfl) (show Room (n + 3) _ from ?_) (a_cons (x_var (P := isS (pstr pat)) 0 rfl rfl) (a_cons (x_var (P := isW K T.C u) 1 rfl ((isW K T.C u).st e5 hu')) (a_cons (x_tup (a_cons (x_var (P := isI a) 4 rfl rfl) (a_cons (x_var (P := isI b) 5 rfl hy) a_nil))) a_nil))) fun vs H6 _ hvs => ?_
      · exact hr.mono (by omega)
      · obtain ⟨a1, a2, a3, rfl, h1, h2, h3⟩ := Alls.three hvs
        cases h1
        exact ⟨pat, u, (a, b), a2, a3, rfl, h2, h3, hl, hw, hd, rfl⟩
    · rw [List.length_map, List.length_take]; omega
    · cases hy
      refine c_nil ⟨_, rfl, (ho.ex e5).trans Off.put, ?_⟩
      rw [upd_same, take_snoc hst, List.map_append]; rfl
  · obtain ⟨z, rfl, ho, hl'⟩ := h
    have : ((birthsL pat u.place).map V.int).length = (stairW pat u).length := by rw [List.length_map, stairW, List.length_map]
    rw [this, List.take_length] at hl'
    refine c_ret (x_tupL T.z_tuple (x_var (P := isL K (stairW pat u)) 3 rfl (ints_to (.inl (.inl hl'))))) fun v6 H6 e6 h6 => hQ v6 H6 ?_ h6
    exact (((e1.trans e2).trans (Off.new hn3 (Off.trans (H1 := H4) (fun b o _ h => e4 _ _ (e3 _ _ h)) ho)))).trans e6
end
end WK
end
section
set_option maxRecDepth 100000
set_option maxHeartbeats 1000000
namespace WK
open PySem PySem.Spec PyProof.Rows L2 FU
open Evl (Ex)
open MR (W Wf textW brk mkW inB ar bth eds birthsL endsL rowN stairW lws rws corner)

theorem lws_all {pat : List Bool} {n : Nat} (h : n ≤ pat.length) {x : W} (hx : x ∈ lws pat n) : Wf pat.length x ∧ x.place = n := by
  obtain ⟨i, hi, rfl⟩ := List.getElem_of_mem hx
  have := MR.lws_mk n (by omega) i hi
  exact ⟨this.wf, this.pl⟩
theorem rws_all {pat : List Bool} {n : Nat} (h : n ≤ pat.length) {x : W} (hx : x ∈ rws pat n) : Wf pat.length x ∧ x.place = (pat.length : Int) - n := by
  obtain ⟨i, hi, rfl⟩ := List.getElem_of_mem hx
  have := MR.rws_mk n h i hi
  exact ⟨this.wf, this.pl⟩

section
variable {P : Program} {w : World} {K : PySem.W.Frag} {mg : Str → Option Value} {base : Heap}
abbrev isWs (K : PySem.W.Frag) (C : Addr) (l : List W) : Wd := lstP K (l.map (isW K C))
theorem sc_lws : FnScope ["pattern", "place", "found", "other", "led", "word"] ["pattern", "place"] (C8.fnScope (top 36)) := C8.fnScope_by (by decide +kernel)
theorem ok_lws (T : Fx K w mg) : C8.Cal P w K mg base 4 "left_words" (spC (ctPlaceOf fun pat p => isWs K T.C (lws pat p))) [] := by
  refine cal_of (k := 3) T.d_left_words T.b_left_words .nil sc_lws (fun vs H W h => ctPlaceOf.len h) fun cdv A outer s H vs Q E W hr hC hQ => ?_
  obtain ⟨pat, p, rfl, hl, hp, rfl⟩ := hC
  have hrt : ∀ (X : Cx), X.prog = P → X.w = w → X.K = K → X.mg = mg → X.base = base → C8.Met X.prog X.w X.K X.mg X.base 3 T.C "right" (spC (ctRight K T.C)) [] := fun X h1 h2 h3 h4 h5 => by rw [h1, h2, h3, h4, h5]; exact ok_right T
  refine c_asg (k := 2) (P := isWs K T.C (lws pat 0)) (x_lst (a_cons (x_cmeth (P := isW K T.C (.leaf false 0)) (ok_none T) hr (x_glob T.mC rfl) (a_cons (x_int (i := 0)) a_nil) fun vs H1 _ hv => ⟨0, congrArg _ ((Alls.isv (xs := [.int 0])).mp hv), by omega, by omega, rfl⟩) (a_cons (x_cmeth (P := isW K T.C (.leaf true 0)) (ok_whole T) hr (x_glob T.mC rfl) (a_cons (x_int (i := 0)) a_nil) fun vs H1 _ hv => ⟨0, congrArg _ ((Alls.isv (xs := [.int 0])).mp hv), by omega, by omega, rfl⟩) a_nil)) (by show (2 : Nat) ≤ 100000; decide)) (fun v H1 e1 hv => ?_) sc_lws.nd
  refine c_for (k := 3) (src_r2 (lo := 1) (hi := (p : Int) + 1) x_int (x_add (x_var (P := isI p) 1 rfl rfl) x_int) (by omega) T.z_range) (fun H3 i σ' H' => (∃ v z y, σ' = [some (.str (pstr pat)), some (.int p), some v, z, y, none] ∧ isWs K T.C (lws pat i) v H') ∧ Ex H3 H') (fun H3 e3 => ⟨⟨v, none, none, rfl, (isWs K T.C (lws pat 0)).st e3 hv⟩, Ex.refl _⟩) (fun _ _ _ _ h => h.2) (fun H3 i z σ' H' e3 hz h b H4 e4 hb => ?_) (fun H3 σ' H' e3 h => ?_) sc_lws.nd
  · obtain ⟨⟨v, z0, y0, rfl, hv⟩, e5⟩ := h
    obtain ⟨rfl, hi⟩ := range_get hz
    have hb : b = .int (1 + z) := hb
    subst hb
    have hv4 := (isWs K T.C (lws pat z)).st e4 hv
    have hz6 : z < pat.length := by omega
    have hz1 : (1 + (z : Int)) = ((z + 1 : Nat) : Int) := by omega
    have hll : (lws pat z).length = z + 2 := MR.lws_len pat z
    refine c_asgLc (i := 4) (k := 5) (q := isW K T.C) (p := fun q => isW K T.C (.rt q)) (src_list (zs := lws pat z) (x_var (P := isWs K T.C (lws pat z)) 2 rfl hv4)) (by omega) (fun _ _ => nl_isW) (fun q hq y H5 e5 hy s H0 C cl fp => ?_) (fun fv H5 e5 hf => ?_) sc_lws.nd (blkOk_by (N := ["pattern", "place", "found", "other", "led", "word"]) (sc := C8.fnScope (top 36)) (by decide +kernel)) (fun _ _ _ _ _ => pg_name sc_lws.nd rfl (Or.inl rfl))
    · refine x_wmet0 (u := q) (hrt _ rfl rfl rfl rfl rfl) hr (x_var (P := isW K T.C q) 5 rfl hy) fun v H1 _ hv => ⟨q, v, rfl, hv, ?_, ?_, rfl⟩
      · have := (lws_all (by omega) hq).2; omega
      · have := (lws_all (by omega) hq).2; omega
    have hf' : lstP K (((lws pat z).map W.rt).map (isW K T.C)) fv H5 := by rw [List.map_map]; exact hf
    refine c_if (b' := ar pat z) (EvT.is (t_eq (x_ixS (k := z) (x_var (P := isS (pstr pat)) 0 rfl rfl) (EvE.is (x_sub (x_var (P := isI (1 + z)) 3 rfl rfl) x_int) (by congr 1; omega)) (by rw [pstr_len]; omega) (pat_at (i := (z : Int)) (by omega) (by omega))) x_str) (eq_gt _)) (fun hc H6 e6 => ?_) fun hc H6 e6 => ?_
    · have e : (lws pat (z + 1)).map (isW K T.C) = isW K T.C (.leaf false (1 + z)) :: ((((lws pat z).map W.rt).map (isW K T.C)).drop 1 ++ [isW K T.C (.leaf true (1 + z))]) := by
        rw [lws, if_pos hc, List.map_cons, List.map_append, ← hz1, ← List.drop_one, List.map_drop]; rfl
      refine c_asg (k := 2) (P := isWs K T.C (lws pat (z + 1))) ?_ (fun v7 H7 e7 h7 => ?_) sc_lws.nd
      · show EvE _ _ _ _ (lstP K _)
        rw [e]
        exact x_lst (a_cons (x_cmeth (P := isW K T.C (.leaf false (1 + z))) (ok_none T) hr (x_glob T.mC rfl) (a_cons (x_var (P := isI (1 + z)) 3 rfl rfl) a_nil) fun vs H1 _ hv => ⟨1 + z, congrArg _ ((Alls.isv (xs := [.int (1 + z)])).mp hv), by omega, by omega, rfl⟩) (a_starL (x_from (n := 1) (x_var (P := lstP K (((lws pat z).map W.rt).map (isW K T.C))) 4 rfl ((lstP K _).st e6 hf')) (x_int (i := 1)) (by simp [hll]))
          (a_cons (x_cmeth (P := isW K T.C (.leaf true (1 + z))) (ok_whole T) hr (x_glob T.mC rfl) (a_cons (x_var (P := isI (1 + z)) 3 rfl rfl) a_nil) fun vs H1 _ hv => ⟨1 + z, congrArg _ ((Alls.isv (xs := [.int (1 + z)])).mp hv), by omega, by omega, rfl⟩) a_nil))) (by simp [hll]; omega)
      · exact c_nil (c_nil ⟨⟨v7, _, _, rfl, h7⟩, (((by assumption : Ex H3 H').trans e4).trans e5).trans (e6.trans e7)⟩)
    · have e : (lws pat (z + 1)).map (isW K T.C) = isW K T.C (.leaf false (1 + z)) :: ((((lws pat z).map W.rt).map (isW K T.C)).take ((((lws pat z).map W.rt).map (isW K T.C)).length - 1) ++ [isW K T.C (.leaf true (1 + z))]) := by
        rw [lws, if_neg (by rw [hc]; decide), List.map_cons, List.map_append, ← hz1, List.dropLast_eq_take, List.map_take]; simp only [List.length_map]; rfl
      refine c_asg (k := 2) (P := isWs K T.C (lws pat (z + 1))) ?_ (fun v7 H7 e7 h7 => ?_) sc_lws.nd
      · show EvE _ _ _ _ (lstP K _)
        rw [e]
        exact x_lst (a_cons (x_cmeth (P := isW K T.C (.leaf false (1 + z))) (ok_none T) hr (x_glob T.mC rfl) (a_cons (x_var (P := isI (1 + z)) 3 rfl rfl) a_nil) fun vs H1 _ hv => ⟨1 + z, congrArg _ ((Alls.isv (xs := [.int (1 + z)])).mp hv), by omega, by omega, rfl⟩) (a_starL (x_upto (x_var (P := lstP K (((lws pat z).map W.rt).map (isW K T.C))) 4 rfl ((lstP K _).st e6 hf')) (x_neg (x_int (i := 1))) (by simp [hll]))
          (a_cons (x_cmeth (P := isW K T.C (.leaf true (1 + z))) (ok_whole T) hr (x_glob T.mC rfl) (a_cons (x_var (P := isI (1 + z)) 3 rfl rfl) a_nil) fun vs H1 _ hv => ⟨1 + z, congrArg _ ((Alls.isv (xs := [.int (1 + z)])).mp hv), by omega, by omega, rfl⟩) a_nil))) (by simp [hll]; omega)
      · exact c_nil (c_nil ⟨⟨v7, _, _, rfl, h7⟩, (((by assumption : Ex H3 H').trans e4).trans e5).trans (e6.trans e7)⟩)
  · obtain ⟨⟨v, z0, y0, rfl, hv⟩, e5⟩ := h
    rw [List.length_range] at hv
    have : ((p : Int) + 1 - 1).toNat = p := by omega
    rw [this] at hv
    exact c_ret (x_var (P := isWs K T.C (lws pat p)) 2 rfl hv) fun v6 H6 e6 h6 => hQ v6 H6 (((e1.trans e3).trans e5).trans e6) h6
theorem sc_rws : FnScope ["pattern", "place", "last", "found", "other", "led", "word"] ["pattern", "place"] (C8.fnScope (top 37)) := C8.fnScope_by (by decide +kernel)
theorem ok_rws (T : Fx K w mg) : C8.Cal P w K mg base 4 "right_words" (spC (ctPlaceOf fun pat p => isWs K T.C (rws pat (pat.length - p)))) [] := by
  refine cal_of (k := 3) T.d_right_words T.b_right_words .nil sc_rws (fun vs H W h => ctPlaceOf.len h) fun cdv A outer s H vs Q E W hr hC hQ => ?_
  obtain ⟨pat, p, rfl, hl, hp, rfl⟩ := hC
  have hrt : ∀ (X : Cx), X.prog = P → X.w = w → X.K = K → X.mg = mg → X.base = base → C8.Met X.prog X.w X.K X.mg X.base 3 T.C "left" (spC (ctLeft K T.C)) [] := fun X h1 h2 h3 h4 h5 => by rw [h1, h2, h3, h4, h5]; exact ok_left T
  have hln : (pstr pat).length ≤ 1000 := by rw [pstr_len]; omega
  refine c_asg (k := 2) (P := isI pat.length) (EvE.is (x_lenS T.z_len (x_var (P := isS (pstr pat)) 0 rfl rfl) hln) (by rw [pstr_len])) (fun v0 H0 e0 hv0 => ?_) sc_rws.nd
  cases hv0
  refine c_asg (k := 3) (P := isWs K T.C (rws pat 0)) (x_lst (a_cons (x_cmeth (P := isW K T.C (.leaf false pat.length)) (ok_none T) hr (x_glob T.mC rfl) (a_cons (x_var (P := isI pat.length) 2 rfl rfl) a_nil) fun vs H1 _ hv => ⟨pat.length, congrArg _ ((Alls.isv (xs := [.int pat.length])).mp hv), by omega, by omega, rfl⟩) (a_cons (x_cmeth (P := isW K T.C (.leaf true pat.length)) (ok_whole T) hr (x_glob T.mC rfl) (a_cons (x_var (P := isI pat.length) 2 rfl rfl) a_nil) fun vs H1 _ hv => ⟨pat.length, congrArg _ ((Alls.isv (xs := [.int pat.length])).mp hv), by omega, by omega, rfl⟩) a_nil)) (by show (2 : Nat) ≤ 100000; decide)) (fun v H1 e1 hv => ?_) sc_rws.nd
  refine c_for (k := 4) (src_down (hi := (pat.length : Int) - 1) (lo := (p : Int) - 1) (x_sub (x_var (P := isI pat.length) 2 rfl rfl) x_int) (x_sub (x_var (P := isI p) 1 rfl rfl) x_int) (x_neg x_int) (by omega) T.z_range) (fun H3 i σ' H' => (∃ v z y, σ' = [some (.str (pstr pat)), some (.int p), some (.int pat.length), some v, z, y, none] ∧ isWs K T.C (rws pat i) v H') ∧ Ex H3 H') (fun H3 e3 => ⟨⟨v, none, none, rfl, (isWs K T.C (rws pat 0)).st e3 hv⟩, Ex.refl _⟩) (fun _ _ _ _ h => h.2) (fun H3 i z σ' H' e3 hz h b H4 e4 hb => ?_) (fun H3 σ' H' e3 h => ?_) sc_rws.nd
  · obtain ⟨⟨v, z0, y0, rfl, hv⟩, e5⟩ := h
    obtain ⟨rfl, hi⟩ := range_get hz
    have hb : b = .int ((pat.length : Int) - 1 - z) := hb
    subst hb
    have hv4 := (isWs K T.C (rws pat z)).st e4 hv
    have hz6 : z < pat.length := by omega
    have hz1 : (pat.length : Int) - ((z + 1 : Nat) : Int) = (pat.length : Int) - 1 - z := by omega
    have hz8 : (pat.length : Int) - 1 - z = ((pat.length - 1 - z : Nat) : Int) := by omega
    have hll : (rws pat z).length = z + 2 := MR.rws_len pat z
    refine c_asgLc (i := 5) (k := 6) (q := isW K T.C) (p := fun q => isW K T.C (.lf q)) (src_list (zs := rws pat z) (x_var (P := isWs K T.C (rws pat z)) 3 rfl hv4)) (by omega) (fun _ _ => nl_isW) (fun q hq y H5 e5 hy s H0 C cl fp => ?_) (fun fv H5 e5 hf => ?_) sc_rws.nd (blkOk_by (N := ["pattern", "place", "last", "found", "other", "led", "word"]) (sc := C8.fnScope (top 37)) (by decide +kernel)) (fun _ _ _ _ _ => pg_name sc_rws.nd rfl (Or.inl rfl))
    · refine x_wmet0 (u := q) (hrt _ rfl rfl rfl rfl rfl) hr (x_var (P := isW K T.C q) 6 rfl hy) fun v H1 _ hv => ⟨q, v, rfl, hv, ?_, ?_, rfl⟩
      · have := (rws_all (by omega) hq).2; omega
      · have := (rws_all (by omega) hq).2; omega
    have hf' : lstP K (((rws pat z).map W.lf).map (isW K T.C)) fv H5 := by rw [List.map_map]; exact hf
    refine c_if (b' := !ar pat ((pat.length : Int) - 1 - z)) (EvT.is (t_eq (x_ixS (k := pat.length - 1 - z) (x_var (P := isS (pstr pat)) 0 rfl rfl) (EvE.is (x_var (P := isI ((pat.length : Int) - 1 - z)) 4 rfl rfl) (by rw [hz8])) (by rw [pstr_len]; omega) (pat_at (i := ((pat.length - 1 - z : Nat) : Int)) (by omega) (by omega))) x_str) (by rw [hz8]; exact eq_lt _)) (fun hc H6 e6 => ?_) fun hc H6 e6 => ?_
    · have e : (rws pat (z + 1)).map (isW K T.C) = isW K T.C (.leaf false ((pat.length : Int) - 1 - z)) :: ((((rws pat z).map W.lf).map (isW K T.C)).drop 1 ++ [isW K T.C (.leaf true ((pat.length : Int) - 1 - z))]) := by
        rw [rws, hz1, if_neg (by simpa using hc), List.map_cons, List.map_append, ← List.drop_one, List.map_drop]; rfl
      refine c_asg (k := 3) (P := isWs K T.C (rws pat (z + 1))) ?_ (fun v7 H7 e7 h7 => ?_) sc_rws.nd
      · show EvE _ _ _ _ (lstP K _)
        rw [e]
        exact x_lst (a_cons (x_cmeth (P := isW K T.C (.leaf false ((pat.length : Int) - 1 - z))) (ok_none T) hr (x_glob T.mC rfl) (a_cons (x_var (P := isI ((pat.length : Int) - 1 - z)) 4 rfl rfl) a_nil) fun vs H1 _ hv => ⟨(pat.length : Int) - 1 - z, congrArg _ ((Alls.isv (xs := [.int ((pat.length : Int) - 1 - z)])).mp hv), by omega, by omega, rfl⟩) (a_starL (x_from (n := 1) (x_var (P := lstP K (((rws pat z).map W.lf).map (isW K T.C))) 5 rfl ((lstP K _).st e6 hf')) (x_int (i := 1)) (by simp [hll]))
          (a_cons (x_cmeth (P := isW K T.C (.leaf true ((pat.length : Int) - 1 - z))) (ok_whole T) hr (x_glob T.mC rfl) (a_cons (x_var (P := isI ((pat.length : Int) - 1 - z)) 4 rfl rfl) a_nil) fun vs H1 _ hv => ⟨(pat.length : Int) - 1 - z, congrArg _ ((Alls.isv (xs := [.int ((pat.length : Int) - 1 - z)])).mp hv), by omega, by omega, rfl⟩) a_nil))) (by simp [hll]; omega)
      · exact c_nil (c_nil ⟨⟨v7, _, _, rfl, h7⟩, (((by assumption : Ex H3 H').trans e4).trans e5).trans (e6.trans e7)⟩)
    · have e : (rws pat (z + 1)).map (isW K T.C) = isW K T.C (.leaf false ((pat.length : Int) - 1 - z)) :: ((((rws pat z).map W.lf).map (isW K T.C)).take ((((rws pat z).map W.lf).map (isW K T.C)).length - 1) ++ [isW K T.C (.leaf true ((pat.length : Int) - 1 - z))]) := by
        rw [rws, hz1, if_pos (by simpa using hc), List.map_cons, List.map_append, List.dropLast_eq_take, List.map_take]; simp only [List.length_map]; rfl
      refine c_asg (k := 3) (P := isWs K T.C (rws pat (z + 1))) ?_ (fun v7 H7 e7 h7 => ?_) sc_rws.nd
      · show EvE _ _ _ _ (lstP K _)
        rw [e]
        exact x_lst (a_cons (x_cmeth (P := isW K T.C (.leaf false ((pat.length : Int) - 1 - z))) (ok_none T) hr (x_glob T.mC rfl) (a_cons (x_var (P := isI ((pat.length : Int) - 1 - z)) 4 rfl rfl) a_nil) fun vs H1 _ hv => ⟨(pat.length : Int) - 1 - z, congrArg _ ((Alls.isv (xs := [.int ((pat.length : Int) - 1 - z)])).mp hv), by omega, by omega, rfl⟩) (a_starL (x_upto (x_var (P := lstP K (((rws pat z).map W.lf).map (isW K T.C))) 5 rfl ((lstP K _).st e6 hf')) (x_neg (x_int (i := 1))) (by simp [hll]))
          (a_cons (x_cmeth (P := isW K T.C (.leaf true ((pat.length : Int) - 1 - z))) (ok_whole T) hr (x_glob T.mC rfl) (a_cons (x_var (P := isI ((pat.length : Int) - 1 - z)) 4 rfl rfl) a_nil) fun vs H1 _ hv => ⟨(pat.length : Int) - 1 - z, congrArg _ ((Alls.isv (xs := [.int ((pat.length : Int) - 1 - z)])).mp hv), by omega, by omega, rfl⟩) a_nil))) (by simp [hll]; omega)
      · exact c_nil (c_nil ⟨⟨v7, _, _, rfl, h7⟩, (((by assumption : Ex H3 H').trans e4).trans e5).trans (e6.trans e7)⟩)
  · obtain ⟨⟨v, z0, y0, rfl, hv⟩, e5⟩ := h
    rw [List.length_range] at hv
    have : ((pat.length : Int) - 1 - ((p : Int) - 1)).toNat = pat.length - p := by omega
    rw [this] at hv
    exact c_ret (x_var (P := isWs K T.C (rws pat (pat.length - p))) 3 rfl hv) fun v6 H6 e6 h6 => hQ v6 H6 ((((e0.trans e1).trans e3).trans e5).trans e6) h6
end
end WK
end
section
set_option maxRecDepth 100000
set_option maxHeartbeats 1000000
namespace FU.EnT
open PySem
open PySem.AutoSeq1 (wpAny_loadPart')
/-! enumerate over a tuple -/
theorem begin_tup (l : Addr) (items : Array Value) (n : Nat) (dct : Option Addr) (sl : Array (Option Value)) :
    Meets (Builtin.«enumerate.__new__» ⟨[.type "enumerate", .ref l], []⟩) (fun _ R s => s.heap.get? l = some { cls := .type "tuple", dict := dct, data := .seq items n, slots := sl } ∧
      R (.ok (.ret (.ref (s.heap.push { cls := .type "tuple_iterator", data := .fields #[.ref l, .int 0 0] }).objs.size)))
        { s with heap := (s.heap.push { cls := .type "tuple_iterator", data := .fields #[.ref l, .int 0 0] }).push { cls := .type "enumerate", data := .fields #[.none, .bool false, .ref s.heap.objs.size, rawInt 0, .none, .none] } }) :=
  .of_wp fun prog w A R s h => by
    obtain ⟨hp, g, d, tk, os⟩ := s; obtain ⟨hl, h⟩ := h
    have hsub := sub_enumerate
    have hL : Heap.IsTuple (Shared.heap ⟨hp, g, d, tk, os⟩) l items := ⟨_, hl, rfl, n, rfl⟩
    wp_walk using wpAny_loadPart' hl
    refine wpAny_stack_any fun st => wpAny_pure ?_
    split
    · rename_i c _ _ _ _ _
      cases (c == Value.type "enumerate")
      · wp_walk using wpAny_loadPart' hl, wpAny_pyIter_tuple hL
        exact ⟨_, rfl, h⟩
      · wp_walk using wpAny_loadPart' hl, wpAny_pyIter_tuple hL
        exact ⟨_, rfl, h⟩
    · wp_walk using wpAny_loadPart' hl, wpAny_pyIter_tuple hL
      exact ⟨_, rfl, h⟩
theorem called_tup {prog : Program} {w : World} {A : Around} {E : Value → Shared → Prop} {s : Shared} {l : Addr} {items : Array Value} {Q : Value → Shared → Prop} (hL : s.heap.IsTuple l items)
    (h : ∀ h', IsEnum h' (s.heap.objs.size + 1) s.heap.objs.size 0 .none → h'.IsTupleIter s.heap.objs.size l 0 → h'.objs.size = s.heap.objs.size + 2 →
      (∀ b o, s.heap.get? b = some o → h'.get? b = some o) → Q (.ref (s.heap.objs.size + 1)) { s with heap := h' }) :
    wpAny (model prog w) A (call (.type "enumerate") [.ref l]) Q E s := by
  obtain ⟨⟨c, dct, dt, sl⟩, hl, hc, n, hd⟩ := hL
  replace hc : c = .type "tuple" := hc
  replace hd : dt = .seq items n := hd
  subst hc hd
  refine callType_new F.called_enumerate (by decide) (F.typeCall_enumerate_1 _) (F.newCall_enumerate_1 _) (fun obj => F.args_object_init_2 obj _) F.entry_enumerate_new
    (begin_tup l items n dct sl) ⟨hl, ?_⟩
  have hz : (s.heap.push { cls := .type "tuple_iterator", data := .fields #[.ref l, .int 0 0] }).objs.size = s.heap.objs.size + 1 := Heap.size_push ..
  show _ ∧ _
  rw [hz]
  have he : IsEnum ((s.heap.push { cls := .type "tuple_iterator", data := .fields #[.ref l, .int 0 0] }).push
      { cls := .type "enumerate", data := .fields #[.none, .bool false, .ref s.heap.objs.size, rawInt 0, .none, .none] }) (s.heap.objs.size + 1) s.heap.objs.size 0 .none := by
    have := Heap.get?_push_size (s.heap.push { cls := .type "tuple_iterator", data := .fields #[.ref l, .int 0 0] })
      (o := { cls := .type "enumerate", data := .fields #[.none, .bool false, .ref s.heap.objs.size, rawInt 0, .none, .none] }) rfl
    rw [hz] at this; exact this
  refine ⟨⟨_, he, rfl⟩, h _ he ⟨_, Heap.get?_push_of_some _ (Heap.get?_push_size _ rfl), rfl, rfl⟩ (by rw [Heap.size_push, hz]) fun b o x => Heap.get?_push_of_some _ (Heap.get?_push_of_some _ x)⟩
end FU.EnT
namespace FU
open PySem PySem.Spec PyProof.Rows L2
open Evl (Ex)
/-- the tuple at a, each item in a new pair -/
def ItEt (K : PySem.W.Frag) (a : Addr) : It :=
  ⟨fun i H => ∃ (xs : List V) (x : V), SqT K H a xs ∧ xs[i]? = some x, fun i H v H' => ∃ T x, v = .ref T ∧ H T = none ∧ H' = upd H T (.tup [.int (i : Nat), x]) ∧ ∀ xs, SqT K H a xs → xs[i]? = some x, fun i H => ∃ xs : List V, SqT K H a xs ∧ xs.length ≤ i⟩
theorem turn_enT {P : Program} {w : World} {K : PySem.W.Frag} {elts : List Expr} {kk : Nat} {tpos : Pos} (a e it : Addr) :
    Turn P w K (.Tuple elts kk tpos) (ItEt K a) [e, it] e (fun i h => (∃ old, IsEnum h e it ((i : Nat) : Int) old) ∧ h.IsTupleIter it a i ∧ e ≠ it) where
  mem := by simp
  obj := fun i h ⟨⟨_, he⟩, ⟨o, ho, _, hd⟩, _⟩ b hb => by
    rcases List.mem_cons.mp hb with rfl | z
    · exact ⟨_, he, nofun⟩
    · rw [List.mem_singleton.mp z]
      exact ⟨o, ho, fun v q => by rw [hd] at q; cases q⟩
  keep := fun i h h' ⟨⟨old, he⟩, hi, hne⟩ k => ⟨⟨old, k e List.mem_cons_self _ he⟩, hi.at fun o q => k it (List.mem_cons_of_mem _ List.mem_cons_self) o q, hne⟩
  item := by
    intro X hP hw hK hc i pins s σ H E I hf st hg
    subst hP hw hK
    obtain ⟨⟨old, he⟩, hit, hne⟩ := st
    obtain ⟨xs, x, hq, hx⟩ := hg
    obtain ⟨its, rv, p, hz⟩ := I.tuple hq
    obtain ⟨u, hu, ru⟩ := rv.get hx
    have hel : e < s.heap.objs.size := Heap.lt_size he
    have hil : it < s.heap.objs.size := by obtain ⟨_, q, _⟩ := hit; exact Heap.lt_size q
    have hil2 : i < its.toArray.size := by
      have := (List.getElem?_eq_some_iff.mp hu).1
      simpa using this
    have p' : s.heap.IsTuple a its.toArray := p
    have hat : a ≠ it := fun z => by
      obtain ⟨o1, g1, c1, d1⟩ := hit
      obtain ⟨o2, g2, c2, n2, d2⟩ := p'
      rw [z, g1] at g2; cases g2
      rw [d1] at d2; cases d2
    have hea : e ≠ a := fun z => by
      obtain ⟨o2, g2, c2, n2, d2⟩ := p'
      have he2 : s.heap.get? e = _ := he
      rw [z, g2] at he2; cases he2
      cases d2
    refine wpAny_pyNext_enum_itemD (Draws.tuple (A := X.A.in1) (I.ok.hd hc) it a hat its.toArray) he ⟨hit, p'⟩ hil2 hne (by simp [hne, hea]) fun y h' tk hy ho hit' hT hsz hk => ?_
    have hy : its.toArray[i]? = some y := hy
    have hyu : y = u := by
      rw [List.getElem?_toArray, hu] at hy
      exact (Option.some.inj hy).symm
    subst hyu
    refine ⟨_, rfl, wpAny_letOwnedTupleGo_enum (s := { s with heap := h', toks := tk + 1 }) ho fun h'' he' sb => ?_⟩
    have hT2 : h''.get? s.heap.objs.size = some { cls := .type "tuple", data := .seq #[.int i tk, y] } := (sb.2 _ (Nat.ne_of_gt hel)).trans hT
    have new : ObjOk X.prog X.w (upd H s.heap.objs.size (.tup [.int (i : Nat), x])) h'' s.heap.objs.size (.tup [.int (i : Nat), x]) :=
      ⟨by show 2 ≤ sizeLine; decide, [.int i tk, y], .cons ⟨_, rfl⟩ (.cons ru .nil), ⟨_, hT2, rfl, _, rfl⟩⟩
    have I1 : Inv X pins σ (upd H s.heap.objs.size (.tup [.int (i : Nat), x])) { s with heap := h'', toks := tk + 1 } :=
      I.turnedNew (ch := [e, it]) (fun b ob hb q => (sb.2 b (fun z => hb (by simp [z]))).trans (hk b ob (fun z => hb (by simp [z])) (fun z => hb (by simp [z])) q)) hf (Nat.le_refl _) new
    refine ⟨.ref s.heap.objs.size, _, I1, rfl, ⟨_, x, rfl, I.hok.fresh (Nat.le_refl _), rfl, fun ys hy => by rw [I.tuple_inj hy hq]; exact hx⟩, ⟨⟨y, ?_⟩, hit'.1.at fun o q => (sb.2 it (Ne.symm hne)).trans q, hne⟩, fun b hb => ?_⟩
    · exact (by omega : ((i + 1 : Nat) : Int) = (i : Int) + 1) ▸ he'
    · have hb' : b < s.heap.objs.size := by
        rcases List.mem_cons.mp hb with rfl | z
        · exact hel
        · rw [List.mem_singleton.mp z]; exact hil
      exact upd_ne (Nat.ne_of_lt hb') ▸ (hf b hb).1
  done := by
    intro X hP hw hK hc i pins s σ H E I hf st hg
    subst hP hw hK
    obtain ⟨⟨old, he⟩, hit, -⟩ := st
    obtain ⟨xs, hq, hx⟩ := hg
    obtain ⟨its, rv, p', hz⟩ := I.tuple hq
    have hl := rv.length
    have hT : s.TypeIs (.ref e) "enumerate" := ⟨_, he, rfl⟩
    obtain ⟨f0, f1, f2, f3, f4, f5⟩ := hf it (List.mem_cons_of_mem _ List.mem_cons_self)
    unfold pyNext
    refine wpAny_bind (wpAny_attempt (wpAny_callSpecial?_slot (name := Str.ofString "__next__") hT PySem.F.slot_enumerate_next
      (wpAny_call_entry PySem.F.slot_enumerate_next hT PySem.F.entry_enumerate_next ?_ (PySem.F.args_enumerate_next_1 _))))
    show wpAny _ _ (field (.ref e) 2 >>= _) _ _ _
    refine wpAny_bind (wpAny_field he rfl (x := .ref it) rfl ?_)
    refine wpAny_bind (wpAny_nextOf_tuple_end (I.ok.hd hc) hit p' (by simp; omega) fun h' x he' hx' => ?_)
    obtain ⟨o, ho, hc'⟩ := hx'
    refine wpAny_bind (wpAny_isInstance (T := "StopIteration") (b := true) ⟨o, ho, hc'⟩ isSubtype_stop ?_)
    exact wpAny_pure ⟨rfl, I.turned (t' := s.toks) (fun b o hb q => he' b o hb q) f0 f1 f3 f4 f5⟩
  self := fun A i s Q E st h => let ⟨⟨_, he⟩, _⟩ := st; wpAny_pyIter_enum he h
def iEnT (K : PySem.W.Frag) (ta : TA) : TI := fun σ H R => ta σ H fun vs H1 => ∃ a xs, vs = [.ref a] ∧ SqT K H1 a xs ∧ R (ItEt K a) H1
theorem pi_enT {X : Cx} {e : Expr} {ta : TA} {p pos tpos : Pos} {elts : List Expr} {kk : Nat} (hg : Gl X "enumerate") (hm : X.mg "enumerate" = none) (ha : PA X [e] ta) (hs : starEach [e] X.env = [(false, eval e X.env)] := by rfl) :
    PI X (.Tuple elts kk tpos) (.Call (.Name "enumerate" p) [e] [] pos) (iEnT X.K ta) := by
  refine ⟨fun pins s σ H R I h => ?_⟩
  refine Call_ (ld_blt I hg hm boot_enumerate (PyProof.Rows.callWith_type1 (thn (ha.run pos pins s σ H _ I h) fun us s1 ⟨vs, H1, I1, r1, q1⟩ => ?_) hs rfl))
  obtain ⟨a, xs, ex, hq, q⟩ := q1
  subst ex
  cases r1 with
  | cons r rr =>
    cases rr
    cases r
    obtain ⟨its, rv, p', hz⟩ := I1.tuple hq
    refine EnT.called_tup (show s1.heap.IsTuple a its.toArray from p') fun h' he hit hsz hk => wpAny_pyIter_enum he ?_
    have I2 : Inv X pins σ H1 { s1 with heap := h' } := I1.kept (t' := s1.toks) hk
    refine ⟨s1.heap.objs.size + 1, [s1.heap.objs.size + 1, s1.heap.objs.size], _, _, H1, rfl, I2, turn_enT a (s1.heap.objs.size + 1) s1.heap.objs.size, ⟨⟨.none, he⟩, hit, Nat.succ_ne_self _⟩, fun b hb => ?_, q⟩
    have hle : s1.heap.objs.size ≤ b := by
      rcases List.mem_cons.mp hb with rfl | z
      · exact Nat.le_succ _
      · exact Nat.le_of_eq (List.mem_singleton.mp z).symm
    exact I1.fpOk hle (I1.hok.fresh hle)
section
variable {X : Cx} {σ : L2.St} {H : Hp} {α : Type} {D : Ends} {rest body : List Stmt} {pos px py tp : Pos} {x y : Str} {iter e : Expr} {P : Wd}
/-- enumerate(t) -/
theorem src_enT {tg : List Expr} {kk : Nat} {tpos : Pos} {xs : List V} (h : EvE X e σ H (tupV X.K xs)) (hm : X.mg "enumerate" = none) (hg : Gl X "enumerate" := by rfl) (hst : starEach [e] X.env = [(false, eval e X.env)] := by rfl) :
    Src X (.Tuple tg kk tpos) (.Call (.Name "enumerate" px) [e] [] pos) σ H (List.range xs.length) fun i => tupV X.K [.int (i : Nat), xs.getD i .non] := ⟨_, pi_enT hg hm rA hst, fun H1 e1 R k => a_cons h a_nil hst H1 e1 _ fun vs H2 e2 hv => by
  obtain ⟨v, rfl, p, rfl, hp1⟩ := Alls.one hv
  refine ⟨p, xs, rfl, hp1, k _ H2 e2 fun H3 e3 => ?_⟩
  have hp3 := Evl.ex_t e3 hp1
  refine ⟨fun i z hz => ?_, ⟨xs, hp3, by rw [List.length_range]; exact Nat.le_refl _⟩⟩
  obtain ⟨rfl, hi⟩ := range_get hz
  refine ⟨⟨xs, xs[z], hp3, List.getElem?_eq_getElem hi⟩, fun x H4 ⟨T, y, ev, hT, e4, hy⟩ => ?_⟩
  subst e4
  refine ⟨Ex.new hT, T, ev, ?_⟩
  have hy := hy xs hp3
  have : xs.getD z .non = y := by rw [List.getD_eq_getElem?_getD, hy]; rfl
  rw [this]
  exact .inl (.inl upd_same)⟩
/-- for x, y in .. -/
theorem c_for2 {k1 k2 kk : Nat} {tpos : Pos} {zs : List α} {f1 f2 : α → V} (h : Src X (.Tuple [.Name x px, .Name y py] kk tpos) iter σ H zs fun z => tupV X.K [f1 z, f2 z]) (Pv : Hp → Nat → L2.St → Hp → Prop) (h0 : ∀ H1, Ex H H1 → Pv H1 0 σ H1) (hx : ∀ H1 i σ' H', Pv H1 i σ' H' → Ex H1 H')
    (hs : ∀ H1 i z σ' H', Ex H H1 → zs[i]? = some z → Pv H1 i σ' H' → ∀ H2, Ex H' H2 → wSs X body { nx := Pv H1 (i + 1), ct := Pv H1 (i + 1), bk := wSs X rest D, rt := D.rt } ((σ'.set k1 (some (f1 z))).set k2 (some (f2 z))) H2)
    (hd : ∀ H1 σ' H', Ex H H1 → Pv H1 zs.length σ' H' → wSs X rest D σ' H') (nd : X.N.Nodup) (hc : X.calm = true := by rfl) (hp : PassesOwn (model X.prog X.w) X.A X.env X.xe := by exact PassesOwn.never) (hN1 : X.N[k1]? = some x := by rfl) (hN2 : X.N[k2]? = some y := by rfl) (hl1 : Loc X.env.scope x := by first | exact Or.inl rfl | exact Or.inr rfl) (hl2 : Loc X.env.scope y := by first | exact Or.inl rfl | exact Or.inr rfl)
    (hf1 : X.fn x = true ∨ X.env.scope.names.lookup x = some .local := by first | exact Or.inl rfl | exact Or.inr rfl) (hf2 : X.fn y = true ∨ X.env.scope.names.lookup y = some .local := by first | exact Or.inl rfl | exact Or.inr rfl) (hsi : ∀ y, foldedSetIterable iter X.env y = pure y := by intro _; rfl)
    (hn : (assignEach [.Name x px, .Name y py] X.env).length = 2 := by rfl) (hst2 : (assignEach [.Name x px, .Name y py] X.env).findIdx? (·.1) = none := by rfl) (hs2 : (assignEach [.Name x px, .Name y py] X.env).map (·.2) = assign (.Name x px) X.env :: (assignEach [.Name y py] X.env).map (·.2) := by rfl) (hs3 : (assignEach [.Name y py] X.env).map (·.2) = assign (.Name y py) X.env :: (assignEach [] X.env).map (·.2) := by rfl) :
    wSs X (.For (.Tuple [.Name x px, .Name y py] kk tpos) iter body [] pos :: rest) D σ H := by
  obtain ⟨wi, hpi, hw⟩ := h.ex
  refine c_cons (ofS (ps_for hp hc hpi (pg_tup hc (pgs_cons (pg_name nd hN1 hl1 hf1) (pgs_cons (pg_name nd hN2 hl2 hf2) pgs_nil hs3) hs2) hn hst2) rSs hsi) (hw H (Ex.refl _) _ fun J H1 e1 hJ => ?_))
  refine ⟨fun i m σ' H' => m = zs.length - i ∧ i ≤ zs.length ∧ Pv H1 i σ' H', ⟨zs.length, by simp, Nat.zero_le _, h0 H1 e1⟩, ?_⟩
  rintro i m σ' H' ⟨rfl, hi, p⟩
  obtain ⟨hgo, hstop⟩ := hJ H' (hx _ _ _ _ p)
  by_cases hlt : i < zs.length
  · have hz := List.getElem?_eq_getElem hlt
    obtain ⟨g1, g2⟩ := hgo i _ hz
    refine .inr ⟨g1, Pv H1 (i + 1), fun σ2 H2 p' => ⟨zs.length - (i + 1), by omega, rfl, hlt, p'⟩, fun y H2 hy => ?_⟩
    obtain ⟨e2, a, rfl, hq⟩ := g2 y H2 hy
    exact ⟨a, _, rfl, hq, rfl, _, _, rfl, ⟨_, _, rfl, rfl, hs H1 i _ σ' H' e1 hz p H2 e2⟩⟩
  · have e : i = zs.length := by omega
    subst e
    exact .inl ⟨hstop, hd H1 σ' H' e1 p⟩
end
end FU
end
section
set_option maxRecDepth 100000
set_option maxHeartbeats 1000000
namespace WK
open PySem PySem.Spec PyProof.Rows L2 FU
open Evl (Ex)
open MR (W Wf textW brk mkW inB ar bth eds birthsL endsL rowN stairW lws rws corner wordOf woGo nL nR stairsL plainW)

theorem isW.at' {K : PySem.W.Frag} {C : Addr} {u : W} {v : V} {H : Hp} (h : isW K C u v H) : ∃ fs, InsAt C fs v H := by
  obtain ⟨t, xs, h1, _⟩ := isW.node h
  exact ⟨_, h1⟩
theorem isW.ne {K : PySem.W.Frag} {C : Addr} {u : W} {v : V} {H : Hp} (h : isW K C u v H) : v ≠ .non := by
  obtain ⟨fs, a, dx, rfl, _⟩ := isW.at' h
  exact fun z => by cases z
def isO (K : PySem.W.Frag) (C : Addr) : Option W → Wd
  | none => isN
  | some u => isW K C u
section
variable {P : Program} {w : World} {K : PySem.W.Frag} {mg : Str → Option Value} {base : Heap}
/-! ### the word of a stair -/
def ctCorner (K : PySem.W.Frag) (C : Addr) : Ct := fun vs H P => ∃ (L R : List W) (i j : Nat) (p : Int) (l r : V), vs = [l, r, .int i, .int j] ∧ isWs K C L l H ∧ isWs K C R r H ∧ i < L.length ∧ j < R.length ∧ (∀ x ∈ L, x.place = p) ∧ (∀ x ∈ R, x.place = p) ∧ P = isW K C (corner L R i j)
theorem sc_corner : FnScope ["lefts", "rights", "births_held", "ends_held"] ["lefts", "rights", "births_held", "ends_held"] (C8.fnScope (top 39)) := C8.fnScope_by (by decide +kernel)
theorem getD_of {l : List W} {i : Nat} (h : i < l.length) {K : PySem.W.Frag} {C : Addr} : (l.map (isW K C))[i]? = some (isW K C (l.getD i (.leaf false 0))) := by
  rw [List.getElem?_map, List.getElem?_eq_getElem h, List.getD_eq_getElem?_getD, List.getElem?_eq_getElem h]; rfl
theorem getD_in {l : List W} {i : Nat} (h : i < l.length) : l.getD i (.leaf false 0) ∈ l := by
  rw [List.getD_eq_getElem?_getD, List.getElem?_eq_getElem h]; exact List.getElem_mem h
theorem dec_nat (a b : Nat) : decide (V.int (a : Int) = V.int (b : Int)) = decide (a = b) := by
  rw [Bool.eq_iff_iff, decide_eq_true_iff, decide_eq_true_iff]
  constructor
  · intro h; have := V.int.inj h; omega
  · intro h; rw [h]
theorem ok_corner (T : Fx K w mg) : C8.Cal P w K mg base 5 "cornered" (spC (ctCorner K T.C)) [] := by
  refine cal_of (k := 4) T.d_cornered T.b_cornered .nil sc_corner (fun vs H W ⟨_, _, _, _, _, _, _, e, _⟩ => by rw [e]; rfl) fun cdv A outer s H vs Q E W hr hC hQ => ?_
  obtain ⟨L, R, i, j, p, l, r, rfl, hL, hR, hi, hj, pL, pR, rfl⟩ := hC
  refine c_if (b' := decide (i = L.length - 1)) (EvT.is (t_eq (v := .int i) (w := .int ((L.length - 1 : Nat) : Int)) (x_var (P := isI i) 2 rfl rfl) (EvE.is (x_sub (x_len T.z_len (x_var (P := isWs K T.C L) 0 rfl hL)) x_int) (by rw [List.length_map]; congr 1; omega))) (dec_nat _ _)) (fun hc H1 a1 => ?_) fun hc H1 a1 => ?_
  · have hc : i = L.length - 1 := of_decide_eq_true hc
    have : corner L R i j = R.getD j (.leaf false 0) := by rw [corner, if_pos hc]
    rw [this] at hQ
    exact c_ret (x_ixL (k := j) (x_var (P := isWs K T.C R) 1 rfl ((isWs K T.C R).st a1 hR)) (x_var (P := isI j) 3 rfl rfl) (getD_of hj)) fun v H2 a2 hv => hQ v H2 (a1.trans a2) hv
  have hc : ¬ i = L.length - 1 := of_decide_eq_false hc
  refine c_nil ?_
  have hL1 := (isWs K T.C L).st a1 hL
  have hR1 := (isWs K T.C R).st a1 hR
  refine c_if (b' := decide (j = R.length - 1)) (EvT.is (t_eq (v := .int j) (w := .int ((R.length - 1 : Nat) : Int)) (x_var (P := isI j) 3 rfl rfl) (EvE.is (x_sub (x_len T.z_len (x_var (P := isWs K T.C R) 1 rfl hR1)) x_int) (by rw [List.length_map]; congr 1; omega))) (dec_nat _ _)) (fun hd H2 a2 => ?_) fun hd H2 a2 => ?_
  · have hd : j = R.length - 1 := of_decide_eq_true hd
    have : corner L R i j = L.getD i (.leaf false 0) := by rw [corner, if_neg hc, if_pos hd]
    rw [this] at hQ
    exact c_ret (x_ixL (k := i) (x_var (P := isWs K T.C L) 0 rfl ((isWs K T.C L).st a2 hL1)) (x_var (P := isI i) 2 rfl rfl) (getD_of hi)) fun v H3 a3 hv => hQ v H3 ((a1.trans a2).trans a3) hv
  have hd : ¬ j = R.length - 1 := of_decide_eq_false hd
  have : corner L R i j = .meet (L.getD i (.leaf false 0)) (R.getD j (.leaf false 0)) := by rw [corner, if_neg hc, if_neg hd]
  rw [this] at hQ
  refine c_nil (c_ret (P := isW K T.C (.meet (L.getD i (.leaf false 0)) (R.getD j (.leaf false 0)))) (x_binW (C := T.C) (ok_and T) T.sf hr (x_ixL (k := i) (x_var (P := isWs K T.C L) 0 rfl ((isWs K T.C L).st a2 hL1)) (x_var (P := isI i) 2 rfl rfl) (getD_of hi)) (x_ixL (k := j) (x_var (P := isWs K T.C R) 1 rfl ((isWs K T.C R).st a2 hR1)) (x_var (P := isI j) 3 rfl rfl) (getD_of hj)) fun x y H3 a3 hx hy => ⟨isW.at' hx, isW.at' hy, ⟨_, _, x, y, rfl, hx, hy, ?_, rfl⟩⟩) fun v H3 a3 hv => hQ v H3 ((a1.trans a2).trans a3) hv)
  rw [pL _ (getD_in hi), pR _ (getD_in hj)]

def ctWordOf (K : PySem.W.Frag) (C : Addr) : Ct := fun vs H P => ∃ (pat : List Bool) (p : Nat) (st : List Int) (v : V), vs = [.str (pstr pat), .int p, v] ∧ isT K st v H ∧ pat.length ≤ 6 ∧ p ≤ pat.length ∧ st ∈ stairsL (p + 1) ((pat.length : Int) - p + 1) ∧ P = isW K C (wordOf pat p st)
theorem sc_wordof : FnScope ["pattern", "place", "steps", "lefts", "rights", "found", "at", "count", "lower", "part"] ["pattern", "place", "steps"] (C8.fnScope (top 38)) := C8.fnScope_by (by decide +kernel)
theorem tup_ints {K : PySem.W.Frag} {l : List Int} {v : V} {H : Hp} : isT K l v H ↔ tupV K (l.map V.int) v H := by
  have : l.map (fun i => isI i) = (l.map V.int).map FU.isv := by rw [List.map_map]; rfl
  unfold isT
  rw [this]
  exact tupP_v
theorem isO_of {K : PySem.W.Frag} {C : Addr} {f : Option W} {v : V} {H : Hp} (h : (isO K C f) v H) : decide (v = .non) = f.isNone := by
  cases f with
  | none => cases (show v = .non from h); rfl
  | some u => exact decide_eq_false (isW.ne h)
theorem ok_wordof (T : Fx K w mg) : C8.Cal P w K mg base 6 "word_of" (spC (ctWordOf K T.C)) [] := by
  refine cal_of (k := 5) T.d_word_of T.b_word_of .nil sc_wordof (fun vs H W ⟨_, _, _, _, e, _⟩ => by rw [e]; rfl) fun cdv A outer s H vs Q E W hr hC hQ => ?_
  obtain ⟨pat, p, st, v, rfl, hv, hl, hp, hst, rfl⟩ := hC
  obtain ⟨hsl, hspw, hsb⟩ := MR.mem_stairs.mp hst
  refine c_asg (k := 3) (P := isWs K T.C (lws pat p)) (x_cal (ok_lws T) hr (a_cons (x_var (P := isS (pstr pat)) 0 rfl rfl) (a_cons (x_var (P := isI p) 1 rfl rfl) a_nil)) fun vs H1 _ hv => ⟨pat, p, (Alls.isv (xs := [.str (pstr pat), .int p])).mp hv, hl, hp, rfl⟩) (fun vl H1 e1 hvl => ?_) sc_wordof.nd
  refine c_asg (k := 4) (P := isWs K T.C (rws pat (pat.length - p))) (x_cal (ok_rws T) hr (a_cons (x_var (P := isS (pstr pat)) 0 rfl rfl) (a_cons (x_var (P := isI p) 1 rfl rfl) a_nil)) fun vs H1 _ hv => ⟨pat, p, (Alls.isv (xs := [.str (pstr pat), .int p])).mp hv, hl, hp, rfl⟩) (fun vr H2 e2 hvr => ?_) sc_wordof.nd
  refine c_asg (k := 5) (P := isN) x_none (fun vf H3 e3 hvf => ?_) sc_wordof.nd
  cases hvf
  have hvl := (isWs K T.C (lws pat p)).st (e2.trans e3) hvl
  have hvr := (isWs K T.C (rws pat (pat.length - p))).st e3 hvr
  have hv3 := (isT K st).st ((e1.trans e2).trans e3) hv
  have hL : nL pat p = lws pat p := rfl
  have hR : nR pat p = rws pat (pat.length - p) := by unfold nR; congr 1; omega
  have hll : (lws pat p).length = p + 2 := MR.lws_len _ _
  have hrl : (rws pat (pat.length - p)).length = (pat.length - p) + 2 := MR.rws_len _ _
  have hpl : ∀ x ∈ lws pat p, x.place = p := fun x hx => (lws_all hp hx).2
  have hpr : ∀ x ∈ rws pat (pat.length - p), x.place = p := fun x hx => by have := (rws_all (by omega) hx).2; omega
  have h0 : (0 : Int) ≤ p := by omega
  have h1 : (p : Int) ≤ pat.length := by omega
  refine c_for2 (k1 := 6) (k2 := 7) (src_enT (xs := st.map V.int) (EvE.imp (x_var (P := isT K st) 2 rfl hv3) fun _ _ _ h => tup_ints.mp h) T.z_enumerate) (fun H4 i σ' H' => (∃ z1 z2 z3 z4 f fv, σ' = [some (.str (pstr pat)), some (.int p), some v, some vl, some vr, some fv, z1, z2, z3, z4] ∧ isO K T.C f fv H' ∧ (∀ u, f = some u → u.place = p) ∧ woGo (nL pat p) (nR pat p) st 0 none = woGo (nL pat p) (nR pat p) (st.drop i) i f) ∧ Ex H4 H') (fun H4 e4 => ⟨⟨none, none, none, none, none, _, rfl, rfl, (fun _ z => nomatch z), rfl⟩, Ex.refl _⟩) (fun _ _ _ _ h => h.2) (fun H4 i z σ' H' e4 hz h H5 e5 => ?_) (fun H4 σ' H' e4 h => ?_) sc_wordof.nd
  · obtain ⟨⟨z1, z2, z3, z4, f, fv, rfl, hf, hfp, hgo⟩, e6⟩ := h
    obtain ⟨rfl, hi⟩ := range_get hz
    rw [List.length_map] at hi
    have hce : (st.map V.int).getD z .non = .int (st.getD z 0) := by
      rw [List.getD_eq_getElem?_getD, List.getElem?_map, List.getElem?_eq_getElem hi, List.getD_eq_getElem?_getD, List.getElem?_eq_getElem hi]; rfl
    have hcb : 0 ≤ st.getD z 0 ∧ st.getD z 0 ≤ (pat.length : Int) - p + 1 := hsb _ (by rw [List.getD_eq_getElem?_getD, List.getElem?_eq_getElem hi]; exact List.getElem_mem hi)
    have hdrop : st.drop z = st.getD z 0 :: st.drop (z + 1) := by
      rw [List.drop_eq_getElem_cons hi, List.getD_eq_getElem?_getD, List.getElem?_eq_getElem hi]; rfl
    generalize hcc : st.getD z 0 = c at *
    rw [hce]
    have eA : Ex H3 H5 := (e4.trans e6).trans e5
    have hv5 := (isT K st).st eA hv3
    have hlen : ((st.map fun i => isI i).length : Int) = p + 1 := by rw [List.length_map, hsl]; rfl
    refine c_asg (k := 8) (P := isI ((st.drop (z + 1)).headD 0)) (x_if (b' := decide ((z : Int) + 1 < p + 1)) (EvT.is (t_lt (x_add (x_var (P := isI z) 6 rfl rfl) x_int) (x_lenT T.z_len (x_var (P := isT K st) 2 rfl hv5))) (by rw [hlen])) (fun hd => ?_) fun hd => ?_) (fun v6 H6 e7 hv6 => ?_) sc_wordof.nd
    · have hd : (z : Int) + 1 < p + 1 := of_decide_eq_true hd
      have hz1 : z + 1 < st.length := by omega
      refine x_ixT (k := z + 1) (Ps := st.map fun i => isI i) (x_var (P := isT K st) 2 rfl hv5) (EvE.is (x_add (x_var (P := isI z) 6 rfl rfl) x_int) (by congr 1)) ?_
      rw [List.getElem?_map, List.getElem?_eq_getElem hz1, List.drop_eq_getElem_cons hz1]; rfl
    · have hd : ¬ (z : Int) + 1 < p + 1 := of_decide_eq_false hd
      have : st.drop (z + 1) = [] := List.drop_eq_nil_of_le (by omega)
      rw [this]
      exact x_int
    · cases hv6
      have eB : Ex H3 H6 := eA.trans e7
      have eC : Ex H' H6 := e5.trans e7
      refine c_if (b' := decide ((st.drop (z + 1)).headD 0 < c)) (t_gt (x_var (P := isI c) 7 rfl rfl) (x_var (P := isI ((st.drop (z + 1)).headD 0)) 8 rfl rfl)) (fun hc H7 e8 => ?_) fun hc H7 e8 => ?_
      · have hc : (st.drop (z + 1)).headD 0 < c := of_decide_eq_true hc
        have hc2 : ((c.toNat : Nat) : Int) = c := by omega
        refine c_asg (k := 9) (P := isW K T.C (corner (nL pat p) (nR pat p) (z + 1) c.toNat)) (x_cal (ok_corner T) hr (a_cons (x_var (P := isWs K T.C (lws pat p)) 3 rfl ((isWs K T.C (lws pat p)).st (eB.trans e8) hvl)) (a_cons (x_var (P := isWs K T.C (rws pat (pat.length - p))) 4 rfl ((isWs K T.C _).st (eB.trans e8) hvr)) (a_cons (EvE.is (w := .int ((z + 1 : Nat) : Int)) (x_add (x_var (P := isI z) 6 rfl rfl) x_int) (by congr 1)) (a_cons (x_var (P := isI c) 7 rfl rfl) a_nil)))) fun vs H8 _ hvs => ?_) (fun vp H8 e9 hvp => ?_) sc_wordof.nd
        · obtain ⟨a1, r1, rfl, h1', h1''⟩ : ∃ a r, vs = a :: r ∧ isWs K T.C (lws pat p) a H8 ∧ Alls [isWs K T.C (rws pat (pat.length - p)), isI ((z + 1 : Nat) : Int), isI c] r H8 := by
            cases vs with
            | nil => exact hvs.elim
            | cons a r => exact ⟨a, r, rfl, hvs.1, hvs.2⟩
          obtain ⟨a2, a3, a4, rfl, h2', h3', h4'⟩ := Alls.three h1''
          cases h3'; cases h4'
          exact ⟨lws pat p, rws pat (pat.length - p), z + 1, c.toNat, p, a1, a2, by rw [hc2], h1', h2', by omega, by omega, hpl, hpr, by rw [hL, hR]⟩
        · have hcp : (corner (nL pat p) (nR pat p) (z + 1) c.toNat).place = p := (MR.corner_at h0 h1 (i := z + 1) (j := c.toNat) (by omega) (by omega)).pl
          have hf8 : isO K T.C f fv H8 := (isO K T.C f).st ((eC.trans e8).trans e9) hf
          have hgo2 : woGo (nL pat p) (nR pat p) st 0 none = woGo (nL pat p) (nR pat p) (st.drop (z + 1)) (z + 1) (some (MR.plus f (corner (nL pat p) (nR pat p) (z + 1) c.toNat))) := by
            rw [hgo, hdrop, woGo, if_pos hc]
          refine c_asg (k := 5) (P := isW K T.C (MR.plus f (corner (nL pat p) (nR pat p) (z + 1) c.toNat))) (x_if (b' := f.isNone) (EvT.is (t_isN (x_var (P := isv fv) 5 rfl rfl) x_none) (isO_of hf8)) (fun hn => ?_) fun hn => ?_) (fun v9 H9 e10 hv9 => ?_) sc_wordof.nd
          · cases f with
            | some u => cases hn
            | none => exact x_var (P := isW K T.C (corner (nL pat p) (nR pat p) (z + 1) c.toNat)) 9 rfl hvp
          · cases f with
            | none => cases hn
            | some u =>
              exact x_binW (C := T.C) (ok_add T) T.sf hr (x_var (P := isW K T.C u) 5 rfl hf8) (x_var (P := isW K T.C (corner (nL pat p) (nR pat p) (z + 1) c.toNat)) 9 rfl hvp) fun x y H10 a3 hx hy => ⟨isW.at' hx, isW.at' hy, ⟨_, _, x, y, rfl, hx, hy, by rw [hfp u rfl, hcp], rfl⟩⟩
          · refine c_nil (c_nil ⟨⟨_, _, _, _, some _, v9, rfl, hv9, fun u hu => ?_, hgo2⟩, (((e6.trans eC).trans e8).trans e9).trans e10⟩)
            cases hu
            cases f with
            | none => exact hcp
            | some u => exact hfp u rfl
      · have hc : ¬ (st.drop (z + 1)).headD 0 < c := of_decide_eq_false hc
        refine c_nil (c_nil ⟨⟨_, _, _, _, f, fv, rfl, (isO K T.C f).st (eC.trans e8) hf, hfp, ?_⟩, (e6.trans eC).trans e8⟩)
        rw [hgo, hdrop, woGo, if_neg hc]
  · obtain ⟨⟨z1, z2, z3, z4, f, fv, rfl, hf, hfp, hgo⟩, e6⟩ := h
    rw [List.length_range, List.length_map, List.drop_length] at hgo
    have hgo : woGo (nL pat p) (nR pat p) st 0 none = f := hgo
    have hw : wordOf pat p st = f.getD (.leaf false p) := by rw [wordOf, hgo]
    rw [hw] at hQ
    refine c_ret (x_if (P := isW K T.C (f.getD (.leaf false p))) (b' := f.isNone) (EvT.is (t_isN (x_var (P := isv fv) 5 rfl rfl) x_none) (isO_of hf)) (fun hn => ?_) fun hn => ?_) fun v7 H7 e7 h7 => hQ v7 H7 (((((e1.trans e2).trans e3).trans e4).trans e6).trans e7) h7
    · cases f with
      | some u => cases hn
      | none => exact x_cmeth (P := isW K T.C (.leaf false p)) (ok_none T) hr (x_glob T.mC rfl) (a_cons (x_var (P := isI p) 1 rfl rfl) a_nil) fun vs H1 _ hv => ⟨p, congrArg _ ((Alls.isv (xs := [.int p])).mp hv), by omega, by omega, rfl⟩
    · cases f with
      | none => cases hn
      | some u => exact x_var (P := isW K T.C u) 5 rfl hf
end
end WK
end
section
set_option maxRecDepth 100000
set_option maxHeartbeats 1000000
namespace WK
open PySem PySem.Spec PyProof.Rows L2 FU
open Evl (Ex)
open MR (W Wf textW brk mkW inB ar bth eds birthsL endsL rowN stairW lws rws corner wordOf woGo nL nR stairsL plainW)

/-- how many stairs -/
def scN : Nat → Nat → Nat
  | 0, _ => 1
  | t + 1, m => scN t m * (m + (t + 1)) / (t + 1)
theorem scN_small : ∀ m < 9, ∀ t < 9, scN t m ≤ 100000 := by decide
section
variable {P : Program} {w : World} {K : PySem.W.Frag} {mg : Str → Option Value} {base : Heap}
theorem sc_plain : FnScope ["pattern", "word"] ["pattern", "word"] (C8.fnScope (top 40)) := C8.fnScope_by (by decide +kernel)
theorem ok_plain (T : Fx K w mg) (n : Nat) : C8.Cal P w K mg base (2 * n + 7) "plain" (spC (ctWord K T.C n fun pat u => isW K T.C (plainW pat u))) [] := by
  refine cal_of (k := 2 * n + 6) T.d_plain T.b_plain .nil sc_plain (fun vs H W h => ctWord.len h) fun cdv A outer s H vs Q E W hr hC hQ => ?_
  obtain ⟨pat, u, v, rfl, hu, hl, hw, hd, rfl⟩ := hC
  have hpl := Wf.pl hw
  have hp : u.place = ((u.place.toNat : Nat) : Int) := by omega
  refine c_ret (x_cal (P := isW K T.C (plainW pat u)) (ok_wordof T) hr (a_cons (x_var (P := isS (pstr pat)) 0 rfl rfl) (a_cons (x_wprop (P := isI u.place) (ok_place T) T.cl hr (x_var (P := isW K T.C u) 1 rfl hu) fun v H1 _ hv => ⟨_, v, rfl, hv, rfl⟩) (a_cons (x_cal (P := isT K (stairW pat u)) (ok_stair T n) hr (a_cons (x_var (P := isS (pstr pat)) 0 rfl rfl) (a_cons (x_var (P := isW K T.C u) 1 rfl hu) a_nil)) fun vs H1 _ hvs => ?_) a_nil))) fun vs H1 _ hvs => ?_) hQ
  · obtain ⟨a, b, rfl, ha, hb⟩ := Alls.two hvs
    cases ha
    exact ⟨pat, u, b, rfl, hb, hl, hw, hd, rfl⟩
  · obtain ⟨a, b, c, rfl, ha, hb, hc⟩ := Alls.three hvs
    cases ha; cases hb
    refine ⟨pat, u.place.toNat, stairW pat u, c, by rw [← hp], hc, hl, by omega, ?_, ?_⟩
    · have := MR.stair_mem hw
      rw [← hp]; exact this
    · rw [← hp]; rfl
def ctCount : Ct := fun vs H P => ∃ n m : Nat, vs = [.int n, .int m] ∧ n ≤ 7 ∧ m ≤ 7 ∧ P = isI (scN n m)
theorem sc_count : FnScope ["length", "most", "found", "turn"] ["length", "most"] (C8.fnScope (top 42)) := C8.fnScope_by (by decide +kernel)
theorem ok_count (T : Fx K w mg) : C8.Cal P w K mg base 1 "stairs_count" (spC ctCount) [] := by
  refine cal_of (k := 0) T.d_stairs_count T.b_stairs_count .nil sc_count (fun vs H W ⟨_, _, e, _⟩ => by rw [e]; rfl) fun cdv A outer s H vs Q E W hr hC hQ => ?_
  obtain ⟨n, m, rfl, hn, hm, rfl⟩ := hC
  refine c_asg (k := 2) (P := isI 1) x_int (fun v H1 e1 hv => ?_) sc_count.nd
  cases hv
  refine c_for (k := 3) (src_r2 (lo := 1) (hi := (n : Int) + 1) x_int (x_add (x_var (P := isI n) 0 rfl rfl) x_int) (by omega) T.z_range) (fun H3 i σ' H' => (∃ z, σ' = [some (.int n), some (.int m), some (.int (scN i m)), z]) ∧ Ex H3 H') (fun H3 e3 => ⟨⟨none, rfl⟩, Ex.refl _⟩) (fun _ _ _ _ h => h.2) (fun H3 i z σ' H' e3 hz h b H4 e4 hb => ?_) (fun H3 σ' H' e3 h => ?_) sc_count.nd
  · obtain ⟨⟨z0, rfl⟩, e5⟩ := h
    obtain ⟨rfl, hi⟩ := range_get hz
    have hb : b = .int (1 + z) := hb
    subst hb
    have hs := scN_small m (by omega) z (by omega)
    refine c_asg (k := 2) (P := isI (scN (z + 1) m)) (EvE.is (x_fdiv (x_mul (x_var (P := isI (scN z m)) 2 rfl rfl) (x_add (x_var (P := isI m) 1 rfl rfl) (x_var (P := isI (1 + z)) 3 rfl rfl)) (.inl ⟨by omega, by omega⟩)) (x_var (P := isI (1 + z)) 3 rfl rfl) ⟨by omega, by omega⟩) ?_) (fun v5 H5 e6 h5 => ?_) sc_count.nd
    · congr 1
      rw [scN]
      have e1 : (1 + (z : Int)) = ((z + 1 : Nat) : Int) := by omega
      rw [e1, ← Int.natCast_add, ← Int.natCast_mul, ← Int.natCast_ediv]
    · cases h5
      exact c_nil ⟨⟨_, rfl⟩, (e5.trans e4).trans e6⟩
  · obtain ⟨⟨z0, rfl⟩, e5⟩ := h
    rw [List.length_range]
    have : ((n : Int) + 1 - 1).toNat = n := by omega
    rw [this]
    refine c_ret (x_var (P := isI (scN n m)) 2 rfl rfl) fun v6 H6 e6 h6 => hQ v6 H6 (((e1.trans e3).trans e5).trans e6) h6
theorem sc_pcount : FnScope ["pattern", "place"] ["pattern", "place"] (C8.fnScope (top 43)) := C8.fnScope_by (by decide +kernel)
theorem ok_pcount (T : Fx K w mg) : C8.Cal P w K mg base 4 "plain_count" (spC (ctPlaceOf fun pat p => isI (scN (p + 1) (pat.length - p + 1)))) [] := by
  refine cal_of (k := 3) T.d_plain_count T.b_plain_count .nil sc_pcount (fun vs H W h => ctPlaceOf.len h) fun cdv A outer s H vs Q E W hr hC hQ => ?_
  obtain ⟨pat, p, rfl, hl, hp, rfl⟩ := hC
  have hln : (pstr pat).length ≤ 1000 := by rw [pstr_len]; omega
  refine c_expr (x_cal (P := isN) (ok_npo T) hr (a_cons (x_var (P := isS (pstr pat)) 0 rfl rfl) (a_cons (x_var (P := isI p) 1 rfl rfl) a_nil)) fun vs H1 _ hv => ⟨pat, p, (Alls.isv (xs := [.str (pstr pat), .int p])).mp hv, hl, hp, rfl⟩) (fun _ H1 e1 _ => ?_)
  refine c_ret (x_cal (P := isI (scN (p + 1) (pat.length - p + 1))) (ok_count T) hr (a_cons (EvE.is (w := .int ((p + 1 : Nat) : Int)) (x_add (x_var (P := isI p) 1 rfl rfl) x_int) (by congr 1)) (a_cons (EvE.is (w := .int ((pat.length - p + 1 : Nat) : Int)) (x_add (x_sub (x_lenS T.z_len (x_var (P := isS (pstr pat)) 0 rfl rfl) hln) (x_var (P := isI p) 1 rfl rfl)) x_int) (by congr 1; rw [pstr_len]; omega)) a_nil)) fun vs H2 _ hv => ⟨p + 1, pat.length - p + 1, (Alls.isv (xs := [.int ((p + 1 : Nat) : Int), .int ((pat.length - p + 1 : Nat) : Int)])).mp hv, by omega, by omega, rfl⟩) fun v2 H2 e2 h2 => hQ v2 H2 (e1.trans e2) h2
end
end WK
end
section
set_option maxRecDepth 100000
/-! A proven run leaves every generator that sleeps as it is: in a world in which those cannot wake the same run is found. -/
namespace GZ
open PySem
open Sem (wp)

def stk : GenState → GenState
  | .suspended _ l c p fs cl => .suspended (fun _ => .unsupported "asleep") l c p fs cl
  | x => x
def IsSus : GenState → Prop
  | .suspended .. => True
  | _ => False
def noGen (fs : List Frame) : Prop := splitAtGen fs = none
def clean : GenState → Prop
  | .suspended _ _ _ _ fs _ => noGen fs
  | _ => True
def cleanE : End → Prop
  | .ret _ => True
  | .susp _ _ _ _ _ _ fs => noGen fs
theorem noGen_nil : noGen [] := rfl
theorem noGen_cons {F : Frame} {fs : List Frame} (h : noGen (F :: fs)) : noGen fs ∧ ∃ k hd g l c p kp, F = .ret k hd g l c p kp := by
  cases F with
  | gen g k l c p => simp [noGen, splitAtGen] at h
  | ret k hd g l c p kp =>
    refine ⟨?_, k, hd, g, l, c, p, kp, rfl⟩
    have h' : (splitAtGen fs).map _ = none := h
    exact Option.map_eq_none_iff.mp h'
theorem noGen_ret {fs : List Frame} {k hd g l c p kp} (h : noGen fs) : noGen (.ret k hd g l c p kp :: fs) := by
  show (splitAtGen fs).map _ = none
  rw [show splitAtGen fs = none from h]; rfl
theorem noGen_append : ∀ {fs gs : List Frame}, noGen fs → noGen gs → noGen (fs ++ gs)
  | [], _, _, h => h
  | F :: fs, gs, h1, h2 => by
    obtain ⟨h, k, hd, g, l, c, p, kp, rfl⟩ := noGen_cons h1
    exact noGen_ret (noGen_append h h2)

theorem seen_stk (x : GenState) : (stk x).seen = x.seen := by cases x <;> rfl
theorem bare_stk (x : GenState) : (stk x).bare = x.bare := by cases x <;> rfl
theorem sus_stk {x : GenState} (h : IsSus x) : ∃ l c p fs cl, stk x = .suspended (fun _ => .unsupported "asleep") l c p fs cl := by
  cases x <;> first | exact ⟨_, _, _, _, _, rfl⟩ | exact absurd h id

theorem not_runs0 {M : Model} {Γ : Ctx} {p : Pos} {w : String} {s s' : Shared} {e : End} : ¬ Runs M Γ p (.unsupported w) [] s e s' := by
  intro h
  cases h
theorem not_runs {M : Model} {Γ : Ctx} {p : Pos} {w : String} {fs : List Frame} {s s' : Shared} {e : End} : ¬ Runs M Γ p (.unsupported w) fs s e s' := by
  intro h
  cases fs with
  | nil => exact not_runs0 h
  | cons F fs =>
    cases h <;> rename_i a _ <;> first | exact not_runs0 a | skip
    all_goals (first | (rename_i a _ _; exact not_runs0 a) | (rename_i a; exact not_runs0 a))

/-- L tells which generators are hidden, and what they are -/
def unh (L : Nat → Option GenState) (s : Shared) : Shared := { s with gens := s.gens.mapIdx fun i x => (L i).getD x }
structure HG (L : Nat → Option GenState) (s : Shared) : Prop where
  hid : ∀ i gs, L i = some gs → IsSus gs ∧ s.gens[i]? = some (stk gs)
  cl : ∀ i x, L i = none → s.gens[i]? = some x → clean x
variable {L : Nat → Option GenState} {s s' : Shared}
theorem unh_size : (unh L s).gens.size = s.gens.size := by simp [unh]
theorem unh_get (i : Nat) : (unh L s).gens[i]? = (s.gens[i]?).map fun x => (L i).getD x := by simp [unh]
theorem unh_none {i : Nat} (h : L i = none) : (unh L s).gens[i]? = s.gens[i]? := by
  rw [unh_get, h]
  cases s.gens[i]? <;> rfl
theorem unh_set {g : Nat} {x : GenState} (h : L g = none) : unh L (s.setGen g x) = (unh L s).setGen g x := by
  have e : (unh L (s.setGen g x)).gens = ((unh L s).setGen g x).gens := by
    refine Array.ext_getElem? fun i => ?_
    rw [unh_get]
    show ((s.gens.setIfInBounds g x)[i]?).map _ = ((unh L s).gens.setIfInBounds g x)[i]?
    rw [Array.getElem?_setIfInBounds, Array.getElem?_setIfInBounds]
    by_cases e : g = i
    · subst e
      rw [if_pos rfl, if_pos rfl, unh_size]
      by_cases z : g < s.gens.size
      · rw [if_pos z, h]; rfl
      · rw [if_neg z]; rfl
    · rw [if_neg e, if_neg e, unh_get]
  show { (s.setGen g x) with gens := (unh L (s.setGen g x)).gens } = { (s.setGen g x) with gens := ((unh L s).setGen g x).gens }
  rw [e]
theorem HG.size (h : HG L s) : L s.gens.size = none := by
  cases e : L s.gens.size with
  | none => rfl
  | some gs =>
    have := (h.hid _ _ e).2
    simp at this
theorem unh_push {c : Code} (h : HG L s) : unh L { s with gens := s.gens.push (.fresh c) } = { unh L s with gens := (unh L s).gens.push (.fresh c) } := by
  have e : (unh L { s with gens := s.gens.push (.fresh c) }).gens = (unh L s).gens.push (.fresh c) := by
    refine Array.ext_getElem? fun i => ?_
    rw [unh_get]
    show ((s.gens.push (.fresh c))[i]?).map _ = ((unh L s).gens.push (.fresh c))[i]?
    rw [Array.getElem?_push, Array.getElem?_push, unh_size]
    by_cases e : i = s.gens.size
    · subst e
      rw [if_pos rfl, if_pos rfl, h.size]; rfl
    · rw [if_neg e, if_neg e, unh_get]
  show { ({ s with gens := s.gens.push (.fresh c) } : Shared) with gens := (unh L { s with gens := s.gens.push (.fresh c) }).gens } = _
  rw [e]; rfl
theorem HG.push {c : Code} (h : HG L s) : HG L { s with gens := s.gens.push (.fresh c) } where
  hid := fun i gs e => by
    obtain ⟨h1, h2⟩ := h.hid i gs e
    refine ⟨h1, ?_⟩
    show (s.gens.push (.fresh c))[i]? = _
    have hi : i < s.gens.size := (Array.getElem?_eq_some_iff.mp h2).1
    rw [Array.getElem?_push, if_neg (Nat.ne_of_lt hi)]
    exact h2
  cl := fun i x e q => by
    have q : (s.gens.push (.fresh c))[i]? = some x := q
    rw [Array.getElem?_push] at q
    by_cases z : i = s.gens.size
    · rw [if_pos z] at q; cases q; exact True.intro
    · rw [if_neg z] at q; exact h.cl i x e q
theorem HG.set {g : Nat} {x : GenState} (h : HG L s) (hg : L g = none) (hx : clean x) : HG L (s.setGen g x) where
  hid := fun i gs e => by
    obtain ⟨h1, h2⟩ := h.hid i gs e
    refine ⟨h1, ?_⟩
    show (s.gens.setIfInBounds g x)[i]? = _
    have ne : g ≠ i := fun z => by rw [z, e] at hg; cases hg
    rw [Array.getElem?_setIfInBounds, if_neg ne]
    exact h2
  cl := fun i y e q => by
    have q : (s.gens.setIfInBounds g x)[i]? = some y := q
    rw [Array.getElem?_setIfInBounds] at q
    by_cases z : g = i
    · rw [if_pos z] at q
      split at q
      · cases q; exact hx
      · cases q
    · rw [if_neg z] at q; exact h.cl i y e q
theorem clean_of {e : End} (h : cleanE e) : clean e.genState := by
  cases e with
  | ret _ => exact True.intro
  | susp v g l k c p fs => exact h
theorem HG.none_of {g : Nat} {x : GenState} (h : HG L s) (e : s.gens[g]? = some x) (hx : ∀ l c p fs cl, x ≠ .suspended (fun _ => .unsupported "asleep") l c p fs cl) : L g = none := by
  cases q : L g with
  | none => rfl
  | some gs =>
    obtain ⟨h1, h2⟩ := h.hid g gs q
    rw [e] at h2
    obtain ⟨l, c, p, fs, cl, e2⟩ := sus_stk h1
    rw [e2] at h2
    exact absurd (Option.some.inj h2) (hx l c p fs cl)

theorem runs_unh {M : Model} {Γ : Ctx} {p : Pos} {t : Sem PySem.Fin} {fs : List Frame} {s s' : Shared} {e : End} (h : Runs M Γ p t fs s e s') (L : Nat → Option GenState) :
    HG L s → noGen fs → HG L s' ∧ cleanE e ∧ Runs M Γ p t fs (unh L s) e (unh L s') := by
  induction h with
  | done => exact fun hg _ => ⟨hg, True.intro, .done⟩
  | raise => exact fun hg _ => ⟨hg, True.intro, .raise⟩
  | again q _ ih => exact fun hg _ => let ⟨a, b, r⟩ := ih hg noGen_nil; ⟨a, b, .again q r⟩
  | rule _ ih => exact fun hg _ => let ⟨a, b, r⟩ := ih hg noGen_nil; ⟨a, b, .rule r⟩
  | «at» _ ih => exact fun hg _ => let ⟨a, b, r⟩ := ih hg noGen_nil; ⟨a, b, .at r⟩
  | load e _ ih => exact fun hg _ => let ⟨a, b, r⟩ := ih hg noGen_nil; ⟨a, b, .load e r⟩
  | update e _ ih => exact fun hg _ => let ⟨a, b, r⟩ := ih ⟨hg.hid, hg.cl⟩ noGen_nil; ⟨a, b, .update e r⟩
  | loadIfAlive _ ih => exact fun hg _ => let ⟨a, b, r⟩ := ih hg noGen_nil; ⟨a, b, .loadIfAlive r⟩
  | point _ ih => exact fun hg _ => let ⟨a, b, r⟩ := ih hg noGen_nil; ⟨a, b, .point r⟩
  | alloc _ ih => exact fun hg _ => let ⟨a, b, r⟩ := ih ⟨hg.hid, hg.cl⟩ noGen_nil; ⟨a, b, .alloc r⟩
  | fresh _ ih => exact fun hg _ => let ⟨a, b, r⟩ := ih ⟨hg.hid, hg.cl⟩ noGen_nil; ⟨a, b, .fresh r⟩
  | ask _ ih => exact fun hg _ => let ⟨a, b, r⟩ := ih hg noGen_nil; ⟨a, b, .ask r⟩
  | choose n _ ih => exact fun hg _ => let ⟨a, b, r⟩ := ih ⟨hg.hid, hg.cl⟩ noGen_nil; ⟨a, b, .choose n r⟩
  | os _ ih => exact fun hg _ => let ⟨a, b, r⟩ := ih ⟨hg.hid, hg.cl⟩ noGen_nil; ⟨a, b, .os r⟩
  | handled _ ih => exact fun hg _ => let ⟨a, b, r⟩ := ih hg noGen_nil; ⟨a, b, .handled r⟩
  | @genState g st Γ p k s e s' hst _ ih =>
    intro hg _
    obtain ⟨a, b, r⟩ := ih hg noGen_nil
    refine ⟨a, b, ?_⟩
    cases q : L g with
    | none => exact .genState (by rw [unh_none q]; exact hst) r
    | some gs =>
      obtain ⟨h1, h2⟩ := hg.hid g gs q
      rw [hst] at h2
      have e : st = stk gs := Option.some.inj h2
      subst e
      rw [seen_stk] at r
      refine .genState (st := gs) ?_ r
      rw [unh_get, hst, q]; rfl
  | stack _ ih => exact fun hg _ => let ⟨a, b, r⟩ := ih hg noGen_nil; ⟨a, b, .stack r⟩
  | thread _ ih => exact fun hg _ => let ⟨a, b, r⟩ := ih hg noGen_nil; ⟨a, b, .thread r⟩
  | newGen _ ih =>
    intro hg _
    obtain ⟨a, b, r⟩ := ih hg.push noGen_nil
    rw [unh_push hg] at r
    refine ⟨a, b, .newGen ?_⟩
    rw [unh_size]
    exact r
  | call _ _ ih1 ih2 =>
    intro hg _
    obtain ⟨a1, _, r1⟩ := ih1 hg noGen_nil
    obtain ⟨a2, b2, r2⟩ := ih2 a1 noGen_nil
    exact ⟨a2, b2, .call r1 r2⟩
  | callSusp _ ih =>
    intro hg _
    obtain ⟨a, b, r⟩ := ih hg noGen_nil
    exact ⟨a, noGen_append b (noGen_ret noGen_nil), .callSusp r⟩
  | yield => exact fun hg _ => ⟨hg, noGen_nil, .yield⟩
  | resumeFresh hgs _ hq _ ih1 ih2 =>
    intro hg _
    have hL := hg.none_of hgs (fun _ _ _ _ _ z => by cases z)
    obtain ⟨a1, b1, r1⟩ := ih1 (hg.set hL True.intro) noGen_nil
    obtain ⟨a2, b2, r2⟩ := ih2 (a1.set hL (clean_of b1)) noGen_nil
    rw [unh_set hL] at r1 r2
    exact ⟨a2, b2, .resumeFresh (by rw [unh_none hL]; exact hgs) r1 hq r2⟩
  | @resumeSuspended Γ p g r l k s k₀ l₀ c₀ p₀ fs cl e₁ s₁ e s' hgs hr hq _ ih1 ih2 =>
    intro hg _
    cases q : L g with
    | none =>
      have hc : noGen fs := hg.cl g _ q hgs
      obtain ⟨a1, b1, r1⟩ := ih1 (hg.set q True.intro) hc
      obtain ⟨a2, b2, r2⟩ := ih2 (a1.set q (clean_of b1)) noGen_nil
      rw [unh_set q] at r1 r2
      exact ⟨a2, b2, .resumeSuspended (by rw [unh_none q]; exact hgs) r1 hq r2⟩
    | some gs =>
      obtain ⟨h1, h2⟩ := hg.hid g gs q
      obtain ⟨l', c', p', fs', cl', e2⟩ := sus_stk h1
      rw [hgs, e2] at h2
      have ek := Option.some.inj h2
      injection ek with ek _ _ _ _ _
      rw [ek] at hr
      exact absurd hr not_runs
  | resumeJustStarted hgs hv _ ih =>
    intro hg _
    have hL := hg.none_of hgs (fun _ _ _ _ _ z => by cases z)
    obtain ⟨a, b, r⟩ := ih hg noGen_nil
    exact ⟨a, b, .resumeJustStarted (by rw [unh_none hL]; exact hgs) hv r⟩
  | resumeThrowFresh hgs _ ih =>
    intro hg _
    have hL := hg.none_of hgs (fun _ _ _ _ _ z => by cases z)
    obtain ⟨a, b, r⟩ := ih (hg.set hL True.intro) noGen_nil
    rw [unh_set hL] at r
    exact ⟨a, b, .resumeThrowFresh (by rw [unh_none hL]; exact hgs) r⟩
  | resumeRunning hgs _ ih =>
    intro hg _
    have hL := hg.none_of hgs (fun _ _ _ _ _ z => by cases z)
    obtain ⟨a, b, r⟩ := ih hg noGen_nil
    exact ⟨a, b, .resumeRunning (by rw [unh_none hL]; exact hgs) r⟩
  | resumeFinished hgs _ ih =>
    intro hg _
    have hL := hg.none_of hgs (fun _ _ _ _ _ z => by cases z)
    obtain ⟨a, b, r⟩ := ih hg noGen_nil
    exact ⟨a, b, .resumeFinished (by rw [unh_none hL]; exact hgs) r⟩
  | segRet _ _ ih1 ih2 =>
    intro hg hn
    obtain ⟨a1, _, r1⟩ := ih1 hg noGen_nil
    obtain ⟨a2, b2, r2⟩ := ih2 a1 (noGen_cons hn).1
    exact ⟨a2, b2, .segRet r1 r2⟩
  | segGen => 
    intro hg hn
    obtain ⟨_, _, _, _, _, _, _, _, z⟩ := noGen_cons hn
    cases z
  | segSuspOut q _ ih =>
    intro hg hn
    obtain ⟨a, b, r⟩ := ih hg noGen_nil
    exact ⟨a, noGen_append b hn, .segSuspOut q r⟩
  | segSuspGen q =>
    intro hg hn
    rw [show splitAtGen _ = none from hn] at q
    cases q

/-- what sleeps goes on sleeping -/
def KeptG (s s' : Shared) : Prop := ∀ (i : Nat) (gs : GenState), IsSus gs → s.gens[i]? = some gs → s'.gens[i]? = some gs
theorem KeptG.refl (s : Shared) : KeptG s s := fun _ _ _ h => h
theorem KeptG.trans {a b c : Shared} (x : KeptG a b) (y : KeptG b c) : KeptG a c := fun i gs h e => y i gs h (x i gs h e)
open Classical in
/-- what the sleepers hide -/
noncomputable def hidL (s : Shared) : Nat → Option GenState := fun i => match s.gens[i]? with
  | some gs => if IsSus gs then some gs else none
  | none => none
def hide (s : Shared) : Shared := { s with gens := s.gens.map stk }
theorem stk_not {x : GenState} (h : ¬ IsSus x) : stk x = x := by cases x <;> first | rfl | exact absurd True.intro h
theorem unh_hide (s : Shared) : unh (hidL s) (hide s) = s := by
  have e : (unh (hidL s) (hide s)).gens = s.gens := by
    refine Array.ext_getElem? fun i => ?_
    rw [unh_get]
    show ((s.gens.map stk)[i]?).map _ = _
    rw [Array.getElem?_map]
    cases q : s.gens[i]? with
    | none => rfl
    | some x =>
      show some ((hidL s i).getD (stk x)) = some x
      unfold hidL
      rw [q]
      by_cases z : IsSus x
      · simp [z]
      · simp [z, stk_not z]
  show { s with gens := (unh (hidL s) (hide s)).gens } = s
  rw [e]
theorem hg_hide (s : Shared) : HG (hidL s) (hide s) where
  hid := fun i gs e => by
    unfold hidL at e
    cases q : s.gens[i]? with
    | none => rw [q] at e; cases e
    | some x =>
      rw [q] at e
      by_cases z : IsSus x
      · simp only [z, if_true] at e
        cases e
        refine ⟨z, ?_⟩
        show (s.gens.map stk)[i]? = _
        rw [Array.getElem?_map, q]; rfl
      · simp only [z, if_false] at e; cases e
  cl := fun i x e q => by
    have q : (s.gens.map stk)[i]? = some x := q
    rw [Array.getElem?_map] at q
    cases q2 : s.gens[i]? with
    | none => rw [q2] at q; cases q
    | some y =>
      rw [q2] at q
      have q : stk y = x := Option.some.inj q
      unfold hidL at e
      rw [q2] at e
      by_cases z : IsSus y
      · simp only [z, if_true] at e; cases e
      · rw [← q, stk_not z]
        cases y <;> first | exact True.intro | exact absurd True.intro z
theorem kept_unh {s s₁ : Shared} (h : HG (hidL s) s₁) : KeptG s (unh (hidL s) s₁) := fun i gs hs e => by
  have hl : hidL s i = some gs := by
    unfold hidL
    rw [e]
    simp [hs]
  rw [unh_get, (h.hid i gs hl).2, hl]; rfl

theorem wakes_unh {M : Model} {Γ : Ctx} {p : Pos} {g : Nat} {r : Resume} {s s' : Shared} {res : GenResult} (hg : HG L s) (h : Wakes M Γ p g r s res s') : HG L s' ∧ Wakes M Γ p g r (unh L s) res (unh L s') := by
  unfold Wakes at h
  split at h
  · exact h.elim
  · rename_i c hgs
    have hL := hg.none_of hgs (fun _ _ _ _ _ z => by cases z)
    have hgs' : (unh L s).gens[g]? = some (.fresh c) := by rw [unh_none hL]; exact hgs
    split at h
    · obtain ⟨e₁, s₁, hr, hq, e1, rfl⟩ := h
      obtain ⟨a, b, r1⟩ := runs_unh hr L (hg.set hL True.intro) noGen_nil
      refine ⟨a.set hL (clean_of b), ?_⟩
      unfold Wakes
      rw [hgs']
      rw [unh_set hL] at r1
      exact ⟨e₁, _, r1, hq, e1, unh_set hL⟩
    · obtain ⟨e1, rfl⟩ := h
      refine ⟨hg, ?_⟩
      unfold Wakes
      rw [hgs']
      dsimp only
      split
      · rename_i hne _ hz
        injection hz with hz
        exact absurd hz hne
      · exact ⟨e1, rfl⟩
      · rename_i hz; cases hz
    · obtain ⟨e1, rfl⟩ := h
      refine ⟨hg.set hL True.intro, ?_⟩
      unfold Wakes
      rw [hgs']
      exact ⟨e1, unh_set hL⟩
  · rename_i k₀ l₀ c₀ p₀ fs cl hgs
    obtain ⟨e₁, s₁, hr, hq, e1, rfl⟩ := h
    cases q : L g with
    | none =>
      obtain ⟨a, b, r1⟩ := runs_unh hr L (hg.set q True.intro) (hg.cl g _ q hgs)
      refine ⟨a.set q (clean_of b), ?_⟩
      unfold Wakes
      have hgs' : (unh L s).gens[g]? = some (.suspended k₀ l₀ c₀ p₀ fs cl) := by rw [unh_none q]; exact hgs
      rw [hgs']
      rw [unh_set q] at r1
      exact ⟨e₁, _, r1, hq, e1, unh_set q⟩
    | some gs =>
      obtain ⟨h1, h2⟩ := hg.hid g gs q
      obtain ⟨l', c', p', fs', cl', e2⟩ := sus_stk h1
      rw [hgs, e2] at h2
      have ek := Option.some.inj h2
      injection ek with ek _ _ _ _ _
      rw [ek] at hr
      exact absurd hr not_runs
  · rename_i hgs
    have hL := hg.none_of hgs (fun _ _ _ _ _ z => by cases z)
    obtain ⟨e1, rfl⟩ := h
    refine ⟨hg, ?_⟩
    unfold Wakes
    have hgs' : (unh L s').gens[g]? = some .running := by rw [unh_none hL]; exact hgs
    rw [hgs']
    exact ⟨e1, rfl⟩
  · rename_i hgs
    have hL := hg.none_of hgs (fun _ _ _ _ _ z => by cases z)
    obtain ⟨e1, rfl⟩ := h
    refine ⟨hg, ?_⟩
    unfold Wakes
    have hgs' : (unh L s').gens[g]? = some .finished := by rw [unh_none hL]; exact hgs
    rw [hgs']
    exact ⟨e1, rfl⟩

theorem wp_unh {α : Type} (M : Model) (Γ : Ctx) (L : Nat → Option GenState) (t : Sem α) : ∀ (Q : α → Pos → Shared → Prop) (E : Value → Pos → Shared → Prop) (p : Pos) (s : Shared), HG L s → wp M Γ t Q E p s →
    wp M Γ t (fun a p' s' => ∃ s₁, HG L s₁ ∧ s' = unh L s₁ ∧ Q a p' s₁) (fun e p' s' => ∃ s₁, HG L s₁ ∧ s' = unh L s₁ ∧ E e p' s₁) p (unh L s) := by
  induction t with
  | pure a => intro Q E p s hg h; exact ⟨s, hg, rfl, h⟩
  | raise e => intro Q E p s hg h; exact ⟨s, hg, rfl, h⟩
  | unsupported _ => intro Q E p s _ h; exact h
  | finish _ => intro Q E p s _ h; exact h
  | rule _ k ih => intro Q E p s hg h; exact ih () Q E p s hg h
  | «at» p' k ih => intro Q E p s hg h; exact ih () Q E p' s hg h
  | load a _ k ih => intro Q E p s hg h; obtain ⟨o, ho, h⟩ := h; exact ⟨o, ho, ih o Q E p s hg h⟩
  | update a _ f k ih => intro Q E p s hg h; exact ⟨h.1, ih () Q E p { s with heap := s.heap.update a f } ⟨hg.hid, hg.cl⟩ h.2⟩
  | loadIfAlive a k ih => intro Q E p s hg h; exact ih _ Q E p s hg h
  | point _ k ih => intro Q E p s hg h; exact ih () Q E p s hg h
  | register _ _ => intro Q E p s _ h; exact h
  | alloc o k ih => intro Q E p s hg h; exact ih _ Q E p { s with heap := s.heap.push o } ⟨hg.hid, hg.cl⟩ h
  | fresh k ih => intro Q E p s hg h; exact ih _ Q E p { s with toks := s.toks + 1 } ⟨hg.hid, hg.cl⟩ h
  | ask k ih => intro Q E p s hg h; exact ih _ Q E p s hg h
  | choose src m k ih => intro Q E p s hg h; exact ⟨h.1, ih _ Q E p { s with drawn := s.drawn.bump src } ⟨hg.hid, hg.cl⟩ h.2⟩
  | os q _ k ih => intro Q E p s hg h; exact ih _ Q E p { s with os := (Os.step s.os q).1 } ⟨hg.hid, hg.cl⟩ h
  | call c hd _ _ k ih =>
    intro Q E p s hg h
    obtain ⟨r, s', hr, h⟩ := h
    obtain ⟨a, _, r1⟩ := runs_unh hr L hg noGen_nil
    exact ⟨r, unh L s', r1, ih r Q E p s' a h⟩
  | handled own k ih => intro Q E p s hg h; exact ih _ Q E p s hg h
  | genState g k ih =>
    intro Q E p s hg h
    obtain ⟨st, hst, h⟩ := h
    cases q : L g with
    | none => exact ⟨st, by rw [unh_none q]; exact hst, ih _ Q E p s hg h⟩
    | some gs =>
      obtain ⟨h1, h2⟩ := hg.hid g gs q
      rw [hst] at h2
      have e : st = stk gs := Option.some.inj h2
      subst e
      rw [seen_stk] at h
      exact ⟨gs, by rw [unh_get, hst, q]; rfl, ih _ Q E p s hg h⟩
  | newGen c k ih =>
    intro Q E p s hg h
    have := ih _ Q E p _ hg.push h
    rw [unh_push hg] at this
    show wp M Γ (k (unh L s).gens.size) _ _ p _
    rw [unh_size]
    exact this
  | resume g r _ k ih =>
    intro Q E p s hg h
    obtain ⟨res, s', hw, h⟩ := h
    obtain ⟨a, w'⟩ := wakes_unh hg hw
    exact ⟨res, _, w', ih res Q E p s' a h⟩
  | yield _ _ _ _ => intro Q E p s _ h; exact h
  | stack k ih => intro Q E p s hg h; exact ih _ Q E p s hg h
  | fork _ _ => intro Q E p s _ h; exact h
  | thread k ih => intro Q E p s hg h; exact ih _ Q E p s hg h
  | await _ _ _ _ _ => intro Q E p s _ h; exact h

/-- a run that is proven where all sleepers are hidden runs beside them, and leaves them -/
theorem wpAny_kept {α : Type} {M : Model} {A : Around} {s : Shared} {t : Sem α} {Q : α → Shared → Prop} {E : Value → Shared → Prop} (h : wpAny M A t Q E (hide s)) :
    wpAny M A t (fun a s' => KeptG s s' ∧ ∃ s₁, s' = { s₁ with gens := s'.gens } ∧ (∀ i, s.gens.size ≤ i → s'.gens[i]? = s₁.gens[i]?) ∧ ((∀ x ∈ s.gens, x.bare = true) → (∀ x ∈ s₁.gens, x.bare = true) → ∀ x ∈ s'.gens, x.bare = true) ∧ Q a s₁)
      (fun e s' => KeptG s s' ∧ ∃ s₁, s' = { s₁ with gens := s'.gens } ∧ (∀ i, s.gens.size ≤ i → s'.gens[i]? = s₁.gens[i]?) ∧ ((∀ x ∈ s.gens, x.bare = true) → (∀ x ∈ s₁.gens, x.bare = true) → ∀ x ∈ s'.gens, x.bare = true) ∧ E e s₁) s := by
  intro Γ p hΓ
  have h1 := wp_unh M Γ (hidL s) t _ _ p (hide s) (hg_hide s) (h Γ p hΓ)
  rw [unh_hide] at h1
  have bareU : ∀ s₁ : Shared, HG (hidL s) s₁ → (∀ x ∈ s.gens, x.bare = true) → (∀ x ∈ s₁.gens, x.bare = true) → ∀ x ∈ (unh (hidL s) s₁).gens, x.bare = true := fun s₁ hg b1 b2 x hx => by
    obtain ⟨i, hi, e⟩ := Array.mem_iff_getElem.mp hx
    have q : (unh (hidL s) s₁).gens[i]? = some x := by rw [Array.getElem?_eq_getElem hi, e]
    rw [unh_get] at q
    cases q2 : s₁.gens[i]? with
    | none => rw [q2] at q; cases q
    | some y =>
      rw [q2] at q
      have q : (hidL s i).getD y = x := Option.some.inj q
      cases q3 : hidL s i with
      | none => rw [q3] at q; rw [← q]; exact b2 y (Array.mem_of_getElem? q2)
      | some gs =>
        rw [q3] at q
        have q : gs = x := q
        have := (hg.hid i gs q3).2
        subst q
        unfold hidL at q3
        cases q4 : s.gens[i]? with
        | none => rw [q4] at q3; cases q3
        | some z =>
          rw [q4] at q3
          by_cases hz : IsSus z
          · simp only [hz, if_true] at q3; cases q3; exact b1 _ (Array.mem_of_getElem? q4)
          · simp only [hz, if_false] at q3; cases q3
  have newU : ∀ s₁ : Shared, ∀ i, s.gens.size ≤ i → (unh (hidL s) s₁).gens[i]? = s₁.gens[i]? := fun s₁ i hi => by
    refine unh_none ?_
    unfold hidL
    rw [Array.getElem?_eq_none hi]
  exact Sem.wp_mono M Γ t (fun a _ s' ⟨s₁, hg, e, q⟩ => by subst e; exact ⟨kept_unh hg, s₁, rfl, newU s₁, bareU s₁ hg, q⟩) (fun a _ s' ⟨s₁, hg, e, q⟩ => by subst e; exact ⟨kept_unh hg, s₁, rfl, newU s₁, bareU s₁ hg, q⟩) p s h1
end GZ
end
section
set_option maxRecDepth 100000
/-! One run of a generator's code, from a waking to the next yield or the end; no exception leaves it. -/
namespace GZ
open PySem PySem.Spec PyProof.Rows GenW
open Sem (wp)

abbrev bot : Value → Shared → Prop := fun _ _ => False
def EndP (R : Result → Shared → Prop) (Y : Value → GenState → Shared → Prop) (e : End) (s : Shared) : Prop :=
  match e with
  | .ret r => R r s
  | .susp v g l k c p fs => (End.susp v g l k c p fs).quiet = true ∧ Y v (End.susp v g l k c p fs).genState s
def Run1 (M : Model) (A : Around) (R : Result → Shared → Prop) (Y : Value → GenState → Shared → Prop) (c : Code) (t : Sem PySem.Fin) (fs : List Frame) (s : Shared) : Prop :=
  ∀ Γ p, Γ.code = c → Γ.Woken A → ∃ e s', Runs M Γ p t fs s e s' ∧ EndP R Y e s'

section
variable {M : Model} {A : Around} {R : Result → Shared → Prop} {Y : Value → GenState → Shared → Prop} {c : Code} {fs : List Frame} {s : Shared}
theorem r1_wrap {α : Type} {m : Sem α} {K : α → Sem PySem.Fin} {H : Value → Sem PySem.Fin} {gd lv}
    (h : wpAny M (A.over c fs) m (fun a s' => Run1 M A R Y c (K a) fs s') bot s) : Run1 M A R Y c (m.wrap K H gd lv) fs s := by
  rintro Γ p rfl hΓ
  exact runs_wrap_of_wp K H gd lv m (h (Γ.over fs) p (hΓ.over fs)) (fun a p' s' h' => h' Γ p' rfl hΓ) (fun x p' s' h' => h'.elim)
theorem r1_bind {α : Type} {m : Sem α} {K : α → Sem PySem.Fin} (h : wpAny M (A.over c fs) m (fun a s' => Run1 M A R Y c (K a) fs s') bot s) : Run1 M A R Y c (m >>= K) fs s := by
  rw [Sem.bind_eq_wrap']; exact r1_wrap h
theorem r1_bind_wrap {α β : Type} {m : Sem α} {f : α → Sem β} {K : β → Sem PySem.Fin} {H : Value → Sem PySem.Fin} {gd lv}
    (h : wpAny M (A.over c fs) m (fun a s' => Run1 M A R Y c ((f a).wrap K H gd lv) fs s') bot s) : Run1 M A R Y c ((m >>= f).wrap K H gd lv) fs s := by
  rw [Sem.bind_eq_wrap', Sem.wrap_wrap]
  exact r1_wrap h
theorem r1_at {p' : Pos} {k : Unit → Sem PySem.Fin} (h : Run1 M A R Y c (k ()) fs s) : Run1 M A R Y c (.at p' k) fs s :=
  r1_wrap (m := standAt p') (K := k) (H := .raise) (gd := id) (lv := id) (wpAny_standAt h)
theorem r1_point {l : List Value} {k : Unit → Sem PySem.Fin} (h : Run1 M A R Y c (k ()) fs s) : Run1 M A R Y c (.point l k) fs s :=
  r1_wrap (m := point) (K := k) (H := .raise) (gd := id) (lv := fun _ => l) (wpAny_point h)
theorem r1_call {c' : Code} {h g l} {k : Result → Sem PySem.Fin} (hc : ∀ p, Run1 M A R Y c' (M.den c') (.ret k h g l c p [] :: fs) s) : Run1 M A R Y c (.call c' h g l k) fs s := by
  rintro Γ p rfl hΓ
  obtain ⟨e, s', hr, he⟩ := hc p (Γ.goto c') p rfl (hΓ.goto c')
  exact ⟨e, s', runs_call_seg hr, he⟩
theorem r1_leaf {k h g l c₁ p₁ kp} (r : Result) (hk : Run1 M A R Y c₁ (k r) fs s) : Run1 M A R Y c (leafOf r) (.ret k h g l c₁ p₁ kp :: fs) s := by
  rintro Γ p rfl hΓ
  obtain ⟨e, s', hr, he⟩ := hk (Γ.goto c₁) p₁ rfl (hΓ.goto c₁)
  exact ⟨e, s', Runs.pop r hr, he⟩
theorem r1_again {c' : Code} (hq : c'.quiet = true) (hc : Run1 M A R Y c' (M.den c') fs s) : Run1 M A R Y c (.pure (.again c')) fs s := by
  rintro Γ p rfl hΓ
  obtain ⟨e, s', hr, he⟩ := hc (Γ.goto c') p rfl (hΓ.goto c')
  exact ⟨e, s', Runs.head (c₁ := c') (fun _ _ x => .again hq x) hr, he⟩
theorem r1_end (r : Result) (h : R r s) : Run1 M A R Y c (leafOf r) [] s := by
  rintro Γ p rfl _
  exact ⟨.ret r, s, Runs.leaf r, h⟩
theorem r1_yield {v g l} {k : Resume → Sem PySem.Fin} (hfs : splitAtGen fs = none) (hg : g = false) (hfg : fs.any Frame.guarded = false)
    (h : ∀ p, Y v (.suspended k l c p fs false) s) : Run1 M A R Y c (.yield v g l k) fs s := by
  rintro Γ p rfl _
  refine ⟨_, s, Runs.yield' fs hfs, ?_⟩
  subst hg
  have e : (End.susp v false l k Γ.code p fs).genState = .suspended k l Γ.code p fs false := by
    show GenState.suspended k l Γ.code p fs (false || fs.any Frame.guarded) = _
    rw [hfg]; rfl
  show (End.susp v false l k Γ.code p fs).quiet = true ∧ Y v _ s
  rw [e]
  exact ⟨by simp [End.quiet, hfg], h p⟩

def Goes1 (M : Model) (A : Around) (R : Result → Shared → Prop) (Y : Value → GenState → Shared → Prop) (gs : GenState) (s : Shared) : Prop :=
  match gs with
  | .fresh c => Run1 M A R Y c (M.den c) [] s
  | .suspended k _ c _ fs _ => Run1 M A R Y c (k (.send .none)) fs s
  | _ => False

theorem wpAny_resume1 {s : Shared} {g : Nat} {gs : GenState} {l : List Value} {α : Type} {k : GenResult → Sem α} {Q : α → Shared → Prop} {E : Value → Shared → Prop} (hg : s.gens[g]? = some gs)
    (hgo : Goes1 M A R Y gs (s.setGen g .running))
    (hR : ∀ x s₁, R x s₁ → wpAny M A (k (End.ret x).result) Q E (s₁.setGen g .finished))
    (hY : ∀ v s₁ gs', IsSus gs' → gs'.bare = true → Y v gs' s₁ → wpAny M A (k (.yielded v)) Q E (s₁.setGen g gs')) :
    wpAny M A (.resume g (.send .none) l k) Q E s := by
  intro Γ p hΓ
  rw [Sem.wp_resume]
  have hB : ∀ c, (Γ.wake c p).Woken A := fun c => hΓ.wake c p
  have fin : ∀ e₁ s₁, EndP R Y e₁ s₁ → wp M Γ (k e₁.result) (fun a _ s' => Q a s') (fun e _ s' => E e s') p (s₁.setGen g e₁.genState) := by
    intro e₁ s₁ he
    cases e₁ with
    | ret x => exact hR x s₁ he Γ p hΓ
    | susp v g₀ l₀ k₀ c₀ p₀ fs₀ => exact hY v s₁ ((End.susp v g₀ l₀ k₀ c₀ p₀ fs₀).genState) True.intro (End.bare_of_quiet he.1) he.2 Γ p hΓ
  have hqt : ∀ e₁ s₁, EndP R Y e₁ s₁ → e₁.quiet = true := by
    intro e₁ s₁ he
    cases e₁ with
    | ret x => rfl
    | susp v g₀ l₀ k₀ c₀ p₀ fs₀ => exact he.1
  cases gs with
  | fresh c =>
    obtain ⟨e₁, s₁, hr, he⟩ := hgo (Γ.wake c p) p rfl (hB c)
    exact ⟨_, _, by unfold Wakes; rw [hg]; exact ⟨e₁, s₁, hr, hqt e₁ s₁ he, rfl, rfl⟩, fin e₁ s₁ he⟩
  | suspended k₀ l₀ c₀ p₀ fs₀ cl =>
    obtain ⟨e₁, s₁, hr, he⟩ := hgo (Γ.wake c₀ p) p₀ rfl (hB c₀)
    exact ⟨_, _, by unfold Wakes; rw [hg]; exact ⟨e₁, s₁, hr, hqt e₁ s₁ he, rfl, rfl⟩, fin e₁ s₁ he⟩
  | running => exact hgo.elim
  | finished => exact hgo.elim
end

section
variable {P : Program} {w : World} {A : Around} {E : Value → Shared → Prop} {s : Shared}
/-- next of a generator -/
theorem next1 {a : Addr} {g : Nat} {gs : GenState} {R : Result → Shared → Prop} {Y : Value → GenState → Shared → Prop} {Q : Option Value → Shared → Prop} (hh : A.handled = none)
    (hl : s.heap.NoLimit) (hroom : A.depth < recursionLimit) (hg : s.heap.IsGen a g) (hgs : s.gens[g]? = some gs)
    (hgo : Goes1 (model P w) A.in1 R Y gs (s.setGen g .running))
    (hY : ∀ v s₁ gs', IsSus gs' → gs'.bare = true → Y v gs' s₁ → Q (some v) (s₁.setGen g gs'))
    (hR : ∀ r s₁, R r s₁ → (r = .ok (.ret .none) ∨ r = .ok .next) ∧ ∀ h', (∀ b o, s₁.heap.get? b = some o → h'.get? b = some o) → Q none { s₁.setGen g .finished with heap := h' }) :
    wpAny (model P w) A (pyNext (.ref a)) Q E s := by
  have quiet : A.in1.handled = none := hh
  have member : firstArgMember (.type "StopIteration") [] = pure Value.none := by first | rfl | (simp only [firstArgMember]; rfl)
  unfold pyNext
  refine wpAny_bind (wpAny_attempt (wpAny_callSpecial?_slot (name := Str.ofString "__next__") hg.typeIs slot_gen_next (wpAny_call_entry slot_gen_next hg.typeIs entry_gen_next ?_ (args_gen_next _))))
  refine (wpAny_bind (wpAny_holding (wpAny_genNumber hg (wpAny_bind (wpAny_genState hgs ?_)))) : wpAny _ A.in1 (Builtin.Generator.genWake (.ref a) (.send .none)) _ _ s)
  cases gs
  case running | finished => exact hgo.elim
  all_goals
    refine wpAny_bind (wpAny_roomToWake hl hroom ?_)
    suffices all : ∀ {k : GenResult → Sem PySem.Fin} {Q' : PySem.Fin → Shared → Prop} {E' : Value → Shared → Prop}, (∀ x s₁, R x s₁ → wpAny (model P w) A.in1 (k (End.ret x).result) Q' E' (s₁.setGen g .finished)) → (∀ v s₁ gs', IsSus gs' → gs'.bare = true → Y v gs' s₁ → wpAny (model P w) A.in1 (k (.yielded v)) Q' E' (s₁.setGen g gs')) → wpAny (model P w) A.in1 (.resume g (.send .none) [] k) Q' E' s by
      refine all (fun x s₁ hx => ?_) fun v s₁ gs' hi hb hv => wpAny_pure ⟨v, rfl, wpAny_pure (hY v s₁ gs' hi hb hv)⟩
      obtain ⟨none_, on⟩ := hR x s₁ hx
      have back : End.result (.ret x) = .returned .none := none_.elim (fun z => z ▸ rfl) (fun z => z ▸ rfl)
      simp only [back]
      wp_walk
      unfold raiseNew
      refine wpAny_bind (wpAny_bind (wpAny_handled ?_))
      rw [quiet]
      refine wpAny_pure (wpAny_throw ?_)
      refine wpAny_bind (wpAny_isInstance ⟨_, Heap.get?_push_size _ rfl, rfl⟩ isSubtype_stop (wpAny_pure (on _ fun b o z => ?_)))
      exact Heap.get?_push_of_some _ (Heap.get?_push_of_some _ z)
    exact fun a b => wpAny_resume1 hgs hgo a b

/-! ### statements at a generator's level -/
variable {R : Result → Shared → Prop} {Y : Value → GenState → Shared → Prop} {c : Code} {fs : List Frame} {env : Env} {K : Flow → Sem PySem.Fin} {H : Value → Sem PySem.Fin} {gd : Bool → Bool} {lv : List Value → List Value}
theorem r1_execs_cons {st : Stmt} {rest : List Stmt} {M : Model}
    (h : Run1 M A R Y c ((exec st env).wrap (fun f => match f with | .next => (execs rest env).wrap K H gd lv | f => K f) H gd lv) fs s) : Run1 M A R Y c ((execs (st :: rest) env).wrap K H gd lv) fs s := by rw [execs_cons_wrap]; exact h
theorem r1_Expr_Yield {M : Model} {e : Expr} {ypos pos : Pos} (hfs : splitAtGen fs = none) (hgd : gd false = false) (hfg : fs.any Frame.guarded = false)
    (h : wpAny M (A.over c fs) (eval e env) (fun v s' => ∀ (k : Resume → Sem PySem.Fin) (l : List Value) (p : Pos), (∀ A' R' Y' s'', Run1 M A' R' Y' c (K .next) fs s'' → Run1 M A' R' Y' c (k (.send .none)) fs s'') → Y v (.suspended k l c p fs false) s') bot s)
    (hco : env.scope.isCoroutine = false := by rfl) (hi : interactive env = false := by rfl) :
    Run1 M A R Y c ((exec (.Expr (.Yield (some e) ypos) pos) env).wrap K H gd lv) fs s := by
  rw [exec_Expr env _ pos hi rfl]
  show Run1 M A R Y c (.at pos fun _ => ((eval e env >>= fun v => (standAt ypos >>= fun _ => yieldOut env v)) >>= fun x =>
    dropValue (.Yield (some e) ypos) pos x).wrap K H gd lv) fs s
  have hy : ∀ v, yieldOut env v = yieldValue v := fun v => by simp only [yieldOut, hco, Bool.false_eq_true, if_false]
  simp only [hy]
  refine r1_at ?_
  rw [Sem.bind_eq_wrap', Sem.bind_eq_wrap', Sem.wrap_wrap, Sem.wrap_wrap]
  refine r1_wrap (wpAny_mono h (fun v s' h' => ?_) fun _ _ x => x)
  refine r1_at (r1_yield hfs hgd hfg fun p => h' _ _ p fun A' R' Y' s'' hx => ?_)
  exact hx
/-- a loop's frame -/
abbrev loopFrame (env : Env) (K : Flow → Sem PySem.Fin) (H : Value → Sem PySem.Fin) (gd : Bool → Bool) (lv : List Value → List Value) (c : Code) (p : Pos) : Frame :=
  .ret (fun r => ((match r with | .ok f => (.pure f : Sem Flow) | .error e => .raise e).onRaise fun (x : Value) => do
        if (← field x 1) == Value.none then unsupported "frame.own-activation:exception-without-traceback"
        setFlight x env.frame).wrap K H gd lv) none (gd false) (lv []) c p []
theorem r1_For {M : Model} {target iter : Expr} {body : List Stmt} {pos : Pos} (hs : ∀ x, foldedSetIterable iter env x = pure x)
    (h : wpAny M (A.over c fs) (eval iter env) (fun x s₁ => wpAny M (A.over c fs) (pyIter x) (fun it s₂ => ∀ p,
      Run1 M A R Y (.forLoop target it body [] env) (M.den (.forLoop target it body [] env)) (loopFrame env K H gd lv c p :: fs) s₂) bot s₁) bot s) :
    Run1 M A R Y c ((exec (.For target iter body [] pos) env).wrap K H gd lv) fs s := by
  rw [exec_For]
  refine r1_bind_wrap (wpAny_standAt (r1_bind_wrap (wpAny_mono h (fun x s₁ h₁ => r1_bind_wrap (wpAny_of_eq (hs x) ?_)) fun _ _ z => z)))
  refine r1_bind_wrap (wpAny_standAt (r1_bind_wrap (wpAny_holding (wpAny_mono h₁ (fun it s₂ h₂ => ?_) fun _ _ z => z))))
  exact r1_call h₂
theorem r1_forLoop {target : Expr} {it : Value} {body : List Stmt}
    (h : wpAny (model P w) (A.over (.forLoop target it body [] env) fs) (pyNext it) (fun r s₁ => match r with
      | none => Run1 (model P w) A R Y (.block [] env) (.pure (.done .next)) fs s₁
      | some v => wpAny (model P w) (A.over (.forLoop target it body [] env) fs) (letOwnedTupleGo target it v) (fun _ s₂ => wpAny (model P w) (A.over (.forLoop target it body [] env) fs) (assign target env v) (fun _ s₃ =>
          ∀ H', Run1 (model P w) A R Y (.forLoop target it body [] env) ((execs body env).wrap (fun f => match f with
            | .next | .cont => .pure (.again (.forLoop target it body [] env))
            | .brk => .pure (.done .next)
            | .ret v => .pure (.done (.ret v))) H' id id) fs s₃) bot s₂) bot s₁) bot s) :
    Run1 (model P w) A R Y (.forLoop target it body [] env) ((model P w).den (.forLoop target it body [] env)) fs s := by
  show Run1 _ A R Y _ ((forTurn target it body [] env).onRaise (fun x => do noteFrame x env; theTreesLotGoes x)) fs s
  unfold forTurn
  rw [Sem.onRaise_eq_wrap]
  refine r1_bind_wrap (wpAny_standAt (r1_bind_wrap (wpAny_onRaise (wpAny_mono h (fun r s₁ h₁ => ?_) fun _ _ z => z.elim))))
  cases r with
  | none =>
    show Run1 _ A R Y _ (.pure (.again (.block [] env))) fs s₁
    refine r1_again rfl ?_
    show Run1 _ A R Y _ (((execs [] env).onRaise (fun x => do noteFrame x env; theTreesLotGoes x)) >>= fun f => pure (.done f)) fs s₁
    exact h₁
  | some v =>
    show Run1 _ A R Y _ ((letOwnedTupleGo target it v >>= fun _ => assign target env v >>= fun _ => execs body env >>= fun f => (match f with
      | .next | .cont => again (.forLoop target it body [] env)
      | .brk => pure (.done .next)
      | .ret v => pure (.done (.ret v)))).wrap _ _ _ _) fs s₁
    refine r1_bind_wrap (wpAny_mono h₁ (fun _ s₂ h₂ => r1_bind_wrap (wpAny_mono h₂ (fun _ s₃ h₃ => ?_) fun _ _ z => z)) fun _ _ z => z)
    rw [Sem.bind_eq_wrap', Sem.wrap_wrap]
    rw [Sem.wrap_congr (execs body env) _ _ (K' := fun f => match f with
            | .next | .cont => .pure (.again (.forLoop target it body [] env))
            | .brk => .pure (.done .next)
            | .ret v => .pure (.done (.ret v))) (fun f => by cases f <;> rfl) (fun e => rfl)]
    exact h₃ _
theorem r1_func {body : List Stmt}
    (h : ∀ H', Run1 (model P w) A R Y (.func body env) ((execs body env).wrap (fun f => .pure (.done (.ret (match f with | .ret v => v | _ => .none)))) H' id id) fs s) :
    Run1 (model P w) A R Y (.func body env) ((model P w).den (.func body env)) fs s := by
  show Run1 _ A R Y _ (.point [] fun _ => ((execs body env).onRaise (leaving env)) >>= _) fs s
  refine r1_point ?_
  rw [Sem.onRaise_eq_wrap, Sem.bind_eq_wrap', Sem.wrap_wrap]
  rw [Sem.wrap_congr (execs body env) _ _ (K' := fun f => .pure (.done (.ret (match f with | .ret v => v | _ => .none)))) (fun f => by cases f <;> rfl) (fun e => rfl)]
  exact h _
end
end GZ
end
section
set_option maxRecDepth 100000
set_option maxHeartbeats 1000000
/-! Generators whose consumers do what they like while they sleep: contracts from waking to waking. -/
namespace GZ
open PySem PySem.Spec PyProof.Rows L2 GenW
open Evl (Ex)

/-- the heap's first n objects -/
def cut (h : Heap) (n : Nat) : Heap := { h with objs := h.objs.extract 0 n }
theorem cut_get {h : Heap} {n : Nat} {b : Addr} : (cut h n).get? b = if b < n then h.get? b else none := by
  have e : (cut h n).objs[b]? = if b < n then h.objs[b]? else none := by
    show (h.objs.extract 0 n)[b]? = _
    have z : ∀ (b n k : Nat), b < n → (b < min n k - 0 ↔ b < k) := fun b n k q => by omega
    have z2 : ∀ (b n k : Nat), ¬ b < n → ¬ b < min n k - 0 := fun b n k q => by omega
    rw [Array.getElem?_extract]
    by_cases q : b < n
    · rw [if_pos q]
      by_cases q2 : b < h.objs.size
      · rw [if_pos ((z _ _ _ q).mpr q2), Nat.zero_add]
      · rw [if_neg fun y => q2 ((z _ _ _ q).mp y), Array.getElem?_eq_none (Nat.not_lt.mp q2)]
    · rw [if_neg q, if_neg (z2 _ _ _ q)]
  unfold Heap.get?
  rw [e]
  by_cases q : b < n
  · rw [if_pos q, if_pos q]
  · rw [if_neg q, if_neg q]
theorem cut_of {h : Heap} {n : Nat} {b : Addr} {o : Obj} (e : (cut h n).get? b = some o) : h.get? b = some o ∧ b < n := by
  rw [cut_get] at e
  by_cases q : b < n
  · rw [if_pos q] at e; exact ⟨e, q⟩
  · rw [if_neg q] at e; cases e
theorem cut_lt {h : Heap} {n : Nat} {b : Addr} (q : b < n) : (cut h n).get? b = h.get? b := by rw [cut_get, if_pos q]
theorem cut_size {h : Heap} {n : Nat} (q : n ≤ h.objs.size) : (cut h n).objs.size = n := by
  show (h.objs.extract 0 n).size = n
  rw [Array.size_extract, Nat.min_eq_left q, Nat.sub_zero]

/-- a generator's frame and its number, all that does not change from waking to waking -/
structure GE where
  P : Program
  w : World
  K : PySem.W.Frag
  mg : Str → Option Value
  base : Heap
  N : List Str
  qual : Str
  scope : Scope
  f : Addr
  cd : Value
  outer : List Env
  n0 : Addr
  g : Nat
  k : Nat
def GE.env (G : GE) : Env := envOfC G.qual G.scope G.n0 G.f G.cd
structure GE.Ok (G : GE) : Prop where
  kind : G.scope.kind = .function
  co : G.scope.isCoroutine = false
  cells : ∀ n, cellsFrom n G.scope.names [] = []
  nocell : ∀ x, G.scope.names.lookup x ≠ some .cell ∧ G.scope.names.lookup x ≠ some .free
  bsz : G.base.objs.size ≤ G.n0
  frs : ∀ b ∈ frs G.outer, b < G.n0
abbrev GE.cx (G : GE) (A : Around) (s : Shared) (H : Hp) : Cx where
  prog := G.P
  w := G.w
  K := G.K
  mg := G.mg
  base := G.base
  A := A.deeper G.env
  N := G.N
  s_0 := { s with heap := cut s.heap G.n0 }
  H_0 := H
  env := G.env
  outer := G.outer
  stack := G.env :: G.outer
  ex := []
  calm := true
  fn := fun _ => true
  pn := []
  xe := fun _ _ => False

/-- the names' values lie in the frame -/
def LocOk (G : GE) (σ : L2.St) (h : Heap) : Prop := ∃ m, h.Ns G.n0 m ∧ ∀ (i : Nat) (x : Str) (v : V), G.N[i]? = some x → σ[i]? = some (some v) → Vis G.scope x → ∃ u, RelV v u ∧ G.env.kindOf x = some .local ∧ m x = some u
abbrev PV := List (Addr × Obj)
abbrev PG := List (Nat × GenState)
/-- what the sleeper owns is as it was left -/
structure Slp (pv : PV) (pg : PG) (s : Shared) (H : Hp) : Prop where
  ob : ∀ p ∈ pv, s.heap.get? p.1 = some p.2 ∧ H p.1 = none
  gn : ∀ q ∈ pg, s.gens[q.1]? = some q.2 ∧ IsSus q.2
/-- a state at a waking -/
structure Awk (G : GE) (A : Around) (s : Shared) (H : Hp) : Prop where
  env0 : Env0 G.P G.w G.K G.mg G.base A G.outer s H
  room : Room G.k A
  big : G.n0 < s.heap.objs.size
  num : G.g < s.gens.size

theorem GE.Ok.cells' {G : GE} (ok : G.Ok) : G.env.cells = [] := ok.cells _
theorem GE.Ok.locals {G : GE} : G.env.locals = G.n0 := rfl
theorem awake {G : GE} (ok : G.Ok) {A : Around} {s : Shared} {H : Hp} {pins : PV} {σ : L2.St} (a : Awk G A s H) (hl : LocOk G σ s.heap) (hlen : σ.length = G.N.length) (hn : H G.n0 = none)
    (hp : ∀ p ∈ pins, s.heap.get? p.1 = some p.2 ∧ H p.1 = none ∧ p.1 ≠ G.n0 ∧ G.n0 ≤ p.1 ∧ ∀ v, p.2.data ≠ .cell v) : Inv (G.cx A s H) pins σ H s := by
  have e := a.env0
  have big := a.big
  have sub : ∀ b o, (cut s.heap G.n0).get? b = some o → s.heap.get? b = some o := fun b o q => (cut_of q).1
  have noc : ∀ x c, G.env.cells.lookup x = some c → False := fun x c q => by rw [ok.cells'] at q; cases q
  have nok : ∀ x, ¬ (G.env.kindOf x = some .cell ∨ G.env.kindOf x = some .free) := fun x q => by
    rcases q with q | q
    · exact (ok.nocell x).1 q
    · exact (ok.nocell x).2 q
  have csz : (cut s.heap G.n0).objs.size = G.n0 := cut_size (Nat.le_of_lt big)
  refine ⟨⟨e.mod, ok.kind, rfl, rfl, Nat.le_of_eq csz, fun x y c q => (noc x c q).elim, fun x q => (nok x q).elim, fun x c _ q => (noc x c q).elim, fun _ => a.room.hd, Around.frames_deeper e.frames, .inr ⟨rfl, rfl⟩,
    fun b hb => absurd hb (by simp), fun b o q => ⟨?_, (e.bs b o q).2⟩, ?_, fun b o _ hb => absurd hb (by simp), fun b hb => absurd hb (by simp), ?_, e.frf⟩,
    rfl, e.bare, ⟨fun b o q _ _ _ => sub b o q, fun b o q _ _ _ => ⟨o.slots, sub b o q⟩, fun _ _ _ q _ => q, fun b o q _ => ⟨o, sub b o q⟩, fun _ _ q => q, fun _ _ _ q => q, fun b ps q => ⟨#[], by
      have q : H b = some (.tbl ps) := q
      rw [q]; simp⟩⟩, ?_, fun x c q => (noc x c q).elim, hn, fun x c q => (noc x c q).elim, ?_, e.hok, hlen⟩
  · show (cut s.heap G.n0).get? b = some o
    rw [cut_lt (Nat.lt_of_lt_of_le (Heap.lt_size q) ok.bsz)]
    exact (e.bs b o q).1
  · show G.base.objs.size ≤ (cut s.heap G.n0).objs.size
    rw [csz]; exact ok.bsz
  · have all : ∀ (l : List Env), (∀ b ∈ L2.frs l, b < G.n0) → s.heap.FunFrames G.base l → (cut s.heap G.n0).FunFrames G.base l := by
      intro l
      induction l with
      | nil => intro _ _; trivial
      | cons env r ih =>
        intro hs h
        obtain ⟨hk, ⟨L, o, hf, hn, ho, hd⟩, hr⟩ := h
        have hL : L < G.n0 := hs L (by unfold L2.frs; rw [List.filterMap_cons, hf]; exact List.mem_cons_self)
        exact ⟨hk, ⟨L, o, hf, hn, by rw [cut_lt hL]; exact ho, hd⟩, ih (fun b hb => hs b (by
          unfold L2.frs; rw [List.filterMap_cons, hf]; exact List.mem_cons_of_mem _ hb)) hr⟩
    exact all G.outer ok.frs e.funs
  · obtain ⟨m, h1, h2⟩ := hl
    refine ⟨m, h1, fun i x v q1 q2 q3 => ?_⟩
    obtain ⟨u, r, z1, z2⟩ := h2 i x v q1 q2 q3
    exact ⟨u, r, .inl ⟨z1, z2⟩⟩
  · intro p hp'
    have hp' : p ∈ ([] : PV) ++ pins := hp'
    obtain ⟨q1, q2, q3, q4, q5⟩ := hp p (by simpa using hp')
    exact ⟨q1, q2, q3, fun z => absurd (ok.frs _ z) (Nat.not_lt.mpr q4), q5⟩

theorem ObjOk.there {P : Program} {w : World} {H : Hp} {h : Heap} {a : Addr} {o : HO} (x : ObjOk P w H h a o) : ∃ ob, h.get? a = some ob := by
  cases o with
  | lst xs => obtain ⟨_, _, _, _, e⟩ := x; exact ⟨_, e⟩
  | tup xs => obtain ⟨_, _, _, o, e, _⟩ := x; exact ⟨_, e⟩
  | dK kvs => obtain ⟨_, _, _, _, o, _, _, e, _⟩ := x; exact ⟨_, e⟩
  | dT kvs => obtain ⟨_, _, _, _, o, _, _, e, _⟩ := x; exact ⟨_, e⟩
  | set S n => obtain ⟨o, _, _, _, e, _⟩ := x; exact ⟨_, e⟩
  | ins C dx fs => obtain ⟨_, _, _, e, _⟩ := x; exact ⟨_, e⟩
  | own y => obtain ⟨_, e⟩ := x; exact ⟨_, e⟩
  | xd fs => obtain ⟨_, ⟨_, _, _, e, _⟩, _⟩ := x; exact ⟨_, e⟩
  | rng lo hi => obtain ⟨_, _, _, e⟩ := x; exact ⟨_, e⟩
  | frz ob u => obtain ⟨e, _⟩ := x; exact ⟨_, e⟩
  | tbl ps => exact ⟨_, show h.get? a = some _ from x⟩
  | met f y => exact ⟨_, show h.get? a = some _ from x⟩
  | ext φ => obtain ⟨_, ⟨_, e⟩, _⟩ := x; exact ⟨_, e⟩

/-- others' objects that are younger than the frame and must stay -/
def notCell (o : Obj) : Bool := match o.data with
  | .cell _ => false
  | _ => true
theorem notCell_iff {o : Obj} : notCell o = true ↔ ∀ v, o.data ≠ .cell v := by
  unfold notCell
  cases e : o.data <;> simp
open Classical in
noncomputable def foreign (n0 : Addr) (pv : PV) (s : Shared) (H : Hp) : PV :=
  (List.range s.heap.objs.size).filterMap fun b => match s.heap.get? b with
    | some o => if n0 ≤ b ∧ H b = none ∧ b ∉ pv.map (·.1) ∧ notCell o = true then some (b, o) else none
    | none => none
theorem mem_foreign {n0 : Addr} {pv : PV} {s : Shared} {H : Hp} {b : Addr} {o : Obj} : (b, o) ∈ foreign n0 pv s H ↔ s.heap.get? b = some o ∧ n0 ≤ b ∧ H b = none ∧ b ∉ pv.map (·.1) ∧ notCell o = true := by
  unfold foreign
  simp only [List.mem_filterMap, List.mem_range]
  constructor
  · rintro ⟨c, hc, e⟩
    cases q : s.heap.get? c with
    | none => rw [q] at e; cases e
    | some u =>
      rw [q] at e
      dsimp only at e
      split at e
      · rename_i h
        cases e
        exact ⟨q, h⟩
      · cases e
  · rintro ⟨h1, h2⟩
    refine ⟨b, Heap.lt_size h1, ?_⟩
    rw [h1]
    dsimp only
    rw [if_pos h2]

/-- from a waking to the next yield, or the end -/
structure Rel (G : GE) (pv : PV) (s : Shared) (H : Hp) (s' : Shared) (H' : Hp) : Prop where
  os : s'.os = s.os
  bare : AllBare s'.gens
  un : ∃ ch : List Addr, (∀ b ∈ ch, G.n0 ≤ b ∧ (b ∈ pv.map (·.1) ∨ ∃ o v, s.heap.get? b = some o ∧ o.data = .cell v)) ∧ Un (frs G.outer) ch H H' s.heap s'.heap
  hok : HOk G.P G.w H' s'.heap
  sz : s.heap.objs.size ≤ s'.heap.objs.size
theorem rel_of {G : GE} (ok : G.Ok) {A : Around} {s s' : Shared} {H H' : Hp} {pv pins : PV} {σ : L2.St} (I : Inv (G.cx A s H) (foreign G.n0 pv s H ++ pins) σ H' s') (hsz : s.heap.objs.size ≤ s'.heap.objs.size) (hx : Ex H H') : Rel G pv s H s' H' := by
  refine ⟨I.os, I.bare, ⟨(List.range s.heap.objs.size).filter fun b => decide (G.n0 ≤ b) && (pv.map (·.1)).contains b || (decide (G.n0 ≤ b) && (match s.heap.get? b with | some o => !notCell o | none => false)), fun b hb => ?_, ?_⟩, I.hok, hsz⟩
  · obtain ⟨_, h⟩ := List.mem_filter.mp hb
    simp only [Bool.or_eq_true, Bool.and_eq_true, decide_eq_true_eq, List.contains_iff_mem] at h
    rcases h with ⟨h1, h2⟩ | ⟨h1, h2⟩
    · exact ⟨h1, .inl h2⟩
    · refine ⟨h1, .inr ?_⟩
      cases q : s.heap.get? b with
      | none => rw [q] at h2; cases h2
      | some o =>
        rw [q] at h2
        have h2 : (!notCell o) = true := h2
        have : notCell o = false := by simpa using h2
        unfold notCell at this
        cases e : o.data <;> rw [e] at this <;> first | exact ⟨o, _, rfl, e⟩ | cases this
  · -- each object is old, or kept by a pin, or at ch
    have fate : ∀ b o, s.heap.get? b = some o → H b = none → b ∉ (List.range s.heap.objs.size).filter (fun b => decide (G.n0 ≤ b) && (pv.map (·.1)).contains b || (decide (G.n0 ≤ b) && (match s.heap.get? b with | some o => !notCell o | none => false))) →
        b < G.n0 ∨ (s'.heap.get? b = some o ∧ H' b = none ∧ b ∉ frs G.outer) := fun b o e n hc => by
      by_cases lt : b < G.n0
      · exact .inl lt
      · have hge : G.n0 ≤ b := Nat.not_lt.mp lt
        refine .inr ?_
        have hnc : ¬ ((decide (G.n0 ≤ b) && (pv.map (·.1)).contains b || (decide (G.n0 ≤ b) && (match s.heap.get? b with | some o => !notCell o | none => false))) = true) := fun z => hc (List.mem_filter.mpr ⟨List.mem_range.mpr (Heap.lt_size e), z⟩)
        rw [e] at hnc
        simp only [Bool.or_eq_true, Bool.and_eq_true, decide_eq_true_eq, List.contains_iff_mem, not_or, not_and] at hnc
        have h1 := hnc.1 hge
        have h2 : notCell o = true := by simpa using hnc.2 hge
        obtain ⟨q1, q2, _, q4, _⟩ := I.pin (b, o) (List.mem_append_right _ (List.mem_append_left _ (mem_foreign.mpr ⟨e, hge, n, h1, h2⟩)))
        exact ⟨q1, q2, q4⟩
    have low : ∀ b o, s.heap.get? b = some o → b < G.n0 → (cut s.heap G.n0).get? b = some o := fun b o e lt => by rw [cut_lt lt]; exact e
    have none : ∀ b : Addr, b ∉ ([] : List Addr) := fun b => by simp
    refine ⟨fun b o e n hb hc => ?_, fun b o e n hb hc => ?_, fun b o e n hc => ?_, fun b o e hc => ?_, I.base.tups, I.base.frzs, I.base.tbls⟩
    · rcases fate b o e n hc with lt | q
      · exact I.base.keep b o (low b o e lt) n hb (none b)
      · exact q.1
    · exact I.base.slot b o (low b o e (ok.frs b hb)) n hb (none b)
    · rcases fate b o e n hc with lt | q
      · exact I.base.free b o (low b o e lt) n (none b)
      · exact q.2.1
    · by_cases lt : b < G.n0
      · exact I.base.there b o (low b o e lt) (none b)
      · cases q : H b with
        | none =>
          rcases fate b o e q hc with lt' | z
          · exact absurd lt' lt
          · exact ⟨o, z.1⟩
        | some u =>
          exact ObjOk.there (I.hok b u (hx b u q))
end GZ
end
section
set_option maxRecDepth 100000
set_option maxHeartbeats 1000000
namespace GZ
open PySem PySem.Spec PyProof.Rows L2 GenW
open Evl (Ex)

/-! ### a heap never shrinks -/
theorem hpush_size (h : Heap) (o : Obj) : h.objs.size ≤ (h.push o).objs.size := by rw [Heap.size_push]; exact Nat.le_succ _
theorem hupd_size (h : Heap) (a : Addr) (f : Obj → Obj) : (h.update a f).objs.size = h.objs.size := by cases h; simp [Heap.update]
theorem runs_hsz {M : Model} {Γ : PySem.Ctx} {p : Pos} {t : Sem PySem.Fin} {fs : List Frame} {s s' : Shared} {e : End} (h : Runs M Γ p t fs s e s') : s.heap.objs.size ≤ s'.heap.objs.size := by
  induction h <;> first
    | exact Nat.le_refl _
    | assumption
    | (rename_i ih; exact Nat.le_trans (hpush_size _ _) ih)
    | (rename_i ih; exact Nat.le_trans (Nat.le_of_eq (hupd_size _ _ _).symm) ih)
    | (rename_i ih1 ih2; exact Nat.le_trans ih1 ih2)
theorem wakes_hsz {M : Model} {Γ : PySem.Ctx} {p : Pos} {g : Nat} {r : Resume} {s s' : Shared} {res : GenResult} (h : Wakes M Γ p g r s res s') : s.heap.objs.size ≤ s'.heap.objs.size := by
  unfold Wakes at h
  split at h
  · exact h.elim
  · split at h
    · obtain ⟨e₁, s₁, hr, _, _, rfl⟩ := h
      have z := runs_hsz hr
      exact z
    · rw [h.2]; exact Nat.le_refl _
    · rw [h.2]; exact Nat.le_refl _
  · obtain ⟨e₁, s₁, hr, _, _, rfl⟩ := h
    have z := runs_hsz hr
    exact z
  · rw [h.2]; exact Nat.le_refl _
  · rw [h.2]; exact Nat.le_refl _
theorem wp_hsz {α : Type} (M : Model) (Γ : PySem.Ctx) (n : Nat) (t : Sem α) : ∀ (Q : α → Pos → Shared → Prop) (E : Value → Pos → Shared → Prop) (p : Pos) (s : Shared), n ≤ s.heap.objs.size → Sem.wp M Γ t Q E p s →
    Sem.wp M Γ t (fun a p' s' => n ≤ s'.heap.objs.size ∧ Q a p' s') (fun e p' s' => n ≤ s'.heap.objs.size ∧ E e p' s') p s := by
  induction t with
  | pure a => intro Q E p s hn h; exact ⟨hn, h⟩
  | raise e => intro Q E p s hn h; exact ⟨hn, h⟩
  | unsupported _ => intro Q E p s _ h; exact h
  | finish _ => intro Q E p s _ h; exact h
  | rule _ k ih => intro Q E p s hn h; exact ih () Q E p s hn h
  | «at» p' k ih => intro Q E p s hn h; exact ih () Q E p' s hn h
  | load a _ k ih => intro Q E p s hn h; obtain ⟨o, ho, h⟩ := h; exact ⟨o, ho, ih o Q E p s hn h⟩
  | update a _ f k ih => intro Q E p s hn h; exact ⟨h.1, ih () Q E p { s with heap := s.heap.update a f } (by rw [hupd_size]; exact hn) h.2⟩
  | loadIfAlive a k ih => intro Q E p s hn h; exact ih _ Q E p s hn h
  | point _ k ih => intro Q E p s hn h; exact ih () Q E p s hn h
  | register _ _ => intro Q E p s _ h; exact h
  | alloc o k ih => intro Q E p s hn h; exact ih _ Q E p { s with heap := s.heap.push o } (Nat.le_trans hn (hpush_size _ _)) h
  | fresh k ih => intro Q E p s hn h; exact ih _ Q E p { s with toks := s.toks + 1 } hn h
  | ask k ih => intro Q E p s hn h; exact ih _ Q E p s hn h
  | choose src m k ih => intro Q E p s hn h; exact ⟨h.1, ih _ Q E p { s with drawn := s.drawn.bump src } hn h.2⟩
  | os q _ k ih => intro Q E p s hn h; exact ih _ Q E p { s with os := (Os.step s.os q).1 } hn h
  | call c hd _ _ k ih => intro Q E p s hn h; obtain ⟨r, s', hr, h⟩ := h; exact ⟨r, s', hr, ih r Q E p s' (Nat.le_trans hn (runs_hsz hr)) h⟩
  | handled own k ih => intro Q E p s hn h; exact ih _ Q E p s hn h
  | genState g k ih => intro Q E p s hn h; obtain ⟨st, hs, h⟩ := h; exact ⟨st, hs, ih _ Q E p s hn h⟩
  | newGen c k ih => intro Q E p s hn h; exact ih _ Q E p { s with gens := s.gens.push (.fresh c) } hn h
  | resume g r _ k ih => intro Q E p s hn h; obtain ⟨res, s', hw, h⟩ := h; exact ⟨res, s', hw, ih res Q E p s' (Nat.le_trans hn (wakes_hsz hw)) h⟩
  | yield _ _ _ _ => intro Q E p s _ h; exact h
  | stack k ih => intro Q E p s hn h; exact ih _ Q E p s hn h
  | fork _ _ => intro Q E p s _ h; exact h
  | thread k ih => intro Q E p s hn h; exact ih _ Q E p s hn h
  | await _ _ _ _ _ => intro Q E p s _ h; exact h
theorem wpAny_hsz {α : Type} {M : Model} {A : Around} {s : Shared} {t : Sem α} {Q : α → Shared → Prop} {E : Value → Shared → Prop} {n : Nat} (hn : n ≤ s.heap.objs.size) (h : wpAny M A t Q E s) :
    wpAny M A t (fun a s' => n ≤ s'.heap.objs.size ∧ Q a s') (fun e s' => n ≤ s'.heap.objs.size ∧ E e s') s :=
  fun Γ p hΓ => wp_hsz M Γ n t _ _ p s hn (h Γ p hΓ)
theorem wpAny_gsz' {α : Type} {M : Model} {A : Around} {s : Shared} {t : Sem α} {Q : α → Shared → Prop} {E : Value → Shared → Prop} {n : Nat} (hn : n ≤ s.gens.size) (h : wpAny M A t Q E s) :
    wpAny M A t (fun a s' => n ≤ s'.gens.size ∧ Q a s') (fun e s' => n ≤ s'.gens.size ∧ E e s') s :=
  fun Γ p hΓ => GenW.wp_gsz M Γ n t _ _ p s hn (h Γ p hΓ)

theorem Inv.gens' {X : Cx} {pins : PV} {σ : L2.St} {H : Hp} {s : Shared} {g' : Array GenState} (I : L2.Inv X pins σ H s) (hg : AllBare g') : L2.Inv X pins σ H { s with gens := g' } :=
  ⟨I.ok, I.os, hg, I.base, I.loc, I.cell, I.free, I.freeC, I.pin, I.hok, I.len⟩
theorem bare_hide {s : Shared} (h : AllBare s.gens) : AllBare (hide s).gens := fun x hx => by
  have hx : x ∈ s.gens.map stk := hx
  obtain ⟨y, hy, rfl⟩ := Array.mem_map.mp hx
  rw [bare_stk]; exact h y hy

/-! ### contracts -/
abbrev Items := List (V → Hp → Prop)
def REnd (G : GE) (pv : PV) (s : Shared) (H : Hp) : Result → Shared → Prop := fun r s' => r = .ok (.ret .none) ∧ ∃ H', Rel G pv s H s' H' ∧ Ex H H' ∧ G.g < s'.gens.size
def YItem (G : GE) (Pi : V → Hp → Prop) (next : GenState → PV → PG → Prop) (pv : PV) (s : Shared) (H : Hp) : Value → GenState → Shared → Prop := fun v gs' s' => ∃ x H' pv' pg', RelV x v ∧ Pi x H' ∧ Rel G pv s H s' H' ∧ Ex H H' ∧
  Slp pv' pg' s' H' ∧ G.n0 ∈ pv'.map (·.1) ∧ (∀ p ∈ pv', (p.1 ∈ pv.map (·.1) ∨ s.heap.objs.size ≤ p.1) ∧ G.n0 ≤ p.1 ∧ ∀ v, p.2.data ≠ .cell v) ∧ (∀ q ∈ pg', G.g < q.1) ∧ G.g < s'.gens.size ∧ next gs' pv' pg'
def GOk (G : GE) : Items → GenState → PV → PG → Prop
  | [] => fun gs pv pg => ∀ A s H, Awk G A s H → Slp pv pg s H → Goes1 (model G.P G.w) A (REnd G pv s H) (fun _ _ _ => False) gs s
  | Pi :: rest => fun gs pv pg => ∀ A s H, Awk G A s H → Slp pv pg s H → Goes1 (model G.P G.w) A (fun _ _ => False) (YItem G Pi (GOk G rest) pv s H) gs s
def Rof (G : GE) (its : Items) (pv : PV) (s : Shared) (H : Hp) : Result → Shared → Prop := match its with
  | [] => REnd G pv s H
  | _ :: _ => fun _ _ => False
def Yof (G : GE) (its : Items) (pv : PV) (s : Shared) (H : Hp) : Value → GenState → Shared → Prop := match its with
  | [] => fun _ _ _ => False
  | Pi :: rest => YItem G Pi (GOk G rest) pv s H
theorem gOk_iff {G : GE} {its : Items} {gs : GenState} {pv : PV} {pg : PG} : GOk G its gs pv pg ↔ ∀ A s H, Awk G A s H → Slp pv pg s H → Goes1 (model G.P G.w) A (Rof G its pv s H) (Yof G its pv s H) gs s := by
  cases its <;> exact Iff.rfl

/-! ### states amid a generator's run -/
structure GI (G : GE) (A : Around) (s0 : Shared) (H0 : Hp) (pv0 : PV) (pp : PV) (pg : PG) (σ : L2.St) (H : Hp) (s : Shared) : Prop where
  inv : L2.Inv (G.cx A s0 H0) (foreign G.n0 pv0 s0 H0 ++ pp) σ H s
  gn : ∀ q ∈ pg, s.gens[q.1]? = some q.2 ∧ IsSus q.2 ∧ G.g < q.1
  num : G.g < s.gens.size
  sz : s0.heap.objs.size ≤ s.heap.objs.size
  priv : ∀ p ∈ pp, (p.1 ∈ pv0.map (·.1) ∨ s0.heap.objs.size ≤ p.1) ∧ G.n0 ≤ p.1
  own : G.n0 ∈ pv0.map (·.1)
section
variable {G : GE} {A : Around} {s0 : Shared} {H0 : Hp} {pv0 pp : PV} {pg : PG} {σ : L2.St} {H : Hp} {s : Shared}
/-- whatever is proven of a state runs in a generator too -/
theorem GI.run {α : Type} {t : Sem α} {Q : α → L2.St → Hp → Shared → Prop} (gi : GI G A s0 H0 pv0 pp pg σ H s)
    (hQ : ∀ a σ' H' s' (g' : Array GenState), (∀ i, s.gens.size ≤ i → g'[i]? = s'.gens[i]?) → Q a σ' H' s' → Q a σ' H' { s' with gens := g' })
    (h : ∀ s', s'.heap = s.heap ∧ s'.gens.size = s.gens.size → L2.Inv (G.cx A s0 H0) (foreign G.n0 pv0 s0 H0 ++ pp) σ H s' → wpAny (model G.P G.w) (A.deeper G.env) t (fun a s' => ∃ σ' H', L2.Inv (G.cx A s0 H0) (foreign G.n0 pv0 s0 H0 ++ pp) σ' H' s' ∧ Q a σ' H' s') bot s') :
    wpAny (model G.P G.w) (A.deeper G.env) t (fun a s' => ∃ σ' H', GI G A s0 H0 pv0 pp pg σ' H' s' ∧ Q a σ' H' s') bot s := by
  have h1 := h (hide s) ⟨rfl, by simp [hide]⟩ (Inv.gens' gi.inv (bare_hide gi.inv.bare))
  have h2 := wpAny_hsz gi.sz (wpAny_gsz' gi.num (wpAny_kept h1))
  refine wpAny_mono h2 (fun a s' q => ?_) fun e s' q => ?_
  · obtain ⟨hz, hn, hk, s₁, e, hnew, hb, σ', H', I, q⟩ := q
    have bare : AllBare s'.gens := hb gi.inv.bare I.bare
    refine ⟨σ', H', ⟨?_, fun z hz' => ?_, hn, hz, gi.priv, gi.own⟩, ?_⟩
    · have := Inv.gens' (g' := s'.gens) I bare
      rw [← e] at this
      exact this
    · obtain ⟨z1, z2, z3⟩ := gi.gn z hz'
      exact ⟨hk _ _ z2 z1, z2, z3⟩
    · have := hQ a σ' H' s₁ s'.gens hnew q
      rw [← e] at this
      exact this
  · obtain ⟨_, _, _, _, _, _, _, q⟩ := q
    exact q
/-- at a waking -/
theorem gi_awake (ok : G.Ok) (a : Awk G A s H) {pv : PV} (sl : Slp pv pg s H) (hl : LocOk G σ s.heap) (hlen : σ.length = G.N.length) (own : G.n0 ∈ pv.map (·.1)) (hpp : ∀ p ∈ pp, p ∈ pv ∧ p.1 ≠ G.n0 ∧ G.n0 ≤ p.1 ∧ ∀ v, p.2.data ≠ .cell v) (hpg : ∀ q ∈ pg, G.g < q.1) :
    GI G A s H pv pp pg σ H s := by
  obtain ⟨p0, hp0, e0⟩ := List.mem_map.mp own
  have hn : H G.n0 = none := by rw [← e0]; exact (sl.ob p0 hp0).2
  refine ⟨awake ok a hl hlen hn fun p hp => ?_, fun q hq => ?_, a.num, Nat.le_refl _, fun p hp => ⟨.inl (List.mem_map.mpr ⟨p, (hpp p hp).1, rfl⟩), (hpp p hp).2.2.1⟩, own⟩
  · rcases List.mem_append.mp hp with hp | hp
    · obtain ⟨h1, h2, h3, h4, h5⟩ := mem_foreign.mp (show (p.1, p.2) ∈ foreign G.n0 pv s H from hp)
      exact ⟨h1, h3, fun z => h4 (by rw [z]; exact own), h2, notCell_iff.mp h5⟩
    · obtain ⟨h1, h2, h3, h4⟩ := hpp p hp
      exact ⟨(sl.ob p h1).1, (sl.ob p h1).2, h2, h3, h4⟩
  · exact ⟨(sl.gn q hq).1, (sl.gn q hq).2, hpg q hq⟩
end

/-! ### statements -/
structure GEnds where
  nx : Items → Hp → L2.St → Hp → Prop
  rt : Items → Hp → VK
  bk : Items → Hp → L2.St → Hp → Prop := fun _ _ _ _ => False
  ct : Items → Hp → L2.St → Hp → Prop := fun _ _ _ _ => False
abbrev TZ := GEnds → Items → Hp → L2.St → Hp → Prop
def GEnds.at (D : GEnds) (its : Items) (H0 : Hp) : Ends := { nx := D.nx its H0, rt := D.rt its H0, bk := D.bk its H0, ct := D.ct its H0 }
def GSP (G : GE) (A : Around) (s0 : Shared) (H0 : Hp) (pv0 pp : PV) (pg : PG) (D : GEnds) (its : Items) (f : Flow) (s : Shared) : Prop :=
  match f with
  | .next => ∃ σ H, GI G A s0 H0 pv0 pp pg σ H s ∧ D.nx its H0 σ H
  | .brk => ∃ σ H, GI G A s0 H0 pv0 pp pg σ H s ∧ D.bk its H0 σ H
  | .cont => ∃ σ H, GI G A s0 H0 pv0 pp pg σ H s ∧ D.ct its H0 σ H
  | .ret u => ∃ v σ H, GI G A s0 H0 pv0 pp pg σ H s ∧ RelV v u ∧ D.rt its H0 v H
structure GC (G : GE) (c : Code) (fs : List Frame) (gd : Bool → Bool) : Prop where
  over : ∀ A : Around, A.over c fs = A.deeper G.env
  split : splitAtGen fs = none
  guard : fs.any Frame.guarded = false
  gd : gd false = false
def GK (G : GE) (pp : PV) (pg : PG) (c : Code) (fs : List Frame) (K : Flow → Sem PySem.Fin) (D : GEnds) : Prop :=
  ∀ (A : Around) (s0 : Shared) (H0 : Hp) (pv0 : PV) (its : Items) (s : Shared) (f : Flow), Awk G A s0 H0 → GSP G A s0 H0 pv0 pp pg D its f s → Run1 (model G.P G.w) A (Rof G its pv0 s0 H0) (Yof G its pv0 s0 H0) c (K f) fs s
structure GS (G : GE) (pg : PG) (st : Stmt) (t : TZ) : Prop where
  run : ∀ (A : Around) (s0 : Shared) (H0 : Hp) (pv0 pp : PV) (its : Items) (c : Code) (fs : List Frame) (K : Flow → Sem PySem.Fin) (J : Value → Sem PySem.Fin) (gd : Bool → Bool) (lv : List Value → List Value) (s : Shared) (σ : L2.St) (H : Hp) (D : GEnds),
    Awk G A s0 H0 → GC G c fs gd → GK G pp pg c fs K D → GI G A s0 H0 pv0 pp pg σ H s → t D its H0 σ H →
    Run1 (model G.P G.w) A (Rof G its pv0 s0 H0) (Yof G its pv0 s0 H0) c ((exec st G.env).wrap K J gd lv) fs s
structure GSs (G : GE) (pg : PG) (st : List Stmt) (t : TZ) : Prop where
  run : ∀ (A : Around) (s0 : Shared) (H0 : Hp) (pv0 pp : PV) (its : Items) (c : Code) (fs : List Frame) (K : Flow → Sem PySem.Fin) (J : Value → Sem PySem.Fin) (gd : Bool → Bool) (lv : List Value → List Value) (s : Shared) (σ : L2.St) (H : Hp) (D : GEnds),
    Awk G A s0 H0 → GC G c fs gd → GK G pp pg c fs K D → GI G A s0 H0 pv0 pp pg σ H s → t D its H0 σ H →
    Run1 (model G.P G.w) A (Rof G its pv0 s0 H0) (Yof G its pv0 s0 H0) c ((execs st G.env).wrap K J gd lv) fs s

section
variable {G : GE} {pg : PG} {st : Stmt} {rest : List Stmt}
def zPlain (t : TS) : TZ := fun D its H0 σ H => t (D.at its H0) σ H
theorem sp_gsp {A : Around} {s0 : Shared} {H0 : Hp} {pv0 pp : PV} {D : GEnds} {its : Items} {f : Flow} {s : Shared}
    (h : ∃ (σ' : L2.St) (H' : Hp), GI G A s0 H0 pv0 pp pg σ' H' s ∧ (match f with | .next => D.nx its H0 σ' H' | .brk => D.bk its H0 σ' H' | .cont => D.ct its H0 σ' H' | .ret u => ∃ v, RelV v u ∧ D.rt its H0 v H')) : GSP G A s0 H0 pv0 pp pg D its f s := by
  obtain ⟨σ', H', g, q⟩ := h
  cases f with
  | next => exact ⟨σ', H', g, q⟩
  | brk => exact ⟨σ', H', g, q⟩
  | cont => exact ⟨σ', H', g, q⟩
  | ret u => obtain ⟨v, r, q⟩ := q; exact ⟨v, σ', H', g, r, q⟩
/-- a statement that hands out nothing -/
theorem zs_ps {t : TS} (h : ∀ A s0 H0, Awk G A s0 H0 → PS (G.cx A s0 H0) st t) : GS G pg st (zPlain t) := by
  refine ⟨fun A s0 H0 pv0 pp its c fs K J gd lv s σ H D aw gc k gi ht => ?_⟩
  refine r1_wrap ?_
  rw [gc.over]
  refine wpAny_mono (gi.run (Q := fun f σ' H' _ => (match f with | .next => D.nx its H0 σ' H' | .brk => D.bk its H0 σ' H' | .cont => D.ct its H0 σ' H' | .ret u => ∃ v, RelV v u ∧ D.rt its H0 v H')) (fun _ _ _ _ _ _ q => q) fun s1 _ I => ?_) (fun f s' q => k A s0 H0 pv0 its s' f aw (sp_gsp q)) fun _ _ z => z
  refine wpAny_mono ((h A s0 H0 aw).run _ s1 σ H (D.at its H0) I ht) (fun f s' q => ?_) fun _ _ z => z
  cases f with
  | next => obtain ⟨σ', H', I', q⟩ := q; exact ⟨σ', H', I', q⟩
  | brk => obtain ⟨σ', H', I', q⟩ := q; exact ⟨σ', H', I', q⟩
  | cont => obtain ⟨σ', H', I', q⟩ := q; exact ⟨σ', H', I', q⟩
  | ret u => obtain ⟨v, σ', H', I', r, q⟩ := q; exact ⟨σ', H', I', v, r, q⟩
def zNext : TZ := fun D its H0 σ H => D.nx its H0 σ H
theorem zss_nil : GSs G pg [] zNext :=
  ⟨fun A s0 H0 pv0 pp its c fs K J gd lv s σ H D aw gc k gi ht => k A s0 H0 pv0 its s .next aw ⟨σ, H, gi, ht⟩⟩
def zSeq (t u : TZ) : TZ := fun D its H0 σ H => t { D with nx := u D } its H0 σ H
theorem zss_cons {t u : TZ} (a : GS G pg st t) (b : GSs G pg rest u) : GSs G pg (st :: rest) (zSeq t u) := by
  refine ⟨fun A s0 H0 pv0 pp its c fs K J gd lv s σ H D aw gc k gi ht => ?_⟩
  refine r1_execs_cons ?_
  refine a.run A s0 H0 pv0 pp its c fs _ J gd lv s σ H { D with nx := u D } aw gc (fun A' s0' H0' pv0' its' s' f aw' q => ?_) gi ht
  cases f with
  | next =>
    obtain ⟨σ', H', gi', q⟩ := q
    exact b.run A' s0' H0' pv0' pp its' c fs K J gd lv s' σ' H' D aw' gc k gi' q
  | brk => exact k A' s0' H0' pv0' its' s' .brk aw' q
  | cont => exact k A' s0' H0' pv0' its' s' .cont aw' q
  | ret u => exact k A' s0' H0' pv0' its' s' (.ret u) aw' q
theorem zss_one {t : TZ} (a : GS G pg st t) : GSs G pg [st] t := by
  refine ⟨fun A s0 H0 pv0 pp its c fs K J gd lv s σ H D aw gc k gi ht => ?_⟩
  refine r1_execs_cons ?_
  refine a.run A s0 H0 pv0 pp its c fs _ J gd lv s σ H D aw gc (fun A' s0' H0' pv0' its' s' f aw' q => ?_) gi ht
  cases f with
  | next => exact k A' s0' H0' pv0' its' s' .next aw' q
  | brk => exact k A' s0' H0' pv0' its' s' .brk aw' q
  | cont => exact k A' s0' H0' pv0' its' s' .cont aw' q
  | ret u => exact k A' s0' H0' pv0' its' s' (.ret u) aw' q
def zIf (c : TT) (t u : TZ) : TZ := fun D its H0 σ H => c σ H fun b H1 => if b = true then t D its H0 σ H1 else u D its H0 σ H1
theorem zs_if {c : Expr} {a b : List Stmt} {pos : Pos} {tc : TT} {t u : TZ} (hc : ∀ A s0 H0, Awk G A s0 H0 → PT (G.cx A s0 H0) c tc) (ha : GSs G pg a t) (hb : GSs G pg b u) : GS G pg (.If c a b pos) (zIf tc t u) := by
  refine ⟨fun A s0 H0 pv0 pp its cc fs K J gd lv s σ H D aw gc k gi ht => ?_⟩
  show Run1 _ A _ _ cc ((standAt pos >>= fun _ => isTrue c G.env (eval c G.env) >>= fun b' => if b' = true then execs a G.env else execs b G.env).wrap K J gd lv) fs s
  refine r1_bind_wrap (wpAny_standAt (r1_bind_wrap ?_))
  rw [gc.over]
  refine wpAny_mono (gi.run (Q := fun d σ' H' _ => σ' = σ ∧ if d = true then t D its H0 σ H' else u D its H0 σ H') (fun _ _ _ _ _ _ q => q) fun s1 _ I => ?_) (fun d s' q => ?_) fun _ _ z => z
  · exact wpAny_mono ((hc A s0 H0 aw).run _ s1 σ H _ I ht) (fun d s' ⟨H', I', q⟩ => ⟨σ, H', I', rfl, q⟩) fun _ _ z => z
  · obtain ⟨σ', H', gi', e, q⟩ := q
    subst e
    cases d with
    | true => exact ha.run A s0 H0 pv0 pp its cc fs K J gd lv s' _ H' D aw gc k gi' q
    | false => exact hb.run A s0 H0 pv0 pp its cc fs K J gd lv s' _ H' D aw gc k gi' q
/-- yield: the item is the next one that is due; behind it the heap may be any -/
def zYield (te : TE) : TZ := fun D its H0 σ H => te σ H fun x H1 => ∃ Pi rest, its = Pi :: rest ∧ Pi x H1 ∧ Ex H0 H1 ∧ ∀ H2, D.nx rest H2 σ H2
theorem zs_yield {e : Expr} {yp pos : Pos} {te : TE} (ok : G.Ok) (he : ∀ A s0 H0, Awk G A s0 H0 → PE (G.cx A s0 H0) e te) : GS G pg (.Expr (.Yield (some e) yp) pos) (zYield te) := by
  refine ⟨fun A s0 H0 pv0 pp its c fs K J gd lv s σ H D aw gc k gi ht => ?_⟩
  refine r1_Expr_Yield gc.split gc.gd gc.guard ?_ ok.co (by
    have : (G.env.scope.kind == .module) = false := by show (G.scope.kind == .module) = false; rw [ok.kind]; rfl
    simp [interactive, this])
  rw [gc.over]
  refine wpAny_mono (gi.run (Q := fun v σ' H' _ => σ' = σ ∧ ∃ x, RelV x v ∧ ∃ Pi rest, its = Pi :: rest ∧ Pi x H' ∧ Ex H0 H' ∧ ∀ H2, D.nx rest H2 σ H2) (fun _ _ _ _ _ _ q => q) fun s1 _ I => ?_) (fun v s' q => ?_) fun _ _ z => z
  · exact wpAny_mono ((he A s0 H0 aw).run _ s1 σ H _ I ht) (fun v s' ⟨x, H', I', r, q⟩ => ⟨σ, H', I', rfl, x, r, q⟩) fun _ _ z => z
  · obtain ⟨σ', H', gi', es, x, rv, Pi, rest, ei, hP, hx, hnx⟩ := q
    subst es ei
    intro kk l p hk
    have I := gi'.inv
    obtain ⟨m, hm, hloc⟩ := I.loc
    obtain ⟨o, es, ep, ho, hd, r⟩ := id hm
    have ho : s'.heap.get? G.n0 = some o := ho
    have hnc : ∀ v, o.data ≠ .cell v := fun v z => by rw [hd] at z; cases z
    have pinP : ∀ p ∈ pp, s'.heap.get? p.1 = some p.2 ∧ H' p.1 = none ∧ p.1 ≠ G.n0 ∧ ∀ v, p.2.data ≠ .cell v := fun p hp => by
      obtain ⟨q1, q2, q3, _, q5⟩ := I.pin p (List.mem_append_right _ (List.mem_append_right _ hp))
      exact ⟨q1, q2, q3, q5⟩
    refine ⟨x, H', (G.n0, o) :: pp, pg, rv, hP, rel_of ok I gi'.sz hx, hx, ⟨fun p hp => ?_, fun q hq => ⟨(gi'.gn q hq).1, (gi'.gn q hq).2.1⟩⟩, by simp, fun p hp => ?_, fun q hq => (gi'.gn q hq).2.2, gi'.num, ?_⟩
    · rcases List.mem_cons.mp hp with rfl | hp
      · exact ⟨ho, I.free⟩
      · exact ⟨(pinP p hp).1, (pinP p hp).2.1⟩
    · rcases List.mem_cons.mp hp with rfl | hp
      · exact ⟨.inl gi'.own, Nat.le_refl _, hnc⟩
      · exact ⟨(gi'.priv p hp).1, (gi'.priv p hp).2, (pinP p hp).2.2.2⟩
    · refine gOk_iff.mpr fun A2 s2 H2 aw2 sl2 => ?_
      show Run1 _ A2 _ _ c (kk (.send .none)) fs s2
      refine hk A2 _ _ s2 ?_
      refine k A2 s2 H2 ((G.n0, o) :: pp) rest s2 .next aw2 ⟨σ', H2, gi_awake ok aw2 sl2 ⟨m, ⟨o, es, ep, (sl2.ob (G.n0, o) List.mem_cons_self).1, hd, r⟩, fun i y v q1 q2 q3 => ?_⟩ I.len (by simp) (fun p hp => ⟨List.mem_cons_of_mem _ hp, (pinP p hp).2.2.1, (gi'.priv p hp).2, (pinP p hp).2.2.2⟩) (fun q hq => (gi'.gn q hq).2.2), hnx H2⟩
      obtain ⟨u, z1, z2⟩ := hloc i y v q1 q2 q3
      refine ⟨u, z1, ?_⟩
      rcases z2 with z2 | ⟨z2, _⟩
      · exact z2
      · rcases z2 with z2 | z2
        · exact absurd z2 (ok.nocell y).1
        · exact absurd z2 (ok.nocell y).2
end
end GZ
end
section
set_option maxRecDepth 100000
set_option maxHeartbeats 1000000
namespace GZ
open PySem PySem.Spec PyProof.Rows L2 GenW
open Evl (Ex)

/-! ### a sleeping generator, as its consumer sees it -/
structure GD where
  G : GE
  a : Addr
  o : Obj
  gs : GenState
  pv : PV
  pg : PG
structure GD.At (D : GD) (its : Items) (s : Shared) (H : Hp) : Prop where
  ok : D.G.Ok
  isg : ∀ h : Heap, h.get? D.a = some D.o → h.IsGen D.a D.G.g
  gok : GOk D.G its D.gs D.pv D.pg
  pvn : ∀ p ∈ D.pv, D.G.n0 ≤ p.1 ∧ p.1 ≠ D.a ∧ ∀ v, p.2.data ≠ .cell v
  own : D.G.n0 ∈ D.pv.map (·.1)
  pgn : ∀ q ∈ D.pg, D.G.g < q.1
  a0 : D.G.n0 ≤ D.a
  ob : s.heap.get? D.a = some D.o ∧ H D.a = none
  st : s.gens[D.G.g]? = some D.gs
  slp : Slp D.pv D.pg s H
structure GD.Fits (D : GD) (X : Cx) (k : Nat) : Prop where
  P : D.G.P = X.prog
  w : D.G.w = X.w
  K : D.G.K = X.K
  mg : D.G.mg = X.mg
  base : D.G.base = X.base
  outer : D.G.outer = X.stack
  k : D.G.k = k
structure GD.Apart (D : GD) (X : Cx) (H : Hp) (pins : PV) : Prop where
  s0 : ∀ b, D.G.n0 ≤ b → (∀ xs, H b ≠ some (.lst xs)) → b ∈ X.ex ∨ X.s_0.heap.objs.size ≤ b
  loc : X.env.locals ∉ D.pv.map (·.1) ∧ X.env.locals ≠ D.a
  cell : ∀ x c, X.env.cells.lookup x = some c → c < D.G.n0
  pin : ∀ p ∈ X.pn ++ pins, p.1 ∉ D.pv.map (·.1) ∧ p.1 ≠ D.a
/-- its own object and what it owns: to be pinned -/
def GD.all (D : GD) : PV := (D.a, D.o) :: D.pv
theorem GD.At.notcell {D : GD} {its : Items} {s : Shared} {H : Hp} (d : D.At its s H) : ∀ p ∈ D.all, ∀ v, p.2.data ≠ .cell v := fun p hp => by
  rcases List.mem_cons.mp hp with rfl | hp
  · obtain ⟨o, nm, qn, ho, _, hd, _⟩ := d.isg s.heap d.ob.1
    have : o = D.o := by have := d.ob.1; rw [ho] at this; exact Option.some.inj this
    subst this
    exact fun v z => by
      have z : D.o.data = .cell v := z
      rw [hd] at z; cases z
  · exact (d.pvn p hp).2.2
theorem GD.At.keep {D : GD} {its : Items} {s s' : Shared} {H H' : Hp} (d : D.At its s H) (ho : ∀ p ∈ D.all, s'.heap.get? p.1 = some p.2 ∧ H' p.1 = none) (hg : s'.gens[D.G.g]? = some D.gs) (hpg : ∀ q ∈ D.pg, s'.gens[q.1]? = some q.2) : D.At its s' H' :=
  ⟨d.ok, d.isg, d.gok, d.pvn, d.own, d.pgn, d.a0, ho _ List.mem_cons_self, hg, ⟨fun p hp => ho p (List.mem_cons_of_mem _ hp), fun q hq => ⟨hpg q hq, (d.slp.gn q hq).2⟩⟩⟩
theorem setGen_get {s : Shared} {g : Nat} {x : GenState} (h : g < s.gens.size) : (s.setGen g x).gens[g]? = some x := by
  show (s.gens.setIfInBounds g x)[g]? = some x
  simp [h]
theorem setGen_ne {s : Shared} {g i : Nat} {x : GenState} (h : i ≠ g) : (s.setGen g x).gens[i]? = s.gens[i]? := by
  show (s.gens.setIfInBounds g x)[i]? = _
  rw [Array.getElem?_setIfInBounds_ne (Ne.symm h)]
theorem bare_set {s : Shared} {g : Nat} {x : GenState} (h : AllBare s.gens) (hx : x.bare = true) : AllBare (s.setGen g x).gens := fun y hy => by
  obtain ⟨i, hi, e⟩ := Array.mem_iff_getElem.mp hy
  have hi' : i < s.gens.size := by
    have q : (s.setGen g x).gens.size = s.gens.size := setGen_size s g x
    rw [q] at hi; exact hi
  have q2 : (s.setGen g x).gens[i]? = some y := by rw [Array.getElem?_eq_getElem hi, e]
  by_cases z : i = g
  · subst z
    rw [setGen_get hi'] at q2; cases q2; exact hx
  · rw [setGen_ne z] at q2
    exact h y (Array.mem_of_getElem? q2)
def NextP (X : Cx) (pins : PV) (σ : L2.St) (D : GD) (H : Hp) (s : Shared) (its : Items) (r : Option Value) (s' : Shared) : Prop := match its with
  | [] => r = none ∧ ∃ H', L2.Inv X pins σ H' s' ∧ Ex H H'
  | Pi :: rest => ∃ v x H' gs' pv' pg', r = some v ∧ RelV x v ∧ Pi x H' ∧ L2.Inv X pins σ H' s' ∧ Ex H H' ∧ IsSus gs' ∧ ({ D with gs := gs', pv := pv', pg := pg' } : GD).At rest s' H' ∧ ∀ p ∈ pv', p.1 ∈ D.pv.map (·.1) ∨ s.heap.objs.size ≤ p.1
theorem gnext {X : Cx} {pins : PV} {σ : L2.St} {H : Hp} {s : Shared} {D : GD} {k : Nat} {its : Items} {E : Value → Shared → Prop} (I : L2.Inv X pins σ H s) (d : D.At its s H) (ft : D.Fits X k) (ap : D.Apart X H pins) (hr : Room (k + 1) X.A) :
    wpAny (model X.prog X.w) X.A (pyNext (.ref D.a)) (NextP X pins σ D H s its) E s := by
  obtain ⟨hP, hw, hK, hmg, hb, hout, hk⟩ := ft
  have hgl : D.G.g < s.gens.size := (Array.getElem?_eq_some_iff.mp d.st).1
  obtain ⟨p0, hp0, e0⟩ := List.mem_map.mp d.own
  have hn0 : D.G.n0 < s.heap.objs.size := by rw [← e0]; exact Heap.lt_size (d.slp.ob p0 hp0).1
  have aw : Awk D.G X.A.in1 (s.setGen D.G.g .running) H := by
    have e := I.env0.in1
    refine ⟨?_, by rw [hk]; exact hr.in1, hn0, by rw [setGen_size]; exact hgl⟩
    rw [hP, hw, hK, hmg, hb, hout]
    exact ⟨e.frames, e.mod, e.bs, e.bsz, e.funs, e.frf, e.hok, bare_set e.bare rfl⟩
  have sl : Slp D.pv D.pg (s.setGen D.G.g .running) H := ⟨d.slp.ob, fun q hq => ⟨by rw [setGen_ne (Nat.ne_of_gt (d.pgn q hq))]; exact (d.slp.gn q hq).1, (d.slp.gn q hq).2⟩⟩
  have hgo := gOk_iff.mp d.gok X.A.in1 _ H aw sl
  have alt : D.a < s.heap.objs.size := Heap.lt_size d.ob.1
  -- behind a waking
  have back : ∀ (s₁ : Shared) (H' : Hp) (gs' : GenState), Rel D.G D.pv (s.setGen D.G.g .running) H s₁ H' → gs'.bare = true → L2.Inv X pins σ H' (s₁.setGen D.G.g gs') ∧ s₁.heap.get? D.a = some D.o ∧ H' D.a = none := fun s₁ H' gs' r hbare => by
    obtain ⟨hos, hba, ⟨ch, hch, un⟩, hok, _⟩ := r
    rw [hout] at un
    rw [hP, hw] at hok
    have hL : X.env.locals ∉ ch := fun z => by
      rcases (hch _ z).2 with q | ⟨o, v, q1, q2⟩
      · exact ap.loc.1 q
      · obtain ⟨m, ⟨o', es, ep, h1, h2, _⟩, _⟩ := I.loc
        have q1 : s.heap.get? X.env.locals = some o := q1
        rw [h1] at q1; cases q1
        rw [h2] at q2; cases q2
    refine ⟨I.call' (ch := ch) hos un hok (bare_set hba hbare) fun b hbc => ⟨ap.s0 b (hch b hbc).1 (fun xs z => by
      rcases (hch b hbc).2 with q | ⟨o, v, q1, q2⟩
      · obtain ⟨p, hp, e⟩ := List.mem_map.mp q
        have := (d.slp.ob p hp).2
        rw [e, z] at this; cases this
      · obtain ⟨_, _, _, _, e⟩ := I.hok b _ z
        have q1 : s.heap.get? b = some o := q1
        rw [e] at q1; cases q1; cases q2), fun z => hL (by rw [← z]; exact hbc), fun x c e z => ?_, fun p hp z => ?_⟩, ?_⟩
    · have := ap.cell x c e
      rw [z] at this
      exact absurd (Nat.lt_of_lt_of_le this (hch b hbc).1) (Nat.lt_irrefl _)
    · rcases (hch b hbc).2 with q | ⟨o, v, q1, q2⟩
      · exact (ap.pin p hp).1 (by rw [z]; exact q)
      · obtain ⟨h1, _, _, _, h5⟩ := I.pin p hp
        rw [z] at h1
        have q1 : s.heap.get? b = some o := q1
        rw [h1] at q1; cases q1
        exact h5 v q2
    · have hac : D.a ∉ ch := fun z => by
        rcases (hch _ z).2 with q | ⟨o, v, q1, q2⟩
        · obtain ⟨p, hp, e⟩ := List.mem_map.mp q
          exact (d.pvn p hp).2.1 e
        · have q1 : s.heap.get? D.a = some o := q1
          rw [d.ob.1] at q1; cases q1
          exact d.notcell (D.a, D.o) List.mem_cons_self v q2
      have haf : D.a ∉ frs X.stack := fun z => by
        have := d.ok.frs D.a (by rw [hout]; exact z)
        exact absurd (Nat.lt_of_lt_of_le this d.a0) (Nat.lt_irrefl _)
      exact ⟨un.keep D.a D.o d.ob.1 d.ob.2 haf hac, un.free D.a D.o d.ob.1 d.ob.2 hac⟩
  rw [hP, hw] at hgo
  refine next1 (A := X.A) (R := Rof D.G its D.pv (s.setGen D.G.g .running) H) (Y := Yof D.G its D.pv (s.setGen D.G.g .running) H) hr.hd I.nolimit (by have := hr.dp; omega) (d.isg _ d.ob.1) d.st hgo (fun v s₁ gs' hi hb' hv => ?_) (fun r s₁ hR => ?_)
  · cases its with
    | nil => exact hv.elim
    | cons Pi rest =>
      obtain ⟨x, H', pv', pg', rv, hPi, rel, hx, sl', hown', hpv', hpg', hnum, hok'⟩ := hv
      obtain ⟨I', ha1, ha2⟩ := back s₁ H' gs' rel hb'
      refine ⟨v, x, H', gs', pv', pg', rfl, rv, hPi, I', hx, hi, ⟨d.ok, d.isg, hok', fun p hp => ⟨(hpv' p hp).2.1, fun z => ?_, (hpv' p hp).2.2⟩, hown', hpg', d.a0, ⟨ha1, ha2⟩, setGen_get hnum, ⟨sl'.ob, fun q hq => ⟨?_, (sl'.gn q hq).2⟩⟩⟩, fun p hp => (hpv' p hp).1⟩
      · rcases (hpv' p hp).1 with q | q
        · obtain ⟨p2, hp2, e⟩ := List.mem_map.mp q
          exact (d.pvn p2 hp2).2.1 (e.trans z)
        · rw [z] at q
          exact absurd (Nat.lt_of_lt_of_le alt q) (Nat.lt_irrefl _)
      · show ((s₁.setGen D.G.g gs').gens)[q.1]? = some q.2
        rw [setGen_ne (Nat.ne_of_gt (hpg' q hq))]; exact (sl'.gn q hq).1
  · cases its with
    | cons Pi rest => exact hR.elim
    | nil =>
      obtain ⟨hr', H', rel, hx, _⟩ := hR
      refine ⟨.inl hr', fun h' hk' => ?_⟩
      obtain ⟨I', _, _⟩ := back s₁ H' .finished rel rfl
      exact ⟨rfl, H', I'.kept (t' := s₁.toks) hk', hx⟩
end GZ
end
section
set_option maxRecDepth 100000
set_option maxHeartbeats 1000000
namespace GZ
open PySem PySem.Spec PyProof.Rows L2 GenW
open Evl (Ex)

theorem wpAny_strip {M : Model} {A : Around} {t : Sem (Option Value)} {P : Value → Shared → Prop} {E E' : Value → Shared → Prop} {s : Shared}
    (h : wpAny M A t (fun r s1 => ∃ u, r = some u ∧ wpAny M A (pure () : Sem Unit) (fun _ s2 => P u s2) E' s1) E s) : wpAny M A t (fun r s1 => ∃ u, r = some u ∧ P u s1) E s := by
  intro Γ p hΓ
  exact Sem.wp_mono M Γ t (fun r p' s' ⟨u, e, q⟩ => ⟨u, e, q Γ p' hΓ⟩) (fun _ _ _ z => z) p s (h Γ p hΓ)

/-! ### range loops -/
def PIEf (X : Cx) (pins : PV) (σ : L2.St) (tg : Expr) (R : It → Hp → Prop) (s : Shared) (itv : Value) (s2 : Shared) : Prop :=
  ∃ (it : Addr) (fp : List Addr) (tn : Nat → Heap → Prop) (J : It) (H' : Hp), itv = .ref it ∧ L2.Inv X pins σ H' s2 ∧ Turn X.prog X.w X.K tg J fp it tn ∧ tn 0 s2.heap ∧ (∀ b ∈ fp, FpOk X pins H' b) ∧ (∀ b ∈ fp, s.heap.objs.size ≤ b) ∧ R J H'
structure PIf (X : Cx) (tg iter : Expr) (wi : TI) : Prop where
  run : ∀ (pins : PV) (s : Shared) (σ : L2.St) (H : Hp) (R : It → Hp → Prop), L2.Inv X pins σ H s → wi σ H R →
    wpAny (model X.prog X.w) X.A (eval iter X.env) (fun v s1 => wpAny (model X.prog X.w) X.A (pyIter v) (PIEf X pins σ tg R s) X.xe s1) X.xe s
theorem range_start {h : Heap} {it : Addr} {a b n m c : Int} (e : IsRangeIter h it b m c) (ha : a = b) (hn : n = m) : IsRangeIter h it a n c := by rw [ha, hn]; exact e
theorem range_itf {X : Cx} {tg : Expr} {pins : PV} {σ : L2.St} {H : Hp} {s ss : Shared} {R : It → Hp → Prop} {E : Value → Shared → Prop} {lo hi : Int} {t u v : Tok} {tk : Nat} (I : L2.Inv X pins σ H s) (hss : ss.heap.objs.size ≤ s.heap.objs.size) (h1 : -(2 ^ 62) ≤ lo) (h2 : lo < 2 ^ 62) (h3 : -(2 ^ 62) ≤ hi) (h4 : hi < 2 ^ 62)
    (q : R (Itr lo (hi - lo).toNat) H) : wpAny (model X.prog X.w) X.A (pyIter (.ref s.heap.objs.size)) (PIEf X pins σ tg R ss) E { s with heap := s.heap.push { cls := .type "range", data := .fields #[.int lo t, .int hi u, .int 1 v] }, toks := tk } := by
  refine wpAny_pyIter_range (IsRange.new ..) (small_one h1 h2 h3 h4) ?_
  have I1 : L2.Inv X pins σ H { s with heap := s.heap.push { cls := .type "range", data := .fields #[.int lo t, .int hi u, .int 1 v] }, toks := tk } := I.kept fun b o e => Heap.get?_push_of_some _ e
  refine ⟨(s.heap.push { cls := .type "range", data := .fields #[.int lo t, .int hi u, .int 1 v] }).objs.size, [(s.heap.push { cls := .type "range", data := .fields #[.int lo t, .int hi u, .int 1 v] }).objs.size], _, _, H, rfl,
    I1.kept (t' := tk) fun b o e => Heap.get?_push_of_some _ e, turn_range _ lo (hi - lo).toNat, ?_, fun b hb => ?_, fun b hb => ?_, q⟩
  · have at0 : lo + ((0 : Nat) : Int) * 1 = lo ∧ (((hi - lo).toNat : Nat) : Int) - ((0 : Nat) : Int) = Builtin.Range.rangeSize lo hi 1 := ⟨by omega, by rw [rangeSize_one]; split <;> omega⟩
    exact range_start (Heap.get?_push_size _ rfl) at0.1 at0.2
  · rw [List.mem_singleton.mp hb]
    exact I1.fpOk (Nat.le_refl _) (I1.hok.fresh (Nat.le_refl _))
  · rw [List.mem_singleton.mp hb]
    exact Nat.le_trans hss (hpush_size _ _)
theorem pif_range1 {X : Cx} {tg a : Expr} {ta : TA} {p pos : Pos} (hg : Gl X "range") (hm : X.mg "range" = none) (ha : PA X [a] ta) (hs : starEach [a] X.env = [(false, eval a X.env)] := by rfl) : PIf X tg (.Call (.Name "range" p) [a] [] pos) (iRng1 ta) := by
  refine ⟨fun pins s σ H R I h => ?_⟩
  refine Call_ (ld_blt I hg hm boot_range (PyProof.Rows.callWith_type1 (wpAny_mono (wpAny_hsz (Nat.le_refl _) (ha.run pos pins s σ H _ I h)) (fun us s1 ⟨hz, vs, H1, I1, r1, q1⟩ => ?_) fun _ _ z => z.2) hs rfl))
  obtain ⟨j, e, q1, q2, q⟩ := q1
  subst e
  cases r1 with
  | cons r rr =>
    cases rr
    obtain ⟨t, rfl⟩ := r
    exact call_range_1 (range_itf I1 hz (by omega) (by omega) q1 q2 (by simpa using q))

theorem r1_For' {M : Model} {A : Around} {R : Result → Shared → Prop} {Y : Value → GenState → Shared → Prop} {c : Code} {fs : List Frame} {env : Env} {K : Flow → Sem PySem.Fin} {H : Value → Sem PySem.Fin} {gd : Bool → Bool} {lv : List Value → List Value} {s : Shared} {target iter : Expr} {body : List Stmt} {pos : Pos}
    (h : wpAny M (A.over c fs) (eval iter env >>= fun x => foldedSetIterable iter env x >>= fun x => standAt iter.pos >>= fun _ => holding [x] (pyIter x)) (fun it s₂ => ∀ p,
      Run1 M A R Y (.forLoop target it body [] env) (M.den (.forLoop target it body [] env)) (loopFrame env K H gd lv c p :: fs) s₂) bot s) :
    Run1 M A R Y c ((exec (.For target iter body [] pos) env).wrap K H gd lv) fs s := by
  rw [exec_For]
  refine r1_bind_wrap (wpAny_standAt ?_)
  have e : (eval iter env >>= fun y => foldedSetIterable iter env y >>= fun x => standAt iter.pos >>= fun _ => holding [x] (pyIter x) >>= fun it => runOwn (.forLoop target it body [] env) env) =
      ((eval iter env >>= fun x => foldedSetIterable iter env x >>= fun x => standAt iter.pos >>= fun _ => holding [x] (pyIter x)) >>= fun it => runOwn (.forLoop target it body [] env) env) := by
    simp only [bind_assoc]
  show Run1 M A R Y c ((eval iter env >>= fun y => foldedSetIterable iter env y >>= fun x => standAt iter.pos >>= fun _ => holding [x] (pyIter x) >>= fun it => runOwn (.forLoop target it body [] env) env).wrap K H gd lv) fs s
  rw [e]
  exact r1_bind_wrap (wpAny_mono h (fun it s₂ h₂ => r1_call h₂) fun _ _ z => z)

theorem GI.weak {G : GE} {A : Around} {s0 : Shared} {H0 : Hp} {pv0 pp pp2 : PV} {pg pg2 : PG} {σ : L2.St} {H : Hp} {s : Shared} (gi : GI G A s0 H0 pv0 pp2 pg2 σ H s) (h1 : ∀ p ∈ pp, p ∈ pp2) (h2 : ∀ q ∈ pg, q ∈ pg2) : GI G A s0 H0 pv0 pp pg σ H s :=
  ⟨gi.inv.pins_of fun p hp => gi.inv.pin p (List.mem_append_right _ (by
    rcases List.mem_append.mp hp with hp | hp
    · exact List.mem_append_left _ hp
    · exact List.mem_append_right _ (h1 p hp))), fun q hq => gi.gn q (h2 q hq), gi.num, gi.sz, fun p hp => gi.priv p (h1 p hp), gi.own⟩
section
variable {G : GE} {pg : PG}
theorem gc_loop' {c : Code} {fs : List Frame} {gd : Bool → Bool} {K : Flow → Sem PySem.Fin} {J : Value → Sem PySem.Fin} {lv : List Value → List Value} {tg : Expr} {it : Value} {body : List Stmt} {p : Pos} (g : GC G c fs gd) : GC G (.forLoop tg it body [] G.env) (loopFrame G.env K J gd lv c p :: fs) id where
  over := fun A => (over_loop rfl rfl).trans (g.over A)
  split := by
    show (splitAtGen fs).map _ = none
    rw [g.split]; rfl
  guard := by
    show (gd false || fs.any Frame.guarded) = false
    rw [g.gd, g.guard]; rfl
  gd := rfl
def zFor (wi : TI) (i : Nat) (tb : TZ) : TZ := fun D its H0 σ H => wi σ H fun J H1 => ∃ W : Nat → Nat → Items → Hp → L2.St → Hp → Prop, (∃ m, W 0 m its H0 σ H1) ∧ ∀ j m its H0 σ H, W j m its H0 σ H →
  (J.stop j H ∧ D.nx its H0 σ H) ∨ (J.go j H ∧ ∀ x H', J.yld j H x H' → tb { nx := fun its' H0' σ' H' => ∃ m', m' < m ∧ W (j + 1) m' its' H0' σ' H', rt := D.rt } its H0 (σ.set i (some x)) H')
theorem zs_for (ok : G.Ok) {iter : Expr} {body : List Stmt} {wi : TI} {i : Nat} {x : Str} {px pos : Pos} {tb : TZ} (hi : ∀ A s0 H0, Awk G A s0 H0 → PIf (G.cx A s0 H0) (.Name x px) iter wi) (hN : G.N.Nodup) (hx : G.N[i]? = some x) (hl : G.scope.names.lookup x = some .local) (hb : GSs G pg body tb)
    (hs : ∀ v, foldedSetIterable iter G.env v = pure v := by intro _; rfl) : GS G pg (.For (.Name x px) iter body [] pos) (zFor wi i tb) := by
  refine ⟨fun A s0 H0 pv0 pp its c fs K J gd lv s σ H D aw gc k gi ht => ?_⟩
  refine r1_For' ?_
  rw [gc.over]
  refine wpAny_mono (gi.run (Q := fun itv σ' H' s' => σ' = σ ∧ ∃ (it : Addr) (fp : List Addr) (tn : Nat → Heap → Prop) (J : It), itv = Value.ref it ∧ Turn G.P G.w G.K (.Name x px) J fp it tn ∧ tn 0 s'.heap ∧ (∀ b ∈ fp, FpOk (G.cx A s0 H0) (foreign G.n0 pv0 s0 H0 ++ pp) H' b) ∧ (∀ b ∈ fp, s0.heap.objs.size ≤ b) ∧
      ∃ W : Nat → Nat → Items → Hp → L2.St → Hp → Prop, (∃ m, W 0 m its H0 σ H') ∧ ∀ j m its H0 σ H, W j m its H0 σ H →
        (J.stop j H ∧ D.nx its H0 σ H) ∨ (J.go j H ∧ ∀ x H', J.yld j H x H' → tb { nx := fun its' H0' σ' H' => ∃ m', m' < m ∧ W (j + 1) m' its' H0' σ' H', rt := D.rt } its H0 (σ.set i (some x)) H')) (fun _ _ _ _ _ _ q => q) fun s1 hz1 I => ?_) (fun itv s2 q => ?_) fun _ _ z => z
  · have hsz : s0.heap.objs.size ≤ s1.heap.objs.size := by
      rw [hz1.1]; exact gi.sz
    refine wpAny_bind (wpAny_mono ((hi A s0 H0 aw).run _ s1 σ H _ I ht) (fun v s3 h3 => wpAny_bind (wpAny_of_eq (hs v) (wpAny_bind (wpAny_standAt (wpAny_holding (wpAny_mono h3 (fun itv s4 h4 => ?_) fun _ _ z => z)))))) fun _ _ z => z)
    obtain ⟨it, fp, tn, J, H', e, I', T, st, f, fr, q⟩ := h4
    exact ⟨σ, H', I', rfl, it, fp, tn, J, e, T, st, f, fun b hb => Nat.le_trans hsz (fr b hb), q⟩
  · obtain ⟨σ', H', gi2, es, it, fp, tn, J2, e, T, st2, f2, fr2, W, ⟨m0, w0⟩, turn⟩ := q
    subst es e
    intro p
    have gcl := gc_loop' (K := K) (J := J) (lv := lv) (tg := .Name x px) (it := .ref it) (body := body) (p := p) gc
    have dis : ∀ p ∈ pp, p.1 ∉ fp := fun p hp hb => (f2 p.1 hb).2.2.2.2.2 p (List.mem_append_right _ (List.mem_append_right _ hp)) rfl
    have loop : ∀ (m : Nat) (j : Nat) (A : Around) (s0 : Shared) (H0 : Hp) (pv0 : PV) (its : Items) (σ : L2.St) (H : Hp) (s : Shared), Awk G A s0 H0 → GI G A s0 H0 pv0 pp pg σ H s → (∀ b ∈ fp, FpOk (G.cx A s0 H0) (foreign G.n0 pv0 s0 H0 ++ pp) H b) → (∀ b ∈ fp, (b ∈ pv0.map (·.1) ∨ s0.heap.objs.size ≤ b) ∧ G.n0 ≤ b) → tn j s.heap → W j m its H0 σ H →
        Run1 (model G.P G.w) A (Rof G its pv0 s0 H0) (Yof G its pv0 s0 H0) (.forLoop (.Name x px) (.ref it) body [] G.env) ((model G.P G.w).den (.forLoop (.Name x px) (.ref it) body [] G.env)) (loopFrame G.env K J gd lv c p :: fs) s := by
      intro m
      induction m using Nat.strongRecOn with
      | ind m ih =>
        intro j A s0 H0 pv0 its σ H s aw gi f frs' st w
        refine r1_forLoop ?_
        rw [gcl.over]
        rcases turn j m its H0 σ H w with ⟨stop, qn⟩ | ⟨go, step⟩
        · refine wpAny_mono (gi.run (Q := fun r σ' H' _ => r = none ∧ σ' = σ ∧ H' = H) (fun _ _ _ _ _ _ q => q) fun s1 hz1 I => ?_) (fun r s3 q => ?_) fun _ _ z => z
          · have st1 : tn j s1.heap := by rw [hz1.1]; exact st
            exact wpAny_mono (T.done (G.cx A s0 H0) rfl rfl rfl rfl j _ s1 σ H bot I f st1 stop) (fun r s' ⟨e, I'⟩ => ⟨σ, H, I', e, rfl, rfl⟩) fun _ _ z => z
          · obtain ⟨σ', H', gi', e1, e2, e3⟩ := q
            subst e1 e2 e3
            dsimp only
            exact r1_leaf (.ok .next) (k A s0 H0 pv0 its s3 .next aw ⟨_, _, gi', qn⟩)
        · refine wpAny_mono (gi.run (Q := fun r σ' H' s' => ∃ u x, r = some u ∧ RelV x u ∧ σ' = σ ∧ J2.yld j H x H' ∧ tn (j + 1) s'.heap ∧ ∀ b ∈ fp, H' b = none) (fun _ _ _ _ _ _ q => q) fun s1 hz1 I => ?_) (fun r s3 q => ?_) fun _ _ z => z
          · have st1 : tn j s1.heap := by rw [hz1.1]; exact st
            have ti := T.item (G.cx A s0 H0) rfl rfl rfl rfl j _ s1 σ H bot I f st1 go
            have ti2 := wpAny_strip (P := fun u s2 => ∃ x H', L2.Inv (G.cx A s0 H0) (foreign G.n0 pv0 s0 H0 ++ pp) σ H' s2 ∧ RelV x u ∧ J2.yld j H x H' ∧ tn (j + 1) s2.heap ∧ ∀ b ∈ fp, H' b = none) ti
            exact wpAny_mono ti2 (fun r s' ⟨u, er, x', H', I', rx, y, st', n'⟩ => ⟨σ, H', I', u, x', er, rx, rfl, y, st', n'⟩) fun _ _ z => z
          · obtain ⟨σ', H', gi', u, x', er, rx, es, y, st', n'⟩ := q
            subst er es
            dsimp only
            -- the iterator's records are pinned while the body runs
            have f' : ∀ b ∈ fp, FpOk (G.cx A s0 H0) (foreign G.n0 pv0 s0 H0 ++ pp) H' b := fun b hb => ⟨n' b hb, (f b hb).2⟩
            have I2 := gi'.inv.pinned f' (T.obj _ _ st')
            have I3 : L2.Inv (G.cx A s0 H0) (foreign G.n0 pv0 s0 H0 ++ (pp ++ pinsAt fp s3.heap)) σ' H' s3 := by
              rw [← List.append_assoc]; exact I2
            have gi3 : GI G A s0 H0 pv0 (pp ++ pinsAt fp s3.heap) pg σ' H' s3 := ⟨I3, gi'.gn, gi'.num, gi'.sz, fun p hp => by
              rcases List.mem_append.mp hp with hp | hp
              · exact gi'.priv p hp
              · exact frs' p.1 (of_pinsAt hp).1, gi'.own⟩
            refine wpAny_pure ?_
            refine wpAny_mono (gi3.run (Q := fun _ σ2 H2 _ => σ2 = σ'.set i (some x') ∧ H2 = H') (fun _ _ _ _ _ _ q => q) fun s4 hz4 I4 => ?_) (fun _ s5 q => ?_) fun _ _ z => z
            · exact wpAny_mono ((pg_name (X := G.cx A s0 H0) (i := i) (x := x) (pos := px) hN hx (.inl hl) (.inl rfl)).run _ s4 σ' H' x' u (fun σ2 H2 => σ2 = σ'.set i (some x') ∧ H2 = H') I4 rx ⟨rfl, rfl⟩) (fun _ s' ⟨σ2, H2, I5, q⟩ => ⟨σ2, H2, I5, q⟩) fun _ _ z => z
            · obtain ⟨σ2, H2, gi5, e1, e2⟩ := q
              subst e1 e2
              intro Jx
              refine hb.run A s0 H0 pv0 (pp ++ pinsAt fp s3.heap) its _ _ _ Jx id id s5 _ _ _ aw gcl (fun A' s0' H0' pv0' its' s6 fl aw' q => ?_) gi5 (step x' _ y)
              have again : ∀ {σ6 : L2.St} {H6 : Hp}, GI G A' s0' H0' pv0' (pp ++ pinsAt fp s3.heap) pg σ6 H6 s6 → (∃ m', m' < m ∧ W (j + 1) m' its' H0' σ6 H6) →
                  Run1 (model G.P G.w) A' (Rof G its' pv0' s0' H0') (Yof G its' pv0' s0' H0') (.forLoop (.Name x px) (.ref it) body [] G.env) (.pure (.again (.forLoop (.Name x px) (.ref it) body [] G.env))) (loopFrame G.env K J gd lv c p :: fs) s6 := fun {σ6 H6} gi6 hw => by
                obtain ⟨m', hm, w'⟩ := hw
                have mem : ∀ b ∈ fp, ∃ o, (b, o) ∈ pinsAt fp s3.heap ∧ s3.heap.get? b = some o := fun b hb => by
                  obtain ⟨o, e, _⟩ := T.obj _ _ st' b hb
                  exact ⟨o, mem_pinsAt hb e, e⟩
                refine r1_again rfl (ih m' hm (j + 1) A' s0' H0' pv0' its' σ6 H6 s6 aw' ⟨gi6.inv.pins_of fun p hp => gi6.inv.pin p (List.mem_append_right _ ?_), gi6.gn, gi6.num, gi6.sz, fun p hp => gi6.priv p (List.mem_append_left _ hp), gi6.own⟩ (fun b hb => ?_) (fun b hb => ?_) (T.keep _ _ _ st' fun b hb o e => ?_) w')
                · rcases List.mem_append.mp hp with hp | hp
                  · exact List.mem_append_left _ hp
                  · exact List.mem_append_right _ (List.mem_append_left _ hp)
                · obtain ⟨o, hm1, _⟩ := mem b hb
                  obtain ⟨q1, q2, q3, q4, q5⟩ := gi6.inv.pin (b, o) (List.mem_append_right _ (List.mem_append_right _ (List.mem_append_right _ hm1)))
                  have pr := gi6.priv (b, o) (List.mem_append_right _ hm1)
                  refine ⟨q2, q3, q4, .inr ?_, fun y c e => ?_, fun p hp z => ?_⟩
                  · show (cut s0'.heap G.n0).objs.size ≤ b
                    rw [cut_size (Nat.le_of_lt aw'.big)]
                    exact pr.2
                  · have e : G.env.cells.lookup y = some c := e
                    rw [ok.cells'] at e; cases e
                  · rcases List.mem_append.mp (show p ∈ ([] : PV) ++ (foreign G.n0 pv0' s0' H0' ++ pp) from hp) with hp | hp
                    · exact absurd hp (by simp)
                    · rcases List.mem_append.mp hp with hp | hp
                      · obtain ⟨h1, _, _, h4, _⟩ := mem_foreign.mp (show (p.1, p.2) ∈ foreign G.n0 pv0' s0' H0' from hp)
                        rcases pr.1 with w1 | w1
                        · exact h4 (by rw [z]; exact w1)
                        · have := Heap.lt_size h1
                          rw [z] at this
                          exact absurd (Nat.lt_of_lt_of_le this w1) (Nat.lt_irrefl _)
                      · exact dis p hp (by rw [z]; exact hb)
                · obtain ⟨o, hm1, _⟩ := mem b hb
                  exact gi6.priv (b, o) (List.mem_append_right _ hm1)
                · exact (gi6.inv.pin (b, o) (List.mem_append_right _ (List.mem_append_right _ (List.mem_append_right _ (mem_pinsAt hb e))))).1
              cases fl with
              | next => obtain ⟨σ6, H6, gi6, q⟩ := q; exact again gi6 q
              | cont => obtain ⟨σ6, H6, gi6, q⟩ := q; exact q.elim
              | brk => obtain ⟨σ6, H6, gi6, q⟩ := q; exact q.elim
              | ret v => obtain ⟨v6, σ6, H6, gi6, r6, q⟩ := q; exact r1_leaf (.ok (.ret v)) (k A' s0' H0' pv0' its' s6 (.ret v) aw' ⟨v6, σ6, H6, gi6.weak (fun p hp => List.mem_append_left _ hp) (fun q hq => hq), r6, q⟩)
    exact loop m0 0 A s0 H0 pv0 its σ' H' s2 aw gi2 f2 (fun b hb => ⟨.inr (fr2 b hb), by
      rcases (f2 b hb).2.2.2.1 with z | z
      · exact absurd z (by simp)
      · have : (cut s0.heap G.n0).objs.size ≤ b := z
        rwa [cut_size (Nat.le_of_lt aw.big)] at this⟩) st2 w0
end
end GZ
end
section
set_option maxRecDepth 100000
set_option maxHeartbeats 1000000
namespace GZ
open PySem PySem.Spec PyProof.Rows L2 GenW
open Evl (Ex)

/-! ### an expression whose value is a generator that has not begun -/
abbrev TGx := L2.St → Hp → (Items → Hp → Prop) → Prop
/-- fresh to the frame that made it, since s -/
structure GD.New (D : GD) (s : Shared) (H : Hp) : Prop where
  n0 : s.heap.objs.size ≤ D.G.n0
  g : s.gens.size ≤ D.G.g
  pg : D.pg = []
  hn : ∀ b, D.G.n0 ≤ b → H b = none
structure PGx (X : Cx) (k : Nat) (e : Expr) (tg : TGx) : Prop where
  run : ∀ (pins : PV) (s : Shared) (σ : L2.St) (H : Hp) (Q : Items → Hp → Prop), L2.Inv X pins σ H s → tg σ H Q →
    wpAny (model X.prog X.w) X.A (eval e X.env) (fun u s' => ∃ (D : GD) (its : Items) (H1 : Hp), u = Value.ref D.a ∧ L2.Inv X pins σ H1 s' ∧ D.At its s' H1 ∧ D.Fits X k ∧ D.New s H1 ∧ Q its H1) X.xe s
theorem GD.At.typeIs {D : GD} {its : Items} {s : Shared} {H : Hp} (d : D.At its s H) : s.heap.IsGen D.a D.G.g := d.isg _ d.ob.1
/-- what is new is apart from what is pinned -/
theorem GD.New.apart {D : GD} {s s' : Shared} {X : Cx} {pins : PV} {σ : L2.St} {H H' : Hp} {its : Items} (n : D.New s H') (d : D.At its s' H') (I : L2.Inv X pins σ H s) (hc : ∀ x c, X.env.cells.lookup x = some c → c < s.heap.objs.size) : D.Apart X H' pins where
  s0 := fun b hb _ => .inr (Nat.le_trans (Nat.le_trans I.sz n.n0) hb)
  loc := ⟨fun z => by
    obtain ⟨p, hp, e⟩ := List.mem_map.mp z
    have h1 := (d.pvn p hp).1
    rw [e] at h1
    exact absurd (Nat.lt_of_lt_of_le I.lt (Nat.le_trans n.n0 h1)) (Nat.lt_irrefl _), fun z => by
    have h1 := d.a0
    rw [← z] at h1
    exact absurd (Nat.lt_of_lt_of_le I.lt (Nat.le_trans n.n0 h1)) (Nat.lt_irrefl _)⟩
  cell := fun x c e => Nat.lt_of_lt_of_le (hc x c e) n.n0
  pin := fun p hp => by
    have lt := Heap.lt_size (I.pin p hp).1
    refine ⟨fun z => ?_, fun z => ?_⟩
    · obtain ⟨p2, hp2, e⟩ := List.mem_map.mp z
      have h1 := (d.pvn p2 hp2).1
      rw [e] at h1
      exact absurd (Nat.lt_of_lt_of_le lt (Nat.le_trans n.n0 h1)) (Nat.lt_irrefl _)
    · have h1 := d.a0
      rw [← z] at h1
      exact absurd (Nat.lt_of_lt_of_le lt (Nat.le_trans n.n0 h1)) (Nat.lt_irrefl _)

theorem apart_of {G : GE} (ok : G.Ok) {A : Around} {s0 s : Shared} {H0 H : Hp} {pv0 pp : PV} {pg : PG} {σ : L2.St} {E : GD} {jts : Items} (aw : Awk G A s0 H0) (gi : GI G A s0 H0 pv0 pp pg σ H s) (d : E.At jts s H) (hn0 : G.n0 < E.G.n0)
    (hpr : ∀ p ∈ E.all, p.1 ∈ pv0.map (·.1) ∨ s0.heap.objs.size ≤ p.1) (hdis : ∀ p ∈ E.all, ∀ q ∈ pp, q.1 ≠ p.1) : E.Apart (G.cx A s0 H0) H (foreign G.n0 pv0 s0 H0 ++ pp) where
  s0 := fun b hb _ => .inr (by
    show (cut s0.heap G.n0).objs.size ≤ _
    rw [cut_size (Nat.le_of_lt aw.big)]; exact Nat.le_trans (Nat.le_of_lt hn0) hb)
  loc := ⟨fun z => by
    have z : G.n0 ∈ E.pv.map (·.1) := z
    obtain ⟨p, hp, e⟩ := List.mem_map.mp z
    have h1 := (d.pvn p hp).1
    rw [e] at h1
    exact absurd (Nat.lt_of_lt_of_le hn0 h1) (Nat.lt_irrefl _), fun z => by
    have z : G.n0 = E.a := z
    have h1 := d.a0
    rw [← z] at h1
    exact absurd (Nat.lt_of_lt_of_le hn0 h1) (Nat.lt_irrefl _)⟩
  cell := fun x c e => by
    have e : G.env.cells.lookup x = some c := e
    rw [ok.cells'] at e; cases e
  pin := fun p hp => by
    have key : ∀ q ∈ E.all, q.1 ≠ p.1 := fun q hq z => by
      rcases List.mem_append.mp (show p ∈ ([] : PV) ++ (foreign G.n0 pv0 s0 H0 ++ pp) from hp) with hp | hp
      · exact absurd hp (by simp)
      · rcases List.mem_append.mp hp with hp | hp
        · obtain ⟨h1, _, _, h4, _⟩ := mem_foreign.mp (show (p.1, p.2) ∈ foreign G.n0 pv0 s0 H0 from hp)
          rcases hpr q hq with w1 | w1
          · exact h4 (by rw [← z]; exact w1)
          · have := Heap.lt_size h1
            rw [← z] at this
            exact absurd (Nat.lt_of_lt_of_le this w1) (Nat.lt_irrefl _)
        · exact hdis q hq p hp z.symm
    refine ⟨fun z => ?_, fun z => key (E.a, E.o) List.mem_cons_self z.symm⟩
    obtain ⟨q, hq, e⟩ := List.mem_map.mp z
    exact key q (List.mem_cons_of_mem _ hq) e

section
variable {G : GE}
def zForG (tg : TGx) (i : Nat) (tb : TZ) : TZ := fun D its H0 σ H => tg σ H fun jts H1 => ∃ W : Items → Items → Hp → L2.St → Hp → Prop, W jts its H0 σ H1 ∧
  (∀ its H0 σ H H', W [] its H0 σ H → Ex H H' → D.nx its H0 σ H') ∧
  ∀ Pi rest its H0 σ H, W (Pi :: rest) its H0 σ H → ∀ x H', Ex H H' → Pi x H' → tb { nx := W rest, rt := D.rt } its H0 (σ.set i (some x)) H'
theorem zs_forG (ok : G.Ok) {iter : Expr} {body : List Stmt} {k : Nat} {tg : TGx} {i : Nat} {x : Str} {px pos : Pos} {tb : TZ} (hi : ∀ A s0 H0, Awk G A s0 H0 → PGx (G.cx A s0 H0) k iter tg) (hkr : k + 2 ≤ G.k) (hN : G.N.Nodup) (hx : G.N[i]? = some x) (hl : G.scope.names.lookup x = some .local) (hb : ∀ pg, GSs G pg body tb)
    (hs : ∀ v, foldedSetIterable iter G.env v = pure v := by intro _; rfl) : GS G [] (.For (.Name x px) iter body [] pos) (zForG tg i tb) := by
  refine ⟨fun A s0 H0 pv0 pp its c fs K J gd lv s σ H D aw gc kk gi ht => ?_⟩
  refine r1_For' ?_
  rw [gc.over]
  have room : ∀ {A s0 H0}, Awk G A s0 H0 → Room (k + 1) (A.deeper G.env) := fun {A s0 H0} aw => (aw.room.mono hkr).deeper G.env
  refine wpAny_mono (gi.run (Q := fun itv σ' H' s' => σ' = σ ∧ ∃ (E : GD) (jts : Items), itv = Value.ref E.a ∧ E.At jts s' H' ∧ E.Fits (G.cx A s0 H0) k ∧ E.New s H' ∧
      ∃ W : Items → Items → Hp → L2.St → Hp → Prop, W jts its H0 σ H' ∧ (∀ its H0 σ H H', W [] its H0 σ H → Ex H H' → D.nx its H0 σ H') ∧
        ∀ Pi rest its H0 σ H, W (Pi :: rest) its H0 σ H → ∀ x H', Ex H H' → Pi x H' → tb { nx := W rest, rt := D.rt } its H0 (σ.set i (some x)) H') (fun a σ' H' s' g' hg q => ?_) fun s1 hz1 I => ?_) (fun itv s2 q => ?_) fun _ _ z => z
  · obtain ⟨e1, E, jts, e2, d, ft, nw, q⟩ := q
    refine ⟨e1, E, jts, e2, d.keep (fun p hp => ?_) ?_ (fun z hz => ?_), ft, nw, q⟩
    · rcases List.mem_cons.mp hp with rfl | hp
      · exact d.ob
      · exact d.slp.ob p hp
    · show g'[E.G.g]? = _
      rw [hg _ nw.g]; exact d.st
    · rw [nw.pg] at hz; cases hz
  · refine wpAny_bind (wpAny_mono ((hi A s0 H0 aw).run _ s1 σ H _ I ht) (fun v s3 h3 => wpAny_bind (wpAny_of_eq (hs v) (wpAny_bind (wpAny_standAt (wpAny_holding ?_))))) fun _ _ z => z)
    obtain ⟨E, jts, H1, e, I', d, ft, nw, q⟩ := h3
    subst e
    refine wpAny_pyIter_gen d.typeIs ⟨σ, H1, I', rfl, E, jts, rfl, d, ft, ⟨by rw [← hz1.1]; exact nw.n0, by rw [← hz1.2]; exact nw.g, nw.pg, nw.hn⟩, q⟩
  · obtain ⟨σ', H', gi2, es, E0, jts0, e, d0, ft0, nw0, W, w0, wend, step⟩ := q
    subst es e
    intro p
    have gcl := gc_loop' (K := K) (J := J) (lv := lv) (tg := .Name x px) (it := .ref E0.a) (body := body) (p := p) gc
    -- at the head of each turn
    have loop : ∀ (jts : Items) (E : GD) (A : Around) (s0 : Shared) (H0 : Hp) (pv0 : PV) (its : Items) (σ : L2.St) (H : Hp) (s : Shared), E.a = E0.a → Awk G A s0 H0 → GI G A s0 H0 pv0 pp [] σ H s → E.At jts s H → E.Fits (G.cx A s0 H0) k → G.n0 < E.G.n0 → (∀ p ∈ E.all, p.1 ∈ pv0.map (·.1) ∨ s0.heap.objs.size ≤ p.1) → (∀ p ∈ E.all, ∀ q ∈ pp, q.1 ≠ p.1) → G.g < E.G.g → W jts its H0 σ H →
        Run1 (model G.P G.w) A (Rof G its pv0 s0 H0) (Yof G its pv0 s0 H0) (.forLoop (.Name x px) (.ref E0.a) body [] G.env) ((model G.P G.w).den (.forLoop (.Name x px) (.ref E0.a) body [] G.env)) (loopFrame G.env K J gd lv c p :: fs) s := by
      intro jts
      induction jts with
      | nil =>
        intro E A s0 H0 pv0 its σ H s ea aw gi d ft hn0 hpr hdis hgg w
        refine r1_forLoop ?_
        rw [gcl.over, ← ea]
        have ap := apart_of ok aw gi d hn0 hpr hdis
        refine wpAny_mono (wpAny_hsz gi.sz (wpAny_gsz' gi.num (gnext (E := bot) gi.inv d ft ap (room aw)))) (fun r s1 q => ?_) fun _ _ z => z.2.2
        obtain ⟨hz, hn, e1, H1, I1, hxx⟩ := q
        subst e1
        exact r1_leaf (.ok .next) (kk A s0 H0 pv0 its s1 .next aw ⟨σ, H1, ⟨I1, fun q hq => by simp at hq, hn, hz, gi.priv, gi.own⟩, wend _ _ _ _ _ w hxx⟩)
      | cons Pi rest ih =>
        intro E A s0 H0 pv0 its σ H s ea aw gi d ft hn0 hpr hdis hgg w
        refine r1_forLoop ?_
        rw [gcl.over, ← ea]
        have ap := apart_of ok aw gi d hn0 hpr hdis
        refine wpAny_mono (wpAny_hsz gi.sz (wpAny_gsz' gi.num (gnext (E := bot) gi.inv d ft ap (room aw)))) (fun r s1 q => ?_) fun _ _ z => z.2.2
        obtain ⟨hz, hn, v, xx, H1, gs', pv', pg', e1, rv, hPi, I1, hxx, hsus, d', hpv'⟩ := q
        subst e1
        dsimp only
        refine wpAny_pure ?_
        have n0s : G.n0 < s.heap.objs.size := Nat.lt_of_lt_of_le aw.big gi.sz
        have alt : E.a < s.heap.objs.size := Heap.lt_size d.ob.1
        have ge' : ∀ q ∈ ({ E with gs := gs', pv := pv', pg := pg' } : GD).all, E.G.n0 ≤ q.1 := fun q hq => by
          rcases List.mem_cons.mp hq with rfl | hq
          · exact d.a0
          · exact (d'.pvn q hq).1
        have at' : ∀ q ∈ ({ E with gs := gs', pv := pv', pg := pg' } : GD).all, (∃ p ∈ E.all, p.1 = q.1) ∨ s.heap.objs.size ≤ q.1 := fun q hq => by
          rcases List.mem_cons.mp hq with rfl | hq
          · exact .inl ⟨_, List.mem_cons_self, rfl⟩
          · rcases hpv' q hq with z | z
            · obtain ⟨p2, hp2, e2⟩ := List.mem_map.mp z
              exact .inl ⟨p2, List.mem_cons_of_mem _ hp2, e2⟩
            · exact .inr z
        have ob' : ∀ q ∈ ({ E with gs := gs', pv := pv', pg := pg' } : GD).all, s1.heap.get? q.1 = some q.2 ∧ H1 q.1 = none := fun q hq => by
          rcases List.mem_cons.mp hq with rfl | hq
          · exact d'.ob
          · exact d'.slp.ob q hq
        have I3 : L2.Inv (G.cx A s0 H0) (foreign G.n0 pv0 s0 H0 ++ (({ E with gs := gs', pv := pv', pg := pg' } : GD).all ++ pp)) σ H1 s1 := by
          refine I1.pins_of fun q hq => ?_
          rcases List.mem_append.mp hq with hq | hq
          · exact I1.pin q (List.mem_append_right _ (List.mem_append_left _ hq))
          · rcases List.mem_append.mp hq with hq | hq
            · exact ⟨(ob' q hq).1, (ob' q hq).2, fun z => by
                have := ge' q hq
                rw [z] at this
                exact absurd (Nat.lt_of_lt_of_le hn0 this) (Nat.lt_irrefl _), fun z => by
                have := ok.frs _ z
                exact absurd (Nat.lt_of_lt_of_le this (Nat.le_trans (Nat.le_of_lt hn0) (ge' q hq))) (Nat.lt_irrefl _), d'.notcell q hq⟩
            · exact I1.pin q (List.mem_append_right _ (List.mem_append_right _ hq))
        have gi3 : GI G A s0 H0 pv0 (({ E with gs := gs', pv := pv', pg := pg' } : GD).all ++ pp) ((E.G.g, gs') :: pg') σ H1 s1 := by
          refine ⟨I3, fun q hq => ?_, hn, hz, fun q hq => ?_, gi.own⟩
          · rcases List.mem_cons.mp hq with rfl | hq
            · exact ⟨d'.st, hsus, hgg⟩
            · exact ⟨(d'.slp.gn q hq).1, (d'.slp.gn q hq).2, Nat.lt_trans hgg (d'.pgn q hq)⟩
          · rcases List.mem_append.mp hq with hq | hq
            · refine ⟨?_, Nat.le_trans (Nat.le_of_lt hn0) (ge' q hq)⟩
              rcases at' q hq with ⟨p2, hp2, e2⟩ | z
              · rw [← e2]; exact hpr p2 hp2
              · exact .inr (Nat.le_trans gi.sz z)
            · exact gi.priv q hq
        have dis' : ∀ p ∈ ({ E with gs := gs', pv := pv', pg := pg' } : GD).all, ∀ q ∈ pp, q.1 ≠ p.1 := fun q hq p hp z => by
          rcases at' q hq with ⟨p2, hp2, e2⟩ | z2
          · exact hdis p2 hp2 p hp (z.trans e2.symm)
          · have h1 := Heap.lt_size (gi.inv.pin p (List.mem_append_right _ (List.mem_append_right _ hp))).1
            rw [z] at h1
            exact absurd (Nat.lt_of_lt_of_le h1 z2) (Nat.lt_irrefl _)
        refine wpAny_mono (gi3.run (Q := fun _ σ2 H2 _ => σ2 = σ.set i (some xx) ∧ H2 = H1) (fun _ _ _ _ _ _ q => q) fun s4 hz4 I4 => ?_) (fun _ s5 q => ?_) fun _ _ z => z
        · exact wpAny_mono ((pg_name (X := G.cx A s0 H0) (i := i) (x := x) (pos := px) hN hx (.inl hl) (.inl rfl)).run _ s4 σ H1 xx v (fun σ2 H2 => σ2 = σ.set i (some xx) ∧ H2 = H1) I4 rv ⟨rfl, rfl⟩) (fun _ s' ⟨σ2, H2, I5, q⟩ => ⟨σ2, H2, I5, q⟩) fun _ _ z => z
        · obtain ⟨σ2, H2, gi5, e1, e2⟩ := q
          subst e1 e2
          intro Jx
          rw [ea]
          refine (hb ((E.G.g, gs') :: pg')).run A s0 H0 pv0 (({ E with gs := gs', pv := pv', pg := pg' } : GD).all ++ pp) its _ _ _ Jx id id s5 _ _ _ aw gcl (fun A' s0' H0' pv0' its' s6 fl aw' q => ?_) gi5 (step _ _ _ _ _ _ w _ _ hxx hPi)
          have again : ∀ {σ6 : L2.St} {H6 : Hp}, GI G A' s0' H0' pv0' (({ E with gs := gs', pv := pv', pg := pg' } : GD).all ++ pp) ((E.G.g, gs') :: pg') σ6 H6 s6 → W rest its' H0' σ6 H6 →
                  Run1 (model G.P G.w) A' (Rof G its' pv0' s0' H0') (Yof G its' pv0' s0' H0') (.forLoop (.Name x px) (.ref E0.a) body [] G.env) (.pure (.again (.forLoop (.Name x px) (.ref E0.a) body [] G.env))) (loopFrame G.env K J gd lv c p :: fs) s6 := fun {σ6 H6} gi6 w' => by
            refine r1_again rfl (ih { E with gs := gs', pv := pv', pg := pg' } A' s0' H0' pv0' its' σ6 H6 s6 ea aw' (gi6.weak (fun q hq => List.mem_append_right _ hq) fun q hq => by simp at hq) (d'.keep (fun q hq => ?_) (gi6.gn (E.G.g, gs') List.mem_cons_self).1 fun q hq => (gi6.gn q (List.mem_cons_of_mem _ hq)).1) ⟨ft.P, ft.w, ft.K, ft.mg, ft.base, ft.outer, ft.k⟩ hn0 (fun q hq => (gi6.priv q (List.mem_append_left _ hq)).1) dis' hgg w')
            have := gi6.inv.pin q (List.mem_append_right _ (List.mem_append_right _ (List.mem_append_left _ hq)))
            exact ⟨this.1, this.2.1⟩
          cases fl with
          | next => obtain ⟨σ6, H6, gi6, q⟩ := q; exact again gi6 q
          | cont => obtain ⟨σ6, H6, gi6, q⟩ := q; exact q.elim
          | brk => obtain ⟨σ6, H6, gi6, q⟩ := q; exact q.elim
          | ret v => obtain ⟨v6, σ6, H6, gi6, r6, q⟩ := q; exact r1_leaf (.ok (.ret v)) (kk A' s0' H0' pv0' its' s6 (.ret v) aw' ⟨v6, σ6, H6, gi6.weak (fun p hp => List.mem_append_right _ hp) (fun q hq => by simp at hq), r6, q⟩)
    refine loop jts0 E0 A s0 H0 pv0 its _ H' s2 rfl aw gi2 d0 ft0 (Nat.lt_of_lt_of_le (Nat.lt_of_lt_of_le aw.big gi.sz) nw0.n0) (fun p hp => .inr (Nat.le_trans gi.sz (Nat.le_trans nw0.n0 ?_))) (fun p hp q hq z => ?_) (Nat.lt_of_lt_of_le gi.num nw0.g) w0
    · rcases List.mem_cons.mp hp with rfl | hp
      · exact d0.a0
      · exact (d0.pvn p hp).1
    · have h1 := Heap.lt_size (gi.inv.pin q (List.mem_append_right _ (List.mem_append_right _ hq))).1
      have h2 : E0.G.n0 ≤ p.1 := by
        rcases List.mem_cons.mp hp with rfl | hp
        · exact d0.a0
        · exact (d0.pvn p hp).1
      rw [z] at h1
      exact absurd (Nat.lt_of_lt_of_le h1 (Nat.le_trans nw0.n0 h2)) (Nat.lt_irrefl _)
end
end GZ
end
section
set_option maxRecDepth 100000
set_option maxHeartbeats 1000000
/-! A generator def's promise: what it hands out by its arguments. -/
namespace GZ
open PySem PySem.Spec PyProof.Rows L2 GenW
open Evl (Ex)

abbrev SpZ := List V → Items → Prop
/-- what a call of a generator def gives -/
def MadeZ (P : Program) (w : World) (K : PySem.W.Frag) (mg : Str → Option Value) (base : Heap) (k : Nat) (outer : List Env) (H : Hp) (s : Shared) (its : Items) (u : Value) (s' : Shared) : Prop :=
  ∃ D : GD, u = .ref D.a ∧ D.At its s' H ∧ (D.G.P = P ∧ D.G.w = w ∧ D.G.K = K ∧ D.G.mg = mg ∧ D.G.base = base ∧ D.G.outer = outer ∧ D.G.k = k) ∧ D.New s H ∧ s'.os = s.os ∧ AllBare s'.gens ∧ ∀ b o, s.heap.get? b = some o → s'.heap.get? b = some o
structure GFnZ (P : Program) (w : World) (K : PySem.W.Frag) (mg : Str → Option Value) (base : Heap) (k : Nat) (f : Addr) (fd : FuncData) (ps : List Str) (sp : SpZ) : Prop where
  len : ∀ vs its, sp vs its → vs.length = ps.length
  run : ∀ (A : Around) (outer : List Env) (s : Shared) (H : Hp) (args : Args) (us : List Value) (vs : List V) (its : Items), Room k A → Env0 P w K mg base A outer s H → BindsTo s fd args (ps.zip us) → Vals vs us → sp vs its →
    codeAny (model P w) A (.call (.ref f) args) (fun r s' => match r with | .ok (.ret u) => MadeZ P w K mg base k outer H s its u s' | _ => False) s

/-- THE RULE: a generator def without cells, by its body -/
theorem gfnz_of {P : Program} {w : World} {K : PySem.W.Frag} {mg : Str → Option Value} {base : Heap} {k : Nat} {f : Addr} {name qual : Str} {params : Arguments} {body : List Stmt} {scope : Scope} {dV kV doc pm cdv ct oc : Value} {an od : Option Addr}
    {osl : Array (Option Value)} {N ps : List Str} {sp : SpZ} (lk : K.lookup f = some ⟨oc, od, .func (PySem.W.fnOf name qual params body scope dV kV doc pm an cdv ct), osl⟩) (hcd : PySem.W.codeIn K cdv qual = true) (S : GScope N ps scope)
    (hce : ∀ n, cellsFrom n scope.names [] = []) (hnc : ∀ x, scope.names.lookup x ≠ some .cell ∧ scope.names.lookup x ≠ some .free)
    (len : ∀ vs its, sp vs its → vs.length = ps.length)
    (hbody : ∀ (outer : List Env) (n0 : Addr) (g : Nat) (vs : List V) (its : Items), GE.Ok ⟨P, w, K, mg, base, N, qual, scope, f, cdv, outer, n0, g, k⟩ → sp vs its →
      ∃ t, GSs ⟨P, w, K, mg, base, N, qual, scope, f, cdv, outer, n0, g, k⟩ [] body t ∧ ∀ H, t { nx := fun its' H0 _ H' => its' = [] ∧ Ex H0 H', rt := fun its' H0 v H' => v = .non ∧ its' = [] ∧ Ex H0 H' } its H (start N vs) H) :
    GFnZ P w K mg base k f (PySem.W.fnOf name qual params body scope dV kV doc pm an cdv ct) ps sp := by
  refine ⟨len, fun A outer s H args us vs its hr e0 hb r hsp => ?_⟩
  have hl := len _ _ hsp
  have KX : K.In s.heap := e0.mod.kin.keeps fun b o e => (e0.bs b o e).1
  have lim : s.heap.NoLimit := e0.mod.nolimit.keeps fun b o e => (e0.bs b o e).1
  have hkind : ∀ y ∈ ps.zip us, scope.names.lookup y.1 = some .local ∨ (scope.names.lookup y.1 = some .cell ∧ ((cellsFrom (s.heap.objs.size + 1) scope.names []).lookup y.1).isSome = true) := fun ⟨n, v⟩ hy => by
    rcases S.par n (List.of_mem_zip hy).1 with q | q
    · exact .inl q
    · exact absurd q (hnc n).1
  refine codeAny_call_generator hr.depth (KX _ _ lk) rfl S.co S.gen rfl (PySem.W.codeRec_of KX hcd) (hb _ _ _ _ (wpAny_newFunctionEnv_cells S.kind hkind ?_))
  rintro _ rfl s1 x
  have kp1 := x.toInCall.keep
  have lt1 := x.toInCall.ns.lt
  obtain ⟨h1, tk, es1, hk1⟩ := x.done
  obtain ⟨os1, gen1⟩ : s1.os = s.os ∧ s1.gens = s.gens := by rw [es1]; exact ⟨rfl, rfl⟩
  have lim1 := lim.keeps kp1
  refine ⟨lim1, ?_⟩
  have I1 : L2.Inv (gcxOf P w K mg base N qual scope f cdv A outer s H (fun _ _ _ => False) []) [] (start N vs) H s1 := inv_startG S hr.hd e0 hl r x
  have gok : GE.Ok ⟨P, w, K, mg, base, N, qual, scope, f, cdv, outer, s.heap.objs.size, s1.gens.size, k⟩ :=
    ⟨S.kind, S.co, hce, hnc, e0.bsz, fun b hb => by
      obtain ⟨_, o, ho, _⟩ := e0.funs.mem hb
      exact Heap.lt_size ho⟩
  obtain ⟨m, hm, hloc⟩ := I1.loc
  obtain ⟨o, es, ep, ho, hd, rns⟩ := id hm
  have ho : s1.heap.get? s.heap.objs.size = some o := ho
  obtain ⟨t, hgs, ht⟩ := hbody outer s.heap.objs.size s1.gens.size vs its gok hsp
  have main : ∀ (go : Obj) (nm qn : Value) (tk2 : Nat), go.cls = .type "generator" → go.data = .fields #[.int s1.gens.size 0, nm, qn] → go.slots = #[] → (∀ h : Heap, (h.push go).get? h.objs.size = some go) →
      MadeZ P w K mg base k outer H s its (.ref s1.heap.objs.size) { s1 with gens := s1.gens.push (.fresh (.func body (envOfC qual scope s.heap.objs.size f cdv))), toks := tk2, heap := s1.heap.push go } := by
    intro go nm qn tk2 hgc hgd0 hgs0 hgp
    have hpushed : (s1.heap.push go).get? s1.heap.objs.size = some go := hgp _
    have kp2 : ∀ b o, s1.heap.get? b = some o → (s1.heap.push go).get? b = some o := fun b o e => Heap.get?_push_of_some _ e
    refine ⟨⟨⟨P, w, K, mg, base, N, qual, scope, f, cdv, outer, s.heap.objs.size, s1.gens.size, k⟩, s1.heap.objs.size, go, .fresh (.func body (envOfC qual scope s.heap.objs.size f cdv)), [(s.heap.objs.size, o)], []⟩, rfl, ?_, ⟨rfl, rfl, rfl, rfl, rfl, rfl, rfl⟩, ⟨Nat.le_refl _, by rw [gen1]; exact Nat.le_refl _, rfl, fun b hb => e0.hok.fresh hb⟩, os1, ?_, fun b o e => kp2 _ _ (kp1 b o e)⟩
    · refine ⟨gok, fun h e => ⟨go, nm, qn, e, hgc, hgd0, hgs0⟩, gOk_iff.mpr fun A2 s2 H2 aw2 sl2 => ?_, fun p hp => ?_, by simp, fun q hq => by simp at hq, Nat.le_of_lt lt1, ⟨hpushed, I1.hok.fresh (Nat.le_refl _)⟩, Array.getElem?_push_size .., ⟨fun p hp => ?_, fun q hq => by simp at hq⟩⟩
      · show Run1 _ A2 _ _ (.func body (envOfC qual scope s.heap.objs.size f cdv)) ((model P w).den (.func body (envOfC qual scope s.heap.objs.size f cdv))) [] s2
        refine r1_func fun J => ?_
        refine hgs.run A2 s2 H2 [(s.heap.objs.size, o)] [] its _ [] _ J id id s2 (start N vs) H2 _ aw2 ⟨fun A => over_func, rfl, rfl, rfl⟩ (fun A' s0' H0' pv0' its' s' fl aw' q => ?_) (gi_awake gok aw2 sl2 ⟨m, ⟨o, es, ep, (sl2.ob _ List.mem_cons_self).1, hd, rns⟩, fun i y v q1 q2 q3 => ?_⟩ I1.len (by simp) (fun p hp => by simp at hp) (fun q hq => by simp at hq)) (ht H2)
        · cases fl with
          | next =>
            obtain ⟨σ', H', gi, e⟩ := q
            obtain ⟨e, hx⟩ : its' = [] ∧ Ex H0' H' := e
            subst e
            exact r1_end (.ok (.ret .none)) ⟨rfl, H', rel_of gok (pins := []) gi.inv gi.sz (hx), hx, gi.num⟩
          | brk => obtain ⟨σ', H', gi, e⟩ := q; exact False.elim e
          | cont => obtain ⟨σ', H', gi, e⟩ := q; exact False.elim e
          | ret u =>
            obtain ⟨v, σ', H', gi, rv, ev, e⟩ := q
            subst ev
            have eu : u = Value.none := rv
            subst eu
            obtain ⟨e, hx⟩ : its' = [] ∧ Ex H0' H' := e
            subst e
            exact r1_end (.ok (.ret .none)) ⟨rfl, H', rel_of gok (pins := []) gi.inv gi.sz (hx), hx, gi.num⟩
        · obtain ⟨u, z1, z2⟩ := hloc i y v q1 q2 q3
          refine ⟨u, z1, ?_⟩
          rcases z2 with z2 | ⟨z2, _⟩
          · exact z2
          · rcases z2 with z2 | z2
            · exact absurd z2 (hnc y).1
            · exact absurd z2 (hnc y).2
      · have : p = (s.heap.objs.size, o) := by simpa using hp
        subst this
        exact ⟨Nat.le_refl _, Nat.ne_of_lt lt1, fun v z => by
          have z : o.data = .cell v := z
          rw [hd] at z; cases z⟩
      · have : p = (s.heap.objs.size, o) := by simpa using hp
        subst this
        exact ⟨kp2 _ _ ho, e0.hok.fresh (Nat.le_refl _)⟩
    · exact AllBare.push (by rw [gen1]; exact e0.bare) rfl
  exact main _ _ _ _ rfl rfl rfl fun h => Heap.get?_push_size _ rfl
end GZ
end
section
set_option maxRecDepth 100000
set_option maxHeartbeats 1000000
/-! Calls of generator defs; list(g). -/
namespace GZ
open PySem PySem.Spec PyProof.Rows L2 GenW
open Evl (Ex)

section
variable {X : Cx} {k : Nat} {f : Addr} {fd : FuncData} {ps : List Str} {sp : SpZ} {dvs : List V} {ds : List Value} {x : Str} {p pos : Pos}
def tCallZ (sp : SpZ) (dvs : List V) (t : TA) : TGx := fun σ H Q => t σ H fun vs H1 => ∃ its, sp (vs ++ dvs) its ∧ Q its H1
theorem pgx_call {e : Expr} {es : List Expr} {t : TA} (F : GFnZ X.prog X.w X.K X.mg X.base k f fd ps sp) (hr : Room k X.A) (hg : Gl X x) (hm : X.mg x = some (.ref f)) (hk : PySem.W.keepIn X.K (.ref f) = true) (hb : Binds X.K fd ps ds) (hd : Vals dvs ds)
    (ha : PA X (e :: es) t) (hdb : (x == ("__debug__" : Str)) = false := by decide) (he : starEach (e :: es) X.env = (false, eval e X.env) :: starEach es X.env := by rfl) (hpl : (backTo pos (starEach es X.env)).any (·.1) = false := by rfl) :
    PGx X k (.Call (.Name x p) (e :: es) [] pos) (tCallZ sp dvs t) := by
  refine ⟨fun pins s σ H Q I h => ?_⟩
  refine wpAny_Call_Name_kw (ld_glob I hg hm ?_ hdb)
  refine PySem.W.callWith_K (h₀ := X.base) I.ok.mod.kin hk (wpAny_mono (wpAny_hsz (Nat.le_refl _) (wpAny_gsz' (Nat.le_refl _) (ha.run pos pins s σ H _ I h))) (fun us s1 ⟨hz, hgz, vs, H1, I1, r, q⟩ => ⟨I1.kIn, ?_⟩) fun _ _ z => z.2.2) he hpl
  obtain ⟨its, hsp, q⟩ := q
  have r2 : Vals (vs ++ dvs) (us ++ ds) := r.append hd
  have hl2 : (us ++ ds).length = ps.length := by rw [← r2.length]; exact F.len _ _ hsp
  refine wpAny_call (codeAny_mono (F.run X.A X.stack s1 H1 ⟨us, []⟩ (us ++ ds) (vs ++ dvs) its hr I1.env0 (hb s1 us I1.kIn hl2) r2 hsp) fun r s' hq => ?_)
  cases r with
  | error e => exact False.elim hq
  | ok fl =>
    cases fl with
    | ret u =>
      obtain ⟨D, e1, d, ⟨f1, f2, f3, f4, f5, f6, f7⟩, nw, os, bare, kp⟩ := hq
      exact ⟨D, its, H1, e1, I1.call' (ch := []) os (Un.kept kp) (I1.hok.kept kp) bare (fun b z => absurd z (by simp)), d, ⟨f1, f2, f3, f4, f5, f6, f7⟩, ⟨Nat.le_trans hz nw.n0, Nat.le_trans hgz nw.g, nw.pg, nw.hn⟩, q⟩
    | next => exact False.elim hq
    | brk => exact False.elim hq
    | cont => exact False.elim hq
end
end GZ
end
section
set_option maxRecDepth 100000
set_option maxHeartbeats 1000000
namespace GZ
open PySem PySem.Spec PyProof.Rows L2 GenW
open Evl (Ex)

/-- what was handed out -/
def Got : Items → List V → Hp → Prop
  | [], [], _ => True
  | P :: ps, x :: xs, H => (∃ H1, P x H1 ∧ Ex H1 H) ∧ Got ps xs H
  | _, _, _ => False
theorem Got.ex : ∀ {its : Items} {ys : List V} {H H' : Hp}, Ex H H' → Got its ys H → Got its ys H'
  | [], [], _, _, _, _ => trivial
  | _ :: _, _ :: _, _, _, e, ⟨⟨H1, h, e1⟩, r⟩ => ⟨⟨H1, h, e1.trans e⟩, Got.ex e r⟩
  | [], _ :: _, _, _, _, h => h.elim
  | _ :: _, [], _, _, _, h => h.elim
theorem Got.len : ∀ {its : Items} {ys : List V} {H : Hp}, Got its ys H → ys.length = its.length
  | [], [], _, _ => rfl
  | _ :: _, _ :: _, _, ⟨_, r⟩ => congrArg (· + 1) (Got.len r)
  | [], _ :: _, _, h => h.elim
  | _ :: _, [], _, h => h.elim

section
variable {X : Cx} {pins : PV} {σ : L2.St} {H : Hp} {s : Shared}
theorem Inv.withA (I : L2.Inv X pins σ H s) {A : Around} (h1 : A.handled = X.A.handled) (h2 : A.frames = X.A.frames) : L2.Inv { X with A := A } pins σ H s :=
  ⟨⟨I.ok.mod, I.ok.kind, I.ok.glob, I.ok.blt, I.ok.above, I.ok.inj, I.ok.has, I.ok.cab, fun h => h1.trans (I.ok.hd h), h2.trans I.ok.frames, I.ok.stk, I.ok.exf, I.ok.bs, I.ok.bsz, I.ok.noex, I.ok.exfs, I.ok.funs, I.ok.frf⟩, I.os, I.bare, I.base, I.loc, I.cell, I.free, I.freeC, I.pin, I.hok, I.len⟩
theorem Inv.ofA {A : Around} (I : L2.Inv { X with A := A } pins σ H s) (h1 : A.handled = X.A.handled) (h2 : A.frames = X.A.frames) : L2.Inv X pins σ H s :=
  Inv.withA (X := { X with A := A }) I (A := X.A) h1.symm h2.symm
end

/-- the list S behind the loop of list(g): a fixed place with what was there, ahead of g -/
theorem drainZ {X : Cx} {A : Around} {k : Nat} {pins : PV} {σ : L2.St} {R : Result → Shared → Prop} {S : Addr} {res : Value} (hA : A.in1 = X.A) (hr : Room (k + 1) X.A) (hSL : S ≠ X.env.locals) (hSf : S ∉ X.fs) (hS0 : X.s_0.heap.objs.size ≤ S) (hSc : ∀ x c, X.env.cells.lookup x = some c → c ≠ S) (hSp : ∀ p ∈ X.pn ++ pins, p.1 ≠ S) :
    ∀ (its : Items) (D : GD) (H : Hp) (s : Shared) (acc : Array Value) (c : Nat), L2.Inv X ((S, lstObj acc c) :: pins) σ H s → acc.size + its.length ≤ sizeLine → D.At its s H → D.Fits X k → D.Apart X H ((S, lstObj acc c) :: pins) →
      (∀ s' acc' c' H' ys us, L2.Inv X ((S, lstObj acc' c') :: pins) σ H' s' → acc'.toList = acc.toList ++ us → Vals ys us → Ex H H' → Got its ys H' → R (.ok (.ret res)) s') →
      codeAny (model X.prog X.w) A (.builtin "list.extend.loop" ⟨[.ref S, .ref D.a, res], []⟩) R s := by
  intro its
  induction its with
  | nil =>
    intro D H s acc c I hz d ft ap hend
    refine codeAny_builtin F.entry_extend_loop ?_
    rw [Around.under_plainId F.plain_extend_loop _, hA]
    show wpAny _ X.A (pyNext (.ref D.a) >>= _) _ _ s
    refine wpAny_bind (wpAny_mono (gnext (E := fun _ _ => False) I d ft ap hr) (fun r s1 q => ?_) fun _ _ z => z.elim)
    obtain ⟨e, H1, I1, hx⟩ := q
    subst e
    exact wpAny_pure (hend s1 acc c H1 [] [] I1 (by simp) .nil hx trivial)
  | cons Pi rest ih =>
    intro D H s acc c I hz d ft ap hend
    refine codeAny_builtin F.entry_extend_loop ?_
    rw [Around.under_plainId F.plain_extend_loop _, hA]
    show wpAny _ X.A (pyNext (.ref D.a) >>= _) _ _ s
    refine wpAny_bind (wpAny_mono (gnext (E := fun _ _ => False) I d ft ap hr) (fun r s1 q => ?_) fun _ _ z => z.elim)
    obtain ⟨v, x, H1, gs', pv', pg', e, rv, hPi, I1, hx, hsus, d', hpv'⟩ := q
    subst e
    have hz' : acc.size < sizeLine := by simp only [List.length_cons] at hz; omega
    have pS := I1.pin (S, lstObj acc c) (List.mem_append_right _ List.mem_cons_self)
    have hS1 : s1.heap.get? S = some (lstObj acc c) := pS.1
    show wpAny _ X.A (updateSeq S (·.push v) >>= _) _ _ _
    refine wpAny_bind (wpAny_updateSeq hS1 rfl (wpAny_pure ⟨plainId_quiet F.plain_extend_loop _, ?_⟩) (Nat.le_of_lt hz') (by show (acc.push v).size ≤ sizeLine + 1; rw [Array.size_push]; omega))
    have keep : ∀ b o, b ≠ S → s1.heap.get? b = some o → (s1.heap.update S (Obj.mapSeq (·.push v))).get? b = some o := fun b o hb e => (Heap.get?_update_other _ _ (Ne.symm hb)).trans e
    obtain ⟨c2, hS2⟩ : ∃ c2, (s1.heap.update S (Obj.mapSeq (·.push v))).get? S = some (lstObj (acc.push v) c2) := ⟨_, Heap.get?_update_self _ hS1 rfl⟩
    have apS := ap.pin (S, lstObj acc c) (List.mem_append_right _ List.mem_cons_self)
    have Sold : S < s.heap.objs.size := Heap.lt_size (I.pin (S, lstObj acc c) (List.mem_append_right _ List.mem_cons_self)).1
    have neS : ∀ p ∈ ({ D with gs := gs', pv := pv', pg := pg' } : GD).all, p.1 ≠ S := fun p hp z => by
      rcases List.mem_cons.mp hp with rfl | hp
      · exact apS.2 z.symm
      · rcases hpv' p hp with q | q
        · exact apS.1 (by rw [← z]; exact q)
        · rw [z] at q
          exact absurd (Nat.lt_of_lt_of_le Sold q) (Nat.lt_irrefl _)
    have I2 : L2.Inv X pins σ H1 s1 := I1.pins_of fun p hp => I1.pin p (List.mem_append_right _ (List.mem_cons_of_mem _ hp))
    have I3 : L2.Inv X pins σ H1 { s1 with heap := s1.heap.update S (Obj.mapSeq (·.push v)) } := I2.turned (t' := s1.toks) keep pS.2.1 hSL (.inr hS0) hSc hSp
    have I4 : L2.Inv X ((S, lstObj (acc.push v) c2) :: pins) σ H1 { s1 with heap := s1.heap.update S (Obj.mapSeq (·.push v)) } := I3.pins_of fun p hp => by
      rcases List.mem_cons.mp hp with rfl | hp
      · exact ⟨hS2, pS.2.1, hSL, hSf, fun v z => by cases z⟩
      · exact I3.pin p (List.mem_append_right _ hp)
    refine ih { D with gs := gs', pv := pv', pg := pg' } H1 { s1 with heap := s1.heap.update S (Obj.mapSeq (·.push v)) } (acc.push v) c2 I4 ?_ (d'.keep (fun p hp => ?_) d'.st fun q hq => (d'.slp.gn q hq).1) ⟨ft.P, ft.w, ft.K, ft.mg, ft.base, ft.outer, ft.k⟩ ⟨fun b hb z => ?_, ⟨fun z => ?_, ap.loc.2⟩, ap.cell, fun p hp => ?_⟩ (fun s' acc' c' H' ys us I' ea r hx' hg => ?_)
    · rw [Array.size_push]; simp only [List.length_cons] at hz; omega
    · have h0 := neS p hp
      rcases List.mem_cons.mp hp with rfl | hp
      · exact ⟨keep _ _ h0 d'.ob.1, d'.ob.2⟩
      · exact ⟨keep _ _ h0 (d'.slp.ob p hp).1, (d'.slp.ob p hp).2⟩
    · exact ap.s0 b hb fun xs q => z xs (hx b _ q)
    · obtain ⟨p, hp, e⟩ := List.mem_map.mp z
      rcases hpv' p hp with q | q
      · exact ap.loc.1 (by rw [← e]; exact q)
      · rw [e] at q
        exact absurd (Nat.lt_of_lt_of_le I.lt q) (Nat.lt_irrefl _)
    · have hold : p.1 < s.heap.objs.size ∧ p.1 ∉ D.pv.map (·.1) ∧ p.1 ≠ D.a := by
        rcases List.mem_append.mp hp with hp | hp
        · have := ap.pin p (List.mem_append_left _ hp)
          exact ⟨Heap.lt_size (I.pin p (List.mem_append_left _ hp)).1, this.1, this.2⟩
        · rcases List.mem_cons.mp hp with rfl | hp
          · exact ⟨Sold, apS.1, apS.2⟩
          · have := ap.pin p (List.mem_append_right _ (List.mem_cons_of_mem _ hp))
            exact ⟨Heap.lt_size (I.pin p (List.mem_append_right _ (List.mem_cons_of_mem _ hp))).1, this.1, this.2⟩
      refine ⟨fun z => ?_, hold.2.2⟩
      obtain ⟨p2, hp2, e⟩ := List.mem_map.mp z
      rcases hpv' p2 hp2 with q | q
      · exact hold.2.1 (by rw [← e]; exact q)
      · rw [e] at q
        exact absurd (Nat.lt_of_lt_of_le hold.1 q) (Nat.lt_irrefl _)
    · refine hend s' acc' c' H' (x :: ys) (v :: us) I' (by rw [ea]; simp) (.cons rv r) (hx.trans hx') ⟨⟨H1, hPi, hx'⟩, hg⟩

/-- list(g) -/
theorem call_listZ {X : Cx} {k : Nat} {pins : PV} {σ : L2.St} {H : Hp} {s : Shared} {D : GD} {its : Items} {Q : VK} {E : Value → Shared → Prop} (I : L2.Inv X pins σ H s) (hr : Room (k + 3) X.A) (d : D.At its s H) (ft : D.Fits X k) (ap : D.Apart X H pins) (hz : its.length ≤ sizeLine)
    (hQ : ∀ S ys H1, Ex H H1 → Got its ys H1 → H1 S = none → Q (.ref S) (upd H1 S (.lst ys))) :
    wpAny (model X.prog X.w) X.A (call (.type "list") [.ref D.a]) (EP X pins σ Q) E s := by
  have ha2 : D.a < s.heap.objs.size := Heap.lt_size d.ob.1
  have hSa : s.heap.objs.size ≠ D.a := Nat.ne_of_gt ha2
  have hg : s.heap.IsGen D.a D.G.g := d.isg _ d.ob.1
  refine callType_codes (Q₁ := fun obj s₁ => obj = .ref s.heap.objs.size ∧ s₁ = { s with heap := s.heap.push { cls := .type "list", data := .seq #[] } }) F.called_list (F.typeCall_list_1 _) F.entry_list_init
    (code_list_new _ ⟨rfl, rfl⟩) fun obj s₁ h₁ => ?_
  obtain ⟨rfl, rfl⟩ := h₁
  have hS : (s.heap.push { cls := .type "list", data := .seq #[] }).get? s.heap.objs.size = some { cls := .type "list", data := .seq #[] } := Heap.get?_push_size _ rfl
  refine ⟨⟨_, hS, rfl⟩, F.args_list_init_2 _ _, ?_⟩
  show wpAny _ X.A.in1.in1 (do let old ← Builtin.List.listItems (.ref s.heap.objs.size); Builtin.List.listUpdate (.ref s.heap.objs.size) (fun _ => #[]); letGo old.toList.reverse; Builtin.List.listExtendWith (.ref s.heap.objs.size) (.ref D.a) .none) _ _ _
  refine wpAny_bind ?_
  let Un : Heap → Prop := fun h => ∀ b o, s.heap.get? b = some o → h.get? b = some o
  have up : ∀ (h : Heap) (f : Obj → Obj), Un h → Un (h.update s.heap.objs.size f) := fun h f q b o e => Eq.trans (Heap.get?_update_other _ _ fun z => Nat.lt_irrefl _ (z ▸ Heap.lt_size e)) (q b o e)
  have k1 : Un (s.heap.push { cls := .type "list", data := .seq #[] }) := fun b o e => Heap.get?_push_of_some _ e
  have k2 := up _ (Obj.mapSeq fun _ => (#[] : Array Value)) k1
  have gen : Shared.TypeIs { s with heap := _ } (.ref D.a) "generator" := Heap.IsGen.typeIs (s := { s with heap := _ }) (hg.keeps k2)
  have other : Builtin.List.listSameRef (.ref s.heap.objs.size) (.ref D.a) = false := by simp [Builtin.List.listSameRef, hSa]
  have hS2 := Heap.get?_update_self (Obj.mapSeq (fun _ => (#[] : Array Value))) hS rfl
  unfold Builtin.List.listItems
  refine wpAny_bind (wpAny_seqItems hS rfl (wpAny_pure ?_))
  suffices grown : wpAny _ X.A.in1.in1 (updateSeq s.heap.objs.size (fun _ => #[]) >>= fun _ => letGo (#[] : Array Value).toList.reverse >>= fun _ => Builtin.List.listExtendWith (.ref s.heap.objs.size) (.ref D.a) .none) _ _ _ from grown
  refine wpAny_bind (wpAny_updateSeq hS rfl (wpAny_bind (wpAny_letGo ?_)))
  unfold Builtin.List.listExtendWith Builtin.List.listLengthHint
  refine wpAny_bind (wpAny_typeOf gen ?_)
  rw [other]
  refine wpAny_bind (wpAny_pyIter_gen (s := { s with heap := _ }) (hg.keeps k2) (wpAny_bind (wpAny_holding (wpAny_bind (wpAny_specialOf gen F.gen_no_len ?_)))))
  show wpAny _ X.A.in1.in1 (specialOf (Value.ref D.a) (Str.ofString "__length_hint__") >>= _) _ _ _
  refine wpAny_bind (wpAny_specialOf gen F.gen_no_hint (wpAny_pure ?_))
  suffices room : wpAny _ X.A.in1.in1 (rule "list.extend.makes-room" >>= fun _ => Builtin.List.listTouch (.ref s.heap.objs.size) >>= fun _ => again (.builtin "list.extend.loop" ⟨[.ref s.heap.objs.size, .ref D.a, .none], []⟩)) _ _ _ from room
  refine wpAny_bind (wpAny_rule ?_)
  refine wpAny_bind ?_
  show wpAny _ X.A.in1.in1 (updateSeq s.heap.objs.size (·.push .none) >>= fun _ => updateSeq s.heap.objs.size (·.pop)) _ _ _
  refine wpAny_bind (wpAny_updateSeq hS2 rfl ?_)
  have hS3 := Heap.get?_update_self (Obj.mapSeq (·.push Value.none)) hS2 rfl
  refine wpAny_updateSeq (hz := by seq_fits) hS3 rfl ?_
  obtain ⟨c0, hS4⟩ : ∃ c0, ((((s.heap.push { cls := .type "list", data := .seq #[] }).update s.heap.objs.size (Obj.mapSeq (fun _ => (#[] : Array Value)))).update s.heap.objs.size (Obj.mapSeq (·.push Value.none))).update s.heap.objs.size (Obj.mapSeq (·.pop))).get? s.heap.objs.size = some (lstObj #[] c0) := ⟨_, Heap.get?_update_self _ hS3 rfl⟩
  have k4 := up _ (Obj.mapSeq (·.pop)) (up _ (Obj.mapSeq (·.push Value.none)) k2)
  refine wpAny_pure ⟨plainId_quiet F.plain_extend_loop _, ?_⟩
  generalize hh : (((s.heap.push { cls := .type "list", data := .seq #[] }).update s.heap.objs.size (Obj.mapSeq (fun _ => (#[] : Array Value)))).update s.heap.objs.size (Obj.mapSeq (·.push Value.none))).update s.heap.objs.size (Obj.mapSeq (·.pop)) = h4 at k4 hS4 ⊢
  have nS : H s.heap.objs.size = none := I.hok.fresh (Nat.le_refl _)
  have fS : FpOk X pins H s.heap.objs.size := I.fpOk (Nat.le_refl _) nS
  obtain ⟨f0, f1, f2, f3, f4, f5⟩ := fS
  have fS0 : X.s_0.heap.objs.size ≤ s.heap.objs.size := I.sz
  have I4 : L2.Inv X pins σ H { s with heap := h4 } := I.kept (t' := s.toks) k4
  have I5 : L2.Inv { X with A := X.A.in1.in1 } ((s.heap.objs.size, lstObj #[] c0) :: pins) σ H { s with heap := h4 } := Inv.withA (A := X.A.in1.in1) (I4.pins_of fun p hp => by
    rcases List.mem_cons.mp hp with rfl | hp
    · exact ⟨hS4, f0, f1, f2, fun v z => by cases z⟩
    · exact I4.pin p (List.mem_append_right _ hp)) rfl rfl
  refine drainZ (X := { X with A := X.A.in1.in1 }) (A := X.A.in1) (k := k) rfl hr.in1.in1 f1 f2 fS0 f4 f5 its D H _ #[] _ I5 (by simpa using hz) (d.keep (fun p hp => ?_) d.st fun q hq => (d.slp.gn q hq).1) ⟨ft.P, ft.w, ft.K, ft.mg, ft.base, ft.outer, ft.k⟩ ⟨ap.s0, ap.loc, ap.cell, fun p hp => ?_⟩ (fun s' acc c H' ys us I' ea r hx hg => ?_)
  · rcases List.mem_cons.mp hp with rfl | hp
    · exact ⟨k4 _ _ d.ob.1, d.ob.2⟩
    · exact ⟨k4 _ _ (d.slp.ob p hp).1, (d.slp.ob p hp).2⟩
  · rcases List.mem_append.mp hp with hp | hp
    · exact ap.pin p (List.mem_append_left _ hp)
    · rcases List.mem_cons.mp hp with rfl | hp
      · refine ⟨fun z => ?_, hSa⟩
        obtain ⟨p2, hp2, e⟩ := List.mem_map.mp z
        have := Heap.lt_size (d.slp.ob p2 hp2).1
        rw [e] at this
        exact absurd this (Nat.lt_irrefl _)
      · exact ap.pin p (List.mem_append_right _ hp)
  · refine ⟨rfl, ?_⟩
    have I6 := Inv.ofA (X := X) I' rfl rfl
    have pS := I6.pin (s.heap.objs.size, lstObj acc c) (List.mem_append_right _ List.mem_cons_self)
    have I7 : L2.Inv X pins σ H' s' := I6.pins_of fun p hp => I6.pin p (List.mem_append_right _ (List.mem_cons_of_mem _ hp))
    have ea' : acc.toList = us := by simpa using ea
    have hlen : ys.length ≤ sizeLine := by rw [hg.len]; exact hz
    refine ⟨.ref s.heap.objs.size, upd H' s.heap.objs.size (.lst ys), ?_, rfl, hQ _ _ _ hx hg pS.2.1⟩
    have nt : ∀ b u, H' b = some u → b ≠ s.heap.objs.size := fun b u e z => by rw [z, pS.2.1] at e; cases e
    refine I7.call' (ch := [s.heap.objs.size]) rfl ⟨fun b o e _ _ _ => e, fun b o e _ _ _ => ⟨o.slots, e⟩, fun b o e n hx => ?_, fun b o e _ => ⟨o, e⟩, fun b xs q => ?_, fun b o u q => ?_, fun b ps q => ⟨#[], ?_⟩⟩ (fun b u q => ?_) I7.bare fun b hb => ?_
    · have : b ≠ s.heap.objs.size := fun z => hx (by simp [z])
      rw [upd_ne this]; exact n
    · rw [upd_ne (nt _ _ q)]; exact q
    · rw [upd_ne (nt _ _ q)]; exact q
    · rw [upd_ne (nt _ _ q), q]; simp
    · by_cases hb : b = s.heap.objs.size
      · subst hb
        rw [upd_same] at q
        cases q
        exact ⟨hlen, acc.toList, c, by rw [ea']; exact r, pS.1⟩
      · rw [upd_ne hb] at q
        exact (I7.hok b u q).stay (fun _ _ _ z => z) (fun d z => by rw [upd_ne (nt _ _ z)]; exact z) fun d xs z => by rw [upd_ne (nt _ _ z)]; exact z
    · have : b = s.heap.objs.size := by simpa using hb
      subst this
      exact ⟨.inr fS0, f1, f4, f5⟩

section
variable {X : Cx} {k : Nat} {p pos : Pos}
def tListZ (tg : TGx) : TE := fun σ H Q => tg σ H fun its H1 => its.length ≤ sizeLine ∧ ∀ S ys H2, Ex H1 H2 → Got its ys H2 → H2 S = none → Q (.ref S) (upd H2 S (.lst ys))
theorem pe_listZ {e : Expr} {tg : TGx} {nm : Str} (h : PGx X k e tg) (hr : Room (k + 3) X.A) (hcl : ∀ {pins : PV} {σ : L2.St} {H : Hp} {s : Shared}, L2.Inv X pins σ H s → ∀ x c, X.env.cells.lookup x = some c → c < s.heap.objs.size) (hg : Gl X nm) (hmg : X.mg nm = none) (hv : bootBuiltins nm = some (.type "list")) (hnm : nm ≠ "__name__" := by decide) (hdb : (nm == ("__debug__" : Str)) = false := by decide)
    (he : starEach [e] X.env = (false, eval e X.env) :: starEach [] X.env := by rfl) : PE X (.Call (.Name nm p) [e] [] pos) (tListZ tg) := by
  refine ⟨fun pins s σ H Q I hq => ?_⟩
  refine wpAny_Call_Name_kw (ld_blt I hg hmg hv ?_ hnm hdb)
  refine PyProof.Rows.callWith_type1 ?_ he rfl
  rw [he]
  show wpAny _ _ (spliced ((false, eval e X.env) :: backTo pos (starEach [] X.env))) _ _ s
  refine Calls.spliced_cons (thn (h.run pins s σ H _ I hq) fun u s1 ⟨D, its, H1, e1, I1, d, ft, nw, hz, q⟩ => ?_)
  subst e1
  refine Calls.spliced_nil ?_
  exact call_listZ I1 hr d ft (nw.apart d I (hcl I)) hz fun S ys H2 hx hgt hn => q S ys H2 hx hgt hn
end
end GZ
end
section
set_option maxRecDepth 100000
set_option maxHeartbeats 1000000
/-! A list comprehension over a generator. -/
namespace GZ
open PySem PySem.Spec PyProof.Rows L2 GenW
open Evl (Ex)

/-- what is proven of a state leaves the sleepers asleep -/
theorem keep_run {X : Cx} {pins : PV} {σ : L2.St} {H : Hp} {s : Shared} {α : Type} {t : Sem α} {A : Around} {Q : α → L2.St → Hp → Prop} {E : Value → Shared → Prop} (I : L2.Inv X pins σ H s)
    (h : ∀ s', s'.heap = s.heap → L2.Inv X pins σ H s' → wpAny (model X.prog X.w) A t (fun a s' => ∃ σ' H', L2.Inv X pins σ' H' s' ∧ Q a σ' H') bot s') :
    wpAny (model X.prog X.w) A t (fun a s' => KeptG s s' ∧ ∃ σ' H', L2.Inv X pins σ' H' s' ∧ Q a σ' H') E s := by
  have h1 := h (hide s) rfl (Inv.gens' I (bare_hide I.bare))
  refine wpAny_mono (wpAny_kept h1) (fun a s' q => ?_) fun e s' q => ?_
  · obtain ⟨hk, s₁, e, _, hb, σ', H', I', q⟩ := q
    have := Inv.gens' (g' := s'.gens) I' (hb I.bare I'.bare)
    rw [← e] at this
    exact ⟨hk, σ', H', this, q⟩
  · obtain ⟨_, _, _, _, _, q⟩ := q
    exact q.elim
theorem Inv.cellLt {X : Cx} {pins : PV} {σ : L2.St} {H : Hp} {s : Shared} (I : L2.Inv X pins σ H s) : ∀ x c, X.env.cells.lookup x = some c → c < s.heap.objs.size := fun x c e => by
  obtain ⟨v, z⟩ := I.cell x c e
  exact z.lt

def tLcZ (tg : TGx) (i : Nat) (te : TE) (vs : List Nat) : TE := fun σ H Q => tg σ H fun its H1 => (∀ x, wipe ((wipe σ vs).set i (some x)) vs = wipe σ vs) ∧ ∀ D, H1 D = none → ∃ W : Items → Hp → Prop, W its (upd H1 D (.lst [])) ∧ (∀ jts H, W jts H → ∃ acc, H D = some (.lst acc)) ∧ (∀ H H', W [] H → Ex H H' → Q (.ref D) H') ∧
  ∀ Pi rest H, W (Pi :: rest) H → ∀ x H', Ex H H' → Pi x H' → te ((wipe σ vs).set i (some x)) H' fun y H4 => ∃ acc, H4 D = some (.lst acc) ∧ acc.length < sizeLine ∧ W rest (upd H4 D (.lst (acc ++ [y])))
theorem pe_lcZ {X : Cx} {k : Nat} {elt iter : Expr} {scope : Scope} {own : List (Str × Nat)} {pos px : Pos} {x : Str} {i : Nat} {tg : TGx} {te : TE} (hc : X.calm = true) (hN : X.N.Nodup) (hx : X.N[i]? = some x) (hl : scope.names.lookup x = some .local) (hi : PGx X k iter tg) (hr : Room (k + 1) X.A) (ok : BlkOk X.N X.env.scope scope own)
    (hce : ∀ n cl, cellsFrom n scope.names (cloFrom cl scope.names []) = [])
    (he : ∀ (s : Shared) (H : Hp) (C : Addr) (cl : List (Str × Addr)) (fp : List Addr), PE (X.blk s H scope (compEnvC scope cl C X.env) fp) elt te)
    (hgx : ∀ (s : Shared) (H : Hp) (C : Addr) (cl : List (Str × Addr)) (fp : List Addr), L2.PG (X.blk s H scope (compEnvC scope cl C X.env) fp) (.Name x px) (gName i))
    (hs : ∀ x, foldedSetIterable iter X.env x = pure x := by intro _; rfl) :
    PE X (.ListComp elt [⟨.Name x px, iter, [], 0⟩] scope pos) (tLcZ tg i te (own.map (·.2))) := by
  refine ⟨fun pins s σ H Q I h => ?_⟩
  rw [eval_ListComp]
  have hfree : ∀ y ∈ scope.names, y.2 = .free → ∃ c, X.env.cells.lookup y.1 = some c := fun y hy e => by
    rcases ok.free y hy e with k | k
    · exact I.ok.has _ (.inl k)
    · exact I.ok.has _ (.inr k)
  refine wpAny_comprehension_free (use := none) rfl hs (closure_ok hfree) ok.kind (fun y hy e => by rw [ok.uniq y hy, e])
    (thn (hi.run pins s σ H _ I h) fun xv s2 h2 => ?_)
  obtain ⟨D, its, H2, e, I2, d, ft, nw, hw, q⟩ := h2
  subst e
  refine wpAny_pyIter_gen d.typeIs ?_
  refine wpAny_newObj_type (newEnv_comp ?_) (by show 0 ≤ sizeLine; decide)
  generalize hS : s2.heap.objs.size = S
  have hSn : H2 S = none := I2.hok.fresh (Nat.le_of_eq hS)
  obtain ⟨W, w0, wl, wend, step⟩ := q S hSn
  have ss2 : s.heap.objs.size < s2.heap.objs.size := Nat.lt_of_le_of_lt (Nat.le_trans nw.n0 d.a0) (Heap.lt_size d.ob.1)
  -- the new list
  generalize hs3 : ({ s2 with heap := s2.heap.push { cls := .type "list", data := .seq ([] : List Value).toArray } } : Shared) = s3
  have I3 : L2.Inv X pins σ (upd H2 S (.lst [])) s3 := by
    rw [← hs3]
    refine I2.laid (t' := s2.toks) (fun b o e => Heap.get?_push_of_some _ e) (Nat.le_of_eq hS) ⟨Nat.zero_le _, [], 0, .nil, ?_⟩
    rw [← hS]
    exact Heap.get?_push_size _ rfl
  have h3 : s3.heap = s2.heap.push { cls := .type "list", data := .seq ([] : List Value).toArray } := by rw [← hs3]
  have k3 : ∀ b o, s2.heap.get? b = some o → s3.heap.get? b = some o := fun b o e => by rw [h3]; exact Heap.get?_push_of_some _ e
  have g3 : s3.gens = s2.gens := by rw [← hs3]
  -- what the generator owns or may touch in the block
  generalize hfp : ((List.range s3.heap.objs.size).filter fun b => decide (D.G.n0 ≤ b) && b != S) = fp
  have mfp : ∀ b, b ∈ fp ↔ b < s3.heap.objs.size ∧ D.G.n0 ≤ b ∧ b ≠ S := fun b => by
    rw [← hfp, List.mem_filter, List.mem_range]
    simp
  have f3 : ∀ b ∈ fp, FpOk X pins (upd H2 S (.lst [])) b ∧ b < s3.heap.objs.size := fun b hb => by
    obtain ⟨h1, h2, h4⟩ := (mfp b).mp hb
    have hn : upd H2 S (.lst []) b = none := by rw [upd_ne h4]; exact nw.hn b h2
    exact ⟨I.fpOk (Nat.le_trans nw.n0 h2) hn, h1⟩
  have I4 := block_start I3 ok hN f3
  have pe := he s3 (upd H2 S (.lst [])) s3.heap.objs.size (cellsFrom (s3.heap.objs.size + 1) scope.names (cloFrom X.env.cells scope.names [])) fp
  have pg := hgx s3 (upd H2 S (.lst [])) s3.heap.objs.size (cellsFrom (s3.heap.objs.size + 1) scope.names (cloFrom X.env.cells scope.names [])) fp
  show codeAny _ _ (.compStart (.ListComp elt [⟨.Name x px, iter, [], 0⟩] scope pos) 0 (.ref D.a) (.ref S) (compEnvC scope (cellsFrom (s3.heap.objs.size + 1) scope.names (cloFrom X.env.cells scope.names [])) s3.heap.objs.size X.env)) (compPost (model X.prog X.w) X.A X.xe none _ (.ref S) s3.heap.objs.size) { s3 with heap := pushCells (s3.heap.push { cls := .type "dict", data := .dict #[] }) scope.names }
  have ceE : (compEnvC scope (cellsFrom (s3.heap.objs.size + 1) scope.names (cloFrom X.env.cells scope.names [])) s3.heap.objs.size X.env).cells = [] := hce _ _
  generalize hcev : compEnvC scope (cellsFrom (s3.heap.objs.size + 1) scope.names (cloFrom X.env.cells scope.names [])) s3.heap.objs.size X.env = ce at I4 pe pg ceE ⊢
  have cL : ce.locals = s3.heap.objs.size := by subst hcev; rfl
  generalize hH3 : upd H2 S (.lst []) = H3 at I3 I4 pe pg w0 f3
  generalize hs4 : ({ s3 with heap := pushCells (s3.heap.push { cls := .type "dict", data := .dict #[] }) scope.names } : Shared) = s4 at I4 ⊢
  have k4 : ∀ b o, s2.heap.get? b = some o → s4.heap.get? b = some o := fun b o e => by rw [← hs4]; exact pushCells_keeps _ _ _ _ (Heap.get?_push_of_some _ (k3 b o e))
  have g4 : s4.gens = s2.gens := by rw [← hs4]; exact g3
  have ne2 : ∀ b, H2 b = none → b ≠ S → H3 b = none := fun b h1 h2 => by rw [← hH3, upd_ne h2]; exact h1
  have dall : ∀ p ∈ D.all, s2.heap.get? p.1 = some p.2 ∧ H2 p.1 = none := fun p hp => by
    rcases List.mem_cons.mp hp with rfl | hp
    · exact d.ob
    · exact d.slp.ob p hp
  have dneS : ∀ p ∈ D.all, p.1 < S := fun p hp => by rw [← hS]; exact Heap.lt_size (dall p hp).1
  have d4 : D.At its s4 H3 := d.keep (fun p hp => ⟨k4 _ _ (dall p hp).1, ne2 _ (dall p hp).2 (Nat.ne_of_lt (dneS p hp))⟩) (by rw [g4]; exact d.st) fun q hq => by rw [g4]; exact (d.slp.gn q hq).1
  have s3S : S < s3.heap.objs.size := by rw [h3, Heap.size_push, hS]; exact Nat.lt_succ_self _
  have loop : codeAny (model X.prog X.w) X.A (.compLoop (.ListComp elt [⟨.Name x px, iter, [], 0⟩] scope pos) 0 (.ref D.a) (.ref S) ce) (compPost (model X.prog X.w) X.A X.xe none (EP X pins σ Q) (.ref S) s3.heap.objs.size) s4 := by
    refine compLoop_any (fun n s' => ∃ (D' : GD) (jts : Items) (H' : Hp), n = jts.length ∧ D'.a = D.a ∧ D'.G = D.G ∧ L2.Inv (X.blk s3 H3 scope ce fp) [] (wipe σ (own.map (·.2))) H' s' ∧ D'.At jts s' H' ∧ (∀ p ∈ D'.all, p.1 ≠ s3.heap.objs.size) ∧ W jts H') ?_ its.length ⟨D, its, H3, rfl, rfl, rfl, I4, d4, fun p hp => Nat.ne_of_lt (Nat.lt_trans (dneS p hp) s3S), w0⟩
    rintro n s5 ⟨D', jts, H5, hn, ea, eG, I5, d5, l5, w5⟩
    have ap : D'.Apart (X.blk s3 H3 scope ce fp) H5 [] := by
      refine ⟨fun b hb hl => ?_, ⟨fun z => ?_, fun z => ?_⟩, fun y c e => ?_, fun p hp => absurd (show p ∈ ([] : PV) ++ [] from hp) (by simp)⟩
      · by_cases hlt : b < s3.heap.objs.size
        · refine .inl ((mfp b).mpr ⟨hlt, by rw [← eG]; exact hb, fun z => ?_⟩)
          obtain ⟨acc, hacc⟩ := wl _ _ w5
          rw [← z] at hacc
          exact hl _ hacc
        · exact .inr (Nat.not_lt.mp hlt)
      · have z : ce.locals ∈ D'.pv.map (·.1) := z
        rw [cL] at z
        obtain ⟨p, hp, e⟩ := List.mem_map.mp z
        exact l5 p (List.mem_cons_of_mem _ hp) e
      · have z : ce.locals = D'.a := z
        rw [cL] at z
        exact l5 (D'.a, D'.o) List.mem_cons_self z.symm
      · have e : ce.cells.lookup y = some c := e
        rw [ceE] at e; cases e
    have ft' : D'.Fits (X.blk s3 H3 scope ce fp) k := ⟨by rw [eG]; exact ft.P, by rw [eG]; exact ft.w, by rw [eG]; exact ft.K, by rw [eG]; exact ft.mg, by rw [eG]; exact ft.base, by rw [eG]; exact ft.outer, by rw [eG]; exact ft.k⟩
    rw [← ea]
    cases jts with
    | nil =>
      refine thnF (gnext (X := X.blk s3 H3 scope ce fp) (E := fun _ _ => False) I5 d5 ft' ap hr) fun r s6 hq => ?_
      obtain ⟨e1, H6, I6, hx6⟩ := hq
      subst e1
      -- back in the def's context
      have I7 : L2.Inv X pins σ H6 s6 := I3.call' (ch := fp) I6.os I6.base I6.hok I6.bare fun b hb => ⟨(f3 b hb).1.2.2.2.1, (f3 b hb).1.2.1, (f3 b hb).1.2.2.2.2.1, (f3 b hb).1.2.2.2.2.2⟩
      have nC : H6 s3.heap.objs.size = none := by
        have z : H6 ce.locals = none := I6.free
        rw [cL] at z
        exact z
      obtain ⟨m, hm, _⟩ := I6.loc
      have hm : s6.heap.Ns ce.locals m := hm
      rw [cL] at hm
      obtain ⟨f0, f1, f2, f3', f4, f5⟩ := I3.fpOk (Nat.le_refl _) nC
      exact ⟨m, hm, fun h'' sb => ⟨.ref S, H6, I7.turned (t' := s6.toks) (fun b o hb e => (sb.2 b hb).trans e) f0 f1 f3' f4 f5, rfl, wend _ _ w5 hx6⟩⟩
    | cons Pi rest =>
      refine thnF (gnext (X := X.blk s3 H3 scope ce fp) (E := fun _ _ => False) I5 d5 ft' ap hr) fun r s6 hq => ?_
      obtain ⟨v, xx, H6, gs', pv', pg', e1, rv, hPi, I6, hx6, hsus, d6, hpv'⟩ := hq
      subst e1
      dsimp only
      refine wpAny_pure ?_
      have C5 : s3.heap.objs.size < s5.heap.objs.size := by
        have z : ce.locals < s5.heap.objs.size := I5.lt
        rw [cL] at z
        exact z
      have l6 : ∀ p ∈ ({ D' with gs := gs', pv := pv', pg := pg' } : GD).all, p.1 ≠ s3.heap.objs.size := fun p hp z => by
        rcases List.mem_cons.mp hp with rfl | hp
        · exact l5 (D'.a, D'.o) List.mem_cons_self z
        · rcases hpv' p hp with q | q
          · obtain ⟨p2, hp2, e⟩ := List.mem_map.mp q
            exact l5 p2 (List.mem_cons_of_mem _ hp2) (e.trans z)
          · rw [z] at q
            exact absurd (Nat.lt_of_lt_of_le C5 q) (Nat.lt_irrefl _)
      have I7 : L2.Inv (X.blk s3 H3 scope ce fp) ({ D' with gs := gs', pv := pv', pg := pg' } : GD).all (wipe σ (own.map (·.2))) H6 s6 := I6.pins_of fun p hp => by
        have hob : s6.heap.get? p.1 = some p.2 ∧ H6 p.1 = none := by
          rcases List.mem_cons.mp hp with rfl | hp
          · exact d6.ob
          · exact d6.slp.ob p hp
        have hge : D'.G.n0 ≤ p.1 := by
          rcases List.mem_cons.mp hp with rfl | hp
          · exact d6.a0
          · exact (d6.pvn p hp).1
        refine ⟨hob.1, hob.2, fun z => ?_, fun z => ?_, d6.notcell p hp⟩
        · have z : p.1 = ce.locals := z
          rw [cL] at z
          exact l6 p hp z
        · have := d5.ok.frs p.1 (by rw [ft'.outer]; exact z)
          exact absurd (Nat.lt_of_lt_of_le this hge) (Nat.lt_irrefl _)
      refine thnF (keep_run (X := X.blk s3 H3 scope ce fp) (Q := fun _ σ' H' => σ' = (wipe σ (own.map (·.2))).set i (some xx) ∧ H' = H6) I7 fun s' _ I' => ?_) fun _ s8 ⟨kg8, σ8, H8, I8, es8, eh8⟩ => ?_
      · exact thn (pg.run _ s' _ H6 xx v (fun σ' H' => σ' = (wipe σ (own.map (·.2))).set i (some xx) ∧ H' = H6) I' rv ⟨rfl, rfl⟩) fun _ s' ⟨σ', H', I', q⟩ => ⟨σ', H', I', q⟩
      subst es8 eh8
      refine wpAny_tests_nil ?_
      show wpAny _ _ (eval elt ce) _ _ s8
      refine thnF (keep_run (X := X.blk s3 H3 scope ce fp) (Q := fun z σ' H4 => σ' = (wipe σ (own.map (·.2))).set i (some xx) ∧ ∃ y, RelV y z ∧ ∃ acc, H4 S = some (.lst acc) ∧ acc.length < sizeLine ∧ W rest (upd H4 S (.lst (acc ++ [y])))) I8 fun s' _ I' => ?_) fun z s10 ⟨kg10, σ10, H10, I10, es10, yv, r10, acc, hD10, hz10, nx⟩ => ?_
      · exact thn (pe.run _ s' _ H8 _ I' (step _ _ _ w5 xx H8 hx6 hPi)) fun z s'' ⟨y, H4, I4, r, q⟩ => ⟨_, H4, I4, rfl, y, r, q⟩
      subst es10
      refine thnF (keep_run (X := X.blk s3 H3 scope ce fp) (Q := fun _ σ' H' => σ' = (wipe σ (own.map (·.2))).set i (some xx) ∧ H' = upd H10 S (.lst (acc ++ [yv]))) I10 fun s' _ I' => ?_) fun _ s11 ⟨kg11, σ11, H11, I11, es11, eh11⟩ => ?_
      · exact app_ok (X := X.blk s3 H3 scope ce fp) (E := fun _ _ => False) I' hD10 hz10 r10 fun s12 I12 => ⟨_, _, I12, rfl, rfl⟩
      subst es11 eh11
      have kg : KeptG s6 s11 := (kg8.trans kg10).trans kg11
      refine ⟨rest.length, by rw [hn]; exact Nat.lt_succ_self _, { D' with gs := gs', pv := pv', pg := pg' }, rest, _, rfl, rfl, eG, ?_, d6.keep (fun p hp => ?_) (kg _ _ hsus d6.st) (fun q hq => kg _ _ (d6.slp.gn q hq).2 (d6.slp.gn q hq).1), l6, nx⟩
      · refine (I11.pins_of (pins' := []) fun p hp => absurd hp (by simp)).weak (by rw [← wipe_length ((wipe σ (own.map (·.2))).set i (some xx)) (own.map (·.2)), hw xx]) (fun j u e => ?_)
        rw [← hw xx] at e
        exact (wipe_some e).1
      · have := I11.pin p (List.mem_append_right _ hp)
        exact ⟨this.1, this.2.1⟩
  exact codeAny_compStart_list loop (wpAny_pyIter_gen d4.typeIs loop)
end GZ
end
section
set_option maxRecDepth 100000
set_option maxHeartbeats 1000000
namespace WK
open PySem PySem.Spec PyProof.Rows L2 FU GZ
open Evl (Ex)
open MR (W Wf textW brk mkW inB ar bth eds birthsL endsL rowN stairW lws rws corner wordOf woGo nL nR stairsL plainW upTo)

/-! readings that are alike at all wakings -/
section
variable {G : GE} {e c : Expr} {es : List Expr} {σ : L2.St} {H : Hp} {P : Wd} {Ps : List Wd}
def zE (G : GE) (e : Expr) : TE := fun σ H Q => ∀ A s0 H0, Awk G A s0 H0 → wE (G.cx A s0 H0) e σ H Q
def zT (G : GE) (e : Expr) : TT := fun σ H Q => ∀ A s0 H0, Awk G A s0 H0 → wT (G.cx A s0 H0) e σ H Q
def zA (G : GE) (e : List Expr) : TA := fun σ H Q => ∀ A s0 H0, Awk G A s0 H0 → wA (G.cx A s0 H0) e σ H Q
theorem qE : ∀ A s0 H0, Awk G A s0 H0 → PE (G.cx A s0 H0) e (zE G e) := fun A s0 H0 aw => ⟨fun pins s _ _ _ I h => h A s0 H0 aw pins s I⟩
theorem qT : ∀ A s0 H0, Awk G A s0 H0 → PT (G.cx A s0 H0) e (zT G e) := fun A s0 H0 aw => ⟨fun pins s _ _ _ I h => h A s0 H0 aw pins s I⟩
theorem qA : ∀ A s0 H0, Awk G A s0 H0 → PA (G.cx A s0 H0) es (zA G es) := fun A s0 H0 aw => ⟨fun pos pins s _ _ _ I h => h A s0 H0 aw pos pins s I⟩
theorem oE {Q : VK} (h : ∀ A s0 H0, Awk G A s0 H0 → EvE (G.cx A s0 H0) e σ H P) (q : ∀ v H2, Ex H H2 → P v H2 → Q v H2) : zE G e σ H Q := fun A s0 H0 aw => h A s0 H0 aw H (Ex.refl _) Q q
theorem oT {b : Bool} {Q : Bool → Hp → Prop} (h : ∀ A s0 H0, Awk G A s0 H0 → EvT (G.cx A s0 H0) e σ H b) (q : ∀ H2, Ex H H2 → Q b H2) : zT G e σ H Q := fun A s0 H0 aw => h A s0 H0 aw H (Ex.refl _) Q q
theorem oA {Q : List V → Hp → Prop} (h : ∀ A s0 H0, Awk G A s0 H0 → EvA (G.cx A s0 H0) es σ H Ps) (q : ∀ v H2, Ex H H2 → Alls Ps v H2 → Q v H2) : zA G es σ H Q := fun A s0 H0 aw => h A s0 H0 aw H (Ex.refl _) Q q
def zNo : TZ := fun _ _ _ _ _ => False
theorem zss_no {pg : PG} {st : List Stmt} : GSs G pg st zNo := ⟨fun A s0 H0 pv0 pp its c fs K J gd lv s σ H D aw gc kk gi ht => ht.elim⟩
end

section
variable {P : Program} {w : World} {K : PySem.W.Frag} {mg : Str → Option Value} {base : Heap}
def spStairs (K : PySem.W.Frag) (n : Nat) : SpZ := fun vs its => ∃ m : Nat, vs = [.int n, .int m] ∧ m ≤ 100 ∧ its = (stairsL n m).map fun l => (isT K l).p
theorem look_mem : ∀ {l : List (Str × NameKind)} {x : Str} {k : NameKind}, l.lookup x = some k → ∃ y, (y, k) ∈ l
  | [], _, _, h => nomatch h
  | (y, k') :: l, x, k, h => by
    rw [List.lookup_cons] at h
    split at h
    · cases h; exact ⟨y, List.mem_cons_self⟩
    · obtain ⟨z, hz⟩ := look_mem h
      exact ⟨z, List.mem_cons_of_mem _ hz⟩
theorem look_all {l : List (Str × NameKind)} (h : l.all (fun p => decide (p.2 ≠ .cell) && decide (p.2 ≠ .free)) = true) (x : Str) : l.lookup x ≠ some .cell ∧ l.lookup x ≠ some .free := by
  have key : ∀ k, l.lookup x = some k → k ≠ .cell ∧ k ≠ .free := fun k hk => by
    obtain ⟨y, hm⟩ := look_mem hk
    have := List.all_eq_true.mp h _ hm
    simpa using this
  exact ⟨fun z => (key _ z).1 rfl, fun z => (key _ z).2 rfl⟩
theorem gsc_stairs : GScope ["length", "most", "first", "rest"] ["length", "most"] (C8.fnScope (top 41)) := ⟨rfl, rfl, rfl, by decide +kernel, rfl, by decide +kernel, by decide +kernel⟩
theorem ok_stairs (T : Fx K w mg) : ∀ n : Nat, n ≤ 50 → GFnZ P w K mg base (2 * n) T.f_stairs T.fd_stairs ["length", "most"] (spStairs K n)
  | n, hn50 => by
    obtain ⟨oc, od, dV, kV, doc, pm, an, cdv, ct, osl, hfd, lk, hcd⟩ := T.d_stairs.fn.ex
    rw [hfd] at lk ⊢
    refine gfnz_of lk hcd gsc_stairs (fun _ => by rfl) (look_all (by decide +kernel)) (fun vs its ⟨m, e, _⟩ => by rw [e]; rfl) fun outer n0 g vs its ok hsp => ?_
    obtain ⟨m, rfl, hm, rfl⟩ := hsp
    cases n with
    | zero =>
      refine ⟨_, zss_one (zs_if (u := zNo) (fun A s0 H0 aw => qT A s0 H0 aw) (zss_one (zs_yield ok fun A s0 H0 aw => qE A s0 H0 aw)) zss_no), fun H => oT (b := true) (fun A s0 H0 aw => t_eq (v := .int ((0 : Nat) : Int)) (w := .int 0) (x_var (P := isI ((0 : Nat) : Int)) 0 rfl rfl) x_int) fun H2 e2 => ?_⟩
      exact oE (P := isT K []) (fun A s0 H0 aw => x_tup a_nil) fun v H3 e3 hv => ⟨_, [], rfl, hv, e2.trans e3, fun H2 => ⟨rfl, Ex.refl _⟩⟩
    | succ n =>
      have ih : GFnZ P w K mg base (2 * n) T.f_stairs T.fd_stairs ["length", "most"] (spStairs K n) := ok_stairs T n (by omega)
      let RR : Nat → Items := fun j => ((List.range (m + 1)).drop j).flatMap fun (f : Nat) => (stairsL n f).map fun r => (isT K ((f : Int) :: r)).p
      have r0 : (stairsL (n + 1) m).map (fun l => (isT K l).p) = RR 0 := by
        show _ = ((List.range (m + 1)).drop 0).flatMap fun (f : Nat) => (stairsL n f).map fun r => (isT K ((f : Int) :: r)).p
        rw [stairsL, List.drop_zero, List.map_flatMap]
        have : MR.upTo (m : Int) = (List.range (m + 1)).map fun (i : Nat) => (i : Int) := by
          unfold MR.upTo
          have : ((m : Int) + 1).toNat = m + 1 := by omega
          rw [this]
        rw [this, List.flatMap_map]
        simp only [List.map_map]
        rfl
      have rS : ∀ j, j < m + 1 → RR j = ((stairsL n j).map fun r => (isT K ((j : Int) :: r)).p) ++ RR (j + 1) := fun j hj => by
        show ((List.range (m + 1)).drop j).flatMap _ = _
        rw [List.drop_eq_getElem_cons (by rw [List.length_range]; exact hj), List.flatMap_cons, List.getElem_range]
      have rE : RR (m + 1) = [] := by
        show ((List.range (m + 1)).drop (m + 1)).flatMap _ = _
        rw [List.drop_eq_nil_of_le (by rw [List.length_range]; exact Nat.le_refl _)]; rfl
      refine ⟨_, zss_one (zs_if (t := zNo) (fun A s0 H0 aw => qT A s0 H0 aw) zss_no (zss_one (zs_for ok (i := 2) (fun A s0 H0 aw => pif_range1 rfl T.z_range (qA A s0 H0 aw)) gsc_stairs.nd rfl rfl (zss_one (zs_forG ok (i := 3) (k := 2 * n) (fun A s0 H0 aw => pgx_call ih ((aw.room.mono (by show 2 * n + 1 ≤ 2 * (n + 1); omega)).deeper _) rfl T.d_stairs.mgf T.d_stairs.kp T.b_stairs .nil (qA A s0 H0 aw)) (by show 2 * n + 2 ≤ 2 * (n + 1); omega) gsc_stairs.nd rfl rfl fun pg => zss_one (zs_yield ok fun A s0 H0 aw => qE A s0 H0 aw)))))), fun H => oT (b := false) (fun A s0 H0 aw => EvT.is (t_eq (v := .int ((n + 1 : Nat) : Int)) (w := .int 0) (x_var (P := isI ((n + 1 : Nat) : Int)) 0 rfl rfl) x_int) (decide_eq_false fun z => by have := V.int.inj z; omega)) fun H2 e2 => ?_⟩
      refine oA (Ps := [isI ((m + 1 : Nat) : Int)]) (fun A s0 H0 aw => a_cons (EvE.is (x_add (x_var (P := isI m) 1 rfl rfl) x_int) (by congr 1)) a_nil) fun vs H3 e3 hvs => ?_
      refine ⟨_, (Alls.isv (xs := [.int ((m + 1 : Nat) : Int)])).mp hvs, by omega, by omega, ?_⟩
      refine ⟨fun j l its H0 σ H' => l = m + 1 - j ∧ j ≤ m + 1 ∧ (∃ y z, σ = [some (.int ((n + 1 : Nat) : Int)), some (.int m), y, z]) ∧ its = RR j ∧ Ex H0 H', ⟨m + 1, by omega, by omega, ⟨none, none, rfl⟩, r0, e2.trans e3⟩, ?_⟩
      rintro j l its H0 σ H' ⟨rfl, hj, ⟨y, z, rfl⟩, rfl, ex⟩
      by_cases hlt : j < m + 1
      · refine .inr ⟨by show j < ((m + 1 : Nat) : Int).toNat; omega, fun x H5 ⟨eh, ev⟩ => ?_⟩
        subst eh
        have ev : x = .int j := by rw [ev]; congr 1; omega
        subst ev
        refine oA (Ps := [isI (n : Int), isI (j : Int)]) (fun A s0 H0 aw => a_cons (EvE.is (x_sub (x_var (P := isI ((n + 1 : Nat) : Int)) 0 rfl rfl) x_int) (by congr 1; omega)) (a_cons (x_var (P := isI (j : Int)) 2 rfl rfl) a_nil)) fun vs H6 e6 hvs => ?_
        refine ⟨_, ⟨j, by rw [List.append_nil]; exact (Alls.isv (xs := [.int n, .int j])).mp hvs, by omega, rfl⟩, ?_⟩
        refine ⟨fun jts its H0 σ H' => ∃ ls : List (List Int), jts = ls.map (fun l => (isT K l).p) ∧ its = ls.map (fun r => (isT K ((j : Int) :: r)).p) ++ RR (j + 1) ∧ (∃ z, σ = [some (.int ((n + 1 : Nat) : Int)), some (.int m), some (.int j), z]) ∧ Ex H0 H' ∧ ∀ l ∈ ls, l.length ≤ 100, ⟨stairsL n j, rfl, rS j hlt, ⟨z, rfl⟩, ex.trans e6, fun l hl => by rw [(MR.mem_stairs.mp hl).1]; omega⟩, ?_, ?_⟩
        · rintro its H0 σ H7 H8 ⟨ls, h1, rfl, ⟨z, rfl⟩, ex, _⟩ e8
          obtain rfl : ls = [] := by cases ls with
            | nil => rfl
            | cons a b => cases h1
          exact ⟨m + 1 - (j + 1), by omega, rfl, hlt, ⟨_, z, rfl⟩, rfl, ex.trans e8⟩
        · rintro Pi rest its H0 σ H7 ⟨ls, h1, rfl, ⟨z, rfl⟩, ex, hls⟩ x H8 e8 hx
          cases ls with
          | nil => cases h1
          | cons l ls =>
            rw [List.map_cons] at h1
            obtain ⟨h1, h2⟩ := List.cons.inj h1
            subst h1
            refine oE (P := isT K ((j : Int) :: l)) (fun A s0 H0 aw => ?_) fun v H9 e9 hv => ⟨_, ls.map (fun r => (isT K ((j : Int) :: r)).p) ++ RR (j + 1), rfl, hv, (ex.trans e8).trans e9, fun H2 => ⟨ls, h2, rfl, ⟨_, rfl⟩, Ex.refl _, fun l' hl' => hls l' (List.mem_cons_of_mem _ hl')⟩⟩
            have e : ((j : Int) :: l).map (fun i => isI i) = isI (j : Int) :: ((l.map fun i => isI i) ++ []) := by rw [List.append_nil]; rfl
            show EvE _ _ _ _ (tupP K _)
            rw [e]
            have hll := hls l List.mem_cons_self
            exact x_tup (a_cons (x_var (P := isI (j : Int)) 2 rfl rfl) (a_starT (x_var (P := isT K l) 3 rfl hx) a_nil)) (by simp; omega)
      · have : j = m + 1 := by omega
        subst this
        exact .inl ⟨by show ((m + 1 : Nat) : Int).toNat ≤ m + 1; omega, rE, ex⟩
def zS (G : GE) (st : Stmt) : TS := fun D σ H => ∀ A s0 H0, Awk G A s0 H0 → wS (G.cx A s0 H0) st D σ H
theorem qS {G : GE} {st : Stmt} : ∀ A s0 H0, Awk G A s0 H0 → PS (G.cx A s0 H0) st (zS G st) := fun A s0 H0 aw => ⟨fun pins s _ _ _ I h => h A s0 H0 aw pins s I⟩
theorem s_expr {X : Cx} {e : Expr} {σ : L2.St} {H : Hp} {P : Wd} {D : Ends} {pos : Pos} (h : EvE X e σ H P) (q : ∀ v H1, Ex H H1 → P v H1 → D.nx σ H1) (hs : swapsWith e none pos.line X.env = pure false := by rfl) : wS X (.Expr e pos) D σ H :=
  ofS (ps_expr rE hs) (h H (Ex.refl _) _ fun v H1 e1 hv => q v H1 e1 hv)
def spWords (K : PySem.W.Frag) (C : Addr) : SpZ := fun vs its => ∃ (pat : List Bool) (p : Nat), vs = [.str (pstr pat), .int p] ∧ pat.length ≤ 6 ∧ p ≤ pat.length ∧ its = (stairsL (p + 1) ((pat.length : Int) - p + 1)).map fun s => (isW K C (wordOf pat p s)).p
theorem gsc_words : GScope ["pattern", "place", "steps"] ["pattern", "place"] (C8.fnScope (top 44)) := ⟨rfl, rfl, rfl, by decide +kernel, rfl, by decide +kernel, by decide +kernel⟩
theorem ok_words (T : Fx K w mg) : GFnZ P w K mg base 110 T.f_plain_words T.fd_plain_words ["pattern", "place"] (spWords K T.C) := by
  obtain ⟨oc, od, dV, kV, doc, pm, an, cdv, ct, osl, hfd, lk, hcd⟩ := T.d_plain_words.fn.ex
  rw [hfd] at lk ⊢
  refine gfnz_of lk hcd gsc_words (fun _ => by rfl) (look_all (by decide +kernel)) (fun vs its ⟨_, _, e, _⟩ => by rw [e]; rfl) fun outer n0 g vs its ok hsp => ?_
  obtain ⟨pat, p, rfl, hl, hp, rfl⟩ := hsp
  have hln : (pstr pat).length ≤ 1000 := by rw [pstr_len]; omega
  have room : ∀ {A : Around} {s0 : Shared} {H0 : Hp}, Awk ⟨P, w, K, mg, base, ["pattern", "place", "steps"], "plain_words", C8.fnScope (top 44), T.f_plain_words, cdv, outer, n0, g, 110⟩ A s0 H0 → Room 109 (A.deeper (GE.env ⟨P, w, K, mg, base, ["pattern", "place", "steps"], "plain_words", C8.fnScope (top 44), T.f_plain_words, cdv, outer, n0, g, 110⟩)) := fun aw => aw.room.deeper _
  refine ⟨_, zss_cons (zs_ps fun A s0 H0 aw => qS A s0 H0 aw) (zss_one (zs_forG ok (i := 2) (k := 2 * (p + 1)) (fun A s0 H0 aw => pgx_call (ok_stairs T (p + 1) (by omega)) ((room aw).mono (by omega)) rfl T.d_stairs.mgf T.d_stairs.kp T.b_stairs .nil (qA A s0 H0 aw)) (by show 2 * (p + 1) + 2 ≤ 110; omega) gsc_words.nd rfl rfl fun pg => zss_one (zs_yield ok fun A s0 H0 aw => qE A s0 H0 aw))), fun H => ?_⟩
  intro A s0 H0 aw
  refine s_expr (x_cal (P := isN) (ok_npo T) (room aw) (a_cons (x_var (P := isS (pstr pat)) 0 rfl rfl) (a_cons (x_var (P := isI p) 1 rfl rfl) a_nil)) fun vs H1 _ hv => ⟨pat, p, (Alls.isv (xs := [.str (pstr pat), .int p])).mp hv, hl, hp, rfl⟩) fun v H2 e2 hv => ?_
  refine oA (Ps := [isI ((p + 1 : Nat) : Int), isI ((pat.length - p + 1 : Nat) : Int)]) (fun A s0 H0 aw => a_cons (EvE.is (x_add (x_var (P := isI p) 1 rfl rfl) x_int) (by congr 1)) (a_cons (EvE.is (x_add (x_sub (x_lenS T.z_len (x_var (P := isS (pstr pat)) 0 rfl rfl) hln) (x_var (P := isI p) 1 rfl rfl)) x_int) (by congr 1; rw [pstr_len]; omega)) a_nil)) fun vs H3 e3 hvs => ?_
  refine ⟨_, ⟨pat.length - p + 1, by rw [List.append_nil]; exact (Alls.isv (xs := [.int ((p + 1 : Nat) : Int), .int ((pat.length - p + 1 : Nat) : Int)])).mp hvs, by omega, rfl⟩, ?_⟩
  have hce : (((pat.length - p + 1 : Nat) : Int)) = (pat.length : Int) - p + 1 := by omega
  rw [hce]
  refine ⟨fun jts its H0 σ H' => ∃ ls : List (List Int), jts = ls.map (fun l => (isT K l).p) ∧ its = ls.map (fun s => (isW K T.C (wordOf pat p s)).p) ∧ (∃ z, σ = [some (.str (pstr pat)), some (.int p), z]) ∧ Ex H0 H' ∧ ∀ l ∈ ls, l ∈ stairsL (p + 1) ((pat.length : Int) - p + 1), ⟨_, rfl, rfl, ⟨none, rfl⟩, e2.trans e3, fun l hl => hl⟩, ?_, ?_⟩
  · rintro its H0 σ H7 H8 ⟨ls, h1, rfl, ⟨z, rfl⟩, ex, _⟩ e8
    obtain rfl : ls = [] := by cases ls with
      | nil => rfl
      | cons a b => cases h1
    exact ⟨rfl, ex.trans e8⟩
  · rintro Pi rest its H0 σ H7 ⟨ls, h1, rfl, ⟨z, rfl⟩, ex, hls⟩ x H8 e8 hx
    cases ls with
    | nil => cases h1
    | cons l ls =>
      rw [List.map_cons] at h1
      obtain ⟨h1, h2⟩ := List.cons.inj h1
      subst h1
      refine oE (P := isW K T.C (wordOf pat p l)) (fun A s0 H0 aw => x_cal (ok_wordof T) (room aw) (a_cons (x_var (P := isS (pstr pat)) 0 rfl rfl) (a_cons (x_var (P := isI p) 1 rfl rfl) (a_cons (x_var (P := isT K l) 2 rfl hx) a_nil))) fun vs H9 _ hvs => ?_) fun v H9 e9 hv => ⟨_, ls.map (fun s => (isW K T.C (wordOf pat p s)).p), rfl, hv, (ex.trans e8).trans e9, fun H2 => ⟨ls, h2, rfl, ⟨_, rfl⟩, Ex.refl _, fun l' hl' => hls l' (List.mem_cons_of_mem _ hl')⟩⟩
      obtain ⟨a, b, c, rfl, ha, hb, hc⟩ := Alls.three hvs
      cases ha; cases hb
      exact ⟨pat, p, l, c, rfl, hc, hl, hp, hls l List.mem_cons_self, rfl⟩
end
end WK
end
section
set_option maxRecDepth 100000
set_option maxHeartbeats 1000000
namespace WK
open PySem PySem.Spec PyProof.Rows L2 FU
open Evl (Ex)
open MR (W Wf textW brk mkW inB ar bth eds birthsL endsL rowN stairW lws rws corner wordOf woGo nL nR stairsL plainW)

section
variable {P : Program} {w : World} {K : PySem.W.Frag} {mg : Str → Option Value} {base : Heap}
/-! ### the law's own look: simple numbers -/
def choose' : Nat → Nat → Int
  | 0, _ => 1
  | t + 1, m => choose' t m * ((m : Int) - t) / (t + 1)
theorem choose_small : ∀ m < 9, ∀ t < 9, -100000 ≤ choose' t m ∧ choose' t m ≤ 100000 := by decide
def ctChoices : Ct := fun vs H P => ∃ m n : Nat, vs = [.int m, .int n] ∧ n ≤ 8 ∧ m ≤ 8 ∧ P = isI (choose' n m)
theorem sc_choices : FnScope ["_law_many", "_law_few", "_law_found", "_law_k"] ["_law_many", "_law_few"] (C8.fnScope (top 61)) := C8.fnScope_by (by decide +kernel)
theorem ok_choices (T : Fx K w mg) : C8.Cal P w K mg base 1 "_law_choices" (spC ctChoices) [] := by
  refine cal_of (k := 0) T.d_law_choices T.b_law_choices .nil sc_choices (fun vs H W ⟨_, _, e, _⟩ => by rw [e]; rfl) fun cdv A outer s H vs Q E W hr hC hQ => ?_
  obtain ⟨m, n, rfl, hn, hm, rfl⟩ := hC
  refine c_asg (k := 2) (P := isI 1) x_int (fun v H1 e1 hv => ?_) sc_choices.nd
  cases hv
  refine c_for (k := 3) (src_r1 (x_var (P := isI n) 1 rfl rfl) (by omega) T.z_range) (fun H3 i σ' H' => (∃ z, σ' = [some (.int m), some (.int n), some (.int (choose' i m)), z]) ∧ Ex H3 H') (fun H3 e3 => ⟨⟨none, rfl⟩, Ex.refl _⟩) (fun _ _ _ _ h => h.2) (fun H3 i z σ' H' e3 hz h b H4 e4 hb => ?_) (fun H3 σ' H' e3 h => ?_) sc_choices.nd
  · obtain ⟨⟨z0, rfl⟩, e5⟩ := h
    obtain ⟨rfl, hi⟩ := range_get hz
    have hb : b = .int z := hb
    subst hb
    have hs := choose_small m (by omega) z (by omega)
    refine c_asg (k := 2) (P := isI (choose' (z + 1) m)) (EvE.is (x_fdiv (x_mul (x_var (P := isI (choose' z m)) 2 rfl rfl) (x_sub (x_var (P := isI m) 0 rfl rfl) (x_var (P := isI z) 3 rfl rfl)) (.inl ⟨by omega, by omega⟩)) (x_add (x_var (P := isI z) 3 rfl rfl) x_int) ⟨by omega, by omega⟩) rfl) (fun v5 H5 e6 h5 => ?_) sc_choices.nd
    cases h5
    exact c_nil ⟨⟨_, rfl⟩, (e5.trans e4).trans e6⟩
  · obtain ⟨⟨z0, rfl⟩, e5⟩ := h
    rw [List.length_range]
    exact c_ret (x_var (P := isI (choose' n m)) 2 rfl rfl) fun v6 H6 e6 h6 => hQ v6 H6 (((e1.trans e3).trans e5).trans e6) h6

/-! ### shapes -/
def isSh (K : PySem.W.Frag) : W → Wd
  | .leaf b p => tupP K [isS (sgn (.leaf b p)), isI p]
  | .rt u => tupP K [isS "right", isSh K u]
  | .lf u => tupP K [isS "left", isSh K u]
  | .add x y => tupP K [isS "+", isSh K x, isSh K y]
  | .meet x y => tupP K [isS "&", isSh K x, isSh K y]
theorem nl_isSh {K : PySem.W.Frag} : ∀ u : W, NL (isSh K u)
  | .leaf b p => nl_tupP fun P hP => by
    simp at hP
    rcases hP with rfl | rfl <;> exact nl_isv
  | .rt u => nl_tupP fun P hP => by
    simp at hP
    rcases hP with rfl | rfl
    · exact nl_isv
    · exact nl_isSh u
  | .lf u => nl_tupP fun P hP => by
    simp at hP
    rcases hP with rfl | rfl
    · exact nl_isv
    · exact nl_isSh u
  | .add x y => nl_tupP fun P hP => by
    simp at hP
    rcases hP with rfl | rfl | rfl
    · exact nl_isv
    · exact nl_isSh x
    · exact nl_isSh y
  | .meet x y => nl_tupP fun P hP => by
    simp at hP
    rcases hP with rfl | rfl | rfl
    · exact nl_isv
    · exact nl_isSh x
    · exact nl_isSh y
def shPs (K : PySem.W.Frag) : W → List Wd
  | .leaf b p => [isS (sgn (.leaf b p)), isI p]
  | .rt u => [isS "right", isSh K u]
  | .lf u => [isS "left", isSh K u]
  | .add x y => [isS "+", isSh K x, isSh K y]
  | .meet x y => [isS "&", isSh K x, isSh K y]
theorem sh_tup {K : PySem.W.Frag} (u : W) : isSh K u = tupP K (shPs K u) := by cases u <;> rfl
theorem sh_0 {K : PySem.W.Frag} (u : W) : (shPs K u)[0]? = some (isS (sgn u)) := by cases u <;> rfl
section
variable {X : Cx} {σ : L2.St} {H : Hp} {a b : Expr} {pos : Pos} {u : W}
theorem x_sh0 {k0 : Nat} {cp : Pos} (h : EvE X a σ H (isSh X.K u)) : EvE X (.Subscript a (.Constant (.int 0) k0 cp) pos) σ H (isS (sgn u)) := x_ixT (k := 0) (Ps := shPs X.K u) (by rw [← sh_tup]; exact h) x_int (sh_0 u)
theorem x_sh1 {k0 : Nat} {cp : Pos} {P : Wd} (hP : (shPs X.K u)[1]? = some P) (h : EvE X a σ H (isSh X.K u)) : EvE X (.Subscript a (.Constant (.int 1) k0 cp) pos) σ H P := x_ixT (k := 1) (Ps := shPs X.K u) (by rw [← sh_tup]; exact h) x_int hP
theorem x_sh2 {k0 : Nat} {cp : Pos} {P : Wd} (hP : (shPs X.K u)[2]? = some P) (h : EvE X a σ H (isSh X.K u)) : EvE X (.Subscript a (.Constant (.int 2) k0 cp) pos) σ H P := x_ixT (k := 2) (Ps := shPs X.K u) (by rw [← sh_tup]; exact h) x_int hP
end

/-! ### the law's place of a shape -/
def ctLPlace (K : PySem.W.Frag) (n : Nat) : Ct := fun vs H P => ∃ (u : W) (v : V), vs = [v] ∧ isSh K u v H ∧ u.depth ≤ n ∧ P = isI u.place
theorem sc_lplace : FnScope ["_law_shape_here"] ["_law_shape_here"] (C8.fnScope (top 52)) := C8.fnScope_by (by decide +kernel)
def delta (u : W) : Int := match u with
  | .rt _ => 1
  | .lf _ => -1
  | _ => 0
theorem room_u {k : Nat} {A : Around} (h : Room k A) : A.units + 1 < cLine := by have := h.un; omega
theorem delta_val (u : W) : (valV [((.inr "right" : Key), V.int 1), (.inr "left", V.int (-1))] (.inr (sgn u))).getD (.int 0) = .int (delta u) := by
  cases u with
  | leaf b p =>
    cases b
    · exact (by decide +kernel : (valV [((.inr "right" : Key), V.int 1), (.inr "left", V.int (-1))] (.inr "0")).getD (.int 0) = .int 0)
    · exact (by decide +kernel : (valV [((.inr "right" : Key), V.int 1), (.inr "left", V.int (-1))] (.inr "1")).getD (.int 0) = .int 0)
  | rt u => exact (by decide +kernel : (valV [((.inr "right" : Key), V.int 1), (.inr "left", V.int (-1))] (.inr "right")).getD (.int 0) = .int 1)
  | lf u => exact (by decide +kernel : (valV [((.inr "right" : Key), V.int 1), (.inr "left", V.int (-1))] (.inr "left")).getD (.int 0) = .int (-1))
  | add x y => exact (by decide +kernel : (valV [((.inr "right" : Key), V.int 1), (.inr "left", V.int (-1))] (.inr "+")).getD (.int 0) = .int 0)
  | meet x y => exact (by decide +kernel : (valV [((.inr "right" : Key), V.int 1), (.inr "left", V.int (-1))] (.inr "&")).getD (.int 0) = .int 0)
theorem sh_part (u : W) (h : isLeaf u = false) : ∃ q, q ∈ u.parts ∧ (∀ K : PySem.W.Frag, (shPs K u)[1]? = some (isSh K q)) ∧ u.place = q.place + delta u := by
  cases u with
  | leaf b p => cases h
  | rt u => exact ⟨u, by simp [W.parts], fun _ => rfl, rfl⟩
  | lf u => exact ⟨u, by simp [W.parts], fun _ => rfl, by simp [W.place, delta]; omega⟩
  | add x y => exact ⟨x, by simp [W.parts], fun _ => rfl, by simp [W.place, delta]⟩
  | meet x y => exact ⟨x, by simp [W.parts], fun _ => rfl, by simp [W.place, delta]⟩
theorem isL_leaf {u : W} (h : isLeaf u = true) : ∃ t p, u = .leaf t p := by cases u <;> first | exact ⟨_, _, rfl⟩ | cases h
theorem ok_lplace (T : Fx K w mg) : ∀ n : Nat, C8.Cal P w K mg base (n + 1) "_law_place" (spC (ctLPlace K n)) [] := by
  intro n
  induction n with
  | zero =>
    refine cal_of T.d_law_place T.b_law_place .nil sc_lplace (fun vs H W ⟨_, _, e, _⟩ => by rw [e]; rfl) fun cdv A outer s H vs Q E W hr hC hQ => ?_
    obtain ⟨u, v, rfl, hu, hd, rfl⟩ := hC
    obtain ⟨t, p, rfl⟩ : ∃ b p, u = .leaf b p := by cases u <;> simp [W.depth] at hd; exact ⟨_, _, rfl⟩
    refine c_if (b' := true) (EvT.is (t_inL (v := .str (sgn (.leaf t p))) (xs := [.str "0", .str "1"]) (x_sh0 (x_var (P := isSh K (.leaf t p)) 0 rfl hu)) (x_lst (a_cons x_str (a_cons x_str a_nil)))) (in_01 _)) (fun _ H1 e1 => ?_) fun z => by cases z
    exact c_ret (x_sh1 (u := .leaf t p) rfl (x_var (P := isSh K (.leaf t p)) 0 rfl ((isSh K (.leaf t p)).st e1 hu))) fun v H2 e2 hv => hQ v H2 (e1.trans e2) hv
  | succ n ih =>
    refine cal_of (k := n + 1) T.d_law_place T.b_law_place .nil sc_lplace (fun vs H W ⟨_, _, e, _⟩ => by rw [e]; rfl) fun cdv A outer s H vs Q E W hr hC hQ => ?_
    obtain ⟨u, v, rfl, hu, hd, rfl⟩ := hC
    refine c_if (b' := isLeaf u) (EvT.is (t_inL (v := .str (sgn u)) (xs := [.str "0", .str "1"]) (x_sh0 (x_var (P := isSh K u) 0 rfl hu)) (x_lst (a_cons x_str (a_cons x_str a_nil)))) (in_01 _)) (fun hlf H1 e1 => ?_) fun hlf H1 e1 => ?_
    · obtain ⟨t, p, rfl⟩ := isL_leaf hlf
      exact c_ret (x_sh1 (u := .leaf t p) rfl (x_var (P := isSh K (.leaf t p)) 0 rfl ((isSh K (.leaf t p)).st e1 hu))) fun v H2 e2 hv => hQ v H2 (e1.trans e2) hv
    · obtain ⟨q, hq, hsh, hpl⟩ := sh_part u hlf
      have hu1 := (isSh K u).st e1 hu
      refine c_nil (c_ret (EvE.is (x_add (i := q.place) (j := delta u) (x_cal ih hr (a_cons (x_sh1 (hsh _) (x_var (P := isSh K u) 0 rfl hu1)) a_nil) fun vs H2 _ hvs => ?_) ?_) (by rw [hpl])) fun v H2 e2 hv => hQ v H2 (e1.trans e2) hv)
      · obtain ⟨a, rfl, ha⟩ := Alls.one hvs
        exact ⟨q, a, rfl, ha, by have := parts_depth hq; omega, rfl⟩
      · refine EvE.is (x_dget2 (kvs := [((.inr "right" : Key), V.int 1), (.inr "left", V.int (-1))]) (k := .inr (sgn u)) (room_u hr) (x_disp2 (k1 := .inr "right") (k2 := .inr "left") (v1 := .int 1) (v2 := .int (-1)) x_str x_int x_str (x_neg x_int) (by decide +kernel)) (x_sh0 (x_var (P := isSh K u) 0 rfl hu1)) (x_int (i := 0)) ⟨rfl, rfl, rfl, rfl⟩) (delta_val u)
end
end WK
end
section
set_option maxRecDepth 100000
set_option maxHeartbeats 1000000
namespace WK
open PySem PySem.Spec PyProof.Rows L2 FU
open Evl (Ex)
open MR (W Wf textW brk mkW inB ar bth eds birthsL endsL rowN stairW lws rws corner wordOf woGo nL nR stairsL plainW)

section
variable {P : Program} {w : World} {K : PySem.W.Frag} {mg : Str → Option Value} {base : Heap}
/-! ### the law's word of a shape -/
def ctLWord (K : PySem.W.Frag) (C : Addr) (n : Nat) : Ct := fun vs H P => ∃ (u : W) (v : V), vs = [v] ∧ isSh K u v H ∧ u.depth ≤ n ∧ Wf 6 u ∧ P = isW K C u
theorem sc_lword : FnScope ["_law_shape_here"] ["_law_shape_here"] (C8.fnScope (top 53)) := C8.fnScope_by (by decide +kernel)
theorem s_ne {a b : Str} (h : decide (a = b) = false) : decide (V.str a = V.str b) = false := decide_eq_false fun z => by rw [V.str.inj z] at h; simp at h
theorem ok_lword (T : Fx K w mg) : ∀ n : Nat, C8.Cal P w K mg base (n + 5) "_law_word" (spC (ctLWord K T.C n)) [] := by
  intro n
  induction n with
  | zero =>
    refine cal_of (k := 4) T.d_law_word T.b_law_word .nil sc_lword (fun vs H W ⟨_, _, e, _⟩ => by rw [e]; rfl) fun cdv A outer s H vs Q E W hr hC hQ => ?_
    obtain ⟨u, v, rfl, hu, hd, hw, rfl⟩ := hC
    cases u with
    | leaf t p =>
      cases t
      · refine c_if (b' := true) (EvT.is (t_eq (v := .str "0") (w := .str "0") (x_sh0 (u := .leaf false p) (x_var (P := isSh K (.leaf false p)) 0 rfl hu)) x_str) (decide_eq_true rfl)) (fun _ H9 e9 => ?_) fun z => nomatch z
        have h9 := (isSh K (.leaf false p)).st e9 hu
        exact c_ret (x_cmeth (P := isW K T.C (.leaf false p)) (ok_none T) hr (x_glob T.mC rfl) (a_cons (x_sh1 (u := .leaf false p) (P := isI p) rfl (x_var (P := isSh K (.leaf false p)) 0 rfl h9)) a_nil) fun vs H7 _ hv => ⟨p, congrArg _ ((Alls.isv (xs := [.int p])).mp hv), hw.1, hw.2, rfl⟩) fun v8 H8 e8 h8 => hQ v8 H8 (e9.trans e8) h8
      · refine c_skip (t_eq (v := .str "1") (w := .str "0") (x_sh0 (u := .leaf true p) (x_var (P := isSh K (.leaf true p)) 0 rfl hu)) x_str) (fun H1 e1 => ?_) (s_ne (by decide +kernel))
        have h1 := (isSh K (.leaf true p)).st e1 hu
        refine c_if (b' := true) (EvT.is (t_eq (v := .str "1") (w := .str "1") (x_sh0 (u := .leaf true p) (x_var (P := isSh K (.leaf true p)) 0 rfl h1)) x_str) (decide_eq_true rfl)) (fun _ H9 e9 => ?_) fun z => nomatch z
        have h9 := (isSh K (.leaf true p)).st e9 h1
        exact c_ret (x_cmeth (P := isW K T.C (.leaf true p)) (ok_whole T) hr (x_glob T.mC rfl) (a_cons (x_sh1 (u := .leaf true p) (P := isI p) rfl (x_var (P := isSh K (.leaf true p)) 0 rfl h9)) a_nil) fun vs H7 _ hv => ⟨p, congrArg _ ((Alls.isv (xs := [.int p])).mp hv), hw.1, hw.2, rfl⟩) fun v8 H8 e8 h8 => hQ v8 H8 ((e1.trans e9).trans e8) h8
    | rt u =>
      simp [W.depth] at hd
    | lf u =>
      simp [W.depth] at hd
    | add x y =>
      simp [W.depth] at hd
    | meet x y =>
      simp [W.depth] at hd
  | succ n ih =>
    refine cal_of (k := n + 5) T.d_law_word T.b_law_word .nil sc_lword (fun vs H W ⟨_, _, e, _⟩ => by rw [e]; rfl) fun cdv A outer s H vs Q E W hr hC hQ => ?_
    obtain ⟨u, v, rfl, hu, hd, hw, rfl⟩ := hC
    cases u with
    | leaf t p =>
      cases t
      · refine c_if (b' := true) (EvT.is (t_eq (v := .str "0") (w := .str "0") (x_sh0 (u := .leaf false p) (x_var (P := isSh K (.leaf false p)) 0 rfl hu)) x_str) (decide_eq_true rfl)) (fun _ H9 e9 => ?_) fun z => nomatch z
        have h9 := (isSh K (.leaf false p)).st e9 hu
        exact c_ret (x_cmeth (P := isW K T.C (.leaf false p)) (ok_none T) hr (x_glob T.mC rfl) (a_cons (x_sh1 (u := .leaf false p) (P := isI p) rfl (x_var (P := isSh K (.leaf false p)) 0 rfl h9)) a_nil) fun vs H7 _ hv => ⟨p, congrArg _ ((Alls.isv (xs := [.int p])).mp hv), hw.1, hw.2, rfl⟩) fun v8 H8 e8 h8 => hQ v8 H8 (e9.trans e8) h8
      · refine c_skip (t_eq (v := .str "1") (w := .str "0") (x_sh0 (u := .leaf true p) (x_var (P := isSh K (.leaf true p)) 0 rfl hu)) x_str) (fun H1 e1 => ?_) (s_ne (by decide +kernel))
        have h1 := (isSh K (.leaf true p)).st e1 hu
        refine c_if (b' := true) (EvT.is (t_eq (v := .str "1") (w := .str "1") (x_sh0 (u := .leaf true p) (x_var (P := isSh K (.leaf true p)) 0 rfl h1)) x_str) (decide_eq_true rfl)) (fun _ H9 e9 => ?_) fun z => nomatch z
        have h9 := (isSh K (.leaf true p)).st e9 h1
        exact c_ret (x_cmeth (P := isW K T.C (.leaf true p)) (ok_whole T) hr (x_glob T.mC rfl) (a_cons (x_sh1 (u := .leaf true p) (P := isI p) rfl (x_var (P := isSh K (.leaf true p)) 0 rfl h9)) a_nil) fun vs H7 _ hv => ⟨p, congrArg _ ((Alls.isv (xs := [.int p])).mp hv), hw.1, hw.2, rfl⟩) fun v8 H8 e8 h8 => hQ v8 H8 ((e1.trans e9).trans e8) h8
    | rt u =>
      refine c_skip (t_eq (v := .str "right") (w := .str "0") (x_sh0 (u := .rt u) (x_var (P := isSh K (.rt u)) 0 rfl hu)) x_str) (fun H1 e1 => ?_) (s_ne (by decide +kernel))
      have h1 := (isSh K (.rt u)).st e1 hu
      refine c_skip (t_eq (v := .str "right") (w := .str "1") (x_sh0 (u := .rt u) (x_var (P := isSh K (.rt u)) 0 rfl h1)) x_str) (fun H2 e2 => ?_) (s_ne (by decide +kernel))
      have h2 := (isSh K (.rt u)).st e2 h1
      refine c_if (b' := true) (EvT.is (t_eq (v := .str "right") (w := .str "right") (x_sh0 (u := .rt u) (x_var (P := isSh K (.rt u)) 0 rfl h2)) x_str) (decide_eq_true rfl)) (fun _ H9 e9 => ?_) fun z => nomatch z
      have h9 := (isSh K (.rt u)).st e9 h2
      exact c_ret (x_wmet0 (u := u) (P := isW K T.C (.rt u)) (ok_right T) hr (x_cal (P := isW K T.C u) ih hr (a_cons (x_sh1 (u := .rt u) (P := isSh K u) rfl (x_var (P := isSh K (.rt u)) 0 rfl h9)) a_nil) fun vs H7 _ hvs => by obtain ⟨a, rfl, ha⟩ := Alls.one hvs; exact ⟨u, a, rfl, ha, by simp [W.depth] at hd; omega, hw.1, rfl⟩) fun v H7 _ hv => ⟨u, v, rfl, hv, by have := Wf.pl hw.1; omega, hw.2, rfl⟩) fun v8 H8 e8 h8 => hQ v8 H8 (((e1.trans e2).trans e9).trans e8) h8
    | lf u =>
      refine c_skip (t_eq (v := .str "left") (w := .str "0") (x_sh0 (u := .lf u) (x_var (P := isSh K (.lf u)) 0 rfl hu)) x_str) (fun H1 e1 => ?_) (s_ne (by decide +kernel))
      have h1 := (isSh K (.lf u)).st e1 hu
      refine c_skip (t_eq (v := .str "left") (w := .str "1") (x_sh0 (u := .lf u) (x_var (P := isSh K (.lf u)) 0 rfl h1)) x_str) (fun H2 e2 => ?_) (s_ne (by decide +kernel))
      have h2 := (isSh K (.lf u)).st e2 h1
      refine c_skip (t_eq (v := .str "left") (w := .str "right") (x_sh0 (u := .lf u) (x_var (P := isSh K (.lf u)) 0 rfl h2)) x_str) (fun H3 e3 => ?_) (s_ne (by decide +kernel))
      have h3 := (isSh K (.lf u)).st e3 h2
      refine c_if (b' := true) (EvT.is (t_eq (v := .str "left") (w := .str "left") (x_sh0 (u := .lf u) (x_var (P := isSh K (.lf u)) 0 rfl h3)) x_str) (decide_eq_true rfl)) (fun _ H9 e9 => ?_) fun z => nomatch z
      have h9 := (isSh K (.lf u)).st e9 h3
      exact c_ret (x_wmet0 (u := u) (P := isW K T.C (.lf u)) (ok_left T) hr (x_cal (P := isW K T.C u) ih hr (a_cons (x_sh1 (u := .lf u) (P := isSh K u) rfl (x_var (P := isSh K (.lf u)) 0 rfl h9)) a_nil) fun vs H7 _ hvs => by obtain ⟨a, rfl, ha⟩ := Alls.one hvs; exact ⟨u, a, rfl, ha, by simp [W.depth] at hd; omega, hw.1, rfl⟩) fun v H7 _ hv => ⟨u, v, rfl, hv, by have := hw.2; omega, by have := Wf.pl hw.1; omega, rfl⟩) fun v8 H8 e8 h8 => hQ v8 H8 ((((e1.trans e2).trans e3).trans e9).trans e8) h8
    | add x y =>
      refine c_skip (t_eq (v := .str "+") (w := .str "0") (x_sh0 (u := .add x y) (x_var (P := isSh K (.add x y)) 0 rfl hu)) x_str) (fun H1 e1 => ?_) (s_ne (by decide +kernel))
      have h1 := (isSh K (.add x y)).st e1 hu
      refine c_skip (t_eq (v := .str "+") (w := .str "1") (x_sh0 (u := .add x y) (x_var (P := isSh K (.add x y)) 0 rfl h1)) x_str) (fun H2 e2 => ?_) (s_ne (by decide +kernel))
      have h2 := (isSh K (.add x y)).st e2 h1
      refine c_skip (t_eq (v := .str "+") (w := .str "right") (x_sh0 (u := .add x y) (x_var (P := isSh K (.add x y)) 0 rfl h2)) x_str) (fun H3 e3 => ?_) (s_ne (by decide +kernel))
      have h3 := (isSh K (.add x y)).st e3 h2
      refine c_skip (t_eq (v := .str "+") (w := .str "left") (x_sh0 (u := .add x y) (x_var (P := isSh K (.add x y)) 0 rfl h3)) x_str) (fun H4 e4 => ?_) (s_ne (by decide +kernel))
      have h4 := (isSh K (.add x y)).st e4 h3
      refine c_if (b' := true) (EvT.is (t_eq (v := .str "+") (w := .str "+") (x_sh0 (u := .add x y) (x_var (P := isSh K (.add x y)) 0 rfl h4)) x_str) (decide_eq_true rfl)) (fun _ H9 e9 => ?_) fun z => nomatch z
      have h9 := (isSh K (.add x y)).st e9 h4
      exact c_ret (P := isW K T.C (.add x y)) (x_binW (C := T.C) (ok_add T) T.sf hr (x_cal (P := isW K T.C x) ih hr (a_cons (x_sh1 (u := .add x y) (P := isSh K x) rfl (x_var (P := isSh K (.add x y)) 0 rfl h9)) a_nil) fun vs H7 _ hvs => by obtain ⟨a, rfl, ha⟩ := Alls.one hvs; exact ⟨x, a, rfl, ha, by simp [W.depth] at hd; omega, hw.1, rfl⟩) (x_cal (P := isW K T.C y) ih hr (a_cons (x_sh2 (u := .add x y) (P := isSh K y) rfl (x_var (P := isSh K (.add x y)) 0 rfl h9)) a_nil) fun vs H7 _ hvs => by obtain ⟨a, rfl, ha⟩ := Alls.one hvs; exact ⟨y, a, rfl, ha, by simp [W.depth] at hd; omega, hw.2.1, rfl⟩) fun a b H7 _ ha hb => ⟨isW.at' ha, isW.at' hb, ⟨x, y, a, b, rfl, ha, hb, hw.2.2, rfl⟩⟩) fun v8 H8 e8 h8 => hQ v8 H8 (((((e1.trans e2).trans e3).trans e4).trans e9).trans e8) h8
    | meet x y =>
      refine c_skip (t_eq (v := .str "&") (w := .str "0") (x_sh0 (u := .meet x y) (x_var (P := isSh K (.meet x y)) 0 rfl hu)) x_str) (fun H1 e1 => ?_) (s_ne (by decide +kernel))
      have h1 := (isSh K (.meet x y)).st e1 hu
      refine c_skip (t_eq (v := .str "&") (w := .str "1") (x_sh0 (u := .meet x y) (x_var (P := isSh K (.meet x y)) 0 rfl h1)) x_str) (fun H2 e2 => ?_) (s_ne (by decide +kernel))
      have h2 := (isSh K (.meet x y)).st e2 h1
      refine c_skip (t_eq (v := .str "&") (w := .str "right") (x_sh0 (u := .meet x y) (x_var (P := isSh K (.meet x y)) 0 rfl h2)) x_str) (fun H3 e3 => ?_) (s_ne (by decide +kernel))
      have h3 := (isSh K (.meet x y)).st e3 h2
      refine c_skip (t_eq (v := .str "&") (w := .str "left") (x_sh0 (u := .meet x y) (x_var (P := isSh K (.meet x y)) 0 rfl h3)) x_str) (fun H4 e4 => ?_) (s_ne (by decide +kernel))
      have h4 := (isSh K (.meet x y)).st e4 h3
      refine c_skip (t_eq (v := .str "&") (w := .str "+") (x_sh0 (u := .meet x y) (x_var (P := isSh K (.meet x y)) 0 rfl h4)) x_str) (fun H5 e5 => ?_) (s_ne (by decide +kernel))
      have h5 := (isSh K (.meet x y)).st e5 h4
      exact c_ret (P := isW K T.C (.meet x y)) (x_binW (C := T.C) (ok_and T) T.sf hr (x_cal (P := isW K T.C x) ih hr (a_cons (x_sh1 (u := .meet x y) (P := isSh K x) rfl (x_var (P := isSh K (.meet x y)) 0 rfl h5)) a_nil) fun vs H7 _ hvs => by obtain ⟨a, rfl, ha⟩ := Alls.one hvs; exact ⟨x, a, rfl, ha, by simp [W.depth] at hd; omega, hw.1, rfl⟩) (x_cal (P := isW K T.C y) ih hr (a_cons (x_sh2 (u := .meet x y) (P := isSh K y) rfl (x_var (P := isSh K (.meet x y)) 0 rfl h5)) a_nil) fun vs H7 _ hvs => by obtain ⟨a, rfl, ha⟩ := Alls.one hvs; exact ⟨y, a, rfl, ha, by simp [W.depth] at hd; omega, hw.2.1, rfl⟩) fun a b H7 _ ha hb => ⟨isW.at' ha, isW.at' hb, ⟨x, y, a, b, rfl, ha, hb, hw.2.2, rfl⟩⟩) fun v8 H8 e8 h8 => hQ v8 H8 (((((e1.trans e2).trans e3).trans e4).trans e5).trans e8) h8
end
end WK
end
section
set_option maxRecDepth 100000
set_option maxHeartbeats 1000000
namespace FU
open PySem PySem.Spec PyProof.Rows L2
open Evl (Ex)
/-! lists of one's own; texts turned round; joined texts -/
def ownP (Ps : List Wd) : Wd := ⟨fun v H => ∃ p xs, v = .ref p ∧ H p = some (.lst xs) ∧ Alls Ps xs H, fun e ⟨p, xs, h1, h2, h3⟩ => ⟨p, xs, h1, e _ _ h2, h3.ex e⟩⟩
theorem ownP.lst {K : PySem.W.Frag} {Ps : List Wd} {v : V} {H : Hp} (h : ownP Ps v H) : lstP K Ps v H := by
  obtain ⟨p, xs, e, h1, h2⟩ := h
  exact ⟨p, xs, e, Evl.sq_of h1, h2⟩
section
variable {X : Cx} {σ : L2.St} {H : Hp} {α : Type} {D : Ends} {rest body : List Stmt} {pos px p2 : Pos} {x : Str} {iter e a b : Expr} {es : List Expr} {Ps Qs : List Wd}
theorem x_lstO (h : EvA X es σ H Ps) (hl : Ps.length ≤ 100000 := by simp) : EvE X (.List es pos) σ H (ownP Ps) := .of (pe_lst rA) fun H1 e1 Q q => h H1 e1 _ fun vs H2 e2 hvs =>
  ⟨Evl.sz_of (by rw [hvs.len]; exact hl), fun p hp => q _ _ (e2.trans (Ex.new hp)) ⟨p, vs, rfl, upd_same, hvs.ex (Ex.new hp)⟩⟩
theorem x_catO (ha : EvE X a σ H (ownP Ps)) (hb : EvE X b σ H (ownP Qs)) (hc : Ps.length + Qs.length ≤ 100000) : EvE X (.BinOp a .Add b pos) σ H (ownP (Ps ++ Qs)) := x_op op_cat ha hb fun x y H1 _ ⟨p, xs, hx, hp, ax⟩ ⟨q', ys, hy, hp2, ay⟩ Q q => by
  subst hx hy
  exact ⟨p, q', xs, ys, rfl, rfl, hp, hp2, Evl.sz_of (by rw [ax.len, ay.len]; exact hc), fun t ht => q _ _ (Ex.new ht) ⟨t, xs ++ ys, rfl, upd_same, Alls.app (ax.ex (Ex.new ht)) (ay.ex (Ex.new ht))⟩⟩
theorem x_own (h : EvE X e σ H (ownP Ps)) : EvE X e σ H (lstP X.K Ps) := h.imp fun _ _ _ h => ownP.lst h
/-- the reading of a comprehension with one clause, its list one's own -/
theorem lc_readO {k : Nat} {scope : Scope} {elt : Expr} {zs : List α} {q p : α → Wd} {Q : VK} {H0 H1 : Hp} {wi : TI} (e0 : Ex H0 H1) (hw : ∀ H1, Ex H0 H1 → ∀ R : It → Hp → Prop, (∀ J H2, Ex H1 H2 → JOk J H2 zs q → R J H2) → wi σ H1 R) (hz : zs.length ≤ 40000) (hn : ∀ z ∈ zs, NL (p z))
    (he : ∀ z ∈ zs, ∀ y H2, Ex H0 H2 → q z y H2 → ∀ (s : Shared) (H0 : Hp) (C : Addr) (cl : List (Str × Addr)) (fp : List Addr), EvE (X.blk s H0 scope (compEnvC scope cl C X.env) fp) elt ((σ.set k none).set k (some y)) H2 (p z))
    (hq : ∀ v H2, Ex H1 H2 → ownP (zs.map p) v H2 → Q v H2) : tLc wi (gName k) tYes (wB X scope elt) [k] σ H1 Q := by
  refine hw H1 e0 _ fun J H2 e2 hJ => fun Dl hD => ?_
  have hwipe : ∀ y : V, wipe ((wipe σ [k]).set k (some y)) [k] = wipe σ [k] := fun y => by
    show ((σ.set k none).set k (some y)).set k none = σ.set k none
    simp
  refine ⟨fun i m H' => m = zs.length - i ∧ i ≤ zs.length ∧ Ex H2 H' ∧ ∃ acc, H' Dl = some (.lst acc) ∧ Alls ((zs.take i).map p) acc H', ⟨zs.length, by simp, Nat.zero_le _, Ex.new hD, [], upd_same, by simp [Alls]⟩, ?_⟩
  rintro i m H' ⟨rfl, hi, eH, acc, hacc, hal⟩
  obtain ⟨hgo, hstop⟩ := hJ H' eH
  by_cases hlt : i < zs.length
  · have hzi := List.getElem?_eq_getElem hlt
    obtain ⟨g1, g2⟩ := hgo i _ hzi
    have hmem : zs[i] ∈ zs := List.getElem_mem hlt
    refine .inr ⟨g1, fun H'' => Ex H2 H'' ∧ ∃ acc, H'' Dl = some (.lst acc) ∧ Alls ((zs.take (i + 1)).map p) acc H'', fun H'' p' => ⟨zs.length - (i + 1), by omega, rfl, hlt, p'⟩, fun y H3 hy => ?_⟩
    obtain ⟨e3, hq3⟩ := g2 y H3 hy
    refine ⟨hwipe y, ?_⟩
    show wB X scope elt ((σ.set k none).set k (some y)) H3 _
    intro s H0 C cl fp
    refine he _ hmem y H3 (((e0.trans e2).trans eH).trans e3) hq3 s H0 C cl fp H3 (Ex.refl _) _ fun v H4 e4 hv => ?_
    have hD4 : H4 Dl = some (.lst acc) := e4 _ _ (e3 _ _ hacc)
    have hlen := hal.len
    rw [List.length_map, List.length_take] at hlen
    refine ⟨acc, hD4, Evl.sz_lt (by omega), Ex.mut ((eH.trans e3).trans e4) hD, acc ++ [v], upd_same, ?_⟩
    rw [List.take_succ, hzi, List.map_append]
    refine Alls.app (Alls.exs (fun P hP => ?_) ((Exs.of (e3.trans e4)).trans (Exs.put hD4)) hal) ⟨hn _ hmem (Exs.put hD4) hv, trivial⟩
    obtain ⟨z, hz1, hz2⟩ := List.mem_map.mp hP
    subst hz2
    exact hn z (List.mem_of_mem_take hz1)
  · have e : i = zs.length := by omega
    subst e
    rw [List.take_length] at hal
    exact .inl ⟨hstop, hq _ H' (e2.trans eH) ⟨Dl, acc, rfl, hacc, hal⟩⟩
theorem x_lcO {k : Nat} {elt : Expr} {scope : Scope} {zs : List α} {q p : α → Wd} (h : Src X (.Name x px) iter σ H zs q) (hz : zs.length ≤ 40000) (hn : ∀ z ∈ zs, NL (p z))
    (he : ∀ z ∈ zs, ∀ y H2, Ex H H2 → q z y H2 → ∀ (s : Shared) (H0 : Hp) (C : Addr) (cl : List (Str × Addr)) (fp : List Addr), EvE (X.blk s H0 scope (compEnvC scope cl C X.env) fp) elt ((σ.set k none).set k (some y)) H2 (p z))
    (nd : X.N.Nodup) (ok : BlkOk X.N X.env.scope scope [(x, k)]) (hgx : ∀ (s : Shared) (H : Hp) (C : Addr) (cl : List (Str × Addr)) (fp : List Addr), L2.PG (X.blk s H scope (compEnvC scope cl C X.env) fp) (.Name x px) (gName k)) (hc : X.calm = true := by rfl) (hsi : ∀ y, foldedSetIterable iter X.env y = pure y := by intro _; rfl) :
    EvE X (.ListComp elt [⟨.Name x px, iter, [], 0⟩] scope pos) σ H (ownP (zs.map p)) := by
  obtain ⟨wi, hpi, hw⟩ := h.ex
  exact .of (pe_lc (own := [(x, k)]) (g := gName k) (tt := tYes) hc nd hpi ok hgx (fun _ _ _ _ _ => pts_nil) (fun s H C cl fp => rB s H C cl fp) hsi) fun H1 e1 Q hq => lc_readO e1 hw hz hn he hq
/-- sep.join(list of texts) -/
theorem x_joinL {sep : Str} {ys : List Str} {apos : Pos} (ho : EvE X a σ H (isS sep)) (he : EvE X e σ H (lstP X.K (ys.map fun y => isS y))) (hz : (ys.map (·.length)).sum + ys.length * sep.length ≤ 16777216) (hs : starEach [e] X.env = [(false, eval e X.env)] := by rfl) (hbase : attributeBase a "join" X.env (eval a X.env) = eval a X.env := by rfl) (hline : (apos.endLine == pos.line) = true := by rfl) :
    EvE X (.Call (.Attribute a "join" apos) [e] [] pos) σ H (isS (Txt.join sep ys)) := .of (pe_join rE rE hs hbase hline) fun H1 e1 Q q => ho H1 e1 _ fun v H2 e2 hv => ⟨⟨sep, hv⟩, he H2 (e1.trans e2) _ fun y H3 e3 ⟨p, xs, hy, hx, al⟩ => by
  have ev : (ys.map fun y => isS y) = (ys.map V.str).map isv := by rw [List.map_map]; rfl
  rw [ev] at al
  have := Alls.isv.mp al
  subst this hy
  exact ⟨sep, p, ys, hv, rfl, .inl hx, hz, q _ H3 (e2.trans e3) rfl⟩⟩
/-- z[::-1] -/
theorem rev_ix : ∀ n < 40, Builtin.Str.strSliceIndices none none (-1) n = (List.range n).reverse := by decide
theorem map_ix (l : List Nat) : (List.range l.length).filterMap (fun i => l[i]?) = l := by
  have : (List.range l.length).filterMap (fun i => l[i]?) = ((List.range l.length).map fun i => l[i]?).filterMap id := by rw [List.filterMap_map]; rfl
  rw [this]
  have h2 : (List.range l.length).map (fun i => l[i]?) = l.map some := by
    apply List.ext_getElem?
    intro i
    rw [List.getElem?_map, List.getElem?_map]
    by_cases h : i < l.length
    · rw [List.getElem?_range h]; simp [h]
    · rw [List.getElem?_eq_none (by rw [List.length_range]; omega), List.getElem?_eq_none (by omega)]; rfl
  rw [h2, List.filterMap_map]
  simp
theorem x_rev {z : Str} {k0 : Nat} {cp up : Pos} (ha : EvE X a σ H (isS z)) (hz : z.length < 40) : EvE X (.Subscript a (.Slice none none (some (.UnaryOp .USub (.Constant (.int 1) k0 cp) up)) p2) pos) σ H (isS ⟨z.cps.toList.reverse.toArray⟩) := fun H1 e1 Q q pins s I => by
  refine Subscript_ (thn (ha H1 e1 (fun v H2 => v = .str z ∧ Ex H1 H2) (fun v H2 e2 hv => ⟨hv, e2⟩) pins s I) fun v s1 ⟨x, H2, I2, r1, hx, e2⟩ => ?_)
  have hx : x = .str z := hx
  subst hx
  obtain ⟨t, rfl⟩ := r1
  have hm1 : EvE X (.UnaryOp .USub (.Constant (.int 1) k0 cp) up) σ H2 (isI (-1)) := .of (pe_un un_neg pe_int) fun H1 e1 Q q => ⟨1, rfl, q _ H1 (Ex.refl _) rfl⟩
  refine wpAny_Slice ?_
  rw [evalPart_none]
  refine wpAny_pure ?_
  refine wpAny_pure ?_
  rw [evalPart_some]
  refine thn (hm1 H2 (Ex.refl _) (fun v H3 => v = .int (-1) ∧ Ex H2 H3) (fun v H3 e3 hv => ⟨hv, e3⟩) pins s1 I2) fun u s2 ⟨y, H3, I3, r2, hy, e3⟩ => ?_
  have hy : y = .int (-1) := hy
  subst hy
  obtain ⟨t2, rfl⟩ := r2
  have I4 : Inv X pins σ H3 { s2 with heap := s2.heap.push { cls := .type "slice", data := .fields #[.none, .none, .int (-1) t2] } } := I3.kept (t' := s2.toks) fun b ob q => Heap.get?_push_of_some _ q
  have hq : Q (.str ⟨z.cps.toList.reverse.toArray⟩) H3 := q _ H3 (e2.trans e3) rfl
  refine tail_any (ops := [.ref s2.heap.objs.size, .str z t]) (typeIs_str _ _ _) PySem.F.slot_str_getitem.lookup ?_ (by with_unfolding_all rfl)
  refine wpAny_getItem_str_slice (l := none) (u := none) (st := some (-1, t2)) ⟨_, Heap.get?_push_size _ rfl, rfl, rfl⟩ rfl ?_
  have hl : z.cps.toList.length = z.length := by simp [Str.length]
  have hidx : slicePicked z none none (some (-1, t2)) = (List.range z.length).reverse := rev_ix _ hz
  have hfm : ((List.range z.length).reverse.filterMap (z.cps[·]?)) = z.cps.toList.reverse := by
    rw [List.filterMap_reverse]
    congr 1
    have : (fun (i : Nat) => z.cps[i]?) = fun (i : Nat) => z.cps.toList[i]? := by funext i; rw [Array.getElem?_toList]
    show (List.range z.length).filterMap (fun (i : Nat) => z.cps[i]?) = _
    rw [this, ← hl, map_ix]
  unfold sliceMade
  rw [hidx, hfm, if_neg (by simp)]
  refine ⟨?_, .str _, H3, I4.tok _, ⟨_, rfl⟩, hq⟩
  show (Str.length ⟨z.cps.toList.reverse.toArray⟩) ≤ sizeLine
  have : (Str.length ⟨z.cps.toList.reverse.toArray⟩) = z.length := by simp [Str.length]
  rw [this]
  exact Evl.sz_of (by omega)
/-- (x, ..) + t -/
theorem x_catT (ha : EvE X a σ H (tupP X.K Ps)) (hb : EvE X b σ H (tupP X.K Qs)) (h0 : Ps ≠ []) (hc : Ps.length + Qs.length ≤ 100000) : EvE X (.BinOp a .Add b pos) σ H (tupP X.K (Ps ++ Qs)) := x_op op_catT ha hb fun x y H1 _ ⟨p, xs, hx, hp, ax⟩ ⟨q', ys, hy, hp2, ay⟩ Q q => by
  subst hx hy
  refine ⟨p, q', xs, ys, rfl, rfl, hp, hp2, fun z => ?_, Evl.sz_of (by rw [ax.len, ay.len]; exact hc), fun z => ?_, fun _ t ht => q _ _ (Ex.new ht) ⟨t, xs ++ ys, rfl, Evl.st_of upd_same, Alls.app (ax.ex (Ex.new ht)) (ay.ex (Ex.new ht))⟩⟩
  · subst z
    have := ax.len
    exact h0 (List.length_eq_zero_iff.mp this.symm)
  · subst z
    have e := ay.len
    have e : Qs = [] := List.length_eq_zero_iff.mp e.symm
    subst e
    exact q _ H1 (Ex.refl _) ⟨p, xs, rfl, hp, by rw [List.append_nil]; exact ax⟩
end
end FU
end
section
set_option maxRecDepth 100000
set_option maxHeartbeats 1000000
namespace WK
open PySem PySem.Spec PyProof.Rows L2 FU
open Evl (Ex)
open MR (W Wf textW brk mkW inB ar bth eds birthsL endsL rowN stairW lws rws corner wordOf woGo nL nR stairsL plainW)

theorem cnt_all : ∀ n : Nat, n < 9 → ∀ m : Nat, m < 9 → n + m ≤ 8 → (stairsL n (m : Int)).length = scN n m ∧ choose' n (n + m) = scN n m ∧ scN n m ≤ 4000 := by decide +kernel
def lawBars (n : Nat) : List (Int × Int) := (List.range (n + 1)).flatMap fun (a : Nat) => (List.range (n + 1 - a)).map fun (i : Nat) => ((a : Int), (a : Int) + i)
theorem lawBars_eq : ∀ n : Nat, n < 7 → lawBars n = barsL n := by decide +kernel
theorem flat_take {α β : Type} (l : List α) (f : α → List β) (j : Nat) : ((l.take j).flatMap f).length ≤ (l.flatMap f).length := by
  conv => rhs; rw [← List.take_append_drop j l, List.flatMap_append, List.length_append]
  omega
theorem range_snoc (i : Nat) : List.range (i + 1) = List.range i ++ [i] := List.range_succ
section
variable {P : Program} {w : World} {K : PySem.W.Frag} {mg : Str → Option Value} {base : Heap}
/-! ### the law's births -/
theorem sc_lbirths : FnScope ["_law_arrows", "_law_place_here", "_law_found", "_law_k"] ["_law_arrows", "_law_place_here"] (C8.fnScope (top 56)) := C8.fnScope_by (by decide +kernel)
theorem ok_lbirths (T : Fx K w mg) : C8.Cal P w K mg base 1 "_law_births" (spC (ctPlaceOf fun pat p => isL K (bth pat p))) [] := by
  refine cal_of (k := 0) T.d_law_births T.b_law_births .nil sc_lbirths (fun vs H W h => ctPlaceOf.len h) fun cdv A outer s H vs Q E W hr hC hQ => ?_
  obtain ⟨pat, p, rfl, hl, hp, rfl⟩ := hC
  refine c_asg (k := 2) (P := ownP ((bth pat 0).map fun i => isI i)) (x_lstO (a_cons (x_int (i := 0)) a_nil) (by show (1 : Nat) ≤ 100000; decide)) (fun v H2 e2 hv => ?_) sc_lbirths.nd
  refine c_for (k := 3) (src_r1 (n := p) (x_var (P := isI p) 1 rfl rfl) (by omega) T.z_range) (fun H3 i σ' H' => (∃ v z, σ' = [some (.str (pstr pat)), some (.int p), some v, z] ∧ ownP ((bth pat i).map fun i => isI i) v H') ∧ Ex H3 H') (fun H3 e3 => ⟨⟨v, none, rfl, (ownP _).st e3 hv⟩, Ex.refl _⟩) (fun _ _ _ _ h => h.2) (fun H3 i z σ' H' e3 hz h b H4 e4 hb => ?_) (fun H3 σ' H' e3 h => ?_) sc_lbirths.nd
  · obtain ⟨⟨v, z0, rfl, hv⟩, e5⟩ := h
    obtain ⟨rfl, hi⟩ := range_get hz
    have hb : b = .int z := hb
    subst hb
    have hv4 := (ownP ((bth pat z).map fun i => isI i)).st e4 hv
    refine c_asg (k := 2) (P := ownP ((bth pat (z + 1)).map fun i => isI i)) (x_if (b' := ar pat z) (EvT.is (t_eq (x_ixS (k := z) (x_var (P := isS (pstr pat)) 0 rfl rfl) (x_var (P := isI z) 3 rfl rfl) (by rw [pstr_len]; omega) (pat_at (i := (z : Int)) (by omega) (by omega))) x_str) (eq_gt _)) (fun hc => ?_) fun hc => ?_) (fun v5 H5 e6 h5 => ?_) sc_lbirths.nd
    · have e : (bth pat (z + 1)).map (fun i => isI i) = ((bth pat z).map fun i => isI i) ++ [isI (z + 1)] := by
        rw [bth, if_pos hc, List.map_append]; rfl
      rw [e]
      exact x_catO (x_var (P := ownP ((bth pat z).map fun i => isI i)) 2 rfl hv4) (x_lstO (a_cons (x_add (x_var (P := isI z) 3 rfl rfl) x_int) a_nil)) (by simp [MR.bth_len]; omega)
    · have e : (bth pat (z + 1)).map (fun i => isI i) = [isI (z + 1)] ++ ((bth pat z).map fun i => isI i) := by
        rw [bth, if_neg (by rw [hc]; decide)]; rfl
      rw [e]
      exact x_catO (x_lstO (a_cons (x_add (x_var (P := isI z) 3 rfl rfl) x_int) a_nil)) (x_var (P := ownP ((bth pat z).map fun i => isI i)) 2 rfl hv4) (by simp [MR.bth_len]; omega)
    · exact c_nil ⟨⟨v5, _, rfl, h5⟩, (e5.trans e4).trans e6⟩
  · obtain ⟨⟨v, z0, rfl, hv⟩, e5⟩ := h
    rw [List.length_range] at hv
    exact c_ret (x_own (x_var (P := ownP ((bth pat p).map fun i => isI i)) 2 rfl hv)) fun v6 H6 e6 h6 => hQ v6 H6 (((e2.trans e3).trans e5).trans e6) h6
/-! ### the law's bars -/
theorem sc_lbars : FnScope ["_law_arrows", "_law_found", "_law_a", "_law_b"] ["_law_arrows"] (C8.fnScope (top 50)) := C8.fnScope_by (by decide +kernel)
theorem ok_lbars (T : Fx K w mg) : C8.Cal P w K mg base 1 "_law_bars" (spC (ctBars K)) [] := by
  refine cal_of (k := 0) T.d_law_bars T.b_law_bars .nil sc_lbars (fun vs H W ⟨_, e, _⟩ => by rw [e]; rfl) fun cdv A outer s H vs Q E W hr hC hQ => ?_
  obtain ⟨pat, rfl, hl, rfl⟩ := hC
  have hlen : (pstr pat).length ≤ 1000 := by rw [pstr_len]; omega
  let F : Nat → List Wd := fun i => (List.range i).flatMap fun (a : Nat) => (List.range (pat.length + 1 - a)).map fun (i : Nat) => isBar K ((a : Int), (a : Int) + i)
  have hF : (barsL pat.length).map (isBar K) = F (pat.length + 1) := by
    rw [← lawBars_eq _ (by omega), lawBars, List.map_flatMap]
    simp only [List.map_map]; rfl
  have hFs : ∀ i, F (i + 1) = F i ++ (List.range (pat.length + 1 - i)).map fun (j : Nat) => isBar K ((i : Int), (i : Int) + j) := fun i => by
    show (List.range (i + 1)).flatMap _ = _
    rw [range_snoc, List.flatMap_append, List.flatMap_singleton]
  have hFl : ∀ i, i ≤ 7 → (F i).length ≤ 7 * i := fun i => by
    induction i with
    | zero => intro _; exact Nat.le_refl _
    | succ i ih =>
      intro hi
      rw [hFs, List.length_append, List.length_map, List.length_range]
      have := ih (by omega)
      omega
  rw [hF] at hQ
  refine c_asg (k := 1) (P := ownP (F 0)) (x_lstO a_nil (by show (0 : Nat) ≤ 100000; decide)) (fun v H2 e2 hv => ?_) sc_lbars.nd
  refine c_for (k := 2) (src_r1 (n := pat.length + 1) (EvE.is (x_add (x_lenS T.z_len (x_var (P := isS (pstr pat)) 0 rfl rfl) hlen) x_int) (by rw [pstr_len]; congr 1)) (by omega) T.z_range) (fun H3 i σ' H' => (∃ v z, σ' = [some (.str (pstr pat)), some v, z, none] ∧ ownP (F i) v H') ∧ Ex H3 H') (fun H3 e3 => ⟨⟨v, none, rfl, (ownP _).st e3 hv⟩, Ex.refl _⟩) (fun _ _ _ _ h => h.2) (fun H3 i z σ' H' e3 hz h b H4 e4 hb => ?_) (fun H3 σ' H' e3 h => ?_) sc_lbars.nd
  · obtain ⟨⟨v, z0, rfl, hv⟩, e5⟩ := h
    obtain ⟨rfl, hi⟩ := range_get hz
    have hb : b = .int z := hb
    subst hb
    have hv4 := (ownP (F z)).st e4 hv
    have hc : ((pat.length : Int) + 1 - z).toNat = pat.length + 1 - z := by omega
    refine c_asg (k := 1) (P := ownP (F (z + 1))) ?_ (fun v5 H5 e6 h5 => c_nil ⟨⟨v5, _, rfl, h5⟩, (e5.trans e4).trans e6⟩) sc_lbars.nd
    rw [hFs]
    refine x_catO (x_var (P := ownP (F z)) 1 rfl hv4) (x_lcO (k := 3) (zs := List.range (pat.length + 1 - z)) (q := fun (j : Nat) => isI ((z : Int) + j)) (p := fun (j : Nat) => isBar K ((z : Int), (z : Int) + j)) ?_ (by rw [List.length_range]; omega) (fun _ _ => nl_isBar) (fun j hj y H5 e5 hy s H0 C cl fp => x_tup (a_cons (x_var (P := isI z) 2 rfl rfl) (a_cons (x_var (P := isI ((z : Int) + j)) 3 rfl hy) a_nil))) sc_lbars.nd (blkOk_by (N := ["_law_arrows", "_law_found", "_law_a", "_law_b"]) (sc := C8.fnScope (top 50)) (by decide +kernel)) (fun _ _ _ _ _ => pg_name sc_lbars.nd rfl (Or.inl rfl))) ?_
    · rw [← hc]
      exact src_r2 (lo := z) (hi := (pat.length : Int) + 1) (x_var (P := isI z) 2 rfl rfl) (EvE.is (x_add (x_lenS T.z_len (x_var (P := isS (pstr pat)) 0 rfl rfl) hlen) x_int) (by rw [pstr_len])) (by omega) T.z_range
    · have := hFl z (by omega)
      rw [List.length_map, List.length_range]; omega
  · obtain ⟨⟨v, z0, rfl, hv⟩, e5⟩ := h
    rw [List.length_range] at hv
    exact c_ret (x_own (x_var (P := ownP (F (pat.length + 1))) 1 rfl hv)) fun v6 H6 e6 h6 => hQ v6 H6 (((e2.trans e3).trans e5).trans e6) h6
end
end WK
end
section
set_option maxRecDepth 100000
set_option maxHeartbeats 1000000
namespace WK
open PySem PySem.Spec PyProof.Rows L2 FU
open Evl (Ex)
open MR (W Wf textW brk mkW inB ar bth eds birthsL endsL rowN stairW lws rws corner wordOf woGo nL nR stairsL plainW)

theorem joinL_nil : ∀ ys : List (List Nat), TL.joinL [] ys = ys.flatten
  | [] => rfl
  | [p] => by simp [TL.joinL]
  | p :: q :: r => by
    have := joinL_nil (q :: r)
    rw [TL.joinL, this]; simp
theorem join_pstr (bs : List Bool) : Txt.join ("" : Str) (bs.map fun b => (⟨#[pc b]⟩ : Str)) = pstr bs := by
  have e : (bs.map fun b => (⟨#[pc b]⟩ : Str)) = (bs.map fun b => [pc b]).map SX.S := by rw [List.map_map]; rfl
  have e0 : ("" : Str) = SX.S [] := by decide +kernel
  rw [e, e0, SX.join_S, joinL_nil]
  show SX.S _ = SX.S _
  congr 1
  clear e e0
  induction bs with
  | nil => rfl
  | cons b bs ih => simp [ih]
theorem ar_rev {pat : List Bool} {n : Nat} (h : n < pat.length) : ar ((pat.map not).reverse) (n : Int) = !ar pat ((pat.length : Int) - ((n + 1 : Nat) : Int)) := by
  unfold ar
  have e : ((pat.length : Int) - ((n + 1 : Nat) : Int)).toNat = pat.length - 1 - n := by omega
  rw [e, Int.toNat_natCast, List.getD_eq_getElem?_getD, List.getD_eq_getElem?_getD, List.getElem?_reverse (by rw [List.length_map]; exact h), List.length_map, List.getElem?_map, List.getElem?_eq_getElem (by omega)]
  rfl
theorem eds_bth (pat : List Bool) : ∀ n, n ≤ pat.length → eds pat n = (bth ((pat.map not).reverse) n).map fun k => (pat.length : Int) - k
  | 0, _ => by simp [eds, bth]
  | n + 1, h => by
    rw [eds, bth, ar_rev (by omega), eds_bth pat n (by omega)]
    cases ar pat ((pat.length : Int) - ((n + 1 : Nat) : Int)) <;> simp
section
variable {P : Program} {w : World} {K : PySem.W.Frag} {mg : Str → Option Value} {base : Heap}
/-! ### the pattern seen from the other end; the law's lasts -/
def ctAbout : Ct := fun vs H P => ∃ pat : List Bool, vs = [.str (pstr pat)] ∧ pat.length ≤ 6 ∧ P = isS (pstr (pat.map not).reverse)
theorem sc_about : FnScope ["_law_arrows", "_law_sign"] ["_law_arrows"] (C8.fnScope (top 57)) := C8.fnScope_by (by decide +kernel)
theorem pcs {b : Bool} : (⟨#[pc b]⟩ : Str) = if b then (">" : Str) else ("<" : Str) := by cases b <;> decide +kernel
theorem sum_ones (bs : List Bool) : ((bs.map fun b => (⟨#[pc b]⟩ : Str)).map (·.length)).sum = bs.length := by
  induction bs with
  | nil => rfl
  | cons b bs ih => rw [List.map_cons, List.map_cons, List.sum_cons, ih, List.length_cons]; show 1 + _ = _; omega
theorem ok_about (T : Fx K w mg) : C8.Cal P w K mg base 1 "_law_about" (spC ctAbout) [] := by
  refine cal_of (k := 0) T.d_law_about T.b_law_about .nil sc_about (fun vs H W ⟨_, e, _⟩ => by rw [e]; rfl) fun cdv A outer s H vs Q E W hr hC hQ => ?_
  obtain ⟨pat, rfl, hl, rfl⟩ := hC
  have e0 : (pstr pat).cps.toList = pat.map pc := pstr_list pat
  refine c_ret (EvE.is (x_rev (z := pstr (pat.map not)) (EvE.is (x_joinL (sep := "") (ys := (pat.map not).map fun b => ⟨#[pc b]⟩) x_str (EvE.imp (x_lc (k := 1) (zs := pat) (q := fun b => isS ⟨#[pc b]⟩) (p := fun b => isS ⟨#[pc (!b)]⟩) ⟨_, pi_str rE, fun H1 e1 R k => ?_⟩ (by omega) (fun _ _ => nl_isv) (fun b hb y H5 e5 hy s H0 C cl fp => ?_) sc_about.nd (blkOk_by (N := ["_law_arrows", "_law_sign"]) (sc := C8.fnScope (top 57)) (by decide +kernel)) (fun _ _ _ _ _ => pg_name sc_about.nd rfl (Or.inl rfl))) fun v H1 _ hv => by rw [List.map_map, List.map_map]; exact hv) (by rw [sum_ones, (by decide +kernel : (("" : Str)).length = 0)]; simp; omega)) (by rw [join_pstr])) (by rw [pstr_len, List.length_map]; omega)) ?_) hQ
  · refine (show EvE _ _ _ _ (isS (pstr pat)) from x_var 0 rfl rfl) H1 e1 _ fun v H2 e2 hv => ⟨pstr pat, hv, k _ H2 e2 fun H3 e3 => ⟨fun i z hz => ?_, ?_⟩⟩
    · have hz' : (pstr pat).cps[i]? = some (pc z) := by
        rw [← Array.getElem?_toList, e0, List.getElem?_map, hz]; rfl
      refine ⟨(Array.getElem?_eq_some_iff.mp hz').1, fun x H4 ⟨e4, c, hc, y⟩ => ?_⟩
      subst e4
      rw [hz'] at hc; cases hc
      exact ⟨Ex.refl _, y⟩
    · show (pstr pat).cps.size ≤ _
      have : (pstr pat).cps.size = pat.length := pstr_len pat
      omega
  · exact x_dget (kvs := [((.inr ">" : Key), V.str "<"), (.inr "<", V.str ">")]) (k := .inr ⟨#[pc b]⟩) (room_u hr) (x_disp2 (k1 := .inr ">") (k2 := .inr "<") (v1 := .str "<") (v2 := .str ">") x_str x_str x_str x_str (by decide +kernel)) (x_var (P := isS ⟨#[pc b]⟩) 1 rfl hy) (by cases b <;> decide +kernel)
  · congr 1
    rw [pstr_list]
    show SX.S _ = SX.S _
    congr 1
    rw [List.map_reverse]
theorem sc_lasts : FnScope ["_law_arrows", "_law_place_here", "_law_last", "_law_k"] ["_law_arrows", "_law_place_here"] (C8.fnScope (top 58)) := C8.fnScope_by (by decide +kernel)
theorem ok_lasts (T : Fx K w mg) : C8.Cal P w K mg base 2 "_law_lasts" (spC (ctPlaceOf fun pat p => isL K (eds pat (pat.length - p)))) [] := by
  refine cal_of (k := 1) T.d_law_lasts T.b_law_lasts .nil sc_lasts (fun vs H W h => ctPlaceOf.len h) fun cdv A outer s H vs Q E W hr hC hQ => ?_
  obtain ⟨pat, p, rfl, hl, hp, rfl⟩ := hC
  have hlen : (pstr pat).length ≤ 1000 := by rw [pstr_len]; omega
  have hrl : ((pat.map not).reverse).length = pat.length := by simp
  refine c_asg (k := 2) (P := isI pat.length) (EvE.is (x_lenS T.z_len (x_var (P := isS (pstr pat)) 0 rfl rfl) hlen) (by rw [pstr_len])) (fun v H1 e1 hv => ?_) sc_lasts.nd
  cases hv
  refine c_ret (EvE.imp (x_lc (k := 3) (zs := bth ((pat.map not).reverse) (pat.length - p)) (q := fun k => isI k) (p := fun k => isI ((pat.length : Int) - k)) (src_list (x_cal (ok_lbirths T) hr (a_cons (x_cal (P := isS (pstr (pat.map not).reverse)) (ok_about T) hr (a_cons (x_var (P := isS (pstr pat)) 0 rfl rfl) a_nil) fun vs H2 _ hv => ⟨pat, (Alls.isv (xs := [.str (pstr pat)])).mp hv, hl, rfl⟩) (a_cons (EvE.is (w := .int ((pat.length - p : Nat) : Int)) (x_sub (x_var (P := isI pat.length) 2 rfl rfl) (x_var (P := isI p) 1 rfl rfl)) (by congr 1; omega)) a_nil)) fun vs H2 _ hv => ⟨(pat.map not).reverse, pat.length - p, (Alls.isv (xs := [.str (pstr (pat.map not).reverse), .int ((pat.length - p : Nat) : Int)])).mp hv, by rw [hrl]; exact hl, by rw [hrl]; omega, rfl⟩)) (by rw [MR.bth_len]; omega) (fun _ _ => nl_isv) (fun k hk y H5 e5 hy s H0 C cl fp => x_sub (x_var (P := isI pat.length) 2 rfl rfl) (x_var (P := isI k) 3 rfl hy)) sc_lasts.nd (blkOk_by (N := ["_law_arrows", "_law_place_here", "_law_last", "_law_k"]) (sc := C8.fnScope (top 58)) (by decide +kernel)) (fun _ _ _ _ _ => pg_name sc_lasts.nd rfl (Or.inl rfl))) fun v H1 _ hv => ?_) fun v2 H2 e2 h2 => hQ v2 H2 (e1.trans e2) h2
  show isL K (eds pat (pat.length - p)) v H1
  rw [eds_bth pat _ (by omega)]
  unfold isL
  rw [List.map_map]
  exact hv
/-! ### the law's stairs -/
def ctLStairs (K : PySem.W.Frag) : Ct := fun vs H P => ∃ n m : Nat, vs = [.int n, .int m] ∧ n + m ≤ 8 ∧ P = lstP K ((stairsL n m).map (isT K))
theorem sc_lstairs : FnScope ["_law_long", "_law_most", "_law_found", "_law_first", "_law_rest"] ["_law_long", "_law_most"] (C8.fnScope (top 60)) := C8.fnScope_by (by decide +kernel)
theorem nl_isT {l : List Int} : NL (isT K l) := nl_tupP fun P hP => by
  obtain ⟨i, _, rfl⟩ := List.mem_map.mp hP
  exact nl_isv
def ctLStairsN (K : PySem.W.Frag) (n0 : Nat) : Ct := fun vs H P => ∃ n m : Nat, vs = [.int n, .int m] ∧ n ≤ n0 ∧ n + m ≤ 8 ∧ P = lstP K ((stairsL n m).map (isT K))
theorem ok_lstairs (T : Fx K w mg) : ∀ n0 : Nat, C8.Cal P w K mg base (n0 + 1) "_law_stairs" (spC (ctLStairsN K n0)) [] := by
  intro n0
  induction n0 with
  | zero =>
    refine cal_of (k := 0) T.d_law_stairs T.b_law_stairs .nil sc_lstairs (fun vs H W ⟨_, _, e, _⟩ => by rw [e]; rfl) fun cdv A outer s H vs Q E W hr hC hQ => ?_
    obtain ⟨n, m, rfl, hn, hnm, rfl⟩ := hC
    obtain rfl : n = 0 := by omega
    refine c_if (b' := true) (EvT.is (t_eq (v := .int ((0 : Nat) : Int)) (w := .int 0) (x_var (P := isI ((0 : Nat) : Int)) 0 rfl rfl) x_int) (decide_eq_true rfl)) (fun _ H1 e1 => ?_) fun z => nomatch z
    exact c_ret (x_lst (a_cons (x_tup (Ps := []) a_nil (by show (0 : Nat) ≤ 100000; decide)) a_nil) (by show (1 : Nat) ≤ 100000; decide)) fun v H2 e2 hv => hQ v H2 (e1.trans e2) hv
  | succ n0 ih =>
    refine cal_of (k := n0 + 1) T.d_law_stairs T.b_law_stairs .nil sc_lstairs (fun vs H W ⟨_, _, e, _⟩ => by rw [e]; rfl) fun cdv A outer s H vs Q E W hr hC hQ => ?_
    obtain ⟨n, m, rfl, hn, hnm, rfl⟩ := hC
    cases n with
    | zero =>
      refine c_if (b' := true) (EvT.is (t_eq (v := .int ((0 : Nat) : Int)) (w := .int 0) (x_var (P := isI ((0 : Nat) : Int)) 0 rfl rfl) x_int) (decide_eq_true rfl)) (fun _ H1 e1 => ?_) fun z => nomatch z
      exact c_ret (x_lst (a_cons (x_tup (Ps := []) a_nil (by show (0 : Nat) ≤ 100000; decide)) a_nil) (by show (1 : Nat) ≤ 100000; decide)) fun v H2 e2 hv => hQ v H2 (e1.trans e2) hv
    | succ n =>
      refine c_skip (t_eq (v := .int ((n + 1 : Nat) : Int)) (w := .int 0) (x_var (P := isI ((n + 1 : Nat) : Int)) 0 rfl rfl) x_int) (fun H1 e1 => ?_) (decide_eq_false fun z => by have := V.int.inj z; omega)
      let F : Nat → List Wd := fun j => (List.range j).flatMap fun (f : Nat) => (stairsL n f).map fun r => isT K ((f : Int) :: r)
      have hF : (stairsL (n + 1) m).map (isT K) = F (m + 1) := by
        show _ = (List.range (m + 1)).flatMap _
        have : MR.upTo (m : Int) = (List.range (m + 1)).map fun (i : Nat) => (i : Int) := by
          unfold MR.upTo
          have : ((m : Int) + 1).toNat = m + 1 := by omega
          rw [this]
        rw [stairsL, List.map_flatMap, this, List.flatMap_map]
        simp only [List.map_map]
        rfl
      have hFs : ∀ j, F (j + 1) = F j ++ (stairsL n j).map fun r => isT K ((j : Int) :: r) := fun j => by
        show (List.range (j + 1)).flatMap _ = _
        rw [range_snoc, List.flatMap_append, List.flatMap_singleton]
      have hFl : ∀ j, j ≤ m + 1 → (F j).length ≤ 4000 := fun j hj => by
        have h1 := cnt_all (n + 1) (by omega) m (by omega) (by omega)
        have h2 : (F (m + 1)).length ≤ 4000 := by rw [← hF, List.length_map, h1.1]; exact h1.2.2
        have h3 := flat_take (List.range (m + 1)) (fun (f : Nat) => (stairsL n f).map fun r => isT K ((f : Int) :: r)) j
        rw [List.take_range, Nat.min_eq_left hj] at h3
        exact Nat.le_trans h3 h2
      rw [hF] at hQ
      refine c_asg (k := 2) (P := ownP (F 0)) (x_lstO a_nil (by show (0 : Nat) ≤ 100000; decide)) (fun v H2 e2 hv => ?_) sc_lstairs.nd
      refine c_for (k := 3) (src_r1 (n := m + 1) (EvE.is (x_add (x_var (P := isI m) 1 rfl rfl) x_int) (by congr 1)) (by omega) T.z_range) (fun H3 i σ' H' => (∃ v z, σ' = [some (.int ((n + 1 : Nat) : Int)), some (.int m), some v, z, none] ∧ ownP (F i) v H') ∧ Ex H3 H') (fun H3 e3 => ⟨⟨v, none, rfl, (ownP _).st e3 hv⟩, Ex.refl _⟩) (fun _ _ _ _ h => h.2) (fun H3 i z σ' H' e3 hz h b H4 e4 hb => ?_) (fun H3 σ' H' e3 h => ?_) sc_lstairs.nd
      · obtain ⟨⟨v, z0, rfl, hv⟩, e5⟩ := h
        obtain ⟨rfl, hi⟩ := range_get hz
        have hb : b = .int z := hb
        subst hb
        have hv4 := (ownP (F z)).st e4 hv
        have hcz := cnt_all n (by omega) z (by omega) (by omega)
        refine c_asg (k := 2) (P := ownP (F (z + 1))) ?_ (fun v5 H5 e6 h5 => c_nil ⟨⟨v5, _, rfl, h5⟩, (e5.trans e4).trans e6⟩) sc_lstairs.nd
        rw [hFs]
        refine x_catO (x_var (P := ownP (F z)) 2 rfl hv4) (x_lcO (k := 4) (zs := stairsL n z) (q := isT K) (p := fun r => isT K ((z : Int) :: r)) (src_list (x_cal ih hr (a_cons (EvE.is (w := .int n) (x_sub (x_var (P := isI ((n + 1 : Nat) : Int)) 0 rfl rfl) x_int) (by congr 1; omega)) (a_cons (x_var (P := isI z) 3 rfl rfl) a_nil)) fun vs H5 _ hvs => ⟨n, z, (Alls.isv (xs := [.int n, .int z])).mp hvs, by omega, by omega, rfl⟩)) (by rw [hcz.1]; omega) (fun _ _ => nl_isT) (fun r hr' y H5 e5 hy s H0 C cl fp => ?_) sc_lstairs.nd (blkOk_by (N := ["_law_long", "_law_most", "_law_found", "_law_first", "_law_rest"]) (sc := C8.fnScope (top 60)) (by decide +kernel)) (fun _ _ _ _ _ => pg_name sc_lstairs.nd rfl (Or.inl rfl))) ?_
        · have hll := (MR.mem_stairs.mp hr').1
          exact x_catT (Ps := [isI (z : Int)]) (Qs := r.map fun i => isI i) (x_tup (a_cons (x_var (P := isI (z : Int)) 3 rfl rfl) a_nil)) (x_var (P := isT K r) 4 rfl hy) (by simp) (by simp; omega)
        · have := hFl z (by omega)
          rw [List.length_map, hcz.1]; omega
      · obtain ⟨⟨v, z0, rfl, hv⟩, e5⟩ := h
        rw [List.length_range] at hv
        exact c_ret (x_own (x_var (P := ownP (F (m + 1))) 2 rfl hv)) fun v6 H6 e6 h6 => hQ v6 H6 ((((e1.trans e2).trans e3).trans e5).trans e6) h6
end
end WK
end
section
set_option maxRecDepth 100000
set_option maxHeartbeats 1000000
namespace FU
open PySem PySem.Spec PyProof.Rows L2
open Evl (Ex)
/-! {True: .., False: ..}[b] -/
def DBat (P : Program) (w : World) (a : Addr) (s1 s2 : Str) (h : Heap) : Prop := ∃ t1 t2, h.DictOf (PpSet.boolK P w) a [(true, .str s1 t1), (false, .str s2 t2)]
def DBO (P : Program) (w : World) (a : Addr) (s1 s2 : Str) : HO := .ext (DBat P w a s1 s2)
theorem dbo_new {P : Program} {w : World} {H : Hp} {h : Heap} {a : Addr} {s1 s2 : Str} (R : DBat P w a s1 s2 h) : ObjOk P w H h a (DBO P w a s1 s2) := by
  have ⟨t1, t2, o, es, ep, ho, _⟩ := R
  refine ⟨R, ⟨o, ho⟩, fun h1 h2 p k => ?_⟩
  obtain ⟨t1, t2, o, es, ep, ho, r⟩ := p
  exact ⟨t1, t2, o, es, ep, k _ ho, r⟩
section
variable {X : Cx} {σ : L2.St} {H : Hp} {c : Expr} {p1 p2 p3 p4 pos dpos : Pos} {s1 s2 : Str} {k1 k2 k3 k4 : Nat} {b : Bool}
theorem x_dispB : EvE X (.Dict [some (.Constant (.bool true) k1 p1), some (.Constant (.bool false) k2 p2)] [.Constant (.str s1) k3 p3, .Constant (.str s2) k4 p4] dpos) σ H ⟨fun v H' => ∃ p, v = .ref p ∧ H' p = some (DBO X.prog X.w p s1 s2), fun e ⟨p, h1, h2⟩ => ⟨p, h1, e _ _ h2⟩⟩ := fun H1 e1 Q q pins s I => by
  have hn := I.hok.fresh (Nat.le_refl s.heap.objs.size)
  have I1 := I.laid (a := s.heap.objs.size) (o := .dK []) (h' := s.heap.push { cls := .type "dict", data := .dict #[] }) (t' := s.toks) (fun _ _ q => Heap.get?_push_of_some _ q) (Nat.le_refl _) (dk_empty s.heap I.big)
  have hp : PPs X dpos [some (.Constant (.bool true) k1 p1), some (.Constant (.bool false) k2 p2)] [.Constant (.str s1) k3 p3, .Constant (.str s2) k4 p4] [(wE X _, wE X _), (wE X _, wE X _)] := pps_cons rE rE (pps_cons rE rE pps_nil)
  refine wpAny_Dict_walk (knd := PpSet.boolK X.prog X.w) rfl rfl (by simp) (by simp) (thn (hp.run pins _ σ _ (fun ps H2 => ps = [(.bl true, .str s1), (.bl false, .str s2)] ∧ Ex (upd H1 s.heap.objs.size (.dK [])) H2) I1 ?_) fun ws s2' ⟨ps, H2, I2, rel, ep, e2⟩ => ?_)
  · exact x_bool _ (Ex.refl _) _ fun x1 H2 e2 hx1 => x_str _ (Ex.refl _) _ fun y1 H3 e3 hy1 => x_bool _ (Ex.refl _) _ fun x2 H4 e4 hx2 => x_str _ (Ex.refl _) _ fun y2 H5 e5 hy2 => by
      cases hx1; cases hy1; cases hx2; cases hy2
      exact ⟨rfl, ((e2.trans e3).trans e4).trans e5⟩
  subst ep
  have eH : H2 s.heap.objs.size = some (.dK []) := e2 _ _ upd_same
  obtain ⟨z, hd, vs0, r0, dd⟩ := dk_of I2.hok eH
  cases r0
  cases rel with
  | @cons _ q1 _ _ h1 t =>
    cases t with
    | @cons _ q2 _ _ h2 t =>
      cases t
      obtain ⟨q1a, q1b⟩ := q1
      obtain ⟨q2a, q2b⟩ := q2
      obtain ⟨ha, t1, hb⟩ := h1
      obtain ⟨hc, t2, hd'⟩ := h2
      have ha : q1a = .bool true := ha
      have hb : q1b = .str s1 t1 := hb
      have hc : q2a = .bool false := hc
      have hd' : q2b = .str s2 t2 := hd'
      subst ha hb hc hd'
      refine ⟨[(true, .str s1 t1), (false, .str s2 t2)], ⟨rfl, rfl, rfl, rfl, trivial⟩, ?_, fun h' dd' hs => ⟨.ref s.heap.objs.size, _, ?_, rfl, q _ (upd H2 s.heap.objs.size (DBO X.prog X.w s.heap.objs.size s1 s2)) ?_ ⟨_, rfl, upd_same⟩⟩⟩
      · obtain ⟨o, es, ep, h1, h2, h3, h4, h5, h6⟩ := dd
        have he : es.toList = [] := by
          generalize es.toList = l at h5
          cases h5; rfl
        have he : es = #[] := by
          cases es with
          | mk l => cases (show l = [] from he); rfl
        subst he
        exact ⟨o, #[], ep, h1, h2, h3, fun e he => by simp at he, .nil, List.nodup_nil⟩
      · have hq : ∃ q, h'.get? s.heap.objs.size = some q := let ⟨q, _, _, hq, _⟩ := dd'; ⟨q, hq⟩
        exact d_write I2 (by rw [eH]; exact True.intro) hs hq (dbo_new ⟨t1, t2, dd'⟩)
      · exact Ex.mut ((Ex.new hn).trans e2) hn
theorem x_bsel (hc : EvE X c σ H (isB b)) (hs : NoSl c := by exact fun _ _ => rfl) : EvE X (.Subscript (.Dict [some (.Constant (.bool true) k1 p1), some (.Constant (.bool false) k2 p2)] [.Constant (.str s1) k3 p3, .Constant (.str s2) k4 p4] dpos) c pos) σ H (isS (if b then s1 else s2)) := fun H1 e1 Q q pins s I => by
  refine subD_of PySem.F.slot_dict_getitem.lookup hs (thn (x_dispB (H := H) (s1 := s1) (s2 := s2) H1 e1 (fun v H2 => Ex H1 H2 ∧ ∃ p, v = .ref p ∧ H2 p = some (DBO X.prog X.w p s1 s2)) (fun v H2 e2 hv => ⟨e2, hv⟩) pins s I) fun u s1' ⟨x, H2, I2, rx, e2, p, ex, hp⟩ => thn (hc H2 (e1.trans e2) (fun v H3 => v = .bl b ∧ Ex H2 H3) (fun v H3 e3 hv => ⟨hv, e3⟩) pins s1' I2) fun iv s2' ⟨y, H3, I3, ry, ey, e3⟩ => ?_)
  subst ex ey
  obtain rfl : u = Value.ref p := rx
  have ry : iv = .bool b := ry
  subst ry
  have hp3 := e3 _ _ hp
  obtain ⟨t1, t2, dd⟩ := (I3.hok p _ hp3).1
  refine ⟨dd.typeIs, wpAny_getItem_of (k := b) (PpSet.boolK_is _ _ b) dd.mapOf (v := if b then .str s1 t1 else .str s2 t2) (by cases b <;> rfl) ⟨.str (if b then s1 else s2), H3, I3.tok _, ?_, q _ H3 (e2.trans e3) rfl⟩⟩
  cases b
  · exact ⟨t2, rfl⟩
  · exact ⟨t1, rfl⟩
end
end FU
end
section
set_option maxRecDepth 100000
set_option maxHeartbeats 1000000
namespace WK
open PySem PySem.Spec PyProof.Rows L2 FU
open Evl (Ex)
open MR (W Wf textW brk mkW inB ar bth eds birthsL endsL rowN stairW lws rws corner wordOf woGo nL nR stairsL plainW)

theorem b2i_max (p q : Bool) : max (MR.b2i p) (MR.b2i q) = MR.b2i (p || q) := by cases p <;> cases q <;> decide
theorem b2i_min (p q : Bool) : min (MR.b2i p) (MR.b2i q) = MR.b2i (p && q) := by cases p <;> cases q <;> decide
def fstW : W → W
  | .leaf b p => .leaf b p
  | .rt u => u
  | .lf u => u
  | .add x _ => x
  | .meet x _ => x
theorem sh_fst (u : W) (h : isLeaf u = false) : fstW u ∈ u.parts ∧ ∀ K : PySem.W.Frag, (shPs K u)[1]? = some (isSh K (fstW u)) := by
  cases u with
  | leaf b p => cases h
  | rt u => exact ⟨by simp [W.parts, fstW], fun _ => rfl⟩
  | lf u => exact ⟨by simp [W.parts, fstW], fun _ => rfl⟩
  | add x y => exact ⟨by simp [W.parts, fstW], fun _ => rfl⟩
  | meet x y => exact ⟨by simp [W.parts, fstW], fun _ => rfl⟩
section
variable {P : Program} {w : World} {K : PySem.W.Frag} {mg : Str → Option Value} {base : Heap}
def ctLMark (K : PySem.W.Frag) (n : Nat) : Ct := fun vs H P => ∃ (pat : List Bool) (u : W) (bar : Int × Int) (v b : V), vs = [.str (pstr pat), v, b] ∧ isSh K u v H ∧ isBar K bar b H ∧ pat.length ≤ 6 ∧ Wf pat.length u ∧ u.depth ≤ n ∧ P = isI (MR.b2i (mkW pat bar.1 bar.2 u))
theorem sc_lmark : FnScope ["_law_arrows", "_law_shape_here", "_law_bar", "_law_place_here", "_law_one", "_law_came", "_law_toward"] ["_law_arrows", "_law_shape_here", "_law_bar"] (C8.fnScope (top 54)) := C8.fnScope_by (by decide +kernel)
theorem str_ne1 (b c : Bool) : (!decide (V.str ⟨#[pc b]⟩ = V.str (if c then ">" else "<"))) = (b != c) := by cases b <;> cases c <;> decide +kernel
theorem ok_lmark (T : Fx K w mg) : ∀ n : Nat, C8.Cal P w K mg base (n + 2) "_law_mark" (spC (ctLMark K n)) [] := by
  intro n
  induction n with
  | zero =>
    refine cal_of (k := 1) T.d_law_mark T.b_law_mark .nil sc_lmark (fun vs H W ⟨_, _, _, _, _, e, _⟩ => by rw [e]; rfl) fun cdv A outer s H vs Q E W hr hC hQ => ?_
    obtain ⟨pat, u, bar, v, b, rfl, hu, hb, hl, hw, hd, rfl⟩ := hC
    refine c_asg (k := 3) (P := isI u.place) (x_cal (ok_lplace T 0) hr (a_cons (x_var (P := isSh K u) 1 rfl hu) a_nil) fun vs H1 _ hvs => ?_) (fun z H1 e1 hz => ?_) sc_lmark.nd
    · obtain ⟨a, rfl, ha⟩ := Alls.one hvs
      exact ⟨u, a, rfl, ha, hd, rfl⟩
    cases hz
    obtain ⟨t, p, rfl⟩ : ∃ b p, u = .leaf b p := by cases u <;> simp [W.depth] at hd; exact ⟨_, _, rfl⟩
    have hu1 := (isSh K (.leaf t p)).st e1 hu
    have hb1 := (isBar K bar).st e1 hb
    refine c_if (b' := !inB bar.1 bar.2 p) (t_not (t_chain (x_ixT (k := 0) (Ps := [isI bar.1, isI bar.2]) (x_var (P := isBar K bar) 2 rfl hb1) x_int rfl) (x_var (P := isI p) 3 rfl rfl) (x_ixT (k := 1) (Ps := [isI bar.1, isI bar.2]) (x_var (P := isBar K bar) 2 rfl hb1) x_int rfl))) (fun hz H2 e2 => ?_) fun hz H2 e2 => ?_
    · have hz' : inB bar.1 bar.2 p = false := by simpa using hz
      refine c_ret (EvE.is x_int ?_) fun v H3 e3 hv => hQ v H3 ((e1.trans e2).trans e3) hv
      simp [mkW, hz', MR.b2i]
    · have hz' : inB bar.1 bar.2 p = true := by simpa using hz
      have hu2 := (isSh K (.leaf t p)).st e2 hu1
      refine c_nil ?_
      refine c_if (b' := true) (EvT.is (t_inL (v := .str (sgn (.leaf t p))) (xs := [.str "0", .str "1"]) (x_sh0 (u := .leaf t p) (x_var (P := isSh K (.leaf t p)) 1 rfl hu2)) (x_lst (a_cons x_str (a_cons x_str a_nil)))) (in_01 _)) (fun _ H3 e3 => ?_) fun z => by cases z
      have hu3 := (isSh K (.leaf t p)).st e3 hu2
      refine c_ret (EvE.is (x_intS (z := sgn (.leaf t p)) (n := MR.b2i t) T.z_int (x_sh0 (u := .leaf t p) (x_var (P := isSh K (.leaf t p)) 1 rfl hu3)) (by cases t; exact int_0; exact int_1) (by cases t; exact (by decide +kernel : (("0" : Str)).length ≤ 640); exact (by decide +kernel : (("1" : Str)).length ≤ 640))) ?_) fun v H4 e4 hv => hQ v H4 (((e1.trans e2).trans e3).trans e4) hv
      simp [mkW, hz']
  | succ n ih =>
    refine cal_of (k := n + 2) T.d_law_mark T.b_law_mark .nil sc_lmark (fun vs H W ⟨_, _, _, _, _, e, _⟩ => by rw [e]; rfl) fun cdv A outer s H vs Q E W hr hC hQ => ?_
    obtain ⟨pat, u, bar, v, b, rfl, hu, hb, hl, hw, hd, rfl⟩ := hC
    refine c_asg (k := 3) (P := isI u.place) (x_cal (ok_lplace T (n + 1)) hr (a_cons (x_var (P := isSh K u) 1 rfl hu) a_nil) fun vs H1 _ hvs => ?_) (fun z H1 e1 hz => ?_) sc_lmark.nd
    · obtain ⟨a, rfl, ha⟩ := Alls.one hvs
      exact ⟨u, a, rfl, ha, hd, rfl⟩
    cases hz
    have hu1 := (isSh K u).st e1 hu
    have hb1 := (isBar K bar).st e1 hb
    have hpl := Wf.pl hw
    refine c_if (b' := !inB bar.1 bar.2 u.place) (t_not (t_chain (x_ixT (k := 0) (Ps := [isI bar.1, isI bar.2]) (x_var (P := isBar K bar) 2 rfl hb1) x_int rfl) (x_var (P := isI u.place) 3 rfl rfl) (x_ixT (k := 1) (Ps := [isI bar.1, isI bar.2]) (x_var (P := isBar K bar) 2 rfl hb1) x_int rfl))) (fun hz H2 e2 => ?_) fun hz H2 e2 => ?_
    · have hz' : inB bar.1 bar.2 u.place = false := by simpa using hz
      refine c_ret (EvE.is x_int ?_) fun v H3 e3 hv => hQ v H3 ((e1.trans e2).trans e3) hv
      rw [MR.mkW_out hz']; rfl
    have hz' : inB bar.1 bar.2 u.place = true := by simpa using hz
    have hu2 := (isSh K u).st e2 hu1
    have hb2 := (isBar K bar).st e2 hb1
    refine c_nil ?_
    refine c_if (b' := isLeaf u) (EvT.is (t_inL (v := .str (sgn u)) (xs := [.str "0", .str "1"]) (x_sh0 (x_var (P := isSh K u) 1 rfl hu2)) (x_lst (a_cons x_str (a_cons x_str a_nil)))) (in_01 _)) (fun hlf H3 e3 => ?_) fun hlf H3 e3 => ?_
    · obtain ⟨t, p, rfl⟩ := isL_leaf hlf
      have hu3 := (isSh K (.leaf t p)).st e3 hu2
      have hz2 : inB bar.1 bar.2 p = true := hz'
      refine c_ret (EvE.is (x_intS (z := sgn (.leaf t p)) (n := MR.b2i t) T.z_int (x_sh0 (u := .leaf t p) (x_var (P := isSh K (.leaf t p)) 1 rfl hu3)) (by cases t; exact int_0; exact int_1) (by cases t; exact (by decide +kernel : (("0" : Str)).length ≤ 640); exact (by decide +kernel : (("1" : Str)).length ≤ 640))) ?_) fun v H4 e4 hv => hQ v H4 (((e1.trans e2).trans e3).trans e4) hv
      simp [mkW, hz2]
    obtain ⟨hq, hsh⟩ := sh_fst u hlf
    generalize hqe : fstW u = q at hq hsh
    have hplq := Wf.pl (parts_wf hw hq)
    have hdq := parts_depth hq
    have hu3 := (isSh K u).st e3 hu2
    have hb3 := (isBar K bar).st e3 hb2
    refine c_nil ?_
    refine c_asg (k := 4) (P := isI (MR.b2i (mkW pat bar.1 bar.2 q))) (x_cal ih hr (a_cons (x_var (P := isS (pstr pat)) 0 rfl rfl) (a_cons (x_sh1 (hsh _) (x_var (P := isSh K u) 1 rfl hu3)) (a_cons (x_var (P := isBar K bar) 2 rfl hb3) a_nil))) fun vs H4 _ hvs => ?_) (fun z H4 e4 hz4 => ?_) sc_lmark.nd
    · obtain ⟨a1, a2, a3, rfl, h1, h2, h3⟩ := Alls.three hvs
      cases h1
      exact ⟨pat, q, bar, a2, a3, rfl, h2, h3, hl, parts_wf hw hq, by omega, rfl⟩
    cases hz4
    have hu4 := (isSh K u).st e4 hu3
    have hb4 := (isBar K bar).st e4 hb3
    have e04 := ((e1.trans e2).trans e3).trans e4
    refine c_if (b' := u.isAdd) (EvT.is (t_eq (v := .str (sgn u)) (w := .str "+") (x_sh0 (x_var (P := isSh K u) 1 rfl hu4)) x_str) (is_pl u)) (fun hs H5 e5 => ?_) fun hs H5 e5 => ?_
    · obtain ⟨x, y, rfl⟩ : ∃ x y, u = .add x y := by cases u <;> first | exact ⟨_, _, rfl⟩ | cases hs
      obtain rfl : q = x := hqe.symm
      have hz2 : inB bar.1 bar.2 q.place = true := hz'
      have hu5 := (isSh K (.add q y)).st e5 hu4
      have hb5 := (isBar K bar).st e5 hb4
      refine c_ret (EvE.is (x_max2 T.z_max (x_var (P := isI (MR.b2i (mkW pat bar.1 bar.2 q))) 4 rfl rfl) (x_cal (P := isI (MR.b2i (mkW pat bar.1 bar.2 y))) ih hr (a_cons (x_var (P := isS (pstr pat)) 0 rfl rfl) (a_cons (x_sh2 (u := .add q y) (P := isSh K y) rfl (x_var (P := isSh K (.add q y)) 1 rfl hu5)) (a_cons (x_var (P := isBar K bar) 2 rfl hb5) a_nil))) fun vs H6 _ hvs => ?_)) ?_) fun v H6 e6 hv => hQ v H6 ((e04.trans e5).trans e6) hv
      · obtain ⟨a1, a2, a3, rfl, h1, h2, h3⟩ := Alls.three hvs
        cases h1
        exact ⟨pat, y, bar, a2, a3, rfl, h2, h3, hl, hw.2.1, by have := parts_depth (u := .add q y) (q := y) (by simp [W.parts]); omega, rfl⟩
      · rw [b2i_max]; simp [mkW, hz2]
    have hu5 := (isSh K u).st e5 hu4
    have hb5 := (isBar K bar).st e5 hb4
    refine c_nil ?_
    refine c_if (b' := u.isMeet) (EvT.is (t_eq (v := .str (sgn u)) (w := .str "&") (x_sh0 (x_var (P := isSh K u) 1 rfl hu5)) x_str) (is_am u)) (fun hs2 H6 e6 => ?_) fun hs2 H6 e6 => ?_
    · obtain ⟨x, y, rfl⟩ : ∃ x y, u = .meet x y := by cases u <;> first | exact ⟨_, _, rfl⟩ | cases hs2
      obtain rfl : q = x := hqe.symm
      have hz2 : inB bar.1 bar.2 q.place = true := hz'
      have hu6 := (isSh K (.meet q y)).st e6 hu5
      have hb6 := (isBar K bar).st e6 hb5
      refine c_ret (EvE.is (x_min2 T.z_min (x_var (P := isI (MR.b2i (mkW pat bar.1 bar.2 q))) 4 rfl rfl) (x_cal (P := isI (MR.b2i (mkW pat bar.1 bar.2 y))) ih hr (a_cons (x_var (P := isS (pstr pat)) 0 rfl rfl) (a_cons (x_sh2 (u := .meet q y) (P := isSh K y) rfl (x_var (P := isSh K (.meet q y)) 1 rfl hu6)) (a_cons (x_var (P := isBar K bar) 2 rfl hb6) a_nil))) fun vs H7 _ hvs => ?_)) ?_) fun v H7 e7 hv => hQ v H7 (((e04.trans e5).trans e6).trans e7) hv
      · obtain ⟨a1, a2, a3, rfl, h1, h2, h3⟩ := Alls.three hvs
        cases h1
        exact ⟨pat, y, bar, a2, a3, rfl, h2, h3, hl, hw.2.1, by have := parts_depth (u := .meet q y) (q := y) (by simp [W.parts]); omega, rfl⟩
      · rw [b2i_min]; simp [mkW, hz2]
    have hu6 := (isSh K u).st e6 hu5
    have hb6 := (isBar K bar).st e6 hb5
    refine c_nil ?_
    refine c_asg (k := 5) (P := isI q.place) (x_cal (ok_lplace T n) hr (a_cons (x_sh1 (hsh _) (x_var (P := isSh K u) 1 rfl hu6)) a_nil) fun vs H7 _ hvs => ?_) (fun z H7 e7 hz7 => ?_) sc_lmark.nd
    · obtain ⟨a, rfl, ha⟩ := Alls.one hvs
      exact ⟨q, a, rfl, ha, by omega, rfl⟩
    cases hz7
    have hb7 := (isBar K bar).st e7 hb6
    refine c_if (b' := inB bar.1 bar.2 q.place) (t_chain (x_ixT (k := 0) (Ps := [isI bar.1, isI bar.2]) (x_var (P := isBar K bar) 2 rfl hb7) x_int rfl) (x_var (P := isI q.place) 5 rfl rfl) (x_ixT (k := 1) (Ps := [isI bar.1, isI bar.2]) (x_var (P := isBar K bar) 2 rfl hb7) x_int rfl)) (fun hin H8 e8 => ?_) fun hin H8 e8 => ?_
    · refine c_ret (EvE.is (x_var (P := isI (MR.b2i (mkW pat bar.1 bar.2 q))) 4 rfl rfl) ?_) fun v H9 e9 hv => hQ v H9 (((((e04.trans e5).trans e6).trans e7).trans e8).trans e9) hv
      cases u with
      | leaf b p => cases hlf
      | add x y => cases hs
      | meet x y => cases hs2
      | rt x =>
        obtain rfl : x = q := hqe
        have hz2 : inB bar.1 bar.2 (x.place + 1) = true := hz'
        simp [mkW, hz2, hin]
      | lf x =>
        obtain rfl : x = q := hqe
        have hz2 : inB bar.1 bar.2 (x.place - 1) = true := hz'
        simp [mkW, hz2, hin]
    refine c_nil ?_
    have hidx : 0 ≤ min u.place q.place ∧ min u.place q.place < pat.length := by
      cases u with
      | leaf b p => cases hlf
      | add x y => cases hs
      | meet x y => cases hs2
      | rt x =>
        obtain rfl : x = q := hqe
        have h2 : 0 ≤ x.place + 1 ∧ x.place + 1 ≤ pat.length := hpl
        show 0 ≤ min (x.place + 1) x.place ∧ min (x.place + 1) x.place < _
        omega
      | lf x =>
        obtain rfl : x = q := hqe
        have h2 : 0 ≤ x.place - 1 ∧ x.place - 1 ≤ pat.length := hpl
        show 0 ≤ min (x.place - 1) x.place ∧ min (x.place - 1) x.place < _
        omega
    have hnat : ((min u.place q.place).toNat : Int) = min u.place q.place := by omega
    refine c_asg (k := 6) (P := isS (if decide (q.place < u.place) then ">" else "<")) (x_bsel (x_gt (x_var (P := isI u.place) 3 rfl rfl) (x_var (P := isI q.place) 5 rfl rfl))) (fun z H9 e9 hz9 => ?_) sc_lmark.nd
    cases hz9
    refine c_ret (EvE.is (x_intB T.z_int (x_ne (v := .str ⟨#[pc (ar pat (min u.place q.place))]⟩) (w := .str (if decide (q.place < u.place) then ">" else "<")) (x_ixS (k := (min u.place q.place).toNat) (z := pstr pat) (x_var (P := isS (pstr pat)) 0 rfl rfl) (by rw [hnat]; exact x_min2 T.z_min (x_var (P := isI u.place) 3 rfl rfl) (x_var (P := isI q.place) 5 rfl rfl)) (by rw [pstr_len]; omega) (pat_at hidx.1 hidx.2)) (x_var (P := isS (if decide (q.place < u.place) then ">" else "<")) 6 rfl rfl))) ?_) fun v H10 e10 hv => hQ v H10 ((((((e04.trans e5).trans e6).trans e7).trans e8).trans e9).trans e10) hv
    rw [str_ne1]
    cases u with
    | leaf b p => cases hlf
    | add x y => cases hs
    | meet x y => cases hs2
    | rt x =>
      obtain rfl : x = q := hqe
      have hz2 : inB bar.1 bar.2 (x.place + 1) = true := hz'
      have e1 : min (W.rt x).place x.place = x.place := by show min (x.place + 1) x.place = _; omega
      have e2 : decide (x.place < (W.rt x).place) = true := decide_eq_true (by show x.place < x.place + 1; omega)
      rw [e1, e2]
      simp only [mkW, hz2, hin]
      cases ar pat x.place <;> rfl
    | lf x =>
      obtain rfl : x = q := hqe
      have hz2 : inB bar.1 bar.2 (x.place - 1) = true := hz'
      have e1 : min (W.lf x).place x.place = x.place - 1 := by show min (x.place - 1) x.place = _; omega
      have e2 : decide (x.place < (W.lf x).place) = false := decide_eq_false (by show ¬ x.place < x.place - 1; omega)
      rw [e1, e2]
      simp only [mkW, hz2, hin]
      cases ar pat (x.place - 1) <;> rfl
end
end WK
end
section
set_option maxRecDepth 100000
set_option maxHeartbeats 1000000
namespace FU.DtK
open PySem PySem.W
/-! dicts whose keys are tuples -/
section
variable {prog : Program} {w : World} {K : Type} [DecidableEq K] {knd : HeapKind prog w K} {A : Around} {E : Value → Shared → Prop} {s : Shared}
/-- the second dict has the same keys at the same places, with values that are equal -/
def Alike (A : Around) (s : Shared) (xs ys : List (K × Addr × Value)) : Prop := xs.length = ys.length ∧ ∀ (i : Nat) (p q : K × Addr × Value), xs[i]? = some p → ys[i]? = some q → p.1 = q.1 ∧ SeqAt.EqAt A s p.2.2 q.2.2 true
theorem pairs_ok {nm : String} {a b : Addr} {xs ys : List (K × Addr × Value)} {Q : Bool → Shared → Prop} (hu : knd.room A) (ha : (a == sysModules) = false) (hb : (b == sysModules) = false)
    (da : s.heap.DictOfH knd a xs) (db : s.heap.DictOfH knd b ys) (al : Alike A s xs ys) (h : Q true s) :
    wpAny (model prog w) A (Builtin.Dict.samePairs nm a b) Q E s := by
  obtain ⟨oa, es, ep, hoa, _, hda, hxa, hia, hna⟩ := da
  obtain ⟨ob, es', ep', hob, _, hdb, hxb, hib, hnb⟩ := db
  obtain ⟨al1, al2⟩ := al
  have hla : es.size = xs.length := size_of_entries hxa
  have hlb : es'.size = ys.length := size_of_entries hxb
  have hsz : es.size = es'.size := by rw [hla, hlb, al1]
  unfold Builtin.Dict.samePairs Builtin.Dict.showsAll
  rw [if_neg (show ¬ (a == sysModules) = true by rw [ha]; exact Bool.false_ne_true), if_neg (show ¬ (b == sysModules) = true by rw [hb]; exact Bool.false_ne_true)]
  refine wpAny_bind (wpAny_pure (wpAny_bind (wpAny_pure ?_)))
  refine wpAny_bind (wpAny_dictEntries hoa hda ?_)
  dsimp only
  refine wpAny_bind (wpAny_dictEntries hob hdb ?_)
  rw [if_neg (by rw [hsz]; simp)]
  refine wpAny_bind (wpAny_dictEpoch hoa hda ?_)
  refine wpAny_bind ?_
  rw [Std.Legacy.Range.forIn_eq_forIn_range']
  simp only [Std.Legacy.Range.size, Nat.sub_zero, Nat.add_sub_cancel, Nat.div_one]
  refine wpAny_forIn_list _ (fun rest q s' => s' = s ∧ q = (none, ()) ∧ ∃ i m, i + m = es.size ∧ rest = List.range' i m) _ ?_ ?_ _ _ ⟨rfl, rfl, 0, es.size, Nat.zero_add _, rfl⟩
  · rintro x rest q s' ⟨rfl, rfl, i, _ | m, hm, hr⟩
    · cases hr
    obtain ⟨rfl, rfl⟩ := List.cons.inj hr
    have hlt : x < es.size := by omega
    refine wpAny_bind (wpAny_dictEntries hoa hda ?_)
    obtain ⟨⟨k, ka, va⟩, hp⟩ : ∃ p, xs[x]? = some p := ⟨xs[x]'(by omega), List.getElem?_eq_getElem (by omega)⟩
    obtain ⟨⟨k', kb, vb⟩, hq⟩ : ∃ p, ys[x]? = some p := ⟨ys[x]'(by omega), List.getElem?_eq_getElem (by omega)⟩
    obtain ⟨ek, heq⟩ := al2 x _ _ hp hq
    have ek : k = k' := ek
    subst ek
    have hen : es[x]? = some (entryOfKey knd (k, ka, va)) := by rw [entry_at hxa, hp]; rfl
    have hen' : es'[x]? = some (entryOfKey knd (k, kb, vb)) := by rw [entry_at hxb, hq]; rfl
    rw [hen]
    show wpAny _ _ (holding [Value.ref ka, va] _ >>= _) _ _ _
    have hik : knd.is s'.heap k ka := hia _ (List.mem_of_getElem? hp)
    refine wpAny_bind (wpAny_holding (wpAny_bind (wpAny_dictFind_heap hu hik hob hdb hxb hib hnb (fun hn => (hn x _ hq).elim) fun j p hj => ?_)))
    have ej : j = x := idxH_unique hnb hj hq
    subst ej
    refine wpAny_bind (wpAny_dictEntries hob hdb ?_)
    rw [hen']
    refine wpAny_holding (heq _ _ _ _ ?_)
    show wpAny _ _ (if (!true) = true then _ else _) _ _ _
    rw [if_neg (by decide)]
    refine wpAny_bind (wpAny_dictEpoch hoa hda ?_)
    rw [if_neg (by simp)]
    exact wpAny_pure ⟨rfl, rfl, _, m, by omega, rfl⟩
  · rintro q s' ⟨rfl, rfl, _⟩
    exact wpAny_pure h
theorem ne_ok {a b : Addr} {xs ys : List (K × Addr × Value)} {Q : Value → Shared → Prop} (hr : knd.room A.in1) (ha : (a == sysModules) = false) (hb : (b == sysModules) = false)
    (da : s.heap.DictOfH knd a xs) (db : s.heap.DictOfH knd b ys) (hu : A.units < cLine) (al : Alike A.in1 s xs ys) (h : Q (.bool false) s) :
    wpAny (model prog w) A (compareOp .NotEq (.ref a) (.ref b)) Q E s := by
  have ta := da.typeIs
  have tb := db.typeIs
  have both := PySem.F.sub_dict_dict
  refine wpAny_richCompare_same_room (op := .NotEq) ta tb PySem.F.slot_dict_ne (wpAny_call_entry PySem.F.slot_dict_ne ta PySem.F.entry_dict_ne (?_ : wpAny _ _ (Builtin.Dict.dictSlotArgs "__ne__" ⟨[.ref a, .ref b], []⟩ >>= _) _ _ s) (PySem.F.args_dict_ne_2 _ _)) hu
  refine wpAny_bind (wpAny_bind (wpAny_notOrdered_dict ta (wpAny_pure (wpAny_bind (wpAny_isInstance (T := "dict") tb both ?_)))))
  simp only [Bool.not_true, Bool.false_eq_true, if_false]
  exact wpAny_bind (wpAny_pure (wpAny_bind (wpAny_pure (wpAny_bind (pairs_ok hr ha hb da db al (wpAny_pure ⟨_, rfl, nofun, h⟩))))))
end
end FU.DtK
namespace FU
open PySem PySem.Spec PyProof.Rows L2
open Evl (Ex)
/-- a tuple of its own -/
def tupO (xs : List V) : Wd := ⟨fun v H => ∃ p, v = .ref p ∧ H p = some (.tup xs), fun e ⟨p, h1, h2⟩ => ⟨p, h1, e _ _ h2⟩⟩
theorem nl_tupO {xs : List V} : NL (tupO xs) := fun e ⟨p, h1, h2⟩ => ⟨p, h1, e _ _ h2 fun ys z => by cases z⟩
theorem tupO.tup {K : PySem.W.Frag} {xs : List V} {v : V} {H : Hp} (h : tupO xs v H) : tupP K (xs.map isv) v H := by
  obtain ⟨p, e, h1⟩ := h
  exact ⟨p, xs, e, Evl.st_of h1, Alls.isv.mpr rfl⟩
def dTP (kvs : List (List Key × V)) : Wd := ⟨fun v H => ∃ p, v = .ref p ∧ H p = some (.dT kvs), fun e ⟨p, h1, h2⟩ => ⟨p, h1, e _ _ h2⟩⟩
theorem nl_dTP {kvs : List (List Key × V)} : NL (dTP kvs) := fun e ⟨p, h1, h2⟩ => ⟨p, h1, e _ _ h2 fun ys z => by cases z⟩
section
variable {X : Cx} {σ : L2.St} {H : Hp} {a b e : Expr} {es : List Expr} {pos px : Pos}
theorem x_tupO {xs : List V} {k : Nat} (h : EvA X es σ H (xs.map isv)) (hl : xs.length ≤ 100000 := by simp) : EvE X (.Tuple es k pos) σ H (tupO xs) := .of (pe_tup rA) fun H1 e1 Q q => h H1 e1 _ fun vs H2 e2 hvs => by
  have := Alls.isv.mp hvs
  subst this
  exact ⟨Evl.sz_of hl, fun p hp => q _ _ (e2.trans (Ex.new hp)) ⟨p, rfl, upd_same⟩⟩
/-- d[t] -/
theorem x_dgetT {kvs : List (List Key × V)} {k : List Key} {v : V} (hu : X.A.units + 1 < cLine) (ha : EvE X a σ H (dTP kvs)) (hb : EvE X b σ H (tupO (k.map kV))) (hv : valV kvs k = some v) (hs : NoSl b := by exact fun _ _ => rfl) : EvE X (.Subscript a b pos) σ H (isv v) :=
  .of (pe_dget hu rE rE hs) fun H1 e1 Q q => ha H1 e1 _ fun x H2 e2 ⟨p, ex, hp⟩ => hb H2 (e1.trans e2) _ fun y H3 e3 ⟨t, ey, ht⟩ => by
    subst ey
    exact ⟨p, v, ex, by rw [← hv]; exact DGet.t (e3 _ _ hp) ht, q _ H3 (e2.trans e3) rfl⟩
theorem pd_get {α β : Type} {F : α → β → Prop} : ∀ {l : List α} {m : List β} {i : Nat} {q : β}, Paired F l m → m[i]? = some q → ∃ p, l[i]? = some p ∧ F p q
  | _, _, _, _, .nil, h => by simp at h
  | a :: l, b :: m, 0, q, .cons h t, e => by
    obtain rfl : b = q := by simpa using e
    exact ⟨a, rfl, h⟩
  | a :: l, b :: m, i + 1, q, .cons h t, e => by
    obtain ⟨p, h1, h2⟩ := pd_get t (i := i) (q := q) (by simpa using e)
    exact ⟨p, by simpa using h1, h2⟩
/-- d != e, alike -/
def rNeT : R2 := fun x y H Q => ∃ a b kvs, x = .ref a ∧ y = .ref b ∧ H a = some (.dT kvs) ∧ H b = some (.dT kvs) ∧ (∀ p ∈ kvs, flatB p.2 = true) ∧ Q (.bl false) H
theorem op_neT (hu : X.A.units + 1 < cLine) : OpR X (compareOp .NotEq) rNeT := by
  intro pins s σ H x y v u Q I rx ry h
  obtain ⟨a, b, kvs, rfl, rfl, ea, eb, fl, q⟩ := h
  obtain rfl : v = Value.ref a := rx
  obtain rfl : u = Value.ref b := ry
  obtain ⟨_, ya, xs, ra, da⟩ := dt_of I.hok ea
  obtain ⟨_, yb, ys, rb, db⟩ := dt_of I.hok eb
  have hlx : kvs.length = xs.length := Paired.length ra
  have hly : kvs.length = ys.length := Paired.length rb
  refine DtK.ne_ok (knd := tupleKind (mixKind X.prog X.w)) (tupleKind_room_in1 hu) ya yb da db (by omega) ⟨by omega, fun i p q' hp hq => ?_⟩ ⟨.bl false, H, I, rfl, q⟩
  obtain ⟨kv, h1, h2, h3, h4⟩ := pd_get ra hp
  obtain ⟨kv', h1', h2', h3', h4'⟩ := pd_get rb hq
  rw [h1] at h1'
  cases h1'
  exact ⟨h2.symm.trans h2', eqAt_same h4 h4' (fl _ (List.mem_of_getElem? h1))⟩
theorem x_neT {kvs : List (List Key × V)} (hu : X.A.units + 1 < cLine) (ha : EvE X a σ H (dTP kvs)) (hb : EvE X b σ H (dTP kvs)) (hf : ∀ p ∈ kvs, flatB p.2 = true) : EvT X (.Compare a [.NotEq] [b] pos) σ H false := t_op (op_neT hu) ha hb fun x y H1 _ ⟨p, hx, hp⟩ ⟨p2, hy, hp2⟩ Q q => ⟨p, p2, kvs, hx, hy, hp, hp2, hf, q H1 (Ex.refl _)⟩
end
end FU
end
section
set_option maxRecDepth 100000
set_option maxHeartbeats 1000000
namespace FU
open PySem PySem.Spec PyProof.Rows L2
open Evl (Ex)
/-! dict(list of pairs), the keys tuples -/
def itemP (kv : List Key × V) : Wd := ⟨fun v H => ∃ p b, v = .ref p ∧ H p = some (.tup [.ref b, kv.2]) ∧ H b = some (.tup (kv.1.map kV)), fun e ⟨p, b, h1, h2, h3⟩ => ⟨p, b, h1, e _ _ h2, e _ _ h3⟩⟩
theorem nl_itemP {kv : List Key × V} : NL (itemP kv) := fun e ⟨p, b, h1, h2, h3⟩ => ⟨p, b, h1, e _ _ h2 (fun ys z => nomatch z), e _ _ h3 fun ys z => nomatch z⟩
theorem all_new : ∀ {ys acc : List (List Key × Addr × Value)}, ((acc ++ ys).map (·.1)).Nodup → PySem.storedAllH acc ys = acc ++ ys
  | [], acc, _ => by simp [PySem.storedAllH]
  | y :: ys, acc, h => by
    have hn : y.1 ∉ acc.map (·.1) := fun hm => by
      rw [List.map_append, List.map_cons] at h
      exact (List.nodup_append.mp h).2.2 _ hm _ List.mem_cons_self rfl
    have e : storedH acc y.1 y.2.1 y.2.2 = acc ++ [y] := storedH_new (atKey_none_of_get fun j p hj => hn (List.mem_map.mpr ⟨_, List.mem_of_getElem? hj, rfl⟩)) _ _
    show PySem.storedAllH (storedH acc y.1 y.2.1 y.2.2) ys = _
    rw [e, all_new (by rw [List.append_assoc]; exact h), List.append_assoc]; rfl
section
variable {X : Cx} {σ : L2.St} {H : Hp} {s : Shared} {pins : List (Addr × Obj)}
theorem items_ok (I : L2.Inv X pins σ H s) : ∀ {kvs : List (List Key × V)} {ps : List V}, Alls (kvs.map itemP) ps H → ∃ (xs : List (List Key × Addr × Value)) (Ts : List Addr), KT H kvs xs ∧ ps = Ts.map V.ref ∧ Ts.length = xs.length ∧ ∀ (j : Nat) (T : Addr) (x : List Key × Addr × Value), Ts[j]? = some T → xs[j]? = some x → PySem.PairAt s.heap T (.ref x.2.1) x.2.2
  | [], [], _ => ⟨[], [], .nil, rfl, rfl, fun j T x h _ => by simp at h⟩
  | [], _ :: _, h => h.elim
  | _ :: _, [], h => h.elim
  | kv :: kvs, v :: ps, ⟨⟨p, b, hv, hp, hb⟩, hr⟩ => by
    obtain ⟨xs, Ts, h1, h2, h3, h4⟩ := items_ok I hr
    obtain ⟨_, its, r, o, g1, g2, n, g3⟩ := (show ObjOk X.prog X.w H s.heap p (.tup [.ref b, kv.2]) from I.hok p _ hp)
    cases r with
    | @cons _ u1 _ r1 ra rr =>
      cases rr with
      | @cons _ u2 _ r2 rb rr2 =>
        cases rr2
        cases ra
        refine ⟨(kv.1, b, u2) :: xs, p :: Ts, .cons ⟨rfl, hb, rb⟩ h1, by rw [hv, h2]; rfl, by rw [List.length_cons, List.length_cons, h3], fun j T x hT hx => ?_⟩
        cases j with
        | zero =>
          simp at hT hx
          subst hT hx
          exact .inl ⟨o, g1, g2, n, g3⟩
        | succ j => exact h4 j T x (by simpa using hT) (by simpa using hx)
def rDictT (K : PySem.W.Frag) : List V → Hp → VK → Prop := fun xs H Q => ∃ (a : Addr) (ps : List V) (kvs : List (List Key × V)), xs = [.ref a] ∧ SqL K H a ps ∧ Alls (kvs.map itemP) ps H ∧ (kvs.map (·.1)).Nodup ∧ ∀ p, H p = none → Q (.ref p) (upd H p (.dT kvs))
theorem call_dictT (hcalm : X.calm = true) (hu : X.A.units + 2 < cLine) : CallR X (.type "dict") (rDictT X.K) := by
  intro pins s σ H xs us Q I r q
  obtain ⟨a, ps, kvs, ex, hq, hp, hnd, q⟩ := q
  subst ex
  obtain ⟨u, eu, rx⟩ := vals1 r
  subst eu
  cases rx
  obtain ⟨its, rv, pl, hz⟩ := I.list hq
  obtain ⟨ys, Ts, hkt, hps, hTl, hpa⟩ := items_ok I hp
  have ei : its = Ts.map Value.ref := by rw [hps] at rv; exact refs_at rv
  subst ei
  obtain ⟨o, n, ho, hc, hd, hdat⟩ := pl
  have hlen : kvs.length = ys.length := Paired.length hkt
  have hys : (ys.map (·.1)).Nodup := by
    have : kvs.map (·.1) = ys.map (·.1) := by
      have : ∀ {l : List (List Key × V)} {m : List (List Key × Addr × Value)}, KT H l m → l.map (·.1) = m.map (·.1) := by
        intro l m q
        induction q with
        | nil => rfl
        | cons h t ih => rw [List.map_cons, List.map_cons, h.1, ih]
      exact this hkt
    rw [← this]; exact hnd
  have hzz : ys.length ≤ sizeLine := by
    have := rv.length
    rw [List.length_map] at this
    omega
  have hkeys : ∀ x ∈ ys, ∃ b, x.2.1 = b ∧ H b = some (.tup (x.1.map kV)) := fun x hx => by
    obtain ⟨i, hi, rfl⟩ := List.getElem_of_mem hx
    obtain ⟨kv, h1, h2, h3, h4⟩ := pd_get hkt (List.getElem?_eq_getElem hi)
    exact ⟨_, rfl, by rw [← h2]; exact h3⟩
  refine PySem.call_dict_pairsH (knd := tupleKind (mixKind X.prog X.w)) (ps := ys) (PySem.PairArg.list a (Ts.map Value.ref).toArray (fun j => Ts.getD j 0) (ys.map fun x => (.ref x.2.1, x.2.2))) (I.ok.hd hcalm) (show X.A.units + 2 < cLine from hu) ⟨⟨o, n, ho, hc, hd, hdat⟩, by simp [hTl], fun j k v hj => ?_⟩ ⟨by simp, fun i key v hi => ?_⟩ (fun h' hk x hx => ?_) (by rw [List.length_map]; exact hzz) fun h' tk hd' hk => ?_
  · rw [List.getElem?_map] at hj
    obtain ⟨x, hx, hxe⟩ := Option.map_eq_some_iff.mp hj
    cases hxe
    have hjl : j < Ts.length := by rw [hTl]; exact (List.getElem?_eq_some_iff.mp hx).1
    have hT : Ts[j]? = some (Ts.getD j 0) := by rw [List.getD_eq_getElem?_getD, List.getElem?_eq_getElem hjl]; rfl
    refine ⟨?_, hpa j _ x hT hx⟩
    rw [List.getElem?_toArray, List.getElem?_map, hT]; rfl
  · have hi : (ys.map fun x => ((.ref x.2.1 : Value), x.2.2))[i]? = some (key, v) := hi
    rw [List.getElem?_map] at hi
    obtain ⟨x, hx, hxe⟩ := Option.map_eq_some_iff.mp hi
    cases hxe
    exact ⟨x.1, x.2.1, hx, rfl⟩
  · obtain ⟨b, e, hb⟩ := hkeys x hx
    obtain ⟨o', items, n', g1, g2, g3, g4⟩ := key_of I.hok hb
    subst e
    exact ⟨o', items, n', hk _ _ (Nat.ne_of_lt (Heap.lt_size g1)) (by simp) g1, g2, g3, g4⟩
  · have hm : (s.heap.objs.size == sysModules) = false := beq_eq_false_iff_ne.mpr (Nat.ne_of_gt I.big)
    rw [all_new (acc := []) (by simpa using hys), List.nil_append] at hd'
    obtain ⟨o', es, ep, g1, g2, g3, g4, g5, g6⟩ := hd'
    have hfr := I.hok.fresh (Nat.le_refl s.heap.objs.size)
    exact ⟨.ref s.heap.objs.size, upd H s.heap.objs.size (.dT kvs), I.laid (t' := tk) (fun b o e => hk b o (by simp) e) (Nat.le_refl _) (show ObjOk X.prog X.w _ _ _ (.dT kvs) from ⟨by rw [hlen]; exact hzz, hm, ys, (hkt.keeps fun b zs e => by rw [upd_ne (ne_of_none e hfr)]; exact e), o', es, ep, g1, g2, g3, g4, g6⟩), rfl, q _ hfr⟩
end
section
variable {X : Cx} {σ : L2.St} {H : Hp} {e : Expr} {pos px : Pos}
theorem x_dictT {kvs : List (List Key × V)} (hm : X.mg "dict" = none) (h : EvE X e σ H (lstP X.K (kvs.map itemP))) (hnd : (kvs.map (·.1)).Nodup) (hu : X.A.units + 2 < cLine) (hcalm : X.calm = true := by rfl) (hg : Gl X "dict" := by rfl) (hs : Pl0 X e := by rfl) (hpl : (backTo pos (starEach [] X.env)).any (·.1) = false := by rfl) : EvE X (.Call (.Name "dict" px) [e] [] pos) σ H (dTP kvs) :=
  x_bty (call_dictT hcalm hu) hm (a_cons h a_nil hs) (fun vs H1 _ hv Q q => by
    obtain ⟨v, rfl, p, xs, rfl, hx, ha⟩ := Alls.one hv
    exact ⟨p, xs, kvs, rfl, hx, ha, hnd, fun t ht => q _ _ (Ex.new ht) ⟨t, rfl, upd_same⟩⟩) PyProof.Rows.boot_dict hg (by decide) (by decide) hs hpl
end
end FU
end
section
set_option maxRecDepth 100000
set_option maxHeartbeats 1000000
namespace FU
open PySem PySem.Spec PyProof.Rows L2
open Evl (Ex)
/-! {k: v for x in ..}, the keys tuples -/
theorem d_putT {X : Cx} {pins : List (Addr × Obj)} {σ : L2.St} {H : Hp} {s : Shared} {E : Value → Shared → Prop} {D b : Addr} {kvs : List (List Key × V)} {k : List Key} {v : V} {r : Value} {Q : Unit → Shared → Prop} (hu : X.A.units < cLine) (I : L2.Inv X pins σ H s) (hD : H D = some (.dT kvs)) (hb : H b = some (.tup (k.map kV))) (hz : kvs.length < sizeLine)
    (rv : RelV v r) (h : ∀ s', L2.Inv X pins σ (upd H D (.dT (putK kvs k v))) s' → Q () s') : wpAny (model X.prog X.w) X.A (dictSet D (.ref b) r) Q E s := by
  obtain ⟨z, hd, xs, rel, dd⟩ := dt_of I.hok hD
  have hxz : xs.length ≤ sizeLine := by rw [← Paired.length rel]; exact z
  have hl : (putK kvs k v).length ≤ sizeLine := by have := length_putK kvs k v; omega
  refine wpAny_dictSet_heap (hsz := hxz) (show (tupleKind (mixKind X.prog X.w)).room X.A from hu) (key_of I.hok hb) dd fun h' dd' hs => h _ ?_
  obtain ⟨q, es, ep, hq, h2, h3, h4, _, h5⟩ := dd'
  refine d_write I (by rw [hD]; exact True.intro) hs ⟨q, hq⟩ ⟨hl, hd, _, (rel.put k hb rv).keeps fun c ys ec => ?_, q, es, ep, hq, h2, h3, h4, h5⟩
  rw [upd_ne (ne_of ec hD (fun z => nomatch z))]
  exact ec
section
variable {X : Cx}
/-- D is the new dict; x stands at place i -/
def tDcT (wi : TI) (i : Nat) (tk tv : TE) : TE := fun σ H Q => wi σ H fun J H1 => ∀ D, H1 D = none → ∃ W : Nat → Nat → Hp → Prop, (∃ m, W 0 m (upd H1 D (.dT []))) ∧ ∀ j m H, W j m H →
  (J.stop j H ∧ Q (.ref D) H) ∨ (J.go j H ∧ ∃ Nx : Hp → Prop, (∀ H', Nx H' → ∃ m', m' < m ∧ W (j + 1) m' H') ∧ ∀ x H', J.yld j H x H' → wipe ((wipe σ [i]).set i (some x)) [i] = wipe σ [i] ∧
    tk ((wipe σ [i]).set i (some x)) H' fun y H4 => tv ((wipe σ [i]).set i (some x)) H4 fun z H5 => ∃ kvs k b, y = .ref b ∧ H5 b = some (.tup (k.map kV)) ∧ H5 D = some (.dT kvs) ∧ kvs.length < sizeLine ∧ Nx (upd H5 D (.dT (putK kvs k z))))
theorem pe_dcT {kx vx iter : Expr} {x : Str} {px : Pos} {scope : Scope} {i : Nat} {pos : Pos} {wi : TI} {tk tv : TE} (hu : X.A.units < cLine) (hc : X.calm = true) (hN : X.N.Nodup) (hi : PI X (.Name x px) iter wi) (ok : BlkOk X.N X.env.scope scope [(x, i)])
    (hg : ∀ (s : Shared) (H : Hp) (C : Addr) (cl : List (Str × Addr)) (fp : List Addr), L2.PG (X.blk s H scope (compEnvC scope cl C X.env) fp) (.Name x px) (gName i))
    (hk : ∀ (s : Shared) (H : Hp) (C : Addr) (cl : List (Str × Addr)) (fp : List Addr), PE (X.blk s H scope (compEnvC scope cl C X.env) fp) kx tk)
    (he : ∀ (s : Shared) (H : Hp) (C : Addr) (cl : List (Str × Addr)) (fp : List Addr), PE (X.blk s H scope (compEnvC scope cl C X.env) fp) vx tv) (hs : ∀ x, foldedSetIterable iter X.env x = pure x := by intro _; rfl) :
    PE X (.DictComp kx vx [⟨.Name x px, iter, [], 0⟩] scope pos) (tDcT wi i tk tv) := by
  refine ⟨fun pins s σ H Q I h => ?_⟩
  rw [arm_eval_DictComp]
  have clos : ∀ y ∈ scope.names, y.2 = .free → ∃ c, X.env.cells.lookup y.1 = some c := fun y hy e => I.ok.has _ (ok.free y hy e)
  refine wpAny_comprehension_free (use := none) rfl hs (closure_ok clos) ok.kind (fun y hy e => by rw [ok.uniq y hy, e]) (thn (hi.run pins s σ H _ I h) fun _ _ h1 => thn h1 fun _ s2 ⟨it, fp, tn, J, H2, ei, I2, T, st2, f2, q⟩ => ?_)
  subst ei
  refine wpAny_newObj_type (newEnv_comp ?_)
  obtain ⟨W, ⟨m0, w0⟩, turn⟩ := q s2.heap.objs.size (I2.hok.fresh (Nat.le_refl _))
  have keep1 : ∀ b o, s2.heap.get? b = some o → (s2.heap.push { cls := .type "dict", data := .dict #[] }).get? b = some o := fun b o e => Heap.get?_push_of_some _ e
  have I3 := I2.laid (o := .dT []) (t' := s2.toks) keep1 (Nat.le_refl _) (dt_empty s2.heap I2.big)
  have bel : ∀ b ∈ fp, b < s2.heap.objs.size := fun b hb => Heap.lt_size (T.obj _ _ st2 b hb).choose_spec.1
  have st3 := T.keep _ _ _ st2 fun b _ o e => keep1 b o e
  generalize hD : s2.heap.objs.size = D at *
  generalize hs3 : ({ s2 with heap := s2.heap.push { cls := .type "dict", data := .dict #[] } } : Shared) = s3 at *
  have es3 : s3.heap = s2.heap.push { cls := .type "dict", data := .dict #[] } := by rw [← hs3]
  have f3 : ∀ b ∈ fp, FpOk X pins (upd H2 D (.dT [])) b ∧ b < s3.heap.objs.size := fun b hb => ⟨⟨(upd_ne (Nat.ne_of_lt (bel b hb))).trans (f2 b hb).1, (f2 b hb).2⟩, by
    rw [es3, Heap.size_push, hD]
    exact Nat.lt_succ_of_lt (bel b hb)⟩
  have I4 := block_start I3 ok hN f3
  rw [← es3] at st3
  have rg := hg s3 (upd H2 D (.dT [])) s3.heap.objs.size (cellsFrom (s3.heap.objs.size + 1) scope.names (cloFrom X.env.cells scope.names [])) fp
  have rk := hk s3 (upd H2 D (.dT [])) s3.heap.objs.size (cellsFrom (s3.heap.objs.size + 1) scope.names (cloFrom X.env.cells scope.names [])) fp
  have rv := he s3 (upd H2 D (.dT [])) s3.heap.objs.size (cellsFrom (s3.heap.objs.size + 1) scope.names (cloFrom X.env.cells scope.names [])) fp
  show codeAny _ _ (.compStart (.DictComp kx vx [⟨.Name x px, iter, [], 0⟩] scope pos) 0 (.ref it) (.ref D) (compEnvC scope (cellsFrom (s3.heap.objs.size + 1) scope.names (cloFrom X.env.cells scope.names [])) s3.heap.objs.size X.env)) (compPost (model X.prog X.w) X.A X.xe none _ (.ref D) s3.heap.objs.size) { s3 with heap := pushCells (s3.heap.push { cls := .type "dict", data := .dict #[] }) scope.names }
  generalize hce : compEnvC scope (cellsFrom (s3.heap.objs.size + 1) scope.names (cloFrom X.env.cells scope.names [])) s3.heap.objs.size X.env = ce at I4 rg rk rv ⊢
  have cL : ce.locals = s3.heap.objs.size := by subst hce; rfl
  generalize hH3 : upd H2 D (.dT []) = H3 at I3 I4 rg rk rv w0 f3
  generalize hs4 : ({ s3 with heap := pushCells (s3.heap.push { cls := .type "dict", data := .dict #[] }) scope.names } : Shared) = s4 at I4 ⊢
  have st4 : tn 0 s4.heap := T.keep _ _ _ st3 fun b _ o e => by rw [← hs4]; exact pushCells_keeps _ _ _ _ (Heap.get?_push_of_some _ e)
  have own : ∀ {σ' : L2.St} {H' : Hp} {s' : Shared}, L2.Inv (X.blk s3 H3 scope ce fp) [] σ' H' s' → (∀ b ∈ fp, H' b = none) → ∀ b ∈ fp, FpOk (X.blk s3 H3 scope ce fp) [] H' b := fun {σ' H' s'} I' hn b hb =>
    ⟨hn b hb, (I'.ok.exf b hb).1, I'.ok.exfs b hb, .inl hb, fun x c e => (I'.ok.exf b hb).2 x c e, fun p hp => absurd (show p ∈ ([] : List (Addr × Obj)) ++ [] from hp) (by simp)⟩
  have loop : codeAny (model X.prog X.w) X.A (.compLoop (.DictComp kx vx [⟨.Name x px, iter, [], 0⟩] scope pos) 0 (.ref it) (.ref D) ce) (compPost (model X.prog X.w) X.A X.xe none (EP X pins σ Q) (.ref D) s3.heap.objs.size) s4 := by
    refine compLoop_anyD (fun n s' => ∃ j H', L2.Inv (X.blk s3 H3 scope ce fp) [] (wipe σ [i]) H' s' ∧ tn j s'.heap ∧ (∀ b ∈ fp, H' b = none) ∧ W j n H') ?_ m0 ⟨0, H3, I4, st4, fun b hb => (f3 b hb).1.1, w0⟩
    rintro n s5 ⟨j, H5, I5, st5, n5, w5⟩
    rcases turn j n H5 w5 with ⟨stop, qq⟩ | ⟨go, Nx, hNx, step⟩
    · refine thnF (T.done (X.blk s3 H3 scope ce fp) rfl rfl rfl hc j [] s5 _ H5 (fun _ _ => False) I5 (own I5 n5) st5 stop) fun r s6 ⟨hr, I6⟩ => ?_
      subst hr
      have I7 : L2.Inv X pins σ H5 s6 := I3.call' (ch := fp) I6.os I6.base I6.hok I6.bare fun b hb => ⟨(f3 b hb).1.2.2.2.1, (f3 b hb).1.2.1, (f3 b hb).1.2.2.2.2.1, (f3 b hb).1.2.2.2.2.2⟩
      have nC : H5 s3.heap.objs.size = none := by rw [← cL]; exact I6.free
      obtain ⟨m, hm, _⟩ := I6.loc
      have hm : s6.heap.Ns s3.heap.objs.size m := by rw [← cL]; exact hm
      obtain ⟨f0, f1, f2, f3', f4, f5⟩ := I3.fpOk (Nat.le_refl _) nC
      exact ⟨m, hm, fun h'' sb => ⟨.ref D, H5, I7.turned (t' := s6.toks) (fun b o hb e => (sb.2 b hb).trans e) f0 f1 f3' f4 f5, rfl, qq⟩⟩
    · refine thnF (T.item (X.blk s3 H3 scope ce fp) rfl rfl rfl hc j [] s5 _ H5 (fun _ _ => False) I5 (own I5 n5) st5 go) fun r s6 ⟨u, hr, h6⟩ => ?_
      subst hr
      refine thnF h6 fun _ s7 ⟨xx, H7, I7, r7, y7, st7, n7⟩ => ?_
      have I7' := I7.pinned (own I7 n7) (T.obj _ _ st7)
      obtain ⟨hw, q7⟩ := step xx H7 y7
      refine thnF (rg.run _ s7 _ H7 xx u (fun σ8 H8 => σ8 = (wipe σ [i]).set i (some xx) ∧ H8 = H7) I7' r7 ⟨rfl, rfl⟩) fun _ s8 ⟨σ8, H8, I8, e1, e2⟩ => ?_
      subst e1 e2
      refine wpAny_pure ?_
      simp only [if_true]
      refine thnF (rk.run _ s8 _ H8 _ I8 q7) fun z s10 ⟨yk, H10, I10, r10, q10⟩ => ?_
      refine thnF (rv.run _ s10 _ H10 _ I10 q10) fun z2 s11 ⟨yv, H11, I11, r11, kvs, k, b, ek, hb, hD11, hz11, nx⟩ => ?_
      subst ek
      obtain rfl : z = Value.ref b := r10
      refine d_putT (X := X.blk s3 H3 scope ce fp) hu I11 hD11 hb hz11 r11 fun s12 I12 => ?_
      obtain ⟨m', hm, w'⟩ := hNx _ nx
      have pin' : ∀ b ∈ fp, ∀ o, s7.heap.get? b = some o → s12.heap.get? b = some o ∧ _ = none := fun b hb o e =>
        let z := I12.pin (b, o) (List.mem_append_right _ (List.mem_append_right _ (mem_pinsAt hb e)))
        ⟨z.1, z.2.1⟩
      refine ⟨m', hm, j + 1, _, (I12.unpinned (pins := [])).weak (by simp) (fun jj v e => ?_), T.keep _ _ _ st7 fun b hb o e => (pin' b hb o e).1, fun b hb => ?_, w'⟩
      · rw [← hw] at e
        exact (wipe_some e).1
      · obtain ⟨o, e, _⟩ := T.obj _ _ st7 b hb
        exact (pin' b hb o e).2
  exact codeAny_compStart_dict loop (T.self X.A 0 _ _ _ st4 loop)
variable {α : Type} {σ : L2.St} {H : Hp} {kx vx iter : Expr} {x : Str} {px pos : Pos}
theorem valV_take {key : α → List Key} {val : α → V} {zs : List α} (hnd : (zs.map key).Nodup) {j : Nat} {z : α} (hz : zs[j]? = some z) : valV ((zs.take j).map fun z => (key z, val z)) (key z) = none := by
  unfold valV
  have : ((zs.take j).map fun z => (key z, val z)).find? (fun kv => decide (kv.1 = key z)) = none := by
    rw [List.find?_eq_none]
    intro p hp
    obtain ⟨y, hy, rfl⟩ := List.mem_map.mp hp
    obtain ⟨n, hn, rfl⟩ := List.getElem_of_mem hy
    rw [List.length_take] at hn
    have hjl := (List.getElem?_eq_some_iff.mp hz)
    obtain ⟨hj, rfl⟩ := hjl
    rw [List.getElem_take]
    simp only [decide_eq_true_eq]
    intro e
    have := (List.getElem_inj (xs := zs.map key) (i := n) (j := j) (h₀ := by rw [List.length_map]; omega) (h₁ := by rw [List.length_map]; omega) hnd).mp (by simpa using e)
    omega
  rw [this]; rfl
theorem x_dcT {i : Nat} {scope : Scope} {zs : List α} {q : α → Wd} {key : α → List Key} {val : α → V} (h : Src X (.Name x px) iter σ H zs q) (hu : X.A.units < cLine) (hz : zs.length ≤ 40000) (hnd : (zs.map key).Nodup)
    (hk : ∀ z ∈ zs, ∀ y H2, Ex H H2 → q z y H2 → ∀ (s : Shared) (H0 : Hp) (C : Addr) (cl : List (Str × Addr)) (fp : List Addr), EvE (X.blk s H0 scope (compEnvC scope cl C X.env) fp) kx ((σ.set i none).set i (some y)) H2 (tupO ((key z).map kV)))
    (hv : ∀ z ∈ zs, ∀ y H2, Ex H H2 → q z y H2 → ∀ (s : Shared) (H0 : Hp) (C : Addr) (cl : List (Str × Addr)) (fp : List Addr), EvE (X.blk s H0 scope (compEnvC scope cl C X.env) fp) vx ((σ.set i none).set i (some y)) H2 (isv (val z)))
    (nd : X.N.Nodup) (ok : BlkOk X.N X.env.scope scope [(x, i)]) (hgx : ∀ (s : Shared) (H : Hp) (C : Addr) (cl : List (Str × Addr)) (fp : List Addr), L2.PG (X.blk s H scope (compEnvC scope cl C X.env) fp) (.Name x px) (gName i)) (hc : X.calm = true := by rfl) (hsi : ∀ y, foldedSetIterable iter X.env y = pure y := by intro _; rfl) :
    EvE X (.DictComp kx vx [⟨.Name x px, iter, [], 0⟩] scope pos) σ H (dTP (zs.map fun z => (key z, val z))) := by
  obtain ⟨wi, hpi, hw⟩ := h.ex
  refine .of (pe_dcT hu hc nd hpi ok hgx (fun s H C cl fp => rB s H C cl fp) (fun s H C cl fp => rB s H C cl fp) hsi) fun H1 e1 Q hq => ?_
  refine hw H1 e1 _ fun J H2 e2 hJ => fun D hD => ?_
  have hwipe : ∀ y : V, wipe ((wipe σ [i]).set i (some y)) [i] = wipe σ [i] := fun y => by
    show ((σ.set i none).set i (some y)).set i none = σ.set i none
    simp
  refine ⟨fun j m H' => m = zs.length - j ∧ j ≤ zs.length ∧ Ex H2 H' ∧ H' D = some (.dT ((zs.take j).map fun z => (key z, val z))), ⟨zs.length, by simp, Nat.zero_le _, Ex.new hD, upd_same⟩, ?_⟩
  rintro j m H' ⟨rfl, hj, eH, hDl⟩
  obtain ⟨hgo, hstop⟩ := hJ H' eH
  by_cases hlt : j < zs.length
  · have hzi := List.getElem?_eq_getElem hlt
    obtain ⟨g1, g2⟩ := hgo j _ hzi
    have hmem : zs[j] ∈ zs := List.getElem_mem hlt
    refine .inr ⟨g1, fun H'' => Ex H2 H'' ∧ H'' D = some (.dT ((zs.take (j + 1)).map fun z => (key z, val z))), fun H'' p' => ⟨zs.length - (j + 1), by omega, rfl, hlt, p'⟩, fun y H3 hy => ?_⟩
    obtain ⟨e3, hq3⟩ := g2 y H3 hy
    refine ⟨hwipe y, ?_⟩
    show wB X scope kx ((σ.set i none).set i (some y)) H3 _
    intro s H0 C cl fp
    refine hk _ hmem y H3 (((e1.trans e2).trans eH).trans e3) hq3 s H0 C cl fp H3 (Ex.refl _) _ fun v H4 e4 ⟨b, ev, hb⟩ => ?_
    show wB X scope vx ((σ.set i none).set i (some y)) H4 _
    intro s H0 C cl fp
    refine hv _ hmem y H4 ((((e1.trans e2).trans eH).trans e3).trans e4) ((q _).st e4 hq3) s H0 C cl fp H4 (Ex.refl _) _ fun u H5 e5 hu5 => ?_
    cases hu5
    have hD5 := e5 _ _ (e4 _ _ (e3 _ _ hDl))
    refine ⟨_, key zs[j], b, ev, e5 _ _ hb, hD5, Evl.sz_lt (by rw [List.length_map, List.length_take]; omega), Ex.mut (((eH.trans e3).trans e4).trans e5) hD, ?_⟩
    rw [upd_same, putK_new _ (valV_take hnd hzi), List.take_succ, hzi, List.map_append]; rfl
  · have e : j = zs.length := by omega
    subst e
    rw [List.take_length] at hDl
    exact .inl ⟨hstop, hq _ H' (e2.trans eH) ⟨D, rfl, hDl⟩⟩
end
end FU
end
section
set_option maxRecDepth 100000
set_option maxHeartbeats 1000000
namespace WK
open PySem PySem.Spec PyProof.Rows L2 FU
open Evl (Ex)
open MR (W Wf textW brk mkW inB ar bth eds birthsL endsL rowN stairW lws rws corner wordOf woGo nL nR stairsL plainW)

def isBarO (b : Int × Int) : Wd := tupO [.int b.1, .int b.2]
theorem isBarO.bar {K : PySem.W.Frag} {b : Int × Int} {v : V} {H : Hp} (h : isBarO b v H) : isBar K b v H := tupO.tup h
def barKey (b : Int × Int) : List L2.Key := [.inl b.1, .inl b.2]
theorem bars_nodup : ∀ n : Nat, n < 7 → ((barsL n).map barKey).Nodup := by decide +kernel
theorem bars_few : ∀ n : Nat, n < 7 → (barsL n).length ≤ 28 := by decide +kernel
def marksK (pat : List Bool) (u : W) : List (List L2.Key × V) := (barsL pat.length).map fun b => (barKey b, V.int (MR.b2i (mkW pat b.1 b.2 u)))
theorem marksK_nodup {pat : List Bool} (h : pat.length ≤ 6) (u : W) : ((marksK pat u).map (·.1)).Nodup := by
  have := bars_nodup pat.length (by omega)
  unfold marksK
  rw [List.map_map]
  exact this
section
variable {X : Cx} {σ : L2.St} {H : Hp} {a b : Expr} {pos : Pos}
theorem x_item {k : List L2.Key} {v : V} {n : Nat} (ha : EvE X a σ H (tupO (k.map kV))) (hb : EvE X b σ H (isv v)) (h1 : starEach [a, b] X.env = (false, eval a X.env) :: starEach [b] X.env := by rfl) (h2 : starEach [b] X.env = (false, eval b X.env) :: starEach [] X.env := by rfl) : EvE X (.Tuple [a, b] n pos) σ H (itemP (k, v)) := .of (pe_tup rA) fun H1 e1 Q q => a_cons ha (a_cons hb a_nil h2) h1 H1 e1 _ fun vs H2 e2 hvs => by
  obtain ⟨x, y, rfl, ⟨t, rfl, ht⟩, hy⟩ := Alls.two hvs
  cases hy
  exact ⟨Evl.sz_of (by show (2 : Nat) ≤ _; decide), fun p hp => q _ _ (e2.trans (Ex.new hp)) ⟨p, t, rfl, upd_same, (Ex.new hp) _ _ ht⟩⟩
end
section
variable {P : Program} {w : World} {K : PySem.W.Frag} {mg : Str → Option Value} {base : Heap}
def ctBarsO (K : PySem.W.Frag) : Ct := fun vs H P => ∃ pat : List Bool, vs = [.str (pstr pat)] ∧ pat.length ≤ 6 ∧ P = lstP K ((barsL pat.length).map isBarO)
theorem ok_barsO (T : Fx K w mg) : C8.Cal P w K mg base 1 "all_bars" (spC (ctBarsO K)) [] := by
  refine cal_of T.d_all_bars T.b_all_bars .nil sc_bars (fun vs H W ⟨_, e, _⟩ => by rw [e]; rfl) fun cdv A outer s H vs Q E W hr hC hQ => ?_
  obtain ⟨pat, rfl, hl, rfl⟩ := hC
  have hlen : (pstr pat).length ≤ 1000 := by rw [pstr_len]; omega
  refine c_asg (k := 1) (P := lstP K ((List.range (pat.length + 1)).map fun (i : Nat) => isI (i : Int))) (x_lstRange T.z_list T.z_range (EvE.is (x_add (x_lenS T.z_len (x_var (P := isS (pstr pat)) 0 rfl rfl) hlen) x_int) (by rw [pstr_len]; rfl)) (by omega)) (fun v H1 e1 hv => ?_) sc_bars.nd
  have hbl : (barsL pat.length).map isBarO = (List.range (pat.length + 1)).flatMap fun (a : Nat) => ((List.range (pat.length + 1)).filter fun (b : Nat) => decide ((a : Int) ≤ (b : Int))).map fun (b : Nat) => isBarO ((a : Int), (b : Int)) := by
    simp only [barsL, List.map_flatMap, List.map_map]
    rfl
  rw [hbl] at hQ
  refine c_ret (x_lc2 (k1 := 2) (k2 := 3) (q := fun (i : Nat) => isI (i : Int)) (q2 := fun (i : Nat) => isI (i : Int)) (f := fun (a b : Nat) => decide ((a : Int) ≤ (b : Int))) (p := fun (a b : Nat) => isBarO ((a : Int), (b : Int))) (src_list (x_var 1 rfl hv)) (by decide) ?_ (fun _ _ _ _ => nl_tupO) (fun _ _ => nl_isv) (fun z _ v2 s H0 C cl fp => srcB_var (k := 1) rfl hv)
    (fun z hz wv hw v2 u H2 e2 h1 h2 s H0 C cl fp => ⟨t_le (x_var 2 rfl h1) (x_var 3 rfl h2), fun _ => x_tupO (xs := [.int (z : Int), .int (wv : Int)]) (a_cons (x_var 2 rfl h1) (a_cons (x_var 3 rfl h2) a_nil))⟩) sc_bars.nd (blkOk_by (N := ["pattern", "places", "first", "last"]) (sc := C8.fnScope (top 15)) (by decide +kernel)) (fun _ _ _ _ _ => pg_name sc_bars.nd rfl (Or.inl rfl)) (fun _ _ _ _ _ => pg_name sc_bars.nd rfl (Or.inl rfl))) fun v2 H2 e2 h2 => hQ v2 H2 (e1.trans e2) h2
  have : (pat.length + 1) * (pat.length + 1) ≤ 7 * 7 := Nat.mul_le_mul (by omega) (by omega)
  rw [List.length_range]; omega
theorem ok_lbarsO (T : Fx K w mg) : C8.Cal P w K mg base 1 "_law_bars" (spC (ctBarsO K)) [] := by
  refine cal_of (k := 0) T.d_law_bars T.b_law_bars .nil sc_lbars (fun vs H W ⟨_, e, _⟩ => by rw [e]; rfl) fun cdv A outer s H vs Q E W hr hC hQ => ?_
  obtain ⟨pat, rfl, hl, rfl⟩ := hC
  have hlen : (pstr pat).length ≤ 1000 := by rw [pstr_len]; omega
  let F : Nat → List Wd := fun i => (List.range i).flatMap fun (a : Nat) => (List.range (pat.length + 1 - a)).map fun (i : Nat) => isBarO ((a : Int), (a : Int) + i)
  have hF : (barsL pat.length).map isBarO = F (pat.length + 1) := by
    rw [← lawBars_eq _ (by omega), lawBars, List.map_flatMap]
    simp only [List.map_map]; rfl
  have hFs : ∀ i, F (i + 1) = F i ++ (List.range (pat.length + 1 - i)).map fun (j : Nat) => isBarO ((i : Int), (i : Int) + j) := fun i => by
    show (List.range (i + 1)).flatMap _ = _
    rw [range_snoc, List.flatMap_append, List.flatMap_singleton]
  have hFl : ∀ i, i ≤ 7 → (F i).length ≤ 7 * i := fun i => by
    induction i with
    | zero => intro _; exact Nat.le_refl _
    | succ i ih =>
      intro hi
      rw [hFs, List.length_append, List.length_map, List.length_range]
      have := ih (by omega)
      omega
  rw [hF] at hQ
  refine c_asg (k := 1) (P := ownP (F 0)) (x_lstO a_nil (by show (0 : Nat) ≤ 100000; decide)) (fun v H2 e2 hv => ?_) sc_lbars.nd
  refine c_for (k := 2) (src_r1 (n := pat.length + 1) (EvE.is (x_add (x_lenS T.z_len (x_var (P := isS (pstr pat)) 0 rfl rfl) hlen) x_int) (by rw [pstr_len]; congr 1)) (by omega) T.z_range) (fun H3 i σ' H' => (∃ v z, σ' = [some (.str (pstr pat)), some v, z, none] ∧ ownP (F i) v H') ∧ Ex H3 H') (fun H3 e3 => ⟨⟨v, none, rfl, (ownP _).st e3 hv⟩, Ex.refl _⟩) (fun _ _ _ _ h => h.2) (fun H3 i z σ' H' e3 hz h b H4 e4 hb => ?_) (fun H3 σ' H' e3 h => ?_) sc_lbars.nd
  · obtain ⟨⟨v, z0, rfl, hv⟩, e5⟩ := h
    obtain ⟨rfl, hi⟩ := range_get hz
    have hb : b = .int z := hb
    subst hb
    have hv4 := (ownP (F z)).st e4 hv
    have hc : ((pat.length : Int) + 1 - z).toNat = pat.length + 1 - z := by omega
    refine c_asg (k := 1) (P := ownP (F (z + 1))) ?_ (fun v5 H5 e6 h5 => c_nil ⟨⟨v5, _, rfl, h5⟩, (e5.trans e4).trans e6⟩) sc_lbars.nd
    rw [hFs]
    refine x_catO (x_var (P := ownP (F z)) 1 rfl hv4) (x_lcO (k := 3) (zs := List.range (pat.length + 1 - z)) (q := fun (j : Nat) => isI ((z : Int) + j)) (p := fun (j : Nat) => isBarO ((z : Int), (z : Int) + j)) ?_ (by rw [List.length_range]; omega) (fun _ _ => nl_tupO) (fun j hj y H5 e5 hy s H0 C cl fp => x_tupO (xs := [.int (z : Int), .int ((z : Int) + j)]) (a_cons (x_var (P := isI z) 2 rfl rfl) (a_cons (x_var (P := isI ((z : Int) + j)) 3 rfl hy) a_nil))) sc_lbars.nd (blkOk_by (N := ["_law_arrows", "_law_found", "_law_a", "_law_b"]) (sc := C8.fnScope (top 50)) (by decide +kernel)) (fun _ _ _ _ _ => pg_name sc_lbars.nd rfl (Or.inl rfl))) ?_
    · rw [← hc]
      exact src_r2 (lo := z) (hi := (pat.length : Int) + 1) (x_var (P := isI z) 2 rfl rfl) (EvE.is (x_add (x_lenS T.z_len (x_var (P := isS (pstr pat)) 0 rfl rfl) hlen) x_int) (by rw [pstr_len])) (by omega) T.z_range
    · have := hFl z (by omega)
      rw [List.length_map, List.length_range]; omega
  · obtain ⟨⟨v, z0, rfl, hv⟩, e5⟩ := h
    rw [List.length_range] at hv
    exact c_ret (x_own (x_var (P := ownP (F (pat.length + 1))) 1 rfl hv)) fun v6 H6 e6 h6 => hQ v6 H6 (((e2.trans e3).trans e5).trans e6) h6
/-! ### marks, of the program and of the law -/
theorem sc_marks : FnScope ["pattern", "word", "bar"] ["pattern", "word"] (C8.fnScope (top 26)) := C8.fnScope_by (by decide +kernel)
theorem ok_marks (T : Fx K w mg) (n : Nat) : C8.Cal P w K mg base (2 * n + 5) "marks" (spC (ctWord K T.C n fun pat u => dTP (marksK pat u))) [] := by
  refine cal_of (k := 2 * n + 4) T.d_marks T.b_marks .nil sc_marks (fun vs H W h => ctWord.len h) fun cdv A outer s H vs Q E W hr hC hQ => ?_
  obtain ⟨pat, u, v, rfl, hu, hl, hw, hd, rfl⟩ := hC
  have hmk : ∀ (X : Cx), X.prog = P → X.w = w → X.K = K → X.mg = mg → X.base = base → C8.Cal X.prog X.w X.K X.mg X.base (n + 3) "mark" (spC (ctMark K T.C n)) [] := fun X h1 h2 h3 h4 h5 => by rw [h1, h2, h3, h4, h5]; exact ok_mark T n
  refine c_expr (x_calR (P := isN) (ok_fit T n) hr (a_cons (x_var (P := isS (pstr pat)) 0 rfl rfl) (a_cons (x_var (P := isW K T.C u) 1 rfl hu) a_nil)) fun vs H1 _ hvs => ?_) (fun _ H1 e1 _ => ?_)
  · obtain ⟨a, b, rfl, ha, hb⟩ := Alls.two hvs
    cases ha
    refine ⟨pat, [b], [u], rfl, ⟨hb, trivial⟩, hl, fun z hz => ?_, by simp, rfl⟩
    simp at hz
    subst hz
    exact ⟨hw, hd⟩
  have hu1 := (isW K T.C u).st e1 hu
  refine c_ret (x_dcT (i := 2) (q := isBarO) (key := barKey) (val := fun b => V.int (MR.b2i (mkW pat b.1 b.2 u))) (zs := barsL pat.length) (src_list (x_cal (ok_barsO T) hr (a_cons (x_var (P := isS (pstr pat)) 0 rfl rfl) a_nil) fun vs H1 _ hv => ⟨pat, (Alls.isv (xs := [.str (pstr pat)])).mp hv, hl, rfl⟩)) (by have := room_u hr; show (A.deeper _).units < _; omega) (by have := bars_few pat.length (by omega); omega) (bars_nodup pat.length (by omega)) (fun z hz y H5 e5 hy s H0 C cl fp => x_var (P := isBarO z) 2 rfl hy) (fun z hz y H5 e5 hy s H0 C cl fp => ?_) sc_marks.nd (blkOk_by (N := ["pattern", "word", "bar"]) (sc := C8.fnScope (top 26)) (by decide +kernel)) (fun _ _ _ _ _ => pg_name sc_marks.nd rfl (Or.inl rfl))) fun v2 H2 e2 h2 => hQ v2 H2 (e1.trans e2) h2
  refine x_cal (hmk _ rfl rfl rfl rfl rfl) (show Room (n + 3) _ from hr.mono (by omega)) (a_cons (x_var (P := isS (pstr pat)) 0 rfl rfl) (a_cons (x_var (P := isW K T.C u) 1 rfl ((isW K T.C u).st e5 hu1)) (a_cons (x_var (P := isBar K z) 2 rfl (isBarO.bar hy)) a_nil))) fun vs H6 _ hvs => ?_
  obtain ⟨a1, a2, a3, rfl, h1, h2, h3⟩ := Alls.three hvs
  cases h1
  exact ⟨pat, u, z, a2, a3, rfl, h2, h3, hl, hw, hd, rfl⟩
def ctShape (K : PySem.W.Frag) (n : Nat) (R : List Bool → W → Wd) : Ct := fun vs H P => ∃ (pat : List Bool) (u : W) (v : V), vs = [.str (pstr pat), v] ∧ isSh K u v H ∧ pat.length ≤ 6 ∧ Wf pat.length u ∧ u.depth ≤ n ∧ P = R pat u
theorem ctShape.len {n : Nat} {R : List Bool → W → Wd} {vs : List V} {H : Hp} {W : Wd} (h : ctShape K n R vs H W) : vs.length = 2 := by
  obtain ⟨_, _, _, e, _⟩ := h
  rw [e]; rfl
theorem sc_lmarks : FnScope ["_law_arrows", "_law_shape_here", "_law_bar"] ["_law_arrows", "_law_shape_here"] (C8.fnScope (top 55)) := C8.fnScope_by (by decide +kernel)
theorem ok_lmarks (T : Fx K w mg) (n : Nat) : C8.Cal P w K mg base (n + 3) "_law_marks" (spC (ctShape K n fun pat u => dTP (marksK pat u))) [] := by
  refine cal_of (k := n + 2) T.d_law_marks T.b_law_marks .nil sc_lmarks (fun vs H W h => ctShape.len h) fun cdv A outer s H vs Q E W hr hC hQ => ?_
  obtain ⟨pat, u, v, rfl, hu, hl, hw, hd, rfl⟩ := hC
  have hmk : ∀ (X : Cx), X.prog = P → X.w = w → X.K = K → X.mg = mg → X.base = base → C8.Cal X.prog X.w X.K X.mg X.base (n + 2) "_law_mark" (spC (ctLMark K n)) [] := fun X h1 h2 h3 h4 h5 => by rw [h1, h2, h3, h4, h5]; exact ok_lmark T n
  refine c_ret (x_dictT T.z_dict (EvE.imp (x_lc (k := 2) (zs := barsL pat.length) (q := isBarO) (p := fun b => itemP (barKey b, V.int (MR.b2i (mkW pat b.1 b.2 u)))) (src_list (x_cal (ok_lbarsO T) hr (a_cons (x_var (P := isS (pstr pat)) 0 rfl rfl) a_nil) fun vs H1 _ hv => ⟨pat, (Alls.isv (xs := [.str (pstr pat)])).mp hv, hl, rfl⟩)) (by have := bars_few pat.length (by omega); omega) (fun _ _ => nl_itemP) (fun z hz y H5 e5 hy s H0 C cl fp => x_item (k := barKey z) (x_var (P := isBarO z) 2 rfl hy) ?_) sc_lmarks.nd (blkOk_by (N := ["_law_arrows", "_law_shape_here", "_law_bar"]) (sc := C8.fnScope (top 55)) (by decide +kernel)) (fun _ _ _ _ _ => pg_name sc_lmarks.nd rfl (Or.inl rfl))) fun v H1 _ hv => by
    unfold marksK
    rw [List.map_map]; exact hv) (marksK_nodup hl u) (by have := hr.un; show (A.deeper _).units + 2 < _; omega)) hQ
  refine x_cal (hmk _ rfl rfl rfl rfl rfl) hr (a_cons (x_var (P := isS (pstr pat)) 0 rfl rfl) (a_cons (x_var (P := isSh K u) 1 rfl ((isSh K u).st e5 hu)) (a_cons (x_var (P := isBar K z) 2 rfl (isBarO.bar hy)) a_nil))) fun vs H6 _ hvs => ?_
  obtain ⟨a1, a2, a3, rfl, h1, h2, h3⟩ := Alls.three hvs
  cases h1
  exact ⟨pat, u, z, a2, a3, rfl, h2, h3, hl, hw, hd, rfl⟩
end
end WK
end
section
set_option maxRecDepth 100000
set_option maxHeartbeats 1000000
namespace FU
open PySem PySem.Spec PyProof.Rows L2
open Evl (Ex)
section
variable {X : Cx} {σ : L2.St} {H : Hp} {D : Ends} {rest : List Stmt} {pos px py pt p2 : Pos} {x y : Str} {a b : Expr} {P Q : Wd} {kt k2 : Nat}
/-- x, y = a, b with plain local names -/
theorem c_par {i j : Nat} (h1 : EvE X a σ H P) (h2 : EvE X b σ H Q) (q : ∀ v w H1, Ex H H1 → P v H1 → Q w H1 → wSs X rest D ((σ.set i (some v)).set j (some w)) H1) (nd : X.N.Nodup) (hij : i ≠ j) (hN1 : X.N[i]? = some x := by rfl) (hN2 : X.N[j]? = some y := by rfl) (hx : X.env.scope.names.lookup x = some .local := by rfl) (hy : X.env.scope.names.lookup y = some .local := by rfl) (hc : X.calm = true := by rfl)
    (hw : swappedStores [.Tuple [.Name x px, .Name y py] kt pt] (.Tuple [a, b] k2 p2) X.env = pure (some [x, y]) := by rfl) (hs : swapsWithSole [.Tuple [.Name x px, .Name y py] kt pt] (.Tuple [a, b] k2 p2) pos.line X.env = pure false := by rfl) (s1 : starEach [a, b] X.env = (false, eval a X.env) :: starEach [b] X.env := by rfl) (s2 : starEach [b] X.env = (false, eval b X.env) :: starEach [] X.env := by rfl) :
    wSs X (.Assign [.Tuple [.Name x px, .Name y py] kt pt] (.Tuple [a, b] k2 p2) pos :: rest) D σ H :=
  c_cons (ofS (ps_par hc nd hN1 hN2 hij hx hy rA hw hs) (a_cons h1 (a_cons h2 a_nil s2) s1 H (Ex.refl _) _ fun vs H1 e1 hvs => by
    obtain ⟨v, w, rfl, hv, hw'⟩ := Alls.two hvs
    exact ⟨v, w, rfl, q v w H1 e1 hv hw'⟩))
/-- the same with names that inner blocks see -/
theorem c_parC {i j : Nat} (h1 : EvE X a σ H P) (h2 : EvE X b σ H Q) (q : ∀ v w H1, Ex H H1 → P v H1 → Q w H1 → wSs X rest D ((σ.set i (some v)).set j (some w)) H1) (nd : X.N.Nodup) (hN1 : X.N[i]? = some x := by rfl) (hN2 : X.N[j]? = some y := by rfl) (hl1 : Loc X.env.scope x := by first | exact Or.inl rfl | exact Or.inr rfl) (hl2 : Loc X.env.scope y := by first | exact Or.inl rfl | exact Or.inr rfl)
    (hf1 : X.fn x = true ∨ X.env.scope.names.lookup x = some .local := by first | exact Or.inl rfl | exact Or.inr rfl) (hf2 : X.fn y = true ∨ X.env.scope.names.lookup y = some .local := by first | exact Or.inl rfl | exact Or.inr rfl) (hc : X.calm = true := by rfl)
    (hw : swappedStores [.Tuple [.Name x px, .Name y py] kt pt] (.Tuple [a, b] k2 p2) X.env = pure none := by rfl) (hs : swapsWithSole [.Tuple [.Name x px, .Name y py] kt pt] (.Tuple [a, b] k2 p2) pos.line X.env = pure false := by rfl) (hh1 : (assignEach [.Tuple [.Name x px, .Name y py] kt pt] X.env).map (·.2) = [assign (.Tuple [.Name x px, .Name y py] kt pt) X.env] := by rfl)
    (hn : (assignEach [.Name x px, .Name y py] X.env).length = 2 := by rfl) (hst2 : (assignEach [.Name x px, .Name y py] X.env).findIdx? (·.1) = none := by rfl) (hs2 : (assignEach [.Name x px, .Name y py] X.env).map (·.2) = assign (.Name x px) X.env :: (assignEach [.Name y py] X.env).map (·.2) := by rfl) (hs3 : (assignEach [.Name y py] X.env).map (·.2) = assign (.Name y py) X.env :: (assignEach [] X.env).map (·.2) := by rfl)
    (s1 : starEach [a, b] X.env = (false, eval a X.env) :: starEach [b] X.env := by rfl) (s2 : starEach [b] X.env = (false, eval b X.env) :: starEach [] X.env := by rfl) :
    wSs X (.Assign [.Tuple [.Name x px, .Name y py] kt pt] (.Tuple [a, b] k2 p2) pos :: rest) D σ H :=
  c_cons (ofS (ps_asg (pe_tup rA) (pg_tup hc (pgs_cons (pg_name nd hN1 hl1 hf1) (pgs_cons (pg_name nd hN2 hl2 hf2) pgs_nil hs3) hs2) hn hst2) hs hw hh1) (a_cons h1 (a_cons h2 a_nil s2) s1 H (Ex.refl _) _ fun vs H1 e1 hvs => by
    obtain ⟨v, w, rfl, hv, hw'⟩ := Alls.two hvs
    exact ⟨Evl.sz_of (by show (2 : Nat) ≤ _; decide), fun p hp => ⟨p, _, rfl, Evl.st_of upd_same, rfl, v, _, rfl, ⟨w, _, rfl, rfl, q v w _ (e1.trans (Ex.new hp)) (P.st (Ex.new hp) hv) (Q.st (Ex.new hp) hw')⟩⟩⟩))
end
end FU
end
section
set_option maxRecDepth 100000
set_option maxHeartbeats 1000000
namespace WK
open PySem PySem.Spec PyProof.Rows L2 FU
open Evl (Ex)
open MR (W Wf textW brk mkW inB ar bth eds birthsL endsL rowN stairW lws rws corner wordOf woGo nL nR stairsL plainW)

theorem mem_bars {n : Nat} {a b : Int} (h0 : 0 ≤ a) (h1 : a ≤ b) (h2 : b ≤ n) : (a, b) ∈ barsL n := by
  unfold barsL
  refine List.mem_flatMap.mpr ⟨a.toNat, List.mem_range.mpr (by omega), List.mem_map.mpr ⟨b.toNat, List.mem_filter.mpr ⟨List.mem_range.mpr (by omega), decide_eq_true (by omega)⟩, ?_⟩⟩
  have e1 : ((a.toNat : Nat) : Int) = a := by omega
  have e2 : ((b.toNat : Nat) : Int) = b := by omega
  rw [e1, e2]
theorem barKey_inj {b c : Int × Int} (h : barKey b = barKey c) : b = c := by
  obtain ⟨b1, b2⟩ := b
  obtain ⟨c1, c2⟩ := c
  unfold barKey at h
  simp at h
  rw [h.1, h.2]
theorem valV_map {f : Int × Int → V} {b : Int × Int} : ∀ {l : List (Int × Int)}, b ∈ l → valV (l.map fun b => (barKey b, f b)) (barKey b) = some (f b)
  | c :: l, h => by
    unfold valV
    rw [List.map_cons, List.find?_cons]
    by_cases e : barKey c = barKey b
    · rw [barKey_inj e]; simp
    · have hb : b ∈ l := by
        rcases List.mem_cons.mp h with z | z
        · exact absurd (by rw [z]) e
        · exact z
      have := valV_map (f := f) hb
      unfold valV at this
      simpa [e] using this
theorem valV_marks {pat : List Bool} {u : W} {a b : Int} (h0 : 0 ≤ a) (h1 : a ≤ b) (h2 : b ≤ pat.length) : valV (marksK pat u) (barKey (a, b)) = some (.int (MR.b2i (mkW pat a b u))) := valV_map (f := fun b => V.int (MR.b2i (mkW pat b.1 b.2 u))) (mem_bars h0 h1 h2)
section
variable {P : Program} {w : World} {K : PySem.W.Frag} {mg : Str → Option Value} {base : Heap}
theorem sc_lstair : FnScope ["_law_arrows", "_law_shape_here", "_law_place_here", "_law_told", "_law_lasts_here", "_law_a", "_law_b"] ["_law_arrows", "_law_shape_here"] (C8.fnScope (top 59)) := C8.fnScope_by (by decide +kernel)
theorem ok_lstair (T : Fx K w mg) (n : Nat) : C8.Cal P w K mg base (n + 4) "_law_stair" (spC (ctShape K n fun pat u => isT K (stairW pat u))) [] := by
  refine cal_of (k := n + 3) T.d_law_stair T.b_law_stair .nil sc_lstair (fun vs H W h => ctShape.len h) fun cdv A outer s H vs Q E W hr hC hQ => ?_
  obtain ⟨pat, u, v, rfl, hu, hl, hw, hd, rfl⟩ := hC
  have hpl := Wf.pl hw
  have hp : u.place = ((u.place.toNat : Nat) : Int) := by omega
  refine c_asg (k := 2) (P := isI u.place) (x_cal (ok_lplace T n) hr (a_cons (x_var (P := isSh K u) 1 rfl hu) a_nil) fun vs H1 _ hvs => ?_) (fun z H1 e1 hz => ?_) sc_lstair.nd
  · obtain ⟨a, rfl, ha⟩ := Alls.one hvs
    exact ⟨u, a, rfl, ha, hd, rfl⟩
  cases hz
  have hu1 := (isSh K u).st e1 hu
  refine c_parC (i := 3) (j := 4) (P := dTP (marksK pat u)) (Q := isL K (endsL pat u.place)) (x_cal (ok_lmarks T n) hr (a_cons (x_var (P := isS (pstr pat)) 0 rfl rfl) (a_cons (x_var (P := isSh K u) 1 rfl hu1) a_nil)) fun vs H2 _ hvs => ?_) (x_cal (ok_lasts T) hr (a_cons (x_var (P := isS (pstr pat)) 0 rfl rfl) (a_cons (x_var (P := isI u.place) 2 rfl rfl) a_nil)) fun vs H2 _ hv => ⟨pat, u.place.toNat, by rw [← hp]; exact (Alls.isv (xs := [.str (pstr pat), .int u.place])).mp hv, hl, by omega, ?_⟩) (fun vt vl H2 e2 ht hla => ?_) sc_lstair.nd
  · obtain ⟨a, b, rfl, ha, hb⟩ := Alls.two hvs
    cases ha
    exact ⟨pat, u, b, rfl, hb, hl, hw, hd, rfl⟩
  · have : ((pat.length : Int) - u.place).toNat = pat.length - u.place.toNat := by omega
    rw [endsL, this]; rfl
  have hbl : (birthsL pat u.place).length = u.place.toNat + 1 := MR.bth_len _ _
  have hel : (endsL pat u.place).length ≤ 7 := by rw [endsL, MR.eds_len]; omega
  refine c_ret (x_tupL T.z_tuple (EvE.imp (x_lc (k := 5) (zs := birthsL pat u.place) (q := fun a => isI a) (p := fun a => isI (rowN pat u a)) (src_list (x_cal (ok_lbirths T) hr (a_cons (x_var (P := isS (pstr pat)) 0 rfl rfl) (a_cons (x_var (P := isI u.place) 2 rfl rfl) a_nil)) fun vs H3 _ hv => ⟨pat, u.place.toNat, by rw [← hp]; exact (Alls.isv (xs := [.str (pstr pat), .int u.place])).mp hv, hl, by omega, rfl⟩)) (by omega) (fun _ _ => nl_isv) (fun a ha y H3 e3 hy s3 H03 C3 cl3 fp3 => ?_) sc_lstair.nd (blkOk_by (N := ["_law_arrows", "_law_shape_here", "_law_place_here", "_law_told", "_law_lasts_here", "_law_a", "_law_b"]) (sc := C8.fnScope (top 59)) (by decide +kernel)) (fun _ _ _ _ _ => pg_name sc_lstair.nd rfl (Or.inr rfl))) fun v H1 _ hv => by
    show lstP K ((stairW pat u).map fun i => isI i) v H1
    unfold stairW
    rw [List.map_map]; exact hv)) fun v3 H3 e3 h3 => hQ v3 H3 ((e1.trans e2).trans e3) h3
  have hab := (MR.birthsL_mem hpl.1).mp ha
  refine EvE.is (x_sum (ns := (endsL pat u.place).map fun b => MR.b2i (mkW pat a b u)) T.z_sum (EvE.imp (x_lc (k := 6) (q := fun b => isI b) (p := fun b => isI (MR.b2i (mkW pat a b u))) (src_list (zs := endsL pat u.place) (x_var (P := isL K (endsL pat u.place)) 4 rfl ((isL K _).st e3 hla))) (by omega) (fun _ _ => nl_isv) (fun b hb y2 H5 e5 hy2 s H0 C cl fp => ?_) sc_lstair.nd (blkOk_by (N := ["_law_arrows", "_law_shape_here", "_law_place_here", "_law_told", "_law_lasts_here", "_law_a", "_law_b"]) (by kernel_rfl)) (fun _ _ _ _ _ => pg_name sc_lstair.nd rfl (Or.inl rfl))) fun v H1 _ hv => by rw [List.map_map]; exact hv)) (by rw [sum_b2i]; rfl)
  have hbe := (MR.endsL_mem hpl.2).mp hb
  refine x_dgetT (kvs := marksK pat u) (k := barKey (a, b)) (by have := hr.un; show (A.deeper _).units + 1 < _; omega) (x_var (P := dTP (marksK pat u)) 3 rfl ((dTP _).st (e3.trans e5) ht)) (x_tupO (xs := [.int a, .int b]) (a_cons (x_var (P := isI a) 5 rfl hy) (a_cons (x_var (P := isI b) 6 rfl hy2) a_nil))) (valV_marks hab.1 (by omega) hbe.2)
end
end WK
end
section
set_option maxRecDepth 100000
set_option maxHeartbeats 1000000
namespace WK
open PySem PySem.Spec PyProof.Rows L2 FU
open Evl (Ex)
open MR (W Wf textW brk mkW inB ar bth eds birthsL endsL rowN stairW lws rws corner wordOf woGo nL nR stairsL plainW)

/-! ### the box: a list that calls change -/
def Bx (l : Addr) (n : Nat) (H : Hp) : Prop := ∃ a b c : Int, H l = some (.lst [.int a, .int b, .int c]) ∧ 0 ≤ a ∧ 0 ≤ b ∧ b < 2147483629 ∧ 0 ≤ c ∧ c ≤ n
theorem Bx.ex {l : Addr} {n : Nat} {H H' : Hp} (e : Ex H H') (h : Bx l n H) : Bx l n H' := by
  obtain ⟨a, b, c, h1, h2⟩ := h
  exact ⟨a, b, c, e _ _ h1, h2⟩
theorem Bx.exs {l : Addr} {n : Nat} {H H' : Hp} (h : Bx l n H) (o : Off l H H') : Exs H H' := by
  obtain ⟨a, b, c, h1, h2⟩ := h
  exact o.exs h1
theorem Bx.mono {l : Addr} {n m : Nat} {H : Hp} (h : Bx l n H) (e : n ≤ m) : Bx l m H := by
  obtain ⟨a, b, c, h1, h2, h3, h4, h5, h6⟩ := h
  exact ⟨a, b, c, h1, h2, h3, h4, h5, by omega⟩
theorem off_of {l : Addr} {H H' : Hp} (e : Ex H H') : Off l H H' := fun b o _ h => e b o h
abbrev mMax : Nat := 1000000
section
variable {X : Cx} {σ : L2.St} {H : Hp} {e a b c : Expr} {es : List Expr} {P Pa Pb : Wd} {Ps : List Wd} {pos px : Pos} {x : Str} {l : Addr} {k k1 k2 : Nat} {D : Ends} {rest : List Stmt}
def EvM (X : Cx) (l : Addr) (e : Expr) (σ : L2.St) (H : Hp) (k : Nat) (P : Wd) : Prop := ∀ n H1, Off l H H1 → Bx l n H1 → n + k ≤ mMax → ∀ Q : VK, (∀ v H2, Off l H1 H2 → Bx l (n + k) H2 → P v H2 → Q v H2) → wE X e σ H1 Q
def AvM (X : Cx) (l : Addr) (es : List Expr) (σ : L2.St) (H : Hp) (k : Nat) (Ps : List Wd) : Prop := ∀ n H1, Off l H H1 → Bx l n H1 → n + k ≤ mMax → ∀ Q : List V → Hp → Prop, (∀ vs H2, Off l H1 H2 → Bx l (n + k) H2 → Alls Ps vs H2 → Q vs H2) → wA X es σ H1 Q
theorem m_pure (h : ∀ H1, Off l H H1 → (∃ n, Bx l n H1) → EvE X e σ H1 P) : EvM X l e σ H 0 P := fun n H1 o1 b1 hn Q q => h H1 o1 ⟨n, b1⟩ H1 (Ex.refl _) Q fun v H2 e2 hv => q v H2 (off_of e2) (b1.ex e2) hv
theorem EvM.more (h : EvM X l e σ H k1 P) (hk : k1 ≤ k2) : EvM X l e σ H k2 P := fun n H1 o1 b1 hn Q q => h n H1 o1 b1 (by omega) Q fun v H2 o2 b2 hv => q v H2 o2 (b2.mono (by omega)) hv
theorem EvM.imp {P' : Wd} (h : EvM X l e σ H k P) (q : ∀ v H1, P v H1 → P' v H1) : EvM X l e σ H k P' := fun n H1 o1 b1 hn Q q' => h n H1 o1 b1 hn Q fun v H2 o2 b2 hv => q' v H2 o2 b2 (q v H2 hv)
theorem am_nil : AvM X l [] σ H 0 [] := fun n H1 o1 b1 hn Q q => a_nil H1 (Ex.refl _) Q fun vs H2 e2 hv => q vs H2 (off_of e2) (b1.ex e2) hv
theorem am_cons (h : EvM X l e σ H k1 P) (hn : NL P) (hr : AvM X l es σ H k2 Ps) (hs : starEach (e :: es) X.env = (false, eval e X.env) :: starEach es X.env := by rfl) : AvM X l (e :: es) σ H (k1 + k2) (P :: Ps) := fun n H1 o1 b1 hk Q q =>
  ofA (pa_cons rE rA hs) (h n H1 o1 b1 (by omega) _ fun v H2 o2 b2 hv => hr (n + k1) H2 (o1.trans o2) b2 (by omega) _ fun vs H3 o3 b3 hvs => q _ H3 (o2.trans o3) (by rw [← Nat.add_assoc]; exact b3) ⟨hn (b2.exs o3) hv, hvs⟩)
theorem m_tup {kk : Nat} (h : AvM X l es σ H k Ps) (hl : Ps.length ≤ 100000 := by simp) : EvM X l (.Tuple es kk pos) σ H k (tupP X.K Ps) := fun n H1 o1 b1 hn Q q => ofE (pe_tup rA) (h n H1 o1 b1 hn _ fun vs H2 o2 b2 hvs =>
  ⟨Evl.sz_of (by rw [hvs.len]; exact hl), fun p hp => q _ _ (o2.ex (Ex.new hp)) (b2.ex (Ex.new hp)) ⟨p, vs, rfl, Evl.st_of upd_same, hvs.ex (Ex.new hp)⟩⟩)
def intP (p : Int → Prop) : Wd := ⟨fun v _ => ∃ d, v = .int d ∧ p d, fun _ h => h⟩
theorem nl_intP {p : Int → Prop} : NL (intP p) := fun _ h => h
theorem m_add {i : Int} {p : Int → Prop} (ha : ∀ H1, EvE X a σ H1 (isI i)) (hb : EvM X l b σ H k (intP p)) : EvM X l (.BinOp a .Add b pos) σ H k (intP fun j => ∃ d, p d ∧ j = i + d) := fun n H1 o1 b1 hn Q q =>
  ofE (pe_op op_add rE rE) (ha H1 H1 (Ex.refl _) _ fun x H2 e2 hx => hb n H2 (o1.ex e2) (b1.ex e2) hn _ fun y H3 o3 b3 ⟨d, hy, hd⟩ => ⟨i, d, hx, hy, q _ H3 ((off_of e2).trans o3) b3 ⟨i + d, rfl, d, hd, rfl⟩⟩)
theorem m_if {b' : Bool} (hc : ∀ H1, Off l H H1 → EvT X c σ H1 b') (h1 : b' = true → EvM X l a σ H k P) (h2 : b' = false → EvM X l b σ H k P) : EvM X l (.IfExp c a b pos) σ H k P := fun n H1 o1 b1 hn Q q =>
  ofE (pe_ifExp rT rE rE) (hc H1 o1 H1 (Ex.refl _) _ fun H2 e2 => by
    cases b' with
    | true => exact h1 rfl n H2 (o1.ex e2) (b1.ex e2) hn Q fun v H3 o3 b3 hv => q v H3 ((off_of e2).trans o3) b3 hv
    | false => exact h2 rfl n H2 (o1.ex e2) (b1.ex e2) hn Q fun v H3 o3 b3 hv => q v H3 ((off_of e2).trans o3) b3 hv)
def strP (p : Str → Prop) : Wd := ⟨fun v _ => ∃ d, v = .str d ∧ p d, fun _ h => h⟩
theorem nl_strP {p : Str → Prop} : NL (strP p) := fun _ h => h
/-- z[e] of a text -/
theorem m_ixS {z : Str} {p : Int → Prop} {r : Str → Prop} (ha : ∀ H1, EvE X a σ H1 (isS z)) (hb : EvM X l b σ H k (intP p)) (hz : z.length ≤ 100000) (hp : ∀ d, p d → ∃ c, 0 ≤ d ∧ z.cps.toList[d.toNat]? = some c ∧ r ⟨#[c]⟩) (hs : PlainIx b := by exact fun _ _ => rfl) : EvM X l (.Subscript a b pos) σ H k (strP r) := fun n H1 o1 b1 hn Q q =>
  ofE (pe_ix ix_str rE rE hs) (ha H1 H1 (Ex.refl _) _ fun v H2 e2 hv => hb n H2 (o1.ex e2) (b1.ex e2) hn _ fun y H3 o3 b3 ⟨d, hy, hd⟩ => by
    obtain ⟨c, h0, hc, hr⟩ := hp d hd
    have e : d = ((d.toNat : Nat) : Int) := by omega
    exact ⟨z, d, c, hv, hy, Evl.sz_of hz, by rw [e]; exact atI_nat hc, q _ H3 ((off_of e2).trans o3) b3 ⟨_, rfl, hr⟩⟩)
/-- str(e) of a small int -/
theorem m_str {p : Int → Prop} {r : Str → Prop} (hm : X.mg "str" = none) (h : EvM X l e σ H k (intP p)) (hz : ∀ i, p i → i.natAbs.log2 < 1920 ∧ r (Str.ofString (toString i))) (hg : Gl X "str" := by rfl) (hs : Pl0 X e := by rfl) (hpl : (backTo pos (starEach [] X.env)).any (·.1) = false := by rfl) : EvM X l (.Call (.Name "str" px) [e] [] pos) σ H k (strP r) := fun n H1 o1 b1 hn Q q =>
  ofE (pe_callTy call_str_int hg hm (by decide +kernel) rA (by decide) (by decide) hs hpl) (am_cons (k2 := 0) h nl_intP am_nil hs n H1 o1 b1 (by omega) _ fun vs H2 o2 b2 hvs => by
    obtain ⟨v, rfl, d, rfl, hd⟩ := Alls.one hvs
    exact ⟨d, rfl, (hz d hd).1, q _ H2 o2 (by simpa using b2) ⟨_, rfl, (hz d hd).2⟩⟩)
/-- a promise of a def that changes the box -/
abbrev CtM := Addr → Nat → List V → Hp → Wd → Prop
def spM (C : CtM) : Sp := fun vs H Q _ => ∃ l n k P, Bx l n H ∧ n + k ≤ mMax ∧ C l k vs H P ∧ ∀ v H', Off l H H' → Bx l (n + k) H' → P v H' → Q v H'
theorem m_call {C : CtM} {j j2 : Nat} (c : C8.Cal X.prog X.w X.K X.mg X.base j x (spM C) []) (hr : Room j2 X.A) (ha : AvM X l (e :: es) σ H k1 Ps) (h : ∀ vs H1, Off l H H1 → Alls Ps vs H1 → C l k vs H1 P) (hk : j ≤ j2 := by omega) (hg : Gl X x := by rfl)
    (hdb : (x == ("__debug__" : Str)) = false := by decide) (he : starEach (e :: es) X.env = (false, eval e X.env) :: starEach es X.env := by rfl) (hpl : (backTo pos (starEach es X.env)).any (·.1) = false := by rfl) : EvM X l (.Call (.Name x px) (e :: es) [] pos) σ H (k1 + k) P := fun n H1 o1 b1 hn Q q =>
  ofE (C8.pe_c c hr hk hg rA hdb he hpl) (ha n H1 o1 b1 (by omega) _ fun vs H2 o2 b2 hvs => ⟨l, n + k1, k, P, b2, by omega, by rw [List.append_nil]; exact h vs H2 (o1.trans o2) hvs, fun v H3 o3 b3 hv => q v H3 (o2.trans o3) (by rw [← Nat.add_assoc]; exact b3) hv⟩)
theorem cm_asg {n i : Nat} (h : EvM X l e σ H k P) (hb : Bx l n H) (hk : n + k ≤ mMax) (q : ∀ v H1, Off l H H1 → Bx l (n + k) H1 → P v H1 → wSs X rest D (σ.set i (some v)) H1) (nd : X.N.Nodup) (hN : X.N[i]? = some x := by rfl) (hx : Loc X.env.scope x := by first | exact Or.inl rfl | exact Or.inr rfl)
    (hs : swapsWith e (some (.Name x px)) pos.line X.env = pure false := by rfl) (hf : X.fn x = true ∨ X.env.scope.names.lookup x = some .local := by first | exact Or.inl rfl | exact Or.inr rfl) : wSs X (.Assign [.Name x px] e pos :: rest) D σ H :=
  c_cons (ofS (ps_set nd hN hx rE hs hf) (h n H Off.refl hb hk _ fun v H1 o1 b1 hv => q v H1 o1 b1 hv))
theorem cm_ret {n : Nat} (h : EvM X l e σ H k P) (hb : Bx l n H) (hk : n + k ≤ mMax) (q : ∀ v H1, Off l H H1 → Bx l (n + k) H1 → P v H1 → D.rt v H1) : wSs X (.Return (some e) pos :: rest) D σ H :=
  c_cons (ofS (ps_ret rE) (h n H Off.refl hb hk _ fun v H1 o1 b1 hv => q v H1 o1 b1 hv))
/-- l[i] = e -/
theorem c_seti {i : Int} {j : Nat} {xs : List V} {ix : Expr} {sp : Pos} {v : V} (hl : H l = some (.lst xs)) (he : EvE X e σ H (isv v)) (ho : ∀ H1, EvE X a σ H1 (isv (.ref l))) (hi : ∀ H1, EvE X ix σ H1 (isI i)) (hj : ixN xs.length i = some j) (q : ∀ H1, Ex H H1 → wSs X rest D σ (upd H1 l (.lst (xs.set j v))))
    (hs : swapsWithSole [.Subscript a ix sp] e pos.line X.env = pure false := by rfl) (hw : swappedStores [.Subscript a ix sp] e X.env = pure none := by rfl) (h1 : (assignEach [.Subscript a ix sp] X.env).map (·.2) = [assign (.Subscript a ix sp) X.env] := by rfl)
    (hasg : ∀ v, assign (.Subscript a ix sp) X.env v = (do
      let ov ← holding [v] (eval a X.env)
      let iv ← holding [v, ov] (eval ix X.env)
      standAt sp
      holding [v, ov, iv] (setItem ov iv v)
      release [v, ov, iv] []) := by intro _; rfl) : wSs X (.Assign [.Subscript a ix sp] e pos :: rest) D σ H :=
  c_cons (ofS (ps_asg rE (pg_sub rE rE set_list hasg) hs hw h1) (he H (Ex.refl _) _ fun y H1 e1 hy => ho H1 H1 (Ex.refl _) _ fun o H2 e2 ho2 => hi H2 H2 (Ex.refl _) _ fun iv H3 e3 hi3 => by
    cases hy; cases ho2; cases hi3
    exact ⟨l, xs, i, j, rfl, rfl, e3 _ _ (e2 _ _ (e1 _ _ hl)), hj, q H3 ((e1.trans e2).trans e3)⟩))
end
end WK
end
section
set_option maxRecDepth 100000
set_option maxHeartbeats 1000000
namespace WK
open PySem PySem.Spec PyProof.Rows L2 FU
open Evl (Ex)
open MR (W Wf textW brk mkW inB ar bth eds birthsL endsL rowN stairW lws rws corner wordOf woGo nL nR stairsL plainW)
def newP (H0 : Hp) (Ps : List Wd) : Wd := ⟨fun v H => ∃ p xs, v = .ref p ∧ H0 p = none ∧ H p = some (.lst xs) ∧ Alls Ps xs H, fun e ⟨p, xs, h1, h2, h3, h4⟩ => ⟨p, xs, h1, h2, e _ _ h3, h4.ex e⟩⟩
theorem x_lstN {X : Cx} {es : List Expr} {σ : L2.St} {H : Hp} {Ps : List Wd} {pos : Pos} (h : EvA X es σ H Ps) (hl : Ps.length ≤ 100000 := by simp) : EvE X (.List es pos) σ H (newP H Ps) := .of (pe_lst rA) fun H1 e1 Q q => h H1 e1 _ fun vs H2 e2 hvs =>
  ⟨Evl.sz_of (by rw [hvs.len]; exact hl), fun p hp => q _ _ (e2.trans (Ex.new hp)) ⟨p, vs, rfl, Evl.fresh_back (e1.trans e2) hp, upd_same, hvs.ex (Ex.new hp)⟩⟩
section
variable {P : Program} {w : World} {K : PySem.W.Frag} {mg : Str → Option Value} {base : Heap}
def anyI : Wd := intP fun _ => True
def ctCell (K : PySem.W.Frag) : Ct := fun vs H P => ∃ (ns : List Int) (k : Nat) (v : V), vs = [v, .int k] ∧ isL K ns v H ∧ ns.length ≤ 63 ∧ k ≤ 10 ∧ P = anyI
theorem sc_cell : FnScope ["_law_script", "_law_k"] ["_law_script", "_law_k"] (C8.fnScope (top 46)) := C8.fnScope_by (by decide +kernel)
theorem ok_cell (T : Fx K w mg) : C8.Cal P w K mg base 1 "_law_cell" (spC (ctCell K)) [] := by
  refine cal_of (k := 0) T.d_law_cell T.b_law_cell .nil sc_cell (fun vs H W ⟨_, _, _, e, _⟩ => by rw [e]; rfl) fun cdv A outer s H vs Q E W hr hC hQ => ?_
  obtain ⟨ns, k, v, rfl, hv, hn, hk, rfl⟩ := hC
  refine c_if (b' := decide ((k : Int) < ((ns.map fun i => isI i).length : Nat))) (t_lt (x_var (P := isI k) 1 rfl rfl) (x_len T.z_len (x_var (P := isL K ns) 0 rfl hv))) (fun hc H1 e1 => ?_) fun hc H1 e1 => ?_
  · have hc : (k : Int) < ((ns.map fun i => isI i).length : Nat) := of_decide_eq_true hc
    rw [List.length_map] at hc
    have hk2 : k < ns.length := by omega
    exact c_ret (x_ixL (k := k) (P := isI ns[k]) (x_var (P := isL K ns) 0 rfl ((isL K ns).st e1 hv)) (x_var (P := isI k) 1 rfl rfl) (by rw [List.getElem?_map, List.getElem?_eq_getElem hk2]; rfl)) fun v2 H2 e2 h2 => hQ v2 H2 (e1.trans e2) ⟨_, h2, trivial⟩
  · exact c_nil (c_ret (x_add (x_mul (x_int (i := 110310231)) (x_var (P := isI k) 1 rfl rfl) (.inl ⟨by omega, by omega⟩)) (x_int (i := 1693))) fun v2 H2 e2 h2 => hQ v2 H2 (e1.trans e2) ⟨_, h2, trivial⟩)
def boxNew (H : Hp) : Wd := ⟨fun v H' => ∃ l, v = .ref l ∧ H l = none ∧ Bx l 0 H', fun e ⟨l, h1, h2, h3⟩ => ⟨l, h1, h2, h3.ex e⟩⟩
def ctBox : Ct := fun vs H P => ∃ i : Int, vs = [.int i] ∧ P = boxNew H
theorem sc_box : FnScope ["_law_cell_here"] ["_law_cell_here"] (C8.fnScope (top 47)) := C8.fnScope_by (by decide +kernel)
theorem ok_box (T : Fx K w mg) : C8.Cal P w K mg base 1 "_law_box" (spC ctBox) [] := by
  refine cal_of (k := 0) T.d_law_box T.b_law_box .nil sc_box (fun vs H W ⟨_, e, _⟩ => by rw [e]; rfl) fun cdv A outer s H vs Q E W hr hC hQ => ?_
  obtain ⟨i, rfl, rfl⟩ := hC
  refine c_ret (EvE.imp (x_lstN (a_cons (x_max2 T.z_max (x_int (i := 0)) (x_sub (x_var (P := isI i) 0 rfl rfl) (x_pow (x_int (i := 10)) (x_int (i := 18)) ⟨by omega, by omega, by decide⟩))) (a_cons (x_mod (x_intI T.z_int (x_var (P := isI i) 0 rfl rfl)) (x_int (i := 2147483629)) (by omega)) (a_cons (x_int (i := 0)) a_nil)))) fun v H1 _ hv => ?_) hQ
  obtain ⟨p, xs, rfl, hp, hpl, hal⟩ := hv
  obtain ⟨x, y, z, rfl, hx, hy, hz⟩ := Alls.three hal
  cases hx; cases hy; cases hz
  exact ⟨p, rfl, hp, _, _, _, hpl, by omega, Int.emod_nonneg _ (by omega), Int.emod_lt_of_pos _ (by omega), by omega, by omega⟩
def ctTake : CtM := fun l k vs H P => k = 1 ∧ ∃ m : Int, vs = [.ref l, .int m] ∧ 0 < m ∧ m < 1000 ∧ P = intP fun d => 0 ≤ d ∧ d < m
theorem sc_take : FnScope ["_law_box_here", "_law_many", "_law_digit", "_law_figure"] ["_law_box_here", "_law_many"] (C8.fnScope (top 48)) := C8.fnScope_by (by decide +kernel)
theorem bx_list {K : PySem.W.Frag} {l : Addr} {H : Hp} {a b c : Int} (h : H l = some (.lst [.int a, .int b, .int c])) : lstP K [isI a, isI b, isI c] (.ref l) H := ⟨l, _, rfl, Evl.sq_of h, rfl, rfl, rfl, trivial⟩
theorem ok_take (T : Fx K w mg) : C8.Cal P w K mg base 1 "_law_take" (spM ctTake) [] := by
  refine C8.cal0 (k := 0) T.d_law_take T.b_law_take .nil sc_take (fun vs H Q E ⟨_, _, _, _, _, _, ⟨_, _, e, _⟩, _⟩ => by rw [e]; rfl) fun cdv A outer s H vs Q E hr ⟨l, n, k, W, hb, hn, hC, hQ⟩ => ⟨_, rSs, ?_⟩
  obtain ⟨rfl, m, rfl, hm0, hm1, rfl⟩ := hC
  obtain ⟨a, b, c, hl, ha, hb0, hb1, hc0, hc1⟩ := hb
  have hn : n ≤ 1000000 := by have : n + 1 ≤ 1000000 := hn; omega
  refine c_if (b' := decide (0 < a)) (t_gt (x_ixL (k := 0) (Ps := [isI a, isI b, isI c]) (x_var (P := lstP K [isI a, isI b, isI c]) 0 rfl (bx_list hl)) x_int rfl) x_int) (fun hc H1 e1 => ?_) fun hc H1 e1 => ?_
  · have hl1 := e1 _ _ hl
    refine c_asg (k := 2) (P := isI (a % m)) (x_mod (x_intI T.z_int (x_ixL (k := 0) (Ps := [isI a, isI b, isI c]) (x_var (P := lstP K [isI a, isI b, isI c]) 0 rfl (bx_list hl1)) x_int rfl)) (x_var (P := isI m) 1 rfl rfl) hm0) (fun v H2 e2 hv => ?_) sc_take.nd
    cases hv
    have hl2 := e2 _ _ hl1
    refine c_seti (l := l) (i := 0) (j := 0) (v := .int (a / m)) hl2 (x_fdiv (x_ixL (k := 0) (Ps := [isI a, isI b, isI c]) (x_var (P := lstP K [isI a, isI b, isI c]) 0 rfl (bx_list hl2)) x_int rfl) (x_var (P := isI m) 1 rfl rfl) ⟨hm0, by omega⟩) (fun H3 => x_var (P := isv (.ref l)) 0 rfl rfl) (fun H3 => x_int) rfl fun H3 e3 => ?_
    refine c_ret (x_var (P := isI (a % m)) 2 rfl rfl) fun v H4 e4 hv => hQ v H4 ?_ ?_ ⟨_, hv, Int.emod_nonneg _ (by omega), Int.emod_lt_of_pos _ hm0⟩
    · exact ((off_of ((e1.trans e2).trans e3)).trans Off.put).ex e4
    · exact ⟨a / m, b, c, e4 _ _ upd_same, Int.ediv_nonneg ha (by omega), hb0, hb1, hc0, by omega⟩
  · refine c_nil ?_
    have hl1 := e1 _ _ hl
    refine c_seti (l := l) (i := 2) (j := 2) (v := .int (c + 1)) hl1 (x_add (x_ixL (k := 2) (Ps := [isI a, isI b, isI c]) (x_var (P := lstP K [isI a, isI b, isI c]) 0 rfl (bx_list hl1)) x_int rfl) x_int) (fun H3 => x_var (P := isv (.ref l)) 0 rfl rfl) (fun H3 => x_int) rfl fun H2 e2 => ?_
    have hl2 : upd H2 l (.lst [.int a, .int b, .int (c + 1)]) l = some (.lst [.int a, .int b, .int (c + 1)]) := upd_same
    show wSs _ _ _ _ (upd H2 l (.lst [.int a, .int b, .int (c + 1)]))
    have o2 : Off l H (upd H2 l (.lst [.int a, .int b, .int (c + 1)])) := (off_of (e1.trans e2)).trans Off.put
    generalize upd H2 l (.lst [.int a, .int b, .int (c + 1)]) = H3 at hl2 o2 ⊢
    refine c_asg (k := 3) (P := isI ((b + 6915 * (c + 1) + 292) ^ 5 % 2147483647)) (x_mod (x_pow (x_intI T.z_int (x_add (x_add (x_ixL (k := 1) (Ps := [isI a, isI b, isI (c + 1)]) (x_var (P := lstP K [isI a, isI b, isI (c + 1)]) 0 rfl (bx_list hl2)) x_int rfl) (x_mul (x_int (i := 6915)) (x_ixL (k := 2) (Ps := [isI a, isI b, isI (c + 1)]) (x_var (P := lstP K [isI a, isI b, isI (c + 1)]) 0 rfl (bx_list hl2)) x_int rfl) (.inl ⟨by omega, by omega⟩))) (x_int (i := 292)))) (x_int (i := 5)) ⟨by omega, by omega, by omega⟩) (x_int (i := 2147483647)) (by omega)) (fun v H4 e4 hv => ?_) sc_take.nd
    cases hv
    have hf0 := Int.emod_nonneg ((b + 6915 * (c + 1) + 292) ^ 5) (show (2147483647 : Int) ≠ 0 by omega)
    have hf1 := Int.emod_lt_of_pos ((b + 6915 * (c + 1) + 292) ^ 5) (show (0 : Int) < 2147483647 by omega)
    generalize (b + 6915 * (c + 1) + 292) ^ 5 % 2147483647 = F at hf0 hf1 ⊢
    have hl4 := e4 _ _ hl2
    refine c_asg (k := 3) (P := isI ((F + 88185 * (c + 1)) ^ 3 % 2147483587)) (x_mod (x_pow (x_intI T.z_int (x_add (x_var (P := isI F) 3 rfl rfl) (x_mul (x_int (i := 88185)) (x_ixL (k := 2) (Ps := [isI a, isI b, isI (c + 1)]) (x_var (P := lstP K [isI a, isI b, isI (c + 1)]) 0 rfl (bx_list hl4)) x_int rfl) (.inl ⟨by omega, by omega⟩)))) (x_int (i := 3)) ⟨by omega, by omega, by omega⟩) (x_int (i := 2147483587)) (by omega)) (fun v H5 e5 hv => ?_) sc_take.nd
    cases hv
    generalize (F + 88185 * (c + 1)) ^ 3 % 2147483587 = G
    refine c_ret (x_mod (x_intI T.z_int (x_fdiv (x_var (P := isI G) 3 rfl rfl) (x_int (i := 16)) ⟨by omega, by omega⟩)) (x_var (P := isI m) 1 rfl rfl) hm0) fun v H6 e6 hv => hQ v H6 (((o2.ex e4).ex e5).ex e6) ⟨a, b, c + 1, e6 _ _ (e5 _ _ hl4), ha, hb0, hb1, by omega, by omega⟩ ⟨_, hv, Int.emod_nonneg _ (by omega), Int.emod_lt_of_pos _ hm0⟩
end
end WK
end
section
set_option maxRecDepth 100000
set_option maxHeartbeats 1000000
namespace WK
open PySem PySem.Spec PyProof.Rows L2 FU
open Evl (Ex)
open MR (W Wf textW brk mkW inB ar bth eds birthsL endsL rowN stairW lws rws corner wordOf woGo nL nR stairsL plainW)
section
variable {X : Cx} {σ : L2.St} {H : Hp} {a elt e : Expr} {pos px p2 pos2 : Pos} {x : Str} {l : Addr} {k : Nat}
def textsP (K : PySem.W.Frag) (M : Nat) (r : Str → Prop) : Wd := ⟨fun v H => ∃ ys : List Str, (∀ y ∈ ys, r y) ∧ ys.length ≤ M ∧ lstP K (ys.map fun y => isS y) v H, fun e ⟨ys, h1, h2, h3⟩ => ⟨ys, h1, h2, (lstP K _).st e h3⟩⟩
/-- [.. for x in range(a)], the texts drawn from the box -/
theorem m_lc {M i : Nat} {scope : Scope} {r : Str → Prop} (hM : M ≤ 100) (hm : X.mg "range" = none) (h : EvM X l a σ H k (intP fun d => 0 ≤ d ∧ d ≤ M))
    (he : ∀ (y : V) (H1 : Hp) (s : Shared) (H0 : Hp) (C : Addr) (cl : List (Str × Addr)) (fp : List Addr), EvM (X.blk s H0 scope (compEnvC scope cl C X.env) fp) l elt ((σ.set i none).set i (some y)) H1 1 (strP r))
    (nd : X.N.Nodup) (ok : BlkOk X.N X.env.scope scope [(x, i)]) (hgx : ∀ (s : Shared) (H : Hp) (C : Addr) (cl : List (Str × Addr)) (fp : List Addr), L2.PG (X.blk s H scope (compEnvC scope cl C X.env) fp) (.Name x px) (gName i)) (hg : Gl X "range" := by rfl) (hs : starEach [a] X.env = [(false, eval a X.env)] := by rfl) (hs2 : starEach [a] X.env = (false, eval a X.env) :: starEach [] X.env := by rfl) (hc : X.calm = true := by rfl) (hsi : ∀ y, foldedSetIterable (.Call (.Name "range" p2) [a] [] pos2) X.env y = pure y := by intro _; rfl) :
    EvM X l (.ListComp elt [⟨.Name x px, .Call (.Name "range" p2) [a] [] pos2, [], 0⟩] scope pos) σ H (k + M) (textsP X.K M r) := fun n H1 o1 b1 hn Q q => by
  refine ofE (pe_lc (own := [(x, i)]) (g := gName i) (tt := tYes) hc nd (pi_range1 hg hm rA hs) ok hgx (fun _ _ _ _ _ => pts_nil) (fun s H C cl fp => rB s H C cl fp) hsi) ?_
  refine am_cons (k2 := 0) h nl_intP am_nil hs2 n H1 o1 b1 (by omega) _ fun vs H2 o2 b2 hvs => ?_
  obtain ⟨v, rfl, d, rfl, hd0, hd1⟩ := Alls.one hvs
  refine ⟨d, rfl, by omega, by omega, fun D hD => ?_⟩
  have hwipe : ∀ y : V, wipe ((wipe σ [i]).set i (some y)) [i] = wipe σ [i] := fun y => by
    show ((σ.set i none).set i (some y)).set i none = σ.set i none
    simp
  have hDl : D ≠ l := fun z => by
    obtain ⟨_, _, _, hl, _⟩ := b2
    rw [← z, hD] at hl; cases hl
  have offD : ∀ {H' : Hp} {u : HO}, Off l H2 H' → Off l H2 (upd H' D u) := fun o b u' nb hb => by
    rw [upd_ne (fun z => by rw [z, hD] at hb; cases hb)]
    exact o b u' nb hb
  have bxD : ∀ {m : Nat} {H' : Hp} {u : HO}, Bx l m H' → Bx l m (upd H' D u) := fun ⟨x1, x2, x3, hl, hr⟩ => ⟨x1, x2, x3, by rw [upd_ne (Ne.symm hDl)]; exact hl, hr⟩
  refine ⟨fun j m H' => m = d.toNat - j ∧ j ≤ d.toNat ∧ Off l H2 H' ∧ Bx l (n + k + j) H' ∧ ∃ ys : List Str, ys.length = j ∧ (∀ y ∈ ys, r y) ∧ H' D = some (.lst (ys.map V.str)), ⟨d.toNat, by simp, Nat.zero_le _, offD Off.refl, bxD (by simpa using b2), [], rfl, fun _ z => (by simp at z), upd_same⟩, ?_⟩
  rintro j m H' ⟨rfl, hj, oH, bH, ys, hys, hyr, hDs⟩
  by_cases hlt : j < d.toNat
  · refine .inr ⟨hlt, fun H'' => Off l H2 H'' ∧ Bx l (n + k + (j + 1)) H'' ∧ ∃ ys : List Str, ys.length = j + 1 ∧ (∀ y ∈ ys, r y) ∧ H'' D = some (.lst (ys.map V.str)), fun H'' p' => ⟨d.toNat - (j + 1), by omega, rfl, hlt, p'⟩, fun y H3 hy => ?_⟩
    obtain ⟨rfl, _⟩ := hy
    refine ⟨hwipe y, ?_⟩
    show wB X scope elt ((σ.set i none).set i (some y)) H3 _
    intro s H0 C cl fp
    refine he y H3 s H0 C cl fp (n + k + j) H3 Off.refl bH (by omega) _ fun v H4 o4 b4 ⟨t, hv, ht⟩ => ?_
    subst hv
    have hD4 : H4 D = some (.lst (ys.map V.str)) := o4 _ _ hDl hDs
    refine ⟨_, hD4, Evl.sz_lt (by rw [List.length_map]; omega), offD (oH.trans o4), bxD b4, ys ++ [t], by rw [List.length_append, hys]; rfl, fun y hy => ?_, ?_⟩
    · rcases List.mem_append.mp hy with z | z
      · exact hyr y z
      · rw [List.mem_singleton.mp z]; exact ht
    · rw [upd_same, List.map_append]; rfl
  · have e : j = d.toNat := by omega
    subst e
    refine .inl ⟨Nat.le_refl _, q _ H' (o2.trans oH) (bH.mono (by omega)) ⟨ys, hyr, by omega, ?_⟩⟩
    refine ⟨D, ys.map V.str, rfl, Evl.sq_of hDs, ?_⟩
    have : (ys.map fun y => isS y) = (ys.map V.str).map FU.isv := by rw [List.map_map]; rfl
    rw [this]; exact Alls.isv.mpr rfl
theorem m_join {M : Nat} {sep : Str} {r q' : Str → Prop} {apos : Pos} (ho : ∀ H1, EvE X a σ H1 (isS sep)) (he : EvM X l e σ H k (textsP X.K M r)) (hz : ∀ ys : List Str, ys.length ≤ M → (∀ y ∈ ys, r y) → (ys.map (·.length)).sum + ys.length * sep.length ≤ 16777216 ∧ q' (Txt.join sep ys)) (hs : starEach [e] X.env = [(false, eval e X.env)] := by rfl) (hbase : attributeBase a "join" X.env (eval a X.env) = eval a X.env := by rfl) (hline : (apos.endLine == pos.line) = true := by rfl) :
    EvM X l (.Call (.Attribute a "join" apos) [e] [] pos) σ H k (strP q') := fun n H1 o1 b1 hn Q q => ofE (pe_join rE rE hs hbase hline) (ho H1 H1 (Ex.refl _) _ fun v H2 e2 hv => ⟨⟨sep, hv⟩, he n H2 (o1.ex e2) (b1.ex e2) hn _ fun y H3 o3 b3 ⟨ys, h1, h2, p, xs, hy, hx, al⟩ => by
  have ev : (ys.map fun y => isS y) = (ys.map V.str).map isv := by rw [List.map_map]; rfl
  rw [ev] at al
  have := Alls.isv.mp al
  subst this hy
  exact ⟨sep, p, ys, hv, rfl, .inl hx, (hz ys h2 h1).1, q _ H3 ((off_of e2).trans o3) b3 ⟨_, rfl, (hz ys h2 h1).2⟩⟩⟩)
end
section
variable {P : Program} {w : World} {K : PySem.W.Frag} {mg : Str → Option Value} {base : Heap}
theorem m_var {X : Cx} {σ : L2.St} {H : Hp} {l : Addr} {v : V} {P : Wd} {x : Str} {pos : Pos} (k : Nat) (h : σ[k]? = some (some v)) (hp : ∀ H1, Off l H H1 → (∃ n, Bx l n H1) → P v H1) (hN : X.N[k]? = some x := by rfl) (hv : Vis X.env.scope x := by first | exact Or.inl rfl | exact Or.inr (Or.inl rfl) | exact Or.inr (Or.inr rfl)) (hd : (x == ("__debug__" : Str)) = false := by decide)
    (hcd : (x == ("__classdict__" : Str)) = false := by decide) : EvM X l (.Name x pos) σ H 0 P := m_pure fun H1 o1 b1 => x_var k h (hp H1 o1 b1) hN hv hd hcd
def one01 : Str → Prop := fun s => ∃ b : Bool, s = ⟨#[pc b]⟩
def patP (M : Nat) : Wd := strP fun s => ∃ pat : List Bool, s = pstr pat ∧ pat.length ≤ M
def ctPattern : CtM := fun l k vs H P => k = 7 ∧ vs = [.ref l, .int 6] ∧ P = patP 6
theorem sc_lpattern : FnScope ["_law_box_here", "_law_most", "_law_k"] ["_law_box_here", "_law_most"] (C8.fnScope (top 49)) := C8.fnScope_by (by decide +kernel)
theorem texts_pat : ∀ {ys : List Str}, (∀ y ∈ ys, one01 y) → ∃ pat : List Bool, ys = pat.map fun b => (⟨#[pc b]⟩ : Str)
  | [], _ => ⟨[], rfl⟩
  | y :: ys, h => by
    obtain ⟨b, rfl⟩ := h y List.mem_cons_self
    obtain ⟨pat, e⟩ := texts_pat fun z hz => h z (List.mem_cons_of_mem _ hz)
    exact ⟨b :: pat, by rw [e]; rfl⟩
theorem ok_lpattern (T : Fx K w mg) : C8.Cal P w K mg base 2 "_law_pattern" (spM ctPattern) [] := by
  refine C8.cal0 (k := 1) T.d_law_pattern T.b_law_pattern .nil sc_lpattern (fun vs H Q E ⟨_, _, _, _, _, _, ⟨_, e, _⟩, _⟩ => by rw [e]; rfl) fun cdv A outer s H vs Q E hr ⟨l, n, k, W, hb, hn, hC, hQ⟩ => ⟨_, rSs, ?_⟩
  obtain ⟨rfl, rfl, rfl⟩ := hC
  have hn : n + 7 ≤ 1000000 := hn
  have htk : ∀ (X : Cx), X.prog = P → X.w = w → X.K = K → X.mg = mg → X.base = base → C8.Cal X.prog X.w X.K X.mg X.base 1 "_law_take" (spM ctTake) [] := fun X h1 h2 h3 h4 h5 => by rw [h1, h2, h3, h4, h5]; exact ok_take T
  refine cm_ret (l := l) (n := n) (k := 1 + 6) (P := patP 6) (m_join (M := 6) (r := one01) (sep := "") (fun H1 => x_str) (m_lc (k := 1) (M := 6) (i := 2) (by omega) T.z_range (EvM.imp (m_call (l := l) (k1 := 0) (k := 1) (Ps := [isv (.ref l), isI 7]) (P := intP fun d => 0 ≤ d ∧ d < 7) (ok_take T) hr (am_cons (k1 := 0) (k2 := 0) (m_var 0 rfl fun _ _ _ => rfl) nl_isv (am_cons (k1 := 0) (k2 := 0) (m_pure fun H1 _ _ => EvE.is (x_add (x_var (P := isI 6) 1 rfl rfl) x_int) rfl) nl_isv am_nil)) fun vs H1 _ hvs => ⟨rfl, 7, (Alls.isv (xs := [.ref l, .int 7])).mp hvs, by omega, by omega, rfl⟩) fun v H1 ⟨d, e, h0, h1⟩ => ⟨d, e, h0, by show d ≤ 6; omega⟩) (fun y H1 s H0 C cl fp => ?_) sc_lpattern.nd (blkOk_by (N := ["_law_box_here", "_law_most", "_law_k"]) (sc := C8.fnScope (top 49)) (by decide +kernel)) (fun _ _ _ _ _ => pg_name sc_lpattern.nd rfl (Or.inl rfl))) fun ys h1 h2 => ?_) hb hn fun v H1 o1 b1 hv => hQ v H1 o1 b1 hv
  · refine m_ixS (z := "><") (p := fun d => 0 ≤ d ∧ d < 2) (fun H1 => x_str) (m_call (l := l) (k1 := 0) (k := 1) (Ps := [isv (.ref l), isI 2]) (htk _ rfl rfl rfl rfl rfl) hr (am_cons (k1 := 0) (k2 := 0) (m_var 0 rfl fun _ _ _ => rfl) nl_isv (am_cons (k1 := 0) (k2 := 0) (m_pure fun H1 _ _ => x_int) nl_isv am_nil)) fun vs H1 _ hvs => ⟨rfl, 2, (Alls.isv (xs := [.ref l, .int 2])).mp hvs, by omega, by omega, rfl⟩) (by decide +kernel) fun d hd => ?_
    have : d = 0 ∨ d = 1 := by omega
    rcases this with rfl | rfl
    · exact ⟨62, by omega, by decide +kernel, true, rfl⟩
    · exact ⟨60, by omega, by decide +kernel, false, rfl⟩
  · obtain ⟨pat, rfl⟩ := texts_pat h2
    rw [List.length_map] at h1
    refine ⟨?_, pat, join_pstr pat, h1⟩
    rw [sum_ones, (by decide +kernel : (("" : Str)).length = 0)]
    simp; omega
end
end WK
end
section
set_option maxRecDepth 100000
set_option maxHeartbeats 1000000
namespace WK
open PySem PySem.Spec PyProof.Rows L2 FU
open Evl (Ex)
open MR (W Wf textW brk mkW inB ar bth eds birthsL endsL rowN stairW lws rws corner wordOf woGo nL nR stairsL plainW)
/-- leaves and carryings together -/
def szW : W → Nat
  | .leaf _ _ => 1
  | .rt u => szW u + 1
  | .lf u => szW u + 1
  | .add x y => szW x + szW y
  | .meet x y => szW x + szW y
theorem sz_depth : ∀ u : W, u.depth + 1 ≤ szW u ∧ 1 ≤ szW u
  | .leaf _ _ => ⟨by simp [W.depth, szW], by simp [szW]⟩
  | .rt u => by have := sz_depth u; simp [W.depth, szW]; omega
  | .lf u => by have := sz_depth u; simp [W.depth, szW]; omega
  | .add x y => by have := sz_depth x; have := sz_depth y; simp [W.depth, szW]; omega
  | .meet x y => by have := sz_depth x; have := sz_depth y; simp [W.depth, szW]; omega
def shP (K : PySem.W.Frag) (p : Int) (last deep : Nat) : Wd := ⟨fun v H => ∃ u, Wf last u ∧ u.place = p ∧ szW u ≤ deep ∧ isSh K u v H, fun e ⟨u, h1, h2, h3, h4⟩ => ⟨u, h1, h2, h3, (isSh K u).st e h4⟩⟩
theorem nl_shP {K : PySem.W.Frag} {p : Int} {last deep : Nat} : NL (shP K p last deep) := fun e ⟨u, h1, h2, h3, h4⟩ => ⟨u, h1, h2, h3, nl_isSh u e h4⟩
section
variable {P : Program} {w : World} {K : PySem.W.Frag} {mg : Str → Option Value} {base : Heap}
def ctLShape (K : PySem.W.Frag) (N : Nat) : CtM := fun l k vs H P => ∃ p last deep : Nat, vs = [.ref l, .int p, .int last, .int deep] ∧ k = 4 * deep - 3 ∧ p ≤ last ∧ last ≤ 6 ∧ 1 ≤ deep ∧ deep ≤ N ∧ P = shP K p last deep
theorem sc_lshape : FnScope ["_law_box_here", "_law_place_here", "_law_last", "_law_deep", "_law_way", "_law_half"] ["_law_box_here", "_law_place_here", "_law_last", "_law_deep"] (C8.fnScope (top 51)) := C8.fnScope_by (by decide +kernel)
theorem str01 : ∀ i : Int, 0 ≤ i ∧ i < 2 → i.natAbs.log2 < 1920 ∧ ∃ b : Bool, Str.ofString (toString i) = (if b then ("1" : Str) else ("0" : Str)) := fun i hi => by
  have : i = 0 ∨ i = 1 := by omega
  rcases this with rfl | rfl
  · exact ⟨by decide +kernel, false, by decide +kernel⟩
  · exact ⟨by decide +kernel, true, by decide +kernel⟩
theorem dec_int (a b : Int) : decide (V.int a = V.int b) = decide (a = b) := by
  rw [Bool.eq_iff_iff, decide_eq_true_iff, decide_eq_true_iff]
  exact ⟨fun h => V.int.inj h, fun h => by rw [h]⟩
theorem ok_lshape (T : Fx K w mg) : ∀ N : Nat, N ≤ 100 → C8.Cal P w K mg base (N + 1) "_law_shape" (spM (ctLShape K N)) [] := by
  intro N
  induction N with
  | zero =>
    intro _
    refine C8.cal0 (k := 0) T.d_law_shape T.b_law_shape .nil sc_lshape (fun vs H Q E ⟨_, _, _, _, _, _, ⟨_, _, _, e, _⟩, _⟩ => by rw [e]; rfl) fun cdv A outer s H vs Q E hr ⟨l, n, k, W, hb, hn, ⟨p, last, deep, _, _, _, _, h1, h2, _⟩, hQ⟩ => by omega
  | succ N ih =>
    intro hN
    have ih := ih (by omega)
    refine C8.cal0 (k := N + 1) T.d_law_shape T.b_law_shape .nil sc_lshape (fun vs H Q E ⟨_, _, _, _, _, _, ⟨_, _, _, e, _⟩, _⟩ => by rw [e]; rfl) fun cdv A outer s H vs Q E hr ⟨l, n, k, W, hb, hn, hC, hQ⟩ => ⟨_, rSs, ?_⟩
    obtain ⟨p, last, deep, rfl, rfl, hpl, hl6, hd1, hdN, rfl⟩ := hC
    have hn : n + (4 * deep - 3) ≤ 1000000 := hn
    by_cases hdeep : deep = 1
    · -- a leaf at once
      subst hdeep
      refine cm_asg (l := l) (n := n) (k := 0) (i := 4) (P := isI 0) (m_if (b' := false) (fun H1 _ => EvT.is (t_gt (x_var (P := isI ((1 : Nat) : Int)) 3 rfl rfl) x_int) (by decide)) (fun z => nomatch z) fun _ => m_pure fun H1 _ _ => x_int) hb (by show _ ≤ 1000000; omega) (fun v H1 o1 b1 hv => ?_) sc_lshape.nd
      cases hv
      refine c_if (b' := true) (EvT.is (t_eq (v := .int 0) (w := .int 0) (x_var (P := isI 0) 4 rfl rfl) x_int) (decide_eq_true rfl)) (fun _ H2 e2 => ?_) fun z => nomatch z
      refine cm_ret (l := l) (n := n) (k := 1) (P := shP K p last 1) (EvM.imp (m_tup (Ps := [strP fun s => ∃ b : Bool, s = if b then ("1" : Str) else ("0" : Str), isI p]) (am_cons (k1 := 1) (k2 := 0) (m_str (p := fun d => 0 ≤ d ∧ d < 2) T.z_str (m_call (l := l) (k1 := 0) (k := 1) (Ps := [isv (.ref l), isI 2]) (ok_take T) hr (am_cons (k1 := 0) (k2 := 0) (m_var 0 rfl fun _ _ _ => rfl) nl_isv (am_cons (k1 := 0) (k2 := 0) (m_pure fun H1 _ _ => x_int) nl_isv am_nil)) fun vs H1 _ hvs => ⟨rfl, 2, (Alls.isv (xs := [.ref l, .int 2])).mp hvs, by omega, by omega, rfl⟩) str01) nl_strP (am_cons (k1 := 0) (k2 := 0) (m_var (P := isI p) 1 rfl fun _ _ _ => rfl) nl_isv am_nil))) fun v H3 hv => ?_) (b1.ex e2) (by show _ ≤ 1000000; omega) fun v H3 o3 b3 hv => hQ v H3 ((o1.ex e2).trans o3) (b3.mono (by omega)) hv
      obtain ⟨q, xs, rfl, hq, hal⟩ := hv
      obtain ⟨x, y, rfl, ⟨_, rfl, b, rfl⟩, hy⟩ := Alls.two hal
      exact ⟨.leaf b p, ⟨by omega, by omega⟩, rfl, by simp [szW], q, _, rfl, hq, rfl, hy, trivial⟩
    have hd2 : 2 ≤ deep := by omega
    refine cm_asg (l := l) (n := n) (k := 1) (i := 4) (P := intP fun d => 0 ≤ d ∧ d < 6) (m_if (b' := true) (fun H1 _ => EvT.is (t_gt (x_var (P := isI deep) 3 rfl rfl) x_int) (decide_eq_true (by omega))) (fun _ => m_call (l := l) (k1 := 0) (k := 1) (Ps := [isv (.ref l), isI 6]) (ok_take T) hr (am_cons (k1 := 0) (k2 := 0) (m_var 0 rfl fun _ _ _ => rfl) nl_isv (am_cons (k1 := 0) (k2 := 0) (m_pure fun H1 _ _ => x_int) nl_isv am_nil)) fun vs H1 _ hvs => ⟨rfl, 6, (Alls.isv (xs := [.ref l, .int 6])).mp hvs, by omega, by omega, rfl⟩) fun z => nomatch z) hb (by show _ ≤ 1000000; omega) (fun v H1 o1 b1 hv => ?_) sc_lshape.nd
    obtain ⟨d, rfl, hd0, hd6⟩ := hv
    refine c_if (b' := decide (d = 0)) (EvT.is (t_eq (v := .int d) (w := .int 0) (x_var (P := isI d) 4 rfl rfl) x_int) (dec_int _ _)) (fun hz H2 e2 => ?_) fun hz H2 e2 => ?_
    · refine cm_ret (l := l) (n := n + 1) (k := 1) (P := shP K p last deep) (EvM.imp (m_tup (Ps := [strP fun s => ∃ b : Bool, s = if b then ("1" : Str) else ("0" : Str), isI p]) (am_cons (k1 := 1) (k2 := 0) (m_str (p := fun d => 0 ≤ d ∧ d < 2) T.z_str (m_call (l := l) (k1 := 0) (k := 1) (Ps := [isv (.ref l), isI 2]) (ok_take T) hr (am_cons (k1 := 0) (k2 := 0) (m_var 0 rfl fun _ _ _ => rfl) nl_isv (am_cons (k1 := 0) (k2 := 0) (m_pure fun H1 _ _ => x_int) nl_isv am_nil)) fun vs H1 _ hvs => ⟨rfl, 2, (Alls.isv (xs := [.ref l, .int 2])).mp hvs, by omega, by omega, rfl⟩) str01) nl_strP (am_cons (k1 := 0) (k2 := 0) (m_var (P := isI p) 1 rfl fun _ _ _ => rfl) nl_isv am_nil))) fun v H3 hv => ?_) (b1.ex e2) (by show _ ≤ 1000000; omega) fun v H3 o3 b3 hv => hQ v H3 ((o1.ex e2).trans o3) (b3.mono (by omega)) hv
      obtain ⟨q, xs, rfl, hq, hal⟩ := hv
      obtain ⟨x, y, rfl, ⟨_, rfl, b, rfl⟩, hy⟩ := Alls.two hal
      exact ⟨.leaf b p, ⟨by omega, by omega⟩, rfl, by simp [szW]; omega, q, _, rfl, hq, rfl, hy, trivial⟩
    refine c_nil ?_
    have o2 := o1.ex e2
    have b2 := b1.ex e2
    refine c_if (b' := decide (d = 1) && decide ((0 : Int) < p)) (t_and (EvT.is (t_eq (v := .int d) (w := .int 1) (x_var (P := isI d) 4 rfl rfl) x_int) (dec_int _ _)) fun _ => t_gt (x_var (P := isI p) 1 rfl rfl) x_int) (fun hc H3 e3 => ?_) fun hc H3 e3 => ?_
    · rw [Bool.and_eq_true, decide_eq_true_iff, decide_eq_true_iff] at hc
      have hp1 : (p : Int) - 1 = ((p - 1 : Nat) : Int) := by omega
      have hq1 : (deep : Int) - 1 = ((deep - 1 : Nat) : Int) := by omega
      refine cm_ret (l := l) (n := n + 1) (k := 0 + ((0 + (4 * (deep - 1) - 3)) + 0)) (P := shP K p last deep) (EvM.imp (m_tup (Ps := [isS "right", shP K ((p - 1 : Nat) : Int) last (deep - 1)]) (am_cons (k1 := 0) (m_pure fun H1 _ _ => x_str) nl_isv (am_cons (k1 := 0 + (4 * (deep - 1) - 3)) (k2 := 0) (m_call (l := l) (k1 := 0) (k := 4 * (deep - 1) - 3) (Ps := [isv (.ref l), isI ((p - 1 : Nat) : Int), isI last, isI ((deep - 1 : Nat) : Int)]) ih hr (am_cons (k1 := 0) (k2 := 0) (m_var 0 rfl fun _ _ _ => rfl) nl_isv (am_cons (k1 := 0) (k2 := 0) (m_pure fun H1 _ _ => EvE.is (x_sub (x_var (P := isI p) 1 rfl rfl) x_int) (by congr 1)) nl_isv (am_cons (k1 := 0) (k2 := 0) (m_var (P := isI last) 2 rfl fun _ _ _ => rfl) nl_isv (am_cons (k1 := 0) (k2 := 0) (m_pure fun H1 _ _ => EvE.is (x_sub (x_var (P := isI deep) 3 rfl rfl) x_int) (by congr 1)) nl_isv am_nil)))) fun vs H1 _ hvs => ⟨p - 1, last, deep - 1, (Alls.isv (xs := [.ref l, .int ((p - 1 : Nat) : Int), .int last, .int ((deep - 1 : Nat) : Int)])).mp hvs, rfl, by omega, hl6, by omega, by omega, rfl⟩) nl_shP am_nil))) fun v H4 hv => ?_) (b2.ex e3) (by show _ ≤ 1000000; omega) fun v H4 o4 b4 hv => hQ v H4 ((o2.ex e3).trans o4) (b4.mono (by omega)) hv
      obtain ⟨q, xs, rfl, hq, hal⟩ := hv
      obtain ⟨x, y, rfl, hx, u, hw, hu, hs, hy⟩ := Alls.two hal
      exact ⟨.rt u, ⟨hw, by omega⟩, by show u.place + 1 = _; omega, by simp [szW]; omega, q, _, rfl, hq, hx, hy, trivial⟩
    refine c_nil ?_
    have o3 := o2.ex e3
    have b3 := b2.ex e3
    refine c_if (b' := decide (d = 2) && decide ((p : Int) < last)) (t_and (EvT.is (t_eq (v := .int d) (w := .int 2) (x_var (P := isI d) 4 rfl rfl) x_int) (dec_int _ _)) fun _ => t_lt (x_var (P := isI p) 1 rfl rfl) (x_var (P := isI last) 2 rfl rfl)) (fun hc2 H4 e4 => ?_) fun hc2 H4 e4 => ?_
    · rw [Bool.and_eq_true, decide_eq_true_iff, decide_eq_true_iff] at hc2
      have hq1 : (deep : Int) - 1 = ((deep - 1 : Nat) : Int) := by omega
      refine cm_ret (l := l) (n := n + 1) (k := 0 + ((0 + (4 * (deep - 1) - 3)) + 0)) (P := shP K p last deep) (EvM.imp (m_tup (Ps := [isS "left", shP K ((p + 1 : Nat) : Int) last (deep - 1)]) (am_cons (k1 := 0) (m_pure fun H1 _ _ => x_str) nl_isv (am_cons (k1 := 0 + (4 * (deep - 1) - 3)) (k2 := 0) (m_call (l := l) (k1 := 0) (k := 4 * (deep - 1) - 3) (Ps := [isv (.ref l), isI ((p + 1 : Nat) : Int), isI last, isI ((deep - 1 : Nat) : Int)]) ih hr (am_cons (k1 := 0) (k2 := 0) (m_var 0 rfl fun _ _ _ => rfl) nl_isv (am_cons (k1 := 0) (k2 := 0) (m_pure fun H1 _ _ => EvE.is (x_add (x_var (P := isI p) 1 rfl rfl) x_int) (by congr 1)) nl_isv (am_cons (k1 := 0) (k2 := 0) (m_var (P := isI last) 2 rfl fun _ _ _ => rfl) nl_isv (am_cons (k1 := 0) (k2 := 0) (m_pure fun H1 _ _ => EvE.is (x_sub (x_var (P := isI deep) 3 rfl rfl) x_int) (by congr 1)) nl_isv am_nil)))) fun vs H1 _ hvs => ⟨p + 1, last, deep - 1, (Alls.isv (xs := [.ref l, .int ((p + 1 : Nat) : Int), .int last, .int ((deep - 1 : Nat) : Int)])).mp hvs, rfl, by omega, hl6, by omega, by omega, rfl⟩) nl_shP am_nil))) fun v H5 hv => ?_) (b3.ex e4) (by show _ ≤ 1000000; omega) fun v H5 o5 b5 hv => hQ v H5 ((o3.ex e4).trans o5) (b5.mono (by omega)) hv
      obtain ⟨q, xs, rfl, hq, hal⟩ := hv
      obtain ⟨x, y, rfl, hx, u, hw, hu, hs, hy⟩ := Alls.two hal
      exact ⟨.lf u, ⟨hw, by omega⟩, by show u.place - 1 = _; omega, by simp [szW]; omega, q, _, rfl, hq, hx, hy, trivial⟩
    refine c_nil ?_
    have o4 := o3.ex e4
    have b4 := b3.ex e4
    have hq1 : (deep : Int) - 1 = ((deep - 1 : Nat) : Int) := by omega
    refine cm_asg (l := l) (n := n + 1) (k := 1) (i := 5) (P := intP fun j => ∃ d, (0 ≤ d ∧ d < ((deep - 1 : Nat) : Int)) ∧ j = 1 + d) (m_add (i := 1) (fun H1 => x_int) (m_call (l := l) (k1 := 0) (k := 1) (Ps := [isv (.ref l), isI ((deep - 1 : Nat) : Int)]) (ok_take T) hr (am_cons (k1 := 0) (k2 := 0) (m_var 0 rfl fun _ _ _ => rfl) nl_isv (am_cons (k1 := 0) (k2 := 0) (m_pure fun H1 _ _ => EvE.is (x_sub (x_var (P := isI deep) 3 rfl rfl) x_int) (by congr 1)) nl_isv am_nil)) fun vs H1 _ hvs => ⟨rfl, ((deep - 1 : Nat) : Int), (Alls.isv (xs := [.ref l, .int ((deep - 1 : Nat) : Int)])).mp hvs, by omega, by omega, rfl⟩)) b4 (by show _ ≤ 1000000; omega) (fun v H5 o5 b5 hv => ?_) sc_lshape.nd
    obtain ⟨_, rfl, e, he, rfl⟩ := hv
    obtain ⟨h, hh⟩ : ∃ h : Nat, 1 + e = h := ⟨(1 + e).toNat, by omega⟩
    rw [hh]
    have hh1 : 1 ≤ h ∧ h + 1 ≤ deep := by omega
    have hdh : (deep : Int) - h = ((deep - h : Nat) : Int) := by omega
    refine cm_ret (l := l) (n := n + 1 + 1) (k := 1 + ((0 + (4 * h - 3)) + ((0 + (4 * (deep - h) - 3)) + 0))) (P := shP K p last deep) (EvM.imp (m_tup (Ps := [strP fun s => s = "+" ∨ s = "&", shP K (p : Int) last h, shP K (p : Int) last (deep - h)]) (am_cons (k1 := 1) (m_ixS (z := "+&") (p := fun d => 0 ≤ d ∧ d < 2) (fun H1 => x_str) (m_call (l := l) (k1 := 0) (k := 1) (Ps := [isv (.ref l), isI 2]) (ok_take T) hr (am_cons (k1 := 0) (k2 := 0) (m_var 0 rfl fun _ _ _ => rfl) nl_isv (am_cons (k1 := 0) (k2 := 0) (m_pure fun H1 _ _ => x_int) nl_isv am_nil)) fun vs H1 _ hvs => ⟨rfl, 2, (Alls.isv (xs := [.ref l, .int 2])).mp hvs, by omega, by omega, rfl⟩) (by decide +kernel) fun d hd => ?_) nl_strP
      (am_cons (k1 := 0 + (4 * h - 3)) (k2 := (0 + (4 * (deep - h) - 3)) + 0) (m_call (l := l) (k1 := 0) (k := 4 * h - 3) (Ps := [isv (.ref l), isI p, isI last, isI h]) ih hr (am_cons (k1 := 0) (k2 := 0) (m_var 0 rfl fun _ _ _ => rfl) nl_isv (am_cons (k1 := 0) (k2 := 0) (m_var (P := isI p) 1 rfl fun _ _ _ => rfl) nl_isv (am_cons (k1 := 0) (k2 := 0) (m_var (P := isI last) 2 rfl fun _ _ _ => rfl) nl_isv (am_cons (k1 := 0) (k2 := 0) (m_var (P := isI h) 5 rfl fun _ _ _ => rfl) nl_isv am_nil)))) fun vs H1 _ hvs => ⟨p, last, h, (Alls.isv (xs := [.ref l, .int p, .int last, .int h])).mp hvs, rfl, by omega, hl6, by omega, by omega, rfl⟩) nl_shP
      (am_cons (k1 := 0 + (4 * (deep - h) - 3)) (k2 := 0) (m_call (l := l) (k1 := 0) (k := 4 * (deep - h) - 3) (Ps := [isv (.ref l), isI p, isI last, isI ((deep - h : Nat) : Int)]) ih hr (am_cons (k1 := 0) (k2 := 0) (m_var 0 rfl fun _ _ _ => rfl) nl_isv (am_cons (k1 := 0) (k2 := 0) (m_var (P := isI p) 1 rfl fun _ _ _ => rfl) nl_isv (am_cons (k1 := 0) (k2 := 0) (m_var (P := isI last) 2 rfl fun _ _ _ => rfl) nl_isv (am_cons (k1 := 0) (k2 := 0) (m_pure fun H1 _ _ => EvE.is (x_sub (x_var (P := isI deep) 3 rfl rfl) (x_var (P := isI h) 5 rfl rfl)) (by congr 1)) nl_isv am_nil)))) fun vs H1 _ hvs => ⟨p, last, deep - h, (Alls.isv (xs := [.ref l, .int p, .int last, .int ((deep - h : Nat) : Int)])).mp hvs, rfl, by omega, hl6, by omega, by omega, rfl⟩) nl_shP am_nil)))) fun v H6 hv => ?_) b5 (by show _ ≤ 1000000; omega) fun v H6 o6 b6 hv => hQ v H6 ((o4.trans o5).trans o6) (b6.mono (by omega)) hv
    · have : d = 0 ∨ d = 1 := by omega
      rcases this with rfl | rfl
      · exact ⟨43, by omega, by decide +kernel, .inl (by decide +kernel)⟩
      · exact ⟨38, by omega, by decide +kernel, .inr (by decide +kernel)⟩
    · obtain ⟨q, xs, rfl, hq, hal⟩ := hv
      obtain ⟨x, y, z, rfl, ⟨sg, rfl, hsg⟩, ⟨u1, hw1, hu1, hs1, hy⟩, u2, hw2, hu2, hs2, hz⟩ := Alls.three hal
      rcases hsg with rfl | rfl
      · exact ⟨.add u1 u2, ⟨hw1, hw2, by rw [hu1, hu2]⟩, hu1, by simp [szW]; omega, q, _, rfl, hq, rfl, hy, hz, trivial⟩
      · exact ⟨.meet u1 u2, ⟨hw1, hw2, by rw [hu1, hu2]⟩, hu1, by simp [szW]; omega, q, _, rfl, hq, rfl, hy, hz, trivial⟩
end
end WK
end
section
set_option maxRecDepth 100000
set_option maxHeartbeats 1000000
namespace WK
open MR
/-! sizes of plain words -/
theorem txt_sz : ∀ u : W, (textW u).length + 7 ≤ 10 * szW u
  | .leaf b p => by simp [textW, szW]
  | .rt u => by have := txt_sz u; simp [textW, szW]; omega
  | .lf u => by have := txt_sz u; simp [textW, szW]; omega
  | .add x y => by
    have := txt_sz x; have := txt_sz y
    have hb : ∀ (b : Bool) (t : List Nat), (brk b t).length ≤ t.length + 2 := fun b t => by cases b <;> simp [brk]
    have := hb y.isAdd (textW y)
    simp [textW, szW]; omega
  | .meet x y => by
    have := txt_sz x; have := txt_sz y
    have hb : ∀ (b : Bool) (t : List Nat), (brk b t).length ≤ t.length + 2 := fun b t => by cases b <;> simp [brk]
    have := hb x.isAdd (textW x)
    have := hb (y.isMeet || y.isAdd) (textW y)
    simp [textW, szW]; omega
theorem lws_sz (pat : List Bool) : ∀ (n : Nat) (x : W), x ∈ lws pat n → szW x ≤ n + 1
  | 0, x, h => by
    simp [lws] at h
    rcases h with rfl | rfl <;> simp [szW]
  | n + 1, x, h => by
    rw [lws] at h
    rcases List.mem_cons.mp h with rfl | h
    · simp [szW]
    rcases List.mem_append.mp h with h | h
    · have : x ∈ (lws pat n).map W.rt := by
        split at h
        · exact List.mem_of_mem_tail h
        · exact List.dropLast_subset _ h
      obtain ⟨y, hy, rfl⟩ := List.mem_map.mp this
      have := lws_sz pat n y hy
      simp [szW]; omega
    · rw [List.mem_singleton.mp h]; simp [szW]
theorem rws_sz (pat : List Bool) : ∀ (n : Nat) (x : W), x ∈ rws pat n → szW x ≤ n + 1
  | 0, x, h => by
    simp [rws] at h
    rcases h with rfl | rfl <;> simp [szW]
  | n + 1, x, h => by
    rw [rws] at h
    rcases List.mem_cons.mp h with rfl | h
    · simp [szW]
    rcases List.mem_append.mp h with h | h
    · have : x ∈ (rws pat n).map W.lf := by
        split at h
        · exact List.dropLast_subset _ h
        · exact List.mem_of_mem_tail h
      obtain ⟨y, hy, rfl⟩ := List.mem_map.mp this
      have := rws_sz pat n y hy
      simp [szW]; omega
    · rw [List.mem_singleton.mp h]; simp [szW]
theorem getD_sz {l : List W} {B : Nat} (h : ∀ x ∈ l, szW x ≤ B) (hB : 1 ≤ B) (i : Nat) : szW (l.getD i (.leaf false 0)) ≤ B := by
  rw [List.getD_eq_getElem?_getD]
  cases e : l[i]? with
  | none => simpa [szW] using hB
  | some x => exact h x (List.mem_of_getElem? e)
def oSz : Option W → Nat
  | none => 0
  | some u => szW u
theorem go_sz {L R : List W} {B : Nat} (hc : ∀ i j, szW (corner L R i j) ≤ B) : ∀ (s : List Int) (i : Nat) (o : Option W), oSz (woGo L R s i o) ≤ oSz o + B * s.length
  | [], i, o => by simp [woGo]
  | c :: r, i, o => by
    rw [woGo]
    have hl : B * (c :: r).length = B * r.length + B := by rw [List.length_cons, Nat.mul_succ]
    split
    · have := go_sz hc r (i + 1) (some (plus o (corner L R (i + 1) c.toNat)))
      have hp : szW (plus o (corner L R (i + 1) c.toNat)) ≤ oSz o + B := by
        have hk := hc (i + 1) c.toNat
        cases o with
        | none =>
          show szW (corner L R (i + 1) c.toNat) ≤ 0 + B
          omega
        | some f =>
          show szW f + szW (corner L R (i + 1) c.toNat) ≤ szW f + B
          omega
      have e : oSz (some (plus o (corner L R (i + 1) c.toNat))) = szW (plus o (corner L R (i + 1) c.toNat)) := rfl
      omega
    · have := go_sz hc r (i + 1) o
      omega
theorem wordOf_sz {pat : List Bool} {p : Int} {s : List Int} (hl : pat.length ≤ 6) (h0 : 0 ≤ p) (h1 : p ≤ pat.length) (hs : s.length ≤ 7) : szW (wordOf pat p s) ≤ 98 := by
  have hL : ∀ x ∈ nL pat p, szW x ≤ 7 := fun x hx => by
    have := lws_sz pat _ x hx
    omega
  have hR : ∀ x ∈ nR pat p, szW x ≤ 7 := fun x hx => by
    have := rws_sz pat _ x hx
    omega
  have hc : ∀ i j, szW (corner (nL pat p) (nR pat p) i j) ≤ 14 := fun i j => by
    have a := getD_sz hL (by omega) i
    have b := getD_sz hR (by omega) j
    unfold corner
    split
    · omega
    · split
      · omega
      · show szW _ + szW _ ≤ 14
        omega
  have := go_sz hc s 0 none
  unfold wordOf
  cases e : woGo (nL pat p) (nR pat p) s 0 none with
  | none => simp [szW]
  | some u =>
    rw [e] at this
    have e2 : oSz (none : Option W) = 0 := rfl
    have e3 : oSz (some u) = szW u := rfl
    show szW u ≤ 98
    have : 14 * s.length ≤ 98 := by omega
    omega
/-- all that is asked of a word here -/
structure Fine (pat : List Bool) (u : W) : Prop where
  wf : Wf pat.length u
  sz : szW u ≤ 98
theorem Fine.dp {pat : List Bool} {u : W} (h : Fine pat u) : u.depth ≤ 100 := by
  have := (sz_depth u).1
  have := h.sz
  omega
theorem Fine.tx {pat : List Bool} {u : W} (h : Fine pat u) : (textW u).length ≤ 50000 := by
  have := txt_sz u
  have := h.sz
  omega
theorem fine_wordOf {pat : List Bool} {p : Int} {s : List Int} (hl : pat.length ≤ 6) (h0 : 0 ≤ p) (h1 : p ≤ pat.length) (hs : s ∈ stairsL (p.toNat + 1) ((pat.length : Int) - p + 1)) : Fine pat (wordOf pat p s) ∧ (wordOf pat p s).place = p ∧ stairW pat (wordOf pat p s) = s ∧ plainW pat (wordOf pat p s) = wordOf pat p s := by
  have A := wordOf_at h0 h1 hs
  have hst := stair_wordOf h0 h1 hs
  refine ⟨⟨A.wf, wordOf_sz hl h0 h1 (by rw [(mem_stairs.mp hs).1]; omega)⟩, A.pl, hst, ?_⟩
  unfold plainW
  rw [hst, A.pl]
theorem fine_plain {pat : List Bool} {u : W} (hl : pat.length ≤ 6) (h : Wf pat.length u) : Fine pat (plainW pat u) ∧ (plainW pat u).place = u.place ∧ stairW pat (plainW pat u) = stairW pat u ∧ plainW pat (plainW pat u) = plainW pat u := by
  have hp := Wf.pl h
  have := fine_wordOf hl hp.1 hp.2 (stair_mem h)
  exact this
theorem Fine.six {pat : List Bool} {u : W} (h : Fine pat u) (hl : pat.length ≤ 6) : Wf 6 u := Wf.mono (by omega) h.wf
end WK
end
section
set_option maxRecDepth 100000
set_option maxHeartbeats 3200000
namespace FU.StX
open PySem PySem.Spec PyProof.Rows
/-! set(xs), xs a list of texts no two of which are alike -/
section
variable {prog : Program} {w : World} {A : Around}
theorem keepSet {K : Type} [DecidableEq K] {knd : KeyKind prog w K} {h h' : Heap} {a : Addr} {S : K → Bool} {n : Nat} (R : h.SetOf knd a S n) (k : ∀ o, h.get? a = some o → h'.get? a = some o) : h'.SetOf knd a S n :=
  match R with | ⟨o, es, ep, t, ho, r⟩ => ⟨o, es, ep, t, k o ho, r⟩
/-- what the set holds when the texts of don are in it -/
abbrev InAll (don : List Str) : Str → Bool := fun k => decide (k ∈ don)
theorem put_one {h : Heap} {a : Addr} {don : List Str} {x : Str} (hx : x ∉ don) (R : h.SetOf (PySem.strKind prog w) a (fun k => InAll don k || decide (k = x)) (if InAll don x then don.length else don.length + 1)) :
    h.SetOf (PySem.strKind prog w) a (InAll (don ++ [x])) (don ++ [x]).length := by
  have e1 : (if InAll don x = true then don.length else don.length + 1) = (don ++ [x]).length := by rw [if_neg (by simpa [InAll] using hx)]; simp
  have e2 : (fun k => InAll don k || decide (k = x)) = InAll (don ++ [x]) := by funext k; simp [InAll, Bool.decide_or]
  rw [e1, e2] at R
  exact R
variable {R : Result → Shared → Prop} {I : Addr} {fp wr : List Addr} {G : Array GenState → Array GenState → Prop} {n : Nat} {P : Nat → Value → Prop} {St : Nat → Shared → Prop}
/-- the texts go in one by one: don are in, rest are still to come -/
theorem fill (W : WalksS prog w A.in1 I fp wr G n P St) {S : Addr} (hS : S ∉ fp) (xs : List Str) (hn : xs.length = n) (few : n < 200) (nd : xs.Nodup) (at_ : ∀ i v, P i v → ∃ x t, xs[i]? = some x ∧ v = .str x t) (rest : List Str) :
    ∀ (don : List Str) (s : Shared), don ++ rest = xs → St don.length s → s.heap.SetOf (PySem.strKind prog w) S (InAll don) don.length →
      (∀ s', Moved (S :: wr) G s s' → s'.heap.SetOf (PySem.strKind prog w) S (InAll xs) n → R (.ok (.ret .none)) s') → codeAny (model prog w) A (.builtin "set.update.loop" ⟨[.ref S, .ref I], []⟩) R s := by
  have out : S ∉ wr := hS ∘ W.sub S
  induction rest with
  | nil =>
    intro don s e st set fin
    rw [List.append_nil] at e
    subst e
    rw [hn] at st set
    refine codeAny_builtin PyProof.Rows.F.entry_set_update_loop (Around.under_plainId PyProof.Rows.F.plain_set_update_loop _ ▸ wpAny_bind (W.done s _ _ st fun s1 mv => wpAny_pure (fin s1 (mv.mono fun b => List.mem_cons_of_mem _) (keepSet set fun o => mv.heap S o out))))
  | cons x rest ih =>
    intro don s e st set fin
    have lt : don.length < n := by rw [← hn, ← e, List.length_append, List.length_cons]; omega
    have hx : xs[don.length]? = some x := by rw [← e, List.getElem?_append_right (Nat.le_refl _), Nat.sub_self]; rfl
    have new : x ∉ don := fun z => by
      rw [← e, List.nodup_append] at nd
      exact nd.2.2 x z x List.mem_cons_self rfl
    refine codeAny_builtin PyProof.Rows.F.entry_set_update_loop (Around.under_plainId PyProof.Rows.F.plain_set_update_loop _ ▸ wpAny_bind (W.item don.length s _ _ lt st fun v s1 hP st1 mv => ?_))
    obtain ⟨y, t, hy, rfl⟩ := at_ _ v hP
    obtain rfl : x = y := Option.some.inj (hx.symm.trans hy)
    refine wpAny_bind (wpAny_holding (wpAny_holding (wpAny_bind ((PySem.strKind prog w).pyHash (k := x) (strKind_is prog w x t) ?_))))
    refine wpAny_setAddHashed_of (knd := PySem.strKind prog w) (s := { s1 with toks := s1.toks + 1 }) (strKind_is prog w x t) rfl (keepSet set fun o => mv.heap S o out) (by unfold scanBound; omega) fun h2 but set2 => ?_
    have same : ∀ b, b ∈ fp → ∀ o, s1.heap.get? b = some o → h2.get? b = some o := fun b hb o q => (but.2 b fun z => hS (z ▸ hb)).trans q
    refine wpAny_pure ⟨plainId_quiet PyProof.Rows.F.plain_set_update_loop _, ih (don ++ [x]) _ (by rw [List.append_assoc]; exact e) ?_ (put_one new set2) fun s3 mv3 set3 => fin s3 (Moved.trans W.gtrans ((mv.mono fun b => List.mem_cons_of_mem _).then_heap (Nat.le_succ _) fun b o hb q => ?_) mv3) set3⟩
    · rw [List.length_append]
      exact W.frame _ s1 _ _ st1 (Nat.le_succ _) same
    · exact (but.2 b fun z => hb (z ▸ List.mem_cons_self)).trans q
end
section
variable {prog : Program} {w : World} {A : Around} {E : Value → Shared → Prop} {s : Shared}
/-- the empty set as it is made -/
abbrev bare (led : Bool) : Obj := { cls := .type "set", dict := none, data := .set #[] 0 (.fresh 0 0 led) }
/-- what __init__ is to come to -/
abbrev Inited (s : Shared) (Q : Value → Shared → Prop) (E : Value → Shared → Prop) : Result → Shared → Prop := wants (fun r s2 => r = .none ∧ Q (.ref s.heap.objs.size) s2) E
/-- set(v): the new object, then its __init__ -/
theorem set_by {v : Value} {Q : Value → Shared → Prop} (h : ∀ led, codeAny (model prog w) A.in1 (.call (.builtin "set.__init__") ⟨[.ref s.heap.objs.size, v], []⟩) (Inited s Q E) { s with heap := s.heap.push (bare led) }) : wpAny (model prog w) A (call (.type "set") [v]) Q E s := by
  have T := PySem.F.called_set
  obtain ⟨_, _, _⟩ := T.mro
  have := And.intro T.made (And.intro T.sub (And.intro T.notType (And.intro T.canCreate (PySem.F.typeCall_set_1 v))))
  obtain ⟨_, _, _, _, _⟩ := this
  refine wpAny_call (codeAny_of_tree (wpAny_pure ⟨Code.quiet_builtin _ (by decide +kernel), codeAny_builtin PySem.F.entry_type_call (Around.under_plain (weight_type_call_type "set" [v] []) rfl ▸ ?_)⟩))
  repeat (any_goals (first | assumption | wp_step))
  refine codeAny_mono (code_set_new_1 (E := E) (Q₁ := fun r s1 => ∃ led, r = .ref s.heap.objs.size ∧ s1 = { s with heap := s.heap.push (bare led) }) v fun led => ⟨led, rfl, rfl⟩) ?_
  rintro (e | (_ | _ | _ | r)) s1 hr
  · exact hr
  iterate 3 (first | exact False.elim hr | rotate_left)
  obtain ⟨led, rfl, rfl⟩ := hr
  have := T.init.lookup
  have := T.init.bind (.ref s.heap.objs.size)
  have made : Shared.TypeIs { s with heap := s.heap.push (bare led) } (.ref s.heap.objs.size) "set" := ⟨_, Heap.get?_push_size _ rfl, rfl⟩
  repeat (any_goals (first | assumption | wp_step))
  refine codeAny_mono (h led) ?_
  rintro (e | (_ | _ | _ | r)) s2 hr
  · exact hr
  iterate 3 (first | exact False.elim hr | rotate_left)
  obtain ⟨rfl, hq⟩ := hr
  repeat (any_goals (first | assumption | wp_step))
end
section
variable {prog : Program} {w : World} {A : Around} {E : Value → Shared → Prop} {s : Shared}
/-- set.__init__ upon a list: the loop over it -/
theorem init_list {led : Bool} {S l : Addr} {items : Array Value} {Q : Value → Shared → Prop} (hS : s.heap.get? S = some (bare led)) (hl : s.heap.IsList l items)
    (h : codeAny (model prog w) A.in1 (.builtin "set.update.loop" ⟨[.ref S, .ref s.heap.objs.size], []⟩) (wants (fun _ s' => Q .none s') E) { s with heap := s.heap.push { cls := .type "list_iterator", data := .fields #[.ref l, .int 0 0] } }) :
    codeAny (model prog w) A (.call (.builtin "set.__init__") ⟨[.ref S, .ref l], []⟩) (wants Q E) s := by
  refine codeAny_call_builtin PySem.F.called_set.init.plain PySem.F.entry_set_init (check_set_init_1 ⟨_, hS, rfl⟩ ?_)
  have a1 := PySem.F.sub_list_set
  have a2 := PySem.F.sub_list_frozenset
  have a3 : (Value.type "list" == Value.type "dict") = false := by decide
  have hl' := hl
  obtain ⟨⟨_, d, _, sl⟩, ho, rfl, k, rfl⟩ := hl
  unfold Builtin.«set.__init__» noKeywords Builtin.Frozenset.updateFrom
  generalize e : pyIter = it
  wp_walk
  subst e
  refine wpAny_pyIter_list hl' (wpAny_bind (wpAny_runValue (codeAny_mono h ?_)))
  rintro (e | (_ | _ | _ | r)) s2 hr
  · exact hr
  iterate 3 (first | exact False.elim hr | rotate_left)
  exact wpAny_pure (wpAny_pure hr)
/-- set(xs) -/
theorem set_texts {l : Addr} {items : Array Value} {xs : List Str} {Q : Value → Shared → Prop} (calm : A.handled = none) (hl : s.heap.IsList l items) (hi : PyProof.Rows.StrsAre items.toList xs) (few : xs.length < 200) (nd : xs.Nodup)
    (h : ∀ (h' : Heap) (tk : Nat), h'.SetOf (PySem.strKind prog w) s.heap.objs.size (InAll xs) xs.length → (∀ b o, s.heap.get? b = some o → h'.get? b = some o) → Q (.ref s.heap.objs.size) { s with heap := h', toks := tk }) :
    wpAny (model prog w) A (call (.type "set") [.ref l]) Q E s := by
  have len : items.size = xs.length := by rw [← Array.length_toList]; exact StrsAre.len_eq hi
  obtain ⟨ol, ho, _⟩ := id hl
  have below := Heap.lt_size ho
  refine set_by fun led => init_list (Heap.get?_push_size _ rfl) (hl.push _) ?_
  have two : (s.heap.push (bare led)).objs.size = s.heap.objs.size + 1 := Heap.size_push ..
  have W := (Walks.list (prog := prog) (w := w) (A := A.in1.in1.in1) (by simp [calm]) (s.heap.push (bare led)).objs.size l (two ▸ Nat.ne_of_lt (Nat.lt_succ_of_lt below)) items).toS
  have far : ∀ b : Addr, b < s.heap.objs.size + 1 → b ≠ l → b ∉ [(s.heap.push (bare led)).objs.size, l] := fun b lt ne z => by
    rw [two] at z
    rcases List.mem_cons.mp z with z | z
    · exact Nat.ne_of_lt lt z
    · exact ne (List.mem_singleton.mp z)
  refine fill W (S := s.heap.objs.size) (far _ (Nat.lt_succ_self _) (Nat.ne_of_gt below)) xs len.symm (by omega) nd (fun i v hv => ?_) xs [] _ rfl ⟨⟨_, Heap.get?_push_size _ rfl, rfl, rfl⟩, (hl.push _).push _⟩ ?_ fun s1 mv set => ?_
  · obtain ⟨t, e⟩ := SS.strs_at hi i v (by rw [Array.getElem?_toList]; exact hv)
    have lt : i < xs.length := by rw [← len]; exact (Array.getElem?_eq_some_iff.mp hv).1
    exact ⟨xs[i], t, List.getElem?_eq_getElem lt, by rw [e, List.getD_eq_getElem?_getD, List.getElem?_eq_getElem lt]; rfl⟩
  · exact (PyProof.Rows.setObjOf_fresh (knd := PySem.strKind prog w) led).setOf (Heap.get?_push_of_some _ (Heap.get?_push_size _ rfl)) (by unfold scanBound; omega)
  · have eq : s1 = { s with heap := s1.heap, toks := s1.toks } := by
      have e1 := mv.gens
      have e2 := mv.drawn
      have e3 := mv.os
      cases s1
      cases e1; cases e2; cases e3
      rfl
    rw [len] at set
    refine ⟨rfl, ?_⟩
    rw [eq]
    refine h _ _ set fun b o q => mv.heap b o (fun z => ?_) (Heap.get?_push_of_some _ (Heap.get?_push_of_some _ q))
    have lt := Heap.lt_size q
    rcases List.mem_cons.mp z with z | z
    · exact Nat.ne_of_lt lt z
    · exact Nat.ne_of_lt (Nat.lt_succ_of_lt lt) ((List.mem_singleton.mp z).trans two)
end
end FU.StX
end
section
set_option maxRecDepth 100000
set_option maxHeartbeats 1000000
namespace FU
open PySem PySem.Spec PyProof.Rows L2
open Evl (Ex)
/-- len(set(xs)), the texts all distinct -/
theorem x_lenSet {X : Cx} {σ : L2.St} {H : Hp} {a : Expr} {p p2 q pos : Pos} {xs : List Str} (hc : X.calm = true) (hm : X.mg "len" = none) (hm2 : X.mg "set" = none) (ha : EvE X a σ H (lstP X.K (xs.map fun y => isS y))) (hn : xs.length < 200) (nd : xs.Nodup) (hg : Gl X "len" := by rfl) (hg2 : Gl X "set" := by rfl)
    (na : starEach [a] X.env = (false, eval a X.env) :: starEach [] X.env := by rfl) : EvE X (.Call (.Name "len" p) [.Call (.Name "set" p2) [a] [] q] [] pos) σ H (isI xs.length) := fun H0 e0 Q hq pins s I => by
  refine Call_ (ld_blt I hg hm boot_len ?_)
  refine PyProof.Rows.callWith_builtin1 (PyProof.Rows.args_cons ?_ rfl) rfl rfl
  refine Call_ (ld_blt I hg2 hm2 boot_set ?_)
  refine PyProof.Rows.callWith_type1 (PyProof.Rows.args_cons (thn (ha H0 e0 (fun v H1 => Ex H0 H1 ∧ lstP X.K (xs.map fun y => isS y) v H1) (fun v H1 e1 hv => ⟨e1, hv⟩) pins s I) fun v s1 ⟨x, H1, I1, r1, e1, l, vs, ex, hl, hal⟩ => PyProof.Rows.args_nil ?_) na) na rfl
  subst ex
  have ev : (xs.map fun y => isS y) = (xs.map V.str).map isv := by rw [List.map_map]; rfl
  rw [ev] at hal
  have := Alls.isv.mp hal
  subst this
  cases r1
  obtain ⟨its, r, pl, hz⟩ := I1.list hl
  refine StX.set_texts (I1.ok.hd hc) pl.isList (by simpa using L2.strsAre_of r) hn nd fun h' tk ⟨o, es, ep, t, ho, ex, hd, _, _, _, fit, cnt⟩ keep => PyProof.Rows.args_nil ?_
  exact call_len_set ho ex hd fit (by rw [cnt]; omega) ⟨.int xs.length, H1, (I1.kept (t' := tk) keep).tok _, ⟨_, by rw [cnt]⟩, hq _ H1 e1 rfl⟩
end FU
end
section
set_option maxRecDepth 100000
set_option maxHeartbeats 1000000
namespace WK
open PySem PySem.Spec PyProof.Rows L2 FU
open Evl (Ex)
open MR (W Wf textW wordOf stairsL)
theorem got_alls {α : Type} {f : α → Wd} : ∀ {zs : List α} {ys : List V} {H : Hp}, GZ.Got (zs.map fun z => (f z).p) ys H → Alls (zs.map f) ys H
  | [], [], _, _ => trivial
  | [], _ :: _, _, h => h.elim
  | _ :: _, [], _, h => h.elim
  | z :: zs, y :: ys, H, ⟨⟨H1, h1, e1⟩, h2⟩ => ⟨(f z).st e1 h1, got_alls h2⟩
section
variable {P : Program} {w : World} {K : PySem.W.Frag} {mg : Str → Option Value} {base : Heap}
theorem x_lstWords {X : Cx} {σ : L2.St} {H : Hp} {a b : Expr} {p1 p2 q1 q2 : Pos} {pat : List Bool} {p : Nat} {C : Addr} {fd : FuncData} {f : Addr} (F : GZ.GFnZ X.prog X.w X.K X.mg X.base 110 f fd ["pattern", "place"] (spWords X.K C)) (hb : Binds X.K fd ["pattern", "place"] []) (hmf : X.mg "plain_words" = some (.ref f)) (hk : PySem.W.keepIn X.K (.ref f) = true) (hr : Room 113 X.A) (hml : X.mg "list" = none) (hl : pat.length ≤ 6) (hp : p ≤ pat.length)
    (ha : EvE X a σ H (isS (pstr pat))) (hb2 : EvE X b σ H (isI p)) (hg : Gl X "plain_words" := by rfl) (hgl : Gl X "list" := by rfl) (h1 : starEach [a, b] X.env = (false, eval a X.env) :: starEach [b] X.env := by rfl) (h2 : starEach [b] X.env = (false, eval b X.env) :: starEach [] X.env := by rfl) (hpl : (backTo q1 (starEach [b] X.env)).any (·.1) = false := by rfl) :
    EvE X (.Call (.Name "list" p1) [.Call (.Name "plain_words" p2) [a, b] [] q1] [] q2) σ H (lstP X.K ((stairsL (p + 1) ((pat.length : Int) - p + 1)).map fun s => isW X.K C (wordOf pat p s))) := by
  refine .of (GZ.pe_listZ (k := 110) (GZ.pgx_call F (hr.mono (by omega)) hg hmf hk hb .nil rA (by decide) h1 hpl) hr (fun I => GZ.Inv.cellLt I) hgl hml PyProof.Rows.boot_list) fun H1 e1 Q q => ?_
  refine a_cons ha (a_cons hb2 a_nil h2) h1 H1 e1 _ fun vs H2 e2 hvs => ?_
  refine ⟨_, ⟨pat, p, by rw [List.append_nil]; exact (Alls.isv (xs := [.str (pstr pat), .int p])).mp hvs, hl, hp, rfl⟩, ?_, fun S ys H3 e3 hg hS => ?_⟩
  · have h := cnt_all (p + 1) (by omega) (pat.length - p + 1) (by omega) (by omega)
    have e : ((pat.length - p + 1 : Nat) : Int) = (pat.length : Int) - p + 1 := by omega
    rw [List.length_map, ← e, h.1]
    exact Evl.sz_of (by omega)
  · exact q _ _ ((e2.trans e3).trans (Ex.new hS)) ⟨S, ys, rfl, Evl.sq_of upd_same, (got_alls (f := fun s => isW X.K C (wordOf pat p s)) hg).ex (Ex.new hS)⟩
end
end WK
end
section
set_option maxRecDepth 100000
set_option maxHeartbeats 1000000
namespace WK
open PySem PySem.Spec PyProof.Rows L2 FU
open Evl (Ex)
/-! == of lists and tuples of ints -/
theorem eqv_ints : ∀ l m : List Int, PyData.eqvAll (l.map PyData.int) (m.map PyData.int) = decide (l = m)
  | [], [] => by simp [PyData.eqvAll]
  | [], _ :: _ => by simp [PyData.eqvAll]
  | _ :: _, [] => by simp [PyData.eqvAll]
  | a :: l, b :: m => by
    rw [List.map_cons, List.map_cons, PyData.eqvAll, eqv_ints l m]
    simp only [PyData.eqv]
    rw [Bool.eq_iff_iff]
    simp
theorem dp_ints {K : PySem.W.Frag} {H : Hp} : ∀ l : List Int, DpAll K H (l.map V.int) (l.map PyData.int)
  | [] => .nil
  | a :: l => .cons (.int a) (dp_ints l)
section
variable {X : Cx} {σ : L2.St} {H : Hp} {a b : Expr} {pos : Pos} {l m : List Int}
theorem lay_ints : ∀ l : List Int, PyData.canLayAll0 (l.map PyData.int) = true ∧ PyData.depthAll (l.map PyData.int) = 0
  | [] => ⟨rfl, rfl⟩
  | a :: l => by
    obtain ⟨h1, h2⟩ := lay_ints l
    exact ⟨by simp [PyData.canLayAll0, PyData.canLay0, h1], by simp [PyData.depthAll, PyData.depth, h2]⟩
theorem shp_t (l : List Int) : SeqAt.shaped (.tuple (l.map PyData.int)) = true := by
  obtain ⟨h1, h2⟩ := lay_ints l
  simp [SeqAt.shaped, PyData.canLay0, PyData.depth, h1, h2]
theorem shp_l (l : List Int) : SeqAt.shaped (.list (l.map PyData.int)) = true := by
  obtain ⟨h1, h2⟩ := lay_ints l
  simp [SeqAt.shaped, PyData.canLay0, PyData.depth, h1, h2]
theorem dp_t {K : PySem.W.Frag} {v : V} {H : Hp} (h : isT K l v H) : Dp K H v (.tuple (l.map PyData.int)) := by
  obtain ⟨p, rfl, hp⟩ := tup_ints.mp h
  exact .tup hp (dp_ints l)
theorem dp_l {K : PySem.W.Frag} {v : V} {H : Hp} (h : isL K l v H) : Dp K H v (.list (l.map PyData.int)) := by
  obtain ⟨p, rfl, hp⟩ := ints_of h
  exact .lst hp (dp_ints l)
theorem t_neT (hu : X.A.units + 64 < cLine) (ha : EvE X a σ H (isT X.K l)) (hb : EvE X b σ H (isT X.K m)) : EvT X (.Compare a [.NotEq] [b] pos) σ H (!decide (l = m)) := t_op (op_neD hu) ha hb fun x y H1 _ hx hy Q q => ⟨_, _, dp_t hx, dp_t hy, shp_t l, shp_t m, by
  have e : PyData.eqv (.tuple (l.map PyData.int)) (.tuple (m.map PyData.int)) = decide (l = m) := by rw [PyData.eqv]; exact eqv_ints l m
  rw [e]; exact q H1 (Ex.refl _)⟩
theorem t_neL (hu : X.A.units + 64 < cLine) (ha : EvE X a σ H (isL X.K l)) (hb : EvE X b σ H (isL X.K m)) : EvT X (.Compare a [.NotEq] [b] pos) σ H (!decide (l = m)) := t_op (op_neD hu) ha hb fun x y H1 _ hx hy Q q => ⟨_, _, dp_l hx, dp_l hy, shp_l l, shp_l m, by
  have e : PyData.eqv (.list (l.map PyData.int)) (.list (m.map PyData.int)) = decide (l = m) := by rw [PyData.eqv]; exact eqv_ints l m
  rw [e]; exact q H1 (Ex.refl _)⟩
theorem x_eqL (hu : X.A.units + 64 < cLine) (ha : EvE X a σ H (isL X.K l)) (hb : EvE X b σ H (isL X.K m)) : EvE X (.Compare a [.Eq] [b] pos) σ H (isB (decide (l = m))) := x_cmp (op_eqD hu) ha hb fun x y H1 _ hx hy Q q => ⟨_, _, dp_l hx, dp_l hy, shp_l l, shp_l m, by
  have e : PyData.eqv (.list (l.map PyData.int)) (.list (m.map PyData.int)) = decide (l = m) := by rw [PyData.eqv]; exact eqv_ints l m
  rw [e]; exact q H1 (Ex.refl _)⟩
end
end WK
end
section
set_option maxRecDepth 100000
set_option maxHeartbeats 1000000
namespace WK
open PySem PySem.Spec PyProof.Rows L2 FU
open Evl (Ex)
open MR (W Wf textW brk mkW inB ar bth eds birthsL endsL rowN stairW lws rws corner wordOf woGo nL nR stairsL plainW)
section
variable {P : Program} {w : World} {K : PySem.W.Frag} {mg : Str → Option Value} {base : Heap}
theorem texts_nodup {pat : List Bool} {p : Nat} (hl : pat.length ≤ 6) (hp : p ≤ pat.length) : ((stairsL (p + 1) ((pat.length : Int) - p + 1)).map fun s => lS (textW (wordOf pat p s))).Nodup := by
  have hnd : ∀ n : Nat, n < 9 → ∀ m : Nat, m < 9 → n + m ≤ 8 → (stairsL n (m : Int)).Nodup := by decide +kernel
  have e : ((pat.length - p + 1 : Nat) : Int) = (pat.length : Int) - p + 1 := by omega
  have h := hnd (p + 1) (by omega) (pat.length - p + 1) (by omega) (by omega)
  rw [e] at h
  refine (List.pairwise_map.mpr (List.Pairwise.imp_of_mem (fun {s t} hs ht hne z => hne ?_) h))
  exact MR.wordOf_text (by omega) (by omega) (lS_inj z) hs ht
theorem cnt_le : ∀ a b : Nat, a + b ≤ 6 → scN (a + 1) (b + 1) ≤ 100 := fun a b h => by
  have : ∀ a : Nat, a < 7 → ∀ b : Nat, b < 7 → a + b ≤ 6 → scN (a + 1) (b + 1) ≤ 100 := by decide +kernel
  exact this a (by omega) b (by omega) h
def ctAll : Ct := ctPlaceOf fun _ _ => isB true
theorem sc_all : FnScope ["_law_arrows", "_law_place_here", "_law_last", "_law_due", "_law_some", "_law_k", "_law_word_here"] ["_law_arrows", "_law_place_here"] (C8.fnScope (top 62)) := C8.fnScope_by (by decide +kernel)
theorem ok_all (T : Fx K w mg) : C8.Cal P w K mg base 212 "_law_all_right" (spC (ctPlaceOf fun _ _ => isB true)) [] := by
  refine cal_of (k := 211) T.d_law_all_right T.b_law_all_right .nil sc_all (fun vs H W h => ctPlaceOf.len h) fun cdv A outer s H vs Q E W hr hC hQ => ?_
  obtain ⟨pat, p, rfl, hl, hp, rfl⟩ := hC
  have hlen : (pstr pat).length ≤ 1000 := by rw [pstr_len]; omega
  have hm : ((pat.length - p + 1 : Nat) : Int) = (pat.length : Int) - p + 1 := by omega
  obtain ⟨hc1, hc2, hc3⟩ := cnt_all (p + 1) (by omega) (pat.length - p + 1) (by omega) (by omega)
  have hu64 : (A.deeper (envOfC "_law_all_right" (C8.fnScope (top 62)) s.heap.objs.size T.f_law_all_right cdv)).units + 64 < cLine := by have := hr.un; omega
  have htx : ∀ (X : Cx), X.prog = P → X.w = w → X.K = K → X.mg = mg → X.base = base → C8.Met X.prog X.w X.K X.mg X.base (2 * 100 + 1) T.C "text" (spC (ctText K T.C 100)) [] := fun X h1 h2 h3 h4 h5 => by rw [h1, h2, h3, h4, h5]; exact ok_text T 100
  generalize hSS : stairsL (p + 1) ((pat.length - p + 1 : Nat) : Int) = SS at hc1
  have hSS2 : stairsL (p + 1) ((pat.length : Int) - p + 1) = SS := by rw [← hm]; exact hSS
  have hfine : ∀ st ∈ SS, Fine pat (wordOf pat p st) ∧ (wordOf pat p st).place = p ∧ stairW pat (wordOf pat p st) = st ∧ plainW pat (wordOf pat p st) = wordOf pat p st := fun st hst => fine_wordOf hl (by omega) (by omega) (by rw [Int.toNat_natCast, hSS2]; exact hst)
  refine c_asg (k := 2) (P := isI pat.length) (EvE.is (x_lenS T.z_len (x_var (P := isS (pstr pat)) 0 rfl rfl) hlen) (by rw [pstr_len])) (fun v H1 e1 hv => ?_) sc_all.nd
  cases hv
  refine c_asg (k := 3) (P := lstP K (SS.map (isT K))) (x_cal (ok_lstairs T 20) hr (a_cons (EvE.is (w := .int ((p + 1 : Nat) : Int)) (x_add (x_var (P := isI p) 1 rfl rfl) x_int) (by congr 1)) (a_cons (EvE.is (w := .int ((pat.length - p + 1 : Nat) : Int)) (x_add (x_sub (x_var (P := isI pat.length) 2 rfl rfl) (x_var (P := isI p) 1 rfl rfl)) x_int) (by rw [hm])) a_nil)) fun vs H2 _ hv => ⟨p + 1, pat.length - p + 1, (Alls.isv (xs := [.int ((p + 1 : Nat) : Int), .int ((pat.length - p + 1 : Nat) : Int)])).mp hv, by omega, by omega, by rw [hSS]⟩) (fun vd H2 e2 hd => ?_) sc_all.nd
  refine c_asg (k := 4) (P := lstP K (SS.map fun st => isW K T.C (wordOf pat p st))) (EvE.imp (x_lstWords (pat := pat) (p := p) (ok_words T) T.b_plain_words T.d_plain_words.mgf T.d_plain_words.kp (hr.mono (by omega)) T.z_list hl hp (x_var (P := isS (pstr pat)) 0 rfl rfl) (x_var (P := isI p) 1 rfl rfl)) fun v H1 _ h => by rw [← hSS2]; exact h) (fun vs H3 e3 hs => ?_) sc_all.nd
  have hd3 := (lstP K _).st e3 hd
  have ln : ∀ {α : Type} (f : α → Wd) (l : List α), ((l.map f).length : Int) = l.length := fun f l => by rw [List.length_map]
  refine c_skip (t_or (EvT.is (b' := false) (t_ne (v := .int SS.length) (w := .int SS.length) (EvE.is (x_len T.z_len (x_var (P := lstP K (SS.map fun st => isW K T.C (wordOf pat p st))) 4 rfl hs)) (by rw [ln])) (EvE.is (x_len T.z_len (x_var (P := lstP K (SS.map (isT K))) 3 rfl hd3)) (by rw [ln]))) (by simp)) fun _ => EvT.is (b' := false) (t_ne (v := .int SS.length) (w := .int SS.length) (EvE.is (x_cal (ok_pcount T) hr (a_cons (x_var (P := isS (pstr pat)) 0 rfl rfl) (a_cons (x_var (P := isI p) 1 rfl rfl) a_nil)) fun vs H2 _ hv => ⟨pat, p, (Alls.isv (xs := [.str (pstr pat), .int p])).mp hv, hl, hp, rfl⟩) (by rw [hc1])) (EvE.is (x_len T.z_len (x_var (P := lstP K (SS.map (isT K))) 3 rfl hd3)) (by rw [ln]))) (by simp)) (fun H4 e4 => ?_)
  have hd4 := (lstP K _).st e4 hd3
  have hs4 := (lstP K _).st e4 hs
  refine c_skip (t_or (EvT.is (b' := false) (t_ne (v := .int SS.length) (w := .int SS.length) (EvE.is (x_len T.z_len (x_var (P := lstP K (SS.map (isT K))) 3 rfl hd4)) (by rw [ln])) (EvE.is (x_cal (P := isI (choose' (p + 1) (pat.length + 2))) (ok_choices T) hr (a_cons (EvE.is (w := .int ((pat.length + 2 : Nat) : Int)) (x_add (x_var (P := isI pat.length) 2 rfl rfl) x_int) (by congr 1)) (a_cons (EvE.is (w := .int ((p + 1 : Nat) : Int)) (x_add (x_var (P := isI p) 1 rfl rfl) x_int) (by congr 1)) a_nil)) fun vs H2 _ hv => ⟨pat.length + 2, p + 1, (Alls.isv (xs := [.int ((pat.length + 2 : Nat) : Int), .int ((p + 1 : Nat) : Int)])).mp hv, by omega, by omega, rfl⟩) (by
      have : p + 1 + (pat.length - p + 1) = pat.length + 2 := by omega
      rw [this] at hc2
      rw [hc2, hc1]))) (by simp)) fun _ => EvT.is (b' := false) (t_ne (v := .int SS.length) (w := .int SS.length) (EvE.is (x_lenSet (xs := SS.map fun st => lS (textW (wordOf pat p st))) rfl T.z_len T.z_set (EvE.imp (x_lc (k := 6) (q := fun st => isW K T.C (wordOf pat p st)) (p := fun st => isS (lS (textW (wordOf pat p st)))) (src_list (zs := SS) (x_var (P := lstP K (SS.map fun st => isW K T.C (wordOf pat p st))) 4 rfl hs4)) (by omega) (fun _ _ => nl_isv) (fun st hst y H5 e5 hy s H0 C cl fp => x_wmet0 (u := wordOf pat p st) (htx _ rfl rfl rfl rfl rfl) (show Room 211 _ from hr) (x_var (P := isW K T.C (wordOf pat p st)) 6 rfl hy) fun v H1 _ hv => ⟨_, v, rfl, hv, (hfine st hst).1.dp, (hfine st hst).1.six hl, (hfine st hst).1.tx, rfl⟩) sc_all.nd (blkOk_by (N := ["_law_arrows", "_law_place_here", "_law_last", "_law_due", "_law_some", "_law_k", "_law_word_here"]) (sc := C8.fnScope (top 62)) (by decide +kernel)) (fun _ _ _ _ _ => pg_name sc_all.nd rfl (Or.inl rfl))) fun v H1 _ hv => by rw [List.map_map]; exact hv) (by
      rw [List.length_map, hc1]
      have := cnt_le p (pat.length - p) (by omega)
      omega) (by rw [← hSS2]; exact texts_nodup hl hp)) (by rw [List.length_map])) (EvE.is (x_len T.z_len (x_var (P := lstP K (SS.map (isT K))) 3 rfl hd4)) (by rw [ln]))) (by simp)) (fun H5 e5 => ?_)
  have hd5 := (lstP K _).st e5 hd4
  have hs5 := (lstP K _).st e5 hs4
  have hSl : SS.length ≤ 100 := by
    rw [hc1]
    exact cnt_le p (pat.length - p) (by omega)
  refine c_for (k := 5) (src_r1 (n := SS.length) (EvE.is (x_len T.z_len (x_var (P := lstP K (SS.map (isT K))) 3 rfl hd5)) (by rw [ln])) (by omega) T.z_range) (fun H6 i σ' H' => (∃ z, σ' = [some (.str (pstr pat)), some (.int p), some (.int pat.length), some vd, some vs, z, none]) ∧ Ex H6 H') (fun H6 e6 => ⟨⟨none, rfl⟩, Ex.refl _⟩) (fun _ _ _ _ h => h.2) (fun H6 i z σ' H' e6 hz h b H7 e7 hb => ?_) (fun H6 σ' H' e6 h => ?_) sc_all.nd
  · obtain ⟨⟨z0, rfl⟩, e8⟩ := h
    obtain ⟨rfl, hi⟩ := range_get hz
    have hb : b = .int z := hb
    subst hb
    have eA : Ex H5 H7 := (e6.trans e8).trans e7
    have hd7 := (lstP K _).st eA hd5
    have hs7 := (lstP K _).st eA hs5
    have hmem : SS[z] ∈ SS := List.getElem_mem hi
    obtain ⟨hF, hpl, hst, hpw⟩ := hfine _ hmem
    generalize hu : wordOf pat p SS[z] = u at hF hpl hst hpw
    have gw : (SS.map fun st => isW K T.C (wordOf pat p st))[z]? = some (isW K T.C u) := by rw [List.getElem?_map, List.getElem?_eq_getElem hi, ← hu]; rfl
    have gt : (SS.map (isT K))[z]? = some (isT K SS[z]) := by rw [List.getElem?_map, List.getElem?_eq_getElem hi]; rfl
    refine c_skip (t_or (EvT.is (b' := false) (t_ne (v := .int p) (w := .int p) (EvE.is (x_wprop (u := u) (P := isI u.place) (ok_place T) T.cl hr (x_ixL (k := z) (x_var (P := lstP K (SS.map fun st => isW K T.C (wordOf pat p st))) 4 rfl hs7) (x_var (P := isI z) 5 rfl rfl) gw) fun v H1 _ hv => ⟨_, v, rfl, hv, rfl⟩) (by rw [hpl])) (x_var (P := isI p) 1 rfl rfl)) (by simp)) fun _ => EvT.is (b' := false) (t_neT (l := SS[z]) (m := SS[z]) hu64 (x_cal (ok_stair T 100) hr (a_cons (x_var (P := isS (pstr pat)) 0 rfl rfl) (a_cons (x_ixL (k := z) (x_var (P := lstP K (SS.map fun st => isW K T.C (wordOf pat p st))) 4 rfl hs7) (x_var (P := isI z) 5 rfl rfl) gw) a_nil)) fun vs H1 _ hvs => ?_) (x_ixL (k := z) (x_var (P := lstP K (SS.map (isT K))) 3 rfl hd7) (x_var (P := isI z) 5 rfl rfl) gt)) (by simp)) (fun H8 e9 => ?_)
    · obtain ⟨a, b, rfl, ha, hb⟩ := Alls.two hvs
      cases ha
      exact ⟨pat, u, b, rfl, hb, hl, hF.wf, hF.dp, (congrArg (isT K) hst).symm⟩
    · have hs8 := (lstP K _).st e9 hs7
      refine c_skip (t_not (t_eqW (Pa := isW K T.C u) (Pb := isW K T.C u) (ok_eq T 100) hr (x_cal (P := isW K T.C u) (ok_plain T 100) hr (a_cons (x_var (P := isS (pstr pat)) 0 rfl rfl) (a_cons (x_ixL (k := z) (x_var (P := lstP K (SS.map fun st => isW K T.C (wordOf pat p st))) 4 rfl hs8) (x_var (P := isI z) 5 rfl rfl) gw) a_nil)) fun vs H1 _ hvs => ?_) (x_ixL (k := z) (x_var (P := lstP K (SS.map fun st => isW K T.C (wordOf pat p st))) 4 rfl hs8) (x_var (P := isI z) 5 rfl rfl) gw) fun x y H1 _ hx hy => ⟨isW.at' hx, isW.at' hy, ⟨u, u, x, y, rfl, hx, hy, hF.dp, hF.dp, hF.six hl, hF.six hl, hF.tx, hF.tx, rfl⟩⟩)) (fun H9 e10 => ?_) (by simp)
      · obtain ⟨a, b, rfl, ha, hb⟩ := Alls.two hvs
        cases ha
        exact ⟨pat, u, b, rfl, hb, hl, hF.wf, hF.dp, (congrArg (isW K T.C) hpw).symm⟩
      · exact c_nil ⟨⟨_, rfl⟩, ((e8.trans e7).trans e9).trans e10⟩
  · obtain ⟨⟨z0, rfl⟩, e8⟩ := h
    exact c_ret x_bool fun v H9 e9 hv => hQ v H9 (((((((e1.trans e2).trans e3).trans e4).trans e5).trans e6).trans e8).trans e9) hv
end
end WK
end
section
set_option maxRecDepth 100000
set_option maxHeartbeats 1000000
namespace WK
open PySem PySem.Spec PyProof.Rows L2 FU
open Evl (Ex)
open MR (W Wf textW brk mkW inB ar bth eds birthsL endsL rowN stairW lws rws corner wordOf woGo nL nR stairsL plainW)

theorem bars_in {n : Nat} {b : Int × Int} (h : b ∈ barsL n) : 0 ≤ b.1 ∧ b.1 ≤ b.2 ∧ b.2 ≤ n := by
  unfold barsL at h
  obtain ⟨a, ha, h⟩ := List.mem_flatMap.mp h
  obtain ⟨c, hc, rfl⟩ := List.mem_map.mp h
  obtain ⟨hc1, hc2⟩ := List.mem_filter.mp hc
  have hc2 := of_decide_eq_true hc2
  have := List.mem_range.mp hc1
  exact ⟨by show (0 : Int) ≤ a; omega, hc2, by show (c : Int) ≤ n; omega⟩
theorem allLe_iff {pat : List Bool} {x y : W} (hx : Wf pat.length x) (hy : Wf pat.length y) (hp : x.place = y.place) : allLe pat x y = decide (List.zipWith min (stairW pat x) (stairW pat y) = stairW pat x) := by
  rw [Bool.eq_iff_iff, decide_eq_true_iff, ← MR.within_iff hx hy hp]
  unfold allLe
  rw [List.all_eq_true]
  constructor
  · intro h a b h0 h1 h2
    exact of_decide_eq_true (h (a, b) (mem_bars h0 h1 h2))
  · intro h b hb
    obtain ⟨h0, h1, h2⟩ := bars_in hb
    exact decide_eq_true (h _ _ h0 h1 h2)
theorem allEq_iff {pat : List Bool} {x y : W} (hx : Wf pat.length x) (hy : Wf pat.length y) (hp : x.place = y.place) : allEq pat x y = decide (stairW pat x = stairW pat y) := by
  rw [Bool.eq_iff_iff, decide_eq_true_iff, ← MR.same_iff hx hy hp]
  unfold allEq
  rw [List.all_eq_true]
  constructor
  · intro h a b h0 h1 h2
    exact of_decide_eq_true (h (a, b) (mem_bars h0 h1 h2))
  · intro h b hb
    obtain ⟨h0, h1, h2⟩ := bars_in hb
    exact decide_eq_true (h _ _ h0 h1 h2)
theorem plain_iff {pat : List Bool} {x y : W} (hx : Wf pat.length x) (hy : Wf pat.length y) (hp : x.place = y.place) : decide (textW (plainW pat x) = textW (plainW pat y)) = decide (stairW pat x = stairW pat y) := by
  have h := Wf.pl hx
  rw [Bool.eq_iff_iff, decide_eq_true_iff, decide_eq_true_iff]
  constructor
  · intro e
    unfold plainW at e
    rw [← hp] at e
    have hy' := MR.stair_mem hy
    rw [← hp] at hy'
    exact MR.wordOf_text h.1 h.2 e (MR.stair_mem hx) hy'
  · intro e
    unfold plainW
    rw [e, hp]
theorem zip_range {f : Int → Int → Int} {l m : List Int} (h : l.length = m.length) : (List.range l.length).map (fun k => f (l.getD k 0) (m.getD k 0)) = List.zipWith f l m := by
  apply List.ext_getElem
  · simp [h]
  · intro i h1 h2
    rw [List.length_map, List.length_range] at h1
    simp [h1, show i < m.length by omega]
theorem stair_len {pat : List Bool} {x : W} : (stairW pat x).length = x.place.toNat + 1 := by
  rw [stairW, List.length_map]; exact MR.bth_len _ _
end WK
end
section
set_option maxRecDepth 100000
set_option maxHeartbeats 1000000
namespace WK
open PySem PySem.Spec PyProof.Rows L2 FU
open Evl (Ex)
open MR (W Wf textW brk mkW inB ar bth eds birthsL endsL rowN stairW lws rws corner wordOf woGo nL nR stairsL plainW)
section
variable {P : Program} {w : World} {K : PySem.W.Frag} {mg : Str → Option Value} {base : Heap}
def ctLattice (K : PySem.W.Frag) : Ct := fun vs H P => ∃ (pat : List Bool) (x y : W) (v u : V), vs = [.str (pstr pat), v, u] ∧ isSh K x v H ∧ isSh K y u H ∧ pat.length ≤ 6 ∧ Wf pat.length x ∧ Wf pat.length y ∧ x.place = y.place ∧ szW x ≤ 40 ∧ szW y ≤ 40 ∧ P = isB true
theorem sc_lattice : FnScope ["_law_arrows", "_law_one", "_law_two", "_law_first", "_law_second", "_law_high", "_law_low", "_law_both", "_law_common", "_law_k"] ["_law_arrows", "_law_one", "_law_two"] (C8.fnScope (top 63)) := C8.fnScope_by (by decide +kernel)
theorem get_st {l : List Int} {k : Nat} (h : k < l.length) : (l.map fun i => isI i)[k]? = some (isI (l.getD k 0)) := by
  rw [List.getElem?_map, List.getElem?_eq_getElem h, List.getD_eq_getElem?_getD, List.getElem?_eq_getElem h]; rfl
theorem ok_lattice (T : Fx K w mg) : C8.Cal P w K mg base 212 "_law_lattice_right" (spC (ctLattice K)) [] := by
  refine cal_of (k := 211) T.d_law_lattice_right T.b_law_lattice_right .nil sc_lattice (fun vs H W ⟨_, _, _, _, _, e, _⟩ => by rw [e]; rfl) fun cdv A outer s H vs Q E W hr hC hQ => ?_
  obtain ⟨pat, x, y, v, u, rfl, hx, hy, hl, wx, wy, hp, sx, sy, rfl⟩ := hC
  have hu64 : (A.deeper (envOfC "_law_lattice_right" (C8.fnScope (top 63)) s.heap.objs.size T.f_law_lattice_right cdv)).units + 64 < cLine := by have := hr.un; omega
  have dx : x.depth ≤ 100 := by have := (sz_depth x).1; omega
  have dy : y.depth ≤ 100 := by have := (sz_depth y).1; omega
  have x6 : Wf 6 x := Wf.mono (by omega) wx
  have y6 : Wf 6 y := Wf.mono (by omega) wy
  have lxy : (stairW pat x).length = (stairW pat y).length := by rw [stair_len, stair_len, hp]
  have px := Wf.pl wx
  have lx7 : (stairW pat x).length ≤ 7 := by rw [stair_len]; omega
  refine c_par (i := 3) (j := 4) (P := isW K T.C x) (Q := isW K T.C y) (x_cal (ok_lword T 100) hr (a_cons (x_var (P := isSh K x) 1 rfl hx) a_nil) fun vs H1 _ hvs => ?_) (x_cal (ok_lword T 100) hr (a_cons (x_var (P := isSh K y) 2 rfl hy) a_nil) fun vs H1 _ hvs => ?_) (fun vf vs2 H1 e1 hf hs => ?_) sc_lattice.nd (by decide)
  · obtain ⟨a, rfl, ha⟩ := Alls.one hvs
    exact ⟨x, a, rfl, ha, dx, x6, rfl⟩
  · obtain ⟨a, rfl, ha⟩ := Alls.one hvs
    exact ⟨y, a, rfl, ha, dy, y6, rfl⟩
  have hx1 := (isSh K x).st e1 hx
  have hy1 := (isSh K y).st e1 hy
  refine c_parC (i := 5) (j := 6) (P := isT K (stairW pat x)) (Q := isT K (stairW pat y)) (x_cal (ok_lstair T 100) hr (a_cons (x_var (P := isS (pstr pat)) 0 rfl rfl) (a_cons (x_var (P := isSh K x) 1 rfl hx1) a_nil)) fun vs H2 _ hvs => ?_) (x_cal (ok_lstair T 100) hr (a_cons (x_var (P := isS (pstr pat)) 0 rfl rfl) (a_cons (x_var (P := isSh K y) 2 rfl hy1) a_nil)) fun vs H2 _ hvs => ?_) (fun vh vl H2 e2 hh hlo => ?_) sc_lattice.nd
  · obtain ⟨a, b, rfl, ha, hb⟩ := Alls.two hvs
    cases ha
    exact ⟨pat, x, b, rfl, hb, hl, wx, dx, rfl⟩
  · obtain ⟨a, b, rfl, ha, hb⟩ := Alls.two hvs
    cases ha
    exact ⟨pat, y, b, rfl, hb, hl, wy, dy, rfl⟩
  have hf2 := (isW K T.C x).st e2 hf
  have hs2 := (isW K T.C y).st e2 hs
  have ln : ((List.map (fun i => isI i) (stairW pat x)).length : Int) = ((stairW pat x).length : Nat) := by rw [List.length_map]
  refine c_asgLc (i := 7) (k := 9) (zs := List.range (stairW pat x).length) (q := fun (k : Nat) => isI k) (p := fun k => isI (max ((stairW pat x).getD k 0) ((stairW pat y).getD k 0))) (src_r1 (EvE.is (x_lenT T.z_len (x_var (P := isT K (stairW pat x)) 5 rfl hh)) (by rw [ln])) (by omega) T.z_range) (by rw [List.length_range]; omega) (fun _ _ => nl_isv) (fun k hk y1 H3 e3 hy3 s3 H03 C3 cl3 fp3 => ?_) (fun vb H3 e3 hb => ?_) sc_lattice.nd (blkOk_by (N := ["_law_arrows", "_law_one", "_law_two", "_law_first", "_law_second", "_law_high", "_law_low", "_law_both", "_law_common", "_law_k"]) (sc := C8.fnScope (top 63)) (by decide +kernel)) (fun _ _ _ _ _ => pg_name sc_lattice.nd rfl (Or.inl rfl))
  · have hk := List.mem_range.mp hk
    exact x_max2 T.z_max (x_ixT (k := k) (x_var (P := isT K (stairW pat x)) 5 rfl ((isT K _).st e3 hh)) (x_var (P := isI k) 9 rfl hy3) (get_st hk)) (x_ixT (k := k) (x_var (P := isT K (stairW pat y)) 6 rfl ((isT K _).st e3 hlo)) (x_var (P := isI k) 9 rfl hy3) (get_st (by omega)))
  have hb3 : isL K (List.zipWith max (stairW pat x) (stairW pat y)) vb H3 := by
    rw [← zip_range lxy]; unfold isL; rw [List.map_map]; exact hb
  have hh3 := (isT K _).st e3 hh
  have hl3 := (isT K _).st e3 hlo
  refine c_asgLc (i := 8) (k := 9) (zs := List.range (stairW pat x).length) (q := fun (k : Nat) => isI k) (p := fun k => isI (min ((stairW pat x).getD k 0) ((stairW pat y).getD k 0))) (src_r1 (EvE.is (x_lenT T.z_len (x_var (P := isT K (stairW pat x)) 5 rfl hh3)) (by rw [ln])) (by omega) T.z_range) (by rw [List.length_range]; omega) (fun _ _ => nl_isv) (fun k hk y1 H4 e4 hy4 s3 H03 C3 cl3 fp3 => ?_) (fun vc H4 e4 hc => ?_) sc_lattice.nd (blkOk_by (N := ["_law_arrows", "_law_one", "_law_two", "_law_first", "_law_second", "_law_high", "_law_low", "_law_both", "_law_common", "_law_k"]) (sc := C8.fnScope (top 63)) (by decide +kernel)) (fun _ _ _ _ _ => pg_name sc_lattice.nd rfl (Or.inl rfl))
  · have hk := List.mem_range.mp hk
    exact x_min2 T.z_min (x_ixT (k := k) (x_var (P := isT K (stairW pat x)) 5 rfl ((isT K _).st e4 hh3)) (x_var (P := isI k) 9 rfl hy4) (get_st hk)) (x_ixT (k := k) (x_var (P := isT K (stairW pat y)) 6 rfl ((isT K _).st e4 hl3)) (x_var (P := isI k) 9 rfl hy4) (get_st (by omega)))
  have hc4 : isL K (List.zipWith min (stairW pat x) (stairW pat y)) vc H4 := by
    rw [← zip_range lxy]; unfold isL; rw [List.map_map]; exact hc
  have hf4 := (isW K T.C x).st (e3.trans e4) hf2
  have hs4 := (isW K T.C y).st (e3.trans e4) hs2
  have hb4 := (isL K _).st e4 hb3
  have hh4 := (isT K _).st e4 hh3
  have wa : Wf pat.length (.add x y) := ⟨wx, wy, hp⟩
  have wm : Wf pat.length (.meet x y) := ⟨wx, wy, hp⟩
  have da : (W.add x y).depth ≤ 100 := by have := (sz_depth (.add x y)).1; simp [szW] at this; omega
  have dm : (W.meet x y).depth ≤ 100 := by have := (sz_depth (.meet x y)).1; simp [szW] at this; omega
  refine c_skip (t_or (EvT.is (b' := false) (t_neL (l := stairW pat (.add x y)) (m := List.zipWith max (stairW pat x) (stairW pat y)) hu64 (x_lstT T.z_list (x_cal (P := isT K (stairW pat (.add x y))) (ok_stair T 100) hr (a_cons (x_var (P := isS (pstr pat)) 0 rfl rfl) (a_cons (x_binW (C := T.C) (P := isW K T.C (.add x y)) (ok_add T) T.sf hr (x_var (P := isW K T.C x) 3 rfl hf4) (x_var (P := isW K T.C y) 4 rfl hs4) fun a b H5 _ ha hb => ⟨isW.at' ha, isW.at' hb, ⟨x, y, a, b, rfl, ha, hb, hp, rfl⟩⟩) a_nil)) fun vs H5 _ hvs => ?_)) (x_var (P := isL K (List.zipWith max (stairW pat x) (stairW pat y))) 7 rfl hb4)) (by rw [MR.stair_add wx wy hp]; simp)) fun _ => EvT.is (b' := false) (t_neL (l := stairW pat (.meet x y)) (m := List.zipWith min (stairW pat x) (stairW pat y)) hu64 (x_lstT T.z_list (x_cal (P := isT K (stairW pat (.meet x y))) (ok_stair T 100) hr (a_cons (x_var (P := isS (pstr pat)) 0 rfl rfl) (a_cons (x_binW (C := T.C) (P := isW K T.C (.meet x y)) (ok_and T) T.sf hr (x_var (P := isW K T.C x) 3 rfl hf4) (x_var (P := isW K T.C y) 4 rfl hs4) fun a b H5 _ ha hb => ⟨isW.at' ha, isW.at' hb, ⟨x, y, a, b, rfl, ha, hb, hp, rfl⟩⟩) a_nil)) fun vs H5 _ hvs => ?_)) (x_var (P := isL K (List.zipWith min (stairW pat x) (stairW pat y))) 8 rfl hc4)) (by rw [MR.stair_meet wx wy hp]; simp)) (fun H5 e5 => ?_)
  · obtain ⟨a, b, rfl, ha, hb⟩ := Alls.two hvs
    cases ha
    exact ⟨pat, .add x y, b, rfl, hb, hl, wa, da, rfl⟩
  · obtain ⟨a, b, rfl, ha, hb⟩ := Alls.two hvs
    cases ha
    exact ⟨pat, .meet x y, b, rfl, hb, hl, wm, dm, rfl⟩
  have hf5 := (isW K T.C x).st e5 hf4
  have hs5 := (isW K T.C y).st e5 hs4
  have hc5 := (isL K _).st e5 hc4
  have hh5 := (isT K _).st e5 hh4
  refine c_skip (EvT.is (b' := false) (t_ne (v := .bl (allLe pat x y)) (w := .bl (decide (List.zipWith min (stairW pat x) (stairW pat y) = stairW pat x))) (x_cal (ok_within T 100) hr (a_cons (x_var (P := isS (pstr pat)) 0 rfl rfl) (a_cons (x_var (P := isW K T.C x) 3 rfl hf5) (a_cons (x_var (P := isW K T.C y) 4 rfl hs5) a_nil))) fun vs H6 _ hvs => ?_) (x_eqL hu64 (x_var (P := isL K (List.zipWith min (stairW pat x) (stairW pat y))) 8 rfl hc5) (x_lstT T.z_list (x_var (P := isT K (stairW pat x)) 5 rfl hh5)))) (by rw [allLe_iff wx wy hp]; simp)) (fun H6 e6 => ?_)
  · obtain ⟨a, b, c, rfl, ha, hb, hc⟩ := Alls.three hvs
    cases ha
    exact ⟨pat, x, y, b, c, rfl, hb, hc, hl, wx, wy, hp, dx, dy, rfl⟩
  have hf6 := (isW K T.C x).st e6 hf5
  have hs6 := (isW K T.C y).st e6 hs5
  obtain ⟨fx, qx, -, -⟩ := fine_plain hl wx
  obtain ⟨fy, qy, -, -⟩ := fine_plain hl wy
  refine c_ret (EvE.is (x_eq (v := .bl (allEq pat x y)) (w := .bl (decide (textW (plainW pat x) = textW (plainW pat y)))) (x_cal (ok_same T 100) hr (a_cons (x_var (P := isS (pstr pat)) 0 rfl rfl) (a_cons (x_var (P := isW K T.C x) 3 rfl hf6) (a_cons (x_var (P := isW K T.C y) 4 rfl hs6) a_nil))) fun vs H7 _ hvs => ?_) (x_eqW (Pa := isW K T.C (plainW pat x)) (Pb := isW K T.C (plainW pat y)) (ok_eq T 100) hr (x_cal (ok_plain T 100) hr (a_cons (x_var (P := isS (pstr pat)) 0 rfl rfl) (a_cons (x_var (P := isW K T.C x) 3 rfl hf6) a_nil)) fun vs H7 _ hvs => ?_) (x_cal (ok_plain T 100) hr (a_cons (x_var (P := isS (pstr pat)) 0 rfl rfl) (a_cons (x_var (P := isW K T.C y) 4 rfl hs6) a_nil)) fun vs H7 _ hvs => ?_) fun a b H7 _ ha hb => ⟨isW.at' ha, isW.at' hb, ⟨plainW pat x, plainW pat y, a, b, rfl, ha, hb, fx.dp, fy.dp, fx.six hl, fy.six hl, fx.tx, fy.tx, rfl⟩⟩)) (by rw [allEq_iff wx wy hp, plain_iff wx wy hp]; simp)) fun v7 H7 e7 h7 => hQ v7 H7 ((((((e1.trans e2).trans e3).trans e4).trans e5).trans e6).trans e7) h7
  · obtain ⟨a, b, c, rfl, ha, hb, hc⟩ := Alls.three hvs
    cases ha
    exact ⟨pat, x, y, b, c, rfl, hb, hc, hl, wx, wy, hp, dx, dy, rfl⟩
  · obtain ⟨a, b, rfl, ha, hb⟩ := Alls.two hvs
    cases ha
    exact ⟨pat, x, b, rfl, hb, hl, wx, dx, rfl⟩
  · obtain ⟨a, b, rfl, ha, hb⟩ := Alls.two hvs
    cases ha
    exact ⟨pat, y, b, rfl, hb, hl, wy, dy, rfl⟩
end
end WK
end
section
set_option maxRecDepth 100000
set_option maxHeartbeats 1000000
namespace WK
open PySem PySem.Spec PyProof.Rows L2 FU
open Evl (Ex)
open MR (W Wf textW brk mkW inB ar bth eds birthsL endsL rowN stairW lws rws corner wordOf woGo nL nR stairsL plainW)
section
variable {X : Cx} {σ : L2.St} {H : Hp} {a : Expr} {body rest : List Stmt} {D : Ends} {px p2 pos2 pos : Pos} {x : Str} {k n : Nat}
/-- for x in range(n), whatever the steps do to the heap -/
theorem c_forR (h : EvE X a σ H (isI n)) (hn : n ≤ 100000) (hm : X.mg "range" = none) (Pv : Nat → L2.St → Hp → Prop) (h0 : ∀ H1, Ex H H1 → Pv 0 σ H1) (hs : ∀ i σ' H', i < n → Pv i σ' H' → wSs X body { nx := Pv (i + 1), ct := Pv (i + 1), bk := wSs X rest D, rt := D.rt } (σ'.set k (some (.int i))) H')
    (hd : ∀ σ' H', Pv n σ' H' → wSs X rest D σ' H') (nd : X.N.Nodup) (hg : Gl X "range" := by rfl) (hst : starEach [a] X.env = [(false, eval a X.env)] := by rfl) (hc : X.calm = true := by rfl) (hp : PassesOwn (model X.prog X.w) X.A X.env X.xe := by exact PassesOwn.never) (hN : X.N[k]? = some x := by rfl) (hl : Loc X.env.scope x := by first | exact Or.inl rfl | exact Or.inr rfl)
    (hf : X.fn x = true ∨ X.env.scope.names.lookup x = some .local := by first | exact Or.inl rfl | exact Or.inr rfl) (hsi : ∀ y, foldedSetIterable (.Call (.Name "range" p2) [a] [] pos2) X.env y = pure y := by intro _; rfl) : wSs X (.For (.Name x px) (.Call (.Name "range" p2) [a] [] pos2) body [] pos :: rest) D σ H := by
  refine c_cons (ofS (ps_for hp hc (pi_range1 hg hm rA hst) (pg_name nd hN hl hf) rSs hsi) (a_cons h a_nil hst H (Ex.refl _) _ fun vs H1 e1 hvs => ?_))
  have ev := (Alls.isv (xs := [.int n])).mp hvs
  subst ev
  refine ⟨n, rfl, by omega, by omega, ?_⟩
  refine ⟨fun i m σ' H' => m = n - i ∧ i ≤ n ∧ Pv i σ' H', ⟨n, by simp, Nat.zero_le _, h0 H1 e1⟩, ?_⟩
  rintro i m σ' H' ⟨rfl, hi, p⟩
  by_cases hlt : i < n
  · refine .inr ⟨by show i < (n : Int).toNat; omega, Pv (i + 1), fun σ2 H2 p' => ⟨n - (i + 1), by omega, rfl, hlt, p'⟩, fun y H2 hy => ?_⟩
    obtain ⟨rfl, rfl⟩ := hy
    have := hs i σ' H2 hlt p
    have e : (0 : Int) + (i : Int) = i := by omega
    show wSs X body _ (σ'.set k (some (.int (0 + (i : Int))))) H2
    rw [e]; exact this
  · have e : i = n := by omega
    subst e
    exact .inl ⟨by show (i : Int).toNat ≤ i; omega, hd σ' H' p⟩
end
end WK
end
section
set_option maxRecDepth 100000
set_option maxHeartbeats 1000000
namespace WK
open PySem PySem.Spec PyProof.Rows L2 FU
open Evl (Ex)
open MR (W Wf textW brk mkW inB ar bth eds birthsL endsL rowN stairW lws rws corner wordOf woGo nL nR stairsL plainW)
section
variable {X : Cx} {α : Type} {σ : L2.St} {H : Hp} {elt iter : Expr} {x : Str} {px pos : Pos} {i k : Nat}
/-- [.. for x in g], g a generator -/
theorem x_lcZ {scope : Scope} {zs : List α} {q p : α → Wd} {tg : GZ.TGx} (hz : zs.length ≤ 40000) (hn : ∀ z ∈ zs, NL (p z)) (hg : ∀ H1, Ex H H1 → ∀ Q : GZ.Items → Hp → Prop, (∀ H2, Ex H1 H2 → Q (zs.map fun z => (q z).p) H2) → tg σ H1 Q)
    (he : ∀ z ∈ zs, ∀ y H2, q z y H2 → ∀ (s : Shared) (H0 : Hp) (C : Addr) (cl : List (Str × Addr)) (fp : List Addr), EvE (X.blk s H0 scope (compEnvC scope cl C X.env) fp) elt ((σ.set i none).set i (some y)) H2 (p z))
    (hc : X.calm = true) (hN : X.N.Nodup) (hx : X.N[i]? = some x) (hl : scope.names.lookup x = some .local) (hi : GZ.PGx X k iter tg) (hr : Room (k + 1) X.A) (ok : BlkOk X.N X.env.scope scope [(x, i)]) (hce : ∀ n cl, cellsFrom n scope.names (cloFrom cl scope.names []) = [])
    (hgx : ∀ (s : Shared) (H : Hp) (C : Addr) (cl : List (Str × Addr)) (fp : List Addr), L2.PG (X.blk s H scope (compEnvC scope cl C X.env) fp) (.Name x px) (gName i)) (hs : ∀ x, foldedSetIterable iter X.env x = pure x := by intro _; rfl) : EvE X (.ListComp elt [⟨.Name x px, iter, [], 0⟩] scope pos) σ H (lstP X.K (zs.map p)) := by
  refine .of (GZ.pe_lcZ (own := [(x, i)]) hc hN hx hl hi hr ok hce (fun s H C cl fp => rB s H C cl fp) hgx hs) fun H1 e1 Q hq => hg H1 e1 _ fun H2 e2 => ⟨fun y => ?_, fun D hD => ?_⟩
  · show ((σ.set i none).set i (some y)).set i none = σ.set i none
    simp
  refine ⟨fun jts H' => ∃ dn lf : List α, dn ++ lf = zs ∧ jts = lf.map (fun z => (q z).p) ∧ Ex H2 H' ∧ ∃ acc, H' D = some (.lst acc) ∧ Alls (dn.map p) acc H', ⟨[], zs, rfl, rfl, Ex.new hD, [], upd_same, trivial⟩, fun jts H' ⟨_, _, _, _, _, acc, ha, _⟩ => ⟨acc, ha⟩, fun H3 H4 hw e4 => ?_, fun Pi rest H3 hw y H4 e4 hy => ?_⟩
  · obtain ⟨dn, lf, h1, h2, e3, acc, ha, hal⟩ := hw
    have : lf = [] := by cases lf with
      | nil => rfl
      | cons a b => cases h2
    subst this
    rw [List.append_nil] at h1
    subst h1
    exact hq _ H4 ((e2.trans e3).trans e4) ⟨D, acc, rfl, Evl.sq_of (e4 _ _ ha), hal.ex e4⟩
  · obtain ⟨dn, lf, h1, h2, e3, acc, ha, hal⟩ := hw
    cases lf with
    | nil => cases h2
    | cons z lf =>
      rw [List.map_cons] at h2
      obtain ⟨h2, h3⟩ := List.cons.inj h2
      subst h2
      have hmem : z ∈ zs := by rw [← h1]; simp
      show wB X scope elt ((σ.set i none).set i (some y)) H4 _
      intro s H0 C cl fp
      refine he z hmem y H4 hy s H0 C cl fp H4 (Ex.refl _) _ fun v H5 e5 hv => ?_
      have hlen := hal.len
      have hzl := congrArg List.length h1
      rw [List.length_append, List.length_cons] at hzl
      rw [List.length_map] at hlen
      have hD5 := e5 _ _ (e4 _ _ ha)
      refine ⟨acc, hD5, Evl.sz_lt (by omega), dn ++ [z], lf, by rw [← h1]; simp, h3, Ex.mut ((e3.trans e4).trans e5) hD, acc ++ [v], upd_same, ?_⟩
      rw [List.map_append]
      refine Alls.app (Alls.exs (fun P hP => ?_) ((Exs.of (e4.trans e5)).trans (Exs.put hD5)) hal) ⟨hn z hmem (Exs.put hD5) hv, trivial⟩
      obtain ⟨z', hz1, hz2⟩ := List.mem_map.mp hP
      subst hz2
      exact hn z' (by rw [← h1]; exact List.mem_append_left _ hz1)
end
end WK
end
section
set_option maxRecDepth 100000
set_option maxHeartbeats 1000000
namespace WK
open PySem PySem.Spec PyProof.Rows L2 FU
open Evl (Ex)
open MR (W Wf textW brk mkW inB ar bth eds birthsL endsL rowN stairW lws rws corner wordOf woGo nL nR stairsL plainW)
/-! what the walk of law asks -/
theorem alls_four {P Q R S : Wd} : ∀ {vs : List V} {H : Hp}, Alls [P, Q, R, S] vs H → ∃ v w u t, vs = [v, w, u, t] ∧ P v H ∧ Q w H ∧ R u H ∧ S t H
  | [], _, h => h.elim
  | v :: vs, _, h => by
    obtain ⟨w, u, t, e, q, r, s⟩ := Alls.three h.2
    exact ⟨v, w, u, t, by rw [e], h.1, q, r, s⟩
theorem marksK_eq {pat : List Bool} {u : W} (hw : Wf pat.length u) : marksK pat (plainW pat u) = marksK pat u := by
  unfold marksK
  apply List.map_congr_left
  intro b hb
  obtain ⟨h0, h1, h2⟩ := bars_in hb
  have pk := MR.plainW_ok hw
  rw [(MR.same_iff pk.1 hw pk.2.1).mpr pk.2.2 b.1 b.2 h0 h1 h2]
theorem marksK_flat {pat : List Bool} {u : W} : ∀ p ∈ marksK pat u, flatB p.2 = true := by
  unfold marksK
  intro p hp
  obtain ⟨b, _, rfl⟩ := List.mem_map.mp hp
  rfl
theorem plain_self {pat : List Bool} {u : W} (hw : Wf pat.length u) : allEq pat (plainW pat u) u = true := by
  have pk := MR.plainW_ok hw
  rw [allEq_iff pk.1 hw pk.2.1, pk.2.2]
  simp
theorem shP_mono {K : PySem.W.Frag} {p : Int} {last d e : Nat} (h : d ≤ e) {v : V} {H : Hp} (hv : shP K p last d v H) : shP K p last e v H := by
  obtain ⟨u, h1, h2, h3, h4⟩ := hv
  exact ⟨u, h1, h2, by omega, h4⟩
section
variable {X : Cx} {σ : L2.St} {H : Hp} {a b e : Expr} {es : List Expr} {P Pa : Wd} {Ps : List Wd} {pos px : Pos} {x : Str} {l : Addr} {k k1 k2 : Nat}
/-- a call that makes a new box -/
theorem x_box {j j2 : Nat} (c : C8.Cal X.prog X.w X.K X.mg X.base j x (spC ctBox) []) (hr : Room j2 X.A) (ha : EvA X [e] σ H [anyI]) (hk : j ≤ j2 := by omega) (hg : Gl X x := by rfl)
    (hdb : (x == ("__debug__" : Str)) = false := by decide) (he : starEach [e] X.env = (false, eval e X.env) :: starEach [] X.env := by rfl) (hpl : (backTo pos (starEach [] X.env)).any (·.1) = false := by rfl) : EvE X (.Call (.Name x px) [e] [] pos) σ H (boxNew H) :=
  .of (C8.pe_c c hr hk hg rA hdb he hpl) fun H1 e1 Q q => ha H1 e1 _ fun vs H2 e2 hvs => by
    obtain ⟨v, rfl, i, rfl, -⟩ := Alls.one hvs
    exact ⟨boxNew H2, ⟨i, rfl, rfl⟩, fun v H3 e3 ⟨l, h1, h2, h3⟩ => q v H3 (e2.trans e3) ⟨l, h1, Evl.fresh_back (e1.trans e2) h2, h3⟩⟩
/-- a call that changes the box, by what its arguments are -/
theorem m_callV {C : CtM} {j j2 : Nat} (c : C8.Cal X.prog X.w X.K X.mg X.base j x (spM C) []) (hr : Room j2 X.A) (ha : AvM X l (e :: es) σ H k1 Ps) (h : ∀ vs H1, Off l H H1 → Alls Ps vs H1 → ∃ (k' : Nat) (P' : Wd), k' ≤ k ∧ C l k' vs H1 P' ∧ ∀ v H', P' v H' → P v H') (hk : j ≤ j2 := by omega) (hg : Gl X x := by rfl)
    (hdb : (x == ("__debug__" : Str)) = false := by decide) (he : starEach (e :: es) X.env = (false, eval e X.env) :: starEach es X.env := by rfl) (hpl : (backTo pos (starEach es X.env)).any (·.1) = false := by rfl) : EvM X l (.Call (.Name x px) (e :: es) [] pos) σ H (k1 + k) P := fun n H1 o1 b1 hn Q q =>
  ofE (C8.pe_c c hr hk hg rA hdb he hpl) (ha n H1 o1 b1 (by omega) _ fun vs H2 o2 b2 hvs => by
    obtain ⟨k', P', hk', hc, hp⟩ := h vs H2 (o1.trans o2) hvs
    exact ⟨l, n + k1, k', P', b2, by omega, by rw [List.append_nil]; exact hc, fun v H3 o3 b3 hv => q v H3 (o2.trans o3) (b3.mono (by omega)) (hp v H3 hv)⟩)
def two01 : PyData := .list [.tuple [.int 0], .tuple [.int 1]]
theorem dp_two {K : PySem.W.Frag} {v : V} {H : Hp} (h : lstP K ([[0], [1]].map (isT K)) v H) : Dp K H v two01 := by
  obtain ⟨p, xs, rfl, hp, al⟩ := h
  obtain ⟨y, z, rfl, hy, hz⟩ := Alls.two al
  exact .lst hp (.cons (dp_t (l := [0]) hy) (.cons (dp_t (l := [1]) hz) .nil))
theorem shp_two : SeqAt.shaped two01 = true := by decide +kernel
theorem eqv_two : PyData.eqv two01 two01 = true := by
  unfold two01
  simp [PyData.eqv, PyData.eqvAll]
theorem x_eqTwo (hu : X.A.units + 64 < cLine) (ha : EvE X a σ H (lstP X.K ([[0], [1]].map (isT X.K)))) (hb : EvE X b σ H (lstP X.K ([[0], [1]].map (isT X.K)))) : EvE X (.Compare a [.Eq] [b] pos) σ H (isB true) := x_cmp (op_eqD hu) ha hb fun x y H1 _ hx hy Q q => ⟨_, _, dp_two hx, dp_two hy, shp_two, shp_two, by
  rw [eqv_two]; exact q H1 (Ex.refl _)⟩
end
end WK
end
section
set_option maxRecDepth 100000
set_option maxHeartbeats 2000000
namespace WK
open PySem PySem.Spec PyProof.Rows L2 FU
open Evl (Ex)
open MR (W Wf textW brk mkW inB ar bth eds birthsL endsL rowN stairW lws rws corner wordOf woGo nL nR stairsL plainW)
section
variable {P : Program} {w : World} {K : PySem.W.Frag} {mg : Str → Option Value} {base : Heap}
def ctLaw (K : PySem.W.Frag) : Ct := fun vs H P => ∃ (ns : List Int) (v : V), vs = [v] ∧ isL K ns v H ∧ ns.length ≤ 63 ∧ P = isB true
abbrev nLaw : List Str := ["_law_script", "_law_k", "_law_box_here", "_law_arrows", "_law_last", "_law_place_here", "_law_turn", "_law_one", "_law_two", "_law_told", "_law_word_here"]
theorem sc_law : FnScope nLaw ["_law_script"] (C8.fnScope (top 64)) := C8.fnScope_by (by decide +kernel)
/-- a def by its body, its address kept -/
theorem fn_ofC {x : Str} {st : Stmt} {f : Addr} {fd : FuncData} {N ps : List Str} {k : Nat} {C : Ct} (F : C8.Def K mg x st f fd) (S : FnScope N ps (C8.fnScope st)) (len : ∀ vs H P, C vs H P → vs.length = ps.length)
    (hbody : ∀ (cdv : Value) (A : Around) (outer : List Env) (s : Shared) (H : Hp) (vs : List V) (Q : VK) (E : XK) (W : Wd), Room k (A.deeper (envOfC x (C8.fnScope st) s.heap.objs.size f cdv)) → C vs H W → (∀ v H', Ex H H' → W v H' → Q v H') →
      wSs (cxOf C8.CX0 P w K mg base N x (C8.fnScope st) f cdv A outer s H E).nox (C8.fnBody st) { nx := fun _ H' => Q .non H', rt := Q } (start N vs) H) : FnOk P w K mg base C8.CX0 (k + 1) f fd ps (spC C) :=
  C8.fn0 F.fn S (fun vs H Q E ⟨W, h, _⟩ => len vs H W h) fun cdv A outer s H vs Q E hr ⟨W, h, q⟩ => ⟨_, rSs, hbody cdv A outer s H vs Q E W hr h q⟩
theorem ok_law (T : Fx K w mg) : FnOk P w K mg base C8.CX0 214 T.f_law T.fd_law ["_law_script"] (spC (ctLaw K)) := by
  refine fn_ofC (k := 213) T.d_law sc_law (fun vs H W ⟨_, _, e, _⟩ => by rw [e]; rfl) fun cdv A outer s H vs Q E W hr hC hQ => ?_
  obtain ⟨ns, v, rfl, hv, hn, rfl⟩ := hC
  have hu64 : (A.deeper (envOfC "law" (C8.fnScope (top 64)) s.heap.objs.size T.f_law cdv)).units + 64 < cLine := by have := hr.un; omega
  have hu1 : (A.deeper (envOfC "law" (C8.fnScope (top 64)) s.heap.objs.size T.f_law cdv)).units + 1 < cLine := by omega
  have hst : ∀ (X : Cx), X.prog = P → X.w = w → X.K = K → X.mg = mg → X.base = base → C8.Cal X.prog X.w X.K X.mg X.base (2 * 100 + 5) "stair" (spC (ctWord K T.C 100 fun pat u => isT K (stairW pat u))) [] := fun X h1 h2 h3 h4 h5 => by rw [h1, h2, h3, h4, h5]; exact ok_stair T 100
  refine c_for (k := 1) (src_r1 (n := max 2 (min 4 ns.length)) (EvE.is (x_max2 T.z_max x_int (x_min2 T.z_min x_int (x_len T.z_len (x_var (P := isL K ns) 0 rfl hv)))) (by rw [List.length_map]; congr 1; omega)) (by omega) T.z_range) (fun H6 i σ' H' => (∃ z a b c d e f g h, σ' = [some v, z, a, b, c, d, e, f, g, h, none]) ∧ Ex H6 H') (fun H6 e6 => ⟨⟨none, none, none, none, none, none, none, none, none, rfl⟩, Ex.refl _⟩) (fun _ _ _ _ h => h.2) (fun H6 i z σ' H' e6 hz h b H7 e7 hb => ?_) (fun H6 σ' H' e6 h => ?_) sc_law.nd
  · obtain ⟨⟨z0, a0, b0, c0, d0, e0, f0, g0, h0, rfl⟩, e67⟩ := h
    obtain ⟨rfl, hi⟩ := range_get hz
    have hb : b = .int z := hb
    subst hb
    have hv7 := (isL K ns).st ((e6.trans e67).trans e7) hv
    refine c_asg (k := 2) (P := boxNew H7) (x_box (ok_box T) hr (a_cons (x_cal (P := anyI) (ok_cell T) hr (a_cons (x_var (P := isL K ns) 0 rfl hv7) (a_cons (x_var (P := isI z) 1 rfl rfl) a_nil)) fun vs H8 _ hvs => ?_) a_nil)) (fun vb H8 e8 hb8 => ?_) sc_law.nd
    · obtain ⟨a, b, rfl, ha, hb⟩ := Alls.two hvs
      cases hb
      exact ⟨ns, z, a, rfl, ha, hn, by omega, rfl⟩
    obtain ⟨l, rfl, hl7, b8⟩ := hb8
    refine cm_asg (l := l) (n := 0) (k := 7) (i := 3) (P := patP 6) (m_call (l := l) (k1 := 0) (k := 7) (Ps := [isv (.ref l), isI 6]) (ok_lpattern T) hr (am_cons (k1 := 0) (k2 := 0) (m_var 2 rfl fun _ _ _ => rfl) nl_isv (am_cons (k1 := 0) (k2 := 0) (m_pure fun H1 _ _ => x_int) nl_isv am_nil)) fun vs H1 _ hvs => ⟨rfl, (Alls.isv (xs := [.ref l, .int 6])).mp hvs, rfl⟩) b8 (by show _ ≤ 1000000; omega) (fun va H9 o9 b9 ha => ?_) sc_law.nd
    obtain ⟨_, rfl, pat, rfl, hl6⟩ := ha
    have hlen : (pstr pat).length ≤ 1000 := by rw [pstr_len]; omega
    refine c_asg (k := 4) (P := isI pat.length) (EvE.is (x_lenS T.z_len (x_var (P := isS (pstr pat)) 3 rfl rfl) hlen) (by rw [pstr_len])) (fun vl H10 e10 hvl => ?_) sc_law.nd
    cases hvl
    refine cm_asg (l := l) (n := 7) (k := 1) (i := 5) (P := intP fun d => 0 ≤ d ∧ d < ((pat.length + 1 : Nat) : Int)) (m_call (l := l) (k1 := 0) (k := 1) (Ps := [isv (.ref l), isI ((pat.length + 1 : Nat) : Int)]) (ok_take T) hr (am_cons (k1 := 0) (k2 := 0) (m_var 2 rfl fun _ _ _ => rfl) nl_isv (am_cons (k1 := 0) (k2 := 0) (m_pure fun H1 _ _ => EvE.is (x_add (x_var (P := isI pat.length) 4 rfl rfl) x_int) (by congr 1)) nl_isv am_nil)) fun vs H1 _ hvs => ⟨rfl, ((pat.length + 1 : Nat) : Int), (Alls.isv (xs := [.ref l, .int ((pat.length + 1 : Nat) : Int)])).mp hvs, by omega, by omega, rfl⟩) (b9.ex e10) (by show _ ≤ 1000000; omega) (fun vp H11 o11 b11 hp => ?_) sc_law.nd
    obtain ⟨d, rfl, hd0, hd1⟩ := hp
    obtain ⟨p, rfl⟩ : ∃ p : Nat, d = p := ⟨d.toNat, by omega⟩
    have hp : p ≤ pat.length := by omega
    have o7 : Off l H7 H11 := (((off_of e8).trans o9).ex e10).trans o11
    refine c_skip (b' := false) (EvT.is (t_not (t_val (b' := true) (x_cal (P := isB true) (ok_all T) hr (a_cons (x_var (P := isS (pstr pat)) 3 rfl rfl) (a_cons (x_var (P := isI p) 5 rfl rfl) a_nil)) fun vs H1 _ hv => ⟨pat, p, (Alls.isv (xs := [.str (pstr pat), .int p])).mp hv, hl6, hp, rfl⟩))) rfl) (fun H12 e12 => ?_)
    refine c_forR (k := 6) (n := 5) (EvE.is x_int rfl) (by omega) T.z_range (fun i σ' H' => (∃ t a b c, σ' = [some v, some (.int z), some (.ref l), some (.str (pstr pat)), some (.int pat.length), some (.int p), t, a, b, c, none]) ∧ Off l H7 H' ∧ Bx l (8 + 100 * i) H') (fun H13 e13 => ⟨⟨_, _, _, _, rfl⟩, (o7.ex e12).ex e13, (b11.ex e12).ex e13⟩) (fun i σ' H' hi h => ?_) (fun σ' H' h => ?_) sc_law.nd
    · obtain ⟨⟨t, a, b, c, rfl⟩, o7', bx⟩ := h
      refine cm_asg (l := l) (n := 8 + 100 * i) (k := 46) (i := 7) (P := shP K p pat.length 12) (m_callV (l := l) (k1 := 0 + (0 + (0 + (1 + 0)))) (k := 45) (Ps := [isv (.ref l), isI p, isI pat.length, intP fun j => ∃ d, (0 ≤ d ∧ d < 12) ∧ j = 1 + d]) (ok_lshape T 12 (by omega)) hr (am_cons (k1 := 0) (m_var 2 rfl fun _ _ _ => rfl) nl_isv (am_cons (k1 := 0) (m_var (P := isI p) 5 rfl fun _ _ _ => rfl) nl_isv (am_cons (k1 := 0) (m_var (P := isI pat.length) 4 rfl fun _ _ _ => rfl) nl_isv (am_cons (k1 := 1) (k2 := 0) (m_add (i := 1) (fun H1 => x_int) (m_call (l := l) (k1 := 0) (k := 1) (Ps := [isv (.ref l), isI 12]) (ok_take T) hr (am_cons (k1 := 0) (k2 := 0) (m_var 2 rfl fun _ _ _ => rfl) nl_isv (am_cons (k1 := 0) (k2 := 0) (m_pure fun H1 _ _ => x_int) nl_isv am_nil)) fun vs H1 _ hvs => ⟨rfl, 12, (Alls.isv (xs := [.ref l, .int 12])).mp hvs, by omega, by omega, rfl⟩)) nl_intP am_nil)))) fun vs H1 _ hvs => ?_) bx (by show _ ≤ 1000000; omega) (fun v1 H14 o14 b14 h1 => ?_) sc_law.nd
      · obtain ⟨x1, x2, x3, x4, rfl, h1, h2, h3, ⟨j, h4, d, ⟨hd0, hd1⟩, hj⟩⟩ := alls_four hvs
        cases h1; cases h2; cases h3
        subst h4 hj
        obtain ⟨q, hq⟩ : ∃ q : Nat, 1 + d = q := ⟨(1 + d).toNat, by omega⟩
        rw [hq]
        exact ⟨4 * q - 3, shP K p pat.length q, by omega, ⟨p, pat.length, q, rfl, rfl, hp, hl6, by omega, by omega, rfl⟩, fun v H' h => shP_mono (by omega) h⟩
      refine cm_asg (l := l) (n := 8 + 100 * i + 46) (k := 30) (i := 8) (P := shP K p pat.length 8) (m_callV (l := l) (k1 := 0 + (0 + (0 + (1 + 0)))) (k := 29) (Ps := [isv (.ref l), isI p, isI pat.length, intP fun j => ∃ d, (0 ≤ d ∧ d < 8) ∧ j = 1 + d]) (ok_lshape T 12 (by omega)) hr (am_cons (k1 := 0) (m_var 2 rfl fun _ _ _ => rfl) nl_isv (am_cons (k1 := 0) (m_var (P := isI p) 5 rfl fun _ _ _ => rfl) nl_isv (am_cons (k1 := 0) (m_var (P := isI pat.length) 4 rfl fun _ _ _ => rfl) nl_isv (am_cons (k1 := 1) (k2 := 0) (m_add (i := 1) (fun H1 => x_int) (m_call (l := l) (k1 := 0) (k := 1) (Ps := [isv (.ref l), isI 8]) (ok_take T) hr (am_cons (k1 := 0) (k2 := 0) (m_var 2 rfl fun _ _ _ => rfl) nl_isv (am_cons (k1 := 0) (k2 := 0) (m_pure fun H1 _ _ => x_int) nl_isv am_nil)) fun vs H1 _ hvs => ⟨rfl, 8, (Alls.isv (xs := [.ref l, .int 8])).mp hvs, by omega, by omega, rfl⟩)) nl_intP am_nil)))) fun vs H1 _ hvs => ?_) b14 (by show _ ≤ 1000000; omega) (fun v2 H15 o15 b15 h2 => ?_) sc_law.nd
      · obtain ⟨x1, x2, x3, x4, rfl, h1, h2, h3, ⟨j, h4, d, ⟨hd0, hd1⟩, hj⟩⟩ := alls_four hvs
        cases h1; cases h2; cases h3
        subst h4 hj
        obtain ⟨q, hq⟩ : ∃ q : Nat, 1 + d = q := ⟨(1 + d).toNat, by omega⟩
        rw [hq]
        exact ⟨4 * q - 3, shP K p pat.length q, by omega, ⟨p, pat.length, q, rfl, rfl, hp, hl6, by omega, by omega, rfl⟩, fun v H' h => shP_mono (by omega) h⟩
      obtain ⟨x, wx, px, sx, hx⟩ := h1
      obtain ⟨y, wy, py, sy, hy⟩ := h2
      have hx := nl_isSh x (b14.exs o15) hx
      have dx : x.depth ≤ 100 := by have := (sz_depth x).1; omega
      obtain ⟨fx, qx, stx, sfx⟩ := fine_plain hl6 wx
      refine c_asg (k := 9) (P := isW K T.C (plainW pat x)) (x_cal (ok_plain T 100) hr (a_cons (x_var (P := isS (pstr pat)) 3 rfl rfl) (a_cons (x_cal (P := isW K T.C x) (ok_lword T 100) hr (a_cons (x_var (P := isSh K x) 7 rfl hx) a_nil) fun vs H1 _ hvs => ?_) a_nil)) fun vs H1 _ hvs => ?_) (fun v3 H16 e16 h3 => ?_) sc_law.nd
      · obtain ⟨a, rfl, ha⟩ := Alls.one hvs
        exact ⟨x, a, rfl, ha, dx, Wf.mono (by omega) wx, rfl⟩
      · obtain ⟨a, b, rfl, ha, hb⟩ := Alls.two hvs
        cases ha
        exact ⟨pat, x, b, rfl, hb, hl6, wx, dx, rfl⟩
      have hx := (isSh K x).st e16 hx
      have hy := (isSh K y).st e16 hy
      refine c_skip (b' := false) (EvT.is (t_or3 (EvT.is (b' := false) (t_ne (v := .int p) (w := .int p) (EvE.is (x_wprop (u := plainW pat x) (P := isI (plainW pat x).place) (ok_place T) T.cl hr (x_var (P := isW K T.C (plainW pat x)) 9 rfl h3) fun v H1 _ hv => ⟨_, v, rfl, hv, rfl⟩) (by rw [qx, px])) (x_var (P := isI p) 5 rfl rfl)) (by simp)) (fun _ => x_neT (kvs := marksK pat x) hu1 (EvE.imp (P := dTP (marksK pat (plainW pat x))) (x_cal (ok_marks T 100) hr (a_cons (x_var (P := isS (pstr pat)) 3 rfl rfl) (a_cons (x_var (P := isW K T.C (plainW pat x)) 9 rfl h3) a_nil)) fun vs H1 _ hvs => ?_) fun v H1 _ hv => by rw [← marksK_eq wx]; exact hv) (x_cal (ok_lmarks T 100) hr (a_cons (x_var (P := isS (pstr pat)) 3 rfl rfl) (a_cons (x_var (P := isSh K x) 7 rfl hx) a_nil)) fun vs H1 _ hvs => ?_) marksK_flat) fun _ _ => EvT.is (b' := false) (t_not (t_val (b' := true) (x_wmet (P := isB true) (ok_fits T 100) hr (x_var (P := isW K T.C (plainW pat x)) 9 rfl h3) (a_cons (x_var (P := isS (pstr pat)) 3 rfl rfl) a_nil) fun v vs H1 _ hv hvs => ?_))) rfl) rfl) (fun H17 e17 => ?_)
      · obtain ⟨a, b, rfl, ha, hb⟩ := Alls.two hvs
        cases ha
        exact ⟨pat, plainW pat x, b, rfl, hb, hl6, fx.wf, fx.dp, rfl⟩
      · obtain ⟨a, b, rfl, ha, hb⟩ := Alls.two hvs
        cases ha
        exact ⟨pat, x, b, rfl, hb, hl6, wx, dx, rfl⟩
      · obtain ⟨a, rfl, ha⟩ := Alls.one hvs
        cases ha
        exact ⟨plainW pat x, v, pat, rfl, hv, hl6, fx.wf, fx.dp, rfl⟩
      have h3 := (isW K T.C _).st e17 h3
      have hx := (isSh K x).st e17 hx
      have hy := (isSh K y).st e17 hy
      refine c_skip (b' := false) (EvT.is (t_or (EvT.is (b' := false) (t_not (t_eqW (r := true) (Pa := isW K T.C (plainW pat x)) (Pb := isW K T.C (plainW pat x)) (ok_eq T 100) hr (x_cal (P := isW K T.C (plainW pat x)) (ok_plain T 100) hr (a_cons (x_var (P := isS (pstr pat)) 3 rfl rfl) (a_cons (x_var (P := isW K T.C (plainW pat x)) 9 rfl h3) a_nil)) fun vs H1 _ hvs => ?_) (x_var (P := isW K T.C (plainW pat x)) 9 rfl h3) fun u1 u2 H1 _ hu hv => ⟨isW.at' hu, isW.at' hv, ⟨plainW pat x, plainW pat x, u1, u2, rfl, hu, hv, fx.dp, fx.dp, fx.six hl6, fx.six hl6, fx.tx, fx.tx, by simp⟩⟩)) rfl) fun _ => EvT.is (b' := false) (t_not (t_val (b' := true) (x_cal (P := isB true) (ok_same T 100) hr (a_cons (x_var (P := isS (pstr pat)) 3 rfl rfl) (a_cons (x_var (P := isW K T.C (plainW pat x)) 9 rfl h3) (a_cons (x_cal (P := isW K T.C x) (ok_lword T 100) hr (a_cons (x_var (P := isSh K x) 7 rfl hx) a_nil) fun vs H1 _ hvs => ?_) a_nil))) fun vs H1 _ hvs => ?_))) rfl) rfl) (fun H18 e18 => ?_)
      · obtain ⟨a, b, rfl, ha, hb⟩ := Alls.two hvs
        cases ha
        exact ⟨pat, plainW pat x, b, rfl, hb, hl6, fx.wf, fx.dp, (congrArg (isW K T.C) sfx).symm⟩
      · obtain ⟨a, rfl, ha⟩ := Alls.one hvs
        exact ⟨x, a, rfl, ha, dx, Wf.mono (by omega) wx, rfl⟩
      · obtain ⟨a, b, c, rfl, ha, hb, hc⟩ := Alls.three hvs
        cases ha
        exact ⟨pat, plainW pat x, x, b, c, rfl, hb, hc, hl6, fx.wf, wx, qx, fx.dp, dx, (congrArg isB (plain_self wx)).symm⟩
      have hx := (isSh K x).st e18 hx
      have hy := (isSh K y).st e18 hy
      refine c_skip (b' := false) (EvT.is (t_not (t_val (b' := true) (x_cal (P := isB true) (ok_lattice T) hr (a_cons (x_var (P := isS (pstr pat)) 3 rfl rfl) (a_cons (x_var (P := isSh K x) 7 rfl hx) (a_cons (x_var (P := isSh K y) 8 rfl hy) a_nil))) fun vs H1 _ hvs => ?_))) rfl) (fun H19 e19 => ?_)
      · obtain ⟨a, b, c, rfl, ha, hb, hc⟩ := Alls.three hvs
        cases ha
        exact ⟨pat, x, y, b, c, rfl, hb, hc, hl6, wx, wy, by rw [px, py], by omega, by omega, rfl⟩
      have eq : Ex H15 H19 := ((e16.trans e17).trans e18).trans e19
      exact c_nil ⟨⟨_, _, _, _, rfl⟩, ((o7'.trans o14).trans o15).ex eq, (b15.ex eq).mono (by omega)⟩
    · obtain ⟨⟨t, a, b, c, rfl⟩, o7', bx⟩ := h
      exact c_nil ⟨⟨_, _, _, _, _, _, _, _, _, rfl⟩, (e67.trans e7).trans (Off.new hl7 o7')⟩
  · obtain ⟨⟨z0, a0, b0, c0, d0, e0, f0, g0, h0, rfl⟩, e67⟩ := h
    have hS : stairsL 1 1 = [[0], [1]] := by decide +kernel
    have hfine : ∀ st ∈ stairsL 1 1, Fine [] (wordOf [] 0 st) ∧ (wordOf [] 0 st).place = 0 ∧ stairW [] (wordOf [] 0 st) = st ∧ plainW [] (wordOf [] 0 st) = wordOf [] 0 st := fun st hst => fine_wordOf (pat := []) (p := 0) (by simp) (by omega) (by simp) hst
    refine c_ret (x_eqTwo hu64 (EvE.imp (x_lcZ (i := 10) (k := 110) (zs := stairsL 1 1) (q := fun st => isW K T.C (wordOf [] 0 st)) (p := fun st => isT K st) (tg := GZ.tCallZ (spWords K T.C) [] (wA _ _)) (by rw [hS]; decide) (fun _ _ => nl_isT) (fun H1 e1 Q1 hq => ?_) (fun st hst1 y H2 hy s H0 C cl fp => ?_) rfl sc_law.nd rfl rfl (GZ.pgx_call (ok_words T) (hr.mono (by omega)) rfl T.d_plain_words.mgf T.d_plain_words.kp T.b_plain_words .nil rA (by decide) rfl rfl) (hr.mono (by omega)) (blkOk_by (N := nLaw) (sc := C8.fnScope (top 64)) (by decide +kernel)) (fun _ _ => rfl) (fun _ _ _ _ _ => pg_name sc_law.nd rfl (Or.inl rfl))) fun v1 H1 _ h1 => by rw [← hS]; exact h1) (x_lst (a_cons (x_tup (a_cons x_int a_nil)) (a_cons (x_tup (a_cons x_int a_nil)) a_nil)))) fun v1 H1 e1 h1 => hQ v1 H1 ((e6.trans e67).trans e1) h1
    · refine a_cons (x_str (s := "")) (a_cons (x_int (i := 0)) a_nil (by rfl)) (by rfl) H1 (Ex.refl _) _ fun vs H2 e2 hvs => ⟨_, ⟨[], 0, by rw [List.append_nil]; exact (Alls.isv (xs := [.str "", .int 0])).mp hvs, by simp, by simp, rfl⟩, hq H2 e2⟩
    · refine x_cal (hst _ rfl rfl rfl rfl rfl) (show Room 213 _ from hr) (a_cons (x_str (s := "")) (a_cons (x_var (P := isW K T.C (wordOf [] 0 st)) 10 rfl hy) a_nil)) fun vs H3 _ hvs => ?_
      obtain ⟨a, b, rfl, ha, hb⟩ := Alls.two hvs
      cases ha
      obtain ⟨f1, f2, f3, f4⟩ := hfine st hst1
      exact ⟨[], wordOf [] 0 st, b, rfl, hb, by simp, f1.wf, f1.dp, (congrArg (isT K) f3).symm⟩
end
end WK
end
section
set_option maxRecDepth 100000
set_option maxHeartbeats 4000000
namespace WK
open PySem PySem.Spec PyProof.Rows L2 FU
open Evl (Ex)
theorem all_mk {P : Program} {K : PySem.W.Frag} {w : World} {h : Heap} {mg : Str → Option Value} {fa : Addr} (X : K.In h) (G : h.Ns mainGlobals mg) (hfa : mg "law" = some (.ref fa))
    {dO dT C : Addr} {eO eT : Array DictEntry} {nO nT : Nat} {uO0 uO1 uT0 uT1 : Value} {tm : Nat} {f_init : Addr} {oc_init : Value} {kV_init : Value} {dc_init : Value} {pm_init : Value} {cd_init : Value} {ct_init : Value} {od_init : Option Addr} {an_init : Option Addr} {sl_init : Array (Option Value)} {f_madd : Addr} {oc_madd : Value} {kV_madd : Value} {dc_madd : Value} {pm_madd : Value} {cd_madd : Value} {ct_madd : Value} {od_madd : Option Addr} {an_madd : Option Addr} {sl_madd : Array (Option Value)} {f_mand : Addr} {oc_mand : Value} {kV_mand : Value} {dc_mand : Value} {pm_mand : Value} {cd_mand : Value} {ct_mand : Value} {od_mand : Option Addr} {an_mand : Option Addr} {sl_mand : Array (Option Value)} {f_right : Addr} {oc_right : Value} {kV_right : Value} {dc_right : Value} {pm_right : Value} {cd_right : Value} {ct_right : Value} {od_right : Option Addr} {an_right : Option Addr} {sl_right : Array (Option Value)} {f_left : Addr} {oc_left : Value} {kV_left : Value} {dc_left : Value} {pm_left : Value} {cd_left : Value} {ct_left : Value} {od_left : Option Addr} {an_left : Option Addr} {sl_left : Array (Option Value)} {f_joined_by : Addr} {oc_joined_by : Value} {kV_joined_by : Value} {dc_joined_by : Value} {pm_joined_by : Value} {cd_joined_by : Value} {ct_joined_by : Value} {od_joined_by : Option Addr} {an_joined_by : Option Addr} {sl_joined_by : Array (Option Value)} {f_text : Addr} {oc_text : Value} {kV_text : Value} {dc_text : Value} {pm_text : Value} {cd_text : Value} {ct_text : Value} {od_text : Option Addr} {an_text : Option Addr} {sl_text : Array (Option Value)} {f_part_text : Addr} {oc_part_text : Value} {kV_part_text : Value} {dc_part_text : Value} {pm_part_text : Value} {cd_part_text : Value} {ct_part_text : Value} {od_part_text : Option Addr} {an_part_text : Option Addr} {sl_part_text : Array (Option Value)} {f_meq : Addr} {oc_meq : Value} {kV_meq : Value} {dc_meq : Value} {pm_meq : Value} {cd_meq : Value} {ct_meq : Value} {od_meq : Option Addr} {an_meq : Option Addr} {sl_meq : Array (Option Value)} {f_fits : Addr} {oc_fits : Value} {kV_fits : Value} {dc_fits : Value} {pm_fits : Value} {cd_fits : Value} {ct_fits : Value} {od_fits : Option Addr} {an_fits : Option Addr} {sl_fits : Array (Option Value)} {p_psign f_psign : Addr} {rest_psign : List Value} {oc_psign : Value} {kV_psign : Value} {dc_psign : Value} {pm_psign : Value} {cd_psign : Value} {ct_psign : Value} {od_psign : Option Addr} {an_psign : Option Addr} {sl_psign : Array (Option Value)} {p_pplace f_pplace : Addr} {rest_pplace : List Value} {oc_pplace : Value} {kV_pplace : Value} {dc_pplace : Value} {pm_pplace : Value} {cd_pplace : Value} {ct_pplace : Value} {od_pplace : Option Addr} {an_pplace : Option Addr} {sl_pplace : Array (Option Value)} {p_pparts f_pparts : Addr} {rest_pparts : List Value} {oc_pparts : Value} {kV_pparts : Value} {dc_pparts : Value} {pm_pparts : Value} {cd_pparts : Value} {ct_pparts : Value} {od_pparts : Option Addr} {an_pparts : Option Addr} {sl_pparts : Array (Option Value)} {p_preach f_preach : Addr} {rest_preach : List Value} {oc_preach : Value} {kV_preach : Value} {dc_preach : Value} {pm_preach : Value} {cd_preach : Value} {ct_preach : Value} {od_preach : Option Addr} {an_preach : Option Addr} {sl_preach : Array (Option Value)} {p_cnone f_cnone : Addr} {rest_cnone : List Value} {oc_cnone : Value} {kV_cnone : Value} {dc_cnone : Value} {pm_cnone : Value} {cd_cnone : Value} {ct_cnone : Value} {od_cnone : Option Addr} {an_cnone : Option Addr} {sl_cnone : Array (Option Value)} {p_cwhole f_cwhole : Addr} {rest_cwhole : List Value} {oc_cwhole : Value} {kV_cwhole : Value} {dc_cwhole : Value} {pm_cwhole : Value} {cd_cwhole : Value} {ct_cwhole : Value} {od_cwhole : Option Addr} {an_cwhole : Option Addr} {sl_cwhole : Array (Option Value)} {f_is_integer : Addr} {tI : Addr} {ocI : Value} {odI : Option Addr} {nI : Nat} {slI : Array (Option Value)} {oc_is_integer : Value} {kV_is_integer : Value} {dc_is_integer : Value} {pm_is_integer : Value} {cd_is_integer : Value} {ct_is_integer : Value} {od_is_integer : Option Addr} {an_is_integer : Option Addr} {sl_is_integer : Array (Option Value)} {f_is_pattern : Addr} {oc_is_pattern : Value} {kV_is_pattern : Value} {dc_is_pattern : Value} {pm_is_pattern : Value} {cd_is_pattern : Value} {ct_is_pattern : Value} {od_is_pattern : Option Addr} {an_is_pattern : Option Addr} {sl_is_pattern : Array (Option Value)} {f_need_pattern : Addr} {oc_need_pattern : Value} {kV_need_pattern : Value} {dc_need_pattern : Value} {pm_need_pattern : Value} {cd_need_pattern : Value} {ct_need_pattern : Value} {od_need_pattern : Option Addr} {an_need_pattern : Option Addr} {sl_need_pattern : Array (Option Value)} {f_all_bars : Addr} {oc_all_bars : Value} {kV_all_bars : Value} {dc_all_bars : Value} {pm_all_bars : Value} {cd_all_bars : Value} {ct_all_bars : Value} {od_all_bars : Option Addr} {an_all_bars : Option Addr} {sl_all_bars : Array (Option Value)} {f_need_place : Addr} {oc_need_place : Value} {kV_need_place : Value} {dc_need_place : Value} {pm_need_place : Value} {cd_need_place : Value} {ct_need_place : Value} {od_need_place : Option Addr} {an_need_place : Option Addr} {sl_need_place : Array (Option Value)} {f_mark : Addr} {oc_mark : Value} {kV_mark : Value} {dc_mark : Value} {pm_mark : Value} {cd_mark : Value} {ct_mark : Value} {od_mark : Option Addr} {an_mark : Option Addr} {sl_mark : Array (Option Value)} {f_marks : Addr} {oc_marks : Value} {kV_marks : Value} {dc_marks : Value} {pm_marks : Value} {cd_marks : Value} {ct_marks : Value} {od_marks : Option Addr} {an_marks : Option Addr} {sl_marks : Array (Option Value)} {f_need_pair : Addr} {oc_need_pair : Value} {kV_need_pair : Value} {dc_need_pair : Value} {pm_need_pair : Value} {cd_need_pair : Value} {ct_need_pair : Value} {od_need_pair : Option Addr} {an_need_pair : Option Addr} {sl_need_pair : Array (Option Value)} {f_parting : Addr} {oc_parting : Value} {kV_parting : Value} {dc_parting : Value} {pm_parting : Value} {cd_parting : Value} {ct_parting : Value} {od_parting : Option Addr} {an_parting : Option Addr} {sl_parting : Array (Option Value)} {f_breach : Addr} {oc_breach : Value} {kV_breach : Value} {dc_breach : Value} {pm_breach : Value} {cd_breach : Value} {ct_breach : Value} {od_breach : Option Addr} {an_breach : Option Addr} {sl_breach : Array (Option Value)} {f_same : Addr} {oc_same : Value} {kV_same : Value} {dc_same : Value} {pm_same : Value} {cd_same : Value} {ct_same : Value} {od_same : Option Addr} {an_same : Option Addr} {sl_same : Array (Option Value)} {f_within : Addr} {oc_within : Value} {kV_within : Value} {dc_within : Value} {pm_within : Value} {cd_within : Value} {ct_within : Value} {od_within : Option Addr} {an_within : Option Addr} {sl_within : Array (Option Value)} {f_need_place_of : Addr} {oc_need_place_of : Value} {kV_need_place_of : Value} {dc_need_place_of : Value} {pm_need_place_of : Value} {cd_need_place_of : Value} {ct_need_place_of : Value} {od_need_place_of : Option Addr} {an_need_place_of : Option Addr} {sl_need_place_of : Array (Option Value)} {f_births : Addr} {oc_births : Value} {kV_births : Value} {dc_births : Value} {pm_births : Value} {cd_births : Value} {ct_births : Value} {od_births : Option Addr} {an_births : Option Addr} {sl_births : Array (Option Value)} {f_ends : Addr} {oc_ends : Value} {kV_ends : Value} {dc_ends : Value} {pm_ends : Value} {cd_ends : Value} {ct_ends : Value} {od_ends : Option Addr} {an_ends : Option Addr} {sl_ends : Array (Option Value)} {f_stair : Addr} {oc_stair : Value} {kV_stair : Value} {dc_stair : Value} {pm_stair : Value} {cd_stair : Value} {ct_stair : Value} {od_stair : Option Addr} {an_stair : Option Addr} {sl_stair : Array (Option Value)} {f_left_words : Addr} {oc_left_words : Value} {kV_left_words : Value} {dc_left_words : Value} {pm_left_words : Value} {cd_left_words : Value} {ct_left_words : Value} {od_left_words : Option Addr} {an_left_words : Option Addr} {sl_left_words : Array (Option Value)} {f_right_words : Addr} {oc_right_words : Value} {kV_right_words : Value} {dc_right_words : Value} {pm_right_words : Value} {cd_right_words : Value} {ct_right_words : Value} {od_right_words : Option Addr} {an_right_words : Option Addr} {sl_right_words : Array (Option Value)} {f_word_of : Addr} {oc_word_of : Value} {kV_word_of : Value} {dc_word_of : Value} {pm_word_of : Value} {cd_word_of : Value} {ct_word_of : Value} {od_word_of : Option Addr} {an_word_of : Option Addr} {sl_word_of : Array (Option Value)} {f_cornered : Addr} {oc_cornered : Value} {kV_cornered : Value} {dc_cornered : Value} {pm_cornered : Value} {cd_cornered : Value} {ct_cornered : Value} {od_cornered : Option Addr} {an_cornered : Option Addr} {sl_cornered : Array (Option Value)} {f_plain : Addr} {oc_plain : Value} {kV_plain : Value} {dc_plain : Value} {pm_plain : Value} {cd_plain : Value} {ct_plain : Value} {od_plain : Option Addr} {an_plain : Option Addr} {sl_plain : Array (Option Value)} {f_stairs_count : Addr} {oc_stairs_count : Value} {kV_stairs_count : Value} {dc_stairs_count : Value} {pm_stairs_count : Value} {cd_stairs_count : Value} {ct_stairs_count : Value} {od_stairs_count : Option Addr} {an_stairs_count : Option Addr} {sl_stairs_count : Array (Option Value)} {f_plain_count : Addr} {oc_plain_count : Value} {kV_plain_count : Value} {dc_plain_count : Value} {pm_plain_count : Value} {cd_plain_count : Value} {ct_plain_count : Value} {od_plain_count : Option Addr} {an_plain_count : Option Addr} {sl_plain_count : Array (Option Value)} {f_law_cell : Addr} {oc_law_cell : Value} {kV_law_cell : Value} {dc_law_cell : Value} {pm_law_cell : Value} {cd_law_cell : Value} {ct_law_cell : Value} {od_law_cell : Option Addr} {an_law_cell : Option Addr} {sl_law_cell : Array (Option Value)} {f_law_box : Addr} {oc_law_box : Value} {kV_law_box : Value} {dc_law_box : Value} {pm_law_box : Value} {cd_law_box : Value} {ct_law_box : Value} {od_law_box : Option Addr} {an_law_box : Option Addr} {sl_law_box : Array (Option Value)} {f_law_take : Addr} {oc_law_take : Value} {kV_law_take : Value} {dc_law_take : Value} {pm_law_take : Value} {cd_law_take : Value} {ct_law_take : Value} {od_law_take : Option Addr} {an_law_take : Option Addr} {sl_law_take : Array (Option Value)} {f_law_pattern : Addr} {oc_law_pattern : Value} {kV_law_pattern : Value} {dc_law_pattern : Value} {pm_law_pattern : Value} {cd_law_pattern : Value} {ct_law_pattern : Value} {od_law_pattern : Option Addr} {an_law_pattern : Option Addr} {sl_law_pattern : Array (Option Value)} {f_law_bars : Addr} {oc_law_bars : Value} {kV_law_bars : Value} {dc_law_bars : Value} {pm_law_bars : Value} {cd_law_bars : Value} {ct_law_bars : Value} {od_law_bars : Option Addr} {an_law_bars : Option Addr} {sl_law_bars : Array (Option Value)} {f_law_shape : Addr} {oc_law_shape : Value} {kV_law_shape : Value} {dc_law_shape : Value} {pm_law_shape : Value} {cd_law_shape : Value} {ct_law_shape : Value} {od_law_shape : Option Addr} {an_law_shape : Option Addr} {sl_law_shape : Array (Option Value)} {f_law_place : Addr} {oc_law_place : Value} {kV_law_place : Value} {dc_law_place : Value} {pm_law_place : Value} {cd_law_place : Value} {ct_law_place : Value} {od_law_place : Option Addr} {an_law_place : Option Addr} {sl_law_place : Array (Option Value)} {f_law_word : Addr} {oc_law_word : Value} {kV_law_word : Value} {dc_law_word : Value} {pm_law_word : Value} {cd_law_word : Value} {ct_law_word : Value} {od_law_word : Option Addr} {an_law_word : Option Addr} {sl_law_word : Array (Option Value)} {f_law_mark : Addr} {oc_law_mark : Value} {kV_law_mark : Value} {dc_law_mark : Value} {pm_law_mark : Value} {cd_law_mark : Value} {ct_law_mark : Value} {od_law_mark : Option Addr} {an_law_mark : Option Addr} {sl_law_mark : Array (Option Value)} {f_law_marks : Addr} {oc_law_marks : Value} {kV_law_marks : Value} {dc_law_marks : Value} {pm_law_marks : Value} {cd_law_marks : Value} {ct_law_marks : Value} {od_law_marks : Option Addr} {an_law_marks : Option Addr} {sl_law_marks : Array (Option Value)} {f_law_births : Addr} {oc_law_births : Value} {kV_law_births : Value} {dc_law_births : Value} {pm_law_births : Value} {cd_law_births : Value} {ct_law_births : Value} {od_law_births : Option Addr} {an_law_births : Option Addr} {sl_law_births : Array (Option Value)} {f_law_about : Addr} {oc_law_about : Value} {kV_law_about : Value} {dc_law_about : Value} {pm_law_about : Value} {cd_law_about : Value} {ct_law_about : Value} {od_law_about : Option Addr} {an_law_about : Option Addr} {sl_law_about : Array (Option Value)} {f_law_lasts : Addr} {oc_law_lasts : Value} {kV_law_lasts : Value} {dc_law_lasts : Value} {pm_law_lasts : Value} {cd_law_lasts : Value} {ct_law_lasts : Value} {od_law_lasts : Option Addr} {an_law_lasts : Option Addr} {sl_law_lasts : Array (Option Value)} {f_law_stair : Addr} {oc_law_stair : Value} {kV_law_stair : Value} {dc_law_stair : Value} {pm_law_stair : Value} {cd_law_stair : Value} {ct_law_stair : Value} {od_law_stair : Option Addr} {an_law_stair : Option Addr} {sl_law_stair : Array (Option Value)} {f_law_stairs : Addr} {oc_law_stairs : Value} {kV_law_stairs : Value} {dc_law_stairs : Value} {pm_law_stairs : Value} {cd_law_stairs : Value} {ct_law_stairs : Value} {od_law_stairs : Option Addr} {an_law_stairs : Option Addr} {sl_law_stairs : Array (Option Value)} {f_law_choices : Addr} {oc_law_choices : Value} {kV_law_choices : Value} {dc_law_choices : Value} {pm_law_choices : Value} {cd_law_choices : Value} {ct_law_choices : Value} {od_law_choices : Option Addr} {an_law_choices : Option Addr} {sl_law_choices : Array (Option Value)} {f_law_all_right : Addr} {oc_law_all_right : Value} {kV_law_all_right : Value} {dc_law_all_right : Value} {pm_law_all_right : Value} {cd_law_all_right : Value} {ct_law_all_right : Value} {od_law_all_right : Option Addr} {an_law_all_right : Option Addr} {sl_law_all_right : Array (Option Value)} {f_law_lattice_right : Addr} {oc_law_lattice_right : Value} {kV_law_lattice_right : Value} {dc_law_lattice_right : Value} {pm_law_lattice_right : Value} {cd_law_lattice_right : Value} {ct_law_lattice_right : Value} {od_law_lattice_right : Option Addr} {an_law_lattice_right : Option Addr} {sl_law_lattice_right : Array (Option Value)} {f_law : Addr} {oc_law : Value} {kV_law : Value} {dc_law : Value} {pm_law : Value} {cd_law : Value} {ct_law : Value} {od_law : Option Addr} {an_law : Option Addr} {sl_law : Array (Option Value)} {f_stairs : Addr} {oc_stairs : Value} {kV_stairs : Value} {dc_stairs : Value} {pm_stairs : Value} {cd_stairs : Value} {ct_stairs : Value} {od_stairs : Option Addr} {an_stairs : Option Addr} {sl_stairs : Array (Option Value)} {f_plain_words : Addr} {oc_plain_words : Value} {kV_plain_words : Value} {dc_plain_words : Value} {pm_plain_words : Value} {cd_plain_words : Value} {ct_plain_words : Value} {od_plain_words : Option Addr} {an_plain_words : Option Addr} {sl_plain_words : Array (Option Value)} {f_need_fitting : Addr} {oc_need_fitting : Value} {kV_need_fitting : Value} {dc_need_fitting : Value} {pm_need_fitting : Value} {cd_need_fitting : Value} {ct_need_fitting : Value} {od_need_fitting : Option Addr} {an_need_fitting : Option Addr} {sl_need_fitting : Array (Option Value)}
    (aO : PySem.W.nsIn K mainGlobals "OTHER" = some (some (.ref dO)))
    (lO : K.lookup dO = some ⟨.type "dict", none, .dict eO nO, #[]⟩)
    (kO : PySem.W.KeysLit w.params eO.toList)
    (sO : (dO == sysModules) = false)
    (aT : PySem.W.nsIn K mainGlobals "TURNED" = some (some (.ref dT)))
    (lT : K.lookup dT = some ⟨.type "dict", none, .dict eT nT, #[]⟩)
    (kT : PySem.W.KeysLit w.params eT.toList)
    (sT : (dT == sysModules) = false)
    (iO0 : PySem.W.nsIn K dO ">" = some (some uO0))
    (iO1 : PySem.W.nsIn K dO "<" = some (some uO1))
    (iT0 : PySem.W.nsIn K dT "right" = some (some uT0))
    (iT1 : PySem.W.nsIn K dT "left" = some (some uT1))
    (oT0 : PySem.W.nsIn K dT "+" = some none)
    (oT1 : PySem.W.nsIn K dT "&" = some none)
    (mA : PySem.W.nsIn K mainGlobals "MOST_ARROWS" = some (some (.int 6 tm)))
    (z_len : PySem.W.nsIn K mainGlobals "len" = some none)
    (z_range : PySem.W.nsIn K mainGlobals "range" = some none)
    (z_isinstance : PySem.W.nsIn K mainGlobals "isinstance" = some none)
    (z_all : PySem.W.nsIn K mainGlobals "all" = some none)
    (z_list : PySem.W.nsIn K mainGlobals "list" = some none)
    (z_tuple : PySem.W.nsIn K mainGlobals "tuple" = some none)
    (z_max : PySem.W.nsIn K mainGlobals "max" = some none)
    (z_min : PySem.W.nsIn K mainGlobals "min" = some none)
    (z_int : PySem.W.nsIn K mainGlobals "int" = some none)
    (z_str : PySem.W.nsIn K mainGlobals "str" = some none)
    (z_sum : PySem.W.nsIn K mainGlobals "sum" = some none)
    (z_enumerate : PySem.W.nsIn K mainGlobals "enumerate" = some none)
    (z_set : PySem.W.nsIn K mainGlobals "set" = some none)
    (z_dict : PySem.W.nsIn K mainGlobals "dict" = some none)
    (z_bool : PySem.W.nsIn K mainGlobals "bool" = some none)
    (aC : PySem.W.nsIn K mainGlobals "Word" = some (some (.ref C)))
    (c_pg : PySem.W.plainGet K C Str.empty = true)
    (c_hd : PySem.W.hasDictIn K C = true)
    (c_po : PySem.W.plainOver K C = true)
    (c_sa : PySem.W.findIn K (.ref C) "__setattr__" = some (some (.builtin "object.__setattr__")))
    (i_ha : PySem.W.findIn K (.ref C) "__class__" = some (some (.builtin "object.__class__")))
    (i_hn : PySem.W.specialIn K (.builtin "object.__class__") "__get__" = some (some (.builtin "getset_descriptor.__get__")))
    (i_tk : PySem.W.takesIn K (.builtin "object.__class__") = some true)
    (i_hm : PySem.W.mroIn K C (.type "object") = some true)
    (i_me : PySem.W.kitOne K (.ref C) (.ref C) = some true)
    (sf : PySem.W.selfFirst K C = true)
    (na_own_sign : PySem.W.findIn K (.ref C) "own_sign" = some none)
    (na_own_place : PySem.W.findIn K (.ref C) "own_place" = some none)
    (na_own_parts : PySem.W.findIn K (.ref C) "own_parts" = some none)
    (r_rd : PySem.W.readsIn K C (.type "type") = true)
    (r_ga : PySem.W.specialIn K (.ref C) "__getattribute__" = some (some (.builtin "type.__getattribute__")))
    (e_init : PySem.W.findIn K (.ref C) "__init__" = some (some (.ref f_init)))
    (i_init : PySem.W.isFn K (.ref f_init) = true)
    (l_init : K.lookup f_init = some ⟨oc_init, od_init, .func (PySem.W.fnOf "__init__" "Word.__init__" (C8.fnArgs (wmet 0)) (C8.fnBody (wmet 0)) (C8.fnScope (wmet 0)) .none kV_init dc_init pm_init an_init cd_init ct_init), sl_init⟩)
    (c_init : PySem.W.codeIn K cd_init "Word.__init__" = true)
    (m_init : PySem.W.makesIn K C = true)
    (k_C : PySem.W.keepIn K (.ref C) = true)
    (e_madd : PySem.W.findIn K (.ref C) "__add__" = some (some (.ref f_madd)))
    (i_madd : PySem.W.isFn K (.ref f_madd) = true)
    (l_madd : K.lookup f_madd = some ⟨oc_madd, od_madd, .func (PySem.W.fnOf "__add__" "Word.__add__" (C8.fnArgs (wmet 10)) (C8.fnBody (wmet 10)) (C8.fnScope (wmet 10)) .none kV_madd dc_madd pm_madd an_madd cd_madd ct_madd), sl_madd⟩)
    (c_madd : PySem.W.codeIn K cd_madd "Word.__add__" = true)
    (k_madd : PySem.W.keepIn K (.ref f_madd) = true)
    (e_mand : PySem.W.findIn K (.ref C) "__and__" = some (some (.ref f_mand)))
    (i_mand : PySem.W.isFn K (.ref f_mand) = true)
    (l_mand : K.lookup f_mand = some ⟨oc_mand, od_mand, .func (PySem.W.fnOf "__and__" "Word.__and__" (C8.fnArgs (wmet 11)) (C8.fnBody (wmet 11)) (C8.fnScope (wmet 11)) .none kV_mand dc_mand pm_mand an_mand cd_mand ct_mand), sl_mand⟩)
    (c_mand : PySem.W.codeIn K cd_mand "Word.__and__" = true)
    (k_mand : PySem.W.keepIn K (.ref f_mand) = true)
    (e_right : PySem.W.findIn K (.ref C) "right" = some (some (.ref f_right)))
    (i_right : PySem.W.isFn K (.ref f_right) = true)
    (l_right : K.lookup f_right = some ⟨oc_right, od_right, .func (PySem.W.fnOf "right" "Word.right" (C8.fnArgs (wmet 7)) (C8.fnBody (wmet 7)) (C8.fnScope (wmet 7)) .none kV_right dc_right pm_right an_right cd_right ct_right), sl_right⟩)
    (c_right : PySem.W.codeIn K cd_right "Word.right" = true)
    (k_right : PySem.W.keepIn K (.ref f_right) = true)
    (e_left : PySem.W.findIn K (.ref C) "left" = some (some (.ref f_left)))
    (i_left : PySem.W.isFn K (.ref f_left) = true)
    (l_left : K.lookup f_left = some ⟨oc_left, od_left, .func (PySem.W.fnOf "left" "Word.left" (C8.fnArgs (wmet 8)) (C8.fnBody (wmet 8)) (C8.fnScope (wmet 8)) .none kV_left dc_left pm_left an_left cd_left ct_left), sl_left⟩)
    (c_left : PySem.W.codeIn K cd_left "Word.left" = true)
    (k_left : PySem.W.keepIn K (.ref f_left) = true)
    (e_joined_by : PySem.W.findIn K (.ref C) "joined_by" = some (some (.ref f_joined_by)))
    (i_joined_by : PySem.W.isFn K (.ref f_joined_by) = true)
    (l_joined_by : K.lookup f_joined_by = some ⟨oc_joined_by, od_joined_by, .func (PySem.W.fnOf "joined_by" "Word.joined_by" (C8.fnArgs (wmet 9)) (C8.fnBody (wmet 9)) (C8.fnScope (wmet 9)) .none kV_joined_by dc_joined_by pm_joined_by an_joined_by cd_joined_by ct_joined_by), sl_joined_by⟩)
    (c_joined_by : PySem.W.codeIn K cd_joined_by "Word.joined_by" = true)
    (k_joined_by : PySem.W.keepIn K (.ref f_joined_by) = true)
    (e_text : PySem.W.findIn K (.ref C) "text" = some (some (.ref f_text)))
    (i_text : PySem.W.isFn K (.ref f_text) = true)
    (l_text : K.lookup f_text = some ⟨oc_text, od_text, .func (PySem.W.fnOf "text" "Word.text" (C8.fnArgs (wmet 14)) (C8.fnBody (wmet 14)) (C8.fnScope (wmet 14)) .none kV_text dc_text pm_text an_text cd_text ct_text), sl_text⟩)
    (c_text : PySem.W.codeIn K cd_text "Word.text" = true)
    (k_text : PySem.W.keepIn K (.ref f_text) = true)
    (e_part_text : PySem.W.findIn K (.ref C) "part_text" = some (some (.ref f_part_text)))
    (i_part_text : PySem.W.isFn K (.ref f_part_text) = true)
    (l_part_text : K.lookup f_part_text = some ⟨oc_part_text, od_part_text, .func (PySem.W.fnOf "part_text" "Word.part_text" (C8.fnArgs (wmet 15)) (C8.fnBody (wmet 15)) (C8.fnScope (wmet 15)) .none kV_part_text dc_part_text pm_part_text an_part_text cd_part_text ct_part_text), sl_part_text⟩)
    (c_part_text : PySem.W.codeIn K cd_part_text "Word.part_text" = true)
    (k_part_text : PySem.W.keepIn K (.ref f_part_text) = true)
    (e_meq : PySem.W.findIn K (.ref C) "__eq__" = some (some (.ref f_meq)))
    (i_meq : PySem.W.isFn K (.ref f_meq) = true)
    (l_meq : K.lookup f_meq = some ⟨oc_meq, od_meq, .func (PySem.W.fnOf "__eq__" "Word.__eq__" (C8.fnArgs (wmet 16)) (C8.fnBody (wmet 16)) (C8.fnScope (wmet 16)) .none kV_meq dc_meq pm_meq an_meq cd_meq ct_meq), sl_meq⟩)
    (c_meq : PySem.W.codeIn K cd_meq "Word.__eq__" = true)
    (k_meq : PySem.W.keepIn K (.ref f_meq) = true)
    (e_fits : PySem.W.findIn K (.ref C) "fits" = some (some (.ref f_fits)))
    (i_fits : PySem.W.isFn K (.ref f_fits) = true)
    (l_fits : K.lookup f_fits = some ⟨oc_fits, od_fits, .func (PySem.W.fnOf "fits" "Word.fits" (C8.fnArgs (wmet 17)) (C8.fnBody (wmet 17)) (C8.fnScope (wmet 17)) .none kV_fits dc_fits pm_fits an_fits cd_fits ct_fits), sl_fits⟩)
    (c_fits : PySem.W.codeIn K cd_fits "Word.fits" = true)
    (k_fits : PySem.W.keepIn K (.ref f_fits) = true)
    (e_psign : PySem.W.findIn K (.ref C) "sign" = some (some (.ref p_psign)))
    (g_psign : PySem.W.specialIn K (.ref p_psign) "__get__" = some (some (.builtin "property.__get__")))
    (t_psign : PySem.W.takesIn K (.ref p_psign) = some true)
    (r_psign : PySem.W.recIn K p_psign "property" = some (.ref f_psign :: rest_psign))
    (l_psign : K.lookup f_psign = some ⟨oc_psign, od_psign, .func (PySem.W.fnOf "sign" "Word.sign" (C8.fnArgs (wmet 1)) (C8.fnBody (wmet 1)) (C8.fnScope (wmet 1)) .none kV_psign dc_psign pm_psign an_psign cd_psign ct_psign), sl_psign⟩)
    (c_psign : PySem.W.codeIn K cd_psign "Word.sign" = true)
    (e_pplace : PySem.W.findIn K (.ref C) "place" = some (some (.ref p_pplace)))
    (g_pplace : PySem.W.specialIn K (.ref p_pplace) "__get__" = some (some (.builtin "property.__get__")))
    (t_pplace : PySem.W.takesIn K (.ref p_pplace) = some true)
    (r_pplace : PySem.W.recIn K p_pplace "property" = some (.ref f_pplace :: rest_pplace))
    (l_pplace : K.lookup f_pplace = some ⟨oc_pplace, od_pplace, .func (PySem.W.fnOf "place" "Word.place" (C8.fnArgs (wmet 2)) (C8.fnBody (wmet 2)) (C8.fnScope (wmet 2)) .none kV_pplace dc_pplace pm_pplace an_pplace cd_pplace ct_pplace), sl_pplace⟩)
    (c_pplace : PySem.W.codeIn K cd_pplace "Word.place" = true)
    (e_pparts : PySem.W.findIn K (.ref C) "parts" = some (some (.ref p_pparts)))
    (g_pparts : PySem.W.specialIn K (.ref p_pparts) "__get__" = some (some (.builtin "property.__get__")))
    (t_pparts : PySem.W.takesIn K (.ref p_pparts) = some true)
    (r_pparts : PySem.W.recIn K p_pparts "property" = some (.ref f_pparts :: rest_pparts))
    (l_pparts : K.lookup f_pparts = some ⟨oc_pparts, od_pparts, .func (PySem.W.fnOf "parts" "Word.parts" (C8.fnArgs (wmet 3)) (C8.fnBody (wmet 3)) (C8.fnScope (wmet 3)) .none kV_pparts dc_pparts pm_pparts an_pparts cd_pparts ct_pparts), sl_pparts⟩)
    (c_pparts : PySem.W.codeIn K cd_pparts "Word.parts" = true)
    (e_preach : PySem.W.findIn K (.ref C) "reach" = some (some (.ref p_preach)))
    (g_preach : PySem.W.specialIn K (.ref p_preach) "__get__" = some (some (.builtin "property.__get__")))
    (t_preach : PySem.W.takesIn K (.ref p_preach) = some true)
    (r_preach : PySem.W.recIn K p_preach "property" = some (.ref f_preach :: rest_preach))
    (l_preach : K.lookup f_preach = some ⟨oc_preach, od_preach, .func (PySem.W.fnOf "reach" "Word.reach" (C8.fnArgs (wmet 4)) (C8.fnBody (wmet 4)) (C8.fnScope (wmet 4)) .none kV_preach dc_preach pm_preach an_preach cd_preach ct_preach), sl_preach⟩)
    (c_preach : PySem.W.codeIn K cd_preach "Word.reach" = true)
    (e_cnone : PySem.W.findCls K (.ref C) (.type "type") "none" = some (.get (.builtin "classmethod.__get__") (.ref p_cnone) .none (.ref C)))
    (r_cnone : PySem.W.recIn K p_cnone "classmethod" = some (.ref f_cnone :: rest_cnone))
    (i_cnone : PySem.W.fnIn K f_cnone = true)
    (l_cnone : K.lookup f_cnone = some ⟨oc_cnone, od_cnone, .func (PySem.W.fnOf "none" "Word.none" (C8.fnArgs (wmet 5)) (C8.fnBody (wmet 5)) (C8.fnScope (wmet 5)) .none kV_cnone dc_cnone pm_cnone an_cnone cd_cnone ct_cnone), sl_cnone⟩)
    (c_cnone : PySem.W.codeIn K cd_cnone "Word.none" = true)
    (e_cwhole : PySem.W.findCls K (.ref C) (.type "type") "whole" = some (.get (.builtin "classmethod.__get__") (.ref p_cwhole) .none (.ref C)))
    (r_cwhole : PySem.W.recIn K p_cwhole "classmethod" = some (.ref f_cwhole :: rest_cwhole))
    (i_cwhole : PySem.W.fnIn K f_cwhole = true)
    (l_cwhole : K.lookup f_cwhole = some ⟨oc_cwhole, od_cwhole, .func (PySem.W.fnOf "whole" "Word.whole" (C8.fnArgs (wmet 6)) (C8.fnBody (wmet 6)) (C8.fnScope (wmet 6)) .none kV_cwhole dc_cwhole pm_cwhole an_cwhole cd_cwhole ct_cwhole), sl_cwhole⟩)
    (c_cwhole : PySem.W.codeIn K cd_cwhole "Word.whole" = true)
    (a_is_integer : PySem.W.nsIn K mainGlobals "is_integer" = some (some (.ref f_is_integer)))
    (l_is_integer : K.lookup f_is_integer = some ⟨oc_is_integer, od_is_integer, .func (PySem.W.fnOf "is_integer" "is_integer" (C8.fnArgs (top 9)) (C8.fnBody (top 9)) (C8.fnScope (top 9)) (.ref tI) kV_is_integer dc_is_integer pm_is_integer an_is_integer cd_is_integer ct_is_integer), sl_is_integer⟩)
    (c_is_integer : PySem.W.codeIn K cd_is_integer "is_integer" = true)
    (l_dI : K.lookup tI = some ⟨ocI, odI, .seq #[.none, .none] nI, slI⟩)
    (k_is_integer : PySem.W.keepIn K (.ref f_is_integer) = true)
    (a_is_pattern : PySem.W.nsIn K mainGlobals "is_pattern" = some (some (.ref f_is_pattern)))
    (l_is_pattern : K.lookup f_is_pattern = some ⟨oc_is_pattern, od_is_pattern, .func (PySem.W.fnOf "is_pattern" "is_pattern" (C8.fnArgs (top 13)) (C8.fnBody (top 13)) (C8.fnScope (top 13)) .none kV_is_pattern dc_is_pattern pm_is_pattern an_is_pattern cd_is_pattern ct_is_pattern), sl_is_pattern⟩)
    (c_is_pattern : PySem.W.codeIn K cd_is_pattern "is_pattern" = true)
    (k_is_pattern : PySem.W.keepIn K (.ref f_is_pattern) = true)
    (a_need_pattern : PySem.W.nsIn K mainGlobals "need_pattern" = some (some (.ref f_need_pattern)))
    (l_need_pattern : K.lookup f_need_pattern = some ⟨oc_need_pattern, od_need_pattern, .func (PySem.W.fnOf "need_pattern" "need_pattern" (C8.fnArgs (top 14)) (C8.fnBody (top 14)) (C8.fnScope (top 14)) .none kV_need_pattern dc_need_pattern pm_need_pattern an_need_pattern cd_need_pattern ct_need_pattern), sl_need_pattern⟩)
    (c_need_pattern : PySem.W.codeIn K cd_need_pattern "need_pattern" = true)
    (k_need_pattern : PySem.W.keepIn K (.ref f_need_pattern) = true)
    (a_all_bars : PySem.W.nsIn K mainGlobals "all_bars" = some (some (.ref f_all_bars)))
    (l_all_bars : K.lookup f_all_bars = some ⟨oc_all_bars, od_all_bars, .func (PySem.W.fnOf "all_bars" "all_bars" (C8.fnArgs (top 15)) (C8.fnBody (top 15)) (C8.fnScope (top 15)) .none kV_all_bars dc_all_bars pm_all_bars an_all_bars cd_all_bars ct_all_bars), sl_all_bars⟩)
    (c_all_bars : PySem.W.codeIn K cd_all_bars "all_bars" = true)
    (k_all_bars : PySem.W.keepIn K (.ref f_all_bars) = true)
    (a_need_place : PySem.W.nsIn K mainGlobals "need_place" = some (some (.ref f_need_place)))
    (l_need_place : K.lookup f_need_place = some ⟨oc_need_place, od_need_place, .func (PySem.W.fnOf "need_place" "need_place" (C8.fnArgs (top 19)) (C8.fnBody (top 19)) (C8.fnScope (top 19)) .none kV_need_place dc_need_place pm_need_place an_need_place cd_need_place ct_need_place), sl_need_place⟩)
    (c_need_place : PySem.W.codeIn K cd_need_place "need_place" = true)
    (k_need_place : PySem.W.keepIn K (.ref f_need_place) = true)
    (a_mark : PySem.W.nsIn K mainGlobals "mark" = some (some (.ref f_mark)))
    (l_mark : K.lookup f_mark = some ⟨oc_mark, od_mark, .func (PySem.W.fnOf "mark" "mark" (C8.fnArgs (top 25)) (C8.fnBody (top 25)) (C8.fnScope (top 25)) .none kV_mark dc_mark pm_mark an_mark cd_mark ct_mark), sl_mark⟩)
    (c_mark : PySem.W.codeIn K cd_mark "mark" = true)
    (k_mark : PySem.W.keepIn K (.ref f_mark) = true)
    (a_marks : PySem.W.nsIn K mainGlobals "marks" = some (some (.ref f_marks)))
    (l_marks : K.lookup f_marks = some ⟨oc_marks, od_marks, .func (PySem.W.fnOf "marks" "marks" (C8.fnArgs (top 26)) (C8.fnBody (top 26)) (C8.fnScope (top 26)) .none kV_marks dc_marks pm_marks an_marks cd_marks ct_marks), sl_marks⟩)
    (c_marks : PySem.W.codeIn K cd_marks "marks" = true)
    (k_marks : PySem.W.keepIn K (.ref f_marks) = true)
    (a_need_pair : PySem.W.nsIn K mainGlobals "need_pair" = some (some (.ref f_need_pair)))
    (l_need_pair : K.lookup f_need_pair = some ⟨oc_need_pair, od_need_pair, .func (PySem.W.fnOf "need_pair" "need_pair" (C8.fnArgs (top 27)) (C8.fnBody (top 27)) (C8.fnScope (top 27)) .none kV_need_pair dc_need_pair pm_need_pair an_need_pair cd_need_pair ct_need_pair), sl_need_pair⟩)
    (c_need_pair : PySem.W.codeIn K cd_need_pair "need_pair" = true)
    (k_need_pair : PySem.W.keepIn K (.ref f_need_pair) = true)
    (a_parting : PySem.W.nsIn K mainGlobals "parting" = some (some (.ref f_parting)))
    (l_parting : K.lookup f_parting = some ⟨oc_parting, od_parting, .func (PySem.W.fnOf "parting" "parting" (C8.fnArgs (top 28)) (C8.fnBody (top 28)) (C8.fnScope (top 28)) .none kV_parting dc_parting pm_parting an_parting cd_parting ct_parting), sl_parting⟩)
    (c_parting : PySem.W.codeIn K cd_parting "parting" = true)
    (k_parting : PySem.W.keepIn K (.ref f_parting) = true)
    (a_breach : PySem.W.nsIn K mainGlobals "breach" = some (some (.ref f_breach)))
    (l_breach : K.lookup f_breach = some ⟨oc_breach, od_breach, .func (PySem.W.fnOf "breach" "breach" (C8.fnArgs (top 29)) (C8.fnBody (top 29)) (C8.fnScope (top 29)) .none kV_breach dc_breach pm_breach an_breach cd_breach ct_breach), sl_breach⟩)
    (c_breach : PySem.W.codeIn K cd_breach "breach" = true)
    (k_breach : PySem.W.keepIn K (.ref f_breach) = true)
    (a_same : PySem.W.nsIn K mainGlobals "same" = some (some (.ref f_same)))
    (l_same : K.lookup f_same = some ⟨oc_same, od_same, .func (PySem.W.fnOf "same" "same" (C8.fnArgs (top 30)) (C8.fnBody (top 30)) (C8.fnScope (top 30)) .none kV_same dc_same pm_same an_same cd_same ct_same), sl_same⟩)
    (c_same : PySem.W.codeIn K cd_same "same" = true)
    (k_same : PySem.W.keepIn K (.ref f_same) = true)
    (a_within : PySem.W.nsIn K mainGlobals "within" = some (some (.ref f_within)))
    (l_within : K.lookup f_within = some ⟨oc_within, od_within, .func (PySem.W.fnOf "within" "within" (C8.fnArgs (top 31)) (C8.fnBody (top 31)) (C8.fnScope (top 31)) .none kV_within dc_within pm_within an_within cd_within ct_within), sl_within⟩)
    (c_within : PySem.W.codeIn K cd_within "within" = true)
    (k_within : PySem.W.keepIn K (.ref f_within) = true)
    (a_need_place_of : PySem.W.nsIn K mainGlobals "need_place_of" = some (some (.ref f_need_place_of)))
    (l_need_place_of : K.lookup f_need_place_of = some ⟨oc_need_place_of, od_need_place_of, .func (PySem.W.fnOf "need_place_of" "need_place_of" (C8.fnArgs (top 32)) (C8.fnBody (top 32)) (C8.fnScope (top 32)) .none kV_need_place_of dc_need_place_of pm_need_place_of an_need_place_of cd_need_place_of ct_need_place_of), sl_need_place_of⟩)
    (c_need_place_of : PySem.W.codeIn K cd_need_place_of "need_place_of" = true)
    (k_need_place_of : PySem.W.keepIn K (.ref f_need_place_of) = true)
    (a_births : PySem.W.nsIn K mainGlobals "births" = some (some (.ref f_births)))
    (l_births : K.lookup f_births = some ⟨oc_births, od_births, .func (PySem.W.fnOf "births" "births" (C8.fnArgs (top 33)) (C8.fnBody (top 33)) (C8.fnScope (top 33)) .none kV_births dc_births pm_births an_births cd_births ct_births), sl_births⟩)
    (c_births : PySem.W.codeIn K cd_births "births" = true)
    (k_births : PySem.W.keepIn K (.ref f_births) = true)
    (a_ends : PySem.W.nsIn K mainGlobals "ends" = some (some (.ref f_ends)))
    (l_ends : K.lookup f_ends = some ⟨oc_ends, od_ends, .func (PySem.W.fnOf "ends" "ends" (C8.fnArgs (top 34)) (C8.fnBody (top 34)) (C8.fnScope (top 34)) .none kV_ends dc_ends pm_ends an_ends cd_ends ct_ends), sl_ends⟩)
    (c_ends : PySem.W.codeIn K cd_ends "ends" = true)
    (k_ends : PySem.W.keepIn K (.ref f_ends) = true)
    (a_stair : PySem.W.nsIn K mainGlobals "stair" = some (some (.ref f_stair)))
    (l_stair : K.lookup f_stair = some ⟨oc_stair, od_stair, .func (PySem.W.fnOf "stair" "stair" (C8.fnArgs (top 35)) (C8.fnBody (top 35)) (C8.fnScope (top 35)) .none kV_stair dc_stair pm_stair an_stair cd_stair ct_stair), sl_stair⟩)
    (c_stair : PySem.W.codeIn K cd_stair "stair" = true)
    (k_stair : PySem.W.keepIn K (.ref f_stair) = true)
    (a_left_words : PySem.W.nsIn K mainGlobals "left_words" = some (some (.ref f_left_words)))
    (l_left_words : K.lookup f_left_words = some ⟨oc_left_words, od_left_words, .func (PySem.W.fnOf "left_words" "left_words" (C8.fnArgs (top 36)) (C8.fnBody (top 36)) (C8.fnScope (top 36)) .none kV_left_words dc_left_words pm_left_words an_left_words cd_left_words ct_left_words), sl_left_words⟩)
    (c_left_words : PySem.W.codeIn K cd_left_words "left_words" = true)
    (k_left_words : PySem.W.keepIn K (.ref f_left_words) = true)
    (a_right_words : PySem.W.nsIn K mainGlobals "right_words" = some (some (.ref f_right_words)))
    (l_right_words : K.lookup f_right_words = some ⟨oc_right_words, od_right_words, .func (PySem.W.fnOf "right_words" "right_words" (C8.fnArgs (top 37)) (C8.fnBody (top 37)) (C8.fnScope (top 37)) .none kV_right_words dc_right_words pm_right_words an_right_words cd_right_words ct_right_words), sl_right_words⟩)
    (c_right_words : PySem.W.codeIn K cd_right_words "right_words" = true)
    (k_right_words : PySem.W.keepIn K (.ref f_right_words) = true)
    (a_word_of : PySem.W.nsIn K mainGlobals "word_of" = some (some (.ref f_word_of)))
    (l_word_of : K.lookup f_word_of = some ⟨oc_word_of, od_word_of, .func (PySem.W.fnOf "word_of" "word_of" (C8.fnArgs (top 38)) (C8.fnBody (top 38)) (C8.fnScope (top 38)) .none kV_word_of dc_word_of pm_word_of an_word_of cd_word_of ct_word_of), sl_word_of⟩)
    (c_word_of : PySem.W.codeIn K cd_word_of "word_of" = true)
    (k_word_of : PySem.W.keepIn K (.ref f_word_of) = true)
    (a_cornered : PySem.W.nsIn K mainGlobals "cornered" = some (some (.ref f_cornered)))
    (l_cornered : K.lookup f_cornered = some ⟨oc_cornered, od_cornered, .func (PySem.W.fnOf "cornered" "cornered" (C8.fnArgs (top 39)) (C8.fnBody (top 39)) (C8.fnScope (top 39)) .none kV_cornered dc_cornered pm_cornered an_cornered cd_cornered ct_cornered), sl_cornered⟩)
    (c_cornered : PySem.W.codeIn K cd_cornered "cornered" = true)
    (k_cornered : PySem.W.keepIn K (.ref f_cornered) = true)
    (a_plain : PySem.W.nsIn K mainGlobals "plain" = some (some (.ref f_plain)))
    (l_plain : K.lookup f_plain = some ⟨oc_plain, od_plain, .func (PySem.W.fnOf "plain" "plain" (C8.fnArgs (top 40)) (C8.fnBody (top 40)) (C8.fnScope (top 40)) .none kV_plain dc_plain pm_plain an_plain cd_plain ct_plain), sl_plain⟩)
    (c_plain : PySem.W.codeIn K cd_plain "plain" = true)
    (k_plain : PySem.W.keepIn K (.ref f_plain) = true)
    (a_stairs_count : PySem.W.nsIn K mainGlobals "stairs_count" = some (some (.ref f_stairs_count)))
    (l_stairs_count : K.lookup f_stairs_count = some ⟨oc_stairs_count, od_stairs_count, .func (PySem.W.fnOf "stairs_count" "stairs_count" (C8.fnArgs (top 42)) (C8.fnBody (top 42)) (C8.fnScope (top 42)) .none kV_stairs_count dc_stairs_count pm_stairs_count an_stairs_count cd_stairs_count ct_stairs_count), sl_stairs_count⟩)
    (c_stairs_count : PySem.W.codeIn K cd_stairs_count "stairs_count" = true)
    (k_stairs_count : PySem.W.keepIn K (.ref f_stairs_count) = true)
    (a_plain_count : PySem.W.nsIn K mainGlobals "plain_count" = some (some (.ref f_plain_count)))
    (l_plain_count : K.lookup f_plain_count = some ⟨oc_plain_count, od_plain_count, .func (PySem.W.fnOf "plain_count" "plain_count" (C8.fnArgs (top 43)) (C8.fnBody (top 43)) (C8.fnScope (top 43)) .none kV_plain_count dc_plain_count pm_plain_count an_plain_count cd_plain_count ct_plain_count), sl_plain_count⟩)
    (c_plain_count : PySem.W.codeIn K cd_plain_count "plain_count" = true)
    (k_plain_count : PySem.W.keepIn K (.ref f_plain_count) = true)
    (a_law_cell : PySem.W.nsIn K mainGlobals "_law_cell" = some (some (.ref f_law_cell)))
    (l_law_cell : K.lookup f_law_cell = some ⟨oc_law_cell, od_law_cell, .func (PySem.W.fnOf "_law_cell" "_law_cell" (C8.fnArgs (top 46)) (C8.fnBody (top 46)) (C8.fnScope (top 46)) .none kV_law_cell dc_law_cell pm_law_cell an_law_cell cd_law_cell ct_law_cell), sl_law_cell⟩)
    (c_law_cell : PySem.W.codeIn K cd_law_cell "_law_cell" = true)
    (k_law_cell : PySem.W.keepIn K (.ref f_law_cell) = true)
    (a_law_box : PySem.W.nsIn K mainGlobals "_law_box" = some (some (.ref f_law_box)))
    (l_law_box : K.lookup f_law_box = some ⟨oc_law_box, od_law_box, .func (PySem.W.fnOf "_law_box" "_law_box" (C8.fnArgs (top 47)) (C8.fnBody (top 47)) (C8.fnScope (top 47)) .none kV_law_box dc_law_box pm_law_box an_law_box cd_law_box ct_law_box), sl_law_box⟩)
    (c_law_box : PySem.W.codeIn K cd_law_box "_law_box" = true)
    (k_law_box : PySem.W.keepIn K (.ref f_law_box) = true)
    (a_law_take : PySem.W.nsIn K mainGlobals "_law_take" = some (some (.ref f_law_take)))
    (l_law_take : K.lookup f_law_take = some ⟨oc_law_take, od_law_take, .func (PySem.W.fnOf "_law_take" "_law_take" (C8.fnArgs (top 48)) (C8.fnBody (top 48)) (C8.fnScope (top 48)) .none kV_law_take dc_law_take pm_law_take an_law_take cd_law_take ct_law_take), sl_law_take⟩)
    (c_law_take : PySem.W.codeIn K cd_law_take "_law_take" = true)
    (k_law_take : PySem.W.keepIn K (.ref f_law_take) = true)
    (a_law_pattern : PySem.W.nsIn K mainGlobals "_law_pattern" = some (some (.ref f_law_pattern)))
    (l_law_pattern : K.lookup f_law_pattern = some ⟨oc_law_pattern, od_law_pattern, .func (PySem.W.fnOf "_law_pattern" "_law_pattern" (C8.fnArgs (top 49)) (C8.fnBody (top 49)) (C8.fnScope (top 49)) .none kV_law_pattern dc_law_pattern pm_law_pattern an_law_pattern cd_law_pattern ct_law_pattern), sl_law_pattern⟩)
    (c_law_pattern : PySem.W.codeIn K cd_law_pattern "_law_pattern" = true)
    (k_law_pattern : PySem.W.keepIn K (.ref f_law_pattern) = true)
    (a_law_bars : PySem.W.nsIn K mainGlobals "_law_bars" = some (some (.ref f_law_bars)))
    (l_law_bars : K.lookup f_law_bars = some ⟨oc_law_bars, od_law_bars, .func (PySem.W.fnOf "_law_bars" "_law_bars" (C8.fnArgs (top 50)) (C8.fnBody (top 50)) (C8.fnScope (top 50)) .none kV_law_bars dc_law_bars pm_law_bars an_law_bars cd_law_bars ct_law_bars), sl_law_bars⟩)
    (c_law_bars : PySem.W.codeIn K cd_law_bars "_law_bars" = true)
    (k_law_bars : PySem.W.keepIn K (.ref f_law_bars) = true)
    (a_law_shape : PySem.W.nsIn K mainGlobals "_law_shape" = some (some (.ref f_law_shape)))
    (l_law_shape : K.lookup f_law_shape = some ⟨oc_law_shape, od_law_shape, .func (PySem.W.fnOf "_law_shape" "_law_shape" (C8.fnArgs (top 51)) (C8.fnBody (top 51)) (C8.fnScope (top 51)) .none kV_law_shape dc_law_shape pm_law_shape an_law_shape cd_law_shape ct_law_shape), sl_law_shape⟩)
    (c_law_shape : PySem.W.codeIn K cd_law_shape "_law_shape" = true)
    (k_law_shape : PySem.W.keepIn K (.ref f_law_shape) = true)
    (a_law_place : PySem.W.nsIn K mainGlobals "_law_place" = some (some (.ref f_law_place)))
    (l_law_place : K.lookup f_law_place = some ⟨oc_law_place, od_law_place, .func (PySem.W.fnOf "_law_place" "_law_place" (C8.fnArgs (top 52)) (C8.fnBody (top 52)) (C8.fnScope (top 52)) .none kV_law_place dc_law_place pm_law_place an_law_place cd_law_place ct_law_place), sl_law_place⟩)
    (c_law_place : PySem.W.codeIn K cd_law_place "_law_place" = true)
    (k_law_place : PySem.W.keepIn K (.ref f_law_place) = true)
    (a_law_word : PySem.W.nsIn K mainGlobals "_law_word" = some (some (.ref f_law_word)))
    (l_law_word : K.lookup f_law_word = some ⟨oc_law_word, od_law_word, .func (PySem.W.fnOf "_law_word" "_law_word" (C8.fnArgs (top 53)) (C8.fnBody (top 53)) (C8.fnScope (top 53)) .none kV_law_word dc_law_word pm_law_word an_law_word cd_law_word ct_law_word), sl_law_word⟩)
    (c_law_word : PySem.W.codeIn K cd_law_word "_law_word" = true)
    (k_law_word : PySem.W.keepIn K (.ref f_law_word) = true)
    (a_law_mark : PySem.W.nsIn K mainGlobals "_law_mark" = some (some (.ref f_law_mark)))
    (l_law_mark : K.lookup f_law_mark = some ⟨oc_law_mark, od_law_mark, .func (PySem.W.fnOf "_law_mark" "_law_mark" (C8.fnArgs (top 54)) (C8.fnBody (top 54)) (C8.fnScope (top 54)) .none kV_law_mark dc_law_mark pm_law_mark an_law_mark cd_law_mark ct_law_mark), sl_law_mark⟩)
    (c_law_mark : PySem.W.codeIn K cd_law_mark "_law_mark" = true)
    (k_law_mark : PySem.W.keepIn K (.ref f_law_mark) = true)
    (a_law_marks : PySem.W.nsIn K mainGlobals "_law_marks" = some (some (.ref f_law_marks)))
    (l_law_marks : K.lookup f_law_marks = some ⟨oc_law_marks, od_law_marks, .func (PySem.W.fnOf "_law_marks" "_law_marks" (C8.fnArgs (top 55)) (C8.fnBody (top 55)) (C8.fnScope (top 55)) .none kV_law_marks dc_law_marks pm_law_marks an_law_marks cd_law_marks ct_law_marks), sl_law_marks⟩)
    (c_law_marks : PySem.W.codeIn K cd_law_marks "_law_marks" = true)
    (k_law_marks : PySem.W.keepIn K (.ref f_law_marks) = true)
    (a_law_births : PySem.W.nsIn K mainGlobals "_law_births" = some (some (.ref f_law_births)))
    (l_law_births : K.lookup f_law_births = some ⟨oc_law_births, od_law_births, .func (PySem.W.fnOf "_law_births" "_law_births" (C8.fnArgs (top 56)) (C8.fnBody (top 56)) (C8.fnScope (top 56)) .none kV_law_births dc_law_births pm_law_births an_law_births cd_law_births ct_law_births), sl_law_births⟩)
    (c_law_births : PySem.W.codeIn K cd_law_births "_law_births" = true)
    (k_law_births : PySem.W.keepIn K (.ref f_law_births) = true)
    (a_law_about : PySem.W.nsIn K mainGlobals "_law_about" = some (some (.ref f_law_about)))
    (l_law_about : K.lookup f_law_about = some ⟨oc_law_about, od_law_about, .func (PySem.W.fnOf "_law_about" "_law_about" (C8.fnArgs (top 57)) (C8.fnBody (top 57)) (C8.fnScope (top 57)) .none kV_law_about dc_law_about pm_law_about an_law_about cd_law_about ct_law_about), sl_law_about⟩)
    (c_law_about : PySem.W.codeIn K cd_law_about "_law_about" = true)
    (k_law_about : PySem.W.keepIn K (.ref f_law_about) = true)
    (a_law_lasts : PySem.W.nsIn K mainGlobals "_law_lasts" = some (some (.ref f_law_lasts)))
    (l_law_lasts : K.lookup f_law_lasts = some ⟨oc_law_lasts, od_law_lasts, .func (PySem.W.fnOf "_law_lasts" "_law_lasts" (C8.fnArgs (top 58)) (C8.fnBody (top 58)) (C8.fnScope (top 58)) .none kV_law_lasts dc_law_lasts pm_law_lasts an_law_lasts cd_law_lasts ct_law_lasts), sl_law_lasts⟩)
    (c_law_lasts : PySem.W.codeIn K cd_law_lasts "_law_lasts" = true)
    (k_law_lasts : PySem.W.keepIn K (.ref f_law_lasts) = true)
    (a_law_stair : PySem.W.nsIn K mainGlobals "_law_stair" = some (some (.ref f_law_stair)))
    (l_law_stair : K.lookup f_law_stair = some ⟨oc_law_stair, od_law_stair, .func (PySem.W.fnOf "_law_stair" "_law_stair" (C8.fnArgs (top 59)) (C8.fnBody (top 59)) (C8.fnScope (top 59)) .none kV_law_stair dc_law_stair pm_law_stair an_law_stair cd_law_stair ct_law_stair), sl_law_stair⟩)
    (c_law_stair : PySem.W.codeIn K cd_law_stair "_law_stair" = true)
    (k_law_stair : PySem.W.keepIn K (.ref f_law_stair) = true)
    (a_law_stairs : PySem.W.nsIn K mainGlobals "_law_stairs" = some (some (.ref f_law_stairs)))
    (l_law_stairs : K.lookup f_law_stairs = some ⟨oc_law_stairs, od_law_stairs, .func (PySem.W.fnOf "_law_stairs" "_law_stairs" (C8.fnArgs (top 60)) (C8.fnBody (top 60)) (C8.fnScope (top 60)) .none kV_law_stairs dc_law_stairs pm_law_stairs an_law_stairs cd_law_stairs ct_law_stairs), sl_law_stairs⟩)
    (c_law_stairs : PySem.W.codeIn K cd_law_stairs "_law_stairs" = true)
    (k_law_stairs : PySem.W.keepIn K (.ref f_law_stairs) = true)
    (a_law_choices : PySem.W.nsIn K mainGlobals "_law_choices" = some (some (.ref f_law_choices)))
    (l_law_choices : K.lookup f_law_choices = some ⟨oc_law_choices, od_law_choices, .func (PySem.W.fnOf "_law_choices" "_law_choices" (C8.fnArgs (top 61)) (C8.fnBody (top 61)) (C8.fnScope (top 61)) .none kV_law_choices dc_law_choices pm_law_choices an_law_choices cd_law_choices ct_law_choices), sl_law_choices⟩)
    (c_law_choices : PySem.W.codeIn K cd_law_choices "_law_choices" = true)
    (k_law_choices : PySem.W.keepIn K (.ref f_law_choices) = true)
    (a_law_all_right : PySem.W.nsIn K mainGlobals "_law_all_right" = some (some (.ref f_law_all_right)))
    (l_law_all_right : K.lookup f_law_all_right = some ⟨oc_law_all_right, od_law_all_right, .func (PySem.W.fnOf "_law_all_right" "_law_all_right" (C8.fnArgs (top 62)) (C8.fnBody (top 62)) (C8.fnScope (top 62)) .none kV_law_all_right dc_law_all_right pm_law_all_right an_law_all_right cd_law_all_right ct_law_all_right), sl_law_all_right⟩)
    (c_law_all_right : PySem.W.codeIn K cd_law_all_right "_law_all_right" = true)
    (k_law_all_right : PySem.W.keepIn K (.ref f_law_all_right) = true)
    (a_law_lattice_right : PySem.W.nsIn K mainGlobals "_law_lattice_right" = some (some (.ref f_law_lattice_right)))
    (l_law_lattice_right : K.lookup f_law_lattice_right = some ⟨oc_law_lattice_right, od_law_lattice_right, .func (PySem.W.fnOf "_law_lattice_right" "_law_lattice_right" (C8.fnArgs (top 63)) (C8.fnBody (top 63)) (C8.fnScope (top 63)) .none kV_law_lattice_right dc_law_lattice_right pm_law_lattice_right an_law_lattice_right cd_law_lattice_right ct_law_lattice_right), sl_law_lattice_right⟩)
    (c_law_lattice_right : PySem.W.codeIn K cd_law_lattice_right "_law_lattice_right" = true)
    (k_law_lattice_right : PySem.W.keepIn K (.ref f_law_lattice_right) = true)
    (a_law : PySem.W.nsIn K mainGlobals "law" = some (some (.ref f_law)))
    (l_law : K.lookup f_law = some ⟨oc_law, od_law, .func (PySem.W.fnOf "law" "law" (C8.fnArgs (top 64)) (C8.fnBody (top 64)) (C8.fnScope (top 64)) .none kV_law dc_law pm_law an_law cd_law ct_law), sl_law⟩)
    (c_law : PySem.W.codeIn K cd_law "law" = true)
    (k_law : PySem.W.keepIn K (.ref f_law) = true)
    (a_stairs : PySem.W.nsIn K mainGlobals "stairs" = some (some (.ref f_stairs)))
    (l_stairs : K.lookup f_stairs = some ⟨oc_stairs, od_stairs, .func (PySem.W.fnOf "stairs" "stairs" (C8.fnArgs (top 41)) (C8.fnBody (top 41)) (C8.fnScope (top 41)) .none kV_stairs dc_stairs pm_stairs an_stairs cd_stairs ct_stairs), sl_stairs⟩)
    (c_stairs : PySem.W.codeIn K cd_stairs "stairs" = true)
    (k_stairs : PySem.W.keepIn K (.ref f_stairs) = true)
    (a_plain_words : PySem.W.nsIn K mainGlobals "plain_words" = some (some (.ref f_plain_words)))
    (l_plain_words : K.lookup f_plain_words = some ⟨oc_plain_words, od_plain_words, .func (PySem.W.fnOf "plain_words" "plain_words" (C8.fnArgs (top 44)) (C8.fnBody (top 44)) (C8.fnScope (top 44)) .none kV_plain_words dc_plain_words pm_plain_words an_plain_words cd_plain_words ct_plain_words), sl_plain_words⟩)
    (c_plain_words : PySem.W.codeIn K cd_plain_words "plain_words" = true)
    (k_plain_words : PySem.W.keepIn K (.ref f_plain_words) = true)
    (a_need_fitting : PySem.W.nsIn K mainGlobals "need_fitting" = some (some (.ref f_need_fitting)))
    (l_need_fitting : K.lookup f_need_fitting = some ⟨oc_need_fitting, od_need_fitting, .func (PySem.W.fnOf "need_fitting" "need_fitting" (C8.fnArgs (top 24)) (C8.fnBody (top 24)) (C8.fnScope (top 24)) .none kV_need_fitting dc_need_fitting pm_need_fitting an_need_fitting cd_need_fitting ct_need_fitting), sl_need_fitting⟩)
    (c_need_fitting : PySem.W.codeIn K cd_need_fitting "need_fitting" = true)
    (k_need_fitting : PySem.W.keepIn K (.ref f_need_fitting) = true)
    : ∃ fd : FuncData, (∀ (s : Shared) (v : Value), BindsTo s fd ⟨[v], []⟩ [("_law_script", v)]) ∧ ∀ base : Heap, K.In base → base.Ns mainGlobals mg → FnOk P w K mg base C8.CX0 214 fa fd ["_law_script"] (spC (ctLaw K)) := by
  have e := hfa.symm.trans (PySem.W.mg_of X G a_law)
  cases e
  exact ⟨_, fun s v => .of_eq rfl, fun base _ _ => ok_law (mkFx X G aO lO kO sO aT lT kT sT iO0 iO1 iT0 iT1 oT0 oT1 mA z_len z_range z_isinstance z_all z_list z_tuple z_max z_min z_int z_str z_sum z_enumerate z_set z_dict z_bool aC c_pg c_hd c_po c_sa i_ha i_hn i_tk i_hm i_me sf na_own_sign na_own_place na_own_parts r_rd r_ga e_init i_init l_init c_init m_init k_C e_madd i_madd l_madd c_madd k_madd e_mand i_mand l_mand c_mand k_mand e_right i_right l_right c_right k_right e_left i_left l_left c_left k_left e_joined_by i_joined_by l_joined_by c_joined_by k_joined_by e_text i_text l_text c_text k_text e_part_text i_part_text l_part_text c_part_text k_part_text e_meq i_meq l_meq c_meq k_meq e_fits i_fits l_fits c_fits k_fits e_psign g_psign t_psign r_psign l_psign c_psign e_pplace g_pplace t_pplace r_pplace l_pplace c_pplace e_pparts g_pparts t_pparts r_pparts l_pparts c_pparts e_preach g_preach t_preach r_preach l_preach c_preach e_cnone r_cnone i_cnone l_cnone c_cnone e_cwhole r_cwhole i_cwhole l_cwhole c_cwhole a_is_integer l_is_integer c_is_integer l_dI k_is_integer a_is_pattern l_is_pattern c_is_pattern k_is_pattern a_need_pattern l_need_pattern c_need_pattern k_need_pattern a_all_bars l_all_bars c_all_bars k_all_bars a_need_place l_need_place c_need_place k_need_place a_mark l_mark c_mark k_mark a_marks l_marks c_marks k_marks a_need_pair l_need_pair c_need_pair k_need_pair a_parting l_parting c_parting k_parting a_breach l_breach c_breach k_breach a_same l_same c_same k_same a_within l_within c_within k_within a_need_place_of l_need_place_of c_need_place_of k_need_place_of a_births l_births c_births k_births a_ends l_ends c_ends k_ends a_stair l_stair c_stair k_stair a_left_words l_left_words c_left_words k_left_words a_right_words l_right_words c_right_words k_right_words a_word_of l_word_of c_word_of k_word_of a_cornered l_cornered c_cornered k_cornered a_plain l_plain c_plain k_plain a_stairs_count l_stairs_count c_stairs_count k_stairs_count a_plain_count l_plain_count c_plain_count k_plain_count a_law_cell l_law_cell c_law_cell k_law_cell a_law_box l_law_box c_law_box k_law_box a_law_take l_law_take c_law_take k_law_take a_law_pattern l_law_pattern c_law_pattern k_law_pattern a_law_bars l_law_bars c_law_bars k_law_bars a_law_shape l_law_shape c_law_shape k_law_shape a_law_place l_law_place c_law_place k_law_place a_law_word l_law_word c_law_word k_law_word a_law_mark l_law_mark c_law_mark k_law_mark a_law_marks l_law_marks c_law_marks k_law_marks a_law_births l_law_births c_law_births k_law_births a_law_about l_law_about c_law_about k_law_about a_law_lasts l_law_lasts c_law_lasts k_law_lasts a_law_stair l_law_stair c_law_stair k_law_stair a_law_stairs l_law_stairs c_law_stairs k_law_stairs a_law_choices l_law_choices c_law_choices k_law_choices a_law_all_right l_law_all_right c_law_all_right k_law_all_right a_law_lattice_right l_law_lattice_right c_law_lattice_right k_law_lattice_right a_law l_law c_law k_law a_stairs l_stairs c_stairs k_stairs a_plain_words l_plain_words c_plain_words k_plain_words a_need_fitting l_need_fitting c_need_fitting k_need_fitting)⟩
theorem walk {l : PySem.W.OpenLaw} {q : Program} {loose : List Str} {XP : (Str → Option Value) → Heap → Prop} {YP : World → Heap → Prop} {d : DefRec} {K : Params → PySem.W.Frag} (hn : l.most = some 63) (hdf : d.params.defaults = [])
    (hY : ∀ (w : World) (h : Heap), YP w h → (K w.params).In h)
    (F : ∀ (w : World) (mg : Str → Option Value) (fa : Addr) (h : Heap), (K w.params).In h → h.Ns mainGlobals mg → mg d.name = some (.ref fa) →
      ∃ fd : FuncData, (∀ (s : Shared) (u : Value), BindsTo s fd ⟨[u], []⟩ [("_law_script", u)]) ∧ ∀ base : Heap, (K w.params).In base → base.Ns mainGlobals mg → FnOk l.prog w (K w.params) mg base C8.CX0 214 fa fd ["_law_script"] (spC (ctLaw (K w.params)))) :
    PySem.W.WalkO q loose XP YP l.row.toRowW d [] (fun f vs => PySem.call f vs) :=
  L2.walk_of (n := 63) (k := 214) (x := "_law_script") (CX := fun _ => C8.CX0) (sp := fun w => spC (ctLaw (K w.params))) hn (by decide) hdf ⟨rfl, by decide, by decide⟩ hY F (fun w H a ns hl _ hS => ⟨isB true, ⟨ns, .ref a, rfl, by
    unfold isL
    have e : (ns.map fun i => isI i) = (ns.map V.int).map FU.isv := by rw [List.map_map]; rfl
    rw [e]
    exact lstP_v.mpr ⟨a, rfl, hS⟩, hl, rfl⟩, fun v H' _ h => h⟩) fun _ _ _ _ _ z => z
end WK
end
section
open PySem PySem.W PyProof.Rows
set_option maxRecDepth 100000
set_option maxHeartbeats 0
open_top hd for PySem.Challenge.rw_maprows_k33_whole_plain_words
end
set_option maxRecDepth 100000
set_option maxHeartbeats 4000000
open PySem PySem.W PyProof.Rows in
set_option maxRecDepth 100000 in
set_option maxHeartbeats 0 in
theorem PySem.Challenge.cw_maprows_k33_whole_plain_words_holds : PySem.Challenge.rw_maprows_k33_whole_plain_words.Holds := by
  refine hd ?_
  k_fill
  refine WK.walk (l := PySem.Challenge.rw_maprows_k33_whole_plain_words) rfl rfl (fun w h Y => PySem.W.kIn_of Y) ?F
  case F =>
    intro w mg fa h KX G hmg
    refine' WK.all_mk KX G hmg ?aO ?lO ?kO ?sO ?aT ?lT ?kT ?sT ?iO0 ?iO1 ?iT0 ?iT1 ?oT0 ?oT1 ?mA ?z_len ?z_range ?z_isinstance ?z_all ?z_list ?z_tuple ?z_max ?z_min ?z_int ?z_str ?z_sum ?z_enumerate ?z_set ?z_dict ?z_bool ?aC ?c_pg ?c_hd ?c_po ?c_sa ?i_ha ?i_hn ?i_tk ?i_hm ?i_me ?sf ?na_own_sign ?na_own_place ?na_own_parts ?r_rd ?r_ga ?e_init ?i_init ?l_init ?c_init ?m_init ?k_C ?e_madd ?i_madd ?l_madd ?c_madd ?k_madd ?e_mand ?i_mand ?l_mand ?c_mand ?k_mand ?e_right ?i_right ?l_right ?c_right ?k_right ?e_left ?i_left ?l_left ?c_left ?k_left ?e_joined_by ?i_joined_by ?l_joined_by ?c_joined_by ?k_joined_by ?e_text ?i_text ?l_text ?c_text ?k_text ?e_part_text ?i_part_text ?l_part_text ?c_part_text ?k_part_text ?e_meq ?i_meq ?l_meq ?c_meq ?k_meq ?e_fits ?i_fits ?l_fits ?c_fits ?k_fits ?e_psign ?g_psign ?t_psign ?r_psign ?l_psign ?c_psign ?e_pplace ?g_pplace ?t_pplace ?r_pplace ?l_pplace ?c_pplace ?e_pparts ?g_pparts ?t_pparts ?r_pparts ?l_pparts ?c_pparts ?e_preach ?g_preach ?t_preach ?r_preach ?l_preach ?c_preach ?e_cnone ?r_cnone ?i_cnone ?l_cnone ?c_cnone ?e_cwhole ?r_cwhole ?i_cwhole ?l_cwhole ?c_cwhole ?a_is_integer ?l_is_integer ?c_is_integer ?l_dI ?k_is_integer ?a_is_pattern ?l_is_pattern ?c_is_pattern ?k_is_pattern ?a_need_pattern ?l_need_pattern ?c_need_pattern ?k_need_pattern ?a_all_bars ?l_all_bars ?c_all_bars ?k_all_bars ?a_need_place ?l_need_place ?c_need_place ?k_need_place ?a_mark ?l_mark ?c_mark ?k_mark ?a_marks ?l_marks ?c_marks ?k_marks ?a_need_pair ?l_need_pair ?c_need_pair ?k_need_pair ?a_parting ?l_parting ?c_parting ?k_parting ?a_breach ?l_breach ?c_breach ?k_breach ?a_same ?l_same ?c_same ?k_same ?a_within ?l_within ?c_within ?k_within ?a_need_place_of ?l_need_place_of ?c_need_place_of ?k_need_place_of ?a_births ?l_births ?c_births ?k_births ?a_ends ?l_ends ?c_ends ?k_ends ?a_stair ?l_stair ?c_stair ?k_stair ?a_left_words ?l_left_words ?c_left_words ?k_left_words ?a_right_words ?l_right_words ?c_right_words ?k_right_words ?a_word_of ?l_word_of ?c_word_of ?k_word_of ?a_cornered ?l_cornered ?c_cornered ?k_cornered ?a_plain ?l_plain ?c_plain ?k_plain ?a_stairs_count ?l_stairs_count ?c_stairs_count ?k_stairs_count ?a_plain_count ?l_plain_count ?c_plain_count ?k_plain_count ?a_law_cell ?l_law_cell ?c_law_cell ?k_law_cell ?a_law_box ?l_law_box ?c_law_box ?k_law_box ?a_law_take ?l_law_take ?c_law_take ?k_law_take ?a_law_pattern ?l_law_pattern ?c_law_pattern ?k_law_pattern ?a_law_bars ?l_law_bars ?c_law_bars ?k_law_bars ?a_law_shape ?l_law_shape ?c_law_shape ?k_law_shape ?a_law_place ?l_law_place ?c_law_place ?k_law_place ?a_law_word ?l_law_word ?c_law_word ?k_law_word ?a_law_mark ?l_law_mark ?c_law_mark ?k_law_mark ?a_law_marks ?l_law_marks ?c_law_marks ?k_law_marks ?a_law_births ?l_law_births ?c_law_births ?k_law_births ?a_law_about ?l_law_about ?c_law_about ?k_law_about ?a_law_lasts ?l_law_lasts ?c_law_lasts ?k_law_lasts ?a_law_stair ?l_law_stair ?c_law_stair ?k_law_stair ?a_law_stairs ?l_law_stairs ?c_law_stairs ?k_law_stairs ?a_law_choices ?l_law_choices ?c_law_choices ?k_law_choices ?a_law_all_right ?l_law_all_right ?c_law_all_right ?k_law_all_right ?a_law_lattice_right ?l_law_lattice_right ?c_law_lattice_right ?k_law_lattice_right ?a_law ?l_law ?c_law ?k_law ?a_stairs ?l_stairs ?c_stairs ?k_stairs ?a_plain_words ?l_plain_words ?c_plain_words ?k_plain_words ?a_need_fitting ?l_need_fitting ?c_need_fitting ?k_need_fitting
    (case aO => k_is)
    (case lO => k_is)
    (case kO => exact ⟨⟨_, _, rfl, rfl⟩, ⟨_, _, rfl, rfl⟩, trivial⟩)
    (case sO => rfl)
    (case aT => k_is)
    (case lT => k_is)
    (case kT => exact ⟨⟨_, _, rfl, rfl⟩, ⟨_, _, rfl, rfl⟩, trivial⟩)
    (case sT => rfl)
    (case iO0 => k_is)
    (case iO1 => k_is)
    (case iT0 => k_is)
    (case iT1 => k_is)
    (case oT0 => k_is)
    (case oT1 => k_is)
    (case mA => k_is)
    (case z_len => k_is)
    (case z_range => k_is)
    (case z_isinstance => k_is)
    (case z_all => k_is)
    (case z_list => k_is)
    (case z_tuple => k_is)
    (case z_max => k_is)
    (case z_min => k_is)
    (case z_int => k_is)
    (case z_str => k_is)
    (case z_sum => k_is)
    (case z_enumerate => k_is)
    (case z_set => k_is)
    (case z_dict => k_is)
    (case z_bool => k_is)
    (case aC => k_is)
    (case c_pg => k_is)
    (case c_hd => k_is)
    (case c_po => k_is)
    (case c_sa => k_is)
    (case i_ha => k_is)
    (case i_hn => k_is)
    (case i_tk => k_is)
    (case i_hm => k_is)
    (case i_me => rfl)
    (case sf => k_is)
    (case na_own_sign => k_is)
    (case na_own_place => k_is)
    (case na_own_parts => k_is)
    (case r_rd => k_is)
    (case r_ga => k_is)
    (case e_init => k_is)
    (case i_init => k_is)
    (case l_init => k_is)
    (case c_init => k_is)
    (case m_init => k_is)
    (case k_C => k_is)
    (case e_madd => k_is)
    (case i_madd => k_is)
    (case l_madd => k_is)
    (case c_madd => k_is)
    (case k_madd => k_is)
    (case e_mand => k_is)
    (case i_mand => k_is)
    (case l_mand => k_is)
    (case c_mand => k_is)
    (case k_mand => k_is)
    (case e_right => k_is)
    (case i_right => k_is)
    (case l_right => k_is)
    (case c_right => k_is)
    (case k_right => k_is)
    (case e_left => k_is)
    (case i_left => k_is)
    (case l_left => k_is)
    (case c_left => k_is)
    (case k_left => k_is)
    (case e_joined_by => k_is)
    (case i_joined_by => k_is)
    (case l_joined_by => k_is)
    (case c_joined_by => k_is)
    (case k_joined_by => k_is)
    (case e_text => k_is)
    (case i_text => k_is)
    (case l_text => k_is)
    (case c_text => k_is)
    (case k_text => k_is)
    (case e_part_text => k_is)
    (case i_part_text => k_is)
    (case l_part_text => k_is)
    (case c_part_text => k_is)
    (case k_part_text => k_is)
    (case e_meq => k_is)
    (case i_meq => k_is)
    (case l_meq => k_is)
    (case c_meq => k_is)
    (case k_meq => k_is)
    (case e_fits => k_is)
    (case i_fits => k_is)
    (case l_fits => k_is)
    (case c_fits => k_is)
    (case k_fits => k_is)
    (case e_psign => k_is)
    (case g_psign => k_is)
    (case t_psign => k_is)
    (case r_psign => k_is)
    (case l_psign => k_is)
    (case c_psign => k_is)
    (case e_pplace => k_is)
    (case g_pplace => k_is)
    (case t_pplace => k_is)
    (case r_pplace => k_is)
    (case l_pplace => k_is)
    (case c_pplace => k_is)
    (case e_pparts => k_is)
    (case g_pparts => k_is)
    (case t_pparts => k_is)
    (case r_pparts => k_is)
    (case l_pparts => k_is)
    (case c_pparts => k_is)
    (case e_preach => k_is)
    (case g_preach => k_is)
    (case t_preach => k_is)
    (case r_preach => k_is)
    (case l_preach => k_is)
    (case c_preach => k_is)
    (case e_cnone => k_is)
    (case r_cnone => k_is)
    (case i_cnone => k_is)
    (case l_cnone => k_is)
    (case c_cnone => k_is)
    (case e_cwhole => k_is)
    (case r_cwhole => k_is)
    (case i_cwhole => k_is)
    (case l_cwhole => k_is)
    (case c_cwhole => k_is)
    (case a_is_integer => k_is)
    (case l_is_integer => k_is)
    (case c_is_integer => k_is)
    (case l_dI => k_is)
    (case k_is_integer => k_is)
    (case a_is_pattern => k_is)
    (case l_is_pattern => k_is)
    (case c_is_pattern => k_is)
    (case k_is_pattern => k_is)
    (case a_need_pattern => k_is)
    (case l_need_pattern => k_is)
    (case c_need_pattern => k_is)
    (case k_need_pattern => k_is)
    (case a_all_bars => k_is)
    (case l_all_bars => k_is)
    (case c_all_bars => k_is)
    (case k_all_bars => k_is)
    (case a_need_place => k_is)
    (case l_need_place => k_is)
    (case c_need_place => k_is)
    (case k_need_place => k_is)
    (case a_mark => k_is)
    (case l_mark => k_is)
    (case c_mark => k_is)
    (case k_mark => k_is)
    (case a_marks => k_is)
    (case l_marks => k_is)
    (case c_marks => k_is)
    (case k_marks => k_is)
    (case a_need_pair => k_is)
    (case l_need_pair => k_is)
    (case c_need_pair => k_is)
    (case k_need_pair => k_is)
    (case a_parting => k_is)
    (case l_parting => k_is)
    (case c_parting => k_is)
    (case k_parting => k_is)
    (case a_breach => k_is)
    (case l_breach => k_is)
    (case c_breach => k_is)
    (case k_breach => k_is)
    (case a_same => k_is)
    (case l_same => k_is)
    (case c_same => k_is)
    (case k_same => k_is)
    (case a_within => k_is)
    (case l_within => k_is)
    (case c_within => k_is)
    (case k_within => k_is)
    (case a_need_place_of => k_is)
    (case l_need_place_of => k_is)
    (case c_need_place_of => k_is)
    (case k_need_place_of => k_is)
    (case a_births => k_is)
    (case l_births => k_is)
    (case c_births => k_is)
    (case k_births => k_is)
    (case a_ends => k_is)
    (case l_ends => k_is)
    (case c_ends => k_is)
    (case k_ends => k_is)
    (case a_stair => k_is)
    (case l_stair => k_is)
    (case c_stair => k_is)
    (case k_stair => k_is)
    (case a_left_words => k_is)
    (case l_left_words => k_is)
    (case c_left_words => k_is)
    (case k_left_words => k_is)
    (case a_right_words => k_is)
    (case l_right_words => k_is)
    (case c_right_words => k_is)
    (case k_right_words => k_is)
    (case a_word_of => k_is)
    (case l_word_of => k_is)
    (case c_word_of => k_is)
    (case k_word_of => k_is)
    (case a_cornered => k_is)
    (case l_cornered => k_is)
    (case c_cornered => k_is)
    (case k_cornered => k_is)
    (case a_plain => k_is)
    (case l_plain => k_is)
    (case c_plain => k_is)
    (case k_plain => k_is)
    (case a_stairs_count => k_is)
    (case l_stairs_count => k_is)
    (case c_stairs_count => k_is)
    (case k_stairs_count => k_is)
    (case a_plain_count => k_is)
    (case l_plain_count => k_is)
    (case c_plain_count => k_is)
    (case k_plain_count => k_is)
    (case a_law_cell => k_is)
    (case l_law_cell => k_is)
    (case c_law_cell => k_is)
    (case k_law_cell => k_is)
    (case a_law_box => k_is)
    (case l_law_box => k_is)
    (case c_law_box => k_is)
    (case k_law_box => k_is)
    (case a_law_take => k_is)
    (case l_law_take => k_is)
    (case c_law_take => k_is)
    (case k_law_take => k_is)
    (case a_law_pattern => k_is)
    (case l_law_pattern => k_is)
    (case c_law_pattern => k_is)
    (case k_law_pattern => k_is)
    (case a_law_bars => k_is)
    (case l_law_bars => k_is)
    (case c_law_bars => k_is)
    (case k_law_bars => k_is)
    (case a_law_shape => k_is)
    (case l_law_shape => k_is)
    (case c_law_shape => k_is)
    (case k_law_shape => k_is)
    (case a_law_place => k_is)
    (case l_law_place => k_is)
    (case c_law_place => k_is)
    (case k_law_place => k_is)
    (case a_law_word => k_is)
    (case l_law_word => k_is)
    (case c_law_word => k_is)
    (case k_law_word => k_is)
    (case a_law_mark => k_is)
    (case l_law_mark => k_is)
    (case c_law_mark => k_is)
    (case k_law_mark => k_is)
    (case a_law_marks => k_is)
    (case l_law_marks => k_is)
    (case c_law_marks => k_is)
    (case k_law_marks => k_is)
    (case a_law_births => k_is)
    (case l_law_births => k_is)
    (case c_law_births => k_is)
    (case k_law_births => k_is)
    (case a_law_about => k_is)
    (case l_law_about => k_is)
    (case c_law_about => k_is)
    (case k_law_about => k_is)
    (case a_law_lasts => k_is)
    (case l_law_lasts => k_is)
    (case c_law_lasts => k_is)
    (case k_law_lasts => k_is)
    (case a_law_stair => k_is)
    (case l_law_stair => k_is)
    (case c_law_stair => k_is)
    (case k_law_stair => k_is)
    (case a_law_stairs => k_is)
    (case l_law_stairs => k_is)
    (case c_law_stairs => k_is)
    (case k_law_stairs => k_is)
    (case a_law_choices => k_is)
    (case l_law_choices => k_is)
    (case c_law_choices => k_is)
    (case k_law_choices => k_is)
    (case a_law_all_right => k_is)
    (case l_law_all_right => k_is)
    (case c_law_all_right => k_is)
    (case k_law_all_right => k_is)
    (case a_law_lattice_right => k_is)
    (case l_law_lattice_right => k_is)
    (case c_law_lattice_right => k_is)
    (case k_law_lattice_right => k_is)
    (case a_law => k_is)
    (case l_law => k_is)
    (case c_law => k_is)
    (case k_law => k_is)
    (case a_stairs => k_is)
    (case l_stairs => k_is)
    (case c_stairs => k_is)
    (case k_stairs => k_is)
    (case a_plain_words => k_is)
    (case l_plain_words => k_is)
    (case c_plain_words => k_is)
    (case k_plain_words => k_is)
    (case a_need_fitting => k_is)
    (case l_need_fitting => k_is)
    (case c_need_fitting => k_is)
    (case k_need_fitting => k_is)
