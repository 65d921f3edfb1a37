import PyProof.Rows.All
import Wide.All
import OpenK.AllK
import Wide.FinOn
import HandS.ForMost
import HandS.ForExc
import HandS.IsInst
import PyProof.StrBlock2
import HandS.Defaults
import HandS.TupAny
import HandS.Codes
import KE.KStateDown
import HandS.Words
import HandS.WordsExc
import HandS.Head0
import HandS.Head1
import HandS.Head2
import HandS.HeadEnd
import HandS.HeadHook1
import HandS.HeadHook2
import PySem.Challenge.RW_furrow_k21_numbers_read
set_option Elab.async false
set_option linter.all false
set_option maxRecDepth 100000
set_option maxHeartbeats 4000000
/-! Gx: a functional reading over the hand layer. -/
namespace Gx
open PySem PySem.Spec PyProof.Rows L2

/-! ### representation -/
class Rp (α : Type) where
  rp : PySem.W.Frag → Hp → V → α → Prop
  mono : ∀ {K : PySem.W.Frag} {F F' : Hp} {v : V} {x : α}, L2.Same F F' → rp K F v x → rp K F' v x
open Rp (rp)
instance : Rp Int := ⟨fun _ _ v x => v = .int x, fun _ h => h⟩
instance : Rp Bool := ⟨fun _ _ v x => v = .bl x, fun _ h => h⟩
instance : Rp Str := ⟨fun _ _ v x => v = .str x, fun _ h => h⟩
instance : Rp Unit := ⟨fun _ _ v _ => v = .non, fun _ h => h⟩
abbrev Rps {α : Type} [Rp α] (K : PySem.W.Frag) (F : Hp) : List V → List α → Prop := Paired (fun v x => rp K F v x)
theorem Rps.mono {α : Type} [Rp α] {K : PySem.W.Frag} {F F' : Hp} {vs : List V} {xs : List α} (s : L2.Same F F') (h : Rps K F vs xs) : Rps K F' vs xs := L2.Paired.mapP h fun _ _ => Rp.mono s
theorem seqT_mono {K : PySem.W.Frag} {H H' : Hp} {a : Addr} {xs : List V} (e : L2.Same H H') (h : SqT K H a xs) : SqT K H' a xs := by
  rcases h with (h | ⟨o, h⟩) | h
  · exact .inl (.inl (e _ _ h))
  · exact .inl (.inr ⟨o, e _ _ h⟩)
  · exact .inr h
instance {α : Type} [Rp α] : Rp (List α) := ⟨fun K F v xs => ∃ a vs, v = .ref a ∧ SqL K F a vs ∧ Rps K F vs xs, fun s ⟨a, vs, e, q, r⟩ => ⟨a, vs, e, s.seq q, r.mono s⟩⟩
/-- a tuple of things of one kind -/
structure Tp (α : Type) where
  l : List α
  deriving DecidableEq
instance {α : Type} [Rp α] : Rp (Tp α) := ⟨fun K F v xs => ∃ a vs, v = .ref a ∧ SqT K F a vs ∧ Rps K F vs xs.l, fun s ⟨a, vs, e, q, r⟩ => ⟨a, vs, e, seqT_mono s q, r.mono s⟩⟩
/-- a row of values of unlike kinds: (x, (y, ())) -/
class Ra (τ : Type) where
  ra : PySem.W.Frag → Hp → List V → τ → Prop
  mono : ∀ {K : PySem.W.Frag} {F F' : Hp} {v : List V} {x : τ}, L2.Same F F' → ra K F v x → ra K F' v x
open Ra (ra)
instance : Ra Unit := ⟨fun _ _ vs _ => vs = [], fun _ h => h⟩
instance {α τ : Type} [Rp α] [Ra τ] : Ra (α × τ) := ⟨fun K F vs x => ∃ v r, vs = v :: r ∧ rp K F v x.1 ∧ ra K F r x.2, fun s ⟨v, r, e, p, q⟩ => ⟨v, r, e, Rp.mono s p, Ra.mono s q⟩⟩
/-- tuples of 2, 3, .. things -/
structure T1 (α : Type) where
  a : α
  deriving DecidableEq
structure T2 (α β : Type) where
  a : α
  b : β
  deriving DecidableEq
structure T3 (α β γ : Type) where
  a : α
  b : β
  c : γ
  deriving DecidableEq
structure T4 (α β γ δ : Type) where
  a : α
  b : β
  c : γ
  d : δ
  deriving DecidableEq
structure T5 (α β γ δ ε : Type) where
  a : α
  b : β
  c : γ
  d : δ
  e : ε
  deriving DecidableEq
/-- a kind that stands as a tuple: its row -/
class Tpl (θ : Type) (τ : outParam Type) where
  row : θ → τ
abbrev T1.row {α : Type} (x : T1 α) : α × Unit := (x.a, ())
abbrev T2.row {α β : Type} (x : T2 α β) : α × β × Unit := (x.a, x.b, ())
abbrev T3.row {α β γ : Type} (x : T3 α β γ) : α × β × γ × Unit := (x.a, x.b, x.c, ())
abbrev T4.row {α β γ δ : Type} (x : T4 α β γ δ) : α × β × γ × δ × Unit := (x.a, x.b, x.c, x.d, ())
abbrev T5.row {α β γ δ ε : Type} (x : T5 α β γ δ ε) : α × β × γ × δ × ε × Unit := (x.a, x.b, x.c, x.d, x.e, ())
def rpT {θ τ : Type} [Ra τ] (row : θ → τ) (K : PySem.W.Frag) (F : Hp) (v : V) (x : θ) : Prop := ∃ a vs, v = .ref a ∧ SqT K F a vs ∧ ra K F vs (row x)
theorem rpT.mono {θ τ : Type} [Ra τ] {row : θ → τ} {K : PySem.W.Frag} {F F' : Hp} {v : V} {x : θ} (s : L2.Same F F') : rpT row K F v x → rpT row K F' v x := fun ⟨a, vs, e, q, r⟩ => ⟨a, vs, e, seqT_mono s q, Ra.mono s r⟩
instance {α : Type} [Rp α] : Rp (T1 α) := ⟨rpT T1.row, rpT.mono⟩
instance {α β : Type} [Rp α] [Rp β] : Rp (T2 α β) := ⟨rpT T2.row, rpT.mono⟩
instance {α β γ : Type} [Rp α] [Rp β] [Rp γ] : Rp (T3 α β γ) := ⟨rpT T3.row, rpT.mono⟩
instance {α β γ δ : Type} [Rp α] [Rp β] [Rp γ] [Rp δ] : Rp (T4 α β γ δ) := ⟨rpT T4.row, rpT.mono⟩
instance {α β γ δ ε : Type} [Rp α] [Rp β] [Rp γ] [Rp δ] [Rp ε] : Rp (T5 α β γ δ ε) := ⟨rpT T5.row, rpT.mono⟩
/-- None or a thing that is never None -/
class NN (α : Type) [Rp α] : Prop where
  nn : ∀ {K : PySem.W.Frag} {F : Hp} {x : α}, ¬ rp K F V.non x
instance : NN Int := ⟨fun h => nomatch h⟩
instance : NN Bool := ⟨fun h => nomatch h⟩
instance : NN Str := ⟨fun h => nomatch h⟩
instance {α : Type} [Rp α] : NN (List α) := ⟨fun ⟨_, _, e, _⟩ => nomatch e⟩
instance {α : Type} [Rp α] : NN (Tp α) := ⟨fun ⟨_, _, e, _⟩ => nomatch e⟩
theorem rpT.nn {θ τ : Type} [Ra τ] {row : θ → τ} {K : PySem.W.Frag} {F : Hp} {x : θ} : ¬ rpT row K F .non x := fun ⟨_, _, e, _⟩ => nomatch e
instance {α : Type} [Rp α] : NN (T1 α) := ⟨rpT.nn⟩
instance {α β : Type} [Rp α] [Rp β] : NN (T2 α β) := ⟨rpT.nn⟩
instance {α β γ : Type} [Rp α] [Rp β] [Rp γ] : NN (T3 α β γ) := ⟨rpT.nn⟩
instance {α β γ δ : Type} [Rp α] [Rp β] [Rp γ] [Rp δ] : NN (T4 α β γ δ) := ⟨rpT.nn⟩
instance {α β γ δ ε : Type} [Rp α] [Rp β] [Rp γ] [Rp δ] [Rp ε] : NN (T5 α β γ δ ε) := ⟨rpT.nn⟩
def rpO {α : Type} [Rp α] (K : PySem.W.Frag) (F : Hp) (v : V) : Option α → Prop
  | none => v = .non
  | some x => rp K F v x
instance {α : Type} [Rp α] [NN α] : Rp (Option α) := ⟨rpO, fun {K F F' v x} s h => by
  cases x with
  | none => exact h
  | some x => exact Rp.mono (α := α) s h⟩
theorem rp_some {α : Type} [Rp α] [NN α] {K : PySem.W.Frag} {F : Hp} {v : V} {x : α} (h : rp K F v x) : rp K F v (some x) := h
theorem rp_none {α : Type} [Rp α] [NN α] {K : PySem.W.Frag} {F : Hp} : rp K F V.non (none : Option α) := rfl
theorem rp_isNone {α : Type} [Rp α] [NN α] {K : PySem.W.Frag} {F : Hp} {v : V} : ∀ {x : Option α}, rp K F v x → decide (v = .non) = x.isNone
  | none, h => by
    have e : v = .non := h
    rw [e]; rfl
  | some x, h => by
    have e : ¬ v = .non := fun e => by
      subst e
      exact NN.nn (α := α) h
    rw [decide_eq_false e]; rfl

/-! ### shared part and heap -/
structure Gr (F H F' H' : Hp) : Prop where
  ff : L2.Same F F'
  fh : L2.Same F' H'
  hh : L2.Same H H'
  fr : ∀ a, H a ≠ none → F' a = F a
theorem Gr.refl {F H : Hp} (s : L2.Same F H) : Gr F H F H := ⟨.refl _, s, .refl _, fun _ _ => rfl⟩
theorem Gr.trans {F H F1 H1 F2 H2 : Hp} (a : Gr F H F1 H1) (b : Gr F1 H1 F2 H2) : Gr F H F2 H2 :=
  ⟨a.ff.trans b.ff, b.fh, a.hh.trans b.hh, fun c h => by
    have h1 : H1 c ≠ none := fun e => by
      cases q : H c with
      | none => exact h q
      | some o => rw [a.hh c o q] at e; cases e
    rw [b.fr c h1, a.fr c h]⟩
theorem Gr.new {F H : Hp} {p : Addr} {o : HO} (s : L2.Same F H) (hp : H p = none) : Gr F H (upd F p o) (upd H p o) := by
  have fp : F p = none := s.free hp
  refine ⟨fun b u e => ?_, fun b u e => ?_, fun b u e => ?_, fun a h => ?_⟩
  · rw [upd_ne (ne_of_none e fp)]; exact e
  · by_cases hb : b = p
    · subst hb; rw [upd_same] at e ⊢; exact e
    · rw [upd_ne hb] at e ⊢; exact s _ _ e
  · rw [upd_ne (ne_of_none e hp)]; exact e
  · by_cases hb : a = p
    · subst hb; exact absurd hp h
    · rw [upd_ne hb]
/-- a new object that stays private -/
theorem Gr.newP {F H : Hp} {p : Addr} {o : HO} (s : L2.Same F H) (hp : H p = none) : Gr F H F (upd H p o) := by
  refine ⟨.refl _, fun b u e => ?_, fun b u e => ?_, fun a h => rfl⟩
  · rw [upd_ne (ne_of_none (s _ _ e) hp)]; exact s _ _ e
  · rw [upd_ne (ne_of_none e hp)]; exact e

/-! ### runs -/
def GoE (X : Cx) (e : Expr) : TE := fun σ H Q => ∀ pins s, Inv X pins σ H s → wpAny (model X.prog X.w) X.A (eval e X.env) (EP X pins σ Q) X.xe s
def GoT (X : Cx) (e : Expr) : TT := fun σ H Q => ∀ pins s, Inv X pins σ H s → wpAny (model X.prog X.w) X.A (isTrue e X.env (eval e X.env)) (TP X pins σ Q) X.xe s
def GoA (X : Cx) (es : List Expr) : TA := fun σ H Q => ∀ pos pins s, Inv X pins σ H s → wpAny (model X.prog X.w) X.A (spliced (backTo pos (starEach es X.env))) (AP X pins σ Q) X.xe s
def GoS (X : Cx) (st : List Stmt) : TS := fun D σ H => ∀ pins s, Inv X pins σ H s → wpAny (model X.prog X.w) X.A (execs st X.env) (SP X pins D) X.xe s
def GoI (X : Cx) (tg iter : Expr) : TI := fun σ H R => ∀ pins s, Inv X pins σ H s → wpAny (model X.prog X.w) X.A (eval iter X.env) (fun v s1 => wpAny (model X.prog X.w) X.A (pyIter v) (PIE X pins σ tg R) X.xe s1) X.xe s
section
variable {X : Cx} {e : Expr} {es : List Expr} {st : Stmt} {sts rest : List Stmt} {σ : L2.St} {F H : Hp} {D : Ends}
theorem pe_go : PE X e (GoE X e) := ⟨fun pins s σ H Q I h => h pins s I⟩
theorem pt_go : PT X e (GoT X e) := ⟨fun pins s σ H Q I h => h pins s I⟩
theorem pa_go : PA X es (GoA X es) := ⟨fun pos pins s σ H Q I h => h pos pins s I⟩
theorem pss_go : PSs X sts (GoS X sts) := ⟨fun pins s σ H D I h => h pins s I⟩
theorem pi_go {tg iter : Expr} : PI X tg iter (GoI X tg iter) := ⟨fun pins s σ H R I h => h pins s I⟩
theorem GoE.of {t : TE} {Q : VK} (p : PE X e t) (h : t σ H Q) : GoE X e σ H Q := fun pins s I => p.run pins s σ H Q I h
theorem GoT.of {t : TT} {Q : Bool → Hp → Prop} (p : PT X e t) (h : t σ H Q) : GoT X e σ H Q := fun pins s I => p.run pins s σ H Q I h
theorem GoA.of {t : TA} {Q : List V → Hp → Prop} (p : PA X es t) (h : t σ H Q) : GoA X es σ H Q := fun pos pins s I => p.run pos pins s σ H Q I h
theorem GoI.of {tg iter : Expr} {t : TI} {R : It → Hp → Prop} (p : PI X tg iter t) (h : t σ H R) : GoI X tg iter σ H R := fun pins s I => p.run pins s σ H R I h
theorem GoS.of {t : TS} (p : PSs X sts t) (h : t D σ H) : GoS X sts D σ H := fun pins s I => p.run pins s σ H D I h
theorem GoS.cons {t : TS} (p : PS X st t) (h : t { D with nx := GoS X rest D } σ H) : GoS X (st :: rest) D σ H := GoS.of (pss_cons p pss_go) h
theorem GoS.nil (h : D.nx σ H) : GoS X [] D σ H := GoS.of pss_nil h
theorem GoS.mono {D' : Ends} (h : GoS X sts D σ H) (n : ∀ σ H, D.nx σ H → D'.nx σ H) (r : ∀ v H, D.rt v H → D'.rt v H) (b : ∀ σ H, D.bk σ H → D'.bk σ H) (c : ∀ σ H, D.ct σ H → D'.ct σ H) : GoS X sts D' σ H := fun pins s I =>
  thn (h pins s I) fun f s' q => by
    cases f with
    | next => obtain ⟨σ', H', I, q⟩ := q; exact ⟨σ', H', I, n _ _ q⟩
    | brk => obtain ⟨σ', H', I, q⟩ := q; exact ⟨σ', H', I, b _ _ q⟩
    | cont => obtain ⟨σ', H', I, q⟩ := q; exact ⟨σ', H', I, c _ _ q⟩
    | ret u => obtain ⟨v, σ', H', I, r', q⟩ := q; exact ⟨v, σ', H', I, r', r _ _ q⟩

/-! ### e is worth x -/
def Ev {α : Type} [Rp α] (X : Cx) (e : Expr) (σ : L2.St) (F H : Hp) (x : α) : Prop := ∀ F1 H1, Gr F H F1 H1 → ∀ Q : VK, (∀ v F2 H2, Gr F1 H1 F2 H2 → rp X.K F2 v x → Q v H2) → GoE X e σ H1 Q
def EvT (X : Cx) (e : Expr) (σ : L2.St) (F H : Hp) (b : Bool) : Prop := ∀ F1 H1, Gr F H F1 H1 → ∀ Q : Bool → Hp → Prop, (∀ F2 H2, Gr F1 H1 F2 H2 → Q b H2) → GoT X e σ H1 Q
def EvA {τ : Type} [Ra τ] (X : Cx) (es : List Expr) (σ : L2.St) (F H : Hp) (x : τ) : Prop := ∀ F1 H1, Gr F H F1 H1 → ∀ Q : List V → Hp → Prop, (∀ vs F2 H2, Gr F1 H1 F2 H2 → ra X.K F2 vs x → Q vs H2) → GoA X es σ H1 Q
theorem Ev.up {α : Type} [Rp α] {x : α} {F' H' : Hp} (h : Ev X e σ F H x) (g : Gr F H F' H') : Ev X e σ F' H' x := fun F1 H1 g1 => h F1 H1 (g.trans g1)
theorem EvT.up {b : Bool} {F' H' : Hp} (h : EvT X e σ F H b) (g : Gr F H F' H') : EvT X e σ F' H' b := fun F1 H1 g1 => h F1 H1 (g.trans g1)

theorem ev_var {α : Type} [Rp α] {x : α} {v : V} (i : Nat) {n : Str} {pos : Pos} (hs : σ[i]? = some (some v)) (h : rp X.K F v x) (hN : X.N[i]? = some n := by rfl) (hv : Vis X.env.scope n := by first | exact Or.inl rfl | exact Or.inr (Or.inl rfl) | exact Or.inr (Or.inr rfl))
    (hd : (n == ("__debug__" : Str)) = false := by decide) (hcd : (n == ("__classdict__" : Str)) = false := by decide) : Ev X (.Name n pos) σ F H x := fun F1 H1 g Q q =>
  GoE.of (pe_var hN hv hd hcd) ⟨v, hs, q v F1 H1 (.refl g.fh) (Rp.mono g.ff h)⟩
theorem ev_int {i : Int} {j : Nat} {pos : Pos} : Ev X (.Constant (.int i) j pos) σ F H i := fun F1 H1 g Q q => GoE.of pe_int (q (.int i) F1 H1 (.refl g.fh) rfl)
theorem ev_bl {i : Bool} {j : Nat} {pos : Pos} : Ev X (.Constant (.bool i) j pos) σ F H i := fun F1 H1 g Q q => GoE.of pe_bl (q (.bl i) F1 H1 (.refl g.fh) rfl)
theorem ev_str {i : Str} {j : Nat} {pos : Pos} : Ev X (.Constant (.str i) j pos) σ F H i := fun F1 H1 g Q q => GoE.of pe_str (q (.str i) F1 H1 (.refl g.fh) rfl)
theorem ev_unit {j : Nat} {pos : Pos} : Ev X (.Constant .none j pos) σ F H () := fun F1 H1 g Q q => GoE.of pe_non (q .non F1 H1 (.refl g.fh) rfl)
theorem ev_none {α : Type} [Rp α] [NN α] {j : Nat} {pos : Pos} : Ev X (.Constant .none j pos) σ F H (none : Option α) := fun F1 H1 g Q q => GoE.of pe_non (q .non F1 H1 (.refl g.fh) rfl)
theorem Ev.some {α : Type} [Rp α] [NN α] {x : α} (h : Ev X e σ F H x) : Ev X e σ F H (some x) := fun F1 H1 g Q q => h F1 H1 g Q q
/-- a module's constant -/
theorem ev_glob {α : Type} [Rp α] {c : α} {x : Str} {v : V} {u : Value} {pos : Pos} (hm : X.mg x = some u) (r : RelV v u) (h : ∀ F, rp X.K F v c) (hg : Gl X x := by rfl) (hd : (x == ("__debug__" : Str)) = false := by decide) : Ev X (.Name x pos) σ F H c := fun F1 H1 g Q q =>
  GoE.of (pe_glob hg hm r hd) (q v F1 H1 (.refl g.fh) (h F1))

/-! ### args -/
theorem ea_nil : EvA X [] σ F H () := fun F1 H1 g Q q => GoA.of pa_nil (q [] F1 H1 (.refl g.fh) rfl)
theorem ea_cons {α τ : Type} [Rp α] [Ra τ] {x : α} {y : τ} (ha : Ev X e σ F H x) (hr : EvA X es σ F H y) (hs : starEach (e :: es) X.env = (false, eval e X.env) :: starEach es X.env := by rfl) : EvA X (e :: es) σ F H (x, y) := fun F1 H1 g Q q =>
  GoA.of (pa_cons pe_go pa_go hs) (ha F1 H1 g _ fun v F2 H2 g2 r2 => hr F2 H2 (g.trans g2) _ fun vs F3 H3 g3 r3 => q _ F3 H3 (g2.trans g3) ⟨v, vs, rfl, Rp.mono g3.ff r2, r3⟩)

/-! ### two operands, by values -/
/-- the rule r gives z for x and y -/
def Op2 {α β γ : Type} [Rp α] [Rp β] [Rp γ] (K : PySem.W.Frag) (r : R2) (x : α) (y : β) (z : γ) : Prop := ∀ (F H : Hp) (v w : V) (Q : VK), L2.Same F H → rp K F v x → rp K F w y → (∀ u F' H', Gr F H F' H' → rp K F' u z → Q u H') → r v w H Q
theorem ev_bin {α β γ : Type} [Rp α] [Rp β] [Rp γ] {x : α} {y : β} {z : γ} {a b : Expr} {op : Operator} {pos : Pos} {r : R2} (ho : OpR X (binaryOp op) r) (hr : Op2 X.K r x y z) (ha : Ev X a σ F H x) (hb : Ev X b σ F H y) : Ev X (.BinOp a op b pos) σ F H z := fun F1 H1 g Q q =>
  GoE.of (pe_op ho pe_go pe_go) (ha F1 H1 g _ fun v F2 H2 g2 r2 => hb F2 H2 (g.trans g2) _ fun w F3 H3 g3 r3 => hr F3 H3 v w Q g3.fh (Rp.mono g3.ff r2) r3 fun u F4 H4 g4 r4 => q u F4 H4 ((g2.trans g3).trans g4) r4)
theorem ev_cmp {α β : Type} [Rp α] [Rp β] {x : α} {y : β} {z : Bool} {a b : Expr} {op : CmpOp} {pos : Pos} {r : R2} (ho : OpR X (compareOp op) r) (hr : Op2 X.K r x y z) (ha : Ev X a σ F H x) (hb : Ev X b σ F H y) (hm : behindInMarks op b = false) : Ev X (.Compare a [op] [b] pos) σ F H z := fun F1 H1 g Q q =>
  GoE.of (pe_cmpR ho pe_go pe_go hm) (ha F1 H1 g _ fun v F2 H2 g2 r2 => hb F2 H2 (g.trans g2) _ fun w F3 H3 g3 r3 => hr F3 H3 v w Q g3.fh (Rp.mono g3.ff r2) r3 fun u F4 H4 g4 r4 => q u F4 H4 ((g2.trans g3).trans g4) r4)
theorem et_cmp {α β : Type} [Rp α] [Rp β] {x : α} {y : β} {z : Bool} {a b : Expr} {op : CmpOp} {pos : Pos} {r : R2} (ho : OpR X (compareOp op) r) (hr : Op2 X.K r x y z) (ha : Ev X a σ F H x) (hb : Ev X b σ F H y) (hm : behindInMarks op b = false) : EvT X (.Compare a [op] [b] pos) σ F H z := fun F1 H1 g Q q =>
  GoT.of (pt_cmpR ho pe_go pe_go hm) (ha F1 H1 g _ fun v F2 H2 g2 r2 => hb F2 H2 (g.trans g2) _ fun w F3 H3 g3 r3 => hr F3 H3 v w _ g3.fh (Rp.mono g3.ff r2) r3 fun u F4 H4 g4 r4 => by
    have r4 : u = .bl z := r4
    subst r4
    exact ⟨z, rfl, q F4 H4 ((g2.trans g3).trans g4)⟩)
theorem ev_chain {α β γ : Type} [Rp α] [Rp β] [Rp γ] {x : α} {y : β} {z : γ} {p q : Bool} {a b c : Expr} {op op' : CmpOp} {pos : Pos} {r r' : R2} (ho : OpR X (compareOp op) r) (ho' : OpR X (compareOp op') r') (hr : Op2 X.K r x y p) (hr' : Op2 X.K r' y z q)
    (ha : Ev X a σ F H x) (hb : Ev X b σ F H y) (hc : Ev X c σ F H z) (hm : lastMarks [op, op'] [b, c] = false := by with_unfolding_all rfl) : Ev X (.Compare a [op, op'] [b, c] pos) σ F H (p && q) := fun F1 H1 g Q k =>
  GoE.of (pe_chain ho ho' pe_go pe_go pe_go hm) (ha F1 H1 g _ fun v F2 H2 g2 r2 => hb F2 H2 (g.trans g2) _ fun w F3 H3 g3 r3 => hr F3 H3 v w _ g3.fh (Rp.mono g3.ff r2) r3 fun u F4 H4 g4 r4 => by
    have r4 : u = .bl p := r4
    subst r4
    refine ⟨p, rfl, ?_⟩
    cases p with
    | true =>
      rw [if_pos rfl]
      exact hc F4 H4 (((g.trans g2).trans g3).trans g4) _ fun w' F5 H5 g5 r5 => hr' F5 H5 w w' _ g5.fh (Rp.mono (g4.ff.trans g5.ff) r3) r5 fun u' F6 H6 g6 r6 => k u' F6 H6 ((((g2.trans g3).trans g4).trans g5).trans g6) r6
    | false =>
      rw [if_neg Bool.false_ne_true]
      exact k _ F4 H4 ((g2.trans g3).trans g4) rfl)
end
end Gx

/-! Gy: operations. -/
namespace Gx
open PySem PySem.Spec PyProof.Rows L2
open Rp (rp)
open Ra (ra)
section
variable {X : Cx} {K : PySem.W.Frag} {e a b c d : Expr} {es : List Expr} {σ : L2.St} {F H : Hp} {pos : Pos}
/-! ### ints -/
theorem o2_I0 {γ : Type} [Rp γ] {g : Int → Int → V} {x y : Int} {z : γ} (h : ∀ F, rp K F (g x y) z) : Op2 K (rI0 g) x y z := fun F H v w Q s rv rw k => ⟨x, y, rv, rw, k _ F H (.refl s) (h F)⟩
theorem o2_I {γ : Type} [Rp γ] {C : Int → Int → Prop} {g : Int → Int → V} {x y : Int} {z : γ} (hc : C x y) (h : ∀ F, rp K F (g x y) z) : Op2 K (rI C g) x y z := fun F H v w Q s rv rw k => ⟨x, y, rv, rw, hc, k _ F H (.refl s) (h F)⟩
theorem ev_add {x y : Int} (ha : Ev X a σ F H x) (hb : Ev X b σ F H y) : Ev X (.BinOp a .Add b pos) σ F H (x + y) := ev_bin op_add (o2_I0 fun _ => rfl) ha hb
theorem ev_sub {x y : Int} (ha : Ev X a σ F H x) (hb : Ev X b σ F H y) : Ev X (.BinOp a .Sub b pos) σ F H (x - y) := ev_bin op_sub (o2_I0 fun _ => rfl) ha hb
theorem ev_mul {x y : Int} (ha : Ev X a σ F H x) (hb : Ev X b σ F H y) (h : CMul x y) : Ev X (.BinOp a .Mult b pos) σ F H (x * y) := ev_bin op_mul (o2_I h fun _ => rfl) ha hb
theorem ev_div {x y : Int} (ha : Ev X a σ F H x) (hb : Ev X b σ F H y) (h : CDiv x y) : Ev X (.BinOp a .FloorDiv b pos) σ F H (x / y) := ev_bin op_fdiv (o2_I h fun _ => rfl) ha hb
theorem ev_mod {x y : Int} (ha : Ev X a σ F H x) (hb : Ev X b σ F H y) (h : 0 < y) : Ev X (.BinOp a .Mod b pos) σ F H (x % y) := ev_bin op_mod (o2_I h fun _ => rfl) ha hb
theorem ev_powc {x y z : Int} (ha : Ev X a σ F H x) (hb : Ev X b σ F H y) (h : CPow x y) (hz : x ^ y.toNat = z) : Ev X (.BinOp a .Pow b pos) σ F H z := ev_bin op_pow (o2_I h fun _ => congrArg V.int hz) ha hb
theorem ev_neg {x : Int} (ha : Ev X a σ F H x) : Ev X (.UnaryOp .USub a pos) σ F H (-x) := fun F1 H1 g Q q => GoE.of (pe_un un_neg pe_go) (ha F1 H1 g _ fun v F2 H2 g2 r2 => ⟨x, r2, q _ F2 H2 g2 rfl⟩)
theorem CMul.l {i j : Int} (h : -(2 ^ 64) < i ∧ i < 2 ^ 64) : CMul i j := .inl h
theorem CMul.r {i j : Int} (h : -(2 ^ 64) < j ∧ j < 2 ^ 64) : CMul i j := .inr h
/-- a guarded product, quotient, rest -/
instance (i j : Int) : Decidable (CMul i j) := inferInstanceAs (Decidable (_ ∨ _))
instance (i j : Int) : Decidable (CDiv i j) := inferInstanceAs (Decidable (_ ∧ _))
instance (i j : Int) : Decidable (CPow i j) := inferInstanceAs (Decidable (_ ∧ _ ∧ _))
def mulG (i j : Int) : Option Int := if CMul i j then some (i * j) else none
def divG (i j : Int) : Option Int := if CDiv i j then some (i / j) else none
def modG (i j : Int) : Option Int := if 0 < j then some (i % j) else none
theorem mulG_of {i j r : Int} (h : mulG i j = some r) : CMul i j ∧ i * j = r := by
  unfold mulG at h; split at h
  · exact ⟨by assumption, Option.some.inj h⟩
  · cases h
theorem divG_of {i j r : Int} (h : divG i j = some r) : CDiv i j ∧ i / j = r := by
  unfold divG at h; split at h
  · exact ⟨by assumption, Option.some.inj h⟩
  · cases h
theorem modG_of {i j r : Int} (h : modG i j = some r) : 0 < j ∧ i % j = r := by
  unfold modG at h; split at h
  · exact ⟨by assumption, Option.some.inj h⟩
  · cases h
theorem ev_mulG {x y r : Int} (ha : Ev X a σ F H x) (hb : Ev X b σ F H y) (h : mulG x y = some r) : Ev X (.BinOp a .Mult b pos) σ F H r := by
  obtain ⟨c, rfl⟩ := mulG_of h; exact ev_mul ha hb c
theorem ev_divG {x y r : Int} (ha : Ev X a σ F H x) (hb : Ev X b σ F H y) (h : divG x y = some r) : Ev X (.BinOp a .FloorDiv b pos) σ F H r := by
  obtain ⟨c, rfl⟩ := divG_of h; exact ev_div ha hb c
theorem ev_modG {x y r : Int} (ha : Ev X a σ F H x) (hb : Ev X b σ F H y) (h : modG x y = some r) : Ev X (.BinOp a .Mod b pos) σ F H r := by
  obtain ⟨c, rfl⟩ := modG_of h; exact ev_mod ha hb c
/-! ### comparisons -/
theorem o2_lt {x y : Int} : Op2 K (rI0 fun i j => .bl (decide (i < j))) x y (decide (x < y)) := o2_I0 fun _ => rfl
theorem o2_le {x y : Int} : Op2 K (rI0 fun i j => .bl (decide (i ≤ j))) x y (decide (x ≤ y)) := o2_I0 fun _ => rfl
theorem o2_gt {x y : Int} : Op2 K (rI0 fun i j => .bl (decide (j < i))) x y (decide (y < x)) := o2_I0 fun _ => rfl
theorem o2_ge {x y : Int} : Op2 K (rI0 fun i j => .bl (decide (j ≤ i))) x y (decide (y ≤ x)) := o2_I0 fun _ => rfl
/-- scalars that == tells apart -/
class Sc (α : Type) [Rp α] [DecidableEq α] : Prop where
  sc : ∀ {K : PySem.W.Frag} {F : Hp} {v w : V} {x y : α}, rp K F v x → rp K F w y → scal v w = true ∧ decide (v = w) = decide (x = y)
instance : Sc Int := ⟨fun {K F v w x y} h1 h2 => by
  have h1 : v = .int x := h1
  have h2 : w = .int y := h2
  subst h1; subst h2
  exact ⟨rfl, by simp⟩⟩
instance : Sc Str := ⟨fun {K F v w x y} h1 h2 => by
  have h1 : v = .str x := h1
  have h2 : w = .str y := h2
  subst h1; subst h2
  exact ⟨rfl, by simp⟩⟩
instance : Sc Bool := ⟨fun {K F v w x y} h1 h2 => by
  have h1 : v = .bl x := h1
  have h2 : w = .bl y := h2
  subst h1; subst h2
  exact ⟨rfl, by simp⟩⟩
theorem o2_eq {α : Type} [Rp α] [DecidableEq α] [Sc α] {x y : α} : Op2 K rEq x y (decide (x = y)) := fun F H v w Q s rv rw k => by
  obtain ⟨h1, h2⟩ := Sc.sc rv rw
  exact ⟨h1, k _ F H (.refl s) (congrArg V.bl h2)⟩
theorem o2_ne {α : Type} [Rp α] [DecidableEq α] [Sc α] {x y : α} : Op2 K rNe x y (!decide (x = y)) := fun F H v w Q s rv rw k => by
  obtain ⟨h1, h2⟩ := Sc.sc rv rw
  exact ⟨h1, k _ F H (.refl s) (congrArg (fun t => V.bl (!t)) h2)⟩
theorem ev_isNone {α : Type} [Rp α] [NN α] {x : Option α} {j : Nat} {pos' : Pos} (ha : Ev X a σ F H x) : Ev X (.Compare a [.Is] [.Constant .none j pos'] pos) σ F H x.isNone := fun F1 H1 g Q q =>
  GoE.of (pe_cmp (pc_isN pe_go) rfl) (ha F1 H1 g _ fun v F2 H2 g2 r2 => q _ F2 H2 g2 (congrArg V.bl (rp_isNone r2)))
theorem ev_notNone {α : Type} [Rp α] [NN α] {x : Option α} {j : Nat} {pos' : Pos} (ha : Ev X a σ F H x) : Ev X (.Compare a [.IsNot] [.Constant .none j pos'] pos) σ F H (!x.isNone) := fun F1 H1 g Q q =>
  GoE.of (pe_cmp (pc_notN pe_go) rfl) (ha F1 H1 g _ fun v F2 H2 g2 r2 => q _ F2 H2 g2 (congrArg (fun t => V.bl (!t)) (rp_isNone r2)))
theorem et_isNone {α : Type} [Rp α] [NN α] {x : Option α} {j : Nat} {pos' : Pos} (ha : Ev X a σ F H x) : EvT X (.Compare a [.Is] [.Constant .none j pos'] pos) σ F H x.isNone := fun F1 H1 g Q q =>
  GoT.of (pt_cmp (pc_isN pe_go) rfl) (ha F1 H1 g _ fun v F2 H2 g2 r2 => ⟨x.isNone, congrArg V.bl (rp_isNone r2), q F2 H2 g2⟩)
theorem et_notNone {α : Type} [Rp α] [NN α] {x : Option α} {j : Nat} {pos' : Pos} (ha : Ev X a σ F H x) : EvT X (.Compare a [.IsNot] [.Constant .none j pos'] pos) σ F H (!x.isNone) := fun F1 H1 g Q q =>
  GoT.of (pt_cmp (pc_notN pe_go) rfl) (ha F1 H1 g _ fun v F2 H2 g2 r2 => ⟨!x.isNone, congrArg (fun t => V.bl (!t)) (rp_isNone r2), q F2 H2 g2⟩)
/-! ### tests -/
theorem et_val {x : Bool} (h : Ev X e σ F H x) (he : ∀ whole, isTrue e X.env whole = (do let v ← whole; standAt e.pos; holding [v] (truthy v)) := by intro _; rfl) : EvT X e σ F H x := fun F1 H1 g Q q =>
  GoT.of (pt_val pe_go he) (h F1 H1 g _ fun v F2 H2 g2 r2 => ⟨x, r2, q F2 H2 g2⟩)
theorem et_not {x : Bool} (h : EvT X a σ F H x) : EvT X (.UnaryOp .Not a pos) σ F H (!x) := fun F1 H1 g Q q => GoT.of (pt_not pt_go) (h F1 H1 g _ fun F2 H2 g2 => q F2 H2 g2)
theorem ev_not {x : Bool} (h : Ev X a σ F H x) : Ev X (.UnaryOp .Not a pos) σ F H (!x) := fun F1 H1 g Q q => GoE.of (pe_not pe_go) (h F1 H1 g _ fun v F2 H2 g2 r2 => ⟨x, r2, q _ F2 H2 g2 rfl⟩)
def GoW (X : Cx) (e : Expr) : TT := fun σ H Q => ∀ whole pins s, Inv X pins σ H s → wpAny (model X.prog X.w) X.A (isTrue e X.env whole) (TP X pins σ Q) X.xe s
theorem pw_go : PW X e (GoW X e) := ⟨fun wh pins s σ H Q I h => h wh pins s I⟩
theorem GoW.of {t : TT} {Q : Bool → Hp → Prop} (p : PW X e t) (h : t σ H Q) : GoW X e σ H Q := fun wh pins s I => p.run wh pins s σ H Q I h
def EvW (X : Cx) (e : Expr) (σ : L2.St) (F H : Hp) (b : Bool) : Prop := ∀ F1 H1, Gr F H F1 H1 → ∀ Q : Bool → Hp → Prop, (∀ F2 H2, Gr F1 H1 F2 H2 → Q b H2) → GoW X e σ H1 Q
theorem EvW.t {x : Bool} (h : EvW X e σ F H x) : EvT X e σ F H x := fun F1 H1 g Q q => GoT.of (PW.pt pw_go) (h F1 H1 g Q q)
theorem EvW.cg {x y : Bool} (h : x = y) (r : EvW X e σ F H x) : EvW X e σ F H y := h ▸ r
theorem EvT.cg {x y : Bool} (h : x = y) (r : EvT X e σ F H x) : EvT X e σ F H y := h ▸ r
theorem Ev.cg {α : Type} [Rp α] {x y : α} (h : x = y) (r : Ev X e σ F H x) : Ev X e σ F H y := h ▸ r
theorem ew_and1 {x : Bool} (h : EvT X a σ F H x) : EvW X (.BoolOp .And [a] pos) σ F H x := fun F1 H1 g Q q => GoW.of (pw_and1 pt_go) (h F1 H1 g Q q)
theorem ew_or1 {x : Bool} (h : EvT X a σ F H x) : EvW X (.BoolOp .Or [a] pos) σ F H x := fun F1 H1 g Q q => GoW.of (pw_or1 pt_go) (h F1 H1 g Q q)
theorem ew_and {x r : Bool} {rest : List Expr} (ha : EvT X a σ F H x) (hb : x = true → EvW X (.BoolOp .And (b :: rest) pos) σ F H r) (hn : x = false → r = false) : EvW X (.BoolOp .And (a :: b :: rest) pos) σ F H r := fun F1 H1 g Q q =>
  GoW.of (pw_and pt_go pw_go) (ha F1 H1 g _ fun F2 H2 g2 => by
    cases x with
    | true => rw [if_pos rfl]; exact hb rfl F2 H2 (g.trans g2) Q fun F3 H3 g3 => q F3 H3 (g2.trans g3)
    | false =>
      rw [if_neg Bool.false_ne_true]
      have e := hn rfl
      subst e
      exact q F2 H2 g2)
theorem ew_or {x r : Bool} {rest : List Expr} (ha : EvT X a σ F H x) (hb : x = false → EvW X (.BoolOp .Or (b :: rest) pos) σ F H r) (hn : x = true → r = true) : EvW X (.BoolOp .Or (a :: b :: rest) pos) σ F H r := fun F1 H1 g Q q =>
  GoW.of (pw_or pt_go pw_go) (ha F1 H1 g _ fun F2 H2 g2 => by
    cases x with
    | false => rw [if_neg Bool.false_ne_true]; exact hb rfl F2 H2 (g.trans g2) Q fun F3 H3 g3 => q F3 H3 (g2.trans g3)
    | true =>
      rw [if_pos rfl]
      have e := hn rfl
      subst e
      exact q F2 H2 g2)
theorem ew_andP {x y : Bool} {rest : List Expr} (ha : EvT X a σ F H x) (hb : EvW X (.BoolOp .And (b :: rest) pos) σ F H y) : EvW X (.BoolOp .And (a :: b :: rest) pos) σ F H (x && y) :=
  ew_and ha (fun h => by subst h; exact hb) (fun h => by subst h; rfl)
theorem ew_orP {x y : Bool} {rest : List Expr} (ha : EvT X a σ F H x) (hb : EvW X (.BoolOp .Or (b :: rest) pos) σ F H y) : EvW X (.BoolOp .Or (a :: b :: rest) pos) σ F H (x || y) :=
  ew_or ha (fun h => by subst h; exact hb) (fun h => by subst h; rfl)
theorem ev_one {α : Type} [Rp α] {x : α} {op : BoolOp} (h : Ev X a σ F H x) : Ev X (.BoolOp op [a] pos) σ F H x := fun F1 H1 g Q q => GoE.of (pe_one pe_go) (h F1 H1 g Q q)
theorem ev_and {x r : Bool} {rest : List Expr} (ha : Ev X a σ F H x) (hb : x = true → Ev X (.BoolOp .And (b :: rest) pos) σ F H r) (hn : x = false → r = false) : Ev X (.BoolOp .And (a :: b :: rest) pos) σ F H r := fun F1 H1 g Q q =>
  GoE.of (pe_and pe_go pe_go) (ha F1 H1 g _ fun v F2 H2 g2 r2 => ⟨x, r2, by
    cases x with
    | true => rw [if_pos rfl]; exact hb rfl F2 H2 (g.trans g2) Q fun v F3 H3 g3 => q v F3 H3 (g2.trans g3)
    | false =>
      rw [if_neg Bool.false_ne_true]
      have e := hn rfl
      subst e
      exact q _ F2 H2 g2 rfl⟩)
theorem ev_or {x r : Bool} {rest : List Expr} (ha : Ev X a σ F H x) (hb : x = false → Ev X (.BoolOp .Or (b :: rest) pos) σ F H r) (hn : x = true → r = true) : Ev X (.BoolOp .Or (a :: b :: rest) pos) σ F H r := fun F1 H1 g Q q =>
  GoE.of (pe_or pe_go pe_go) (ha F1 H1 g _ fun v F2 H2 g2 r2 => ⟨x, r2, by
    cases x with
    | false => rw [if_neg Bool.false_ne_true]; exact hb rfl F2 H2 (g.trans g2) Q fun v F3 H3 g3 => q v F3 H3 (g2.trans g3)
    | true =>
      rw [if_pos rfl]
      have e := hn rfl
      subst e
      exact q _ F2 H2 g2 rfl⟩)
theorem ev_andP {x y : Bool} {rest : List Expr} (ha : Ev X a σ F H x) (hb : Ev X (.BoolOp .And (b :: rest) pos) σ F H y) : Ev X (.BoolOp .And (a :: b :: rest) pos) σ F H (x && y) :=
  ev_and ha (fun h => by subst h; exact hb) (fun h => by subst h; rfl)
theorem ev_orP {x y : Bool} {rest : List Expr} (ha : Ev X a σ F H x) (hb : Ev X (.BoolOp .Or (b :: rest) pos) σ F H y) : Ev X (.BoolOp .Or (a :: b :: rest) pos) σ F H (x || y) :=
  ev_or ha (fun h => by subst h; exact hb) (fun h => by subst h; rfl)
theorem ev_if {α : Type} [Rp α] {x : α} {t : Bool} (hc : EvT X c σ F H t) (ha : t = true → Ev X a σ F H x) (hb : t = false → Ev X b σ F H x) : Ev X (.IfExp c a b pos) σ F H x := fun F1 H1 g Q q =>
  GoE.of (pe_ifExp pt_go pe_go pe_go) (hc F1 H1 g _ fun F2 H2 g2 => by
    cases t with
    | true => rw [if_pos rfl]; exact ha rfl F2 H2 (g.trans g2) Q fun v F3 H3 g3 => q v F3 H3 (g2.trans g3)
    | false => rw [if_neg Bool.false_ne_true]; exact hb rfl F2 H2 (g.trans g2) Q fun v F3 H3 g3 => q v F3 H3 (g2.trans g3))
theorem ev_ifP {α : Type} [Rp α] {x y : α} {t : Bool} (hc : EvT X c σ F H t) (ha : Ev X a σ F H x) (hb : Ev X b σ F H y) : Ev X (.IfExp c a b pos) σ F H (if t then x else y) :=
  ev_if hc (fun h => by subst h; exact ha) (fun h => by subst h; exact hb)

/-! ### items -/
theorem Rps.get {α : Type} [Rp α] : ∀ {vs : List V} {xs : List α} {i : Nat} {x : α}, Rps K F vs xs → xs[i]? = some x → ∃ v, vs[i]? = some v ∧ rp K F v x
  | _, _, _, _, .nil, e => by simp at e
  | _, _, 0, _, .cons r _, e => by simp at e; subst e; exact ⟨_, rfl, r⟩
  | _, _, i + 1, x, .cons _ t, e => by
    obtain ⟨u, h1, h2⟩ := Rps.get (i := i) (x := x) t (by simpa using e)
    exact ⟨u, by simpa using h1, h2⟩
theorem Rps.atI {α : Type} [Rp α] {vs : List V} {xs : List α} {i : Int} {x : α} (h : Rps K F vs xs) (e : atI xs i = some x) : ∃ v, L2.atI vs i = some v ∧ rp K F v x := by
  unfold L2.atI at e ⊢
  rw [h.length]
  cases q : ixN xs.length i with
  | none => rw [q] at e; cases e
  | some j =>
    rw [q] at e
    exact h.get e
theorem ev_ixL {α : Type} [Rp α] {xs : List α} {i : Int} {x : α} (ha : Ev X a σ F H xs) (hb : Ev X b σ F H i) (h : L2.atI xs i = some x) (hs : PlainIx b := by exact fun _ _ => rfl) : Ev X (.Subscript a b pos) σ F H x := fun F1 H1 g Q q =>
  GoE.of (pe_ix ix_list pe_go pe_go hs) (ha F1 H1 g _ fun v F2 H2 g2 r2 => hb F2 H2 (g.trans g2) _ fun w F3 H3 g3 r3 => by
    obtain ⟨p, vs, rfl, sq, rs⟩ := Rp.mono g3.ff r2
    obtain ⟨y, hy, ry⟩ := rs.atI h
    exact ⟨p, vs, i, y, rfl, r3, g3.fh.seq sq, hy, q y F3 H3 (g2.trans g3) ry⟩)
theorem ev_ixTp {α : Type} [Rp α] {xs : Tp α} {i : Int} {x : α} (ha : Ev X a σ F H xs) (hb : Ev X b σ F H i) (h : L2.atI xs.l i = some x) (hs : PlainIx b := by exact fun _ _ => rfl) : Ev X (.Subscript a b pos) σ F H x := fun F1 H1 g Q q =>
  GoE.of (pe_ix ix_tup pe_go pe_go hs) (ha F1 H1 g _ fun v F2 H2 g2 r2 => hb F2 H2 (g.trans g2) _ fun w F3 H3 g3 r3 => by
    obtain ⟨p, vs, rfl, sq, rs⟩ := Rp.mono g3.ff r2
    obtain ⟨y, hy, ry⟩ := rs.atI h
    exact ⟨p, vs, i, y, rfl, r3, seqT_mono g3.fh sq, hy, q y F3 H3 (g2.trans g3) ry⟩)
/-- the i-th of a row -/
def Proj {τ α : Type} [Ra τ] [Rp α] (i : Int) (y : τ) (x : α) : Prop := ∀ (K : PySem.W.Frag) (F : Hp) (vs : List V), ra K F vs y → ∃ v, L2.atI vs i = some v ∧ rp K F v x
theorem pj0 {α τ : Type} [Rp α] [Ra τ] {x : α} {y : τ} : Proj 0 (x, y) x := fun K F vs ⟨v, r, e, p, q⟩ => ⟨v, by subst e; show (ixN (r.length + 1) 0).bind _ = _; unfold ixN; rw [if_pos (by decide), if_pos (by omega)]; rfl, p⟩
theorem pj1 {α β τ : Type} [Rp α] [Rp β] [Ra τ] {x : α} {z : β} {y : τ} : Proj 1 (x, z, y) z := fun K F vs ⟨v, r, e, p, v', r', e', p', q⟩ => ⟨v', by subst e; subst e'; show (ixN (r'.length + 1 + 1) 1).bind _ = _; unfold ixN; rw [if_pos (by decide), if_pos (by omega)]; rfl, p'⟩
theorem pj2 {α β γ τ : Type} [Rp α] [Rp β] [Rp γ] [Ra τ] {x : α} {z : β} {u : γ} {y : τ} : Proj 2 (x, z, u, y) u := fun K F vs ⟨v, r, e, p, v', r', e', p', v2, r2, e2, p2, q⟩ => ⟨v2, by subst e; subst e'; subst e2; show (ixN (r2.length + 1 + 1 + 1) 2).bind _ = _; unfold ixN; rw [if_pos (by decide), if_pos (by omega)]; rfl, p2⟩
theorem pj3 {α β γ δ τ : Type} [Rp α] [Rp β] [Rp γ] [Rp δ] [Ra τ] {x : α} {z : β} {u : γ} {t : δ} {y : τ} : Proj 3 (x, z, u, t, y) t := fun K F vs ⟨v, r, e, p, v', r', e', p', v2, r2, e2, p2, v3, r3, e3, p3, q⟩ => ⟨v3, by subst e; subst e'; subst e2; subst e3; show (ixN (r3.length + 1 + 1 + 1 + 1) 3).bind _ = _; unfold ixN; rw [if_pos (by decide), if_pos (by omega)]; rfl, p3⟩
theorem pj4 {α β γ δ ε τ : Type} [Rp α] [Rp β] [Rp γ] [Rp δ] [Rp ε] [Ra τ] {x : α} {z : β} {u : γ} {t : δ} {t2 : ε} {y : τ} : Proj 4 (x, z, u, t, t2, y) t2 := fun K F vs ⟨v, r, e, p, v', r', e', p', v2, r2, e2, p2, v3, r3, e3, p3, v4, r4, e4, p4, q⟩ => ⟨v4, by subst e; subst e'; subst e2; subst e3; subst e4; show (ixN (r4.length + 1 + 1 + 1 + 1 + 1) 4).bind _ = _; unfold ixN; rw [if_pos (by decide), if_pos (by omega)]; rfl, p4⟩
/-- what stands as a tuple -/
class Tup (θ : Type) (τ : outParam Type) [Ra τ] [Rp θ] where
  row : θ → τ
  eq : ∀ {K : PySem.W.Frag} {F : Hp} {v : V} {x : θ}, rp K F v x ↔ rpT row K F v x
instance {α : Type} [Rp α] : Tup (T1 α) (α × Unit) := ⟨T1.row, Iff.rfl⟩
instance {α β : Type} [Rp α] [Rp β] : Tup (T2 α β) (α × β × Unit) := ⟨T2.row, Iff.rfl⟩
instance {α β γ : Type} [Rp α] [Rp β] [Rp γ] : Tup (T3 α β γ) (α × β × γ × Unit) := ⟨T3.row, Iff.rfl⟩
instance {α β γ δ : Type} [Rp α] [Rp β] [Rp γ] [Rp δ] : Tup (T4 α β γ δ) (α × β × γ × δ × Unit) := ⟨T4.row, Iff.rfl⟩
instance {α β γ δ ε : Type} [Rp α] [Rp β] [Rp γ] [Rp δ] [Rp ε] : Tup (T5 α β γ δ ε) (α × β × γ × δ × ε × Unit) := ⟨T5.row, Iff.rfl⟩
theorem ev_ixT {θ τ α : Type} [Ra τ] [Rp θ] [Tup θ τ] [Rp α] {t : θ} {i : Int} {x : α} (ha : Ev X a σ F H t) (hb : Ev X b σ F H i) (h : Proj i (Tup.row t) x) (hs : PlainIx b := by exact fun _ _ => rfl) : Ev X (.Subscript a b pos) σ F H x := fun F1 H1 g Q q =>
  GoE.of (pe_ix ix_tup pe_go pe_go hs) (ha F1 H1 g _ fun v F2 H2 g2 r2 => hb F2 H2 (g.trans g2) _ fun w F3 H3 g3 r3 => by
    obtain ⟨p, vs, rfl, sq, rs⟩ := Tup.eq.mp (Rp.mono g3.ff r2)
    obtain ⟨y, hy, ry⟩ := h _ _ _ rs
    exact ⟨p, vs, i, y, rfl, r3, seqT_mono g3.fh sq, hy, q y F3 H3 (g2.trans g3) ry⟩)
/-- a sign of a text -/
def sAt (z : Str) (i : Int) : Option Str := if z.length ≤ sizeLine then (L2.atI z.cps.toList i).map fun c => ⟨#[c]⟩ else none
theorem ev_ixS {z : Str} {i : Int} {x : Str} (ha : Ev X a σ F H z) (hb : Ev X b σ F H i) (h : sAt z i = some x) (hs : PlainIx b := by exact fun _ _ => rfl) : Ev X (.Subscript a b pos) σ F H x := fun F1 H1 g Q q =>
  GoE.of (pe_ix ix_str pe_go pe_go hs) (ha F1 H1 g _ fun v F2 H2 g2 r2 => hb F2 H2 (g.trans g2) _ fun w F3 H3 g3 r3 => by
    unfold sAt at h
    split at h
    · rename_i hz
      obtain ⟨c, hc, rfl⟩ := Option.map_eq_some_iff.mp h
      exact ⟨z, i, c, r2, r3, hz, hc, q _ F3 H3 (g2.trans g3) rfl⟩
    · cases h)
/-! ### slices -/
def GoO (X : Cx) (o : Option Expr) : TO := fun σ H Q => ∀ pins s, Inv X pins σ H s → wpAny (model X.prog X.w) X.A (evalPart o X.env) (fun u s' => ∃ o H', Inv X pins σ H' s' ∧ IsPart u o ∧ Q o H') X.xe s
theorem po_go {o : Option Expr} : PO X o (GoO X o) := ⟨fun pins s σ H Q I h => h pins s I⟩
theorem GoO.of {o : Option Expr} {t : TO} {Q : Option Int → Hp → Prop} (p : PO X o t) (h : t σ H Q) : GoO X o σ H Q := fun pins s I => p.run pins s σ H Q I h
def EvO (X : Cx) (o : Option Expr) (σ : L2.St) (F H : Hp) (i : Option Int) : Prop := ∀ F1 H1, Gr F H F1 H1 → ∀ Q : Option Int → Hp → Prop, (∀ F2 H2, Gr F1 H1 F2 H2 → Q i H2) → GoO X o σ H1 Q
theorem eo_none : EvO X none σ F H none := fun F1 H1 g Q q => GoO.of po_none (q F1 H1 (.refl g.fh))
theorem eo_some {i : Int} (h : Ev X e σ F H i) : EvO X (some e) σ F H (some i) := fun F1 H1 g Q q => GoO.of (po_some pe_go) (h F1 H1 g _ fun v F2 H2 g2 r2 => ⟨i, r2, q F2 H2 g2⟩)
/-- a part of a list -/
def cut {α : Type} (xs : List α) (lo hi : Option Int) : List α := (xs.drop (HT.sIx xs.length 0 lo)).take (HT.sIx xs.length xs.length hi - HT.sIx xs.length 0 lo)
theorem Rps.drop {α : Type} [Rp α] : ∀ {vs : List V} {xs : List α} (n : Nat), Rps K F vs xs → Rps K F (vs.drop n) (xs.drop n)
  | _, _, 0, h => h
  | _, _, _ + 1, .nil => .nil
  | _, _, n + 1, .cons _ t => Rps.drop n t
theorem Rps.take {α : Type} [Rp α] : ∀ {vs : List V} {xs : List α} (n : Nat), Rps K F vs xs → Rps K F (vs.take n) (xs.take n)
  | _, _, 0, _ => .nil
  | _, _, _ + 1, .nil => .nil
  | _, _, n + 1, .cons r t => .cons r (Rps.take n t)
theorem Rps.append {α : Type} [Rp α] : ∀ {vs ws : List V} {xs ys : List α}, Rps K F vs xs → Rps K F ws ys → Rps K F (vs ++ ws) (xs ++ ys)
  | _, _, _, _, .nil, s => s
  | _, _, _, _, .cons r t, s => .cons r (Rps.append t s)
theorem Rps.cut {α : Type} [Rp α] {vs : List V} {xs : List α} (h : Rps K F vs xs) (lo hi : Option Int) : Rps K F (cutV vs lo hi) (Gx.cut xs lo hi) := by
  unfold cutV Gx.cut
  rw [h.length]
  exact (h.drop _).take _

/-! ### a new list that is private so far -/
/-- e gives a new list of xs; nothing else knows it -/
def EvN {α : Type} [Rp α] (X : Cx) (e : Expr) (σ : L2.St) (F H : Hp) (xs : List α) : Prop := ∀ F1 H1, Gr F H F1 H1 → ∀ Q : VK, (∀ l vs F2 H2, Gr F1 H1 F2 H2 → H1 l = none → F2 l = none → H2 l = some (.lst vs) → Rps X.K F2 vs xs → Q (.ref l) H2) → GoE X e σ H1 Q
theorem Gr.freeze {F H : Hp} {F0 H0 : Hp} {l : Addr} {o : HO} (g : Gr F0 H0 F H) (n : H0 l = none) (hf : F l = none) (hl : H l = some o) : Gr F0 H0 (upd F l o) H := by
  refine ⟨fun b u e => ?_, fun b u e => ?_, g.hh, fun a h => ?_⟩
  · have e1 := g.ff b u e
    rw [upd_ne (ne_of_none e1 hf)]; exact e1
  · by_cases hb : b = l
    · subst hb; rw [upd_same] at e; rw [← e]; exact hl
    · rw [upd_ne hb] at e; exact g.fh _ _ e
  · by_cases hb : a = l
    · subst hb; exact absurd n h
    · rw [upd_ne hb]; exact g.fr a h
theorem same_upd {F : Hp} {l : Addr} {o : HO} (hf : F l = none) : L2.Same F (upd F l o) := fun b u e => by
  rw [upd_ne (ne_of_none e hf)]; exact e
theorem rp_lst {α : Type} [Rp α] {l : Addr} {vs : List V} {xs : List α} (hf : F l = none) (r : Rps K F vs xs) : rp K (upd F l (.lst vs)) (.ref l) xs := ⟨l, vs, rfl, SqL.of upd_same, r.mono (same_upd hf)⟩
theorem EvN.ev {α : Type} [Rp α] {xs : List α} (h : EvN X e σ F H xs) : Ev X e σ F H xs := fun F1 H1 g Q q => h F1 H1 g Q fun l vs F2 H2 g2 n2 f2 h2 r2 => q _ (upd F2 l (.lst vs)) H2 (g2.freeze n2 f2 h2) (rp_lst f2 r2)
theorem EvN.new {α : Type} [Rp α] {xs : List α} {F1 H1 : Hp} {Q : VK} {F2 H2 : Hp} {vs : List V} {p : Addr} (q : ∀ l vs F2 H2, Gr F1 H1 F2 H2 → H1 l = none → F2 l = none → H2 l = some (.lst vs) → Rps X.K F2 vs xs → Q (.ref l) H2)
    (g : Gr F1 H1 F2 H2) (hp : H2 p = none) (r : Rps X.K F2 vs xs) : Q (.ref p) (upd H2 p (.lst vs)) :=
  q p vs F2 _ (g.trans (Gr.newP g.fh hp)) (g.hh.free hp) (g.fh.free hp) upd_same r
theorem en_slice {α : Type} [Rp α] {xs : List α} {lo hi : Option Expr} {i j : Option Int} {p2 : Pos} (ha : Ev X a σ F H xs) (hl : EvO X lo σ F H i) (hh : EvO X hi σ F H j) : EvN X (.Subscript a (.Slice lo hi none p2) pos) σ F H (cut xs i j) := fun F1 H1 g Q q =>
  GoE.of (pe_slice sl_list pe_go po_go po_go) (ha F1 H1 g _ fun v F2 H2 g2 r2 => hl F2 H2 (g.trans g2) _ fun F3 H3 g3 => hh F3 H3 ((g.trans g2).trans g3) _ fun F4 H4 g4 => by
    obtain ⟨p, vs, rfl, sq, rs⟩ := Rp.mono (g3.ff.trans g4.ff) r2
    exact ⟨p, vs, rfl, g4.fh.seq sq, fun p hp => EvN.new q ((g2.trans g3).trans g4) hp (rs.cut i j)⟩)
/-- a part of a text -/
def sCut (z : Str) (lo hi : Option Int) : Option Str := if z.length ≤ sizeLine then some (cutS z lo hi) else none
theorem ev_sliceS {z : Str} {lo hi : Option Expr} {i j : Option Int} {p2 : Pos} {r : Str} (ha : Ev X a σ F H z) (hl : EvO X lo σ F H i) (hh : EvO X hi σ F H j) (h : sCut z i j = some r) : Ev X (.Subscript a (.Slice lo hi none p2) pos) σ F H r := fun F1 H1 g Q q =>
  GoE.of (pe_slice sl_str pe_go po_go po_go) (ha F1 H1 g _ fun v F2 H2 g2 r2 => hl F2 H2 (g.trans g2) _ fun F3 H3 g3 => hh F3 H3 ((g.trans g2).trans g3) _ fun F4 H4 g4 => by
    unfold sCut at h
    split at h
    · rename_i hz
      exact ⟨z, r2, hz, q _ F4 H4 ((g2.trans g3).trans g4) (congrArg V.str (Option.some.inj h))⟩
    · cases h)
/-! ### displays -/
def EvL {α : Type} [Rp α] (X : Cx) (es : List Expr) (σ : L2.St) (F H : Hp) (xs : List α) : Prop := ∀ F1 H1, Gr F H F1 H1 → ∀ Q : List V → Hp → Prop, (∀ vs F2 H2, Gr F1 H1 F2 H2 → Rps X.K F2 vs xs → Q vs H2) → GoA X es σ H1 Q
theorem el_nil {α : Type} [Rp α] : EvL X [] σ F H ([] : List α) := fun F1 H1 g Q q => GoA.of pa_nil (q [] F1 H1 (.refl g.fh) .nil)
theorem el_cons {α : Type} [Rp α] {x : α} {xs : List α} (ha : Ev X e σ F H x) (hr : EvL X es σ F H xs) (hs : starEach (e :: es) X.env = (false, eval e X.env) :: starEach es X.env := by rfl) : EvL X (e :: es) σ F H (x :: xs) := fun F1 H1 g Q q =>
  GoA.of (pa_cons pe_go pa_go hs) (ha F1 H1 g _ fun v F2 H2 g2 r2 => hr F2 H2 (g.trans g2) _ fun vs F3 H3 g3 r3 => q _ F3 H3 (g2.trans g3) (.cons (Rp.mono g3.ff r2) r3))
theorem en_list {α : Type} [Rp α] {xs : List α} (h : EvL X es σ F H xs) (hz : xs.length ≤ sizeLine) : EvN X (.List es pos) σ F H xs := fun F1 H1 g Q q =>
  GoE.of (pe_lst pa_go) (h F1 H1 g _ fun vs F2 H2 g2 r2 => ⟨by rw [r2.length]; exact hz, fun p hp => EvN.new q g2 hp r2⟩)
theorem ev_tp {α : Type} [Rp α] {xs : List α} {k : Nat} (h : EvL X es σ F H xs) (hz : xs.length ≤ sizeLine) : Ev X (.Tuple es k pos) σ F H (Tp.mk xs) := fun F1 H1 g Q q =>
  GoE.of (pe_tup pa_go) (h F1 H1 g _ fun vs F2 H2 g2 r2 => ⟨by rw [r2.length]; exact hz, fun p hp => q _ (upd F2 p (.tup vs)) _ (g2.trans (Gr.new g2.fh hp)) ⟨p, vs, rfl, SqT.of upd_same, r2.mono (same_upd (g2.fh.free hp))⟩⟩)
class RaN (τ : Type) [Ra τ] where
  n : Nat
  len : ∀ {K : PySem.W.Frag} {F : Hp} {vs : List V} {x : τ}, ra K F vs x → vs.length = n
instance : RaN Unit := ⟨0, fun {K F vs x} h => by
  have e : vs = [] := h
  rw [e]; rfl⟩
instance {α τ : Type} [Rp α] [Ra τ] [RaN τ] : RaN (α × τ) := ⟨RaN.n τ + 1, fun ⟨v, r, e, p, q⟩ => by rw [e, List.length_cons, RaN.len q]⟩
theorem ev_tup {θ τ : Type} [Ra τ] [RaN τ] [Rp θ] [Tup θ τ] {x : θ} {k : Nat} (h : EvA X es σ F H (Tup.row x)) (hz : RaN.n τ ≤ sizeLine) : Ev X (.Tuple es k pos) σ F H x := fun F1 H1 g Q q =>
  GoE.of (pe_tup pa_go) (h F1 H1 g _ fun vs F2 H2 g2 r2 => ⟨by rw [RaN.len r2]; exact hz, fun p hp => q _ (upd F2 p (.tup vs)) _ (g2.trans (Gr.new g2.fh hp)) (Tup.eq.mpr ⟨p, vs, rfl, SqT.of upd_same, Ra.mono (same_upd (g2.fh.free hp)) r2⟩)⟩)
theorem ev_tup2 {α β : Type} [Rp α] [Rp β] {x : α} {y : β} {k : Nat} (h : EvA X es σ F H (x, y, ())) : Ev X (.Tuple es k pos) σ F H (T2.mk x y) := ev_tup (θ := T2 α β) h (by show 2 ≤ sizeLine; decide)
theorem ev_tup3 {α β γ : Type} [Rp α] [Rp β] [Rp γ] {x : α} {y : β} {z : γ} {k : Nat} (h : EvA X es σ F H (x, y, z, ())) : Ev X (.Tuple es k pos) σ F H (T3.mk x y z) := ev_tup (θ := T3 α β γ) h (by show 3 ≤ sizeLine; decide)
theorem ev_tup4 {α β γ δ : Type} [Rp α] [Rp β] [Rp γ] [Rp δ] {x : α} {y : β} {z : γ} {u : δ} {k : Nat} (h : EvA X es σ F H (x, y, z, u, ())) : Ev X (.Tuple es k pos) σ F H (T4.mk x y z u) := ev_tup (θ := T4 α β γ δ) h (by show 4 ≤ sizeLine; decide)
theorem ev_tup1 {α : Type} [Rp α] {x : α} {k : Nat} (h : EvA X es σ F H (x, ())) : Ev X (.Tuple es k pos) σ F H (T1.mk x) := ev_tup (θ := T1 α) h (by show 1 ≤ sizeLine; decide)

/-! ### calls -/
/-- the promise: from arguments a with f a = some r a value of r; new things alone are made -/
def Pr (K : PySem.W.Frag) {τ ρ : Type} [Ra τ] [Rp ρ] (f : τ → Option ρ) : Sp := fun vs H Q _ => ∃ F a r, L2.Same F H ∧ ra K F vs a ∧ f a = some r ∧ ∀ F' H' u, Gr F H F' H' → rp K F' u r → Q u H'
theorem ev_call {τ ρ : Type} [Ra τ] [Rp ρ] {f : τ → Option ρ} {y : τ} {r : ρ} {k : Nat} {fa : Addr} {fd : FuncData} {ps : List Str} {x : Str} {p : Pos} (Fn : FnOk X.prog X.w X.K X.mg X.base CX0 k fa fd ps (Pr X.K f)) (hr : Room k X.A) (hm : X.mg x = some (.ref fa))
    (hk : PySem.W.keepIn X.K (.ref fa) = true) (hb : Binds X.K fd ps []) (ha : EvA X (e :: es) σ F H y) (h : f y = some r) (hg : Gl X x := by rfl) (hdb : (x == ("__debug__" : Str)) = false := by decide)
    (he : starEach (e :: es) X.env = (false, eval e X.env) :: starEach es X.env := by rfl) (hpl : (backTo pos (starEach es X.env)).any (·.1) = false := by rfl) : Ev X (.Call (.Name x p) (e :: es) [] pos) σ F H r := fun F1 H1 g Q q =>
  GoE.of (pe_call Fn hr hg hm hk hb .nil pass0 pa_go hdb he hpl) (ha F1 H1 g _ fun vs F2 H2 g2 r2 => ⟨F2, y, r, g2.fh, by rw [List.append_nil]; exact r2, h, fun F3 H3 u g3 r3 => q u F3 H3 (g2.trans g3) r3⟩)
theorem ev_call0 {ρ : Type} [Rp ρ] {f : Unit → Option ρ} {r : ρ} {k : Nat} {fa : Addr} {fd : FuncData} {ps : List Str} {x : Str} {p : Pos} (Fn : FnOk X.prog X.w X.K X.mg X.base CX0 k fa fd ps (Pr X.K f)) (hr : Room k X.A) (hm : X.mg x = some (.ref fa))
    (hk : PySem.W.keepIn X.K (.ref fa) = true) (hb : Binds X.K fd ps []) (h : f () = some r) (hg : Gl X x := by rfl) (hdb : (x == ("__debug__" : Str)) = false := by decide) : Ev X (.Call (.Name x p) [] [] pos) σ F H r := fun F1 H1 g Q q =>
  GoE.of (pe_call0 Fn hr hg hm hk hb .nil pass0 hdb) ⟨F1, (), r, g.fh, rfl, h, fun F3 H3 u g3 r3 => q u F3 H3 g3 r3⟩
/-- a built-in by its rule -/
def OpC {τ ρ : Type} [Ra τ] [Rp ρ] (K : PySem.W.Frag) (r : List V → Hp → VK → Prop) (y : τ) (z : ρ) : Prop := ∀ (F H : Hp) (vs : List V) (Q : VK), L2.Same F H → ra K F vs y → (∀ u F' H', Gr F H F' H' → rp K F' u z → Q u H') → r vs H Q
theorem ev_callB {τ ρ : Type} [Ra τ] [Rp ρ] {y : τ} {z : ρ} {id : String} {x : Str} {p : Pos} {r : List V → Hp → VK → Prop} (hc : CallR X (.builtin id) r) (ho : OpC X.K r y z) (hm : X.mg x = none) (hv : bootBuiltins x = some (.builtin id)) (ha : EvA X (e :: es) σ F H y) (hg : Gl X x := by rfl)
    (hn : x ≠ "__name__" := by decide) (hdb : (x == ("__debug__" : Str)) = false := by decide)
    (he : starEach (e :: es) X.env = (false, eval e X.env) :: starEach es X.env := by rfl) (hpl : (backTo pos (starEach es X.env)).any (·.1) = false := by rfl) : Ev X (.Call (.Name x p) (e :: es) [] pos) σ F H z := fun F1 H1 g Q q =>
  GoE.of (pe_callB hc hg hm hv pa_go hn hdb he hpl) (ha F1 H1 g _ fun vs F2 H2 g2 r2 => ho F2 H2 vs Q g2.fh r2 fun u F3 H3 g3 r3 => q u F3 H3 (g2.trans g3) r3)
theorem ev_callTy {τ ρ : Type} [Ra τ] [Rp ρ] {y : τ} {z : ρ} {T : String} {x : Str} {p : Pos} {r : List V → Hp → VK → Prop} (hc : CallR X (.type T) r) (ho : OpC X.K r y z) (hm : X.mg x = none) (hv : bootBuiltins x = some (.type T)) (ha : EvA X (e :: es) σ F H y) (hg : Gl X x := by rfl)
    (hn : x ≠ "__name__" := by decide) (hdb : (x == ("__debug__" : Str)) = false := by decide)
    (he : starEach (e :: es) X.env = (false, eval e X.env) :: starEach es X.env := by rfl) (hpl : (backTo pos (starEach es X.env)).any (·.1) = false := by rfl) : Ev X (.Call (.Name x p) (e :: es) [] pos) σ F H z := fun F1 H1 g Q q =>
  GoE.of (pe_callTy hc hg hm hv pa_go hn hdb he hpl) (ha F1 H1 g _ fun vs F2 H2 g2 r2 => ho F2 H2 vs Q g2.fh r2 fun u F3 H3 g3 r3 => q u F3 H3 (g2.trans g3) r3)
theorem oc1 {α ρ : Type} [Rp α] [Rp ρ] {r : List V → Hp → VK → Prop} {y : α} {z : ρ} (h : ∀ (F H : Hp) (v : V) (Q : VK), L2.Same F H → rp K F v y → (∀ u F' H', Gr F H F' H' → rp K F' u z → Q u H') → r [v] H Q) : OpC K r (y, ()) z :=
  fun F H vs Q s ⟨v, w, e, rv, rw'⟩ k => by
    have e2 : w = [] := rw'
    subst e2; subst e
    exact h F H v Q s rv k
theorem oc2 {α β ρ : Type} [Rp α] [Rp β] [Rp ρ] {r : List V → Hp → VK → Prop} {y : α} {y' : β} {z : ρ} (h : ∀ (F H : Hp) (v w : V) (Q : VK), L2.Same F H → rp K F v y → rp K F w y' → (∀ u F' H', Gr F H F' H' → rp K F' u z → Q u H') → r [v, w] H Q) : OpC K r (y, y', ()) z :=
  fun F H vs Q s ⟨v, w, e, rv, v2, w2, e3, rv2, rw'⟩ k => by
    have e2 : w2 = [] := rw'
    subst e2; subst e3; subst e
    exact h F H v v2 Q s rv rv2 k
theorem oc_lenL {α : Type} [Rp α] {xs : List α} : OpC K (fun vs H Q => ∃ p ys, vs = [.ref p] ∧ (SqL K H p ys ∨ SqT K H p ys) ∧ Q (.int ys.length) H) (xs, ()) (xs.length : Int) :=
  oc1 fun F H v Q s ⟨p, vs, e, sq, rs⟩ k => ⟨p, vs, by rw [e], .inl (s.seq sq), k _ F H (.refl s) (congrArg (fun n : Nat => V.int n) rs.length)⟩
theorem oc_lenTp {α : Type} [Rp α] {xs : Tp α} : OpC K (fun vs H Q => ∃ p ys, vs = [.ref p] ∧ (SqL K H p ys ∨ SqT K H p ys) ∧ Q (.int ys.length) H) (xs, ()) (xs.l.length : Int) :=
  oc1 fun F H v Q s ⟨p, vs, e, sq, rs⟩ k => ⟨p, vs, by rw [e], .inr (seqT_mono s sq), k _ F H (.refl s) (congrArg (fun n : Nat => V.int n) rs.length)⟩
theorem oc_lenT {θ τ : Type} [Ra τ] [RaN τ] [Rp θ] [Tup θ τ] {x : θ} : OpC K (fun vs H Q => ∃ p ys, vs = [.ref p] ∧ (SqL K H p ys ∨ SqT K H p ys) ∧ Q (.int ys.length) H) (x, ()) ((RaN.n τ : Nat) : Int) :=
  oc1 fun F H v Q s r k => by
    obtain ⟨p, vs, e, sq, rs⟩ := Tup.eq.mp r
    exact ⟨p, vs, by rw [e], .inr (seqT_mono s sq), k _ F H (.refl s) (congrArg (fun n : Nat => V.int n) (RaN.len rs))⟩
/-- the length of a text -/
def sLen (z : Str) : Option Int := if z.length ≤ sizeLine then some (z.length : Int) else none
theorem oc_lenS {z : Str} {r : Int} (h : sLen z = some r) : OpC K (fun xs H Q => ∃ z, xs = [.str z] ∧ z.length ≤ sizeLine ∧ Q (.int z.length) H) (z, ()) r :=
  oc1 fun F H v Q s e k => by
    have e : v = .str z := e
    unfold sLen at h
    split at h
    · rename_i hz
      exact ⟨z, by rw [e], hz, k _ F H (.refl s) (congrArg V.int (Option.some.inj h))⟩
    · cases h
theorem oc_list {α : Type} [Rp α] {xs : List α} : OpC K (fun vs H Q => ∃ p ys, vs = [.ref p] ∧ (SqL K H p ys ∨ SqT K H p ys) ∧ ∀ l, H l = none → Q (.ref l) (upd H l (.lst ys))) (xs, ()) xs :=
  oc1 fun F H v Q s ⟨p, vs, e, sq, rs⟩ k => ⟨p, vs, by rw [e], .inl (s.seq sq), fun l hl => k _ (upd F l (.lst vs)) _ (Gr.new s hl) (rp_lst (s.free hl) rs)⟩
/-! ### kinds -/
theorem isi_const {α : Type} [Rp α] {x : α} {T U : String} {r : Bool} (hx : ∀ {F H : Hp} {v : V}, L2.Same F H → rp K F v x → TyX K H v (.type U)) (h : kitB U T = some r) : ∀ (F H : Hp) (v : V) (Q : VK), L2.Same F H → rp K F v x → (∀ u F' H', Gr F H F' H' → rp K F' u r → Q u H') → rIsi K [v, .ty T] H Q :=
  fun F H v Q s rv k => ⟨v, .ty T, _, _, r, rfl, .ty T, hx s rv, kit_ty h, k _ F H (.refl s) rfl⟩
end
end Gx

/-! Gz: statements, loops, texts. -/
namespace Gx
open PySem PySem.Spec PyProof.Rows L2
open Rp (rp)
open Ra (ra)
section
variable {X : Cx} {K : PySem.W.Frag} {e a b c d : Expr} {es : List Expr} {σ : L2.St} {F H F0 H0 : Hp} {pos : Pos} {D : Ends} {st : Stmt} {rest body : List Stmt}
/-! ### statements -/
theorem go_set {α : Type} [Rp α] {x : α} {n : Str} {p : Pos} (i : Nat) (s : L2.Same F H) (he : Ev X e σ F H x) (k : ∀ v F' H', Gr F H F' H' → rp X.K F' v x → GoS X rest D (σ.set i (some v)) H') (hN : X.N.Nodup) (hi : X.N[i]? = some n := by rfl)
    (hx : Loc X.env.scope n := by first | exact Or.inl rfl | exact Or.inr rfl) (hs : swapsWith e (some (.Name n p)) pos.line X.env = pure false := by rfl) (hf : X.fn n = true ∨ X.env.scope.names.lookup n = some .local := by first | exact .inl rfl | exact .inr rfl) :
    GoS X (.Assign [.Name n p] e pos :: rest) D σ H :=
  GoS.cons (ps_set hN hi hx pe_go hs hf) (he F H (.refl s) _ fun v F2 H2 g r => k v F2 H2 g r)
theorem go_setN {α : Type} [Rp α] {xs : List α} {n : Str} {p : Pos} (i : Nat) (s : L2.Same F H) (he : EvN X e σ F H xs) (k : ∀ l vs F' H', Gr F H F' H' → H l = none → F' l = none → H' l = some (.lst vs) → Rps X.K F' vs xs → GoS X rest D (σ.set i (some (.ref l))) H') (hN : X.N.Nodup) (hi : X.N[i]? = some n := by rfl)
    (hx : Loc X.env.scope n := by first | exact Or.inl rfl | exact Or.inr rfl) (hs : swapsWith e (some (.Name n p)) pos.line X.env = pure false := by rfl) (hf : X.fn n = true ∨ X.env.scope.names.lookup n = some .local := by first | exact .inl rfl | exact .inr rfl) :
    GoS X (.Assign [.Name n p] e pos :: rest) D σ H :=
  GoS.cons (ps_set hN hi hx pe_go hs hf) (he F H (.refl s) _ fun l vs F2 H2 g n f h r => k l vs F2 H2 g n f h r)
theorem go_ret {α : Type} [Rp α] {x : α} (s : L2.Same F H) (he : Ev X e σ F H x) (k : ∀ v F' H', Gr F H F' H' → rp X.K F' v x → D.rt v H') : GoS X (.Return (some e) pos :: rest) D σ H :=
  GoS.cons (ps_ret pe_go) (he F H (.refl s) _ fun v F2 H2 g r => k v F2 H2 g r)
theorem go_retN (k : D.rt .non H) : GoS X (.Return none pos :: rest) D σ H := GoS.cons ps_retN k
theorem go_brk (k : D.bk σ H) : GoS X (.Break pos :: rest) D σ H := GoS.cons ps_break k
theorem go_cont (k : D.ct σ H) : GoS X (.Continue pos :: rest) D σ H := GoS.cons ps_continue k
theorem go_pass (k : GoS X rest D σ H) : GoS X (.Pass pos :: rest) D σ H := GoS.cons ps_pass k
theorem go_expr {α : Type} [Rp α] {x : α} (s : L2.Same F H) (he : Ev X e σ F H x) (k : ∀ F' H', Gr F H F' H' → GoS X rest D σ H') (hs : swapsWith e none pos.line X.env = pure false := by rfl) : GoS X (.Expr e pos :: rest) D σ H :=
  GoS.cons (ps_expr pe_go hs) (he F H (.refl s) _ fun v F2 H2 g r => k F2 H2 g)
theorem go_if {t : Bool} {as bs : List Stmt} (s : L2.Same F H) (hc : EvT X c σ F H t) (ka : t = true → ∀ F' H', Gr F H F' H' → GoS X as { D with nx := GoS X rest D } σ H') (kb : t = false → ∀ F' H', Gr F H F' H' → GoS X bs { D with nx := GoS X rest D } σ H') :
    GoS X (.If c as bs pos :: rest) D σ H :=
  GoS.cons (ps_if pt_go pss_go pss_go) (hc F H (.refl s) _ fun F2 H2 g => by
    cases t with
    | true => rw [if_pos rfl]; exact ka rfl F2 H2 g
    | false => rw [if_neg Bool.false_ne_true]; exact kb rfl F2 H2 g)
/-- the ways meet behind: P -/
theorem go_ifj {t : Bool} {as bs : List Stmt} (P : L2.St → Hp → Prop) (s : L2.Same F H) (hc : EvT X c σ F H t) (ka : t = true → ∀ F' H', Gr F H F' H' → GoS X as { D with nx := P } σ H') (kb : t = false → ∀ F' H', Gr F H F' H' → GoS X bs { D with nx := P } σ H')
    (k : ∀ σ' H', P σ' H' → GoS X rest D σ' H') : GoS X (.If c as bs pos :: rest) D σ H :=
  go_if s hc (fun e F' H' g => (ka e F' H' g).mono k (fun _ _ h => h) (fun _ _ h => h) fun _ _ h => h) (fun e F' H' g => (kb e F' H' g).mono k (fun _ _ h => h) (fun _ _ h => h) fun _ _ h => h)
/-! ### a private list -/
structure Own {α : Type} [Rp α] (K : PySem.W.Frag) (H0 F H : Hp) (l : Addr) (xs : List α) : Prop where
  n : H0 l = none
  f : F l = none
  h : ∃ vs, H l = some (.lst vs) ∧ Rps K F vs xs
theorem Own.ne0 {α : Type} [Rp α] {xs : List α} {l : Addr} (o : Own K H0 F H l xs) : H l ≠ none := by
  obtain ⟨vs, h, _⟩ := o.h
  rw [h]; exact fun e => nomatch e
theorem Own.up {α : Type} [Rp α] {xs : List α} {l : Addr} {F' H' : Hp} (o : Own K H0 F H l xs) (g : Gr F H F' H') : Own K H0 F' H' l xs := by
  obtain ⟨vs, h, r⟩ := o.h
  exact ⟨o.n, (g.fr l o.ne0).trans o.f, vs, g.hh _ _ h, r.mono g.ff⟩
theorem Own.other {α : Type} [Rp α] {xs : List α} {l l' : Addr} {u : HO} (o : Own K H0 F H l xs) (h : l ≠ l') : Own K H0 F (upd H l' u) l xs := by
  obtain ⟨vs, e, r⟩ := o.h
  exact ⟨o.n, o.f, vs, by rw [upd_ne h]; exact e, r⟩
theorem Own.made {α : Type} [Rp α] {xs : List α} {l : Addr} {vs : List V} {F1 H1 : Hp} (g : Gr F0 H0 F1 H1) (n : H1 l = none) (f : F l = none) (h : H l = some (.lst vs)) (r : Rps K F vs xs) : Own K H0 F H l xs := ⟨g.hh.free n, f, vs, h, r⟩
/-- it becomes shared -/
theorem Own.freeze {α : Type} [Rp α] {xs : List α} {l : Addr} (o : Own K H0 F H l xs) (g : Gr F0 H0 F H) : ∃ F', L2.Same F F' ∧ L2.Same F' H ∧ Gr F0 H0 F' H ∧ rp K F' (.ref l) xs ∧ ∀ a, a ≠ l → F' a = F a := by
  obtain ⟨vs, h, r⟩ := o.h
  exact ⟨_, same_upd o.f, (g.freeze o.n o.f h).fh, g.freeze o.n o.f h, rp_lst o.f r, fun a ha => upd_ne ha⟩
theorem Own.keepF {α : Type} [Rp α] {xs : List α} {l l' : Addr} {F' : Hp} (o : Own K H0 F H l xs) (hl : l ≠ l') (s : L2.Same F F') (k : ∀ a, a ≠ l' → F' a = F a) : Own K H0 F' H l xs := by
  obtain ⟨vs, h, r⟩ := o.h
  exact ⟨o.n, (k l hl).trans o.f, vs, h, r.mono s⟩
theorem Own.ne {α β : Type} [Rp α] [Rp β] {xs : List α} {l l' : Addr} {H1 : Hp} (o : Own K H0 F H l xs) (h : H l' = none) : l ≠ l' := fun e => o.ne0 (e ▸ h)
theorem Gr.poke {F H : Hp} {l : Addr} {u : HO} (g : Gr F0 H0 F H) (n : H0 l = none) (f : F l = none) : Gr F0 H0 F (upd H l u) := by
  refine ⟨g.ff, fun b o e => ?_, fun b o e => ?_, g.fr⟩
  · rw [upd_ne (ne_of_none e f)]; exact g.fh _ _ e
  · rw [upd_ne (ne_of_none e n)]; exact g.hh _ _ e
theorem Own.gr {α : Type} [Rp α] {xs : List α} {l : Addr} {u : HO} (o : Own K H0 F H l xs) (g : Gr F0 H0 F H) : Gr F0 H0 F (upd H l u) := g.poke o.n o.f
theorem Own.set {α : Type} [Rp α] {xs ys : List α} {l : Addr} {vs : List V} (o : Own K H0 F H l xs) (r : Rps K F vs ys) : Own K H0 F (upd H l (.lst vs)) l ys := ⟨o.n, o.f, vs, upd_same, r⟩
theorem Own.len {α : Type} [Rp α] {xs : List α} {l : Addr} (o : Own K H0 F H l xs) : True := trivial
/-- appending within the bound -/
def app {α : Type} (xs : List α) (y : α) : Option (List α) := if xs.length < sizeLine then some (xs ++ [y]) else none
theorem app_of {α : Type} {xs : List α} {y : α} {r : List α} (h : app xs y = some r) : xs.length < sizeLine ∧ xs ++ [y] = r := by
  unfold app at h; split at h
  · exact ⟨by assumption, Option.some.inj h⟩
  · cases h
theorem go_append {α : Type} [Rp α] {xs : List α} {y : α} {r : List α} {l : Addr} {n : Str} {p1 p2 p3 : Pos} (i : Nat) (s : L2.Same F H) (o : Own X.K H0 F H l xs) (hσ : σ[i]? = some (some (.ref l))) (he : Ev X e σ F H y) (h : app xs y = some r)
    (k : ∀ u F' H', Gr F H F' H' → H' l ≠ none → F' l = none → Own X.K H0 F' (upd H' l u) l r → GoS X rest D σ (upd H' l u)) (hN : X.N[i]? = some n := by rfl) (hv : Vis X.env.scope n := by first | exact Or.inl rfl | exact Or.inr (Or.inl rfl) | exact Or.inr (Or.inr rfl))
    (hd : (n == ("__debug__" : Str)) = false := by decide) (hcd : (n == ("__classdict__" : Str)) = false := by decide) 
    (hbase : attributeBase (.Name n p1) "append" X.env (eval (.Name n p1) X.env) = eval (.Name n p1) X.env := by rfl)
    (hfew : ((backTo p3 (starEach [e] X.env)).all (fun x => !x.1) && (backToKw p3 (keywordEach [] X.env)).all (fun x => x.1.isSome) && decide ([e].length + ([] : List Keyword).length + (if ([] : List Keyword).isEmpty then 0 else 1) < 30)) = true := by rfl)
    (hline : (p2.endLine == p3.line) = true := by rfl) (hs : starEach [e] X.env = (false, eval e X.env) :: starEach [] X.env := by rfl) (hplain : (backTo p3 (starEach [] X.env)).any (·.1) = false := by rfl) (hsw : swapsWith (.Call (.Attribute (.Name n p1) "append" p2) [e] [] p3) none pos.line X.env = pure false := by rfl) :
    GoS X (.Expr (.Call (.Attribute (.Name n p1) "append" p2) [e] [] p3) pos :: rest) D σ H := by
  obtain ⟨vs, hl, rs⟩ := o.h
  obtain ⟨hz, rfl⟩ := app_of h
  refine GoS.cons (ps_expr (pe_bm PySem.F.plainAttrs_list PySem.F.slot_list_append PySem.F.type_list_append mt_append (pe_var hN hv hd hcd) (pa_cons pe_go pa_nil hs) hbase hfew hline hs hplain) hsw) ?_
  refine ⟨_, hσ, .inl ⟨rfl, _, SqL.of hl⟩, he F H (.refl s) _ fun v F2 H2 g r => ?_⟩
  have o2 := o.up g
  have hl2 := g.hh _ _ hl
  exact ⟨l, vs, v, rfl, rfl, hl2, by rw [rs.length]; exact hz, k _ F2 H2 g o2.ne0 o2.f (o2.set (Rps.append (rs.mono g.ff) (.cons r .nil)))⟩

/-! ### what is walked -/
def Wk {α : Type} [Rp α] (K : PySem.W.Frag) (J : It) (F H : Hp) (xs : List α) : Prop := ∀ i Fi Hi, L2.Same F Fi → L2.Same Fi Hi → (∀ x, xs[i]? = some x → J.go i Hi ∧ ∀ v H', J.yld i Hi v H' → ∃ F', Gr Fi Hi F' H' ∧ rp K F' v x) ∧ (i = xs.length → J.stop i Hi)
def EvI {α : Type} [Rp α] (X : Cx) (tg iter : Expr) (σ : L2.St) (F H : Hp) (xs : List α) : Prop := ∀ F1 H1, Gr F H F1 H1 → ∀ R : It → Hp → Prop, (∀ J F2 H2, Gr F1 H1 F2 H2 → Wk X.K J F2 H2 xs → R J H2) → GoI X tg iter σ H1 R
theorem ei_list {α : Type} [Rp α] {xs : List α} {tg : Expr} (h : Ev X e σ F H xs) : EvI X tg e σ F H xs := fun F1 H1 g R q =>
  GoI.of (pi_list pe_go) (h F1 H1 g _ fun v F2 H2 g2 ⟨a, vs, e, sq, rs⟩ => ⟨a, e, ⟨vs, g2.fh.seq sq⟩, q _ F2 H2 g2 fun i Fi Hi s1 s2 => by
    have sq' := s2.seq (s1.seq sq)
    refine ⟨fun x hx => ?_, fun e => ⟨vs, sq', by rw [e, rs.length]; exact Nat.le_refl _⟩⟩
    obtain ⟨y, hy, ry⟩ := rs.get hx
    refine ⟨⟨vs, y, sq', hy⟩, fun v H' ⟨e1, e2⟩ => ?_⟩
    subst e1
    have e3 := e2 vs sq'
    rw [hy] at e3
    cases e3
    exact ⟨Fi, .refl s2, Rp.mono s1 ry⟩⟩)
theorem ei_tp {α : Type} [Rp α] {xs : Tp α} {tg : Expr} (h : Ev X e σ F H xs) : EvI X tg e σ F H xs.l := fun F1 H1 g R q =>
  GoI.of (pi_tup pe_go) (h F1 H1 g _ fun v F2 H2 g2 ⟨a, vs, e, sq, rs⟩ => ⟨a, e, ⟨vs, seqT_mono g2.fh sq⟩, q _ F2 H2 g2 fun i Fi Hi s1 s2 => by
    have sq' := seqT_mono s2 (seqT_mono s1 sq)
    refine ⟨fun x hx => ?_, fun e => ⟨vs, sq', by rw [e, rs.length]; exact Nat.le_refl _⟩⟩
    obtain ⟨y, hy, ry⟩ := rs.get hx
    refine ⟨⟨vs, y, sq', hy⟩, fun v H' ⟨e1, e2⟩ => ?_⟩
    subst e1
    have e3 := e2 vs sq'
    rw [hy] at e3
    cases e3
    exact ⟨Fi, .refl s2, Rp.mono s1 ry⟩⟩)
/-- the intsF from lo on, n of them -/
def intsF (lo : Int) (n : Nat) : List Int := (List.range n).map fun (i : Nat) => lo + (i : Int)
theorem ints_get {lo : Int} {n i : Nat} {x : Int} (h : (intsF lo n)[i]? = some x) : i < n ∧ x = lo + i := by
  unfold intsF at h
  rw [List.getElem?_map] at h
  obtain ⟨j, hj, e⟩ := Option.map_eq_some_iff.mp h
  rw [List.getElem?_range] at hj
  · have e1 : i = j := Option.some.inj hj
    subst e1
    refine ⟨?_, e.symm⟩
    rcases Nat.lt_or_ge i n with h1 | h1
    · exact h1
    · rw [List.getElem?_eq_none (by simpa using h1)] at h; cases h
  · rcases Nat.lt_or_ge i n with h1 | h1
    · exact h1
    · rw [List.getElem?_eq_none (by simpa using h1)] at hj; cases hj
theorem ints_len {lo : Int} {n : Nat} : (intsF lo n).length = n := by unfold intsF; simp
theorem wk_range {lo : Int} {n : Nat} : Wk K (Itr lo n) F H (intsF lo n) := fun i Fi Hi s1 s2 => by
  refine ⟨fun x hx => ?_, fun e => by rw [ints_len] at e; exact Nat.le_of_eq e.symm⟩
  obtain ⟨h1, rfl⟩ := ints_get hx
  refine ⟨h1, fun v H' ⟨e1, e2⟩ => ?_⟩
  subst e1
  exact ⟨Fi, .refl s2, e2⟩
def rngG (j : Int) : Option (List Int) := if -(2 ^ 62) ≤ j ∧ j < 2 ^ 62 then some (intsF 0 j.toNat) else none
def rngG2 (i j : Int) : Option (List Int) := if -(2 ^ 62) ≤ i ∧ i < 2 ^ 62 ∧ -(2 ^ 62) ≤ j ∧ j < 2 ^ 62 then some (intsF i (j - i).toNat) else none
theorem ei_range1 {j : Int} {r : List Int} {tg : Expr} {p : Pos} (h : Ev X a σ F H j) (hr : rngG j = some r) (hm : X.mg "range" = none) (hg : Gl X "range" := by rfl) (hs : starEach [a] X.env = [(false, eval a X.env)] := by rfl) : EvI X tg (.Call (.Name "range" p) [a] [] pos) σ F H r := fun F1 H1 g R q =>
  GoI.of (pi_range1 hg hm (pa_cons pe_go pa_nil (by rw [hs]; rfl)) hs) (h F1 H1 g _ fun v F2 H2 g2 r2 => by
    unfold rngG at hr
    split at hr
    · rename_i hj
      cases hr
      have r2 : v = .int j := r2
      exact ⟨j, by rw [r2], hj.1, hj.2, q _ F2 H2 g2 wk_range⟩
    · cases hr)
theorem ei_range2 {i j : Int} {r : List Int} {tg : Expr} {p : Pos} (h : Ev X a σ F H i) (h' : Ev X b σ F H j) (hr : rngG2 i j = some r) (hm : X.mg "range" = none) (hg : Gl X "range" := by rfl) (hs : starEach [a, b] X.env = [(false, eval a X.env), (false, eval b X.env)] := by rfl) (hs2 : starEach [b] X.env = [(false, eval b X.env)] := by rfl) :
    EvI X tg (.Call (.Name "range" p) [a, b] [] pos) σ F H r := fun F1 H1 g R q =>
  GoI.of (pi_range2 hg hm (pa_cons pe_go (pa_cons pe_go pa_nil (by rw [hs2]; rfl)) (by rw [hs, hs2])) hs hs2) (h F1 H1 g _ fun v F2 H2 g2 r2 => h' F2 H2 (g.trans g2) _ fun v' F3 H3 g3 r3 => by
    unfold rngG2 at hr
    split at hr
    · rename_i hj
      cases hr
      have r2 : v = .int i := r2
      have r3 : v' = .int j := r3
      exact ⟨i, j, by rw [r2, r3], hj, q _ F3 H3 (g2.trans g3) wk_range⟩
    · cases hr)
/-- a text's sgns -/
def sgns (x : Str) : List Str := x.cps.toList.map fun c => ⟨#[c]⟩
theorem ei_str {x : Str} {tg : Expr} (h : Ev X e σ F H x) : EvI X tg e σ F H (sgns x) := fun F1 H1 g R q =>
  GoI.of (pi_str pe_go) (h F1 H1 g _ fun v F2 H2 g2 r2 => ⟨x, r2, q _ F2 H2 g2 fun i Fi Hi s1 s2 => by
    unfold sgns
    refine ⟨fun y hy => ?_, fun e => by rw [e]; simp [Its]⟩
    rw [List.getElem?_map] at hy
    obtain ⟨c, hc, rfl⟩ := Option.map_eq_some_iff.mp hy
    have hc' : x.cps[i]? = some c := by simpa using hc
    refine ⟨?_, fun v H' ⟨e1, c', e2, e3⟩ => ?_⟩
    · show i < x.cps.size
      exact (Array.getElem?_eq_some_iff.mp hc').1
    · subst e1
      rw [hc'] at e2
      cases e2
      exact ⟨Fi, .refl s2, e3⟩⟩)

/-! ### loops -/
inductive Lp (β ρ : Type) where
  | nx (b : β) | bk (b : β) | rt (r : ρ)
def loopM {α β ρ : Type} (st : β → α → Option (Lp β ρ)) : β → List α → Option (Lp β ρ)
  | b, [] => some (.nx b)
  | b, x :: xs => match st b x with
    | none => none
    | some (.nx b') => loopM st b' xs
    | some (.bk b') => some (.bk b')
    | some (.rt r) => some (.rt r)
/-- what a turn with the outcome o is to reach -/
abbrev LE {β ρ : Type} (Iv : β → L2.St → Hp → Hp → Prop) (Rt : ρ → V → Hp → Prop) (F : Hp) (o : Lp β ρ) : Ends :=
  { nx := fun σ' H' => ∃ b' F', o = .nx b' ∧ L2.Same F F' ∧ L2.Same F' H' ∧ Iv b' σ' F' H', ct := fun σ' H' => ∃ b' F', o = .nx b' ∧ L2.Same F F' ∧ L2.Same F' H' ∧ Iv b' σ' F' H',
    bk := fun σ' H' => ∃ b' F', o = .bk b' ∧ L2.Same F F' ∧ L2.Same F' H' ∧ Iv b' σ' F' H', rt := fun v H' => ∃ r, o = .rt r ∧ Rt r v H' }
theorem go_for {α β ρ : Type} [Rp α] {tg iter : Expr} {g : TG} (xs : List α) (stp : β → α → Option (Lp β ρ)) (b0 : β) {o : Lp β ρ} (s : L2.Same F H) (hi : EvI X tg iter σ F H xs) (hg : PG X tg g) (ho : loopM stp b0 xs = some o)
    (k : ∀ F2 H2, Gr F H F2 H2 → ∃ (Iv : β → L2.St → Hp → Hp → Prop) (Rt : ρ → V → Hp → Prop), Iv b0 σ F2 H2 ∧
      (∀ b x o', stp b x = some o' → ∀ σ F H v, L2.Same F2 F → L2.Same F H → Iv b σ F H → ∀ F' H', Gr F H F' H' → rp X.K F' v x → ∀ Q : L2.St → Hp → Prop, (∀ σ' H'', GoS X body (LE Iv Rt F o') σ' H'' → Q σ' H'') → g v σ H' Q) ∧
      (match o with | .nx b => ∀ σ F H, L2.Same F H → Iv b σ F H → GoS X rest D σ H | .bk b => ∀ σ F H, L2.Same F H → Iv b σ F H → GoS X rest D σ H | .rt r => ∀ v H, Rt r v H → D.rt v H))
    (hp : PassesOwn (model X.prog X.w) X.A X.env X.xe) (hc : X.calm = true := by rfl) (hs : ∀ x, foldedSetIterable iter X.env x = pure x := by intro _; rfl) : GoS X (.For tg iter body [] pos :: rest) D σ H := by
  refine GoS.cons (ps_for hp hc pi_go hg pss_go hs) (hi F H (.refl s) _ fun J F2 H2 g2 wk => ?_)
  obtain ⟨Iv, Rt, init, step, done⟩ := k F2 H2 g2
  refine ⟨fun i m σ H => m = xs.length - i ∧ i ≤ xs.length ∧ ∃ b F, L2.Same F2 F ∧ L2.Same F H ∧ Iv b σ F H ∧ loopM stp b (xs.drop i) = some o, ⟨_, rfl, Nat.zero_le _, b0, F2, .refl _, g2.fh, init, ho⟩, ?_⟩
  rintro i m σ' H' ⟨rfl, hle, b, Fi, s1, s2, iv, hl⟩
  obtain ⟨w1, w2⟩ := wk i Fi H' s1 s2
  rcases Nat.lt_or_ge i xs.length with hlt | hge
  · obtain ⟨x, hx⟩ : ∃ x, xs[i]? = some x := ⟨xs[i], List.getElem?_eq_getElem hlt⟩
    obtain ⟨hgo, hy⟩ := w1 x hx
    have ed : xs.drop i = x :: xs.drop (i + 1) := by
      rw [List.drop_eq_getElem_cons hlt]
      rw [List.getElem?_eq_getElem hlt] at hx
      rw [Option.some.inj hx]
    rw [ed] at hl
    unfold loopM at hl
    cases hst : stp b x with
    | none => rw [hst] at hl; cases hl
    | some o' =>
      rw [hst] at hl
      refine .inr ⟨hgo, fun σ3 H3 => ∃ b' F', o' = .nx b' ∧ L2.Same Fi F' ∧ L2.Same F' H3 ∧ Iv b' σ3 F' H3, fun σ3 H3 ⟨b', F', e, f1, f2, iv'⟩ => ?_, fun v H3 hv => ?_⟩
      · subst e
        exact ⟨xs.length - (i + 1), by omega, rfl, hlt, b', F', s1.trans f1, f2, iv', hl⟩
      · obtain ⟨F', gr, rv⟩ := hy v H3 hv
        refine step b x o' hst σ' Fi H' v s1 s2 iv F' H3 gr rv _ fun σ4 H4 q => q.mono (fun _ _ h => h) (fun v' H5 ⟨r, e, hr⟩ => ?_) (fun σ5 H5 ⟨b', F5, e, f1, f2, iv'⟩ => ?_) fun _ _ h => h
        · subst e
          cases (Option.some.inj hl)
          exact done v' H5 hr
        · subst e
          cases (Option.some.inj hl)
          exact done σ5 F5 H5 f2 iv'
  · have e : i = xs.length := by omega
    subst e
    rw [List.drop_length] at hl
    cases (Option.some.inj hl)
    exact .inl ⟨w2 rfl, done σ' Fi H' s2 iv⟩
/-- while, with fuel -/
def whileM {β ρ : Type} (c : β → Option Bool) (st : β → Option (Lp β ρ)) : Nat → β → Option (Lp β ρ)
  | 0, _ => none
  | n + 1, b => match c b with
    | none => none
    | some false => some (.nx b)
    | some true => match st b with
      | none => none
      | some (.nx b') => whileM c st n b'
      | some (.bk b') => some (.bk b')
      | some (.rt r) => some (.rt r)
theorem go_while {β ρ : Type} (cn : β → Option Bool) (stp : β → Option (Lp β ρ)) (N : Nat) (b0 : β) {o : Lp β ρ} (Iv : β → L2.St → Hp → Hp → Prop) (Rt : ρ → V → Hp → Prop) (s : L2.Same F H) (init : Iv b0 σ F H) (ho : whileM cn stp N b0 = some o)
    (kc : ∀ b t, cn b = some t → ∀ σ F H, L2.Same F H → Iv b σ F H → EvT X c σ F H t ∧ ∀ F' H', Gr F H F' H' → Iv b σ F' H')
    (kb : ∀ b o', cn b = some true → stp b = some o' → ∀ σ F H, L2.Same F H → Iv b σ F H → GoS X body (LE Iv Rt F o') σ H)
    (done : match o with | .nx b => ∀ σ F H, L2.Same F H → Iv b σ F H → GoS X rest D σ H | .bk b => ∀ σ F H, L2.Same F H → Iv b σ F H → GoS X rest D σ H | .rt r => ∀ v H, Rt r v H → D.rt v H)
    (hp : PassesOwn (model X.prog X.w) X.A X.env X.xe) : GoS X (.While c body [] pos :: rest) D σ H := by
  refine GoS.cons (ps_while hp pt_go pss_go) ?_
  refine ⟨fun m σ H => ∃ b F, L2.Same F H ∧ Iv b σ F H ∧ whileM cn stp m b = some o, ⟨N, b0, F, s, init, ho⟩, ?_⟩
  rintro m σ' H' ⟨b, Fi, s2, iv, hl⟩
  cases m with
  | zero => cases hl
  | succ m =>
    unfold whileM at hl
    cases hc : cn b with
    | none => rw [hc] at hl; cases hl
    | some t =>
      rw [hc] at hl
      obtain ⟨ev, up⟩ := kc b t hc σ' Fi H' s2 iv
      refine ev Fi H' (.refl s2) _ fun F2 H2 g2 => ?_
      cases t with
      | false =>
        rw [if_neg Bool.false_ne_true]
        cases (Option.some.inj hl)
        exact done σ' F2 H2 g2.fh (up F2 H2 g2)
      | true =>
        rw [if_pos rfl]
        cases hst : stp b with
        | none => rw [hst] at hl; cases hl
        | some o' =>
          rw [hst] at hl
          refine ⟨fun σ3 H3 => ∃ b' F', o' = .nx b' ∧ L2.Same F2 F' ∧ L2.Same F' H3 ∧ Iv b' σ3 F' H3, fun σ3 H3 ⟨b', F', e, f1, f2, iv'⟩ => ?_, ?_⟩
          · subst e
            exact ⟨m, Nat.lt_succ_self _, b', F', f2, iv', hl⟩
          · refine (kb b o' hc hst σ' F2 H2 g2.fh (up F2 H2 g2)).mono (fun _ _ h => h) (fun v' H5 ⟨r, e, hr⟩ => ?_) (fun σ5 H5 ⟨b', F5, e, f1, f2, iv'⟩ => ?_) fun _ _ h => h
            · subst e
              cases (Option.some.inj hl)
              exact done v' H5 hr
            · subst e
              cases (Option.some.inj hl)
              exact done σ5 F5 H5 f2 iv'
/-! ### targets -/
theorem gn {i : Nat} {v : V} {Q : L2.St → Hp → Prop} {P : L2.St → Hp → Prop} (h : ∀ σ' H', P σ' H' → Q σ' H') (p : P (σ.set i (some v)) H) : gName i v σ H Q := h _ _ p

/-! ### texts -/
def sAdd (x y : Str) : Option Str := if x.length + y.length ≤ sizeLine then some (x ++ y) else none
theorem ev_addS {x y r : Str} (ha : Ev X a σ F H x) (hb : Ev X b σ F H y) (h : sAdd x y = some r) : Ev X (.BinOp a .Add b pos) σ F H r := ev_bin op_add_str (fun F H v w Q s rv rw' k => by
  unfold sAdd at h
  split at h
  · rename_i hz
    exact ⟨x, y, rv, rw', hz, k _ F H (.refl s) (congrArg V.str (Option.some.inj h))⟩
  · cases h) ha hb
/-- is the one sign x in z -/
def sIn (x z : Str) : Option Bool := match x.cps.toList with
  | [c] => some (decide (c ∈ z.cps.toList))
  | _ => none
theorem sIn_of {x z : Str} {r : Bool} (h : sIn x z = some r) : ∃ c, x = ⟨#[c]⟩ ∧ decide (c ∈ z.cps.toList) = r := by
  unfold sIn at h
  split at h
  · rename_i c hc
    refine ⟨c, ?_, Option.some.inj h⟩
    cases x with
    | mk cps => rw [← Array.toArray_toList (xs := cps), hc]
  · cases h
theorem o2_inS {x z : Str} {r : Bool} (h : sIn x z = some r) : Op2 K (fun x y H Q => ∃ (c : Nat) (z : Str), x = .str ⟨#[c]⟩ ∧ y = .str z ∧ Q (.bl (decide (c ∈ z.cps.toList))) H) x z r := fun F H v w Q s rv rw' k => by
  obtain ⟨c, rfl, e⟩ := sIn_of h
  exact ⟨c, z, rv, rw', k _ F H (.refl s) (congrArg V.bl e)⟩
theorem o2_notInS {x z : Str} {r : Bool} (h : sIn x z = some r) : Op2 K (fun x y H Q => ∃ (c : Nat) (z : Str), x = .str ⟨#[c]⟩ ∧ y = .str z ∧ Q (.bl (!decide (c ∈ z.cps.toList))) H) x z (!r) := fun F H v w Q s rv rw' k => by
  obtain ⟨c, rfl, e⟩ := sIn_of h
  exact ⟨c, z, rv, rw', k _ F H (.refl s) (congrArg (fun t => V.bl (!t)) e)⟩
/-- a text's method of one text -/
theorem ev_m1 {α : Type} [Rp α] {x y : Str} {z : α} {id : String} {name : Str} {apos : Pos} {r : V → List V → Hp → VK → Prop} (slot : Slot "str" name id) (ty : typeOf (.builtin id) = pure (.type "method_descriptor")) (rule : MtR X id r)
    (hr : ∀ (F H : Hp) (Q : VK), L2.Same F H → (∀ u F' H', Gr F H F' H' → rp X.K F' u z → Q u H') → r (.str x) [.str y] H Q) (ho : Ev X a σ F H x) (he : Ev X e σ F H y)
    (hs : starEach [e] X.env = [(false, eval e X.env)] := by rfl) (hbase : attributeBase a name X.env (eval a X.env) = eval a X.env := by rfl) (hline : (apos.endLine == pos.line) = true := by rfl) : Ev X (.Call (.Attribute a name apos) [e] [] pos) σ F H z := fun F1 H1 g Q q =>
  GoE.of (pe_m1 slot ty rule pe_go pe_go hs hbase hline) (ho F1 H1 g _ fun v F2 H2 g2 r2 => ⟨⟨x, r2⟩, he F2 H2 (g.trans g2) _ fun w F3 H3 g3 r3 => by
    have r2 : v = .str x := r2
    have r3 : w = .str y := r3
    subst r2; subst r3
    exact hr F3 H3 Q g3.fh fun u F4 H4 g4 r4 => q u F4 H4 ((g2.trans g3).trans g4) r4⟩)
theorem ev_m0 {α : Type} [Rp α] {x : Str} {z : α} {id : String} {name : Str} {apos : Pos} {r : V → List V → Hp → VK → Prop} (slot : Slot "str" name id) (ty : typeOf (.builtin id) = pure (.type "method_descriptor")) (rule : MtR X id r)
    (hr : ∀ (F H : Hp) (Q : VK), L2.Same F H → (∀ u F' H', Gr F H F' H' → rp X.K F' u z → Q u H') → r (.str x) [] H Q) (ho : Ev X a σ F H x)
    (hbase : attributeBase a name X.env (eval a X.env) = eval a X.env := by rfl) (hline : (apos.endLine == pos.line) = true := by rfl) : Ev X (.Call (.Attribute a name apos) [] [] pos) σ F H z := fun F1 H1 g Q q =>
  GoE.of (pe_m0 slot ty rule pe_go hbase hline) (ho F1 H1 g _ fun v F2 H2 g2 r2 => ⟨⟨x, r2⟩, by
    have r2 : v = .str x := r2
    subst r2
    exact hr F2 H2 Q g2.fh fun u F4 H4 g4 r4 => q u F4 H4 (g2.trans g4) r4⟩)
theorem ev_find {x y : Str} {apos : Pos} (ho : Ev X a σ F H x) (he : Ev X e σ F H y)
    (hs : starEach [e] X.env = [(false, eval e X.env)] := by rfl) (hbase : attributeBase a "find" X.env (eval a X.env) = eval a X.env := by rfl) (hline : (apos.endLine == pos.line) = true := by rfl) : Ev X (.Call (.Attribute a "find" apos) [e] [] pos) σ F H (Txt.find x y) :=
  ev_m1 PySem.F.slot_str_find PySem.F.type_str_find mt_find (fun F H Q s k => ⟨x, y, rfl, rfl, k _ F H (.refl s) rfl⟩) ho he hs hbase hline
def sJoin (a : Str) (ys : List Str) : Option Str := if (ys.map (·.length)).sum + ys.length * a.length ≤ 16777216 then some (Txt.join a ys) else none
theorem Rps.strs : ∀ {vs : List V} {ys : List Str}, Rps K F vs ys → vs = ys.map V.str
  | _, _, .nil => rfl
  | _, _, .cons r t => by
    rw [List.map_cons, ← Rps.strs t]
    exact congrArg (· :: _) r
theorem ev_join {x r : Str} {ys : List Str} {apos : Pos} (ho : Ev X a σ F H x) (he : Ev X e σ F H ys) (h : sJoin x ys = some r)
    (hs : starEach [e] X.env = [(false, eval e X.env)] := by rfl) (hbase : attributeBase a "join" X.env (eval a X.env) = eval a X.env := by rfl) (hline : (apos.endLine == pos.line) = true := by rfl) : Ev X (.Call (.Attribute a "join" apos) [e] [] pos) σ F H r := fun F1 H1 g Q q =>
  GoE.of (pe_join pe_go pe_go hs hbase hline) (ho F1 H1 g _ fun v F2 H2 g2 r2 => ⟨⟨x, r2⟩, he F2 H2 (g.trans g2) _ fun w F3 H3 g3 ⟨p, vs, e, sq, rs⟩ => by
    unfold sJoin at h
    split at h
    · rename_i hz
      have e3 := rs.strs
      subst e3
      exact ⟨x, p, ys, r2, by rw [e], .inl (g3.fh.seq sq), hz, q _ F3 H3 (g2.trans g3) (congrArg V.str (Option.some.inj h))⟩
    · cases h⟩)
def sOfI (i : Int) : Option Str := if i.natAbs.log2 < 1920 then some (toString i : String) else none
theorem oc_strI {i : Int} {r : Str} (h : sOfI i = some r) : OpC K (fun xs H Q => ∃ i : Int, xs = [.int i] ∧ i.natAbs.log2 < 1920 ∧ Q (.str (toString i : String)) H) (i, ()) r := oc1 fun F H v Q s rv k => by
  unfold sOfI at h
  split at h
  · rename_i hz
    have rv : v = .int i := rv
    exact ⟨i, by rw [rv], hz, k _ F H (.refl s) (congrArg V.str (Option.some.inj h))⟩
  · cases h
def iOfS (x : Str) : Option Int := if x.length ≤ 640 then PySem.intText? x else none
theorem oc_intS {x : Str} {r : Int} (h : iOfS x = some r) : OpC K (fun xs H Q => ∃ a n, xs = [.str a] ∧ PySem.intText? a = some n ∧ a.length ≤ 640 ∧ Q (.int n) H) (x, ()) r := oc1 fun F H v Q s rv k => by
  unfold iOfS at h
  split at h
  · rename_i hz
    have rv : v = .str x := rv
    exact ⟨x, r, by rw [rv], h, hz, k _ F H (.refl s) rfl⟩
  · cases h
/-- n times a text -/
def sMul (x : Str) (n : Int) : Option Str := if -(2 ^ 62) < n ∧ n < 2 ^ 62 ∧ x.length * n.toNat ≤ 16777216 then some (Txt.mul x n) else none
theorem op_mulS : OpR X (binaryOp .Mult) (fun x y H Q => ∃ (z : Str) (n : Int), x = .str z ∧ y = .int n ∧ MulOk z n ∧ Q (.str (Txt.mul z n)) H) := by
  intro pins s σ H x y v u Q I rx ry h
  obtain ⟨z, n, rfl, rfl, ok, q⟩ := h
  obtain ⟨t, rfl⟩ := rx
  obtain ⟨t', rfl⟩ := ry
  exact SB.mul ok fun t' k => ⟨.str _, H, I.tok k, ⟨t', rfl⟩, q⟩
theorem ev_mulS {x r : Str} {n : Int} (ha : Ev X a σ F H x) (hb : Ev X b σ F H n) (h : sMul x n = some r) : Ev X (.BinOp a .Mult b pos) σ F H r := ev_bin op_mulS (fun F H v w Q s rv rw' k => by
  unfold sMul at h
  split at h
  · rename_i hz
    obtain ⟨z1, z2, z3⟩ := hz
    refine ⟨x, n, rv, rw', ⟨?_, fun hn _ => ?_, fun _ _ => ?_⟩, k _ F H (.refl s) (congrArg V.str (Option.some.inj h))⟩
    · rw [Bool.or_eq_false_iff]
      exact ⟨decide_eq_false (by omega), decide_eq_false (by omega)⟩
    · have h1 : ((x.length * n.toNat : Nat) : Int) = (x.length : Int) * n := by rw [Int.natCast_mul, Int.toNat_of_nonneg (by omega)]
      have h2 : (x.length : Int) ≤ (2 ^ 63 - 1) / n := Int.le_ediv_of_mul_le (by omega) (by rw [← h1]; omega)
      omega
    · show decide (x.length * n.toNat > sizeLine) = false
      rw [sizeLine_eq]
      exact decide_eq_false (by omega)
  · cases h) ha hb
end
end Gx

/-! Gc: comprehensions, a def's own rule. -/
namespace Gx
open PySem PySem.Spec PyProof.Rows L2
open Rp (rp)
open Ra (ra)
section
variable {X : Cx} {K : PySem.W.Frag} {e a b c d : Expr} {es : List Expr} {σ : L2.St} {F H F0 H0 : Hp} {pos : Pos} {D : Ends} {st : Stmt} {rest body : List Stmt}
def compM {α γ : Type} (f : α → Option (Option γ)) : List α → Option (List γ)
  | [] => some []
  | x :: xs => match f x with
    | none => none
    | some none => compM f xs
    | some (some y) => (compM f xs).map (y :: ·)
def compG {α γ : Type} (f : α → Option (Option γ)) (xs : List α) : Option (List γ) := if xs.length ≤ sizeLine then compM f xs else none
abbrev blkX (X : Cx) (scope : Scope) (s : Shared) (H : Hp) (C : Addr) (cl : List (Str × Addr)) (fp : List Addr) : Cx := X.blk s H scope (compEnvC scope cl C X.env) fp
def GoEB (X : Cx) (scope : Scope) (e : Expr) : TE := fun σ H Q => ∀ s H' C cl fp, GoE (blkX X scope s H' C cl fp) e σ H Q
def GoTB (X : Cx) (scope : Scope) (e : Expr) : TT := fun σ H Q => ∀ s H' C cl fp, GoT (blkX X scope s H' C cl fp) e σ H Q
theorem pe_goB {scope : Scope} (s : Shared) (H : Hp) (C : Addr) (cl : List (Str × Addr)) (fp : List Addr) : PE (blkX X scope s H C cl fp) e (GoEB X scope e) := ⟨fun pins s σ H Q I h => h _ _ _ _ _ pins s I⟩
theorem pt_goB {scope : Scope} (s : Shared) (H : Hp) (C : Addr) (cl : List (Str × Addr)) (fp : List Addr) : PT (blkX X scope s H C cl fp) e (GoTB X scope e) := ⟨fun pins s σ H Q I h => h _ _ _ _ _ pins s I⟩
/-- what one item gives -/
def CB {γ : Type} [Rp γ] (X : Cx) (scope : Scope) (elt : Expr) (σ2 : L2.St) (F H : Hp) (o : Option γ) : Prop := ∃ y, o = some y ∧ ∀ s H' C cl fp, Ev (blkX X scope s H' C cl fp) elt σ2 F H y
def CBi {γ : Type} [Rp γ] (X : Cx) (scope : Scope) (tst elt : Expr) (σ2 : L2.St) (F H : Hp) (o : Option γ) : Prop := ∃ b, (∀ s H' C cl fp, EvT (blkX X scope s H' C cl fp) tst σ2 F H b) ∧ (b = true → CB X scope elt σ2 F H o) ∧ (b = false → o = none)
theorem comp_core {α γ : Type} [Rp α] [Rp γ] {tg iter elt : Expr} {scope : Scope} {g : TG} {tt : TT} {vs : List Nat} {xs : List α} {ys : List γ} {f : α → Option (Option γ)} (hi : EvI X tg iter σ F H xs) (hr : compG f xs = some ys)
    (step : ∀ x o, f x = some o → ∀ F' H' v, Gr F H F' H' → rp X.K F' v x → ∀ Q : L2.St → Hp → Prop, (∀ σ2, wipe σ2 vs = wipe σ vs → (∀ R : Bool → Hp → Prop, (∀ F2 H2, Gr F' H' F2 H2 → o = none → R false H2) → (∀ F2 H2, Gr F' H' F2 H2 → CB X scope elt σ2 F2 H2 o → R true H2) → tt σ2 H' R) → Q σ2 H') → g v (wipe σ vs) H' Q)
    {F1 H1 : Hp} (g1 : Gr F H F1 H1) {Q : VK} (q : ∀ l vs F2 H2, Gr F1 H1 F2 H2 → H1 l = none → F2 l = none → H2 l = some (.lst vs) → Rps X.K F2 vs ys → Q (.ref l) H2) : tLc (GoI X tg iter) g tt (GoEB X scope elt) vs σ H1 Q := by
  unfold compG at hr
  split at hr
  case isFalse => cases hr
  rename_i hz
  refine hi F1 H1 g1 _ fun J F2 H2 g2 wk L hL => ?_
  refine ⟨fun i m H => m = xs.length - i ∧ i ≤ xs.length ∧ ∃ Fi acc zs ws, Gr F2 H2 Fi H ∧ Fi L = none ∧ H L = some (.lst acc) ∧ Rps X.K Fi acc zs ∧ acc.length ≤ i ∧ compM f (xs.drop i) = some ws ∧ zs ++ ws = ys,
    ⟨_, rfl, Nat.zero_le _, F2, [], [], ys, Gr.newP g2.fh hL, g2.fh.free hL, upd_same, .nil, Nat.le_refl _, hr, rfl⟩, ?_⟩
  rintro i m Hi ⟨rfl, hle, Fi, acc, zs, ws, gi, fL, hLi, rs, hacc, hcm, hys⟩
  obtain ⟨w1, w2⟩ := wk i Fi Hi gi.ff gi.fh
  rcases Nat.lt_or_ge i xs.length with hlt | hge
  · obtain ⟨x, hx⟩ : ∃ x, xs[i]? = some x := ⟨xs[i], List.getElem?_eq_getElem hlt⟩
    obtain ⟨hgo, hy⟩ := w1 x hx
    have ed : xs.drop i = x :: xs.drop (i + 1) := by
      rw [List.drop_eq_getElem_cons hlt]
      rw [List.getElem?_eq_getElem hlt] at hx
      rw [Option.some.inj hx]
    rw [ed] at hcm
    unfold compM at hcm
    cases hf : f x with
    | none => rw [hf] at hcm; cases hcm
    | some o =>
      rw [hf] at hcm
      refine .inr ⟨hgo, fun H' => ∃ F' acc' zs' ws', Gr F2 H2 F' H' ∧ F' L = none ∧ H' L = some (.lst acc') ∧ Rps X.K F' acc' zs' ∧ acc'.length ≤ i + 1 ∧ compM f (xs.drop (i + 1)) = some ws' ∧ zs' ++ ws' = ys,
        fun H' ⟨F', acc', zs', ws', h1, h2, h3, h4, h5, h6, h7⟩ => ⟨xs.length - (i + 1), by omega, rfl, hlt, F', acc', zs', ws', h1, h2, h3, h4, h5, h6, h7⟩, fun v H3 hv => ?_⟩
      obtain ⟨F3, g3, rv⟩ := hy v H3 hv
      have hLn : Hi L ≠ none := by rw [hLi]; exact fun e => nomatch e
      refine step x o hf F3 H3 v ((g1.trans g2).trans (gi.trans g3)) rv _ fun σ2 ew ht => ⟨ew, ht _ (fun F4 H4 g4 eo => ?_) fun F4 H4 g4 ⟨y, eo, hev⟩ => ?_⟩
      · rw [if_neg Bool.false_ne_true]
        subst eo
        have hLn3 : H3 L ≠ none := by rw [g3.hh _ _ hLi]; exact fun e => nomatch e
        exact ⟨F4, acc, zs, ws, gi.trans (g3.trans g4), (g4.fr L hLn3).trans ((g3.fr L hLn).trans fL), g4.hh _ _ (g3.hh _ _ hLi), rs.mono (g3.ff.trans g4.ff), Nat.le_succ_of_le hacc, hcm, hys⟩
      · rw [if_pos rfl]
        subst eo
        obtain ⟨ws', hw, ew'⟩ := Option.map_eq_some_iff.mp hcm
        refine fun s H' C cl fp => hev s H' C cl fp F4 H4 (.refl g4.fh) _ fun u F5 H5 g5 ru => ?_
        have gg : Gr Fi Hi F5 H5 := (g3.trans g4).trans g5
        have f5 : F5 L = none := (gg.fr L hLn).trans fL
        have h5 : H5 L = some (.lst acc) := gg.hh _ _ hLi
        refine ⟨acc, h5, by omega, F5, acc ++ [u], zs ++ [y], ws', (gi.trans gg).poke hL f5, f5, upd_same, Rps.append (rs.mono gg.ff) (.cons ru .nil), by rw [List.length_append]; simp; omega, hw, ?_⟩
        rw [List.append_assoc]
        show zs ++ (y :: ws') = ys
        rw [ew']; exact hys
  · have e : i = xs.length := by omega
    subst e
    rw [List.drop_length] at hcm
    have ew : ws = [] := (Option.some.inj hcm).symm
    subst ew
    rw [List.append_nil] at hys
    subst hys
    refine .inl ⟨w2 rfl, q L acc Fi Hi (g2.trans gi) (g2.hh.free hL) fL hLi rs⟩
theorem en_comp {α γ : Type} [Rp α] [Rp γ] {tg iter elt : Expr} {scope : Scope} {g : TG} {own : List (Str × Nat)} {xs : List α} {ys : List γ} {f : α → Option (Option γ)} (hN : X.N.Nodup) (hi : EvI X tg iter σ F H xs) (hr : compG f xs = some ys) (ok : BlkOk X.N X.env.scope scope own)
    (hg : ∀ (s : Shared) (H : Hp) (C : Addr) (cl : List (Str × Addr)) (fp : List Addr), PG (blkX X scope s H C cl fp) tg g)
    (step : ∀ x o, f x = some o → ∀ F' H' v, Gr F H F' H' → rp X.K F' v x → ∀ Q : L2.St → Hp → Prop, (∀ σ2, wipe σ2 (own.map (·.2)) = wipe σ (own.map (·.2)) → CB X scope elt σ2 F' H' o → Q σ2 H') → g v (wipe σ (own.map (·.2))) H' Q)
    (hc : X.calm = true := by rfl) (hs : ∀ x, foldedSetIterable iter X.env x = pure x := by intro _; rfl) : EvN X (.ListComp elt [⟨tg, iter, [], 0⟩] scope pos) σ F H ys := fun F1 H1 g1 Q q =>
  GoE.of (pe_lc hc hN pi_go ok hg (fun _ _ _ _ _ => pts_nil) pe_goB hs) (comp_core hi hr (fun x o hf F' H' v gr rv Q' k => step x o hf F' H' v gr rv Q' fun σ2 ew cb => k σ2 ew fun R _ r1 => r1 F' H' (.refl gr.fh) cb) g1 q)
theorem CB.up {γ : Type} [Rp γ] {scope : Scope} {elt : Expr} {σ2 : L2.St} {F' H' : Hp} {o : Option γ} (h : CB X scope elt σ2 F H o) (g : Gr F H F' H') : CB X scope elt σ2 F' H' o := by
  obtain ⟨y, e, h⟩ := h
  exact ⟨y, e, fun s H' C cl fp => (h s H' C cl fp).up g⟩
theorem en_compi {α γ : Type} [Rp α] [Rp γ] {tg iter elt tst : Expr} {scope : Scope} {g : TG} {own : List (Str × Nat)} {xs : List α} {ys : List γ} {f : α → Option (Option γ)} (hN : X.N.Nodup) (hi : EvI X tg iter σ F H xs) (hr : compG f xs = some ys) (ok : BlkOk X.N X.env.scope scope own)
    (hg : ∀ (s : Shared) (H : Hp) (C : Addr) (cl : List (Str × Addr)) (fp : List Addr), PG (blkX X scope s H C cl fp) tg g)
    (step : ∀ x o, f x = some o → ∀ F' H' v, Gr F H F' H' → rp X.K F' v x → ∀ Q : L2.St → Hp → Prop, (∀ σ2, wipe σ2 (own.map (·.2)) = wipe σ (own.map (·.2)) → CBi X scope tst elt σ2 F' H' o → Q σ2 H') → g v (wipe σ (own.map (·.2))) H' Q)
    (hc : X.calm = true := by rfl) (hs : ∀ x, foldedSetIterable iter X.env x = pure x := by intro _; rfl) : EvN X (.ListComp elt [⟨tg, iter, [tst], 0⟩] scope pos) σ F H ys := fun F1 H1 g1 Q q =>
  GoE.of (pe_lc hc hN pi_go ok hg (fun s H C cl fp => pts_one (pt_goB s H C cl fp)) pe_goB hs) (comp_core hi hr (fun x o hf F' H' v gr rv Q' k => step x o hf F' H' v gr rv Q' fun σ2 ew ⟨b, ht, h1, h2⟩ => k σ2 ew fun R r0 r1 s Hb C cl fp => ht s Hb C cl fp F' H' (.refl gr.fh) R fun F2 H2 g2 => by
    cases b with
    | true => exact r1 F2 H2 g2 ((h1 rfl).up g2)
    | false => exact r0 F2 H2 g2 (h2 rfl)) g1 q)
/-- y = [..] on one line, y a local -/
theorem go_setLc {α γ : Type} [Rp α] [Rp γ] {tg iter elt : Expr} {scope : Scope} {g : TG} {own : List (Str × Nat)} {xs : List α} {ys : List γ} {f : α → Option (Option γ)} {y : Str} {py cpos : Pos} (i : Nat) (s : L2.Same F H) (hN : X.N.Nodup) (hi : EvI X tg iter σ F H xs) (hr : compG f xs = some ys) (ok : BlkOk X.N X.env.scope scope own)
    (hg : ∀ (s : Shared) (H : Hp) (C : Addr) (cl : List (Str × Addr)) (fp : List Addr), PG (blkX X scope s H C cl fp) tg g)
    (step : ∀ x o, f x = some o → ∀ F' H' v, Gr F H F' H' → rp X.K F' v x → ∀ Q : L2.St → Hp → Prop, (∀ σ2, wipe σ2 (own.map (·.2)) = wipe σ (own.map (·.2)) → CB X scope elt σ2 F' H' o → Q σ2 H') → g v (wipe σ (own.map (·.2))) H' Q)
    (k : ∀ l vs F' H', Gr F H F' H' → H l = none → F' l = none → H' l = some (.lst vs) → Rps X.K F' vs ys → GoS X rest D (σ.set i (some (.ref l))) H')
    (hy : X.N[i]? = some y := by rfl) (hyl : X.env.scope.names.lookup y = some .local := by rfl) (hsw : swapsWith (.ListComp elt [⟨tg, iter, [], 0⟩] scope cpos) (some (.Name y py)) pos.line X.env = pure true := by exact sw_true rfl rfl rfl (by decide +kernel))
    (hc : X.calm = true := by rfl) (hs : ∀ x, foldedSetIterable iter X.env x = pure x := by intro _; rfl) : GoS X (.Assign [.Name y py] (.ListComp elt [⟨tg, iter, [], 0⟩] scope cpos) pos :: rest) D σ H :=
  GoS.cons (ps_setLc hc hN hy hyl hsw pi_go ok hg (fun _ _ _ _ _ => pts_nil) pe_goB hs) (comp_core hi hr (fun x o hf F' H' v gr rv Q' k => step x o hf F' H' v gr rv Q' fun σ2 ew cb => k σ2 ew fun R _ r1 => r1 F' H' (.refl gr.fh) cb) (.refl s) k)
theorem go_setLci {α γ : Type} [Rp α] [Rp γ] {tg iter elt tst : Expr} {scope : Scope} {g : TG} {own : List (Str × Nat)} {xs : List α} {ys : List γ} {f : α → Option (Option γ)} {y : Str} {py cpos : Pos} (i : Nat) (s : L2.Same F H) (hN : X.N.Nodup) (hi : EvI X tg iter σ F H xs) (hr : compG f xs = some ys) (ok : BlkOk X.N X.env.scope scope own)
    (hg : ∀ (s : Shared) (H : Hp) (C : Addr) (cl : List (Str × Addr)) (fp : List Addr), PG (blkX X scope s H C cl fp) tg g)
    (step : ∀ x o, f x = some o → ∀ F' H' v, Gr F H F' H' → rp X.K F' v x → ∀ Q : L2.St → Hp → Prop, (∀ σ2, wipe σ2 (own.map (·.2)) = wipe σ (own.map (·.2)) → CBi X scope tst elt σ2 F' H' o → Q σ2 H') → g v (wipe σ (own.map (·.2))) H' Q)
    (k : ∀ l vs F' H', Gr F H F' H' → H l = none → F' l = none → H' l = some (.lst vs) → Rps X.K F' vs ys → GoS X rest D (σ.set i (some (.ref l))) H')
    (hy : X.N[i]? = some y := by rfl) (hyl : X.env.scope.names.lookup y = some .local := by rfl) (hsw : swapsWith (.ListComp elt [⟨tg, iter, [tst], 0⟩] scope cpos) (some (.Name y py)) pos.line X.env = pure true := by exact sw_true rfl rfl rfl (by decide +kernel))
    (hc : X.calm = true := by rfl) (hs : ∀ x, foldedSetIterable iter X.env x = pure x := by intro _; rfl) : GoS X (.Assign [.Name y py] (.ListComp elt [⟨tg, iter, [tst], 0⟩] scope cpos) pos :: rest) D σ H :=
  GoS.cons (ps_setLc hc hN hy hyl hsw pi_go ok hg (fun s H C cl fp => pts_one (pt_goB s H C cl fp)) pe_goB hs) (comp_core hi hr (fun x o hf F' H' v gr rv Q' k => step x o hf F' H' v gr rv Q' fun σ2 ew ⟨b, ht, h1, h2⟩ => k σ2 ew fun R r0 r1 s Hb C cl fp => ht s Hb C cl fp F' H' (.refl gr.fh) R fun F2 H2 g2 => by
    cases b with
    | true => exact r1 F2 H2 g2 ((h1 rfl).up g2)
    | false => exact r0 F2 H2 g2 (h2 rfl)) (.refl s) k)

/-! ### a def by its mirror -/
theorem fn_ok {P : Program} {w : World} {mg : Str → Option Value} {base : Heap} {τ ρ : Type} [Ra τ] [RaN τ] [Rp ρ] {f : τ → Option ρ} {x qual : Str} {s0 : Stmt} {fa : Addr} {fd : FuncData} {N ps : List Str} {k : Nat} (Fn : FunD K x qual (defArgs s0) (defBody s0) (defScope s0) [] [] fa fd) (S : FnScope N ps (defScope s0)) (hn : RaN.n τ = ps.length)
    (hbody : ∀ (cdv : Value) (A : Around) (outer : List Env) (s : Shared) (F H : Hp) (vs : List V) (a : τ) (r : ρ) (D : Ends) (E : XK), Room k (A.deeper (envOfC qual (defScope s0) s.heap.objs.size fa cdv)) → L2.Same F H → ra K F vs a → f a = some r → (∀ F' H' u, Gr F H F' H' → rp K F' u r → D.rt u H') →
      (∀ σ' F' H', Gr F H F' H' → rp K F' .non r → D.nx σ' H') → GoS (cxOf CX0 P w K mg base N qual (defScope s0) fa cdv A outer s H E).nox (defBody s0) D (start N vs) H) :
    FnOk P w K mg base CX0 (k + 1) fa fd ps (Pr K f) := by
  refine Fn.ok S (fun vs H Q E ⟨F, a, r, _, ra', _⟩ => by rw [RaN.len ra', hn]) fun cdv A outer s H vs Q E hr ⟨F, a, r, sm, ra', hf, k⟩ => ?_
  refine ⟨_, PSs.nox pss_go, hbody cdv A outer s F H vs a r { nx := fun _ H' => Q .non H', rt := Q } E hr sm ra' hf (fun F' H' u g q => k F' H' u g q) fun σ' F' H' g q => k F' H' .non g q⟩
end
end Gx
namespace Gx
open PySem PySem.Spec PyProof.Rows L2
open Rp (rp)
open Ra (ra)
theorem cg {α : Type} [Rp α] {K : PySem.W.Frag} {F : Hp} {v : V} {x y : α} (e : x = y) (h : rp K F v x) : rp K F v y := e ▸ h
theorem nt {b : Bool} (h : b = false) : ¬ b = true := by rw [h]; exact Bool.false_ne_true
def Lp.thn {β ρ γ : Type} (o : Lp β ρ) (f : β → Option γ) (g : ρ → Option γ) : Option γ := match o with
  | .nx b => f b
  | .bk b => f b
  | .rt r => g r
/-- a loop that neither breaks nor returns -/
def loopN {α β : Type} (st : β → α → Option β) : β → List α → Option β
  | b, [] => some b
  | b, x :: xs => match st b x with
    | none => none
    | some b' => loopN st b' xs
theorem loopN_M {α β : Type} (st : β → α → Option β) : ∀ (xs : List α) (b : β), loopM (ρ := Unit) (fun b x => (st b x).map Lp.nx) b xs = (loopN st b xs).map Lp.nx
  | [], b => rfl
  | x :: xs, b => by
    unfold loopM loopN
    cases st b x with
    | none => rfl
    | some b' => exact loopN_M st xs b'
def whileN {β : Type} (c : β → Option Bool) (st : β → Option β) : Nat → β → Option β
  | 0, _ => none
  | n + 1, b => match c b with
    | none => none
    | some false => some b
    | some true => match st b with
      | none => none
      | some b' => whileN c st n b'
theorem whileN_M {β : Type} (c : β → Option Bool) (st : β → Option β) : ∀ (n : Nat) (b : β), whileM (ρ := Unit) c (fun b => (st b).map Lp.nx) n b = (whileN c st n b).map Lp.nx
  | 0, b => rfl
  | n + 1, b => by
    unfold whileM whileN
    cases c b with
    | none => rfl
    | some t =>
      cases t with
      | false => rfl
      | true =>
        dsimp only
        cases st b with
        | none => rfl
        | some b' => exact whileN_M c st n b'
section
variable {X : Cx} {K : PySem.W.Frag} {e a b c d : Expr} {es : List Expr} {σ : L2.St} {F H F0 H0 : Hp} {pos : Pos} {D : Ends} {st : Stmt} {rest body : List Stmt}
theorem go_forM {α β ρ γ : Type} [Rp α] {tg iter : Expr} {g : TG} {xs : List α} {stp : β → α → Option (Lp β ρ)} {b0 : β} {o : Lp β ρ} {f1 : β → Option γ} {f2 : ρ → Option γ} {r : γ} (s : L2.Same F H) (hi : EvI X tg iter σ F H xs) (hg : PG X tg g) (ho : loopM stp b0 xs = some o) (hm : o.thn f1 f2 = some r)
    (k : ∀ F2 H2, Gr F H F2 H2 → ∃ (Iv : β → L2.St → Hp → Hp → Prop) (Rt : ρ → V → Hp → Prop), Iv b0 σ F2 H2 ∧
      (∀ b x o', stp b x = some o' → ∀ σ F H v, L2.Same F2 F → L2.Same F H → Iv b σ F H → ∀ F' H', Gr F H F' H' → rp X.K F' v x → ∀ Q : L2.St → Hp → Prop, (∀ σ' H'', GoS X body (LE Iv Rt F o') σ' H'' → Q σ' H'') → g v σ H' Q) ∧
      (∀ b, f1 b = some r → ∀ σ F H, L2.Same F2 F → L2.Same F H → Iv b σ F H → GoS X rest D σ H) ∧ (∀ x, f2 x = some r → ∀ v H, Rt x v H → D.rt v H))
    (hp : PassesOwn (model X.prog X.w) X.A X.env X.xe) (hc : X.calm = true := by rfl) (hs : ∀ x, foldedSetIterable iter X.env x = pure x := by intro _; rfl) : GoS X (.For tg iter body [] pos :: rest) D σ H :=
  go_for xs stp b0 s hi hg ho (fun F2 H2 g2 => by
    obtain ⟨Iv, Rt, i0, st, d1, d2⟩ := k F2 H2 g2
    refine ⟨fun b σ F H => L2.Same F2 F ∧ Iv b σ F H, Rt, ⟨.refl _, i0⟩, fun b x o' e σ F H v s1 s2 ⟨_, iv⟩ F' H' gr rv Q q => st b x o' e σ F H v s1 s2 iv F' H' gr rv Q fun σ' H'' go => q σ' H'' (go.mono ?_ (fun _ _ h => h) ?_ ?_), ?_⟩
    · exact fun σ3 H3 ⟨b', F3, e, f1, f2, iv⟩ => ⟨b', F3, e, f1, f2, s1.trans f1, iv⟩
    · exact fun σ3 H3 ⟨b', F3, e, f1, f2, iv⟩ => ⟨b', F3, e, f1, f2, s1.trans f1, iv⟩
    · exact fun σ3 H3 ⟨b', F3, e, f1, f2, iv⟩ => ⟨b', F3, e, f1, f2, s1.trans f1, iv⟩
    · cases o with
      | nx b => exact fun σ F H s1 ⟨s0, iv⟩ => d1 b hm σ F H s0 s1 iv
      | bk b => exact fun σ F H s1 ⟨s0, iv⟩ => d1 b hm σ F H s0 s1 iv
      | rt x => exact d2 x hm) hp hc hs
theorem go_forN {α β : Type} [Rp α] {tg iter : Expr} {g : TG} {xs : List α} {stp : β → α → Option β} {b0 b1 : β} (s : L2.Same F H) (hi : EvI X tg iter σ F H xs) (hg : PG X tg g) (ho : loopN stp b0 xs = some b1)
    (k : ∀ F2 H2, Gr F H F2 H2 → ∃ (Iv : β → L2.St → Hp → Hp → Prop), Iv b0 σ F2 H2 ∧
      (∀ b x b', stp b x = some b' → ∀ σ F H v, L2.Same F2 F → L2.Same F H → Iv b σ F H → ∀ F' H', Gr F H F' H' → rp X.K F' v x → ∀ Q : L2.St → Hp → Prop, (∀ σ' H'', GoS X body { nx := fun σ3 H3 => ∃ F3, L2.Same F F3 ∧ L2.Same F3 H3 ∧ Iv b' σ3 F3 H3, ct := fun σ3 H3 => ∃ F3, L2.Same F F3 ∧ L2.Same F3 H3 ∧ Iv b' σ3 F3 H3, bk := fun _ _ => False, rt := fun _ _ => False } σ' H'' → Q σ' H'') → g v σ H' Q) ∧
      (∀ σ F H, L2.Same F2 F → L2.Same F H → Iv b1 σ F H → GoS X rest D σ H))
    (hp : PassesOwn (model X.prog X.w) X.A X.env X.xe) (hc : X.calm = true := by rfl) (hs : ∀ x, foldedSetIterable iter X.env x = pure x := by intro _; rfl) : GoS X (.For tg iter body [] pos :: rest) D σ H := by
  have ho' : loopM (ρ := Unit) (fun b x => (stp b x).map Lp.nx) b0 xs = some (.nx b1) := by rw [loopN_M, ho]; rfl
  refine go_forM (f1 := fun b => some b) (f2 := fun _ => none) (r := b1) s hi hg ho' rfl (fun F2 H2 g2 => ?_) hp hc hs
  obtain ⟨Iv, i0, st, d1⟩ := k F2 H2 g2
  refine ⟨Iv, fun _ _ _ => False, i0, fun b x o' e σ F H v s1 s2 iv F' H' gr rv Q q => ?_, fun b e => by cases (Option.some.inj e); exact d1, fun _ e => nomatch e⟩
  obtain ⟨b', eb, rfl⟩ := Option.map_eq_some_iff.mp e
  exact st b x b' eb σ F H v s1 s2 iv F' H' gr rv Q fun σ' H'' go => q σ' H'' (go.mono (fun σ3 H3 ⟨F3, f1, f2, iv⟩ => ⟨b', F3, rfl, f1, f2, iv⟩) (fun _ _ h => h.elim) (fun _ _ h => h.elim) fun σ3 H3 ⟨F3, f1, f2, iv⟩ => ⟨b', F3, rfl, f1, f2, iv⟩)
theorem go_whileM {β ρ γ : Type} {cn : β → Option Bool} {stp : β → Option (Lp β ρ)} {N : Nat} {b0 : β} {o : Lp β ρ} {f1 : β → Option γ} {f2 : ρ → Option γ} {r : γ} (Iv : β → L2.St → Hp → Hp → Prop) (Rt : ρ → V → Hp → Prop) (s : L2.Same F H) (init : Iv b0 σ F H) (ho : whileM cn stp N b0 = some o) (hm : o.thn f1 f2 = some r)
    (kc : ∀ b t, cn b = some t → ∀ σ F1 H, L2.Same F F1 → L2.Same F1 H → Iv b σ F1 H → EvT X c σ F1 H t ∧ ∀ F' H', Gr F1 H F' H' → Iv b σ F' H')
    (kb : ∀ b o', stp b = some o' → ∀ σ F1 H, L2.Same F F1 → L2.Same F1 H → Iv b σ F1 H → GoS X body (LE Iv Rt F1 o') σ H)
    (d1 : ∀ b, f1 b = some r → ∀ σ F1 H, L2.Same F F1 → L2.Same F1 H → Iv b σ F1 H → GoS X rest D σ H) (d2 : ∀ x, f2 x = some r → ∀ v H, Rt x v H → D.rt v H)
    (hp : PassesOwn (model X.prog X.w) X.A X.env X.xe) : GoS X (.While c body [] pos :: rest) D σ H := by
  refine go_while cn stp N b0 (fun b σ F1 H => L2.Same F F1 ∧ Iv b σ F1 H) Rt s ⟨.refl _, init⟩ ho (fun b t e σ F1 H s2 ⟨s1, iv⟩ => ?_) (fun b o' _ e σ F1 H s2 ⟨s1, iv⟩ => (kb b o' e σ F1 H s1 s2 iv).mono ?_ (fun _ _ h => h) ?_ ?_) ?_ hp
  · obtain ⟨h1, h2⟩ := kc b t e σ F1 H s1 s2 iv
    exact ⟨h1, fun F' H' g => ⟨s1.trans g.ff, h2 F' H' g⟩⟩
  · exact fun σ3 H3 ⟨b', F3, e, f1, f2, iv⟩ => ⟨b', F3, e, f1, f2, s1.trans f1, iv⟩
  · exact fun σ3 H3 ⟨b', F3, e, f1, f2, iv⟩ => ⟨b', F3, e, f1, f2, s1.trans f1, iv⟩
  · exact fun σ3 H3 ⟨b', F3, e, f1, f2, iv⟩ => ⟨b', F3, e, f1, f2, s1.trans f1, iv⟩
  · cases o with
    | nx b => exact fun σ F H s1 ⟨s0, iv⟩ => d1 b hm σ F H s0 s1 iv
    | bk b => exact fun σ F H s1 ⟨s0, iv⟩ => d1 b hm σ F H s0 s1 iv
    | rt x => exact d2 x hm
theorem go_whileN {β : Type} {cn : β → Option Bool} {stp : β → Option β} {N : Nat} {b0 b1 : β} (Iv : β → L2.St → Hp → Hp → Prop) (s : L2.Same F H) (init : Iv b0 σ F H) (ho : whileN cn stp N b0 = some b1)
    (kc : ∀ b t, cn b = some t → ∀ σ F1 H, L2.Same F F1 → L2.Same F1 H → Iv b σ F1 H → EvT X c σ F1 H t ∧ ∀ F' H', Gr F1 H F' H' → Iv b σ F' H')
    (kb : ∀ b b', stp b = some b' → ∀ σ F1 H, L2.Same F F1 → L2.Same F1 H → Iv b σ F1 H → GoS X body { nx := fun σ3 H3 => ∃ F3, L2.Same F1 F3 ∧ L2.Same F3 H3 ∧ Iv b' σ3 F3 H3, ct := fun σ3 H3 => ∃ F3, L2.Same F1 F3 ∧ L2.Same F3 H3 ∧ Iv b' σ3 F3 H3, bk := fun _ _ => False, rt := fun _ _ => False } σ H)
    (d1 : ∀ σ F1 H, L2.Same F F1 → L2.Same F1 H → Iv b1 σ F1 H → GoS X rest D σ H) (hp : PassesOwn (model X.prog X.w) X.A X.env X.xe) : GoS X (.While c body [] pos :: rest) D σ H := by
  have ho' : whileM (ρ := Unit) cn (fun b => (stp b).map Lp.nx) N b0 = some (.nx b1) := by rw [whileN_M, ho]; rfl
  refine go_whileM (f1 := fun b => some b) (f2 := fun _ => none) (r := b1) Iv (fun _ _ _ => False) s init ho' rfl kc (fun b o' e σ F1 H s1 s2 iv => ?_) (fun b e => by cases (Option.some.inj e); exact d1) (fun _ e => nomatch e) hp
  obtain ⟨b', eb, rfl⟩ := Option.map_eq_some_iff.mp e
  exact (kb b b' eb σ F1 H s1 s2 iv).mono (fun σ3 H3 ⟨F3, f1, f2, iv⟩ => ⟨b', F3, rfl, f1, f2, iv⟩) (fun _ _ h => h.elim) (fun _ _ h => h.elim) fun σ3 H3 ⟨F3, f1, f2, iv⟩ => ⟨b', F3, rfl, f1, f2, iv⟩
/-! ### reading a private list -/
def er (F : Hp) (l : Addr) : Hp := fun a => if a = l then none else F a
class Flat (α : Type) [Rp α] : Prop where
  fl : ∀ {K : PySem.W.Frag} {F : Hp} {l : Addr} {v : V} {x : α}, (∀ xs, ¬ F l = some (.tup xs)) → (∀ o xs, ¬ F l = some (.frz o (.tup xs))) → rp K F v x → rp K (er F l) v x
instance : Flat Int := ⟨fun _ _ h => h⟩
instance : Flat Bool := ⟨fun _ _ h => h⟩
instance : Flat Str := ⟨fun _ _ h => h⟩
instance : Flat Unit := ⟨fun _ _ h => h⟩
theorem er_seqT {F : Hp} {l a : Addr} {xs : List V} (h1 : ∀ xs, ¬ F l = some (.tup xs)) (h2 : ∀ o xs, ¬ F l = some (.frz o (.tup xs))) (h : SqT K F a xs) : SqT K (er F l) a xs := by
  rcases h with (h | ⟨o, h⟩) | h
  · refine .inl (.inl ?_)
    unfold er
    rw [if_neg (show ¬ a = l from fun e => h1 xs (e ▸ h))]; exact h
  · refine .inl (.inr ⟨o, ?_⟩)
    unfold er
    rw [if_neg (show ¬ a = l from fun e => h2 o xs (e ▸ h))]; exact h
  · exact .inr h
instance {α : Type} [Rp α] [NN α] [Flat α] : Flat (Option α) := ⟨fun {K F l v x} h1 h2 h => by
  cases x with
  | none => exact h
  | some x => exact Flat.fl (α := α) h1 h2 h⟩
theorem Rps.fl {α : Type} [Rp α] [Flat α] {F : Hp} {l : Addr} {vs : List V} {xs : List α} (h1 : ∀ xs, ¬ F l = some (.tup xs)) (h2 : ∀ o xs, ¬ F l = some (.frz o (.tup xs))) (h : Rps K F vs xs) : Rps K (er F l) vs xs := L2.Paired.mapP h fun _ _ => Flat.fl h1 h2
instance {α : Type} [Rp α] [Flat α] : Flat (Tp α) := ⟨fun h1 h2 ⟨a, vs, e, q, r⟩ => ⟨a, vs, e, er_seqT h1 h2 q, Rps.fl h1 h2 r⟩⟩
class FlatR (τ : Type) [Ra τ] : Prop where
  fl : ∀ {K : PySem.W.Frag} {F : Hp} {l : Addr} {v : List V} {x : τ}, (∀ xs, ¬ F l = some (.tup xs)) → (∀ o xs, ¬ F l = some (.frz o (.tup xs))) → ra K F v x → ra K (er F l) v x
instance : FlatR Unit := ⟨fun _ _ h => h⟩
instance {α τ : Type} [Rp α] [Ra τ] [Flat α] [FlatR τ] : FlatR (α × τ) := ⟨fun h1 h2 ⟨v, r, e, p, q⟩ => ⟨v, r, e, Flat.fl h1 h2 p, FlatR.fl h1 h2 q⟩⟩
theorem rpT.fl {θ τ : Type} [Ra τ] [FlatR τ] {row : θ → τ} {F : Hp} {l : Addr} {v : V} {x : θ} (h1 : ∀ xs, ¬ F l = some (.tup xs)) (h2 : ∀ o xs, ¬ F l = some (.frz o (.tup xs))) : rpT row K F v x → rpT row K (er F l) v x := fun ⟨a, vs, e, q, r⟩ => ⟨a, vs, e, er_seqT h1 h2 q, FlatR.fl h1 h2 r⟩
instance {α : Type} [Rp α] [Flat α] : Flat (T1 α) := ⟨rpT.fl⟩
instance {α β : Type} [Rp α] [Rp β] [Flat α] [Flat β] : Flat (T2 α β) := ⟨rpT.fl⟩
instance {α β γ : Type} [Rp α] [Rp β] [Rp γ] [Flat α] [Flat β] [Flat γ] : Flat (T3 α β γ) := ⟨rpT.fl⟩
instance {α β γ δ : Type} [Rp α] [Rp β] [Rp γ] [Rp δ] [Flat α] [Flat β] [Flat γ] [Flat δ] : Flat (T4 α β γ δ) := ⟨rpT.fl⟩
instance {α β γ δ ε : Type} [Rp α] [Rp β] [Rp γ] [Rp δ] [Rp ε] [Flat α] [Flat β] [Flat γ] [Flat δ] [Flat ε] : Flat (T5 α β γ δ ε) := ⟨rpT.fl⟩
/-- the private thing at l shown for a while -/
theorem Gr.show_ {F H F1 H1 : Hp} {l : Addr} {o : HO} (hl : H l = some o) (fl : F l = none) (g : Gr F H F1 H1) : Gr (upd F l o) H (upd F1 l o) H1 ∧ F1 l = none ∧ H1 l = some o := by
  have nl : H l ≠ none := by rw [hl]; exact fun e => nomatch e
  have f1 : F1 l = none := (g.fr l nl).trans fl
  refine ⟨⟨fun b u e => ?_, fun b u e => ?_, g.hh, fun a h => ?_⟩, f1, g.hh _ _ hl⟩
  · by_cases hb : b = l
    · subst hb; rw [upd_same] at e ⊢; exact e
    · rw [upd_ne hb] at e ⊢; exact g.ff _ _ e
  · by_cases hb : b = l
    · subst hb; rw [upd_same] at e; rw [← e]; exact g.hh _ _ hl
    · rw [upd_ne hb] at e; exact g.fh _ _ e
  · by_cases hb : a = l
    · subst hb; rw [upd_same, upd_same]
    · rw [upd_ne hb, upd_ne hb]; exact g.fr a h
theorem Gr.hide {F1 H1 F2 H2 : Hp} {l : Addr} {o : HO} (hl : H1 l = some o) (f1 : F1 l = none) (g : Gr (upd F1 l o) H1 F2 H2) : Gr F1 H1 (er F2 l) H2 := by
  refine ⟨fun b u e => ?_, fun b u e => ?_, g.hh, fun a h => ?_⟩
  · have hb : b ≠ l := ne_of_none e f1
    unfold er
    rw [if_neg hb]
    exact g.ff b u (by rw [upd_ne hb]; exact e)
  · unfold er at e
    split at e
    · cases e
    · exact g.fh b u e
  · unfold er
    by_cases hb : a = l
    · rw [if_pos hb, hb, f1]
    · rw [if_neg hb, g.fr a h, upd_ne hb]
def lstish : HO → Prop
  | .tup _ => False
  | .frz _ (.tup _) => False
  | _ => True
theorem ev_thaw0 {α : Type} [Rp α] [Flat α] {x : α} {l : Addr} {o : HO} (hl : H l = some o) (fl : F l = none) (no : lstish o) (h : Ev X e σ (upd F l o) H x) : Ev X e σ F H x := fun F1 H1 g Q q => by
  obtain ⟨g1, f1, h1⟩ := Gr.show_ hl fl g
  refine h _ H1 g1 Q fun v F2 H2 g2 r2 => ?_
  have e2 : F2 l = some o := by rw [g2.fr l (by rw [h1]; exact fun e => nomatch e), upd_same]
  refine q v (er F2 l) H2 (Gr.hide h1 f1 g2) (Flat.fl (fun xs e => ?_) (fun o' xs e => ?_) r2)
  · rw [e2] at e; cases e; exact no
  · rw [e2] at e; cases e; exact no
theorem et_thaw0 {x : Bool} {l : Addr} {o : HO} (hl : H l = some o) (fl : F l = none) (h : EvT X e σ (upd F l o) H x) : EvT X e σ F H x := fun F1 H1 g Q q => by
  obtain ⟨g1, f1, h1⟩ := Gr.show_ hl fl g
  exact h _ H1 g1 Q fun F2 H2 g2 => q (er F2 l) H2 (Gr.hide h1 f1 g2)
theorem ev_thaw {α β : Type} [Rp α] [Flat α] [Rp β] {x : α} {xs : List β} {l : Addr} (o : Own X.K H0 F H l xs) (s : L2.Same F H) (h : ∀ F', L2.Same F F' → L2.Same F' H → rp X.K F' (.ref l) xs → (∀ a, a ≠ l → F' a = F a) → Ev X e σ F' H x) : Ev X e σ F H x := by
  obtain ⟨vs, hl, rs⟩ := o.h
  refine ev_thaw0 hl o.f trivial (h _ (same_upd o.f) (fun b u e => ?_) (rp_lst o.f rs) fun a ha => upd_ne ha)
  by_cases hb : b = l
  · subst hb; rw [upd_same] at e; rw [← e]; exact hl
  · rw [upd_ne hb] at e; exact s _ _ e
theorem et_thaw {β : Type} [Rp β] {x : Bool} {xs : List β} {l : Addr} (o : Own X.K H0 F H l xs) (s : L2.Same F H) (h : ∀ F', L2.Same F F' → L2.Same F' H → rp X.K F' (.ref l) xs → (∀ a, a ≠ l → F' a = F a) → EvT X e σ F' H x) : EvT X e σ F H x := by
  obtain ⟨vs, hl, rs⟩ := o.h
  refine et_thaw0 hl o.f (h _ (same_upd o.f) (fun b u e => ?_) (rp_lst o.f rs) fun a ha => upd_ne ha)
  by_cases hb : b = l
  · subst hb; rw [upd_same] at e; rw [← e]; exact hl
  · rw [upd_ne hb] at e; exact s _ _ e
end
end Gx
namespace Gx
open PySem PySem.Spec PyProof.Rows L2
open Rp (rp)
open Ra (ra)
section
variable {X : Cx} {K : PySem.W.Frag} {e a b c d : Expr} {es : List Expr} {σ : L2.St} {F H F0 H0 : Hp} {pos : Pos} {D : Ends} {st : Stmt} {rest body : List Stmt}
theorem Own.cg {α : Type} [Rp α] {xs ys : List α} {l : Addr} (e : xs = ys) (o : Own K H0 F H l xs) : Own K H0 F H l ys := e ▸ o
theorem go_augA {i : Nat} {x y : Int} {v : V} {n : Str} {p : Pos} (s : L2.Same F H) (hσ : σ[i]? = some (some v)) (r : rp X.K F v x) (he : Ev X e σ F H y) (k : ∀ v F' H', Gr F H F' H' → rp X.K F' v (x + y) → GoS X rest D (σ.set i (some v)) H') (hN : X.N.Nodup) (hi : X.N[i]? = some n := by rfl)
    (hx : Loc X.env.scope n := by first | exact Or.inl rfl | exact Or.inr rfl) (hf : X.fn n = true ∨ X.env.scope.names.lookup n = some .local := by first | exact .inl rfl | exact .inr rfl) : GoS X (.AugAssign (.Name n p) .Add e pos :: rest) D σ H :=
  GoS.cons (ps_aug hN hi hx pe_go ip_add hf) ⟨v, hσ, he F H (.refl s) _ fun w F2 H2 g r2 => ⟨x, y, r, r2, k _ F2 H2 g rfl⟩⟩
theorem go_augS {i : Nat} {x y : Int} {v : V} {n : Str} {p : Pos} (s : L2.Same F H) (hσ : σ[i]? = some (some v)) (r : rp X.K F v x) (he : Ev X e σ F H y) (k : ∀ v F' H', Gr F H F' H' → rp X.K F' v (x - y) → GoS X rest D (σ.set i (some v)) H') (hN : X.N.Nodup) (hi : X.N[i]? = some n := by rfl)
    (hx : Loc X.env.scope n := by first | exact Or.inl rfl | exact Or.inr rfl) (hf : X.fn n = true ∨ X.env.scope.names.lookup n = some .local := by first | exact .inl rfl | exact .inr rfl) : GoS X (.AugAssign (.Name n p) .Sub e pos :: rest) D σ H :=
  GoS.cons (ps_aug hN hi hx pe_go ip_sub hf) ⟨v, hσ, he F H (.refl s) _ fun w F2 H2 g r2 => ⟨x, y, r, r2, k _ F2 H2 g rfl⟩⟩
/-- a, b, .. = e -/
theorem go_unpack {α : Type} [Rp α] {x : α} {tg : Expr} {g : TG} (s : L2.Same F H) (he : Ev X e σ F H x) (hg : PG X tg g) (k : ∀ v F' H', Gr F H F' H' → rp X.K F' v x → ∀ Q : L2.St → Hp → Prop, (∀ σ' H'', GoS X rest D σ' H'' → Q σ' H'') → g v σ H' Q)
    (hs : swapsWithSole [tg] e pos.line X.env = pure false := by rfl) (hw : swappedStores [tg] e X.env = pure none := by rfl) (h1 : (assignEach [tg] X.env).map (·.2) = [assign tg X.env] := by rfl) : GoS X (.Assign [tg] e pos :: rest) D σ H :=
  GoS.cons (ps_asg pe_go hg hs hw h1) (he F H (.refl s) _ fun v F2 H2 g2 r => k v F2 H2 g2 r _ fun _ _ h => h)
end
end Gx

/-! Gd: more operations. -/
namespace Gx
open PySem PySem.Spec PyProof.Rows L2
open Rp (rp)
open Ra (ra)
section
variable {X : Cx} {K : PySem.W.Frag} {e a b c d : Expr} {es : List Expr} {σ : L2.St} {F H F0 H0 : Hp} {pos : Pos} {D : Ends} {st : Stmt} {rest body : List Stmt}
theorem Rps.of_ints : ∀ ns : List Int, Rps K F (ns.map V.int) ns
  | [] => .nil
  | n :: ns => .cons rfl (Rps.of_ints ns)
theorem Rps.of_strs : ∀ ns : List Str, Rps K F (ns.map V.str) ns
  | [] => .nil
  | n :: ns => .cons rfl (Rps.of_strs ns)
class SN (α : Type) [Rp α] : Prop where
  sn : ∀ {K : PySem.W.Frag} {F : Hp} {v : V} {x : α}, rp K F v x → scal .non v = true ∧ scal v .non = true ∧ v ≠ .non
instance : SN Int := ⟨fun {K F v x} h => by
  have h : v = .int x := h
  subst h; exact ⟨rfl, rfl, fun e => nomatch e⟩⟩
instance : SN Str := ⟨fun {K F v x} h => by
  have h : v = .str x := h
  subst h; exact ⟨rfl, rfl, fun e => nomatch e⟩⟩
instance : SN Bool := ⟨fun {K F v x} h => by
  have h : v = .bl x := h
  subst h; exact ⟨rfl, rfl, fun e => nomatch e⟩⟩
instance {α : Type} [Rp α] [NN α] [DecidableEq α] [Sc α] [SN α] : Sc (Option α) := ⟨fun {K F v w x y} h1 h2 => by
  cases x with
  | none =>
    have h1 : v = .non := h1
    subst h1
    cases y with
    | none =>
      have h2 : w = .non := h2
      subst h2; exact ⟨rfl, rfl⟩
    | some y =>
      obtain ⟨s1, _, n1⟩ := SN.sn (α := α) h2
      exact ⟨s1, by rw [decide_eq_false (fun e => n1 e.symm)]; rfl⟩
  | some x =>
    cases y with
    | none =>
      have h2 : w = .non := h2
      subst h2
      obtain ⟨_, s2, n1⟩ := SN.sn (α := α) h1
      exact ⟨s2, by rw [decide_eq_false n1]; rfl⟩
    | some y =>
      obtain ⟨s1, s2⟩ := Sc.sc (α := α) h1 h2
      exact ⟨s1, by rw [s2]; simp⟩⟩
/-! ### kinds -/
inductive Kn (K : PySem.W.Frag) (H : Hp) : V → String → Prop
  | non : Kn K H .non "NoneType"
  | bl (b : Bool) : Kn K H (.bl b) "bool"
  | int (i : Int) : Kn K H (.int i) "int"
  | str (x : Str) : Kn K H (.str x) "str"
  | lst {a : Addr} {xs : List V} : SqL K H a xs → Kn K H (.ref a) "list"
  | tup {a : Addr} {xs : List V} : SqT K H a xs → Kn K H (.ref a) "tuple"
  | dK {a : Addr} {xs : List (Key × V)} : H a = some (.dK xs) → Kn K H (.ref a) "dict"
  | dT {a : Addr} {xs : List (List Key × V)} : H a = some (.dT xs) → Kn K H (.ref a) "dict"
def rIsK (K : PySem.W.Frag) : List V → Hp → VK → Prop := fun xs H Q => ∃ (x : V) (U T : String) (b : Bool), xs = [x, .ty T] ∧ Kn K H x U ∧ kitB U T = some b ∧ Q (.bl b) H
theorem call_isk : CallR X (.builtin "isinstance") (rIsK X.K) := by
  intro pins s σ H xs us Q I r h
  obtain ⟨x, U, T, b, rfl, k, e, q⟩ := h
  obtain ⟨u1, u2, rfl, r1, r2⟩ := vals2 r
  have e2 : u2 = .type T := r2
  subst e2
  have fin : ∀ {P : Heap → Prop}, PySem.W.KitX X.K u1 (.type U) P → P s.heap → u1 ≠ .builtin "__main__.__loader__#opaque" → wpAny (model X.prog X.w) X.A (call (.builtin "isinstance") [u1, .type T]) (EP X pins σ Q) X.xe s :=
    fun Z p hx => PySem.W.kia_one Z I.kIn p (kit_ty e) hx fun tk => ⟨.bl b, H, I.tok tk, rfl, q⟩
  cases k with
  | non => cases (show u1 = Value.none from r1); exact fin PySem.W.kitx_none True.intro (fun z => nomatch z)
  | bl y => cases (show u1 = Value.bool y from r1); exact fin PySem.W.kitx_bool True.intro (fun z => nomatch z)
  | int i => obtain ⟨t, q⟩ := (show ∃ t, u1 = Value.int i t from r1); cases q; exact fin PySem.W.kitx_int True.intro (fun z => nomatch z)
  | str i => obtain ⟨t, q⟩ := (show ∃ t, u1 = Value.str i t from r1); cases q; exact fin PySem.W.kitx_str True.intro (fun z => nomatch z)
  | lst sq =>
    rename_i a xs
    cases (show u1 = Value.ref a from r1)
    obtain ⟨its, rv, ⟨o, n, h1, h2, _⟩, _⟩ := I.list sq
    exact fin PySem.W.kitx_list ⟨o, h1, h2⟩ (fun z => nomatch z)
  | tup sq =>
    rename_i a xs
    cases (show u1 = Value.ref a from r1)
    obtain ⟨its, rv, ⟨o, h1, h2, _⟩, _⟩ := I.tuple sq
    exact fin PySem.W.kitx_tuple ⟨o, h1, h2⟩ (fun z => nomatch z)
  | dK ea =>
    rename_i a xs
    cases (show u1 = Value.ref a from r1)
    obtain ⟨_, _, vs, _, o, es, ep, h1, h2, _⟩ := (show ObjOk X.prog X.w H s.heap a (.dK xs) from I.hok a _ ea)
    exact fin PySem.W.kitx_dict ⟨o, h1, h2.1⟩ (fun z => nomatch z)
  | dT ea =>
    rename_i a xs
    cases (show u1 = Value.ref a from r1)
    obtain ⟨_, _, vs, _, o, es, ep, h1, h2, _⟩ := (show ObjOk X.prog X.w H s.heap a (.dT xs) from I.hok a _ ea)
    exact fin PySem.W.kitx_dict ⟨o, h1, h2.1⟩ (fun z => nomatch z)
class Kd (α : Type) [Rp α] where
  nm : String
  kd : ∀ {K : PySem.W.Frag} {F H : Hp} {v : V} {x : α}, L2.Same F H → rp K F v x → Kn K H v nm
instance : Kd Int := ⟨"int", fun {K F H v x} _ h => by
  have h : v = .int x := h
  subst h; exact .int _⟩
instance : Kd Bool := ⟨"bool", fun {K F H v x} _ h => by
  have h : v = .bl x := h
  subst h; exact .bl _⟩
instance : Kd Str := ⟨"str", fun {K F H v x} _ h => by
  have h : v = .str x := h
  subst h; exact .str _⟩
instance : Kd Unit := ⟨"NoneType", fun {K F H v x} _ h => by
  have h : v = .non := h
  subst h; exact .non⟩
instance {α : Type} [Rp α] : Kd (List α) := ⟨"list", fun s ⟨a, vs, e, sq, _⟩ => e ▸ .lst (s.seq sq)⟩
instance {α : Type} [Rp α] : Kd (Tp α) := ⟨"tuple", fun s ⟨a, vs, e, sq, _⟩ => e ▸ .tup (seqT_mono s sq)⟩
theorem rpT.kd {θ τ : Type} [Ra τ] {row : θ → τ} {F H : Hp} {v : V} {x : θ} (s : L2.Same F H) (h : rpT row K F v x) : Kn K H v "tuple" := by
  obtain ⟨a, vs, e, sq, _⟩ := h
  exact e ▸ .tup (seqT_mono s sq)
instance {α : Type} [Rp α] : Kd (T1 α) := ⟨"tuple", rpT.kd⟩
instance {α β : Type} [Rp α] [Rp β] : Kd (T2 α β) := ⟨"tuple", rpT.kd⟩
instance {α β γ : Type} [Rp α] [Rp β] [Rp γ] : Kd (T3 α β γ) := ⟨"tuple", rpT.kd⟩
instance {α β γ δ : Type} [Rp α] [Rp β] [Rp γ] [Rp δ] : Kd (T4 α β γ δ) := ⟨"tuple", rpT.kd⟩
instance {α β γ δ ε : Type} [Rp α] [Rp β] [Rp γ] [Rp δ] [Rp ε] : Kd (T5 α β γ δ ε) := ⟨"tuple", rpT.kd⟩
theorem goa2 {t1 t2 : TE} {Q : List V → Hp → Prop} (h1 : PE X a t1) (h2 : PE X b t2) (hs : starEach [a, b] X.env = (false, eval a X.env) :: starEach [b] X.env) (hs2 : starEach [b] X.env = (false, eval b X.env) :: starEach [] X.env) (q : t1 σ H fun v H1 => t2 σ H1 fun w H2 => Q [v, w] H2) : GoA X [a, b] σ H Q :=
  GoA.of (pa_cons h1 (pa_cons h2 pa_nil hs2) hs) q
theorem ev_isi {α : Type} [Rp α] [Kd α] {x : α} {T : String} {r : Bool} {p1 p2 : Pos} (h : kitB (Kd.nm α) T = some r) (hm : X.mg "isinstance" = none) (hT : X.mg (Str.ofString T) = none) (hv : bootBuiltins (Str.ofString T) = some (.type T)) (ha : Ev X a σ F H x)
    (hg : Gl X "isinstance" := by rfl) (hgT : Gl X (Str.ofString T) := by rfl) (hn : (Str.ofString T) ≠ "__name__" := by decide) (hd : ((Str.ofString T) == ("__debug__" : Str)) = false := by decide)
    (hs : starEach [a, .Name (Str.ofString T) p2] X.env = (false, eval a X.env) :: starEach [.Name (Str.ofString T) p2] X.env := by rfl) (hs2 : starEach [.Name (Str.ofString T) p2] X.env = (false, eval (.Name (Str.ofString T) p2) X.env) :: starEach [] X.env := by rfl)
    (hpl : (backTo pos (starEach [.Name (Str.ofString T) p2] X.env)).any (·.1) = false := by rfl) : Ev X (.Call (.Name "isinstance" p1) [a, .Name (Str.ofString T) p2] [] pos) σ F H r := fun F1 H1 g Q q =>
  GoE.of (pe_callB call_isk hg hm (by decide +kernel) (pa_cons pe_go (pa_cons (pe_bltn hgT hT hv (v := .ty T) rfl hn hd) pa_nil hs2) hs) (by decide) (by decide) hs hpl)
    (ha F1 H1 g _ fun v F2 H2 g2 r2 => ⟨v, _, T, r, rfl, Kd.kd g2.fh r2, h, q _ F2 H2 g2 rfl⟩)
theorem ev_isiO {α : Type} [Rp α] [NN α] [Kd α] {x : Option α} {T : String} {r : Bool} {p1 p2 : Pos} (h : kitB (Kd.nm α) T = some r) (h0 : kitB "NoneType" T = some false) (hm : X.mg "isinstance" = none) (hT : X.mg (Str.ofString T) = none) (hv : bootBuiltins (Str.ofString T) = some (.type T)) (ha : Ev X a σ F H x)
    (hg : Gl X "isinstance" := by rfl) (hgT : Gl X (Str.ofString T) := by rfl) (hn : (Str.ofString T) ≠ "__name__" := by decide) (hd : ((Str.ofString T) == ("__debug__" : Str)) = false := by decide)
    (hs : starEach [a, .Name (Str.ofString T) p2] X.env = (false, eval a X.env) :: starEach [.Name (Str.ofString T) p2] X.env := by rfl) (hs2 : starEach [.Name (Str.ofString T) p2] X.env = (false, eval (.Name (Str.ofString T) p2) X.env) :: starEach [] X.env := by rfl)
    (hpl : (backTo pos (starEach [.Name (Str.ofString T) p2] X.env)).any (·.1) = false := by rfl) : Ev X (.Call (.Name "isinstance" p1) [a, .Name (Str.ofString T) p2] [] pos) σ F H (x.isSome && r) := fun F1 H1 g Q q =>
  GoE.of (pe_callB call_isk hg hm (by decide +kernel) (pa_cons pe_go (pa_cons (pe_bltn hgT hT hv (v := .ty T) rfl hn hd) pa_nil hs2) hs) (by decide) (by decide) hs hpl)
    (ha F1 H1 g _ fun v F2 H2 g2 r2 => by
      cases x with
      | none =>
        have r2 : v = .non := r2
        subst r2
        exact ⟨_, _, T, false, rfl, .non, h0, q _ F2 H2 g2 rfl⟩
      | some x => exact ⟨v, _, T, r, rfl, Kd.kd (α := α) g2.fh r2, h, q _ F2 H2 g2 (by cases r <;> rfl)⟩)
/-! ### in -/
class Fv (α : Type) [Rp α] [DecidableEq α] : Prop where
  fv : ∀ {K : PySem.W.Frag} {F : Hp} {v : V} {x : α}, rp K F v x → flatV v = true
  ev : ∀ {K : PySem.W.Frag} {F : Hp} {v w : V} {x y : α}, rp K F v x → rp K F w y → eqV v w = decide (x = y)
instance : Fv Int := ⟨fun {K F v x} h => by
  have h : v = .int x := h
  subst h; rfl, fun {K F v w x y} h1 h2 => by
  have h1 : v = .int x := h1
  have h2 : w = .int y := h2
  subst h1; subst h2
  show (x == y) = _
  rw [Bool.beq_eq_decide_eq]⟩
instance : Fv Str := ⟨fun {K F v x} h => by
  have h : v = .str x := h
  subst h; rfl, fun {K F v w x y} h1 h2 => by
  have h1 : v = .str x := h1
  have h2 : w = .str y := h2
  subst h1; subst h2
  show (x == y) = _
  rw [Bool.beq_eq_decide_eq]⟩
theorem inV_eq {α : Type} [Rp α] [DecidableEq α] [Fv α] {v : V} {x : α} (h : rp K F v x) : ∀ {vs : List V} {xs : List α}, Rps K F vs xs → vs.all flatV = true ∧ inV v vs = decide (x ∈ xs)
  | _, _, .nil => ⟨rfl, by simp [inV]⟩
  | _, _, .cons (a := w) (b := y) (l₁ := vs) (l₂ := ys) r t => by
    obtain ⟨h1, h2⟩ := inV_eq h t
    refine ⟨by rw [List.all_cons, Fv.fv r, h1]; rfl, ?_⟩
    unfold inV at h2 ⊢
    rw [List.any_cons, h2, Fv.ev r h]
    by_cases e : x = y
    · subst e; simp
    · have e' : ¬ y = x := fun z => e z.symm
      simp [e, e']
theorem o2_inL {α : Type} [Rp α] [DecidableEq α] [Fv α] {x : α} {xs : List α} : Op2 K (rIn K false) x xs (decide (x ∈ xs)) := fun F H v w Q s rv ⟨p, vs, e, sq, rs⟩ k => by
  obtain ⟨h1, h2⟩ := inV_eq rv rs
  exact ⟨p, vs, e, .inl (s.seq sq), Fv.fv rv, h1, k _ F H (.refl s) (congrArg V.bl h2)⟩
theorem o2_notInL {α : Type} [Rp α] [DecidableEq α] [Fv α] {x : α} {xs : List α} : Op2 K (rIn K true) x xs (!decide (x ∈ xs)) := fun F H v w Q s rv ⟨p, vs, e, sq, rs⟩ k => by
  obtain ⟨h1, h2⟩ := inV_eq rv rs
  exact ⟨p, vs, e, .inl (s.seq sq), Fv.fv rv, h1, k _ F H (.refl s) (congrArg (fun t => V.bl (!t)) h2)⟩
theorem o2_inT {α : Type} [Rp α] [DecidableEq α] [Fv α] {x : α} {xs : Tp α} : Op2 K (rIn K false) x xs (decide (x ∈ xs.l)) := fun F H v w Q s rv ⟨p, vs, e, sq, rs⟩ k => by
  obtain ⟨h1, h2⟩ := inV_eq rv rs
  exact ⟨p, vs, e, .inr (seqT_mono s sq), Fv.fv rv, h1, k _ F H (.refl s) (congrArg V.bl h2)⟩
theorem o2_notInT {α : Type} [Rp α] [DecidableEq α] [Fv α] {x : α} {xs : Tp α} : Op2 K (rIn K true) x xs (!decide (x ∈ xs.l)) := fun F H v w Q s rv ⟨p, vs, e, sq, rs⟩ k => by
  obtain ⟨h1, h2⟩ := inV_eq rv rs
  exact ⟨p, vs, e, .inr (seqT_mono s sq), Fv.fv rv, h1, k _ F H (.refl s) (congrArg (fun t => V.bl (!t)) h2)⟩
/-! ### equal data -/
class Pd (α : Type) [Rp α] where
  toD : α → PyData
  dep : Nat
  dp : ∀ {K : PySem.W.Frag} {F : Hp} {v : V} {x : α}, rp K F v x → Dp K F v (toD x)
  de : ∀ x, (toD x).depth ≤ dep
  eq : ∀ x y, PyData.eqv (toD x) (toD y) = true ↔ x = y
/-- all texts within are texts of signs that Python can have -/
def okD {α : Type} [Rp α] [Pd α] (x : α) : Bool := (Pd.toD x).canLay0
instance : Pd Int := ⟨.int, 1, fun {K F v x} h => by
  have h : v = .int x := h
  subst h; exact .int x, fun x => by simp [PyData.depth], fun x y => by simp [PyData.eqv]⟩
instance : Pd Str := ⟨.str, 1, fun {K F v x} h => by
  have h : v = .str x := h
  subst h; exact .str x, fun x => by simp [PyData.depth], fun x y => by simp [PyData.eqv]⟩
instance : Pd Bool := ⟨.bool, 1, fun {K F v x} h => by
  have h : v = .bl x := h
  subst h; exact .bl x, fun x => by simp [PyData.depth], fun x y => by simp [PyData.eqv]⟩
end
end Gx
namespace Gx
open PySem PySem.Spec PyProof.Rows L2
open Rp (rp)
open Ra (ra)
section
variable {X : Cx} {K : PySem.W.Frag} {e a b c d : Expr} {es : List Expr} {σ : L2.St} {F H F0 H0 : Hp} {pos : Pos} {D : Ends} {st : Stmt} {rest body : List Stmt}
theorem et_chain {α β γ : Type} [Rp α] [Rp β] [Rp γ] {x : α} {y : β} {z : γ} {p q : Bool} {op op' : CmpOp} {r r' : R2} (ho : OpR X (compareOp op) r) (ho' : OpR X (compareOp op') r') (hr : Op2 X.K r x y p) (hr' : Op2 X.K r' y z q)
    (ha : Ev X a σ F H x) (hb : Ev X b σ F H y) (hc : Ev X c σ F H z) (hm : lastMarks [op, op'] [b, c] = false := by with_unfolding_all rfl) : EvT X (.Compare a [op, op'] [b, c] pos) σ F H (p && q) := fun F1 H1 g Q k =>
  GoT.of (pt_chain ho ho' pe_go pe_go pe_go hm) (ha F1 H1 g _ fun v F2 H2 g2 r2 => hb F2 H2 (g.trans g2) _ fun w F3 H3 g3 r3 => hr F3 H3 v w _ g3.fh (Rp.mono g3.ff r2) r3 fun u F4 H4 g4 r4 => by
    have r4 : u = .bl p := r4
    subst r4
    refine ⟨p, rfl, ?_⟩
    cases p with
    | true =>
      rw [if_pos rfl]
      exact hc F4 H4 (((g.trans g2).trans g3).trans g4) _ fun w' F5 H5 g5 r5 => hr' F5 H5 w w' _ g5.fh (Rp.mono (g4.ff.trans g5.ff) r3) r5 fun u' F6 H6 g6 r6 => by
        have r6 : u' = .bl q := r6
        subst r6
        exact ⟨q, rfl, k F6 H6 ((((g2.trans g3).trans g4).trans g5).trans g6)⟩
    | false =>
      rw [if_neg Bool.false_ne_true]
      exact ⟨false, rfl, k F4 H4 ((g2.trans g3).trans g4)⟩)
/-! ### copies, joins -/
theorem en_list_of {α : Type} [Rp α] {xs : List α} {p : Pos} (hm : X.mg "list" = none) (ha : Ev X a σ F H xs) (hg : Gl X "list" := by rfl) (hs : starEach [a] X.env = (false, eval a X.env) :: starEach [] X.env := by rfl) (hpl : (backTo pos (starEach [] X.env)).any (·.1) = false := by rfl) :
    EvN X (.Call (.Name "list" p) [a] [] pos) σ F H xs := fun F1 H1 g Q q =>
  GoE.of (pe_callTy call_list_of hg hm (by decide +kernel) (pa_cons pe_go pa_nil hs) (by decide) (by decide) hs hpl) (ha F1 H1 g _ fun v F2 H2 g2 ⟨p, vs, e, sq, rs⟩ => ⟨p, vs, by rw [e], .inl (g2.fh.seq sq), fun l hl => EvN.new q g2 hl rs⟩)
theorem en_list_tp {α : Type} [Rp α] {xs : Tp α} {p : Pos} (hm : X.mg "list" = none) (ha : Ev X a σ F H xs) (hg : Gl X "list" := by rfl) (hs : starEach [a] X.env = (false, eval a X.env) :: starEach [] X.env := by rfl) (hpl : (backTo pos (starEach [] X.env)).any (·.1) = false := by rfl) :
    EvN X (.Call (.Name "list" p) [a] [] pos) σ F H xs.l := fun F1 H1 g Q q =>
  GoE.of (pe_callTy call_list_of hg hm (by decide +kernel) (pa_cons pe_go pa_nil hs) (by decide) (by decide) hs hpl) (ha F1 H1 g _ fun v F2 H2 g2 ⟨p, vs, e, sq, rs⟩ => ⟨p, vs, by rw [e], .inr (seqT_mono g2.fh sq), fun l hl => EvN.new q g2 hl rs⟩)
theorem oc_tuple {α : Type} [Rp α] {xs : List α} : OpC K (fun vs H Q => ∃ p ys, vs = [.ref p] ∧ ((SqL K H p ys ∧ ∀ l, H l = none → Q (.ref l) (upd H l (.tup ys))) ∨ (SqT K H p ys ∧ Q (.ref p) H))) (xs, ()) (Tp.mk xs) :=
  oc1 fun F H v Q s ⟨p, vs, e, sq, rs⟩ k => ⟨p, vs, by rw [e], .inl ⟨s.seq sq, fun l hl => k _ (upd F l (.tup vs)) _ (Gr.new s hl) ⟨l, vs, rfl, SqT.of upd_same, rs.mono (same_upd (s.free hl))⟩⟩⟩
theorem oc_tupleT {α : Type} [Rp α] {xs : Tp α} : OpC K (fun vs H Q => ∃ p ys, vs = [.ref p] ∧ ((SqL K H p ys ∧ ∀ l, H l = none → Q (.ref l) (upd H l (.tup ys))) ∨ (SqT K H p ys ∧ Q (.ref p) H))) (xs, ()) xs :=
  oc1 fun F H v Q s ⟨p, vs, e, sq, rs⟩ k => ⟨p, vs, by rw [e], .inr ⟨seqT_mono s sq, k _ F H (.refl s) ⟨p, vs, rfl, sq, rs⟩⟩⟩
theorem oc_abs {i : Int} : OpC K (fun xs H Q => ∃ i, xs = [.int i] ∧ Q (.int (if i < 0 then -i else i)) H) (i, ()) (if i < 0 then -i else i) :=
  oc1 fun F H v Q s rv k => ⟨i, by rw [show v = .int i from rv], k _ F H (.refl s) rfl⟩
theorem oc_max2 {i j : Int} : OpC K (fun xs H Q => ∃ i j, xs = [.int i, .int j] ∧ Q (.int (if j > i then j else i)) H) (i, j, ()) (if j > i then j else i) :=
  oc2 fun F H v w Q s rv rw' k => ⟨i, j, by rw [show v = .int i from rv, show w = .int j from rw'], k _ F H (.refl s) rfl⟩
theorem oc_min2 {i j : Int} : OpC K (fun xs H Q => ∃ i j, xs = [.int i, .int j] ∧ Q (.int (if j < i then j else i)) H) (i, j, ()) (if j < i then j else i) :=
  oc2 fun F H v w Q s rv rw' k => ⟨i, j, by rw [show v = .int i from rv, show w = .int j from rw'], k _ F H (.refl s) rfl⟩
def rCatL (K : PySem.W.Frag) : R2 := fun x y H Q => ∃ a b xs ys, x = .ref a ∧ y = .ref b ∧ SqL K H a xs ∧ SqL K H b ys ∧ xs.length + ys.length ≤ sizeLine ∧ ∀ p, H p = none → Q (.ref p) (upd H p (.lst (xs ++ ys)))
theorem op_catL : OpR X (binaryOp .Add) (rCatL X.K) := by
  intro pins s σ H x y v u Q I rx ry h
  obtain ⟨a, b, xs, ys, rfl, rfl, ha, hb, hz, q⟩ := h
  cases rx
  cases ry
  obtain ⟨its, r, ⟨⟨cls, dd, data, sl⟩, n, ho, hc, _, hd⟩, _⟩ := I.list ha
  obtain ⟨its2, r2, ⟨⟨cls2, dd2, data2, sl2⟩, n2, ho2, hc2, _, hd2⟩, _⟩ := I.list hb
  simp only at hc hd hc2 hd2
  subst hc hd hc2 hd2
  have e : its.toArray ++ its2.toArray = (its ++ its2).toArray := by simp
  refine concat_meets ⟨_, ho, rfl⟩ ⟨_, ho2, rfl⟩ noFill_list_add seq_list_add PySem.F.slot_list_add PySem.F.entry_list_add (PySem.F.args_list_add_2 _ _) (list_addW a b its.toArray its2.toArray n n2 dd dd2 sl sl2 (by rw [List.size_toArray, List.size_toArray, ← r.length, ← r2.length]; exact hz)) ⟨ho, ho2, ?_⟩
  rw [e]
  exact ⟨.ref _, _, I.lnew (t' := s.toks) (r.append r2) (by rw [List.length_append]; exact hz), rfl, q _ I.fresh⟩
def catG {α : Type} (xs ys : List α) : Option (List α) := if xs.length + ys.length ≤ sizeLine then some (xs ++ ys) else none
theorem en_cat {α : Type} [Rp α] {xs ys r : List α} (ha : Ev X a σ F H xs) (hb : Ev X b σ F H ys) (h : catG xs ys = some r) : EvN X (.BinOp a .Add b pos) σ F H r := fun F1 H1 g Q q =>
  GoE.of (pe_op op_catL pe_go pe_go) (ha F1 H1 g _ fun v F2 H2 g2 r2 => hb F2 H2 (g.trans g2) _ fun w F3 H3 g3 ⟨p', vs', e', sq', rs'⟩ => by
    obtain ⟨p, vs, e, sq, rs⟩ := Rp.mono g3.ff r2
    unfold catG at h
    split at h
    · rename_i hz
      cases (Option.some.inj h)
      exact ⟨p, p', vs, vs', e, e', g3.fh.seq sq, g3.fh.seq sq', by rw [rs.length, rs'.length]; exact hz, fun l hl => EvN.new q (g2.trans g3) hl (Rps.append rs rs')⟩
    · cases h)
def catT {α : Type} (xs ys : Tp α) : Option (Tp α) := if xs.l.length + ys.l.length ≤ sizeLine then some ⟨xs.l ++ ys.l⟩ else none
theorem Rps.nil_r {α : Type} [Rp α] : ∀ {vs : List V} {xs : List α}, Rps K F vs xs → (vs = [] ↔ xs = [])
  | _, _, .nil => by simp
  | _, _, .cons _ _ => by simp
theorem o2_catT {α : Type} [Rp α] {xs ys r : Tp α} (h : catT xs ys = some r) : Op2 K (rCatA K) xs ys r := fun F H v w Q s ⟨p, vs, e, sq, rs⟩ ⟨p', vs', e', sq', rs'⟩ k => by
  unfold catT at h
  split at h
  · rename_i hz
    cases (Option.some.inj h)
    refine ⟨p, p', vs, vs', e, e', seqT_mono s sq, seqT_mono s sq', by rw [rs.length, rs'.length]; exact hz, fun e0 => ?_, fun _ e0 => ?_, fun _ _ l hl => ?_⟩
    · refine k _ F H (.refl s) ⟨p', vs', rfl, sq', ?_⟩
      rw [rs.nil_r.mp e0]; exact rs'
    · refine k _ F H (.refl s) ⟨p, vs, rfl, sq, ?_⟩
      rw [rs'.nil_r.mp e0, List.append_nil]; exact rs
    · exact k _ (upd F l (.tup (vs ++ vs'))) _ (Gr.new s hl) ⟨l, _, rfl, SqT.of upd_same, (Rps.append rs rs').mono (same_upd (s.free hl))⟩
  · cases h
theorem ev_catT {α : Type} [Rp α] {xs ys r : Tp α} (ha : Ev X a σ F H xs) (hb : Ev X b σ F H ys) (h : catT xs ys = some r) : Ev X (.BinOp a .Add b pos) σ F H r := ev_bin op_catA (o2_catT h) ha hb
theorem ev_sliceT {α : Type} [Rp α] {xs : Tp α} {lo hi : Option Expr} {i j : Option Int} {p2 : Pos} (ha : Ev X a σ F H xs) (hl : EvO X lo σ F H i) (hh : EvO X hi σ F H j) : Ev X (.Subscript a (.Slice lo hi none p2) pos) σ F H (Tp.mk (cut xs.l i j)) := fun F1 H1 g Q q =>
  GoE.of (pe_slice sl_tupA pe_go po_go po_go) (ha F1 H1 g _ fun v F2 H2 g2 r2 => hl F2 H2 (g.trans g2) _ fun F3 H3 g3 => hh F3 H3 ((g.trans g2).trans g3) _ fun F4 H4 g4 => by
    obtain ⟨p, vs, rfl, sq, rs⟩ := Rp.mono (g3.ff.trans g4.ff) r2
    refine ⟨p, vs, rfl, seqT_mono g4.fh sq, fun hw => ?_, fun _ l hl => ?_⟩
    · refine q _ F4 H4 ((g2.trans g3).trans g4) ⟨p, vs, rfl, sq, ?_⟩
      have hw' : HT.sIx xs.l.length 0 i = 0 ∧ HT.sIx xs.l.length xs.l.length j = xs.l.length := by rw [← rs.length]; exact hw
      show Rps _ _ vs (cut xs.l i j)
      unfold cut
      rw [hw'.1, hw'.2]
      simpa using rs
    · exact q _ (upd F4 l (.tup _)) _ (((g2.trans g3).trans g4).trans (Gr.new g4.fh hl)) ⟨l, _, rfl, SqT.of upd_same, (rs.cut i j).mono (same_upd (g4.fh.free hl))⟩)
end
end Gx

/-! Gm: facts of the mirrors' operations. -/
namespace Gx
open PySem PySem.Spec PyProof.Rows L2
/-- a text of signs -/
abbrev S (l : List Nat) : Str := ⟨l.toArray⟩
theorem S_tl (x : Str) : S x.cps.toList = x := TL.mk_tl x
theorem S_len (a : List Nat) : (S a).length = a.length := by simp [S, Str.length]
theorem szl : sizeLine = 16777216 := PySem.sizeLine_eq
theorem len_cl (z : Str) : z.length = z.cps.toList.length := by simp [Str.length]
theorem atI_ok {α : Type} {xs : List α} {i : Int} (h0 : 0 ≤ i) (h1 : i < xs.length) : ∃ v, L2.atI xs i = some v ∧ xs[i.toNat]? = some v := by
  have hl : i.toNat < xs.length := by omega
  refine ⟨xs[i.toNat], ?_, List.getElem?_eq_getElem hl⟩
  unfold L2.atI ixN
  rw [if_pos h0, if_pos h1]
  exact List.getElem?_eq_getElem hl
theorem atI_nn {α : Type} {xs : List α} {i : Int} (h0 : 0 ≤ i) : L2.atI xs i = xs[i.toNat]? := by
  unfold L2.atI ixN
  rw [if_pos h0]
  by_cases h1 : i < xs.length
  · rw [if_pos h1]; rfl
  · rw [if_neg h1, List.getElem?_eq_none (by omega)]; rfl
theorem cut_len {α : Type} (xs : List α) (i j : Option Int) : (cut xs i j).length ≤ xs.length := by
  unfold cut
  rw [List.length_take, List.length_drop]; omega
theorem sCut_ok {z : Str} (h : z.length ≤ sizeLine) (i j : Option Int) : ∃ r, sCut z i j = some r ∧ r.length ≤ z.length ∧ r.cps.toList = cut z.cps.toList i j := by
  refine ⟨cutS z i j, if_pos h, ?_, ?_⟩
  · unfold cutS
    rw [len_cl, len_cl]
    simp only [List.length_take, List.length_drop]
    omega
  · unfold cutS cut
    rw [len_cl]
theorem sLen_ok {z : Str} (h : z.length ≤ sizeLine) : sLen z = some (z.length : Int) := if_pos h
theorem app_len (a b : Str) : (a ++ b).length = a.length + b.length := by
  have e := TL.tl_append a b
  have e2 : (a ++ b).cps.toList = a.cps.toList ++ b.cps.toList := e
  rw [len_cl, e2, List.length_append, ← len_cl, ← len_cl]
theorem app_cl (a b : Str) : (a ++ b).cps.toList = a.cps.toList ++ b.cps.toList := TL.tl_append a b
theorem sAdd_ok {a b : Str} (h : a.length + b.length ≤ sizeLine) : sAdd a b = some (a ++ b) := if_pos h
theorem sOfI_ok {n : Int} (h0 : 0 ≤ n) (h1 : n < 10 ^ 18) : ∃ r, sOfI n = some r ∧ r.length ≤ 18 ∧ r.cps.toList = TL.numL n.toNat := by
  have e : (n.toNat : Int) = n := Int.toNat_of_nonneg h0
  refine ⟨Str.ofString (toString n), if_pos ?_, ?_, ?_⟩
  · have h2 : n.natAbs < 2 ^ 1920 := by
      have : (10 : Nat) ^ 18 ≤ 2 ^ 1920 := by decide +kernel
      omega
    by_cases hz : n.natAbs = 0
    · rw [hz]; decide
    · exact (Nat.log2_lt hz).mpr h2
  · rw [len_cl]
    have e2 : (Str.ofString (toString n)).cps.toList = TL.numL n.toNat := by rw [← e]; exact TL.tl_num _
    rw [e2]
    exact TL.numL_len (by decide) (by omega)
  · rw [← e]; exact TL.tl_num _
theorem rep_fold (xs : Array Nat) : ∀ (n : Nat) (acc : Array Nat), ((List.replicate n xs).foldl (· ++ ·) acc).size = acc.size + n * xs.size
  | 0, acc => by simp
  | n + 1, acc => by
    rw [List.replicate_succ, List.foldl_cons, rep_fold xs n, Array.size_append, Nat.succ_mul]; omega
theorem sMul_ok {z : Str} {n : Int} (h0 : 0 ≤ n) (h1 : n ≤ 1000) (h2 : z.length ≤ 1000) : ∃ r, sMul z n = some r ∧ r.length ≤ z.length * n.toNat := by
  have hb : z.length * n.toNat ≤ 1000 * 1000 := Nat.mul_le_mul h2 (by omega)
  refine ⟨Txt.mul z n, if_pos ⟨by omega, by omega, by omega⟩, ?_⟩
  · unfold Txt.mul
    split
    · exact Nat.zero_le _
    · split
      · rename_i hh
        rcases Bool.or_eq_true_iff.mp hh with h | h
        · have : n = 1 := by simpa using h
          subst this; simp
        · have : z.length = 0 := by simpa using h
          rw [this]; exact Nat.zero_le _
      · show (Array.size _) ≤ _
        rw [rep_fold]
        show 0 + n.toNat * z.cps.size ≤ z.length * n.toNat
        rw [Nat.zero_add, Nat.mul_comm]
        exact Nat.le_refl _
/-! ### loops -/
theorem loopN_inv {α β : Type} {st : β → α → Option β} (J : β → List α → Prop) : ∀ (xs : List α) (b : β), J b xs → (∀ b x ys, J b (x :: ys) → ∃ b', st b x = some b' ∧ J b' ys) → ∃ b', loopN st b xs = some b' ∧ J b' []
  | [], b, h, _ => ⟨b, rfl, h⟩
  | x :: xs, b, h, hs => by
    obtain ⟨b', e, h'⟩ := hs b x xs h
    obtain ⟨b2, e2, h2⟩ := loopN_inv J xs b' h' hs
    exact ⟨b2, by unfold loopN; rw [e]; exact e2, h2⟩
theorem loopN_cons {α β : Type} {st : β → α → Option β} {b b' : β} {x : α} {xs : List α} (h : st b x = some b') : loopN st b (x :: xs) = loopN st b' xs := by
  unfold loopN; rw [h]
  cases xs <;> rfl
theorem loopM_nx {α β ρ : Type} {st : β → α → Option (Lp β ρ)} {b b' : β} {x : α} {xs : List α} (h : st b x = some (.nx b')) : loopM st b (x :: xs) = loopM st b' xs := by
  rw [loopM, h]
theorem loopM_rt {α β ρ : Type} {st : β → α → Option (Lp β ρ)} {b : β} {r : ρ} {x : α} {xs : List α} (h : st b x = some (.rt r)) : loopM st b (x :: xs) = some (.rt r) := by
  rw [loopM, h]
theorem compM_map {α γ : Type} {f : α → Option (Option γ)} {g : α → γ} : ∀ {xs : List α}, (∀ x ∈ xs, f x = some (some (g x))) → compM f xs = some (xs.map g)
  | [], _ => rfl
  | x :: xs, h => by
    rw [compM, h x List.mem_cons_self, compM_map fun y hy => h y (List.mem_cons_of_mem _ hy)]
    rfl
theorem compM_filter {α γ : Type} {f : α → Option (Option γ)} {p : α → Bool} {g : α → γ} : ∀ {xs : List α}, (∀ x ∈ xs, f x = some (if p x then some (g x) else none)) → compM f xs = some ((xs.filter p).map g)
  | [], _ => rfl
  | x :: xs, h => by
    rw [compM, h x List.mem_cons_self, compM_filter fun y hy => h y (List.mem_cons_of_mem _ hy)]
    cases e : p x with
    | true => simp [e]
    | false => simp [e]
theorem compG_map {α γ : Type} {f : α → Option (Option γ)} {g : α → γ} {xs : List α} (hl : xs.length ≤ sizeLine) (h : ∀ x ∈ xs, f x = some (some (g x))) : compG f xs = some (xs.map g) := by
  unfold compG; rw [if_pos hl]; exact compM_map h
theorem compG_filter {α γ : Type} {f : α → Option (Option γ)} {p : α → Bool} {g : α → γ} {xs : List α} (hl : xs.length ≤ sizeLine) (h : ∀ x ∈ xs, f x = some (if p x then some (g x) else none)) : compG f xs = some ((xs.filter p).map g) := by
  unfold compG; rw [if_pos hl]; exact compM_filter h
theorem int_S {a : List Nat} (h : ∀ c ∈ a, 48 ≤ c ∧ c ≤ 57) (hne : a ≠ []) (hl : a.length ≤ 4300) : PySem.intText? (S a) = some ((NumText.digitsVal a : Nat) : Int) :=
  SX.int_S (List.all_eq_true.mpr fun c hc => by rw [decide_eq_true (h c hc).1, decide_eq_true (h c hc).2]; rfl) hne hl
end Gx

namespace Law
open PySem PySem.Spec PyProof.Rows L2 Gx
open Rp (rp)
open Ra (ra)

/-! ### the text -/
def top (i : Nat) : Stmt := PySem.Challenge.pw_furrow_k21_numbers_read.main.body.getD i (.Pass ⟨0, 0, 0, 0⟩)
abbrev s_cell_at : Stmt := top 5
abbrev s_sign : Stmt := top 8
abbrev s_text : Stmt := top 9
abbrev s_figures : Stmt := top 7
abbrev s_number_of : Stmt := top 3
abbrev s_whole : Stmt := top 6
abbrev s_law : Stmt := top 10
/-! ### mirrors -/
def m_cell_at (x_script : (List Int)) (x_k : Int) : Option Int :=
  if (decide (x_k < (x_script.length : Int))) = true then (L2.atI x_script x_k).bind fun t1 => some t1 else some (0 : Int)
def m_sign (x_cell : Int) : Option Str :=
  (some (" !\"#$&'()*+,-./0123456789:;<=>?@ABCDEFGHIJKLMNOPQRSTUVWXYZ[\\]^_`" : Str)).bind fun x_some => (sAdd x_some ("abcdefghijklmnopqrstuvwxyz{|}~" : Str)).bind fun t1 => (some t1).bind fun x_some => (sAt x_some (x_cell % (94 : Int))).bind fun t2 => some t2
def m_text (x_script : (List Int)) : Option Str :=
  (m_cell_at x_script (0 : Int)).bind fun t1 => (some t1).bind fun x_cell => (m_cell_at x_script (1 : Int)).bind fun t2 => (sOfI (t2 % (1000000000000000000 : Int))).bind fun t3 => (m_cell_at x_script (2 : Int)).bind fun t4 => (sCut t3 none (some ((1 : Int) + (t4 % (18 : Int))))).bind fun t5 => (some t5).bind fun x_figures_here => (some (x_cell % (8 : Int))).bind fun x_way => (sLen x_figures_here).bind fun t6 => (modG (x_cell / (8 : Int)) (t6 + (1 : Int))).bind fun t7 => (some t7).bind fun x_at => (m_cell_at x_script (3 : Int)).bind fun t8 => (m_sign t8).bind fun t9 => (some t9).bind fun x_sign_here => if (decide (x_way = (3 : Int))) = true then (sMul ("0" : Str) ((1 : Int) + ((x_cell / (8 : Int)) % (3 : Int)))).bind fun t10 => (sAdd t10 x_figures_here).bind fun t11 => some t11 else if (decide (x_way = (4 : Int))) = true then (m_cell_at x_script (3 : Int)).bind fun t12 => (sOfI (t12 % (1000000000000000000 : Int))).bind fun t13 => (sAdd x_figures_here t13).bind fun t14 => some t14 else if (decide (x_way = (5 : Int))) = true then (sCut x_figures_here none (some x_at)).bind fun t15 => (sAdd t15 x_sign_here).bind fun t16 => (sCut x_figures_here (some x_at) none).bind fun t17 => (sAdd t16 t17).bind fun t18 => some t18 else if (decide (x_way = (6 : Int))) = true then (sCut x_figures_here none (some x_at)).bind fun t19 => (sAdd t19 x_sign_here).bind fun t20 => (sCut x_figures_here (some (x_at + (1 : Int))) none).bind fun t21 => (sAdd t20 t21).bind fun t22 => some t22 else if (decide (x_way = (7 : Int))) = true then (sMul ("0" : Str) ((x_cell / (8 : Int)) % (2 : Int))).bind fun t23 => some t23 else some x_figures_here
def m_figures (x_text_here : Str) : Option Int :=
  (sLen x_text_here).bind fun t1 => (if (!((decide ((1 : Int) ≤ t1)) && (decide (t1 ≤ (18 : Int))))) = true then some true else (sAt x_text_here (0 : Int)).bind fun t2 => (if (decide (t2 = ("0" : Str))) = true then (sLen x_text_here).bind fun t3 => some (decide ((1 : Int) < t3)) else some false).bind fun t4 => some t4).bind fun t5 => if t5 = true then some (-(1 : Int)) else (some (0 : Int)).bind fun x_found => (loopM (ρ := Int) (fun (b6 : Int) (x_sign_here : Str) => (some (Txt.find ("0123456789" : Str) x_sign_here)).bind fun x_at => if (decide (x_at < (0 : Int))) = true then some (Lp.rt (-(1 : Int))) else (some (((10 : Int) * b6) + x_at)).bind fun x_found => some (Lp.nx x_found)) x_found (sgns x_text_here)).bind fun o8 => o8.thn (fun (b10 : Int) => some b10) (fun (r_ : Int) => some r_)
def m_number_of (x_text : Str) : Option (Option Int) :=
  (sLen x_text).bind fun t1 => if (!((decide ((1 : Int) ≤ t1)) && (decide (t1 ≤ (18 : Int))))) = true then some (none : (Option Int)) else (loopM (ρ := (Option Int)) (fun (b2 : Unit) (x_sign : Str) => (sIn x_sign ("0123456789" : Str)).bind fun t6 => if (!t6) = true then some (Lp.rt (none : (Option Int))) else some (Lp.nx ())) () (sgns x_text)).bind fun o4 => o4.thn (fun (b7 : Unit) => (sAt x_text (0 : Int)).bind fun t8 => (if (decide (t8 = ("0" : Str))) = true then (sLen x_text).bind fun t9 => some (decide ((1 : Int) < t9)) else some false).bind fun t10 => if t10 = true then some (none : (Option Int)) else (iOfS x_text).bind fun t11 => some (some t11)) (fun (r_ : (Option Int)) => some r_)
def m_whole (x_found : (Option Int)) : Option Bool :=
  some ((x_found.isSome && true) && (!(x_found.isSome && false)))
def m_law (x_script : (List Int)) : Option Bool :=
  (m_text x_script).bind fun t1 => (some t1).bind fun x_text_here => (m_figures x_text_here).bind fun t2 => (some t2).bind fun x_due => (m_number_of x_text_here).bind fun t3 => (some t3).bind fun x_found => if (decide (x_due < (0 : Int))) = true then some x_found.isNone else (m_whole x_found).bind fun t4 => some (t4 && (decide (x_found = (some x_due))))

/-! ### the mathematics -/
theorem cell_at_ok (ns : List Int) {k : Int} (h0 : 0 ≤ k) : ∃ v, m_cell_at ns k = some v := by
  unfold m_cell_at
  by_cases h : k < (ns.length : Int)
  · obtain ⟨v, hv, _⟩ := atI_ok h0 h
    rw [if_pos (decide_eq_true h), hv]
    exact ⟨v, rfl⟩
  · rw [if_neg (by rw [decide_eq_false h]; exact Bool.false_ne_true)]
    exact ⟨0, rfl⟩
theorem sign_ok (n : Int) : ∃ t, m_sign n = some t ∧ t.length = 1 := by
  unfold m_sign
  have h0 : 0 ≤ n % 94 := Int.emod_nonneg _ (by decide)
  have h1 : n % 94 < 94 := Int.emod_lt_of_pos _ (by decide)
  have e1 : sAdd (" !\"#$&'()*+,-./0123456789:;<=>?@ABCDEFGHIJKLMNOPQRSTUVWXYZ[\\]^_`" : Str) ("abcdefghijklmnopqrstuvwxyz{|}~" : Str) = some ((" !\"#$&'()*+,-./0123456789:;<=>?@ABCDEFGHIJKLMNOPQRSTUVWXYZ[\\]^_`" : Str) ++ ("abcdefghijklmnopqrstuvwxyz{|}~" : Str)) := sAdd_ok (by decide +kernel)
  simp only [Option.bind_some, e1]
  have hl : ((" !\"#$&'()*+,-./0123456789:;<=>?@ABCDEFGHIJKLMNOPQRSTUVWXYZ[\\]^_`" : Str) ++ ("abcdefghijklmnopqrstuvwxyz{|}~" : Str)).cps.toList.length = 94 := by decide +kernel
  obtain ⟨c, hc, _⟩ := atI_ok (xs := ((" !\"#$&'()*+,-./0123456789:;<=>?@ABCDEFGHIJKLMNOPQRSTUVWXYZ[\\]^_`" : Str) ++ ("abcdefghijklmnopqrstuvwxyz{|}~" : Str)).cps.toList) h0 (by rw [hl]; exact h1)
  refine ⟨⟨#[c]⟩, ?_, rfl⟩
  unfold sAt
  rw [if_pos (by rw [len_cl, hl]; decide), hc]
  rfl
theorem text_ok (ns : List Int) : ∃ t, m_text ns = some t ∧ t.length ≤ 600 := by
  unfold m_text
  obtain ⟨v0, e0⟩ := cell_at_ok ns (k := 0) (by decide)
  obtain ⟨v1, e1⟩ := cell_at_ok ns (k := 1) (by decide)
  obtain ⟨v2, e2⟩ := cell_at_ok ns (k := 2) (by decide)
  obtain ⟨v3, e3⟩ := cell_at_ok ns (k := 3) (by decide)
  obtain ⟨s1, f1, l1, _⟩ := sOfI_ok (n := v1 % 1000000000000000000) (Int.emod_nonneg _ (by decide)) (Int.emod_lt_of_pos _ (by decide))
  obtain ⟨s3, f3, l3, _⟩ := sOfI_ok (n := v3 % 1000000000000000000) (Int.emod_nonneg _ (by decide)) (Int.emod_lt_of_pos _ (by decide))
  have big : ∀ {z : Str}, z.length ≤ 600 → z.length ≤ sizeLine := fun h => Nat.le_trans h (by rw [szl]; decide)
  obtain ⟨s2, f2, l2, _⟩ := sCut_ok (z := s1) (big (by omega)) none (some ((1 : Int) + (v2 % (18 : Int))))
  obtain ⟨sg, fg, lg⟩ := sign_ok v3
  have fl := sLen_ok (z := s2) (big (by omega))
  have hm : modG (v0 / 8) ((s2.length : Int) + 1) = some ((v0 / 8) % ((s2.length : Int) + 1)) := if_pos (by omega)
  simp only [e0, e1, e2, e3, f1, f2, f3, fg, fl, hm, Option.bind_some]
  have cat : ∀ {a b : Str} {n : Nat}, a.length + b.length ≤ n → n ≤ 600 → ∃ t, (sAdd a b) = some t ∧ t.length ≤ n := fun {a b n} h hn => ⟨a ++ b, sAdd_ok (Nat.le_trans (Nat.le_trans h hn) (by rw [szl]; decide)), by rw [app_len]; exact h⟩
  obtain ⟨z3, g3, k3⟩ := sMul_ok (z := ("0" : Str)) (n := (1 : Int) + ((v0 / 8) % 3)) (by omega) (by omega) (by decide +kernel)
  obtain ⟨z7, g7, k7⟩ := sMul_ok (z := ("0" : Str)) (n := ((v0 / 8) % 2)) (by omega) (by omega) (by decide +kernel)
  have l0 : ("0" : Str).length = 1 := by decide +kernel
  rw [l0] at k3 k7
  obtain ⟨c1, p1, q1, _⟩ := sCut_ok (z := s2) (big (by omega)) none (some ((v0 / 8) % ((s2.length : Int) + 1)))
  obtain ⟨c2, p2, q2, _⟩ := sCut_ok (z := s2) (big (by omega)) (some ((v0 / 8) % ((s2.length : Int) + 1))) none
  obtain ⟨c3, p3, q3, _⟩ := sCut_ok (z := s2) (big (by omega)) (some ((v0 / 8) % ((s2.length : Int) + 1) + 1)) none
  obtain ⟨a1, r1, w1⟩ := cat (a := z3) (b := s2) (n := 100) (by omega) (by decide)
  obtain ⟨a2, r2, w2⟩ := cat (a := s2) (b := s3) (n := 100) (by omega) (by decide)
  obtain ⟨a3, r3, w3⟩ := cat (a := c1) (b := sg) (n := 100) (by omega) (by decide)
  obtain ⟨a4, r4, w4⟩ := cat (a := a3) (b := c2) (n := 200) (by omega) (by decide)
  obtain ⟨a5, r5, w5⟩ := cat (a := a3) (b := c3) (n := 200) (by omega) (by decide)
  simp only [g3, g7, p1, p2, p3, r1, r2, r3, r4, r5, Option.bind_some]
  repeat' split
  all_goals exact ⟨_, rfl, by omega⟩
theorem occ_pre (x : Str) (c : Nat) (h : c ∉ x.cps.toList) : Txt.find x ⟨#[c]⟩ = -1 := by
  have e := PySem.StrLaws.found_one x c
  rw [decide_eq_false h] at e
  unfold Txt.find
  cases q : Builtin.Str.occurrences x ⟨#[c]⟩ 0 x.length 1 with
  | nil => rfl
  | cons i r => rw [q] at e; cases e
theorem figs : ("0123456789" : Str).cps.toList = [48, 49, 50, 51, 52, 53, 54, 55, 56, 57] := by decide +kernel
theorem find_dig (c : Nat) : Txt.find ("0123456789" : Str) ⟨#[c]⟩ = if 48 ≤ c ∧ c ≤ 57 then (c : Int) - 48 else -1 := by
  by_cases h : 48 ≤ c ∧ c ≤ 57
  · rw [if_pos h]
    obtain ⟨h1, h2⟩ := h
    have : c = 48 ∨ c = 49 ∨ c = 50 ∨ c = 51 ∨ c = 52 ∨ c = 53 ∨ c = 54 ∨ c = 55 ∨ c = 56 ∨ c = 57 := by omega
    rcases this with h | h | h | h | h | h | h | h | h | h <;> subst h <;> decide +kernel
  · rw [if_neg h]
    exact occ_pre _ _ (by rw [figs]; simp; omega)
theorem in_dig (c : Nat) : sIn ⟨#[c]⟩ ("0123456789" : Str) = some (decide (48 ≤ c ∧ c ≤ 57)) := by
  show some (decide (c ∈ ("0123456789" : Str).cps.toList)) = _
  rw [figs]
  congr 1
  rw [decide_eq_decide]
  simp
  omega
theorem sgns_cons (c : Nat) (cs : List Nat) : sgns (S (c :: cs)) = ⟨#[c]⟩ :: sgns (S cs) := rfl
theorem fig_loop : ∀ (cs : List Nat) (b : Int), loopM (ρ := Int) (fun (b6 : Int) (x_sign_here : Str) => if (decide (Txt.find ("0123456789" : Str) x_sign_here < (0 : Int))) = true then some (Lp.rt (-(1 : Int))) else some (Lp.nx (((10 : Int) * b6) + Txt.find ("0123456789" : Str) x_sign_here))) b (sgns (S cs)) =
    if (∀ c ∈ cs, 48 ≤ c ∧ c ≤ 57) then some (.nx (cs.foldl (fun (a : Int) (c : Nat) => 10 * a + ((c : Int) - 48)) b)) else some (.rt (-1))
  | [], b => by simp [sgns, loopM]
  | c :: cs, b => by
    rw [sgns_cons]
    by_cases h : 48 ≤ c ∧ c ≤ 57
    · have hf := find_dig c
      rw [if_pos h] at hf
      rw [loopM_nx (b' := 10 * b + ((c : Int) - 48)) (by
        rw [hf, if_neg (by rw [decide_eq_false (by omega)]; exact Bool.false_ne_true)])]
      rw [fig_loop cs]
      by_cases h2 : ∀ c ∈ cs, 48 ≤ c ∧ c ≤ 57
      · rw [if_pos h2, if_pos (by intro d hd; rcases List.mem_cons.mp hd with e | e; (subst e; exact h); exact h2 d e)]
        rfl
      · rw [if_neg h2, if_neg (fun g => h2 fun d hd => g d (List.mem_cons_of_mem _ hd))]
    · have hf := find_dig c
      rw [if_neg h] at hf
      rw [loopM_rt (r := -1) (by rw [hf]; rfl), if_neg (fun g => h (g c List.mem_cons_self))]
theorem num_loop : ∀ (cs : List Nat), loopM (ρ := (Option Int)) (fun (b2 : Unit) (x_sign : Str) => (sIn x_sign ("0123456789" : Str)).bind fun t6 => if (!t6) = true then some (Lp.rt (none : (Option Int))) else some (Lp.nx ())) () (sgns (S cs)) =
    if (∀ c ∈ cs, 48 ≤ c ∧ c ≤ 57) then some (.nx ()) else some (.rt none)
  | [] => by simp [sgns, loopM]
  | c :: cs => by
    rw [sgns_cons]
    by_cases h : 48 ≤ c ∧ c ≤ 57
    · rw [loopM_nx (b' := ()) (by rw [in_dig, decide_eq_true h]; rfl), num_loop cs]
      by_cases h2 : ∀ c ∈ cs, 48 ≤ c ∧ c ≤ 57
      · rw [if_pos h2, if_pos (by intro d hd; rcases List.mem_cons.mp hd with e | e; (subst e; exact h); exact h2 d e)]
      · rw [if_neg h2, if_neg (fun g => h2 fun d hd => g d (List.mem_cons_of_mem _ hd))]
    · rw [loopM_rt (r := none) (by rw [in_dig, decide_eq_false h]; rfl), if_neg (fun g => h (g c List.mem_cons_self))]
theorem fold_val : ∀ (cs : List Nat) (b : Nat), (∀ c ∈ cs, 48 ≤ c ∧ c ≤ 57) → cs.foldl (fun (a : Int) (c : Nat) => 10 * a + ((c : Int) - 48)) (b : Int) = ((cs.foldl (fun acc c => acc * 10 + (c - 48)) b : Nat) : Int)
  | [], b, _ => rfl
  | c :: cs, b, h => by
    have hc := h c List.mem_cons_self
    rw [List.foldl_cons, List.foldl_cons, ← fold_val cs _ fun d hd => h d (List.mem_cons_of_mem _ hd)]
    congr 1
    omega
theorem both (cs : List Nat) (hl : cs.length ≤ 600) : ∃ d r, m_figures (S cs) = some d ∧ m_number_of (S cs) = some r ∧ ((d < 0 ∧ r = none) ∨ (¬ d < 0 ∧ r = some d)) := by
  have hS : (S cs).length = cs.length := S_len cs
  have hb : (S cs).length ≤ sizeLine := by rw [hS, szl]; omega
  unfold m_figures m_number_of
  rw [sLen_ok hb, hS]
  simp only [Option.bind_some]
  by_cases h1 : 1 ≤ cs.length ∧ cs.length ≤ 18
  · have c1 : (!(decide ((1 : Int) ≤ (cs.length : Int)) && decide ((cs.length : Int) ≤ 18))) = false := by
      rw [decide_eq_true (by omega), decide_eq_true (by omega)]; rfl
    rw [c1, if_neg Bool.false_ne_true, if_neg Bool.false_ne_true]
    obtain ⟨c0, cs', rfl⟩ : ∃ c0 cs', cs = c0 :: cs' := by
      cases cs with
      | nil => simp at h1
      | cons c0 cs' => exact ⟨c0, cs', rfl⟩
    have ha : sAt (S (c0 :: cs')) 0 = some ⟨#[c0]⟩ := by
      unfold sAt
      rw [if_pos hb, atI_nn (by decide)]
      rfl
    rw [ha, num_loop, fig_loop]
    have e0 : (decide ((⟨#[c0]⟩ : Str) = ("0" : Str))) = decide (c0 = 48) := by
      rw [decide_eq_decide]
      constructor
      · intro h
        have := congrArg (fun z : Str => z.cps.toList) h
        have e2 : ("0" : Str).cps.toList = [48] := by decide +kernel
        simp only [e2] at this
        simpa using this
      · intro h; subst h; decide +kernel
    simp only [Option.bind_some, e0]
    by_cases hz : c0 = 48 ∧ 1 < (c0 :: cs').length
    · have d1 : decide ((1 : Int) < ((c0 :: cs').length : Int)) = true := decide_eq_true (by omega)
      rw [if_pos (decide_eq_true hz.1), d1]
      simp only [Option.bind_some, if_true, Lp.thn]
      by_cases hd : ∀ c ∈ c0 :: cs', 48 ≤ c ∧ c ≤ 57
      · rw [if_pos hd]
        exact ⟨_, _, rfl, rfl, .inl ⟨by decide, rfl⟩⟩
      · rw [if_neg hd]
        exact ⟨_, _, rfl, rfl, .inl ⟨by decide, rfl⟩⟩
    · have hz' : (if decide (c0 = 48) = true then some (decide ((1 : Int) < ((c0 :: cs').length : Int))) else some false) = some false := by
        by_cases h48 : c0 = 48
        · rw [if_pos (decide_eq_true h48), decide_eq_false (by omega)]
        · rw [if_neg (by rw [decide_eq_false h48]; exact Bool.false_ne_true)]
      rw [hz']
      simp only [Option.bind_some]
      rw [if_neg Bool.false_ne_true]
      by_cases hd : ∀ c ∈ c0 :: cs', 48 ≤ c ∧ c ≤ 57
      · rw [if_pos hd, if_pos hd]
        have hi : iOfS (S (c0 :: cs')) = some ((NumText.digitsVal (c0 :: cs') : Nat) : Int) := by
          unfold iOfS
          rw [if_pos (by rw [hS]; omega)]
          exact int_S hd (List.cons_ne_nil _ _) (by omega)
        simp only [Option.bind_some, Lp.thn]
        rw [if_neg Bool.false_ne_true, hi]
        refine ⟨_, _, rfl, rfl, .inr ⟨?_, ?_⟩⟩
        · rw [show (0 : Int) = ((0 : Nat) : Int) from rfl, fold_val _ _ hd]; omega
        · rw [show (0 : Int) = ((0 : Nat) : Int) from rfl, fold_val _ _ hd]; rfl
      · rw [if_neg hd, if_neg hd]
        exact ⟨_, _, rfl, rfl, .inl ⟨by decide, rfl⟩⟩
  · have c1 : (!(decide ((1 : Int) ≤ (cs.length : Int)) && decide ((cs.length : Int) ≤ 18))) = true := by
      by_cases h2 : 1 ≤ cs.length
      · rw [decide_eq_true (by omega), decide_eq_false (by omega)]; rfl
      · rw [decide_eq_false (by omega)]; rfl
    rw [c1, if_pos rfl, if_pos rfl]
    exact ⟨_, _, rfl, rfl, .inl ⟨by decide, rfl⟩⟩
theorem law_true (ns : List Int) (h : ns.length ≤ 63) : m_law ns = some true := by
  unfold m_law
  obtain ⟨t, e, hl⟩ := text_ok ns
  obtain ⟨d, r, h1, h2, h3⟩ := both t.cps.toList (by rw [← len_cl]; exact hl)
  rw [S_tl] at h1 h2
  rw [e]
  simp only [Option.bind_some, h1, h2]
  rcases h3 with ⟨hd, rfl⟩ | ⟨hd, rfl⟩
  · rw [if_pos (decide_eq_true hd)]; rfl
  · rw [if_neg (by rw [decide_eq_false hd]; exact Bool.false_ne_true)]
    unfold m_whole
    simp

/-! ### what the top has left -/
structure Txt (K : PySem.W.Frag) (mg : Str → Option Value) where
  d_cell_at : FuncData
  F_cell_at : FunD K "_law_cell_at" "_law_cell_at" (defArgs s_cell_at) (defBody s_cell_at) (defScope s_cell_at) [] [] (He.fAd K ("_law_cell_at", none)) d_cell_at
  g_cell_at : mg "_law_cell_at" = some (.ref (He.fAd K ("_law_cell_at", none)))
  d_sign : FuncData
  F_sign : FunD K "_law_sign" "_law_sign" (defArgs s_sign) (defBody s_sign) (defScope s_sign) [] [] (He.fAd K ("_law_sign", none)) d_sign
  g_sign : mg "_law_sign" = some (.ref (He.fAd K ("_law_sign", none)))
  d_text : FuncData
  F_text : FunD K "_law_text" "_law_text" (defArgs s_text) (defBody s_text) (defScope s_text) [] [] (He.fAd K ("_law_text", none)) d_text
  g_text : mg "_law_text" = some (.ref (He.fAd K ("_law_text", none)))
  d_figures : FuncData
  F_figures : FunD K "_law_figures" "_law_figures" (defArgs s_figures) (defBody s_figures) (defScope s_figures) [] [] (He.fAd K ("_law_figures", none)) d_figures
  g_figures : mg "_law_figures" = some (.ref (He.fAd K ("_law_figures", none)))
  d_number_of : FuncData
  F_number_of : FunD K "number_of" "number_of" (defArgs s_number_of) (defBody s_number_of) (defScope s_number_of) [] [] (He.fAd K ("number_of", none)) d_number_of
  g_number_of : mg "number_of" = some (.ref (He.fAd K ("number_of", none)))
  d_whole : FuncData
  F_whole : FunD K "_law_whole" "_law_whole" (defArgs s_whole) (defBody s_whole) (defScope s_whole) [] [] (He.fAd K ("_law_whole", none)) d_whole
  g_whole : mg "_law_whole" = some (.ref (He.fAd K ("_law_whole", none)))
  d_law : FuncData
  F_law : FunD K "law" "law" (defArgs s_law) (defBody s_law) (defScope s_law) [] [] (He.fAd K ("law", none)) d_law
  g_law : mg "law" = some (.ref (He.fAd K ("law", none)))
  n_bool : mg "bool" = none
  n_int : mg "int" = none
  n_isinstance : mg "isinstance" = none
  n_len : mg "len" = none
  n_str : mg "str" = none
  c_FIGURES : ∃ t, mg "FIGURES" = some (.str ("0123456789" : Str) t)
  c_MOST_FIGURES : ∃ t, mg "MOST_FIGURES" = some (.int 18 t)
section
variable {P : Program} {w : World} {K : PySem.W.Frag} {mg : Str → Option Value} {base : Heap}
theorem Txt.e_FIGURES (T : Txt K mg) {X : Cx} {σ : L2.St} {F H : Hp} {pos : Pos} (hm : X.mg = mg := by rfl) (hg : Gl X "FIGURES" := by rfl) : Ev X (.Name "FIGURES" pos) σ F H (("0123456789" : Str) : Str) := by
  subst hm
  obtain ⟨t, h⟩ := T.c_FIGURES
  exact ev_glob (v := .str ("0123456789" : Str)) h ⟨t, rfl⟩ (fun _ => rfl) hg
theorem Txt.e_MOST_FIGURES (T : Txt K mg) {X : Cx} {σ : L2.St} {F H : Hp} {pos : Pos} (hm : X.mg = mg := by rfl) (hg : Gl X "MOST_FIGURES" := by rfl) : Ev X (.Name "MOST_FIGURES" pos) σ F H ((18 : Int) : Int) := by
  subst hm
  obtain ⟨t, h⟩ := T.c_MOST_FIGURES
  exact ev_glob (v := .int (18 : Int)) h ⟨t, rfl⟩ (fun _ => rfl) hg
/-! cell_at -/
theorem sc_cell_at : FnScope ["_law_script", "_law_k"] ["_law_script", "_law_k"] (defScope s_cell_at) := ⟨rfl, rfl, rfl, by decide +kernel, rfl, by decide +kernel, by decide +kernel⟩
theorem b_cell_at (T : Txt K mg) : Binds K T.d_cell_at ["_law_script", "_law_k"] [] := T.F_cell_at.bindsN fun _ _ _ _ _ _ us hl => match us, hl with | [_, _], _ => rfl
theorem ok_cell_at (T : Txt K mg) : FnOk P w K mg base CX0 1 (He.fAd K ("_law_cell_at", none)) T.d_cell_at ["_law_script", "_law_k"] (Pr K fun (a_ : (List Int) × Int × Unit) => m_cell_at a_.1 a_.2.1) := by
  refine fn_ok T.F_cell_at sc_cell_at rfl fun cdv A outer s_ F0 H0 vs a_ r D_ E_ hr sm_ ra_ hm kr kn => ?_
  obtain ⟨v_script, _, rfl, r_script, v_k, _, rfl, r_k, rfl⟩ := ra_
  obtain ⟨x_script, x_k, _u⟩ := a_
  have G : Gr F0 H0 F0 H0 := Gr.refl sm_
  replace hm : m_cell_at x_script x_k = some r := hm
  unfold m_cell_at at hm
  have r_script : rp (α := (List Int)) K F0 v_script x_script := r_script
  have r_k : rp (α := Int) K F0 v_k x_k := r_k
  refine go_if G.fh (et_cmp op_lt o2_lt (ev_var 1 rfl r_k) (ev_callB call_len_seq oc_lenL T.n_len PySem.boot_len (ea_cons (ev_var 0 rfl r_script) ea_nil)) (nomark _)) (fun hc F H g => ?_) (fun hc F H g => ?_)
  · rw [if_pos hc] at hm
    have G := G.trans g
    have r_script := Rp.mono g.ff r_script
    have r_k := Rp.mono g.ff r_k
    obtain ⟨t1, h_t1, hm⟩ := Option.bind_eq_some_iff.mp hm
    exact go_ret G.fh (ev_ixL (ev_var 0 rfl r_script) (ev_var 1 rfl r_k) h_t1) fun v_ F_ H_ g_ rv_ => kr _ _ _ (G.trans g_) (cg (Option.some.inj hm) rv_)
  · rw [if_neg (nt hc)] at hm
    have G := G.trans g
    have r_script := Rp.mono g.ff r_script
    have r_k := Rp.mono g.ff r_k
    refine GoS.nil ?_
    exact go_ret G.fh ev_int fun v_ F_ H_ g_ rv_ => kr _ _ _ (G.trans g_) (cg (Option.some.inj hm) rv_)
/-! sign -/
theorem sc_sign : FnScope ["_law_cell", "_law_some"] ["_law_cell"] (defScope s_sign) := ⟨rfl, rfl, rfl, by decide +kernel, rfl, by decide +kernel, by decide +kernel⟩
theorem b_sign (T : Txt K mg) : Binds K T.d_sign ["_law_cell"] [] := T.F_sign.bindsN fun _ _ _ _ _ _ us hl => match us, hl with | [_], _ => rfl
theorem ok_sign (T : Txt K mg) : FnOk P w K mg base CX0 1 (He.fAd K ("_law_sign", none)) T.d_sign ["_law_cell"] (Pr K fun (a_ : Int × Unit) => m_sign a_.1) := by
  refine fn_ok T.F_sign sc_sign rfl fun cdv A outer s_ F0 H0 vs a_ r D_ E_ hr sm_ ra_ hm kr kn => ?_
  obtain ⟨v_cell, _, rfl, r_cell, rfl⟩ := ra_
  obtain ⟨x_cell, _u⟩ := a_
  have G : Gr F0 H0 F0 H0 := Gr.refl sm_
  replace hm : m_sign x_cell = some r := hm
  unfold m_sign at hm
  have r_cell : rp (α := Int) K F0 v_cell x_cell := r_cell
  obtain ⟨x_some, he, hm⟩ := Option.bind_eq_some_iff.mp hm
  refine go_set 1 G.fh ev_str (fun v_some F H g rn_ => ?_) sc_sign.nd
  have G := G.trans g
  have r_cell := Rp.mono g.ff r_cell
  have r_some := cg (Option.some.inj he) rn_
  obtain ⟨t1, h_t1, hm⟩ := Option.bind_eq_some_iff.mp hm
  obtain ⟨x_some, he, hm⟩ := Option.bind_eq_some_iff.mp hm
  refine go_set 1 G.fh (ev_addS (ev_var 1 rfl r_some) ev_str h_t1) (fun v_some F H g rn_ => ?_) sc_sign.nd
  have G := G.trans g
  have r_cell := Rp.mono g.ff r_cell
  have r_some := cg (Option.some.inj he) rn_
  obtain ⟨t2, h_t2, hm⟩ := Option.bind_eq_some_iff.mp hm
  exact go_ret G.fh (ev_ixS (ev_var 1 rfl r_some) (ev_mod (ev_var 0 rfl r_cell) ev_int (by decide)) h_t2) fun v_ F_ H_ g_ rv_ => kr _ _ _ (G.trans g_) (cg (Option.some.inj hm) rv_)
/-! text -/
theorem sc_text : FnScope ["_law_script", "_law_cell", "_law_figures_here", "_law_way", "_law_at", "_law_sign_here"] ["_law_script"] (defScope s_text) := ⟨rfl, rfl, rfl, by decide +kernel, rfl, by decide +kernel, by decide +kernel⟩
theorem b_text (T : Txt K mg) : Binds K T.d_text ["_law_script"] [] := T.F_text.bindsN fun _ _ _ _ _ _ us hl => match us, hl with | [_], _ => rfl
theorem ok_text (T : Txt K mg) : FnOk P w K mg base CX0 2 (He.fAd K ("_law_text", none)) T.d_text ["_law_script"] (Pr K fun (a_ : (List Int) × Unit) => m_text a_.1) := by
  refine fn_ok T.F_text sc_text rfl fun cdv A outer s_ F0 H0 vs a_ r D_ E_ hr sm_ ra_ hm kr kn => ?_
  obtain ⟨v_script, _, rfl, r_script, rfl⟩ := ra_
  obtain ⟨x_script, _u⟩ := a_
  have G : Gr F0 H0 F0 H0 := Gr.refl sm_
  replace hm : m_text x_script = some r := hm
  unfold m_text at hm
  have r_script : rp (α := (List Int)) K F0 v_script x_script := r_script
  obtain ⟨t1, h_t1, hm⟩ := Option.bind_eq_some_iff.mp hm
  obtain ⟨x_cell, he, hm⟩ := Option.bind_eq_some_iff.mp hm
  refine go_set 1 G.fh (ev_call (ok_cell_at T) (hr.mono (by decide)) T.g_cell_at T.F_cell_at.kp (b_cell_at T) (ea_cons (ev_var 0 rfl r_script) (ea_cons ev_int ea_nil)) h_t1) (fun v_cell F H g rn_ => ?_) sc_text.nd
  have G := G.trans g
  have r_script := Rp.mono g.ff r_script
  have r_cell := cg (Option.some.inj he) rn_
  obtain ⟨t2, h_t2, hm⟩ := Option.bind_eq_some_iff.mp hm
  obtain ⟨t3, h_t3, hm⟩ := Option.bind_eq_some_iff.mp hm
  obtain ⟨t4, h_t4, hm⟩ := Option.bind_eq_some_iff.mp hm
  obtain ⟨t5, h_t5, hm⟩ := Option.bind_eq_some_iff.mp hm
  obtain ⟨x_figures_here, he, hm⟩ := Option.bind_eq_some_iff.mp hm
  refine go_set 2 G.fh (ev_sliceS (ev_callTy call_str_int (oc_strI h_t3) T.n_str (by decide +kernel) (ea_cons (ev_mod (ev_call (ok_cell_at T) (hr.mono (by decide)) T.g_cell_at T.F_cell_at.kp (b_cell_at T) (ea_cons (ev_var 0 rfl r_script) (ea_cons ev_int ea_nil)) h_t2) (ev_powc ev_int ev_int (by decide) (by decide +kernel)) (by decide)) ea_nil)) eo_none (eo_some (ev_add ev_int (ev_mod (ev_call (ok_cell_at T) (hr.mono (by decide)) T.g_cell_at T.F_cell_at.kp (b_cell_at T) (ea_cons (ev_var 0 rfl r_script) (ea_cons ev_int ea_nil)) h_t4) ev_int (by decide)))) h_t5) (fun v_figures_here F H g rn_ => ?_) sc_text.nd
  have G := G.trans g
  have r_script := Rp.mono g.ff r_script
  have r_cell := Rp.mono g.ff r_cell
  have r_figures_here := cg (Option.some.inj he) rn_
  obtain ⟨x_way, he, hm⟩ := Option.bind_eq_some_iff.mp hm
  refine go_set 3 G.fh (ev_mod (ev_var 1 rfl r_cell) ev_int (by decide)) (fun v_way F H g rn_ => ?_) sc_text.nd
  have G := G.trans g
  have r_script := Rp.mono g.ff r_script
  have r_cell := Rp.mono g.ff r_cell
  have r_figures_here := Rp.mono g.ff r_figures_here
  have r_way := cg (Option.some.inj he) rn_
  obtain ⟨t6, h_t6, hm⟩ := Option.bind_eq_some_iff.mp hm
  obtain ⟨t7, h_t7, hm⟩ := Option.bind_eq_some_iff.mp hm
  obtain ⟨x_at, he, hm⟩ := Option.bind_eq_some_iff.mp hm
  refine go_set 4 G.fh (ev_modG (ev_div (ev_var 1 rfl r_cell) ev_int ⟨by decide, by decide⟩) (ev_add (ev_callB call_len_str (oc_lenS h_t6) T.n_len PySem.boot_len (ea_cons (ev_var 2 rfl r_figures_here) ea_nil)) ev_int) h_t7) (fun v_at F H g rn_ => ?_) sc_text.nd
  have G := G.trans g
  have r_script := Rp.mono g.ff r_script
  have r_cell := Rp.mono g.ff r_cell
  have r_figures_here := Rp.mono g.ff r_figures_here
  have r_way := Rp.mono g.ff r_way
  have r_at := cg (Option.some.inj he) rn_
  obtain ⟨t8, h_t8, hm⟩ := Option.bind_eq_some_iff.mp hm
  obtain ⟨t9, h_t9, hm⟩ := Option.bind_eq_some_iff.mp hm
  obtain ⟨x_sign_here, he, hm⟩ := Option.bind_eq_some_iff.mp hm
  refine go_set 5 G.fh (ev_call (ok_sign T) (hr.mono (by decide)) T.g_sign T.F_sign.kp (b_sign T) (ea_cons (ev_call (ok_cell_at T) (hr.mono (by decide)) T.g_cell_at T.F_cell_at.kp (b_cell_at T) (ea_cons (ev_var 0 rfl r_script) (ea_cons ev_int ea_nil)) h_t8) ea_nil) h_t9) (fun v_sign_here F H g rn_ => ?_) sc_text.nd
  have G := G.trans g
  have r_script := Rp.mono g.ff r_script
  have r_cell := Rp.mono g.ff r_cell
  have r_figures_here := Rp.mono g.ff r_figures_here
  have r_way := Rp.mono g.ff r_way
  have r_at := Rp.mono g.ff r_at
  have r_sign_here := cg (Option.some.inj he) rn_
  refine go_if G.fh (et_cmp op_eq o2_eq (ev_var 3 rfl r_way) ev_int (nomark _)) (fun hc F H g => ?_) (fun hc F H g => ?_)
  · rw [if_pos hc] at hm
    have G := G.trans g
    have r_script := Rp.mono g.ff r_script
    have r_cell := Rp.mono g.ff r_cell
    have r_figures_here := Rp.mono g.ff r_figures_here
    have r_way := Rp.mono g.ff r_way
    have r_at := Rp.mono g.ff r_at
    have r_sign_here := Rp.mono g.ff r_sign_here
    obtain ⟨t10, h_t10, hm⟩ := Option.bind_eq_some_iff.mp hm
    obtain ⟨t11, h_t11, hm⟩ := Option.bind_eq_some_iff.mp hm
    exact go_ret G.fh (ev_addS (ev_mulS ev_str (ev_add ev_int (ev_mod (ev_div (ev_var 1 rfl r_cell) ev_int ⟨by decide, by decide⟩) ev_int (by decide))) h_t10) (ev_var 2 rfl r_figures_here) h_t11) fun v_ F_ H_ g_ rv_ => kr _ _ _ (G.trans g_) (cg (Option.some.inj hm) rv_)
  · rw [if_neg (nt hc)] at hm
    have G := G.trans g
    have r_script := Rp.mono g.ff r_script
    have r_cell := Rp.mono g.ff r_cell
    have r_figures_here := Rp.mono g.ff r_figures_here
    have r_way := Rp.mono g.ff r_way
    have r_at := Rp.mono g.ff r_at
    have r_sign_here := Rp.mono g.ff r_sign_here
    refine GoS.nil ?_
    refine go_if G.fh (et_cmp op_eq o2_eq (ev_var 3 rfl r_way) ev_int (nomark _)) (fun hc F H g => ?_) (fun hc F H g => ?_)
    · rw [if_pos hc] at hm
      have G := G.trans g
      have r_script := Rp.mono g.ff r_script
      have r_cell := Rp.mono g.ff r_cell
      have r_figures_here := Rp.mono g.ff r_figures_here
      have r_way := Rp.mono g.ff r_way
      have r_at := Rp.mono g.ff r_at
      have r_sign_here := Rp.mono g.ff r_sign_here
      obtain ⟨t12, h_t12, hm⟩ := Option.bind_eq_some_iff.mp hm
      obtain ⟨t13, h_t13, hm⟩ := Option.bind_eq_some_iff.mp hm
      obtain ⟨t14, h_t14, hm⟩ := Option.bind_eq_some_iff.mp hm
      exact go_ret G.fh (ev_addS (ev_var 2 rfl r_figures_here) (ev_callTy call_str_int (oc_strI h_t13) T.n_str (by decide +kernel) (ea_cons (ev_mod (ev_call (ok_cell_at T) (hr.mono (by decide)) T.g_cell_at T.F_cell_at.kp (b_cell_at T) (ea_cons (ev_var 0 rfl r_script) (ea_cons ev_int ea_nil)) h_t12) (ev_powc ev_int ev_int (by decide) (by decide +kernel)) (by decide)) ea_nil)) h_t14) fun v_ F_ H_ g_ rv_ => kr _ _ _ (G.trans g_) (cg (Option.some.inj hm) rv_)
    · rw [if_neg (nt hc)] at hm
      have G := G.trans g
      have r_script := Rp.mono g.ff r_script
      have r_cell := Rp.mono g.ff r_cell
      have r_figures_here := Rp.mono g.ff r_figures_here
      have r_way := Rp.mono g.ff r_way
      have r_at := Rp.mono g.ff r_at
      have r_sign_here := Rp.mono g.ff r_sign_here
      refine GoS.nil ?_
      refine go_if G.fh (et_cmp op_eq o2_eq (ev_var 3 rfl r_way) ev_int (nomark _)) (fun hc F H g => ?_) (fun hc F H g => ?_)
      · rw [if_pos hc] at hm
        have G := G.trans g
        have r_cell := Rp.mono g.ff r_cell
        have r_figures_here := Rp.mono g.ff r_figures_here
        have r_way := Rp.mono g.ff r_way
        have r_at := Rp.mono g.ff r_at
        have r_sign_here := Rp.mono g.ff r_sign_here
        obtain ⟨t15, h_t15, hm⟩ := Option.bind_eq_some_iff.mp hm
        obtain ⟨t16, h_t16, hm⟩ := Option.bind_eq_some_iff.mp hm
        obtain ⟨t17, h_t17, hm⟩ := Option.bind_eq_some_iff.mp hm
        obtain ⟨t18, h_t18, hm⟩ := Option.bind_eq_some_iff.mp hm
        exact go_ret G.fh (ev_addS (ev_addS (ev_sliceS (ev_var 2 rfl r_figures_here) eo_none (eo_some (ev_var 4 rfl r_at)) h_t15) (ev_var 5 rfl r_sign_here) h_t16) (ev_sliceS (ev_var 2 rfl r_figures_here) (eo_some (ev_var 4 rfl r_at)) eo_none h_t17) h_t18) fun v_ F_ H_ g_ rv_ => kr _ _ _ (G.trans g_) (cg (Option.some.inj hm) rv_)
      · rw [if_neg (nt hc)] at hm
        have G := G.trans g
        have r_cell := Rp.mono g.ff r_cell
        have r_figures_here := Rp.mono g.ff r_figures_here
        have r_way := Rp.mono g.ff r_way
        have r_at := Rp.mono g.ff r_at
        have r_sign_here := Rp.mono g.ff r_sign_here
        refine GoS.nil ?_
        refine go_if G.fh (et_cmp op_eq o2_eq (ev_var 3 rfl r_way) ev_int (nomark _)) (fun hc F H g => ?_) (fun hc F H g => ?_)
        · rw [if_pos hc] at hm
          have G := G.trans g
          have r_cell := Rp.mono g.ff r_cell
          have r_figures_here := Rp.mono g.ff r_figures_here
          have r_way := Rp.mono g.ff r_way
          have r_at := Rp.mono g.ff r_at
          have r_sign_here := Rp.mono g.ff r_sign_here
          obtain ⟨t19, h_t19, hm⟩ := Option.bind_eq_some_iff.mp hm
          obtain ⟨t20, h_t20, hm⟩ := Option.bind_eq_some_iff.mp hm
          obtain ⟨t21, h_t21, hm⟩ := Option.bind_eq_some_iff.mp hm
          obtain ⟨t22, h_t22, hm⟩ := Option.bind_eq_some_iff.mp hm
          exact go_ret G.fh (ev_addS (ev_addS (ev_sliceS (ev_var 2 rfl r_figures_here) eo_none (eo_some (ev_var 4 rfl r_at)) h_t19) (ev_var 5 rfl r_sign_here) h_t20) (ev_sliceS (ev_var 2 rfl r_figures_here) (eo_some (ev_add (ev_var 4 rfl r_at) ev_int)) eo_none h_t21) h_t22) fun v_ F_ H_ g_ rv_ => kr _ _ _ (G.trans g_) (cg (Option.some.inj hm) rv_)
        · rw [if_neg (nt hc)] at hm
          have G := G.trans g
          have r_cell := Rp.mono g.ff r_cell
          have r_figures_here := Rp.mono g.ff r_figures_here
          have r_way := Rp.mono g.ff r_way
          have r_at := Rp.mono g.ff r_at
          have r_sign_here := Rp.mono g.ff r_sign_here
          refine GoS.nil ?_
          refine go_if G.fh (et_cmp op_eq o2_eq (ev_var 3 rfl r_way) ev_int (nomark _)) (fun hc F H g => ?_) (fun hc F H g => ?_)
          · rw [if_pos hc] at hm
            have G := G.trans g
            have r_cell := Rp.mono g.ff r_cell
            have r_figures_here := Rp.mono g.ff r_figures_here
            have r_way := Rp.mono g.ff r_way
            obtain ⟨t23, h_t23, hm⟩ := Option.bind_eq_some_iff.mp hm
            exact go_ret G.fh (ev_mulS ev_str (ev_mod (ev_div (ev_var 1 rfl r_cell) ev_int ⟨by decide, by decide⟩) ev_int (by decide)) h_t23) fun v_ F_ H_ g_ rv_ => kr _ _ _ (G.trans g_) (cg (Option.some.inj hm) rv_)
          · rw [if_neg (nt hc)] at hm
            have G := G.trans g
            have r_cell := Rp.mono g.ff r_cell
            have r_figures_here := Rp.mono g.ff r_figures_here
            have r_way := Rp.mono g.ff r_way
            refine GoS.nil ?_
            exact go_ret G.fh (ev_var 2 rfl r_figures_here) fun v_ F_ H_ g_ rv_ => kr _ _ _ (G.trans g_) (cg (Option.some.inj hm) rv_)
/-! figures -/
theorem sc_figures : FnScope ["_law_text_here", "_law_found", "_law_sign_here", "_law_at"] ["_law_text_here"] (defScope s_figures) := ⟨rfl, rfl, rfl, by decide +kernel, rfl, by decide +kernel, by decide +kernel⟩
theorem b_figures (T : Txt K mg) : Binds K T.d_figures ["_law_text_here"] [] := T.F_figures.bindsN fun _ _ _ _ _ _ us hl => match us, hl with | [_], _ => rfl
theorem ok_figures (T : Txt K mg) : FnOk P w K mg base CX0 1 (He.fAd K ("_law_figures", none)) T.d_figures ["_law_text_here"] (Pr K fun (a_ : Str × Unit) => m_figures a_.1) := by
  refine fn_ok T.F_figures sc_figures rfl fun cdv A outer s_ F0 H0 vs a_ r D_ E_ hr sm_ ra_ hm kr kn => ?_
  obtain ⟨v_text_here, _, rfl, r_text_here, rfl⟩ := ra_
  obtain ⟨x_text_here, _u⟩ := a_
  have G : Gr F0 H0 F0 H0 := Gr.refl sm_
  replace hm : m_figures x_text_here = some r := hm
  unfold m_figures at hm
  have r_text_here : rp (α := Str) K F0 v_text_here x_text_here := r_text_here
  obtain ⟨t1, h_t1, hm⟩ := Option.bind_eq_some_iff.mp hm
  obtain ⟨t5, h_t5, hm⟩ := Option.bind_eq_some_iff.mp hm
  refine go_if G.fh (EvW.t (ew_or (et_not (et_chain op_le op_le o2_le o2_le ev_int (ev_callB call_len_str (oc_lenS h_t1) T.n_len PySem.boot_len (ea_cons (ev_var 0 rfl r_text_here) ea_nil)) ev_int)) (fun hc => by
          rw [if_neg (by rw [hc]; exact Bool.false_ne_true)] at h_t5
          obtain ⟨t2, h_t2, h_t5⟩ := Option.bind_eq_some_iff.mp h_t5
          obtain ⟨t4, h_t4, h_t5⟩ := Option.bind_eq_some_iff.mp h_t5
          exact EvW.cg (Option.some.inj h_t5) (ew_or1 (EvW.t (ew_and (et_cmp op_eq o2_eq (ev_ixS (ev_var 0 rfl r_text_here) ev_int h_t2) ev_str (nomark _)) (fun hc => by
          rw [if_pos hc] at h_t4
          obtain ⟨t3, h_t3, h_t4⟩ := Option.bind_eq_some_iff.mp h_t4
          exact EvW.cg (Option.some.inj h_t4) (ew_and1 (et_cmp op_gt o2_gt (ev_callB call_len_str (oc_lenS h_t3) T.n_len PySem.boot_len (ea_cons (ev_var 0 rfl r_text_here) ea_nil)) ev_int (nomark _)))) (fun hc => by rw [if_neg (by rw [hc]; exact Bool.false_ne_true)] at h_t4; exact (Option.some.inj h_t4).symm))))) (fun hc => by rw [if_pos hc] at h_t5; exact (Option.some.inj h_t5).symm))) (fun hc F H g => ?_) (fun hc F H g => ?_)
  · rw [if_pos hc] at hm
    have G := G.trans g
    have r_text_here := Rp.mono g.ff r_text_here
    exact go_ret G.fh (ev_neg ev_int) fun v_ F_ H_ g_ rv_ => kr _ _ _ (G.trans g_) (cg (Option.some.inj hm) rv_)
  · rw [if_neg (nt hc)] at hm
    have G := G.trans g
    have r_text_here := Rp.mono g.ff r_text_here
    refine GoS.nil ?_
    obtain ⟨x_found, he, hm⟩ := Option.bind_eq_some_iff.mp hm
    refine go_set 1 G.fh ev_int (fun v_found F H g rn_ => ?_) sc_figures.nd
    have G := G.trans g
    have r_text_here := Rp.mono g.ff r_text_here
    have r_found := cg (Option.some.inj he) rn_
    obtain ⟨o8, ho_, hm⟩ := Option.bind_eq_some_iff.mp hm
    refine go_forM G.fh (ei_str (ev_var 0 rfl r_text_here)) (pg_name (i := 2) sc_figures.nd rfl (by first | exact Or.inl rfl | exact Or.inr rfl)) ho_ hm (fun F H g => ?_) PassesOwn.never
    have G := G.trans g
    have r_found := Rp.mono g.ff r_found
    refine ⟨fun (b6 : Int) σ_ F_ H_ => ∃ (u_at : Option V) (u_sign_here : Option V) (v_found : V), σ_ = [some v_text_here, some v_found, u_sign_here, u_at] ∧ Gr F0 H0 F_ H_ ∧ rp (α := Int) K F_ v_found b6, fun r_ v_ H_ => ∃ F_, Gr F0 H0 F_ H_ ∧ rp K F_ v_ r_, ⟨_, _, _, rfl, G, r_found⟩, ?_, ?_, ?_⟩
    ·
      intro b6 x_sign_here o_ hm σ_ F H v_sign_here s1_ s2_ iv_ F H g r_sign_here Q_ hQ_
      obtain ⟨u_at, u_sign_here, v_found, rfl, G, r_found⟩ := iv_
      have sb9 := g.ff
      have G := G.trans g
      have r_found := Rp.mono g.ff r_found
      refine hQ_ _ _ ?_
      obtain ⟨x_at, he, hm⟩ := Option.bind_eq_some_iff.mp hm
      refine go_set 3 G.fh (ev_find ev_str (ev_var 2 rfl r_sign_here)) (fun v_at F H g rn_ => ?_) sc_figures.nd
      have G := G.trans g
      have r_found := Rp.mono g.ff r_found
      have r_sign_here := Rp.mono g.ff r_sign_here
      have sb9 := sb9.trans g.ff
      have r_at := cg (Option.some.inj he) rn_
      refine go_if G.fh (et_cmp op_lt o2_lt (ev_var 3 rfl r_at) ev_int (nomark _)) (fun hc F H g => ?_) (fun hc F H g => ?_)
      · rw [if_pos hc] at hm
        have G := G.trans g
        have r_found := Rp.mono g.ff r_found
        have r_at := Rp.mono g.ff r_at
        have sb9 := sb9.trans g.ff
        exact go_ret G.fh (ev_neg ev_int) fun v_ F_ H_ g_ rv_ => ⟨_, (Option.some.inj hm).symm, F_, G.trans g_, rv_⟩
      · rw [if_neg (nt hc)] at hm
        have G := G.trans g
        have r_found := Rp.mono g.ff r_found
        have r_at := Rp.mono g.ff r_at
        have sb9 := sb9.trans g.ff
        refine GoS.nil ?_
        obtain ⟨x_found, he, hm⟩ := Option.bind_eq_some_iff.mp hm
        refine go_set 1 G.fh (ev_add (ev_mul ev_int (ev_var 1 rfl r_found) (CMul.l (by decide))) (ev_var 3 rfl r_at)) (fun v_found F H g rn_ => ?_) sc_figures.nd
        have G := G.trans g
        have r_at := Rp.mono g.ff r_at
        have sb9 := sb9.trans g.ff
        have r_found := cg (Option.some.inj he) rn_
        exact GoS.nil ⟨_, _, (Option.some.inj hm).symm, sb9, G.fh, ⟨_, _, _, rfl, G, r_found⟩⟩
    · intro b10 hm σ_ F H s1_ s2_ iv_
      obtain ⟨u_at, u_sign_here, v_found, rfl, G, r_found⟩ := iv_
      exact go_ret G.fh (ev_var 1 rfl r_found) fun v_ F_ H_ g_ rv_ => kr _ _ _ (G.trans g_) (cg (Option.some.inj hm) rv_)
    · intro r_ he v_ H_ hv_
      obtain ⟨F_, g_, rv_⟩ := hv_
      exact kr _ _ _ g_ (cg (Option.some.inj he) rv_)
/-! number_of -/
theorem sc_number_of : FnScope ["text", "sign"] ["text"] (defScope s_number_of) := ⟨rfl, rfl, rfl, by decide +kernel, rfl, by decide +kernel, by decide +kernel⟩
theorem b_number_of (T : Txt K mg) : Binds K T.d_number_of ["text"] [] := T.F_number_of.bindsN fun _ _ _ _ _ _ us hl => match us, hl with | [_], _ => rfl
theorem ok_number_of (T : Txt K mg) : FnOk P w K mg base CX0 1 (He.fAd K ("number_of", none)) T.d_number_of ["text"] (Pr K fun (a_ : Str × Unit) => m_number_of a_.1) := by
  refine fn_ok T.F_number_of sc_number_of rfl fun cdv A outer s_ F0 H0 vs a_ r D_ E_ hr sm_ ra_ hm kr kn => ?_
  obtain ⟨v_text, _, rfl, r_text, rfl⟩ := ra_
  obtain ⟨x_text, _u⟩ := a_
  have G : Gr F0 H0 F0 H0 := Gr.refl sm_
  replace hm : m_number_of x_text = some r := hm
  unfold m_number_of at hm
  have r_text : rp (α := Str) K F0 v_text x_text := r_text
  obtain ⟨t1, h_t1, hm⟩ := Option.bind_eq_some_iff.mp hm
  refine go_if G.fh (et_not (et_chain op_le op_le o2_le o2_le ev_int (ev_callB call_len_str (oc_lenS h_t1) T.n_len PySem.boot_len (ea_cons (ev_var 0 rfl r_text) ea_nil)) T.e_MOST_FIGURES)) (fun hc F H g => ?_) (fun hc F H g => ?_)
  · rw [if_pos hc] at hm
    have G := G.trans g
    have r_text := Rp.mono g.ff r_text
    exact go_ret G.fh ev_none fun v_ F_ H_ g_ rv_ => kr _ _ _ (G.trans g_) (cg (Option.some.inj hm) rv_)
  · rw [if_neg (nt hc)] at hm
    have G := G.trans g
    have r_text := Rp.mono g.ff r_text
    refine GoS.nil ?_
    obtain ⟨o4, ho_, hm⟩ := Option.bind_eq_some_iff.mp hm
    refine go_forM G.fh (ei_str (ev_var 0 rfl r_text)) (pg_name (i := 1) sc_number_of.nd rfl (by first | exact Or.inl rfl | exact Or.inr rfl)) ho_ hm (fun F H g => ?_) PassesOwn.never
    have G := G.trans g
    have r_text := Rp.mono g.ff r_text
    refine ⟨fun (b2 : Unit) σ_ F_ H_ => ∃ (u_sign : Option V), σ_ = [some v_text, u_sign] ∧ Gr F0 H0 F_ H_, fun r_ v_ H_ => ∃ F_, Gr F0 H0 F_ H_ ∧ rp K F_ v_ r_, ⟨_, rfl, G⟩, ?_, ?_, ?_⟩
    ·
      intro b2 x_sign o_ hm σ_ F H v_sign s1_ s2_ iv_ F H g r_sign Q_ hQ_
      obtain ⟨u_sign, rfl, G⟩ := iv_
      have sb5 := g.ff
      have G := G.trans g
      refine hQ_ _ _ ?_
      obtain ⟨t6, h_t6, hm⟩ := Option.bind_eq_some_iff.mp hm
      refine go_if G.fh (et_cmp op_notIn_sign (o2_notInS h_t6) (ev_var 1 rfl r_sign) T.e_FIGURES rfl) (fun hc F H g => ?_) (fun hc F H g => ?_)
      · rw [if_pos hc] at hm
        have G := G.trans g
        have r_sign := Rp.mono g.ff r_sign
        have sb5 := sb5.trans g.ff
        exact go_ret G.fh ev_none fun v_ F_ H_ g_ rv_ => ⟨_, (Option.some.inj hm).symm, F_, G.trans g_, rv_⟩
      · rw [if_neg (nt hc)] at hm
        have G := G.trans g
        have r_sign := Rp.mono g.ff r_sign
        have sb5 := sb5.trans g.ff
        refine GoS.nil ?_
        exact GoS.nil ⟨_, _, (Option.some.inj hm).symm, sb5, G.fh, ⟨_, rfl, G⟩⟩
    · intro b7 hm σ_ F H s1_ s2_ iv_
      obtain ⟨u_sign, rfl, G⟩ := iv_
      have r_text := Rp.mono s1_ r_text
      obtain ⟨t8, h_t8, hm⟩ := Option.bind_eq_some_iff.mp hm
      obtain ⟨t10, h_t10, hm⟩ := Option.bind_eq_some_iff.mp hm
      refine go_if G.fh (EvW.t (ew_and (et_cmp op_eq o2_eq (ev_ixS (ev_var 0 rfl r_text) ev_int h_t8) ev_str (nomark _)) (fun hc => by
          rw [if_pos hc] at h_t10
          obtain ⟨t9, h_t9, h_t10⟩ := Option.bind_eq_some_iff.mp h_t10
          exact EvW.cg (Option.some.inj h_t10) (ew_and1 (et_cmp op_gt o2_gt (ev_callB call_len_str (oc_lenS h_t9) T.n_len PySem.boot_len (ea_cons (ev_var 0 rfl r_text) ea_nil)) ev_int (nomark _)))) (fun hc => by rw [if_neg (by rw [hc]; exact Bool.false_ne_true)] at h_t10; exact (Option.some.inj h_t10).symm))) (fun hc F H g => ?_) (fun hc F H g => ?_)
      · rw [if_pos hc] at hm
        have G := G.trans g
        have r_text := Rp.mono g.ff r_text
        exact go_ret G.fh ev_none fun v_ F_ H_ g_ rv_ => kr _ _ _ (G.trans g_) (cg (Option.some.inj hm) rv_)
      · rw [if_neg (nt hc)] at hm
        have G := G.trans g
        have r_text := Rp.mono g.ff r_text
        refine GoS.nil ?_
        obtain ⟨t11, h_t11, hm⟩ := Option.bind_eq_some_iff.mp hm
        exact go_ret G.fh (Ev.some (ev_callTy call_int_str (oc_intS h_t11) T.n_int (by decide +kernel) (ea_cons (ev_var 0 rfl r_text) ea_nil))) fun v_ F_ H_ g_ rv_ => kr _ _ _ (G.trans g_) (cg (Option.some.inj hm) rv_)
    · intro r_ he v_ H_ hv_
      obtain ⟨F_, g_, rv_⟩ := hv_
      exact kr _ _ _ g_ (cg (Option.some.inj he) rv_)
/-! whole -/
theorem sc_whole : FnScope ["_law_found"] ["_law_found"] (defScope s_whole) := ⟨rfl, rfl, rfl, by decide +kernel, rfl, by decide +kernel, by decide +kernel⟩
theorem b_whole (T : Txt K mg) : Binds K T.d_whole ["_law_found"] [] := T.F_whole.bindsN fun _ _ _ _ _ _ us hl => match us, hl with | [_], _ => rfl
theorem ok_whole (T : Txt K mg) : FnOk P w K mg base CX0 1 (He.fAd K ("_law_whole", none)) T.d_whole ["_law_found"] (Pr K fun (a_ : (Option Int) × Unit) => m_whole a_.1) := by
  refine fn_ok T.F_whole sc_whole rfl fun cdv A outer s_ F0 H0 vs a_ r D_ E_ hr sm_ ra_ hm kr kn => ?_
  obtain ⟨v_found, _, rfl, r_found, rfl⟩ := ra_
  obtain ⟨x_found, _u⟩ := a_
  have G : Gr F0 H0 F0 H0 := Gr.refl sm_
  replace hm : m_whole x_found = some r := hm
  unfold m_whole at hm
  have r_found : rp (α := (Option Int)) K F0 v_found x_found := r_found
  exact go_ret G.fh (ev_andP (ev_isiO (T := "int") (r := true) (by decide +kernel) (by decide +kernel) T.n_isinstance T.n_int (by decide +kernel) (ev_var 0 rfl r_found)) (ev_one (ev_not (ev_isiO (T := "bool") (r := false) (by decide +kernel) (by decide +kernel) T.n_isinstance T.n_bool (by decide +kernel) (ev_var 0 rfl r_found))))) fun v_ F_ H_ g_ rv_ => kr _ _ _ (G.trans g_) (cg (Option.some.inj hm) rv_)
/-! law -/
theorem sc_law : FnScope ["_law_script", "_law_text_here", "_law_due", "_law_found"] ["_law_script"] (defScope s_law) := ⟨rfl, rfl, rfl, by decide +kernel, rfl, by decide +kernel, by decide +kernel⟩
theorem b_law (T : Txt K mg) : Binds K T.d_law ["_law_script"] [] := T.F_law.bindsN fun _ _ _ _ _ _ us hl => match us, hl with | [_], _ => rfl
theorem ok_law (T : Txt K mg) : FnOk P w K mg base CX0 3 (He.fAd K ("law", none)) T.d_law ["_law_script"] (Pr K fun (a_ : (List Int) × Unit) => m_law a_.1) := by
  refine fn_ok T.F_law sc_law rfl fun cdv A outer s_ F0 H0 vs a_ r D_ E_ hr sm_ ra_ hm kr kn => ?_
  obtain ⟨v_script, _, rfl, r_script, rfl⟩ := ra_
  obtain ⟨x_script, _u⟩ := a_
  have G : Gr F0 H0 F0 H0 := Gr.refl sm_
  replace hm : m_law x_script = some r := hm
  unfold m_law at hm
  have r_script : rp (α := (List Int)) K F0 v_script x_script := r_script
  obtain ⟨t1, h_t1, hm⟩ := Option.bind_eq_some_iff.mp hm
  obtain ⟨x_text_here, he, hm⟩ := Option.bind_eq_some_iff.mp hm
  refine go_set 1 G.fh (ev_call (ok_text T) (hr.mono (by decide)) T.g_text T.F_text.kp (b_text T) (ea_cons (ev_var 0 rfl r_script) ea_nil) h_t1) (fun v_text_here F H g rn_ => ?_) sc_law.nd
  have G := G.trans g
  have r_script := Rp.mono g.ff r_script
  have r_text_here := cg (Option.some.inj he) rn_
  obtain ⟨t2, h_t2, hm⟩ := Option.bind_eq_some_iff.mp hm
  obtain ⟨x_due, he, hm⟩ := Option.bind_eq_some_iff.mp hm
  refine go_set 2 G.fh (ev_call (ok_figures T) (hr.mono (by decide)) T.g_figures T.F_figures.kp (b_figures T) (ea_cons (ev_var 1 rfl r_text_here) ea_nil) h_t2) (fun v_due F H g rn_ => ?_) sc_law.nd
  have G := G.trans g
  have r_text_here := Rp.mono g.ff r_text_here
  have r_due := cg (Option.some.inj he) rn_
  obtain ⟨t3, h_t3, hm⟩ := Option.bind_eq_some_iff.mp hm
  obtain ⟨x_found, he, hm⟩ := Option.bind_eq_some_iff.mp hm
  refine go_set 3 G.fh (ev_call (ok_number_of T) (hr.mono (by decide)) T.g_number_of T.F_number_of.kp (b_number_of T) (ea_cons (ev_var 1 rfl r_text_here) ea_nil) h_t3) (fun v_found F H g rn_ => ?_) sc_law.nd
  have G := G.trans g
  have r_text_here := Rp.mono g.ff r_text_here
  have r_due := Rp.mono g.ff r_due
  have r_found := cg (Option.some.inj he) rn_
  refine go_if G.fh (et_cmp op_lt o2_lt (ev_var 2 rfl r_due) ev_int (nomark _)) (fun hc F H g => ?_) (fun hc F H g => ?_)
  · rw [if_pos hc] at hm
    have G := G.trans g
    have r_due := Rp.mono g.ff r_due
    have r_found := Rp.mono g.ff r_found
    exact go_ret G.fh (ev_isNone (ev_var 3 rfl r_found)) fun v_ F_ H_ g_ rv_ => kr _ _ _ (G.trans g_) (cg (Option.some.inj hm) rv_)
  · rw [if_neg (nt hc)] at hm
    have G := G.trans g
    have r_due := Rp.mono g.ff r_due
    have r_found := Rp.mono g.ff r_found
    refine GoS.nil ?_
    obtain ⟨t4, h_t4, hm⟩ := Option.bind_eq_some_iff.mp hm
    exact go_ret G.fh (ev_andP (ev_call (ok_whole T) (hr.mono (by decide)) T.g_whole T.F_whole.kp (b_whole T) (ea_cons (ev_var 3 rfl r_found) ea_nil) h_t4) (ev_one (ev_cmp op_eq o2_eq (ev_var 3 rfl r_found) (Ev.some (ev_var 2 rfl r_due)) (nomark _)))) fun v_ F_ H_ g_ rv_ => kr _ _ _ (G.trans g_) (cg (Option.some.inj hm) rv_)
end

def D_cell_at : He.DefD := ⟨("_law_cell_at", none), "_law_cell_at", "_law_cell_at", defArgs s_cell_at, defBody s_cell_at, defScope s_cell_at, [], []⟩
def D_sign : He.DefD := ⟨("_law_sign", none), "_law_sign", "_law_sign", defArgs s_sign, defBody s_sign, defScope s_sign, [], []⟩
def D_text : He.DefD := ⟨("_law_text", none), "_law_text", "_law_text", defArgs s_text, defBody s_text, defScope s_text, [], []⟩
def D_figures : He.DefD := ⟨("_law_figures", none), "_law_figures", "_law_figures", defArgs s_figures, defBody s_figures, defScope s_figures, [], []⟩
def D_number_of : He.DefD := ⟨("number_of", none), "number_of", "number_of", defArgs s_number_of, defBody s_number_of, defScope s_number_of, [], []⟩
def D_whole : He.DefD := ⟨("_law_whole", none), "_law_whole", "_law_whole", defArgs s_whole, defBody s_whole, defScope s_whole, [], []⟩
def D_law : He.DefD := ⟨("law", none), "law", "law", defArgs s_law, defBody s_law, defScope s_law, [], []⟩
def fn : List He.DefD := [D_cell_at, D_sign, D_text, D_figures, D_number_of, D_whole, D_law]
def fa : List He.Fa := [.glo "_law_cell_at", .glo "_law_sign", .glo "_law_text", .glo "_law_figures", .glo "number_of", .glo "_law_whole", .glo "law", .free "bool", .free "int", .free "isinstance", .free "len", .free "str", .str "FIGURES" ("0123456789" : Str), .int "MOST_FIGURES" 18]
abbrev R : PySem.W.OpenRow := PySem.W.OpenLaw.row PySem.Challenge.rw_furrow_k21_numbers_read
abbrev hk : PySem.W.Hook := He.hookD 4 fa fn
def ob (s : PySem.W.SharedT) : He.AlD := He.obsDG 4 fa fn (HandSHeadRun.getT s)
theorem ob_eq (s : PySem.W.SharedT) : ob s = hk.obs s.abs := He.obsDG_eq (HandSHeadRun.getT_eq s)
def loose : List Str := ["__name__", "FIGURES", "MOST_FIGURES", "number_of", "_law_cell_at", "_law_whole", "_law_figures", "_law_sign", "_law_text"]
theorem run (w : World) : HandSHeadRun.RunEq R (PySem.W.view R.prog [10]) hk ob 1060 loose w := by
  intro os
  kernel_rfl
theorem facts {K : PySem.W.Frag} {h : Heap} {mg : Str → Option Value} (X : K.In h) (G : h.Ns mainGlobals mg) (c : He.SaysD fa fn K) : ∃ T : Txt K mg, ∀ (s : Shared) (v : Value), BindsTo s T.d_law ⟨[v], []⟩ [("_law_script", v)] := by
  obtain ⟨d_cell_at, F_cell_at⟩ := c.def_ 0 (d := D_cell_at) rfl
  obtain ⟨d_sign, F_sign⟩ := c.def_ 1 (d := D_sign) rfl
  obtain ⟨d_text, F_text⟩ := c.def_ 2 (d := D_text) rfl
  obtain ⟨d_figures, F_figures⟩ := c.def_ 3 (d := D_figures) rfl
  obtain ⟨d_number_of, F_number_of⟩ := c.def_ 4 (d := D_number_of) rfl
  obtain ⟨d_whole, F_whole⟩ := c.def_ 5 (d := D_whole) rfl
  obtain ⟨d_law, F_law⟩ := c.def_ 6 (d := D_law) rfl
  have b := FunD.bindsA (ps := ["_law_script"]) F_law fun _ _ _ _ _ _ us hl => match us, hl with | [_], _ => rfl
  exact ⟨⟨d_cell_at, F_cell_at, He.glo_ok X G (c.fact 0 (f := .glo "_law_cell_at") rfl),
    d_sign, F_sign, He.glo_ok X G (c.fact 1 (f := .glo "_law_sign") rfl),
    d_text, F_text, He.glo_ok X G (c.fact 2 (f := .glo "_law_text") rfl),
    d_figures, F_figures, He.glo_ok X G (c.fact 3 (f := .glo "_law_figures") rfl),
    d_number_of, F_number_of, He.glo_ok X G (c.fact 4 (f := .glo "number_of") rfl),
    d_whole, F_whole, He.glo_ok X G (c.fact 5 (f := .glo "_law_whole") rfl),
    d_law, F_law, He.glo_ok X G (c.fact 6 (f := .glo "law") rfl),
    He.free_ok X G (c.fact 7 (f := .free "bool") rfl),
    He.free_ok X G (c.fact 8 (f := .free "int") rfl),
    He.free_ok X G (c.fact 9 (f := .free "isinstance") rfl),
    He.free_ok X G (c.fact 10 (f := .free "len") rfl),
    He.free_ok X G (c.fact 11 (f := .free "str") rfl),
    He.str_ok X G (c.fact 12 rfl),
    He.int_ok X G (c.fact 13 rfl)⟩, fun s v => b s [v] rfl⟩
def spLaw (K : PySem.W.Frag) : Sp := Pr K fun (a_ : List Int × Unit) => m_law a_.1
theorem sp_true {K : PySem.W.Frag} (H : Hp) (a : Addr) (ns : List Int) (hS : SqL K H a (ns.map V.int)) (ht : m_law ns = some true) : spLaw K [.ref a] H (fun v _ => v = .bl true) fun _ _ _ => False :=
  ⟨H, (ns, ()), true, L2.Same.refl H, ⟨.ref a, [], rfl, ⟨a, _, rfl, hS, Rps.of_ints ns⟩, rfl⟩, ht, fun _ _ _ _ r => r⟩

end Law
open PySem PySem.W PySem.Calls PyProof.Rows
theorem PySem.Challenge.cw_furrow_k21_numbers_read_holds : PySem.Challenge.rw_furrow_k21_numbers_read.Holds := by
  w_on; o_law
  refine HandSHeadRun.head_any (r := OpenLaw.row PySem.Challenge.rw_furrow_k21_numbers_read) (q := view (OpenLaw.row PySem.Challenge.rw_furrow_k21_numbers_read).prog [10]) (H := Law.hk) (ob := Law.ob) (M := 1060) (loose := Law.loose) (d := HandSHeadRun.topDef (OpenLaw.row PySem.Challenge.rw_furrow_k21_numbers_read).prog 10) (kwd := []) Law.ob_eq
    (by kernel_rfl) (fun s => by kernel_rfl) Law.run (by kernel_rfl) (by kernel_rfl) (by kernel_rfl) (by rfl) (by first | assumption | decide +kernel) (by decide +kernel) ⟨rfl, rfl, rfl, rfl, rfl, by decide +kernel⟩ ?hw ?hc
  case hw => w_witness2
  case hc =>
    refine L2.walk_ofE (l := PySem.Challenge.rw_furrow_k21_numbers_read) (n := 63) (k := 3) (x := "_law_script") (CX := L2.CX0) rfl (by decide) (by kernel_rfl) ⟨rfl, by decide, by decide⟩ ?F (fun _ _ _ _ z => z)
    intro w mg fa h Y G hmg0
    obtain ⟨K, KX, c⟩ := Y
    have hmg : mg ("law" : PySem.Str) = some (.ref fa) := by
      have e : (HandSHeadRun.topDef (OpenLaw.row PySem.Challenge.rw_furrow_k21_numbers_read).prog 10).name = ("law" : PySem.Str) := by kernel_rfl
      rw [← e]
      exact hmg0
    obtain ⟨T, hb⟩ := Law.facts KX G c
    have e := hmg.symm.trans T.g_law
    cases e
    exact ⟨K, T.d_law, Law.spLaw K, KX, hb, fun H a ns hl _ hS => Law.sp_true H a ns hS (Law.law_true ns hl), fun base _ _ => Law.ok_law T⟩

