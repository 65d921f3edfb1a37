import PyProof.Rows.All
import Wide.All
import OpenK.AllK
import Wide.FinOn
import HandS.ForMost
import HandS.ForExc
import HandS.IsInst
import HandS.Iter
import PyProof.StrBlock2
import HandS.Defaults
import HandS.TupAny
import HandS.Codes
import HandS.Zip
import HandS.Rev
import HandS.RevRange
import HandS.Deep
import HandS.Strs
import HandS.More
import HandS.TupLen
import HandS.DictComp
import HandS.Words
import HandS.WordsExc
import HandS.Head0
import HandS.Head1
import HandS.Head2
import HandS.HeadEnd
import HandS.HeadHook1
import HandS.HeadHook2
import HandS.TupMul
import KE.KDictList
import HandS.Conv
import HandS.TryOnly
import HandS.DictTup
import PyProof.NeKinds
import KE.GoesEnum
import PyProof.EnumMake
import HandS.SortInts
import KE.KStateDown
import PySem.Challenge.RW_furrow_k72_bonds_of_sides
set_option Elab.async false
set_option linter.all false
set_option maxRecDepth 100000
set_option maxHeartbeats 4000000
/-! Gx: a functional reading over the hand layer. -/
namespace Gx
open PySem PySem.Spec PyProof.Rows L2

/-! ### representation -/
class Rp (α : Type) where
  rp : PySem.W.Frag → Hp → V → α → Prop
  mono : ∀ {K : PySem.W.Frag} {F F' : Hp} {v : V} {x : α}, L2.Same F F' → rp K F v x → rp K F' v x
open Rp (rp)
instance : Rp Int := ⟨fun _ _ v x => v = .int x, fun _ h => h⟩
instance : Rp Bool := ⟨fun _ _ v x => v = .bl x, fun _ h => h⟩
instance : Rp Str := ⟨fun _ _ v x => v = .str x, fun _ h => h⟩
instance : Rp Unit := ⟨fun _ _ v _ => v = .non, fun _ h => h⟩
abbrev Rps {α : Type} [Rp α] (K : PySem.W.Frag) (F : Hp) : List V → List α → Prop := Paired (fun v x => rp K F v x)
theorem Rps.mono {α : Type} [Rp α] {K : PySem.W.Frag} {F F' : Hp} {vs : List V} {xs : List α} (s : L2.Same F F') (h : Rps K F vs xs) : Rps K F' vs xs := L2.Paired.mapP h fun _ _ => Rp.mono s
/-- a tracked tuple -/
def TupF (F : Hp) (a : Addr) (xs : List V) : Prop := F a = some (.tup xs)
theorem tupF_mono {H H' : Hp} {a : Addr} {xs : List V} (e : L2.Same H H') (h : TupF H a xs) : TupF H' a xs := e _ _ h
theorem seqT_mono {K : PySem.W.Frag} {H H' : Hp} {a : Addr} {xs : List V} (e : L2.Same H H') (h : TupF H a xs) : SqT K H' a xs := SqT.of (e _ _ h)
theorem sqT_mono {K : PySem.W.Frag} {H H' : Hp} {a : Addr} {xs : List V} (e : L2.Same H H') (h : SqT K H a xs) : SqT K H' a xs := by
  rcases h with (h | ⟨o, h⟩) | h
  · exact .inl (.inl (e _ _ h))
  · exact .inl (.inr ⟨o, e _ _ h⟩)
  · exact .inr h
instance {α : Type} [Rp α] : Rp (List α) := ⟨fun K F v xs => ∃ a vs, v = .ref a ∧ SqL K F a vs ∧ Rps K F vs xs, fun s ⟨a, vs, e, q, r⟩ => ⟨a, vs, e, s.seq q, r.mono s⟩⟩
/-- a tuple of things of one kind -/
structure Tp (α : Type) where
  l : List α
  deriving DecidableEq
instance {α : Type} [Rp α] : Rp (Tp α) := ⟨fun K F v xs => ∃ a vs, v = .ref a ∧ TupF F a vs ∧ Rps K F vs xs.l, fun s ⟨a, vs, e, q, r⟩ => ⟨a, vs, e, tupF_mono s q, r.mono s⟩⟩
/-- a constant tuple of things of one kind -/
structure Ct (α : Type) where
  l : List α
  deriving DecidableEq
instance {α : Type} [Rp α] : Rp (Ct α) := ⟨fun K F v xs => ∃ a vs, v = .ref a ∧ SqT K F a vs ∧ Rps K F vs xs.l, fun s ⟨a, vs, e, q, r⟩ => ⟨a, vs, e, sqT_mono s q, r.mono s⟩⟩
/-- a tuple of things of one kind whose object has no dict of its own -/
structure Tn (α : Type) where
  l : List α
  deriving DecidableEq
instance {α : Type} [Rp α] : Rp (Tn α) := ⟨fun K F v xs => ∃ a vs o, v = .ref a ∧ F a = some (.frz o (.tup vs)) ∧ o.dict = none ∧ o.cls = .type "tuple" ∧ Rps K F vs xs.l, fun s ⟨a, vs, o, e, q, d, c, r⟩ => ⟨a, vs, o, e, s _ _ q, d, c, r.mono s⟩⟩
/-- what stands as a tuple of things of one kind -/
class TL (θ : Type) (α : outParam Type) [Rp θ] [Rp α] where
  l : θ → List α
  sq : ∀ {K : PySem.W.Frag} {F : Hp} {v : V} {x : θ}, rp K F v x → ∃ a vs, v = .ref a ∧ SqT K F a vs ∧ Rps K F vs (l x)
instance {α : Type} [Rp α] : TL (Tp α) α := ⟨Tp.l, fun ⟨a, vs, e, q, r⟩ => ⟨a, vs, e, SqT.of q, r⟩⟩
instance {α : Type} [Rp α] : TL (Ct α) α := ⟨Ct.l, fun ⟨a, vs, e, q, r⟩ => ⟨a, vs, e, q, r⟩⟩
instance {α : Type} [Rp α] : TL (Tn α) α := ⟨Tn.l, fun ⟨a, vs, o, e, q, _, _, r⟩ => ⟨a, vs, e, .inl (.inr ⟨o, q⟩), r⟩⟩
/-- a row of values of unlike kinds: (x, (y, ())) -/
class Ra (τ : Type) where
  ra : PySem.W.Frag → Hp → List V → τ → Prop
  mono : ∀ {K : PySem.W.Frag} {F F' : Hp} {v : List V} {x : τ}, L2.Same F F' → ra K F v x → ra K F' v x
open Ra (ra)
instance : Ra Unit := ⟨fun _ _ vs _ => vs = [], fun _ h => h⟩
instance {α τ : Type} [Rp α] [Ra τ] : Ra (α × τ) := ⟨fun K F vs x => ∃ v r, vs = v :: r ∧ rp K F v x.1 ∧ ra K F r x.2, fun s ⟨v, r, e, p, q⟩ => ⟨v, r, e, Rp.mono s p, Ra.mono s q⟩⟩
/-- tuples of 2, 3, .. things -/
structure T1 (α : Type) where
  a : α
  deriving DecidableEq
structure T2 (α β : Type) where
  a : α
  b : β
  deriving DecidableEq
structure T3 (α β γ : Type) where
  a : α
  b : β
  c : γ
  deriving DecidableEq
structure T4 (α β γ δ : Type) where
  a : α
  b : β
  c : γ
  d : δ
  deriving DecidableEq
structure T5 (α β γ δ ε : Type) where
  a : α
  b : β
  c : γ
  d : δ
  e : ε
  deriving DecidableEq
/-- a kind that stands as a tuple: its row -/
class Tpl (θ : Type) (τ : outParam Type) where
  row : θ → τ
abbrev T1.row {α : Type} (x : T1 α) : α × Unit := (x.a, ())
abbrev T2.row {α β : Type} (x : T2 α β) : α × β × Unit := (x.a, x.b, ())
abbrev T3.row {α β γ : Type} (x : T3 α β γ) : α × β × γ × Unit := (x.a, x.b, x.c, ())
abbrev T4.row {α β γ δ : Type} (x : T4 α β γ δ) : α × β × γ × δ × Unit := (x.a, x.b, x.c, x.d, ())
abbrev T5.row {α β γ δ ε : Type} (x : T5 α β γ δ ε) : α × β × γ × δ × ε × Unit := (x.a, x.b, x.c, x.d, x.e, ())
def rpT {θ τ : Type} [Ra τ] (row : θ → τ) (K : PySem.W.Frag) (F : Hp) (v : V) (x : θ) : Prop := ∃ a vs, v = .ref a ∧ TupF F a vs ∧ ra K F vs (row x)
theorem rpT.mono {θ τ : Type} [Ra τ] {row : θ → τ} {K : PySem.W.Frag} {F F' : Hp} {v : V} {x : θ} (s : L2.Same F F') : rpT row K F v x → rpT row K F' v x := fun ⟨a, vs, e, q, r⟩ => ⟨a, vs, e, tupF_mono s q, Ra.mono s r⟩
instance {α : Type} [Rp α] : Rp (T1 α) := ⟨rpT T1.row, rpT.mono⟩
instance {α β : Type} [Rp α] [Rp β] : Rp (T2 α β) := ⟨rpT T2.row, rpT.mono⟩
instance {α β γ : Type} [Rp α] [Rp β] [Rp γ] : Rp (T3 α β γ) := ⟨rpT T3.row, rpT.mono⟩
instance {α β γ δ : Type} [Rp α] [Rp β] [Rp γ] [Rp δ] : Rp (T4 α β γ δ) := ⟨rpT T4.row, rpT.mono⟩
instance {α β γ δ ε : Type} [Rp α] [Rp β] [Rp γ] [Rp δ] [Rp ε] : Rp (T5 α β γ δ ε) := ⟨rpT T5.row, rpT.mono⟩
/-- None or a thing that is never None -/
class NN (α : Type) [Rp α] : Prop where
  nn : ∀ {K : PySem.W.Frag} {F : Hp} {x : α}, ¬ rp K F V.non x
instance : NN Int := ⟨fun h => nomatch h⟩
instance : NN Bool := ⟨fun h => nomatch h⟩
instance : NN Str := ⟨fun h => nomatch h⟩
instance {α : Type} [Rp α] : NN (List α) := ⟨fun ⟨_, _, e, _⟩ => nomatch e⟩
instance {α : Type} [Rp α] : NN (Tp α) := ⟨fun ⟨_, _, e, _⟩ => nomatch e⟩
instance {α : Type} [Rp α] : NN (Tn α) := ⟨fun ⟨_, _, _, e, _⟩ => nomatch e⟩
theorem rpT.nn {θ τ : Type} [Ra τ] {row : θ → τ} {K : PySem.W.Frag} {F : Hp} {x : θ} : ¬ rpT row K F .non x := fun ⟨_, _, e, _⟩ => nomatch e
instance {α : Type} [Rp α] : NN (T1 α) := ⟨rpT.nn⟩
instance {α β : Type} [Rp α] [Rp β] : NN (T2 α β) := ⟨rpT.nn⟩
instance {α β γ : Type} [Rp α] [Rp β] [Rp γ] : NN (T3 α β γ) := ⟨rpT.nn⟩
instance {α β γ δ : Type} [Rp α] [Rp β] [Rp γ] [Rp δ] : NN (T4 α β γ δ) := ⟨rpT.nn⟩
instance {α β γ δ ε : Type} [Rp α] [Rp β] [Rp γ] [Rp δ] [Rp ε] : NN (T5 α β γ δ ε) := ⟨rpT.nn⟩
def rpO {α : Type} [Rp α] (K : PySem.W.Frag) (F : Hp) (v : V) : Option α → Prop
  | none => v = .non
  | some x => rp K F v x
instance {α : Type} [Rp α] [NN α] : Rp (Option α) := ⟨rpO, fun {K F F' v x} s h => by
  cases x with
  | none => exact h
  | some x => exact Rp.mono (α := α) s h⟩
theorem rp_some {α : Type} [Rp α] [NN α] {K : PySem.W.Frag} {F : Hp} {v : V} {x : α} (h : rp K F v x) : rp K F v (some x) := h
theorem rp_none {α : Type} [Rp α] [NN α] {K : PySem.W.Frag} {F : Hp} : rp K F V.non (none : Option α) := rfl
theorem rp_isNone {α : Type} [Rp α] [NN α] {K : PySem.W.Frag} {F : Hp} {v : V} : ∀ {x : Option α}, rp K F v x → decide (v = .non) = x.isNone
  | none, h => by
    have e : v = .non := h
    rw [e]; rfl
  | some x, h => by
    have e : ¬ v = .non := fun e => by
      subst e
      exact NN.nn (α := α) h
    rw [decide_eq_false e]; rfl

/-! ### shared part and heap -/
/-- no tuple -/
def lstish : HO → Prop
  | .tup _ => False
  | .frz _ (.tup _) => False
  | _ => True
structure Gr (F H F' H' : Hp) : Prop where
  ff : L2.Same F F'
  fh : L2.Same F' H'
  hh : L2.Same H H'
  fr : ∀ a o, H a = some o → lstish o → F' a = F a
theorem Gr.refl {F H : Hp} (s : L2.Same F H) : Gr F H F H := ⟨.refl _, s, .refl _, fun _ _ _ _ => rfl⟩
theorem Gr.trans {F H F1 H1 F2 H2 : Hp} (a : Gr F H F1 H1) (b : Gr F1 H1 F2 H2) : Gr F H F2 H2 :=
  ⟨a.ff.trans b.ff, b.fh, a.hh.trans b.hh, fun c o h n => by rw [b.fr c o (a.hh c o h) n, a.fr c o h n]⟩
theorem Gr.new {F H : Hp} {p : Addr} {o : HO} (s : L2.Same F H) (hp : H p = none) : Gr F H (upd F p o) (upd H p o) := by
  have fp : F p = none := s.free hp
  refine ⟨fun b u e => ?_, fun b u e => ?_, fun b u e => ?_, fun a o h _ => ?_⟩
  · rw [upd_ne (ne_of_none e fp)]; exact e
  · by_cases hb : b = p
    · subst hb; rw [upd_same] at e ⊢; exact e
    · rw [upd_ne hb] at e ⊢; exact s _ _ e
  · rw [upd_ne (ne_of_none e hp)]; exact e
  · by_cases hb : a = p
    · subst hb; rw [hp] at h; cases h
    · rw [upd_ne hb]
/-- a new object that stays private -/
theorem Gr.newP {F H : Hp} {p : Addr} {o : HO} (s : L2.Same F H) (hp : H p = none) : Gr F H F (upd H p o) := by
  refine ⟨.refl _, fun b u e => ?_, fun b u e => ?_, fun a o h _ => rfl⟩
  · rw [upd_ne (ne_of_none (s _ _ e) hp)]; exact s _ _ e
  · rw [upd_ne (ne_of_none e hp)]; exact e

/-! ### runs -/
def GoE (X : Cx) (e : Expr) : TE := fun σ H Q => ∀ pins s, Inv X pins σ H s → wpAny (model X.prog X.w) X.A (eval e X.env) (EP X pins σ Q) X.xe s
def GoT (X : Cx) (e : Expr) : TT := fun σ H Q => ∀ pins s, Inv X pins σ H s → wpAny (model X.prog X.w) X.A (isTrue e X.env (eval e X.env)) (TP X pins σ Q) X.xe s
def GoA (X : Cx) (es : List Expr) : TA := fun σ H Q => ∀ pos pins s, Inv X pins σ H s → wpAny (model X.prog X.w) X.A (spliced (backTo pos (starEach es X.env))) (AP X pins σ Q) X.xe s
def GoS (X : Cx) (st : List Stmt) : TS := fun D σ H => ∀ pins s, Inv X pins σ H s → wpAny (model X.prog X.w) X.A (execs st X.env) (SP X pins D) X.xe s
def GoI (X : Cx) (tg iter : Expr) : TI := fun σ H R => ∀ pins s, Inv X pins σ H s → wpAny (model X.prog X.w) X.A (eval iter X.env) (fun v s1 => wpAny (model X.prog X.w) X.A (pyIter v) (PIE X pins σ tg R) X.xe s1) X.xe s
section
variable {X : Cx} {e : Expr} {es : List Expr} {st : Stmt} {sts rest : List Stmt} {σ : L2.St} {F H : Hp} {D : Ends}
theorem pe_go : PE X e (GoE X e) := ⟨fun pins s σ H Q I h => h pins s I⟩
theorem pt_go : PT X e (GoT X e) := ⟨fun pins s σ H Q I h => h pins s I⟩
theorem pa_go : PA X es (GoA X es) := ⟨fun pos pins s σ H Q I h => h pos pins s I⟩
theorem pss_go : PSs X sts (GoS X sts) := ⟨fun pins s σ H D I h => h pins s I⟩
theorem pi_go {tg iter : Expr} : PI X tg iter (GoI X tg iter) := ⟨fun pins s σ H R I h => h pins s I⟩
theorem GoE.of {t : TE} {Q : VK} (p : PE X e t) (h : t σ H Q) : GoE X e σ H Q := fun pins s I => p.run pins s σ H Q I h
theorem GoT.of {t : TT} {Q : Bool → Hp → Prop} (p : PT X e t) (h : t σ H Q) : GoT X e σ H Q := fun pins s I => p.run pins s σ H Q I h
theorem GoA.of {t : TA} {Q : List V → Hp → Prop} (p : PA X es t) (h : t σ H Q) : GoA X es σ H Q := fun pos pins s I => p.run pos pins s σ H Q I h
theorem GoI.of {tg iter : Expr} {t : TI} {R : It → Hp → Prop} (p : PI X tg iter t) (h : t σ H R) : GoI X tg iter σ H R := fun pins s I => p.run pins s σ H R I h
theorem GoS.of {t : TS} (p : PSs X sts t) (h : t D σ H) : GoS X sts D σ H := fun pins s I => p.run pins s σ H D I h
theorem GoS.cons {t : TS} (p : PS X st t) (h : t { D with nx := GoS X rest D } σ H) : GoS X (st :: rest) D σ H := GoS.of (pss_cons p pss_go) h
theorem GoS.nil (h : D.nx σ H) : GoS X [] D σ H := GoS.of pss_nil h
theorem GoS.mono {D' : Ends} (h : GoS X sts D σ H) (n : ∀ σ H, D.nx σ H → D'.nx σ H) (r : ∀ v H, D.rt v H → D'.rt v H) (b : ∀ σ H, D.bk σ H → D'.bk σ H) (c : ∀ σ H, D.ct σ H → D'.ct σ H) : GoS X sts D' σ H := fun pins s I =>
  thn (h pins s I) fun f s' q => by
    cases f with
    | next => obtain ⟨σ', H', I, q⟩ := q; exact ⟨σ', H', I, n _ _ q⟩
    | brk => obtain ⟨σ', H', I, q⟩ := q; exact ⟨σ', H', I, b _ _ q⟩
    | cont => obtain ⟨σ', H', I, q⟩ := q; exact ⟨σ', H', I, c _ _ q⟩
    | ret u => obtain ⟨v, σ', H', I, r', q⟩ := q; exact ⟨v, σ', H', I, r', r _ _ q⟩

/-! ### e is worth x -/
def Ev {α : Type} [Rp α] (X : Cx) (e : Expr) (σ : L2.St) (F H : Hp) (x : α) : Prop := ∀ F1 H1, Gr F H F1 H1 → ∀ Q : VK, (∀ v F2 H2, Gr F1 H1 F2 H2 → rp X.K F2 v x → Q v H2) → GoE X e σ H1 Q
def EvT (X : Cx) (e : Expr) (σ : L2.St) (F H : Hp) (b : Bool) : Prop := ∀ F1 H1, Gr F H F1 H1 → ∀ Q : Bool → Hp → Prop, (∀ F2 H2, Gr F1 H1 F2 H2 → Q b H2) → GoT X e σ H1 Q
def EvA {τ : Type} [Ra τ] (X : Cx) (es : List Expr) (σ : L2.St) (F H : Hp) (x : τ) : Prop := ∀ F1 H1, Gr F H F1 H1 → ∀ Q : List V → Hp → Prop, (∀ vs F2 H2, Gr F1 H1 F2 H2 → ra X.K F2 vs x → Q vs H2) → GoA X es σ H1 Q
theorem Ev.up {α : Type} [Rp α] {x : α} {F' H' : Hp} (h : Ev X e σ F H x) (g : Gr F H F' H') : Ev X e σ F' H' x := fun F1 H1 g1 => h F1 H1 (g.trans g1)
theorem EvT.up {b : Bool} {F' H' : Hp} (h : EvT X e σ F H b) (g : Gr F H F' H') : EvT X e σ F' H' b := fun F1 H1 g1 => h F1 H1 (g.trans g1)

theorem ev_var {α : Type} [Rp α] {x : α} {v : V} (i : Nat) {n : Str} {pos : Pos} (hs : σ[i]? = some (some v)) (h : rp X.K F v x) (hN : X.N[i]? = some n := by rfl) (hv : Vis X.env.scope n := by first | exact Or.inl rfl | exact Or.inr (Or.inl rfl) | exact Or.inr (Or.inr rfl))
    (hd : (n == ("__debug__" : Str)) = false := by decide) (hcd : (n == ("__classdict__" : Str)) = false := by decide) : Ev X (.Name n pos) σ F H x := fun F1 H1 g Q q =>
  GoE.of (pe_var hN hv hd hcd) ⟨v, hs, q v F1 H1 (.refl g.fh) (Rp.mono g.ff h)⟩
theorem ev_int {i : Int} {j : Nat} {pos : Pos} : Ev X (.Constant (.int i) j pos) σ F H i := fun F1 H1 g Q q => GoE.of pe_int (q (.int i) F1 H1 (.refl g.fh) rfl)
theorem ev_bl {i : Bool} {j : Nat} {pos : Pos} : Ev X (.Constant (.bool i) j pos) σ F H i := fun F1 H1 g Q q => GoE.of pe_bl (q (.bl i) F1 H1 (.refl g.fh) rfl)
theorem ev_str {i : Str} {j : Nat} {pos : Pos} : Ev X (.Constant (.str i) j pos) σ F H i := fun F1 H1 g Q q => GoE.of pe_str (q (.str i) F1 H1 (.refl g.fh) rfl)
theorem ev_unit {j : Nat} {pos : Pos} : Ev X (.Constant .none j pos) σ F H () := fun F1 H1 g Q q => GoE.of pe_non (q .non F1 H1 (.refl g.fh) rfl)
theorem ev_none {α : Type} [Rp α] [NN α] {j : Nat} {pos : Pos} : Ev X (.Constant .none j pos) σ F H (none : Option α) := fun F1 H1 g Q q => GoE.of pe_non (q .non F1 H1 (.refl g.fh) rfl)
theorem Ev.some {α : Type} [Rp α] [NN α] {x : α} (h : Ev X e σ F H x) : Ev X e σ F H (some x) := fun F1 H1 g Q q => h F1 H1 g Q q
/-- a module's constant -/
theorem ev_glob {α : Type} [Rp α] {c : α} {x : Str} {v : V} {u : Value} {pos : Pos} (hm : X.mg x = some u) (r : RelV v u) (h : ∀ F, rp X.K F v c) (hg : Gl X x := by rfl) (hd : (x == ("__debug__" : Str)) = false := by decide) : Ev X (.Name x pos) σ F H c := fun F1 H1 g Q q =>
  GoE.of (pe_glob hg hm r hd) (q v F1 H1 (.refl g.fh) (h F1))

/-! ### args -/
theorem ea_nil : EvA X [] σ F H () := fun F1 H1 g Q q => GoA.of pa_nil (q [] F1 H1 (.refl g.fh) rfl)
theorem ea_cons {α τ : Type} [Rp α] [Ra τ] {x : α} {y : τ} (ha : Ev X e σ F H x) (hr : EvA X es σ F H y) (hs : starEach (e :: es) X.env = (false, eval e X.env) :: starEach es X.env := by rfl) : EvA X (e :: es) σ F H (x, y) := fun F1 H1 g Q q =>
  GoA.of (pa_cons pe_go pa_go hs) (ha F1 H1 g _ fun v F2 H2 g2 r2 => hr F2 H2 (g.trans g2) _ fun vs F3 H3 g3 r3 => q _ F3 H3 (g2.trans g3) ⟨v, vs, rfl, Rp.mono g3.ff r2, r3⟩)

/-! ### two operands, by values -/
/-- the rule r gives z for x and y -/
def Op2 {α β γ : Type} [Rp α] [Rp β] [Rp γ] (K : PySem.W.Frag) (r : R2) (x : α) (y : β) (z : γ) : Prop := ∀ (F H : Hp) (v w : V) (Q : VK), L2.Same F H → rp K F v x → rp K F w y → (∀ u F' H', Gr F H F' H' → rp K F' u z → Q u H') → r v w H Q
theorem ev_bin {α β γ : Type} [Rp α] [Rp β] [Rp γ] {x : α} {y : β} {z : γ} {a b : Expr} {op : Operator} {pos : Pos} {r : R2} (ho : OpR X (binaryOp op) r) (hr : Op2 X.K r x y z) (ha : Ev X a σ F H x) (hb : Ev X b σ F H y) : Ev X (.BinOp a op b pos) σ F H z := fun F1 H1 g Q q =>
  GoE.of (pe_op ho pe_go pe_go) (ha F1 H1 g _ fun v F2 H2 g2 r2 => hb F2 H2 (g.trans g2) _ fun w F3 H3 g3 r3 => hr F3 H3 v w Q g3.fh (Rp.mono g3.ff r2) r3 fun u F4 H4 g4 r4 => q u F4 H4 ((g2.trans g3).trans g4) r4)
theorem ev_cmp {α β : Type} [Rp α] [Rp β] {x : α} {y : β} {z : Bool} {a b : Expr} {op : CmpOp} {pos : Pos} {r : R2} (ho : OpR X (compareOp op) r) (hr : Op2 X.K r x y z) (ha : Ev X a σ F H x) (hb : Ev X b σ F H y) (hm : behindInMarks op b = false) : Ev X (.Compare a [op] [b] pos) σ F H z := fun F1 H1 g Q q =>
  GoE.of (pe_cmpR ho pe_go pe_go hm) (ha F1 H1 g _ fun v F2 H2 g2 r2 => hb F2 H2 (g.trans g2) _ fun w F3 H3 g3 r3 => hr F3 H3 v w Q g3.fh (Rp.mono g3.ff r2) r3 fun u F4 H4 g4 r4 => q u F4 H4 ((g2.trans g3).trans g4) r4)
theorem et_cmp {α β : Type} [Rp α] [Rp β] {x : α} {y : β} {z : Bool} {a b : Expr} {op : CmpOp} {pos : Pos} {r : R2} (ho : OpR X (compareOp op) r) (hr : Op2 X.K r x y z) (ha : Ev X a σ F H x) (hb : Ev X b σ F H y) (hm : behindInMarks op b = false) : EvT X (.Compare a [op] [b] pos) σ F H z := fun F1 H1 g Q q =>
  GoT.of (pt_cmpR ho pe_go pe_go hm) (ha F1 H1 g _ fun v F2 H2 g2 r2 => hb F2 H2 (g.trans g2) _ fun w F3 H3 g3 r3 => hr F3 H3 v w _ g3.fh (Rp.mono g3.ff r2) r3 fun u F4 H4 g4 r4 => by
    have r4 : u = .bl z := r4
    subst r4
    exact ⟨z, rfl, q F4 H4 ((g2.trans g3).trans g4)⟩)
theorem ev_chain {α β γ : Type} [Rp α] [Rp β] [Rp γ] {x : α} {y : β} {z : γ} {p q : Bool} {a b c : Expr} {op op' : CmpOp} {pos : Pos} {r r' : R2} (ho : OpR X (compareOp op) r) (ho' : OpR X (compareOp op') r') (hr : Op2 X.K r x y p) (hr' : Op2 X.K r' y z q)
    (ha : Ev X a σ F H x) (hb : Ev X b σ F H y) (hc : Ev X c σ F H z) (hm : lastMarks [op, op'] [b, c] = false := by with_unfolding_all rfl) : Ev X (.Compare a [op, op'] [b, c] pos) σ F H (p && q) := fun F1 H1 g Q k =>
  GoE.of (pe_chain ho ho' pe_go pe_go pe_go hm) (ha F1 H1 g _ fun v F2 H2 g2 r2 => hb F2 H2 (g.trans g2) _ fun w F3 H3 g3 r3 => hr F3 H3 v w _ g3.fh (Rp.mono g3.ff r2) r3 fun u F4 H4 g4 r4 => by
    have r4 : u = .bl p := r4
    subst r4
    refine ⟨p, rfl, ?_⟩
    cases p with
    | true =>
      rw [if_pos rfl]
      exact hc F4 H4 (((g.trans g2).trans g3).trans g4) _ fun w' F5 H5 g5 r5 => hr' F5 H5 w w' _ g5.fh (Rp.mono (g4.ff.trans g5.ff) r3) r5 fun u' F6 H6 g6 r6 => k u' F6 H6 ((((g2.trans g3).trans g4).trans g5).trans g6) r6
    | false =>
      rw [if_neg Bool.false_ne_true]
      exact k _ F4 H4 ((g2.trans g3).trans g4) rfl)
end
end Gx

/-! Gy: operations. -/
namespace Gx
open PySem PySem.Spec PyProof.Rows L2
open Rp (rp)
open Ra (ra)
section
variable {X : Cx} {K : PySem.W.Frag} {e a b c d : Expr} {es : List Expr} {σ : L2.St} {F H : Hp} {pos : Pos}
/-! ### ints -/
theorem o2_I0 {γ : Type} [Rp γ] {g : Int → Int → V} {x y : Int} {z : γ} (h : ∀ F, rp K F (g x y) z) : Op2 K (rI0 g) x y z := fun F H v w Q s rv rw k => ⟨x, y, rv, rw, k _ F H (.refl s) (h F)⟩
theorem o2_I {γ : Type} [Rp γ] {C : Int → Int → Prop} {g : Int → Int → V} {x y : Int} {z : γ} (hc : C x y) (h : ∀ F, rp K F (g x y) z) : Op2 K (rI C g) x y z := fun F H v w Q s rv rw k => ⟨x, y, rv, rw, hc, k _ F H (.refl s) (h F)⟩
theorem ev_add {x y : Int} (ha : Ev X a σ F H x) (hb : Ev X b σ F H y) : Ev X (.BinOp a .Add b pos) σ F H (x + y) := ev_bin op_add (o2_I0 fun _ => rfl) ha hb
theorem ev_sub {x y : Int} (ha : Ev X a σ F H x) (hb : Ev X b σ F H y) : Ev X (.BinOp a .Sub b pos) σ F H (x - y) := ev_bin op_sub (o2_I0 fun _ => rfl) ha hb
theorem ev_mul {x y : Int} (ha : Ev X a σ F H x) (hb : Ev X b σ F H y) (h : CMul x y) : Ev X (.BinOp a .Mult b pos) σ F H (x * y) := ev_bin op_mul (o2_I h fun _ => rfl) ha hb
theorem ev_div {x y : Int} (ha : Ev X a σ F H x) (hb : Ev X b σ F H y) (h : CDiv x y) : Ev X (.BinOp a .FloorDiv b pos) σ F H (x / y) := ev_bin op_fdiv (o2_I h fun _ => rfl) ha hb
theorem ev_mod {x y : Int} (ha : Ev X a σ F H x) (hb : Ev X b σ F H y) (h : 0 < y) : Ev X (.BinOp a .Mod b pos) σ F H (x % y) := ev_bin op_mod (o2_I h fun _ => rfl) ha hb
theorem ev_powc {x y z : Int} (ha : Ev X a σ F H x) (hb : Ev X b σ F H y) (h : CPow x y) (hz : x ^ y.toNat = z) : Ev X (.BinOp a .Pow b pos) σ F H z := ev_bin op_pow (o2_I h fun _ => congrArg V.int hz) ha hb
theorem ev_neg {x : Int} (ha : Ev X a σ F H x) : Ev X (.UnaryOp .USub a pos) σ F H (-x) := fun F1 H1 g Q q => GoE.of (pe_un un_neg pe_go) (ha F1 H1 g _ fun v F2 H2 g2 r2 => ⟨x, r2, q _ F2 H2 g2 rfl⟩)
theorem CMul.l {i j : Int} (h : -(2 ^ 64) < i ∧ i < 2 ^ 64) : CMul i j := .inl h
theorem CMul.r {i j : Int} (h : -(2 ^ 64) < j ∧ j < 2 ^ 64) : CMul i j := .inr h
/-- a guarded product, quotient, rest -/
instance (i j : Int) : Decidable (CMul i j) := inferInstanceAs (Decidable (_ ∨ _))
instance (i j : Int) : Decidable (CDiv i j) := inferInstanceAs (Decidable (_ ∧ _))
instance (i j : Int) : Decidable (CPow i j) := inferInstanceAs (Decidable (_ ∧ _ ∧ _))
def mulG (i j : Int) : Option Int := if CMul i j then some (i * j) else none
def divG (i j : Int) : Option Int := if CDiv i j then some (i / j) else none
def modG (i j : Int) : Option Int := if 0 < j then some (i % j) else none
theorem mulG_of {i j r : Int} (h : mulG i j = some r) : CMul i j ∧ i * j = r := by
  unfold mulG at h; split at h
  · exact ⟨by assumption, Option.some.inj h⟩
  · cases h
theorem divG_of {i j r : Int} (h : divG i j = some r) : CDiv i j ∧ i / j = r := by
  unfold divG at h; split at h
  · exact ⟨by assumption, Option.some.inj h⟩
  · cases h
theorem modG_of {i j r : Int} (h : modG i j = some r) : 0 < j ∧ i % j = r := by
  unfold modG at h; split at h
  · exact ⟨by assumption, Option.some.inj h⟩
  · cases h
theorem ev_mulG {x y r : Int} (ha : Ev X a σ F H x) (hb : Ev X b σ F H y) (h : mulG x y = some r) : Ev X (.BinOp a .Mult b pos) σ F H r := by
  obtain ⟨c, rfl⟩ := mulG_of h; exact ev_mul ha hb c
theorem ev_divG {x y r : Int} (ha : Ev X a σ F H x) (hb : Ev X b σ F H y) (h : divG x y = some r) : Ev X (.BinOp a .FloorDiv b pos) σ F H r := by
  obtain ⟨c, rfl⟩ := divG_of h; exact ev_div ha hb c
theorem ev_modG {x y r : Int} (ha : Ev X a σ F H x) (hb : Ev X b σ F H y) (h : modG x y = some r) : Ev X (.BinOp a .Mod b pos) σ F H r := by
  obtain ⟨c, rfl⟩ := modG_of h; exact ev_mod ha hb c
/-! ### comparisons -/
theorem o2_lt {x y : Int} : Op2 K (rI0 fun i j => .bl (decide (i < j))) x y (decide (x < y)) := o2_I0 fun _ => rfl
theorem o2_le {x y : Int} : Op2 K (rI0 fun i j => .bl (decide (i ≤ j))) x y (decide (x ≤ y)) := o2_I0 fun _ => rfl
theorem o2_gt {x y : Int} : Op2 K (rI0 fun i j => .bl (decide (j < i))) x y (decide (y < x)) := o2_I0 fun _ => rfl
theorem o2_ge {x y : Int} : Op2 K (rI0 fun i j => .bl (decide (j ≤ i))) x y (decide (y ≤ x)) := o2_I0 fun _ => rfl
/-- scalars that == tells apart -/
class Sc (α : Type) [Rp α] [DecidableEq α] : Prop where
  sc : ∀ {K : PySem.W.Frag} {F : Hp} {v w : V} {x y : α}, rp K F v x → rp K F w y → scal v w = true ∧ decide (v = w) = decide (x = y)
instance : Sc Int := ⟨fun {K F v w x y} h1 h2 => by
  have h1 : v = .int x := h1
  have h2 : w = .int y := h2
  subst h1; subst h2
  exact ⟨rfl, by simp⟩⟩
instance : Sc Str := ⟨fun {K F v w x y} h1 h2 => by
  have h1 : v = .str x := h1
  have h2 : w = .str y := h2
  subst h1; subst h2
  exact ⟨rfl, by simp⟩⟩
instance : Sc Bool := ⟨fun {K F v w x y} h1 h2 => by
  have h1 : v = .bl x := h1
  have h2 : w = .bl y := h2
  subst h1; subst h2
  exact ⟨rfl, by simp⟩⟩
theorem o2_eq {α : Type} [Rp α] [DecidableEq α] [Sc α] {x y : α} : Op2 K rEq x y (decide (x = y)) := fun F H v w Q s rv rw k => by
  obtain ⟨h1, h2⟩ := Sc.sc rv rw
  exact ⟨h1, k _ F H (.refl s) (congrArg V.bl h2)⟩
theorem o2_ne {α : Type} [Rp α] [DecidableEq α] [Sc α] {x y : α} : Op2 K rNe x y (!decide (x = y)) := fun F H v w Q s rv rw k => by
  obtain ⟨h1, h2⟩ := Sc.sc rv rw
  exact ⟨h1, k _ F H (.refl s) (congrArg (fun t => V.bl (!t)) h2)⟩
theorem ev_isNone {α : Type} [Rp α] [NN α] {x : Option α} {j : Nat} {pos' : Pos} (ha : Ev X a σ F H x) : Ev X (.Compare a [.Is] [.Constant .none j pos'] pos) σ F H x.isNone := fun F1 H1 g Q q =>
  GoE.of (pe_cmp (pc_isN pe_go) rfl) (ha F1 H1 g _ fun v F2 H2 g2 r2 => q _ F2 H2 g2 (congrArg V.bl (rp_isNone r2)))
theorem ev_notNone {α : Type} [Rp α] [NN α] {x : Option α} {j : Nat} {pos' : Pos} (ha : Ev X a σ F H x) : Ev X (.Compare a [.IsNot] [.Constant .none j pos'] pos) σ F H (!x.isNone) := fun F1 H1 g Q q =>
  GoE.of (pe_cmp (pc_notN pe_go) rfl) (ha F1 H1 g _ fun v F2 H2 g2 r2 => q _ F2 H2 g2 (congrArg (fun t => V.bl (!t)) (rp_isNone r2)))
theorem et_isNone {α : Type} [Rp α] [NN α] {x : Option α} {j : Nat} {pos' : Pos} (ha : Ev X a σ F H x) : EvT X (.Compare a [.Is] [.Constant .none j pos'] pos) σ F H x.isNone := fun F1 H1 g Q q =>
  GoT.of (pt_cmp (pc_isN pe_go) rfl) (ha F1 H1 g _ fun v F2 H2 g2 r2 => ⟨x.isNone, congrArg V.bl (rp_isNone r2), q F2 H2 g2⟩)
theorem et_notNone {α : Type} [Rp α] [NN α] {x : Option α} {j : Nat} {pos' : Pos} (ha : Ev X a σ F H x) : EvT X (.Compare a [.IsNot] [.Constant .none j pos'] pos) σ F H (!x.isNone) := fun F1 H1 g Q q =>
  GoT.of (pt_cmp (pc_notN pe_go) rfl) (ha F1 H1 g _ fun v F2 H2 g2 r2 => ⟨!x.isNone, congrArg (fun t => V.bl (!t)) (rp_isNone r2), q F2 H2 g2⟩)
/-! ### tests -/
theorem et_val {x : Bool} (h : Ev X e σ F H x) (he : ∀ whole, isTrue e X.env whole = (do let v ← whole; standAt e.pos; holding [v] (truthy v)) := by intro _; rfl) : EvT X e σ F H x := fun F1 H1 g Q q =>
  GoT.of (pt_val pe_go he) (h F1 H1 g _ fun v F2 H2 g2 r2 => ⟨x, r2, q F2 H2 g2⟩)
theorem et_not {x : Bool} (h : EvT X a σ F H x) : EvT X (.UnaryOp .Not a pos) σ F H (!x) := fun F1 H1 g Q q => GoT.of (pt_not pt_go) (h F1 H1 g _ fun F2 H2 g2 => q F2 H2 g2)
theorem ev_not {x : Bool} (h : Ev X a σ F H x) : Ev X (.UnaryOp .Not a pos) σ F H (!x) := fun F1 H1 g Q q => GoE.of (pe_not pe_go) (h F1 H1 g _ fun v F2 H2 g2 r2 => ⟨x, r2, q _ F2 H2 g2 rfl⟩)
def GoW (X : Cx) (e : Expr) : TT := fun σ H Q => ∀ whole pins s, Inv X pins σ H s → wpAny (model X.prog X.w) X.A (isTrue e X.env whole) (TP X pins σ Q) X.xe s
theorem pw_go : PW X e (GoW X e) := ⟨fun wh pins s σ H Q I h => h wh pins s I⟩
theorem GoW.of {t : TT} {Q : Bool → Hp → Prop} (p : PW X e t) (h : t σ H Q) : GoW X e σ H Q := fun wh pins s I => p.run wh pins s σ H Q I h
def EvW (X : Cx) (e : Expr) (σ : L2.St) (F H : Hp) (b : Bool) : Prop := ∀ F1 H1, Gr F H F1 H1 → ∀ Q : Bool → Hp → Prop, (∀ F2 H2, Gr F1 H1 F2 H2 → Q b H2) → GoW X e σ H1 Q
theorem EvW.t {x : Bool} (h : EvW X e σ F H x) : EvT X e σ F H x := fun F1 H1 g Q q => GoT.of (PW.pt pw_go) (h F1 H1 g Q q)
theorem EvW.cg {x y : Bool} (h : x = y) (r : EvW X e σ F H x) : EvW X e σ F H y := h ▸ r
theorem EvT.cg {x y : Bool} (h : x = y) (r : EvT X e σ F H x) : EvT X e σ F H y := h ▸ r
theorem Ev.cg {α : Type} [Rp α] {x y : α} (h : x = y) (r : Ev X e σ F H x) : Ev X e σ F H y := h ▸ r
theorem ew_and1 {x : Bool} (h : EvT X a σ F H x) : EvW X (.BoolOp .And [a] pos) σ F H x := fun F1 H1 g Q q => GoW.of (pw_and1 pt_go) (h F1 H1 g Q q)
theorem ew_or1 {x : Bool} (h : EvT X a σ F H x) : EvW X (.BoolOp .Or [a] pos) σ F H x := fun F1 H1 g Q q => GoW.of (pw_or1 pt_go) (h F1 H1 g Q q)
theorem ew_and {x r : Bool} {rest : List Expr} (ha : EvT X a σ F H x) (hb : x = true → EvW X (.BoolOp .And (b :: rest) pos) σ F H r) (hn : x = false → r = false) : EvW X (.BoolOp .And (a :: b :: rest) pos) σ F H r := fun F1 H1 g Q q =>
  GoW.of (pw_and pt_go pw_go) (ha F1 H1 g _ fun F2 H2 g2 => by
    cases x with
    | true => rw [if_pos rfl]; exact hb rfl F2 H2 (g.trans g2) Q fun F3 H3 g3 => q F3 H3 (g2.trans g3)
    | false =>
      rw [if_neg Bool.false_ne_true]
      have e := hn rfl
      subst e
      exact q F2 H2 g2)
theorem ew_or {x r : Bool} {rest : List Expr} (ha : EvT X a σ F H x) (hb : x = false → EvW X (.BoolOp .Or (b :: rest) pos) σ F H r) (hn : x = true → r = true) : EvW X (.BoolOp .Or (a :: b :: rest) pos) σ F H r := fun F1 H1 g Q q =>
  GoW.of (pw_or pt_go pw_go) (ha F1 H1 g _ fun F2 H2 g2 => by
    cases x with
    | false => rw [if_neg Bool.false_ne_true]; exact hb rfl F2 H2 (g.trans g2) Q fun F3 H3 g3 => q F3 H3 (g2.trans g3)
    | true =>
      rw [if_pos rfl]
      have e := hn rfl
      subst e
      exact q F2 H2 g2)
theorem ew_andP {x y : Bool} {rest : List Expr} (ha : EvT X a σ F H x) (hb : EvW X (.BoolOp .And (b :: rest) pos) σ F H y) : EvW X (.BoolOp .And (a :: b :: rest) pos) σ F H (x && y) :=
  ew_and ha (fun h => by subst h; exact hb) (fun h => by subst h; rfl)
theorem ew_orP {x y : Bool} {rest : List Expr} (ha : EvT X a σ F H x) (hb : EvW X (.BoolOp .Or (b :: rest) pos) σ F H y) : EvW X (.BoolOp .Or (a :: b :: rest) pos) σ F H (x || y) :=
  ew_or ha (fun h => by subst h; exact hb) (fun h => by subst h; rfl)
theorem ev_one {α : Type} [Rp α] {x : α} {op : BoolOp} (h : Ev X a σ F H x) : Ev X (.BoolOp op [a] pos) σ F H x := fun F1 H1 g Q q => GoE.of (pe_one pe_go) (h F1 H1 g Q q)
theorem ev_and {x r : Bool} {rest : List Expr} (ha : Ev X a σ F H x) (hb : x = true → Ev X (.BoolOp .And (b :: rest) pos) σ F H r) (hn : x = false → r = false) : Ev X (.BoolOp .And (a :: b :: rest) pos) σ F H r := fun F1 H1 g Q q =>
  GoE.of (pe_and pe_go pe_go) (ha F1 H1 g _ fun v F2 H2 g2 r2 => ⟨x, r2, by
    cases x with
    | true => rw [if_pos rfl]; exact hb rfl F2 H2 (g.trans g2) Q fun v F3 H3 g3 => q v F3 H3 (g2.trans g3)
    | false =>
      rw [if_neg Bool.false_ne_true]
      have e := hn rfl
      subst e
      exact q _ F2 H2 g2 rfl⟩)
theorem ev_or {x r : Bool} {rest : List Expr} (ha : Ev X a σ F H x) (hb : x = false → Ev X (.BoolOp .Or (b :: rest) pos) σ F H r) (hn : x = true → r = true) : Ev X (.BoolOp .Or (a :: b :: rest) pos) σ F H r := fun F1 H1 g Q q =>
  GoE.of (pe_or pe_go pe_go) (ha F1 H1 g _ fun v F2 H2 g2 r2 => ⟨x, r2, by
    cases x with
    | false => rw [if_neg Bool.false_ne_true]; exact hb rfl F2 H2 (g.trans g2) Q fun v F3 H3 g3 => q v F3 H3 (g2.trans g3)
    | true =>
      rw [if_pos rfl]
      have e := hn rfl
      subst e
      exact q _ F2 H2 g2 rfl⟩)
theorem ev_andP {x y : Bool} {rest : List Expr} (ha : Ev X a σ F H x) (hb : Ev X (.BoolOp .And (b :: rest) pos) σ F H y) : Ev X (.BoolOp .And (a :: b :: rest) pos) σ F H (x && y) :=
  ev_and ha (fun h => by subst h; exact hb) (fun h => by subst h; rfl)
theorem ev_orP {x y : Bool} {rest : List Expr} (ha : Ev X a σ F H x) (hb : Ev X (.BoolOp .Or (b :: rest) pos) σ F H y) : Ev X (.BoolOp .Or (a :: b :: rest) pos) σ F H (x || y) :=
  ev_or ha (fun h => by subst h; exact hb) (fun h => by subst h; rfl)
theorem ev_if {α : Type} [Rp α] {x : α} {t : Bool} (hc : EvT X c σ F H t) (ha : t = true → Ev X a σ F H x) (hb : t = false → Ev X b σ F H x) : Ev X (.IfExp c a b pos) σ F H x := fun F1 H1 g Q q =>
  GoE.of (pe_ifExp pt_go pe_go pe_go) (hc F1 H1 g _ fun F2 H2 g2 => by
    cases t with
    | true => rw [if_pos rfl]; exact ha rfl F2 H2 (g.trans g2) Q fun v F3 H3 g3 => q v F3 H3 (g2.trans g3)
    | false => rw [if_neg Bool.false_ne_true]; exact hb rfl F2 H2 (g.trans g2) Q fun v F3 H3 g3 => q v F3 H3 (g2.trans g3))
theorem ev_ifP {α : Type} [Rp α] {x y : α} {t : Bool} (hc : EvT X c σ F H t) (ha : Ev X a σ F H x) (hb : Ev X b σ F H y) : Ev X (.IfExp c a b pos) σ F H (if t then x else y) :=
  ev_if hc (fun h => by subst h; exact ha) (fun h => by subst h; exact hb)

/-! ### items -/
theorem Rps.get {α : Type} [Rp α] : ∀ {vs : List V} {xs : List α} {i : Nat} {x : α}, Rps K F vs xs → xs[i]? = some x → ∃ v, vs[i]? = some v ∧ rp K F v x
  | _, _, _, _, .nil, e => by simp at e
  | _, _, 0, _, .cons r _, e => by simp at e; subst e; exact ⟨_, rfl, r⟩
  | _, _, i + 1, x, .cons _ t, e => by
    obtain ⟨u, h1, h2⟩ := Rps.get (i := i) (x := x) t (by simpa using e)
    exact ⟨u, by simpa using h1, h2⟩
theorem Rps.atI {α : Type} [Rp α] {vs : List V} {xs : List α} {i : Int} {x : α} (h : Rps K F vs xs) (e : atI xs i = some x) : ∃ v, L2.atI vs i = some v ∧ rp K F v x := by
  unfold L2.atI at e ⊢
  rw [h.length]
  cases q : ixN xs.length i with
  | none => rw [q] at e; cases e
  | some j =>
    rw [q] at e
    exact h.get e
theorem ev_ixL {α : Type} [Rp α] {xs : List α} {i : Int} {x : α} (ha : Ev X a σ F H xs) (hb : Ev X b σ F H i) (h : L2.atI xs i = some x) (hs : PlainIx b := by exact fun _ _ => rfl) : Ev X (.Subscript a b pos) σ F H x := fun F1 H1 g Q q =>
  GoE.of (pe_ix ix_list pe_go pe_go hs) (ha F1 H1 g _ fun v F2 H2 g2 r2 => hb F2 H2 (g.trans g2) _ fun w F3 H3 g3 r3 => by
    obtain ⟨p, vs, rfl, sq, rs⟩ := Rp.mono g3.ff r2
    obtain ⟨y, hy, ry⟩ := rs.atI h
    exact ⟨p, vs, i, y, rfl, r3, g3.fh.seq sq, hy, q y F3 H3 (g2.trans g3) ry⟩)
theorem ev_ixTp {α θ : Type} [Rp α] [Rp θ] [TL θ α] {xs : θ} {i : Int} {x : α} (ha : Ev X a σ F H xs) (hb : Ev X b σ F H i) (h : L2.atI (TL.l xs) i = some x) (hs : PlainIx b := by exact fun _ _ => rfl) : Ev X (.Subscript a b pos) σ F H x := fun F1 H1 g Q q =>
  GoE.of (pe_ix ix_tup pe_go pe_go hs) (ha F1 H1 g _ fun v F2 H2 g2 r2 => hb F2 H2 (g.trans g2) _ fun w F3 H3 g3 r3 => by
    obtain ⟨p, vs, rfl, sq, rs⟩ := TL.sq (Rp.mono g3.ff r2)
    obtain ⟨y, hy, ry⟩ := rs.atI h
    exact ⟨p, vs, i, y, rfl, r3, sqT_mono g3.fh sq, hy, q y F3 H3 (g2.trans g3) ry⟩)
/-- the i-th of a row -/
def Proj {τ α : Type} [Ra τ] [Rp α] (i : Int) (y : τ) (x : α) : Prop := ∀ (K : PySem.W.Frag) (F : Hp) (vs : List V), ra K F vs y → ∃ v, L2.atI vs i = some v ∧ rp K F v x
theorem pj0 {α τ : Type} [Rp α] [Ra τ] {x : α} {y : τ} : Proj 0 (x, y) x := fun K F vs ⟨v, r, e, p, q⟩ => ⟨v, by subst e; show (ixN (r.length + 1) 0).bind _ = _; unfold ixN; rw [if_pos (by decide), if_pos (by omega)]; rfl, p⟩
theorem pj1 {α β τ : Type} [Rp α] [Rp β] [Ra τ] {x : α} {z : β} {y : τ} : Proj 1 (x, z, y) z := fun K F vs ⟨v, r, e, p, v', r', e', p', q⟩ => ⟨v', by subst e; subst e'; show (ixN (r'.length + 1 + 1) 1).bind _ = _; unfold ixN; rw [if_pos (by decide), if_pos (by omega)]; rfl, p'⟩
theorem pj2 {α β γ τ : Type} [Rp α] [Rp β] [Rp γ] [Ra τ] {x : α} {z : β} {u : γ} {y : τ} : Proj 2 (x, z, u, y) u := fun K F vs ⟨v, r, e, p, v', r', e', p', v2, r2, e2, p2, q⟩ => ⟨v2, by subst e; subst e'; subst e2; show (ixN (r2.length + 1 + 1 + 1) 2).bind _ = _; unfold ixN; rw [if_pos (by decide), if_pos (by omega)]; rfl, p2⟩
theorem pj3 {α β γ δ τ : Type} [Rp α] [Rp β] [Rp γ] [Rp δ] [Ra τ] {x : α} {z : β} {u : γ} {t : δ} {y : τ} : Proj 3 (x, z, u, t, y) t := fun K F vs ⟨v, r, e, p, v', r', e', p', v2, r2, e2, p2, v3, r3, e3, p3, q⟩ => ⟨v3, by subst e; subst e'; subst e2; subst e3; show (ixN (r3.length + 1 + 1 + 1 + 1) 3).bind _ = _; unfold ixN; rw [if_pos (by decide), if_pos (by omega)]; rfl, p3⟩
theorem pj4 {α β γ δ ε τ : Type} [Rp α] [Rp β] [Rp γ] [Rp δ] [Rp ε] [Ra τ] {x : α} {z : β} {u : γ} {t : δ} {t2 : ε} {y : τ} : Proj 4 (x, z, u, t, t2, y) t2 := fun K F vs ⟨v, r, e, p, v', r', e', p', v2, r2, e2, p2, v3, r3, e3, p3, v4, r4, e4, p4, q⟩ => ⟨v4, by subst e; subst e'; subst e2; subst e3; subst e4; show (ixN (r4.length + 1 + 1 + 1 + 1 + 1) 4).bind _ = _; unfold ixN; rw [if_pos (by decide), if_pos (by omega)]; rfl, p4⟩
/-- what stands as a tuple -/
class Tup (θ : Type) (τ : outParam Type) [Ra τ] [Rp θ] where
  row : θ → τ
  eq : ∀ {K : PySem.W.Frag} {F : Hp} {v : V} {x : θ}, rp K F v x ↔ rpT row K F v x
instance {α : Type} [Rp α] : Tup (T1 α) (α × Unit) := ⟨T1.row, Iff.rfl⟩
instance {α β : Type} [Rp α] [Rp β] : Tup (T2 α β) (α × β × Unit) := ⟨T2.row, Iff.rfl⟩
instance {α β γ : Type} [Rp α] [Rp β] [Rp γ] : Tup (T3 α β γ) (α × β × γ × Unit) := ⟨T3.row, Iff.rfl⟩
instance {α β γ δ : Type} [Rp α] [Rp β] [Rp γ] [Rp δ] : Tup (T4 α β γ δ) (α × β × γ × δ × Unit) := ⟨T4.row, Iff.rfl⟩
instance {α β γ δ ε : Type} [Rp α] [Rp β] [Rp γ] [Rp δ] [Rp ε] : Tup (T5 α β γ δ ε) (α × β × γ × δ × ε × Unit) := ⟨T5.row, Iff.rfl⟩
theorem ev_ixT {θ τ α : Type} [Ra τ] [Rp θ] [Tup θ τ] [Rp α] {t : θ} {i : Int} {x : α} (ha : Ev X a σ F H t) (hb : Ev X b σ F H i) (h : Proj i (Tup.row t) x) (hs : PlainIx b := by exact fun _ _ => rfl) : Ev X (.Subscript a b pos) σ F H x := fun F1 H1 g Q q =>
  GoE.of (pe_ix ix_tup pe_go pe_go hs) (ha F1 H1 g _ fun v F2 H2 g2 r2 => hb F2 H2 (g.trans g2) _ fun w F3 H3 g3 r3 => by
    obtain ⟨p, vs, rfl, sq, rs⟩ := Tup.eq.mp (Rp.mono g3.ff r2)
    obtain ⟨y, hy, ry⟩ := h _ _ _ rs
    exact ⟨p, vs, i, y, rfl, r3, seqT_mono g3.fh sq, hy, q y F3 H3 (g2.trans g3) ry⟩)
/-- a sign of a text -/
def sAt (z : Str) (i : Int) : Option Str := if z.length ≤ sizeLine then (L2.atI z.cps.toList i).map fun c => ⟨#[c]⟩ else none
theorem ev_ixS {z : Str} {i : Int} {x : Str} (ha : Ev X a σ F H z) (hb : Ev X b σ F H i) (h : sAt z i = some x) (hs : PlainIx b := by exact fun _ _ => rfl) : Ev X (.Subscript a b pos) σ F H x := fun F1 H1 g Q q =>
  GoE.of (pe_ix ix_str pe_go pe_go hs) (ha F1 H1 g _ fun v F2 H2 g2 r2 => hb F2 H2 (g.trans g2) _ fun w F3 H3 g3 r3 => by
    unfold sAt at h
    split at h
    · rename_i hz
      obtain ⟨c, hc, rfl⟩ := Option.map_eq_some_iff.mp h
      exact ⟨z, i, c, r2, r3, hz, hc, q _ F3 H3 (g2.trans g3) rfl⟩
    · cases h)
/-! ### slices -/
def GoO (X : Cx) (o : Option Expr) : TO := fun σ H Q => ∀ pins s, Inv X pins σ H s → wpAny (model X.prog X.w) X.A (evalPart o X.env) (fun u s' => ∃ o H', Inv X pins σ H' s' ∧ IsPart u o ∧ Q o H') X.xe s
theorem po_go {o : Option Expr} : PO X o (GoO X o) := ⟨fun pins s σ H Q I h => h pins s I⟩
theorem GoO.of {o : Option Expr} {t : TO} {Q : Option Int → Hp → Prop} (p : PO X o t) (h : t σ H Q) : GoO X o σ H Q := fun pins s I => p.run pins s σ H Q I h
def EvO (X : Cx) (o : Option Expr) (σ : L2.St) (F H : Hp) (i : Option Int) : Prop := ∀ F1 H1, Gr F H F1 H1 → ∀ Q : Option Int → Hp → Prop, (∀ F2 H2, Gr F1 H1 F2 H2 → Q i H2) → GoO X o σ H1 Q
theorem eo_none : EvO X none σ F H none := fun F1 H1 g Q q => GoO.of po_none (q F1 H1 (.refl g.fh))
theorem eo_some {i : Int} (h : Ev X e σ F H i) : EvO X (some e) σ F H (some i) := fun F1 H1 g Q q => GoO.of (po_some pe_go) (h F1 H1 g _ fun v F2 H2 g2 r2 => ⟨i, r2, q F2 H2 g2⟩)
/-- a part of a list -/
def cut {α : Type} (xs : List α) (lo hi : Option Int) : List α := (xs.drop (HT.sIx xs.length 0 lo)).take (HT.sIx xs.length xs.length hi - HT.sIx xs.length 0 lo)
theorem Rps.drop {α : Type} [Rp α] : ∀ {vs : List V} {xs : List α} (n : Nat), Rps K F vs xs → Rps K F (vs.drop n) (xs.drop n)
  | _, _, 0, h => h
  | _, _, _ + 1, .nil => .nil
  | _, _, n + 1, .cons _ t => Rps.drop n t
theorem Rps.take {α : Type} [Rp α] : ∀ {vs : List V} {xs : List α} (n : Nat), Rps K F vs xs → Rps K F (vs.take n) (xs.take n)
  | _, _, 0, _ => .nil
  | _, _, _ + 1, .nil => .nil
  | _, _, n + 1, .cons r t => .cons r (Rps.take n t)
theorem Rps.append {α : Type} [Rp α] : ∀ {vs ws : List V} {xs ys : List α}, Rps K F vs xs → Rps K F ws ys → Rps K F (vs ++ ws) (xs ++ ys)
  | _, _, _, _, .nil, s => s
  | _, _, _, _, .cons r t, s => .cons r (Rps.append t s)
theorem Rps.cut {α : Type} [Rp α] {vs : List V} {xs : List α} (h : Rps K F vs xs) (lo hi : Option Int) : Rps K F (cutV vs lo hi) (Gx.cut xs lo hi) := by
  unfold cutV Gx.cut
  rw [h.length]
  exact (h.drop _).take _

/-! ### a new list that is private so far -/
/-- a thing that is changed where it stands -/
class Ob (α : Type) [Rp α] where
  ob : PySem.W.Frag → Hp → HO → α → Prop
  mono : ∀ {K : PySem.W.Frag} {F F' : Hp} {o : HO} {x : α}, L2.Same F F' → ob K F o x → ob K F' o x
  mu : ∀ {K : PySem.W.Frag} {F : Hp} {o : HO} {x : α}, ob K F o x → Mut (some o)
  ls : ∀ {K : PySem.W.Frag} {F : Hp} {o : HO} {x : α}, ob K F o x → lstish o
  fz : ∀ {K : PySem.W.Frag} {F : Hp} {o : HO} {x : α} {l : Addr} {od : Obj}, F l = some (.frz od o) → ob K F o x → rp K F (.ref l) x
open Ob (ob)
instance {α : Type} [Rp α] : Ob (List α) := ⟨fun K F o xs => ∃ vs, o = .lst vs ∧ Rps K F vs xs, fun s ⟨vs, e, r⟩ => ⟨vs, e, r.mono s⟩, fun ⟨vs, e, r⟩ => e ▸ trivial, fun ⟨vs, e, r⟩ => e ▸ trivial,
  fun {K F o x l od} h ⟨vs, e, r⟩ => ⟨l, vs, rfl, .inl (.inr ⟨od, e ▸ h⟩), r⟩⟩
theorem ob_lst {α : Type} [Rp α] {vs : List V} {xs : List α} (r : Rps K F vs xs) : ob K F (.lst vs) xs := ⟨vs, rfl, r⟩
/-- e gives a new thing x; nothing else knows it -/
def EvN {α : Type} [Rp α] [Ob α] (X : Cx) (e : Expr) (σ : L2.St) (F H : Hp) (x : α) : Prop := ∀ F1 H1, Gr F H F1 H1 → ∀ Q : VK, (∀ l o F2 H2, Gr F1 H1 F2 H2 → H1 l = none → F2 l = none → H2 l = some o → ob X.K F2 o x → Q (.ref l) H2) → GoE X e σ H1 Q
theorem Gr.freeze {F H : Hp} {F0 H0 : Hp} {l : Addr} {o : HO} (g : Gr F0 H0 F H) (n : H0 l = none) (hf : F l = none) : Gr F0 H0 (upd F l o) (upd H l o) := by
  refine ⟨fun b u e => ?_, fun b u e => ?_, fun b u e => ?_, fun a o h ns => ?_⟩
  · have e1 := g.ff b u e
    rw [upd_ne (ne_of_none e1 hf)]; exact e1
  · by_cases hb : b = l
    · subst hb; rw [upd_same] at e ⊢; exact e
    · rw [upd_ne hb] at e ⊢; exact g.fh _ _ e
  · rw [upd_ne (ne_of_none e n)]; exact g.hh _ _ e
  · by_cases hb : a = l
    · subst hb; rw [n] at h; cases h
    · rw [upd_ne hb]; exact g.fr a o h ns
theorem GoE.lock {Q Q' : VK} (h : GoE X e σ H Q') (k : ∀ v H2, Q' v H2 → ∃ l o, H2 l = some o ∧ Mut (some o) ∧ ∀ od, Q v (upd H2 l (.frz od o))) : GoE X e σ H Q := fun pins s I => thn (h pins s I) fun v s' ⟨x, H', I', r, q⟩ => by
  obtain ⟨l, o, hl, mu, q'⟩ := k _ _ q
  obtain ⟨od, I2⟩ := I'.lock hl mu
  exact ⟨x, _, I2, r, q' od⟩
theorem GoE.locked {Q : VK} {l : Addr} {o : HO} (hl : H l = some o) (mu : Mut (some o)) (h : ∀ od, GoE X e σ (upd H l (.frz od o)) fun v H2 => H2 l = some (.frz od o) ∧ Q v (upd H2 l o)) : GoE X e σ H Q := fun pins s I => by
  obtain ⟨od, I1⟩ := I.lock hl mu
  exact thn (h od pins s I1) fun v s' ⟨x, H', I2, r, e2, q⟩ => ⟨x, _, I2.unlock e2 (I.nofrz hl mu), r, q⟩
theorem GoT.locked {Q : Bool → Hp → Prop} {l : Addr} {o : HO} (hl : H l = some o) (mu : Mut (some o)) (h : ∀ od, GoT X e σ (upd H l (.frz od o)) fun v H2 => H2 l = some (.frz od o) ∧ Q v (upd H2 l o)) : GoT X e σ H Q := fun pins s I => by
  obtain ⟨od, I1⟩ := I.lock hl mu
  exact thn (h od pins s I1) fun v s' q0 => by
    obtain ⟨H', I2, e2, q⟩ := q0
    exact ⟨_, I2.unlock e2 (I.nofrz hl mu), q⟩
theorem GoS.locked {sts : List Stmt} {D : Ends} {l : Addr} {o : HO} (hl : H l = some o) (mu : Mut (some o)) (h : ∀ od, GoS X sts D σ (upd H l (.frz od o))) : GoS X sts D σ H := fun pins s I => by
  obtain ⟨od, I1⟩ := I.lock hl mu
  exact h od pins s I1
theorem same_upd {F : Hp} {l : Addr} {o : HO} (hf : F l = none) : L2.Same F (upd F l o) := fun b u e => by
  rw [upd_ne (ne_of_none e hf)]; exact e
theorem rp_lst {α : Type} [Rp α] {l : Addr} {vs : List V} {xs : List α} (hf : F l = none) (r : Rps K F vs xs) : rp K (upd F l (.lst vs)) (.ref l) xs := ⟨l, vs, rfl, SqL.of upd_same, r.mono (same_upd hf)⟩
theorem EvN.ev {α : Type} [Rp α] [Ob α] {x : α} (h : EvN X e σ F H x) : Ev X e σ F H x := fun F1 H1 g Q q =>
  GoE.lock (Q' := fun v H2 => ∃ l o F2, v = .ref l ∧ Gr F1 H1 F2 H2 ∧ H1 l = none ∧ F2 l = none ∧ H2 l = some o ∧ ob X.K F2 o x) (h F1 H1 g _ fun l o F2 H2 g2 n2 f2 h2 r2 => ⟨l, o, F2, rfl, g2, n2, f2, h2, r2⟩)
    fun v H2 ⟨l, o, F2, e, g2, n2, f2, h2, r2⟩ => ⟨l, o, h2, Ob.mu r2, fun od => by
      subst e
      exact q _ (upd F2 l (.frz od o)) _ (g2.freeze n2 f2) (Ob.fz upd_same (Ob.mono (same_upd f2) r2))⟩
theorem EvN.newO {α : Type} [Rp α] [Ob α] {x : α} {F1 H1 : Hp} {Q : VK} {F2 H2 : Hp} {o : HO} {p : Addr} (q : ∀ l o F2 H2, Gr F1 H1 F2 H2 → H1 l = none → F2 l = none → H2 l = some o → ob X.K F2 o x → Q (.ref l) H2)
    (g : Gr F1 H1 F2 H2) (hp : H2 p = none) (r : ob X.K F2 o x) : Q (.ref p) (upd H2 p o) :=
  q p o F2 _ (g.trans (Gr.newP g.fh hp)) (g.hh.free hp) (g.fh.free hp) upd_same r
theorem EvN.new {α : Type} [Rp α] {xs : List α} {F1 H1 : Hp} {Q : VK} {F2 H2 : Hp} {vs : List V} {p : Addr} (q : ∀ l o F2 H2, Gr F1 H1 F2 H2 → H1 l = none → F2 l = none → H2 l = some o → ob X.K F2 o xs → Q (.ref l) H2)
    (g : Gr F1 H1 F2 H2) (hp : H2 p = none) (r : Rps X.K F2 vs xs) : Q (.ref p) (upd H2 p (.lst vs)) := EvN.newO q g hp (ob_lst r)
theorem en_slice {α : Type} [Rp α] {xs : List α} {lo hi : Option Expr} {i j : Option Int} {p2 : Pos} (ha : Ev X a σ F H xs) (hl : EvO X lo σ F H i) (hh : EvO X hi σ F H j) : EvN X (.Subscript a (.Slice lo hi none p2) pos) σ F H (cut xs i j) := fun F1 H1 g Q q =>
  GoE.of (pe_slice sl_list pe_go po_go po_go) (ha F1 H1 g _ fun v F2 H2 g2 r2 => hl F2 H2 (g.trans g2) _ fun F3 H3 g3 => hh F3 H3 ((g.trans g2).trans g3) _ fun F4 H4 g4 => by
    obtain ⟨p, vs, rfl, sq, rs⟩ := Rp.mono (g3.ff.trans g4.ff) r2
    exact ⟨p, vs, rfl, g4.fh.seq sq, fun p hp => EvN.new q ((g2.trans g3).trans g4) hp (rs.cut i j)⟩)
/-- a part of a text -/
def sCut (z : Str) (lo hi : Option Int) : Option Str := if z.length ≤ sizeLine then some (cutS z lo hi) else none
theorem ev_sliceS {z : Str} {lo hi : Option Expr} {i j : Option Int} {p2 : Pos} {r : Str} (ha : Ev X a σ F H z) (hl : EvO X lo σ F H i) (hh : EvO X hi σ F H j) (h : sCut z i j = some r) : Ev X (.Subscript a (.Slice lo hi none p2) pos) σ F H r := fun F1 H1 g Q q =>
  GoE.of (pe_slice sl_str pe_go po_go po_go) (ha F1 H1 g _ fun v F2 H2 g2 r2 => hl F2 H2 (g.trans g2) _ fun F3 H3 g3 => hh F3 H3 ((g.trans g2).trans g3) _ fun F4 H4 g4 => by
    unfold sCut at h
    split at h
    · rename_i hz
      exact ⟨z, r2, hz, q _ F4 H4 ((g2.trans g3).trans g4) (congrArg V.str (Option.some.inj h))⟩
    · cases h)
/-! ### displays -/
def EvL {α : Type} [Rp α] (X : Cx) (es : List Expr) (σ : L2.St) (F H : Hp) (xs : List α) : Prop := ∀ F1 H1, Gr F H F1 H1 → ∀ Q : List V → Hp → Prop, (∀ vs F2 H2, Gr F1 H1 F2 H2 → Rps X.K F2 vs xs → Q vs H2) → GoA X es σ H1 Q
theorem el_nil {α : Type} [Rp α] : EvL X [] σ F H ([] : List α) := fun F1 H1 g Q q => GoA.of pa_nil (q [] F1 H1 (.refl g.fh) .nil)
theorem el_cons {α : Type} [Rp α] {x : α} {xs : List α} (ha : Ev X e σ F H x) (hr : EvL X es σ F H xs) (hs : starEach (e :: es) X.env = (false, eval e X.env) :: starEach es X.env := by rfl) : EvL X (e :: es) σ F H (x :: xs) := fun F1 H1 g Q q =>
  GoA.of (pa_cons pe_go pa_go hs) (ha F1 H1 g _ fun v F2 H2 g2 r2 => hr F2 H2 (g.trans g2) _ fun vs F3 H3 g3 r3 => q _ F3 H3 (g2.trans g3) (.cons (Rp.mono g3.ff r2) r3))
theorem en_list {α : Type} [Rp α] {xs : List α} (h : EvL X es σ F H xs) (hz : xs.length ≤ sizeLine) : EvN X (.List es pos) σ F H xs := fun F1 H1 g Q q =>
  GoE.of (pe_lst pa_go) (h F1 H1 g _ fun vs F2 H2 g2 r2 => ⟨by rw [r2.length]; exact hz, fun p hp => EvN.new q g2 hp r2⟩)
theorem ev_tp {α : Type} [Rp α] {xs : List α} {k : Nat} (h : EvL X es σ F H xs) (hz : xs.length ≤ sizeLine) : Ev X (.Tuple es k pos) σ F H (Tp.mk xs) := fun F1 H1 g Q q =>
  GoE.of (pe_tup pa_go) (h F1 H1 g _ fun vs F2 H2 g2 r2 => ⟨by rw [r2.length]; exact hz, fun p hp => q _ (upd F2 p (.tup vs)) _ (g2.trans (Gr.new g2.fh hp)) ⟨p, vs, rfl, upd_same, r2.mono (same_upd (g2.fh.free hp))⟩⟩)
class RaN (τ : Type) [Ra τ] where
  n : Nat
  len : ∀ {K : PySem.W.Frag} {F : Hp} {vs : List V} {x : τ}, ra K F vs x → vs.length = n
instance : RaN Unit := ⟨0, fun {K F vs x} h => by
  have e : vs = [] := h
  rw [e]; rfl⟩
instance {α τ : Type} [Rp α] [Ra τ] [RaN τ] : RaN (α × τ) := ⟨RaN.n τ + 1, fun ⟨v, r, e, p, q⟩ => by rw [e, List.length_cons, RaN.len q]⟩
theorem ev_tup {θ τ : Type} [Ra τ] [RaN τ] [Rp θ] [Tup θ τ] {x : θ} {k : Nat} (h : EvA X es σ F H (Tup.row x)) (hz : RaN.n τ ≤ sizeLine) : Ev X (.Tuple es k pos) σ F H x := fun F1 H1 g Q q =>
  GoE.of (pe_tup pa_go) (h F1 H1 g _ fun vs F2 H2 g2 r2 => ⟨by rw [RaN.len r2]; exact hz, fun p hp => q _ (upd F2 p (.tup vs)) _ (g2.trans (Gr.new g2.fh hp)) (Tup.eq.mpr ⟨p, vs, rfl, upd_same, Ra.mono (same_upd (g2.fh.free hp)) r2⟩)⟩)
theorem ev_tup2 {α β : Type} [Rp α] [Rp β] {x : α} {y : β} {k : Nat} (h : EvA X es σ F H (x, y, ())) : Ev X (.Tuple es k pos) σ F H (T2.mk x y) := ev_tup (θ := T2 α β) h (by show 2 ≤ sizeLine; decide)
theorem ev_tup3 {α β γ : Type} [Rp α] [Rp β] [Rp γ] {x : α} {y : β} {z : γ} {k : Nat} (h : EvA X es σ F H (x, y, z, ())) : Ev X (.Tuple es k pos) σ F H (T3.mk x y z) := ev_tup (θ := T3 α β γ) h (by show 3 ≤ sizeLine; decide)
theorem ev_tup4 {α β γ δ : Type} [Rp α] [Rp β] [Rp γ] [Rp δ] {x : α} {y : β} {z : γ} {u : δ} {k : Nat} (h : EvA X es σ F H (x, y, z, u, ())) : Ev X (.Tuple es k pos) σ F H (T4.mk x y z u) := ev_tup (θ := T4 α β γ δ) h (by show 4 ≤ sizeLine; decide)
theorem ev_tup1 {α : Type} [Rp α] {x : α} {k : Nat} (h : EvA X es σ F H (x, ())) : Ev X (.Tuple es k pos) σ F H (T1.mk x) := ev_tup (θ := T1 α) h (by show 1 ≤ sizeLine; decide)

/-! ### calls -/
/-- the promise: from arguments a with f a = some r a value of r; new things alone are made -/
def Pr (K : PySem.W.Frag) {τ ρ : Type} [Ra τ] [Rp ρ] (f : τ → Option ρ) : Sp := fun vs H Q _ => ∃ F a r, L2.Same F H ∧ ra K F vs a ∧ f a = some r ∧ ∀ F' H' u, Gr F H F' H' → rp K F' u r → Q u H'
theorem ev_call {τ ρ : Type} [Ra τ] [Rp ρ] {f : τ → Option ρ} {y : τ} {r : ρ} {k : Nat} {fa : Addr} {fd : FuncData} {ps : List Str} {x : Str} {p : Pos} (Fn : FnOk X.prog X.w X.K X.mg X.base CX0 k fa fd ps (Pr X.K f)) (hr : Room k X.A) (hm : X.mg x = some (.ref fa))
    (hk : PySem.W.keepIn X.K (.ref fa) = true) (hb : Binds X.K fd ps []) (ha : EvA X (e :: es) σ F H y) (h : f y = some r) (hg : Gl X x := by rfl) (hdb : (x == ("__debug__" : Str)) = false := by decide)
    (he : starEach (e :: es) X.env = (false, eval e X.env) :: starEach es X.env := by rfl) (hpl : (backTo pos (starEach es X.env)).any (·.1) = false := by rfl) : Ev X (.Call (.Name x p) (e :: es) [] pos) σ F H r := fun F1 H1 g Q q =>
  GoE.of (pe_call Fn hr hg hm hk hb .nil pass0 pa_go hdb he hpl) (ha F1 H1 g _ fun vs F2 H2 g2 r2 => ⟨F2, y, r, g2.fh, by rw [List.append_nil]; exact r2, h, fun F3 H3 u g3 r3 => q u F3 H3 (g2.trans g3) r3⟩)
theorem ev_call0 {ρ : Type} [Rp ρ] {f : Unit → Option ρ} {r : ρ} {k : Nat} {fa : Addr} {fd : FuncData} {ps : List Str} {x : Str} {p : Pos} (Fn : FnOk X.prog X.w X.K X.mg X.base CX0 k fa fd ps (Pr X.K f)) (hr : Room k X.A) (hm : X.mg x = some (.ref fa))
    (hk : PySem.W.keepIn X.K (.ref fa) = true) (hb : Binds X.K fd ps []) (h : f () = some r) (hg : Gl X x := by rfl) (hdb : (x == ("__debug__" : Str)) = false := by decide) : Ev X (.Call (.Name x p) [] [] pos) σ F H r := fun F1 H1 g Q q =>
  GoE.of (pe_call0 Fn hr hg hm hk hb .nil pass0 hdb) ⟨F1, (), r, g.fh, rfl, h, fun F3 H3 u g3 r3 => q u F3 H3 g3 r3⟩
/-- a built-in by its rule -/
def OpC {τ ρ : Type} [Ra τ] [Rp ρ] (K : PySem.W.Frag) (r : List V → Hp → VK → Prop) (y : τ) (z : ρ) : Prop := ∀ (F H : Hp) (vs : List V) (Q : VK), L2.Same F H → ra K F vs y → (∀ u F' H', Gr F H F' H' → rp K F' u z → Q u H') → r vs H Q
theorem ev_callB {τ ρ : Type} [Ra τ] [Rp ρ] {y : τ} {z : ρ} {id : String} {x : Str} {p : Pos} {r : List V → Hp → VK → Prop} (hc : CallR X (.builtin id) r) (ho : OpC X.K r y z) (hm : X.mg x = none) (hv : bootBuiltins x = some (.builtin id)) (ha : EvA X (e :: es) σ F H y) (hg : Gl X x := by rfl)
    (hn : x ≠ "__name__" := by decide) (hdb : (x == ("__debug__" : Str)) = false := by decide)
    (he : starEach (e :: es) X.env = (false, eval e X.env) :: starEach es X.env := by rfl) (hpl : (backTo pos (starEach es X.env)).any (·.1) = false := by rfl) : Ev X (.Call (.Name x p) (e :: es) [] pos) σ F H z := fun F1 H1 g Q q =>
  GoE.of (pe_callB hc hg hm hv pa_go hn hdb he hpl) (ha F1 H1 g _ fun vs F2 H2 g2 r2 => ho F2 H2 vs Q g2.fh r2 fun u F3 H3 g3 r3 => q u F3 H3 (g2.trans g3) r3)
theorem ev_callTy {τ ρ : Type} [Ra τ] [Rp ρ] {y : τ} {z : ρ} {T : String} {x : Str} {p : Pos} {r : List V → Hp → VK → Prop} (hc : CallR X (.type T) r) (ho : OpC X.K r y z) (hm : X.mg x = none) (hv : bootBuiltins x = some (.type T)) (ha : EvA X (e :: es) σ F H y) (hg : Gl X x := by rfl)
    (hn : x ≠ "__name__" := by decide) (hdb : (x == ("__debug__" : Str)) = false := by decide)
    (he : starEach (e :: es) X.env = (false, eval e X.env) :: starEach es X.env := by rfl) (hpl : (backTo pos (starEach es X.env)).any (·.1) = false := by rfl) : Ev X (.Call (.Name x p) (e :: es) [] pos) σ F H z := fun F1 H1 g Q q =>
  GoE.of (pe_callTy hc hg hm hv pa_go hn hdb he hpl) (ha F1 H1 g _ fun vs F2 H2 g2 r2 => ho F2 H2 vs Q g2.fh r2 fun u F3 H3 g3 r3 => q u F3 H3 (g2.trans g3) r3)
theorem oc1 {α ρ : Type} [Rp α] [Rp ρ] {r : List V → Hp → VK → Prop} {y : α} {z : ρ} (h : ∀ (F H : Hp) (v : V) (Q : VK), L2.Same F H → rp K F v y → (∀ u F' H', Gr F H F' H' → rp K F' u z → Q u H') → r [v] H Q) : OpC K r (y, ()) z :=
  fun F H vs Q s ⟨v, w, e, rv, rw'⟩ k => by
    have e2 : w = [] := rw'
    subst e2; subst e
    exact h F H v Q s rv k
theorem oc2 {α β ρ : Type} [Rp α] [Rp β] [Rp ρ] {r : List V → Hp → VK → Prop} {y : α} {y' : β} {z : ρ} (h : ∀ (F H : Hp) (v w : V) (Q : VK), L2.Same F H → rp K F v y → rp K F w y' → (∀ u F' H', Gr F H F' H' → rp K F' u z → Q u H') → r [v, w] H Q) : OpC K r (y, y', ()) z :=
  fun F H vs Q s ⟨v, w, e, rv, v2, w2, e3, rv2, rw'⟩ k => by
    have e2 : w2 = [] := rw'
    subst e2; subst e3; subst e
    exact h F H v v2 Q s rv rv2 k
theorem oc_lenL {α : Type} [Rp α] {xs : List α} : OpC K (fun vs H Q => ∃ p ys, vs = [.ref p] ∧ (SqL K H p ys ∨ SqT K H p ys) ∧ Q (.int ys.length) H) (xs, ()) (xs.length : Int) :=
  oc1 fun F H v Q s ⟨p, vs, e, sq, rs⟩ k => ⟨p, vs, by rw [e], .inl (s.seq sq), k _ F H (.refl s) (congrArg (fun n : Nat => V.int n) rs.length)⟩
theorem oc_lenTp {α θ : Type} [Rp α] [Rp θ] [TL θ α] {xs : θ} : OpC K (fun vs H Q => ∃ p ys, vs = [.ref p] ∧ (SqL K H p ys ∨ SqT K H p ys) ∧ Q (.int ys.length) H) (xs, ()) ((TL.l xs).length : Int) :=
  oc1 fun F H v Q s r k => let ⟨p, vs, e, sq, rs⟩ := TL.sq r; ⟨p, vs, by rw [e], .inr (sqT_mono s sq), k _ F H (.refl s) (congrArg (fun n : Nat => V.int n) rs.length)⟩
theorem oc_lenT {θ τ : Type} [Ra τ] [RaN τ] [Rp θ] [Tup θ τ] {x : θ} : OpC K (fun vs H Q => ∃ p ys, vs = [.ref p] ∧ (SqL K H p ys ∨ SqT K H p ys) ∧ Q (.int ys.length) H) (x, ()) ((RaN.n τ : Nat) : Int) :=
  oc1 fun F H v Q s r k => by
    obtain ⟨p, vs, e, sq, rs⟩ := Tup.eq.mp r
    exact ⟨p, vs, by rw [e], .inr (seqT_mono s sq), k _ F H (.refl s) (congrArg (fun n : Nat => V.int n) (RaN.len rs))⟩
/-- the length of a text -/
def sLen (z : Str) : Option Int := if z.length ≤ sizeLine then some (z.length : Int) else none
theorem oc_lenS {z : Str} {r : Int} (h : sLen z = some r) : OpC K (fun xs H Q => ∃ z, xs = [.str z] ∧ z.length ≤ sizeLine ∧ Q (.int z.length) H) (z, ()) r :=
  oc1 fun F H v Q s e k => by
    have e : v = .str z := e
    unfold sLen at h
    split at h
    · rename_i hz
      exact ⟨z, by rw [e], hz, k _ F H (.refl s) (congrArg V.int (Option.some.inj h))⟩
    · cases h
theorem oc_list {α : Type} [Rp α] {xs : List α} : OpC K (fun vs H Q => ∃ p ys, vs = [.ref p] ∧ (SqL K H p ys ∨ SqT K H p ys) ∧ ∀ l, H l = none → Q (.ref l) (upd H l (.lst ys))) (xs, ()) xs :=
  oc1 fun F H v Q s ⟨p, vs, e, sq, rs⟩ k => ⟨p, vs, by rw [e], .inl (s.seq sq), fun l hl => k _ (upd F l (.lst vs)) _ (Gr.new s hl) (rp_lst (s.free hl) rs)⟩
/-! ### kinds -/
theorem isi_const {α : Type} [Rp α] {x : α} {T U : String} {r : Bool} (hx : ∀ {F H : Hp} {v : V}, L2.Same F H → rp K F v x → TyX K H v (.type U)) (h : kitB U T = some r) : ∀ (F H : Hp) (v : V) (Q : VK), L2.Same F H → rp K F v x → (∀ u F' H', Gr F H F' H' → rp K F' u r → Q u H') → rIsi K [v, .ty T] H Q :=
  fun F H v Q s rv k => ⟨v, .ty T, _, _, r, rfl, .ty T, hx s rv, kit_ty h, k _ F H (.refl s) rfl⟩
end
end Gx

/-! Gz: statements, loops, texts. -/
namespace Gx
open PySem PySem.Spec PyProof.Rows L2
open Rp (rp)
open Ra (ra)
open Ob (ob)
section
variable {X : Cx} {K : PySem.W.Frag} {e a b c d : Expr} {es : List Expr} {σ : L2.St} {F H F0 H0 : Hp} {pos : Pos} {D : Ends} {st : Stmt} {rest body : List Stmt}
/-! ### statements -/
theorem go_set {α : Type} [Rp α] {x : α} {n : Str} {p : Pos} (i : Nat) (s : L2.Same F H) (he : Ev X e σ F H x) (k : ∀ v F' H', Gr F H F' H' → rp X.K F' v x → GoS X rest D (σ.set i (some v)) H') (hN : X.N.Nodup) (hi : X.N[i]? = some n := by rfl)
    (hx : Loc X.env.scope n := by first | exact Or.inl rfl | exact Or.inr rfl) (hs : swapsWith e (some (.Name n p)) pos.line X.env = pure false := by rfl) (hf : X.fn n = true ∨ X.env.scope.names.lookup n = some .local := by first | exact .inl rfl | exact .inr rfl) :
    GoS X (.Assign [.Name n p] e pos :: rest) D σ H :=
  GoS.cons (ps_set hN hi hx pe_go hs hf) (he F H (.refl s) _ fun v F2 H2 g r => k v F2 H2 g r)
theorem go_setN {α : Type} [Rp α] [Ob α] {x : α} {n : Str} {p : Pos} (i : Nat) (s : L2.Same F H) (he : EvN X e σ F H x) (k : ∀ l o F' H', Gr F H F' H' → H l = none → F' l = none → H' l = some o → ob X.K F' o x → GoS X rest D (σ.set i (some (.ref l))) H') (hN : X.N.Nodup) (hi : X.N[i]? = some n := by rfl)
    (hx : Loc X.env.scope n := by first | exact Or.inl rfl | exact Or.inr rfl) (hs : swapsWith e (some (.Name n p)) pos.line X.env = pure false := by rfl) (hf : X.fn n = true ∨ X.env.scope.names.lookup n = some .local := by first | exact .inl rfl | exact .inr rfl) :
    GoS X (.Assign [.Name n p] e pos :: rest) D σ H :=
  GoS.cons (ps_set hN hi hx pe_go hs hf) (he F H (.refl s) _ fun l o F2 H2 g n f h r => k l o F2 H2 g n f h r)
theorem go_ret {α : Type} [Rp α] {x : α} (s : L2.Same F H) (he : Ev X e σ F H x) (k : ∀ v F' H', Gr F H F' H' → rp X.K F' v x → D.rt v H') : GoS X (.Return (some e) pos :: rest) D σ H :=
  GoS.cons (ps_ret pe_go) (he F H (.refl s) _ fun v F2 H2 g r => k v F2 H2 g r)
theorem go_retN (k : D.rt .non H) : GoS X (.Return none pos :: rest) D σ H := GoS.cons ps_retN k
theorem go_brk (k : D.bk σ H) : GoS X (.Break pos :: rest) D σ H := GoS.cons ps_break k
theorem go_cont (k : D.ct σ H) : GoS X (.Continue pos :: rest) D σ H := GoS.cons ps_continue k
theorem go_pass (k : GoS X rest D σ H) : GoS X (.Pass pos :: rest) D σ H := GoS.cons ps_pass k
theorem go_expr {α : Type} [Rp α] {x : α} (s : L2.Same F H) (he : Ev X e σ F H x) (k : ∀ F' H', Gr F H F' H' → GoS X rest D σ H') (hs : swapsWith e none pos.line X.env = pure false := by rfl) : GoS X (.Expr e pos :: rest) D σ H :=
  GoS.cons (ps_expr pe_go hs) (he F H (.refl s) _ fun v F2 H2 g r => k F2 H2 g)
theorem go_if {t : Bool} {as bs : List Stmt} (s : L2.Same F H) (hc : EvT X c σ F H t) (ka : t = true → ∀ F' H', Gr F H F' H' → GoS X as { D with nx := GoS X rest D } σ H') (kb : t = false → ∀ F' H', Gr F H F' H' → GoS X bs { D with nx := GoS X rest D } σ H') :
    GoS X (.If c as bs pos :: rest) D σ H :=
  GoS.cons (ps_if pt_go pss_go pss_go) (hc F H (.refl s) _ fun F2 H2 g => by
    cases t with
    | true => rw [if_pos rfl]; exact ka rfl F2 H2 g
    | false => rw [if_neg Bool.false_ne_true]; exact kb rfl F2 H2 g)
/-- the ways meet behind: P -/
theorem go_ifj {t : Bool} {as bs : List Stmt} (P : L2.St → Hp → Prop) (s : L2.Same F H) (hc : EvT X c σ F H t) (ka : t = true → ∀ F' H', Gr F H F' H' → GoS X as { D with nx := P } σ H') (kb : t = false → ∀ F' H', Gr F H F' H' → GoS X bs { D with nx := P } σ H')
    (k : ∀ σ' H', P σ' H' → GoS X rest D σ' H') : GoS X (.If c as bs pos :: rest) D σ H :=
  go_if s hc (fun e F' H' g => (ka e F' H' g).mono k (fun _ _ h => h) (fun _ _ h => h) fun _ _ h => h) (fun e F' H' g => (kb e F' H' g).mono k (fun _ _ h => h) (fun _ _ h => h) fun _ _ h => h)
/-! ### a private thing -/
structure Own {α : Type} [Rp α] [Ob α] (K : PySem.W.Frag) (H0 F H : Hp) (l : Addr) (x : α) : Prop where
  n : H0 l = none
  f : F l = none
  h : ∃ o, H l = some o ∧ ob K F o x
section
variable {α β : Type} [Rp α] [Ob α] [Rp β] [Ob β] {x y : α} {l l' : Addr}
theorem Own.ne0 (o : Own K H0 F H l x) : H l ≠ none := by
  obtain ⟨u, h, _⟩ := o.h
  rw [h]; exact fun e => nomatch e
theorem Own.up {F' H' : Hp} (o : Own K H0 F H l x) (g : Gr F H F' H') : Own K H0 F' H' l x := by
  obtain ⟨u, h, r⟩ := o.h
  exact ⟨o.n, (g.fr l _ h (Ob.ls r)).trans o.f, u, g.hh _ _ h, Ob.mono g.ff r⟩
theorem Own.other {u : HO} (o : Own K H0 F H l x) (h : l ≠ l') : Own K H0 F (upd H l' u) l x := by
  obtain ⟨v, e, r⟩ := o.h
  exact ⟨o.n, o.f, v, by rw [upd_ne h]; exact e, r⟩
/-- it becomes shared -/
theorem Own.freeze {st : List Stmt} (o : Own X.K H0 F H l x) (g : Gr F0 H0 F H) (k : ∀ F' H', L2.Same F F' → L2.Same F' H' → Gr F0 H0 F' H' → rp X.K F' (.ref l) x → (∀ a, a ≠ l → F' a = F a ∧ H' a = H a) → GoS X st D σ H') : GoS X st D σ H := by
  obtain ⟨u, h, r⟩ := o.h
  refine GoS.locked h (Ob.mu r) fun od => ?_
  have g2 := g.freeze (o := .frz od u) o.n o.f
  exact k _ _ (same_upd o.f) g2.fh g2 (Ob.fz upd_same (Ob.mono (same_upd o.f) r)) fun a ha => ⟨upd_ne ha, upd_ne ha⟩
theorem Own.keepF {F' H' : Hp} (o : Own K H0 F H l x) (hl : l ≠ l') (s : L2.Same F F') (k : ∀ a, a ≠ l' → F' a = F a ∧ H' a = H a) : Own K H0 F' H' l x := by
  obtain ⟨u, h, r⟩ := o.h
  exact ⟨o.n, (k l hl).1.trans o.f, u, (k l hl).2.trans h, Ob.mono s r⟩
theorem Own.ne {H1 : Hp} (o : Own K H0 F H l x) (h : H l' = none) : l ≠ l' := fun e => o.ne0 (e ▸ h)
theorem Own.set {u : HO} {z : β} (n : H0 l = none) (f : F l = none) (r : ob K F u z) : Own K H0 F (upd H l u) l z := ⟨n, f, u, upd_same, r⟩
end
theorem Gr.poke {F H : Hp} {l : Addr} {u : HO} (g : Gr F0 H0 F H) (n : H0 l = none) (f : F l = none) : Gr F0 H0 F (upd H l u) := by
  refine ⟨g.ff, fun b o e => ?_, fun b o e => ?_, g.fr⟩
  · rw [upd_ne (ne_of_none e f)]; exact g.fh _ _ e
  · rw [upd_ne (ne_of_none e n)]; exact g.hh _ _ e
/-- appending within the bound -/
def app {α : Type} (xs : List α) (y : α) : Option (List α) := if xs.length < sizeLine then some (xs ++ [y]) else none
theorem app_of {α : Type} {xs : List α} {y : α} {r : List α} (h : app xs y = some r) : xs.length < sizeLine ∧ xs ++ [y] = r := by
  unfold app at h; split at h
  · exact ⟨by assumption, Option.some.inj h⟩
  · cases h
theorem go_append {α : Type} [Rp α] {xs : List α} {y : α} {r : List α} {l : Addr} {n : Str} {p1 p2 p3 : Pos} (i : Nat) (s : L2.Same F H) (o : Own X.K H0 F H l xs) (hσ : σ[i]? = some (some (.ref l))) (he : Ev X e σ F H y) (h : app xs y = some r)
    (k : ∀ u F' H', Gr F H F' H' → H' l ≠ none → F' l = none → Own X.K H0 F' (upd H' l u) l r → GoS X rest D σ (upd H' l u)) (hN : X.N[i]? = some n := by rfl) (hv : Vis X.env.scope n := by first | exact Or.inl rfl | exact Or.inr (Or.inl rfl) | exact Or.inr (Or.inr rfl))
    (hd : (n == ("__debug__" : Str)) = false := by decide) (hcd : (n == ("__classdict__" : Str)) = false := by decide) 
    (hbase : attributeBase (.Name n p1) "append" X.env (eval (.Name n p1) X.env) = eval (.Name n p1) X.env := by rfl)
    (hfew : ((backTo p3 (starEach [e] X.env)).all (fun x => !x.1) && (backToKw p3 (keywordEach [] X.env)).all (fun x => x.1.isSome) && decide ([e].length + ([] : List Keyword).length + (if ([] : List Keyword).isEmpty then 0 else 1) < 30)) = true := by rfl)
    (hline : (p2.endLine == p3.line) = true := by rfl) (hs : starEach [e] X.env = (false, eval e X.env) :: starEach [] X.env := by rfl) (hplain : (backTo p3 (starEach [] X.env)).any (·.1) = false := by rfl) (hsw : swapsWith (.Call (.Attribute (.Name n p1) "append" p2) [e] [] p3) none pos.line X.env = pure false := by rfl) :
    GoS X (.Expr (.Call (.Attribute (.Name n p1) "append" p2) [e] [] p3) pos :: rest) D σ H := by
  obtain ⟨_, hl, vs, rfl, rs⟩ := o.h
  obtain ⟨hz, rfl⟩ := app_of h
  refine GoS.cons (ps_expr (pe_bm PySem.F.plainAttrs_list PySem.F.slot_list_append PySem.F.type_list_append mt_append (pe_var hN hv hd hcd) (pa_cons pe_go pa_nil hs) hbase hfew hline hs hplain) hsw) ?_
  refine ⟨_, hσ, .inl ⟨rfl, _, SqL.of hl⟩, he F H (.refl s) _ fun v F2 H2 g r => ?_⟩
  have o2 := o.up g
  have hl2 := g.hh _ _ hl
  exact ⟨l, vs, v, rfl, rfl, hl2, by rw [rs.length]; exact hz, k _ F2 H2 g o2.ne0 o2.f (Own.set o2.n o2.f (ob_lst (Rps.append (rs.mono g.ff) (.cons r .nil))))⟩

/-! ### what is walked -/
def Wk {α : Type} [Rp α] (K : PySem.W.Frag) (J : It) (F H : Hp) (xs : List α) : Prop := ∀ i Fi Hi, L2.Same F Fi → L2.Same Fi Hi → (∀ x, xs[i]? = some x → J.go i Hi ∧ ∀ v H', J.yld i Hi v H' → ∃ F', Gr Fi Hi F' H' ∧ rp K F' v x) ∧ (i = xs.length → J.stop i Hi)
def EvI {α : Type} [Rp α] (X : Cx) (tg iter : Expr) (σ : L2.St) (F H : Hp) (xs : List α) : Prop := ∀ F1 H1, Gr F H F1 H1 → ∀ R : It → Hp → Prop, (∀ J F2 H2, Gr F1 H1 F2 H2 → Wk X.K J F2 H2 xs → R J H2) → GoI X tg iter σ H1 R
theorem ei_list {α : Type} [Rp α] {xs : List α} {tg : Expr} (h : Ev X e σ F H xs) : EvI X tg e σ F H xs := fun F1 H1 g R q =>
  GoI.of (pi_list pe_go) (h F1 H1 g _ fun v F2 H2 g2 ⟨a, vs, e, sq, rs⟩ => ⟨a, e, ⟨vs, g2.fh.seq sq⟩, q _ F2 H2 g2 fun i Fi Hi s1 s2 => by
    have sq' := s2.seq (s1.seq sq)
    refine ⟨fun x hx => ?_, fun e => ⟨vs, sq', by rw [e, rs.length]; exact Nat.le_refl _⟩⟩
    obtain ⟨y, hy, ry⟩ := rs.get hx
    refine ⟨⟨vs, y, sq', hy⟩, fun v H' ⟨e1, e2⟩ => ?_⟩
    subst e1
    have e3 := e2 vs sq'
    rw [hy] at e3
    cases e3
    exact ⟨Fi, .refl s2, Rp.mono s1 ry⟩⟩)
theorem ei_tp {α θ : Type} [Rp α] [Rp θ] [TL θ α] {xs : θ} {tg : Expr} (h : Ev X e σ F H xs) : EvI X tg e σ F H (TL.l xs) := fun F1 H1 g R q =>
  GoI.of (pi_tup pe_go) (h F1 H1 g _ fun v F2 H2 g2 r2 => let ⟨a, vs, e, sq, rs⟩ := TL.sq r2; ⟨a, e, ⟨vs, sqT_mono g2.fh sq⟩, q _ F2 H2 g2 fun i Fi Hi s1 s2 => by
    have sq' := sqT_mono (K := X.K) s2 (sqT_mono s1 sq)
    refine ⟨fun x hx => ?_, fun e => ⟨vs, sq', by rw [e, rs.length]; exact Nat.le_refl _⟩⟩
    obtain ⟨y, hy, ry⟩ := rs.get hx
    refine ⟨⟨vs, y, sq', hy⟩, fun v H' ⟨e1, e2⟩ => ?_⟩
    subst e1
    have e3 := e2 vs sq'
    rw [hy] at e3
    cases e3
    exact ⟨Fi, .refl s2, Rp.mono s1 ry⟩⟩)
/-- the intsF from lo on, n of them -/
def intsF (lo : Int) (n : Nat) : List Int := (List.range n).map fun (i : Nat) => lo + (i : Int)
theorem ints_get {lo : Int} {n i : Nat} {x : Int} (h : (intsF lo n)[i]? = some x) : i < n ∧ x = lo + i := by
  unfold intsF at h
  rw [List.getElem?_map] at h
  obtain ⟨j, hj, e⟩ := Option.map_eq_some_iff.mp h
  rw [List.getElem?_range] at hj
  · have e1 : i = j := Option.some.inj hj
    subst e1
    refine ⟨?_, e.symm⟩
    rcases Nat.lt_or_ge i n with h1 | h1
    · exact h1
    · rw [List.getElem?_eq_none (by simpa using h1)] at h; cases h
  · rcases Nat.lt_or_ge i n with h1 | h1
    · exact h1
    · rw [List.getElem?_eq_none (by simpa using h1)] at hj; cases hj
theorem ints_len {lo : Int} {n : Nat} : (intsF lo n).length = n := by unfold intsF; simp
theorem wk_range {lo : Int} {n : Nat} : Wk K (Itr lo n) F H (intsF lo n) := fun i Fi Hi s1 s2 => by
  refine ⟨fun x hx => ?_, fun e => by rw [ints_len] at e; exact Nat.le_of_eq e.symm⟩
  obtain ⟨h1, rfl⟩ := ints_get hx
  refine ⟨h1, fun v H' ⟨e1, e2⟩ => ?_⟩
  subst e1
  exact ⟨Fi, .refl s2, e2⟩
def rngG (j : Int) : Option (List Int) := if -(2 ^ 62) ≤ j ∧ j < 2 ^ 62 then some (intsF 0 j.toNat) else none
def rngG2 (i j : Int) : Option (List Int) := if -(2 ^ 62) ≤ i ∧ i < 2 ^ 62 ∧ -(2 ^ 62) ≤ j ∧ j < 2 ^ 62 then some (intsF i (j - i).toNat) else none
theorem ei_range1 {j : Int} {r : List Int} {tg : Expr} {p : Pos} (h : Ev X a σ F H j) (hr : rngG j = some r) (hm : X.mg "range" = none) (hg : Gl X "range" := by rfl) (hs : starEach [a] X.env = [(false, eval a X.env)] := by rfl) : EvI X tg (.Call (.Name "range" p) [a] [] pos) σ F H r := fun F1 H1 g R q =>
  GoI.of (pi_range1 hg hm (pa_cons pe_go pa_nil (by rw [hs]; rfl)) hs) (h F1 H1 g _ fun v F2 H2 g2 r2 => by
    unfold rngG at hr
    split at hr
    · rename_i hj
      cases hr
      have r2 : v = .int j := r2
      exact ⟨j, by rw [r2], hj.1, hj.2, q _ F2 H2 g2 wk_range⟩
    · cases hr)
theorem ei_range2 {i j : Int} {r : List Int} {tg : Expr} {p : Pos} (h : Ev X a σ F H i) (h' : Ev X b σ F H j) (hr : rngG2 i j = some r) (hm : X.mg "range" = none) (hg : Gl X "range" := by rfl) (hs : starEach [a, b] X.env = [(false, eval a X.env), (false, eval b X.env)] := by rfl) (hs2 : starEach [b] X.env = [(false, eval b X.env)] := by rfl) :
    EvI X tg (.Call (.Name "range" p) [a, b] [] pos) σ F H r := fun F1 H1 g R q =>
  GoI.of (pi_range2 hg hm (pa_cons pe_go (pa_cons pe_go pa_nil (by rw [hs2]; rfl)) (by rw [hs, hs2])) hs hs2) (h F1 H1 g _ fun v F2 H2 g2 r2 => h' F2 H2 (g.trans g2) _ fun v' F3 H3 g3 r3 => by
    unfold rngG2 at hr
    split at hr
    · rename_i hj
      cases hr
      have r2 : v = .int i := r2
      have r3 : v' = .int j := r3
      exact ⟨i, j, by rw [r2, r3], hj, q _ F3 H3 (g2.trans g3) wk_range⟩
    · cases hr)
/-- a text's sgns -/
def sgns (x : Str) : List Str := x.cps.toList.map fun c => ⟨#[c]⟩
theorem ei_str {x : Str} {tg : Expr} (h : Ev X e σ F H x) : EvI X tg e σ F H (sgns x) := fun F1 H1 g R q =>
  GoI.of (pi_str pe_go) (h F1 H1 g _ fun v F2 H2 g2 r2 => ⟨x, r2, q _ F2 H2 g2 fun i Fi Hi s1 s2 => by
    unfold sgns
    refine ⟨fun y hy => ?_, fun e => by rw [e]; simp [Its]⟩
    rw [List.getElem?_map] at hy
    obtain ⟨c, hc, rfl⟩ := Option.map_eq_some_iff.mp hy
    have hc' : x.cps[i]? = some c := by simpa using hc
    refine ⟨?_, fun v H' ⟨e1, c', e2, e3⟩ => ?_⟩
    · show i < x.cps.size
      exact (Array.getElem?_eq_some_iff.mp hc').1
    · subst e1
      rw [hc'] at e2
      cases e2
      exact ⟨Fi, .refl s2, e3⟩⟩)

/-! ### loops -/
inductive Lp (β ρ : Type) where
  | nx (b : β) | bk (b : β) | rt (r : ρ)
def loopM {α β ρ : Type} (st : β → α → Option (Lp β ρ)) : β → List α → Option (Lp β ρ)
  | b, [] => some (.nx b)
  | b, x :: xs => match st b x with
    | none => none
    | some (.nx b') => loopM st b' xs
    | some (.bk b') => some (.bk b')
    | some (.rt r) => some (.rt r)
/-- what a turn with the outcome o is to reach -/
abbrev LE {β ρ : Type} (Iv : β → L2.St → Hp → Hp → Prop) (Rt : ρ → V → Hp → Prop) (F : Hp) (o : Lp β ρ) : Ends :=
  { nx := fun σ' H' => ∃ b' F', o = .nx b' ∧ L2.Same F F' ∧ L2.Same F' H' ∧ Iv b' σ' F' H', ct := fun σ' H' => ∃ b' F', o = .nx b' ∧ L2.Same F F' ∧ L2.Same F' H' ∧ Iv b' σ' F' H',
    bk := fun σ' H' => ∃ b' F', o = .bk b' ∧ L2.Same F F' ∧ L2.Same F' H' ∧ Iv b' σ' F' H', rt := fun v H' => ∃ r, o = .rt r ∧ Rt r v H' }
theorem go_for {α β ρ : Type} [Rp α] {tg iter : Expr} {g : TG} (xs : List α) (stp : β → α → Option (Lp β ρ)) (b0 : β) {o : Lp β ρ} (s : L2.Same F H) (hi : EvI X tg iter σ F H xs) (hg : PG X tg g) (ho : loopM stp b0 xs = some o)
    (k : ∀ F2 H2, Gr F H F2 H2 → ∃ (Iv : β → L2.St → Hp → Hp → Prop) (Rt : ρ → V → Hp → Prop), Iv b0 σ F2 H2 ∧
      (∀ b x o', stp b x = some o' → ∀ σ F H v, L2.Same F2 F → L2.Same F H → Iv b σ F H → ∀ F' H', Gr F H F' H' → rp X.K F' v x → ∀ Q : L2.St → Hp → Prop, (∀ σ' H'', GoS X body (LE Iv Rt F o') σ' H'' → Q σ' H'') → g v σ H' Q) ∧
      (match o with | .nx b => ∀ σ F H, L2.Same F H → Iv b σ F H → GoS X rest D σ H | .bk b => ∀ σ F H, L2.Same F H → Iv b σ F H → GoS X rest D σ H | .rt r => ∀ v H, Rt r v H → D.rt v H))
    (hp : PassesOwn (model X.prog X.w) X.A X.env X.xe) (hc : X.calm = true := by rfl) (hs : ∀ x, foldedSetIterable iter X.env x = pure x := by intro _; rfl) : GoS X (.For tg iter body [] pos :: rest) D σ H := by
  refine GoS.cons (ps_for hp hc pi_go hg pss_go hs) (hi F H (.refl s) _ fun J F2 H2 g2 wk => ?_)
  obtain ⟨Iv, Rt, init, step, done⟩ := k F2 H2 g2
  refine ⟨fun i m σ H => m = xs.length - i ∧ i ≤ xs.length ∧ ∃ b F, L2.Same F2 F ∧ L2.Same F H ∧ Iv b σ F H ∧ loopM stp b (xs.drop i) = some o, ⟨_, rfl, Nat.zero_le _, b0, F2, .refl _, g2.fh, init, ho⟩, ?_⟩
  rintro i m σ' H' ⟨rfl, hle, b, Fi, s1, s2, iv, hl⟩
  obtain ⟨w1, w2⟩ := wk i Fi H' s1 s2
  rcases Nat.lt_or_ge i xs.length with hlt | hge
  · obtain ⟨x, hx⟩ : ∃ x, xs[i]? = some x := ⟨xs[i], List.getElem?_eq_getElem hlt⟩
    obtain ⟨hgo, hy⟩ := w1 x hx
    have ed : xs.drop i = x :: xs.drop (i + 1) := by
      rw [List.drop_eq_getElem_cons hlt]
      rw [List.getElem?_eq_getElem hlt] at hx
      rw [Option.some.inj hx]
    rw [ed] at hl
    unfold loopM at hl
    cases hst : stp b x with
    | none => rw [hst] at hl; cases hl
    | some o' =>
      rw [hst] at hl
      refine .inr ⟨hgo, fun σ3 H3 => ∃ b' F', o' = .nx b' ∧ L2.Same Fi F' ∧ L2.Same F' H3 ∧ Iv b' σ3 F' H3, fun σ3 H3 ⟨b', F', e, f1, f2, iv'⟩ => ?_, fun v H3 hv => ?_⟩
      · subst e
        exact ⟨xs.length - (i + 1), by omega, rfl, hlt, b', F', s1.trans f1, f2, iv', hl⟩
      · obtain ⟨F', gr, rv⟩ := hy v H3 hv
        refine step b x o' hst σ' Fi H' v s1 s2 iv F' H3 gr rv _ fun σ4 H4 q => q.mono (fun _ _ h => h) (fun v' H5 ⟨r, e, hr⟩ => ?_) (fun σ5 H5 ⟨b', F5, e, f1, f2, iv'⟩ => ?_) fun _ _ h => h
        · subst e
          cases (Option.some.inj hl)
          exact done v' H5 hr
        · subst e
          cases (Option.some.inj hl)
          exact done σ5 F5 H5 f2 iv'
  · have e : i = xs.length := by omega
    subst e
    rw [List.drop_length] at hl
    cases (Option.some.inj hl)
    exact .inl ⟨w2 rfl, done σ' Fi H' s2 iv⟩
/-- while, with fuel -/
def whileM {β ρ : Type} (c : β → Option Bool) (st : β → Option (Lp β ρ)) : Nat → β → Option (Lp β ρ)
  | 0, _ => none
  | n + 1, b => match c b with
    | none => none
    | some false => some (.nx b)
    | some true => match st b with
      | none => none
      | some (.nx b') => whileM c st n b'
      | some (.bk b') => some (.bk b')
      | some (.rt r) => some (.rt r)
theorem go_while {β ρ : Type} (cn : β → Option Bool) (stp : β → Option (Lp β ρ)) (N : Nat) (b0 : β) {o : Lp β ρ} (Iv : β → L2.St → Hp → Hp → Prop) (Rt : ρ → V → Hp → Prop) (s : L2.Same F H) (init : Iv b0 σ F H) (ho : whileM cn stp N b0 = some o)
    (kc : ∀ b t, cn b = some t → ∀ σ F H, L2.Same F H → Iv b σ F H → EvT X c σ F H t ∧ ∀ F' H', Gr F H F' H' → Iv b σ F' H')
    (kb : ∀ b o', cn b = some true → stp b = some o' → ∀ σ F H, L2.Same F H → Iv b σ F H → GoS X body (LE Iv Rt F o') σ H)
    (done : match o with | .nx b => ∀ σ F H, L2.Same F H → Iv b σ F H → GoS X rest D σ H | .bk b => ∀ σ F H, L2.Same F H → Iv b σ F H → GoS X rest D σ H | .rt r => ∀ v H, Rt r v H → D.rt v H)
    (hp : PassesOwn (model X.prog X.w) X.A X.env X.xe) : GoS X (.While c body [] pos :: rest) D σ H := by
  refine GoS.cons (ps_while hp pt_go pss_go) ?_
  refine ⟨fun m σ H => ∃ b F, L2.Same F H ∧ Iv b σ F H ∧ whileM cn stp m b = some o, ⟨N, b0, F, s, init, ho⟩, ?_⟩
  rintro m σ' H' ⟨b, Fi, s2, iv, hl⟩
  cases m with
  | zero => cases hl
  | succ m =>
    unfold whileM at hl
    cases hc : cn b with
    | none => rw [hc] at hl; cases hl
    | some t =>
      rw [hc] at hl
      obtain ⟨ev, up⟩ := kc b t hc σ' Fi H' s2 iv
      refine ev Fi H' (.refl s2) _ fun F2 H2 g2 => ?_
      cases t with
      | false =>
        rw [if_neg Bool.false_ne_true]
        cases (Option.some.inj hl)
        exact done σ' F2 H2 g2.fh (up F2 H2 g2)
      | true =>
        rw [if_pos rfl]
        cases hst : stp b with
        | none => rw [hst] at hl; cases hl
        | some o' =>
          rw [hst] at hl
          refine ⟨fun σ3 H3 => ∃ b' F', o' = .nx b' ∧ L2.Same F2 F' ∧ L2.Same F' H3 ∧ Iv b' σ3 F' H3, fun σ3 H3 ⟨b', F', e, f1, f2, iv'⟩ => ?_, ?_⟩
          · subst e
            exact ⟨m, Nat.lt_succ_self _, b', F', f2, iv', hl⟩
          · refine (kb b o' hc hst σ' F2 H2 g2.fh (up F2 H2 g2)).mono (fun _ _ h => h) (fun v' H5 ⟨r, e, hr⟩ => ?_) (fun σ5 H5 ⟨b', F5, e, f1, f2, iv'⟩ => ?_) fun _ _ h => h
            · subst e
              cases (Option.some.inj hl)
              exact done v' H5 hr
            · subst e
              cases (Option.some.inj hl)
              exact done σ5 F5 H5 f2 iv'
/-! ### targets -/
theorem gn {i : Nat} {v : V} {Q : L2.St → Hp → Prop} {P : L2.St → Hp → Prop} (h : ∀ σ' H', P σ' H' → Q σ' H') (p : P (σ.set i (some v)) H) : gName i v σ H Q := h _ _ p

/-! ### texts -/
def sAdd (x y : Str) : Option Str := if x.length + y.length ≤ sizeLine then some (x ++ y) else none
theorem ev_addS {x y r : Str} (ha : Ev X a σ F H x) (hb : Ev X b σ F H y) (h : sAdd x y = some r) : Ev X (.BinOp a .Add b pos) σ F H r := ev_bin op_add_str (fun F H v w Q s rv rw' k => by
  unfold sAdd at h
  split at h
  · rename_i hz
    exact ⟨x, y, rv, rw', hz, k _ F H (.refl s) (congrArg V.str (Option.some.inj h))⟩
  · cases h) ha hb
/-- is the one sign x in z -/
def sIn (x z : Str) : Option Bool := match x.cps.toList with
  | [c] => some (decide (c ∈ z.cps.toList))
  | _ => none
theorem sIn_of {x z : Str} {r : Bool} (h : sIn x z = some r) : ∃ c, x = ⟨#[c]⟩ ∧ decide (c ∈ z.cps.toList) = r := by
  unfold sIn at h
  split at h
  · rename_i c hc
    refine ⟨c, ?_, Option.some.inj h⟩
    cases x with
    | mk cps => rw [← Array.toArray_toList (xs := cps), hc]
  · cases h
theorem o2_inS {x z : Str} {r : Bool} (h : sIn x z = some r) : Op2 K (fun x y H Q => ∃ (c : Nat) (z : Str), x = .str ⟨#[c]⟩ ∧ y = .str z ∧ Q (.bl (decide (c ∈ z.cps.toList))) H) x z r := fun F H v w Q s rv rw' k => by
  obtain ⟨c, rfl, e⟩ := sIn_of h
  exact ⟨c, z, rv, rw', k _ F H (.refl s) (congrArg V.bl e)⟩
theorem o2_notInS {x z : Str} {r : Bool} (h : sIn x z = some r) : Op2 K (fun x y H Q => ∃ (c : Nat) (z : Str), x = .str ⟨#[c]⟩ ∧ y = .str z ∧ Q (.bl (!decide (c ∈ z.cps.toList))) H) x z (!r) := fun F H v w Q s rv rw' k => by
  obtain ⟨c, rfl, e⟩ := sIn_of h
  exact ⟨c, z, rv, rw', k _ F H (.refl s) (congrArg (fun t => V.bl (!t)) e)⟩
/-- a text's method of one text -/
theorem ev_m1 {α : Type} [Rp α] {x y : Str} {z : α} {id : String} {name : Str} {apos : Pos} {r : V → List V → Hp → VK → Prop} (slot : Slot "str" name id) (ty : typeOf (.builtin id) = pure (.type "method_descriptor")) (rule : MtR X id r)
    (hr : ∀ (F H : Hp) (Q : VK), L2.Same F H → (∀ u F' H', Gr F H F' H' → rp X.K F' u z → Q u H') → r (.str x) [.str y] H Q) (ho : Ev X a σ F H x) (he : Ev X e σ F H y)
    (hs : starEach [e] X.env = [(false, eval e X.env)] := by rfl) (hbase : attributeBase a name X.env (eval a X.env) = eval a X.env := by rfl) (hline : (apos.endLine == pos.line) = true := by rfl) : Ev X (.Call (.Attribute a name apos) [e] [] pos) σ F H z := fun F1 H1 g Q q =>
  GoE.of (pe_m1 slot ty rule pe_go pe_go hs hbase hline) (ho F1 H1 g _ fun v F2 H2 g2 r2 => ⟨⟨x, r2⟩, he F2 H2 (g.trans g2) _ fun w F3 H3 g3 r3 => by
    have r2 : v = .str x := r2
    have r3 : w = .str y := r3
    subst r2; subst r3
    exact hr F3 H3 Q g3.fh fun u F4 H4 g4 r4 => q u F4 H4 ((g2.trans g3).trans g4) r4⟩)
theorem ev_m0 {α : Type} [Rp α] {x : Str} {z : α} {id : String} {name : Str} {apos : Pos} {r : V → List V → Hp → VK → Prop} (slot : Slot "str" name id) (ty : typeOf (.builtin id) = pure (.type "method_descriptor")) (rule : MtR X id r)
    (hr : ∀ (F H : Hp) (Q : VK), L2.Same F H → (∀ u F' H', Gr F H F' H' → rp X.K F' u z → Q u H') → r (.str x) [] H Q) (ho : Ev X a σ F H x)
    (hbase : attributeBase a name X.env (eval a X.env) = eval a X.env := by rfl) (hline : (apos.endLine == pos.line) = true := by rfl) : Ev X (.Call (.Attribute a name apos) [] [] pos) σ F H z := fun F1 H1 g Q q =>
  GoE.of (pe_m0 slot ty rule pe_go hbase hline) (ho F1 H1 g _ fun v F2 H2 g2 r2 => ⟨⟨x, r2⟩, by
    have r2 : v = .str x := r2
    subst r2
    exact hr F2 H2 Q g2.fh fun u F4 H4 g4 r4 => q u F4 H4 (g2.trans g4) r4⟩)
theorem ev_find {x y : Str} {apos : Pos} (ho : Ev X a σ F H x) (he : Ev X e σ F H y)
    (hs : starEach [e] X.env = [(false, eval e X.env)] := by rfl) (hbase : attributeBase a "find" X.env (eval a X.env) = eval a X.env := by rfl) (hline : (apos.endLine == pos.line) = true := by rfl) : Ev X (.Call (.Attribute a "find" apos) [e] [] pos) σ F H (Txt.find x y) :=
  ev_m1 PySem.F.slot_str_find PySem.F.type_str_find mt_find (fun F H Q s k => ⟨x, y, rfl, rfl, k _ F H (.refl s) rfl⟩) ho he hs hbase hline
def sJoin (a : Str) (ys : List Str) : Option Str := if (ys.map (·.length)).sum + ys.length * a.length ≤ 16777216 then some (Txt.join a ys) else none
theorem Rps.strs : ∀ {vs : List V} {ys : List Str}, Rps K F vs ys → vs = ys.map V.str
  | _, _, .nil => rfl
  | _, _, .cons r t => by
    rw [List.map_cons, ← Rps.strs t]
    exact congrArg (· :: _) r
theorem ev_join {x r : Str} {ys : List Str} {apos : Pos} (ho : Ev X a σ F H x) (he : Ev X e σ F H ys) (h : sJoin x ys = some r)
    (hs : starEach [e] X.env = [(false, eval e X.env)] := by rfl) (hbase : attributeBase a "join" X.env (eval a X.env) = eval a X.env := by rfl) (hline : (apos.endLine == pos.line) = true := by rfl) : Ev X (.Call (.Attribute a "join" apos) [e] [] pos) σ F H r := fun F1 H1 g Q q =>
  GoE.of (pe_join pe_go pe_go hs hbase hline) (ho F1 H1 g _ fun v F2 H2 g2 r2 => ⟨⟨x, r2⟩, he F2 H2 (g.trans g2) _ fun w F3 H3 g3 ⟨p, vs, e, sq, rs⟩ => by
    unfold sJoin at h
    split at h
    · rename_i hz
      have e3 := rs.strs
      subst e3
      exact ⟨x, p, ys, r2, by rw [e], .inl (g3.fh.seq sq), hz, q _ F3 H3 (g2.trans g3) (congrArg V.str (Option.some.inj h))⟩
    · cases h⟩)
def sOfI (i : Int) : Option Str := if i.natAbs.log2 < 1920 then some (toString i : String) else none
theorem oc_strI {i : Int} {r : Str} (h : sOfI i = some r) : OpC K (fun xs H Q => ∃ i : Int, xs = [.int i] ∧ i.natAbs.log2 < 1920 ∧ Q (.str (toString i : String)) H) (i, ()) r := oc1 fun F H v Q s rv k => by
  unfold sOfI at h
  split at h
  · rename_i hz
    have rv : v = .int i := rv
    exact ⟨i, by rw [rv], hz, k _ F H (.refl s) (congrArg V.str (Option.some.inj h))⟩
  · cases h
def iOfS (x : Str) : Option Int := if x.length ≤ 640 then PySem.intText? x else none
theorem oc_intS {x : Str} {r : Int} (h : iOfS x = some r) : OpC K (fun xs H Q => ∃ a n, xs = [.str a] ∧ PySem.intText? a = some n ∧ a.length ≤ 640 ∧ Q (.int n) H) (x, ()) r := oc1 fun F H v Q s rv k => by
  unfold iOfS at h
  split at h
  · rename_i hz
    have rv : v = .str x := rv
    exact ⟨x, r, by rw [rv], h, hz, k _ F H (.refl s) rfl⟩
  · cases h
/-- n times a text -/
def sMul (x : Str) (n : Int) : Option Str := if -(2 ^ 62) < n ∧ n < 2 ^ 62 ∧ x.length * n.toNat ≤ 16777216 then some (Txt.mul x n) else none
theorem op_mulS : OpR X (binaryOp .Mult) (fun x y H Q => ∃ (z : Str) (n : Int), x = .str z ∧ y = .int n ∧ MulOk z n ∧ Q (.str (Txt.mul z n)) H) := by
  intro pins s σ H x y v u Q I rx ry h
  obtain ⟨z, n, rfl, rfl, ok, q⟩ := h
  obtain ⟨t, rfl⟩ := rx
  obtain ⟨t', rfl⟩ := ry
  exact SB.mul ok fun t' k => ⟨.str _, H, I.tok k, ⟨t', rfl⟩, q⟩
theorem ev_mulS {x r : Str} {n : Int} (ha : Ev X a σ F H x) (hb : Ev X b σ F H n) (h : sMul x n = some r) : Ev X (.BinOp a .Mult b pos) σ F H r := ev_bin op_mulS (fun F H v w Q s rv rw' k => by
  unfold sMul at h
  split at h
  · rename_i hz
    obtain ⟨z1, z2, z3⟩ := hz
    refine ⟨x, n, rv, rw', ⟨?_, fun hn _ => ?_, fun _ _ => ?_⟩, k _ F H (.refl s) (congrArg V.str (Option.some.inj h))⟩
    · rw [Bool.or_eq_false_iff]
      exact ⟨decide_eq_false (by omega), decide_eq_false (by omega)⟩
    · have h1 : ((x.length * n.toNat : Nat) : Int) = (x.length : Int) * n := by rw [Int.natCast_mul, Int.toNat_of_nonneg (by omega)]
      have h2 : (x.length : Int) ≤ (2 ^ 63 - 1) / n := Int.le_ediv_of_mul_le (by omega) (by rw [← h1]; omega)
      omega
    · show decide (x.length * n.toNat > sizeLine) = false
      rw [sizeLine_eq]
      exact decide_eq_false (by omega)
  · cases h) ha hb
end
end Gx

/-! Gc: comprehensions, a def's own rule. -/
namespace Gx
open PySem PySem.Spec PyProof.Rows L2
open Rp (rp)
open Ra (ra)
open Ob (ob)
section
variable {X : Cx} {K : PySem.W.Frag} {e a b c d : Expr} {es : List Expr} {σ : L2.St} {F H F0 H0 : Hp} {pos : Pos} {D : Ends} {st : Stmt} {rest body : List Stmt}
def compM {α γ : Type} (f : α → Option (Option γ)) : List α → Option (List γ)
  | [] => some []
  | x :: xs => match f x with
    | none => none
    | some none => compM f xs
    | some (some y) => (compM f xs).map (y :: ·)
def compG {α γ : Type} (f : α → Option (Option γ)) (xs : List α) : Option (List γ) := if xs.length ≤ sizeLine then compM f xs else none
abbrev blkX (X : Cx) (scope : Scope) (s : Shared) (H : Hp) (C : Addr) (cl : List (Str × Addr)) (fp : List Addr) : Cx := X.blk s H scope (compEnvC scope cl C X.env) fp
def GoEB (X : Cx) (scope : Scope) (e : Expr) : TE := fun σ H Q => ∀ s H' C cl fp, GoE (blkX X scope s H' C cl fp) e σ H Q
def GoTB (X : Cx) (scope : Scope) (e : Expr) : TT := fun σ H Q => ∀ s H' C cl fp, GoT (blkX X scope s H' C cl fp) e σ H Q
theorem pe_goB {scope : Scope} (s : Shared) (H : Hp) (C : Addr) (cl : List (Str × Addr)) (fp : List Addr) : PE (blkX X scope s H C cl fp) e (GoEB X scope e) := ⟨fun pins s σ H Q I h => h _ _ _ _ _ pins s I⟩
theorem pt_goB {scope : Scope} (s : Shared) (H : Hp) (C : Addr) (cl : List (Str × Addr)) (fp : List Addr) : PT (blkX X scope s H C cl fp) e (GoTB X scope e) := ⟨fun pins s σ H Q I h => h _ _ _ _ _ pins s I⟩
/-- what one item gives -/
def CB {γ : Type} [Rp γ] (X : Cx) (scope : Scope) (elt : Expr) (σ2 : L2.St) (F H : Hp) (o : Option γ) : Prop := ∃ y, o = some y ∧ ∀ s H' C cl fp, Ev (blkX X scope s H' C cl fp) elt σ2 F H y
def CBi {γ : Type} [Rp γ] (X : Cx) (scope : Scope) (tst elt : Expr) (σ2 : L2.St) (F H : Hp) (o : Option γ) : Prop := ∃ b, (∀ s H' C cl fp, EvT (blkX X scope s H' C cl fp) tst σ2 F H b) ∧ (b = true → CB X scope elt σ2 F H o) ∧ (b = false → o = none)
theorem comp_core {α γ : Type} [Rp α] [Rp γ] {tg iter elt : Expr} {scope : Scope} {g : TG} {tt : TT} {vs : List Nat} {xs : List α} {ys : List γ} {f : α → Option (Option γ)} (hi : EvI X tg iter σ F H xs) (hr : compG f xs = some ys)
    (step : ∀ x o, f x = some o → ∀ F' H' v, Gr F H F' H' → rp X.K F' v x → ∀ Q : L2.St → Hp → Prop, (∀ σ2, wipe σ2 vs = wipe σ vs → (∀ R : Bool → Hp → Prop, (∀ F2 H2, Gr F' H' F2 H2 → o = none → R false H2) → (∀ F2 H2, Gr F' H' F2 H2 → CB X scope elt σ2 F2 H2 o → R true H2) → tt σ2 H' R) → Q σ2 H') → g v (wipe σ vs) H' Q)
    {F1 H1 : Hp} (g1 : Gr F H F1 H1) {Q : VK} (q : ∀ l o F2 H2, Gr F1 H1 F2 H2 → H1 l = none → F2 l = none → H2 l = some o → ob X.K F2 o ys → Q (.ref l) H2) : tLc (GoI X tg iter) g tt (GoEB X scope elt) vs σ H1 Q := by
  unfold compG at hr
  split at hr
  case isFalse => cases hr
  rename_i hz
  refine hi F1 H1 g1 _ fun J F2 H2 g2 wk L hL => ?_
  refine ⟨fun i m H => m = xs.length - i ∧ i ≤ xs.length ∧ ∃ Fi acc zs ws, Gr F2 H2 Fi H ∧ Fi L = none ∧ H L = some (.lst acc) ∧ Rps X.K Fi acc zs ∧ acc.length ≤ i ∧ compM f (xs.drop i) = some ws ∧ zs ++ ws = ys,
    ⟨_, rfl, Nat.zero_le _, F2, [], [], ys, Gr.newP g2.fh hL, g2.fh.free hL, upd_same, .nil, Nat.le_refl _, hr, rfl⟩, ?_⟩
  rintro i m Hi ⟨rfl, hle, Fi, acc, zs, ws, gi, fL, hLi, rs, hacc, hcm, hys⟩
  obtain ⟨w1, w2⟩ := wk i Fi Hi gi.ff gi.fh
  rcases Nat.lt_or_ge i xs.length with hlt | hge
  · obtain ⟨x, hx⟩ : ∃ x, xs[i]? = some x := ⟨xs[i], List.getElem?_eq_getElem hlt⟩
    obtain ⟨hgo, hy⟩ := w1 x hx
    have ed : xs.drop i = x :: xs.drop (i + 1) := by
      rw [List.drop_eq_getElem_cons hlt]
      rw [List.getElem?_eq_getElem hlt] at hx
      rw [Option.some.inj hx]
    rw [ed] at hcm
    unfold compM at hcm
    cases hf : f x with
    | none => rw [hf] at hcm; cases hcm
    | some o =>
      rw [hf] at hcm
      refine .inr ⟨hgo, fun H' => ∃ F' acc' zs' ws', Gr F2 H2 F' H' ∧ F' L = none ∧ H' L = some (.lst acc') ∧ Rps X.K F' acc' zs' ∧ acc'.length ≤ i + 1 ∧ compM f (xs.drop (i + 1)) = some ws' ∧ zs' ++ ws' = ys,
        fun H' ⟨F', acc', zs', ws', h1, h2, h3, h4, h5, h6, h7⟩ => ⟨xs.length - (i + 1), by omega, rfl, hlt, F', acc', zs', ws', h1, h2, h3, h4, h5, h6, h7⟩, fun v H3 hv => ?_⟩
      obtain ⟨F3, g3, rv⟩ := hy v H3 hv
      refine step x o hf F3 H3 v ((g1.trans g2).trans (gi.trans g3)) rv _ fun σ2 ew ht => ⟨ew, ht _ (fun F4 H4 g4 eo => ?_) fun F4 H4 g4 ⟨y, eo, hev⟩ => ?_⟩
      · rw [if_neg Bool.false_ne_true]
        subst eo
        exact ⟨F4, acc, zs, ws, gi.trans (g3.trans g4), (g4.fr L _ (g3.hh _ _ hLi) trivial).trans ((g3.fr L _ hLi trivial).trans fL), g4.hh _ _ (g3.hh _ _ hLi), rs.mono (g3.ff.trans g4.ff), Nat.le_succ_of_le hacc, hcm, hys⟩
      · rw [if_pos rfl]
        subst eo
        obtain ⟨ws', hw, ew'⟩ := Option.map_eq_some_iff.mp hcm
        refine fun s H' C cl fp => hev s H' C cl fp F4 H4 (.refl g4.fh) _ fun u F5 H5 g5 ru => ?_
        have gg : Gr Fi Hi F5 H5 := (g3.trans g4).trans g5
        have f5 : F5 L = none := (gg.fr L _ hLi trivial).trans fL
        have h5 : H5 L = some (.lst acc) := gg.hh _ _ hLi
        refine ⟨acc, h5, by omega, F5, acc ++ [u], zs ++ [y], ws', (gi.trans gg).poke hL f5, f5, upd_same, Rps.append (rs.mono gg.ff) (.cons ru .nil), by rw [List.length_append]; simp; omega, hw, ?_⟩
        rw [List.append_assoc]
        show zs ++ (y :: ws') = ys
        rw [ew']; exact hys
  · have e : i = xs.length := by omega
    subst e
    rw [List.drop_length] at hcm
    have ew : ws = [] := (Option.some.inj hcm).symm
    subst ew
    rw [List.append_nil] at hys
    subst hys
    refine .inl ⟨w2 rfl, q L (.lst acc) Fi Hi (g2.trans gi) (g2.hh.free hL) fL hLi (ob_lst rs)⟩
theorem en_comp {α γ : Type} [Rp α] [Rp γ] {tg iter elt : Expr} {scope : Scope} {g : TG} {own : List (Str × Nat)} {xs : List α} {ys : List γ} {f : α → Option (Option γ)} (hN : X.N.Nodup) (hi : EvI X tg iter σ F H xs) (hr : compG f xs = some ys) (ok : BlkOk X.N X.env.scope scope own)
    (hg : ∀ (s : Shared) (H : Hp) (C : Addr) (cl : List (Str × Addr)) (fp : List Addr), PG (blkX X scope s H C cl fp) tg g)
    (step : ∀ x o, f x = some o → ∀ F' H' v, Gr F H F' H' → rp X.K F' v x → ∀ Q : L2.St → Hp → Prop, (∀ σ2, wipe σ2 (own.map (·.2)) = wipe σ (own.map (·.2)) → CB X scope elt σ2 F' H' o → Q σ2 H') → g v (wipe σ (own.map (·.2))) H' Q)
    (hc : X.calm = true := by rfl) (hs : ∀ x, foldedSetIterable iter X.env x = pure x := by intro _; rfl) : EvN X (.ListComp elt [⟨tg, iter, [], 0⟩] scope pos) σ F H ys := fun F1 H1 g1 Q q =>
  GoE.of (pe_lc hc hN pi_go ok hg (fun _ _ _ _ _ => pts_nil) pe_goB hs) (comp_core hi hr (fun x o hf F' H' v gr rv Q' k => step x o hf F' H' v gr rv Q' fun σ2 ew cb => k σ2 ew fun R _ r1 => r1 F' H' (.refl gr.fh) cb) g1 q)
theorem CB.up {γ : Type} [Rp γ] {scope : Scope} {elt : Expr} {σ2 : L2.St} {F' H' : Hp} {o : Option γ} (h : CB X scope elt σ2 F H o) (g : Gr F H F' H') : CB X scope elt σ2 F' H' o := by
  obtain ⟨y, e, h⟩ := h
  exact ⟨y, e, fun s H' C cl fp => (h s H' C cl fp).up g⟩
theorem en_compi {α γ : Type} [Rp α] [Rp γ] {tg iter elt tst : Expr} {scope : Scope} {g : TG} {own : List (Str × Nat)} {xs : List α} {ys : List γ} {f : α → Option (Option γ)} (hN : X.N.Nodup) (hi : EvI X tg iter σ F H xs) (hr : compG f xs = some ys) (ok : BlkOk X.N X.env.scope scope own)
    (hg : ∀ (s : Shared) (H : Hp) (C : Addr) (cl : List (Str × Addr)) (fp : List Addr), PG (blkX X scope s H C cl fp) tg g)
    (step : ∀ x o, f x = some o → ∀ F' H' v, Gr F H F' H' → rp X.K F' v x → ∀ Q : L2.St → Hp → Prop, (∀ σ2, wipe σ2 (own.map (·.2)) = wipe σ (own.map (·.2)) → CBi X scope tst elt σ2 F' H' o → Q σ2 H') → g v (wipe σ (own.map (·.2))) H' Q)
    (hc : X.calm = true := by rfl) (hs : ∀ x, foldedSetIterable iter X.env x = pure x := by intro _; rfl) : EvN X (.ListComp elt [⟨tg, iter, [tst], 0⟩] scope pos) σ F H ys := fun F1 H1 g1 Q q =>
  GoE.of (pe_lc hc hN pi_go ok hg (fun s H C cl fp => pts_one (pt_goB s H C cl fp)) pe_goB hs) (comp_core hi hr (fun x o hf F' H' v gr rv Q' k => step x o hf F' H' v gr rv Q' fun σ2 ew ⟨b, ht, h1, h2⟩ => k σ2 ew fun R r0 r1 s Hb C cl fp => ht s Hb C cl fp F' H' (.refl gr.fh) R fun F2 H2 g2 => by
    cases b with
    | true => exact r1 F2 H2 g2 ((h1 rfl).up g2)
    | false => exact r0 F2 H2 g2 (h2 rfl)) g1 q)
/-- y = [..] on one line, y a local -/
theorem go_setLc {α γ : Type} [Rp α] [Rp γ] {tg iter elt : Expr} {scope : Scope} {g : TG} {own : List (Str × Nat)} {xs : List α} {ys : List γ} {f : α → Option (Option γ)} {y : Str} {py cpos : Pos} (i : Nat) (s : L2.Same F H) (hN : X.N.Nodup) (hi : EvI X tg iter σ F H xs) (hr : compG f xs = some ys) (ok : BlkOk X.N X.env.scope scope own)
    (hg : ∀ (s : Shared) (H : Hp) (C : Addr) (cl : List (Str × Addr)) (fp : List Addr), PG (blkX X scope s H C cl fp) tg g)
    (step : ∀ x o, f x = some o → ∀ F' H' v, Gr F H F' H' → rp X.K F' v x → ∀ Q : L2.St → Hp → Prop, (∀ σ2, wipe σ2 (own.map (·.2)) = wipe σ (own.map (·.2)) → CB X scope elt σ2 F' H' o → Q σ2 H') → g v (wipe σ (own.map (·.2))) H' Q)
    (k : ∀ l o F' H', Gr F H F' H' → H l = none → F' l = none → H' l = some o → ob X.K F' o ys → GoS X rest D (σ.set i (some (.ref l))) H')
    (hy : X.N[i]? = some y := by rfl) (hyl : X.env.scope.names.lookup y = some .local := by rfl) (hsw : swapsWith (.ListComp elt [⟨tg, iter, [], 0⟩] scope cpos) (some (.Name y py)) pos.line X.env = pure true := by exact sw_true rfl rfl rfl (by decide +kernel))
    (hc : X.calm = true := by rfl) (hs : ∀ x, foldedSetIterable iter X.env x = pure x := by intro _; rfl) : GoS X (.Assign [.Name y py] (.ListComp elt [⟨tg, iter, [], 0⟩] scope cpos) pos :: rest) D σ H :=
  GoS.cons (ps_setLc hc hN hy hyl hsw pi_go ok hg (fun _ _ _ _ _ => pts_nil) pe_goB hs) (comp_core hi hr (fun x o hf F' H' v gr rv Q' k => step x o hf F' H' v gr rv Q' fun σ2 ew cb => k σ2 ew fun R _ r1 => r1 F' H' (.refl gr.fh) cb) (.refl s) k)
theorem go_setLci {α γ : Type} [Rp α] [Rp γ] {tg iter elt tst : Expr} {scope : Scope} {g : TG} {own : List (Str × Nat)} {xs : List α} {ys : List γ} {f : α → Option (Option γ)} {y : Str} {py cpos : Pos} (i : Nat) (s : L2.Same F H) (hN : X.N.Nodup) (hi : EvI X tg iter σ F H xs) (hr : compG f xs = some ys) (ok : BlkOk X.N X.env.scope scope own)
    (hg : ∀ (s : Shared) (H : Hp) (C : Addr) (cl : List (Str × Addr)) (fp : List Addr), PG (blkX X scope s H C cl fp) tg g)
    (step : ∀ x o, f x = some o → ∀ F' H' v, Gr F H F' H' → rp X.K F' v x → ∀ Q : L2.St → Hp → Prop, (∀ σ2, wipe σ2 (own.map (·.2)) = wipe σ (own.map (·.2)) → CBi X scope tst elt σ2 F' H' o → Q σ2 H') → g v (wipe σ (own.map (·.2))) H' Q)
    (k : ∀ l o F' H', Gr F H F' H' → H l = none → F' l = none → H' l = some o → ob X.K F' o ys → GoS X rest D (σ.set i (some (.ref l))) H')
    (hy : X.N[i]? = some y := by rfl) (hyl : X.env.scope.names.lookup y = some .local := by rfl) (hsw : swapsWith (.ListComp elt [⟨tg, iter, [tst], 0⟩] scope cpos) (some (.Name y py)) pos.line X.env = pure true := by exact sw_true rfl rfl rfl (by decide +kernel))
    (hc : X.calm = true := by rfl) (hs : ∀ x, foldedSetIterable iter X.env x = pure x := by intro _; rfl) : GoS X (.Assign [.Name y py] (.ListComp elt [⟨tg, iter, [tst], 0⟩] scope cpos) pos :: rest) D σ H :=
  GoS.cons (ps_setLc hc hN hy hyl hsw pi_go ok hg (fun s H C cl fp => pts_one (pt_goB s H C cl fp)) pe_goB hs) (comp_core hi hr (fun x o hf F' H' v gr rv Q' k => step x o hf F' H' v gr rv Q' fun σ2 ew ⟨b, ht, h1, h2⟩ => k σ2 ew fun R r0 r1 s Hb C cl fp => ht s Hb C cl fp F' H' (.refl gr.fh) R fun F2 H2 g2 => by
    cases b with
    | true => exact r1 F2 H2 g2 ((h1 rfl).up g2)
    | false => exact r0 F2 H2 g2 (h2 rfl)) (.refl s) k)

/-! ### a def by its mirror -/
theorem fn_ok {P : Program} {w : World} {mg : Str → Option Value} {base : Heap} {τ ρ : Type} [Ra τ] [RaN τ] [Rp ρ] {f : τ → Option ρ} {x qual : Str} {s0 : Stmt} {fa : Addr} {fd : FuncData} {N ps : List Str} {k : Nat} (Fn : FunD K x qual (defArgs s0) (defBody s0) (defScope s0) [] [] fa fd) (S : FnScope N ps (defScope s0)) (hn : RaN.n τ = ps.length)
    (hbody : ∀ (cdv : Value) (A : Around) (outer : List Env) (s : Shared) (F H : Hp) (vs : List V) (a : τ) (r : ρ) (D : Ends) (E : XK), Room k (A.deeper (envOfC qual (defScope s0) s.heap.objs.size fa cdv)) → L2.Same F H → ra K F vs a → f a = some r → (∀ F' H' u, Gr F H F' H' → rp K F' u r → D.rt u H') →
      (∀ σ' F' H', Gr F H F' H' → rp K F' .non r → D.nx σ' H') → GoS (cxOf CX0 P w K mg base N qual (defScope s0) fa cdv A outer s H E).nox (defBody s0) D (start N vs) H) :
    FnOk P w K mg base CX0 (k + 1) fa fd ps (Pr K f) := by
  refine Fn.ok S (fun vs H Q E ⟨F, a, r, _, ra', _⟩ => by rw [RaN.len ra', hn]) fun cdv A outer s H vs Q E hr ⟨F, a, r, sm, ra', hf, k⟩ => ?_
  refine ⟨_, PSs.nox pss_go, hbody cdv A outer s F H vs a r { nx := fun _ H' => Q .non H', rt := Q } E hr sm ra' hf (fun F' H' u g q => k F' H' u g q) fun σ' F' H' g q => k F' H' .non g q⟩
end
end Gx
namespace Gx
open PySem PySem.Spec PyProof.Rows L2
open Rp (rp)
open Ra (ra)
open Ob (ob)
theorem cg {α : Type} [Rp α] {K : PySem.W.Frag} {F : Hp} {v : V} {x y : α} (e : x = y) (h : rp K F v x) : rp K F v y := e ▸ h
theorem nt {b : Bool} (h : b = false) : ¬ b = true := by rw [h]; exact Bool.false_ne_true
def Lp.thn {β ρ γ : Type} (o : Lp β ρ) (f : β → Option γ) (g : ρ → Option γ) : Option γ := match o with
  | .nx b => f b
  | .bk b => f b
  | .rt r => g r
/-- a loop that neither breaks nor returns -/
def loopN {α β : Type} (st : β → α → Option β) : β → List α → Option β
  | b, [] => some b
  | b, x :: xs => match st b x with
    | none => none
    | some b' => loopN st b' xs
theorem loopN_M {α β : Type} (st : β → α → Option β) : ∀ (xs : List α) (b : β), loopM (ρ := Unit) (fun b x => (st b x).map Lp.nx) b xs = (loopN st b xs).map Lp.nx
  | [], b => rfl
  | x :: xs, b => by
    unfold loopM loopN
    cases st b x with
    | none => rfl
    | some b' => exact loopN_M st xs b'
def whileN {β : Type} (c : β → Option Bool) (st : β → Option β) : Nat → β → Option β
  | 0, _ => none
  | n + 1, b => match c b with
    | none => none
    | some false => some b
    | some true => match st b with
      | none => none
      | some b' => whileN c st n b'
theorem whileN_M {β : Type} (c : β → Option Bool) (st : β → Option β) : ∀ (n : Nat) (b : β), whileM (ρ := Unit) c (fun b => (st b).map Lp.nx) n b = (whileN c st n b).map Lp.nx
  | 0, b => rfl
  | n + 1, b => by
    unfold whileM whileN
    cases c b with
    | none => rfl
    | some t =>
      cases t with
      | false => rfl
      | true =>
        dsimp only
        cases st b with
        | none => rfl
        | some b' => exact whileN_M c st n b'
section
variable {X : Cx} {K : PySem.W.Frag} {e a b c d : Expr} {es : List Expr} {σ : L2.St} {F H F0 H0 : Hp} {pos : Pos} {D : Ends} {st : Stmt} {rest body : List Stmt}
theorem go_forM {α β ρ γ : Type} [Rp α] {tg iter : Expr} {g : TG} {xs : List α} {stp : β → α → Option (Lp β ρ)} {b0 : β} {o : Lp β ρ} {f1 : β → Option γ} {f2 : ρ → Option γ} {r : γ} (s : L2.Same F H) (hi : EvI X tg iter σ F H xs) (hg : PG X tg g) (ho : loopM stp b0 xs = some o) (hm : o.thn f1 f2 = some r)
    (k : ∀ F2 H2, Gr F H F2 H2 → ∃ (Iv : β → L2.St → Hp → Hp → Prop) (Rt : ρ → V → Hp → Prop), Iv b0 σ F2 H2 ∧
      (∀ b x o', stp b x = some o' → ∀ σ F H v, L2.Same F2 F → L2.Same F H → Iv b σ F H → ∀ F' H', Gr F H F' H' → rp X.K F' v x → ∀ Q : L2.St → Hp → Prop, (∀ σ' H'', GoS X body (LE Iv Rt F o') σ' H'' → Q σ' H'') → g v σ H' Q) ∧
      (∀ b, f1 b = some r → ∀ σ F H, L2.Same F2 F → L2.Same F H → Iv b σ F H → GoS X rest D σ H) ∧ (∀ x, f2 x = some r → ∀ v H, Rt x v H → D.rt v H))
    (hp : PassesOwn (model X.prog X.w) X.A X.env X.xe) (hc : X.calm = true := by rfl) (hs : ∀ x, foldedSetIterable iter X.env x = pure x := by intro _; rfl) : GoS X (.For tg iter body [] pos :: rest) D σ H :=
  go_for xs stp b0 s hi hg ho (fun F2 H2 g2 => by
    obtain ⟨Iv, Rt, i0, st, d1, d2⟩ := k F2 H2 g2
    refine ⟨fun b σ F H => L2.Same F2 F ∧ Iv b σ F H, Rt, ⟨.refl _, i0⟩, fun b x o' e σ F H v s1 s2 ⟨_, iv⟩ F' H' gr rv Q q => st b x o' e σ F H v s1 s2 iv F' H' gr rv Q fun σ' H'' go => q σ' H'' (go.mono ?_ (fun _ _ h => h) ?_ ?_), ?_⟩
    · exact fun σ3 H3 ⟨b', F3, e, f1, f2, iv⟩ => ⟨b', F3, e, f1, f2, s1.trans f1, iv⟩
    · exact fun σ3 H3 ⟨b', F3, e, f1, f2, iv⟩ => ⟨b', F3, e, f1, f2, s1.trans f1, iv⟩
    · exact fun σ3 H3 ⟨b', F3, e, f1, f2, iv⟩ => ⟨b', F3, e, f1, f2, s1.trans f1, iv⟩
    · cases o with
      | nx b => exact fun σ F H s1 ⟨s0, iv⟩ => d1 b hm σ F H s0 s1 iv
      | bk b => exact fun σ F H s1 ⟨s0, iv⟩ => d1 b hm σ F H s0 s1 iv
      | rt x => exact d2 x hm) hp hc hs
theorem go_forN {α β : Type} [Rp α] {tg iter : Expr} {g : TG} {xs : List α} {stp : β → α → Option β} {b0 b1 : β} (s : L2.Same F H) (hi : EvI X tg iter σ F H xs) (hg : PG X tg g) (ho : loopN stp b0 xs = some b1)
    (k : ∀ F2 H2, Gr F H F2 H2 → ∃ (Iv : β → L2.St → Hp → Hp → Prop), Iv b0 σ F2 H2 ∧
      (∀ b x b', stp b x = some b' → ∀ σ F H v, L2.Same F2 F → L2.Same F H → Iv b σ F H → ∀ F' H', Gr F H F' H' → rp X.K F' v x → ∀ Q : L2.St → Hp → Prop, (∀ σ' H'', GoS X body { nx := fun σ3 H3 => ∃ F3, L2.Same F F3 ∧ L2.Same F3 H3 ∧ Iv b' σ3 F3 H3, ct := fun σ3 H3 => ∃ F3, L2.Same F F3 ∧ L2.Same F3 H3 ∧ Iv b' σ3 F3 H3, bk := fun _ _ => False, rt := fun _ _ => False } σ' H'' → Q σ' H'') → g v σ H' Q) ∧
      (∀ σ F H, L2.Same F2 F → L2.Same F H → Iv b1 σ F H → GoS X rest D σ H))
    (hp : PassesOwn (model X.prog X.w) X.A X.env X.xe) (hc : X.calm = true := by rfl) (hs : ∀ x, foldedSetIterable iter X.env x = pure x := by intro _; rfl) : GoS X (.For tg iter body [] pos :: rest) D σ H := by
  have ho' : loopM (ρ := Unit) (fun b x => (stp b x).map Lp.nx) b0 xs = some (.nx b1) := by rw [loopN_M, ho]; rfl
  refine go_forM (f1 := fun b => some b) (f2 := fun _ => none) (r := b1) s hi hg ho' rfl (fun F2 H2 g2 => ?_) hp hc hs
  obtain ⟨Iv, i0, st, d1⟩ := k F2 H2 g2
  refine ⟨Iv, fun _ _ _ => False, i0, fun b x o' e σ F H v s1 s2 iv F' H' gr rv Q q => ?_, fun b e => by cases (Option.some.inj e); exact d1, fun _ e => nomatch e⟩
  obtain ⟨b', eb, rfl⟩ := Option.map_eq_some_iff.mp e
  exact st b x b' eb σ F H v s1 s2 iv F' H' gr rv Q fun σ' H'' go => q σ' H'' (go.mono (fun σ3 H3 ⟨F3, f1, f2, iv⟩ => ⟨b', F3, rfl, f1, f2, iv⟩) (fun _ _ h => h.elim) (fun _ _ h => h.elim) fun σ3 H3 ⟨F3, f1, f2, iv⟩ => ⟨b', F3, rfl, f1, f2, iv⟩)
theorem go_whileM {β ρ γ : Type} {cn : β → Option Bool} {stp : β → Option (Lp β ρ)} {N : Nat} {b0 : β} {o : Lp β ρ} {f1 : β → Option γ} {f2 : ρ → Option γ} {r : γ} (Iv : β → L2.St → Hp → Hp → Prop) (Rt : ρ → V → Hp → Prop) (s : L2.Same F H) (init : Iv b0 σ F H) (ho : whileM cn stp N b0 = some o) (hm : o.thn f1 f2 = some r)
    (kc : ∀ b t, cn b = some t → ∀ σ F1 H, L2.Same F F1 → L2.Same F1 H → Iv b σ F1 H → EvT X c σ F1 H t ∧ ∀ F' H', Gr F1 H F' H' → Iv b σ F' H')
    (kb : ∀ b o', stp b = some o' → ∀ σ F1 H, L2.Same F F1 → L2.Same F1 H → Iv b σ F1 H → GoS X body (LE Iv Rt F1 o') σ H)
    (d1 : ∀ b, f1 b = some r → ∀ σ F1 H, L2.Same F F1 → L2.Same F1 H → Iv b σ F1 H → GoS X rest D σ H) (d2 : ∀ x, f2 x = some r → ∀ v H, Rt x v H → D.rt v H)
    (hp : PassesOwn (model X.prog X.w) X.A X.env X.xe) : GoS X (.While c body [] pos :: rest) D σ H := by
  refine go_while cn stp N b0 (fun b σ F1 H => L2.Same F F1 ∧ Iv b σ F1 H) Rt s ⟨.refl _, init⟩ ho (fun b t e σ F1 H s2 ⟨s1, iv⟩ => ?_) (fun b o' _ e σ F1 H s2 ⟨s1, iv⟩ => (kb b o' e σ F1 H s1 s2 iv).mono ?_ (fun _ _ h => h) ?_ ?_) ?_ hp
  · obtain ⟨h1, h2⟩ := kc b t e σ F1 H s1 s2 iv
    exact ⟨h1, fun F' H' g => ⟨s1.trans g.ff, h2 F' H' g⟩⟩
  · exact fun σ3 H3 ⟨b', F3, e, f1, f2, iv⟩ => ⟨b', F3, e, f1, f2, s1.trans f1, iv⟩
  · exact fun σ3 H3 ⟨b', F3, e, f1, f2, iv⟩ => ⟨b', F3, e, f1, f2, s1.trans f1, iv⟩
  · exact fun σ3 H3 ⟨b', F3, e, f1, f2, iv⟩ => ⟨b', F3, e, f1, f2, s1.trans f1, iv⟩
  · cases o with
    | nx b => exact fun σ F H s1 ⟨s0, iv⟩ => d1 b hm σ F H s0 s1 iv
    | bk b => exact fun σ F H s1 ⟨s0, iv⟩ => d1 b hm σ F H s0 s1 iv
    | rt x => exact d2 x hm
theorem go_whileN {β : Type} {cn : β → Option Bool} {stp : β → Option β} {N : Nat} {b0 b1 : β} (Iv : β → L2.St → Hp → Hp → Prop) (s : L2.Same F H) (init : Iv b0 σ F H) (ho : whileN cn stp N b0 = some b1)
    (kc : ∀ b t, cn b = some t → ∀ σ F1 H, L2.Same F F1 → L2.Same F1 H → Iv b σ F1 H → EvT X c σ F1 H t ∧ ∀ F' H', Gr F1 H F' H' → Iv b σ F' H')
    (kb : ∀ b b', stp b = some b' → ∀ σ F1 H, L2.Same F F1 → L2.Same F1 H → Iv b σ F1 H → GoS X body { nx := fun σ3 H3 => ∃ F3, L2.Same F1 F3 ∧ L2.Same F3 H3 ∧ Iv b' σ3 F3 H3, ct := fun σ3 H3 => ∃ F3, L2.Same F1 F3 ∧ L2.Same F3 H3 ∧ Iv b' σ3 F3 H3, bk := fun _ _ => False, rt := fun _ _ => False } σ H)
    (d1 : ∀ σ F1 H, L2.Same F F1 → L2.Same F1 H → Iv b1 σ F1 H → GoS X rest D σ H) (hp : PassesOwn (model X.prog X.w) X.A X.env X.xe) : GoS X (.While c body [] pos :: rest) D σ H := by
  have ho' : whileM (ρ := Unit) cn (fun b => (stp b).map Lp.nx) N b0 = some (.nx b1) := by rw [whileN_M, ho]; rfl
  refine go_whileM (f1 := fun b => some b) (f2 := fun _ => none) (r := b1) Iv (fun _ _ _ => False) s init ho' rfl kc (fun b o' e σ F1 H s1 s2 iv => ?_) (fun b e => by cases (Option.some.inj e); exact d1) (fun _ e => nomatch e) hp
  obtain ⟨b', eb, rfl⟩ := Option.map_eq_some_iff.mp e
  exact (kb b b' eb σ F1 H s1 s2 iv).mono (fun σ3 H3 ⟨F3, f1, f2, iv⟩ => ⟨b', F3, rfl, f1, f2, iv⟩) (fun _ _ h => h.elim) (fun _ _ h => h.elim) fun σ3 H3 ⟨F3, f1, f2, iv⟩ => ⟨b', F3, rfl, f1, f2, iv⟩
/-! ### reading a private list -/
def er (F : Hp) (l : Addr) : Hp := fun a => if a = l then none else F a
class Flat (α : Type) [Rp α] : Prop where
  fl : ∀ {K : PySem.W.Frag} {F : Hp} {l : Addr} {v : V} {x : α}, (∀ xs, ¬ F l = some (.tup xs)) → (∀ o xs, ¬ F l = some (.frz o (.tup xs))) → rp K F v x → rp K (er F l) v x
instance : Flat Int := ⟨fun _ _ h => h⟩
instance : Flat Bool := ⟨fun _ _ h => h⟩
instance : Flat Str := ⟨fun _ _ h => h⟩
instance : Flat Unit := ⟨fun _ _ h => h⟩
theorem er_seqT {F : Hp} {l a : Addr} {xs : List V} (h1 : ∀ xs, ¬ F l = some (.tup xs)) (h2 : ∀ o xs, ¬ F l = some (.frz o (.tup xs))) (h : TupF F a xs) : TupF (er F l) a xs := by
  unfold TupF er
  rw [if_neg (show ¬ a = l from fun e => h1 xs (e ▸ h))]; exact h
instance {α : Type} [Rp α] [NN α] [Flat α] : Flat (Option α) := ⟨fun {K F l v x} h1 h2 h => by
  cases x with
  | none => exact h
  | some x => exact Flat.fl (α := α) h1 h2 h⟩
theorem Rps.fl {α : Type} [Rp α] [Flat α] {F : Hp} {l : Addr} {vs : List V} {xs : List α} (h1 : ∀ xs, ¬ F l = some (.tup xs)) (h2 : ∀ o xs, ¬ F l = some (.frz o (.tup xs))) (h : Rps K F vs xs) : Rps K (er F l) vs xs := L2.Paired.mapP h fun _ _ => Flat.fl h1 h2
instance {α : Type} [Rp α] [Flat α] : Flat (Tp α) := ⟨fun h1 h2 ⟨a, vs, e, q, r⟩ => ⟨a, vs, e, er_seqT h1 h2 q, Rps.fl h1 h2 r⟩⟩
class FlatR (τ : Type) [Ra τ] : Prop where
  fl : ∀ {K : PySem.W.Frag} {F : Hp} {l : Addr} {v : List V} {x : τ}, (∀ xs, ¬ F l = some (.tup xs)) → (∀ o xs, ¬ F l = some (.frz o (.tup xs))) → ra K F v x → ra K (er F l) v x
instance : FlatR Unit := ⟨fun _ _ h => h⟩
instance {α τ : Type} [Rp α] [Ra τ] [Flat α] [FlatR τ] : FlatR (α × τ) := ⟨fun h1 h2 ⟨v, r, e, p, q⟩ => ⟨v, r, e, Flat.fl h1 h2 p, FlatR.fl h1 h2 q⟩⟩
theorem rpT.fl {θ τ : Type} [Ra τ] [FlatR τ] {row : θ → τ} {F : Hp} {l : Addr} {v : V} {x : θ} (h1 : ∀ xs, ¬ F l = some (.tup xs)) (h2 : ∀ o xs, ¬ F l = some (.frz o (.tup xs))) : rpT row K F v x → rpT row K (er F l) v x := fun ⟨a, vs, e, q, r⟩ => ⟨a, vs, e, er_seqT h1 h2 q, FlatR.fl h1 h2 r⟩
instance {α : Type} [Rp α] [Flat α] : Flat (T1 α) := ⟨rpT.fl⟩
instance {α β : Type} [Rp α] [Rp β] [Flat α] [Flat β] : Flat (T2 α β) := ⟨rpT.fl⟩
instance {α β γ : Type} [Rp α] [Rp β] [Rp γ] [Flat α] [Flat β] [Flat γ] : Flat (T3 α β γ) := ⟨rpT.fl⟩
instance {α β γ δ : Type} [Rp α] [Rp β] [Rp γ] [Rp δ] [Flat α] [Flat β] [Flat γ] [Flat δ] : Flat (T4 α β γ δ) := ⟨rpT.fl⟩
instance {α β γ δ ε : Type} [Rp α] [Rp β] [Rp γ] [Rp δ] [Rp ε] [Flat α] [Flat β] [Flat γ] [Flat δ] [Flat ε] : Flat (T5 α β γ δ ε) := ⟨rpT.fl⟩
/-- the private thing at l shown for a while -/
theorem Gr.show_ {F H F1 H1 : Hp} {l : Addr} {o u : HO} (hl : H l = some o) (fl : F l = none) (no : lstish o) (g : Gr F H F1 H1) : Gr (upd F l u) (upd H l u) (upd F1 l u) (upd H1 l u) ∧ F1 l = none ∧ H1 l = some o := by
  have f1 : F1 l = none := (g.fr l _ hl no).trans fl
  refine ⟨⟨fun b v e => ?_, fun b v e => ?_, fun b v e => ?_, fun a v h n => ?_⟩, f1, g.hh _ _ hl⟩
  · by_cases hb : b = l
    · subst hb; rw [upd_same] at e ⊢; exact e
    · rw [upd_ne hb] at e ⊢; exact g.ff _ _ e
  · by_cases hb : b = l
    · subst hb; rw [upd_same] at e ⊢; exact e
    · rw [upd_ne hb] at e ⊢; exact g.fh _ _ e
  · by_cases hb : b = l
    · subst hb; rw [upd_same] at e ⊢; exact e
    · rw [upd_ne hb] at e ⊢; exact g.hh _ _ e
  · by_cases hb : a = l
    · subst hb; rw [upd_same, upd_same]
    · rw [upd_ne hb] at h ⊢; rw [upd_ne hb]; exact g.fr a v h n
theorem Gr.hide {F1 H1 F2 H2 : Hp} {l : Addr} {o u : HO} (hl : H1 l = some o) (f1 : F1 l = none) (g : Gr (upd F1 l u) (upd H1 l u) F2 H2) : Gr F1 H1 (er F2 l) (upd H2 l o) := by
  refine ⟨fun b v e => ?_, fun b v e => ?_, fun b v e => ?_, fun a v h n => ?_⟩
  · have hb : b ≠ l := ne_of_none e f1
    unfold er
    rw [if_neg hb]
    exact g.ff b v (by rw [upd_ne hb]; exact e)
  · unfold er at e
    split at e
    · cases e
    · rename_i hb
      rw [upd_ne hb]; exact g.fh b v e
  · by_cases hb : b = l
    · subst hb; rw [upd_same, ← hl]; exact e
    · rw [upd_ne hb]; exact g.hh b v (by rw [upd_ne hb]; exact e)
  · unfold er
    by_cases hb : a = l
    · rw [if_pos hb, hb, f1]
    · rw [if_neg hb, g.fr a v (by rw [upd_ne hb]; exact h) n, upd_ne hb]
theorem frz_no {F : Hp} {l : Addr} {od : Obj} {o : HO} (e : F l = some (.frz od o)) (no : lstish o) : (∀ xs, ¬ F l = some (.tup xs)) ∧ (∀ (o' : Obj) (xs : List V), ¬ F l = some (.frz o' (.tup xs))) :=
  ⟨fun xs h => (by rw [e] at h; cases h), fun o' xs h => (by rw [e] at h; cases h; exact no)⟩
theorem shown {F H : Hp} {l : Addr} {u : HO} (s : L2.Same F H) : L2.Same (upd F l u) (upd H l u) := fun b v e => by
  by_cases hb : b = l
  · subst hb; rw [upd_same] at e ⊢; exact e
  · rw [upd_ne hb] at e ⊢; exact s _ _ e
theorem ev_thaw {α β : Type} [Rp α] [Flat α] [Rp β] [Ob β] {x : α} {y : β} {l : Addr} (o : Own X.K H0 F H l y) (s : L2.Same F H) (h : ∀ F' H', L2.Same F F' → L2.Same F' H' → rp X.K F' (.ref l) y → (∀ a, a ≠ l → F' a = F a ∧ H' a = H a) → Ev X e σ F' H' x) : Ev X e σ F H x := fun F1 H1 g Q q => by
  obtain ⟨u, hl, r⟩ := o.h
  have hl1 := g.hh _ _ hl
  refine GoE.locked hl1 (Ob.mu r) fun od => ?_
  obtain ⟨g1, f1, h1⟩ := Gr.show_ (u := .frz od u) hl o.f (Ob.ls r) g
  refine h _ _ (same_upd o.f) (shown s) (Ob.fz upd_same (Ob.mono (same_upd o.f) r)) (fun a ha => ⟨upd_ne ha, upd_ne ha⟩) _ _ g1 _ fun v F2 H2 g2 r2 => ?_
  have e2 : F2 l = some (.frz od u) := g2.ff _ _ upd_same
  obtain ⟨n1, n2⟩ := frz_no e2 (Ob.ls r)
  exact ⟨g2.fh _ _ e2, q v (er F2 l) _ (Gr.hide h1 f1 g2) (Flat.fl n1 n2 r2)⟩
theorem et_thaw {β : Type} [Rp β] [Ob β] {x : Bool} {y : β} {l : Addr} (o : Own X.K H0 F H l y) (s : L2.Same F H) (h : ∀ F' H', L2.Same F F' → L2.Same F' H' → rp X.K F' (.ref l) y → (∀ a, a ≠ l → F' a = F a ∧ H' a = H a) → EvT X e σ F' H' x) : EvT X e σ F H x := fun F1 H1 g Q q => by
  obtain ⟨u, hl, r⟩ := o.h
  have hl1 := g.hh _ _ hl
  refine GoT.locked hl1 (Ob.mu r) fun od => ?_
  obtain ⟨g1, f1, h1⟩ := Gr.show_ (u := .frz od u) hl o.f (Ob.ls r) g
  refine h _ _ (same_upd o.f) (shown s) (Ob.fz upd_same (Ob.mono (same_upd o.f) r)) (fun a ha => ⟨upd_ne ha, upd_ne ha⟩) _ _ g1 _ fun F2 H2 g2 => ?_
  have e2 : F2 l = some (.frz od u) := g2.ff _ _ upd_same
  exact ⟨g2.fh _ _ e2, q (er F2 l) _ (Gr.hide h1 f1 g2)⟩
class FlatO (α : Type) [Rp α] [Ob α] : Prop where
  fl : ∀ {K : PySem.W.Frag} {F : Hp} {l : Addr} {o : HO} {x : α}, (∀ xs, ¬ F l = some (.tup xs)) → (∀ o xs, ¬ F l = some (.frz o (.tup xs))) → ob K F o x → ob K (er F l) o x
instance {α : Type} [Rp α] [Flat α] : FlatO (List α) := ⟨fun h1 h2 ⟨vs, e, r⟩ => ⟨vs, e, Rps.fl h1 h2 r⟩⟩
theorem en_thaw {α β : Type} [Rp α] [Ob α] [FlatO α] [Rp β] [Ob β] {x : α} {y : β} {l : Addr} (o : Own X.K H0 F H l y) (s : L2.Same F H) (h : ∀ F' H', L2.Same F F' → L2.Same F' H' → rp X.K F' (.ref l) y → (∀ a, a ≠ l → F' a = F a ∧ H' a = H a) → EvN X e σ F' H' x) : EvN X e σ F H x := fun F1 H1 g Q q => by
  obtain ⟨u, hl, r⟩ := o.h
  have hl1 := g.hh _ _ hl
  refine GoE.locked hl1 (Ob.mu r) fun od => ?_
  obtain ⟨g1, f1, h1⟩ := Gr.show_ (u := .frz od u) hl o.f (Ob.ls r) g
  refine h _ _ (same_upd o.f) (shown s) (Ob.fz upd_same (Ob.mono (same_upd o.f) r)) (fun a ha => ⟨upd_ne ha, upd_ne ha⟩) _ _ g1 _ fun l2 u2 F2 H2 g2 n2 f2 h2 r2 => ?_
  have e2 : F2 l = some (.frz od u) := g2.ff _ _ upd_same
  obtain ⟨n1, n2'⟩ := frz_no e2 (Ob.ls r)
  have hne : l2 ≠ l := fun e => by rw [e, upd_same] at n2; cases n2
  refine ⟨g2.fh _ _ e2, q l2 u2 (er F2 l) _ (Gr.hide h1 f1 g2) (by rw [upd_ne hne] at n2; exact n2) ?_ (by rw [upd_ne hne]; exact h2) (FlatO.fl n1 n2' r2)⟩
  unfold er
  rw [if_neg hne]; exact f2
end
end Gx
namespace Gx
open PySem PySem.Spec PyProof.Rows L2
open Rp (rp)
open Ra (ra)
open Ob (ob)
section
variable {X : Cx} {K : PySem.W.Frag} {e a b c d : Expr} {es : List Expr} {σ : L2.St} {F H F0 H0 : Hp} {pos : Pos} {D : Ends} {st : Stmt} {rest body : List Stmt}
theorem Own.cg {α : Type} [Rp α] [Ob α] {xs ys : α} {l : Addr} (e : xs = ys) (o : Own K H0 F H l xs) : Own K H0 F H l ys := e ▸ o
theorem ob_cg {α : Type} [Rp α] [Ob α] {xs ys : α} {o : HO} (e : xs = ys) (r : Ob.ob K F o xs) : Ob.ob K F o ys := e ▸ r
theorem go_augA {i : Nat} {x y : Int} {v : V} {n : Str} {p : Pos} (s : L2.Same F H) (hσ : σ[i]? = some (some v)) (r : rp X.K F v x) (he : Ev X e σ F H y) (k : ∀ v F' H', Gr F H F' H' → rp X.K F' v (x + y) → GoS X rest D (σ.set i (some v)) H') (hN : X.N.Nodup) (hi : X.N[i]? = some n := by rfl)
    (hx : Loc X.env.scope n := by first | exact Or.inl rfl | exact Or.inr rfl) (hf : X.fn n = true ∨ X.env.scope.names.lookup n = some .local := by first | exact .inl rfl | exact .inr rfl) : GoS X (.AugAssign (.Name n p) .Add e pos :: rest) D σ H :=
  GoS.cons (ps_aug hN hi hx pe_go ip_add hf) ⟨v, hσ, he F H (.refl s) _ fun w F2 H2 g r2 => ⟨x, y, r, r2, k _ F2 H2 g rfl⟩⟩
theorem go_augS {i : Nat} {x y : Int} {v : V} {n : Str} {p : Pos} (s : L2.Same F H) (hσ : σ[i]? = some (some v)) (r : rp X.K F v x) (he : Ev X e σ F H y) (k : ∀ v F' H', Gr F H F' H' → rp X.K F' v (x - y) → GoS X rest D (σ.set i (some v)) H') (hN : X.N.Nodup) (hi : X.N[i]? = some n := by rfl)
    (hx : Loc X.env.scope n := by first | exact Or.inl rfl | exact Or.inr rfl) (hf : X.fn n = true ∨ X.env.scope.names.lookup n = some .local := by first | exact .inl rfl | exact .inr rfl) : GoS X (.AugAssign (.Name n p) .Sub e pos :: rest) D σ H :=
  GoS.cons (ps_aug hN hi hx pe_go ip_sub hf) ⟨v, hσ, he F H (.refl s) _ fun w F2 H2 g r2 => ⟨x, y, r, r2, k _ F2 H2 g rfl⟩⟩
/-- a, b, .. = e -/
theorem go_unpack {α : Type} [Rp α] {x : α} {tg : Expr} {g : TG} (s : L2.Same F H) (he : Ev X e σ F H x) (hg : PG X tg g) (k : ∀ v F' H', Gr F H F' H' → rp X.K F' v x → ∀ Q : L2.St → Hp → Prop, (∀ σ' H'', GoS X rest D σ' H'' → Q σ' H'') → g v σ H' Q)
    (hs : swapsWithSole [tg] e pos.line X.env = pure false := by rfl) (hw : swappedStores [tg] e X.env = pure none := by rfl) (h1 : (assignEach [tg] X.env).map (·.2) = [assign tg X.env] := by rfl) : GoS X (.Assign [tg] e pos :: rest) D σ H :=
  GoS.cons (ps_asg pe_go hg hs hw h1) (he F H (.refl s) _ fun v F2 H2 g2 r => k v F2 H2 g2 r _ fun _ _ h => h)
end
end Gx

/-! Gd: more operations. -/
namespace Gx
open PySem PySem.Spec PyProof.Rows L2
open Rp (rp)
open Ra (ra)
open Ob (ob)
section
variable {X : Cx} {K : PySem.W.Frag} {e a b c d : Expr} {es : List Expr} {σ : L2.St} {F H F0 H0 : Hp} {pos : Pos} {D : Ends} {st : Stmt} {rest body : List Stmt}
theorem Rps.of_ints : ∀ ns : List Int, Rps K F (ns.map V.int) ns
  | [] => .nil
  | n :: ns => .cons rfl (Rps.of_ints ns)
theorem Rps.of_strs : ∀ ns : List Str, Rps K F (ns.map V.str) ns
  | [] => .nil
  | n :: ns => .cons rfl (Rps.of_strs ns)
class SN (α : Type) [Rp α] : Prop where
  sn : ∀ {K : PySem.W.Frag} {F : Hp} {v : V} {x : α}, rp K F v x → scal .non v = true ∧ scal v .non = true ∧ v ≠ .non
instance : SN Int := ⟨fun {K F v x} h => by
  have h : v = .int x := h
  subst h; exact ⟨rfl, rfl, fun e => nomatch e⟩⟩
instance : SN Str := ⟨fun {K F v x} h => by
  have h : v = .str x := h
  subst h; exact ⟨rfl, rfl, fun e => nomatch e⟩⟩
instance : SN Bool := ⟨fun {K F v x} h => by
  have h : v = .bl x := h
  subst h; exact ⟨rfl, rfl, fun e => nomatch e⟩⟩
instance {α : Type} [Rp α] [NN α] [DecidableEq α] [Sc α] [SN α] : Sc (Option α) := ⟨fun {K F v w x y} h1 h2 => by
  cases x with
  | none =>
    have h1 : v = .non := h1
    subst h1
    cases y with
    | none =>
      have h2 : w = .non := h2
      subst h2; exact ⟨rfl, rfl⟩
    | some y =>
      obtain ⟨s1, _, n1⟩ := SN.sn (α := α) h2
      exact ⟨s1, by rw [decide_eq_false (fun e => n1 e.symm)]; rfl⟩
  | some x =>
    cases y with
    | none =>
      have h2 : w = .non := h2
      subst h2
      obtain ⟨_, s2, n1⟩ := SN.sn (α := α) h1
      exact ⟨s2, by rw [decide_eq_false n1]; rfl⟩
    | some y =>
      obtain ⟨s1, s2⟩ := Sc.sc (α := α) h1 h2
      exact ⟨s1, by rw [s2]; simp⟩⟩
/-! ### kinds -/
inductive Kn (K : PySem.W.Frag) (H : Hp) : V → String → Prop
  | non : Kn K H .non "NoneType"
  | bl (b : Bool) : Kn K H (.bl b) "bool"
  | int (i : Int) : Kn K H (.int i) "int"
  | str (x : Str) : Kn K H (.str x) "str"
  | lst {a : Addr} {xs : List V} : SqL K H a xs → Kn K H (.ref a) "list"
  | tup {a : Addr} {xs : List V} : SqT K H a xs → Kn K H (.ref a) "tuple"
  | dK {a : Addr} {xs : List (Key × V)} : Rd H a (.dK xs) → Kn K H (.ref a) "dict"
  | dT {a : Addr} {xs : List (List Key × V)} : Rd H a (.dT xs) → Kn K H (.ref a) "dict"
def rIsK (K : PySem.W.Frag) : List V → Hp → VK → Prop := fun xs H Q => ∃ (x : V) (U T : String) (b : Bool), xs = [x, .ty T] ∧ Kn K H x U ∧ kitB U T = some b ∧ Q (.bl b) H
theorem call_isk : CallR X (.builtin "isinstance") (rIsK X.K) := by
  intro pins s σ H xs us Q I r h
  obtain ⟨x, U, T, b, rfl, k, e, q⟩ := h
  obtain ⟨u1, u2, rfl, r1, r2⟩ := vals2 r
  have e2 : u2 = .type T := r2
  subst e2
  have fin : ∀ {P : Heap → Prop}, PySem.W.KitX X.K u1 (.type U) P → P s.heap → u1 ≠ .builtin "__main__.__loader__#opaque" → wpAny (model X.prog X.w) X.A (call (.builtin "isinstance") [u1, .type T]) (EP X pins σ Q) X.xe s :=
    fun Z p hx => PySem.W.kia_one Z I.kIn p (kit_ty e) hx fun tk => ⟨.bl b, H, I.tok tk, rfl, q⟩
  cases k with
  | non => cases (show u1 = Value.none from r1); exact fin PySem.W.kitx_none True.intro (fun z => nomatch z)
  | bl y => cases (show u1 = Value.bool y from r1); exact fin PySem.W.kitx_bool True.intro (fun z => nomatch z)
  | int i => obtain ⟨t, q⟩ := (show ∃ t, u1 = Value.int i t from r1); cases q; exact fin PySem.W.kitx_int True.intro (fun z => nomatch z)
  | str i => obtain ⟨t, q⟩ := (show ∃ t, u1 = Value.str i t from r1); cases q; exact fin PySem.W.kitx_str True.intro (fun z => nomatch z)
  | lst sq =>
    rename_i a xs
    cases (show u1 = Value.ref a from r1)
    obtain ⟨its, rv, ⟨o, n, h1, h2, _⟩, _⟩ := I.list sq
    exact fin PySem.W.kitx_list ⟨o, h1, h2⟩ (fun z => nomatch z)
  | tup sq =>
    rename_i a xs
    cases (show u1 = Value.ref a from r1)
    obtain ⟨its, rv, ⟨o, h1, h2, _⟩, _⟩ := I.tuple sq
    exact fin PySem.W.kitx_tuple ⟨o, h1, h2⟩ (fun z => nomatch z)
  | dK ea =>
    rename_i a xs
    cases (show u1 = Value.ref a from r1)
    obtain ⟨_, _, vs, _, o, es, ep, h1, h2, _⟩ := (show ObjOk X.prog X.w H s.heap a (.dK xs) from ea.ok I.hok)
    exact fin PySem.W.kitx_dict ⟨o, h1, h2.1⟩ (fun z => nomatch z)
  | dT ea =>
    rename_i a xs
    cases (show u1 = Value.ref a from r1)
    obtain ⟨_, _, vs, _, o, es, ep, h1, h2, _⟩ := (show ObjOk X.prog X.w H s.heap a (.dT xs) from ea.ok I.hok)
    exact fin PySem.W.kitx_dict ⟨o, h1, h2.1⟩ (fun z => nomatch z)
class Kd (α : Type) [Rp α] where
  nm : String
  kd : ∀ {K : PySem.W.Frag} {F H : Hp} {v : V} {x : α}, L2.Same F H → rp K F v x → Kn K H v nm
instance : Kd Int := ⟨"int", fun {K F H v x} _ h => by
  have h : v = .int x := h
  subst h; exact .int _⟩
instance : Kd Bool := ⟨"bool", fun {K F H v x} _ h => by
  have h : v = .bl x := h
  subst h; exact .bl _⟩
instance : Kd Str := ⟨"str", fun {K F H v x} _ h => by
  have h : v = .str x := h
  subst h; exact .str _⟩
instance : Kd Unit := ⟨"NoneType", fun {K F H v x} _ h => by
  have h : v = .non := h
  subst h; exact .non⟩
instance {α : Type} [Rp α] : Kd (List α) := ⟨"list", fun s ⟨a, vs, e, sq, _⟩ => e ▸ .lst (s.seq sq)⟩
instance {α : Type} [Rp α] : Kd (Tp α) := ⟨"tuple", fun s ⟨a, vs, e, sq, _⟩ => e ▸ .tup (seqT_mono s sq)⟩
instance {α : Type} [Rp α] : Kd (Tn α) := ⟨"tuple", fun s ⟨a, vs, o, e, q, _, _, _⟩ => e ▸ .tup (.inl (.inr ⟨o, s _ _ q⟩))⟩
theorem rpT.kd {θ τ : Type} [Ra τ] {row : θ → τ} {F H : Hp} {v : V} {x : θ} (s : L2.Same F H) (h : rpT row K F v x) : Kn K H v "tuple" := by
  obtain ⟨a, vs, e, sq, _⟩ := h
  exact e ▸ .tup (seqT_mono s sq)
instance {α : Type} [Rp α] : Kd (T1 α) := ⟨"tuple", rpT.kd⟩
instance {α β : Type} [Rp α] [Rp β] : Kd (T2 α β) := ⟨"tuple", rpT.kd⟩
instance {α β γ : Type} [Rp α] [Rp β] [Rp γ] : Kd (T3 α β γ) := ⟨"tuple", rpT.kd⟩
instance {α β γ δ : Type} [Rp α] [Rp β] [Rp γ] [Rp δ] : Kd (T4 α β γ δ) := ⟨"tuple", rpT.kd⟩
instance {α β γ δ ε : Type} [Rp α] [Rp β] [Rp γ] [Rp δ] [Rp ε] : Kd (T5 α β γ δ ε) := ⟨"tuple", rpT.kd⟩
theorem goa2 {t1 t2 : TE} {Q : List V → Hp → Prop} (h1 : PE X a t1) (h2 : PE X b t2) (hs : starEach [a, b] X.env = (false, eval a X.env) :: starEach [b] X.env) (hs2 : starEach [b] X.env = (false, eval b X.env) :: starEach [] X.env) (q : t1 σ H fun v H1 => t2 σ H1 fun w H2 => Q [v, w] H2) : GoA X [a, b] σ H Q :=
  GoA.of (pa_cons h1 (pa_cons h2 pa_nil hs2) hs) q
theorem ev_isi {α : Type} [Rp α] [Kd α] {x : α} {T : String} {r : Bool} {p1 p2 : Pos} (h : kitB (Kd.nm α) T = some r) (hm : X.mg "isinstance" = none) (hT : X.mg (Str.ofString T) = none) (hv : bootBuiltins (Str.ofString T) = some (.type T)) (ha : Ev X a σ F H x)
    (hg : Gl X "isinstance" := by rfl) (hgT : Gl X (Str.ofString T) := by rfl) (hn : (Str.ofString T) ≠ "__name__" := by decide) (hd : ((Str.ofString T) == ("__debug__" : Str)) = false := by decide)
    (hs : starEach [a, .Name (Str.ofString T) p2] X.env = (false, eval a X.env) :: starEach [.Name (Str.ofString T) p2] X.env := by rfl) (hs2 : starEach [.Name (Str.ofString T) p2] X.env = (false, eval (.Name (Str.ofString T) p2) X.env) :: starEach [] X.env := by rfl)
    (hpl : (backTo pos (starEach [.Name (Str.ofString T) p2] X.env)).any (·.1) = false := by rfl) : Ev X (.Call (.Name "isinstance" p1) [a, .Name (Str.ofString T) p2] [] pos) σ F H r := fun F1 H1 g Q q =>
  GoE.of (pe_callB call_isk hg hm (by decide +kernel) (pa_cons pe_go (pa_cons (pe_bltn hgT hT hv (v := .ty T) rfl hn hd) pa_nil hs2) hs) (by decide) (by decide) hs hpl)
    (ha F1 H1 g _ fun v F2 H2 g2 r2 => ⟨v, _, T, r, rfl, Kd.kd g2.fh r2, h, q _ F2 H2 g2 rfl⟩)
theorem ev_isiO {α : Type} [Rp α] [NN α] [Kd α] {x : Option α} {T : String} {r : Bool} {p1 p2 : Pos} (h : kitB (Kd.nm α) T = some r) (h0 : kitB "NoneType" T = some false) (hm : X.mg "isinstance" = none) (hT : X.mg (Str.ofString T) = none) (hv : bootBuiltins (Str.ofString T) = some (.type T)) (ha : Ev X a σ F H x)
    (hg : Gl X "isinstance" := by rfl) (hgT : Gl X (Str.ofString T) := by rfl) (hn : (Str.ofString T) ≠ "__name__" := by decide) (hd : ((Str.ofString T) == ("__debug__" : Str)) = false := by decide)
    (hs : starEach [a, .Name (Str.ofString T) p2] X.env = (false, eval a X.env) :: starEach [.Name (Str.ofString T) p2] X.env := by rfl) (hs2 : starEach [.Name (Str.ofString T) p2] X.env = (false, eval (.Name (Str.ofString T) p2) X.env) :: starEach [] X.env := by rfl)
    (hpl : (backTo pos (starEach [.Name (Str.ofString T) p2] X.env)).any (·.1) = false := by rfl) : Ev X (.Call (.Name "isinstance" p1) [a, .Name (Str.ofString T) p2] [] pos) σ F H (x.isSome && r) := fun F1 H1 g Q q =>
  GoE.of (pe_callB call_isk hg hm (by decide +kernel) (pa_cons pe_go (pa_cons (pe_bltn hgT hT hv (v := .ty T) rfl hn hd) pa_nil hs2) hs) (by decide) (by decide) hs hpl)
    (ha F1 H1 g _ fun v F2 H2 g2 r2 => by
      cases x with
      | none =>
        have r2 : v = .non := r2
        subst r2
        exact ⟨_, _, T, false, rfl, .non, h0, q _ F2 H2 g2 rfl⟩
      | some x => exact ⟨v, _, T, r, rfl, Kd.kd (α := α) g2.fh r2, h, q _ F2 H2 g2 (by cases r <;> rfl)⟩)
/-! ### in -/
class Fv (α : Type) [Rp α] [DecidableEq α] : Prop where
  fv : ∀ {K : PySem.W.Frag} {F : Hp} {v : V} {x : α}, rp K F v x → flatV v = true
  ev : ∀ {K : PySem.W.Frag} {F : Hp} {v w : V} {x y : α}, rp K F v x → rp K F w y → eqV v w = decide (x = y)
instance : Fv Int := ⟨fun {K F v x} h => by
  have h : v = .int x := h
  subst h; rfl, fun {K F v w x y} h1 h2 => by
  have h1 : v = .int x := h1
  have h2 : w = .int y := h2
  subst h1; subst h2
  show (x == y) = _
  rw [Bool.beq_eq_decide_eq]⟩
instance : Fv Str := ⟨fun {K F v x} h => by
  have h : v = .str x := h
  subst h; rfl, fun {K F v w x y} h1 h2 => by
  have h1 : v = .str x := h1
  have h2 : w = .str y := h2
  subst h1; subst h2
  show (x == y) = _
  rw [Bool.beq_eq_decide_eq]⟩
theorem inV_eq {α : Type} [Rp α] [DecidableEq α] [Fv α] {v : V} {x : α} (h : rp K F v x) : ∀ {vs : List V} {xs : List α}, Rps K F vs xs → vs.all flatV = true ∧ inV v vs = decide (x ∈ xs)
  | _, _, .nil => ⟨rfl, by simp [inV]⟩
  | _, _, .cons (a := w) (b := y) (l₁ := vs) (l₂ := ys) r t => by
    obtain ⟨h1, h2⟩ := inV_eq h t
    refine ⟨by rw [List.all_cons, Fv.fv r, h1]; rfl, ?_⟩
    unfold inV at h2 ⊢
    rw [List.any_cons, h2, Fv.ev r h]
    by_cases e : x = y
    · subst e; simp
    · have e' : ¬ y = x := fun z => e z.symm
      simp [e, e']
theorem o2_inL {α : Type} [Rp α] [DecidableEq α] [Fv α] {x : α} {xs : List α} : Op2 K (rIn K false) x xs (decide (x ∈ xs)) := fun F H v w Q s rv ⟨p, vs, e, sq, rs⟩ k => by
  obtain ⟨h1, h2⟩ := inV_eq rv rs
  exact ⟨p, vs, e, .inl (s.seq sq), Fv.fv rv, h1, k _ F H (.refl s) (congrArg V.bl h2)⟩
theorem o2_notInL {α : Type} [Rp α] [DecidableEq α] [Fv α] {x : α} {xs : List α} : Op2 K (rIn K true) x xs (!decide (x ∈ xs)) := fun F H v w Q s rv ⟨p, vs, e, sq, rs⟩ k => by
  obtain ⟨h1, h2⟩ := inV_eq rv rs
  exact ⟨p, vs, e, .inl (s.seq sq), Fv.fv rv, h1, k _ F H (.refl s) (congrArg (fun t => V.bl (!t)) h2)⟩
theorem o2_inT {α θ : Type} [Rp α] [Rp θ] [TL θ α] [DecidableEq α] [Fv α] {x : α} {xs : θ} : Op2 K (rIn K false) x xs (decide (x ∈ TL.l xs)) := fun F H v w Q s rv r2 k => by
  obtain ⟨p, vs, e, sq, rs⟩ := TL.sq r2
  obtain ⟨h1, h2⟩ := inV_eq rv rs
  exact ⟨p, vs, e, .inr (sqT_mono s sq), Fv.fv rv, h1, k _ F H (.refl s) (congrArg V.bl h2)⟩
theorem o2_notInT {α θ : Type} [Rp α] [Rp θ] [TL θ α] [DecidableEq α] [Fv α] {x : α} {xs : θ} : Op2 K (rIn K true) x xs (!decide (x ∈ TL.l xs)) := fun F H v w Q s rv r2 k => by
  obtain ⟨p, vs, e, sq, rs⟩ := TL.sq r2
  obtain ⟨h1, h2⟩ := inV_eq rv rs
  exact ⟨p, vs, e, .inr (sqT_mono s sq), Fv.fv rv, h1, k _ F H (.refl s) (congrArg (fun t => V.bl (!t)) h2)⟩
/-! ### equal data -/
class Pd (α : Type) [Rp α] where
  toD : α → PyData
  dp : ∀ {K : PySem.W.Frag} {F : Hp} {v : V} {x : α}, rp K F v x → Dp K F v (toD x)
  eq : ∀ x y, PyData.eqv (toD x) (toD y) = true ↔ x = y
/-- all texts within are texts of signs that Python can have, and it is no deeper than 64 -/
def okD {α : Type} [Rp α] [Pd α] (x : α) : Bool := SeqAt.shaped (Pd.toD x)
class PdS (α : Type) [Rp α] [Pd α] where
  dep : Nat
  de : ∀ x : α, (Pd.toD x).depth ≤ dep
instance : Pd Int := ⟨.int, fun {K F v x} h => by
  have h : v = .int x := h
  subst h; exact .int x, fun x y => by simp [PyData.eqv]⟩
instance : Pd Str := ⟨.str, fun {K F v x} h => by
  have h : v = .str x := h
  subst h; exact .str x, fun x y => by simp [PyData.eqv]⟩
instance : Pd Bool := ⟨.bool, fun {K F v x} h => by
  have h : v = .bl x := h
  subst h; exact .bl x, fun x y => by simp [PyData.eqv]⟩
end
end Gx
namespace Gx
open PySem PySem.Spec PyProof.Rows L2
open Rp (rp)
open Ra (ra)
open Ob (ob)
section
variable {X : Cx} {K : PySem.W.Frag} {e a b c d : Expr} {es : List Expr} {σ : L2.St} {F H F0 H0 : Hp} {pos : Pos} {D : Ends} {st : Stmt} {rest body : List Stmt}
theorem et_chain {α β γ : Type} [Rp α] [Rp β] [Rp γ] {x : α} {y : β} {z : γ} {p q : Bool} {op op' : CmpOp} {r r' : R2} (ho : OpR X (compareOp op) r) (ho' : OpR X (compareOp op') r') (hr : Op2 X.K r x y p) (hr' : Op2 X.K r' y z q)
    (ha : Ev X a σ F H x) (hb : Ev X b σ F H y) (hc : Ev X c σ F H z) (hm : lastMarks [op, op'] [b, c] = false := by with_unfolding_all rfl) : EvT X (.Compare a [op, op'] [b, c] pos) σ F H (p && q) := fun F1 H1 g Q k =>
  GoT.of (pt_chain ho ho' pe_go pe_go pe_go hm) (ha F1 H1 g _ fun v F2 H2 g2 r2 => hb F2 H2 (g.trans g2) _ fun w F3 H3 g3 r3 => hr F3 H3 v w _ g3.fh (Rp.mono g3.ff r2) r3 fun u F4 H4 g4 r4 => by
    have r4 : u = .bl p := r4
    subst r4
    refine ⟨p, rfl, ?_⟩
    cases p with
    | true =>
      rw [if_pos rfl]
      exact hc F4 H4 (((g.trans g2).trans g3).trans g4) _ fun w' F5 H5 g5 r5 => hr' F5 H5 w w' _ g5.fh (Rp.mono (g4.ff.trans g5.ff) r3) r5 fun u' F6 H6 g6 r6 => by
        have r6 : u' = .bl q := r6
        subst r6
        exact ⟨q, rfl, k F6 H6 ((((g2.trans g3).trans g4).trans g5).trans g6)⟩
    | false =>
      rw [if_neg Bool.false_ne_true]
      exact ⟨false, rfl, k F4 H4 ((g2.trans g3).trans g4)⟩)
/-! ### copies, joins -/
theorem en_list_of {α : Type} [Rp α] {xs : List α} {p : Pos} (hm : X.mg "list" = none) (ha : Ev X a σ F H xs) (hg : Gl X "list" := by rfl) (hs : starEach [a] X.env = (false, eval a X.env) :: starEach [] X.env := by rfl) (hpl : (backTo pos (starEach [] X.env)).any (·.1) = false := by rfl) :
    EvN X (.Call (.Name "list" p) [a] [] pos) σ F H xs := fun F1 H1 g Q q =>
  GoE.of (pe_callTy call_list_of hg hm (by decide +kernel) (pa_cons pe_go pa_nil hs) (by decide) (by decide) hs hpl) (ha F1 H1 g _ fun v F2 H2 g2 ⟨p, vs, e, sq, rs⟩ => ⟨p, vs, by rw [e], .inl (g2.fh.seq sq), fun l hl => EvN.new q g2 hl rs⟩)
theorem en_list_tp {α θ : Type} [Rp α] [Rp θ] [TL θ α] {xs : θ} {p : Pos} (hm : X.mg "list" = none) (ha : Ev X a σ F H xs) (hg : Gl X "list" := by rfl) (hs : starEach [a] X.env = (false, eval a X.env) :: starEach [] X.env := by rfl) (hpl : (backTo pos (starEach [] X.env)).any (·.1) = false := by rfl) :
    EvN X (.Call (.Name "list" p) [a] [] pos) σ F H (TL.l xs) := fun F1 H1 g Q q =>
  GoE.of (pe_callTy call_list_of hg hm (by decide +kernel) (pa_cons pe_go pa_nil hs) (by decide) (by decide) hs hpl) (ha F1 H1 g _ fun v F2 H2 g2 r2 => let ⟨p, vs, e, sq, rs⟩ := TL.sq r2; ⟨p, vs, by rw [e], .inr (sqT_mono g2.fh sq), fun l hl => EvN.new q g2 hl rs⟩)
theorem oc_tuple {α : Type} [Rp α] {xs : List α} : OpC K (fun vs H Q => ∃ p ys, vs = [.ref p] ∧ ((SqL K H p ys ∧ ∀ l, H l = none → Q (.ref l) (upd H l (.tup ys))) ∨ (SqT K H p ys ∧ Q (.ref p) H))) (xs, ()) (Tp.mk xs) :=
  oc1 fun F H v Q s ⟨p, vs, e, sq, rs⟩ k => ⟨p, vs, by rw [e], .inl ⟨s.seq sq, fun l hl => k _ (upd F l (.tup vs)) _ (Gr.new s hl) ⟨l, vs, rfl, upd_same, rs.mono (same_upd (s.free hl))⟩⟩⟩
theorem oc_tupleT {α : Type} [Rp α] {xs : Tp α} : OpC K (fun vs H Q => ∃ p ys, vs = [.ref p] ∧ ((SqL K H p ys ∧ ∀ l, H l = none → Q (.ref l) (upd H l (.tup ys))) ∨ (SqT K H p ys ∧ Q (.ref p) H))) (xs, ()) xs :=
  oc1 fun F H v Q s ⟨p, vs, e, sq, rs⟩ k => ⟨p, vs, by rw [e], .inr ⟨seqT_mono s sq, k _ F H (.refl s) ⟨p, vs, rfl, sq, rs⟩⟩⟩
theorem oc_abs {i : Int} : OpC K (fun xs H Q => ∃ i, xs = [.int i] ∧ Q (.int (if i < 0 then -i else i)) H) (i, ()) (if i < 0 then -i else i) :=
  oc1 fun F H v Q s rv k => ⟨i, by rw [show v = .int i from rv], k _ F H (.refl s) rfl⟩
theorem oc_max2 {i j : Int} : OpC K (fun xs H Q => ∃ i j, xs = [.int i, .int j] ∧ Q (.int (if j > i then j else i)) H) (i, j, ()) (if j > i then j else i) :=
  oc2 fun F H v w Q s rv rw' k => ⟨i, j, by rw [show v = .int i from rv, show w = .int j from rw'], k _ F H (.refl s) rfl⟩
theorem oc_min2 {i j : Int} : OpC K (fun xs H Q => ∃ i j, xs = [.int i, .int j] ∧ Q (.int (if j < i then j else i)) H) (i, j, ()) (if j < i then j else i) :=
  oc2 fun F H v w Q s rv rw' k => ⟨i, j, by rw [show v = .int i from rv, show w = .int j from rw'], k _ F H (.refl s) rfl⟩
def rCatL (K : PySem.W.Frag) : R2 := fun x y H Q => ∃ a b xs ys, x = .ref a ∧ y = .ref b ∧ SqL K H a xs ∧ SqL K H b ys ∧ xs.length + ys.length ≤ sizeLine ∧ ∀ p, H p = none → Q (.ref p) (upd H p (.lst (xs ++ ys)))
theorem op_catL : OpR X (binaryOp .Add) (rCatL X.K) := by
  intro pins s σ H x y v u Q I rx ry h
  obtain ⟨a, b, xs, ys, rfl, rfl, ha, hb, hz, q⟩ := h
  cases rx
  cases ry
  obtain ⟨its, r, ⟨⟨cls, dd, data, sl⟩, n, ho, hc, _, hd⟩, _⟩ := I.list ha
  obtain ⟨its2, r2, ⟨⟨cls2, dd2, data2, sl2⟩, n2, ho2, hc2, _, hd2⟩, _⟩ := I.list hb
  simp only at hc hd hc2 hd2
  subst hc hd hc2 hd2
  have e : its.toArray ++ its2.toArray = (its ++ its2).toArray := by simp
  refine concat_meets ⟨_, ho, rfl⟩ ⟨_, ho2, rfl⟩ noFill_list_add seq_list_add PySem.F.slot_list_add PySem.F.entry_list_add (PySem.F.args_list_add_2 _ _) (list_addW a b its.toArray its2.toArray n n2 dd dd2 sl sl2 (by rw [List.size_toArray, List.size_toArray, ← r.length, ← r2.length]; exact hz)) ⟨ho, ho2, ?_⟩
  rw [e]
  exact ⟨.ref _, _, I.lnew (t' := s.toks) (r.append r2) (by rw [List.length_append]; exact hz), rfl, q _ I.fresh⟩
def catG {α : Type} (xs ys : List α) : Option (List α) := if xs.length + ys.length ≤ sizeLine then some (xs ++ ys) else none
theorem en_cat {α : Type} [Rp α] {xs ys r : List α} (ha : Ev X a σ F H xs) (hb : Ev X b σ F H ys) (h : catG xs ys = some r) : EvN X (.BinOp a .Add b pos) σ F H r := fun F1 H1 g Q q =>
  GoE.of (pe_op op_catL pe_go pe_go) (ha F1 H1 g _ fun v F2 H2 g2 r2 => hb F2 H2 (g.trans g2) _ fun w F3 H3 g3 ⟨p', vs', e', sq', rs'⟩ => by
    obtain ⟨p, vs, e, sq, rs⟩ := Rp.mono g3.ff r2
    unfold catG at h
    split at h
    · rename_i hz
      cases (Option.some.inj h)
      exact ⟨p, p', vs, vs', e, e', g3.fh.seq sq, g3.fh.seq sq', by rw [rs.length, rs'.length]; exact hz, fun l hl => EvN.new q (g2.trans g3) hl (Rps.append rs rs')⟩
    · cases h)
def catT {α : Type} (xs ys : Tp α) : Option (Tp α) := if xs.l.length + ys.l.length ≤ sizeLine then some ⟨xs.l ++ ys.l⟩ else none
theorem Rps.nil_r {α : Type} [Rp α] : ∀ {vs : List V} {xs : List α}, Rps K F vs xs → (vs = [] ↔ xs = [])
  | _, _, .nil => by simp
  | _, _, .cons _ _ => by simp
theorem o2_catT {α : Type} [Rp α] {xs ys r : Tp α} (h : catT xs ys = some r) : Op2 K (rCatA K) xs ys r := fun F H v w Q s ⟨p, vs, e, sq, rs⟩ ⟨p', vs', e', sq', rs'⟩ k => by
  unfold catT at h
  split at h
  · rename_i hz
    cases (Option.some.inj h)
    refine ⟨p, p', vs, vs', e, e', seqT_mono s sq, seqT_mono s sq', by rw [rs.length, rs'.length]; exact hz, fun e0 => ?_, fun _ e0 => ?_, fun _ _ l hl => ?_⟩
    · refine k _ F H (.refl s) ⟨p', vs', rfl, sq', ?_⟩
      rw [rs.nil_r.mp e0]; exact rs'
    · refine k _ F H (.refl s) ⟨p, vs, rfl, sq, ?_⟩
      rw [rs'.nil_r.mp e0, List.append_nil]; exact rs
    · exact k _ (upd F l (.tup (vs ++ vs'))) _ (Gr.new s hl) ⟨l, _, rfl, upd_same, (Rps.append rs rs').mono (same_upd (s.free hl))⟩
  · cases h
theorem ev_catT {α : Type} [Rp α] {xs ys r : Tp α} (ha : Ev X a σ F H xs) (hb : Ev X b σ F H ys) (h : catT xs ys = some r) : Ev X (.BinOp a .Add b pos) σ F H r := ev_bin op_catA (o2_catT h) ha hb
theorem ev_sliceT {α : Type} [Rp α] {xs : Tp α} {lo hi : Option Expr} {i j : Option Int} {p2 : Pos} (ha : Ev X a σ F H xs) (hl : EvO X lo σ F H i) (hh : EvO X hi σ F H j) : Ev X (.Subscript a (.Slice lo hi none p2) pos) σ F H (Tp.mk (cut xs.l i j)) := fun F1 H1 g Q q =>
  GoE.of (pe_slice sl_tupA pe_go po_go po_go) (ha F1 H1 g _ fun v F2 H2 g2 r2 => hl F2 H2 (g.trans g2) _ fun F3 H3 g3 => hh F3 H3 ((g.trans g2).trans g3) _ fun F4 H4 g4 => by
    obtain ⟨p, vs, rfl, sq, rs⟩ := Rp.mono (g3.ff.trans g4.ff) r2
    refine ⟨p, vs, rfl, seqT_mono g4.fh sq, fun hw => ?_, fun _ l hl => ?_⟩
    · refine q _ F4 H4 ((g2.trans g3).trans g4) ⟨p, vs, rfl, sq, ?_⟩
      have hw' : HT.sIx xs.l.length 0 i = 0 ∧ HT.sIx xs.l.length xs.l.length j = xs.l.length := by rw [← rs.length]; exact hw
      show Rps _ _ vs (cut xs.l i j)
      unfold cut
      rw [hw'.1, hw'.2]
      simpa using rs
    · exact q _ (upd F4 l (.tup _)) _ (((g2.trans g3).trans g4).trans (Gr.new g4.fh hl)) ⟨l, _, rfl, upd_same, (rs.cut i j).mono (same_upd (g4.fh.free hl))⟩)
end
end Gx

/-! Gm: facts of the mirrors' operations. -/
namespace Gx
open PySem PySem.Spec PyProof.Rows L2
/-- a text of signs -/
abbrev S (l : List Nat) : Str := ⟨l.toArray⟩
theorem S_tl (x : Str) : S x.cps.toList = x := TL.mk_tl x
theorem S_len (a : List Nat) : (S a).length = a.length := by simp [S, Str.length]
theorem szl : sizeLine = 16777216 := PySem.sizeLine_eq
theorem len_cl (z : Str) : z.length = z.cps.toList.length := by simp [Str.length]
theorem atI_ok {α : Type} {xs : List α} {i : Int} (h0 : 0 ≤ i) (h1 : i < xs.length) : ∃ v, L2.atI xs i = some v ∧ xs[i.toNat]? = some v := by
  have hl : i.toNat < xs.length := by omega
  refine ⟨xs[i.toNat], ?_, List.getElem?_eq_getElem hl⟩
  unfold L2.atI ixN
  rw [if_pos h0, if_pos h1]
  exact List.getElem?_eq_getElem hl
theorem atI_nn {α : Type} {xs : List α} {i : Int} (h0 : 0 ≤ i) : L2.atI xs i = xs[i.toNat]? := by
  unfold L2.atI ixN
  rw [if_pos h0]
  by_cases h1 : i < xs.length
  · rw [if_pos h1]; rfl
  · rw [if_neg h1, List.getElem?_eq_none (by omega)]; rfl
theorem cut_len {α : Type} (xs : List α) (i j : Option Int) : (cut xs i j).length ≤ xs.length := by
  unfold cut
  rw [List.length_take, List.length_drop]; omega
theorem sCut_ok {z : Str} (h : z.length ≤ sizeLine) (i j : Option Int) : ∃ r, sCut z i j = some r ∧ r.length ≤ z.length ∧ r.cps.toList = cut z.cps.toList i j := by
  refine ⟨cutS z i j, if_pos h, ?_, ?_⟩
  · unfold cutS
    rw [len_cl, len_cl]
    simp only [List.length_take, List.length_drop]
    omega
  · unfold cutS cut
    rw [len_cl]
theorem sLen_ok {z : Str} (h : z.length ≤ sizeLine) : sLen z = some (z.length : Int) := if_pos h
theorem app_len (a b : Str) : (a ++ b).length = a.length + b.length := by
  have e := TL.tl_append a b
  have e2 : (a ++ b).cps.toList = a.cps.toList ++ b.cps.toList := e
  rw [len_cl, e2, List.length_append, ← len_cl, ← len_cl]
theorem app_cl (a b : Str) : (a ++ b).cps.toList = a.cps.toList ++ b.cps.toList := TL.tl_append a b
theorem sAdd_ok {a b : Str} (h : a.length + b.length ≤ sizeLine) : sAdd a b = some (a ++ b) := if_pos h
theorem sOfI_ok {n : Int} (h0 : 0 ≤ n) (h1 : n < 10 ^ 18) : ∃ r, sOfI n = some r ∧ r.length ≤ 18 ∧ r.cps.toList = TL.numL n.toNat := by
  have e : (n.toNat : Int) = n := Int.toNat_of_nonneg h0
  refine ⟨Str.ofString (toString n), if_pos ?_, ?_, ?_⟩
  · have h2 : n.natAbs < 2 ^ 1920 := by
      have : (10 : Nat) ^ 18 ≤ 2 ^ 1920 := by decide +kernel
      omega
    by_cases hz : n.natAbs = 0
    · rw [hz]; decide
    · exact (Nat.log2_lt hz).mpr h2
  · rw [len_cl]
    have e2 : (Str.ofString (toString n)).cps.toList = TL.numL n.toNat := by rw [← e]; exact TL.tl_num _
    rw [e2]
    exact TL.numL_len (by decide) (by omega)
  · rw [← e]; exact TL.tl_num _
theorem rep_fold (xs : Array Nat) : ∀ (n : Nat) (acc : Array Nat), ((List.replicate n xs).foldl (· ++ ·) acc).size = acc.size + n * xs.size
  | 0, acc => by simp
  | n + 1, acc => by
    rw [List.replicate_succ, List.foldl_cons, rep_fold xs n, Array.size_append, Nat.succ_mul]; omega
theorem sMul_ok {z : Str} {n : Int} (h0 : 0 ≤ n) (h1 : n ≤ 1000) (h2 : z.length ≤ 1000) : ∃ r, sMul z n = some r ∧ r.length ≤ z.length * n.toNat := by
  have hb : z.length * n.toNat ≤ 1000 * 1000 := Nat.mul_le_mul h2 (by omega)
  refine ⟨Txt.mul z n, if_pos ⟨by omega, by omega, by omega⟩, ?_⟩
  · unfold Txt.mul
    split
    · exact Nat.zero_le _
    · split
      · rename_i hh
        rcases Bool.or_eq_true_iff.mp hh with h | h
        · have : n = 1 := by simpa using h
          subst this; simp
        · have : z.length = 0 := by simpa using h
          rw [this]; exact Nat.zero_le _
      · show (Array.size _) ≤ _
        rw [rep_fold]
        show 0 + n.toNat * z.cps.size ≤ z.length * n.toNat
        rw [Nat.zero_add, Nat.mul_comm]
        exact Nat.le_refl _
/-! ### loops -/
theorem loopN_inv {α β : Type} {st : β → α → Option β} (J : β → List α → Prop) : ∀ (xs : List α) (b : β), J b xs → (∀ b x ys, J b (x :: ys) → ∃ b', st b x = some b' ∧ J b' ys) → ∃ b', loopN st b xs = some b' ∧ J b' []
  | [], b, h, _ => ⟨b, rfl, h⟩
  | x :: xs, b, h, hs => by
    obtain ⟨b', e, h'⟩ := hs b x xs h
    obtain ⟨b2, e2, h2⟩ := loopN_inv J xs b' h' hs
    exact ⟨b2, by unfold loopN; rw [e]; exact e2, h2⟩
theorem loopN_cons {α β : Type} {st : β → α → Option β} {b b' : β} {x : α} {xs : List α} (h : st b x = some b') : loopN st b (x :: xs) = loopN st b' xs := by
  unfold loopN; rw [h]
  cases xs <;> rfl
theorem loopM_nx {α β ρ : Type} {st : β → α → Option (Lp β ρ)} {b b' : β} {x : α} {xs : List α} (h : st b x = some (.nx b')) : loopM st b (x :: xs) = loopM st b' xs := by
  rw [loopM, h]
theorem loopM_rt {α β ρ : Type} {st : β → α → Option (Lp β ρ)} {b : β} {r : ρ} {x : α} {xs : List α} (h : st b x = some (.rt r)) : loopM st b (x :: xs) = some (.rt r) := by
  rw [loopM, h]
theorem compM_map {α γ : Type} {f : α → Option (Option γ)} {g : α → γ} : ∀ {xs : List α}, (∀ x ∈ xs, f x = some (some (g x))) → compM f xs = some (xs.map g)
  | [], _ => rfl
  | x :: xs, h => by
    rw [compM, h x List.mem_cons_self, compM_map fun y hy => h y (List.mem_cons_of_mem _ hy)]
    rfl
theorem compM_filter {α γ : Type} {f : α → Option (Option γ)} {p : α → Bool} {g : α → γ} : ∀ {xs : List α}, (∀ x ∈ xs, f x = some (if p x then some (g x) else none)) → compM f xs = some ((xs.filter p).map g)
  | [], _ => rfl
  | x :: xs, h => by
    rw [compM, h x List.mem_cons_self, compM_filter fun y hy => h y (List.mem_cons_of_mem _ hy)]
    cases e : p x with
    | true => simp [e]
    | false => simp [e]
theorem compG_map {α γ : Type} {f : α → Option (Option γ)} {g : α → γ} {xs : List α} (hl : xs.length ≤ sizeLine) (h : ∀ x ∈ xs, f x = some (some (g x))) : compG f xs = some (xs.map g) := by
  unfold compG; rw [if_pos hl]; exact compM_map h
theorem compG_filter {α γ : Type} {f : α → Option (Option γ)} {p : α → Bool} {g : α → γ} {xs : List α} (hl : xs.length ≤ sizeLine) (h : ∀ x ∈ xs, f x = some (if p x then some (g x) else none)) : compG f xs = some ((xs.filter p).map g) := by
  unfold compG; rw [if_pos hl]; exact compM_filter h
theorem int_S {a : List Nat} (h : ∀ c ∈ a, 48 ≤ c ∧ c ≤ 57) (hne : a ≠ []) (hl : a.length ≤ 4300) : PySem.intText? (S a) = some ((NumText.digitsVal a : Nat) : Int) :=
  SX.int_S (List.all_eq_true.mpr fun c hc => by rw [decide_eq_true (h c hc).1, decide_eq_true (h c hc).2]; rfl) hne hl
end Gx

/-! Ge: data compared, walks over pairs, places. -/
namespace Gx
open PySem PySem.Spec PyProof.Rows L2 RZ RT
open Rp (rp)
open Ra (ra)
open Ob (ob)
section
variable {X : Cx} {K : PySem.W.Frag} {e a b c d : Expr} {es : List Expr} {σ : L2.St} {F H F0 H0 : Hp} {pos : Pos} {D : Ends} {st : Stmt} {rest body : List Stmt}
theorem Dp.all {α : Type} [Rp α] [Pd α] : ∀ {vs : List V} {xs : List α}, Rps K F vs xs → DpAll K F vs (xs.map Pd.toD)
  | _, _, .nil => .nil
  | _, _, .cons r t => .cons (Pd.dp r) (Dp.all t)
theorem eqvAll_iff {α : Type} [Rp α] [Pd α] : ∀ xs ys : List α, PyData.eqvAll (xs.map Pd.toD) (ys.map Pd.toD) = true ↔ xs = ys
  | [], [] => by simp [PyData.eqvAll]
  | [], _ :: _ => by simp [PyData.eqvAll]
  | _ :: _, [] => by simp [PyData.eqvAll]
  | x :: xs, y :: ys => by
    rw [List.map_cons, List.map_cons, PyData.eqvAll, Bool.and_eq_true, Pd.eq, eqvAll_iff xs ys, List.cons.injEq]
instance {α : Type} [Rp α] [Pd α] : Pd (List α) := ⟨fun xs => .list (xs.map Pd.toD), fun ⟨a, vs, e, sq, rs⟩ => e ▸ .lst sq (Dp.all rs), fun x y => by rw [PyData.eqv]; exact eqvAll_iff x y⟩
instance {α : Type} [Rp α] [Pd α] : Pd (Tp α) := ⟨fun xs => .tuple (xs.l.map Pd.toD), fun ⟨a, vs, e, sq, rs⟩ => e ▸ .tup (SqT.of sq) (Dp.all rs), fun x y => by
  rw [PyData.eqv]
  cases x; cases y
  rw [eqvAll_iff, Tp.mk.injEq]⟩
class PdR (τ : Type) [Ra τ] where
  toR : τ → List PyData
  dp : ∀ {K : PySem.W.Frag} {F : Hp} {vs : List V} {x : τ}, ra K F vs x → DpAll K F vs (toR x)
  eq : ∀ x y, PyData.eqvAll (toR x) (toR y) = true ↔ x = y
instance : PdR Unit := ⟨fun _ => [], fun {K F vs x} h => by
  have h : vs = [] := h
  subst h; exact .nil, fun x y => by simp [PyData.eqvAll]⟩
instance {α τ : Type} [Rp α] [Ra τ] [Pd α] [PdR τ] : PdR (α × τ) := ⟨fun x => Pd.toD x.1 :: PdR.toR x.2, fun ⟨v, r, e, p, q⟩ => e ▸ .cons (Pd.dp p) (PdR.dp q), fun x y => by
  rw [PyData.eqvAll, Bool.and_eq_true, Pd.eq, PdR.eq, Prod.ext_iff]⟩
theorem rpT.dp {θ τ : Type} [Ra τ] [PdR τ] {row : θ → τ} {F : Hp} {v : V} {x : θ} : rpT row K F v x → Dp K F v (.tuple (PdR.toR (row x))) := fun ⟨a, vs, e, sq, rs⟩ => e ▸ .tup (SqT.of sq) (PdR.dp rs)
theorem rowEq {θ τ : Type} [Ra τ] [PdR τ] {row : θ → τ} (inj : ∀ x y, row x = row y ↔ x = y) (x y : θ) : PyData.eqv (.tuple (PdR.toR (row x))) (.tuple (PdR.toR (row y))) = true ↔ x = y := by
  rw [PyData.eqv, PdR.eq]; exact inj x y
instance {α : Type} [Rp α] [Pd α] : Pd (T1 α) := ⟨fun x => .tuple (PdR.toR x.row), rpT.dp, rowEq fun x y => by cases x; cases y; simp [T1.row]⟩
instance {α β : Type} [Rp α] [Rp β] [Pd α] [Pd β] : Pd (T2 α β) := ⟨fun x => .tuple (PdR.toR x.row), rpT.dp, rowEq fun x y => by cases x; cases y; simp [T2.row]⟩
instance {α β γ : Type} [Rp α] [Rp β] [Rp γ] [Pd α] [Pd β] [Pd γ] : Pd (T3 α β γ) := ⟨fun x => .tuple (PdR.toR x.row), rpT.dp, rowEq fun x y => by cases x; cases y; simp [T3.row]⟩
instance {α β γ δ : Type} [Rp α] [Rp β] [Rp γ] [Rp δ] [Pd α] [Pd β] [Pd γ] [Pd δ] : Pd (T4 α β γ δ) := ⟨fun x => .tuple (PdR.toR x.row), rpT.dp, rowEq fun x y => by cases x; cases y; simp [T4.row]⟩
instance {α β γ δ ε : Type} [Rp α] [Rp β] [Rp γ] [Rp δ] [Rp ε] [Pd α] [Pd β] [Pd γ] [Pd δ] [Pd ε] : Pd (T5 α β γ δ ε) := ⟨fun x => .tuple (PdR.toR x.row), rpT.dp, rowEq fun x y => by cases x; cases y; simp [T5.row]⟩
class PdO (α : Type) [Rp α] [Pd α] : Prop where
  nn : ∀ x : α, Pd.toD x ≠ .none
instance : PdO Int := ⟨fun _ h => nomatch h⟩
instance : PdO Str := ⟨fun _ h => nomatch h⟩
instance : PdO Bool := ⟨fun _ h => nomatch h⟩
instance {α : Type} [Rp α] [Pd α] : PdO (List α) := ⟨fun _ h => nomatch h⟩
instance {α : Type} [Rp α] [Pd α] : PdO (Tp α) := ⟨fun _ h => nomatch h⟩
instance {α β : Type} [Rp α] [Rp β] [Pd α] [Pd β] : PdO (T2 α β) := ⟨fun _ h => nomatch h⟩
instance {α β γ : Type} [Rp α] [Rp β] [Rp γ] [Pd α] [Pd β] [Pd γ] : PdO (T3 α β γ) := ⟨fun _ h => nomatch h⟩
theorem eqv_nl {d : PyData} : PyData.eqv .none d = true → d = .none := by cases d <;> simp [PyData.eqv]
theorem eqv_nr {d : PyData} : PyData.eqv d .none = true → d = .none := by cases d <;> simp [PyData.eqv]
def optD {α : Type} [Rp α] [Pd α] : Option α → PyData
  | none => .none
  | some x => Pd.toD x
instance {α : Type} [Rp α] [NN α] [Pd α] [PdO α] : Pd (Option α) := ⟨optD, fun {K F v x} h => by
  cases x with
  | none =>
    have h : v = .non := h
    subst h; exact .non
  | some x => exact Pd.dp (α := α) h, fun x y => by
  cases x with
  | none =>
    cases y with
    | none => simp [optD, PyData.eqv]
    | some y =>
      constructor
      · intro h; exact absurd (eqv_nl h) (PdO.nn y)
      · intro h; cases h
  | some x =>
    cases y with
    | none =>
      constructor
      · intro h; exact absurd (eqv_nr h) (PdO.nn x)
      · intro h; cases h
    | some y => simp [optD, Pd.eq]⟩
/-- static depth, no texts -/
class PdF (α : Type) [Rp α] [Pd α] : Prop where
  ok : ∀ x : α, (Pd.toD x).canLay0 = true
instance : PdS Int := ⟨0, fun _ => by simp [Pd.toD, PyData.depth]⟩
instance : PdS Str := ⟨0, fun _ => by simp [Pd.toD, PyData.depth]⟩
instance : PdS Bool := ⟨0, fun _ => by simp [Pd.toD, PyData.depth]⟩
theorem dpAll_le {α : Type} [Rp α] [Pd α] [PdS α] : ∀ xs : List α, PyData.depthAll (xs.map Pd.toD) ≤ PdS.dep α
  | [] => by simp [PyData.depthAll]
  | x :: xs => by
    rw [List.map_cons, PyData.depthAll]
    exact Nat.max_le.mpr ⟨PdS.de x, dpAll_le xs⟩
instance {α : Type} [Rp α] [Pd α] [PdS α] : PdS (List α) := ⟨PdS.dep α + 1, fun x => by
  show (PyData.depthAll (x.map Pd.toD)) + 1 ≤ _
  exact Nat.succ_le_succ (dpAll_le x)⟩
instance {α : Type} [Rp α] [Pd α] [PdS α] : PdS (Tp α) := ⟨PdS.dep α + 1, fun x => by
  show (PyData.depthAll (x.l.map Pd.toD)) + 1 ≤ _
  exact Nat.succ_le_succ (dpAll_le x.l)⟩
class PdRS (τ : Type) [Ra τ] [PdR τ] where
  dep : Nat
  de : ∀ x : τ, PyData.depthAll (PdR.toR x) ≤ dep
instance : PdRS Unit := ⟨0, fun _ => by simp [PdR.toR, PyData.depthAll]⟩
instance {α τ : Type} [Rp α] [Ra τ] [Pd α] [PdR τ] [PdS α] [PdRS τ] : PdRS (α × τ) := ⟨max (PdS.dep α) (PdRS.dep τ), fun x => by
  show max (PyData.depth _) (PyData.depthAll _) ≤ _
  have h1 := PdS.de x.1
  have h2 := PdRS.de x.2
  omega⟩
instance {α : Type} [Rp α] [Pd α] [PdS α] : PdS (T1 α) := ⟨PdRS.dep (α × Unit) + 1, fun x => Nat.succ_le_succ (PdRS.de x.row)⟩
instance {α β : Type} [Rp α] [Rp β] [Pd α] [Pd β] [PdS α] [PdS β] : PdS (T2 α β) := ⟨PdRS.dep (α × β × Unit) + 1, fun x => Nat.succ_le_succ (PdRS.de x.row)⟩
instance {α β γ : Type} [Rp α] [Rp β] [Rp γ] [Pd α] [Pd β] [Pd γ] [PdS α] [PdS β] [PdS γ] : PdS (T3 α β γ) := ⟨PdRS.dep (α × β × γ × Unit) + 1, fun x => Nat.succ_le_succ (PdRS.de x.row)⟩
instance {α β γ δ : Type} [Rp α] [Rp β] [Rp γ] [Rp δ] [Pd α] [Pd β] [Pd γ] [Pd δ] [PdS α] [PdS β] [PdS γ] [PdS δ] : PdS (T4 α β γ δ) := ⟨PdRS.dep (α × β × γ × δ × Unit) + 1, fun x => Nat.succ_le_succ (PdRS.de x.row)⟩
instance {α β γ δ ε : Type} [Rp α] [Rp β] [Rp γ] [Rp δ] [Rp ε] [Pd α] [Pd β] [Pd γ] [Pd δ] [Pd ε] [PdS α] [PdS β] [PdS γ] [PdS δ] [PdS ε] : PdS (T5 α β γ δ ε) := ⟨PdRS.dep (α × β × γ × δ × ε × Unit) + 1, fun x => Nat.succ_le_succ (PdRS.de x.row)⟩
instance {α : Type} [Rp α] [NN α] [Pd α] [PdO α] [PdS α] : PdS (Option α) := ⟨PdS.dep α, fun x => by
  cases x with
  | none => exact Nat.zero_le _
  | some x => exact PdS.de x⟩
instance : PdF Int := ⟨fun _ => by simp [Pd.toD, PyData.canLay0]⟩
instance : PdF Bool := ⟨fun _ => by simp [Pd.toD, PyData.canLay0]⟩
theorem layAll {α : Type} [Rp α] [Pd α] : ∀ {xs : List α}, (∀ x ∈ xs, (Pd.toD x).canLay0 = true) → PyData.canLayAll0 (xs.map Pd.toD) = true
  | [], _ => by simp [PyData.canLayAll0]
  | x :: xs, h => by
    rw [List.map_cons, PyData.canLayAll0, h x List.mem_cons_self, layAll fun y hy => h y (List.mem_cons_of_mem _ hy)]; rfl
instance {α : Type} [Rp α] [Pd α] [PdF α] : PdF (List α) := ⟨fun x => layAll fun y _ => PdF.ok y⟩
instance {α : Type} [Rp α] [Pd α] [PdF α] : PdF (Tp α) := ⟨fun x => layAll fun y _ => PdF.ok y⟩
class PdRF (τ : Type) [Ra τ] [PdR τ] : Prop where
  ok : ∀ x : τ, PyData.canLayAll0 (PdR.toR x) = true
instance : PdRF Unit := ⟨fun _ => by simp [PdR.toR, PyData.canLayAll0]⟩
instance {α τ : Type} [Rp α] [Ra τ] [Pd α] [PdR τ] [PdF α] [PdRF τ] : PdRF (α × τ) := ⟨fun x => by
  show (PyData.canLay0 _ && PyData.canLayAll0 _) = true
  rw [PdF.ok, PdRF.ok]; rfl⟩
instance {α : Type} [Rp α] [Pd α] [PdF α] : PdF (T1 α) := ⟨fun x => PdRF.ok x.row⟩
instance {α β : Type} [Rp α] [Rp β] [Pd α] [Pd β] [PdF α] [PdF β] : PdF (T2 α β) := ⟨fun x => PdRF.ok x.row⟩
instance {α β γ : Type} [Rp α] [Rp β] [Rp γ] [Pd α] [Pd β] [Pd γ] [PdF α] [PdF β] [PdF γ] : PdF (T3 α β γ) := ⟨fun x => PdRF.ok x.row⟩
instance {α β γ δ : Type} [Rp α] [Rp β] [Rp γ] [Rp δ] [Pd α] [Pd β] [Pd γ] [Pd δ] [PdF α] [PdF β] [PdF γ] [PdF δ] : PdF (T4 α β γ δ) := ⟨fun x => PdRF.ok x.row⟩
instance {α β γ δ ε : Type} [Rp α] [Rp β] [Rp γ] [Rp δ] [Rp ε] [Pd α] [Pd β] [Pd γ] [Pd δ] [Pd ε] [PdF α] [PdF β] [PdF γ] [PdF δ] [PdF ε] : PdF (T5 α β γ δ ε) := ⟨fun x => PdRF.ok x.row⟩
instance {α : Type} [Rp α] [NN α] [Pd α] [PdO α] [PdF α] : PdF (Option α) := ⟨fun x => by
  cases x with
  | none => rfl
  | some x => exact PdF.ok x⟩
theorem okD_of {α : Type} [Rp α] [Pd α] [PdS α] (hd : PdS.dep α ≤ 64) {x : α} (h : (Pd.toD x).canLay0 = true) : okD x = true := by
  unfold okD SeqAt.shaped
  rw [h, decide_eq_true (Nat.le_trans (PdS.de x) hd)]; rfl
theorem okD_F {α : Type} [Rp α] [Pd α] [PdS α] [PdF α] (x : α) (hd : PdS.dep α ≤ 64 := by decide) : okD x = true := okD_of hd (PdF.ok x)
/-- x == y of data -/
def eqG {α : Type} [Rp α] [Pd α] [DecidableEq α] (x y : α) : Option Bool := if (okD x && okD y) = true then some (decide (x = y)) else none
theorem eqG_ok {α : Type} [Rp α] [Pd α] [DecidableEq α] {x y : α} (h1 : okD x = true) (h2 : okD y = true) : eqG x y = some (decide (x = y)) := by
  unfold eqG; rw [h1, h2]; rfl
theorem eqG_F {α : Type} [Rp α] [Pd α] [PdS α] [PdF α] [DecidableEq α] (x y : α) (hd : PdS.dep α ≤ 64 := by decide) : eqG x y = some (decide (x = y)) := eqG_ok (okD_F x hd) (okD_F y hd)
theorem eqG_of {α : Type} [Rp α] [Pd α] [DecidableEq α] {x y : α} {r : Bool} (h : eqG x y = some r) : okD x = true ∧ okD y = true ∧ decide (x = y) = r := by
  unfold eqG at h; split at h
  · rename_i h1
    obtain ⟨h1, h2⟩ := Bool.and_eq_true_iff.mp h1
    exact ⟨h1, h2, Option.some.inj h⟩
  · cases h
theorem eqv_dec {α : Type} [Rp α] [Pd α] [DecidableEq α] (x y : α) : PyData.eqv (Pd.toD x) (Pd.toD y) = decide (x = y) := by
  have h := Pd.eq x y
  cases q : PyData.eqv (Pd.toD x) (Pd.toD y) with
  | true => exact (decide_eq_true (h.mp q)).symm
  | false => exact (decide_eq_false fun e => by rw [h.mpr e] at q; cases q).symm
theorem dp_mono {v : V} {d : PyData} (s : L2.Same F H) : ∀ {d : PyData} {v : V}, Dp K F v d → Dp K H v d := by
  intro d v h
  exact Dp.rec (motive_1 := fun v d _ => Dp K H v d) (motive_2 := fun vs ds _ => DpAll K H vs ds) .non .bl .int .str (fun q _ ih => .lst (s.seq q) ih) (fun q _ ih => .tup (sqT_mono s q) ih) .nil (fun _ _ i1 i2 => .cons i1 i2) h
theorem o2_eqD {α : Type} [Rp α] [Pd α] [DecidableEq α] {x y : α} {r : Bool} (h : eqG x y = some r) : Op2 K (rEqD K) x y r := fun F H v w Q s rv rw' k => by
  obtain ⟨h1, h2, h3⟩ := eqG_of h
  exact ⟨_, _, Pd.dp (Rp.mono s rv), Pd.dp (Rp.mono s rw'), h1, h2, k _ F H (.refl s) (congrArg V.bl ((eqv_dec x y).trans h3))⟩
theorem o2_neD {α : Type} [Rp α] [Pd α] [DecidableEq α] {x y : α} {r : Bool} (h : eqG x y = some r) : Op2 K (rNeD K) x y (!r) := fun F H v w Q s rv rw' k => by
  obtain ⟨h1, h2, h3⟩ := eqG_of h
  exact ⟨_, _, Pd.dp (Rp.mono s rv), Pd.dp (Rp.mono s rw'), h1, h2, k _ F H (.refl s) (congrArg (fun t => V.bl (!t)) ((eqv_dec x y).trans h3))⟩
/-- x in a list or tuple of data -/
def inG {α : Type} [Rp α] [Pd α] [DecidableEq α] (x : α) (xs : List α) : Option Bool := if (okD x && okD xs) = true then some (decide (x ∈ xs)) else none
theorem inG_of {α : Type} [Rp α] [Pd α] [DecidableEq α] {x : α} {xs : List α} {r : Bool} (h : inG x xs = some r) : okD x = true ∧ okD xs = true ∧ decide (x ∈ xs) = r := by
  unfold inG at h; split at h
  · rename_i h1
    obtain ⟨h1, h2⟩ := Bool.and_eq_true_iff.mp h1
    exact ⟨h1, h2, Option.some.inj h⟩
  · cases h
theorem any_in {α : Type} [Rp α] [Pd α] [DecidableEq α] (x : α) (xs : List α) : ((xs.map Pd.toD).any fun z => PyData.eqv z (Pd.toD x)) = decide (x ∈ xs) := by
  induction xs with
  | nil => simp
  | cons y ys ih =>
    rw [List.map_cons, List.any_cons, ih, eqv_dec]
    by_cases e : x = y
    · subst e; simp
    · have e' : ¬ y = x := fun z => e z.symm
      simp [e, e']
theorem o2_inD {α : Type} [Rp α] [Pd α] [DecidableEq α] {x : α} {xs : List α} {r : Bool} (h : inG x xs = some r) : Op2 K (rInD K) x xs r := fun F H v w Q s rv rw' k => by
  obtain ⟨h1, h2, h3⟩ := inG_of h
  exact ⟨_, _, Pd.dp (Rp.mono s rv), Pd.dp (Rp.mono s rw'), h1, h2, k _ F H (.refl s) (congrArg V.bl ((any_in x xs).trans h3))⟩
theorem o2_notInD {α : Type} [Rp α] [Pd α] [DecidableEq α] {x : α} {xs : List α} {r : Bool} (h : inG x xs = some r) : Op2 K (rNotInD K) x xs (!r) := fun F H v w Q s rv rw' k => by
  obtain ⟨h1, h2, h3⟩ := inG_of h
  exact ⟨_, _, Pd.dp (Rp.mono s rv), Pd.dp (Rp.mono s rw'), h1, h2, k _ F H (.refl s) (congrArg (fun t => V.bl (!t)) ((any_in x xs).trans h3))⟩
/-! ### pairs walked -/
def enumF {α : Type} : Int → List α → List (T2 Int α)
  | _, [] => []
  | i, x :: xs => ⟨i, x⟩ :: enumF (i + 1) xs
abbrev enumL {α : Type} (xs : List α) : List (T2 Int α) := enumF 0 xs
theorem enumF_get {α : Type} : ∀ {xs : List α} {j : Int} {i : Nat} {x : T2 Int α}, (enumF j xs)[i]? = some x → x.a = j + i ∧ xs[i]? = some x.b
  | [], _, _, _, h => by simp [enumF] at h
  | y :: ys, j, 0, x, h => by
    simp [enumF] at h; subst h; simp
  | y :: ys, j, i + 1, x, h => by
    have h' : (enumF (j + 1) ys)[i]? = some x := by simpa [enumF] using h
    obtain ⟨h1, h2⟩ := enumF_get h'
    exact ⟨by rw [h1]; omega, by simpa using h2⟩
theorem enumF_len {α : Type} : ∀ {xs : List α} {j : Int}, (enumF j xs).length = xs.length
  | [], _ => rfl
  | x :: xs, j => by rw [enumF, List.length_cons, enumF_len, List.length_cons]
def zipL {α β : Type} : List α → List β → List (T2 α β)
  | x :: xs, y :: ys => ⟨x, y⟩ :: zipL xs ys
  | _, _ => []
theorem zipL_get {α β : Type} : ∀ {xs : List α} {ys : List β} {i : Nat} {z : T2 α β}, (zipL xs ys)[i]? = some z → xs[i]? = some z.a ∧ ys[i]? = some z.b
  | [], _, _, _, h => by simp [zipL] at h
  | _ :: _, [], _, _, h => by simp [zipL] at h
  | x :: xs, y :: ys, 0, z, h => by
    simp [zipL] at h; subst h; simp
  | x :: xs, y :: ys, i + 1, z, h => by
    have h' : (zipL xs ys)[i]? = some z := by simpa [zipL] using h
    obtain ⟨h1, h2⟩ := zipL_get h'
    exact ⟨by simpa using h1, by simpa using h2⟩
theorem zipL_len {α β : Type} : ∀ {xs : List α} {ys : List β}, (zipL xs ys).length = min xs.length ys.length
  | [], _ => by simp [zipL]
  | _ :: _, [] => by simp [zipL]
  | x :: xs, y :: ys => by rw [zipL, List.length_cons, zipL_len, List.length_cons, List.length_cons]; omega
theorem pair_new {α β : Type} [Rp α] [Rp β] {T : Addr} {v w : V} {x : α} {y : β} (s : L2.Same F H) (hT : H T = none) (rv : rp K F v x) (rw' : rp K F w y) : ∃ F', Gr F H F' (upd H T (.tup [v, w])) ∧ rp K F' (.ref T) (T2.mk x y) :=
  ⟨_, Gr.new s hT, T, [v, w], rfl, upd_same, v, [w], rfl, Rp.mono (same_upd (s.free hT)) rv, w, [], rfl, Rp.mono (same_upd (s.free hT)) rw', rfl⟩
theorem ei_enum {α : Type} [Rp α] {xs : List α} {p tpos : Pos} {elts : List Expr} {kk : Nat} (h : Ev X e σ F H xs) (hm : X.mg "enumerate" = none) (hg : Gl X "enumerate" := by rfl) (hs : starEach [e] X.env = [(false, eval e X.env)] := by rfl) :
    EvI X (.Tuple elts kk tpos) (.Call (.Name "enumerate" p) [e] [] pos) σ F H (enumL xs) := fun F1 H1 g R q =>
  GoI.of (pi_enum hg hm (pa_cons pe_go pa_nil (by rw [hs]; rfl)) hs) (h F1 H1 g _ fun v F2 H2 g2 ⟨a, vs, e, sq, rs⟩ => ⟨a, vs, by rw [e], g2.fh.seq sq, q _ F2 H2 g2 fun i Fi Hi s1 s2 => by
    have sq' := s2.seq (s1.seq sq)
    refine ⟨fun x hx => ?_, fun e => ⟨vs, sq', by rw [e, rs.length, enumF_len]; exact Nat.le_refl _⟩⟩
    obtain ⟨h1, h2⟩ := enumF_get hx
    obtain ⟨y, hy, ry⟩ := rs.get h2
    refine ⟨⟨vs, y, sq', hy⟩, fun v H' ⟨T, x', e1, e2, e3, e4⟩ => ?_⟩
    subst e1; subst e3
    have e5 := e4 vs sq'
    rw [hy] at e5
    cases e5
    have hi : x.a = (i : Int) := by rw [h1]; omega
    have := pair_new (K := X.K) (x := x.a) (y := x.b) s2 e2 (v := .int (i : Nat)) (congrArg V.int hi.symm) (Rp.mono s1 ry)
    exact this⟩)
theorem ei_zip {α β : Type} [Rp α] [Rp β] {xs : List α} {ys : List β} {p tpos : Pos} {elts : List Expr} {kk : Nat} (ha : Ev X a σ F H xs) (hb : Ev X b σ F H ys) (hm : X.mg "zip" = none) (hg : Gl X "zip" := by rfl) (hs : starEach [a, b] X.env = (false, eval a X.env) :: starEach [b] X.env := by rfl) (hs2 : starEach [b] X.env = (false, eval b X.env) :: starEach [] X.env := by rfl)
    (hpl : (backTo pos (starEach [b] X.env)).any (·.1) = false := by rfl) : EvI X (.Tuple elts kk tpos) (.Call (.Name "zip" p) [a, b] [] pos) σ F H (zipL xs ys) := fun F1 H1 g R q =>
  GoI.of (pi_zipA hg hm (pa_cons pe_go (pa_cons pe_go pa_nil hs2) hs) hs hpl) (ha F1 H1 g _ fun v F2 H2 g2 r2 => hb F2 H2 (g.trans g2) _ fun w F3 H3 g3 ⟨p', vs', e', sq', rs'⟩ => by
    obtain ⟨p, vs, e, sq, rs⟩ := Rp.mono g3.ff r2
    refine ⟨p, p', vs, vs', by rw [e, e'], .inl ⟨g3.fh.seq sq, g3.fh.seq sq', q _ F3 H3 (g2.trans g3) fun i Fi Hi s1 s2 => ?_⟩⟩
    have q1 := s2.seq (s1.seq sq)
    have q2 := s2.seq (s1.seq sq')
    refine ⟨fun x hx => ?_, fun e => ⟨vs, vs', q1, q2, by rw [e, zipL_len, rs.length, rs'.length]; omega⟩⟩
    obtain ⟨h1, h2⟩ := zipL_get hx
    obtain ⟨y, hy, ry⟩ := rs.get h1
    obtain ⟨z, hz, rz⟩ := rs'.get h2
    refine ⟨⟨vs, vs', y, z, q1, q2, hy, hz⟩, fun v H' ⟨T, x1, y1, e1, e2, e3, e4, e5⟩ => ?_⟩
    subst e1; subst e3
    have e6 := e4 vs q1
    have e7 := e5 vs' q2
    rw [hy] at e6; rw [hz] at e7
    cases e6; cases e7
    exact pair_new s2 e2 (Rp.mono s1 ry) (Rp.mono s1 rz))
theorem ei_zipT {α β θ θ' : Type} [Rp α] [Rp β] [Rp θ] [Rp θ'] [TL θ α] [TL θ' β] {xs : θ} {ys : θ'} {p tpos : Pos} {elts : List Expr} {kk : Nat} (ha : Ev X a σ F H xs) (hb : Ev X b σ F H ys) (hm : X.mg "zip" = none) (hg : Gl X "zip" := by rfl) (hs : starEach [a, b] X.env = (false, eval a X.env) :: starEach [b] X.env := by rfl) (hs2 : starEach [b] X.env = (false, eval b X.env) :: starEach [] X.env := by rfl)
    (hpl : (backTo pos (starEach [b] X.env)).any (·.1) = false := by rfl) : EvI X (.Tuple elts kk tpos) (.Call (.Name "zip" p) [a, b] [] pos) σ F H (zipL (TL.l xs) (TL.l ys)) := fun F1 H1 g R q =>
  GoI.of (pi_zipA hg hm (pa_cons pe_go (pa_cons pe_go pa_nil hs2) hs) hs hpl) (ha F1 H1 g _ fun v F2 H2 g2 r2 => hb F2 H2 (g.trans g2) _ fun w F3 H3 g3 r3 => by
    obtain ⟨p', vs', e', sq', rs'⟩ := TL.sq r3
    obtain ⟨p, vs, e, sq, rs⟩ := TL.sq (Rp.mono g3.ff r2)
    refine ⟨p, p', vs, vs', by rw [e, e'], .inr ⟨sqT_mono g3.fh sq, sqT_mono g3.fh sq', q _ F3 H3 (g2.trans g3) fun i Fi Hi s1 s2 => ?_⟩⟩
    have q1 : SqT X.K Hi p vs := sqT_mono s2 (sqT_mono s1 sq)
    have q2 : SqT X.K Hi p' vs' := sqT_mono s2 (sqT_mono s1 sq')
    refine ⟨fun x hx => ?_, fun e => ⟨vs, vs', q1, q2, by rw [e, zipL_len, rs.length, rs'.length]; omega⟩⟩
    obtain ⟨h1, h2⟩ := zipL_get hx
    obtain ⟨y, hy, ry⟩ := rs.get h1
    obtain ⟨z, hz, rz⟩ := rs'.get h2
    refine ⟨⟨vs, vs', y, z, q1, q2, hy, hz⟩, fun v H' ⟨T, x1, y1, e1, e2, e3, e4, e5⟩ => ?_⟩
    subst e1; subst e3
    have e6 := e4 vs q1
    have e7 := e5 vs' q2
    rw [hy] at e6; rw [hz] at e7
    cases e6; cases e7
    exact pair_new s2 e2 (Rp.mono s1 ry) (Rp.mono s1 rz))
theorem rev_get {α : Type} {xs : List α} {i : Nat} {x : α} (h : xs.reverse[i]? = some x) : i < xs.length ∧ xs[xs.length - 1 - i]? = some x := by
  have hi : i < xs.length := by
    rcases Nat.lt_or_ge i xs.length with h1 | h1
    · exact h1
    · rw [List.getElem?_eq_none (by simpa using h1)] at h; cases h
  rw [List.getElem?_reverse hi] at h
  exact ⟨hi, h⟩
theorem ei_rev {α : Type} [Rp α] {xs : List α} {p : Pos} {tg : Expr} (h : Ev X e σ F H xs) (hm : X.mg "reversed" = none) (hg : Gl X "reversed" := by rfl) (hs : starEach [e] X.env = (false, eval e X.env) :: starEach [] X.env := by rfl) :
    EvI X tg (.Call (.Name "reversed" p) [e] [] pos) σ F H xs.reverse := fun F1 H1 g R q =>
  GoI.of (pi_revA hg hm pe_go hs) (h F1 H1 g _ fun v F2 H2 g2 ⟨a, vs, e, sq, rs⟩ => ⟨a, vs, e, .inl ⟨g2.fh.seq sq, q _ F2 H2 g2 fun i Fi Hi s1 s2 => by
    have sq' := s2.seq (s1.seq sq)
    refine ⟨fun x hx => ?_, fun e => by rw [e, List.length_reverse, ← rs.length]; exact Nat.le_refl _⟩
    obtain ⟨h1, h2⟩ := rev_get hx
    obtain ⟨y, hy, ry⟩ := rs.get h2
    rw [← rs.length] at h1 hy
    refine ⟨⟨h1, vs, y, sq', hy⟩, fun v H' ⟨e1, e2⟩ => ?_⟩
    subst e1
    have e3 := e2 vs sq'
    rw [hy] at e3
    cases e3
    exact ⟨Fi, .refl s2, Rp.mono s1 ry⟩⟩⟩)
theorem ei_revT {α θ : Type} [Rp α] [Rp θ] [TL θ α] {xs : θ} {p : Pos} {tg : Expr} (h : Ev X e σ F H xs) (hm : X.mg "reversed" = none) (hg : Gl X "reversed" := by rfl) (hs : starEach [e] X.env = (false, eval e X.env) :: starEach [] X.env := by rfl) :
    EvI X tg (.Call (.Name "reversed" p) [e] [] pos) σ F H (TL.l xs).reverse := fun F1 H1 g R q =>
  GoI.of (pi_revA hg hm pe_go hs) (h F1 H1 g _ fun v F2 H2 g2 r2 => let ⟨a, vs, e, sq, rs⟩ := TL.sq r2; ⟨a, vs, e, .inr ⟨sqT_mono g2.fh sq, q _ F2 H2 g2 fun i Fi Hi s1 s2 => by
    have sq' : SqT X.K Hi a vs := sqT_mono s2 (sqT_mono s1 sq)
    refine ⟨fun x hx => ?_, fun e => by rw [e, List.length_reverse, ← rs.length]; exact Nat.le_refl _⟩
    obtain ⟨h1, h2⟩ := rev_get hx
    obtain ⟨y, hy, ry⟩ := rs.get h2
    rw [← rs.length] at h1 hy
    refine ⟨⟨h1, vs, y, sq', hy⟩, fun v H' ⟨e1, e2⟩ => ?_⟩
    subst e1
    have e3 := e2 vs sq'
    rw [hy] at e3
    cases e3
    exact ⟨Fi, .refl s2, Rp.mono s1 ry⟩⟩⟩)
/-! ### the place of an item -/
def idxG {α : Type} [Rp α] [Pd α] [DecidableEq α] (xs : List α) (x : α) : Option Int := if (okD x && okD xs) = true ∧ x ∈ xs then some ((xs.idxOf x : Nat) : Int) else none
theorem idxG_of {α : Type} [Rp α] [Pd α] [DecidableEq α] {x : α} {xs : List α} {r : Int} (h : idxG xs x = some r) : okD x = true ∧ okD xs = true ∧ x ∈ xs ∧ r = ((xs.idxOf x : Nat) : Int) := by
  unfold idxG at h; split at h
  · rename_i h1
    obtain ⟨h0, h3⟩ := h1
    obtain ⟨h1, h2⟩ := Bool.and_eq_true_iff.mp h0
    exact ⟨h1, h2, h3, (Option.some.inj h).symm⟩
  · cases h
theorem idx_at {α : Type} [DecidableEq α] {x : α} : ∀ {xs : List α}, x ∈ xs → xs[xs.idxOf x]? = some x ∧ ∀ m, m < xs.idxOf x → xs[m]? ≠ some x
  | y :: ys, h => by
    by_cases e : y = x
    · subst e; simp
    · have hx : x ∈ ys := by
        rcases List.mem_cons.mp h with h | h
        · exact absurd h.symm e
        · exact h
      obtain ⟨h1, h2⟩ := idx_at hx
      have hi : (y :: ys).idxOf x = ys.idxOf x + 1 := by
        rw [List.idxOf_cons, beq_eq_false_iff_ne.mpr e]; rfl
      rw [hi]
      refine ⟨by simpa using h1, fun m hm => ?_⟩
      cases m with
      | zero => simpa using e
      | succ m => simpa using h2 m (by omega)
theorem ev_indexL {α : Type} [Rp α] [Pd α] [DecidableEq α] {xs : List α} {x : α} {r : Int} {apos : Pos} (ho : Ev X a σ F H xs) (he : Ev X e σ F H x) (h : idxG xs x = some r) (hu : X.A.units + 65 < cLine)
    (hbase : attributeBase a "index" X.env (eval a X.env) = eval a X.env := by rfl)
    (hfew : ((backTo pos (starEach [e] X.env)).all (fun x => !x.1) && (backToKw pos (keywordEach [] X.env)).all (fun x => x.1.isSome) && decide ([e].length + ([] : List Keyword).length + (if ([] : List Keyword).isEmpty then 0 else 1) < 30)) = true := by rfl)
    (hline : (apos.endLine == pos.line) = true := by rfl) (hs : starEach [e] X.env = (false, eval e X.env) :: starEach [] X.env := by rfl) (hplain : (backTo pos (starEach [] X.env)).any (·.1) = false := by rfl) :
    Ev X (.Call (.Attribute a "index" apos) [e] [] pos) σ F H r := fun F1 H1 g Q q => by
  obtain ⟨k1, k2, k3, rfl⟩ := idxG_of h
  refine GoE.of (pe_bm PySem.F.plainAttrs_list PySem.F.slot_list_index PySem.F.type_list_index (mt_indexD hu) pe_go (pa_cons pe_go pa_nil hs) hbase hfew hline hs hplain) (ho F1 H1 g _ fun v F2 H2 g2 r2 => ?_)
  obtain ⟨p, vs, rfl, sq, rs⟩ := id r2
  refine ⟨.inl ⟨rfl, vs, g2.fh.seq sq⟩, he F2 H2 (g.trans g2) _ fun w F3 H3 g3 r3 => ?_⟩
  obtain ⟨h1, h2⟩ := idx_at k3
  refine ⟨p, w, Pd.toD x, xs.map Pd.toD, xs.idxOf x, Pd.toD x, rfl, rfl, Pd.dp (Rp.mono (g3.ff.trans g3.fh) r2), Pd.dp (Rp.mono g3.fh r3), k2, k1, by rw [List.getElem?_map, h1]; rfl, (eqv_dec x x).trans (decide_eq_true rfl), fun m z' hm hz => ?_, q _ F3 H3 (g2.trans g3) rfl⟩
  rw [List.getElem?_map] at hz
  obtain ⟨y, hy, rfl⟩ := Option.map_eq_some_iff.mp hz
  rw [eqv_dec]
  exact decide_eq_false fun e => h2 m hm (e ▸ hy)
/-! ### tuples without a dict of their own -/
def rTupN (K : PySem.W.Frag) : List V → Hp → VK → Prop := fun xs H Q => ∃ p ys, xs = [.ref p] ∧ SqL K H p ys ∧ ∀ l o, H l = none → o.dict = none → o.cls = .type "tuple" → Q (.ref l) (upd H l (.frz o (.tup ys)))
theorem call_tupN : CallR X (.type "tuple") (rTupN X.K) := by
  intro pins s σ H xs us Q I r ⟨p, ys, e, hq, q⟩
  subst e
  obtain ⟨u, rfl, rx⟩ := vals1 r
  cases rx
  obtain ⟨its, r', pl, hz⟩ := I.list hq
  have hlen := r'.length
  refine call_tuple_list pl.isList (fun h' kp => ?_) (by simp only [List.size_toArray] <;> omega)
  have I1 : Inv X pins σ H { s with heap := h' } := I.kept (t' := s.toks) kp
  have new : ObjOk X.prog X.w (upd H h'.objs.size (.frz { cls := .type "tuple", data := .seq its.toArray } (.tup ys))) (h'.push { cls := .type "tuple", data := .seq its.toArray }) h'.objs.size (.frz { cls := .type "tuple", data := .seq its.toArray } (.tup ys)) :=
    ⟨Heap.get?_push_size _ rfl, hz, its, r', IsTup.new _ _⟩
  exact ⟨.ref h'.objs.size, _, I1.laid (t' := s.toks) (fun b o e => Heap.get?_push_of_some _ e) (Nat.le_refl _) new, rfl, q _ _ (I1.hok.fresh (Nat.le_refl _)) rfl rfl⟩
theorem oc_tupleN {α : Type} [Rp α] {xs : List α} : OpC K (rTupN K) (xs, ()) (Tn.mk xs) :=
  oc1 fun F H v Q s ⟨p, vs, e, sq, rs⟩ k => ⟨p, vs, by rw [e], s.seq sq, fun l o hl h1 h2 => k _ (upd F l (.frz o (.tup vs))) _ (Gr.new s hl) ⟨l, vs, o, rfl, upd_same, h1, h2, rs.mono (same_upd (s.free hl))⟩⟩
def tBMn (r : V → List V → Hp → VK → Prop) (to : TE) (t : TA) : TE := fun σ H Q => to σ H fun x H1 => (∃ p o xs, x = .ref p ∧ H1 p = some (.frz o (.tup xs)) ∧ o.dict = none ∧ o.cls = .type "tuple") ∧ t σ H1 fun xs H2 => r x xs H2 Q
theorem pe_bmn {o : Expr} {to : TE} {t : TA} {name : Str} {apos cpos : Pos} {id : String} {r : V → List V → Hp → VK → Prop} (pa : PlainAttrs "tuple") (slot : Slot "tuple" name id) (hty : typeOf (.builtin id) = pure (.type "method_descriptor")) (hm : MtR X id r) (ho : PE X o to) (ha : PA X (e :: es) t)
    (hbase : attributeBase o name X.env (eval o X.env) = eval o X.env)
    (hfew : ((backTo cpos (starEach (e :: es) X.env)).all (fun x => !x.1) && (backToKw cpos (keywordEach [] X.env)).all (fun x => x.1.isSome) && decide ((e :: es).length + ([] : List Keyword).length + (if ([] : List Keyword).isEmpty then 0 else 1) < 30)) = true)
    (hline : (apos.endLine == cpos.line) = true) (hs : starEach (e :: es) X.env = (false, eval e X.env) :: starEach es X.env) (hplain : (backTo cpos (starEach es X.env)).any (·.1) = false) :
    PE X (.Call (.Attribute o name apos) (e :: es) [] cpos) (tBMn r to t) := ⟨fun pins s σ H Q I h => by
  refine wpAny_Call_method_late hbase hfew hline rfl (thn (ho.run pins s σ H _ I h) fun v s1 ⟨x, H1, I1, r1, ⟨p, ob, ys, ex, hp, hd, hc⟩, q1⟩ => ?_)
  subst ex
  cases r1
  obtain ⟨hg, _⟩ := I1.hok p _ hp
  refine ⟨"tuple", id, pa, slot, hty, ⟨ob, hg, hc⟩, fun a' e' => by cases e'; exact ⟨ob, hg, hd⟩, ?_⟩
  have hA := ha.run cpos pins s1 σ H1 _ I1 q1
  rw [hs] at hA ⊢
  refine Calls.callWith_builtin (by show (false || (backTo cpos (starEach es X.env)).any (·.1)) = false; rw [hplain]; rfl) (Calls.evalArgs_plain ?_)
  exact thn hA fun us s2 ⟨vs, H2, I2, r2, q2⟩ => hm pins s2 σ H2 (.ref p) vs _ us Q I2 rfl r2 q2⟩
def idxT (xs : List Str) (x : Str) : Option Int := if x ∈ xs then some ((xs.idxOf x : Nat) : Int) else none
theorem ev_indexT {xs : Tn Str} {x : Str} {r : Int} {apos : Pos} (ho : Ev X a σ F H xs) (he : Ev X e σ F H x) (h : idxT xs.l x = some r)
    (hbase : attributeBase a "index" X.env (eval a X.env) = eval a X.env := by rfl)
    (hfew : ((backTo pos (starEach [e] X.env)).all (fun x => !x.1) && (backToKw pos (keywordEach [] X.env)).all (fun x => x.1.isSome) && decide ([e].length + ([] : List Keyword).length + (if ([] : List Keyword).isEmpty then 0 else 1) < 30)) = true := by rfl)
    (hline : (apos.endLine == pos.line) = true := by rfl) (hs : starEach [e] X.env = (false, eval e X.env) :: starEach [] X.env := by rfl) (hplain : (backTo pos (starEach [] X.env)).any (·.1) = false := by rfl) :
    Ev X (.Call (.Attribute a "index" apos) [e] [] pos) σ F H r := fun F1 H1 g Q q => by
  unfold idxT at h
  split at h
  case isFalse => cases h
  rename_i k3
  cases (Option.some.inj h)
  refine GoE.of (pe_bmn PySem.F.plainAttrs_tuple PySem.F.slot_tuple_index PySem.F.type_tuple_index mt_tup_index pe_go (pa_cons pe_go pa_nil hs) hbase hfew hline hs hplain) (ho F1 H1 g _ fun v F2 H2 g2 r2 => ?_)
  obtain ⟨p, vs, o, rfl, hp, hd, hc, rs⟩ := r2
  refine ⟨⟨p, o, vs, rfl, g2.fh _ _ hp, hd, hc⟩, he F2 H2 (g.trans g2) _ fun w F3 H3 g3 r3 => ?_⟩
  obtain ⟨h1, h2⟩ := idx_at k3
  have e4 := rs.strs
  subst e4
  exact ⟨p, xs.l, x, xs.l.idxOf x, rfl, by rw [show w = .str x from r3], .inl (.inr ⟨o, g3.fh _ _ (g3.ff _ _ hp)⟩), h1, h2, q _ F3 H3 (g2.trans g3) rfl⟩
/-! ### texts -/
theorem ev_partition {x y : Str} {apos : Pos} (hx : x.length ≤ sizeLine ∧ (y.length == 0) = false) (ho : Ev X a σ F H x) (he : Ev X e σ F H y)
    (hs : starEach [e] X.env = [(false, eval e X.env)] := by rfl) (hbase : attributeBase a "partition" X.env (eval a X.env) = eval a X.env := by rfl) (hline : (apos.endLine == pos.line) = true := by rfl) : Ev X (.Call (.Attribute a "partition" apos) [e] [] pos) σ F H (T3.mk (Txt.partition x y).1 (Txt.partition x y).2.1 (Txt.partition x y).2.2) :=
  ev_m1 PySem.F.slot_str_partition PySem.F.type_str_partition mt_partition (fun F H Q s k => ⟨x, y, rfl, rfl, hx.2, hx.1, fun p hp => k _ (upd F p _) _ (Gr.new s hp) ⟨p, _, rfl, upd_same, _, _, rfl, rfl, _, _, rfl, rfl, _, _, rfl, rfl, rfl⟩⟩) ho he hs hbase hline
def sPart (x y : Str) : Option (T3 Str Str Str) := if x.length ≤ sizeLine ∧ (y.length == 0) = false then some ⟨(Txt.partition x y).1, (Txt.partition x y).2.1, (Txt.partition x y).2.2⟩ else none
theorem ev_part {x y : Str} {r : T3 Str Str Str} {apos : Pos} (ho : Ev X a σ F H x) (he : Ev X e σ F H y) (h : sPart x y = some r)
    (hs : starEach [e] X.env = [(false, eval e X.env)] := by rfl) (hbase : attributeBase a "partition" X.env (eval a X.env) = eval a X.env := by rfl) (hline : (apos.endLine == pos.line) = true := by rfl) : Ev X (.Call (.Attribute a "partition" apos) [e] [] pos) σ F H r := by
  unfold sPart at h
  split at h
  · rename_i hz
    cases (Option.some.inj h)
    exact ev_partition hz ho he hs hbase hline
  · cases h
theorem oc_intB {b : Bool} : OpC K (fun xs H Q => (∃ i, xs = [.int i] ∧ Q (.int i) H) ∨ ∃ k, xs = [.bl k] ∧ Q (.int (if k then 1 else 0)) H) (b, ()) (if b = true then (1 : Int) else 0) :=
  oc1 fun F H v Q s rv k => .inr ⟨b, by rw [show v = .bl b from rv], k _ F H (.refl s) rfl⟩
end
end Gx

/-! Gf: dicts. -/
namespace Gx
open PySem PySem.Spec PyProof.Rows L2
open Rp (rp)
open Ra (ra)
open Ob (ob)
section
variable {κ α β : Type} [DecidableEq κ]
def kvLook : List (κ × α) → κ → Option α
  | [], _ => none
  | p :: r, k => if p.1 = k then some p.2 else kvLook r k
def kvPut (l : List (κ × α)) (k : κ) (v : α) : List (κ × α) := if (l.any fun p => decide (p.1 = k)) = true then l.map (fun p => if p.1 = k then (p.1, v) else p) else l ++ [(k, v)]
def kvDrop (l : List (κ × α)) (k : κ) : List (κ × α) := l.filter fun p => decide (p.1 ≠ k)
variable {κ' : Type} [DecidableEq κ'] {g : κ → κ'}
abbrev kvm (g : κ → κ') (l : List (κ × α)) : List (κ' × α) := l.map fun p => (g p.1, p.2)
theorem kvm_val (hg : ∀ x y, g x = g y → x = y) (k : κ) : ∀ l : List (κ × V), valV (kvm g l) (g k) = kvLook l k
  | [] => rfl
  | p :: r => by
    by_cases e : p.1 = k
    · subst e; simp [valV, kvLook]
    · have e' : ¬ g p.1 = g k := fun z => e (hg _ _ z)
      have ih := kvm_val hg k r
      unfold valV at ih ⊢
      rw [kvm, List.map_cons, List.find?_cons, decide_eq_false e', kvLook, if_neg e]
      exact ih
theorem kvm_any (hg : ∀ x y, g x = g y → x = y) (k : κ) (l : List (κ × α)) : ((kvm g l).any fun p => decide (p.1 = g k)) = l.any fun p => decide (p.1 = k) := by
  induction l with
  | nil => rfl
  | cons p r ih =>
    rw [kvm, List.map_cons, List.any_cons, List.any_cons, ← ih]
    congr 1
    rw [decide_eq_decide]
    exact ⟨hg _ _, fun e => e ▸ rfl⟩
theorem kvm_put (hg : ∀ x y, g x = g y → x = y) (k : κ) (v : V) (l : List (κ × V)) : putK (kvm g l) (g k) v = kvm g (kvPut l k v) := by
  unfold putK kvPut
  rw [kvm_any hg]
  split
  · rw [kvm, kvm, List.map_map, List.map_map]
    refine List.map_congr_left fun p _ => ?_
    show (if g p.1 = g k then (g p.1, v) else (g p.1, p.2)) = _
    by_cases e : p.1 = k
    · subst e; simp
    · rw [if_neg (fun z => e (hg _ _ z))]; simp [e]
  · simp [kvm]
theorem kvm_drop (hg : ∀ x y, g x = g y → x = y) (k : κ) (l : List (κ × V)) : dropK (kvm g l) (g k) = kvm g (kvDrop l k) := by
  unfold dropK kvDrop
  induction l with
  | nil => rfl
  | cons p r ih =>
    rw [kvm, List.map_cons]
    by_cases e : p.1 = k
    · rw [List.filter_cons_of_neg (by simp [e]), List.filter_cons_of_neg (by simp [e])]; exact ih
    · have e' : ¬ g p.1 = g k := fun z => e (hg _ _ z)
      rw [List.filter_cons_of_pos (by simp [e']), List.filter_cons_of_pos (by simp [e]), kvm, List.map_cons]
      exact congrArg _ ih
theorem kvPut_len (l : List (κ × α)) (k : κ) (v : α) : (kvPut l k v).length ≤ l.length + 1 := by
  unfold kvPut; split
  · rw [List.length_map]; omega
  · rw [List.length_append]; simp
theorem kvLook_put (l : List (κ × α)) (k k' : κ) (v : α) : kvLook (kvPut l k v) k' = if k = k' then some v else kvLook l k' := by
  unfold kvPut
  split
  · rename_i h
    induction l with
    | nil => cases h
    | cons p r ih =>
      rw [List.map_cons]
      by_cases e : p.1 = k
      · rw [if_pos e, kvLook]
        by_cases e2 : k = k'
        · rw [if_pos e2, if_pos (e.trans e2)]
        · rw [if_neg e2, if_neg (fun z => e2 (e.symm.trans z)), kvLook, if_neg (fun z => e2 (e.symm.trans z))]
          clear ih h
          induction r with
          | nil => rfl
          | cons q s ih =>
            rw [List.map_cons]
            by_cases e3 : q.1 = k
            · rw [if_pos e3, kvLook, if_neg (fun z => e2 (e3.symm.trans z)), ih, kvLook, if_neg (fun z => e2 (e3.symm.trans z))]
            · rw [if_neg e3, kvLook, ih, kvLook]
      · rw [if_neg e, kvLook]
        have h' : (r.any fun p => decide (p.1 = k)) = true := by
          rw [List.any_cons, decide_eq_false e, Bool.false_or] at h; exact h
        rw [ih h', kvLook]
        by_cases e2 : k = k'
        · rw [if_pos e2, if_neg (fun z => e (z.trans e2.symm)), if_pos e2]
        · rw [if_neg e2, if_neg e2]
  · rename_i h
    induction l with
    | nil => simp [kvLook]
    | cons p r ih =>
      have h1 : ¬ p.1 = k ∧ ¬ (r.any fun p => decide (p.1 = k)) = true := by
        constructor
        · intro e; exact h (by rw [List.any_cons, decide_eq_true e]; rfl)
        · intro e; exact h (by rw [List.any_cons, e, Bool.or_true])
      rw [List.cons_append, kvLook, ih h1.2, kvLook]
      by_cases e2 : k = k'
      · rw [if_pos e2, if_neg (fun z => h1.1 (z.trans e2.symm)), if_pos e2]
      · rw [if_neg e2, if_neg e2]
end
/-- a dict -/
structure Dct (κ ν : Type) where
  l : List (κ × ν)
  deriving DecidableEq
abbrev KR {κ ν : Type} [Rp ν] (K : PySem.W.Frag) (F : Hp) : List (κ × V) → List (κ × ν) → Prop := Paired fun p q => p.1 = q.1 ∧ rp K F p.2 q.2
section
variable {κ ν : Type} [Rp ν] {K : PySem.W.Frag} {F F' : Hp}
theorem KR.mono {kvs : List (κ × V)} {l : List (κ × ν)} (s : L2.Same F F') (h : KR K F kvs l) : KR K F' kvs l := Paired.mapP h fun _ _ ⟨e, r⟩ => ⟨e, Rp.mono s r⟩
variable [DecidableEq κ]
theorem KR.look (k : κ) : ∀ {kvs : List (κ × V)} {l : List (κ × ν)}, KR K F kvs l → (kvLook kvs k = none ∧ kvLook l k = none) ∨ ∃ v x, kvLook kvs k = some v ∧ kvLook l k = some x ∧ rp K F v x
  | _, _, .nil => .inl ⟨rfl, rfl⟩
  | _, _, .cons (a := p) (b := q) ⟨e, r⟩ t => by
    by_cases h : p.1 = k
    · exact .inr ⟨p.2, q.2, by rw [kvLook, if_pos h], by rw [kvLook, if_pos (e ▸ h)], r⟩
    · rw [kvLook, if_neg h, kvLook, if_neg (fun z => h (e.trans z))]
      exact KR.look k t
theorem KR.any (k : κ) : ∀ {kvs : List (κ × V)} {l : List (κ × ν)}, KR K F kvs l → (kvs.any fun p => decide (p.1 = k)) = l.any fun p => decide (p.1 = k)
  | _, _, .nil => rfl
  | _, _, .cons ⟨e, _⟩ t => by rw [List.any_cons, List.any_cons, KR.any k t, e]
theorem KR.map (k : κ) {v : V} {x : ν} (r : rp K F v x) : ∀ {kvs : List (κ × V)} {l : List (κ × ν)}, KR K F kvs l → KR K F (kvs.map fun p => if p.1 = k then (p.1, v) else p) (l.map fun p => if p.1 = k then (p.1, x) else p)
  | _, _, .nil => .nil
  | _, _, .cons (a := p) (b := q) ⟨e, r'⟩ t => by
    rw [List.map_cons, List.map_cons]
    refine .cons ?_ (KR.map k r t)
    by_cases h : p.1 = k
    · rw [if_pos h, if_pos (e ▸ h)]; exact ⟨e, r⟩
    · rw [if_neg h, if_neg (fun z => h (e.trans z))]; exact ⟨e, r'⟩
theorem KR.app {kvs ws : List (κ × V)} {l m : List (κ × ν)} (h : KR K F kvs l) (h' : KR K F ws m) : KR K F (kvs ++ ws) (l ++ m) := by
  induction h with
  | nil => exact h'
  | cons r t ih => exact .cons r ih
theorem KR.put {k : κ} {v : V} {x : ν} {kvs : List (κ × V)} {l : List (κ × ν)} (h : KR K F kvs l) (r : rp K F v x) : KR K F (kvPut kvs k v) (kvPut l k x) := by
  unfold kvPut
  rw [h.any k]
  split
  · exact KR.map k r h
  · exact h.app (.cons ⟨rfl, r⟩ .nil)
theorem KR.drop {k : κ} : ∀ {kvs : List (κ × V)} {l : List (κ × ν)}, KR K F kvs l → KR K F (kvDrop kvs k) (kvDrop l k)
  | _, _, .nil => .nil
  | _, _, .cons (a := p) (b := q) ⟨e, r'⟩ t => by
    unfold kvDrop
    by_cases h : p.1 = k
    · rw [List.filter_cons_of_neg (by simp [h]), List.filter_cons_of_neg (by simp [← e, h])]; exact KR.drop t
    · rw [List.filter_cons_of_pos (by simp [h]), List.filter_cons_of_pos (by simp [← e, h])]; exact .cons ⟨e, r'⟩ (KR.drop t)
end
/-! ### keys -/
class KeyS (κ : Type) [Rp κ] where
  g : κ → Key
  inj : ∀ x y, g x = g y → x = y
  rpg : ∀ {K : PySem.W.Frag} {F : Hp} {v : V} {k : κ}, rp K F v k ↔ v = kV (g k)
instance : KeyS Int := ⟨.inl, fun _ _ h => Sum.inl.inj h, Iff.rfl⟩
instance : KeyS Str := ⟨.inr, fun _ _ h => Sum.inr.inj h, Iff.rfl⟩
class KeyT (κ : Type) [Rp κ] where
  g : κ → List Key
  inj : ∀ x y, g x = g y → x = y
  rpg : ∀ {K : PySem.W.Frag} {F : Hp} {v : V} {k : κ}, rp K F v k ↔ ∃ b, v = .ref b ∧ F b = some (.tup ((g k).map kV))
class DKey (κ : Type) [Rp κ] [DecidableEq κ] where
  hob : List (κ × V) → HO
  inj : ∀ {a b}, hob a = hob b → a = b
  mu : ∀ kvs, Mut (some (hob kvs))
  ls : ∀ kvs, lstish (hob kvs)
  isD : ∀ {H : Hp} {a : Addr} {kvs}, Rd H a (hob kvs) → IsD H a
  get : ∀ {K : PySem.W.Frag} {F H : Hp} {a : Addr} {v : V} {k : κ} {kvs}, L2.Same F H → rp K F v k → Rd H a (hob kvs) → DGet H a v (kvLook kvs k)
  put : ∀ {K : PySem.W.Frag} {F H : Hp} {a : Addr} {v x : V} {k : κ} {kvs}, L2.Same F H → rp K F v k → H a = some (hob kvs) → kvs.length < sizeLine → DPut H a v x (upd H a (hob (kvPut kvs k x)))
  new : ∀ {X : Cx} {pos : Pos}, PE X (.Dict [] [] pos) fun _ H Q => ∀ p, H p = none → Q (.ref p) (upd H p (hob []))
  kd : ∀ {K : PySem.W.Frag} {H : Hp} {a : Addr} {kvs}, Rd H a (hob kvs) → Kn K H (.ref a) "dict"
  le : ∀ {P : Program} {w : World} {H : Hp} {h : Heap} {a : Addr} {kvs}, ObjOk P w H h a (hob kvs) → kvs.length ≤ sizeLine
theorem kvm_inj {κ κ' α : Type} {g : κ → κ'} (hg : ∀ x y, g x = g y → x = y) : ∀ {a b : List (κ × α)}, kvm g a = kvm g b → a = b
  | [], [], _ => rfl
  | [], _ :: _, h => by cases h
  | _ :: _, [], h => by cases h
  | p :: r, q :: s, h => by
    rw [kvm, kvm, List.map_cons, List.map_cons, List.cons.injEq] at h
    obtain ⟨h1, h2⟩ := h
    rw [kvm_inj hg h2]
    rw [Prod.mk.injEq] at h1
    congr 1
    exact Prod.ext (hg _ _ h1.1) h1.2
theorem kvm_len {κ κ' α : Type} {g : κ → κ'} (l : List (κ × α)) : (kvm g l).length = l.length := by rw [kvm, List.length_map]
instance {κ : Type} [Rp κ] [DecidableEq κ] [KeyS κ] : DKey κ where
  hob kvs := .dK (kvm KeyS.g kvs)
  inj h := kvm_inj KeyS.inj (HO.dK.inj h)
  mu _ := trivial
  ls _ := trivial
  isD h := .inl ⟨_, h⟩
  get s r h := .inl ⟨_, _, h, KeyS.rpg.mp r, (kvm_val KeyS.inj _ _).symm⟩
  put s r h hl := .inl ⟨_, _, h, KeyS.rpg.mp r, by rw [kvm_len]; exact hl, by rw [kvm_put KeyS.inj]⟩
  new := pe_dnewK
  kd h := .dK h
  le h := by obtain ⟨z, _⟩ := (show ObjOk _ _ _ _ _ (.dK _) from h); rw [kvm_len] at z; exact z
instance {κ : Type} [Rp κ] [DecidableEq κ] [KeyT κ] : DKey κ where
  hob kvs := .dT (kvm KeyT.g kvs)
  inj h := kvm_inj KeyT.inj (HO.dT.inj h)
  mu _ := trivial
  ls _ := trivial
  isD h := .inr ⟨_, h⟩
  get s r h := by
    obtain ⟨b, e, hb⟩ := KeyT.rpg.mp r
    exact .inr ⟨_, _, b, h, e, s _ _ hb, (kvm_val KeyT.inj _ _).symm⟩
  put s r h hl := by
    obtain ⟨b, e, hb⟩ := KeyT.rpg.mp r
    exact .inr ⟨_, _, b, h, e, s _ _ hb, by rw [kvm_len]; exact hl, by rw [kvm_put KeyT.inj]⟩
  new := pe_dnewT
  kd h := .dT h
  le h := by obtain ⟨z, _⟩ := (show ObjOk _ _ _ _ _ (.dT _) from h); rw [kvm_len] at z; exact z
/-- keys that are tuples of scalars -/
class KeyR (τ : Type) [Ra τ] where
  g : τ → List Key
  inj : ∀ x y, g x = g y → x = y
  rpg : ∀ {K : PySem.W.Frag} {F : Hp} {vs : List V} {k : τ}, ra K F vs k ↔ vs = (g k).map kV
instance : KeyR Unit := ⟨fun _ => [], fun _ _ _ => rfl, Iff.rfl⟩
instance {α τ : Type} [Rp α] [Ra τ] [KeyS α] [KeyR τ] : KeyR (α × τ) := ⟨fun x => KeyS.g x.1 :: KeyR.g x.2, fun x y h => by
  rw [List.cons.injEq] at h
  exact Prod.ext (KeyS.inj _ _ h.1) (KeyR.inj _ _ h.2), by
  intro K F vs k
  constructor
  · rintro ⟨v, r, e, p, q⟩
    rw [e, KeyS.rpg.mp p, KeyR.rpg.mp q]; rfl
  · intro h
    exact ⟨_, _, h, KeyS.rpg.mpr rfl, KeyR.rpg.mpr rfl⟩⟩
theorem keyR_rp {θ τ : Type} [Ra τ] [KeyR τ] {row : θ → τ} {K : PySem.W.Frag} {F : Hp} {v : V} {k : θ} : rpT row K F v k ↔ ∃ b, v = .ref b ∧ F b = some (.tup ((KeyR.g (row k)).map kV)) := by
  constructor
  · rintro ⟨b, vs, e, q, r⟩
    exact ⟨b, e, by rw [← KeyR.rpg.mp r]; exact q⟩
  · rintro ⟨b, e, q⟩
    exact ⟨b, _, e, q, KeyR.rpg.mpr rfl⟩
instance {α : Type} [Rp α] [KeyS α] : KeyT (T1 α) := ⟨fun x => KeyR.g x.row, fun x y h => by cases x; cases y; simpa [T1.row] using KeyR.inj _ _ h, keyR_rp⟩
instance {α β : Type} [Rp α] [Rp β] [KeyS α] [KeyS β] : KeyT (T2 α β) := ⟨fun x => KeyR.g x.row, fun x y h => by cases x; cases y; simpa [T2.row] using KeyR.inj _ _ h, keyR_rp⟩
instance {α β γ : Type} [Rp α] [Rp β] [Rp γ] [KeyS α] [KeyS β] [KeyS γ] : KeyT (T3 α β γ) := ⟨fun x => KeyR.g x.row, fun x y h => by cases x; cases y; simpa [T3.row] using KeyR.inj _ _ h, keyR_rp⟩
theorem keys_rps {α : Type} [Rp α] [KeyS α] {K : PySem.W.Frag} {F : Hp} : ∀ {vs : List V} {xs : List α}, Rps K F vs xs ↔ vs = (xs.map KeyS.g).map kV
  | [], [] => ⟨fun _ => rfl, fun _ => .nil⟩
  | [], _ :: _ => ⟨fun h => (by cases h), fun h => (by cases h)⟩
  | _ :: _, [] => ⟨fun h => (by cases h), fun h => (by cases h)⟩
  | v :: vs, x :: xs => by
    rw [List.map_cons, List.map_cons]
    constructor
    · intro h
      cases h with
      | cons r t => rw [KeyS.rpg.mp r, keys_rps.mp t]
    · intro h
      rw [List.cons.injEq] at h
      exact .cons (KeyS.rpg.mpr h.1) (keys_rps.mpr h.2)
instance {α : Type} [Rp α] [KeyS α] : KeyT (Tp α) := ⟨fun x => x.l.map KeyS.g, fun x y h => by
  cases x; cases y
  congr 1
  rename_i a b
  have : ∀ a b : List α, a.map KeyS.g = b.map KeyS.g → a = b := by
    intro a
    induction a with
    | nil => intro b h; cases b with
      | nil => rfl
      | cons _ _ => cases h
    | cons x r ih => intro b h; cases b with
      | nil => cases h
      | cons y s =>
        rw [List.map_cons, List.map_cons, List.cons.injEq] at h
        rw [KeyS.inj _ _ h.1, ih _ h.2]
  exact this a b h, by
  intro K F v k
  constructor
  · rintro ⟨b, vs, e, q, r⟩
    exact ⟨b, e, by rw [← keys_rps.mp r]; exact q⟩
  · rintro ⟨b, e, q⟩
    exact ⟨b, _, e, q, keys_rps.mpr rfl⟩⟩
/-! ### dicts as things -/
instance {κ ν : Type} [Rp κ] [DecidableEq κ] [DKey κ] [Rp ν] : Rp (Dct κ ν) := ⟨fun K F v d => ∃ a o kvs, v = .ref a ∧ F a = some (.frz o (DKey.hob kvs)) ∧ KR K F kvs d.l, fun s ⟨a, o, kvs, e, q, r⟩ => ⟨a, o, kvs, e, s _ _ q, r.mono s⟩⟩
instance {κ ν : Type} [Rp κ] [DecidableEq κ] [DKey κ] [Rp ν] : Ob (Dct κ ν) := ⟨fun K F o d => ∃ kvs, o = DKey.hob kvs ∧ KR K F kvs d.l, fun s ⟨kvs, e, r⟩ => ⟨kvs, e, r.mono s⟩, fun ⟨kvs, e, r⟩ => e ▸ DKey.mu kvs, fun ⟨kvs, e, r⟩ => e ▸ DKey.ls kvs,
  fun {K F o x l od} h ⟨kvs, e, r⟩ => ⟨l, od, kvs, rfl, e ▸ h, r⟩⟩
instance {κ ν : Type} [Rp κ] [DecidableEq κ] [DKey κ] [Rp ν] : NN (Dct κ ν) := ⟨fun ⟨_, _, _, e, _⟩ => nomatch e⟩
instance {κ ν : Type} [Rp κ] [DecidableEq κ] [DKey κ] [Rp ν] : Kd (Dct κ ν) := ⟨"dict", fun s ⟨a, o, kvs, e, q, r⟩ => e ▸ DKey.kd (.inr ⟨o, s _ _ q⟩)⟩
section
variable {κ ν : Type} [Rp κ] [DecidableEq κ] [DKey κ] [Rp ν]
variable {X : Cx} {K : PySem.W.Frag} {e a b c d : Expr} {es : List Expr} {σ : L2.St} {F H F0 H0 : Hp} {pos : Pos} {D : Ends} {st : Stmt} {rest body : List Stmt}
abbrev Dct.look (d : Dct κ ν) (k : κ) : Option ν := kvLook d.l k
abbrev Dct.put (d : Dct κ ν) (k : κ) (v : ν) : Dct κ ν := ⟨kvPut d.l k v⟩
abbrev Dct.drop (d : Dct κ ν) (k : κ) : Dct κ ν := ⟨kvDrop d.l k⟩
theorem en_dict : EvN X (.Dict [] [] pos) σ F H (Dct.mk ([] : List (κ × ν))) := fun F1 H1 g Q q =>
  GoE.of DKey.new fun p hp => EvN.newO q (.refl g.fh) hp ⟨[], rfl, .nil⟩
theorem ev_dget {m : Dct κ ν} {k : κ} {r : ν} (hu : X.A.units + 1 < cLine) (ha : Ev X a σ F H m) (hb : Ev X b σ F H k) (h : m.look k = some r) (hs : NoSl b := by exact fun _ _ => rfl) : Ev X (.Subscript a b pos) σ F H r := fun F1 H1 g Q q =>
  GoE.of (pe_dget hu pe_go pe_go hs) (ha F1 H1 g _ fun v F2 H2 g2 r2 => hb F2 H2 (g.trans g2) _ fun w F3 H3 g3 r3 => by
    obtain ⟨p, o, kvs, e, hq, kr⟩ := Rp.mono g3.ff r2
    rcases kr.look k with ⟨_, h2⟩ | ⟨v', x, h1, h2, h3⟩
    · rw [Dct.look, h2] at h; cases h
    · rw [Dct.look, h2] at h
      cases h
      exact ⟨p, v', e, h1 ▸ DKey.get g3.fh r3 (.inr ⟨o, g3.fh _ _ hq⟩), q v' F3 H3 (g2.trans g3) h3⟩)
theorem ev_din {m : Dct κ ν} {k : κ} (hu : X.A.units + 1 < cLine) (ha : Ev X a σ F H k) (hb : Ev X b σ F H m) (hmk : behindInMarks .In b = false := by rfl) : Ev X (.Compare a [.In] [b] pos) σ F H (m.look k).isSome := fun F1 H1 g Q q =>
  GoE.of (pe_cmp (pc_din hu pe_go pe_go) hmk) (ha F1 H1 g _ fun v F2 H2 g2 r2 => hb F2 H2 (g.trans g2) _ fun w F3 H3 g3 r3 => by
    obtain ⟨p, o, kvs, e, hq, kr⟩ := r3
    refine ⟨p, kvLook kvs k, e, DKey.get g3.fh (Rp.mono g3.ff r2) (.inr ⟨o, g3.fh _ _ hq⟩), q _ F3 H3 (g2.trans g3) ?_⟩
    rcases kr.look k with ⟨h1, h2⟩ | ⟨v', x, h1, h2, h3⟩ <;> (show V.bl _ = V.bl _) <;> rw [Dct.look, h1, h2] <;> rfl)
theorem et_din {m : Dct κ ν} {k : κ} (hu : X.A.units + 1 < cLine) (ha : Ev X a σ F H k) (hb : Ev X b σ F H m) (hmk : behindInMarks .In b = false := by rfl) : EvT X (.Compare a [.In] [b] pos) σ F H (m.look k).isSome := fun F1 H1 g Q q =>
  GoT.of (pt_cmp (pc_din hu pe_go pe_go) hmk) (ha F1 H1 g _ fun v F2 H2 g2 r2 => hb F2 H2 (g.trans g2) _ fun w F3 H3 g3 r3 => by
    obtain ⟨p, o, kvs, e, hq, kr⟩ := r3
    refine ⟨p, kvLook kvs k, e, DKey.get g3.fh (Rp.mono g3.ff r2) (.inr ⟨o, g3.fh _ _ hq⟩), (m.look k).isSome, ?_, q F3 H3 (g2.trans g3)⟩
    rcases kr.look k with ⟨h1, h2⟩ | ⟨v', x, h1, h2, h3⟩ <;> (show V.bl _ = V.bl _) <;> rw [Dct.look, h1, h2] <;> rfl)
theorem ev_dnotin {m : Dct κ ν} {k : κ} (hu : X.A.units + 1 < cLine) (ha : Ev X a σ F H k) (hb : Ev X b σ F H m) (hmk : behindInMarks .NotIn b = false := by rfl) : Ev X (.Compare a [.NotIn] [b] pos) σ F H (!(m.look k).isSome) := fun F1 H1 g Q q =>
  GoE.of (pe_cmp (pc_dnotin hu pe_go pe_go) hmk) (ha F1 H1 g _ fun v F2 H2 g2 r2 => hb F2 H2 (g.trans g2) _ fun w F3 H3 g3 r3 => by
    obtain ⟨p, o, kvs, e, hq, kr⟩ := r3
    refine ⟨p, kvLook kvs k, e, DKey.get g3.fh (Rp.mono g3.ff r2) (.inr ⟨o, g3.fh _ _ hq⟩), q _ F3 H3 (g2.trans g3) ?_⟩
    rcases kr.look k with ⟨h1, h2⟩ | ⟨v', x, h1, h2, h3⟩ <;> (show V.bl _ = V.bl _) <;> rw [Dct.look, h1, h2] <;> rfl)
theorem et_dnotin {m : Dct κ ν} {k : κ} (hu : X.A.units + 1 < cLine) (ha : Ev X a σ F H k) (hb : Ev X b σ F H m) (hmk : behindInMarks .NotIn b = false := by rfl) : EvT X (.Compare a [.NotIn] [b] pos) σ F H (!(m.look k).isSome) := fun F1 H1 g Q q =>
  GoT.of (pt_cmp (pc_dnotin hu pe_go pe_go) hmk) (ha F1 H1 g _ fun v F2 H2 g2 r2 => hb F2 H2 (g.trans g2) _ fun w F3 H3 g3 r3 => by
    obtain ⟨p, o, kvs, e, hq, kr⟩ := r3
    refine ⟨p, kvLook kvs k, e, DKey.get g3.fh (Rp.mono g3.ff r2) (.inr ⟨o, g3.fh _ _ hq⟩), !(m.look k).isSome, ?_, q F3 H3 (g2.trans g3)⟩
    rcases kr.look k with ⟨h1, h2⟩ | ⟨v', x, h1, h2, h3⟩ <;> (show V.bl _ = V.bl _) <;> rw [Dct.look, h1, h2] <;> rfl)
theorem ev_dget1 [NN ν] {m : Dct κ ν} {k : κ} {apos : Pos} (hu : X.A.units + 1 < cLine) (ha : Ev X a σ F H m) (hb : Ev X b σ F H k) (hm : M1 X a "get" apos b pos := by exact ⟨rfl, rfl, rfl, rfl⟩) : Ev X (.Call (.Attribute a "get" apos) [b] [] pos) σ F H (m.look k) := fun F1 H1 g Q q =>
  GoE.of (pe_dget1 hu pe_go pe_go hm) (ha F1 H1 g _ fun v F2 H2 g2 r2 => by
    obtain ⟨p, o, kvs, e, hq, kr⟩ := id r2
    refine ⟨p, e, DKey.isD (.inr ⟨o, g2.fh _ _ hq⟩), hb F2 H2 (g.trans g2) _ fun w F3 H3 g3 r3 => ⟨kvLook kvs k, DKey.get g3.fh r3 (.inr ⟨o, g3.fh _ _ (g3.ff _ _ hq)⟩), q _ F3 H3 (g2.trans g3) ?_⟩⟩
    rcases kr.look k with ⟨h1, h2⟩ | ⟨v', x, h1, h2, h3⟩
    · rw [Dct.look, h1, h2]; rfl
    · rw [Dct.look, h1, h2]; exact Rp.mono (α := ν) g3.ff h3)
theorem ev_dget2 {m : Dct κ ν} {k : κ} {z : ν} {apos : Pos} (hu : X.A.units + 1 < cLine) (ha : Ev X a σ F H m) (hb : Ev X b σ F H k) (hc : Ev X c σ F H z) (hm : M2 X a "get" apos b c pos := by exact ⟨rfl, rfl, rfl, rfl⟩) : Ev X (.Call (.Attribute a "get" apos) [b, c] [] pos) σ F H ((m.look k).getD z) := fun F1 H1 g Q q =>
  GoE.of (pe_dget2 hu pe_go pe_go pe_go hm) (ha F1 H1 g _ fun v F2 H2 g2 r2 => by
    obtain ⟨p, o, kvs, e, hq, kr⟩ := id r2
    refine ⟨p, e, DKey.isD (.inr ⟨o, g2.fh _ _ hq⟩), hb F2 H2 (g.trans g2) _ fun w F3 H3 g3 r3 => hc F3 H3 ((g.trans g2).trans g3) _ fun u F4 H4 g4 r4 => ⟨kvLook kvs k, DKey.get g4.fh (Rp.mono g4.ff r3) (.inr ⟨o, g4.fh _ _ (g4.ff _ _ (g3.ff _ _ hq))⟩), q _ F4 H4 ((g2.trans g3).trans g4) ?_⟩⟩
    rcases kr.look k with ⟨h1, h2⟩ | ⟨v', x, h1, h2, h3⟩
    · rw [Dct.look, h1, h2]; exact r4
    · rw [Dct.look, h1, h2]; exact Rp.mono (α := ν) (g3.ff.trans g4.ff) h3)
/-- d[k] = v, d a private dict -/
def dputG (m : Dct κ ν) (k : κ) (v : ν) : Option (Dct κ ν) := if m.l.length < sizeLine then some (m.put k v) else none
theorem dputG_of {m r : Dct κ ν} {k : κ} {v : ν} (h : dputG m k v = some r) : m.l.length < sizeLine ∧ m.put k v = r := by
  unfold dputG at h; split at h
  · exact ⟨by assumption, Option.some.inj h⟩
  · cases h
theorem go_dput {m r : Dct κ ν} {k : κ} {x : ν} {l : Addr} {n : Str} {p1 p2 : Pos} (i : Nat) (s : L2.Same F H) (hu : X.A.units + 1 < cLine) (o : Own X.K H0 F H l m) (hσ : σ[i]? = some (some (.ref l))) (hv : Ev X e σ F H x) (hk : Ev X b σ F H k) (h : dputG m k x = some r)
    (q : ∀ u F' H', Gr F H F' H' → H' l ≠ none → F' l = none → Own X.K H0 F' (upd H' l u) l r → GoS X rest D σ (upd H' l u)) (hN : X.N[i]? = some n := by rfl) (hvis : Vis X.env.scope n := by first | exact Or.inl rfl | exact Or.inr (Or.inl rfl) | exact Or.inr (Or.inr rfl))
    (hd : (n == ("__debug__" : Str)) = false := by decide) (hcd : (n == ("__classdict__" : Str)) = false := by decide) (hs : NoSl b := by exact fun _ _ => rfl) (hsw : swapsWith e (some (.Subscript (.Name n p1) b p2)) pos.line X.env = pure false := by rfl) :
    GoS X (.Assign [.Subscript (.Name n p1) b p2] e pos :: rest) D σ H := by
  obtain ⟨hl, rfl⟩ := dputG_of h
  refine GoS.cons (ps_dput hu (pe_var hN hvis hd hcd) pe_go pe_go hsw) (hv F H (.refl s) _ fun v F2 H2 g2 r2 => ⟨_, hσ, hk F2 H2 g2 _ fun w F3 H3 g3 r3 => ?_⟩)
  have o3 := (o.up g2).up g3
  obtain ⟨_, h3, kvs, rfl, kr⟩ := o3.h
  have hlen : kvs.length = m.l.length := Paired.length kr
  exact ⟨l, _, rfl, DKey.put g3.fh r3 h3 (by rw [hlen]; exact hl), q _ F3 H3 (g2.trans g3) o3.ne0 o3.f (Own.set o3.n o3.f ⟨_, rfl, kr.put (Rp.mono g3.ff r2)⟩)⟩
end
end Gx

/-! Gg: dicts, further. -/
namespace Gx
open PySem PySem.Spec PyProof.Rows L2
open Rp (rp)
open Ra (ra)
open Ob (ob)
theorem KR.fl {κ ν : Type} [Rp ν] [Flat ν] {K : PySem.W.Frag} {F : Hp} {l : Addr} {kvs : List (κ × V)} {m : List (κ × ν)} (h1 : ∀ xs, ¬ F l = some (.tup xs)) (h2 : ∀ o xs, ¬ F l = some (.frz o (.tup xs))) (h : KR K F kvs m) : KR K (er F l) kvs m := Paired.mapP h fun _ _ ⟨e, r⟩ => ⟨e, Flat.fl h1 h2 r⟩
instance {κ ν : Type} [Rp κ] [DecidableEq κ] [DKey κ] [Rp ν] [Flat ν] : FlatO (Dct κ ν) := ⟨fun h1 h2 ⟨kvs, e, r⟩ => ⟨kvs, e, KR.fl h1 h2 r⟩⟩
instance {α : Type} [Rp α] [Flat α] : Flat (Tn α) := ⟨fun {K F l v x} h1 h2 ⟨a, vs, o, e, q, d, c, r⟩ => ⟨a, vs, o, e, by unfold er; rw [if_neg (show ¬ a = l from fun z => h2 o vs (z ▸ q))]; exact q, d, c, Rps.fl h1 h2 r⟩⟩
instance {α : Type} [Rp α] [Pd α] : Pd (Tn α) := ⟨fun xs => .tuple (xs.l.map Pd.toD), fun ⟨a, vs, o, e, sq, _, _, rs⟩ => e ▸ .tup (.inl (.inr ⟨o, sq⟩)) (Dp.all rs), fun x y => by
  rw [PyData.eqv]
  cases x; cases y
  rw [eqvAll_iff, Tn.mk.injEq]⟩
instance {α : Type} [Rp α] [Pd α] [PdS α] : PdS (Tn α) := ⟨PdS.dep α + 1, fun x => by
  show (PyData.depthAll (x.l.map Pd.toD)) + 1 ≤ _
  exact Nat.succ_le_succ (dpAll_le x.l)⟩
instance {α : Type} [Rp α] [Pd α] [PdF α] : PdF (Tn α) := ⟨fun x => layAll fun y _ => PdF.ok y⟩
section
variable {κ ν : Type} [Rp κ] [DecidableEq κ] [Rp ν]
variable {X : Cx} {K : PySem.W.Frag} {e a b c d : Expr} {es : List Expr} {σ : L2.St} {F H F0 H0 : Hp} {pos : Pos} {D : Ends} {st : Stmt} {rest body : List Stmt}
def Dct.keys (m : Dct κ ν) : List κ := m.l.map (·.1)
def Dct.vals (m : Dct κ ν) : List ν := m.l.map (·.2)
def Dct.items (m : Dct κ ν) : List (T2 κ ν) := m.l.map fun p => ⟨p.1, p.2⟩
theorem KR.get : ∀ {kvs : List (κ × V)} {l : List (κ × ν)} {i : Nat} {p : κ × ν}, KR K F kvs l → l[i]? = some p → ∃ v, kvs[i]? = some (p.1, v) ∧ rp K F v p.2
  | _, _, _, _, .nil, h => by simp at h
  | _, _, 0, p, .cons (a := q) ⟨e, r⟩ _, h => by
    simp at h; subst h
    exact ⟨q.2, by rw [← e]; simp, r⟩
  | _, _, i + 1, p, .cons _ t, h => by
    obtain ⟨v, h1, h2⟩ := KR.get t (by simpa using h)
    exact ⟨v, by simpa using h1, h2⟩
theorem same_tup {q : Addr} {xs : List V} (s : L2.Same F H) (h : H q = some (.tup xs)) : ∃ F', Gr F H F' H ∧ F' q = some (.tup xs) := by
  cases e : F q with
  | some u =>
    have := s _ _ e
    rw [h] at this; cases this
    exact ⟨F, .refl s, e⟩
  | none =>
    refine ⟨upd F q (.tup xs), ⟨same_upd e, fun b u z => ?_, .refl _, fun x o hx n => ?_⟩, upd_same⟩
    · by_cases hb : b = q
      · subst hb; rw [upd_same] at z; cases z; exact h
      · rw [upd_ne hb] at z; exact s _ _ z
    · by_cases hb : x = q
      · subst hb; rw [h] at hx; cases hx; exact n.elim
      · rw [upd_ne hb]
theorem ei_keysS [KeyS κ] {m : Dct κ ν} {tg : Expr} (h : Ev X e σ F H m) : EvI X tg e σ F H m.keys := fun F1 H1 g R q =>
  GoI.of (pi_keys pe_go) (h F1 H1 g _ fun v F2 H2 g2 r2 => by
    obtain ⟨p, o, kvs, e, hq, kr⟩ := r2
    refine ⟨p, o, e, .inl ⟨_, g2.fh _ _ hq, q _ F2 H2 g2 fun i Fi Hi s1 s2 => ?_⟩⟩
    have hd := s2 _ _ (s1 _ _ hq)
    have hl : kvs.length = m.l.length := Paired.length kr
    refine ⟨fun x hx => ?_, fun e => ⟨hd, by rw [e, kvm_len, hl, Dct.keys, List.length_map]; exact Nat.le_refl _⟩⟩
    rw [Dct.keys, List.getElem?_map] at hx
    obtain ⟨pr, hpr, rfl⟩ := Option.map_eq_some_iff.mp hx
    obtain ⟨w, hw, _⟩ := kr.get hpr
    have hk : (kvm KeyS.g kvs)[i]? = some (KeyS.g pr.1, w) := by rw [kvm, List.getElem?_map, hw]; rfl
    refine ⟨⟨hd, (List.getElem?_eq_some_iff.mp hk).1⟩, fun v H' ⟨e1, k, v', e2, e3⟩ => ?_⟩
    subst e1
    rw [hk] at e2; cases e2
    exact ⟨Fi, .refl s2, KeyS.rpg.mpr e3⟩)
theorem ei_keysT [KeyT κ] {m : Dct κ ν} {tg : Expr} (h : Ev X e σ F H m) : EvI X tg e σ F H m.keys := fun F1 H1 g R q =>
  GoI.of (pi_keys pe_go) (h F1 H1 g _ fun v F2 H2 g2 r2 => by
    obtain ⟨p, o, kvs, e, hq, kr⟩ := r2
    refine ⟨p, o, e, .inr ⟨_, g2.fh _ _ hq, q _ F2 H2 g2 fun i Fi Hi s1 s2 => ?_⟩⟩
    have hd := s2 _ _ (s1 _ _ hq)
    have hl : kvs.length = m.l.length := Paired.length kr
    refine ⟨fun x hx => ?_, fun e => ⟨hd, by rw [e, kvm_len, hl, Dct.keys, List.length_map]; exact Nat.le_refl _⟩⟩
    rw [Dct.keys, List.getElem?_map] at hx
    obtain ⟨pr, hpr, rfl⟩ := Option.map_eq_some_iff.mp hx
    obtain ⟨w, hw, _⟩ := kr.get hpr
    have hk : (kvm KeyT.g kvs)[i]? = some (KeyT.g pr.1, w) := by rw [kvm, List.getElem?_map, hw]; rfl
    refine ⟨⟨hd, (List.getElem?_eq_some_iff.mp hk).1⟩, fun v H' ⟨e1, k, v', qa, e2, e3, e4⟩ => ?_⟩
    subst e1
    rw [hk] at e2; cases e2
    obtain ⟨F', g', hF⟩ := same_tup s2 e4
    exact ⟨F', g', KeyT.rpg.mpr ⟨qa, e3, hF⟩⟩)
theorem ei_vals [KeyS κ] {m : Dct κ ν} {tg : Expr} {apos : Pos} (h : Ev X e σ F H m) (hbase : attributeBase e "values" X.env (eval e X.env) = eval e X.env := by rfl) (hline : (apos.endLine == pos.line) = true := by rfl) : EvI X tg (.Call (.Attribute e "values" apos) [] [] pos) σ F H m.vals := fun F1 H1 g R q =>
  GoI.of (pi_values pe_go hbase hline) (h F1 H1 g _ fun v F2 H2 g2 r2 => by
    obtain ⟨p, o, kvs, e, hq, kr⟩ := r2
    refine ⟨p, o, _, e, g2.fh _ _ hq, q _ F2 H2 g2 fun i Fi Hi s1 s2 => ?_⟩
    have hd := s2 _ _ (s1 _ _ hq)
    have hl : kvs.length = m.l.length := Paired.length kr
    refine ⟨fun x hx => ?_, fun e => ⟨hd, by rw [e, kvm_len, hl, Dct.vals, List.length_map]; exact Nat.le_refl _⟩⟩
    rw [Dct.vals, List.getElem?_map] at hx
    obtain ⟨pr, hpr, rfl⟩ := Option.map_eq_some_iff.mp hx
    obtain ⟨w, hw, rw'⟩ := kr.get hpr
    have hk : (kvm KeyS.g kvs)[i]? = some (KeyS.g pr.1, w) := by rw [kvm, List.getElem?_map, hw]; rfl
    refine ⟨⟨hd, (List.getElem?_eq_some_iff.mp hk).1⟩, fun v H' ⟨e1, k, e2⟩ => ?_⟩
    subst e1
    rw [hk] at e2; cases e2
    exact ⟨Fi, .refl s2, Rp.mono s1 rw'⟩)
theorem ei_items [KeyS κ] {m : Dct κ ν} {apos tpos : Pos} {elts : List Expr} {kk : Nat} (h : Ev X e σ F H m) (hbase : attributeBase e "items" X.env (eval e X.env) = eval e X.env := by rfl) (hline : (apos.endLine == pos.line) = true := by rfl) : EvI X (.Tuple elts kk tpos) (.Call (.Attribute e "items" apos) [] [] pos) σ F H m.items := fun F1 H1 g R q =>
  GoI.of (pi_items pe_go hbase hline) (h F1 H1 g _ fun v F2 H2 g2 r2 => by
    obtain ⟨p, o, kvs, e, hq, kr⟩ := r2
    refine ⟨p, o, _, e, g2.fh _ _ hq, q _ F2 H2 g2 fun i Fi Hi s1 s2 => ?_⟩
    have hd := s2 _ _ (s1 _ _ hq)
    have hl : kvs.length = m.l.length := Paired.length kr
    refine ⟨fun x hx => ?_, fun e => ⟨hd, by rw [e, kvm_len, hl, Dct.items, List.length_map]; exact Nat.le_refl _⟩⟩
    rw [Dct.items, List.getElem?_map] at hx
    obtain ⟨pr, hpr, rfl⟩ := Option.map_eq_some_iff.mp hx
    obtain ⟨w, hw, rw'⟩ := kr.get hpr
    have hk : (kvm KeyS.g kvs)[i]? = some (KeyS.g pr.1, w) := by rw [kvm, List.getElem?_map, hw]; rfl
    refine ⟨⟨hd, (List.getElem?_eq_some_iff.mp hk).1⟩, fun v H' ⟨T, k, v', e2, e3, e4, e5⟩ => ?_⟩
    subst e3; subst e5
    rw [hk] at e2; cases e2
    exact pair_new s2 e4 (KeyS.rpg.mpr rfl) (Rp.mono s1 rw'))
theorem en_dictOf [KeyS κ] {m : Dct κ ν} {p : Pos} (hm : X.mg "dict" = none) (ha : Ev X a σ F H m) (hg : Gl X "dict" := by rfl) (hs : starEach [a] X.env = (false, eval a X.env) :: starEach [] X.env := by rfl) (hpl : (backTo pos (starEach [] X.env)).any (·.1) = false := by rfl) :
    EvN X (.Call (.Name "dict" p) [a] [] pos) σ F H m := fun F1 H1 g Q q =>
  GoE.of (pe_callTy call_dictD hg hm (by decide +kernel) (pa_cons pe_go pa_nil hs) (by decide) (by decide) hs hpl) (ha F1 H1 g _ fun v F2 H2 g2 r2 => by
    obtain ⟨p, o, kvs, e, hq, kr⟩ := r2
    exact ⟨p, _, by rw [e], .inr ⟨o, g2.fh _ _ hq⟩, fun p' hp => EvN.newO q g2 hp ⟨kvs, rfl, kr⟩⟩)
/-! ### dicts that are equal -/
def rEqR : R2 := fun x y H Q => ∃ a b ks ls, x = .ref a ∧ y = .ref b ∧ Rd H a (.dK ks) ∧ Rd H b (.dK ls) ∧ ks.length = ls.length ∧ (∀ p ∈ ks, valV ls p.1 = some p.2 ∧ flatB p.2 = true) ∧ Q (.bl true) H
def rNeR : R2 := fun x y H Q => ∃ a b ks ls, x = .ref a ∧ y = .ref b ∧ Rd H a (.dK ks) ∧ Rd H b (.dK ls) ∧ ks.length = ls.length ∧ (∀ p ∈ ks, valV ls p.1 = some p.2 ∧ flatB p.2 = true) ∧ Q (.bl false) H
theorem op_eqR (hu : X.A.units < cLine) : OpR X (compareOp .Eq) rEqR := fun pins s σ H x y v u Q I rx ry h => by
  obtain ⟨a, b, ks, ls, rfl, rfl, ea, eb, hlen, hp, q⟩ := h
  cases rx; cases ry
  obtain ⟨_, n1, m1, r1, d1⟩ := ea.ok I.hok
  obtain ⟨_, n2, m2, r2, d2⟩ := eb.ok I.hok
  have e : m1.length = m2.length := by rw [← Paired.length r1, ← Paired.length r2]; exact hlen
  exact PySem.W.keq_eq (knd := mixKind X.prog X.w) (r := true) n1 n2 d1 d2 hu (fun _ => hits_all r2 r1 hp) (fin_bl I q (by simp [e]))
theorem op_neR (hu : X.A.units < cLine) : OpR X (compareOp .NotEq) rNeR := fun pins s σ H x y v u Q I rx ry h => by
  obtain ⟨a, b, ks, ls, rfl, rfl, ea, eb, hlen, hp, q⟩ := h
  cases rx; cases ry
  obtain ⟨_, n1, m1, r1, d1⟩ := ea.ok I.hok
  obtain ⟨_, n2, m2, r2, d2⟩ := eb.ok I.hok
  have e : m1.length = m2.length := by rw [← Paired.length r1, ← Paired.length r2]; exact hlen
  exact PySem.W.keq_ne (knd := mixKind X.prog X.w) (r := true) n1 n2 d1 d2 hu (fun _ => hits_all r2 r1 hp) (fin_bl I q (by simp [e]))
theorem flat_kV (k : Key) : flatB (kV k) = true := by cases k <;> rfl
variable [KeyS κ] [KeyS ν] [DecidableEq ν]
def Dct.alike (m n : Dct κ ν) : Prop := m.l.length = n.l.length ∧ ∀ p ∈ m.l, kvLook n.l p.1 = some p.2
instance (m n : Dct κ ν) : Decidable (m.alike n) := inferInstanceAs (Decidable (_ ∧ _))
def deqG (m n : Dct κ ν) : Option Bool := if m.alike n then some true else none
theorem KR.mem {kvs : List (κ × V)} {l : List (κ × ν)} {q : κ × V} (h : KR K F kvs l) (hq : q ∈ kvs) : ∃ p ∈ l, p.1 = q.1 ∧ rp K F q.2 p.2 := by
  induction h with
  | nil => cases hq
  | cons r t ih =>
    rcases List.mem_cons.mp hq with e | hq
    · subst e; exact ⟨_, List.mem_cons_self, r.1.symm, r.2⟩
    · obtain ⟨p, h1, h2⟩ := ih hq
      exact ⟨p, List.mem_cons_of_mem _ h1, h2⟩
theorem alike_vals {m n : Dct κ ν} {ks ls : List (κ × V)} (h : m.alike n) (h1 : KR K F ks m.l) (h2 : KR K F ls n.l) : ∀ p ∈ kvm KeyS.g ks, valV (kvm KeyS.g ls) p.1 = some p.2 ∧ flatB p.2 = true := fun p hp => by
  obtain ⟨q, hq, rfl⟩ := List.mem_map.mp hp
  obtain ⟨r, hr, e, hv⟩ := h1.mem hq
  have h3 := h.2 r hr
  rw [kvm_val KeyS.inj]
  rcases h2.look q.1 with ⟨_, h5⟩ | ⟨v, x, h4, h5, h6⟩
  · rw [e] at h3; rw [h5] at h3; cases h3
  · rw [e] at h3; rw [h5] at h3; cases h3
    rw [h4]
    have e1 := KeyS.rpg.mp h6
    have e2 := KeyS.rpg.mp hv
    refine ⟨?_, ?_⟩
    · show some v = some q.2
      rw [e1, e2]
    · show flatB q.2 = true
      rw [e2]; exact flat_kV _
theorem o2_eqR {m n : Dct κ ν} {r : Bool} (h : deqG m n = some r) : Op2 K rEqR m n r := fun F H v w Q s rv rw' k => by
  unfold deqG at h
  split at h
  case isFalse => cases h
  rename_i ha
  obtain ⟨a, o, ks, e, hq, kr⟩ := rv
  obtain ⟨a', o', ls, e', hq', kr'⟩ := rw'
  have l1 : ks.length = m.l.length := Paired.length kr
  have l2 : ls.length = n.l.length := Paired.length kr'
  exact ⟨a, a', _, _, e, e', .inr ⟨o, s _ _ hq⟩, .inr ⟨o', s _ _ hq'⟩, by rw [kvm_len, kvm_len, l1, l2]; exact ha.1, alike_vals ha kr kr', k _ F H (.refl s) (congrArg V.bl (Option.some.inj h))⟩
theorem o2_neR {m n : Dct κ ν} {r : Bool} (h : deqG m n = some r) : Op2 K rNeR m n (!r) := fun F H v w Q s rv rw' k => by
  unfold deqG at h
  split at h
  case isFalse => cases h
  rename_i ha
  obtain ⟨a, o, ks, e, hq, kr⟩ := rv
  obtain ⟨a', o', ls, e', hq', kr'⟩ := rw'
  have l1 : ks.length = m.l.length := Paired.length kr
  have l2 : ls.length = n.l.length := Paired.length kr'
  exact ⟨a, a', _, _, e, e', .inr ⟨o, s _ _ hq⟩, .inr ⟨o', s _ _ hq'⟩, by rw [kvm_len, kvm_len, l1, l2]; exact ha.1, alike_vals ha kr kr', k _ F H (.refl s) (congrArg (fun t => V.bl (!t)) (Option.some.inj h))⟩
end
section
theorem room1 {k : Nat} {A : Around} (r : Room k A) : A.units + 1 < cLine := by have := r.un; omega
theorem room65 {k : Nat} {A : Around} (r : Room k A) : A.units + 65 < cLine := by have := r.un; omega
variable {α : Type} [Rp α] {X : Cx} {K : PySem.W.Frag} {e a b c d : Expr} {es : List Expr} {σ : L2.St} {F H F0 H0 : Hp} {pos : Pos}
theorem Ev.re {β : Type} [Rp β] {x : α} {y : β} (h : Ev X e σ F H x) (f : ∀ (F : Hp) (v : V), rp X.K F v x → rp X.K F v y) : Ev X e σ F H y := fun F1 H1 g Q q => h F1 H1 g Q fun v F2 H2 g2 r => q v F2 H2 g2 (f _ _ r)
theorem tp1 {F : Hp} {v : V} {x : T1 α} (h : rp K F v x) : rp K F v (Tp.mk [x.a]) := by
  obtain ⟨p, vs, e, q, v1, w1, e1, r1, e2⟩ := h
  have e2 : w1 = [] := e2
  subst e2; subst e1
  exact ⟨p, _, e, q, .cons r1 .nil⟩
theorem tp2 {F : Hp} {v : V} {x : T2 α α} (h : rp K F v x) : rp K F v (Tp.mk [x.a, x.b]) := by
  obtain ⟨p, vs, e, q, v1, w1, e1, r1, v2, w2, e2, r2, e3⟩ := h
  have e3 : w2 = [] := e3
  subst e3; subst e2; subst e1
  exact ⟨p, _, e, q, .cons r1 (.cons r2 .nil)⟩
theorem tp3 {F : Hp} {v : V} {x : T3 α α α} (h : rp K F v x) : rp K F v (Tp.mk [x.a, x.b, x.c]) := by
  obtain ⟨p, vs, e, q, v1, w1, e1, r1, v2, w2, e2, r2, v3, w3, e3, r3, e4⟩ := h
  have e4 : w3 = [] := e4
  subst e4; subst e3; subst e2; subst e1
  exact ⟨p, _, e, q, .cons r1 (.cons r2 (.cons r3 .nil))⟩
theorem tp4 {F : Hp} {v : V} {x : T4 α α α α} (h : rp K F v x) : rp K F v (Tp.mk [x.a, x.b, x.c, x.d]) := by
  obtain ⟨p, vs, e, q, v1, w1, e1, r1, v2, w2, e2, r2, v3, w3, e3, r3, v4, w4, e4, r4, e5⟩ := h
  have e5 : w4 = [] := e5
  subst e5; subst e4; subst e3; subst e2; subst e1
  exact ⟨p, _, e, q, .cons r1 (.cons r2 (.cons r3 (.cons r4 .nil)))⟩
theorem tp5 {F : Hp} {v : V} {x : T5 α α α α α} (h : rp K F v x) : rp K F v (Tp.mk [x.a, x.b, x.c, x.d, x.e]) := by
  obtain ⟨p, vs, e, q, v1, w1, e1, r1, v2, w2, e2, r2, v3, w3, e3, r3, v4, w4, e4, r4, v5, w5, e5, r5, e6⟩ := h
  have e6 : w5 = [] := e6
  subst e6; subst e5; subst e4; subst e3; subst e2; subst e1
  exact ⟨p, _, e, q, .cons r1 (.cons r2 (.cons r3 (.cons r4 (.cons r5 .nil))))⟩
theorem Ev.tp1 {x : T1 α} (h : Ev X e σ F H x) : Ev X e σ F H (Tp.mk [x.a]) := h.re fun _ _ => Gx.tp1
theorem Ev.tp2 {x : T2 α α} (h : Ev X e σ F H x) : Ev X e σ F H (Tp.mk [x.a, x.b]) := h.re fun _ _ => Gx.tp2
theorem Ev.tp3 {x : T3 α α α} (h : Ev X e σ F H x) : Ev X e σ F H (Tp.mk [x.a, x.b, x.c]) := h.re fun _ _ => Gx.tp3
theorem Ev.tp4 {x : T4 α α α α} (h : Ev X e σ F H x) : Ev X e σ F H (Tp.mk [x.a, x.b, x.c, x.d]) := h.re fun _ _ => Gx.tp4
theorem Ev.tp5 {x : T5 α α α α α} (h : Ev X e σ F H x) : Ev X e σ F H (Tp.mk [x.a, x.b, x.c, x.d, x.e]) := h.re fun _ _ => Gx.tp5
end
end Gx
namespace Gx
open PySem PySem.Spec PyProof.Rows L2
open Rp (rp)
open Ra (ra)
open Ob (ob)
section
variable {κ ν : Type} [Rp κ] [DecidableEq κ] [KeyS κ] [Rp ν]
variable {X : Cx} {K : PySem.W.Frag} {e a b c d : Expr} {σ : L2.St} {F H F0 H0 : Hp} {pos : Pos} {ks : List (Option Expr)} {vs : List Expr}
/-! ### displays of dicts -/
abbrev PR (K : PySem.W.Frag) (F : Hp) : List (V × V) → List (κ × ν) → Prop := Paired fun p q => rp K F p.1 q.1 ∧ rp K F p.2 q.2
theorem PR.mono {F' : Hp} {ps : List (V × V)} {l : List (κ × ν)} (s : L2.Same F F') (h : PR K F ps l) : PR K F' ps l := Paired.mapP h fun _ _ ⟨e, r⟩ => ⟨Rp.mono s e, Rp.mono s r⟩
def EvP (X : Cx) (pos : Pos) (ks : List (Option Expr)) (vs : List Expr) (σ : L2.St) (F H : Hp) (l : List (κ × ν)) : Prop := ∃ trs, PPs X pos ks vs trs ∧ ∀ F1 H1, Gr F H F1 H1 → ∀ Q : List (V × V) → Hp → Prop, (∀ ps F2 H2, Gr F1 H1 F2 H2 → PR X.K F2 ps l → Q ps H2) → tPairs trs σ H1 Q
theorem ep_nil : EvP X pos [] [] σ F H ([] : List (κ × ν)) := ⟨[], pps_nil, fun F1 H1 g Q q => q [] F1 H1 (.refl g.fh) .nil⟩
theorem ep_cons {k : κ} {x : ν} {l : List (κ × ν)} (ha : Ev X a σ F H k) (hb : Ev X b σ F H x) (hr : EvP X pos ks vs σ F H l) : EvP X pos (some a :: ks) (b :: vs) σ F H ((k, x) :: l) := by
  obtain ⟨trs, h1, h2⟩ := hr
  exact ⟨_, pps_cons pe_go pe_go h1, fun F1 H1 g Q q => ha F1 H1 g _ fun v F2 H2 g2 r2 => hb F2 H2 (g.trans g2) _ fun w F3 H3 g3 r3 => h2 F3 H3 ((g.trans g2).trans g3) _ fun ps F4 H4 g4 r4 =>
    q _ F4 H4 ((g2.trans g3).trans g4) (.cons ⟨Rp.mono (g3.ff.trans g4.ff) r2, Rp.mono g4.ff r3⟩ r4)⟩
def kvMerge (l : List (κ × ν)) : List (κ × ν) := l.foldl (fun acc p => kvPut acc p.1 p.2) []
theorem pr_kv {ps : List (V × V)} {l : List (κ × ν)} (h : PR K F ps l) : ∃ ws : List (κ × V), KR K F ws l ∧ ps = (kvm KeyS.g ws).map fun kv => (kV kv.1, kv.2) := by
  induction h with
  | nil => exact ⟨[], .nil, rfl⟩
  | @cons p q ps l r t ih =>
    obtain ⟨ws, h1, h2⟩ := ih
    refine ⟨(q.1, p.2) :: ws, .cons ⟨rfl, r.2⟩ h1, ?_⟩
    rw [h2]
    show p :: _ = (kV (KeyS.g q.1), p.2) :: _
    rw [← KeyS.rpg.mp r.1]
theorem mergeK_kvm : ∀ (ws acc : List (κ × V)), mergeK (kvm KeyS.g acc) (kvm KeyS.g ws) = kvm KeyS.g (ws.foldl (fun acc p => kvPut acc p.1 p.2) acc)
  | [], acc => rfl
  | p :: r, acc => by
    rw [List.foldl_cons, ← mergeK_kvm r, ← kvm_put KeyS.inj]; rfl
theorem KR.merge : ∀ {ws : List (κ × V)} {l : List (κ × ν)} {acc : List (κ × V)} {acc' : List (κ × ν)}, KR K F ws l → KR K F acc acc' → KR K F (ws.foldl (fun acc p => kvPut acc p.1 p.2) acc) (l.foldl (fun acc p => kvPut acc p.1 p.2) acc')
  | _, _, _, _, .nil, h => h
  | _, _, _, _, .cons (a := p) (b := q) ⟨e, r⟩ t, h => by
    rw [List.foldl_cons, List.foldl_cons, e]
    exact KR.merge t (h.put r)
theorem en_disp {l : List (κ × ν)} (h : EvP X pos ks vs σ F H l) (h15 : l.length ≤ 15) (hall : ks.all (·.isSome) = true := by rfl) (hl : ks.length = vs.length := by rfl) (h0 : ks ≠ [] := by exact fun h => nomatch h) (hk : ks.length ≤ 15 := by decide) : EvN X (.Dict ks vs pos) σ F H (Dct.mk (kvMerge l)) := fun F1 H1 g Q q => by
  obtain ⟨trs, h1, h2⟩ := h
  refine GoE.of (pe_disp h1 hall hl h0 hk) fun p hp => ?_
  have gp := Gr.newP (o := .dK []) g.fh hp
  refine h2 F1 _ (g.trans gp) _ fun ps F2 H2 g2 r2 => ?_
  obtain ⟨ws, k1, k2⟩ := pr_kv r2
  have hlen : ws.length = l.length := Paired.length k1
  have hp2 : H2 p = some (.dK []) := g2.hh _ _ upd_same
  refine ⟨hp2, kvm KeyS.g ws, k2, by rw [kvm_len, hlen]; exact h15, ?_⟩
  have f2 : F2 p = none := (g2.fr p _ upd_same trivial).trans (g.fh.free hp)
  refine q p _ F2 _ ((gp.trans g2).poke hp f2) hp f2 upd_same ⟨_, congrArg HO.dK (mergeK_kvm ws []), KR.merge k1 .nil⟩
end
end Gx
namespace Gx
open PySem PySem.Spec PyProof.Rows L2
open Rp (rp)
section
variable {X : Cx} {K : PySem.W.Frag} {a b : Expr} {σ : L2.St} {F H : Hp} {pos : Pos} {α : Type} [Rp α]
theorem ipos {α : Type} {c : Prop} [Decidable c] {x y r : α} (h : c) (e : (if c then x else y) = r) : x = r := by rw [if_pos h] at e; exact e
theorem ineg {α : Type} {c : Prop} [Decidable c] {x y r : α} (h : ¬ c) (e : (if c then x else y) = r) : y = r := by rw [if_neg h] at e; exact e
theorem btf {b : Bool} (h1 : b = true) (h2 : b = false) : False := by rw [h1] at h2; cases h2
theorem rp_of_some [NN α] {v : V} {x : α} (h : rp (α := Option α) K F v (some x)) : rp K F v x := h
variable [Pd α] [DecidableEq α]
theorem ev_eqD {x y : α} {r : Bool} (ha : Ev X a σ F H x) (hb : Ev X b σ F H y) (h : eqG x y = some r) (hu : X.A.units + 64 < cLine) : Ev X (.Compare a [.Eq] [b] pos) σ F H r := ev_cmp (op_eqD hu) (o2_eqD h) ha hb (nomark _)
theorem ev_neD {x y : α} {r : Bool} (ha : Ev X a σ F H x) (hb : Ev X b σ F H y) (h : eqG x y = some r) (hu : X.A.units + 64 < cLine) : Ev X (.Compare a [.NotEq] [b] pos) σ F H (!r) := ev_cmp (op_neD hu) (o2_neD h) ha hb (nomark _)
theorem et_eqD {x y : α} {r : Bool} (ha : Ev X a σ F H x) (hb : Ev X b σ F H y) (h : eqG x y = some r) (hu : X.A.units + 64 < cLine) : EvT X (.Compare a [.Eq] [b] pos) σ F H r := et_cmp (op_eqD hu) (o2_eqD h) ha hb (nomark _)
theorem et_neD {x y : α} {r : Bool} (ha : Ev X a σ F H x) (hb : Ev X b σ F H y) (h : eqG x y = some r) (hu : X.A.units + 64 < cLine) : EvT X (.Compare a [.NotEq] [b] pos) σ F H (!r) := et_cmp (op_neD hu) (o2_neD h) ha hb (nomark _)
theorem ev_inD {x : α} {y : List α} {r : Bool} (ha : Ev X a σ F H x) (hb : Ev X b σ F H y) (h : inG x y = some r) (hu : X.A.units + 65 < cLine) (hm : behindInMarks .In b = false := by rfl) : Ev X (.Compare a [.In] [b] pos) σ F H r := ev_cmp (op_inD hu) (o2_inD h) ha hb hm
theorem ev_notInD {x : α} {y : List α} {r : Bool} (ha : Ev X a σ F H x) (hb : Ev X b σ F H y) (h : inG x y = some r) (hu : X.A.units + 65 < cLine) (hm : behindInMarks .NotIn b = false := by rfl) : Ev X (.Compare a [.NotIn] [b] pos) σ F H (!r) := ev_cmp (op_notInD hu) (o2_notInD h) ha hb hm
theorem et_inD {x : α} {y : List α} {r : Bool} (ha : Ev X a σ F H x) (hb : Ev X b σ F H y) (h : inG x y = some r) (hu : X.A.units + 65 < cLine) (hm : behindInMarks .In b = false := by rfl) : EvT X (.Compare a [.In] [b] pos) σ F H r := et_cmp (op_inD hu) (o2_inD h) ha hb hm
theorem et_notInD {x : α} {y : List α} {r : Bool} (ha : Ev X a σ F H x) (hb : Ev X b σ F H y) (h : inG x y = some r) (hu : X.A.units + 65 < cLine) (hm : behindInMarks .NotIn b = false := by rfl) : EvT X (.Compare a [.NotIn] [b] pos) σ F H (!r) := et_cmp (op_notInD hu) (o2_notInD h) ha hb hm
end
section
variable {X : Cx} {a b : Expr} {σ : L2.St} {F H : Hp} {pos : Pos} {κ ν : Type} [Rp κ] [Rp ν] [DecidableEq κ] [DecidableEq ν] [KeyS κ] [KeyS ν]
theorem ev_eqR {x y : Dct κ ν} {r : Bool} (ha : Ev X a σ F H x) (hb : Ev X b σ F H y) (h : deqG x y = some r) (hu : X.A.units < cLine) : Ev X (.Compare a [.Eq] [b] pos) σ F H r := ev_cmp (op_eqR hu) (o2_eqR h) ha hb (nomark _)
theorem ev_neR {x y : Dct κ ν} {r : Bool} (ha : Ev X a σ F H x) (hb : Ev X b σ F H y) (h : deqG x y = some r) (hu : X.A.units < cLine) : Ev X (.Compare a [.NotEq] [b] pos) σ F H (!r) := ev_cmp (op_neR hu) (o2_neR h) ha hb (nomark _)
theorem et_eqR {x y : Dct κ ν} {r : Bool} (ha : Ev X a σ F H x) (hb : Ev X b σ F H y) (h : deqG x y = some r) (hu : X.A.units < cLine) : EvT X (.Compare a [.Eq] [b] pos) σ F H r := et_cmp (op_eqR hu) (o2_eqR h) ha hb (nomark _)
theorem et_neR {x y : Dct κ ν} {r : Bool} (ha : Ev X a σ F H x) (hb : Ev X b σ F H y) (h : deqG x y = some r) (hu : X.A.units < cLine) : EvT X (.Compare a [.NotEq] [b] pos) σ F H (!r) := et_cmp (op_neR hu) (o2_neR h) ha hb (nomark _)
end
end Gx

/-! Gh: the head's facts, and one more test. -/
namespace Gx
open PySem PySem.Spec PyProof.Rows L2
abbrev AlE : Type := He.AlD × Bool
abbrev frE (n : Nat) (g : Addr → Option Obj) : PySem.W.Frag := He.frG g (He.asD g n)
def obsE (n : Nat) (fa : List He.Fa) (fn : List He.DefD) (ex : PySem.W.Frag → Bool) (g : Addr → Option Obj) : AlE := (He.obsD fa fn (frE n g), ex (frE n g))
def hookE (n : Nat) (fa : List He.Fa) (fn : List He.DefD) (ex : PySem.W.Frag → Bool) : PySem.W.Hook where
  α := AlE
  obs s := obsE n fa fn ex s.heap.get?
  val _ := (He.valD fn, true)
  says _ h := ∃ K : PySem.W.Frag, K.In h ∧ He.SaysD fa fn K ∧ ex K = true
  of _ _ e := ⟨_, He.frG_in, congrArg (fun z : AlE => z.1) e, congrArg (fun z : AlE => z.2) e⟩
  keeps := fun _ _ _ ⟨K, hK, c⟩ k => ⟨K, PySem.W.Frag.In.keeps hK k, c⟩
theorem obsE_eq {n : Nat} {fa : List He.Fa} {fn : List He.DefD} {ex : PySem.W.Frag → Bool} {g : Addr → Option Obj} {s : Shared} (h : ∀ a, g a = s.heap.get? a) : obsE n fa fn ex g = (hookE n fa fn ex).obs s := by
  cases (funext h : g = s.heap.get?)
  rfl
end Gx

/-! Gi: what a mirror comes to: Ok. -/
namespace Gx
open PySem PySem.Spec PyProof.Rows L2
/-- m comes to an x of which P holds -/
def Ok {α : Type} (m : Option α) (P : α → Prop) : Prop := ∃ x, m = some x ∧ P x
section
variable {α β γ ρ : Type}
theorem Ok.ret {P : α → Prop} {x : α} (h : P x) : Ok (some x) P := ⟨x, rfl, h⟩
theorem Ok.of {P : α → Prop} {m : Option α} {x : α} (e : m = some x) (h : P x) : Ok m P := ⟨x, e, h⟩
theorem Ok.bind {m : Option α} {f : α → Option β} {P : α → Prop} {Q : β → Prop} (h : Ok m P) (k : ∀ x, P x → Ok (f x) Q) : Ok (m.bind f) Q := by
  obtain ⟨x, rfl, p⟩ := h
  exact k x p
theorem Ok.bindE {m : Option α} {f : α → Option β} {x : α} {Q : β → Prop} (h : m = some x) (k : Ok (f x) Q) : Ok (m.bind f) Q := by
  subst h; exact k
theorem Ok.mono {m : Option α} {P Q : α → Prop} (h : Ok m P) (k : ∀ x, P x → Q x) : Ok m Q := by
  obtain ⟨x, e, p⟩ := h
  exact ⟨x, e, k x p⟩
theorem Ok.ite {c : Prop} [Decidable c] {a b : Option α} {P : α → Prop} (h1 : c → Ok a P) (h2 : ¬ c → Ok b P) : Ok (if c then a else b) P := by
  by_cases h : c
  · rw [if_pos h]; exact h1 h
  · rw [if_neg h]; exact h2 h
theorem Ok.dite {p : Prop} [Decidable p] {a b : Option α} {P : α → Prop} (h1 : p → Ok a P) (h2 : ¬ p → Ok b P) : Ok (if decide p = true then a else b) P :=
  Ok.ite (fun h => h1 (of_decide_eq_true h)) (fun h => h2 fun z => h (decide_eq_true z))
theorem Ok.true_ {m : Option Bool} (h : Ok m (· = true)) : m = some true := by
  obtain ⟨x, e, p⟩ := h
  rw [e, p]
theorem Ok.eq {m : Option α} {y : α} (h : Ok m (· = y)) : m = some y := by
  obtain ⟨x, e, p⟩ := h
  rw [e, p]
/-- a loop, by an invariant over what is left -/
theorem Ok.loopN {st : β → α → Option β} {b : β} {xs : List α} {Q : β → Prop} (J : β → List α → Prop) (h0 : J b xs) (hs : ∀ b x ys, J b (x :: ys) → Ok (st b x) fun b' => J b' ys) (hq : ∀ b, J b [] → Q b) : Ok (loopN st b xs) Q := by
  induction xs generalizing b with
  | nil => exact ⟨b, rfl, hq b h0⟩
  | cons x ys ih =>
    obtain ⟨b', e, h'⟩ := hs b x ys h0
    rw [loopN_cons e]
    exact ih h'
theorem Ok.loopM {st : β → α → Option (Lp β ρ)} {b : β} {xs : List α} {Q : Lp β ρ → Prop} (J : β → List α → Prop) (h0 : J b xs) (hs : ∀ b x ys, J b (x :: ys) → Ok (st b x) fun o => match o with | .nx b' => J b' ys | .bk b' => Q (.bk b') | .rt r => Q (.rt r)) (hq : ∀ b, J b [] → Q (.nx b)) : Ok (loopM st b xs) Q := by
  induction xs generalizing b with
  | nil => exact ⟨.nx b, rfl, hq b h0⟩
  | cons x ys ih =>
    obtain ⟨o, e, h'⟩ := hs b x ys h0
    cases o with
    | nx b' => rw [loopM_nx e]; exact ih h'
    | bk b' => exact ⟨.bk b', by rw [Gx.loopM, e], h'⟩
    | rt r => exact ⟨.rt r, by rw [Gx.loopM, e], h'⟩
theorem Ok.whileN {c : β → Option Bool} {st : β → Option β} {n : Nat} {b : β} {Q : β → Prop} (J : β → Prop) (m : β → Nat) (h0 : J b) (hm : m b < n) (hs : ∀ b, J b → Ok (c b) fun t => (t = true → Ok (st b) fun b' => J b' ∧ m b' < m b) ∧ (t = false → Q b)) : Ok (whileN c st n b) Q := by
  induction n generalizing b with
  | zero => omega
  | succ n ih =>
    obtain ⟨t, e, h1, h2⟩ := hs b h0
    cases t with
    | false => exact ⟨b, by rw [Gx.whileN, e], h2 rfl⟩
    | true =>
      obtain ⟨b', e', j, l⟩ := h1 rfl
      rw [Gx.whileN, e]
      dsimp only
      rw [e']
      exact ih j (by omega)
theorem Ok.thn {o : Option (Lp β ρ)} {f : β → Option γ} {g : ρ → Option γ} {Q : γ → Prop} (P : Lp β ρ → Prop) (h : Ok o P) (k1 : ∀ b, P (.nx b) → Ok (f b) Q) (k2 : ∀ b, P (.bk b) → Ok (f b) Q) (k3 : ∀ r, P (.rt r) → Ok (g r) Q) : Ok (o.bind fun o => o.thn f g) Q := by
  obtain ⟨x, rfl, p⟩ := h
  cases x with
  | nx b => exact k1 b p
  | bk b => exact k2 b p
  | rt r => exact k3 r p
/-- a comprehension -/
theorem Ok.comp {f : α → Option (Option γ)} {xs : List α} {P : List γ → Prop} (g : α → γ) (hl : xs.length ≤ 16777216) (h : ∀ x ∈ xs, f x = some (some (g x))) (hp : P (xs.map g)) : Ok (compG f xs) P := ⟨_, compG_map (by rw [szl]; exact hl) h, hp⟩
theorem Ok.compf {f : α → Option (Option γ)} {xs : List α} {P : List γ → Prop} (p : α → Bool) (g : α → γ) (hl : xs.length ≤ 16777216) (h : ∀ x ∈ xs, f x = some (if p x then some (g x) else none)) (hp : P ((xs.filter p).map g)) : Ok (compG f xs) P := ⟨_, compG_filter (by rw [szl]; exact hl) h, hp⟩
/-- .. of which only a relation is known -/
theorem compM_rel {f : α → Option (Option γ)} {R : α → γ → Prop} : ∀ {xs : List α}, (∀ x ∈ xs, Ok (f x) fun o => ∃ y, o = some y ∧ R x y) → Ok (compM f xs) fun ys => Paired R xs ys
  | [], _ => ⟨[], rfl, .nil⟩
  | x :: xs, h => by
    obtain ⟨o, e, y, rfl, r⟩ := h x List.mem_cons_self
    obtain ⟨ys, e2, r2⟩ := compM_rel fun z hz => h z (List.mem_cons_of_mem _ hz)
    exact ⟨y :: ys, by rw [compM, e, e2]; rfl, .cons r r2⟩
theorem Ok.compR {f : α → Option (Option γ)} {xs : List α} (R : α → γ → Prop) {P : List γ → Prop} (hl : xs.length ≤ 16777216) (h : ∀ x ∈ xs, Ok (f x) fun o => ∃ y, o = some y ∧ R x y) (hp : ∀ ys, Paired R xs ys → P ys) : Ok (compG f xs) P := by
  unfold compG; rw [if_pos (by rw [szl]; exact hl)]
  exact (compM_rel h).mono hp
theorem Paired.mem {R : α → γ → Prop} {xs : List α} {ys : List γ} (h : Paired R xs ys) {y : γ} (hy : y ∈ ys) : ∃ x ∈ xs, R x y := by
  induction h with
  | nil => cases hy
  | cons r t ih =>
    rcases List.mem_cons.mp hy with e | hy
    · subst e; exact ⟨_, List.mem_cons_self, r⟩
    · obtain ⟨x, h1, h2⟩ := ih hy
      exact ⟨x, List.mem_cons_of_mem _ h1, h2⟩
theorem Paired.get {R : α → γ → Prop} {xs : List α} {ys : List γ} (h : Paired R xs ys) {i : Nat} {y : γ} (hy : ys[i]? = some y) : ∃ x, xs[i]? = some x ∧ R x y := by
  induction h generalizing i with
  | nil => simp at hy
  | cons r t ih =>
    cases i with
    | zero => simp at hy; subst hy; exact ⟨_, by simp, r⟩
    | succ i => obtain ⟨x, h1, h2⟩ := ih (by simpa using hy); exact ⟨x, by simpa using h1, h2⟩
/-! ### guards -/
theorem mulG_l {i j : Int} (h : -(2 ^ 64) < i ∧ i < 2 ^ 64) : mulG i j = some (i * j) := if_pos (CMul.l h)
theorem mulG_r {i j : Int} (h : -(2 ^ 64) < j ∧ j < 2 ^ 64) : mulG i j = some (i * j) := if_pos (CMul.r h)
theorem modG_p {i j : Int} (h : 0 < j) : modG i j = some (i % j) := if_pos h
theorem divG_p {i j : Int} (h : CDiv i j) : divG i j = some (i / j) := if_pos h
theorem app_p {xs : List α} {y : α} (h : xs.length < 16777216) : app xs y = some (xs ++ [y]) := if_pos (by rw [szl]; exact h)
theorem catG_p {xs ys : List α} (h : xs.length + ys.length ≤ 16777216) : catG xs ys = some (xs ++ ys) := if_pos (by rw [szl]; exact h)
theorem catT_p {xs ys : Tp α} (h : xs.l.length + ys.l.length ≤ 16777216) : catT xs ys = some ⟨xs.l ++ ys.l⟩ := if_pos (by rw [szl]; exact h)
theorem rngG_p {j : Int} (h : -(2 ^ 62) ≤ j ∧ j < 2 ^ 62) : rngG j = some (intsF 0 j.toNat) := if_pos h
theorem rngG_n {n : Nat} (h : n ≤ 16777216) : rngG (n : Int) = some (intsF 0 n) := by
  have h1 : (n : Int) ≤ 16777216 := by omega
  have h2 : (0 : Int) ≤ n := Int.natCast_nonneg n
  have e := rngG_p (j := (n : Int)) ⟨Int.le_trans (by decide) h2, Int.lt_of_le_of_lt h1 (by decide)⟩
  rw [Int.toNat_natCast] at e
  exact e
theorem rngG_s {j : Int} (h : -1000000000 ≤ j ∧ j ≤ 1000000000) : rngG j = some (intsF 0 j.toNat) := rngG_p ⟨Int.le_trans (by decide) h.1, Int.lt_of_le_of_lt h.2 (by decide)⟩
theorem rngG2_s {i j : Int} (hi : -1000000000 ≤ i ∧ i ≤ 1000000000) (h : -1000000000 ≤ j ∧ j ≤ 1000000000) : rngG2 i j = some (intsF i (j - i).toNat) := if_pos ⟨Int.le_trans (by decide) hi.1, Int.lt_of_le_of_lt hi.2 (by decide), Int.le_trans (by decide) h.1, Int.lt_of_le_of_lt h.2 (by decide)⟩
theorem rngG2_p {i j : Int} (h : -(2 ^ 62) ≤ i ∧ i < 2 ^ 62 ∧ -(2 ^ 62) ≤ j ∧ j < 2 ^ 62) : rngG2 i j = some (intsF i (j - i).toNat) := if_pos h
theorem dputG_p {κ ν : Type} [Rp κ] [DecidableEq κ] [DKey κ] [Rp ν] {m : Dct κ ν} {k : κ} {v : ν} (h : m.l.length < 16777216) : dputG m k v = some ⟨kvPut m.l k v⟩ := if_pos (by rw [szl]; exact h)
theorem intsF_mem {lo : Int} {n : Nat} {x : Int} (h : x ∈ intsF lo n) : lo ≤ x ∧ x < lo + n := by
  obtain ⟨i, hi⟩ := List.mem_iff_getElem?.mp h
  obtain ⟨h1, h2⟩ := ints_get hi
  omega
theorem intsF_succ (lo : Int) (n : Nat) : intsF lo (n + 1) = lo :: intsF (lo + 1) n := by
  unfold intsF
  rw [List.range_succ_eq_map, List.map_cons, List.map_map]
  congr 1
  · simp
  · refine List.map_congr_left fun i _ => ?_
    show lo + ((i + 1 : Nat) : Int) = _
    omega
theorem intsF_zero (lo : Int) : intsF lo 0 = [] := rfl
theorem atI_mem {xs : List α} {i : Int} (h0 : 0 ≤ i) (h1 : i < xs.length) : Ok (L2.atI xs i) fun v => v ∈ xs ∧ xs[i.toNat]? = some v := by
  obtain ⟨v, h2, h3⟩ := atI_ok h0 h1
  exact ⟨v, h2, List.mem_of_getElem? h3, h3⟩
theorem atI_last {xs : List α} (h : xs ≠ []) : L2.atI xs (-1) = some (xs.getLast h) := by
  unfold L2.atI ixN
  have hl : 0 < xs.length := List.length_pos_iff.mpr h
  rw [if_neg (by omega), if_pos (by omega)]
  show xs[((-1 : Int) + xs.length).toNat]? = _
  have e : ((-1 : Int) + xs.length).toNat = xs.length - 1 := by omega
  rw [e, List.getLast_eq_getElem]
  exact List.getElem?_eq_getElem (by omega)
theorem atI_ints {f : Int → α} {n : Nat} {k : Int} (h0 : 0 ≤ k) (h1 : k < n) : L2.atI ((intsF 0 n).map f) k = some (f k) := by
  rw [atI_nn h0, List.getElem?_map]
  have e : (intsF 0 n)[k.toNat]? = some k := by
    unfold intsF
    rw [List.getElem?_map, List.getElem?_range (by omega)]
    show some ((0 : Int) + (k.toNat : Int)) = _
    congr 1; omega
  rw [e]; rfl
/-! ### loops that append -/
theorem loopN_app {st : List γ → α → Option (List γ)} (f : α → γ) : ∀ (xs : List α) (b : List γ), b.length + xs.length ≤ 16777216 → (∀ x ∈ xs, ∀ b : List γ, b.length < 16777216 → st b x = some (b ++ [f x])) → loopN st b xs = some (b ++ xs.map f)
  | [], b, _, _ => by rw [loopN]; simp
  | x :: xs, b, hl, h => by
    rw [List.length_cons] at hl
    rw [loopN_cons (h x List.mem_cons_self b (by omega)), loopN_app f xs (b ++ [f x]) (by rw [List.length_append]; simp; omega) fun y hy => h y (List.mem_cons_of_mem _ hy)]
    simp
theorem loopN_map {st : List γ → α → Option (List γ)} (f : α → γ) (xs : List α) (hl : xs.length ≤ 16777216) (h : ∀ x ∈ xs, ∀ b : List γ, b.length < 16777216 → st b x = some (b ++ [f x])) : loopN st [] xs = some (xs.map f) :=
  loopN_app f xs [] (by simpa using hl) h
/-! ### dicts -/
section
variable {κ ν : Type} [DecidableEq κ]
def Dct.nd (d : Dct κ ν) : Prop := (d.l.map (·.1)).Nodup
theorem kvPut_keys (l : List (κ × ν)) (k : κ) (v : ν) : (kvPut l k v).map (·.1) = if k ∈ l.map (·.1) then l.map (·.1) else l.map (·.1) ++ [k] := by
  unfold kvPut
  by_cases h : k ∈ l.map (·.1)
  · rw [if_pos h, if_pos (by
      obtain ⟨p, hp, e⟩ := List.mem_map.mp h
      exact List.any_eq_true.mpr ⟨p, hp, decide_eq_true e⟩), List.map_map]
    refine List.map_congr_left fun p _ => ?_
    show (if p.1 = k then (p.1, v) else p).1 = p.1
    split <;> rfl
  · rw [if_neg h, if_neg (fun z => by
      obtain ⟨p, hp, e⟩ := List.any_eq_true.mp z
      exact h (List.mem_map.mpr ⟨p, hp, of_decide_eq_true e⟩)), List.map_append]
    rfl
theorem kvPut_nd {l : List (κ × ν)} {k : κ} {v : ν} (h : (l.map (·.1)).Nodup) : ((kvPut l k v).map (·.1)).Nodup := by
  rw [kvPut_keys]
  split
  · exact h
  · rename_i hk
    rw [List.nodup_append]
    refine ⟨h, by simp, fun a ha b hb => ?_⟩
    have : b = k := by simpa using hb
    subst this
    intro e; subst e; exact hk ha
theorem kvLook_mem {l : List (κ × ν)} {k : κ} : k ∈ l.map (·.1) ↔ ∃ v, kvLook l k = some v := by
  induction l with
  | nil => simp [kvLook]
  | cons p r ih =>
    rw [List.map_cons, List.mem_cons, kvLook]
    by_cases e : p.1 = k
    · rw [if_pos e]; exact ⟨fun _ => ⟨_, rfl⟩, fun _ => .inl e.symm⟩
    · rw [if_neg e, ← ih]
      exact ⟨fun h => h.resolve_left fun z => e z.symm, .inr⟩
theorem kvLook_self {l : List (κ × ν)} (h : (l.map (·.1)).Nodup) {p : κ × ν} (hp : p ∈ l) : kvLook l p.1 = some p.2 := by
  induction l with
  | nil => cases hp
  | cons q r ih =>
    rw [List.map_cons, List.nodup_cons] at h
    rw [kvLook]
    rcases List.mem_cons.mp hp with e | hp
    · subst e; rw [if_pos rfl]
    · rw [if_neg (show ¬ q.1 = p.1 from fun e => h.1 (by rw [e]; exact List.mem_map.mpr ⟨p, hp, rfl⟩))]
      exact ih h.2 hp
end
theorem deqG_self {κ ν : Type} [Rp κ] [DecidableEq κ] [Rp ν] [KeyS κ] [KeyS ν] [DecidableEq ν] {d : Dct κ ν} (h : (d.l.map (·.1)).Nodup) : deqG d d = some true := if_pos ⟨rfl, fun _ hp => kvLook_self h hp⟩
/-! ### texts by their signs -/
def cl (z : Str) : List Nat := z.cps.toList
theorem len_c (z : Str) : z.length = (cl z).length := len_cl z
theorem S_cl (x : Str) : S (cl x) = x := S_tl x
theorem cl_S (l : List Nat) : cl (S l) = l := rfl
theorem cl_inj {a b : Str} (h : cl a = cl b) : a = b := by
  rw [← S_tl a, ← S_tl b]; exact congrArg S h
theorem sAt_ok {z : Str} (hz : (cl z).length ≤ 16777216) {i : Int} (h0 : 0 ≤ i) (h1 : i < (cl z).length) : Ok (sAt z i) fun s => ∃ c, s = ⟨#[c]⟩ ∧ (cl z)[i.toNat]? = some c ∧ c ∈ cl z := by
  obtain ⟨c, h2, h3⟩ := atI_ok h0 h1
  refine ⟨⟨#[c]⟩, ?_, c, rfl, h3, List.mem_of_getElem? h3⟩
  unfold sAt
  rw [if_pos (by rw [len_c, szl]; exact hz), show L2.atI z.cps.toList i = some c from h2]; rfl
theorem sAdd_cl {a b : Str} (h : (cl a).length + (cl b).length ≤ 16777216) : Ok (sAdd a b) fun r => cl r = cl a ++ cl b := ⟨a ++ b, sAdd_ok (by rw [len_c, len_c, szl]; exact h), app_cl a b⟩
theorem sCut_cl {z : Str} (hz : (cl z).length ≤ 16777216) (i j : Option Int) : Ok (sCut z i j) fun r => cl r = cut (cl z) i j := by
  obtain ⟨r, h1, _, h3⟩ := sCut_ok (z := z) (by rw [len_c, szl]; exact hz) i j
  exact ⟨r, h1, h3⟩
theorem sLen_cl {z : Str} (hz : (cl z).length ≤ 16777216) : sLen z = some ((cl z).length : Int) := by
  rw [sLen_ok (by rw [len_c, szl]; exact hz), len_c]
theorem sOfI_cl {n : Int} (h0 : 0 ≤ n) (h1 : n < 10 ^ 18) : Ok (sOfI n) fun r => cl r = TL.numL n.toNat ∧ (cl r).length ≤ 18 := by
  obtain ⟨r, e, l, c⟩ := sOfI_ok h0 h1
  exact ⟨r, e, c, by rw [← len_c]; exact l⟩
theorem take_drop_min {xs : List α} (a b : Nat) : (xs.drop (min a xs.length)).take (min b xs.length - min a xs.length) = (xs.drop a).take (b - a) := by
  rcases Nat.lt_or_ge a xs.length with h | h
  · rw [Nat.min_eq_left (Nat.le_of_lt h)]
    rcases Nat.lt_or_ge b xs.length with h2 | h2
    · rw [Nat.min_eq_left (Nat.le_of_lt h2)]
    · rw [Nat.min_eq_right h2, List.take_of_length_le (by rw [List.length_drop]; exact Nat.le_refl _), List.take_of_length_le (by rw [List.length_drop]; omega)]
  · rw [Nat.min_eq_right h, List.drop_of_length_le (Nat.le_refl _), List.drop_of_length_le h]; simp
theorem cut_mid {xs : List α} {i j : Int} (h0 : 0 ≤ i) (h1 : 0 ≤ j) : cut xs (some i) (some j) = (xs.drop i.toNat).take (j.toNat - i.toNat) := by
  obtain ⟨a, rfl⟩ : ∃ m : Nat, i = (m : Int) := ⟨i.toNat, by omega⟩
  obtain ⟨b, rfl⟩ : ∃ m : Nat, j = (m : Int) := ⟨j.toNat, by omega⟩
  unfold cut
  rw [HT.sIx_nat, HT.sIx_nat]
  exact take_drop_min a b
theorem cut_to {xs : List α} {n : Int} (h0 : 0 ≤ n) : cut xs none (some n) = xs.take n.toNat := by
  obtain ⟨m, rfl⟩ : ∃ m : Nat, n = (m : Int) := ⟨n.toNat, by omega⟩
  unfold cut
  rw [HT.sIx_nat, HT.sIx_none]
  have := take_drop_min (xs := xs) 0 m
  rw [Nat.min_eq_left (Nat.zero_le _)] at this
  exact this
theorem cut_from {xs : List α} {n : Int} (h0 : 0 ≤ n) : cut xs (some n) none = xs.drop n.toNat := by
  obtain ⟨m, rfl⟩ : ∃ m : Nat, n = (m : Int) := ⟨n.toNat, by omega⟩
  unfold cut
  rw [HT.sIx_nat, HT.sIx_none]
  have := take_drop_min (xs := xs) m xs.length
  rw [Nat.min_eq_left (Nat.le_refl _), List.take_of_length_le (l := xs.drop m) (by rw [List.length_drop]; exact Nat.le_refl _)] at this
  exact this
theorem cut_init {xs : List α} : cut xs none (some (-1 : Int)) = xs.take (xs.length - 1) := by
  unfold cut
  have e : HT.sIx xs.length xs.length (some (-1)) = xs.length - 1 := by
    show (if (-1 : Int) < 0 then ((-1 : Int) + (xs.length : Int)).toNat else min (-1 : Int).toNat xs.length) = xs.length - 1
    rw [if_pos (by decide)]; omega
  rw [HT.sIx_none, e]; simp
theorem map_cl_S (ys : List Str) : (ys.map cl).map S = ys := by
  rw [List.map_map]
  exact (List.map_congr_left fun y _ => S_tl y).trans (List.map_id _)
theorem sJoin_cl {x : Str} {ys : List Str} (h : (ys.map (·.length)).sum + ys.length * x.length ≤ 16777216) : Ok (sJoin x ys) fun r => cl r = TL.joinL (cl x) (ys.map cl) := by
  refine ⟨Txt.join x ys, if_pos h, ?_⟩
  have e := SX.join_S (cl x) (ys.map cl)
  have hx : SX.S (cl x) = x := S_tl x
  rw [map_cl_S, hx] at e
  rw [e]; rfl
theorem joinL_nil : ∀ ls : List (List Nat), TL.joinL [] ls = ls.flatten
  | [] => rfl
  | [p] => by simp [TL.joinL]
  | p :: q :: r => by
    rw [TL.joinL, joinL_nil (q :: r)]; simp
theorem len_sum {n : Nat} : ∀ {ys : List Str}, (∀ y ∈ ys, (cl y).length ≤ n) → (ys.map (·.length)).sum ≤ ys.length * n
  | [], _ => by simp
  | y :: ys, h => by
    rw [List.map_cons, List.sum_cons, List.length_cons, Nat.succ_mul, len_c]
    have h1 := h y List.mem_cons_self
    have h2 := len_sum fun z hz => h z (List.mem_cons_of_mem _ hz)
    omega
/-- texts of one sign joined by nothing -/
theorem sJoin_signs {ys : List Str} {cs : List Nat} (h : ys = cs.map fun c => ⟨#[c]⟩) (hl : cs.length ≤ 1000000) : Ok (sJoin ("" : Str) ys) fun r => cl r = cs := by
  have h1 : ∀ y ∈ ys, (cl y).length ≤ 1 := fun y hy => by
    subst h
    obtain ⟨c, _, rfl⟩ := List.mem_map.mp hy
    exact Nat.le_refl _
  have h2 := len_sum h1
  have h3 : ys.length = cs.length := by rw [h, List.length_map]
  refine (sJoin_cl ?_).mono fun r hr => ?_
  · rw [show ("" : Str).length = 0 from by decide]; omega
  · rw [hr, show cl ("" : Str) = [] from by decide, joinL_nil, h, List.map_map]
    clear h h1 h2 h3 hr hl
    induction cs with
    | nil => rfl
    | cons c cs ih => rw [List.map_cons, List.flatten_cons, ih]; rfl
theorem nodup_map_on {α β : Type} {f : α → β} {l : List α} (inj : ∀ x ∈ l, ∀ y ∈ l, f x = f y → x = y) (h : l.Nodup) : (l.map f).Nodup := by
  unfold List.Nodup
  rw [List.pairwise_map]
  exact List.Pairwise.imp_of_mem (fun ha hb hne e => hne (inj _ ha _ hb e)) h
theorem ints_nodup (lo : Int) (n : Nat) : (intsF lo n).Nodup := by
  unfold intsF
  exact nodup_map_on (fun x _ y _ e => by omega) List.nodup_range
/-! ### texts within data -/
def sok (z : Str) : Prop := ∀ c ∈ cl z, c < 1114112
theorem lay_str {z : Str} (h : sok z) : (Pd.toD z).canLay0 = true := by
  show PySem.PyData.canLay0 (.str z) = true
  rw [PyData.canLay0]
  show z.cps.all (· < 0x110000) = true
  rw [← Array.all_toList, List.all_eq_true]
  intro c hc
  exact decide_eq_true (h c hc)
/-- the texts in a thing are texts that Python can have -/
class PdL (α : Type) [Rp α] [Pd α] where
  tx : α → Prop
  ok : ∀ {x : α}, tx x → (Pd.toD x).canLay0 = true
instance : PdL Int := ⟨fun _ => True, fun _ => PdF.ok _⟩
instance : PdL Bool := ⟨fun _ => True, fun _ => PdF.ok _⟩
instance : PdL Str := ⟨sok, lay_str⟩
instance {α : Type} [Rp α] [Pd α] [PdL α] : PdL (List α) := ⟨fun l => ∀ x ∈ l, PdL.tx x, fun h => layAll fun x hx => PdL.ok (h x hx)⟩
instance {α : Type} [Rp α] [Pd α] [PdL α] : PdL (Tp α) := ⟨fun l => ∀ x ∈ l.l, PdL.tx x, fun h => layAll fun x hx => PdL.ok (h x hx)⟩
instance {α : Type} [Rp α] [Pd α] [PdL α] : PdL (Tn α) := ⟨fun l => ∀ x ∈ l.l, PdL.tx x, fun h => layAll fun x hx => PdL.ok (h x hx)⟩
class PdRL (τ : Type) [Ra τ] [PdR τ] where
  tx : τ → Prop
  ok : ∀ {x : τ}, tx x → PyData.canLayAll0 (PdR.toR x) = true
instance : PdRL Unit := ⟨fun _ => True, fun _ => PdRF.ok _⟩
instance {α τ : Type} [Rp α] [Ra τ] [Pd α] [PdR τ] [PdL α] [PdRL τ] : PdRL (α × τ) := ⟨fun x => PdL.tx x.1 ∧ PdRL.tx x.2, fun {x} h => by
  show (PyData.canLay0 _ && PyData.canLayAll0 _) = true
  rw [PdL.ok h.1, PdRL.ok h.2]; rfl⟩
instance {α : Type} [Rp α] [Pd α] [PdL α] : PdL (T1 α) := ⟨fun x => PdRL.tx x.row, fun h => PdRL.ok h⟩
instance {α β : Type} [Rp α] [Rp β] [Pd α] [Pd β] [PdL α] [PdL β] : PdL (T2 α β) := ⟨fun x => PdRL.tx x.row, fun h => PdRL.ok h⟩
instance {α β γ : Type} [Rp α] [Rp β] [Rp γ] [Pd α] [Pd β] [Pd γ] [PdL α] [PdL β] [PdL γ] : PdL (T3 α β γ) := ⟨fun x => PdRL.tx x.row, fun h => PdRL.ok h⟩
instance {α β γ δ : Type} [Rp α] [Rp β] [Rp γ] [Rp δ] [Pd α] [Pd β] [Pd γ] [Pd δ] [PdL α] [PdL β] [PdL γ] [PdL δ] : PdL (T4 α β γ δ) := ⟨fun x => PdRL.tx x.row, fun h => PdRL.ok h⟩
instance {α β γ δ ε : Type} [Rp α] [Rp β] [Rp γ] [Rp δ] [Rp ε] [Pd α] [Pd β] [Pd γ] [Pd δ] [Pd ε] [PdL α] [PdL β] [PdL γ] [PdL δ] [PdL ε] : PdL (T5 α β γ δ ε) := ⟨fun x => PdRL.tx x.row, fun h => PdRL.ok h⟩
theorem okD_L {α : Type} [Rp α] [Pd α] [PdS α] [PdL α] {x : α} (h : PdL.tx x) (hd : PdS.dep α ≤ 64 := by decide) : okD x = true := okD_of hd (PdL.ok h)
theorem eqG_L {α : Type} [Rp α] [Pd α] [PdS α] [PdL α] [DecidableEq α] {x y : α} (h1 : PdL.tx x) (h2 : PdL.tx y) (hd : PdS.dep α ≤ 64 := by decide) : eqG x y = some (decide (x = y)) := eqG_ok (okD_L h1 hd) (okD_L h2 hd)
end
end Gx

/-! Gj: records (instances that do not change once they are made). -/
namespace Gx
open PySem PySem.Spec PyProof.Rows L2
open Rp (rp)
open Ra (ra)
open Ob (ob)
section
variable {X : Cx} {K : PySem.W.Frag} {e a b c d : Expr} {es : List Expr} {σ : L2.St} {F H F0 H0 : Hp} {pos : Pos} {D : Ends} {st : Stmt} {rest body : List Stmt}
/-! ### leaving one address out -/
theorem Gr.over {F' H' : Hp} {l : Addr} (g : Gr F0 H0 F H) (n : H0 l = none) (g' : Gr F (er H l) F' H') : Gr F0 H0 F' H' := by
  have ne : ∀ a o, H0 a = some o → a ≠ l := fun a o h e => by rw [e, n] at h; cases h
  have lift : ∀ a o, H0 a = some o → er H l a = some o := fun a o h => by
    unfold er; rw [if_neg (ne a o h)]; exact g.hh a o h
  exact ⟨g.ff.trans g'.ff, g'.fh, fun a o h => g'.hh a o (lift a o h), fun a o h ns => by rw [g'.fr a o (lift a o h) ns, g.fr a o h ns]⟩
theorem Own.over {α : Type} [Rp α] [Ob α] {x : α} {F' H' : Hp} {l l2 : Addr} (o : Own K H0 F H l2 x) (h : l2 ≠ l) (g : Gr F (er H l) F' H') : Own K H0 F' H' l2 x := by
  obtain ⟨u, hl, r⟩ := o.h
  have e : er H l l2 = some u := by unfold er; rw [if_neg h]; exact hl
  exact ⟨o.n, (g.fr l2 u e (Ob.ls r)).trans o.f, u, g.hh _ _ e, Ob.mono g.ff r⟩
theorem er_same {l : Addr} : er H l l = none := if_pos rfl
theorem er_ne {l a : Addr} (h : a ≠ l) : er H l a = H a := if_neg h
theorem same_er {l : Addr} (s : L2.Same F H) (f : F l = none) : L2.Same F (er H l) := fun a o h => by
  rw [er_ne (ne_of_none h f)]; exact s a o h
theorem Gr.start {l : Addr} (s : L2.Same F H) (f : F l = none) : Gr F (er H l) F H := ⟨.refl _, s, fun a o h => by
  unfold er at h; split at h
  · cases h
  · exact h, fun _ _ _ _ => rfl⟩
/-! ### attributes by places -/
theorem zlook {names : List Str} {vs : List V} {i : Nat} {f : Str} {v : V} (h : names.idxOf f = i) (hi : i < names.length) (hv : vs[i]? = some v) : (names.zip vs).lookup f = some v := by
  induction names generalizing vs i with
  | nil => simp at hi
  | cons n ns ih =>
    cases vs with
    | nil => simp at hv
    | cons w ws =>
      rw [List.zip_cons_cons, List.lookup_cons]
      by_cases e : n = f
      · subst e
        have : i = 0 := by rw [← h, List.idxOf_cons_self]
        subst this
        simp at hv; subst hv; simp
      · have e' : (f == n) = false := beq_eq_false_iff_ne.mpr fun z => e z.symm
        rw [e']
        have hi2 : i = ns.idxOf f + 1 := by
          rw [← h, List.idxOf_cons, beq_eq_false_iff_ne.mpr e]; rfl
        subst hi2
        exact ih rfl (by simpa using hi) (by simpa using hv)
theorem putF_new {f : Str} {v : V} : ∀ {fs : List (Str × V)}, f ∉ fs.map (·.1) → putF f v fs = fs ++ [(f, v)]
  | [], _ => rfl
  | (g, x) :: r, h => by
    rw [List.map_cons, List.mem_cons] at h
    show (if g = f then _ else _) = _
    rw [if_neg (fun e => h (.inl e.symm)), putF_new fun z => h (.inr z)]; rfl
theorem zip_snoc {names : List Str} {vs : List V} {f : Str} {v : V} (h : names.length = vs.length) : names.zip vs ++ [(f, v)] = (names ++ [f]).zip (vs ++ [v]) := by
  rw [List.zip_append h]; rfl
theorem zip_names {names : List Str} {vs : List V} (h : names.length = vs.length) : (names.zip vs).map (·.1) = names := by
  rw [← List.unzip_fst, List.unzip_zip h]
/-- a record at its address -/
def rpI (cn : Str) (names : List Str) {τ : Type} [Ra τ] (K : PySem.W.Frag) (F : Hp) (v : V) (x : τ) : Prop := ∃ a dx vs, v = .ref a ∧ F a = some (.ins (He.ga K cn) dx (names.zip vs)) ∧ ra K F vs x
theorem rpI.mono {cn : Str} {names : List Str} {τ : Type} [Ra τ] {F F' : Hp} {v : V} {x : τ} (s : L2.Same F F') : rpI cn names K F v x → rpI cn names K F' v x := fun ⟨a, dx, vs, e, q, r⟩ => ⟨a, dx, vs, e, s _ _ q, Ra.mono s r⟩
theorem rpI.nn {cn : Str} {names : List Str} {τ : Type} [Ra τ] {F : Hp} {x : τ} : ¬ rpI cn names K F .non x := fun ⟨_, _, _, e, _⟩ => nomatch e
/-- the field fn of a thing θ is g of it -/
def FldOf (K : PySem.W.Frag) {θ α : Type} [Rp θ] [Rp α] (fn : Str) (g : θ → α) : Prop := ∀ F v (d : θ), rp K F v d → ∃ a C dx fs u, v = .ref a ∧ F a = some (.ins C dx fs) ∧ Cls K C ∧ NoAttr K C fn ∧ fs.lookup fn = some u ∧ rp K F u (g d)
theorem ev_attr {θ α : Type} [Rp θ] [Rp α] {fn : Str} {g : θ → α} {x : θ} (f : FldOf X.K fn g) (h : Ev X e σ F H x) (hb : attributeBase e fn X.env (eval e X.env) = eval e X.env := by rfl) : Ev X (.Attribute e fn pos) σ F H (g x) := fun F1 H1 gr Q q =>
  GoE.of (pe_fld pe_go hb) (h F1 H1 gr _ fun v F2 H2 g2 r2 => by
    obtain ⟨a, C, dx, fs, u, e, hF, c, na, l, r⟩ := f F2 v x r2
    exact ⟨a, C, dx, fs, u, e, g2.fh _ _ hF, c, na, l, q u F2 H2 g2 r⟩)
/-! ### making -/
/-- the promise of an __init__ that stores its fields in order -/
def PrI (K : PySem.W.Frag) (C : Addr) (names : List Str) {τ ρ : Type} [Ra τ] [Ra ρ] (f : τ → Option ρ) : Sp := fun vs H Q _ => ∃ F x dx args a r, vs = .ref x :: args ∧ L2.Same F H ∧ F x = none ∧ H x = some (.ins C dx []) ∧ ra K F args a ∧ f a = some r ∧
  ∀ F' H' ws, Gr F (er H x) F' H' → F' x = none → H' x = some (.ins C dx (names.zip ws)) → ra K F' ws r → Q .non H'
/-- a store to a field of the new instance -/
theorem go_fld {α : Type} [Rp α] {x : Addr} {y : α} {C dx : Addr} {names : List Str} {vs : List V} {fn n : Str} {p1 p2 : Pos} (i : Nat) (s : L2.Same F H) (fx : F x = none) (hx : H x = some (.ins C dx (names.zip vs))) (hl : names.length = vs.length) (hn : names.length < 1000) (hf : fn ∉ names) (c : Cls X.K C) (na : NoAttr X.K C fn)
    (hσ : σ[i]? = some (some (.ref x))) (he : Ev X e σ F H y) (k : ∀ v F' H', Gr F H F' H' → rp X.K F' v y → F' x = none → H' x = some (.ins C dx (names.zip vs)) → GoS X rest D σ (upd H' x (.ins C dx ((names ++ [fn]).zip (vs ++ [v]))))) (hN : X.N[i]? = some n := by rfl) (hv : Vis X.env.scope n := by first | exact Or.inl rfl | exact Or.inr (Or.inl rfl) | exact Or.inr (Or.inr rfl))
    (hd : (n == ("__debug__" : Str)) = false := by decide) (hcd : (n == ("__classdict__" : Str)) = false := by decide) (hs : swapsWith e (some (.Attribute (.Name n p1) fn p2)) pos.line X.env = pure false := by rfl) : GoS X (.Assign [.Attribute (.Name n p1) fn p2] e pos :: rest) D σ H :=
  GoS.cons (ps_fld (pe_var hN hv hd hcd) pe_go hs) (he F H (.refl s) _ fun v F2 H2 g2 r2 => by
    have h2 := g2.hh _ _ hx
    refine ⟨_, hσ, x, C, dx, _, rfl, h2, c, na, ?_, ?_⟩
    · rw [List.length_zip]; omega
    · rw [putF_new (by rw [zip_names hl]; exact hf), zip_snoc hl]
      exact k v F2 H2 g2 r2 ((g2.fr x _ hx trivial).trans fx) h2)
/-- .. over the whole def -/
theorem fn_init {P : Program} {w : World} {mg : Str → Option Value} {base : Heap} {τ ρ : Type} [Ra τ] [RaN τ] [Ra ρ] {f : τ → Option ρ} {C : Addr} {names : List Str} {x qual : Str} {s0 : Stmt} {fa : Addr} {fd : FuncData} {N ps : List Str} {k : Nat} (Fn : FunD K x qual (defArgs s0) (defBody s0) (defScope s0) [] [] fa fd) (S : FnScope N ps (defScope s0)) (hn : RaN.n τ + 1 = ps.length)
    (hbody : ∀ (cdv : Value) (A : Around) (outer : List Env) (s : Shared) (F H : Hp) (y dx : Addr) (vs : List V) (a : τ) (r : ρ) (D : Ends) (E : XK), Room k (A.deeper (envOfC qual (defScope s0) s.heap.objs.size fa cdv)) → Gr F (er H y) F H → F y = none → H y = some (.ins C dx []) → ra K F vs a → f a = some r →
      (∀ σ' F' H' ws, Gr F (er H y) F' H' → F' y = none → H' y = some (.ins C dx (names.zip ws)) → ra K F' ws r → D.nx σ' H') → GoS (cxOf CX0 P w K mg base N qual (defScope s0) fa cdv A outer s H E).nox (defBody s0) D (start N (.ref y :: vs)) H) :
    FnOk P w K mg base CX0 (k + 1) fa fd ps (PrI K C names f) := by
  refine Fn.ok S (fun vs H Q E ⟨F, y, dx, args, a, r, e, _, _, _, ra', _⟩ => by rw [e, List.length_cons, RaN.len ra', hn]) fun cdv A outer s H vs Q E hr ⟨F, y, dx, args, a, r, e, sm, fy, hy, ra', hf, k⟩ => ?_
  subst e
  exact ⟨_, PSs.nox pss_go, hbody cdv A outer s F H y dx args a r { nx := fun _ H' => Q .non H', rt := Q } E hr (Gr.start sm fy) fy hy ra' hf fun σ' F' H' ws g f' h' r' => k F' H' ws g f' h' r'⟩
theorem ev_make {θ τ ρ : Type} [Rp θ] [Ra τ] [Ra ρ] {f : τ → Option ρ} {names : List Str} {y : τ} {r : ρ} {z : θ} {k : Nat} {fa : Addr} {fd : FuncData} {ps : List Str} {x cn : Str} {p : Pos} (rep : ∀ F v, rpI cn names X.K F v r → rp X.K F v z) (M : Mk X.K (He.ga X.K cn) fa) (Fn : FnOk X.prog X.w X.K X.mg X.base CX0 k fa fd ps (PrI X.K (He.ga X.K cn) names f)) (hr : Room (k + 1) X.A)
    (hm : X.mg x = some (.ref (He.ga X.K cn))) (hb : Binds X.K fd ps []) (ha : EvA X (e :: es) σ F H y) (h : f y = some r) (hg : Gl X x := by rfl) (hdb : (x == ("__debug__" : Str)) = false := by decide)
    (he : starEach (e :: es) X.env = (false, eval e X.env) :: starEach es X.env := by rfl) (hpl : (backTo pos (starEach es X.env)).any (·.1) = false := by rfl) : Ev X (.Call (.Name x p) (e :: es) [] pos) σ F H z := fun F1 H1 g Q q =>
  GoE.of (pe_make M Fn hr hg hm hb .nil pass0 pa_go hdb he hpl) (ha F1 H1 g _ fun vs F2 H2 g2 r2 => by
    intro o dx ho hdx hne
    have so : H2 dx = none := hdx
    have g3 : Gr F2 H2 (upd F2 dx (.own o)) (upd H2 dx (.own o)) := Gr.new g2.fh hdx
    have ho3 : upd H2 dx (.own o) o = none := by rw [upd_ne (fun z => hne z.symm)]; exact ho
    have fo3 : upd F2 dx (.own o) o = none := by rw [upd_ne (fun z => hne z.symm)]; exact g2.fh.free ho
    have g4 := Gr.newP (o := .ins (He.ga X.K cn) dx []) g3.fh ho3
    refine ⟨upd F2 dx (.own o), o, dx, vs, y, r, by rw [List.append_nil], g4.fh, fo3, upd_same, Ra.mono g3.ff r2, h, fun F' H' ws g5 f5 h5 r5 => ⟨rfl, ?_⟩⟩
    have g6 : Gr F1 H1 F' H' := (((g2.trans g3).trans g4)).over (g2.hh.free ho) g5
    have g7 := g6.freeze (o := .ins (He.ga X.K cn) dx (names.zip ws)) (g2.hh.free ho) f5
    have e7 : upd H' o (.ins (He.ga X.K cn) dx (names.zip ws)) = H' := by
      funext b
      by_cases hb : b = o
      · rw [hb, upd_same, h5]
      · rw [upd_ne hb]
    rw [e7] at g7
    exact q (.ref o) _ H' g7 (rep _ _ ⟨o, dx, ws, rfl, upd_same, Ra.mono (same_upd f5) r5⟩))
end
end Gx

/-! Gk: a private thing read while a new one is made by a statement; products of lists and tuples. -/
namespace Gx
open PySem PySem.Spec PyProof.Rows L2
open Rp (rp)
open Ra (ra)
open Ob (ob)
section
variable {X : Cx} {K : PySem.W.Frag} {e a b c d : Expr} {es : List Expr} {σ : L2.St} {F H F0 H0 : Hp} {pos : Pos} {D : Ends} {st : Stmt} {rest body : List Stmt}
theorem GoS.lockedU {sts : List Stmt} {l : Addr} {o : HO} (hl : H l = some o) (mu : Mut (some o)) (h : ∀ od, (∀ o' u', X.H_0 l ≠ some (.frz o' u')) → GoS X sts D σ (upd H l (.frz od o))) : GoS X sts D σ H := fun pins s I => by
  obtain ⟨od, I1⟩ := I.lock hl mu
  exact h od (I.nofrz hl mu) pins s I1
theorem GoS.unlocked {sts : List Stmt} {l : Addr} {od : Obj} {o : HO} (hl : H l = some (.frz od o)) (hn : ∀ o' u', X.H_0 l ≠ some (.frz o' u')) (h : GoS X sts D σ (upd H l o)) : GoS X sts D σ H := fun pins s I => h pins s (I.unlock hl hn)
/-- a statement that makes a new thing and reads a private one -/
theorem go_thawN {α β : Type} [Rp α] [Ob α] [FlatO α] [Rp β] [Ob β] {xs : α} {y : β} {l : Addr} {stm : Stmt} {τ : Addr → L2.St} (o : Own X.K H0 F H l y) (s : L2.Same F H)
    (run : ∀ F' H', L2.Same F F' → L2.Same F' H' → rp X.K F' (.ref l) y → (∀ a, a ≠ l → F' a = F a ∧ H' a = H a) →
      (∀ l2 o2 F2 H2, Gr F' H' F2 H2 → H' l2 = none → F2 l2 = none → H2 l2 = some o2 → ob X.K F2 o2 xs → GoS X rest D (τ l2) H2) → GoS X (stm :: rest) D σ H')
    (k : ∀ l2 o2 F2 H2, Gr F H F2 H2 → H l2 = none → F2 l2 = none → H2 l2 = some o2 → ob X.K F2 o2 xs → GoS X rest D (τ l2) H2) : GoS X (stm :: rest) D σ H := by
  obtain ⟨u, hl, r⟩ := o.h
  refine GoS.lockedU hl (Ob.mu r) fun od hn => ?_
  refine run _ _ (same_upd o.f) (shown s) (Ob.fz upd_same (Ob.mono (same_upd o.f) r)) (fun a ha => ⟨upd_ne ha, upd_ne ha⟩) fun l2 o2 F2 H2 g2 n2 f2 h2 r2 => ?_
  have e2 : F2 l = some (.frz od u) := g2.ff _ _ upd_same
  obtain ⟨n1, n2'⟩ := frz_no e2 (Ob.ls r)
  have hne : l2 ≠ l := fun e => by rw [e, upd_same] at n2; cases n2
  refine GoS.unlocked (g2.fh _ _ e2) hn (k l2 o2 (er F2 l) _ (Gr.hide hl o.f g2) (by rw [upd_ne hne] at n2; exact n2) ?_ (by rw [upd_ne hne]; exact h2) (FlatO.fl n1 n2' r2))
  rw [er_ne hne]; exact f2
/-! ### products -/
theorem Rps.rep {α : Type} [Rp α] {vs : List V} {xs : List α} (r : Rps K F vs xs) : ∀ n : Nat, Rps K F (List.replicate n vs).flatten (List.replicate n xs).flatten
  | 0 => .nil
  | n + 1 => by
    rw [List.replicate_succ, List.replicate_succ, List.flatten_cons, List.flatten_cons]
    exact Rps.append r (Rps.rep r n)
def mulL {α : Type} (xs : List α) (n : Int) : Option (List α) := if -1000000 ≤ n ∧ n ≤ 1000000 ∧ xs.length * n.toNat ≤ 16777216 then some (List.replicate n.toNat xs).flatten else none
def mulT {α : Type} (xs : Tp α) (n : Int) : Option (Tp α) := if 1 ≤ n ∧ n ≤ 1000 ∧ xs.l.length ≤ 1000 ∧ xs.l ≠ [] then some ⟨(List.replicate n.toNat xs.l).flatten⟩ else none
theorem tuple_mul1 (l : Addr) (items : Array Value) (n : Nat) (dd : Option Addr) (sl : Array (Option Value)) (u : Tok) :
    Meets (Builtin.«tuple.__mul__» ⟨[.ref l, .int 1 u], []⟩) (fun _ R s => s.heap.get? l = some { cls := .type "tuple", dict := dd, data := .seq items n, slots := sl } ∧ R (.ok (.ret (Value.ref l))) s) :=
  .of_wp fun prog w A R s h => by
    obtain ⟨hp, g, d, tk, os⟩ := s
    obtain ⟨hl, h⟩ := h
    have f1 := AutoSeq1.idx_int
    have c1 : (items.isEmpty || (1 : Int) == 1) = true := by simp
    wp_walk using wpAny_loadPart' hl
    repeat (first
      | (refine wpAny_ite_true (decide_eq_true c1) ?_; wp_walk using wpAny_loadPart' hl)
      | (refine wpAny_ite_true c1 ?_; wp_walk using wpAny_loadPart' hl)
      | (refine wpAny_ite_false (by decide) ?_; wp_walk using wpAny_loadPart' hl))
    exact ⟨_, rfl, h⟩
def rMulT (K : PySem.W.Frag) : R2 := fun x y H Q => ∃ l k xs, x = .ref l ∧ y = .int k ∧ SqT K H l xs ∧ xs ≠ [] ∧ 1 ≤ k ∧ k ≤ 1000 ∧ xs.length ≤ 1000 ∧ (k = 1 → Q (.ref l) H) ∧ (2 ≤ k → ∀ p, H p = none → Q (.ref p) (upd H p (.tup (List.replicate k.toNat xs).flatten)))
theorem op_mulT : OpR X (binaryOp .Mult) (rMulT X.K) := fun pins s σ H x y v u Q I rx ry ⟨l, k, xs, e1, e2, hT, hne, k1, k2, hz, q1, q2⟩ => by
  by_cases h1 : k = 1
  · subst h1; subst e1; subst e2
    have q := q1 rfl
    cases rx
    obtain ⟨t, rfl⟩ := ry
    obtain ⟨its, r, ⟨⟨cls, dd, data, sl⟩, ho, hc, n, hd⟩, hs⟩ := I.tuple hT
    simp only at hc hd
    subst hc hd
    exact wpAny_binaryOp_repeat_ref (T := "tuple") (U := "int") (by decide) ⟨_, ho, rfl⟩ (fun s' => typeIs_int s' 1 t) noFill_tuple_mul F.fills_int_mul F.slot_int_rmul repeat_tuple F.slot_int_index.lookup
      (call_meets F.slot_int_rmul (typeIs_int s 1 t) F.entry_int_rmul (F.args_int_rmul_2 _ _) (int_rmul_tuple 1 t l its.toArray n dd sl)
        ⟨ho, rfl, ⟨_, ho, rfl⟩, call_meets F.slot_tuple_mul ⟨_, ho, rfl⟩ F.entry_tuple_mul (F.args_tuple_mul_2 _ _) (tuple_mul1 l its.toArray n dd sl t) ⟨ho, ⟨.ref l, H, I.tok _, rfl, q⟩⟩⟩)
  · exact op_repT pins s σ H x y v u Q I rx ry ⟨l, k, xs, e1, e2, hT, hne, by omega, k2, hz, q2 (by omega)⟩
theorem ev_mulT {α : Type} [Rp α] {xs r : Tp α} {n : Int} (ha : Ev X a σ F H xs) (hb : Ev X b σ F H n) (h : mulT xs n = some r) : Ev X (.BinOp a .Mult b pos) σ F H r := ev_bin (α := Tp α) (β := Int) (γ := Tp α) op_mulT (fun F H v w Q s rv rw' k => by
  obtain ⟨p, vs, e, sq, rs⟩ := rv
  unfold mulT at h
  split at h
  case isFalse => cases h
  rename_i hz
  cases (Option.some.inj h)
  refine ⟨p, n, vs, e, rw', seqT_mono s sq, fun z => hz.2.2.2 (rs.nil_r.mp z), hz.1, hz.2.1, by rw [rs.length]; exact hz.2.2.1, fun h1 => ?_, fun h2 l hl => ?_⟩
  · subst h1
    refine k _ F H (.refl s) ⟨p, vs, rfl, sq, ?_⟩
    show Rps X.K F vs (List.replicate 1 xs.l).flatten
    rw [show (List.replicate 1 xs.l).flatten = xs.l by simp]; exact rs
  · exact k _ (upd F l (.tup _)) _ (Gr.new s hl) ⟨l, _, rfl, upd_same, (rs.rep _).mono (same_upd (s.free hl))⟩) ha hb
theorem en_mulL {α : Type} [Rp α] {xs r : List α} {n : Int} (ha : EvN X a σ F H xs) (hb : Ev X b σ F H n) (h : mulL xs n = some r) : EvN X (.BinOp a .Mult b pos) σ F H r := fun F1 H1 g Q q =>
  GoE.of (pe_op op_rep pe_go pe_go) (ha F1 H1 g _ fun l o F2 H2 g2 n2 f2 h2 ⟨vs, e, rs⟩ => hb F2 H2 (g.trans g2) _ fun w F3 H3 g3 r3 => by
    unfold mulL at h
    split at h
    case isFalse => cases h
    rename_i hz
    cases (Option.some.inj h)
    subst e
    refine ⟨l, n, vs, rfl, r3, g3.hh _ _ h2, Int.le_trans (by decide) hz.1, Int.lt_of_le_of_lt hz.2.1 (by decide), by rw [rs.length, sizeLine_eq]; exact hz.2.2, fun p hp => EvN.new q (g2.trans g3) hp ((rs.mono g3.ff).rep _)⟩)
theorem mulT_p {α : Type} {xs : Tp α} {n : Int} (h : 1 ≤ n ∧ n ≤ 1000 ∧ xs.l.length ≤ 1000 ∧ xs.l ≠ []) : mulT xs n = some ⟨(List.replicate n.toNat xs.l).flatten⟩ := if_pos h
theorem mulL_p {α : Type} {xs : List α} {n : Int} (h : -1000000 ≤ n ∧ n ≤ 1000000 ∧ xs.length * n.toNat ≤ 16777216) : mulL xs n = some (List.replicate n.toNat xs).flatten := if_pos h
end
end Gx

/-! Gl: lists of dicts, rows taken apart. -/
namespace Gx
open PySem PySem.Spec PyProof.Rows L2
open Rp (rp)
open Ra (ra)
open Ob (ob)
section
variable {X : Cx} {K : PySem.W.Frag} {e a b c d : Expr} {es : List Expr} {σ : L2.St} {F H F0 H0 : Hp} {pos : Pos} {D : Ends} {st : Stmt} {rest body : List Stmt}
def tListVals (te : TE) : TE := fun σ H Q => te σ H fun x H1 => ∃ d kvs, x = .ref d ∧ Rd H1 d (.dK kvs) ∧ ∀ p, H1 p = none → Q (.ref p) (upd H1 p (.lst (kvs.map (·.2))))
theorem vals_snd : ∀ {kvs : List (Key × V)} {vs : List (Key × Value)}, KV kvs vs → Vals (kvs.map (·.2)) (vs.map (·.2))
  | _, _, .nil => .nil
  | _, _, .cons h t => .cons h.2 (vals_snd t)
theorem pe_listVals {te : TE} {p apos cpos : Pos} (hc : X.calm = true) (he : PE X e te) (hg : Gl X "list") (hm : X.mg "list" = none) (hv : bootBuiltins "list" = some (.type "list")) (hbase : attributeBase e "values" X.env (eval e X.env) = eval e X.env := by rfl) (hline : (apos.endLine == cpos.line) = true := by rfl)
    (hs : starEach [.Call (.Attribute e "values" apos) [] [] cpos] X.env = (false, eval (.Call (.Attribute e "values" apos) [] [] cpos) X.env) :: starEach [] X.env := by rfl) :
    PE X (.Call (.Name "list" p) [.Call (.Attribute e "values" apos) [] [] cpos] [] pos) (tListVals te) := by
  refine ⟨fun pins s σ H Q I hq => ?_⟩
  refine wpAny_Call_Name_kw (ld_blt I hg hm hv ?_)
  refine PyProof.Rows.callWith_type1 ?_ hs rfl
  rw [hs]
  show wpAny _ _ (spliced ((false, eval (.Call (.Attribute e "values" apos) [] [] cpos) X.env) :: backTo pos (starEach [] X.env))) _ _ s
  refine Calls.spliced_cons ?_
  refine wpAny_Call_method (T := "dict") (id := "dict.values") hbase rfl hline F.plainAttrs_dict F.slot_dict_values F.type_dict_values (thn (he.run pins s σ H _ I hq) fun u s1 ⟨x, H1, I1, rx, d, kvs, ex, hd, q⟩ => ?_)
  subst ex
  obtain rfl : u = Value.ref d := rx
  obtain ⟨hz, hs0, vs, kv, hdo⟩ := dk_rd I1.hok hd
  obtain ⟨ep, hat⟩ := hdo.dictAt
  have lk : kvs.length = vs.length := Paired.length kv
  have I2 : Inv X pins σ H1 { s1 with heap := s1.heap.push { cls := .type "dict_values", data := .fields #[.ref d] } } := I1.kept (t' := s1.toks) fun b ob q => Heap.get?_push_of_some _ q
  refine ⟨hdo.typeIs, hdo.mapOf.noDict, ?_⟩
  show wpAny _ _ (callWith cpos (.builtin "dict.values") [.ref d] [] []) _ X.xe s1
  refine method_meetsIn F.slot_dict_values F.entry_dict_values rfl (PySem.evalArgs_none ⟨rfl, hdo.typeIs, F.args_dict_values_1 _, _, meets_dict_values (mixKind X.prog X.w) d hs0, ⟨vs, hdo⟩, ?_⟩)
  refine Calls.spliced_nil ?_
  refine PySem.W.kdl_call (PySem.W.kdl_values (knd := mixKind X.prog X.w) (kvs := vs) (ep := ep)) (I1.ok.hd hc) ⟨⟨_, Heap.get?_push_size _ rfl, rfl, rfl⟩, hat.push _⟩ (by omega) fun h' tk acc c' hk hD hacc => ?_
  have ev : acc.toList = vs.map (·.2) := PySem.W.kdl_vals_eq _ (by rw [Array.length_toList]; exact hacc.1) fun j v e => hacc.2 j v (by rw [← Array.getElem?_toList]; exact e)
  refine ⟨.ref _, _, I2.laid (t' := tk) hk (Nat.le_refl _) (show ObjOk X.prog X.w _ _ _ (.lst (kvs.map (·.2))) from ⟨by rw [List.length_map]; exact hz, acc.toList, c', by rw [ev]; exact vals_snd kv, by rw [Array.toArray_toList]; exact hD⟩), rfl, q _ (I2.hok.fresh (Nat.le_refl _))⟩
theorem KR.vals {κ ν : Type} [Rp ν] : ∀ {kvs : List (κ × V)} {l : List (κ × ν)}, KR K F kvs l → Rps K F (kvs.map (·.2)) (l.map (·.2))
  | _, _, .nil => .nil
  | _, _, .cons h t => .cons h.2 (KR.vals t)
theorem KR.keysS {κ ν : Type} [Rp κ] [KeyS κ] [Rp ν] : ∀ {kvs : List (κ × V)} {l : List (κ × ν)}, KR K F kvs l → Rps K F ((kvm KeyS.g kvs).map fun kv => kV kv.1) (l.map (·.1))
  | _, _, .nil => .nil
  | _, _, .cons (a := p) (b := q) h t => .cons (KeyS.rpg.mpr (by show kV (KeyS.g p.1) = kV (KeyS.g q.1); rw [h.1])) (KR.keysS t)
section
variable {κ ν : Type} [Rp κ] [DecidableEq κ] [KeyS κ] [Rp ν]
theorem kvm_vals (kvs : List (κ × V)) : (kvm KeyS.g kvs).map (·.2) = kvs.map (·.2) := by unfold kvm; rw [List.map_map]; rfl
theorem en_listVals {m : Dct κ ν} {p apos cpos : Pos} (hm : X.mg "list" = none) (ha : Ev X a σ F H m) (hc : X.calm = true := by rfl) (hg : Gl X "list" := by rfl) (hbase : attributeBase a "values" X.env (eval a X.env) = eval a X.env := by rfl) (hline : (apos.endLine == cpos.line) = true := by rfl)
    (hs : starEach [.Call (.Attribute a "values" apos) [] [] cpos] X.env = (false, eval (.Call (.Attribute a "values" apos) [] [] cpos) X.env) :: starEach [] X.env := by rfl) : EvN X (.Call (.Name "list" p) [.Call (.Attribute a "values" apos) [] [] cpos] [] pos) σ F H m.vals := fun F1 H1 g Q q =>
  GoE.of (pe_listVals hc pe_go hg hm (by decide +kernel) hbase hline hs) (ha F1 H1 g _ fun v F2 H2 g2 r2 => by
    obtain ⟨p, o, kvs, e, hq, kr⟩ := r2
    refine ⟨p, _, e, .inr ⟨o, g2.fh _ _ hq⟩, fun l hl => ?_⟩
    rw [kvm_vals]
    exact EvN.new q g2 hl kr.vals)
theorem en_listKeys {m : Dct κ ν} {p : Pos} (hm : X.mg "list" = none) (ha : Ev X a σ F H m) (hc : X.calm = true := by rfl) (hg : Gl X "list" := by rfl) (hs : starEach [a] X.env = (false, eval a X.env) :: starEach [] X.env := by rfl) (hpl : (backTo pos (starEach [] X.env)).any (·.1) = false := by rfl) :
    EvN X (.Call (.Name "list" p) [a] [] pos) σ F H m.keys := fun F1 H1 g Q q =>
  GoE.of (pe_callTy (call_listD hc) hg hm (by decide +kernel) (pa_cons pe_go pa_nil hs) (by decide) (by decide) hs hpl) (ha F1 H1 g _ fun v F2 H2 g2 r2 => by
    obtain ⟨p, o, kvs, e, hq, kr⟩ := r2
    exact ⟨p, _, by rw [e], .inr ⟨o, g2.fh _ _ hq⟩, fun l hl => EvN.new q g2 hl kr.keysS⟩)
end
theorem ev_tup5 {α β γ δ ε : Type} [Rp α] [Rp β] [Rp γ] [Rp δ] [Rp ε] {x : α} {y : β} {z : γ} {u : δ} {w : ε} {k : Nat} (h : EvA X es σ F H (x, y, z, u, w, ())) : Ev X (.Tuple es k pos) σ F H (T5.mk x y z u w) := ev_tup (θ := T5 α β γ δ ε) h (by show 5 ≤ sizeLine; decide)
/-! ### rows of a known length -/
def to2 {α : Type} : List α → Option (T2 α α)
  | [x, y] => some ⟨x, y⟩
  | _ => none
def to3 {α : Type} : List α → Option (T3 α α α)
  | [x, y, z] => some ⟨x, y, z⟩
  | _ => none
theorem ev_to2 {α : Type} [Rp α] {xs : Tp α} {r : T2 α α} (h : Ev X e σ F H xs) (hr : Gx.to2 xs.l = some r) : Ev X e σ F H r := h.re fun F v r2 => by
  obtain ⟨xs⟩ := xs
  match xs, hr, r2 with
  | [x, y], hr, ⟨a, vs, e, q, rs⟩ =>
    cases hr
    cases rs with
    | cons r1 t => cases t with
      | cons r2 t => cases t; exact ⟨a, _, e, q, _, _, rfl, r1, _, _, rfl, r2, rfl⟩
theorem ev_to3 {α : Type} [Rp α] {xs : Tp α} {r : T3 α α α} (h : Ev X e σ F H xs) (hr : Gx.to3 xs.l = some r) : Ev X e σ F H r := h.re fun F v r2 => by
  obtain ⟨xs⟩ := xs
  match xs, hr, r2 with
  | [x, y, z], hr, ⟨a, vs, e, q, rs⟩ =>
    cases hr
    cases rs with
    | cons r1 t => cases t with
      | cons r2 t => cases t with
        | cons r3 t => cases t; exact ⟨a, _, e, q, _, _, rfl, r1, _, _, rfl, r2, _, _, rfl, r3, rfl⟩
end
end Gx

/-! Gp: loops over ranges, plainly. -/
namespace Gx
open PySem PySem.Spec PyProof.Rows L2
section
variable {α β γ ρ : Type}
theorem intsF_cons (k n : Nat) : intsF (k : Int) (n + 1) = (k : Int) :: intsF ((k + 1 : Nat) : Int) n := by rw [intsF_succ]; rfl
theorem Ok.range_aux {st : β → Int → Option β} {Q : β → Prop} (J : Nat → β → Prop) (n : Nat) (hs : ∀ k b, k < n → J k b → Ok (st b (k : Int)) fun b' => J (k + 1) b') (hq : ∀ b, J n b → Q b) : ∀ (m k : Nat) (b : β), k + m = n → J k b → Ok (Gx.loopN st b (intsF (k : Int) m)) Q
  | 0, k, b, e, h => ⟨b, rfl, hq b (by have : k = n := by omega
                                       exact this ▸ h)⟩
  | m + 1, k, b, e, h => by
    obtain ⟨b', e1, h1⟩ := hs k b (by omega) h
    rw [intsF_cons, loopN_cons e1]
    exact Ok.range_aux J n hs hq m (k + 1) b' (by omega) h1
/-- a loop over range(n) -/
theorem Ok.range {st : β → Int → Option β} {n : Nat} {b : β} {Q : β → Prop} (J : Nat → β → Prop) (h0 : J 0 b) (hs : ∀ k b, k < n → J k b → Ok (st b (k : Int)) fun b' => J (k + 1) b') (hq : ∀ b, J n b → Q b) : Ok (Gx.loopN st b (intsF 0 n)) Q :=
  Ok.range_aux J n hs hq n 0 b (by omega) h0
theorem Ok.rangeM_aux {st : β → Int → Option (Lp β ρ)} {Q : Lp β ρ → Prop} (J : Nat → β → Prop) (n : Nat) (hs : ∀ k b, k < n → J k b → Ok (st b (k : Int)) fun o => match o with | .nx b' => J (k + 1) b' | .bk b' => Q (.bk b') | .rt r => Q (.rt r)) (hq : ∀ b, J n b → Q (.nx b)) : ∀ (m k : Nat) (b : β), k + m = n → J k b → Ok (Gx.loopM st b (intsF (k : Int) m)) Q
  | 0, k, b, e, h => ⟨.nx b, rfl, hq b (by have : k = n := by omega
                                           exact this ▸ h)⟩
  | m + 1, k, b, e, h => by
    obtain ⟨o, e1, h1⟩ := hs k b (by omega) h
    rw [intsF_cons]
    cases o with
    | nx b' => rw [loopM_nx e1]; exact Ok.rangeM_aux J n hs hq m (k + 1) b' (by omega) h1
    | bk b' => exact ⟨.bk b', by rw [Gx.loopM, e1], h1⟩
    | rt r => exact ⟨.rt r, by rw [Gx.loopM, e1], h1⟩
theorem Ok.rangeM {st : β → Int → Option (Lp β ρ)} {n : Nat} {b : β} {Q : Lp β ρ → Prop} (J : Nat → β → Prop) (h0 : J 0 b) (hs : ∀ k b, k < n → J k b → Ok (st b (k : Int)) fun o => match o with | .nx b' => J (k + 1) b' | .bk b' => Q (.bk b') | .rt r => Q (.rt r)) (hq : ∀ b, J n b → Q (.nx b)) : Ok (Gx.loopM st b (intsF 0 n)) Q :=
  Ok.rangeM_aux J n hs hq n 0 b (by omega) h0
/-- a loop over range(n) that appends a few things each time -/
theorem loopN_flat {st : List γ → Int → Option (List γ)} (g : Nat → List γ) (n : Nat) (h : ∀ k < n, st ((List.range k).flatMap g) (k : Int) = some ((List.range k).flatMap g ++ g k)) : Gx.loopN st [] (intsF 0 n) = some ((List.range n).flatMap g) := by
  refine Ok.eq (Ok.range (fun k b => b = (List.range k).flatMap g) rfl (fun k b hk e => ?_) fun b e => e)
  subst e
  refine .of (h k hk) ?_
  rw [List.range_succ, List.flatMap_append, List.flatMap_cons, List.flatMap_nil, List.append_nil]
theorem flat_len {g : Nat → List γ} {m : Nat} (h : ∀ k, (g k).length = m) : ∀ n, ((List.range n).flatMap g).length = n * m
  | 0 => by simp
  | n + 1 => by rw [List.range_succ, List.flatMap_append, List.length_append, flat_len h n, List.flatMap_cons, List.flatMap_nil, List.append_nil, h, Nat.succ_mul]
theorem atI_at {xs : List α} {k : Nat} {x : α} (h : xs[k]? = some x) : L2.atI xs (k : Int) = some x := by
  rw [atI_nn (by omega), Int.toNat_natCast]; exact h
theorem Ok.andOr {a : Option Bool} {P : Bool → Prop} {b : Bool} (h1 : b = true → Ok a P) (h2 : b = false → P false) : Ok (if b = true then a else some false) P := by
  cases b with
  | true => rw [if_pos rfl]; exact h1 rfl
  | false => rw [if_neg Bool.false_ne_true]; exact .ret (h2 rfl)
end
end Gx

/-! Gq: calls that give a new thing; calls and methods that change a private thing. -/
namespace Gx
open PySem PySem.Spec PyProof.Rows L2
open Rp (rp)
open Ra (ra)
open Ob (ob)
section
variable {X : Cx} {K : PySem.W.Frag} {e a b c d : Expr} {es : List Expr} {σ : L2.St} {F H F0 H0 : Hp} {pos : Pos} {D : Ends} {st : Stmt} {rest body : List Stmt}
theorem go_retO {i : Nat} {v : V} {n : Str} {p : Pos} (hσ : σ[i]? = some (some v)) (k : D.rt v H) (hN : X.N[i]? = some n := by rfl) (hv : Vis X.env.scope n := by first | exact Or.inl rfl | exact Or.inr (Or.inl rfl) | exact Or.inr (Or.inr rfl))
    (hd : (n == ("__debug__" : Str)) = false := by decide) (hcd : (n == ("__classdict__" : Str)) = false := by decide) : GoS X (.Return (some (.Name n p)) pos :: rest) D σ H :=
  GoS.cons (ps_ret (pe_var hN hv hd hcd)) ⟨v, hσ, k⟩
theorem go_retE {α : Type} [Rp α] [Ob α] {x : α} (s : L2.Same F H) (he : EvN X e σ F H x) (k : ∀ l o F' H', Gr F H F' H' → H l = none → F' l = none → H' l = some o → ob X.K F' o x → D.rt (.ref l) H') : GoS X (.Return (some e) pos :: rest) D σ H :=
  GoS.cons (ps_ret pe_go) (he F H (.refl s) _ fun l o F2 H2 g n f h r => k l o F2 H2 g n f h r)
/-! ### a new thing from a call -/
def PrN (K : PySem.W.Frag) {τ ρ : Type} [Ra τ] [Rp ρ] [Ob ρ] (f : τ → Option ρ) : Sp := fun vs H Q _ => ∃ F a r, L2.Same F H ∧ ra K F vs a ∧ f a = some r ∧ ∀ l o F' H', Gr F H F' H' → H l = none → F' l = none → H' l = some o → ob K F' o r → Q (.ref l) H'
theorem en_call {τ ρ : Type} [Ra τ] [Rp ρ] [Ob ρ] {f : τ → Option ρ} {y : τ} {r : ρ} {k : Nat} {fa : Addr} {fd : FuncData} {ps : List Str} {x : Str} {p : Pos} (Fn : FnOk X.prog X.w X.K X.mg X.base CX0 k fa fd ps (PrN X.K f)) (hr : Room k X.A) (hm : X.mg x = some (.ref fa))
    (hk : PySem.W.keepIn X.K (.ref fa) = true) (hb : Binds X.K fd ps []) (ha : EvA X (e :: es) σ F H y) (h : f y = some r) (hg : Gl X x := by rfl) (hdb : (x == ("__debug__" : Str)) = false := by decide)
    (he : starEach (e :: es) X.env = (false, eval e X.env) :: starEach es X.env := by rfl) (hpl : (backTo pos (starEach es X.env)).any (·.1) = false := by rfl) : EvN X (.Call (.Name x p) (e :: es) [] pos) σ F H r := fun F1 H1 g Q q =>
  GoE.of (pe_call Fn hr hg hm hk hb .nil pass0 pa_go hdb he hpl) (ha F1 H1 g _ fun vs F2 H2 g2 r2 => ⟨F2, y, r, g2.fh, by rw [List.append_nil]; exact r2, h, fun l o F3 H3 g3 n3 f3 h3 r3 => q l o F3 H3 (g2.trans g3) (g2.hh.free n3) f3 h3 r3⟩)
theorem fn_okN {P : Program} {w : World} {mg : Str → Option Value} {base : Heap} {τ ρ : Type} [Ra τ] [RaN τ] [Rp ρ] [Ob ρ] {f : τ → Option ρ} {x qual : Str} {s0 : Stmt} {fa : Addr} {fd : FuncData} {N ps : List Str} {k : Nat} (Fn : FunD K x qual (defArgs s0) (defBody s0) (defScope s0) [] [] fa fd) (S : FnScope N ps (defScope s0)) (hn : RaN.n τ = ps.length)
    (hbody : ∀ (cdv : Value) (A : Around) (outer : List Env) (s : Shared) (F H : Hp) (vs : List V) (a : τ) (r : ρ) (D : Ends) (E : XK), Room k (A.deeper (envOfC qual (defScope s0) s.heap.objs.size fa cdv)) → L2.Same F H → ra K F vs a → f a = some r → (∀ l o F' H', Gr F H F' H' → H l = none → F' l = none → H' l = some o → ob K F' o r → D.rt (.ref l) H') →
      True → GoS (cxOf CX0 P w K mg base N qual (defScope s0) fa cdv A outer s H E).nox (defBody s0) D (start N vs) H) :
    FnOk P w K mg base CX0 (k + 1) fa fd ps (PrN K f) := by
  refine Fn.ok S (fun vs H Q E ⟨F, a, r, _, ra', _⟩ => by rw [RaN.len ra', hn]) fun cdv A outer s H vs Q E hr ⟨F, a, r, sm, ra', hf, k⟩ => ?_
  exact ⟨_, PSs.nox pss_go, hbody cdv A outer s F H vs a r { nx := fun _ H' => Q .non H', rt := Q } E hr sm ra' hf (fun l o F' H' g n f h r => k l o F' H' g n f h r) trivial⟩
/-! ### a private thing that is changed -/
theorem Gr.erl {F1 H1 F2 H2 H3 : Hp} {l : Addr} {o : HO} (g : Gr F1 H1 F2 H2) (f : F1 l = none) (h : H1 l = some o) (ls : lstish o) (k : ∀ b, b ≠ l → H3 b = H2 b) : Gr F1 (er H1 l) F2 H3 := by
  have f2 : F2 l = none := (g.fr l o h ls).trans f
  refine ⟨g.ff, fun b u e => ?_, fun b u e => ?_, fun b u e n => ?_⟩
  · rw [k b (ne_of_none e f2)]; exact g.fh _ _ e
  · unfold er at e
    split at e
    · cases e
    · rename_i hb
      rw [k b hb]; exact g.hh _ _ e
  · unfold er at e
    split at e
    · cases e
    · exact g.fr b u e n
theorem Own.erl {α : Type} [Rp α] [Ob α] {x : α} {l : Addr} {F2 H2 H3 : Hp} (o : Own K H0 F H l x) (g : Gr F H F2 H2) (k : ∀ b, b ≠ l → H3 b = H2 b) : Gr F (er H l) F2 H3 := by
  obtain ⟨u, h, r⟩ := o.h
  exact g.erl o.f h (Ob.ls r) k
theorem Own.ere {α : Type} [Rp α] [Ob α] {x : α} {l : Addr} {F2 H2 : Hp} (o : Own K H0 F H l x) (g : Gr F H F2 H2) : Gr F (er H l) F2 (er H2 l) := o.erl g fun b hb => er_ne hb
/-- e is worth r and turns the thing at l to y -/
def EvM {ρ β : Type} [Rp ρ] [Rp β] [Ob β] (X : Cx) (e : Expr) (σ : L2.St) (F H : Hp) (l : Addr) (r : ρ) (y : β) : Prop := ∀ F1 H1, Gr F H F1 H1 → ∀ Q : VK, (∀ u F2 H2 o, Gr F1 (er H1 l) F2 H2 → F2 l = none → H2 l = some o → ob X.K F2 o y → rp X.K F2 u r → Q u H2) → GoE X e σ H1 Q
def EvAM {τ1 τ2 : Type} [Ra τ1] [Ra τ2] (X : Cx) (es : List Expr) (σ : L2.St) (F H : Hp) (y : τ1) (l : Addr) (z : τ2) : Prop := ∀ F1 H1, Gr F H F1 H1 → ∀ Q : List V → Hp → Prop, (∀ vs1 vs2 F2 H2, Gr F1 H1 F2 H2 → ra X.K F2 vs1 y → ra X.K F2 vs2 z → Q (vs1 ++ .ref l :: vs2) H2) → GoA X es σ H1 Q
theorem eam_here {τ2 : Type} [Ra τ2] {z : τ2} {l : Addr} {n : Str} {p : Pos} (i : Nat) (hσ : σ[i]? = some (some (.ref l))) (hr : EvA X es σ F H z) (hN : X.N[i]? = some n := by rfl) (hv : Vis X.env.scope n := by first | exact Or.inl rfl | exact Or.inr (Or.inl rfl) | exact Or.inr (Or.inr rfl))
    (hd : (n == ("__debug__" : Str)) = false := by decide) (hcd : (n == ("__classdict__" : Str)) = false := by decide) (hs : starEach (.Name n p :: es) X.env = (false, eval (.Name n p) X.env) :: starEach es X.env := by rfl) : EvAM X (.Name n p :: es) σ F H () l z := fun F1 H1 g Q q =>
  GoA.of (pa_cons (pe_var hN hv hd hcd) pa_go hs) ⟨_, hσ, hr F1 H1 g _ fun vs F2 H2 g2 r2 => q [] vs F2 H2 g2 rfl r2⟩
theorem eam_cons {α τ1 τ2 : Type} [Rp α] [Ra τ1] [Ra τ2] {x : α} {y : τ1} {z : τ2} {l : Addr} (ha : Ev X e σ F H x) (hr : EvAM X es σ F H y l z) (hs : starEach (e :: es) X.env = (false, eval e X.env) :: starEach es X.env := by rfl) : EvAM X (e :: es) σ F H (x, y) l z := fun F1 H1 g Q q =>
  GoA.of (pa_cons pe_go pa_go hs) (ha F1 H1 g _ fun v F2 H2 g2 r2 => hr F2 H2 (g.trans g2) _ fun vs1 vs2 F3 H3 g3 r3 r4 => q (v :: vs1) vs2 F3 H3 (g2.trans g3) ⟨v, vs1, rfl, Rp.mono g3.ff r2, r3⟩ r4)
/-- the promise of a def that changes the thing that is handed in at one place -/
def PrM (K : PySem.W.Frag) {τ1 τ2 β ρ : Type} [Ra τ1] [Ra τ2] [Rp β] [Ob β] [Rp ρ] (f : τ1 → β → τ2 → Option (ρ × β)) : Sp := fun vs H Q _ => ∃ F ws1 l ws2 o a1 x a2 r, vs = ws1 ++ .ref l :: ws2 ∧ L2.Same F H ∧ ra K F ws1 a1 ∧ ra K F ws2 a2 ∧ F l = none ∧ H l = some o ∧ ob K F o x ∧ f a1 x a2 = some r ∧
  ∀ F' H' u o', Gr F (er H l) F' H' → F' l = none → H' l = some o' → ob K F' o' r.2 → rp K F' u r.1 → Q u H'
theorem em_call {τ1 τ2 β ρ : Type} [Ra τ1] [Ra τ2] [Rp β] [Ob β] [Rp ρ] {f : τ1 → β → τ2 → Option (ρ × β)} {y : τ1} {z : τ2} {xx : β} {r : ρ × β} {l : Addr} {k : Nat} {fa : Addr} {fd : FuncData} {ps : List Str} {x : Str} {p : Pos} (Fn : FnOk X.prog X.w X.K X.mg X.base CX0 k fa fd ps (PrM X.K f)) (hr : Room k X.A) (hm : X.mg x = some (.ref fa))
    (hk : PySem.W.keepIn X.K (.ref fa) = true) (hb : Binds X.K fd ps []) (o : Own X.K H0 F H l xx) (ha : EvAM X (e :: es) σ F H y l z) (h : f y xx z = some r) (hg : Gl X x := by rfl) (hdb : (x == ("__debug__" : Str)) = false := by decide)
    (he : starEach (e :: es) X.env = (false, eval e X.env) :: starEach es X.env := by rfl) (hpl : (backTo pos (starEach es X.env)).any (·.1) = false := by rfl) : EvM X (.Call (.Name x p) (e :: es) [] pos) σ F H l r.1 r.2 := fun F1 H1 g Q q =>
  GoE.of (pe_call Fn hr hg hm hk hb .nil pass0 pa_go hdb he hpl) (ha F1 H1 g _ fun vs1 vs2 F2 H2 g2 r2 r3 => by
    have o1 := o.up g
    have o2 := o1.up g2
    obtain ⟨u, hu, ru⟩ := o2.h
    exact ⟨F2, vs1, l, vs2, u, y, xx, z, r, by rw [List.append_nil], g2.fh, r2, r3, o2.f, hu, ru, h, fun F3 H3 v o' g3 f3 h3 b3 r3 => q v F3 H3 o' ((o1.ere g2).trans g3) f3 h3 b3 r3⟩)
theorem fn_okM {P : Program} {w : World} {mg : Str → Option Value} {base : Heap} {τ1 τ2 β ρ : Type} [Ra τ1] [RaN τ1] [Ra τ2] [RaN τ2] [Rp β] [Ob β] [Rp ρ] {f : τ1 → β → τ2 → Option (ρ × β)} {x qual : Str} {s0 : Stmt} {fa : Addr} {fd : FuncData} {N ps : List Str} {k : Nat} (Fn : FunD K x qual (defArgs s0) (defBody s0) (defScope s0) [] [] fa fd) (S : FnScope N ps (defScope s0)) (hn : RaN.n τ1 + (RaN.n τ2 + 1) = ps.length)
    (hbody : ∀ (cdv : Value) (A : Around) (outer : List Env) (s : Shared) (F H0 H : Hp) (l : Addr) (vs1 vs2 : List V) (a1 : τ1) (x : β) (a2 : τ2) (r : ρ × β) (D : Ends) (E : XK), Room k (A.deeper (envOfC qual (defScope s0) s.heap.objs.size fa cdv)) → Gr F H0 F H → Own K H0 F H l x → ra K F vs1 a1 → ra K F vs2 a2 → f a1 x a2 = some r →
      (∀ F' H' u o', Gr F H0 F' H' → F' l = none → H' l = some o' → ob K F' o' r.2 → rp K F' u r.1 → D.rt u H') → (∀ σ' F' H' o', Gr F H0 F' H' → F' l = none → H' l = some o' → ob K F' o' r.2 → rp K F' .non r.1 → D.nx σ' H') → GoS (cxOf CX0 P w K mg base N qual (defScope s0) fa cdv A outer s H E).nox (defBody s0) D (start N (vs1 ++ .ref l :: vs2)) H) :
    FnOk P w K mg base CX0 (k + 1) fa fd ps (PrM K f) := by
  refine Fn.ok S (fun vs H Q E ⟨F, ws1, l, ws2, o, a1, x, a2, r, e, _, r1, r2, _⟩ => by rw [e, List.length_append, List.length_cons, RaN.len r1, RaN.len r2, hn]) fun cdv A outer s H vs Q E hr ⟨F, ws1, l, ws2, o, a1, x, a2, r, e, sm, r1, r2, fl, hl, bo, hf, k⟩ => ?_
  subst e
  exact ⟨_, PSs.nox pss_go, hbody cdv A outer s F (er H l) H l ws1 ws2 a1 x a2 r { nx := fun _ H' => Q .non H', rt := Q } E hr (Gr.start sm fl) ⟨er_same, fl, o, hl, bo⟩ r1 r2 hf (fun F' H' u o' g f h b r => k F' H' u o' g f h b r) fun σ' F' H' o' g f h b r => k F' H' .non o' g f h b r⟩
/-! ### statements by such expressions -/
theorem go_exprM {ρ β : Type} [Rp ρ] [Rp β] [Ob β] {r : ρ} {y : β} {l : Addr} (s : L2.Same F H) (he : EvM X e σ F H l r y) (k : ∀ F' H' o, Gr F (er H l) F' H' → F' l = none → H' l = some o → ob X.K F' o y → GoS X rest D σ H') (hs : swapsWith e none pos.line X.env = pure false := by rfl) : GoS X (.Expr e pos :: rest) D σ H :=
  GoS.cons (ps_expr pe_go hs) (he F H (.refl s) _ fun v F2 H2 o g f h b r => k F2 H2 o g f h b)
theorem go_setM {ρ β : Type} [Rp ρ] [Rp β] [Ob β] {r : ρ} {y : β} {l : Addr} {n : Str} {p : Pos} (i : Nat) (s : L2.Same F H) (he : EvM X e σ F H l r y) (k : ∀ v F' H' o, Gr F (er H l) F' H' → F' l = none → H' l = some o → ob X.K F' o y → rp X.K F' v r → GoS X rest D (σ.set i (some v)) H') (hN : X.N.Nodup) (hi : X.N[i]? = some n := by rfl)
    (hx : Loc X.env.scope n := by first | exact Or.inl rfl | exact Or.inr rfl) (hs : swapsWith e (some (.Name n p)) pos.line X.env = pure false := by rfl) (hf : X.fn n = true ∨ X.env.scope.names.lookup n = some .local := by first | exact .inl rfl | exact .inr rfl) :
    GoS X (.Assign [.Name n p] e pos :: rest) D σ H :=
  GoS.cons (ps_set hN hi hx pe_go hs hf) (he F H (.refl s) _ fun v F2 H2 o g f h b r => k v F2 H2 o g f h b r)
theorem go_retM {ρ β : Type} [Rp ρ] [Rp β] [Ob β] {r : ρ} {y : β} {l : Addr} (s : L2.Same F H) (he : EvM X e σ F H l r y) (k : ∀ v F' H' o, Gr F (er H l) F' H' → F' l = none → H' l = some o → ob X.K F' o y → rp X.K F' v r → D.rt v H') : GoS X (.Return (some e) pos :: rest) D σ H :=
  GoS.cons (ps_ret pe_go) (he F H (.refl s) _ fun v F2 H2 o g f h b r => k v F2 H2 o g f h b r)
theorem go_appendM {ρ β : Type} [Rp ρ] [Rp β] [Ob β] {y : β} {l : Addr} {xs : List ρ} {w : ρ} {r : List ρ} {l2 : Addr} {n : Str} {p1 p2 p3 : Pos} (i : Nat) (s : L2.Same F H) (o : Own X.K H0 F H l2 xs) (hne : l2 ≠ l) (hσ : σ[i]? = some (some (.ref l2))) (he : EvM X e σ F H l w y) (h : app xs w = some r)
    (k : ∀ u F' H' o', Gr F (er H l) F' H' → F' l = none → H' l = some o' → ob X.K F' o' y → H' l2 ≠ none → F' l2 = none → Own X.K H0 F' (upd H' l2 u) l2 r → GoS X rest D σ (upd H' l2 u)) (hN : X.N[i]? = some n := by rfl) (hv : Vis X.env.scope n := by first | exact Or.inl rfl | exact Or.inr (Or.inl rfl) | exact Or.inr (Or.inr rfl))
    (hd : (n == ("__debug__" : Str)) = false := by decide) (hcd : (n == ("__classdict__" : Str)) = false := by decide) 
    (hbase : attributeBase (.Name n p1) "append" X.env (eval (.Name n p1) X.env) = eval (.Name n p1) X.env := by rfl)
    (hfew : ((backTo p3 (starEach [e] X.env)).all (fun x => !x.1) && (backToKw p3 (keywordEach [] X.env)).all (fun x => x.1.isSome) && decide ([e].length + ([] : List Keyword).length + (if ([] : List Keyword).isEmpty then 0 else 1) < 30)) = true := by rfl)
    (hline : (p2.endLine == p3.line) = true := by rfl) (hs : starEach [e] X.env = (false, eval e X.env) :: starEach [] X.env := by rfl) (hplain : (backTo p3 (starEach [] X.env)).any (·.1) = false := by rfl) (hsw : swapsWith (.Call (.Attribute (.Name n p1) "append" p2) [e] [] p3) none pos.line X.env = pure false := by rfl) :
    GoS X (.Expr (.Call (.Attribute (.Name n p1) "append" p2) [e] [] p3) pos :: rest) D σ H := by
  obtain ⟨_, hl, vs, rfl, rs⟩ := o.h
  obtain ⟨hz, rfl⟩ := app_of h
  refine GoS.cons (ps_expr (pe_bm PySem.F.plainAttrs_list PySem.F.slot_list_append PySem.F.type_list_append mt_append (pe_var hN hv hd hcd) (pa_cons pe_go pa_nil hs) hbase hfew hline hs hplain) hsw) ?_
  refine ⟨_, hσ, .inl ⟨rfl, _, SqL.of hl⟩, he F H (.refl s) _ fun v F2 H2 o' g f2 h2 b2 r => ?_⟩
  have o2 := o.over hne g
  obtain ⟨_, hl2, vs2, rfl, rs2⟩ := o2.h
  have hl3 : H2 l2 = some (.lst vs) := g.hh _ _ (by rw [er_ne hne]; exact hl)
  rw [hl2] at hl3; cases hl3
  exact ⟨l2, vs, v, rfl, rfl, hl2, by rw [rs2.length]; exact hz, k _ F2 H2 o' g f2 h2 b2 o2.ne0 o2.f (Own.set o2.n o2.f (ob_lst (Rps.append rs2 (.cons r .nil))))⟩
/-! ### pop -/
theorem Rps.erase {α : Type} [Rp α] : ∀ {vs : List V} {xs : List α} (n : Nat), Rps K F vs xs → Rps K F (vs.eraseIdx n) (xs.eraseIdx n)
  | _, _, _, .nil => by simp; exact .nil
  | _, _, 0, .cons _ t => t
  | _, _, n + 1, .cons r t => .cons r (Rps.erase n t)
def popG {α : Type} (xs : List α) (i : Int) : Option (α × List α) := if -(2 ^ 62) ≤ i ∧ i < 2 ^ 62 then match seqIndex? i xs.length with
    | some k => (xs[k]?).map fun y => (y, xs.eraseIdx k)
    | none => none
  else none
theorem popG_of {α : Type} {xs : List α} {i : Int} {r : α × List α} (h : popG xs i = some r) : ∃ k, -(2 ^ 62) ≤ i ∧ i < 2 ^ 62 ∧ seqIndex? i xs.length = some k ∧ xs[k]? = some r.1 ∧ r.2 = xs.eraseIdx k := by
  unfold popG at h
  split at h
  case isFalse => cases h
  rename_i hi
  cases e : seqIndex? i xs.length with
  | none => rw [e] at h; cases h
  | some k =>
    rw [e] at h
    obtain ⟨y, h1, h2⟩ := Option.map_eq_some_iff.mp h
    subst h2
    exact ⟨k, hi.1, hi.2, rfl, h1, rfl⟩
theorem em_pop1 {α : Type} [Rp α] {xs : List α} {k : Int} {r : α × List α} {l : Addr} {n : Str} {p1 p2 p3 : Pos} (i : Nat) (o : Own X.K H0 F H l xs) (hσ : σ[i]? = some (some (.ref l))) (he : Ev X e σ F H k) (h : popG xs k = some r)
    (hN : X.N[i]? = some n := by rfl) (hv : Vis X.env.scope n := by first | exact Or.inl rfl | exact Or.inr (Or.inl rfl) | exact Or.inr (Or.inr rfl))
    (hd : (n == ("__debug__" : Str)) = false := by decide) (hcd : (n == ("__classdict__" : Str)) = false := by decide) 
    (hbase : attributeBase (.Name n p1) "pop" X.env (eval (.Name n p1) X.env) = eval (.Name n p1) X.env := by rfl)
    (hfew : ((backTo p3 (starEach [e] X.env)).all (fun x => !x.1) && (backToKw p3 (keywordEach [] X.env)).all (fun x => x.1.isSome) && decide ([e].length + ([] : List Keyword).length + (if ([] : List Keyword).isEmpty then 0 else 1) < 30)) = true := by rfl)
    (hline : (p2.endLine == p3.line) = true := by rfl) (hs : starEach [e] X.env = (false, eval e X.env) :: starEach [] X.env := by rfl) (hplain : (backTo p3 (starEach [] X.env)).any (·.1) = false := by rfl) :
    EvM X (.Call (.Attribute (.Name n p1) "pop" p2) [e] [] p3) σ F H l r.1 r.2 := fun F1 H1 g Q q => by
  have o1 := o.up g
  obtain ⟨_, hl, vs, rfl, rs⟩ := o1.h
  obtain ⟨j, b1, b2, hj, hy, e2⟩ := popG_of h
  refine GoE.of (pe_bm PySem.F.plainAttrs_list PySem.F.slot_list_pop PySem.F.type_list_pop mt_popAt (pe_var hN hv hd hcd) (pa_cons pe_go pa_nil hs) hbase hfew hline hs hplain) ?_
  refine ⟨_, hσ, .inl ⟨rfl, _, SqL.of hl⟩, he F1 H1 g _ fun v F2 H2 g2 r2 => ?_⟩
  have hl2 := g2.hh _ _ hl
  have rs2 := rs.mono g2.ff
  obtain ⟨y, hy1, ry⟩ := rs2.get hy
  refine ⟨l, vs, k, j, y, rfl, by rw [show v = .int k from r2], hl2, Int.le_trans (by decide) b1, Int.lt_trans b2 (by decide), by rw [rs.length]; exact hj, hy1, ?_⟩
  exact q y F2 _ _ (o1.erl g2 fun b hb => upd_ne hb) (o1.up g2).f upd_same (by rw [e2]; exact ob_lst (rs2.erase j)) ry
theorem seqIndex_nat {i : Int} {n : Nat} (h0 : 0 ≤ i) (h1 : i < n) : seqIndex? i n = some i.toNat := by
  have e1 : (if i < 0 then i + (n : Int) else i) = i := if_neg (by omega)
  unfold seqIndex?
  simp only [e1]
  rw [if_pos (by rw [decide_eq_true h0, decide_eq_true h1]; rfl)]
theorem popG_p {α : Type} {xs : List α} {i : Int} {y : α} (h0 : 0 ≤ i) (hs : xs.length < 1000000) (h : xs[i.toNat]? = some y) : popG xs i = some (y, xs.eraseIdx i.toNat) := by
  have := (List.getElem?_eq_some_iff.mp h).1
  unfold popG
  rw [if_pos ⟨by omega, by omega⟩, seqIndex_nat h0 (by omega)]
  simp only [h, Option.map_some]
/-! ### more than one part -/
theorem em_tup2a {α ρ β : Type} [Rp α] [Rp ρ] [Rp β] [Ob β] {r : ρ} {y xx : β} {z : α} {l : Addr} {k : Nat} (o : Own X.K H0 F H l xx) (ha : EvM X a σ F H l r y) (hb : Ev X b σ F (er H l) z) (hs : starEach [a, b] X.env = (false, eval a X.env) :: starEach [b] X.env := by rfl) (hs2 : starEach [b] X.env = (false, eval b X.env) :: starEach [] X.env := by rfl) : EvM X (.Tuple [a, b] k pos) σ F H l (T2.mk r z) y := fun F1 H1 g Q q =>
  GoE.of (pe_tup (pa_cons pe_go (pa_cons pe_go pa_nil hs2) hs)) (ha F1 H1 g _ fun u F2 H2 o' g2 f2 h2 b2 r2 => hb F2 H2 ((o.ere g).trans g2) _ fun v F3 H3 g3 r3 => ⟨by show 2 ≤ sizeLine; decide, fun p hp => by
    have f3 : F3 l = none := (g3.fr l _ h2 (Ob.ls b2)).trans f2
    have h3 := g3.hh _ _ h2
    have g4 : Gr F3 H3 (upd F3 p (.tup [u, v])) (upd H3 p (.tup [u, v])) := Gr.new g3.fh hp
    have hlp : l ≠ p := ne_of_none h3 hp
    exact q (.ref p) _ _ o' ((g2.trans g3).trans g4) (by rw [upd_ne hlp]; exact f3) (by rw [upd_ne hlp]; exact h3) (Ob.mono (g3.ff.trans g4.ff) b2) ⟨p, _, rfl, upd_same, u, _, rfl, Rp.mono (g3.ff.trans g4.ff) r2, v, _, rfl, Rp.mono g4.ff r3, rfl⟩⟩)
theorem em_thaw {ρ β γ : Type} [Rp ρ] [Flat ρ] [Rp β] [Ob β] [FlatO β] [Rp γ] [Ob γ] {x : ρ} {z : β} {y : γ} {l l2 : Addr} (o : Own X.K H0 F H l y) (hne : l2 ≠ l) (s : L2.Same F H) (h : ∀ F' H', L2.Same F F' → L2.Same F' H' → rp X.K F' (.ref l) y → (∀ a, a ≠ l → F' a = F a ∧ H' a = H a) → EvM X e σ F' H' l2 x z) : EvM X e σ F H l2 x z := fun F1 H1 g Q q => by
  obtain ⟨u, hl, r⟩ := o.h
  have hl1 := g.hh _ _ hl
  refine GoE.locked hl1 (Ob.mu r) fun od => ?_
  obtain ⟨g1, f1, h1⟩ := Gr.show_ (u := .frz od u) hl o.f (Ob.ls r) g
  refine h _ _ (same_upd o.f) (shown s) (Ob.fz upd_same (Ob.mono (same_upd o.f) r)) (fun a ha => ⟨upd_ne ha, upd_ne ha⟩) _ _ g1 _ fun v F2 H2 o2 g2 f2 h2 b2 r2 => ?_
  have e1 : er (upd H1 l (.frz od u)) l2 = upd (er H1 l2) l (.frz od u) := by
    funext b
    unfold er upd
    by_cases hb : b = l
    · subst hb; rw [if_neg (fun z => hne z.symm), if_pos rfl, if_pos rfl]
    · rw [if_neg hb, if_neg hb]
  rw [e1] at g2
  have e2 : F2 l = some (.frz od u) := g2.ff _ _ upd_same
  obtain ⟨n1, n2⟩ := frz_no e2 (Ob.ls r)
  have g3 := Gr.hide (F1 := F1) (H1 := er H1 l2) (l := l) (o := u) (by rw [er_ne (fun z => hne z.symm)]; exact h1) f1 g2
  refine ⟨g2.fh _ _ e2, q v (er F2 l) _ o2 g3 ?_ ?_ (FlatO.fl n1 n2 b2) (Flat.fl n1 n2 r2)⟩
  · rw [er_ne hne]; exact f2
  · rw [upd_ne hne]; exact h2
end
end Gx

/-! Gs: defs that give a new thing or change one; more methods of lists and dicts. -/
namespace Gx
open PySem PySem.Spec PyProof.Rows L2
open Rp (rp)
open Ra (ra)
open Ob (ob)
section
variable {X : Cx} {K : PySem.W.Frag} {e a b c d : Expr} {es : List Expr} {σ : L2.St} {F H F0 H0 : Hp} {pos : Pos} {D : Ends} {st : Stmt} {rest body : List Stmt}
theorem Own.own {α : Type} [Rp α] [Ob α] {x : α} {l : Addr} {o : HO} {H1 : Hp} (g : Gr H1 H0 F H) : True := trivial
/-- a def that gives a new thing -/
theorem fn_okN' {P : Program} {w : World} {mg : Str → Option Value} {base : Heap} {τ ρ : Type} [Ra τ] [RaN τ] [Rp ρ] [Ob ρ] {f : τ → Option ρ} {x qual : Str} {s0 : Stmt} {fa : Addr} {fd : FuncData} {N ps : List Str} {k : Nat} (Fn : FunD K x qual (defArgs s0) (defBody s0) (defScope s0) [] [] fa fd) (S : FnScope N ps (defScope s0)) (hn : RaN.n τ = ps.length)
    (hbody : ∀ (cdv : Value) (A : Around) (outer : List Env) (s : Shared) (F H : Hp) (vs : List V) (a : τ) (r : ρ) (D : Ends) (E : XK), Room k (A.deeper (envOfC qual (defScope s0) s.heap.objs.size fa cdv)) → L2.Same F H → ra K F vs a → f a = some r → (∀ l F' H', Gr F H F' H' → Own K H F' H' l r → D.rt (.ref l) H') →
      True → GoS (cxOf CX0 P w K mg base N qual (defScope s0) fa cdv A outer s H E).nox (defBody s0) D (start N vs) H) :
    FnOk P w K mg base CX0 (k + 1) fa fd ps (PrN K f) :=
  fn_okN Fn S hn fun cdv A outer s F H vs a r D E hr sm ra' hf kr _ => hbody cdv A outer s F H vs a r D E hr sm ra' hf (fun l F' H' g o => by
    obtain ⟨u, h, b⟩ := o.h
    exact kr l u F' H' g o.n o.f h b) trivial
theorem go_retO' {α : Type} [Rp α] [Ob α] {x : α} {l : Addr} {n : Str} {p : Pos} (i : Nat) (hσ : σ[i]? = some (some (.ref l))) (k : D.rt (.ref l) H) (hN : X.N[i]? = some n := by rfl) (hv : Vis X.env.scope n := by first | exact Or.inl rfl | exact Or.inr (Or.inl rfl) | exact Or.inr (Or.inr rfl))
    (hd : (n == ("__debug__" : Str)) = false := by decide) (hcd : (n == ("__classdict__" : Str)) = false := by decide) : GoS X (.Return (some (.Name n p)) pos :: rest) D σ H := go_retO hσ k hN hv hd hcd
/-- a def that changes the thing handed in at one place -/
theorem fn_okM' {P : Program} {w : World} {mg : Str → Option Value} {base : Heap} {τ1 τ2 β ρ : Type} [Ra τ1] [RaN τ1] [Ra τ2] [RaN τ2] [Rp β] [Ob β] [Rp ρ] {f : τ1 → β → τ2 → Option (ρ × β)} {x qual : Str} {s0 : Stmt} {fa : Addr} {fd : FuncData} {N ps : List Str} {k : Nat} (Fn : FunD K x qual (defArgs s0) (defBody s0) (defScope s0) [] [] fa fd) (S : FnScope N ps (defScope s0)) (hn : RaN.n τ1 + (RaN.n τ2 + 1) = ps.length)
    (hbody : ∀ (cdv : Value) (A : Around) (outer : List Env) (s : Shared) (F H0 H : Hp) (l : Addr) (vs1 vs2 : List V) (a1 : τ1) (x : β) (a2 : τ2) (r : ρ × β) (D : Ends) (E : XK), Room k (A.deeper (envOfC qual (defScope s0) s.heap.objs.size fa cdv)) → Gr F H0 F H → Own K H0 F H l x → ra K F vs1 a1 → ra K F vs2 a2 → f a1 x a2 = some r →
      (∀ F' H' u, Gr F H0 F' H' → Own K H0 F' H' l r.2 → rp K F' u r.1 → D.rt u H') → (∀ σ' F' H', Gr F H0 F' H' → Own K H0 F' H' l r.2 → rp K F' .non r.1 → D.nx σ' H') → GoS (cxOf CX0 P w K mg base N qual (defScope s0) fa cdv A outer s H E).nox (defBody s0) D (start N (vs1 ++ .ref l :: vs2)) H) :
    FnOk P w K mg base CX0 (k + 1) fa fd ps (PrM K f) :=
  fn_okM Fn S hn fun cdv A outer s F H0 H l vs1 vs2 a1 x a2 r D E hr g o r1 r2 hf kr kn => hbody cdv A outer s F H0 H l vs1 vs2 a1 x a2 r D E hr g o r1 r2 hf
    (fun F' H' u g o r => by
      obtain ⟨v, h, b⟩ := o.h
      exact kr F' H' u v g o.f h b r)
    (fun σ' F' H' g o r => by
      obtain ⟨v, h, b⟩ := o.h
      exact kn σ' F' H' v g o.f h b r)
theorem Own.mk' {α : Type} [Rp α] [Ob α] {y : α} {l : Addr} {o : HO} (n : H0 l = none) (f : F l = none) (h : H l = some o) (b : ob K F o y) : Own K H0 F H l y := ⟨n, f, o, h, b⟩
/-! ### pop, extend, insert, reverse, clear -/
def popE {α : Type} (xs : List α) : Option (α × List α) := match xs.getLast? with
  | some y => some (y, xs.dropLast)
  | none => none
theorem popE_of {α : Type} {xs : List α} {r : α × List α} (h : popE xs = some r) : xs[xs.length - 1]? = some r.1 ∧ r.2 = xs.dropLast := by
  unfold popE at h
  rw [List.getLast?_eq_getElem?] at h
  cases e : xs[xs.length - 1]? with
  | none => rw [e] at h; cases h
  | some y => rw [e] at h; cases h; exact ⟨rfl, rfl⟩
theorem popE_p {α : Type} {xs : List α} {y : α} : popE (xs ++ [y]) = some (y, xs) := by unfold popE; simp
theorem Rps.dropLast {α : Type} [Rp α] {vs : List V} {xs : List α} (h : Rps K F vs xs) : Rps K F vs.dropLast xs.dropLast := by
  rw [List.dropLast_eq_take, List.dropLast_eq_take, h.length]; exact Rps.take _ h
theorem Rps.reverse {α : Type} [Rp α] : ∀ {vs : List V} {xs : List α}, Rps K F vs xs → Rps K F vs.reverse xs.reverse
  | _, _, .nil => .nil
  | _, _, .cons r t => by rw [List.reverse_cons, List.reverse_cons]; exact Rps.append (Rps.reverse t) (.cons r .nil)
section
variable {α : Type} [Rp α] {xs : List α} {l : Addr} {n : Str} {p1 p2 p3 : Pos}
theorem em_pop0 {r : α × List α} (i : Nat) (o : Own X.K H0 F H l xs) (hσ : σ[i]? = some (some (.ref l))) (h : popE xs = some r) (hN : X.N[i]? = some n := by rfl) (hv : Vis X.env.scope n := by first | exact Or.inl rfl | exact Or.inr (Or.inl rfl) | exact Or.inr (Or.inr rfl))
    (hd : (n == ("__debug__" : Str)) = false := by decide) (hcd : (n == ("__classdict__" : Str)) = false := by decide) (hbase : attributeBase (.Name n p1) "pop" X.env (eval (.Name n p1) X.env) = eval (.Name n p1) X.env := by rfl) (hline : (p2.endLine == p3.line) = true := by rfl) :
    EvM X (.Call (.Attribute (.Name n p1) "pop" p2) [] [] p3) σ F H l r.1 r.2 := fun F1 H1 g Q q => by
  have o1 := o.up g
  obtain ⟨_, hl, vs, rfl, rs⟩ := o1.h
  obtain ⟨hy, e2⟩ := popE_of h
  refine GoE.of (pe_bm0 PySem.F.plainAttrs_list PySem.F.slot_list_pop PySem.F.type_list_pop mt_pop (pe_var hN hv hd hcd) hbase hline) ?_
  obtain ⟨y, hy1, ry⟩ := rs.get hy
  refine ⟨_, hσ, .inl ⟨rfl, _, SqL.of hl⟩, l, vs, y, rfl, rfl, hl, by rw [rs.length]; exact hy1, ?_⟩
  exact q y F1 _ _ (o1.erl (.refl g.fh) fun b hb => upd_ne hb) o1.f upd_same (by rw [e2]; exact ob_lst rs.dropLast) ry
theorem em_reverse (i : Nat) (o : Own X.K H0 F H l xs) (hσ : σ[i]? = some (some (.ref l))) (hN : X.N[i]? = some n := by rfl) (hv : Vis X.env.scope n := by first | exact Or.inl rfl | exact Or.inr (Or.inl rfl) | exact Or.inr (Or.inr rfl))
    (hd : (n == ("__debug__" : Str)) = false := by decide) (hcd : (n == ("__classdict__" : Str)) = false := by decide) (hbase : attributeBase (.Name n p1) "reverse" X.env (eval (.Name n p1) X.env) = eval (.Name n p1) X.env := by rfl) (hline : (p2.endLine == p3.line) = true := by rfl) :
    EvM X (.Call (.Attribute (.Name n p1) "reverse" p2) [] [] p3) σ F H l () xs.reverse := fun F1 H1 g Q q => by
  have o1 := o.up g
  obtain ⟨_, hl, vs, rfl, rs⟩ := o1.h
  refine GoE.of (pe_bm0 PySem.F.plainAttrs_list PySem.F.slot_list_reverse PySem.F.type_list_reverse mt_reverse (pe_var hN hv hd hcd) hbase hline) ?_
  exact ⟨_, hσ, .inl ⟨rfl, _, SqL.of hl⟩, l, vs, rfl, rfl, hl, q .non F1 _ _ (o1.erl (.refl g.fh) fun b hb => upd_ne hb) o1.f upd_same (ob_lst rs.reverse) rfl⟩
theorem em_clear (i : Nat) (o : Own X.K H0 F H l xs) (hσ : σ[i]? = some (some (.ref l))) (hN : X.N[i]? = some n := by rfl) (hv : Vis X.env.scope n := by first | exact Or.inl rfl | exact Or.inr (Or.inl rfl) | exact Or.inr (Or.inr rfl))
    (hd : (n == ("__debug__" : Str)) = false := by decide) (hcd : (n == ("__classdict__" : Str)) = false := by decide) (hbase : attributeBase (.Name n p1) "clear" X.env (eval (.Name n p1) X.env) = eval (.Name n p1) X.env := by rfl) (hline : (p2.endLine == p3.line) = true := by rfl) :
    EvM X (.Call (.Attribute (.Name n p1) "clear" p2) [] [] p3) σ F H l () ([] : List α) := fun F1 H1 g Q q => by
  have o1 := o.up g
  obtain ⟨_, hl, vs, rfl, rs⟩ := o1.h
  refine GoE.of (pe_bm0 PySem.F.plainAttrs_list PySem.F.slot_list_clear PySem.F.type_list_clear mt_clear (pe_var hN hv hd hcd) hbase hline) ?_
  exact ⟨_, hσ, .inl ⟨rfl, _, SqL.of hl⟩, l, vs, rfl, rfl, hl, q .non F1 _ _ (o1.erl (.refl g.fh) fun b hb => upd_ne hb) o1.f upd_same (ob_lst .nil) rfl⟩
theorem list_extendW (l : Addr) (items : Array Value) (n : Nat) (b : Addr) (items2 : Array Value) (n2 : Nat) (dd2 : Option Addr) (sl2 : Array (Option Value)) (hc0 : ¬(!items.isEmpty && Builtin.List.listTooLong (items.size + items2.size)) = true) (hc1 : items.size ≤ sizeLine) (hs2 : items.size + items2.size ≤ sizeLine + 1) :
    Meets (Builtin.«list.extend» ⟨[.ref l, .ref b], []⟩) (fun _ R s => s.heap.get? l = some { cls := .type "list", dict := none, data := .seq items n, slots := #[] } ∧ s.heap.get? b = some { cls := .type "list", dict := dd2, data := .seq items2 n2, slots := sl2 } ∧ R (.ok (.ret Value.none)) { s with heap := s.heap.update l (Obj.mapSeq fun x => x ++ items2), toks := s.toks }) :=
  .of_wp fun prog w A R s h => by
    obtain ⟨hp, g, d, tk, os⟩ := s; obtain ⟨hl, hb, h⟩ := h; have f1 := AutoSeq1.idx_int; have f2 := AutoSeq1.sub_tuple_tuple; have f3 := AutoSeq1.sub_list_list; have f4 := AutoSeq1.sub_tuple_list; have f5 := AutoSeq1.sub_list_tuple;
    have hz' : (items ++ items2).size ≤ sizeLine + 1 := by rw [Array.size_append]; exact hs2
    wp_walk using (wpAny_updateSeq hl rfl (hz := hc1) (_hz' := hz')), wpAny_loadPart' hl, wpAny_loadPart' hb; exact ⟨_, rfl, h⟩
def rExtendF (K : PySem.W.Frag) : V → List V → Hp → VK → Prop := fun x vs H Q => ∃ l b xs zs, x = .ref l ∧ vs = [.ref b] ∧ H l = some (.lst xs) ∧ SqL K H b zs ∧ xs.length + zs.length ≤ sizeLine ∧ Q .non (upd H l (.lst (xs ++ zs)))
theorem mt_extendF : MtR X "list.extend" (rExtendF X.K) := by
  intro pins s σ H x vs v us Q I rx rv h
  obtain ⟨l, b, xs, zs, rfl, rfl, hH, hB, hz, q⟩ := h
  cases rx
  obtain ⟨u, rfl, ru⟩ := rv.one
  cases ru
  obtain ⟨z, its, n, r, hl, e⟩ := I.lstM hH
  obtain ⟨its2, r2, ⟨⟨cls2, dd2, data2, sl2⟩, n2, ho2, hc2, _, hd2⟩, _⟩ := I.list hB
  simp only at hc2 hd2
  subst hc2 hd2
  have l2 := r2.length
  have hsz : its.toArray.size + its2.toArray.size ≤ sizeLine := by rw [List.size_toArray, List.size_toArray]; omega
  have hlong : ¬ (!its.toArray.isEmpty && Builtin.List.listTooLong (its.toArray.size + its2.toArray.size)) = true := by
    rw [notLongL hsz, Bool.and_false]
    exact Bool.false_ne_true
  refine call_meets F.slot_list_extend ⟨_, e, rfl⟩ F.entry_list_extend (F.args_list_extend_2 _ _)
    (list_extendW l its.toArray n b its2.toArray n2 dd2 sl2 hlong (by rw [List.size_toArray]; omega) (by omega)) ⟨e, ho2, ?_⟩
  refine ⟨.non, _, I.lset (its' := its ++ its2) hH e (by simp) (r.append r2) ?_, rfl, q⟩
  rw [List.length_append]
  omega
theorem em_extend {ys r : List α} (i : Nat) (o : Own X.K H0 F H l xs) (hσ : σ[i]? = some (some (.ref l))) (he : Ev X e σ F H ys) (h : catG xs ys = some r)
    (hN : X.N[i]? = some n := by rfl) (hv : Vis X.env.scope n := by first | exact Or.inl rfl | exact Or.inr (Or.inl rfl) | exact Or.inr (Or.inr rfl))
    (hd : (n == ("__debug__" : Str)) = false := by decide) (hcd : (n == ("__classdict__" : Str)) = false := by decide) 
    (hbase : attributeBase (.Name n p1) "extend" X.env (eval (.Name n p1) X.env) = eval (.Name n p1) X.env := by rfl)
    (hfew : ((backTo p3 (starEach [e] X.env)).all (fun x => !x.1) && (backToKw p3 (keywordEach [] X.env)).all (fun x => x.1.isSome) && decide ([e].length + ([] : List Keyword).length + (if ([] : List Keyword).isEmpty then 0 else 1) < 30)) = true := by rfl)
    (hline : (p2.endLine == p3.line) = true := by rfl) (hs : starEach [e] X.env = (false, eval e X.env) :: starEach [] X.env := by rfl) (hplain : (backTo p3 (starEach [] X.env)).any (·.1) = false := by rfl) :
    EvM X (.Call (.Attribute (.Name n p1) "extend" p2) [e] [] p3) σ F H l () r := fun F1 H1 g Q q => by
  have o1 := o.up g
  obtain ⟨_, hl, vs, rfl, rs⟩ := o1.h
  unfold catG at h
  split at h
  case isFalse => cases h
  rename_i hz
  cases (Option.some.inj h)
  refine GoE.of (pe_bm PySem.F.plainAttrs_list PySem.F.slot_list_extend PySem.F.type_list_extend mt_extendF (pe_var hN hv hd hcd) (pa_cons pe_go pa_nil hs) hbase hfew hline hs hplain) ?_
  refine ⟨_, hσ, .inl ⟨rfl, _, SqL.of hl⟩, he F1 H1 g _ fun v F2 H2 g2 r2 => ?_⟩
  obtain ⟨b, zs, rfl, sq, rz⟩ := r2
  have hl2 := g2.hh _ _ hl
  exact ⟨l, b, vs, zs, rfl, rfl, hl2, g2.fh.seq sq, by rw [rs.length, rz.length]; exact hz, q .non F2 _ _ (o1.erl g2 fun b hb => upd_ne hb) (o1.up g2).f upd_same (ob_lst (Rps.append (rs.mono g2.ff) rz)) rfl⟩
def insG {α : Type} (xs : List α) (i : Int) (y : α) : Option (List α) := if 0 ≤ i ∧ i < 2 ^ 62 ∧ xs.length < sizeLine then some (xs.take i.toNat ++ [y] ++ xs.drop i.toNat) else none
theorem insG_of {α : Type} {xs : List α} {i : Int} {y : α} {r : List α} (h : insG xs i y = some r) : 0 ≤ i ∧ i < 2 ^ 63 ∧ xs.length < sizeLine ∧ r = xs.take i.toNat ++ [y] ++ xs.drop i.toNat := by
  unfold insG at h
  split at h
  · rename_i h1
    exact ⟨h1.1, Int.lt_trans h1.2.1 (by decide), h1.2.2, (Option.some.inj h).symm⟩
  · cases h
theorem insG_p {α : Type} {xs : List α} {i : Int} {y : α} (h0 : 0 ≤ i) (h1 : i < 1000000) (h2 : xs.length < 16777216) : insG xs i y = some (xs.take i.toNat ++ [y] ++ xs.drop i.toNat) := if_pos ⟨h0, Int.lt_trans h1 (by decide), by rw [szl]; exact h2⟩
theorem em_insert {k : Int} {y : α} {r : List α} (i : Nat) (o : Own X.K H0 F H l xs) (hσ : σ[i]? = some (some (.ref l))) (ha : Ev X a σ F H k) (he : Ev X e σ F H y) (h : insG xs k y = some r)
    (hN : X.N[i]? = some n := by rfl) (hv : Vis X.env.scope n := by first | exact Or.inl rfl | exact Or.inr (Or.inl rfl) | exact Or.inr (Or.inr rfl))
    (hd : (n == ("__debug__" : Str)) = false := by decide) (hcd : (n == ("__classdict__" : Str)) = false := by decide) 
    (hbase : attributeBase (.Name n p1) "insert" X.env (eval (.Name n p1) X.env) = eval (.Name n p1) X.env := by rfl)
    (hfew : ((backTo p3 (starEach [a, e] X.env)).all (fun x => !x.1) && (backToKw p3 (keywordEach [] X.env)).all (fun x => x.1.isSome) && decide ([a, e].length + ([] : List Keyword).length + (if ([] : List Keyword).isEmpty then 0 else 1) < 30)) = true := by rfl)
    (hline : (p2.endLine == p3.line) = true := by rfl) (hs : starEach [a, e] X.env = (false, eval a X.env) :: starEach [e] X.env := by rfl) (hs2 : starEach [e] X.env = (false, eval e X.env) :: starEach [] X.env := by rfl) (hplain : (backTo p3 (starEach [e] X.env)).any (·.1) = false := by rfl) :
    EvM X (.Call (.Attribute (.Name n p1) "insert" p2) [a, e] [] p3) σ F H l () r := fun F1 H1 g Q q => by
  have o1 := o.up g
  obtain ⟨_, hl, vs, rfl, rs⟩ := o1.h
  obtain ⟨k0, k1, hz, rfl⟩ := insG_of h
  refine GoE.of (pe_bm PySem.F.plainAttrs_list PySem.F.slot_list_insert PySem.F.type_list_insert mt_insert (pe_var hN hv hd hcd) (pa_cons pe_go (pa_cons pe_go pa_nil hs2) hs) hbase hfew hline hs hplain) ?_
  refine ⟨_, hσ, .inl ⟨rfl, _, SqL.of hl⟩, ha F1 H1 g _ fun v F2 H2 g2 r2 => he F2 H2 (g.trans g2) _ fun u F3 H3 g3 r3 => ?_⟩
  have g4 := g2.trans g3
  have hl2 := g4.hh _ _ hl
  have rs2 := rs.mono g4.ff
  refine ⟨l, vs, k, u, rfl, by rw [show v = .int k from r2], hl2, by rw [rs.length]; exact hz, k0, k1, q .non F3 _ _ (o1.erl g4 fun b hb => upd_ne hb) (o1.up g4).f upd_same (ob_lst (Rps.append (Rps.append (Rps.take _ rs2) (.cons r3 .nil)) (Rps.drop _ rs2))) rfl⟩
/-- .. the item coming out of the list itself -/
theorem em_insertM {k : Int} {y : α} {ys r : List α} (i : Nat) (o : Own X.K H0 F H l xs) (hσ : σ[i]? = some (some (.ref l))) (ha : Ev X a σ F H k) (he : EvM X e σ F H l y ys) (h : insG ys k y = some r)
    (hN : X.N[i]? = some n := by rfl) (hv : Vis X.env.scope n := by first | exact Or.inl rfl | exact Or.inr (Or.inl rfl) | exact Or.inr (Or.inr rfl))
    (hd : (n == ("__debug__" : Str)) = false := by decide) (hcd : (n == ("__classdict__" : Str)) = false := by decide) 
    (hbase : attributeBase (.Name n p1) "insert" X.env (eval (.Name n p1) X.env) = eval (.Name n p1) X.env := by rfl)
    (hfew : ((backTo p3 (starEach [a, e] X.env)).all (fun x => !x.1) && (backToKw p3 (keywordEach [] X.env)).all (fun x => x.1.isSome) && decide ([a, e].length + ([] : List Keyword).length + (if ([] : List Keyword).isEmpty then 0 else 1) < 30)) = true := by rfl)
    (hline : (p2.endLine == p3.line) = true := by rfl) (hs : starEach [a, e] X.env = (false, eval a X.env) :: starEach [e] X.env := by rfl) (hs2 : starEach [e] X.env = (false, eval e X.env) :: starEach [] X.env := by rfl) (hplain : (backTo p3 (starEach [e] X.env)).any (·.1) = false := by rfl) :
    EvM X (.Call (.Attribute (.Name n p1) "insert" p2) [a, e] [] p3) σ F H l () r := fun F1 H1 g Q q => by
  have o1 := o.up g
  obtain ⟨_, hl, vs, rfl, rs⟩ := o1.h
  obtain ⟨k0, k1, hz, rfl⟩ := insG_of h
  refine GoE.of (pe_bm PySem.F.plainAttrs_list PySem.F.slot_list_insert PySem.F.type_list_insert mt_insert (pe_var hN hv hd hcd) (pa_cons pe_go (pa_cons pe_go pa_nil hs2) hs) hbase hfew hline hs hplain) ?_
  refine ⟨_, hσ, .inl ⟨rfl, _, SqL.of hl⟩, ha F1 H1 g _ fun v F2 H2 g2 r2 => he F2 H2 (g.trans g2) _ fun u F3 H3 o' g3 f3 h3 b3 r3 => ?_⟩
  obtain ⟨ws, rfl, rw3⟩ := b3
  have g4 : Gr F1 (er H1 l) F3 H3 := ((o1.ere g2)).trans g3
  have e4 : ∀ b, b ≠ l → upd H3 l (.lst (ws.take k.toNat ++ [u] ++ ws.drop k.toNat)) b = H3 b := fun b hb => upd_ne hb
  refine ⟨l, ws, k, u, rfl, by rw [show v = .int k from r2], h3, by rw [rw3.length]; exact hz, k0, k1, q .non F3 _ _ ⟨g4.ff, fun b u e => ?_, fun b u e => ?_, g4.fr⟩ f3 upd_same (ob_lst (Rps.append (Rps.append (Rps.take _ rw3) (.cons r3 .nil)) (Rps.drop _ rw3))) rfl⟩
  · rw [e4 b (ne_of_none e f3)]; exact g4.fh _ _ e
  · have hb : b ≠ l := fun z => by rw [z] at e; unfold er at e; rw [if_pos rfl] at e; cases e
    rw [e4 b hb]; exact g4.hh _ _ e
/-! ### xs[i] = e -/
def setG {α : Type} (xs : List α) (i : Int) (y : α) : Option (List α) := (ixN xs.length i).map fun j => xs.set j y
theorem Rps.set {α : Type} [Rp α] {v : V} {x : α} (r : rp K F v x) : ∀ {vs : List V} {xs : List α} (n : Nat), Rps K F vs xs → Rps K F (vs.set n v) (xs.set n x)
  | _, _, _, .nil => .nil
  | _, _, 0, .cons _ t => .cons r t
  | _, _, n + 1, .cons r' t => .cons r' (Rps.set r n t)
theorem go_setL {k : Int} {y : α} {r : List α} (i : Nat) (s : L2.Same F H) (o : Own X.K H0 F H l xs) (hσ : σ[i]? = some (some (.ref l))) (he : Ev X e σ F H y) (hk : Ev X a σ F H k) (h : setG xs k y = some r)
    (kk : ∀ u F' H', Gr F H F' H' → H' l ≠ none → F' l = none → Own X.K H0 F' (upd H' l u) l r → GoS X rest D σ (upd H' l u)) (hN : X.N[i]? = some n := by rfl) (hv : Vis X.env.scope n := by first | exact Or.inl rfl | exact Or.inr (Or.inl rfl) | exact Or.inr (Or.inr rfl))
    (hd : (n == ("__debug__" : Str)) = false := by decide) (hcd : (n == ("__classdict__" : Str)) = false := by decide)
    (ha : ∀ v, assign (.Subscript (.Name n p1) a p2) X.env v = (do
      let ov ← holding [v] (eval (.Name n p1) X.env)
      let iv ← holding [v, ov] (eval a X.env)
      standAt p2
      holding [v, ov, iv] (setItem ov iv v)
      release [v, ov, iv] []) := by intro _; rfl)
    (hs : swapsWithSole [.Subscript (.Name n p1) a p2] e pos.line X.env = pure false := by rfl) (hw : swappedStores [.Subscript (.Name n p1) a p2] e X.env = pure none := by rfl) (h1 : (assignEach [.Subscript (.Name n p1) a p2] X.env).map (·.2) = [assign (.Subscript (.Name n p1) a p2) X.env] := by rfl) :
    GoS X (.Assign [.Subscript (.Name n p1) a p2] e pos :: rest) D σ H := by
  obtain ⟨j, hj, rfl⟩ := Option.map_eq_some_iff.mp h
  obtain ⟨_, hl, vs, rfl, rs⟩ := o.h
  refine GoS.cons (ps_asg pe_go (pg_sub (pe_var hN hv hd hcd) pe_go set_list ha) hs hw h1) (he F H (.refl s) _ fun v F2 H2 g r => ?_)
  refine ⟨_, hσ, hk F2 H2 g _ fun w F3 H3 g3 r3 => ?_⟩
  have g4 := g.trans g3
  have o2 := o.up g4
  have hl2 := g4.hh _ _ hl
  exact ⟨l, vs, k, j, rfl, r3, hl2, by rw [rs.length]; exact hj, kk _ F3 H3 g4 o2.ne0 o2.f (Own.set o2.n o2.f (ob_lst (Rps.set (Rp.mono g3.ff r) j (rs.mono g4.ff))))⟩
end
end
end Gx

/-! Gt: lists of ranges, items of private lists, comparing with nothing in it. -/
namespace Gx
open PySem PySem.Spec PyProof.Rows L2
open Rp (rp)
open Ra (ra)
open Ob (ob)
section
variable {X : Cx} {K : PySem.W.Frag} {e a b c d : Expr} {es : List Expr} {σ : L2.St} {F H F0 H0 : Hp} {pos : Pos} {D : Ends} {st : Stmt} {rest body : List Stmt}
theorem rps_rg {i j : Int} : Rps K F (rgV i j) (intsF i (j - i).toNat) := by
  unfold rgV intsF
  have : ∀ l : List Nat, Rps K F (l.map fun (n : Nat) => V.int (i + (n : Int))) (l.map fun (n : Nat) => i + (n : Int)) := by
    intro l
    induction l with
    | nil => exact .nil
    | cons n r ih => exact .cons rfl ih
  exact this _
def lRg (i j : Int) : Option (List Int) := if -(2 ^ 62) ≤ i ∧ i < 2 ^ 62 ∧ -(2 ^ 62) ≤ j ∧ j < 2 ^ 62 ∧ (j - i).toNat ≤ 2 ^ 24 then some (intsF i (j - i).toNat) else none
theorem lRg_of {i j : Int} {r : List Int} (h : lRg i j = some r) : RgOk i j ∧ intsF i (j - i).toNat = r := by
  unfold lRg at h
  split at h
  · rename_i h1; exact ⟨h1, Option.some.inj h⟩
  · cases h
theorem lRg_n {n : Nat} (h : n ≤ 1000000) : lRg 0 (n : Int) = some (intsF 0 n) := by
  have e : ((n : Int) - 0).toNat = n := by omega
  unfold lRg
  rw [if_pos (by rw [e]; exact ⟨by decide, by decide, by omega, by omega, by omega⟩), e]
theorem lRg_p {i j : Int} (h1 : -1000000 ≤ i) (h2 : i ≤ 1000000) (h3 : -1000000 ≤ j) (h4 : j ≤ 1000000) : lRg i j = some (intsF i (j - i).toNat) := if_pos ⟨by omega, by omega, by omega, by omega, by omega⟩
theorem en_listRg1 {n : Int} {r : List Int} {p p2 : Pos} {pos2 : Pos} (hm : X.mg "list" = none) (hr : X.mg "range" = none) (ha : Ev X a σ F H n) (h : lRg 0 n = some r) (hc : X.calm = true := by rfl) (hg : Gl X "list" := by rfl) (hg2 : Gl X "range" := by rfl)
    (na : starEach [a] X.env = (false, eval a X.env) :: starEach [] X.env := by rfl) (na2 : starEach [.Call (.Name "range" p2) [a] [] pos2] X.env = (false, eval (.Call (.Name "range" p2) [a] [] pos2) X.env) :: starEach [] X.env := by rfl) :
    EvN X (.Call (.Name "list" p) [.Call (.Name "range" p2) [a] [] pos2] [] pos) σ F H r := fun F1 H1 g Q q => by
  obtain ⟨h1, rfl⟩ := lRg_of h
  exact GoE.of (pe_listRg hc hg hm (prg_1 hg2 hr pe_go na) na2) (ha F1 H1 g _ fun v F2 H2 g2 r2 => ⟨n, r2, h1, fun l hl => EvN.new q g2 hl rps_rg⟩)
theorem en_listRg2 {i j : Int} {r : List Int} {p p2 : Pos} {pos2 : Pos} (hm : X.mg "list" = none) (hr : X.mg "range" = none) (ha : Ev X a σ F H i) (hb : Ev X b σ F H j) (h : lRg i j = some r) (hc : X.calm = true := by rfl) (hg : Gl X "list" := by rfl) (hg2 : Gl X "range" := by rfl)
    (na : starEach [a, b] X.env = (false, eval a X.env) :: starEach [b] X.env := by rfl) (nb : starEach [b] X.env = (false, eval b X.env) :: starEach [] X.env := by rfl) (hp : (backTo pos2 (starEach [b] X.env)).any (·.1) = false := by rfl) (na2 : starEach [.Call (.Name "range" p2) [a, b] [] pos2] X.env = (false, eval (.Call (.Name "range" p2) [a, b] [] pos2) X.env) :: starEach [] X.env := by rfl) :
    EvN X (.Call (.Name "list" p) [.Call (.Name "range" p2) [a, b] [] pos2] [] pos) σ F H r := fun F1 H1 g Q q => by
  obtain ⟨h1, rfl⟩ := lRg_of h
  exact GoE.of (pe_listRg hc hg hm (prg_2 hg2 hr pe_go pe_go na nb hp) na2) (ha F1 H1 g _ fun v F2 H2 g2 r2 => hb F2 H2 (g.trans g2) _ fun w F3 H3 g3 r3 => ⟨i, j, r2, r3, h1, fun l hl => EvN.new q (g2.trans g3) hl rps_rg⟩)
/-- an item of a private list -/
theorem ev_ixOwn {α : Type} [Rp α] {xs : List α} {x : α} {k : Int} {l : Addr} {n : Str} {p1 : Pos} (i : Nat) (o : Own X.K H0 F H l xs) (hσ : σ[i]? = some (some (.ref l))) (hb : Ev X b σ F H k) (h : L2.atI xs k = some x) (hs : NoSl b := by exact fun _ _ => rfl)
    (hN : X.N[i]? = some n := by rfl) (hv : Vis X.env.scope n := by first | exact Or.inl rfl | exact Or.inr (Or.inl rfl) | exact Or.inr (Or.inr rfl)) (hd : (n == ("__debug__" : Str)) = false := by decide) (hcd : (n == ("__classdict__" : Str)) = false := by decide) :
    Ev X (.Subscript (.Name n p1) b pos) σ F H x := fun F1 H1 g Q q => by
  have o1 := o.up g
  obtain ⟨_, hl, vs, rfl, rs⟩ := o1.h
  refine GoE.of (pe_ix ix_list (pe_var hN hv hd hcd) pe_go hs) ⟨_, hσ, hb F1 H1 g _ fun w F2 H2 g2 r2 => ?_⟩
  have rs2 := rs.mono g2.ff
  obtain ⟨v, hv2, rv⟩ := rs2.atI h
  exact ⟨l, vs, k, v, rfl, r2, SqL.of (g2.hh _ _ hl), hv2, q v F2 H2 g2 rv⟩
theorem Ev.get {α : Type} [Rp α] [NN α] {o : Option α} {x : α} (h : Ev X e σ F H o) (he : o = Option.some x) : Ev X e σ F H x := by
  subst he
  exact h.re fun _ _ r => r
/-! ### x == [], x != () -/
def rEqE (K : PySem.W.Frag) : R2 := fun x y H Q => ∃ a b xs, x = .ref a ∧ y = .ref b ∧ ((SqL K H a xs ∧ SqL K H b []) ∨ (SqT K H a xs ∧ SqT K H b [])) ∧ Q (.bl xs.isEmpty) H
def rNeE (K : PySem.W.Frag) : R2 := fun x y H Q => ∃ a b xs, x = .ref a ∧ y = .ref b ∧ ((SqL K H a xs ∧ SqL K H b []) ∨ (SqT K H a xs ∧ SqT K H b [])) ∧ Q (.bl (!xs.isEmpty)) H
theorem op_eqE (hu : X.A.units < cLine) : OpR X (compareOp .Eq) (rEqE X.K) := fun pins s σ H x y v u Q I rx ry ⟨a, b, xs, e1, e2, h, q⟩ => by
  subst e1; subst e2
  cases rx; cases ry
  rcases h with ⟨h1, h2⟩ | ⟨h1, h2⟩
  · obtain ⟨its, r, pl, _⟩ := I.list h1
    obtain ⟨its2, r2, pl2, _⟩ := I.list h2
    cases r2
    cases r with
    | nil => exact SeqAt.RcAt.lists (e := fun _ => true) pl.isList pl2.isList rfl hu (fun j h1 _ => absurd h1 (Nat.not_lt_zero _)) _ _ _ _ ⟨.bl true, H, I, rfl, q⟩
    | cons _ _ => exact SeqAt.RcAt.lists_lengths pl.isList pl2.isList (by simp) hu _ _ _ _ ⟨.bl false, H, I, rfl, q⟩
  · obtain ⟨its, r, ⟨o, ho, hc, n, hd⟩, _⟩ := I.tuple h1
    obtain ⟨its2, r2, ⟨o2, ho2, hc2, n2, hd2⟩, _⟩ := I.tuple h2
    cases r2
    cases r with
    | nil => exact SeqAt.RcAt.tuples (e := fun _ => true) ⟨o, ho, hc, n, hd⟩ ⟨o2, ho2, hc2, n2, hd2⟩ hu (fun j h1 _ => absurd h1 (Nat.not_lt_zero _)) _ _ _ _ ⟨.bl true, H, I, rfl, q⟩
    | cons _ _ => exact SeqAt.RcAt.tuples (e := fun _ => true) ⟨o, ho, hc, n, hd⟩ ⟨o2, ho2, hc2, n2, hd2⟩ hu (fun j _ h2 => absurd h2 (Nat.not_lt_zero _)) _ _ _ _ ⟨.bl false, H, I, by simp [L2.RelV], q⟩
theorem op_neE (hu : X.A.units < cLine) : OpR X (compareOp .NotEq) (rNeE X.K) := fun pins s σ H x y v u Q I rx ry ⟨a, b, xs, e1, e2, h, q⟩ => by
  subst e1; subst e2
  cases rx; cases ry
  rcases h with ⟨h1, h2⟩ | ⟨h1, h2⟩
  · obtain ⟨its, r, pl, _⟩ := I.list h1
    obtain ⟨its2, r2, pl2, _⟩ := I.list h2
    cases r2
    cases r with
    | nil => exact SeqAt.RcNeAt.lists (e := fun _ => true) pl.isList pl2.isList rfl hu (fun j h1 _ => absurd h1 (Nat.not_lt_zero _)) _ _ _ _ ⟨.bl false, H, I, rfl, q⟩
    | cons _ _ => exact SeqAt.RcNeAt.lists_lengths pl.isList pl2.isList (by simp) hu _ _ _ _ ⟨.bl true, H, I, rfl, q⟩
  · obtain ⟨its, r, ⟨o, ho, hc, n, hd⟩, _⟩ := I.tuple h1
    obtain ⟨its2, r2, ⟨o2, ho2, hc2, n2, hd2⟩, _⟩ := I.tuple h2
    cases r2
    cases r with
    | nil => exact SeqAt.RcNeAt.tuples (e := fun _ => true) ⟨o, ho, hc, n, hd⟩ ⟨o2, ho2, hc2, n2, hd2⟩ hu (fun j h1 _ => absurd h1 (Nat.not_lt_zero _)) _ _ _ _ ⟨.bl false, H, I, rfl, q⟩
    | cons _ _ => exact SeqAt.RcNeAt.tuples (e := fun _ => true) ⟨o, ho, hc, n, hd⟩ ⟨o2, ho2, hc2, n2, hd2⟩ hu (fun j _ h2 => absurd h2 (Nat.not_lt_zero _)) _ _ _ _ ⟨.bl true, H, I, by simp [L2.RelV], q⟩
section
variable {α : Type} [Rp α]
theorem isE {vs : List V} {xs : List α} (r : Rps K F vs xs) : vs.isEmpty = xs.isEmpty := by cases r <;> rfl
theorem o2_eqEL {xs : List α} : Op2 K (rEqE K) xs ([] : List α) xs.isEmpty := fun F H v w Q s ⟨a, vs, e, sq, rs⟩ ⟨b, ws, e2, sq2, rs2⟩ k => by
  cases rs2
  exact ⟨a, b, vs, e, e2, .inl ⟨s.seq sq, s.seq sq2⟩, k _ F H (.refl s) (congrArg V.bl (isE rs))⟩
theorem o2_neEL {xs : List α} : Op2 K (rNeE K) xs ([] : List α) (!xs.isEmpty) := fun F H v w Q s ⟨a, vs, e, sq, rs⟩ ⟨b, ws, e2, sq2, rs2⟩ k => by
  cases rs2
  exact ⟨a, b, vs, e, e2, .inl ⟨s.seq sq, s.seq sq2⟩, k _ F H (.refl s) (congrArg (fun t => V.bl (!t)) (isE rs))⟩
theorem o2_eqET {xs : Tp α} : Op2 K (rEqE K) xs (Tp.mk ([] : List α)) xs.l.isEmpty := fun F H v w Q s ⟨a, vs, e, sq, rs⟩ ⟨b, ws, e2, sq2, rs2⟩ k => by
  cases rs2
  exact ⟨a, b, vs, e, e2, .inr ⟨seqT_mono s sq, seqT_mono s sq2⟩, k _ F H (.refl s) (congrArg V.bl (isE rs))⟩
theorem o2_neET {xs : Tp α} : Op2 K (rNeE K) xs (Tp.mk ([] : List α)) (!xs.l.isEmpty) := fun F H v w Q s ⟨a, vs, e, sq, rs⟩ ⟨b, ws, e2, sq2, rs2⟩ k => by
  cases rs2
  exact ⟨a, b, vs, e, e2, .inr ⟨seqT_mono s sq, seqT_mono s sq2⟩, k _ F H (.refl s) (congrArg (fun t => V.bl (!t)) (isE rs))⟩
end
end
end Gx

/-! Gv: enumerate of a tuple; min, max, sum, all, sorted. -/
namespace Gx
open PySem PySem.Spec PyProof.Rows
open AutoSeq1 (wpAny_loadPart')
/-- what iterates over a tuple -/
abbrev itO (l : Addr) : Obj := { cls := .type "tuple_iterator", data := .fields #[.ref l, .int 0 0] }
abbrev enO (i : Addr) : Obj := { cls := .type "enumerate", data := .fields #[.none, .bool false, .ref i, rawInt 0, .none, .none] }
theorem enumT_made (l : Addr) (xs : Array Value) (k : Nat) (dd : Option Addr) (ss : Array (Option Value)) :
    Meets (Builtin.«enumerate.__new__» ⟨[.type "enumerate", .ref l], []⟩) (fun _ R s => s.heap.get? l = some { cls := .type "tuple", dict := dd, data := .seq xs k, slots := ss } ∧
      R (.ok (.ret (.ref (s.heap.push (itO l)).objs.size))) { s with heap := (s.heap.push (itO l)).push (enO s.heap.objs.size) }) :=
  .of_wp fun P W A R s ⟨at_, R1⟩ => by
    cases s with
    | mk hp gs ds ts os =>
      have sub_ := sub_enumerate
      have tup_ : Heap.IsTuple (Shared.heap ⟨hp, gs, ds, ts, os⟩) l xs := ⟨_, at_, rfl, k, rfl⟩
      wp_walk using wpAny_loadPart' at_
      refine wpAny_stack_any fun _ => wpAny_pure ?_
      split
      · rename_i cl _ _ _ _ _
        cases (cl == Value.type "enumerate") <;> (wp_walk using wpAny_loadPart' at_, wpAny_pyIter_tuple tup_; exact ⟨_, rfl, R1⟩)
      · wp_walk using wpAny_loadPart' at_, wpAny_pyIter_tuple tup_
        exact ⟨_, rfl, R1⟩
theorem call_enumT {P : Program} {W : World} {A : Around} {E : Value → Shared → Prop} {s : Shared} {l : Addr} {xs : Array Value} {Q : Value → Shared → Prop} (tup_ : s.heap.IsTuple l xs)
    (q : ∀ h', IsEnum h' (s.heap.objs.size + 1) s.heap.objs.size 0 .none → h'.IsTupleIter s.heap.objs.size l 0 → (∀ b o, s.heap.get? b = some o → h'.get? b = some o) → Q (.ref (s.heap.objs.size + 1)) { s with heap := h' }) :
    wpAny (model P W) A (call (.type "enumerate") [.ref l]) Q E s := by
  obtain ⟨⟨cls, dd, dat, ss⟩, at_, e1, k, e2⟩ := tup_
  have e1 : cls = .type "tuple" := e1
  have e2 : dat = .seq xs k := e2
  subst e1; subst e2
  have sz : (s.heap.push (itO l)).objs.size = s.heap.objs.size + 1 := Heap.size_push ..
  refine callType_new F.called_enumerate (by decide) (F.typeCall_enumerate_1 _) (F.newCall_enumerate_1 _) (fun o => F.args_object_init_2 o _) F.entry_enumerate_new (enumT_made l xs k dd ss) ⟨at_, ?_⟩
  show _ ∧ _
  rw [sz]
  have en_ : IsEnum ((s.heap.push (itO l)).push (enO s.heap.objs.size)) (s.heap.objs.size + 1) s.heap.objs.size 0 .none := by
    have z := Heap.get?_push_size (s.heap.push (itO l)) (o := enO s.heap.objs.size) rfl
    rwa [sz] at z
  exact ⟨⟨_, en_, rfl⟩, q _ en_ ⟨_, Heap.get?_push_of_some _ (Heap.get?_push_size _ rfl), rfl, rfl⟩ fun b o z => Heap.get?_push_of_some _ (Heap.get?_push_of_some _ z)⟩
end Gx
namespace Gx
open PySem PySem.Spec PyProof.Rows L2
open Rp (rp)
open Ra (ra)
open Ob (ob)
theorem enumT_end {P : Program} {W : World} {A : Around} {E : Value → Shared → Prop} {s : Shared} {e it l : Addr} {i : Nat} {xs : Array Value} {old : Value} {Q : Option Value → Shared → Prop} (hh : A.handled = none)
    (en_ : IsEnum s.heap e it i old) (hit : s.heap.IsTupleIter it l i) (tup_ : s.heap.IsTuple l xs) (none_ : xs[i]? = none) (q : ∀ h', Heap.ExtBut it s.heap h' → Q none { s with heap := h' }) : wpAny (model P W) A (pyNext (.ref e)) Q E s := by
  have ty_ : s.TypeIs (.ref e) "enumerate" := ⟨_, en_, rfl⟩
  unfold pyNext
  refine wpAny_bind (wpAny_attempt (wpAny_callSpecial?_slot (name := Str.ofString "__next__") ty_ F.slot_enumerate_next (wpAny_call_entry F.slot_enumerate_next ty_ F.entry_enumerate_next ?_ (F.args_enumerate_next_1 _))))
  show wpAny _ _ (field (.ref e) 2 >>= _) _ _ _
  refine wpAny_bind (wpAny_field en_ rfl (x := .ref it) rfl (wpAny_bind (wpAny_nextOf_tuple_end hh hit tup_ none_ fun h' x ext ⟨o, ho, hc⟩ => ?_)))
  exact wpAny_bind (wpAny_isInstance (T := "StopIteration") (b := true) ⟨o, ho, hc⟩ isSubtype_stop (wpAny_pure (q _ ext)))
def IteT (K : PySem.W.Frag) (a : Addr) : It :=
  ⟨fun i H => ∃ (xs : List V) (x : V), SqT K H a xs ∧ xs[i]? = some x, fun i H v H' => ∃ T x, v = .ref T ∧ H T = none ∧ H' = upd H T (.tup [.int (i : Nat), x]) ∧ ∀ xs, SqT K H a xs → xs[i]? = some x, fun i H => ∃ xs : List V, SqT K H a xs ∧ xs.length ≤ i⟩
theorem turn_enumT {P : Program} {w : World} {K : PySem.W.Frag} {elts : List Expr} {kk : Nat} {tpos : Pos} (a e it : Addr) :
    Turn P w K (.Tuple elts kk tpos) (IteT K a) [e, it] e (fun i h => (∃ old, IsEnum h e it ((i : Nat) : Int) old) ∧ h.IsTupleIter it a i ∧ e ≠ it) where
  mem := by simp
  obj := fun i h st b hb => by
    obtain ⟨⟨old, he⟩, ⟨o, ho, hc, hd⟩, _⟩ := st
    have e' : b = e ∨ b = it := by simpa using hb
    rcases e' with z | z
    · rw [z]; exact ⟨_, he, fun v q => nomatch q⟩
    · rw [z]; exact ⟨o, ho, fun v q => by rw [hd] at q; cases q⟩
  keep := fun i h h' st k => let ⟨⟨old, he⟩, hi, hne⟩ := st; ⟨⟨old, k e (by simp) _ he⟩, hi.at fun o q => k it (by simp) o q, hne⟩
  item := by
    intro X hP hw hK hc i pins s σ H E I hf st hg
    subst hP hw hK
    obtain ⟨⟨old, he⟩, hit, hne⟩ := st
    obtain ⟨xs, x, hq, hx⟩ := hg
    obtain ⟨its, rv, p, hz⟩ := I.tuple hq
    obtain ⟨u, hu, ru⟩ := rv.get hx
    have hel : e < s.heap.objs.size := Heap.lt_size he
    have hil : it < s.heap.objs.size := by obtain ⟨_, q, _⟩ := hit; exact Heap.lt_size q
    have tup_ : s.heap.IsTuple a its.toArray := p
    have hne2 : a ≠ it := fun z => by
      obtain ⟨o1, q1, c1, _⟩ := hit
      obtain ⟨o2, q2, c2, _⟩ := tup_
      rw [z] at q2; rw [q1] at q2; cases q2; rw [c1] at c2; exact absurd c2 (by decide)
    have hea : e ≠ a := fun z => by
      obtain ⟨o2, q2, c2, _⟩ := tup_
      rw [← z] at q2; rw [show s.heap.get? e = _ from he] at q2; cases q2; exact absurd (show Value.type "enumerate" = Value.type "tuple" from c2) (by decide)
    refine wpAny_pyNext_enum_itemC (Draws.tuple (A := X.A.in1) (I.ok.hd hc) it a hne2 its.toArray) he ⟨hit, tup_⟩ (by
      have h1 := (List.getElem?_eq_some_iff.mp hu).1
      simpa using h1) hne (by simp [hne, hea]) fun u' h' tk hP ho hst' hT hsz hk => ?_
    obtain rfl : u = u' := by
      have h2 : its.toArray[i]? = some u' := hP
      have h1 : its.toArray[i]? = some u := by simpa using hu
      rw [h1] at h2; exact Option.some.inj h2
    obtain ⟨hit', _⟩ := hst'
    refine ⟨_, rfl, wpAny_letOwnedTupleGo_enum (s := { s with heap := h', toks := tk + 1 }) ho fun h'' he' sb => ?_⟩
    have hT2 : h''.get? s.heap.objs.size = some { cls := .type "tuple", data := .seq #[.int i tk, u] } := (sb.2 _ (Nat.ne_of_gt hel)).trans hT
    have new : ObjOk X.prog X.w (upd H s.heap.objs.size (.tup [.int (i : Nat), x])) h'' s.heap.objs.size (.tup [.int (i : Nat), x]) :=
      ⟨by show 2 ≤ sizeLine; decide, [.int i tk, u], .cons ⟨_, rfl⟩ (.cons ru .nil), ⟨_, hT2, rfl, _, rfl⟩⟩
    have I1 : Inv X pins σ (upd H s.heap.objs.size (.tup [.int (i : Nat), x])) { s with heap := h'', toks := tk + 1 } :=
      I.turnedNew (ch := [e, it]) (fun b ob hb q => (sb.2 b (fun z => hb (by simp [z]))).trans (hk b ob (fun z => hb (by simp [z])) (fun z => hb (by simp [z])) q)) hf (Nat.le_refl _) new
    refine ⟨.ref s.heap.objs.size, _, I1, rfl, ⟨_, x, rfl, I.hok.fresh (Nat.le_refl _), rfl, fun ys hy => by rw [I.tuple_inj hy hq]; exact hx⟩, ⟨⟨u, ?_⟩, hit'.at fun o q => (sb.2 it (Ne.symm hne)).trans q, hne⟩, fun b hb => ?_⟩
    · have e1 : ((i + 1 : Nat) : Int) = (i : Int) + 1 := by omega
      rw [e1]; exact he'
    · have hb' : b < s.heap.objs.size := by
        have e' : b = e ∨ b = it := by simpa using hb
        rcases e' with z | z
        · rw [z]; exact hel
        · rw [z]; exact hil
      rw [upd_ne (Nat.ne_of_lt hb')]
      exact (hf b hb).1
  done := by
    intro X hP hw hK hc i pins s σ H E I hf st hg
    subst hP hw hK
    obtain ⟨⟨old, he⟩, hit, hne⟩ := st
    obtain ⟨xs, hq, hx⟩ := hg
    obtain ⟨its, rv, p, hz⟩ := I.tuple hq
    obtain ⟨f0, f1, f2, f3, f4, f5⟩ := hf it (by simp)
    have hl := rv.length
    have tup_ : s.heap.IsTuple a its.toArray := p
    have hne2 : a ≠ it := fun z => by
      obtain ⟨o1, q1, c1, _⟩ := hit
      obtain ⟨o2, q2, c2, _⟩ := tup_
      rw [z] at q2; rw [q1] at q2; cases q2; rw [c1] at c2; exact absurd c2 (by decide)
    exact enumT_end (I.ok.hd hc) he hit tup_ (by simp; omega) fun h' eb => ⟨rfl, I.turned (t' := s.toks) (fun b o hb q => eb b o hb q) f0 f1 f3 f4 f5⟩
  self := fun A i s Q E st h => let ⟨⟨_, he⟩, _⟩ := st; wpAny_pyIter_enum he h
def iEnumT (K : PySem.W.Frag) (ta : TA) : TI := fun σ H R => ta σ H fun vs H1 => ∃ a xs, vs = [.ref a] ∧ SqT K H1 a xs ∧ R (IteT K a) H1
theorem pi_enumT {X : Cx} {e : Expr} {ta : TA} {p pos tpos : Pos} {elts : List Expr} {kk : Nat} (hg : Gl X "enumerate") (hm : X.mg "enumerate" = none) (ha : PA X [e] ta) (hs : starEach [e] X.env = [(false, eval e X.env)] := by rfl) :
    PI X (.Tuple elts kk tpos) (.Call (.Name "enumerate" p) [e] [] pos) (iEnumT X.K ta) := by
  refine ⟨fun pins s σ H R I h => ?_⟩
  refine Call_ (ld_blt I hg hm boot_enumerate (PyProof.Rows.callWith_type1 (thn (ha.run pos pins s σ H _ I h) fun us s1 ⟨vs, H1, I1, r1, q1⟩ => ?_) hs rfl))
  obtain ⟨a, xs, ex, hq, q⟩ := q1
  subst ex
  cases r1 with
  | cons r rr =>
    cases rr
    cases r
    obtain ⟨its, rv, p', hz⟩ := I1.tuple hq
    refine call_enumT (show s1.heap.IsTuple a its.toArray from p') fun h' he hit hk => wpAny_pyIter_enum he ?_
    have I2 : Inv X pins σ H1 { s1 with heap := h' } := I1.kept (t' := s1.toks) hk
    refine ⟨s1.heap.objs.size + 1, [s1.heap.objs.size + 1, s1.heap.objs.size], _, _, H1, rfl, I2, turn_enumT a (s1.heap.objs.size + 1) s1.heap.objs.size, ⟨⟨.none, he⟩, hit, Nat.succ_ne_self _⟩, fun b hb => ?_, q⟩
    have e' : b = s1.heap.objs.size + 1 ∨ b = s1.heap.objs.size := by simpa using hb
    have hle : s1.heap.objs.size ≤ b := by
      rcases e' with z | z
      · rw [z]; exact Nat.le_add_right _ _
      · rw [z]; exact Nat.le_refl _
    exact I1.fpOk hle (I1.hok.fresh hle)
section
variable {X : Cx} {K : PySem.W.Frag} {e a b c d : Expr} {es : List Expr} {σ : L2.St} {F H F0 H0 : Hp} {pos : Pos} {D : Ends} {st : Stmt} {rest body : List Stmt}
theorem ei_enumT {α θ : Type} [Rp α] [Rp θ] [TL θ α] {xs : θ} {p tpos : Pos} {elts : List Expr} {kk : Nat} (h : Ev X e σ F H xs) (hm : X.mg "enumerate" = none) (hg : Gl X "enumerate" := by rfl) (hs : starEach [e] X.env = [(false, eval e X.env)] := by rfl) : EvI X (.Tuple elts kk tpos) (.Call (.Name "enumerate" p) [e] [] pos) σ F H (enumL (TL.l xs)) := fun F1 H1 g R q =>
  GoI.of (pi_enumT hg hm (pa_cons pe_go pa_nil (by rw [hs]; rfl)) hs) (h F1 H1 g _ fun v F2 H2 g2 r2 => let ⟨a, vs, e, sq, rs⟩ := TL.sq r2; ⟨a, vs, by rw [e], sqT_mono g2.fh sq, q _ F2 H2 g2 fun i Fi Hi s1 s2 => by
    have sq' : SqT X.K Hi a vs := sqT_mono s2 (sqT_mono s1 sq)
    refine ⟨fun x hx => ?_, fun e => ⟨vs, sq', by rw [e, enumF_len, rs.length]; exact Nat.le_refl _⟩⟩
    obtain ⟨hi, hx2⟩ := enumF_get hx
    obtain ⟨y, hy, ry⟩ := rs.get hx2
    refine ⟨⟨vs, y, sq', hy⟩, fun v H' ⟨T, x', e1, e2, e3, e4⟩ => ?_⟩
    subst e1; subst e3
    have e5 := e4 vs sq'
    rw [hy] at e5
    cases e5
    rw [Int.zero_add] at hi
    have := pair_new (α := Int) s2 e2 (v := .int (i : Nat)) (congrArg V.int hi.symm) (Rp.mono s1 ry)
    exact this⟩)
/-! ### min, max, sum, all, sorted -/
theorem rps_ints {vs : List V} {xs : List Int} (h : Rps K F vs xs) : vs = xs.map V.int := by
  induction h with
  | nil => rfl
  | cons r t ih => rw [ih, show _ = V.int _ from r]; rfl
theorem rps_bls {vs : List V} {xs : List Bool} (h : Rps K F vs xs) : vs = xs.map V.bl := by
  induction h with
  | nil => rfl
  | cons r t ih => rw [ih, show _ = V.bl _ from r]; rfl
theorem o2_ltT {xs ys : Tp Int} : Op2 K (rLtT K) xs ys (HT.lexLt xs.l ys.l) := fun F H v w Q s ⟨a, vs, e, sq, rs⟩ ⟨b, ws, e2, sq2, rs2⟩ k => by
  have h1 := rps_ints rs
  have h2 := rps_ints rs2
  subst h1; subst h2
  exact ⟨a, b, xs.l, ys.l, e, e2, seqT_mono s sq, seqT_mono s sq2, k _ F H (.refl s) rfl⟩
theorem oc_min {xs : List Int} {m : Int} (h : xs.min? = some m) : OpC K (rMin K) (xs, ()) m :=
  oc1 fun F H v Q s ⟨a, vs, e, sq, rs⟩ k => ⟨a, xs, by rw [e], by rw [← rps_ints rs]; exact s.seq sq, by
    cases xs with
    | nil => cases h
    | cons _ _ => exact Nat.succ_pos _, fun m' h1 h2 => k _ F H (.refl s) (by
      have := List.min?_eq_some_iff.mp h
      have e : m = m' := Int.le_antisymm (this.2 _ h1) (h2 _ this.1)
      exact e ▸ rfl)⟩
theorem oc_max {xs : List Int} {m : Int} (h : xs.max? = some m) : OpC K (rMax K) (xs, ()) m :=
  oc1 fun F H v Q s ⟨a, vs, e, sq, rs⟩ k => ⟨a, xs, by rw [e], by rw [← rps_ints rs]; exact s.seq sq, by
    cases xs with
    | nil => cases h
    | cons _ _ => exact Nat.succ_pos _, fun m' h1 h2 => k _ F H (.refl s) (by
      have := List.max?_eq_some_iff.mp h
      have e : m = m' := Int.le_antisymm (h2 _ this.1) (this.2 _ h1)
      exact e ▸ rfl)⟩
theorem oc_sum {xs : List Int} : OpC K (rSum K) (xs, ()) xs.sum :=
  oc1 fun F H v Q s ⟨a, vs, e, sq, rs⟩ k => ⟨a, xs, by rw [e], by rw [← rps_ints rs]; exact s.seq sq, k _ F H (.refl s) rfl⟩
theorem oc_all {xs : List Bool} : OpC K (rAll K) (xs, ()) (xs.all id) :=
  oc1 fun F H v Q s ⟨a, vs, e, sq, rs⟩ k => ⟨a, xs, by rw [e], by rw [← rps_bls rs]; exact s.seq sq, k _ F H (.refl s) rfl⟩
theorem oc_any {xs : List Bool} : OpC K (rAny K) (xs, ()) (xs.any id) :=
  oc1 fun F H v Q s ⟨a, vs, e, sq, rs⟩ k => ⟨a, xs, by rw [e], by rw [← rps_bls rs]; exact s.seq sq, k _ F H (.refl s) rfl⟩
end
end Gx

/-! Gw: what is read from a private dict may be a list. -/
namespace Gx
open PySem PySem.Spec PyProof.Rows L2
open Rp (rp)
open Ra (ra)
open Ob (ob)
theorem isD_tup {F : Hp} {l : Addr} (d : IsD F l) : (∀ xs, ¬ F l = some (.tup xs)) ∧ (∀ (o' : Obj) (xs : List V), ¬ F l = some (.frz o' (.tup xs))) := by
  rcases d with ⟨ks, d | ⟨o, d⟩⟩ | ⟨ks, d | ⟨o, d⟩⟩ <;> exact ⟨fun xs h => (by rw [d] at h; cases h), fun o' xs h => (by rw [d] at h; cases h)⟩
theorem isD_lst {F : Hp} {l : Addr} {xs : List V} (d : IsD F l) : ¬ Rd F l (.lst xs) := by
  rcases d with ⟨ks, d | ⟨o, d⟩⟩ | ⟨ks, d | ⟨o, d⟩⟩ <;> rintro (h | ⟨o, h⟩) <;> (rw [d] at h; cases h)
theorem er_neD {F : Hp} {l a : Addr} (h : ¬ a = l) : er F l a = F a := if_neg h
/-- a thing that is no dict and has none in it -/
class FlatD (α : Type) [Rp α] : Prop where
  fl : ∀ {K : PySem.W.Frag} {F : Hp} {l : Addr} {v : V} {x : α}, IsD F l → rp K F v x → rp K (er F l) v x
instance : FlatD Int := ⟨fun _ h => h⟩
instance : FlatD Bool := ⟨fun _ h => h⟩
instance : FlatD Str := ⟨fun _ h => h⟩
instance : FlatD Unit := ⟨fun _ h => h⟩
instance {α : Type} [Rp α] [NN α] [FlatD α] : FlatD (Option α) := ⟨fun {K F l v x} h1 h => by
  cases x with
  | none => exact h
  | some x => exact FlatD.fl (α := α) h1 h⟩
theorem Rps.fd {α : Type} [Rp α] [FlatD α] {K : PySem.W.Frag} {F : Hp} {l : Addr} {vs : List V} {xs : List α} (h1 : IsD F l) (h : Rps K F vs xs) : Rps K (er F l) vs xs := L2.Paired.mapP h fun _ _ => FlatD.fl h1
instance {α : Type} [Rp α] [FlatD α] : FlatD (Tp α) := ⟨fun h1 ⟨a, vs, e, q, r⟩ => ⟨a, vs, e, er_seqT (isD_tup h1).1 (isD_tup h1).2 q, Rps.fd h1 r⟩⟩
instance {α : Type} [Rp α] [FlatD α] : FlatD (List α) := ⟨fun {K F l v x} h1 ⟨a, vs, e, q, r⟩ => ⟨a, vs, e, by
  rcases q with q | q
  · refine .inl ?_
    have : ¬ a = l := fun z => isD_lst h1 (z ▸ q)
    unfold Rd
    rw [er_neD this]; exact q
  · exact .inr q, Rps.fd h1 r⟩⟩
class FlatDR (τ : Type) [Ra τ] : Prop where
  fl : ∀ {K : PySem.W.Frag} {F : Hp} {l : Addr} {v : List V} {x : τ}, IsD F l → ra K F v x → ra K (er F l) v x
instance : FlatDR Unit := ⟨fun _ h => h⟩
instance {α τ : Type} [Rp α] [Ra τ] [FlatD α] [FlatDR τ] : FlatDR (α × τ) := ⟨fun h1 ⟨v, r, e, p, q⟩ => ⟨v, r, e, FlatD.fl h1 p, FlatDR.fl h1 q⟩⟩
theorem rpT.fd {θ τ : Type} [Ra τ] [FlatDR τ] {row : θ → τ} {K : PySem.W.Frag} {F : Hp} {l : Addr} {v : V} {x : θ} (h1 : IsD F l) : rpT row K F v x → rpT row K (er F l) v x := fun ⟨a, vs, e, q, r⟩ => ⟨a, vs, e, er_seqT (isD_tup h1).1 (isD_tup h1).2 q, FlatDR.fl h1 r⟩
instance {α : Type} [Rp α] [FlatD α] : FlatD (T1 α) := ⟨rpT.fd⟩
instance {α β : Type} [Rp α] [Rp β] [FlatD α] [FlatD β] : FlatD (T2 α β) := ⟨rpT.fd⟩
instance {α β γ : Type} [Rp α] [Rp β] [Rp γ] [FlatD α] [FlatD β] [FlatD γ] : FlatD (T3 α β γ) := ⟨rpT.fd⟩
instance {α β γ δ : Type} [Rp α] [Rp β] [Rp γ] [Rp δ] [FlatD α] [FlatD β] [FlatD γ] [FlatD δ] : FlatD (T4 α β γ δ) := ⟨rpT.fd⟩
instance {α β γ δ ε : Type} [Rp α] [Rp β] [Rp γ] [Rp δ] [Rp ε] [FlatD α] [FlatD β] [FlatD γ] [FlatD δ] [FlatD ε] : FlatD (T5 α β γ δ ε) := ⟨rpT.fd⟩
section
variable {X : Cx} {K : PySem.W.Frag} {e a b c d : Expr} {es : List Expr} {σ : L2.St} {F H F0 H0 : Hp} {pos : Pos} {D : Ends} {st : Stmt} {rest body : List Stmt}
theorem ev_thawD {α κ ν : Type} [Rp α] [FlatD α] [Rp κ] [DecidableEq κ] [DKey κ] [Rp ν] {x : α} {y : Dct κ ν} {l : Addr} (o : Own X.K H0 F H l y) (s : L2.Same F H) (h : ∀ F' H', L2.Same F F' → L2.Same F' H' → rp X.K F' (.ref l) y → (∀ a, a ≠ l → F' a = F a ∧ H' a = H a) → Ev X e σ F' H' x) : Ev X e σ F H x := fun F1 H1 g Q q => by
  obtain ⟨u, hl, r⟩ := o.h
  have hl1 := g.hh _ _ hl
  refine GoE.locked hl1 (Ob.mu r) fun od => ?_
  obtain ⟨g1, f1, h1⟩ := Gr.show_ (u := .frz od u) hl o.f (Ob.ls r) g
  refine h _ _ (same_upd o.f) (shown s) (Ob.fz upd_same (Ob.mono (same_upd o.f) r)) (fun a ha => ⟨upd_ne ha, upd_ne ha⟩) _ _ g1 _ fun v F2 H2 g2 r2 => ?_
  have e2 : F2 l = some (.frz od u) := g2.ff _ _ upd_same
  have hd : IsD F2 l := by
    obtain ⟨kvs, e, _⟩ := r
    exact DKey.isD (.inr ⟨od, e ▸ e2⟩)
  exact ⟨g2.fh _ _ e2, q v (er F2 l) _ (Gr.hide h1 f1 g2) (FlatD.fl hd r2)⟩
theorem call_lenDR : CallR X (.builtin "len") (fun xs H Q => ∃ (a : Addr) (kvs : List (Key × V)), xs = [V.ref a] ∧ Rd H a (.dK kvs) ∧ Q (.int (kvs.length : Nat)) H) := by
  intro pins s σ H xs us Q I r h
  obtain ⟨a, kvs, rfl, ha, q⟩ := h
  obtain ⟨u, rfl, ru⟩ := vals1 r
  cases ru
  exact d_len I ha fun t s' I' => ⟨.int kvs.length, H, I', ⟨t, rfl⟩, q⟩
theorem oc_lenD {κ ν : Type} [Rp κ] [DecidableEq κ] [KeyS κ] [Rp ν] {m : Dct κ ν} : OpC K (fun xs H Q => ∃ (a : Addr) (kvs : List (Key × V)), xs = [V.ref a] ∧ Rd H a (.dK kvs) ∧ Q (.int (kvs.length : Nat)) H) (m, ()) (m.l.length : Int) :=
  oc1 fun F H v Q s ⟨a, o, kvs, e, hF, kr⟩ k => ⟨a, kvm KeyS.g kvs, by rw [e], .inr ⟨o, s _ _ hF⟩, k _ F H (.refl s) (by rw [kvm_len]; exact congrArg (fun n : Nat => V.int n) (Paired.length kr))⟩
end
end Gx

namespace Law
open PySem PySem.Spec PyProof.Rows L2 Gx
open Rp (rp)
open Ra (ra)

/-! ### the text -/
def top (i : Nat) : Stmt := PySem.Challenge.pw_furrow_k72_bonds_of_sides.main.body.getD i (.Pass ⟨0, 0, 0, 0⟩)
abbrev s_cell_at : Stmt := top 15
abbrev s_mixed : Stmt := top 16
abbrev s_pair : Stmt := top 18
abbrev s_bough : Stmt := top 19
abbrev s_boughs : Stmt := top 20
abbrev s_Number_init : Stmt := inClass (top 3) 0
abbrev s_Deed_init : Stmt := inClass (top 5) 0
abbrev s_deed : Stmt := top 27
abbrev s_Program_init : Stmt := inClass (top 6) 0
abbrev s_items : Stmt := top 17
abbrev s_at : Stmt := top 21
abbrev s_turns : Stmt := top 29
abbrev s_shared : Stmt := top 22
abbrev s_sides : Stmt := top 23
abbrev s_stand_within : Stmt := top 8
abbrev s_stand : Stmt := top 9
abbrev s_sweeps_round : Stmt := top 11
abbrev s_time_bonds : Stmt := top 12
abbrev s_side_bonds : Stmt := top 13
abbrev s_law_time_bonds : Stmt := top 24
abbrev s_law_side_bonds : Stmt := top 25
abbrev s_whole : Stmt := top 26
abbrev s_alike : Stmt := top 28
abbrev s_meant : Stmt := top 31
abbrev s_hold : Stmt := top 30
abbrev s_pair_stands : Stmt := top 32
abbrev s_law : Stmt := top 33
/-! ### union Item -/
inductive UItem where
  | v_deed (b : Int) (c : (Tp (T2 Int Int)))
  | v_sweep (b : Bool) (c : Str) (d : (List UItem))
mutual
def UItem.R (K : PySem.W.Frag) (F : Hp) : UItem → V → Prop
  | .v_deed b c, v => ∃ p w0 w1 w2, v = .ref p ∧ TupF F p [w0, w1, w2] ∧ w0 = .str "deed" ∧ rp (α := Int) K F w1 b ∧ rp (α := (Tp (T2 Int Int))) K F w2 c
  | .v_sweep b c d, v => ∃ p w0 w1 w2 w3, v = .ref p ∧ TupF F p [w0, w1, w2, w3] ∧ w0 = .str "sweep" ∧ rp (α := Bool) K F w1 b ∧ rp (α := Str) K F w2 c ∧ (∃ q vs, w3 = .ref q ∧ TupF F q vs ∧ UItem.Rs K F d vs)
def UItem.Rs (K : PySem.W.Frag) (F : Hp) : List UItem → List V → Prop
  | [], vs => vs = []
  | x :: xs, vs => ∃ v r, vs = v :: r ∧ UItem.R K F x v ∧ UItem.Rs K F xs r
end
mutual
theorem UItem.R_mono {K : PySem.W.Frag} {F F2 : Hp} (s_ : L2.Same F F2) : ∀ (x : UItem) (v : V), UItem.R K F x v → UItem.R K F2 x v
  | .v_deed b c, v, h => by
    rw [UItem.R] at h ⊢
    obtain ⟨p, w0, w1, w2, e, t, h0, h1, h2⟩ := h
    exact ⟨p, w0, w1, w2, e, tupF_mono s_ t, h0, Rp.mono s_ h1, Rp.mono s_ h2⟩
  | .v_sweep b c d, v, h => by
    rw [UItem.R] at h ⊢
    obtain ⟨p, w0, w1, w2, w3, e, t, h0, h1, h2, ⟨q2, vs2, e2, t2, h3⟩⟩ := h
    exact ⟨p, w0, w1, w2, w3, e, tupF_mono s_ t, h0, Rp.mono s_ h1, Rp.mono s_ h2, ⟨q2, vs2, e2, tupF_mono s_ t2, UItem.Rs_mono s_ d _ h3⟩⟩
theorem UItem.Rs_mono {K : PySem.W.Frag} {F F2 : Hp} (s_ : L2.Same F F2) : ∀ (x : List UItem) (v : List V), UItem.Rs K F x v → UItem.Rs K F2 x v
  | [], vs, h => by rw [UItem.Rs] at h ⊢; exact h
  | x :: xs, vs, h => by
    rw [UItem.Rs] at h ⊢
    obtain ⟨v, r, e, h1, h2⟩ := h
    exact ⟨v, r, e, UItem.R_mono s_ x v h1, UItem.Rs_mono s_ xs r h2⟩
end
instance : Rp UItem := ⟨fun K F v x => UItem.R K F x v, fun s h => UItem.R_mono s _ _ h⟩
theorem UItem.Rs_iff {K : PySem.W.Frag} {F : Hp} : ∀ {xs : List UItem} {vs : List V}, UItem.Rs K F xs vs ↔ Rps K F vs xs
  | [], vs => by
    rw [UItem.Rs]
    exact ⟨fun h => h ▸ .nil, fun h => by cases h; rfl⟩
  | x :: xs, vs => by
    rw [UItem.Rs]
    constructor
    · rintro ⟨v, r, rfl, h1, h2⟩
      exact .cons h1 (UItem.Rs_iff.mp h2)
    · intro h
      cases h with
      | cons h1 h2 => exact ⟨_, _, rfl, h1, UItem.Rs_iff.mpr h2⟩
def UItem.tag : UItem → Str
  | .v_deed _ _ => "deed"
  | .v_sweep _ _ _ => "sweep"
def UItem.asv_deed : UItem → Option (T3 Str Int (Tp (T2 Int Int)))
  | .v_deed b c => some ⟨("deed" : Str), b, c⟩
  | _ => none
theorem UItem.ofv_deed {K : PySem.W.Frag} {F : Hp} {v : V} {b : Int} {c : (Tp (T2 Int Int))} : rp (α := (T3 Str Int (Tp (T2 Int Int)))) K F v ⟨("deed" : Str), b, c⟩ ↔ rp K F v (UItem.v_deed b c) := by
  show _ ↔ UItem.R K F _ v
  rw [UItem.R]
  constructor
  · rintro ⟨p, vs, e, t, w0, _, rfl, h0, w1, _, rfl, h1, w2, _, rfl, h2, rfl⟩
    exact ⟨p, w0, w1, w2, e, t, h0, h1, h2⟩
  · rintro ⟨p, w0, w1, w2, e, t, h0, h1, h2⟩
    exact ⟨p, _, e, t, w0, _, rfl, h0, w1, _, rfl, h1, w2, _, rfl, h2, rfl⟩
def UItem.asv_sweep : UItem → Option (T4 Str Bool Str (Tp UItem))
  | .v_sweep b c d => some ⟨("sweep" : Str), b, c, ⟨d⟩⟩
  | _ => none
theorem UItem.ofv_sweep {K : PySem.W.Frag} {F : Hp} {v : V} {b : Bool} {c : Str} {d : (Tp UItem)} : rp (α := (T4 Str Bool Str (Tp UItem))) K F v ⟨("sweep" : Str), b, c, d⟩ ↔ rp K F v (UItem.v_sweep b c d.l) := by
  show _ ↔ UItem.R K F _ v
  rw [UItem.R]
  constructor
  · rintro ⟨p, vs, e, t, w0, _, rfl, h0, w1, _, rfl, h1, w2, _, rfl, h2, w3, _, rfl, ⟨q3, vs3, e3, t3, h3⟩, rfl⟩
    exact ⟨p, w0, w1, w2, w3, e, t, h0, h1, h2, ⟨q3, vs3, e3, t3, UItem.Rs_iff.mpr h3⟩⟩
  · rintro ⟨p, w0, w1, w2, w3, e, t, h0, h1, h2, ⟨q3, vs3, e3, t3, h3⟩⟩
    exact ⟨p, _, e, t, w0, _, rfl, h0, w1, _, rfl, h1, w2, _, rfl, h2, w3, _, rfl, ⟨q3, vs3, e3, t3, UItem.Rs_iff.mp h3⟩, rfl⟩
section
variable {X : Cx} {e : Expr} {σ : L2.St} {F H : Hp} {x : UItem}
theorem UItem.evv_deed {t : (T3 Str Int (Tp (T2 Int Int)))} (h : Ev X e σ F H x) (he : x.asv_deed = some t) : Ev X e σ F H t := by
  cases x with
  | v_deed b c => cases he; exact h.re fun _ _ r => (UItem.ofv_deed).mpr r
  | v_sweep b c d => cases he
theorem UItem.mkv_deed {b : Int} {c : (Tp (T2 Int Int))} (h : Ev X e σ F H (T3.mk ("deed" : Str) b c)) : Ev X e σ F H (UItem.v_deed b c) := h.re fun _ _ r => UItem.ofv_deed.mp r
def UItem.inv_deed (t : (T3 Str Int (Tp (T2 Int Int)))) : Option UItem := if t.a = "deed" then some (UItem.v_deed t.b t.c) else none
theorem UItem.evinv_deed {t : (T3 Str Int (Tp (T2 Int Int)))} (h : Ev X e σ F H t) (he : UItem.inv_deed t = some x) : Ev X e σ F H x := by
  unfold UItem.inv_deed at he
  split at he
  · rename_i ha
    cases he
    obtain ⟨a, b, c⟩ := t
    have ha : a = "deed" := ha
    subst ha
    exact UItem.mkv_deed h
  · cases he
theorem UItem.evv_sweep {t : (T4 Str Bool Str (Tp UItem))} (h : Ev X e σ F H x) (he : x.asv_sweep = some t) : Ev X e σ F H t := by
  cases x with
  | v_deed b c => cases he
  | v_sweep b c d => cases he; exact h.re fun _ _ r => (UItem.ofv_sweep (d := ⟨d⟩)).mpr r
theorem UItem.mkv_sweep {b : Bool} {c : Str} {d : (Tp UItem)} (h : Ev X e σ F H (T4.mk ("sweep" : Str) b c d)) : Ev X e σ F H (UItem.v_sweep b c d.l) := h.re fun _ _ r => UItem.ofv_sweep.mp r
def UItem.inv_sweep (t : (T4 Str Bool Str (Tp UItem))) : Option UItem := if t.a = "sweep" then some (UItem.v_sweep t.b t.c t.d.l) else none
theorem UItem.evinv_sweep {t : (T4 Str Bool Str (Tp UItem))} (h : Ev X e σ F H t) (he : UItem.inv_sweep t = some x) : Ev X e σ F H x := by
  unfold UItem.inv_sweep at he
  split at he
  · rename_i ha
    cases he
    obtain ⟨a, b, c, d⟩ := t
    have ha : a = "sweep" := ha
    subst ha
    exact UItem.mkv_sweep h
  · cases he
theorem UItem.ev_tag {j : Nat} {p1 pos : Pos} (h : Ev X e σ F H x) : Ev X (.Subscript e (.Constant (.int 0) j p1) pos) σ F H x.tag := by
  cases x with
  | v_deed b c => exact ev_ixT (h.re fun _ _ r => (UItem.ofv_deed).mpr r) ev_int pj0
  | v_sweep b c d => exact ev_ixT (h.re fun _ _ r => (UItem.ofv_sweep (d := ⟨d⟩)).mpr r) ev_int pj0
end
instance : NN UItem := ⟨fun {K F x} h => by
  cases x with
  | v_deed b c => exact NN.nn (α := (T3 Str Int (Tp (T2 Int Int)))) ((UItem.ofv_deed).mpr h)
  | v_sweep b c d => exact NN.nn (α := (T4 Str Bool Str (Tp UItem))) ((UItem.ofv_sweep (d := ⟨d⟩)).mpr h)⟩
instance : Kd UItem := ⟨"tuple", fun {K F H v x} s h => by
  cases x with
  | v_deed b c => exact Kd.kd (α := (T3 Str Int (Tp (T2 Int Int)))) s ((UItem.ofv_deed).mpr h)
  | v_sweep b c d => exact Kd.kd (α := (T4 Str Bool Str (Tp UItem))) s ((UItem.ofv_sweep (d := ⟨d⟩)).mpr h)⟩
mutual
theorem UItem.R_flat {K : PySem.W.Frag} {F : Hp} {l : Addr} (s_ : (∀ xs, ¬ F l = some (.tup xs)) ∧ (∀ o xs, ¬ F l = some (.frz o (.tup xs)))) : ∀ (x : UItem) (v : V), UItem.R K F x v → UItem.R K (er F l) x v
  | .v_deed b c, v, h => by
    rw [UItem.R] at h ⊢
    obtain ⟨p, w0, w1, w2, e, t, h0, h1, h2⟩ := h
    exact ⟨p, w0, w1, w2, e, er_seqT s_.1 s_.2 t, h0, Flat.fl (α := Int) s_.1 s_.2 h1, Flat.fl (α := (Tp (T2 Int Int))) s_.1 s_.2 h2⟩
  | .v_sweep b c d, v, h => by
    rw [UItem.R] at h ⊢
    obtain ⟨p, w0, w1, w2, w3, e, t, h0, h1, h2, ⟨q2, vs2, e2, t2, h3⟩⟩ := h
    exact ⟨p, w0, w1, w2, w3, e, er_seqT s_.1 s_.2 t, h0, Flat.fl (α := Bool) s_.1 s_.2 h1, Flat.fl (α := Str) s_.1 s_.2 h2, ⟨q2, vs2, e2, er_seqT s_.1 s_.2 t2, UItem.Rs_flat s_ d _ h3⟩⟩
theorem UItem.Rs_flat {K : PySem.W.Frag} {F : Hp} {l : Addr} (s_ : (∀ xs, ¬ F l = some (.tup xs)) ∧ (∀ o xs, ¬ F l = some (.frz o (.tup xs)))) : ∀ (x : List UItem) (v : List V), UItem.Rs K F x v → UItem.Rs K (er F l) x v
  | [], vs, h => by rw [UItem.Rs] at h ⊢; exact h
  | x :: xs, vs, h => by
    rw [UItem.Rs] at h ⊢
    obtain ⟨v, r, e, h1, h2⟩ := h
    exact ⟨v, r, e, UItem.R_flat s_ x v h1, UItem.Rs_flat s_ xs r h2⟩
end
instance : Flat UItem := ⟨fun {K F l v x} h1 h2 h => UItem.R_flat ⟨h1, h2⟩ x v h⟩
/-! ### records -/
structure QNumber where
  n : Int
  deriving DecidableEq
def fs_Number : List Str := ["n"]
abbrev QNumber.row (x : QNumber) := (x.n, ())
instance : Rp QNumber := ⟨fun K F v x => rpI "Number" fs_Number K F v x.row, rpI.mono⟩
instance : NN QNumber := ⟨rpI.nn⟩
structure QDeed where
  names : (Tp Str)
  lows : (Tp (T2 Str Int))
  highs : (Tp (T2 Str Int))
  table : Str
  spots : (T1 (T2 Str Int))
  term : QNumber
  path : (Tp Int)
def fs_Deed : List Str := ["names", "lows", "highs", "table", "spots", "term", "path"]
abbrev QDeed.row (x : QDeed) := (x.names, x.lows, x.highs, x.table, x.spots, x.term, x.path, ())
instance : Rp QDeed := ⟨fun K F v x => rpI "Deed" fs_Deed K F v x.row, rpI.mono⟩
instance : NN QDeed := ⟨rpI.nn⟩
structure QProgram where
  size : Int
  deeds : (List QDeed)
def fs_Program : List Str := ["size", "deeds"]
abbrev QProgram.row (x : QProgram) := (x.size, x.deeds, ())
instance : Rp QProgram := ⟨fun K F v x => rpI "Program" fs_Program K F v x.row, rpI.mono⟩
instance : NN QProgram := ⟨rpI.nn⟩
/-! ### mirrors -/
def m_cell_at (x_script : (List Int)) (x_k : Int) : Option Int :=
  if (decide (x_k < (x_script.length : Int))) = true then (L2.atI x_script x_k).bind fun t1 => some t1 else some (0 : Int)
def m_mixed (x_cell : Int) (x_k : Int) : Option Int :=
  (mulG (x_cell % (2147483647 : Int)) ((48271 : Int) + ((2 : Int) * x_k))).bind fun t1 => (some (((t1 + ((7919 : Int) * x_k)) + (1 : Int)) % (2147483629 : Int))).bind fun x_number => (mulG x_number x_number).bind fun t2 => some (t2 % (2147483587 : Int))
def m_pair (x_split : Bool) (x_left : (List Int)) (x_loops : Int) (x_q : Int) (x_far : Int) : Option ((T2 Int Int) × (List Int)) :=
  (L2.atI (Tp.mk ([(0 : Int), (1 : Int), (-(1 : Int)), (0 : Int), (2 : Int), (0 : Int), (-(3 : Int)), (0 : Int)] : List Int)).l (x_q % (8 : Int))).bind fun t1 => (some t1).bind fun x_shift => (if (decide (((x_q / (8 : Int)) % (8 : Int)) = (1 : Int))) = true then (some (x_shift + x_far)).bind fun x_shift => some x_shift else some x_shift).bind fun (b2 : Int) => if x_split = true then (modG (x_q / (64 : Int)) x_loops).bind fun t4 => some ((T2.mk t4 b2), x_left) else (popG x_left (0 : Int)).bind fun t5 => some ((T2.mk t5.1 b2), t5.2)
def m_bough (x_k : Int) (x_loops : Int) (x_prior : (List (T2 Bool Str))) (x_cell : Int) (x_far : Int) : Option (T4 Int Int (List (T2 Bool Str)) (List (T2 Int Int))) :=
  (lRg 0 x_loops).bind fun t1 => (some t1).bind fun x_left => (m_mixed x_cell (1 : Int)).bind fun t2 => (if (decide ((t2 % (2 : Int)) = (1 : Int))) = true then some (x_left.reverse) else some x_left).bind fun (b3 : (List Int)) => (m_mixed x_cell (2 : Int)).bind fun t5 => (some (t5 % (7 : Int))).bind fun x_wish => (some ([] : List (T2 Bool Str))).bind fun x_ways => (some ([] : List (T2 Int Int))).bind fun x_places => (loopM (ρ := (T4 Int Int (List (T2 Bool Str)) (List (T2 Int Int)))) (fun (b6 : ((List (T2 Bool Str)) × (List (T2 Int Int)) × (List Int))) (x_way : (T2 Bool Str)) => if ((decide ((b6.1.length : Int) = x_wish)) || ((decide (x_loops = (0 : Int))) || (b6.2.2.isEmpty && (!x_way.a)))) = true then some (Lp.bk (b6.1, b6.2.1, b6.2.2)) else if ((decide (((b6.1.length : Int) + (b6.2.2.length : Int)) = (6 : Int))) && x_way.a) = true then some (Lp.bk (b6.1, b6.2.1, b6.2.2)) else (app b6.1 x_way).bind fun t10 => (m_mixed x_cell ((3 : Int) + (t10.length : Int))).bind fun t11 => (m_pair x_way.a b6.2.2 x_loops t11 x_far).bind fun t12 => (app b6.2.1 t12.1).bind fun t13 => some (Lp.nx (t10, t13, t12.2))) (x_ways, x_places, b3) x_prior).bind fun o8 => o8.thn (fun (b14 : ((List (T2 Bool Str)) × (List (T2 Int Int)) × (List Int))) => (some (b14.1.length : Int)).bind fun x_share => (whileN (fun (b15 : ((List (T2 Bool Str)) × (List (T2 Int Int)) × (List Int))) => (if (!b15.2.2.isEmpty) = true then some true else (if (decide ((0 : Int) < x_loops)) = true then (if (decide ((b15.1.length : Int) < (6 : Int))) = true then (m_mixed x_cell ((30 : Int) + (b15.1.length : Int))).bind fun t18 => some (decide ((t18 % (5 : Int)) = (0 : Int))) else some false).bind fun t19 => some t19 else some false).bind fun t20 => some t20).bind fun t21 => some t21) (fun (b15 : ((List (T2 Bool Str)) × (List (T2 Int Int)) × (List Int))) => (m_mixed x_cell ((10 : Int) + (b15.1.length : Int))).bind fun t22 => (some t22).bind fun x_q => (some ((decide (((b15.1.length : Int) + (b15.2.2.length : Int)) < (6 : Int))) && (b15.2.2.isEmpty || (decide ((x_q % (4 : Int)) = (0 : Int)))))).bind fun x_split => (L2.atI (Tp.mk ([("up" : Str), ("down" : Str), ("any" : Str), ("up" : Str)] : List Str)).l ((x_q / (4 : Int)) % (4 : Int))).bind fun t23 => (app b15.1 (T2.mk x_split t23)).bind fun t24 => (m_mixed x_cell ((20 : Int) + (t24.length : Int))).bind fun t25 => (m_pair x_split b15.2.2 x_loops t25 x_far).bind fun t26 => (app b15.2.1 t26.1).bind fun t27 => some (t24, t27, t26.2)) 100000 (b14.1, b14.2.1, b14.2.2)).bind fun (b28 : ((List (T2 Bool Str)) × (List (T2 Int Int)) × (List Int))) => some (T4.mk x_k x_share b28.1 b28.2.1)) (fun (r_ : (T4 Int Int (List (T2 Bool Str)) (List (T2 Int Int)))) => some r_)
def m_boughs (x_depths : (List Int)) (x_script : (List Int)) (x_first : Int) (x_far : Int) : Option (List (T4 Int Int (List (T2 Bool Str)) (List (T2 Int Int)))) :=
  (lRg 0 (x_depths.length : Int)).bind fun t1 => (some t1).bind fun x_left => (some ([] : List (T4 Int Int (List (T2 Bool Str)) (List (T2 Int Int))))).bind fun x_boughs_here => (some ([] : List (T2 Bool Str))).bind fun x_prior => (whileN (fun (b2 : ((List Int) × (List (T4 Int Int (List (T2 Bool Str)) (List (T2 Int Int)))) × (List (T2 Bool Str)))) => some (!b2.1.isEmpty)) (fun (b2 : ((List Int) × (List (T4 Int Int (List (T2 Bool Str)) (List (T2 Int Int)))) × (List (T2 Bool Str)))) => (m_cell_at x_script (x_first + (b2.2.1.length : Int))).bind fun t5 => (some t5).bind fun x_cell => (m_mixed x_cell (0 : Int)).bind fun t6 => (modG (t6 / (3 : Int)) (b2.1.length : Int)).bind fun t7 => (popG b2.1 t7).bind fun t8 => (some t8.1).bind fun x_k => (L2.atI x_depths x_k).bind fun t9 => (m_bough x_k t9 b2.2.2 x_cell x_far).bind fun t10 => (app b2.2.1 t10).bind fun t11 => (L2.atI t11 (-(1 : Int))).bind fun t12 => (some t12.c).bind fun x_prior => some (t8.2, t11, x_prior)) 100000 (x_left, x_boughs_here, x_prior)).bind fun (b13 : ((List Int) × (List (T4 Int Int (List (T2 Bool Str)) (List (T2 Int Int)))) × (List (T2 Bool Str)))) => some b13.2.1
def m_Number_init (x_n : Int) : Option (Int × Unit) :=
  some (x_n, ())
def m_Deed_init (x_names : (Tp Str)) (x_lows : (Tp (T2 Str Int))) (x_highs : (Tp (T2 Str Int))) (x_table : Str) (x_spots : (T1 (T2 Str Int))) (x_term : QNumber) (x_path : (Tp Int)) : Option ((Tp Str) × (Tp (T2 Str Int)) × (Tp (T2 Str Int)) × Str × (T1 (T2 Str Int)) × QNumber × (Tp Int) × Unit) :=
  some (x_names, x_lows, x_highs, x_table, x_spots, x_term, x_path, ())
def m_deed (x_k : Int) (x_depth : Int) : Option QDeed :=
  (some (Tp.mk (cut (Tp.mk [(T3.mk ("i" : Str) ("jo" : Str) ("kim" : Str)).a, (T3.mk ("i" : Str) ("jo" : Str) ("kim" : Str)).b, (T3.mk ("i" : Str) ("jo" : Str) ("kim" : Str)).c]).l none (some x_depth)))).bind fun x_names => (some (Tp.mk (cut (Tp.mk [(T3.mk (T2.mk ("" : Str) (0 : Int)) (T2.mk ("" : Str) (3 : Int)) (T2.mk ("" : Str) (1 : Int))).a, (T3.mk (T2.mk ("" : Str) (0 : Int)) (T2.mk ("" : Str) (3 : Int)) (T2.mk ("" : Str) (1 : Int))).b, (T3.mk (T2.mk ("" : Str) (0 : Int)) (T2.mk ("" : Str) (3 : Int)) (T2.mk ("" : Str) (1 : Int))).c]).l none (some x_depth)))).bind fun x_bounds => (catT (Tp.mk ([x_k] : List Int)) (Tp.mk (cut (Tp.mk [(T3.mk (0 : Int) (0 : Int) (0 : Int)).a, (T3.mk (0 : Int) (0 : Int) (0 : Int)).b, (T3.mk (0 : Int) (0 : Int) (0 : Int)).c]).l none (some x_depth)))).bind fun t1 => some (QDeed.mk x_names x_bounds x_bounds ("t" : Str) (T1.mk (T2.mk ("" : Str) x_k)) (QNumber.mk x_k) t1)
def m_Program_init (x_size : Int) (x_deeds : (List QDeed)) : Option (Int × (List QDeed) × Unit) :=
  some (x_size, x_deeds, ())
def m_items : Nat → (List (T4 Int Int (List (T2 Bool Str)) (List (T2 Int Int)))) → Int → Option (Tp UItem)
  | 0, _, _ => none
  | n_ + 1, x_boughs_here, x_depth =>
    (some ([] : List UItem)).bind fun x_items_here => (some (0 : Int)).bind fun x_at_here => (whileN (fun (b1 : ((List UItem) × Int)) => some (decide (b1.2 < (x_boughs_here.length : Int)))) (fun (b1 : ((List UItem) × Int)) => (some (b1.2 + (1 : Int))).bind fun x_upto => (L2.atI x_boughs_here b1.2).bind fun t4 => (if (decide ((t4.c.length : Int) = x_depth)) = true then (L2.atI x_boughs_here b1.2).bind fun t7 => (L2.atI x_boughs_here b1.2).bind fun t8 => (app b1.1 (UItem.v_deed t7.a (Tp.mk t8.d))).bind fun t9 => some (t9, x_upto) else (whileN (fun (b10 : Int) => (if (decide (b10 < (x_boughs_here.length : Int))) = true then (L2.atI x_boughs_here b10).bind fun t13 => some (decide (x_depth < t13.b)) else some false).bind fun t14 => some t14) (fun (b10 : Int) => (some (b10 + (1 : Int))).bind fun x_upto => some x_upto) 100000 x_upto).bind fun (b15 : Int) => (L2.atI x_boughs_here b1.2).bind fun t16 => (L2.atI t16.c x_depth).bind fun t17 => (some t17).bind fun x_way => (m_items n_ (cut x_boughs_here (some b1.2) (some b15)) (x_depth + (1 : Int))).bind fun t18 => (app b1.1 (UItem.v_sweep x_way.a x_way.b t18.l)).bind fun t19 => some (t19, b15)).bind fun (b5 : ((List UItem) × Int)) => (some b5.2).bind fun x_at_here => some (b5.1, x_at_here)) 100000 (x_items_here, x_at_here)).bind fun (b20 : ((List UItem) × Int)) => some (Tp.mk b20.1)
def m_at (x_boughs_here : (List (T4 Int Int (List (T2 Bool Str)) (List (T2 Int Int))))) (x_k : Int) : Option Int :=
  (compG (fun (x_bough_here : (T4 Int Int (List (T2 Bool Str)) (List (T2 Int Int)))) => some (some x_bough_here.a)) x_boughs_here).bind fun t1 => (idxG t1 x_k).bind fun t2 => some t2
def m_turns (x_script : (List Int)) (x_mine : (T4 Int Int (List (T2 Bool Str)) (List (T2 Int Int)))) (x_theirs : (T4 Int Int (List (T2 Bool Str)) (List (T2 Int Int)))) (x_depths : (List Int)) : Option (List Int) :=
  (L2.atI x_depths (0 : Int)).bind fun t1 => (rngG t1).bind fun t2 => (compG (fun (x_e : Int) => (m_cell_at x_script ((5 : Int) + x_e)).bind fun t3 => some (some ((t3 % (1000000000000000000 : Int)) - (100000000000000000 : Int)))) t2).bind fun t4 => (some t4).bind fun x_ones => (L2.atI x_depths (1 : Int)).bind fun t5 => (rngG t5).bind fun t6 => (compG (fun (x_e : Int) => (m_cell_at x_script ((8 : Int) + x_e)).bind fun t7 => some (some ((t7 % (1000000000000000000 : Int)) - (100000000000000000 : Int)))) t6).bind fun t8 => (some t8).bind fun x_others => (rngG (if (x_theirs.d.length : Int) < (x_mine.d.length : Int) then (x_theirs.d.length : Int) else (x_mine.d.length : Int))).bind fun t9 => (loopN (fun (b10 : (List Int)) (x_e : Int) => (m_cell_at x_script (11 : Int)).bind fun t14 => (m_mixed t14 x_e).bind fun t15 => (L2.atI (Tp.mk ([(0 : Int), (0 : Int), (1 : Int), (0 : Int), (-(1 : Int)), (0 : Int), (5 : Int)] : List Int)).l (t15 % (7 : Int))).bind fun t16 => (some t16).bind fun x_near => (L2.atI x_mine.d x_e).bind fun t17 => (some t17).bind fun x_pair_here => (L2.atI x_theirs.d x_e).bind fun t18 => (some t18).bind fun x_beside => (L2.atI x_ones x_pair_here.a).bind fun t19 => (setG b10 x_beside.a (((t19 + x_pair_here.b) - x_beside.b) + x_near)).bind fun t20 => some t20) x_others t9).bind fun (b21 : (List Int)) => (catG [(0 : Int)] x_ones).bind fun t24 => (catG t24 b21).bind fun t25 => some t25
def m_shared (x_boughs_here : (List (T4 Int Int (List (T2 Bool Str)) (List (T2 Int Int))))) (x_p : Int) (x_q : Int) : Option Int :=
  if (decide (x_p = x_q)) = true then (L2.atI x_boughs_here x_p).bind fun t1 => some (t1.c.length : Int) else (compG (fun (x_bough_here : (T4 Int Int (List (T2 Bool Str)) (List (T2 Int Int)))) => some (some x_bough_here.b)) (cut x_boughs_here (some ((if x_q < x_p then x_q else x_p) + (1 : Int))) (some ((if x_q > x_p then x_q else x_p) + (1 : Int))))).bind fun t2 => (t2.min?).bind fun t3 => some t3
def m_sides (x_boughs_here : (List (T4 Int Int (List (T2 Bool Str)) (List (T2 Int Int))))) (x_k : Int) (x_l : Int) : Option (List (T2 Int Str)) :=
  (m_at x_boughs_here x_k).bind fun t1 => (some t1).bind fun x_p => (m_at x_boughs_here x_l).bind fun t2 => (some t2).bind fun x_q => (m_shared x_boughs_here x_p x_q).bind fun t3 => (some t3).bind fun x_many => (some ([] : List (T2 Int Str))).bind fun x_due => (rngG x_many).bind fun t4 => (loopN (fun (b5 : (List (T2 Int Str))) (x_e : Int) => (L2.atI x_boughs_here x_p).bind fun t9 => (L2.atI t9.c x_e).bind fun t10 => (some t10.b).bind fun x_way => (if (!decide (x_way = ("up" : Str))) = true then (app b5 (T2.mk x_e ("less" : Str))).bind fun t13 => some t13 else some b5).bind fun (b11 : (List (T2 Int Str))) => if (!decide (x_way = ("down" : Str))) = true then (app b11 (T2.mk x_e ("more" : Str))).bind fun t14 => some t14 else some b11) x_due t4).bind fun (b15 : (List (T2 Int Str))) => (if (decide (x_q < x_p)) = true then (app b15 (T2.mk x_many ("text" : Str))).bind fun t18 => some t18 else some b15).bind fun (b16 : (List (T2 Int Str))) => some b16
def m_stand_within : Nat → (Tp UItem) → Int → (Tp Int) → Option (Option (T2 (Tp Int) (Tp (T2 Int Int))))
  | 0, _, _, _ => none
  | n_ + 1, x_items, x_k, x_path =>
    (loopM (ρ := (Option (T2 (Tp Int) (Tp (T2 Int Int))))) (fun (b1 : Unit) (i2 : (T2 Int UItem)) => (catT x_path (Tp.mk ([i2.a] : List Int))).bind fun t7 => (some t7).bind fun x_here => if (decide (i2.b.tag = ("sweep" : Str))) = true then (i2.b.asv_sweep).bind fun t8 => (m_stand_within n_ t8.d x_k x_here).bind fun t9 => (some t9).bind fun x_found => (match x_found with | none => some (Lp.nx ()) | some x_found => some (Lp.rt (some x_found))) else (i2.b.asv_deed).bind fun t10 => if (decide (t10.b = x_k)) = true then (i2.b.asv_deed).bind fun t11 => some (Lp.rt (some (T2.mk x_here t11.c))) else some (Lp.nx ())) () (enumL x_items.l)).bind fun o3 => o3.thn (fun (b12 : Unit) => some (none : (Option (T2 (Tp Int) (Tp (T2 Int Int)))))) (fun (r_ : (Option (T2 (Tp Int) (Tp (T2 Int Int))))) => some r_)
def m_stand (x_plan : (Tp UItem)) (x_k : Int) : Option (Option (T2 (Tp Int) (Tp (T2 Int Int)))) :=
  (m_stand_within 10 x_plan x_k (Tp.mk ([] : List Int))).bind fun t1 => some t1
def m_sweeps_round (x_plan : (Tp UItem)) (x_path : (Tp Int)) : Option (List (T2 Bool Str)) :=
  (some ([] : List (T2 Bool Str))).bind fun x_found => (some x_plan).bind fun x_items => (loopN (fun (b1 : ((List (T2 Bool Str)) × (Tp UItem))) (x_number : Int) => (L2.atI b1.2.l x_number).bind fun t5 => (some t5).bind fun x_item => (x_item.asv_sweep).bind fun t6 => (x_item.asv_sweep).bind fun t7 => (app b1.1 (T2.mk t6.b t7.c)).bind fun t8 => (x_item.asv_sweep).bind fun t9 => (some t9.d).bind fun x_items => some (t8, x_items)) (x_found, x_items) (Tp.mk (cut x_path.l none (some (-(1 : Int))))).l).bind fun (b10 : ((List (T2 Bool Str)) × (Tp UItem))) => some b10.1
def m_time_bonds (x_u : Int) (x_r : Int) (x_w : Int) (x_m : Int) (x_side : Str) : Option (List (T3 Int Int Int)) :=
  if (decide (x_side = ("less" : Str))) = true then some [(T3.mk x_u x_w ((x_m - x_r) - (1 : Int)))] else if (decide (x_side = ("more" : Str))) = true then some [(T3.mk x_w x_u ((x_r - x_m) - (1 : Int)))] else some [(T3.mk x_u x_w (x_m - x_r)), (T3.mk x_w x_u (x_r - x_m))]
def m_side_bonds (x_program : QProgram) (x_plan : (Tp UItem)) (x_k : Int) (x_l : Int) (x_level : Int) (x_side : Str) : Option (List (T3 Int Int Int)) :=
  (m_stand x_plan x_k).bind fun t1 => (some t1).bind fun x_place => (m_stand x_plan x_l).bind fun t2 => (t2).bind fun t3 => (some t3.b).bind fun x_others => (x_place).bind fun t4 => (m_sweeps_round x_plan t4.a).bind fun t5 => (some t5).bind fun x_ways => (L2.atI x_program.deeds x_k).bind fun t6 => (some ((1 : Int) + (t6.names.l.length : Int))).bind fun x_behind => (some ([] : List (T3 Int Int Int))).bind fun x_bonds => (rngG (x_ways.length : Int)).bind fun t7 => (loopN (fun (b8 : (List (T3 Int Int Int))) (x_e : Int) => (some ("alike" : Str)).bind fun x_kind => (if (decide (x_e = x_level)) = true then (some x_side).bind fun x_kind => some x_kind else some x_kind).bind fun (b12 : Str) => (if (decide (x_e < x_level)) = true then (L2.atI x_ways x_e).bind fun t14 => some (!t14.a) else some false).bind fun t15 => if (t15 || ((decide (x_e = x_level)) && (!decide (x_side = ("text" : Str))))) = true then (x_place).bind fun t16 => (L2.atI t16.b.l x_e).bind fun t17 => (some t17).bind fun x_mine => (L2.atI x_others.l x_e).bind fun t18 => (some t18).bind fun x_theirs => (m_time_bonds ((1 : Int) + x_mine.a) x_mine.b (x_behind + x_theirs.a) x_theirs.b b12).bind fun t19 => (catG b8 t19).bind fun t20 => (some t20).bind fun x_bonds => some x_bonds else some b8) x_bonds t7).bind fun (b21 : (List (T3 Int Int Int))) => some b21
def m_law_time_bonds (x_u : Int) (x_r : Int) (x_w : Int) (x_m : Int) (x_side : Str) : Option (List (T3 Int Int Int)) :=
  if (decide (x_side = ("less" : Str))) = true then some [(T3.mk x_u x_w ((x_m - x_r) - (1 : Int)))] else if (decide (x_side = ("more" : Str))) = true then some [(T3.mk x_w x_u ((x_r - x_m) - (1 : Int)))] else some [(T3.mk x_u x_w (x_m - x_r)), (T3.mk x_w x_u (x_r - x_m))]
def m_law_side_bonds (x_boughs_here : (List (T4 Int Int (List (T2 Bool Str)) (List (T2 Int Int))))) (x_behind : Int) (x_k : Int) (x_l : Int) (x_level : Int) (x_side : Str) : Option (List (T3 Int Int Int)) :=
  (m_at x_boughs_here x_k).bind fun t1 => (L2.atI x_boughs_here t1).bind fun t2 => (some t2).bind fun x_mine => (m_at x_boughs_here x_l).bind fun t3 => (L2.atI x_boughs_here t3).bind fun t4 => (some t4).bind fun x_theirs => (some ([] : List (T3 Int Int Int))).bind fun x_due => (rngG (x_level + (1 : Int))).bind fun t5 => (loopM (ρ := (List (T3 Int Int Int))) (fun (b6 : (List (T3 Int Int Int))) (x_e : Int) => if ((decide (x_e = x_level)) && (decide (x_side = ("text" : Str)))) = true then some (Lp.bk b6) else (if (decide (x_e = x_level)) = true then some true else (L2.atI x_mine.c x_e).bind fun t10 => some (!t10.a)).bind fun t11 => if t11 = true then (some x_side).bind fun x_kind => (if (decide (x_e < x_level)) = true then (some ("alike" : Str)).bind fun x_kind => some x_kind else some x_kind).bind fun (b12 : Str) => (L2.atI x_mine.d x_e).bind fun t14 => (some t14).bind fun x_one => (L2.atI x_theirs.d x_e).bind fun t15 => (some t15).bind fun x_other => (m_law_time_bonds ((1 : Int) + x_one.a) x_one.b (x_behind + x_other.a) x_other.b b12).bind fun t16 => (catG b6 t16).bind fun t17 => some (Lp.nx t17) else some (Lp.nx b6)) x_due t5).bind fun o8 => o8.thn (fun (b18 : (List (T3 Int Int Int))) => some b18) (fun (r_ : (List (T3 Int Int Int))) => some r_)
def m_whole (x_found : Int) : Option Bool :=
  some (true && (!false))
def m_alike (x_found : (List (T3 Int Int Int))) (x_due : (List (T3 Int Int Int))) : Option Bool :=
  if ((!true) || (!decide ((x_found.length : Int) = (x_due.length : Int)))) = true then some false else (loopM (ρ := Bool) (fun (b1 : Unit) (x_bond : (T3 Int Int Int)) => if ((!true) || (!decide ((3 : Int) = (3 : Int)))) = true then some (Lp.rt false) else (m_whole x_bond.a).bind fun t5 => (if (!t5) = true then some true else (m_whole x_bond.b).bind fun t6 => (if (!t6) = true then some true else (m_whole x_bond.c).bind fun t7 => some (!t7)).bind fun t8 => some t8).bind fun t9 => if t9 = true then some (Lp.rt false) else some (Lp.nx ())) () x_found).bind fun o3 => o3.thn (fun (b10 : Unit) => (eqG x_found x_due).bind fun t11 => some t11) (fun (r_ : Bool) => some r_)
def m_meant (x_mine : (T4 Int Int (List (T2 Bool Str)) (List (T2 Int Int)))) (x_theirs : (T4 Int Int (List (T2 Bool Str)) (List (T2 Int Int)))) (x_behind : Int) (x_values : (List Int)) (x_level : Int) (x_side : Str) : Option Bool :=
  (rngG (x_level + (1 : Int))).bind fun t1 => (loopM (ρ := Bool) (fun (b2 : Unit) (x_e : Int) => if ((decide (x_e = x_level)) && (decide (x_side = ("text" : Str)))) = true then some (Lp.rt true) else (L2.atI x_mine.d x_e).bind fun t6 => (L2.atI x_values ((1 : Int) + t6.a)).bind fun t7 => (L2.atI x_mine.d x_e).bind fun t8 => (some (t7 + t8.b)).bind fun x_time => (L2.atI x_theirs.d x_e).bind fun t9 => (L2.atI x_values (x_behind + t9.a)).bind fun t10 => (L2.atI x_theirs.d x_e).bind fun t11 => (some (t10 + t11.b)).bind fun x_beside => if ((decide (x_e = x_level)) && (decide (x_side = ("less" : Str)))) = true then some (Lp.rt (decide (x_time < x_beside))) else if (decide (x_e = x_level)) = true then some (Lp.rt (decide (x_beside < x_time))) else (L2.atI x_mine.c x_e).bind fun t12 => if ((!t12.a) && (!decide (x_time = x_beside))) = true then some (Lp.rt false) else some (Lp.nx ())) () t1).bind fun o4 => o4.thn (fun (b13 : Unit) => some false) (fun (r_ : Bool) => some r_)
def m_hold (x_bonds : (List (T3 Int Int Int))) (x_values : (List Int)) : Option Bool :=
  (loopM (ρ := Bool) (fun (b1 : Unit) (x_bond : (T3 Int Int Int)) => (L2.atI x_values x_bond.a).bind fun t5 => (L2.atI x_values x_bond.b).bind fun t6 => if (decide (x_bond.c < (t5 - t6))) = true then some (Lp.rt false) else some (Lp.nx ())) () x_bonds).bind fun o3 => o3.thn (fun (b7 : Unit) => some true) (fun (r_ : Bool) => some r_)
def m_pair_stands (x_script : (List Int)) (x_program : QProgram) (x_boughs_here : (List (T4 Int Int (List (T2 Bool Str)) (List (T2 Int Int))))) (x_depths : (List Int)) (x_k : Int) (x_l : Int) : Option Bool :=
  (m_items 10 x_boughs_here (0 : Int)).bind fun t1 => (some t1).bind fun x_plan => (m_at x_boughs_here x_k).bind fun t2 => (L2.atI x_boughs_here t2).bind fun t3 => (some t3).bind fun x_mine => (m_at x_boughs_here x_l).bind fun t4 => (L2.atI x_boughs_here t4).bind fun t5 => (some t5).bind fun x_theirs => (L2.atI x_depths x_k).bind fun t6 => (L2.atI x_depths x_l).bind fun t7 => (m_turns x_script x_mine x_theirs [t6, t7]).bind fun t8 => (some t8).bind fun x_values => (L2.atI x_depths x_k).bind fun t9 => (some ((1 : Int) + t9)).bind fun x_behind => (m_sides x_boughs_here x_k x_l).bind fun t10 => (loopM (ρ := Bool) (fun (b11 : Unit) (x_pair_here : (T2 Int Str)) => (m_side_bonds x_program x_plan x_k x_l x_pair_here.a x_pair_here.b).bind fun t15 => (some t15).bind fun x_found => (m_law_side_bonds x_boughs_here x_behind x_k x_l x_pair_here.a x_pair_here.b).bind fun t16 => (some t16).bind fun x_due => (m_alike x_found x_due).bind fun t17 => if (!t17) = true then some (Lp.rt false) else (m_meant x_mine x_theirs x_behind x_values x_pair_here.a x_pair_here.b).bind fun t18 => (some t18).bind fun x_meant_here => (m_hold x_found x_values).bind fun t19 => if (!decide (t19 = x_meant_here)) = true then some (Lp.rt false) else some (Lp.nx ())) () t10).bind fun o13 => o13.thn (fun (b20 : Unit) => some true) (fun (r_ : Bool) => some r_)
def m_law (x_script : (List Int)) : Option Bool :=
  (compG (fun (x_k : Int) => (m_cell_at x_script x_k).bind fun t1 => (m_mixed t1 (4 : Int)).bind fun t2 => some (some (t2 % (4 : Int)))) (intsF 0 2)).bind fun t3 => (some t3).bind fun x_depths => (m_cell_at x_script (4 : Int)).bind fun t4 => (m_cell_at x_script (11 : Int)).bind fun t5 => (L2.atI (Tp.mk ([(1 : Int), (-(1 : Int))] : List Int)).l (t5 % (2 : Int))).bind fun t6 => (mulG ((1 : Int) + (t4 % (100000000000000000 : Int))) t6).bind fun t7 => (some t7).bind fun x_far => (m_boughs x_depths x_script (2 : Int) x_far).bind fun t8 => (some t8).bind fun x_boughs_here => (compG (fun (x_k : Int) => (L2.atI x_depths x_k).bind fun t9 => (m_deed x_k t9).bind fun t10 => some (some t10)) (intsF 0 2)).bind fun t11 => (m_Program_init (2 : Int) t11).bind fun t12 => (some (QProgram.mk t12.1 t12.2.1)).bind fun x_program => (loopM (ρ := Bool) (fun (b13 : Unit) (x_k : Int) => (loopM (ρ := Bool) (fun (b17 : Unit) (x_l : Int) => (m_pair_stands x_script x_program x_boughs_here x_depths x_k x_l).bind fun t21 => if (!t21) = true then some (Lp.rt false) else some (Lp.nx ())) () (intsF 0 2)).bind fun o19 => o19.thn (fun (b22 : Unit) => some (Lp.nx ())) (fun (r_ : Bool) => some (Lp.rt r_))) () (intsF 0 2)).bind fun o15 => o15.thn (fun (b23 : Unit) => some true) (fun (r_ : Bool) => some r_)

/-! ### the mathematics -/
theorem mixed_ok (c : Int) {k : Int} (h0 : 0 ≤ k) (hk : k ≤ 1000) : Ok (m_mixed c k) fun v => 0 ≤ v ∧ v < 2147483587 := by
  unfold m_mixed
  have h0 := Int.emod_nonneg c (show (2147483647 : Int) ≠ 0 by decide)
  have h1 := Int.emod_lt_of_pos c (show (0 : Int) < 2147483647 by decide)
  refine .bindE (mulG_l (by omega)) (.bindE rfl ?_)
  have h2 := Int.emod_nonneg (c % 2147483647 * (48271 + 2 * k) + 7919 * k + 1) (show (2147483629 : Int) ≠ 0 by decide)
  have h3 := Int.emod_lt_of_pos (c % 2147483647 * (48271 + 2 * k) + 7919 * k + 1) (show (0 : Int) < 2147483629 by decide)
  generalize (c % 2147483647 * (48271 + 2 * k) + 7919 * k + 1) % 2147483629 = x at *
  exact .bindE (mulG_l (by omega)) (.ret ⟨Int.emod_nonneg _ (by decide), Int.emod_lt_of_pos _ (by decide)⟩)
theorem emod_in (c : Int) {n : Int} (h : 0 < n) : 0 ≤ c % n ∧ c % n < n := ⟨Int.emod_nonneg _ (by omega), Int.emod_lt_of_pos _ h⟩
theorem cell_at_ok (ns : List Int) {k : Int} (h0 : 0 ≤ k) : Ok (m_cell_at ns k) fun _ => True := by
  unfold m_cell_at
  refine Ok.dite (fun h => ?_) fun _ => .ret trivial
  obtain ⟨v, e, _⟩ := atI_mem h0 h
  exact .of (by rw [e]; rfl) trivial
abbrev WayT : Type := T2 Bool Str
abbrev BoughT : Type := T4 Int Int (List WayT) (List (T2 Int Int))
def wayS (z : Str) : Prop := z = ("up" : Str) ∨ z = ("down" : Str) ∨ z = ("any" : Str)
/-- a pair of a loop of so many and a shift that is not too far -/
def PairIn (loops far : Int) (p : T2 Int Int) : Prop := 0 ≤ p.a ∧ p.a < loops ∧ -(far + 3) ≤ p.b ∧ p.b ≤ far + 3
theorem pair_ok (split : Bool) (left : List Int) {loops far : Int} (q : Int) {fa : Int} (hf : -far ≤ fa ∧ fa ≤ far) (h1 : split = true → 0 < loops) (h2 : split = false → left ≠ []) (hl : ∀ x ∈ left, 0 ≤ x ∧ x < loops) (ln : left.length ≤ 1000) :
    Ok (m_pair split left loops q fa) fun r => PairIn loops far r.1 ∧ (split = true → r.2 = left) ∧ (split = false → r.2 = left.tail) := by
  unfold m_pair
  refine .bind (atI_mem (emod_in q (by decide)).1 (emod_in q (by decide)).2) fun v ⟨hv, _⟩ => .bindE rfl ?_
  have hv : -3 ≤ v ∧ v ≤ 2 := by simp at hv; omega
  refine .bind (P := fun b => -(far + 3) ≤ b ∧ b ≤ far + 3) (Ok.ite (fun _ => .ret (by omega)) fun _ => .ret (by omega)) fun b hb => ?_
  cases split with
  | true =>
    rw [if_pos rfl]
    have := emod_in (q / 64) (h1 rfl)
    exact .bindE (modG_p (h1 rfl)) (.ret ⟨⟨this.1, this.2, hb.1, hb.2⟩, fun _ => rfl, fun h => by cases h⟩)
  | false =>
    rw [if_neg Bool.false_ne_true]
    cases left with
    | nil => exact absurd rfl (h2 rfl)
    | cons x r =>
      have := hl x List.mem_cons_self
      exact .bindE (popG_p (y := x) (by decide) (by simp at ln ⊢; omega) rfl) (.ret ⟨⟨this.1, this.2, hb.1, hb.2⟩, fun h => (nomatch h), fun _ => rfl⟩)
/-- what a bough is, behind a prior one's ways -/
structure Bgh (k loops far : Int) (prior : List WayT) (x : BoughT) : Prop where
  k : x.a = k
  b0 : 0 ≤ x.b
  b1 : x.b ≤ prior.length
  b2 : x.b ≤ x.c.length
  tk : x.c.take x.b.toNat = prior.take x.b.toNat
  c6 : x.c.length ≤ 6
  dl : x.d.length = x.c.length
  ws : ∀ w ∈ x.c, wayS w.b
  ps : ∀ p ∈ x.d, PairIn loops far p
theorem bough_ok (k : Int) {loops : Int} (l0 : 0 ≤ loops) (l3 : loops ≤ 3) {prior : List WayT} (hp : ∀ w ∈ prior, wayS w.b) (p6 : prior.length ≤ 6) (cell : Int) {far fa : Int} (hf : -far ≤ fa ∧ fa ≤ far) : Ok (m_bough k loops prior cell fa) (Bgh k loops far prior) := by
  unfold m_bough
  have el : lRg 0 loops = some (intsF 0 loops.toNat) := by
    have := lRg_n (n := loops.toNat) (by omega)
    rwa [Int.toNat_of_nonneg l0] at this
  refine .bindE el (.bindE rfl (.bind (mixed_ok cell (by decide) (by decide)) fun t2 _ => ?_))
  have hin : ∀ x ∈ intsF 0 loops.toNat, 0 ≤ x ∧ x < loops := fun x hx => by have := intsF_mem hx; omega
  refine .bind (P := fun l : List Int => l.length = loops.toNat ∧ ∀ x ∈ l, 0 ≤ x ∧ x < loops) (Ok.ite (fun _ => .ret ⟨by rw [List.length_reverse, ints_len], fun x hx => hin x (List.mem_reverse.mp hx)⟩) fun _ => .ret ⟨ints_len, hin⟩) fun left ⟨ll, lin⟩ => ?_
  refine .bind (mixed_ok cell (by decide) (by decide)) fun t5 _ => .bindE rfl (.bindE rfl (.bindE rfl ?_))
  generalize t5 % 7 = wish
  let J : Nat → (List WayT × List (T2 Int Int) × List Int) → Prop := fun i b => i ≤ prior.length ∧ b.1 = prior.take i ∧ b.2.1.length = i ∧ i + b.2.2.length ≤ 6 ∧ (∀ x ∈ b.2.2, 0 ≤ x ∧ x < loops) ∧ (∀ p ∈ b.2.1, PairIn loops far p)
  refine Ok.thn (fun o => ∃ b i, (o = .nx b ∨ o = .bk b) ∧ J i b) (Ok.loopM (fun b ys => ∃ i, ys = prior.drop i ∧ J i b) ⟨0, rfl, Nat.zero_le _, rfl, rfl, by show 0 + left.length ≤ 6; omega, lin, fun p hp => by cases hp⟩ ?_ fun b ⟨i, _, j⟩ => ⟨b, i, .inl rfl, j⟩) ?_ ?_ fun r ⟨b, i, h, _⟩ => by rcases h with h | h <;> cases h
  · intro b w ys ⟨i, e, j1, j2, j3, j4, j5, j6⟩
    have hi : i < prior.length := by
      rcases Nat.lt_or_ge i prior.length with h | h
      · exact h
      · rw [List.drop_of_length_le h] at e; cases e
    have hw : prior[i]? = some w := by
      have e2 := congrArg (fun l : List WayT => l[0]?) e
      simp only [List.getElem?_cons_zero, List.getElem?_drop, Nat.add_zero] at e2
      exact e2.symm
    have e3 : ys = prior.drop (i + 1) := by
      have := congrArg List.tail e
      rw [List.tail_cons, List.tail_drop] at this; exact this
    have bl : b.1.length = i := by rw [j2, List.length_take]; omega
    refine Ok.ite (fun _ => .ret ⟨_, i, .inr rfl, j1, j2, j3, j4, j5, j6⟩) fun n1 => Ok.ite (fun _ => .ret ⟨_, i, .inr rfl, j1, j2, j3, j4, j5, j6⟩) fun n2 => ?_
    rw [Bool.not_eq_true, Bool.or_eq_false_iff, Bool.or_eq_false_iff] at n1
    obtain ⟨_, n3, n4⟩ := n1
    have n3 := of_decide_eq_false n3
    have hne : w.a = false → b.2.2 ≠ [] := fun h z => by rw [z, h] at n4; cases n4
    have hsum : w.a = true → i + b.2.2.length ≤ 5 := fun h => by
      rw [h, Bool.and_true] at n2
      have : ¬ ((b.1.length : Int) + b.2.2.length = 6) := fun z => n2 (decide_eq_true z)
      omega
    refine .bindE (app_p (by omega)) (.bind (mixed_ok cell (by omega) (by show 3 + ((b.1 ++ [w]).length : Int) ≤ 1000; rw [List.length_append]; simp; omega)) fun t11 _ => ?_)
    refine .bind (pair_ok (far := far) w.a b.2.2 t11 hf (fun _ => by omega) hne j5 (by omega)) fun r ⟨r1, r2, r3⟩ => .bindE (app_p (by omega)) (.ret ⟨i + 1, e3, hi, ?_, ?_, ?_, ?_, ?_⟩)
    · show b.1 ++ [w] = _
      rw [List.take_succ, hw, j2]; rfl
    · show (b.2.1 ++ [r.1]).length = _
      rw [List.length_append, j3]; rfl
    · show i + 1 + r.2.length ≤ 6
      cases hwa : w.a with
      | true => rw [r2 hwa]; have := hsum hwa; omega
      | false =>
        have := hne hwa
        rw [r3 hwa, List.length_tail]
        have := List.length_pos_iff.mpr this
        omega
    · show ∀ x ∈ r.2, _
      cases hwa : w.a with
      | true => rw [r2 hwa]; exact j5
      | false => rw [r3 hwa]; exact fun x hx => j5 x (List.mem_of_mem_tail hx)
    · intro p hp
      have hp : p ∈ b.2.1 ++ [r.1] := hp
      rcases List.mem_append.mp hp with h | h
      · exact j6 p h
      · rw [List.mem_singleton.mp h]; exact r1
  all_goals
    intro b hb
    obtain ⟨b', i, hb', j1, j2, j3, j4, j5, j6⟩ := hb
    obtain rfl : b = b' := by rcases hb' with h | h <;> cases h <;> rfl
    refine .bindE rfl ?_
    have bl : b.1.length = i := by rw [j2, List.length_take]; omega
    refine .bind (Ok.whileN (Q := fun c : List WayT × List (T2 Int Int) × List Int => Bgh k loops far prior (T4.mk k (b.1.length : Int) c.1 c.2.1)) (fun c : List WayT × List (T2 Int Int) × List Int => i ≤ c.1.length ∧ c.1.take i = prior.take i ∧ c.2.1.length = c.1.length ∧ c.1.length + c.2.2.length ≤ 6 ∧ (∀ x ∈ c.2.2, 0 ≤ x ∧ x < loops) ∧ (∀ p ∈ c.2.1, PairIn loops far p) ∧ ∀ w ∈ c.1, wayS w.b) (fun c => 6 - c.1.length)
      ⟨Nat.le_of_eq bl.symm, by show b.1.take i = _; rw [j2, List.take_take, Nat.min_self], by show b.2.1.length = b.1.length; omega, by show b.1.length + b.2.2.length ≤ 6; omega, j5, j6, fun w hw => hp w (List.mem_of_mem_take (by rw [← j2]; exact hw))⟩ (by show 6 - b.1.length < 100000; omega) ?_) fun c hc => .ret hc
    intro c ⟨c1, c2, c3, c4, c5, c6, c7⟩
    refine .bind (P := fun t : Bool => (t = true → c.2.2 ≠ [] ∨ (0 < loops ∧ c.1.length < 6)) ∧ (t = false → c.2.2 = [])) ?_ fun t ht => ?_
    · refine Ok.ite (fun h => .ret ⟨fun _ => .inl fun z => (by rw [z] at h; cases h), fun z => by cases z⟩) fun h => ?_
      have he : c.2.2 = [] := by
        cases hc : c.2.2 with
        | nil => rfl
        | cons _ _ => rw [hc] at h; exact absurd rfl h
      refine .bind (P := fun t : Bool => t = true → (0 < loops ∧ c.1.length < 6)) (Ok.dite (fun h => .bind (P := fun t : Bool => t = true → c.1.length < 6) (Ok.dite (fun h => .bind (mixed_ok cell (by omega) (by omega)) fun _ _ => .ret fun _ => by omega) fun _ => .ret fun z => by cases z) fun t ht => .ret fun z => ⟨h, ht z⟩) fun _ => .ret fun z => by cases z) fun t ht => .ret ⟨fun z => .inr (ht z), fun _ => he⟩
    · refine .ret ⟨fun z => ?_, fun z => ?_⟩
      · have hlt : c.1.length < 6 := by
          rcases ht.1 z with h | h
          · have := List.length_pos_iff.mpr h; omega
          · exact h.2
        have hlo : 0 < loops := by
          rcases ht.1 z with h | h
          · cases hc : c.2.2 with
            | nil => exact absurd hc h
            | cons x r => have := c5 x (by rw [hc]; exact List.mem_cons_self); omega
          · exact h.1
        refine .bind (mixed_ok cell (by omega) (by omega)) fun q _ => .bindE rfl (.bindE rfl ?_)
        refine .bind (atI_mem (emod_in (q / 4) (by decide)).1 (emod_in (q / 4) (by decide)).2) fun w ⟨hw, _⟩ => ?_
        have hw : wayS w := by
          unfold wayS
          simp at hw
          rcases hw with h | h | h | h
          · exact .inl h
          · exact .inr (.inl h)
          · exact .inr (.inr h)
          · exact .inl h
        refine .bindE (app_p (by omega)) (.bind (mixed_ok cell (by omega) (by rw [List.length_append]; simp; omega)) fun t25 _ => ?_)
        generalize hs : ((decide ((c.1.length : Int) + (c.2.2.length : Int) < 6)) && (c.2.2.isEmpty || decide (q % 4 = 0))) = sp
        have s1 : sp = true → c.1.length + c.2.2.length < 6 := fun z => by
          rw [z, Bool.and_eq_true] at hs
          have := of_decide_eq_true hs.1; omega
        have s2 : sp = false → c.2.2 ≠ [] := fun z e => by
          rw [z, e] at hs
          have : (decide ((c.1.length : Int) + (([] : List Int).length : Int) < 6)) = true := decide_eq_true (by simp; omega)
          rw [this] at hs; cases hs
        refine .bind (pair_ok (far := far) sp c.2.2 t25 hf (fun _ => hlo) s2 c5 (by omega)) fun r ⟨r1, r2, r3⟩ => .bindE (app_p (by omega)) (.ret ⟨⟨?_, ?_, ?_, ?_, ?_, ?_, ?_⟩, ?_⟩)
        · show i ≤ (c.1 ++ [_]).length
          rw [List.length_append]; omega
        · show (c.1 ++ [_]).take i = _
          rw [List.take_append_of_le_length c1]; exact c2
        · show (c.2.1 ++ [_]).length = (c.1 ++ [_]).length
          rw [List.length_append, List.length_append, c3]; rfl
        · show (c.1 ++ [_]).length + r.2.length ≤ 6
          rw [List.length_append]
          cases hsp : sp with
          | true => rw [r2 hsp]; have := s1 hsp; simp; omega
          | false =>
            have := List.length_pos_iff.mpr (s2 hsp)
            rw [r3 hsp, List.length_tail]; simp; omega
        · show ∀ x ∈ r.2, _
          cases hsp : sp with
          | true => rw [r2 hsp]; exact c5
          | false => rw [r3 hsp]; exact fun x hx => c5 x (List.mem_of_mem_tail hx)
        · intro p hp
          have hp : p ∈ c.2.1 ++ [r.1] := hp
          rcases List.mem_append.mp hp with h | h
          · exact c6 p h
          · rw [List.mem_singleton.mp h]; exact r1
        · intro x hx
          have hx : x ∈ c.1 ++ [_] := hx
          rcases List.mem_append.mp hx with h | h
          · exact c7 x h
          · rw [List.mem_singleton.mp h]; exact hw
        · show 6 - (c.1 ++ [_]).length < 6 - c.1.length
          rw [List.length_append]; simp; omega
      · refine ⟨rfl, by show (0 : Int) ≤ (b.1.length : Int); omega, by show (b.1.length : Int) ≤ _; omega, by show (b.1.length : Int) ≤ (c.1.length : Int); omega, ?_, by show c.1.length ≤ 6; omega, c3, c7, c6⟩
        show c.1.take (b.1.length : Int).toNat = prior.take (b.1.length : Int).toNat
        rw [Int.toNat_natCast, bl]; exact c2
/-- a row of boughs: each one's first ways are those of the one ahead -/
def Ch : List WayT → List BoughT → Prop
  | _, [] => True
  | prior, x :: r => x.b ≤ prior.length ∧ x.c.take x.b.toNat = prior.take x.b.toNat ∧ Ch x.c r
theorem Ch.app : ∀ {prior : List WayT} {bs : List BoughT} {x : BoughT}, Ch prior bs → x.b ≤ ((bs.getLast?.map (·.c)).getD prior).length → x.c.take x.b.toNat = ((bs.getLast?.map (·.c)).getD prior).take x.b.toNat → Ch prior (bs ++ [x])
  | prior, [], x, _, h1, h2 => ⟨h1, h2, trivial⟩
  | prior, [y], x, ⟨a, b, _⟩, h1, h2 => ⟨a, b, h1, h2, trivial⟩
  | prior, y :: z :: r, x, ⟨a, b, c⟩, h1, h2 => ⟨a, b, Ch.app c h1 h2⟩
/-- one bough by itself -/
structure Bg (depths : List Int) (far : Int) (x : BoughT) : Prop where
  b0 : 0 ≤ x.b
  b2 : x.b ≤ x.c.length
  c6 : x.c.length ≤ 6
  dl : x.d.length = x.c.length
  ws : ∀ w ∈ x.c, wayS w.b
  ps : ∃ loops, L2.atI depths x.a = some loops ∧ ∀ p ∈ x.d, PairIn loops far p
theorem atI_lastB {α : Type} (l : List α) (a : α) : L2.atI (l ++ [a]) (-1) = some a := by
  rw [atI_last (by simp)]; simp
theorem mem_pop : ∀ {left : List Int} {i : Nat} {v : Int}, left[i]? = some v → (v :: left.eraseIdx i).Perm left
  | [], _, _, h => by simp at h
  | x :: r, 0, v, h => by
    simp at h; subst h
    exact .refl _
  | x :: r, i + 1, v, h => by
    have := mem_pop (left := r) (i := i) (v := v) (by simpa using h)
    exact (List.Perm.swap ..).trans (this.cons x)
theorem boughs_ok {depths : List Int} (hd : ∀ x ∈ depths, 0 ≤ x ∧ x ≤ 3) (dl : depths.length ≤ 1000) (ns : List Int) {first : Int} (h0 : 0 ≤ first) {far fa : Int} (hf : -far ≤ fa ∧ fa ≤ far) : Ok (m_boughs depths ns first fa) fun bs => bs.length = depths.length ∧ (bs.map (·.a)).Perm (intsF 0 depths.length) ∧ Ch [] bs ∧ ∀ x ∈ bs, Bg depths far x := by
  unfold m_boughs
  refine .bindE (lRg_n (by omega)) (.bindE rfl (.bindE rfl (.bindE rfl ?_)))
  refine .bind (Ok.whileN (fun b : List Int × List BoughT × List WayT => (b.1 ++ b.2.1.map (·.a)).Perm (intsF 0 depths.length) ∧ Ch [] b.2.1 ∧ (∀ x ∈ b.2.1, Bg depths far x) ∧ b.2.2 = ((b.2.1.getLast?.map (·.c)).getD []) ∧ b.2.2.length ≤ 6 ∧ ∀ w ∈ b.2.2, wayS w.b) (fun b => b.1.length)
    ⟨by simp, trivial, fun x hx => (by cases hx), rfl, Nat.zero_le _, fun w hw => (by cases hw)⟩ (by show (intsF 0 depths.length).length < 100000; rw [ints_len]; omega) ?_) fun b hb => .ret hb
  intro b ⟨p1, p2, p3, p4, p5, p6⟩
  have pl := p1.length_eq
  rw [List.length_append, List.length_map, ints_len] at pl
  refine .ret ⟨fun hne => ?_, fun he => ?_⟩
  · have hpos : 0 < b.1.length := by
      cases hb : b.1 with
      | nil => rw [hb] at hne; cases hne
      | cons _ _ => simp
    refine .bind (cell_at_ok ns (by omega)) fun cell _ => .bindE rfl (.bind (mixed_ok cell (by decide) (by decide)) fun t6 _ => .bindE (modG_p (by omega)) ?_)
    have hm := emod_in (t6 / 3) (show (0 : Int) < (b.1.length : Int) by omega)
    generalize t6 / 3 % (b.1.length : Int) = j at hm
    obtain ⟨v, hv⟩ : ∃ v, b.1[j.toNat]? = some v := ⟨_, List.getElem?_eq_getElem (by omega)⟩
    refine .bindE (popG_p hm.1 (by omega) hv) (.bindE rfl ?_)
    have vin : v ∈ intsF 0 depths.length := p1.mem_iff.mp (List.mem_append_left _ (List.mem_of_getElem? hv))
    have vb := intsF_mem vin
    obtain ⟨loops, le, lin, _⟩ := atI_mem (xs := depths) vb.1 (by omega)
    have lb := hd loops lin
    refine .bindE le (.bind (bough_ok v lb.1 lb.2 p6 p5 cell hf) fun x hx => .bindE (app_p (by omega)) ?_)
    have ll : (b.2.1 ++ [x]).getLast? = some x := by simp
    refine .bindE (atI_lastB b.2.1 x) (.bindE rfl (.ret ⟨⟨?_, ?_, ?_, ?_, hx.c6, hx.ws⟩, ?_⟩))
    · show (b.1.eraseIdx j.toNat ++ (b.2.1 ++ [x]).map (·.a)).Perm _
      rw [List.map_append, List.map_cons, List.map_nil, hx.k, ← List.append_assoc]
      refine (List.perm_append_comm.trans ?_).trans p1
      show (v :: (b.1.eraseIdx j.toNat ++ _)).Perm _
      exact (mem_pop hv).append_right _
    · refine Ch.app p2 ?_ ?_
      · rw [← p4]; exact hx.b1
      · rw [← p4]; exact hx.tk
    · intro y hy
      have hy : y ∈ b.2.1 ++ [x] := hy
      rcases List.mem_append.mp hy with h | h
      · exact p3 y h
      · rw [List.mem_singleton.mp h]
        exact ⟨hx.b0, hx.b2, hx.c6, hx.dl, hx.ws, loops, by rw [hx.k]; exact le, hx.ps⟩
    · show x.c = _
      rw [ll]; rfl
    · show (b.1.eraseIdx j.toNat).length < b.1.length
      rw [List.length_eraseIdx]; split <;> omega
  · have he : b.1 = [] := by
      cases hb : b.1 with
      | nil => rfl
      | cons _ _ => rw [hb] at he; cases he
    rw [he, List.nil_append] at p1
    refine ⟨?_, p1, p2, p3⟩
    rw [he] at pl; simpa using pl
/-! the tree of a row of boughs -/
inductive Tree : Nat → List BoughT → List UItem → Prop
  | nil (d : Nat) : Tree d [] []
  | deed {d : Nat} {x : BoughT} {r : List BoughT} {its : List UItem} : x.c.length = d → Tree d r its → Tree d (x :: r) (.v_deed x.a ⟨x.d⟩ :: its)
  | sweep {d : Nat} {x : BoughT} {g r : List BoughT} {w : WayT} {sub its : List UItem} : x.c[d]? = some w → (∀ y ∈ g, (d : Int) < y.b) → (∀ y, r.head? = some y → ¬ (d : Int) < y.b) → Tree (d + 1) (x :: g) sub → Tree d r its → Tree d (x :: (g ++ r)) (.v_sweep w.a w.b sub :: its)
theorem drop_at {α : Type} {l : List α} {k : Nat} {x : α} (h : l[k]? = some x) : l.drop k = x :: l.drop (k + 1) := by
  obtain ⟨hk, rfl⟩ := List.getElem?_eq_some_iff.mp h
  exact List.drop_eq_getElem_cons hk
theorem items_ok : ∀ (n d : Nat) (bs : List BoughT), 7 ≤ n + d → d ≤ 6 → bs.length ≤ 1000 → (∀ x ∈ bs, d ≤ x.c.length ∧ x.c.length ≤ 6 ∧ x.b ≤ x.c.length) → Ok (m_items n bs (d : Int)) fun t => Tree d bs t.l
  | 0, d, bs, h1, h2, _, _ => absurd h1 (by omega)
  | n + 1, d, bs, h1, h2, hl, hb => by
    rw [m_items]
    refine .bindE rfl (.bindE rfl (.bind (Ok.whileN (Q := fun b : List UItem × Int => Tree d bs b.1) (fun b : List UItem × Int => ∃ k : Nat, b.2 = (k : Int) ∧ k ≤ bs.length ∧ b.1.length ≤ k ∧ ∀ its, Tree d (bs.drop k) its → Tree d bs (b.1 ++ its)) (fun b => bs.length - b.2.toNat) ⟨0, rfl, Nat.zero_le _, Nat.le_refl _, fun its h => h⟩ (by show bs.length - 0 < 100000; omega) ?_) fun b hb => .ret hb))
    intro b ⟨k, e, hk, hi, ht⟩
    rw [e]
    refine .ret ⟨fun hlt => ?_, fun hge => ?_⟩
    · have hlt := of_decide_eq_true hlt
      have hk : k < bs.length := by omega
      have hx := List.getElem?_eq_getElem hk
      generalize bs[k] = x at hx
      obtain ⟨x1, x2, x3⟩ := hb x (List.mem_of_getElem? hx)
      have hd := drop_at hx
      refine .bindE rfl (.bindE (atI_at hx) ?_)
      refine .bind (P := fun c : List UItem × Int => ∃ (k' : Nat) (it : UItem), c = (b.1 ++ [it], (k' : Int)) ∧ k < k' ∧ k' ≤ bs.length ∧ ∀ its, Tree d (bs.drop k') its → Tree d (bs.drop k) (it :: its)) ?_ fun c ⟨k', it, hc, g1, g2, g3⟩ => ?_
      · refine Ok.dite (fun hz => ?_) fun hz => ?_
        · refine .bindE (atI_at hx) (.bindE (atI_at hx) (.bindE (app_p (by omega)) (.ret ⟨k + 1, _, rfl, Nat.lt_succ_self _, hk, fun its h => ?_⟩)))
          rw [hd]
          exact .deed (by omega) h
        · have hz : d < x.c.length := by omega
          refine .bind (Ok.whileN (Q := fun u : Int => ∃ k' : Nat, u = (k' : Int) ∧ k < k' ∧ k' ≤ bs.length ∧ (∀ y ∈ (bs.drop (k + 1)).take (k' - (k + 1)), (d : Int) < y.b) ∧ ∀ y, bs[k']? = some y → ¬ (d : Int) < y.b) (fun u : Int => ∃ k' : Nat, u = (k' : Int) ∧ k < k' ∧ k' ≤ bs.length ∧ ∀ y ∈ (bs.drop (k + 1)).take (k' - (k + 1)), (d : Int) < y.b) (fun u => bs.length - u.toNat) ⟨k + 1, rfl, Nat.lt_succ_self _, hk, fun y hy => by rw [Nat.sub_self, List.take_zero] at hy; cases hy⟩ (by show bs.length - ((k : Int) + 1).toNat < 100000; omega) ?_) fun u ⟨k', e', g1, g2, g3, g4⟩ => ?_
          · intro u ⟨k', e', g1, g2, g3⟩
            rw [e']
            refine .bind (P := fun t : Bool => t = true ↔ ∃ y, bs[k']? = some y ∧ (d : Int) < y.b) (Ok.dite (fun h => ?_) fun h => .ret ⟨fun z => (by cases z), fun ⟨y, hy, _⟩ => absurd (List.getElem?_eq_some_iff.mp hy).1 (by omega)⟩) fun t ht => .ret ⟨fun z => ?_, fun z => ?_⟩
            · have hy := List.getElem?_eq_getElem (show k' < bs.length by omega)
              refine .bindE (atI_at hy) (.ret ?_)
              rw [decide_eq_true_iff]
              exact ⟨fun z => ⟨_, hy, z⟩, fun ⟨y, hy', z⟩ => by rw [hy] at hy'; cases hy'; exact z⟩
            · obtain ⟨y, hy, z⟩ := ht.mp z
              have hlt2 := (List.getElem?_eq_some_iff.mp hy).1
              refine .bindE rfl (.ret ⟨⟨k' + 1, rfl, by omega, hlt2, fun w hw => ?_⟩, by show bs.length - ((k' : Int) + 1).toNat < bs.length - (k' : Int).toNat; omega⟩)
              have e3 : k' + 1 - (k + 1) = (k' - (k + 1)) + 1 := by omega
              rw [e3, List.take_succ] at hw
              rcases List.mem_append.mp hw with h | h
              · exact g3 w h
              · rw [List.getElem?_drop, show k + 1 + (k' - (k + 1)) = k' by omega, hy] at h
                have : w = y := by simpa using h
                rw [this]; exact z
            · exact ⟨k', rfl, g1, g2, g3, fun y hy w => by rw [ht.mpr ⟨y, hy, w⟩] at z; cases z⟩
          · subst e'
            have hw := List.getElem?_eq_getElem hz
            generalize x.c[d] = w at hw
            refine .bindE (atI_at hx) (.bindE (atI_at hw) (.bindE rfl ?_))
            have ec : cut bs (some (k : Int)) (some (k' : Int)) = x :: (bs.drop (k + 1)).take (k' - (k + 1)) := by
              rw [cut_mid (by omega) (by omega), Int.toNat_natCast, Int.toNat_natCast, hd, show k' - k = (k' - (k + 1)) + 1 by omega, List.take_succ_cons]
            rw [ec]
            refine .bind (items_ok n (d + 1) _ (by omega) (by omega) (by simp; omega) fun y hy => ?_) fun t ht => .bindE (app_p (by omega)) (.ret ⟨k', _, rfl, g1, g2, fun its h => ?_⟩)
            · rcases List.mem_cons.mp hy with h | h
              · subst h; exact ⟨hz, x2, x3⟩
              · have m := hb y (List.mem_of_mem_drop (List.mem_of_mem_take h))
                have := g3 y h
                omega
            · have es : bs.drop k = x :: ((bs.drop (k + 1)).take (k' - (k + 1)) ++ bs.drop k') := by
                rw [hd]
                congr 1
                have e4 : bs.drop k' = (bs.drop (k + 1)).drop (k' - (k + 1)) := by rw [List.drop_drop]; congr 1; omega
                rw [e4, List.take_append_drop]
              rw [es]
              exact .sweep hw g3 (fun y hy => g4 y (by rw [List.head?_drop] at hy; exact hy)) ht h
      · subst hc
        refine .bindE rfl (.ret ⟨⟨k', rfl, g2, by rw [List.length_append]; simp; omega, fun its h => ?_⟩, by show bs.length - (k' : Int).toNat < bs.length - (k : Int).toNat; omega⟩)
        rw [List.append_assoc]
        exact ht _ (g3 its h)
    · have hge : ¬ (k : Int) < bs.length := of_decide_eq_false hge
      have : k = bs.length := by omega
      subst this
      have := ht [] (by rw [List.drop_length]; exact .nil d)
      rwa [List.append_nil] at this
theorem Ch.right : ∀ {g r : List BoughT} {prior : List WayT}, Ch prior (g ++ r) → ∃ p, Ch p r
  | [], r, prior, h => ⟨prior, h⟩
  | x :: g, r, prior, ⟨_, _, h⟩ => Ch.right (g := g) h
theorem Ch.left : ∀ {g r : List BoughT} {prior : List WayT}, Ch prior (g ++ r) → Ch prior g
  | [], r, prior, h => trivial
  | x :: g, r, prior, ⟨a, b, h⟩ => ⟨a, b, Ch.left h⟩
/-! where the boughs stand in the tree -/
def nextD (d : Nat) (prev : List Int) (y : BoughT) : List Int := prev.take (max y.b.toNat d - d) ++ (prev.getD (max y.b.toNat d - d) 0 + 1) :: List.replicate (y.c.length - max y.b.toNat d) 0
def pathsD (d : Nat) : List Int → List BoughT → List (List Int)
  | _, [] => []
  | prev, y :: r => nextD d prev y :: pathsD d (nextD d prev y) r
theorem pathsD_len (d : Nat) : ∀ (bs : List BoughT) (prev : List Int), (pathsD d prev bs).length = bs.length
  | [], _ => rfl
  | y :: r, prev => by rw [pathsD, List.length_cons, List.length_cons, pathsD_len d r]
theorem nextD_ne (d : Nat) (prev : List Int) (y : BoughT) : nextD d prev y ≠ [] := by
  unfold nextD
  exact fun h => by simp at h
theorem pathsD_ne {d : Nat} : ∀ {bs : List BoughT} {prev P : List Int}, P ∈ pathsD d prev bs → P ≠ []
  | y :: r, prev, P, h => by
    rw [pathsD] at h
    rcases List.mem_cons.mp h with h | h
    · subst h; exact nextD_ne d prev y
    · exact pathsD_ne h
theorem pathsD_head {d : Nat} {r : List BoughT} {prev : List Int} {i : Int} (h : ∀ y, r.head? = some y → y.b.toNat ≤ d) (hp : prev.getD 0 0 = i) : pathsD d prev r = pathsD d [i] r := by
  cases r with
  | nil => rfl
  | cons y r =>
    have hy := h y rfl
    have e : nextD d prev y = nextD d [i] y := by
      unfold nextD
      rw [Nat.max_eq_right hy, Nat.sub_self, hp]; rfl
    rw [pathsD, pathsD, e]
theorem nextD_cons {d : Nat} {i : Int} {P : List Int} {y : BoughT} (h : d < y.b.toNat) : nextD d (i :: P) y = i :: nextD (d + 1) P y := by
  unfold nextD
  rw [Nat.max_eq_left (by omega), Nat.max_eq_left (by omega), show y.b.toNat - d = (y.b.toNat - (d + 1)) + 1 by omega, List.take_succ_cons, List.getD_cons_succ]; rfl
theorem pathsD_cons {d : Nat} {i : Int} : ∀ {g : List BoughT} {P : List Int}, (∀ y ∈ g, d < y.b.toNat) → pathsD d (i :: P) g = (pathsD (d + 1) P g).map (i :: ·)
  | [], P, _ => rfl
  | y :: g, P, h => by
    rw [pathsD, pathsD, nextD_cons (h y List.mem_cons_self), List.map_cons, pathsD_cons fun z hz => h z (List.mem_cons_of_mem _ hz)]
theorem pathsD_app {d : Nat} : ∀ {g r : List BoughT} {prev : List Int}, pathsD d prev (g ++ r) = pathsD d prev g ++ pathsD d ((pathsD d prev g).getLastD prev) r
  | [], r, prev => rfl
  | y :: g, r, prev => by
    rw [List.cons_append, pathsD, pathsD_app (g := g), pathsD, List.cons_append]
    congr 2
    cases h : pathsD d (nextD d prev y) g with
    | nil => rfl
    | cons p q => simp only [List.getLastD_cons]
theorem pathsD_deed {d : Nat} {i : Int} {x : BoughT} {r : List BoughT} (hx : x.c.length = d) (h1 : x.b.toNat ≤ d) (h : ∀ y, r.head? = some y → y.b.toNat ≤ d) : pathsD d [i - 1] (x :: r) = [i] :: pathsD d [i + 1 - 1] r := by
  have e : nextD d [i - 1] x = [i] := by
    unfold nextD
    rw [Nat.max_eq_right h1, Nat.sub_self, hx, Nat.sub_self]
    show [i - 1 + 1] = [i]
    rw [Int.sub_add_cancel]
  rw [pathsD, e, show i + 1 - 1 = i by omega]
theorem pathsD_sweep {d : Nat} {i : Int} {x : BoughT} {g r : List BoughT} (hx : d < x.c.length) (h1 : x.b.toNat ≤ d) (hg : ∀ y ∈ g, d < y.b.toNat) (h : ∀ y, r.head? = some y → y.b.toNat ≤ d) :
    pathsD d [i - 1] (x :: (g ++ r)) = (pathsD (d + 1) [0 - 1] (x :: g)).map (i :: ·) ++ pathsD d [i + 1 - 1] r := by
  have e : nextD d [i - 1] x = i :: nextD (d + 1) [0 - 1] x := by
    unfold nextD
    rw [Nat.max_eq_right h1, Nat.sub_self, Nat.max_eq_right (by omega), Nat.sub_self, show x.c.length - d = (x.c.length - (d + 1)) + 1 by omega, List.replicate_succ]
    show [] ++ (i - 1 + 1) :: 0 :: _ = i :: ([] ++ (0 - 1 + 1) :: _)
    rw [Int.sub_add_cancel]; rfl
  rw [pathsD, e, pathsD_app, pathsD_cons hg, show i + 1 - 1 = i by omega, pathsD, List.map_cons, List.cons_append]
  congr 2
  refine pathsD_head h ?_
  cases hp : pathsD (d + 1) (nextD (d + 1) [0 - 1] x) g with
  | nil => rfl
  | cons p q =>
    rw [List.map_cons, List.getLastD_cons]
    have : ∀ (q : List (List Int)) (p : List Int), ((q.map (i :: ·)).getLastD (i :: p)).getD 0 0 = i := by
      intro q
      induction q with
      | nil => intro p; rfl
      | cons a q ih => intro p; rw [List.map_cons, List.getLastD_cons]; exact ih a
    exact this q p
def sstep (n_ : Nat) (x_k : Int) (x_path : Tp Int) : Unit → T2 Int UItem → Option (Lp Unit (Option (T2 (Tp Int) (Tp (T2 Int Int))))) := fun (b1 : Unit) (i2 : (T2 Int UItem)) => (catT x_path (Tp.mk ([i2.a] : List Int))).bind fun t7 => (some t7).bind fun x_here => if (decide (i2.b.tag = ("sweep" : Str))) = true then (i2.b.asv_sweep).bind fun t8 => (m_stand_within n_ t8.d x_k x_here).bind fun t9 => (some t9).bind fun x_found => match x_found with | none => some (Lp.nx ()) | some x_found => some (Lp.rt (some x_found)) else (i2.b.asv_deed).bind fun t10 => if (decide (t10.b = x_k)) = true then (i2.b.asv_deed).bind fun t11 => some (Lp.rt (some (T2.mk x_here t11.c))) else some (Lp.nx ())
theorem stand_step (n : Nat) (its : Tp UItem) (k : Int) (p : Tp Int) : m_stand_within (n + 1) its k p = (loopM (ρ := (Option (T2 (Tp Int) (Tp (T2 Int Int))))) (sstep n k p) () (enumL its.l)).bind fun o3 => o3.thn (fun (b12 : Unit) => some (none : (Option (T2 (Tp Int) (Tp (T2 Int Int)))))) (fun (r_ : (Option (T2 (Tp Int) (Tp (T2 Int Int))))) => some r_) := rfl
/-- the shares as they stand in a segment of the tree -/
structure SegOk (d : Nat) (bs : List BoughT) : Prop where
  h : ∀ y, bs.head? = some y → y.b.toNat ≤ d
  t : ∀ y ∈ bs.tail, d ≤ y.b.toNat
  c : ∃ p, Ch p bs
  b0 : ∀ y ∈ bs, 0 ≤ y.b
theorem SegOk.deed {d : Nat} {x : BoughT} {r : List BoughT} (hx : x.c.length = d) (s : SegOk d (x :: r)) : SegOk d r := by
  obtain ⟨p, c1, c2, c3⟩ := s.c
  refine ⟨fun y hy => ?_, fun y hy => s.t y (List.mem_of_mem_tail hy), ⟨_, c3⟩, fun y hy => s.b0 y (List.mem_cons_of_mem _ hy)⟩
  cases r with
  | nil => cases hy
  | cons z r =>
    obtain rfl : z = y := Option.some.inj hy
    have := c3.1
    omega
theorem SegOk.sub {d : Nat} {x : BoughT} {g r : List BoughT} (hg : ∀ y ∈ g, (d : Int) < y.b) (s : SegOk d (x :: (g ++ r))) : SegOk (d + 1) (x :: g) := by
  obtain ⟨p, c1, c2, c3⟩ := s.c
  refine ⟨fun y hy => ?_, fun y hy => ?_, ⟨p, c1, c2, Ch.left c3⟩, fun y hy => s.b0 y ?_⟩
  · have := s.h y hy; omega
  · have := hg y hy; omega
  · rcases List.mem_cons.mp hy with h | h
    · subst h; exact List.mem_cons_self
    · exact List.mem_cons_of_mem _ (List.mem_append_left _ h)
theorem SegOk.rest {d : Nat} {x : BoughT} {g r : List BoughT} (hr : ∀ y, r.head? = some y → ¬ (d : Int) < y.b) (s : SegOk d (x :: (g ++ r))) : SegOk d r := by
  obtain ⟨p, c1, c2, c3⟩ := s.c
  exact ⟨fun y hy => by have := hr y hy; omega, fun y hy => s.t y (List.mem_append_right _ (List.mem_of_mem_tail hy)), Ch.right c3, fun y hy => s.b0 y (List.mem_cons_of_mem _ (List.mem_append_right _ hy))⟩
theorem stand_loop {d : Nat} {bs : List BoughT} {its : List UItem} (t : Tree d bs its) : ∀ (m : Nat) (i k : Int) (base : Tp Int), 6 ≤ m + d → d ≤ 6 → (∀ x ∈ bs, x.c.length ≤ 6) → SegOk d bs → (bs.map (·.a)).Nodup → base.l.length = d →
    (k ∉ bs.map (·.a) → loopM (sstep m k base) () (enumF i its) = some (.nx ())) ∧ ∀ (p : Nat) (y : BoughT) (P : List Int), bs[p]? = some y → (pathsD d [i - 1] bs)[p]? = some P → y.a = k → loopM (sstep m k base) () (enumF i its) = some (.rt (some ⟨⟨base.l ++ P⟩, ⟨y.d⟩⟩)) := by
  induction t with
  | nil d => intro m i k base _ _ _ _ _ _; exact ⟨fun _ => rfl, fun p y P h => by simp at h⟩
  | @deed d x r its hx ht ih =>
    intro m i k base h1 h2 h6 s nd hb
    have s' := s.deed hx
    have nd' := List.nodup_cons.mp (show (x.a :: r.map (·.a)).Nodup from nd)
    obtain ⟨i1, i2⟩ := ih m (i + 1) k base h1 h2 (fun y hy => h6 y (List.mem_cons_of_mem _ hy)) s' nd'.2 hb
    have ep := pathsD_deed (i := i) hx (s.h x rfl) s'.h
    have st : sstep m k base () ⟨i, .v_deed x.a ⟨x.d⟩⟩ = some (if x.a = k then .rt (some ⟨⟨base.l ++ [i]⟩, ⟨x.d⟩⟩) else .nx ()) := by
      refine Ok.eq ?_
      unfold sstep
      refine .bindE (catT_p (by simp; omega)) (.bindE rfl (Ok.dite (fun z => absurd (show ("deed" : Str) = ("sweep" : Str) from z) (by decide)) fun _ => .bindE rfl (Ok.dite (fun z => ?_) fun z => ?_)))
      · have z : x.a = k := z
        rw [if_pos z]; exact .bindE rfl (.ret rfl)
      · have z : ¬ x.a = k := z
        rw [if_neg z]; exact .ret rfl
    refine ⟨fun hk => ?_, fun p y P hy hP ha => ?_⟩
    · have hxk : ¬ x.a = k := fun z => hk (z ▸ List.mem_cons_self)
      rw [if_neg hxk] at st
      show loopM _ _ (⟨i, _⟩ :: enumF (i + 1) its) = _
      rw [loopM_nx st]
      exact i1 fun z => hk (List.mem_cons_of_mem _ z)
    · rw [ep] at hP
      show loopM _ _ (⟨i, _⟩ :: enumF (i + 1) its) = _
      cases p with
      | zero =>
        simp at hy hP
        subst hy; subst hP
        rw [if_pos ha] at st
        rw [loopM_rt st]
      | succ p =>
        have hy : r[p]? = some y := by simpa using hy
        have hxk : ¬ x.a = k := fun z => nd'.1 (by rw [z, ← ha]; exact List.mem_map_of_mem (List.mem_of_getElem? hy))
        rw [if_neg hxk] at st
        rw [loopM_nx st]
        exact i2 p y P hy (by simpa using hP) ha
  | @sweep d x g r w sub its hw hg hr ht1 ht2 ih1 ih2 =>
    intro m i k base h1 h2 h6 s nd hb
    have hd := (List.getElem?_eq_some_iff.mp hw).1
    have hx6 := h6 x List.mem_cons_self
    have s1 := s.sub hg
    have s2 := s.rest hr
    have e1 : x :: (g ++ r) = (x :: g) ++ r := rfl
    rw [e1, List.map_append] at nd
    obtain ⟨n1, n2, n3⟩ := List.nodup_append.mp nd
    obtain ⟨m, rfl⟩ : ∃ m', m = m' + 1 := ⟨m - 1, by omega⟩
    have ep := pathsD_sweep (i := i) hd (s.h x rfl) (fun y hy => by have := hg y hy; omega) s2.h
    obtain ⟨j1, j2⟩ := ih1 m 0 k ⟨base.l ++ [i]⟩ (by omega) (by omega) (fun y hy => h6 y (by
      rcases List.mem_cons.mp hy with h | h
      · subst h; exact List.mem_cons_self
      · exact List.mem_cons_of_mem _ (List.mem_append_left _ h))) s1 n1 (by rw [List.length_append, hb]; rfl)
    obtain ⟨i1, i2⟩ := ih2 (m + 1) (i + 1) k base h1 h2 (fun y hy => h6 y (List.mem_cons_of_mem _ (List.mem_append_right _ hy))) s2 n2 hb
    have st : ∀ o, m_stand_within (m + 1) ⟨sub⟩ k ⟨base.l ++ [i]⟩ = some o → sstep (m + 1) k base () ⟨i, .v_sweep w.a w.b sub⟩ = some (match o with | none => .nx () | some z => .rt (some z)) := by
      intro o ho
      refine Ok.eq ?_
      unfold sstep
      refine .bindE (catT_p (by simp; omega)) (.bindE rfl (Ok.dite (fun _ => .bindE rfl (.bindE ho (.bindE rfl ?_))) fun z => absurd rfl z))
      cases o <;> exact .ret rfl
    refine ⟨fun hk => ?_, fun p y P hy hP ha => ?_⟩
    · rw [e1, List.map_append, List.mem_append] at hk
      have ho : m_stand_within (m + 1) ⟨sub⟩ k ⟨base.l ++ [i]⟩ = some none := by
        rw [stand_step]
        show (loopM _ _ (enumF 0 sub)).bind _ = _
        rw [j1 fun z => hk (.inl z)]; rfl
      show loopM _ _ (⟨i, _⟩ :: enumF (i + 1) its) = _
      rw [loopM_nx (st none ho)]
      exact i1 fun z => hk (.inr z)
    · rw [ep] at hP
      rw [e1] at hy
      show loopM _ _ (⟨i, _⟩ :: enumF (i + 1) its) = _
      rcases Nat.lt_or_ge p (x :: g).length with hp | hp
      · rw [List.getElem?_append_left hp] at hy
        rw [List.getElem?_append_left (by rw [List.length_map, pathsD_len]; exact hp), List.getElem?_map] at hP
        obtain ⟨R, hR, rfl⟩ := Option.map_eq_some_iff.mp hP
        have ho : m_stand_within (m + 1) ⟨sub⟩ k ⟨base.l ++ [i]⟩ = some (some ⟨⟨base.l ++ (i :: R)⟩, ⟨y.d⟩⟩) := by
          rw [stand_step]
          show (loopM _ _ (enumF 0 sub)).bind _ = _
          rw [j2 p y R hy hR ha, List.append_assoc]; rfl
        rw [loopM_rt (st _ ho)]
      · rw [List.getElem?_append_right hp] at hy
        rw [List.getElem?_append_right (by rw [List.length_map, pathsD_len]; exact hp), List.length_map, pathsD_len] at hP
        have ho : m_stand_within (m + 1) ⟨sub⟩ k ⟨base.l ++ [i]⟩ = some none := by
          rw [stand_step]
          show (loopM _ _ (enumF 0 sub)).bind _ = _
          rw [j1 fun z => n3 _ z _ (List.mem_map_of_mem (List.mem_of_getElem? hy)) ha.symm]; rfl
        rw [loopM_nx (st none ho)]
        exact i2 _ y P hy hP ha
/-- the ways round a bough, by its path -/
theorem round_loop {st : List WayT × Tp UItem → Int → Option (List WayT × Tp UItem)} (hst : ∀ (acc : List WayT) (L : Tp UItem) (i : Int) (b : Bool) (c : Str) (sub : List UItem), acc.length ≤ 1000 → L2.atI L.l i = some (.v_sweep b c sub) → st (acc, L) i = some (acc ++ [⟨b, c⟩], ⟨sub⟩))
    {d : Nat} {bs : List BoughT} {its : List UItem} (t : Tree d bs its) : ∀ (i : Nat) (L : List UItem) (acc : List WayT), acc.length + 6 ≤ d + 100 → L.drop i = its → SegOk d bs → (∀ x ∈ bs, d ≤ x.c.length ∧ x.c.length ≤ 6) → d ≤ 6 →
    ∀ (p : Nat) (y : BoughT) (P : List Int), bs[p]? = some y → (pathsD d [(i : Int) - 1] bs)[p]? = some P → ∃ L', loopN st (acc, ⟨L⟩) P.dropLast = some (acc ++ y.c.drop d, L') := by
  induction t with
  | nil d => intro i L acc _ _ _ _ _ p y P h; simp at h
  | @deed d x r its hx ht ih =>
    intro i L acc ha hL s h6 d6 p y P hy hP
    have s' := s.deed hx
    rw [pathsD_deed (i := i) hx (s.h x rfl) s'.h] at hP
    cases p with
    | zero =>
      simp at hy hP
      subst hy; subst hP
      refine ⟨⟨L⟩, ?_⟩
      rw [← hx, List.drop_length, List.append_nil]; rfl
    | succ p =>
      have hL2 : L.drop (i + 1) = its := by
        have := congrArg List.tail hL
        rw [List.tail_drop] at this; exact this
      exact ih (i + 1) L acc ha hL2 s' (fun y hy => h6 y (List.mem_cons_of_mem _ hy)) d6 p y P (by simpa using hy) (by simpa using hP)
  | @sweep d x g r w sub its hw hg hr ht1 ht2 ih1 ih2 =>
    intro i L acc ha hL s h6 d6 p y P hy hP
    have hd := (List.getElem?_eq_some_iff.mp hw).1
    have hx6 := (h6 x List.mem_cons_self).2
    have s1 := s.sub hg
    have s2 := s.rest hr
    have e1 : x :: (g ++ r) = (x :: g) ++ r := rfl
    rw [pathsD_sweep (i := i) hd (s.h x rfl) (fun y hy => by have := hg y hy; omega) s2.h] at hP
    rw [e1] at hy
    have hL0 : L[i]? = some (.v_sweep w.a w.b sub) := by
      have := congrArg (fun l : List UItem => l[0]?) hL
      simp only [List.getElem?_drop, List.getElem?_cons_zero, Nat.add_zero] at this
      exact this
    rcases Nat.lt_or_ge p (x :: g).length with hp | hp
    · rw [List.getElem?_append_left hp] at hy
      rw [List.getElem?_append_left (by rw [List.length_map, pathsD_len]; exact hp), List.getElem?_map] at hP
      obtain ⟨R, hR, rfl⟩ := Option.map_eq_some_iff.mp hP
      have hRne := pathsD_ne (List.mem_of_getElem? hR)
      have hyc : y.c[d]? = some w := by
        obtain ⟨q, c1, c2, c3⟩ := s1.c
        have : ∀ (l : List BoughT) (prior : List WayT) (p : Nat), Ch prior l → prior[d]? = some w → (∀ z ∈ l, (d : Int) < z.b) → l[p]? = some y → y.c[d]? = some w := by
          intro l
          induction l with
          | nil => intro _ _ _ _ _ h; simp at h
          | cons z l ih =>
            intro prior p hc hpw hz hp
            have hz0 := hz z List.mem_cons_self
            have hzd : z.c[d]? = some w := by
              have e := congrArg (fun l : List WayT => l[d]?) hc.2.1
              simp only [List.getElem?_take] at e
              rw [if_pos (by omega), if_pos (by omega)] at e
              rw [e]; exact hpw
            cases p with
            | zero => simp at hp; subst hp; exact hzd
            | succ p => exact ih z.c p hc.2.2 hzd (fun u hu => hz u (List.mem_cons_of_mem _ hu)) (by simpa using hp)
        cases p with
        | zero => simp at hy; subst hy; exact hw
        | succ p => exact this g x.c p c3 hw hg (by simpa using hy)
      obtain ⟨L', hl⟩ := ih1 0 sub (acc ++ [⟨w.a, w.b⟩]) (by rw [List.length_append]; simp; omega) rfl s1 (fun z hz => by
        rcases List.mem_cons.mp hz with h | h
        · subst h; exact ⟨hd, hx6⟩
        · have := hg z h
          have a := h6 z (List.mem_cons_of_mem _ (List.mem_append_left _ h))
          have b0 := s.b0 z (List.mem_cons_of_mem _ (List.mem_append_left _ h))
          refine ⟨?_, a.2⟩
          obtain ⟨j, hj⟩ := List.mem_iff_getElem?.mp h
          obtain ⟨q, c1, c2, c3⟩ := s1.c
          have hzd : z.c[d]? = some w := by
            have : ∀ (l : List BoughT) (prior : List WayT) (p : Nat), Ch prior l → prior[d]? = some w → (∀ u ∈ l, (d : Int) < u.b) → l[p]? = some z → z.c[d]? = some w := by
              intro l
              induction l with
              | nil => intro _ _ _ _ _ h; simp at h
              | cons u l ih =>
                intro prior p hc hpw hz hp
                have hz0 := hz u List.mem_cons_self
                have hzd : u.c[d]? = some w := by
                  have e := congrArg (fun l : List WayT => l[d]?) hc.2.1
                  simp only [List.getElem?_take] at e
                  rw [if_pos (by omega), if_pos (by omega)] at e
                  rw [e]; exact hpw
                cases p with
                | zero => simp at hp; subst hp; exact hzd
                | succ p => exact ih u.c p hc.2.2 hzd (fun v hv => hz v (List.mem_cons_of_mem _ hv)) (by simpa using hp)
            exact this g x.c j c3 hw hg hj
          exact (List.getElem?_eq_some_iff.mp hzd).1) (by omega) p y R hy hR
      refine ⟨L', ?_⟩
      have e2 : (i : Int) :: R.dropLast = ((i : Int) :: R).dropLast := by cases R with
        | nil => exact absurd rfl hRne
        | cons _ _ => rfl
      have e3 : y.c.drop d = w :: y.c.drop (d + 1) := drop_at hyc
      rw [← e2, loopN_cons (hst acc ⟨L⟩ i w.a w.b sub (by omega) (atI_at hL0)), hl, e3, List.append_assoc]; rfl
    · rw [List.getElem?_append_right hp] at hy
      rw [List.getElem?_append_right (by rw [List.length_map, pathsD_len]; exact hp), List.length_map, pathsD_len] at hP
      have hL2 : L.drop (i + 1) = its := by
        have := congrArg List.tail hL
        rw [List.tail_drop] at this; exact this
      exact ih2 (i + 1) L acc ha hL2 s2 (fun y hy => h6 y (List.mem_cons_of_mem _ (List.mem_append_right _ hy))) d6 _ y P hy hP
/-! how two paths part -/
structure Part (m : Nat) (P Q : List Int) : Prop where
  tk : P.take m = Q.take m
  p : ∃ a b, P[m]? = some a ∧ Q[m]? = some b ∧ a < b
theorem next_len {prev : List Int} {y : BoughT} (h0 : 0 ≤ y.b) (h : y.b.toNat < prev.length) (hc : y.b ≤ y.c.length) : (nextD 0 prev y).length = y.c.length + 1 := by
  unfold nextD
  rw [List.length_append, List.length_cons, List.length_replicate, List.length_take, Nat.max_eq_left (Nat.zero_le _), Nat.sub_zero]
  omega
theorem next_part {prev : List Int} {y : BoughT} (h : y.b.toNat < prev.length) : Part y.b.toNat prev (nextD 0 prev y) := by
  unfold nextD
  rw [Nat.max_eq_left (Nat.zero_le _), Nat.sub_zero]
  have hl : (prev.take y.b.toNat).length = y.b.toNat := by rw [List.length_take]; omega
  refine ⟨?_, prev[y.b.toNat], prev.getD y.b.toNat 0 + 1, List.getElem?_eq_getElem h, ?_, ?_⟩
  · rw [List.take_append_of_le_length (by omega), List.take_take, Nat.min_self]
  · rw [List.getElem?_append_right (by omega), hl, Nat.sub_self]; rfl
  · rw [List.getD_eq_getElem?_getD, List.getElem?_eq_getElem h]
    show prev[y.b.toNat] < prev[y.b.toNat] + 1
    omega
theorem Part.next {m : Nat} {P Q R : List Int} {s : Nat} (h1 : Part m P Q) (h2 : Part s Q R) : Part (min m s) P R := by
  obtain ⟨t1, a, b, p1, p2, p3⟩ := h1
  obtain ⟨t2, c, d, q1, q2, q3⟩ := h2
  have at1 : ∀ j, j < m → P[j]? = Q[j]? := fun j hj => by
    have := congrArg (fun l : List Int => l[j]?) t1
    simpa [List.getElem?_take, hj] using this
  have at2 : ∀ j, j < s → Q[j]? = R[j]? := fun j hj => by
    have := congrArg (fun l : List Int => l[j]?) t2
    simpa [List.getElem?_take, hj] using this
  refine ⟨List.ext_getElem? fun j => ?_, ?_⟩
  · rw [List.getElem?_take, List.getElem?_take]
    split
    · rw [at1 j (by omega), at2 j (by omega)]
    · rfl
  · rcases Nat.lt_trichotomy m s with h | h | h
    · rw [Nat.min_eq_left (by omega)]
      exact ⟨a, b, p1, (at2 m h) ▸ p2, p3⟩
    · subst h
      rw [Nat.min_self]
      rw [p2] at q1; cases q1
      exact ⟨a, d, p1, q2, by omega⟩
    · rw [Nat.min_eq_right (by omega)]
      exact ⟨c, d, (at1 s h).trans q1, q2, q3⟩
theorem Part.lex {m : Nat} {P Q : List Int} (h : Part m P Q) : HT.lexLt P Q = true ∧ HT.lexLt Q P = false := by
  obtain ⟨t, a, b, p1, p2, p3⟩ := h
  induction m generalizing P Q with
  | zero =>
    cases P with
    | nil => simp at p1
    | cons x P => cases Q with
      | nil => simp at p2
      | cons y Q =>
        simp at p1 p2
        subst p1; subst p2
        refine ⟨?_, ?_⟩
        · rw [HT.lexLt_cons, if_neg (by omega)]; exact decide_eq_true p3
        · rw [HT.lexLt_cons, if_neg (by omega)]; exact decide_eq_false (by omega)
  | succ m ih =>
    cases P with
    | nil => simp at p1
    | cons x P => cases Q with
      | nil => simp at p2
      | cons y Q =>
        rw [List.take_succ_cons, List.take_succ_cons] at t
        have t2 := (List.cons.inj t).2
        have e := (List.cons.inj t).1
        subst e
        rw [HT.lexLt_cons, HT.lexLt_cons, if_pos rfl, if_pos rfl]
        exact ih t2 (by simpa using p1) (by simpa using p2)
theorem lex_self : ∀ P : List Int, HT.lexLt P P = false
  | [] => rfl
  | x :: P => by rw [HT.lexLt_cons, if_pos rfl]; exact lex_self P
/-- the path of each bough, and how two of them part -/
theorem paths_part : ∀ (bs : List BoughT) (prior : List WayT) (prev : List Int), prev.length = prior.length + 1 → Ch prior bs → (∀ y ∈ bs, 0 ≤ y.b ∧ y.b ≤ y.c.length) →
    (∀ (p : Nat) (y : BoughT) (P : List Int), bs[p]? = some y → (pathsD 0 prev bs)[p]? = some P → P.length = y.c.length + 1 ∧ ∃ m : Nat, ((bs.take (p + 1)).map (·.b)).min? = some (m : Int) ∧ Part m prev P) ∧
    ∀ (p q : Nat) (P Q : List Int), p < q → (pathsD 0 prev bs)[p]? = some P → (pathsD 0 prev bs)[q]? = some Q → ∃ m : Nat, (((bs.drop (p + 1)).take (q - p)).map (·.b)).min? = some (m : Int) ∧ Part m P Q
  | [], prior, prev, _, _, _ => ⟨fun p y P h => by simp at h, fun p q P Q _ h => by simp [pathsD] at h⟩
  | y :: r, prior, prev, hl, ⟨c1, c2, c3⟩, hb => by
    obtain ⟨b0, b1⟩ := hb y List.mem_cons_self
    have hlt : y.b.toNat < prev.length := by omega
    have nl := next_len b0 hlt b1
    have np := next_part hlt
    have yb : ((y.b.toNat : Nat) : Int) = y.b := Int.toNat_of_nonneg b0
    obtain ⟨i1, i2⟩ := paths_part r y.c (nextD 0 prev y) nl c3 fun z hz => hb z (List.mem_cons_of_mem _ hz)
    refine ⟨fun p z P hz hP => ?_, fun p q P Q hpq hP hQ => ?_⟩
    · rw [pathsD] at hP
      cases p with
      | zero =>
        simp at hz hP
        subst hz; subst hP
        exact ⟨nl, y.b.toNat, by rw [yb]; rfl, np⟩
      | succ p =>
        obtain ⟨k1, m, k2, k3⟩ := i1 p z P (by simpa using hz) (by simpa using hP)
        refine ⟨k1, min y.b.toNat m, ?_, np.next k3⟩
        rw [List.take_succ_cons, List.map_cons, List.min?_cons, k2]
        show some (min y.b (m : Int)) = _
        congr 1
        omega
    · rw [pathsD] at hP hQ
      cases q with
      | zero => omega
      | succ q =>
        cases p with
        | zero =>
          simp at hP hQ
          subst hP
          have hq := (List.getElem?_eq_some_iff.mp hQ).1
          rw [pathsD_len] at hq
          obtain ⟨_, m, k2, k3⟩ := i1 q _ Q (List.getElem?_eq_getElem hq) hQ
          exact ⟨m, k2, k3⟩
        | succ p =>
          obtain ⟨m, k2, k3⟩ := i2 p q P Q (by omega) (by simpa using hP) (by simpa using hQ)
          refine ⟨m, ?_, k3⟩
          rw [List.drop_succ_cons, Nat.add_sub_add_right]; exact k2
def sd (c : List WayT) (e : Nat) : List (T2 Int Str) := (if (c.getD e ⟨true, ""⟩).b ≠ ("up" : Str) then [⟨(e : Int), "less"⟩] else []) ++ (if (c.getD e ⟨true, ""⟩).b ≠ ("down" : Str) then [⟨(e : Int), "more"⟩] else [])
def sdL (c : List WayT) (m : Nat) (t : Bool) : List (T2 Int Str) := (List.range m).flatMap (sd c) ++ (if t = true then [⟨(m : Int), "text"⟩] else [])
theorem sd_len (c : List WayT) : ∀ m : Nat, ((List.range m).flatMap (sd c)).length ≤ 2 * m
  | 0 => Nat.le_refl _
  | m + 1 => by
    have h1 := sd_len c m
    have h2 : (sd c m).length ≤ 2 := by unfold sd; rw [List.length_append]; split <;> split <;> simp
    rw [List.range_succ, List.flatMap_append, List.length_append, List.flatMap_cons, List.flatMap_nil, List.append_nil]
    omega
theorem step_sd {c : List WayT} {e : Nat} {w : WayT} (hw : c[e]? = some w) {b : List (T2 Int Str)} (hb : b.length ≤ 1000) : ((if (!decide (w.b = ("up" : Str))) = true then (app b (T2.mk (e : Int) ("less" : Str))).bind fun t15 => some t15 else some b).bind fun (b13 : (List (T2 Int Str))) => if (!decide (w.b = ("down" : Str))) = true then (app b13 (T2.mk (e : Int) ("more" : Str))).bind fun t17 => some t17 else some b13) = some (b ++ sd c e) := by
  have hg : c.getD e ⟨true, ""⟩ = w := by rw [List.getD_eq_getElem?_getD, hw]; rfl
  unfold sd
  rw [hg]
  by_cases h1 : w.b = ("up" : Str)
  · rw [if_neg (by rw [decide_eq_true h1]; decide), if_neg (fun z => z h1)]
    simp only [Option.bind_some]
    by_cases h2 : w.b = ("down" : Str)
    · rw [if_neg (by rw [decide_eq_true h2]; decide), if_neg (fun z => z h2)]; simp
    · rw [if_pos (by rw [decide_eq_false h2]; rfl), if_pos h2, app_p (by omega)]; rfl
  · rw [if_pos (by rw [decide_eq_false h1]; rfl), if_pos h1, app_p (by omega)]
    simp only [Option.bind_some]
    by_cases h2 : w.b = ("down" : Str)
    · rw [if_neg (by rw [decide_eq_true h2]; decide), if_neg (fun z => z h2)]; simp
    · rw [if_pos (by rw [decide_eq_false h2]; rfl), if_pos h2, app_p (by rw [List.length_append]; simp; omega)]; simp
theorem text_sd {b : List (T2 Int Str)} (hb : b.length ≤ 1000) (m : Int) (t : Bool) : (if t = true then (app b (T2.mk m ("text" : Str))).bind fun t21 => some t21 else some b) = some (b ++ (if t = true then [⟨m, "text"⟩] else [])) := by
  cases t with
  | true => rw [if_pos rfl, if_pos rfl, app_p (by omega)]; rfl
  | false => rw [if_neg Bool.false_ne_true, if_neg Bool.false_ne_true, List.append_nil]
/-- what is known of the boughs and their tree -/
structure Pl (n : Nat) (bs : List BoughT) (plan : Tp UItem) : Prop where
  len : bs.length = n
  le : n ≤ 6
  perm : (bs.map (·.a)).Perm (intsF 0 n)
  ch : Ch [] bs
  ok : ∀ x ∈ bs, 0 ≤ x.b ∧ x.b ≤ x.c.length ∧ x.c.length ≤ 6
  tree : Tree 0 bs plan.l
theorem Pl.seg {n : Nat} {bs : List BoughT} {plan : Tp UItem} (h : Pl n bs plan) : SegOk 0 bs := ⟨fun y hy => by
    cases bs with
    | nil => cases hy
    | cons z r =>
      obtain rfl : z = y := Option.some.inj hy
      have := h.ch.1
      have e : (([] : List WayT).length : Int) = 0 := rfl
      omega, fun y _ => Nat.zero_le _, ⟨_, h.ch⟩, fun y hy => (h.ok y hy).1⟩
theorem Pl.find {n : Nat} {bs : List BoughT} {plan : Tp UItem} (h : Pl n bs plan) {k : Int} (h0 : 0 ≤ k) (h1 : k < n) : ∃ (p : Nat) (x : BoughT) (P : List Int), bs[p]? = some x ∧ (pathsD 0 [-1] bs)[p]? = some P ∧ x.a = k ∧ m_at bs k = some (p : Int) ∧ m_stand plan k = some (some ⟨⟨P⟩, ⟨x.d⟩⟩) ∧ m_sweeps_round plan ⟨P⟩ = some x.c ∧ P.length = x.c.length + 1 := by
  have hk : k ∈ bs.map (·.a) := h.perm.mem_iff.mpr (by
    unfold intsF
    refine List.mem_map.mpr ⟨k.toNat, List.mem_range.mpr (by omega), ?_⟩
    show (0 : Int) + (k.toNat : Int) = k
    omega)
  obtain ⟨e1, _⟩ := idx_at hk
  rw [List.getElem?_map] at e1
  obtain ⟨x, hx, ha⟩ := Option.map_eq_some_iff.mp e1
  have hp := (List.getElem?_eq_some_iff.mp hx).1
  obtain ⟨P, hP⟩ : ∃ P, (pathsD 0 [-1] bs)[(bs.map (·.a)).idxOf k]? = some P := ⟨_, List.getElem?_eq_getElem (show (bs.map (·.a)).idxOf k < (pathsD 0 [-1] bs).length by rw [pathsD_len]; exact hp)⟩
  have nd : (bs.map (·.a)).Nodup := h.perm.nodup_iff.mpr (ints_nodup _ _)
  refine ⟨_, x, _, hx, hP, ha, ?_, ?_, ?_, ?_⟩
  · unfold m_at
    have c1 : compG (fun (x_bough_here : BoughT) => some (some x_bough_here.a)) bs = some (bs.map (·.a)) := compG_map (by have := h.len; have := h.le; rw [szl]; omega) fun _ _ => rfl
    have c2 : idxG (bs.map (·.a)) k = some (((bs.map (·.a)).idxOf k : Nat) : Int) := if_pos ⟨by rw [okD_F, okD_F]; rfl, hk⟩
    rw [c1]
    show (idxG _ k).bind _ = _
    rw [c2]; rfl
  · unfold m_stand
    rw [stand_step]
    show ((loopM _ _ (enumF 0 plan.l)).bind _).bind _ = _
    rw [(stand_loop h.tree 9 0 k ⟨[]⟩ (by decide) (by decide) (fun y hy => (h.ok y hy).2.2) h.seg nd rfl).2 _ x _ hx hP ha]; rfl
  · obtain ⟨L', hl⟩ := round_loop (st := fun (b1 : ((List (T2 Bool Str)) × (Tp UItem))) (x_number : Int) => (L2.atI b1.2.l x_number).bind fun t5 => (some t5).bind fun x_item => (x_item.asv_sweep).bind fun t6 => (x_item.asv_sweep).bind fun t7 => (app b1.1 (T2.mk t6.b t7.c)).bind fun t8 => (x_item.asv_sweep).bind fun t9 => (some t9.d).bind fun x_items => some (t8, x_items))
      (fun acc L i b c sub hl hi => Ok.eq (.bindE hi (.bindE rfl (.bindE rfl (.bindE rfl (.bindE (app_p (by show acc.length < _; omega)) (.bindE rfl (.bindE rfl (.ret rfl)))))))))
      h.tree 0 plan.l [] (by decide) rfl h.seg (fun y hy => ⟨Nat.zero_le _, (h.ok y hy).2.2⟩) (by decide) _ x _ hx hP
    refine Ok.eq ?_
    unfold m_sweeps_round
    refine .bindE rfl (.bindE rfl (.bindE (x := (x.c, L')) ?_ (.ret rfl)))
    have e : cut P none (some (-(1 : Int))) = P.dropLast := by rw [cut_init, List.dropLast_eq_take]
    show loopN _ _ (cut _ _ _) = _
    rw [e, hl]; rfl
  · exact ((paths_part bs [] [-1] rfl h.ch fun y hy => ⟨(h.ok y hy).1, (h.ok y hy).2.1⟩).1 _ x _ hx hP).1
theorem Pl.sides {n : Nat} {bs : List BoughT} {plan : Tp UItem} (h : Pl n bs plan) {k l : Int} (h0 : 0 ≤ k) (h1 : k < n) (g0 : 0 ≤ l) (g1 : l < n) : ∃ (p q m : Nat) (x y : BoughT) (P Q : List Int) (t : Bool), bs[p]? = some x ∧ bs[q]? = some y ∧ x.a = k ∧ y.a = l ∧ m_at bs k = some (p : Int) ∧ m_at bs l = some (q : Int) ∧ m_stand plan k = some (some ⟨⟨P⟩, ⟨x.d⟩⟩) ∧ m_stand plan l = some (some ⟨⟨Q⟩, ⟨y.d⟩⟩) ∧ m_sweeps_round plan ⟨P⟩ = some x.c ∧ m_sides bs k l = some (sdL x.c m t) ∧ m ≤ x.c.length ∧ m ≤ y.c.length := by
  obtain ⟨p, x, P, hx, hP, hxa, ap, sp, rp_, lp⟩ := h.find h0 h1
  obtain ⟨q, y, Q, hy, hQ, hya, aq, sq, rq, lq⟩ := h.find g0 g1
  have hp := (List.getElem?_eq_some_iff.mp hx).1
  have hq := (List.getElem?_eq_some_iff.mp hy).1
  have hn := h.len
  have hle := h.le
  have c6 := (h.ok x (List.mem_of_getElem? hx)).2.2
  have parts := (paths_part bs [] [-1] rfl h.ch fun y hy => ⟨(h.ok y hy).1, (h.ok y hy).2.1⟩).2
  obtain ⟨m, hmx, hmy, hsh⟩ : ∃ m : Nat, m ≤ x.c.length ∧ m ≤ y.c.length ∧ m_shared bs (p : Int) (q : Int) = some (m : Int) := by
    have cmp : ∀ l : List BoughT, l.length ≤ 100 → compG (fun (x_bough_here : BoughT) => some (some x_bough_here.b)) l = some (l.map (·.b)) := fun l hl => compG_map (by rw [szl]; omega) fun _ _ => rfl
    rcases Nat.lt_trichotomy p q with hpq | hpq | hpq
    · obtain ⟨m, e, pt⟩ := parts p q P Q hpq hP hQ
      obtain ⟨a, b, p1, p2, _⟩ := pt.p
      have := (List.getElem?_eq_some_iff.mp p1).1
      have := (List.getElem?_eq_some_iff.mp p2).1
      refine ⟨m, by omega, by omega, ?_⟩
      unfold m_shared
      rw [if_neg (by rw [decide_eq_false (by omega)]; exact Bool.false_ne_true), if_neg (by omega), if_pos (by omega), cut_mid (by omega) (by omega), cmp _ (by rw [List.length_take, List.length_drop]; omega)]
      rw [show ((p : Int) + 1).toNat = p + 1 by omega, show ((q : Int) + 1).toNat - (p + 1) = q - p by omega]
      show (List.min? _).bind _ = _
      rw [e]; rfl
    · subst hpq
      rw [hx] at hy; cases hy
      refine ⟨x.c.length, Nat.le_refl _, Nat.le_refl _, ?_⟩
      unfold m_shared
      rw [if_pos (decide_eq_true rfl), atI_at hx]; rfl
    · obtain ⟨m, e, pt⟩ := parts q p Q P hpq hQ hP
      obtain ⟨a, b, p1, p2, _⟩ := pt.p
      have := (List.getElem?_eq_some_iff.mp p1).1
      have := (List.getElem?_eq_some_iff.mp p2).1
      refine ⟨m, by omega, by omega, ?_⟩
      unfold m_shared
      rw [if_neg (by rw [decide_eq_false (by omega)]; exact Bool.false_ne_true), if_pos (by omega), if_neg (by omega), cut_mid (by omega) (by omega), cmp _ (by rw [List.length_take, List.length_drop]; omega)]
      rw [show ((q : Int) + 1).toNat = q + 1 by omega, show ((p : Int) + 1).toNat - (q + 1) = p - q by omega]
      show (List.min? _).bind _ = _
      rw [e]; rfl
  refine ⟨p, q, m, x, y, P, Q, decide (q < p), hx, hy, hxa, hya, ap, aq, sp, sq, rp_, ?_, hmx, hmy⟩
  have sl : ∀ e, e ≤ m → ((List.range e).flatMap (sd x.c)).length ≤ 1000 := fun e he => by have := sd_len x.c e; omega
  refine Ok.eq ?_
  unfold m_sides
  refine .bindE ap (.bindE rfl (.bindE aq (.bindE rfl (.bindE hsh (.bindE rfl (.bindE rfl (.bindE (rngG_n (by omega)) ?_)))))))
  refine .bindE (loopN_flat (sd x.c) m fun e he => ?_) ?_
  · obtain ⟨w, hw⟩ : ∃ w, x.c[e]? = some w := ⟨_, List.getElem?_eq_getElem (show e < x.c.length by omega)⟩
    refine Ok.eq (.bindE (atI_at hx) (.bindE (atI_at hw) (.bindE rfl ?_)))
    exact .of (step_sd hw (sl e (by omega))) rfl
  · have e : decide ((q : Int) < (p : Int)) = decide (q < p) := by rw [decide_eq_decide]; omega
    rw [e]
    exact .bindE (text_sd (sl m (Nat.le_refl _)) m _) (.ret rfl)
theorem sdL_mem {c : List WayT} {m : Nat} {t : Bool} {z : T2 Int Str} (h : z ∈ sdL c m t) : ∃ (l q : Nat), z.a = (l : Int) ∧ q ≤ m ∧ l ≤ q ∧ ((z.b = "text" ∧ q = l) ∨ ((z.b = "less" ∨ z.b = "more") ∧ q = l + 1)) := by
  unfold sdL sd at h
  rcases List.mem_append.mp h with h | h
  · obtain ⟨e, he, hz⟩ := List.mem_flatMap.mp h
    have he := List.mem_range.mp he
    refine ⟨e, e + 1, ?_, he, Nat.le_succ _, .inr ⟨?_, rfl⟩⟩
    · rcases List.mem_append.mp hz with h | h
      · split at h
        · rw [List.mem_singleton.mp h]
        · cases h
      · split at h
        · rw [List.mem_singleton.mp h]
        · cases h
    · rcases List.mem_append.mp hz with h | h
      · split at h
        · rw [List.mem_singleton.mp h]; exact .inl rfl
        · cases h
      · split at h
        · rw [List.mem_singleton.mp h]; exact .inr rfl
        · cases h
  · split at h
    · rw [List.mem_singleton.mp h]; exact ⟨m, m, rfl, Nat.le_refl _, Nat.le_refl _, .inl ⟨rfl, rfl⟩⟩
    · cases h
/-! the bonds of a side -/
abbrev Bond : Type := T3 Int Int Int
def tb (u r w m : Int) (s : Str) : List Bond := if s = ("less" : Str) then [⟨u, w, m - r - 1⟩] else if s = ("more" : Str) then [⟨w, u, r - m - 1⟩] else [⟨u, w, m - r⟩, ⟨w, u, r - m⟩]
theorem tb_eq (u r w m : Int) (s : Str) : m_time_bonds u r w m s = some (tb u r w m s) := by
  unfold m_time_bonds tb
  simp only [decide_eq_true_eq]
  split
  · rfl
  · split <;> rfl
theorem tb_eq2 (u r w m : Int) (s : Str) : m_law_time_bonds u r w m s = some (tb u r w m s) := tb_eq u r w m s
theorem tb_len (u r w m : Int) (s : Str) : (tb u r w m s).length ≤ 2 := by
  unfold tb
  split
  · simp
  · split <;> simp
def wf (c : List WayT) (e : Nat) : Bool := (c.getD e ⟨true, ""⟩).a
def gd (d : List (T2 Int Int)) (e : Nat) : T2 Int Int := d.getD e ⟨0, 0⟩
def gB (x y : BoughT) (B : Int) (l : Nat) (s : Str) (e : Nat) : List Bond := if e < l ∧ wf x.c e = true then [] else tb (1 + (gd x.d e).a) (gd x.d e).b (B + (gd y.d e).a) (gd y.d e).b (if e < l then ("alike" : Str) else s)
theorem g_len (x y : BoughT) (B : Int) (l : Nat) (s : Str) (e : Nat) : (gB x y B l s e).length ≤ 2 := by
  unfold gB
  split
  · exact Nat.zero_le _
  · exact tb_len _ _ _ _ _
theorem flat_len {f : Nat → List Bond} (h : ∀ e, (f e).length ≤ 2) : ∀ n, ((List.range n).flatMap f).length ≤ 2 * n
  | 0 => Nat.le_refl _
  | n + 1 => by
    have h1 := flat_len h n
    have h2 := h n
    rw [List.range_succ, List.flatMap_append, List.length_append, List.flatMap_cons, List.flatMap_nil, List.append_nil]
    omega
theorem flat_more {f f' : Nat → List Bond} {a : Nat} (h : ∀ e, e < a → f e = f' e) (h2 : ∀ e, a ≤ e → f e = []) : ∀ n, a ≤ n → (List.range n).flatMap f = (List.range a).flatMap f'
  | 0, hn => by
    have : a = 0 := by omega
    subst this; rfl
  | n + 1, hn => by
    rcases Nat.lt_or_ge n a with g | g
    · have : a = n + 1 := by omega
      subst this
      rw [List.flatMap_def, List.flatMap_def]
      congr 1
      exact List.map_congr_left fun e he => h e (List.mem_range.mp he)
    · rw [List.range_succ, List.flatMap_append, List.flatMap_cons, List.flatMap_nil, List.append_nil, h2 n g, List.append_nil]
      exact flat_more h h2 n g
/-- what is known of a level -/
structure Lv (x y : BoughT) (l q : Nat) (s : Str) : Prop where
  c6 : x.c.length ≤ 6
  dx : x.d.length = x.c.length
  qx : q ≤ x.c.length
  qy : q ≤ y.d.length
  lq : l ≤ q
  s : (s = "text" ∧ q = l) ∨ ((s = "less" ∨ s = "more") ∧ q = l + 1)
theorem Lv.nt {x y : BoughT} {l q : Nat} {s : Str} (h : Lv x y l q s) (hs : s ≠ "text") : q = l + 1 := by
  rcases h.s with ⟨a, _⟩ | ⟨_, b⟩
  · exact absurd a hs
  · exact b
theorem Lv.tx {x y : BoughT} {l q : Nat} {s : Str} (h : Lv x y l q s) (hs : s = "text") : q = l := by
  rcases h.s with ⟨_, b⟩ | ⟨a, _⟩
  · exact b
  · rw [hs] at a; rcases a with a | a
    · exact absurd a (by decide)
    · exact absurd a (by decide)
theorem gd_at {d : List (T2 Int Int)} {e : Nat} (h : e < d.length) : L2.atI d (e : Int) = some (gd d e) := by
  refine atI_at ?_
  unfold gd
  rw [List.getD_eq_getElem?_getD, List.getElem?_eq_getElem h]; rfl
theorem wf_at {c : List WayT} {e : Nat} (h : e < c.length) : ∃ w, L2.atI c (e : Int) = some w ∧ w.a = wf c e := by
  refine ⟨_, atI_at (List.getElem?_eq_getElem h), ?_⟩
  unfold wf
  rw [List.getD_eq_getElem?_getD, List.getElem?_eq_getElem h]; rfl
theorem side_bonds_ok {prog : QProgram} {plan : Tp UItem} {k l : Int} {P Q : Tp Int} {x y : BoughT} {dd : QDeed} {B : Int} {lv q : Nat} {s : Str} (sp : m_stand plan k = some (some ⟨P, ⟨x.d⟩⟩)) (sq : m_stand plan l = some (some ⟨Q, ⟨y.d⟩⟩)) (rp_ : m_sweeps_round plan P = some x.c) (hd : L2.atI prog.deeds k = some dd) (hB : 1 + (dd.names.l.length : Int) = B) (h : Lv x y lv q s) : m_side_bonds prog plan k l (lv : Int) s = some ((List.range q).flatMap (gB x y B lv s)) := by
  have c6 := h.c6
  refine Ok.eq ?_
  unfold m_side_bonds
  refine .bindE sp (.bindE rfl (.bindE sq (.bindE rfl (.bindE rfl (.bindE rfl (.bindE rp_ (.bindE rfl (.bindE hd (.bindE rfl (.bindE rfl (.bindE (rngG_n (by omega)) ?_)))))))))))
  refine .bindE (loopN_flat (fun e => if e < q then gB x y B lv s e else []) x.c.length fun e he => ?_) (.ret (flat_more (fun e he => if_pos he) (fun e he => if_neg (by omega)) _ h.qx))
  have hlen := flat_len (f := fun e => if e < q then gB x y B lv s e else []) (fun e => by
    show (if e < q then gB x y B lv s e else []).length ≤ 2
    split
    · exact g_len _ _ _ _ _ _
    · exact Nat.zero_le _) e
  generalize (List.range e).flatMap (fun e => if e < q then gB x y B lv s e else []) = b at hlen
  refine Ok.eq ?_
  refine .bindE rfl (.bind (P := fun t : Str => t = if e = lv then s else ("alike" : Str)) (Ok.dite (fun z => .bindE rfl (.ret (by rw [if_pos (by omega)]))) fun z => .ret (by rw [if_neg (by omega)])) fun kind hk => ?_)
  obtain ⟨w, hw, hwa⟩ := wf_at he
  refine .bind (P := fun t : Bool => t = (decide (e < lv) && !wf x.c e)) (Ok.dite (fun z => .bindE hw (.ret (by rw [hwa, decide_eq_true (by omega)]; rfl))) fun z => .ret (by rw [decide_eq_false (by omega)]; rfl)) fun t ht => ?_
  refine Ok.ite (fun z => ?_) fun z => ?_
  · have hq : e < q := by
      rw [Bool.or_eq_true] at z
      rcases z with z | z
      · rw [ht, Bool.and_eq_true] at z
        have := of_decide_eq_true z.1
        have := h.lq
        omega
      · rw [Bool.and_eq_true] at z
        have z1 := of_decide_eq_true z.1
        have := h.nt (fun w => by have := z.2; rw [decide_eq_true w] at this; cases this)
        omega
    have hnw : ¬ (e < lv ∧ wf x.c e = true) := fun ⟨a, b⟩ => by
      rw [ht, decide_eq_true a, b, Bool.or_eq_true] at z
      rcases z with z | z
      · cases z
      · rw [Bool.and_eq_true] at z
        have := of_decide_eq_true z.1
        omega
    refine .bindE rfl (.bindE (gd_at (d := x.d) (by rw [h.dx]; exact he)) (.bindE rfl (.bindE (gd_at (d := y.d) (by have := h.qy; omega)) (.bindE rfl (.bindE (tb_eq _ _ _ _ _) (.bindE (catG_p ?_) (.bindE rfl (.ret ?_))))))))
    · have := tb_len (1 + (gd x.d e).a) (gd x.d e).b ((1 + (dd.names.l.length : Int)) + (gd y.d e).a) (gd y.d e).b kind
      omega
    · rw [if_pos hq]
      unfold gB
      rw [if_neg hnw, hB, hk]
      have hlq := h.s
      have : (if e = lv then s else ("alike" : Str)) = (if e < lv then ("alike" : Str) else s) := by
        by_cases a : e < lv
        · rw [if_pos a, if_neg (by omega)]
        · rw [if_neg a, if_pos (by omega)]
      rw [this]
  · refine .ret ?_
    by_cases hq : e < q
    · rw [if_pos hq]
      unfold gB
      rw [if_pos, List.append_nil]
      by_cases a : e < lv
      · refine ⟨a, ?_⟩
        cases hf : wf x.c e with
        | true => rfl
        | false => exact absurd (by rw [ht, decide_eq_true a, hf]; rfl) z
      · have : e = lv := by rcases h.s with ⟨_, b⟩ | ⟨_, b⟩ <;> omega
        refine absurd ?_ z
        rw [Bool.or_eq_true]
        refine .inr ?_
        rw [Bool.and_eq_true]
        refine ⟨decide_eq_true (by omega), ?_⟩
        rw [decide_eq_false]
        · rfl
        · intro w; have := h.tx w; omega
    · rw [if_neg hq, List.append_nil]
theorem law_bonds_ok {bs : List BoughT} {k l : Int} {p q' : Nat} {x y : BoughT} {B : Int} {lv q : Nat} {s : Str} (ap : m_at bs k = some (p : Int)) (aq : m_at bs l = some (q' : Int)) (hx : bs[p]? = some x) (hy : bs[q']? = some y) (h : Lv x y lv q s) : m_law_side_bonds bs B k l (lv : Int) s = some ((List.range q).flatMap (gB x y B lv s)) := by
  have c6 := h.c6
  have qx := h.qx
  have hlq := h.lq
  refine Ok.eq ?_
  unfold m_law_side_bonds
  refine .bindE ap (.bindE (atI_at hx) (.bindE rfl (.bindE aq (.bindE (atI_at hy) (.bindE rfl (.bindE rfl (.bindE (rngG_n (n := lv + 1) (by omega)) ?_)))))))
  refine Ok.thn (fun o => o = .nx ((List.range q).flatMap (gB x y B lv s)) ∨ o = .bk ((List.range q).flatMap (gB x y B lv s))) (Ok.rangeM (n := lv + 1) (fun e b => e ≤ q ∧ b = (List.range e).flatMap (gB x y B lv s)) ⟨Nat.zero_le _, rfl⟩ (fun e b he ⟨h1, h2⟩ => ?_) fun b ⟨h1, h2⟩ => ?_) (fun b z => ?_) (fun b z => ?_) fun r z => ?_
  · refine Ok.ite (fun z => ?_) fun z => ?_
    · rw [Bool.and_eq_true] at z
      have z1 := of_decide_eq_true z.1
      have z2 := h.tx (of_decide_eq_true z.2)
      refine .ret (.inr ?_)
      rw [h2, show e = q by omega]
    · have hq : e < q := by
        rcases Nat.lt_or_ge e q with a | a
        · exact a
        · refine absurd ?_ z
          have : e = lv ∧ q = lv := by rcases h.s with ⟨_, b⟩ | ⟨_, b⟩ <;> omega
          rw [Bool.and_eq_true]
          refine ⟨decide_eq_true (by omega), decide_eq_true ?_⟩
          rcases h.s with ⟨a, _⟩ | ⟨_, b⟩
          · exact a
          · omega
      obtain ⟨w, hw, hwa⟩ := wf_at (show e < x.c.length by omega)
      refine .bind (P := fun t : Bool => t = (decide (e = lv) || !wf x.c e)) (Ok.dite (fun z => .ret (by rw [decide_eq_true (by omega)]; rfl)) fun z => .bindE hw (.ret (by rw [hwa, decide_eq_false (by omega)]; rfl))) fun t ht => ?_
      have hlen := flat_len (g_len x y B lv s) e
      refine Ok.ite (fun z => ?_) fun z => ?_
      · refine .bindE rfl (.bind (P := fun t : Str => t = if e < lv then ("alike" : Str) else s) (Ok.dite (fun z => .bindE rfl (.ret (by rw [if_pos (by omega)]))) fun z => .ret (by rw [if_neg (by omega)])) fun kind hk => ?_)
        refine .bindE (gd_at (by rw [h.dx]; omega)) (.bindE rfl (.bindE (gd_at (by have := h.qy; omega)) (.bindE rfl (.bindE (tb_eq2 _ _ _ _ _) (.bindE (catG_p ?_) (.ret ⟨hq, ?_⟩))))))
        · have := tb_len (1 + (gd x.d e).a) (gd x.d e).b (B + (gd y.d e).a) (gd y.d e).b kind
          rw [h2]; omega
        · rw [List.range_succ, List.flatMap_append, List.flatMap_cons, List.flatMap_nil, List.append_nil, h2]
          congr 1
          unfold gB
          rw [if_neg, hk]
          rintro ⟨a, b⟩
          rw [ht, b, decide_eq_false (by omega)] at z
          cases z
      · refine .ret ⟨hq, ?_⟩
        rw [List.range_succ, List.flatMap_append, List.flatMap_cons, List.flatMap_nil, List.append_nil, ← h2]
        unfold gB
        rw [if_pos, List.append_nil]
        by_cases a : e = lv
        · exact absurd (by rw [ht, decide_eq_true a]; rfl) z
        · refine ⟨by omega, ?_⟩
          cases hf : wf x.c e with
          | true => rfl
          | false => exact absurd (by rw [ht, hf, Bool.or_comm]; rfl) z
  · refine .inl ?_
    have : lv + 1 = q := by rcases h.s with ⟨_, b⟩ | ⟨_, b⟩ <;> omega
    rw [h2, this]
  · rcases z with z | z
    · cases z; exact .ret rfl
    · cases z
  · rcases z with z | z
    · cases z
    · cases z; exact .ret rfl
  · rcases z with z | z <;> cases z
theorem alike_ok (z : List Bond) : m_alike z z = some true := by
  refine Ok.true_ ?_
  unfold m_alike
  refine Ok.ite (fun z => ?_) fun _ => ?_
  · rw [decide_eq_true rfl] at z; cases z
  refine Ok.thn (fun o => o = .nx ()) (Ok.loopM (fun _ _ => True) trivial (fun _ y ys _ => ?_) fun _ _ => rfl) (fun b _ => ?_) (fun b z => (by cases z)) fun r z => (by cases z)
  · exact .ret trivial
  · exact .bindE (eqG_F z z) (.ret (decide_eq_true rfl))
/-! what the bonds mean -/
def vlu (vals : List Int) (i : Int) : Int := (L2.atI vals i).getD 0
theorem atI_V {vals : List Int} {i : Int} (h0 : 0 ≤ i) (h1 : i < vals.length) : L2.atI vals i = some (vlu vals i) := by
  obtain ⟨v, e, _⟩ := atI_ok h0 h1
  unfold vlu
  rw [e]; rfl
def HdB (s : Str) (t u : Int) : Prop := if s = ("less" : Str) then t < u else if s = ("more" : Str) then u < t else t = u
theorem tb_hd {vals : List Int} {u r w m : Int} {s : Str} : (∀ z ∈ tb u r w m s, vlu vals z.a - vlu vals z.b ≤ z.c) ↔ HdB s (vlu vals u + r) (vlu vals w + m) := by
  unfold tb HdB
  split
  · simp only [List.mem_singleton, forall_eq]
    omega
  · split
    · simp only [List.mem_singleton, forall_eq]
      omega
    · simp only [List.mem_cons, List.not_mem_nil, or_false, forall_eq_or_imp, forall_eq]
      omega
theorem tb_in {u r w m : Int} {s : Str} {z : Bond} (h : z ∈ tb u r w m s) : (z.a = u ∧ z.b = w) ∨ (z.a = w ∧ z.b = u) := by
  unfold tb at h
  split at h
  · rw [List.mem_singleton.mp h]; exact .inl ⟨rfl, rfl⟩
  · split at h
    · rw [List.mem_singleton.mp h]; exact .inr ⟨rfl, rfl⟩
    · simp only [List.mem_cons, List.not_mem_nil, or_false] at h
      rcases h with h | h
      · rw [h]; exact .inl ⟨rfl, rfl⟩
      · rw [h]; exact .inr ⟨rfl, rfl⟩
structure Vs (vals : List Int) (B : Int) (x y : BoughT) : Prop where
  a : ∀ p ∈ x.d, 0 ≤ 1 + p.a ∧ 1 + p.a < vals.length
  b : ∀ p ∈ y.d, 0 ≤ B + p.a ∧ B + p.a < vals.length
theorem gd_mem {d : List (T2 Int Int)} {e : Nat} (h : e < d.length) : gd d e ∈ d := by
  unfold gd
  rw [List.getD_eq_getElem?_getD, List.getElem?_eq_getElem h]
  exact List.getElem_mem h
/-- the times at a level are as the level asks -/
def Ht (vals : List Int) (B : Int) (x y : BoughT) (l : Nat) (s : Str) (e : Nat) : Prop := (e < l ∧ wf x.c e = true) ∨ HdB (if e < l then ("alike" : Str) else s) (vlu vals (1 + (gd x.d e).a) + (gd x.d e).b) (vlu vals (B + (gd y.d e).a) + (gd y.d e).b)
theorem g_hd {vals : List Int} {B : Int} {x y : BoughT} {l : Nat} {s : Str} {e : Nat} : (∀ z ∈ gB x y B l s e, vlu vals z.a - vlu vals z.b ≤ z.c) ↔ Ht vals B x y l s e := by
  unfold gB Ht
  by_cases h : e < l ∧ wf x.c e = true
  · rw [if_pos h]
    exact ⟨fun _ => .inl h, fun _ z hz => (by cases hz)⟩
  · rw [if_neg h, tb_hd]
    exact ⟨fun a => .inr a, fun a => a.resolve_left h⟩
theorem hold_ok {vals : List Int} {B : Int} {x y : BoughT} {lv q : Nat} {s : Str} (h : Lv x y lv q s) (v : Vs vals B x y) : Ok (m_hold ((List.range q).flatMap (gB x y B lv s)) vals) fun b => b = true ↔ ∀ e < q, Ht vals B x y lv s e := by
  have hR : (∀ z ∈ (List.range q).flatMap (gB x y B lv s), vlu vals z.a - vlu vals z.b ≤ z.c) ↔ ∀ e < q, Ht vals B x y lv s e := by
    constructor
    · intro a e he
      exact g_hd.mp fun z hz => a z (List.mem_flatMap.mpr ⟨e, List.mem_range.mpr he, hz⟩)
    · intro a z hz
      obtain ⟨e, he, hz⟩ := List.mem_flatMap.mp hz
      exact g_hd.mpr (a e (List.mem_range.mp he)) z hz
  have hin : ∀ z ∈ (List.range q).flatMap (gB x y B lv s), L2.atI vals z.a = some (vlu vals z.a) ∧ L2.atI vals z.b = some (vlu vals z.b) := by
    intro z hz
    obtain ⟨e, he, hz⟩ := List.mem_flatMap.mp hz
    have he := List.mem_range.mp he
    have := h.qx
    have := h.qy
    have a1 := v.a _ (gd_mem (show e < x.d.length by rw [h.dx]; omega))
    have a2 := v.b _ (gd_mem (show e < y.d.length by omega))
    unfold gB at hz
    split at hz
    · cases hz
    · rcases tb_in hz with ⟨b1, b2⟩ | ⟨b1, b2⟩
      · rw [b1, b2]; exact ⟨atI_V a1.1 a1.2, atI_V a2.1 a2.2⟩
      · rw [b1, b2]; exact ⟨atI_V a2.1 a2.2, atI_V a1.1 a1.2⟩
  rw [← hR]
  generalize (List.range q).flatMap (gB x y B lv s) = R at hin
  unfold m_hold
  refine Ok.thn (fun o => ∃ b : Bool, (o = .rt b ∧ b = false ∧ ¬ ∀ z ∈ R, vlu vals z.a - vlu vals z.b ≤ z.c) ∨ (o = .nx () ∧ ∀ z ∈ R, vlu vals z.a - vlu vals z.b ≤ z.c)) (Ok.loopM (fun _ ys => (∀ z ∈ ys, z ∈ R) ∧ ((∀ z ∈ ys, vlu vals z.a - vlu vals z.b ≤ z.c) → ∀ z ∈ R, vlu vals z.a - vlu vals z.b ≤ z.c)) ⟨fun z hz => hz, fun a => a⟩ (fun _ z zs ⟨j1, j2⟩ => ?_) fun _ ⟨_, j2⟩ => ⟨true, .inr ⟨rfl, j2 fun z hz => (by cases hz)⟩⟩) (fun b z => ?_) (fun b z => ?_) fun r z => ?_
  · have hz := j1 z List.mem_cons_self
    refine .bindE (hin z hz).1 (.bindE (hin z hz).2 (Ok.dite (fun w => .ret ⟨false, .inl ⟨rfl, rfl, fun a => ?_⟩⟩) fun w => .ret ⟨fun y hy => j1 y (List.mem_cons_of_mem _ hy), fun a => j2 fun y hy => ?_⟩))
    · have := a z hz; omega
    · rcases List.mem_cons.mp hy with e | e
      · subst e; omega
      · exact a y e
  · obtain ⟨_, ⟨a, _⟩ | ⟨_, a⟩⟩ := z
    · cases a
    · exact .ret ⟨fun _ => a, fun _ => rfl⟩
  · obtain ⟨_, ⟨a, _⟩ | ⟨a, _⟩⟩ := z <;> cases a
  · obtain ⟨b, ⟨a, a2, a3⟩ | ⟨a, _⟩⟩ := z
    · cases a
      subst a2
      exact .ret ⟨fun w => (by cases w), fun w => absurd w a3⟩
    · cases a
theorem meant_ok {vals : List Int} {B : Int} {x y : BoughT} {lv q : Nat} {s : Str} (h : Lv x y lv q s) (v : Vs vals B x y) : Ok (m_meant x y B vals (lv : Int) s) fun b => b = true ↔ ∀ e < q, Ht vals B x y lv s e := by
  have qx := h.qx
  have qy := h.qy
  have c6 := h.c6
  have hlq := h.lq
  unfold m_meant
  refine .bindE (rngG_n (n := lv + 1) (by omega)) ?_
  refine Ok.thn (fun o => ∃ b : Bool, o = .rt b ∧ (b = true ↔ ∀ e < q, Ht vals B x y lv s e)) (Ok.rangeM (n := lv + 1) (fun e _ => e ≤ lv ∧ ∀ e' < e, Ht vals B x y lv s e') ⟨Nat.zero_le _, fun e' he => absurd he (Nat.not_lt_zero _)⟩ (fun e _ he ⟨j0, j⟩ => ?_) fun _ ⟨j0, _⟩ => absurd j0 (by omega)) (fun b ⟨_, z, _⟩ => (by cases z)) (fun b ⟨_, z, _⟩ => (by cases z)) fun r ⟨b, z, hb⟩ => (by cases z; exact .ret hb)
  refine Ok.ite (fun z => ?_) fun z => ?_
  · rw [Bool.and_eq_true] at z
    have z1 := of_decide_eq_true z.1
    have z2 := h.tx (of_decide_eq_true z.2)
    refine .ret ⟨true, rfl, fun _ e' he' => j e' (by omega), fun _ => rfl⟩
  · have hq : e < q := by
      rcases Nat.lt_or_ge e q with a | a
      · exact a
      · refine absurd ?_ z
        rw [Bool.and_eq_true]
        refine ⟨decide_eq_true (by omega), decide_eq_true ?_⟩
        rcases h.s with ⟨a, _⟩ | ⟨_, b⟩
        · exact a
        · omega
    have l1 : e < x.d.length := by rw [h.dx]; omega
    have l2 : e < y.d.length := by omega
    have a1 := v.a _ (gd_mem l1)
    have a2 := v.b _ (gd_mem l2)
    refine .bindE (gd_at l1) (.bindE (atI_V a1.1 a1.2) (.bindE (gd_at l1) (.bindE rfl (.bindE (gd_at l2) (.bindE (atI_V a2.1 a2.2) (.bindE (gd_at l2) (.bindE rfl ?_)))))))
    have last : e = lv → ∀ b : Bool, (b = true ↔ HdB s (vlu vals (1 + (gd x.d e).a) + (gd x.d e).b) (vlu vals (B + (gd y.d e).a) + (gd y.d e).b)) → (b = true ↔ ∀ e < q, Ht vals B x y lv s e) := fun e1 b hb => by
      have hq1 : q = e + 1 := by rcases h.s with ⟨_, b⟩ | ⟨_, b⟩ <;> omega
      rw [hb, hq1]
      constructor
      · intro a e' he'
        rcases Nat.lt_or_ge e' e with c | c
        · exact j e' c
        · have : e' = e := by omega
          subst this
          exact .inr (by rw [if_neg (by omega)]; exact a)
      · intro a
        rcases a e (Nat.lt_succ_self _) with c | c
        · omega
        · rwa [if_neg (by omega)] at c
    refine Ok.ite (fun z => ?_) fun z2 => Ok.dite (fun z3 => ?_) fun z3 => ?_
    · rw [Bool.and_eq_true] at z
      have z1 := of_decide_eq_true z.1
      have z2 := of_decide_eq_true z.2
      refine .ret ⟨_, rfl, last (by omega) _ ?_⟩
      rw [decide_eq_true_iff]
      unfold HdB
      rw [if_pos z2]
    · refine .ret ⟨_, rfl, last (by omega) _ ?_⟩
      rw [decide_eq_true_iff]
      unfold HdB
      have s1 : s ≠ "less" := fun w => z2 (by rw [decide_eq_true z3, decide_eq_true w]; rfl)
      have s2 : s ≠ "text" := fun w => z (by rw [decide_eq_true z3, decide_eq_true w]; rfl)
      have s3 : s = "more" := by
        rcases h.s with ⟨a, _⟩ | ⟨a, _⟩
        · exact absurd a s2
        · exact a.resolve_left s1
      rw [if_neg s1, if_pos s3]
    · have hel : e < lv := by omega
      obtain ⟨w, hw, hwa⟩ := wf_at (show e < x.c.length by omega)
      refine .bindE hw (Ok.ite (fun z => .ret ⟨false, rfl, fun w => (by cases w), fun a => ?_⟩) fun z => .ret ⟨by omega, fun e' he' => ?_⟩)
      · rw [Bool.and_eq_true, hwa] at z
        rcases a e hq with c | c
        · rw [c.2] at z; cases z.1
        · rw [if_pos hel] at c
          have c : vlu vals (1 + (gd x.d e).a) + (gd x.d e).b = vlu vals (B + (gd y.d e).a) + (gd y.d e).b := c
          have := z.2
          rw [decide_eq_true c] at this; cases this
      · rcases Nat.lt_or_ge e' e with c | c
        · exact j e' c
        · have : e' = e := by omega
          subst this
          cases hf : wf x.c e' with
          | true => exact .inl ⟨hel, hf⟩
          | false =>
            refine .inr ?_
            rw [if_pos hel]
            show vlu vals (1 + (gd x.d e').a) + (gd x.d e').b = vlu vals (B + (gd y.d e').a) + (gd y.d e').b
            refine Decidable.byContradiction fun w => z ?_
            rw [hwa, hf, decide_eq_false w]; rfl
theorem setG_p {α : Type} {xs : List α} {i : Int} (h0 : 0 ≤ i) (h1 : i < xs.length) (y : α) : setG xs i y = some (xs.set i.toNat y) := by
  unfold setG ixN
  rw [if_pos h0, if_pos (by omega)]; rfl
theorem turns_ok (ns : List Int) {x y : BoughT} {dk dl : Int} (k0 : 0 ≤ dk) (k3 : dk ≤ 3) (l0 : 0 ≤ dl) (l3 : dl ≤ 3) (hx : ∀ p ∈ x.d, 0 ≤ p.a ∧ p.a < dk) (hy : ∀ p ∈ y.d, 0 ≤ p.a ∧ p.a < dl) (x6 : x.d.length ≤ 6) : Ok (m_turns ns x y [dk, dl]) fun vals => (vals.length : Int) = 1 + dk + dl := by
  obtain ⟨a, rfl⟩ : ∃ a : Nat, dk = (a : Int) := ⟨dk.toNat, by omega⟩
  obtain ⟨b, rfl⟩ : ∃ b : Nat, dl = (b : Int) := ⟨dl.toNat, by omega⟩
  have cells : ∀ (f : Int) (n : Nat), 0 ≤ f → n ≤ 3 → Ok (compG (fun (x_e : Int) => (m_cell_at ns (f + x_e)).bind fun t3 => some (some ((t3 % (1000000000000000000 : Int)) - (100000000000000000 : Int)))) (intsF 0 n)) fun ys => ys.length = n := fun f n h0 hn => by
    refine Ok.compR (fun _ _ => True) (by rw [ints_len]; omega) (fun k hk => ?_) fun ys hy => by rw [← hy.length, ints_len]
    have hk := intsF_mem hk
    exact .bind (cell_at_ok ns (by omega)) fun v _ => .ret ⟨_, rfl, trivial⟩
  unfold m_turns
  refine .bindE rfl (.bindE (rngG_n (by omega)) (.bind (cells 5 a (by decide) (by omega)) fun ones ho => .bindE rfl (.bindE rfl (.bindE (rngG_n (by omega)) (.bind (cells 8 b (by decide) (by omega)) fun others ht => .bindE rfl ?_)))))
  obtain ⟨n, hn, n1, n2⟩ : ∃ n : Nat, (if (y.d.length : Int) < (x.d.length : Int) then (y.d.length : Int) else (x.d.length : Int)) = (n : Int) ∧ n ≤ x.d.length ∧ n ≤ y.d.length := ⟨min x.d.length y.d.length, by split <;> omega, by omega, by omega⟩
  rw [hn]
  refine .bindE (rngG_n (by omega)) (.bind (Ok.range (n := n) (Q := fun v : List Int => v.length = b) (fun _ v => v.length = b) ht (fun e v he hv => ?_) fun v hv => hv) fun v hv => .bindE (catG_p (by simp; omega)) (.bindE (catG_p (by simp; omega)) (.ret ?_)))
  · refine .bind (cell_at_ok ns (by decide)) fun c _ => .bind (mixed_ok c (by omega) (by omega)) fun t _ => ?_
    refine .bind (atI_mem (emod_in t (by decide)).1 (emod_in t (by decide)).2) fun near _ => .bindE rfl (.bindE (gd_at (by omega)) (.bindE rfl (.bindE (gd_at (by omega)) (.bindE rfl ?_))))
    have p1 := hx _ (gd_mem (show e < x.d.length by omega))
    have p2 := hy _ (gd_mem (show e < y.d.length by omega))
    refine .bind (atI_mem p1.1 (by omega)) fun o _ => .bindE (setG_p p2.1 (by omega) _) (.ret ?_)
    rw [List.length_set]; exact hv
  · simp; omega
theorem deed_ok (k : Int) {d : Int} (h0 : 0 ≤ d) (h3 : d ≤ 3) : Ok (m_deed k d) fun z => (z.names.l.length : Int) = d := by
  unfold m_deed
  refine .bindE rfl (.bindE rfl (.bindE (catT_p ?_) (.ret ?_)))
  · show 1 + (cut [(0 : Int), 0, 0] none (some d)).length ≤ 16777216
    have := cut_len [(0 : Int), 0, 0] none (some d)
    simp at this; omega
  · show ((cut [("i" : Str), "jo", "kim"] none (some d)).length : Int) = d
    rw [cut_to h0, List.length_take]
    simp; omega
theorem pair_stands {ns : List Int} {prog : QProgram} {bs : List BoughT} {depths : List Int} {far : Int} {n : Nat} {plan : Tp UItem} (pl : Pl n bs plan) (hplan : m_items 10 bs 0 = some plan) (hB : ∀ x ∈ bs, Bg depths far x) (hd : ∀ x ∈ depths, 0 ≤ x ∧ x ≤ 3) (hp : ∀ k : Int, 0 ≤ k → k < n → ∃ dd v, L2.atI prog.deeds k = some dd ∧ L2.atI depths k = some v ∧ v ∈ depths ∧ (dd.names.l.length : Int) = v) {k l : Int} (h0 : 0 ≤ k) (h1 : k < n) (g0 : 0 ≤ l) (g1 : l < n) : m_pair_stands ns prog bs depths k l = some true := by
  obtain ⟨p, q, m, x, y, P, Q, t, hx, hy, hxa, hya, ap, aq, sp, sq, rp_, hs, mx, my⟩ := pl.sides h0 h1 g0 g1
  obtain ⟨ddk, vk, d1, d2, d3, d4⟩ := hp k h0 h1
  obtain ⟨ddl, vl, e1, e2, e3, e4⟩ := hp l g0 g1
  have bx := hB x (List.mem_of_getElem? hx)
  have bY := hB y (List.mem_of_getElem? hy)
  have px : ∀ p ∈ x.d, 0 ≤ p.a ∧ p.a < vk := by
    obtain ⟨lo, a, b⟩ := bx.ps
    rw [hxa, d2] at a
    cases a
    exact fun p hp => ⟨(b p hp).1, (b p hp).2.1⟩
  have py : ∀ p ∈ y.d, 0 ≤ p.a ∧ p.a < vl := by
    obtain ⟨lo, a, b⟩ := bY.ps
    rw [hya, e2] at a
    cases a
    exact fun p hp => ⟨(b p hp).1, (b p hp).2.1⟩
  have dxl := bx.dl
  have dyl := bY.dl
  have cx := bx.c6
  have r1 := hd vk d3
  have r2 := hd vl e3
  refine Ok.true_ ?_
  unfold m_pair_stands
  refine .bindE hplan (.bindE rfl (.bindE ap (.bindE (atI_at hx) (.bindE rfl (.bindE aq (.bindE (atI_at hy) (.bindE rfl (.bindE d2 (.bindE e2 (.bind (turns_ok ns r1.1 r1.2 r2.1 r2.2 px py (by omega)) fun vals hv => .bindE rfl (.bindE d2 (.bindE rfl (.bindE hs ?_))))))))))))) 
  have vs : Vs vals (1 + vk) x y := ⟨fun p hp => by have := px p hp; omega, fun p hp => by have := py p hp; omega⟩
  refine Ok.thn (fun o => o = .nx ()) (Ok.loopM (fun _ ys => ∀ z ∈ ys, z ∈ sdL x.c m t) (fun z hz => hz) (fun _ z zs hz => ?_) fun _ _ => rfl) (fun b _ => .ret rfl) (fun b z => (by cases z)) fun r z => (by cases z)
  obtain ⟨lv, q', a1, a2, a3, a4⟩ := sdL_mem (hz z List.mem_cons_self)
  have lvl : Lv x y lv q' z.b := ⟨cx, dxl, by omega, by omega, a3, a4⟩
  rw [a1]
  have e1 := side_bonds_ok (B := 1 + vk) sp sq rp_ d1 (by rw [d4]) lvl
  have e2 := law_bonds_ok (B := 1 + vk) ap aq hx hy lvl
  have e4 := hold_ok lvl vs
  generalize (List.range q').flatMap (gB x y (1 + vk) lv z.b) = R at e1 e2 e4
  refine Ok.bindE e1 ?_
  refine Ok.bindE rfl ?_
  refine Ok.bindE e2 ?_
  refine Ok.bindE rfl ?_
  refine Ok.bindE (alike_ok R) ?_
  refine Ok.ite (fun z => absurd z (by decide)) fun _ => ?_
  refine .bind (meant_ok lvl vs) fun b1 h1 => .bindE rfl (.bind e4 fun b2 h2 => ?_)
  have : b2 = b1 := by
    rw [← h1] at h2
    cases b1 <;> cases b2 <;> simp_all
  subst this
  refine Ok.ite (fun w => ?_) fun _ => .ret fun z hz2 => hz z (List.mem_cons_of_mem _ hz2)
  rw [decide_eq_true rfl] at w; cases w
theorem law_true (ns : List Int) (h : ns.length ≤ 63) : m_law ns = some true := by
  refine Ok.true_ ?_
  unfold m_law
  refine .bind (Ok.compR (P := fun ds => ds.length = 2 ∧ ∀ x ∈ ds, 0 ≤ x ∧ x ≤ 3) (fun _ v => 0 ≤ v ∧ v ≤ 3) (by rw [ints_len]; omega) (fun k hk => ?_) fun ys hy => ⟨by rw [← hy.length, ints_len], fun x hx => ?_⟩) fun ds ⟨d1, d2⟩ => .bindE rfl ?_
  · have hk := intsF_mem hk
    refine .bind (cell_at_ok ns (by omega)) fun v _ => .bind (mixed_ok v (by decide) (by decide)) fun t _ => .ret ⟨_, rfl, ?_⟩
    have := emod_in t (show (0 : Int) < 4 by decide)
    omega
  · obtain ⟨_, _, h⟩ := Gx.Paired.mem hy hx
    exact h
  refine .bind (cell_at_ok ns (by decide)) fun c4 _ => .bind (cell_at_ok ns (by decide)) fun c11 _ => ?_
  have g4 := emod_in c4 (show (0 : Int) < 100000000000000000 by decide)
  refine .bind (P := fun t => t = 1 ∨ t = -1) ((atI_mem (emod_in c11 (by decide)).1 (emod_in c11 (by decide)).2).mono fun v hv => by have := hv.1; simp at this; omega) fun t ht => .bindE (mulG_r (by omega)) (.bindE rfl ?_)
  refine .bind (boughs_ok (far := 10 ^ 17) d2 (by omega) ns (by decide) (by rcases ht with h | h <;> subst h <;> omega)) fun bs ⟨b1, b2, b3, b4⟩ => .bindE rfl ?_
  obtain ⟨plan, hplan, tree⟩ := items_ok 10 0 bs (by decide) (by decide) (by omega) fun x hx => ⟨Nat.zero_le _, (b4 x hx).c6, (b4 x hx).b2⟩
  have pl : Pl 2 bs plan := ⟨by omega, by decide, by rw [← d1]; exact b2, b3, fun x hx => ⟨(b4 x hx).b0, (b4 x hx).b2, (b4 x hx).c6⟩, tree⟩
  have dAt : ∀ k : Int, 0 ≤ k → k < 2 → ∃ v, L2.atI ds k = some v ∧ v ∈ ds := fun k k0 k1 => by
    obtain ⟨v, a, b⟩ := atI_ok (xs := ds) k0 (by omega)
    exact ⟨v, a, List.mem_of_getElem? b⟩
  refine .bind (Ok.compR (P := fun deeds : List QDeed => ∀ k : Int, 0 ≤ k → k < (2 : Nat) → ∃ dd v, L2.atI deeds k = some dd ∧ L2.atI ds k = some v ∧ v ∈ ds ∧ (dd.names.l.length : Int) = v) (fun k (dd : QDeed) => ∃ v, L2.atI ds k = some v ∧ v ∈ ds ∧ (dd.names.l.length : Int) = v) (by rw [ints_len]; omega) (fun k hk => ?_) fun ys hy k k0 k1 => ?_) fun deeds hdeeds => .bindE rfl (.bindE rfl ?_)
  · have hk := intsF_mem hk
    obtain ⟨v, a, b⟩ := dAt k hk.1 (by omega)
    exact .bindE a (.bind (deed_ok k (d2 v b).1 (d2 v b).2) fun dd hdd => .ret ⟨dd, rfl, v, a, b, hdd⟩)
  · have hl := hy.length
    rw [ints_len] at hl
    obtain ⟨dd, a, b⟩ := atI_ok (xs := ys) k0 (by omega)
    obtain ⟨u, c1, v, c2, c3, c4⟩ := Gx.Paired.get hy b
    have : u = k := by
      have := ints_get c1
      omega
    subst this
    exact ⟨dd, v, a, c2, c3, c4⟩
  refine Ok.thn (fun o => o = .nx ()) (Ok.rangeM (n := 2) (fun _ _ => True) trivial (fun k _ hk _ => ?_) fun _ _ => rfl) (fun b _ => .ret rfl) (fun b z => (by cases z)) fun r z => (by cases z)
  refine Ok.thn (fun o => o = .nx ()) (Ok.rangeM (n := 2) (fun _ _ => True) trivial (fun l _ hl _ => ?_) fun _ _ => rfl) (fun b _ => .ret trivial) (fun b z => (by cases z)) fun r z => (by cases z)
  exact .bindE (pair_stands pl hplan b4 d2 hdeeds (k := (k : Int)) (l := (l : Int)) (by omega) (by omega) (by omega) (by omega)) (.ret trivial)

/-! ### what the top has left -/
structure Txt (K : PySem.W.Frag) (mg : Str → Option Value) where
  d_cell_at : FuncData
  F_cell_at : FunD K "_law_cell_at" "_law_cell_at" (defArgs s_cell_at) (defBody s_cell_at) (defScope s_cell_at) [] [] (He.fAd K ("_law_cell_at", none)) d_cell_at
  g_cell_at : mg "_law_cell_at" = some (.ref (He.fAd K ("_law_cell_at", none)))
  d_mixed : FuncData
  F_mixed : FunD K "_law_mixed" "_law_mixed" (defArgs s_mixed) (defBody s_mixed) (defScope s_mixed) [] [] (He.fAd K ("_law_mixed", none)) d_mixed
  g_mixed : mg "_law_mixed" = some (.ref (He.fAd K ("_law_mixed", none)))
  d_pair : FuncData
  F_pair : FunD K "_law_pair" "_law_pair" (defArgs s_pair) (defBody s_pair) (defScope s_pair) [] [] (He.fAd K ("_law_pair", none)) d_pair
  g_pair : mg "_law_pair" = some (.ref (He.fAd K ("_law_pair", none)))
  d_bough : FuncData
  F_bough : FunD K "_law_bough" "_law_bough" (defArgs s_bough) (defBody s_bough) (defScope s_bough) [] [] (He.fAd K ("_law_bough", none)) d_bough
  g_bough : mg "_law_bough" = some (.ref (He.fAd K ("_law_bough", none)))
  d_boughs : FuncData
  F_boughs : FunD K "_law_boughs" "_law_boughs" (defArgs s_boughs) (defBody s_boughs) (defScope s_boughs) [] [] (He.fAd K ("_law_boughs", none)) d_boughs
  g_boughs : mg "_law_boughs" = some (.ref (He.fAd K ("_law_boughs", none)))
  d_Number_init : FuncData
  F_Number_init : FunD K "__init__" "Number.__init__" (defArgs s_Number_init) (defBody s_Number_init) (defScope s_Number_init) [] [] (He.fAd K ("Number", some "__init__")) d_Number_init
  d_Deed_init : FuncData
  F_Deed_init : FunD K "__init__" "Deed.__init__" (defArgs s_Deed_init) (defBody s_Deed_init) (defScope s_Deed_init) [] [] (He.fAd K ("Deed", some "__init__")) d_Deed_init
  d_deed : FuncData
  F_deed : FunD K "_law_deed" "_law_deed" (defArgs s_deed) (defBody s_deed) (defScope s_deed) [] [] (He.fAd K ("_law_deed", none)) d_deed
  g_deed : mg "_law_deed" = some (.ref (He.fAd K ("_law_deed", none)))
  d_Program_init : FuncData
  F_Program_init : FunD K "__init__" "Program.__init__" (defArgs s_Program_init) (defBody s_Program_init) (defScope s_Program_init) [] [] (He.fAd K ("Program", some "__init__")) d_Program_init
  d_items : FuncData
  F_items : FunD K "_law_items" "_law_items" (defArgs s_items) (defBody s_items) (defScope s_items) [] [] (He.fAd K ("_law_items", none)) d_items
  g_items : mg "_law_items" = some (.ref (He.fAd K ("_law_items", none)))
  d_at : FuncData
  F_at : FunD K "_law_at" "_law_at" (defArgs s_at) (defBody s_at) (defScope s_at) [] [] (He.fAd K ("_law_at", none)) d_at
  g_at : mg "_law_at" = some (.ref (He.fAd K ("_law_at", none)))
  d_turns : FuncData
  F_turns : FunD K "_law_turns" "_law_turns" (defArgs s_turns) (defBody s_turns) (defScope s_turns) [] [] (He.fAd K ("_law_turns", none)) d_turns
  g_turns : mg "_law_turns" = some (.ref (He.fAd K ("_law_turns", none)))
  d_shared : FuncData
  F_shared : FunD K "_law_shared" "_law_shared" (defArgs s_shared) (defBody s_shared) (defScope s_shared) [] [] (He.fAd K ("_law_shared", none)) d_shared
  g_shared : mg "_law_shared" = some (.ref (He.fAd K ("_law_shared", none)))
  d_sides : FuncData
  F_sides : FunD K "_law_sides" "_law_sides" (defArgs s_sides) (defBody s_sides) (defScope s_sides) [] [] (He.fAd K ("_law_sides", none)) d_sides
  g_sides : mg "_law_sides" = some (.ref (He.fAd K ("_law_sides", none)))
  d_stand_within : FuncData
  F_stand_within : FunD K "stand_within" "stand_within" (defArgs s_stand_within) (defBody s_stand_within) (defScope s_stand_within) [] [] (He.fAd K ("stand_within", none)) d_stand_within
  g_stand_within : mg "stand_within" = some (.ref (He.fAd K ("stand_within", none)))
  d_stand : FuncData
  F_stand : FunD K "stand" "stand" (defArgs s_stand) (defBody s_stand) (defScope s_stand) [] [] (He.fAd K ("stand", none)) d_stand
  g_stand : mg "stand" = some (.ref (He.fAd K ("stand", none)))
  d_sweeps_round : FuncData
  F_sweeps_round : FunD K "sweeps_round" "sweeps_round" (defArgs s_sweeps_round) (defBody s_sweeps_round) (defScope s_sweeps_round) [] [] (He.fAd K ("sweeps_round", none)) d_sweeps_round
  g_sweeps_round : mg "sweeps_round" = some (.ref (He.fAd K ("sweeps_round", none)))
  d_time_bonds : FuncData
  F_time_bonds : FunD K "time_bonds" "time_bonds" (defArgs s_time_bonds) (defBody s_time_bonds) (defScope s_time_bonds) [] [] (He.fAd K ("time_bonds", none)) d_time_bonds
  g_time_bonds : mg "time_bonds" = some (.ref (He.fAd K ("time_bonds", none)))
  d_side_bonds : FuncData
  F_side_bonds : FunD K "side_bonds" "side_bonds" (defArgs s_side_bonds) (defBody s_side_bonds) (defScope s_side_bonds) [] [] (He.fAd K ("side_bonds", none)) d_side_bonds
  g_side_bonds : mg "side_bonds" = some (.ref (He.fAd K ("side_bonds", none)))
  d_law_time_bonds : FuncData
  F_law_time_bonds : FunD K "_law_time_bonds" "_law_time_bonds" (defArgs s_law_time_bonds) (defBody s_law_time_bonds) (defScope s_law_time_bonds) [] [] (He.fAd K ("_law_time_bonds", none)) d_law_time_bonds
  g_law_time_bonds : mg "_law_time_bonds" = some (.ref (He.fAd K ("_law_time_bonds", none)))
  d_law_side_bonds : FuncData
  F_law_side_bonds : FunD K "_law_side_bonds" "_law_side_bonds" (defArgs s_law_side_bonds) (defBody s_law_side_bonds) (defScope s_law_side_bonds) [] [] (He.fAd K ("_law_side_bonds", none)) d_law_side_bonds
  g_law_side_bonds : mg "_law_side_bonds" = some (.ref (He.fAd K ("_law_side_bonds", none)))
  d_whole : FuncData
  F_whole : FunD K "_law_whole" "_law_whole" (defArgs s_whole) (defBody s_whole) (defScope s_whole) [] [] (He.fAd K ("_law_whole", none)) d_whole
  g_whole : mg "_law_whole" = some (.ref (He.fAd K ("_law_whole", none)))
  d_alike : FuncData
  F_alike : FunD K "_law_alike" "_law_alike" (defArgs s_alike) (defBody s_alike) (defScope s_alike) [] [] (He.fAd K ("_law_alike", none)) d_alike
  g_alike : mg "_law_alike" = some (.ref (He.fAd K ("_law_alike", none)))
  d_meant : FuncData
  F_meant : FunD K "_law_meant" "_law_meant" (defArgs s_meant) (defBody s_meant) (defScope s_meant) [] [] (He.fAd K ("_law_meant", none)) d_meant
  g_meant : mg "_law_meant" = some (.ref (He.fAd K ("_law_meant", none)))
  d_hold : FuncData
  F_hold : FunD K "_law_hold" "_law_hold" (defArgs s_hold) (defBody s_hold) (defScope s_hold) [] [] (He.fAd K ("_law_hold", none)) d_hold
  g_hold : mg "_law_hold" = some (.ref (He.fAd K ("_law_hold", none)))
  d_pair_stands : FuncData
  F_pair_stands : FunD K "_law_pair_stands" "_law_pair_stands" (defArgs s_pair_stands) (defBody s_pair_stands) (defScope s_pair_stands) [] [] (He.fAd K ("_law_pair_stands", none)) d_pair_stands
  g_pair_stands : mg "_law_pair_stands" = some (.ref (He.fAd K ("_law_pair_stands", none)))
  d_law : FuncData
  F_law : FunD K "law" "law" (defArgs s_law) (defBody s_law) (defScope s_law) [] [] (He.fAd K ("law", none)) d_law
  g_law : mg "law" = some (.ref (He.fAd K ("law", none)))
  g_Program : mg "Program" = some (.ref (He.ga K "Program"))
  cl_Program : Cls K (He.ga K "Program")
  mk_Program : Mk K (He.ga K "Program") (He.fAd K ("Program", some "__init__"))
  na_Program_size : NoAttr K (He.ga K "Program") "size"
  na_Program_deeds : NoAttr K (He.ga K "Program") "deeds"
  g_Deed : mg "Deed" = some (.ref (He.ga K "Deed"))
  cl_Deed : Cls K (He.ga K "Deed")
  mk_Deed : Mk K (He.ga K "Deed") (He.fAd K ("Deed", some "__init__"))
  na_Deed_names : NoAttr K (He.ga K "Deed") "names"
  na_Deed_lows : NoAttr K (He.ga K "Deed") "lows"
  na_Deed_highs : NoAttr K (He.ga K "Deed") "highs"
  na_Deed_table : NoAttr K (He.ga K "Deed") "table"
  na_Deed_spots : NoAttr K (He.ga K "Deed") "spots"
  na_Deed_term : NoAttr K (He.ga K "Deed") "term"
  na_Deed_path : NoAttr K (He.ga K "Deed") "path"
  g_Number : mg "Number" = some (.ref (He.ga K "Number"))
  cl_Number : Cls K (He.ga K "Number")
  mk_Number : Mk K (He.ga K "Number") (He.fAd K ("Number", some "__init__"))
  na_Number_n : NoAttr K (He.ga K "Number") "n"
  n_bool : mg "bool" = none
  n_enumerate : mg "enumerate" = none
  n_int : mg "int" = none
  n_isinstance : mg "isinstance" = none
  n_len : mg "len" = none
  n_list : mg "list" = none
  n_max : mg "max" = none
  n_min : mg "min" = none
  n_range : mg "range" = none
  n_tuple : mg "tuple" = none
section
variable {P : Program} {w : World} {K : PySem.W.Frag} {mg : Str → Option Value} {base : Heap}
theorem Txt.f_Program_size (T : Txt K mg) : FldOf K "size" (fun d : QProgram => d.size) := fun F v d ⟨a, dx, vs, e, hF, ra_⟩ => by
  obtain ⟨v0, _, rfl, r0, ⟨v1, _, rfl, r1, rfl⟩⟩ := ra_
  exact ⟨a, _, dx, _, v0, e, hF, T.cl_Program, T.na_Program_size, zlook (i := 0) (by decide +kernel) (by decide) rfl, r0⟩
theorem Txt.f_Program_deeds (T : Txt K mg) : FldOf K "deeds" (fun d : QProgram => d.deeds) := fun F v d ⟨a, dx, vs, e, hF, ra_⟩ => by
  obtain ⟨v0, _, rfl, r0, ⟨v1, _, rfl, r1, rfl⟩⟩ := ra_
  exact ⟨a, _, dx, _, v1, e, hF, T.cl_Program, T.na_Program_deeds, zlook (i := 1) (by decide +kernel) (by decide) rfl, r1⟩
theorem Txt.f_Deed_names (T : Txt K mg) : FldOf K "names" (fun d : QDeed => d.names) := fun F v d ⟨a, dx, vs, e, hF, ra_⟩ => by
  obtain ⟨v0, _, rfl, r0, ⟨v1, _, rfl, r1, ⟨v2, _, rfl, r2, ⟨v3, _, rfl, r3, ⟨v4, _, rfl, r4, ⟨v5, _, rfl, r5, ⟨v6, _, rfl, r6, rfl⟩⟩⟩⟩⟩⟩⟩ := ra_
  exact ⟨a, _, dx, _, v0, e, hF, T.cl_Deed, T.na_Deed_names, zlook (i := 0) (by decide +kernel) (by decide) rfl, r0⟩
theorem Txt.f_Deed_lows (T : Txt K mg) : FldOf K "lows" (fun d : QDeed => d.lows) := fun F v d ⟨a, dx, vs, e, hF, ra_⟩ => by
  obtain ⟨v0, _, rfl, r0, ⟨v1, _, rfl, r1, ⟨v2, _, rfl, r2, ⟨v3, _, rfl, r3, ⟨v4, _, rfl, r4, ⟨v5, _, rfl, r5, ⟨v6, _, rfl, r6, rfl⟩⟩⟩⟩⟩⟩⟩ := ra_
  exact ⟨a, _, dx, _, v1, e, hF, T.cl_Deed, T.na_Deed_lows, zlook (i := 1) (by decide +kernel) (by decide) rfl, r1⟩
theorem Txt.f_Deed_highs (T : Txt K mg) : FldOf K "highs" (fun d : QDeed => d.highs) := fun F v d ⟨a, dx, vs, e, hF, ra_⟩ => by
  obtain ⟨v0, _, rfl, r0, ⟨v1, _, rfl, r1, ⟨v2, _, rfl, r2, ⟨v3, _, rfl, r3, ⟨v4, _, rfl, r4, ⟨v5, _, rfl, r5, ⟨v6, _, rfl, r6, rfl⟩⟩⟩⟩⟩⟩⟩ := ra_
  exact ⟨a, _, dx, _, v2, e, hF, T.cl_Deed, T.na_Deed_highs, zlook (i := 2) (by decide +kernel) (by decide) rfl, r2⟩
theorem Txt.f_Deed_table (T : Txt K mg) : FldOf K "table" (fun d : QDeed => d.table) := fun F v d ⟨a, dx, vs, e, hF, ra_⟩ => by
  obtain ⟨v0, _, rfl, r0, ⟨v1, _, rfl, r1, ⟨v2, _, rfl, r2, ⟨v3, _, rfl, r3, ⟨v4, _, rfl, r4, ⟨v5, _, rfl, r5, ⟨v6, _, rfl, r6, rfl⟩⟩⟩⟩⟩⟩⟩ := ra_
  exact ⟨a, _, dx, _, v3, e, hF, T.cl_Deed, T.na_Deed_table, zlook (i := 3) (by decide +kernel) (by decide) rfl, r3⟩
theorem Txt.f_Deed_spots (T : Txt K mg) : FldOf K "spots" (fun d : QDeed => d.spots) := fun F v d ⟨a, dx, vs, e, hF, ra_⟩ => by
  obtain ⟨v0, _, rfl, r0, ⟨v1, _, rfl, r1, ⟨v2, _, rfl, r2, ⟨v3, _, rfl, r3, ⟨v4, _, rfl, r4, ⟨v5, _, rfl, r5, ⟨v6, _, rfl, r6, rfl⟩⟩⟩⟩⟩⟩⟩ := ra_
  exact ⟨a, _, dx, _, v4, e, hF, T.cl_Deed, T.na_Deed_spots, zlook (i := 4) (by decide +kernel) (by decide) rfl, r4⟩
theorem Txt.f_Deed_term (T : Txt K mg) : FldOf K "term" (fun d : QDeed => d.term) := fun F v d ⟨a, dx, vs, e, hF, ra_⟩ => by
  obtain ⟨v0, _, rfl, r0, ⟨v1, _, rfl, r1, ⟨v2, _, rfl, r2, ⟨v3, _, rfl, r3, ⟨v4, _, rfl, r4, ⟨v5, _, rfl, r5, ⟨v6, _, rfl, r6, rfl⟩⟩⟩⟩⟩⟩⟩ := ra_
  exact ⟨a, _, dx, _, v5, e, hF, T.cl_Deed, T.na_Deed_term, zlook (i := 5) (by decide +kernel) (by decide) rfl, r5⟩
theorem Txt.f_Deed_path (T : Txt K mg) : FldOf K "path" (fun d : QDeed => d.path) := fun F v d ⟨a, dx, vs, e, hF, ra_⟩ => by
  obtain ⟨v0, _, rfl, r0, ⟨v1, _, rfl, r1, ⟨v2, _, rfl, r2, ⟨v3, _, rfl, r3, ⟨v4, _, rfl, r4, ⟨v5, _, rfl, r5, ⟨v6, _, rfl, r6, rfl⟩⟩⟩⟩⟩⟩⟩ := ra_
  exact ⟨a, _, dx, _, v6, e, hF, T.cl_Deed, T.na_Deed_path, zlook (i := 6) (by decide +kernel) (by decide) rfl, r6⟩
theorem Txt.f_Number_n (T : Txt K mg) : FldOf K "n" (fun d : QNumber => d.n) := fun F v d ⟨a, dx, vs, e, hF, ra_⟩ => by
  obtain ⟨v0, _, rfl, r0, rfl⟩ := ra_
  exact ⟨a, _, dx, _, v0, e, hF, T.cl_Number, T.na_Number_n, zlook (i := 0) (by decide +kernel) (by decide) rfl, r0⟩
/-! cell_at -/
theorem sc_cell_at : FnScope ["_law_script", "_law_k"] ["_law_script", "_law_k"] (defScope s_cell_at) := ⟨rfl, rfl, rfl, by decide +kernel, rfl, by decide +kernel, by decide +kernel⟩
theorem b_cell_at (T : Txt K mg) : Binds K T.d_cell_at ["_law_script", "_law_k"] [] := T.F_cell_at.bindsN fun _ _ _ _ _ _ us hl => match us, hl with | [_, _], _ => rfl
theorem ok_cell_at (T : Txt K mg) : FnOk P w K mg base CX0 1 (He.fAd K ("_law_cell_at", none)) T.d_cell_at ["_law_script", "_law_k"] (Pr K fun (a_ : (List Int) × Int × Unit) => m_cell_at a_.1 a_.2.1) := by
  refine fn_ok T.F_cell_at sc_cell_at rfl fun cdv A outer s_ F0 H0 vs a_ r D_ E_ hr sm_ ra_ hm kr kn => ?_
  obtain ⟨v_script, _, rfl, r_script, v_k, _, rfl, r_k, rfl⟩ := ra_
  obtain ⟨x_script, x_k, _u⟩ := a_
  have G : Gr F0 H0 F0 H0 := Gr.refl sm_
  replace hm : m_cell_at x_script x_k = some r := hm
  unfold m_cell_at at hm
  have r_script : rp (α := (List Int)) K F0 v_script x_script := r_script
  have r_k : rp (α := Int) K F0 v_k x_k := r_k
  refine go_if (t := (decide (x_k < (x_script.length : Int)))) G.fh (et_cmp op_lt o2_lt (ev_var 1 rfl r_k) (ev_callB call_len_seq oc_lenL T.n_len PySem.boot_len (ea_cons (ev_var 0 rfl r_script) ea_nil)) (nomark _)) (fun hc F H g => ?_) (fun hc F H g => ?_)
  · replace hm := ipos hc hm
    have G := G.trans g
    have r_script := Rp.mono g.ff r_script
    have r_k := Rp.mono g.ff r_k
    obtain ⟨t1, h_t1, hm⟩ := Option.bind_eq_some_iff.mp hm
    exact go_ret G.fh (ev_ixL (ev_var 0 rfl r_script) (ev_var 1 rfl r_k) h_t1) fun v_ F_ H_ g_ rv_ => kr _ _ _ (G.trans g_) (cg (Option.some.inj hm) rv_)
  · replace hm := ineg (nt hc) hm
    have G := G.trans g
    have r_script := Rp.mono g.ff r_script
    have r_k := Rp.mono g.ff r_k
    refine GoS.nil ?_
    exact go_ret G.fh ev_int fun v_ F_ H_ g_ rv_ => kr _ _ _ (G.trans g_) (cg (Option.some.inj hm) rv_)
/-! mixed -/
theorem sc_mixed : FnScope ["_law_cell", "_law_k", "_law_number"] ["_law_cell", "_law_k"] (defScope s_mixed) := ⟨rfl, rfl, rfl, by decide +kernel, rfl, by decide +kernel, by decide +kernel⟩
theorem b_mixed (T : Txt K mg) : Binds K T.d_mixed ["_law_cell", "_law_k"] [] := T.F_mixed.bindsN fun _ _ _ _ _ _ us hl => match us, hl with | [_, _], _ => rfl
theorem ok_mixed (T : Txt K mg) : FnOk P w K mg base CX0 1 (He.fAd K ("_law_mixed", none)) T.d_mixed ["_law_cell", "_law_k"] (Pr K fun (a_ : Int × Int × Unit) => m_mixed a_.1 a_.2.1) := by
  refine fn_ok T.F_mixed sc_mixed rfl fun cdv A outer s_ F0 H0 vs a_ r D_ E_ hr sm_ ra_ hm kr kn => ?_
  obtain ⟨v_cell, _, rfl, r_cell, v_k, _, rfl, r_k, rfl⟩ := ra_
  obtain ⟨x_cell, x_k, _u⟩ := a_
  have G : Gr F0 H0 F0 H0 := Gr.refl sm_
  replace hm : m_mixed x_cell x_k = some r := hm
  unfold m_mixed at hm
  have r_cell : rp (α := Int) K F0 v_cell x_cell := r_cell
  have r_k : rp (α := Int) K F0 v_k x_k := r_k
  obtain ⟨t1, h_t1, hm⟩ := Option.bind_eq_some_iff.mp hm
  obtain ⟨x_number, he, hm⟩ := Option.bind_eq_some_iff.mp hm
  refine go_set (α := Int) 2 G.fh (ev_mod (ev_add (ev_add (ev_mulG (ev_mod (ev_var 0 rfl r_cell) ev_int (by decide)) (ev_add ev_int (ev_mul ev_int (ev_var 1 rfl r_k) (CMul.l (by decide)))) h_t1) (ev_mul ev_int (ev_var 1 rfl r_k) (CMul.l (by decide)))) ev_int) ev_int (by decide)) (fun v_number F H g rn_ => ?_) sc_mixed.nd
  have G := G.trans g
  have r_cell := Rp.mono g.ff r_cell
  have r_k := Rp.mono g.ff r_k
  have r_number := cg (Option.some.inj he) rn_
  obtain ⟨t2, h_t2, hm⟩ := Option.bind_eq_some_iff.mp hm
  exact go_ret G.fh (ev_mod (ev_mulG (ev_var 2 rfl r_number) (ev_var 2 rfl r_number) h_t2) ev_int (by decide)) fun v_ F_ H_ g_ rv_ => kr _ _ _ (G.trans g_) (cg (Option.some.inj hm) rv_)
/-! pair -/
theorem sc_pair : FnScope ["_law_split", "_law_left", "_law_loops", "_law_q", "_law_far", "_law_shift"] ["_law_split", "_law_left", "_law_loops", "_law_q", "_law_far"] (defScope s_pair) := ⟨rfl, rfl, rfl, by decide +kernel, rfl, by decide +kernel, by decide +kernel⟩
theorem b_pair (T : Txt K mg) : Binds K T.d_pair ["_law_split", "_law_left", "_law_loops", "_law_q", "_law_far"] [] := T.F_pair.bindsN fun _ _ _ _ _ _ us hl => match us, hl with | [_, _, _, _, _], _ => rfl
theorem ok_pair (T : Txt K mg) : FnOk P w K mg base CX0 1 (He.fAd K ("_law_pair", none)) T.d_pair ["_law_split", "_law_left", "_law_loops", "_law_q", "_law_far"] (PrM K fun (a_ : Bool × Unit) (x_ : (List Int)) (b_ : Int × Int × Int × Unit) => m_pair a_.1 x_ b_.1 b_.2.1 b_.2.2.1) := by
  refine fn_okM' T.F_pair sc_pair rfl fun cdv A outer s_ F0 H0 Hs_ l_left vs1_ vs2_ a_ x_left b_ r D_ E_ hr G o_left ra_ rb_ hm kr kn => ?_
  obtain ⟨v_split, _, rfl, r_split, rfl⟩ := ra_
  obtain ⟨x_split, _u⟩ := a_
  obtain ⟨v_loops, _, rfl, r_loops, v_q, _, rfl, r_q, v_far, _, rfl, r_far, rfl⟩ := rb_
  obtain ⟨x_loops, x_q, x_far, _u⟩ := b_
  replace hm : m_pair x_split x_left x_loops x_q x_far = some r := hm
  unfold m_pair at hm
  have r_split : rp (α := Bool) K F0 v_split x_split := r_split
  have r_loops : rp (α := Int) K F0 v_loops x_loops := r_loops
  have r_q : rp (α := Int) K F0 v_q x_q := r_q
  have r_far : rp (α := Int) K F0 v_far x_far := r_far
  obtain ⟨t1, h_t1, hm⟩ := Option.bind_eq_some_iff.mp hm
  obtain ⟨x_shift, he, hm⟩ := Option.bind_eq_some_iff.mp hm
  refine go_set (α := Int) 5 G.fh (ev_ixTp (ev_tp (el_cons ev_int (el_cons ev_int (el_cons (ev_neg ev_int) (el_cons ev_int (el_cons ev_int (el_cons ev_int (el_cons (ev_neg ev_int) (el_cons ev_int el_nil)))))))) (by show 8 ≤ sizeLine; decide)) (ev_mod (ev_var 3 rfl r_q) ev_int (by decide)) h_t1) (fun v_shift F H g rn_ => ?_) sc_pair.nd
  have G := G.trans g
  have r_split := Rp.mono g.ff r_split
  have o_left := o_left.up g
  have r_loops := Rp.mono g.ff r_loops
  have r_q := Rp.mono g.ff r_q
  have r_far := Rp.mono g.ff r_far
  have r_shift := cg (Option.some.inj he) rn_
  obtain ⟨b2, hj, hm⟩ := Option.bind_eq_some_iff.mp hm
  refine go_ifj (t := (decide (((x_q / (8 : Int)) % (8 : Int)) = (1 : Int)))) (fun σ_ H_ => ∃ (F_ : Hp) (v_shift : V), L2.Same F F_ ∧ σ_ = [some v_split, some (.ref l_left), some v_loops, some v_q, some v_far, some v_shift] ∧ Gr F0 H0 F_ H_ ∧ rp (α := Int) K F_ v_shift b2 ∧ Own K H0 F_ H_ l_left x_left) G.fh (et_cmp op_eq o2_eq (ev_mod (ev_div (ev_var 3 rfl r_q) ev_int ⟨by decide, by decide⟩) ev_int (by decide)) ev_int (nomark _)) (fun hc F H g => ?_) (fun hc F H g => ?_) (fun σ_ H hP_ => ?_)
  · replace hj := ipos hc hj
    clear hm
    have hm := hj
    clear hj
    have G := G.trans g
    have r_split := Rp.mono g.ff r_split
    have o_left := o_left.up g
    have r_loops := Rp.mono g.ff r_loops
    have r_q := Rp.mono g.ff r_q
    have r_far := Rp.mono g.ff r_far
    have r_shift := Rp.mono g.ff r_shift
    have sj3 := g.ff
    obtain ⟨x_shift, he, hm⟩ := Option.bind_eq_some_iff.mp hm
    refine go_set (α := Int) 5 G.fh (ev_add (ev_var 5 rfl r_shift) (ev_var 4 rfl r_far)) (fun v_shift F H g rn_ => ?_) sc_pair.nd
    have G := G.trans g
    have r_split := Rp.mono g.ff r_split
    have o_left := o_left.up g
    have r_loops := Rp.mono g.ff r_loops
    have r_q := Rp.mono g.ff r_q
    have r_far := Rp.mono g.ff r_far
    have sj3 := sj3.trans g.ff
    have r_shift := cg (Option.some.inj he) rn_
    have hm := Option.some.inj hm
    subst hm
    exact GoS.nil ⟨_, _, sj3, rfl, G, r_shift, o_left⟩
  · replace hj := ineg (nt hc) hj
    clear hm
    have hm := hj
    clear hj
    have G := G.trans g
    have r_split := Rp.mono g.ff r_split
    have o_left := o_left.up g
    have r_loops := Rp.mono g.ff r_loops
    have r_q := Rp.mono g.ff r_q
    have r_far := Rp.mono g.ff r_far
    have r_shift := Rp.mono g.ff r_shift
    have sj3 := g.ff
    have hm := Option.some.inj hm
    subst hm
    exact GoS.nil ⟨_, _, sj3, rfl, G, r_shift, o_left⟩
  obtain ⟨F, v_shift, sj_, rfl, G, r_shift, o_left⟩ := hP_
  have r_split := Rp.mono sj_ r_split
  have r_loops := Rp.mono sj_ r_loops
  have r_q := Rp.mono sj_ r_q
  refine go_if (t := x_split) G.fh (et_val (ev_var 0 rfl r_split)) (fun hc F H g => ?_) (fun hc F H g => ?_)
  · replace hm := ipos hc hm
    have G := G.trans g
    have r_split := Rp.mono g.ff r_split
    have o_left := o_left.up g
    have r_loops := Rp.mono g.ff r_loops
    have r_q := Rp.mono g.ff r_q
    have r_shift := Rp.mono g.ff r_shift
    obtain ⟨t4, h_t4, hm⟩ := Option.bind_eq_some_iff.mp hm
    obtain rfl := Option.some.inj hm
    exact go_ret (α := (T2 Int Int)) G.fh (ev_tup2 (ea_cons (ev_modG (ev_div (ev_var 3 rfl r_q) ev_int ⟨by decide, by decide⟩) (ev_var 2 rfl r_loops) h_t4) (ea_cons (ev_var 5 rfl r_shift) ea_nil))) fun v_ F_ H_ g_ rv_ => kr _ _ _ (G.trans g_) (o_left.up g_) rv_
  · replace hm := ineg (nt hc) hm
    have G := G.trans g
    have r_split := Rp.mono g.ff r_split
    have o_left := o_left.up g
    have r_loops := Rp.mono g.ff r_loops
    have r_q := Rp.mono g.ff r_q
    have r_shift := Rp.mono g.ff r_shift
    refine GoS.nil ?_
    obtain ⟨t5, h_t5, hm⟩ := Option.bind_eq_some_iff.mp hm
    obtain rfl := Option.some.inj hm
    exact go_retM (ρ := (T2 Int Int)) (β := (List Int)) G.fh (em_tup2a o_left (em_pop1 1 o_left rfl ev_int h_t5) (ev_var 5 rfl r_shift)) fun v_ F_ H_ ob_ g_ fl_ hl_ rb_ rv_ => kr _ _ _ (G.over o_left.n g_) (Own.mk' o_left.n fl_ hl_ rb_) rv_
/-! bough -/
theorem sc_bough : FnScope ["_law_k", "_law_loops", "_law_prior", "_law_cell", "_law_far", "_law_left", "_law_wish", "_law_ways", "_law_places", "_law_way", "_law_share", "_law_q", "_law_split"] ["_law_k", "_law_loops", "_law_prior", "_law_cell", "_law_far"] (defScope s_bough) := ⟨rfl, rfl, rfl, by decide +kernel, rfl, by decide +kernel, by decide +kernel⟩
theorem b_bough (T : Txt K mg) : Binds K T.d_bough ["_law_k", "_law_loops", "_law_prior", "_law_cell", "_law_far"] [] := T.F_bough.bindsN fun _ _ _ _ _ _ us hl => match us, hl with | [_, _, _, _, _], _ => rfl
theorem ok_bough (T : Txt K mg) : FnOk P w K mg base CX0 2 (He.fAd K ("_law_bough", none)) T.d_bough ["_law_k", "_law_loops", "_law_prior", "_law_cell", "_law_far"] (Pr K fun (a_ : Int × Int × (List (T2 Bool Str)) × Int × Int × Unit) => m_bough a_.1 a_.2.1 a_.2.2.1 a_.2.2.2.1 a_.2.2.2.2.1) := by
  refine fn_ok T.F_bough sc_bough rfl fun cdv A outer s_ F0 H0 vs a_ r D_ E_ hr sm_ ra_ hm kr kn => ?_
  obtain ⟨v_k, _, rfl, r_k, v_loops, _, rfl, r_loops, v_prior, _, rfl, r_prior, v_cell, _, rfl, r_cell, v_far, _, rfl, r_far, rfl⟩ := ra_
  obtain ⟨x_k, x_loops, x_prior, x_cell, x_far, _u⟩ := a_
  have G : Gr F0 H0 F0 H0 := Gr.refl sm_
  replace hm : m_bough x_k x_loops x_prior x_cell x_far = some r := hm
  unfold m_bough at hm
  have r_k : rp (α := Int) K F0 v_k x_k := r_k
  have r_loops : rp (α := Int) K F0 v_loops x_loops := r_loops
  have r_prior : rp (α := (List (T2 Bool Str))) K F0 v_prior x_prior := r_prior
  have r_cell : rp (α := Int) K F0 v_cell x_cell := r_cell
  have r_far : rp (α := Int) K F0 v_far x_far := r_far
  obtain ⟨t1, h_t1, hm⟩ := Option.bind_eq_some_iff.mp hm
  obtain ⟨x_left, he, hm⟩ := Option.bind_eq_some_iff.mp hm
  refine go_setN (α := (List Int)) 5 G.fh (en_listRg1 T.n_list T.n_range (ev_var 1 rfl r_loops) h_t1) (fun l_left vs_ F H g nl_ fl_ hl_ rs_ => ?_) sc_bough.nd
  have n0_ := G.hh.free nl_
  have G := G.trans g
  have r_k := Rp.mono g.ff r_k
  have r_loops := Rp.mono g.ff r_loops
  have r_prior := Rp.mono g.ff r_prior
  have r_cell := Rp.mono g.ff r_cell
  have r_far := Rp.mono g.ff r_far
  have o_left : Own K _ F H l_left _ := Own.cg (Option.some.inj he) ⟨n0_, fl_, vs_, hl_, rs_⟩
  obtain ⟨t2, h_t2, hm⟩ := Option.bind_eq_some_iff.mp hm
  obtain ⟨b3, hj, hm⟩ := Option.bind_eq_some_iff.mp hm
  refine go_ifj (t := (decide ((t2 % (2 : Int)) = (1 : Int)))) (fun σ_ H_ => ∃ (F_ : Hp), L2.Same F F_ ∧ σ_ = [some v_k, some v_loops, some v_prior, some v_cell, some v_far, some (.ref l_left), none, none, none, none, none, none, none] ∧ Gr F0 H0 F_ H_ ∧ Own K H0 F_ H_ l_left b3) G.fh (et_cmp op_eq o2_eq (ev_mod (ev_call (ok_mixed T) (hr.mono (by omega)) T.g_mixed T.F_mixed.kp (b_mixed T) (ea_cons (ev_var 3 rfl r_cell) (ea_cons ev_int ea_nil)) h_t2) ev_int (by decide)) ev_int (nomark _)) (fun hc F H g => ?_) (fun hc F H g => ?_) (fun σ_ H hP_ => ?_)
  · replace hj := ipos hc hj
    clear hm
    have hm := hj
    clear hj
    have G := G.trans g
    have r_k := Rp.mono g.ff r_k
    have r_loops := Rp.mono g.ff r_loops
    have r_prior := Rp.mono g.ff r_prior
    have r_cell := Rp.mono g.ff r_cell
    have r_far := Rp.mono g.ff r_far
    have o_left := o_left.up g
    have sj4 := g.ff
    refine go_exprM (ρ := Unit) (β := (List Int)) G.fh (em_reverse 5 o_left rfl) (fun F H ob_ g fl_ hl_ rb_ => ?_)
    have Gm_ := G.over o_left.n g
    have r_k := Rp.mono g.ff r_k
    have r_loops := Rp.mono g.ff r_loops
    have r_prior := Rp.mono g.ff r_prior
    have r_cell := Rp.mono g.ff r_cell
    have r_far := Rp.mono g.ff r_far
    have sj4 := sj4.trans g.ff
    have G := Gm_
    have o_left := Own.mk' o_left.n fl_ hl_ rb_
    have hm := Option.some.inj hm
    subst hm
    exact GoS.nil ⟨_, sj4, rfl, G, o_left⟩
  · replace hj := ineg (nt hc) hj
    clear hm
    have hm := hj
    clear hj
    have G := G.trans g
    have r_k := Rp.mono g.ff r_k
    have r_loops := Rp.mono g.ff r_loops
    have r_prior := Rp.mono g.ff r_prior
    have r_cell := Rp.mono g.ff r_cell
    have r_far := Rp.mono g.ff r_far
    have o_left := o_left.up g
    have sj4 := g.ff
    have hm := Option.some.inj hm
    subst hm
    exact GoS.nil ⟨_, sj4, rfl, G, o_left⟩
  obtain ⟨F, sj_, rfl, G, o_left⟩ := hP_
  have r_k := Rp.mono sj_ r_k
  have r_loops := Rp.mono sj_ r_loops
  have r_prior := Rp.mono sj_ r_prior
  have r_cell := Rp.mono sj_ r_cell
  have r_far := Rp.mono sj_ r_far
  obtain ⟨t5, h_t5, hm⟩ := Option.bind_eq_some_iff.mp hm
  obtain ⟨x_wish, he, hm⟩ := Option.bind_eq_some_iff.mp hm
  refine go_set (α := Int) 6 G.fh (ev_mod (ev_call (ok_mixed T) (hr.mono (by omega)) T.g_mixed T.F_mixed.kp (b_mixed T) (ea_cons (ev_var 3 rfl r_cell) (ea_cons ev_int ea_nil)) h_t5) ev_int (by decide)) (fun v_wish F H g rn_ => ?_) sc_bough.nd
  have G := G.trans g
  have r_k := Rp.mono g.ff r_k
  have r_loops := Rp.mono g.ff r_loops
  have r_prior := Rp.mono g.ff r_prior
  have r_cell := Rp.mono g.ff r_cell
  have r_far := Rp.mono g.ff r_far
  have o_left := o_left.up g
  have r_wish := cg (Option.some.inj he) rn_
  obtain ⟨x_ways, he, hm⟩ := Option.bind_eq_some_iff.mp hm
  refine go_setN (α := (List (T2 Bool Str))) 7 G.fh (en_list el_nil (Nat.zero_le _)) (fun l_ways vs_ F H g nl_ fl_ hl_ rs_ => ?_) sc_bough.nd
  have d_left_ways : l_left ≠ l_ways := fun e_ => o_left.ne0 (e_.symm ▸ nl_)
  have n0_ := G.hh.free nl_
  have G := G.trans g
  have r_k := Rp.mono g.ff r_k
  have r_loops := Rp.mono g.ff r_loops
  have r_prior := Rp.mono g.ff r_prior
  have r_cell := Rp.mono g.ff r_cell
  have r_far := Rp.mono g.ff r_far
  have o_left := o_left.up g
  have r_wish := Rp.mono g.ff r_wish
  have o_ways : Own K _ F H l_ways _ := Own.cg (Option.some.inj he) ⟨n0_, fl_, vs_, hl_, rs_⟩
  obtain ⟨x_places, he, hm⟩ := Option.bind_eq_some_iff.mp hm
  refine go_setN (α := (List (T2 Int Int))) 8 G.fh (en_list el_nil (Nat.zero_le _)) (fun l_places vs_ F H g nl_ fl_ hl_ rs_ => ?_) sc_bough.nd
  have d_left_places : l_left ≠ l_places := fun e_ => o_left.ne0 (e_.symm ▸ nl_)
  have d_places_ways : l_places ≠ l_ways := fun e_ => o_ways.ne0 (e_ ▸ nl_)
  have n0_ := G.hh.free nl_
  have G := G.trans g
  have r_k := Rp.mono g.ff r_k
  have r_loops := Rp.mono g.ff r_loops
  have r_prior := Rp.mono g.ff r_prior
  have r_cell := Rp.mono g.ff r_cell
  have r_far := Rp.mono g.ff r_far
  have o_left := o_left.up g
  have r_wish := Rp.mono g.ff r_wish
  have o_ways := o_ways.up g
  have o_places : Own K _ F H l_places _ := Own.cg (Option.some.inj he) ⟨n0_, fl_, vs_, hl_, rs_⟩
  obtain ⟨o8, ho_, hm⟩ := Option.bind_eq_some_iff.mp hm
  refine go_forM G.fh (ei_list (ev_var 2 rfl r_prior)) (pg_name (i := 9) sc_bough.nd rfl (by first | exact Or.inl rfl | exact Or.inr rfl)) ho_ hm (fun F H g => ?_) PassesOwn.never
  have G := G.trans g
  have r_k := Rp.mono g.ff r_k
  have r_loops := Rp.mono g.ff r_loops
  have r_cell := Rp.mono g.ff r_cell
  have r_far := Rp.mono g.ff r_far
  have o_left := o_left.up g
  have r_wish := Rp.mono g.ff r_wish
  have o_ways := o_ways.up g
  have o_places := o_places.up g
  refine ⟨fun (b6 : ((List (T2 Bool Str)) × (List (T2 Int Int)) × (List Int))) σ_ F_ H_ => ∃ (u_way : Option V), σ_ = [some v_k, some v_loops, some v_prior, some v_cell, some v_far, some (.ref l_left), some v_wish, some (.ref l_ways), some (.ref l_places), u_way, none, none, none] ∧ Gr F0 H0 F_ H_ ∧ Own K H0 F_ H_ l_ways b6.1 ∧ Own K H0 F_ H_ l_places b6.2.1 ∧ Own K H0 F_ H_ l_left b6.2.2, fun r_ v_ H_ => ∃ F_, Gr F0 H0 F_ H_ ∧ rp K F_ v_ r_, ⟨_, rfl, G, o_ways, o_places, o_left⟩, ?_, ?_, ?_⟩
  ·
    intro b6 x_way o_ hm σ_ F H v_way s1_ s2_ iv_ F H g r_way Q_ hQ_
    obtain ⟨u_way, rfl, G, o_ways, o_places, o_left⟩ := iv_
    have sb9 := g.ff
    have r_loops := Rp.mono s1_ r_loops
    have r_cell := Rp.mono s1_ r_cell
    have r_far := Rp.mono s1_ r_far
    have r_wish := Rp.mono s1_ r_wish
    have G := G.trans g
    have r_loops := Rp.mono g.ff r_loops
    have r_cell := Rp.mono g.ff r_cell
    have r_far := Rp.mono g.ff r_far
    have o_left := o_left.up g
    have r_wish := Rp.mono g.ff r_wish
    have o_ways := o_ways.up g
    have o_places := o_places.up g
    refine hQ_ _ _ ?_
    refine go_if (t := ((decide ((b6.1.length : Int) = x_wish)) || ((decide (x_loops = (0 : Int))) || (b6.2.2.isEmpty && (!x_way.a))))) G.fh (et_thaw o_left G.fh (fun F H s_ s2_ rf_ k_ => by
          have r_loops := Rp.mono s_ r_loops
          have r_cell := Rp.mono s_ r_cell
          have r_far := Rp.mono s_ r_far
          have r_wish := Rp.mono s_ r_wish
          have r_way := Rp.mono s_ r_way
          have rf_left := rf_
          have o_ways := o_ways.keepF (d_left_ways.symm) s_ k_
          exact (et_thaw o_ways s2_ (fun F H s_ s2_ rf_ k_ => by
          have r_loops := Rp.mono s_ r_loops
          have r_cell := Rp.mono s_ r_cell
          have r_far := Rp.mono s_ r_far
          have r_wish := Rp.mono s_ r_wish
          have r_way := Rp.mono s_ r_way
          have rf_ways := rf_
          have rf_left := Rp.mono s_ rf_left
          exact (EvW.t (ew_orP (et_cmp op_eq o2_eq (ev_callB call_len_seq oc_lenL T.n_len PySem.boot_len (ea_cons (ev_var 7 rfl rf_ways) ea_nil)) (ev_var 6 rfl r_wish) (nomark _)) (ew_orP (et_cmp op_eq o2_eq (ev_var 1 rfl r_loops) ev_int (nomark _)) (ew_or1 (EvW.t (ew_andP (et_cmp (op_eqE hr.units0) o2_eqEL (ev_var 5 rfl rf_left) (EvN.ev (α := (List Int)) (en_list el_nil (Nat.zero_le _))) (nomark _)) (ew_and1 (et_not (et_val (ev_ixT (ev_var 9 rfl r_way) ev_int pj0)))))))))))))) (fun hc F H g => ?_) (fun hc F H g => ?_)
    · replace hm := ipos hc hm
      have G := G.trans g
      have r_loops := Rp.mono g.ff r_loops
      have r_cell := Rp.mono g.ff r_cell
      have r_far := Rp.mono g.ff r_far
      have o_left := o_left.up g
      have r_wish := Rp.mono g.ff r_wish
      have o_ways := o_ways.up g
      have o_places := o_places.up g
      have r_way := Rp.mono g.ff r_way
      have sb9 := sb9.trans g.ff
      exact go_brk ⟨_, _, (Option.some.inj hm).symm, sb9, G.fh, ⟨_, rfl, G, o_ways, o_places, o_left⟩⟩
    · replace hm := ineg (nt hc) hm
      have G := G.trans g
      have r_loops := Rp.mono g.ff r_loops
      have r_cell := Rp.mono g.ff r_cell
      have r_far := Rp.mono g.ff r_far
      have o_left := o_left.up g
      have r_wish := Rp.mono g.ff r_wish
      have o_ways := o_ways.up g
      have o_places := o_places.up g
      have r_way := Rp.mono g.ff r_way
      have sb9 := sb9.trans g.ff
      refine GoS.nil ?_
      refine go_if (t := ((decide (((b6.1.length : Int) + (b6.2.2.length : Int)) = (6 : Int))) && x_way.a)) G.fh (et_thaw o_left G.fh (fun F H s_ s2_ rf_ k_ => by
          have r_loops := Rp.mono s_ r_loops
          have r_cell := Rp.mono s_ r_cell
          have r_far := Rp.mono s_ r_far
          have r_way := Rp.mono s_ r_way
          have rf_left := rf_
          have o_ways := o_ways.keepF (d_left_ways.symm) s_ k_
          exact (et_thaw o_ways s2_ (fun F H s_ s2_ rf_ k_ => by
          have r_loops := Rp.mono s_ r_loops
          have r_cell := Rp.mono s_ r_cell
          have r_far := Rp.mono s_ r_far
          have r_way := Rp.mono s_ r_way
          have rf_ways := rf_
          have rf_left := Rp.mono s_ rf_left
          exact (EvW.t (ew_andP (et_cmp op_eq o2_eq (ev_add (ev_callB call_len_seq oc_lenL T.n_len PySem.boot_len (ea_cons (ev_var 7 rfl rf_ways) ea_nil)) (ev_callB call_len_seq oc_lenL T.n_len PySem.boot_len (ea_cons (ev_var 5 rfl rf_left) ea_nil))) ev_int (nomark _)) (ew_and1 (et_val (ev_ixT (ev_var 9 rfl r_way) ev_int pj0))))))))) (fun hc F H g => ?_) (fun hc F H g => ?_)
      · replace hm := ipos hc hm
        have G := G.trans g
        have r_loops := Rp.mono g.ff r_loops
        have r_cell := Rp.mono g.ff r_cell
        have r_far := Rp.mono g.ff r_far
        have o_left := o_left.up g
        have o_ways := o_ways.up g
        have o_places := o_places.up g
        have r_way := Rp.mono g.ff r_way
        have sb9 := sb9.trans g.ff
        exact go_brk ⟨_, _, (Option.some.inj hm).symm, sb9, G.fh, ⟨_, rfl, G, o_ways, o_places, o_left⟩⟩
      · replace hm := ineg (nt hc) hm
        have G := G.trans g
        have r_loops := Rp.mono g.ff r_loops
        have r_cell := Rp.mono g.ff r_cell
        have r_far := Rp.mono g.ff r_far
        have o_left := o_left.up g
        have o_ways := o_ways.up g
        have o_places := o_places.up g
        have r_way := Rp.mono g.ff r_way
        have sb9 := sb9.trans g.ff
        refine GoS.nil ?_
        obtain ⟨t10, he, hm⟩ := Option.bind_eq_some_iff.mp hm
        refine go_append 7 G.fh o_ways rfl (ev_var 9 rfl r_way) he (fun w_ F H g nz_ fz_ on_ => ?_)
        have G := G.trans g
        have r_loops := Rp.mono g.ff r_loops
        have r_cell := Rp.mono g.ff r_cell
        have r_far := Rp.mono g.ff r_far
        have o_left := o_left.up g
        have o_places := o_places.up g
        have r_way := Rp.mono g.ff r_way
        have sb9 := sb9.trans g.ff
        have G := G.poke (u := w_) on_.n fz_
        have o_ways := on_
        have o_left := o_left.other (u := w_) (d_left_ways)
        have o_places := o_places.other (u := w_) (d_places_ways)
        obtain ⟨t11, h_t11, hm⟩ := Option.bind_eq_some_iff.mp hm
        obtain ⟨t12, h_t12, hm⟩ := Option.bind_eq_some_iff.mp hm
        obtain ⟨t13, he, hm⟩ := Option.bind_eq_some_iff.mp hm
        refine go_appendM (ρ := (T2 Int Int)) (β := (List Int)) 8 G.fh o_places (d_left_places.symm) rfl (em_call (ok_pair T) (hr.mono (by omega)) T.g_pair T.F_pair.kp (b_pair T) o_left (eam_cons (ev_ixT (ev_var 9 rfl r_way) ev_int pj0) (eam_here 5 rfl (ea_cons (ev_var 1 rfl r_loops) (ea_cons (ev_thaw o_ways G.fh (fun F H s_ s2_ rf_ k_ => by
          have r_loops := Rp.mono s_ r_loops
          have r_cell := Rp.mono s_ r_cell
          have r_far := Rp.mono s_ r_far
          have r_way := Rp.mono s_ r_way
          have rf_ways := rf_
          exact (ev_call (ok_mixed T) (hr.mono (by omega)) T.g_mixed T.F_mixed.kp (b_mixed T) (ea_cons (ev_var 3 rfl r_cell) (ea_cons (ev_add ev_int (ev_callB call_len_seq oc_lenL T.n_len PySem.boot_len (ea_cons (ev_var 7 rfl rf_ways) ea_nil))) ea_nil)) h_t11))) (ea_cons (ev_var 4 rfl r_far) ea_nil))))) h_t12) he (fun w_ F H ob_ g fl_ hl_ rb_ nz_ fz_ on_ => ?_)
        have Gm_ := G.over o_left.n g
        have r_loops := Rp.mono g.ff r_loops
        have r_cell := Rp.mono g.ff r_cell
        have r_far := Rp.mono g.ff r_far
        have o_ways := o_ways.over (d_left_ways.symm) g
        have r_way := Rp.mono g.ff r_way
        have sb9 := sb9.trans g.ff
        have G := Gm_
        have o_left := Own.mk' o_left.n fl_ hl_ rb_
        have G := G.poke (u := w_) on_.n fz_
        have o_places := on_
        have o_left := o_left.other (u := w_) (d_left_places)
        have o_ways := o_ways.other (u := w_) (d_places_ways.symm)
        exact GoS.nil ⟨_, _, (Option.some.inj hm).symm, sb9, G.fh, ⟨_, rfl, G, o_ways, o_places, o_left⟩⟩
  · intro b14 hm σ_ F H s1_ s2_ iv_
    obtain ⟨u_way, rfl, G, o_ways, o_places, o_left⟩ := iv_
    have r_k := Rp.mono s1_ r_k
    have r_loops := Rp.mono s1_ r_loops
    have r_cell := Rp.mono s1_ r_cell
    have r_far := Rp.mono s1_ r_far
    obtain ⟨x_share, he, hm⟩ := Option.bind_eq_some_iff.mp hm
    refine go_set (α := Int) 10 G.fh (ev_thaw o_ways G.fh (fun F H s_ s2_ rf_ k_ => by
          have r_k := Rp.mono s_ r_k
          have r_loops := Rp.mono s_ r_loops
          have r_cell := Rp.mono s_ r_cell
          have r_far := Rp.mono s_ r_far
          have rf_ways := rf_
          exact (ev_callB call_len_seq oc_lenL T.n_len PySem.boot_len (ea_cons (ev_var 7 rfl rf_ways) ea_nil)))) (fun v_share F H g rn_ => ?_) sc_bough.nd
    have G := G.trans g
    have r_k := Rp.mono g.ff r_k
    have r_loops := Rp.mono g.ff r_loops
    have r_cell := Rp.mono g.ff r_cell
    have r_far := Rp.mono g.ff r_far
    have o_left := o_left.up g
    have o_ways := o_ways.up g
    have o_places := o_places.up g
    have r_share := cg (Option.some.inj he) rn_
    obtain ⟨b28, ho_, hm⟩ := Option.bind_eq_some_iff.mp hm
    refine go_whileN (b0 := (b14.1, b14.2.1, b14.2.2)) (fun (b15 : ((List (T2 Bool Str)) × (List (T2 Int Int)) × (List Int))) σ_ F_ H_ => ∃ (u_q : Option V) (u_split : Option V), σ_ = [some v_k, some v_loops, some v_prior, some v_cell, some v_far, some (.ref l_left), some v_wish, some (.ref l_ways), some (.ref l_places), u_way, some v_share, u_q, u_split] ∧ Gr F0 H0 F_ H_ ∧ Own K H0 F_ H_ l_ways b15.1 ∧ Own K H0 F_ H_ l_places b15.2.1 ∧ Own K H0 F_ H_ l_left b15.2.2) G.fh ⟨_, _, rfl, G, o_ways, o_places, o_left⟩ ho_ ?_ ?_ ?_ PassesOwn.never
    ·
      intro b15 t_ hm σ_ F H s1_ s2_ iv_
      obtain ⟨u_q, u_split, rfl, G, o_ways, o_places, o_left⟩ := iv_
      have r_loops := Rp.mono s1_ r_loops
      have r_cell := Rp.mono s1_ r_cell
      have r_far := Rp.mono s1_ r_far
      obtain ⟨t21, h_t21, hm⟩ := Option.bind_eq_some_iff.mp hm
      refine ⟨EvT.cg (Option.some.inj hm) (et_thaw o_left G.fh (fun F H s_ s2_ rf_ k_ => by
          have r_loops := Rp.mono s_ r_loops
          have r_cell := Rp.mono s_ r_cell
          have r_far := Rp.mono s_ r_far
          have rf_left := rf_
          have o_ways := o_ways.keepF (d_left_ways.symm) s_ k_
          exact (et_thaw o_ways s2_ (fun F H s_ s2_ rf_ k_ => by
          have r_loops := Rp.mono s_ r_loops
          have r_cell := Rp.mono s_ r_cell
          have r_far := Rp.mono s_ r_far
          have rf_ways := rf_
          have rf_left := Rp.mono s_ rf_left
          exact (EvW.t (ew_or (x := (!b15.2.2.isEmpty)) (et_cmp (op_neE hr.units0) o2_neEL (ev_var 5 rfl rf_left) (EvN.ev (α := (List Int)) (en_list el_nil (Nat.zero_le _))) (nomark _)) (fun hc => by
          replace h_t21 := ineg (nt hc) h_t21
          obtain ⟨t20, h_t20, h_t21⟩ := Option.bind_eq_some_iff.mp h_t21
          exact EvW.cg (Option.some.inj h_t21) (ew_or1 (EvW.t (ew_and (x := (decide ((0 : Int) < x_loops))) (et_cmp op_gt o2_gt (ev_var 1 rfl r_loops) ev_int (nomark _)) (fun hc => by
          replace h_t20 := ipos hc h_t20
          obtain ⟨t19, h_t19, h_t20⟩ := Option.bind_eq_some_iff.mp h_t20
          exact EvW.cg (Option.some.inj h_t20) (ew_and (x := (decide ((b15.1.length : Int) < (6 : Int)))) (et_cmp op_lt o2_lt (ev_callB call_len_seq oc_lenL T.n_len PySem.boot_len (ea_cons (ev_var 7 rfl rf_ways) ea_nil)) ev_int (nomark _)) (fun hc => by
          replace h_t19 := ipos hc h_t19
          obtain ⟨t18, h_t18, h_t19⟩ := Option.bind_eq_some_iff.mp h_t19
          exact EvW.cg (Option.some.inj h_t19) (ew_and1 (et_cmp op_eq o2_eq (ev_mod (ev_call (ok_mixed T) (hr.mono (by omega)) T.g_mixed T.F_mixed.kp (b_mixed T) (ea_cons (ev_var 3 rfl r_cell) (ea_cons (ev_add ev_int (ev_callB call_len_seq oc_lenL T.n_len PySem.boot_len (ea_cons (ev_var 7 rfl rf_ways) ea_nil))) ea_nil)) h_t18) ev_int (by decide)) ev_int (nomark _)))) (fun hc => by replace h_t19 := ineg (nt hc) h_t19; exact (Option.some.inj h_t19).symm))) (fun hc => by replace h_t20 := ineg (nt hc) h_t20; exact (Option.some.inj h_t20).symm))))) (fun hc => by replace h_t21 := ipos hc h_t21; exact (Option.some.inj h_t21).symm))))))), fun F H g => ?_⟩
      have G := G.trans g
      have o_ways := o_ways.up g
      have o_places := o_places.up g
      have o_left := o_left.up g
      exact ⟨_, _, rfl, G, o_ways, o_places, o_left⟩
    ·
      intro b15 o_ hm σ_ F H s1_ s2_ iv_
      obtain ⟨u_q, u_split, rfl, G, o_ways, o_places, o_left⟩ := iv_
      have sb17 := L2.Same.refl F
      have r_loops := Rp.mono s1_ r_loops
      have r_cell := Rp.mono s1_ r_cell
      have r_far := Rp.mono s1_ r_far
      obtain ⟨t22, h_t22, hm⟩ := Option.bind_eq_some_iff.mp hm
      obtain ⟨x_q, he, hm⟩ := Option.bind_eq_some_iff.mp hm
      refine go_set (α := Int) 11 G.fh (ev_thaw o_ways G.fh (fun F H s_ s2_ rf_ k_ => by
          have r_loops := Rp.mono s_ r_loops
          have r_cell := Rp.mono s_ r_cell
          have r_far := Rp.mono s_ r_far
          have rf_ways := rf_
          exact (ev_call (ok_mixed T) (hr.mono (by omega)) T.g_mixed T.F_mixed.kp (b_mixed T) (ea_cons (ev_var 3 rfl r_cell) (ea_cons (ev_add ev_int (ev_callB call_len_seq oc_lenL T.n_len PySem.boot_len (ea_cons (ev_var 7 rfl rf_ways) ea_nil))) ea_nil)) h_t22))) (fun v_q F H g rn_ => ?_) sc_bough.nd
      have G := G.trans g
      have r_loops := Rp.mono g.ff r_loops
      have r_cell := Rp.mono g.ff r_cell
      have r_far := Rp.mono g.ff r_far
      have o_left := o_left.up g
      have o_ways := o_ways.up g
      have o_places := o_places.up g
      have sb17 := sb17.trans g.ff
      have r_q := cg (Option.some.inj he) rn_
      obtain ⟨x_split, he, hm⟩ := Option.bind_eq_some_iff.mp hm
      refine go_set (α := Bool) 12 G.fh (ev_thaw o_left G.fh (fun F H s_ s2_ rf_ k_ => by
          have r_loops := Rp.mono s_ r_loops
          have r_cell := Rp.mono s_ r_cell
          have r_far := Rp.mono s_ r_far
          have r_q := Rp.mono s_ r_q
          have rf_left := rf_
          have o_ways := o_ways.keepF (d_left_ways.symm) s_ k_
          exact (ev_thaw o_ways s2_ (fun F H s_ s2_ rf_ k_ => by
          have r_loops := Rp.mono s_ r_loops
          have r_cell := Rp.mono s_ r_cell
          have r_far := Rp.mono s_ r_far
          have r_q := Rp.mono s_ r_q
          have rf_ways := rf_
          have rf_left := Rp.mono s_ rf_left
          exact (ev_andP (ev_cmp op_lt o2_lt (ev_add (ev_callB call_len_seq oc_lenL T.n_len PySem.boot_len (ea_cons (ev_var 7 rfl rf_ways) ea_nil)) (ev_callB call_len_seq oc_lenL T.n_len PySem.boot_len (ea_cons (ev_var 5 rfl rf_left) ea_nil))) ev_int (nomark _)) (ev_one (ev_orP (ev_cmp (op_eqE hr.units0) o2_eqEL (ev_var 5 rfl rf_left) (EvN.ev (α := (List Int)) (en_list el_nil (Nat.zero_le _))) (nomark _)) (ev_one (ev_cmp op_eq o2_eq (ev_mod (ev_var 11 rfl r_q) ev_int (by decide)) ev_int (nomark _)))))))))) (fun v_split F H g rn_ => ?_) sc_bough.nd
      have G := G.trans g
      have r_loops := Rp.mono g.ff r_loops
      have r_cell := Rp.mono g.ff r_cell
      have r_far := Rp.mono g.ff r_far
      have o_left := o_left.up g
      have o_ways := o_ways.up g
      have o_places := o_places.up g
      have r_q := Rp.mono g.ff r_q
      have sb17 := sb17.trans g.ff
      have r_split := cg (Option.some.inj he) rn_
      obtain ⟨t23, h_t23, hm⟩ := Option.bind_eq_some_iff.mp hm
      obtain ⟨t24, he, hm⟩ := Option.bind_eq_some_iff.mp hm
      refine go_append 7 G.fh o_ways rfl (ev_tup2 (ea_cons (ev_var 12 rfl r_split) (ea_cons (ev_ixTp (ev_tp (el_cons ev_str (el_cons ev_str (el_cons ev_str (el_cons ev_str el_nil)))) (by show 4 ≤ sizeLine; decide)) (ev_mod (ev_div (ev_var 11 rfl r_q) ev_int ⟨by decide, by decide⟩) ev_int (by decide)) h_t23) ea_nil))) he (fun w_ F H g nz_ fz_ on_ => ?_)
      have G := G.trans g
      have r_loops := Rp.mono g.ff r_loops
      have r_cell := Rp.mono g.ff r_cell
      have r_far := Rp.mono g.ff r_far
      have o_left := o_left.up g
      have o_places := o_places.up g
      have r_q := Rp.mono g.ff r_q
      have r_split := Rp.mono g.ff r_split
      have sb17 := sb17.trans g.ff
      have G := G.poke (u := w_) on_.n fz_
      have o_ways := on_
      have o_left := o_left.other (u := w_) (d_left_ways)
      have o_places := o_places.other (u := w_) (d_places_ways)
      obtain ⟨t25, h_t25, hm⟩ := Option.bind_eq_some_iff.mp hm
      obtain ⟨t26, h_t26, hm⟩ := Option.bind_eq_some_iff.mp hm
      obtain ⟨t27, he, hm⟩ := Option.bind_eq_some_iff.mp hm
      refine go_appendM (ρ := (T2 Int Int)) (β := (List Int)) 8 G.fh o_places (d_left_places.symm) rfl (em_call (ok_pair T) (hr.mono (by omega)) T.g_pair T.F_pair.kp (b_pair T) o_left (eam_cons (ev_var 12 rfl r_split) (eam_here 5 rfl (ea_cons (ev_var 1 rfl r_loops) (ea_cons (ev_thaw o_ways G.fh (fun F H s_ s2_ rf_ k_ => by
          have r_loops := Rp.mono s_ r_loops
          have r_cell := Rp.mono s_ r_cell
          have r_far := Rp.mono s_ r_far
          have r_split := Rp.mono s_ r_split
          have rf_ways := rf_
          exact (ev_call (ok_mixed T) (hr.mono (by omega)) T.g_mixed T.F_mixed.kp (b_mixed T) (ea_cons (ev_var 3 rfl r_cell) (ea_cons (ev_add ev_int (ev_callB call_len_seq oc_lenL T.n_len PySem.boot_len (ea_cons (ev_var 7 rfl rf_ways) ea_nil))) ea_nil)) h_t25))) (ea_cons (ev_var 4 rfl r_far) ea_nil))))) h_t26) he (fun w_ F H ob_ g fl_ hl_ rb_ nz_ fz_ on_ => ?_)
      have Gm_ := G.over o_left.n g
      have r_loops := Rp.mono g.ff r_loops
      have r_cell := Rp.mono g.ff r_cell
      have r_far := Rp.mono g.ff r_far
      have o_ways := o_ways.over (d_left_ways.symm) g
      have r_split := Rp.mono g.ff r_split
      have sb17 := sb17.trans g.ff
      have G := Gm_
      have o_left := Own.mk' o_left.n fl_ hl_ rb_
      have G := G.poke (u := w_) on_.n fz_
      have o_places := on_
      have o_left := o_left.other (u := w_) (d_left_places)
      have o_ways := o_ways.other (u := w_) (d_places_ways.symm)
      have hm := Option.some.inj hm
      subst hm
      exact GoS.nil ⟨_, sb17, G.fh, ⟨_, _, rfl, G, o_ways, o_places, o_left⟩⟩
    · intro σ_ F H s1_ s2_ iv_
      obtain ⟨u_q, u_split, rfl, G, o_ways, o_places, o_left⟩ := iv_
      have r_k := Rp.mono s1_ r_k
      have r_share := Rp.mono s1_ r_share
      refine o_places.freeze G (fun F H s_ s2_ G r_places k_ => ?_)
      have r_k := Rp.mono s_ r_k
      have o_left := o_left.keepF (d_left_places) s_ k_
      have o_ways := o_ways.keepF (d_places_ways.symm) s_ k_
      have r_share := Rp.mono s_ r_share
      refine o_ways.freeze G (fun F H s_ s2_ G r_ways k_ => ?_)
      have r_k := Rp.mono s_ r_k
      have o_left := o_left.keepF (d_left_ways) s_ k_
      have r_places := Rp.mono s_ r_places
      have r_share := Rp.mono s_ r_share
      exact go_ret G.fh (ev_tup4 (ea_cons (ev_var 0 rfl r_k) (ea_cons (ev_var 10 rfl r_share) (ea_cons (ev_var 7 rfl r_ways) (ea_cons (ev_var 8 rfl r_places) ea_nil))))) fun v_ F_ H_ g_ rv_ => kr _ _ _ (G.trans g_) (cg (Option.some.inj hm) rv_)
  · intro r_ he v_ H_ hv_
    obtain ⟨F_, g_, rv_⟩ := hv_
    exact kr _ _ _ g_ (cg (Option.some.inj he) rv_)
/-! boughs -/
theorem sc_boughs : FnScope ["_law_depths", "_law_script", "_law_first", "_law_far", "_law_left", "_law_boughs_here", "_law_prior", "_law_cell", "_law_k"] ["_law_depths", "_law_script", "_law_first", "_law_far"] (defScope s_boughs) := ⟨rfl, rfl, rfl, by decide +kernel, rfl, by decide +kernel, by decide +kernel⟩
theorem b_boughs (T : Txt K mg) : Binds K T.d_boughs ["_law_depths", "_law_script", "_law_first", "_law_far"] [] := T.F_boughs.bindsN fun _ _ _ _ _ _ us hl => match us, hl with | [_, _, _, _], _ => rfl
theorem ok_boughs (T : Txt K mg) : FnOk P w K mg base CX0 3 (He.fAd K ("_law_boughs", none)) T.d_boughs ["_law_depths", "_law_script", "_law_first", "_law_far"] (Pr K fun (a_ : (List Int) × (List Int) × Int × Int × Unit) => m_boughs a_.1 a_.2.1 a_.2.2.1 a_.2.2.2.1) := by
  refine fn_ok T.F_boughs sc_boughs rfl fun cdv A outer s_ F0 H0 vs a_ r D_ E_ hr sm_ ra_ hm kr kn => ?_
  obtain ⟨v_depths, _, rfl, r_depths, v_script, _, rfl, r_script, v_first, _, rfl, r_first, v_far, _, rfl, r_far, rfl⟩ := ra_
  obtain ⟨x_depths, x_script, x_first, x_far, _u⟩ := a_
  have G : Gr F0 H0 F0 H0 := Gr.refl sm_
  replace hm : m_boughs x_depths x_script x_first x_far = some r := hm
  unfold m_boughs at hm
  have r_depths : rp (α := (List Int)) K F0 v_depths x_depths := r_depths
  have r_script : rp (α := (List Int)) K F0 v_script x_script := r_script
  have r_first : rp (α := Int) K F0 v_first x_first := r_first
  have r_far : rp (α := Int) K F0 v_far x_far := r_far
  obtain ⟨t1, h_t1, hm⟩ := Option.bind_eq_some_iff.mp hm
  obtain ⟨x_left, he, hm⟩ := Option.bind_eq_some_iff.mp hm
  refine go_setN (α := (List Int)) 4 G.fh (en_listRg1 T.n_list T.n_range (ev_callB call_len_seq oc_lenL T.n_len PySem.boot_len (ea_cons (ev_var 0 rfl r_depths) ea_nil)) h_t1) (fun l_left vs_ F H g nl_ fl_ hl_ rs_ => ?_) sc_boughs.nd
  have n0_ := G.hh.free nl_
  have G := G.trans g
  have r_depths := Rp.mono g.ff r_depths
  have r_script := Rp.mono g.ff r_script
  have r_first := Rp.mono g.ff r_first
  have r_far := Rp.mono g.ff r_far
  have o_left : Own K _ F H l_left _ := Own.cg (Option.some.inj he) ⟨n0_, fl_, vs_, hl_, rs_⟩
  obtain ⟨x_boughs_here, he, hm⟩ := Option.bind_eq_some_iff.mp hm
  refine go_setN (α := (List (T4 Int Int (List (T2 Bool Str)) (List (T2 Int Int))))) 5 G.fh (en_list el_nil (Nat.zero_le _)) (fun l_boughs_here vs_ F H g nl_ fl_ hl_ rs_ => ?_) sc_boughs.nd
  have d_boughs_here_left : l_boughs_here ≠ l_left := fun e_ => o_left.ne0 (e_ ▸ nl_)
  have n0_ := G.hh.free nl_
  have G := G.trans g
  have r_depths := Rp.mono g.ff r_depths
  have r_script := Rp.mono g.ff r_script
  have r_first := Rp.mono g.ff r_first
  have r_far := Rp.mono g.ff r_far
  have o_left := o_left.up g
  have o_boughs_here : Own K _ F H l_boughs_here _ := Own.cg (Option.some.inj he) ⟨n0_, fl_, vs_, hl_, rs_⟩
  obtain ⟨x_prior, he, hm⟩ := Option.bind_eq_some_iff.mp hm
  refine go_set (α := (List (T2 Bool Str))) 6 G.fh (EvN.ev (α := (List (T2 Bool Str))) (en_list el_nil (Nat.zero_le _))) (fun v_prior F H g rn_ => ?_) sc_boughs.nd
  have G := G.trans g
  have r_depths := Rp.mono g.ff r_depths
  have r_script := Rp.mono g.ff r_script
  have r_first := Rp.mono g.ff r_first
  have r_far := Rp.mono g.ff r_far
  have o_left := o_left.up g
  have o_boughs_here := o_boughs_here.up g
  have r_prior := cg (Option.some.inj he) rn_
  obtain ⟨b13, ho_, hm⟩ := Option.bind_eq_some_iff.mp hm
  refine go_whileN (b0 := (x_left, x_boughs_here, x_prior)) (fun (b2 : ((List Int) × (List (T4 Int Int (List (T2 Bool Str)) (List (T2 Int Int)))) × (List (T2 Bool Str)))) σ_ F_ H_ => ∃ (u_cell : Option V) (u_k : Option V) (v_prior : V), σ_ = [some v_depths, some v_script, some v_first, some v_far, some (.ref l_left), some (.ref l_boughs_here), some v_prior, u_cell, u_k] ∧ Gr F0 H0 F_ H_ ∧ Own K H0 F_ H_ l_left b2.1 ∧ Own K H0 F_ H_ l_boughs_here b2.2.1 ∧ rp (α := (List (T2 Bool Str))) K F_ v_prior b2.2.2) G.fh ⟨_, _, _, rfl, G, o_left, o_boughs_here, r_prior⟩ ho_ ?_ ?_ ?_ PassesOwn.never
  ·
    intro b2 t_ hm σ_ F H s1_ s2_ iv_
    obtain ⟨u_cell, u_k, v_prior, rfl, G, o_left, o_boughs_here, r_prior⟩ := iv_
    have r_depths := Rp.mono s1_ r_depths
    have r_script := Rp.mono s1_ r_script
    have r_first := Rp.mono s1_ r_first
    have r_far := Rp.mono s1_ r_far
    refine ⟨EvT.cg (Option.some.inj hm) (et_thaw o_left G.fh (fun F H s_ s2_ rf_ k_ => by
          have r_depths := Rp.mono s_ r_depths
          have r_script := Rp.mono s_ r_script
          have r_first := Rp.mono s_ r_first
          have r_far := Rp.mono s_ r_far
          have r_prior := Rp.mono s_ r_prior
          have rf_left := rf_
          exact (et_cmp (op_neE hr.units0) o2_neEL (ev_var 4 rfl rf_left) (EvN.ev (α := (List Int)) (en_list el_nil (Nat.zero_le _))) (nomark _)))), fun F H g => ?_⟩
    have G := G.trans g
    have o_left := o_left.up g
    have o_boughs_here := o_boughs_here.up g
    have r_prior := Rp.mono g.ff r_prior
    exact ⟨_, _, _, rfl, G, o_left, o_boughs_here, r_prior⟩
  ·
    intro b2 o_ hm σ_ F H s1_ s2_ iv_
    obtain ⟨u_cell, u_k, v_prior, rfl, G, o_left, o_boughs_here, r_prior⟩ := iv_
    have sb4 := L2.Same.refl F
    have r_depths := Rp.mono s1_ r_depths
    have r_script := Rp.mono s1_ r_script
    have r_first := Rp.mono s1_ r_first
    have r_far := Rp.mono s1_ r_far
    obtain ⟨t5, h_t5, hm⟩ := Option.bind_eq_some_iff.mp hm
    obtain ⟨x_cell, he, hm⟩ := Option.bind_eq_some_iff.mp hm
    refine go_set (α := Int) 7 G.fh (ev_thaw o_boughs_here G.fh (fun F H s_ s2_ rf_ k_ => by
          have r_depths := Rp.mono s_ r_depths
          have r_script := Rp.mono s_ r_script
          have r_first := Rp.mono s_ r_first
          have r_far := Rp.mono s_ r_far
          have r_prior := Rp.mono s_ r_prior
          have rf_boughs_here := rf_
          exact (ev_call (ok_cell_at T) (hr.mono (by omega)) T.g_cell_at T.F_cell_at.kp (b_cell_at T) (ea_cons (ev_var 1 rfl r_script) (ea_cons (ev_add (ev_var 2 rfl r_first) (ev_callB call_len_seq oc_lenL T.n_len PySem.boot_len (ea_cons (ev_var 5 rfl rf_boughs_here) ea_nil))) ea_nil)) h_t5))) (fun v_cell F H g rn_ => ?_) sc_boughs.nd
    have G := G.trans g
    have r_depths := Rp.mono g.ff r_depths
    have r_script := Rp.mono g.ff r_script
    have r_first := Rp.mono g.ff r_first
    have r_far := Rp.mono g.ff r_far
    have o_left := o_left.up g
    have o_boughs_here := o_boughs_here.up g
    have r_prior := Rp.mono g.ff r_prior
    have sb4 := sb4.trans g.ff
    have r_cell := cg (Option.some.inj he) rn_
    obtain ⟨t6, h_t6, hm⟩ := Option.bind_eq_some_iff.mp hm
    obtain ⟨t7, h_t7, hm⟩ := Option.bind_eq_some_iff.mp hm
    obtain ⟨t8, h_t8, hm⟩ := Option.bind_eq_some_iff.mp hm
    obtain ⟨x_k, he, hm⟩ := Option.bind_eq_some_iff.mp hm
    refine go_setM (ρ := Int) (β := (List Int)) 8 G.fh (em_pop1 4 o_left rfl (ev_thaw o_left G.fh (fun F H s_ s2_ rf_ k_ => by
          have r_depths := Rp.mono s_ r_depths
          have r_far := Rp.mono s_ r_far
          have r_prior := Rp.mono s_ r_prior
          have r_cell := Rp.mono s_ r_cell
          have rf_left := rf_
          exact (ev_modG (ev_div (ev_call (ok_mixed T) (hr.mono (by omega)) T.g_mixed T.F_mixed.kp (b_mixed T) (ea_cons (ev_var 7 rfl r_cell) (ea_cons ev_int ea_nil)) h_t6) ev_int ⟨by decide, by decide⟩) (ev_callB call_len_seq oc_lenL T.n_len PySem.boot_len (ea_cons (ev_var 4 rfl rf_left) ea_nil)) h_t7))) h_t8) (fun v_k F H ob_ g fl_ hl_ rb_ rn_ => ?_) sc_boughs.nd
    have Gm_ := G.over o_left.n g
    have r_depths := Rp.mono g.ff r_depths
    have r_far := Rp.mono g.ff r_far
    have o_boughs_here := o_boughs_here.over (d_boughs_here_left) g
    have r_prior := Rp.mono g.ff r_prior
    have r_cell := Rp.mono g.ff r_cell
    have sb4 := sb4.trans g.ff
    have G := Gm_
    have o_left := Own.mk' o_left.n fl_ hl_ rb_
    have r_k := cg (Option.some.inj he) rn_
    obtain ⟨t9, h_t9, hm⟩ := Option.bind_eq_some_iff.mp hm
    obtain ⟨t10, h_t10, hm⟩ := Option.bind_eq_some_iff.mp hm
    obtain ⟨t11, he, hm⟩ := Option.bind_eq_some_iff.mp hm
    refine go_append 5 G.fh o_boughs_here rfl (ev_call (ok_bough T) (hr.mono (by omega)) T.g_bough T.F_bough.kp (b_bough T) (ea_cons (ev_var 8 rfl r_k) (ea_cons (ev_ixL (ev_var 0 rfl r_depths) (ev_var 8 rfl r_k) h_t9) (ea_cons (ev_var 6 rfl r_prior) (ea_cons (ev_var 7 rfl r_cell) (ea_cons (ev_var 3 rfl r_far) ea_nil))))) h_t10) he (fun w_ F H g nz_ fz_ on_ => ?_)
    have G := G.trans g
    have r_depths := Rp.mono g.ff r_depths
    have r_far := Rp.mono g.ff r_far
    have o_left := o_left.up g
    have r_prior := Rp.mono g.ff r_prior
    have r_cell := Rp.mono g.ff r_cell
    have r_k := Rp.mono g.ff r_k
    have sb4 := sb4.trans g.ff
    have G := G.poke (u := w_) on_.n fz_
    have o_boughs_here := on_
    have o_left := o_left.other (u := w_) (d_boughs_here_left.symm)
    obtain ⟨t12, h_t12, hm⟩ := Option.bind_eq_some_iff.mp hm
    obtain ⟨x_prior, he, hm⟩ := Option.bind_eq_some_iff.mp hm
    refine go_set (α := (List (T2 Bool Str))) 6 G.fh (ev_ixT (ev_ixOwn 5 o_boughs_here rfl (ev_neg ev_int) h_t12) ev_int pj2) (fun v_prior F H g rn_ => ?_) sc_boughs.nd
    have G := G.trans g
    have o_left := o_left.up g
    have o_boughs_here := o_boughs_here.up g
    have sb4 := sb4.trans g.ff
    have r_prior := cg (Option.some.inj he) rn_
    have hm := Option.some.inj hm
    subst hm
    exact GoS.nil ⟨_, sb4, G.fh, ⟨_, _, _, rfl, G, o_left, o_boughs_here, r_prior⟩⟩
  · intro σ_ F H s1_ s2_ iv_
    obtain ⟨u_cell, u_k, v_prior, rfl, G, o_left, o_boughs_here, r_prior⟩ := iv_
    refine o_boughs_here.freeze G (fun F H s_ s2_ G r_boughs_here k_ => ?_)
    have o_left := o_left.keepF (d_boughs_here_left.symm) s_ k_
    exact go_ret G.fh (ev_var 5 rfl r_boughs_here) fun v_ F_ H_ g_ rv_ => kr _ _ _ (G.trans g_) (cg (Option.some.inj hm) rv_)
/-! Number_init -/
theorem sc_Number_init : FnScope ["self", "n"] ["self", "n"] (defScope s_Number_init) := ⟨rfl, rfl, rfl, by decide +kernel, rfl, by decide +kernel, by decide +kernel⟩
theorem b_Number_init (T : Txt K mg) : Binds K T.d_Number_init ["self", "n"] [] := T.F_Number_init.bindsN fun _ _ _ _ _ _ us hl => match us, hl with | [_, _], _ => rfl
theorem ok_Number_init (T : Txt K mg) : FnOk P w K mg base CX0 1 (He.fAd K ("Number", some "__init__")) T.d_Number_init ["self", "n"] (PrI K (He.ga K "Number") fs_Number fun (a_ : Int × Unit) => m_Number_init a_.1) := by
  refine fn_init T.F_Number_init sc_Number_init rfl fun cdv A outer s_ F0 H0 y_ dx_ vs a_ r D_ E_ hr G fy_ hy_ ra_ hm kn => ?_
  obtain ⟨v_n, _, rfl, r_n, rfl⟩ := ra_
  obtain ⟨x_n, _u⟩ := a_
  replace hm : m_Number_init x_n = some r := hm
  unfold m_Number_init at hm
  have r_n : rp (α := Int) K F0 v_n x_n := r_n
  refine go_fld (names := []) (vs := []) 0 G.fh fy_ hy_ rfl (by decide) (by decide +kernel) T.cl_Number T.na_Number_n rfl (ev_var 1 rfl r_n) (fun w0 F H g rw0 fy_ hy_ => ?_)
  have G := (G.trans g).poke (u := .ins (He.ga K "Number") dx_ (List.zip ["n"] [w0])) er_same fy_
  have r_n := Rp.mono g.ff r_n
  have hy_ : upd H y_ (.ins (He.ga K "Number") dx_ (List.zip ["n"] [w0])) y_ = some (.ins (He.ga K "Number") dx_ (List.zip ["n"] [w0])) := upd_same
  cases (Option.some.inj hm)
  exact GoS.nil (kn _ _ _ [w0] G fy_ hy_ ⟨_, _, rfl, rw0, rfl⟩)
/-! Deed_init -/
theorem sc_Deed_init : FnScope ["self", "names", "lows", "highs", "table", "spots", "term", "path"] ["self", "names", "lows", "highs", "table", "spots", "term", "path"] (defScope s_Deed_init) := ⟨rfl, rfl, rfl, by decide +kernel, rfl, by decide +kernel, by decide +kernel⟩
theorem b_Deed_init (T : Txt K mg) : Binds K T.d_Deed_init ["self", "names", "lows", "highs", "table", "spots", "term", "path"] [] := T.F_Deed_init.bindsN fun _ _ _ _ _ _ us hl => match us, hl with | [_, _, _, _, _, _, _, _], _ => rfl
theorem ok_Deed_init (T : Txt K mg) : FnOk P w K mg base CX0 1 (He.fAd K ("Deed", some "__init__")) T.d_Deed_init ["self", "names", "lows", "highs", "table", "spots", "term", "path"] (PrI K (He.ga K "Deed") fs_Deed fun (a_ : (Tp Str) × (Tp (T2 Str Int)) × (Tp (T2 Str Int)) × Str × (T1 (T2 Str Int)) × QNumber × (Tp Int) × Unit) => m_Deed_init a_.1 a_.2.1 a_.2.2.1 a_.2.2.2.1 a_.2.2.2.2.1 a_.2.2.2.2.2.1 a_.2.2.2.2.2.2.1) := by
  refine fn_init T.F_Deed_init sc_Deed_init rfl fun cdv A outer s_ F0 H0 y_ dx_ vs a_ r D_ E_ hr G fy_ hy_ ra_ hm kn => ?_
  obtain ⟨v_names, _, rfl, r_names, v_lows, _, rfl, r_lows, v_highs, _, rfl, r_highs, v_table, _, rfl, r_table, v_spots, _, rfl, r_spots, v_term, _, rfl, r_term, v_path, _, rfl, r_path, rfl⟩ := ra_
  obtain ⟨x_names, x_lows, x_highs, x_table, x_spots, x_term, x_path, _u⟩ := a_
  replace hm : m_Deed_init x_names x_lows x_highs x_table x_spots x_term x_path = some r := hm
  unfold m_Deed_init at hm
  have r_names : rp (α := (Tp Str)) K F0 v_names x_names := r_names
  have r_lows : rp (α := (Tp (T2 Str Int))) K F0 v_lows x_lows := r_lows
  have r_highs : rp (α := (Tp (T2 Str Int))) K F0 v_highs x_highs := r_highs
  have r_table : rp (α := Str) K F0 v_table x_table := r_table
  have r_spots : rp (α := (T1 (T2 Str Int))) K F0 v_spots x_spots := r_spots
  have r_term : rp (α := QNumber) K F0 v_term x_term := r_term
  have r_path : rp (α := (Tp Int)) K F0 v_path x_path := r_path
  refine go_fld (names := []) (vs := []) 0 G.fh fy_ hy_ rfl (by decide) (by decide +kernel) T.cl_Deed T.na_Deed_names rfl (ev_var 1 rfl r_names) (fun w0 F H g rw0 fy_ hy_ => ?_)
  have G := (G.trans g).poke (u := .ins (He.ga K "Deed") dx_ (List.zip ["names"] [w0])) er_same fy_
  have r_names := Rp.mono g.ff r_names
  have r_lows := Rp.mono g.ff r_lows
  have r_highs := Rp.mono g.ff r_highs
  have r_table := Rp.mono g.ff r_table
  have r_spots := Rp.mono g.ff r_spots
  have r_term := Rp.mono g.ff r_term
  have r_path := Rp.mono g.ff r_path
  have hy_ : upd H y_ (.ins (He.ga K "Deed") dx_ (List.zip ["names"] [w0])) y_ = some (.ins (He.ga K "Deed") dx_ (List.zip ["names"] [w0])) := upd_same
  refine go_fld (names := ["names"]) (vs := [w0]) 0 G.fh fy_ hy_ rfl (by decide) (by decide +kernel) T.cl_Deed T.na_Deed_lows rfl (ev_var 2 rfl r_lows) (fun w1 F H g rw1 fy_ hy_ => ?_)
  have G := (G.trans g).poke (u := .ins (He.ga K "Deed") dx_ (List.zip ["names", "lows"] [w0, w1])) er_same fy_
  have rw0 := Rp.mono g.ff rw0
  have r_names := Rp.mono g.ff r_names
  have r_lows := Rp.mono g.ff r_lows
  have r_highs := Rp.mono g.ff r_highs
  have r_table := Rp.mono g.ff r_table
  have r_spots := Rp.mono g.ff r_spots
  have r_term := Rp.mono g.ff r_term
  have r_path := Rp.mono g.ff r_path
  have hy_ : upd H y_ (.ins (He.ga K "Deed") dx_ (List.zip ["names", "lows"] [w0, w1])) y_ = some (.ins (He.ga K "Deed") dx_ (List.zip ["names", "lows"] [w0, w1])) := upd_same
  refine go_fld (names := ["names", "lows"]) (vs := [w0, w1]) 0 G.fh fy_ hy_ rfl (by decide) (by decide +kernel) T.cl_Deed T.na_Deed_highs rfl (ev_var 3 rfl r_highs) (fun w2 F H g rw2 fy_ hy_ => ?_)
  have G := (G.trans g).poke (u := .ins (He.ga K "Deed") dx_ (List.zip ["names", "lows", "highs"] [w0, w1, w2])) er_same fy_
  have rw0 := Rp.mono g.ff rw0
  have rw1 := Rp.mono g.ff rw1
  have r_names := Rp.mono g.ff r_names
  have r_lows := Rp.mono g.ff r_lows
  have r_highs := Rp.mono g.ff r_highs
  have r_table := Rp.mono g.ff r_table
  have r_spots := Rp.mono g.ff r_spots
  have r_term := Rp.mono g.ff r_term
  have r_path := Rp.mono g.ff r_path
  have hy_ : upd H y_ (.ins (He.ga K "Deed") dx_ (List.zip ["names", "lows", "highs"] [w0, w1, w2])) y_ = some (.ins (He.ga K "Deed") dx_ (List.zip ["names", "lows", "highs"] [w0, w1, w2])) := upd_same
  refine go_fld (names := ["names", "lows", "highs"]) (vs := [w0, w1, w2]) 0 G.fh fy_ hy_ rfl (by decide) (by decide +kernel) T.cl_Deed T.na_Deed_table rfl (ev_var 4 rfl r_table) (fun w3 F H g rw3 fy_ hy_ => ?_)
  have G := (G.trans g).poke (u := .ins (He.ga K "Deed") dx_ (List.zip ["names", "lows", "highs", "table"] [w0, w1, w2, w3])) er_same fy_
  have rw0 := Rp.mono g.ff rw0
  have rw1 := Rp.mono g.ff rw1
  have rw2 := Rp.mono g.ff rw2
  have r_names := Rp.mono g.ff r_names
  have r_lows := Rp.mono g.ff r_lows
  have r_highs := Rp.mono g.ff r_highs
  have r_table := Rp.mono g.ff r_table
  have r_spots := Rp.mono g.ff r_spots
  have r_term := Rp.mono g.ff r_term
  have r_path := Rp.mono g.ff r_path
  have hy_ : upd H y_ (.ins (He.ga K "Deed") dx_ (List.zip ["names", "lows", "highs", "table"] [w0, w1, w2, w3])) y_ = some (.ins (He.ga K "Deed") dx_ (List.zip ["names", "lows", "highs", "table"] [w0, w1, w2, w3])) := upd_same
  refine go_fld (names := ["names", "lows", "highs", "table"]) (vs := [w0, w1, w2, w3]) 0 G.fh fy_ hy_ rfl (by decide) (by decide +kernel) T.cl_Deed T.na_Deed_spots rfl (ev_var 5 rfl r_spots) (fun w4 F H g rw4 fy_ hy_ => ?_)
  have G := (G.trans g).poke (u := .ins (He.ga K "Deed") dx_ (List.zip ["names", "lows", "highs", "table", "spots"] [w0, w1, w2, w3, w4])) er_same fy_
  have rw0 := Rp.mono g.ff rw0
  have rw1 := Rp.mono g.ff rw1
  have rw2 := Rp.mono g.ff rw2
  have rw3 := Rp.mono g.ff rw3
  have r_names := Rp.mono g.ff r_names
  have r_lows := Rp.mono g.ff r_lows
  have r_highs := Rp.mono g.ff r_highs
  have r_table := Rp.mono g.ff r_table
  have r_spots := Rp.mono g.ff r_spots
  have r_term := Rp.mono g.ff r_term
  have r_path := Rp.mono g.ff r_path
  have hy_ : upd H y_ (.ins (He.ga K "Deed") dx_ (List.zip ["names", "lows", "highs", "table", "spots"] [w0, w1, w2, w3, w4])) y_ = some (.ins (He.ga K "Deed") dx_ (List.zip ["names", "lows", "highs", "table", "spots"] [w0, w1, w2, w3, w4])) := upd_same
  refine go_fld (names := ["names", "lows", "highs", "table", "spots"]) (vs := [w0, w1, w2, w3, w4]) 0 G.fh fy_ hy_ rfl (by decide) (by decide +kernel) T.cl_Deed T.na_Deed_term rfl (ev_var 6 rfl r_term) (fun w5 F H g rw5 fy_ hy_ => ?_)
  have G := (G.trans g).poke (u := .ins (He.ga K "Deed") dx_ (List.zip ["names", "lows", "highs", "table", "spots", "term"] [w0, w1, w2, w3, w4, w5])) er_same fy_
  have rw0 := Rp.mono g.ff rw0
  have rw1 := Rp.mono g.ff rw1
  have rw2 := Rp.mono g.ff rw2
  have rw3 := Rp.mono g.ff rw3
  have rw4 := Rp.mono g.ff rw4
  have r_names := Rp.mono g.ff r_names
  have r_lows := Rp.mono g.ff r_lows
  have r_highs := Rp.mono g.ff r_highs
  have r_table := Rp.mono g.ff r_table
  have r_spots := Rp.mono g.ff r_spots
  have r_term := Rp.mono g.ff r_term
  have r_path := Rp.mono g.ff r_path
  have hy_ : upd H y_ (.ins (He.ga K "Deed") dx_ (List.zip ["names", "lows", "highs", "table", "spots", "term"] [w0, w1, w2, w3, w4, w5])) y_ = some (.ins (He.ga K "Deed") dx_ (List.zip ["names", "lows", "highs", "table", "spots", "term"] [w0, w1, w2, w3, w4, w5])) := upd_same
  refine go_fld (names := ["names", "lows", "highs", "table", "spots", "term"]) (vs := [w0, w1, w2, w3, w4, w5]) 0 G.fh fy_ hy_ rfl (by decide) (by decide +kernel) T.cl_Deed T.na_Deed_path rfl (ev_var 7 rfl r_path) (fun w6 F H g rw6 fy_ hy_ => ?_)
  have G := (G.trans g).poke (u := .ins (He.ga K "Deed") dx_ (List.zip ["names", "lows", "highs", "table", "spots", "term", "path"] [w0, w1, w2, w3, w4, w5, w6])) er_same fy_
  have rw0 := Rp.mono g.ff rw0
  have rw1 := Rp.mono g.ff rw1
  have rw2 := Rp.mono g.ff rw2
  have rw3 := Rp.mono g.ff rw3
  have rw4 := Rp.mono g.ff rw4
  have rw5 := Rp.mono g.ff rw5
  have r_names := Rp.mono g.ff r_names
  have r_lows := Rp.mono g.ff r_lows
  have r_highs := Rp.mono g.ff r_highs
  have r_table := Rp.mono g.ff r_table
  have r_spots := Rp.mono g.ff r_spots
  have r_term := Rp.mono g.ff r_term
  have r_path := Rp.mono g.ff r_path
  have hy_ : upd H y_ (.ins (He.ga K "Deed") dx_ (List.zip ["names", "lows", "highs", "table", "spots", "term", "path"] [w0, w1, w2, w3, w4, w5, w6])) y_ = some (.ins (He.ga K "Deed") dx_ (List.zip ["names", "lows", "highs", "table", "spots", "term", "path"] [w0, w1, w2, w3, w4, w5, w6])) := upd_same
  cases (Option.some.inj hm)
  exact GoS.nil (kn _ _ _ [w0, w1, w2, w3, w4, w5, w6] G fy_ hy_ ⟨_, _, rfl, rw0, ⟨_, _, rfl, rw1, ⟨_, _, rfl, rw2, ⟨_, _, rfl, rw3, ⟨_, _, rfl, rw4, ⟨_, _, rfl, rw5, ⟨_, _, rfl, rw6, rfl⟩⟩⟩⟩⟩⟩⟩)
/-! deed -/
theorem sc_deed : FnScope ["_law_k", "_law_depth", "_law_names", "_law_bounds"] ["_law_k", "_law_depth"] (defScope s_deed) := ⟨rfl, rfl, rfl, by decide +kernel, rfl, by decide +kernel, by decide +kernel⟩
theorem b_deed (T : Txt K mg) : Binds K T.d_deed ["_law_k", "_law_depth"] [] := T.F_deed.bindsN fun _ _ _ _ _ _ us hl => match us, hl with | [_, _], _ => rfl
theorem ok_deed (T : Txt K mg) : FnOk P w K mg base CX0 3 (He.fAd K ("_law_deed", none)) T.d_deed ["_law_k", "_law_depth"] (Pr K fun (a_ : Int × Int × Unit) => m_deed a_.1 a_.2.1) := by
  refine fn_ok T.F_deed sc_deed rfl fun cdv A outer s_ F0 H0 vs a_ r D_ E_ hr sm_ ra_ hm kr kn => ?_
  obtain ⟨v_k, _, rfl, r_k, v_depth, _, rfl, r_depth, rfl⟩ := ra_
  obtain ⟨x_k, x_depth, _u⟩ := a_
  have G : Gr F0 H0 F0 H0 := Gr.refl sm_
  replace hm : m_deed x_k x_depth = some r := hm
  unfold m_deed at hm
  have r_k : rp (α := Int) K F0 v_k x_k := r_k
  have r_depth : rp (α := Int) K F0 v_depth x_depth := r_depth
  obtain ⟨x_names, he, hm⟩ := Option.bind_eq_some_iff.mp hm
  refine go_set (α := (Tp Str)) 2 G.fh (ev_sliceT (Ev.tp3 (ev_tup3 (ea_cons ev_str (ea_cons ev_str (ea_cons ev_str ea_nil))))) eo_none (eo_some (ev_var 1 rfl r_depth))) (fun v_names F H g rn_ => ?_) sc_deed.nd
  have G := G.trans g
  have r_k := Rp.mono g.ff r_k
  have r_depth := Rp.mono g.ff r_depth
  have r_names := cg (Option.some.inj he) rn_
  obtain ⟨x_bounds, he, hm⟩ := Option.bind_eq_some_iff.mp hm
  refine go_set (α := (Tp (T2 Str Int))) 3 G.fh (ev_sliceT (Ev.tp3 (ev_tup3 (ea_cons (ev_tup2 (ea_cons ev_str (ea_cons ev_int ea_nil))) (ea_cons (ev_tup2 (ea_cons ev_str (ea_cons ev_int ea_nil))) (ea_cons (ev_tup2 (ea_cons ev_str (ea_cons ev_int ea_nil))) ea_nil))))) eo_none (eo_some (ev_var 1 rfl r_depth))) (fun v_bounds F H g rn_ => ?_) sc_deed.nd
  have G := G.trans g
  have r_k := Rp.mono g.ff r_k
  have r_depth := Rp.mono g.ff r_depth
  have r_names := Rp.mono g.ff r_names
  have r_bounds := cg (Option.some.inj he) rn_
  obtain ⟨t1, h_t1, hm⟩ := Option.bind_eq_some_iff.mp hm
  exact go_ret G.fh (ev_make (z := QDeed.mk x_names x_bounds x_bounds ("t" : Str) (T1.mk (T2.mk ("" : Str) x_k)) (QNumber.mk x_k) t1) (names := fs_Deed) (cn := "Deed") (fun _ _ h => h) T.mk_Deed (ok_Deed_init T) (hr.mono (by omega)) T.g_Deed (b_Deed_init T) (ea_cons (ev_var 2 rfl r_names) (ea_cons (ev_var 3 rfl r_bounds) (ea_cons (ev_var 3 rfl r_bounds) (ea_cons ev_str (ea_cons (ev_tup1 (ea_cons (ev_tup2 (ea_cons ev_str (ea_cons (ev_var 0 rfl r_k) ea_nil))) ea_nil)) (ea_cons (ev_make (z := QNumber.mk x_k) (names := fs_Number) (cn := "Number") (fun _ _ h => h) T.mk_Number (ok_Number_init T) (hr.mono (by omega)) T.g_Number (b_Number_init T) (ea_cons (ev_var 0 rfl r_k) ea_nil) rfl) (ea_cons (ev_catT (ev_tp (el_cons (ev_var 0 rfl r_k) el_nil) (by show 1 ≤ sizeLine; decide)) (ev_sliceT (Ev.tp3 (ev_tup3 (ea_cons ev_int (ea_cons ev_int (ea_cons ev_int ea_nil))))) eo_none (eo_some (ev_var 1 rfl r_depth))) h_t1) ea_nil))))))) rfl) fun v_ F_ H_ g_ rv_ => kr _ _ _ (G.trans g_) (cg (Option.some.inj hm) rv_)
/-! Program_init -/
theorem sc_Program_init : FnScope ["self", "size", "deeds"] ["self", "size", "deeds"] (defScope s_Program_init) := ⟨rfl, rfl, rfl, by decide +kernel, rfl, by decide +kernel, by decide +kernel⟩
theorem b_Program_init (T : Txt K mg) : Binds K T.d_Program_init ["self", "size", "deeds"] [] := T.F_Program_init.bindsN fun _ _ _ _ _ _ us hl => match us, hl with | [_, _, _], _ => rfl
theorem ok_Program_init (T : Txt K mg) : FnOk P w K mg base CX0 1 (He.fAd K ("Program", some "__init__")) T.d_Program_init ["self", "size", "deeds"] (PrI K (He.ga K "Program") fs_Program fun (a_ : Int × (List QDeed) × Unit) => m_Program_init a_.1 a_.2.1) := by
  refine fn_init T.F_Program_init sc_Program_init rfl fun cdv A outer s_ F0 H0 y_ dx_ vs a_ r D_ E_ hr G fy_ hy_ ra_ hm kn => ?_
  obtain ⟨v_size, _, rfl, r_size, v_deeds, _, rfl, r_deeds, rfl⟩ := ra_
  obtain ⟨x_size, x_deeds, _u⟩ := a_
  replace hm : m_Program_init x_size x_deeds = some r := hm
  unfold m_Program_init at hm
  have r_size : rp (α := Int) K F0 v_size x_size := r_size
  have r_deeds : rp (α := (List QDeed)) K F0 v_deeds x_deeds := r_deeds
  refine go_fld (names := []) (vs := []) 0 G.fh fy_ hy_ rfl (by decide) (by decide +kernel) T.cl_Program T.na_Program_size rfl (ev_var 1 rfl r_size) (fun w0 F H g rw0 fy_ hy_ => ?_)
  have G := (G.trans g).poke (u := .ins (He.ga K "Program") dx_ (List.zip ["size"] [w0])) er_same fy_
  have r_size := Rp.mono g.ff r_size
  have r_deeds := Rp.mono g.ff r_deeds
  have hy_ : upd H y_ (.ins (He.ga K "Program") dx_ (List.zip ["size"] [w0])) y_ = some (.ins (He.ga K "Program") dx_ (List.zip ["size"] [w0])) := upd_same
  refine go_fld (names := ["size"]) (vs := [w0]) 0 G.fh fy_ hy_ rfl (by decide) (by decide +kernel) T.cl_Program T.na_Program_deeds rfl (EvN.ev (α := (List QDeed)) (en_list_of T.n_list (ev_var 2 rfl r_deeds))) (fun w1 F H g rw1 fy_ hy_ => ?_)
  have G := (G.trans g).poke (u := .ins (He.ga K "Program") dx_ (List.zip ["size", "deeds"] [w0, w1])) er_same fy_
  have rw0 := Rp.mono g.ff rw0
  have r_size := Rp.mono g.ff r_size
  have r_deeds := Rp.mono g.ff r_deeds
  have hy_ : upd H y_ (.ins (He.ga K "Program") dx_ (List.zip ["size", "deeds"] [w0, w1])) y_ = some (.ins (He.ga K "Program") dx_ (List.zip ["size", "deeds"] [w0, w1])) := upd_same
  cases (Option.some.inj hm)
  exact GoS.nil (kn _ _ _ [w0, w1] G fy_ hy_ ⟨_, _, rfl, rw0, ⟨_, _, rfl, rw1, rfl⟩⟩)
/-! items -/
theorem sc_items : FnScope ["_law_boughs_here", "_law_depth", "_law_items_here", "_law_at_here", "_law_upto", "_law_way"] ["_law_boughs_here", "_law_depth"] (defScope s_items) := ⟨rfl, rfl, rfl, by decide +kernel, rfl, by decide +kernel, by decide +kernel⟩
theorem b_items (T : Txt K mg) : Binds K T.d_items ["_law_boughs_here", "_law_depth"] [] := T.F_items.bindsN fun _ _ _ _ _ _ us hl => match us, hl with | [_, _], _ => rfl
theorem ok_items (T : Txt K mg) : ∀ n_ : Nat, FnOk P w K mg base CX0 (0 + n_ + 1) (He.fAd K ("_law_items", none)) T.d_items ["_law_boughs_here", "_law_depth"] (Pr K fun (a_ : (List (T4 Int Int (List (T2 Bool Str)) (List (T2 Int Int)))) × Int × Unit) => m_items n_ a_.1 a_.2.1)
  | 0 => by
    refine fn_ok T.F_items sc_items rfl fun cdv A outer s_ F0 H0 vs a_ r D_ E_ hr sm_ ra_ hm kr kn => ?_
    exact nomatch (show none = some r from hm)
  | n_ + 1 => by
    have ih_ := ok_items T n_
    refine fn_ok T.F_items sc_items rfl fun cdv A outer s_ F0 H0 vs a_ r D_ E_ hr sm_ ra_ hm kr kn => ?_
    obtain ⟨v_boughs_here, _, rfl, r_boughs_here, v_depth, _, rfl, r_depth, rfl⟩ := ra_
    obtain ⟨x_boughs_here, x_depth, _u⟩ := a_
    have G : Gr F0 H0 F0 H0 := Gr.refl sm_
    replace hm : m_items (n_ + 1) x_boughs_here x_depth = some r := hm
    rw [m_items] at hm
    have r_boughs_here : rp (α := (List (T4 Int Int (List (T2 Bool Str)) (List (T2 Int Int))))) K F0 v_boughs_here x_boughs_here := r_boughs_here
    have r_depth : rp (α := Int) K F0 v_depth x_depth := r_depth
    obtain ⟨x_items_here, he, hm⟩ := Option.bind_eq_some_iff.mp hm
    refine go_setN (α := (List UItem)) 2 G.fh (en_list el_nil (Nat.zero_le _)) (fun l_items_here vs_ F H g nl_ fl_ hl_ rs_ => ?_) sc_items.nd
    have n0_ := G.hh.free nl_
    have G := G.trans g
    have r_boughs_here := Rp.mono g.ff r_boughs_here
    have r_depth := Rp.mono g.ff r_depth
    have o_items_here : Own K _ F H l_items_here _ := Own.cg (Option.some.inj he) ⟨n0_, fl_, vs_, hl_, rs_⟩
    obtain ⟨x_at_here, he, hm⟩ := Option.bind_eq_some_iff.mp hm
    refine go_set (α := Int) 3 G.fh ev_int (fun v_at_here F H g rn_ => ?_) sc_items.nd
    have G := G.trans g
    have r_boughs_here := Rp.mono g.ff r_boughs_here
    have r_depth := Rp.mono g.ff r_depth
    have o_items_here := o_items_here.up g
    have r_at_here := cg (Option.some.inj he) rn_
    obtain ⟨b20, ho_, hm⟩ := Option.bind_eq_some_iff.mp hm
    refine go_whileN (b0 := (x_items_here, x_at_here)) (fun (b1 : ((List UItem) × Int)) σ_ F_ H_ => ∃ (u_upto : Option V) (u_way : Option V) (v_at_here : V), σ_ = [some v_boughs_here, some v_depth, some (.ref l_items_here), some v_at_here, u_upto, u_way] ∧ Gr F0 H0 F_ H_ ∧ Own K H0 F_ H_ l_items_here b1.1 ∧ rp (α := Int) K F_ v_at_here b1.2) G.fh ⟨_, _, _, rfl, G, o_items_here, r_at_here⟩ ho_ ?_ ?_ ?_ PassesOwn.never
    ·
      intro b1 t_ hm σ_ F H s1_ s2_ iv_
      obtain ⟨u_upto, u_way, v_at_here, rfl, G, o_items_here, r_at_here⟩ := iv_
      have r_boughs_here := Rp.mono s1_ r_boughs_here
      have r_depth := Rp.mono s1_ r_depth
      refine ⟨EvT.cg (Option.some.inj hm) (et_cmp op_lt o2_lt (ev_var 3 rfl r_at_here) (ev_callB call_len_seq oc_lenL T.n_len PySem.boot_len (ea_cons (ev_var 0 rfl r_boughs_here) ea_nil)) (nomark _)), fun F H g => ?_⟩
      have G := G.trans g
      have o_items_here := o_items_here.up g
      have r_at_here := Rp.mono g.ff r_at_here
      exact ⟨_, _, _, rfl, G, o_items_here, r_at_here⟩
    ·
      intro b1 o_ hm σ_ F H s1_ s2_ iv_
      obtain ⟨u_upto, u_way, v_at_here, rfl, G, o_items_here, r_at_here⟩ := iv_
      have sb3 := L2.Same.refl F
      have r_boughs_here := Rp.mono s1_ r_boughs_here
      have r_depth := Rp.mono s1_ r_depth
      obtain ⟨x_upto, he, hm⟩ := Option.bind_eq_some_iff.mp hm
      refine go_set (α := Int) 4 G.fh (ev_add (ev_var 3 rfl r_at_here) ev_int) (fun v_upto F H g rn_ => ?_) sc_items.nd
      have G := G.trans g
      have r_boughs_here := Rp.mono g.ff r_boughs_here
      have r_depth := Rp.mono g.ff r_depth
      have o_items_here := o_items_here.up g
      have r_at_here := Rp.mono g.ff r_at_here
      have sb3 := sb3.trans g.ff
      have r_upto := cg (Option.some.inj he) rn_
      obtain ⟨t4, h_t4, hm⟩ := Option.bind_eq_some_iff.mp hm
      obtain ⟨b5, hj, hm⟩ := Option.bind_eq_some_iff.mp hm
      refine go_ifj (t := (decide ((t4.c.length : Int) = x_depth))) (fun σ_ H_ => ∃ (F_ : Hp) (u_way : Option V) (v_upto : V), L2.Same F F_ ∧ σ_ = [some v_boughs_here, some v_depth, some (.ref l_items_here), some v_at_here, some v_upto, u_way] ∧ Gr F0 H0 F_ H_ ∧ Own K H0 F_ H_ l_items_here b5.1 ∧ rp (α := Int) K F_ v_upto b5.2) G.fh (et_cmp op_eq o2_eq (ev_callB call_len_seq oc_lenL T.n_len PySem.boot_len (ea_cons (ev_ixT (ev_ixL (ev_var 0 rfl r_boughs_here) (ev_var 3 rfl r_at_here) h_t4) ev_int pj2) ea_nil)) (ev_var 1 rfl r_depth) (nomark _)) (fun hc F H g => ?_) (fun hc F H g => ?_) (fun σ_ H hP_ => ?_)
      · replace hj := ipos hc hj
        clear hm
        have hm := hj
        clear hj
        have G := G.trans g
        have r_boughs_here := Rp.mono g.ff r_boughs_here
        have r_depth := Rp.mono g.ff r_depth
        have o_items_here := o_items_here.up g
        have r_at_here := Rp.mono g.ff r_at_here
        have r_upto := Rp.mono g.ff r_upto
        have sb3 := sb3.trans g.ff
        have sj6 := g.ff
        obtain ⟨t7, h_t7, hm⟩ := Option.bind_eq_some_iff.mp hm
        obtain ⟨t8, h_t8, hm⟩ := Option.bind_eq_some_iff.mp hm
        obtain ⟨t9, he, hm⟩ := Option.bind_eq_some_iff.mp hm
        refine go_append 2 G.fh o_items_here rfl (UItem.mkv_deed (ev_tup3 (ea_cons ev_str (ea_cons (ev_ixT (ev_ixL (ev_var 0 rfl r_boughs_here) (ev_var 3 rfl r_at_here) h_t7) ev_int pj0) (ea_cons (ev_callTy call_tuple_of oc_tuple T.n_tuple (by decide +kernel) (ea_cons (ev_ixT (ev_ixL (ev_var 0 rfl r_boughs_here) (ev_var 3 rfl r_at_here) h_t8) ev_int pj3) ea_nil)) ea_nil))))) he (fun w_ F H g nz_ fz_ on_ => ?_)
        have G := G.trans g
        have r_boughs_here := Rp.mono g.ff r_boughs_here
        have r_at_here := Rp.mono g.ff r_at_here
        have r_upto := Rp.mono g.ff r_upto
        have sb3 := sb3.trans g.ff
        have sj6 := sj6.trans g.ff
        have G := G.poke (u := w_) on_.n fz_
        have o_items_here := on_
        have hm := Option.some.inj hm
        subst hm
        exact GoS.nil ⟨_, _, _, sj6, rfl, G, o_items_here, r_upto⟩
      · replace hj := ineg (nt hc) hj
        clear hm
        have hm := hj
        clear hj
        have G := G.trans g
        have r_boughs_here := Rp.mono g.ff r_boughs_here
        have r_depth := Rp.mono g.ff r_depth
        have o_items_here := o_items_here.up g
        have r_at_here := Rp.mono g.ff r_at_here
        have r_upto := Rp.mono g.ff r_upto
        have sb3 := sb3.trans g.ff
        have sj6 := g.ff
        obtain ⟨b15, ho_, hm⟩ := Option.bind_eq_some_iff.mp hm
        refine go_whileN (b0 := x_upto) (fun (b10 : Int) σ_ F_ H_ => ∃ (v_upto : V), σ_ = [some v_boughs_here, some v_depth, some (.ref l_items_here), some v_at_here, some v_upto, u_way] ∧ Gr F0 H0 F_ H_ ∧ rp (α := Int) K F_ v_upto b10 ∧ Own K H0 F_ H_ l_items_here b1.1) G.fh ⟨_, rfl, G, r_upto, o_items_here⟩ ho_ ?_ ?_ ?_ PassesOwn.never
        ·
          intro b10 t_ hm σ_ F H s1_ s2_ iv_
          obtain ⟨v_upto, rfl, G, r_upto, o_items_here⟩ := iv_
          have r_boughs_here := Rp.mono s1_ r_boughs_here
          have r_depth := Rp.mono s1_ r_depth
          obtain ⟨t14, h_t14, hm⟩ := Option.bind_eq_some_iff.mp hm
          refine ⟨EvT.cg (Option.some.inj hm) (EvW.t (ew_and (x := (decide (b10 < (x_boughs_here.length : Int)))) (et_cmp op_lt o2_lt (ev_var 4 rfl r_upto) (ev_callB call_len_seq oc_lenL T.n_len PySem.boot_len (ea_cons (ev_var 0 rfl r_boughs_here) ea_nil)) (nomark _)) (fun hc => by
            replace h_t14 := ipos hc h_t14
            obtain ⟨t13, h_t13, h_t14⟩ := Option.bind_eq_some_iff.mp h_t14
            exact EvW.cg (Option.some.inj h_t14) (ew_and1 (et_cmp op_gt o2_gt (ev_ixT (ev_ixL (ev_var 0 rfl r_boughs_here) (ev_var 4 rfl r_upto) h_t13) ev_int pj1) (ev_var 1 rfl r_depth) (nomark _)))) (fun hc => by replace h_t14 := ineg (nt hc) h_t14; exact (Option.some.inj h_t14).symm))), fun F H g => ?_⟩
          have G := G.trans g
          have r_upto := Rp.mono g.ff r_upto
          have o_items_here := o_items_here.up g
          exact ⟨_, rfl, G, r_upto, o_items_here⟩
        ·
          intro b10 o_ hm σ_ F H s1_ s2_ iv_
          obtain ⟨v_upto, rfl, G, r_upto, o_items_here⟩ := iv_
          have sb12 := L2.Same.refl F
          have r_boughs_here := Rp.mono s1_ r_boughs_here
          have r_depth := Rp.mono s1_ r_depth
          obtain ⟨x_upto, he, hm⟩ := Option.bind_eq_some_iff.mp hm
          refine go_set (α := Int) 4 G.fh (ev_add (ev_var 4 rfl r_upto) ev_int) (fun v_upto F H g rn_ => ?_) sc_items.nd
          have G := G.trans g
          have r_boughs_here := Rp.mono g.ff r_boughs_here
          have r_depth := Rp.mono g.ff r_depth
          have o_items_here := o_items_here.up g
          have sb12 := sb12.trans g.ff
          have r_upto := cg (Option.some.inj he) rn_
          have hm := Option.some.inj hm
          subst hm
          exact GoS.nil ⟨_, sb12, G.fh, ⟨_, rfl, G, r_upto, o_items_here⟩⟩
        · intro σ_ F H s1_ s2_ iv_
          obtain ⟨v_upto, rfl, G, r_upto, o_items_here⟩ := iv_
          have sb3 := sb3.trans s1_
          have sj6 := sj6.trans s1_
          have r_boughs_here := Rp.mono s1_ r_boughs_here
          have r_depth := Rp.mono s1_ r_depth
          have r_at_here := Rp.mono s1_ r_at_here
          obtain ⟨t16, h_t16, hm⟩ := Option.bind_eq_some_iff.mp hm
          obtain ⟨t17, h_t17, hm⟩ := Option.bind_eq_some_iff.mp hm
          obtain ⟨x_way, he, hm⟩ := Option.bind_eq_some_iff.mp hm
          refine go_set (α := (T2 Bool Str)) 5 G.fh (ev_ixL (ev_ixT (ev_ixL (ev_var 0 rfl r_boughs_here) (ev_var 3 rfl r_at_here) h_t16) ev_int pj2) (ev_var 1 rfl r_depth) h_t17) (fun v_way F H g rn_ => ?_) sc_items.nd
          have G := G.trans g
          have r_boughs_here := Rp.mono g.ff r_boughs_here
          have r_depth := Rp.mono g.ff r_depth
          have o_items_here := o_items_here.up g
          have r_at_here := Rp.mono g.ff r_at_here
          have r_upto := Rp.mono g.ff r_upto
          have sb3 := sb3.trans g.ff
          have sj6 := sj6.trans g.ff
          have r_way := cg (Option.some.inj he) rn_
          obtain ⟨t18, h_t18, hm⟩ := Option.bind_eq_some_iff.mp hm
          obtain ⟨t19, he, hm⟩ := Option.bind_eq_some_iff.mp hm
          refine go_append 2 G.fh o_items_here rfl (UItem.mkv_sweep (ev_tup4 (ea_cons ev_str (ea_cons (ev_ixT (ev_var 5 rfl r_way) ev_int pj0) (ea_cons (ev_ixT (ev_var 5 rfl r_way) ev_int pj1) (ea_cons (ev_call ih_ (hr.mono (by omega)) T.g_items T.F_items.kp (b_items T) (ea_cons (EvN.ev (α := (List (T4 Int Int (List (T2 Bool Str)) (List (T2 Int Int))))) (en_slice (ev_var 0 rfl r_boughs_here) (eo_some (ev_var 3 rfl r_at_here)) (eo_some (ev_var 4 rfl r_upto)))) (ea_cons (ev_add (ev_var 1 rfl r_depth) ev_int) ea_nil)) h_t18) ea_nil)))))) he (fun w_ F H g nz_ fz_ on_ => ?_)
          have G := G.trans g
          have r_boughs_here := Rp.mono g.ff r_boughs_here
          have r_depth := Rp.mono g.ff r_depth
          have r_at_here := Rp.mono g.ff r_at_here
          have r_upto := Rp.mono g.ff r_upto
          have r_way := Rp.mono g.ff r_way
          have sb3 := sb3.trans g.ff
          have sj6 := sj6.trans g.ff
          have G := G.poke (u := w_) on_.n fz_
          have o_items_here := on_
          have hm := Option.some.inj hm
          subst hm
          exact GoS.nil ⟨_, _, _, sj6, rfl, G, o_items_here, r_upto⟩
      obtain ⟨F, u_way, v_upto, sj_, rfl, G, o_items_here, r_upto⟩ := hP_
      have r_boughs_here := Rp.mono sj_ r_boughs_here
      have r_at_here := Rp.mono sj_ r_at_here
      have sb3 := sb3.trans sj_
      obtain ⟨x_at_here, he, hm⟩ := Option.bind_eq_some_iff.mp hm
      refine go_set (α := Int) 3 G.fh (ev_var 4 rfl r_upto) (fun v_at_here F H g rn_ => ?_) sc_items.nd
      have G := G.trans g
      have r_boughs_here := Rp.mono g.ff r_boughs_here
      have o_items_here := o_items_here.up g
      have r_upto := Rp.mono g.ff r_upto
      have sb3 := sb3.trans g.ff
      have r_at_here := cg (Option.some.inj he) rn_
      have hm := Option.some.inj hm
      subst hm
      exact GoS.nil ⟨_, sb3, G.fh, ⟨_, _, _, rfl, G, o_items_here, r_at_here⟩⟩
    · intro σ_ F H s1_ s2_ iv_
      obtain ⟨u_upto, u_way, v_at_here, rfl, G, o_items_here, r_at_here⟩ := iv_
      exact go_ret G.fh (ev_thaw o_items_here G.fh (fun F H s_ s2_ rf_ k_ => by
            have rf_items_here := rf_
            exact (ev_callTy call_tuple_of oc_tuple T.n_tuple (by decide +kernel) (ea_cons (ev_var 2 rfl rf_items_here) ea_nil)))) fun v_ F_ H_ g_ rv_ => kr _ _ _ (G.trans g_) (cg (Option.some.inj hm) rv_)
/-! at -/
theorem sc_at : FnScope ["_law_boughs_here", "_law_k", "_law_bough_here"] ["_law_boughs_here", "_law_k"] (defScope s_at) := ⟨rfl, rfl, rfl, by decide +kernel, rfl, by decide +kernel, by decide +kernel⟩
theorem b_at (T : Txt K mg) : Binds K T.d_at ["_law_boughs_here", "_law_k"] [] := T.F_at.bindsN fun _ _ _ _ _ _ us hl => match us, hl with | [_, _], _ => rfl
theorem ok_at (T : Txt K mg) : FnOk P w K mg base CX0 1 (He.fAd K ("_law_at", none)) T.d_at ["_law_boughs_here", "_law_k"] (Pr K fun (a_ : (List (T4 Int Int (List (T2 Bool Str)) (List (T2 Int Int)))) × Int × Unit) => m_at a_.1 a_.2.1) := by
  refine fn_ok T.F_at sc_at rfl fun cdv A outer s_ F0 H0 vs a_ r D_ E_ hr sm_ ra_ hm kr kn => ?_
  obtain ⟨v_boughs_here, _, rfl, r_boughs_here, v_k, _, rfl, r_k, rfl⟩ := ra_
  obtain ⟨x_boughs_here, x_k, _u⟩ := a_
  have G : Gr F0 H0 F0 H0 := Gr.refl sm_
  replace hm : m_at x_boughs_here x_k = some r := hm
  unfold m_at at hm
  have r_boughs_here : rp (α := (List (T4 Int Int (List (T2 Bool Str)) (List (T2 Int Int))))) K F0 v_boughs_here x_boughs_here := r_boughs_here
  have r_k : rp (α := Int) K F0 v_k x_k := r_k
  obtain ⟨t1, h_t1, hm⟩ := Option.bind_eq_some_iff.mp hm
  obtain ⟨t2, h_t2, hm⟩ := Option.bind_eq_some_iff.mp hm
  exact go_ret G.fh (ev_indexL (EvN.ev (α := (List Int)) (en_comp (own := [("_law_bough_here", 2)]) sc_at.nd (ei_list (ev_var 0 rfl r_boughs_here)) h_t1 (blkOk_by (N := ["_law_boughs_here", "_law_k", "_law_bough_here"]) (sc := defScope s_at) (by decide +kernel)) (fun _ _ _ _ _ => (pg_name (i := 2) sc_at.nd rfl (by first | exact Or.inl rfl | exact Or.inr rfl))) (fun x_bough_here o_ hm F H v_bough_here g r_bough_here Q hQ => by
          have r_boughs_here := Rp.mono g.ff r_boughs_here
          refine hQ _ rfl ?_
          exact ⟨_, (Option.some.inj hm).symm, fun s_ H_ C_ cl_ fp_ => (ev_ixT (ev_var 2 rfl r_bough_here) ev_int pj0)⟩))) (ev_var 1 rfl r_k) h_t2 (room65 hr)) fun v_ F_ H_ g_ rv_ => kr _ _ _ (G.trans g_) (cg (Option.some.inj hm) rv_)
/-! turns -/
theorem sc_turns : FnScope ["_law_script", "_law_mine", "_law_theirs", "_law_depths", "_law_ones", "_law_e", "_law_others", "_law_near", "_law_pair_here", "_law_beside"] ["_law_script", "_law_mine", "_law_theirs", "_law_depths"] (defScope s_turns) := ⟨rfl, rfl, rfl, by decide +kernel, rfl, by decide +kernel, by decide +kernel⟩
theorem b_turns (T : Txt K mg) : Binds K T.d_turns ["_law_script", "_law_mine", "_law_theirs", "_law_depths"] [] := T.F_turns.bindsN fun _ _ _ _ _ _ us hl => match us, hl with | [_, _, _, _], _ => rfl
theorem ok_turns (T : Txt K mg) : FnOk P w K mg base CX0 2 (He.fAd K ("_law_turns", none)) T.d_turns ["_law_script", "_law_mine", "_law_theirs", "_law_depths"] (Pr K fun (a_ : (List Int) × (T4 Int Int (List (T2 Bool Str)) (List (T2 Int Int))) × (T4 Int Int (List (T2 Bool Str)) (List (T2 Int Int))) × (List Int) × Unit) => m_turns a_.1 a_.2.1 a_.2.2.1 a_.2.2.2.1) := by
  refine fn_ok T.F_turns sc_turns rfl fun cdv A outer s_ F0 H0 vs a_ r D_ E_ hr sm_ ra_ hm kr kn => ?_
  obtain ⟨v_script, _, rfl, r_script, v_mine, _, rfl, r_mine, v_theirs, _, rfl, r_theirs, v_depths, _, rfl, r_depths, rfl⟩ := ra_
  obtain ⟨x_script, x_mine, x_theirs, x_depths, _u⟩ := a_
  have G : Gr F0 H0 F0 H0 := Gr.refl sm_
  replace hm : m_turns x_script x_mine x_theirs x_depths = some r := hm
  unfold m_turns at hm
  have r_script : rp (α := (List Int)) K F0 v_script x_script := r_script
  have r_mine : rp (α := (T4 Int Int (List (T2 Bool Str)) (List (T2 Int Int)))) K F0 v_mine x_mine := r_mine
  have r_theirs : rp (α := (T4 Int Int (List (T2 Bool Str)) (List (T2 Int Int)))) K F0 v_theirs x_theirs := r_theirs
  have r_depths : rp (α := (List Int)) K F0 v_depths x_depths := r_depths
  obtain ⟨t1, h_t1, hm⟩ := Option.bind_eq_some_iff.mp hm
  obtain ⟨t2, h_t2, hm⟩ := Option.bind_eq_some_iff.mp hm
  obtain ⟨t4, h_t4, hm⟩ := Option.bind_eq_some_iff.mp hm
  obtain ⟨x_ones, he, hm⟩ := Option.bind_eq_some_iff.mp hm
  first
    | refine go_setLc (own := [("_law_e", 5)]) 4 G.fh sc_turns.nd (ei_range1 (ev_ixL (ev_var 3 rfl r_depths) ev_int h_t1) h_t2 T.n_range) h_t4 (blkOk_by (N := ["_law_script", "_law_mine", "_law_theirs", "_law_depths", "_law_ones", "_law_e", "_law_others", "_law_near", "_law_pair_here", "_law_beside"]) (sc := defScope s_turns) (by decide +kernel)) (fun _ _ _ _ _ => (pg_name (i := 5) sc_turns.nd rfl (by first | exact Or.inl rfl | exact Or.inr rfl))) (fun x_e o_ hm F H v_e g r_e Q hQ => by
          have r_script := Rp.mono g.ff r_script
          have r_depths := Rp.mono g.ff r_depths
          refine hQ _ rfl ?_
          obtain ⟨t3, h_t3, hm⟩ := Option.bind_eq_some_iff.mp hm
          exact ⟨_, (Option.some.inj hm).symm, fun s_ H_ C_ cl_ fp_ => (ev_sub (ev_mod (ev_call (ok_cell_at T) (hr.mono (by omega)) T.g_cell_at T.F_cell_at.kp (b_cell_at T) (ea_cons (ev_var 0 rfl r_script) (ea_cons (ev_add ev_int (ev_var 5 rfl r_e)) ea_nil)) h_t3) (ev_powc (z := 1000000000000000000) ev_int ev_int (by decide) (by decide +kernel)) (by decide)) (ev_powc (z := 100000000000000000) ev_int ev_int (by decide) (by decide +kernel)))⟩) (fun l_ones vs_ F H g nl_ fl_ hl_ rs_ => ?_)
    | refine go_setN 4 G.fh (en_comp (own := [("_law_e", 5)]) sc_turns.nd (ei_range1 (ev_ixL (ev_var 3 rfl r_depths) ev_int h_t1) h_t2 T.n_range) h_t4 (blkOk_by (N := ["_law_script", "_law_mine", "_law_theirs", "_law_depths", "_law_ones", "_law_e", "_law_others", "_law_near", "_law_pair_here", "_law_beside"]) (sc := defScope s_turns) (by decide +kernel)) (fun _ _ _ _ _ => (pg_name (i := 5) sc_turns.nd rfl (by first | exact Or.inl rfl | exact Or.inr rfl))) (fun x_e o_ hm F H v_e g r_e Q hQ => by
          have r_script := Rp.mono g.ff r_script
          have r_depths := Rp.mono g.ff r_depths
          refine hQ _ rfl ?_
          obtain ⟨t3, h_t3, hm⟩ := Option.bind_eq_some_iff.mp hm
          exact ⟨_, (Option.some.inj hm).symm, fun s_ H_ C_ cl_ fp_ => (ev_sub (ev_mod (ev_call (ok_cell_at T) (hr.mono (by omega)) T.g_cell_at T.F_cell_at.kp (b_cell_at T) (ea_cons (ev_var 0 rfl r_script) (ea_cons (ev_add ev_int (ev_var 5 rfl r_e)) ea_nil)) h_t3) (ev_powc (z := 1000000000000000000) ev_int ev_int (by decide) (by decide +kernel)) (by decide)) (ev_powc (z := 100000000000000000) ev_int ev_int (by decide) (by decide +kernel)))⟩)) (fun l_ones vs_ F H g nl_ fl_ hl_ rs_ => ?_) sc_turns.nd
  have n0_ := G.hh.free nl_
  have G := G.trans g
  have r_script := Rp.mono g.ff r_script
  have r_mine := Rp.mono g.ff r_mine
  have r_theirs := Rp.mono g.ff r_theirs
  have r_depths := Rp.mono g.ff r_depths
  have o_ones : Own K _ F H l_ones _ := Own.cg (Option.some.inj he) ⟨n0_, fl_, vs_, hl_, rs_⟩
  refine o_ones.freeze G (fun F H s_ s2_ G r_ones k_ => ?_)
  have r_script := Rp.mono s_ r_script
  have r_mine := Rp.mono s_ r_mine
  have r_theirs := Rp.mono s_ r_theirs
  have r_depths := Rp.mono s_ r_depths
  obtain ⟨t5, h_t5, hm⟩ := Option.bind_eq_some_iff.mp hm
  obtain ⟨t6, h_t6, hm⟩ := Option.bind_eq_some_iff.mp hm
  obtain ⟨t8, h_t8, hm⟩ := Option.bind_eq_some_iff.mp hm
  obtain ⟨x_others, he, hm⟩ := Option.bind_eq_some_iff.mp hm
  first
    | refine go_setLc (own := [("_law_e", 5)]) 6 G.fh sc_turns.nd (ei_range1 (ev_ixL (ev_var 3 rfl r_depths) ev_int h_t5) h_t6 T.n_range) h_t8 (blkOk_by (N := ["_law_script", "_law_mine", "_law_theirs", "_law_depths", "_law_ones", "_law_e", "_law_others", "_law_near", "_law_pair_here", "_law_beside"]) (sc := defScope s_turns) (by decide +kernel)) (fun _ _ _ _ _ => (pg_name (i := 5) sc_turns.nd rfl (by first | exact Or.inl rfl | exact Or.inr rfl))) (fun x_e o_ hm F H v_e g r_e Q hQ => by
          have r_script := Rp.mono g.ff r_script
          have r_depths := Rp.mono g.ff r_depths
          refine hQ _ rfl ?_
          obtain ⟨t7, h_t7, hm⟩ := Option.bind_eq_some_iff.mp hm
          exact ⟨_, (Option.some.inj hm).symm, fun s_ H_ C_ cl_ fp_ => (ev_sub (ev_mod (ev_call (ok_cell_at T) (hr.mono (by omega)) T.g_cell_at T.F_cell_at.kp (b_cell_at T) (ea_cons (ev_var 0 rfl r_script) (ea_cons (ev_add ev_int (ev_var 5 rfl r_e)) ea_nil)) h_t7) (ev_powc (z := 1000000000000000000) ev_int ev_int (by decide) (by decide +kernel)) (by decide)) (ev_powc (z := 100000000000000000) ev_int ev_int (by decide) (by decide +kernel)))⟩) (fun l_others vs_ F H g nl_ fl_ hl_ rs_ => ?_)
    | refine go_setN 6 G.fh (en_comp (own := [("_law_e", 5)]) sc_turns.nd (ei_range1 (ev_ixL (ev_var 3 rfl r_depths) ev_int h_t5) h_t6 T.n_range) h_t8 (blkOk_by (N := ["_law_script", "_law_mine", "_law_theirs", "_law_depths", "_law_ones", "_law_e", "_law_others", "_law_near", "_law_pair_here", "_law_beside"]) (sc := defScope s_turns) (by decide +kernel)) (fun _ _ _ _ _ => (pg_name (i := 5) sc_turns.nd rfl (by first | exact Or.inl rfl | exact Or.inr rfl))) (fun x_e o_ hm F H v_e g r_e Q hQ => by
          have r_script := Rp.mono g.ff r_script
          have r_depths := Rp.mono g.ff r_depths
          refine hQ _ rfl ?_
          obtain ⟨t7, h_t7, hm⟩ := Option.bind_eq_some_iff.mp hm
          exact ⟨_, (Option.some.inj hm).symm, fun s_ H_ C_ cl_ fp_ => (ev_sub (ev_mod (ev_call (ok_cell_at T) (hr.mono (by omega)) T.g_cell_at T.F_cell_at.kp (b_cell_at T) (ea_cons (ev_var 0 rfl r_script) (ea_cons (ev_add ev_int (ev_var 5 rfl r_e)) ea_nil)) h_t7) (ev_powc (z := 1000000000000000000) ev_int ev_int (by decide) (by decide +kernel)) (by decide)) (ev_powc (z := 100000000000000000) ev_int ev_int (by decide) (by decide +kernel)))⟩)) (fun l_others vs_ F H g nl_ fl_ hl_ rs_ => ?_) sc_turns.nd
  have n0_ := G.hh.free nl_
  have G := G.trans g
  have r_script := Rp.mono g.ff r_script
  have r_mine := Rp.mono g.ff r_mine
  have r_theirs := Rp.mono g.ff r_theirs
  have r_depths := Rp.mono g.ff r_depths
  have r_ones := Rp.mono g.ff r_ones
  have o_others : Own K _ F H l_others _ := Own.cg (Option.some.inj he) ⟨n0_, fl_, vs_, hl_, rs_⟩
  obtain ⟨t9, h_t9, hm⟩ := Option.bind_eq_some_iff.mp hm
  obtain ⟨b21, ho_, hm⟩ := Option.bind_eq_some_iff.mp hm
  refine go_forN G.fh (ei_range1 (ev_callB (call_min2 rfl) oc_min2 T.n_min (by decide +kernel) (ea_cons (ev_callB call_len_seq oc_lenL T.n_len PySem.boot_len (ea_cons (ev_ixT (ev_var 1 rfl r_mine) ev_int pj3) ea_nil)) (ea_cons (ev_callB call_len_seq oc_lenL T.n_len PySem.boot_len (ea_cons (ev_ixT (ev_var 2 rfl r_theirs) ev_int pj3) ea_nil)) ea_nil))) h_t9 T.n_range) (pg_name (i := 5) sc_turns.nd rfl (by first | exact Or.inl rfl | exact Or.inr rfl)) ho_ (fun F H g => ?_) PassesOwn.never
  have G := G.trans g
  have r_script := Rp.mono g.ff r_script
  have r_mine := Rp.mono g.ff r_mine
  have r_theirs := Rp.mono g.ff r_theirs
  have r_ones := Rp.mono g.ff r_ones
  have o_others := o_others.up g
  refine ⟨fun (b10 : (List Int)) σ_ F_ H_ => ∃ (u_near : Option V) (u_pair_here : Option V) (u_beside : Option V) (u_e : Option V), σ_ = [some v_script, some v_mine, some v_theirs, some v_depths, some (.ref l_ones), u_e, some (.ref l_others), u_near, u_pair_here, u_beside] ∧ Gr F0 H0 F_ H_ ∧ Own K H0 F_ H_ l_others b10, ⟨_, _, _, _, rfl, G, o_others⟩, ?_, ?_⟩
  ·
    intro b10 x_e o_ hm σ_ F H v_e s1_ s2_ iv_ F H g r_e Q_ hQ_
    obtain ⟨u_near, u_pair_here, u_beside, u_e, rfl, G, o_others⟩ := iv_
    have sb13 := g.ff
    have r_script := Rp.mono s1_ r_script
    have r_mine := Rp.mono s1_ r_mine
    have r_theirs := Rp.mono s1_ r_theirs
    have r_ones := Rp.mono s1_ r_ones
    have G := G.trans g
    have r_script := Rp.mono g.ff r_script
    have r_mine := Rp.mono g.ff r_mine
    have r_theirs := Rp.mono g.ff r_theirs
    have r_ones := Rp.mono g.ff r_ones
    have o_others := o_others.up g
    refine hQ_ _ _ ?_
    obtain ⟨t14, h_t14, hm⟩ := Option.bind_eq_some_iff.mp hm
    obtain ⟨t15, h_t15, hm⟩ := Option.bind_eq_some_iff.mp hm
    obtain ⟨t16, h_t16, hm⟩ := Option.bind_eq_some_iff.mp hm
    obtain ⟨x_near, he, hm⟩ := Option.bind_eq_some_iff.mp hm
    refine go_set (α := Int) 7 G.fh (ev_ixTp (ev_tp (el_cons ev_int (el_cons ev_int (el_cons ev_int (el_cons ev_int (el_cons (ev_neg ev_int) (el_cons ev_int (el_cons ev_int el_nil))))))) (by show 7 ≤ sizeLine; decide)) (ev_mod (ev_call (ok_mixed T) (hr.mono (by omega)) T.g_mixed T.F_mixed.kp (b_mixed T) (ea_cons (ev_call (ok_cell_at T) (hr.mono (by omega)) T.g_cell_at T.F_cell_at.kp (b_cell_at T) (ea_cons (ev_var 0 rfl r_script) (ea_cons ev_int ea_nil)) h_t14) (ea_cons (ev_var 5 rfl r_e) ea_nil)) h_t15) ev_int (by decide)) h_t16) (fun v_near F H g rn_ => ?_) sc_turns.nd
    have G := G.trans g
    have r_script := Rp.mono g.ff r_script
    have r_mine := Rp.mono g.ff r_mine
    have r_theirs := Rp.mono g.ff r_theirs
    have r_ones := Rp.mono g.ff r_ones
    have o_others := o_others.up g
    have r_e := Rp.mono g.ff r_e
    have sb13 := sb13.trans g.ff
    have r_near := cg (Option.some.inj he) rn_
    obtain ⟨t17, h_t17, hm⟩ := Option.bind_eq_some_iff.mp hm
    obtain ⟨x_pair_here, he, hm⟩ := Option.bind_eq_some_iff.mp hm
    refine go_set (α := (T2 Int Int)) 8 G.fh (ev_ixL (ev_ixT (ev_var 1 rfl r_mine) ev_int pj3) (ev_var 5 rfl r_e) h_t17) (fun v_pair_here F H g rn_ => ?_) sc_turns.nd
    have G := G.trans g
    have r_mine := Rp.mono g.ff r_mine
    have r_theirs := Rp.mono g.ff r_theirs
    have r_ones := Rp.mono g.ff r_ones
    have o_others := o_others.up g
    have r_e := Rp.mono g.ff r_e
    have r_near := Rp.mono g.ff r_near
    have sb13 := sb13.trans g.ff
    have r_pair_here := cg (Option.some.inj he) rn_
    obtain ⟨t18, h_t18, hm⟩ := Option.bind_eq_some_iff.mp hm
    obtain ⟨x_beside, he, hm⟩ := Option.bind_eq_some_iff.mp hm
    refine go_set (α := (T2 Int Int)) 9 G.fh (ev_ixL (ev_ixT (ev_var 2 rfl r_theirs) ev_int pj3) (ev_var 5 rfl r_e) h_t18) (fun v_beside F H g rn_ => ?_) sc_turns.nd
    have G := G.trans g
    have r_theirs := Rp.mono g.ff r_theirs
    have r_ones := Rp.mono g.ff r_ones
    have o_others := o_others.up g
    have r_e := Rp.mono g.ff r_e
    have r_near := Rp.mono g.ff r_near
    have r_pair_here := Rp.mono g.ff r_pair_here
    have sb13 := sb13.trans g.ff
    have r_beside := cg (Option.some.inj he) rn_
    obtain ⟨t19, h_t19, hm⟩ := Option.bind_eq_some_iff.mp hm
    obtain ⟨t20, he, hm⟩ := Option.bind_eq_some_iff.mp hm
    refine go_setL 6 G.fh o_others rfl (ev_add (ev_sub (ev_add (ev_ixL (ev_var 4 rfl r_ones) (ev_ixT (ev_var 8 rfl r_pair_here) ev_int pj0) h_t19) (ev_ixT (ev_var 8 rfl r_pair_here) ev_int pj1)) (ev_ixT (ev_var 9 rfl r_beside) ev_int pj1)) (ev_var 7 rfl r_near)) (ev_ixT (ev_var 9 rfl r_beside) ev_int pj0) he (fun w_ F H g nz_ fz_ on_ => ?_)
    have G := G.trans g
    have r_ones := Rp.mono g.ff r_ones
    have r_near := Rp.mono g.ff r_near
    have r_pair_here := Rp.mono g.ff r_pair_here
    have r_beside := Rp.mono g.ff r_beside
    have sb13 := sb13.trans g.ff
    have G := G.poke (u := w_) on_.n fz_
    have o_others := on_
    have hm := Option.some.inj hm
    subst hm
    exact GoS.nil ⟨_, sb13, G.fh, ⟨_, _, _, _, rfl, G, o_others⟩⟩
  · intro σ_ F H s1_ s2_ iv_
    obtain ⟨u_near, u_pair_here, u_beside, u_e, rfl, G, o_others⟩ := iv_
    have r_ones := Rp.mono s1_ r_ones
    refine o_others.freeze G (fun F H s_ s2_ G r_others k_ => ?_)
    have r_ones := Rp.mono s_ r_ones
    obtain ⟨t24, h_t24, hm⟩ := Option.bind_eq_some_iff.mp hm
    obtain ⟨t25, h_t25, hm⟩ := Option.bind_eq_some_iff.mp hm
    exact go_ret G.fh (EvN.ev (α := (List Int)) (en_cat (EvN.ev (α := (List Int)) (en_cat (EvN.ev (α := (List Int)) (en_list (el_cons ev_int el_nil) (by show 1 ≤ sizeLine; decide))) (ev_var 4 rfl r_ones) h_t24)) (ev_var 6 rfl r_others) h_t25)) fun v_ F_ H_ g_ rv_ => kr _ _ _ (G.trans g_) (cg (Option.some.inj hm) rv_)
/-! shared -/
theorem sc_shared : FnScope ["_law_boughs_here", "_law_p", "_law_q", "_law_bough_here"] ["_law_boughs_here", "_law_p", "_law_q"] (defScope s_shared) := ⟨rfl, rfl, rfl, by decide +kernel, rfl, by decide +kernel, by decide +kernel⟩
theorem b_shared (T : Txt K mg) : Binds K T.d_shared ["_law_boughs_here", "_law_p", "_law_q"] [] := T.F_shared.bindsN fun _ _ _ _ _ _ us hl => match us, hl with | [_, _, _], _ => rfl
theorem ok_shared (T : Txt K mg) : FnOk P w K mg base CX0 1 (He.fAd K ("_law_shared", none)) T.d_shared ["_law_boughs_here", "_law_p", "_law_q"] (Pr K fun (a_ : (List (T4 Int Int (List (T2 Bool Str)) (List (T2 Int Int)))) × Int × Int × Unit) => m_shared a_.1 a_.2.1 a_.2.2.1) := by
  refine fn_ok T.F_shared sc_shared rfl fun cdv A outer s_ F0 H0 vs a_ r D_ E_ hr sm_ ra_ hm kr kn => ?_
  obtain ⟨v_boughs_here, _, rfl, r_boughs_here, v_p, _, rfl, r_p, v_q, _, rfl, r_q, rfl⟩ := ra_
  obtain ⟨x_boughs_here, x_p, x_q, _u⟩ := a_
  have G : Gr F0 H0 F0 H0 := Gr.refl sm_
  replace hm : m_shared x_boughs_here x_p x_q = some r := hm
  unfold m_shared at hm
  have r_boughs_here : rp (α := (List (T4 Int Int (List (T2 Bool Str)) (List (T2 Int Int))))) K F0 v_boughs_here x_boughs_here := r_boughs_here
  have r_p : rp (α := Int) K F0 v_p x_p := r_p
  have r_q : rp (α := Int) K F0 v_q x_q := r_q
  refine go_if (t := (decide (x_p = x_q))) G.fh (et_cmp op_eq o2_eq (ev_var 1 rfl r_p) (ev_var 2 rfl r_q) (nomark _)) (fun hc F H g => ?_) (fun hc F H g => ?_)
  · replace hm := ipos hc hm
    have G := G.trans g
    have r_boughs_here := Rp.mono g.ff r_boughs_here
    have r_p := Rp.mono g.ff r_p
    have r_q := Rp.mono g.ff r_q
    obtain ⟨t1, h_t1, hm⟩ := Option.bind_eq_some_iff.mp hm
    exact go_ret G.fh (ev_callB call_len_seq oc_lenL T.n_len PySem.boot_len (ea_cons (ev_ixT (ev_ixL (ev_var 0 rfl r_boughs_here) (ev_var 1 rfl r_p) h_t1) ev_int pj2) ea_nil)) fun v_ F_ H_ g_ rv_ => kr _ _ _ (G.trans g_) (cg (Option.some.inj hm) rv_)
  · replace hm := ineg (nt hc) hm
    have G := G.trans g
    have r_boughs_here := Rp.mono g.ff r_boughs_here
    have r_p := Rp.mono g.ff r_p
    have r_q := Rp.mono g.ff r_q
    refine GoS.nil ?_
    obtain ⟨t2, h_t2, hm⟩ := Option.bind_eq_some_iff.mp hm
    obtain ⟨t3, h_t3, hm⟩ := Option.bind_eq_some_iff.mp hm
    exact go_ret G.fh (ev_callB (cr_min rfl) (oc_min h_t3) T.n_min (by decide +kernel) (ea_cons (EvN.ev (α := (List Int)) (en_comp (own := [("_law_bough_here", 3)]) sc_shared.nd (ei_list (EvN.ev (α := (List (T4 Int Int (List (T2 Bool Str)) (List (T2 Int Int))))) (en_slice (ev_var 0 rfl r_boughs_here) (eo_some (ev_add (ev_callB (call_min2 rfl) oc_min2 T.n_min (by decide +kernel) (ea_cons (ev_var 1 rfl r_p) (ea_cons (ev_var 2 rfl r_q) ea_nil))) ev_int)) (eo_some (ev_add (ev_callB (call_max2 rfl) oc_max2 T.n_max (by decide +kernel) (ea_cons (ev_var 1 rfl r_p) (ea_cons (ev_var 2 rfl r_q) ea_nil))) ev_int))))) h_t2 (blkOk_by (N := ["_law_boughs_here", "_law_p", "_law_q", "_law_bough_here"]) (sc := defScope s_shared) (by decide +kernel)) (fun _ _ _ _ _ => (pg_name (i := 3) sc_shared.nd rfl (by first | exact Or.inl rfl | exact Or.inr rfl))) (fun x_bough_here o_ hm F H v_bough_here g r_bough_here Q hQ => by
          have r_boughs_here := Rp.mono g.ff r_boughs_here
          have r_p := Rp.mono g.ff r_p
          have r_q := Rp.mono g.ff r_q
          refine hQ _ rfl ?_
          exact ⟨_, (Option.some.inj hm).symm, fun s_ H_ C_ cl_ fp_ => (ev_ixT (ev_var 3 rfl r_bough_here) ev_int pj1)⟩))) ea_nil)) fun v_ F_ H_ g_ rv_ => kr _ _ _ (G.trans g_) (cg (Option.some.inj hm) rv_)
/-! sides -/
theorem sc_sides : FnScope ["_law_boughs_here", "_law_k", "_law_l", "_law_p", "_law_q", "_law_many", "_law_due", "_law_e", "_law_way"] ["_law_boughs_here", "_law_k", "_law_l"] (defScope s_sides) := ⟨rfl, rfl, rfl, by decide +kernel, rfl, by decide +kernel, by decide +kernel⟩
theorem b_sides (T : Txt K mg) : Binds K T.d_sides ["_law_boughs_here", "_law_k", "_law_l"] [] := T.F_sides.bindsN fun _ _ _ _ _ _ us hl => match us, hl with | [_, _, _], _ => rfl
theorem ok_sides (T : Txt K mg) : FnOk P w K mg base CX0 2 (He.fAd K ("_law_sides", none)) T.d_sides ["_law_boughs_here", "_law_k", "_law_l"] (Pr K fun (a_ : (List (T4 Int Int (List (T2 Bool Str)) (List (T2 Int Int)))) × Int × Int × Unit) => m_sides a_.1 a_.2.1 a_.2.2.1) := by
  refine fn_ok T.F_sides sc_sides rfl fun cdv A outer s_ F0 H0 vs a_ r D_ E_ hr sm_ ra_ hm kr kn => ?_
  obtain ⟨v_boughs_here, _, rfl, r_boughs_here, v_k, _, rfl, r_k, v_l, _, rfl, r_l, rfl⟩ := ra_
  obtain ⟨x_boughs_here, x_k, x_l, _u⟩ := a_
  have G : Gr F0 H0 F0 H0 := Gr.refl sm_
  replace hm : m_sides x_boughs_here x_k x_l = some r := hm
  unfold m_sides at hm
  have r_boughs_here : rp (α := (List (T4 Int Int (List (T2 Bool Str)) (List (T2 Int Int))))) K F0 v_boughs_here x_boughs_here := r_boughs_here
  have r_k : rp (α := Int) K F0 v_k x_k := r_k
  have r_l : rp (α := Int) K F0 v_l x_l := r_l
  obtain ⟨t1, h_t1, hm⟩ := Option.bind_eq_some_iff.mp hm
  obtain ⟨x_p, he, hm⟩ := Option.bind_eq_some_iff.mp hm
  refine go_set (α := Int) 3 G.fh (ev_call (ok_at T) (hr.mono (by omega)) T.g_at T.F_at.kp (b_at T) (ea_cons (ev_var 0 rfl r_boughs_here) (ea_cons (ev_var 1 rfl r_k) ea_nil)) h_t1) (fun v_p F H g rn_ => ?_) sc_sides.nd
  have G := G.trans g
  have r_boughs_here := Rp.mono g.ff r_boughs_here
  have r_k := Rp.mono g.ff r_k
  have r_l := Rp.mono g.ff r_l
  have r_p := cg (Option.some.inj he) rn_
  obtain ⟨t2, h_t2, hm⟩ := Option.bind_eq_some_iff.mp hm
  obtain ⟨x_q, he, hm⟩ := Option.bind_eq_some_iff.mp hm
  refine go_set (α := Int) 4 G.fh (ev_call (ok_at T) (hr.mono (by omega)) T.g_at T.F_at.kp (b_at T) (ea_cons (ev_var 0 rfl r_boughs_here) (ea_cons (ev_var 2 rfl r_l) ea_nil)) h_t2) (fun v_q F H g rn_ => ?_) sc_sides.nd
  have G := G.trans g
  have r_boughs_here := Rp.mono g.ff r_boughs_here
  have r_l := Rp.mono g.ff r_l
  have r_p := Rp.mono g.ff r_p
  have r_q := cg (Option.some.inj he) rn_
  obtain ⟨t3, h_t3, hm⟩ := Option.bind_eq_some_iff.mp hm
  obtain ⟨x_many, he, hm⟩ := Option.bind_eq_some_iff.mp hm
  refine go_set (α := Int) 5 G.fh (ev_call (ok_shared T) (hr.mono (by omega)) T.g_shared T.F_shared.kp (b_shared T) (ea_cons (ev_var 0 rfl r_boughs_here) (ea_cons (ev_var 3 rfl r_p) (ea_cons (ev_var 4 rfl r_q) ea_nil))) h_t3) (fun v_many F H g rn_ => ?_) sc_sides.nd
  have G := G.trans g
  have r_boughs_here := Rp.mono g.ff r_boughs_here
  have r_p := Rp.mono g.ff r_p
  have r_q := Rp.mono g.ff r_q
  have r_many := cg (Option.some.inj he) rn_
  obtain ⟨x_due, he, hm⟩ := Option.bind_eq_some_iff.mp hm
  refine go_setN (α := (List (T2 Int Str))) 6 G.fh (en_list el_nil (Nat.zero_le _)) (fun l_due vs_ F H g nl_ fl_ hl_ rs_ => ?_) sc_sides.nd
  have n0_ := G.hh.free nl_
  have G := G.trans g
  have r_boughs_here := Rp.mono g.ff r_boughs_here
  have r_p := Rp.mono g.ff r_p
  have r_q := Rp.mono g.ff r_q
  have r_many := Rp.mono g.ff r_many
  have o_due : Own K _ F H l_due _ := Own.cg (Option.some.inj he) ⟨n0_, fl_, vs_, hl_, rs_⟩
  obtain ⟨t4, h_t4, hm⟩ := Option.bind_eq_some_iff.mp hm
  obtain ⟨b15, ho_, hm⟩ := Option.bind_eq_some_iff.mp hm
  refine go_forN G.fh (ei_range1 (ev_var 5 rfl r_many) h_t4 T.n_range) (pg_name (i := 7) sc_sides.nd rfl (by first | exact Or.inl rfl | exact Or.inr rfl)) ho_ (fun F H g => ?_) PassesOwn.never
  have G := G.trans g
  have r_boughs_here := Rp.mono g.ff r_boughs_here
  have r_p := Rp.mono g.ff r_p
  have r_q := Rp.mono g.ff r_q
  have r_many := Rp.mono g.ff r_many
  have o_due := o_due.up g
  refine ⟨fun (b5 : (List (T2 Int Str))) σ_ F_ H_ => ∃ (u_way : Option V) (u_e : Option V), σ_ = [some v_boughs_here, some v_k, some v_l, some v_p, some v_q, some v_many, some (.ref l_due), u_e, u_way] ∧ Gr F0 H0 F_ H_ ∧ Own K H0 F_ H_ l_due b5, ⟨_, _, rfl, G, o_due⟩, ?_, ?_⟩
  ·
    intro b5 x_e o_ hm σ_ F H v_e s1_ s2_ iv_ F H g r_e Q_ hQ_
    obtain ⟨u_way, u_e, rfl, G, o_due⟩ := iv_
    have sb8 := g.ff
    have r_boughs_here := Rp.mono s1_ r_boughs_here
    have r_p := Rp.mono s1_ r_p
    have G := G.trans g
    have r_boughs_here := Rp.mono g.ff r_boughs_here
    have r_p := Rp.mono g.ff r_p
    have o_due := o_due.up g
    refine hQ_ _ _ ?_
    obtain ⟨t9, h_t9, hm⟩ := Option.bind_eq_some_iff.mp hm
    obtain ⟨t10, h_t10, hm⟩ := Option.bind_eq_some_iff.mp hm
    obtain ⟨x_way, he, hm⟩ := Option.bind_eq_some_iff.mp hm
    refine go_set (α := Str) 8 G.fh (ev_ixT (ev_ixL (ev_ixT (ev_ixL (ev_var 0 rfl r_boughs_here) (ev_var 3 rfl r_p) h_t9) ev_int pj2) (ev_var 7 rfl r_e) h_t10) ev_int pj1) (fun v_way F H g rn_ => ?_) sc_sides.nd
    have G := G.trans g
    have r_boughs_here := Rp.mono g.ff r_boughs_here
    have r_p := Rp.mono g.ff r_p
    have o_due := o_due.up g
    have r_e := Rp.mono g.ff r_e
    have sb8 := sb8.trans g.ff
    have r_way := cg (Option.some.inj he) rn_
    obtain ⟨b11, hj, hm⟩ := Option.bind_eq_some_iff.mp hm
    refine go_ifj (t := (!decide (x_way = ("up" : Str)))) (fun σ_ H_ => ∃ (F_ : Hp), L2.Same F F_ ∧ σ_ = [some v_boughs_here, some v_k, some v_l, some v_p, some v_q, some v_many, some (.ref l_due), some v_e, some v_way] ∧ Gr F0 H0 F_ H_ ∧ Own K H0 F_ H_ l_due b11) G.fh (et_cmp op_ne o2_ne (ev_var 8 rfl r_way) ev_str (nomark _)) (fun hc F H g => ?_) (fun hc F H g => ?_) (fun σ_ H hP_ => ?_)
    · replace hj := ipos hc hj
      clear hm
      have hm := hj
      clear hj
      have G := G.trans g
      have o_due := o_due.up g
      have r_e := Rp.mono g.ff r_e
      have r_way := Rp.mono g.ff r_way
      have sb8 := sb8.trans g.ff
      have sj12 := g.ff
      obtain ⟨t13, he, hm⟩ := Option.bind_eq_some_iff.mp hm
      refine go_append 6 G.fh o_due rfl (ev_tup2 (ea_cons (ev_var 7 rfl r_e) (ea_cons ev_str ea_nil))) he (fun w_ F H g nz_ fz_ on_ => ?_)
      have G := G.trans g
      have r_e := Rp.mono g.ff r_e
      have r_way := Rp.mono g.ff r_way
      have sb8 := sb8.trans g.ff
      have sj12 := sj12.trans g.ff
      have G := G.poke (u := w_) on_.n fz_
      have o_due := on_
      have hm := Option.some.inj hm
      subst hm
      exact GoS.nil ⟨_, sj12, rfl, G, o_due⟩
    · replace hj := ineg (nt hc) hj
      clear hm
      have hm := hj
      clear hj
      have G := G.trans g
      have o_due := o_due.up g
      have r_e := Rp.mono g.ff r_e
      have r_way := Rp.mono g.ff r_way
      have sb8 := sb8.trans g.ff
      have sj12 := g.ff
      have hm := Option.some.inj hm
      subst hm
      exact GoS.nil ⟨_, sj12, rfl, G, o_due⟩
    obtain ⟨F, sj_, rfl, G, o_due⟩ := hP_
    have r_e := Rp.mono sj_ r_e
    have r_way := Rp.mono sj_ r_way
    have sb8 := sb8.trans sj_
    refine go_if (t := (!decide (x_way = ("down" : Str)))) G.fh (et_cmp op_ne o2_ne (ev_var 8 rfl r_way) ev_str (nomark _)) (fun hc F H g => ?_) (fun hc F H g => ?_)
    · replace hm := ipos hc hm
      have G := G.trans g
      have o_due := o_due.up g
      have r_e := Rp.mono g.ff r_e
      have r_way := Rp.mono g.ff r_way
      have sb8 := sb8.trans g.ff
      obtain ⟨t14, he, hm⟩ := Option.bind_eq_some_iff.mp hm
      refine go_append 6 G.fh o_due rfl (ev_tup2 (ea_cons (ev_var 7 rfl r_e) (ea_cons ev_str ea_nil))) he (fun w_ F H g nz_ fz_ on_ => ?_)
      have G := G.trans g
      have r_e := Rp.mono g.ff r_e
      have sb8 := sb8.trans g.ff
      have G := G.poke (u := w_) on_.n fz_
      have o_due := on_
      refine GoS.nil ?_
      have hm := Option.some.inj hm
      subst hm
      exact GoS.nil ⟨_, sb8, G.fh, ⟨_, _, rfl, G, o_due⟩⟩
    · replace hm := ineg (nt hc) hm
      have G := G.trans g
      have o_due := o_due.up g
      have r_e := Rp.mono g.ff r_e
      have r_way := Rp.mono g.ff r_way
      have sb8 := sb8.trans g.ff
      refine GoS.nil ?_
      have hm := Option.some.inj hm
      subst hm
      exact GoS.nil ⟨_, sb8, G.fh, ⟨_, _, rfl, G, o_due⟩⟩
  · intro σ_ F H s1_ s2_ iv_
    obtain ⟨u_way, u_e, rfl, G, o_due⟩ := iv_
    have r_p := Rp.mono s1_ r_p
    have r_q := Rp.mono s1_ r_q
    have r_many := Rp.mono s1_ r_many
    obtain ⟨b16, hj, hm⟩ := Option.bind_eq_some_iff.mp hm
    refine go_ifj (t := (decide (x_q < x_p))) (fun σ_ H_ => ∃ (F_ : Hp), L2.Same F F_ ∧ σ_ = [some v_boughs_here, some v_k, some v_l, some v_p, some v_q, some v_many, some (.ref l_due), u_e, u_way] ∧ Gr F0 H0 F_ H_ ∧ Own K H0 F_ H_ l_due b16) G.fh (et_cmp op_lt o2_lt (ev_var 4 rfl r_q) (ev_var 3 rfl r_p) (nomark _)) (fun hc F H g => ?_) (fun hc F H g => ?_) (fun σ_ H hP_ => ?_)
    · replace hj := ipos hc hj
      clear hm
      have hm := hj
      clear hj
      have G := G.trans g
      have r_p := Rp.mono g.ff r_p
      have r_q := Rp.mono g.ff r_q
      have r_many := Rp.mono g.ff r_many
      have o_due := o_due.up g
      have sj17 := g.ff
      obtain ⟨t18, he, hm⟩ := Option.bind_eq_some_iff.mp hm
      refine go_append 6 G.fh o_due rfl (ev_tup2 (ea_cons (ev_var 5 rfl r_many) (ea_cons ev_str ea_nil))) he (fun w_ F H g nz_ fz_ on_ => ?_)
      have G := G.trans g
      have r_many := Rp.mono g.ff r_many
      have sj17 := sj17.trans g.ff
      have G := G.poke (u := w_) on_.n fz_
      have o_due := on_
      have hm := Option.some.inj hm
      subst hm
      exact GoS.nil ⟨_, sj17, rfl, G, o_due⟩
    · replace hj := ineg (nt hc) hj
      clear hm
      have hm := hj
      clear hj
      have G := G.trans g
      have r_p := Rp.mono g.ff r_p
      have r_q := Rp.mono g.ff r_q
      have r_many := Rp.mono g.ff r_many
      have o_due := o_due.up g
      have sj17 := g.ff
      have hm := Option.some.inj hm
      subst hm
      exact GoS.nil ⟨_, sj17, rfl, G, o_due⟩
    obtain ⟨F, sj_, rfl, G, o_due⟩ := hP_
    refine o_due.freeze G (fun F H s_ s2_ G r_due k_ => ?_)
    exact go_ret G.fh (ev_var 6 rfl r_due) fun v_ F_ H_ g_ rv_ => kr _ _ _ (G.trans g_) (cg (Option.some.inj hm) rv_)
/-! stand_within -/
theorem sc_stand_within : FnScope ["items", "k", "path", "at", "item", "here", "found"] ["items", "k", "path"] (defScope s_stand_within) := ⟨rfl, rfl, rfl, by decide +kernel, rfl, by decide +kernel, by decide +kernel⟩
theorem b_stand_within (T : Txt K mg) : Binds K T.d_stand_within ["items", "k", "path"] [] := T.F_stand_within.bindsN fun _ _ _ _ _ _ us hl => match us, hl with | [_, _, _], _ => rfl
theorem ok_stand_within (T : Txt K mg) : ∀ n_ : Nat, FnOk P w K mg base CX0 (0 + n_ + 1) (He.fAd K ("stand_within", none)) T.d_stand_within ["items", "k", "path"] (Pr K fun (a_ : (Tp UItem) × Int × (Tp Int) × Unit) => m_stand_within n_ a_.1 a_.2.1 a_.2.2.1)
  | 0 => by
    refine fn_ok T.F_stand_within sc_stand_within rfl fun cdv A outer s_ F0 H0 vs a_ r D_ E_ hr sm_ ra_ hm kr kn => ?_
    exact nomatch (show none = some r from hm)
  | n_ + 1 => by
    have ih_ := ok_stand_within T n_
    refine fn_ok T.F_stand_within sc_stand_within rfl fun cdv A outer s_ F0 H0 vs a_ r D_ E_ hr sm_ ra_ hm kr kn => ?_
    obtain ⟨v_items, _, rfl, r_items, v_k, _, rfl, r_k, v_path, _, rfl, r_path, rfl⟩ := ra_
    obtain ⟨x_items, x_k, x_path, _u⟩ := a_
    have G : Gr F0 H0 F0 H0 := Gr.refl sm_
    replace hm : m_stand_within (n_ + 1) x_items x_k x_path = some r := hm
    rw [m_stand_within] at hm
    have r_items : rp (α := (Tp UItem)) K F0 v_items x_items := r_items
    have r_k : rp (α := Int) K F0 v_k x_k := r_k
    have r_path : rp (α := (Tp Int)) K F0 v_path x_path := r_path
    obtain ⟨o3, ho_, hm⟩ := Option.bind_eq_some_iff.mp hm
    refine go_forM G.fh (ei_enumT (ev_var 0 rfl r_items) T.n_enumerate) (pg_tup rfl (pgs_cons (pg_name (i := 3) sc_stand_within.nd rfl (by first | exact Or.inl rfl | exact Or.inr rfl)) (pgs_cons (pg_name (i := 4) sc_stand_within.nd rfl (by first | exact Or.inl rfl | exact Or.inr rfl)) pgs_nil))) ho_ hm (fun F H g => ?_) PassesOwn.never
    have G := G.trans g
    have r_k := Rp.mono g.ff r_k
    have r_path := Rp.mono g.ff r_path
    refine ⟨fun (b1 : Unit) σ_ F_ H_ => ∃ (u_here : Option V) (u_found : Option V) (u_at : Option V) (u_item : Option V), σ_ = [some v_items, some v_k, some v_path, u_at, u_item, u_here, u_found] ∧ Gr F0 H0 F_ H_, fun r_ v_ H_ => ∃ F_, Gr F0 H0 F_ H_ ∧ rp K F_ v_ r_, ⟨_, _, _, _, rfl, G⟩, ?_, ?_, ?_⟩
    ·
      intro b1 i2 o_ hm σ_ F H w_ s1_ s2_ iv_ F H g ri_ Q_ hQ_
      obtain ⟨u_here, u_found, u_at, u_item, rfl, G⟩ := iv_
      have sb6 := g.ff
      have r_k := Rp.mono s1_ r_k
      have r_path := Rp.mono s1_ r_path
      have G := G.trans g
      have r_k := Rp.mono g.ff r_k
      have r_path := Rp.mono g.ff r_path
      obtain ⟨pa4, _, rfl, sq5, v_at, _, rfl, r_at, v_item, _, rfl, r_item, rfl⟩ := ri_
      refine ⟨pa4, _, rfl, seqT_mono g.fh sq5, rfl, _, _, rfl, _, _, rfl, rfl, hQ_ _ _ ?_⟩
      obtain ⟨t7, h_t7, hm⟩ := Option.bind_eq_some_iff.mp hm
      obtain ⟨x_here, he, hm⟩ := Option.bind_eq_some_iff.mp hm
      refine go_set (α := (Tp Int)) 5 G.fh (ev_catT (ev_var 2 rfl r_path) (ev_tp (el_cons (ev_var 3 rfl r_at) el_nil) (by show 1 ≤ sizeLine; decide)) h_t7) (fun v_here F H g rn_ => ?_) sc_stand_within.nd
      have G := G.trans g
      have r_k := Rp.mono g.ff r_k
      have r_path := Rp.mono g.ff r_path
      have r_at := Rp.mono g.ff r_at
      have r_item := Rp.mono g.ff r_item
      have sb6 := sb6.trans g.ff
      have r_here := cg (Option.some.inj he) rn_
      refine go_if (t := (decide (i2.b.tag = ("sweep" : Str)))) G.fh (et_cmp op_eq o2_eq (UItem.ev_tag (ev_var 4 rfl r_item)) ev_str (nomark _)) (fun hc F H g => ?_) (fun hc F H g => ?_)
      · replace hm := ipos hc hm
        have G := G.trans g
        have r_k := Rp.mono g.ff r_k
        have r_item := Rp.mono g.ff r_item
        have r_here := Rp.mono g.ff r_here
        have sb6 := sb6.trans g.ff
        obtain ⟨t8, h_t8, hm⟩ := Option.bind_eq_some_iff.mp hm
        obtain ⟨t9, h_t9, hm⟩ := Option.bind_eq_some_iff.mp hm
        obtain ⟨x_found, he, hm⟩ := Option.bind_eq_some_iff.mp hm
        refine go_set (α := (Option (T2 (Tp Int) (Tp (T2 Int Int))))) 6 G.fh (ev_call ih_ (hr.mono (by omega)) T.g_stand_within T.F_stand_within.kp (b_stand_within T) (ea_cons (ev_ixT (UItem.evv_sweep (ev_var 4 rfl r_item) h_t8) ev_int pj3) (ea_cons (ev_var 1 rfl r_k) (ea_cons (ev_var 5 rfl r_here) ea_nil))) h_t9) (fun v_found F H g rn_ => ?_) sc_stand_within.nd
        have G := G.trans g
        have r_k := Rp.mono g.ff r_k
        have r_item := Rp.mono g.ff r_item
        have r_here := Rp.mono g.ff r_here
        have sb6 := sb6.trans g.ff
        have r_found := cg (Option.some.inj he) rn_
        obtain ⟨z_, hz_⟩ : ∃ z_, z_ = x_found := ⟨_, rfl⟩
        rw [← hz_] at hm r_found
        clear hz_
        cases z_ with
        | none =>
          refine go_if G.fh (et_notNone (ev_var 6 rfl r_found)) (fun hc F H g => ?_) (fun hc F H g => ?_)
          · exact absurd hc (by first | exact Bool.false_ne_true | exact (fun h => nomatch h))
          ·
            have G := G.trans g
            have r_found := Rp.mono g.ff r_found
            have sb6 := sb6.trans g.ff
            refine GoS.nil ?_
            refine GoS.nil ?_
            exact GoS.nil ⟨_, _, (Option.some.inj hm).symm, sb6, G.fh, ⟨_, _, _, _, rfl, G⟩⟩
        | some x_found =>
          refine go_if G.fh (et_notNone (ev_var 6 rfl r_found)) (fun hc F H g => ?_) (fun hc F H g => ?_)
          ·
            have G := G.trans g
            have r_found := Rp.mono g.ff r_found
            have sb6 := sb6.trans g.ff
            have r_found := rp_of_some r_found
            exact go_ret G.fh (Ev.some (ev_var 6 rfl r_found)) fun v_ F_ H_ g_ rv_ => ⟨_, (Option.some.inj hm).symm, F_, G.trans g_, rv_⟩
          · exact absurd hc (by first | exact Bool.false_ne_true | exact (fun h => nomatch h))
      · replace hm := ineg (nt hc) hm
        have G := G.trans g
        have r_k := Rp.mono g.ff r_k
        have r_item := Rp.mono g.ff r_item
        have r_here := Rp.mono g.ff r_here
        have sb6 := sb6.trans g.ff
        obtain ⟨t10, h_t10, hm⟩ := Option.bind_eq_some_iff.mp hm
        refine go_if (t := (decide (t10.b = x_k))) G.fh (et_cmp op_eq o2_eq (ev_ixT (UItem.evv_deed (ev_var 4 rfl r_item) h_t10) ev_int pj1) (ev_var 1 rfl r_k) (nomark _)) (fun hc F H g => ?_) (fun hc F H g => ?_)
        · replace hm := ipos hc hm
          have G := G.trans g
          have r_k := Rp.mono g.ff r_k
          have r_item := Rp.mono g.ff r_item
          have r_here := Rp.mono g.ff r_here
          have sb6 := sb6.trans g.ff
          obtain ⟨t11, h_t11, hm⟩ := Option.bind_eq_some_iff.mp hm
          exact go_ret G.fh (Ev.some (ev_tup2 (ea_cons (ev_var 5 rfl r_here) (ea_cons (ev_ixT (UItem.evv_deed (ev_var 4 rfl r_item) h_t11) ev_int pj2) ea_nil)))) fun v_ F_ H_ g_ rv_ => ⟨_, (Option.some.inj hm).symm, F_, G.trans g_, rv_⟩
        · replace hm := ineg (nt hc) hm
          have G := G.trans g
          have r_k := Rp.mono g.ff r_k
          have r_item := Rp.mono g.ff r_item
          have r_here := Rp.mono g.ff r_here
          have sb6 := sb6.trans g.ff
          refine GoS.nil ?_
          refine GoS.nil ?_
          exact GoS.nil ⟨_, _, (Option.some.inj hm).symm, sb6, G.fh, ⟨_, _, _, _, rfl, G⟩⟩
    · intro b12 hm σ_ F H s1_ s2_ iv_
      obtain ⟨u_here, u_found, u_at, u_item, rfl, G⟩ := iv_
      exact go_ret G.fh ev_none fun v_ F_ H_ g_ rv_ => kr _ _ _ (G.trans g_) (cg (Option.some.inj hm) rv_)
    · intro r_ he v_ H_ hv_
      obtain ⟨F_, g_, rv_⟩ := hv_
      exact kr _ _ _ g_ (cg (Option.some.inj he) rv_)
/-! stand -/
theorem sc_stand : FnScope ["plan", "k"] ["plan", "k"] (defScope s_stand) := ⟨rfl, rfl, rfl, by decide +kernel, rfl, by decide +kernel, by decide +kernel⟩
theorem b_stand (T : Txt K mg) : Binds K T.d_stand ["plan", "k"] [] := T.F_stand.bindsN fun _ _ _ _ _ _ us hl => match us, hl with | [_, _], _ => rfl
theorem ok_stand (T : Txt K mg) : FnOk P w K mg base CX0 12 (He.fAd K ("stand", none)) T.d_stand ["plan", "k"] (Pr K fun (a_ : (Tp UItem) × Int × Unit) => m_stand a_.1 a_.2.1) := by
  refine fn_ok T.F_stand sc_stand rfl fun cdv A outer s_ F0 H0 vs a_ r D_ E_ hr sm_ ra_ hm kr kn => ?_
  obtain ⟨v_plan, _, rfl, r_plan, v_k, _, rfl, r_k, rfl⟩ := ra_
  obtain ⟨x_plan, x_k, _u⟩ := a_
  have G : Gr F0 H0 F0 H0 := Gr.refl sm_
  replace hm : m_stand x_plan x_k = some r := hm
  unfold m_stand at hm
  have r_plan : rp (α := (Tp UItem)) K F0 v_plan x_plan := r_plan
  have r_k : rp (α := Int) K F0 v_k x_k := r_k
  obtain ⟨t1, h_t1, hm⟩ := Option.bind_eq_some_iff.mp hm
  exact go_ret G.fh (ev_call (ok_stand_within T 10) (hr.mono (by omega)) T.g_stand_within T.F_stand_within.kp (b_stand_within T) (ea_cons (ev_var 0 rfl r_plan) (ea_cons (ev_var 1 rfl r_k) (ea_cons (ev_tp el_nil (by show 0 ≤ sizeLine; decide)) ea_nil))) h_t1) fun v_ F_ H_ g_ rv_ => kr _ _ _ (G.trans g_) (cg (Option.some.inj hm) rv_)
/-! sweeps_round -/
theorem sc_sweeps_round : FnScope ["plan", "path", "found", "items", "number", "item"] ["plan", "path"] (defScope s_sweeps_round) := ⟨rfl, rfl, rfl, by decide +kernel, rfl, by decide +kernel, by decide +kernel⟩
theorem b_sweeps_round (T : Txt K mg) : Binds K T.d_sweeps_round ["plan", "path"] [] := T.F_sweeps_round.bindsN fun _ _ _ _ _ _ us hl => match us, hl with | [_, _], _ => rfl
theorem ok_sweeps_round (T : Txt K mg) : FnOk P w K mg base CX0 1 (He.fAd K ("sweeps_round", none)) T.d_sweeps_round ["plan", "path"] (Pr K fun (a_ : (Tp UItem) × (Tp Int) × Unit) => m_sweeps_round a_.1 a_.2.1) := by
  refine fn_ok T.F_sweeps_round sc_sweeps_round rfl fun cdv A outer s_ F0 H0 vs a_ r D_ E_ hr sm_ ra_ hm kr kn => ?_
  obtain ⟨v_plan, _, rfl, r_plan, v_path, _, rfl, r_path, rfl⟩ := ra_
  obtain ⟨x_plan, x_path, _u⟩ := a_
  have G : Gr F0 H0 F0 H0 := Gr.refl sm_
  replace hm : m_sweeps_round x_plan x_path = some r := hm
  unfold m_sweeps_round at hm
  have r_plan : rp (α := (Tp UItem)) K F0 v_plan x_plan := r_plan
  have r_path : rp (α := (Tp Int)) K F0 v_path x_path := r_path
  obtain ⟨x_found, he, hm⟩ := Option.bind_eq_some_iff.mp hm
  refine go_setN (α := (List (T2 Bool Str))) 2 G.fh (en_list el_nil (Nat.zero_le _)) (fun l_found vs_ F H g nl_ fl_ hl_ rs_ => ?_) sc_sweeps_round.nd
  have n0_ := G.hh.free nl_
  have G := G.trans g
  have r_plan := Rp.mono g.ff r_plan
  have r_path := Rp.mono g.ff r_path
  have o_found : Own K _ F H l_found _ := Own.cg (Option.some.inj he) ⟨n0_, fl_, vs_, hl_, rs_⟩
  obtain ⟨x_items, he, hm⟩ := Option.bind_eq_some_iff.mp hm
  refine go_set (α := (Tp UItem)) 3 G.fh (ev_var 0 rfl r_plan) (fun v_items F H g rn_ => ?_) sc_sweeps_round.nd
  have G := G.trans g
  have r_plan := Rp.mono g.ff r_plan
  have r_path := Rp.mono g.ff r_path
  have o_found := o_found.up g
  have r_items := cg (Option.some.inj he) rn_
  obtain ⟨b10, ho_, hm⟩ := Option.bind_eq_some_iff.mp hm
  refine go_forN G.fh (ei_tp (ev_sliceT (ev_var 1 rfl r_path) eo_none (eo_some (ev_neg ev_int)))) (pg_name (i := 4) sc_sweeps_round.nd rfl (by first | exact Or.inl rfl | exact Or.inr rfl)) ho_ (fun F H g => ?_) PassesOwn.never
  have G := G.trans g
  have o_found := o_found.up g
  have r_items := Rp.mono g.ff r_items
  refine ⟨fun (b1 : ((List (T2 Bool Str)) × (Tp UItem))) σ_ F_ H_ => ∃ (u_item : Option V) (u_number : Option V) (v_items : V), σ_ = [some v_plan, some v_path, some (.ref l_found), some v_items, u_number, u_item] ∧ Gr F0 H0 F_ H_ ∧ Own K H0 F_ H_ l_found b1.1 ∧ rp (α := (Tp UItem)) K F_ v_items b1.2, ⟨_, _, _, rfl, G, o_found, r_items⟩, ?_, ?_⟩
  ·
    intro b1 x_number o_ hm σ_ F H v_number s1_ s2_ iv_ F H g r_number Q_ hQ_
    obtain ⟨u_item, u_number, v_items, rfl, G, o_found, r_items⟩ := iv_
    have sb4 := g.ff
    have G := G.trans g
    have o_found := o_found.up g
    have r_items := Rp.mono g.ff r_items
    refine hQ_ _ _ ?_
    obtain ⟨t5, h_t5, hm⟩ := Option.bind_eq_some_iff.mp hm
    obtain ⟨x_item, he, hm⟩ := Option.bind_eq_some_iff.mp hm
    refine go_set (α := UItem) 5 G.fh (ev_ixTp (ev_var 3 rfl r_items) (ev_var 4 rfl r_number) h_t5) (fun v_item F H g rn_ => ?_) sc_sweeps_round.nd
    have G := G.trans g
    have o_found := o_found.up g
    have r_items := Rp.mono g.ff r_items
    have r_number := Rp.mono g.ff r_number
    have sb4 := sb4.trans g.ff
    have r_item := cg (Option.some.inj he) rn_
    obtain ⟨t6, h_t6, hm⟩ := Option.bind_eq_some_iff.mp hm
    obtain ⟨t7, h_t7, hm⟩ := Option.bind_eq_some_iff.mp hm
    obtain ⟨t8, he, hm⟩ := Option.bind_eq_some_iff.mp hm
    refine go_append 2 G.fh o_found rfl (ev_tup2 (ea_cons (ev_ixT (UItem.evv_sweep (ev_var 5 rfl r_item) h_t6) ev_int pj1) (ea_cons (ev_ixT (UItem.evv_sweep (ev_var 5 rfl r_item) h_t7) ev_int pj2) ea_nil))) he (fun w_ F H g nz_ fz_ on_ => ?_)
    have G := G.trans g
    have r_items := Rp.mono g.ff r_items
    have r_item := Rp.mono g.ff r_item
    have sb4 := sb4.trans g.ff
    have G := G.poke (u := w_) on_.n fz_
    have o_found := on_
    obtain ⟨t9, h_t9, hm⟩ := Option.bind_eq_some_iff.mp hm
    obtain ⟨x_items, he, hm⟩ := Option.bind_eq_some_iff.mp hm
    refine go_set (α := (Tp UItem)) 3 G.fh (ev_ixT (UItem.evv_sweep (ev_var 5 rfl r_item) h_t9) ev_int pj3) (fun v_items F H g rn_ => ?_) sc_sweeps_round.nd
    have G := G.trans g
    have o_found := o_found.up g
    have r_item := Rp.mono g.ff r_item
    have sb4 := sb4.trans g.ff
    have r_items := cg (Option.some.inj he) rn_
    have hm := Option.some.inj hm
    subst hm
    exact GoS.nil ⟨_, sb4, G.fh, ⟨_, _, _, rfl, G, o_found, r_items⟩⟩
  · intro σ_ F H s1_ s2_ iv_
    obtain ⟨u_item, u_number, v_items, rfl, G, o_found, r_items⟩ := iv_
    refine o_found.freeze G (fun F H s_ s2_ G r_found k_ => ?_)
    exact go_ret G.fh (ev_var 2 rfl r_found) fun v_ F_ H_ g_ rv_ => kr _ _ _ (G.trans g_) (cg (Option.some.inj hm) rv_)
/-! time_bonds -/
theorem sc_time_bonds : FnScope ["u", "r", "w", "m", "side"] ["u", "r", "w", "m", "side"] (defScope s_time_bonds) := ⟨rfl, rfl, rfl, by decide +kernel, rfl, by decide +kernel, by decide +kernel⟩
theorem b_time_bonds (T : Txt K mg) : Binds K T.d_time_bonds ["u", "r", "w", "m", "side"] [] := T.F_time_bonds.bindsN fun _ _ _ _ _ _ us hl => match us, hl with | [_, _, _, _, _], _ => rfl
theorem ok_time_bonds (T : Txt K mg) : FnOk P w K mg base CX0 1 (He.fAd K ("time_bonds", none)) T.d_time_bonds ["u", "r", "w", "m", "side"] (Pr K fun (a_ : Int × Int × Int × Int × Str × Unit) => m_time_bonds a_.1 a_.2.1 a_.2.2.1 a_.2.2.2.1 a_.2.2.2.2.1) := by
  refine fn_ok T.F_time_bonds sc_time_bonds rfl fun cdv A outer s_ F0 H0 vs a_ r D_ E_ hr sm_ ra_ hm kr kn => ?_
  obtain ⟨v_u, _, rfl, r_u, v_r, _, rfl, r_r, v_w, _, rfl, r_w, v_m, _, rfl, r_m, v_side, _, rfl, r_side, rfl⟩ := ra_
  obtain ⟨x_u, x_r, x_w, x_m, x_side, _u⟩ := a_
  have G : Gr F0 H0 F0 H0 := Gr.refl sm_
  replace hm : m_time_bonds x_u x_r x_w x_m x_side = some r := hm
  unfold m_time_bonds at hm
  have r_u : rp (α := Int) K F0 v_u x_u := r_u
  have r_r : rp (α := Int) K F0 v_r x_r := r_r
  have r_w : rp (α := Int) K F0 v_w x_w := r_w
  have r_m : rp (α := Int) K F0 v_m x_m := r_m
  have r_side : rp (α := Str) K F0 v_side x_side := r_side
  refine go_if (t := (decide (x_side = ("less" : Str)))) G.fh (et_cmp op_eq o2_eq (ev_var 4 rfl r_side) ev_str (nomark _)) (fun hc F H g => ?_) (fun hc F H g => ?_)
  · replace hm := ipos hc hm
    have G := G.trans g
    have r_u := Rp.mono g.ff r_u
    have r_r := Rp.mono g.ff r_r
    have r_w := Rp.mono g.ff r_w
    have r_m := Rp.mono g.ff r_m
    have r_side := Rp.mono g.ff r_side
    exact go_ret G.fh (EvN.ev (α := (List (T3 Int Int Int))) (en_list (el_cons (ev_tup3 (ea_cons (ev_var 0 rfl r_u) (ea_cons (ev_var 2 rfl r_w) (ea_cons (ev_sub (ev_sub (ev_var 3 rfl r_m) (ev_var 1 rfl r_r)) ev_int) ea_nil)))) el_nil) (by show 1 ≤ sizeLine; decide))) fun v_ F_ H_ g_ rv_ => kr _ _ _ (G.trans g_) (cg (Option.some.inj hm) rv_)
  · replace hm := ineg (nt hc) hm
    have G := G.trans g
    have r_u := Rp.mono g.ff r_u
    have r_r := Rp.mono g.ff r_r
    have r_w := Rp.mono g.ff r_w
    have r_m := Rp.mono g.ff r_m
    have r_side := Rp.mono g.ff r_side
    refine GoS.nil ?_
    refine go_if (t := (decide (x_side = ("more" : Str)))) G.fh (et_cmp op_eq o2_eq (ev_var 4 rfl r_side) ev_str (nomark _)) (fun hc F H g => ?_) (fun hc F H g => ?_)
    · replace hm := ipos hc hm
      have G := G.trans g
      have r_u := Rp.mono g.ff r_u
      have r_r := Rp.mono g.ff r_r
      have r_w := Rp.mono g.ff r_w
      have r_m := Rp.mono g.ff r_m
      have r_side := Rp.mono g.ff r_side
      exact go_ret G.fh (EvN.ev (α := (List (T3 Int Int Int))) (en_list (el_cons (ev_tup3 (ea_cons (ev_var 2 rfl r_w) (ea_cons (ev_var 0 rfl r_u) (ea_cons (ev_sub (ev_sub (ev_var 1 rfl r_r) (ev_var 3 rfl r_m)) ev_int) ea_nil)))) el_nil) (by show 1 ≤ sizeLine; decide))) fun v_ F_ H_ g_ rv_ => kr _ _ _ (G.trans g_) (cg (Option.some.inj hm) rv_)
    · replace hm := ineg (nt hc) hm
      have G := G.trans g
      have r_u := Rp.mono g.ff r_u
      have r_r := Rp.mono g.ff r_r
      have r_w := Rp.mono g.ff r_w
      have r_m := Rp.mono g.ff r_m
      have r_side := Rp.mono g.ff r_side
      refine GoS.nil ?_
      exact go_ret G.fh (EvN.ev (α := (List (T3 Int Int Int))) (en_list (el_cons (ev_tup3 (ea_cons (ev_var 0 rfl r_u) (ea_cons (ev_var 2 rfl r_w) (ea_cons (ev_sub (ev_var 3 rfl r_m) (ev_var 1 rfl r_r)) ea_nil)))) (el_cons (ev_tup3 (ea_cons (ev_var 2 rfl r_w) (ea_cons (ev_var 0 rfl r_u) (ea_cons (ev_sub (ev_var 1 rfl r_r) (ev_var 3 rfl r_m)) ea_nil)))) el_nil)) (by show 2 ≤ sizeLine; decide))) fun v_ F_ H_ g_ rv_ => kr _ _ _ (G.trans g_) (cg (Option.some.inj hm) rv_)
/-! side_bonds -/
theorem sc_side_bonds : FnScope ["program", "plan", "k", "l", "level", "side", "place", "others", "ways", "behind", "bonds", "e", "kind", "mine", "theirs"] ["program", "plan", "k", "l", "level", "side"] (defScope s_side_bonds) := ⟨rfl, rfl, rfl, by decide +kernel, rfl, by decide +kernel, by decide +kernel⟩
theorem b_side_bonds (T : Txt K mg) : Binds K T.d_side_bonds ["program", "plan", "k", "l", "level", "side"] [] := T.F_side_bonds.bindsN fun _ _ _ _ _ _ us hl => match us, hl with | [_, _, _, _, _, _], _ => rfl
theorem ok_side_bonds (T : Txt K mg) : FnOk P w K mg base CX0 13 (He.fAd K ("side_bonds", none)) T.d_side_bonds ["program", "plan", "k", "l", "level", "side"] (Pr K fun (a_ : QProgram × (Tp UItem) × Int × Int × Int × Str × Unit) => m_side_bonds a_.1 a_.2.1 a_.2.2.1 a_.2.2.2.1 a_.2.2.2.2.1 a_.2.2.2.2.2.1) := by
  refine fn_ok T.F_side_bonds sc_side_bonds rfl fun cdv A outer s_ F0 H0 vs a_ r D_ E_ hr sm_ ra_ hm kr kn => ?_
  obtain ⟨v_program, _, rfl, r_program, v_plan, _, rfl, r_plan, v_k, _, rfl, r_k, v_l, _, rfl, r_l, v_level, _, rfl, r_level, v_side, _, rfl, r_side, rfl⟩ := ra_
  obtain ⟨x_program, x_plan, x_k, x_l, x_level, x_side, _u⟩ := a_
  have G : Gr F0 H0 F0 H0 := Gr.refl sm_
  replace hm : m_side_bonds x_program x_plan x_k x_l x_level x_side = some r := hm
  unfold m_side_bonds at hm
  have r_program : rp (α := QProgram) K F0 v_program x_program := r_program
  have r_plan : rp (α := (Tp UItem)) K F0 v_plan x_plan := r_plan
  have r_k : rp (α := Int) K F0 v_k x_k := r_k
  have r_l : rp (α := Int) K F0 v_l x_l := r_l
  have r_level : rp (α := Int) K F0 v_level x_level := r_level
  have r_side : rp (α := Str) K F0 v_side x_side := r_side
  obtain ⟨t1, h_t1, hm⟩ := Option.bind_eq_some_iff.mp hm
  obtain ⟨x_place, he, hm⟩ := Option.bind_eq_some_iff.mp hm
  refine go_set (α := (Option (T2 (Tp Int) (Tp (T2 Int Int))))) 6 G.fh (ev_call (ok_stand T) (hr.mono (by omega)) T.g_stand T.F_stand.kp (b_stand T) (ea_cons (ev_var 1 rfl r_plan) (ea_cons (ev_var 2 rfl r_k) ea_nil)) h_t1) (fun v_place F H g rn_ => ?_) sc_side_bonds.nd
  have G := G.trans g
  have r_program := Rp.mono g.ff r_program
  have r_plan := Rp.mono g.ff r_plan
  have r_k := Rp.mono g.ff r_k
  have r_l := Rp.mono g.ff r_l
  have r_level := Rp.mono g.ff r_level
  have r_side := Rp.mono g.ff r_side
  have r_place := cg (Option.some.inj he) rn_
  obtain ⟨t2, h_t2, hm⟩ := Option.bind_eq_some_iff.mp hm
  obtain ⟨t3, h_t3, hm⟩ := Option.bind_eq_some_iff.mp hm
  obtain ⟨x_others, he, hm⟩ := Option.bind_eq_some_iff.mp hm
  refine go_set (α := (Tp (T2 Int Int))) 7 G.fh (ev_ixT (Ev.get (ev_call (ok_stand T) (hr.mono (by omega)) T.g_stand T.F_stand.kp (b_stand T) (ea_cons (ev_var 1 rfl r_plan) (ea_cons (ev_var 3 rfl r_l) ea_nil)) h_t2) h_t3) ev_int pj1) (fun v_others F H g rn_ => ?_) sc_side_bonds.nd
  have G := G.trans g
  have r_program := Rp.mono g.ff r_program
  have r_plan := Rp.mono g.ff r_plan
  have r_k := Rp.mono g.ff r_k
  have r_l := Rp.mono g.ff r_l
  have r_level := Rp.mono g.ff r_level
  have r_side := Rp.mono g.ff r_side
  have r_place := Rp.mono g.ff r_place
  have r_others := cg (Option.some.inj he) rn_
  obtain ⟨t4, h_t4, hm⟩ := Option.bind_eq_some_iff.mp hm
  obtain ⟨t5, h_t5, hm⟩ := Option.bind_eq_some_iff.mp hm
  obtain ⟨x_ways, he, hm⟩ := Option.bind_eq_some_iff.mp hm
  refine go_set (α := (List (T2 Bool Str))) 8 G.fh (ev_call (ok_sweeps_round T) (hr.mono (by omega)) T.g_sweeps_round T.F_sweeps_round.kp (b_sweeps_round T) (ea_cons (ev_var 1 rfl r_plan) (ea_cons (ev_ixT (Ev.get (ev_var 6 rfl r_place) h_t4) ev_int pj0) ea_nil)) h_t5) (fun v_ways F H g rn_ => ?_) sc_side_bonds.nd
  have G := G.trans g
  have r_program := Rp.mono g.ff r_program
  have r_plan := Rp.mono g.ff r_plan
  have r_k := Rp.mono g.ff r_k
  have r_level := Rp.mono g.ff r_level
  have r_side := Rp.mono g.ff r_side
  have r_place := Rp.mono g.ff r_place
  have r_others := Rp.mono g.ff r_others
  have r_ways := cg (Option.some.inj he) rn_
  obtain ⟨t6, h_t6, hm⟩ := Option.bind_eq_some_iff.mp hm
  obtain ⟨x_behind, he, hm⟩ := Option.bind_eq_some_iff.mp hm
  refine go_set (α := Int) 9 G.fh (ev_add ev_int (ev_callB call_len_seq oc_lenTp T.n_len PySem.boot_len (ea_cons (ev_attr T.f_Deed_names (ev_ixL (ev_attr T.f_Program_deeds (ev_var 0 rfl r_program)) (ev_var 2 rfl r_k) h_t6)) ea_nil))) (fun v_behind F H g rn_ => ?_) sc_side_bonds.nd
  have G := G.trans g
  have r_program := Rp.mono g.ff r_program
  have r_k := Rp.mono g.ff r_k
  have r_level := Rp.mono g.ff r_level
  have r_side := Rp.mono g.ff r_side
  have r_place := Rp.mono g.ff r_place
  have r_others := Rp.mono g.ff r_others
  have r_ways := Rp.mono g.ff r_ways
  have r_behind := cg (Option.some.inj he) rn_
  obtain ⟨x_bonds, he, hm⟩ := Option.bind_eq_some_iff.mp hm
  refine go_set (α := (List (T3 Int Int Int))) 10 G.fh (EvN.ev (α := (List (T3 Int Int Int))) (en_list el_nil (Nat.zero_le _))) (fun v_bonds F H g rn_ => ?_) sc_side_bonds.nd
  have G := G.trans g
  have r_level := Rp.mono g.ff r_level
  have r_side := Rp.mono g.ff r_side
  have r_place := Rp.mono g.ff r_place
  have r_others := Rp.mono g.ff r_others
  have r_ways := Rp.mono g.ff r_ways
  have r_behind := Rp.mono g.ff r_behind
  have r_bonds := cg (Option.some.inj he) rn_
  obtain ⟨t7, h_t7, hm⟩ := Option.bind_eq_some_iff.mp hm
  obtain ⟨b21, ho_, hm⟩ := Option.bind_eq_some_iff.mp hm
  refine go_forN G.fh (ei_range1 (ev_callB call_len_seq oc_lenL T.n_len PySem.boot_len (ea_cons (ev_var 8 rfl r_ways) ea_nil)) h_t7 T.n_range) (pg_name (i := 11) sc_side_bonds.nd rfl (by first | exact Or.inl rfl | exact Or.inr rfl)) ho_ (fun F H g => ?_) PassesOwn.never
  have G := G.trans g
  have r_level := Rp.mono g.ff r_level
  have r_side := Rp.mono g.ff r_side
  have r_place := Rp.mono g.ff r_place
  have r_others := Rp.mono g.ff r_others
  have r_ways := Rp.mono g.ff r_ways
  have r_behind := Rp.mono g.ff r_behind
  have r_bonds := Rp.mono g.ff r_bonds
  refine ⟨fun (b8 : (List (T3 Int Int Int))) σ_ F_ H_ => ∃ (u_kind : Option V) (u_mine : Option V) (u_theirs : Option V) (u_e : Option V) (v_bonds : V), σ_ = [some v_program, some v_plan, some v_k, some v_l, some v_level, some v_side, some v_place, some v_others, some v_ways, some v_behind, some v_bonds, u_e, u_kind, u_mine, u_theirs] ∧ Gr F0 H0 F_ H_ ∧ rp (α := (List (T3 Int Int Int))) K F_ v_bonds b8, ⟨_, _, _, _, _, rfl, G, r_bonds⟩, ?_, ?_⟩
  ·
    intro b8 x_e o_ hm σ_ F H v_e s1_ s2_ iv_ F H g r_e Q_ hQ_
    obtain ⟨u_kind, u_mine, u_theirs, u_e, v_bonds, rfl, G, r_bonds⟩ := iv_
    have sb11 := g.ff
    have r_level := Rp.mono s1_ r_level
    have r_side := Rp.mono s1_ r_side
    have r_place := Rp.mono s1_ r_place
    have r_others := Rp.mono s1_ r_others
    have r_ways := Rp.mono s1_ r_ways
    have r_behind := Rp.mono s1_ r_behind
    have G := G.trans g
    have r_level := Rp.mono g.ff r_level
    have r_side := Rp.mono g.ff r_side
    have r_place := Rp.mono g.ff r_place
    have r_others := Rp.mono g.ff r_others
    have r_ways := Rp.mono g.ff r_ways
    have r_behind := Rp.mono g.ff r_behind
    have r_bonds := Rp.mono g.ff r_bonds
    refine hQ_ _ _ ?_
    obtain ⟨x_kind, he, hm⟩ := Option.bind_eq_some_iff.mp hm
    refine go_set (α := Str) 12 G.fh ev_str (fun v_kind F H g rn_ => ?_) sc_side_bonds.nd
    have G := G.trans g
    have r_level := Rp.mono g.ff r_level
    have r_side := Rp.mono g.ff r_side
    have r_place := Rp.mono g.ff r_place
    have r_others := Rp.mono g.ff r_others
    have r_ways := Rp.mono g.ff r_ways
    have r_behind := Rp.mono g.ff r_behind
    have r_bonds := Rp.mono g.ff r_bonds
    have r_e := Rp.mono g.ff r_e
    have sb11 := sb11.trans g.ff
    have r_kind := cg (Option.some.inj he) rn_
    obtain ⟨b12, hj, hm⟩ := Option.bind_eq_some_iff.mp hm
    refine go_ifj (t := (decide (x_e = x_level))) (fun σ_ H_ => ∃ (F_ : Hp) (v_kind : V), L2.Same F F_ ∧ σ_ = [some v_program, some v_plan, some v_k, some v_l, some v_level, some v_side, some v_place, some v_others, some v_ways, some v_behind, some v_bonds, some v_e, some v_kind, u_mine, u_theirs] ∧ Gr F0 H0 F_ H_ ∧ rp (α := Str) K F_ v_kind b12) G.fh (et_cmp op_eq o2_eq (ev_var 11 rfl r_e) (ev_var 4 rfl r_level) (nomark _)) (fun hc F H g => ?_) (fun hc F H g => ?_) (fun σ_ H hP_ => ?_)
    · replace hj := ipos hc hj
      clear hm
      have hm := hj
      clear hj
      have G := G.trans g
      have r_level := Rp.mono g.ff r_level
      have r_side := Rp.mono g.ff r_side
      have r_place := Rp.mono g.ff r_place
      have r_others := Rp.mono g.ff r_others
      have r_ways := Rp.mono g.ff r_ways
      have r_behind := Rp.mono g.ff r_behind
      have r_bonds := Rp.mono g.ff r_bonds
      have r_e := Rp.mono g.ff r_e
      have r_kind := Rp.mono g.ff r_kind
      have sb11 := sb11.trans g.ff
      have sj13 := g.ff
      obtain ⟨x_kind, he, hm⟩ := Option.bind_eq_some_iff.mp hm
      refine go_set (α := Str) 12 G.fh (ev_var 5 rfl r_side) (fun v_kind F H g rn_ => ?_) sc_side_bonds.nd
      have G := G.trans g
      have r_level := Rp.mono g.ff r_level
      have r_side := Rp.mono g.ff r_side
      have r_place := Rp.mono g.ff r_place
      have r_others := Rp.mono g.ff r_others
      have r_ways := Rp.mono g.ff r_ways
      have r_behind := Rp.mono g.ff r_behind
      have r_bonds := Rp.mono g.ff r_bonds
      have r_e := Rp.mono g.ff r_e
      have sb11 := sb11.trans g.ff
      have sj13 := sj13.trans g.ff
      have r_kind := cg (Option.some.inj he) rn_
      have hm := Option.some.inj hm
      subst hm
      exact GoS.nil ⟨_, _, sj13, rfl, G, r_kind⟩
    · replace hj := ineg (nt hc) hj
      clear hm
      have hm := hj
      clear hj
      have G := G.trans g
      have r_level := Rp.mono g.ff r_level
      have r_side := Rp.mono g.ff r_side
      have r_place := Rp.mono g.ff r_place
      have r_others := Rp.mono g.ff r_others
      have r_ways := Rp.mono g.ff r_ways
      have r_behind := Rp.mono g.ff r_behind
      have r_bonds := Rp.mono g.ff r_bonds
      have r_e := Rp.mono g.ff r_e
      have r_kind := Rp.mono g.ff r_kind
      have sb11 := sb11.trans g.ff
      have sj13 := g.ff
      have hm := Option.some.inj hm
      subst hm
      exact GoS.nil ⟨_, _, sj13, rfl, G, r_kind⟩
    obtain ⟨F, v_kind, sj_, rfl, G, r_kind⟩ := hP_
    have r_level := Rp.mono sj_ r_level
    have r_side := Rp.mono sj_ r_side
    have r_place := Rp.mono sj_ r_place
    have r_others := Rp.mono sj_ r_others
    have r_ways := Rp.mono sj_ r_ways
    have r_behind := Rp.mono sj_ r_behind
    have r_bonds := Rp.mono sj_ r_bonds
    have r_e := Rp.mono sj_ r_e
    have sb11 := sb11.trans sj_
    obtain ⟨t15, h_t15, hm⟩ := Option.bind_eq_some_iff.mp hm
    refine go_if (t := (t15 || ((decide (x_e = x_level)) && (!decide (x_side = ("text" : Str)))))) G.fh (EvW.t (ew_orP (EvW.t (ew_and (x := (decide (x_e < x_level))) (et_cmp op_lt o2_lt (ev_var 11 rfl r_e) (ev_var 4 rfl r_level) (nomark _)) (fun hc => by
          replace h_t15 := ipos hc h_t15
          obtain ⟨t14, h_t14, h_t15⟩ := Option.bind_eq_some_iff.mp h_t15
          exact EvW.cg (Option.some.inj h_t15) (ew_and1 (et_not (et_val (ev_ixT (ev_ixL (ev_var 8 rfl r_ways) (ev_var 11 rfl r_e) h_t14) ev_int pj0))))) (fun hc => by replace h_t15 := ineg (nt hc) h_t15; exact (Option.some.inj h_t15).symm))) (ew_or1 (EvW.t (ew_andP (et_cmp op_eq o2_eq (ev_var 11 rfl r_e) (ev_var 4 rfl r_level) (nomark _)) (ew_and1 (et_cmp op_ne o2_ne (ev_var 5 rfl r_side) ev_str (nomark _)))))))) (fun hc F H g => ?_) (fun hc F H g => ?_)
    · replace hm := ipos hc hm
      have G := G.trans g
      have r_level := Rp.mono g.ff r_level
      have r_side := Rp.mono g.ff r_side
      have r_place := Rp.mono g.ff r_place
      have r_others := Rp.mono g.ff r_others
      have r_ways := Rp.mono g.ff r_ways
      have r_behind := Rp.mono g.ff r_behind
      have r_bonds := Rp.mono g.ff r_bonds
      have r_e := Rp.mono g.ff r_e
      have r_kind := Rp.mono g.ff r_kind
      have sb11 := sb11.trans g.ff
      obtain ⟨t16, h_t16, hm⟩ := Option.bind_eq_some_iff.mp hm
      obtain ⟨t17, h_t17, hm⟩ := Option.bind_eq_some_iff.mp hm
      obtain ⟨x_mine, he, hm⟩ := Option.bind_eq_some_iff.mp hm
      refine go_set (α := (T2 Int Int)) 13 G.fh (ev_ixTp (ev_ixT (Ev.get (ev_var 6 rfl r_place) h_t16) ev_int pj1) (ev_var 11 rfl r_e) h_t17) (fun v_mine F H g rn_ => ?_) sc_side_bonds.nd
      have G := G.trans g
      have r_place := Rp.mono g.ff r_place
      have r_others := Rp.mono g.ff r_others
      have r_behind := Rp.mono g.ff r_behind
      have r_bonds := Rp.mono g.ff r_bonds
      have r_e := Rp.mono g.ff r_e
      have r_kind := Rp.mono g.ff r_kind
      have sb11 := sb11.trans g.ff
      have r_mine := cg (Option.some.inj he) rn_
      obtain ⟨t18, h_t18, hm⟩ := Option.bind_eq_some_iff.mp hm
      obtain ⟨x_theirs, he, hm⟩ := Option.bind_eq_some_iff.mp hm
      refine go_set (α := (T2 Int Int)) 14 G.fh (ev_ixTp (ev_var 7 rfl r_others) (ev_var 11 rfl r_e) h_t18) (fun v_theirs F H g rn_ => ?_) sc_side_bonds.nd
      have G := G.trans g
      have r_others := Rp.mono g.ff r_others
      have r_behind := Rp.mono g.ff r_behind
      have r_bonds := Rp.mono g.ff r_bonds
      have r_e := Rp.mono g.ff r_e
      have r_kind := Rp.mono g.ff r_kind
      have r_mine := Rp.mono g.ff r_mine
      have sb11 := sb11.trans g.ff
      have r_theirs := cg (Option.some.inj he) rn_
      obtain ⟨t19, h_t19, hm⟩ := Option.bind_eq_some_iff.mp hm
      obtain ⟨t20, h_t20, hm⟩ := Option.bind_eq_some_iff.mp hm
      obtain ⟨x_bonds, he, hm⟩ := Option.bind_eq_some_iff.mp hm
      refine go_set (α := (List (T3 Int Int Int))) 10 G.fh (EvN.ev (α := (List (T3 Int Int Int))) (en_cat (ev_var 10 rfl r_bonds) (ev_call (ok_time_bonds T) (hr.mono (by omega)) T.g_time_bonds T.F_time_bonds.kp (b_time_bonds T) (ea_cons (ev_add ev_int (ev_ixT (ev_var 13 rfl r_mine) ev_int pj0)) (ea_cons (ev_ixT (ev_var 13 rfl r_mine) ev_int pj1) (ea_cons (ev_add (ev_var 9 rfl r_behind) (ev_ixT (ev_var 14 rfl r_theirs) ev_int pj0)) (ea_cons (ev_ixT (ev_var 14 rfl r_theirs) ev_int pj1) (ea_cons (ev_var 12 rfl r_kind) ea_nil))))) h_t19) h_t20)) (fun v_bonds F H g rn_ => ?_) sc_side_bonds.nd
      have G := G.trans g
      have r_behind := Rp.mono g.ff r_behind
      have r_kind := Rp.mono g.ff r_kind
      have r_mine := Rp.mono g.ff r_mine
      have r_theirs := Rp.mono g.ff r_theirs
      have sb11 := sb11.trans g.ff
      have r_bonds := cg (Option.some.inj he) rn_
      refine GoS.nil ?_
      have hm := Option.some.inj hm
      subst hm
      exact GoS.nil ⟨_, sb11, G.fh, ⟨_, _, _, _, _, rfl, G, r_bonds⟩⟩
    · replace hm := ineg (nt hc) hm
      have G := G.trans g
      have r_level := Rp.mono g.ff r_level
      have r_side := Rp.mono g.ff r_side
      have r_place := Rp.mono g.ff r_place
      have r_others := Rp.mono g.ff r_others
      have r_ways := Rp.mono g.ff r_ways
      have r_behind := Rp.mono g.ff r_behind
      have r_bonds := Rp.mono g.ff r_bonds
      have r_e := Rp.mono g.ff r_e
      have r_kind := Rp.mono g.ff r_kind
      have sb11 := sb11.trans g.ff
      refine GoS.nil ?_
      have hm := Option.some.inj hm
      subst hm
      exact GoS.nil ⟨_, sb11, G.fh, ⟨_, _, _, _, _, rfl, G, r_bonds⟩⟩
  · intro σ_ F H s1_ s2_ iv_
    obtain ⟨u_kind, u_mine, u_theirs, u_e, v_bonds, rfl, G, r_bonds⟩ := iv_
    exact go_ret G.fh (ev_var 10 rfl r_bonds) fun v_ F_ H_ g_ rv_ => kr _ _ _ (G.trans g_) (cg (Option.some.inj hm) rv_)
/-! law_time_bonds -/
theorem sc_law_time_bonds : FnScope ["_law_u", "_law_r", "_law_w", "_law_m", "_law_side"] ["_law_u", "_law_r", "_law_w", "_law_m", "_law_side"] (defScope s_law_time_bonds) := ⟨rfl, rfl, rfl, by decide +kernel, rfl, by decide +kernel, by decide +kernel⟩
theorem b_law_time_bonds (T : Txt K mg) : Binds K T.d_law_time_bonds ["_law_u", "_law_r", "_law_w", "_law_m", "_law_side"] [] := T.F_law_time_bonds.bindsN fun _ _ _ _ _ _ us hl => match us, hl with | [_, _, _, _, _], _ => rfl
theorem ok_law_time_bonds (T : Txt K mg) : FnOk P w K mg base CX0 1 (He.fAd K ("_law_time_bonds", none)) T.d_law_time_bonds ["_law_u", "_law_r", "_law_w", "_law_m", "_law_side"] (Pr K fun (a_ : Int × Int × Int × Int × Str × Unit) => m_law_time_bonds a_.1 a_.2.1 a_.2.2.1 a_.2.2.2.1 a_.2.2.2.2.1) := by
  refine fn_ok T.F_law_time_bonds sc_law_time_bonds rfl fun cdv A outer s_ F0 H0 vs a_ r D_ E_ hr sm_ ra_ hm kr kn => ?_
  obtain ⟨v_u, _, rfl, r_u, v_r, _, rfl, r_r, v_w, _, rfl, r_w, v_m, _, rfl, r_m, v_side, _, rfl, r_side, rfl⟩ := ra_
  obtain ⟨x_u, x_r, x_w, x_m, x_side, _u⟩ := a_
  have G : Gr F0 H0 F0 H0 := Gr.refl sm_
  replace hm : m_law_time_bonds x_u x_r x_w x_m x_side = some r := hm
  unfold m_law_time_bonds at hm
  have r_u : rp (α := Int) K F0 v_u x_u := r_u
  have r_r : rp (α := Int) K F0 v_r x_r := r_r
  have r_w : rp (α := Int) K F0 v_w x_w := r_w
  have r_m : rp (α := Int) K F0 v_m x_m := r_m
  have r_side : rp (α := Str) K F0 v_side x_side := r_side
  refine go_if (t := (decide (x_side = ("less" : Str)))) G.fh (et_cmp op_eq o2_eq (ev_var 4 rfl r_side) ev_str (nomark _)) (fun hc F H g => ?_) (fun hc F H g => ?_)
  · replace hm := ipos hc hm
    have G := G.trans g
    have r_u := Rp.mono g.ff r_u
    have r_r := Rp.mono g.ff r_r
    have r_w := Rp.mono g.ff r_w
    have r_m := Rp.mono g.ff r_m
    have r_side := Rp.mono g.ff r_side
    exact go_ret G.fh (EvN.ev (α := (List (T3 Int Int Int))) (en_list (el_cons (ev_tup3 (ea_cons (ev_var 0 rfl r_u) (ea_cons (ev_var 2 rfl r_w) (ea_cons (ev_sub (ev_sub (ev_var 3 rfl r_m) (ev_var 1 rfl r_r)) ev_int) ea_nil)))) el_nil) (by show 1 ≤ sizeLine; decide))) fun v_ F_ H_ g_ rv_ => kr _ _ _ (G.trans g_) (cg (Option.some.inj hm) rv_)
  · replace hm := ineg (nt hc) hm
    have G := G.trans g
    have r_u := Rp.mono g.ff r_u
    have r_r := Rp.mono g.ff r_r
    have r_w := Rp.mono g.ff r_w
    have r_m := Rp.mono g.ff r_m
    have r_side := Rp.mono g.ff r_side
    refine GoS.nil ?_
    refine go_if (t := (decide (x_side = ("more" : Str)))) G.fh (et_cmp op_eq o2_eq (ev_var 4 rfl r_side) ev_str (nomark _)) (fun hc F H g => ?_) (fun hc F H g => ?_)
    · replace hm := ipos hc hm
      have G := G.trans g
      have r_u := Rp.mono g.ff r_u
      have r_r := Rp.mono g.ff r_r
      have r_w := Rp.mono g.ff r_w
      have r_m := Rp.mono g.ff r_m
      have r_side := Rp.mono g.ff r_side
      exact go_ret G.fh (EvN.ev (α := (List (T3 Int Int Int))) (en_list (el_cons (ev_tup3 (ea_cons (ev_var 2 rfl r_w) (ea_cons (ev_var 0 rfl r_u) (ea_cons (ev_sub (ev_sub (ev_var 1 rfl r_r) (ev_var 3 rfl r_m)) ev_int) ea_nil)))) el_nil) (by show 1 ≤ sizeLine; decide))) fun v_ F_ H_ g_ rv_ => kr _ _ _ (G.trans g_) (cg (Option.some.inj hm) rv_)
    · replace hm := ineg (nt hc) hm
      have G := G.trans g
      have r_u := Rp.mono g.ff r_u
      have r_r := Rp.mono g.ff r_r
      have r_w := Rp.mono g.ff r_w
      have r_m := Rp.mono g.ff r_m
      have r_side := Rp.mono g.ff r_side
      refine GoS.nil ?_
      exact go_ret G.fh (EvN.ev (α := (List (T3 Int Int Int))) (en_list (el_cons (ev_tup3 (ea_cons (ev_var 0 rfl r_u) (ea_cons (ev_var 2 rfl r_w) (ea_cons (ev_sub (ev_var 3 rfl r_m) (ev_var 1 rfl r_r)) ea_nil)))) (el_cons (ev_tup3 (ea_cons (ev_var 2 rfl r_w) (ea_cons (ev_var 0 rfl r_u) (ea_cons (ev_sub (ev_var 1 rfl r_r) (ev_var 3 rfl r_m)) ea_nil)))) el_nil)) (by show 2 ≤ sizeLine; decide))) fun v_ F_ H_ g_ rv_ => kr _ _ _ (G.trans g_) (cg (Option.some.inj hm) rv_)
/-! law_side_bonds -/
theorem sc_law_side_bonds : FnScope ["_law_boughs_here", "_law_behind", "_law_k", "_law_l", "_law_level", "_law_side", "_law_mine", "_law_theirs", "_law_due", "_law_e", "_law_kind", "_law_one", "_law_other"] ["_law_boughs_here", "_law_behind", "_law_k", "_law_l", "_law_level", "_law_side"] (defScope s_law_side_bonds) := ⟨rfl, rfl, rfl, by decide +kernel, rfl, by decide +kernel, by decide +kernel⟩
theorem b_law_side_bonds (T : Txt K mg) : Binds K T.d_law_side_bonds ["_law_boughs_here", "_law_behind", "_law_k", "_law_l", "_law_level", "_law_side"] [] := T.F_law_side_bonds.bindsN fun _ _ _ _ _ _ us hl => match us, hl with | [_, _, _, _, _, _], _ => rfl
theorem ok_law_side_bonds (T : Txt K mg) : FnOk P w K mg base CX0 2 (He.fAd K ("_law_side_bonds", none)) T.d_law_side_bonds ["_law_boughs_here", "_law_behind", "_law_k", "_law_l", "_law_level", "_law_side"] (Pr K fun (a_ : (List (T4 Int Int (List (T2 Bool Str)) (List (T2 Int Int)))) × Int × Int × Int × Int × Str × Unit) => m_law_side_bonds a_.1 a_.2.1 a_.2.2.1 a_.2.2.2.1 a_.2.2.2.2.1 a_.2.2.2.2.2.1) := by
  refine fn_ok T.F_law_side_bonds sc_law_side_bonds rfl fun cdv A outer s_ F0 H0 vs a_ r D_ E_ hr sm_ ra_ hm kr kn => ?_
  obtain ⟨v_boughs_here, _, rfl, r_boughs_here, v_behind, _, rfl, r_behind, v_k, _, rfl, r_k, v_l, _, rfl, r_l, v_level, _, rfl, r_level, v_side, _, rfl, r_side, rfl⟩ := ra_
  obtain ⟨x_boughs_here, x_behind, x_k, x_l, x_level, x_side, _u⟩ := a_
  have G : Gr F0 H0 F0 H0 := Gr.refl sm_
  replace hm : m_law_side_bonds x_boughs_here x_behind x_k x_l x_level x_side = some r := hm
  unfold m_law_side_bonds at hm
  have r_boughs_here : rp (α := (List (T4 Int Int (List (T2 Bool Str)) (List (T2 Int Int))))) K F0 v_boughs_here x_boughs_here := r_boughs_here
  have r_behind : rp (α := Int) K F0 v_behind x_behind := r_behind
  have r_k : rp (α := Int) K F0 v_k x_k := r_k
  have r_l : rp (α := Int) K F0 v_l x_l := r_l
  have r_level : rp (α := Int) K F0 v_level x_level := r_level
  have r_side : rp (α := Str) K F0 v_side x_side := r_side
  obtain ⟨t1, h_t1, hm⟩ := Option.bind_eq_some_iff.mp hm
  obtain ⟨t2, h_t2, hm⟩ := Option.bind_eq_some_iff.mp hm
  obtain ⟨x_mine, he, hm⟩ := Option.bind_eq_some_iff.mp hm
  refine go_set (α := (T4 Int Int (List (T2 Bool Str)) (List (T2 Int Int)))) 6 G.fh (ev_ixL (ev_var 0 rfl r_boughs_here) (ev_call (ok_at T) (hr.mono (by omega)) T.g_at T.F_at.kp (b_at T) (ea_cons (ev_var 0 rfl r_boughs_here) (ea_cons (ev_var 2 rfl r_k) ea_nil)) h_t1) h_t2) (fun v_mine F H g rn_ => ?_) sc_law_side_bonds.nd
  have G := G.trans g
  have r_boughs_here := Rp.mono g.ff r_boughs_here
  have r_behind := Rp.mono g.ff r_behind
  have r_k := Rp.mono g.ff r_k
  have r_l := Rp.mono g.ff r_l
  have r_level := Rp.mono g.ff r_level
  have r_side := Rp.mono g.ff r_side
  have r_mine := cg (Option.some.inj he) rn_
  obtain ⟨t3, h_t3, hm⟩ := Option.bind_eq_some_iff.mp hm
  obtain ⟨t4, h_t4, hm⟩ := Option.bind_eq_some_iff.mp hm
  obtain ⟨x_theirs, he, hm⟩ := Option.bind_eq_some_iff.mp hm
  refine go_set (α := (T4 Int Int (List (T2 Bool Str)) (List (T2 Int Int)))) 7 G.fh (ev_ixL (ev_var 0 rfl r_boughs_here) (ev_call (ok_at T) (hr.mono (by omega)) T.g_at T.F_at.kp (b_at T) (ea_cons (ev_var 0 rfl r_boughs_here) (ea_cons (ev_var 3 rfl r_l) ea_nil)) h_t3) h_t4) (fun v_theirs F H g rn_ => ?_) sc_law_side_bonds.nd
  have G := G.trans g
  have r_boughs_here := Rp.mono g.ff r_boughs_here
  have r_behind := Rp.mono g.ff r_behind
  have r_l := Rp.mono g.ff r_l
  have r_level := Rp.mono g.ff r_level
  have r_side := Rp.mono g.ff r_side
  have r_mine := Rp.mono g.ff r_mine
  have r_theirs := cg (Option.some.inj he) rn_
  obtain ⟨x_due, he, hm⟩ := Option.bind_eq_some_iff.mp hm
  refine go_setN (α := (List (T3 Int Int Int))) 8 G.fh (en_list el_nil (Nat.zero_le _)) (fun l_due vs_ F H g nl_ fl_ hl_ rs_ => ?_) sc_law_side_bonds.nd
  have n0_ := G.hh.free nl_
  have G := G.trans g
  have r_behind := Rp.mono g.ff r_behind
  have r_level := Rp.mono g.ff r_level
  have r_side := Rp.mono g.ff r_side
  have r_mine := Rp.mono g.ff r_mine
  have r_theirs := Rp.mono g.ff r_theirs
  have o_due : Own K _ F H l_due _ := Own.cg (Option.some.inj he) ⟨n0_, fl_, vs_, hl_, rs_⟩
  obtain ⟨t5, h_t5, hm⟩ := Option.bind_eq_some_iff.mp hm
  obtain ⟨o8, ho_, hm⟩ := Option.bind_eq_some_iff.mp hm
  refine go_forM G.fh (ei_range1 (ev_add (ev_var 4 rfl r_level) ev_int) h_t5 T.n_range) (pg_name (i := 9) sc_law_side_bonds.nd rfl (by first | exact Or.inl rfl | exact Or.inr rfl)) ho_ hm (fun F H g => ?_) PassesOwn.never
  have G := G.trans g
  have r_behind := Rp.mono g.ff r_behind
  have r_level := Rp.mono g.ff r_level
  have r_side := Rp.mono g.ff r_side
  have r_mine := Rp.mono g.ff r_mine
  have r_theirs := Rp.mono g.ff r_theirs
  have o_due := o_due.up g
  refine ⟨fun (b6 : (List (T3 Int Int Int))) σ_ F_ H_ => ∃ (u_kind : Option V) (u_one : Option V) (u_other : Option V) (u_e : Option V), σ_ = [some v_boughs_here, some v_behind, some v_k, some v_l, some v_level, some v_side, some v_mine, some v_theirs, some (.ref l_due), u_e, u_kind, u_one, u_other] ∧ Gr F0 H0 F_ H_ ∧ Own K H0 F_ H_ l_due b6, fun r_ v_ H_ => ∃ F_, Gr F0 H0 F_ H_ ∧ rp K F_ v_ r_, ⟨_, _, _, _, rfl, G, o_due⟩, ?_, ?_, ?_⟩
  ·
    intro b6 x_e o_ hm σ_ F H v_e s1_ s2_ iv_ F H g r_e Q_ hQ_
    obtain ⟨u_kind, u_one, u_other, u_e, rfl, G, o_due⟩ := iv_
    have sb9 := g.ff
    have r_behind := Rp.mono s1_ r_behind
    have r_level := Rp.mono s1_ r_level
    have r_side := Rp.mono s1_ r_side
    have r_mine := Rp.mono s1_ r_mine
    have r_theirs := Rp.mono s1_ r_theirs
    have G := G.trans g
    have r_behind := Rp.mono g.ff r_behind
    have r_level := Rp.mono g.ff r_level
    have r_side := Rp.mono g.ff r_side
    have r_mine := Rp.mono g.ff r_mine
    have r_theirs := Rp.mono g.ff r_theirs
    have o_due := o_due.up g
    refine hQ_ _ _ ?_
    refine go_if (t := ((decide (x_e = x_level)) && (decide (x_side = ("text" : Str))))) G.fh (EvW.t (ew_andP (et_cmp op_eq o2_eq (ev_var 9 rfl r_e) (ev_var 4 rfl r_level) (nomark _)) (ew_and1 (et_cmp op_eq o2_eq (ev_var 5 rfl r_side) ev_str (nomark _))))) (fun hc F H g => ?_) (fun hc F H g => ?_)
    · replace hm := ipos hc hm
      have G := G.trans g
      have r_behind := Rp.mono g.ff r_behind
      have r_level := Rp.mono g.ff r_level
      have r_side := Rp.mono g.ff r_side
      have r_mine := Rp.mono g.ff r_mine
      have r_theirs := Rp.mono g.ff r_theirs
      have o_due := o_due.up g
      have r_e := Rp.mono g.ff r_e
      have sb9 := sb9.trans g.ff
      exact go_brk ⟨_, _, (Option.some.inj hm).symm, sb9, G.fh, ⟨_, _, _, _, rfl, G, o_due⟩⟩
    · replace hm := ineg (nt hc) hm
      have G := G.trans g
      have r_behind := Rp.mono g.ff r_behind
      have r_level := Rp.mono g.ff r_level
      have r_side := Rp.mono g.ff r_side
      have r_mine := Rp.mono g.ff r_mine
      have r_theirs := Rp.mono g.ff r_theirs
      have o_due := o_due.up g
      have r_e := Rp.mono g.ff r_e
      have sb9 := sb9.trans g.ff
      refine GoS.nil ?_
      obtain ⟨t11, h_t11, hm⟩ := Option.bind_eq_some_iff.mp hm
      refine go_if (t := t11) G.fh (EvW.t (ew_or (x := (decide (x_e = x_level))) (et_cmp op_eq o2_eq (ev_var 9 rfl r_e) (ev_var 4 rfl r_level) (nomark _)) (fun hc => by
          replace h_t11 := ineg (nt hc) h_t11
          obtain ⟨t10, h_t10, h_t11⟩ := Option.bind_eq_some_iff.mp h_t11
          exact EvW.cg (Option.some.inj h_t11) (ew_or1 (et_not (et_val (ev_ixT (ev_ixL (ev_ixT (ev_var 6 rfl r_mine) ev_int pj2) (ev_var 9 rfl r_e) h_t10) ev_int pj0))))) (fun hc => by replace h_t11 := ipos hc h_t11; exact (Option.some.inj h_t11).symm))) (fun hc F H g => ?_) (fun hc F H g => ?_)
      · replace hm := ipos hc hm
        have G := G.trans g
        have r_behind := Rp.mono g.ff r_behind
        have r_level := Rp.mono g.ff r_level
        have r_side := Rp.mono g.ff r_side
        have r_mine := Rp.mono g.ff r_mine
        have r_theirs := Rp.mono g.ff r_theirs
        have o_due := o_due.up g
        have r_e := Rp.mono g.ff r_e
        have sb9 := sb9.trans g.ff
        obtain ⟨x_kind, he, hm⟩ := Option.bind_eq_some_iff.mp hm
        refine go_set (α := Str) 10 G.fh (ev_var 5 rfl r_side) (fun v_kind F H g rn_ => ?_) sc_law_side_bonds.nd
        have G := G.trans g
        have r_behind := Rp.mono g.ff r_behind
        have r_level := Rp.mono g.ff r_level
        have r_side := Rp.mono g.ff r_side
        have r_mine := Rp.mono g.ff r_mine
        have r_theirs := Rp.mono g.ff r_theirs
        have o_due := o_due.up g
        have r_e := Rp.mono g.ff r_e
        have sb9 := sb9.trans g.ff
        have r_kind := cg (Option.some.inj he) rn_
        obtain ⟨b12, hj, hm⟩ := Option.bind_eq_some_iff.mp hm
        refine go_ifj (t := (decide (x_e < x_level))) (fun σ_ H_ => ∃ (F_ : Hp) (v_kind : V), L2.Same F F_ ∧ σ_ = [some v_boughs_here, some v_behind, some v_k, some v_l, some v_level, some v_side, some v_mine, some v_theirs, some (.ref l_due), some v_e, some v_kind, u_one, u_other] ∧ Gr F0 H0 F_ H_ ∧ rp (α := Str) K F_ v_kind b12 ∧ Own K H0 F_ H_ l_due b6) G.fh (et_cmp op_lt o2_lt (ev_var 9 rfl r_e) (ev_var 4 rfl r_level) (nomark _)) (fun hc F H g => ?_) (fun hc F H g => ?_) (fun σ_ H hP_ => ?_)
        · replace hj := ipos hc hj
          clear hm
          have hm := hj
          clear hj
          have G := G.trans g
          have r_behind := Rp.mono g.ff r_behind
          have r_level := Rp.mono g.ff r_level
          have r_mine := Rp.mono g.ff r_mine
          have r_theirs := Rp.mono g.ff r_theirs
          have o_due := o_due.up g
          have r_e := Rp.mono g.ff r_e
          have r_kind := Rp.mono g.ff r_kind
          have sb9 := sb9.trans g.ff
          have sj13 := g.ff
          obtain ⟨x_kind, he, hm⟩ := Option.bind_eq_some_iff.mp hm
          refine go_set (α := Str) 10 G.fh ev_str (fun v_kind F H g rn_ => ?_) sc_law_side_bonds.nd
          have G := G.trans g
          have r_behind := Rp.mono g.ff r_behind
          have r_mine := Rp.mono g.ff r_mine
          have r_theirs := Rp.mono g.ff r_theirs
          have o_due := o_due.up g
          have r_e := Rp.mono g.ff r_e
          have sb9 := sb9.trans g.ff
          have sj13 := sj13.trans g.ff
          have r_kind := cg (Option.some.inj he) rn_
          have hm := Option.some.inj hm
          subst hm
          exact GoS.nil ⟨_, _, sj13, rfl, G, r_kind, o_due⟩
        · replace hj := ineg (nt hc) hj
          clear hm
          have hm := hj
          clear hj
          have G := G.trans g
          have r_behind := Rp.mono g.ff r_behind
          have r_level := Rp.mono g.ff r_level
          have r_mine := Rp.mono g.ff r_mine
          have r_theirs := Rp.mono g.ff r_theirs
          have o_due := o_due.up g
          have r_e := Rp.mono g.ff r_e
          have r_kind := Rp.mono g.ff r_kind
          have sb9 := sb9.trans g.ff
          have sj13 := g.ff
          have hm := Option.some.inj hm
          subst hm
          exact GoS.nil ⟨_, _, sj13, rfl, G, r_kind, o_due⟩
        obtain ⟨F, v_kind, sj_, rfl, G, r_kind, o_due⟩ := hP_
        have r_behind := Rp.mono sj_ r_behind
        have r_mine := Rp.mono sj_ r_mine
        have r_theirs := Rp.mono sj_ r_theirs
        have r_e := Rp.mono sj_ r_e
        have sb9 := sb9.trans sj_
        obtain ⟨t14, h_t14, hm⟩ := Option.bind_eq_some_iff.mp hm
        obtain ⟨x_one, he, hm⟩ := Option.bind_eq_some_iff.mp hm
        refine go_set (α := (T2 Int Int)) 11 G.fh (ev_ixL (ev_ixT (ev_var 6 rfl r_mine) ev_int pj3) (ev_var 9 rfl r_e) h_t14) (fun v_one F H g rn_ => ?_) sc_law_side_bonds.nd
        have G := G.trans g
        have r_behind := Rp.mono g.ff r_behind
        have r_mine := Rp.mono g.ff r_mine
        have r_theirs := Rp.mono g.ff r_theirs
        have o_due := o_due.up g
        have r_e := Rp.mono g.ff r_e
        have r_kind := Rp.mono g.ff r_kind
        have sb9 := sb9.trans g.ff
        have r_one := cg (Option.some.inj he) rn_
        obtain ⟨t15, h_t15, hm⟩ := Option.bind_eq_some_iff.mp hm
        obtain ⟨x_other, he, hm⟩ := Option.bind_eq_some_iff.mp hm
        refine go_set (α := (T2 Int Int)) 12 G.fh (ev_ixL (ev_ixT (ev_var 7 rfl r_theirs) ev_int pj3) (ev_var 9 rfl r_e) h_t15) (fun v_other F H g rn_ => ?_) sc_law_side_bonds.nd
        have G := G.trans g
        have r_behind := Rp.mono g.ff r_behind
        have r_theirs := Rp.mono g.ff r_theirs
        have o_due := o_due.up g
        have r_e := Rp.mono g.ff r_e
        have r_kind := Rp.mono g.ff r_kind
        have r_one := Rp.mono g.ff r_one
        have sb9 := sb9.trans g.ff
        have r_other := cg (Option.some.inj he) rn_
        obtain ⟨t16, h_t16, hm⟩ := Option.bind_eq_some_iff.mp hm
        obtain ⟨t17, h_t17, hm⟩ := Option.bind_eq_some_iff.mp hm
        refine go_exprM (ρ := Unit) (β := (List (T3 Int Int Int))) G.fh (em_extend 8 o_due rfl (ev_call (ok_law_time_bonds T) (hr.mono (by omega)) T.g_law_time_bonds T.F_law_time_bonds.kp (b_law_time_bonds T) (ea_cons (ev_add ev_int (ev_ixT (ev_var 11 rfl r_one) ev_int pj0)) (ea_cons (ev_ixT (ev_var 11 rfl r_one) ev_int pj1) (ea_cons (ev_add (ev_var 1 rfl r_behind) (ev_ixT (ev_var 12 rfl r_other) ev_int pj0)) (ea_cons (ev_ixT (ev_var 12 rfl r_other) ev_int pj1) (ea_cons (ev_var 10 rfl r_kind) ea_nil))))) h_t16) h_t17) (fun F H ob_ g fl_ hl_ rb_ => ?_)
        have Gm_ := G.over o_due.n g
        have r_behind := Rp.mono g.ff r_behind
        have r_kind := Rp.mono g.ff r_kind
        have r_one := Rp.mono g.ff r_one
        have r_other := Rp.mono g.ff r_other
        have sb9 := sb9.trans g.ff
        have G := Gm_
        have o_due := Own.mk' o_due.n fl_ hl_ rb_
        refine GoS.nil ?_
        exact GoS.nil ⟨_, _, (Option.some.inj hm).symm, sb9, G.fh, ⟨_, _, _, _, rfl, G, o_due⟩⟩
      · replace hm := ineg (nt hc) hm
        have G := G.trans g
        have r_behind := Rp.mono g.ff r_behind
        have r_level := Rp.mono g.ff r_level
        have r_side := Rp.mono g.ff r_side
        have r_mine := Rp.mono g.ff r_mine
        have r_theirs := Rp.mono g.ff r_theirs
        have o_due := o_due.up g
        have r_e := Rp.mono g.ff r_e
        have sb9 := sb9.trans g.ff
        refine GoS.nil ?_
        exact GoS.nil ⟨_, _, (Option.some.inj hm).symm, sb9, G.fh, ⟨_, _, _, _, rfl, G, o_due⟩⟩
  · intro b18 hm σ_ F H s1_ s2_ iv_
    obtain ⟨u_kind, u_one, u_other, u_e, rfl, G, o_due⟩ := iv_
    refine o_due.freeze G (fun F H s_ s2_ G r_due k_ => ?_)
    exact go_ret G.fh (ev_var 8 rfl r_due) fun v_ F_ H_ g_ rv_ => kr _ _ _ (G.trans g_) (cg (Option.some.inj hm) rv_)
  · intro r_ he v_ H_ hv_
    obtain ⟨F_, g_, rv_⟩ := hv_
    exact kr _ _ _ g_ (cg (Option.some.inj he) rv_)
/-! whole -/
theorem sc_whole : FnScope ["_law_found"] ["_law_found"] (defScope s_whole) := ⟨rfl, rfl, rfl, by decide +kernel, rfl, by decide +kernel, by decide +kernel⟩
theorem b_whole (T : Txt K mg) : Binds K T.d_whole ["_law_found"] [] := T.F_whole.bindsN fun _ _ _ _ _ _ us hl => match us, hl with | [_], _ => rfl
theorem ok_whole (T : Txt K mg) : FnOk P w K mg base CX0 1 (He.fAd K ("_law_whole", none)) T.d_whole ["_law_found"] (Pr K fun (a_ : Int × Unit) => m_whole a_.1) := by
  refine fn_ok T.F_whole sc_whole rfl fun cdv A outer s_ F0 H0 vs a_ r D_ E_ hr sm_ ra_ hm kr kn => ?_
  obtain ⟨v_found, _, rfl, r_found, rfl⟩ := ra_
  obtain ⟨x_found, _u⟩ := a_
  have G : Gr F0 H0 F0 H0 := Gr.refl sm_
  replace hm : m_whole x_found = some r := hm
  unfold m_whole at hm
  have r_found : rp (α := Int) K F0 v_found x_found := r_found
  exact go_ret G.fh (ev_andP (ev_isi (T := "int") (r := true) (by decide +kernel) T.n_isinstance T.n_int (by decide +kernel) (ev_var 0 rfl r_found)) (ev_one (ev_not (ev_isi (T := "bool") (r := false) (by decide +kernel) T.n_isinstance T.n_bool (by decide +kernel) (ev_var 0 rfl r_found))))) fun v_ F_ H_ g_ rv_ => kr _ _ _ (G.trans g_) (cg (Option.some.inj hm) rv_)
/-! alike -/
theorem sc_alike : FnScope ["_law_found", "_law_due", "_law_bond"] ["_law_found", "_law_due"] (defScope s_alike) := ⟨rfl, rfl, rfl, by decide +kernel, rfl, by decide +kernel, by decide +kernel⟩
theorem b_alike (T : Txt K mg) : Binds K T.d_alike ["_law_found", "_law_due"] [] := T.F_alike.bindsN fun _ _ _ _ _ _ us hl => match us, hl with | [_, _], _ => rfl
theorem ok_alike (T : Txt K mg) : FnOk P w K mg base CX0 2 (He.fAd K ("_law_alike", none)) T.d_alike ["_law_found", "_law_due"] (Pr K fun (a_ : (List (T3 Int Int Int)) × (List (T3 Int Int Int)) × Unit) => m_alike a_.1 a_.2.1) := by
  refine fn_ok T.F_alike sc_alike rfl fun cdv A outer s_ F0 H0 vs a_ r D_ E_ hr sm_ ra_ hm kr kn => ?_
  obtain ⟨v_found, _, rfl, r_found, v_due, _, rfl, r_due, rfl⟩ := ra_
  obtain ⟨x_found, x_due, _u⟩ := a_
  have G : Gr F0 H0 F0 H0 := Gr.refl sm_
  replace hm : m_alike x_found x_due = some r := hm
  unfold m_alike at hm
  have r_found : rp (α := (List (T3 Int Int Int))) K F0 v_found x_found := r_found
  have r_due : rp (α := (List (T3 Int Int Int))) K F0 v_due x_due := r_due
  refine go_if (t := ((!true) || (!decide ((x_found.length : Int) = (x_due.length : Int))))) G.fh (EvW.t (ew_orP (et_not (et_val (ev_isi (T := "list") (r := true) (by decide +kernel) T.n_isinstance T.n_list (by decide +kernel) (ev_var 0 rfl r_found)))) (ew_or1 (et_cmp op_ne o2_ne (ev_callB call_len_seq oc_lenL T.n_len PySem.boot_len (ea_cons (ev_var 0 rfl r_found) ea_nil)) (ev_callB call_len_seq oc_lenL T.n_len PySem.boot_len (ea_cons (ev_var 1 rfl r_due) ea_nil)) (nomark _))))) (fun hc F H g => ?_) (fun hc F H g => ?_)
  · replace hm := ipos hc hm
    have G := G.trans g
    have r_found := Rp.mono g.ff r_found
    have r_due := Rp.mono g.ff r_due
    exact go_ret G.fh ev_bl fun v_ F_ H_ g_ rv_ => kr _ _ _ (G.trans g_) (cg (Option.some.inj hm) rv_)
  · replace hm := ineg (nt hc) hm
    have G := G.trans g
    have r_found := Rp.mono g.ff r_found
    have r_due := Rp.mono g.ff r_due
    refine GoS.nil ?_
    obtain ⟨o3, ho_, hm⟩ := Option.bind_eq_some_iff.mp hm
    refine go_forM G.fh (ei_list (ev_var 0 rfl r_found)) (pg_name (i := 2) sc_alike.nd rfl (by first | exact Or.inl rfl | exact Or.inr rfl)) ho_ hm (fun F H g => ?_) PassesOwn.never
    have G := G.trans g
    have r_found := Rp.mono g.ff r_found
    have r_due := Rp.mono g.ff r_due
    refine ⟨fun (b1 : Unit) σ_ F_ H_ => ∃ (u_bond : Option V), σ_ = [some v_found, some v_due, u_bond] ∧ Gr F0 H0 F_ H_, fun r_ v_ H_ => ∃ F_, Gr F0 H0 F_ H_ ∧ rp K F_ v_ r_, ⟨_, rfl, G⟩, ?_, ?_, ?_⟩
    ·
      intro b1 x_bond o_ hm σ_ F H v_bond s1_ s2_ iv_ F H g r_bond Q_ hQ_
      obtain ⟨u_bond, rfl, G⟩ := iv_
      have sb4 := g.ff
      have G := G.trans g
      refine hQ_ _ _ ?_
      refine go_if (t := ((!true) || (!decide ((3 : Int) = (3 : Int))))) G.fh (EvW.t (ew_orP (et_not (et_val (ev_isi (T := "tuple") (r := true) (by decide +kernel) T.n_isinstance T.n_tuple (by decide +kernel) (ev_var 2 rfl r_bond)))) (ew_or1 (et_cmp op_ne o2_ne (ev_callB call_len_seq (oc_lenT (x := x_bond)) T.n_len PySem.boot_len (ea_cons (ev_var 2 rfl r_bond) ea_nil)) ev_int (nomark _))))) (fun hc F H g => ?_) (fun hc F H g => ?_)
      · replace hm := ipos hc hm
        have G := G.trans g
        have r_bond := Rp.mono g.ff r_bond
        have sb4 := sb4.trans g.ff
        exact go_ret G.fh ev_bl fun v_ F_ H_ g_ rv_ => ⟨_, (Option.some.inj hm).symm, F_, G.trans g_, rv_⟩
      · replace hm := ineg (nt hc) hm
        have G := G.trans g
        have r_bond := Rp.mono g.ff r_bond
        have sb4 := sb4.trans g.ff
        refine GoS.nil ?_
        obtain ⟨t5, h_t5, hm⟩ := Option.bind_eq_some_iff.mp hm
        obtain ⟨t9, h_t9, hm⟩ := Option.bind_eq_some_iff.mp hm
        refine go_if (t := t9) G.fh (EvW.t (ew_or (x := (!t5)) (et_not (et_val (ev_call (ok_whole T) (hr.mono (by omega)) T.g_whole T.F_whole.kp (b_whole T) (ea_cons (ev_ixT (ev_var 2 rfl r_bond) ev_int pj0) ea_nil) h_t5))) (fun hc => by
          replace h_t9 := ineg (nt hc) h_t9
          obtain ⟨t6, h_t6, h_t9⟩ := Option.bind_eq_some_iff.mp h_t9
          obtain ⟨t8, h_t8, h_t9⟩ := Option.bind_eq_some_iff.mp h_t9
          exact EvW.cg (Option.some.inj h_t9) (ew_or (x := (!t6)) (et_not (et_val (ev_call (ok_whole T) (hr.mono (by omega)) T.g_whole T.F_whole.kp (b_whole T) (ea_cons (ev_ixT (ev_var 2 rfl r_bond) ev_int pj1) ea_nil) h_t6))) (fun hc => by
          replace h_t8 := ineg (nt hc) h_t8
          obtain ⟨t7, h_t7, h_t8⟩ := Option.bind_eq_some_iff.mp h_t8
          exact EvW.cg (Option.some.inj h_t8) (ew_or1 (et_not (et_val (ev_call (ok_whole T) (hr.mono (by omega)) T.g_whole T.F_whole.kp (b_whole T) (ea_cons (ev_ixT (ev_var 2 rfl r_bond) ev_int pj2) ea_nil) h_t7))))) (fun hc => by replace h_t8 := ipos hc h_t8; exact (Option.some.inj h_t8).symm))) (fun hc => by replace h_t9 := ipos hc h_t9; exact (Option.some.inj h_t9).symm))) (fun hc F H g => ?_) (fun hc F H g => ?_)
        · replace hm := ipos hc hm
          have G := G.trans g
          have r_bond := Rp.mono g.ff r_bond
          have sb4 := sb4.trans g.ff
          exact go_ret G.fh ev_bl fun v_ F_ H_ g_ rv_ => ⟨_, (Option.some.inj hm).symm, F_, G.trans g_, rv_⟩
        · replace hm := ineg (nt hc) hm
          have G := G.trans g
          have r_bond := Rp.mono g.ff r_bond
          have sb4 := sb4.trans g.ff
          refine GoS.nil ?_
          exact GoS.nil ⟨_, _, (Option.some.inj hm).symm, sb4, G.fh, ⟨_, rfl, G⟩⟩
    · intro b10 hm σ_ F H s1_ s2_ iv_
      obtain ⟨u_bond, rfl, G⟩ := iv_
      have r_found := Rp.mono s1_ r_found
      have r_due := Rp.mono s1_ r_due
      obtain ⟨t11, h_t11, hm⟩ := Option.bind_eq_some_iff.mp hm
      exact go_ret G.fh (ev_eqD (ev_var 0 rfl r_found) (ev_var 1 rfl r_due) h_t11 hr.units) fun v_ F_ H_ g_ rv_ => kr _ _ _ (G.trans g_) (cg (Option.some.inj hm) rv_)
    · intro r_ he v_ H_ hv_
      obtain ⟨F_, g_, rv_⟩ := hv_
      exact kr _ _ _ g_ (cg (Option.some.inj he) rv_)
/-! meant -/
theorem sc_meant : FnScope ["_law_mine", "_law_theirs", "_law_behind", "_law_values", "_law_level", "_law_side", "_law_e", "_law_time", "_law_beside"] ["_law_mine", "_law_theirs", "_law_behind", "_law_values", "_law_level", "_law_side"] (defScope s_meant) := ⟨rfl, rfl, rfl, by decide +kernel, rfl, by decide +kernel, by decide +kernel⟩
theorem b_meant (T : Txt K mg) : Binds K T.d_meant ["_law_mine", "_law_theirs", "_law_behind", "_law_values", "_law_level", "_law_side"] [] := T.F_meant.bindsN fun _ _ _ _ _ _ us hl => match us, hl with | [_, _, _, _, _, _], _ => rfl
theorem ok_meant (T : Txt K mg) : FnOk P w K mg base CX0 1 (He.fAd K ("_law_meant", none)) T.d_meant ["_law_mine", "_law_theirs", "_law_behind", "_law_values", "_law_level", "_law_side"] (Pr K fun (a_ : (T4 Int Int (List (T2 Bool Str)) (List (T2 Int Int))) × (T4 Int Int (List (T2 Bool Str)) (List (T2 Int Int))) × Int × (List Int) × Int × Str × Unit) => m_meant a_.1 a_.2.1 a_.2.2.1 a_.2.2.2.1 a_.2.2.2.2.1 a_.2.2.2.2.2.1) := by
  refine fn_ok T.F_meant sc_meant rfl fun cdv A outer s_ F0 H0 vs a_ r D_ E_ hr sm_ ra_ hm kr kn => ?_
  obtain ⟨v_mine, _, rfl, r_mine, v_theirs, _, rfl, r_theirs, v_behind, _, rfl, r_behind, v_values, _, rfl, r_values, v_level, _, rfl, r_level, v_side, _, rfl, r_side, rfl⟩ := ra_
  obtain ⟨x_mine, x_theirs, x_behind, x_values, x_level, x_side, _u⟩ := a_
  have G : Gr F0 H0 F0 H0 := Gr.refl sm_
  replace hm : m_meant x_mine x_theirs x_behind x_values x_level x_side = some r := hm
  unfold m_meant at hm
  have r_mine : rp (α := (T4 Int Int (List (T2 Bool Str)) (List (T2 Int Int)))) K F0 v_mine x_mine := r_mine
  have r_theirs : rp (α := (T4 Int Int (List (T2 Bool Str)) (List (T2 Int Int)))) K F0 v_theirs x_theirs := r_theirs
  have r_behind : rp (α := Int) K F0 v_behind x_behind := r_behind
  have r_values : rp (α := (List Int)) K F0 v_values x_values := r_values
  have r_level : rp (α := Int) K F0 v_level x_level := r_level
  have r_side : rp (α := Str) K F0 v_side x_side := r_side
  obtain ⟨t1, h_t1, hm⟩ := Option.bind_eq_some_iff.mp hm
  obtain ⟨o4, ho_, hm⟩ := Option.bind_eq_some_iff.mp hm
  refine go_forM G.fh (ei_range1 (ev_add (ev_var 4 rfl r_level) ev_int) h_t1 T.n_range) (pg_name (i := 6) sc_meant.nd rfl (by first | exact Or.inl rfl | exact Or.inr rfl)) ho_ hm (fun F H g => ?_) PassesOwn.never
  have G := G.trans g
  have r_mine := Rp.mono g.ff r_mine
  have r_theirs := Rp.mono g.ff r_theirs
  have r_behind := Rp.mono g.ff r_behind
  have r_values := Rp.mono g.ff r_values
  have r_level := Rp.mono g.ff r_level
  have r_side := Rp.mono g.ff r_side
  refine ⟨fun (b2 : Unit) σ_ F_ H_ => ∃ (u_time : Option V) (u_beside : Option V) (u_e : Option V), σ_ = [some v_mine, some v_theirs, some v_behind, some v_values, some v_level, some v_side, u_e, u_time, u_beside] ∧ Gr F0 H0 F_ H_, fun r_ v_ H_ => ∃ F_, Gr F0 H0 F_ H_ ∧ rp K F_ v_ r_, ⟨_, _, _, rfl, G⟩, ?_, ?_, ?_⟩
  ·
    intro b2 x_e o_ hm σ_ F H v_e s1_ s2_ iv_ F H g r_e Q_ hQ_
    obtain ⟨u_time, u_beside, u_e, rfl, G⟩ := iv_
    have sb5 := g.ff
    have r_mine := Rp.mono s1_ r_mine
    have r_theirs := Rp.mono s1_ r_theirs
    have r_behind := Rp.mono s1_ r_behind
    have r_values := Rp.mono s1_ r_values
    have r_level := Rp.mono s1_ r_level
    have r_side := Rp.mono s1_ r_side
    have G := G.trans g
    have r_mine := Rp.mono g.ff r_mine
    have r_theirs := Rp.mono g.ff r_theirs
    have r_behind := Rp.mono g.ff r_behind
    have r_values := Rp.mono g.ff r_values
    have r_level := Rp.mono g.ff r_level
    have r_side := Rp.mono g.ff r_side
    refine hQ_ _ _ ?_
    refine go_if (t := ((decide (x_e = x_level)) && (decide (x_side = ("text" : Str))))) G.fh (EvW.t (ew_andP (et_cmp op_eq o2_eq (ev_var 6 rfl r_e) (ev_var 4 rfl r_level) (nomark _)) (ew_and1 (et_cmp op_eq o2_eq (ev_var 5 rfl r_side) ev_str (nomark _))))) (fun hc F H g => ?_) (fun hc F H g => ?_)
    · replace hm := ipos hc hm
      have G := G.trans g
      have r_mine := Rp.mono g.ff r_mine
      have r_theirs := Rp.mono g.ff r_theirs
      have r_behind := Rp.mono g.ff r_behind
      have r_values := Rp.mono g.ff r_values
      have r_level := Rp.mono g.ff r_level
      have r_side := Rp.mono g.ff r_side
      have r_e := Rp.mono g.ff r_e
      have sb5 := sb5.trans g.ff
      exact go_ret G.fh ev_bl fun v_ F_ H_ g_ rv_ => ⟨_, (Option.some.inj hm).symm, F_, G.trans g_, rv_⟩
    · replace hm := ineg (nt hc) hm
      have G := G.trans g
      have r_mine := Rp.mono g.ff r_mine
      have r_theirs := Rp.mono g.ff r_theirs
      have r_behind := Rp.mono g.ff r_behind
      have r_values := Rp.mono g.ff r_values
      have r_level := Rp.mono g.ff r_level
      have r_side := Rp.mono g.ff r_side
      have r_e := Rp.mono g.ff r_e
      have sb5 := sb5.trans g.ff
      refine GoS.nil ?_
      obtain ⟨t6, h_t6, hm⟩ := Option.bind_eq_some_iff.mp hm
      obtain ⟨t7, h_t7, hm⟩ := Option.bind_eq_some_iff.mp hm
      obtain ⟨t8, h_t8, hm⟩ := Option.bind_eq_some_iff.mp hm
      obtain ⟨x_time, he, hm⟩ := Option.bind_eq_some_iff.mp hm
      refine go_set (α := Int) 7 G.fh (ev_add (ev_ixL (ev_var 3 rfl r_values) (ev_add ev_int (ev_ixT (ev_ixL (ev_ixT (ev_var 0 rfl r_mine) ev_int pj3) (ev_var 6 rfl r_e) h_t6) ev_int pj0)) h_t7) (ev_ixT (ev_ixL (ev_ixT (ev_var 0 rfl r_mine) ev_int pj3) (ev_var 6 rfl r_e) h_t8) ev_int pj1)) (fun v_time F H g rn_ => ?_) sc_meant.nd
      have G := G.trans g
      have r_mine := Rp.mono g.ff r_mine
      have r_theirs := Rp.mono g.ff r_theirs
      have r_behind := Rp.mono g.ff r_behind
      have r_values := Rp.mono g.ff r_values
      have r_level := Rp.mono g.ff r_level
      have r_side := Rp.mono g.ff r_side
      have r_e := Rp.mono g.ff r_e
      have sb5 := sb5.trans g.ff
      have r_time := cg (Option.some.inj he) rn_
      obtain ⟨t9, h_t9, hm⟩ := Option.bind_eq_some_iff.mp hm
      obtain ⟨t10, h_t10, hm⟩ := Option.bind_eq_some_iff.mp hm
      obtain ⟨t11, h_t11, hm⟩ := Option.bind_eq_some_iff.mp hm
      obtain ⟨x_beside, he, hm⟩ := Option.bind_eq_some_iff.mp hm
      refine go_set (α := Int) 8 G.fh (ev_add (ev_ixL (ev_var 3 rfl r_values) (ev_add (ev_var 2 rfl r_behind) (ev_ixT (ev_ixL (ev_ixT (ev_var 1 rfl r_theirs) ev_int pj3) (ev_var 6 rfl r_e) h_t9) ev_int pj0)) h_t10) (ev_ixT (ev_ixL (ev_ixT (ev_var 1 rfl r_theirs) ev_int pj3) (ev_var 6 rfl r_e) h_t11) ev_int pj1)) (fun v_beside F H g rn_ => ?_) sc_meant.nd
      have G := G.trans g
      have r_mine := Rp.mono g.ff r_mine
      have r_theirs := Rp.mono g.ff r_theirs
      have r_behind := Rp.mono g.ff r_behind
      have r_values := Rp.mono g.ff r_values
      have r_level := Rp.mono g.ff r_level
      have r_side := Rp.mono g.ff r_side
      have r_e := Rp.mono g.ff r_e
      have r_time := Rp.mono g.ff r_time
      have sb5 := sb5.trans g.ff
      have r_beside := cg (Option.some.inj he) rn_
      refine go_if (t := ((decide (x_e = x_level)) && (decide (x_side = ("less" : Str))))) G.fh (EvW.t (ew_andP (et_cmp op_eq o2_eq (ev_var 6 rfl r_e) (ev_var 4 rfl r_level) (nomark _)) (ew_and1 (et_cmp op_eq o2_eq (ev_var 5 rfl r_side) ev_str (nomark _))))) (fun hc F H g => ?_) (fun hc F H g => ?_)
      · replace hm := ipos hc hm
        have G := G.trans g
        have r_mine := Rp.mono g.ff r_mine
        have r_level := Rp.mono g.ff r_level
        have r_side := Rp.mono g.ff r_side
        have r_e := Rp.mono g.ff r_e
        have r_time := Rp.mono g.ff r_time
        have r_beside := Rp.mono g.ff r_beside
        have sb5 := sb5.trans g.ff
        exact go_ret G.fh (ev_cmp op_lt o2_lt (ev_var 7 rfl r_time) (ev_var 8 rfl r_beside) (nomark _)) fun v_ F_ H_ g_ rv_ => ⟨_, (Option.some.inj hm).symm, F_, G.trans g_, rv_⟩
      · replace hm := ineg (nt hc) hm
        have G := G.trans g
        have r_mine := Rp.mono g.ff r_mine
        have r_level := Rp.mono g.ff r_level
        have r_side := Rp.mono g.ff r_side
        have r_e := Rp.mono g.ff r_e
        have r_time := Rp.mono g.ff r_time
        have r_beside := Rp.mono g.ff r_beside
        have sb5 := sb5.trans g.ff
        refine GoS.nil ?_
        refine go_if (t := (decide (x_e = x_level))) G.fh (et_cmp op_eq o2_eq (ev_var 6 rfl r_e) (ev_var 4 rfl r_level) (nomark _)) (fun hc F H g => ?_) (fun hc F H g => ?_)
        · replace hm := ipos hc hm
          have G := G.trans g
          have r_mine := Rp.mono g.ff r_mine
          have r_level := Rp.mono g.ff r_level
          have r_e := Rp.mono g.ff r_e
          have r_time := Rp.mono g.ff r_time
          have r_beside := Rp.mono g.ff r_beside
          have sb5 := sb5.trans g.ff
          exact go_ret G.fh (ev_cmp op_gt o2_gt (ev_var 7 rfl r_time) (ev_var 8 rfl r_beside) (nomark _)) fun v_ F_ H_ g_ rv_ => ⟨_, (Option.some.inj hm).symm, F_, G.trans g_, rv_⟩
        · replace hm := ineg (nt hc) hm
          have G := G.trans g
          have r_mine := Rp.mono g.ff r_mine
          have r_level := Rp.mono g.ff r_level
          have r_e := Rp.mono g.ff r_e
          have r_time := Rp.mono g.ff r_time
          have r_beside := Rp.mono g.ff r_beside
          have sb5 := sb5.trans g.ff
          refine GoS.nil ?_
          obtain ⟨t12, h_t12, hm⟩ := Option.bind_eq_some_iff.mp hm
          refine go_if (t := ((!t12.a) && (!decide (x_time = x_beside)))) G.fh (EvW.t (ew_andP (et_not (et_val (ev_ixT (ev_ixL (ev_ixT (ev_var 0 rfl r_mine) ev_int pj2) (ev_var 6 rfl r_e) h_t12) ev_int pj0))) (ew_and1 (et_cmp op_ne o2_ne (ev_var 7 rfl r_time) (ev_var 8 rfl r_beside) (nomark _))))) (fun hc F H g => ?_) (fun hc F H g => ?_)
          · replace hm := ipos hc hm
            have G := G.trans g
            have r_mine := Rp.mono g.ff r_mine
            have r_e := Rp.mono g.ff r_e
            have r_time := Rp.mono g.ff r_time
            have r_beside := Rp.mono g.ff r_beside
            have sb5 := sb5.trans g.ff
            exact go_ret G.fh ev_bl fun v_ F_ H_ g_ rv_ => ⟨_, (Option.some.inj hm).symm, F_, G.trans g_, rv_⟩
          · replace hm := ineg (nt hc) hm
            have G := G.trans g
            have r_mine := Rp.mono g.ff r_mine
            have r_e := Rp.mono g.ff r_e
            have r_time := Rp.mono g.ff r_time
            have r_beside := Rp.mono g.ff r_beside
            have sb5 := sb5.trans g.ff
            refine GoS.nil ?_
            exact GoS.nil ⟨_, _, (Option.some.inj hm).symm, sb5, G.fh, ⟨_, _, _, rfl, G⟩⟩
  · intro b13 hm σ_ F H s1_ s2_ iv_
    obtain ⟨u_time, u_beside, u_e, rfl, G⟩ := iv_
    exact go_ret G.fh ev_bl fun v_ F_ H_ g_ rv_ => kr _ _ _ (G.trans g_) (cg (Option.some.inj hm) rv_)
  · intro r_ he v_ H_ hv_
    obtain ⟨F_, g_, rv_⟩ := hv_
    exact kr _ _ _ g_ (cg (Option.some.inj he) rv_)
/-! hold -/
theorem sc_hold : FnScope ["_law_bonds", "_law_values", "_law_bond"] ["_law_bonds", "_law_values"] (defScope s_hold) := ⟨rfl, rfl, rfl, by decide +kernel, rfl, by decide +kernel, by decide +kernel⟩
theorem b_hold (T : Txt K mg) : Binds K T.d_hold ["_law_bonds", "_law_values"] [] := T.F_hold.bindsN fun _ _ _ _ _ _ us hl => match us, hl with | [_, _], _ => rfl
theorem ok_hold (T : Txt K mg) : FnOk P w K mg base CX0 1 (He.fAd K ("_law_hold", none)) T.d_hold ["_law_bonds", "_law_values"] (Pr K fun (a_ : (List (T3 Int Int Int)) × (List Int) × Unit) => m_hold a_.1 a_.2.1) := by
  refine fn_ok T.F_hold sc_hold rfl fun cdv A outer s_ F0 H0 vs a_ r D_ E_ hr sm_ ra_ hm kr kn => ?_
  obtain ⟨v_bonds, _, rfl, r_bonds, v_values, _, rfl, r_values, rfl⟩ := ra_
  obtain ⟨x_bonds, x_values, _u⟩ := a_
  have G : Gr F0 H0 F0 H0 := Gr.refl sm_
  replace hm : m_hold x_bonds x_values = some r := hm
  unfold m_hold at hm
  have r_bonds : rp (α := (List (T3 Int Int Int))) K F0 v_bonds x_bonds := r_bonds
  have r_values : rp (α := (List Int)) K F0 v_values x_values := r_values
  obtain ⟨o3, ho_, hm⟩ := Option.bind_eq_some_iff.mp hm
  refine go_forM G.fh (ei_list (ev_var 0 rfl r_bonds)) (pg_name (i := 2) sc_hold.nd rfl (by first | exact Or.inl rfl | exact Or.inr rfl)) ho_ hm (fun F H g => ?_) PassesOwn.never
  have G := G.trans g
  have r_values := Rp.mono g.ff r_values
  refine ⟨fun (b1 : Unit) σ_ F_ H_ => ∃ (u_bond : Option V), σ_ = [some v_bonds, some v_values, u_bond] ∧ Gr F0 H0 F_ H_, fun r_ v_ H_ => ∃ F_, Gr F0 H0 F_ H_ ∧ rp K F_ v_ r_, ⟨_, rfl, G⟩, ?_, ?_, ?_⟩
  ·
    intro b1 x_bond o_ hm σ_ F H v_bond s1_ s2_ iv_ F H g r_bond Q_ hQ_
    obtain ⟨u_bond, rfl, G⟩ := iv_
    have sb4 := g.ff
    have r_values := Rp.mono s1_ r_values
    have G := G.trans g
    have r_values := Rp.mono g.ff r_values
    refine hQ_ _ _ ?_
    obtain ⟨t5, h_t5, hm⟩ := Option.bind_eq_some_iff.mp hm
    obtain ⟨t6, h_t6, hm⟩ := Option.bind_eq_some_iff.mp hm
    refine go_if (t := (decide (x_bond.c < (t5 - t6)))) G.fh (et_cmp op_gt o2_gt (ev_sub (ev_ixL (ev_var 1 rfl r_values) (ev_ixT (ev_var 2 rfl r_bond) ev_int pj0) h_t5) (ev_ixL (ev_var 1 rfl r_values) (ev_ixT (ev_var 2 rfl r_bond) ev_int pj1) h_t6)) (ev_ixT (ev_var 2 rfl r_bond) ev_int pj2) (nomark _)) (fun hc F H g => ?_) (fun hc F H g => ?_)
    · replace hm := ipos hc hm
      have G := G.trans g
      have r_values := Rp.mono g.ff r_values
      have r_bond := Rp.mono g.ff r_bond
      have sb4 := sb4.trans g.ff
      exact go_ret G.fh ev_bl fun v_ F_ H_ g_ rv_ => ⟨_, (Option.some.inj hm).symm, F_, G.trans g_, rv_⟩
    · replace hm := ineg (nt hc) hm
      have G := G.trans g
      have r_values := Rp.mono g.ff r_values
      have r_bond := Rp.mono g.ff r_bond
      have sb4 := sb4.trans g.ff
      refine GoS.nil ?_
      exact GoS.nil ⟨_, _, (Option.some.inj hm).symm, sb4, G.fh, ⟨_, rfl, G⟩⟩
  · intro b7 hm σ_ F H s1_ s2_ iv_
    obtain ⟨u_bond, rfl, G⟩ := iv_
    exact go_ret G.fh ev_bl fun v_ F_ H_ g_ rv_ => kr _ _ _ (G.trans g_) (cg (Option.some.inj hm) rv_)
  · intro r_ he v_ H_ hv_
    obtain ⟨F_, g_, rv_⟩ := hv_
    exact kr _ _ _ g_ (cg (Option.some.inj he) rv_)
/-! pair_stands -/
theorem sc_pair_stands : FnScope ["_law_script", "_law_program", "_law_boughs_here", "_law_depths", "_law_k", "_law_l", "_law_plan", "_law_mine", "_law_theirs", "_law_values", "_law_behind", "_law_pair_here", "_law_found", "_law_due", "_law_meant_here"] ["_law_script", "_law_program", "_law_boughs_here", "_law_depths", "_law_k", "_law_l"] (defScope s_pair_stands) := ⟨rfl, rfl, rfl, by decide +kernel, rfl, by decide +kernel, by decide +kernel⟩
theorem b_pair_stands (T : Txt K mg) : Binds K T.d_pair_stands ["_law_script", "_law_program", "_law_boughs_here", "_law_depths", "_law_k", "_law_l"] [] := T.F_pair_stands.bindsN fun _ _ _ _ _ _ us hl => match us, hl with | [_, _, _, _, _, _], _ => rfl
theorem ok_pair_stands (T : Txt K mg) : FnOk P w K mg base CX0 14 (He.fAd K ("_law_pair_stands", none)) T.d_pair_stands ["_law_script", "_law_program", "_law_boughs_here", "_law_depths", "_law_k", "_law_l"] (Pr K fun (a_ : (List Int) × QProgram × (List (T4 Int Int (List (T2 Bool Str)) (List (T2 Int Int)))) × (List Int) × Int × Int × Unit) => m_pair_stands a_.1 a_.2.1 a_.2.2.1 a_.2.2.2.1 a_.2.2.2.2.1 a_.2.2.2.2.2.1) := by
  refine fn_ok T.F_pair_stands sc_pair_stands rfl fun cdv A outer s_ F0 H0 vs a_ r D_ E_ hr sm_ ra_ hm kr kn => ?_
  obtain ⟨v_script, _, rfl, r_script, v_program, _, rfl, r_program, v_boughs_here, _, rfl, r_boughs_here, v_depths, _, rfl, r_depths, v_k, _, rfl, r_k, v_l, _, rfl, r_l, rfl⟩ := ra_
  obtain ⟨x_script, x_program, x_boughs_here, x_depths, x_k, x_l, _u⟩ := a_
  have G : Gr F0 H0 F0 H0 := Gr.refl sm_
  replace hm : m_pair_stands x_script x_program x_boughs_here x_depths x_k x_l = some r := hm
  unfold m_pair_stands at hm
  have r_script : rp (α := (List Int)) K F0 v_script x_script := r_script
  have r_program : rp (α := QProgram) K F0 v_program x_program := r_program
  have r_boughs_here : rp (α := (List (T4 Int Int (List (T2 Bool Str)) (List (T2 Int Int))))) K F0 v_boughs_here x_boughs_here := r_boughs_here
  have r_depths : rp (α := (List Int)) K F0 v_depths x_depths := r_depths
  have r_k : rp (α := Int) K F0 v_k x_k := r_k
  have r_l : rp (α := Int) K F0 v_l x_l := r_l
  obtain ⟨t1, h_t1, hm⟩ := Option.bind_eq_some_iff.mp hm
  obtain ⟨x_plan, he, hm⟩ := Option.bind_eq_some_iff.mp hm
  refine go_set (α := (Tp UItem)) 6 G.fh (ev_call (ok_items T 10) (hr.mono (by omega)) T.g_items T.F_items.kp (b_items T) (ea_cons (ev_var 2 rfl r_boughs_here) (ea_cons ev_int ea_nil)) h_t1) (fun v_plan F H g rn_ => ?_) sc_pair_stands.nd
  have G := G.trans g
  have r_script := Rp.mono g.ff r_script
  have r_program := Rp.mono g.ff r_program
  have r_boughs_here := Rp.mono g.ff r_boughs_here
  have r_depths := Rp.mono g.ff r_depths
  have r_k := Rp.mono g.ff r_k
  have r_l := Rp.mono g.ff r_l
  have r_plan := cg (Option.some.inj he) rn_
  obtain ⟨t2, h_t2, hm⟩ := Option.bind_eq_some_iff.mp hm
  obtain ⟨t3, h_t3, hm⟩ := Option.bind_eq_some_iff.mp hm
  obtain ⟨x_mine, he, hm⟩ := Option.bind_eq_some_iff.mp hm
  refine go_set (α := (T4 Int Int (List (T2 Bool Str)) (List (T2 Int Int)))) 7 G.fh (ev_ixL (ev_var 2 rfl r_boughs_here) (ev_call (ok_at T) (hr.mono (by omega)) T.g_at T.F_at.kp (b_at T) (ea_cons (ev_var 2 rfl r_boughs_here) (ea_cons (ev_var 4 rfl r_k) ea_nil)) h_t2) h_t3) (fun v_mine F H g rn_ => ?_) sc_pair_stands.nd
  have G := G.trans g
  have r_script := Rp.mono g.ff r_script
  have r_program := Rp.mono g.ff r_program
  have r_boughs_here := Rp.mono g.ff r_boughs_here
  have r_depths := Rp.mono g.ff r_depths
  have r_k := Rp.mono g.ff r_k
  have r_l := Rp.mono g.ff r_l
  have r_plan := Rp.mono g.ff r_plan
  have r_mine := cg (Option.some.inj he) rn_
  obtain ⟨t4, h_t4, hm⟩ := Option.bind_eq_some_iff.mp hm
  obtain ⟨t5, h_t5, hm⟩ := Option.bind_eq_some_iff.mp hm
  obtain ⟨x_theirs, he, hm⟩ := Option.bind_eq_some_iff.mp hm
  refine go_set (α := (T4 Int Int (List (T2 Bool Str)) (List (T2 Int Int)))) 8 G.fh (ev_ixL (ev_var 2 rfl r_boughs_here) (ev_call (ok_at T) (hr.mono (by omega)) T.g_at T.F_at.kp (b_at T) (ea_cons (ev_var 2 rfl r_boughs_here) (ea_cons (ev_var 5 rfl r_l) ea_nil)) h_t4) h_t5) (fun v_theirs F H g rn_ => ?_) sc_pair_stands.nd
  have G := G.trans g
  have r_script := Rp.mono g.ff r_script
  have r_program := Rp.mono g.ff r_program
  have r_boughs_here := Rp.mono g.ff r_boughs_here
  have r_depths := Rp.mono g.ff r_depths
  have r_k := Rp.mono g.ff r_k
  have r_l := Rp.mono g.ff r_l
  have r_plan := Rp.mono g.ff r_plan
  have r_mine := Rp.mono g.ff r_mine
  have r_theirs := cg (Option.some.inj he) rn_
  obtain ⟨t6, h_t6, hm⟩ := Option.bind_eq_some_iff.mp hm
  obtain ⟨t7, h_t7, hm⟩ := Option.bind_eq_some_iff.mp hm
  obtain ⟨t8, h_t8, hm⟩ := Option.bind_eq_some_iff.mp hm
  obtain ⟨x_values, he, hm⟩ := Option.bind_eq_some_iff.mp hm
  refine go_set (α := (List Int)) 9 G.fh (ev_call (ok_turns T) (hr.mono (by omega)) T.g_turns T.F_turns.kp (b_turns T) (ea_cons (ev_var 0 rfl r_script) (ea_cons (ev_var 7 rfl r_mine) (ea_cons (ev_var 8 rfl r_theirs) (ea_cons (EvN.ev (α := (List Int)) (en_list (el_cons (ev_ixL (ev_var 3 rfl r_depths) (ev_var 4 rfl r_k) h_t6) (el_cons (ev_ixL (ev_var 3 rfl r_depths) (ev_var 5 rfl r_l) h_t7) el_nil)) (by show 2 ≤ sizeLine; decide))) ea_nil)))) h_t8) (fun v_values F H g rn_ => ?_) sc_pair_stands.nd
  have G := G.trans g
  have r_script := Rp.mono g.ff r_script
  have r_program := Rp.mono g.ff r_program
  have r_boughs_here := Rp.mono g.ff r_boughs_here
  have r_depths := Rp.mono g.ff r_depths
  have r_k := Rp.mono g.ff r_k
  have r_l := Rp.mono g.ff r_l
  have r_plan := Rp.mono g.ff r_plan
  have r_mine := Rp.mono g.ff r_mine
  have r_theirs := Rp.mono g.ff r_theirs
  have r_values := cg (Option.some.inj he) rn_
  obtain ⟨t9, h_t9, hm⟩ := Option.bind_eq_some_iff.mp hm
  obtain ⟨x_behind, he, hm⟩ := Option.bind_eq_some_iff.mp hm
  refine go_set (α := Int) 10 G.fh (ev_add ev_int (ev_ixL (ev_var 3 rfl r_depths) (ev_var 4 rfl r_k) h_t9)) (fun v_behind F H g rn_ => ?_) sc_pair_stands.nd
  have G := G.trans g
  have r_program := Rp.mono g.ff r_program
  have r_boughs_here := Rp.mono g.ff r_boughs_here
  have r_depths := Rp.mono g.ff r_depths
  have r_k := Rp.mono g.ff r_k
  have r_l := Rp.mono g.ff r_l
  have r_plan := Rp.mono g.ff r_plan
  have r_mine := Rp.mono g.ff r_mine
  have r_theirs := Rp.mono g.ff r_theirs
  have r_values := Rp.mono g.ff r_values
  have r_behind := cg (Option.some.inj he) rn_
  obtain ⟨t10, h_t10, hm⟩ := Option.bind_eq_some_iff.mp hm
  obtain ⟨o13, ho_, hm⟩ := Option.bind_eq_some_iff.mp hm
  refine go_forM G.fh (ei_list (ev_call (ok_sides T) (hr.mono (by omega)) T.g_sides T.F_sides.kp (b_sides T) (ea_cons (ev_var 2 rfl r_boughs_here) (ea_cons (ev_var 4 rfl r_k) (ea_cons (ev_var 5 rfl r_l) ea_nil))) h_t10)) (pg_name (i := 11) sc_pair_stands.nd rfl (by first | exact Or.inl rfl | exact Or.inr rfl)) ho_ hm (fun F H g => ?_) PassesOwn.never
  have G := G.trans g
  have r_program := Rp.mono g.ff r_program
  have r_boughs_here := Rp.mono g.ff r_boughs_here
  have r_k := Rp.mono g.ff r_k
  have r_l := Rp.mono g.ff r_l
  have r_plan := Rp.mono g.ff r_plan
  have r_mine := Rp.mono g.ff r_mine
  have r_theirs := Rp.mono g.ff r_theirs
  have r_values := Rp.mono g.ff r_values
  have r_behind := Rp.mono g.ff r_behind
  refine ⟨fun (b11 : Unit) σ_ F_ H_ => ∃ (u_found : Option V) (u_due : Option V) (u_meant_here : Option V) (u_pair_here : Option V), σ_ = [some v_script, some v_program, some v_boughs_here, some v_depths, some v_k, some v_l, some v_plan, some v_mine, some v_theirs, some v_values, some v_behind, u_pair_here, u_found, u_due, u_meant_here] ∧ Gr F0 H0 F_ H_, fun r_ v_ H_ => ∃ F_, Gr F0 H0 F_ H_ ∧ rp K F_ v_ r_, ⟨_, _, _, _, rfl, G⟩, ?_, ?_, ?_⟩
  ·
    intro b11 x_pair_here o_ hm σ_ F H v_pair_here s1_ s2_ iv_ F H g r_pair_here Q_ hQ_
    obtain ⟨u_found, u_due, u_meant_here, u_pair_here, rfl, G⟩ := iv_
    have sb14 := g.ff
    have r_program := Rp.mono s1_ r_program
    have r_boughs_here := Rp.mono s1_ r_boughs_here
    have r_k := Rp.mono s1_ r_k
    have r_l := Rp.mono s1_ r_l
    have r_plan := Rp.mono s1_ r_plan
    have r_mine := Rp.mono s1_ r_mine
    have r_theirs := Rp.mono s1_ r_theirs
    have r_values := Rp.mono s1_ r_values
    have r_behind := Rp.mono s1_ r_behind
    have G := G.trans g
    have r_program := Rp.mono g.ff r_program
    have r_boughs_here := Rp.mono g.ff r_boughs_here
    have r_k := Rp.mono g.ff r_k
    have r_l := Rp.mono g.ff r_l
    have r_plan := Rp.mono g.ff r_plan
    have r_mine := Rp.mono g.ff r_mine
    have r_theirs := Rp.mono g.ff r_theirs
    have r_values := Rp.mono g.ff r_values
    have r_behind := Rp.mono g.ff r_behind
    refine hQ_ _ _ ?_
    obtain ⟨t15, h_t15, hm⟩ := Option.bind_eq_some_iff.mp hm
    obtain ⟨x_found, he, hm⟩ := Option.bind_eq_some_iff.mp hm
    refine go_set (α := (List (T3 Int Int Int))) 12 G.fh (ev_call (ok_side_bonds T) (hr.mono (by omega)) T.g_side_bonds T.F_side_bonds.kp (b_side_bonds T) (ea_cons (ev_var 1 rfl r_program) (ea_cons (ev_var 6 rfl r_plan) (ea_cons (ev_var 4 rfl r_k) (ea_cons (ev_var 5 rfl r_l) (ea_cons (ev_ixT (ev_var 11 rfl r_pair_here) ev_int pj0) (ea_cons (ev_ixT (ev_var 11 rfl r_pair_here) ev_int pj1) ea_nil)))))) h_t15) (fun v_found F H g rn_ => ?_) sc_pair_stands.nd
    have G := G.trans g
    have r_program := Rp.mono g.ff r_program
    have r_boughs_here := Rp.mono g.ff r_boughs_here
    have r_k := Rp.mono g.ff r_k
    have r_l := Rp.mono g.ff r_l
    have r_plan := Rp.mono g.ff r_plan
    have r_mine := Rp.mono g.ff r_mine
    have r_theirs := Rp.mono g.ff r_theirs
    have r_values := Rp.mono g.ff r_values
    have r_behind := Rp.mono g.ff r_behind
    have r_pair_here := Rp.mono g.ff r_pair_here
    have sb14 := sb14.trans g.ff
    have r_found := cg (Option.some.inj he) rn_
    obtain ⟨t16, h_t16, hm⟩ := Option.bind_eq_some_iff.mp hm
    obtain ⟨x_due, he, hm⟩ := Option.bind_eq_some_iff.mp hm
    refine go_set (α := (List (T3 Int Int Int))) 13 G.fh (ev_call (ok_law_side_bonds T) (hr.mono (by omega)) T.g_law_side_bonds T.F_law_side_bonds.kp (b_law_side_bonds T) (ea_cons (ev_var 2 rfl r_boughs_here) (ea_cons (ev_var 10 rfl r_behind) (ea_cons (ev_var 4 rfl r_k) (ea_cons (ev_var 5 rfl r_l) (ea_cons (ev_ixT (ev_var 11 rfl r_pair_here) ev_int pj0) (ea_cons (ev_ixT (ev_var 11 rfl r_pair_here) ev_int pj1) ea_nil)))))) h_t16) (fun v_due F H g rn_ => ?_) sc_pair_stands.nd
    have G := G.trans g
    have r_boughs_here := Rp.mono g.ff r_boughs_here
    have r_k := Rp.mono g.ff r_k
    have r_l := Rp.mono g.ff r_l
    have r_mine := Rp.mono g.ff r_mine
    have r_theirs := Rp.mono g.ff r_theirs
    have r_values := Rp.mono g.ff r_values
    have r_behind := Rp.mono g.ff r_behind
    have r_pair_here := Rp.mono g.ff r_pair_here
    have r_found := Rp.mono g.ff r_found
    have sb14 := sb14.trans g.ff
    have r_due := cg (Option.some.inj he) rn_
    obtain ⟨t17, h_t17, hm⟩ := Option.bind_eq_some_iff.mp hm
    refine go_if (t := (!t17)) G.fh (et_not (et_val (ev_call (ok_alike T) (hr.mono (by omega)) T.g_alike T.F_alike.kp (b_alike T) (ea_cons (ev_var 12 rfl r_found) (ea_cons (ev_var 13 rfl r_due) ea_nil)) h_t17))) (fun hc F H g => ?_) (fun hc F H g => ?_)
    · replace hm := ipos hc hm
      have G := G.trans g
      have r_mine := Rp.mono g.ff r_mine
      have r_theirs := Rp.mono g.ff r_theirs
      have r_values := Rp.mono g.ff r_values
      have r_behind := Rp.mono g.ff r_behind
      have r_pair_here := Rp.mono g.ff r_pair_here
      have r_found := Rp.mono g.ff r_found
      have r_due := Rp.mono g.ff r_due
      have sb14 := sb14.trans g.ff
      exact go_ret G.fh ev_bl fun v_ F_ H_ g_ rv_ => ⟨_, (Option.some.inj hm).symm, F_, G.trans g_, rv_⟩
    · replace hm := ineg (nt hc) hm
      have G := G.trans g
      have r_mine := Rp.mono g.ff r_mine
      have r_theirs := Rp.mono g.ff r_theirs
      have r_values := Rp.mono g.ff r_values
      have r_behind := Rp.mono g.ff r_behind
      have r_pair_here := Rp.mono g.ff r_pair_here
      have r_found := Rp.mono g.ff r_found
      have r_due := Rp.mono g.ff r_due
      have sb14 := sb14.trans g.ff
      refine GoS.nil ?_
      obtain ⟨t18, h_t18, hm⟩ := Option.bind_eq_some_iff.mp hm
      obtain ⟨x_meant_here, he, hm⟩ := Option.bind_eq_some_iff.mp hm
      refine go_set (α := Bool) 14 G.fh (ev_call (ok_meant T) (hr.mono (by omega)) T.g_meant T.F_meant.kp (b_meant T) (ea_cons (ev_var 7 rfl r_mine) (ea_cons (ev_var 8 rfl r_theirs) (ea_cons (ev_var 10 rfl r_behind) (ea_cons (ev_var 9 rfl r_values) (ea_cons (ev_ixT (ev_var 11 rfl r_pair_here) ev_int pj0) (ea_cons (ev_ixT (ev_var 11 rfl r_pair_here) ev_int pj1) ea_nil)))))) h_t18) (fun v_meant_here F H g rn_ => ?_) sc_pair_stands.nd
      have G := G.trans g
      have r_mine := Rp.mono g.ff r_mine
      have r_theirs := Rp.mono g.ff r_theirs
      have r_values := Rp.mono g.ff r_values
      have r_behind := Rp.mono g.ff r_behind
      have r_pair_here := Rp.mono g.ff r_pair_here
      have r_found := Rp.mono g.ff r_found
      have sb14 := sb14.trans g.ff
      have r_meant_here := cg (Option.some.inj he) rn_
      obtain ⟨t19, h_t19, hm⟩ := Option.bind_eq_some_iff.mp hm
      refine go_if (t := (!decide (t19 = x_meant_here))) G.fh (et_cmp op_ne o2_ne (ev_call (ok_hold T) (hr.mono (by omega)) T.g_hold T.F_hold.kp (b_hold T) (ea_cons (ev_var 12 rfl r_found) (ea_cons (ev_var 9 rfl r_values) ea_nil)) h_t19) (ev_var 14 rfl r_meant_here) (nomark _)) (fun hc F H g => ?_) (fun hc F H g => ?_)
      · replace hm := ipos hc hm
        have G := G.trans g
        have r_values := Rp.mono g.ff r_values
        have r_found := Rp.mono g.ff r_found
        have r_meant_here := Rp.mono g.ff r_meant_here
        have sb14 := sb14.trans g.ff
        exact go_ret G.fh ev_bl fun v_ F_ H_ g_ rv_ => ⟨_, (Option.some.inj hm).symm, F_, G.trans g_, rv_⟩
      · replace hm := ineg (nt hc) hm
        have G := G.trans g
        have r_values := Rp.mono g.ff r_values
        have r_found := Rp.mono g.ff r_found
        have r_meant_here := Rp.mono g.ff r_meant_here
        have sb14 := sb14.trans g.ff
        refine GoS.nil ?_
        exact GoS.nil ⟨_, _, (Option.some.inj hm).symm, sb14, G.fh, ⟨_, _, _, _, rfl, G⟩⟩
  · intro b20 hm σ_ F H s1_ s2_ iv_
    obtain ⟨u_found, u_due, u_meant_here, u_pair_here, rfl, G⟩ := iv_
    exact go_ret G.fh ev_bl fun v_ F_ H_ g_ rv_ => kr _ _ _ (G.trans g_) (cg (Option.some.inj hm) rv_)
  · intro r_ he v_ H_ hv_
    obtain ⟨F_, g_, rv_⟩ := hv_
    exact kr _ _ _ g_ (cg (Option.some.inj he) rv_)
/-! law -/
theorem sc_law : FnScope ["_law_script", "_law_depths", "_law_k", "_law_far", "_law_boughs_here", "_law_program", "_law_l"] ["_law_script"] (defScope s_law) := ⟨rfl, rfl, rfl, by decide +kernel, rfl, by decide +kernel, by decide +kernel⟩
theorem b_law (T : Txt K mg) : Binds K T.d_law ["_law_script"] [] := T.F_law.bindsN fun _ _ _ _ _ _ us hl => match us, hl with | [_], _ => rfl
theorem ok_law (T : Txt K mg) : FnOk P w K mg base CX0 15 (He.fAd K ("law", none)) T.d_law ["_law_script"] (Pr K fun (a_ : (List Int) × Unit) => m_law a_.1) := by
  refine fn_ok T.F_law sc_law rfl fun cdv A outer s_ F0 H0 vs a_ r D_ E_ hr sm_ ra_ hm kr kn => ?_
  obtain ⟨v_script, _, rfl, r_script, rfl⟩ := ra_
  obtain ⟨x_script, _u⟩ := a_
  have G : Gr F0 H0 F0 H0 := Gr.refl sm_
  replace hm : m_law x_script = some r := hm
  unfold m_law at hm
  have r_script : rp (α := (List Int)) K F0 v_script x_script := r_script
  obtain ⟨t3, h_t3, hm⟩ := Option.bind_eq_some_iff.mp hm
  obtain ⟨x_depths, he, hm⟩ := Option.bind_eq_some_iff.mp hm
  first
    | refine go_setLc (own := [("_law_k", 2)]) 1 G.fh sc_law.nd (ei_range1 ev_int (by rfl) T.n_range) h_t3 (blkOk_by (N := ["_law_script", "_law_depths", "_law_k", "_law_far", "_law_boughs_here", "_law_program", "_law_l"]) (sc := defScope s_law) (by decide +kernel)) (fun _ _ _ _ _ => (pg_name (i := 2) sc_law.nd rfl (by first | exact Or.inl rfl | exact Or.inr rfl))) (fun x_k o_ hm F H v_k g r_k Q hQ => by
          have r_script := Rp.mono g.ff r_script
          refine hQ _ rfl ?_
          obtain ⟨t1, h_t1, hm⟩ := Option.bind_eq_some_iff.mp hm
          obtain ⟨t2, h_t2, hm⟩ := Option.bind_eq_some_iff.mp hm
          exact ⟨_, (Option.some.inj hm).symm, fun s_ H_ C_ cl_ fp_ => (ev_mod (ev_call (ok_mixed T) (hr.mono (by omega)) T.g_mixed T.F_mixed.kp (b_mixed T) (ea_cons (ev_call (ok_cell_at T) (hr.mono (by omega)) T.g_cell_at T.F_cell_at.kp (b_cell_at T) (ea_cons (ev_var 0 rfl r_script) (ea_cons (ev_var 2 rfl r_k) ea_nil)) h_t1) (ea_cons ev_int ea_nil)) h_t2) ev_int (by decide))⟩) (fun l_depths vs_ F H g nl_ fl_ hl_ rs_ => ?_)
    | refine go_setN 1 G.fh (en_comp (own := [("_law_k", 2)]) sc_law.nd (ei_range1 ev_int (by rfl) T.n_range) h_t3 (blkOk_by (N := ["_law_script", "_law_depths", "_law_k", "_law_far", "_law_boughs_here", "_law_program", "_law_l"]) (sc := defScope s_law) (by decide +kernel)) (fun _ _ _ _ _ => (pg_name (i := 2) sc_law.nd rfl (by first | exact Or.inl rfl | exact Or.inr rfl))) (fun x_k o_ hm F H v_k g r_k Q hQ => by
          have r_script := Rp.mono g.ff r_script
          refine hQ _ rfl ?_
          obtain ⟨t1, h_t1, hm⟩ := Option.bind_eq_some_iff.mp hm
          obtain ⟨t2, h_t2, hm⟩ := Option.bind_eq_some_iff.mp hm
          exact ⟨_, (Option.some.inj hm).symm, fun s_ H_ C_ cl_ fp_ => (ev_mod (ev_call (ok_mixed T) (hr.mono (by omega)) T.g_mixed T.F_mixed.kp (b_mixed T) (ea_cons (ev_call (ok_cell_at T) (hr.mono (by omega)) T.g_cell_at T.F_cell_at.kp (b_cell_at T) (ea_cons (ev_var 0 rfl r_script) (ea_cons (ev_var 2 rfl r_k) ea_nil)) h_t1) (ea_cons ev_int ea_nil)) h_t2) ev_int (by decide))⟩)) (fun l_depths vs_ F H g nl_ fl_ hl_ rs_ => ?_) sc_law.nd
  have n0_ := G.hh.free nl_
  have G := G.trans g
  have r_script := Rp.mono g.ff r_script
  have o_depths : Own K _ F H l_depths _ := Own.cg (Option.some.inj he) ⟨n0_, fl_, vs_, hl_, rs_⟩
  refine o_depths.freeze G (fun F H s_ s2_ G r_depths k_ => ?_)
  have r_script := Rp.mono s_ r_script
  obtain ⟨t4, h_t4, hm⟩ := Option.bind_eq_some_iff.mp hm
  obtain ⟨t5, h_t5, hm⟩ := Option.bind_eq_some_iff.mp hm
  obtain ⟨t6, h_t6, hm⟩ := Option.bind_eq_some_iff.mp hm
  obtain ⟨t7, h_t7, hm⟩ := Option.bind_eq_some_iff.mp hm
  obtain ⟨x_far, he, hm⟩ := Option.bind_eq_some_iff.mp hm
  refine go_set (α := Int) 3 G.fh (ev_mulG (ev_add ev_int (ev_mod (ev_call (ok_cell_at T) (hr.mono (by omega)) T.g_cell_at T.F_cell_at.kp (b_cell_at T) (ea_cons (ev_var 0 rfl r_script) (ea_cons ev_int ea_nil)) h_t4) (ev_powc (z := 100000000000000000) ev_int ev_int (by decide) (by decide +kernel)) (by decide))) (ev_ixTp (ev_tp (el_cons ev_int (el_cons (ev_neg ev_int) el_nil)) (by show 2 ≤ sizeLine; decide)) (ev_mod (ev_call (ok_cell_at T) (hr.mono (by omega)) T.g_cell_at T.F_cell_at.kp (b_cell_at T) (ea_cons (ev_var 0 rfl r_script) (ea_cons ev_int ea_nil)) h_t5) ev_int (by decide)) h_t6) h_t7) (fun v_far F H g rn_ => ?_) sc_law.nd
  have G := G.trans g
  have r_script := Rp.mono g.ff r_script
  have r_depths := Rp.mono g.ff r_depths
  have r_far := cg (Option.some.inj he) rn_
  obtain ⟨t8, h_t8, hm⟩ := Option.bind_eq_some_iff.mp hm
  obtain ⟨x_boughs_here, he, hm⟩ := Option.bind_eq_some_iff.mp hm
  refine go_set (α := (List (T4 Int Int (List (T2 Bool Str)) (List (T2 Int Int))))) 4 G.fh (ev_call (ok_boughs T) (hr.mono (by omega)) T.g_boughs T.F_boughs.kp (b_boughs T) (ea_cons (ev_var 1 rfl r_depths) (ea_cons (ev_var 0 rfl r_script) (ea_cons ev_int (ea_cons (ev_var 3 rfl r_far) ea_nil)))) h_t8) (fun v_boughs_here F H g rn_ => ?_) sc_law.nd
  have G := G.trans g
  have r_script := Rp.mono g.ff r_script
  have r_depths := Rp.mono g.ff r_depths
  have r_far := Rp.mono g.ff r_far
  have r_boughs_here := cg (Option.some.inj he) rn_
  obtain ⟨t11, h_t11, hm⟩ := Option.bind_eq_some_iff.mp hm
  obtain ⟨t12, h_t12, hm⟩ := Option.bind_eq_some_iff.mp hm
  obtain ⟨x_program, he, hm⟩ := Option.bind_eq_some_iff.mp hm
  refine go_set (α := QProgram) 5 G.fh (ev_make (z := QProgram.mk t12.1 t12.2.1) (names := fs_Program) (cn := "Program") (fun _ _ h => h) T.mk_Program (ok_Program_init T) (hr.mono (by omega)) T.g_Program (b_Program_init T) (ea_cons ev_int (ea_cons (EvN.ev (α := (List QDeed)) (en_comp (own := [("_law_k", 2)]) sc_law.nd (ei_range1 ev_int (by rfl) T.n_range) h_t11 (blkOk_by (N := ["_law_script", "_law_depths", "_law_k", "_law_far", "_law_boughs_here", "_law_program", "_law_l"]) (sc := defScope s_law) (by decide +kernel)) (fun _ _ _ _ _ => (pg_name (i := 2) sc_law.nd rfl (by first | exact Or.inl rfl | exact Or.inr rfl))) (fun x_k o_ hm F H v_k g r_k Q hQ => by
          have r_depths := Rp.mono g.ff r_depths
          refine hQ _ rfl ?_
          obtain ⟨t9, h_t9, hm⟩ := Option.bind_eq_some_iff.mp hm
          obtain ⟨t10, h_t10, hm⟩ := Option.bind_eq_some_iff.mp hm
          exact ⟨_, (Option.some.inj hm).symm, fun s_ H_ C_ cl_ fp_ => (ev_call (ok_deed T) (hr.mono (by omega)) T.g_deed T.F_deed.kp (b_deed T) (ea_cons (ev_var 2 rfl r_k) (ea_cons (ev_ixL (ev_var 1 rfl r_depths) (ev_var 2 rfl r_k) h_t9) ea_nil)) h_t10)⟩))) ea_nil)) h_t12) (fun v_program F H g rn_ => ?_) sc_law.nd
  have G := G.trans g
  have r_script := Rp.mono g.ff r_script
  have r_depths := Rp.mono g.ff r_depths
  have r_boughs_here := Rp.mono g.ff r_boughs_here
  have r_program := cg (Option.some.inj he) rn_
  obtain ⟨o15, ho_, hm⟩ := Option.bind_eq_some_iff.mp hm
  refine go_forM G.fh (ei_range1 ev_int (by rfl) T.n_range) (pg_name (i := 2) sc_law.nd rfl (by first | exact Or.inl rfl | exact Or.inr rfl)) ho_ hm (fun F H g => ?_) PassesOwn.never
  have G := G.trans g
  have r_script := Rp.mono g.ff r_script
  have r_depths := Rp.mono g.ff r_depths
  have r_boughs_here := Rp.mono g.ff r_boughs_here
  have r_program := Rp.mono g.ff r_program
  refine ⟨fun (b13 : Unit) σ_ F_ H_ => ∃ (u_l : Option V) (u_k : Option V), σ_ = [some v_script, some (.ref l_depths), u_k, some v_far, some v_boughs_here, some v_program, u_l] ∧ Gr F0 H0 F_ H_, fun r_ v_ H_ => ∃ F_, Gr F0 H0 F_ H_ ∧ rp K F_ v_ r_, ⟨_, _, rfl, G⟩, ?_, ?_, ?_⟩
  ·
    intro b13 x_k o_ hm σ_ F H v_k s1_ s2_ iv_ F H g r_k Q_ hQ_
    obtain ⟨u_l, u_k, rfl, G⟩ := iv_
    have sb16 := g.ff
    have r_script := Rp.mono s1_ r_script
    have r_depths := Rp.mono s1_ r_depths
    have r_boughs_here := Rp.mono s1_ r_boughs_here
    have r_program := Rp.mono s1_ r_program
    have G := G.trans g
    have r_script := Rp.mono g.ff r_script
    have r_depths := Rp.mono g.ff r_depths
    have r_boughs_here := Rp.mono g.ff r_boughs_here
    have r_program := Rp.mono g.ff r_program
    refine hQ_ _ _ ?_
    obtain ⟨o19, ho_, hm⟩ := Option.bind_eq_some_iff.mp hm
    refine go_forM G.fh (ei_range1 ev_int (by rfl) T.n_range) (pg_name (i := 6) sc_law.nd rfl (by first | exact Or.inl rfl | exact Or.inr rfl)) ho_ hm (fun F H g => ?_) PassesOwn.never
    have G := G.trans g
    have r_script := Rp.mono g.ff r_script
    have r_depths := Rp.mono g.ff r_depths
    have r_boughs_here := Rp.mono g.ff r_boughs_here
    have r_program := Rp.mono g.ff r_program
    have r_k := Rp.mono g.ff r_k
    have sb16 := sb16.trans g.ff
    refine ⟨fun (b17 : Unit) σ_ F_ H_ => ∃ (u_l : Option V), σ_ = [some v_script, some (.ref l_depths), some v_k, some v_far, some v_boughs_here, some v_program, u_l] ∧ Gr F0 H0 F_ H_, fun r_ v_ H_ => ∃ F_, Gr F0 H0 F_ H_ ∧ rp K F_ v_ r_, ⟨_, rfl, G⟩, ?_, ?_, ?_⟩
    ·
      intro b17 x_l o_ hm σ_ F H v_l s1_ s2_ iv_ F H g r_l Q_ hQ_
      obtain ⟨u_l, rfl, G⟩ := iv_
      have sb20 := g.ff
      have r_script := Rp.mono s1_ r_script
      have r_depths := Rp.mono s1_ r_depths
      have r_boughs_here := Rp.mono s1_ r_boughs_here
      have r_program := Rp.mono s1_ r_program
      have r_k := Rp.mono s1_ r_k
      have G := G.trans g
      have r_script := Rp.mono g.ff r_script
      have r_depths := Rp.mono g.ff r_depths
      have r_boughs_here := Rp.mono g.ff r_boughs_here
      have r_program := Rp.mono g.ff r_program
      have r_k := Rp.mono g.ff r_k
      refine hQ_ _ _ ?_
      obtain ⟨t21, h_t21, hm⟩ := Option.bind_eq_some_iff.mp hm
      refine go_if (t := (!t21)) G.fh (et_not (et_val (ev_call (ok_pair_stands T) (hr.mono (by omega)) T.g_pair_stands T.F_pair_stands.kp (b_pair_stands T) (ea_cons (ev_var 0 rfl r_script) (ea_cons (ev_var 5 rfl r_program) (ea_cons (ev_var 4 rfl r_boughs_here) (ea_cons (ev_var 1 rfl r_depths) (ea_cons (ev_var 2 rfl r_k) (ea_cons (ev_var 6 rfl r_l) ea_nil)))))) h_t21))) (fun hc F H g => ?_) (fun hc F H g => ?_)
      · replace hm := ipos hc hm
        have G := G.trans g
        have r_script := Rp.mono g.ff r_script
        have r_depths := Rp.mono g.ff r_depths
        have r_boughs_here := Rp.mono g.ff r_boughs_here
        have r_program := Rp.mono g.ff r_program
        have r_k := Rp.mono g.ff r_k
        have r_l := Rp.mono g.ff r_l
        have sb20 := sb20.trans g.ff
        exact go_ret G.fh ev_bl fun v_ F_ H_ g_ rv_ => ⟨_, (Option.some.inj hm).symm, F_, G.trans g_, rv_⟩
      · replace hm := ineg (nt hc) hm
        have G := G.trans g
        have r_script := Rp.mono g.ff r_script
        have r_depths := Rp.mono g.ff r_depths
        have r_boughs_here := Rp.mono g.ff r_boughs_here
        have r_program := Rp.mono g.ff r_program
        have r_k := Rp.mono g.ff r_k
        have r_l := Rp.mono g.ff r_l
        have sb20 := sb20.trans g.ff
        refine GoS.nil ?_
        exact GoS.nil ⟨_, _, (Option.some.inj hm).symm, sb20, G.fh, ⟨_, rfl, G⟩⟩
    · intro b22 hm σ_ F H s1_ s2_ iv_
      obtain ⟨u_l, rfl, G⟩ := iv_
      have sb16 := sb16.trans s1_
      exact GoS.nil ⟨_, _, (Option.some.inj hm).symm, sb16, G.fh, ⟨_, _, rfl, G⟩⟩
    · intro r_ he v_ H_ hv_
      exact ⟨_, (Option.some.inj he).symm, hv_⟩
  · intro b23 hm σ_ F H s1_ s2_ iv_
    obtain ⟨u_l, u_k, rfl, G⟩ := iv_
    exact go_ret G.fh ev_bl fun v_ F_ H_ g_ rv_ => kr _ _ _ (G.trans g_) (cg (Option.some.inj hm) rv_)
  · intro r_ he v_ H_ hv_
    obtain ⟨F_, g_, rv_⟩ := hv_
    exact kr _ _ _ g_ (cg (Option.some.inj he) rv_)
end

def D_cell_at : He.DefD := ⟨("_law_cell_at", none), "_law_cell_at", "_law_cell_at", defArgs s_cell_at, defBody s_cell_at, defScope s_cell_at, [], []⟩
def D_mixed : He.DefD := ⟨("_law_mixed", none), "_law_mixed", "_law_mixed", defArgs s_mixed, defBody s_mixed, defScope s_mixed, [], []⟩
def D_pair : He.DefD := ⟨("_law_pair", none), "_law_pair", "_law_pair", defArgs s_pair, defBody s_pair, defScope s_pair, [], []⟩
def D_bough : He.DefD := ⟨("_law_bough", none), "_law_bough", "_law_bough", defArgs s_bough, defBody s_bough, defScope s_bough, [], []⟩
def D_boughs : He.DefD := ⟨("_law_boughs", none), "_law_boughs", "_law_boughs", defArgs s_boughs, defBody s_boughs, defScope s_boughs, [], []⟩
def D_Number_init : He.DefD := ⟨("Number", some "__init__"), "__init__", "Number.__init__", defArgs s_Number_init, defBody s_Number_init, defScope s_Number_init, [], []⟩
def D_Deed_init : He.DefD := ⟨("Deed", some "__init__"), "__init__", "Deed.__init__", defArgs s_Deed_init, defBody s_Deed_init, defScope s_Deed_init, [], []⟩
def D_deed : He.DefD := ⟨("_law_deed", none), "_law_deed", "_law_deed", defArgs s_deed, defBody s_deed, defScope s_deed, [], []⟩
def D_Program_init : He.DefD := ⟨("Program", some "__init__"), "__init__", "Program.__init__", defArgs s_Program_init, defBody s_Program_init, defScope s_Program_init, [], []⟩
def D_items : He.DefD := ⟨("_law_items", none), "_law_items", "_law_items", defArgs s_items, defBody s_items, defScope s_items, [], []⟩
def D_at : He.DefD := ⟨("_law_at", none), "_law_at", "_law_at", defArgs s_at, defBody s_at, defScope s_at, [], []⟩
def D_turns : He.DefD := ⟨("_law_turns", none), "_law_turns", "_law_turns", defArgs s_turns, defBody s_turns, defScope s_turns, [], []⟩
def D_shared : He.DefD := ⟨("_law_shared", none), "_law_shared", "_law_shared", defArgs s_shared, defBody s_shared, defScope s_shared, [], []⟩
def D_sides : He.DefD := ⟨("_law_sides", none), "_law_sides", "_law_sides", defArgs s_sides, defBody s_sides, defScope s_sides, [], []⟩
def D_stand_within : He.DefD := ⟨("stand_within", none), "stand_within", "stand_within", defArgs s_stand_within, defBody s_stand_within, defScope s_stand_within, [], []⟩
def D_stand : He.DefD := ⟨("stand", none), "stand", "stand", defArgs s_stand, defBody s_stand, defScope s_stand, [], []⟩
def D_sweeps_round : He.DefD := ⟨("sweeps_round", none), "sweeps_round", "sweeps_round", defArgs s_sweeps_round, defBody s_sweeps_round, defScope s_sweeps_round, [], []⟩
def D_time_bonds : He.DefD := ⟨("time_bonds", none), "time_bonds", "time_bonds", defArgs s_time_bonds, defBody s_time_bonds, defScope s_time_bonds, [], []⟩
def D_side_bonds : He.DefD := ⟨("side_bonds", none), "side_bonds", "side_bonds", defArgs s_side_bonds, defBody s_side_bonds, defScope s_side_bonds, [], []⟩
def D_law_time_bonds : He.DefD := ⟨("_law_time_bonds", none), "_law_time_bonds", "_law_time_bonds", defArgs s_law_time_bonds, defBody s_law_time_bonds, defScope s_law_time_bonds, [], []⟩
def D_law_side_bonds : He.DefD := ⟨("_law_side_bonds", none), "_law_side_bonds", "_law_side_bonds", defArgs s_law_side_bonds, defBody s_law_side_bonds, defScope s_law_side_bonds, [], []⟩
def D_whole : He.DefD := ⟨("_law_whole", none), "_law_whole", "_law_whole", defArgs s_whole, defBody s_whole, defScope s_whole, [], []⟩
def D_alike : He.DefD := ⟨("_law_alike", none), "_law_alike", "_law_alike", defArgs s_alike, defBody s_alike, defScope s_alike, [], []⟩
def D_meant : He.DefD := ⟨("_law_meant", none), "_law_meant", "_law_meant", defArgs s_meant, defBody s_meant, defScope s_meant, [], []⟩
def D_hold : He.DefD := ⟨("_law_hold", none), "_law_hold", "_law_hold", defArgs s_hold, defBody s_hold, defScope s_hold, [], []⟩
def D_pair_stands : He.DefD := ⟨("_law_pair_stands", none), "_law_pair_stands", "_law_pair_stands", defArgs s_pair_stands, defBody s_pair_stands, defScope s_pair_stands, [], []⟩
def D_law : He.DefD := ⟨("law", none), "law", "law", defArgs s_law, defBody s_law, defScope s_law, [], []⟩
def fn : List He.DefD := [D_cell_at, D_mixed, D_pair, D_bough, D_boughs, D_Number_init, D_Deed_init, D_deed, D_Program_init, D_items, D_at, D_turns, D_shared, D_sides, D_stand_within, D_stand, D_sweeps_round, D_time_bonds, D_side_bonds, D_law_time_bonds, D_law_side_bonds, D_whole, D_alike, D_meant, D_hold, D_pair_stands, D_law]
def fa : List He.Fa := [.glo "_law_cell_at", .glo "_law_mixed", .glo "_law_pair", .glo "_law_bough", .glo "_law_boughs", .glo "_law_deed", .glo "_law_items", .glo "_law_at", .glo "_law_turns", .glo "_law_shared", .glo "_law_sides", .glo "stand_within", .glo "stand", .glo "sweeps_round", .glo "time_bonds", .glo "side_bonds", .glo "_law_time_bonds", .glo "_law_side_bonds", .glo "_law_whole", .glo "_law_alike", .glo "_law_meant", .glo "_law_hold", .glo "_law_pair_stands", .glo "law", .glo "Program", .cls "Program", .mkr "Program", .noat "Program" "size", .noat "Program" "deeds", .glo "Deed", .cls "Deed", .mkr "Deed", .noat "Deed" "names", .noat "Deed" "lows", .noat "Deed" "highs", .noat "Deed" "table", .noat "Deed" "spots", .noat "Deed" "term", .noat "Deed" "path", .glo "Number", .cls "Number", .mkr "Number", .noat "Number" "n", .free "bool", .free "enumerate", .free "int", .free "isinstance", .free "len", .free "list", .free "max", .free "min", .free "range", .free "tuple"]
abbrev R : PySem.W.OpenRow := PySem.W.OpenLaw.row PySem.Challenge.rw_furrow_k72_bonds_of_sides
def ex (K : PySem.W.Frag) : Bool := true
abbrev hk : PySem.W.Hook := hookE 4 fa fn ex
def ob (s : PySem.W.SharedT) : AlE := obsE 4 fa fn ex (HandSHeadRun.getT s)
theorem ob_eq (s : PySem.W.SharedT) : ob s = hk.obs s.abs := obsE_eq (HandSHeadRun.getT_eq s)
def loose : List Str := ["_wall", "__name__", "Term", "Number", "Deed", "Program", "stand_within", "stand", "sweeps_round", "time_bonds", "side_bonds", "_law_cell_at", "_law_mixed", "_law_items", "_law_pair", "_law_bough", "_law_boughs", "_law_at", "_law_shared", "_law_sides", "_law_time_bonds", "_law_side_bonds", "_law_whole", "_law_deed", "_law_alike", "_law_turns", "_law_hold", "_law_meant", "_law_pair_stands"]
theorem run (w : World) : HandSHeadRun.RunEq R (PySem.W.view R.prog [33]) hk ob 2440 loose w := by
  intro os
  kernel_rfl
theorem facts {K : PySem.W.Frag} {h : Heap} {mg : Str → Option Value} (X : K.In h) (G : h.Ns mainGlobals mg) (c : He.SaysD fa fn K) (cx : ex K = true) : ∃ T : Txt K mg, ∀ (s : Shared) (v : Value), BindsTo s T.d_law ⟨[v], []⟩ [("_law_script", v)] := by
  obtain ⟨d_cell_at, F_cell_at⟩ := c.def_ 0 (d := D_cell_at) rfl
  obtain ⟨d_mixed, F_mixed⟩ := c.def_ 1 (d := D_mixed) rfl
  obtain ⟨d_pair, F_pair⟩ := c.def_ 2 (d := D_pair) rfl
  obtain ⟨d_bough, F_bough⟩ := c.def_ 3 (d := D_bough) rfl
  obtain ⟨d_boughs, F_boughs⟩ := c.def_ 4 (d := D_boughs) rfl
  obtain ⟨d_Number_init, F_Number_init⟩ := c.def_ 5 (d := D_Number_init) rfl
  obtain ⟨d_Deed_init, F_Deed_init⟩ := c.def_ 6 (d := D_Deed_init) rfl
  obtain ⟨d_deed, F_deed⟩ := c.def_ 7 (d := D_deed) rfl
  obtain ⟨d_Program_init, F_Program_init⟩ := c.def_ 8 (d := D_Program_init) rfl
  obtain ⟨d_items, F_items⟩ := c.def_ 9 (d := D_items) rfl
  obtain ⟨d_at, F_at⟩ := c.def_ 10 (d := D_at) rfl
  obtain ⟨d_turns, F_turns⟩ := c.def_ 11 (d := D_turns) rfl
  obtain ⟨d_shared, F_shared⟩ := c.def_ 12 (d := D_shared) rfl
  obtain ⟨d_sides, F_sides⟩ := c.def_ 13 (d := D_sides) rfl
  obtain ⟨d_stand_within, F_stand_within⟩ := c.def_ 14 (d := D_stand_within) rfl
  obtain ⟨d_stand, F_stand⟩ := c.def_ 15 (d := D_stand) rfl
  obtain ⟨d_sweeps_round, F_sweeps_round⟩ := c.def_ 16 (d := D_sweeps_round) rfl
  obtain ⟨d_time_bonds, F_time_bonds⟩ := c.def_ 17 (d := D_time_bonds) rfl
  obtain ⟨d_side_bonds, F_side_bonds⟩ := c.def_ 18 (d := D_side_bonds) rfl
  obtain ⟨d_law_time_bonds, F_law_time_bonds⟩ := c.def_ 19 (d := D_law_time_bonds) rfl
  obtain ⟨d_law_side_bonds, F_law_side_bonds⟩ := c.def_ 20 (d := D_law_side_bonds) rfl
  obtain ⟨d_whole, F_whole⟩ := c.def_ 21 (d := D_whole) rfl
  obtain ⟨d_alike, F_alike⟩ := c.def_ 22 (d := D_alike) rfl
  obtain ⟨d_meant, F_meant⟩ := c.def_ 23 (d := D_meant) rfl
  obtain ⟨d_hold, F_hold⟩ := c.def_ 24 (d := D_hold) rfl
  obtain ⟨d_pair_stands, F_pair_stands⟩ := c.def_ 25 (d := D_pair_stands) rfl
  obtain ⟨d_law, F_law⟩ := c.def_ 26 (d := D_law) rfl
  have b := FunD.bindsA (ps := ["_law_script"]) F_law fun _ _ _ _ _ _ us hl => match us, hl with | [_], _ => rfl
  exact ⟨⟨d_cell_at, F_cell_at, He.glo_ok X G (c.fact 0 (f := .glo "_law_cell_at") rfl),
    d_mixed, F_mixed, He.glo_ok X G (c.fact 1 (f := .glo "_law_mixed") rfl),
    d_pair, F_pair, He.glo_ok X G (c.fact 2 (f := .glo "_law_pair") rfl),
    d_bough, F_bough, He.glo_ok X G (c.fact 3 (f := .glo "_law_bough") rfl),
    d_boughs, F_boughs, He.glo_ok X G (c.fact 4 (f := .glo "_law_boughs") rfl),
    d_Number_init, F_Number_init,
    d_Deed_init, F_Deed_init,
    d_deed, F_deed, He.glo_ok X G (c.fact 5 (f := .glo "_law_deed") rfl),
    d_Program_init, F_Program_init,
    d_items, F_items, He.glo_ok X G (c.fact 6 (f := .glo "_law_items") rfl),
    d_at, F_at, He.glo_ok X G (c.fact 7 (f := .glo "_law_at") rfl),
    d_turns, F_turns, He.glo_ok X G (c.fact 8 (f := .glo "_law_turns") rfl),
    d_shared, F_shared, He.glo_ok X G (c.fact 9 (f := .glo "_law_shared") rfl),
    d_sides, F_sides, He.glo_ok X G (c.fact 10 (f := .glo "_law_sides") rfl),
    d_stand_within, F_stand_within, He.glo_ok X G (c.fact 11 (f := .glo "stand_within") rfl),
    d_stand, F_stand, He.glo_ok X G (c.fact 12 (f := .glo "stand") rfl),
    d_sweeps_round, F_sweeps_round, He.glo_ok X G (c.fact 13 (f := .glo "sweeps_round") rfl),
    d_time_bonds, F_time_bonds, He.glo_ok X G (c.fact 14 (f := .glo "time_bonds") rfl),
    d_side_bonds, F_side_bonds, He.glo_ok X G (c.fact 15 (f := .glo "side_bonds") rfl),
    d_law_time_bonds, F_law_time_bonds, He.glo_ok X G (c.fact 16 (f := .glo "_law_time_bonds") rfl),
    d_law_side_bonds, F_law_side_bonds, He.glo_ok X G (c.fact 17 (f := .glo "_law_side_bonds") rfl),
    d_whole, F_whole, He.glo_ok X G (c.fact 18 (f := .glo "_law_whole") rfl),
    d_alike, F_alike, He.glo_ok X G (c.fact 19 (f := .glo "_law_alike") rfl),
    d_meant, F_meant, He.glo_ok X G (c.fact 20 (f := .glo "_law_meant") rfl),
    d_hold, F_hold, He.glo_ok X G (c.fact 21 (f := .glo "_law_hold") rfl),
    d_pair_stands, F_pair_stands, He.glo_ok X G (c.fact 22 (f := .glo "_law_pair_stands") rfl),
    d_law, F_law, He.glo_ok X G (c.fact 23 (f := .glo "law") rfl),
    He.glo_ok X G (c.fact 24 (f := .glo "Program") rfl), He.cls_ok (c.fact 25 (f := .cls "Program") rfl), He.mkr_ok (c.fact 26 (f := .mkr "Program") rfl),
    He.noat_ok (c.fact 27 (f := .noat "Program" "size") rfl),
    He.noat_ok (c.fact 28 (f := .noat "Program" "deeds") rfl),
    He.glo_ok X G (c.fact 29 (f := .glo "Deed") rfl), He.cls_ok (c.fact 30 (f := .cls "Deed") rfl), He.mkr_ok (c.fact 31 (f := .mkr "Deed") rfl),
    He.noat_ok (c.fact 32 (f := .noat "Deed" "names") rfl),
    He.noat_ok (c.fact 33 (f := .noat "Deed" "lows") rfl),
    He.noat_ok (c.fact 34 (f := .noat "Deed" "highs") rfl),
    He.noat_ok (c.fact 35 (f := .noat "Deed" "table") rfl),
    He.noat_ok (c.fact 36 (f := .noat "Deed" "spots") rfl),
    He.noat_ok (c.fact 37 (f := .noat "Deed" "term") rfl),
    He.noat_ok (c.fact 38 (f := .noat "Deed" "path") rfl),
    He.glo_ok X G (c.fact 39 (f := .glo "Number") rfl), He.cls_ok (c.fact 40 (f := .cls "Number") rfl), He.mkr_ok (c.fact 41 (f := .mkr "Number") rfl),
    He.noat_ok (c.fact 42 (f := .noat "Number" "n") rfl),
    He.free_ok X G (c.fact 43 (f := .free "bool") rfl),
    He.free_ok X G (c.fact 44 (f := .free "enumerate") rfl),
    He.free_ok X G (c.fact 45 (f := .free "int") rfl),
    He.free_ok X G (c.fact 46 (f := .free "isinstance") rfl),
    He.free_ok X G (c.fact 47 (f := .free "len") rfl),
    He.free_ok X G (c.fact 48 (f := .free "list") rfl),
    He.free_ok X G (c.fact 49 (f := .free "max") rfl),
    He.free_ok X G (c.fact 50 (f := .free "min") rfl),
    He.free_ok X G (c.fact 51 (f := .free "range") rfl),
    He.free_ok X G (c.fact 52 (f := .free "tuple") rfl)⟩, fun s v => b s [v] rfl⟩
def spLaw (K : PySem.W.Frag) : Sp := Pr K fun (a_ : List Int × Unit) => m_law a_.1
theorem sp_true {K : PySem.W.Frag} (H : Hp) (a : Addr) (ns : List Int) (hS : SqL K H a (ns.map V.int)) (ht : m_law ns = some true) : spLaw K [.ref a] H (fun v _ => v = .bl true) fun _ _ _ => False :=
  ⟨H, (ns, ()), true, L2.Same.refl H, ⟨.ref a, [], rfl, ⟨a, _, rfl, hS, Rps.of_ints ns⟩, rfl⟩, ht, fun _ _ _ _ r => r⟩

end Law
open PySem PySem.W PySem.Calls PyProof.Rows
theorem PySem.Challenge.cw_furrow_k72_bonds_of_sides_holds : PySem.Challenge.rw_furrow_k72_bonds_of_sides.Holds := by
  w_on; o_law
  refine HandSHeadRun.head_any (r := OpenLaw.row PySem.Challenge.rw_furrow_k72_bonds_of_sides) (q := view (OpenLaw.row PySem.Challenge.rw_furrow_k72_bonds_of_sides).prog [33]) (H := Law.hk) (ob := Law.ob) (M := 2440) (loose := Law.loose) (d := HandSHeadRun.topDef (OpenLaw.row PySem.Challenge.rw_furrow_k72_bonds_of_sides).prog 33) (kwd := []) Law.ob_eq
    (by kernel_rfl) (fun s => by kernel_rfl) Law.run (by kernel_rfl) (by kernel_rfl) (by kernel_rfl) (by rfl) (by first | assumption | decide +kernel) (by decide +kernel) ⟨rfl, rfl, rfl, rfl, rfl, by decide +kernel⟩ ?hw ?hc
  case hw => w_witness2
  case hc =>
    refine L2.walk_ofE (l := PySem.Challenge.rw_furrow_k72_bonds_of_sides) (n := 63) (k := 15) (x := "_law_script") (CX := L2.CX0) rfl (by decide) (by kernel_rfl) ⟨rfl, by decide, by decide⟩ ?F (fun _ _ _ _ z => z)
    intro w mg fa h Y G hmg0
    obtain ⟨K, KX, c, cx⟩ := Y
    have hmg : mg ("law" : PySem.Str) = some (.ref fa) := by
      have e : (HandSHeadRun.topDef (OpenLaw.row PySem.Challenge.rw_furrow_k72_bonds_of_sides).prog 33).name = ("law" : PySem.Str) := by kernel_rfl
      rw [← e]
      exact hmg0
    obtain ⟨T, hb⟩ := Law.facts KX G c cx
    have e := hmg.symm.trans T.g_law
    cases e
    exact ⟨K, T.d_law, Law.spLaw K, KX, hb, fun H a ns hl _ hS => Law.sp_true H a ns hS (Law.law_true ns hl), fun base _ _ => Law.ok_law T⟩

