import PyProof.Rows.All
import HandS.Nested
import Wide.All
import OpenK.AllK
import Wide.FinOn
import HandS.ForMost
import HandS.ForExc
import HandS.IsInst
import HandS.Iter
import HandS.Wide
import PyProof.StrBlock2
import HandS.Defaults
import HandS.TupAny
import HandS.Codes
import HandS.Zip
import HandS.Rev
import HandS.RevRange
import HandS.Deep
import HandS.Strs
import HandS.More
import HandS.TupLen
import HandS.DictComp
import HandS.Words
import HandS.WordsExc
import HandS.Head0
import HandS.Head1
import HandS.Head2
import HandS.HeadEnd
import HandS.HeadHook1
import HandS.HeadHook2
import HandS.TupMul
import KE.KDictList
import HandS.Conv
import HandS.TryOnly
import HandS.DictTup
import PyProof.NeKinds
import KE.GoesEnum
import PyProof.EnumMake
import HandS.SortInts
import HandS.Exc
import HandS.ExcInit
import HandS.ExcField
import HandS.ExcOwn
import HandS.TryMany
import HandS.NestedK
import HandS.HeadHook4
import HandS.HeadWalk
import HandS.ExcIs
import HandS.Flt
import KE.SortKeyHeap
import HandS.HotCalls
import KE.GoesMore
import HandS.TupLe
import KE.DataMinMax
import HandS.ListItems
import KE.KDictCopyH
import HandS.StrMore
import HandS.ReplaceLit
import HandS.ReplaceList
import HandS.SetKeys
import PyProof.StrReplace2
import KE.KStateDown
import PySem.Challenge.RW_furrow_k32_too_many
set_option Elab.async false
set_option linter.all false
set_option maxRecDepth 100000
set_option maxHeartbeats 40000000
namespace Gx
open PySem
def nmG : Nat → Nat → Str := fun _ _ => ""
def tabsG : PySem.W.Frag → List Addr := fun _ => []
end Gx
namespace Gx
open PySem PySem.Spec PyProof.Rows L2
class Rp (α : Type) where
  rp : PySem.W.Frag → Hp → V → α → Prop
  mono : ∀ {K : PySem.W.Frag} {F F' : Hp} {v : V} {x : α}, L2.Same F F' → rp K F v x → rp K F' v x
open Rp (rp)
instance : Rp Int := ⟨fun _ _ v x => v = .int x, fun _ h => h⟩
instance : Rp Bool := ⟨fun _ _ v x => v = .bl x, fun _ h => h⟩
instance : Rp Str := ⟨fun _ _ v x => v = .str x, fun _ h => h⟩
instance : Rp Unit := ⟨fun _ _ v _ => v = .non, fun _ h => h⟩
abbrev Rps {α : Type} [Rp α] (K : PySem.W.Frag) (F : Hp) : List V → List α → Prop := Paired (fun v x => rp K F v x)
theorem Rps.mono {α : Type} [Rp α] {K : PySem.W.Frag} {F F' : Hp} {vs : List V} {xs : List α} (s : L2.Same F F') (h : Rps K F vs xs) : Rps K F' vs xs := L2.Paired.mapP h fun _ _ => Rp.mono s
def TupF (F : Hp) (a : Addr) (xs : List V) : Prop := F a = some (.tup xs)
theorem tupF_mono {H H' : Hp} {a : Addr} {xs : List V} (e : L2.Same H H') (h : TupF H a xs) : TupF H' a xs := e _ _ h
theorem seqT_mono {K : PySem.W.Frag} {H H' : Hp} {a : Addr} {xs : List V} (e : L2.Same H H') (h : TupF H a xs) : SqT K H' a xs := SqT.of (e _ _ h)
theorem sqT_mono {K : PySem.W.Frag} {H H' : Hp} {a : Addr} {xs : List V} (e : L2.Same H H') (h : SqT K H a xs) : SqT K H' a xs := by
  rcases h with (h | ⟨o, h⟩) | h
  · exact .inl (.inl (e _ _ h))
  · exact .inl (.inr ⟨o, e _ _ h⟩)
  · exact .inr h
instance {α : Type} [Rp α] : Rp (List α) := ⟨fun K F v xs => ∃ a vs, v = .ref a ∧ SqL K F a vs ∧ Rps K F vs xs, fun s ⟨a, vs, e, q, r⟩ => ⟨a, vs, e, s.seq q, r.mono s⟩⟩
structure Tp (α : Type) where
  l : List α
  deriving DecidableEq
instance {α : Type} [Rp α] : Rp (Tp α) := ⟨fun K F v xs => ∃ a vs, v = .ref a ∧ TupF F a vs ∧ Rps K F vs xs.l, fun s ⟨a, vs, e, q, r⟩ => ⟨a, vs, e, tupF_mono s q, r.mono s⟩⟩
structure Ct (α : Type) where
  l : List α
  deriving DecidableEq
instance {α : Type} [Rp α] : Rp (Ct α) := ⟨fun K F v xs => ∃ a vs, v = .ref a ∧ SqT K F a vs ∧ Rps K F vs xs.l, fun s ⟨a, vs, e, q, r⟩ => ⟨a, vs, e, sqT_mono s q, r.mono s⟩⟩
structure Tn (α : Type) where
  l : List α
  deriving DecidableEq
instance {α : Type} [Rp α] : Rp (Tn α) := ⟨fun K F v xs => ∃ a vs o, v = .ref a ∧ F a = some (.frz o (.tup vs)) ∧ o.dict = none ∧ o.cls = .type "tuple" ∧ Rps K F vs xs.l, fun s ⟨a, vs, o, e, q, d, c, r⟩ => ⟨a, vs, o, e, s _ _ q, d, c, r.mono s⟩⟩
class TL (θ : Type) (α : outParam Type) [Rp θ] [Rp α] where
  l : θ → List α
  sq : ∀ {K : PySem.W.Frag} {F : Hp} {v : V} {x : θ}, rp K F v x → ∃ a vs, v = .ref a ∧ SqT K F a vs ∧ Rps K F vs (l x)
instance {α : Type} [Rp α] : TL (Tp α) α := ⟨Tp.l, fun ⟨a, vs, e, q, r⟩ => ⟨a, vs, e, SqT.of q, r⟩⟩
instance {α : Type} [Rp α] : TL (Ct α) α := ⟨Ct.l, fun ⟨a, vs, e, q, r⟩ => ⟨a, vs, e, q, r⟩⟩
instance {α : Type} [Rp α] : TL (Tn α) α := ⟨Tn.l, fun ⟨a, vs, o, e, q, _, _, r⟩ => ⟨a, vs, e, .inl (.inr ⟨o, q⟩), r⟩⟩
class Ra (τ : Type) where
  ra : PySem.W.Frag → Hp → List V → τ → Prop
  mono : ∀ {K : PySem.W.Frag} {F F' : Hp} {v : List V} {x : τ}, L2.Same F F' → ra K F v x → ra K F' v x
open Ra (ra)
instance : Ra Unit := ⟨fun _ _ vs _ => vs = [], fun _ h => h⟩
instance {α τ : Type} [Rp α] [Ra τ] : Ra (α × τ) := ⟨fun K F vs x => ∃ v r, vs = v :: r ∧ rp K F v x.1 ∧ ra K F r x.2, fun s ⟨v, r, e, p, q⟩ => ⟨v, r, e, Rp.mono s p, Ra.mono s q⟩⟩
structure T1 (α : Type) where
  a : α
  deriving DecidableEq
structure T2 (α β : Type) where
  a : α
  b : β
  deriving DecidableEq
structure T3 (α β γ : Type) where
  a : α
  b : β
  c : γ
  deriving DecidableEq
structure T4 (α β γ δ : Type) where
  a : α
  b : β
  c : γ
  d : δ
  deriving DecidableEq
structure T5 (α β γ δ ε : Type) where
  a : α
  b : β
  c : γ
  d : δ
  e : ε
  deriving DecidableEq
class Tpl (θ : Type) (τ : outParam Type) where
  row : θ → τ
abbrev T1.row {α : Type} (x : T1 α) : α × Unit := (x.a, ())
abbrev T2.row {α β : Type} (x : T2 α β) : α × β × Unit := (x.a, x.b, ())
abbrev T3.row {α β γ : Type} (x : T3 α β γ) : α × β × γ × Unit := (x.a, x.b, x.c, ())
abbrev T4.row {α β γ δ : Type} (x : T4 α β γ δ) : α × β × γ × δ × Unit := (x.a, x.b, x.c, x.d, ())
abbrev T5.row {α β γ δ ε : Type} (x : T5 α β γ δ ε) : α × β × γ × δ × ε × Unit := (x.a, x.b, x.c, x.d, x.e, ())
def rpT {θ τ : Type} [Ra τ] (row : θ → τ) (K : PySem.W.Frag) (F : Hp) (v : V) (x : θ) : Prop := ∃ a vs, v = .ref a ∧ TupF F a vs ∧ ra K F vs (row x)
theorem rpT.mono {θ τ : Type} [Ra τ] {row : θ → τ} {K : PySem.W.Frag} {F F' : Hp} {v : V} {x : θ} (s : L2.Same F F') : rpT row K F v x → rpT row K F' v x := fun ⟨a, vs, e, q, r⟩ => ⟨a, vs, e, tupF_mono s q, Ra.mono s r⟩
instance {α : Type} [Rp α] : Rp (T1 α) := ⟨rpT T1.row, rpT.mono⟩
instance {α β : Type} [Rp α] [Rp β] : Rp (T2 α β) := ⟨rpT T2.row, rpT.mono⟩
instance {α β γ : Type} [Rp α] [Rp β] [Rp γ] : Rp (T3 α β γ) := ⟨rpT T3.row, rpT.mono⟩
instance {α β γ δ : Type} [Rp α] [Rp β] [Rp γ] [Rp δ] : Rp (T4 α β γ δ) := ⟨rpT T4.row, rpT.mono⟩
instance {α β γ δ ε : Type} [Rp α] [Rp β] [Rp γ] [Rp δ] [Rp ε] : Rp (T5 α β γ δ ε) := ⟨rpT T5.row, rpT.mono⟩
class NN (α : Type) [Rp α] : Prop where
  nn : ∀ {K : PySem.W.Frag} {F : Hp} {x : α}, ¬ rp K F V.non x
instance : NN Int := ⟨fun h => nomatch h⟩
instance : NN Bool := ⟨fun h => nomatch h⟩
instance : NN Str := ⟨fun h => nomatch h⟩
instance {α : Type} [Rp α] : NN (List α) := ⟨fun ⟨_, _, e, _⟩ => nomatch e⟩
instance {α : Type} [Rp α] : NN (Tp α) := ⟨fun ⟨_, _, e, _⟩ => nomatch e⟩
instance {α : Type} [Rp α] : NN (Tn α) := ⟨fun ⟨_, _, _, e, _⟩ => nomatch e⟩
theorem rpT.nn {θ τ : Type} [Ra τ] {row : θ → τ} {K : PySem.W.Frag} {F : Hp} {x : θ} : ¬ rpT row K F .non x := fun ⟨_, _, e, _⟩ => nomatch e
instance {α : Type} [Rp α] : NN (T1 α) := ⟨rpT.nn⟩
instance {α β : Type} [Rp α] [Rp β] : NN (T2 α β) := ⟨rpT.nn⟩
instance {α β γ : Type} [Rp α] [Rp β] [Rp γ] : NN (T3 α β γ) := ⟨rpT.nn⟩
instance {α β γ δ : Type} [Rp α] [Rp β] [Rp γ] [Rp δ] : NN (T4 α β γ δ) := ⟨rpT.nn⟩
instance {α β γ δ ε : Type} [Rp α] [Rp β] [Rp γ] [Rp δ] [Rp ε] : NN (T5 α β γ δ ε) := ⟨rpT.nn⟩
def rpO {α : Type} [Rp α] (K : PySem.W.Frag) (F : Hp) (v : V) : Option α → Prop
  | none => v = .non
  | some x => rp K F v x
instance {α : Type} [Rp α] [NN α] : Rp (Option α) := ⟨rpO, fun {K F F' v x} s h => by
  cases x with
  | none => exact h
  | some x => exact Rp.mono (α := α) s h⟩
theorem rp_isNone {α : Type} [Rp α] [NN α] {K : PySem.W.Frag} {F : Hp} {v : V} : ∀ {x : Option α}, rp K F v x → decide (v = .non) = x.isNone
  | none, h => by
    have e : v = .non := h
    rw [e]; rfl
  | some x, h => by
    have e : ¬ v = .non := fun e => by
      subst e
      exact NN.nn (α := α) h
    rw [decide_eq_false e]; rfl
def lstish : HO → Prop
  | .tup _ => False
  | .frz _ (.tup _) => False
  | .ext _ => False
  | _ => True
def ntb : HO → Prop
  | .tbl _ => False
  | _ => True
def pln : HO → Prop
  | .tbl _ => False
  | .ext _ => False
  | _ => True
theorem pln.ntb {o : HO} (h : pln o) : ntb o := by cases o <;> first | trivial | exact h
def GdT (H : Hp) (P : Addr) : Prop := ∃ ps : Array Value, H P = some (.tbl ps) ∧ TriplesOk ps.toList ∧ ∀ (pos : Pos) (cv : Value), codeAmong pos ps.toList = some cv → ∃ c, cv = .ref c ∧ H c = some (LamX.CodeO c (nmG pos.line pos.col))
structure Xt (H H' : Hp) : Prop where
  k : ∀ b o, H b = some o → ntb o → H' b = some o
  t : ∀ b ps, H b = some (.tbl ps) → ∃ qs, H' b = some (.tbl qs)
  w : ∀ P, GdT H P → GdT H' P
theorem Xt.refl (H : Hp) : Xt H H := ⟨fun _ _ h _ => h, fun _ _ h => ⟨_, h⟩, fun _ h => h⟩
theorem Xt.trans {H H1 H2 : Hp} (a : Xt H H1) (b : Xt H1 H2) : Xt H H2 := ⟨fun c o h n => b.k c o (a.k c o h n) n, fun c ps h => by
  obtain ⟨qs, h⟩ := a.t c ps h
  exact b.t c qs h, fun P h => b.w P (a.w P h)⟩
theorem Xt.free {H H' : Hp} (a : Xt H H') {p : Addr} (h : H' p = none) : H p = none := by
  cases e : H p with
  | none => rfl
  | some o =>
    cases o with
    | tbl ps =>
      obtain ⟨qs, z⟩ := a.t p ps e
      rw [h] at z; cases z
    | _ => have z := a.k p _ e trivial; rw [h] at z; cases z
theorem Xt.same {H H' : Hp} (s : L2.Same H H') : Xt H H' := ⟨fun b o h _ => s b o h, fun b ps h => ⟨ps, s b _ h⟩, fun P ⟨ps, e, h1, h2⟩ =>
  ⟨ps, s _ _ e, h1, fun pos cv hc => let ⟨c, e1, e2⟩ := h2 pos cv hc; ⟨c, e1, s _ _ e2⟩⟩⟩
theorem Xt.upd {H : Hp} {p : Addr} {o : HO} (hp : H p = none) (_ : ntb o) : Xt H (upd H p o) := .same fun b u e => by rw [upd_ne (ne_of_none e hp)]; exact e
def PlAt (H : Hp) (l : Addr) : Prop := ∃ o, H l = some o ∧ pln o
theorem codeO_pl {c : Addr} {q : Str} {o : HO} (h : o = LamX.CodeO c q) : ¬ pln o := by rw [h]; exact id
theorem GdT.ne {H : Hp} {l P : Addr} (a : GdT H P) (h : PlAt H l) : P ≠ l := fun z => by
  obtain ⟨o, ho, po⟩ := h
  obtain ⟨ps, e, _⟩ := a
  rw [z, ho] at e; cases e; exact po
theorem GdT.but {H H' : Hp} {l P : Addr} (a : GdT H P) (h : PlAt H l) (k : ∀ b, b ≠ l → H' b = H b) : GdT H' P := by
  have hP := a.ne h
  obtain ⟨o, ho, po⟩ := h
  obtain ⟨ps, e, h1, h2⟩ := a
  refine ⟨ps, (k P hP).trans e, h1, fun pos cv hc => ?_⟩
  obtain ⟨c, e1, e2⟩ := h2 pos cv hc
  refine ⟨c, e1, (k c fun z => ?_).trans e2⟩
  subst z; rw [ho] at e2; exact codeO_pl (Option.some.inj e2) po
theorem GdT.upd {H : Hp} {l P : Addr} {u : HO} (a : GdT H P) (h : PlAt H l) (_ : ntb u) : GdT (upd H l u) P := a.but h fun _ hb => upd_ne hb
theorem Xt.poke {H0 H : Hp} {l : Addr} {u : HO} (x : Xt H0 H) (n : H0 l = none) (h : PlAt H l) (no : ntb u) : Xt H0 (L2.upd H l u) := ⟨fun b o e ns => by
  rw [upd_ne (ne_of_none e n)]; exact x.k b o e ns, fun b ps e => by
  rw [upd_ne (ne_of_none e n)]; exact x.t b ps e, fun P a => (x.w P a).upd h no⟩
structure Gr (F H F' H' : Hp) : Prop where
  ff : L2.Same F F'
  fh : L2.Same F' H'
  hh : Xt H H'
  fr : ∀ a o, H a = some o → lstish o → F' a = F a
theorem Gr.refl {F H : Hp} (s : L2.Same F H) : Gr F H F H := ⟨.refl _, s, .refl _, fun _ _ _ _ => rfl⟩
theorem Gr.trans {F H F1 H1 F2 H2 : Hp} (a : Gr F H F1 H1) (b : Gr F1 H1 F2 H2) : Gr F H F2 H2 :=
  ⟨a.ff.trans b.ff, b.fh, a.hh.trans b.hh, fun c o h n => by
    cases o with
    | tbl ps =>
      obtain ⟨qs, h2⟩ := a.hh.t c ps h
      rw [b.fr c _ h2 trivial, a.fr c _ h trivial]
    | _ => rw [b.fr c _ (a.hh.k c _ h trivial) n, a.fr c _ h n]⟩
theorem Gr.new {F H : Hp} {p : Addr} {o : HO} (s : L2.Same F H) (hp : H p = none) (no : ntb o := by trivial) : Gr F H (upd F p o) (upd H p o) := by
  have fp : F p = none := s.free hp
  refine ⟨fun b u e => ?_, fun b u e => ?_, .upd hp no, fun a o h _ => ?_⟩
  · rw [upd_ne (ne_of_none e fp)]; exact e
  · by_cases hb : b = p
    · subst hb; rw [upd_same] at e ⊢; exact e
    · rw [upd_ne hb] at e ⊢; exact s _ _ e
  · by_cases hb : a = p
    · subst hb; rw [hp] at h; cases h
    · rw [upd_ne hb]
theorem Gr.newP {F H : Hp} {p : Addr} {o : HO} (s : L2.Same F H) (hp : H p = none) (no : ntb o := by trivial) : Gr F H F (upd H p o) := by
  refine ⟨.refl _, fun b u e => ?_, .upd hp no, fun a o h _ => rfl⟩
  rw [upd_ne (ne_of_none (s _ _ e) hp)]; exact s _ _ e
structure HasT (K : PySem.W.Frag) (F H : Hp) : Prop where
  t : ∀ P ∈ tabsG K, GdT H P ∧ F P = none
theorem HasT.up {K : PySem.W.Frag} {F H F' H' : Hp} (h : HasT K F H) (g : Gr F H F' H') : HasT K F' H' := ⟨fun P hP => by
  obtain ⟨a, f⟩ := h.t P hP
  obtain ⟨ps, e, _⟩ := id a
  exact ⟨g.hh.w P a, (g.fr P _ e trivial).trans f⟩⟩
structure SmX (K : PySem.W.Frag) (F H : Hp) : Prop where
  s : L2.Same F H
  h : HasT K F H
structure GrX (K : PySem.W.Frag) (F H F' H' : Hp) : Prop extends Gr F H F' H' where
  h : HasT K F' H'
section
variable {K : PySem.W.Frag} {F H F1 H1 F2 H2 : Hp}
instance : CoeOut (GrX K F H F1 H1) (Gr F H F1 H1) := ⟨GrX.toGr⟩
theorem GrX.refl (s : SmX K F H) : GrX K F H F H := ⟨.refl s.s, s.h⟩
theorem GrX.sm (g : GrX K F H F1 H1) : SmX K F1 H1 := ⟨g.fh, g.h⟩
theorem GrX.trans (g : GrX K F H F1 H1) (g2 : Gr F1 H1 F2 H2) : GrX K F H F2 H2 := ⟨g.toGr.trans g2, g.h.up g2⟩
theorem GrX.pre (g : Gr F H F1 H1) (g2 : GrX K F1 H1 F2 H2) : GrX K F H F2 H2 := ⟨g.trans g2.toGr, g2.h⟩
theorem SmX.gx (s : SmX K F H) (g : Gr F H F1 H1) : GrX K F H F1 H1 := ⟨g, s.h.up g⟩
theorem HasT.upd {l : Addr} {u v : HO} (h : HasT K F H) (pl : PlAt H l) (no : ntb u) : HasT K F (L2.upd H l u) ∧ HasT K (L2.upd F l v) (L2.upd H l u) :=
  ⟨⟨fun P hP => ⟨(h.t P hP).1.upd pl no, (h.t P hP).2⟩⟩, ⟨fun P hP => ⟨(h.t P hP).1.upd pl no, by rw [upd_ne ((h.t P hP).1.ne pl)]; exact (h.t P hP).2⟩⟩⟩
theorem SmX.up (s : SmX K F H) (g : Gr F H F1 H1) : SmX K F1 H1 := ⟨g.fh, s.h.up g⟩
end
structure Bx (p : Prop) : Prop where
  o : p
def GoE (X : Cx) (e : Expr) : TE := fun σ H Q => Bx (∀ pins s, Inv X pins σ H s → wpAny (model X.prog X.w) X.A (eval e X.env) (EP X pins σ Q) X.xe s)
def GoT (X : Cx) (e : Expr) : TT := fun σ H Q => Bx (∀ pins s, Inv X pins σ H s → wpAny (model X.prog X.w) X.A (isTrue e X.env (eval e X.env)) (TP X pins σ Q) X.xe s)
def GoA (X : Cx) (es : List Expr) : TA := fun σ H Q => Bx (∀ pos pins s, Inv X pins σ H s → wpAny (model X.prog X.w) X.A (spliced (backTo pos (starEach es X.env))) (AP X pins σ Q) X.xe s)
def GoS (X : Cx) (st : List Stmt) : TS := fun D σ H => Bx (∀ pins s, Inv X pins σ H s → wpAny (model X.prog X.w) X.A (execs st X.env) (SP X pins D) X.xe s)
def GoI (X : Cx) (tg iter : Expr) : TI := fun σ H R => Bx (∀ pins s, Inv X pins σ H s → wpAny (model X.prog X.w) X.A (eval iter X.env) (fun v s1 => wpAny (model X.prog X.w) X.A (pyIter v) (PIE X pins σ tg R) X.xe s1) X.xe s)
section
variable {X : Cx} {e : Expr} {es : List Expr} {st : Stmt} {sts rest : List Stmt} {σ : L2.St} {F H : Hp} {D : Ends}
theorem pe_go : PE X e (GoE X e) := ⟨fun pins s σ H Q I h => h.o pins s I⟩
theorem pt_go : PT X e (GoT X e) := ⟨fun pins s σ H Q I h => h.o pins s I⟩
theorem pa_go : PA X es (GoA X es) := ⟨fun pos pins s σ H Q I h => h.o pos pins s I⟩
theorem pss_go : PSs X sts (GoS X sts) := ⟨fun pins s σ H D I h => h.o pins s I⟩
theorem pi_go {tg iter : Expr} : PI X tg iter (GoI X tg iter) := ⟨fun pins s σ H R I h => h.o pins s I⟩
theorem GoE.of {t : TE} {Q : VK} (p : PE X e t) (h : t σ H Q) : GoE X e σ H Q := ⟨fun pins s I => p.run pins s σ H Q I h⟩
theorem GoT.of {t : TT} {Q : Bool → Hp → Prop} (p : PT X e t) (h : t σ H Q) : GoT X e σ H Q := ⟨fun pins s I => p.run pins s σ H Q I h⟩
theorem GoA.of {t : TA} {Q : List V → Hp → Prop} (p : PA X es t) (h : t σ H Q) : GoA X es σ H Q := ⟨fun pos pins s I => p.run pos pins s σ H Q I h⟩
theorem GoI.of {tg iter : Expr} {t : TI} {R : It → Hp → Prop} (p : PI X tg iter t) (h : t σ H R) : GoI X tg iter σ H R := ⟨fun pins s I => p.run pins s σ H R I h⟩
theorem GoS.of {t : TS} (p : PSs X sts t) (h : t D σ H) : GoS X sts D σ H := ⟨fun pins s I => p.run pins s σ H D I h⟩
theorem GoS.cons {t : TS} (p : PS X st t) (h : t { D with nx := GoS X rest D } σ H) : GoS X (st :: rest) D σ H := GoS.of (pss_cons p pss_go) h
theorem GoS.nil (h : D.nx σ H) : GoS X [] D σ H := GoS.of pss_nil h
theorem GoS.mono {D' : Ends} (h : GoS X sts D σ H) (n : ∀ σ H, D.nx σ H → D'.nx σ H) (r : ∀ v H, D.rt v H → D'.rt v H) (b : ∀ σ H, D.bk σ H → D'.bk σ H) (c : ∀ σ H, D.ct σ H → D'.ct σ H) : GoS X sts D' σ H := .mk fun pins s I =>
  thn (h.o pins s I) fun f s' q => by
    cases f with
    | next => obtain ⟨σ', H', I, q⟩ := q; exact ⟨σ', H', I, n _ _ q⟩
    | brk => obtain ⟨σ', H', I, q⟩ := q; exact ⟨σ', H', I, b _ _ q⟩
    | cont => obtain ⟨σ', H', I, q⟩ := q; exact ⟨σ', H', I, c _ _ q⟩
    | ret u => obtain ⟨v, σ', H', I, r', q⟩ := q; exact ⟨v, σ', H', I, r', r _ _ q⟩
def Ev {α : Type} [Rp α] (X : Cx) (e : Expr) (σ : L2.St) (F H : Hp) (x : α) : Prop := ∀ F1 H1, GrX X.K F H F1 H1 → ∀ Q : VK, (∀ v F2 H2, Gr F1 H1 F2 H2 → rp X.K F2 v x → Q v H2) → GoE X e σ H1 Q
def EvT (X : Cx) (e : Expr) (σ : L2.St) (F H : Hp) (b : Bool) : Prop := ∀ F1 H1, GrX X.K F H F1 H1 → ∀ Q : Bool → Hp → Prop, (∀ F2 H2, Gr F1 H1 F2 H2 → Q b H2) → GoT X e σ H1 Q
def EvA {τ : Type} [Ra τ] (X : Cx) (es : List Expr) (σ : L2.St) (F H : Hp) (x : τ) : Prop := ∀ F1 H1, GrX X.K F H F1 H1 → ∀ Q : List V → Hp → Prop, (∀ vs F2 H2, Gr F1 H1 F2 H2 → ra X.K F2 vs x → Q vs H2) → GoA X es σ H1 Q
theorem Ev.up {α : Type} [Rp α] {x : α} {F' H' : Hp} (h : Ev X e σ F H x) (g : Gr F H F' H') : Ev X e σ F' H' x := fun F1 H1 g1 => h F1 H1 (.pre g g1)
theorem EvT.up {b : Bool} {F' H' : Hp} (h : EvT X e σ F H b) (g : Gr F H F' H') : EvT X e σ F' H' b := fun F1 H1 g1 => h F1 H1 (.pre g g1)
theorem ev_var {α : Type} [Rp α] {x : α} {v : V} (i : Nat) {n : Str} {pos : Pos} (hs : σ[i]? = some (some v)) (h : rp X.K F v x) (hN : X.N[i]? = some n := by rfl) (hv : Vis X.env.scope n := by first | exact Or.inl rfl | exact Or.inr (Or.inl rfl) | exact Or.inr (Or.inr rfl))
    (hd : (n == ("__debug__" : Str)) = false := by decide) (hcd : (n == ("__classdict__" : Str)) = false := by decide) : Ev X (.Name n pos) σ F H x := fun F1 H1 g Q q =>
  GoE.of (pe_var hN hv hd hcd) ⟨v, hs, q v F1 H1 (.refl g.fh) (Rp.mono g.ff h)⟩
theorem ev_int {i : Int} {j : Nat} {pos : Pos} : Ev X (.Constant (.int i) j pos) σ F H i := fun F1 H1 g Q q => GoE.of pe_int (q (.int i) F1 H1 (.refl g.fh) rfl)
theorem ev_bl {i : Bool} {j : Nat} {pos : Pos} : Ev X (.Constant (.bool i) j pos) σ F H i := fun F1 H1 g Q q => GoE.of pe_bl (q (.bl i) F1 H1 (.refl g.fh) rfl)
theorem ev_str {i : Str} {j : Nat} {pos : Pos} : Ev X (.Constant (.str i) j pos) σ F H i := fun F1 H1 g Q q => GoE.of pe_str (q (.str i) F1 H1 (.refl g.fh) rfl)
theorem ev_none {α : Type} [Rp α] [NN α] {j : Nat} {pos : Pos} : Ev X (.Constant .none j pos) σ F H (none : Option α) := fun F1 H1 g Q q => GoE.of pe_non (q .non F1 H1 (.refl g.fh) rfl)
theorem Ev.some {α : Type} [Rp α] [NN α] {x : α} (h : Ev X e σ F H x) : Ev X e σ F H (some x) := fun F1 H1 g Q q => h F1 H1 g Q q
theorem ea_nil : EvA X [] σ F H () := fun F1 H1 g Q q => GoA.of pa_nil (q [] F1 H1 (.refl g.fh) rfl)
theorem ea_cons {α τ : Type} [Rp α] [Ra τ] {x : α} {y : τ} (ha : Ev X e σ F H x) (hr : EvA X es σ F H y) (hs : starEach (e :: es) X.env = (false, eval e X.env) :: starEach es X.env := by rfl) : EvA X (e :: es) σ F H (x, y) := fun F1 H1 g Q q =>
  GoA.of (pa_cons pe_go pa_go hs) (ha F1 H1 g _ fun v F2 H2 g2 r2 => hr F2 H2 (g.trans g2) _ fun vs F3 H3 g3 r3 => q _ F3 H3 (g2.trans g3) ⟨v, vs, rfl, Rp.mono g3.ff r2, r3⟩)
def Op2 {α β γ : Type} [Rp α] [Rp β] [Rp γ] (K : PySem.W.Frag) (r : R2) (x : α) (y : β) (z : γ) : Prop := ∀ (F H : Hp) (v w : V) (Q : VK), L2.Same F H → rp K F v x → rp K F w y → (∀ u F' H', Gr F H F' H' → rp K F' u z → Q u H') → r v w H Q
theorem ev_bin {α β γ : Type} [Rp α] [Rp β] [Rp γ] {x : α} {y : β} {z : γ} {a b : Expr} {op : Operator} {pos : Pos} {r : R2} (ho : OpR X (binaryOp op) r) (hr : Op2 X.K r x y z) (ha : Ev X a σ F H x) (hb : Ev X b σ F H y) : Ev X (.BinOp a op b pos) σ F H z := fun F1 H1 g Q q =>
  GoE.of (pe_op ho pe_go pe_go) (ha F1 H1 g _ fun v F2 H2 g2 r2 => hb F2 H2 (g.trans g2) _ fun w F3 H3 g3 r3 => hr F3 H3 v w Q g3.fh (Rp.mono g3.ff r2) r3 fun u F4 H4 g4 r4 => q u F4 H4 ((g2.trans g3).trans g4) r4)
theorem ev_cmp {α β : Type} [Rp α] [Rp β] {x : α} {y : β} {z : Bool} {a b : Expr} {op : CmpOp} {pos : Pos} {r : R2} (ho : OpR X (compareOp op) r) (hr : Op2 X.K r x y z) (ha : Ev X a σ F H x) (hb : Ev X b σ F H y) (hm : behindInMarks op b = false) : Ev X (.Compare a [op] [b] pos) σ F H z := fun F1 H1 g Q q =>
  GoE.of (pe_cmpR ho pe_go pe_go hm) (ha F1 H1 g _ fun v F2 H2 g2 r2 => hb F2 H2 (g.trans g2) _ fun w F3 H3 g3 r3 => hr F3 H3 v w Q g3.fh (Rp.mono g3.ff r2) r3 fun u F4 H4 g4 r4 => q u F4 H4 ((g2.trans g3).trans g4) r4)
theorem et_cmp {α β : Type} [Rp α] [Rp β] {x : α} {y : β} {z : Bool} {a b : Expr} {op : CmpOp} {pos : Pos} {r : R2} (ho : OpR X (compareOp op) r) (hr : Op2 X.K r x y z) (ha : Ev X a σ F H x) (hb : Ev X b σ F H y) (hm : behindInMarks op b = false) : EvT X (.Compare a [op] [b] pos) σ F H z := fun F1 H1 g Q q =>
  GoT.of (pt_cmpR ho pe_go pe_go hm) (ha F1 H1 g _ fun v F2 H2 g2 r2 => hb F2 H2 (g.trans g2) _ fun w F3 H3 g3 r3 => hr F3 H3 v w _ g3.fh (Rp.mono g3.ff r2) r3 fun u F4 H4 g4 r4 => by
    have r4 : u = .bl z := r4
    subst r4
    exact ⟨z, rfl, q F4 H4 ((g2.trans g3).trans g4)⟩)
end
end Gx
namespace Gx
open PySem PySem.Spec PyProof.Rows L2
open Rp (rp)
open Ra (ra)
section
variable {X : Cx} {K : PySem.W.Frag} {e a b c d : Expr} {es : List Expr} {σ : L2.St} {F H : Hp} {pos : Pos}
theorem o2_I0 {γ : Type} [Rp γ] {g : Int → Int → V} {x y : Int} {z : γ} (h : ∀ F, rp K F (g x y) z) : Op2 K (rI0 g) x y z := fun F H v w Q s rv rw k => ⟨x, y, rv, rw, k _ F H (.refl s) (h F)⟩
theorem o2_I {γ : Type} [Rp γ] {C : Int → Int → Prop} {g : Int → Int → V} {x y : Int} {z : γ} (hc : C x y) (h : ∀ F, rp K F (g x y) z) : Op2 K (rI C g) x y z := fun F H v w Q s rv rw k => ⟨x, y, rv, rw, hc, k _ F H (.refl s) (h F)⟩
theorem ev_add {x y : Int} (ha : Ev X a σ F H x) (hb : Ev X b σ F H y) : Ev X (.BinOp a .Add b pos) σ F H (x + y) := ev_bin op_add (o2_I0 fun _ => rfl) ha hb
theorem ev_sub {x y : Int} (ha : Ev X a σ F H x) (hb : Ev X b σ F H y) : Ev X (.BinOp a .Sub b pos) σ F H (x - y) := ev_bin op_sub (o2_I0 fun _ => rfl) ha hb
theorem ev_mul {x y : Int} (ha : Ev X a σ F H x) (hb : Ev X b σ F H y) (h : CMul x y) : Ev X (.BinOp a .Mult b pos) σ F H (x * y) := ev_bin op_mul (o2_I h fun _ => rfl) ha hb
theorem ev_div {x y : Int} (ha : Ev X a σ F H x) (hb : Ev X b σ F H y) (h : CDiv x y) : Ev X (.BinOp a .FloorDiv b pos) σ F H (x / y) := ev_bin op_fdiv (o2_I h fun _ => rfl) ha hb
theorem ev_mod {x y : Int} (ha : Ev X a σ F H x) (hb : Ev X b σ F H y) (h : 0 < y) : Ev X (.BinOp a .Mod b pos) σ F H (x % y) := ev_bin op_mod (o2_I h fun _ => rfl) ha hb
theorem ev_powc {x y z : Int} (ha : Ev X a σ F H x) (hb : Ev X b σ F H y) (h : CPow x y) (hz : x ^ y.toNat = z) : Ev X (.BinOp a .Pow b pos) σ F H z := ev_bin op_pow (o2_I h fun _ => congrArg V.int hz) ha hb
theorem ev_neg {x : Int} (ha : Ev X a σ F H x) : Ev X (.UnaryOp .USub a pos) σ F H (-x) := fun F1 H1 g Q q => GoE.of (pe_un un_neg pe_go) (ha F1 H1 g _ fun v F2 H2 g2 r2 => ⟨x, r2, q _ F2 H2 g2 rfl⟩)
theorem CMul.l {i j : Int} (h : -(2 ^ 64) < i ∧ i < 2 ^ 64) : CMul i j := .inl h
theorem CMul.r {i j : Int} (h : -(2 ^ 64) < j ∧ j < 2 ^ 64) : CMul i j := .inr h
instance (i j : Int) : Decidable (CMul i j) := inferInstanceAs (Decidable (_ ∨ _))
instance (i j : Int) : Decidable (CDiv i j) := inferInstanceAs (Decidable (_ ∧ _))
instance (i j : Int) : Decidable (CPow i j) := inferInstanceAs (Decidable (_ ∧ _ ∧ _))
instance (i j : Int) : Decidable (CMulW i j) := inferInstanceAs (Decidable (_ < _))
instance (i j : Int) : Decidable (CDivW i j) := inferInstanceAs (Decidable (_ ∧ _))
def mulG (i j : Int) : Option Int := if CMul i j ∨ CMulW i j then some (i * j) else none
def divG (i j : Int) : Option Int := if CDiv i j ∨ CDivW i j then some (i / j) else none
def modG (i j : Int) : Option Int := if 0 < j then some (i % j) else none
theorem mulG_of {i j r : Int} (h : mulG i j = some r) : (CMul i j ∨ CMulW i j) ∧ i * j = r := by
  unfold mulG at h; split at h
  · exact ⟨by assumption, Option.some.inj h⟩
  · cases h
theorem divG_of {i j r : Int} (h : divG i j = some r) : (CDiv i j ∨ CDivW i j) ∧ i / j = r := by
  unfold divG at h; split at h
  · exact ⟨by assumption, Option.some.inj h⟩
  · cases h
theorem modG_of {i j r : Int} (h : modG i j = some r) : 0 < j ∧ i % j = r := by
  unfold modG at h; split at h
  · exact ⟨by assumption, Option.some.inj h⟩
  · cases h
theorem ev_mulG {x y r : Int} (ha : Ev X a σ F H x) (hb : Ev X b σ F H y) (h : mulG x y = some r) : Ev X (.BinOp a .Mult b pos) σ F H r := by
  obtain ⟨c | c, rfl⟩ := mulG_of h
  · exact ev_mul ha hb c
  · exact ev_bin op_mulW (o2_I c fun _ => rfl) ha hb
theorem ev_divG {x y r : Int} (ha : Ev X a σ F H x) (hb : Ev X b σ F H y) (h : divG x y = some r) : Ev X (.BinOp a .FloorDiv b pos) σ F H r := by
  obtain ⟨c | c, rfl⟩ := divG_of h
  · exact ev_div ha hb c
  · exact ev_bin op_fdivW (o2_I c fun _ => rfl) ha hb
theorem ev_modG {x y r : Int} (ha : Ev X a σ F H x) (hb : Ev X b σ F H y) (h : modG x y = some r) : Ev X (.BinOp a .Mod b pos) σ F H r := by
  obtain ⟨c, rfl⟩ := modG_of h; exact ev_mod ha hb c
theorem o2_lt {x y : Int} : Op2 K (rI0 fun i j => .bl (decide (i < j))) x y (decide (x < y)) := o2_I0 fun _ => rfl
theorem o2_le {x y : Int} : Op2 K (rI0 fun i j => .bl (decide (i ≤ j))) x y (decide (x ≤ y)) := o2_I0 fun _ => rfl
theorem o2_gt {x y : Int} : Op2 K (rI0 fun i j => .bl (decide (j < i))) x y (decide (y < x)) := o2_I0 fun _ => rfl
class Sc (α : Type) [Rp α] [DecidableEq α] : Prop where
  sc : ∀ {K : PySem.W.Frag} {F : Hp} {v w : V} {x y : α}, rp K F v x → rp K F w y → scal v w = true ∧ decide (v = w) = decide (x = y)
instance : Sc Int := ⟨fun {K F v w x y} h1 h2 => by
  have h1 : v = .int x := h1
  have h2 : w = .int y := h2
  subst h1; subst h2
  exact ⟨rfl, by simp⟩⟩
instance : Sc Str := ⟨fun {K F v w x y} h1 h2 => by
  have h1 : v = .str x := h1
  have h2 : w = .str y := h2
  subst h1; subst h2
  exact ⟨rfl, by simp⟩⟩
instance : Sc Bool := ⟨fun {K F v w x y} h1 h2 => by
  have h1 : v = .bl x := h1
  have h2 : w = .bl y := h2
  subst h1; subst h2
  exact ⟨rfl, by simp⟩⟩
theorem o2_eq {α : Type} [Rp α] [DecidableEq α] [Sc α] {x y : α} : Op2 K rEq x y (decide (x = y)) := fun F H v w Q s rv rw k => by
  obtain ⟨h1, h2⟩ := Sc.sc rv rw
  exact ⟨h1, k _ F H (.refl s) (congrArg V.bl h2)⟩
theorem o2_ne {α : Type} [Rp α] [DecidableEq α] [Sc α] {x y : α} : Op2 K rNe x y (!decide (x = y)) := fun F H v w Q s rv rw k => by
  obtain ⟨h1, h2⟩ := Sc.sc rv rw
  exact ⟨h1, k _ F H (.refl s) (congrArg (fun t => V.bl (!t)) h2)⟩
theorem et_notNone {α : Type} [Rp α] [NN α] {x : Option α} {j : Nat} {pos' : Pos} (ha : Ev X a σ F H x) : EvT X (.Compare a [.IsNot] [.Constant .none j pos'] pos) σ F H (!x.isNone) := fun F1 H1 g Q q =>
  GoT.of (pt_cmp (pc_notN pe_go) rfl) (ha F1 H1 g _ fun v F2 H2 g2 r2 => ⟨!x.isNone, congrArg (fun t => V.bl (!t)) (rp_isNone r2), q F2 H2 g2⟩)
theorem et_val {x : Bool} (h : Ev X e σ F H x) (he : ∀ whole, isTrue e X.env whole = (do let v ← whole; standAt e.pos; holding [v] (truthy v)) := by intro _; rfl) : EvT X e σ F H x := fun F1 H1 g Q q =>
  GoT.of (pt_val pe_go he) (h F1 H1 g _ fun v F2 H2 g2 r2 => ⟨x, r2, q F2 H2 g2⟩)
theorem et_not {x : Bool} (h : EvT X a σ F H x) : EvT X (.UnaryOp .Not a pos) σ F H (!x) := fun F1 H1 g Q q => GoT.of (pt_not pt_go) (h F1 H1 g _ fun F2 H2 g2 => q F2 H2 g2)
theorem ev_not {x : Bool} (h : Ev X a σ F H x) : Ev X (.UnaryOp .Not a pos) σ F H (!x) := fun F1 H1 g Q q => GoE.of (pe_not pe_go) (h F1 H1 g _ fun v F2 H2 g2 r2 => ⟨x, r2, q _ F2 H2 g2 rfl⟩)
def GoW (X : Cx) (e : Expr) : TT := fun σ H Q => Bx (∀ whole pins s, Inv X pins σ H s → wpAny (model X.prog X.w) X.A (isTrue e X.env whole) (TP X pins σ Q) X.xe s)
theorem pw_go : PW X e (GoW X e) := ⟨fun wh pins s σ H Q I h => h.o wh pins s I⟩
theorem GoW.of {t : TT} {Q : Bool → Hp → Prop} (p : PW X e t) (h : t σ H Q) : GoW X e σ H Q := ⟨fun wh pins s I => p.run wh pins s σ H Q I h⟩
def EvW (X : Cx) (e : Expr) (σ : L2.St) (F H : Hp) (b : Bool) : Prop := ∀ F1 H1, GrX X.K F H F1 H1 → ∀ Q : Bool → Hp → Prop, (∀ F2 H2, Gr F1 H1 F2 H2 → Q b H2) → GoW X e σ H1 Q
theorem EvW.t {x : Bool} (h : EvW X e σ F H x) : EvT X e σ F H x := fun F1 H1 g Q q => GoT.of (PW.pt pw_go) (h F1 H1 g Q q)
theorem EvW.cg {x y : Bool} (h : x = y) (r : EvW X e σ F H x) : EvW X e σ F H y := h ▸ r
theorem EvT.cg {x y : Bool} (h : x = y) (r : EvT X e σ F H x) : EvT X e σ F H y := h ▸ r
theorem Ev.cg {α : Type} [Rp α] {x y : α} (h : x = y) (r : Ev X e σ F H x) : Ev X e σ F H y := h ▸ r
theorem ew_and1 {x : Bool} (h : EvT X a σ F H x) : EvW X (.BoolOp .And [a] pos) σ F H x := fun F1 H1 g Q q => GoW.of (pw_and1 pt_go) (h F1 H1 g Q q)
theorem ew_or1 {x : Bool} (h : EvT X a σ F H x) : EvW X (.BoolOp .Or [a] pos) σ F H x := fun F1 H1 g Q q => GoW.of (pw_or1 pt_go) (h F1 H1 g Q q)
theorem ew_and {x r : Bool} {rest : List Expr} (ha : EvT X a σ F H x) (hb : x = true → EvW X (.BoolOp .And (b :: rest) pos) σ F H r) (hn : x = false → r = false) : EvW X (.BoolOp .And (a :: b :: rest) pos) σ F H r := fun F1 H1 g Q q =>
  GoW.of (pw_and pt_go pw_go) (ha F1 H1 g _ fun F2 H2 g2 => by
    cases x with
    | true => rw [if_pos rfl]; exact hb rfl F2 H2 (g.trans g2) Q fun F3 H3 g3 => q F3 H3 (g2.trans g3)
    | false =>
      rw [if_neg Bool.false_ne_true]
      have e := hn rfl
      subst e
      exact q F2 H2 g2)
theorem ew_or {x r : Bool} {rest : List Expr} (ha : EvT X a σ F H x) (hb : x = false → EvW X (.BoolOp .Or (b :: rest) pos) σ F H r) (hn : x = true → r = true) : EvW X (.BoolOp .Or (a :: b :: rest) pos) σ F H r := fun F1 H1 g Q q =>
  GoW.of (pw_or pt_go pw_go) (ha F1 H1 g _ fun F2 H2 g2 => by
    cases x with
    | false => rw [if_neg Bool.false_ne_true]; exact hb rfl F2 H2 (g.trans g2) Q fun F3 H3 g3 => q F3 H3 (g2.trans g3)
    | true =>
      rw [if_pos rfl]
      have e := hn rfl
      subst e
      exact q F2 H2 g2)
theorem ew_andP {x y : Bool} {rest : List Expr} (ha : EvT X a σ F H x) (hb : EvW X (.BoolOp .And (b :: rest) pos) σ F H y) : EvW X (.BoolOp .And (a :: b :: rest) pos) σ F H (x && y) :=
  ew_and ha (fun h => by subst h; exact hb) (fun h => by subst h; rfl)
theorem ev_one {α : Type} [Rp α] {x : α} {op : BoolOp} (h : Ev X a σ F H x) : Ev X (.BoolOp op [a] pos) σ F H x := fun F1 H1 g Q q => GoE.of (pe_one pe_go) (h F1 H1 g Q q)
theorem ev_and {x r : Bool} {rest : List Expr} (ha : Ev X a σ F H x) (hb : x = true → Ev X (.BoolOp .And (b :: rest) pos) σ F H r) (hn : x = false → r = false) : Ev X (.BoolOp .And (a :: b :: rest) pos) σ F H r := fun F1 H1 g Q q =>
  GoE.of (pe_and pe_go pe_go) (ha F1 H1 g _ fun v F2 H2 g2 r2 => ⟨x, r2, by
    cases x with
    | true => rw [if_pos rfl]; exact hb rfl F2 H2 (g.trans g2) Q fun v F3 H3 g3 => q v F3 H3 (g2.trans g3)
    | false =>
      rw [if_neg Bool.false_ne_true]
      have e := hn rfl
      subst e
      exact q _ F2 H2 g2 rfl⟩)
theorem ev_or {x r : Bool} {rest : List Expr} (ha : Ev X a σ F H x) (hb : x = false → Ev X (.BoolOp .Or (b :: rest) pos) σ F H r) (hn : x = true → r = true) : Ev X (.BoolOp .Or (a :: b :: rest) pos) σ F H r := fun F1 H1 g Q q =>
  GoE.of (pe_or pe_go pe_go) (ha F1 H1 g _ fun v F2 H2 g2 r2 => ⟨x, r2, by
    cases x with
    | false => rw [if_neg Bool.false_ne_true]; exact hb rfl F2 H2 (g.trans g2) Q fun v F3 H3 g3 => q v F3 H3 (g2.trans g3)
    | true =>
      rw [if_pos rfl]
      have e := hn rfl
      subst e
      exact q _ F2 H2 g2 rfl⟩)
theorem Rps.get {α : Type} [Rp α] : ∀ {vs : List V} {xs : List α} {i : Nat} {x : α}, Rps K F vs xs → xs[i]? = some x → ∃ v, vs[i]? = some v ∧ rp K F v x
  | _, _, _, _, .nil, e => by simp at e
  | _, _, 0, _, .cons r _, e => by simp at e; subst e; exact ⟨_, rfl, r⟩
  | _, _, i + 1, x, .cons _ t, e => by
    obtain ⟨u, h1, h2⟩ := Rps.get (i := i) (x := x) t (by simpa using e)
    exact ⟨u, by simpa using h1, h2⟩
theorem Rps.atI {α : Type} [Rp α] {vs : List V} {xs : List α} {i : Int} {x : α} (h : Rps K F vs xs) (e : atI xs i = some x) : ∃ v, L2.atI vs i = some v ∧ rp K F v x := by
  unfold L2.atI at e ⊢
  rw [h.length]
  cases q : ixN xs.length i with
  | none => rw [q] at e; cases e
  | some j =>
    rw [q] at e
    exact h.get e
theorem ev_ixL {α : Type} [Rp α] {xs : List α} {i : Int} {x : α} (ha : Ev X a σ F H xs) (hb : Ev X b σ F H i) (h : L2.atI xs i = some x) (hs : PlainIx b := by exact fun _ _ => rfl) : Ev X (.Subscript a b pos) σ F H x := fun F1 H1 g Q q =>
  GoE.of (pe_ix ix_list pe_go pe_go hs) (ha F1 H1 g _ fun v F2 H2 g2 r2 => hb F2 H2 (g.trans g2) _ fun w F3 H3 g3 r3 => by
    obtain ⟨p, vs, rfl, sq, rs⟩ := Rp.mono g3.ff r2
    obtain ⟨y, hy, ry⟩ := rs.atI h
    exact ⟨p, vs, i, y, rfl, r3, g3.fh.seq sq, hy, q y F3 H3 (g2.trans g3) ry⟩)
theorem ev_ixTp {α θ : Type} [Rp α] [Rp θ] [TL θ α] {xs : θ} {i : Int} {x : α} (ha : Ev X a σ F H xs) (hb : Ev X b σ F H i) (h : L2.atI (TL.l xs) i = some x) (hs : PlainIx b := by exact fun _ _ => rfl) : Ev X (.Subscript a b pos) σ F H x := fun F1 H1 g Q q =>
  GoE.of (pe_ix ix_tup pe_go pe_go hs) (ha F1 H1 g _ fun v F2 H2 g2 r2 => hb F2 H2 (g.trans g2) _ fun w F3 H3 g3 r3 => by
    obtain ⟨p, vs, rfl, sq, rs⟩ := TL.sq (Rp.mono g3.ff r2)
    obtain ⟨y, hy, ry⟩ := rs.atI h
    exact ⟨p, vs, i, y, rfl, r3, sqT_mono g3.fh sq, hy, q y F3 H3 (g2.trans g3) ry⟩)
def Proj {τ α : Type} [Ra τ] [Rp α] (i : Int) (y : τ) (x : α) : Prop := ∀ (K : PySem.W.Frag) (F : Hp) (vs : List V), ra K F vs y → ∃ v, L2.atI vs i = some v ∧ rp K F v x
theorem pj0 {α τ : Type} [Rp α] [Ra τ] {x : α} {y : τ} : Proj 0 (x, y) x := fun K F vs ⟨v, r, e, p, q⟩ => ⟨v, by subst e; show (ixN (r.length + 1) 0).bind _ = _; unfold ixN; rw [if_pos (by decide), if_pos (by omega)]; rfl, p⟩
theorem pj1 {α β τ : Type} [Rp α] [Rp β] [Ra τ] {x : α} {z : β} {y : τ} : Proj 1 (x, z, y) z := fun K F vs ⟨v, r, e, p, v', r', e', p', q⟩ => ⟨v', by subst e; subst e'; show (ixN (r'.length + 1 + 1) 1).bind _ = _; unfold ixN; rw [if_pos (by decide), if_pos (by omega)]; rfl, p'⟩
theorem pj2 {α β γ τ : Type} [Rp α] [Rp β] [Rp γ] [Ra τ] {x : α} {z : β} {u : γ} {y : τ} : Proj 2 (x, z, u, y) u := fun K F vs ⟨v, r, e, p, v', r', e', p', v2, r2, e2, p2, q⟩ => ⟨v2, by subst e; subst e'; subst e2; show (ixN (r2.length + 1 + 1 + 1) 2).bind _ = _; unfold ixN; rw [if_pos (by decide), if_pos (by omega)]; rfl, p2⟩
theorem pj3 {α β γ δ τ : Type} [Rp α] [Rp β] [Rp γ] [Rp δ] [Ra τ] {x : α} {z : β} {u : γ} {t : δ} {y : τ} : Proj 3 (x, z, u, t, y) t := fun K F vs ⟨v, r, e, p, v', r', e', p', v2, r2, e2, p2, v3, r3, e3, p3, q⟩ => ⟨v3, by subst e; subst e'; subst e2; subst e3; show (ixN (r3.length + 1 + 1 + 1 + 1) 3).bind _ = _; unfold ixN; rw [if_pos (by decide), if_pos (by omega)]; rfl, p3⟩
theorem pj4 {α β γ δ ε τ : Type} [Rp α] [Rp β] [Rp γ] [Rp δ] [Rp ε] [Ra τ] {x : α} {z : β} {u : γ} {t : δ} {t2 : ε} {y : τ} : Proj 4 (x, z, u, t, t2, y) t2 := fun K F vs ⟨v, r, e, p, v', r', e', p', v2, r2, e2, p2, v3, r3, e3, p3, v4, r4, e4, p4, q⟩ => ⟨v4, by subst e; subst e'; subst e2; subst e3; subst e4; show (ixN (r4.length + 1 + 1 + 1 + 1 + 1) 4).bind _ = _; unfold ixN; rw [if_pos (by decide), if_pos (by omega)]; rfl, p4⟩
class Tup (θ : Type) (τ : outParam Type) [Ra τ] [Rp θ] where
  row : θ → τ
  eq : ∀ {K : PySem.W.Frag} {F : Hp} {v : V} {x : θ}, rp K F v x ↔ rpT row K F v x
instance {α : Type} [Rp α] : Tup (T1 α) (α × Unit) := ⟨T1.row, Iff.rfl⟩
instance {α β : Type} [Rp α] [Rp β] : Tup (T2 α β) (α × β × Unit) := ⟨T2.row, Iff.rfl⟩
instance {α β γ : Type} [Rp α] [Rp β] [Rp γ] : Tup (T3 α β γ) (α × β × γ × Unit) := ⟨T3.row, Iff.rfl⟩
instance {α β γ δ : Type} [Rp α] [Rp β] [Rp γ] [Rp δ] : Tup (T4 α β γ δ) (α × β × γ × δ × Unit) := ⟨T4.row, Iff.rfl⟩
instance {α β γ δ ε : Type} [Rp α] [Rp β] [Rp γ] [Rp δ] [Rp ε] : Tup (T5 α β γ δ ε) (α × β × γ × δ × ε × Unit) := ⟨T5.row, Iff.rfl⟩
theorem ev_ixT {θ τ α : Type} [Ra τ] [Rp θ] [Tup θ τ] [Rp α] {t : θ} {i : Int} {x : α} (ha : Ev X a σ F H t) (hb : Ev X b σ F H i) (h : Proj i (Tup.row t) x) (hs : PlainIx b := by exact fun _ _ => rfl) : Ev X (.Subscript a b pos) σ F H x := fun F1 H1 g Q q =>
  GoE.of (pe_ix ix_tup pe_go pe_go hs) (ha F1 H1 g _ fun v F2 H2 g2 r2 => hb F2 H2 (g.trans g2) _ fun w F3 H3 g3 r3 => by
    obtain ⟨p, vs, rfl, sq, rs⟩ := Tup.eq.mp (Rp.mono g3.ff r2)
    obtain ⟨y, hy, ry⟩ := h _ _ _ rs
    exact ⟨p, vs, i, y, rfl, r3, seqT_mono g3.fh sq, hy, q y F3 H3 (g2.trans g3) ry⟩)
def sAt (z : Str) (i : Int) : Option Str := if z.length ≤ sizeLine then (L2.atI z.cps.toList i).map fun c => ⟨#[c]⟩ else none
theorem ev_ixS {z : Str} {i : Int} {x : Str} (ha : Ev X a σ F H z) (hb : Ev X b σ F H i) (h : sAt z i = some x) (hs : PlainIx b := by exact fun _ _ => rfl) : Ev X (.Subscript a b pos) σ F H x := fun F1 H1 g Q q =>
  GoE.of (pe_ix ix_str pe_go pe_go hs) (ha F1 H1 g _ fun v F2 H2 g2 r2 => hb F2 H2 (g.trans g2) _ fun w F3 H3 g3 r3 => by
    unfold sAt at h
    split at h
    · rename_i hz
      obtain ⟨c, hc, rfl⟩ := Option.map_eq_some_iff.mp h
      exact ⟨z, i, c, r2, r3, hz, hc, q _ F3 H3 (g2.trans g3) rfl⟩
    · cases h)
def GoO (X : Cx) (o : Option Expr) : TO := fun σ H Q => Bx (∀ pins s, Inv X pins σ H s → wpAny (model X.prog X.w) X.A (evalPart o X.env) (fun u s' => ∃ o H', Inv X pins σ H' s' ∧ IsPart u o ∧ Q o H') X.xe s)
theorem po_go {o : Option Expr} : PO X o (GoO X o) := ⟨fun pins s σ H Q I h => h.o pins s I⟩
theorem GoO.of {o : Option Expr} {t : TO} {Q : Option Int → Hp → Prop} (p : PO X o t) (h : t σ H Q) : GoO X o σ H Q := ⟨fun pins s I => p.run pins s σ H Q I h⟩
def EvO (X : Cx) (o : Option Expr) (σ : L2.St) (F H : Hp) (i : Option Int) : Prop := ∀ F1 H1, GrX X.K F H F1 H1 → ∀ Q : Option Int → Hp → Prop, (∀ F2 H2, Gr F1 H1 F2 H2 → Q i H2) → GoO X o σ H1 Q
theorem eo_none : EvO X none σ F H none := fun F1 H1 g Q q => GoO.of po_none (q F1 H1 (.refl g.fh))
theorem eo_some {i : Int} (h : Ev X e σ F H i) : EvO X (some e) σ F H (some i) := fun F1 H1 g Q q => GoO.of (po_some pe_go) (h F1 H1 g _ fun v F2 H2 g2 r2 => ⟨i, r2, q F2 H2 g2⟩)
def cut {α : Type} (xs : List α) (lo hi : Option Int) : List α := (xs.drop (HT.sIx xs.length 0 lo)).take (HT.sIx xs.length xs.length hi - HT.sIx xs.length 0 lo)
theorem Rps.drop {α : Type} [Rp α] : ∀ {vs : List V} {xs : List α} (n : Nat), Rps K F vs xs → Rps K F (vs.drop n) (xs.drop n)
  | _, _, 0, h => h
  | _, _, _ + 1, .nil => .nil
  | _, _, n + 1, .cons _ t => Rps.drop n t
theorem Rps.take {α : Type} [Rp α] : ∀ {vs : List V} {xs : List α} (n : Nat), Rps K F vs xs → Rps K F (vs.take n) (xs.take n)
  | _, _, 0, _ => .nil
  | _, _, _ + 1, .nil => .nil
  | _, _, n + 1, .cons r t => .cons r (Rps.take n t)
theorem Rps.append {α : Type} [Rp α] : ∀ {vs ws : List V} {xs ys : List α}, Rps K F vs xs → Rps K F ws ys → Rps K F (vs ++ ws) (xs ++ ys)
  | _, _, _, _, .nil, s => s
  | _, _, _, _, .cons r t, s => .cons r (Rps.append t s)
theorem Rps.cut {α : Type} [Rp α] {vs : List V} {xs : List α} (h : Rps K F vs xs) (lo hi : Option Int) : Rps K F (cutV vs lo hi) (Gx.cut xs lo hi) := by
  unfold cutV Gx.cut
  rw [h.length]
  exact (h.drop _).take _
class Ob (α : Type) [Rp α] where
  ob : PySem.W.Frag → Hp → HO → α → Prop
  mono : ∀ {K : PySem.W.Frag} {F F' : Hp} {o : HO} {x : α}, L2.Same F F' → ob K F o x → ob K F' o x
  mu : ∀ {K : PySem.W.Frag} {F : Hp} {o : HO} {x : α}, ob K F o x → Mut (some o)
  ls : ∀ {K : PySem.W.Frag} {F : Hp} {o : HO} {x : α}, ob K F o x → lstish o
  fz : ∀ {K : PySem.W.Frag} {F : Hp} {o : HO} {x : α} {l : Addr} {od : Obj}, F l = some (.frz od o) → ob K F o x → rp K F (.ref l) x
open Ob (ob)
instance {α : Type} [Rp α] : Ob (List α) := ⟨fun K F o xs => ∃ vs, o = .lst vs ∧ Rps K F vs xs, fun s ⟨vs, e, r⟩ => ⟨vs, e, r.mono s⟩, fun ⟨vs, e, r⟩ => e ▸ trivial, fun ⟨vs, e, r⟩ => e ▸ trivial,
  fun {K F o x l od} h ⟨vs, e, r⟩ => ⟨l, vs, rfl, .inl (.inr ⟨od, e ▸ h⟩), r⟩⟩
theorem Ob.pl {α : Type} [Rp α] [Ob α] {o : HO} {x : α} (h : ob K F o x) : pln o := by
  have m := Ob.mu h
  have l := Ob.ls h
  cases o <;> first | trivial | exact m | exact l
theorem ob_lst {α : Type} [Rp α] {vs : List V} {xs : List α} (r : Rps K F vs xs) : ob K F (.lst vs) xs := ⟨vs, rfl, r⟩
def EvN {α : Type} [Rp α] [Ob α] (X : Cx) (e : Expr) (σ : L2.St) (F H : Hp) (x : α) : Prop := ∀ F1 H1, GrX X.K F H F1 H1 → ∀ Q : VK, (∀ l o F2 H2, Gr F1 H1 F2 H2 → H1 l = none → F2 l = none → H2 l = some o → ob X.K F2 o x → Q (.ref l) H2) → GoE X e σ H1 Q
theorem Gr.freeze {F H : Hp} {F0 H0 : Hp} {l : Addr} {o : HO} (g : Gr F0 H0 F H) (n : H0 l = none) (hf : F l = none) (pl : PlAt H l) (no : ntb o := by trivial) : Gr F0 H0 (upd F l o) (upd H l o) := by
  refine ⟨fun b u e => ?_, fun b u e => ?_, g.hh.poke n pl no, fun a o h ns => ?_⟩
  · have e1 := g.ff b u e
    rw [upd_ne (ne_of_none e1 hf)]; exact e1
  · by_cases hb : b = l
    · subst hb; rw [upd_same] at e ⊢; exact e
    · rw [upd_ne hb] at e ⊢; exact g.fh _ _ e
  · by_cases hb : a = l
    · subst hb; rw [n] at h; cases h
    · rw [upd_ne hb]; exact g.fr a o h ns
theorem GrX.freeze {F H : Hp} {F0 H0 : Hp} {l : Addr} {o : HO} (g : GrX K F0 H0 F H) (n : H0 l = none) (hf : F l = none) (pl : PlAt H l) (no : ntb o := by trivial) : GrX K F0 H0 (upd F l o) (upd H l o) := ⟨g.toGr.freeze n hf pl no, (g.h.upd pl no).2⟩
theorem GoE.lock {Q Q' : VK} (h : GoE X e σ H Q') (k : ∀ v H2, Q' v H2 → ∃ l o, H2 l = some o ∧ Mut (some o) ∧ ∀ od, Q v (upd H2 l (.frz od o))) : GoE X e σ H Q := .mk fun pins s I => thn (h.o pins s I) fun v s' ⟨x, H', I', r, q⟩ => by
  obtain ⟨l, o, hl, mu, q'⟩ := k _ _ q
  obtain ⟨od, I2⟩ := I'.lock hl mu
  exact ⟨x, _, I2, r, q' od⟩
theorem GoE.locked {Q : VK} {l : Addr} {o : HO} (hl : H l = some o) (mu : Mut (some o)) (h : ∀ od, GoE X e σ (upd H l (.frz od o)) fun v H2 => H2 l = some (.frz od o) ∧ Q v (upd H2 l o)) : GoE X e σ H Q := .mk fun pins s I => by
  obtain ⟨od, I1⟩ := I.lock hl mu
  exact thn ((h od).o pins s I1) fun v s' ⟨x, H', I2, r, e2, q⟩ => ⟨x, _, I2.unlock e2 (I.nofrz hl mu), r, q⟩
theorem GoT.locked {Q : Bool → Hp → Prop} {l : Addr} {o : HO} (hl : H l = some o) (mu : Mut (some o)) (h : ∀ od, GoT X e σ (upd H l (.frz od o)) fun v H2 => H2 l = some (.frz od o) ∧ Q v (upd H2 l o)) : GoT X e σ H Q := .mk fun pins s I => by
  obtain ⟨od, I1⟩ := I.lock hl mu
  exact thn ((h od).o pins s I1) fun v s' q0 => by
    obtain ⟨H', I2, e2, q⟩ := q0
    exact ⟨_, I2.unlock e2 (I.nofrz hl mu), q⟩
theorem GoS.locked {sts : List Stmt} {D : Ends} {l : Addr} {o : HO} (hl : H l = some o) (mu : Mut (some o)) (h : ∀ od, GoS X sts D σ (upd H l (.frz od o))) : GoS X sts D σ H := .mk fun pins s I => by
  obtain ⟨od, I1⟩ := I.lock hl mu
  exact (h od).o pins s I1
theorem same_upd {F : Hp} {l : Addr} {o : HO} (hf : F l = none) : L2.Same F (upd F l o) := fun b u e => by
  rw [upd_ne (ne_of_none e hf)]; exact e
theorem EvN.ev {α : Type} [Rp α] [Ob α] {x : α} (h : EvN X e σ F H x) : Ev X e σ F H x := fun F1 H1 g Q q =>
  GoE.lock (Q' := fun v H2 => ∃ l o F2, v = .ref l ∧ Gr F1 H1 F2 H2 ∧ H1 l = none ∧ F2 l = none ∧ H2 l = some o ∧ ob X.K F2 o x) (h F1 H1 g _ fun l o F2 H2 g2 n2 f2 h2 r2 => ⟨l, o, F2, rfl, g2, n2, f2, h2, r2⟩)
    fun v H2 ⟨l, o, F2, e, g2, n2, f2, h2, r2⟩ => ⟨l, o, h2, Ob.mu r2, fun od => by
      subst e
      exact q _ (upd F2 l (.frz od o)) _ (g2.freeze n2 f2 ⟨o, h2, Ob.pl r2⟩) (Ob.fz upd_same (Ob.mono (same_upd f2) r2))⟩
theorem EvN.newO {α : Type} [Rp α] [Ob α] {x : α} {F1 H1 : Hp} {Q : VK} {F2 H2 : Hp} {o : HO} {p : Addr} (q : ∀ l o F2 H2, Gr F1 H1 F2 H2 → H1 l = none → F2 l = none → H2 l = some o → ob X.K F2 o x → Q (.ref l) H2)
    (g : Gr F1 H1 F2 H2) (hp : H2 p = none) (r : ob X.K F2 o x) : Q (.ref p) (upd H2 p o) :=
  q p o F2 _ (g.trans (Gr.newP g.fh hp (Ob.pl r).ntb)) (g.hh.free hp) (g.fh.free hp) upd_same r
theorem EvN.new {α : Type} [Rp α] {xs : List α} {F1 H1 : Hp} {Q : VK} {F2 H2 : Hp} {vs : List V} {p : Addr} (q : ∀ l o F2 H2, Gr F1 H1 F2 H2 → H1 l = none → F2 l = none → H2 l = some o → ob X.K F2 o xs → Q (.ref l) H2)
    (g : Gr F1 H1 F2 H2) (hp : H2 p = none) (r : Rps X.K F2 vs xs) : Q (.ref p) (upd H2 p (.lst vs)) := EvN.newO q g hp (ob_lst r)
theorem en_slice {α : Type} [Rp α] {xs : List α} {lo hi : Option Expr} {i j : Option Int} {p2 : Pos} (ha : Ev X a σ F H xs) (hl : EvO X lo σ F H i) (hh : EvO X hi σ F H j) : EvN X (.Subscript a (.Slice lo hi none p2) pos) σ F H (cut xs i j) := fun F1 H1 g Q q =>
  GoE.of (pe_slice sl_list pe_go po_go po_go) (ha F1 H1 g _ fun v F2 H2 g2 r2 => hl F2 H2 (g.trans g2) _ fun F3 H3 g3 => hh F3 H3 ((g.trans g2).trans g3) _ fun F4 H4 g4 => by
    obtain ⟨p, vs, rfl, sq, rs⟩ := Rp.mono (g3.ff.trans g4.ff) r2
    exact ⟨p, vs, rfl, g4.fh.seq sq, fun p hp => EvN.new q ((g2.trans g3).trans g4) hp (rs.cut i j)⟩)
def sCut (z : Str) (lo hi : Option Int) : Option Str := if z.length ≤ sizeLine then some (cutS z lo hi) else none
theorem ev_sliceS {z : Str} {lo hi : Option Expr} {i j : Option Int} {p2 : Pos} {r : Str} (ha : Ev X a σ F H z) (hl : EvO X lo σ F H i) (hh : EvO X hi σ F H j) (h : sCut z i j = some r) : Ev X (.Subscript a (.Slice lo hi none p2) pos) σ F H r := fun F1 H1 g Q q =>
  GoE.of (pe_slice sl_str pe_go po_go po_go) (ha F1 H1 g _ fun v F2 H2 g2 r2 => hl F2 H2 (g.trans g2) _ fun F3 H3 g3 => hh F3 H3 ((g.trans g2).trans g3) _ fun F4 H4 g4 => by
    unfold sCut at h
    split at h
    · rename_i hz
      exact ⟨z, r2, hz, q _ F4 H4 ((g2.trans g3).trans g4) (congrArg V.str (Option.some.inj h))⟩
    · cases h)
def EvL {α : Type} [Rp α] (X : Cx) (es : List Expr) (σ : L2.St) (F H : Hp) (xs : List α) : Prop := ∀ F1 H1, GrX X.K F H F1 H1 → ∀ Q : List V → Hp → Prop, (∀ vs F2 H2, Gr F1 H1 F2 H2 → Rps X.K F2 vs xs → Q vs H2) → GoA X es σ H1 Q
theorem el_nil {α : Type} [Rp α] : EvL X [] σ F H ([] : List α) := fun F1 H1 g Q q => GoA.of pa_nil (q [] F1 H1 (.refl g.fh) .nil)
theorem el_cons {α : Type} [Rp α] {x : α} {xs : List α} (ha : Ev X e σ F H x) (hr : EvL X es σ F H xs) (hs : starEach (e :: es) X.env = (false, eval e X.env) :: starEach es X.env := by rfl) : EvL X (e :: es) σ F H (x :: xs) := fun F1 H1 g Q q =>
  GoA.of (pa_cons pe_go pa_go hs) (ha F1 H1 g _ fun v F2 H2 g2 r2 => hr F2 H2 (g.trans g2) _ fun vs F3 H3 g3 r3 => q _ F3 H3 (g2.trans g3) (.cons (Rp.mono g3.ff r2) r3))
theorem en_list {α : Type} [Rp α] {xs : List α} (h : EvL X es σ F H xs) (hz : xs.length ≤ sizeLine) : EvN X (.List es pos) σ F H xs := fun F1 H1 g Q q =>
  GoE.of (pe_lst pa_go) (h F1 H1 g _ fun vs F2 H2 g2 r2 => ⟨by rw [r2.length]; exact hz, fun p hp => EvN.new q g2 hp r2⟩)
theorem ev_tp {α : Type} [Rp α] {xs : List α} {k : Nat} (h : EvL X es σ F H xs) (hz : xs.length ≤ sizeLine) : Ev X (.Tuple es k pos) σ F H (Tp.mk xs) := fun F1 H1 g Q q =>
  GoE.of (pe_tup pa_go) (h F1 H1 g _ fun vs F2 H2 g2 r2 => ⟨by rw [r2.length]; exact hz, fun p hp => q _ (upd F2 p (.tup vs)) _ (g2.trans (Gr.new g2.fh hp)) ⟨p, vs, rfl, upd_same, r2.mono (same_upd (g2.fh.free hp))⟩⟩)
class RaN (τ : Type) [Ra τ] where
  n : Nat
  len : ∀ {K : PySem.W.Frag} {F : Hp} {vs : List V} {x : τ}, ra K F vs x → vs.length = n
instance : RaN Unit := ⟨0, fun {K F vs x} h => by
  have e : vs = [] := h
  rw [e]; rfl⟩
instance {α τ : Type} [Rp α] [Ra τ] [RaN τ] : RaN (α × τ) := ⟨RaN.n τ + 1, fun ⟨v, r, e, p, q⟩ => by rw [e, List.length_cons, RaN.len q]⟩
theorem ev_tup {θ τ : Type} [Ra τ] [RaN τ] [Rp θ] [Tup θ τ] {x : θ} {k : Nat} (h : EvA X es σ F H (Tup.row x)) (hz : RaN.n τ ≤ sizeLine) : Ev X (.Tuple es k pos) σ F H x := fun F1 H1 g Q q =>
  GoE.of (pe_tup pa_go) (h F1 H1 g _ fun vs F2 H2 g2 r2 => ⟨by rw [RaN.len r2]; exact hz, fun p hp => q _ (upd F2 p (.tup vs)) _ (g2.trans (Gr.new g2.fh hp)) (Tup.eq.mpr ⟨p, vs, rfl, upd_same, Ra.mono (same_upd (g2.fh.free hp)) r2⟩)⟩)
theorem ev_tup2 {α β : Type} [Rp α] [Rp β] {x : α} {y : β} {k : Nat} (h : EvA X es σ F H (x, y, ())) : Ev X (.Tuple es k pos) σ F H (T2.mk x y) := ev_tup (θ := T2 α β) h (by show 2 ≤ sizeLine; decide)
theorem ev_tup3 {α β γ : Type} [Rp α] [Rp β] [Rp γ] {x : α} {y : β} {z : γ} {k : Nat} (h : EvA X es σ F H (x, y, z, ())) : Ev X (.Tuple es k pos) σ F H (T3.mk x y z) := ev_tup (θ := T3 α β γ) h (by show 3 ≤ sizeLine; decide)
theorem ev_tup1 {α : Type} [Rp α] {x : α} {k : Nat} (h : EvA X es σ F H (x, ())) : Ev X (.Tuple es k pos) σ F H (T1.mk x) := ev_tup (θ := T1 α) h (by show 1 ≤ sizeLine; decide)
def Pr (K : PySem.W.Frag) {τ ρ : Type} [Ra τ] [Rp ρ] (f : τ → Option ρ) : Sp := fun vs H Q _ => ∃ F a r, SmX K F H ∧ ra K F vs a ∧ f a = some r ∧ ∀ F' H' u, Gr F H F' H' → rp K F' u r → Q u H'
theorem ev_call {τ ρ : Type} [Ra τ] [Rp ρ] {f : τ → Option ρ} {y : τ} {r : ρ} {k : Nat} {fa : Addr} {fd : FuncData} {ps : List Str} {x : Str} {p : Pos} (Fn : FnOk X.prog X.w X.K X.mg X.base CX0 k fa fd ps (Pr X.K f)) (hr : Room k X.A) (hm : X.mg x = some (.ref fa))
    (hk : PySem.W.keepIn X.K (.ref fa) = true) (hb : Binds X.K fd ps []) (ha : EvA X (e :: es) σ F H y) (h : f y = some r) (hg : Gl X x := by rfl) (hdb : (x == ("__debug__" : Str)) = false := by decide)
    (he : starEach (e :: es) X.env = (false, eval e X.env) :: starEach es X.env := by rfl) (hpl : (backTo pos (starEach es X.env)).any (·.1) = false := by rfl) : Ev X (.Call (.Name x p) (e :: es) [] pos) σ F H r := fun F1 H1 g Q q =>
  GoE.of (pe_call Fn hr hg hm hk hb .nil pass0 pa_go hdb he hpl) (ha F1 H1 g _ fun vs F2 H2 g2 r2 => ⟨F2, y, r, (g.trans g2).sm, by rw [List.append_nil]; exact r2, h, fun F3 H3 u g3 r3 => q u F3 H3 (g2.trans g3) r3⟩)
def OpC {τ ρ : Type} [Ra τ] [Rp ρ] (K : PySem.W.Frag) (r : List V → Hp → VK → Prop) (y : τ) (z : ρ) : Prop := ∀ (F H : Hp) (vs : List V) (Q : VK), L2.Same F H → ra K F vs y → (∀ u F' H', Gr F H F' H' → rp K F' u z → Q u H') → r vs H Q
theorem ev_callB {τ ρ : Type} [Ra τ] [Rp ρ] {y : τ} {z : ρ} {id : String} {x : Str} {p : Pos} {r : List V → Hp → VK → Prop} (hc : CallR X (.builtin id) r) (ho : OpC X.K r y z) (hm : X.mg x = none) (hv : bootBuiltins x = some (.builtin id)) (ha : EvA X (e :: es) σ F H y) (hg : Gl X x := by rfl)
    (hn : x ≠ "__name__" := by decide) (hdb : (x == ("__debug__" : Str)) = false := by decide)
    (he : starEach (e :: es) X.env = (false, eval e X.env) :: starEach es X.env := by rfl) (hpl : (backTo pos (starEach es X.env)).any (·.1) = false := by rfl) : Ev X (.Call (.Name x p) (e :: es) [] pos) σ F H z := fun F1 H1 g Q q =>
  GoE.of (pe_callB hc hg hm hv pa_go hn hdb he hpl) (ha F1 H1 g _ fun vs F2 H2 g2 r2 => ho F2 H2 vs Q g2.fh r2 fun u F3 H3 g3 r3 => q u F3 H3 (g2.trans g3) r3)
theorem ev_callTy {τ ρ : Type} [Ra τ] [Rp ρ] {y : τ} {z : ρ} {T : String} {x : Str} {p : Pos} {r : List V → Hp → VK → Prop} (hc : CallR X (.type T) r) (ho : OpC X.K r y z) (hm : X.mg x = none) (hv : bootBuiltins x = some (.type T)) (ha : EvA X (e :: es) σ F H y) (hg : Gl X x := by rfl)
    (hn : x ≠ "__name__" := by decide) (hdb : (x == ("__debug__" : Str)) = false := by decide)
    (he : starEach (e :: es) X.env = (false, eval e X.env) :: starEach es X.env := by rfl) (hpl : (backTo pos (starEach es X.env)).any (·.1) = false := by rfl) : Ev X (.Call (.Name x p) (e :: es) [] pos) σ F H z := fun F1 H1 g Q q =>
  GoE.of (pe_callTy hc hg hm hv pa_go hn hdb he hpl) (ha F1 H1 g _ fun vs F2 H2 g2 r2 => ho F2 H2 vs Q g2.fh r2 fun u F3 H3 g3 r3 => q u F3 H3 (g2.trans g3) r3)
theorem oc1 {α ρ : Type} [Rp α] [Rp ρ] {r : List V → Hp → VK → Prop} {y : α} {z : ρ} (h : ∀ (F H : Hp) (v : V) (Q : VK), L2.Same F H → rp K F v y → (∀ u F' H', Gr F H F' H' → rp K F' u z → Q u H') → r [v] H Q) : OpC K r (y, ()) z :=
  fun F H vs Q s ⟨v, w, e, rv, rw'⟩ k => by
    have e2 : w = [] := rw'
    subst e2; subst e
    exact h F H v Q s rv k
theorem oc2 {α β ρ : Type} [Rp α] [Rp β] [Rp ρ] {r : List V → Hp → VK → Prop} {y : α} {y' : β} {z : ρ} (h : ∀ (F H : Hp) (v w : V) (Q : VK), L2.Same F H → rp K F v y → rp K F w y' → (∀ u F' H', Gr F H F' H' → rp K F' u z → Q u H') → r [v, w] H Q) : OpC K r (y, y', ()) z :=
  fun F H vs Q s ⟨v, w, e, rv, v2, w2, e3, rv2, rw'⟩ k => by
    have e2 : w2 = [] := rw'
    subst e2; subst e3; subst e
    exact h F H v v2 Q s rv rv2 k
theorem oc_lenL {α : Type} [Rp α] {xs : List α} : OpC K (fun vs H Q => ∃ p ys, vs = [.ref p] ∧ (SqL K H p ys ∨ SqT K H p ys) ∧ Q (.int ys.length) H) (xs, ()) (xs.length : Int) :=
  oc1 fun F H v Q s ⟨p, vs, e, sq, rs⟩ k => ⟨p, vs, by rw [e], .inl (s.seq sq), k _ F H (.refl s) (congrArg (fun n : Nat => V.int n) rs.length)⟩
theorem oc_lenTp {α θ : Type} [Rp α] [Rp θ] [TL θ α] {xs : θ} : OpC K (fun vs H Q => ∃ p ys, vs = [.ref p] ∧ (SqL K H p ys ∨ SqT K H p ys) ∧ Q (.int ys.length) H) (xs, ()) ((TL.l xs).length : Int) :=
  oc1 fun F H v Q s r k => let ⟨p, vs, e, sq, rs⟩ := TL.sq r; ⟨p, vs, by rw [e], .inr (sqT_mono s sq), k _ F H (.refl s) (congrArg (fun n : Nat => V.int n) rs.length)⟩
def sLen (z : Str) : Option Int := if z.length ≤ sizeLine then some (z.length : Int) else none
theorem oc_lenS {z : Str} {r : Int} (h : sLen z = some r) : OpC K (fun xs H Q => ∃ z, xs = [.str z] ∧ z.length ≤ sizeLine ∧ Q (.int z.length) H) (z, ()) r :=
  oc1 fun F H v Q s e k => by
    have e : v = .str z := e
    unfold sLen at h
    split at h
    · rename_i hz
      exact ⟨z, by rw [e], hz, k _ F H (.refl s) (congrArg V.int (Option.some.inj h))⟩
    · cases h
end
end Gx
namespace Gx
open PySem PySem.Spec PyProof.Rows L2
open Rp (rp)
open Ra (ra)
open Ob (ob)
section
variable {X : Cx} {K : PySem.W.Frag} {e a b c d : Expr} {es : List Expr} {σ : L2.St} {F H F0 H0 : Hp} {pos : Pos} {D : Ends} {st : Stmt} {rest body : List Stmt}
theorem go_set {α : Type} [Rp α] {x : α} {n : Str} {p : Pos} (i : Nat) (s : SmX X.K F H) (he : Ev X e σ F H x) (k : ∀ v F' H', Gr F H F' H' → rp X.K F' v x → GoS X rest D (σ.set i (some v)) H') (hN : X.N.Nodup) (hi : X.N[i]? = some n := by rfl)
    (hx : Loc X.env.scope n := by first | exact Or.inl rfl | exact Or.inr rfl) (hs : swapsWith e (some (.Name n p)) pos.line X.env = pure false := by rfl) (hf : X.fn n = true ∨ X.env.scope.names.lookup n = some .local := by first | exact .inl rfl | exact .inr rfl) :
    GoS X (.Assign [.Name n p] e pos :: rest) D σ H :=
  GoS.cons (ps_set hN hi hx pe_go hs hf) (he F H (.refl s) _ fun v F2 H2 g r => k v F2 H2 g r)
theorem go_setN {α : Type} [Rp α] [Ob α] {x : α} {n : Str} {p : Pos} (i : Nat) (s : SmX X.K F H) (he : EvN X e σ F H x) (k : ∀ l o F' H', Gr F H F' H' → H l = none → F' l = none → H' l = some o → ob X.K F' o x → GoS X rest D (σ.set i (some (.ref l))) H') (hN : X.N.Nodup) (hi : X.N[i]? = some n := by rfl)
    (hx : Loc X.env.scope n := by first | exact Or.inl rfl | exact Or.inr rfl) (hs : swapsWith e (some (.Name n p)) pos.line X.env = pure false := by rfl) (hf : X.fn n = true ∨ X.env.scope.names.lookup n = some .local := by first | exact .inl rfl | exact .inr rfl) :
    GoS X (.Assign [.Name n p] e pos :: rest) D σ H :=
  GoS.cons (ps_set hN hi hx pe_go hs hf) (he F H (.refl s) _ fun l o F2 H2 g n f h r => k l o F2 H2 g n f h r)
theorem go_ret {α : Type} [Rp α] {x : α} (s : SmX X.K F H) (he : Ev X e σ F H x) (k : ∀ v F' H', Gr F H F' H' → rp X.K F' v x → D.rt v H') : GoS X (.Return (some e) pos :: rest) D σ H :=
  GoS.cons (ps_ret pe_go) (he F H (.refl s) _ fun v F2 H2 g r => k v F2 H2 g r)
theorem go_expr {α : Type} [Rp α] {x : α} (s : SmX X.K F H) (he : Ev X e σ F H x) (k : ∀ F' H', Gr F H F' H' → GoS X rest D σ H') (hs : swapsWith e none pos.line X.env = pure false := by rfl) : GoS X (.Expr e pos :: rest) D σ H :=
  GoS.cons (ps_expr pe_go hs) (he F H (.refl s) _ fun v F2 H2 g r => k F2 H2 g)
theorem go_if {t : Bool} {as bs : List Stmt} (s : SmX X.K F H) (hc : EvT X c σ F H t) (ka : t = true → ∀ F' H', Gr F H F' H' → GoS X as { D with nx := GoS X rest D } σ H') (kb : t = false → ∀ F' H', Gr F H F' H' → GoS X bs { D with nx := GoS X rest D } σ H') :
    GoS X (.If c as bs pos :: rest) D σ H :=
  GoS.cons (ps_if pt_go pss_go pss_go) (hc F H (.refl s) _ fun F2 H2 g => by
    cases t with
    | true => rw [if_pos rfl]; exact ka rfl F2 H2 g
    | false => rw [if_neg Bool.false_ne_true]; exact kb rfl F2 H2 g)
theorem go_ifj {t : Bool} {as bs : List Stmt} (P : L2.St → Hp → Prop) (s : SmX X.K F H) (hc : EvT X c σ F H t) (ka : t = true → ∀ F' H', Gr F H F' H' → GoS X as { D with nx := P } σ H') (kb : t = false → ∀ F' H', Gr F H F' H' → GoS X bs { D with nx := P } σ H')
    (k : ∀ σ' H', P σ' H' → GoS X rest D σ' H') : GoS X (.If c as bs pos :: rest) D σ H :=
  go_if s hc (fun e F' H' g => (ka e F' H' g).mono k (fun _ _ h => h) (fun _ _ h => h) fun _ _ h => h) (fun e F' H' g => (kb e F' H' g).mono k (fun _ _ h => h) (fun _ _ h => h) fun _ _ h => h)
structure Own {α : Type} [Rp α] [Ob α] (K : PySem.W.Frag) (H0 F H : Hp) (l : Addr) (x : α) : Prop where
  n : H0 l = none
  f : F l = none
  h : ∃ o, H l = some o ∧ ob K F o x
section
variable {α β : Type} [Rp α] [Ob α] [Rp β] [Ob β] {x y : α} {l l' : Addr}
theorem Own.ne0 (o : Own K H0 F H l x) : H l ≠ none := by
  obtain ⟨u, h, _⟩ := o.h
  rw [h]; exact fun e => nomatch e
theorem Own.up {F' H' : Hp} (o : Own K H0 F H l x) (g : Gr F H F' H') : Own K H0 F' H' l x := by
  obtain ⟨u, h, r⟩ := o.h
  exact ⟨o.n, (g.fr l _ h (Ob.ls r)).trans o.f, u, g.hh.k _ _ h (Ob.pl r).ntb, Ob.mono g.ff r⟩
theorem Own.pl (o : Own K H0 F H l x) : PlAt H l := by
  obtain ⟨u, h, r⟩ := o.h
  exact ⟨u, h, Ob.pl r⟩
theorem Own.other {u : HO} (o : Own K H0 F H l x) (h : l ≠ l') : Own K H0 F (upd H l' u) l x := by
  obtain ⟨v, e, r⟩ := o.h
  exact ⟨o.n, o.f, v, by rw [upd_ne h]; exact e, r⟩
theorem Own.freeze {st : List Stmt} (o : Own X.K H0 F H l x) (g : GrX X.K F0 H0 F H) (k : ∀ F' H', L2.Same F F' → L2.Same F' H' → GrX X.K F0 H0 F' H' → rp X.K F' (.ref l) x → (∀ a, a ≠ l → F' a = F a ∧ H' a = H a) → GoS X st D σ H') : GoS X st D σ H := by
  obtain ⟨u, h, r⟩ := o.h
  refine GoS.locked h (Ob.mu r) fun od => ?_
  have g2 := g.freeze (o := .frz od u) o.n o.f o.pl
  exact k _ _ (same_upd o.f) g2.fh g2 (Ob.fz upd_same (Ob.mono (same_upd o.f) r)) fun a ha => ⟨upd_ne ha, upd_ne ha⟩
theorem Own.keepF {F' H' : Hp} (o : Own K H0 F H l x) (hl : l ≠ l') (s : L2.Same F F') (k : ∀ a, a ≠ l' → F' a = F a ∧ H' a = H a) : Own K H0 F' H' l x := by
  obtain ⟨u, h, r⟩ := o.h
  exact ⟨o.n, (k l hl).1.trans o.f, u, (k l hl).2.trans h, Ob.mono s r⟩
theorem Own.ne {H1 : Hp} (o : Own K H0 F H l x) (h : H l' = none) : l ≠ l' := fun e => o.ne0 (e ▸ h)
theorem Own.set {u : HO} {z : β} (n : H0 l = none) (f : F l = none) (r : ob K F u z) : Own K H0 F (upd H l u) l z := ⟨n, f, u, upd_same, r⟩
end
theorem Gr.poke {F H : Hp} {l : Addr} {u : HO} (g : Gr F0 H0 F H) (n : H0 l = none) (f : F l = none) (pl : PlAt H l) (no : ntb u := by trivial) : Gr F0 H0 F (upd H l u) := by
  refine ⟨g.ff, fun b o e => ?_, g.hh.poke n pl no, g.fr⟩
  rw [upd_ne (ne_of_none e f)]; exact g.fh _ _ e
theorem GrX.poke {F H : Hp} {l : Addr} {u : HO} (g : GrX K F0 H0 F H) (n : H0 l = none) (f : F l = none) (pl : PlAt H l) (no : PlAt (upd H l u) l) : GrX K F0 H0 F (upd H l u) := by
  have no : ntb u := by
    obtain ⟨o, e, p⟩ := no
    rw [upd_same] at e; cases e; exact p.ntb
  exact ⟨g.toGr.poke n f pl no, (g.h.upd (v := u) pl no).1⟩
def app {α : Type} (xs : List α) (y : α) : Option (List α) := if xs.length < sizeLine then some (xs ++ [y]) else none
theorem app_of {α : Type} {xs : List α} {y : α} {r : List α} (h : app xs y = some r) : xs.length < sizeLine ∧ xs ++ [y] = r := by
  unfold app at h; split at h
  · exact ⟨by assumption, Option.some.inj h⟩
  · cases h
theorem go_append {α : Type} [Rp α] {xs : List α} {y : α} {r : List α} {l : Addr} {n : Str} {p1 p2 p3 : Pos} (i : Nat) (s : SmX X.K F H) (o : Own X.K H0 F H l xs) (hσ : σ[i]? = some (some (.ref l))) (he : Ev X e σ F H y) (h : app xs y = some r)
    (k : ∀ u F' H', Gr F H F' H' → PlAt H' l → F' l = none → Own X.K H0 F' (upd H' l u) l r → GoS X rest D σ (upd H' l u)) (hN : X.N[i]? = some n := by rfl) (hv : Vis X.env.scope n := by first | exact Or.inl rfl | exact Or.inr (Or.inl rfl) | exact Or.inr (Or.inr rfl))
    (hd : (n == ("__debug__" : Str)) = false := by decide) (hcd : (n == ("__classdict__" : Str)) = false := by decide) 
    (hbase : attributeBase (.Name n p1) "append" X.env (eval (.Name n p1) X.env) = eval (.Name n p1) X.env := by rfl)
    (hfew : ((backTo p3 (starEach [e] X.env)).all (fun x => !x.1) && (backToKw p3 (keywordEach [] X.env)).all (fun x => x.1.isSome) && decide ([e].length + ([] : List Keyword).length + (if ([] : List Keyword).isEmpty then 0 else 1) < 30)) = true := by rfl)
    (hline : (p2.endLine == p3.line) = true := by rfl) (hs : starEach [e] X.env = (false, eval e X.env) :: starEach [] X.env := by rfl) (hplain : (backTo p3 (starEach [] X.env)).any (·.1) = false := by rfl) (hsw : swapsWith (.Call (.Attribute (.Name n p1) "append" p2) [e] [] p3) none pos.line X.env = pure false := by rfl) :
    GoS X (.Expr (.Call (.Attribute (.Name n p1) "append" p2) [e] [] p3) pos :: rest) D σ H := by
  obtain ⟨_, hl, vs, rfl, rs⟩ := o.h
  obtain ⟨hz, rfl⟩ := app_of h
  refine GoS.cons (ps_expr (pe_bm PySem.F.plainAttrs_list PySem.F.slot_list_append PySem.F.type_list_append mt_append (pe_var hN hv hd hcd) (pa_cons pe_go pa_nil hs) hbase hfew hline hs hplain) hsw) ?_
  refine ⟨_, hσ, .inl ⟨rfl, _, SqL.of hl⟩, he F H (.refl s) _ fun v F2 H2 g r => ?_⟩
  have o2 := o.up g
  have hl2 := g.hh.k _ _ hl trivial
  exact ⟨l, vs, v, rfl, rfl, hl2, by rw [rs.length]; exact hz, k _ F2 H2 g o2.pl o2.f (Own.set o2.n o2.f (ob_lst (Rps.append (rs.mono g.ff) (.cons r .nil))))⟩
def Wk {α : Type} [Rp α] (K : PySem.W.Frag) (J : It) (F H : Hp) (xs : List α) : Prop := ∀ i Fi Hi, L2.Same F Fi → L2.Same Fi Hi → (∀ x, xs[i]? = some x → J.go i Hi ∧ ∀ v H', J.yld i Hi v H' → ∃ F', Gr Fi Hi F' H' ∧ rp K F' v x) ∧ (i = xs.length → J.stop i Hi)
def EvI {α : Type} [Rp α] (X : Cx) (tg iter : Expr) (σ : L2.St) (F H : Hp) (xs : List α) : Prop := ∀ F1 H1, GrX X.K F H F1 H1 → ∀ R : It → Hp → Prop, (∀ J F2 H2, Gr F1 H1 F2 H2 → Wk X.K J F2 H2 xs → R J H2) → GoI X tg iter σ H1 R
theorem ei_list {α : Type} [Rp α] {xs : List α} {tg : Expr} (h : Ev X e σ F H xs) : EvI X tg e σ F H xs := fun F1 H1 g R q =>
  GoI.of (pi_list pe_go) (h F1 H1 g _ fun v F2 H2 g2 ⟨a, vs, e, sq, rs⟩ => ⟨a, e, ⟨vs, g2.fh.seq sq⟩, q _ F2 H2 g2 fun i Fi Hi s1 s2 => by
    have sq' := s2.seq (s1.seq sq)
    refine ⟨fun x hx => ?_, fun e => ⟨vs, sq', by rw [e, rs.length]; exact Nat.le_refl _⟩⟩
    obtain ⟨y, hy, ry⟩ := rs.get hx
    refine ⟨⟨vs, y, sq', hy⟩, fun v H' ⟨e1, e2⟩ => ?_⟩
    subst e1
    have e3 := e2 vs sq'
    rw [hy] at e3
    cases e3
    exact ⟨Fi, .refl s2, Rp.mono s1 ry⟩⟩)
theorem ei_tp {α θ : Type} [Rp α] [Rp θ] [TL θ α] {xs : θ} {tg : Expr} (h : Ev X e σ F H xs) : EvI X tg e σ F H (TL.l xs) := fun F1 H1 g R q =>
  GoI.of (pi_tup pe_go) (h F1 H1 g _ fun v F2 H2 g2 r2 => let ⟨a, vs, e, sq, rs⟩ := TL.sq r2; ⟨a, e, ⟨vs, sqT_mono g2.fh sq⟩, q _ F2 H2 g2 fun i Fi Hi s1 s2 => by
    have sq' := sqT_mono (K := X.K) s2 (sqT_mono s1 sq)
    refine ⟨fun x hx => ?_, fun e => ⟨vs, sq', by rw [e, rs.length]; exact Nat.le_refl _⟩⟩
    obtain ⟨y, hy, ry⟩ := rs.get hx
    refine ⟨⟨vs, y, sq', hy⟩, fun v H' ⟨e1, e2⟩ => ?_⟩
    subst e1
    have e3 := e2 vs sq'
    rw [hy] at e3
    cases e3
    exact ⟨Fi, .refl s2, Rp.mono s1 ry⟩⟩)
def intsF (lo : Int) (n : Nat) : List Int := (List.range n).map fun (i : Nat) => lo + (i : Int)
theorem ints_get {lo : Int} {n i : Nat} {x : Int} (h : (intsF lo n)[i]? = some x) : i < n ∧ x = lo + i := by
  unfold intsF at h
  rw [List.getElem?_map] at h
  obtain ⟨j, hj, e⟩ := Option.map_eq_some_iff.mp h
  rw [List.getElem?_range] at hj
  · have e1 : i = j := Option.some.inj hj
    subst e1
    refine ⟨?_, e.symm⟩
    rcases Nat.lt_or_ge i n with h1 | h1
    · exact h1
    · rw [List.getElem?_eq_none (by simpa using h1)] at h; cases h
  · rcases Nat.lt_or_ge i n with h1 | h1
    · exact h1
    · rw [List.getElem?_eq_none (by simpa using h1)] at hj; cases hj
theorem ints_len {lo : Int} {n : Nat} : (intsF lo n).length = n := by unfold intsF; simp
theorem wk_range {lo : Int} {n : Nat} : Wk K (Itr lo n) F H (intsF lo n) := fun i Fi Hi s1 s2 => by
  refine ⟨fun x hx => ?_, fun e => by rw [ints_len] at e; exact Nat.le_of_eq e.symm⟩
  obtain ⟨h1, rfl⟩ := ints_get hx
  refine ⟨h1, fun v H' ⟨e1, e2⟩ => ?_⟩
  subst e1
  exact ⟨Fi, .refl s2, e2⟩
def rngG (j : Int) : Option (List Int) := if -(2 ^ 62) ≤ j ∧ j < 2 ^ 62 then some (intsF 0 j.toNat) else none
def rngG2 (i j : Int) : Option (List Int) := if -(2 ^ 62) ≤ i ∧ i < 2 ^ 62 ∧ -(2 ^ 62) ≤ j ∧ j < 2 ^ 62 then some (intsF i (j - i).toNat) else none
theorem ei_range1 {j : Int} {r : List Int} {tg : Expr} {p : Pos} (h : Ev X a σ F H j) (hr : rngG j = some r) (hm : X.mg "range" = none) (hg : Gl X "range" := by rfl) (hs : starEach [a] X.env = [(false, eval a X.env)] := by rfl) : EvI X tg (.Call (.Name "range" p) [a] [] pos) σ F H r := fun F1 H1 g R q =>
  GoI.of (pi_range1 hg hm (pa_cons pe_go pa_nil (by rw [hs]; rfl)) hs) (h F1 H1 g _ fun v F2 H2 g2 r2 => by
    unfold rngG at hr
    split at hr
    · rename_i hj
      cases hr
      have r2 : v = .int j := r2
      exact ⟨j, by rw [r2], hj.1, hj.2, q _ F2 H2 g2 wk_range⟩
    · cases hr)
def sgns (x : Str) : List Str := x.cps.toList.map fun c => ⟨#[c]⟩
inductive Lp (β ρ : Type) where
  | nx (b : β) | bk (b : β) | rt (r : ρ)
def loopM {α β ρ : Type} (st : β → α → Option (Lp β ρ)) : β → List α → Option (Lp β ρ)
  | b, [] => some (.nx b)
  | b, x :: xs => match st b x with
    | none => none
    | some (.nx b') => loopM st b' xs
    | some (.bk b') => some (.bk b')
    | some (.rt r) => some (.rt r)
abbrev LE {β ρ : Type} (Iv : β → L2.St → Hp → Hp → Prop) (Rt : ρ → V → Hp → Prop) (F : Hp) (o : Lp β ρ) : Ends :=
  { nx := fun σ' H' => ∃ b' F', o = .nx b' ∧ L2.Same F F' ∧ L2.Same F' H' ∧ Iv b' σ' F' H', ct := fun σ' H' => ∃ b' F', o = .nx b' ∧ L2.Same F F' ∧ L2.Same F' H' ∧ Iv b' σ' F' H',
    bk := fun σ' H' => ∃ b' F', o = .bk b' ∧ L2.Same F F' ∧ L2.Same F' H' ∧ Iv b' σ' F' H', rt := fun v H' => ∃ r, o = .rt r ∧ Rt r v H' }
theorem go_for {α β ρ : Type} [Rp α] {tg iter : Expr} {g : TG} (xs : List α) (stp : β → α → Option (Lp β ρ)) (b0 : β) {o : Lp β ρ} (s : SmX X.K F H) (hi : EvI X tg iter σ F H xs) (hg : PG X tg g) (ho : loopM stp b0 xs = some o)
    (k : ∀ F2 H2, Gr F H F2 H2 → ∃ (Iv : β → L2.St → Hp → Hp → Prop) (Rt : ρ → V → Hp → Prop), Iv b0 σ F2 H2 ∧
      (∀ b x o', stp b x = some o' → ∀ σ F H v, L2.Same F2 F → L2.Same F H → Iv b σ F H → ∀ F' H', Gr F H F' H' → rp X.K F' v x → ∀ Q : L2.St → Hp → Prop, (∀ σ' H'', GoS X body (LE Iv Rt F o') σ' H'' → Q σ' H'') → g v σ H' Q) ∧
      (match o with | .nx b => ∀ σ F H, L2.Same F H → Iv b σ F H → GoS X rest D σ H | .bk b => ∀ σ F H, L2.Same F H → Iv b σ F H → GoS X rest D σ H | .rt r => ∀ v H, Rt r v H → D.rt v H))
    (hp : PassesOwn (model X.prog X.w) X.A X.env X.xe) (hc : X.calm = true := by rfl) (hs : ∀ x, foldedSetIterable iter X.env x = pure x := by intro _; rfl) : GoS X (.For tg iter body [] pos :: rest) D σ H := by
  refine GoS.cons (ps_for hp hc pi_go hg pss_go hs) (hi F H (.refl s) _ fun J F2 H2 g2 wk => ?_)
  obtain ⟨Iv, Rt, init, step, done⟩ := k F2 H2 g2
  refine ⟨fun i m σ H => m = xs.length - i ∧ i ≤ xs.length ∧ ∃ b F, L2.Same F2 F ∧ L2.Same F H ∧ Iv b σ F H ∧ loopM stp b (xs.drop i) = some o, ⟨_, rfl, Nat.zero_le _, b0, F2, .refl _, g2.fh, init, ho⟩, ?_⟩
  rintro i m σ' H' ⟨rfl, hle, b, Fi, s1, s2, iv, hl⟩
  obtain ⟨w1, w2⟩ := wk i Fi H' s1 s2
  rcases Nat.lt_or_ge i xs.length with hlt | hge
  · obtain ⟨x, hx⟩ : ∃ x, xs[i]? = some x := ⟨xs[i], List.getElem?_eq_getElem hlt⟩
    obtain ⟨hgo, hy⟩ := w1 x hx
    have ed : xs.drop i = x :: xs.drop (i + 1) := by
      rw [List.drop_eq_getElem_cons hlt]
      rw [List.getElem?_eq_getElem hlt] at hx
      rw [Option.some.inj hx]
    rw [ed] at hl
    unfold loopM at hl
    cases hst : stp b x with
    | none => rw [hst] at hl; cases hl
    | some o' =>
      rw [hst] at hl
      refine .inr ⟨hgo, fun σ3 H3 => ∃ b' F', o' = .nx b' ∧ L2.Same Fi F' ∧ L2.Same F' H3 ∧ Iv b' σ3 F' H3, fun σ3 H3 ⟨b', F', e, f1, f2, iv'⟩ => ?_, fun v H3 hv => ?_⟩
      · subst e
        exact ⟨xs.length - (i + 1), by omega, rfl, hlt, b', F', s1.trans f1, f2, iv', hl⟩
      · obtain ⟨F', gr, rv⟩ := hy v H3 hv
        refine step b x o' hst σ' Fi H' v s1 s2 iv F' H3 gr rv _ fun σ4 H4 q => q.mono (fun _ _ h => h) (fun v' H5 ⟨r, e, hr⟩ => ?_) (fun σ5 H5 ⟨b', F5, e, f1, f2, iv'⟩ => ?_) fun _ _ h => h
        · subst e
          cases (Option.some.inj hl)
          exact done v' H5 hr
        · subst e
          cases (Option.some.inj hl)
          exact done σ5 F5 H5 f2 iv'
  · have e : i = xs.length := by omega
    subst e
    rw [List.drop_length] at hl
    cases (Option.some.inj hl)
    exact .inl ⟨w2 rfl, done σ' Fi H' s2 iv⟩
def whileM {β ρ : Type} (c : β → Option Bool) (st : β → Option (Lp β ρ)) : Nat → β → Option (Lp β ρ)
  | 0, _ => none
  | n + 1, b => match c b with
    | none => none
    | some false => some (.nx b)
    | some true => match st b with
      | none => none
      | some (.nx b') => whileM c st n b'
      | some (.bk b') => some (.bk b')
      | some (.rt r) => some (.rt r)
theorem go_while {β ρ : Type} (cn : β → Option Bool) (stp : β → Option (Lp β ρ)) (N : Nat) (b0 : β) {o : Lp β ρ} (Iv : β → L2.St → Hp → Hp → Prop) (Rt : ρ → V → Hp → Prop) (s : SmX X.K F H) (init : Iv b0 σ F H) (ho : whileM cn stp N b0 = some o)
    (kc : ∀ b t, cn b = some t → ∀ σ F H, L2.Same F H → Iv b σ F H → SmX X.K F H ∧ EvT X c σ F H t ∧ ∀ F' H', Gr F H F' H' → Iv b σ F' H')
    (kb : ∀ b o', cn b = some true → stp b = some o' → ∀ σ F H, L2.Same F H → Iv b σ F H → GoS X body (LE Iv Rt F o') σ H)
    (done : match o with | .nx b => ∀ σ F H, L2.Same F H → Iv b σ F H → GoS X rest D σ H | .bk b => ∀ σ F H, L2.Same F H → Iv b σ F H → GoS X rest D σ H | .rt r => ∀ v H, Rt r v H → D.rt v H)
    (hp : PassesOwn (model X.prog X.w) X.A X.env X.xe) : GoS X (.While c body [] pos :: rest) D σ H := by
  refine GoS.cons (ps_while hp pt_go pss_go) ?_
  refine ⟨fun m σ H => ∃ b F, L2.Same F H ∧ Iv b σ F H ∧ whileM cn stp m b = some o, ⟨N, b0, F, s.s, init, ho⟩, ?_⟩
  rintro m σ' H' ⟨b, Fi, s2, iv, hl⟩
  cases m with
  | zero => cases hl
  | succ m =>
    unfold whileM at hl
    cases hc : cn b with
    | none => rw [hc] at hl; cases hl
    | some t =>
      rw [hc] at hl
      obtain ⟨sx, ev, up⟩ := kc b t hc σ' Fi H' s2 iv
      refine ev Fi H' (.refl sx) _ fun F2 H2 g2 => ?_
      cases t with
      | false =>
        rw [if_neg Bool.false_ne_true]
        cases (Option.some.inj hl)
        exact done σ' F2 H2 g2.fh (up F2 H2 g2)
      | true =>
        rw [if_pos rfl]
        cases hst : stp b with
        | none => rw [hst] at hl; cases hl
        | some o' =>
          rw [hst] at hl
          refine ⟨fun σ3 H3 => ∃ b' F', o' = .nx b' ∧ L2.Same F2 F' ∧ L2.Same F' H3 ∧ Iv b' σ3 F' H3, fun σ3 H3 ⟨b', F', e, f1, f2, iv'⟩ => ?_, ?_⟩
          · subst e
            exact ⟨m, Nat.lt_succ_self _, b', F', f2, iv', hl⟩
          · refine (kb b o' hc hst σ' F2 H2 g2.fh (up F2 H2 g2)).mono (fun _ _ h => h) (fun v' H5 ⟨r, e, hr⟩ => ?_) (fun σ5 H5 ⟨b', F5, e, f1, f2, iv'⟩ => ?_) fun _ _ h => h
            · subst e
              cases (Option.some.inj hl)
              exact done v' H5 hr
            · subst e
              cases (Option.some.inj hl)
              exact done σ5 F5 H5 f2 iv'
def sAdd (x y : Str) : Option Str := if x.length + y.length ≤ sizeLine then some (x ++ y) else none
theorem ev_addS {x y r : Str} (ha : Ev X a σ F H x) (hb : Ev X b σ F H y) (h : sAdd x y = some r) : Ev X (.BinOp a .Add b pos) σ F H r := ev_bin op_add_str (fun F H v w Q s rv rw' k => by
  unfold sAdd at h
  split at h
  · rename_i hz
    exact ⟨x, y, rv, rw', hz, k _ F H (.refl s) (congrArg V.str (Option.some.inj h))⟩
  · cases h) ha hb
def sIn (x z : Str) : Option Bool := match x.cps.toList with
  | [c] => some (decide (c ∈ z.cps.toList))
  | _ => none
def sJoin (a : Str) (ys : List Str) : Option Str := if (ys.map (·.length)).sum + ys.length * a.length ≤ 16777216 then some (Txt.join a ys) else none
def sOfI (i : Int) : Option Str := if i.natAbs.log2 < 1920 then some (toString i : String) else none
def iOfS (x : Str) : Option Int := if x.length ≤ 640 then PySem.intText? x else none
def sMul (x : Str) (n : Int) : Option Str := if -(2 ^ 62) < n ∧ n < 2 ^ 62 ∧ x.length * n.toNat ≤ 16777216 then some (Txt.mul x n) else none
end
end Gx
namespace Gx
open PySem PySem.Spec PyProof.Rows L2
open Rp (rp)
open Ra (ra)
open Ob (ob)
section
variable {X : Cx} {K : PySem.W.Frag} {e a b c d : Expr} {es : List Expr} {σ : L2.St} {F H F0 H0 : Hp} {pos : Pos} {D : Ends} {st : Stmt} {rest body : List Stmt}
def compM {α γ : Type} (f : α → Option (Option γ)) : List α → Option (List γ)
  | [] => some []
  | x :: xs => match f x with
    | none => none
    | some none => compM f xs
    | some (some y) => (compM f xs).map (y :: ·)
def compG {α γ : Type} (f : α → Option (Option γ)) (xs : List α) : Option (List γ) := if xs.length ≤ sizeLine then compM f xs else none
abbrev blkX (X : Cx) (scope : Scope) (s : Shared) (H : Hp) (C : Addr) (cl : List (Str × Addr)) (fp : List Addr) : Cx := X.blk s H scope (compEnvC scope cl C X.env) fp
def GoEB (X : Cx) (scope : Scope) (e : Expr) : TE := fun σ H Q => ∀ s H' C cl fp, GoE (blkX X scope s H' C cl fp) e σ H Q
def GoTB (X : Cx) (scope : Scope) (e : Expr) : TT := fun σ H Q => ∀ s H' C cl fp, GoT (blkX X scope s H' C cl fp) e σ H Q
theorem pe_goB {scope : Scope} (s : Shared) (H : Hp) (C : Addr) (cl : List (Str × Addr)) (fp : List Addr) : PE (blkX X scope s H C cl fp) e (GoEB X scope e) := ⟨fun pins s σ H Q I h => (h _ _ _ _ _).o pins s I⟩
def CB {γ : Type} [Rp γ] (X : Cx) (scope : Scope) (elt : Expr) (σ2 : L2.St) (F H : Hp) (o : Option γ) : Prop := ∃ y, o = some y ∧ ∀ s H' C cl fp, Ev (blkX X scope s H' C cl fp) elt σ2 F H y
def CBi {γ : Type} [Rp γ] (X : Cx) (scope : Scope) (tst elt : Expr) (σ2 : L2.St) (F H : Hp) (o : Option γ) : Prop := ∃ b, (∀ s H' C cl fp, EvT (blkX X scope s H' C cl fp) tst σ2 F H b) ∧ (b = true → CB X scope elt σ2 F H o) ∧ (b = false → o = none)
theorem comp_core {α γ : Type} [Rp α] [Rp γ] {tg iter elt : Expr} {scope : Scope} {g : TG} {tt : TT} {vs : List Nat} {xs : List α} {ys : List γ} {f : α → Option (Option γ)} (hi : EvI X tg iter σ F H xs) (hr : compG f xs = some ys)
    (step : ∀ x o, f x = some o → ∀ F' H' v, GrX X.K F H F' H' → rp X.K F' v x → ∀ Q : L2.St → Hp → Prop, (∀ σ2, wipe σ2 vs = wipe σ vs → (∀ R : Bool → Hp → Prop, (∀ F2 H2, Gr F' H' F2 H2 → o = none → R false H2) → (∀ F2 H2, Gr F' H' F2 H2 → CB X scope elt σ2 F2 H2 o → R true H2) → tt σ2 H' R) → Q σ2 H') → g v (wipe σ vs) H' Q)
    {F1 H1 : Hp} (g1 : GrX X.K F H F1 H1) {Q : VK} (q : ∀ l o F2 H2, Gr F1 H1 F2 H2 → H1 l = none → F2 l = none → H2 l = some o → ob X.K F2 o ys → Q (.ref l) H2) : tLc (GoI X tg iter) g tt (GoEB X scope elt) vs σ H1 Q := by
  unfold compG at hr
  split at hr
  case isFalse => cases hr
  rename_i hz
  refine hi F1 H1 g1 _ fun J F2 H2 g2 wk L hL => ?_
  refine ⟨fun i m H => m = xs.length - i ∧ i ≤ xs.length ∧ ∃ Fi acc zs ws, Gr F2 H2 Fi H ∧ Fi L = none ∧ H L = some (.lst acc) ∧ Rps X.K Fi acc zs ∧ acc.length ≤ i ∧ compM f (xs.drop i) = some ws ∧ zs ++ ws = ys,
    ⟨_, rfl, Nat.zero_le _, F2, [], [], ys, Gr.newP g2.fh hL trivial, g2.fh.free hL, upd_same, .nil, Nat.le_refl _, hr, rfl⟩, ?_⟩
  rintro i m Hi ⟨rfl, hle, Fi, acc, zs, ws, gi, fL, hLi, rs, hacc, hcm, hys⟩
  obtain ⟨w1, w2⟩ := wk i Fi Hi gi.ff gi.fh
  rcases Nat.lt_or_ge i xs.length with hlt | hge
  · obtain ⟨x, hx⟩ : ∃ x, xs[i]? = some x := ⟨xs[i], List.getElem?_eq_getElem hlt⟩
    obtain ⟨hgo, hy⟩ := w1 x hx
    have ed : xs.drop i = x :: xs.drop (i + 1) := by
      rw [List.drop_eq_getElem_cons hlt]
      rw [List.getElem?_eq_getElem hlt] at hx
      rw [Option.some.inj hx]
    rw [ed] at hcm
    unfold compM at hcm
    cases hf : f x with
    | none => rw [hf] at hcm; cases hcm
    | some o =>
      rw [hf] at hcm
      refine .inr ⟨hgo, fun H' => ∃ F' acc' zs' ws', Gr F2 H2 F' H' ∧ F' L = none ∧ H' L = some (.lst acc') ∧ Rps X.K F' acc' zs' ∧ acc'.length ≤ i + 1 ∧ compM f (xs.drop (i + 1)) = some ws' ∧ zs' ++ ws' = ys,
        fun H' ⟨F', acc', zs', ws', h1, h2, h3, h4, h5, h6, h7⟩ => ⟨xs.length - (i + 1), by omega, rfl, hlt, F', acc', zs', ws', h1, h2, h3, h4, h5, h6, h7⟩, fun v H3 hv => ?_⟩
      obtain ⟨F3, g3, rv⟩ := hy v H3 hv
      refine step x o hf F3 H3 v ((g1.trans g2).trans (gi.trans g3)) rv _ fun σ2 ew ht => ⟨ew, ht _ (fun F4 H4 g4 eo => ?_) fun F4 H4 g4 ⟨y, eo, hev⟩ => ?_⟩
      · rw [if_neg Bool.false_ne_true]
        subst eo
        exact ⟨F4, acc, zs, ws, gi.trans (g3.trans g4), (g4.fr L _ (g3.hh.k _ _ hLi trivial) trivial).trans ((g3.fr L _ hLi trivial).trans fL), g4.hh.k _ _ (g3.hh.k _ _ hLi trivial) trivial, rs.mono (g3.ff.trans g4.ff), Nat.le_succ_of_le hacc, hcm, hys⟩
      · rw [if_pos rfl]
        subst eo
        obtain ⟨ws', hw, ew'⟩ := Option.map_eq_some_iff.mp hcm
        refine fun s H' C cl fp => hev s H' C cl fp F4 H4 (.refl (((g1.trans g2).trans (gi.trans g3)).trans g4).sm) _ fun u F5 H5 g5 ru => ?_
        have gg : Gr Fi Hi F5 H5 := (g3.trans g4).trans g5
        have f5 : F5 L = none := (gg.fr L _ hLi trivial).trans fL
        have h5 : H5 L = some (.lst acc) := gg.hh.k _ _ hLi trivial
        refine ⟨acc, h5, by omega, F5, acc ++ [u], zs ++ [y], ws', (gi.trans gg).poke hL f5 ⟨_, h5, trivial⟩ trivial, f5, upd_same, Rps.append (rs.mono gg.ff) (.cons ru .nil), by rw [List.length_append]; simp; omega, hw, ?_⟩
        rw [List.append_assoc]
        show zs ++ (y :: ws') = ys
        rw [ew']; exact hys
  · have e : i = xs.length := by omega
    subst e
    rw [List.drop_length] at hcm
    have ew : ws = [] := (Option.some.inj hcm).symm
    subst ew
    rw [List.append_nil] at hys
    subst hys
    refine .inl ⟨w2 rfl, q L (.lst acc) Fi Hi (g2.trans gi) (g2.hh.free hL) fL hLi (ob_lst rs)⟩
theorem en_comp {α γ : Type} [Rp α] [Rp γ] {tg iter elt : Expr} {scope : Scope} {g : TG} {own : List (Str × Nat)} {xs : List α} {ys : List γ} {f : α → Option (Option γ)} (hN : X.N.Nodup) (hi : EvI X tg iter σ F H xs) (hr : compG f xs = some ys) (ok : BlkOk X.N X.env.scope scope own)
    (hg : ∀ (s : Shared) (H : Hp) (C : Addr) (cl : List (Str × Addr)) (fp : List Addr), PG (blkX X scope s H C cl fp) tg g)
    (step : ∀ x o, f x = some o → ∀ F' H' v, GrX X.K F H F' H' → rp X.K F' v x → ∀ Q : L2.St → Hp → Prop, (∀ σ2, wipe σ2 (own.map (·.2)) = wipe σ (own.map (·.2)) → CB X scope elt σ2 F' H' o → Q σ2 H') → g v (wipe σ (own.map (·.2))) H' Q)
    (hc : X.calm = true := by rfl) (hs : ∀ x, foldedSetIterable iter X.env x = pure x := by intro _; rfl) : EvN X (.ListComp elt [⟨tg, iter, [], 0⟩] scope pos) σ F H ys := fun F1 H1 g1 Q q =>
  GoE.of (pe_lc hc hN pi_go ok hg (fun _ _ _ _ _ => pts_nil) pe_goB hs) (comp_core hi hr (fun x o hf F' H' v gr rv Q' k => step x o hf F' H' v gr rv Q' fun σ2 ew cb => k σ2 ew fun R _ r1 => r1 F' H' (.refl gr.fh) cb) g1 q)
theorem CB.up {γ : Type} [Rp γ] {scope : Scope} {elt : Expr} {σ2 : L2.St} {F' H' : Hp} {o : Option γ} (h : CB X scope elt σ2 F H o) (g : Gr F H F' H') : CB X scope elt σ2 F' H' o := by
  obtain ⟨y, e, h⟩ := h
  exact ⟨y, e, fun s H' C cl fp => (h s H' C cl fp).up g⟩
theorem go_setLc {α γ : Type} [Rp α] [Rp γ] {tg iter elt : Expr} {scope : Scope} {g : TG} {own : List (Str × Nat)} {xs : List α} {ys : List γ} {f : α → Option (Option γ)} {y : Str} {py cpos : Pos} (i : Nat) (s : SmX X.K F H) (hN : X.N.Nodup) (hi : EvI X tg iter σ F H xs) (hr : compG f xs = some ys) (ok : BlkOk X.N X.env.scope scope own)
    (hg : ∀ (s : Shared) (H : Hp) (C : Addr) (cl : List (Str × Addr)) (fp : List Addr), PG (blkX X scope s H C cl fp) tg g)
    (step : ∀ x o, f x = some o → ∀ F' H' v, GrX X.K F H F' H' → rp X.K F' v x → ∀ Q : L2.St → Hp → Prop, (∀ σ2, wipe σ2 (own.map (·.2)) = wipe σ (own.map (·.2)) → CB X scope elt σ2 F' H' o → Q σ2 H') → g v (wipe σ (own.map (·.2))) H' Q)
    (k : ∀ l o F' H', Gr F H F' H' → H l = none → F' l = none → H' l = some o → ob X.K F' o ys → GoS X rest D (σ.set i (some (.ref l))) H')
    (hy : X.N[i]? = some y := by rfl) (hyl : X.env.scope.names.lookup y = some .local := by rfl) (hsw : swapsWith (.ListComp elt [⟨tg, iter, [], 0⟩] scope cpos) (some (.Name y py)) pos.line X.env = pure true := by exact sw_true rfl rfl rfl (by decide +kernel))
    (hc : X.calm = true := by rfl) (hs : ∀ x, foldedSetIterable iter X.env x = pure x := by intro _; rfl) : GoS X (.Assign [.Name y py] (.ListComp elt [⟨tg, iter, [], 0⟩] scope cpos) pos :: rest) D σ H :=
  GoS.cons (ps_setLc hc hN hy hyl hsw pi_go ok hg (fun _ _ _ _ _ => pts_nil) pe_goB hs) (comp_core hi hr (fun x o hf F' H' v gr rv Q' k => step x o hf F' H' v gr rv Q' fun σ2 ew cb => k σ2 ew fun R _ r1 => r1 F' H' (.refl gr.fh) cb) (.refl s) k)
theorem fn_ok {P : Program} {w : World} {mg : Str → Option Value} {base : Heap} {τ ρ : Type} [Ra τ] [RaN τ] [Rp ρ] {f : τ → Option ρ} {x qual : Str} {s0 : Stmt} {fa : Addr} {fd : FuncData} {N ps : List Str} {k : Nat} (Fn : FunD K x qual (defArgs s0) (defBody s0) (defScope s0) [] [] fa fd) (S : FnScope N ps (defScope s0)) (hn : RaN.n τ = ps.length)
    (hbody : ∀ (cdv : Value) (A : Around) (outer : List Env) (s : Shared) (F H : Hp) (vs : List V) (a : τ) (r : ρ) (D : Ends) (E : XK), Room k (A.deeper (envOfC qual (defScope s0) s.heap.objs.size fa cdv)) → SmX K F H → ra K F vs a → f a = some r → (∀ F' H' u, GrX K F H F' H' → rp K F' u r → D.rt u H') →
      (∀ σ' F' H', GrX K F H F' H' → rp K F' .non r → D.nx σ' H') → GoS (cxOf CX0 P w K mg base N qual (defScope s0) fa cdv A outer s H E).nox (defBody s0) D (start N vs) H) :
    FnOk P w K mg base CX0 (k + 1) fa fd ps (Pr K f) := by
  refine Fn.ok S (fun vs H Q E ⟨F, a, r, _, ra', _⟩ => by rw [RaN.len ra', hn]) fun cdv A outer s H vs Q E hr ⟨F, a, r, sm, ra', hf, k⟩ => ?_
  refine ⟨_, PSs.nox pss_go, hbody cdv A outer s F H vs a r { nx := fun _ H' => Q .non H', rt := Q } E hr sm ra' hf (fun F' H' u g q => k F' H' u g.toGr q) fun σ' F' H' g q => k F' H' .non g.toGr q⟩
end
end Gx
namespace Gx
open PySem PySem.Spec PyProof.Rows L2
open Rp (rp)
open Ra (ra)
open Ob (ob)
theorem cg {α : Type} [Rp α] {K : PySem.W.Frag} {F : Hp} {v : V} {x y : α} (e : x = y) (h : rp K F v x) : rp K F v y := e ▸ h
theorem nt {b : Bool} (h : b = false) : ¬ b = true := by rw [h]; exact Bool.false_ne_true
def Lp.thn {β ρ γ : Type} (o : Lp β ρ) (f : β → Option γ) (g : ρ → Option γ) : Option γ := match o with
  | .nx b => f b
  | .bk b => f b
  | .rt r => g r
def loopN {α β : Type} (st : β → α → Option β) : β → List α → Option β
  | b, [] => some b
  | b, x :: xs => match st b x with
    | none => none
    | some b' => loopN st b' xs
theorem loopN_M {α β : Type} (st : β → α → Option β) : ∀ (xs : List α) (b : β), loopM (ρ := Unit) (fun b x => (st b x).map Lp.nx) b xs = (loopN st b xs).map Lp.nx
  | [], b => rfl
  | x :: xs, b => by
    unfold loopM loopN
    cases st b x with
    | none => rfl
    | some b' => exact loopN_M st xs b'
def whileN {β : Type} (c : β → Option Bool) (st : β → Option β) : Nat → β → Option β
  | 0, _ => none
  | n + 1, b => match c b with
    | none => none
    | some false => some b
    | some true => match st b with
      | none => none
      | some b' => whileN c st n b'
theorem whileN_M {β : Type} (c : β → Option Bool) (st : β → Option β) : ∀ (n : Nat) (b : β), whileM (ρ := Unit) c (fun b => (st b).map Lp.nx) n b = (whileN c st n b).map Lp.nx
  | 0, b => rfl
  | n + 1, b => by
    unfold whileM whileN
    cases c b with
    | none => rfl
    | some t =>
      cases t with
      | false => rfl
      | true =>
        dsimp only
        cases st b with
        | none => rfl
        | some b' => exact whileN_M c st n b'
section
variable {X : Cx} {K : PySem.W.Frag} {e a b c d : Expr} {es : List Expr} {σ : L2.St} {F H F0 H0 : Hp} {pos : Pos} {D : Ends} {st : Stmt} {rest body : List Stmt}
theorem go_forM {α β ρ γ : Type} [Rp α] {tg iter : Expr} {g : TG} {xs : List α} {stp : β → α → Option (Lp β ρ)} {b0 : β} {o : Lp β ρ} {f1 : β → Option γ} {f2 : ρ → Option γ} {r : γ} (s : SmX X.K F H) (hi : EvI X tg iter σ F H xs) (hg : PG X tg g) (ho : loopM stp b0 xs = some o) (hm : o.thn f1 f2 = some r)
    (k : ∀ F2 H2, Gr F H F2 H2 → ∃ (Iv : β → L2.St → Hp → Hp → Prop) (Rt : ρ → V → Hp → Prop), Iv b0 σ F2 H2 ∧
      (∀ b x o', stp b x = some o' → ∀ σ F H v, L2.Same F2 F → L2.Same F H → Iv b σ F H → ∀ F' H', Gr F H F' H' → rp X.K F' v x → ∀ Q : L2.St → Hp → Prop, (∀ σ' H'', GoS X body (LE Iv Rt F o') σ' H'' → Q σ' H'') → g v σ H' Q) ∧
      (∀ b, f1 b = some r → ∀ σ F H, L2.Same F2 F → L2.Same F H → Iv b σ F H → GoS X rest D σ H) ∧ (∀ x, f2 x = some r → ∀ v H, Rt x v H → D.rt v H))
    (hp : PassesOwn (model X.prog X.w) X.A X.env X.xe) (hc : X.calm = true := by rfl) (hs : ∀ x, foldedSetIterable iter X.env x = pure x := by intro _; rfl) : GoS X (.For tg iter body [] pos :: rest) D σ H :=
  go_for xs stp b0 s hi hg ho (fun F2 H2 g2 => by
    obtain ⟨Iv, Rt, i0, st, d1, d2⟩ := k F2 H2 g2
    refine ⟨fun b σ F H => L2.Same F2 F ∧ Iv b σ F H, Rt, ⟨.refl _, i0⟩, fun b x o' e σ F H v s1 s2 ⟨_, iv⟩ F' H' gr rv Q q => st b x o' e σ F H v s1 s2 iv F' H' gr rv Q fun σ' H'' go => q σ' H'' (go.mono ?_ (fun _ _ h => h) ?_ ?_), ?_⟩
    · exact fun σ3 H3 ⟨b', F3, e, f1, f2, iv⟩ => ⟨b', F3, e, f1, f2, s1.trans f1, iv⟩
    · exact fun σ3 H3 ⟨b', F3, e, f1, f2, iv⟩ => ⟨b', F3, e, f1, f2, s1.trans f1, iv⟩
    · exact fun σ3 H3 ⟨b', F3, e, f1, f2, iv⟩ => ⟨b', F3, e, f1, f2, s1.trans f1, iv⟩
    · cases o with
      | nx b => exact fun σ F H s1 ⟨s0, iv⟩ => d1 b hm σ F H s0 s1 iv
      | bk b => exact fun σ F H s1 ⟨s0, iv⟩ => d1 b hm σ F H s0 s1 iv
      | rt x => exact d2 x hm) hp hc hs
theorem go_forN {α β : Type} [Rp α] {tg iter : Expr} {g : TG} {xs : List α} {stp : β → α → Option β} {b0 b1 : β} (s : SmX X.K F H) (hi : EvI X tg iter σ F H xs) (hg : PG X tg g) (ho : loopN stp b0 xs = some b1)
    (k : ∀ F2 H2, Gr F H F2 H2 → ∃ (Iv : β → L2.St → Hp → Hp → Prop), Iv b0 σ F2 H2 ∧
      (∀ b x b', stp b x = some b' → ∀ σ F H v, L2.Same F2 F → L2.Same F H → Iv b σ F H → ∀ F' H', Gr F H F' H' → rp X.K F' v x → ∀ Q : L2.St → Hp → Prop, (∀ σ' H'', GoS X body { nx := fun σ3 H3 => ∃ F3, L2.Same F F3 ∧ L2.Same F3 H3 ∧ Iv b' σ3 F3 H3, ct := fun σ3 H3 => ∃ F3, L2.Same F F3 ∧ L2.Same F3 H3 ∧ Iv b' σ3 F3 H3, bk := fun _ _ => False, rt := fun _ _ => False } σ' H'' → Q σ' H'') → g v σ H' Q) ∧
      (∀ σ F H, L2.Same F2 F → L2.Same F H → Iv b1 σ F H → GoS X rest D σ H))
    (hp : PassesOwn (model X.prog X.w) X.A X.env X.xe) (hc : X.calm = true := by rfl) (hs : ∀ x, foldedSetIterable iter X.env x = pure x := by intro _; rfl) : GoS X (.For tg iter body [] pos :: rest) D σ H := by
  have ho' : loopM (ρ := Unit) (fun b x => (stp b x).map Lp.nx) b0 xs = some (.nx b1) := by rw [loopN_M, ho]; rfl
  refine go_forM (f1 := fun b => some b) (f2 := fun _ => none) (r := b1) s hi hg ho' rfl (fun F2 H2 g2 => ?_) hp hc hs
  obtain ⟨Iv, i0, st, d1⟩ := k F2 H2 g2
  refine ⟨Iv, fun _ _ _ => False, i0, fun b x o' e σ F H v s1 s2 iv F' H' gr rv Q q => ?_, fun b e => by cases (Option.some.inj e); exact d1, fun _ e => nomatch e⟩
  obtain ⟨b', eb, rfl⟩ := Option.map_eq_some_iff.mp e
  exact st b x b' eb σ F H v s1 s2 iv F' H' gr rv Q fun σ' H'' go => q σ' H'' (go.mono (fun σ3 H3 ⟨F3, f1, f2, iv⟩ => ⟨b', F3, rfl, f1, f2, iv⟩) (fun _ _ h => h.elim) (fun _ _ h => h.elim) fun σ3 H3 ⟨F3, f1, f2, iv⟩ => ⟨b', F3, rfl, f1, f2, iv⟩)
theorem go_whileM {β ρ γ : Type} {cn : β → Option Bool} {stp : β → Option (Lp β ρ)} {N : Nat} {b0 : β} {o : Lp β ρ} {f1 : β → Option γ} {f2 : ρ → Option γ} {r : γ} (Iv : β → L2.St → Hp → Hp → Prop) (Rt : ρ → V → Hp → Prop) (s : SmX X.K F H) (init : Iv b0 σ F H) (ho : whileM cn stp N b0 = some o) (hm : o.thn f1 f2 = some r)
    (kc : ∀ b t, cn b = some t → ∀ σ F1 H, L2.Same F F1 → L2.Same F1 H → Iv b σ F1 H → SmX X.K F1 H ∧ EvT X c σ F1 H t ∧ ∀ F' H', Gr F1 H F' H' → Iv b σ F' H')
    (kb : ∀ b o', stp b = some o' → ∀ σ F1 H, L2.Same F F1 → L2.Same F1 H → Iv b σ F1 H → GoS X body (LE Iv Rt F1 o') σ H)
    (d1 : ∀ b, f1 b = some r → ∀ σ F1 H, L2.Same F F1 → L2.Same F1 H → Iv b σ F1 H → GoS X rest D σ H) (d2 : ∀ x, f2 x = some r → ∀ v H, Rt x v H → D.rt v H)
    (hp : PassesOwn (model X.prog X.w) X.A X.env X.xe) : GoS X (.While c body [] pos :: rest) D σ H := by
  refine go_while cn stp N b0 (fun b σ F1 H => L2.Same F F1 ∧ Iv b σ F1 H) Rt s ⟨.refl _, init⟩ ho (fun b t e σ F1 H s2 ⟨s1, iv⟩ => ?_) (fun b o' _ e σ F1 H s2 ⟨s1, iv⟩ => (kb b o' e σ F1 H s1 s2 iv).mono ?_ (fun _ _ h => h) ?_ ?_) ?_ hp
  · obtain ⟨h0, h1, h2⟩ := kc b t e σ F1 H s1 s2 iv
    exact ⟨h0, h1, fun F' H' g => ⟨s1.trans g.ff, h2 F' H' g⟩⟩
  · exact fun σ3 H3 ⟨b', F3, e, f1, f2, iv⟩ => ⟨b', F3, e, f1, f2, s1.trans f1, iv⟩
  · exact fun σ3 H3 ⟨b', F3, e, f1, f2, iv⟩ => ⟨b', F3, e, f1, f2, s1.trans f1, iv⟩
  · exact fun σ3 H3 ⟨b', F3, e, f1, f2, iv⟩ => ⟨b', F3, e, f1, f2, s1.trans f1, iv⟩
  · cases o with
    | nx b => exact fun σ F H s1 ⟨s0, iv⟩ => d1 b hm σ F H s0 s1 iv
    | bk b => exact fun σ F H s1 ⟨s0, iv⟩ => d1 b hm σ F H s0 s1 iv
    | rt x => exact d2 x hm
theorem go_whileN {β : Type} {cn : β → Option Bool} {stp : β → Option β} {N : Nat} {b0 b1 : β} (Iv : β → L2.St → Hp → Hp → Prop) (s : SmX X.K F H) (init : Iv b0 σ F H) (ho : whileN cn stp N b0 = some b1)
    (kc : ∀ b t, cn b = some t → ∀ σ F1 H, L2.Same F F1 → L2.Same F1 H → Iv b σ F1 H → SmX X.K F1 H ∧ EvT X c σ F1 H t ∧ ∀ F' H', Gr F1 H F' H' → Iv b σ F' H')
    (kb : ∀ b b', stp b = some b' → ∀ σ F1 H, L2.Same F F1 → L2.Same F1 H → Iv b σ F1 H → GoS X body { nx := fun σ3 H3 => ∃ F3, L2.Same F1 F3 ∧ L2.Same F3 H3 ∧ Iv b' σ3 F3 H3, ct := fun σ3 H3 => ∃ F3, L2.Same F1 F3 ∧ L2.Same F3 H3 ∧ Iv b' σ3 F3 H3, bk := fun _ _ => False, rt := fun _ _ => False } σ H)
    (d1 : ∀ σ F1 H, L2.Same F F1 → L2.Same F1 H → Iv b1 σ F1 H → GoS X rest D σ H) (hp : PassesOwn (model X.prog X.w) X.A X.env X.xe) : GoS X (.While c body [] pos :: rest) D σ H := by
  have ho' : whileM (ρ := Unit) cn (fun b => (stp b).map Lp.nx) N b0 = some (.nx b1) := by rw [whileN_M, ho]; rfl
  refine go_whileM (f1 := fun b => some b) (f2 := fun _ => none) (r := b1) Iv (fun _ _ _ => False) s init ho' rfl kc (fun b o' e σ F1 H s1 s2 iv => ?_) (fun b e => by cases (Option.some.inj e); exact d1) (fun _ e => nomatch e) hp
  obtain ⟨b', eb, rfl⟩ := Option.map_eq_some_iff.mp e
  exact (kb b b' eb σ F1 H s1 s2 iv).mono (fun σ3 H3 ⟨F3, f1, f2, iv⟩ => ⟨b', F3, rfl, f1, f2, iv⟩) (fun _ _ h => h.elim) (fun _ _ h => h.elim) fun σ3 H3 ⟨F3, f1, f2, iv⟩ => ⟨b', F3, rfl, f1, f2, iv⟩
def er (F : Hp) (l : Addr) : Hp := fun a => if a = l then none else F a
class Flat (α : Type) [Rp α] : Prop where
  fl : ∀ {K : PySem.W.Frag} {F : Hp} {l : Addr} {v : V} {x : α}, (∀ xs, ¬ F l = some (.tup xs)) → (∀ o xs, ¬ F l = some (.frz o (.tup xs))) → rp K F v x → rp K (er F l) v x
instance : Flat Int := ⟨fun _ _ h => h⟩
instance : Flat Bool := ⟨fun _ _ h => h⟩
instance : Flat Str := ⟨fun _ _ h => h⟩
instance : Flat Unit := ⟨fun _ _ h => h⟩
theorem er_seqT {F : Hp} {l a : Addr} {xs : List V} (h1 : ∀ xs, ¬ F l = some (.tup xs)) (h2 : ∀ o xs, ¬ F l = some (.frz o (.tup xs))) (h : TupF F a xs) : TupF (er F l) a xs := by
  unfold TupF er
  rw [if_neg (show ¬ a = l from fun e => h1 xs (e ▸ h))]; exact h
instance {α : Type} [Rp α] [NN α] [Flat α] : Flat (Option α) := ⟨fun {K F l v x} h1 h2 h => by
  cases x with
  | none => exact h
  | some x => exact Flat.fl (α := α) h1 h2 h⟩
theorem Rps.fl {α : Type} [Rp α] [Flat α] {F : Hp} {l : Addr} {vs : List V} {xs : List α} (h1 : ∀ xs, ¬ F l = some (.tup xs)) (h2 : ∀ o xs, ¬ F l = some (.frz o (.tup xs))) (h : Rps K F vs xs) : Rps K (er F l) vs xs := L2.Paired.mapP h fun _ _ => Flat.fl h1 h2
instance {α : Type} [Rp α] [Flat α] : Flat (Tp α) := ⟨fun h1 h2 ⟨a, vs, e, q, r⟩ => ⟨a, vs, e, er_seqT h1 h2 q, Rps.fl h1 h2 r⟩⟩
class FlatR (τ : Type) [Ra τ] : Prop where
  fl : ∀ {K : PySem.W.Frag} {F : Hp} {l : Addr} {v : List V} {x : τ}, (∀ xs, ¬ F l = some (.tup xs)) → (∀ o xs, ¬ F l = some (.frz o (.tup xs))) → ra K F v x → ra K (er F l) v x
instance : FlatR Unit := ⟨fun _ _ h => h⟩
instance {α τ : Type} [Rp α] [Ra τ] [Flat α] [FlatR τ] : FlatR (α × τ) := ⟨fun h1 h2 ⟨v, r, e, p, q⟩ => ⟨v, r, e, Flat.fl h1 h2 p, FlatR.fl h1 h2 q⟩⟩
theorem rpT.fl {θ τ : Type} [Ra τ] [FlatR τ] {row : θ → τ} {F : Hp} {l : Addr} {v : V} {x : θ} (h1 : ∀ xs, ¬ F l = some (.tup xs)) (h2 : ∀ o xs, ¬ F l = some (.frz o (.tup xs))) : rpT row K F v x → rpT row K (er F l) v x := fun ⟨a, vs, e, q, r⟩ => ⟨a, vs, e, er_seqT h1 h2 q, FlatR.fl h1 h2 r⟩
instance {α : Type} [Rp α] [Flat α] : Flat (T1 α) := ⟨rpT.fl⟩
instance {α β : Type} [Rp α] [Rp β] [Flat α] [Flat β] : Flat (T2 α β) := ⟨rpT.fl⟩
instance {α β γ : Type} [Rp α] [Rp β] [Rp γ] [Flat α] [Flat β] [Flat γ] : Flat (T3 α β γ) := ⟨rpT.fl⟩
instance {α β γ δ : Type} [Rp α] [Rp β] [Rp γ] [Rp δ] [Flat α] [Flat β] [Flat γ] [Flat δ] : Flat (T4 α β γ δ) := ⟨rpT.fl⟩
instance {α β γ δ ε : Type} [Rp α] [Rp β] [Rp γ] [Rp δ] [Rp ε] [Flat α] [Flat β] [Flat γ] [Flat δ] [Flat ε] : Flat (T5 α β γ δ ε) := ⟨rpT.fl⟩
theorem GdT.back {l P : Addr} {u : HO} (a : GdT (L2.upd H l u) P) (h : PlAt H l) (pu : pln u) : GdT H P := by
  obtain ⟨o, ho, po⟩ := h
  have e : L2.upd (L2.upd H l u) l o = H := by
    rw [upd_upd]; funext b
    by_cases hb : b = l
    · rw [hb, upd_same, ho]
    · exact upd_ne hb
  rw [← e]
  exact a.upd ⟨u, upd_same, pu⟩ po.ntb
theorem Gr.show_ {F H F1 H1 : Hp} {l : Addr} {o u : HO} (hl : H l = some o) (fl : F l = none) (no : lstish o) (po : pln o) (g : Gr F H F1 H1) (pu : pln u := by trivial) : Gr (upd F l u) (L2.upd H l u) (upd F1 l u) (upd H1 l u) ∧ F1 l = none ∧ H1 l = some o := by
  have f1 : F1 l = none := (g.fr l _ hl no).trans fl
  have hl1 := g.hh.k _ _ hl po.ntb
  refine ⟨⟨fun b v e => ?_, fun b v e => ?_, ⟨fun b v e n => ?_, fun b ps e => ?_, fun P a => (g.hh.w P (a.back ⟨o, hl, po⟩ pu)).upd ⟨o, hl1, po⟩ pu.ntb⟩, fun a v h n => ?_⟩, f1, hl1⟩
  · by_cases hb : b = l
    · subst hb; rw [upd_same] at e ⊢; exact e
    · rw [upd_ne hb] at e ⊢; exact g.ff _ _ e
  · by_cases hb : b = l
    · subst hb; rw [upd_same] at e ⊢; exact e
    · rw [upd_ne hb] at e ⊢; exact g.fh _ _ e
  · by_cases hb : b = l
    · subst hb; rw [upd_same] at e ⊢; exact e
    · rw [upd_ne hb] at e ⊢; exact g.hh.k _ _ e n
  · by_cases hb : b = l
    · subst hb; rw [upd_same] at e ⊢; exact ⟨_, e⟩
    · rw [upd_ne hb] at e ⊢; exact g.hh.t _ _ e
  · by_cases hb : a = l
    · subst hb; rw [upd_same, upd_same]
    · rw [upd_ne hb] at h ⊢; rw [upd_ne hb]; exact g.fr a v h n
theorem GrX.show_ {F H F1 H1 : Hp} {l : Addr} {o u : HO} (hl : H l = some o) (fl : F l = none) (no : lstish o) (po : pln o) (g : GrX K F H F1 H1) (pu : pln u := by trivial) : GrX K (upd F l u) (upd H l u) (upd F1 l u) (upd H1 l u) ∧ F1 l = none ∧ H1 l = some o := by
  obtain ⟨g1, f1, h1⟩ := g.toGr.show_ (u := u) hl fl no po pu
  exact ⟨⟨g1, (g.h.upd ⟨o, h1, po⟩ pu.ntb).2⟩, f1, h1⟩
theorem Gr.hide {F1 H1 F2 H2 : Hp} {l : Addr} {o u : HO} (hl : H1 l = some o) (f1 : F1 l = none) (po : pln o) (g : Gr (upd F1 l u) (upd H1 l u) F2 H2) (pu : pln u := by trivial) : Gr F1 H1 (er F2 l) (upd H2 l o) := by
  have h2 : H2 l = some u := g.hh.k _ _ upd_same pu.ntb
  refine ⟨fun b v e => ?_, fun b v e => ?_, ⟨fun b v e n => ?_, fun b ps e => ?_, fun P a => (g.hh.w P (a.upd ⟨o, hl, po⟩ pu.ntb)).upd ⟨u, h2, pu⟩ po.ntb⟩, fun a v h n => ?_⟩
  · have hb : b ≠ l := ne_of_none e f1
    unfold er
    rw [if_neg hb]
    exact g.ff b v (by rw [upd_ne hb]; exact e)
  · unfold er at e
    split at e
    · cases e
    · rename_i hb
      rw [upd_ne hb]; exact g.fh b v e
  · by_cases hb : b = l
    · subst hb; rw [upd_same, ← hl]; exact e
    · rw [upd_ne hb]; exact g.hh.k b v (by rw [upd_ne hb]; exact e) n
  · by_cases hb : b = l
    · subst hb; rw [hl] at e; cases e; exact po.elim
    · rw [upd_ne hb]; exact g.hh.t b ps (by rw [upd_ne hb]; exact e)
  · unfold er
    by_cases hb : a = l
    · rw [if_pos hb, hb, f1]
    · rw [if_neg hb, g.fr a v (by rw [upd_ne hb]; exact h) n, upd_ne hb]
theorem frz_no {F : Hp} {l : Addr} {od : Obj} {o : HO} (e : F l = some (.frz od o)) (no : lstish o) : (∀ xs, ¬ F l = some (.tup xs)) ∧ (∀ (o' : Obj) (xs : List V), ¬ F l = some (.frz o' (.tup xs))) :=
  ⟨fun xs h => (by rw [e] at h; cases h), fun o' xs h => (by rw [e] at h; cases h; exact no)⟩
theorem shown {F H : Hp} {l : Addr} {u : HO} (s : L2.Same F H) : L2.Same (upd F l u) (upd H l u) := fun b v e => by
  by_cases hb : b = l
  · subst hb; rw [upd_same] at e ⊢; exact e
  · rw [upd_ne hb] at e ⊢; exact s _ _ e
theorem ev_thaw {α β : Type} [Rp α] [Flat α] [Rp β] [Ob β] {x : α} {y : β} {l : Addr} (o : Own X.K H0 F H l y) (s : L2.Same F H) (h : ∀ F' H', L2.Same F F' → L2.Same F' H' → rp X.K F' (.ref l) y → (∀ a, a ≠ l → F' a = F a ∧ H' a = H a) → Ev X e σ F' H' x) : Ev X e σ F H x := fun F1 H1 g Q q => by
  obtain ⟨u, hl, r⟩ := o.h
  have hl1 := g.hh.k _ _ hl (Ob.pl r).ntb
  refine GoE.locked hl1 (Ob.mu r) fun od => ?_
  obtain ⟨g1, f1, h1⟩ := GrX.show_ (u := .frz od u) hl o.f (Ob.ls r) (Ob.pl r) g
  refine h _ _ (same_upd o.f) (shown s) (Ob.fz upd_same (Ob.mono (same_upd o.f) r)) (fun a ha => ⟨upd_ne ha, upd_ne ha⟩) _ _ g1 _ fun v F2 H2 g2 r2 => ?_
  have e2 : F2 l = some (.frz od u) := g2.ff _ _ upd_same
  obtain ⟨n1, n2⟩ := frz_no e2 (Ob.ls r)
  exact ⟨g2.fh _ _ e2, q v (er F2 l) _ (Gr.hide h1 f1 (Ob.pl r) g2) (Flat.fl n1 n2 r2)⟩
theorem et_thaw {β : Type} [Rp β] [Ob β] {x : Bool} {y : β} {l : Addr} (o : Own X.K H0 F H l y) (s : L2.Same F H) (h : ∀ F' H', L2.Same F F' → L2.Same F' H' → rp X.K F' (.ref l) y → (∀ a, a ≠ l → F' a = F a ∧ H' a = H a) → EvT X e σ F' H' x) : EvT X e σ F H x := fun F1 H1 g Q q => by
  obtain ⟨u, hl, r⟩ := o.h
  have hl1 := g.hh.k _ _ hl (Ob.pl r).ntb
  refine GoT.locked hl1 (Ob.mu r) fun od => ?_
  obtain ⟨g1, f1, h1⟩ := GrX.show_ (u := .frz od u) hl o.f (Ob.ls r) (Ob.pl r) g
  refine h _ _ (same_upd o.f) (shown s) (Ob.fz upd_same (Ob.mono (same_upd o.f) r)) (fun a ha => ⟨upd_ne ha, upd_ne ha⟩) _ _ g1 _ fun F2 H2 g2 => ?_
  have e2 : F2 l = some (.frz od u) := g2.ff _ _ upd_same
  exact ⟨g2.fh _ _ e2, q (er F2 l) _ (Gr.hide h1 f1 (Ob.pl r) g2)⟩
class FlatO (α : Type) [Rp α] [Ob α] : Prop where
  fl : ∀ {K : PySem.W.Frag} {F : Hp} {l : Addr} {o : HO} {x : α}, (∀ xs, ¬ F l = some (.tup xs)) → (∀ o xs, ¬ F l = some (.frz o (.tup xs))) → ob K F o x → ob K (er F l) o x
instance {α : Type} [Rp α] [Flat α] : FlatO (List α) := ⟨fun h1 h2 ⟨vs, e, r⟩ => ⟨vs, e, Rps.fl h1 h2 r⟩⟩
end
end Gx
namespace Gx
open PySem PySem.Spec PyProof.Rows L2
open Rp (rp)
open Ra (ra)
open Ob (ob)
section
variable {X : Cx} {K : PySem.W.Frag} {e a b c d : Expr} {es : List Expr} {σ : L2.St} {F H F0 H0 : Hp} {pos : Pos} {D : Ends} {st : Stmt} {rest body : List Stmt}
theorem Own.cg {α : Type} [Rp α] [Ob α] {xs ys : α} {l : Addr} (e : xs = ys) (o : Own K H0 F H l xs) : Own K H0 F H l ys := e ▸ o
theorem go_unpack {α : Type} [Rp α] {x : α} {tg : Expr} {g : TG} (s : SmX X.K F H) (he : Ev X e σ F H x) (hg : PG X tg g) (k : ∀ v F' H', Gr F H F' H' → rp X.K F' v x → ∀ Q : L2.St → Hp → Prop, (∀ σ' H'', GoS X rest D σ' H'' → Q σ' H'') → g v σ H' Q)
    (hs : swapsWithSole [tg] e pos.line X.env = pure false := by rfl) (hw : swappedStores [tg] e X.env = pure none := by rfl) (h1 : (assignEach [tg] X.env).map (·.2) = [assign tg X.env] := by rfl) : GoS X (.Assign [tg] e pos :: rest) D σ H :=
  GoS.cons (ps_asg pe_go hg hs hw h1) (he F H (.refl s) _ fun v F2 H2 g2 r => k v F2 H2 g2 r _ fun _ _ h => h)
end
end Gx
namespace Gx
open PySem PySem.Spec PyProof.Rows L2
open Rp (rp)
open Ra (ra)
open Ob (ob)
section
variable {X : Cx} {K : PySem.W.Frag} {e a b c d : Expr} {es : List Expr} {σ : L2.St} {F H F0 H0 : Hp} {pos : Pos} {D : Ends} {st : Stmt} {rest body : List Stmt}
theorem Rps.of_ints : ∀ ns : List Int, Rps K F (ns.map V.int) ns
  | [] => .nil
  | n :: ns => .cons rfl (Rps.of_ints ns)
class SN (α : Type) [Rp α] : Prop where
  sn : ∀ {K : PySem.W.Frag} {F : Hp} {v : V} {x : α}, rp K F v x → scal .non v = true ∧ scal v .non = true ∧ v ≠ .non
instance : SN Int := ⟨fun {K F v x} h => by
  have h : v = .int x := h
  subst h; exact ⟨rfl, rfl, fun e => nomatch e⟩⟩
instance : SN Str := ⟨fun {K F v x} h => by
  have h : v = .str x := h
  subst h; exact ⟨rfl, rfl, fun e => nomatch e⟩⟩
instance : SN Bool := ⟨fun {K F v x} h => by
  have h : v = .bl x := h
  subst h; exact ⟨rfl, rfl, fun e => nomatch e⟩⟩
instance {α : Type} [Rp α] [NN α] [DecidableEq α] [Sc α] [SN α] : Sc (Option α) := ⟨fun {K F v w x y} h1 h2 => by
  cases x with
  | none =>
    have h1 : v = .non := h1
    subst h1
    cases y with
    | none =>
      have h2 : w = .non := h2
      subst h2; exact ⟨rfl, rfl⟩
    | some y =>
      obtain ⟨s1, _, n1⟩ := SN.sn (α := α) h2
      exact ⟨s1, by rw [decide_eq_false (fun e => n1 e.symm)]; rfl⟩
  | some x =>
    cases y with
    | none =>
      have h2 : w = .non := h2
      subst h2
      obtain ⟨_, s2, n1⟩ := SN.sn (α := α) h1
      exact ⟨s2, by rw [decide_eq_false n1]; rfl⟩
    | some y =>
      obtain ⟨s1, s2⟩ := Sc.sc (α := α) h1 h2
      exact ⟨s1, by rw [s2]; simp⟩⟩
inductive Kn (K : PySem.W.Frag) (H : Hp) : V → String → Prop
  | non : Kn K H .non "NoneType"
  | bl (b : Bool) : Kn K H (.bl b) "bool"
  | int (i : Int) : Kn K H (.int i) "int"
  | str (x : Str) : Kn K H (.str x) "str"
  | lst {a : Addr} {xs : List V} : SqL K H a xs → Kn K H (.ref a) "list"
  | tup {a : Addr} {xs : List V} : SqT K H a xs → Kn K H (.ref a) "tuple"
  | dK {a : Addr} {xs : List (Key × V)} : Rd H a (.dK xs) → Kn K H (.ref a) "dict"
  | dT {a : Addr} {xs : List (List Key × V)} : Rd H a (.dT xs) → Kn K H (.ref a) "dict"
def rIsK (K : PySem.W.Frag) : List V → Hp → VK → Prop := fun xs H Q => ∃ (x : V) (U T : String) (b : Bool), xs = [x, .ty T] ∧ Kn K H x U ∧ kitB U T = some b ∧ Q (.bl b) H
class Kd (α : Type) [Rp α] where
  nm : String
  kd : ∀ {K : PySem.W.Frag} {F H : Hp} {v : V} {x : α}, L2.Same F H → rp K F v x → Kn K H v nm
instance : Kd Int := ⟨"int", fun {K F H v x} _ h => by
  have h : v = .int x := h
  subst h; exact .int _⟩
instance : Kd Bool := ⟨"bool", fun {K F H v x} _ h => by
  have h : v = .bl x := h
  subst h; exact .bl _⟩
instance : Kd Str := ⟨"str", fun {K F H v x} _ h => by
  have h : v = .str x := h
  subst h; exact .str _⟩
instance : Kd Unit := ⟨"NoneType", fun {K F H v x} _ h => by
  have h : v = .non := h
  subst h; exact .non⟩
instance {α : Type} [Rp α] : Kd (List α) := ⟨"list", fun s ⟨a, vs, e, sq, _⟩ => e ▸ .lst (s.seq sq)⟩
instance {α : Type} [Rp α] : Kd (Tp α) := ⟨"tuple", fun s ⟨a, vs, e, sq, _⟩ => e ▸ .tup (seqT_mono s sq)⟩
instance {α : Type} [Rp α] : Kd (Tn α) := ⟨"tuple", fun s ⟨a, vs, o, e, q, _, _, _⟩ => e ▸ .tup (.inl (.inr ⟨o, s _ _ q⟩))⟩
theorem rpT.kd {θ τ : Type} [Ra τ] {row : θ → τ} {F H : Hp} {v : V} {x : θ} (s : L2.Same F H) (h : rpT row K F v x) : Kn K H v "tuple" := by
  obtain ⟨a, vs, e, sq, _⟩ := h
  exact e ▸ .tup (seqT_mono s sq)
instance {α : Type} [Rp α] : Kd (T1 α) := ⟨"tuple", rpT.kd⟩
instance {α β : Type} [Rp α] [Rp β] : Kd (T2 α β) := ⟨"tuple", rpT.kd⟩
instance {α β γ : Type} [Rp α] [Rp β] [Rp γ] : Kd (T3 α β γ) := ⟨"tuple", rpT.kd⟩
instance {α β γ δ : Type} [Rp α] [Rp β] [Rp γ] [Rp δ] : Kd (T4 α β γ δ) := ⟨"tuple", rpT.kd⟩
instance {α β γ δ ε : Type} [Rp α] [Rp β] [Rp γ] [Rp δ] [Rp ε] : Kd (T5 α β γ δ ε) := ⟨"tuple", rpT.kd⟩
class Fv (α : Type) [Rp α] [DecidableEq α] : Prop where
  fv : ∀ {K : PySem.W.Frag} {F : Hp} {v : V} {x : α}, rp K F v x → flatV v = true
  ev : ∀ {K : PySem.W.Frag} {F : Hp} {v w : V} {x y : α}, rp K F v x → rp K F w y → eqV v w = decide (x = y)
instance : Fv Int := ⟨fun {K F v x} h => by
  have h : v = .int x := h
  subst h; rfl, fun {K F v w x y} h1 h2 => by
  have h1 : v = .int x := h1
  have h2 : w = .int y := h2
  subst h1; subst h2
  show (x == y) = _
  rw [Bool.beq_eq_decide_eq]⟩
instance : Fv Str := ⟨fun {K F v x} h => by
  have h : v = .str x := h
  subst h; rfl, fun {K F v w x y} h1 h2 => by
  have h1 : v = .str x := h1
  have h2 : w = .str y := h2
  subst h1; subst h2
  show (x == y) = _
  rw [Bool.beq_eq_decide_eq]⟩
theorem inV_eq {α : Type} [Rp α] [DecidableEq α] [Fv α] {v : V} {x : α} (h : rp K F v x) : ∀ {vs : List V} {xs : List α}, Rps K F vs xs → vs.all flatV = true ∧ inV v vs = decide (x ∈ xs)
  | _, _, .nil => ⟨rfl, by simp [inV]⟩
  | _, _, .cons (a := w) (b := y) (l₁ := vs) (l₂ := ys) r t => by
    obtain ⟨h1, h2⟩ := inV_eq h t
    refine ⟨by rw [List.all_cons, Fv.fv r, h1]; rfl, ?_⟩
    unfold inV at h2 ⊢
    rw [List.any_cons, h2, Fv.ev r h]
    by_cases e : x = y
    · subst e; simp
    · have e' : ¬ y = x := fun z => e z.symm
      simp [e, e']
theorem o2_inT {α θ : Type} [Rp α] [Rp θ] [TL θ α] [DecidableEq α] [Fv α] {x : α} {xs : θ} : Op2 K (rIn K false) x xs (decide (x ∈ TL.l xs)) := fun F H v w Q s rv r2 k => by
  obtain ⟨p, vs, e, sq, rs⟩ := TL.sq r2
  obtain ⟨h1, h2⟩ := inV_eq rv rs
  exact ⟨p, vs, e, .inr (sqT_mono s sq), Fv.fv rv, h1, k _ F H (.refl s) (congrArg V.bl h2)⟩
class Pd (α : Type) [Rp α] where
  toD : α → PyData
  dp : ∀ {K : PySem.W.Frag} {F : Hp} {v : V} {x : α}, rp K F v x → Dp K F v (toD x)
  eq : ∀ x y, PyData.eqv (toD x) (toD y) = true ↔ x = y
def okD {α : Type} [Rp α] [Pd α] (x : α) : Bool := SeqAt.shaped (Pd.toD x)
class PdS (α : Type) [Rp α] [Pd α] where
  dep : Nat
  de : ∀ x : α, (Pd.toD x).depth ≤ dep
instance : Pd Int := ⟨.int, fun {K F v x} h => by
  have h : v = .int x := h
  subst h; exact .int x, fun x y => by simp [PyData.eqv]⟩
instance : Pd Str := ⟨.str, fun {K F v x} h => by
  have h : v = .str x := h
  subst h; exact .str x, fun x y => by simp [PyData.eqv]⟩
instance : Pd Bool := ⟨.bool, fun {K F v x} h => by
  have h : v = .bl x := h
  subst h; exact .bl x, fun x y => by simp [PyData.eqv]⟩
end
end Gx
namespace Gx
open PySem PySem.Spec PyProof.Rows L2
open Rp (rp)
open Ra (ra)
open Ob (ob)
section
variable {X : Cx} {K : PySem.W.Frag} {e a b c d : Expr} {es : List Expr} {σ : L2.St} {F H F0 H0 : Hp} {pos : Pos} {D : Ends} {st : Stmt} {rest body : List Stmt}
theorem en_list_of {α : Type} [Rp α] {xs : List α} {p : Pos} (hm : X.mg "list" = none) (ha : Ev X a σ F H xs) (hg : Gl X "list" := by rfl) (hs : starEach [a] X.env = (false, eval a X.env) :: starEach [] X.env := by rfl) (hpl : (backTo pos (starEach [] X.env)).any (·.1) = false := by rfl) :
    EvN X (.Call (.Name "list" p) [a] [] pos) σ F H xs := fun F1 H1 g Q q =>
  GoE.of (pe_callTy call_list_of hg hm (by decide +kernel) (pa_cons pe_go pa_nil hs) (by decide) (by decide) hs hpl) (ha F1 H1 g _ fun v F2 H2 g2 ⟨p, vs, e, sq, rs⟩ => ⟨p, vs, by rw [e], .inl (g2.fh.seq sq), fun l hl => EvN.new q g2 hl rs⟩)
theorem oc_tuple {α : Type} [Rp α] {xs : List α} : OpC K (fun vs H Q => ∃ p ys, vs = [.ref p] ∧ ((SqL K H p ys ∧ ∀ l, H l = none → Q (.ref l) (upd H l (.tup ys))) ∨ (SqT K H p ys ∧ Q (.ref p) H))) (xs, ()) (Tp.mk xs) :=
  oc1 fun F H v Q s ⟨p, vs, e, sq, rs⟩ k => ⟨p, vs, by rw [e], .inl ⟨s.seq sq, fun l hl => k _ (upd F l (.tup vs)) _ (Gr.new s hl) ⟨l, vs, rfl, upd_same, rs.mono (same_upd (s.free hl))⟩⟩⟩
theorem oc_max2 {i j : Int} : OpC K (fun xs H Q => ∃ i j, xs = [.int i, .int j] ∧ Q (.int (if j > i then j else i)) H) (i, j, ()) (if j > i then j else i) :=
  oc2 fun F H v w Q s rv rw' k => ⟨i, j, by rw [show v = .int i from rv, show w = .int j from rw'], k _ F H (.refl s) rfl⟩
theorem oc_min2 {i j : Int} : OpC K (fun xs H Q => ∃ i j, xs = [.int i, .int j] ∧ Q (.int (if j < i then j else i)) H) (i, j, ()) (if j < i then j else i) :=
  oc2 fun F H v w Q s rv rw' k => ⟨i, j, by rw [show v = .int i from rv, show w = .int j from rw'], k _ F H (.refl s) rfl⟩
def rCatL (K : PySem.W.Frag) : R2 := fun x y H Q => ∃ a b xs ys, x = .ref a ∧ y = .ref b ∧ SqL K H a xs ∧ SqL K H b ys ∧ xs.length + ys.length ≤ sizeLine ∧ ∀ p, H p = none → Q (.ref p) (upd H p (.lst (xs ++ ys)))
theorem op_catL : OpR X (binaryOp .Add) (rCatL X.K) := by
  intro pins s σ H x y v u Q I rx ry h
  obtain ⟨a, b, xs, ys, rfl, rfl, ha, hb, hz, q⟩ := h
  cases rx
  cases ry
  obtain ⟨its, r, ⟨⟨cls, dd, data, sl⟩, n, ho, hc, _, hd⟩, _⟩ := I.list ha
  obtain ⟨its2, r2, ⟨⟨cls2, dd2, data2, sl2⟩, n2, ho2, hc2, _, hd2⟩, _⟩ := I.list hb
  simp only at hc hd hc2 hd2
  subst hc hd hc2 hd2
  have e : its.toArray ++ its2.toArray = (its ++ its2).toArray := by simp
  refine concat_meets ⟨_, ho, rfl⟩ ⟨_, ho2, rfl⟩ noFill_list_add seq_list_add PySem.F.slot_list_add PySem.F.entry_list_add (PySem.F.args_list_add_2 _ _) (list_addW a b its.toArray its2.toArray n n2 dd dd2 sl sl2 (by rw [List.size_toArray, List.size_toArray, ← r.length, ← r2.length]; exact hz)) ⟨ho, ho2, ?_⟩
  rw [e]
  exact ⟨.ref _, _, I.lnew (t' := s.toks) (r.append r2) (by rw [List.length_append]; exact hz), rfl, q _ I.fresh⟩
def catG {α : Type} (xs ys : List α) : Option (List α) := if xs.length + ys.length ≤ sizeLine then some (xs ++ ys) else none
theorem en_cat {α : Type} [Rp α] {xs ys r : List α} (ha : Ev X a σ F H xs) (hb : Ev X b σ F H ys) (h : catG xs ys = some r) : EvN X (.BinOp a .Add b pos) σ F H r := fun F1 H1 g Q q =>
  GoE.of (pe_op op_catL pe_go pe_go) (ha F1 H1 g _ fun v F2 H2 g2 r2 => hb F2 H2 (g.trans g2) _ fun w F3 H3 g3 ⟨p', vs', e', sq', rs'⟩ => by
    obtain ⟨p, vs, e, sq, rs⟩ := Rp.mono g3.ff r2
    unfold catG at h
    split at h
    · rename_i hz
      cases (Option.some.inj h)
      exact ⟨p, p', vs, vs', e, e', g3.fh.seq sq, g3.fh.seq sq', by rw [rs.length, rs'.length]; exact hz, fun l hl => EvN.new q (g2.trans g3) hl (Rps.append rs rs')⟩
    · cases h)
def catT {α : Type} (xs ys : Tp α) : Option (Tp α) := if xs.l.length + ys.l.length ≤ sizeLine then some ⟨xs.l ++ ys.l⟩ else none
theorem Rps.nil_r {α : Type} [Rp α] : ∀ {vs : List V} {xs : List α}, Rps K F vs xs → (vs = [] ↔ xs = [])
  | _, _, .nil => by simp
  | _, _, .cons _ _ => by simp
theorem o2_catT {α : Type} [Rp α] {xs ys r : Tp α} (h : catT xs ys = some r) : Op2 K (rCatA K) xs ys r := fun F H v w Q s ⟨p, vs, e, sq, rs⟩ ⟨p', vs', e', sq', rs'⟩ k => by
  unfold catT at h
  split at h
  · rename_i hz
    cases (Option.some.inj h)
    refine ⟨p, p', vs, vs', e, e', seqT_mono s sq, seqT_mono s sq', by rw [rs.length, rs'.length]; exact hz, fun e0 => ?_, fun _ e0 => ?_, fun _ _ l hl => ?_⟩
    · refine k _ F H (.refl s) ⟨p', vs', rfl, sq', ?_⟩
      rw [rs.nil_r.mp e0]; exact rs'
    · refine k _ F H (.refl s) ⟨p, vs, rfl, sq, ?_⟩
      rw [rs'.nil_r.mp e0, List.append_nil]; exact rs
    · exact k _ (upd F l (.tup (vs ++ vs'))) _ (Gr.new s hl) ⟨l, _, rfl, upd_same, (Rps.append rs rs').mono (same_upd (s.free hl))⟩
  · cases h
theorem ev_catT {α : Type} [Rp α] {xs ys r : Tp α} (ha : Ev X a σ F H xs) (hb : Ev X b σ F H ys) (h : catT xs ys = some r) : Ev X (.BinOp a .Add b pos) σ F H r := ev_bin op_catA (o2_catT h) ha hb
theorem ev_sliceT {α : Type} [Rp α] {xs : Tp α} {lo hi : Option Expr} {i j : Option Int} {p2 : Pos} (ha : Ev X a σ F H xs) (hl : EvO X lo σ F H i) (hh : EvO X hi σ F H j) : Ev X (.Subscript a (.Slice lo hi none p2) pos) σ F H (Tp.mk (cut xs.l i j)) := fun F1 H1 g Q q =>
  GoE.of (pe_slice sl_tupA pe_go po_go po_go) (ha F1 H1 g _ fun v F2 H2 g2 r2 => hl F2 H2 (g.trans g2) _ fun F3 H3 g3 => hh F3 H3 ((g.trans g2).trans g3) _ fun F4 H4 g4 => by
    obtain ⟨p, vs, rfl, sq, rs⟩ := Rp.mono (g3.ff.trans g4.ff) r2
    refine ⟨p, vs, rfl, seqT_mono g4.fh sq, fun hw => ?_, fun _ l hl => ?_⟩
    · refine q _ F4 H4 ((g2.trans g3).trans g4) ⟨p, vs, rfl, sq, ?_⟩
      have hw' : HT.sIx xs.l.length 0 i = 0 ∧ HT.sIx xs.l.length xs.l.length j = xs.l.length := by rw [← rs.length]; exact hw
      show Rps _ _ vs (cut xs.l i j)
      unfold cut
      rw [hw'.1, hw'.2]
      simpa using rs
    · exact q _ (upd F4 l (.tup _)) _ (((g2.trans g3).trans g4).trans (Gr.new g4.fh hl)) ⟨l, _, rfl, upd_same, (rs.cut i j).mono (same_upd (g4.fh.free hl))⟩)
end
end Gx
namespace Gx
open PySem PySem.Spec PyProof.Rows L2
abbrev S (l : List Nat) : Str := ⟨l.toArray⟩
theorem S_tl (x : Str) : S x.cps.toList = x := TL.mk_tl x
theorem szl : sizeLine = 16777216 := PySem.sizeLine_eq
theorem len_cl (z : Str) : z.length = z.cps.toList.length := by simp [Str.length]
theorem atI_ok {α : Type} {xs : List α} {i : Int} (h0 : 0 ≤ i) (h1 : i < xs.length) : ∃ v, L2.atI xs i = some v ∧ xs[i.toNat]? = some v := by
  have hl : i.toNat < xs.length := by omega
  refine ⟨xs[i.toNat], ?_, List.getElem?_eq_getElem hl⟩
  unfold L2.atI ixN
  rw [if_pos h0, if_pos h1]
  exact List.getElem?_eq_getElem hl
theorem atI_nn {α : Type} {xs : List α} {i : Int} (h0 : 0 ≤ i) : L2.atI xs i = xs[i.toNat]? := by
  unfold L2.atI ixN
  rw [if_pos h0]
  by_cases h1 : i < xs.length
  · rw [if_pos h1]; rfl
  · rw [if_neg h1, List.getElem?_eq_none (by omega)]; rfl
theorem sCut_ok {z : Str} (h : z.length ≤ sizeLine) (i j : Option Int) : ∃ r, sCut z i j = some r ∧ r.length ≤ z.length ∧ r.cps.toList = cut z.cps.toList i j := by
  refine ⟨cutS z i j, if_pos h, ?_, ?_⟩
  · unfold cutS
    rw [len_cl, len_cl]
    simp only [List.length_take, List.length_drop]
    omega
  · unfold cutS cut
    rw [len_cl]
theorem sLen_ok {z : Str} (h : z.length ≤ sizeLine) : sLen z = some (z.length : Int) := if_pos h
theorem app_cl (a b : Str) : (a ++ b).cps.toList = a.cps.toList ++ b.cps.toList := TL.tl_append a b
theorem sAdd_ok {a b : Str} (h : a.length + b.length ≤ sizeLine) : sAdd a b = some (a ++ b) := if_pos h
theorem loopN_cons {α β : Type} {st : β → α → Option β} {b b' : β} {x : α} {xs : List α} (h : st b x = some b') : loopN st b (x :: xs) = loopN st b' xs := by
  unfold loopN; rw [h]
  cases xs <;> rfl
theorem loopM_nx {α β ρ : Type} {st : β → α → Option (Lp β ρ)} {b b' : β} {x : α} {xs : List α} (h : st b x = some (.nx b')) : loopM st b (x :: xs) = loopM st b' xs := by
  rw [loopM, h]
theorem loopM_rt {α β ρ : Type} {st : β → α → Option (Lp β ρ)} {b : β} {r : ρ} {x : α} {xs : List α} (h : st b x = some (.rt r)) : loopM st b (x :: xs) = some (.rt r) := by
  rw [loopM, h]
theorem compM_map {α γ : Type} {f : α → Option (Option γ)} {g : α → γ} : ∀ {xs : List α}, (∀ x ∈ xs, f x = some (some (g x))) → compM f xs = some (xs.map g)
  | [], _ => rfl
  | x :: xs, h => by
    rw [compM, h x List.mem_cons_self, compM_map fun y hy => h y (List.mem_cons_of_mem _ hy)]
    rfl
theorem compG_map {α γ : Type} {f : α → Option (Option γ)} {g : α → γ} {xs : List α} (hl : xs.length ≤ sizeLine) (h : ∀ x ∈ xs, f x = some (some (g x))) : compG f xs = some (xs.map g) := by
  unfold compG; rw [if_pos hl]; exact compM_map h
end Gx
namespace Gx
open PySem PySem.Spec PyProof.Rows L2 RZ RT
open Rp (rp)
open Ra (ra)
open Ob (ob)
section
variable {X : Cx} {K : PySem.W.Frag} {e a b c d : Expr} {es : List Expr} {σ : L2.St} {F H F0 H0 : Hp} {pos : Pos} {D : Ends} {st : Stmt} {rest body : List Stmt}
theorem Dp.all {α : Type} [Rp α] [Pd α] : ∀ {vs : List V} {xs : List α}, Rps K F vs xs → DpAll K F vs (xs.map Pd.toD)
  | _, _, .nil => .nil
  | _, _, .cons r t => .cons (Pd.dp r) (Dp.all t)
theorem eqvAll_iff {α : Type} [Rp α] [Pd α] : ∀ xs ys : List α, PyData.eqvAll (xs.map Pd.toD) (ys.map Pd.toD) = true ↔ xs = ys
  | [], [] => by simp [PyData.eqvAll]
  | [], _ :: _ => by simp [PyData.eqvAll]
  | _ :: _, [] => by simp [PyData.eqvAll]
  | x :: xs, y :: ys => by
    rw [List.map_cons, List.map_cons, PyData.eqvAll, Bool.and_eq_true, Pd.eq, eqvAll_iff xs ys, List.cons.injEq]
instance {α : Type} [Rp α] [Pd α] : Pd (List α) := ⟨fun xs => .list (xs.map Pd.toD), fun ⟨a, vs, e, sq, rs⟩ => e ▸ .lst sq (Dp.all rs), fun x y => by rw [PyData.eqv]; exact eqvAll_iff x y⟩
instance {α : Type} [Rp α] [Pd α] : Pd (Tp α) := ⟨fun xs => .tuple (xs.l.map Pd.toD), fun ⟨a, vs, e, sq, rs⟩ => e ▸ .tup (SqT.of sq) (Dp.all rs), fun x y => by
  rw [PyData.eqv]
  cases x; cases y
  rw [eqvAll_iff, Tp.mk.injEq]⟩
class PdR (τ : Type) [Ra τ] where
  toR : τ → List PyData
  dp : ∀ {K : PySem.W.Frag} {F : Hp} {vs : List V} {x : τ}, ra K F vs x → DpAll K F vs (toR x)
  eq : ∀ x y, PyData.eqvAll (toR x) (toR y) = true ↔ x = y
instance : PdR Unit := ⟨fun _ => [], fun {K F vs x} h => by
  have h : vs = [] := h
  subst h; exact .nil, fun x y => by simp [PyData.eqvAll]⟩
instance {α τ : Type} [Rp α] [Ra τ] [Pd α] [PdR τ] : PdR (α × τ) := ⟨fun x => Pd.toD x.1 :: PdR.toR x.2, fun ⟨v, r, e, p, q⟩ => e ▸ .cons (Pd.dp p) (PdR.dp q), fun x y => by
  rw [PyData.eqvAll, Bool.and_eq_true, Pd.eq, PdR.eq, Prod.ext_iff]⟩
theorem rpT.dp {θ τ : Type} [Ra τ] [PdR τ] {row : θ → τ} {F : Hp} {v : V} {x : θ} : rpT row K F v x → Dp K F v (.tuple (PdR.toR (row x))) := fun ⟨a, vs, e, sq, rs⟩ => e ▸ .tup (SqT.of sq) (PdR.dp rs)
theorem rowEq {θ τ : Type} [Ra τ] [PdR τ] {row : θ → τ} (inj : ∀ x y, row x = row y ↔ x = y) (x y : θ) : PyData.eqv (.tuple (PdR.toR (row x))) (.tuple (PdR.toR (row y))) = true ↔ x = y := by
  rw [PyData.eqv, PdR.eq]; exact inj x y
instance {α : Type} [Rp α] [Pd α] : Pd (T1 α) := ⟨fun x => .tuple (PdR.toR x.row), rpT.dp, rowEq fun x y => by cases x; cases y; simp [T1.row]⟩
instance {α β : Type} [Rp α] [Rp β] [Pd α] [Pd β] : Pd (T2 α β) := ⟨fun x => .tuple (PdR.toR x.row), rpT.dp, rowEq fun x y => by cases x; cases y; simp [T2.row]⟩
instance {α β γ : Type} [Rp α] [Rp β] [Rp γ] [Pd α] [Pd β] [Pd γ] : Pd (T3 α β γ) := ⟨fun x => .tuple (PdR.toR x.row), rpT.dp, rowEq fun x y => by cases x; cases y; simp [T3.row]⟩
instance {α β γ δ : Type} [Rp α] [Rp β] [Rp γ] [Rp δ] [Pd α] [Pd β] [Pd γ] [Pd δ] : Pd (T4 α β γ δ) := ⟨fun x => .tuple (PdR.toR x.row), rpT.dp, rowEq fun x y => by cases x; cases y; simp [T4.row]⟩
instance {α β γ δ ε : Type} [Rp α] [Rp β] [Rp γ] [Rp δ] [Rp ε] [Pd α] [Pd β] [Pd γ] [Pd δ] [Pd ε] : Pd (T5 α β γ δ ε) := ⟨fun x => .tuple (PdR.toR x.row), rpT.dp, rowEq fun x y => by cases x; cases y; simp [T5.row]⟩
class PdO (α : Type) [Rp α] [Pd α] : Prop where
  nn : ∀ x : α, Pd.toD x ≠ .none
instance : PdO Int := ⟨fun _ h => nomatch h⟩
instance : PdO Str := ⟨fun _ h => nomatch h⟩
instance : PdO Bool := ⟨fun _ h => nomatch h⟩
instance {α : Type} [Rp α] [Pd α] : PdO (List α) := ⟨fun _ h => nomatch h⟩
instance {α : Type} [Rp α] [Pd α] : PdO (Tp α) := ⟨fun _ h => nomatch h⟩
instance {α β : Type} [Rp α] [Rp β] [Pd α] [Pd β] : PdO (T2 α β) := ⟨fun _ h => nomatch h⟩
instance {α β γ : Type} [Rp α] [Rp β] [Rp γ] [Pd α] [Pd β] [Pd γ] : PdO (T3 α β γ) := ⟨fun _ h => nomatch h⟩
theorem eqv_nl {d : PyData} : PyData.eqv .none d = true → d = .none := by cases d <;> simp [PyData.eqv]
theorem eqv_nr {d : PyData} : PyData.eqv d .none = true → d = .none := by cases d <;> simp [PyData.eqv]
def optD {α : Type} [Rp α] [Pd α] : Option α → PyData
  | none => .none
  | some x => Pd.toD x
instance {α : Type} [Rp α] [NN α] [Pd α] [PdO α] : Pd (Option α) := ⟨optD, fun {K F v x} h => by
  cases x with
  | none =>
    have h : v = .non := h
    subst h; exact .non
  | some x => exact Pd.dp (α := α) h, fun x y => by
  cases x with
  | none =>
    cases y with
    | none => simp [optD, PyData.eqv]
    | some y =>
      constructor
      · intro h; exact absurd (eqv_nl h) (PdO.nn y)
      · intro h; cases h
  | some x =>
    cases y with
    | none =>
      constructor
      · intro h; exact absurd (eqv_nr h) (PdO.nn x)
      · intro h; cases h
    | some y => simp [optD, Pd.eq]⟩
class PdF (α : Type) [Rp α] [Pd α] : Prop where
  ok : ∀ x : α, (Pd.toD x).canLay0 = true
instance : PdS Int := ⟨0, fun _ => by simp [Pd.toD, PyData.depth]⟩
instance : PdS Str := ⟨0, fun _ => by simp [Pd.toD, PyData.depth]⟩
instance : PdS Bool := ⟨0, fun _ => by simp [Pd.toD, PyData.depth]⟩
theorem dpAll_le {α : Type} [Rp α] [Pd α] [PdS α] : ∀ xs : List α, PyData.depthAll (xs.map Pd.toD) ≤ PdS.dep α
  | [] => by simp [PyData.depthAll]
  | x :: xs => by
    rw [List.map_cons, PyData.depthAll]
    exact Nat.max_le.mpr ⟨PdS.de x, dpAll_le xs⟩
instance {α : Type} [Rp α] [Pd α] [PdS α] : PdS (List α) := ⟨PdS.dep α + 1, fun x => by
  show (PyData.depthAll (x.map Pd.toD)) + 1 ≤ _
  exact Nat.succ_le_succ (dpAll_le x)⟩
instance {α : Type} [Rp α] [Pd α] [PdS α] : PdS (Tp α) := ⟨PdS.dep α + 1, fun x => by
  show (PyData.depthAll (x.l.map Pd.toD)) + 1 ≤ _
  exact Nat.succ_le_succ (dpAll_le x.l)⟩
class PdRS (τ : Type) [Ra τ] [PdR τ] where
  dep : Nat
  de : ∀ x : τ, PyData.depthAll (PdR.toR x) ≤ dep
instance : PdRS Unit := ⟨0, fun _ => by simp [PdR.toR, PyData.depthAll]⟩
instance {α τ : Type} [Rp α] [Ra τ] [Pd α] [PdR τ] [PdS α] [PdRS τ] : PdRS (α × τ) := ⟨max (PdS.dep α) (PdRS.dep τ), fun x => by
  show max (PyData.depth _) (PyData.depthAll _) ≤ _
  have h1 := PdS.de x.1
  have h2 := PdRS.de x.2
  omega⟩
instance {α : Type} [Rp α] [Pd α] [PdS α] : PdS (T1 α) := ⟨PdRS.dep (α × Unit) + 1, fun x => Nat.succ_le_succ (PdRS.de x.row)⟩
instance {α β : Type} [Rp α] [Rp β] [Pd α] [Pd β] [PdS α] [PdS β] : PdS (T2 α β) := ⟨PdRS.dep (α × β × Unit) + 1, fun x => Nat.succ_le_succ (PdRS.de x.row)⟩
instance {α β γ : Type} [Rp α] [Rp β] [Rp γ] [Pd α] [Pd β] [Pd γ] [PdS α] [PdS β] [PdS γ] : PdS (T3 α β γ) := ⟨PdRS.dep (α × β × γ × Unit) + 1, fun x => Nat.succ_le_succ (PdRS.de x.row)⟩
instance {α β γ δ : Type} [Rp α] [Rp β] [Rp γ] [Rp δ] [Pd α] [Pd β] [Pd γ] [Pd δ] [PdS α] [PdS β] [PdS γ] [PdS δ] : PdS (T4 α β γ δ) := ⟨PdRS.dep (α × β × γ × δ × Unit) + 1, fun x => Nat.succ_le_succ (PdRS.de x.row)⟩
instance {α β γ δ ε : Type} [Rp α] [Rp β] [Rp γ] [Rp δ] [Rp ε] [Pd α] [Pd β] [Pd γ] [Pd δ] [Pd ε] [PdS α] [PdS β] [PdS γ] [PdS δ] [PdS ε] : PdS (T5 α β γ δ ε) := ⟨PdRS.dep (α × β × γ × δ × ε × Unit) + 1, fun x => Nat.succ_le_succ (PdRS.de x.row)⟩
instance {α : Type} [Rp α] [NN α] [Pd α] [PdO α] [PdS α] : PdS (Option α) := ⟨PdS.dep α, fun x => by
  cases x with
  | none => exact Nat.zero_le _
  | some x => exact PdS.de x⟩
instance : PdF Int := ⟨fun _ => by simp [Pd.toD, PyData.canLay0]⟩
instance : PdF Bool := ⟨fun _ => by simp [Pd.toD, PyData.canLay0]⟩
theorem layAll {α : Type} [Rp α] [Pd α] : ∀ {xs : List α}, (∀ x ∈ xs, (Pd.toD x).canLay0 = true) → PyData.canLayAll0 (xs.map Pd.toD) = true
  | [], _ => by simp [PyData.canLayAll0]
  | x :: xs, h => by
    rw [List.map_cons, PyData.canLayAll0, h x List.mem_cons_self, layAll fun y hy => h y (List.mem_cons_of_mem _ hy)]; rfl
instance {α : Type} [Rp α] [Pd α] [PdF α] : PdF (List α) := ⟨fun x => layAll fun y _ => PdF.ok y⟩
instance {α : Type} [Rp α] [Pd α] [PdF α] : PdF (Tp α) := ⟨fun x => layAll fun y _ => PdF.ok y⟩
class PdRF (τ : Type) [Ra τ] [PdR τ] : Prop where
  ok : ∀ x : τ, PyData.canLayAll0 (PdR.toR x) = true
instance : PdRF Unit := ⟨fun _ => by simp [PdR.toR, PyData.canLayAll0]⟩
instance {α τ : Type} [Rp α] [Ra τ] [Pd α] [PdR τ] [PdF α] [PdRF τ] : PdRF (α × τ) := ⟨fun x => by
  show (PyData.canLay0 _ && PyData.canLayAll0 _) = true
  rw [PdF.ok, PdRF.ok]; rfl⟩
instance {α : Type} [Rp α] [Pd α] [PdF α] : PdF (T1 α) := ⟨fun x => PdRF.ok x.row⟩
instance {α β : Type} [Rp α] [Rp β] [Pd α] [Pd β] [PdF α] [PdF β] : PdF (T2 α β) := ⟨fun x => PdRF.ok x.row⟩
instance {α β γ : Type} [Rp α] [Rp β] [Rp γ] [Pd α] [Pd β] [Pd γ] [PdF α] [PdF β] [PdF γ] : PdF (T3 α β γ) := ⟨fun x => PdRF.ok x.row⟩
instance {α β γ δ : Type} [Rp α] [Rp β] [Rp γ] [Rp δ] [Pd α] [Pd β] [Pd γ] [Pd δ] [PdF α] [PdF β] [PdF γ] [PdF δ] : PdF (T4 α β γ δ) := ⟨fun x => PdRF.ok x.row⟩
instance {α β γ δ ε : Type} [Rp α] [Rp β] [Rp γ] [Rp δ] [Rp ε] [Pd α] [Pd β] [Pd γ] [Pd δ] [Pd ε] [PdF α] [PdF β] [PdF γ] [PdF δ] [PdF ε] : PdF (T5 α β γ δ ε) := ⟨fun x => PdRF.ok x.row⟩
instance {α : Type} [Rp α] [NN α] [Pd α] [PdO α] [PdF α] : PdF (Option α) := ⟨fun x => by
  cases x with
  | none => rfl
  | some x => exact PdF.ok x⟩
def eqG {α : Type} [Rp α] [Pd α] [DecidableEq α] (x y : α) : Option Bool := if (okD x && okD y) = true then some (decide (x = y)) else none
def inG {α : Type} [Rp α] [Pd α] [DecidableEq α] (x : α) (xs : List α) : Option Bool := if (okD x && okD xs) = true then some (decide (x ∈ xs)) else none
def enumF {α : Type} : Int → List α → List (T2 Int α)
  | _, [] => []
  | i, x :: xs => ⟨i, x⟩ :: enumF (i + 1) xs
abbrev enumL {α : Type} (xs : List α) : List (T2 Int α) := enumF 0 xs
def zipL {α β : Type} : List α → List β → List (T2 α β)
  | x :: xs, y :: ys => ⟨x, y⟩ :: zipL xs ys
  | _, _ => []
theorem zipL_get {α β : Type} : ∀ {xs : List α} {ys : List β} {i : Nat} {z : T2 α β}, (zipL xs ys)[i]? = some z → xs[i]? = some z.a ∧ ys[i]? = some z.b
  | [], _, _, _, h => by simp [zipL] at h
  | _ :: _, [], _, _, h => by simp [zipL] at h
  | x :: xs, y :: ys, 0, z, h => by
    simp [zipL] at h; subst h; simp
  | x :: xs, y :: ys, i + 1, z, h => by
    have h' : (zipL xs ys)[i]? = some z := by simpa [zipL] using h
    obtain ⟨h1, h2⟩ := zipL_get h'
    exact ⟨by simpa using h1, by simpa using h2⟩
theorem zipL_len {α β : Type} : ∀ {xs : List α} {ys : List β}, (zipL xs ys).length = min xs.length ys.length
  | [], _ => by simp [zipL]
  | _ :: _, [] => by simp [zipL]
  | x :: xs, y :: ys => by rw [zipL, List.length_cons, zipL_len, List.length_cons, List.length_cons]; omega
theorem pair_new {α β : Type} [Rp α] [Rp β] {T : Addr} {v w : V} {x : α} {y : β} (s : L2.Same F H) (hT : H T = none) (rv : rp K F v x) (rw' : rp K F w y) : ∃ F', Gr F H F' (upd H T (.tup [v, w])) ∧ rp K F' (.ref T) (T2.mk x y) :=
  ⟨_, Gr.new s hT, T, [v, w], rfl, upd_same, v, [w], rfl, Rp.mono (same_upd (s.free hT)) rv, w, [], rfl, Rp.mono (same_upd (s.free hT)) rw', rfl⟩
theorem ei_zipT {α β θ θ' : Type} [Rp α] [Rp β] [Rp θ] [Rp θ'] [TL θ α] [TL θ' β] {xs : θ} {ys : θ'} {p tpos : Pos} {elts : List Expr} {kk : Nat} (ha : Ev X a σ F H xs) (hb : Ev X b σ F H ys) (hm : X.mg "zip" = none) (hg : Gl X "zip" := by rfl) (hs : starEach [a, b] X.env = (false, eval a X.env) :: starEach [b] X.env := by rfl) (hs2 : starEach [b] X.env = (false, eval b X.env) :: starEach [] X.env := by rfl)
    (hpl : (backTo pos (starEach [b] X.env)).any (·.1) = false := by rfl) : EvI X (.Tuple elts kk tpos) (.Call (.Name "zip" p) [a, b] [] pos) σ F H (zipL (TL.l xs) (TL.l ys)) := fun F1 H1 g R q =>
  GoI.of (pi_zipA hg hm (pa_cons pe_go (pa_cons pe_go pa_nil hs2) hs) hs hpl) (ha F1 H1 g _ fun v F2 H2 g2 r2 => hb F2 H2 (g.trans g2) _ fun w F3 H3 g3 r3 => by
    obtain ⟨p', vs', e', sq', rs'⟩ := TL.sq r3
    obtain ⟨p, vs, e, sq, rs⟩ := TL.sq (Rp.mono g3.ff r2)
    refine ⟨p, p', vs, vs', by rw [e, e'], .inr ⟨sqT_mono g3.fh sq, sqT_mono g3.fh sq', q _ F3 H3 (g2.trans g3) fun i Fi Hi s1 s2 => ?_⟩⟩
    have q1 : SqT X.K Hi p vs := sqT_mono s2 (sqT_mono s1 sq)
    have q2 : SqT X.K Hi p' vs' := sqT_mono s2 (sqT_mono s1 sq')
    refine ⟨fun x hx => ?_, fun e => ⟨vs, vs', q1, q2, by rw [e, zipL_len, rs.length, rs'.length]; omega⟩⟩
    obtain ⟨h1, h2⟩ := zipL_get hx
    obtain ⟨y, hy, ry⟩ := rs.get h1
    obtain ⟨z, hz, rz⟩ := rs'.get h2
    refine ⟨⟨vs, vs', y, z, q1, q2, hy, hz⟩, fun v H' ⟨T, x1, y1, e1, e2, e3, e4, e5⟩ => ?_⟩
    subst e1; subst e3
    have e6 := e4 vs q1
    have e7 := e5 vs' q2
    rw [hy] at e6; rw [hz] at e7
    cases e6; cases e7
    exact pair_new s2 e2 (Rp.mono s1 ry) (Rp.mono s1 rz))
def idxG {α : Type} [Rp α] [Pd α] [DecidableEq α] (xs : List α) (x : α) : Option Int := if (okD x && okD xs) = true ∧ x ∈ xs then some ((xs.idxOf x : Nat) : Int) else none
def rTupN (K : PySem.W.Frag) : List V → Hp → VK → Prop := fun xs H Q => ∃ p ys, xs = [.ref p] ∧ SqL K H p ys ∧ ∀ l o, H l = none → o.dict = none → o.cls = .type "tuple" → Q (.ref l) (upd H l (.frz o (.tup ys)))
def tBMn (r : V → List V → Hp → VK → Prop) (to : TE) (t : TA) : TE := fun σ H Q => to σ H fun x H1 => (∃ p o xs, x = .ref p ∧ H1 p = some (.frz o (.tup xs)) ∧ o.dict = none ∧ o.cls = .type "tuple") ∧ t σ H1 fun xs H2 => r x xs H2 Q
def idxT (xs : List Str) (x : Str) : Option Int := if x ∈ xs then some ((xs.idxOf x : Nat) : Int) else none
def sPart (x y : Str) : Option (T3 Str Str Str) := if x.length ≤ sizeLine ∧ (y.length == 0) = false then some ⟨(Txt.partition x y).1, (Txt.partition x y).2.1, (Txt.partition x y).2.2⟩ else none
end
end Gx
namespace Gx
open PySem PySem.Spec PyProof.Rows L2
open Rp (rp)
open Ra (ra)
open Ob (ob)
section
variable {κ α β : Type} [DecidableEq κ]
def kvLook : List (κ × α) → κ → Option α
  | [], _ => none
  | p :: r, k => if p.1 = k then some p.2 else kvLook r k
def kvPut (l : List (κ × α)) (k : κ) (v : α) : List (κ × α) := if (l.any fun p => decide (p.1 = k)) = true then l.map (fun p => if p.1 = k then (p.1, v) else p) else l ++ [(k, v)]
def kvDrop (l : List (κ × α)) (k : κ) : List (κ × α) := l.filter fun p => decide (p.1 ≠ k)
variable {κ' : Type} [DecidableEq κ'] {g : κ → κ'}
abbrev kvm (g : κ → κ') (l : List (κ × α)) : List (κ' × α) := l.map fun p => (g p.1, p.2)
theorem kvm_val (hg : ∀ x y, g x = g y → x = y) (k : κ) : ∀ l : List (κ × V), valV (kvm g l) (g k) = kvLook l k
  | [] => rfl
  | p :: r => by
    by_cases e : p.1 = k
    · subst e; simp [valV, kvLook]
    · have e' : ¬ g p.1 = g k := fun z => e (hg _ _ z)
      have ih := kvm_val hg k r
      unfold valV at ih ⊢
      rw [kvm, List.map_cons, List.find?_cons, decide_eq_false e', kvLook, if_neg e]
      exact ih
theorem kvm_any (hg : ∀ x y, g x = g y → x = y) (k : κ) (l : List (κ × α)) : ((kvm g l).any fun p => decide (p.1 = g k)) = l.any fun p => decide (p.1 = k) := by
  induction l with
  | nil => rfl
  | cons p r ih =>
    rw [kvm, List.map_cons, List.any_cons, List.any_cons, ← ih]
    congr 1
    rw [decide_eq_decide]
    exact ⟨hg _ _, fun e => e ▸ rfl⟩
theorem kvm_put (hg : ∀ x y, g x = g y → x = y) (k : κ) (v : V) (l : List (κ × V)) : putK (kvm g l) (g k) v = kvm g (kvPut l k v) := by
  unfold putK kvPut
  rw [kvm_any hg]
  split
  · rw [kvm, kvm, List.map_map, List.map_map]
    refine List.map_congr_left fun p _ => ?_
    show (if g p.1 = g k then (g p.1, v) else (g p.1, p.2)) = _
    by_cases e : p.1 = k
    · subst e; simp
    · rw [if_neg (fun z => e (hg _ _ z))]; simp [e]
  · simp [kvm]
theorem kvPut_len (l : List (κ × α)) (k : κ) (v : α) : (kvPut l k v).length ≤ l.length + 1 := by
  unfold kvPut; split
  · rw [List.length_map]; omega
  · rw [List.length_append]; simp
theorem kvLook_put (l : List (κ × α)) (k k' : κ) (v : α) : kvLook (kvPut l k v) k' = if k = k' then some v else kvLook l k' := by
  unfold kvPut
  split
  · rename_i h
    induction l with
    | nil => cases h
    | cons p r ih =>
      rw [List.map_cons]
      by_cases e : p.1 = k
      · rw [if_pos e, kvLook]
        by_cases e2 : k = k'
        · rw [if_pos e2, if_pos (e.trans e2)]
        · rw [if_neg e2, if_neg (fun z => e2 (e.symm.trans z)), kvLook, if_neg (fun z => e2 (e.symm.trans z))]
          clear ih h
          induction r with
          | nil => rfl
          | cons q s ih =>
            rw [List.map_cons]
            by_cases e3 : q.1 = k
            · rw [if_pos e3, kvLook, if_neg (fun z => e2 (e3.symm.trans z)), ih, kvLook, if_neg (fun z => e2 (e3.symm.trans z))]
            · rw [if_neg e3, kvLook, ih, kvLook]
      · rw [if_neg e, kvLook]
        have h' : (r.any fun p => decide (p.1 = k)) = true := by
          rw [List.any_cons, decide_eq_false e, Bool.false_or] at h; exact h
        rw [ih h', kvLook]
        by_cases e2 : k = k'
        · rw [if_pos e2, if_neg (fun z => e (z.trans e2.symm)), if_pos e2]
        · rw [if_neg e2, if_neg e2]
  · rename_i h
    induction l with
    | nil => simp [kvLook]
    | cons p r ih =>
      have h1 : ¬ p.1 = k ∧ ¬ (r.any fun p => decide (p.1 = k)) = true := by
        constructor
        · intro e; exact h (by rw [List.any_cons, decide_eq_true e]; rfl)
        · intro e; exact h (by rw [List.any_cons, e, Bool.or_true])
      rw [List.cons_append, kvLook, ih h1.2, kvLook]
      by_cases e2 : k = k'
      · rw [if_pos e2, if_neg (fun z => h1.1 (z.trans e2.symm)), if_pos e2]
      · rw [if_neg e2, if_neg e2]
end
structure Dct (κ ν : Type) where
  l : List (κ × ν)
  deriving DecidableEq
abbrev KR {κ ν : Type} [Rp ν] (K : PySem.W.Frag) (F : Hp) : List (κ × V) → List (κ × ν) → Prop := Paired fun p q => p.1 = q.1 ∧ rp K F p.2 q.2
section
variable {κ ν : Type} [Rp ν] {K : PySem.W.Frag} {F F' : Hp}
theorem KR.mono {kvs : List (κ × V)} {l : List (κ × ν)} (s : L2.Same F F') (h : KR K F kvs l) : KR K F' kvs l := Paired.mapP h fun _ _ ⟨e, r⟩ => ⟨e, Rp.mono s r⟩
variable [DecidableEq κ]
theorem KR.look (k : κ) : ∀ {kvs : List (κ × V)} {l : List (κ × ν)}, KR K F kvs l → (kvLook kvs k = none ∧ kvLook l k = none) ∨ ∃ v x, kvLook kvs k = some v ∧ kvLook l k = some x ∧ rp K F v x
  | _, _, .nil => .inl ⟨rfl, rfl⟩
  | _, _, .cons (a := p) (b := q) ⟨e, r⟩ t => by
    by_cases h : p.1 = k
    · exact .inr ⟨p.2, q.2, by rw [kvLook, if_pos h], by rw [kvLook, if_pos (e ▸ h)], r⟩
    · rw [kvLook, if_neg h, kvLook, if_neg (fun z => h (e.trans z))]
      exact KR.look k t
theorem KR.any (k : κ) : ∀ {kvs : List (κ × V)} {l : List (κ × ν)}, KR K F kvs l → (kvs.any fun p => decide (p.1 = k)) = l.any fun p => decide (p.1 = k)
  | _, _, .nil => rfl
  | _, _, .cons ⟨e, _⟩ t => by rw [List.any_cons, List.any_cons, KR.any k t, e]
theorem KR.map (k : κ) {v : V} {x : ν} (r : rp K F v x) : ∀ {kvs : List (κ × V)} {l : List (κ × ν)}, KR K F kvs l → KR K F (kvs.map fun p => if p.1 = k then (p.1, v) else p) (l.map fun p => if p.1 = k then (p.1, x) else p)
  | _, _, .nil => .nil
  | _, _, .cons (a := p) (b := q) ⟨e, r'⟩ t => by
    rw [List.map_cons, List.map_cons]
    refine .cons ?_ (KR.map k r t)
    by_cases h : p.1 = k
    · rw [if_pos h, if_pos (e ▸ h)]; exact ⟨e, r⟩
    · rw [if_neg h, if_neg (fun z => h (e.trans z))]; exact ⟨e, r'⟩
theorem KR.app {kvs ws : List (κ × V)} {l m : List (κ × ν)} (h : KR K F kvs l) (h' : KR K F ws m) : KR K F (kvs ++ ws) (l ++ m) := by
  induction h with
  | nil => exact h'
  | cons r t ih => exact .cons r ih
theorem KR.put {k : κ} {v : V} {x : ν} {kvs : List (κ × V)} {l : List (κ × ν)} (h : KR K F kvs l) (r : rp K F v x) : KR K F (kvPut kvs k v) (kvPut l k x) := by
  unfold kvPut
  rw [h.any k]
  split
  · exact KR.map k r h
  · exact h.app (.cons ⟨rfl, r⟩ .nil)
theorem KR.drop {k : κ} : ∀ {kvs : List (κ × V)} {l : List (κ × ν)}, KR K F kvs l → KR K F (kvDrop kvs k) (kvDrop l k)
  | _, _, .nil => .nil
  | _, _, .cons (a := p) (b := q) ⟨e, r'⟩ t => by
    unfold kvDrop
    by_cases h : p.1 = k
    · rw [List.filter_cons_of_neg (by simp [h]), List.filter_cons_of_neg (by simp [← e, h])]; exact KR.drop t
    · rw [List.filter_cons_of_pos (by simp [h]), List.filter_cons_of_pos (by simp [← e, h])]; exact .cons ⟨e, r'⟩ (KR.drop t)
end
class KeyS (κ : Type) [Rp κ] where
  g : κ → Key
  inj : ∀ x y, g x = g y → x = y
  rpg : ∀ {K : PySem.W.Frag} {F : Hp} {v : V} {k : κ}, rp K F v k ↔ v = kV (g k)
instance : KeyS Int := ⟨.inl, fun _ _ h => Sum.inl.inj h, Iff.rfl⟩
instance : KeyS Str := ⟨.inr, fun _ _ h => Sum.inr.inj h, Iff.rfl⟩
class KeyT (κ : Type) [Rp κ] where
  g : κ → List Key
  inj : ∀ x y, g x = g y → x = y
  rpg : ∀ {K : PySem.W.Frag} {F : Hp} {v : V} {k : κ}, rp K F v k ↔ ∃ b, v = .ref b ∧ F b = some (.tup ((g k).map kV))
class DKey (κ : Type) [Rp κ] [DecidableEq κ] where
  hob : List (κ × V) → HO
  inj : ∀ {a b}, hob a = hob b → a = b
  mu : ∀ kvs, Mut (some (hob kvs))
  ls : ∀ kvs, lstish (hob kvs)
  isD : ∀ {H : Hp} {a : Addr} {kvs}, Rd H a (hob kvs) → IsD H a
  get : ∀ {K : PySem.W.Frag} {F H : Hp} {a : Addr} {v : V} {k : κ} {kvs}, L2.Same F H → rp K F v k → Rd H a (hob kvs) → DGet H a v (kvLook kvs k)
  put : ∀ {K : PySem.W.Frag} {F H : Hp} {a : Addr} {v x : V} {k : κ} {kvs}, L2.Same F H → rp K F v k → H a = some (hob kvs) → kvs.length < sizeLine → DPut H a v x (upd H a (hob (kvPut kvs k x)))
  new : ∀ {X : Cx} {pos : Pos}, PE X (.Dict [] [] pos) fun _ H Q => ∀ p, H p = none → Q (.ref p) (upd H p (hob []))
  kd : ∀ {K : PySem.W.Frag} {H : Hp} {a : Addr} {kvs}, Rd H a (hob kvs) → Kn K H (.ref a) "dict"
  le : ∀ {P : Program} {w : World} {H : Hp} {h : Heap} {a : Addr} {kvs}, ObjOk P w H h a (hob kvs) → kvs.length ≤ sizeLine
theorem kvm_inj {κ κ' α : Type} {g : κ → κ'} (hg : ∀ x y, g x = g y → x = y) : ∀ {a b : List (κ × α)}, kvm g a = kvm g b → a = b
  | [], [], _ => rfl
  | [], _ :: _, h => by cases h
  | _ :: _, [], h => by cases h
  | p :: r, q :: s, h => by
    rw [kvm, kvm, List.map_cons, List.map_cons, List.cons.injEq] at h
    obtain ⟨h1, h2⟩ := h
    rw [kvm_inj hg h2]
    rw [Prod.mk.injEq] at h1
    congr 1
    exact Prod.ext (hg _ _ h1.1) h1.2
theorem kvm_len {κ κ' α : Type} {g : κ → κ'} (l : List (κ × α)) : (kvm g l).length = l.length := by rw [kvm, List.length_map]
instance {κ : Type} [Rp κ] [DecidableEq κ] [KeyS κ] : DKey κ where
  hob kvs := .dK (kvm KeyS.g kvs)
  inj h := kvm_inj KeyS.inj (HO.dK.inj h)
  mu _ := trivial
  ls _ := trivial
  isD h := .inl ⟨_, h⟩
  get s r h := .inl ⟨_, _, h, KeyS.rpg.mp r, (kvm_val KeyS.inj _ _).symm⟩
  put s r h hl := .inl ⟨_, _, h, KeyS.rpg.mp r, by rw [kvm_len]; exact hl, by rw [kvm_put KeyS.inj]⟩
  new := pe_dnewK
  kd h := .dK h
  le h := by obtain ⟨z, _⟩ := (show ObjOk _ _ _ _ _ (.dK _) from h); rw [kvm_len] at z; exact z
instance {κ : Type} [Rp κ] [DecidableEq κ] [KeyT κ] : DKey κ where
  hob kvs := .dT (kvm KeyT.g kvs)
  inj h := kvm_inj KeyT.inj (HO.dT.inj h)
  mu _ := trivial
  ls _ := trivial
  isD h := .inr ⟨_, h⟩
  get s r h := by
    obtain ⟨b, e, hb⟩ := KeyT.rpg.mp r
    exact .inr ⟨_, _, b, h, e, s _ _ hb, (kvm_val KeyT.inj _ _).symm⟩
  put s r h hl := by
    obtain ⟨b, e, hb⟩ := KeyT.rpg.mp r
    exact .inr ⟨_, _, b, h, e, s _ _ hb, by rw [kvm_len]; exact hl, by rw [kvm_put KeyT.inj]⟩
  new := pe_dnewT
  kd h := .dT h
  le h := by obtain ⟨z, _⟩ := (show ObjOk _ _ _ _ _ (.dT _) from h); rw [kvm_len] at z; exact z
class KeyR (τ : Type) [Ra τ] where
  g : τ → List Key
  inj : ∀ x y, g x = g y → x = y
  rpg : ∀ {K : PySem.W.Frag} {F : Hp} {vs : List V} {k : τ}, ra K F vs k ↔ vs = (g k).map kV
instance : KeyR Unit := ⟨fun _ => [], fun _ _ _ => rfl, Iff.rfl⟩
instance {α τ : Type} [Rp α] [Ra τ] [KeyS α] [KeyR τ] : KeyR (α × τ) := ⟨fun x => KeyS.g x.1 :: KeyR.g x.2, fun x y h => by
  rw [List.cons.injEq] at h
  exact Prod.ext (KeyS.inj _ _ h.1) (KeyR.inj _ _ h.2), by
  intro K F vs k
  constructor
  · rintro ⟨v, r, e, p, q⟩
    rw [e, KeyS.rpg.mp p, KeyR.rpg.mp q]; rfl
  · intro h
    exact ⟨_, _, h, KeyS.rpg.mpr rfl, KeyR.rpg.mpr rfl⟩⟩
theorem keyR_rp {θ τ : Type} [Ra τ] [KeyR τ] {row : θ → τ} {K : PySem.W.Frag} {F : Hp} {v : V} {k : θ} : rpT row K F v k ↔ ∃ b, v = .ref b ∧ F b = some (.tup ((KeyR.g (row k)).map kV)) := by
  constructor
  · rintro ⟨b, vs, e, q, r⟩
    exact ⟨b, e, by rw [← KeyR.rpg.mp r]; exact q⟩
  · rintro ⟨b, e, q⟩
    exact ⟨b, _, e, q, KeyR.rpg.mpr rfl⟩
instance {α : Type} [Rp α] [KeyS α] : KeyT (T1 α) := ⟨fun x => KeyR.g x.row, fun x y h => by cases x; cases y; simpa [T1.row] using KeyR.inj _ _ h, keyR_rp⟩
instance {α β : Type} [Rp α] [Rp β] [KeyS α] [KeyS β] : KeyT (T2 α β) := ⟨fun x => KeyR.g x.row, fun x y h => by cases x; cases y; simpa [T2.row] using KeyR.inj _ _ h, keyR_rp⟩
instance {α β γ : Type} [Rp α] [Rp β] [Rp γ] [KeyS α] [KeyS β] [KeyS γ] : KeyT (T3 α β γ) := ⟨fun x => KeyR.g x.row, fun x y h => by cases x; cases y; simpa [T3.row] using KeyR.inj _ _ h, keyR_rp⟩
theorem keys_rps {α : Type} [Rp α] [KeyS α] {K : PySem.W.Frag} {F : Hp} : ∀ {vs : List V} {xs : List α}, Rps K F vs xs ↔ vs = (xs.map KeyS.g).map kV
  | [], [] => ⟨fun _ => rfl, fun _ => .nil⟩
  | [], _ :: _ => ⟨fun h => (by cases h), fun h => (by cases h)⟩
  | _ :: _, [] => ⟨fun h => (by cases h), fun h => (by cases h)⟩
  | v :: vs, x :: xs => by
    rw [List.map_cons, List.map_cons]
    constructor
    · intro h
      cases h with
      | cons r t => rw [KeyS.rpg.mp r, keys_rps.mp t]
    · intro h
      rw [List.cons.injEq] at h
      exact .cons (KeyS.rpg.mpr h.1) (keys_rps.mpr h.2)
instance {α : Type} [Rp α] [KeyS α] : KeyT (Tp α) := ⟨fun x => x.l.map KeyS.g, fun x y h => by
  cases x; cases y
  congr 1
  rename_i a b
  have : ∀ a b : List α, a.map KeyS.g = b.map KeyS.g → a = b := by
    intro a
    induction a with
    | nil => intro b h; cases b with
      | nil => rfl
      | cons _ _ => cases h
    | cons x r ih => intro b h; cases b with
      | nil => cases h
      | cons y s =>
        rw [List.map_cons, List.map_cons, List.cons.injEq] at h
        rw [KeyS.inj _ _ h.1, ih _ h.2]
  exact this a b h, by
  intro K F v k
  constructor
  · rintro ⟨b, vs, e, q, r⟩
    exact ⟨b, e, by rw [← keys_rps.mp r]; exact q⟩
  · rintro ⟨b, e, q⟩
    exact ⟨b, _, e, q, keys_rps.mpr rfl⟩⟩
instance {κ ν : Type} [Rp κ] [DecidableEq κ] [DKey κ] [Rp ν] : Rp (Dct κ ν) := ⟨fun K F v d => ∃ a o kvs, v = .ref a ∧ F a = some (.frz o (DKey.hob kvs)) ∧ KR K F kvs d.l, fun s ⟨a, o, kvs, e, q, r⟩ => ⟨a, o, kvs, e, s _ _ q, r.mono s⟩⟩
instance {κ ν : Type} [Rp κ] [DecidableEq κ] [DKey κ] [Rp ν] : Ob (Dct κ ν) := ⟨fun K F o d => ∃ kvs, o = DKey.hob kvs ∧ KR K F kvs d.l, fun s ⟨kvs, e, r⟩ => ⟨kvs, e, r.mono s⟩, fun ⟨kvs, e, r⟩ => e ▸ DKey.mu kvs, fun ⟨kvs, e, r⟩ => e ▸ DKey.ls kvs,
  fun {K F o x l od} h ⟨kvs, e, r⟩ => ⟨l, od, kvs, rfl, e ▸ h, r⟩⟩
instance {κ ν : Type} [Rp κ] [DecidableEq κ] [DKey κ] [Rp ν] : NN (Dct κ ν) := ⟨fun ⟨_, _, _, e, _⟩ => nomatch e⟩
instance {κ ν : Type} [Rp κ] [DecidableEq κ] [DKey κ] [Rp ν] : Kd (Dct κ ν) := ⟨"dict", fun s ⟨a, o, kvs, e, q, r⟩ => e ▸ DKey.kd (.inr ⟨o, s _ _ q⟩)⟩
section
variable {κ ν : Type} [Rp κ] [DecidableEq κ] [DKey κ] [Rp ν]
variable {X : Cx} {K : PySem.W.Frag} {e a b c d : Expr} {es : List Expr} {σ : L2.St} {F H F0 H0 : Hp} {pos : Pos} {D : Ends} {st : Stmt} {rest body : List Stmt}
abbrev Dct.look (d : Dct κ ν) (k : κ) : Option ν := kvLook d.l k
abbrev Dct.put (d : Dct κ ν) (k : κ) (v : ν) : Dct κ ν := ⟨kvPut d.l k v⟩
abbrev Dct.drop (d : Dct κ ν) (k : κ) : Dct κ ν := ⟨kvDrop d.l k⟩
theorem en_dict : EvN X (.Dict [] [] pos) σ F H (Dct.mk ([] : List (κ × ν))) := fun F1 H1 g Q q =>
  GoE.of DKey.new fun p hp => EvN.newO q (.refl g.fh) hp ⟨[], rfl, .nil⟩
theorem ev_dget {m : Dct κ ν} {k : κ} {r : ν} (hu : X.A.units + 1 < cLine) (ha : Ev X a σ F H m) (hb : Ev X b σ F H k) (h : m.look k = some r) (hs : NoSl b := by exact fun _ _ => rfl) : Ev X (.Subscript a b pos) σ F H r := fun F1 H1 g Q q =>
  GoE.of (pe_dget hu pe_go pe_go hs) (ha F1 H1 g _ fun v F2 H2 g2 r2 => hb F2 H2 (g.trans g2) _ fun w F3 H3 g3 r3 => by
    obtain ⟨p, o, kvs, e, hq, kr⟩ := Rp.mono g3.ff r2
    rcases kr.look k with ⟨_, h2⟩ | ⟨v', x, h1, h2, h3⟩
    · rw [Dct.look, h2] at h; cases h
    · rw [Dct.look, h2] at h
      cases h
      exact ⟨p, v', e, h1 ▸ DKey.get g3.fh r3 (.inr ⟨o, g3.fh _ _ hq⟩), q v' F3 H3 (g2.trans g3) h3⟩)
def dputG (m : Dct κ ν) (k : κ) (v : ν) : Option (Dct κ ν) := if m.l.length < sizeLine then some (m.put k v) else none
theorem dputG_of {m r : Dct κ ν} {k : κ} {v : ν} (h : dputG m k v = some r) : m.l.length < sizeLine ∧ m.put k v = r := by
  unfold dputG at h; split at h
  · exact ⟨by assumption, Option.some.inj h⟩
  · cases h
theorem go_dput {m r : Dct κ ν} {k : κ} {x : ν} {l : Addr} {n : Str} {p1 p2 : Pos} (i : Nat) (s : SmX X.K F H) (hu : X.A.units + 1 < cLine) (o : Own X.K H0 F H l m) (hσ : σ[i]? = some (some (.ref l))) (hv : Ev X e σ F H x) (hk : Ev X b σ F H k) (h : dputG m k x = some r)
    (q : ∀ u F' H', Gr F H F' H' → PlAt H' l → F' l = none → Own X.K H0 F' (upd H' l u) l r → GoS X rest D σ (upd H' l u)) (hN : X.N[i]? = some n := by rfl) (hvis : Vis X.env.scope n := by first | exact Or.inl rfl | exact Or.inr (Or.inl rfl) | exact Or.inr (Or.inr rfl))
    (hd : (n == ("__debug__" : Str)) = false := by decide) (hcd : (n == ("__classdict__" : Str)) = false := by decide) (hs : NoSl b := by exact fun _ _ => rfl) (hsw : swapsWith e (some (.Subscript (.Name n p1) b p2)) pos.line X.env = pure false := by rfl) :
    GoS X (.Assign [.Subscript (.Name n p1) b p2] e pos :: rest) D σ H := by
  obtain ⟨hl, rfl⟩ := dputG_of h
  refine GoS.cons (ps_dput hu (pe_var hN hvis hd hcd) pe_go pe_go hsw) (hv F H (.refl s) _ fun v F2 H2 g2 r2 => ⟨_, hσ, hk F2 H2 (s.gx g2) _ fun w F3 H3 g3 r3 => ?_⟩)
  have o3 := (o.up g2).up g3
  obtain ⟨_, h3, kvs, rfl, kr⟩ := o3.h
  have hlen : kvs.length = m.l.length := Paired.length kr
  exact ⟨l, _, rfl, DKey.put g3.fh r3 h3 (by rw [hlen]; exact hl), q _ F3 H3 (g2.trans g3) o3.pl o3.f (Own.set o3.n o3.f ⟨_, rfl, kr.put (Rp.mono g3.ff r2)⟩)⟩
end
end Gx
namespace Gx
open PySem PySem.Spec PyProof.Rows L2
open Rp (rp)
open Ra (ra)
open Ob (ob)
theorem KR.fl {κ ν : Type} [Rp ν] [Flat ν] {K : PySem.W.Frag} {F : Hp} {l : Addr} {kvs : List (κ × V)} {m : List (κ × ν)} (h1 : ∀ xs, ¬ F l = some (.tup xs)) (h2 : ∀ o xs, ¬ F l = some (.frz o (.tup xs))) (h : KR K F kvs m) : KR K (er F l) kvs m := Paired.mapP h fun _ _ ⟨e, r⟩ => ⟨e, Flat.fl h1 h2 r⟩
instance {κ ν : Type} [Rp κ] [DecidableEq κ] [DKey κ] [Rp ν] [Flat ν] : FlatO (Dct κ ν) := ⟨fun h1 h2 ⟨kvs, e, r⟩ => ⟨kvs, e, KR.fl h1 h2 r⟩⟩
instance {α : Type} [Rp α] [Flat α] : Flat (Tn α) := ⟨fun {K F l v x} h1 h2 ⟨a, vs, o, e, q, d, c, r⟩ => ⟨a, vs, o, e, by unfold er; rw [if_neg (show ¬ a = l from fun z => h2 o vs (z ▸ q))]; exact q, d, c, Rps.fl h1 h2 r⟩⟩
instance {α : Type} [Rp α] [Pd α] : Pd (Tn α) := ⟨fun xs => .tuple (xs.l.map Pd.toD), fun ⟨a, vs, o, e, sq, _, _, rs⟩ => e ▸ .tup (.inl (.inr ⟨o, sq⟩)) (Dp.all rs), fun x y => by
  rw [PyData.eqv]
  cases x; cases y
  rw [eqvAll_iff, Tn.mk.injEq]⟩
instance {α : Type} [Rp α] [Pd α] [PdS α] : PdS (Tn α) := ⟨PdS.dep α + 1, fun x => by
  show (PyData.depthAll (x.l.map Pd.toD)) + 1 ≤ _
  exact Nat.succ_le_succ (dpAll_le x.l)⟩
instance {α : Type} [Rp α] [Pd α] [PdF α] : PdF (Tn α) := ⟨fun x => layAll fun y _ => PdF.ok y⟩
section
variable {κ ν : Type} [Rp κ] [DecidableEq κ] [Rp ν]
variable {X : Cx} {K : PySem.W.Frag} {e a b c d : Expr} {es : List Expr} {σ : L2.St} {F H F0 H0 : Hp} {pos : Pos} {D : Ends} {st : Stmt} {rest body : List Stmt}
def Dct.keys (m : Dct κ ν) : List κ := m.l.map (·.1)
def Dct.vals (m : Dct κ ν) : List ν := m.l.map (·.2)
def Dct.items (m : Dct κ ν) : List (T2 κ ν) := m.l.map fun p => ⟨p.1, p.2⟩
theorem KR.get : ∀ {kvs : List (κ × V)} {l : List (κ × ν)} {i : Nat} {p : κ × ν}, KR K F kvs l → l[i]? = some p → ∃ v, kvs[i]? = some (p.1, v) ∧ rp K F v p.2
  | _, _, _, _, .nil, h => by simp at h
  | _, _, 0, p, .cons (a := q) ⟨e, r⟩ _, h => by
    simp at h; subst h
    exact ⟨q.2, by rw [← e]; simp, r⟩
  | _, _, i + 1, p, .cons _ t, h => by
    obtain ⟨v, h1, h2⟩ := KR.get t (by simpa using h)
    exact ⟨v, by simpa using h1, h2⟩
def rEqR : R2 := fun x y H Q => ∃ a b ks ls, x = .ref a ∧ y = .ref b ∧ Rd H a (.dK ks) ∧ Rd H b (.dK ls) ∧ ks.length = ls.length ∧ (∀ p ∈ ks, valV ls p.1 = some p.2 ∧ flatB p.2 = true) ∧ Q (.bl true) H
def rNeR : R2 := fun x y H Q => ∃ a b ks ls, x = .ref a ∧ y = .ref b ∧ Rd H a (.dK ks) ∧ Rd H b (.dK ls) ∧ ks.length = ls.length ∧ (∀ p ∈ ks, valV ls p.1 = some p.2 ∧ flatB p.2 = true) ∧ Q (.bl false) H
variable [KeyS κ] [KeyS ν] [DecidableEq ν]
def Dct.alike (m n : Dct κ ν) : Prop := m.l.length = n.l.length ∧ ∀ p ∈ m.l, kvLook n.l p.1 = some p.2
instance (m n : Dct κ ν) : Decidable (m.alike n) := inferInstanceAs (Decidable (_ ∧ _))
def deqG (m n : Dct κ ν) : Option Bool := if m.alike n then some true else none
theorem KR.mem {kvs : List (κ × V)} {l : List (κ × ν)} {q : κ × V} (h : KR K F kvs l) (hq : q ∈ kvs) : ∃ p ∈ l, p.1 = q.1 ∧ rp K F q.2 p.2 := by
  induction h with
  | nil => cases hq
  | cons r t ih =>
    rcases List.mem_cons.mp hq with e | hq
    · subst e; exact ⟨_, List.mem_cons_self, r.1.symm, r.2⟩
    · obtain ⟨p, h1, h2⟩ := ih hq
      exact ⟨p, List.mem_cons_of_mem _ h1, h2⟩
end
section
theorem room1 {k : Nat} {A : Around} (r : Room k A) : A.units + 1 < cLine := by have := r.un; omega
variable {α : Type} [Rp α] {X : Cx} {K : PySem.W.Frag} {e a b c d : Expr} {es : List Expr} {σ : L2.St} {F H F0 H0 : Hp} {pos : Pos}
theorem Ev.re {β : Type} [Rp β] {x : α} {y : β} (h : Ev X e σ F H x) (f : ∀ (F : Hp) (v : V), rp X.K F v x → rp X.K F v y) : Ev X e σ F H y := fun F1 H1 g Q q => h F1 H1 g Q fun v F2 H2 g2 r => q v F2 H2 g2 (f _ _ r)
theorem tp1 {F : Hp} {v : V} {x : T1 α} (h : rp K F v x) : rp K F v (Tp.mk [x.a]) := by
  obtain ⟨p, vs, e, q, v1, w1, e1, r1, e2⟩ := h
  have e2 : w1 = [] := e2
  subst e2; subst e1
  exact ⟨p, _, e, q, .cons r1 .nil⟩
theorem tp2 {F : Hp} {v : V} {x : T2 α α} (h : rp K F v x) : rp K F v (Tp.mk [x.a, x.b]) := by
  obtain ⟨p, vs, e, q, v1, w1, e1, r1, v2, w2, e2, r2, e3⟩ := h
  have e3 : w2 = [] := e3
  subst e3; subst e2; subst e1
  exact ⟨p, _, e, q, .cons r1 (.cons r2 .nil)⟩
theorem tp3 {F : Hp} {v : V} {x : T3 α α α} (h : rp K F v x) : rp K F v (Tp.mk [x.a, x.b, x.c]) := by
  obtain ⟨p, vs, e, q, v1, w1, e1, r1, v2, w2, e2, r2, v3, w3, e3, r3, e4⟩ := h
  have e4 : w3 = [] := e4
  subst e4; subst e3; subst e2; subst e1
  exact ⟨p, _, e, q, .cons r1 (.cons r2 (.cons r3 .nil))⟩
theorem tp4 {F : Hp} {v : V} {x : T4 α α α α} (h : rp K F v x) : rp K F v (Tp.mk [x.a, x.b, x.c, x.d]) := by
  obtain ⟨p, vs, e, q, v1, w1, e1, r1, v2, w2, e2, r2, v3, w3, e3, r3, v4, w4, e4, r4, e5⟩ := h
  have e5 : w4 = [] := e5
  subst e5; subst e4; subst e3; subst e2; subst e1
  exact ⟨p, _, e, q, .cons r1 (.cons r2 (.cons r3 (.cons r4 .nil)))⟩
theorem tp5 {F : Hp} {v : V} {x : T5 α α α α α} (h : rp K F v x) : rp K F v (Tp.mk [x.a, x.b, x.c, x.d, x.e]) := by
  obtain ⟨p, vs, e, q, v1, w1, e1, r1, v2, w2, e2, r2, v3, w3, e3, r3, v4, w4, e4, r4, v5, w5, e5, r5, e6⟩ := h
  have e6 : w5 = [] := e6
  subst e6; subst e5; subst e4; subst e3; subst e2; subst e1
  exact ⟨p, _, e, q, .cons r1 (.cons r2 (.cons r3 (.cons r4 (.cons r5 .nil))))⟩
theorem Ev.tp1 {x : T1 α} (h : Ev X e σ F H x) : Ev X e σ F H (Tp.mk [x.a]) := h.re fun _ _ => Gx.tp1
theorem Ev.tp2 {x : T2 α α} (h : Ev X e σ F H x) : Ev X e σ F H (Tp.mk [x.a, x.b]) := h.re fun _ _ => Gx.tp2
theorem Ev.tp3 {x : T3 α α α} (h : Ev X e σ F H x) : Ev X e σ F H (Tp.mk [x.a, x.b, x.c]) := h.re fun _ _ => Gx.tp3
theorem Ev.tp4 {x : T4 α α α α} (h : Ev X e σ F H x) : Ev X e σ F H (Tp.mk [x.a, x.b, x.c, x.d]) := h.re fun _ _ => Gx.tp4
theorem Ev.tp5 {x : T5 α α α α α} (h : Ev X e σ F H x) : Ev X e σ F H (Tp.mk [x.a, x.b, x.c, x.d, x.e]) := h.re fun _ _ => Gx.tp5
end
end Gx
namespace Gx
open PySem PySem.Spec PyProof.Rows L2
open Rp (rp)
open Ra (ra)
open Ob (ob)
section
variable {κ ν : Type} [Rp κ] [DecidableEq κ] [KeyS κ] [Rp ν]
variable {X : Cx} {K : PySem.W.Frag} {e a b c d : Expr} {σ : L2.St} {F H F0 H0 : Hp} {pos : Pos} {ks : List (Option Expr)} {vs : List Expr}
abbrev PR (K : PySem.W.Frag) (F : Hp) : List (V × V) → List (κ × ν) → Prop := Paired fun p q => rp K F p.1 q.1 ∧ rp K F p.2 q.2
theorem PR.mono {F' : Hp} {ps : List (V × V)} {l : List (κ × ν)} (s : L2.Same F F') (h : PR K F ps l) : PR K F' ps l := Paired.mapP h fun _ _ ⟨e, r⟩ => ⟨Rp.mono s e, Rp.mono s r⟩
def EvP (X : Cx) (pos : Pos) (ks : List (Option Expr)) (vs : List Expr) (σ : L2.St) (F H : Hp) (l : List (κ × ν)) : Prop := ∃ trs, PPs X pos ks vs trs ∧ ∀ F1 H1, GrX X.K F H F1 H1 → ∀ Q : List (V × V) → Hp → Prop, (∀ ps F2 H2, Gr F1 H1 F2 H2 → PR X.K F2 ps l → Q ps H2) → tPairs trs σ H1 Q
def kvMerge (l : List (κ × ν)) : List (κ × ν) := l.foldl (fun acc p => kvPut acc p.1 p.2) []
end
end Gx
namespace Gx
open PySem PySem.Spec PyProof.Rows L2
open Rp (rp)
section
variable {X : Cx} {K : PySem.W.Frag} {a b : Expr} {σ : L2.St} {F H : Hp} {pos : Pos} {α : Type} [Rp α]
theorem ipos {α : Type} {c : Prop} [Decidable c] {x y r : α} (h : c) (e : (if c then x else y) = r) : x = r := by rw [if_pos h] at e; exact e
theorem ineg {α : Type} {c : Prop} [Decidable c] {x y r : α} (h : ¬ c) (e : (if c then x else y) = r) : y = r := by rw [if_neg h] at e; exact e
theorem rp_of_some [NN α] {v : V} {x : α} (h : rp (α := Option α) K F v (some x)) : rp K F v x := h
variable [Pd α] [DecidableEq α]
end
section
variable {X : Cx} {a b : Expr} {σ : L2.St} {F H : Hp} {pos : Pos} {κ ν : Type} [Rp κ] [Rp ν] [DecidableEq κ] [DecidableEq ν] [KeyS κ] [KeyS ν]
end
end Gx
namespace Gx
open PySem PySem.Spec PyProof.Rows L2
abbrev AlE : Type := He.AlD × Bool
abbrev frE (n : Nat) (g : Addr → Option Obj) : PySem.W.Frag := He.frG g (He.asD g n)
def obsE (n : Nat) (fa : List He.Fa) (fn : List He.DefD) (ex : PySem.W.Frag → Bool) (g : Addr → Option Obj) : AlE := (He.obsD fa fn (frE n g), ex (frE n g))
def hookE (n : Nat) (fa : List He.Fa) (fn : List He.DefD) (ex : PySem.W.Frag → Bool) : PySem.W.Hook where
  α := AlE
  obs s := obsE n fa fn ex s.heap.get?
  val _ := (He.valD fn, true)
  says _ h := ∃ K : PySem.W.Frag, K.In h ∧ He.SaysD fa fn K ∧ ex K = true
  of _ _ e := ⟨_, He.frG_in, congrArg (fun z : AlE => z.1) e, congrArg (fun z : AlE => z.2) e⟩
  keeps := fun _ _ _ ⟨K, hK, c⟩ k => ⟨K, PySem.W.Frag.In.keeps hK k, c⟩
theorem obsE_eq {n : Nat} {fa : List He.Fa} {fn : List He.DefD} {ex : PySem.W.Frag → Bool} {g : Addr → Option Obj} {s : Shared} (h : ∀ a, g a = s.heap.get? a) : obsE n fa fn ex g = (hookE n fa fn ex).obs s := by
  cases (funext h : g = s.heap.get?)
  rfl
end Gx
namespace Gx
open PySem PySem.Spec PyProof.Rows L2
def Ok {α : Type} (m : Option α) (P : α → Prop) : Prop := ∃ x, m = some x ∧ P x
section
variable {α β γ ρ : Type}
theorem Ok.ret {P : α → Prop} {x : α} (h : P x) : Ok (some x) P := ⟨x, rfl, h⟩
theorem Ok.of {P : α → Prop} {m : Option α} {x : α} (e : m = some x) (h : P x) : Ok m P := ⟨x, e, h⟩
theorem Ok.bind {m : Option α} {f : α → Option β} {P : α → Prop} {Q : β → Prop} (h : Ok m P) (k : ∀ x, P x → Ok (f x) Q) : Ok (m.bind f) Q := by
  obtain ⟨x, rfl, p⟩ := h
  exact k x p
theorem Ok.bindE {m : Option α} {f : α → Option β} {x : α} {Q : β → Prop} (h : m = some x) (k : Ok (f x) Q) : Ok (m.bind f) Q := by
  subst h; exact k
theorem Ok.mono {m : Option α} {P Q : α → Prop} (h : Ok m P) (k : ∀ x, P x → Q x) : Ok m Q := by
  obtain ⟨x, e, p⟩ := h
  exact ⟨x, e, k x p⟩
theorem Ok.ite {c : Prop} [Decidable c] {a b : Option α} {P : α → Prop} (h1 : c → Ok a P) (h2 : ¬ c → Ok b P) : Ok (if c then a else b) P := by
  by_cases h : c
  · rw [if_pos h]; exact h1 h
  · rw [if_neg h]; exact h2 h
theorem Ok.dite {p : Prop} [Decidable p] {a b : Option α} {P : α → Prop} (h1 : p → Ok a P) (h2 : ¬ p → Ok b P) : Ok (if decide p = true then a else b) P :=
  Ok.ite (fun h => h1 (of_decide_eq_true h)) (fun h => h2 fun z => h (decide_eq_true z))
theorem Ok.eq {m : Option α} {y : α} (h : Ok m (· = y)) : m = some y := by
  obtain ⟨x, e, p⟩ := h
  rw [e, p]
theorem Ok.loopN {st : β → α → Option β} {b : β} {xs : List α} {Q : β → Prop} (J : β → List α → Prop) (h0 : J b xs) (hs : ∀ b x ys, J b (x :: ys) → Ok (st b x) fun b' => J b' ys) (hq : ∀ b, J b [] → Q b) : Ok (loopN st b xs) Q := by
  induction xs generalizing b with
  | nil => exact ⟨b, rfl, hq b h0⟩
  | cons x ys ih =>
    obtain ⟨b', e, h'⟩ := hs b x ys h0
    rw [loopN_cons e]
    exact ih h'
theorem Ok.loopM {st : β → α → Option (Lp β ρ)} {b : β} {xs : List α} {Q : Lp β ρ → Prop} (J : β → List α → Prop) (h0 : J b xs) (hs : ∀ b x ys, J b (x :: ys) → Ok (st b x) fun o => match o with | .nx b' => J b' ys | .bk b' => Q (.bk b') | .rt r => Q (.rt r)) (hq : ∀ b, J b [] → Q (.nx b)) : Ok (loopM st b xs) Q := by
  induction xs generalizing b with
  | nil => exact ⟨.nx b, rfl, hq b h0⟩
  | cons x ys ih =>
    obtain ⟨o, e, h'⟩ := hs b x ys h0
    cases o with
    | nx b' => rw [loopM_nx e]; exact ih h'
    | bk b' => exact ⟨.bk b', by rw [Gx.loopM, e], h'⟩
    | rt r => exact ⟨.rt r, by rw [Gx.loopM, e], h'⟩
theorem Ok.whileN {c : β → Option Bool} {st : β → Option β} {n : Nat} {b : β} {Q : β → Prop} (J : β → Prop) (m : β → Nat) (h0 : J b) (hm : m b < n) (hs : ∀ b, J b → Ok (c b) fun t => (t = true → Ok (st b) fun b' => J b' ∧ m b' < m b) ∧ (t = false → Q b)) : Ok (whileN c st n b) Q := by
  induction n generalizing b with
  | zero => omega
  | succ n ih =>
    obtain ⟨t, e, h1, h2⟩ := hs b h0
    cases t with
    | false => exact ⟨b, by rw [Gx.whileN, e], h2 rfl⟩
    | true =>
      obtain ⟨b', e', j, l⟩ := h1 rfl
      rw [Gx.whileN, e]
      dsimp only
      rw [e']
      exact ih j (by omega)
theorem Ok.thn {o : Option (Lp β ρ)} {f : β → Option γ} {g : ρ → Option γ} {Q : γ → Prop} (P : Lp β ρ → Prop) (h : Ok o P) (k1 : ∀ b, P (.nx b) → Ok (f b) Q) (k2 : ∀ b, P (.bk b) → Ok (f b) Q) (k3 : ∀ r, P (.rt r) → Ok (g r) Q) : Ok (o.bind fun o => o.thn f g) Q := by
  obtain ⟨x, rfl, p⟩ := h
  cases x with
  | nx b => exact k1 b p
  | bk b => exact k2 b p
  | rt r => exact k3 r p
theorem Ok.comp {f : α → Option (Option γ)} {xs : List α} {P : List γ → Prop} (g : α → γ) (hl : xs.length ≤ 16777216) (h : ∀ x ∈ xs, f x = some (some (g x))) (hp : P (xs.map g)) : Ok (compG f xs) P := ⟨_, compG_map (by rw [szl]; exact hl) h, hp⟩
theorem Paired.mem {R : α → γ → Prop} {xs : List α} {ys : List γ} (h : Paired R xs ys) {y : γ} (hy : y ∈ ys) : ∃ x ∈ xs, R x y := by
  induction h with
  | nil => cases hy
  | cons r t ih =>
    rcases List.mem_cons.mp hy with e | hy
    · subst e; exact ⟨_, List.mem_cons_self, r⟩
    · obtain ⟨x, h1, h2⟩ := ih hy
      exact ⟨x, List.mem_cons_of_mem _ h1, h2⟩
theorem Paired.get {R : α → γ → Prop} {xs : List α} {ys : List γ} (h : Paired R xs ys) {i : Nat} {y : γ} (hy : ys[i]? = some y) : ∃ x, xs[i]? = some x ∧ R x y := by
  induction h generalizing i with
  | nil => simp at hy
  | cons r t ih =>
    cases i with
    | zero => simp at hy; subst hy; exact ⟨_, by simp, r⟩
    | succ i => obtain ⟨x, h1, h2⟩ := ih (by simpa using hy); exact ⟨x, by simpa using h1, h2⟩
theorem mulG_l {i j : Int} (h : -(2 ^ 64) < i ∧ i < 2 ^ 64) : mulG i j = some (i * j) := if_pos (.inl (CMul.l h))
theorem modG_p {i j : Int} (h : 0 < j) : modG i j = some (i % j) := if_pos h
theorem divG_p {i j : Int} (h : CDiv i j) : divG i j = some (i / j) := if_pos (.inl h)
theorem app_p {xs : List α} {y : α} (h : xs.length < 16777216) : app xs y = some (xs ++ [y]) := if_pos (by rw [szl]; exact h)
theorem catG_p {xs ys : List α} (h : xs.length + ys.length ≤ 16777216) : catG xs ys = some (xs ++ ys) := if_pos (by rw [szl]; exact h)
theorem catT_p {xs ys : Tp α} (h : xs.l.length + ys.l.length ≤ 16777216) : catT xs ys = some ⟨xs.l ++ ys.l⟩ := if_pos (by rw [szl]; exact h)
theorem rngG_p {j : Int} (h : -(2 ^ 62) ≤ j ∧ j < 2 ^ 62) : rngG j = some (intsF 0 j.toNat) := if_pos h
theorem rngG_n {n : Nat} (h : n ≤ 16777216) : rngG (n : Int) = some (intsF 0 n) := by
  have h1 : (n : Int) ≤ 16777216 := by omega
  have h2 : (0 : Int) ≤ n := Int.natCast_nonneg n
  have e := rngG_p (j := (n : Int)) ⟨Int.le_trans (by decide) h2, Int.lt_of_le_of_lt h1 (by decide)⟩
  rw [Int.toNat_natCast] at e
  exact e
theorem dputG_p {κ ν : Type} [Rp κ] [DecidableEq κ] [DKey κ] [Rp ν] {m : Dct κ ν} {k : κ} {v : ν} (h : m.l.length < 16777216) : dputG m k v = some ⟨kvPut m.l k v⟩ := if_pos (by rw [szl]; exact h)
theorem intsF_mem {lo : Int} {n : Nat} {x : Int} (h : x ∈ intsF lo n) : lo ≤ x ∧ x < lo + n := by
  obtain ⟨i, hi⟩ := List.mem_iff_getElem?.mp h
  obtain ⟨h1, h2⟩ := ints_get hi
  omega
theorem intsF_succ (lo : Int) (n : Nat) : intsF lo (n + 1) = lo :: intsF (lo + 1) n := by
  unfold intsF
  rw [List.range_succ_eq_map, List.map_cons, List.map_map]
  congr 1
  · simp
  · refine List.map_congr_left fun i _ => ?_
    show lo + ((i + 1 : Nat) : Int) = _
    omega
theorem atI_mem {xs : List α} {i : Int} (h0 : 0 ≤ i) (h1 : i < xs.length) : Ok (L2.atI xs i) fun v => v ∈ xs ∧ xs[i.toNat]? = some v := by
  obtain ⟨v, h2, h3⟩ := atI_ok h0 h1
  exact ⟨v, h2, List.mem_of_getElem? h3, h3⟩
theorem atI_last {xs : List α} (h : xs ≠ []) : L2.atI xs (-1) = some (xs.getLast h) := by
  unfold L2.atI ixN
  have hl : 0 < xs.length := List.length_pos_iff.mpr h
  rw [if_neg (by omega), if_pos (by omega)]
  show xs[((-1 : Int) + xs.length).toNat]? = _
  have e : ((-1 : Int) + xs.length).toNat = xs.length - 1 := by omega
  rw [e, List.getLast_eq_getElem]
  exact List.getElem?_eq_getElem (by omega)
theorem loopN_app {st : List γ → α → Option (List γ)} (f : α → γ) : ∀ (xs : List α) (b : List γ), b.length + xs.length ≤ 16777216 → (∀ x ∈ xs, ∀ b : List γ, b.length < 16777216 → st b x = some (b ++ [f x])) → loopN st b xs = some (b ++ xs.map f)
  | [], b, _, _ => by rw [loopN]; simp
  | x :: xs, b, hl, h => by
    rw [List.length_cons] at hl
    rw [loopN_cons (h x List.mem_cons_self b (by omega)), loopN_app f xs (b ++ [f x]) (by rw [List.length_append]; simp; omega) fun y hy => h y (List.mem_cons_of_mem _ hy)]
    simp
section
variable {κ ν : Type} [DecidableEq κ]
def Dct.nd (d : Dct κ ν) : Prop := (d.l.map (·.1)).Nodup
end
def cl (z : Str) : List Nat := z.cps.toList
theorem len_c (z : Str) : z.length = (cl z).length := len_cl z
theorem S_cl (x : Str) : S (cl x) = x := S_tl x
theorem cl_S (l : List Nat) : cl (S l) = l := rfl
theorem cl_inj {a b : Str} (h : cl a = cl b) : a = b := by
  rw [← S_tl a, ← S_tl b]; exact congrArg S h
theorem sAdd_cl {a b : Str} (h : (cl a).length + (cl b).length ≤ 16777216) : Ok (sAdd a b) fun r => cl r = cl a ++ cl b := ⟨a ++ b, sAdd_ok (by rw [len_c, len_c, szl]; exact h), app_cl a b⟩
theorem sCut_cl {z : Str} (hz : (cl z).length ≤ 16777216) (i j : Option Int) : Ok (sCut z i j) fun r => cl r = cut (cl z) i j := by
  obtain ⟨r, h1, _, h3⟩ := sCut_ok (z := z) (by rw [len_c, szl]; exact hz) i j
  exact ⟨r, h1, h3⟩
theorem sLen_cl {z : Str} (hz : (cl z).length ≤ 16777216) : sLen z = some ((cl z).length : Int) := by
  rw [sLen_ok (by rw [len_c, szl]; exact hz), len_c]
theorem take_drop_min {xs : List α} (a b : Nat) : (xs.drop (min a xs.length)).take (min b xs.length - min a xs.length) = (xs.drop a).take (b - a) := by
  rcases Nat.lt_or_ge a xs.length with h | h
  · rw [Nat.min_eq_left (Nat.le_of_lt h)]
    rcases Nat.lt_or_ge b xs.length with h2 | h2
    · rw [Nat.min_eq_left (Nat.le_of_lt h2)]
    · rw [Nat.min_eq_right h2, List.take_of_length_le (by rw [List.length_drop]; exact Nat.le_refl _), List.take_of_length_le (by rw [List.length_drop]; omega)]
  · rw [Nat.min_eq_right h, List.drop_of_length_le (Nat.le_refl _), List.drop_of_length_le h]; simp
theorem cut_to {xs : List α} {n : Int} (h0 : 0 ≤ n) : cut xs none (some n) = xs.take n.toNat := by
  obtain ⟨m, rfl⟩ : ∃ m : Nat, n = (m : Int) := ⟨n.toNat, by omega⟩
  unfold cut
  rw [HT.sIx_nat, HT.sIx_none]
  have := take_drop_min (xs := xs) 0 m
  rw [Nat.min_eq_left (Nat.zero_le _)] at this
  exact this
theorem cut_from {xs : List α} {n : Int} (h0 : 0 ≤ n) : cut xs (some n) none = xs.drop n.toNat := by
  obtain ⟨m, rfl⟩ : ∃ m : Nat, n = (m : Int) := ⟨n.toNat, by omega⟩
  unfold cut
  rw [HT.sIx_nat, HT.sIx_none]
  have := take_drop_min (xs := xs) m xs.length
  rw [Nat.min_eq_left (Nat.le_refl _), List.take_of_length_le (l := xs.drop m) (by rw [List.length_drop]; exact Nat.le_refl _)] at this
  exact this
theorem cut_init {xs : List α} : cut xs none (some (-1 : Int)) = xs.take (xs.length - 1) := by
  unfold cut
  have e : HT.sIx xs.length xs.length (some (-1)) = xs.length - 1 := by
    show (if (-1 : Int) < 0 then ((-1 : Int) + (xs.length : Int)).toNat else min (-1 : Int).toNat xs.length) = xs.length - 1
    rw [if_pos (by decide)]; omega
  rw [HT.sIx_none, e]; simp
def sok (z : Str) : Prop := ∀ c ∈ cl z, c < 1114112
theorem lay_str {z : Str} (h : sok z) : (Pd.toD z).canLay0 = true := by
  show PySem.PyData.canLay0 (.str z) = true
  rw [PyData.canLay0]
  show z.cps.all (· < 0x110000) = true
  rw [← Array.all_toList, List.all_eq_true]
  intro c hc
  exact decide_eq_true (h c hc)
class PdL (α : Type) [Rp α] [Pd α] where
  tx : α → Prop
  ok : ∀ {x : α}, tx x → (Pd.toD x).canLay0 = true
instance : PdL Int := ⟨fun _ => True, fun _ => PdF.ok _⟩
instance : PdL Bool := ⟨fun _ => True, fun _ => PdF.ok _⟩
instance : PdL Str := ⟨sok, lay_str⟩
instance {α : Type} [Rp α] [Pd α] [PdL α] : PdL (List α) := ⟨fun l => ∀ x ∈ l, PdL.tx x, fun h => layAll fun x hx => PdL.ok (h x hx)⟩
instance {α : Type} [Rp α] [Pd α] [PdL α] : PdL (Tp α) := ⟨fun l => ∀ x ∈ l.l, PdL.tx x, fun h => layAll fun x hx => PdL.ok (h x hx)⟩
instance {α : Type} [Rp α] [Pd α] [PdL α] : PdL (Tn α) := ⟨fun l => ∀ x ∈ l.l, PdL.tx x, fun h => layAll fun x hx => PdL.ok (h x hx)⟩
class PdRL (τ : Type) [Ra τ] [PdR τ] where
  tx : τ → Prop
  ok : ∀ {x : τ}, tx x → PyData.canLayAll0 (PdR.toR x) = true
instance : PdRL Unit := ⟨fun _ => True, fun _ => PdRF.ok _⟩
instance {α τ : Type} [Rp α] [Ra τ] [Pd α] [PdR τ] [PdL α] [PdRL τ] : PdRL (α × τ) := ⟨fun x => PdL.tx x.1 ∧ PdRL.tx x.2, fun {x} h => by
  show (PyData.canLay0 _ && PyData.canLayAll0 _) = true
  rw [PdL.ok h.1, PdRL.ok h.2]; rfl⟩
instance {α : Type} [Rp α] [Pd α] [PdL α] : PdL (T1 α) := ⟨fun x => PdRL.tx x.row, fun h => PdRL.ok h⟩
instance {α β : Type} [Rp α] [Rp β] [Pd α] [Pd β] [PdL α] [PdL β] : PdL (T2 α β) := ⟨fun x => PdRL.tx x.row, fun h => PdRL.ok h⟩
instance {α β γ : Type} [Rp α] [Rp β] [Rp γ] [Pd α] [Pd β] [Pd γ] [PdL α] [PdL β] [PdL γ] : PdL (T3 α β γ) := ⟨fun x => PdRL.tx x.row, fun h => PdRL.ok h⟩
instance {α β γ δ : Type} [Rp α] [Rp β] [Rp γ] [Rp δ] [Pd α] [Pd β] [Pd γ] [Pd δ] [PdL α] [PdL β] [PdL γ] [PdL δ] : PdL (T4 α β γ δ) := ⟨fun x => PdRL.tx x.row, fun h => PdRL.ok h⟩
instance {α β γ δ ε : Type} [Rp α] [Rp β] [Rp γ] [Rp δ] [Rp ε] [Pd α] [Pd β] [Pd γ] [Pd δ] [Pd ε] [PdL α] [PdL β] [PdL γ] [PdL δ] [PdL ε] : PdL (T5 α β γ δ ε) := ⟨fun x => PdRL.tx x.row, fun h => PdRL.ok h⟩
end
end Gx
namespace Gx
open PySem PySem.Spec PyProof.Rows L2
open Rp (rp)
open Ra (ra)
open Ob (ob)
section
variable {X : Cx} {K : PySem.W.Frag} {e a b c d : Expr} {es : List Expr} {σ : L2.St} {F H F0 H0 : Hp} {pos : Pos} {D : Ends} {st : Stmt} {rest body : List Stmt}
theorem GdT.er {l P : Addr} (a : GdT H P) (h : PlAt H l) : GdT (er H l) P := a.but h fun _ hb => if_neg hb
theorem Gr.over {F' H' : Hp} {l : Addr} (g : Gr F0 H0 F H) (n : H0 l = none) (g' : Gr F (er H l) F' H') (pl : PlAt H l) : Gr F0 H0 F' H' := by
  have lift : ∀ a o, H0 a = some o → ∀ u, H a = some u → er H l a = some u := fun a o h u e => by
    unfold er; rw [if_neg fun z => by rw [z, n] at h; cases h]; exact e
  refine ⟨g.ff.trans g'.ff, g'.fh, ⟨fun a o h ns => g'.hh.k a o (lift a o h _ (g.hh.k a o h ns)) ns, fun a ps h => ?_, fun P a => g'.hh.w P ((g.hh.w P a).er pl)⟩, fun a o h ns => ?_⟩
  · obtain ⟨qs, e⟩ := g.hh.t a ps h
    exact g'.hh.t a qs (lift a _ h _ e)
  · cases o with
    | tbl ps =>
      obtain ⟨qs, e⟩ := g.hh.t a ps h
      rw [g'.fr a _ (lift a _ h _ e) trivial, g.fr a _ h trivial]
    | _ => rw [g'.fr a _ (lift a _ h _ (g.hh.k a _ h trivial)) ns, g.fr a _ h ns]
theorem HasT.er {l : Addr} (h : HasT K F H) (pl : PlAt H l) : HasT K F (er H l) := ⟨fun P hP => ⟨(h.t P hP).1.er pl, (h.t P hP).2⟩⟩
theorem GrX.over {F' H' : Hp} {l : Addr} (g : GrX K F0 H0 F H) (n : H0 l = none) (g' : Gr F (er H l) F' H') (pl : PlAt H l) : GrX K F0 H0 F' H' := ⟨g.toGr.over n g' pl, (g.h.er pl).up g'⟩
theorem Own.over {α : Type} [Rp α] [Ob α] {x : α} {F' H' : Hp} {l l2 : Addr} (o : Own K H0 F H l2 x) (h : l2 ≠ l) (g : Gr F (er H l) F' H') : Own K H0 F' H' l2 x := by
  obtain ⟨u, hl, r⟩ := o.h
  have e : er H l l2 = some u := by unfold er; rw [if_neg h]; exact hl
  exact ⟨o.n, (g.fr l2 u e (Ob.ls r)).trans o.f, u, g.hh.k _ _ e (Ob.pl r).ntb, Ob.mono g.ff r⟩
theorem er_same {l : Addr} : er H l l = none := if_pos rfl
theorem er_ne {l a : Addr} (h : a ≠ l) : er H l a = H a := if_neg h
theorem same_er {l : Addr} (s : L2.Same F H) (f : F l = none) : L2.Same F (er H l) := fun a o h => by
  rw [er_ne (ne_of_none h f)]; exact s a o h
theorem SmX.er {l : Addr} (s : SmX K F H) (f : F l = none) (pl : PlAt H l) : SmX K F (er H l) := ⟨same_er s.s f, s.h.er pl⟩
theorem Xt.start {l : Addr} (_ : PlAt H l) : Xt (er H l) H := .same fun a o h => by
  unfold er at h; split at h
  · cases h
  · exact h
theorem Gr.start {l : Addr} (s : L2.Same F H) (f : F l = none) (pl : PlAt H l) : Gr F (er H l) F H := ⟨.refl _, s, .start pl, fun _ _ _ _ => rfl⟩
theorem zlook {names : List Str} {vs : List V} {i : Nat} {f : Str} {v : V} (h : names.idxOf f = i) (hi : i < names.length) (hv : vs[i]? = some v) : (names.zip vs).lookup f = some v := by
  induction names generalizing vs i with
  | nil => simp at hi
  | cons n ns ih =>
    cases vs with
    | nil => simp at hv
    | cons w ws =>
      rw [List.zip_cons_cons, List.lookup_cons]
      by_cases e : n = f
      · subst e
        have : i = 0 := by rw [← h, List.idxOf_cons_self]
        subst this
        simp at hv; subst hv; simp
      · have e' : (f == n) = false := beq_eq_false_iff_ne.mpr fun z => e z.symm
        rw [e']
        have hi2 : i = ns.idxOf f + 1 := by
          rw [← h, List.idxOf_cons, beq_eq_false_iff_ne.mpr e]; rfl
        subst hi2
        exact ih rfl (by simpa using hi) (by simpa using hv)
theorem putF_new {f : Str} {v : V} : ∀ {fs : List (Str × V)}, f ∉ fs.map (·.1) → putF f v fs = fs ++ [(f, v)]
  | [], _ => rfl
  | (g, x) :: r, h => by
    rw [List.map_cons, List.mem_cons] at h
    show (if g = f then _ else _) = _
    rw [if_neg (fun e => h (.inl e.symm)), putF_new fun z => h (.inr z)]; rfl
theorem zip_snoc {names : List Str} {vs : List V} {f : Str} {v : V} (h : names.length = vs.length) : names.zip vs ++ [(f, v)] = (names ++ [f]).zip (vs ++ [v]) := by
  rw [List.zip_append h]; rfl
theorem zip_names {names : List Str} {vs : List V} (h : names.length = vs.length) : (names.zip vs).map (·.1) = names := by
  rw [← List.unzip_fst, List.unzip_zip h]
def rpI (cn : Str) (names : List Str) {τ : Type} [Ra τ] (K : PySem.W.Frag) (F : Hp) (v : V) (x : τ) : Prop := ∃ a dx vs, v = .ref a ∧ F a = some (.ins (He.ga K cn) dx (names.zip vs)) ∧ ra K F vs x
theorem rpI.mono {cn : Str} {names : List Str} {τ : Type} [Ra τ] {F F' : Hp} {v : V} {x : τ} (s : L2.Same F F') : rpI cn names K F v x → rpI cn names K F' v x := fun ⟨a, dx, vs, e, q, r⟩ => ⟨a, dx, vs, e, s _ _ q, Ra.mono s r⟩
theorem rpI.nn {cn : Str} {names : List Str} {τ : Type} [Ra τ] {F : Hp} {x : τ} : ¬ rpI cn names K F .non x := fun ⟨_, _, _, e, _⟩ => nomatch e
def FldOf (K : PySem.W.Frag) {θ α : Type} [Rp θ] [Rp α] (fn : Str) (g : θ → α) : Prop := ∀ F v (d : θ), rp K F v d → ∃ a C dx fs u, v = .ref a ∧ F a = some (.ins C dx fs) ∧ Cls K C ∧ NoAttr K C fn ∧ fs.lookup fn = some u ∧ rp K F u (g d)
theorem ev_attr {θ α : Type} [Rp θ] [Rp α] {fn : Str} {g : θ → α} {x : θ} (f : FldOf X.K fn g) (h : Ev X e σ F H x) (hb : attributeBase e fn X.env (eval e X.env) = eval e X.env := by rfl) : Ev X (.Attribute e fn pos) σ F H (g x) := fun F1 H1 gr Q q =>
  GoE.of (pe_fld pe_go hb) (h F1 H1 gr _ fun v F2 H2 g2 r2 => by
    obtain ⟨a, C, dx, fs, u, e, hF, c, na, l, r⟩ := f F2 v x r2
    exact ⟨a, C, dx, fs, u, e, g2.fh _ _ hF, c, na, l, q u F2 H2 g2 r⟩)
def PrI (K : PySem.W.Frag) (C : Addr) (names : List Str) {τ ρ : Type} [Ra τ] [Ra ρ] (f : τ → Option ρ) : Sp := fun vs H Q _ => ∃ F x dx args a r, vs = .ref x :: args ∧ SmX K F H ∧ F x = none ∧ H x = some (.ins C dx []) ∧ ra K F args a ∧ f a = some r ∧
  ∀ F' H' ws, Gr F (er H x) F' H' → F' x = none → H' x = some (.ins C dx (names.zip ws)) → ra K F' ws r → Q .non H'
theorem go_fld {α : Type} [Rp α] {x : Addr} {y : α} {C dx : Addr} {names : List Str} {vs : List V} {fn n : Str} {p1 p2 : Pos} (i : Nat) (s : SmX X.K F H) (fx : F x = none) (hx : H x = some (.ins C dx (names.zip vs))) (hl : names.length = vs.length) (hn : names.length < 1000) (hf : fn ∉ names) (c : Cls X.K C) (na : NoAttr X.K C fn)
    (hσ : σ[i]? = some (some (.ref x))) (he : Ev X e σ F H y) (k : ∀ v F' H', Gr F H F' H' → rp X.K F' v y → F' x = none → H' x = some (.ins C dx (names.zip vs)) → GoS X rest D σ (upd H' x (.ins C dx ((names ++ [fn]).zip (vs ++ [v]))))) (hN : X.N[i]? = some n := by rfl) (hv : Vis X.env.scope n := by first | exact Or.inl rfl | exact Or.inr (Or.inl rfl) | exact Or.inr (Or.inr rfl))
    (hd : (n == ("__debug__" : Str)) = false := by decide) (hcd : (n == ("__classdict__" : Str)) = false := by decide) (hs : swapsWith e (some (.Attribute (.Name n p1) fn p2)) pos.line X.env = pure false := by rfl) : GoS X (.Assign [.Attribute (.Name n p1) fn p2] e pos :: rest) D σ H :=
  GoS.cons (ps_fld (pe_var hN hv hd hcd) pe_go hs) (he F H (.refl s) _ fun v F2 H2 g2 r2 => by
    have h2 := g2.hh.k _ _ hx trivial
    refine ⟨_, hσ, x, C, dx, _, rfl, h2, c, na, ?_, ?_⟩
    · rw [List.length_zip]; omega
    · rw [putF_new (by rw [zip_names hl]; exact hf), zip_snoc hl]
      exact k v F2 H2 g2 r2 ((g2.fr x _ hx trivial).trans fx) h2)
theorem fn_init {P : Program} {w : World} {mg : Str → Option Value} {base : Heap} {τ ρ : Type} [Ra τ] [RaN τ] [Ra ρ] {f : τ → Option ρ} {C : Addr} {names : List Str} {x qual : Str} {s0 : Stmt} {fa : Addr} {fd : FuncData} {N ps : List Str} {k : Nat} (Fn : FunD K x qual (defArgs s0) (defBody s0) (defScope s0) [] [] fa fd) (S : FnScope N ps (defScope s0)) (hn : RaN.n τ + 1 = ps.length)
    (hbody : ∀ (cdv : Value) (A : Around) (outer : List Env) (s : Shared) (F H : Hp) (y dx : Addr) (vs : List V) (a : τ) (r : ρ) (D : Ends) (E : XK), Room k (A.deeper (envOfC qual (defScope s0) s.heap.objs.size fa cdv)) → GrX K F (er H y) F H → F y = none → H y = some (.ins C dx []) → ra K F vs a → f a = some r →
      (∀ σ' F' H' ws, GrX K F (er H y) F' H' → F' y = none → H' y = some (.ins C dx (names.zip ws)) → ra K F' ws r → D.nx σ' H') → GoS (cxOf CX0 P w K mg base N qual (defScope s0) fa cdv A outer s H E).nox (defBody s0) D (start N (.ref y :: vs)) H) :
    FnOk P w K mg base CX0 (k + 1) fa fd ps (PrI K C names f) := by
  refine Fn.ok S (fun vs H Q E ⟨F, y, dx, args, a, r, e, _, _, _, ra', _⟩ => by rw [e, List.length_cons, RaN.len ra', hn]) fun cdv A outer s H vs Q E hr ⟨F, y, dx, args, a, r, e, sm, fy, hy, ra', hf, k⟩ => ?_
  subst e
  exact ⟨_, PSs.nox pss_go, hbody cdv A outer s F H y dx args a r { nx := fun _ H' => Q .non H', rt := Q } E hr ⟨Gr.start sm.s fy ⟨_, hy, trivial⟩, sm.h⟩ fy hy ra' hf fun σ' F' H' ws g f' h' r' => k F' H' ws g.toGr f' h' r'⟩
theorem ev_make {θ τ ρ : Type} [Rp θ] [Ra τ] [Ra ρ] {f : τ → Option ρ} {names : List Str} {y : τ} {r : ρ} {z : θ} {k : Nat} {fa : Addr} {fd : FuncData} {ps : List Str} {x cn : Str} {p : Pos} (rep : ∀ F v, rpI cn names X.K F v r → rp X.K F v z) (M : Mk X.K (He.ga X.K cn) fa) (Fn : FnOk X.prog X.w X.K X.mg X.base CX0 k fa fd ps (PrI X.K (He.ga X.K cn) names f)) (hr : Room (k + 1) X.A)
    (hm : X.mg x = some (.ref (He.ga X.K cn))) (hb : Binds X.K fd ps []) (ha : EvA X (e :: es) σ F H y) (h : f y = some r) (hg : Gl X x := by rfl) (hdb : (x == ("__debug__" : Str)) = false := by decide)
    (he : starEach (e :: es) X.env = (false, eval e X.env) :: starEach es X.env := by rfl) (hpl : (backTo pos (starEach es X.env)).any (·.1) = false := by rfl) : Ev X (.Call (.Name x p) (e :: es) [] pos) σ F H z := fun F1 H1 g Q q =>
  GoE.of (pe_make M Fn hr hg hm hb .nil pass0 pa_go hdb he hpl) (ha F1 H1 g _ fun vs F2 H2 g2 r2 => by
    intro o dx ho hdx hne
    have so : H2 dx = none := hdx
    have g3 : Gr F2 H2 (upd F2 dx (.own o)) (upd H2 dx (.own o)) := Gr.new g2.fh hdx trivial
    have ho3 : upd H2 dx (.own o) o = none := by rw [upd_ne (fun z => hne z.symm)]; exact ho
    have fo3 : upd F2 dx (.own o) o = none := by rw [upd_ne (fun z => hne z.symm)]; exact g2.fh.free ho
    have g4 := Gr.newP (o := .ins (He.ga X.K cn) dx []) g3.fh ho3 trivial
    refine ⟨upd F2 dx (.own o), o, dx, vs, y, r, by rw [List.append_nil], (g.trans g2).sm.up (g3.trans g4), fo3, upd_same, Ra.mono g3.ff r2, h, fun F' H' ws g5 f5 h5 r5 => ⟨rfl, ?_⟩⟩
    have g6 : Gr F1 H1 F' H' := (((g2.trans g3).trans g4)).over (g2.hh.free ho) g5 ⟨_, upd_same, trivial⟩
    have g7 := g6.freeze (o := .ins (He.ga X.K cn) dx (names.zip ws)) (g2.hh.free ho) f5 ⟨_, h5, trivial⟩ trivial
    have e7 : upd H' o (.ins (He.ga X.K cn) dx (names.zip ws)) = H' := by
      funext b
      by_cases hb : b = o
      · rw [hb, upd_same, h5]
      · rw [upd_ne hb]
    rw [e7] at g7
    exact q (.ref o) _ H' g7 (rep _ _ ⟨o, dx, ws, rfl, upd_same, Ra.mono (same_upd f5) r5⟩))
end
end Gx
namespace Gx
open PySem PySem.Spec PyProof.Rows L2
open Rp (rp)
open Ra (ra)
open Ob (ob)
section
variable {X : Cx} {K : PySem.W.Frag} {e a b c d : Expr} {es : List Expr} {σ : L2.St} {F H F0 H0 : Hp} {pos : Pos} {D : Ends} {st : Stmt} {rest body : List Stmt}
theorem Rps.rep {α : Type} [Rp α] {vs : List V} {xs : List α} (r : Rps K F vs xs) : ∀ n : Nat, Rps K F (List.replicate n vs).flatten (List.replicate n xs).flatten
  | 0 => .nil
  | n + 1 => by
    rw [List.replicate_succ, List.replicate_succ, List.flatten_cons, List.flatten_cons]
    exact Rps.append r (Rps.rep r n)
def mulL {α : Type} (xs : List α) (n : Int) : Option (List α) := if -1000000 ≤ n ∧ n ≤ 1000000 ∧ xs.length * n.toNat ≤ 16777216 then some (List.replicate n.toNat xs).flatten else none
def mulT {α : Type} (xs : Tp α) (n : Int) : Option (Tp α) := if -1000 ≤ n ∧ n ≤ 1000 ∧ xs.l.length ≤ 1000 ∧ xs.l ≠ [] then some ⟨(List.replicate n.toNat xs.l).flatten⟩ else none
theorem tuple_mul1 (l : Addr) (items : Array Value) (n : Nat) (dd : Option Addr) (sl : Array (Option Value)) (u : Tok) :
    Meets (Builtin.«tuple.__mul__» ⟨[.ref l, .int 1 u], []⟩) (fun _ R s => s.heap.get? l = some { cls := .type "tuple", dict := dd, data := .seq items n, slots := sl } ∧ R (.ok (.ret (Value.ref l))) s) :=
  .of_wp fun prog w A R s h => by
    obtain ⟨hp, g, d, tk, os⟩ := s
    obtain ⟨hl, h⟩ := h
    have f1 := AutoSeq1.idx_int
    have c1 : (items.isEmpty || (1 : Int) == 1) = true := by simp
    wp_walk using wpAny_loadPart' hl
    repeat (first
      | (refine wpAny_ite_true (decide_eq_true c1) ?_; wp_walk using wpAny_loadPart' hl)
      | (refine wpAny_ite_true c1 ?_; wp_walk using wpAny_loadPart' hl)
      | (refine wpAny_ite_false (by decide) ?_; wp_walk using wpAny_loadPart' hl))
    exact ⟨_, rfl, h⟩
theorem tuple_mul0 (l : Addr) (items : Array Value) (n : Nat) (dd : Option Addr) (sl : Array (Option Value)) (x : Int) (u : Tok) (c0 : (decide (x < -(2 ^ 63)) || decide (x ≥ 2 ^ 63)) = false) (c1 : (items.isEmpty || x == 1) = false) (c2 : (decide (x ≤ 0) || items.isEmpty) = true) :
    Meets (Builtin.«tuple.__mul__» ⟨[.ref l, .int x u], []⟩) (fun _ R s => s.heap.get? l = some { cls := .type "tuple", dict := dd, data := .seq items n, slots := sl } ∧ R (.ok (.ret (Value.ref s.heap.objs.size))) { s with heap := s.heap.push { cls := Value.type "tuple", data := Data.seq #[] }, toks := s.toks }) :=
  .of_wp fun prog w A R s h => by
    obtain ⟨hp, g, d, tk, os⟩ := s
    obtain ⟨hl, h⟩ := h
    have f1 := AutoSeq1.idx_int
    have sz : ¬ (sizeLine < (#[] : Array Value).size) := Nat.not_lt_zero _
    wp_walk using wpAny_loadPart' hl
    repeat (first
      | (refine wpAny_ite_false (decide_eq_false (by rw [c0]; exact Bool.false_ne_true)) ?_; wp_walk using wpAny_loadPart' hl)
      | (refine wpAny_ite_false (decide_eq_false (by rw [c1]; exact Bool.false_ne_true)) ?_; wp_walk using wpAny_loadPart' hl)
      | (refine wpAny_ite_true (decide_eq_true c2) ?_; wp_walk using wpAny_loadPart' hl)
      | (refine wpAny_ite_true c2 ?_; wp_walk using wpAny_loadPart' hl)
      | (refine wpAny_ite_false (decide_eq_false sz) ?_; wp_walk using wpAny_loadPart' hl))
    exact ⟨_, rfl, h⟩
def rMulT (K : PySem.W.Frag) : R2 := fun x y H Q => ∃ l k xs, x = .ref l ∧ y = .int k ∧ SqT K H l xs ∧ xs ≠ [] ∧ -1000 ≤ k ∧ k ≤ 1000 ∧ xs.length ≤ 1000 ∧ (k = 1 → Q (.ref l) H) ∧ (k ≠ 1 → ∀ p, H p = none → Q (.ref p) (upd H p (.tup (List.replicate k.toNat xs).flatten)))
theorem op_mulT : OpR X (binaryOp .Mult) (rMulT X.K) := fun pins s σ H x y v u Q I rx ry ⟨l, k, xs, e1, e2, hT, hne, k1, k2, hz, q1, q2⟩ => by
  by_cases h1 : k = 1
  · subst h1; subst e1; subst e2
    have q := q1 rfl
    cases rx
    obtain ⟨t, rfl⟩ := ry
    obtain ⟨its, r, ⟨⟨cls, dd, data, sl⟩, ho, hc, n, hd⟩, hs⟩ := I.tuple hT
    simp only at hc hd
    subst hc hd
    exact wpAny_binaryOp_repeat_ref (T := "tuple") (U := "int") (by decide) ⟨_, ho, rfl⟩ (fun s' => typeIs_int s' 1 t) noFill_tuple_mul F.fills_int_mul F.slot_int_rmul repeat_tuple F.slot_int_index.lookup
      (call_meets F.slot_int_rmul (typeIs_int s 1 t) F.entry_int_rmul (F.args_int_rmul_2 _ _) (int_rmul_tuple 1 t l its.toArray n dd sl)
        ⟨ho, rfl, ⟨_, ho, rfl⟩, call_meets F.slot_tuple_mul ⟨_, ho, rfl⟩ F.entry_tuple_mul (F.args_tuple_mul_2 _ _) (tuple_mul1 l its.toArray n dd sl t) ⟨ho, ⟨.ref l, H, I.tok _, rfl, q⟩⟩⟩)
  · by_cases h2 : 2 ≤ k
    · exact op_repT pins s σ H x y v u Q I rx ry ⟨l, k, xs, e1, e2, hT, hne, h2, k2, hz, q2 h1⟩
    · subst e1; subst e2
      have q := q2 h1
      cases rx
      obtain ⟨t, rfl⟩ := ry
      obtain ⟨its, r, ⟨⟨cls, dd, data, sl⟩, ho, hc, n, hd⟩, hs⟩ := I.tuple hT
      simp only at hc hd
      subst hc hd
      have hi : its.toArray.isEmpty = false := by
        cases its with
        | nil => exact absurd (List.eq_nil_of_length_eq_zero (by rw [r.length]; rfl)) hne
        | cons a b => rfl
      have c0 : (decide (k < -(2 ^ 63)) || decide (k ≥ 2 ^ 63)) = false := by
        rw [decide_eq_false (by omega), decide_eq_false (by omega)]; rfl
      have c1 : (its.toArray.isEmpty || k == 1) = false := by
        rw [hi, beq_eq_false_iff_ne.mpr h1]; rfl
      have c2 : (decide (k ≤ 0) || its.toArray.isEmpty) = true := by
        rw [decide_eq_true (by omega)]; rfl
      have e0 : (List.replicate k.toNat xs).flatten = [] := by
        rw [show k.toNat = 0 by omega]; rfl
      rw [e0] at q
      have fr : H s.heap.objs.size = none := I.hok.fresh (Nat.le_refl _)
      exact wpAny_binaryOp_repeat_ref (T := "tuple") (U := "int") (by decide) ⟨_, ho, rfl⟩ (fun s' => typeIs_int s' k t) noFill_tuple_mul F.fills_int_mul F.slot_int_rmul repeat_tuple F.slot_int_index.lookup
        (call_meets F.slot_int_rmul (typeIs_int s k t) F.entry_int_rmul (F.args_int_rmul_2 _ _) (int_rmul_tuple k t l its.toArray n dd sl)
          ⟨ho, rfl, ⟨_, ho, rfl⟩, call_meets F.slot_tuple_mul ⟨_, ho, rfl⟩ F.entry_tuple_mul (F.args_tuple_mul_2 _ _) (tuple_mul0 l its.toArray n dd sl k t c0 c1 c2) ⟨ho, ⟨.ref s.heap.objs.size, upd H s.heap.objs.size (.tup []),
            I.laid (t' := s.toks) (fun b o e => Heap.get?_push_of_some _ e) (Nat.le_refl _) (show ObjOk X.prog X.w _ _ _ (.tup []) from ⟨Nat.zero_le _, [], .nil, IsTup.new _ _⟩), rfl, q _ fr⟩⟩⟩)
theorem ev_mulT {α : Type} [Rp α] {xs r : Tp α} {n : Int} (ha : Ev X a σ F H xs) (hb : Ev X b σ F H n) (h : mulT xs n = some r) : Ev X (.BinOp a .Mult b pos) σ F H r := ev_bin (α := Tp α) (β := Int) (γ := Tp α) op_mulT (fun F H v w Q s rv rw' k => by
  obtain ⟨p, vs, e, sq, rs⟩ := rv
  unfold mulT at h
  split at h
  case isFalse => cases h
  rename_i hz
  cases (Option.some.inj h)
  refine ⟨p, n, vs, e, rw', seqT_mono s sq, fun z => hz.2.2.2 (rs.nil_r.mp z), hz.1, hz.2.1, by rw [rs.length]; exact hz.2.2.1, fun h1 => ?_, fun h2 l hl => ?_⟩
  · subst h1
    refine k _ F H (.refl s) ⟨p, vs, rfl, sq, ?_⟩
    show Rps X.K F vs (List.replicate 1 xs.l).flatten
    rw [show (List.replicate 1 xs.l).flatten = xs.l by simp]; exact rs
  · exact k _ (upd F l (.tup _)) _ (Gr.new s hl) ⟨l, _, rfl, upd_same, (rs.rep _).mono (same_upd (s.free hl))⟩) ha hb
theorem mulT_p {α : Type} {xs : Tp α} {n : Int} (h : 1 ≤ n ∧ n ≤ 1000 ∧ xs.l.length ≤ 1000 ∧ xs.l ≠ []) : mulT xs n = some ⟨(List.replicate n.toNat xs.l).flatten⟩ := if_pos ⟨by omega, h.2⟩
end
end Gx
namespace Gx
open PySem PySem.Spec PyProof.Rows L2
open Rp (rp)
open Ra (ra)
open Ob (ob)
section
variable {X : Cx} {K : PySem.W.Frag} {e a b c d : Expr} {es : List Expr} {σ : L2.St} {F H F0 H0 : Hp} {pos : Pos} {D : Ends} {st : Stmt} {rest body : List Stmt}
def tListVals (te : TE) : TE := fun σ H Q => te σ H fun x H1 => ∃ d kvs, x = .ref d ∧ Rd H1 d (.dK kvs) ∧ ∀ p, H1 p = none → Q (.ref p) (upd H1 p (.lst (kvs.map (·.2))))
theorem KR.vals {κ ν : Type} [Rp ν] : ∀ {kvs : List (κ × V)} {l : List (κ × ν)}, KR K F kvs l → Rps K F (kvs.map (·.2)) (l.map (·.2))
  | _, _, .nil => .nil
  | _, _, .cons h t => .cons h.2 (KR.vals t)
section
variable {κ ν : Type} [Rp κ] [DecidableEq κ] [KeyS κ] [Rp ν]
end
theorem ev_tup5 {α β γ δ ε : Type} [Rp α] [Rp β] [Rp γ] [Rp δ] [Rp ε] {x : α} {y : β} {z : γ} {u : δ} {w : ε} {k : Nat} (h : EvA X es σ F H (x, y, z, u, w, ())) : Ev X (.Tuple es k pos) σ F H (T5.mk x y z u w) := ev_tup (θ := T5 α β γ δ ε) h (by show 5 ≤ sizeLine; decide)
def to2 {α : Type} : List α → Option (T2 α α)
  | [x, y] => some ⟨x, y⟩
  | _ => none
def to3 {α : Type} : List α → Option (T3 α α α)
  | [x, y, z] => some ⟨x, y, z⟩
  | _ => none
theorem ev_to2 {α : Type} [Rp α] {xs : Tp α} {r : T2 α α} (h : Ev X e σ F H xs) (hr : Gx.to2 xs.l = some r) : Ev X e σ F H r := h.re fun F v r2 => by
  obtain ⟨xs⟩ := xs
  match xs, hr, r2 with
  | [x, y], hr, ⟨a, vs, e, q, rs⟩ =>
    cases hr
    cases rs with
    | cons r1 t => cases t with
      | cons r2 t => cases t; exact ⟨a, _, e, q, _, _, rfl, r1, _, _, rfl, r2, rfl⟩
end
end Gx
namespace Gx
open PySem PySem.Spec PyProof.Rows L2
section
variable {α β γ ρ : Type}
theorem intsF_cons (k n : Nat) : intsF (k : Int) (n + 1) = (k : Int) :: intsF ((k + 1 : Nat) : Int) n := by rw [intsF_succ]; rfl
theorem Ok.range_aux {st : β → Int → Option β} {Q : β → Prop} (J : Nat → β → Prop) (n : Nat) (hs : ∀ k b, k < n → J k b → Ok (st b (k : Int)) fun b' => J (k + 1) b') (hq : ∀ b, J n b → Q b) : ∀ (m k : Nat) (b : β), k + m = n → J k b → Ok (Gx.loopN st b (intsF (k : Int) m)) Q
  | 0, k, b, e, h => ⟨b, rfl, hq b (by have : k = n := by omega
                                       exact this ▸ h)⟩
  | m + 1, k, b, e, h => by
    obtain ⟨b', e1, h1⟩ := hs k b (by omega) h
    rw [intsF_cons, loopN_cons e1]
    exact Ok.range_aux J n hs hq m (k + 1) b' (by omega) h1
theorem Ok.range {st : β → Int → Option β} {n : Nat} {b : β} {Q : β → Prop} (J : Nat → β → Prop) (h0 : J 0 b) (hs : ∀ k b, k < n → J k b → Ok (st b (k : Int)) fun b' => J (k + 1) b') (hq : ∀ b, J n b → Q b) : Ok (Gx.loopN st b (intsF 0 n)) Q :=
  Ok.range_aux J n hs hq n 0 b (by omega) h0
theorem atI_at {xs : List α} {k : Nat} {x : α} (h : xs[k]? = some x) : L2.atI xs (k : Int) = some x := by
  rw [atI_nn (by omega), Int.toNat_natCast]; exact h
end
end Gx
namespace Gx
open PySem PySem.Spec PyProof.Rows L2
open Rp (rp)
open Ra (ra)
open Ob (ob)
section
variable {X : Cx} {K : PySem.W.Frag} {e a b c d : Expr} {es : List Expr} {σ : L2.St} {F H F0 H0 : Hp} {pos : Pos} {D : Ends} {st : Stmt} {rest body : List Stmt}
def PrN (K : PySem.W.Frag) {τ ρ : Type} [Ra τ] [Rp ρ] [Ob ρ] (f : τ → Option ρ) : Sp := fun vs H Q _ => ∃ F a r, SmX K F H ∧ ra K F vs a ∧ f a = some r ∧ ∀ l o F' H', Gr F H F' H' → H l = none → F' l = none → H' l = some o → ob K F' o r → Q (.ref l) H'
theorem Gr.erl {F1 H1 F2 H2 H3 : Hp} {l : Addr} {o : HO} (g : Gr F1 H1 F2 H2) (f : F1 l = none) (h : H1 l = some o) (ls : lstish o) (po : pln o) (k : ∀ b, b ≠ l → H3 b = H2 b) (no : ∀ ps, H3 l ≠ some (.tbl ps)) : Gr F1 (er H1 l) F2 H3 := by
  have f2 : F2 l = none := (g.fr l o h ls).trans f
  have h2 := g.hh.k l o h po.ntb
  have un : ∀ b u, er H1 l b = some u → b ≠ l ∧ H1 b = some u := fun b u e => by
    unfold er at e; split at e
    · cases e
    · exact ⟨by assumption, e⟩
  refine ⟨g.ff, fun b u e => ?_, ⟨fun b u e ns => ?_, fun b ps e => ?_, fun P a => ?_⟩, fun b u e n => ?_⟩
  · rw [k b (ne_of_none e f2)]; exact g.fh _ _ e
  · obtain ⟨hb, e⟩ := un b u e
    rw [k b hb]; exact g.hh.k _ _ e ns
  · obtain ⟨hb, e⟩ := un b _ e
    rw [k b hb]; exact g.hh.t _ _ e
  · exact (g.hh.w P ((Xt.start ⟨o, h, po⟩).w P a)).but ⟨o, h2, po⟩ k
  · exact g.fr b u (un b u e).2 n
theorem Own.erl {α : Type} [Rp α] [Ob α] {x : α} {l : Addr} {F2 H2 H3 : Hp} (o : Own K H0 F H l x) (g : Gr F H F2 H2) (k : ∀ b, b ≠ l → H3 b = H2 b) (no : ∀ ps, H3 l ≠ some (.tbl ps)) : Gr F (er H l) F2 H3 := by
  obtain ⟨u, h, r⟩ := o.h
  exact g.erl o.f h (Ob.ls r) (Ob.pl r) k no
theorem no_er {l : Addr} : ∀ ps, er H l l ≠ some (.tbl ps) := fun ps e => by rw [er_same] at e; cases e
theorem Own.ere {α : Type} [Rp α] [Ob α] {x : α} {l : Addr} {F2 H2 : Hp} (o : Own K H0 F H l x) (g : Gr F H F2 H2) : Gr F (er H l) F2 (er H2 l) := o.erl g (fun b hb => er_ne hb) no_er
def EvM {ρ β : Type} [Rp ρ] [Rp β] [Ob β] (X : Cx) (e : Expr) (σ : L2.St) (F H : Hp) (l : Addr) (r : ρ) (y : β) : Prop := ∀ F1 H1, GrX X.K F H F1 H1 → ∀ Q : VK, (∀ u F2 H2 o, Gr F1 (er H1 l) F2 H2 → F2 l = none → H2 l = some o → ob X.K F2 o y → rp X.K F2 u r → Q u H2) → GoE X e σ H1 Q
def EvAM {τ1 τ2 : Type} [Ra τ1] [Ra τ2] (X : Cx) (es : List Expr) (σ : L2.St) (F H : Hp) (y : τ1) (l : Addr) (z : τ2) : Prop := ∀ F1 H1, GrX X.K F H F1 H1 → ∀ Q : List V → Hp → Prop, (∀ vs1 vs2 F2 H2, Gr F1 H1 F2 H2 → ra X.K F2 vs1 y → ra X.K F2 vs2 z → Q (vs1 ++ .ref l :: vs2) H2) → GoA X es σ H1 Q
theorem eam_here {τ2 : Type} [Ra τ2] {z : τ2} {l : Addr} {n : Str} {p : Pos} (i : Nat) (hσ : σ[i]? = some (some (.ref l))) (hr : EvA X es σ F H z) (hN : X.N[i]? = some n := by rfl) (hv : Vis X.env.scope n := by first | exact Or.inl rfl | exact Or.inr (Or.inl rfl) | exact Or.inr (Or.inr rfl))
    (hd : (n == ("__debug__" : Str)) = false := by decide) (hcd : (n == ("__classdict__" : Str)) = false := by decide) (hs : starEach (.Name n p :: es) X.env = (false, eval (.Name n p) X.env) :: starEach es X.env := by rfl) : EvAM X (.Name n p :: es) σ F H () l z := fun F1 H1 g Q q =>
  GoA.of (pa_cons (pe_var hN hv hd hcd) pa_go hs) ⟨_, hσ, hr F1 H1 g _ fun vs F2 H2 g2 r2 => q [] vs F2 H2 g2 rfl r2⟩
def PrM (K : PySem.W.Frag) {τ1 τ2 β ρ : Type} [Ra τ1] [Ra τ2] [Rp β] [Ob β] [Rp ρ] (f : τ1 → β → τ2 → Option (ρ × β)) : Sp := fun vs H Q _ => ∃ F ws1 l ws2 o a1 x a2 r, vs = ws1 ++ .ref l :: ws2 ∧ SmX K F H ∧ ra K F ws1 a1 ∧ ra K F ws2 a2 ∧ F l = none ∧ H l = some o ∧ ob K F o x ∧ f a1 x a2 = some r ∧
  ∀ F' H' u o', Gr F (er H l) F' H' → F' l = none → H' l = some o' → ob K F' o' r.2 → rp K F' u r.1 → Q u H'
def popG {α : Type} (xs : List α) (i : Int) : Option (α × List α) := if -(2 ^ 62) ≤ i ∧ i < 2 ^ 62 then match seqIndex? i xs.length with
    | some k => (xs[k]?).map fun y => (y, xs.eraseIdx k)
    | none => none
  else none
end
end Gx
namespace Gx
open PySem PySem.Spec PyProof.Rows L2
open Rp (rp)
open Ra (ra)
open Ob (ob)
section
variable {X : Cx} {K : PySem.W.Frag} {e a b c d : Expr} {es : List Expr} {σ : L2.St} {F H F0 H0 : Hp} {pos : Pos} {D : Ends} {st : Stmt} {rest body : List Stmt}
theorem Own.own {α : Type} [Rp α] [Ob α] {x : α} {l : Addr} {o : HO} {H1 : Hp} (g : Gr H1 H0 F H) : True := trivial
theorem Own.mk' {α : Type} [Rp α] [Ob α] {y : α} {l : Addr} {o : HO} (n : H0 l = none) (f : F l = none) (h : H l = some o) (b : ob K F o y) : Own K H0 F H l y := ⟨n, f, o, h, b⟩
def popE {α : Type} (xs : List α) : Option (α × List α) := match xs.getLast? with
  | some y => some (y, xs.dropLast)
  | none => none
theorem Rps.dropLast {α : Type} [Rp α] {vs : List V} {xs : List α} (h : Rps K F vs xs) : Rps K F vs.dropLast xs.dropLast := by
  rw [List.dropLast_eq_take, List.dropLast_eq_take, h.length]; exact Rps.take _ h
theorem Rps.reverse {α : Type} [Rp α] : ∀ {vs : List V} {xs : List α}, Rps K F vs xs → Rps K F vs.reverse xs.reverse
  | _, _, .nil => .nil
  | _, _, .cons r t => by rw [List.reverse_cons, List.reverse_cons]; exact Rps.append (Rps.reverse t) (.cons r .nil)
section
variable {α : Type} [Rp α] {xs : List α} {l : Addr} {n : Str} {p1 p2 p3 : Pos}
def rExtendF (K : PySem.W.Frag) : V → List V → Hp → VK → Prop := fun x vs H Q => ∃ l b xs zs, x = .ref l ∧ vs = [.ref b] ∧ H l = some (.lst xs) ∧ SqL K H b zs ∧ xs.length + zs.length ≤ sizeLine ∧ Q .non (upd H l (.lst (xs ++ zs)))
def insG {α : Type} (xs : List α) (i : Int) (y : α) : Option (List α) := if 0 ≤ i ∧ i < 2 ^ 62 ∧ xs.length < sizeLine then some (xs.take i.toNat ++ [y] ++ xs.drop i.toNat) else none
def setG {α : Type} (xs : List α) (i : Int) (y : α) : Option (List α) := (ixN xs.length i).map fun j => xs.set j y
theorem Rps.set {α : Type} [Rp α] {v : V} {x : α} (r : rp K F v x) : ∀ {vs : List V} {xs : List α} (n : Nat), Rps K F vs xs → Rps K F (vs.set n v) (xs.set n x)
  | _, _, _, .nil => .nil
  | _, _, 0, .cons _ t => .cons r t
  | _, _, n + 1, .cons r' t => .cons r' (Rps.set r n t)
end
end
end Gx
namespace Gx
open PySem PySem.Spec PyProof.Rows L2
open Rp (rp)
open Ra (ra)
open Ob (ob)
section
variable {X : Cx} {K : PySem.W.Frag} {e a b c d : Expr} {es : List Expr} {σ : L2.St} {F H F0 H0 : Hp} {pos : Pos} {D : Ends} {st : Stmt} {rest body : List Stmt}
def lRg (i j : Int) : Option (List Int) := if -(2 ^ 62) ≤ i ∧ i < 2 ^ 62 ∧ -(2 ^ 62) ≤ j ∧ j < 2 ^ 62 ∧ (j - i).toNat ≤ 2 ^ 24 then some (intsF i (j - i).toNat) else none
theorem ev_ixOwn {α : Type} [Rp α] {xs : List α} {x : α} {k : Int} {l : Addr} {n : Str} {p1 : Pos} (i : Nat) (o : Own X.K H0 F H l xs) (hσ : σ[i]? = some (some (.ref l))) (hb : Ev X b σ F H k) (h : L2.atI xs k = some x) (hs : NoSl b := by exact fun _ _ => rfl)
    (hN : X.N[i]? = some n := by rfl) (hv : Vis X.env.scope n := by first | exact Or.inl rfl | exact Or.inr (Or.inl rfl) | exact Or.inr (Or.inr rfl)) (hd : (n == ("__debug__" : Str)) = false := by decide) (hcd : (n == ("__classdict__" : Str)) = false := by decide) :
    Ev X (.Subscript (.Name n p1) b pos) σ F H x := fun F1 H1 g Q q => by
  have o1 := o.up g.toGr
  obtain ⟨_, hl, vs, rfl, rs⟩ := o1.h
  refine GoE.of (pe_ix ix_list (pe_var hN hv hd hcd) pe_go hs) ⟨_, hσ, hb F1 H1 g _ fun w F2 H2 g2 r2 => ?_⟩
  have rs2 := rs.mono g2.ff
  obtain ⟨v, hv2, rv⟩ := rs2.atI h
  exact ⟨l, vs, k, v, rfl, r2, SqL.of (g2.hh.k _ _ hl trivial), hv2, q v F2 H2 g2 rv⟩
theorem Ev.get {α : Type} [Rp α] [NN α] {o : Option α} {x : α} (h : Ev X e σ F H o) (he : o = Option.some x) : Ev X e σ F H x := by
  subst he
  exact h.re fun _ _ r => r
def rEqE (K : PySem.W.Frag) : R2 := fun x y H Q => ∃ a b xs, x = .ref a ∧ y = .ref b ∧ ((SqL K H a xs ∧ SqL K H b []) ∨ (SqT K H a xs ∧ SqT K H b [])) ∧ Q (.bl xs.isEmpty) H
def rNeE (K : PySem.W.Frag) : R2 := fun x y H Q => ∃ a b xs, x = .ref a ∧ y = .ref b ∧ ((SqL K H a xs ∧ SqL K H b []) ∨ (SqT K H a xs ∧ SqT K H b [])) ∧ Q (.bl (!xs.isEmpty)) H
theorem op_eqE (hu : X.A.units < cLine) : OpR X (compareOp .Eq) (rEqE X.K) := fun pins s σ H x y v u Q I rx ry ⟨a, b, xs, e1, e2, h, q⟩ => by
  subst e1; subst e2
  cases rx; cases ry
  rcases h with ⟨h1, h2⟩ | ⟨h1, h2⟩
  · obtain ⟨its, r, pl, _⟩ := I.list h1
    obtain ⟨its2, r2, pl2, _⟩ := I.list h2
    cases r2
    cases r with
    | nil => exact SeqAt.RcAt.lists (e := fun _ => true) pl.isList pl2.isList rfl hu (fun j h1 _ => absurd h1 (Nat.not_lt_zero _)) _ _ _ _ ⟨.bl true, H, I, rfl, q⟩
    | cons _ _ => exact SeqAt.RcAt.lists_lengths pl.isList pl2.isList (by simp) hu _ _ _ _ ⟨.bl false, H, I, rfl, q⟩
  · obtain ⟨its, r, ⟨o, ho, hc, n, hd⟩, _⟩ := I.tuple h1
    obtain ⟨its2, r2, ⟨o2, ho2, hc2, n2, hd2⟩, _⟩ := I.tuple h2
    cases r2
    cases r with
    | nil => exact SeqAt.RcAt.tuples (e := fun _ => true) ⟨o, ho, hc, n, hd⟩ ⟨o2, ho2, hc2, n2, hd2⟩ hu (fun j h1 _ => absurd h1 (Nat.not_lt_zero _)) _ _ _ _ ⟨.bl true, H, I, rfl, q⟩
    | cons _ _ => exact SeqAt.RcAt.tuples (e := fun _ => true) ⟨o, ho, hc, n, hd⟩ ⟨o2, ho2, hc2, n2, hd2⟩ hu (fun j _ h2 => absurd h2 (Nat.not_lt_zero _)) _ _ _ _ ⟨.bl false, H, I, by simp [L2.RelV], q⟩
theorem op_neE (hu : X.A.units < cLine) : OpR X (compareOp .NotEq) (rNeE X.K) := fun pins s σ H x y v u Q I rx ry ⟨a, b, xs, e1, e2, h, q⟩ => by
  subst e1; subst e2
  cases rx; cases ry
  rcases h with ⟨h1, h2⟩ | ⟨h1, h2⟩
  · obtain ⟨its, r, pl, _⟩ := I.list h1
    obtain ⟨its2, r2, pl2, _⟩ := I.list h2
    cases r2
    cases r with
    | nil => exact SeqAt.RcNeAt.lists (e := fun _ => true) pl.isList pl2.isList rfl hu (fun j h1 _ => absurd h1 (Nat.not_lt_zero _)) _ _ _ _ ⟨.bl false, H, I, rfl, q⟩
    | cons _ _ => exact SeqAt.RcNeAt.lists_lengths pl.isList pl2.isList (by simp) hu _ _ _ _ ⟨.bl true, H, I, rfl, q⟩
  · obtain ⟨its, r, ⟨o, ho, hc, n, hd⟩, _⟩ := I.tuple h1
    obtain ⟨its2, r2, ⟨o2, ho2, hc2, n2, hd2⟩, _⟩ := I.tuple h2
    cases r2
    cases r with
    | nil => exact SeqAt.RcNeAt.tuples (e := fun _ => true) ⟨o, ho, hc, n, hd⟩ ⟨o2, ho2, hc2, n2, hd2⟩ hu (fun j h1 _ => absurd h1 (Nat.not_lt_zero _)) _ _ _ _ ⟨.bl false, H, I, rfl, q⟩
    | cons _ _ => exact SeqAt.RcNeAt.tuples (e := fun _ => true) ⟨o, ho, hc, n, hd⟩ ⟨o2, ho2, hc2, n2, hd2⟩ hu (fun j _ h2 => absurd h2 (Nat.not_lt_zero _)) _ _ _ _ ⟨.bl true, H, I, by simp [L2.RelV], q⟩
section
variable {α : Type} [Rp α]
theorem isE {vs : List V} {xs : List α} (r : Rps K F vs xs) : vs.isEmpty = xs.isEmpty := by cases r <;> rfl
theorem o2_eqEL {xs : List α} : Op2 K (rEqE K) xs ([] : List α) xs.isEmpty := fun F H v w Q s ⟨a, vs, e, sq, rs⟩ ⟨b, ws, e2, sq2, rs2⟩ k => by
  cases rs2
  exact ⟨a, b, vs, e, e2, .inl ⟨s.seq sq, s.seq sq2⟩, k _ F H (.refl s) (congrArg V.bl (isE rs))⟩
theorem o2_neEL {xs : List α} : Op2 K (rNeE K) xs ([] : List α) (!xs.isEmpty) := fun F H v w Q s ⟨a, vs, e, sq, rs⟩ ⟨b, ws, e2, sq2, rs2⟩ k => by
  cases rs2
  exact ⟨a, b, vs, e, e2, .inl ⟨s.seq sq, s.seq sq2⟩, k _ F H (.refl s) (congrArg (fun t => V.bl (!t)) (isE rs))⟩
end
end
end Gx
namespace Gx
open PySem PySem.Spec PyProof.Rows
open AutoSeq1 (wpAny_loadPart')
abbrev itO (l : Addr) : Obj := { cls := .type "tuple_iterator", data := .fields #[.ref l, .int 0 0] }
abbrev enO (i : Addr) : Obj := { cls := .type "enumerate", data := .fields #[.none, .bool false, .ref i, rawInt 0, .none, .none] }
end Gx
namespace Gx
open PySem PySem.Spec PyProof.Rows L2
open Rp (rp)
open Ra (ra)
open Ob (ob)
def IteT (K : PySem.W.Frag) (a : Addr) : It :=
  ⟨fun i H => ∃ (xs : List V) (x : V), SqT K H a xs ∧ xs[i]? = some x, fun i H v H' => ∃ T x, v = .ref T ∧ H T = none ∧ H' = upd H T (.tup [.int (i : Nat), x]) ∧ ∀ xs, SqT K H a xs → xs[i]? = some x, fun i H => ∃ xs : List V, SqT K H a xs ∧ xs.length ≤ i⟩
def iEnumT (K : PySem.W.Frag) (ta : TA) : TI := fun σ H R => ta σ H fun vs H1 => ∃ a xs, vs = [.ref a] ∧ SqT K H1 a xs ∧ R (IteT K a) H1
section
variable {X : Cx} {K : PySem.W.Frag} {e a b c d : Expr} {es : List Expr} {σ : L2.St} {F H F0 H0 : Hp} {pos : Pos} {D : Ends} {st : Stmt} {rest body : List Stmt}
theorem rps_ints {vs : List V} {xs : List Int} (h : Rps K F vs xs) : vs = xs.map V.int := by
  induction h with
  | nil => rfl
  | cons r t ih => rw [ih, show _ = V.int _ from r]; rfl
theorem oc_sum {xs : List Int} : OpC K (rSum K) (xs, ()) xs.sum :=
  oc1 fun F H v Q s ⟨a, vs, e, sq, rs⟩ k => ⟨a, xs, by rw [e], by rw [← rps_ints rs]; exact s.seq sq, k _ F H (.refl s) rfl⟩
end
end Gx
namespace Gx
open PySem PySem.Spec PyProof.Rows L2
open Rp (rp)
open Ra (ra)
open Ob (ob)
theorem isD_tup {F : Hp} {l : Addr} (d : IsD F l) : (∀ xs, ¬ F l = some (.tup xs)) ∧ (∀ (o' : Obj) (xs : List V), ¬ F l = some (.frz o' (.tup xs))) := by
  rcases d with ⟨ks, d | ⟨o, d⟩⟩ | ⟨ks, d | ⟨o, d⟩⟩ <;> exact ⟨fun xs h => (by rw [d] at h; cases h), fun o' xs h => (by rw [d] at h; cases h)⟩
theorem isD_lst {F : Hp} {l : Addr} {xs : List V} (d : IsD F l) : ¬ Rd F l (.lst xs) := by
  rcases d with ⟨ks, d | ⟨o, d⟩⟩ | ⟨ks, d | ⟨o, d⟩⟩ <;> rintro (h | ⟨o, h⟩) <;> (rw [d] at h; cases h)
theorem er_neD {F : Hp} {l a : Addr} (h : ¬ a = l) : er F l a = F a := if_neg h
class FlatD (α : Type) [Rp α] : Prop where
  fl : ∀ {K : PySem.W.Frag} {F : Hp} {l : Addr} {v : V} {x : α}, IsD F l → rp K F v x → rp K (er F l) v x
instance : FlatD Int := ⟨fun _ h => h⟩
instance : FlatD Bool := ⟨fun _ h => h⟩
instance : FlatD Str := ⟨fun _ h => h⟩
instance : FlatD Unit := ⟨fun _ h => h⟩
instance {α : Type} [Rp α] [NN α] [FlatD α] : FlatD (Option α) := ⟨fun {K F l v x} h1 h => by
  cases x with
  | none => exact h
  | some x => exact FlatD.fl (α := α) h1 h⟩
theorem Rps.fd {α : Type} [Rp α] [FlatD α] {K : PySem.W.Frag} {F : Hp} {l : Addr} {vs : List V} {xs : List α} (h1 : IsD F l) (h : Rps K F vs xs) : Rps K (er F l) vs xs := L2.Paired.mapP h fun _ _ => FlatD.fl h1
instance {α : Type} [Rp α] [FlatD α] : FlatD (Tp α) := ⟨fun h1 ⟨a, vs, e, q, r⟩ => ⟨a, vs, e, er_seqT (isD_tup h1).1 (isD_tup h1).2 q, Rps.fd h1 r⟩⟩
instance {α : Type} [Rp α] [FlatD α] : FlatD (List α) := ⟨fun {K F l v x} h1 ⟨a, vs, e, q, r⟩ => ⟨a, vs, e, by
  rcases q with q | q
  · refine .inl ?_
    have : ¬ a = l := fun z => isD_lst h1 (z ▸ q)
    unfold Rd
    rw [er_neD this]; exact q
  · exact .inr q, Rps.fd h1 r⟩⟩
class FlatDR (τ : Type) [Ra τ] : Prop where
  fl : ∀ {K : PySem.W.Frag} {F : Hp} {l : Addr} {v : List V} {x : τ}, IsD F l → ra K F v x → ra K (er F l) v x
instance : FlatDR Unit := ⟨fun _ h => h⟩
instance {α τ : Type} [Rp α] [Ra τ] [FlatD α] [FlatDR τ] : FlatDR (α × τ) := ⟨fun h1 ⟨v, r, e, p, q⟩ => ⟨v, r, e, FlatD.fl h1 p, FlatDR.fl h1 q⟩⟩
theorem rpT.fd {θ τ : Type} [Ra τ] [FlatDR τ] {row : θ → τ} {K : PySem.W.Frag} {F : Hp} {l : Addr} {v : V} {x : θ} (h1 : IsD F l) : rpT row K F v x → rpT row K (er F l) v x := fun ⟨a, vs, e, q, r⟩ => ⟨a, vs, e, er_seqT (isD_tup h1).1 (isD_tup h1).2 q, FlatDR.fl h1 r⟩
instance {α : Type} [Rp α] [FlatD α] : FlatD (T1 α) := ⟨rpT.fd⟩
instance {α β : Type} [Rp α] [Rp β] [FlatD α] [FlatD β] : FlatD (T2 α β) := ⟨rpT.fd⟩
instance {α β γ : Type} [Rp α] [Rp β] [Rp γ] [FlatD α] [FlatD β] [FlatD γ] : FlatD (T3 α β γ) := ⟨rpT.fd⟩
instance {α β γ δ : Type} [Rp α] [Rp β] [Rp γ] [Rp δ] [FlatD α] [FlatD β] [FlatD γ] [FlatD δ] : FlatD (T4 α β γ δ) := ⟨rpT.fd⟩
instance {α β γ δ ε : Type} [Rp α] [Rp β] [Rp γ] [Rp δ] [Rp ε] [FlatD α] [FlatD β] [FlatD γ] [FlatD δ] [FlatD ε] : FlatD (T5 α β γ δ ε) := ⟨rpT.fd⟩
section
variable {X : Cx} {K : PySem.W.Frag} {e a b c d : Expr} {es : List Expr} {σ : L2.St} {F H F0 H0 : Hp} {pos : Pos} {D : Ends} {st : Stmt} {rest body : List Stmt}
end
theorem el_int {es : List Expr} {i : Int} {j : Nat} {pos : Pos} {xs : List Int} (hr : EvL X es σ F H xs) : EvL X (.Constant (.int i) j pos :: es) σ F H (i :: xs) := el_cons ev_int hr
def unlist2 {α : Type} : List α → Option (T2 α α)
  | [a, b] => some ⟨a, b⟩
  | _ => none
def unlist3 {α : Type} : List α → Option (T3 α α α)
  | [a, b, c] => some ⟨a, b, c⟩
  | _ => none
def unlist4 {α : Type} : List α → Option (T4 α α α α)
  | [a, b, c, d] => some ⟨a, b, c, d⟩
  | _ => none
theorem seqL_mono {K : PySem.W.Frag} {F H : Hp} {a : Addr} {vs : List V} (s : L2.Same F H) (q : SqL K F a vs) : SqL K H a vs := s.seq q
structure Blur : Type where
instance : Rp Blur := ⟨fun _ _ v _ => v ≠ .non, fun _ h => h⟩
instance : NN Blur := ⟨fun h => h rfl⟩
instance : Flat Blur := ⟨fun _ _ h => h⟩
instance : FlatD Blur := ⟨fun _ h => h⟩
section
variable {X : Cx} {e a b c : Expr} {σ : L2.St} {F H : Hp} {pos : Pos} {D : Ends} {rest : List Stmt}
theorem go_setA (α : Type) [Rp α] {x : α} {n : Str} {p : Pos} (i : Nat) (s : SmX X.K F H) (he : Ev X e σ F H x) (k : ∀ v F' H', Gr F H F' H' → rp X.K F' v x → GoS X rest D (σ.set i (some v)) H') (hN : X.N.Nodup) (hi : X.N[i]? = some n := by rfl)
    (hx : Loc X.env.scope n := by first | exact Or.inl rfl | exact Or.inr rfl) (hs : swapsWith e (some (.Name n p)) pos.line X.env = pure false := by rfl) (hf : X.fn n = true ∨ X.env.scope.names.lookup n = some .local := by first | exact .inl rfl | exact .inr rfl) :
    GoS X (.Assign [.Name n p] e pos :: rest) D σ H := go_set i s he k hN hi hx hs hf
theorem go_setNA (α : Type) [Rp α] [Ob α] {x : α} {n : Str} {p : Pos} (i : Nat) (s : SmX X.K F H) (he : EvN X e σ F H x) (k : ∀ l o F' H', Gr F H F' H' → H l = none → F' l = none → H' l = some o → ob X.K F' o x → GoS X rest D (σ.set i (some (.ref l))) H') (hN : X.N.Nodup) (hi : X.N[i]? = some n := by rfl)
    (hx : Loc X.env.scope n := by first | exact Or.inl rfl | exact Or.inr rfl) (hs : swapsWith e (some (.Name n p)) pos.line X.env = pure false := by rfl) (hf : X.fn n = true ∨ X.env.scope.names.lookup n = some .local := by first | exact .inl rfl | exact .inr rfl) :
    GoS X (.Assign [.Name n p] e pos :: rest) D σ H := go_setN i s he k hN hi hx hs hf
theorem go_retA (α : Type) [Rp α] {x : α} (s : SmX X.K F H) (he : Ev X e σ F H x) (k : ∀ v F' H', Gr F H F' H' → rp X.K F' v x → D.rt v H') : GoS X (.Return (some e) pos :: rest) D σ H := go_ret s he k
theorem go_ifA (t : Bool) {as bs : List Stmt} (s : SmX X.K F H) (hc : EvT X c σ F H t) (ka : t = true → ∀ F' H', Gr F H F' H' → GoS X as { D with nx := GoS X rest D } σ H') (kb : t = false → ∀ F' H', Gr F H F' H' → GoS X bs { D with nx := GoS X rest D } σ H') :
    GoS X (.If c as bs pos :: rest) D σ H := go_if s hc ka kb
theorem go_ifjA (t : Bool) {as bs : List Stmt} (P : L2.St → Hp → Prop) (s : SmX X.K F H) (hc : EvT X c σ F H t) (ka : t = true → ∀ F' H', Gr F H F' H' → GoS X as { D with nx := P } σ H') (kb : t = false → ∀ F' H', Gr F H F' H' → GoS X bs { D with nx := P } σ H')
    (k : ∀ σ' H', P σ' H' → GoS X rest D σ' H') : GoS X (.If c as bs pos :: rest) D σ H := go_ifj P s hc ka kb k
theorem EvN.evA (α : Type) [Rp α] [Ob α] {x : α} (h : EvN X e σ F H x) : Ev X e σ F H x := h.ev
theorem ew_orA (x : Bool) {r : Bool} {rest : List Expr} (ha : EvT X a σ F H x) (hb : x = false → EvW X (.BoolOp .Or (b :: rest) pos) σ F H r) (hn : x = true → r = true) : EvW X (.BoolOp .Or (a :: b :: rest) pos) σ F H r := ew_or ha hb hn
theorem ew_andA (x : Bool) {r : Bool} {rest : List Expr} (ha : EvT X a σ F H x) (hb : x = true → EvW X (.BoolOp .And (b :: rest) pos) σ F H r) (hn : x = false → r = false) : EvW X (.BoolOp .And (a :: b :: rest) pos) σ F H r := ew_and ha hb hn
theorem ev_andA (x : Bool) {r : Bool} {rest : List Expr} (ha : Ev X a σ F H x) (hb : x = true → Ev X (.BoolOp .And (b :: rest) pos) σ F H r) (hn : x = false → r = false) : Ev X (.BoolOp .And (a :: b :: rest) pos) σ F H r := ev_and ha hb hn
theorem ev_powcA (z : Int) {x y : Int} (ha : Ev X a σ F H x) (hb : Ev X b σ F H y) (h : CPow x y) (hz : x ^ y.toNat = z) : Ev X (.BinOp a .Pow b pos) σ F H z := ev_powc ha hb h hz
end
end Gx
namespace Gx
open PySem PySem.Spec PyProof.Rows L2
open Rp (rp)
open Ra (ra)
open Ob (ob)
structure IsaF (K : PySem.W.Frag) (cn dn : Str) (b : Bool) : Prop where
  ha : PySem.W.findIn K (.ref (He.ga K cn)) "__class__" = some (some (.builtin "object.__class__"))
  hn : PySem.W.specialIn K (.builtin "object.__class__") "__get__" = some (some (.builtin "getset_descriptor.__get__"))
  ht : PySem.W.takesIn K (.builtin "object.__class__") = some true
  hm : PySem.W.mroIn K (He.ga K cn) (.type "object") = some true
  kit : PySem.W.kitOne K (.ref (He.ga K cn)) (.ref (He.ga K dn)) = some b
def isaB (K : PySem.W.Frag) (cn dn : Str) (b : Bool) : Bool := decide (PySem.W.findIn K (.ref (He.ga K cn)) "__class__" = some (some (.builtin "object.__class__"))) && (decide (PySem.W.specialIn K (.builtin "object.__class__") "__get__" = some (some (.builtin "getset_descriptor.__get__"))) && (decide (PySem.W.takesIn K (.builtin "object.__class__") = some true) && (decide (PySem.W.mroIn K (He.ga K cn) (.type "object") = some true) && decide (PySem.W.kitOne K (.ref (He.ga K cn)) (.ref (He.ga K dn)) = some b))))
section
variable {X : Cx} {K : PySem.W.Frag} {e a b c d : Expr} {es : List Expr} {σ : L2.St} {F H F0 H0 : Hp} {pos : Pos} {D : Ends} {st : Stmt} {rest body : List Stmt}
theorem rpI.ins {cn : Str} {names : List Str} {τ : Type} [Ra τ] {F : Hp} {v : V} {x : τ} (h : rpI cn names K F v x) : ∃ a dx fs, v = .ref a ∧ F a = some (.ins (He.ga K cn) dx fs) := by
  obtain ⟨a, dx, vs, e, q, _⟩ := h
  exact ⟨a, dx, _, e, q⟩
structure T6 (α β γ δ ε ζ : Type) where
  a : α
  b : β
  c : γ
  d : δ
  e : ε
  f : ζ
  deriving DecidableEq
abbrev T6.row {α β γ δ ε ζ : Type} (x : T6 α β γ δ ε ζ) : α × β × γ × δ × ε × ζ × Unit := (x.a, x.b, x.c, x.d, x.e, x.f, ())
instance {α β γ δ ε ζ : Type} [Rp α] [Rp β] [Rp γ] [Rp δ] [Rp ε] [Rp ζ] : Rp (T6 α β γ δ ε ζ) := ⟨rpT T6.row, rpT.mono⟩
instance {α β γ δ ε ζ : Type} [Rp α] [Rp β] [Rp γ] [Rp δ] [Rp ε] [Rp ζ] : NN (T6 α β γ δ ε ζ) := ⟨rpT.nn⟩
instance {α β γ δ ε ζ : Type} [Rp α] [Rp β] [Rp γ] [Rp δ] [Rp ε] [Rp ζ] : Tup (T6 α β γ δ ε ζ) (α × β × γ × δ × ε × ζ × Unit) := ⟨T6.row, Iff.rfl⟩
instance {α β γ δ ε ζ : Type} [Rp α] [Rp β] [Rp γ] [Rp δ] [Rp ε] [Rp ζ] [Flat α] [Flat β] [Flat γ] [Flat δ] [Flat ε] [Flat ζ] : Flat (T6 α β γ δ ε ζ) := ⟨rpT.fl⟩
instance {α β γ δ ε ζ : Type} [Rp α] [Rp β] [Rp γ] [Rp δ] [Rp ε] [Rp ζ] [FlatD α] [FlatD β] [FlatD γ] [FlatD δ] [FlatD ε] [FlatD ζ] : FlatD (T6 α β γ δ ε ζ) := ⟨rpT.fd⟩
instance {α β γ δ ε ζ : Type} [Rp α] [Rp β] [Rp γ] [Rp δ] [Rp ε] [Rp ζ] : Kd (T6 α β γ δ ε ζ) := ⟨"tuple", rpT.kd⟩
instance {α β γ δ ε ζ : Type} [Rp α] [Rp β] [Rp γ] [Rp δ] [Rp ε] [Rp ζ] [Pd α] [Pd β] [Pd γ] [Pd δ] [Pd ε] [Pd ζ] : Pd (T6 α β γ δ ε ζ) := ⟨fun x => .tuple (PdR.toR x.row), rpT.dp, rowEq fun x y => by cases x; cases y; simp [T6.row]⟩
instance {α β γ δ ε ζ : Type} [Rp α] [Rp β] [Rp γ] [Rp δ] [Rp ε] [Rp ζ] [Pd α] [Pd β] [Pd γ] [Pd δ] [Pd ε] [Pd ζ] [PdS α] [PdS β] [PdS γ] [PdS δ] [PdS ε] [PdS ζ] : PdS (T6 α β γ δ ε ζ) := ⟨PdRS.dep (α × β × γ × δ × ε × ζ × Unit) + 1, fun x => Nat.succ_le_succ (PdRS.de x.row)⟩
instance {α β γ δ ε ζ : Type} [Rp α] [Rp β] [Rp γ] [Rp δ] [Rp ε] [Rp ζ] [Pd α] [Pd β] [Pd γ] [Pd δ] [Pd ε] [Pd ζ] [PdF α] [PdF β] [PdF γ] [PdF δ] [PdF ε] [PdF ζ] : PdF (T6 α β γ δ ε ζ) := ⟨fun x => PdRF.ok x.row⟩
instance {α β γ δ ε ζ : Type} [Rp α] [Rp β] [Rp γ] [Rp δ] [Rp ε] [Rp ζ] [Pd α] [Pd β] [Pd γ] [Pd δ] [Pd ε] [Pd ζ] [PdL α] [PdL β] [PdL γ] [PdL δ] [PdL ε] [PdL ζ] : PdL (T6 α β γ δ ε ζ) := ⟨fun x => PdRL.tx x.row, fun h => PdRL.ok h⟩
structure T7 (α β γ δ ε ζ η : Type) where
  a : α
  b : β
  c : γ
  d : δ
  e : ε
  f : ζ
  g : η
  deriving DecidableEq
abbrev T7.row {α β γ δ ε ζ η : Type} (x : T7 α β γ δ ε ζ η) : α × β × γ × δ × ε × ζ × η × Unit := (x.a, x.b, x.c, x.d, x.e, x.f, x.g, ())
instance {α β γ δ ε ζ η : Type} [Rp α] [Rp β] [Rp γ] [Rp δ] [Rp ε] [Rp ζ] [Rp η] : Rp (T7 α β γ δ ε ζ η) := ⟨rpT T7.row, rpT.mono⟩
instance {α β γ δ ε ζ η : Type} [Rp α] [Rp β] [Rp γ] [Rp δ] [Rp ε] [Rp ζ] [Rp η] : NN (T7 α β γ δ ε ζ η) := ⟨rpT.nn⟩
instance {α β γ δ ε ζ η : Type} [Rp α] [Rp β] [Rp γ] [Rp δ] [Rp ε] [Rp ζ] [Rp η] : Tup (T7 α β γ δ ε ζ η) (α × β × γ × δ × ε × ζ × η × Unit) := ⟨T7.row, Iff.rfl⟩
instance {α β γ δ ε ζ η : Type} [Rp α] [Rp β] [Rp γ] [Rp δ] [Rp ε] [Rp ζ] [Rp η] [Flat α] [Flat β] [Flat γ] [Flat δ] [Flat ε] [Flat ζ] [Flat η] : Flat (T7 α β γ δ ε ζ η) := ⟨rpT.fl⟩
instance {α β γ δ ε ζ η : Type} [Rp α] [Rp β] [Rp γ] [Rp δ] [Rp ε] [Rp ζ] [Rp η] [FlatD α] [FlatD β] [FlatD γ] [FlatD δ] [FlatD ε] [FlatD ζ] [FlatD η] : FlatD (T7 α β γ δ ε ζ η) := ⟨rpT.fd⟩
instance {α β γ δ ε ζ η : Type} [Rp α] [Rp β] [Rp γ] [Rp δ] [Rp ε] [Rp ζ] [Rp η] : Kd (T7 α β γ δ ε ζ η) := ⟨"tuple", rpT.kd⟩
instance {α β γ δ ε ζ η : Type} [Rp α] [Rp β] [Rp γ] [Rp δ] [Rp ε] [Rp ζ] [Rp η] [Pd α] [Pd β] [Pd γ] [Pd δ] [Pd ε] [Pd ζ] [Pd η] : Pd (T7 α β γ δ ε ζ η) := ⟨fun x => .tuple (PdR.toR x.row), rpT.dp, rowEq fun x y => by cases x; cases y; simp [T7.row]⟩
instance {α β γ δ ε ζ η : Type} [Rp α] [Rp β] [Rp γ] [Rp δ] [Rp ε] [Rp ζ] [Rp η] [Pd α] [Pd β] [Pd γ] [Pd δ] [Pd ε] [Pd ζ] [Pd η] [PdS α] [PdS β] [PdS γ] [PdS δ] [PdS ε] [PdS ζ] [PdS η] : PdS (T7 α β γ δ ε ζ η) := ⟨PdRS.dep (α × β × γ × δ × ε × ζ × η × Unit) + 1, fun x => Nat.succ_le_succ (PdRS.de x.row)⟩
instance {α β γ δ ε ζ η : Type} [Rp α] [Rp β] [Rp γ] [Rp δ] [Rp ε] [Rp ζ] [Rp η] [Pd α] [Pd β] [Pd γ] [Pd δ] [Pd ε] [Pd ζ] [Pd η] [PdF α] [PdF β] [PdF γ] [PdF δ] [PdF ε] [PdF ζ] [PdF η] : PdF (T7 α β γ δ ε ζ η) := ⟨fun x => PdRF.ok x.row⟩
instance {α β γ δ ε ζ η : Type} [Rp α] [Rp β] [Rp γ] [Rp δ] [Rp ε] [Rp ζ] [Rp η] [Pd α] [Pd β] [Pd γ] [Pd δ] [Pd ε] [Pd ζ] [Pd η] [PdL α] [PdL β] [PdL γ] [PdL δ] [PdL ε] [PdL ζ] [PdL η] : PdL (T7 α β γ δ ε ζ η) := ⟨fun x => PdRL.tx x.row, fun h => PdRL.ok h⟩
theorem ev_tup7 {α β γ δ ε ζ η : Type} [Rp α] [Rp β] [Rp γ] [Rp δ] [Rp ε] [Rp ζ] [Rp η] {x : α} {y : β} {z : γ} {u : δ} {w : ε} {p : ζ} {q : η} {k : Nat} (h : EvA X es σ F H (x, y, z, u, w, p, q, ())) : Ev X (.Tuple es k pos) σ F H (T7.mk x y z u w p q) := ev_tup (θ := T7 α β γ δ ε ζ η) h (by show 7 ≤ sizeLine; decide)
theorem pj5 {α β γ δ ε ζ τ : Type} [Rp α] [Rp β] [Rp γ] [Rp δ] [Rp ε] [Rp ζ] [Ra τ] {x0 : α} {x1 : β} {x2 : γ} {x3 : δ} {x4 : ε} {x5 : ζ} {y : τ} : Proj 5 (x0, x1, x2, x3, x4, x5, y) x5 := fun K F vs ⟨v0, r0, e0, p0, v1, r1, e1, p1, v2, r2, e2, p2, v3, r3, e3, p3, v4, r4, e4, p4, v5, r5, e5, p5, q⟩ => ⟨v5, by subst e0; subst e1; subst e2; subst e3; subst e4; subst e5; show (ixN (r5.length + 1 + 1 + 1 + 1 + 1 + 1) 5).bind _ = _; unfold ixN; rw [if_pos (by decide), if_pos (by omega)]; rfl, p5⟩
theorem pj6 {α β γ δ ε ζ η τ : Type} [Rp α] [Rp β] [Rp γ] [Rp δ] [Rp ε] [Rp ζ] [Rp η] [Ra τ] {x0 : α} {x1 : β} {x2 : γ} {x3 : δ} {x4 : ε} {x5 : ζ} {x6 : η} {y : τ} : Proj 6 (x0, x1, x2, x3, x4, x5, x6, y) x6 := fun K F vs ⟨v0, r0, e0, p0, v1, r1, e1, p1, v2, r2, e2, p2, v3, r3, e3, p3, v4, r4, e4, p4, v5, r5, e5, p5, v6, r6, e6, p6, q⟩ => ⟨v6, by subst e0; subst e1; subst e2; subst e3; subst e4; subst e5; subst e6; show (ixN (r6.length + 1 + 1 + 1 + 1 + 1 + 1 + 1) 6).bind _ = _; unfold ixN; rw [if_pos (by decide), if_pos (by omega)]; rfl, p6⟩
theorem zip_none {m : Str} : ∀ {names : List Str} {vs : List V}, m ∉ names → (names.zip vs).lookup m = none
  | [], _, _ => rfl
  | _ :: _, [], _ => rfl
  | n :: ns, v :: vs, h => by
    show (match m == n with | true => some v | false => (ns.zip vs).lookup m) = none
    have h1 : (m == n) = false := beq_eq_false_iff_ne.mpr fun e => h (e ▸ List.mem_cons_self)
    rw [h1]
    exact zip_none fun z => h (List.mem_cons_of_mem _ z)
end
end Gx
namespace Gx
open PySem PySem.Spec PyProof.Rows L2
open Rp (rp)
open Ra (ra)
open Ob (ob)
inductive Rs (ε ρ : Type) where
  | v (r : ρ)
  | x (e : ε)
class Xk (ε : Type) where
  xr : PySem.W.Frag → Hp → Hp → Value → Option Addr → ε → Prop
open Xk (xr)
def xr1 (cn fn : Str) {α : Type} [Rp α] (K : PySem.W.Frag) (F H : Hp) (cls : Value) (dd : Option Addr) (x : α) : Prop := cls = .ref (He.ga K cn) ∧ ∃ d v, dd = some d ∧ H d = some (.xd [(fn, v)]) ∧ rp K F v x
def xr0 (cn : Str) (K : PySem.W.Frag) (cls : Value) (dd : Option Addr) : Prop := cls = .ref (He.ga K cn) ∧ dd = none
def PrE (K : PySem.W.Frag) {τ ε ρ : Type} [Ra τ] [Xk ε] [Rp ρ] (f : τ → Option (Rs ε ρ)) : Sp := fun vs H Q E => ∃ F a o, SmX K F H ∧ ra K F vs a ∧ f a = some o ∧
  (∀ r, o = .v r → ∀ F' H' u, Gr F H F' H' → rp K F' u r → Q u H') ∧ (∀ e, o = .x e → ∀ F' H' cls dd, Gr F H F' H' → xr K F' H' cls dd e → E cls dd H')
def oexB (K : PySem.W.Frag) (C : Addr) : Bool := match K.lookup C with
  | some ⟨.type "type", _, .cls cd, sl⟩ => (match cd.mro, sl.toList with
    | .ref C' :: bm, [_, _, _, _, some (.builtin n), _] => C' == C && n == "ValueError.__new__" && !cd.hasDel && cd.hasDict && PySem.HandSPX.refsVE bm
    | _, _ => false)
  | _ => false
structure XoF (K : PySem.W.Frag) (cn fn : Str) : Prop where
  T : OexC K (He.ga K cn)
  iC : PySem.W.findIn K (.ref (He.ga K cn)) "__init__" = some (some (.ref (He.ma K (He.ga K cn) "__init__")))
  tI : PySem.W.typeIn K (.ref (He.ma K (He.ga K cn) "__init__")) = some (.type "function")
  no : PySem.W.findIn K (.ref (He.ga K cn)) fn = some none
  xf : XfC K (He.ga K cn)
def xoB (K : PySem.W.Frag) (cn fn : Str) : Bool := (((((((oexB K (He.ga K cn) && decide (PySem.W.findIn K (.ref (He.ga K cn)) "__setattr__" = some (some (.builtin "object.__setattr__")))) && decide (PySem.W.subIn K (.ref (He.ga K cn)) (.type "BaseException") = some true)) && decide (PySem.W.typeIn K (.ref (He.ga K cn)) = some (.type "type"))) && PySem.W.keepIn K (.ref (He.ga K cn))) &&
  decide (PySem.W.findIn K (.ref (He.ga K cn)) "__init__" = some (some (.ref (He.ma K (He.ga K cn) "__init__"))))) && decide (PySem.W.typeIn K (.ref (He.ma K (He.ga K cn) "__init__")) = some (.type "function"))) && decide (PySem.W.findIn K (.ref (He.ga K cn)) fn = some none)) && xfB K (He.ga K cn)
abbrev XnF (K : PySem.W.Frag) (cn : Str) : Prop := PySem.W.excIn K (He.ga K cn) He.veBase "ValueError.__new__" = true ∧ PySem.W.keepIn K (.ref (He.ga K cn)) = true ∧ PySem.W.subIn K (.ref (He.ga K cn)) (.type "BaseException") = some true ∧ PySem.W.typeIn K (.ref (He.ga K cn)) = some (.type "type")
def PrXI (K : PySem.W.Frag) (C : Addr) (fn : Str) : Sp := fun vs H Q _ => ∃ a v, vs = [.ref a, v] ∧ H a = some (exo a C none) ∧ ∀ d, H d = none → d ≠ a → Q .non (upd (upd H d (exd d [(fn, v)])) a (exo a C (some d)))
section
variable {X : Cx} {K : PySem.W.Frag} {e a b c d : Expr} {es : List Expr} {σ : L2.St} {F H F0 H0 : Hp} {pos : Pos} {D : Ends} {st : Stmt} {rest body : List Stmt} {ε : Type} [Xk ε] {W : WX}
theorem fn_okX {P : Program} {w : World} {mg : Str → Option Value} {base : Heap} {τ ρ : Type} [Ra τ] [RaN τ] [Rp ρ] {f : τ → Option (Rs ε ρ)} {x qual : Str} {s0 : Stmt} {fa : Addr} {fd : FuncData} {N ps : List Str} {k : Nat} (Fn : FunD K x qual (defArgs s0) (defBody s0) (defScope s0) [] [] fa fd) (S : FnScope N ps (defScope s0)) (hn : RaN.n τ = ps.length)
    (hbody : ∀ (cdv : Value) (A : Around) (outer : List Env) (s : Shared) (F H : Hp) (vs : List V) (a : τ) (r : Rs ε ρ) (D : Ends) (E : XK), Room k (A.deeper (envOfC qual (defScope s0) s.heap.objs.size fa cdv)) → SmX K F H → ra K F vs a → f a = some r →
      (∀ F' H' u y, Rs.v y = r → GrX K F H F' H' → rp K F' u y → D.rt u H') → (∀ σ' F' H' y, Rs.v y = r → GrX K F H F' H' → rp K F' .non y → D.nx σ' H') →
      (∀ y, Rs.x y = r → ∀ F' H' cls dd, GrX K F H F' H' → xr K F' H' cls dd y → E cls dd H') →
      Takes (cxOf (L2.CX P w) P w K mg base N qual (defScope s0) fa cdv A outer s H E) (fun cls d _ H => E cls d H) →
      PassesOwn (model P w) (A.deeper (envOfC qual (defScope s0) s.heap.objs.size fa cdv)) (envOfC qual (defScope s0) s.heap.objs.size fa cdv) (cxOf (L2.CX P w) P w K mg base N qual (defScope s0) fa cdv A outer s H E).xe →
      GoS (cxOf (L2.CX P w) P w K mg base N qual (defScope s0) fa cdv A outer s H E) (defBody s0) D (start N vs) H) :
    FnOk P w K mg base (L2.CX P w) (k + 1) fa fd ps (PrE K f) := by
  refine Fn.ok S (fun vs H Q E ⟨F, a, r, _, ra', _⟩ => by rw [RaN.len ra', hn]) fun cdv A outer s H vs Q E hr ⟨F, a, r, sm, ra', hf, k, kx⟩ => ?_
  refine ⟨_, pss_go, hbody cdv A outer s F H vs a r { nx := fun _ H' => Q .non H', rt := Q } E hr sm ra' hf (fun F' H' u y q g r => k y q.symm F' H' u g.toGr r) (fun σ' F' H' y q g r => k y q.symm F' H' .non g.toGr r) (fun y q F' H' cls dd g r => kx y q.symm F' H' cls dd g.toGr r) (takes_of rfl rfl rfl rfl) (passes_of rfl)⟩
def EvX {ρ : Type} [Rp ρ] (X : Cx) (W : WX) (e : Expr) (σ : L2.St) (F H : Hp) (o : Rs ε ρ) : Prop := ∀ F1 H1, GrX X.K F H F1 H1 → ∀ Q : VK, (∀ r, o = .v r → ∀ v F2 H2, Gr F1 H1 F2 H2 → rp X.K F2 v r → Q v H2) → (∀ y, o = .x y → ∀ F2 H2 cls dd, Gr F1 H1 F2 H2 → xr X.K F2 H2 cls dd y → W cls dd σ H2) → GoE X e σ H1 Q
theorem EvX.ok {ρ : Type} [Rp ρ] {r : ρ} (h : EvX (ε := ε) X W e σ F H (.v r)) : Ev X e σ F H r := fun F1 H1 g Q q => h F1 H1 g Q (fun r' e => by cases e; exact q) fun y e => nomatch e
def Rz (X : Cx) (e : Expr) (σ : L2.St) (F H : Hp) : Prop := ∀ F1 H1, GrX X.K F H F1 H1 → ∀ Q : VK, GoE X e σ H1 Q
theorem EvX.rz {ρ : Type} [Rp ρ] {y : ε} (h : EvX (ρ := ρ) X W e σ F H (.x y)) (k : ∀ F2 H2 cls dd, Gr F H F2 H2 → xr X.K F2 H2 cls dd y → W cls dd σ H2) : Rz X e σ F H := fun F1 H1 g Q => h F1 H1 g Q (fun r e => nomatch e) fun y' e => by
  cases e; exact fun F2 H2 cls dd g2 r => k F2 H2 cls dd (g.toGr.trans g2) r
theorem ex_call {τ ρ : Type} [Ra τ] [Rp ρ] {f : τ → Option (Rs ε ρ)} {y : τ} {r : Rs ε ρ} {k : Nat} {fa : Addr} {fd : FuncData} {ps : List Str} {x : Str} {p : Pos} (tk : Takes X W) (Fn : FnOk X.prog X.w X.K X.mg X.base (L2.CX X.prog X.w) k fa fd ps (PrE X.K f)) (hr : Room k X.A) (hm : X.mg x = some (.ref fa))
    (hk : PySem.W.keepIn X.K (.ref fa) = true) (hb : Binds X.K fd ps []) (ha : EvA X (e :: es) σ F H y) (h : f y = some r) (hg : Gl X x := by rfl) (hdb : (x == ("__debug__" : Str)) = false := by decide)
    (he : starEach (e :: es) X.env = (false, eval e X.env) :: starEach es X.env := by rfl) (hpl : (backTo pos (starEach es X.env)).any (·.1) = false := by rfl) : EvX X W (.Call (.Name x p) (e :: es) [] pos) σ F H r := fun F1 H1 g Q q qx =>
  GoE.of (pe_callS (E := WE W) Fn hr hg hm hk hb (passAt tk) pa_go hdb he hpl) (ha F1 H1 g _ fun vs F2 H2 g2 r2 => ⟨F2, y, r, (g.trans g2).sm, r2, h, fun r' e F3 H3 u g3 r3 => q r' e u F3 H3 (g2.trans g3) r3, fun y' e F3 H3 cls dd g3 r3 => qx y' e F3 H3 cls dd (g2.trans g3) r3⟩)
theorem go_retZ (s : SmX X.K F H) (he : Rz X e σ F H) : GoS X (.Return (some e) pos :: rest) D σ H := GoS.cons (ps_ret pe_go) (he F H (.refl s) _)
theorem go_exprZ (s : SmX X.K F H) (he : Rz X e σ F H) (hs : swapsWith e none pos.line X.env = pure false := by rfl) : GoS X (.Expr e pos :: rest) D σ H := GoS.cons (ps_expr pe_go hs) (he F H (.refl s) _)
def Hnd (X : Cx) (c : Value) (cls : Value) (dd : Option Addr) (H : Hp) (k : Addr → Cx → Prop) : Prop := PySem.W.exmOne X.K cls c = some true ∧ ∀ a, H a = none → ∀ oe pn, Zc cls dd oe → (∃ vs, oe.data = .fields vs) → k a (X.suite a ((a, oe) :: pn))
theorem go_tryN {x n : Str} {c : Value} (i : Nat) {suite : List Stmt} {b₀ : Stmt} {np pos' : Pos} (hN : X.N.Nodup) (hc : Names X x c)
    (h : ∀ pn xe (W : WX), Takes (X.tr pn xe) W → PassesOwn (model X.prog X.w) X.A X.env xe →
      (∀ cls dd σ' H', Hnd X c cls dd H' (fun a X' => GoS X' (b₀ :: suite) { nx := fun σ' H' => GoS X rest D (σ'.set i none) H', rt := D.rt, bk := fun σ' H' => D.bk (σ'.set i none) H', ct := fun σ' H' => D.ct (σ'.set i none) H' } (σ'.set i (some (.ref a))) H') → W cls dd σ' H') →
      GoS (X.tr pn xe) body { D with nx := GoS X rest D } σ H)
    (hs : X.stack = X.env :: X.outer := by rfl) (hf : X.env.frame = some X.env.locals := by rfl) (hi : X.N[i]? = some n := by rfl) (hln : X.env.kindOf n = some .local := by rfl) (tk : Takes X (fun _ _ _ _ => False) := by exact takes_none5) :
    GoS X (.Try body [.ExceptHandler (some (.Name x np)) (some n) (b₀ :: suite) pos'] [] [] pos :: rest) D σ H :=
  GoS.cons (ps_try_as (tb := fun W D σ H => ∀ pn xe, Takes (X.tr pn xe) W → PassesOwn (model X.prog X.w) X.A X.env xe → GoS (X.tr pn xe) body D σ H) (ts := fun a cls d D σ H => ∀ oe pn, Zc cls d oe → (∃ vs, oe.data = .fields vs) → GoS (X.suite a ((a, oe) :: pn)) (b₀ :: suite) D σ H) (Wout := fun _ _ _ _ => False) hs hf hN hi hln hc tk
    (fun W pn xe t1 t2 => ⟨fun pins s σ H D I h => (h pn xe t1 t2).o pins s I⟩) (fun a oe cls d pn z1 z2 => ⟨fun pins s σ H D I h => (h oe pn z1 z2).o pins s I⟩))
    fun pn xe t1 t2 => h pn xe _ t1 t2 fun cls dd σ' H' ⟨q1, q2⟩ => ⟨true, q1, fun _ a ha oe pn z1 z2 => q2 a ha oe pn z1 z2, fun z => nomatch z⟩
theorem go_try {x : Str} {c : Value} {suite : List Stmt} {b₀ : Stmt} {np pos' : Pos} (hc : Names X x c)
    (h : ∀ pn xe (W : WX), Takes (X.tr pn xe) W → PassesOwn (model X.prog X.w) X.A X.env xe →
      (∀ cls dd σ' H', Hnd X c cls dd H' (fun a X' => GoS X' (b₀ :: suite) { D with nx := GoS X rest D } σ' H') → W cls dd σ' H') →
      GoS (X.tr pn xe) body { D with nx := GoS X rest D } σ H)
    (hs : X.stack = X.env :: X.outer := by rfl) (hf : X.env.frame = some X.env.locals := by rfl) (tk : Takes X (fun _ _ _ _ => False) := by exact takes_none5) :
    GoS X (.Try body [.ExceptHandler (some (.Name x np)) none (b₀ :: suite) pos'] [] [] pos :: rest) D σ H :=
  GoS.cons (ps_try_only (tb := fun W D σ H => ∀ pn xe, Takes (X.tr pn xe) W → PassesOwn (model X.prog X.w) X.A X.env xe → GoS (X.tr pn xe) body D σ H) (ts := fun a cls d D σ H => ∀ oe pn, Zc cls d oe → (∃ vs, oe.data = .fields vs) → GoS (X.suite a ((a, oe) :: pn)) (b₀ :: suite) D σ H) (Wout := fun _ _ _ _ => False) hs hf hc tk
    (fun W pn xe t1 t2 => ⟨fun pins s σ H D I h => (h pn xe t1 t2).o pins s I⟩) (fun a oe cls d pn z1 z2 => ⟨fun pins s σ H D I h => (h oe pn z1 z2).o pins s I⟩))
    fun pn xe t1 t2 => h pn xe _ t1 t2 fun cls dd σ' H' ⟨q1, q2⟩ => ⟨true, q1, fun _ a ha oe pn z1 z2 => q2 a ha oe pn z1 z2, fun z => nomatch z⟩
end
end Gx
namespace Gx
open PySem PySem.Spec PyProof.Rows L2
open Rp (rp)
theorem rp_cast {α : Type} [Rp α] {K : PySem.W.Frag} {F : Hp} {v : V} {x z : α} (e : z = x) (r : rp K F v x) : rp K F v z := e ▸ r
theorem xm_of {K : PySem.W.Frag} {cls c c2 : Value} (e : cls = c) (h : PySem.W.exmOne K c c2 = some true) : PySem.W.exmOne K cls c2 = some true := e ▸ h
theorem xr1.up {cn fn : Str} {α : Type} [Rp α] {K : PySem.W.Frag} {F H F' H' : Hp} {cls : Value} {dd : Option Addr} {x : α} (h : xr1 cn fn K F H cls dd x) (g : Gr F H F' H') : xr1 cn fn K F' H' cls dd x := by
  obtain ⟨e, d, v, e2, h3, r⟩ := h
  exact ⟨e, d, v, e2, g.hh.k _ _ h3 trivial, Rp.mono g.ff r⟩
end Gx
namespace Gx
open PySem PySem.Spec PyProof.Rows L2
open Rp (rp)
open Ra (ra)
open Ob (ob)
theorem Gr.wide {F Hl F1 H1 : Hp} {l : Addr} (g : Gr F Hl F1 (er H1 l)) (pl : PlAt H1 l) : Gr F Hl F1 H1 := by
  have er_s : ∀ b u, er H1 l b = some u → H1 b = some u := fun b u e => by
    unfold er at e; split at e
    · cases e
    · exact e
  exact ⟨g.ff, fun b u e => er_s b u (g.fh b u e), g.hh.trans (.start pl), g.fr⟩
theorem GrX.wide {K : PySem.W.Frag} {F Hl F1 H1 : Hp} {l : Addr} (g : GrX K F Hl F1 (er H1 l)) (pl : PlAt H1 l) : GrX K F Hl F1 H1 := ⟨g.toGr.wide pl, ⟨fun P hP => by
  obtain ⟨a, f⟩ := g.h.t P hP
  exact ⟨(Xt.start pl).w P a, f⟩⟩⟩
theorem Own.erS {α : Type} [Rp α] [Ob α] {x : α} {K : PySem.W.Frag} {H0 F H : Hp} {l : Addr} (o : Own K H0 F H l x) (s : L2.Same F H) : L2.Same F (er H l) := fun b u e => by
  rw [er_ne (ne_of_none e o.f)]; exact s _ _ e
section
variable {X : Cx} {K : PySem.W.Frag} {e a b c d : Expr} {es : List Expr} {σ : L2.St} {F H Hl F0 H0 : Hp} {pos : Pos} {D : Ends} {st : Stmt} {rest body : List Stmt} {l : Addr} {β : Type} [Rp β] [Ob β] {c0 c1 c2 : β}
def EvU {ρ : Type} [Rp ρ] (X : Cx) (e : Expr) (σ : L2.St) (F Hl : Hp) (l : Addr) (x : β) (r : ρ) (y : β) : Prop := ∀ F1 H1 o, GrX X.K F Hl F1 (er H1 l) → F1 l = none → H1 l = some o → ob X.K F1 o x → ∀ Q : VK, (∀ u F2 H2 o2, Gr F1 (er H1 l) F2 (er H2 l) → F2 l = none → H2 l = some o2 → ob X.K F2 o2 y → rp X.K F2 u r → Q u H2) → GoE X e σ H1 Q
def EvUA {τ : Type} [Ra τ] (X : Cx) (es : List Expr) (σ : L2.St) (F Hl : Hp) (l : Addr) (x : β) (r : τ) (y : β) : Prop := ∀ F1 H1 o, GrX X.K F Hl F1 (er H1 l) → F1 l = none → H1 l = some o → ob X.K F1 o x → ∀ Q : List V → Hp → Prop, (∀ u F2 H2 o2, Gr F1 (er H1 l) F2 (er H2 l) → F2 l = none → H2 l = some o2 → ob X.K F2 o2 y → ra X.K F2 u r → Q u H2) → GoA X es σ H1 Q
def EvUL {α : Type} [Rp α] (X : Cx) (es : List Expr) (σ : L2.St) (F Hl : Hp) (l : Addr) (x : β) (r : List α) (y : β) : Prop := ∀ F1 H1 o, GrX X.K F Hl F1 (er H1 l) → F1 l = none → H1 l = some o → ob X.K F1 o x → ∀ Q : List V → Hp → Prop, (∀ u F2 H2 o2, Gr F1 (er H1 l) F2 (er H2 l) → F2 l = none → H2 l = some o2 → ob X.K F2 o2 y → Rps X.K F2 u r → Q u H2) → GoA X es σ H1 Q
def EvUT (X : Cx) (e : Expr) (σ : L2.St) (F Hl : Hp) (l : Addr) (x : β) (r : Bool) (y : β) : Prop := ∀ F1 H1 o, GrX X.K F Hl F1 (er H1 l) → F1 l = none → H1 l = some o → ob X.K F1 o x → ∀ Q : Bool → Hp → Prop, (∀ F2 H2 o2, Gr F1 (er H1 l) F2 (er H2 l) → F2 l = none → H2 l = some o2 → ob X.K F2 o2 y → Q r H2) → GoT X e σ H1 Q
def EvUW (X : Cx) (e : Expr) (σ : L2.St) (F Hl : Hp) (l : Addr) (x : β) (r : Bool) (y : β) : Prop := ∀ F1 H1 o, GrX X.K F Hl F1 (er H1 l) → F1 l = none → H1 l = some o → ob X.K F1 o x → ∀ Q : Bool → Hp → Prop, (∀ F2 H2 o2, Gr F1 (er H1 l) F2 (er H2 l) → F2 l = none → H2 l = some o2 → ob X.K F2 o2 y → Q r H2) → GoW X e σ H1 Q
theorem EvU.up {ρ : Type} [Rp ρ] {r : ρ} {F' H' : Hp} (h : EvU X e σ F Hl l c0 r c1) (g : Gr F Hl F' H') : EvU X e σ F' H' l c0 r c1 := fun F1 H1 o g1 => h F1 H1 o (.pre g g1)
theorem EvU.m {ρ : Type} [Rp ρ] {r : ρ} (o : Own X.K H0 F H l c0) (h : EvU X e σ F (er H l) l c0 r c1) : EvM X e σ F H l r c1 := fun F1 H1 g Q q => by
  have o1 := o.up g.toGr
  obtain ⟨u, hu, ru⟩ := o1.h
  exact h F1 H1 u ⟨o.ere g.toGr, g.h.er o1.pl⟩ o1.f hu ru Q fun v F2 H2 o2 g2 f2 h2 b2 r2 => q v F2 H2 o2 (g2.wide ⟨_, h2, Ob.pl b2⟩) f2 h2 b2 r2
theorem EvUW.t {r : Bool} (h : EvUW X e σ F Hl l c0 r c1) : EvUT X e σ F Hl l c0 r c1 := fun F1 H1 o g f h1 bo Q q => GoT.of (PW.pt pw_go) (h F1 H1 o g f h1 bo Q q)
end
end Gx
namespace Gx
open PySem PySem.Spec PyProof.Rows L2
open Rp (rp)
open Ra (ra)
open Ob (ob)
section
variable {X : Cx} {e : Expr} {es : List Expr} {σ : L2.St} {F Hl : Hp} {l : Addr} {β : Type} [Rp β] [Ob β] {c0 c1 c2 : β}
structure VKn (sc : Scope) (n : Str) : Prop where
  v : Vis sc n
  d : (n == ("__debug__" : Str)) = false
  c : (n == ("__classdict__" : Str)) = false
theorem ev_varK {α : Type} [Rp α] {x : α} {v : V} {H : Hp} (i : Nat) {n : Str} {pos : Pos} (hs : σ[i]? = some (some v)) (h : rp X.K F v x) (k : VKn X.env.scope n) (hN : X.N[i]? = some n := by rfl) : Ev X (.Name n pos) σ F H x := ev_var i hs h hN k.v k.d k.c
theorem Ev.getA {α : Type} [Rp α] [NN α] {x : α} {H : Hp} (o : Option α) (h : Ev X e σ F H o) (he : o = Option.some x) : Ev X e σ F H x := h.get he
end
end Gx
namespace Gx
open PySem PySem.Spec PyProof.Rows L2
open Rp (rp)
open Ra (ra)
open Ob (ob)
def C2 {α : Type} [Rp α] (K : PySem.W.Frag) (F : Hp) (v : V) (l : Addr) (x : α) : Prop := ∃ a w, v = .ref a ∧ TupF F a [w, .ref l] ∧ rp K F w x
theorem C2.mono {α : Type} [Rp α] {K : PySem.W.Frag} {F F' : Hp} {v : V} {l : Addr} {x : α} (h : C2 K F v l x) (s : L2.Same F F') : C2 K F' v l x := by
  obtain ⟨a, w, e, t, r⟩ := h
  exact ⟨a, w, e, tupF_mono s t, Rp.mono s r⟩
theorem C2.rp {α γ : Type} [Rp α] [Rp γ] {K : PySem.W.Frag} {F : Hp} {v : V} {l : Addr} {x : α} {y : γ} (h : C2 K F v l x) (r : Rp.rp K F (.ref l) y) : Rp.rp K F v (T2.mk x y) := by
  obtain ⟨a, w, e, t, rw'⟩ := h
  exact ⟨a, _, e, t, w, _, rfl, rw', .ref l, _, rfl, r, rfl⟩
theorem C2.of {α γ : Type} [Rp α] [Rp γ] {K : PySem.W.Frag} {F : Hp} {v : V} {l : Addr} {t : T2 α γ} (h : C2 K F v l t.a) (r : Rp.rp K F (.ref l) t.b) : Rp.rp K F v t := h.rp r
theorem C2.er {α : Type} [Rp α] [Flat α] {K : PySem.W.Frag} {F : Hp} {v : V} {l l0 : Addr} {x : α} (h : C2 K F v l x) (h1 : ∀ xs, ¬ F l0 = some (.tup xs)) (h2 : ∀ o xs, ¬ F l0 = some (.frz o (.tup xs))) : C2 K (er F l0) v l x := by
  obtain ⟨a, w, e, t, r⟩ := h
  exact ⟨a, w, e, er_seqT h1 h2 t, Flat.fl h1 h2 r⟩
section
variable {X : Cx} {K : PySem.W.Frag} {e a b c d : Expr} {es : List Expr} {σ : L2.St} {F H F0 H0 : Hp} {pos : Pos} {D : Ends} {st : Stmt} {rest body : List Stmt} {α γ : Type} [Rp α] [Rp γ] {x : α} {ys : List γ}
def EvCP (X : Cx) (e : Expr) (σ : L2.St) (F H : Hp) (x : α) (ys : List γ) : Prop := ∀ F1 H1, GrX X.K F H F1 H1 → ∀ Q : VK, (∀ u l o F2 H2, Gr F1 H1 F2 H2 → H1 l = none → F2 l = none → H2 l = some o → ob X.K F2 o ys → C2 X.K F2 u l x → Q u H2) → GoE X e σ H1 Q
def PrCP (K : PySem.W.Frag) {τ : Type} [Ra τ] (f : τ → Option (T2 α (List γ))) : Sp := fun vs H Q _ => ∃ F a r, SmX K F H ∧ ra K F vs a ∧ f a = some r ∧ ∀ u l o F' H', Gr F H F' H' → H l = none → F' l = none → H' l = some o → ob K F' o r.b → C2 K F' u l r.a → Q u H'
theorem EvCP.ev (h : EvCP X e σ F H x ys) : Ev X e σ F H (T2.mk x ys) := fun F1 H1 g Q q =>
  GoE.lock (Q' := fun v H2 => ∃ l o F2, C2 X.K F2 v l x ∧ Gr F1 H1 F2 H2 ∧ H1 l = none ∧ F2 l = none ∧ H2 l = some o ∧ ob X.K F2 o ys) (h F1 H1 g _ fun u l o F2 H2 g2 n2 f2 h2 r2 c2 => ⟨l, o, F2, c2, g2, n2, f2, h2, r2⟩)
    fun v H2 ⟨l, o, F2, c2, g2, n2, f2, h2, r2⟩ => ⟨l, o, h2, Ob.mu r2, fun od =>
      q _ (upd F2 l (.frz od o)) _ (g2.freeze n2 f2 ⟨_, h2, Ob.pl r2⟩ trivial) ((c2.mono (same_upd f2)).rp (Ob.fz upd_same (Ob.mono (same_upd f2) r2)))⟩
theorem EvCP.evT {t : T2 α (List γ)} (h : EvCP X e σ F H t.a t.b) : Ev X e σ F H t := h.ev
end
end Gx
namespace Gx
open PySem PySem.Spec PyProof.Rows L2
open Rp (rp)
open Ra (ra)
open Ob (ob)
structure Fnv (τ ρ : Type) where
  f : Addr
  g : NdefX.NF
  fr : List Str
  ws : List (Option V)
  R : PySem.W.Frag → Hp → Prop
  mono : ∀ {K : PySem.W.Frag} {F F' : Hp}, L2.Same F F' → R K F → R K F'
  fn : τ → Option ρ
structure One {τ ρ : Type} (x : Fnv τ ρ) : Type where
section
variable {τ ρ : Type} {x : Fnv τ ρ} {X : Cx} {K : PySem.W.Frag} {e a b c d : Expr} {es : List Expr} {σ : L2.St} {F H F0 H0 : Hp} {pos : Pos} {D : Ends} {st : Stmt} {rest body : List Stmt}
instance : Rp (One x) := ⟨fun K F v _ => v = .ref x.f ∧ x.R K F, fun s h => ⟨h.1, x.mono s h.2⟩⟩
instance : NN (One x) := ⟨fun h => nomatch h.1⟩
structure Mkf (x : Fnv τ ρ) (H : Hp) : Prop where
  f : H x.f = some (NdefX.FnO x.f x.g)
  c : H x.g.c = some (LamX.CodeO x.g.c x.g.qual)
theorem ntb_fnO {f : Addr} {g : NdefX.NF} : ntb (NdefX.FnO f g) := by show True; trivial
theorem ntb_codeO {c : Addr} {q : Str} : ntb (LamX.CodeO c q) := by show True; trivial
theorem Mkf.ext {H' : Hp} (m : Mkf x H) (h : Xt H H') : Mkf x H' := ⟨h.k _ _ m.f ntb_fnO, h.k _ _ m.c ntb_codeO⟩
structure ClF (x : Fnv τ ρ) (K : PySem.W.Frag) (F H : Hp) (v : V) : Prop where
  r : rp K F v (One.mk : One x)
  m : Mkf x H
theorem ClF.ex {v : V} (h : ClF x K F H v) : ∃ z : Fnv τ ρ, z = x ∧ ClF z K F H v := ⟨x, rfl, h⟩
theorem ClF.up {v : V} {F' H' : Hp} (h : ClF x K F H v) (g : Gr F H F' H') : ClF x K F' H' v := ⟨Rp.mono g.ff h.r, h.m.ext g.hh⟩
structure ZC (x : Fnv τ ρ) (outer : List Env) (s : Shared) (H : Hp) : Prop where
  m : Mkf x H
  c : NdefX.CellsAt x.g.cl x.fr x.ws s.heap H
  n : ∀ y a, x.g.cl.lookup y = some a → a ∉ frs outer
def ClA (X : Cx) (σ : L2.St) (x : Fnv τ ρ) : Prop := ∀ pins H s, Inv X pins σ H s → NdefX.CellsAt x.g.cl x.fr x.ws s.heap H ∧ ∀ y a, x.g.cl.lookup y = some a → a ∉ frs X.stack
def PrF (K : PySem.W.Frag) [Ra τ] [Rp ρ] (x : Fnv τ ρ) : List (Option V) → Sp := fun ws vs H Q _ => ws = x.ws ∧ ∃ F a r, SmX K F H ∧ x.R K F ∧ ra K F vs a ∧ x.fn a = some r ∧ ∀ F' H' u, Gr F H F' H' → rp K F' u r → Q u H'
def NokF (P : Program) (w : World) (K : PySem.W.Frag) (mg : Str → Option Value) (base : Heap) [Ra τ] [Rp ρ] (k : Nat) (x : Fnv τ ρ) : Prop := ∃ ps : List Str, NdefX.NOk P w K mg base CX0 k x.f x.g ps x.fr (PrF K x)
theorem NokF.mono {P : Program} {w : World} {mg : Str → Option Value} {base : Heap} [Ra τ] [Rp ρ] {j k : Nat} (o : NokF P w K mg base j x) (h : j ≤ k) : NokF P w K mg base k x := let ⟨ps, o⟩ := o; ⟨ps, NdefX.NOk.mono o h⟩
end
def inBody : Stmt → List Stmt
  | .For _ _ b _ _ => b
  | .While _ b _ _ => b
  | .If _ b _ _ => b
  | _ => []
section
variable {α β ρ : Type} [Rp α] [Ob α] [Rp β] [Ob β] [Rp ρ] {x : Fnv (α × β × Unit) ρ} {X : Cx} {e a b : Expr} {σ : L2.St} {F H : Hp} {pos : Pos}
def PrT (K : PySem.W.Frag) (x : Fnv (α × β × Unit) ρ) : List (Option V) → Sp := fun ws vs H Q _ => ws = x.ws ∧ ∃ F0 H0 F l1 l2 y1 y2 r, vs = [.ref l1, .ref l2] ∧ GrX K F0 H0 F H ∧ x.R K F ∧ Own K H0 F H l1 y1 ∧ Own K H0 F H l2 y2 ∧ l1 ≠ l2 ∧ x.fn (y1, y2, ()) = some r ∧ ∀ F' H' u, Gr F0 H0 F' H' → rp K F' u r → Q u H'
def NokT (P : Program) (w : World) (K : PySem.W.Frag) (mg : Str → Option Value) (base : Heap) (k : Nat) (x : Fnv (α × β × Unit) ρ) : Prop := ∃ ps : List Str, NdefX.NOk P w K mg base CX0 k x.f x.g ps x.fr (PrT K x)
theorem NokT.mono {K : PySem.W.Frag} {P : Program} {w : World} {mg : Str → Option Value} {base : Heap} {j k : Nat} (o : NokT P w K mg base j x) (h : j ≤ k) : NokT P w K mg base k x := let ⟨ps, o⟩ := o; ⟨ps, NdefX.NOk.mono o h⟩
end
structure FnOkZ (Z : List Env → Shared → Hp → Prop) (P : Program) (w : World) (K : PySem.W.Frag) (mg : Str → Option Value) (base : Heap) (CX : CXT) (k : Nat) (f : Addr) (fd : FuncData) (ps : List Str) (sp : Sp) : Prop where
  len : ∀ vs H Q E, sp vs H Q E → vs.length = ps.length
  run : ∀ (A : Around) (outer : List Env) (s : Shared) (H : Hp) (args : Args) (us : List Value) (vs : List V) (Q : VK) (E : XK), Room k A → Env0 P w K mg base A outer s H → BindsTo s fd args (ps.zip us) → Vals vs us → Z outer s H →
    sp vs H Q E → codeAny (model P w) A (.call (.ref f) args) (CR CX outer P w H s Q E) s
section
variable {X : Cx} {K : PySem.W.Frag} {e a b c d : Expr} {es : List Expr} {σ : L2.St} {F H F0 H0 : Hp} {pos : Pos} {D : Ends} {st : Stmt} {rest body : List Stmt} {P : Program} {w : World} {mg : Str → Option Value} {base : Heap} {Z : List Env → Shared → Hp → Prop}
theorem FnOkZ.plain {CX : CXT} {k : Nat} {f : Addr} {fd : FuncData} {ps : List Str} {sp : Sp} (o : FnOkZ (fun _ _ _ => True) P w K mg base CX k f fd ps sp) : FnOk P w K mg base CX k f fd ps sp :=
  ⟨o.len, fun A outer s H args us vs Q E hr e0 hb r h => o.run A outer s H args us vs Q E hr e0 hb r trivial h⟩
theorem FnOkZ.mono {CX : CXT} {k j : Nat} {f : Addr} {fd : FuncData} {ps : List Str} {sp : Sp} (o : FnOkZ Z P w K mg base CX j f fd ps sp) (h : j ≤ k) : FnOkZ Z P w K mg base CX k f fd ps sp :=
  ⟨o.len, fun A outer s H args us vs Q E hr => o.run A outer s H args us vs Q E (hr.mono h)⟩
theorem GoS.nox {σ : L2.St} (h : GoS X.nox body D σ H) : GoS X body D σ H := GoS.of (PSs.nox pss_go) h
end
def ordG (z : Str) : Option Int := if z.length = 1 then some ((z.cps.getD 0 0 : Nat) : Int) else none
section
variable {X : Cx} {a e : Expr} {es : List Expr} {σ : L2.St} {F H : Hp} {pos : Pos} {Z : List Env → Shared → Hp → Prop}
end
section
variable {X : Cx} {K : PySem.W.Frag} {e a b c d : Expr} {es : List Expr} {σ : L2.St} {F H F0 H0 : Hp} {pos : Pos} {D : Ends} {st : Stmt} {rest body : List Stmt} {P : Program} {w : World} {mg : Str → Option Value} {base : Heap} {Z : List Env → Shared → Hp → Prop}
def excCB (K : PySem.W.Frag) (C : Addr) : Bool := decide (PySem.W.findIn K (.ref C) "__getattribute__" = some (some (.builtin "BaseException.__getattribute__"))) && (decide (PySem.W.findIn K (.ref C) "__getattr__" = some none) && (decide (PySem.W.subIn K (.ref C) (.type "BaseException") = some true) && (PySem.W.hasDictIn K C &&
  (decide (PySem.W.findIn K (.ref C) "__class__" = some (some (.builtin "object.__class__"))) && (decide (PySem.W.specialIn K (.builtin "object.__class__") "__get__" = some (some (.builtin "getset_descriptor.__get__"))) && (decide (PySem.W.takesIn K (.builtin "object.__class__") = some true) && decide (PySem.W.mroIn K C (.type "object") = some true)))))))
theorem excCB_ok {C : Addr} (h : excCB K C = true) : ExcC K C := by
  obtain ⟨h1, h⟩ := Bool.and_eq_true_iff.mp h
  obtain ⟨h2, h⟩ := Bool.and_eq_true_iff.mp h
  obtain ⟨h3, h⟩ := Bool.and_eq_true_iff.mp h
  obtain ⟨h4, h⟩ := Bool.and_eq_true_iff.mp h
  obtain ⟨h5, h⟩ := Bool.and_eq_true_iff.mp h
  obtain ⟨h6, h⟩ := Bool.and_eq_true_iff.mp h
  obtain ⟨h7, h8⟩ := Bool.and_eq_true_iff.mp h
  exact ⟨of_decide_eq_true h1, of_decide_eq_true h2, of_decide_eq_true h3, h4, of_decide_eq_true h5, of_decide_eq_true h6, of_decide_eq_true h7, of_decide_eq_true h8⟩
theorem ev_isE {a : Addr} {cn dn n : Str} {oe : Obj} {cls : Value} {dd : Option Addr} {pn : List (Addr × Obj)} {b : Bool} {p1 p2 p3 : Pos} (i : Nat) (C : ExcC X.K (He.ga X.K cn)) (hk : PySem.W.kitOne X.K (.ref (He.ga X.K cn)) (.ref (He.ga X.K dn)) = some b) (hz : Zc cls dd oe) (hf : ∃ vs, oe.data = .fields vs) (hσ : σ[i]? = some (some (.ref a))) (r : xr0 cn X.K cls dd)
    (hm : X.mg "isinstance" = none) (hD : X.mg dn = some (.ref (He.ga X.K dn)))
    (hi : X.N[i]? = some n := by rfl) (hv : Vis X.env.scope n := by first | exact Or.inl rfl | exact Or.inr (Or.inl rfl) | exact Or.inr (Or.inr rfl)) (hdn : (n == ("__debug__" : Str)) = false := by decide) (hcd : (n == ("__classdict__" : Str)) = false := by decide)
    (hg : Gl X "isinstance" := by rfl) (hgD : Gl X dn := by rfl) (hd : (dn == ("__debug__" : Str)) = false := by decide)
    (hs : starEach [.Name n p3, .Name dn p2] X.env = (false, eval (.Name n p3) X.env) :: starEach [.Name dn p2] X.env := by rfl) (hs2 : starEach [.Name dn p2] X.env = (false, eval (.Name dn p2) X.env) :: starEach [] X.env := by rfl)
    (hpl : (backTo pos (starEach [.Name dn p2] X.env)).any (·.1) = false := by rfl) : Ev (X.suite a ((a, oe) :: pn)) (.Call (.Name "isinstance" p1) [.Name n p3, .Name dn p2] [] pos) σ F H b := fun F1 H1 g Q q => by
  obtain ⟨e1, e2⟩ := r
  subst e1; subst e2
  exact GoE.of (pe_callB (X := X.suite a ((a, oe) :: pn)) (call_isE C hz hf) hg hm (by decide +kernel) (pa_cons (pe_var hi hv hdn hcd) (pa_cons (pe_glob (v := .ref (He.ga X.K dn)) hgD hD rfl hd) pa_nil hs2) hs) (by decide) (by decide) hs hpl)
    ⟨_, hσ, _, _, b, rfl, fun u z => z, hk, q _ F1 H1 (.refl g.fh) rfl⟩
def Rs.get {ε ρ : Type} : Rs ε ρ → Option ρ
  | .v r => some r
  | .x _ => none
theorem xr0.up {cn : Str} {F' H' : Hp} {cls : Value} {dd : Option Addr} (h : xr0 cn K cls dd) (_ : Gr F H F' H') : xr0 cn K cls dd := h
def unT (H : Hp) : Hp := fun b => match H b with
  | some (.tbl _) => none
  | o => o
end
end Gx
namespace Gx
open PySem PySem.Spec PyProof.Rows L2
open Rp (rp)
open Ra (ra)
mutual
theorem Dp.sm {K : PySem.W.Frag} {F F' : Hp} (s : L2.Same F F') : ∀ (d : PyData) (v : V), Dp K F v d → Dp K F' v d
  | .none, _, h => by cases h; exact .non
  | .bool b, _, h => by cases h; exact .bl b
  | .int i, _, h => by cases h; exact .int i
  | .str x, _, h => by cases h; exact .str x
  | .list ds, _, h => by
    cases h with
    | lst q r => exact .lst (seqL_mono s q) (DpAll.sm s ds _ r)
  | .tuple ds, _, h => by
    cases h with
    | tup q r => exact .tup (sqT_mono s q) (DpAll.sm s ds _ r)
  | .dict kvs, _, h => by cases h
theorem DpAll.sm {K : PySem.W.Frag} {F F' : Hp} (s : L2.Same F F') : ∀ (ds : List PyData) (vs : List V), DpAll K F vs ds → DpAll K F' vs ds
  | [], _, h => by cases h; exact .nil
  | d :: ds, _, h => by
    cases h with
    | cons a b => exact .cons (Dp.sm s d _ a) (DpAll.sm s ds _ b)
end
def min3I (i j k : Int) : Int := if k < (if j < i then j else i) then k else (if j < i then j else i)
def unlist5 {α : Type} : List α → Option (T5 α α α α α)
  | [x0, x1, x2, x3, x4] => some ⟨x0, x1, x2, x3, x4⟩
  | _ => none
def unlist6 {α : Type} : List α → Option (T6 α α α α α α)
  | [x0, x1, x2, x3, x4, x5] => some ⟨x0, x1, x2, x3, x4, x5⟩
  | _ => none
def unlist7 {α : Type} : List α → Option (T7 α α α α α α α)
  | [x0, x1, x2, x3, x4, x5, x6] => some ⟨x0, x1, x2, x3, x4, x5, x6⟩
  | _ => none
structure Dy where
  d : PyData
instance : Rp Dy := ⟨fun K F v x => Dp K F v x.d, fun s h => Dp.sm s _ _ h⟩
def kindD : PyData → String
  | .none => "NoneType"
  | .bool _ => "bool"
  | .int _ => "int"
  | .str _ => "str"
  | .list _ => "list"
  | .tuple _ => "tuple"
  | .dict _ => "dict"
def Dy.tup : Dy → Option (Ct Dy)
  | ⟨.tuple ds⟩ => some ⟨ds.map Dy.mk⟩
  | _ => none
def eqDy (x y : Dy) : Option Bool := if (SeqAt.shaped x.d && SeqAt.shaped y.d) = true then some (PyData.eqv x.d y.d) else none
section
variable {X : Cx} {e a : Expr} {σ : L2.St} {F H : Hp} {pos : Pos}
def isIS : PyData → Option Bool
  | .none => some false
  | .bool _ => some true
  | .int _ => some true
  | .str _ => some true
  | _ => none
end
end Gx
namespace Gx
open PySem PySem.Spec PyProof.Rows L2
open Rp (rp)
open Ra (ra)
open Ob (ob)
section
variable {prog : Program} {w : World} {A : Around} {E : Value → Shared → Prop} {s : Shared}
abbrev Kp (h h' : Heap) : Prop := ∀ b o, h.get? b = some o → h'.get? b = some o
def byKey (ks : List Int) (i : Int) : PyData := .int (ks.getD i.toNat 0)
def byLe (ks : List Int) : Int → Int → Bool := PySem.W.dataLe false (byKey ks)
end
end Gx
namespace Gx
open PySem PySem.Spec PyProof.Rows L2
open Rp (rp)
open Ra (ra)
open Ob (ob)
section
variable {X : Cx} {K : PySem.W.Frag} {e a b d : Expr} {es : List Expr} {σ : L2.St} {F H F0 H0 : Hp} {pos : Pos}
structure LamN (sc scope : Scope) (on vn : Str) : Prop where
  kind : scope.kind = .function
  co : scope.isCoroutine = false
  gen : scope.isGenerator = false
  cell : ∀ y ∈ scope.names, y.2 ≠ .cell
  v : scope.names.lookup vn = some .local
  o : scope.names.lookup on = some .free
  fr : ∀ y ∈ scope.names, y.2 = .free → sc.names.lookup y.1 = some .cell ∨ sc.names.lookup y.1 = some .free
def lamNB (sc scope : Scope) (on vn : Str) : Bool :=
  decide (scope.kind = .function) && !scope.isCoroutine && !scope.isGenerator && scope.names.all (fun y => !decide (y.2 = .cell)) && decide (scope.names.lookup vn = some .local) && decide (scope.names.lookup on = some .free) && scope.names.all fun y => !decide (y.2 = .free) || decide (sc.names.lookup y.1 = some .cell) || decide (sc.names.lookup y.1 = some .free)
def srtG (ks : List Int) (m : Int) : Option (List Int) := if 0 ≤ m ∧ m ≤ 16777216 ∧ m ≤ ks.length then some ((intsF 0 m.toNat).mergeSort (byLe ks)) else none
end
end Gx
namespace Gx
open PySem PySem.Spec PyProof.Rows L2
open Rp (rp)
open Ra (ra)
open Ob (ob)
def enc3 (x : T3 Int Int Int) : PyData := .tuple [.int x.a, .int x.b, .int x.c]
def srt3 (xs : List (T3 Int Int Int)) : List (T3 Int Int Int) := xs.mergeSort (PySem.W.dataLe false enc3)
def is3 (H : Hp) (v : V) (x : T3 Int Int Int) : Prop := ∃ p, v = .ref p ∧ H p = some (.tup [.int x.a, .int x.b, .int x.c])
def rSorted3 (K : PySem.W.Frag) : List V → Hp → VK → Prop := fun vs H Q => ∃ (F : Hp) (a : Addr) (xs : List V) (ns : List (T3 Int Int Int)), L2.Same F H ∧ vs = [V.ref a] ∧ SqL K H a xs ∧ Paired (is3 F) xs ns ∧ ∀ ys p, Paired (is3 F) ys (srt3 ns) → H p = none → Q (.ref p) (upd H p (.lst ys))
section
variable {X : Cx} {K : PySem.W.Frag} {e a b d : Expr} {es : List Expr} {σ : L2.St} {F H F0 H0 : Hp} {pos : Pos}
end
end Gx
namespace Gx
open PySem PySem.Spec PySem.Calls PyProof.Rows L2
section
variable {prog : Program} {w : World} {A : Around} {E : Value → Shared → Prop} {s : Shared} {K : PySem.W.Frag} {x D : Addr} {ox : Obj} {od : Option Obj}
theorem class_ofE {Q : Option Value → Shared → Prop} (C : ExcC K D) (X : K.In s.heap) (I : PySem.W.InstAt s.heap x ox D od) (h : Q (some (.ref D)) { s with toks := s.toks + 1 }) : wpAny (model prog w) A (getAttr? (.ref x) "__class__") Q E s := by
  have hf : PySem.W.findObj K D od "__class__" = some (.bind (.builtin "getset_descriptor.__get__") (.builtin "object.__class__")) := by
    obtain ⟨cd, hc, _⟩ := PySem.W.any_some C.hd
    unfold PySem.W.findObj
    rw [hc, Option.bind_some, C.ha, Option.bind_some]
    simp [C.hn, C.ht]
  have sub : PySem.W.Looks (model prog w) s.heap (isInstance (.ref x) (.type "BaseException")) true := (I.type (M := model prog w)).andThen (PySem.W.looks_subIn X C.hs)
  have dk := PySem.F.excAttr_ValueError.ga.bind (.ref x)
  unfold getAttr? getAttrBy? getAttrBy
  wp_walk using (I.type (M := model prog w)).at, (PySem.W.looks_findIn (M := model prog w) X C.hg).at
  refine (PySem.W.looks_findIn (M := model prog w) (h := s.heap) X C.hk).at ?_
  unfold callGetattribute
  rw [show (false && onTheHeap (Value.builtin "BaseException.__getattribute__")) = false from rfl, if_neg Bool.false_ne_true]
  unfold boundAndCalled
  rw [dk]
  wp_walk
  have ga := PySem.F.excAttr_ValueError.ga
  show codeAny _ _ (.call (.builtin "BaseException.__getattribute__") ⟨[.ref x, .str "__class__" s.toks], []⟩) _ _
  have pl := ga.plain
  clear dk ga
  refine codeAny_call_builtin pl PySem.F.entry_bexc_ga ?_
  obtain ⟨hp, g, dr, tk, os⟩ := s
  have c1 : builtinKind "BaseException.__getattribute__" = some .slot := by decide +kernel
  have c2 : splitId "BaseException.__getattribute__" = some ("BaseException", "__getattribute__") := by decide +kernel
  have c3 := PySem.F.args_bexc_ga (.ref x) (.str "__class__" tk)
  refine PySem.W.check_slot (M := model prog w) (A := A.in1) (s := ⟨hp, g, dr, tk + 1, os⟩) (i := "BaseException.__getattribute__") (self := .ref x) (rest := [.str "__class__" tk]) (kw := []) c1 c2 sub c3 ?_
  unfold Builtin.«object.__getattribute__»
  have sl : slotArgs "__getattribute__" 1 ⟨[.ref x, .str "__class__" tk], []⟩ = pure ((.ref x : Value), [Value.str "__class__" tk]) := by
    simp only [slotArgs]; rfl
  refine wpAny_bind (wpAny_of_eq sl ?_)
  have nm : Builtin.ObjectAttr.attrName (.str "__class__" tk) = pure "__class__" := rfl
  refine wpAny_bind (wpAny_of_eq nm ?_)
  refine wpAny_bind ((I.type (M := model prog w)).at (wpAny_bind ((PySem.W.looks_find (M := model prog w) X I hf).at ?_)))
  dsimp only
  show wpAny _ _ (holding [Value.builtin "object.__class__"] (call (.builtin "getset_descriptor.__get__") [.builtin "object.__class__", .ref x, .ref D]) >>= ret) _ _ _
  refine wpAny_bind (wpAny_holding (wpAny_call (PySem.W.class_get X I C.hm ?_)))
  refine wpAny_pure ?_
  show wpAny _ _ (handedOut (.ref D)) _ _ _
  rw [PySem.W.handedOut_of (v := .ref D) rfl]
  exact wpAny_pure (wpAny_pure h)
theorem kitxE (C : ExcC K D) : PySem.W.KitX K (.ref x) (.ref D) (fun h => PySem.W.InstAt h x ox D od) where
  ty := fun _ _ _ I => I.type
  it := fun M h X _ A Q E s k q => PySem.W.mc_isType (s := s) (X.keeps k) C.hd A Q E s (fun _ _ z => z) q
  ne := fun h tp dd its n sl X htp => (PySem.W.handS_kitx_exc (x := x) (ox := ox) C.hg C.hk C.hs C.hd C.ha C.hn C.ht C.hm).ne h tp dd its n sl X htp
  ca := fun X I k => class_ofE C X I k
end
end Gx
namespace Gx
open PySem PySem.Spec PySem.Calls PyProof.Rows L2
open Rp (rp)
open Ra (ra)
open Ob (ob)
structure Exv where
  a : Addr
  oe : Obj
  cn : Str
  dd : Option Addr
structure OneE (x : Exv) : Type where
structure ExG (K : PySem.W.Frag) (x : Exv) : Prop where
  z : Zc (.ref (He.ga K x.cn)) x.dd x.oe
  f : ∃ vs, x.oe.data = .fields vs
def ExD (x : Exv) (H : Hp) : Prop := x.dd = none ∨ ∃ d fs, x.dd = some d ∧ H d = some (.xd fs)
structure ExF (x : Exv) (K : PySem.W.Frag) (H : Hp) (v : V) : Prop where
  r : v = .ref x.a
  g : ExG K x
  d : ExD x H
section
variable {x : Exv} {X : Cx} {K : PySem.W.Frag} {e a b c d : Expr} {es : List Expr} {σ : L2.St} {F H F0 H0 : Hp} {pos : Pos}
instance : Rp (OneE x) := ⟨fun K F v _ => v = .ref x.a, fun s h => h⟩
instance : NN (OneE x) := ⟨fun h => nomatch h⟩
def ExA (X : Cx) (x : Exv) : Prop := ∀ pins σ H s, Inv X pins σ H s → s.heap.get? x.a = some x.oe ∧ H x.a = none ∧ x.a ∉ frs X.stack
theorem ExD.up {F' H' : Hp} (h : ExD x H) (g : Gr F H F' H') : ExD x H' := h.imp id fun ⟨d, fs, e, hd⟩ => ⟨d, fs, e, g.hh.k _ _ hd trivial⟩
theorem ExF.up {v : V} {F' H' : Hp} (h : ExF x K H v) (g : Gr F H F' H') : ExF x K H' v := ⟨h.r, h.g, h.d.up g⟩
theorem exA_of (h : (x.a, x.oe) ∈ X.pn) : ExA X x := fun pins σ H s I => by
  obtain ⟨h1, h2, h3, h4, h5⟩ := I.pin (x.a, x.oe) (List.mem_append_left _ h)
  exact ⟨h1, h2, fun z => (List.mem_cons.mp (I.stkSub x.a z)).elim h3 h4⟩
theorem pin_of {pins : List (Addr × Obj)} {s : Shared} (h : (x.a, x.oe) ∈ X.pn) (I : Inv X pins σ H s) : L2H.PinOk X.stack H s (x.a, x.oe) := by
  obtain ⟨h1, h2, h3, h4, h5⟩ := I.pin (x.a, x.oe) (List.mem_append_left _ h)
  exact ⟨h1, h2, fun z => (List.mem_cons.mp (I.stkSub x.a z)).elim h3 h4, h5⟩
structure FnOkE (x : Exv) (P : Program) (w : World) (K : PySem.W.Frag) (mg : Str → Option Value) (base : Heap) (CX : CXT) (k : Nat) (f : Addr) (fd : FuncData) (ps : List Str) (sp : Sp) : Prop where
  len : ∀ vs H Q E, sp vs H Q E → vs.length = ps.length
  run : ∀ (A : Around) (outer : List Env) (s : Shared) (H : Hp) (args : Args) (us : List Value) (vs : List V) (Q : VK) (E : XK), L2H.RoomH k A → L2H.PinOk outer H s (x.a, x.oe) → ExG K x → ExD x H → Env0 P w K mg base A outer s H → BindsTo s fd args (ps.zip us) → Vals vs us →
    sp vs H Q E → codeAny (model P w) A (.call (.ref f) args) (CR CX outer P w H s Q E) s
theorem fn_okE {P : Program} {w : World} {mg : Str → Option Value} {base : Heap} {τ ρ : Type} [Ra τ] [RaN τ] [Rp ρ] {f : τ → Option ρ} {nm qual : Str} {s0 : Stmt} {pp : Str × Option Str} {fd : FuncData} {N ps : List Str} {k : Nat} (Fn : FunD K nm qual (defArgs s0) (defBody s0) (defScope s0) [] [] (He.fAd K pp) fd) (S : FnScope N ps (defScope s0)) (hn : RaN.n τ = ps.length)
    (hbody : ∀ (cdv : Value) (A : Around) (outer : List Env) (s : Shared) (F H : Hp) (vs : List V) (a : τ) (r : ρ) (D : Ends) (E : XK), L2H.RoomH k (A.deeper (envOfC qual (defScope s0) s.heap.objs.size (He.fAd K pp) cdv)) → ExG K x → ExD x H → SmX K F H → ra K F vs a → f a = some r →
      (∀ F' H' u, GrX K F H F' H' → rp K F' u r → D.rt u H') → (∀ σ' F' H', GrX K F H F' H' → rp K F' .non r → D.nx σ' H') → GoS (L2H.cxH CX0 P w K mg base N qual (defScope s0) (He.fAd K pp) cdv A outer s H E (x.a, x.oe)).nox (defBody s0) D (start N vs) H) :
    FnOkE x P w K mg base CX0 (k + 1) (He.fAd K pp) fd ps (Pr K f) := by
  obtain ⟨oc, od, dV, kV, doc, pm, an, cdv, ct, osl, rfl, lk, hcd, _, _⟩ := Fn.ex
  have len : ∀ vs H Q E, Pr K f vs H Q E → vs.length = ps.length := fun vs H Q E ⟨F, a, r, _, ra', _⟩ => by rw [RaN.len ra', hn]
  refine ⟨len, fun A outer s H args us vs Q E hr pin hg hd env0 bnd rv hsp => ?_⟩
  have keep0 : ∀ q o, base.get? q = some o → s.heap.get? q = some o := fun q o h => (env0.bs q o h).1
  have inK := env0.mod.kin.keeps keep0
  have noLim : s.heap.NoLimit := env0.mod.nolimit.keeps keep0
  have kinds : ∀ y ∈ ps.zip us, (defScope s0).names.lookup y.1 = some .local ∨ ((defScope s0).names.lookup y.1 = some .cell ∧ ((cellsFrom (s.heap.objs.size + 1) (defScope s0).names []).lookup y.1).isSome = true) := by
    rintro ⟨n, v⟩ hy
    exact (S.par n (List.of_mem_zip hy).1).imp id fun q => ⟨q, PySem.W.cellsFrom_some _ _ _ (.inl q)⟩
  refine codeAny_call_function hr.depth (inK _ _ lk) rfl S.co S.gen rfl (PySem.W.codeRec_of inK hcd) (bnd _ _ _ _ (wpAny_newFunctionEnv_cells S.kind kinds fun env1 he1 s1 made => ?_))
  subst he1
  refine ⟨noLim.keeps made.toInCall.keep, codeAny_func ?_⟩
  have I := L2H.inv_startH (CX := CX0) (E := E) (f := He.fAd K pp) (cd := cdv) (qual := qual) S pin env0 (len _ _ _ _ hsp) rv made
  obtain ⟨F, a, r, sm, ra', hf, k'⟩ := hsp
  have body := (hbody cdv A outer s F H vs a r { nx := fun _ H' => Q .non H', rt := Q } E (hr.deeper _) hg hd sm ra' hf (fun F' H' u g q => k' F' H' u g.toGr q) fun σ' F' H' g q => k' F' H' .non g.toGr q).nox.o [] s1 I
  refine wpAny_mono body (fun fl s2 h2 => ?_) fun _ _ h2 => h2
  match fl, h2 with
  | .ret _, ⟨v1, σ1, H1, J, r1, q1⟩ => exact ⟨v1, H1, J.os, J.bare, J.base, J.hok, r1, q1⟩
  | .next, ⟨σ1, H1, J, q1⟩ => exact ⟨.non, H1, J.os, J.bare, J.base, J.hok, rfl, q1⟩
  | .brk, ⟨_, _, _, q1⟩ => exact q1.elim
  | .cont, ⟨_, _, _, q1⟩ => exact q1.elim
def rIsX (K : PySem.W.Frag) (x : Exv) : List V → Hp → VK → Prop := fun xs H Q => ∃ (c : V) (cv : Value) (b : Bool), xs = [.ref x.a, c] ∧ (∀ u, RelV c u → u = cv) ∧ PySem.W.kitOne K (.ref (He.ga K x.cn)) cv = some b ∧ ExD x H ∧ Q (.bl b) H
theorem call_isX (C : ExcC X.K (He.ga X.K x.cn)) (hA : ExA X x) (hg : ExG X.K x) : CallR X (.builtin "isinstance") (rIsX X.K x) := by
  intro pins s σ H xs us Q I r h
  obtain ⟨c, cv, b, rfl, hcv, e, hd, q⟩ := h
  cases r with
  | cons rx rr =>
    cases rr with
    | cons rt rr =>
      cases rr
      cases rx
      have ec := hcv _ rt
      subst ec
      obtain ⟨hget, _⟩ := hA pins σ H s I
      obtain ⟨vs, hv⟩ := hg.f
      obtain ⟨od, J⟩ : ∃ od, PySem.W.InstAt s.heap x.a x.oe (He.ga X.K x.cn) od := by
        have no : PySem.W.notCls x.oe = true := by unfold PySem.W.notCls; rw [hv] <;> rfl
        rcases hd with e0 | ⟨d, fs, e0, hH⟩
        · exact ⟨none, hget, hg.z.1, no, by rw [hg.z.2, e0]; trivial⟩
        · have hx : ObjOk X.prog X.w H s.heap d (.xd fs) := I.hok d _ hH
          obtain ⟨mA, hns, hr⟩ := hx
          obtain ⟨od, ho, hl⟩ := lookIn_ns hns
          exact ⟨some od, hget, hg.z.1, no, by rw [hg.z.2, e0]; exact ho⟩
      exact PySem.W.kia_one (kitxE C) I.kIn J e (fun z => nomatch z) fun tk => ⟨.bl b, H, I.kept (t' := tk) fun _ _ z => z, rfl, q⟩
theorem ev_isX {v : V} {dn n : Str} {b : Bool} {p1 p2 p3 : Pos} (i : Nat) (C : ExcC X.K (He.ga X.K x.cn)) (hA : ExA X x) (hf : ExF x X.K H v) (hk : PySem.W.kitOne X.K (.ref (He.ga X.K x.cn)) (.ref (He.ga X.K dn)) = some b) (hσ : σ[i]? = some (some v)) (hm : X.mg "isinstance" = none) (hD : X.mg dn = some (.ref (He.ga X.K dn)))
    (hi : X.N[i]? = some n := by rfl) (hv : Vis X.env.scope n := by first | exact Or.inl rfl | exact Or.inr (Or.inl rfl) | exact Or.inr (Or.inr rfl)) (hdn : (n == ("__debug__" : Str)) = false := by decide) (hcd : (n == ("__classdict__" : Str)) = false := by decide)
    (hg : Gl X "isinstance" := by rfl) (hgD : Gl X dn := by rfl) (hd : (dn == ("__debug__" : Str)) = false := by decide)
    (hs : starEach [.Name n p3, .Name dn p2] X.env = (false, eval (.Name n p3) X.env) :: starEach [.Name dn p2] X.env := by rfl) (hs2 : starEach [.Name dn p2] X.env = (false, eval (.Name dn p2) X.env) :: starEach [] X.env := by rfl)
    (hpl : (backTo pos (starEach [.Name dn p2] X.env)).any (·.1) = false := by rfl) : Ev X (.Call (.Name "isinstance" p1) [.Name n p3, .Name dn p2] [] pos) σ F H b := fun F1 H1 g Q q => by
  have hf1 := hf.up g.toGr
  have e := hf1.r
  subst e
  exact GoE.of (pe_callB (call_isX C hA hf1.g) hg hm (by decide +kernel) (pa_cons (pe_var hi hv hdn hcd) (pa_cons (pe_glob (v := .ref (He.ga X.K dn)) hgD hD rfl hd) pa_nil hs2) hs) (by decide) (by decide) hs hpl)
    ⟨_, hσ, _, _, b, rfl, fun u z => z, hk, hf1.d, q _ F1 H1 (.refl g.fh) rfl⟩
theorem ev_isXB {v : V} {n : Str} {b : Bool} {T : String} {p1 p2 p3 : Pos} (i : Nat) (C : ExcC X.K (He.ga X.K x.cn)) (hA : ExA X x) (hf : ExF x X.K H v) (hk : PySem.W.kitOne X.K (.ref (He.ga X.K x.cn)) (.type T) = some b) (hσ : σ[i]? = some (some v)) (hm : X.mg "isinstance" = none) (hT : X.mg (Str.ofString T) = none) (hbT : bootBuiltins (Str.ofString T) = some (.type T))
    (hi : X.N[i]? = some n := by rfl) (hv : Vis X.env.scope n := by first | exact Or.inl rfl | exact Or.inr (Or.inl rfl) | exact Or.inr (Or.inr rfl)) (hdn : (n == ("__debug__" : Str)) = false := by decide) (hcd : (n == ("__classdict__" : Str)) = false := by decide)
    (hg : Gl X "isinstance" := by rfl) (hgT : Gl X (Str.ofString T) := by rfl) (hn : (Str.ofString T) ≠ "__name__" := by decide) (hd : ((Str.ofString T) == ("__debug__" : Str)) = false := by decide)
    (hs : starEach [.Name n p3, .Name (Str.ofString T) p2] X.env = (false, eval (.Name n p3) X.env) :: starEach [.Name (Str.ofString T) p2] X.env := by rfl) (hs2 : starEach [.Name (Str.ofString T) p2] X.env = (false, eval (.Name (Str.ofString T) p2) X.env) :: starEach [] X.env := by rfl)
    (hpl : (backTo pos (starEach [.Name (Str.ofString T) p2] X.env)).any (·.1) = false := by rfl) : Ev X (.Call (.Name "isinstance" p1) [.Name n p3, .Name (Str.ofString T) p2] [] pos) σ F H b := fun F1 H1 g Q q => by
  have hf1 := hf.up g.toGr
  have e := hf1.r
  subst e
  exact GoE.of (pe_callB (call_isX C hA hf1.g) hg hm (by decide +kernel) (pa_cons (pe_var hi hv hdn hcd) (pa_cons (pe_bltn hgT hT hbT (v := .ty T) rfl hn hd) pa_nil hs2) hs) (by decide) (by decide) hs hpl)
    ⟨_, hσ, _, _, b, rfl, fun u z => z, hk, hf1.d, q _ F1 H1 (.refl g.fh) rfl⟩
def isaG (kn subs : List Str) (c : Str) : Option Bool := if c ∈ kn then some (decide (c ∈ subs)) else none
theorem isaG_kit {kn subs : List Str} {c : Str} {b : Bool} {cv : Value} (h : isaG kn subs c = some b) (hk : ∀ c ∈ kn, PySem.W.kitOne K (.ref (He.ga K c)) cv = some (decide (c ∈ subs))) : PySem.W.kitOne K (.ref (He.ga K c)) cv = some b := by
  unfold isaG at h
  split at h
  · rename_i m
    rw [hk c m, h]
  · cases h
theorem isaG_exc {kn subs : List Str} {c : Str} {b : Bool} (h : isaG kn subs c = some b) (hC : ∀ c ∈ kn, ExcC K (He.ga K c)) : ExcC K (He.ga K c) := by
  unfold isaG at h
  split at h
  · rename_i m; exact hC c m
  · cases h
theorem ev_callE {τ ρ : Type} [Ra τ] [Rp ρ] {f : τ → Option ρ} {y : τ} {r : ρ} {k : Nat} {fa : Addr} {fd : FuncData} {ps : List Str} {nm : Str} {p : Pos} {v : V} (Fn : FnOkE x X.prog X.w X.K X.mg X.base CX0 k fa fd ps (Pr X.K f)) (hr : L2H.RoomH k X.A) (hm : X.mg nm = some (.ref fa))
    (hk : PySem.W.keepIn X.K (.ref fa) = true) (hb : Binds X.K fd ps []) (hv : ExF x X.K H v) (hp : (x.a, x.oe) ∈ X.pn) (ha : EvA X (e :: es) σ F H y) (h : f y = some r) (hg : Gl X nm := by rfl) (hdb : (nm == ("__debug__" : Str)) = false := by decide)
    (he : starEach (e :: es) X.env = (false, eval e X.env) :: starEach es X.env := by rfl) (hpl : (backTo pos (starEach es X.env)).any (·.1) = false := by rfl) : Ev X (.Call (.Name nm p) (e :: es) [] pos) σ F H r := fun F1 H1 g Q q => .mk fun pins s I => by
  have ga := ha F1 H1 g (fun vs H2 => Pr X.K f vs H2 Q (fun _ _ _ => False) ∧ ExD x H2) fun vs F2 H2 g2 r2 => ⟨⟨F2, y, r, (g.trans g2).sm, r2, h, fun F3 H3 u g3 r3 => q u F3 H3 (g2.trans g3) r3⟩, (hv.up (g.trans g2).toGr).d⟩
  refine wpAny_Call_Name_kw (ld_glob I hg hm ?_ hdb)
  refine PySem.W.callWith_K (h₀ := X.base) I.ok.mod.kin hk (thn (ga.o pos pins s I) fun us s1 ⟨vs, H1, I1, r1, q1, q2⟩ => ?_) he hpl
  refine ⟨I1.kIn, ?_⟩
  have hl : us.length = ps.length := r1.length.symm.trans (Fn.len _ _ _ _ q1)
  have bnd := hb s1 us I1.kIn (by rw [List.append_nil]; exact hl)
  rw [List.append_nil] at bnd
  refine wpAny_call (codeAny_mono (Fn.run X.A X.stack s1 H1 ⟨us, []⟩ us vs Q (fun _ _ _ => False) hr (pin_of hp I1) hv.g q2 I1.env0 bnd r1 q1) fun o s2 ho => ?_)
  cases o with
  | error _ => exact ho.elim
  | ok fl => cases fl <;> first | exact False.elim ho | exact I1.after ho
theorem exF_0 {q : Addr} {oe : Obj} {cn : Str} {cls : Value} {dd : Option Addr} (r : xr0 cn K cls dd) (hz : Zc cls dd oe) (hf : ∃ vs, oe.data = .fields vs) : ExF ⟨q, oe, cn, dd⟩ K H (.ref q) := by
  obtain ⟨e, e2⟩ := r
  subst e
  exact ⟨rfl, ⟨hz, hf⟩, .inl e2⟩
end
end Gx
namespace Gx
open PySem PySem.Spec PyProof.Rows L2
open Rp (rp)
open Ra (ra)
open Ob (ob)
section
variable {X : Cx} {K : PySem.W.Frag} {e a b c d : Expr} {es : List Expr} {σ : L2.St} {F H F0 H0 : Hp} {pos : Pos} {D : Ends} {st : Stmt} {rest body : List Stmt} {W : WX}
theorem pmk_own0 {C : Addr} {bmB : List Value} {B newId initId : String} {x : Str} {p : Pos} (F : ExcBaseFacts B newId initId bmB) (q : PySem.W.excIn X.K C bmB newId = true) (gC : X.mg x = some (.ref C)) (kC : PySem.W.keepIn X.K (.ref C) = true) (r : Raises X (.ref C)) (hg : Gl X x) (hdb : (x == ("__debug__" : Str)) = false := by decide) :
    PMk X (.Call (.Name x p) [] [] pos) (fun σ H Q => Q (.ref C) none H) := by
  intro pins s σ H Q I h
  refine wpAny_Call_Name_kw (ld_glob I hg gC ?_ hdb)
  refine PySem.W.callWith_K0 I.kIn kC ?_
  show wpAny _ _ (call (.ref C) []) _ _ _
  obtain ⟨bm, N, nm, qn, bs, hdct, sn, sub, ab, col, dd, k0, k1, k2, k3, k5, mN, hC, hN, hni, T⟩ := exc_obj I.kIn q
  refine wpAny_call_exc_subT F T hC hN hni (fun h' e hm => ?_) (by show 0 ≤ sizeLine; exact Nat.zero_le _)
  exact mk_of I hm r h (I.hok.gone hm.new)
theorem go_raise00 {cn : Str} {p pos2 : Pos} (s : SmX X.K F H) (tk : Takes X W) (N1 : XnF X.K cn) (hm : X.mg cn = some (.ref (He.ga X.K cn))) (k : W (.ref (He.ga X.K cn)) none σ H) (hg : Gl X cn := by rfl) (hdb : (cn == ("__debug__" : Str)) = false := by decide) (hc : X.calm = true := by rfl) :
    GoS X (.Raise (some (.Call (.Name cn p) [] [] pos)) none pos2 :: rest) D σ H :=
  GoS.cons (ps_raise hc tk (pmk_own0 PySem.F.excBase_ValueError N1.1 hm N1.2.1 (raises_own N1.2.2.1 N1.2.2.2) hg hdb)) k
def hdT (X : Cx) (b : List Stmt) : Addr → Value → Option Addr → TS := fun a cls d D σ H => ∀ oe pn, Zc cls d oe → (∃ vs, oe.data = .fields vs) → GoS (X.suite a ((a, oe) :: pn)) b D σ H
structure Xq (cn fn : Str) (α : Type) where
  v : α
instance {cn fn : Str} {α : Type} [Rp α] : Rp (Xq cn fn α) := ⟨fun K F v x => ∃ q d w, v = .ref q ∧ F q = some (exo q (He.ga K cn) (some d)) ∧ F d = some (exd d [(fn, w)]) ∧ rp K F w x.v, fun s ⟨q, d, w, e, h1, h2, r⟩ => ⟨q, d, w, e, s _ _ h1, s _ _ h2, Rp.mono s r⟩⟩
end
end Gx
namespace Gx
open PySem PySem.Spec PyProof.Rows L2
open Rp (rp)
open Ra (ra)
open Ob (ob)
def CR {α : Type} [Rp α] (cn n1 n2 : Str) (K : PySem.W.Frag) (F : Hp) (v : V) (l : Addr) (x : α) : Prop := ∃ a dx w, v = .ref a ∧ F a = some (.ins (He.ga K cn) dx (List.zip [n1, n2] [w, .ref l])) ∧ rp K F w x
theorem CR.mono {α : Type} [Rp α] {cn n1 n2 : Str} {K : PySem.W.Frag} {F F' : Hp} {v : V} {l : Addr} {x : α} (h : CR cn n1 n2 K F v l x) (s : L2.Same F F') : CR cn n1 n2 K F' v l x := by
  obtain ⟨a, dx, w, e, t, r⟩ := h
  exact ⟨a, dx, w, e, s _ _ t, Rp.mono s r⟩
theorem CR.rp {α γ : Type} [Rp α] [Rp γ] {cn n1 n2 : Str} {K : PySem.W.Frag} {F : Hp} {v : V} {l : Addr} {x : α} {y : γ} (h : CR cn n1 n2 K F v l x) (r : Rp.rp K F (.ref l) y) : rpI cn [n1, n2] K F v ((x, y, ()) : α × γ × Unit) := by
  obtain ⟨a, dx, w, e, t, rw'⟩ := h
  exact ⟨a, dx, [w, .ref l], e, t, w, _, rfl, rw', .ref l, _, rfl, r, rfl⟩
section
variable {X : Cx} {K : PySem.W.Frag} {e a b c d : Expr} {es : List Expr} {σ : L2.St} {F H F0 H0 : Hp} {pos : Pos} {D : Ends} {st : Stmt} {rest body : List Stmt} {α γ : Type} [Rp α] [Rp γ] {x : α} {ys : List γ} {cn n1 n2 : Str}
def EvRN (cn n1 n2 : Str) (X : Cx) (e : Expr) (σ : L2.St) (F H : Hp) (x : α) (ys : List γ) : Prop := ∀ F1 H1, GrX X.K F H F1 H1 → ∀ Q : VK, (∀ u l o F2 H2, Gr F1 H1 F2 H2 → H1 l = none → F2 l = none → H2 l = some o → ob X.K F2 o ys → CR cn n1 n2 X.K F2 u l x → Q u H2) → GoE X e σ H1 Q
def PrIN (n1 n2 : Str) (K : PySem.W.Frag) (C : Addr) {τ : Type} [Ra τ] (f : τ → Option (T2 α (List γ))) : Sp := fun vs H Q _ => ∃ F x dx args a r, vs = .ref x :: args ∧ SmX K F H ∧ F x = none ∧ H x = some (.ins C dx []) ∧ ra K F args a ∧ f a = some r ∧
  ∀ F' H' w l o, Gr F (er H x) F' H' → F' x = none → H' x = some (.ins C dx (List.zip [n1, n2] [w, .ref l])) → rp K F' w r.a → er H x l = none → F' l = none → H' l = some o → ob K F' o r.b → Q .non H'
theorem go_fldN {x : Addr} {C dx : Addr} {names : List Str} {vs : List V} {fn n : Str} {p1 p2 : Pos} (i : Nat) (s : SmX X.K F H) (fx : F x = none) (hx : H x = some (.ins C dx (names.zip vs))) (hl : names.length = vs.length) (hn : names.length < 1000) (hf : fn ∉ names) (c : Cls X.K C) (na : NoAttr X.K C fn)
    (hσ : σ[i]? = some (some (.ref x))) (he : EvN X e σ F H ys) (k : ∀ l o F' H', Gr F H F' H' → H l = none → F' l = none → H' l = some o → ob X.K F' o ys → F' x = none → H' x = some (.ins C dx (names.zip vs)) → GoS X rest D σ (upd H' x (.ins C dx ((names ++ [fn]).zip (vs ++ [.ref l]))))) (hN : X.N[i]? = some n := by rfl) (hv : Vis X.env.scope n := by first | exact Or.inl rfl | exact Or.inr (Or.inl rfl) | exact Or.inr (Or.inr rfl))
    (hd : (n == ("__debug__" : Str)) = false := by decide) (hcd : (n == ("__classdict__" : Str)) = false := by decide) (hs : swapsWith e (some (.Attribute (.Name n p1) fn p2)) pos.line X.env = pure false := by rfl) : GoS X (.Assign [.Attribute (.Name n p1) fn p2] e pos :: rest) D σ H :=
  GoS.cons (ps_fld (pe_var hN hv hd hcd) pe_go hs) (he F H (.refl s) _ fun l o F2 H2 g2 n2 f2 h2 r2 => by
    have hx2 := g2.hh.k _ _ hx trivial
    refine ⟨_, hσ, x, C, dx, _, rfl, hx2, c, na, ?_, ?_⟩
    · rw [List.length_zip]; omega
    · rw [putF_new (by rw [zip_names hl]; exact hf), zip_snoc hl]
      exact k l o F2 H2 g2 n2 f2 h2 r2 ((g2.fr x _ hx trivial).trans fx) hx2)
theorem fn_initN {P : Program} {w : World} {mg : Str → Option Value} {base : Heap} {τ : Type} [Ra τ] [RaN τ] {f : τ → Option (T2 α (List γ))} {C : Addr} {x qual : Str} {s0 : Stmt} {fa : Addr} {fd : FuncData} {N ps : List Str} {k : Nat} (Fn : FunD K x qual (defArgs s0) (defBody s0) (defScope s0) [] [] fa fd) (S : FnScope N ps (defScope s0)) (hn : RaN.n τ + 1 = ps.length)
    (hbody : ∀ (cdv : Value) (A : Around) (outer : List Env) (s : Shared) (F H : Hp) (y dx : Addr) (vs : List V) (a : τ) (r : T2 α (List γ)) (D : Ends) (E : XK), Room k (A.deeper (envOfC qual (defScope s0) s.heap.objs.size fa cdv)) → GrX K F (er H y) F H → F y = none → H y = some (.ins C dx []) → ra K F vs a → f a = some r →
      (∀ σ' F' H' w l o, GrX K F (er H y) F' H' → F' y = none → H' y = some (.ins C dx (List.zip [n1, n2] [w, .ref l])) → rp K F' w r.a → er H y l = none → F' l = none → H' l = some o → ob K F' o r.b → D.nx σ' H') → GoS (cxOf CX0 P w K mg base N qual (defScope s0) fa cdv A outer s H E).nox (defBody s0) D (start N (.ref y :: vs)) H) :
    FnOk P w K mg base CX0 (k + 1) fa fd ps (PrIN n1 n2 K C f) := by
  refine Fn.ok S (fun vs H Q E ⟨F, y, dx, args, a, r, e, _, _, _, ra', _⟩ => by rw [e, List.length_cons, RaN.len ra', hn]) fun cdv A outer s H vs Q E hr ⟨F, y, dx, args, a, r, e, sm, fy, hy, ra', hf, k⟩ => ?_
  subst e
  exact ⟨_, PSs.nox pss_go, hbody cdv A outer s F H y dx args a r { nx := fun _ H' => Q .non H', rt := Q } E hr ⟨Gr.start sm.s fy ⟨_, hy, trivial⟩, sm.h⟩ fy hy ra' hf fun σ' F' H' w l o g f' h' r' n f2 h2 b => k F' H' w l o g.toGr f' h' r' n f2 h2 b⟩
theorem ern_make {τ : Type} [Ra τ] {f : τ → Option (T2 α (List γ))} {y : τ} {r : T2 α (List γ)} {k : Nat} {fa : Addr} {fd : FuncData} {ps : List Str} {x : Str} {p : Pos} (M : Mk X.K (He.ga X.K cn) fa) (Fn : FnOk X.prog X.w X.K X.mg X.base CX0 k fa fd ps (PrIN n1 n2 X.K (He.ga X.K cn) f)) (hr : Room (k + 1) X.A)
    (hm : X.mg x = some (.ref (He.ga X.K cn))) (hb : Binds X.K fd ps []) (ha : EvA X (e :: es) σ F H y) (h : f y = some r) (hg : Gl X x := by rfl) (hdb : (x == ("__debug__" : Str)) = false := by decide)
    (he : starEach (e :: es) X.env = (false, eval e X.env) :: starEach es X.env := by rfl) (hpl : (backTo pos (starEach es X.env)).any (·.1) = false := by rfl) : EvRN cn n1 n2 X (.Call (.Name x p) (e :: es) [] pos) σ F H r.a r.b := fun F1 H1 g Q q =>
  GoE.of (pe_make M Fn hr hg hm hb .nil pass0 pa_go hdb he hpl) (ha F1 H1 g _ fun vs F2 H2 g2 r2 => by
    intro o dx ho hdx hne
    have so : H2 dx = none := hdx
    have g3 : Gr F2 H2 (upd F2 dx (.own o)) (upd H2 dx (.own o)) := Gr.new g2.fh hdx trivial
    have ho3 : upd H2 dx (.own o) o = none := by rw [upd_ne (fun z => hne z.symm)]; exact ho
    have fo3 : upd F2 dx (.own o) o = none := by rw [upd_ne (fun z => hne z.symm)]; exact g2.fh.free ho
    have g4 := Gr.newP (o := .ins (He.ga X.K cn) dx []) g3.fh ho3 trivial
    refine ⟨upd F2 dx (.own o), o, dx, vs, y, r, by rw [List.append_nil], (g.trans g2).sm.up (g3.trans g4), fo3, upd_same, Ra.mono g3.ff r2, h, fun F' H' w l lo g5 f5 h5 r5 n5 f6 h6 b6 => ⟨rfl, ?_⟩⟩
    have g6 : Gr F1 H1 F' H' := (((g2.trans g3).trans g4)).over (g2.hh.free ho) g5 ⟨_, upd_same, trivial⟩
    have g7 := g6.freeze (o := .ins (He.ga X.K cn) dx (List.zip [n1, n2] [w, .ref l])) (g2.hh.free ho) f5 ⟨_, h5, trivial⟩ trivial
    have e7 : upd H' o (.ins (He.ga X.K cn) dx (List.zip [n1, n2] [w, .ref l])) = H' := by
      funext b
      by_cases hb : b = o
      · rw [hb, upd_same, h5]
      · rw [upd_ne hb]
    rw [e7] at g7
    have hlo : l ≠ o := fun z => by
      obtain ⟨us, e1, _⟩ := b6
      subst z; rw [h5] at h6; cases h6; cases e1
    have n6 : H1 l = none := by
      refine g2.hh.free (g3.hh.free ?_)
      unfold er at n5
      rw [if_neg hlo, upd_ne hlo] at n5
      exact n5
    exact q (.ref o) l lo _ H' g7 n6 (by rw [upd_ne hlo]; exact f6) h6 (Ob.mono (same_upd f5) b6) ⟨o, dx, w, rfl, upd_same, Rp.mono (same_upd f5) r5⟩)
theorem go_setRN {n : Str} {p : Pos} (i : Nat) (s : SmX X.K F H) (he : EvRN cn n1 n2 X e σ F H x ys) (k : ∀ u l o F' H', Gr F H F' H' → H l = none → F' l = none → H' l = some o → ob X.K F' o ys → CR cn n1 n2 X.K F' u l x → GoS X rest D (σ.set i (some u)) H') (hN : X.N.Nodup) (hi : X.N[i]? = some n := by rfl)
    (hx : Loc X.env.scope n := by first | exact Or.inl rfl | exact Or.inr rfl) (hs : swapsWith e (some (.Name n p)) pos.line X.env = pure false := by rfl) (hf : X.fn n = true ∨ X.env.scope.names.lookup n = some .local := by first | exact .inl rfl | exact .inr rfl) :
    GoS X (.Assign [.Name n p] e pos :: rest) D σ H :=
  GoS.cons (ps_set hN hi hx pe_go hs hf) (he F H (.refl s) _ fun u l o F2 H2 g n f h r c => k u l o F2 H2 g n f h r c)
section
variable {zs : List γ} {l : Addr} {v : V} {n : Str} {p1 p2 p3 p4 : Pos}
end
end
end Gx
namespace Gx
open PySem PySem.Spec PyProof.Rows L2
open Rp (rp)
open Ra (ra)
open Ob (ob)
def srtI (xs : List Int) : Option (List Int) := if xs.length < 64 then some (xs.mergeSort fun a b => decide (a ≤ b)) else none
end Gx
namespace Gx
open PySem PySem.Spec PyProof.Rows L2
open Rp (rp)
open Ra (ra)
open Ob (ob)
def ItzM (K : PySem.W.Frag) (a b : Addr) : It :=
  ⟨fun i H => ∃ (xs ys : List V) (x y : V), SqT K H a xs ∧ SqL K H b ys ∧ xs[i]? = some x ∧ ys[i]? = some y,
    fun i H v H' => ∃ T x y, v = .ref T ∧ H T = none ∧ H' = upd H T (.tup [x, y]) ∧ (∀ xs, SqT K H a xs → xs[i]? = some x) ∧ ∀ ys, SqL K H b ys → ys[i]? = some y,
    fun i H => ∃ xs ys : List V, SqT K H a xs ∧ SqL K H b ys ∧ i ≤ xs.length ∧ i ≤ ys.length ∧ (i = xs.length ∨ i = ys.length)⟩
def stM (z TI TO i1 i2 a b : Addr) (i : Nat) (h : Heap) : Prop := IsZip h z TI TO .none ∧ IsTupOf2 h TI (.ref i1) (.ref i2) ∧ (∃ x y, IsTupOf2 h TO x y) ∧ h.IsTupleIter i1 a i ∧ h.IsListIter i2 b i
def iZipM (K : PySem.W.Frag) (ta : TA) : TI := fun σ H R => ta σ H fun vs H1 => ∃ a b xs ys, vs = [.ref a, .ref b] ∧ SqT K H1 a xs ∧ SqL K H1 b ys ∧ R (ItzM K a b) H1
section
variable {X : Cx} {a b : Expr} {σ : L2.St} {F H : Hp} {pos : Pos}
end
end Gx
namespace Gx
open PySem PySem.Spec PyProof.Rows L2
open Rp (rp)
open Ra (ra)
open Ob (ob)
def augG (xs : List Int) (k d : Int) : Option (List Int) := if 0 ≤ k then (xs[k.toNat]?).map fun x => xs.set k.toNat (x + d) else none
def rGet0 (K : PySem.W.Frag) : V → V → Hp → VK → Prop := fun x y H Q => ∃ p xs k v, x = .ref p ∧ y = .int k ∧ SqL K H p xs ∧ 0 ≤ k ∧ xs[k.toNat]? = some v ∧ Q v H
section
variable {X : Cx} {a e : Expr} {σ : L2.St} {F H H0 : Hp} {pos : Pos} {D : Ends} {rest : List Stmt}
end
end Gx
namespace Gx
open PySem PySem.Spec PyProof.Rows L2
end Gx
namespace Gx
open PySem PySem.Spec PyProof.Rows L2
open Rp (rp)
open Ra (ra)
open Ob (ob)
def IsL (F : Hp) (l : Addr) : Prop := ∃ od xs, F l = some (.frz od (.lst xs))
theorem IsL.tup {F : Hp} {l : Addr} (h : IsL F l) : (∀ xs, ¬ F l = some (.tup xs)) ∧ (∀ (o : Obj) (xs : List V), ¬ F l = some (.frz o (.tup xs))) := by
  obtain ⟨od, ys, h⟩ := h
  exact ⟨fun xs e => (by rw [h] at e; cases e), fun o xs e => (by rw [h] at e; cases e)⟩
theorem IsL.ins {F : Hp} {l a : Addr} {c d : Addr} {fs : List (Str × V)} (h : IsL F l) (e : F a = some (.ins c d fs)) : er F l a = some (.ins c d fs) := by
  obtain ⟨od, ys, h⟩ := h
  unfold er
  rw [if_neg (show ¬ a = l from fun z => by rw [z, h] at e; cases e)]; exact e
class FlatL (α : Type) [Rp α] : Prop where
  fl : ∀ {K : PySem.W.Frag} {F : Hp} {l : Addr} {v : V} {x : α}, IsL F l → rp K F v x → rp K (er F l) v x
class FlatLR (τ : Type) [Ra τ] : Prop where
  fl : ∀ {K : PySem.W.Frag} {F : Hp} {l : Addr} {v : List V} {x : τ}, IsL F l → ra K F v x → ra K (er F l) v x
instance (priority := low) {α : Type} [Rp α] [Flat α] : FlatL α := ⟨fun h r => Flat.fl h.tup.1 h.tup.2 r⟩
instance : FlatLR Unit := ⟨fun _ h => h⟩
instance {α τ : Type} [Rp α] [Ra τ] [FlatL α] [FlatLR τ] : FlatLR (α × τ) := ⟨fun h1 ⟨v, r, e, p, q⟩ => ⟨v, r, e, FlatL.fl h1 p, FlatLR.fl h1 q⟩⟩
theorem rpI.fl {cn : Str} {names : List Str} {τ : Type} [Ra τ] [FlatLR τ] {K : PySem.W.Frag} {F : Hp} {l : Addr} {v : V} {x : τ} (h : IsL F l) : rpI cn names K F v x → rpI cn names K (er F l) v x := fun ⟨a, dx, vs, e, q, r⟩ => ⟨a, dx, vs, e, h.ins q, FlatLR.fl h r⟩
theorem CR.er {α : Type} [Rp α] [FlatL α] {cn n1 n2 : Str} {K : PySem.W.Frag} {F : Hp} {v : V} {l l0 : Addr} {x : α} (h : CR cn n1 n2 K F v l x) (h1 : IsL F l0) : CR cn n1 n2 K (er F l0) v l x := by
  obtain ⟨a, dx, w, e, t, r⟩ := h
  exact ⟨a, dx, w, e, h1.ins t, FlatL.fl h1 r⟩
end Gx
namespace Gx
open PySem PySem.Spec PyProof.Rows L2
open Rp (rp)
open Ra (ra)
open Ob (ob)
def ItzN (K : PySem.W.Frag) (a b : Addr) : It :=
  ⟨fun i H => ∃ (xs ys : List V) (x y : V), SqL K H a xs ∧ SqT K H b ys ∧ xs[i]? = some x ∧ ys[i]? = some y,
    fun i H v H' => ∃ T x y, v = .ref T ∧ H T = none ∧ H' = upd H T (.tup [x, y]) ∧ (∀ xs, SqL K H a xs → xs[i]? = some x) ∧ ∀ ys, SqT K H b ys → ys[i]? = some y,
    fun i H => ∃ xs ys : List V, SqL K H a xs ∧ SqT K H b ys ∧ i ≤ xs.length ∧ i ≤ ys.length ∧ (i = xs.length ∨ i = ys.length)⟩
def stN (z TI TO i1 i2 a b : Addr) (i : Nat) (h : Heap) : Prop := IsZip h z TI TO .none ∧ IsTupOf2 h TI (.ref i1) (.ref i2) ∧ (∃ x y, IsTupOf2 h TO x y) ∧ h.IsListIter i1 a i ∧ h.IsTupleIter i2 b i
def iZipN (K : PySem.W.Frag) (ta : TA) : TI := fun σ H R => ta σ H fun vs H1 => ∃ a b xs ys, vs = [.ref a, .ref b] ∧ SqL K H1 a xs ∧ SqT K H1 b ys ∧ R (ItzN K a b) H1
section
variable {X : Cx} {a b : Expr} {σ : L2.St} {F H : Hp} {pos : Pos}
end
end Gx
namespace Gx
open PySem PySem.Spec PyProof.Rows L2
open Rp (rp)
open Ra (ra)
open Ob (ob)
section
variable {X : Cx} {K : PySem.W.Frag} {e : Expr} {es : List Expr} {σ : L2.St} {F H F0 H0 : Hp} {pos : Pos} {D : Ends} {rest : List Stmt} {α γ : Type} [Rp α] [Rp γ] {x : α} {ys : List γ} {cn n1 n2 : Str}
def PrRN (cn n1 n2 : Str) (K : PySem.W.Frag) {τ : Type} [Ra τ] (f : τ → Option (T2 α (List γ))) : Sp := fun vs H Q _ => ∃ F a r, SmX K F H ∧ ra K F vs a ∧ f a = some r ∧ ∀ u l o F' H', Gr F H F' H' → H l = none → F' l = none → H' l = some o → ob K F' o r.b → CR cn n1 n2 K F' u l r.a → Q u H'
theorem ern_call {τ : Type} [Ra τ] {f : τ → Option (T2 α (List γ))} {y : τ} {r : T2 α (List γ)} {k : Nat} {fa : Addr} {fd : FuncData} {ps : List Str} {x : Str} {p : Pos} (Fn : FnOk X.prog X.w X.K X.mg X.base CX0 k fa fd ps (PrRN cn n1 n2 X.K f)) (hr : Room k X.A) (hm : X.mg x = some (.ref fa))
    (hk : PySem.W.keepIn X.K (.ref fa) = true) (hb : Binds X.K fd ps []) (ha : EvA X (e :: es) σ F H y) (h : f y = some r) (hg : Gl X x := by rfl) (hdb : (x == ("__debug__" : Str)) = false := by decide)
    (he : starEach (e :: es) X.env = (false, eval e X.env) :: starEach es X.env := by rfl) (hpl : (backTo pos (starEach es X.env)).any (·.1) = false := by rfl) : EvRN cn n1 n2 X (.Call (.Name x p) (e :: es) [] pos) σ F H r.a r.b := fun F1 H1 g Q q =>
  GoE.of (pe_call Fn hr hg hm hk hb .nil pass0 pa_go hdb he hpl) (ha F1 H1 g _ fun vs F2 H2 g2 r2 => ⟨F2, y, r, (g.trans g2).sm, by rw [List.append_nil]; exact r2, h, fun u l o F3 H3 g3 n3 f3 h3 b3 c3 => q u l o F3 H3 (g2.trans g3) (g2.hh.free n3) f3 h3 b3 c3⟩)
theorem fn_okRN {P : Program} {w : World} {mg : Str → Option Value} {base : Heap} {τ : Type} [Ra τ] [RaN τ] {f : τ → Option (T2 α (List γ))} {x qual : Str} {s0 : Stmt} {fa : Addr} {fd : FuncData} {N ps : List Str} {k : Nat} (Fn : FunD K x qual (defArgs s0) (defBody s0) (defScope s0) [] [] fa fd) (S : FnScope N ps (defScope s0)) (hn : RaN.n τ = ps.length)
    (hbody : ∀ (cdv : Value) (A : Around) (outer : List Env) (s : Shared) (F H : Hp) (vs : List V) (a : τ) (r : T2 α (List γ)) (D : Ends) (E : XK), Room k (A.deeper (envOfC qual (defScope s0) s.heap.objs.size fa cdv)) → SmX K F H → ra K F vs a → f a = some r → (∀ u l o F' H', GrX K F H F' H' → H l = none → F' l = none → H' l = some o → ob K F' o r.b → CR cn n1 n2 K F' u l r.a → D.rt u H') →
      True → GoS (cxOf CX0 P w K mg base N qual (defScope s0) fa cdv A outer s H E).nox (defBody s0) D (start N vs) H) :
    FnOk P w K mg base CX0 (k + 1) fa fd ps (PrRN cn n1 n2 K f) := by
  refine Fn.ok S (fun vs H Q E ⟨F, a, r, _, ra', _⟩ => by rw [RaN.len ra', hn]) fun cdv A outer s H vs Q E hr ⟨F, a, r, sm, ra', hf, k⟩ => ?_
  exact ⟨_, PSs.nox pss_go, hbody cdv A outer s F H vs a r { nx := fun _ H' => Q .non H', rt := Q } E hr sm ra' hf (fun u l o F' H' g n f h r c => k u l o F' H' g.toGr n f h r c) trivial⟩
theorem go_retRN (s : SmX X.K F H) (he : EvRN cn n1 n2 X e σ F H x ys) (k : ∀ u l o F' H', Gr F H F' H' → H l = none → F' l = none → H' l = some o → ob X.K F' o ys → CR cn n1 n2 X.K F' u l x → D.rt u H') : GoS X (.Return (some e) pos :: rest) D σ H :=
  GoS.cons (ps_ret pe_go) (he F H (.refl s) _ fun u l o F2 H2 g n f h r c => k u l o F2 H2 g n f h r c)
end
end Gx
namespace Gx
open PySem PySem.Spec PyProof.Rows L2
open Rp (rp)
open Ra (ra)
open Ob (ob)
structure Ad where
  a : Addr
instance : Rp Ad := ⟨fun _ _ v x => v = .ref x.a, fun _ h => h⟩
section
variable {X : Cx} {K : PySem.W.Frag} {e a b c d : Expr} {es : List Expr} {σ : L2.St} {F H F0 H0 : Hp} {pos : Pos} {D : Ends} {st : Stmt} {rest body : List Stmt}
theorem Own.keepX {α : Type} [Rp α] [Ob α] {x : α} {l : Addr} {F' H' : Hp} (o : Own K H0 F H l x) (s : L2.Same F F') (k : F' l = F l ∧ H' l = H l) : Own K H0 F' H' l x := by
  obtain ⟨u, h, r⟩ := o.h
  exact ⟨o.n, k.1.trans o.f, u, k.2.trans h, Ob.mono s r⟩
theorem Own.base {α : Type} [Rp α] [Ob α] {x : α} {l : Addr} {H1 : Hp} (o : Own K H1 F H l x) (h : ∀ p, H1 p = none → H0 p = none) : Own K H0 F H l x := ⟨h l o.n, o.f, o.h⟩
structure Own2 {α : Type} [Rp α] (K : PySem.W.Frag) (H0 F H : Hp) (l : Addr) (ex : List Addr) (x : List (List α)) : Prop where
  w : ∃ as : List Addr, Own K H0 F H l (as.map Ad.mk) ∧ Paired (fun a r => Own K H0 F H a r) as x ∧ (l :: as).Nodup ∧ ∀ b ∈ ex, b ∉ l :: as
section
variable {α : Type} [Rp α] {x : List (List α)} {l : Addr} {ex : List Addr}
theorem Own2.cg {y : List (List α)} (e : x = y) (o : Own2 K H0 F H l ex x) : Own2 K H0 F H l ex y := e ▸ o
theorem Own2.up {F' H' : Hp} (o : Own2 K H0 F H l ex x) (g : Gr F H F' H') : Own2 K H0 F' H' l ex x := by
  obtain ⟨as, o, p, nd, hx⟩ := o.w
  exact ⟨as, o.up g, L2.Paired.mapP p fun _ _ h => h.up g, nd, hx⟩
theorem paired_mapM {β γ : Type} {R S : β → γ → Prop} : ∀ {as : List β} {bs : List γ}, Paired R as bs → (∀ a ∈ as, ∀ b, R a b → S a b) → Paired S as bs
  | _, _, .nil, _ => .nil
  | _, _, .cons r t, h => .cons (h _ List.mem_cons_self _ r) (paired_mapM t fun a m => h a (List.mem_cons_of_mem _ m))
theorem Own2.mapA {F' H' : Hp} {ex' : List Addr} (o : Own2 K H0 F H l ex x) (h : ∀ {β : Type} [Rp β] [Ob β] {y : β} {a : Addr}, (∀ b ∈ ex, b ≠ a) → Own K H0 F H a y → Own K H0 F' H' a y) : Own2 K H0 F' H' l ex x := by
  obtain ⟨as, o, p, nd, hx⟩ := o.w
  exact ⟨as, h (fun b hb e => hx b hb (e ▸ List.mem_cons_self)) o, paired_mapM p fun a m _ r => h (fun b hb e => hx b hb (e ▸ List.mem_cons_of_mem _ m)) r, nd, hx⟩
theorem Own2.other {u : HO} {b : Addr} (o : Own2 K H0 F H l ex x) (h : b ∈ ex) : Own2 K H0 F (upd H b u) l ex x := o.mapA (ex' := ex) fun h2 o => o.other fun e => h2 b h e.symm
theorem Own2.keepF {F' H' : Hp} {b : Addr} (o : Own2 K H0 F H l ex x) (h : b ∈ ex) (s : L2.Same F F') (k : ∀ a, a ≠ b → F' a = F a ∧ H' a = H a) : Own2 K H0 F' H' l ex x := o.mapA (ex' := ex) fun h2 o => o.keepF (fun e => h2 b h e.symm) s k
theorem Own2.over {F' H' : Hp} {b : Addr} (o : Own2 K H0 F H l ex x) (h : b ∈ ex) (g : Gr F (er H b) F' H') : Own2 K H0 F' H' l ex x := o.mapA (ex' := ex) fun h2 o => o.over (fun e => h2 b h e.symm) g
theorem Own2.base {H1 : Hp} (o : Own2 K H1 F H l ex x) (h : ∀ p, H1 p = none → H0 p = none) : Own2 K H0 F H l ex x := by
  obtain ⟨as, o, p, nd, hx⟩ := o.w
  exact ⟨as, o.base h, L2.Paired.mapP p fun _ _ z => z.base h, nd, hx⟩
theorem Own2.ne0 (o : Own2 K H0 F H l ex x) : H l ≠ none := by
  obtain ⟨as, o, p, nd, hx⟩ := o.w
  exact o.ne0
theorem paired_l {β γ : Type} {R : β → γ → Prop} : ∀ {as : List β} {bs : List γ} {a : β}, Paired R as bs → a ∈ as → ∃ b ∈ bs, R a b
  | _, _, _, .nil, h => nomatch h
  | _, _, a, .cons r t, h => by
    rcases List.mem_cons.mp h with e | e
    · subst e; exact ⟨_, List.mem_cons_self, r⟩
    · obtain ⟨b, m, z⟩ := paired_l t e
      exact ⟨b, List.mem_cons_of_mem _ m, z⟩
theorem Own2.ext {p : Addr} (o : Own2 K H0 F H l ex x) (h : H p = none) : Own2 K H0 F H l (p :: ex) x := by
  obtain ⟨as, o, q, nd, hx⟩ := o.w
  refine ⟨as, o, q, nd, fun b hb => ?_⟩
  rcases List.mem_cons.mp hb with e | e
  · subst e
    intro m
    rcases List.mem_cons.mp m with e | e
    · subst e; exact o.ne0 h
    · obtain ⟨r, _, z⟩ := paired_l q e
      exact z.ne0 h
  · exact hx b e
theorem Own2.exO {H1 : Hp} {p : Addr} (o : Own2 K H1 F H l ex x) (h : H1 p ≠ none) : Own2 K H1 F H l (p :: ex) x := by
  obtain ⟨as, o, q, nd, hx⟩ := o.w
  refine ⟨as, o, q, nd, fun b hb => ?_⟩
  rcases List.mem_cons.mp hb with e | e
  · subst e
    intro m
    rcases List.mem_cons.mp m with e | e
    · subst e; exact h o.n
    · obtain ⟨r, _, z⟩ := paired_l q e
      exact h z.n
  · exact hx b e
theorem Own2.ne {b : Addr} (o : Own2 K H0 F H l ex x) (h : b ∈ ex) : b ≠ l := by
  obtain ⟨as, o, q, nd, hx⟩ := o.w
  exact fun e => hx b h (e ▸ List.mem_cons_self)
theorem thaw_in {J : Hp → Hp → Prop} (T : ∀ {γ : Type} [Rp γ] [Ob γ] {y : γ} {F H : Hp} {l : Addr}, Own K H0 F H l y → L2.Same F H → (∀ F' H', L2.Same F F' → L2.Same F' H' → rp K F' (.ref l) y → (∀ a, a ≠ l → F' a = F a ∧ H' a = H a) → J F' H') → J F H) :
    ∀ {as : List Addr} {xs : List (List α)} {F H : Hp}, Paired (fun a r => Own K H0 F H a r) as xs → as.Nodup → L2.Same F H → (∀ F' H', L2.Same F F' → L2.Same F' H' → Paired (fun a (r : List α) => rp K F' (.ref a) r) as xs → (∀ a, a ∉ as → F' a = F a ∧ H' a = H a) → J F' H') → J F H
  | _, _, F, H, .nil, _, s, k => k F H (.refl _) s .nil fun _ _ => ⟨rfl, rfl⟩
  | a :: as, r :: xs, F, H, .cons o p, nd, s, k => T o s fun F1 H1 s1 s2 r1 k1 => by
    obtain ⟨na, nd⟩ := List.nodup_cons.mp nd
    refine thaw_in T (as := as) (xs := xs) (paired_mapM p fun b m _ z => z.keepF (fun (e : b = a) => na (e ▸ m)) s1 k1) nd s2 fun F2 H2 s3 s4 rs k2 => ?_
    refine k F2 H2 (s1.trans s3) s4 (.cons (Rp.mono s3 r1) rs) fun b hb => ?_
    have h1 := k1 b fun e => hb (e ▸ List.mem_cons_self)
    have h2 := k2 b fun m => hb (List.mem_cons_of_mem _ m)
    exact ⟨h2.1.trans h1.1, h2.2.trans h1.2⟩
theorem rps_ads : ∀ {vs : List V} {as : List Addr} {xs : List (List α)}, Rps K F vs (as.map Ad.mk) → Paired (fun a (r : List α) => rp K F (.ref a) r) as xs → Rps K F vs xs
  | _, [], _, .nil, .nil => .nil
  | _, a :: as, _, .cons r t, .cons r2 t2 => .cons (by
    have e : _ = V.ref a := r
    rw [e]; exact r2) (rps_ads t t2)
theorem thaw_2 {J : Hp → Hp → Prop} (T : ∀ {γ : Type} [Rp γ] [Ob γ] {y : γ} {F H : Hp} {l : Addr}, Own K H0 F H l y → L2.Same F H → (∀ F' H', L2.Same F F' → L2.Same F' H' → rp K F' (.ref l) y → (∀ a, a ≠ l → F' a = F a ∧ H' a = H a) → J F' H') → J F H)
    (o : Own2 K H0 F H l ex x) (s : L2.Same F H) (k : ∀ F' H', L2.Same F F' → L2.Same F' H' → rp K F' (.ref l) x → (∀ a ∈ ex, F' a = F a ∧ H' a = H a) → J F' H') : J F H := by
  obtain ⟨as, o, p, nd, hx⟩ := o.w
  obtain ⟨nl, nd⟩ := List.nodup_cons.mp nd
  refine thaw_in T p nd s fun F1 H1 s1 s2 r1 k1 => T (o.keepX s1 (k1 l nl)) s2 fun F2 H2 s3 s4 r2 k2 => ?_
  refine k F2 H2 (s1.trans s3) s4 ?_ fun b hb => ?_
  · obtain ⟨q, vs, e, sq, rs⟩ := r2
    exact ⟨q, vs, e, sq, rps_ads rs (L2.Paired.mapP r1 fun _ _ z => Rp.mono s3 z)⟩
  · have h1 := k1 b fun m => hx b hb (List.mem_cons_of_mem _ m)
    have h2 := k2 b fun e => hx b hb (e ▸ List.mem_cons_self)
    exact ⟨h2.1.trans h1.1, h2.2.trans h1.2⟩
theorem et_thaw2 {z : Bool} (o : Own2 X.K H0 F H l ex x) (s : L2.Same F H) (h : ∀ F' H', L2.Same F F' → L2.Same F' H' → rp X.K F' (.ref l) x → (∀ a ∈ ex, F' a = F a ∧ H' a = H a) → EvT X e σ F' H' z) : EvT X e σ F H z := thaw_2 (J := fun F H => EvT X e σ F H z) (fun o s k => et_thaw o s k) o s h
theorem Own2.freeze {st : List Stmt} (o : Own2 X.K H0 F H l ex x) (g : GrX X.K F0 H0 F H) (k : ∀ F' H', L2.Same F F' → L2.Same F' H' → GrX X.K F0 H0 F' H' → rp X.K F' (.ref l) x → (∀ a ∈ ex, F' a = F a ∧ H' a = H a) → GoS X st D σ H') : GoS X st D σ H :=
  thaw_2 (J := fun F H => GrX X.K F0 H0 F H → GoS X st D σ H) (fun o s k g => o.freeze g fun F' H' s1 s2 g' r kk => k F' H' s1 s2 r kk g') o g.fh (fun F' H' s1 s2 r kk g' => k F' H' s1 s2 g' r kk) g
end
def EvN2 {α : Type} [Rp α] (X : Cx) (e : Expr) (σ : L2.St) (F H : Hp) (x : List (List α)) : Prop := ∀ F1 H1, GrX X.K F H F1 H1 → ∀ Q : VK, (∀ l F2 H2, Gr F1 H1 F2 H2 → Own2 X.K H1 F2 H2 l [] x → Q (.ref l) H2) → GoE X e σ H1 Q
def CBn {γ : Type} [Rp γ] (X : Cx) (scope : Scope) (elt : Expr) (σ2 : L2.St) (F H : Hp) (o : Option (List γ)) : Prop := ∃ y, o = some y ∧ ∀ s H' C cl fp, EvN (blkX X scope s H' C cl fp) elt σ2 F H y
def CBni {γ : Type} [Rp γ] (X : Cx) (scope : Scope) (tst elt : Expr) (σ2 : L2.St) (F H : Hp) (o : Option (List γ)) : Prop := ∃ b, (∀ s H' C cl fp, EvT (blkX X scope s H' C cl fp) tst σ2 F H b) ∧ (b = true → CBn X scope elt σ2 F H o) ∧ (b = false → o = none)
theorem CBn.up {γ : Type} [Rp γ] {scope : Scope} {elt : Expr} {σ2 : L2.St} {F' H' : Hp} {o : Option (List γ)} (h : CBn X scope elt σ2 F H o) (g : Gr F H F' H') : CBn X scope elt σ2 F' H' o := by
  obtain ⟨y, e, h⟩ := h
  exact ⟨y, e, fun s H' C cl fp F1 H1 g1 => h s H' C cl fp F1 H1 (.pre g g1)⟩
theorem paired_snoc' {β γ : Type} {R : β → γ → Prop} {as : List β} {bs : List γ} {a : β} {b : γ} (h : Paired R as bs) (r : R a b) : Paired R (as ++ [a]) (bs ++ [b]) := by
  induction h with
  | nil => exact .cons r .nil
  | cons r' t ih => exact .cons r' ih
theorem go_setN2 {α : Type} [Rp α] {x : List (List α)} {n : Str} {p : Pos} (i : Nat) (s : SmX X.K F H) (he : EvN2 X e σ F H x) (k : ∀ l F' H', Gr F H F' H' → Own2 X.K H F' H' l [] x → GoS X rest D (σ.set i (some (.ref l))) H') (hN : X.N.Nodup) (hi : X.N[i]? = some n := by rfl)
    (hx : Loc X.env.scope n := by first | exact Or.inl rfl | exact Or.inr rfl) (hs : swapsWith e (some (.Name n p)) pos.line X.env = pure false := by rfl) (hf : X.fn n = true ∨ X.env.scope.names.lookup n = some .local := by first | exact .inl rfl | exact .inr rfl) :
    GoS X (.Assign [.Name n p] e pos :: rest) D σ H :=
  GoS.cons (ps_set hN hi hx pe_go hs hf) (he F H (.refl s) _ fun l F2 H2 g o => k l F2 H2 g o)
def setG2 {α : Type} (t : List (List α)) (i j : Int) (v : α) : Option (List (List α)) := match ixN t.length i with
  | none => none
  | some n => match t[n]? with
    | none => none
    | some r => (setG r j v).map fun r2 => t.set n r2
theorem paired_getA {β γ : Type} {R : β → γ → Prop} : ∀ {as : List β} {bs : List γ} {n : Nat} {b : γ}, Paired R as bs → bs[n]? = some b → ∃ a, as[n]? = some a ∧ R a b
  | _, _, _, _, .nil, h => nomatch h
  | _, _, 0, _, .cons r _, h => by
    have h : some _ = some _ := h
    cases h; exact ⟨_, rfl, r⟩
  | _, _, n + 1, _, .cons _ t, h => paired_getA (n := n) t h
theorem paired_poke {α : Type} [Rp α] {u : HO} {r2 : List α} : ∀ {as : List Addr} {x : List (List α)} {n : Nat} {p : Addr}, Paired (fun a r => Own K H0 F H a r) as x → as.Nodup → as[n]? = some p → Own K H0 F (upd H p u) p r2 → Paired (fun a r => Own K H0 F (upd H p u) a r) as (x.set n r2)
  | _, _, _, _, .nil, _, _, _ => .nil
  | a :: as, _, 0, _, .cons _ t, nd, e, o => by
    have e : some a = some _ := e
    cases e
    obtain ⟨na, nd⟩ := List.nodup_cons.mp nd
    exact .cons o (paired_mapM t fun b m _ z => z.other fun e => na (e ▸ m))
  | a :: as, _, n + 1, p, .cons r t, nd, e, o => by
    obtain ⟨na, nd⟩ := List.nodup_cons.mp nd
    have e : as[n]? = some p := e
    exact .cons (r.other fun z => na (z ▸ List.mem_of_getElem? e)) (paired_poke t nd e o)
end
end Gx
namespace Gx
open PySem PySem.Spec PyProof.Rows L2
open Rp (rp)
open Ra (ra)
open Ob (ob)
def minDf (xs : List Int) (d : Int) : Int := xs.min?.getD d
def maxDf (xs : List Int) (d : Int) : Int := xs.max?.getD d
section
variable {X : Cx} {K : PySem.W.Frag} {e a b c d : Expr} {es : List Expr} {σ : L2.St} {F H F0 H0 : Hp} {pos : Pos}
end
end Gx
namespace Gx
open PySem PySem.Spec PyProof.Rows L2
open Rp (rp)
open Ra (ra)
open Ob (ob)
def Itz3 (K : PySem.W.Frag) (a b c : Addr) : It :=
  ⟨fun i H => ∃ (xs ys zs : List V) (x y z : V), SqL K H a xs ∧ SqT K H b ys ∧ SqL K H c zs ∧ xs[i]? = some x ∧ ys[i]? = some y ∧ zs[i]? = some z,
    fun i H v H' => ∃ T x y z, v = .ref T ∧ H T = none ∧ H' = upd H T (.tup [x, y, z]) ∧ (∀ xs, SqL K H a xs → xs[i]? = some x) ∧ (∀ ys, SqT K H b ys → ys[i]? = some y) ∧ ∀ zs, SqL K H c zs → zs[i]? = some z,
    fun i H => ∃ xs ys zs : List V, SqL K H a xs ∧ SqT K H b ys ∧ SqL K H c zs ∧ i ≤ xs.length ∧ i ≤ ys.length ∧ i ≤ zs.length ∧ (i = xs.length ∨ i = ys.length ∨ i = zs.length)⟩
def st3 (z TI TO i1 i2 i3 a b c : Addr) (i : Nat) (h : Heap) : Prop := IsZip h z TI TO .none ∧ IsTupOf3 h TI (.ref i1) (.ref i2) (.ref i3) ∧ (∃ x y u, IsTupOf3 h TO x y u) ∧ h.IsListIter i1 a i ∧ h.IsTupleIter i2 b i ∧ h.IsListIter i3 c i
def iZip3 (K : PySem.W.Frag) (ta : TA) : TI := fun σ H R => ta σ H fun vs H1 => ∃ a b c xs ys zs, vs = [.ref a, .ref b, .ref c] ∧ SqL K H1 a xs ∧ SqT K H1 b ys ∧ SqL K H1 c zs ∧ R (Itz3 K a b c) H1
def zipL3 {α β γ : Type} : List α → List β → List γ → List (T3 α β γ)
  | x :: xs, y :: ys, z :: zs => ⟨x, y, z⟩ :: zipL3 xs ys zs
  | _, _, _ => []
section
variable {X : Cx} {K : PySem.W.Frag} {a b c : Expr} {σ : L2.St} {F H : Hp} {pos : Pos}
end
end Gx
namespace Gx
open PySem PySem.Spec PyProof.Rows L2
open Rp (rp)
open Ra (ra)
open Ob (ob)
inductive Sm (α β : Type) where
  | l (x : α)
  | r (y : β)
  deriving DecidableEq
def Sm.asl {α β : Type} : Sm α β → Option α
  | .l x => some x
  | .r _ => none
def Sm.asr {α β : Type} : Sm α β → Option β
  | .l _ => none
  | .r y => some y
section
variable {α β : Type} [Rp α] [Rp β]
def rpSm (K : PySem.W.Frag) (F : Hp) (v : V) : Sm α β → Prop
  | .l x => rp K F v x
  | .r y => rp K F v y
instance : Rp (Sm α β) := ⟨rpSm, fun {K F F' v x} s h => by
  cases x with
  | l x => exact Rp.mono (α := α) s h
  | r y => exact Rp.mono (α := β) s h⟩
instance [NN α] [NN β] : NN (Sm α β) := ⟨fun {K F x} h => by
  cases x with
  | l x => exact NN.nn (α := α) h
  | r y => exact NN.nn (α := β) h⟩
instance [FlatD α] [FlatD β] : FlatD (Sm α β) := ⟨fun {K F l v x} h1 h => by
  cases x with
  | l x => exact FlatD.fl (α := α) h1 h
  | r y => exact FlatD.fl (α := β) h1 h⟩
variable {X : Cx} {e : Expr} {σ : L2.St} {F H : Hp}
def smAll {κ : Type} : List (κ × Sm α β) → Option (List (κ × β))
  | [] => some []
  | p :: l => match p.2 with
    | .r y => (smAll l).map ((p.1, y) :: ·)
    | .l _ => none
def Dct.allr {κ : Type} (m : Dct κ (Sm α β)) : Option (Dct κ β) := (smAll m.l).map Dct.mk
end
theorem kt_vals {H : Hp} : ∀ {kvs : List (List Key × V)} {xs : List (List Key × Addr × Value)}, KT H kvs xs → Vals (kvs.map (·.2)) (xs.map (·.2.2))
  | _, _, .nil => .nil
  | _, _, .cons h t => .cons h.2.2 (kt_vals t)
def tListValsT (te : TE) : TE := fun σ H Q => te σ H fun x H1 => ∃ d kvs, x = .ref d ∧ Rd H1 d (.dT kvs) ∧ ∀ p, H1 p = none → Q (.ref p) (upd H1 p (.lst (kvs.map (·.2))))
theorem pe_listValsT {X : Cx} {e : Expr} {pos : Pos} {te : TE} {p apos cpos : Pos} (hc : X.calm = true) (he : PE X e te) (hg : Gl X "list") (hm : X.mg "list" = none) (hv : bootBuiltins "list" = some (.type "list")) (hbase : attributeBase e "values" X.env (eval e X.env) = eval e X.env := by rfl) (hline : (apos.endLine == cpos.line) = true := by rfl)
    (hs : starEach [.Call (.Attribute e "values" apos) [] [] cpos] X.env = (false, eval (.Call (.Attribute e "values" apos) [] [] cpos) X.env) :: starEach [] X.env := by rfl) :
    PE X (.Call (.Name "list" p) [.Call (.Attribute e "values" apos) [] [] cpos] [] pos) (tListValsT te) := by
  refine ⟨fun pins s σ H Q I hq => ?_⟩
  refine wpAny_Call_Name_kw (ld_blt I hg hm hv ?_)
  refine PyProof.Rows.callWith_type1 ?_ hs rfl
  rw [hs]
  show wpAny _ _ (spliced ((false, eval (.Call (.Attribute e "values" apos) [] [] cpos) X.env) :: backTo pos (starEach [] X.env))) _ _ s
  refine Calls.spliced_cons ?_
  refine wpAny_Call_method (T := "dict") (id := "dict.values") hbase rfl hline F.plainAttrs_dict F.slot_dict_values F.type_dict_values (thn (he.run pins s σ H _ I hq) fun u s1 ⟨x, H1, I1, rx, d, kvs, ex, hd, q⟩ => ?_)
  subst ex
  obtain rfl : u = Value.ref d := rx
  obtain ⟨hz, hs0, xs, kt, o, es, ep, ho, hx, hdt, hes, _⟩ := dt_rd I1.hok hd
  have raw : s1.heap.DictRaw d es ep := ⟨o, ho, hx, hdt⟩
  have lk : kvs.length = xs.length := Paired.length kt
  have le : es.size = xs.length := size_of_entries hes
  have I2 : Inv X pins σ H1 { s1 with heap := s1.heap.push { cls := .type "dict_values", data := .fields #[.ref d] } } := I1.kept (t' := s1.toks) fun b ob q => Heap.get?_push_of_some _ q
  refine ⟨raw.typeIs, fun a ea => by cases ea; exact ⟨o, ho, hx.2.1⟩, ?_⟩
  show wpAny _ _ (callWith cpos (.builtin "dict.values") [.ref d] [] []) _ X.xe s1
  refine method_meetsIn F.slot_dict_values F.entry_dict_values rfl (PySem.evalArgs_none ⟨rfl, raw.typeIs, F.args_dict_values_1 _, _, meets_dict_values_raw d hs0, ?_⟩)
  refine ⟨⟨es, ep, raw⟩, ?_⟩
  refine Calls.spliced_nil ?_
  refine PySem.W.kdl_call (KdlSrc.rawValues (es := es) (ep := ep)) (I1.ok.hd hc) ⟨⟨_, Heap.get?_push_size _ rfl, rfl, rfl⟩, raw.at fun o q => Heap.get?_push_of_some _ q⟩ (by omega) fun h' tk acc c' hk hD hacc => ?_
  have ev : acc.toList = xs.map (·.2.2) := by
    refine List.ext_getElem? fun j => ?_
    rw [Array.getElem?_toList]
    rcases Nat.lt_or_ge j es.size with hj | hj
    · obtain ⟨v, hv'⟩ : ∃ v, acc[j]? = some v := ⟨_, Array.getElem?_eq_getElem (by rw [hacc.1]; exact hj)⟩
      obtain ⟨hi, rfl⟩ := hacc.2 j v hv'
      have q := entry_at hes j
      rw [hv', List.getElem?_map]
      rw [Array.getElem?_eq_getElem hi] at q
      cases hxj : xs[j]? with
      | none => rw [hxj] at q; cases q
      | some x =>
        rw [hxj] at q
        rw [Option.some.inj q]; rfl
    · rw [Array.getElem?_eq_none (by rw [hacc.1]; exact hj), List.getElem?_eq_none (by rw [List.length_map]; omega)]
  refine ⟨.ref _, _, I2.laid (t' := tk) hk (Nat.le_refl _) (show ObjOk X.prog X.w _ _ _ (.lst (kvs.map (·.2))) from ⟨by rw [List.length_map]; exact hz, acc.toList, c', by rw [ev]; exact kt_vals kt, by rw [Array.toArray_toList]; exact hD⟩), rfl, q _ (I2.hok.fresh (Nat.le_refl _))⟩
section
variable {X : Cx} {a e : Expr} {σ : L2.St} {F H : Hp} {pos : Pos} {κ ν : Type} [Rp κ] [DecidableEq κ] [KeyT κ] [Rp ν]
theorem en_listValsT {m : Dct κ ν} {p apos cpos : Pos} (hm : X.mg "list" = none) (ha : Ev X a σ F H m) (hc : X.calm = true := by rfl) (hg : Gl X "list" := by rfl) (hbase : attributeBase a "values" X.env (eval a X.env) = eval a X.env := by rfl) (hline : (apos.endLine == cpos.line) = true := by rfl)
    (hs : starEach [.Call (.Attribute a "values" apos) [] [] cpos] X.env = (false, eval (.Call (.Attribute a "values" apos) [] [] cpos) X.env) :: starEach [] X.env := by rfl) : EvN X (.Call (.Name "list" p) [.Call (.Attribute a "values" apos) [] [] cpos] [] pos) σ F H m.vals := fun F1 H1 g Q q =>
  GoE.of (pe_listValsT hc pe_go hg hm (by decide +kernel) hbase hline hs) (ha F1 H1 g _ fun v F2 H2 g2 r2 => by
    obtain ⟨p, o, kvs, e, hq, kr⟩ := r2
    refine ⟨p, _, e, .inr ⟨o, g2.fh _ _ hq⟩, fun l hl => ?_⟩
    have ek : (kvm KeyT.g kvs).map (·.2) = kvs.map (·.2) := by unfold kvm; rw [List.map_map]; rfl
    rw [ek]
    exact EvN.new q g2 hl kr.vals)
end
end Gx
namespace Gx
open PySem PySem.Spec PyProof.Rows L2
open Rp (rp)
open Ra (ra)
open Ob (ob)
section
variable {prog : Program} {w : World} {A : Around} {E : Value → Shared → Prop} {s : Shared} {r d : Addr} {es : Array DictEntry} {ep : Nat}
end
def ftup (F H : Hp) : Hp := fun b => match H b with
  | some (.tup xs) => some (.tup xs)
  | _ => F b
theorem ftup_tup {F H : Hp} {b : Addr} {xs : List V} (h : H b = some (.tup xs)) : ftup F H b = some (.tup xs) := by unfold ftup; rw [h]
theorem ftup_no {F H : Hp} {b : Addr} {o : HO} (h : H b = some o) (no : lstish o) : ftup F H b = F b := by
  unfold ftup; rw [h]
  cases o <;> first | rfl | exact no.elim
theorem Gr.tups {F H H' : Hp} (s : L2.Same F H) (k : L2.Same H H') : Gr F H (ftup F H') H' := by
  have ft : ∀ b o, ftup F H' b = some o → H' b = some o := fun b o e => by
    unfold ftup at e
    split at e
    · rename_i xs h; rw [h]; exact e
    · exact k _ _ (s _ _ e)
  refine ⟨fun b o e => ?_, ft, .same k, fun a o h n => ftup_no (k _ _ h) n⟩
  unfold ftup
  split
  · rename_i xs h
    have := k _ _ (s _ _ e)
    rw [h] at this; exact this
  · exact e
def tListItemsT (te : TE) : TE := fun σ H Q => te σ H fun x H1 => ∃ d kvs, x = .ref d ∧ Rd H1 d (.dT kvs) ∧ ∀ H' p ts, L2.Same H1 H' → H1 p = none → H' p = some (.lst (ts.map V.ref)) →
  Paired (fun (t : Addr) (q : List Key × V) => ∃ key, H' t = some (.tup [.ref key, q.2]) ∧ H' key = some (.tup (q.1.map kV))) ts kvs → Q (.ref p) H'
section
variable {X : Cx} {a e : Expr} {σ : L2.St} {F H : Hp} {pos : Pos} {κ ν : Type} [Rp κ] [DecidableEq κ] [KeyT κ] [Rp ν]
end
end Gx
namespace Gx
open PySem PySem.Spec PyProof.Rows L2
open Rp (rp)
open Ra (ra)
open Ob (ob)
section
variable {prog : Program} {w : World} {A : Around} {E : Value → Shared → Prop} {s : Shared}
end
set_option maxHeartbeats 4000000 in
def ItekT (d : Addr) (o : Obj) (kvs : List (List Key × V)) : It :=
  ⟨fun i H => H d = some (.frz o (.dT kvs)) ∧ i < kvs.length, fun i H x H' => ∃ T k v q, kvs[i]? = some (k, v) ∧ x = .ref T ∧ H T = none ∧ H' = upd H T (.tup [.int (i : Nat), .ref q]) ∧ H q = some (.tup (k.map kV)), fun i H => H d = some (.frz o (.dT kvs)) ∧ i = kvs.length⟩
def iEnumD (ta : TA) : TI := fun σ H R => ta σ H fun vs H1 => ∃ d o kvs, vs = [.ref d] ∧ H1 d = some (.frz o (.dT kvs)) ∧ R (ItekT d o kvs) H1
section
variable {X : Cx} {a e : Expr} {σ : L2.St} {F H : Hp} {pos : Pos} {κ ν : Type} [Rp κ] [DecidableEq κ] [KeyT κ] [Rp ν]
end
end Gx
namespace Gx
open PySem PySem.Spec PyProof.Rows L2
open Rp (rp)
open Ra (ra)
open Ob (ob)
structure T8 (α β γ δ ε ζ η θ : Type) where
  a : α
  b : β
  c : γ
  d : δ
  e : ε
  f : ζ
  g : η
  h : θ
  deriving DecidableEq
section
variable {α β γ δ ε ζ η θ : Type}
abbrev T8.row (x : T8 α β γ δ ε ζ η θ) : α × β × γ × δ × ε × ζ × η × θ × Unit := (x.a, x.b, x.c, x.d, x.e, x.f, x.g, x.h, ())
variable [Rp α] [Rp β] [Rp γ] [Rp δ] [Rp ε] [Rp ζ] [Rp η] [Rp θ]
instance : Rp (T8 α β γ δ ε ζ η θ) := ⟨rpT T8.row, rpT.mono⟩
instance : NN (T8 α β γ δ ε ζ η θ) := ⟨rpT.nn⟩
instance : Tup (T8 α β γ δ ε ζ η θ) (α × β × γ × δ × ε × ζ × η × θ × Unit) := ⟨T8.row, Iff.rfl⟩
instance [Flat α] [Flat β] [Flat γ] [Flat δ] [Flat ε] [Flat ζ] [Flat η] [Flat θ] : Flat (T8 α β γ δ ε ζ η θ) := ⟨rpT.fl⟩
instance [FlatD α] [FlatD β] [FlatD γ] [FlatD δ] [FlatD ε] [FlatD ζ] [FlatD η] [FlatD θ] : FlatD (T8 α β γ δ ε ζ η θ) := ⟨rpT.fd⟩
instance : Kd (T8 α β γ δ ε ζ η θ) := ⟨"tuple", rpT.kd⟩
instance [Pd α] [Pd β] [Pd γ] [Pd δ] [Pd ε] [Pd ζ] [Pd η] [Pd θ] : Pd (T8 α β γ δ ε ζ η θ) := ⟨fun x => .tuple (PdR.toR x.row), rpT.dp, rowEq fun x y => by cases x; cases y; simp [T8.row]⟩
instance [Pd α] [Pd β] [Pd γ] [Pd δ] [Pd ε] [Pd ζ] [Pd η] [Pd θ] [PdS α] [PdS β] [PdS γ] [PdS δ] [PdS ε] [PdS ζ] [PdS η] [PdS θ] : PdS (T8 α β γ δ ε ζ η θ) := ⟨PdRS.dep (α × β × γ × δ × ε × ζ × η × θ × Unit) + 1, fun x => Nat.succ_le_succ (PdRS.de x.row)⟩
instance [Pd α] [Pd β] [Pd γ] [Pd δ] [Pd ε] [Pd ζ] [Pd η] [Pd θ] [PdF α] [PdF β] [PdF γ] [PdF δ] [PdF ε] [PdF ζ] [PdF η] [PdF θ] : PdF (T8 α β γ δ ε ζ η θ) := ⟨fun x => PdRF.ok x.row⟩
instance [Pd α] [Pd β] [Pd γ] [Pd δ] [Pd ε] [Pd ζ] [Pd η] [Pd θ] [PdL α] [PdL β] [PdL γ] [PdL δ] [PdL ε] [PdL ζ] [PdL η] [PdL θ] : PdL (T8 α β γ δ ε ζ η θ) := ⟨fun x => PdRL.tx x.row, fun h => PdRL.ok h⟩
end
section
variable {X : Cx} {K : PySem.W.Frag} {e a b c d : Expr} {es : List Expr} {σ : L2.St} {F H F0 H0 : Hp} {pos : Pos}
def RC {τ1 τ2 τ3 : Type} [Ra τ1] [Ra τ2] [Ra τ3] (x : τ1) (y : τ2) (z : τ3) : Prop := ∀ (K : PySem.W.Frag) (F : Hp) (vs ws : List V), ra K F vs x → ra K F ws y → ra K F (vs ++ ws) z
structure H4 (α β γ δ : Type) where
  a : α
  b : β
  c : γ
  d : δ
  deriving DecidableEq
section
variable {α β γ δ : Type}
abbrev H4.row (x : H4 α β γ δ) : α × β × γ × δ × Unit := (x.a, x.b, x.c, x.d, ())
variable [Rp α] [Rp β] [Rp γ] [Rp δ]
instance : Rp (H4 α β γ δ) := ⟨fun K F v x => ∃ a vs, v = .ref a ∧ SqL K F a vs ∧ ra K F vs x.row, fun s ⟨a, vs, e, q, r⟩ => ⟨a, vs, e, s.seq q, Ra.mono s r⟩⟩
instance : NN (H4 α β γ δ) := ⟨fun ⟨_, _, e, _⟩ => nomatch e⟩
instance : Ob (H4 α β γ δ) := ⟨fun K F o x => ∃ vs, o = .lst vs ∧ ra K F vs x.row, fun s ⟨vs, e, r⟩ => ⟨vs, e, Ra.mono s r⟩, fun ⟨vs, e, r⟩ => e ▸ trivial, fun ⟨vs, e, r⟩ => e ▸ trivial,
  fun {K F o x l od} h ⟨vs, e, r⟩ => ⟨l, vs, rfl, .inl (.inr ⟨od, e ▸ h⟩), r⟩⟩
end
def tTupN (t : TA) : TE := fun σ H Q => t σ H fun xs H1 => xs.length ≤ sizeLine ∧ ∀ l o, H1 l = none → o.dict = none → o.cls = .type "tuple" → Q (.ref l) (upd H1 l (.frz o (.tup xs)))
def RzT (X : Cx) (e : Expr) (σ : L2.St) (F H : Hp) : Prop := ∀ F1 H1, GrX X.K F H F1 H1 → ∀ Q : Bool → Hp → Prop, GoT X e σ H1 Q
end
end Gx
namespace Gx
open PySem PySem.Spec PyProof.Rows L2
open Rp (rp)
open Ra (ra)
open Ob (ob)
section
variable {X : Cx} {K : PySem.W.Frag} {F H : Hp} {σ : L2.St} {a b : Expr} {pos : Pos}
end
end Gx
namespace Gx
open PySem PySem.Spec PyProof.Rows L2
open Rp (rp)
open Ra (ra)
open Ob (ob)
structure Pv (β : Type) where
  v : β
def Thw (K : PySem.W.Frag) (H0 : Hp) (J : Hp → Hp → Prop) : Prop := ∀ {γ : Type} [Rp γ] [Ob γ] {y : γ} {F H : Hp} {l : Addr}, Own K H0 F H l y → L2.Same F H → (∀ F' H', L2.Same F F' → L2.Same F' H' → rp K F' (.ref l) y → (∀ a, a ≠ l → F' a = F a ∧ H' a = H a) → J F' H') → J F H
def PlL (H : Hp) (l : Addr) : Prop := ∃ o, H l = some o ∧ lstish o ∧ pln o
theorem PlL.pl {H : Hp} {l : Addr} (h : PlL H l) : PlAt H l := let ⟨o, e, _, p⟩ := h; ⟨o, e, p⟩
theorem Own.pll {α : Type} [Rp α] [Ob α] {K : PySem.W.Frag} {H0 F H : Hp} {x : α} {l : Addr} (o : Own K H0 F H l x) : PlL H l := by
  obtain ⟨u, h, r⟩ := o.h
  exact ⟨u, h, Ob.ls r, Ob.pl r⟩
class Rw (τ : Type) (φ : outParam Type) [Ra φ] where
  rw : PySem.W.Frag → Hp → Hp → Hp → List Addr → List V → τ → Prop
  fz : τ → φ
  map : ∀ {K : PySem.W.Frag} {H0 F H H0' F' H' : Hp} {fp : List Addr} {vs : List V} {x : τ}, L2.Same F F' → (∀ {β : Type} [Rp β] [Ob β] {y : β} {a : Addr}, a ∈ fp → Own K H0 F H a y → Own K H0' F' H' a y) → rw K H0 F H fp vs x → rw K H0' F' H' fp vs x
  th : ∀ {K : PySem.W.Frag} {H0 : Hp} {J : Hp → Hp → Prop}, Thw K H0 J → ∀ {F H : Hp} {fp : List Addr} {vs : List V} {x : τ}, rw K H0 F H fp vs x → fp.Nodup → L2.Same F H → (∀ F' H', L2.Same F F' → L2.Same F' H' → ra K F' vs (fz x) → (∀ a, a ∉ fp → F' a = F a ∧ H' a = H a) → J F' H') → J F H
  ne : ∀ {K : PySem.W.Frag} {H0 F H : Hp} {fp : List Addr} {vs : List V} {x : τ}, rw K H0 F H fp vs x → ∀ a ∈ fp, H0 a = none ∧ F a = none ∧ PlL H a
instance : Rw Unit Unit := ⟨fun _ _ _ _ fp vs _ => fp = [] ∧ vs = [], id, fun _ _ h => h, fun T F H fp vs x h _ s k => by
  obtain ⟨e1, e2⟩ := h
  subst e1; subst e2
  exact k F H (.refl _) s rfl fun _ _ => ⟨rfl, rfl⟩, fun ⟨e, _⟩ a h => by rw [e] at h; cases h⟩
instance {α τ φ : Type} [Rp α] [Ra φ] [Rw τ φ] : Rw (α × τ) (α × φ) := ⟨fun K H0 F H fp vs x => ∃ v r, vs = v :: r ∧ rp K F v x.1 ∧ Rw.rw K H0 F H fp r x.2, fun x => (x.1, Rw.fz x.2),
  fun s m ⟨v, r, e, p, q⟩ => ⟨v, r, e, Rp.mono s p, Rw.map s m q⟩,
  fun T F H fp vs x h nd s k => by
    obtain ⟨v, r, e, p, q⟩ := h
    refine Rw.th T q nd s fun F' H' s1 s2 r' kk => k F' H' s1 s2 ⟨v, r, e, Rp.mono s1 p, r'⟩ kk,
  fun ⟨v, r, e, p, q⟩ => Rw.ne q⟩
instance {β τ φ : Type} [Rp β] [Ob β] [Ra φ] [Rw τ φ] : Rw (Pv β × τ) (β × φ) := ⟨fun K H0 F H fp vs x => ∃ p q r, fp = p :: q ∧ vs = .ref p :: r ∧ Own K H0 F H p x.1.v ∧ Rw.rw K H0 F H q r x.2, fun x => (x.1.v, Rw.fz x.2),
  fun s m ⟨p, q, r, e1, e2, o, w⟩ => ⟨p, q, r, e1, e2, m (by rw [e1]; exact List.mem_cons_self) o, Rw.map s (fun h o => m (by rw [e1]; exact List.mem_cons_of_mem _ h) o) w⟩,
  fun {K H0 J} T F H fp vs x h nd s k => by
    obtain ⟨p, q, r, e1, e2, o, w⟩ := h
    subst e1; subst e2
    obtain ⟨np, nd⟩ := List.nodup_cons.mp nd
    refine T o s fun F1 H1 s1 s2 r1 k1 => ?_
    refine Rw.th T (H0 := H0) (x := x.2) (vs := r) (fp := q) (Rw.map s1 (fun {β} _ _ {y a} ha o => o.keepF (fun z => np (by rw [← z]; exact ha)) s1 k1) w) nd s2 fun F2 H2 s3 s4 r2 k2 => ?_
    refine k F2 H2 (s1.trans s3) s4 ⟨.ref p, r, rfl, Rp.mono s3 r1, r2⟩ fun b hb => ?_
    have h1 := k1 b fun e => hb (e ▸ List.mem_cons_self)
    have h2 := k2 b fun m => hb (List.mem_cons_of_mem _ m)
    exact ⟨h2.1.trans h1.1, h2.2.trans h1.2⟩,
  fun ⟨p, q, r, e1, e2, o, w⟩ a h => by
    rw [e1] at h
    rcases List.mem_cons.mp h with e | m
    · subst e; exact ⟨o.n, o.f, o.pll⟩
    · exact Rw.ne w a m⟩
section
variable {X : Cx} {K : PySem.W.Frag} {e a b c d : Expr} {es : List Expr} {σ : L2.St} {F H F0 H0 : Hp} {pos : Pos} {D : Ends} {st : Stmt} {rest body : List Stmt} {τ φ : Type} [Ra φ] [Rw τ φ] {cn : Str} {ns : List Str} {x : τ} {l : Addr} {fp ex : List Addr}
structure OwnR (cn : Str) (ns : List Str) (K : PySem.W.Frag) (H0 F H : Hp) (l : Addr) (fp ex : List Addr) (x : τ) : Prop where
  n : H0 l = none
  f : F l = none
  w : ∃ dx vs, H l = some (.ins (He.ga K cn) dx (ns.zip vs)) ∧ ns.length = vs.length ∧ Rw.rw K H0 F H fp vs x
  nd : (l :: fp).Nodup
  ex : ∀ b ∈ ex, b ∉ l :: fp
theorem OwnR.mapA {H0' F' H' : Hp} {ex' : List Addr} (o : OwnR cn ns K H0 F H l fp ex x) (n : H0' l = none) (f : F' l = none) (h : H' l = H l) (s : L2.Same F F') (m : ∀ {β : Type} [Rp β] [Ob β] {y : β} {a : Addr}, a ∈ fp → Own K H0 F H a y → Own K H0' F' H' a y) (he : ∀ b ∈ ex', b ∉ l :: fp) : OwnR cn ns K H0' F' H' l fp ex' x := by
  obtain ⟨dx, vs, e, z, w⟩ := o.w
  exact ⟨n, f, ⟨dx, vs, h.trans e, z, Rw.map s m w⟩, o.nd, he⟩
theorem OwnR.up {F' H' : Hp} (o : OwnR cn ns K H0 F H l fp ex x) (g : Gr F H F' H') : OwnR cn ns K H0 F' H' l fp ex x := by
  obtain ⟨dx, vs, e, z, w⟩ := o.w
  exact ⟨o.n, (g.fr l _ e trivial).trans o.f, ⟨dx, vs, g.hh.k _ _ e trivial, z, Rw.map g.ff (fun _ o => o.up g) w⟩, o.nd, o.ex⟩
theorem OwnR.plA (o : OwnR cn ns K H0 F H l fp ex x) : ∀ a ∈ l :: fp, H0 a = none ∧ F a = none ∧ PlL H a := fun a ha => by
  obtain ⟨dx, vs, e, z, w⟩ := o.w
  rcases List.mem_cons.mp ha with m | m
  · subst m; exact ⟨o.n, o.f, _, e, trivial, trivial⟩
  · exact Rw.ne w a m
theorem OwnR.ne0 (o : OwnR cn ns K H0 F H l fp ex x) {p : Addr} (h : p ∈ l :: fp) : H p ≠ none := by
  obtain ⟨_, _, u, e, _⟩ := o.plA p h
  rw [e]; exact fun z => nomatch z
theorem OwnR.other {u : HO} {b : Addr} (o : OwnR cn ns K H0 F H l fp ex x) (h : b ∈ ex) : OwnR cn ns K H0 F (upd H b u) l fp ex x := by
  have hb := o.ex b h
  exact o.mapA o.n o.f (upd_ne fun e => hb (e ▸ List.mem_cons_self)) (.refl _) (fun m p => p.other fun z => hb (by rw [← z]; exact List.mem_cons_of_mem _ m)) o.ex
theorem OwnR.keepF {F' H' : Hp} {b : Addr} (o : OwnR cn ns K H0 F H l fp ex x) (h : b ∈ ex) (s : L2.Same F F') (k : ∀ a, a ≠ b → F' a = F a ∧ H' a = H a) : OwnR cn ns K H0 F' H' l fp ex x := by
  have hb := o.ex b h
  have hl := k l fun e => hb (e ▸ List.mem_cons_self)
  exact o.mapA o.n (hl.1.trans o.f) hl.2 s (fun m p => p.keepF (fun z => hb (by rw [← z]; exact List.mem_cons_of_mem _ m)) s k) o.ex
theorem OwnR.over {F' H' : Hp} {b : Addr} (o : OwnR cn ns K H0 F H l fp ex x) (h : b ∈ ex) (g : Gr F (er H b) F' H') : OwnR cn ns K H0 F' H' l fp ex x := by
  have hb := o.ex b h
  have hl : l ≠ b := fun e => hb (e ▸ List.mem_cons_self)
  obtain ⟨dx, vs, e, z, w⟩ := o.w
  have e2 : er H b l = some (.ins (He.ga K cn) dx (ns.zip vs)) := by rw [er_ne hl]; exact e
  exact o.mapA o.n ((g.fr l _ e2 trivial).trans o.f) ((g.hh.k _ _ e2 trivial).trans e.symm) g.ff (fun m p => p.over (fun z => hb (by rw [← z]; exact List.mem_cons_of_mem _ m)) g) o.ex
theorem OwnR.ext {p : Addr} (o : OwnR cn ns K H0 F H l fp ex x) (h : H p = none) : OwnR cn ns K H0 F H l fp (p :: ex) x := ⟨o.n, o.f, o.w, o.nd, fun b hb => by
  rcases List.mem_cons.mp hb with e | e
  · subst e; exact fun m => o.ne0 m h
  · exact o.ex b e⟩
theorem OwnR.exO {p : Addr} (o : OwnR cn ns K H0 F H l fp ex x) (h : H0 p ≠ none) : OwnR cn ns K H0 F H l fp (p :: ex) x := ⟨o.n, o.f, o.w, o.nd, fun b hb => by
  rcases List.mem_cons.mp hb with e | e
  · subst e; exact fun m => h (o.plA b m).1
  · exact o.ex b e⟩
theorem OwnR.base {H1 : Hp} (o : OwnR cn ns K H1 F H l fp ex x) (h : ∀ p, H1 p = none → H0 p = none) : OwnR cn ns K H0 F H l fp ex x := o.mapA (h l o.n) o.f rfl (.refl _) (fun _ p => p.base h) o.ex
theorem OwnR.cg {y : τ} (e : x = y) (o : OwnR cn ns K H0 F H l fp ex x) : OwnR cn ns K H0 F H l fp ex y := e ▸ o
def ThI (K : PySem.W.Frag) (J : Hp → Hp → Prop) : Prop := ∀ {F H : Hp} {l C dx : Addr} {fs : List (Str × V)}, H l = some (.ins C dx fs) → F l = none → L2.Same F H → (L2.Same F (upd F l (.ins C dx fs)) → L2.Same (upd F l (.ins C dx fs)) H → J (upd F l (.ins C dx fs)) H) → J F H
theorem thaw_R {J : Hp → Hp → Prop} (T : Thw K H0 J) (TI : ThI K J) (o : OwnR cn ns K H0 F H l fp ex x) (s : L2.Same F H) (k : ∀ F' H', L2.Same F F' → L2.Same F' H' → rpI cn ns K F' (.ref l) (Rw.fz x) → (∀ a ∈ ex, F' a = F a ∧ H' a = H a) → J F' H') : J F H := by
  obtain ⟨dx, vs, e, z, w⟩ := o.w
  obtain ⟨nl, nd⟩ := List.nodup_cons.mp o.nd
  refine Rw.th T w nd s fun F1 H1 s1 s2 r1 k1 => ?_
  have kl := k1 l nl
  refine TI (kl.2.trans e) (kl.1.trans o.f) s2 fun s3 s4 => k _ H1 (s1.trans s3) s4 ⟨l, dx, vs, rfl, upd_same, Ra.mono s3 r1⟩ fun b hb => ?_
  have hb := o.ex b hb
  have h1 := k1 b fun m => hb (List.mem_cons_of_mem _ m)
  have bl : b ≠ l := fun z => hb (by rw [z]; exact List.mem_cons_self)
  exact ⟨by rw [upd_ne bl]; exact h1.1, h1.2⟩
theorem upd_id {H : Hp} {l : Addr} {o : HO} (h : H l = some o) : upd H l o = H := by
  funext b
  by_cases hb : b = l
  · rw [hb, upd_same, h]
  · rw [upd_ne hb]
theorem same_in {F H : Hp} {l : Addr} {o : HO} (s : L2.Same F H) (h : H l = some o) : L2.Same (upd F l o) H := fun b u e => by
  by_cases hb : b = l
  · subst hb; rw [upd_same] at e; rw [← e]; exact h
  · rw [upd_ne hb] at e; exact s _ _ e
theorem ev_thawI {α : Type} [Rp α] [Flat α] {z : α} : ThI X.K fun F H => Ev X e σ F H z := fun {F H l C dx fs} hl fl s k F1 H1 g Q q => by
  have kk := k (same_upd fl) (same_in s hl)
  obtain ⟨g1, f1, h1⟩ := GrX.show_ (u := .ins C dx fs) hl fl trivial trivial g
  rw [upd_id hl, upd_id h1] at g1
  refine kk _ _ g1 _ fun v F2 H2 g2 r2 => ?_
  have e2 : F2 l = some (.ins C dx fs) := g2.ff _ _ upd_same
  have h2 : H2 l = some (.ins C dx fs) := g2.fh _ _ e2
  have g3 : Gr (upd F1 l (.ins C dx fs)) (upd H1 l (.ins C dx fs)) F2 H2 := by rw [upd_id h1]; exact g2
  have g4 := Gr.hide h1 f1 trivial g3
  rw [upd_id h2] at g4
  exact q v _ _ g4 (Flat.fl (fun xs h => by rw [e2] at h; cases h) (fun o xs h => by rw [e2] at h; cases h) r2)
theorem et_thawI {z : Bool} : ThI X.K fun F H => EvT X e σ F H z := fun {F H l C dx fs} hl fl s k F1 H1 g Q q => by
  have kk := k (same_upd fl) (same_in s hl)
  obtain ⟨g1, f1, h1⟩ := GrX.show_ (u := .ins C dx fs) hl fl trivial trivial g
  rw [upd_id hl, upd_id h1] at g1
  refine kk _ _ g1 _ fun F2 H2 g2 => ?_
  have e2 : F2 l = some (.ins C dx fs) := g2.ff _ _ upd_same
  have h2 : H2 l = some (.ins C dx fs) := g2.fh _ _ e2
  have g3 : Gr (upd F1 l (.ins C dx fs)) (upd H1 l (.ins C dx fs)) F2 H2 := by rw [upd_id h1]; exact g2
  have g4 := Gr.hide h1 f1 trivial g3
  rw [upd_id h2] at g4
  exact q _ _ g4
theorem ev_thawR {α : Type} [Rp α] [Flat α] {z : α} (o : OwnR cn ns X.K H0 F H l fp ex x) (s : L2.Same F H) (h : ∀ F' H', L2.Same F F' → L2.Same F' H' → rpI cn ns X.K F' (.ref l) (Rw.fz x) → (∀ a ∈ ex, F' a = F a ∧ H' a = H a) → Ev X e σ F' H' z) : Ev X e σ F H z := thaw_R (J := fun F H => Ev X e σ F H z) (fun o s k => ev_thaw o s k) ev_thawI o s h
theorem et_thawR {z : Bool} (o : OwnR cn ns X.K H0 F H l fp ex x) (s : L2.Same F H) (h : ∀ F' H', L2.Same F F' → L2.Same F' H' → rpI cn ns X.K F' (.ref l) (Rw.fz x) → (∀ a ∈ ex, F' a = F a ∧ H' a = H a) → EvT X e σ F' H' z) : EvT X e σ F H z := thaw_R (J := fun F H => EvT X e σ F H z) (fun o s k => et_thaw o s k) et_thawI o s h
end
section
variable {X : Cx} {K : PySem.W.Frag} {e a b c d : Expr} {es : List Expr} {σ : L2.St} {F H F0 H0 : Hp} {pos : Pos} {D : Ends} {st : Stmt} {rest body : List Stmt} {τ φ : Type} [Ra φ] [Rw τ φ] {cn : Str} {ns : List Str} {x : τ} {l : Addr} {ex : List Addr}
structure OwR (cn : Str) (ns : List Str) (K : PySem.W.Frag) (H0 F H : Hp) (l : Addr) (ex : List Addr) (x : τ) : Prop where
  o : ∃ fp, OwnR cn ns K H0 F H l fp ex x
theorem OwR.cg {y : τ} (e : x = y) (o : OwR cn ns K H0 F H l ex x) : OwR cn ns K H0 F H l ex y := e ▸ o
theorem OwR.up {F' H' : Hp} (o : OwR cn ns K H0 F H l ex x) (g : Gr F H F' H') : OwR cn ns K H0 F' H' l ex x := let ⟨fp, o⟩ := o.o; ⟨fp, o.up g⟩
theorem OwR.n (o : OwR cn ns K H0 F H l ex x) : H0 l = none := let ⟨_, o⟩ := o.o; o.n
theorem OwR.ne0 (o : OwR cn ns K H0 F H l ex x) : H l ≠ none := let ⟨_, o⟩ := o.o; o.ne0 List.mem_cons_self
theorem OwR.other {u : HO} {b : Addr} (o : OwR cn ns K H0 F H l ex x) (h : b ∈ ex) : OwR cn ns K H0 F (upd H b u) l ex x := let ⟨fp, o⟩ := o.o; ⟨fp, o.other h⟩
theorem OwR.keepF {F' H' : Hp} {b : Addr} (o : OwR cn ns K H0 F H l ex x) (h : b ∈ ex) (s : L2.Same F F') (k : ∀ a, a ≠ b → F' a = F a ∧ H' a = H a) : OwR cn ns K H0 F' H' l ex x := let ⟨fp, o⟩ := o.o; ⟨fp, o.keepF h s k⟩
theorem OwR.over {F' H' : Hp} {b : Addr} (o : OwR cn ns K H0 F H l ex x) (h : b ∈ ex) (g : Gr F (er H b) F' H') : OwR cn ns K H0 F' H' l ex x := let ⟨fp, o⟩ := o.o; ⟨fp, o.over h g⟩
theorem OwR.ext {p : Addr} (o : OwR cn ns K H0 F H l ex x) (h : H p = none) : OwR cn ns K H0 F H l (p :: ex) x := let ⟨fp, o⟩ := o.o; ⟨fp, o.ext h⟩
theorem OwR.exO {p : Addr} (o : OwR cn ns K H0 F H l ex x) (h : H0 p ≠ none) : OwR cn ns K H0 F H l (p :: ex) x := let ⟨fp, o⟩ := o.o; ⟨fp, o.exO h⟩
theorem OwR.base {H1 : Hp} (o : OwR cn ns K H1 F H l ex x) (h : ∀ p, H1 p = none → H0 p = none) : OwR cn ns K H0 F H l ex x := let ⟨fp, o⟩ := o.o; ⟨fp, o.base h⟩
theorem OwR.nil (o : OwR cn ns K H0 F H l ex x) : OwR cn ns K H0 F H l [] x := let ⟨fp, o⟩ := o.o; ⟨fp, ⟨o.n, o.f, o.w, o.nd, fun b h => nomatch h⟩⟩
theorem ev_thawRc {α : Type} [Rp α] [Flat α] {z : α} (o : OwR cn ns X.K H0 F H l ex x) (s : L2.Same F H) (h : ∀ F' H', L2.Same F F' → L2.Same F' H' → rpI cn ns X.K F' (.ref l) (Rw.fz x) → (∀ a ∈ ex, F' a = F a ∧ H' a = H a) → Ev X e σ F' H' z) : Ev X e σ F H z := let ⟨fp, o⟩ := o.o; ev_thawR o s h
theorem et_thawRc {z : Bool} (o : OwR cn ns X.K H0 F H l ex x) (s : L2.Same F H) (h : ∀ F' H', L2.Same F F' → L2.Same F' H' → rpI cn ns X.K F' (.ref l) (Rw.fz x) → (∀ a ∈ ex, F' a = F a ∧ H' a = H a) → EvT X e σ F' H' z) : EvT X e σ F H z := let ⟨fp, o⟩ := o.o; et_thawR o s h
end
def ers (H : Hp) (S : List Addr) : Hp := fun a => if a ∈ S then none else H a
section
variable {X : Cx} {K : PySem.W.Frag} {F H F0 H0 F' H' : Hp} {S : List Addr}
theorem ers_in {a : Addr} (h : a ∈ S) : ers H S a = none := if_pos h
theorem ers_out {a : Addr} (h : a ∉ S) : ers H S a = H a := if_neg h
theorem ers_some {a : Addr} {o : HO} (h : ers H S a = some o) : a ∉ S ∧ H a = some o := by
  unfold ers at h; split at h
  · cases h
  · exact ⟨by assumption, h⟩
theorem GdT.ers {P : Addr} (a : GdT H P) (h : ∀ l ∈ S, PlAt H l) : GdT (ers H S) P := by
  have hP : P ∉ S := fun m => a.ne (h P m) rfl
  obtain ⟨ps, e, h1, h2⟩ := a
  refine ⟨ps, (ers_out hP).trans e, h1, fun pos cv hc => ?_⟩
  obtain ⟨c, e1, e2⟩ := h2 pos cv hc
  refine ⟨c, e1, (ers_out fun m => ?_).trans e2⟩
  obtain ⟨o, ho, po⟩ := h c m
  rw [ho] at e2; exact codeO_pl (Option.some.inj e2) po
theorem HasT.ers (h : HasT K F H) (pl : ∀ l ∈ S, PlAt H l) : HasT K F (ers H S) := ⟨fun P hP => ⟨(h.t P hP).1.ers pl, (h.t P hP).2⟩⟩
theorem same_ers (s : L2.Same F H) (f : ∀ l ∈ S, F l = none) : L2.Same F (ers H S) := fun a o h => by
  rw [ers_out fun m => by rw [f a m] at h; cases h]; exact s a o h
theorem SmX.ers (s : SmX K F H) (f : ∀ l ∈ S, F l = none) (pl : ∀ l ∈ S, PlAt H l) : SmX K F (ers H S) := ⟨same_ers s.s f, s.h.ers pl⟩
theorem Gr.startS (s : L2.Same F H) : Gr F (ers H S) F H := ⟨.refl _, s, .same fun a o h => (ers_some h).2, fun _ _ _ _ => rfl⟩
theorem Gr.overS (g : Gr F0 H0 F H) (n : ∀ l ∈ S, H0 l = none) (g' : Gr F (ers H S) F' H') (pl : ∀ l ∈ S, PlAt H l) : Gr F0 H0 F' H' := by
  have lift : ∀ a o, H0 a = some o → ∀ u, H a = some u → ers H S a = some u := fun a o h u e => by
    rw [ers_out fun m => by rw [n a m] at h; cases h]; exact e
  refine ⟨g.ff.trans g'.ff, g'.fh, ⟨fun a o h ns => g'.hh.k a o (lift a o h _ (g.hh.k a o h ns)) ns, fun a ps h => ?_, fun P a => g'.hh.w P ((g.hh.w P a).ers pl)⟩, fun a o h ns => ?_⟩
  · obtain ⟨qs, e⟩ := g.hh.t a ps h
    exact g'.hh.t a qs (lift a _ h _ e)
  · cases o with
    | tbl ps =>
      obtain ⟨qs, e⟩ := g.hh.t a ps h
      rw [g'.fr a _ (lift a _ h _ e) trivial, g.fr a _ h trivial]
    | _ => rw [g'.fr a _ (lift a _ h _ (g.hh.k a _ h trivial)) ns, g.fr a _ h ns]
theorem GrX.overS (g : GrX K F0 H0 F H) (n : ∀ l ∈ S, H0 l = none) (g' : Gr F (ers H S) F' H') (pl : ∀ l ∈ S, PlAt H l) : GrX K F0 H0 F' H' := ⟨g.toGr.overS n g' pl, (g.h.ers pl).up g'⟩
theorem Own.overS {α : Type} [Rp α] [Ob α] {x : α} {l2 : Addr} (o : Own K H0 F H l2 x) (h : l2 ∉ S) (g : Gr F (ers H S) F' H') : Own K H0 F' H' l2 x := by
  obtain ⟨u, hl, r⟩ := o.h
  have e : ers H S l2 = some u := by rw [ers_out h]; exact hl
  exact ⟨o.n, (g.fr l2 u e (Ob.ls r)).trans o.f, u, g.hh.k _ _ e (Ob.pl r).ntb, Ob.mono g.ff r⟩
theorem Gr.erS {F1 H1 F2 H2 : Hp} (g : Gr F1 H1 F2 H2) (h : ∀ l ∈ S, F1 l = none ∧ ∃ o, H1 l = some o ∧ lstish o ∧ pln o) : Gr F1 (ers H1 S) F2 (ers H2 S) := by
  have hS : ∀ l ∈ S, F2 l = none ∧ PlAt H2 l := fun l m => by
    obtain ⟨f, o, e, ls, po⟩ := h l m
    exact ⟨(g.fr l o e ls).trans f, o, g.hh.k l o e po.ntb, po⟩
  refine ⟨g.ff, same_ers g.fh fun l m => (hS l m).1, ⟨fun b u e n => ?_, fun b ps e => ?_, fun P a => ?_⟩, fun b u e n => g.fr b u (ers_some e).2 n⟩
  · obtain ⟨hb, e⟩ := ers_some e
    rw [ers_out hb]; exact g.hh.k b u e n
  · obtain ⟨hb, e⟩ := ers_some e
    rw [ers_out hb]; exact g.hh.t b ps e
  · exact (g.hh.w P (Xt.w (.same fun a o h => (ers_some h).2) P a)).ers fun l m => (hS l m).2
end
inductive AllNe (H : Hp) : List Addr → Prop
  | nil : AllNe H []
  | cons {b : Addr} {ex : List Addr} : H b ≠ none → AllNe H ex → AllNe H (b :: ex)
theorem AllNe.mem {H : Hp} {ex : List Addr} (h : AllNe H ex) : ∀ b ∈ ex, H b ≠ none := by
  induction h with
  | nil => exact fun b m => nomatch m
  | cons h _ ih =>
    intro b m
    rcases List.mem_cons.mp m with e | e
    · subst e; exact h
    · exact ih b e
theorem AllNe.up {H H' : Hp} {ex : List Addr} (h : AllNe H ex) (k : ∀ p, H' p = none → H p = none) : AllNe H' ex := by
  induction h with
  | nil => exact .nil
  | cons h _ ih => exact .cons (fun z => h (k _ z)) ih
section
variable {X : Cx} {K : PySem.W.Frag} {e a b c d : Expr} {es : List Expr} {σ : L2.St} {F H F0 H0 : Hp} {pos : Pos} {D : Ends} {st : Stmt} {rest body : List Stmt} {τ φ θ : Type} [Ra φ] [Rw τ φ] {cn : Str} {ns : List Str} {P : θ → τ} {l : Addr} {ex : List Addr}
structure AftR (cn : Str) (ns : List Str) (P : θ → τ) (K : PySem.W.Frag) (H0 F H : Hp) (l : Addr) (ex : List Addr) (y : θ) (F' H' : Hp) : Prop where
  s : ∃ S : List Addr, (∀ p ∈ S, H0 p = none ∧ F p = none ∧ PlL H p) ∧ (∀ b ∈ ex, b ∉ S) ∧ Gr F (ers H S) F' H'
  o : OwR cn ns K H0 F' H' l ex (P y)
theorem AftR.g {F' H' : Hp} {y : θ} (a : AftR cn ns P K H0 F H l ex y F' H') (g : GrX K F0 H0 F H) : GrX K F0 H0 F' H' := by
  obtain ⟨S, h1, _, h3⟩ := a.s
  exact g.overS (fun p m => (h1 p m).1) h3 fun p m => (h1 p m).2.2.pl
theorem AftR.ff {F' H' : Hp} {y : θ} (a : AftR cn ns P K H0 F H l ex y F' H') : L2.Same F F' := let ⟨_, _, _, h⟩ := a.s; h.ff
theorem AftR.own {α : Type} [Rp α] [Ob α] {x : α} {F' H' : Hp} {y : θ} {q : Addr} (a : AftR cn ns P K H0 F H l ex y F' H') (o : Own K H0 F H q x) (h : q ∈ ex) : Own K H0 F' H' q x := by
  obtain ⟨S, _, h2, h3⟩ := a.s
  exact o.overS (h2 q h) h3
def EvMR {ρ : Type} [Rp ρ] (cn : Str) (ns : List Str) (P : θ → τ) (X : Cx) (e : Expr) (σ : L2.St) (H0 F H : Hp) (l : Addr) (ex : List Addr) (r : ρ) (y : θ) : Prop := ∀ Q : VK, (∀ u F2 H2, AftR cn ns P X.K H0 F H l ex y F2 H2 → rp X.K F2 u r → Q u H2) → GoE X e σ H Q
def PrR (cn : Str) (ns : List Str) (P : θ → τ) (K : PySem.W.Frag) {τ1 τ2 ρ : Type} [Ra τ1] [Ra τ2] [Rp ρ] (f : τ1 → θ → τ2 → Option (ρ × θ)) : Sp := fun vs H Q _ => ∃ F ws1 l ws2 fp a1 x a2 r, vs = ws1 ++ .ref l :: ws2 ∧ SmX K F H ∧ ra K F ws1 a1 ∧ ra K F ws2 a2 ∧ OwnR cn ns K (ers H (l :: fp)) F H l fp [] (P x) ∧ f a1 x a2 = some r ∧
  ∀ F' H' u, Gr F (ers H (l :: fp)) F' H' → OwR cn ns K (ers H (l :: fp)) F' H' l [] (P r.2) → rp K F' u r.1 → Q u H'
theorem OwnR.toS {fp : List Addr} {x : τ} (o : OwnR cn ns K H0 F H l fp ex x) : OwnR cn ns K (ers H (l :: fp)) F H l fp [] x :=
  o.mapA (ers_in List.mem_cons_self) o.f rfl (.refl _) (fun m p => ⟨ers_in (List.mem_cons_of_mem _ m), p.f, p.h⟩) fun b h => nomatch h
theorem OwnR.aft {fp : List Addr} {x : τ} {y : θ} {F' H' : Hp} (o : OwnR cn ns K H0 F H l fp ex x) (ne : AllNe H ex) (hb : ∀ p, H p = none → H0 p = none) (g : Gr F (ers H (l :: fp)) F' H') (o' : OwR cn ns K (ers H (l :: fp)) F' H' l [] (P y)) : AftR cn ns P K H0 F H l ex y F' H' := by
  have pl := o.plA
  refine ⟨⟨l :: fp, pl, o.ex, g⟩, ?_⟩
  obtain ⟨fp', o'⟩ := o'.o
  refine ⟨fp', ?_⟩
  have o2 : OwnR cn ns K H0 F' H' l fp' [] (P y) := o'.base fun p hp => by
    by_cases m : p ∈ l :: fp
    · exact (pl p m).1
    · rw [ers_out m] at hp; exact hb p hp
  refine ⟨o2.n, o2.f, o2.w, o2.nd, fun b hbx m => ?_⟩
  have h1 := (o'.plA b m).1
  rw [ers_out (o.ex b hbx)] at h1
  exact ne.mem b hbx h1
end
class RwV (i : Nat) (τ : Type) {φ : Type} [Ra φ] [Rw τ φ] (α : outParam Type) [Rp α] where
  set : τ → α → τ
  put : ∀ {K : PySem.W.Frag} {H0 F H : Hp} {fp : List Addr} {vs : List V} {x : τ} {v : V} {y : α}, Rw.rw K H0 F H fp vs x → rp K F v y → Rw.rw K H0 F H fp (vs.set i v) (set x y)
class RwP (i : Nat) (τ : Type) {φ : Type} [Ra φ] [Rw τ φ] (β : outParam Type) [Rp β] [Ob β] where
  get : τ → β
  set : τ → β → τ
  own : ∀ {K : PySem.W.Frag} {H0 F H : Hp} {fp : List Addr} {vs : List V} {x : τ}, Rw.rw K H0 F H fp vs x → ∃ p, p ∈ fp ∧ vs[i]? = some (.ref p) ∧ Own K H0 F H p (get x) ∧
    ∀ {F' H' : Hp} {y : β}, fp.Nodup → L2.Same F F' → (∀ {γ : Type} [Rp γ] [Ob γ] {z : γ} {a : Addr}, a ∈ fp → a ≠ p → Own K H0 F H a z → Own K H0 F' H' a z) → Own K H0 F' H' p y → Rw.rw K H0 F' H' fp vs (set x y)
instance {α τ φ : Type} [Rp α] [Ra φ] [Rw τ φ] : RwV 0 (α × τ) α := ⟨fun x y => (y, x.2), fun ⟨v, r, e, p, q⟩ h => by subst e; exact ⟨_, r, rfl, h, q⟩⟩
instance {i : Nat} {α β τ φ : Type} [Rp α] [Rp β] [Ra φ] [Rw τ φ] [RwV i τ α] : RwV (i + 1) (β × τ) α := ⟨fun x y => (x.1, RwV.set i φ x.2 y), fun ⟨v, r, e, p, q⟩ h => by subst e; exact ⟨v, _, rfl, p, RwV.put q h⟩⟩
instance {i : Nat} {α β τ φ : Type} [Rp α] [Rp β] [Ob β] [Ra φ] [Rw τ φ] [RwV i τ α] : RwV (i + 1) (Pv β × τ) α := ⟨fun x y => (x.1, RwV.set i φ x.2 y), fun ⟨p, q, r, e1, e2, o, w⟩ h => by subst e1; subst e2; exact ⟨p, q, _, rfl, rfl, o, RwV.put w h⟩⟩
instance {β τ φ : Type} [Rp β] [Ob β] [Ra φ] [Rw τ φ] : RwP 0 (Pv β × τ) β := ⟨fun x => x.1.v, fun x y => (⟨y⟩, x.2), fun {K H0 F H fp vs x} ⟨p, q, r, e1, e2, o, w⟩ => by
  subst e1; subst e2
  refine ⟨p, List.mem_cons_self, rfl, o, fun nd s m oy => ⟨p, q, r, rfl, rfl, oy, Rw.map s (fun {γ} _ _ {z a} ha o => m (List.mem_cons_of_mem _ ha) (fun e => (List.nodup_cons.mp nd).1 (by rw [← e]; exact ha)) o) w⟩⟩⟩
instance {i : Nat} {α β τ φ : Type} [Rp α] [Rp β] [Ob β] [Ra φ] [Rw τ φ] [RwP i τ β] : RwP (i + 1) (α × τ) β := ⟨fun x => RwP.get i φ x.2, fun x y => (x.1, RwP.set i φ x.2 y), fun {K H0 F H fp vs x} ⟨v, r, e, h, w⟩ => by
  subst e
  obtain ⟨p, h1, h2, h3, h4⟩ := RwP.own (i := i) w
  exact ⟨p, h1, h2, h3, fun nd s m oy => ⟨v, r, rfl, Rp.mono s h, h4 nd s m oy⟩⟩⟩
instance {i : Nat} {γ β τ φ : Type} [Rp γ] [Ob γ] [Rp β] [Ob β] [Ra φ] [Rw τ φ] [RwP i τ β] : RwP (i + 1) (Pv γ × τ) β := ⟨fun x => RwP.get i φ x.2, fun x y => (x.1, RwP.set i φ x.2 y), fun {K H0 F H fp vs x} ⟨p0, q, r, e1, e2, o, w⟩ => by
  subst e1; subst e2
  obtain ⟨p, h1, h2, h3, h4⟩ := RwP.own (i := i) w
  refine ⟨p, List.mem_cons_of_mem _ h1, h2, h3, fun nd s m oy => ?_⟩
  obtain ⟨n0, nd⟩ := List.nodup_cons.mp nd
  exact ⟨p0, q, r, rfl, rfl, m List.mem_cons_self (fun e => n0 (by rw [e]; exact h1)) o, h4 nd s (fun ha hne o => m (List.mem_cons_of_mem _ ha) hne o) oy⟩⟩
theorem putF_set {f : Str} {v : V} : ∀ {names : List Str} {vs : List V} {i : Nat}, names[i]? = some f → names.idxOf f = i → names.length = vs.length → putF f v (names.zip vs) = names.zip (vs.set i v)
  | [], _, i, h, _, _ => by simp at h
  | n :: ns, [], i, _, _, h => by simp at h
  | n :: ns, w :: vs, i, h, hi, hl => by
    show (if n = f then _ else _) = _
    by_cases e : n = f
    · subst e
      have : i = 0 := by rw [← hi, List.idxOf_cons_self]
      subst this
      rw [if_pos rfl]; rfl
    · rw [if_neg e]
      have e' : (n == f) = false := beq_eq_false_iff_ne.mpr e
      cases i with
      | zero => simp at h; exact absurd h e
      | succ i =>
        rw [List.idxOf_cons, e'] at hi
        have := putF_set (v := v) (names := ns) (vs := vs) (i := i) (by simpa using h) (by simpa using hi) (by simpa using hl)
        show (n, w) :: putF f v (ns.zip vs) = (n, w) :: ns.zip (vs.set i v)
        rw [this]
section
variable {X : Cx} {K : PySem.W.Frag} {e a b c d : Expr} {es : List Expr} {σ : L2.St} {F H F0 H0 : Hp} {pos : Pos} {D : Ends} {st : Stmt} {rest body : List Stmt} {τ φ θ : Type} [Ra φ] [Rw τ φ] {cn : Str} {ns : List Str} {P : θ → τ} {l : Addr} {ex : List Addr} {w w' : θ}
structure PkR (H0 F H : Hp) (ex : List Addr) (p : Addr) (u : HO) : Prop where
  n : H0 p = none
  f : F p = none
  pl : PlAt H p
  no : PlAt (upd H p u) p
  hx : ∀ b ∈ ex, b ≠ p
theorem PkR.g {p : Addr} {u : HO} (k : PkR H0 F H ex p u) (g : GrX K F0 H0 F H) : GrX K F0 H0 F (upd H p u) := g.poke k.n k.f k.pl k.no
theorem go_fldR {α : Type} [Rp α] {y : α} {fn n : Str} {p1 p2 : Pos} (i j : Nat) [RwV j τ α] (s : SmX X.K F H) (o : OwR cn ns X.K H0 F H l ex (P w)) (hσ : σ[i]? = some (some (.ref l))) (c : Cls X.K (He.ga X.K cn)) (na : NoAttr X.K (He.ga X.K cn) fn) (he : Ev X e σ F H y) (hw : P w' = RwV.set j φ (P w) y)
    (k : ∀ p u F' H', Gr F H F' H' → PkR H0 F' H' ex p u → OwR cn ns X.K H0 F' (upd H' p u) l ex (P w') → GoS X rest D σ (upd H' p u)) (hj : ns[j]? = some fn := by rfl) (hi : ns.idxOf fn = j := by decide) (hln : ns.length < 1000 := by decide) (hN : X.N[i]? = some n := by rfl) (hv : Vis X.env.scope n := by first | exact Or.inl rfl | exact Or.inr (Or.inl rfl) | exact Or.inr (Or.inr rfl))
    (hd : (n == ("__debug__" : Str)) = false := by decide) (hcd : (n == ("__classdict__" : Str)) = false := by decide) (hs : swapsWith e (some (.Attribute (.Name n p1) fn p2)) pos.line X.env = pure false := by rfl) : GoS X (.Assign [.Attribute (.Name n p1) fn p2] e pos :: rest) D σ H :=
  GoS.cons (ps_fld (pe_var hN hv hd hcd) pe_go hs) (he F H (.refl s) _ fun v F2 H2 g2 r2 => by
    obtain ⟨fp, o⟩ := o.o
    have o2 := o.up g2
    obtain ⟨dx, vs, h2, hl, rw_⟩ := o2.w
    refine ⟨_, hσ, l, _, dx, _, rfl, h2, c, na, ?_, ?_⟩
    · rw [List.length_zip]; omega
    · rw [putF_set hj hi hl]
      refine k l _ F2 H2 g2 ⟨o2.n, o2.f, ⟨_, h2, trivial⟩, ⟨_, upd_same, trivial⟩, fun b hb e => o2.ex b hb (by rw [e]; exact List.mem_cons_self)⟩ ⟨fp, ⟨o2.n, o2.f, ⟨dx, vs.set j v, upd_same, by rw [List.length_set]; exact hl, ?_⟩, o2.nd, o2.ex⟩⟩
      rw [hw]
      have nl := (List.nodup_cons.mp o2.nd).1
      exact Rw.map (.refl _) (fun {β} _ _ {z a} ha o => o.other fun e => nl (by rw [← e]; exact ha)) (RwV.put rw_ r2))
theorem go_appR {γ : Type} [Rp γ] {y : γ} {r : List γ} {fn n : Str} {p1 p2 p3 p4 : Pos} (i j : Nat) [RwP j τ (List γ)] (s : SmX X.K F H) (o : OwR cn ns X.K H0 F H l ex (P w)) (hσ : σ[i]? = some (some (.ref l))) (c : Cls X.K (He.ga X.K cn)) (na : NoAttr X.K (He.ga X.K cn) fn) (he : Ev X e σ F H y) (h : app (RwP.get j φ (P w)) y = some r) (hw : P w' = RwP.set j φ (P w) r)
    (k : ∀ p u F' H', Gr F H F' H' → PkR H0 F' H' ex p u → OwR cn ns X.K H0 F' (upd H' p u) l ex (P w') → GoS X rest D σ (upd H' p u)) (hi : ns.idxOf fn = j := by decide) (hj2 : j < ns.length := by decide) (hN : X.N[i]? = some n := by rfl) (hv : Vis X.env.scope n := by first | exact Or.inl rfl | exact Or.inr (Or.inl rfl) | exact Or.inr (Or.inr rfl))
    (hd : (n == ("__debug__" : Str)) = false := by decide) (hcd : (n == ("__classdict__" : Str)) = false := by decide) (hb0 : attributeBase (.Name n p1) fn X.env (eval (.Name n p1) X.env) = eval (.Name n p1) X.env := by rfl)
    (hbase : attributeBase (.Attribute (.Name n p1) fn p4) "append" X.env (eval (.Attribute (.Name n p1) fn p4) X.env) = eval (.Attribute (.Name n p1) fn p4) X.env := by rfl)
    (hfew : ((backTo p3 (starEach [e] X.env)).all (fun x => !x.1) && (backToKw p3 (keywordEach [] X.env)).all (fun x => x.1.isSome) && decide ([e].length + ([] : List Keyword).length + (if ([] : List Keyword).isEmpty then 0 else 1) < 30)) = true := by rfl)
    (hline : (p2.endLine == p3.line) = true := by rfl) (hs : starEach [e] X.env = (false, eval e X.env) :: starEach [] X.env := by rfl) (hplain : (backTo p3 (starEach [] X.env)).any (·.1) = false := by rfl) (hsw : swapsWith (.Call (.Attribute (.Attribute (.Name n p1) fn p4) "append" p2) [e] [] p3) none pos.line X.env = pure false := by rfl) :
    GoS X (.Expr (.Call (.Attribute (.Attribute (.Name n p1) fn p4) "append" p2) [e] [] p3) pos :: rest) D σ H := by
  obtain ⟨fp, o⟩ := o.o
  obtain ⟨dx, vs, hx, hl, rw_⟩ := o.w
  obtain ⟨p, pm, hp, op, put⟩ := RwP.own (i := j) rw_
  obtain ⟨_, hlp, xs, rfl, rs⟩ := op.h
  obtain ⟨hz, hr⟩ := app_of h
  refine GoS.cons (ps_expr (pe_bm PySem.F.plainAttrs_list PySem.F.slot_list_append PySem.F.type_list_append mt_append (pe_fld (pe_var hN hv hd hcd) hb0) (pa_cons pe_go pa_nil hs) hbase hfew hline hs hplain) hsw) ?_
  refine ⟨_, hσ, l, _, dx, _, .ref p, rfl, hx, c, na, zlook hi hj2 hp, .inl ⟨rfl, _, SqL.of hlp⟩, he F H (.refl s) _ fun v F2 H2 g r2 => ?_⟩
  have o2 := o.up g
  have hlp2 := g.hh.k _ _ hlp trivial
  have op2 := op.up g
  have nd := (List.nodup_cons.mp o.nd).2
  have nl : p ≠ l := fun e => (List.nodup_cons.mp o.nd).1 (by rw [← e]; exact pm)
  refine ⟨p, xs, v, rfl, rfl, hlp2, by rw [rs.length]; exact hz, ?_⟩
  refine k p _ F2 H2 g ⟨op2.n, op2.f, op2.pl, ⟨_, upd_same, trivial⟩, fun b hb e => o2.ex b hb (by rw [e]; exact List.mem_cons_of_mem _ pm)⟩ ⟨fp, ⟨o2.n, o2.f, ⟨dx, vs, by rw [upd_ne nl.symm]; exact g.hh.k _ _ hx trivial, hl, ?_⟩, o2.nd, o2.ex⟩⟩
  rw [hw]
  exact put nd g.ff (fun ha hne o => (o.up g).other hne) (Own.set op2.n op2.f (ob_lst (by rw [← hr]; exact Rps.append (rs.mono g.ff) (.cons r2 .nil))))
end
section
variable {X : Cx} {K : PySem.W.Frag} {e a b c d : Expr} {es : List Expr} {σ : L2.St} {F H F0 H0 : Hp} {pos : Pos} {D : Ends} {st : Stmt} {rest body : List Stmt} {τ φ θ : Type} [Ra φ] [Rw τ φ] {cn : Str} {ns : List Str} {W : θ → τ} {l : Addr} {ex : List Addr} {w w' : θ}
theorem OwR.aft {x : θ} {y : θ} (o : OwR cn ns K H0 F H l ex (W x)) (ne : AllNe H ex) (hb : ∀ p, H p = none → H0 p = none) {Q : List V → Hp → Prop} : True := trivial
theorem go_exprMR {ρ : Type} [Rp ρ] {r : ρ} {y : θ} (he : EvMR cn ns W X e σ H0 F H l ex r y) (k : ∀ F' H', AftR cn ns W X.K H0 F H l ex y F' H' → GoS X rest D σ H') (hs : swapsWith e none pos.line X.env = pure false := by rfl) : GoS X (.Expr e pos :: rest) D σ H :=
  GoS.cons (ps_expr pe_go hs) (he _ fun v F2 H2 a r => k F2 H2 a)
def EvRec (cn : Str) (ns : List Str) (W : θ → τ) (X : Cx) (e : Expr) (σ : L2.St) (F H : Hp) (y : θ) : Prop := ∀ F1 H1, GrX X.K F H F1 H1 → ∀ Q : VK, (∀ l F2 H2, Gr F1 H1 F2 H2 → OwR cn ns X.K H1 F2 H2 l [] (W y) → Q (.ref l) H2) → GoE X e σ H1 Q
def PrIR (cn : Str) (ns : List Str) (W : θ → τ) (K : PySem.W.Frag) {τ1 : Type} [Ra τ1] (f : τ1 → Option θ) : Sp := fun vs H Q _ => ∃ F x dx args a r, vs = .ref x :: args ∧ SmX K F H ∧ F x = none ∧ H x = some (.ins (He.ga K cn) dx []) ∧ ra K F args a ∧ f a = some r ∧
  ∀ F' H', Gr F (er H x) F' H' → OwR cn ns K (er H x) F' H' x [] (W r) → Q .non H'
theorem fn_initR {P : Program} {w : World} {mg : Str → Option Value} {base : Heap} {τ1 : Type} [Ra τ1] [RaN τ1] {f : τ1 → Option θ} {x qual : Str} {s0 : Stmt} {fa : Addr} {fd : FuncData} {N ps : List Str} {k : Nat} (Fn : FunD K x qual (defArgs s0) (defBody s0) (defScope s0) [] [] fa fd) (S : FnScope N ps (defScope s0)) (hn : RaN.n τ1 + 1 = ps.length)
    (hbody : ∀ (cdv : Value) (A : Around) (outer : List Env) (s : Shared) (F H : Hp) (y dx : Addr) (vs : List V) (a : τ1) (r : θ) (D : Ends) (E : XK), Room k (A.deeper (envOfC qual (defScope s0) s.heap.objs.size fa cdv)) → GrX K F (er H y) F H → F y = none → H y = some (.ins (He.ga K cn) dx []) → ra K F vs a → f a = some r →
      (∀ σ' F' H', GrX K F (er H y) F' H' → OwR cn ns K (er H y) F' H' y [] (W r) → D.nx σ' H') → GoS (cxOf CX0 P w K mg base N qual (defScope s0) fa cdv A outer s H E).nox (defBody s0) D (start N (.ref y :: vs)) H) :
    FnOk P w K mg base CX0 (k + 1) fa fd ps (PrIR cn ns W K f) := by
  refine Fn.ok S (fun vs H Q E ⟨F, y, dx, args, a, r, e, _, _, _, ra', _⟩ => by rw [e, List.length_cons, RaN.len ra', hn]) fun cdv A outer s H vs Q E hr ⟨F, y, dx, args, a, r, e, sm, fy, hy, ra', hf, k⟩ => ?_
  subst e
  exact ⟨_, PSs.nox pss_go, hbody cdv A outer s F H y dx args a r { nx := fun _ H' => Q .non H', rt := Q } E hr ⟨Gr.start sm.s fy ⟨_, hy, trivial⟩, sm.h⟩ fy hy ra' hf fun σ' F' H' g o => k F' H' g.toGr o⟩
theorem er_make {τ1 : Type} [Ra τ1] {f : τ1 → Option θ} {y : τ1} {r : θ} {k : Nat} {fa : Addr} {fd : FuncData} {ps : List Str} {x : Str} {p : Pos} (M : Mk X.K (He.ga X.K cn) fa) (Fn : FnOk X.prog X.w X.K X.mg X.base CX0 k fa fd ps (PrIR cn ns W X.K f)) (hr : Room (k + 1) X.A)
    (hm : X.mg x = some (.ref (He.ga X.K cn))) (hb : Binds X.K fd ps []) (ha : EvA X (e :: es) σ F H y) (h : f y = some r) (hg : Gl X x := by rfl) (hdb : (x == ("__debug__" : Str)) = false := by decide)
    (he : starEach (e :: es) X.env = (false, eval e X.env) :: starEach es X.env := by rfl) (hpl : (backTo pos (starEach es X.env)).any (·.1) = false := by rfl) : EvRec cn ns W X (.Call (.Name x p) (e :: es) [] pos) σ F H r := fun F1 H1 g Q q =>
  GoE.of (pe_make M Fn hr hg hm hb .nil pass0 pa_go hdb he hpl) (ha F1 H1 g _ fun vs F2 H2 g2 r2 => by
    intro o dx ho hdx hne
    have g3 : Gr F2 H2 (upd F2 dx (.own o)) (upd H2 dx (.own o)) := Gr.new g2.fh hdx trivial
    have ho3 : upd H2 dx (.own o) o = none := by rw [upd_ne (fun z => hne z.symm)]; exact ho
    have fo3 : upd F2 dx (.own o) o = none := by rw [upd_ne (fun z => hne z.symm)]; exact g2.fh.free ho
    have g4 := Gr.newP (o := .ins (He.ga X.K cn) dx []) g3.fh ho3 trivial
    refine ⟨upd F2 dx (.own o), o, dx, vs, y, r, by rw [List.append_nil], (g.trans g2).sm.up (g3.trans g4), fo3, upd_same, Ra.mono g3.ff r2, h, fun F' H' g5 o5 => ⟨rfl, ?_⟩⟩
    have g6 : Gr F1 H1 F' H' := (((g2.trans g3).trans g4)).over (g2.hh.free ho) g5 ⟨_, upd_same, trivial⟩
    refine q o F' H' g6 (o5.base fun p hp => ?_)
    by_cases e : p = o
    · rw [e]; exact g2.hh.free ho
    · rw [er_ne e, upd_ne e] at hp
      exact g2.hh.free (g3.hh.free hp))
theorem go_setRec {n : Str} {p : Pos} (i : Nat) (s : SmX X.K F H) (he : EvRec cn ns W X e σ F H w) (k : ∀ l F' H', Gr F H F' H' → OwR cn ns X.K H F' H' l [] (W w) → GoS X rest D (σ.set i (some (.ref l))) H') (hN : X.N.Nodup) (hi : X.N[i]? = some n := by rfl)
    (hx : Loc X.env.scope n := by first | exact Or.inl rfl | exact Or.inr rfl) (hs : swapsWith e (some (.Name n p)) pos.line X.env = pure false := by rfl) (hf : X.fn n = true ∨ X.env.scope.names.lookup n = some .local := by first | exact .inl rfl | exact .inr rfl) :
    GoS X (.Assign [.Name n p] e pos :: rest) D σ H :=
  GoS.cons (ps_set hN hi hx pe_go hs hf) (he F H (.refl s) _ fun l F2 H2 g o => k l F2 H2 g o)
end
end Gx
namespace Gx
open PySem PySem.Spec PyProof.Rows L2
open Rp (rp)
open Ra (ra)
open Ob (ob)
def TopOk (P : Program) (w : World) (K : PySem.W.Frag) (mg : Str → Option Value) (base : Heap) (f : Addr) (fd : FuncData) (ps : List Str) (sp : Sp) : Prop :=
  ∀ (s : Shared) (H : Hp) (args : Args) (us : List Value) (vs : List V) (Q : VK) (E : XK), Env0 P w K mg base callerA [] s H → BindsTo s fd args (ps.zip us) → Vals vs us → sp vs H Q E →
    codeAny (model P w) callerA (.call (.ref f) args) (L2.CR CX0 [] P w H s Q E) s
instance : Pd Unit := ⟨fun _ => .none, fun {K F v x} h => by
  have h : v = .non := h
  subst h; exact .non, fun x y => by simp [PyData.eqv]⟩
class PdD (α : Type) [Rp α] where
  toD : α → PyData
  dp : ∀ {K : PySem.W.Frag} {F : Hp} {v : V} {x : α}, rp K F v x → Dp K F v (toD x)
theorem dpd_all {α : Type} [Rp α] [PdD α] {K : PySem.W.Frag} {F : Hp} : ∀ {vs : List V} {xs : List α}, Rps K F vs xs → DpAll K F vs (xs.map PdD.toD)
  | _, _, .nil => .nil
  | _, _, .cons r t => .cons (PdD.dp r) (dpd_all t)
instance : PdD Dy := ⟨Dy.d, fun h => h⟩
instance : PdD Int := ⟨.int, fun h => Pd.dp (α := Int) h⟩
instance {α : Type} [Rp α] [PdD α] : PdD (List α) := ⟨fun xs => .list (xs.map PdD.toD), fun {K F v x} ⟨a, vs, e, sq, rs⟩ => by
  subst e
  exact .lst sq (dpd_all rs)⟩
instance {α β : Type} [Rp α] [Rp β] [PdD α] [PdD β] : PdD (T2 α β) := ⟨fun x => .tuple [PdD.toD x.a, PdD.toD x.b], fun {K F v x} ⟨a, vs, e, sq, v1, r1, e1, h1, v2, r2, e2, h2, e3⟩ => by
  have e3 : r2 = [] := e3
  subst e3; subst e2; subst e1; subst e
  exact .tup (SqT.of sq) (.cons (PdD.dp h1) (.cons (PdD.dp h2) .nil))⟩
class PdRef (α : Type) [Rp α] : Prop where
  ref : ∀ {K : PySem.W.Frag} {F : Hp} {v : V} {x : α}, rp K F v x → ∃ a, v = .ref a
instance {α : Type} [Rp α] : PdRef (List α) := ⟨fun ⟨a, _, e, _⟩ => ⟨a, e⟩⟩
instance {α β : Type} [Rp α] [Rp β] : PdRef (T2 α β) := ⟨fun ⟨a, _, e, _⟩ => ⟨a, e⟩⟩
def showG (d : PyData) : Option Str := if d.showable = true ∧ d.hasDict = false ∧ d.depth ≤ 60 ∧ d.shown.length ≤ sizeLine then some d.shown else none
def rRepr (K : PySem.W.Frag) : List V → Hp → VK → Prop := fun vs H Q => ∃ a d r, vs = [.ref a] ∧ Dp K H (.ref a) d ∧ showG d = some r ∧ Q (.str r) H
section
variable {X : Cx} {K : PySem.W.Frag} {e a b c d : Expr} {es : List Expr} {σ : L2.St} {F H F0 H0 : Hp} {pos : Pos} {D : Ends} {st : Stmt} {rest body : List Stmt}
def popG2 {α : Type} (t : List (List α)) (i j : Int) : Option (α × List (List α)) := match ixN t.length i with
  | none => none
  | some n => match t[n]? with
    | none => none
    | some r => (popG r j).map fun w => (w.1, t.set n w.2)
section
variable {α : Type} [Rp α] {t : List (List α)} {l l2 : Addr} {ex : List Addr}
theorem own2_ix {as : List Addr} {k1 : Int} {m : Nat} {row : List α} {p : Addr} {vs : List V} (rs : Rps K F vs (as.map Ad.mk)) (pr : as.length = t.length) (hn : ixN t.length k1 = some m) (hpm : as[m]? = some p) : L2.atI vs k1 = some (.ref p) := by
  have hvm : vs[m]? = some (.ref p) := by
    have : (as.map Ad.mk)[m]? = some ⟨p⟩ := by rw [List.getElem?_map, hpm]; rfl
    obtain ⟨y, hy, ry⟩ := rs.get this
    have ry : y = .ref p := ry
    rw [hy, ry]
  unfold L2.atI
  rw [rs.length, List.length_map, pr, hn]
  exact hvm
end
end
def C1 {α : Type} [Rp α] (K : PySem.W.Frag) (F : Hp) (v : V) (l : Addr) (x : α) : Prop := ∃ a w, v = .ref a ∧ TupF F a [.ref l, w] ∧ rp K F w x
theorem C1.mono {α : Type} [Rp α] {K : PySem.W.Frag} {F F' : Hp} {v : V} {l : Addr} {x : α} (h : C1 K F v l x) (s : L2.Same F F') : C1 K F' v l x := by
  obtain ⟨a, w, e, t, r⟩ := h
  exact ⟨a, w, e, tupF_mono s t, Rp.mono s r⟩
theorem C1.rp {α γ : Type} [Rp α] [Rp γ] {K : PySem.W.Frag} {F : Hp} {v : V} {l : Addr} {x : α} {y : γ} (h : C1 K F v l x) (r : Rp.rp K F (.ref l) y) : Rp.rp K F v (T2.mk y x) := by
  obtain ⟨a, w, e, t, rw'⟩ := h
  exact ⟨a, _, e, t, .ref l, _, rfl, r, w, _, rfl, rw', rfl⟩
theorem C1.of {α γ : Type} [Rp α] [Rp γ] {K : PySem.W.Frag} {F : Hp} {v : V} {l : Addr} {t : T2 γ α} (h : C1 K F v l t.b) (r : Rp.rp K F (.ref l) t.a) : Rp.rp K F v t := h.rp r
section
variable {X : Cx} {K : PySem.W.Frag} {e a b c d : Expr} {es : List Expr} {σ : L2.St} {F H F0 H0 : Hp} {pos : Pos} {D : Ends} {st : Stmt} {rest body : List Stmt} {α γ : Type} [Rp α] [Rp γ] {x : α} {ys : List γ}
def EvC1 (X : Cx) (e : Expr) (σ : L2.St) (F H : Hp) (ys : List γ) (x : α) : Prop := ∀ F1 H1, GrX X.K F H F1 H1 → ∀ Q : VK, (∀ u l o F2 H2, Gr F1 H1 F2 H2 → H1 l = none → F2 l = none → H2 l = some o → ob X.K F2 o ys → C1 X.K F2 u l x → Q u H2) → GoE X e σ H1 Q
def PrC1 (K : PySem.W.Frag) {τ : Type} [Ra τ] (f : τ → Option (T2 (List γ) α)) : Sp := fun vs H Q _ => ∃ F a r, SmX K F H ∧ ra K F vs a ∧ f a = some r ∧ ∀ u l o F' H', Gr F H F' H' → H l = none → F' l = none → H' l = some o → ob K F' o r.a → C1 K F' u l r.b → Q u H'
theorem EvC1.ev (h : EvC1 X e σ F H ys x) : Ev X e σ F H (T2.mk ys x) := fun F1 H1 g Q q =>
  GoE.lock (Q' := fun v H2 => ∃ l o F2, C1 X.K F2 v l x ∧ Gr F1 H1 F2 H2 ∧ H1 l = none ∧ F2 l = none ∧ H2 l = some o ∧ ob X.K F2 o ys) (h F1 H1 g _ fun u l o F2 H2 g2 n2 f2 h2 r2 c2 => ⟨l, o, F2, c2, g2, n2, f2, h2, r2⟩)
    fun v H2 ⟨l, o, F2, c2, g2, n2, f2, h2, r2⟩ => ⟨l, o, h2, Ob.mu r2, fun od =>
      q _ (upd F2 l (.frz od o)) _ (g2.freeze n2 f2 ⟨_, h2, Ob.pl r2⟩ trivial) ((c2.mono (same_upd f2)).rp (Ob.fz upd_same (Ob.mono (same_upd f2) r2)))⟩
theorem EvC1.evT {t : T2 (List γ) α} (h : EvC1 X e σ F H t.a t.b) : Ev X e σ F H t := h.ev
end
end Gx
namespace Gx
open PySem PySem.Spec PyProof.Rows L2
open Rp (rp)
open Ra (ra)
open Ob (ob)
section
variable {X : Cx} {K : PySem.W.Frag} {e a b c d : Expr} {es : List Expr} {σ : L2.St} {F H Hl F0 H0 : Hp} {pos : Pos} {D : Ends} {st : Stmt} {rest body : List Stmt} {l : Addr} {β : Type} [Rp β] [Ob β] {c0 c1 c2 : β}
theorem EvU.re {ρ ρ' : Type} [Rp ρ] [Rp ρ'] {r : ρ} {r' : ρ'} (h : EvU X e σ F Hl l c0 r c1) (k : ∀ F v, rp X.K F v r → rp X.K F v r') : EvU X e σ F Hl l c0 r' c1 := fun F1 H1 o g f h1 bo Q q =>
  h F1 H1 o g f h1 bo Q fun u F2 H2 o2 g2 f2 h2 b2 r2 => q u F2 H2 o2 g2 f2 h2 b2 (k _ _ r2)
def EvIU {α : Type} [Rp α] (X : Cx) (tg iter : Expr) (σ : L2.St) (F Hl : Hp) (l : Addr) (x : β) (xs : List α) (y : β) : Prop := ∀ F1 H1 o, GrX X.K F Hl F1 (er H1 l) → F1 l = none → H1 l = some o → ob X.K F1 o x → ∀ R : It → Hp → Prop, (∀ J F2 H2 o2, Gr F1 (er H1 l) F2 (er H2 l) → F2 l = none → H2 l = some o2 → ob X.K F2 o2 y → Wk X.K J F2 H2 xs → R J H2) → GoI X tg iter σ H1 R
def compSM {α γ β : Type} (f : β → α → Option (γ × β)) : β → List α → Option (List γ × β)
  | b, [] => some ([], b)
  | b, x :: xs => match f b x with
    | none => none
    | some p => (compSM f p.2 xs).map fun q => (p.1 :: q.1, q.2)
def compS {α γ β : Type} (f : β → α → Option (γ × β)) (b : β) (xs : List α) : Option (List γ × β) := if xs.length ≤ sizeLine then compSM f b xs else none
def CBU {γ : Type} [Rp γ] (X : Cx) (scope : Scope) (elt : Expr) (σ2 : L2.St) (F Hl : Hp) (l : Addr) (c : β) (p : γ × β) : Prop := ∀ s H' C cl fp, EvU (blkX X scope s H' C cl fp) elt σ2 F Hl l c p.1 p.2
end
structure Any where
instance : Rp Any := ⟨fun _ _ _ _ => True, fun _ h => h⟩
def CL {τ : Type} [Ra τ] (K : PySem.W.Frag) (F : Hp) (v : V) (l : Addr) (x : τ) : Prop := ∃ a ws, v = .ref a ∧ TupF F a (ws ++ [.ref l]) ∧ ra K F ws x
theorem CL.mono {τ : Type} [Ra τ] {K : PySem.W.Frag} {F F' : Hp} {v : V} {l : Addr} {x : τ} (h : CL K F v l x) (s : L2.Same F F') : CL K F' v l x := by
  obtain ⟨a, w, e, t, r⟩ := h
  exact ⟨a, w, e, tupF_mono s t, Ra.mono s r⟩
section
variable {α1 α2 α3 α4 α5 α6 γ : Type} [Rp α1] [Rp α2] [Rp α3] [Rp α4] [Rp α5] [Rp α6] [Rp γ]
theorem CL.rp {K : PySem.W.Frag} {F : Hp} {v : V} {l : Addr} {x1 : α1} {x2 : α2} {x3 : α3} {x4 : α4} {x5 : α5} {x6 : α6} {y : γ} (h : CL K F v l (x1, x2, x3, x4, x5, x6, ())) (r : Rp.rp K F (.ref l) y) : Rp.rp K F v (T7.mk x1 x2 x3 x4 x5 x6 y) := by
  obtain ⟨a, ws, e, t, v1, r1, e1, p1, v2, r2, e2, p2, v3, r3, e3, p3, v4, r4, e4, p4, v5, r5, e5, p5, v6, r6, e6, p6, e7⟩ := h
  have e7 : r6 = [] := e7
  subst e7; subst e6; subst e5; subst e4; subst e3; subst e2; subst e1
  exact ⟨a, _, e, t, v1, _, rfl, p1, v2, _, rfl, p2, v3, _, rfl, p3, v4, _, rfl, p4, v5, _, rfl, p5, v6, _, rfl, p6, .ref l, _, rfl, r, rfl⟩
end
theorem CL.any {α1 α2 α3 α4 α5 α6 : Type} [Rp α1] [Rp α2] [Rp α3] [Rp α4] [Rp α5] [Rp α6] {K : PySem.W.Frag} {F : Hp} {v : V} {l : Addr} {r : α1 × α2 × α3 × α4 × α5 × α6 × Unit} (h : CL K F v l r) : Rp.rp K F v (T7.mk r.1 r.2.1 r.2.2.1 r.2.2.2.1 r.2.2.2.2.1 r.2.2.2.2.2.1 Any.mk) := CL.rp (x1 := r.1) (x2 := r.2.1) (x3 := r.2.2.1) (x4 := r.2.2.2.1) (x5 := r.2.2.2.2.1) (x6 := r.2.2.2.2.2.1) (y := Any.mk) h trivial
section
variable {X : Cx} {K : PySem.W.Frag} {e a b c d : Expr} {es : List Expr} {σ : L2.St} {F H F0 H0 : Hp} {pos : Pos} {D : Ends} {st : Stmt} {rest body : List Stmt} {τ1 γ : Type} [Ra τ1] [RaN τ1] [Rp γ] {x : τ1} {ys : List γ}
def EvCL (X : Cx) (e : Expr) (σ : L2.St) (F H : Hp) (x : τ1) (ys : List γ) : Prop := ∀ F1 H1, GrX X.K F H F1 H1 → ∀ Q : VK, (∀ u l o F2 H2, Gr F1 H1 F2 H2 → H1 l = none → F2 l = none → H2 l = some o → ob X.K F2 o ys → CL X.K F2 u l x → Q u H2) → GoE X e σ H1 Q
def PrCL (K : PySem.W.Frag) {τ : Type} [Ra τ] (f : τ → Option (τ1 × List γ)) : Sp := fun vs H Q _ => ∃ F a r, SmX K F H ∧ ra K F vs a ∧ f a = some r ∧ ∀ u l o F' H', Gr F H F' H' → H l = none → F' l = none → H' l = some o → ob K F' o r.2 → CL K F' u l r.1 → Q u H'
end
section
variable {X : Cx} {K : PySem.W.Frag} {e : Expr} {σ : L2.St} {F H : Hp} {pos : Pos} {D : Ends} {rest : List Stmt} {β : Type} [Rp β] [Ob β] {c1 : β} {l : Addr}
end
section
variable {X : Cx} {K : PySem.W.Frag} {a b e : Expr} {σ : L2.St} {F H : Hp} {pos : Pos} {α β δ ε : Type} [Rp α] [Rp β] [Rp δ] [Rp ε]
def ix3S (t : T5 α β β δ ε) (j : Int) : Option (Sm α β) := if j = 0 then some (.l t.a) else if j = 1 then some (.r t.b) else if j = 2 then some (.r t.c) else none
def allL : List (Sm α β) → Option (List α)
  | [] => some []
  | .l x :: r => (allL r).map (x :: ·)
  | .r _ :: _ => none
def allR : List (Sm α β) → Option (List β)
  | [] => some []
  | .r x :: r => (allR r).map (x :: ·)
  | .l _ :: _ => none
def Tn.alll (t : Tn (Sm α β)) : Option (Tn α) := (allL t.l).map Tn.mk
def Tn.allr (t : Tn (Sm α β)) : Option (Tn β) := (allR t.l).map Tn.mk
end
section
variable {X : Cx} {a : Expr} {σ : L2.St} {F H : Hp} {pos : Pos} {α1 α2 α3 α4 α5 α6 : Type} [Rp α1] [Rp α2] [Rp α3] [Rp α4] [Rp α5] [Rp α6]
end
structure Fzn {β : Type} [Rp β] [Ob β] (X : Cx) (H0 F : Hp) (l : Addr) (Fa : Hp) (x : β) : Prop where
  hn : ∀ o' u', X.H_0 l ≠ some (.frz o' u')
  n : H0 l = none
  f : Fa l = none
  s : L2.Same Fa F
  e : ∃ od u, F l = some (.frz od u) ∧ ob X.K Fa u x
section
variable {X : Cx} {e : Expr} {σ : L2.St} {F H F0 H0 Fa : Hp} {pos : Pos} {D : Ends} {β : Type} [Rp β] [Ob β] {x : β} {l : Addr}
theorem Fzn.up {F' : Hp} (z : Fzn X H0 F l Fa x) (s : L2.Same F F') : Fzn X H0 F' l Fa x := ⟨z.hn, z.n, z.f, z.s.trans s, let ⟨od, u, e, r⟩ := z.e; ⟨od, u, s _ _ e, r⟩⟩
end
end Gx
namespace Gx.EnL
open PySem PySem.Spec PyProof.Rows L2
open Sem (wp)
open SeqAt
section
variable {prog : Program} {w : World} {A : Around} {E : Value → Shared → Prop} {s : Shared}
abbrev KEn (h : Heap) (e it : Addr) (c : Int) (x : Value) (a : Addr) (f : Bool) : Prop := h.get? e = some { cls := .type "enumerate", dict := none, data := .fields #[rawInt a, .bool f, .ref it, rawInt c, .none, x], slots := #[] }
theorem nextE {e it a : Addr} {f : Bool} {oa : Obj} {fp : List Addr} {n i : Nat} {c : Int} {P : Nat → Value → Prop} {St : Nat → Heap → Prop} {old : Value} {Q : Value → Shared → Prop}
    (D : Draws prog w A it fp n P St) (he : KEn s.heap e it c old a f) (ha : s.heap.get? a = some oa) (hae : a ≠ e) (hai : a ≠ it) (hst : St i s.heap) (hlt : i < n) (hne : e ≠ it) (hef : e ∉ fp)
    (hQ : ∀ x h' tk, P i x → KEn h' e it (c + 1) old a true → St (i + 1) h' →
      h'.get? s.heap.objs.size = some { cls := .type "tuple", data := .seq #[.int c tk, x] } → h'.objs.size = s.heap.objs.size + 1 →
      (∀ b o, b ≠ e → b ≠ it → s.heap.get? b = some o → h'.get? b = some o) → Q (.ref s.heap.objs.size) { s with heap := h', toks := tk + 1 }) :
    wpAny (model prog w) A (Builtin.«enumerate.__next__» ⟨[.ref e], []⟩) (fun fin s' => ∃ v, fin = .done (.ret v) ∧ Q v s') E s := by
  obtain ⟨hp, g, d, tk₀, os⟩ := s
  show wpAny _ _ (field (.ref e) 2 >>= _) _ _ _
  refine wpAny_bind (wpAny_field he rfl (x := .ref it) rfl ?_)
  refine wpAny_bind (D.item i _ _ _ hlt hst fun x h₁ tk hPx hit₁ hs₁ => ?_)
  replace hs₁ : Heap.SameBut it hp h₁ := hs₁
  have he₁ : KEn h₁ e it c old a f := (hs₁.2 e hne).trans he
  show wpAny _ _ (field (.ref e) 3 >>= _) _ _ ⟨h₁, g, d, tk, os⟩
  refine wpAny_bind (wpAny_field he₁ rfl (x := rawInt c) rfl ?_)
  show wpAny _ _ (field (.ref e) 4 >>= _) _ _ ⟨h₁, g, d, tk, os⟩
  refine wpAny_bind (wpAny_field he₁ rfl (x := .none) rfl ?_)
  show wpAny _ _ (mkInt c >>= _) _ _ ⟨h₁, g, d, tk, os⟩
  refine wpAny_bind (wpAny_mkInt ?_)
  show wpAny _ _ (setField (.ref e) 3 (rawInt (c + 1)) >>= _) _ _ ⟨h₁, g, d, tk + 1, os⟩
  refine wpAny_bind (wpAny_setField_rec he₁ (by simp) fun h₂ he₂ hs₂ => ?_)
  replace hs₂ : Heap.SameBut e h₁ h₂ := hs₂
  replace he₂ : KEn h₂ e it (c + 1) old a f := he₂
  show wpAny _ _ (setField (.ref e) 4 .none >>= _) _ _ ⟨h₂, g, d, tk + 1, os⟩
  refine wpAny_bind (wpAny_setField_rec he₂ (by simp) fun h₃ he₃ hs₃ => ?_)
  replace hs₃ : Heap.SameBut e h₂ h₃ := hs₃
  replace he₃ : KEn h₃ e it (c + 1) old a f := he₃
  show wpAny _ _ (newTuple [.int c tk, x] >>= _) _ _ ⟨h₃, g, d, tk + 1, os⟩
  refine wpAny_bind (wpAny_newTuple ?_)
  have he₄ : KEn (h₃.push { cls := .type "tuple", data := .seq #[.int c tk, x] }) e it (c + 1) old a f := Heap.get?_push_of_some _ he₃
  generalize hh₄ : h₃.push { cls := .type "tuple", data := .seq #[.int c tk, x] } = h₄ at he₄
  have hsz : h₃.objs.size = hp.objs.size := by rw [hs₃.1, hs₂.1, hs₁.1]
  have hel : e < hp.objs.size := Heap.lt_size he
  have ht₄ : h₄.get? hp.objs.size = some { cls := .type "tuple", data := .seq #[.int c tk, x] } := by rw [← hh₄, ← hsz]; exact Heap.get?_push_size _ rfl
  have hz₄ : h₄.objs.size = hp.objs.size + 1 := by rw [← hh₄, Heap.size_push, hsz]
  have hk₄ : ∀ b o, b ≠ e → b ≠ it → hp.get? b = some o → h₄.get? b = some o := fun b o hbe hbi hb => by
    rw [← hh₄]; exact Heap.get?_push_of_some _ (hs₃.extBut b o hbe (hs₂.extBut b o hbe (hs₁.extBut b o hbi hb)))
  have hit₄ : St (i + 1) h₄ := D.frame _ _ _ hit₁ fun b hb o y => by
    have hbe : b ≠ e := fun q => hef (q ▸ hb)
    rw [← hh₄]; exact Heap.get?_push_of_some _ (hs₃.extBut b o hbe (hs₂.extBut b o hbe y))
  show wpAny _ _ (Builtin.SmallTypes.ownedTupleIsFree (.ref e) >>= _) _ _ ⟨h₄, g, d, tk + 1, os⟩
  rw [hsz]
  clear hh₄ he₃ hs₃ he₂ hs₂ he₁ hs₁ hit₁ hsz h₃ h₂ h₁
  have ha₄ : h₄.get? a = some oa := hk₄ a oa hae hai ha
  refine wpAny_bind ?_
  unfold Builtin.SmallTypes.ownedTupleIsFree
  refine wpAny_bind (wpAny_field he₄ rfl (x := rawInt a) rfl ?_)
  show wpAny _ _ (loadIfAlive ((a : Int).toNat) >>= _) _ _ _
  rw [Int.toNat_natCast]
  refine wpAny_bind (PySem.W.kdx_alive ha₄ ?_)
  simp only [Option.isNone_some, Bool.false_eq_true, if_false]
  refine wpAny_bind (wpAny_field he₄ rfl (x := .bool f) rfl ?_)
  have fin : ∀ h₅ : Heap, KEn h₅ e it (c + 1) old a true → Heap.SameBut e h₄ h₅ → Q (.ref hp.objs.size) ⟨h₅, g, d, tk + 1, os⟩ := fun h₅ he₅ hs₅ =>
    hQ x h₅ tk hPx he₅ (D.frame _ _ _ hit₄ fun b hb o y => hs₅.extBut b o (fun q => hef (q ▸ hb)) y) (hs₅.extBut _ _ (Nat.ne_of_gt hel) ht₄) (by show h₅.objs.size = hp.objs.size + 1; rw [hs₅.1, hz₄]) fun b o hbe hbi hb => hs₅.extBut b o hbe (hk₄ b o hbe hbi hb)
  cases f with
  | true =>
    rw [if_neg (show ¬ ((Value.bool true != Value.bool true) = true) from Bool.false_ne_true)]
    refine wpAny_pure ?_
    simp only [Bool.false_eq_true, if_false]
    exact wpAny_pure ⟨_, rfl, fin h₄ he₄ (Heap.SameBut.refl _ _)⟩
  | false =>
    rw [if_pos (show (Value.bool false != Value.bool true) = true from rfl)]
    refine wpAny_bind (wpAny_setField_rec he₄ (by simp) fun h₅ he₅ hs₅ => ?_)
    replace hs₅ : Heap.SameBut e h₄ h₅ := hs₅
    replace he₅ : KEn h₅ e it (c + 1) old a true := he₅
    refine wpAny_pure ?_
    simp only [Bool.false_eq_true, if_false]
    exact wpAny_pure ⟨_, rfl, fin h₅ he₅ hs₅⟩
def KSt (h : Heap) (e it S : Addr) (i : Nat) : Prop := (i = 0 ∧ IsEnum h e it 0 .none) ∨ ∃ a f oa x, KEn h e it i x a f ∧ h.get? a = some oa ∧ a ≠ e ∧ a ≠ it ∧ a ≠ S
theorem KSt.keep {h h' : Heap} {e it S : Addr} {i : Nat} (x : KSt h e it S i) (k : ∀ b o, b ≠ S → h.get? b = some o → h'.get? b = some o) (he : e ≠ S) : KSt h' e it S i := by
  rcases x with ⟨h0, h1⟩ | ⟨a, f, oa, y, h1, h2, h3, h4, h5⟩
  · exact .inl ⟨h0, k _ _ he h1⟩
  · exact .inr ⟨a, f, oa, y, k _ _ he h1, k _ _ h5 h2, h3, h4, h5⟩
theorem nxt {e it S : Addr} {fp : List Addr} {n i : Nat} {P : Nat → Value → Prop} {St : Nat → Heap → Prop} {Q : Option Value → Shared → Prop}
    (D : Draws prog w A.in1 it fp n P St) (he : KSt s.heap e it S i) (hS : S < s.heap.objs.size) (hil : it < s.heap.objs.size) (hst : St i s.heap) (hlt : i < n) (hne : e ≠ it) (hef : e ∉ fp)
    (hQ : ∀ x h' tk, P i x → KSt h' e it S (i + 1) → St (i + 1) h' →
      h'.get? s.heap.objs.size = some { cls := .type "tuple", data := .seq #[.int (i : Nat) tk, x] } → h'.objs.size = s.heap.objs.size + 1 →
      (∀ b o, b ≠ e → b ≠ it → s.heap.get? b = some o → h'.get? b = some o) → Q (some (.ref s.heap.objs.size)) { s with heap := h', toks := tk + 1 }) :
    wpAny (model prog w) A (pyNext (.ref e)) Q E s := by
  rcases he with ⟨rfl, he⟩ | ⟨a, f, oa, y, he, ha, hae, hai, haS⟩
  · have hel : e < s.heap.objs.size := Heap.lt_size he
    refine wpAny_pyNext_enum_itemC D he hst hlt hne hef fun x h' tk hP ho hs' hT hsz hk => hQ x h' tk hP (.inr ⟨_, false, _, x, ?_, hT, Nat.ne_of_gt hel, Nat.ne_of_gt hil, Nat.ne_of_gt hS⟩) hs' hT hsz hk
    have : (((0 + 1 : Nat) : Int)) = 0 + 1 := by omega
    rw [this]; exact ho
  · have hT : s.TypeIs (.ref e) "enumerate" := ⟨_, he, rfl⟩
    unfold pyNext
    refine wpAny_bind (wpAny_attempt (wpAny_callSpecial?_slot (name := Str.ofString "__next__") hT F.slot_enumerate_next
      (wpAny_call_entry F.slot_enumerate_next hT F.entry_enumerate_next
        (nextE D he ha hae hai hst hlt hne hef fun x h' tk hP ho hs' hTu hsz hk => wpAny_pure (hQ x h' tk hP (.inr ⟨a, true, oa, y, ?_, hk a oa hae hai ha, hae, hai, haS⟩) hs' hTu hsz hk)) (F.args_enumerate_next_1 _))))
    have : (((i + 1 : Nat) : Int)) = (i : Int) + 1 := by omega
    rw [this]; exact ho
theorem fin {e it S : Addr} {fp : List Addr} {n i : Nat} {P : Nat → Value → Prop} {St : Nat → Heap → Prop} {Q : Option Value → Shared → Prop}
    (D : Draws prog w A.in1 it fp n P St) (he : KSt s.heap e it S i) (hst : St n s.heap)
    (hQ : ∀ h', Heap.ExtBut it s.heap h' → Q none { s with heap := h' }) : wpAny (model prog w) A (pyNext (.ref e)) Q E s := by
  have h2 : ∃ f0 f1 f3 f5, s.heap.get? e = some { cls := .type "enumerate", dict := none, data := .fields #[f0, f1, .ref it, f3, .none, f5], slots := #[] } := by
    rcases he with ⟨_, he⟩ | ⟨a, f, oa, y, he, _⟩
    · exact ⟨_, _, _, _, he⟩
    · exact ⟨_, _, _, _, he⟩
  obtain ⟨f0, f1, f3, f5, he⟩ := h2
  have hT : s.TypeIs (.ref e) "enumerate" := ⟨_, he, rfl⟩
  unfold pyNext
  refine wpAny_bind (wpAny_attempt (wpAny_callSpecial?_slot (name := Str.ofString "__next__") hT F.slot_enumerate_next
    (wpAny_call_entry F.slot_enumerate_next hT F.entry_enumerate_next ?_ (F.args_enumerate_next_1 _))))
  show wpAny _ _ (field (.ref e) 2 >>= _) _ _ _
  refine wpAny_bind (wpAny_field he rfl (x := .ref it) rfl ?_)
  refine wpAny_bind (D.done _ _ _ hst fun h' x he' hx' => ?_)
  obtain ⟨o, ho, hc⟩ := hx'
  refine wpAny_bind (wpAny_isInstance (T := "StopIteration") (b := true) ⟨o, ho, hc⟩ isSubtype_stop ?_)
  exact wpAny_pure (hQ _ he')
end
structure Made (its : Array Value) (lo : Addr) (h : Heap) (as : List Addr) : Prop where
  rise : as.Pairwise (· < ·)
  above : ∀ a ∈ as, lo < a
  pairs : ∀ (j : Nat) (a : Addr), as[j]? = some a → ∃ u t, its[j]? = some u ∧ h.get? a = some { cls := .type "tuple", data := .seq #[.int (j : Nat) t, u] }
theorem Made.there {its : Array Value} {lo : Addr} {h : Heap} {as : List Addr} (g : Made its lo h as) {a : Addr} (ha : a ∈ as) : a < h.objs.size := by
  obtain ⟨j, hj⟩ := List.mem_iff_getElem?.mp ha
  obtain ⟨_, _, _, e⟩ := g.pairs j a hj
  exact Heap.lt_size e
theorem Made.low {its : Array Value} {lo lo' : Addr} {h : Heap} {as : List Addr} (g : Made its lo h as) (hl : lo' ≤ lo) : Made its lo' h as := ⟨g.rise, fun a ha => Nat.lt_of_le_of_lt hl (g.above a ha), g.pairs⟩
section
variable {prog : Program} {w : World} {A : Around} {s : Shared} {R : Result → Shared → Prop} {its : Array Value}
theorem loopE {S I it l : Addr} (hh : A.handled = none) (hIS : I ≠ S) (hiS : it ≠ S) (hlS : l ≠ S) (hli : l ≠ it) (hIi : I ≠ it) (hIl : I ≠ l) (lo : Addr) (hlo : S ≤ lo) (hlo2 : I ≤ lo) (hlo3 : it ≤ lo) (hn : its.size ≤ sizeLine) (res : Value) {h₁ : Heap}
    (hR : ∀ h' tk acc c as, (∀ b o, b ≠ S → b ≠ I → b ≠ it → h₁.get? b = some o → h'.get? b = some o) → h'.get? S = some { cls := .type "list", dict := none, data := .seq acc c, slots := #[] } → as.length = its.size → Made its lo h' as →
      acc.toList = as.map Value.ref → R (.ok (.ret res)) { s with heap := h', toks := tk }) :
    ∀ (k i : Nat) (h : Heap) (tk c : Nat) (acc : Array Value) (as : List Addr), its.size - i = k → i ≤ its.size → KSt h I it S i → (h.IsListIter it l i ∧ h.IsList l its) → (∀ b o, b ≠ S → b ≠ I → b ≠ it → h₁.get? b = some o → h.get? b = some o) →
      h.get? S = some { cls := .type "list", dict := none, data := .seq acc c, slots := #[] } → acc.toList = as.map Value.ref → as.length = i → Made its lo h as → lo < h.objs.size →
      codeAny (model prog w) A (.builtin "list.extend.loop" ⟨[.ref S, .ref I, res], []⟩) R { s with heap := h, toks := tk } := by
  have D : Draws prog w A.in1.in1 it [it, l] its.size (fun i v => its[i]? = some v) (fun i h => h.IsListIter it l i ∧ h.IsList l its) := Draws.list (A := A.in1.in1) hh it l hli its
  intro k
  induction k with
  | zero =>
    intro i h tk c acc as hk hi hst hD hkeep hS hacc hal hG hIs
    refine codeAny_builtin PySem.F.entry_extend_loop ?_
    rw [Around.under_plainId PySem.F.plain_extend_loop _]
    show wpAny _ A.in1 (pyNext (.ref I) >>= _) _ _ _
    have hin : i = its.size := by omega
    subst hin
    refine wpAny_bind (fin (s := { s with heap := h, toks := tk }) (A := A.in1) D hst hD fun h' he => ?_)
    refine wpAny_pure (hR h' tk acc c as (fun b o h1 h2 h3 e => he b o h3 (hkeep b o h1 h2 h3 e)) (he S _ (Ne.symm hiS) hS) hal ⟨hG.rise, hG.above, fun j a hj => ?_⟩ hacc)
    obtain ⟨u, t, e1, e3⟩ := hG.pairs j a hj
    have := hG.above a (List.mem_of_getElem? hj)
    exact ⟨u, t, e1, he a _ (Nat.ne_of_gt (Nat.lt_of_le_of_lt hlo3 this)) e3⟩
  | succ k ih =>
    intro i h tk c acc as hk hi hst hD hkeep hS hacc hal hG hIs
    have hlt : i < its.size := by omega
    have hsz : acc.size = i := by rw [← Array.length_toList, hacc, List.length_map, hal]
    have hSl : S < h.objs.size := Heap.lt_size hS
    have hil : it < h.objs.size := by obtain ⟨⟨_, q, _⟩, _⟩ := hD; exact Heap.lt_size q
    refine codeAny_builtin PySem.F.entry_extend_loop ?_
    rw [Around.under_plainId PySem.F.plain_extend_loop _]
    show wpAny _ A.in1 (pyNext (.ref I) >>= _) _ _ _
    refine wpAny_bind (nxt (s := { s with heap := h, toks := tk }) (S := S) D hst hSl hil hD hlt hIi (by simp [hIi, hIl]) fun x h' tk' hP hst' hD' ht hz hkp => ?_)
    dsimp only at ht hz hkp ⊢
    have hS' := hkp S _ (Ne.symm hIS) (Ne.symm hiS) hS
    have up : ∀ b o, b ≠ S → h'.get? b = some o → (h'.update S (Obj.mapSeq (·.push (Value.ref h.objs.size)))).get? b = some o := fun b o hb e => (Heap.get?_update_other _ _ (Ne.symm hb)).trans e
    show wpAny _ A.in1 (updateSeq S (·.push (Value.ref h.objs.size)) >>= _) _ _ _
    refine wpAny_bind ?_
    refine wpAny_updateSeq hS' rfl (wpAny_pure ⟨plainId_quiet PySem.F.plain_extend_loop _, ih (i + 1) _ _ _ (acc.push (Value.ref h.objs.size)) (as ++ [h.objs.size]) (by omega) hlt (hst'.keep up hIS) ⟨hD'.1.at fun o q => up it o hiS q, ?_⟩
      (fun b o h1 h2 h3 e => up b o h1 (hkp b o h2 h3 (hkeep b o h1 h2 h3 e))) (Heap.get?_update_self _ hS' rfl) (by rw [Array.toList_push, hacc, List.map_append]; rfl) (by rw [List.length_append, hal]; rfl) ⟨?_, ?_, ?_⟩ ?_⟩) (by rw [hsz]; omega) (by show (acc.push (Value.ref h.objs.size)).size ≤ sizeLine + 1; rw [Array.size_push, hsz]; omega)
    · obtain ⟨o, ho, r⟩ := hD'.2
      exact ⟨o, up l o hlS ho, r⟩
    · refine List.pairwise_append.mpr ⟨hG.rise, List.pairwise_singleton _ _, fun a ha b hb => ?_⟩
      rw [List.mem_singleton.mp hb]
      exact hG.there ha
    · intro a ha
      rcases List.mem_append.mp ha with ha | ha
      · exact hG.above a ha
      · rw [List.mem_singleton.mp ha]; exact hIs
    · intro j b hj
      rcases Nat.lt_trichotomy j as.length with h1 | h1 | h1
      · rw [List.getElem?_append_left h1] at hj
        obtain ⟨u, t, e1, e3⟩ := hG.pairs j b hj
        have hb := hG.above b (List.mem_of_getElem? hj)
        exact ⟨u, t, e1, up b _ (Nat.ne_of_gt (Nat.lt_of_le_of_lt hlo hb)) (hkp b _ (Nat.ne_of_gt (Nat.lt_of_le_of_lt hlo2 hb)) (Nat.ne_of_gt (Nat.lt_of_le_of_lt hlo3 hb)) e3)⟩
      · subst h1
        have hb : h.objs.size = b := by simpa using hj
        subst hb
        have hP' : its[as.length]? = some x := by rw [hal]; exact hP
        exact ⟨x, tk', hP', up _ _ (Nat.ne_of_gt hSl) (by rw [hal]; exact ht)⟩
      · have hnone : (as ++ [h.objs.size])[j]? = none := List.getElem?_eq_none (by rw [List.length_append, List.length_singleton]; omega)
        rw [hnone] at hj; cases hj
    · have e : (h'.update S (Obj.mapSeq (·.push (Value.ref h.objs.size)))).get? h.objs.size = _ := up _ _ (Nat.ne_of_gt hSl) ht
      exact Nat.lt_trans hIs (Heap.lt_size e)
end
theorem nolen : typeLookup (.type "enumerate") "__len__" = pure none := by rw [typeLookup_type, builtinLookup_eq_fast]; kernel_rfl
theorem nohint : typeLookup (.type "enumerate") "__length_hint__" = pure none := by rw [typeLookup_type, builtinLookup_eq_fast]; kernel_rfl
section
variable {prog : Program} {w : World} {A : Around} {E : Value → Shared → Prop} {s : Shared} {I it l : Addr} {its : Array Value}
theorem extE {R : Result → Shared → Prop} (hh : A.handled = none) (he : IsEnum s.heap I it 0 .none) (hit : s.heap.IsListIter it l 0) (hl : s.heap.IsList l its) (S : Addr) (hIS : I ≠ S) (hiS : it ≠ S) (hlS : l ≠ S) (hli : l ≠ it) (hIi : I ≠ it) (hIl : I ≠ l) (res : Value) (c₀ : Nat) (hS : s.heap.get? S = some { cls := .type "list", data := .seq #[] c₀ }) (lo : Addr) (hlo : S ≤ lo) (hlo2 : I ≤ lo) (hlo3 : it ≤ lo) (hlo4 : lo < s.heap.objs.size)
    (hR : ∀ h' tk acc c as, (∀ b o, b ≠ S → b ≠ I → b ≠ it → s.heap.get? b = some o → h'.get? b = some o) → h'.get? S = some { cls := .type "list", dict := none, data := .seq acc c, slots := #[] } → as.length = its.size → Made its lo h' as →
      acc.toList = as.map Value.ref → R (.ok (.ret res)) { s with heap := h', toks := tk }) (hn : its.size ≤ sizeLine) :
    wpAny (model prog w) A.in1 (Builtin.List.listExtendWith (.ref S) (.ref I) res)
      (fun fin s' => match fin with | .done f => R (.ok f) s' | .again c' => c'.quiet = true ∧ codeAny (model prog w) A c' R s') (fun e s' => R (.error e) s') s := by
  have key : ∀ (h : Heap) (c₁ tk : Nat), (∀ b o, b ≠ S → s.heap.get? b = some o → h.get? b = some o) → h.objs.size = s.heap.objs.size →
      h.get? S = some { cls := .type "list", data := .seq #[] c₁ } → codeAny (model prog w) A (.builtin "list.extend.loop" ⟨[.ref S, .ref I, res], []⟩) R { s with heap := h, toks := tk } := by
    intro h c₁ tk hk hsz hS₁
    refine loopE (its := its) (s := s) (h₁ := s.heap) (l := l) hh hIS hiS hlS hli hIi hIl lo hlo hlo2 hlo3 hn res hR
      its.size 0 h tk c₁ #[] [] (Nat.sub_zero _) (Nat.zero_le _) (.inl ⟨rfl, hk _ _ hIS he⟩) ⟨hit.at fun o q => hk it o hiS q, ?_⟩ (fun b o hb _ _ e => hk b o hb e) hS₁ rfl rfl
      ⟨List.Pairwise.nil, (fun _ ha => nomatch ha), (fun j a hj => by simp at hj)⟩ (by rw [hsz]; exact hlo4)
    obtain ⟨o, ho, r⟩ := hl
    exact ⟨o, hk l o hlS ho, r⟩
  have hT : s.TypeIs (.ref I) "enumerate" := ⟨_, he, rfl⟩
  unfold Builtin.List.listExtendWith
  refine wpAny_bind (wpAny_typeOf (T := "enumerate") hT ?_)
  have h1 : Builtin.List.listSameRef (.ref S) (.ref I) = false := by simp [Builtin.List.listSameRef, Ne.symm hIS]
  have h2 : (Value.type "enumerate" == Value.type "list") = false := by decide
  have h3 : (Value.type "enumerate" == Value.type "tuple") = false := by decide
  simp only [h1, h2, h3, Bool.or_false, Bool.false_eq_true, if_false]
  refine wpAny_bind (wpAny_pyIter_enum he ?_)
  refine wpAny_bind (wpAny_holding ?_)
  unfold Builtin.List.listLengthHint
  refine wpAny_bind (wpAny_specialOf hT nolen ?_)
  show wpAny _ A.in1 (specialOf (Value.ref I) (Str.ofString "__length_hint__") >>= _) _ _ _
  refine wpAny_bind (wpAny_specialOf hT nohint ?_)
  refine wpAny_pure ?_
  show wpAny _ A.in1 (rule "list.extend.makes-room" >>= fun _ => Builtin.List.listTouch (.ref S) >>= fun _ =>
    again (.builtin "list.extend.loop" ⟨[.ref S, .ref I, res], []⟩)) _ _ _
  refine wpAny_bind (wpAny_rule ?_)
  refine wpAny_bind ?_
  show wpAny _ A.in1 (updateSeq S (·.push .none) >>= fun _ => updateSeq S (·.pop)) _ _ _
  refine wpAny_bind (wpAny_updateSeq hS rfl ?_)
  have hS₂ := Heap.get?_update_self (Obj.mapSeq (·.push Value.none)) hS rfl
  refine wpAny_updateSeq (hz := by seq_fits) hS₂ rfl ?_
  have hS₃ := Heap.get?_update_self (Obj.mapSeq (·.pop)) hS₂ rfl
  refine wpAny_pure ⟨plainId_quiet PySem.F.plain_extend_loop _, key _ _ _ (fun b o hb e => ?_) ?_ hS₃⟩
  · exact (Heap.get?_update_other _ _ (Ne.symm hb)).trans ((Heap.get?_update_other _ _ (Ne.symm hb)).trans e)
  · exact (Heap.SameBut.update ..).1.trans (Heap.SameBut.update ..).1
theorem listEnum {Q : Value → Shared → Prop} (hh : A.handled = none) (he : IsEnum s.heap I it 0 .none) (hit : s.heap.IsListIter it l 0) (hl : s.heap.IsList l its) (hli : l ≠ it) (hIi : I ≠ it) (hIl : I ≠ l) (hn : its.size ≤ sizeLine)
    (hQ : ∀ h' tk acc c as, (∀ b o, b ≠ I → b ≠ it → s.heap.get? b = some o → h'.get? b = some o) → h'.get? s.heap.objs.size = some { cls := .type "list", dict := none, data := .seq acc c, slots := #[] } → as.length = its.size → Made its s.heap.objs.size h' as → acc.toList = as.map Value.ref → Q (.ref s.heap.objs.size) { s with heap := h', toks := tk }) :
    wpAny (model prog w) A (call (.type "list") [.ref I]) Q E s := by
  refine callType_codes (Q₁ := fun obj t => obj = .ref s.heap.objs.size ∧ t = { s with heap := s.heap.push { cls := .type "list", data := .seq #[] } }) PySem.F.called_list (PySem.F.typeCall_list_1 _) PySem.F.entry_list_init (code_list_new _ ⟨rfl, rfl⟩) fun obj t ht => ?_
  obtain ⟨rfl, rfl⟩ := ht
  have hS : (s.heap.push { cls := .type "list", data := .seq #[] }).get? s.heap.objs.size = some { cls := .type "list", data := .seq #[] } := Heap.get?_push_size _ rfl
  have hI : I < s.heap.objs.size := Heap.lt_size he
  have hi : it < s.heap.objs.size := by obtain ⟨_, q, _⟩ := hit; exact Heap.lt_size q
  have hll : l < s.heap.objs.size := by obtain ⟨_, q, _⟩ := hl; exact Heap.lt_size q
  refine ⟨⟨_, hS, rfl⟩, PySem.F.args_list_init_2 _ _, ?_⟩
  show wpAny _ _ (do let old ← Builtin.List.listItems (.ref s.heap.objs.size); Builtin.List.listUpdate (.ref s.heap.objs.size) (fun _ => #[]); letGo old.toList.reverse; Builtin.List.listExtendWith (.ref s.heap.objs.size) (.ref I) .none) _ _ _
  unfold Builtin.List.listItems
  refine wpAny_bind (wpAny_bind (wpAny_seqItems hS rfl (wpAny_pure ?_)))
  show wpAny _ _ (updateSeq s.heap.objs.size (fun _ => #[]) >>= fun _ => letGo (#[] : Array Value).toList.reverse >>= fun _ => Builtin.List.listExtendWith (.ref s.heap.objs.size) (.ref I) .none) _ _ _
  refine wpAny_bind (wpAny_updateSeq hS rfl ?_)
  have hS2 := Heap.get?_update_self (Obj.mapSeq (fun _ => (#[] : Array Value))) hS rfl
  have sz : ((s.heap.push { cls := .type "list", data := .seq #[] }).update s.heap.objs.size (Obj.mapSeq (fun _ => (#[] : Array Value)))).objs.size = s.heap.objs.size + 1 := (Heap.SameBut.update ..).1.trans (Heap.size_push ..)
  have ot : ∀ b o, s.heap.get? b = some o → ((s.heap.push { cls := .type "list", data := .seq #[] }).update s.heap.objs.size (Obj.mapSeq (fun _ => (#[] : Array Value)))).get? b = some o := fun b o e => (Heap.get?_update_other _ _ (Nat.ne_of_gt (Heap.lt_size e))).trans (Heap.get?_push_of_some _ e)
  refine wpAny_bind (wpAny_letGo (extE (A := A.in1) (s := { s with heap := (s.heap.push { cls := .type "list", data := .seq #[] }).update s.heap.objs.size (Obj.mapSeq (fun _ => (#[] : Array Value))) }) (its := its) (l := l) (it := it) hh (ot _ _ he) (hit.at fun o q => ot _ _ q) ?_ s.heap.objs.size (Nat.ne_of_lt hI) (Nat.ne_of_lt hi) (Nat.ne_of_lt hll) hli hIi hIl .none _ hS2 s.heap.objs.size (Nat.le_refl _) (Nat.le_of_lt hI) (Nat.le_of_lt hi) (by rw [sz]; exact Nat.lt_succ_self _) (fun h' tk acc c as hk hS' hal hG hacc => ⟨rfl, hQ h' tk acc c as (fun b o h1 h2 e => hk b o (Nat.ne_of_lt (Heap.lt_size e)) h1 h2 (ot b o e)) hS' hal hG hacc⟩) hn))
  obtain ⟨o, ho, r⟩ := hl
  exact ⟨o, ot l o ho, r⟩
end
end Gx.EnL
namespace Gx
open PySem PySem.Spec PyProof.Rows L2
open Rp (rp)
open Ra (ra)
open Ob (ob)
def tListEnum (X : Cx) (ta : TA) : TE := fun σ H Q => ta σ H fun vs H1 => ∃ a xs, vs = [.ref a] ∧ SqL X.K H1 a xs ∧ ∀ (H' : Hp) (p : Addr) (ts : List Addr), L2.Same H1 H' → H1 p = none → H' p = some (.lst (ts.map V.ref)) →
  ts.length = xs.length → (∀ (j : Nat) (t : Addr) (x : V), ts[j]? = some t → xs[j]? = some x → H' t = some (.tup [.int (j : Nat), x])) → Q (.ref p) H'
theorem pe_listEnum {X : Cx} {e : Expr} {pos p p2 cpos : Pos} {ta : TA} (hc : X.calm = true) (hg : Gl X "list") (hm : X.mg "list" = none) (hv : bootBuiltins "list" = some (.type "list")) (hg2 : Gl X "enumerate") (hm2 : X.mg "enumerate" = none) (ha : PA X [e] ta)
    (hs : starEach [.Call (.Name "enumerate" p2) [e] [] cpos] X.env = (false, eval (.Call (.Name "enumerate" p2) [e] [] cpos) X.env) :: starEach [] X.env := by rfl) (hs2 : starEach [e] X.env = [(false, eval e X.env)] := by rfl) :
    PE X (.Call (.Name "list" p) [.Call (.Name "enumerate" p2) [e] [] cpos] [] pos) (tListEnum X ta) := by
  refine ⟨fun pins s σ H Q I hq => ?_⟩
  refine wpAny_Call_Name_kw (ld_blt I hg hm hv ?_)
  refine PyProof.Rows.callWith_type1 ?_ hs rfl
  rw [hs]
  show wpAny _ _ (spliced ((false, eval (.Call (.Name "enumerate" p2) [e] [] cpos) X.env) :: backTo pos (starEach [] X.env))) _ _ s
  refine Calls.spliced_cons ?_
  refine Call_ (ld_blt I hg2 hm2 boot_enumerate (PyProof.Rows.callWith_type1 (thn (ha.run cpos pins s σ H _ I hq) fun us s1 ⟨vs, H1, I1, r1, q1⟩ => ?_) hs2 rfl))
  obtain ⟨a, xs, ex, hsq, q⟩ := q1
  subst ex
  cases r1 with
  | cons r rr =>
    cases rr
    cases r
    obtain ⟨its, rv, p', hz⟩ := I1.list hsq
    have il : s1.heap.IsList a its.toArray := p'.isList
    refine call_enumerate_list il fun h' he hit hsz hk => ?_
    have I2 : Inv X pins σ H1 { s1 with heap := h' } := I1.kept (t' := s1.toks) hk
    refine Calls.spliced_nil ?_
    have ll : a < s1.heap.objs.size := by obtain ⟨_, q, _⟩ := il; exact Heap.lt_size q
    have il2 : h'.IsList a its.toArray := by
      obtain ⟨o, ho, r⟩ := il
      exact ⟨o, hk a o ho, r⟩
    refine EnL.listEnum (s := { s1 with heap := h' }) (its := its.toArray) (l := a) (I1.ok.hd hc) he hit il2 (Nat.ne_of_lt ll) (Nat.succ_ne_self _) (Nat.ne_of_gt (Nat.lt_succ_of_lt ll)) (by have := rv.length; simpa [← this] using hz) fun h2 tk acc c as hk2 hS hal hG hacc => ?_
    have hk3 : ∀ b o, s1.heap.get? b = some o → h2.get? b = some o := fun b o e => hk2 b o (Nat.ne_of_lt (Nat.lt_succ_of_lt (Heap.lt_size e))) (Nat.ne_of_lt (Heap.lt_size e)) (hk b o e)
    dsimp only at hS hG
    have newS : H1 h'.objs.size = none := I2.hok.fresh (Nat.le_refl _)
    have lenI : as.length = its.length := by rw [hal]; simp
    have hsl : s1.heap.objs.size ≤ h'.objs.size := by rw [hsz]; omega
    have J : Inv X pins σ (upd H1 h'.objs.size (.lst (as.map V.ref))) { s1 with heap := h2, toks := tk } := I1.laid (t' := tk) hk3 hsl (show ObjOk X.prog X.w _ _ _ (.lst (as.map V.ref)) from ⟨by rw [List.length_map, lenI, ← rv.length]; exact hz, acc.toList, c, by rw [hacc]; exact LiI.vals_refs as, by rw [Array.toArray_toList]; exact hS⟩)
    have nd : as.Nodup := List.Pairwise.imp (fun {a b} (h : a < b) => Nat.ne_of_lt h) hG.rise
    obtain ⟨H2, J2, k2, q2⟩ := L2.DX.takeT (P := fun b vs => ∃ (j : Nat) (v : V), as[j]? = some b ∧ xs[j]? = some v ∧ vs = [.int (j : Nat), v]) I1 as _ J nd fun b hb => by
      obtain ⟨j, hj⟩ := List.mem_iff_getElem?.mp hb
      obtain ⟨u, t, h1, h2⟩ := hG.pairs j b hj
      have h1' : its[j]? = some u := by simpa using h1
      obtain ⟨v, hv, rvu⟩ := L2.DX.pget rv h1'
      have ab := hG.above b hb
      refine ⟨Nat.le_trans hsl (Nat.le_of_lt ab), ?_, _, ⟨j, v, hj, hv, rfl⟩, fun H3 => ⟨by show 2 ≤ sizeLine; decide, [.int (j : Nat) t, u], .cons ⟨_, rfl⟩ (.cons rvu .nil), ⟨_, h2, rfl, _, rfl⟩⟩⟩
      rw [upd_ne (Nat.ne_of_gt ab)]
      exact I1.hok.fresh (Nat.le_trans hsl (Nat.le_of_lt ab))
    have up1 : L2.Same H1 H2 := fun b o e => k2 b o (by rw [upd_ne (ne_of_none e newS)]; exact e)
    have lx : xs.length = its.length := rv.length
    refine ⟨.ref _, H2, J2, rfl, q H2 _ as up1 newS (k2 _ _ upd_same) (by omega) fun j b x e1 e2 => ?_⟩
    obtain ⟨vs, ⟨j', v, f1, f2, rfl⟩, f4⟩ := q2 b (List.mem_of_getElem? e1)
    have : j' = j := (List.getElem?_inj (List.getElem?_eq_some_iff.mp f1).1 nd).mp (f1.trans e1.symm)
    subst this
    rw [e2] at f2
    cases f2
    exact f4
section
variable {X : Cx} {a e : Expr} {σ : L2.St} {F H : Hp} {pos : Pos} {α : Type} [Rp α]
theorem enumR_rps {K : PySem.W.Frag} {F' : Hp} : ∀ {xs : List α} {vs : List V} {ts : List Addr} (k : Int), Rps K F' vs xs → ts.length = vs.length → (∀ (j : Nat) (t : Addr) (x : V), ts[j]? = some t → vs[j]? = some x → F' t = some (.tup [.int (k + (j : Int)), x])) → Rps K F' (ts.map V.ref) ((enumF k xs))
  | [], _, [], _, .nil, _, _ => .nil
  | [], _, _ :: _, _, .nil, h, _ => nomatch h
  | _ :: _, _, [], _, .cons _ _, h, _ => nomatch h
  | x :: xs, v :: vs, t :: ts, k, .cons r rs, h, hh => by
    refine .cons ⟨t, _, rfl, hh 0 t v rfl rfl, _, _, rfl, ?_, _, _, rfl, r, rfl⟩ ?_
    · show V.int (k + ((0 : Nat) : Int)) = V.int k
      congr 1; omega
    refine enumR_rps (k + 1) rs (Nat.succ.inj h) fun j t' x' e1 e2 => ?_
    have := hh (j + 1) t' x' e1 e2
    rw [show k + ((j + 1 : Nat) : Int) = k + 1 + (j : Int) by omega] at this
    exact this
theorem en_listEnum {xs : List α} {p p2 cpos : Pos} (hm : X.mg "list" = none) (hm2 : X.mg "enumerate" = none) (ha : Ev X a σ F H xs) (hc : X.calm = true := by rfl) (hg : Gl X "list" := by rfl) (hg2 : Gl X "enumerate" := by rfl)
    (hs : starEach [.Call (.Name "enumerate" p2) [a] [] cpos] X.env = (false, eval (.Call (.Name "enumerate" p2) [a] [] cpos) X.env) :: starEach [] X.env := by rfl) (hs2 : starEach [a] X.env = [(false, eval a X.env)] := by rfl) : EvN X (.Call (.Name "list" p) [.Call (.Name "enumerate" p2) [a] [] cpos] [] pos) σ F H (enumL xs) := fun F1 H1 g Q q =>
  GoE.of (pe_listEnum hc hg hm (by decide +kernel) hg2 hm2 (pa_cons pe_go pa_nil (by rw [hs2]; rfl)) hs hs2) (ha F1 H1 g _ fun v F2 H2 g2 r2 => by
    obtain ⟨d, vs, e, hq, rs⟩ := r2
    refine ⟨d, vs, by rw [e], g2.fh.seq hq, fun H' l ts up hl hl2 hlen hp => ?_⟩
    have g3 : Gr F2 H2 (ftup F2 H') H' := .tups g2.fh up
    refine q l _ (ftup F2 H') H' (g2.trans g3) (g2.hh.free hl) ?_ hl2 (ob_lst (enumR_rps 0 (rs.mono g3.ff) hlen fun j t x e1 e2 => ?_))
    · rw [ftup_no hl2 trivial]
      exact g2.fh.free hl
    · rw [Int.zero_add]
      exact ftup_tup (hp j t x e1 e2))
end
end Gx
namespace Gx
open PySem PySem.Spec PyProof.Rows L2
open Rp (rp)
open Ra (ra)
open Ob (ob)
section
variable {X : Cx} {K : PySem.W.Frag} {e a b c d : Expr} {es : List Expr} {σ : L2.St} {F H F0 H0 : Hp} {pos : Pos} {D : Ends} {st : Stmt} {rest body : List Stmt} {α : Type} [Rp α] {t t' : List (List α)} {l l2 : Addr} {ex : List Addr}
theorem en_nil2 {p : Pos} : EvN2 X (.List [] p) σ F H ([] : List (List α)) := fun F1 H1 g Q q =>
  en_list (α := Ad) el_nil (Nat.zero_le _) F1 H1 g Q fun l o F2 H2 g2 n2 f2 h2 b2 => q l F2 H2 g2 ⟨[], ⟨n2, f2, o, h2, b2⟩, .nil, by simp, fun _ h => nomatch h⟩
theorem go_appNil2 {n : Str} {p1 p2 p3 p4 : Pos} (i : Nat) (s : SmX X.K F H) (o : Own2 X.K H0 F H l ex t) (hσ : σ[i]? = some (some (.ref l))) (h0 : Xt H0 H) (hne : AllNe H ex) (happ : app t [] = some t')
    (kk : ∀ w F' H', Gr F H F' H' → H0 l = none → PlAt H' l → F' l = none → PlAt (upd H' l w) l → (∀ b ∈ ex, b ≠ l) → Own2 X.K H0 F' (upd H' l w) l ex t' → GoS X rest D σ (upd H' l w))
    (hN : X.N[i]? = some n := by rfl) (hv : Vis X.env.scope n := by first | exact Or.inl rfl | exact Or.inr (Or.inl rfl) | exact Or.inr (Or.inr rfl)) (hd : (n == ("__debug__" : Str)) = false := by decide) (hcd : (n == ("__classdict__" : Str)) = false := by decide)
    (hbase : attributeBase (.Name n p1) "append" X.env (eval (.Name n p1) X.env) = eval (.Name n p1) X.env := by rfl)
    (hfew : ((backTo p3 (starEach [.List [] p4] X.env)).all (fun x => !x.1) && (backToKw p3 (keywordEach [] X.env)).all (fun x => x.1.isSome) && decide ([Expr.List [] p4].length + ([] : List Keyword).length + (if ([] : List Keyword).isEmpty then 0 else 1) < 30)) = true := by rfl)
    (hline : (p2.endLine == p3.line) = true := by rfl) (hs : starEach [.List [] p4] X.env = (false, eval (.List [] p4) X.env) :: starEach [] X.env := by rfl) (hplain : (backTo p3 (starEach [] X.env)).any (·.1) = false := by rfl)
    (hsw : swapsWith (.Call (.Attribute (.Name n p1) "append" p2) [.List [] p4] [] p3) none pos.line X.env = pure false := by rfl) :
    GoS X (.Expr (.Call (.Attribute (.Name n p1) "append" p2) [.List [] p4] [] p3) pos :: rest) D σ H := by
  obtain ⟨hz, rfl⟩ := app_of happ
  obtain ⟨as, ol, pr, nd, hx⟩ := o.w
  obtain ⟨nl, nda⟩ := List.nodup_cons.mp nd
  obtain ⟨_, hl, vs, rfl, rs⟩ := ol.h
  refine GoS.cons (ps_expr (pe_bm PySem.F.plainAttrs_list PySem.F.slot_list_append PySem.F.type_list_append mt_append (pe_var hN hv hd hcd) (pa_cons pe_go pa_nil hs) hbase hfew hline hs hplain) hsw) ?_
  refine ⟨_, hσ, .inl ⟨rfl, _, SqL.of hl⟩, en_list (α := α) el_nil (Nat.zero_le _) F H (.refl s) _ fun q u F2 H2 g2 n2 f2 h2 b2 => ?_⟩
  have hl2 := g2.hh.k _ _ hl trivial
  have rs2 := rs.mono g2.ff
  have ol2 := ol.up g2
  have ql : q ≠ l := fun e => by rw [e, hl] at n2; cases n2
  have qa : q ∉ as := fun m => by
    obtain ⟨r, _, z⟩ := paired_l pr m
    exact z.ne0 n2
  have oq : Own X.K H0 F2 H2 q ([] : List α) := ⟨h0.free n2, f2, u, h2, b2⟩
  have on : Own X.K H0 F2 (upd H2 l (.lst (vs ++ [.ref q]))) l ((as ++ [q]).map Ad.mk) := Own.set ol2.n ol2.f (by rw [List.map_append]; exact ob_lst (Rps.append rs2 (.cons rfl .nil)))
  refine ⟨l, vs, .ref q, rfl, rfl, hl2, by rw [rs.length, List.length_map, pr.length]; exact hz, ?_⟩
  refine kk _ F2 H2 g2 ol2.n ol2.pl ol2.f on.pl (fun b hb e => hx b hb (e ▸ List.mem_cons_self)) ⟨as ++ [q], on, ?_, List.nodup_cons.mpr ⟨fun m => ?_, ?_⟩, fun b hb m => ?_⟩
  · exact paired_snoc' (paired_mapM pr fun a ma _ z => (z.up g2).other fun e => nl (e ▸ ma)) (oq.other ql)
  · rcases List.mem_append.mp m with m | m
    · exact nl m
    · exact ql (List.mem_singleton.mp m).symm
  · rw [List.nodup_append]
    exact ⟨nda, by simp, fun a m b mb e => by rw [List.mem_singleton] at mb; subst mb; subst e; exact qa m⟩
  · rcases List.mem_cons.mp m with e | m
    · exact hx b hb (e ▸ List.mem_cons_self)
    · rcases List.mem_append.mp m with m | m
      · exact hx b hb (List.mem_cons_of_mem _ m)
      · rw [List.mem_singleton] at m; subst m
        exact hne.mem _ hb n2
def appG2 (t : List (List α)) (i : Int) (v : α) : Option (List (List α)) := match ixN t.length i with
  | none => none
  | some n => match t[n]? with
    | none => none
    | some r => (app r v).map fun w => t.set n w
theorem go_app22 {v : α} {k1 : Int} {n : Str} {a1 : Expr} {p1 p2 p3 p4 : Pos} (i : Nat) (s : SmX X.K F H) (o : Own2 X.K H0 F H l ex t) (hσ : σ[i]? = some (some (.ref l))) (hk1 : Ev X a1 σ F H k1) (hb : Ev X b σ F H v) (h : appG2 t k1 v = some t')
    (kk : ∀ p u F' H', Gr F H F' H' → H0 p = none → PlAt H' p → F' p = none → PlAt (upd H' p u) p → (∀ b ∈ ex, b ≠ p) → Own2 X.K H0 F' (upd H' p u) l ex t' → GoS X rest D σ (upd H' p u)) (hp : PlainIx a1 := by exact fun _ _ => rfl)
    (hN : X.N[i]? = some n := by rfl) (hv : Vis X.env.scope n := by first | exact Or.inl rfl | exact Or.inr (Or.inl rfl) | exact Or.inr (Or.inr rfl)) (hd : (n == ("__debug__" : Str)) = false := by decide) (hcd : (n == ("__classdict__" : Str)) = false := by decide)
    (hbase : attributeBase (.Subscript (.Name n p1) a1 p2) "append" X.env (eval (.Subscript (.Name n p1) a1 p2) X.env) = eval (.Subscript (.Name n p1) a1 p2) X.env := by rfl)
    (hfew : ((backTo p4 (starEach [b] X.env)).all (fun x => !x.1) && (backToKw p4 (keywordEach [] X.env)).all (fun x => x.1.isSome) && decide ([b].length + ([] : List Keyword).length + (if ([] : List Keyword).isEmpty then 0 else 1) < 30)) = true := by rfl)
    (hline : (p3.endLine == p4.line) = true := by rfl) (hs : starEach [b] X.env = (false, eval b X.env) :: starEach [] X.env := by rfl) (hplain : (backTo p4 (starEach [] X.env)).any (·.1) = false := by rfl)
    (hsw : swapsWith (.Call (.Attribute (.Subscript (.Name n p1) a1 p2) "append" p3) [b] [] p4) none pos.line X.env = pure false := by rfl) :
    GoS X (.Expr (.Call (.Attribute (.Subscript (.Name n p1) a1 p2) "append" p3) [b] [] p4) pos :: rest) D σ H := by
  unfold appG2 at h
  cases hn : ixN t.length k1 with
  | none => rw [hn] at h; cases h
  | some m =>
    rw [hn] at h
    dsimp only at h
    cases hmm : t[m]? with
    | none => rw [hmm] at h; cases h
    | some row =>
      rw [hmm] at h
      obtain ⟨w, hw, rfl⟩ := Option.map_eq_some_iff.mp h
      obtain ⟨hz, rfl⟩ := app_of hw
      obtain ⟨as, ol, pr, nd, hx⟩ := o.w
      obtain ⟨nl, nda⟩ := List.nodup_cons.mp nd
      obtain ⟨p, hpm, op⟩ := paired_getA pr hmm
      have pm := List.mem_of_getElem? hpm
      refine GoS.cons (ps_expr (pe_bm PySem.F.plainAttrs_list PySem.F.slot_list_append PySem.F.type_list_append mt_append (pe_ix ix_list (pe_var hN hv hd hcd) pe_go hp) (pa_cons pe_go pa_nil hs) hbase hfew hline hs hplain) hsw) ?_
      refine ⟨_, hσ, hk1 F H (.refl s) _ fun v2 F2 H2 g2 r2 => ?_⟩
      obtain ⟨_, hl, vs, rfl, rs⟩ := (ol.up g2).h
      have op2 := op.up g2
      obtain ⟨_, hp2, wp2, rfl, rw2⟩ := id op2.h
      refine ⟨l, vs, k1, .ref p, rfl, r2, SqL.of hl, own2_ix (t := t) (row := row) rs pr.length hn hpm, .inl ⟨rfl, _, SqL.of hp2⟩, hb F2 H2 (s.gx g2) _ fun v3 F3 H3 g3 r3 => ?_⟩
      have g23 := g2.trans g3
      have hp3 := g3.hh.k _ _ hp2 trivial
      have rw3 := rw2.mono g3.ff
      have op3 := op2.up g3
      have on : Own X.K H0 F3 (upd H3 p (.lst (wp2 ++ [v3]))) p (row ++ [v]) := Own.set op3.n op3.f (ob_lst (Rps.append rw3 (.cons r3 .nil)))
      refine ⟨p, wp2, v3, rfl, rfl, hp3, by rw [rw2.length]; exact hz, ?_⟩
      refine kk p _ F3 H3 g23 op3.n op3.pl op3.f on.pl (fun b hb e => hx b hb (e ▸ List.mem_cons_of_mem _ pm)) ⟨as, ?_, ?_, nd, hx⟩
      · exact (ol.up g23).other (fun e => nl (e ▸ pm))
      · exact paired_poke (L2.Paired.mapP pr fun _ _ z => z.up g23) nda hpm on
end
end Gx
namespace Gx
open PySem PySem.Spec PyProof.Rows L2
open Rp (rp)
open Ra (ra)
open Ob (ob)
structure FznS {β : Type} [Rp β] [Ob β] (X : Cx) (H0 Fo Ho : Hp) (l : Addr) (Fs Hs : Hp) (x : β) : Prop where
  hn : ∀ o' u', X.H_0 l ≠ some (.frz o' u')
  n : H0 l = none
  f : Fo l = none
  e : ∃ od u, Ho l = some u ∧ Fs = upd Fo l (.frz od u) ∧ Hs = upd Ho l (.frz od u) ∧ ob X.K Fo u x
section
variable {X : Cx} {σ : L2.St} {F H F0 H0 Fo Ho Fs Hs : Hp} {D : Ends} {β : Type} [Rp β] [Ob β] {x : β} {l : Addr} {st : List Stmt}
end
end Gx
namespace Gx
open PySem PySem.Spec PyProof.Rows L2
open Rp (rp)
open Ra (ra)
open Ob (ob)
section
variable {X : Cx} {K : PySem.W.Frag} {e a b c d : Expr} {es : List Expr} {σ : L2.St} {F H F0 H0 : Hp} {pos : Pos} {D : Ends} {st : Stmt} {rest body : List Stmt}
def sSplit (x y : Str) : Option (List Str) := if x.length + 2 ≤ sizeLine ∧ (y.length == 0) = false then some (Txt.split x y) else none
def sWords (x : Str) : Option (List Str) := if x.length + 2 ≤ sizeLine then some (Txt.words x) else none
def sStripC (x y : Str) : Option Str := if x.length ≤ sizeLine then some (Txt.stripChars x y) else none
def sStrip (x : Str) : Option Str := if x.length ≤ sizeLine then some (Txt.strip x) else none
end
structure KdI (K : PySem.W.Frag) (w : World) (nm : Str) (kvs : List (Str × Int)) : Prop where
  d : ∃ es n, K.lookup (He.ga K nm) = some ⟨.type "dict", none, .dict es n, #[]⟩ ∧ PySem.W.KeysLit w.params es.toList ∧ (He.ga K nm == sysModules) = false
  ix : ∀ z, ∃ r : Option Value, PySem.W.nsIn K (He.ga K nm) z = some r ∧ (match kvLook kvs z with | none => r = none | some i => ∃ u, r = some u ∧ RelV (.int i) u)
inductive Kdt (nm : Str) | mk
instance {nm : Str} : Rp (Kdt nm) := ⟨fun K F v _ => v = .ref (He.ga K nm), fun _ h => h⟩
def kdGet (kvs : List (Str × Int)) (k : Str) : Option Int := kvLook kvs k
section
variable {X : Cx} {K : PySem.W.Frag} {e a b c d : Expr} {es : List Expr} {σ : L2.St} {F H F0 H0 : Hp} {pos : Pos} {D : Ends} {nm : Str} {kvs : List (Str × Int)}
theorem KdI.kd (k : KdI X.K X.w nm kvs) : ∃ es n, L2.KDict X.K X.w (He.ga X.K nm) es n := let ⟨es, n, h1, h2, h3⟩ := k.d; ⟨es, n, h1, h2, h3⟩
end
section
variable {X : Cx} {K : PySem.W.Frag} {e a b c d : Expr} {es : List Expr} {σ : L2.St} {F H F0 H0 : Hp} {pos : Pos} {D : Ends} {st : Stmt} {rest body : List Stmt} {τ φ θ : Type} [Ra φ] [Rw τ φ] {cn : Str} {ns : List Str} {P : θ → τ} {l : Addr} {ex : List Addr} {w w' w1 : θ}
theorem ers_upd {p : Addr} {u : HO} {S : List Addr} (h : p ∈ S) : ers (upd H p u) S = ers H S := by
  funext b
  by_cases m : b ∈ S
  · rw [ers_in m, ers_in m]
  · rw [ers_out m, ers_out m, upd_ne fun z => m (by rw [z]; exact h)]
theorem Gr.pokeS {S : List Addr} {F2 H2 : Hp} {p : Addr} {u : HO} (g : Gr F H F2 H2) (h : ∀ q ∈ S, F q = none ∧ PlL H q) (hp : p ∈ S) : Gr F (ers H S) F2 (ers (upd H2 p u) S) := by
  rw [ers_upd hp]
  exact g.erS fun q m => ⟨(h q m).1, (h q m).2⟩
theorem same_poke {F2 H2 : Hp} {p : Addr} {u : HO} (s : L2.Same F2 H2) (f : F2 p = none) : L2.Same F2 (upd H2 p u) := fun b o h => by
  rw [upd_ne fun z => by rw [z, f] at h; cases h]; exact s b o h
theorem AftR.at {y : θ} {F2 H2 : Hp} {p : Addr} {u : HO} (g : Gr F H F2 H2) (hp : H0 p = none ∧ F p = none ∧ PlL H p) (f2 : F2 p = none) (hx : ∀ b ∈ ex, b ≠ p) (o : OwR cn ns K H0 F2 (upd H2 p u) l ex (P y)) : AftR cn ns P K H0 F H l ex y F2 (upd H2 p u) :=
  ⟨⟨[p], fun q m => by rw [List.mem_singleton.mp m]; exact hp, fun b hb m => hx b hb (List.mem_singleton.mp m),
    (g.pokeS (u := u) (fun q m => by rw [List.mem_singleton.mp m]; exact hp.2) (.head _)).trans (Gr.startS (same_poke g.fh f2))⟩, o⟩
theorem AftR.rfl {y : θ} {F2 H2 : Hp} (o : OwR cn ns K H0 F H l ex (P y)) (g : Gr F H F2 H2) : AftR cn ns P K H0 F H l ex y F2 H2 := by
  refine ⟨⟨[], fun p m => (nomatch m), fun b _ m => (nomatch m), ?_⟩, o.up g⟩
  have : ers H [] = H := by
    funext b
    exact ers_out fun m => nomatch m
  rw [this]; exact g
theorem AftR.pre {y : θ} {F1 H1 F2 H2 : Hp} (g : Gr F H F1 H1) (a : AftR cn ns P K H0 F1 H1 l ex y F2 H2) : AftR cn ns P K H0 F H l ex y F2 H2 := by
  obtain ⟨S, h1, h2, h3⟩ := a.s
  refine ⟨⟨S.filter fun p => (H p).isSome, fun p m => ?_, fun b hb m => h2 b hb (List.mem_filter.mp m).1, ?_⟩, a.o⟩
  · obtain ⟨m1, m2⟩ := List.mem_filter.mp m
    obtain ⟨n1, n2, u, e1, e2, e3⟩ := h1 p m1
    obtain ⟨v, hv⟩ := Option.isSome_iff_exists.mp m2
    refine ⟨n1, ?_, ?_⟩
    · cases hf : F p with
      | none => exact Eq.refl _
      | some z => rw [g.ff _ _ hf] at n2; cases n2
    · cases v with
      | tbl ps =>
        obtain ⟨qs, hq⟩ := g.hh.t p ps hv
        rw [hq] at e1
        cases (Option.some.inj e1)
        exact (e3.ntb).elim
      | _ =>
        have := g.hh.k _ _ hv trivial
        rw [this] at e1
        cases (Option.some.inj e1)
        exact ⟨_, hv, e2, e3⟩
  · have e0 : ∀ q, q ∈ S → q ∉ S.filter (fun p => (H p).isSome) → H q = none := fun q m m' => by
      cases hq : H q with
      | none => exact Eq.refl _
      | some u => exact absurd (List.mem_filter.mpr ⟨m, by rw [hq]; rfl⟩) m'
    have e1 : ers H (S.filter fun p => (H p).isSome) = ers H S := by
      funext q
      by_cases m : q ∈ S
      · rw [ers_in m]
        by_cases m' : q ∈ S.filter (fun p => (H p).isSome)
        · exact ers_in m'
        · rw [ers_out m']; exact e0 q m m'
      · rw [ers_out m, ers_out fun m' => m (List.mem_filter.mp m').1]
    rw [e1]
    have g1 : Gr F (ers H S) F1 (ers H1 S) := by
      refine ⟨g.ff, same_ers g.fh fun q m => (h1 q m).2.1, ⟨fun b u e n => ?_, fun b ps e => ?_, fun Q q => ?_⟩, fun b u e n => ?_⟩
      · obtain ⟨m, e⟩ := ers_some e
        rw [ers_out m]; exact g.hh.k _ _ e n
      · obtain ⟨m, e⟩ := ers_some e
        rw [ers_out m]; exact g.hh.t _ _ e
      · exact (g.hh.w Q (Xt.w (.same fun a o h => (ers_some h).2) Q q)).ers fun q m => (h1 q m).2.2.pl
      · exact g.fr _ _ (ers_some e).2 n
    exact g1.trans h3
end
def setdG {κ ν : Type} [DecidableEq κ] (m : Dct κ ν) (k : κ) (v : ν) : Option (ν × Dct κ ν) := if m.l.length < sizeLine then some (match kvLook m.l k with | some x => (x, m) | none => (v, ⟨kvPut m.l k v⟩)) else none
section
variable {X : Cx} {K : PySem.W.Frag} {e f a b c d : Expr} {es : List Expr} {σ : L2.St} {F H F0 H0 : Hp} {pos : Pos} {D : Ends} {st : Stmt} {rest body : List Stmt} {τ φ θ : Type} [Ra φ] [Rw τ φ] {cn : Str} {ns : List Str} {P : θ → τ} {l : Addr} {ex : List Addr} {w w' w1 : θ}
def EtMR (cn : Str) (ns : List Str) (P : θ → τ) (X : Cx) (e : Expr) (σ : L2.St) (H0 F H : Hp) (l : Addr) (ex : List Addr) (r : Bool) (y : θ) : Prop := ∀ Q : Bool → Hp → Prop, (∀ F2 H2, AftR cn ns P X.K H0 F H l ex y F2 H2 → Q r H2) → GoT X e σ H Q
def EwMR (cn : Str) (ns : List Str) (P : θ → τ) (X : Cx) (e : Expr) (σ : L2.St) (H0 F H : Hp) (l : Addr) (ex : List Addr) (r : Bool) (y : θ) : Prop := ∀ Q : Bool → Hp → Prop, (∀ F2 H2, AftR cn ns P X.K H0 F H l ex y F2 H2 → Q r H2) → GoW X e σ H Q
theorem EwMR.cg {t r : Bool} {v y : θ} (e1 : t = r) (e2 : v = y) (h : EwMR cn ns P X e σ H0 F H l ex t v) : EwMR cn ns P X e σ H0 F H l ex r y := e1 ▸ e2 ▸ h
theorem EtMR.cg {t r : Bool} {v y : θ} (e1 : t = r) (e2 : v = y) (h : EtMR cn ns P X e σ H0 F H l ex t v) : EtMR cn ns P X e σ H0 F H l ex r y := e1 ▸ e2 ▸ h
theorem OwR.freeze {x : τ} {st : List Stmt} (o : OwR cn ns X.K H0 F H l ex x) (g : GrX X.K F0 H0 F H) (k : ∀ F' H', L2.Same F F' → L2.Same F' H' → GrX X.K F0 H0 F' H' → rpI cn ns X.K F' (.ref l) (Rw.fz x) → (∀ a ∈ ex, F' a = F a ∧ H' a = H a) → GoS X st D σ H') : GoS X st D σ H := by
  obtain ⟨fp, o⟩ := o.o
  obtain ⟨dx, vs, e, z, w⟩ := o.w
  obtain ⟨nl, nd⟩ := List.nodup_cons.mp o.nd
  refine Rw.th (J := fun F H => GrX X.K F0 H0 F H → GoS X st D σ H) (fun o s k g => o.freeze g fun F' H' s1 s2 g' r kk => k F' H' s1 s2 r kk g') w nd g.fh (fun F1 H1 s1 s2 r1 k1 g1 => ?_) g
  have kl := k1 l nl
  have h1 : H1 l = some (.ins (He.ga X.K cn) dx (ns.zip vs)) := kl.2.trans e
  have f1 : F1 l = none := kl.1.trans o.f
  have g2 := g1.freeze (o := .ins (He.ga X.K cn) dx (ns.zip vs)) o.n f1 ⟨_, h1, trivial⟩ trivial
  rw [upd_id h1] at g2
  refine k _ H1 (s1.trans (same_upd f1)) g2.fh g2 ⟨l, dx, vs, rfl, upd_same, Ra.mono (same_upd f1) r1⟩ fun b hb => ?_
  have hb := o.ex b hb
  have h1 := k1 b fun m => hb (List.mem_cons_of_mem _ m)
  have bl : b ≠ l := fun z => hb (by rw [z]; exact List.mem_cons_self)
  exact ⟨by rw [upd_ne bl]; exact h1.1, h1.2⟩
end
class RwNe (i j : Nat) (τ : Type) {φ : Type} [Ra φ] [Rw τ φ] : Prop where
  ne : ∀ {K : PySem.W.Frag} {H0 F H : Hp} {fp : List Addr} {vs : List V} {x : τ} {p q : Addr}, Rw.rw K H0 F H fp vs x → fp.Nodup → vs[i]? = some (.ref p) → vs[j]? = some (.ref q) → p ≠ q
theorem RwP.mem {i : Nat} {τ β φ : Type} [Rp β] [Ob β] [Ra φ] [Rw τ φ] [RwP i τ β] {K : PySem.W.Frag} {H0 F H : Hp} {fp : List Addr} {vs : List V} {x : τ} {p : Addr} (h : Rw.rw K H0 F H fp vs x) (hp : vs[i]? = some (.ref p)) : p ∈ fp := by
  obtain ⟨q, m, e, _⟩ := RwP.own (i := i) h
  rw [hp] at e
  injection (Option.some.inj e) with e
  rw [e]; exact m
instance {i : Nat} {α β τ φ : Type} [Rp α] [Ob α] [Rp β] [Ob β] [Ra φ] [Rw τ φ] [RwP i τ β] : RwNe 0 (i + 1) (Pv α × τ) := ⟨fun {K H0 F H fp vs x p q} ⟨p0, q0, r, e1, e2, o, w⟩ nd hp hq e => by
  subst e1; subst e2
  have h0 : p0 = p := by injection (Option.some.inj (show some (V.ref p0) = some (V.ref p) from hp))
  have h1 : q ∈ q0 := RwP.mem (i := i) w hq
  exact (List.nodup_cons.mp nd).1 (by rw [h0, e]; exact h1)⟩
instance {i : Nat} {α β τ φ : Type} [Rp α] [Ob α] [Rp β] [Ob β] [Ra φ] [Rw τ φ] [RwP i τ β] : RwNe (i + 1) 0 (Pv α × τ) := ⟨fun h nd hp hq e => RwNe.ne (i := 0) (j := i + 1) h nd hq hp e.symm⟩
instance {i j : Nat} {α τ φ : Type} [Rp α] [Ra φ] [Rw τ φ] [RwNe i j τ] : RwNe (i + 1) (j + 1) (α × τ) := ⟨fun ⟨v, r, e, h, w⟩ nd hp hq => by
  subst e
  exact RwNe.ne (i := i) (j := j) w nd hp hq⟩
instance {i j : Nat} {α τ φ : Type} [Rp α] [Ob α] [Ra φ] [Rw τ φ] [RwNe i j τ] : RwNe (i + 1) (j + 1) (Pv α × τ) := ⟨fun ⟨p0, q0, r, e1, e2, o, w⟩ nd hp hq => by
  subst e1; subst e2
  exact RwNe.ne (i := i) (j := j) w (List.nodup_cons.mp nd).2 hp hq⟩
section
variable {X : Cx} {K : PySem.W.Frag} {e f a b c d : Expr} {es : List Expr} {σ : L2.St} {F H F0 H0 : Hp} {pos : Pos} {D : Ends} {st : Stmt} {rest body : List Stmt} {τ φ θ : Type} [Ra φ] [Rw τ φ] {cn : Str} {ns : List Str} {P : θ → τ} {l : Addr} {ex : List Addr} {w w' w1 : θ}
end
section
variable {X : Cx} {K : PySem.W.Frag} {e a b c d : Expr} {es : List Expr} {σ : L2.St} {F H F0 H0 : Hp} {pos : Pos} {D : Ends} {st : Stmt} {rest body : List Stmt}
end
def GoE1 (X : Cx) (e : Expr) : TE := fun σ H Q => Bx (∀ pins s, 1 ≤ s.toks → Inv X pins σ H s → wpAny (model X.prog X.w) X.A (eval e X.env) (EP X pins σ Q) X.xe s)
def GoS1 (X : Cx) (st : List Stmt) : TS := fun D σ H => Bx (∀ pins s, 1 ≤ s.toks → Inv X pins σ H s → wpAny (model X.prog X.w) X.A (execs st X.env) (SP X pins D) X.xe s)
def sRepl (x y z : Str) : Option Str := if (y == z) = false ∧ x.length + (x.length + 1) * z.length ≤ 16777216 then some (Txt.replace x y z) else none
section
variable {X : Cx} {K : PySem.W.Frag} {e f a b c d : Expr} {es : List Expr} {σ : L2.St} {F H F0 H0 : Hp} {pos : Pos} {D : Ends} {st : Stmt} {rest body : List Stmt} {τ φ θ : Type} [Ra φ] [Rw τ φ] {cn : Str} {ns : List Str} {P : θ → τ} {l : Addr} {ex : List Addr} {w w' w1 : θ}
end
def wPut (w : World) (f : String → Bool) : World := { w with params := { w.params with followText := f } }
def fTx (f : String → Bool) (b : Bool) : String → Bool := fun s => if s = "special-get-raises" then b else f s
def wSet (w : World) (b : Bool) : World := wPut w (fTx w.params.followText b)
section
variable {X : Cx} {K : PySem.W.Frag} {e a b c d : Expr} {es : List Expr} {σ : L2.St} {F H F0 H0 : Hp} {pos : Pos} {D : Ends} {st : Stmt} {rest body : List Stmt}
theorem go_forX {α β ρ : Type} [Rp α] {tg iter : Expr} {g : TG} (xs : List α) (stp : β → α → Option (Lp β ρ)) (b0 : β) {o : Lp β ρ} (s : SmX X.K F H) (hi : EvI X tg iter σ F H xs) (hg : PG X tg g) (ho : loopM stp b0 xs = some o)
    (k : ∀ F2 H2, Gr F H F2 H2 → ∃ (Iv : β → L2.St → Hp → Hp → Prop) (Rt : ρ → V → Hp → Prop), Iv b0 σ F2 H2 ∧
      (∀ b x o', stp b x = some o' → (∀ y, o' = .rt y → o = .rt y) → ∀ σ F H v, L2.Same F2 F → L2.Same F H → Iv b σ F H → ∀ F' H', Gr F H F' H' → rp X.K F' v x → ∀ Q : L2.St → Hp → Prop, (∀ σ' H'', GoS X body (LE Iv Rt F o') σ' H'' → Q σ' H'') → g v σ H' Q) ∧
      (match o with | .nx b => ∀ σ F H, L2.Same F H → Iv b σ F H → GoS X rest D σ H | .bk b => ∀ σ F H, L2.Same F H → Iv b σ F H → GoS X rest D σ H | .rt r => ∀ v H, Rt r v H → D.rt v H))
    (hp : PassesOwn (model X.prog X.w) X.A X.env X.xe) (hc : X.calm = true := by rfl) (hs : ∀ x, foldedSetIterable iter X.env x = pure x := by intro _; rfl) : GoS X (.For tg iter body [] pos :: rest) D σ H := by
  refine GoS.cons (ps_for hp hc pi_go hg pss_go hs) (hi F H (.refl s) _ fun J F2 H2 g2 wk => ?_)
  obtain ⟨Iv, Rt, init, step, done⟩ := k F2 H2 g2
  refine ⟨fun i m σ H => m = xs.length - i ∧ i ≤ xs.length ∧ ∃ b F, L2.Same F2 F ∧ L2.Same F H ∧ Iv b σ F H ∧ loopM stp b (xs.drop i) = some o, ⟨_, rfl, Nat.zero_le _, b0, F2, .refl _, g2.fh, init, ho⟩, ?_⟩
  rintro i m σ' H' ⟨rfl, hle, b, Fi, s1, s2, iv, hl⟩
  obtain ⟨w1, w2⟩ := wk i Fi H' s1 s2
  rcases Nat.lt_or_ge i xs.length with hlt | hge
  · obtain ⟨x, hx⟩ : ∃ x, xs[i]? = some x := ⟨xs[i], List.getElem?_eq_getElem hlt⟩
    obtain ⟨hgo, hy⟩ := w1 x hx
    have ed : xs.drop i = x :: xs.drop (i + 1) := by
      rw [List.drop_eq_getElem_cons hlt]
      rw [List.getElem?_eq_getElem hlt] at hx
      rw [Option.some.inj hx]
    rw [ed] at hl
    unfold loopM at hl
    cases hst : stp b x with
    | none => rw [hst] at hl; cases hl
    | some o' =>
      rw [hst] at hl
      refine .inr ⟨hgo, fun σ3 H3 => ∃ b' F', o' = .nx b' ∧ L2.Same Fi F' ∧ L2.Same F' H3 ∧ Iv b' σ3 F' H3, fun σ3 H3 ⟨b', F', e, f1, f2, iv'⟩ => ?_, fun v H3 hv => ?_⟩
      · subst e
        exact ⟨xs.length - (i + 1), by omega, rfl, hlt, b', F', s1.trans f1, f2, iv', hl⟩
      · obtain ⟨F', gr, rv⟩ := hy v H3 hv
        refine step b x o' hst (fun y e => ?_) σ' Fi H' v s1 s2 iv F' H3 gr rv _ fun σ4 H4 q => q.mono (fun _ _ h => h) (fun v' H5 ⟨r, e, hr⟩ => ?_) (fun σ5 H5 ⟨b', F5, e, f1, f2, iv'⟩ => ?_) fun _ _ h => h
        · subst e
          exact (Option.some.inj hl).symm
        · subst e
          cases (Option.some.inj hl)
          exact done v' H5 hr
        · subst e
          cases (Option.some.inj hl)
          exact done σ5 F5 H5 f2 iv'
  · have e : i = xs.length := by omega
    subst e
    rw [List.drop_length] at hl
    cases (Option.some.inj hl)
    exact .inl ⟨w2 rfl, done σ' Fi H' s2 iv⟩
theorem go_forMX {α β ρ γ : Type} [Rp α] {tg iter : Expr} {g : TG} {xs : List α} {stp : β → α → Option (Lp β ρ)} {b0 : β} {o : Lp β ρ} {f1 : β → Option γ} {f2 : ρ → Option γ} {r : γ} (s : SmX X.K F H) (hi : EvI X tg iter σ F H xs) (hg : PG X tg g) (ho : loopM stp b0 xs = some o) (hm : o.thn f1 f2 = some r)
    (k : ∀ F2 H2, Gr F H F2 H2 → ∃ (Iv : β → L2.St → Hp → Hp → Prop) (Rt : ρ → V → Hp → Prop), Iv b0 σ F2 H2 ∧
      (∀ b x o', stp b x = some o' → (∀ y, Lp.rt y = o' → f2 y = some r) → ∀ σ F H v, L2.Same F2 F → L2.Same F H → Iv b σ F H → ∀ F' H', Gr F H F' H' → rp X.K F' v x → ∀ Q : L2.St → Hp → Prop, (∀ σ' H'', GoS X body (LE Iv Rt F o') σ' H'' → Q σ' H'') → g v σ H' Q) ∧
      (∀ b, f1 b = some r → ∀ σ F H, L2.Same F2 F → L2.Same F H → Iv b σ F H → GoS X rest D σ H) ∧ (∀ x, f2 x = some r → ∀ v H, Rt x v H → D.rt v H))
    (hp : PassesOwn (model X.prog X.w) X.A X.env X.xe) (hc : X.calm = true := by rfl) (hs : ∀ x, foldedSetIterable iter X.env x = pure x := by intro _; rfl) : GoS X (.For tg iter body [] pos :: rest) D σ H :=
  go_forX xs stp b0 s hi hg ho (fun F2 H2 g2 => by
    obtain ⟨Iv, Rt, i0, st, d1, d2⟩ := k F2 H2 g2
    refine ⟨fun b σ F H => L2.Same F2 F ∧ Iv b σ F H, Rt, ⟨.refl _, i0⟩, fun b x o' e hx σ F H v s1 s2 ⟨_, iv⟩ F' H' gr rv Q q => st b x o' e (fun y ey => by have := hx y ey.symm; subst this; exact hm) σ F H v s1 s2 iv F' H' gr rv Q fun σ' H'' go => q σ' H'' (go.mono ?_ (fun _ _ h => h) ?_ ?_), ?_⟩
    · exact fun σ3 H3 ⟨b', F3, e, f1, f2, iv⟩ => ⟨b', F3, e, f1, f2, s1.trans f1, iv⟩
    · exact fun σ3 H3 ⟨b', F3, e, f1, f2, iv⟩ => ⟨b', F3, e, f1, f2, s1.trans f1, iv⟩
    · exact fun σ3 H3 ⟨b', F3, e, f1, f2, iv⟩ => ⟨b', F3, e, f1, f2, s1.trans f1, iv⟩
    · cases o with
      | nx b => exact fun σ F H s1 ⟨s0, iv⟩ => d1 b hm σ F H s0 s1 iv
      | bk b => exact fun σ F H s1 ⟨s0, iv⟩ => d1 b hm σ F H s0 s1 iv
      | rt x => exact d2 x hm) hp hc hs
end
end Gx
namespace Gx
open PySem PySem.Spec PyProof.Rows L2
open Rp (rp)
open Ra (ra)
open Ob (ob)
def bkB (K : PySem.W.Frag) : Bool := match PySem.W.nsIn K cStatics sharingNotToldKey with
  | some none => true
  | _ => false
def Bkd (K : PySem.W.Frag) : Prop := PySem.W.nsIn K cStatics sharingNotToldKey = some none
theorem Bkd.none {X : Cx} {pins : List (Addr × Obj)} {σ : L2.St} {H : Hp} {s : Shared} (b : Bkd X.K) (I : Inv X pins σ H s) : NoneBooked s.heap := by
  obtain ⟨mc, hn, _⟩ := I.nolimit
  exact ⟨mc, hn, PySem.W.ns_none_of I.kIn hn b⟩
def asB (g : Addr → Option Obj) (n : Nat) : List Addr := He.asD g n ++ [cStatics]
def obsB (n : Nat) (fa : List He.Fa) (fn : List He.DefD) (ts : List He.Tab) (ex : PySem.W.Frag → Bool) (g : Addr → Option Obj) : He.AlX := (He.obsT fa fn ts (He.frT g (asB g n)), ex (He.frT g (asB g n)))
theorem saysB_of {n : Nat} {fa : List He.Fa} {fn : List He.DefD} {ts : List He.Tab} {ex : PySem.W.Frag → Bool} {w : World} {h : Heap} (e : obsB n fa fn ts ex h.get? = He.valX fn ts w) : He.SaysX fa fn ts [] ex w h (He.frT h.get? (asB h.get? n)) :=
  ⟨congrArg (fun z : He.AlX => z.1) e, congrArg (fun z : He.AlX => z.2) e, fun p hp => (List.not_mem_nil hp).elim, fun p hp => (List.not_mem_nil hp).elim, fun p hp => (List.not_mem_nil hp).elim⟩
def hookB (n : Nat) (fa : List He.Fa) (fn : List He.DefD) (ts : List He.Tab) (ex : PySem.W.Frag → Bool) : PySem.W.Hook where
  α := He.AlX
  obs := fun s => obsB n fa fn ts ex s.heap.get?
  val := fun w => He.valX fn ts w
  says := fun w h => ∃ K : PySem.W.Frag, K.In h ∧ He.SaysX fa fn ts [] ex w h K
  of := fun _ _ e => ⟨_, He.frT_in, saysB_of e⟩
  keeps := fun _ _ _ ⟨K, hK, c⟩ k => ⟨K, PySem.W.Frag.In.keeps hK k, ⟨c.t, c.more, c.hd, c.out, fun p hp => k _ _ (c.empty p hp)⟩⟩
def sReplM (x y z : Str) (n : Int) : Option Str := if 1 ≤ n ∧ n ≤ 1000 ∧ z.length ≤ 1000 ∧ x.length + (x.length + 1) * (Txt.mul z n).length ≤ 16777216 then some (Txt.replace x y (Txt.mul z n)) else none
section
variable {X : Cx} {K : PySem.W.Frag} {e f a b c d : Expr} {es : List Expr} {σ : L2.St} {F H F0 H0 : Hp} {pos : Pos} {D : Ends} {st : Stmt} {rest body : List Stmt}
end
section
variable {X : Cx} {e : Expr} {σ : L2.St} {F H : Hp} {α γ : Type} [Rp α] [Rp γ] {x : α} {ys : List γ} {cn n1 n2 : Str}
theorem EvRN.ev {β : Type} [Rp β] {z : β} (h : EvRN cn n1 n2 X e σ F H x ys) (full : ∀ F' u, rpI cn [n1, n2] X.K F' u ((x, ys, ()) : α × List γ × Unit) → rp X.K F' u z) : Ev X e σ F H z := fun F1 H1 g Q q =>
  GoE.lock (Q' := fun v H2 => ∃ l o F2, CR cn n1 n2 X.K F2 v l x ∧ Gr F1 H1 F2 H2 ∧ H1 l = none ∧ F2 l = none ∧ H2 l = some o ∧ ob X.K F2 o ys) (h F1 H1 g _ fun u l o F2 H2 g2 n2 f2 h2 r2 c2 => ⟨l, o, F2, c2, g2, n2, f2, h2, r2⟩)
    fun v H2 ⟨l, o, F2, c2, g2, n2, f2, h2, r2⟩ => ⟨l, o, h2, Ob.mu r2, fun od =>
      q _ (upd F2 l (.frz od o)) _ (g2.freeze n2 f2 ⟨o, h2, Ob.pl r2⟩) (full _ _ ((c2.mono (same_upd f2)).rp (Ob.fz upd_same (Ob.mono (same_upd f2) r2))))⟩
end
open Builtin in
section
variable {X : Cx} {K : PySem.W.Frag} {e f a b c d : Expr} {es : List Expr} {σ : L2.St} {F H F0 H0 : Hp} {pos : Pos} {D : Ends} {st : Stmt} {rest body : List Stmt}
end
end Gx
namespace Gx
open PySem PySem.Spec PyProof.Rows L2
open Rp (rp)
open Ra (ra)
open Ob (ob)
open Xk (xr)
section
variable {X : Cx} {K : PySem.W.Frag} {e a b c d : Expr} {es : List Expr} {σ : L2.St} {F H F0 H0 : Hp} {pos : Pos} {D : Ends} {st : Stmt} {rest body : List Stmt} {τ φ θ ε : Type} [Ra φ] [Rw τ φ] [Xk ε] {cn : Str} {ns : List Str} {P : θ → τ} {l : Addr} {ex : List Addr} {w w' : θ} {W : WX}
def PrRE (cn : Str) (ns : List Str) (P : θ → τ) (K : PySem.W.Frag) {τ1 τ2 ρ : Type} [Ra τ1] [Ra τ2] [Rp ρ] (f : τ1 → θ → τ2 → Option (Rs ε ρ × θ)) : Sp := fun vs H Q E => ∃ F ws1 l ws2 fp a1 x a2 r, vs = ws1 ++ .ref l :: ws2 ∧ SmX K F H ∧ ra K F ws1 a1 ∧ ra K F ws2 a2 ∧ OwnR cn ns K (ers H (l :: fp)) F H l fp [] (P x) ∧ f a1 x a2 = some r ∧
  (∀ z, r.1 = .v z → ∀ F' H' u, Gr F (ers H (l :: fp)) F' H' → OwR cn ns K (ers H (l :: fp)) F' H' l [] (P r.2) → rp K F' u z → Q u H') ∧
  (∀ y, r.1 = .x y → ∀ F' H' cls dd, Gr F (ers H (l :: fp)) F' H' → OwR cn ns K (ers H (l :: fp)) F' H' l [] (P r.2) → xr K F' H' cls dd y → E cls dd H')
def EvXR {ρ : Type} [Rp ρ] (cn : Str) (ns : List Str) (P : θ → τ) (X : Cx) (W : WX) (e : Expr) (σ : L2.St) (H0 F H : Hp) (l : Addr) (ex : List Addr) (o : Rs ε ρ) (y : θ) : Prop := ∀ Q : VK, (∀ z, o = .v z → ∀ u F2 H2, AftR cn ns P X.K H0 F H l ex y F2 H2 → rp X.K F2 u z → Q u H2) →
  (∀ z, o = .x z → ∀ F2 H2 cls dd, AftR cn ns P X.K H0 F H l ex y F2 H2 → xr X.K F2 H2 cls dd z → W cls dd σ H2) → GoE X e σ H Q
theorem EvXR.ok {ρ : Type} [Rp ρ] {r : ρ} {y : θ} (h : EvXR (ε := ε) cn ns P X W e σ H0 F H l ex (.v r) y) : EvMR cn ns P X e σ H0 F H l ex r y := fun Q q => h Q (fun z e => by cases e; exact q) fun z e => nomatch e
def RzR (X : Cx) (e : Expr) (σ : L2.St) (H : Hp) : Prop := ∀ Q : VK, GoE X e σ H Q
theorem EvXR.rz {ρ : Type} [Rp ρ] {z : ε} {y : θ} (h : EvXR (ρ := ρ) cn ns P X W e σ H0 F H l ex (.x z) y) (k : ∀ F2 H2 cls dd, AftR cn ns P X.K H0 F H l ex y F2 H2 → xr X.K F2 H2 cls dd z → W cls dd σ H2) : RzR X e σ H := fun Q => h Q (fun r e => nomatch e) fun z' e => by cases e; exact k
theorem go_exprZR (he : RzR X e σ H) (hs : swapsWith e none pos.line X.env = pure false := by rfl) : GoS X (.Expr e pos :: rest) D σ H := GoS.cons (ps_expr pe_go hs) (he _)
theorem em_callRE {τ1 τ2 ρ : Type} [Ra τ1] [Ra τ2] [Rp ρ] {f : τ1 → θ → τ2 → Option (Rs ε ρ × θ)} {y : τ1} {z : τ2} {xx : θ} {r : Rs ε ρ × θ} {k : Nat} {fa : Addr} {fd : FuncData} {ps : List Str} {x : Str} {p : Pos} (tk : Takes X W) (Fn : FnOk X.prog X.w X.K X.mg X.base (L2.CX X.prog X.w) k fa fd ps (PrRE cn ns P X.K f)) (hr : Room k X.A) (hm : X.mg x = some (.ref fa))
    (hk : PySem.W.keepIn X.K (.ref fa) = true) (hb : Binds X.K fd ps []) (G : GrX X.K F0 H0 F H) (o : OwR cn ns X.K H0 F H l ex (P xx)) (ne : AllNe H ex) (ha : EvAM X (e :: es) σ F H y l z) (h : f y xx z = some r) (hg : Gl X x := by rfl) (hdb : (x == ("__debug__" : Str)) = false := by decide)
    (he : starEach (e :: es) X.env = (false, eval e X.env) :: starEach es X.env := by rfl) (hpl : (backTo pos (starEach es X.env)).any (·.1) = false := by rfl) : EvXR cn ns P X W (.Call (.Name x p) (e :: es) [] pos) σ H0 F H l ex r.1 r.2 := fun Q q qx =>
  GoE.of (pe_callS (E := WE W) Fn hr hg hm hk hb (passAt tk) pa_go hdb he hpl) (ha F H (.refl G.sm) _ fun vs1 vs2 F2 H2 g2 r2 r3 => by
    obtain ⟨fp, o⟩ := o.o
    have o2 := o.up g2
    have ne2 : AllNe H2 ex := ne.up fun _ => g2.hh.free
    have af : ∀ F3 H3, Gr F2 (ers H2 (l :: fp)) F3 H3 → OwR cn ns X.K (ers H2 (l :: fp)) F3 H3 l [] (P r.2) → AftR cn ns P X.K H0 F H l ex r.2 F3 H3 := fun F3 H3 g3 o3 => by
      have a := o2.aft ne2 (fun p hp => (G.toGr.trans g2).hh.free hp) g3 o3
      exact ⟨⟨l :: fp, o.plA, o.ex, (g2.erS fun p m => (o.plA p m).2).trans g3⟩, a.o⟩
    exact ⟨F2, vs1, l, vs2, fp, y, xx, z, r, rfl, (G.trans g2).sm, r2, r3, o2.toS, h, fun z' e F3 H3 v g3 o3 r4 => q z' e v F3 H3 (af F3 H3 g3 o3) r4, fun z' e F3 H3 cls dd g3 o3 r4 => qx z' e F3 H3 cls dd (af F3 H3 g3 o3) r4⟩)
theorem em_methRE {τ2 ρ : Type} [Ra τ2] [Rp ρ] {f : Unit → θ → τ2 → Option (Rs ε ρ × θ)} {z : τ2} {r : Rs ε ρ × θ} {m n : Str} {k : Nat} {fa : Addr} {fd : FuncData} {ps : List Str} {apos p1 : Pos} {pl : Sem Bool} (i : Nat) (tk : Takes X W) (hm : m ∉ ns) (cl : Cls X.K (He.ga X.K cn)) (me : Meth X.K (He.ga X.K cn) m fa) (Fn : FnOk X.prog X.w X.K X.mg X.base (L2.CX X.prog X.w) k fa fd ps (PrRE cn ns P X.K f)) (hr : Room k X.A) (hb : Binds X.K fd ps [])
    (G : GrX X.K F0 H0 F H) (o : OwR cn ns X.K H0 F H l ex (P w)) (ne : AllNe H ex) (hσ : σ[i]? = some (some (.ref l))) (ha : EvA X (e :: es) σ F H z) (h : f () w z = some r) (hN : X.N[i]? = some n := by rfl) (hv : Vis X.env.scope n := by first | exact Or.inl rfl | exact Or.inr (Or.inl rfl) | exact Or.inr (Or.inr rfl))
    (hd : (n == ("__debug__" : Str)) = false := by decide) (hcd : (n == ("__classdict__" : Str)) = false := by decide) (hs : starEach (e :: es) X.env = (false, eval e X.env) :: starEach es X.env := by rfl) (hpl : (backTo pos (starEach es X.env)).any (·.1) = false := by rfl)
    (ht : eval (.Call (.Attribute (.Name n p1) m apos) (e :: es) [] pos) X.env = (do
      let ov ← eval (.Name n p1) X.env
      standAt apos.atName
      let (f, first) ← holding [ov] (getMethod ov m pl)
      callWith pos f first (backTo pos (starEach (e :: es) X.env)) (backToKw pos (keywordEach [] X.env))) := by rfl) : EvXR cn ns P X W (.Call (.Attribute (.Name n p1) m apos) (e :: es) [] pos) σ H0 F H l ex r.1 r.2 := fun Q q qx => by
  obtain ⟨fp, o⟩ := o.o
  obtain ⟨dx, vs, hx, hl, _⟩ := o.w
  refine ⟨fun pins s I => ?_⟩
  have hv0 : tVar i σ H (fun v H2 => v = .ref l ∧ H2 = H) := ⟨_, hσ, rfl, rfl⟩
  refine PySem.W.methodCall_KW (pl := pl) (thn ((pe_var hN hv hd hcd).run pins s σ H (fun v H2 => v = .ref l ∧ H2 = H) I hv0) fun u s1 ⟨x, H1, I1, rx, e1, e2⟩ => ?_) ht
  subst e1; subst e2
  obtain rfl : u = Value.ref l := rx
  refine getmeth_ok I1 hx cl me (zip_none hm) ?_
  refine PySem.W.callWith_K (first := [.ref l]) (h₀ := X.base) I.ok.mod.kin me.kp (thn ((ha F H1 (.refl G.sm) (fun vs H2 => PrRE cn ns P X.K f (.ref l :: vs) H2 Q (WE W σ)) fun us F2 H2 g2 r2 => ?_).o pos pins s1 I1) fun us s2 ⟨vs, H2, I2, r, q2⟩ => ⟨I2.kIn, run_fnS (E := WE W) (us := .ref l :: us) (vs := .ref l :: vs) Fn hr hb (passAt tk σ) I2 (.cons rfl r) q2⟩) hs hpl
  have o2 := o.up g2
  have ne2 : AllNe H2 ex := ne.up fun _ => g2.hh.free
  have af : ∀ F3 H3, Gr F2 (ers H2 (l :: fp)) F3 H3 → OwR cn ns X.K (ers H2 (l :: fp)) F3 H3 l [] (P r.2) → AftR cn ns P X.K H0 F H1 l ex r.2 F3 H3 := fun F3 H3 g3 o3 => by
    have a := o2.aft ne2 (fun p hp => (G.toGr.trans g2).hh.free hp) g3 o3
    exact ⟨⟨l :: fp, o.plA, o.ex, (g2.erS fun p m => (o.plA p m).2).trans g3⟩, a.o⟩
  exact ⟨F2, [], l, us, fp, (), w, z, r, rfl, (G.trans g2).sm, rfl, r2, o2.toS, h, fun z' e F3 H3 v g3 o3 r4 => q z' e v F3 H3 (af F3 H3 g3 o3) r4, fun z' e F3 H3 cls dd g3 o3 r4 => qx z' e F3 H3 cls dd (af F3 H3 g3 o3) r4⟩
theorem em_methRE0 {ρ : Type} [Rp ρ] {f : Unit → θ → Unit → Option (Rs ε ρ × θ)} {r : Rs ε ρ × θ} {m n : Str} {k : Nat} {fa : Addr} {fd : FuncData} {ps : List Str} {apos p1 : Pos} {pl : Sem Bool} (i : Nat) (tk : Takes X W) (hm : m ∉ ns) (cl : Cls X.K (He.ga X.K cn)) (me : Meth X.K (He.ga X.K cn) m fa) (Fn : FnOk X.prog X.w X.K X.mg X.base (L2.CX X.prog X.w) k fa fd ps (PrRE cn ns P X.K f)) (hr : Room k X.A) (hb : Binds X.K fd ps [])
    (G : GrX X.K F0 H0 F H) (o : OwR cn ns X.K H0 F H l ex (P w)) (ne : AllNe H ex) (hσ : σ[i]? = some (some (.ref l))) (h : f () w () = some r) (hN : X.N[i]? = some n := by rfl) (hv : Vis X.env.scope n := by first | exact Or.inl rfl | exact Or.inr (Or.inl rfl) | exact Or.inr (Or.inr rfl))
    (hd : (n == ("__debug__" : Str)) = false := by decide) (hcd : (n == ("__classdict__" : Str)) = false := by decide)
    (ht : eval (.Call (.Attribute (.Name n p1) m apos) [] [] pos) X.env = (do
      let ov ← eval (.Name n p1) X.env
      standAt apos.atName
      let (f, first) ← holding [ov] (getMethod ov m pl)
      callWith pos f first (backTo pos (starEach [] X.env)) (backToKw pos (keywordEach [] X.env))) := by rfl) : EvXR cn ns P X W (.Call (.Attribute (.Name n p1) m apos) [] [] pos) σ H0 F H l ex r.1 r.2 := fun Q q qx => by
  obtain ⟨fp, o⟩ := o.o
  obtain ⟨dx, vs, hx, hl, _⟩ := o.w
  refine ⟨fun pins s I => ?_⟩
  have hv0 : tVar i σ H (fun v H2 => v = .ref l ∧ H2 = H) := ⟨_, hσ, rfl, rfl⟩
  refine PySem.W.methodCall_KW (pl := pl) (thn ((pe_var hN hv hd hcd).run pins s σ H (fun v H2 => v = .ref l ∧ H2 = H) I hv0) fun u s1 ⟨x, H1, I1, rx, e1, e2⟩ => ?_) ht
  subst e1; subst e2
  obtain rfl : u = Value.ref l := rx
  refine getmeth_ok I1 hx cl me (zip_none hm) ?_
  refine PySem.W.callWith_K0 (first := [.ref l]) I1.kIn me.kp (run_fnS (E := WE W) (us := [.ref l]) (vs := [.ref l]) Fn hr hb (passAt tk σ) I1 (.cons rfl .nil) ?_)
  have af : ∀ F3 H3, Gr F (ers H1 (l :: fp)) F3 H3 → OwR cn ns X.K (ers H1 (l :: fp)) F3 H3 l [] (P r.2) → AftR cn ns P X.K H0 F H1 l ex r.2 F3 H3 := fun F3 H3 g3 o3 => by
    have a := o.aft ne (fun p hp => G.hh.free hp) g3 o3
    exact ⟨⟨l :: fp, o.plA, o.ex, g3⟩, a.o⟩
  exact ⟨F, [], l, [], fp, (), w, (), r, rfl, G.sm, rfl, rfl, o.toS, h, fun z' e F3 H3 v g3 o3 r4 => q z' e v F3 H3 (af F3 H3 g3 o3) r4, fun z' e F3 H3 cls dd g3 o3 r4 => qx z' e F3 H3 cls dd (af F3 H3 g3 o3) r4⟩
theorem fn_okRE {Pg : Program} {wd : World} {mg : Str → Option Value} {base : Heap} {τ1 τ2 ρ : Type} [Ra τ1] [RaN τ1] [Ra τ2] [RaN τ2] [Rp ρ] {f : τ1 → θ → τ2 → Option (Rs ε ρ × θ)} {x qual : Str} {s0 : Stmt} {fa : Addr} {fd : FuncData} {N ps : List Str} {k : Nat} (Fn : FunD K x qual (defArgs s0) (defBody s0) (defScope s0) [] [] fa fd) (S : FnScope N ps (defScope s0)) (hn : RaN.n τ1 + (RaN.n τ2 + 1) = ps.length)
    (hbody : ∀ (cdv : Value) (A : Around) (outer : List Env) (s : Shared) (F H0 H : Hp) (l : Addr) (vs1 vs2 : List V) (a1 : τ1) (x : θ) (a2 : τ2) (r : Rs ε ρ × θ) (D : Ends) (E : XK), Room k (A.deeper (envOfC qual (defScope s0) s.heap.objs.size fa cdv)) → GrX K F H0 F H → OwR cn ns K H0 F H l [] (P x) → ra K F vs1 a1 → ra K F vs2 a2 → f a1 x a2 = some r →
      (∀ F' H' u z, r.1 = Rs.v z → GrX K F H0 F' H' → OwR cn ns K H0 F' H' l [] (P r.2) → rp K F' u z → D.rt u H') → (∀ σ' F' H' z, r.1 = Rs.v z → GrX K F H0 F' H' → OwR cn ns K H0 F' H' l [] (P r.2) → rp K F' .non z → D.nx σ' H') →
      (∀ z, r.1 = Rs.x z → ∀ F' H' cls dd, GrX K F H0 F' H' → OwR cn ns K H0 F' H' l [] (P r.2) → xr K F' H' cls dd z → E cls dd H') →
      Takes (cxOf (L2.CX Pg wd) Pg wd K mg base N qual (defScope s0) fa cdv A outer s H E) (fun cls d _ H => E cls d H) →
      PassesOwn (model Pg wd) (A.deeper (envOfC qual (defScope s0) s.heap.objs.size fa cdv)) (envOfC qual (defScope s0) s.heap.objs.size fa cdv) (cxOf (L2.CX Pg wd) Pg wd K mg base N qual (defScope s0) fa cdv A outer s H E).xe →
      GoS (cxOf (L2.CX Pg wd) Pg wd K mg base N qual (defScope s0) fa cdv A outer s H E) (defBody s0) D (start N (vs1 ++ .ref l :: vs2)) H) :
    FnOk Pg wd K mg base (L2.CX Pg wd) (k + 1) fa fd ps (PrRE cn ns P K f) := by
  refine Fn.ok S (fun vs H Q E ⟨F, ws1, l, ws2, fp, a1, x, a2, r, e, _, r1, r2, _⟩ => by rw [e, List.length_append, List.length_cons, RaN.len r1, RaN.len r2, hn]) fun cdv A outer s H vs Q E hr ⟨F, ws1, l, ws2, fp, a1, x, a2, r, e, sm, r1, r2, o, hf, k, kx⟩ => ?_
  subst e
  exact ⟨_, pss_go, hbody cdv A outer s F (ers H (l :: fp)) H l ws1 ws2 a1 x a2 r { nx := fun _ H' => Q .non H', rt := Q } E hr ⟨Gr.startS sm.s, sm.h⟩ ⟨fp, o⟩ r1 r2 hf (fun F' H' u z e g o r => k z e F' H' u g.toGr o r) (fun σ' F' H' z e g o r => k z e F' H' .non g.toGr o r) (fun z e F' H' cls dd g o r => kx z e F' H' cls dd g.toGr o r) (takes_of rfl rfl rfl rfl) (passes_of rfl)⟩
theorem go_whileX {β ρ : Type} (cn : β → Option Bool) (stp : β → Option (Lp β ρ)) (N : Nat) (b0 : β) {o : Lp β ρ} (Iv : β → L2.St → Hp → Hp → Prop) (Rt : ρ → V → Hp → Prop) (s : SmX X.K F H) (init : Iv b0 σ F H) (ho : whileM cn stp N b0 = some o)
    (kc : ∀ b t, cn b = some t → ∀ σ F H, L2.Same F H → Iv b σ F H → SmX X.K F H ∧ EvT X c σ F H t ∧ ∀ F' H', Gr F H F' H' → Iv b σ F' H')
    (kb : ∀ b o', cn b = some true → stp b = some o' → (∀ y, o' = .rt y → o = .rt y) → ∀ σ F H, L2.Same F H → Iv b σ F H → GoS X body (LE Iv Rt F o') σ H)
    (done : match o with | .nx b => ∀ σ F H, L2.Same F H → Iv b σ F H → GoS X rest D σ H | .bk b => ∀ σ F H, L2.Same F H → Iv b σ F H → GoS X rest D σ H | .rt r => ∀ v H, Rt r v H → D.rt v H)
    (hp : PassesOwn (model X.prog X.w) X.A X.env X.xe) : GoS X (.While c body [] pos :: rest) D σ H := by
  refine GoS.cons (ps_while hp pt_go pss_go) ?_
  refine ⟨fun m σ H => ∃ b F, L2.Same F H ∧ Iv b σ F H ∧ whileM cn stp m b = some o, ⟨N, b0, F, s.s, init, ho⟩, ?_⟩
  rintro m σ' H' ⟨b, Fi, s2, iv, hl⟩
  cases m with
  | zero => cases hl
  | succ m =>
    unfold whileM at hl
    cases hc : cn b with
    | none => rw [hc] at hl; cases hl
    | some t =>
      rw [hc] at hl
      obtain ⟨sx, ev, up⟩ := kc b t hc σ' Fi H' s2 iv
      refine ev Fi H' (.refl sx) _ fun F2 H2 g2 => ?_
      cases t with
      | false =>
        rw [if_neg Bool.false_ne_true]
        cases (Option.some.inj hl)
        exact done σ' F2 H2 g2.fh (up F2 H2 g2)
      | true =>
        rw [if_pos rfl]
        cases hst : stp b with
        | none => rw [hst] at hl; cases hl
        | some o' =>
          rw [hst] at hl
          refine ⟨fun σ3 H3 => ∃ b' F', o' = .nx b' ∧ L2.Same F2 F' ∧ L2.Same F' H3 ∧ Iv b' σ3 F' H3, fun σ3 H3 ⟨b', F', e, f1, f2, iv'⟩ => ?_, ?_⟩
          · subst e
            exact ⟨m, Nat.lt_succ_self _, b', F', f2, iv', hl⟩
          · refine (kb b o' hc hst (fun y e => ?_) σ' F2 H2 g2.fh (up F2 H2 g2)).mono (fun _ _ h => h) (fun v' H5 ⟨r, e, hr⟩ => ?_) (fun σ5 H5 ⟨b', F5, e, f1, f2, iv'⟩ => ?_) fun _ _ h => h
            · subst e
              exact (Option.some.inj hl).symm
            · subst e
              cases (Option.some.inj hl)
              exact done v' H5 hr
            · subst e
              cases (Option.some.inj hl)
              exact done σ5 F5 H5 f2 iv'
theorem go_whileMX {β ρ γ : Type} {cn : β → Option Bool} {stp : β → Option (Lp β ρ)} {N : Nat} {b0 : β} {o : Lp β ρ} {f1 : β → Option γ} {f2 : ρ → Option γ} {r : γ} (Iv : β → L2.St → Hp → Hp → Prop) (Rt : ρ → V → Hp → Prop) (s : SmX X.K F H) (init : Iv b0 σ F H) (ho : whileM cn stp N b0 = some o) (hm : o.thn f1 f2 = some r)
    (kc : ∀ b t, cn b = some t → ∀ σ F1 H, L2.Same F F1 → L2.Same F1 H → Iv b σ F1 H → SmX X.K F1 H ∧ EvT X c σ F1 H t ∧ ∀ F' H', Gr F1 H F' H' → Iv b σ F' H')
    (kb : ∀ b o', stp b = some o' → (∀ y, Lp.rt y = o' → f2 y = some r) → ∀ σ F1 H, L2.Same F F1 → L2.Same F1 H → Iv b σ F1 H → GoS X body (LE Iv Rt F1 o') σ H)
    (d1 : ∀ b, f1 b = some r → ∀ σ F1 H, L2.Same F F1 → L2.Same F1 H → Iv b σ F1 H → GoS X rest D σ H) (d2 : ∀ x, f2 x = some r → ∀ v H, Rt x v H → D.rt v H)
    (hp : PassesOwn (model X.prog X.w) X.A X.env X.xe) : GoS X (.While c body [] pos :: rest) D σ H := by
  refine go_whileX cn stp N b0 (fun b σ F1 H => L2.Same F F1 ∧ Iv b σ F1 H) Rt s ⟨.refl _, init⟩ ho (fun b t e σ F1 H s2 ⟨s1, iv⟩ => ?_) (fun b o' _ e hx σ F1 H s2 ⟨s1, iv⟩ => (kb b o' e (fun y ey => by have := hx y ey.symm; subst this; exact hm) σ F1 H s1 s2 iv).mono ?_ (fun _ _ h => h) ?_ ?_) ?_ hp
  · obtain ⟨h0, h1, h2⟩ := kc b t e σ F1 H s1 s2 iv
    exact ⟨h0, h1, fun F' H' g => ⟨s1.trans g.ff, h2 F' H' g⟩⟩
  · exact fun σ3 H3 ⟨b', F3, e, f1, f2, iv⟩ => ⟨b', F3, e, f1, f2, s1.trans f1, iv⟩
  · exact fun σ3 H3 ⟨b', F3, e, f1, f2, iv⟩ => ⟨b', F3, e, f1, f2, s1.trans f1, iv⟩
  · exact fun σ3 H3 ⟨b', F3, e, f1, f2, iv⟩ => ⟨b', F3, e, f1, f2, s1.trans f1, iv⟩
  · cases o with
    | nx b => exact fun σ F H s1 ⟨s0, iv⟩ => d1 b hm σ F H s0 s1 iv
    | bk b => exact fun σ F H s1 ⟨s0, iv⟩ => d1 b hm σ F H s0 s1 iv
    | rt x => exact d2 x hm
theorem rz_len {p : Pos} (hm : X.mg "len" = none) (ha : Rz X a σ F H) (hg : Gl X "len" := by rfl)
    (he : starEach [a] X.env = (false, eval a X.env) :: starEach [] X.env := by rfl) (hpl : (backTo pos (starEach [] X.env)).any (·.1) = false := by rfl) : Rz X (.Call (.Name "len" p) [a] [] pos) σ F H := fun F1 H1 g Q =>
  GoE.of (pe_callB call_len_seq hg hm PySem.boot_len (pa_cons pe_go pa_nil he) (by decide) (by decide) he hpl) (ha F1 H1 g _)
theorem rz_cmp {op : CmpOp} {r : R2} (ho : OpR X (compareOp op) r) (ha : Rz X a σ F H) (hm : behindInMarks op b = false) : Rz X (.Compare a [op] [b] pos) σ F H := fun F1 H1 g Q =>
  GoE.of (pe_cmpR ho pe_go pe_go hm) (ha F1 H1 g _)
end
end Gx
namespace Law
open PySem PySem.Spec PyProof.Rows L2 Gx
open Rp (rp)
open Ra (ra)
def top (i : Nat) : Stmt := PySem.Challenge.pw_furrow_k32_too_many.main.body.getD i (.Pass ⟨0, 0, 0, 0⟩)
def xkn : List Str := ["TooMany"]
def xs_NoText : List Str := []
def xs_NoPlan : List Str := []
def xs_NoTurning : List Str := []
def xs_BadPlan : List Str := []
def xs_ValueError : List Str := ["TooMany"]
def xs_NoWidth : List Str := []
def xs_NoValues : List Str := []
abbrev s_cell : Stmt := top 27
abbrev s_mixed : Stmt := top 28
abbrev s_size : Stmt := top 39
abbrev s_name : Stmt := top 29
abbrev s_far : Stmt := top 49
abbrev s_Number_init : Stmt := inClass (top 4) 0
abbrev s_Value_init : Stmt := inClass (top 5) 0
abbrev s_Cell_init : Stmt := inClass (top 6) 0
abbrev s_Joined_init : Stmt := inClass (top 7) 0
abbrev s_object : Stmt := top 40
abbrev s_Deed_init : Stmt := inClass (top 9) 0
abbrev s_Program_init : Stmt := inClass (top 10) 0
abbrev s_made : Stmt := top 41
abbrev s_Walk_init : Stmt := inClass (top 21) 0
abbrev s_put_apart : Stmt := top 22
abbrev s_Walk_spend : Stmt := inClass (top 21) 1
abbrev s_Walk_note : Stmt := inClass (top 21) 2
abbrev s_placed : Stmt := top 2
abbrev s_bounds_of : Stmt := top 23
abbrev s_go : Stmt := top 24
abbrev s_turns : Stmt := top 25
abbrev s_plain : Stmt := top 45
abbrev s_refused : Stmt := top 46
abbrev s_many : Stmt := top 38
abbrev s_loop : Stmt := top 34
abbrev s_heads : Stmt := top 36
abbrev s_spots : Stmt := top 30
abbrev s_cell_of : Stmt := top 31
abbrev s_leaf : Stmt := top 32
abbrev s_term : Stmt := top 33
abbrev s_row : Stmt := top 35
abbrev s_rows : Stmt := top 37
abbrev s_around : Stmt := top 42
abbrev s_stand : Stmt := top 43
abbrev s_levels : Stmt := top 44
abbrev s_counted : Stmt := top 48
abbrev s_told : Stmt := top 47
abbrev s_law : Stmt := top 50
namespace Run
def D_cell : He.DefD := ⟨("_law_cell", none), "_law_cell", "_law_cell", defArgs s_cell, defBody s_cell, defScope s_cell, [], []⟩
def D_mixed : He.DefD := ⟨("_law_mixed", none), "_law_mixed", "_law_mixed", defArgs s_mixed, defBody s_mixed, defScope s_mixed, [], []⟩
def D_size : He.DefD := ⟨("_law_size", none), "_law_size", "_law_size", defArgs s_size, defBody s_size, defScope s_size, [], []⟩
def D_name : He.DefD := ⟨("_law_name", none), "_law_name", "_law_name", defArgs s_name, defBody s_name, defScope s_name, [], []⟩
def D_far : He.DefD := ⟨("_law_far", none), "_law_far", "_law_far", defArgs s_far, defBody s_far, defScope s_far, [], []⟩
def D_Number_init : He.DefD := ⟨("Number", some "__init__"), "__init__", "Number.__init__", defArgs s_Number_init, defBody s_Number_init, defScope s_Number_init, [], []⟩
def D_Value_init : He.DefD := ⟨("Value", some "__init__"), "__init__", "Value.__init__", defArgs s_Value_init, defBody s_Value_init, defScope s_Value_init, [], []⟩
def D_Cell_init : He.DefD := ⟨("Cell", some "__init__"), "__init__", "Cell.__init__", defArgs s_Cell_init, defBody s_Cell_init, defScope s_Cell_init, [], []⟩
def D_Joined_init : He.DefD := ⟨("Joined", some "__init__"), "__init__", "Joined.__init__", defArgs s_Joined_init, defBody s_Joined_init, defScope s_Joined_init, [], []⟩
def D_object : He.DefD := ⟨("_law_object", none), "_law_object", "_law_object", defArgs s_object, defBody s_object, defScope s_object, [], []⟩
def D_Deed_init : He.DefD := ⟨("Deed", some "__init__"), "__init__", "Deed.__init__", defArgs s_Deed_init, defBody s_Deed_init, defScope s_Deed_init, [], []⟩
def D_Program_init : He.DefD := ⟨("Program", some "__init__"), "__init__", "Program.__init__", defArgs s_Program_init, defBody s_Program_init, defScope s_Program_init, [], []⟩
def D_made : He.DefD := ⟨("_law_made", none), "_law_made", "_law_made", defArgs s_made, defBody s_made, defScope s_made, [], []⟩
def D_Walk_init : He.DefD := ⟨("Walk", some "__init__"), "__init__", "Walk.__init__", defArgs s_Walk_init, defBody s_Walk_init, defScope s_Walk_init, [], []⟩
def D_put_apart : He.DefD := ⟨("put_apart", none), "put_apart", "put_apart", defArgs s_put_apart, defBody s_put_apart, defScope s_put_apart, [], []⟩
def D_Walk_spend : He.DefD := ⟨("Walk", some "spend"), "spend", "Walk.spend", defArgs s_Walk_spend, defBody s_Walk_spend, defScope s_Walk_spend, [], []⟩
def D_Walk_note : He.DefD := ⟨("Walk", some "note"), "note", "Walk.note", defArgs s_Walk_note, defBody s_Walk_note, defScope s_Walk_note, [], []⟩
def D_placed : He.DefD := ⟨("placed", none), "placed", "placed", defArgs s_placed, defBody s_placed, defScope s_placed, [], []⟩
def D_bounds_of : He.DefD := ⟨("bounds_of", none), "bounds_of", "bounds_of", defArgs s_bounds_of, defBody s_bounds_of, defScope s_bounds_of, [], []⟩
def D_go : He.DefD := ⟨("go", none), "go", "go", defArgs s_go, defBody s_go, defScope s_go, [], []⟩
def D_turns : He.DefD := ⟨("turns", none), "turns", "turns", defArgs s_turns, defBody s_turns, defScope s_turns, [], []⟩
def D_plain : He.DefD := ⟨("_law_plain", none), "_law_plain", "_law_plain", defArgs s_plain, defBody s_plain, defScope s_plain, [], []⟩
def D_refused : He.DefD := ⟨("_law_refused", none), "_law_refused", "_law_refused", defArgs s_refused, defBody s_refused, defScope s_refused, [], []⟩
def D_many : He.DefD := ⟨("_law_many", none), "_law_many", "_law_many", defArgs s_many, defBody s_many, defScope s_many, [], []⟩
def D_loop : He.DefD := ⟨("_law_loop", none), "_law_loop", "_law_loop", defArgs s_loop, defBody s_loop, defScope s_loop, [], []⟩
def D_heads : He.DefD := ⟨("_law_heads", none), "_law_heads", "_law_heads", defArgs s_heads, defBody s_heads, defScope s_heads, [], []⟩
def D_spots : He.DefD := ⟨("_law_spots", none), "_law_spots", "_law_spots", defArgs s_spots, defBody s_spots, defScope s_spots, [], []⟩
def D_cell_of : He.DefD := ⟨("_law_cell_of", none), "_law_cell_of", "_law_cell_of", defArgs s_cell_of, defBody s_cell_of, defScope s_cell_of, [], []⟩
def D_leaf : He.DefD := ⟨("_law_leaf", none), "_law_leaf", "_law_leaf", defArgs s_leaf, defBody s_leaf, defScope s_leaf, [], []⟩
def D_term : He.DefD := ⟨("_law_term", none), "_law_term", "_law_term", defArgs s_term, defBody s_term, defScope s_term, [], []⟩
def D_row : He.DefD := ⟨("_law_row", none), "_law_row", "_law_row", defArgs s_row, defBody s_row, defScope s_row, [], []⟩
def D_rows : He.DefD := ⟨("_law_rows", none), "_law_rows", "_law_rows", defArgs s_rows, defBody s_rows, defScope s_rows, [], []⟩
def D_around : He.DefD := ⟨("_law_around", none), "_law_around", "_law_around", defArgs s_around, defBody s_around, defScope s_around, [], []⟩
def D_stand : He.DefD := ⟨("_law_stand", none), "_law_stand", "_law_stand", defArgs s_stand, defBody s_stand, defScope s_stand, [], []⟩
def D_levels : He.DefD := ⟨("_law_levels", none), "_law_levels", "_law_levels", defArgs s_levels, defBody s_levels, defScope s_levels, [], []⟩
def D_counted : He.DefD := ⟨("_law_counted", none), "_law_counted", "_law_counted", defArgs s_counted, defBody s_counted, defScope s_counted, [], []⟩
def D_told : He.DefD := ⟨("_law_told", none), "_law_told", "_law_told", defArgs s_told, defBody s_told, defScope s_told, [], []⟩
def D_law : He.DefD := ⟨("law", none), "law", "law", defArgs s_law, defBody s_law, defScope s_law, [], []⟩
def fn : List He.DefD := [D_cell, D_mixed, D_size, D_name, D_far, D_Number_init, D_Value_init, D_Cell_init, D_Joined_init, D_object, D_Deed_init, D_Program_init, D_made, D_Walk_init, D_put_apart, D_Walk_spend, D_Walk_note, D_placed, D_bounds_of, D_go, D_turns, D_plain, D_refused, D_many, D_loop, D_heads, D_spots, D_cell_of, D_leaf, D_term, D_row, D_rows, D_around, D_stand, D_levels, D_counted, D_told, D_law]
def fa : List He.Fa := [.glo "_law_cell", .glo "_law_mixed", .glo "_law_size", .glo "_law_name", .glo "_law_far", .glo "_law_object", .glo "_law_made", .glo "put_apart", .meth "Walk" "spend", .meth "Walk" "note", .glo "placed", .glo "bounds_of", .glo "go", .glo "turns", .glo "_law_plain", .glo "_law_refused", .glo "_law_many", .glo "_law_loop", .glo "_law_heads", .glo "_law_spots", .glo "_law_cell_of", .glo "_law_leaf", .glo "_law_term", .glo "_law_row", .glo "_law_rows", .glo "_law_around", .glo "_law_stand", .glo "_law_levels", .glo "_law_counted", .glo "_law_told", .glo "law", .glo "Deed", .cls "Deed", .mkr "Deed", .noat "Deed" "names", .noat "Deed" "lows", .noat "Deed" "highs", .noat "Deed" "table", .noat "Deed" "spots", .noat "Deed" "term", .noat "Deed" "path", .glo "Number", .cls "Number", .mkr "Number", .noat "Number" "n", .glo "Value", .cls "Value", .mkr "Value", .noat "Value" "name", .glo "Cell", .cls "Cell", .mkr "Cell", .noat "Cell" "table", .noat "Cell" "spots", .glo "Joined", .cls "Joined", .mkr "Joined", .noat "Joined" "sign", .noat "Joined" "left", .noat "Joined" "right", .glo "Program", .cls "Program", .mkr "Program", .noat "Program" "size", .noat "Program" "deeds", .glo "Walk", .cls "Walk", .mkr "Walk", .noat "Walk" "left", .noat "Walk" "turns", .glo "TooMany", .exc "TooMany", .exm "TooMany" "FurrowError" true, .exm "TooMany" "TooMany" true, .glo "FurrowError", .glo "NoText", .glo "NoPlan", .glo "NoTurning", .glo "BadPlan", .glo "NoWidth", .glo "NoValues", .free "ValueError", .free "enumerate", .free "isinstance", .free "len", .free "list", .free "max", .free "min", .free "range", .free "sum", .free "tuple", .free "zip"]
abbrev R : PySem.W.OpenRow := PySem.W.OpenLaw.row PySem.Challenge.rw_furrow_k32_too_many
def ex (K : PySem.W.Frag) : Bool := (excCB K (He.ga K "TooMany")) && (decide (PySem.W.kitOne K (.ref (He.ga K "TooMany")) (.ref (He.ga K "TooMany")) = some true)) && (decide (PySem.W.kitOne K (.ref (He.ga K "TooMany")) (.ref (He.ga K "NoText")) = some false)) && (decide (PySem.W.kitOne K (.ref (He.ga K "TooMany")) (.ref (He.ga K "NoPlan")) = some false)) && (decide (PySem.W.kitOne K (.ref (He.ga K "TooMany")) (.ref (He.ga K "NoTurning")) = some false)) && (decide (PySem.W.kitOne K (.ref (He.ga K "TooMany")) (.ref (He.ga K "BadPlan")) = some false)) && (decide (PySem.W.kitOne K (.ref (He.ga K "TooMany")) (.type "ValueError") = some true)) && (decide (PySem.W.kitOne K (.ref (He.ga K "TooMany")) (.ref (He.ga K "NoWidth")) = some false)) && (decide (PySem.W.kitOne K (.ref (He.ga K "TooMany")) (.ref (He.ga K "NoValues")) = some false))
abbrev hk : PySem.W.Hook := hookE 4 fa fn ex
def ob (s : PySem.W.SharedT) : AlE := obsE 4 fa fn ex (HandSHeadRun.getT s)
theorem ob_eq (s : PySem.W.SharedT) : ob s = hk.obs s.abs := obsE_eq (HandSHeadRun.getT_eq s)
def loose : List Str := "_wall" :: "__name__" :: "placed" :: "Term" :: "Number" :: "Value" :: "Cell" :: "Joined" :: "Deed" :: "Program" :: "FurrowError" :: "NoText" :: "TooMany" :: "NoValues" :: "NoPlan" :: "NoWidth" :: "NoTurning" :: "BadPlan" :: "Walk" :: "put_apart" :: "bounds_of" :: "go" :: "turns" :: "_law_cell" :: "_law_mixed" :: "_law_name" :: "_law_spots" :: "_law_cell_of" :: "_law_leaf" :: "_law_term" :: "_law_loop" :: "_law_row" :: "_law_heads" :: "_law_rows" :: "_law_many" :: "_law_size" :: "_law_object" :: "_law_made" :: "_law_around" :: "_law_stand" :: "_law_levels" :: "_law_plain" :: "_law_refused" :: "_law_told" :: "_law_counted" :: "_law_far" :: []
theorem run (w : World) : HandSHeadRun.RunEq R (PySem.W.view R.prog [50]) hk ob 8100 loose w := by
  intro os
  kernel_rfl
end Run
inductive UShape where
  | v_n (b : Int)
  | v_v (b : Str)
  | v_c (b : Str) (c : (Tp (T2 Str Int)))
  | v_any (a : Str) (b : UShape) (c : UShape)
def UShape.R (K : PySem.W.Frag) (F : Hp) : UShape → V → Prop
  | .v_n b, v => ∃ p w0 w1, v = .ref p ∧ TupF F p [w0, w1] ∧ w0 = .str "n" ∧ rp (α := Int) K F w1 b
  | .v_v b, v => ∃ p w0 w1, v = .ref p ∧ TupF F p [w0, w1] ∧ w0 = .str "v" ∧ rp (α := Str) K F w1 b
  | .v_c b c, v => ∃ p w0 w1 w2, v = .ref p ∧ TupF F p [w0, w1, w2] ∧ w0 = .str "c" ∧ rp (α := Str) K F w1 b ∧ rp (α := (Tp (T2 Str Int))) K F w2 c
  | .v_any a b c, v => ∃ p w0 w1 w2, v = .ref p ∧ TupF F p [w0, w1, w2] ∧ rp (α := Str) K F w0 a ∧ UShape.R K F b w1 ∧ UShape.R K F c w2
theorem UShape.R_mono {K : PySem.W.Frag} {F F2 : Hp} (s_ : L2.Same F F2) : ∀ (x : UShape) (v : V), UShape.R K F x v → UShape.R K F2 x v
  | .v_n b, v, h => by
    rw [UShape.R] at h ⊢
    obtain ⟨p, w0, w1, e, t, h0, h1⟩ := h
    exact ⟨p, w0, w1, e, tupF_mono s_ t, h0, Rp.mono s_ h1⟩
  | .v_v b, v, h => by
    rw [UShape.R] at h ⊢
    obtain ⟨p, w0, w1, e, t, h0, h1⟩ := h
    exact ⟨p, w0, w1, e, tupF_mono s_ t, h0, Rp.mono s_ h1⟩
  | .v_c b c, v, h => by
    rw [UShape.R] at h ⊢
    obtain ⟨p, w0, w1, w2, e, t, h0, h1, h2⟩ := h
    exact ⟨p, w0, w1, w2, e, tupF_mono s_ t, h0, Rp.mono s_ h1, Rp.mono s_ h2⟩
  | .v_any a b c, v, h => by
    rw [UShape.R] at h ⊢
    obtain ⟨p, w0, w1, w2, e, t, h0, h1, h2⟩ := h
    exact ⟨p, w0, w1, w2, e, tupF_mono s_ t, Rp.mono s_ h0, UShape.R_mono s_ b _ h1, UShape.R_mono s_ c _ h2⟩
instance : Rp UShape := ⟨fun K F v x => UShape.R K F x v, fun s h => UShape.R_mono s _ _ h⟩
def UShape.tag : UShape → Str
  | .v_n _ => "n"
  | .v_v _ => "v"
  | .v_c _ _ => "c"
  | .v_any a _ _ => a
def UShape.asv_n : UShape → Option (T2 Str Int)
  | .v_n b => some ⟨("n" : Str), b⟩
  | _ => none
theorem UShape.ofv_n {K : PySem.W.Frag} {F : Hp} {v : V} {b : Int} : rp (α := (T2 Str Int)) K F v ⟨("n" : Str), b⟩ ↔ rp K F v (UShape.v_n b) := by
  show _ ↔ UShape.R K F _ v
  rw [UShape.R]
  constructor
  · rintro ⟨p, vs, e, t, w0, _, rfl, h0, w1, _, rfl, h1, rfl⟩
    exact ⟨p, w0, w1, e, t, h0, h1⟩
  · rintro ⟨p, w0, w1, e, t, h0, h1⟩
    exact ⟨p, _, e, t, w0, _, rfl, h0, w1, _, rfl, h1, rfl⟩
def UShape.asv_v : UShape → Option (T2 Str Str)
  | .v_v b => some ⟨("v" : Str), b⟩
  | _ => none
theorem UShape.ofv_v {K : PySem.W.Frag} {F : Hp} {v : V} {b : Str} : rp (α := (T2 Str Str)) K F v ⟨("v" : Str), b⟩ ↔ rp K F v (UShape.v_v b) := by
  show _ ↔ UShape.R K F _ v
  rw [UShape.R]
  constructor
  · rintro ⟨p, vs, e, t, w0, _, rfl, h0, w1, _, rfl, h1, rfl⟩
    exact ⟨p, w0, w1, e, t, h0, h1⟩
  · rintro ⟨p, w0, w1, e, t, h0, h1⟩
    exact ⟨p, _, e, t, w0, _, rfl, h0, w1, _, rfl, h1, rfl⟩
def UShape.asv_c : UShape → Option (T3 Str Str (Tp (T2 Str Int)))
  | .v_c b c => some ⟨("c" : Str), b, c⟩
  | _ => none
theorem UShape.ofv_c {K : PySem.W.Frag} {F : Hp} {v : V} {b : Str} {c : (Tp (T2 Str Int))} : rp (α := (T3 Str Str (Tp (T2 Str Int)))) K F v ⟨("c" : Str), b, c⟩ ↔ rp K F v (UShape.v_c b c) := by
  show _ ↔ UShape.R K F _ v
  rw [UShape.R]
  constructor
  · rintro ⟨p, vs, e, t, w0, _, rfl, h0, w1, _, rfl, h1, w2, _, rfl, h2, rfl⟩
    exact ⟨p, w0, w1, w2, e, t, h0, h1, h2⟩
  · rintro ⟨p, w0, w1, w2, e, t, h0, h1, h2⟩
    exact ⟨p, _, e, t, w0, _, rfl, h0, w1, _, rfl, h1, w2, _, rfl, h2, rfl⟩
def UShape.asv_any : UShape → Option (T3 Str UShape UShape)
  | .v_any a b c => some ⟨a, b, c⟩
  | _ => none
theorem UShape.ofv_any {K : PySem.W.Frag} {F : Hp} {v : V} {a : Str} {b : UShape} {c : UShape} : rp (α := (T3 Str UShape UShape)) K F v ⟨a, b, c⟩ ↔ rp K F v (UShape.v_any a b c) := by
  show _ ↔ UShape.R K F _ v
  rw [UShape.R]
  constructor
  · rintro ⟨p, vs, e, t, w0, _, rfl, h0, w1, _, rfl, h1, w2, _, rfl, h2, rfl⟩
    exact ⟨p, w0, w1, w2, e, t, h0, h1, h2⟩
  · rintro ⟨p, w0, w1, w2, e, t, h0, h1, h2⟩
    exact ⟨p, _, e, t, w0, _, rfl, h0, w1, _, rfl, h1, w2, _, rfl, h2, rfl⟩
section
variable {X : Cx} {e : Expr} {σ : L2.St} {F H : Hp} {x : UShape}
theorem UShape.evv_n {t : (T2 Str Int)} (h : Ev X e σ F H x) (he : x.asv_n = some t) : Ev X e σ F H t := by
  cases x with
  | v_n b => cases he; exact h.re fun _ _ r => (UShape.ofv_n).mpr r
  | v_v b => cases he
  | v_c b c => cases he
  | v_any a b c => cases he
theorem UShape.mkv_n {b : Int} (h : Ev X e σ F H (T2.mk ("n" : Str) b)) : Ev X e σ F H (UShape.v_n b) := h.re fun _ _ r => UShape.ofv_n.mp r
def UShape.inv_n (t : (T2 Str Int)) : Option UShape := if t.a = "n" then some (UShape.v_n t.b) else none
theorem UShape.evv_v {t : (T2 Str Str)} (h : Ev X e σ F H x) (he : x.asv_v = some t) : Ev X e σ F H t := by
  cases x with
  | v_n b => cases he
  | v_v b => cases he; exact h.re fun _ _ r => (UShape.ofv_v).mpr r
  | v_c b c => cases he
  | v_any a b c => cases he
theorem UShape.mkv_v {b : Str} (h : Ev X e σ F H (T2.mk ("v" : Str) b)) : Ev X e σ F H (UShape.v_v b) := h.re fun _ _ r => UShape.ofv_v.mp r
def UShape.inv_v (t : (T2 Str Str)) : Option UShape := if t.a = "v" then some (UShape.v_v t.b) else none
theorem UShape.evv_c {t : (T3 Str Str (Tp (T2 Str Int)))} (h : Ev X e σ F H x) (he : x.asv_c = some t) : Ev X e σ F H t := by
  cases x with
  | v_n b => cases he
  | v_v b => cases he
  | v_c b c => cases he; exact h.re fun _ _ r => (UShape.ofv_c).mpr r
  | v_any a b c => cases he
theorem UShape.mkv_c {b : Str} {c : (Tp (T2 Str Int))} (h : Ev X e σ F H (T3.mk ("c" : Str) b c)) : Ev X e σ F H (UShape.v_c b c) := h.re fun _ _ r => UShape.ofv_c.mp r
def UShape.inv_c (t : (T3 Str Str (Tp (T2 Str Int)))) : Option UShape := if t.a = "c" then some (UShape.v_c t.b t.c) else none
theorem UShape.evv_any {t : (T3 Str UShape UShape)} (h : Ev X e σ F H x) (he : x.asv_any = some t) : Ev X e σ F H t := by
  cases x with
  | v_n b => cases he
  | v_v b => cases he
  | v_c b c => cases he
  | v_any a b c => cases he; exact h.re fun _ _ r => (UShape.ofv_any).mpr r
theorem UShape.mkv_any {a : Str} {b : UShape} {c : UShape} (h : Ev X e σ F H (T3.mk a b c)) : Ev X e σ F H (UShape.v_any a b c) := h.re fun _ _ r => UShape.ofv_any.mp r
theorem UShape.ev_tag {j : Nat} {p1 pos : Pos} (h : Ev X e σ F H x) : Ev X (.Subscript e (.Constant (.int 0) j p1) pos) σ F H x.tag := by
  cases x with
  | v_n b => exact ev_ixT (h.re fun _ _ r => (UShape.ofv_n).mpr r) ev_int pj0
  | v_v b => exact ev_ixT (h.re fun _ _ r => (UShape.ofv_v).mpr r) ev_int pj0
  | v_c b c => exact ev_ixT (h.re fun _ _ r => (UShape.ofv_c).mpr r) ev_int pj0
  | v_any a b c => exact ev_ixT (h.re fun _ _ r => (UShape.ofv_any).mpr r) ev_int pj0
def UShape.ln : UShape → Int
  | .v_n _ => 2
  | .v_v _ => 2
  | .v_c _ _ => 3
  | .v_any _ _ _ => 3
end
instance : NN UShape := ⟨fun {K F x} h => by
  cases x with
  | v_n b => exact NN.nn (α := (T2 Str Int)) ((UShape.ofv_n).mpr h)
  | v_v b => exact NN.nn (α := (T2 Str Str)) ((UShape.ofv_v).mpr h)
  | v_c b c => exact NN.nn (α := (T3 Str Str (Tp (T2 Str Int)))) ((UShape.ofv_c).mpr h)
  | v_any a b c => exact NN.nn (α := (T3 Str UShape UShape)) ((UShape.ofv_any).mpr h)⟩
instance : Kd UShape := ⟨"tuple", fun {K F H v x} s h => by
  cases x with
  | v_n b => exact Kd.kd (α := (T2 Str Int)) s ((UShape.ofv_n).mpr h)
  | v_v b => exact Kd.kd (α := (T2 Str Str)) s ((UShape.ofv_v).mpr h)
  | v_c b c => exact Kd.kd (α := (T3 Str Str (Tp (T2 Str Int)))) s ((UShape.ofv_c).mpr h)
  | v_any a b c => exact Kd.kd (α := (T3 Str UShape UShape)) s ((UShape.ofv_any).mpr h)⟩
theorem UShape.R_flat {K : PySem.W.Frag} {F : Hp} {l : Addr} (s_ : (∀ xs, ¬ F l = some (.tup xs)) ∧ (∀ o xs, ¬ F l = some (.frz o (.tup xs)))) : ∀ (x : UShape) (v : V), UShape.R K F x v → UShape.R K (er F l) x v
  | .v_n b, v, h => by
    rw [UShape.R] at h ⊢
    obtain ⟨p, w0, w1, e, t, h0, h1⟩ := h
    exact ⟨p, w0, w1, e, er_seqT s_.1 s_.2 t, h0, Flat.fl (α := Int) s_.1 s_.2 h1⟩
  | .v_v b, v, h => by
    rw [UShape.R] at h ⊢
    obtain ⟨p, w0, w1, e, t, h0, h1⟩ := h
    exact ⟨p, w0, w1, e, er_seqT s_.1 s_.2 t, h0, Flat.fl (α := Str) s_.1 s_.2 h1⟩
  | .v_c b c, v, h => by
    rw [UShape.R] at h ⊢
    obtain ⟨p, w0, w1, w2, e, t, h0, h1, h2⟩ := h
    exact ⟨p, w0, w1, w2, e, er_seqT s_.1 s_.2 t, h0, Flat.fl (α := Str) s_.1 s_.2 h1, Flat.fl (α := (Tp (T2 Str Int))) s_.1 s_.2 h2⟩
  | .v_any a b c, v, h => by
    rw [UShape.R] at h ⊢
    obtain ⟨p, w0, w1, w2, e, t, h0, h1, h2⟩ := h
    exact ⟨p, w0, w1, w2, e, er_seqT s_.1 s_.2 t, Flat.fl (α := Str) s_.1 s_.2 h0, UShape.R_flat s_ b _ h1, UShape.R_flat s_ c _ h2⟩
instance : Flat UShape := ⟨fun {K F l v x} h1 h2 h => UShape.R_flat ⟨h1, h2⟩ x v h⟩
def fs_Number : List Str := ["n"]
def fs_Value : List Str := ["name"]
def fs_Cell : List Str := ["table", "spots"]
def fs_Joined : List Str := ["sign", "left", "right"]
inductive UTerm where
  | c_Number (a0 : Int)
  | c_Value (a0 : Str)
  | c_Cell (a0 : Str) (a1 : (Tp (T2 Str Int)))
  | c_Joined (a0 : Str) (a1 : UTerm) (a2 : UTerm)
def UTerm.R (K : PySem.W.Frag) (F : Hp) : UTerm → V → Prop
  | .c_Number a0, v => ∃ a dx w0, v = .ref a ∧ F a = some (.ins (He.ga K "Number") dx (fs_Number.zip [w0])) ∧ rp (α := Int) K F w0 a0
  | .c_Value a0, v => ∃ a dx w0, v = .ref a ∧ F a = some (.ins (He.ga K "Value") dx (fs_Value.zip [w0])) ∧ rp (α := Str) K F w0 a0
  | .c_Cell a0 a1, v => ∃ a dx w0 w1, v = .ref a ∧ F a = some (.ins (He.ga K "Cell") dx (fs_Cell.zip [w0, w1])) ∧ rp (α := Str) K F w0 a0 ∧ rp (α := (Tp (T2 Str Int))) K F w1 a1
  | .c_Joined a0 a1 a2, v => ∃ a dx w0 w1 w2, v = .ref a ∧ F a = some (.ins (He.ga K "Joined") dx (fs_Joined.zip [w0, w1, w2])) ∧ rp (α := Str) K F w0 a0 ∧ UTerm.R K F a1 w1 ∧ UTerm.R K F a2 w2
theorem UTerm.R_mono {K : PySem.W.Frag} {F F2 : Hp} (s_ : L2.Same F F2) : ∀ (x : UTerm) (v : V), UTerm.R K F x v → UTerm.R K F2 x v
  | .c_Number a0, v, h => by
    rw [UTerm.R] at h ⊢
    obtain ⟨a, dx, w0, e, q, h0⟩ := h
    exact ⟨a, dx, w0, e, s_ _ _ q, Rp.mono s_ h0⟩
  | .c_Value a0, v, h => by
    rw [UTerm.R] at h ⊢
    obtain ⟨a, dx, w0, e, q, h0⟩ := h
    exact ⟨a, dx, w0, e, s_ _ _ q, Rp.mono s_ h0⟩
  | .c_Cell a0 a1, v, h => by
    rw [UTerm.R] at h ⊢
    obtain ⟨a, dx, w0, w1, e, q, h0, h1⟩ := h
    exact ⟨a, dx, w0, w1, e, s_ _ _ q, Rp.mono s_ h0, Rp.mono s_ h1⟩
  | .c_Joined a0 a1 a2, v, h => by
    rw [UTerm.R] at h ⊢
    obtain ⟨a, dx, w0, w1, w2, e, q, h0, h1, h2⟩ := h
    exact ⟨a, dx, w0, w1, w2, e, s_ _ _ q, Rp.mono s_ h0, UTerm.R_mono s_ a1 _ h1, UTerm.R_mono s_ a2 _ h2⟩
instance : Rp UTerm := ⟨fun K F v x => UTerm.R K F x v, fun s h => UTerm.R_mono s _ _ h⟩
instance : NN UTerm := ⟨fun {K F x} h => by
  have h : UTerm.R K F x .non := h
  cases x with
  | c_Number a0 => rw [UTerm.R] at h; obtain ⟨a, dx, w0, e, _⟩ := h; cases e
  | c_Value a0 => rw [UTerm.R] at h; obtain ⟨a, dx, w0, e, _⟩ := h; cases e
  | c_Cell a0 a1 => rw [UTerm.R] at h; obtain ⟨a, dx, w0, w1, e, _⟩ := h; cases e
  | c_Joined a0 a1 a2 => rw [UTerm.R] at h; obtain ⟨a, dx, w0, w1, w2, e, _⟩ := h; cases e⟩
structure QDeed where
  names : (Tp Str)
  lows : (Tp (T2 Str Int))
  highs : (Tp (T2 Str Int))
  table : Str
  spots : (Tp (T2 Str Int))
  term : UTerm
  path : (Tp Int)
def fs_Deed : List Str := ["names", "lows", "highs", "table", "spots", "term", "path"]
abbrev QDeed.row (x : QDeed) := (x.names, x.lows, x.highs, x.table, x.spots, x.term, x.path, ())
instance : Rp QDeed := ⟨fun K F v x => rpI "Deed" fs_Deed K F v x.row, rpI.mono⟩
instance : NN QDeed := ⟨rpI.nn⟩
structure QNumber where
  n : Int
  deriving DecidableEq
abbrev QNumber.row (x : QNumber) := (x.n, ())
instance : Rp QNumber := ⟨fun K F v x => rpI "Number" fs_Number K F v x.row, rpI.mono⟩
instance : NN QNumber := ⟨rpI.nn⟩
structure QValue where
  name : Str
  deriving DecidableEq
abbrev QValue.row (x : QValue) := (x.name, ())
instance : Rp QValue := ⟨fun K F v x => rpI "Value" fs_Value K F v x.row, rpI.mono⟩
instance : NN QValue := ⟨rpI.nn⟩
structure QCell where
  table : Str
  spots : (Tp (T2 Str Int))
  deriving DecidableEq
abbrev QCell.row (x : QCell) := (x.table, x.spots, ())
instance : Rp QCell := ⟨fun K F v x => rpI "Cell" fs_Cell K F v x.row, rpI.mono⟩
instance : NN QCell := ⟨rpI.nn⟩
structure QJoined where
  sign : Str
  left : UTerm
  right : UTerm
abbrev QJoined.row (x : QJoined) := (x.sign, x.left, x.right, ())
instance : Rp QJoined := ⟨fun K F v x => rpI "Joined" fs_Joined K F v x.row, rpI.mono⟩
instance : NN QJoined := ⟨rpI.nn⟩
structure QProgram where
  size : Int
  deeds : (List QDeed)
def fs_Program : List Str := ["size", "deeds"]
abbrev QProgram.row (x : QProgram) := (x.size, x.deeds, ())
instance : Rp QProgram := ⟨fun K F v x => rpI "Program" fs_Program K F v x.row, rpI.mono⟩
instance : NN QProgram := ⟨rpI.nn⟩
structure QWalk where
  left : Int
  turns : (List (T2 Int (Tp Int)))
  deriving DecidableEq
def fs_Walk : List Str := ["left", "turns"]
abbrev QWalk.row (x : QWalk) := (x.left, x.turns, ())
instance : Rp QWalk := ⟨fun K F v x => rpI "Walk" fs_Walk K F v x.row, rpI.mono⟩
instance : NN QWalk := ⟨rpI.nn⟩
abbrev QWalk.rowP (x : QWalk) := (x.left, (Pv.mk x.turns), ())
theorem UTerm.of_Number {K : PySem.W.Frag} {F : Hp} {v : V} {a0 : Int} : rp (α := QNumber) K F v ⟨a0⟩ ↔ rp K F v (UTerm.c_Number a0) := by
  show _ ↔ UTerm.R K F _ v
  rw [UTerm.R]
  constructor
  · rintro ⟨a, dx, vs, e, q, w0, _, rfl, h0, rfl⟩
    exact ⟨a, dx, w0, e, q, h0⟩
  · rintro ⟨a, dx, w0, e, q, h0⟩
    exact ⟨a, dx, _, e, q, w0, _, rfl, h0, rfl⟩
def UTerm.as_Number : UTerm → Option QNumber
  | .c_Number a0 => some ⟨a0⟩
  | _ => none
def UTerm.is_Number : UTerm → Bool
  | .c_Number _ => true
  | _ => false
abbrev QNumber.to_Term (t : QNumber) : UTerm := .c_Number t.n
theorem UTerm.of_Value {K : PySem.W.Frag} {F : Hp} {v : V} {a0 : Str} : rp (α := QValue) K F v ⟨a0⟩ ↔ rp K F v (UTerm.c_Value a0) := by
  show _ ↔ UTerm.R K F _ v
  rw [UTerm.R]
  constructor
  · rintro ⟨a, dx, vs, e, q, w0, _, rfl, h0, rfl⟩
    exact ⟨a, dx, w0, e, q, h0⟩
  · rintro ⟨a, dx, w0, e, q, h0⟩
    exact ⟨a, dx, _, e, q, w0, _, rfl, h0, rfl⟩
def UTerm.as_Value : UTerm → Option QValue
  | .c_Value a0 => some ⟨a0⟩
  | _ => none
def UTerm.is_Value : UTerm → Bool
  | .c_Value _ => true
  | _ => false
abbrev QValue.to_Term (t : QValue) : UTerm := .c_Value t.name
theorem UTerm.of_Cell {K : PySem.W.Frag} {F : Hp} {v : V} {a0 : Str} {a1 : (Tp (T2 Str Int))} : rp (α := QCell) K F v ⟨a0, a1⟩ ↔ rp K F v (UTerm.c_Cell a0 a1) := by
  show _ ↔ UTerm.R K F _ v
  rw [UTerm.R]
  constructor
  · rintro ⟨a, dx, vs, e, q, w0, _, rfl, h0, w1, _, rfl, h1, rfl⟩
    exact ⟨a, dx, w0, w1, e, q, h0, h1⟩
  · rintro ⟨a, dx, w0, w1, e, q, h0, h1⟩
    exact ⟨a, dx, _, e, q, w0, _, rfl, h0, w1, _, rfl, h1, rfl⟩
def UTerm.as_Cell : UTerm → Option QCell
  | .c_Cell a0 a1 => some ⟨a0, a1⟩
  | _ => none
def UTerm.is_Cell : UTerm → Bool
  | .c_Cell _ _ => true
  | _ => false
abbrev QCell.to_Term (t : QCell) : UTerm := .c_Cell t.table t.spots
theorem UTerm.of_Joined {K : PySem.W.Frag} {F : Hp} {v : V} {a0 : Str} {a1 : UTerm} {a2 : UTerm} : rp (α := QJoined) K F v ⟨a0, a1, a2⟩ ↔ rp K F v (UTerm.c_Joined a0 a1 a2) := by
  show _ ↔ UTerm.R K F _ v
  rw [UTerm.R]
  constructor
  · rintro ⟨a, dx, vs, e, q, w0, _, rfl, h0, w1, _, rfl, h1, w2, _, rfl, h2, rfl⟩
    exact ⟨a, dx, w0, w1, w2, e, q, h0, h1, h2⟩
  · rintro ⟨a, dx, w0, w1, w2, e, q, h0, h1, h2⟩
    exact ⟨a, dx, _, e, q, w0, _, rfl, h0, w1, _, rfl, h1, w2, _, rfl, h2, rfl⟩
def UTerm.as_Joined : UTerm → Option QJoined
  | .c_Joined a0 a1 a2 => some ⟨a0, a1, a2⟩
  | _ => none
def UTerm.is_Joined : UTerm → Bool
  | .c_Joined _ _ _ => true
  | _ => false
abbrev QJoined.to_Term (t : QJoined) : UTerm := .c_Joined t.sign t.left t.right
section
variable {X : Cx} {e : Expr} {σ : L2.St} {F H : Hp} {x : UTerm}
theorem UTerm.mk_Number {t : QNumber} (h : Ev X e σ F H t) : Ev X e σ F H t.to_Term := h.re fun _ _ r => UTerm.of_Number.mp r
theorem UTerm.mk_Value {t : QValue} (h : Ev X e σ F H t) : Ev X e σ F H t.to_Term := h.re fun _ _ r => UTerm.of_Value.mp r
theorem UTerm.mk_Cell {t : QCell} (h : Ev X e σ F H t) : Ev X e σ F H t.to_Term := h.re fun _ _ r => UTerm.of_Cell.mp r
theorem UTerm.mk_Joined {t : QJoined} (h : Ev X e σ F H t) : Ev X e σ F H t.to_Term := h.re fun _ _ r => UTerm.of_Joined.mp r
end
inductive Xn where
  | TooMany
def Xn.R (K : PySem.W.Frag) (F H : Hp) (cls : Value) (dd : Option Addr) : Xn → Prop
  | .TooMany => xr0 "TooMany" K cls dd
instance : Xk Xn := ⟨Xn.R⟩
def m_cell (x_script : (List Int)) (x_k : Int) : Option Int :=
  if (decide (x_k < (x_script.length : Int))) = true then (L2.atI x_script x_k).bind fun t1 => some t1 else (some ((x_k * (7919 : Int)) + (5 : Int))).bind fun x_number => (if (decide ((0 : Int) < (x_script.length : Int))) = true then (modG (x_k * (7 : Int)) (x_script.length : Int)).bind fun t4 => (L2.atI x_script t4).bind fun t5 => (some (((t5 * (48271 : Int)) + (x_k * (7919 : Int))) % (2147483647 : Int))).bind fun x_number => some x_number else some x_number).bind fun (b2 : Int) => (mulG b2 b2).bind fun t6 => some (t6 % (2147483629 : Int))
def m_mixed (x_cell_here : Int) (x_k : Int) : Option Int :=
  (some ((((x_cell_here + ((7919 : Int) * x_k)) + (1 : Int)) * (48271 : Int)) % (2147483647 : Int))).bind fun x_number => (mulG x_number x_number).bind fun t1 => some (t1 % (2147483629 : Int))
def m_size (x_script : (List Int)) : Option Int :=
  (m_cell x_script (1 : Int)).bind fun t1 => (some t1).bind fun x_cell_here => (m_mixed x_cell_here (0 : Int)).bind fun t2 => (L2.atI [((2 : Int) + (x_cell_here % (9 : Int))), ((2 : Int) + (x_cell_here % ((1000000000000000000 : Int) - (2 : Int))))] (t2 % (2 : Int))).bind fun t3 => some t3
def m_name (x_cell_here : Int) (x_e : Int) : Option Str :=
  (some ("abcdefghijklmnopqrstuvwxyz" : Str)).bind fun x_some => (m_mixed x_cell_here (11 : Int)).bind fun t1 => (some t1).bind fun x_number => (some ("" : Str)).bind fun x_word => (rngG (x_number % (8 : Int))).bind fun t2 => (loopN (fun (b3 : Str) (x_k : Int) => (divG x_number (x_k + (9 : Int))).bind fun t7 => (sAt x_some (t7 % (26 : Int))).bind fun t8 => (sAdd b3 t8).bind fun t9 => (some t9).bind fun x_word => some x_word) x_word t2).bind fun (b10 : Str) => (sLen b10).bind fun t11 => (modG (x_number / (8 : Int)) (t11 + (1 : Int))).bind fun t12 => (some t12).bind fun x_at => (sCut b10 none (some x_at)).bind fun t13 => (sAt x_some (((x_number / (72 : Int)) + ((5 : Int) * x_e)) % (26 : Int))).bind fun t14 => (sAdd t13 t14).bind fun t15 => (sCut b10 (some x_at) none).bind fun t16 => (sAdd t15 t16).bind fun t17 => (some t17).bind fun x_name_here => (if (decide (((x_number / (5003 : Int)) % (4 : Int)) = (1 : Int))) = true then (sAdd b10 ("qrstuvwx" : Str)).bind fun t20 => (sCut t20 none (some ((5 : Int) + x_e))).bind fun t21 => (some t21).bind fun x_name_here => some x_name_here else some x_name_here).bind fun (b18 : Str) => (if (decide (b18 ∈ (Tp.mk ([("for" : Str), ("end" : Str), ("size" : Str)] : List Str)).l)) = true then (sAdd b18 ("s" : Str)).bind fun t24 => (some t24).bind fun x_name_here => some x_name_here else some b18).bind fun (b22 : Str) => some b22
def m_far (x_script : (List Int)) : Option (T7 (Tp Str) (Tp (T2 Str Int)) (Tp (T2 Str Int)) Str (Tp (T2 Str Int)) UShape (Tp Int)) :=
  (m_cell x_script (2 : Int)).bind fun t1 => (some t1).bind fun x_cell_here => (m_cell x_script (1 : Int)).bind fun t2 => (m_name t2 (0 : Int)).bind fun t3 => (m_cell x_script (1 : Int)).bind fun t4 => (m_name t4 (1 : Int)).bind fun t5 => (some (T2.mk t3 t5)).bind fun x_names => (some (T2.mk ("" : Str) ((x_cell_here % (100000000000000000 : Int)) - (10000000000000000 : Int)))).bind fun x_low => (some (T2.mk ("" : Str) ((x_low.b + (1000000000000000 : Int)) + ((x_cell_here / (7 : Int)) % (100000000000000000 : Int))))).bind fun x_high => (m_mixed x_cell_here (2 : Int)).bind fun t6 => (some ((1 : Int) + (t6 % (2 : Int)))).bind fun x_depth => (some (T2.mk x_low (T2.mk x_names.a (1 : Int)))).bind fun x_lows => (m_mixed x_cell_here (3 : Int)).bind fun t7 => (some (T2.mk x_high (T2.mk x_names.a (t7 % (4 : Int))))).bind fun x_highs => (mulT (Tp.mk [(T1.mk (0 : Int)).a]) (x_depth + (1 : Int))).bind fun t8 => some (T7.mk (Tp.mk (cut (Tp.mk [x_names.a, x_names.b]).l none (some x_depth))) (Tp.mk (cut (Tp.mk [x_lows.a, x_lows.b]).l none (some x_depth))) (Tp.mk (cut (Tp.mk [x_highs.a, x_highs.b]).l none (some x_depth))) ("a" : Str) (Tp.mk ([(T2.mk ("" : Str) (0 : Int))] : List (T2 Str Int))) (UShape.v_n (1 : Int)) t8)
def m_Number_init (x_n : Int) : Option (Int × Unit) :=
  some (x_n, ())
def m_Value_init (x_name : Str) : Option (Str × Unit) :=
  some (x_name, ())
def m_Cell_init (x_table : Str) (x_spots : (Tp (T2 Str Int))) : Option (Str × (Tp (T2 Str Int)) × Unit) :=
  some (x_table, x_spots, ())
def m_Joined_init (x_sign : Str) (x_left : UTerm) (x_right : UTerm) : Option (Str × UTerm × UTerm × Unit) :=
  some (x_sign, x_left, x_right, ())
def m_object : Nat → UShape → Option UTerm
  | 0, _ => none
  | n_ + 1, x_term_here =>
    if (decide (x_term_here.tag = ("n" : Str))) = true then (x_term_here.asv_n).bind fun t1 => some (QNumber.to_Term (QNumber.mk t1.b)) else if (decide (x_term_here.tag = ("v" : Str))) = true then (x_term_here.asv_v).bind fun t2 => some (QValue.to_Term (QValue.mk t2.b)) else if (decide (x_term_here.tag = ("c" : Str))) = true then (x_term_here.asv_c).bind fun t3 => (x_term_here.asv_c).bind fun t4 => some (QCell.to_Term (QCell.mk t3.b t4.c)) else (x_term_here.asv_any).bind fun t5 => (m_object n_ t5.b).bind fun t6 => (x_term_here.asv_any).bind fun t7 => (m_object n_ t7.c).bind fun t8 => some (QJoined.to_Term (QJoined.mk x_term_here.tag t6 t8))
def m_Deed_init (x_names : (Tp Str)) (x_lows : (Tp (T2 Str Int))) (x_highs : (Tp (T2 Str Int))) (x_table : Str) (x_spots : (Tp (T2 Str Int))) (x_term : UTerm) (x_path : (Tp Int)) : Option ((Tp Str) × (Tp (T2 Str Int)) × (Tp (T2 Str Int)) × Str × (Tp (T2 Str Int)) × UTerm × (Tp Int) × Unit) :=
  some (x_names, x_lows, x_highs, x_table, x_spots, x_term, x_path, ())
def m_Program_init (x_size : Int) (x_deeds : (List QDeed)) : Option (Int × (List QDeed) × Unit) :=
  some (x_size, x_deeds, ())
def m_Program_initN (x_size : Int) (x_deeds : (List QDeed)) : Option (T2 Int (List QDeed)) :=
  some (T2.mk x_size x_deeds)
def m_made (x_size_here : Int) (x_rows_here : (List (T7 (Tp Str) (Tp (T2 Str Int)) (Tp (T2 Str Int)) Str (Tp (T2 Str Int)) UShape (Tp Int)))) : Option (T2 Int (List QDeed)) :=
  (compG (fun (x_row_here : (T7 (Tp Str) (Tp (T2 Str Int)) (Tp (T2 Str Int)) Str (Tp (T2 Str Int)) UShape (Tp Int))) => (m_object 30 x_row_here.f).bind fun t1 => some (some (QDeed.mk x_row_here.a x_row_here.b x_row_here.c x_row_here.d x_row_here.e t1 x_row_here.g))) x_rows_here).bind fun t2 => (some t2).bind fun x_deeds => (m_Program_initN x_size_here x_deeds).bind fun t3 => some (T2.mk t3.a t3.b)
def m_Walk_init (x_most : Int) : Option QWalk :=
  some (QWalk.mk x_most (([] : List (T2 Int (Tp Int)))))
def m_put_apart (x_numbered : (List (T2 Int QDeed))) (x_depth : Int) : Option (List (List (T2 Int QDeed))) :=
  (loopN (fun (b1 : (List (List (T2 Int QDeed)))) (i2 : (T2 Int QDeed)) => (if b1.isEmpty = true then some true else (L2.atI b1 (-(1 : Int))).bind fun t7 => (L2.atI t7 (0 : Int)).bind fun t8 => (L2.atI t8.b.path.l x_depth).bind fun t9 => (L2.atI i2.b.path.l x_depth).bind fun t10 => some (!decide (t9 = t10))).bind fun t11 => (if t11 = true then (app b1 ([] : (List (T2 Int QDeed)))).bind fun t14 => some t14 else some b1).bind fun (b12 : (List (List (T2 Int QDeed)))) => (appG2 b12 (-(1 : Int)) (T2.mk i2.a i2.b)).bind fun t15 => some t15) ([] : (List (List (T2 Int QDeed)))) x_numbered).bind fun (b16 : (List (List (T2 Int QDeed)))) => some b16
def m_Walk_spend (x_self : QWalk) : Option (Rs Xn Unit × QWalk) :=
  if (decide (x_self.left < (1 : Int))) = true then some (Rs.x Xn.TooMany, x_self) else (some { x_self with left := (x_self.left - (1 : Int)) }).bind fun w1 => some (Rs.v (), w1)
def m_Walk_note (x_self : QWalk) (x_k : Int) (x_values : (Tp Int)) : Option (Rs Xn Unit × QWalk) :=
  (m_Walk_spend x_self).bind fun t1 => (match t1 with | (Rs.x e1, u1) => some (Rs.x e1, u1) | (Rs.v _, u1) => (app u1.turns (T2.mk x_k x_values)).bind fun t2 => (some { u1 with turns := t2 }).bind fun w3 => some (Rs.v (), w3))
def m_placed (x_spots : (T2 (T2 Str Int) (T2 Str Int))) (x_values : (Dct Str Int)) : Option (Tp Int) :=
  (some ([] : List Int)).bind fun x_found => (loopN (fun (b1 : (List Int)) (i2 : (T2 Str Int)) => if (decide (i2.a = ("" : Str))) = true then (app b1 i2.b).bind fun t7 => some t7 else (x_values.look i2.a).bind fun t8 => (app b1 (t8 + i2.b)).bind fun t9 => some t9) x_found (Tp.mk [x_spots.a, x_spots.b]).l).bind fun (b10 : (List Int)) => some (Tp.mk b10)
def m_bounds_of (x_deed : QDeed) (x_values : (Tp Int)) : Option (Tp Int) :=
  (some (Dct.mk [] : (Dct Str Int))).bind fun x_around => (loopN (fun (b1 : (Dct Str Int)) (i2 : (T2 Str Int)) => (dputG b1 i2.a i2.b).bind fun t7 => some t7) x_around (zipL x_deed.names.l x_values.l)).bind fun (b8 : (Dct Str Int)) => (some (x_values.l.length : Int)).bind fun x_depth => (L2.atI x_deed.lows.l x_depth).bind fun t9 => (L2.atI x_deed.highs.l x_depth).bind fun t10 => (m_placed (T2.mk t9 t10) b8).bind fun t11 => some t11
def m_go : Nat → QWalk → (List (T2 Int QDeed)) → (Tp Int) → Option (Rs Xn Unit × QWalk)
  | 0, _, _, _ => none
  | n_ + 1, x_walk, x_numbered, x_values =>
    (some (x_values.l.length : Int)).bind fun x_depth => (m_put_apart x_numbered x_depth).bind fun t1 => (loopM (ρ := Rs Xn Unit × QWalk) (fun (b2 : QWalk) (x_group : (List (T2 Int QDeed))) => (L2.atI x_group (0 : Int)).bind fun t6 => (some t6.b).bind fun x_deed => if (decide ((x_deed.names.l.length : Int) = x_depth)) = true then (L2.atI x_group (0 : Int)).bind fun t7 => (m_Walk_note b2 t7.a x_values).bind fun t8 => (match t8 with | (Rs.x e1, u8) => some (Lp.rt (Rs.x e1, u8)) | (Rs.v _, u8) => some (Lp.nx u8)) else (m_bounds_of x_deed x_values).bind fun t9 => (to2 t9.l).bind fun t10 => (some t10).bind fun i11 => (whileM (ρ := Rs Xn Unit × QWalk) (fun (b14 : (QWalk × Int)) => some (decide (b14.2 ≤ i11.b))) (fun (b14 : (QWalk × Int)) => (m_Walk_spend b14.1).bind fun t17 => (match t17 with | (Rs.x e2, u17) => some (Lp.rt (Rs.x e2, u17)) | (Rs.v _, u17) => (catT x_values (Tp.mk ([b14.2] : List Int))).bind fun t18 => (m_go n_ u17 x_group t18).bind fun t19 => (match t19 with | (Rs.x e3, u19) => some (Lp.rt (Rs.x e3, u19)) | (Rs.v _, u19) => (some (b14.2 + (1 : Int))).bind fun x_low => some (Lp.nx (u19, x_low))))) 100000 (b2, i11.a)).bind fun o20 => o20.thn (fun (b20 : (QWalk × Int)) => some (Lp.nx b20.1)) (fun r_ => some (Lp.rt r_))) x_walk t1).bind fun o21 => o21.thn (fun (b21 : QWalk) => some (Rs.v (), b21)) (fun r_ => some r_)
def m_turns (x_program : QProgram) (x_most : Int) : Option (Rs Xn (List (T2 Int (Tp Int)))) :=
  (m_Walk_init x_most).bind fun t1 => (m_go 6 t1 (enumL x_program.deeds) (Tp.mk ([] : List Int))).bind fun t2 => (match t2 with | (Rs.x e1, _) => some (Rs.x e1) | (Rs.v _, u2) => some (Rs.v u2.turns))
def m_plain (x_e : Str) : Option Bool :=
  (isaG xkn xs_NoText x_e).bind fun t1 => (if t1 = true then some true else (isaG xkn xs_NoPlan x_e).bind fun t2 => (if t2 = true then some true else (isaG xkn xs_NoTurning x_e).bind fun t3 => (if t3 = true then some true else (isaG xkn xs_BadPlan x_e).bind fun t4 => some t4).bind fun t5 => some t5).bind fun t6 => some t6).bind fun t7 => if t7 = true then some false else (isaG xkn xs_ValueError x_e).bind fun t8 => (if t8 = true then (isaG xkn xs_NoWidth x_e).bind fun t9 => (if (!t9) = true then (isaG xkn xs_NoValues x_e).bind fun t10 => some (!t10) else some false).bind fun t11 => some t11 else some false).bind fun t12 => some t12
def m_refused (x_program : QProgram) (x_bound : Int) : Option Bool :=
  (m_turns x_program x_bound).bind fun t1 => (match t1 with | Rs.v t2 => some false | Rs.x e3 => (match e3 with | Xn.TooMany => (if true = true then (m_plain ("TooMany" : Str)).bind fun t4 => some t4 else some false).bind fun t5 => some t5))
def m_many (x_script : (List Int)) : Option Int :=
  (m_cell x_script (0 : Int)).bind fun t1 => (m_mixed t1 (1 : Int)).bind fun t2 => (L2.atI [(1 : Int), (2 : Int), (3 : Int), (2 : Int), (1 : Int), (3 : Int), (2 : Int), (4 : Int)] (t2 % (8 : Int))).bind fun t3 => some t3
def m_loop (x_number : Int) (x_far_here : Int) (x_stack : (List (T5 Str (T2 Str Int) (T2 Str Int) Int Int))) (x_cell_here : Int) : Option (T5 Str (T2 Str Int) (T2 Str Int) Int Int) :=
  (L2.atI [(0 : Int), (0 : Int), x_far_here] (x_number % (3 : Int))).bind fun t1 => (some t1).bind fun x_about => (compG (fun (x_one : (T5 Str (T2 Str Int) (T2 Str Int) Int Int)) => some (some (T2.mk x_one.a x_one.d))) x_stack).bind fun t2 => (catG [(T2.mk ("" : Str) (0 : Int))] t2).bind fun t3 => (some t3).bind fun x_bases => (modG (x_number / (3 : Int)) (x_bases.length : Int)).bind fun t4 => (L2.atI x_bases t4).bind fun t5 => (some t5).bind fun x_low => (modG (x_number / (13 : Int)) (x_bases.length : Int)).bind fun t6 => (L2.atI x_bases t6).bind fun t7 => (some t7).bind fun x_high => (L2.atI [(2 : Int), (1 : Int), (3 : Int), (0 : Int), (1 : Int), (2 : Int), (-(1 : Int)), (1 : Int)] ((x_number / (53 : Int)) % (8 : Int))).bind fun t8 => (some t8).bind fun x_more => (some (T2.mk x_low.a ((x_about - x_low.b) + ((x_number / (500 : Int)) % (2 : Int))))).bind fun x_low_spot => (some ((x_number / (4000 : Int)) % (3 : Int))).bind fun x_turn => (if (!x_stack.isEmpty) = true then (L2.atI x_stack (0 : Int)).bind fun t11 => (some t11.e).bind fun x_turn => some x_turn else some x_turn).bind fun (b9 : Int) => (m_name x_cell_here (((x_stack.length : Int) + b9) % (3 : Int))).bind fun t12 => (some t12).bind fun x_name_here => some (T5.mk x_name_here x_low_spot (T2.mk x_high.a ((x_about - x_high.b) + x_more)) x_about b9)
def m_heads (x_script : (List Int)) : Option (List (T3 Str Int Int)) :=
  (m_cell x_script (0 : Int)).bind fun t1 => (some t1).bind fun x_cell_here => (m_mixed x_cell_here (0 : Int)).bind fun t2 => (some t2).bind fun x_number => (L2.atI [(0 : Int), (0 : Int), ((x_cell_here % (((2 : Int) * (100000000000000000 : Int)) + (1 : Int))) - (100000000000000000 : Int))] (x_number % (3 : Int))).bind fun t3 => (some t3).bind fun x_off => (some ([] : List (T3 Str Int Int))).bind fun x_heads_here => (loopN (fun (b4 : (List (T3 Str Int Int))) (x_t : Int) => (m_name (x_number / (3 : Int)) x_t).bind fun t8 => (L2.atI [(1 : Int), (2 : Int), (1 : Int), (3 : Int), (1 : Int), (2 : Int)] (((x_number / (7 : Int)) + x_t) % (6 : Int))).bind fun t9 => (app b4 (T3.mk t8 t9 x_off)).bind fun t10 => some t10) x_heads_here (intsF 0 3)).bind fun (b11 : (List (T3 Str Int Int))) => some b11
def m_spots (x_number : Int) (x_bases : (List (T2 Str Int))) (x_many_here : Int) (x_off : Int) : Option (Tp (T2 Str Int)) :=
  (some ([] : List (T2 Str Int))).bind fun x_spots_here => (rngG x_many_here).bind fun t1 => (loopN (fun (b2 : (List (T2 Str Int))) (x_k : Int) => (L2.atI [(1 : Int), (12 : Int), (144 : Int)] x_k).bind fun t6 => (divG x_number t6).bind fun t7 => (some t7).bind fun x_part => (modG x_part (x_bases.length : Int)).bind fun t8 => (L2.atI x_bases t8).bind fun t9 => (some t9).bind fun x_base => (app b2 (T2.mk x_base.a ((x_off + ((x_part / (4 : Int)) % (3 : Int))) - x_base.b))).bind fun t10 => some t10) x_spots_here t1).bind fun (b11 : (List (T2 Str Int))) => some (Tp.mk b11)
def m_cell_of (x_number : Int) (x_bases : (List (T2 Str Int))) (x_heads_here : (List (T3 Str Int Int))) : Option (T2 Str (Tp (T2 Str Int))) :=
  (L2.atI [(0 : Int), (0 : Int), (0 : Int), (1 : Int), (1 : Int), (2 : Int)] (x_number % (6 : Int))).bind fun t1 => (L2.atI x_heads_here t1).bind fun t2 => (some t2).bind fun i3 => (m_spots (x_number / (6 : Int)) x_bases i3.b i3.c).bind fun t6 => some (T2.mk i3.a t6)
def m_leaf (x_number : Int) (x_bases : (List (T2 Str Int))) (x_heads_here : (List (T3 Str Int Int))) : Option UShape :=
  if (decide ((1 : Int) < (x_number % (4 : Int)))) = true then (m_cell_of (x_number / (4 : Int)) x_bases x_heads_here).bind fun t1 => (some t1).bind fun i2 => some (UShape.v_c i2.a i2.b) else if ((decide ((x_number % (4 : Int)) = (1 : Int))) && (decide ((1 : Int) < (x_bases.length : Int)))) = true then (modG (x_number / (4 : Int)) ((x_bases.length : Int) - (1 : Int))).bind fun t5 => (L2.atI x_bases ((1 : Int) + t5)).bind fun t6 => some (UShape.v_v t6.a) else (mulG x_number x_number).bind fun t7 => (L2.atI [((x_number / (4 : Int)) % (10 : Int)), (t7 % (1000000000000000000 : Int))] ((x_number / (64 : Int)) % (2 : Int))).bind fun t8 => some (UShape.v_n t8)
def m_term (x_cell_here : Int) (x_bases : (List (T2 Str Int))) (x_heads_here : (List (T3 Str Int Int))) : Option UShape :=
  (m_mixed x_cell_here (5 : Int)).bind fun t1 => (m_leaf t1 x_bases x_heads_here).bind fun t2 => (some t2).bind fun x_term_here => (m_mixed x_cell_here (6 : Int)).bind fun t3 => (rngG (t3 % (3 : Int))).bind fun t4 => (loopN (fun (b5 : UShape) (x_k : Int) => (m_mixed x_cell_here (7 : Int)).bind fun t9 => (divG t9 ((1 : Int) + x_k)).bind fun t10 => (L2.atI [("+" : Str), ("-" : Str), ("*" : Str)] (t10 % (3 : Int))).bind fun t11 => (some t11).bind fun x_sign => (m_mixed x_cell_here ((8 : Int) + x_k)).bind fun t12 => (m_leaf t12 x_bases x_heads_here).bind fun t13 => (some t13).bind fun x_leaf_here => (m_mixed x_cell_here (7 : Int)).bind fun t14 => (divG t14 ((5 : Int) + x_k)).bind fun t15 => if (decide ((t15 % (2 : Int)) = (1 : Int))) = true then (some (UShape.v_any x_sign x_leaf_here b5)).bind fun x_term_here => some x_term_here else (some (UShape.v_any x_sign b5 x_leaf_here)).bind fun x_term_here => some x_term_here) x_term_here t4).bind fun (b16 : UShape) => some b16
def m_row (x_cell_here : Int) (x_stack : (List (T5 Str (T2 Str Int) (T2 Str Int) Int Int))) (x_path : (List Int)) (x_heads_here : (List (T3 Str Int Int))) : Option (T7 (Tp Str) (Tp (T2 Str Int)) (Tp (T2 Str Int)) Str (Tp (T2 Str Int)) UShape (Tp Int)) :=
  (compG (fun (x_one : (T5 Str (T2 Str Int) (T2 Str Int) Int Int)) => some (some (T2.mk x_one.a x_one.d))) x_stack).bind fun t1 => (catG [(T2.mk ("" : Str) (0 : Int))] t1).bind fun t2 => (some t2).bind fun x_bases => (compG (fun (x_one : (T5 Str (T2 Str Int) (T2 Str Int) Int Int)) => some (some x_one.a)) x_stack).bind fun t3 => (some (Tp.mk t3)).bind fun x_names => (compG (fun (x_one : (T5 Str (T2 Str Int) (T2 Str Int) Int Int)) => some (some x_one.b)) x_stack).bind fun t4 => (some (Tp.mk t4)).bind fun x_lows => (compG (fun (x_one : (T5 Str (T2 Str Int) (T2 Str Int) Int Int)) => some (some x_one.c)) x_stack).bind fun t5 => (some (Tp.mk t5)).bind fun x_highs => (m_mixed x_cell_here (4 : Int)).bind fun t6 => (m_cell_of t6 x_bases x_heads_here).bind fun t7 => (some t7).bind fun i8 => (m_term x_cell_here x_bases x_heads_here).bind fun t11 => some (T7.mk x_names x_lows x_highs i8.a i8.b t11 (Tp.mk x_path))
def m_rows (x_script : (List Int)) (x_many_here : Int) : Option (List (T7 (Tp Str) (Tp (T2 Str Int)) (Tp (T2 Str Int)) Str (Tp (T2 Str Int)) UShape (Tp Int))) :=
  (m_cell x_script (2 : Int)).bind fun t1 => (some ((t1 % (((2 : Int) * (100000000000000000 : Int)) + (1 : Int))) - (100000000000000000 : Int))).bind fun x_far_here => (some ([] : List (T5 Str (T2 Str Int) (T2 Str Int) Int Int))).bind fun x_stack => (some [(0 : Int)]).bind fun x_counts => (some ([] : List Int)).bind fun x_path => (some ([] : List (T7 (Tp Str) (Tp (T2 Str Int)) (Tp (T2 Str Int)) Str (Tp (T2 Str Int)) UShape (Tp Int)))).bind fun x_rows_here => (rngG x_many_here).bind fun t2 => (loopN (fun (b3 : ((List (T5 Str (T2 Str Int) (T2 Str Int) Int Int)) × (List Int) × (List Int) × (List (T7 (Tp Str) (Tp (T2 Str Int)) (Tp (T2 Str Int)) Str (Tp (T2 Str Int)) UShape (Tp Int))))) (x_k : Int) => (m_cell x_script ((3 : Int) + x_k)).bind fun t7 => (some t7).bind fun x_cell_here => (m_mixed x_cell_here (0 : Int)).bind fun t8 => (some t8).bind fun x_number => (some (none : (Option (T5 Str (T2 Str Int) (T2 Str Int) Int Int)))).bind fun x_closed => (modG x_number ((b3.1.length : Int) + (1 : Int))).bind fun t9 => (rngG t9).bind fun t10 => (loopN (fun (b11 : ((Option (T5 Str (T2 Str Int) (T2 Str Int) Int Int)) × (List (T5 Str (T2 Str Int) (T2 Str Int) Int Int)) × (List Int) × (List Int))) (x_close : Int) => (L2.atI b11.2.1 (-(1 : Int))).bind fun t15 => (some (some t15)).bind fun x_closed => (some (cut b11.2.1 none (some (-(1 : Int))))).bind fun x_stack => (some (cut b11.2.2.1 none (some (-(1 : Int))))).bind fun x_counts => (some (cut b11.2.2.2 none (some (-(1 : Int))))).bind fun x_path => some (x_closed, x_stack, x_counts, x_path)) (x_closed, b3.1, b3.2.1, b3.2.2.1) t10).bind fun (b16 : ((Option (T5 Str (T2 Str Int) (T2 Str Int) Int Int)) × (List (T5 Str (T2 Str Int) (T2 Str Int) Int Int)) × (List Int) × (List Int))) => (L2.atI [(1 : Int), (2 : Int), (2 : Int), (3 : Int), (1 : Int), (2 : Int), (0 : Int), (1 : Int)] ((x_number / (4 : Int)) % (8 : Int))).bind fun t17 => (some t17).bind fun x_opens => (if (decide ((0 : Int) < x_k)) = true then (L2.atI [(0 : Int), (1 : Int), (0 : Int), (1 : Int), (2 : Int), (0 : Int), (1 : Int), (0 : Int)] ((x_number / (4 : Int)) % (8 : Int))).bind fun t20 => (some t20).bind fun x_opens => some x_opens else some x_opens).bind fun (b18 : Int) => (rngG (if ((3 : Int) - (b16.2.1.length : Int)) < b18 then ((3 : Int) - (b16.2.1.length : Int)) else b18)).bind fun t21 => (loopN (fun (b22 : ((List (T5 Str (T2 Str Int) (T2 Str Int) Int Int)) × (List Int) × (List Int))) (x_e : Int) => (m_mixed x_cell_here ((1 : Int) + x_e)).bind fun t26 => (m_cell x_script (1 : Int)).bind fun t27 => (m_loop t26 x_far_here b22.1 t27).bind fun t28 => (some t28).bind fun x_loop_here => (if (decide (x_e = (0 : Int))) = true then (match b16.1 with | none => some false | some x_closed => some (decide (((x_number / (64 : Int)) % (3 : Int)) = (1 : Int)))).bind fun t29 => some t29 else some false).bind fun t30 => (if t30 = true then (b16.1).bind fun t33 => (some t33).bind fun x_loop_here => some x_loop_here else some x_loop_here).bind fun (b31 : (T5 Str (T2 Str Int) (T2 Str Int) Int Int)) => (catG b22.1 [b31]).bind fun t34 => (some t34).bind fun x_stack => (L2.atI b22.2.2 (-(1 : Int))).bind fun t35 => (catG b22.2.1 [t35]).bind fun t36 => (some t36).bind fun x_path => (L2.atI b22.2.2 (-(1 : Int))).bind fun t37 => (catG (cut b22.2.2 none (some (-(1 : Int)))) [(t37 + (1 : Int)), (0 : Int)]).bind fun t38 => (some t38).bind fun x_counts => some (x_stack, x_path, x_counts)) (b16.2.1, b16.2.2.2, b16.2.2.1) t21).bind fun (b39 : ((List (T5 Str (T2 Str Int) (T2 Str Int) Int Int)) × (List Int) × (List Int))) => (L2.atI b39.2.2 (-(1 : Int))).bind fun t40 => (catG b39.2.1 [t40]).bind fun t41 => (m_heads x_script).bind fun t42 => (m_row x_cell_here b39.1 t41 t42).bind fun t43 => (app b3.2.2.2 t43).bind fun t44 => (L2.atI b39.2.2 (-(1 : Int))).bind fun t45 => (catG (cut b39.2.2 none (some (-(1 : Int)))) [(t45 + (1 : Int))]).bind fun t46 => (some t46).bind fun x_counts => some (b39.1, x_counts, b39.2.1, t44)) (x_stack, x_counts, x_path, x_rows_here) t2).bind fun (b47 : ((List (T5 Str (T2 Str Int) (T2 Str Int) Int Int)) × (List Int) × (List Int) × (List (T7 (Tp Str) (Tp (T2 Str Int)) (Tp (T2 Str Int)) Str (Tp (T2 Str Int)) UShape (Tp Int))))) => some b47.2.2.2
def m_around (x_names : (Tp Str)) (x_values : (Tp Int)) : Option (Dct Str Int) :=
  (some (Dct.mk [] : (Dct Str Int))).bind fun x_around_here => (loopN (fun (b1 : (Dct Str Int)) (i2 : (T2 Str Int)) => (dputG b1 i2.a i2.b).bind fun t7 => some t7) x_around_here (zipL x_names.l x_values.l)).bind fun (b8 : (Dct Str Int)) => some b8
def m_stand (x_spots_here : (T2 (T2 Str Int) (T2 Str Int))) (x_around_here : (Dct Str Int)) : Option (Tp Int) :=
  (some ([] : List Int)).bind fun x_place => (loopN (fun (b1 : (List Int)) (i2 : (T2 Str Int)) => if (decide (i2.a = ("" : Str))) = true then (app b1 i2.b).bind fun t7 => some t7 else (x_around_here.look i2.a).bind fun t8 => (app b1 (t8 + i2.b)).bind fun t9 => some t9) x_place (Tp.mk [x_spots_here.a, x_spots_here.b]).l).bind fun (b10 : (List Int)) => some (Tp.mk b10)
def m_levels (x_row_here : (T7 (Tp Str) (Tp (T2 Str Int)) (Tp (T2 Str Int)) Str (Tp (T2 Str Int)) UShape (Tp Int))) : Option (List (List (Tp Int))) :=
  (some [[(Tp.mk ([] : List Int))]]).bind fun x_levels_here => (rngG (x_row_here.a.l.length : Int)).bind fun t1 => (loopN (fun (b2 : (List (List (Tp Int)))) (x_e : Int) => (some ([] : List (Tp Int))).bind fun x_level => (L2.atI b2 (-(1 : Int))).bind fun t6 => (loopN (fun (b7 : (List (Tp Int))) (x_values : (Tp Int)) => (L2.atI x_row_here.b.l x_e).bind fun t11 => (L2.atI x_row_here.c.l x_e).bind fun t12 => (m_around x_row_here.a x_values).bind fun t13 => (m_stand (T2.mk t11 t12) t13).bind fun t14 => (to2 t14.l).bind fun t15 => (some t15).bind fun i16 => (whileN (fun (b19 : ((List (Tp Int)) × Int)) => some (decide (b19.2 ≤ i16.b))) (fun (b19 : ((List (Tp Int)) × Int)) => (catT x_values (Tp.mk ([b19.2] : List Int))).bind fun t22 => (app b19.1 t22).bind fun t23 => (some (b19.2 + (1 : Int))).bind fun x_low => some (t23, x_low)) 100000 (b7, i16.a)).bind fun (b24 : ((List (Tp Int)) × Int)) => some b24.1) x_level t6).bind fun (b25 : (List (Tp Int))) => (app b2 b25).bind fun t26 => some t26) x_levels_here t1).bind fun (b27 : (List (List (Tp Int)))) => some b27
def m_counted (x_rows_here : (List (T7 (Tp Str) (Tp (T2 Str Int)) (Tp (T2 Str Int)) Str (Tp (T2 Str Int)) UShape (Tp Int)))) : Option (T2 Int Int) :=
  (some (Dct.mk [] : (Dct (Tp Int) Int))).bind fun x_loops => (some (0 : Int)).bind fun x_deeds => (loopN (fun (b1 : (Int × (Dct (Tp Int) Int))) (x_row_here : (T7 (Tp Str) (Tp (T2 Str Int)) (Tp (T2 Str Int)) Str (Tp (T2 Str Int)) UShape (Tp Int))) => (m_levels x_row_here).bind fun t5 => (some t5).bind fun x_levels_here => (L2.atI x_levels_here (-(1 : Int))).bind fun t6 => (some (b1.1 + (t6.length : Int))).bind fun x_deeds => (rngG (x_row_here.a.l.length : Int)).bind fun t7 => (loopN (fun (b8 : (Dct (Tp Int) Int)) (x_e : Int) => (L2.atI x_levels_here (x_e + (1 : Int))).bind fun t12 => (dputG b8 (Tp.mk (cut x_row_here.g.l none (some (x_e + (1 : Int))))) (t12.length : Int)).bind fun t13 => some t13) b1.2 t7).bind fun (b14 : (Dct (Tp Int) Int)) => some (x_deeds, b14)) (x_deeds, x_loops) x_rows_here).bind fun (b15 : (Int × (Dct (Tp Int) Int))) => some (T2.mk b15.2.vals.sum b15.1)
def m_told (x_program : QProgram) (x_bound : Int) (x_many_here : Int) : Option Bool :=
  (m_turns x_program x_bound).bind fun t1 => (match t1 with | Rs.v t2 => some (decide ((t2.length : Int) = x_many_here)) | Rs.x e3 => (match e3 with | Xn.TooMany => some false))
def m_law (x_script : (List Int)) : Option Bool :=
  (m_cell x_script (0 : Int)).bind fun t1 => (m_mixed t1 (3 : Int)).bind fun t2 => (some t2).bind fun x_pick => (m_size x_script).bind fun t3 => (some t3).bind fun x_size_here => if (decide ((x_pick % (4 : Int)) = (1 : Int))) = true then (m_far x_script).bind fun t4 => (m_made x_size_here [t4]).bind fun t5 => (m_refused (QProgram.mk t5.a t5.b) ((x_pick / (4 : Int)) % (61 : Int))).bind fun t6 => some t6 else (m_many x_script).bind fun t7 => (m_rows x_script t7).bind fun t8 => (some t8).bind fun x_rows_here => (m_made x_size_here x_rows_here).bind fun t9 => (m_counted x_rows_here).bind fun t10 => (some t10).bind fun i11 => (some (i11.a + i11.b)).bind fun x_many_here => (L2.atI [x_many_here, (x_many_here - (1 : Int)), (x_many_here + (1 : Int)), (x_many_here - (3 : Int)), (x_many_here + (3 : Int)), (0 : Int), ((x_pick / (48 : Int)) % (61 : Int))] ((x_pick / (4 : Int)) % (7 : Int))).bind fun t14 => (some (if t14 > (0 : Int) then t14 else (0 : Int))).bind fun x_bound => (if (decide (x_bound < x_many_here)) = true then (m_refused (QProgram.mk t9.a t9.b) x_bound).bind fun t15 => some (!t15) else some false).bind fun t16 => (if t16 = true then some true else (if (decide (x_many_here ≤ x_bound)) = true then (m_told (QProgram.mk t9.a t9.b) x_bound i11.b).bind fun t17 => some (!t17) else some false).bind fun t18 => some t18).bind fun t19 => if t19 = true then some false else (m_told (QProgram.mk t9.a t9.b) x_many_here i11.b).bind fun t20 => if (!t20) = true then some false else (if (decide (x_many_here = (0 : Int))) = true then some true else (m_refused (QProgram.mk t9.a t9.b) (x_many_here - (1 : Int))).bind fun t21 => (if t21 = true then (m_told (QProgram.mk t9.a t9.b) x_many_here i11.b).bind fun t22 => some t22 else some false).bind fun t23 => some t23).bind fun t24 => some t24
theorem cell_ok (ns : List Int) {k : Int} (h0 : 0 ≤ k) (hk : k ≤ 1000) : Ok (m_cell ns k) fun _ => True := by
  unfold m_cell
  refine Ok.dite (fun h => ?_) fun _ => ?_
  · obtain ⟨v, e, _⟩ := atI_mem h0 h
    exact .of (by rw [e]; rfl) trivial
  · simp only [Option.bind_some]
    refine .bind (P := fun v : Int => 0 ≤ v ∧ v < 2147483647) (Ok.dite (fun h => ?_) fun _ => .ret (by omega)) fun b hb => ?_
    · rw [modG_p h]
      simp only [Option.bind_some]
      exact .bind (atI_mem (Int.emod_nonneg _ (by omega)) (Int.emod_lt_of_pos _ h)) fun v _ => .ret ⟨Int.emod_nonneg _ (by decide), Int.emod_lt_of_pos _ (by decide)⟩
    · rw [mulG_l (by omega)]
      exact .ret trivial
theorem mixed_ok (c k : Int) : Ok (m_mixed c k) fun v => 0 ≤ v ∧ v < 2147483629 := by
  unfold m_mixed
  simp only [Option.bind_some]
  have h0 := Int.emod_nonneg ((c + 7919 * k + 1) * 48271) (show (2147483647 : Int) ≠ 0 by decide)
  have h1 := Int.emod_lt_of_pos ((c + 7919 * k + 1) * 48271) (show (0 : Int) < 2147483647 by decide)
  generalize (c + 7919 * k + 1) * 48271 % 2147483647 = x at *
  rw [mulG_l (by omega)]
  exact .ret ⟨Int.emod_nonneg _ (by decide), Int.emod_lt_of_pos _ (by decide)⟩
theorem az : cl ("abcdefghijklmnopqrstuvwxyz" : Str) = [97,98,99,100,101,102,103,104,105,106,107,108,109,110,111,112,113,114,115,116,117,118,119,120,121,122] := by decide +kernel
theorem az_at {i : Int} (h0 : 0 ≤ i) (h1 : i < 26) : sAt ("abcdefghijklmnopqrstuvwxyz" : Str) i = some ⟨#[97 + i.toNat]⟩ := by
  unfold sAt
  rw [if_pos (by rw [len_c, az, szl]; decide), atI_nn h0]
  show Option.map _ ((cl ("abcdefghijklmnopqrstuvwxyz" : Str))[i.toNat]?) = _
  rw [az]
  have : i = 0 ∨ i = 1 ∨ i = 2 ∨ i = 3 ∨ i = 4 ∨ i = 5 ∨ i = 6 ∨ i = 7 ∨ i = 8 ∨ i = 9 ∨ i = 10 ∨ i = 11 ∨ i = 12 ∨ i = 13 ∨ i = 14 ∨ i = 15 ∨ i = 16 ∨ i = 17 ∨ i = 18 ∨ i = 19 ∨ i = 20 ∨ i = 21 ∨ i = 22 ∨ i = 23 ∨ i = 24 ∨ i = 25 := by omega
  rcases this with h | h | h | h | h | h | h | h | h | h | h | h | h | h | h | h | h | h | h | h | h | h | h | h | h | h <;> subst h <;> rfl
theorem az_mod (i : Int) : sAt ("abcdefghijklmnopqrstuvwxyz" : Str) (i % 26) = some ⟨#[97 + (i % 26).toNat]⟩ := az_at (Int.emod_nonneg _ (by decide)) (Int.emod_lt_of_pos _ (by decide))
def small (l : List Nat) : Prop := ∀ c ∈ l, 97 ≤ c ∧ c ≤ 122
theorem small_app {a b : List Nat} (h1 : small a) (h2 : small b) : small (a ++ b) := fun c hc => (List.mem_append.mp hc).elim (h1 c) (h2 c)
theorem small_take {a : List Nat} (h1 : small a) (n : Nat) : small (a.take n) := fun c hc => h1 c (List.mem_of_mem_take hc)
theorem small_drop {a : List Nat} (h1 : small a) (n : Nat) : small (a.drop n) := fun c hc => h1 c (List.mem_of_mem_drop hc)
def wordsL : List (List Nat) := [[102, 111, 114], [101, 110, 100], [115, 105, 122, 101]]
def ren (z : List Nat) : List Nat := if z ∈ wordsL then 122 :: 122 :: z else z
theorem in_words (z : Str) : decide (z ∈ [("for" : Str), ("end" : Str), ("size" : Str)]) = decide (cl z ∈ wordsL) := by
  rw [decide_eq_decide]
  unfold wordsL
  simp only [List.mem_cons, List.not_mem_nil, or_false]
  have e1 : cl ("for" : Str) = [102, 111, 114] := by decide +kernel
  have e2 : cl ("end" : Str) = [101, 110, 100] := by decide +kernel
  have e3 : cl ("size" : Str) = [115, 105, 122, 101] := by decide +kernel
  constructor
  · rintro (h | h | h) <;> subst h
    · exact .inl e1
    · exact .inr (.inl e2)
    · exact .inr (.inr e3)
  · rintro (h | h | h)
    · exact .inl (cl_inj (h.trans e1.symm))
    · exact .inr (.inl (cl_inj (h.trans e2.symm)))
    · exact .inr (.inr (cl_inj (h.trans e3.symm)))
def renS (z : List Nat) : List Nat := if z ∈ wordsL then z ++ [115] else z
def nm (W : List Nat) (at_ x : Nat) (mode : Bool) (e : Nat) : List Nat := renS (if mode = true then (W ++ [113, 114, 115, 116, 117, 118, 119, 120]).take (5 + e) else W.take at_ ++ (97 + (x + 5 * e) % 26) :: W.drop at_)
theorem word_loop (x : Int) (hx : 0 ≤ x) (hx2 : x < 2147483629) {n : Nat} (hn : n ≤ 8) : Ok (loopN (fun (b3 : Str) (x_k : Int) => (divG x (x_k + (9 : Int))).bind fun t7 => (sAt ("abcdefghijklmnopqrstuvwxyz" : Str) (t7 % (26 : Int))).bind fun t8 => (sAdd b3 t8).bind fun t9 => some t9) ("" : Str) (intsF 0 n)) fun r => (cl r).length = n ∧ small (cl r) := by
  refine Ok.loopN (fun (b : Str) (ys : List Int) => (cl b).length + ys.length = n ∧ (∀ y ∈ ys, 0 ≤ y ∧ y < 8) ∧ small (cl b)) ⟨?_, fun y hy => ?_, fun c hc => ?_⟩ ?_ fun b hb => ⟨by simpa using hb.1, hb.2.2⟩
  · rw [ints_len, show cl ("" : Str) = [] from by decide]; simp
  · have := intsF_mem hy; omega
  · rw [show cl ("" : Str) = [] from by decide] at hc; cases hc
  · intro b y ys ⟨a1, a2, a3⟩
    have hy := a2 y List.mem_cons_self
    rw [List.length_cons] at a1
    rw [divG_p ⟨by omega, by omega⟩]
    simp only [Option.bind_some]
    rw [az_mod]
    simp only [Option.bind_some]
    refine .bind (sAdd_cl (by show _ + 1 ≤ _; omega)) fun r hr => .ret ⟨?_, fun z hz => a2 z (List.mem_cons_of_mem _ hz), ?_⟩
    · rw [hr, List.length_append]
      show _ + 1 + _ = _
      omega
    · rw [hr]
      refine small_app a3 fun c hc => ?_
      have := List.mem_singleton.mp hc
      omega
theorem name_ok (c : Int) : ∃ W at_ x mode, W.length ≤ 7 ∧ at_ ≤ W.length ∧ small W ∧ ∀ e : Nat, e ≤ 2 → m_name c (e : Int) = some (S (nm W at_ x mode e)) := by
  obtain ⟨x, e1, h0, h1⟩ := mixed_ok c 11
  have g1 : 0 ≤ x % 8 ∧ x % 8 < 8 := ⟨Int.emod_nonneg _ (by decide), Int.emod_lt_of_pos _ (by decide)⟩
  obtain ⟨w, e2, hw, hsm⟩ := word_loop x h0 h1 (n := (x % 8).toNat) (by omega)
  have g2 : 0 ≤ x / 8 % ((cl w).length + 1) ∧ x / 8 % ((cl w).length + 1) < (cl w).length + 1 := ⟨Int.emod_nonneg _ (by omega), Int.emod_lt_of_pos _ (by omega)⟩
  refine ⟨cl w, (x / 8 % ((cl w).length + 1)).toNat, (x / 72).toNat, decide (x / 5003 % 4 = 1), by omega, by omega, hsm, fun e he => ?_⟩
  unfold m_name
  simp only [Option.bind_some, e1]
  rw [rngG_p (by omega)]
  simp only [Option.bind_some]
  rw [e2]
  simp only [Option.bind_some]
  rw [sLen_cl (by omega)]
  simp only [Option.bind_some]
  rw [modG_p (by omega)]
  simp only [Option.bind_some]
  generalize x / 8 % ((cl w).length + 1) = a at *
  rw [az_mod]
  obtain ⟨t1, k1, k2⟩ := sCut_cl (z := w) (by omega) none (some a)
  obtain ⟨t2, k3, k4⟩ := sCut_cl (z := w) (by omega) (some a) none
  rw [cut_to (by omega)] at k2
  rw [cut_from (by omega)] at k4
  have l1 : (cl t1).length ≤ 7 := by rw [k2, List.length_take]; omega
  have l2 : (cl t2).length ≤ 7 := by rw [k4, List.length_drop]; omega
  obtain ⟨u1, k5, k6⟩ := sAdd_cl (a := t1) (b := ⟨#[97 + ((x / 72 + 5 * (e : Int)) % 26).toNat]⟩) (by show _ + 1 ≤ _; omega)
  replace k6 : cl u1 = cl t1 ++ [97 + ((x / 72 + 5 * (e : Int)) % 26).toNat] := k6
  have l3 : (cl u1).length ≤ 8 := by rw [k6, List.length_append]; show _ + 1 ≤ _; omega
  obtain ⟨u2, k7, k8⟩ := sAdd_cl (a := u1) (b := t2) (by omega)
  have q8 : cl ("qrstuvwx" : Str) = [113, 114, 115, 116, 117, 118, 119, 120] := by decide +kernel
  obtain ⟨u3, k9, k10⟩ := sAdd_cl (a := w) (b := ("qrstuvwx" : Str)) (by rw [q8]; simp; omega)
  have l4 : (cl u3).length ≤ 15 := by rw [k10, List.length_append, q8]; simp; omega
  obtain ⟨u4, k11, k12⟩ := sCut_cl (z := u3) (by omega) none (some (5 + (e : Int)))
  rw [cut_to (by omega)] at k12
  simp only [k1, k3, k5, k7, k9, k11, Option.bind_some]
  have key : ∀ z : Str, (cl z).length ≤ 20 → cl z = (if decide (x / 5003 % 4 = 1) = true then (cl w ++ [113, 114, 115, 116, 117, 118, 119, 120]).take (5 + e) else (cl w).take a.toNat ++ (97 + ((x / 72).toNat + 5 * e) % 26) :: (cl w).drop a.toNat) →
      ((if decide (z ∈ [("for" : Str), ("end" : Str), ("size" : Str)]) = true then (sAdd z ("s" : Str)).bind fun t => some t else some z).bind fun b => some b) = some (S (nm (cl w) a.toNat (x / 72).toNat (decide (x / 5003 % 4 = 1)) e)) := by
    intro z hz e5
    rw [in_words]
    unfold nm
    rw [← e5]
    unfold renS
    by_cases hw' : cl z ∈ wordsL
    · rw [if_pos (decide_eq_true hw'), if_pos hw']
      have s1 : cl ("s" : Str) = [115] := by decide +kernel
      obtain ⟨v, v1, v2⟩ := sAdd_cl (a := z) (b := ("s" : Str)) (by rw [s1]; simp; omega)
      rw [v1]
      simp only [Option.bind_some]
      have : v = S (cl z ++ [115]) := cl_inj (by rw [v2, s1]; rfl)
      rw [this]
    · rw [if_neg (by rw [decide_eq_false hw']; exact Bool.false_ne_true), if_neg hw', S_cl]; rfl
  by_cases hm : x / 5003 % 4 = 1
  · rw [if_pos (decide_eq_true hm)]
    refine key u4 ?_ ?_
    · rw [k12, List.length_take]; omega
    · rw [if_pos (decide_eq_true hm), k12, k10, q8]
      congr 1
  · rw [if_neg (by rw [decide_eq_false hm]; exact Bool.false_ne_true)]
    refine key u2 ?_ ?_
    · rw [k8, List.length_append]; omega
    · rw [if_neg (by rw [decide_eq_false hm]; exact Bool.false_ne_true), k8, k6, k2, k4]
      have e2 : ((x / 72 + 5 * (e : Int)) % 26).toNat = ((x / 72).toNat + 5 * e) % 26 := by omega
      rw [e2]; simp
theorem nm_inj {W : List Nat} {at_ x : Nat} {mode : Bool} {i j : Nat} (hw : W.length ≤ 7) (h1 : at_ ≤ W.length) (hi : i ≤ 2) (hj : j ≤ 2) (e : nm W at_ x mode i = nm W at_ x mode j) : i = j := by
  unfold nm at e
  have h3 : ∀ a ∈ wordsL, a.length ≤ 4 := by decide
  cases mode with
  | true =>
    rw [if_pos rfl, if_pos rfl] at e
    have len : ∀ e : Nat, e ≤ 2 → ((W ++ [113, 114, 115, 116, 117, 118, 119, 120]).take (5 + e)).length = 5 + e := by
      intro e he
      rw [List.length_take, List.length_append]
      simp; omega
    have no : ∀ e : Nat, e ≤ 2 → renS ((W ++ [113, 114, 115, 116, 117, 118, 119, 120]).take (5 + e)) = (W ++ [113, 114, 115, 116, 117, 118, 119, 120]).take (5 + e) := by
      intro e he
      unfold renS
      rw [if_neg fun z => by have := h3 _ z; rw [len e he] at this; omega]
    rw [no i hi, no j hj] at e
    have := congrArg List.length e
    rw [len i hi, len j hj] at this
    omega
  | false =>
    rw [if_neg Bool.false_ne_true, if_neg Bool.false_ne_true] at e
    generalize ha : W.take at_ ++ (97 + (x + 5 * i) % 26) :: W.drop at_ = a at e
    generalize hb : W.take at_ ++ (97 + (x + 5 * j) % 26) :: W.drop at_ = b at e
    have la : a.length = W.length + 1 := by rw [← ha, List.length_append, List.length_take, List.length_cons, List.length_drop]; omega
    have lb : b.length = W.length + 1 := by rw [← hb, List.length_append, List.length_take, List.length_cons, List.length_drop]; omega
    have eab : a = b := by
      unfold renS at e
      split at e <;> split at e
      · exact List.append_cancel_right e
      · have := congrArg List.length e
        rw [List.length_append, la, lb] at this
        simp at this
      · have := congrArg List.length e
        rw [List.length_append, la, lb] at this
        simp at this
      · exact e
    have ht : (W.take at_).length = at_ := by rw [List.length_take]; omega
    have h5 := congrArg (fun l : List Nat => l[at_]?) eab
    rw [← ha, ← hb] at h5
    simp only [List.getElem?_append_right (Nat.le_of_eq ht), ht, Nat.sub_self, List.getElem?_cons_zero, Option.some.injEq] at h5
    omega
theorem renS_ne {z : List Nat} (h : z ≠ []) : renS z ≠ [] := by
  unfold renS; split
  · simp
  · exact h
theorem nm_ne {W : List Nat} {at_ x : Nat} {mode : Bool} {i : Nat} : nm W at_ x mode i ≠ [] := by
  unfold nm
  refine renS_ne ?_
  split
  · intro h
    have := congrArg List.length h
    rw [List.length_take, List.length_append] at this
    simp at this
  · simp
theorem nm_small {W : List Nat} {at_ x : Nat} {mode : Bool} {i : Nat} (h : small W) : small (nm W at_ x mode i) := by
  have h1 : small [113, 114, 115, 116, 117, 118, 119, 120] := by intro c hc; simp at hc; omega
  have h2 : ∀ z, small z → small (renS z) := fun z hz => by
    unfold renS; split
    · exact small_app hz fun c hc => by simp at hc; omega
    · exact hz
  unfold nm
  refine h2 _ ?_
  split
  · exact small_take (small_app h h1) _
  · refine small_app (small_take h _) fun c hc => ?_
    rcases List.mem_cons.mp hc with e | hc
    · omega
    · exact small_drop h _ c hc
structure NmF (F : Nat → Str) : Prop where
  inj : ∀ i j, i ≤ 2 → j ≤ 2 → F i = F j → i = j
  ne : ∀ i, F i ≠ ("" : Str)
  sok : ∀ i, sok (F i)
theorem name_fn (c : Int) : ∃ F, NmF F ∧ ∀ e : Nat, e ≤ 2 → m_name c (e : Int) = some (F e) := by
  obtain ⟨W, at_, x, mode, hw, ha, hs, hn⟩ := name_ok c
  refine ⟨fun e => S (nm W at_ x mode e), ⟨fun i j hi hj e => ?_, fun i e => ?_, fun i c hc => ?_⟩, hn⟩
  · have e2 := congrArg cl e
    rw [cl_S, cl_S] at e2
    exact nm_inj hw ha hi hj e2
  · have := congrArg cl e
    rw [cl_S] at this
    exact nm_ne (this.trans (by decide))
  · rw [cl_S] at hc
    have := nm_small hs c hc
    omega
abbrev LpT : Type := T5 Str (T2 Str Int) (T2 Str Int) Int Int
abbrev HdT : Type := T3 Str Int Int
abbrev SpT : Type := T2 Str Int
abbrev RdT : Type := T2 Str (Tp SpT)
abbrev RowK : Type := T7 (Tp Str) (Tp SpT) (Tp SpT) Str (Tp SpT) UShape (Tp Int)
def bsF (st : List LpT) : List SpT := ⟨"", 0⟩ :: st.map fun t => ⟨t.a, t.d⟩
theorem bsF_len (st : List LpT) : (bsF st).length = st.length + 1 := by unfold bsF; rw [List.length_cons, List.length_map]
theorem bases_eq {st : List LpT} (hl : st.length ≤ 3) : ((compG (fun (x_one : LpT) => some (some (T2.mk x_one.a x_one.d))) st).bind fun t2 => catG [(T2.mk ("" : Str) (0 : Int))] t2) = some (bsF st) := by
  refine Ok.eq (.bind (Ok.comp (P := fun l => l = st.map fun t => (⟨t.a, t.d⟩ : SpT)) (fun t => ⟨t.a, t.d⟩) (by omega) (fun _ _ => rfl) rfl) fun l hl' => ?_)
  have ll : l.length = st.length := by rw [hl', List.length_map]
  rw [catG_p (by rw [ll]; simp only [List.length_cons, List.length_nil]; omega)]
  exact .ret (by rw [hl']; rfl)
theorem obind2 {α β γ : Type} {a : Option α} {f : α → Option β} {g : β → Option γ} {P : β → Prop} {Q : γ → Prop} (h : Ok (a.bind f) P) (k : ∀ b, P b → Ok (g b) Q) : Ok (a.bind fun x => (f x).bind g) Q := by
  obtain ⟨b, e, hb⟩ := h
  obtain ⟨x, e1, e2⟩ := Option.bind_eq_some_iff.mp e
  exact .bindE e1 (.bindE e2 (k b hb))
theorem bases_ok2 {st : List LpT} (hl : st.length ≤ 3) : Ok ((compG (fun (x_one : LpT) => some (some (T2.mk x_one.a x_one.d))) st).bind fun t2 => catG [(T2.mk ("" : Str) (0 : Int))] t2) (· = bsF st) := ⟨_, bases_eq hl, rfl⟩
theorem base_at2 (st : List LpT) (n : Int) : Ok ((modG n ((bsF st).length : Int)).bind fun t4 => L2.atI (bsF st) t4) fun b => b ∈ bsF st := by
  have := bsF_len st
  rw [modG_p (by omega)]
  exact .bindE rfl ((atI_mem (Int.emod_nonneg _ (by omega)) (Int.emod_lt_of_pos _ (by omega))).mono fun b hb => hb.1)
structure LpX (M : Int) (F : Nat → Str) (pre : List LpT) (t : LpT) : Prop where
  nm : t.a = F (((pre.length : Int) + t.e) % 3).toNat
  e : 0 ≤ t.e ∧ t.e < 3
  e0 : ∀ t0, pre[0]? = some t0 → t.e = t0.e
  lo : ∃ b ∈ bsF pre, t.b.a = b.a ∧ t.d - b.b ≤ t.b.b ∧ t.b.b ≤ t.d - b.b + 1
  hi : ∃ b ∈ bsF pre, t.c.a = b.a ∧ t.d - b.b - 1 ≤ t.c.b ∧ t.c.b ≤ t.d - b.b + M
structure StX (M : Int) (F : Nat → Str) (st : List LpT) : Prop where
  l : st.length ≤ 3
  s : ∀ (j : Nat) (t : LpT), st[j]? = some t → LpX M F (st.take j) t
theorem loop_ok2 (num far : Int) {F : Nat → Str} {st : List LpT} (h : StX 3 F st) (c : Int) (hn : ∀ e : Nat, e ≤ 2 → m_name c (e : Int) = some (F e)) : Ok (m_loop num far st c) (LpX 3 F st) := by
  have hl := h.l
  unfold m_loop
  refine .bind (atI_mem (Int.emod_nonneg _ (by decide)) (Int.emod_lt_of_pos _ (by decide))) fun about _ => .bindE rfl ?_
  refine obind2 (bases_ok2 hl) fun bs hb => .bindE rfl ?_
  subst hb
  refine obind2 (base_at2 st _) fun lo hlo => .bindE rfl (obind2 (base_at2 st _) fun hi hhi => .bindE rfl ?_)
  have e2 := Int.emod_nonneg (num / 500) (show (2 : Int) ≠ 0 by decide)
  have e3 := Int.emod_lt_of_pos (num / 500) (show (0 : Int) < 2 by decide)
  refine .bind (P := fun v : Int => -1 ≤ v ∧ v ≤ 3) ((atI_mem (xs := [(2 : Int), 1, 3, 0, 1, 2, -1, 1]) (Int.emod_nonneg _ (by decide)) (Int.emod_lt_of_pos _ (by decide))).mono fun v hv => ?_) fun more hm => .bindE rfl (.bindE rfl (.bindE rfl ?_))
  · have := hv.1
    simp only [List.mem_cons, List.not_mem_nil, or_false] at this
    omega
  refine .bind (P := fun v : Int => (0 ≤ v ∧ v < 3) ∧ ∀ t0, st[0]? = some t0 → v = t0.e) (Ok.ite (fun hne => ?_) fun hne => .ret ⟨⟨Int.emod_nonneg _ (by decide), Int.emod_lt_of_pos _ (by decide)⟩, fun t0 ht => ?_⟩) fun v ⟨hv, hv0⟩ => ?_
  · have hne : st ≠ [] := fun z => by rw [z] at hne; cases hne
    have hp : 0 < st.length := List.length_pos_iff.mpr hne
    have hx := List.getElem?_eq_getElem hp
    refine .bindE (x := st[0]) (by rw [atI_nn (by decide)]; exact hx) (.bindE rfl (.ret ⟨(h.s 0 _ hx).e, fun t0 ht => by rw [hx] at ht; cases ht; rfl⟩))
  · cases st with
    | nil => simp at ht
    | cons a r => exact absurd rfl hne
  · have e0 := Int.emod_nonneg ((st.length : Int) + v) (show (3 : Int) ≠ 0 by decide)
    have e1 := Int.emod_lt_of_pos ((st.length : Int) + v) (show (0 : Int) < 3 by decide)
    obtain ⟨k, hk⟩ : ∃ k : Nat, ((st.length : Int) + v) % 3 = (k : Int) := ⟨(((st.length : Int) + v) % 3).toNat, by omega⟩
    rw [hk]
    refine .bindE (hn k (by omega)) (.bindE rfl (.ret ⟨?_, hv, hv0, ⟨lo, hlo, rfl, ?_⟩, ⟨hi, hhi, rfl, ?_⟩⟩))
    · show F k = F (((st.length : Int) + v) % 3).toNat
      rw [hk, Int.toNat_natCast]
    · show about - lo.b ≤ about - lo.b + num / 500 % 2 ∧ about - lo.b + num / 500 % 2 ≤ about - lo.b + 1
      omega
    · show about - hi.b - 1 ≤ about - hi.b + more ∧ about - hi.b + more ≤ about - hi.b + 3
      omega
theorem spots_ok2 (num off : Int) (st : List LpT) {many : Int} (h0 : 0 ≤ many) (h3 : many ≤ 3) : Ok (m_spots num (bsF st) many off) fun z => z.l.length = many.toNat ∧ ∀ s ∈ z.l, ∃ b ∈ bsF st, s.a = b.a := by
  unfold m_spots
  obtain ⟨m, rfl⟩ : ∃ m : Nat, many = (m : Int) := ⟨many.toNat, by omega⟩
  refine .bindE rfl (.bindE (rngG_n (by omega)) (.bind (P := fun b : List SpT => b.length = m ∧ ∀ s ∈ b, ∃ q ∈ bsF st, s.a = q.a) (Ok.range (J := fun k b => b.length = k ∧ ∀ s ∈ b, ∃ q ∈ bsF st, s.a = q.a) ⟨rfl, fun _ h => nomatch h⟩ (fun k b hk ⟨j1, j2⟩ => ?_) fun b hb => hb) fun b hb => .ret ⟨by rw [Int.toNat_natCast]; exact hb.1, hb.2⟩))
  refine .bind (P := fun v : Int => 0 < v ∧ v < 1000) ((atI_mem (xs := [(1 : Int), 12, 144]) (i := (k : Int)) (by omega) (by show (k : Int) < 3; omega)).mono fun v hv => ?_) fun v hv => ?_
  · have := hv.1
    simp only [List.mem_cons, List.not_mem_nil, or_false] at this
    omega
  rw [divG_p ⟨hv.1, by omega⟩]
  refine .bindE rfl (.bindE rfl (obind2 (base_at2 st _) fun b' hb' => .bindE rfl (.bindE (app_p (by omega)) (.ret ⟨by rw [List.length_append, j1]; rfl, fun s hs => ?_⟩))))
  rcases List.mem_append.mp hs with e | e
  · exact j2 s e
  · rw [List.mem_singleton.mp e]; exact ⟨b', hb', rfl⟩
structure HeadX (hs : List HdT) : Prop where
  l : hs.length = 3
  s : ∀ h ∈ hs, 1 ≤ h.b ∧ h.b ≤ 3
  u : ∀ h ∈ hs, ∀ h' ∈ hs, h.a = h'.a → h = h'
def CelX (hs : List HdT) (st : List LpT) (r : RdT) : Prop := ∃ h ∈ hs, r.a = h.a ∧ r.b.l.length = h.b.toNat ∧ ∀ s ∈ r.b.l, ∃ b ∈ bsF st, s.a = b.a
theorem cell_of_ok2 (num : Int) (st : List LpT) {hs : List HdT} (hh : HeadX hs) : Ok (m_cell_of num (bsF st) hs) (CelX hs st) := by
  unfold m_cell_of
  have hl := hh.l
  refine .bind (P := fun v : Int => 0 ≤ v ∧ v < 3) ((atI_mem (xs := [(0 : Int), 0, 0, 1, 1, 2]) (Int.emod_nonneg _ (by decide)) (Int.emod_lt_of_pos _ (by decide))).mono fun v hv => ?_) fun v hv => ?_
  · have := hv.1
    simp only [List.mem_cons, List.not_mem_nil, or_false] at this
    omega
  · refine .bind (atI_mem (xs := hs) hv.1 (by omega)) fun hd hhd => .bindE rfl ?_
    obtain ⟨b, c⟩ := hh.s hd hhd.1
    exact .bind (spots_ok2 _ _ st (by omega) c) fun z hz => .ret ⟨hd, hhd.1, rfl, hz.1, hz.2⟩
theorem heads_ok2 (ns : List Int) : Ok (m_heads ns) HeadX := by
  unfold m_heads
  refine .bind (cell_ok ns (by decide) (by decide)) fun c _ => .bindE rfl (.bind (mixed_ok _ _) fun v hv => .bindE rfl ?_)
  refine .bind (atI_mem (Int.emod_nonneg _ (by decide)) (Int.emod_lt_of_pos _ (by decide))) fun off _ => .bindE rfl (.bindE rfl ?_)
  obtain ⟨F, hF, hn⟩ := name_fn (v / 3)
  refine .bind (Ok.range (n := 3) (J := fun k (b : List HdT) => b.length = k ∧ (∀ h ∈ b, 1 ≤ h.b ∧ h.b ≤ 3) ∧ ∀ (i : Nat) (h : HdT), b[i]? = some h → h.a = F i) ⟨rfl, (fun _ h => nomatch h), fun i h hh => by simp at hh⟩ (fun k b hk ⟨j1, j2, j3⟩ => ?_) fun b hb => hb) fun b hb => .ret ⟨hb.1, hb.2.1, fun h hm h' hm' e => ?_⟩
  · refine .bindE (hn k (by omega)) (.bind (P := fun v : Int => 1 ≤ v ∧ v ≤ 3) ((atI_mem (xs := [(1 : Int), 2, 1, 3, 1, 2]) (Int.emod_nonneg _ (by decide)) (Int.emod_lt_of_pos _ (by decide))).mono fun v hv => ?_) fun w hw => ?_)
    · have := hv.1
      simp only [List.mem_cons, List.not_mem_nil, or_false] at this
      omega
    · refine .bindE (app_p (by omega)) (.ret ⟨by rw [List.length_append, j1]; rfl, fun h hm => ?_, fun i h hh => ?_⟩)
      · rcases List.mem_append.mp hm with e | e
        · exact j2 h e
        · rw [List.mem_singleton.mp e]; exact hw
      · by_cases hi : i < b.length
        · rw [List.getElem?_append_left hi] at hh; exact j3 i h hh
        · have hl := (List.getElem?_eq_some_iff.mp hh).1
          rw [List.length_append, List.length_singleton] at hl
          have : i = b.length := by omega
          subst this
          rw [List.getElem?_append_right (Nat.le_refl _), Nat.sub_self] at hh
          rw [← Option.some.inj hh, j1]
  · obtain ⟨i, hi⟩ := List.mem_iff_getElem?.mp hm
    obtain ⟨j, hj⟩ := List.mem_iff_getElem?.mp hm'
    have li := (List.getElem?_eq_some_iff.mp hi).1
    have lj := (List.getElem?_eq_some_iff.mp hj).1
    have h3 := hb.1
    have := hF.inj i j (by omega) (by omega) (by rw [← hb.2.2 i h hi, ← hb.2.2 j h' hj]; exact e)
    subst this
    rw [hi] at hj; exact Option.some.inj hj
structure RdX (w : Nat) (z : UShape) : Prop where
  w1 : 1 ≤ w
  t : ∃ t : UTerm, ∀ n, w ≤ n → m_object n z = some t
theorem leaf_ok {num : Int} (n0 : 0 ≤ num) (n1 : num < 2147483648) (st : List LpT) {hs : List HdT} (hh : HeadX hs) : Ok (m_leaf num (bsF st) hs) (RdX 1) := by
  unfold m_leaf
  refine Ok.ite (fun _ => ?_) fun _ => Ok.ite (fun hc => ?_) fun _ => ?_
  · refine .bind (cell_of_ok2 _ st hh) fun z hz => .bindE rfl (.ret ⟨Nat.le_refl _, .c_Cell z.a z.b, fun n hn => ?_⟩)
    obtain ⟨n, rfl⟩ : ∃ m, n = m + 1 := ⟨n - 1, by omega⟩
    rfl
  · have hc : (1 : Int) < ((bsF st).length : Int) := of_decide_eq_true (Bool.and_eq_true_iff.mp hc).2
    rw [modG_p (by omega)]
    have e0 := Int.emod_nonneg (num / 4) (show (((bsF st).length : Int) - 1) ≠ 0 by omega)
    have e1 := Int.emod_lt_of_pos (num / 4) (show 0 < ((bsF st).length : Int) - 1 by omega)
    refine .bindE rfl (.bind (atI_mem (xs := bsF st) (by omega) (by omega)) fun b hb' => .ret ⟨Nat.le_refl _, .c_Value b.a, fun n hn => ?_⟩)
    obtain ⟨n, rfl⟩ : ∃ m, n = m + 1 := ⟨n - 1, by omega⟩
    rfl
  · rw [mulG_l (by omega)]
    refine .bindE rfl (.bind (atI_mem (Int.emod_nonneg _ (by decide)) (Int.emod_lt_of_pos _ (by decide))) fun v _ => .ret ⟨Nat.le_refl _, .c_Number v, fun n hn => ?_⟩)
    obtain ⟨n, rfl⟩ : ∃ m, n = m + 1 := ⟨n - 1, by omega⟩
    rfl
def Sgn (s : Str) : Prop := s = ("+" : Str) ∨ s = ("-" : Str) ∨ s = ("*" : Str)
theorem sgn_at (i : Int) : Ok (L2.atI [("+" : Str), ("-" : Str), ("*" : Str)] (i % 3)) Sgn := (atI_mem (Int.emod_nonneg _ (by decide)) (Int.emod_lt_of_pos _ (by decide))).mono fun v hv => by
  have := hv.1
  simp only [List.mem_cons, List.not_mem_nil, or_false] at this
  exact this
theorem both_ok {s : Str} (hs : Sgn s) {x y : UShape} {u v : Nat} (hx : RdX u x) (hy : RdX v y) (h4 : u + v ≤ 1000) : RdX (u + v) (.v_any s x y) := by
  obtain ⟨u1, tx, ex⟩ := hx
  obtain ⟨v1, ty, ey⟩ := hy
  have tags : (s ≠ ("n" : Str) ∧ s ≠ ("v" : Str)) ∧ s ≠ ("c" : Str) := by
    rcases hs with e | e | e <;> subst e <;> decide
  refine ⟨by omega, .c_Joined s tx ty, fun n hn => ?_⟩
  obtain ⟨n, rfl⟩ : ∃ m, n = m + 1 := ⟨n - 1, by omega⟩
  have a1 := ex n (by omega)
  have b1 := ey n (by omega)
  have tg : (UShape.v_any s x y).tag = s := rfl
  unfold m_object
  rw [tg, if_neg (fun z => tags.1.1 (of_decide_eq_true z)), if_neg (fun z => tags.1.2 (of_decide_eq_true z)), if_neg (fun z => tags.2 (of_decide_eq_true z))]
  show ((m_object n x).bind fun t6 => _) = _
  rw [a1]
  show ((m_object n y).bind fun t6 => _) = _
  rw [b1]; rfl
theorem termK_ok (c : Int) (st : List LpT) {hs : List HdT} (hh : HeadX hs) : Ok (m_term c (bsF st) hs) fun z => ∃ w, w ≤ 3 ∧ RdX w z := by
  unfold m_term
  refine .bind (mixed_ok _ _) fun v hv => .bind (leaf_ok hv.1 (by omega) st hh) fun z hz => .bindE rfl (.bind (mixed_ok _ _) fun w hw => ?_)
  have e0 := Int.emod_nonneg w (show (3 : Int) ≠ 0 by decide)
  have e1 := Int.emod_lt_of_pos w (show (0 : Int) < 3 by decide)
  obtain ⟨m, hm⟩ : ∃ m : Nat, w % 3 = (m : Int) := ⟨(w % 3).toNat, by omega⟩
  rw [hm]
  refine .bindE (rngG_n (by omega)) (.bind (Ok.range (J := fun k z => ∃ w, w ≤ k + 1 ∧ RdX w z) (Q := fun z => ∃ w, w ≤ 3 ∧ RdX w z) ⟨1, Nat.le_refl _, hz⟩ (fun k b hk ⟨u, hu, hb'⟩ => ?_) fun b ⟨u, hu, hb'⟩ => ⟨u, by omega, hb'⟩) fun b hb => .ret hb)
  refine .bind (mixed_ok _ _) fun a ha => ?_
  rw [divG_p ⟨by omega, by omega⟩]
  refine .bindE rfl (.bind (sgn_at _) fun s hs => .bindE rfl (.bind (mixed_ok _ _) fun y hy => .bind (leaf_ok hy.1 (by omega) st hh) fun z hz => .bindE rfl (.bind (mixed_ok _ _) fun a2 _ => ?_)))
  rw [divG_p ⟨by omega, by omega⟩]
  exact .bindE rfl (Ok.ite (fun _ => .bindE rfl (.ret ⟨1 + u, by omega, both_ok hs hz hb' (by omega)⟩)) fun _ => .bindE rfl (.ret ⟨u + 1, by omega, both_ok hs hb' hz (by omega)⟩))
structure RwX (M : Int) (F : Nat → Str) (st : List LpT) (p : List Int) (r : RowK) : Prop where
  sx : StX M F st
  a : r.a.l = st.map (·.a)
  b : r.b.l = st.map (·.b)
  c : r.c.l = st.map (·.c)
  g : r.g.l = p
  gl : p.length = st.length + 1
  t : ∃ w, w ≤ 3 ∧ RdX w r.f
theorem rowK_ok (c : Int) {F : Nat → Str} {st : List LpT} (h : StX 3 F st) {p : List Int} (hp : p.length = st.length + 1) {hs : List HdT} (hh : HeadX hs) : Ok (m_row c st p hs) (RwX 3 F st p) := by
  have hl := h.l
  unfold m_row
  refine obind2 (bases_ok2 hl) fun bs hb => .bindE rfl ?_
  subst hb
  refine .bind (Ok.comp (P := fun l => l = st.map fun t : LpT => t.a) (fun t => t.a) (by omega) (fun _ _ => rfl) rfl) fun l1 h1 => .bindE rfl (.bind (Ok.comp (P := fun l => l = st.map fun t : LpT => t.b) (fun t => t.b) (by omega) (fun _ _ => rfl) rfl) fun l2 h2 => .bindE rfl (.bind (Ok.comp (P := fun l => l = st.map fun t : LpT => t.c) (fun t => t.c) (by omega) (fun _ _ => rfl) rfl) fun l3 h3 => .bindE rfl ?_))
  exact .bind (mixed_ok _ _) fun v _ => .bind (cell_of_ok2 _ st hh) fun z hz => .bindE rfl (.bind (termK_ok _ st hh) fun t ht => .ret ⟨h, h1, h2, h3, rfl, hp, ht⟩)
theorem StX.take {M : Int} {F : Nat → Str} {st : List LpT} (h : StX M F st) (n : Nat) : StX M F (st.take n) := ⟨by have := h.l; rw [List.length_take]; omega, fun j t ht => by
  rw [List.getElem?_take] at ht
  split at ht
  · rw [List.take_take, Nat.min_eq_left (by omega)]; exact h.s j t ht
  · cases ht⟩
theorem StX.snoc {M : Int} {F : Nat → Str} {st : List LpT} (h : StX M F st) (l3 : st.length < 3) {t : LpT} (ht : LpX M F st t) : StX M F (st ++ [t]) := ⟨by rw [List.length_append, List.length_singleton]; omega, fun j x hx => by
  by_cases hj : j < st.length
  · rw [List.getElem?_append_left hj] at hx
    rw [List.take_append_of_le_length (by omega)]; exact h.s j x hx
  · have hl := (List.getElem?_eq_some_iff.mp hx).1
    rw [List.length_append, List.length_singleton] at hl
    have : j = st.length := by omega
    subst this
    rw [List.getElem?_append_right (Nat.le_refl _), Nat.sub_self] at hx
    have : t = x := by simpa using hx
    subst this
    rw [List.take_left]; exact ht⟩
theorem last_ok2 {α : Type} {l : List α} (h : 0 < l.length) : Ok (L2.atI l (-1)) fun v => l[l.length - 1]? = some v := by
  have hne : l ≠ [] := List.length_pos_iff.mp h
  rw [atI_last hne]
  exact .ret (by rw [← List.getLast?_eq_getElem?]; exact List.getLast?_eq_some_getLast hne)
theorem init_len {α : Type} (l : List α) : (cut l none (some (-1 : Int))).length = l.length - 1 := by rw [cut_init, List.length_take]; omega
def RelB (st : List LpT) (cur : List Int) (s0 : List LpT) (p0 : List Int) : Prop := ∃ (e : Nat) (a b : Int), e ≤ st.length ∧ e ≤ s0.length ∧ s0.take e = st.take e ∧ p0.take e = cur.take e ∧ p0[e]? = some a ∧ cur[e]? = some b ∧ a < b
theorem RelB.open_ {st : List LpT} {path : List Int} {z : Int} {s0 : List LpT} {p0 : List Int} (hp : path.length = st.length) (h : RelB st (path ++ [z]) s0 p0) (t : LpT) (y : Int) : RelB (st ++ [t]) (path ++ [z] ++ [y]) s0 p0 := by
  obtain ⟨e, a, b, h1, h2, h3, h4, h5, h6, h7⟩ := h
  have le : e < (path ++ [z]).length := (List.getElem?_eq_some_iff.mp h6).1
  refine ⟨e, a, b, by rw [List.length_append]; omega, h2, ?_, ?_, h5, ?_, h7⟩
  · rw [h3, List.take_append_of_le_length h1]
  · rw [h4, List.take_append_of_le_length (Nat.le_of_lt le)]
  · rw [List.getElem?_append_left le]; exact h6
theorem RelB.next {st : List LpT} {path : List Int} {z : Int} {s0 : List LpT} {p0 : List Int} (hp : path.length = st.length) (h : RelB st (path ++ [z]) s0 p0) : RelB st (path ++ [z + 1]) s0 p0 := by
  obtain ⟨e, a, b, h1, h2, h3, h4, h5, h6, h7⟩ := h
  have tk : (path ++ [z]).take e = (path ++ [z + 1]).take e := by rw [List.take_append_of_le_length (by omega), List.take_append_of_le_length (by omega)]
  by_cases he : e < path.length
  · rw [List.getElem?_append_left he] at h6
    exact ⟨e, a, b, h1, h2, h3, h4.trans tk, h5, by rw [List.getElem?_append_left he]; exact h6, h7⟩
  · have : e = path.length := by omega
    subst this
    have hb : z = b := by simpa using h6
    exact ⟨path.length, a, z + 1, h1, h2, h3, h4.trans tk, h5, by simp, by omega⟩
theorem RelB.here {st : List LpT} {path : List Int} {z : Int} (hp : path.length = st.length) : RelB st (path ++ [z + 1]) st (path ++ [z]) :=
  ⟨path.length, z, z + 1, by omega, by omega, rfl, by rw [List.take_append_of_le_length (Nat.le_refl _), List.take_append_of_le_length (Nat.le_refl _)], by simp, by simp, by omega⟩
theorem RelB.close {st : List LpT} {path : List Int} {a z : Int} {s0 : List LpT} {p0 : List Int} (hp : path.length + 1 = st.length) (h : RelB st (path ++ [a] ++ [z]) s0 p0) : RelB (st.take path.length) (path ++ [a + 1]) s0 p0 := by
  obtain ⟨e, x, y, h1, h2, h3, h4, h5, h6, h7⟩ := h
  have ll : (path ++ [a]).length = path.length + 1 := by simp
  have tk : ∀ n, n ≤ path.length → (path ++ [a] ++ [z]).take n = (path ++ [a + 1]).take n := fun n hn => by
    rw [List.append_assoc, List.take_append_of_le_length (by omega), List.take_append_of_le_length (by omega)]
  by_cases he : e < path.length
  · refine ⟨e, x, y, by rw [List.length_take]; omega, h2, by rw [h3, List.take_take]; congr 1; omega, h4.trans (tk e (by omega)), h5, ?_, h7⟩
    rw [List.append_assoc, List.getElem?_append_left he] at h6
    rw [List.getElem?_append_left he]; exact h6
  · by_cases he2 : e = path.length
    · subst he2
      have hy : a = y := by simpa using h6
      exact ⟨path.length, x, a + 1, by rw [List.length_take]; omega, h2, by rw [h3, List.take_take]; congr 1; omega, h4.trans (tk _ (Nat.le_refl _)), h5, by simp, by omega⟩
    · have hl := (List.getElem?_eq_some_iff.mp h6).1
      rw [List.length_append, ll, List.length_singleton] at hl
      have : e = path.length + 1 := by omega
      subst this
      have hx : p0[path.length]? = some a := by
        have z1 : (p0.take (path.length + 1))[path.length]? = p0[path.length]? := by rw [List.getElem?_take, if_pos (by omega)]
        rw [← z1, h4, List.getElem?_take, if_pos (by omega)]
        simp
      refine ⟨path.length, a, a + 1, by rw [List.length_take]; omega, by omega, ?_, ?_, hx, by simp, by omega⟩
      · have := congrArg (List.take path.length) h3
        rw [List.take_take, List.take_take, Nat.min_eq_left (by omega)] at this
        rw [this, List.take_take]; congr 1; omega
      · have := congrArg (List.take path.length) h4
        rw [List.take_take, List.take_take, Nat.min_eq_left (by omega)] at this
        rw [this]; exact tk _ (Nat.le_refl _)
abbrev SpD : Type := List LpT × List Int
structure StJ (F : Nat → Str) (n : Nat) (st : List LpT) (counts path : List Int) (D : List SpD) : Prop where
  w : StX 3 F st
  l : st.length = n
  p : path.length = n
  c : ∃ z, counts = path.map (· + 1) ++ [z] ∧ ∀ q ∈ D, RelB st (path ++ [z]) q.1 q.2
theorem atI_end (l : List Int) (z : Int) : L2.atI (l ++ [z]) (-1) = some z := by rw [atI_last (by simp), List.getLast_concat]
theorem cut_end {α : Type} (l : List α) (z : α) : cut (l ++ [z]) none (some (-1 : Int)) = l := by rw [cut_init, List.length_append, List.length_singleton, Nat.add_sub_cancel, List.take_left]
theorem rows_ok31 (ns : List Int) {n : Nat} (h6 : n ≤ 6) {hs : List HdT} (eh : m_heads ns = some hs) (hh : HeadX hs) {c1 : Int} (ec : m_cell ns 1 = some c1) {F : Nat → Str} (hn : ∀ e : Nat, e ≤ 2 → m_name c1 (e : Int) = some (F e)) : Ok (m_rows ns (n : Int)) fun rows => ∃ D : List SpD, rows.length = n ∧ Paired (fun (q : SpD) r => RwX 3 F q.1 q.2 r) D rows ∧ D.Pairwise fun a b => RelB b.1 b.2 a.1 a.2 := by
  unfold m_rows
  refine .bind (cell_ok ns (by decide) (by decide)) fun v _ => .bindE rfl (.bindE rfl (.bindE rfl (.bindE rfl (.bindE rfl (.bindE (rngG_n (by omega)) ?_)))))
  refine .bind (Ok.range (J := fun k (b : List LpT × List Int × List Int × List RowK) => ∃ D : List SpD, (∃ m, m ≤ 3 ∧ StJ F m b.1 b.2.1 b.2.2.1 D) ∧ b.2.2.2.length = k ∧ Paired (fun (q : SpD) r => RwX 3 F q.1 q.2 r) D b.2.2.2 ∧ D.Pairwise fun a b => RelB b.1 b.2 a.1 a.2) (Q := fun (b : List LpT × List Int × List Int × List RowK) => ∃ D : List SpD, b.2.2.2.length = n ∧ Paired (fun (q : SpD) r => RwX 3 F q.1 q.2 r) D b.2.2.2 ∧ D.Pairwise fun a b => RelB b.1 b.2 a.1 a.2) ⟨[], ⟨0, by decide, ⟨⟨by decide, fun j t h => by simp at h⟩, rfl, rfl, 0, rfl, fun _ h => nomatch h⟩⟩, rfl, .nil, .nil⟩ (fun k b hk ⟨D, ⟨m, m3, S⟩, bl, br, bp⟩ => ?_) fun b ⟨D, _, h⟩ => ⟨D, h⟩) fun b hb => .ret hb
  refine .bind (cell_ok ns (by omega) (by omega)) fun c _ => .bindE rfl (.bind (mixed_ok _ _) fun num hnum => .bindE rfl (.bindE rfl ?_))
  have Sl := S.l
  rw [modG_p (by omega)]
  have e0 := Int.emod_nonneg num (show (b.1.length : Int) + 1 ≠ 0 by omega)
  have e1 := Int.emod_lt_of_pos num (show 0 < (b.1.length : Int) + 1 by omega)
  obtain ⟨q, hq⟩ : ∃ q : Nat, num % ((b.1.length : Int) + 1) = (q : Int) := ⟨(num % ((b.1.length : Int) + 1)).toNat, by omega⟩
  refine .bindE rfl ?_
  rw [hq]
  refine .bindE (rngG_n (by omega)) (.bind (Ok.range (J := fun k (z : Option LpT × List LpT × List Int × List Int) => StJ F (m - k) z.2.1 z.2.2.1 z.2.2.2 D ∧ ∀ t, z.1 = some t → LpX 3 F z.2.1 t) (Q := fun (z : Option LpT × List LpT × List Int × List Int) => (∃ m, m ≤ 3 ∧ StJ F m z.2.1 z.2.2.1 z.2.2.2 D) ∧ ∀ t, z.1 = some t → LpX 3 F z.2.1 t) ⟨S, fun t h => (nomatch h)⟩ (fun i z hi ⟨Z, hz⟩ => ?_) fun z ⟨Z, hz⟩ => ⟨⟨m - q, by omega, Z⟩, hz⟩) fun z ⟨⟨m1, m13, Z⟩, hz⟩ => ?_)
  · have zl := Z.l
    have zp := Z.p
    obtain ⟨y, zc, zr⟩ := Z.c
    have pne : z.2.2.2 ≠ [] := fun e => by rw [e] at zp; simp at zp; omega
    obtain ⟨p', a, ep⟩ : ∃ p' a, z.2.2.2 = p' ++ [a] := ⟨_, _, (List.dropLast_concat_getLast pne).symm⟩
    have pl : p'.length + 1 = z.2.1.length := by
      have := congrArg List.length ep
      rw [List.length_append, List.length_singleton] at this
      omega
    refine .bind (last_ok2 (l := z.2.1) (by omega)) fun t ht => .bindE rfl (.bindE rfl (.bindE rfl (.bindE rfl (.ret ⟨⟨by rw [cut_init]; exact Z.w.take _, ?_, ?_, ?_⟩, fun u hu => ?_⟩))))
    · show (cut z.2.1 none (some (-1 : Int))).length = _
      rw [init_len]; omega
    · show (cut z.2.2.2 none (some (-1 : Int))).length = _
      rw [init_len]; omega
    · show ∃ z', cut z.2.2.1 none (some (-1 : Int)) = (cut z.2.2.2 none (some (-1 : Int))).map (· + 1) ++ [z'] ∧ ∀ q ∈ D, RelB (cut z.2.1 none (some (-1 : Int))) (cut z.2.2.2 none (some (-1 : Int)) ++ [z']) q.1 q.2
      refine ⟨a + 1, ?_, fun q hq => ?_⟩
      · rw [zc, cut_end, ep, cut_end, List.map_append]; rfl
      · have h1 := zr q hq
        rw [ep] at h1
        have := h1.close pl
        rw [ep, cut_end, cut_init, show z.2.1.length - 1 = p'.length by omega]
        exact this
    · have hu : some t = some u := hu
      cases hu
      show LpX 3 F (cut z.2.1 none (some (-1 : Int))) t
      rw [cut_init]
      exact Z.w.s _ t ht
  have zl := Z.l
  refine .bind (P := fun v : Int => 0 ≤ v ∧ v ≤ 3) ((atI_mem (xs := [(1 : Int), 2, 2, 3, 1, 2, 0, 1]) (Int.emod_nonneg _ (by decide)) (Int.emod_lt_of_pos _ (by decide))).mono fun v hv => ?_) fun op hop => .bindE rfl ?_
  · have := hv.1
    simp only [List.mem_cons, List.not_mem_nil, or_false] at this
    omega
  refine .bind (P := fun v : Int => 0 ≤ v ∧ v ≤ 3) (Ok.ite (fun _ => .bind (P := fun v : Int => 0 ≤ v ∧ v ≤ 3) ((atI_mem (xs := [(0 : Int), 1, 0, 1, 2, 0, 1, 0]) (Int.emod_nonneg _ (by decide)) (Int.emod_lt_of_pos _ (by decide))).mono fun v hv => ?_) fun v hv => .bindE rfl (.ret hv)) fun _ => .ret hop) fun op2 hop2 => ?_
  · have := hv.1
    simp only [List.mem_cons, List.not_mem_nil, or_false] at this
    omega
  obtain ⟨r, hr⟩ : ∃ r : Nat, (if ((3 : Int) - (z.2.1.length : Int)) < op2 then ((3 : Int) - (z.2.1.length : Int)) else op2) = (r : Int) := by
    refine ⟨(if ((3 : Int) - (z.2.1.length : Int)) < op2 then ((3 : Int) - (z.2.1.length : Int)) else op2).toNat, ?_⟩
    split <;> omega
  have r3 : r + m1 ≤ 3 := by
    split at hr <;> omega
  rw [hr]
  refine .bindE (rngG_n (by omega)) (.bind (Ok.range (J := fun k (y : List LpT × List Int × List Int) => StJ F (m1 + k) y.1 y.2.2 y.2.1 D ∧ (k = 0 → y.1 = z.2.1)) (Q := fun (y : List LpT × List Int × List Int) => ∃ m, m ≤ 3 ∧ StJ F m y.1 y.2.2 y.2.1 D) ⟨Z, fun _ => rfl⟩ (fun e y he ⟨Y, y0⟩ => ?_) fun y ⟨Y, _⟩ => ⟨m1 + r, by omega, Y⟩) fun y ⟨m2, m23, Y⟩ => ?_)
  · have yl := Y.l
    have yp := Y.p
    obtain ⟨v, yc, yr⟩ := Y.c
    refine .bind (mixed_ok _ _) fun u hu => .bindE ec (.bind (loop_ok2 u _ Y.w c1 hn) fun t ht => .bindE rfl ?_)
    refine .bind (P := fun b : Bool => b = true → e = 0 ∧ ∃ x, z.1 = some x) (Ok.ite (fun he0 => .bind (P := fun b : Bool => b = true → e = 0 ∧ ∃ x, z.1 = some x) ?_ fun b hb => .ret hb) fun _ => .ret fun h => nomatch h) fun b' hb' => ?_
    · cases hz1 : z.1 with
      | none => exact .ret fun h => nomatch h
      | some x => exact .ret fun _ => ⟨by have := of_decide_eq_true he0; omega, x, rfl⟩
    refine .bind (P := LpX 3 F y.1) (Ok.ite (fun h => ?_) fun _ => .ret ht) fun t2 ht2 => ?_
    · obtain ⟨h0, x, hx⟩ := hb' h
      rw [y0 h0]
      exact .bindE hx (.bindE rfl (.ret (hz x hx)))
    rw [catG_p (by show y.1.length + 1 ≤ _; omega)]
    refine .bindE rfl (.bindE rfl ?_)
    rw [yc]
    refine .bindE (atI_end _ _) ?_
    rw [catG_p (by show y.2.1.length + 1 ≤ _; omega)]
    refine .bindE rfl (.bindE rfl (.bindE (atI_end _ _) ?_))
    rw [cut_end, catG_p (by show (y.2.1.map _).length + 2 ≤ _; rw [List.length_map]; omega)]
    refine .bindE rfl (.bindE rfl (.ret ⟨⟨Y.w.snoc (by omega) ht2, by show (y.1 ++ [t2]).length = _; rw [List.length_append, List.length_singleton]; omega, by show (y.2.1 ++ [v]).length = _; rw [List.length_append, List.length_singleton]; omega, 0, ?_, fun q hq => (yr q hq).open_ (by omega) t2 0⟩, fun h => by omega⟩))
    show y.2.1.map (· + 1) ++ [v + 1, 0] = (y.2.1 ++ [v]).map (· + 1) ++ [0]
    rw [List.map_append, List.append_assoc]; rfl
  · have yl := Y.l
    have yp := Y.p
    have hpy : y.2.1.length = y.1.length := by omega
    obtain ⟨v, yc, yr⟩ := Y.c
    rw [yc]
    refine .bindE (atI_end _ _) ?_
    rw [catG_p (by show y.2.1.length + 1 ≤ _; omega)]
    refine .bindE rfl (.bindE eh (.bind (rowK_ok c Y.w (by rw [List.length_append, List.length_singleton]; omega) hh) fun row hrow => .bindE (app_p (by omega)) (.bindE (atI_end _ _) ?_)))
    rw [cut_end, catG_p (by show (y.2.1.map _).length + 1 ≤ _; rw [List.length_map]; omega)]
    refine .bindE rfl (.bindE rfl (.ret ⟨D ++ [(y.1, y.2.1 ++ [v])], ⟨m2, m23, Y.w, yl, yp, v + 1, rfl, fun q hq => ?_⟩, by rw [List.length_append, bl]; rfl, ?_, ?_⟩))
    · rcases List.mem_append.mp hq with h | h
      · exact (yr q h).next hpy
      · rw [List.mem_singleton.mp h]; exact RelB.here hpy
    · show Paired _ (D ++ [_]) (b.2.2.2 ++ [row])
      exact paired_snoc' br hrow
    · refine List.pairwise_append.mpr ⟨bp, List.pairwise_singleton _ _, fun q hq q2 hq2 => ?_⟩
      rw [List.mem_singleton.mp hq2]
      exact yr q hq
theorem drop_cons {α : Type} {xs ys : List α} {k : Nat} {y : α} (h : y :: ys = xs.drop k) : xs[k]? = some y ∧ ys = xs.drop (k + 1) ∧ xs.take (k + 1) = xs.take k ++ [y] := by
  have hx : xs[k]? = some y := by
    have := congrArg (fun l : List α => l[0]?) h
    simp only [List.getElem?_drop, List.getElem?_cons_zero, Nat.add_zero] at this
    exact this.symm
  refine ⟨hx, ?_, by rw [List.take_add_one, hx]; rfl⟩
  have := congrArg List.tail h
  rw [List.tail_cons, List.tail_drop] at this
  exact this
theorem drop_nil {α : Type} {xs : List α} {k : Nat} (hk : k ≤ xs.length) (h : [] = xs.drop k) : k = xs.length := by
  have := congrArg List.length h
  rw [List.length_drop, List.length_nil] at this
  omega
def un (st : List LpT) (z : Str) : Nat := if z = ("" : Str) then 0 else (st.map (·.a)).idxOf z + 1
def valF (r : List Int) : Nat → Int
  | 0 => 0
  | x + 1 => r.getD x 0
def stV (st : List LpT) (r : List Int) (s : SpT) : Int := valF r (un st s.a) + s.b
section
variable {M : Int} {F : Nat → Str} {st : List LpT} (h : StX M F st) (hF : NmF F)
include h hF
theorem StX.turn {j : Nat} {t t0 : LpT} (ht : st[j]? = some t) (h0 : st[0]? = some t0) : t.e = t0.e := by
  cases j with
  | zero => rw [h0] at ht; cases ht; rfl
  | succ j =>
    refine (h.s (j + 1) t ht).e0 t0 ?_
    rw [List.getElem?_take, if_pos (by omega)]; exact h0
theorem StX.unlike {i j : Nat} {s t : LpT} (hs : st[i]? = some s) (ht : st[j]? = some t) (e : s.a = t.a) : i = j := by
  have li := (List.getElem?_eq_some_iff.mp hs).1
  have lj := (List.getElem?_eq_some_iff.mp ht).1
  have h0 := List.getElem?_eq_getElem (show 0 < st.length by omega)
  have l3 := h.l
  have e1 := h.turn hF hs h0
  have e2 := h.turn hF ht h0
  have r0 := (h.s 0 _ h0).e
  have n1 := (h.s i s hs).nm
  have n2 := (h.s j t ht).nm
  rw [List.length_take, Nat.min_eq_left (by omega), e1] at n1
  rw [List.length_take, Nat.min_eq_left (by omega), e2] at n2
  rw [n1, n2] at e
  generalize st[0].e = x at *
  have := hF.inj _ _ (by omega) (by omega) e
  omega
theorem StX.ne {j : Nat} {t : LpT} (ht : st[j]? = some t) : t.a ≠ ("" : Str) := by
  rw [(h.s j t ht).nm]; exact hF.ne _
theorem StX.idx {j : Nat} {t : LpT} (ht : st[j]? = some t) : un st t.a = j + 1 := by
  have hl := (List.getElem?_eq_some_iff.mp ht).1
  unfold un
  rw [if_neg (h.ne hF ht)]
  congr 1
  have hm : t.a ∈ st.map (·.a) := List.mem_map.mpr ⟨t, List.mem_of_getElem? ht, rfl⟩
  have lt : (st.map (·.a)).idxOf t.a < (st.map (·.a)).length := List.idxOf_lt_length_of_mem hm
  have hg := List.getElem_idxOf lt
  have lt2 := lt
  rw [List.length_map] at lt2
  have hx := List.getElem?_eq_getElem lt2
  rw [List.getElem_map] at hg
  exact h.unlike hF hx ht hg
theorem StX.ref {k : Nat} (hk : k ≤ st.length) {b : SpT} (hb : b ∈ bsF (st.take k)) : (b.a = ("" : Str) ∧ b.b = 0 ∧ un st b.a = 0) ∨ ∃ j t, j < k ∧ st[j]? = some t ∧ b.a = t.a ∧ b.b = t.d ∧ un st b.a = j + 1 := by
  rcases List.mem_cons.mp hb with e | e
  · subst e
    exact .inl ⟨rfl, rfl, by unfold un; rw [if_pos rfl]⟩
  · obtain ⟨t, ht, e⟩ := List.mem_map.mp e
    obtain ⟨j, hj⟩ := List.mem_iff_getElem?.mp ht
    rw [List.getElem?_take] at hj
    split at hj
    · subst e
      exact .inr ⟨j, t, by assumption, hj, rfl, rfl, h.idx hF hj⟩
    · cases hj
structure ArW (st : List LpT) (r : List Int) (n : Nat) (W : Dct Str Int) : Prop where
  len : W.l.length ≤ n
  a : ∀ (j : Nat) (t : LpT) (v : Int), j < n → st[j]? = some t → r[j]? = some v → kvLook W.l t.a = some v
theorem around_ok {ns : Tp Str} (hn : ns.l = st.map (·.a)) {r : Tp Int} (hr : r.l.length ≤ st.length) : Ok (m_around ns r) (ArW st r.l r.l.length) := by
  have l3 := h.l
  unfold m_around
  rw [hn]
  have zl : (zipL (st.map (·.a)) r.l).length = r.l.length := by rw [zipL_len, List.length_map]; omega
  refine .bindE rfl (.bind (P := ArW st r.l r.l.length) (Ok.loopN (J := fun W ys => ∃ k, k ≤ r.l.length ∧ ys = (zipL (st.map (·.a)) r.l).drop k ∧ ArW st r.l k W) ⟨0, Nat.zero_le _, rfl, ⟨Nat.le_refl _, fun j t v hj => absurd hj (Nat.not_lt_zero _)⟩⟩ (fun W x ys ⟨k, k1, e1, w⟩ => ?_) fun W ⟨k, k1, e1, w⟩ => ?_) fun W hW => .ret hW)
  · obtain ⟨hx, es, _⟩ := drop_cons e1
    have hk := (List.getElem?_eq_some_iff.mp hx).1
    rw [zl] at hk
    obtain ⟨x1, x2⟩ := zipL_get hx
    rw [List.getElem?_map] at x1
    have hst := List.getElem?_eq_getElem (show k < st.length by omega)
    rw [hst] at x1
    have x1 : st[k].a = x.a := Option.some.inj x1
    have wl := w.len
    refine .bindE (dputG_p (by omega)) (.ret ⟨k + 1, hk, es, ?_, fun j t v hj ht hv => ?_⟩)
    · have := kvPut_len W.l x.a x.b
      show (kvPut W.l x.a x.b).length ≤ _
      omega
    · show kvLook (kvPut W.l x.a x.b) _ = _
      rw [kvLook_put]
      by_cases g : j = k
      · subst g
        rw [hst] at ht; rw [x2] at hv
        cases ht; cases hv
        rw [if_pos x1.symm]
      · rw [if_neg fun z => g (h.unlike hF ht hst (by rw [x1, z]))]
        exact w.a j t v (by omega) ht hv
  · have := drop_nil (by rw [zl]; exact k1) e1
    rw [zl] at this
    rw [← this]; exact w
theorem stand_ok {r : List Int} (hr : r.length ≤ st.length) {W : Dct Str Int} (w : ArW st r r.length W) {ss : T2 SpT SpT} (hs : ∀ s ∈ [ss.a, ss.b], ∃ b ∈ bsF (st.take r.length), s.a = b.a) : m_stand ss W = some ⟨[stV st r ss.a, stV st r ss.b]⟩ := by
  refine Ok.eq ?_
  unfold m_stand
  refine .bindE rfl (.bindE (loopN_app (stV st r) [ss.a, ss.b] [] (by show 0 + 2 ≤ _; omega) fun s hsm b hb => ?_) (.ret rfl))
  obtain ⟨q, hq, e⟩ := hs s hsm
  rcases h.ref hF hr hq with ⟨e1, _, e2⟩ | ⟨j, t, hj, ht, e1, _, e2⟩
  · rw [← e] at e1
    rw [if_pos (decide_eq_true e1), app_p hb]
    unfold stV
    rw [e, e2]
    show some (b ++ [s.b]) = some (b ++ [0 + s.b])
    rw [Int.zero_add]
  · rw [← e] at e1
    have hv := List.getElem?_eq_getElem hj
    have lk : W.look s.a = some r[j] := by rw [e1]; exact w.a j t _ hj ht hv
    rw [if_neg (fun z => h.ne hF ht (by rw [← e1]; exact of_decide_eq_true z)), lk, Option.bind_some, app_p hb]
    unfold stV
    rw [e, e2]
    show some (b ++ [r[j] + s.b]) = some (b ++ [r.getD j 0 + s.b])
    rw [List.getD_eq_getElem?_getD, hv]; rfl
end
theorem valF_app {r : List Int} {v : Int} {x : Nat} (h : x ≤ r.length) : valF (r ++ [v]) x = valF r x := by
  cases x with
  | zero => rfl
  | succ x =>
    show (r ++ [v]).getD x 0 = r.getD x 0
    rw [List.getD_eq_getElem?_getD, List.getD_eq_getElem?_getD, List.getElem?_append_left h]
def loV (st : List LpT) (e : Nat) (vs : List Int) : Int := match st[e]? with
  | some t => stV st vs t.b
  | none => 0
def hiV (st : List LpT) (e : Nat) (vs : List Int) : Int := match st[e]? with
  | some t => stV st vs t.c
  | none => 0
theorem bds_ok {M : Int} {F : Nat → Str} (hF : NmF F) {st : List LpT} (S : StX M F st) {ns : Tp Str} {ls hs : Tp SpT} (en : ns.l = st.map (·.a)) (el : ls.l = st.map (·.b)) (eh : hs.l = st.map (·.c)) {e : Nat} (he : e < st.length) {vs : Tp Int} (hv : vs.l.length = e) :
    ∃ lo hi W, L2.atI ls.l (e : Int) = some lo ∧ L2.atI hs.l (e : Int) = some hi ∧ m_around ns vs = some W ∧ m_stand (T2.mk lo hi) W = some ⟨[loV st e vs.l, hiV st e vs.l]⟩ := by
  have ht := List.getElem?_eq_getElem he
  generalize st[e] = t at ht
  have X := S.s e t ht
  obtain ⟨W, w1, w2⟩ := around_ok S hF en (r := vs) (by omega)
  have s := stand_ok S hF (r := vs.l) (by omega) w2 (ss := ⟨t.b, t.c⟩) (fun s hs => by
    rw [hv]
    have hs : s ∈ [t.b, t.c] := hs
    rcases List.mem_cons.mp hs with q | q
    · obtain ⟨b, b1, b2, _⟩ := X.lo
      exact ⟨b, b1, by rw [q]; exact b2⟩
    · rw [List.mem_singleton.mp q]
      obtain ⟨b, b1, b2, _⟩ := X.hi
      exact ⟨b, b1, b2⟩)
  refine ⟨t.b, t.c, W, by rw [el]; refine atI_at ?_; rw [List.getElem?_map, ht]; rfl, by rw [eh]; refine atI_at ?_; rw [List.getElem?_map, ht]; rfl, w1, ?_⟩
  unfold loV hiV
  rw [ht]; exact s
theorem around_bounds {q : QDeed} {vs : Tp Int} {W : Dct Str Int} (h : m_around q.names vs = some W) : m_bounds_of q vs = (some (vs.l.length : Int)).bind fun x_depth => (L2.atI q.lows.l x_depth).bind fun t9 => (L2.atI q.highs.l x_depth).bind fun t10 => (m_stand (T2.mk t9 t10) W).bind fun t11 => some t11 := by
  unfold m_around at h
  unfold m_bounds_of
  rw [Option.bind_some] at h ⊢
  obtain ⟨W2, h1, h2⟩ := Option.bind_eq_some_iff.mp h
  cases h2
  rw [h1]; rfl
structure DdX (M : Int) (F : Nat → Str) (st : List LpT) (p : List Int) (q : QDeed) : Prop where
  sx : StX M F st
  a : q.names.l = st.map (·.a)
  b : q.lows.l = st.map (·.b)
  c : q.highs.l = st.map (·.c)
  g : q.path.l = p
  gl : p.length = st.length + 1
theorem DdX.bounds {M : Int} {F : Nat → Str} (hF : NmF F) {st : List LpT} {p : List Int} {q : QDeed} (D : DdX M F st p q) {e : Nat} (he : e < st.length) {vs : Tp Int} (hv : vs.l.length = e) : m_bounds_of q vs = some ⟨[loV st e vs.l, hiV st e vs.l]⟩ := by
  obtain ⟨lo, hi, W, h1, h2, h3, h4⟩ := bds_ok hF D.sx D.a D.b D.c he hv
  rw [around_bounds h3, hv, Option.bind_some, h1, Option.bind_some, h2, Option.bind_some, h4]; rfl
structure LvOk (M : Int) (st : List LpT) (e : Nat) (vs : List Int) : Prop where
  l : vs.length = e
  d : ∀ (j : Nat) (t : LpT), st[j]? = some t → j < e → 0 ≤ valF vs (j + 1) - t.d ∧ valF vs (j + 1) - t.d ≤ M * ((j : Int) + 1)
theorem LvOk.nil {M : Int} {st : List LpT} : LvOk M st 0 [] := ⟨rfl, fun j t _ hj => absurd hj (Nat.not_lt_zero _)⟩
theorem LvOk.bds {M : Int} (M0 : 0 ≤ M) {F : Nat → Str} (hF : NmF F) {st : List LpT} (S : StX M F st) {e : Nat} {t : LpT} (ht : st[e]? = some t) {vs : List Int} (h : LvOk M st e vs) : t.d ≤ loV st e vs ∧ hiV st e vs ≤ t.d + M * ((e : Int) + 1) := by
  have he := (List.getElem?_eq_some_iff.mp ht).1
  have X := S.s e t ht
  have key : ∀ b ∈ bsF (st.take e), ∃ x, valF vs (un st b.a) = b.b + x ∧ 0 ≤ x ∧ x ≤ M * (e : Int) := fun b hb => by
    rcases S.ref hF (by omega) hb with ⟨_, e1, e2⟩ | ⟨j, u, hj, hu, _, e1, e2⟩
    · exact ⟨0, by rw [e1, e2]; rfl, by omega, Int.mul_nonneg M0 (by omega)⟩
    · obtain ⟨d1, d2⟩ := h.d j u hu hj
      refine ⟨valF vs (j + 1) - u.d, by rw [e1, e2]; omega, d1, Int.le_trans d2 (Int.mul_le_mul_of_nonneg_left (by omega) M0)⟩
  obtain ⟨b, b1, b2, b3, b4⟩ := X.lo
  obtain ⟨c, c1, c2, c3, c4⟩ := X.hi
  obtain ⟨x, x1, x2, x3⟩ := key b b1
  obtain ⟨y, y1, y2, y3⟩ := key c c1
  unfold loV hiV
  rw [ht]
  unfold stV
  dsimp only
  rw [b2, c2, x1, y1, Int.mul_add, Int.mul_one]
  omega
theorem LvOk.snoc {M : Int} {st : List LpT} {e : Nat} {t : LpT} (ht : st[e]? = some t) {vs : List Int} (h : LvOk M st e vs) {v : Int} (h1 : t.d ≤ v) (h2 : v ≤ t.d + M * ((e : Int) + 1)) : LvOk M st (e + 1) (vs ++ [v]) := by
  refine ⟨by rw [List.length_append, h.l]; rfl, fun j u hu hj => ?_⟩
  by_cases g : j = e
  · subst g
    rw [ht] at hu; cases hu
    have : valF (vs ++ [v]) (j + 1) = v := by
      show (vs ++ [v]).getD j 0 = v
      rw [List.getD_eq_getElem?_getD, List.getElem?_append_right (by rw [h.l]; exact Nat.le_refl _), h.l, Nat.sub_self]; rfl
    rw [this]; omega
  · rw [valF_app (by rw [h.l]; omega)]
    exact h.d j u hu (by omega)
def rgI (lo hi : Int) : List Int := (List.range (hi + 1 - lo).toNat).map fun (i : Nat) => lo + (i : Int)
theorem rgI_nil {lo hi : Int} (h : hi < lo) : rgI lo hi = [] := by
  unfold rgI
  rw [show (hi + 1 - lo).toNat = 0 by omega]; rfl
theorem rgI_cons {lo hi : Int} (h : lo ≤ hi) : rgI lo hi = lo :: rgI (lo + 1) hi := by
  unfold rgI
  rw [show (hi + 1 - lo).toNat = (hi + 1 - (lo + 1)).toNat + 1 by omega, List.range_succ_eq_map, List.map_cons, List.map_map]
  congr 1
  · show lo + ((0 : Nat) : Int) = lo
    omega
  · refine List.map_congr_left fun i _ => ?_
    show lo + ((i + 1 : Nat) : Int) = lo + 1 + (i : Int)
    omega
theorem rgI_mem {lo hi v : Int} : v ∈ rgI lo hi ↔ lo ≤ v ∧ v ≤ hi := by
  unfold rgI
  rw [List.mem_map]
  constructor
  · rintro ⟨i, hi', rfl⟩
    have := List.mem_range.mp hi'
    omega
  · rintro ⟨h1, h2⟩
    exact ⟨(v - lo).toNat, List.mem_range.mpr (by omega), by omega⟩
theorem rgI_len {lo hi : Int} : (rgI lo hi).length = (hi + 1 - lo).toNat := by unfold rgI; rw [List.length_map, List.length_range]
structure ItX where
  k : Int
  st : List LpT
  p : List Int
def stepG (f : ItX → Int) (gs : List (List ItX)) (x : ItX) : List (List ItX) := match gs.getLast? with
  | none => [[x]]
  | some g => if g.head?.map f = some (f x) then gs.dropLast ++ [g ++ [x]] else gs ++ [[x]]
def grpX (f : ItX → Int) (ys : List ItX) : List (List ItX) := ys.foldl (stepG f) []
theorem grpX_snoc (f : ItX → Int) (ys : List ItX) (z : ItX) : grpX f (ys ++ [z]) = stepG f (grpX f ys) z := by
  unfold grpX; rw [List.foldl_append]; rfl
structure GOk (f : ItX → Int) (ys : List ItX) (gs : List (List ItX)) : Prop where
  fl : gs.flatten = ys
  ne : ∀ g ∈ gs, g ≠ []
  sm : ∀ g ∈ gs, ∀ x ∈ g, ∀ y ∈ g, f x = f y
  lt : gs.Pairwise fun a b => ∀ x ∈ a, ∀ y ∈ b, f x < f y
theorem GOk.last {f : ItX → Int} {ys : List ItX} {gs : List (List ItX)} (h : GOk f ys gs) : gs = [] ∨ ∃ gp y g, gs = gp ++ [y :: g] := by
  by_cases e : gs = []
  · exact .inl e
  · right
    have e1 := (List.dropLast_concat_getLast e).symm
    have hm : gs.getLast e ∈ gs := List.getLast_mem e
    have hn := h.ne _ hm
    cases hg : gs.getLast e with
    | nil => exact absurd hg hn
    | cons y g => exact ⟨_, y, g, by rw [← hg]; exact e1⟩
theorem stepG_nil (f : ItX → Int) (x : ItX) : stepG f [] x = [[x]] := rfl
theorem stepG_eq (f : ItX → Int) (gp : List (List ItX)) (y : ItX) (g : List ItX) (x : ItX) : stepG f (gp ++ [y :: g]) x = if f y = f x then gp ++ [y :: g ++ [x]] else gp ++ [y :: g] ++ [[x]] := by
  unfold stepG
  rw [List.getLast?_append, List.getLast?_singleton]
  show (if (some (f y)) = some (f x) then _ else _) = _
  rw [List.dropLast_concat]
  simp only [Option.some.injEq]
theorem GOk.step {f : ItX → Int} {ys : List ItX} {gs : List (List ItX)} (h : GOk f ys gs) {x : ItX} (hx : ∀ y ∈ ys, f y ≤ f x) : GOk f (ys ++ [x]) (stepG f gs x) := by
  have hfl := h.fl
  rcases h.last with e | ⟨gp, y, g, e⟩
  · subst e
    have : ys = [] := hfl.symm
    subst this
    rw [stepG_nil]
    refine ⟨rfl, fun g hg => ?_, fun g hg a ha b hb => ?_, List.pairwise_singleton _ _⟩
    · rw [List.mem_singleton.mp hg]; exact List.cons_ne_nil _ _
    · rw [List.mem_singleton.mp hg] at ha hb
      rw [List.mem_singleton.mp ha, List.mem_singleton.mp hb]
  · subst e
    rw [stepG_eq]
    have memY : ∀ {a : ItX} {g' : List ItX}, g' ∈ gp ++ [y :: g] → a ∈ g' → a ∈ ys := fun {a g'} h1 h2 => by
      rw [← hfl]; exact List.mem_flatten.mpr ⟨g', h1, h2⟩
    have yl : y :: g ∈ gp ++ [y :: g] := List.mem_append_right _ List.mem_cons_self
    have yin : y ∈ y :: g := List.mem_cons_self
    obtain ⟨l1, l2, l3⟩ := List.pairwise_append.mp h.lt
    split
    · rename_i hf
      have hall : ∀ a ∈ y :: g, f a = f x := fun a ha => (h.sm _ yl a ha y yin).trans hf
      refine ⟨?_, fun g' hg => ?_, fun g' hg a ha b hb => ?_, ?_⟩
      · rw [← hfl]; simp
      · rcases List.mem_append.mp hg with m | m
        · exact h.ne g' (List.mem_append_left _ m)
        · rw [List.mem_singleton.mp m]; simp
      · rcases List.mem_append.mp hg with m | m
        · exact h.sm g' (List.mem_append_left _ m) a ha b hb
        · rw [List.mem_singleton.mp m] at ha hb
          have key : ∀ a ∈ y :: g ++ [x], f a = f x := fun a ha => by
            rcases List.mem_append.mp ha with q | q
            · exact hall a q
            · rw [List.mem_singleton.mp q]
          rw [key a ha, key b hb]
      · refine List.pairwise_append.mpr ⟨l1, List.pairwise_singleton _ _, fun a ha b hb u hu v hv => ?_⟩
        rw [List.mem_singleton.mp hb] at hv
        have h1 := l3 a ha _ (List.mem_singleton.mpr rfl) u hu y yin
        rcases List.mem_append.mp hv with q | q
        · rw [hall v q]; rw [hf] at h1; exact h1
        · rw [List.mem_singleton.mp q]; rw [hf] at h1; exact h1
    · rename_i hf
      have hle := hx y (memY yl yin)
      have hlt : f y < f x := by omega
      refine ⟨?_, fun g' hg => ?_, fun g' hg a ha b hb => ?_, ?_⟩
      · rw [← hfl]; simp
      · rcases List.mem_append.mp hg with m | m
        · exact h.ne g' m
        · rw [List.mem_singleton.mp m]; simp
      · rcases List.mem_append.mp hg with m | m
        · exact h.sm g' m a ha b hb
        · rw [List.mem_singleton.mp m] at ha hb
          rw [List.mem_singleton.mp ha, List.mem_singleton.mp hb]
      · refine List.pairwise_append.mpr ⟨h.lt, List.pairwise_singleton _ _, fun a ha b hb u hu v hv => ?_⟩
        rw [List.mem_singleton.mp hb] at hv
        rw [List.mem_singleton.mp hv]
        rcases List.mem_append.mp ha with m | m
        · have := l3 a m _ (List.mem_singleton.mpr rfl) u hu y yin
          omega
        · rw [List.mem_singleton.mp m] at hu
          rw [h.sm _ yl u hu y yin]; exact hlt
theorem grpX_ok {f : ItX → Int} : ∀ {ys : List ItX}, ys.Pairwise (fun a b => f a ≤ f b) → GOk f ys (grpX f ys) := by
  intro ys
  induction h : ys.length generalizing ys with
  | zero =>
    intro _
    have : ys = [] := List.length_eq_zero_iff.mp h
    subst this
    exact ⟨rfl, (fun _ h => nomatch h), (fun _ h => nomatch h), .nil⟩
  | succ n ih =>
    intro hp
    have hne : ys ≠ [] := fun e => by rw [e] at h; cases h
    obtain ⟨zs, z, rfl⟩ : ∃ zs z, ys = zs ++ [z] := ⟨_, _, (List.dropLast_concat_getLast hne).symm⟩
    obtain ⟨p1, _, p3⟩ := List.pairwise_append.mp hp
    rw [grpX_snoc]
    refine (ih (by rw [List.length_append, List.length_singleton] at h; omega) p1).step fun y hy => p3 y hy z (List.mem_singleton.mpr rfl)
def RlX (d : Nat) (x y : ItX) : Prop := ∃ (e : Nat) (a b : Int), d ≤ e ∧ e ≤ x.st.length ∧ e ≤ y.st.length ∧ x.st.take e = y.st.take e ∧ x.p.take e = y.p.take e ∧ x.p[e]? = some a ∧ y.p[e]? = some b ∧ a < b
def pfX (d : Nat) (y : ItX) : Int := y.p.getD d 0
theorem RlX.pf {d : Nat} {x y : ItX} (h : RlX d x y) : pfX d x < pfX d y ∨ (pfX d x = pfX d y ∧ RlX (d + 1) x y) := by
  obtain ⟨e, a, b, h1, h2, h3, h4, h5, h6, h7, h8⟩ := h
  unfold pfX
  rw [List.getD_eq_getElem?_getD, List.getD_eq_getElem?_getD]
  by_cases he : e = d
  · subst he
    left; rw [h6, h7]; exact h8
  · right
    refine ⟨?_, e, a, b, by omega, h2, h3, h4, h5, h6, h7, h8⟩
    have : (x.p.take e)[d]? = (y.p.take e)[d]? := by rw [h5]
    rw [List.getElem?_take, List.getElem?_take, if_pos (by omega), if_pos (by omega)] at this
    rw [this]
theorem RlX.takes {d : Nat} {x y : ItX} (h : RlX d x y) : d ≤ x.st.length ∧ d ≤ y.st.length ∧ x.st.take d = y.st.take d ∧ x.p.take d = y.p.take d := by
  obtain ⟨e, a, b, h1, h2, h3, h4, h5, _⟩ := h
  refine ⟨by omega, by omega, ?_, ?_⟩
  · have := congrArg (List.take d) h4
    rwa [List.take_take, List.take_take, Nat.min_eq_left h1] at this
  · have := congrArg (List.take d) h5
    rwa [List.take_take, List.take_take, Nat.min_eq_left h1] at this
structure InX (d : Nat) (ys : List ItX) : Prop where
  r : ys.Pairwise (RlX d)
  l : ∀ y ∈ ys, d ≤ y.st.length
theorem InX.mono {d : Nat} {ys : List ItX} (h : InX d ys) : ys.Pairwise fun a b => pfX d a ≤ pfX d b := h.r.imp fun {a b} q => by
  rcases q.pf with z | ⟨z, _⟩ <;> omega
theorem InX.ok {d : Nat} {ys : List ItX} (h : InX d ys) : GOk (pfX d) ys (grpX (pfX d) ys) := grpX_ok h.mono
theorem sub_flat {α : Type} : ∀ {gs : List (List α)} {g : List α}, g ∈ gs → g.Sublist gs.flatten
  | g' :: gs, g, h => by
    rw [List.flatten_cons]
    rcases List.mem_cons.mp h with e | e
    · subst e; exact List.sublist_append_left _ _
    · exact (sub_flat e).trans (List.sublist_append_right _ _)
theorem InX.grp {d : Nat} {ys : List ItX} (h : InX d ys) {g : List ItX} (hg : g ∈ grpX (pfX d) ys) : ∃ y r, g = y :: r ∧ y ∈ ys ∧ (∀ x ∈ g, x ∈ ys) ∧ ((y.st.length = d ∧ r = []) ∨ (d < y.st.length ∧ InX (d + 1) g ∧ ∀ x ∈ g, x.st.take (d + 1) = y.st.take (d + 1))) := by
  have G := h.ok
  have hs : g.Sublist ys := by rw [← G.fl]; exact sub_flat hg
  have hin : ∀ x ∈ g, x ∈ ys := fun x hx => hs.subset hx
  cases g with
  | nil => exact absurd rfl (G.ne _ hg)
  | cons y r =>
    have yy : y ∈ y :: r := List.mem_cons_self
    refine ⟨y, r, rfl, hin y yy, hin, ?_⟩
    have pw : (y :: r).Pairwise (RlX (d + 1)) := by
      have p1 := h.r.sublist hs
      refine List.Pairwise.imp_of_mem ?_ p1
      intro a b ha hb q
      rcases q.pf with z | ⟨_, z⟩
      · have := G.sm _ hg a ha b hb; omega
      · exact z
    by_cases e : y.st.length = d
    · left
      refine ⟨e, ?_⟩
      cases r with
      | nil => rfl
      | cons x r =>
        have := (List.pairwise_cons.mp pw).1 x List.mem_cons_self
        have := this.takes.1
        omega
    · right
      have hl := h.l y (hin y yy)
      have hx : ∀ x ∈ y :: r, d + 1 ≤ x.st.length ∧ x.st.take (d + 1) = y.st.take (d + 1) := fun x hx => by
        rcases List.mem_cons.mp hx with q | q
        · subst q; exact ⟨by omega, rfl⟩
        · have := ((List.pairwise_cons.mp pw).1 x q).takes
          exact ⟨this.2.1, this.2.2.1.symm⟩
      exact ⟨by omega, ⟨pw, fun x m => (hx x m).1⟩, fun x m => (hx x m).2⟩
def TurX : Nat → Nat → List ItX → List Int → List (ItX × List Int)
  | 0, _, _, _ => []
  | n + 1, d, ys, vs => (grpX (pfX d) ys).flatMap fun g => match g with
    | [] => []
    | y :: r => if y.st.length = d then [(y, vs)] else (rgI (loV y.st d vs) (hiV y.st d vs)).flatMap fun v => TurX n (d + 1) (y :: r) (vs ++ [v])
def CosX : Nat → Nat → List ItX → List Int → Nat
  | 0, _, _, _ => 0
  | n + 1, d, ys, vs => ((grpX (pfX d) ys).map fun g => match g with
    | [] => 0
    | y :: r => if y.st.length = d then 1 else ((rgI (loV y.st d vs) (hiV y.st d vs)).map fun v => 1 + CosX n (d + 1) (y :: r) (vs ++ [v])).sum).sum
abbrev TdX : Type := T2 Int QDeed
structure RelD (M : Int) (F : Nat → Str) (x : TdX) (y : ItX) : Prop where
  k : x.a = y.k
  D : DdX M F y.st y.p x.b
theorem paired_snoc_inv {α β : Type} {R : α → β → Prop} {b : β} : ∀ {bs : List β} {as : List α}, Paired R as (bs ++ [b]) → ∃ as' a, as = as' ++ [a] ∧ Paired R as' bs ∧ R a b
  | [], _, .cons r .nil => ⟨[], _, rfl, .nil, r⟩
  | _ :: bs, _, .cons r t => by
    obtain ⟨as', a, e, p, q⟩ := paired_snoc_inv t
    exact ⟨_ :: as', a, by rw [e]; rfl, .cons r p, q⟩
theorem paired_getL {α β : Type} {R : α → β → Prop} : ∀ {as : List α} {bs : List β} {n : Nat} {a : α}, Paired R as bs → as[n]? = some a → ∃ b, bs[n]? = some b ∧ R a b
  | _, _, _, _, .nil, h => nomatch h
  | _, _, 0, _, .cons r _, h => by
    have h : some _ = some _ := h
    cases h; exact ⟨_, rfl, r⟩
  | _, _, n + 1, _, .cons _ t, h => paired_getL (n := n) t h
theorem appG2_end {α : Type} (gp : List (List α)) (g : List α) (v : α) : appG2 (gp ++ [g]) (-1) v = (app g v).map fun w => gp ++ [w] := by
  unfold appG2
  have e : L2.ixN (gp ++ [g]).length (-1) = some gp.length := by
    unfold L2.ixN
    rw [List.length_append, List.length_singleton, if_neg (by omega), if_pos (by omega)]
    congr 1; omega
  rw [e]
  dsimp only
  rw [List.getElem?_append_right (Nat.le_refl _), Nat.sub_self]
  show (app g v).map _ = _
  congr 1
  funext w
  rw [List.set_append_right _ _ (Nat.le_refl _), Nat.sub_self]; rfl
theorem InX.take {d : Nat} {ys : List ItX} (h : InX d ys) (k : Nat) : InX d (ys.take k) := ⟨h.r.sublist (List.take_sublist k ys), fun y hy => h.l y (List.mem_of_mem_take hy)⟩
section
variable {M : Int} {F : Nat → Str}
theorem RelD.path {x : TdX} {y : ItX} (r : RelD M F x y) {d : Nat} (h : d ≤ y.st.length) : L2.atI x.b.path.l (d : Int) = some (pfX d y) := by
  refine atI_at ?_
  rw [r.D.g]
  have := r.D.gl
  unfold pfX
  rw [List.getD_eq_getElem?_getD, List.getElem?_eq_getElem (by omega)]; rfl
theorem apart_ok {d : Nat} {xs : List TdX} {ys : List ItX} (h : Paired (RelD M F) xs ys) (I : InX d ys) (h6 : ys.length ≤ 1000) : Ok (m_put_apart xs (d : Int)) fun gs => Paired (Paired (RelD M F)) gs (grpX (pfX d) ys) := by
  unfold m_put_apart
  have hl := Paired.length h
  refine .bind (Ok.loopN (Q := fun gs => Paired (Paired (RelD M F)) gs (grpX (pfX d) ys)) (J := fun b rest => ∃ k, k ≤ xs.length ∧ rest = xs.drop k ∧ Paired (Paired (RelD M F)) b (grpX (pfX d) (ys.take k))) ⟨0, Nat.zero_le _, rfl, .nil⟩ (fun b x rest ⟨k, k1, e1, P⟩ => ?_) fun b ⟨k, k1, e1, P⟩ => ?_) fun b hb => .ret hb
  · obtain ⟨hx, es, _⟩ := drop_cons e1
    have hk := (List.getElem?_eq_some_iff.mp hx).1
    obtain ⟨y, hy, r⟩ := paired_getL h hx
    have et : ys.take (k + 1) = ys.take k ++ [y] := by rw [List.take_succ, hy]; rfl
    have yl : d ≤ y.st.length := I.l y (List.mem_of_getElem? hy)
    have G := (I.take k).ok
    have xe : (T2.mk x.a x.b : TdX) = x := rfl
    refine Ok.mono (P := fun b' => Paired (Paired (RelD M F)) b' (stepG (pfX d) (grpX (pfX d) (ys.take k)) y)) ?_ fun b' hb' => ⟨k + 1, hk, es, by rw [et, grpX_snoc]; exact hb'⟩
    rcases G.last with e | ⟨gp, y0, g, e⟩
    · rw [e] at P ⊢
      cases P
      refine .bindE rfl (.bindE rfl (.bindE (x := [[x]]) ?_ (.ret (.cons (.cons r .nil) .nil))))
      rfl
    · rw [e] at P ⊢
      obtain ⟨bp, c, rfl, P1, P2⟩ := paired_snoc_inv P
      cases c with
      | nil => cases P2
      | cons x0 gx =>
      cases P2 with
      | cons r0 t0 =>
      have y0m : y0 ∈ ys.take k := by rw [← G.fl, e]; simp
      have y0l : d ≤ y0.st.length := (I.take k).l y0 y0m
      have gl : (gp ++ [y0 :: g]).flatten.length ≤ k := by
        rw [← e, G.fl, List.length_take]; omega
      have gll : gx.length + 1 ≤ k := by
        rw [Paired.length t0]
        rw [List.flatten_append, List.length_append] at gl
        simp at gl; omega
      have gpl : bp.length ≤ k := by
        have h1 : gp.length ≤ gp.flatten.length := by
          have ne : ∀ q ∈ gp, q ≠ [] := fun q hq => G.ne q (by rw [e]; exact List.mem_append_left _ hq)
          clear gl gll P1 P e xe et G
          induction gp with
          | nil => exact Nat.zero_le _
          | cons q gp ih =>
            have := ih fun q hq => ne q (List.mem_cons_of_mem _ hq)
            have h2 : q.length ≠ 0 := fun z => ne q List.mem_cons_self (List.length_eq_zero_iff.mp z)
            rw [List.flatten_cons, List.length_append, List.length_cons]; omega
        rw [List.flatten_append, List.length_append] at gl
        rw [Paired.length P1]; omega
      have ne0 : (bp ++ [x0 :: gx]).isEmpty = false := by cases bp <;> rfl
      rw [ne0, stepG_eq]
      refine .bind (P := fun t : Bool => t = !decide (pfX d y0 = pfX d y)) ?_ fun t ht => ?_
      · rw [if_neg Bool.false_ne_true]
        refine .bindE (x := x0 :: gx) (by rw [atI_last (by simp), List.getLast_concat]) (.bindE (x := x0) (atI_at (k := 0) rfl) (.bindE (r0.path y0l) (.bindE (r.path yl) (.ret rfl))))
      · by_cases hf : pfX d y0 = pfX d y
        · rw [decide_eq_true hf] at ht
          subst ht
          rw [if_pos hf]
          refine .bindE rfl ?_
          rw [appG2_end, app_p (by show gx.length + 1 < _; omega)]
          refine .bindE rfl (.ret ?_)
          exact paired_snoc' P1 (paired_snoc' (.cons r0 t0) r)
        · rw [decide_eq_false hf] at ht
          subst ht
          rw [if_neg hf]
          refine .bindE (x := bp ++ [x0 :: gx] ++ [[]]) ?_ ?_
          · show ((app (bp ++ [x0 :: gx]) []).bind fun t14 => some t14) = _
            rw [app_p (by rw [List.length_append, List.length_singleton]; omega)]; rfl
          · rw [appG2_end, app_p (by show 0 < _; omega)]
            refine .bindE rfl (.ret ?_)
            exact paired_snoc' (paired_snoc' P1 (.cons r0 t0)) (.cons r .nil)
  · have hk : xs.length ≤ k := drop_nil k1 e1 ▸ Nat.le_refl _
    rw [List.take_of_length_le (by omega)] at P
    exact P
end
theorem paired_memR {α β : Type} {R : α → β → Prop} : ∀ {as : List α} {bs : List β}, Paired R as bs → Paired (fun a b => R a b ∧ b ∈ bs) as bs
  | _, _, .nil => .nil
  | _, _, .cons r t => .cons ⟨r, List.mem_cons_self⟩ (L2.Paired.mapP (paired_memR t) fun _ _ z => ⟨z.1, List.mem_cons_of_mem _ z.2⟩)
def TnX (q : ItX × List Int) : T2 Int (Tp Int) := ⟨q.1.k, ⟨q.2⟩⟩
def advX (w : QWalk) (c : Nat) (ts : List (ItX × List Int)) : QWalk := ⟨w.left - (c : Int), w.turns ++ ts.map TnX⟩
theorem advX_nil (w : QWalk) : advX w 0 [] = w := by
  unfold advX
  simp
theorem advX_adv (w : QWalk) (a b : Nat) (s t : List (ItX × List Int)) : advX (advX w a s) b t = advX w (a + b) (s ++ t) := by
  unfold advX
  simp only [List.map_append, List.append_assoc]
  congr 1; omega
theorem spend_ok {w : QWalk} (h : 1 ≤ w.left) : m_Walk_spend w = some (Rs.v (), advX w 1 []) := by
  unfold m_Walk_spend
  rw [if_neg (fun z => by have := of_decide_eq_true z; omega)]
  unfold advX
  simp
theorem spend_bad {w : QWalk} (h : w.left < 1) : m_Walk_spend w = some (Rs.x Xn.TooMany, w) := by
  unfold m_Walk_spend
  rw [if_pos (decide_eq_true h)]
theorem note_ok {w : QWalk} (h : 1 ≤ w.left) (hl : w.turns.length < 16000000) {y : ItX} {vs : List Int} : m_Walk_note w y.k ⟨vs⟩ = some (Rs.v (), advX w 1 [(y, vs)]) := by
  unfold m_Walk_note
  rw [spend_ok h, Option.bind_some]
  have e : (advX w 1 []).turns = w.turns := by unfold advX; simp
  dsimp only
  rw [e, app_p (by have : (16000000 : Nat) ≤ sizeLine := by decide
                   omega), Option.bind_some, Option.bind_some]
  unfold advX; simp; rfl
theorem note_bad {w : QWalk} (h : w.left < 1) {k : Int} {vs : Tp Int} : m_Walk_note w k vs = some (Rs.x Xn.TooMany, w) := by
  unfold m_Walk_note
  rw [spend_bad h, Option.bind_some]
def TgX (n d : Nat) (vs : List Int) (g : List ItX) : List (ItX × List Int) := match g with
    | [] => []
    | y :: r => if y.st.length = d then [(y, vs)] else (rgI (loV y.st d vs) (hiV y.st d vs)).flatMap fun v => TurX n (d + 1) (y :: r) (vs ++ [v])
def CgX (n d : Nat) (vs : List Int) (g : List ItX) : Nat := match g with
    | [] => 0
    | y :: r => if y.st.length = d then 1 else ((rgI (loV y.st d vs) (hiV y.st d vs)).map fun v => 1 + CosX n (d + 1) (y :: r) (vs ++ [v])).sum
theorem TurX_succ (n d : Nat) (ys : List ItX) (vs : List Int) : TurX (n + 1) d ys vs = (grpX (pfX d) ys).flatMap (TgX n d vs) := rfl
theorem CosX_succ (n d : Nat) (ys : List ItX) (vs : List Int) : CosX (n + 1) d ys vs = ((grpX (pfX d) ys).map (CgX n d vs)).sum := rfl
theorem sum_mapL {α : Type} {f g : α → Nat} : ∀ {l : List α}, (∀ a ∈ l, f a ≤ g a) → (l.map f).sum ≤ (l.map g).sum
  | [], _ => Nat.le_refl _
  | a :: l, h => by
    rw [List.map_cons, List.map_cons, List.sum_cons, List.sum_cons]
    exact Nat.add_le_add (h a List.mem_cons_self) (sum_mapL fun b hb => h b (List.mem_cons_of_mem _ hb))
theorem tur_cosG (n d : Nat) (vs : List Int) (hi : ∀ (ys : List ItX) (vs : List Int), (TurX n (d + 1) ys vs).length ≤ CosX n (d + 1) ys vs) (g : List ItX) : (TgX n d vs g).length ≤ CgX n d vs g := by
  cases g with
  | nil => exact Nat.le_refl _
  | cons y r =>
    show (if y.st.length = d then [(y, vs)] else (rgI (loV y.st d vs) (hiV y.st d vs)).flatMap fun v => TurX n (d + 1) (y :: r) (vs ++ [v])).length ≤ (if y.st.length = d then 1 else ((rgI (loV y.st d vs) (hiV y.st d vs)).map fun v => 1 + CosX n (d + 1) (y :: r) (vs ++ [v])).sum)
    split
    · exact Nat.le_refl _
    · rw [List.length_flatMap]
      exact sum_mapL fun v _ => by have := hi (y :: r) (vs ++ [v]); omega
theorem tur_cos0 : ∀ (n d : Nat) (ys : List ItX) (vs : List Int), (TurX n d ys vs).length ≤ CosX n d ys vs
  | 0, _, _, _ => Nat.le_refl _
  | n + 1, d, ys, vs => by
    rw [TurX_succ, CosX_succ, List.length_flatMap]
    exact sum_mapL fun g _ => tur_cosG n d vs (tur_cos0 n (d + 1)) g
structure Lft (w : QWalk) : Prop where
  a : 0 ≤ w.left
  b : w.left ≤ 90000
  c : (w.turns.length : Int) + w.left ≤ 1000000
theorem Lft.adv {w : QWalk} (h : Lft w) {c : Nat} {ts : List (ItX × List Int)} (h1 : (c : Int) ≤ w.left) (h2 : ts.length ≤ c) : Lft (advX w c ts) := by
  obtain ⟨a, b, d⟩ := h
  refine ⟨by show 0 ≤ w.left - (c : Int); omega, by show w.left - (c : Int) ≤ _; omega, ?_⟩
  show ((w.turns ++ ts.map TnX).length : Int) + (w.left - (c : Int)) ≤ _
  rw [List.length_append, List.length_map]; omega
abbrev OwT : Type := Rs Xn Unit × QWalk
theorem loop_all {α β : Type} {R : α → β → Prop} {C : β → Nat} {T : β → List (ItX × List Int)} {st : QWalk → α → Option (Lp QWalk OwT)} (hT : ∀ y, (T y).length ≤ C y) (hs : ∀ (x : α) (y : β) (w : QWalk), R x y → Lft w → ((C y : Int) ≤ w.left → st w x = some (.nx (advX w (C y) (T y)))) ∧ (w.left < (C y : Int) → ∃ w', st w x = some (.rt (Rs.x Xn.TooMany, w')))) :
    ∀ {as : List α} {bs : List β} (w : QWalk), Paired R as bs → Lft w → ((((bs.map C).sum : Nat) : Int) ≤ w.left → loopM st w as = some (.nx (advX w (bs.map C).sum (bs.flatMap T)))) ∧ (w.left < (((bs.map C).sum : Nat) : Int) → ∃ w', loopM st w as = some (.rt (Rs.x Xn.TooMany, w')))
  | [], _, w, .nil, L => ⟨fun _ => by rw [loopM]; simp [advX_nil], fun h => by
      have := L.a
      have e : (([] : List β).map C).sum = 0 := rfl
      rw [e] at h; omega⟩
  | x :: as, y :: bs, w, .cons r t, L => by
    obtain ⟨h1, h2⟩ := hs x y w r L
    rw [List.map_cons, List.sum_cons, List.flatMap_cons]
    by_cases hc : (C y : Int) ≤ w.left
    · rw [loopM_nx (h1 hc)]
      obtain ⟨i1, i2⟩ := loop_all hT hs (advX w (C y) (T y)) t (L.adv hc (hT y))
      have el : (advX w (C y) (T y)).left = w.left - (C y : Int) := rfl
      rw [advX_adv] at i1
      exact ⟨fun h => i1 (by rw [el]; omega), fun h => i2 (by rw [el]; omega)⟩
    · obtain ⟨w', e⟩ := h2 (by omega)
      exact ⟨fun h => by omega, fun _ => ⟨w', loopM_rt e⟩⟩
theorem while_all {hi lw : Int} {C : Int → Nat} {T : Int → List (ItX × List Int)} {st : QWalk × Int → Option (Lp (QWalk × Int) OwT)} (hC : ∀ v, 1 ≤ C v) (hT : ∀ v, (T v).length ≤ C v) (hs : ∀ (v : Int) (w : QWalk), v ≤ hi → lw ≤ v → Lft w → ((C v : Int) ≤ w.left → st (w, v) = some (.nx (advX w (C v) (T v), v + 1))) ∧ (w.left < (C v : Int) → ∃ w', st (w, v) = some (.rt (Rs.x Xn.TooMany, w')))) :
    ∀ (m : Nat) (lo : Int) (w : QWalk), lw ≤ lo → w.left < (m : Int) → Lft w → (((((rgI lo hi).map C).sum : Nat) : Int) ≤ w.left → ∃ v, whileM (fun b : QWalk × Int => some (decide (b.2 ≤ hi))) st m (w, lo) = some (.nx (advX w ((rgI lo hi).map C).sum ((rgI lo hi).flatMap T), v))) ∧ (w.left < ((((rgI lo hi).map C).sum : Nat) : Int) → ∃ w', whileM (fun b : QWalk × Int => some (decide (b.2 ≤ hi))) st m (w, lo) = some (.rt (Rs.x Xn.TooMany, w')))
  | 0, lo, w, hlw, hm, L => by have := L.a; omega
  | m + 1, lo, w, hlw, hm, L => by
    by_cases hl : lo ≤ hi
    · obtain ⟨h1, h2⟩ := hs lo w hl hlw L
      rw [rgI_cons hl, List.map_cons, List.sum_cons, List.flatMap_cons]
      have c1 := hC lo
      by_cases hc : (C lo : Int) ≤ w.left
      · have el : (advX w (C lo) (T lo)).left = w.left - (C lo : Int) := rfl
        obtain ⟨i1, i2⟩ := while_all hC hT hs m (lo + 1) (advX w (C lo) (T lo)) (by omega) (by rw [el]; omega) (L.adv hc (hT lo))
        have es : whileM (fun b : QWalk × Int => some (decide (b.2 ≤ hi))) st (m + 1) (w, lo) = whileM (fun b : QWalk × Int => some (decide (b.2 ≤ hi))) st m (advX w (C lo) (T lo), lo + 1) := by
          rw [whileM]
          dsimp only
          rw [decide_eq_true hl, h1 hc]
        rw [es]
        rw [advX_adv] at i1
        exact ⟨fun h => i1 (by rw [el]; omega), fun h => i2 (by rw [el]; omega)⟩
      · obtain ⟨w', e⟩ := h2 (by omega)
        refine ⟨fun h => by omega, fun _ => ⟨w', ?_⟩⟩
        rw [whileM]
        dsimp only
        rw [decide_eq_true hl, e]
    · have e : decide (lo ≤ hi) = false := decide_eq_false hl
      rw [rgI_nil (by omega)]
      refine ⟨fun _ => ⟨lo, ?_⟩, fun h => ?_⟩
      · rw [whileM]
        dsimp only
        rw [e]
        simp [advX_nil]
      · have := L.a
        have e : (([] : List Int).map C).sum = 0 := rfl
        rw [e] at h; omega
theorem go_all {M : Int} {F : Nat → Str} (hF : NmF F) : ∀ (n d : Nat) (xs : List TdX) (ys : List ItX) (vs : List Int) (w : QWalk), Paired (RelD M F) xs ys → InX d ys → (∀ y ∈ ys, y.st.length < d + n) → ys ≠ [] → ys.length ≤ 1000 → vs.length = d → Lft w → ((CosX n d ys vs : Int) ≤ w.left → m_go n w xs ⟨vs⟩ = some (Rs.v (), advX w (CosX n d ys vs) (TurX n d ys vs))) ∧ (w.left < (CosX n d ys vs : Int) → ∃ w', m_go n w xs ⟨vs⟩ = some (Rs.x Xn.TooMany, w'))
  | 0, d, xs, [], vs, w, P, I, hn, ne, _, _, _ => absurd rfl ne
  | 0, d, xs, y :: ys, vs, w, P, I, hn, ne, _, _, _ => by
    have h1 := I.l y List.mem_cons_self
    have h2 := hn y List.mem_cons_self
    omega
  | n + 1, d, xs, ys, vs, w, P, I, hn, ne, h6, hv, L => by
    unfold m_go
    rw [Option.bind_some, show ((⟨vs⟩ : Tp Int).l.length : Int) = (d : Int) by rw [← hv]]
    obtain ⟨gs, g1, g2⟩ := apart_ok P I h6
    rw [g1, Option.bind_some, TurX_succ, CosX_succ]
    have G2 : Paired (fun (a : List TdX) (b : List ItX) => Paired (RelD M F) a b ∧ b ∈ grpX (pfX d) ys) gs (grpX (pfX d) ys) := paired_memR g2
    have key := fun st hs => loop_all (st := st) (R := fun (a : List TdX) (b : List ItX) => Paired (RelD M F) a b ∧ b ∈ grpX (pfX d) ys) (C := CgX n d vs) (T := TgX n d vs) (tur_cosG n d vs (tur_cos0 n (d + 1))) hs w G2 L
    have fin : ∀ st : QWalk → List TdX → Option (Lp QWalk OwT), (∀ (x : List TdX) (y : List ItX) (w : QWalk), (Paired (RelD M F) x y ∧ y ∈ grpX (pfX d) ys) → Lft w → ((CgX n d vs y : Int) ≤ w.left → st w x = some (.nx (advX w (CgX n d vs y) (TgX n d vs y)))) ∧ (w.left < (CgX n d vs y : Int) → ∃ w', st w x = some (.rt (Rs.x Xn.TooMany, w')))) →
        (((((grpX (pfX d) ys).map (CgX n d vs)).sum : Nat) : Int) ≤ w.left → ((loopM st w gs).bind fun o21 => o21.thn (fun (b21 : QWalk) => some (Rs.v (), b21)) (fun r_ => some r_)) = some ((Rs.v (), advX w ((grpX (pfX d) ys).map (CgX n d vs)).sum ((grpX (pfX d) ys).flatMap (TgX n d vs))) : OwT)) ∧ (w.left < ((((grpX (pfX d) ys).map (CgX n d vs)).sum : Nat) : Int) → ∃ w', ((loopM st w gs).bind fun o21 => o21.thn (fun (b21 : QWalk) => some (Rs.v (), b21)) (fun r_ => some r_)) = some ((Rs.x Xn.TooMany, w') : OwT)) := fun st hs => by
      obtain ⟨k1, k2⟩ := key st hs
      exact ⟨fun h => by rw [k1 h]; rfl, fun h => let ⟨w', e⟩ := k2 h; ⟨w', by rw [e]; rfl⟩⟩
    refine fin _ fun a b w2 ⟨ab, bm⟩ Lw => ?_
    obtain ⟨y, r, rfl, ym, yall, hy⟩ := I.grp bm
    cases a with
    | nil => cases ab
    | cons x rx =>
    have rx0 : RelD M F x y := by cases ab with | cons r _ => exact r
    have ln : x.b.names.l.length = y.st.length := by rw [rx0.D.a, List.length_map]
    have a0 : L2.atI (x :: rx) (0 : Int) = some x := atI_at (k := 0) rfl
    rw [a0, Option.bind_some, Option.bind_some, ln]
    have Lc := Lw.c
    rcases hy with ⟨h1, h2⟩ | ⟨h1, h2, h3⟩
    · rw [if_pos (decide_eq_true (by rw [h1])), Option.bind_some]
      have ec : CgX n d vs (y :: r) = 1 := by show (if y.st.length = d then 1 else _) = 1; rw [if_pos h1]
      have et : TgX n d vs (y :: r) = [(y, vs)] := by show (if y.st.length = d then _ else _) = _; rw [if_pos h1]
      rw [ec, et, rx0.k]
      refine ⟨fun h => ?_, fun h => ⟨w2, ?_⟩⟩
      · have La := Lw.a
        rw [note_ok (by omega) (by omega), Option.bind_some]
      · rw [note_bad (by omega), Option.bind_some]
    · rw [if_neg (fun z => by have := of_decide_eq_true z; omega)]
      have ec : CgX n d vs (y :: r) = ((rgI (loV y.st d vs) (hiV y.st d vs)).map fun v => 1 + CosX n (d + 1) (y :: r) (vs ++ [v])).sum := by show (if y.st.length = d then 1 else _) = _; rw [if_neg (by omega)]
      have et : TgX n d vs (y :: r) = (rgI (loV y.st d vs) (hiV y.st d vs)).flatMap fun v => TurX n (d + 1) (y :: r) (vs ++ [v]) := by show (if y.st.length = d then _ else _) = _; rw [if_neg (by omega)]
      rw [ec, et, rx0.D.bounds hF h1 hv, Option.bind_some]
      have e2 : to2 ([loV y.st d vs, hiV y.st d vs] : List Int) = some (T2.mk (loV y.st d vs) (hiV y.st d vs)) := rfl
      dsimp only
      rw [e2, Option.bind_some, Option.bind_some]
      have fin2 : ∀ st : QWalk × Int → Option (Lp (QWalk × Int) OwT), (∀ (v : Int) (w : QWalk), v ≤ hiV y.st d vs → loV y.st d vs ≤ v → Lft w → (((1 + CosX n (d + 1) (y :: r) (vs ++ [v]) : Nat) : Int) ≤ w.left → st (w, v) = some (.nx (advX w (1 + CosX n (d + 1) (y :: r) (vs ++ [v])) (TurX n (d + 1) (y :: r) (vs ++ [v])), v + 1))) ∧ (w.left < ((1 + CosX n (d + 1) (y :: r) (vs ++ [v]) : Nat) : Int) → ∃ w', st (w, v) = some (.rt (Rs.x Xn.TooMany, w')))) →
          (((((rgI (loV y.st d vs) (hiV y.st d vs)).map fun v => 1 + CosX n (d + 1) (y :: r) (vs ++ [v])).sum : Nat) : Int) ≤ w2.left → ((whileM (ρ := OwT) (fun b : QWalk × Int => some (decide (b.2 ≤ hiV y.st d vs))) st 100000 (w2, loV y.st d vs)).bind fun o20 => o20.thn (fun (b20 : (QWalk × Int)) => some (Lp.nx b20.1)) (fun r_ => some (Lp.rt r_))) = some ((.nx (advX w2 ((rgI (loV y.st d vs) (hiV y.st d vs)).map fun v => 1 + CosX n (d + 1) (y :: r) (vs ++ [v])).sum ((rgI (loV y.st d vs) (hiV y.st d vs)).flatMap fun v => TurX n (d + 1) (y :: r) (vs ++ [v])))) : Lp QWalk OwT)) ∧
          (w2.left < ((((rgI (loV y.st d vs) (hiV y.st d vs)).map fun v => 1 + CosX n (d + 1) (y :: r) (vs ++ [v])).sum : Nat) : Int) → ∃ w', ((whileM (ρ := OwT) (fun b : QWalk × Int => some (decide (b.2 ≤ hiV y.st d vs))) st 100000 (w2, loV y.st d vs)).bind fun o20 => o20.thn (fun (b20 : (QWalk × Int)) => some (Lp.nx b20.1)) (fun r_ => some (Lp.rt r_))) = some ((.rt (Rs.x Xn.TooMany, w')) : Lp QWalk OwT)) := fun st hs => by
        obtain ⟨k1, k2⟩ := while_all (C := fun v => 1 + CosX n (d + 1) (y :: r) (vs ++ [v])) (T := fun v => TurX n (d + 1) (y :: r) (vs ++ [v])) (fun v => by omega) (fun v => by have := tur_cos0 n (d + 1) (y :: r) (vs ++ [v]); omega) hs 100000 (loV y.st d vs) w2 (Int.le_refl _) (by have := Lw.b; omega) Lw
        exact ⟨fun h => let ⟨v, e⟩ := k1 h; by rw [e]; rfl, fun h => let ⟨w', e⟩ := k2 h; ⟨w', by rw [e]; rfl⟩⟩
      refine fin2 _ fun v w3 hvh hvl L3 => ?_
      dsimp only
      by_cases h0 : 1 ≤ w3.left
      · have L4 : Lft (advX w3 1 []) := L3.adv (c := 1) (ts := []) (by omega) (Nat.zero_le _)
        have el : (advX w3 1 []).left = w3.left - 1 := rfl
        obtain ⟨r1, r2⟩ := go_all hF n (d + 1) (x :: rx) (y :: r) (vs ++ [v]) (advX w3 1 []) ab h2 (fun z hz => by have := hn z (yall z hz); omega) (List.cons_ne_nil _ _) (by have := I.ok.fl; have h9 : (y :: r).length ≤ ys.length := (by rw [← this]; exact (sub_flat bm).length_le); omega) (by rw [List.length_append, hv]; rfl) L4
        have l3 := rx0.D.sx.l
        rw [spend_ok h0, Option.bind_some]
        dsimp only
        rw [catT_p (by show vs.length + 1 ≤ _; omega), Option.bind_some]
        refine ⟨fun h => ?_, fun h => ?_⟩
        · show ((m_go n (advX w3 1 []) (x :: rx) ⟨vs ++ [v]⟩).bind _) = _
          rw [r1 (by rw [el]; omega), Option.bind_some, advX_adv]
          rfl
        · obtain ⟨w', e⟩ := r2 (by rw [el]; omega)
          refine ⟨w', ?_⟩
          show ((m_go n (advX w3 1 []) (x :: rx) ⟨vs ++ [v]⟩).bind _) = _
          rw [e, Option.bind_some]
      · rw [spend_bad (by omega), Option.bind_some]
        exact ⟨fun h => by omega, fun _ => ⟨w3, rfl⟩⟩
theorem sum_mapC {α : Type} {f g : α → Nat} {l : List α} (h : ∀ a ∈ l, f a = g a) : (l.map f).sum = (l.map g).sum := by rw [List.map_congr_left h]
theorem sum_const {α : Type} (c : Nat) : ∀ l : List α, (l.map fun _ => c).sum = l.length * c
  | [] => by simp
  | a :: l => by rw [List.map_cons, List.sum_cons, sum_const c l, List.length_cons, Nat.add_mul]; omega
theorem sum_addN {α : Type} (f g : α → Nat) : ∀ l : List α, (l.map fun a => f a + g a).sum = (l.map f).sum + (l.map g).sum
  | [] => rfl
  | a :: l => by rw [List.map_cons, List.map_cons, List.map_cons, List.sum_cons, List.sum_cons, List.sum_cons, sum_addN f g l]; omega
theorem sum_swap {α β : Type} (f : α → β → Nat) (m : List β) : ∀ l : List α, (l.map fun a => (m.map fun b => f a b).sum).sum = (m.map fun b => (l.map fun a => f a b).sum).sum
  | [] => by
    rw [List.map_nil, List.sum_nil]
    have : (m.map fun b => (([] : List α).map fun a => f a b).sum) = m.map fun _ => 0 := rfl
    rw [this, sum_const]; omega
  | a :: l => by
    rw [List.map_cons, List.sum_cons, sum_swap f m l, ← sum_addN]
    exact sum_mapC fun b _ => by rw [List.map_cons, List.sum_cons]
theorem sum_flat {α : Type} (f : α → Nat) : ∀ gs : List (List α), (gs.map fun g => (g.map f).sum).sum = (gs.flatten.map f).sum
  | [] => rfl
  | g :: gs => by rw [List.map_cons, List.sum_cons, sum_flat f gs, List.flatten_cons, List.map_append, List.sum_append]
theorem sum_mulR {α : Type} (f : α → Nat) (c : Nat) : ∀ l : List α, (l.map fun a => f a * c).sum = (l.map f).sum * c
  | [] => by simp
  | a :: l => by rw [List.map_cons, List.map_cons, List.sum_cons, List.sum_cons, sum_mulR f c l, Nat.add_mul]
theorem un_take {st : List LpT} {k : Nat} {z : Str} (h : z = ("" : Str) ∨ z ∈ (st.take k).map (·.a)) : un st z = un (st.take k) z := by
  unfold un
  split
  · rfl
  · rcases h with h | h
    · contradiction
    · congr 1
      conv => lhs; rw [← List.take_append_drop k st]
      rw [List.map_append, List.idxOf_append, if_pos h]
theorem bsF_name {st : List LpT} {b : SpT} (h : b ∈ bsF st) : b.a = ("" : Str) ∨ b.a ∈ st.map (·.a) := by
  rcases List.mem_cons.mp h with e | e
  · left; rw [e]
  · right
    obtain ⟨t, ht, e⟩ := List.mem_map.mp e
    rw [← e]; exact List.mem_map.mpr ⟨t, ht, rfl⟩
theorem bd_congr {M : Int} {F : Nat → Str} {s1 s2 : List LpT} (S1 : StX M F s1) {d : Nat} (h1 : d < s1.length) (e : s1.take (d + 1) = s2.take (d + 1)) (vs : List Int) : loV s1 d vs = loV s2 d vs ∧ hiV s1 d vs = hiV s2 d vs := by
  have e0 : s1[d]? = s2[d]? := by
    have := congrArg (fun l : List LpT => l[d]?) e
    simpa only [List.getElem?_take, Nat.lt_succ_self, if_true] using this
  have e1 : s1.take d = s2.take d := by
    have := congrArg (List.take d) e
    rwa [List.take_take, List.take_take, Nat.min_eq_left (by omega)] at this
  have ht := List.getElem?_eq_getElem h1
  generalize s1[d] = t at ht
  rw [ht] at e0
  obtain ⟨b, b1, b2, _⟩ := (S1.s d t ht).lo
  obtain ⟨c, c1, c2, _⟩ := (S1.s d t ht).hi
  unfold loV hiV
  rw [ht, ← e0]
  dsimp only
  unfold stV
  have n1 := bsF_name b1
  have n2 := bsF_name c1
  rw [← b2] at n1
  rw [← c2] at n2
  rw [un_take n1, un_take n2, un_take (st := s2) (k := d) (by rw [← e1]; exact n1), un_take (st := s2) (k := d) (by rw [← e1]; exact n2), e1]
  exact ⟨rfl, rfl⟩
def ExX (st : List LpT) : Nat → Nat → List Int → List (List Int)
  | 0, _, vs => [vs]
  | n + 1, d, vs => (rgI (loV st d vs) (hiV st d vs)).flatMap fun v => ExX st n (d + 1) (vs ++ [v])
def LvX (st : List LpT) : Nat → List (List Int)
  | 0 => [[]]
  | e + 1 => (LvX st e).flatMap fun vs => (rgI (loV st e vs) (hiV st e vs)).map fun v => vs ++ [v]
theorem lv_ex (st : List LpT) : ∀ (n e : Nat), (LvX st e).flatMap (ExX st n e) = LvX st (e + n)
  | 0, e => by
    show (LvX st e).flatMap (fun vs => [vs]) = LvX st e
    rw [List.flatMap_singleton']
  | n + 1, e => by
    rw [show e + (n + 1) = e + 1 + n by omega, ← lv_ex st n (e + 1)]
    show (LvX st e).flatMap (fun vs => (rgI (loV st e vs) (hiV st e vs)).flatMap fun v => ExX st n (e + 1) (vs ++ [v])) = ((LvX st e).flatMap fun vs => (rgI (loV st e vs) (hiV st e vs)).map fun v => vs ++ [v]).flatMap (ExX st n (e + 1))
    rw [List.flatMap_assoc]
    congr 1
    funext vs
    rw [List.flatMap_map]
theorem ex_all (st : List LpT) : ExX st st.length 0 [] = LvX st st.length := by
  have := lv_ex st st.length 0
  rw [Nat.zero_add] at this
  rw [← this]
  show _ = (([[]] : List (List Int)).flatMap _)
  simp
structure VdT (st : List LpT) (d : Nat) (vs w : List Int) : Prop where
  l : w.length = st.length
  t : w.take d = vs
  b : ∀ e, d ≤ e → e < st.length → loV st e (w.take e) ≤ w.getD e 0 ∧ w.getD e 0 ≤ hiV st e (w.take e)
def OrdX (a b : ItX × List Int) : Prop := ∃ e, e ≤ a.2.length ∧ e ≤ b.2.length ∧ a.1.p.take e = b.1.p.take e ∧ a.2.take e = b.2.take e ∧ (pfX e a.1 < pfX e b.1 ∨ (pfX e a.1 = pfX e b.1 ∧ e < a.2.length ∧ e < b.2.length ∧ a.2.getD e 0 < b.2.getD e 0))
section
variable {M : Int} {F : Nat → Str}
theorem tur_len : ∀ (n d : Nat) (ys : List ItX) (vs : List Int), (∀ y ∈ ys, StX M F y.st) → InX d ys → vs.length = d → (∀ y ∈ ys, y.st.length < d + n) → (TurX n d ys vs).length = (ys.map fun y => (ExX y.st (y.st.length - d) d vs).length).sum
  | 0, d, ys, vs, _, I, _, hn => by
    cases ys with
    | nil => rfl
    | cons y ys =>
      have h1 := I.l y List.mem_cons_self
      have h2 := hn y List.mem_cons_self
      omega
  | n + 1, d, ys, vs, S, I, hv, hn => by
    have G := I.ok
    rw [TurX_succ, List.length_flatMap]
    conv => rhs; rw [← G.fl]
    rw [← sum_flat]
    refine sum_mapC fun g hg => ?_
    obtain ⟨y, r, rfl, ym, yall, hy⟩ := I.grp hg
    show (if y.st.length = d then [(y, vs)] else (rgI (loV y.st d vs) (hiV y.st d vs)).flatMap fun v => TurX n (d + 1) (y :: r) (vs ++ [v])).length = _
    rcases hy with ⟨h1, h2⟩ | ⟨h1, h2, h3⟩
    · rw [if_pos h1, h2, List.map_singleton, h1, Nat.sub_self]; rfl
    · rw [if_neg (by omega), List.length_flatMap]
      rw [sum_mapC (g := fun v => ((y :: r).map fun x => (ExX x.st (x.st.length - (d + 1)) (d + 1) (vs ++ [v])).length).sum) fun v _ => tur_len n (d + 1) (y :: r) (vs ++ [v]) (fun z hz => S z (yall z hz)) h2 (by rw [List.length_append, hv]; rfl) (fun z hz => by have := hn z (yall z hz); omega), sum_swap]
      refine sum_mapC fun x hx => ?_
      have lx := h2.l x hx
      obtain ⟨c1, c2⟩ := bd_congr (S _ (yall x hx)) (by omega) (h3 x hx) vs
      rw [show x.st.length - d = (x.st.length - (d + 1)) + 1 by omega]
      show _ = ((rgI (loV x.st d vs) (hiV x.st d vs)).flatMap fun v => ExX x.st (x.st.length - (d + 1)) (d + 1) (vs ++ [v])).length
      rw [List.length_flatMap, c1, c2]
end
section
variable {M : Int} {F : Nat → Str}
theorem LvOk.next {M : Int} (M0 : 0 ≤ M) {F : Nat → Str} (hF : NmF F) {st : List LpT} (S : StX M F st) {e : Nat} (he : e < st.length) {vs : List Int} (h : LvOk M st e vs) {v : Int} (hv : v ∈ rgI (loV st e vs) (hiV st e vs)) : LvOk M st (e + 1) (vs ++ [v]) := by
  have ht := List.getElem?_eq_getElem he
  obtain ⟨b1, b2⟩ := h.bds M0 hF S ht
  have := rgI_mem.mp hv
  exact h.snoc ht (by omega) (by omega)
theorem LvOk.num {M : Int} (M0 : 0 ≤ M) {F : Nat → Str} (hF : NmF F) {st : List LpT} (S : StX M F st) {e : Nat} (he : e < st.length) {vs : List Int} (h : LvOk M st e vs) : (rgI (loV st e vs) (hiV st e vs)).length ≤ M.toNat * (e + 1) + 1 := by
  obtain ⟨b1, b2⟩ := h.bds M0 hF S (List.getElem?_eq_getElem he)
  rw [rgI_len]
  obtain ⟨m, rfl⟩ := Int.eq_ofNat_of_zero_le M0
  have e1 : ((m * (e + 1) + 1 : Nat) : Int) = (m : Int) * ((e : Int) + 1) + 1 := by
    rw [Int.natCast_add, Int.natCast_mul, Int.natCast_add]; rfl
  rw [Int.toNat_natCast]
  omega
theorem cos_le (M0 : 0 ≤ M) (hF : NmF F) (B : Nat → Nat) (L : Nat) (B1 : ∀ d, 1 ≤ B d) (hB : ∀ d, d < L → (M.toNat * (d + 1) + 1) * (1 + B (d + 1)) ≤ B d) : ∀ (n d : Nat) (ys : List ItX) (vs : List Int), (∀ y ∈ ys, StX M F y.st) → InX d ys → (∀ y ∈ ys, LvOk M y.st d vs) → (∀ y ∈ ys, y.st.length ≤ L) → CosX n d ys vs ≤ ys.length * B d
  | 0, _, _, _, _, _, _, _ => Nat.zero_le _
  | n + 1, d, ys, vs, S, I, V, hL => by
    rw [CosX_succ]
    have h1 : ((grpX (pfX d) ys).map (CgX n d vs)).sum ≤ ((grpX (pfX d) ys).map fun g => g.length * B d).sum := sum_mapL fun g hg => by
      obtain ⟨y, r, rfl, ym, yall, hy⟩ := I.grp hg
      show (if y.st.length = d then 1 else ((rgI (loV y.st d vs) (hiV y.st d vs)).map fun v => 1 + CosX n (d + 1) (y :: r) (vs ++ [v])).sum) ≤ (r.length + 1) * B d
      have b1 := B1 d
      rcases hy with ⟨h1, h2⟩ | ⟨h1, h2, h3⟩
      · rw [if_pos h1]
        exact Nat.le_trans b1 (Nat.le_mul_of_pos_left _ (Nat.succ_pos _))
      · rw [if_neg (by omega)]
        have ly := hL y ym
        have h4 : ((rgI (loV y.st d vs) (hiV y.st d vs)).map fun v => 1 + CosX n (d + 1) (y :: r) (vs ++ [v])).sum ≤ ((rgI (loV y.st d vs) (hiV y.st d vs)).map fun _ => 1 + (r.length + 1) * B (d + 1)).sum := sum_mapL fun v hv => by
          have := cos_le M0 hF B L B1 hB n (d + 1) (y :: r) (vs ++ [v]) (fun z hz => S z (yall z hz)) h2 (fun z hz => ?_) fun z hz => hL z (yall z hz)
          · rw [List.length_cons] at this; omega
          · have lz := h2.l z hz
            obtain ⟨c1, c2⟩ := bd_congr (S z (yall z hz)) (by omega) (h3 z hz) vs
            exact (V z (yall z hz)).next M0 hF (S z (yall z hz)) (by omega) (by rw [c1, c2]; exact hv)
        rw [sum_const] at h4
        have hn := (V y ym).num M0 hF (S y ym) h1
        have hb := hB d (by omega)
        refine Nat.le_trans h4 ?_
        have h5 : 1 + (r.length + 1) * B (d + 1) ≤ (r.length + 1) * (1 + B (d + 1)) := by
          rw [Nat.mul_add, Nat.mul_one]; omega
        calc (rgI (loV y.st d vs) (hiV y.st d vs)).length * (1 + (r.length + 1) * B (d + 1)) ≤ (M.toNat * (d + 1) + 1) * ((r.length + 1) * (1 + B (d + 1))) := Nat.mul_le_mul hn h5
          _ = (r.length + 1) * ((M.toNat * (d + 1) + 1) * (1 + B (d + 1))) := by rw [Nat.mul_left_comm]
          _ ≤ (r.length + 1) * B d := Nat.mul_le_mul (Nat.le_refl _) hb
    refine Nat.le_trans h1 ?_
    rw [sum_mulR, ← List.length_flatten, I.ok.fl]
    exact Nat.le_refl _
theorem lv_ok (M0 : 0 ≤ M) (hF : NmF F) {st : List LpT} (S : StX M F st) : ∀ e, e ≤ st.length → ∀ vs ∈ LvX st e, LvOk M st e vs
  | 0, _, vs, hv => by
    rw [show vs = [] from List.mem_singleton.mp hv]; exact .nil
  | e + 1, he, vs, hv => by
    obtain ⟨us, hu, hv⟩ := List.mem_flatMap.mp hv
    obtain ⟨v, hv2, rfl⟩ := List.mem_map.mp hv
    exact (lv_ok M0 hF S e (by omega) us hu).next M0 hF S (by omega) hv2
theorem lv_len (M0 : 0 ≤ M) (hF : NmF F) {st : List LpT} (S : StX M F st) (C : Nat → Nat) (C0 : 1 ≤ C 0) (hC : ∀ e, e < st.length → C e * (M.toNat * (e + 1) + 1) ≤ C (e + 1)) : ∀ e, e ≤ st.length → (LvX st e).length ≤ C e
  | 0, _ => C0
  | e + 1, he => by
    show ((LvX st e).flatMap fun vs => (rgI (loV st e vs) (hiV st e vs)).map fun v => vs ++ [v]).length ≤ _
    rw [List.length_flatMap]
    have h1 : ((LvX st e).map fun vs => ((rgI (loV st e vs) (hiV st e vs)).map fun v => vs ++ [v]).length).sum ≤ ((LvX st e).map fun _ => M.toNat * (e + 1) + 1).sum := sum_mapL fun vs hv => by
      rw [List.length_map]
      exact (lv_ok M0 hF S e (by omega) vs hv).num M0 hF S (by omega)
    rw [sum_const] at h1
    exact Nat.le_trans h1 (Nat.le_trans (Nat.mul_le_mul (lv_len M0 hF S C C0 hC e (by omega)) (Nat.le_refl _)) (hC e (by omega)))
theorem loop_fm {α β : Type} {f : α → List β} {N : Nat} {stp : List β → α → Option (List β)} : ∀ (as : List α) (b : List β), (∀ a ∈ as, ∀ b, b.length + (f a).length ≤ N → stp b a = some (b ++ f a)) → b.length + (as.flatMap f).length ≤ N → loopN stp b as = some (b ++ as.flatMap f)
  | [], b, _, _ => by rw [loopN]; simp
  | a :: as, b, h, hn => by
    rw [List.flatMap_cons, List.length_append] at hn
    rw [loopN_cons (h a List.mem_cons_self b (by omega)), loop_fm as _ (fun x hx => h x (List.mem_cons_of_mem _ hx)) (by rw [List.length_append]; omega), List.flatMap_cons, List.append_assoc]
theorem while_fm {β : Type} {hi : Int} {g : Int → β} {N : Nat} {stp : List β × Int → Option (List β × Int)} (h : ∀ b v, v ≤ hi → b.length + 1 ≤ N → stp (b, v) = some (b ++ [g v], v + 1)) : ∀ (j m : Nat) (lo : Int) (b : List β), (hi + 1 - lo).toNat = j → j < m → b.length + j ≤ N → ∃ v, whileN (fun b : List β × Int => some (decide (b.2 ≤ hi))) stp m (b, lo) = some (b ++ (rgI lo hi).map g, v)
  | 0, m + 1, lo, b, hj, _, _ => by
    refine ⟨lo, ?_⟩
    rw [whileN, rgI_nil (by omega)]
    dsimp only
    rw [decide_eq_false (show ¬ lo ≤ hi by omega)]
    simp
  | j + 1, m + 1, lo, b, hj, hm, hn => by
    have hl : lo ≤ hi := by omega
    obtain ⟨v, hv⟩ := while_fm h j m (lo + 1) (b ++ [g lo]) (by omega) (by omega) (by rw [List.length_append, List.length_singleton]; omega)
    refine ⟨v, ?_⟩
    rw [whileN]
    dsimp only
    rw [decide_eq_true hl, h b lo hl (by omega)]
    dsimp only
    rw [hv, rgI_cons hl, List.map_cons, List.append_assoc]; rfl
def lvT (st : List LpT) (e : Nat) : List (Tp Int) := (LvX st e).map Tp.mk
theorem levels_ok31 (M0 : 0 ≤ M) (hF : NmF F) {st : List LpT} {p : List Int} {r : RowK} (R : RwX M F st p r) (hb : ∀ e, e ≤ st.length → (LvX st e).length ≤ 1000) : m_levels r = some ((List.range (st.length + 1)).map (lvT st)) := by
  have S := R.sx
  have l3 := S.l
  have al : r.a.l.length = st.length := by rw [R.a, List.length_map]
  refine Ok.eq ?_
  unfold m_levels
  rw [al]
  refine .bindE rfl (.bindE (rngG_n (by omega)) (.bind (Ok.range (Q := fun L : List (List (Tp Int)) => L = (List.range (st.length + 1)).map (lvT st)) (J := fun e (L : List (List (Tp Int))) => L = (List.range (e + 1)).map (lvT st)) rfl (fun e L he eL => ?_) fun L h => h) fun L hL => .ret hL))
  subst eL
  have ec : (List.range (e + 1)).map (lvT st) = (List.range e).map (lvT st) ++ [lvT st e] := by rw [List.range_succ, List.map_append]; rfl
  have b1 := hb (e + 1) (by omega)
  have fm : ∀ us : List (List Int), ((us.map Tp.mk).flatMap fun vs : Tp Int => (rgI (loV st e vs.l) (hiV st e vs.l)).map fun v => (⟨vs.l ++ [v]⟩ : Tp Int)) = (us.flatMap fun vs => (rgI (loV st e vs) (hiV st e vs)).map fun v => vs ++ [v]).map Tp.mk := fun us => by
    rw [List.flatMap_map, List.map_flatMap]
    congr 1
    funext vs
    rw [List.map_map]; rfl
  refine .bindE rfl (.bindE (x := lvT st e) (by rw [ec]; exact (by rw [atI_last (by simp), List.getLast_concat])) ?_)
  refine .bindE (x := lvT st (e + 1)) ?_ (.bindE (app_p (by rw [List.length_map, List.length_range]; omega)) (.ret ?_))
  · have key := loop_fm (β := Tp Int) (f := fun vs : Tp Int => (rgI (loV st e vs.l) (hiV st e vs.l)).map fun v => (⟨vs.l ++ [v]⟩ : Tp Int)) (N := 1000) (stp := fun (b7 : (List (Tp Int))) (x_values : (Tp Int)) => (L2.atI r.b.l (e : Int)).bind fun t11 => (L2.atI r.c.l (e : Int)).bind fun t12 => (m_around r.a x_values).bind fun t13 => (m_stand (T2.mk t11 t12) t13).bind fun t14 => (to2 t14.l).bind fun t15 => (some t15).bind fun i16 => (whileN (fun (b19 : ((List (Tp Int)) × Int)) => some (decide (b19.2 ≤ i16.b))) (fun (b19 : ((List (Tp Int)) × Int)) => (catT x_values (Tp.mk ([b19.2] : List Int))).bind fun t22 => (app b19.1 t22).bind fun t23 => (some (b19.2 + (1 : Int))).bind fun x_low => some (t23, x_low)) 100000 (b7, i16.a)).bind fun (b24 : ((List (Tp Int)) × Int)) => some b24.1) (lvT st e) [] (fun vs hvs b hbl => ?_) ?_
    · rw [key, List.nil_append]
      unfold lvT
      rw [fm]; rfl
    · obtain ⟨us, hus, rfl⟩ := List.mem_map.mp hvs
      have V := lv_ok M0 hF S e (by omega) us hus
      obtain ⟨lo, hi, W, h1, h2, h3, h4⟩ := bds_ok hF S R.a R.b R.c he (vs := ⟨us⟩) V.l
      dsimp only at hbl ⊢
      rw [List.length_map, rgI_len] at hbl
      rw [h1, Option.bind_some, h2, Option.bind_some, h3, Option.bind_some, h4, Option.bind_some]
      show ((some (T2.mk (loV st e us) (hiV st e us))).bind _) = _
      rw [Option.bind_some, Option.bind_some]
      have vl := V.l
      obtain ⟨v, hv⟩ := while_fm (β := Tp Int) (hi := hiV st e us) (g := fun v => (⟨us ++ [v]⟩ : Tp Int)) (N := 1000) (stp := fun (b19 : ((List (Tp Int)) × Int)) => (catT (⟨us⟩ : Tp Int) (Tp.mk ([b19.2] : List Int))).bind fun t22 => (app b19.1 t22).bind fun t23 => (some (b19.2 + (1 : Int))).bind fun x_low => some (t23, x_low)) (fun b v hv hb => by
        dsimp only
        rw [catT_p (by show us.length + 1 ≤ _; omega), Option.bind_some, app_p (by omega)]; rfl) _ 100000 (loV st e us) b rfl (by omega) (by omega)
      rw [hv]; rfl
    · unfold lvT
      rw [fm, List.length_map]
      show 0 + (LvX st (e + 1)).length ≤ 1000
      omega
  · rw [List.range_succ (n := e + 1), List.map_append]; rfl
end
def itsX (k : Int) : List SpD → List ItX
  | [] => []
  | q :: D => ⟨k, q.1, q.2⟩ :: itsX (k + 1) D
theorem its_get : ∀ {D : List SpD} {k : Int} {y : ItX}, y ∈ itsX k D → ∃ j : Nat, D[j]? = some (y.st, y.p) ∧ y.k = k + (j : Int)
  | q :: D, k, y, h => by
    rcases List.mem_cons.mp h with e | h
    · subst e; exact ⟨0, rfl, by show k = k + ((0 : Nat) : Int); omega⟩
    · obtain ⟨j, h1, h2⟩ := its_get h
      exact ⟨j + 1, h1, by omega⟩
theorem its_len : ∀ {D : List SpD} {k : Int}, (itsX k D).length = D.length
  | [], _ => rfl
  | q :: D, k => by show (itsX (k + 1) D).length + 1 = _; rw [its_len]; rfl
theorem its_app : ∀ {D : List SpD} {k : Int} {q : SpD}, itsX k (D ++ [q]) = itsX k D ++ [⟨k + (D.length : Int), q.1, q.2⟩]
  | [], k, q => by
    show [_] = [_]
    congr 2
    show k = k + ((0 : Nat) : Int)
    omega
  | a :: D, k, q => by
    show _ :: itsX (k + 1) (D ++ [q]) = _ :: (itsX (k + 1) D ++ _)
    rw [its_app]
    congr 4
    show k + 1 + (D.length : Int) = k + ((D.length + 1 : Nat) : Int)
    omega
theorem its_map {f : List LpT → List Int → Nat} : ∀ {D : List SpD} {k : Int}, ((itsX k D).map fun y => f y.st y.p).sum = (D.map fun q => f q.1 q.2).sum
  | [], _ => rfl
  | q :: D, k => by show (f q.1 q.2 :: (itsX (k + 1) D).map _).sum = (f q.1 q.2 :: D.map _).sum; rw [List.sum_cons, List.sum_cons, its_map]
theorem its_pw : ∀ {D : List SpD} {k : Int}, D.Pairwise (fun a b => RelB b.1 b.2 a.1 a.2) → (itsX k D).Pairwise (RlX 0)
  | [], _, _ => .nil
  | q :: D, k, .cons h t => by
    refine .cons (fun y hy => ?_) (its_pw t)
    obtain ⟨j, hj, _⟩ := its_get hy
    obtain ⟨e, a, b, h1, h2, h3, h4, h5, h6, h7⟩ := h _ (List.mem_of_getElem? hj)
    exact ⟨e, a, b, Nat.zero_le _, h2, h1, h3, h4, h5, h6, h7⟩
section
variable {M : Int} {F : Nat → Str}
theorem its_inX {D : List SpD} (h : D.Pairwise (fun a b => RelB b.1 b.2 a.1 a.2)) : InX 0 (itsX 0 D) := ⟨its_pw h, fun _ _ => Nat.zero_le _⟩
theorem its_rel : ∀ {D : List SpD} {k : Int} {ds : List QDeed}, Paired (fun q d => DdX M F q.1 q.2 d) D ds → Paired (RelD M F) (enumF k ds) (itsX k D)
  | [], _, _, .nil => .nil
  | q :: D, k, d :: ds, .cons r t => .cons ⟨rfl, r⟩ (its_rel t)
end
section
variable {M : Int} {F : Nat → Str}
theorem made_ok31 : ∀ {D : List SpD} {rows : List RowK}, Paired (fun q r => RwX M F q.1 q.2 r) D rows → ∃ ds, compM (fun (x_row_here : RowK) => (m_object 30 x_row_here.f).bind fun t1 => some (some (QDeed.mk x_row_here.a x_row_here.b x_row_here.c x_row_here.d x_row_here.e t1 x_row_here.g))) rows = some ds ∧ Paired (fun q d => DdX M F q.1 q.2 d) D ds
  | [], [], .nil => ⟨[], rfl, .nil⟩
  | q :: D, r :: rows, .cons R t => by
    obtain ⟨ds, h1, h2⟩ := made_ok31 t
    obtain ⟨w, w3, W⟩ := R.t
    obtain ⟨z, hz⟩ := W.t
    refine ⟨QDeed.mk r.a r.b r.c r.d r.e z r.g :: ds, ?_, .cons ⟨R.sx, R.a, R.b, R.c, R.g, R.gl⟩ h2⟩
    rw [compM, hz 30 (by omega), Option.bind_some, h1]; rfl
structure BdX (M : Int) (L : Nat) (B C : Nat → Nat) : Prop where
  m0 : 0 ≤ M
  m9 : M ≤ 1000
  l : L ≤ 3
  b1 : ∀ d, 1 ≤ B d
  b : ∀ d, d < L → (M.toNat * (d + 1) + 1) * (1 + B (d + 1)) ≤ B d
  b0 : B 0 ≤ 1000
  c0 : 1 ≤ C 0
  c : ∀ e, e < L → C e * (M.toNat * (e + 1) + 1) ≤ C (e + 1)
  c9 : ∀ e, e ≤ L → C e ≤ 1000
variable {L : Nat} {B C : Nat → Nat}
end
def seenX (ys : List ItX) (z : ItX) (e : Nat) : Bool := ys.any fun y => decide (y.p.take (e + 1) = z.p.take (e + 1))
def NewC (ys : List ItX) (z : ItX) (d : Nat) (vs : List Int) : Nat := ((List.range (z.st.length - d)).map fun i => if seenX ys z (d + i) = true then 0 else (ExX z.st (i + 1) d vs).length).sum
theorem exX_len (st : List LpT) (n d : Nat) (vs : List Int) : (ExX st (n + 1) d vs).length = ((rgI (loV st d vs) (hiV st d vs)).map fun v => (ExX st n (d + 1) (vs ++ [v])).length).sum := by
  show ((rgI (loV st d vs) (hiV st d vs)).flatMap fun v => ExX st n (d + 1) (vs ++ [v])).length = _
  rw [List.length_flatMap]
theorem newC_succ {ys : List ItX} {z : ItX} {d : Nat} (h : d < z.st.length) (vs : List Int) : NewC ys z d vs = (if seenX ys z d = true then 0 else (rgI (loV z.st d vs) (hiV z.st d vs)).length) + ((rgI (loV z.st d vs) (hiV z.st d vs)).map fun v => NewC ys z (d + 1) (vs ++ [v])).sum := by
  unfold NewC
  rw [show z.st.length - d = (z.st.length - (d + 1)) + 1 by omega, List.range_succ_eq_map, List.map_cons, List.sum_cons, List.map_map]
  congr 1
  · show (if seenX ys z (d + 0) = true then 0 else (ExX z.st (0 + 1) d vs).length) = _
    rw [exX_len]
    have : ((rgI (loV z.st d vs) (hiV z.st d vs)).map fun v => (ExX z.st 0 (d + 1) (vs ++ [v])).length).sum = (rgI (loV z.st d vs) (hiV z.st d vs)).length := by
      have e := sum_const 1 (rgI (loV z.st d vs) (hiV z.st d vs))
      rw [Nat.mul_one] at e
      exact e
    rw [this]; rfl
  · rw [sum_swap (fun v i => if seenX ys z (d + 1 + i) = true then 0 else (ExX z.st (i + 1) (d + 1) (vs ++ [v])).length) (List.range (z.st.length - (d + 1))) (rgI (loV z.st d vs) (hiV z.st d vs))]
    refine sum_mapC fun i _ => ?_
    show (if seenX ys z (d + (i + 1)) = true then 0 else (ExX z.st (i + 1 + 1) d vs).length) = _
    rw [show d + (i + 1) = d + 1 + i by omega]
    by_cases hs : seenX ys z (d + 1 + i) = true
    · rw [if_pos hs]
      have : ((rgI (loV z.st d vs) (hiV z.st d vs)).map fun v => if seenX ys z (d + 1 + i) = true then 0 else (ExX z.st (i + 1) (d + 1) (vs ++ [v])).length).sum = ((rgI (loV z.st d vs) (hiV z.st d vs)).map fun _ => 0).sum := sum_mapC fun v _ => by rw [if_pos hs]
      rw [this, sum_const]; omega
    · rw [if_neg hs, exX_len]
      exact sum_mapC fun v _ => by rw [if_neg hs]
theorem newC_end {ys : List ItX} {z : ItX} {d : Nat} (h : z.st.length ≤ d) (vs : List Int) : NewC ys z d vs = 0 := by
  unfold NewC
  rw [show z.st.length - d = 0 by omega]; rfl
theorem newC_congr {ys ys' : List ItX} {z : ItX} {d : Nat} (h : ∀ i, seenX ys z (d + i) = seenX ys' z (d + i)) (vs : List Int) : NewC ys z d vs = NewC ys' z d vs := by
  unfold NewC
  exact sum_mapC fun i _ => by rw [h]
theorem seen_pf {y z : ItX} {d i : Nat} (h : y.p.take (d + i + 1) = z.p.take (d + i + 1)) : pfX d y = pfX d z := by
  unfold pfX
  have := congrArg (fun l : List Int => l[d]?) h
  simp only [List.getElem?_take] at this
  rw [if_pos (by omega), if_pos (by omega)] at this
  rw [List.getD_eq_getElem?_getD, List.getD_eq_getElem?_getD, this]
theorem seen_no {ys : List ItX} {z : ItX} {d : Nat} (h : ∀ y ∈ ys, pfX d y ≠ pfX d z) (i : Nat) : seenX ys z (d + i) = false := by
  unfold seenX
  rw [List.any_eq_false]
  exact fun y hy e => h y hy (seen_pf (of_decide_eq_true e))
section
variable {M : Int} {F : Nat → Str}
theorem InX.left {d : Nat} {ys zs : List ItX} (h : InX d (ys ++ zs)) : InX d ys := ⟨(List.pairwise_append.mp h.r).1, fun y hy => h.l y (List.mem_append_left _ hy)⟩
theorem cg_one {n d : Nat} {z : ItX} {vs : List Int} (S : StX M F z.st) (hd : d ≤ z.st.length) (hn : z.st.length < d + (n + 1)) (ih : ∀ v, d < z.st.length → CosX n (d + 1) [z] (vs ++ [v]) = NewC [] z (d + 1) (vs ++ [v]) + (ExX z.st (z.st.length - (d + 1)) (d + 1) (vs ++ [v])).length) : CgX n d vs [z] = NewC [] z d vs + (ExX z.st (z.st.length - d) d vs).length := by
  show (if z.st.length = d then 1 else ((rgI (loV z.st d vs) (hiV z.st d vs)).map fun v => 1 + CosX n (d + 1) [z] (vs ++ [v])).sum) = _
  by_cases e : z.st.length = d
  · rw [if_pos e, newC_end (by omega), show z.st.length - d = 0 by omega]; rfl
  · have lt : d < z.st.length := by omega
    rw [if_neg e, newC_succ lt, show z.st.length - d = (z.st.length - (d + 1)) + 1 by omega, exX_len]
    rw [sum_mapC (fun v _ => by rw [ih v lt] : ∀ v ∈ rgI (loV z.st d vs) (hiV z.st d vs), 1 + CosX n (d + 1) [z] (vs ++ [v]) = 1 + (NewC [] z (d + 1) (vs ++ [v]) + (ExX z.st (z.st.length - (d + 1)) (d + 1) (vs ++ [v])).length))]
    rw [sum_addN, sum_addN, sum_const, if_neg (by unfold seenX; simp)]
    omega
theorem cos_snoc : ∀ (n d : Nat) (ys : List ItX) (z : ItX) (vs : List Int), (∀ y ∈ ys ++ [z], StX M F y.st) → InX d (ys ++ [z]) → (∀ y ∈ ys ++ [z], y.st.length < d + n) → CosX n d (ys ++ [z]) vs = CosX n d ys vs + (NewC ys z d vs + (ExX z.st (z.st.length - d) d vs).length)
  | 0, d, ys, z, vs, S, I, hn => by
    have zm : z ∈ ys ++ [z] := List.mem_append_right _ (List.mem_singleton.mpr rfl)
    have := I.l z zm
    have := hn z zm
    omega
  | n + 1, d, ys, z, vs, S, I, hn => by
    have zm : z ∈ ys ++ [z] := List.mem_append_right _ (List.mem_singleton.mpr rfl)
    have Sz := S z zm
    have hd := I.l z zm
    have nz := hn z zm
    have I1 : InX d ys := I.left
    have G := I1.ok
    have Rz : ∀ y ∈ ys, RlX d y z := fun y hy => (List.pairwise_append.mp I.r).2.2 y hy z (List.mem_singleton.mpr rfl)
    have one : CgX n d vs [z] = NewC [] z d vs + (ExX z.st (z.st.length - d) d vs).length := cg_one Sz hd nz fun v lt => by
      have := cos_snoc n (d + 1) [] z (vs ++ [v]) (fun y hy => by rw [List.mem_singleton.mp hy]; exact Sz) ⟨List.pairwise_singleton _ _, fun y hy => by rw [List.mem_singleton.mp hy]; omega⟩ (fun y hy => by rw [List.mem_singleton.mp hy]; omega)
      rw [List.nil_append] at this
      rw [this]
      cases n with
      | zero => show 0 + _ = _; omega
      | succ n => show 0 + _ = _; omega
    have new : (∀ y ∈ ys, pfX d y ≠ pfX d z) → CgX n d vs [z] = NewC ys z d vs + (ExX z.st (z.st.length - d) d vs).length := fun h => by
      rw [one, newC_congr (ys := []) (ys' := ys)]
      intro i
      rw [seen_no h i]; rfl
    rw [CosX_succ, CosX_succ, grpX_snoc]
    rcases G.last with e | ⟨gp, y, g, e⟩
    · have ey : ys = [] := by rw [← G.fl, e]; rfl
      rw [e, stepG_nil, List.map_cons, List.sum_cons]
      rw [new (fun y hy => by rw [ey] at hy; cases hy)]
      show _ + 0 = 0 + _
      omega
    · have hyg : y :: g ∈ grpX (pfX d) ys := by rw [e]; exact List.mem_append_right _ (List.mem_singleton.mpr rfl)
      have fl : ∀ {g' : List ItX} {x : ItX}, g' ∈ grpX (pfX d) ys → x ∈ g' → x ∈ ys := fun {g' x} h1 h2 => by
        rw [← G.fl]; exact List.mem_flatten.mpr ⟨g', h1, h2⟩
      have yy : y ∈ ys := fl hyg List.mem_cons_self
      -- where a deed ahead lies
      have wh : ∀ x ∈ ys, x ∈ y :: g ∨ pfX d x < pfX d y := fun x hx => by
        rw [← G.fl, e] at hx
        obtain ⟨g', h1, h2⟩ := List.mem_flatten.mp hx
        rcases List.mem_append.mp h1 with m | m
        · right
          have := G.lt
          rw [e] at this
          exact (List.pairwise_append.mp this).2.2 g' m _ (List.mem_singleton.mpr rfl) x h2 y List.mem_cons_self
        · rw [List.mem_singleton.mp m] at h2; exact .inl h2
      have sm : ∀ x ∈ y :: g, pfX d x = pfX d y := fun x hx => G.sm _ hyg x hx y List.mem_cons_self
      rw [e, stepG_eq]
      split
      · rename_i hf
        have hm : y :: g ++ [z] ∈ grpX (pfX d) (ys ++ [z]) := by rw [grpX_snoc, e, stepG_eq, if_pos hf]; exact List.mem_append_right _ (List.mem_singleton.mpr rfl)
        rw [List.map_append, List.sum_append, List.map_append, List.sum_append, Nat.add_assoc]
        congr 1
        obtain ⟨y', r', e', ym, yall, hy⟩ := I.grp hm
        have ey : y = y' ∧ g ++ [z] = r' := by
          have : y :: (g ++ [z]) = y' :: r' := e'
          exact ⟨(List.cons.inj this).1, (List.cons.inj this).2⟩
        obtain ⟨rfl, er⟩ := ey
        rcases hy with ⟨h1, h2⟩ | ⟨h1, h2, h3⟩
        · rw [h2] at er
          simp at er
        · have zg : z ∈ y :: g ++ [z] := List.mem_append_right _ (List.mem_singleton.mpr rfl)
          have lz := h2.l z zg
          have lt : d < z.st.length := by omega
          obtain ⟨b1, b2⟩ := bd_congr Sz lt (h3 z zg) vs
          rw [List.map_cons, List.map_nil, List.sum_cons, List.sum_nil, List.map_cons, List.map_nil, List.sum_cons, List.sum_nil, Nat.add_zero, Nat.add_zero]
          show (if y.st.length = d then 1 else ((rgI (loV y.st d vs) (hiV y.st d vs)).map fun v => 1 + CosX n (d + 1) (y :: g ++ [z]) (vs ++ [v])).sum) = (if y.st.length = d then 1 else ((rgI (loV y.st d vs) (hiV y.st d vs)).map fun v => 1 + CosX n (d + 1) (y :: g) (vs ++ [v])).sum) + _
          rw [if_neg (by omega), if_neg (by omega), newC_succ lt, show z.st.length - d = (z.st.length - (d + 1)) + 1 by omega, exX_len, b1, b2]
          have rz := (Rz y yy).pf
          have rz : RlX (d + 1) y z := by
            rcases rz with q | ⟨_, q⟩
            · omega
            · exact q
          have sd : seenX ys z d = true := by
            unfold seenX
            rw [List.any_eq_true]
            exact ⟨y, yy, decide_eq_true rz.takes.2.2.2⟩
          rw [if_pos sd, Nat.zero_add, ← sum_addN]
          have sc : ∀ i, seenX ys z (d + 1 + i) = seenX (y :: g) z (d + 1 + i) := fun i => by
            unfold seenX
            rw [Bool.eq_iff_iff, List.any_eq_true, List.any_eq_true]
            refine ⟨fun ⟨x, hx, hq⟩ => ?_, fun ⟨x, hx, hq⟩ => ⟨x, fl hyg hx, hq⟩⟩
            rcases wh x hx with q | q
            · exact ⟨x, q, hq⟩
            · have := seen_pf (d := d) (i := i + 1) (y := x) (z := z) (by
                have := of_decide_eq_true hq
                rwa [show d + (i + 1) + 1 = d + 1 + i + 1 by omega])
              omega
          rw [← sum_addN]
          refine sum_mapC fun v _ => ?_
          rw [newC_congr sc]
          have rec_ := cos_snoc n (d + 1) (y :: g) z (vs ++ [v]) (fun x hx => S x (yall x hx)) h2 (fun x hx => by have := hn x (yall x hx); omega)
          rw [rec_]
          omega
      · rename_i hf
        rw [List.map_append, List.sum_append, List.map_cons, List.map_nil, List.sum_cons, List.sum_nil, Nat.add_zero, new fun x hx => ?_]
        have := (Rz y yy).pf
        rcases wh x hx with q | q
        · rw [sm x q]; exact hf
        · rcases this with q2 | ⟨q2, _⟩ <;> omega
end
theorem kvPut_same {κ ν : Type} [DecidableEq κ] {l : List (κ × ν)} {k : κ} {v : ν} (h : ∃ p ∈ l, p.1 = k) (hv : ∀ p ∈ l, p.1 = k → p.2 = v) : kvPut l k v = l := by
  unfold kvPut
  obtain ⟨p, hp, e⟩ := h
  rw [if_pos (List.any_eq_true.mpr ⟨p, hp, decide_eq_true e⟩)]
  refine (List.map_congr_left fun q hq => ?_).trans (List.map_id' l)
  show (if q.1 = k then (q.1, v) else q) = q
  split
  · rename_i h
    rw [← hv q hq h]
  · rfl
theorem kvPut_new {κ ν : Type} [DecidableEq κ] {l : List (κ × ν)} {k : κ} {v : ν} (h : ∀ p ∈ l, p.1 ≠ k) : kvPut l k v = l ++ [(k, v)] := by
  unfold kvPut
  rw [if_neg]
  rw [List.any_eq_true]
  rintro ⟨p, hp, e⟩
  exact h p hp (of_decide_eq_true e)
theorem lv_congr {M : Int} {F : Nat → Str} {s1 s2 : List LpT} (S1 : StX M F s1) : ∀ e, e ≤ s1.length → s1.take e = s2.take e → LvX s1 e = LvX s2 e
  | 0, _, _ => rfl
  | e + 1, h, t => by
    have t1 : s1.take e = s2.take e := by
      have := congrArg (List.take e) t
      rwa [List.take_take, List.take_take, Nat.min_eq_left (by omega)] at this
    show (LvX s1 e).flatMap _ = (LvX s2 e).flatMap _
    rw [lv_congr S1 e (by omega) t1]
    congr 1
    funext vs
    obtain ⟨c1, c2⟩ := bd_congr S1 (by omega) t vs
    rw [c1, c2]
theorem ex_lv (st : List LpT) (n : Nat) : ExX st n 0 [] = LvX st n := by
  have := lv_ex st n 0
  rw [Nat.zero_add] at this
  rw [← this]
  show _ = (([[]] : List (List Int)).flatMap _)
  simp
section
variable {M : Int} {F : Nat → Str}
structure DcX (ys : List ItX) (z : ItX) (m : Nat) (W : Dct (Tp Int) Int) : Prop where
  len : W.l.length ≤ 3 * ys.length + m
  fw : ∀ p ∈ W.l, ∃ y e, ((y ∈ ys ∧ e < y.st.length) ∨ (y = z ∧ e < m)) ∧ p.1.l = y.p.take (e + 1) ∧ p.2 = ((LvX y.st (e + 1)).length : Int)
  bw : ∀ y ∈ ys, ∀ e, e < y.st.length → ∃ p ∈ W.l, p.1.l = y.p.take (e + 1)
  bz : ∀ e, e < m → ∃ p ∈ W.l, p.1.l = z.p.take (e + 1)
theorem RlX.deep {y z : ItX} {m : Nat} (h : RlX 0 y z) (e : y.p.take (m + 1) = z.p.take (m + 1)) : m < y.st.length ∧ y.st.take (m + 1) = z.st.take (m + 1) := by
  obtain ⟨k, a, b, h1, h2, h3, h4, h5, h6, h7, h8⟩ := h
  have : m < k := by
    refine Nat.lt_of_not_le fun hk => ?_
    have := congrArg (fun l : List Int => l[k]?) e
    simp only [List.getElem?_take] at this
    rw [if_pos (by omega), if_pos (by omega), h6, h7] at this
    have := Option.some.inj this
    omega
  refine ⟨by omega, ?_⟩
  have := congrArg (List.take (m + 1)) h4
  rwa [List.take_take, List.take_take, Nat.min_eq_left (by omega)] at this
theorem DcX.step {ys : List ItX} {z : ItX} {m : Nat} {W : Dct (Tp Int) Int} (h : DcX ys z m W) (S : ∀ y ∈ ys ++ [z], StX M F y.st) (I : InX 0 (ys ++ [z])) (pl : ∀ y ∈ ys ++ [z], y.p.length = y.st.length + 1) (hm : m < z.st.length) :
    DcX ys z (m + 1) (W.put ⟨z.p.take (m + 1)⟩ ((LvX z.st (m + 1)).length : Int)) ∧ (W.put ⟨z.p.take (m + 1)⟩ ((LvX z.st (m + 1)).length : Int)).vals.sum = W.vals.sum + ((if seenX ys z (0 + m) = true then 0 else (ExX z.st (m + 1) 0 []).length : Nat) : Int) := by
  have zm : z ∈ ys ++ [z] := List.mem_append_right _ (List.mem_singleton.mpr rfl)
  have Rz : ∀ y ∈ ys, RlX 0 y z := fun y hy => (List.pairwise_append.mp I.r).2.2 y hy z (List.mem_singleton.mpr rfl)
  have zl := pl z zm
  -- what an entry at this way tells
  have at_ : ∀ p ∈ W.l, p.1.l = z.p.take (m + 1) → ∃ y ∈ ys, y.p.take (m + 1) = z.p.take (m + 1) ∧ p.2 = ((LvX z.st (m + 1)).length : Int) := fun p hp e => by
    obtain ⟨y, k, h1, h2, h3⟩ := h.fw p hp
    rw [h2] at e
    have el := congrArg List.length e
    rw [List.length_take, List.length_take] at el
    rcases h1 with ⟨hy, hk⟩ | ⟨rfl, hk⟩
    · have yl := pl y (List.mem_append_left _ hy)
      have : k = m := by omega
      subst this
      have d := (Rz y hy).deep e
      exact ⟨y, hy, e, by rw [h3, lv_congr (S y (List.mem_append_left _ hy)) (k + 1) (by omega) d.2]⟩
    · omega
  rw [ex_lv, Nat.zero_add]
  by_cases hs : seenX ys z m = true
  · have hs2 := hs
    unfold seenX at hs2
    obtain ⟨y, hy, e⟩ := List.any_eq_true.mp hs2
    have e := of_decide_eq_true e
    have d := (Rz y hy).deep e
    obtain ⟨p, hp, pe⟩ := h.bw y hy m d.1
    have same : W.put ⟨z.p.take (m + 1)⟩ ((LvX z.st (m + 1)).length : Int) = W := by
      show (⟨kvPut W.l _ _⟩ : Dct (Tp Int) Int) = W
      rw [kvPut_same ⟨p, hp, by show p.1 = _; rw [← e, ← pe]⟩ fun q hq qe => (at_ q hq (by rw [qe])).elim fun _ h => h.2.2]
    rw [same, if_pos hs]
    refine ⟨⟨by have := h.len; omega, fun p hp => ?_, h.bw, fun k hk => ?_⟩, by simp⟩
    · obtain ⟨y, k, h1, h2⟩ := h.fw p hp
      refine ⟨y, k, ?_, h2⟩
      rcases h1 with q | ⟨q1, q2⟩
      · exact .inl q
      · exact .inr ⟨q1, by omega⟩
    · by_cases hk2 : k = m
      · subst hk2; exact ⟨p, hp, by rw [pe, e]⟩
      · exact h.bz k (by omega)
  · have new : W.put ⟨z.p.take (m + 1)⟩ ((LvX z.st (m + 1)).length : Int) = ⟨W.l ++ [(⟨z.p.take (m + 1)⟩, ((LvX z.st (m + 1)).length : Int))]⟩ := by
      show (⟨kvPut W.l _ _⟩ : Dct (Tp Int) Int) = _
      rw [kvPut_new fun q hq qe => ?_]
      obtain ⟨y, hy, e, _⟩ := at_ q hq (by rw [qe])
      exact hs (List.any_eq_true.mpr ⟨y, hy, decide_eq_true e⟩)
    rw [new, if_neg hs]
    refine ⟨⟨by show (W.l ++ _).length ≤ _; rw [List.length_append, List.length_singleton]; have := h.len; omega, fun p hp => ?_, fun y hy e he => ?_, fun k hk => ?_⟩, ?_⟩
    · rcases List.mem_append.mp hp with q | q
      · obtain ⟨y, k, h1, h2⟩ := h.fw p q
        refine ⟨y, k, ?_, h2⟩
        rcases h1 with q | ⟨q1, q2⟩
        · exact .inl q
        · exact .inr ⟨q1, by omega⟩
      · rw [List.mem_singleton.mp q]
        exact ⟨z, m, .inr ⟨rfl, by omega⟩, rfl, rfl⟩
    · obtain ⟨p, hp, e2⟩ := h.bw y hy e he
      exact ⟨p, List.mem_append_left _ hp, e2⟩
    · by_cases hk2 : k = m
      · subst hk2; exact ⟨_, List.mem_append_right _ (List.mem_singleton.mpr rfl), rfl⟩
      · obtain ⟨p, hp, e2⟩ := h.bz k (by omega)
        exact ⟨p, List.mem_append_left _ hp, e2⟩
    · unfold Dct.vals
      show ((W.l ++ [_]).map _).sum = _
      rw [List.map_append, List.sum_append, List.map_cons, List.map_nil, List.sum_cons, List.sum_nil, Int.add_zero]
theorem DcX.next {ys : List ItX} {z z' : ItX} {W : Dct (Tp Int) Int} (h : DcX ys z z.st.length W) (l3 : z.st.length ≤ 3) : DcX (ys ++ [z]) z' 0 W := by
  refine ⟨by have := h.len; rw [List.length_append, List.length_singleton]; omega, fun p hp => ?_, fun y hy e he => ?_, fun e he => absurd he (Nat.not_lt_zero _)⟩
  · obtain ⟨y, k, h1, h2⟩ := h.fw p hp
    refine ⟨y, k, .inl ?_, h2⟩
    rcases h1 with ⟨q1, q2⟩ | ⟨rfl, q2⟩
    · exact ⟨List.mem_append_left _ q1, q2⟩
    · exact ⟨List.mem_append_right _ (List.mem_singleton.mpr rfl), q2⟩
  · rcases List.mem_append.mp hy with q | q
    · exact h.bw y q e he
    · rw [List.mem_singleton.mp q] at he ⊢
      exact h.bz e he
theorem newC_zero (ys : List ItX) (z : ItX) (n : Nat) (h : n ≤ z.st.length) : (((List.range (n + 1)).map fun i => if seenX ys z (0 + i) = true then 0 else (ExX z.st (i + 1) 0 []).length).sum : Nat) = ((List.range n).map fun i => if seenX ys z (0 + i) = true then 0 else (ExX z.st (i + 1) 0 []).length).sum + (if seenX ys z (0 + n) = true then 0 else (ExX z.st (n + 1) 0 []).length) := by
  rw [List.range_succ, List.map_append, List.sum_append, List.map_cons, List.map_nil, List.sum_cons, List.sum_nil, Nat.add_zero]
variable {L : Nat} {B C : Nat → Nat}
theorem counted_ok (X : BdX M L B C) (hF : NmF F) {D : List SpD} {rows : List RowK} (P : Paired (fun q r => RwX M F q.1 q.2 r) D rows) (pw : D.Pairwise fun a b => RelB b.1 b.2 a.1 a.2) (l6 : D.length ≤ 6) (hL : ∀ q ∈ D, q.1.length ≤ L) :
    ∃ lo : Int, m_counted rows = some (T2.mk lo (((D.map fun q => (LvX q.1 q.1.length).length).sum : Nat) : Int)) ∧ lo + ((D.map fun q => (LvX q.1 q.1.length).length).sum : Nat) = (CosX 6 0 (itsX 0 D) [] : Nat) := by
  have l3 := X.l
  suffices h : Ok (m_counted rows) fun t => t.b = ((D.map fun q => (LvX q.1 q.1.length).length).sum : Nat) ∧ t.a + t.b = (CosX 6 0 (itsX 0 D) [] : Nat) by
    obtain ⟨t, e, h1, h2⟩ := h
    exact ⟨t.a, by rw [e, ← h1], by rw [← h1]; exact h2⟩
  unfold m_counted
  refine .bindE rfl (.bindE rfl (.bind (Ok.loopN (Q := fun b : Int × Dct (Tp Int) Int => b.1 = ((D.map fun q => (LvX q.1 q.1.length).length).sum : Nat) ∧ b.2.vals.sum + b.1 = (CosX 6 0 (itsX 0 D) [] : Nat))
    (J := fun b rest => ∃ Dp Dr, D = Dp ++ Dr ∧ Paired (fun (q : SpD) r => RwX M F q.1 q.2 r) Dr rest ∧ b.1 = ((Dp.map fun q => (LvX q.1 q.1.length).length).sum : Nat) ∧ b.2.vals.sum + b.1 = (CosX 6 0 (itsX 0 Dp) [] : Nat) ∧ ∀ z, DcX (itsX 0 Dp) z 0 b.2)
    ⟨[], D, rfl, P, rfl, rfl, fun z => ⟨Nat.zero_le _, (fun _ h => nomatch h), (fun _ h => nomatch h), fun e he => absurd he (Nat.not_lt_zero _)⟩⟩ (fun b r rest ⟨Dp, Dr, e1, P1, b1, b2, b3⟩ => ?_) fun b ⟨Dp, Dr, e1, P1, b1, b2, b3⟩ => ?_) fun b ⟨h1, h2⟩ => .ret ⟨h1, h2⟩))
  · cases Dr with
    | nil => cases P1
    | cons q Dr =>
    obtain ⟨R, P2⟩ : RwX M F q.1 q.2 r ∧ Paired (fun (q : SpD) r => RwX M F q.1 q.2 r) Dr rest := by cases P1 with | cons a b => exact ⟨a, b⟩
    have e2 : D = (Dp ++ [q]) ++ Dr := by rw [e1]; simp
    have qD : q ∈ D := by rw [e1]; exact List.mem_append_right _ List.mem_cons_self
    have lq := hL q qD
    have pw2 : (Dp ++ [q]).Pairwise fun a b => RelB b.1 b.2 a.1 a.2 := by rw [e2] at pw; exact (List.pairwise_append.mp pw).1
    have I : InX 0 (itsX 0 (Dp ++ [q])) := its_inX pw2
    have facts : ∀ y ∈ itsX 0 (Dp ++ [q]), StX M F y.st ∧ y.p.length = y.st.length + 1 ∧ y.st.length ≤ L := fun y hy => by
      obtain ⟨j, h1, _⟩ := its_get hy
      have h2 : D[j]? = some (y.st, y.p) := by
        rw [e2, List.getElem?_append_left (List.getElem?_eq_some_iff.mp h1).1]; exact h1
      obtain ⟨r', _, R'⟩ := paired_getL P h2
      exact ⟨R'.sx, R'.gl, hL _ (List.mem_of_getElem? h2)⟩
    rw [its_app] at I facts
    have dl : Dp.length + 1 ≤ 6 := by
      have := congrArg List.length e2
      simp only [List.length_append, List.length_singleton] at this
      omega
    generalize hz : (⟨0 + (Dp.length : Int), q.1, q.2⟩ : ItX) = z at I facts
    have zs : z.st = q.1 := by rw [← hz]
    have zp : z.p = q.2 := by rw [← hz]
    have lb := fun e (he : e ≤ q.1.length) => lv_len X.m0 hF R.sx C X.c0 (fun e he => X.c e (by omega)) e he
    have ll := levels_ok31 X.m0 hF R (fun e he => Nat.le_trans (lb e he) (X.c9 e (by omega)))
    have la : L2.atI ((List.range (q.1.length + 1)).map (lvT q.1)) (-(1 : Int)) = some (lvT q.1 q.1.length) := by
      rw [List.range_succ, List.map_append]
      exact (by rw [show (-(1 : Int)) = -1 from rfl, atI_last (by simp)]; simp)
    have al : r.a.l.length = q.1.length := by rw [R.a, List.length_map]
    refine .bindE ll (.bindE rfl (.bindE la (.bindE rfl ?_)))
    rw [al]
    refine .bindE (rngG_n (by have := sizeLine; omega)) ?_
    refine .bind (Ok.range (J := fun k (W : Dct (Tp Int) Int) => k ≤ q.1.length → DcX (itsX 0 Dp) z k W ∧ W.vals.sum = b.2.vals.sum + (((List.range k).map fun i => if seenX (itsX 0 Dp) z (0 + i) = true then 0 else (ExX z.st (i + 1) 0 []).length).sum : Nat)) (Q := fun W => DcX (itsX 0 Dp) z q.1.length W ∧ W.vals.sum = b.2.vals.sum + (NewC (itsX 0 Dp) z 0 [] : Nat)) (fun _ => ⟨b3 z, by simp⟩) (fun k W hk hW => ?_) fun W hW => ?_) fun W ⟨hW1, hW2⟩ => .ret ?_
    · obtain ⟨w1, w2⟩ := hW (by omega)
      obtain ⟨s1, s2⟩ := w1.step (fun y hy => (facts y hy).1) I (fun y hy => (facts y hy).2.1) (by rw [zs]; exact hk)
      have g1 : L2.atI ((List.range (q.1.length + 1)).map (lvT q.1)) ((k : Int) + 1) = some (lvT q.1 (k + 1)) := atI_at (k := k + 1) (by rw [List.getElem?_map, List.getElem?_range (by omega)]; rfl)
      have wl := w1.len
      rw [its_len] at wl
      refine .bindE g1 ?_
      have hc : cut r.g.l none (some ((k : Int) + 1)) = z.p.take (k + 1) := by
        rw [R.g, zp, show ((k : Int) + 1) = ((k + 1 : Nat) : Int) from rfl, cut_to (by omega), Int.toNat_natCast]
      rw [hc]
      refine .bindE (dputG_p (by have : (1000 : Nat) ≤ sizeLine := by decide
                                 omega)) (.ret fun _ => ?_)
      have ev : ((lvT q.1 (k + 1)).length : Int) = ((LvX z.st (k + 1)).length : Int) := by
        unfold lvT; rw [List.length_map, zs]
      rw [ev]
      refine ⟨s1, ?_⟩
      rw [s2, w2, newC_zero _ _ _ (by rw [zs]; omega)]
      omega
    · obtain ⟨w1, w2⟩ := hW (Nat.le_refl _)
      refine ⟨w1, ?_⟩
      rw [w2]
      unfold NewC
      rw [zs, Nat.sub_zero]
    · refine ⟨Dp ++ [q], Dr, e2, P2, ?_, ?_, fun z' => ?_⟩
      · show b.1 + ((lvT q.1 q.1.length).length : Int) = _
        unfold lvT
        rw [b1, List.length_map, List.map_append, List.sum_append, List.map_cons, List.map_nil, List.sum_cons, List.sum_nil, Nat.add_zero]; rfl
      · show W.vals.sum + (b.1 + ((lvT q.1 q.1.length).length : Int)) = _
        rw [its_app, hz, cos_snoc 6 0 (itsX 0 Dp) z [] (fun y hy => (facts y hy).1) I (fun y hy => by have := (facts y hy).2.2; omega), hW2]
        unfold lvT
        rw [Nat.sub_zero, ex_lv, List.length_map, zs]
        omega
      · rw [its_app, hz]
        exact (show DcX (itsX 0 Dp) z z.st.length W by rw [zs]; exact hW1).next (by rw [zs]; omega)
  · cases P1
    rw [List.append_nil] at e1
    subst e1
    exact ⟨b1, b2⟩
end
section
variable {M : Int} {F : Nat → Str}
theorem turns_all (hF : NmF F) {D : List SpD} {ds : List QDeed} (P : Paired (fun q d => DdX M F q.1 q.2 d) D ds) (pw : D.Pairwise fun a b => RelB b.1 b.2 a.1 a.2) (ne : D ≠ []) (l6 : D.length ≤ 6) (sz : Int) {b : Int} (b0 : 0 ≤ b) (b9 : b ≤ 90000) :
    ((CosX 6 0 (itsX 0 D) [] : Int) ≤ b → m_turns (QProgram.mk sz ds) b = some (Rs.v ((TurX 6 0 (itsX 0 D) []).map TnX))) ∧ (b < (CosX 6 0 (itsX 0 D) [] : Int) → m_turns (QProgram.mk sz ds) b = some (Rs.x Xn.TooMany)) := by
  have Sx : ∀ y ∈ itsX 0 D, y.st.length ≤ 3 := fun y hy => by
    obtain ⟨j, h1, _⟩ := its_get hy
    obtain ⟨d, _, r⟩ := paired_getL P h1
    exact r.sx.l
  have I : InX 0 (itsX 0 D) := its_inX pw
  have nei : itsX 0 D ≠ [] := fun e => by
    have := congrArg List.length e
    rw [its_len] at this
    exact ne (List.length_eq_zero_iff.mp this)
  obtain ⟨g1, g2⟩ := go_all hF 6 0 (enumL ds) (itsX 0 D) [] ⟨b, []⟩ (its_rel P) I (fun y hy => by have := Sx y hy; omega) nei (by rw [its_len]; omega) rfl ⟨b0, b9, by show ((0 : Nat) : Int) + b ≤ _; omega⟩
  refine ⟨fun h => ?_, fun h => ?_⟩
  · unfold m_turns
    refine Ok.eq (.bindE (x := ⟨b, []⟩) rfl (.bindE (g1 h) ?_))
    refine .ret ?_
    show Rs.v (advX ⟨b, []⟩ _ _).turns = _
    unfold advX; simp
  · obtain ⟨w', e⟩ := g2 h
    unfold m_turns
    refine Ok.eq (.bindE (x := ⟨b, []⟩) rfl (.bindE e ?_))
    exact .ret rfl
theorem plain_ok : m_plain ("TooMany" : Str) = some true := by decide +kernel
theorem refused_y {p : QProgram} {b : Int} (h : m_turns p b = some (Rs.x Xn.TooMany)) : m_refused p b = some true := by
  unfold m_refused
  rw [h, Option.bind_some]
  dsimp only
  rw [if_pos rfl, plain_ok]; rfl
theorem told_y {p : QProgram} {b : Int} {l : List (T2 Int (Tp Int))} (h : m_turns p b = some (Rs.v l)) {n : Int} (hn : (l.length : Int) = n) : m_told p b n = some true := by
  unfold m_told
  rw [h, Option.bind_some]
  dsimp only
  rw [decide_eq_true hn]
variable {L : Nat} {B C : Nat → Nat}
theorem rest_ok (X : BdX M L B C) (hF : NmF F) {ns : List Int} {pick sz : Int} {rows : List RowK} {D : List SpD} {t1 : Int} (P : Paired (fun q r => RwX M F q.1 q.2 r) D rows) (pw : D.Pairwise fun a b => RelB b.1 b.2 a.1 a.2) (ne : D ≠ []) (l6 : D.length ≤ 6) (hL : ∀ q ∈ D, q.1.length ≤ L) {c0 : Int} (e0 : m_cell ns 0 = some c0) (ep : m_mixed c0 3 = some pick) (es : m_size ns = some sz) (hc : ¬ (decide ((pick % (4 : Int)) = (1 : Int))) = true) (h1 : m_many ns = some t1) (h2 : m_rows ns t1 = some rows) : m_law ns = some true := by
  have rl := Paired.length P
  obtain ⟨ds, d1, d2⟩ := made_ok31 P
  have dl := Paired.length d2
  have s1 : (1000 : Nat) ≤ sizeLine := by decide
  have hm : m_made sz rows = some (T2.mk sz ds) := by
    unfold m_made compG
    rw [if_pos (by omega), d1]; rfl
  have I : InX 0 (itsX 0 D) := its_inX pw
  have Sx : ∀ y ∈ itsX 0 D, StX M F y.st := fun y hy => by
    obtain ⟨j, h1, _⟩ := its_get hy
    obtain ⟨r, _, R⟩ := paired_getL P h1
    exact R.sx
  have Lx : ∀ y ∈ itsX 0 D, y.st.length ≤ L := fun y hy => by
    obtain ⟨j, h1, _⟩ := its_get hy
    exact hL _ (List.mem_of_getElem? h1)
  have cl := cos_le X.m0 hF B L X.b1 X.b 6 0 (itsX 0 D) [] Sx I (fun _ _ => .nil) Lx
  rw [its_len] at cl
  have c6 : D.length * B 0 ≤ 6 * 1000 := Nat.mul_le_mul l6 X.b0
  have x3 := X.l
  obtain ⟨lo, k1, k2⟩ := counted_ok X hF P pw l6 hL
  have len : (TurX 6 0 (itsX 0 D) []).length = (D.map fun q => (LvX q.1 q.1.length).length).sum := by
    rw [tur_len 6 0 _ [] Sx I rfl fun y hy => ?_]
    · have := its_map (f := fun st _ => (ExX st (st.length - 0) 0 []).length) (D := D) (k := 0)
      rw [this]
      exact sum_mapC fun q _ => by rw [Nat.sub_zero, ex_all]
    · have := Lx y hy
      omega
  have T := fun b (b0 : 0 ≤ b) (b9 : b ≤ 90000) => turns_all hF d2 pw ne l6 sz (b := b) b0 b9
  generalize hN : (CosX 6 0 (itsX 0 D) [] : Nat) = N at k2 T cl
  generalize hD : (D.map fun q => (LvX q.1 q.1.length).length).sum = dn at k1 k2 len
  have told : ∀ b : Int, (N : Int) ≤ b → b ≤ 90000 → m_told (QProgram.mk sz ds) b dn = some true := fun b h1 h2 => told_y ((T b (by omega) h2).1 h1) (by rw [List.length_map, len])
  have refd : ∀ b : Int, 0 ≤ b → b < (N : Int) → m_refused (QProgram.mk sz ds) b = some true := fun b h1 h2 => refused_y ((T b h1 (by omega)).2 h2)
  unfold m_law
  refine Ok.eq (.bindE e0 (.bindE ep (.bindE rfl (.bindE es (.bindE rfl ?_)))))
  rw [if_neg hc]
  refine .bindE h1 (.bindE h2 (.bindE rfl (.bindE hm (.bindE k1 (.bindE rfl (.bindE rfl ?_))))))
  have e1 : lo + (dn : Int) = (N : Int) := k2
  dsimp only
  rw [e1]
  refine .bind (P := fun v : Int => v ≤ 6060) ((atI_mem (Int.emod_nonneg _ (show (7 : Int) ≠ 0 by decide)) (show _ < (7 : Int) from Int.emod_lt_of_pos _ (by decide))).mono fun v hv => ?_) fun v hv => .bindE rfl ?_
  · have hv := hv.1
    have := Int.emod_lt_of_pos (pick / 48) (show (0 : Int) < 61 by decide)
    simp only [List.mem_cons, List.not_mem_nil, or_false] at hv
    omega
  have bd : 0 ≤ (if v > 0 then v else 0) ∧ (if v > 0 then v else 0) ≤ 6060 := by split <;> omega
  generalize (if v > 0 then v else 0) = b at bd
  refine .bindE (x := false) ?_ ?_
  · by_cases h : b < (N : Int)
    · rw [if_pos (decide_eq_true h), refd b bd.1 h]; rfl
    · rw [if_neg (fun z => h (of_decide_eq_true z))]
  refine .bindE (x := false) ?_ ?_
  · rw [if_neg Bool.false_ne_true]
    by_cases h : (N : Int) ≤ b
    · rw [if_pos (decide_eq_true h), told b h (by omega)]; rfl
    · rw [if_neg (fun z => h (of_decide_eq_true z))]; rfl
  rw [if_neg Bool.false_ne_true]
  refine .bindE (told N (Int.le_refl _) (by omega)) ?_
  rw [if_neg (by decide)]
  refine .bindE (x := true) ?_ (.ret rfl)
  by_cases h : (N : Int) = 0
  · rw [if_pos (decide_eq_true h)]
  · rw [if_neg (fun z => h (of_decide_eq_true z)), refd (N - 1) (by omega) (by omega), Option.bind_some, if_pos rfl, told N (Int.le_refl _) (by omega)]; rfl
end
theorem far_cos {st : List LpT} {p : List Int} {t : LpT} {r : List LpT} (e : st = t :: r) (h1 : t.b.a = ("" : Str)) (h2 : t.c.a = ("" : Str)) (h : t.b.b + 1000 ≤ t.c.b) : 1000 < CosX 6 0 (itsX 0 [(st, p)]) [] := by
  show 1000 < CosX (5 + 1) 0 [(⟨0, st, p⟩ : ItX)] []
  rw [CosX_succ]
  show 1000 < CgX 5 0 [] [(⟨0, st, p⟩ : ItX)] + 0
  have hl : st.length ≠ 0 := by rw [e]; simp
  show 1000 < (if st.length = 0 then 1 else ((rgI (loV st 0 []) (hiV st 0 [])).map fun v => 1 + CosX 5 1 [(⟨0, st, p⟩ : ItX)] ([] ++ [v])).sum) + 0
  rw [if_neg hl]
  have a : ((rgI (loV st 0 []) (hiV st 0 [])).map fun _ => 1).sum ≤ ((rgI (loV st 0 []) (hiV st 0 [])).map fun v => 1 + CosX 5 1 [(⟨0, st, p⟩ : ItX)] ([] ++ [v])).sum := sum_mapL fun v _ => by omega
  rw [sum_const, rgI_len, Nat.mul_one] at a
  have e0 : st[0]? = some t := by rw [e]; rfl
  have u0 : un st ("" : Str) = 0 := by unfold un; rw [if_pos rfl]
  have l1 : loV st 0 [] = t.b.b := by
    unfold loV; rw [e0]; dsimp only
    unfold stV; rw [h1, u0]; show 0 + t.b.b = _; omega
  have l2 : hiV st 0 [] = t.c.b := by
    unfold hiV; rw [e0]; dsimp only
    unfold stV; rw [h2, u0]; show 0 + t.c.b = _; omega
  rw [l1, l2] at a
  rw [l1, l2]
  omega
theorem far_ok (ns : List Int) {c1 : Int} (ec : m_cell ns 1 = some c1) {F : Nat → Str} (hn : ∀ e : Nat, e ≤ 2 → m_name c1 (e : Int) = some (F e)) : Ok (m_far ns) fun r => ∃ q : SpD, RwX 200000000000000000 F q.1 q.2 r ∧ ∃ t s, q.1 = t :: s ∧ t.b.a = ("" : Str) ∧ t.c.a = ("" : Str) ∧ t.b.b + 1000 ≤ t.c.b := by
  unfold m_far
  have n0 : m_name c1 (0 : Int) = some (F 0) := hn 0 (by decide)
  have n1 : m_name c1 (1 : Int) = some (F 1) := hn 1 (by decide)
  refine .bind (cell_ok ns (by decide) (by decide)) fun c _ => .bindE rfl (.bindE ec (.bindE n0 (.bindE ec (.bindE n1 (.bindE rfl (.bindE rfl (.bindE rfl ?_))))))) 
  refine .bind (mixed_ok _ _) fun v hv => .bindE rfl (.bindE rfl (.bind (mixed_ok _ _) fun u hu => .bindE rfl ?_))
  have v0 := Int.emod_nonneg v (show (2 : Int) ≠ 0 by decide)
  have v1 := Int.emod_lt_of_pos v (show (0 : Int) < 2 by decide)
  have u0 := Int.emod_nonneg u (show (4 : Int) ≠ 0 by decide)
  have u1 := Int.emod_lt_of_pos u (show (0 : Int) < 4 by decide)
  have x0 := Int.emod_nonneg (c / 7) (show (100000000000000000 : Int) ≠ 0 by decide)
  have x1 := Int.emod_lt_of_pos (c / 7) (show (0 : Int) < 100000000000000000 by decide)
  generalize hlow : (c % (100000000000000000 : Int)) - (10000000000000000 : Int) = low
  generalize hx : (c / 7) % (100000000000000000 : Int) = x at x0 x1
  have dd : v % 2 = 0 ∨ v % 2 = 1 := by omega
  have S0 : StX 200000000000000000 F [] := ⟨by decide, fun j t h => by simp at h⟩
  have L0 : LpX 200000000000000000 F [] ⟨F 0, ⟨"", low⟩, ⟨"", low + 1000000000000000 + x⟩, low, 0⟩ := ⟨rfl, ⟨Int.le_refl 0, by show (0 : Int) < 3; decide⟩, fun t0 h => by simp at h, ⟨⟨"", 0⟩, List.mem_cons_self, rfl, by dsimp only; omega, by dsimp only; omega⟩, ⟨⟨"", 0⟩, List.mem_cons_self, rfl, by dsimp only; omega, by dsimp only; omega⟩⟩
  have S1 := S0.snoc (by decide) L0
  have L1 : LpX 200000000000000000 F ([] ++ [⟨F 0, ⟨"", low⟩, ⟨"", low + 1000000000000000 + x⟩, low, 0⟩]) ⟨F 1, ⟨F 0, 1⟩, ⟨F 0, u % 4⟩, low, 0⟩ := ⟨rfl, ⟨Int.le_refl 0, by show (0 : Int) < 3; decide⟩, fun t0 h => by cases h; rfl, ⟨⟨F 0, low⟩, List.mem_cons_of_mem _ (List.mem_singleton.mpr rfl), rfl, by dsimp only; omega, by dsimp only; omega⟩, ⟨⟨F 0, low⟩, List.mem_cons_of_mem _ (List.mem_singleton.mpr rfl), rfl, by dsimp only; omega, by dsimp only; omega⟩⟩
  have S2 := S1.snoc (by show 1 < 3; decide) L1
  have tt : ∃ w, w ≤ 3 ∧ RdX w (UShape.v_n 1) := ⟨1, by decide, Nat.le_refl _, .c_Number 1, fun n hn => by
    cases n with
    | zero => omega
    | succ n => rfl⟩
  rcases dd with e | e
  · rw [e]
    refine .bindE (mulT_p ⟨by decide, by decide, by decide, by simp⟩) (.ret ⟨([⟨F 0, ⟨"", low⟩, ⟨"", low + 1000000000000000 + x⟩, low, 0⟩], [0, 0]), ⟨S1, rfl, rfl, rfl, rfl, rfl, tt⟩, _, _, rfl, rfl, rfl, by dsimp only; omega⟩)
  · rw [e]
    refine .bindE (mulT_p ⟨by decide, by decide, by decide, by simp⟩) (.ret ⟨([⟨F 0, ⟨"", low⟩, ⟨"", low + 1000000000000000 + x⟩, low, 0⟩, ⟨F 1, ⟨F 0, 1⟩, ⟨F 0, u % 4⟩, low, 0⟩], [0, 0, 0]), ⟨S2, rfl, rfl, rfl, rfl, rfl, tt⟩, _, _, rfl, rfl, rfl, by dsimp only; omega⟩)
theorem bd3 : BdX 3 3 (fun d => match d with | 0 => 592 | 1 => 147 | 2 => 20 | _ => 1) (fun e => match e with | 0 => 1 | 1 => 4 | 2 => 28 | _ => 280) where
  m0 := by decide
  m9 := by decide
  l := by decide
  b1 d := by match d with
    | 0 => decide
    | 1 => decide
    | 2 => decide
    | d + 3 => exact Nat.le_refl 1
  b d h := by
    have : d = 0 ∨ d = 1 ∨ d = 2 := by omega
    rcases this with h | h | h <;> subst h <;> decide
  b0 := by decide
  c0 := by decide
  c d h := by
    have : d = 0 ∨ d = 1 ∨ d = 2 := by omega
    rcases this with h | h | h <;> subst h <;> decide
  c9 d h := by
    have : d = 0 ∨ d = 1 ∨ d = 2 ∨ d = 3 := by omega
    rcases this with h | h | h | h <;> subst h <;> decide
theorem law_true (ns : List Int) (_ : ns.length ≤ 63) : m_law ns = some true := by
  obtain ⟨hs, eh, hh⟩ := heads_ok2 ns
  obtain ⟨c0, e0, _⟩ := cell_ok ns (k := 0) (by decide) (by decide)
  obtain ⟨pick, ep, _⟩ := mixed_ok c0 3
  obtain ⟨c1, ec, _⟩ := cell_ok ns (k := 1) (by decide) (by decide)
  obtain ⟨F, hF, hn⟩ := name_fn c1
  have hsz : Ok (m_size ns) fun _ => True := by
    unfold m_size
    exact .bind (cell_ok ns (by decide) (by decide)) fun c _ => .bindE rfl (.bind (mixed_ok _ _) fun v _ => .bind (atI_mem (Int.emod_nonneg _ (by decide)) (Int.emod_lt_of_pos _ (by decide))) fun s _ => .ret trivial)
  obtain ⟨sz, es, _⟩ := hsz
  by_cases hc : (decide ((pick % (4 : Int)) = (1 : Int))) = true
  · obtain ⟨r, hr, q, R, t, s, f1, f2, f3, f4⟩ := far_ok ns ec hn
    obtain ⟨ds, d1, d2⟩ := made_ok31 (D := [q]) (rows := [r]) (.cons R .nil)
    have hm : m_made sz [r] = some (T2.mk sz ds) := by
      unfold m_made compG
      rw [if_pos (by show 1 ≤ sizeLine; decide), d1]; rfl
    have b0 := Int.emod_nonneg (pick / 4) (show (61 : Int) ≠ 0 by decide)
    have b1 := Int.emod_lt_of_pos (pick / 4) (show (0 : Int) < 61 by decide)
    have fc := far_cos (p := q.2) f1 f2 f3 f4
    have ft := (turns_all hF d2 (List.pairwise_singleton _ _) (List.cons_ne_nil _ _) (by show 1 ≤ 6; decide) sz (b := pick / 4 % 61) b0 (by omega)).2 (by
      have : ((1000 : Nat) : Int) < (CosX 6 0 (itsX 0 [(q.1, q.2)]) [] : Nat) := Int.ofNat_lt.mpr fc
      show _ < ((CosX 6 0 (itsX 0 [(q.1, q.2)]) [] : Nat) : Int)
      omega)
    unfold m_law
    refine Ok.eq (.bindE e0 (.bindE ep (.bindE rfl (.bindE es (.bindE rfl ?_)))))
    rw [if_pos hc]
    exact .bindE hr (.bindE hm (.bindE (refused_y ft) (.ret rfl)))
  have many : Ok (m_many ns) fun t => ∃ n : Nat, t = (n : Int) ∧ 1 ≤ n ∧ n ≤ 4 := by
    unfold m_many
    refine .bind (cell_ok ns (by decide) (by decide)) fun c _ => .bind (mixed_ok _ _) fun v hv => .bind (atI_mem (Int.emod_nonneg _ (by decide)) (Int.emod_lt_of_pos _ (by decide))) fun t ⟨ht, _⟩ => .ret ?_
    have hb : 1 ≤ t ∧ t ≤ 4 := by
      simp only [List.mem_cons, List.not_mem_nil, or_false] at ht
      omega
    exact ⟨t.toNat, by omega, by omega, by omega⟩
  obtain ⟨t1, h1, n, rfl, n1, n4⟩ := many
  obtain ⟨rows, h2, D, rl, P, pw⟩ := rows_ok31 ns (n := n) (by omega) eh hh ec hn
  have dl := Paired.length P
  have ne : D ≠ [] := fun e => by rw [e] at dl; simp at dl; omega
  have hL : ∀ q ∈ D, q.1.length ≤ 3 := fun q hq => by
    obtain ⟨j, hj⟩ := List.mem_iff_getElem?.mp hq
    obtain ⟨r, _, R⟩ := paired_getL P hj
    exact R.sx.l
  exact rest_ok bd3 hF P pw ne (by omega) hL e0 ep es hc h1 h2
structure Txt (K : PySem.W.Frag) (mg : Str → Option Value) where
  d_cell : FuncData
  F_cell : FunD K "_law_cell" "_law_cell" (defArgs s_cell) (defBody s_cell) (defScope s_cell) [] [] (He.fAd K ("_law_cell", none)) d_cell
  g_cell : mg "_law_cell" = some (.ref (He.fAd K ("_law_cell", none)))
  d_mixed : FuncData
  F_mixed : FunD K "_law_mixed" "_law_mixed" (defArgs s_mixed) (defBody s_mixed) (defScope s_mixed) [] [] (He.fAd K ("_law_mixed", none)) d_mixed
  g_mixed : mg "_law_mixed" = some (.ref (He.fAd K ("_law_mixed", none)))
  d_size : FuncData
  F_size : FunD K "_law_size" "_law_size" (defArgs s_size) (defBody s_size) (defScope s_size) [] [] (He.fAd K ("_law_size", none)) d_size
  g_size : mg "_law_size" = some (.ref (He.fAd K ("_law_size", none)))
  d_name : FuncData
  F_name : FunD K "_law_name" "_law_name" (defArgs s_name) (defBody s_name) (defScope s_name) [] [] (He.fAd K ("_law_name", none)) d_name
  g_name : mg "_law_name" = some (.ref (He.fAd K ("_law_name", none)))
  d_far : FuncData
  F_far : FunD K "_law_far" "_law_far" (defArgs s_far) (defBody s_far) (defScope s_far) [] [] (He.fAd K ("_law_far", none)) d_far
  g_far : mg "_law_far" = some (.ref (He.fAd K ("_law_far", none)))
  d_Number_init : FuncData
  F_Number_init : FunD K "__init__" "Number.__init__" (defArgs s_Number_init) (defBody s_Number_init) (defScope s_Number_init) [] [] (He.fAd K ("Number", some "__init__")) d_Number_init
  d_Value_init : FuncData
  F_Value_init : FunD K "__init__" "Value.__init__" (defArgs s_Value_init) (defBody s_Value_init) (defScope s_Value_init) [] [] (He.fAd K ("Value", some "__init__")) d_Value_init
  d_Cell_init : FuncData
  F_Cell_init : FunD K "__init__" "Cell.__init__" (defArgs s_Cell_init) (defBody s_Cell_init) (defScope s_Cell_init) [] [] (He.fAd K ("Cell", some "__init__")) d_Cell_init
  d_Joined_init : FuncData
  F_Joined_init : FunD K "__init__" "Joined.__init__" (defArgs s_Joined_init) (defBody s_Joined_init) (defScope s_Joined_init) [] [] (He.fAd K ("Joined", some "__init__")) d_Joined_init
  d_object : FuncData
  F_object : FunD K "_law_object" "_law_object" (defArgs s_object) (defBody s_object) (defScope s_object) [] [] (He.fAd K ("_law_object", none)) d_object
  g_object : mg "_law_object" = some (.ref (He.fAd K ("_law_object", none)))
  d_Deed_init : FuncData
  F_Deed_init : FunD K "__init__" "Deed.__init__" (defArgs s_Deed_init) (defBody s_Deed_init) (defScope s_Deed_init) [] [] (He.fAd K ("Deed", some "__init__")) d_Deed_init
  d_Program_init : FuncData
  F_Program_init : FunD K "__init__" "Program.__init__" (defArgs s_Program_init) (defBody s_Program_init) (defScope s_Program_init) [] [] (He.fAd K ("Program", some "__init__")) d_Program_init
  d_made : FuncData
  F_made : FunD K "_law_made" "_law_made" (defArgs s_made) (defBody s_made) (defScope s_made) [] [] (He.fAd K ("_law_made", none)) d_made
  g_made : mg "_law_made" = some (.ref (He.fAd K ("_law_made", none)))
  d_Walk_init : FuncData
  F_Walk_init : FunD K "__init__" "Walk.__init__" (defArgs s_Walk_init) (defBody s_Walk_init) (defScope s_Walk_init) [] [] (He.fAd K ("Walk", some "__init__")) d_Walk_init
  d_put_apart : FuncData
  F_put_apart : FunD K "put_apart" "put_apart" (defArgs s_put_apart) (defBody s_put_apart) (defScope s_put_apart) [] [] (He.fAd K ("put_apart", none)) d_put_apart
  g_put_apart : mg "put_apart" = some (.ref (He.fAd K ("put_apart", none)))
  d_Walk_spend : FuncData
  F_Walk_spend : FunD K "spend" "Walk.spend" (defArgs s_Walk_spend) (defBody s_Walk_spend) (defScope s_Walk_spend) [] [] (He.fAd K ("Walk", some "spend")) d_Walk_spend
  me_Walk_spend : Meth K (He.ga K "Walk") "spend" (He.fAd K ("Walk", some "spend"))
  d_Walk_note : FuncData
  F_Walk_note : FunD K "note" "Walk.note" (defArgs s_Walk_note) (defBody s_Walk_note) (defScope s_Walk_note) [] [] (He.fAd K ("Walk", some "note")) d_Walk_note
  me_Walk_note : Meth K (He.ga K "Walk") "note" (He.fAd K ("Walk", some "note"))
  d_placed : FuncData
  F_placed : FunD K "placed" "placed" (defArgs s_placed) (defBody s_placed) (defScope s_placed) [] [] (He.fAd K ("placed", none)) d_placed
  g_placed : mg "placed" = some (.ref (He.fAd K ("placed", none)))
  d_bounds_of : FuncData
  F_bounds_of : FunD K "bounds_of" "bounds_of" (defArgs s_bounds_of) (defBody s_bounds_of) (defScope s_bounds_of) [] [] (He.fAd K ("bounds_of", none)) d_bounds_of
  g_bounds_of : mg "bounds_of" = some (.ref (He.fAd K ("bounds_of", none)))
  d_go : FuncData
  F_go : FunD K "go" "go" (defArgs s_go) (defBody s_go) (defScope s_go) [] [] (He.fAd K ("go", none)) d_go
  g_go : mg "go" = some (.ref (He.fAd K ("go", none)))
  d_turns : FuncData
  F_turns : FunD K "turns" "turns" (defArgs s_turns) (defBody s_turns) (defScope s_turns) [] [] (He.fAd K ("turns", none)) d_turns
  g_turns : mg "turns" = some (.ref (He.fAd K ("turns", none)))
  d_plain : FuncData
  F_plain : FunD K "_law_plain" "_law_plain" (defArgs s_plain) (defBody s_plain) (defScope s_plain) [] [] (He.fAd K ("_law_plain", none)) d_plain
  g_plain : mg "_law_plain" = some (.ref (He.fAd K ("_law_plain", none)))
  d_refused : FuncData
  F_refused : FunD K "_law_refused" "_law_refused" (defArgs s_refused) (defBody s_refused) (defScope s_refused) [] [] (He.fAd K ("_law_refused", none)) d_refused
  g_refused : mg "_law_refused" = some (.ref (He.fAd K ("_law_refused", none)))
  d_many : FuncData
  F_many : FunD K "_law_many" "_law_many" (defArgs s_many) (defBody s_many) (defScope s_many) [] [] (He.fAd K ("_law_many", none)) d_many
  g_many : mg "_law_many" = some (.ref (He.fAd K ("_law_many", none)))
  d_loop : FuncData
  F_loop : FunD K "_law_loop" "_law_loop" (defArgs s_loop) (defBody s_loop) (defScope s_loop) [] [] (He.fAd K ("_law_loop", none)) d_loop
  g_loop : mg "_law_loop" = some (.ref (He.fAd K ("_law_loop", none)))
  d_heads : FuncData
  F_heads : FunD K "_law_heads" "_law_heads" (defArgs s_heads) (defBody s_heads) (defScope s_heads) [] [] (He.fAd K ("_law_heads", none)) d_heads
  g_heads : mg "_law_heads" = some (.ref (He.fAd K ("_law_heads", none)))
  d_spots : FuncData
  F_spots : FunD K "_law_spots" "_law_spots" (defArgs s_spots) (defBody s_spots) (defScope s_spots) [] [] (He.fAd K ("_law_spots", none)) d_spots
  g_spots : mg "_law_spots" = some (.ref (He.fAd K ("_law_spots", none)))
  d_cell_of : FuncData
  F_cell_of : FunD K "_law_cell_of" "_law_cell_of" (defArgs s_cell_of) (defBody s_cell_of) (defScope s_cell_of) [] [] (He.fAd K ("_law_cell_of", none)) d_cell_of
  g_cell_of : mg "_law_cell_of" = some (.ref (He.fAd K ("_law_cell_of", none)))
  d_leaf : FuncData
  F_leaf : FunD K "_law_leaf" "_law_leaf" (defArgs s_leaf) (defBody s_leaf) (defScope s_leaf) [] [] (He.fAd K ("_law_leaf", none)) d_leaf
  g_leaf : mg "_law_leaf" = some (.ref (He.fAd K ("_law_leaf", none)))
  d_term : FuncData
  F_term : FunD K "_law_term" "_law_term" (defArgs s_term) (defBody s_term) (defScope s_term) [] [] (He.fAd K ("_law_term", none)) d_term
  g_term : mg "_law_term" = some (.ref (He.fAd K ("_law_term", none)))
  d_row : FuncData
  F_row : FunD K "_law_row" "_law_row" (defArgs s_row) (defBody s_row) (defScope s_row) [] [] (He.fAd K ("_law_row", none)) d_row
  g_row : mg "_law_row" = some (.ref (He.fAd K ("_law_row", none)))
  d_rows : FuncData
  F_rows : FunD K "_law_rows" "_law_rows" (defArgs s_rows) (defBody s_rows) (defScope s_rows) [] [] (He.fAd K ("_law_rows", none)) d_rows
  g_rows : mg "_law_rows" = some (.ref (He.fAd K ("_law_rows", none)))
  d_around : FuncData
  F_around : FunD K "_law_around" "_law_around" (defArgs s_around) (defBody s_around) (defScope s_around) [] [] (He.fAd K ("_law_around", none)) d_around
  g_around : mg "_law_around" = some (.ref (He.fAd K ("_law_around", none)))
  d_stand : FuncData
  F_stand : FunD K "_law_stand" "_law_stand" (defArgs s_stand) (defBody s_stand) (defScope s_stand) [] [] (He.fAd K ("_law_stand", none)) d_stand
  g_stand : mg "_law_stand" = some (.ref (He.fAd K ("_law_stand", none)))
  d_levels : FuncData
  F_levels : FunD K "_law_levels" "_law_levels" (defArgs s_levels) (defBody s_levels) (defScope s_levels) [] [] (He.fAd K ("_law_levels", none)) d_levels
  g_levels : mg "_law_levels" = some (.ref (He.fAd K ("_law_levels", none)))
  d_counted : FuncData
  F_counted : FunD K "_law_counted" "_law_counted" (defArgs s_counted) (defBody s_counted) (defScope s_counted) [] [] (He.fAd K ("_law_counted", none)) d_counted
  g_counted : mg "_law_counted" = some (.ref (He.fAd K ("_law_counted", none)))
  d_told : FuncData
  F_told : FunD K "_law_told" "_law_told" (defArgs s_told) (defBody s_told) (defScope s_told) [] [] (He.fAd K ("_law_told", none)) d_told
  g_told : mg "_law_told" = some (.ref (He.fAd K ("_law_told", none)))
  d_law : FuncData
  F_law : FunD K "law" "law" (defArgs s_law) (defBody s_law) (defScope s_law) [] [] (He.fAd K ("law", none)) d_law
  g_law : mg "law" = some (.ref (He.fAd K ("law", none)))
  g_Deed : mg "Deed" = some (.ref (He.ga K "Deed"))
  cl_Deed : Cls K (He.ga K "Deed")
  mk_Deed : Mk K (He.ga K "Deed") (He.fAd K ("Deed", some "__init__"))
  na_Deed_names : NoAttr K (He.ga K "Deed") "names"
  na_Deed_lows : NoAttr K (He.ga K "Deed") "lows"
  na_Deed_highs : NoAttr K (He.ga K "Deed") "highs"
  na_Deed_table : NoAttr K (He.ga K "Deed") "table"
  na_Deed_spots : NoAttr K (He.ga K "Deed") "spots"
  na_Deed_term : NoAttr K (He.ga K "Deed") "term"
  na_Deed_path : NoAttr K (He.ga K "Deed") "path"
  g_Number : mg "Number" = some (.ref (He.ga K "Number"))
  cl_Number : Cls K (He.ga K "Number")
  mk_Number : Mk K (He.ga K "Number") (He.fAd K ("Number", some "__init__"))
  na_Number_n : NoAttr K (He.ga K "Number") "n"
  g_Value : mg "Value" = some (.ref (He.ga K "Value"))
  cl_Value : Cls K (He.ga K "Value")
  mk_Value : Mk K (He.ga K "Value") (He.fAd K ("Value", some "__init__"))
  na_Value_name : NoAttr K (He.ga K "Value") "name"
  g_Cell : mg "Cell" = some (.ref (He.ga K "Cell"))
  cl_Cell : Cls K (He.ga K "Cell")
  mk_Cell : Mk K (He.ga K "Cell") (He.fAd K ("Cell", some "__init__"))
  na_Cell_table : NoAttr K (He.ga K "Cell") "table"
  na_Cell_spots : NoAttr K (He.ga K "Cell") "spots"
  g_Joined : mg "Joined" = some (.ref (He.ga K "Joined"))
  cl_Joined : Cls K (He.ga K "Joined")
  mk_Joined : Mk K (He.ga K "Joined") (He.fAd K ("Joined", some "__init__"))
  na_Joined_sign : NoAttr K (He.ga K "Joined") "sign"
  na_Joined_left : NoAttr K (He.ga K "Joined") "left"
  na_Joined_right : NoAttr K (He.ga K "Joined") "right"
  g_Program : mg "Program" = some (.ref (He.ga K "Program"))
  cl_Program : Cls K (He.ga K "Program")
  mk_Program : Mk K (He.ga K "Program") (He.fAd K ("Program", some "__init__"))
  na_Program_size : NoAttr K (He.ga K "Program") "size"
  na_Program_deeds : NoAttr K (He.ga K "Program") "deeds"
  g_Walk : mg "Walk" = some (.ref (He.ga K "Walk"))
  cl_Walk : Cls K (He.ga K "Walk")
  mk_Walk : Mk K (He.ga K "Walk") (He.fAd K ("Walk", some "__init__"))
  na_Walk_left : NoAttr K (He.ga K "Walk") "left"
  na_Walk_turns : NoAttr K (He.ga K "Walk") "turns"
  g_TooMany : mg "TooMany" = some (.ref (He.ga K "TooMany"))
  xn_TooMany : XnF K "TooMany"
  xm_TooMany_FurrowError : PySem.W.exmOne K (.ref (He.ga K "TooMany")) (.ref (He.ga K "FurrowError")) = some true
  xm_TooMany_TooMany : PySem.W.exmOne K (.ref (He.ga K "TooMany")) (.ref (He.ga K "TooMany")) = some true
  xc_TooMany : ExcC K (He.ga K "TooMany")
  xk_TooMany_TooMany : PySem.W.kitOne K (.ref (He.ga K "TooMany")) (.ref (He.ga K "TooMany")) = some true
  xk_TooMany_NoText : PySem.W.kitOne K (.ref (He.ga K "TooMany")) (.ref (He.ga K "NoText")) = some false
  xk_TooMany_NoPlan : PySem.W.kitOne K (.ref (He.ga K "TooMany")) (.ref (He.ga K "NoPlan")) = some false
  xk_TooMany_NoTurning : PySem.W.kitOne K (.ref (He.ga K "TooMany")) (.ref (He.ga K "NoTurning")) = some false
  xk_TooMany_BadPlan : PySem.W.kitOne K (.ref (He.ga K "TooMany")) (.ref (He.ga K "BadPlan")) = some false
  xk_TooMany_ValueError : PySem.W.kitOne K (.ref (He.ga K "TooMany")) (.type "ValueError") = some true
  xk_TooMany_NoWidth : PySem.W.kitOne K (.ref (He.ga K "TooMany")) (.ref (He.ga K "NoWidth")) = some false
  xk_TooMany_NoValues : PySem.W.kitOne K (.ref (He.ga K "TooMany")) (.ref (He.ga K "NoValues")) = some false
  g_FurrowError : mg "FurrowError" = some (.ref (He.ga K "FurrowError"))
  g_NoText : mg "NoText" = some (.ref (He.ga K "NoText"))
  g_NoPlan : mg "NoPlan" = some (.ref (He.ga K "NoPlan"))
  g_NoTurning : mg "NoTurning" = some (.ref (He.ga K "NoTurning"))
  g_BadPlan : mg "BadPlan" = some (.ref (He.ga K "BadPlan"))
  g_NoWidth : mg "NoWidth" = some (.ref (He.ga K "NoWidth"))
  g_NoValues : mg "NoValues" = some (.ref (He.ga K "NoValues"))
  n_ValueError : mg "ValueError" = none
  n_enumerate : mg "enumerate" = none
  n_isinstance : mg "isinstance" = none
  n_len : mg "len" = none
  n_list : mg "list" = none
  n_max : mg "max" = none
  n_min : mg "min" = none
  n_range : mg "range" = none
  n_sum : mg "sum" = none
  n_tuple : mg "tuple" = none
  n_zip : mg "zip" = none
section
variable {P : Program} {w : World} {K : PySem.W.Frag} {mg : Str → Option Value} {base : Heap}
theorem Txt.xkC (T : Txt K mg) : ∀ c ∈ xkn, ExcC K (He.ga K c) := fun c hc => by
  rcases List.mem_cons.mp hc with e | hc
  · subst e; exact T.xc_TooMany
  cases hc
theorem Txt.xka_NoText (T : Txt K mg) : ∀ c ∈ xkn, PySem.W.kitOne K (.ref (He.ga K c)) (.ref (He.ga K "NoText")) = some (decide (c ∈ xs_NoText)) := fun c hc => by
  rcases List.mem_cons.mp hc with e | hc
  · subst e; rw [T.xk_TooMany_NoText]; decide
  cases hc
theorem Txt.xka_NoPlan (T : Txt K mg) : ∀ c ∈ xkn, PySem.W.kitOne K (.ref (He.ga K c)) (.ref (He.ga K "NoPlan")) = some (decide (c ∈ xs_NoPlan)) := fun c hc => by
  rcases List.mem_cons.mp hc with e | hc
  · subst e; rw [T.xk_TooMany_NoPlan]; decide
  cases hc
theorem Txt.xka_NoTurning (T : Txt K mg) : ∀ c ∈ xkn, PySem.W.kitOne K (.ref (He.ga K c)) (.ref (He.ga K "NoTurning")) = some (decide (c ∈ xs_NoTurning)) := fun c hc => by
  rcases List.mem_cons.mp hc with e | hc
  · subst e; rw [T.xk_TooMany_NoTurning]; decide
  cases hc
theorem Txt.xka_BadPlan (T : Txt K mg) : ∀ c ∈ xkn, PySem.W.kitOne K (.ref (He.ga K c)) (.ref (He.ga K "BadPlan")) = some (decide (c ∈ xs_BadPlan)) := fun c hc => by
  rcases List.mem_cons.mp hc with e | hc
  · subst e; rw [T.xk_TooMany_BadPlan]; decide
  cases hc
theorem Txt.xka_ValueError (T : Txt K mg) : ∀ c ∈ xkn, PySem.W.kitOne K (.ref (He.ga K c)) (.type "ValueError") = some (decide (c ∈ xs_ValueError)) := fun c hc => by
  rcases List.mem_cons.mp hc with e | hc
  · subst e; rw [T.xk_TooMany_ValueError]; decide
  cases hc
theorem Txt.xka_NoWidth (T : Txt K mg) : ∀ c ∈ xkn, PySem.W.kitOne K (.ref (He.ga K c)) (.ref (He.ga K "NoWidth")) = some (decide (c ∈ xs_NoWidth)) := fun c hc => by
  rcases List.mem_cons.mp hc with e | hc
  · subst e; rw [T.xk_TooMany_NoWidth]; decide
  cases hc
theorem Txt.xka_NoValues (T : Txt K mg) : ∀ c ∈ xkn, PySem.W.kitOne K (.ref (He.ga K c)) (.ref (He.ga K "NoValues")) = some (decide (c ∈ xs_NoValues)) := fun c hc => by
  rcases List.mem_cons.mp hc with e | hc
  · subst e; rw [T.xk_TooMany_NoValues]; decide
  cases hc
theorem Txt.f_Deed_names (T : Txt K mg) : FldOf K "names" (fun d : QDeed => d.names) := fun F v d ⟨a, dx, vs, e, hF, ra_⟩ => by
  obtain ⟨v0, _, rfl, r0, ⟨v1, _, rfl, r1, ⟨v2, _, rfl, r2, ⟨v3, _, rfl, r3, ⟨v4, _, rfl, r4, ⟨v5, _, rfl, r5, ⟨v6, _, rfl, r6, rfl⟩⟩⟩⟩⟩⟩⟩ := ra_
  exact ⟨a, _, dx, _, v0, e, hF, T.cl_Deed, T.na_Deed_names, zlook (i := 0) (by decide +kernel) (by decide) rfl, r0⟩
theorem Txt.f_Deed_lows (T : Txt K mg) : FldOf K "lows" (fun d : QDeed => d.lows) := fun F v d ⟨a, dx, vs, e, hF, ra_⟩ => by
  obtain ⟨v0, _, rfl, r0, ⟨v1, _, rfl, r1, ⟨v2, _, rfl, r2, ⟨v3, _, rfl, r3, ⟨v4, _, rfl, r4, ⟨v5, _, rfl, r5, ⟨v6, _, rfl, r6, rfl⟩⟩⟩⟩⟩⟩⟩ := ra_
  exact ⟨a, _, dx, _, v1, e, hF, T.cl_Deed, T.na_Deed_lows, zlook (i := 1) (by decide +kernel) (by decide) rfl, r1⟩
theorem Txt.f_Deed_highs (T : Txt K mg) : FldOf K "highs" (fun d : QDeed => d.highs) := fun F v d ⟨a, dx, vs, e, hF, ra_⟩ => by
  obtain ⟨v0, _, rfl, r0, ⟨v1, _, rfl, r1, ⟨v2, _, rfl, r2, ⟨v3, _, rfl, r3, ⟨v4, _, rfl, r4, ⟨v5, _, rfl, r5, ⟨v6, _, rfl, r6, rfl⟩⟩⟩⟩⟩⟩⟩ := ra_
  exact ⟨a, _, dx, _, v2, e, hF, T.cl_Deed, T.na_Deed_highs, zlook (i := 2) (by decide +kernel) (by decide) rfl, r2⟩
theorem Txt.f_Deed_path (T : Txt K mg) : FldOf K "path" (fun d : QDeed => d.path) := fun F v d ⟨a, dx, vs, e, hF, ra_⟩ => by
  obtain ⟨v0, _, rfl, r0, ⟨v1, _, rfl, r1, ⟨v2, _, rfl, r2, ⟨v3, _, rfl, r3, ⟨v4, _, rfl, r4, ⟨v5, _, rfl, r5, ⟨v6, _, rfl, r6, rfl⟩⟩⟩⟩⟩⟩⟩ := ra_
  exact ⟨a, _, dx, _, v6, e, hF, T.cl_Deed, T.na_Deed_path, zlook (i := 6) (by decide +kernel) (by decide) rfl, r6⟩
theorem Txt.f_Program_deeds (T : Txt K mg) : FldOf K "deeds" (fun d : QProgram => d.deeds) := fun F v d ⟨a, dx, vs, e, hF, ra_⟩ => by
  obtain ⟨v0, _, rfl, r0, ⟨v1, _, rfl, r1, rfl⟩⟩ := ra_
  exact ⟨a, _, dx, _, v1, e, hF, T.cl_Program, T.na_Program_deeds, zlook (i := 1) (by decide +kernel) (by decide) rfl, r1⟩
theorem Txt.f_Walk_left (T : Txt K mg) : FldOf K "left" (fun d : QWalk => d.left) := fun F v d ⟨a, dx, vs, e, hF, ra_⟩ => by
  obtain ⟨v0, _, rfl, r0, ⟨v1, _, rfl, r1, rfl⟩⟩ := ra_
  exact ⟨a, _, dx, _, v0, e, hF, T.cl_Walk, T.na_Walk_left, zlook (i := 0) (by decide +kernel) (by decide) rfl, r0⟩
theorem Txt.f_Walk_turns (T : Txt K mg) : FldOf K "turns" (fun d : QWalk => d.turns) := fun F v d ⟨a, dx, vs, e, hF, ra_⟩ => by
  obtain ⟨v0, _, rfl, r0, ⟨v1, _, rfl, r1, rfl⟩⟩ := ra_
  exact ⟨a, _, dx, _, v1, e, hF, T.cl_Walk, T.na_Walk_turns, zlook (i := 1) (by decide +kernel) (by decide) rfl, r1⟩
theorem sc_cell : FnScope ["_law_script", "_law_k", "_law_number"] ["_law_script", "_law_k"] (defScope s_cell) := ⟨rfl, rfl, rfl, by decide +kernel, rfl, by decide +kernel, by decide +kernel⟩
theorem b_cell (T : Txt K mg) : Binds K T.d_cell ["_law_script", "_law_k"] [] := T.F_cell.bindsN fun _ _ _ _ _ _ us hl => match us, hl with | [_, _], _ => rfl
theorem kv_cell_0 : VKn (defScope s_cell) "_law_script" := ⟨by first | exact Or.inl (by decide +kernel) | exact Or.inr (Or.inl (by decide +kernel)) | exact Or.inr (Or.inr (by decide +kernel)), by decide, by decide⟩
theorem kv_cell_1 : VKn (defScope s_cell) "_law_k" := ⟨by first | exact Or.inl (by decide +kernel) | exact Or.inr (Or.inl (by decide +kernel)) | exact Or.inr (Or.inr (by decide +kernel)), by decide, by decide⟩
theorem kv_cell_2 : VKn (defScope s_cell) "_law_number" := ⟨by first | exact Or.inl (by decide +kernel) | exact Or.inr (Or.inl (by decide +kernel)) | exact Or.inr (Or.inr (by decide +kernel)), by decide, by decide⟩
theorem ok_cell (T : Txt K mg) : FnOk P w K mg base CX0 1 (He.fAd K ("_law_cell", none)) T.d_cell ["_law_script", "_law_k"] (Pr K fun (a_ : (List Int) × Int × Unit) => m_cell a_.1 a_.2.1) := by
  refine fn_ok T.F_cell sc_cell rfl fun cdv A outer s_ F0 H0 vs a_ r D_ E_ hr sm_ ra_ hm kr kn => ?_
  obtain ⟨v_script, _, rfl, r_script, v_k, _, rfl, r_k, rfl⟩ := ra_
  obtain ⟨x_script, x_k, _u⟩ := a_
  have G : GrX K F0 H0 F0 H0 := .refl sm_
  replace hm : m_cell x_script x_k = some r := hm
  unfold m_cell at hm
  have r_script : rp (α := (List Int)) K F0 v_script x_script := r_script
  have r_k : rp (α := Int) K F0 v_k x_k := r_k
  change GoS _ _ _ [some v_script, some v_k, none] _
  refine go_ifA ((decide (x_k < (x_script.length : Int)))) G.sm (et_cmp op_lt o2_lt (ev_varK 1 rfl r_k kv_cell_1) (ev_callB call_len_seq oc_lenL T.n_len PySem.boot_len (ea_cons (ev_varK 0 rfl r_script kv_cell_0) ea_nil)) (nomark _)) (fun hc F H g => ?_) (fun hc F H g => ?_)
  · replace hm := ipos hc hm
    have G := G.trans g
    have r_script := Rp.mono g.ff r_script
    have r_k := Rp.mono g.ff r_k
    obtain ⟨t1, h_t1, hm⟩ := Option.bind_eq_some_iff.mp hm
    exact go_ret G.sm (ev_ixL (ev_varK 0 rfl r_script kv_cell_0) (ev_varK 1 rfl r_k kv_cell_1) h_t1) fun v_ F_ H_ g_ rv_ => kr _ _ _ (G.trans g_) (cg (Option.some.inj hm) rv_)
  · replace hm := ineg (nt hc) hm
    have G := G.trans g
    have r_script := Rp.mono g.ff r_script
    have r_k := Rp.mono g.ff r_k
    refine GoS.nil ?_
    obtain ⟨x_number, he, hm⟩ := Option.bind_eq_some_iff.mp hm
    refine go_setA (Int) 2 G.sm (ev_add (ev_mul (ev_varK 1 rfl r_k kv_cell_1) ev_int (CMul.r (by decide))) ev_int) (fun v_number F H g rn_ => ?_) sc_cell.nd
    have G := G.trans g
    have r_script := Rp.mono g.ff r_script
    have r_k := Rp.mono g.ff r_k
    have r_number := cg (Option.some.inj he) rn_
    change GoS _ _ _ [some v_script, some v_k, some v_number] _
    obtain ⟨b2, hj, hm⟩ := Option.bind_eq_some_iff.mp hm
    refine go_ifjA ((decide ((0 : Int) < (x_script.length : Int)))) (fun σ_ H_ => ∃ (F_ : Hp) (v_number : V), L2.Same F F_ ∧ σ_ = [some v_script, some v_k, some v_number] ∧ GrX K F0 H0 F_ H_ ∧ rp (α := Int) K F_ v_number b2) G.sm (et_cmp op_gt o2_gt (ev_callB call_len_seq oc_lenL T.n_len PySem.boot_len (ea_cons (ev_varK 0 rfl r_script kv_cell_0) ea_nil)) ev_int (nomark _)) (fun hc F H g => ?_) (fun hc F H g => ?_) (fun σ_ H hP_ => ?_)
    · replace hj := ipos hc hj
      clear hm
      have hm := hj
      clear hj
      have G := G.trans g
      have r_script := Rp.mono g.ff r_script
      have r_k := Rp.mono g.ff r_k
      have r_number := Rp.mono g.ff r_number
      have sj3 := g.ff
      obtain ⟨t4, h_t4, hm⟩ := Option.bind_eq_some_iff.mp hm
      obtain ⟨t5, h_t5, hm⟩ := Option.bind_eq_some_iff.mp hm
      obtain ⟨x_number, he, hm⟩ := Option.bind_eq_some_iff.mp hm
      refine go_setA (Int) 2 G.sm (ev_mod (ev_add (ev_mul (ev_ixL (ev_varK 0 rfl r_script kv_cell_0) (ev_modG (ev_mul (ev_varK 1 rfl r_k kv_cell_1) ev_int (CMul.r (by decide))) (ev_callB call_len_seq oc_lenL T.n_len PySem.boot_len (ea_cons (ev_varK 0 rfl r_script kv_cell_0) ea_nil)) h_t4) h_t5) ev_int (CMul.r (by decide))) (ev_mul (ev_varK 1 rfl r_k kv_cell_1) ev_int (CMul.r (by decide)))) ev_int (by decide)) (fun v_number F H g rn_ => ?_) sc_cell.nd
      have G := G.trans g
      have r_script := Rp.mono g.ff r_script
      have r_k := Rp.mono g.ff r_k
      have sj3 := sj3.trans g.ff
      have r_number := cg (Option.some.inj he) rn_
      have hm := Option.some.inj hm
      subst hm
      exact GoS.nil ⟨_, _, sj3, rfl, G, r_number⟩
    · replace hj := ineg (nt hc) hj
      clear hm
      have hm := hj
      clear hj
      have G := G.trans g
      have r_script := Rp.mono g.ff r_script
      have r_k := Rp.mono g.ff r_k
      have r_number := Rp.mono g.ff r_number
      have sj3 := g.ff
      have hm := Option.some.inj hm
      subst hm
      exact GoS.nil ⟨_, _, sj3, rfl, G, r_number⟩
    obtain ⟨F, v_number, sj_, rfl, G, r_number⟩ := hP_
    obtain ⟨t6, h_t6, hm⟩ := Option.bind_eq_some_iff.mp hm
    exact go_ret G.sm (ev_mod (ev_mulG (ev_varK 2 rfl r_number kv_cell_2) (ev_varK 2 rfl r_number kv_cell_2) h_t6) ev_int (by decide)) fun v_ F_ H_ g_ rv_ => kr _ _ _ (G.trans g_) (cg (Option.some.inj hm) rv_)
theorem sc_mixed : FnScope ["_law_cell_here", "_law_k", "_law_number"] ["_law_cell_here", "_law_k"] (defScope s_mixed) := ⟨rfl, rfl, rfl, by decide +kernel, rfl, by decide +kernel, by decide +kernel⟩
theorem b_mixed (T : Txt K mg) : Binds K T.d_mixed ["_law_cell_here", "_law_k"] [] := T.F_mixed.bindsN fun _ _ _ _ _ _ us hl => match us, hl with | [_, _], _ => rfl
theorem kv_mixed_0 : VKn (defScope s_mixed) "_law_cell_here" := ⟨by first | exact Or.inl (by decide +kernel) | exact Or.inr (Or.inl (by decide +kernel)) | exact Or.inr (Or.inr (by decide +kernel)), by decide, by decide⟩
theorem kv_mixed_1 : VKn (defScope s_mixed) "_law_k" := ⟨by first | exact Or.inl (by decide +kernel) | exact Or.inr (Or.inl (by decide +kernel)) | exact Or.inr (Or.inr (by decide +kernel)), by decide, by decide⟩
theorem kv_mixed_2 : VKn (defScope s_mixed) "_law_number" := ⟨by first | exact Or.inl (by decide +kernel) | exact Or.inr (Or.inl (by decide +kernel)) | exact Or.inr (Or.inr (by decide +kernel)), by decide, by decide⟩
theorem ok_mixed (T : Txt K mg) : FnOk P w K mg base CX0 1 (He.fAd K ("_law_mixed", none)) T.d_mixed ["_law_cell_here", "_law_k"] (Pr K fun (a_ : Int × Int × Unit) => m_mixed a_.1 a_.2.1) := by
  refine fn_ok T.F_mixed sc_mixed rfl fun cdv A outer s_ F0 H0 vs a_ r D_ E_ hr sm_ ra_ hm kr kn => ?_
  obtain ⟨v_cell_here, _, rfl, r_cell_here, v_k, _, rfl, r_k, rfl⟩ := ra_
  obtain ⟨x_cell_here, x_k, _u⟩ := a_
  have G : GrX K F0 H0 F0 H0 := .refl sm_
  replace hm : m_mixed x_cell_here x_k = some r := hm
  unfold m_mixed at hm
  have r_cell_here : rp (α := Int) K F0 v_cell_here x_cell_here := r_cell_here
  have r_k : rp (α := Int) K F0 v_k x_k := r_k
  change GoS _ _ _ [some v_cell_here, some v_k, none] _
  obtain ⟨x_number, he, hm⟩ := Option.bind_eq_some_iff.mp hm
  refine go_setA (Int) 2 G.sm (ev_mod (ev_mul (ev_add (ev_add (ev_varK 0 rfl r_cell_here kv_mixed_0) (ev_mul ev_int (ev_varK 1 rfl r_k kv_mixed_1) (CMul.l (by decide)))) ev_int) ev_int (CMul.r (by decide))) ev_int (by decide)) (fun v_number F H g rn_ => ?_) sc_mixed.nd
  have G := G.trans g
  have r_cell_here := Rp.mono g.ff r_cell_here
  have r_k := Rp.mono g.ff r_k
  have r_number := cg (Option.some.inj he) rn_
  change GoS _ _ _ [some v_cell_here, some v_k, some v_number] _
  obtain ⟨t1, h_t1, hm⟩ := Option.bind_eq_some_iff.mp hm
  exact go_ret G.sm (ev_mod (ev_mulG (ev_varK 2 rfl r_number kv_mixed_2) (ev_varK 2 rfl r_number kv_mixed_2) h_t1) ev_int (by decide)) fun v_ F_ H_ g_ rv_ => kr _ _ _ (G.trans g_) (cg (Option.some.inj hm) rv_)
theorem sc_size : FnScope ["_law_script", "_law_cell_here"] ["_law_script"] (defScope s_size) := ⟨rfl, rfl, rfl, by decide +kernel, rfl, by decide +kernel, by decide +kernel⟩
theorem b_size (T : Txt K mg) : Binds K T.d_size ["_law_script"] [] := T.F_size.bindsN fun _ _ _ _ _ _ us hl => match us, hl with | [_], _ => rfl
theorem kv_size_0 : VKn (defScope s_size) "_law_script" := ⟨by first | exact Or.inl (by decide +kernel) | exact Or.inr (Or.inl (by decide +kernel)) | exact Or.inr (Or.inr (by decide +kernel)), by decide, by decide⟩
theorem kv_size_1 : VKn (defScope s_size) "_law_cell_here" := ⟨by first | exact Or.inl (by decide +kernel) | exact Or.inr (Or.inl (by decide +kernel)) | exact Or.inr (Or.inr (by decide +kernel)), by decide, by decide⟩
theorem gl_size_cell : (defScope s_size).names.lookup ("_law_cell" : Str) = some NameKind.globalImplicit := by decide +kernel
theorem gl_size_mixed : (defScope s_size).names.lookup ("_law_mixed" : Str) = some NameKind.globalImplicit := by decide +kernel
theorem ok_size (T : Txt K mg) : FnOk P w K mg base CX0 2 (He.fAd K ("_law_size", none)) T.d_size ["_law_script"] (Pr K fun (a_ : (List Int) × Unit) => m_size a_.1) := by
  refine fn_ok T.F_size sc_size rfl fun cdv A outer s_ F0 H0 vs a_ r D_ E_ hr sm_ ra_ hm kr kn => ?_
  obtain ⟨v_script, _, rfl, r_script, rfl⟩ := ra_
  obtain ⟨x_script, _u⟩ := a_
  have G : GrX K F0 H0 F0 H0 := .refl sm_
  replace hm : m_size x_script = some r := hm
  unfold m_size at hm
  have r_script : rp (α := (List Int)) K F0 v_script x_script := r_script
  change GoS _ _ _ [some v_script, none] _
  obtain ⟨t1, h_t1, hm⟩ := Option.bind_eq_some_iff.mp hm
  obtain ⟨x_cell_here, he, hm⟩ := Option.bind_eq_some_iff.mp hm
  refine go_setA (Int) 1 G.sm (ev_call (ok_cell T) (hr.mono (by omega)) T.g_cell T.F_cell.kp (b_cell T) (ea_cons (ev_varK 0 rfl r_script kv_size_0) (ea_cons ev_int ea_nil)) h_t1 gl_size_cell) (fun v_cell_here F H g rn_ => ?_) sc_size.nd
  have G := G.trans g
  have r_script := Rp.mono g.ff r_script
  have r_cell_here := cg (Option.some.inj he) rn_
  change GoS _ _ _ [some v_script, some v_cell_here] _
  obtain ⟨t2, h_t2, hm⟩ := Option.bind_eq_some_iff.mp hm
  obtain ⟨t3, h_t3, hm⟩ := Option.bind_eq_some_iff.mp hm
  exact go_ret G.sm (ev_ixL (EvN.evA ((List Int)) (en_list (el_cons (ev_add ev_int (ev_mod (ev_varK 1 rfl r_cell_here kv_size_1) ev_int (by decide))) (el_cons (ev_add ev_int (ev_mod (ev_varK 1 rfl r_cell_here kv_size_1) (ev_sub (ev_powcA (1000000000000000000) ev_int ev_int (by decide) (by decide +kernel)) ev_int) (by decide))) el_nil)) (by show 2 ≤ sizeLine; decide))) (ev_mod (ev_call (ok_mixed T) (hr.mono (by omega)) T.g_mixed T.F_mixed.kp (b_mixed T) (ea_cons (ev_varK 1 rfl r_cell_here kv_size_1) (ea_cons ev_int ea_nil)) h_t2 gl_size_mixed) ev_int (by decide)) h_t3) fun v_ F_ H_ g_ rv_ => kr _ _ _ (G.trans g_) (cg (Option.some.inj hm) rv_)
theorem sc_name : FnScope ["_law_cell_here", "_law_e", "_law_some", "_law_number", "_law_word", "_law_k", "_law_at", "_law_name_here"] ["_law_cell_here", "_law_e"] (defScope s_name) := ⟨rfl, rfl, rfl, by decide +kernel, rfl, by decide +kernel, by decide +kernel⟩
theorem b_name (T : Txt K mg) : Binds K T.d_name ["_law_cell_here", "_law_e"] [] := T.F_name.bindsN fun _ _ _ _ _ _ us hl => match us, hl with | [_, _], _ => rfl
theorem kv_name_0 : VKn (defScope s_name) "_law_cell_here" := ⟨by first | exact Or.inl (by decide +kernel) | exact Or.inr (Or.inl (by decide +kernel)) | exact Or.inr (Or.inr (by decide +kernel)), by decide, by decide⟩
theorem kv_name_1 : VKn (defScope s_name) "_law_e" := ⟨by first | exact Or.inl (by decide +kernel) | exact Or.inr (Or.inl (by decide +kernel)) | exact Or.inr (Or.inr (by decide +kernel)), by decide, by decide⟩
theorem kv_name_2 : VKn (defScope s_name) "_law_some" := ⟨by first | exact Or.inl (by decide +kernel) | exact Or.inr (Or.inl (by decide +kernel)) | exact Or.inr (Or.inr (by decide +kernel)), by decide, by decide⟩
theorem kv_name_3 : VKn (defScope s_name) "_law_number" := ⟨by first | exact Or.inl (by decide +kernel) | exact Or.inr (Or.inl (by decide +kernel)) | exact Or.inr (Or.inr (by decide +kernel)), by decide, by decide⟩
theorem kv_name_4 : VKn (defScope s_name) "_law_word" := ⟨by first | exact Or.inl (by decide +kernel) | exact Or.inr (Or.inl (by decide +kernel)) | exact Or.inr (Or.inr (by decide +kernel)), by decide, by decide⟩
theorem kv_name_5 : VKn (defScope s_name) "_law_k" := ⟨by first | exact Or.inl (by decide +kernel) | exact Or.inr (Or.inl (by decide +kernel)) | exact Or.inr (Or.inr (by decide +kernel)), by decide, by decide⟩
theorem kv_name_6 : VKn (defScope s_name) "_law_at" := ⟨by first | exact Or.inl (by decide +kernel) | exact Or.inr (Or.inl (by decide +kernel)) | exact Or.inr (Or.inr (by decide +kernel)), by decide, by decide⟩
theorem kv_name_7 : VKn (defScope s_name) "_law_name_here" := ⟨by first | exact Or.inl (by decide +kernel) | exact Or.inr (Or.inl (by decide +kernel)) | exact Or.inr (Or.inr (by decide +kernel)), by decide, by decide⟩
theorem gl_name_mixed : (defScope s_name).names.lookup ("_law_mixed" : Str) = some NameKind.globalImplicit := by decide +kernel
theorem ok_name (T : Txt K mg) : FnOk P w K mg base CX0 2 (He.fAd K ("_law_name", none)) T.d_name ["_law_cell_here", "_law_e"] (Pr K fun (a_ : Int × Int × Unit) => m_name a_.1 a_.2.1) := by
  refine fn_ok T.F_name sc_name rfl fun cdv A outer s_ F0 H0 vs a_ r D_ E_ hr sm_ ra_ hm kr kn => ?_
  obtain ⟨v_cell_here, _, rfl, r_cell_here, v_e, _, rfl, r_e, rfl⟩ := ra_
  obtain ⟨x_cell_here, x_e, _u⟩ := a_
  have G : GrX K F0 H0 F0 H0 := .refl sm_
  replace hm : m_name x_cell_here x_e = some r := hm
  unfold m_name at hm
  have r_cell_here : rp (α := Int) K F0 v_cell_here x_cell_here := r_cell_here
  have r_e : rp (α := Int) K F0 v_e x_e := r_e
  change GoS _ _ _ [some v_cell_here, some v_e, none, none, none, none, none, none] _
  obtain ⟨x_some, he, hm⟩ := Option.bind_eq_some_iff.mp hm
  refine go_setA (Str) 2 G.sm ev_str (fun v_some F H g rn_ => ?_) sc_name.nd
  have G := G.trans g
  have r_cell_here := Rp.mono g.ff r_cell_here
  have r_e := Rp.mono g.ff r_e
  have r_some := cg (Option.some.inj he) rn_
  change GoS _ _ _ [some v_cell_here, some v_e, some v_some, none, none, none, none, none] _
  obtain ⟨t1, h_t1, hm⟩ := Option.bind_eq_some_iff.mp hm
  obtain ⟨x_number, he, hm⟩ := Option.bind_eq_some_iff.mp hm
  refine go_setA (Int) 3 G.sm (ev_call (ok_mixed T) (hr.mono (by omega)) T.g_mixed T.F_mixed.kp (b_mixed T) (ea_cons (ev_varK 0 rfl r_cell_here kv_name_0) (ea_cons ev_int ea_nil)) h_t1 gl_name_mixed) (fun v_number F H g rn_ => ?_) sc_name.nd
  have G := G.trans g
  have r_cell_here := Rp.mono g.ff r_cell_here
  have r_e := Rp.mono g.ff r_e
  have r_some := Rp.mono g.ff r_some
  have r_number := cg (Option.some.inj he) rn_
  change GoS _ _ _ [some v_cell_here, some v_e, some v_some, some v_number, none, none, none, none] _
  obtain ⟨x_word, he, hm⟩ := Option.bind_eq_some_iff.mp hm
  refine go_setA (Str) 4 G.sm ev_str (fun v_word F H g rn_ => ?_) sc_name.nd
  have G := G.trans g
  have r_e := Rp.mono g.ff r_e
  have r_some := Rp.mono g.ff r_some
  have r_number := Rp.mono g.ff r_number
  have r_word := cg (Option.some.inj he) rn_
  change GoS _ _ _ [some v_cell_here, some v_e, some v_some, some v_number, some v_word, none, none, none] _
  obtain ⟨t2, h_t2, hm⟩ := Option.bind_eq_some_iff.mp hm
  obtain ⟨b10, ho_, hm⟩ := Option.bind_eq_some_iff.mp hm
  refine go_forN G.sm (ei_range1 (ev_mod (ev_varK 3 rfl r_number kv_name_3) ev_int (by decide)) h_t2 T.n_range) (pg_name (i := 5) sc_name.nd rfl (by first | exact Or.inl rfl | exact Or.inr rfl)) ho_ (fun F H g => ?_) PassesOwn.never
  have G := G.trans g
  have r_e := Rp.mono g.ff r_e
  have r_some := Rp.mono g.ff r_some
  have r_number := Rp.mono g.ff r_number
  have r_word := Rp.mono g.ff r_word
  refine ⟨fun (b3 : Str) σ_ F_ H_ => ∃ (u_k : Option V) (v_word : V), σ_ = [some v_cell_here, some v_e, some v_some, some v_number, some v_word, u_k, none, none] ∧ GrX K F0 H0 F_ H_ ∧ rp (α := Str) K F_ v_word b3, ⟨_, _, rfl, G, r_word⟩, ?_, ?_⟩
  ·
    intro b3 x_k o_ hm σ_ F H v_k s1_ s2_ iv_ F H g r_k Q_ hQ_
    obtain ⟨u_k, v_word, rfl, G, r_word⟩ := iv_
    have sb6 := g.ff
    have r_some := Rp.mono s1_ r_some
    have r_number := Rp.mono s1_ r_number
    have G := G.trans g
    have r_some := Rp.mono g.ff r_some
    have r_number := Rp.mono g.ff r_number
    have r_word := Rp.mono g.ff r_word
    refine hQ_ _ _ ?_
    change GoS _ _ _ [some v_cell_here, some v_e, some v_some, some v_number, some v_word, some v_k, none, none] _
    obtain ⟨t7, h_t7, hm⟩ := Option.bind_eq_some_iff.mp hm
    obtain ⟨t8, h_t8, hm⟩ := Option.bind_eq_some_iff.mp hm
    obtain ⟨t9, h_t9, hm⟩ := Option.bind_eq_some_iff.mp hm
    obtain ⟨x_word, he, hm⟩ := Option.bind_eq_some_iff.mp hm
    refine go_setA (Str) 4 G.sm (ev_addS (ev_varK 4 rfl r_word kv_name_4) (ev_ixS (ev_varK 2 rfl r_some kv_name_2) (ev_mod (ev_divG (ev_varK 3 rfl r_number kv_name_3) (ev_add (ev_varK 5 rfl r_k kv_name_5) ev_int) h_t7) ev_int (by decide)) h_t8) h_t9) (fun v_word F H g rn_ => ?_) sc_name.nd
    have G := G.trans g
    have r_some := Rp.mono g.ff r_some
    have r_number := Rp.mono g.ff r_number
    have r_k := Rp.mono g.ff r_k
    have sb6 := sb6.trans g.ff
    have r_word := cg (Option.some.inj he) rn_
    have hm := Option.some.inj hm
    subst hm
    exact GoS.nil ⟨_, sb6, G.fh, ⟨_, _, rfl, G, r_word⟩⟩
  · intro σ_ F H s1_ s2_ iv_
    obtain ⟨u_k, v_word, rfl, G, r_word⟩ := iv_
    have r_e := Rp.mono s1_ r_e
    have r_some := Rp.mono s1_ r_some
    have r_number := Rp.mono s1_ r_number
    change GoS _ _ _ [some v_cell_here, some v_e, some v_some, some v_number, some v_word, u_k, none, none] _
    obtain ⟨t11, h_t11, hm⟩ := Option.bind_eq_some_iff.mp hm
    obtain ⟨t12, h_t12, hm⟩ := Option.bind_eq_some_iff.mp hm
    obtain ⟨x_at, he, hm⟩ := Option.bind_eq_some_iff.mp hm
    refine go_setA (Int) 6 G.sm (ev_modG (ev_div (ev_varK 3 rfl r_number kv_name_3) ev_int ⟨by decide, by decide⟩) (ev_add (ev_callB call_len_str (oc_lenS h_t11) T.n_len PySem.boot_len (ea_cons (ev_varK 4 rfl r_word kv_name_4) ea_nil)) ev_int) h_t12) (fun v_at F H g rn_ => ?_) sc_name.nd
    have G := G.trans g
    have r_e := Rp.mono g.ff r_e
    have r_some := Rp.mono g.ff r_some
    have r_number := Rp.mono g.ff r_number
    have r_word := Rp.mono g.ff r_word
    have r_at := cg (Option.some.inj he) rn_
    change GoS _ _ _ [some v_cell_here, some v_e, some v_some, some v_number, some v_word, u_k, some v_at, none] _
    obtain ⟨t13, h_t13, hm⟩ := Option.bind_eq_some_iff.mp hm
    obtain ⟨t14, h_t14, hm⟩ := Option.bind_eq_some_iff.mp hm
    obtain ⟨t15, h_t15, hm⟩ := Option.bind_eq_some_iff.mp hm
    obtain ⟨t16, h_t16, hm⟩ := Option.bind_eq_some_iff.mp hm
    obtain ⟨t17, h_t17, hm⟩ := Option.bind_eq_some_iff.mp hm
    obtain ⟨x_name_here, he, hm⟩ := Option.bind_eq_some_iff.mp hm
    refine go_setA (Str) 7 G.sm (ev_addS (ev_addS (ev_sliceS (ev_varK 4 rfl r_word kv_name_4) eo_none (eo_some (ev_varK 6 rfl r_at kv_name_6)) h_t13) (ev_ixS (ev_varK 2 rfl r_some kv_name_2) (ev_mod (ev_add (ev_div (ev_varK 3 rfl r_number kv_name_3) ev_int ⟨by decide, by decide⟩) (ev_mul ev_int (ev_varK 1 rfl r_e kv_name_1) (CMul.l (by decide)))) ev_int (by decide)) h_t14) h_t15) (ev_sliceS (ev_varK 4 rfl r_word kv_name_4) (eo_some (ev_varK 6 rfl r_at kv_name_6)) eo_none h_t16) h_t17) (fun v_name_here F H g rn_ => ?_) sc_name.nd
    have G := G.trans g
    have r_e := Rp.mono g.ff r_e
    have r_some := Rp.mono g.ff r_some
    have r_number := Rp.mono g.ff r_number
    have r_word := Rp.mono g.ff r_word
    have r_at := Rp.mono g.ff r_at
    have r_name_here := cg (Option.some.inj he) rn_
    change GoS _ _ _ [some v_cell_here, some v_e, some v_some, some v_number, some v_word, u_k, some v_at, some v_name_here] _
    obtain ⟨b18, hj, hm⟩ := Option.bind_eq_some_iff.mp hm
    refine go_ifjA ((decide (((x_number / (5003 : Int)) % (4 : Int)) = (1 : Int)))) (fun σ_ H_ => ∃ (F_ : Hp) (v_name_here : V), L2.Same F F_ ∧ σ_ = [some v_cell_here, some v_e, some v_some, some v_number, some v_word, u_k, some v_at, some v_name_here] ∧ GrX K F0 H0 F_ H_ ∧ rp (α := Str) K F_ v_name_here b18) G.sm (et_cmp op_eq o2_eq (ev_mod (ev_div (ev_varK 3 rfl r_number kv_name_3) ev_int ⟨by decide, by decide⟩) ev_int (by decide)) ev_int (nomark _)) (fun hc F H g => ?_) (fun hc F H g => ?_) (fun σ_ H hP_ => ?_)
    · replace hj := ipos hc hj
      clear hm
      have hm := hj
      clear hj
      have G := G.trans g
      have r_e := Rp.mono g.ff r_e
      have r_number := Rp.mono g.ff r_number
      have r_word := Rp.mono g.ff r_word
      have r_name_here := Rp.mono g.ff r_name_here
      have sj19 := g.ff
      obtain ⟨t20, h_t20, hm⟩ := Option.bind_eq_some_iff.mp hm
      obtain ⟨t21, h_t21, hm⟩ := Option.bind_eq_some_iff.mp hm
      obtain ⟨x_name_here, he, hm⟩ := Option.bind_eq_some_iff.mp hm
      refine go_setA (Str) 7 G.sm (ev_sliceS (ev_addS (ev_varK 4 rfl r_word kv_name_4) ev_str h_t20) eo_none (eo_some (ev_add ev_int (ev_varK 1 rfl r_e kv_name_1))) h_t21) (fun v_name_here F H g rn_ => ?_) sc_name.nd
      have G := G.trans g
      have r_e := Rp.mono g.ff r_e
      have r_word := Rp.mono g.ff r_word
      have sj19 := sj19.trans g.ff
      have r_name_here := cg (Option.some.inj he) rn_
      have hm := Option.some.inj hm
      subst hm
      exact GoS.nil ⟨_, _, sj19, rfl, G, r_name_here⟩
    · replace hj := ineg (nt hc) hj
      clear hm
      have hm := hj
      clear hj
      have G := G.trans g
      have r_e := Rp.mono g.ff r_e
      have r_number := Rp.mono g.ff r_number
      have r_word := Rp.mono g.ff r_word
      have r_name_here := Rp.mono g.ff r_name_here
      have sj19 := g.ff
      have hm := Option.some.inj hm
      subst hm
      exact GoS.nil ⟨_, _, sj19, rfl, G, r_name_here⟩
    obtain ⟨F, v_name_here, sj_, rfl, G, r_name_here⟩ := hP_
    obtain ⟨b22, hj, hm⟩ := Option.bind_eq_some_iff.mp hm
    refine go_ifjA ((decide (b18 ∈ (Tp.mk ([("for" : Str), ("end" : Str), ("size" : Str)] : List Str)).l))) (fun σ_ H_ => ∃ (F_ : Hp) (v_name_here : V), L2.Same F F_ ∧ σ_ = [some v_cell_here, some v_e, some v_some, some v_number, some v_word, u_k, some v_at, some v_name_here] ∧ GrX K F0 H0 F_ H_ ∧ rp (α := Str) K F_ v_name_here b22) G.sm (et_cmp op_in_seq o2_inT (ev_varK 7 rfl r_name_here kv_name_7) (ev_tp (el_cons ev_str (el_cons ev_str (el_cons ev_str el_nil))) (by show 3 ≤ sizeLine; decide)) rfl) (fun hc F H g => ?_) (fun hc F H g => ?_) (fun σ_ H hP_ => ?_)
    · replace hj := ipos hc hj
      clear hm
      have hm := hj
      clear hj
      have G := G.trans g
      have r_name_here := Rp.mono g.ff r_name_here
      have sj23 := g.ff
      obtain ⟨t24, h_t24, hm⟩ := Option.bind_eq_some_iff.mp hm
      obtain ⟨x_name_here, he, hm⟩ := Option.bind_eq_some_iff.mp hm
      refine go_setA (Str) 7 G.sm (ev_addS (ev_varK 7 rfl r_name_here kv_name_7) ev_str h_t24) (fun v_name_here F H g rn_ => ?_) sc_name.nd
      have G := G.trans g
      have sj23 := sj23.trans g.ff
      have r_name_here := cg (Option.some.inj he) rn_
      have hm := Option.some.inj hm
      subst hm
      exact GoS.nil ⟨_, _, sj23, rfl, G, r_name_here⟩
    · replace hj := ineg (nt hc) hj
      clear hm
      have hm := hj
      clear hj
      have G := G.trans g
      have r_name_here := Rp.mono g.ff r_name_here
      have sj23 := g.ff
      have hm := Option.some.inj hm
      subst hm
      exact GoS.nil ⟨_, _, sj23, rfl, G, r_name_here⟩
    obtain ⟨F, v_name_here, sj_, rfl, G, r_name_here⟩ := hP_
    exact go_ret G.sm (ev_varK 7 rfl r_name_here kv_name_7) fun v_ F_ H_ g_ rv_ => kr _ _ _ (G.trans g_) (cg (Option.some.inj hm) rv_)
theorem sc_far : FnScope ["_law_script", "_law_cell_here", "_law_names", "_law_low", "_law_high", "_law_depth", "_law_lows", "_law_highs"] ["_law_script"] (defScope s_far) := ⟨rfl, rfl, rfl, by decide +kernel, rfl, by decide +kernel, by decide +kernel⟩
theorem b_far (T : Txt K mg) : Binds K T.d_far ["_law_script"] [] := T.F_far.bindsN fun _ _ _ _ _ _ us hl => match us, hl with | [_], _ => rfl
theorem kv_far_0 : VKn (defScope s_far) "_law_script" := ⟨by first | exact Or.inl (by decide +kernel) | exact Or.inr (Or.inl (by decide +kernel)) | exact Or.inr (Or.inr (by decide +kernel)), by decide, by decide⟩
theorem kv_far_1 : VKn (defScope s_far) "_law_cell_here" := ⟨by first | exact Or.inl (by decide +kernel) | exact Or.inr (Or.inl (by decide +kernel)) | exact Or.inr (Or.inr (by decide +kernel)), by decide, by decide⟩
theorem kv_far_2 : VKn (defScope s_far) "_law_names" := ⟨by first | exact Or.inl (by decide +kernel) | exact Or.inr (Or.inl (by decide +kernel)) | exact Or.inr (Or.inr (by decide +kernel)), by decide, by decide⟩
theorem kv_far_3 : VKn (defScope s_far) "_law_low" := ⟨by first | exact Or.inl (by decide +kernel) | exact Or.inr (Or.inl (by decide +kernel)) | exact Or.inr (Or.inr (by decide +kernel)), by decide, by decide⟩
theorem kv_far_4 : VKn (defScope s_far) "_law_high" := ⟨by first | exact Or.inl (by decide +kernel) | exact Or.inr (Or.inl (by decide +kernel)) | exact Or.inr (Or.inr (by decide +kernel)), by decide, by decide⟩
theorem kv_far_5 : VKn (defScope s_far) "_law_depth" := ⟨by first | exact Or.inl (by decide +kernel) | exact Or.inr (Or.inl (by decide +kernel)) | exact Or.inr (Or.inr (by decide +kernel)), by decide, by decide⟩
theorem kv_far_6 : VKn (defScope s_far) "_law_lows" := ⟨by first | exact Or.inl (by decide +kernel) | exact Or.inr (Or.inl (by decide +kernel)) | exact Or.inr (Or.inr (by decide +kernel)), by decide, by decide⟩
theorem kv_far_7 : VKn (defScope s_far) "_law_highs" := ⟨by first | exact Or.inl (by decide +kernel) | exact Or.inr (Or.inl (by decide +kernel)) | exact Or.inr (Or.inr (by decide +kernel)), by decide, by decide⟩
theorem gl_far_cell : (defScope s_far).names.lookup ("_law_cell" : Str) = some NameKind.globalImplicit := by decide +kernel
theorem gl_far_mixed : (defScope s_far).names.lookup ("_law_mixed" : Str) = some NameKind.globalImplicit := by decide +kernel
theorem gl_far_name : (defScope s_far).names.lookup ("_law_name" : Str) = some NameKind.globalImplicit := by decide +kernel
theorem ok_far (T : Txt K mg) : FnOk P w K mg base CX0 3 (He.fAd K ("_law_far", none)) T.d_far ["_law_script"] (Pr K fun (a_ : (List Int) × Unit) => m_far a_.1) := by
  refine fn_ok T.F_far sc_far rfl fun cdv A outer s_ F0 H0 vs a_ r D_ E_ hr sm_ ra_ hm kr kn => ?_
  obtain ⟨v_script, _, rfl, r_script, rfl⟩ := ra_
  obtain ⟨x_script, _u⟩ := a_
  have G : GrX K F0 H0 F0 H0 := .refl sm_
  replace hm : m_far x_script = some r := hm
  unfold m_far at hm
  have r_script : rp (α := (List Int)) K F0 v_script x_script := r_script
  change GoS _ _ _ [some v_script, none, none, none, none, none, none, none] _
  obtain ⟨t1, h_t1, hm⟩ := Option.bind_eq_some_iff.mp hm
  obtain ⟨x_cell_here, he, hm⟩ := Option.bind_eq_some_iff.mp hm
  refine go_setA (Int) 1 G.sm (ev_call (ok_cell T) (hr.mono (by omega)) T.g_cell T.F_cell.kp (b_cell T) (ea_cons (ev_varK 0 rfl r_script kv_far_0) (ea_cons ev_int ea_nil)) h_t1 gl_far_cell) (fun v_cell_here F H g rn_ => ?_) sc_far.nd
  have G := G.trans g
  have r_script := Rp.mono g.ff r_script
  have r_cell_here := cg (Option.some.inj he) rn_
  change GoS _ _ _ [some v_script, some v_cell_here, none, none, none, none, none, none] _
  obtain ⟨t2, h_t2, hm⟩ := Option.bind_eq_some_iff.mp hm
  obtain ⟨t3, h_t3, hm⟩ := Option.bind_eq_some_iff.mp hm
  obtain ⟨t4, h_t4, hm⟩ := Option.bind_eq_some_iff.mp hm
  obtain ⟨t5, h_t5, hm⟩ := Option.bind_eq_some_iff.mp hm
  obtain ⟨x_names, he, hm⟩ := Option.bind_eq_some_iff.mp hm
  refine go_setA ((T2 Str Str)) 2 G.sm (ev_tup2 (ea_cons (ev_call (ok_name T) (hr.mono (by omega)) T.g_name T.F_name.kp (b_name T) (ea_cons (ev_call (ok_cell T) (hr.mono (by omega)) T.g_cell T.F_cell.kp (b_cell T) (ea_cons (ev_varK 0 rfl r_script kv_far_0) (ea_cons ev_int ea_nil)) h_t2 gl_far_cell) (ea_cons ev_int ea_nil)) h_t3 gl_far_name) (ea_cons (ev_call (ok_name T) (hr.mono (by omega)) T.g_name T.F_name.kp (b_name T) (ea_cons (ev_call (ok_cell T) (hr.mono (by omega)) T.g_cell T.F_cell.kp (b_cell T) (ea_cons (ev_varK 0 rfl r_script kv_far_0) (ea_cons ev_int ea_nil)) h_t4 gl_far_cell) (ea_cons ev_int ea_nil)) h_t5 gl_far_name) ea_nil))) (fun v_names F H g rn_ => ?_) sc_far.nd
  have G := G.trans g
  have r_script := Rp.mono g.ff r_script
  have r_cell_here := Rp.mono g.ff r_cell_here
  have r_names := cg (Option.some.inj he) rn_
  change GoS _ _ _ [some v_script, some v_cell_here, some v_names, none, none, none, none, none] _
  obtain ⟨x_low, he, hm⟩ := Option.bind_eq_some_iff.mp hm
  refine go_setA ((T2 Str Int)) 3 G.sm (ev_tup2 (ea_cons ev_str (ea_cons (ev_sub (ev_mod (ev_varK 1 rfl r_cell_here kv_far_1) (ev_powcA (100000000000000000) ev_int ev_int (by decide) (by decide +kernel)) (by decide)) (ev_powcA (10000000000000000) ev_int ev_int (by decide) (by decide +kernel))) ea_nil))) (fun v_low F H g rn_ => ?_) sc_far.nd
  have G := G.trans g
  have r_cell_here := Rp.mono g.ff r_cell_here
  have r_names := Rp.mono g.ff r_names
  have r_low := cg (Option.some.inj he) rn_
  change GoS _ _ _ [some v_script, some v_cell_here, some v_names, some v_low, none, none, none, none] _
  obtain ⟨x_high, he, hm⟩ := Option.bind_eq_some_iff.mp hm
  refine go_setA ((T2 Str Int)) 4 G.sm (ev_tup2 (ea_cons ev_str (ea_cons (ev_add (ev_add (ev_ixT (ev_varK 3 rfl r_low kv_far_3) ev_int pj1) (ev_powcA (1000000000000000) ev_int ev_int (by decide) (by decide +kernel))) (ev_mod (ev_div (ev_varK 1 rfl r_cell_here kv_far_1) ev_int ⟨by decide, by decide⟩) (ev_powcA (100000000000000000) ev_int ev_int (by decide) (by decide +kernel)) (by decide))) ea_nil))) (fun v_high F H g rn_ => ?_) sc_far.nd
  have G := G.trans g
  have r_cell_here := Rp.mono g.ff r_cell_here
  have r_names := Rp.mono g.ff r_names
  have r_low := Rp.mono g.ff r_low
  have r_high := cg (Option.some.inj he) rn_
  change GoS _ _ _ [some v_script, some v_cell_here, some v_names, some v_low, some v_high, none, none, none] _
  obtain ⟨t6, h_t6, hm⟩ := Option.bind_eq_some_iff.mp hm
  obtain ⟨x_depth, he, hm⟩ := Option.bind_eq_some_iff.mp hm
  refine go_setA (Int) 5 G.sm (ev_add ev_int (ev_mod (ev_call (ok_mixed T) (hr.mono (by omega)) T.g_mixed T.F_mixed.kp (b_mixed T) (ea_cons (ev_varK 1 rfl r_cell_here kv_far_1) (ea_cons ev_int ea_nil)) h_t6 gl_far_mixed) ev_int (by decide))) (fun v_depth F H g rn_ => ?_) sc_far.nd
  have G := G.trans g
  have r_cell_here := Rp.mono g.ff r_cell_here
  have r_names := Rp.mono g.ff r_names
  have r_low := Rp.mono g.ff r_low
  have r_high := Rp.mono g.ff r_high
  have r_depth := cg (Option.some.inj he) rn_
  change GoS _ _ _ [some v_script, some v_cell_here, some v_names, some v_low, some v_high, some v_depth, none, none] _
  obtain ⟨x_lows, he, hm⟩ := Option.bind_eq_some_iff.mp hm
  refine go_setA ((T2 (T2 Str Int) (T2 Str Int))) 6 G.sm (ev_tup2 (ea_cons (ev_varK 3 rfl r_low kv_far_3) (ea_cons (ev_tup2 (ea_cons (ev_ixT (ev_varK 2 rfl r_names kv_far_2) ev_int pj0) (ea_cons ev_int ea_nil))) ea_nil))) (fun v_lows F H g rn_ => ?_) sc_far.nd
  have G := G.trans g
  have r_cell_here := Rp.mono g.ff r_cell_here
  have r_names := Rp.mono g.ff r_names
  have r_low := Rp.mono g.ff r_low
  have r_high := Rp.mono g.ff r_high
  have r_depth := Rp.mono g.ff r_depth
  have r_lows := cg (Option.some.inj he) rn_
  change GoS _ _ _ [some v_script, some v_cell_here, some v_names, some v_low, some v_high, some v_depth, some v_lows, none] _
  obtain ⟨t7, h_t7, hm⟩ := Option.bind_eq_some_iff.mp hm
  obtain ⟨x_highs, he, hm⟩ := Option.bind_eq_some_iff.mp hm
  refine go_setA ((T2 (T2 Str Int) (T2 Str Int))) 7 G.sm (ev_tup2 (ea_cons (ev_varK 4 rfl r_high kv_far_4) (ea_cons (ev_tup2 (ea_cons (ev_ixT (ev_varK 2 rfl r_names kv_far_2) ev_int pj0) (ea_cons (ev_mod (ev_call (ok_mixed T) (hr.mono (by omega)) T.g_mixed T.F_mixed.kp (b_mixed T) (ea_cons (ev_varK 1 rfl r_cell_here kv_far_1) (ea_cons ev_int ea_nil)) h_t7 gl_far_mixed) ev_int (by decide)) ea_nil))) ea_nil))) (fun v_highs F H g rn_ => ?_) sc_far.nd
  have G := G.trans g
  have r_cell_here := Rp.mono g.ff r_cell_here
  have r_names := Rp.mono g.ff r_names
  have r_high := Rp.mono g.ff r_high
  have r_depth := Rp.mono g.ff r_depth
  have r_lows := Rp.mono g.ff r_lows
  have r_highs := cg (Option.some.inj he) rn_
  change GoS _ _ _ [some v_script, some v_cell_here, some v_names, some v_low, some v_high, some v_depth, some v_lows, some v_highs] _
  obtain ⟨t8, h_t8, hm⟩ := Option.bind_eq_some_iff.mp hm
  exact go_ret G.sm (ev_tup7 (ea_cons (ev_sliceT (Ev.tp2 (ev_varK 2 rfl r_names kv_far_2)) eo_none (eo_some (ev_varK 5 rfl r_depth kv_far_5))) (ea_cons (ev_sliceT (Ev.tp2 (ev_varK 6 rfl r_lows kv_far_6)) eo_none (eo_some (ev_varK 5 rfl r_depth kv_far_5))) (ea_cons (ev_sliceT (Ev.tp2 (ev_varK 7 rfl r_highs kv_far_7)) eo_none (eo_some (ev_varK 5 rfl r_depth kv_far_5))) (ea_cons ev_str (ea_cons (ev_tp (el_cons (ev_tup2 (ea_cons ev_str (ea_cons ev_int ea_nil))) el_nil) (by show 1 ≤ sizeLine; decide)) (ea_cons (UShape.mkv_n (ev_tup2 (ea_cons ev_str (ea_cons ev_int ea_nil)))) (ea_cons (ev_mulT (Ev.tp1 (ev_tup1 (ea_cons ev_int ea_nil))) (ev_add (ev_varK 5 rfl r_depth kv_far_5) ev_int) h_t8) ea_nil)))))))) fun v_ F_ H_ g_ rv_ => kr _ _ _ (G.trans g_) (cg (Option.some.inj hm) rv_)
theorem sc_Number_init : FnScope ["self", "n"] ["self", "n"] (defScope s_Number_init) := ⟨rfl, rfl, rfl, by decide +kernel, rfl, by decide +kernel, by decide +kernel⟩
theorem b_Number_init (T : Txt K mg) : Binds K T.d_Number_init ["self", "n"] [] := T.F_Number_init.bindsN fun _ _ _ _ _ _ us hl => match us, hl with | [_, _], _ => rfl
theorem kv_Number_init_1 : VKn (defScope s_Number_init) "n" := ⟨by first | exact Or.inl (by decide +kernel) | exact Or.inr (Or.inl (by decide +kernel)) | exact Or.inr (Or.inr (by decide +kernel)), by decide, by decide⟩
theorem ok_Number_init (T : Txt K mg) : FnOk P w K mg base CX0 1 (He.fAd K ("Number", some "__init__")) T.d_Number_init ["self", "n"] (PrI K (He.ga K "Number") fs_Number fun (a_ : Int × Unit) => m_Number_init a_.1) := by
  refine fn_init T.F_Number_init sc_Number_init rfl fun cdv A outer s_ F0 H0 y_ dx_ vs a_ r D_ E_ hr G fy_ hy_ ra_ hm kn => ?_
  obtain ⟨v_n, _, rfl, r_n, rfl⟩ := ra_
  obtain ⟨x_n, _u⟩ := a_
  replace hm : m_Number_init x_n = some r := hm
  unfold m_Number_init at hm
  have r_n : rp (α := Int) K F0 v_n x_n := r_n
  refine go_fld (names := []) (vs := []) 0 G.sm fy_ hy_ rfl (by decide) (by decide +kernel) T.cl_Number T.na_Number_n rfl (ev_varK 1 rfl r_n kv_Number_init_1) (fun w0 F H g rw0 fy_ hy_ => ?_)
  have G := (G.trans g).poke (u := .ins (He.ga K "Number") dx_ (List.zip ["n"] [w0])) er_same fy_ ⟨_, hy_, trivial⟩ ⟨_, upd_same, trivial⟩
  have r_n := Rp.mono g.ff r_n
  have hy_ : upd H y_ (.ins (He.ga K "Number") dx_ (List.zip ["n"] [w0])) y_ = some (.ins (He.ga K "Number") dx_ (List.zip ["n"] [w0])) := upd_same
  cases (Option.some.inj hm)
  exact GoS.nil (kn _ _ _ [w0] G fy_ hy_ ⟨_, _, rfl, rw0, rfl⟩)
theorem sc_Value_init : FnScope ["self", "name"] ["self", "name"] (defScope s_Value_init) := ⟨rfl, rfl, rfl, by decide +kernel, rfl, by decide +kernel, by decide +kernel⟩
theorem b_Value_init (T : Txt K mg) : Binds K T.d_Value_init ["self", "name"] [] := T.F_Value_init.bindsN fun _ _ _ _ _ _ us hl => match us, hl with | [_, _], _ => rfl
theorem kv_Value_init_1 : VKn (defScope s_Value_init) "name" := ⟨by first | exact Or.inl (by decide +kernel) | exact Or.inr (Or.inl (by decide +kernel)) | exact Or.inr (Or.inr (by decide +kernel)), by decide, by decide⟩
theorem ok_Value_init (T : Txt K mg) : FnOk P w K mg base CX0 1 (He.fAd K ("Value", some "__init__")) T.d_Value_init ["self", "name"] (PrI K (He.ga K "Value") fs_Value fun (a_ : Str × Unit) => m_Value_init a_.1) := by
  refine fn_init T.F_Value_init sc_Value_init rfl fun cdv A outer s_ F0 H0 y_ dx_ vs a_ r D_ E_ hr G fy_ hy_ ra_ hm kn => ?_
  obtain ⟨v_name, _, rfl, r_name, rfl⟩ := ra_
  obtain ⟨x_name, _u⟩ := a_
  replace hm : m_Value_init x_name = some r := hm
  unfold m_Value_init at hm
  have r_name : rp (α := Str) K F0 v_name x_name := r_name
  refine go_fld (names := []) (vs := []) 0 G.sm fy_ hy_ rfl (by decide) (by decide +kernel) T.cl_Value T.na_Value_name rfl (ev_varK 1 rfl r_name kv_Value_init_1) (fun w0 F H g rw0 fy_ hy_ => ?_)
  have G := (G.trans g).poke (u := .ins (He.ga K "Value") dx_ (List.zip ["name"] [w0])) er_same fy_ ⟨_, hy_, trivial⟩ ⟨_, upd_same, trivial⟩
  have r_name := Rp.mono g.ff r_name
  have hy_ : upd H y_ (.ins (He.ga K "Value") dx_ (List.zip ["name"] [w0])) y_ = some (.ins (He.ga K "Value") dx_ (List.zip ["name"] [w0])) := upd_same
  cases (Option.some.inj hm)
  exact GoS.nil (kn _ _ _ [w0] G fy_ hy_ ⟨_, _, rfl, rw0, rfl⟩)
theorem sc_Cell_init : FnScope ["self", "table", "spots"] ["self", "table", "spots"] (defScope s_Cell_init) := ⟨rfl, rfl, rfl, by decide +kernel, rfl, by decide +kernel, by decide +kernel⟩
theorem b_Cell_init (T : Txt K mg) : Binds K T.d_Cell_init ["self", "table", "spots"] [] := T.F_Cell_init.bindsN fun _ _ _ _ _ _ us hl => match us, hl with | [_, _, _], _ => rfl
theorem kv_Cell_init_1 : VKn (defScope s_Cell_init) "table" := ⟨by first | exact Or.inl (by decide +kernel) | exact Or.inr (Or.inl (by decide +kernel)) | exact Or.inr (Or.inr (by decide +kernel)), by decide, by decide⟩
theorem kv_Cell_init_2 : VKn (defScope s_Cell_init) "spots" := ⟨by first | exact Or.inl (by decide +kernel) | exact Or.inr (Or.inl (by decide +kernel)) | exact Or.inr (Or.inr (by decide +kernel)), by decide, by decide⟩
theorem ok_Cell_init (T : Txt K mg) : FnOk P w K mg base CX0 1 (He.fAd K ("Cell", some "__init__")) T.d_Cell_init ["self", "table", "spots"] (PrI K (He.ga K "Cell") fs_Cell fun (a_ : Str × (Tp (T2 Str Int)) × Unit) => m_Cell_init a_.1 a_.2.1) := by
  refine fn_init T.F_Cell_init sc_Cell_init rfl fun cdv A outer s_ F0 H0 y_ dx_ vs a_ r D_ E_ hr G fy_ hy_ ra_ hm kn => ?_
  obtain ⟨v_table, _, rfl, r_table, v_spots, _, rfl, r_spots, rfl⟩ := ra_
  obtain ⟨x_table, x_spots, _u⟩ := a_
  replace hm : m_Cell_init x_table x_spots = some r := hm
  unfold m_Cell_init at hm
  have r_table : rp (α := Str) K F0 v_table x_table := r_table
  have r_spots : rp (α := (Tp (T2 Str Int))) K F0 v_spots x_spots := r_spots
  refine go_fld (names := []) (vs := []) 0 G.sm fy_ hy_ rfl (by decide) (by decide +kernel) T.cl_Cell T.na_Cell_table rfl (ev_varK 1 rfl r_table kv_Cell_init_1) (fun w0 F H g rw0 fy_ hy_ => ?_)
  have G := (G.trans g).poke (u := .ins (He.ga K "Cell") dx_ (List.zip ["table"] [w0])) er_same fy_ ⟨_, hy_, trivial⟩ ⟨_, upd_same, trivial⟩
  have r_table := Rp.mono g.ff r_table
  have r_spots := Rp.mono g.ff r_spots
  have hy_ : upd H y_ (.ins (He.ga K "Cell") dx_ (List.zip ["table"] [w0])) y_ = some (.ins (He.ga K "Cell") dx_ (List.zip ["table"] [w0])) := upd_same
  refine go_fld (names := ["table"]) (vs := [w0]) 0 G.sm fy_ hy_ rfl (by decide) (by decide +kernel) T.cl_Cell T.na_Cell_spots rfl (ev_varK 2 rfl r_spots kv_Cell_init_2) (fun w1 F H g rw1 fy_ hy_ => ?_)
  have G := (G.trans g).poke (u := .ins (He.ga K "Cell") dx_ (List.zip ["table", "spots"] [w0, w1])) er_same fy_ ⟨_, hy_, trivial⟩ ⟨_, upd_same, trivial⟩
  have rw0 := Rp.mono g.ff rw0
  have r_table := Rp.mono g.ff r_table
  have r_spots := Rp.mono g.ff r_spots
  have hy_ : upd H y_ (.ins (He.ga K "Cell") dx_ (List.zip ["table", "spots"] [w0, w1])) y_ = some (.ins (He.ga K "Cell") dx_ (List.zip ["table", "spots"] [w0, w1])) := upd_same
  cases (Option.some.inj hm)
  exact GoS.nil (kn _ _ _ [w0, w1] G fy_ hy_ ⟨_, _, rfl, rw0, ⟨_, _, rfl, rw1, rfl⟩⟩)
theorem sc_Joined_init : FnScope ["self", "sign", "left", "right"] ["self", "sign", "left", "right"] (defScope s_Joined_init) := ⟨rfl, rfl, rfl, by decide +kernel, rfl, by decide +kernel, by decide +kernel⟩
theorem b_Joined_init (T : Txt K mg) : Binds K T.d_Joined_init ["self", "sign", "left", "right"] [] := T.F_Joined_init.bindsN fun _ _ _ _ _ _ us hl => match us, hl with | [_, _, _, _], _ => rfl
theorem kv_Joined_init_1 : VKn (defScope s_Joined_init) "sign" := ⟨by first | exact Or.inl (by decide +kernel) | exact Or.inr (Or.inl (by decide +kernel)) | exact Or.inr (Or.inr (by decide +kernel)), by decide, by decide⟩
theorem kv_Joined_init_2 : VKn (defScope s_Joined_init) "left" := ⟨by first | exact Or.inl (by decide +kernel) | exact Or.inr (Or.inl (by decide +kernel)) | exact Or.inr (Or.inr (by decide +kernel)), by decide, by decide⟩
theorem kv_Joined_init_3 : VKn (defScope s_Joined_init) "right" := ⟨by first | exact Or.inl (by decide +kernel) | exact Or.inr (Or.inl (by decide +kernel)) | exact Or.inr (Or.inr (by decide +kernel)), by decide, by decide⟩
theorem ok_Joined_init (T : Txt K mg) : FnOk P w K mg base CX0 1 (He.fAd K ("Joined", some "__init__")) T.d_Joined_init ["self", "sign", "left", "right"] (PrI K (He.ga K "Joined") fs_Joined fun (a_ : Str × UTerm × UTerm × Unit) => m_Joined_init a_.1 a_.2.1 a_.2.2.1) := by
  refine fn_init T.F_Joined_init sc_Joined_init rfl fun cdv A outer s_ F0 H0 y_ dx_ vs a_ r D_ E_ hr G fy_ hy_ ra_ hm kn => ?_
  obtain ⟨v_sign, _, rfl, r_sign, v_left, _, rfl, r_left, v_right, _, rfl, r_right, rfl⟩ := ra_
  obtain ⟨x_sign, x_left, x_right, _u⟩ := a_
  replace hm : m_Joined_init x_sign x_left x_right = some r := hm
  unfold m_Joined_init at hm
  have r_sign : rp (α := Str) K F0 v_sign x_sign := r_sign
  have r_left : rp (α := UTerm) K F0 v_left x_left := r_left
  have r_right : rp (α := UTerm) K F0 v_right x_right := r_right
  refine go_fld (names := []) (vs := []) 0 G.sm fy_ hy_ rfl (by decide) (by decide +kernel) T.cl_Joined T.na_Joined_sign rfl (ev_varK 1 rfl r_sign kv_Joined_init_1) (fun w0 F H g rw0 fy_ hy_ => ?_)
  have G := (G.trans g).poke (u := .ins (He.ga K "Joined") dx_ (List.zip ["sign"] [w0])) er_same fy_ ⟨_, hy_, trivial⟩ ⟨_, upd_same, trivial⟩
  have r_sign := Rp.mono g.ff r_sign
  have r_left := Rp.mono g.ff r_left
  have r_right := Rp.mono g.ff r_right
  have hy_ : upd H y_ (.ins (He.ga K "Joined") dx_ (List.zip ["sign"] [w0])) y_ = some (.ins (He.ga K "Joined") dx_ (List.zip ["sign"] [w0])) := upd_same
  refine go_fld (names := ["sign"]) (vs := [w0]) 0 G.sm fy_ hy_ rfl (by decide) (by decide +kernel) T.cl_Joined T.na_Joined_left rfl (ev_varK 2 rfl r_left kv_Joined_init_2) (fun w1 F H g rw1 fy_ hy_ => ?_)
  have G := (G.trans g).poke (u := .ins (He.ga K "Joined") dx_ (List.zip ["sign", "left"] [w0, w1])) er_same fy_ ⟨_, hy_, trivial⟩ ⟨_, upd_same, trivial⟩
  have rw0 := Rp.mono g.ff rw0
  have r_sign := Rp.mono g.ff r_sign
  have r_left := Rp.mono g.ff r_left
  have r_right := Rp.mono g.ff r_right
  have hy_ : upd H y_ (.ins (He.ga K "Joined") dx_ (List.zip ["sign", "left"] [w0, w1])) y_ = some (.ins (He.ga K "Joined") dx_ (List.zip ["sign", "left"] [w0, w1])) := upd_same
  refine go_fld (names := ["sign", "left"]) (vs := [w0, w1]) 0 G.sm fy_ hy_ rfl (by decide) (by decide +kernel) T.cl_Joined T.na_Joined_right rfl (ev_varK 3 rfl r_right kv_Joined_init_3) (fun w2 F H g rw2 fy_ hy_ => ?_)
  have G := (G.trans g).poke (u := .ins (He.ga K "Joined") dx_ (List.zip ["sign", "left", "right"] [w0, w1, w2])) er_same fy_ ⟨_, hy_, trivial⟩ ⟨_, upd_same, trivial⟩
  have rw0 := Rp.mono g.ff rw0
  have rw1 := Rp.mono g.ff rw1
  have r_sign := Rp.mono g.ff r_sign
  have r_left := Rp.mono g.ff r_left
  have r_right := Rp.mono g.ff r_right
  have hy_ : upd H y_ (.ins (He.ga K "Joined") dx_ (List.zip ["sign", "left", "right"] [w0, w1, w2])) y_ = some (.ins (He.ga K "Joined") dx_ (List.zip ["sign", "left", "right"] [w0, w1, w2])) := upd_same
  cases (Option.some.inj hm)
  exact GoS.nil (kn _ _ _ [w0, w1, w2] G fy_ hy_ ⟨_, _, rfl, rw0, ⟨_, _, rfl, rw1, ⟨_, _, rfl, rw2, rfl⟩⟩⟩)
theorem sc_object : FnScope ["_law_term_here"] ["_law_term_here"] (defScope s_object) := ⟨rfl, rfl, rfl, by decide +kernel, rfl, by decide +kernel, by decide +kernel⟩
theorem b_object (T : Txt K mg) : Binds K T.d_object ["_law_term_here"] [] := T.F_object.bindsN fun _ _ _ _ _ _ us hl => match us, hl with | [_], _ => rfl
theorem kv_object_0 : VKn (defScope s_object) "_law_term_here" := ⟨by first | exact Or.inl (by decide +kernel) | exact Or.inr (Or.inl (by decide +kernel)) | exact Or.inr (Or.inr (by decide +kernel)), by decide, by decide⟩
theorem gl_object_object : (defScope s_object).names.lookup ("_law_object" : Str) = some NameKind.globalImplicit := by decide +kernel
theorem ok_object (T : Txt K mg) : ∀ n_ : Nat, FnOk P w K mg base CX0 (2 + n_ + 1) (He.fAd K ("_law_object", none)) T.d_object ["_law_term_here"] (Pr K fun (a_ : UShape × Unit) => m_object n_ a_.1)
  | 0 => by
    refine fn_ok T.F_object sc_object rfl fun cdv A outer s_ F0 H0 vs a_ r D_ E_ hr sm_ ra_ hm kr kn => ?_
    exact nomatch (show none = some r from hm)
  | n_ + 1 => by
    have ih_ := ok_object T n_
    refine fn_ok T.F_object sc_object rfl fun cdv A outer s_ F0 H0 vs a_ r D_ E_ hr sm_ ra_ hm kr kn => ?_
    obtain ⟨v_term_here, _, rfl, r_term_here, rfl⟩ := ra_
    obtain ⟨x_term_here, _u⟩ := a_
    have G : GrX K F0 H0 F0 H0 := .refl sm_
    replace hm : m_object (n_ + 1) x_term_here = some r := hm
    rw [m_object] at hm
    have r_term_here : rp (α := UShape) K F0 v_term_here x_term_here := r_term_here
    change GoS _ _ _ [some v_term_here] _
    refine go_ifA ((decide (x_term_here.tag = ("n" : Str)))) G.sm (et_cmp op_eq o2_eq (UShape.ev_tag (ev_varK 0 rfl r_term_here kv_object_0)) ev_str (nomark _)) (fun hc F H g => ?_) (fun hc F H g => ?_)
    · replace hm := ipos hc hm
      have G := G.trans g
      have r_term_here := Rp.mono g.ff r_term_here
      obtain ⟨t1, h_t1, hm⟩ := Option.bind_eq_some_iff.mp hm
      exact go_ret G.sm (UTerm.mk_Number (ev_make (z := QNumber.mk t1.b) (names := fs_Number) (cn := "Number") (fun _ _ h => h) T.mk_Number (ok_Number_init T) (hr.mono (by omega)) T.g_Number (b_Number_init T) (ea_cons (ev_ixT (UShape.evv_n (ev_varK 0 rfl r_term_here kv_object_0) h_t1) ev_int pj1) ea_nil) rfl)) fun v_ F_ H_ g_ rv_ => kr _ _ _ (G.trans g_) (cg (Option.some.inj hm) rv_)
    · replace hm := ineg (nt hc) hm
      have G := G.trans g
      have r_term_here := Rp.mono g.ff r_term_here
      refine GoS.nil ?_
      refine go_ifA ((decide (x_term_here.tag = ("v" : Str)))) G.sm (et_cmp op_eq o2_eq (UShape.ev_tag (ev_varK 0 rfl r_term_here kv_object_0)) ev_str (nomark _)) (fun hc F H g => ?_) (fun hc F H g => ?_)
      · replace hm := ipos hc hm
        have G := G.trans g
        have r_term_here := Rp.mono g.ff r_term_here
        obtain ⟨t2, h_t2, hm⟩ := Option.bind_eq_some_iff.mp hm
        exact go_ret G.sm (UTerm.mk_Value (ev_make (z := QValue.mk t2.b) (names := fs_Value) (cn := "Value") (fun _ _ h => h) T.mk_Value (ok_Value_init T) (hr.mono (by omega)) T.g_Value (b_Value_init T) (ea_cons (ev_ixT (UShape.evv_v (ev_varK 0 rfl r_term_here kv_object_0) h_t2) ev_int pj1) ea_nil) rfl)) fun v_ F_ H_ g_ rv_ => kr _ _ _ (G.trans g_) (cg (Option.some.inj hm) rv_)
      · replace hm := ineg (nt hc) hm
        have G := G.trans g
        have r_term_here := Rp.mono g.ff r_term_here
        refine GoS.nil ?_
        refine go_ifA ((decide (x_term_here.tag = ("c" : Str)))) G.sm (et_cmp op_eq o2_eq (UShape.ev_tag (ev_varK 0 rfl r_term_here kv_object_0)) ev_str (nomark _)) (fun hc F H g => ?_) (fun hc F H g => ?_)
        · replace hm := ipos hc hm
          have G := G.trans g
          have r_term_here := Rp.mono g.ff r_term_here
          obtain ⟨t3, h_t3, hm⟩ := Option.bind_eq_some_iff.mp hm
          obtain ⟨t4, h_t4, hm⟩ := Option.bind_eq_some_iff.mp hm
          exact go_ret G.sm (UTerm.mk_Cell (ev_make (z := QCell.mk t3.b t4.c) (names := fs_Cell) (cn := "Cell") (fun _ _ h => h) T.mk_Cell (ok_Cell_init T) (hr.mono (by omega)) T.g_Cell (b_Cell_init T) (ea_cons (ev_ixT (UShape.evv_c (ev_varK 0 rfl r_term_here kv_object_0) h_t3) ev_int pj1) (ea_cons (ev_ixT (UShape.evv_c (ev_varK 0 rfl r_term_here kv_object_0) h_t4) ev_int pj2) ea_nil)) rfl)) fun v_ F_ H_ g_ rv_ => kr _ _ _ (G.trans g_) (cg (Option.some.inj hm) rv_)
        · replace hm := ineg (nt hc) hm
          have G := G.trans g
          have r_term_here := Rp.mono g.ff r_term_here
          refine GoS.nil ?_
          obtain ⟨t5, h_t5, hm⟩ := Option.bind_eq_some_iff.mp hm
          obtain ⟨t6, h_t6, hm⟩ := Option.bind_eq_some_iff.mp hm
          obtain ⟨t7, h_t7, hm⟩ := Option.bind_eq_some_iff.mp hm
          obtain ⟨t8, h_t8, hm⟩ := Option.bind_eq_some_iff.mp hm
          exact go_ret G.sm (UTerm.mk_Joined (ev_make (z := QJoined.mk x_term_here.tag t6 t8) (names := fs_Joined) (cn := "Joined") (fun _ _ h => h) T.mk_Joined (ok_Joined_init T) (hr.mono (by omega)) T.g_Joined (b_Joined_init T) (ea_cons (UShape.ev_tag (ev_varK 0 rfl r_term_here kv_object_0)) (ea_cons (ev_call ih_ (hr.mono (by omega)) T.g_object T.F_object.kp (b_object T) (ea_cons (ev_ixT (UShape.evv_any (ev_varK 0 rfl r_term_here kv_object_0) h_t5) ev_int pj1) ea_nil) h_t6 gl_object_object) (ea_cons (ev_call ih_ (hr.mono (by omega)) T.g_object T.F_object.kp (b_object T) (ea_cons (ev_ixT (UShape.evv_any (ev_varK 0 rfl r_term_here kv_object_0) h_t7) ev_int pj2) ea_nil) h_t8 gl_object_object) ea_nil))) rfl)) fun v_ F_ H_ g_ rv_ => kr _ _ _ (G.trans g_) (cg (Option.some.inj hm) rv_)
theorem sc_Deed_init : FnScope ["self", "names", "lows", "highs", "table", "spots", "term", "path"] ["self", "names", "lows", "highs", "table", "spots", "term", "path"] (defScope s_Deed_init) := ⟨rfl, rfl, rfl, by decide +kernel, rfl, by decide +kernel, by decide +kernel⟩
theorem b_Deed_init (T : Txt K mg) : Binds K T.d_Deed_init ["self", "names", "lows", "highs", "table", "spots", "term", "path"] [] := T.F_Deed_init.bindsN fun _ _ _ _ _ _ us hl => match us, hl with | [_, _, _, _, _, _, _, _], _ => rfl
theorem kv_Deed_init_1 : VKn (defScope s_Deed_init) "names" := ⟨by first | exact Or.inl (by decide +kernel) | exact Or.inr (Or.inl (by decide +kernel)) | exact Or.inr (Or.inr (by decide +kernel)), by decide, by decide⟩
theorem kv_Deed_init_2 : VKn (defScope s_Deed_init) "lows" := ⟨by first | exact Or.inl (by decide +kernel) | exact Or.inr (Or.inl (by decide +kernel)) | exact Or.inr (Or.inr (by decide +kernel)), by decide, by decide⟩
theorem kv_Deed_init_3 : VKn (defScope s_Deed_init) "highs" := ⟨by first | exact Or.inl (by decide +kernel) | exact Or.inr (Or.inl (by decide +kernel)) | exact Or.inr (Or.inr (by decide +kernel)), by decide, by decide⟩
theorem kv_Deed_init_4 : VKn (defScope s_Deed_init) "table" := ⟨by first | exact Or.inl (by decide +kernel) | exact Or.inr (Or.inl (by decide +kernel)) | exact Or.inr (Or.inr (by decide +kernel)), by decide, by decide⟩
theorem kv_Deed_init_5 : VKn (defScope s_Deed_init) "spots" := ⟨by first | exact Or.inl (by decide +kernel) | exact Or.inr (Or.inl (by decide +kernel)) | exact Or.inr (Or.inr (by decide +kernel)), by decide, by decide⟩
theorem kv_Deed_init_6 : VKn (defScope s_Deed_init) "term" := ⟨by first | exact Or.inl (by decide +kernel) | exact Or.inr (Or.inl (by decide +kernel)) | exact Or.inr (Or.inr (by decide +kernel)), by decide, by decide⟩
theorem kv_Deed_init_7 : VKn (defScope s_Deed_init) "path" := ⟨by first | exact Or.inl (by decide +kernel) | exact Or.inr (Or.inl (by decide +kernel)) | exact Or.inr (Or.inr (by decide +kernel)), by decide, by decide⟩
theorem ok_Deed_init (T : Txt K mg) : FnOk P w K mg base CX0 1 (He.fAd K ("Deed", some "__init__")) T.d_Deed_init ["self", "names", "lows", "highs", "table", "spots", "term", "path"] (PrI K (He.ga K "Deed") fs_Deed fun (a_ : (Tp Str) × (Tp (T2 Str Int)) × (Tp (T2 Str Int)) × Str × (Tp (T2 Str Int)) × UTerm × (Tp Int) × Unit) => m_Deed_init a_.1 a_.2.1 a_.2.2.1 a_.2.2.2.1 a_.2.2.2.2.1 a_.2.2.2.2.2.1 a_.2.2.2.2.2.2.1) := by
  refine fn_init T.F_Deed_init sc_Deed_init rfl fun cdv A outer s_ F0 H0 y_ dx_ vs a_ r D_ E_ hr G fy_ hy_ ra_ hm kn => ?_
  obtain ⟨v_names, _, rfl, r_names, v_lows, _, rfl, r_lows, v_highs, _, rfl, r_highs, v_table, _, rfl, r_table, v_spots, _, rfl, r_spots, v_term, _, rfl, r_term, v_path, _, rfl, r_path, rfl⟩ := ra_
  obtain ⟨x_names, x_lows, x_highs, x_table, x_spots, x_term, x_path, _u⟩ := a_
  replace hm : m_Deed_init x_names x_lows x_highs x_table x_spots x_term x_path = some r := hm
  unfold m_Deed_init at hm
  have r_names : rp (α := (Tp Str)) K F0 v_names x_names := r_names
  have r_lows : rp (α := (Tp (T2 Str Int))) K F0 v_lows x_lows := r_lows
  have r_highs : rp (α := (Tp (T2 Str Int))) K F0 v_highs x_highs := r_highs
  have r_table : rp (α := Str) K F0 v_table x_table := r_table
  have r_spots : rp (α := (Tp (T2 Str Int))) K F0 v_spots x_spots := r_spots
  have r_term : rp (α := UTerm) K F0 v_term x_term := r_term
  have r_path : rp (α := (Tp Int)) K F0 v_path x_path := r_path
  refine go_fld (names := []) (vs := []) 0 G.sm fy_ hy_ rfl (by decide) (by decide +kernel) T.cl_Deed T.na_Deed_names rfl (ev_varK 1 rfl r_names kv_Deed_init_1) (fun w0 F H g rw0 fy_ hy_ => ?_)
  have G := (G.trans g).poke (u := .ins (He.ga K "Deed") dx_ (List.zip ["names"] [w0])) er_same fy_ ⟨_, hy_, trivial⟩ ⟨_, upd_same, trivial⟩
  have r_names := Rp.mono g.ff r_names
  have r_lows := Rp.mono g.ff r_lows
  have r_highs := Rp.mono g.ff r_highs
  have r_table := Rp.mono g.ff r_table
  have r_spots := Rp.mono g.ff r_spots
  have r_term := Rp.mono g.ff r_term
  have r_path := Rp.mono g.ff r_path
  have hy_ : upd H y_ (.ins (He.ga K "Deed") dx_ (List.zip ["names"] [w0])) y_ = some (.ins (He.ga K "Deed") dx_ (List.zip ["names"] [w0])) := upd_same
  refine go_fld (names := ["names"]) (vs := [w0]) 0 G.sm fy_ hy_ rfl (by decide) (by decide +kernel) T.cl_Deed T.na_Deed_lows rfl (ev_varK 2 rfl r_lows kv_Deed_init_2) (fun w1 F H g rw1 fy_ hy_ => ?_)
  have G := (G.trans g).poke (u := .ins (He.ga K "Deed") dx_ (List.zip ["names", "lows"] [w0, w1])) er_same fy_ ⟨_, hy_, trivial⟩ ⟨_, upd_same, trivial⟩
  have rw0 := Rp.mono g.ff rw0
  have r_names := Rp.mono g.ff r_names
  have r_lows := Rp.mono g.ff r_lows
  have r_highs := Rp.mono g.ff r_highs
  have r_table := Rp.mono g.ff r_table
  have r_spots := Rp.mono g.ff r_spots
  have r_term := Rp.mono g.ff r_term
  have r_path := Rp.mono g.ff r_path
  have hy_ : upd H y_ (.ins (He.ga K "Deed") dx_ (List.zip ["names", "lows"] [w0, w1])) y_ = some (.ins (He.ga K "Deed") dx_ (List.zip ["names", "lows"] [w0, w1])) := upd_same
  refine go_fld (names := ["names", "lows"]) (vs := [w0, w1]) 0 G.sm fy_ hy_ rfl (by decide) (by decide +kernel) T.cl_Deed T.na_Deed_highs rfl (ev_varK 3 rfl r_highs kv_Deed_init_3) (fun w2 F H g rw2 fy_ hy_ => ?_)
  have G := (G.trans g).poke (u := .ins (He.ga K "Deed") dx_ (List.zip ["names", "lows", "highs"] [w0, w1, w2])) er_same fy_ ⟨_, hy_, trivial⟩ ⟨_, upd_same, trivial⟩
  have rw0 := Rp.mono g.ff rw0
  have rw1 := Rp.mono g.ff rw1
  have r_names := Rp.mono g.ff r_names
  have r_lows := Rp.mono g.ff r_lows
  have r_highs := Rp.mono g.ff r_highs
  have r_table := Rp.mono g.ff r_table
  have r_spots := Rp.mono g.ff r_spots
  have r_term := Rp.mono g.ff r_term
  have r_path := Rp.mono g.ff r_path
  have hy_ : upd H y_ (.ins (He.ga K "Deed") dx_ (List.zip ["names", "lows", "highs"] [w0, w1, w2])) y_ = some (.ins (He.ga K "Deed") dx_ (List.zip ["names", "lows", "highs"] [w0, w1, w2])) := upd_same
  refine go_fld (names := ["names", "lows", "highs"]) (vs := [w0, w1, w2]) 0 G.sm fy_ hy_ rfl (by decide) (by decide +kernel) T.cl_Deed T.na_Deed_table rfl (ev_varK 4 rfl r_table kv_Deed_init_4) (fun w3 F H g rw3 fy_ hy_ => ?_)
  have G := (G.trans g).poke (u := .ins (He.ga K "Deed") dx_ (List.zip ["names", "lows", "highs", "table"] [w0, w1, w2, w3])) er_same fy_ ⟨_, hy_, trivial⟩ ⟨_, upd_same, trivial⟩
  have rw0 := Rp.mono g.ff rw0
  have rw1 := Rp.mono g.ff rw1
  have rw2 := Rp.mono g.ff rw2
  have r_names := Rp.mono g.ff r_names
  have r_lows := Rp.mono g.ff r_lows
  have r_highs := Rp.mono g.ff r_highs
  have r_table := Rp.mono g.ff r_table
  have r_spots := Rp.mono g.ff r_spots
  have r_term := Rp.mono g.ff r_term
  have r_path := Rp.mono g.ff r_path
  have hy_ : upd H y_ (.ins (He.ga K "Deed") dx_ (List.zip ["names", "lows", "highs", "table"] [w0, w1, w2, w3])) y_ = some (.ins (He.ga K "Deed") dx_ (List.zip ["names", "lows", "highs", "table"] [w0, w1, w2, w3])) := upd_same
  refine go_fld (names := ["names", "lows", "highs", "table"]) (vs := [w0, w1, w2, w3]) 0 G.sm fy_ hy_ rfl (by decide) (by decide +kernel) T.cl_Deed T.na_Deed_spots rfl (ev_varK 5 rfl r_spots kv_Deed_init_5) (fun w4 F H g rw4 fy_ hy_ => ?_)
  have G := (G.trans g).poke (u := .ins (He.ga K "Deed") dx_ (List.zip ["names", "lows", "highs", "table", "spots"] [w0, w1, w2, w3, w4])) er_same fy_ ⟨_, hy_, trivial⟩ ⟨_, upd_same, trivial⟩
  have rw0 := Rp.mono g.ff rw0
  have rw1 := Rp.mono g.ff rw1
  have rw2 := Rp.mono g.ff rw2
  have rw3 := Rp.mono g.ff rw3
  have r_names := Rp.mono g.ff r_names
  have r_lows := Rp.mono g.ff r_lows
  have r_highs := Rp.mono g.ff r_highs
  have r_table := Rp.mono g.ff r_table
  have r_spots := Rp.mono g.ff r_spots
  have r_term := Rp.mono g.ff r_term
  have r_path := Rp.mono g.ff r_path
  have hy_ : upd H y_ (.ins (He.ga K "Deed") dx_ (List.zip ["names", "lows", "highs", "table", "spots"] [w0, w1, w2, w3, w4])) y_ = some (.ins (He.ga K "Deed") dx_ (List.zip ["names", "lows", "highs", "table", "spots"] [w0, w1, w2, w3, w4])) := upd_same
  refine go_fld (names := ["names", "lows", "highs", "table", "spots"]) (vs := [w0, w1, w2, w3, w4]) 0 G.sm fy_ hy_ rfl (by decide) (by decide +kernel) T.cl_Deed T.na_Deed_term rfl (ev_varK 6 rfl r_term kv_Deed_init_6) (fun w5 F H g rw5 fy_ hy_ => ?_)
  have G := (G.trans g).poke (u := .ins (He.ga K "Deed") dx_ (List.zip ["names", "lows", "highs", "table", "spots", "term"] [w0, w1, w2, w3, w4, w5])) er_same fy_ ⟨_, hy_, trivial⟩ ⟨_, upd_same, trivial⟩
  have rw0 := Rp.mono g.ff rw0
  have rw1 := Rp.mono g.ff rw1
  have rw2 := Rp.mono g.ff rw2
  have rw3 := Rp.mono g.ff rw3
  have rw4 := Rp.mono g.ff rw4
  have r_names := Rp.mono g.ff r_names
  have r_lows := Rp.mono g.ff r_lows
  have r_highs := Rp.mono g.ff r_highs
  have r_table := Rp.mono g.ff r_table
  have r_spots := Rp.mono g.ff r_spots
  have r_term := Rp.mono g.ff r_term
  have r_path := Rp.mono g.ff r_path
  have hy_ : upd H y_ (.ins (He.ga K "Deed") dx_ (List.zip ["names", "lows", "highs", "table", "spots", "term"] [w0, w1, w2, w3, w4, w5])) y_ = some (.ins (He.ga K "Deed") dx_ (List.zip ["names", "lows", "highs", "table", "spots", "term"] [w0, w1, w2, w3, w4, w5])) := upd_same
  refine go_fld (names := ["names", "lows", "highs", "table", "spots", "term"]) (vs := [w0, w1, w2, w3, w4, w5]) 0 G.sm fy_ hy_ rfl (by decide) (by decide +kernel) T.cl_Deed T.na_Deed_path rfl (ev_varK 7 rfl r_path kv_Deed_init_7) (fun w6 F H g rw6 fy_ hy_ => ?_)
  have G := (G.trans g).poke (u := .ins (He.ga K "Deed") dx_ (List.zip ["names", "lows", "highs", "table", "spots", "term", "path"] [w0, w1, w2, w3, w4, w5, w6])) er_same fy_ ⟨_, hy_, trivial⟩ ⟨_, upd_same, trivial⟩
  have rw0 := Rp.mono g.ff rw0
  have rw1 := Rp.mono g.ff rw1
  have rw2 := Rp.mono g.ff rw2
  have rw3 := Rp.mono g.ff rw3
  have rw4 := Rp.mono g.ff rw4
  have rw5 := Rp.mono g.ff rw5
  have r_names := Rp.mono g.ff r_names
  have r_lows := Rp.mono g.ff r_lows
  have r_highs := Rp.mono g.ff r_highs
  have r_table := Rp.mono g.ff r_table
  have r_spots := Rp.mono g.ff r_spots
  have r_term := Rp.mono g.ff r_term
  have r_path := Rp.mono g.ff r_path
  have hy_ : upd H y_ (.ins (He.ga K "Deed") dx_ (List.zip ["names", "lows", "highs", "table", "spots", "term", "path"] [w0, w1, w2, w3, w4, w5, w6])) y_ = some (.ins (He.ga K "Deed") dx_ (List.zip ["names", "lows", "highs", "table", "spots", "term", "path"] [w0, w1, w2, w3, w4, w5, w6])) := upd_same
  cases (Option.some.inj hm)
  exact GoS.nil (kn _ _ _ [w0, w1, w2, w3, w4, w5, w6] G fy_ hy_ ⟨_, _, rfl, rw0, ⟨_, _, rfl, rw1, ⟨_, _, rfl, rw2, ⟨_, _, rfl, rw3, ⟨_, _, rfl, rw4, ⟨_, _, rfl, rw5, ⟨_, _, rfl, rw6, rfl⟩⟩⟩⟩⟩⟩⟩)
theorem sc_Program_init : FnScope ["self", "size", "deeds"] ["self", "size", "deeds"] (defScope s_Program_init) := ⟨rfl, rfl, rfl, by decide +kernel, rfl, by decide +kernel, by decide +kernel⟩
theorem b_Program_init (T : Txt K mg) : Binds K T.d_Program_init ["self", "size", "deeds"] [] := T.F_Program_init.bindsN fun _ _ _ _ _ _ us hl => match us, hl with | [_, _, _], _ => rfl
theorem kv_Program_init_1 : VKn (defScope s_Program_init) "size" := ⟨by first | exact Or.inl (by decide +kernel) | exact Or.inr (Or.inl (by decide +kernel)) | exact Or.inr (Or.inr (by decide +kernel)), by decide, by decide⟩
theorem kv_Program_init_2 : VKn (defScope s_Program_init) "deeds" := ⟨by first | exact Or.inl (by decide +kernel) | exact Or.inr (Or.inl (by decide +kernel)) | exact Or.inr (Or.inr (by decide +kernel)), by decide, by decide⟩
theorem ok_Program_initN (T : Txt K mg) : FnOk P w K mg base CX0 1 (He.fAd K ("Program", some "__init__")) T.d_Program_init ["self", "size", "deeds"] (PrIN "size" "deeds" K (He.ga K "Program") fun (a_ : Int × (List QDeed) × Unit) => m_Program_initN a_.1 a_.2.1) := by
  refine fn_initN T.F_Program_init sc_Program_init rfl fun cdv A outer s_ F0 H0 y_ dx_ vs a_ r D_ E_ hr G fy_ hy_ ra_ hm kn => ?_
  obtain ⟨v_size, _, rfl, r_size, v_deeds, _, rfl, r_deeds, rfl⟩ := ra_
  obtain ⟨x_size, x_deeds, _u⟩ := a_
  replace hm : m_Program_initN x_size x_deeds = some r := hm
  unfold m_Program_initN at hm
  have r_size : rp (α := Int) K F0 v_size x_size := r_size
  have r_deeds : rp (α := (List QDeed)) K F0 v_deeds x_deeds := r_deeds
  refine go_fld (names := []) (vs := []) 0 G.sm fy_ hy_ rfl (by decide) (by decide +kernel) T.cl_Program T.na_Program_size rfl (ev_varK 1 rfl r_size kv_Program_init_1) (fun w0 F H g rw0 fy_ hy_ => ?_)
  have G := (G.trans g).poke (u := .ins (He.ga K "Program") dx_ (List.zip ["size"] [w0])) er_same fy_ ⟨_, hy_, trivial⟩ ⟨_, upd_same, trivial⟩
  have r_size := Rp.mono g.ff r_size
  have r_deeds := Rp.mono g.ff r_deeds
  have hy_ : upd H y_ (.ins (He.ga K "Program") dx_ (List.zip ["size"] [w0])) y_ = some (.ins (He.ga K "Program") dx_ (List.zip ["size"] [w0])) := upd_same
  refine go_fldN (γ := QDeed) (names := ["size"]) (vs := [w0]) 0 G.sm fy_ hy_ rfl (by decide) (by decide +kernel) T.cl_Program T.na_Program_deeds rfl (en_list_of T.n_list (ev_varK 2 rfl r_deeds kv_Program_init_2)) (fun l_ ob_ F H g nl_ fl_ hl_ rb_ fy_ hy_ => ?_)
  have nl_ := G.hh.free nl_
  have hne_ : l_ ≠ y_ := fun z_ => by
    subst z_; rw [hy_] at hl_; obtain ⟨_, e1_, _⟩ := rb_; cases hl_; cases e1_
  have G := (G.trans g).poke (u := .ins (He.ga K "Program") dx_ (List.zip ["size", "deeds"] [w0, .ref l_])) er_same fy_ ⟨_, hy_, trivial⟩ ⟨_, upd_same, trivial⟩
  have rw0 := Rp.mono g.ff rw0
  cases (Option.some.inj hm)
  exact GoS.nil (kn _ _ _ w0 l_ ob_ G fy_ upd_same rw0 nl_ fl_ (by rw [upd_ne hne_]; exact hl_) rb_)
theorem sc_made : FnScope ["_law_size_here", "_law_rows_here", "_law_deeds", "_law_row_here"] ["_law_size_here", "_law_rows_here"] (defScope s_made) := ⟨rfl, rfl, rfl, by decide +kernel, rfl, by decide +kernel, by decide +kernel⟩
theorem b_made (T : Txt K mg) : Binds K T.d_made ["_law_size_here", "_law_rows_here"] [] := T.F_made.bindsN fun _ _ _ _ _ _ us hl => match us, hl with | [_, _], _ => rfl
theorem kv_made_0 : VKn (defScope s_made) "_law_size_here" := ⟨by first | exact Or.inl (by decide +kernel) | exact Or.inr (Or.inl (by decide +kernel)) | exact Or.inr (Or.inr (by decide +kernel)), by decide, by decide⟩
theorem kv_made_1 : VKn (defScope s_made) "_law_rows_here" := ⟨by first | exact Or.inl (by decide +kernel) | exact Or.inr (Or.inl (by decide +kernel)) | exact Or.inr (Or.inr (by decide +kernel)), by decide, by decide⟩
theorem kv_made_2 : VKn (defScope s_made) "_law_deeds" := ⟨by first | exact Or.inl (by decide +kernel) | exact Or.inr (Or.inl (by decide +kernel)) | exact Or.inr (Or.inr (by decide +kernel)), by decide, by decide⟩
theorem ok_made (T : Txt K mg) : FnOk P w K mg base CX0 34 (He.fAd K ("_law_made", none)) T.d_made ["_law_size_here", "_law_rows_here"] (PrRN "Program" "size" "deeds" K fun (a_ : Int × (List (T7 (Tp Str) (Tp (T2 Str Int)) (Tp (T2 Str Int)) Str (Tp (T2 Str Int)) UShape (Tp Int))) × Unit) => m_made a_.1 a_.2.1) := by
  refine fn_okRN T.F_made sc_made rfl fun cdv A outer s_ F0 H0 vs a_ r D_ E_ hr sm_ ra_ hm kr _ => ?_
  obtain ⟨v_size_here, _, rfl, r_size_here, v_rows_here, _, rfl, r_rows_here, rfl⟩ := ra_
  obtain ⟨x_size_here, x_rows_here, _u⟩ := a_
  have G : GrX K F0 H0 F0 H0 := .refl sm_
  replace hm : m_made x_size_here x_rows_here = some r := hm
  unfold m_made at hm
  have r_size_here : rp (α := Int) K F0 v_size_here x_size_here := r_size_here
  have r_rows_here : rp (α := (List (T7 (Tp Str) (Tp (T2 Str Int)) (Tp (T2 Str Int)) Str (Tp (T2 Str Int)) UShape (Tp Int)))) K F0 v_rows_here x_rows_here := r_rows_here
  change GoS _ _ _ [some v_size_here, some v_rows_here, none, none] _
  obtain ⟨t2, h_t2, hm⟩ := Option.bind_eq_some_iff.mp hm
  obtain ⟨x_deeds, he, hm⟩ := Option.bind_eq_some_iff.mp hm
  first
    | refine go_setLc (own := [("_law_row_here", 3)]) 2 G.sm sc_made.nd (ei_list (ev_varK 1 rfl r_rows_here kv_made_1)) h_t2 (blkOk_by (N := ["_law_size_here", "_law_rows_here", "_law_deeds", "_law_row_here"]) (sc := defScope s_made) (by decide +kernel)) (fun _ _ _ _ _ => (pg_name (i := 3) sc_made.nd rfl (by first | exact Or.inl rfl | exact Or.inr rfl))) (fun x_row_here o_ hm F H v_row_here g r_row_here Q hQ => by
          have r_rows_here := Rp.mono g.ff r_rows_here
          refine hQ _ rfl ?_
          obtain ⟨t1, h_t1, hm⟩ := Option.bind_eq_some_iff.mp hm
          exact ⟨_, (Option.some.inj hm).symm, fun s_ H_ C_ cl_ fp_ => (ev_make (z := QDeed.mk x_row_here.a x_row_here.b x_row_here.c x_row_here.d x_row_here.e t1 x_row_here.g) (names := fs_Deed) (cn := "Deed") (fun _ _ h => h) T.mk_Deed (ok_Deed_init T) (hr.mono (by omega)) T.g_Deed (b_Deed_init T) (ea_cons (ev_ixT (ev_var 3 rfl r_row_here) ev_int pj0) (ea_cons (ev_ixT (ev_var 3 rfl r_row_here) ev_int pj1) (ea_cons (ev_ixT (ev_var 3 rfl r_row_here) ev_int pj2) (ea_cons (ev_ixT (ev_var 3 rfl r_row_here) ev_int pj3) (ea_cons (ev_ixT (ev_var 3 rfl r_row_here) ev_int pj4) (ea_cons (ev_call (ok_object T 30) (hr.mono (by omega)) T.g_object T.F_object.kp (b_object T) (ea_cons (ev_ixT (ev_var 3 rfl r_row_here) ev_int pj5) ea_nil) h_t1) (ea_cons (ev_ixT (ev_var 3 rfl r_row_here) ev_int pj6) ea_nil))))))) rfl)⟩) (fun l_deeds vs_ F H g nl_ fl_ hl_ rs_ => ?_)
    | refine go_setN 2 G.sm (en_comp (own := [("_law_row_here", 3)]) sc_made.nd (ei_list (ev_varK 1 rfl r_rows_here kv_made_1)) h_t2 (blkOk_by (N := ["_law_size_here", "_law_rows_here", "_law_deeds", "_law_row_here"]) (sc := defScope s_made) (by decide +kernel)) (fun _ _ _ _ _ => (pg_name (i := 3) sc_made.nd rfl (by first | exact Or.inl rfl | exact Or.inr rfl))) (fun x_row_here o_ hm F H v_row_here g r_row_here Q hQ => by
          have r_rows_here := Rp.mono g.ff r_rows_here
          refine hQ _ rfl ?_
          obtain ⟨t1, h_t1, hm⟩ := Option.bind_eq_some_iff.mp hm
          exact ⟨_, (Option.some.inj hm).symm, fun s_ H_ C_ cl_ fp_ => (ev_make (z := QDeed.mk x_row_here.a x_row_here.b x_row_here.c x_row_here.d x_row_here.e t1 x_row_here.g) (names := fs_Deed) (cn := "Deed") (fun _ _ h => h) T.mk_Deed (ok_Deed_init T) (hr.mono (by omega)) T.g_Deed (b_Deed_init T) (ea_cons (ev_ixT (ev_var 3 rfl r_row_here) ev_int pj0) (ea_cons (ev_ixT (ev_var 3 rfl r_row_here) ev_int pj1) (ea_cons (ev_ixT (ev_var 3 rfl r_row_here) ev_int pj2) (ea_cons (ev_ixT (ev_var 3 rfl r_row_here) ev_int pj3) (ea_cons (ev_ixT (ev_var 3 rfl r_row_here) ev_int pj4) (ea_cons (ev_call (ok_object T 30) (hr.mono (by omega)) T.g_object T.F_object.kp (b_object T) (ea_cons (ev_ixT (ev_var 3 rfl r_row_here) ev_int pj5) ea_nil) h_t1) (ea_cons (ev_ixT (ev_var 3 rfl r_row_here) ev_int pj6) ea_nil))))))) rfl)⟩)) (fun l_deeds vs_ F H g nl_ fl_ hl_ rs_ => ?_) sc_made.nd
  have n0_ := G.hh.free nl_
  have G := G.trans g
  have r_size_here := Rp.mono g.ff r_size_here
  have r_rows_here := Rp.mono g.ff r_rows_here
  have o_deeds : Own K _ F H l_deeds _ := Own.cg (Option.some.inj he) ⟨n0_, fl_, vs_, hl_, rs_⟩
  refine o_deeds.freeze G (fun F H s_ s2_ G r_deeds k_ => ?_)
  have r_size_here := Rp.mono s_ r_size_here
  have r_rows_here := Rp.mono s_ r_rows_here
  change GoS _ _ _ [some v_size_here, some v_rows_here, some (.ref l_deeds), none] _
  obtain ⟨t3, h_t3, hm⟩ := Option.bind_eq_some_iff.mp hm
  obtain rfl := Option.some.inj hm
  exact go_retRN (cn := "Program") (n1 := "size") (n2 := "deeds") (α := Int) (γ := QDeed) G.sm (ern_make (cn := "Program") (n1 := "size") (n2 := "deeds") T.mk_Program (ok_Program_initN T) (hr.mono (by omega)) T.g_Program (b_Program_init T) (ea_cons (ev_varK 0 rfl r_size_here kv_made_0) (ea_cons (ev_varK 2 rfl r_deeds kv_made_2) ea_nil)) h_t3) fun u_ l_ ob_ F_ H_ g_ n_ f_ h_ b_ c_ => kr _ _ _ _ _ (G.trans g_) (G.hh.free n_) f_ h_ b_ c_
theorem sc_Walk_init : FnScope ["self", "most"] ["self", "most"] (defScope s_Walk_init) := ⟨rfl, rfl, rfl, by decide +kernel, rfl, by decide +kernel, by decide +kernel⟩
theorem b_Walk_init (T : Txt K mg) : Binds K T.d_Walk_init ["self", "most"] [] := T.F_Walk_init.bindsN fun _ _ _ _ _ _ us hl => match us, hl with | [_, _], _ => rfl
theorem kv_Walk_init_1 : VKn (defScope s_Walk_init) "most" := ⟨by first | exact Or.inl (by decide +kernel) | exact Or.inr (Or.inl (by decide +kernel)) | exact Or.inr (Or.inr (by decide +kernel)), by decide, by decide⟩
theorem ok_Walk_init (T : Txt K mg) : FnOk P w K mg base CX0 1 (He.fAd K ("Walk", some "__init__")) T.d_Walk_init ["self", "most"] (PrIR "Walk" fs_Walk QWalk.rowP K fun (a_ : Int × Unit) => m_Walk_init a_.1) := by
  refine fn_initR T.F_Walk_init sc_Walk_init rfl fun cdv A outer s_ F0 H0 y_ dx_ vs a_ r D_ E_ hr G fy_ hy_ ra_ hm kn => ?_
  obtain ⟨v_most, _, rfl, r_most, rfl⟩ := ra_
  obtain ⟨x_most, _u⟩ := a_
  replace hm : m_Walk_init x_most = some r := hm
  unfold m_Walk_init at hm
  have r_most : rp (α := Int) K F0 v_most x_most := r_most
  refine go_fld (names := []) (vs := []) 0 G.sm fy_ hy_ rfl (by decide) (by decide +kernel) T.cl_Walk T.na_Walk_left rfl (ev_varK 1 rfl r_most kv_Walk_init_1) (fun w0 F H g rw0 fy_ hy_ => ?_)
  have G := (G.trans g).poke (u := .ins (He.ga K "Walk") dx_ (List.zip ["left"] [w0])) er_same fy_ ⟨_, hy_, trivial⟩ ⟨_, upd_same, trivial⟩
  have r_most := Rp.mono g.ff r_most
  have hy_ : upd H y_ (.ins (He.ga K "Walk") dx_ (List.zip ["left"] [w0])) y_ = some (.ins (He.ga K "Walk") dx_ (List.zip ["left"] [w0])) := upd_same
  refine go_fldN (γ := (T2 Int (Tp Int))) (names := ["left"]) (vs := [w0]) 0 G.sm fy_ hy_ rfl (by decide) (by decide +kernel) T.cl_Walk T.na_Walk_turns rfl (en_list el_nil (Nat.zero_le _)) (fun p1_ ob1_ F H g nl_ fl_ hl_ rb_ fy_ hy_ => ?_)
  have hne1_ : p1_ ≠ y_ := fun z_ => by
    subst z_; rw [hy_] at hl_; obtain ⟨_, e1_, _⟩ := rb_; cases hl_; cases e1_
  have op1_ : Own K _ F H p1_ _ := Own.mk' (G.hh.free nl_) fl_ hl_ rb_
  have G := (G.trans g).poke (u := .ins (He.ga K "Walk") dx_ (List.zip ["left", "turns"] [w0, .ref p1_])) er_same fy_ ⟨_, hy_, trivial⟩ ⟨_, upd_same, trivial⟩
  have rw0 := Rp.mono g.ff rw0
  have op1_ := op1_.other (u := .ins (He.ga K "Walk") dx_ (List.zip ["left", "turns"] [w0, .ref p1_])) hne1_
  have r_most := Rp.mono g.ff r_most
  have hy_ : upd H y_ (.ins (He.ga K "Walk") dx_ (List.zip ["left", "turns"] [w0, .ref p1_])) y_ = some (.ins (He.ga K "Walk") dx_ (List.zip ["left", "turns"] [w0, .ref p1_])) := upd_same
  cases (Option.some.inj hm)
  exact GoS.nil (kn _ _ _ G ⟨[p1_], er_same, fy_, ⟨dx_, [w0, .ref p1_], hy_, rfl, ⟨_, _, rfl, rw0, ⟨_, _, _, rfl, rfl, op1_, ⟨rfl, rfl⟩⟩⟩⟩, (by simp [Ne.symm hne1_]), fun b_ h_ => (nomatch h_)⟩)
theorem sc_put_apart : FnScope ["numbered", "depth", "groups", "k", "deed"] ["numbered", "depth"] (defScope s_put_apart) := ⟨rfl, rfl, rfl, by decide +kernel, rfl, by decide +kernel, by decide +kernel⟩
theorem b_put_apart (T : Txt K mg) : Binds K T.d_put_apart ["numbered", "depth"] [] := T.F_put_apart.bindsN fun _ _ _ _ _ _ us hl => match us, hl with | [_, _], _ => rfl
theorem kv_put_apart_0 : VKn (defScope s_put_apart) "numbered" := ⟨by first | exact Or.inl (by decide +kernel) | exact Or.inr (Or.inl (by decide +kernel)) | exact Or.inr (Or.inr (by decide +kernel)), by decide, by decide⟩
theorem kv_put_apart_1 : VKn (defScope s_put_apart) "depth" := ⟨by first | exact Or.inl (by decide +kernel) | exact Or.inr (Or.inl (by decide +kernel)) | exact Or.inr (Or.inr (by decide +kernel)), by decide, by decide⟩
theorem kv_put_apart_2 : VKn (defScope s_put_apart) "groups" := ⟨by first | exact Or.inl (by decide +kernel) | exact Or.inr (Or.inl (by decide +kernel)) | exact Or.inr (Or.inr (by decide +kernel)), by decide, by decide⟩
theorem kv_put_apart_3 : VKn (defScope s_put_apart) "k" := ⟨by first | exact Or.inl (by decide +kernel) | exact Or.inr (Or.inl (by decide +kernel)) | exact Or.inr (Or.inr (by decide +kernel)), by decide, by decide⟩
theorem kv_put_apart_4 : VKn (defScope s_put_apart) "deed" := ⟨by first | exact Or.inl (by decide +kernel) | exact Or.inr (Or.inl (by decide +kernel)) | exact Or.inr (Or.inr (by decide +kernel)), by decide, by decide⟩
theorem ok_put_apart (T : Txt K mg) : FnOk P w K mg base CX0 1 (He.fAd K ("put_apart", none)) T.d_put_apart ["numbered", "depth"] (Pr K fun (a_ : (List (T2 Int QDeed)) × Int × Unit) => m_put_apart a_.1 a_.2.1) := by
  refine fn_ok T.F_put_apart sc_put_apart rfl fun cdv A outer s_ F0 H0 vs a_ r D_ E_ hr sm_ ra_ hm kr kn => ?_
  obtain ⟨v_numbered, _, rfl, r_numbered, v_depth, _, rfl, r_depth, rfl⟩ := ra_
  obtain ⟨x_numbered, x_depth, _u⟩ := a_
  have G : GrX K F0 H0 F0 H0 := .refl sm_
  replace hm : m_put_apart x_numbered x_depth = some r := hm
  unfold m_put_apart at hm
  have r_numbered : rp (α := (List (T2 Int QDeed))) K F0 v_numbered x_numbered := r_numbered
  have r_depth : rp (α := Int) K F0 v_depth x_depth := r_depth
  change GoS _ _ _ [some v_numbered, some v_depth, none, none, none] _
  refine go_setN2 (α := (T2 Int QDeed)) 2 G.sm en_nil2 (fun l_groups F H g on_ => ?_) sc_put_apart.nd
  have o_groups := on_.base fun _ => G.hh.free
  have G := G.trans g
  have r_numbered := Rp.mono g.ff r_numbered
  have r_depth := Rp.mono g.ff r_depth
  change GoS _ _ _ [some v_numbered, some v_depth, some (.ref l_groups), none, none] _
  obtain ⟨b16, ho_, hm⟩ := Option.bind_eq_some_iff.mp hm
  refine go_forN G.sm (ei_list (ev_varK 0 rfl r_numbered kv_put_apart_0)) (pg_tup rfl (pgs_cons (pg_name (i := 3) sc_put_apart.nd rfl (by first | exact Or.inl rfl | exact Or.inr rfl)) (pgs_cons (pg_name (i := 4) sc_put_apart.nd rfl (by first | exact Or.inl rfl | exact Or.inr rfl)) pgs_nil))) ho_ (fun F H g => ?_) PassesOwn.never
  have G := G.trans g
  have r_depth := Rp.mono g.ff r_depth
  have o_groups := o_groups.up g
  refine ⟨fun (b1 : (List (List (T2 Int QDeed)))) σ_ F_ H_ => ∃ (u_k : Option V) (u_deed : Option V), σ_ = [some v_numbered, some v_depth, some (.ref l_groups), u_k, u_deed] ∧ GrX K F0 H0 F_ H_ ∧ Own2 K H0 F_ H_ l_groups [] b1, ⟨_, _, rfl, G, o_groups⟩, ?_, ?_⟩
  ·
    intro b1 i2 o_ hm σ_ F H w_ s1_ s2_ iv_ F H g ri_ Q_ hQ_
    obtain ⟨u_k, u_deed, rfl, G, o_groups⟩ := iv_
    have sb6 := g.ff
    have r_depth := Rp.mono s1_ r_depth
    have G := G.trans g
    have r_depth := Rp.mono g.ff r_depth
    have o_groups := o_groups.up g
    obtain ⟨pa4, _, rfl, sq5, v_k, _, rfl, r_k, v_deed, _, rfl, r_deed, rfl⟩ := ri_
    refine ⟨pa4, _, rfl, seqT_mono g.fh sq5, rfl, _, _, rfl, _, _, rfl, rfl, hQ_ _ _ ?_⟩
    change GoS _ _ _ [some v_numbered, some v_depth, some (.ref l_groups), some v_k, some v_deed] _
    obtain ⟨t11, h_t11, hm⟩ := Option.bind_eq_some_iff.mp hm
    obtain ⟨b12, hj, hm⟩ := Option.bind_eq_some_iff.mp hm
    refine go_ifjA (t11) (fun σ_ H_ => ∃ (F_ : Hp), L2.Same F F_ ∧ σ_ = [some v_numbered, some v_depth, some (.ref l_groups), some v_k, some v_deed] ∧ GrX K F0 H0 F_ H_ ∧ Own2 K H0 F_ H_ l_groups [] b12) G.sm (et_thaw2 o_groups G.fh (fun F H s_ s2_ rf_ k_ => by
            have r_depth := Rp.mono s_ r_depth
            have r_k := Rp.mono s_ r_k
            have r_deed := Rp.mono s_ r_deed
            have rf_groups := rf_
            exact (EvW.t (ew_orA (b1.isEmpty) (et_cmp (op_eqE hr.units0) o2_eqEL (ev_var 2 rfl rf_groups) (EvN.evA ((List (List (T2 Int QDeed)))) (en_list el_nil (Nat.zero_le _))) (nomark _)) (fun hc => by
            replace h_t11 := ineg (nt hc) h_t11
            obtain ⟨t7, h_t7, h_t11⟩ := Option.bind_eq_some_iff.mp h_t11
            obtain ⟨t8, h_t8, h_t11⟩ := Option.bind_eq_some_iff.mp h_t11
            obtain ⟨t9, h_t9, h_t11⟩ := Option.bind_eq_some_iff.mp h_t11
            obtain ⟨t10, h_t10, h_t11⟩ := Option.bind_eq_some_iff.mp h_t11
            exact EvW.cg (Option.some.inj h_t11) (ew_or1 (et_cmp op_ne o2_ne (ev_ixTp (ev_attr T.f_Deed_path (ev_ixT (ev_ixL (ev_ixL (ev_var 2 rfl rf_groups) (ev_neg ev_int) h_t7) ev_int h_t8) ev_int pj1)) (ev_varK 1 rfl r_depth kv_put_apart_1) h_t9) (ev_ixTp (ev_attr T.f_Deed_path (ev_varK 4 rfl r_deed kv_put_apart_4)) (ev_varK 1 rfl r_depth kv_put_apart_1) h_t10) (nomark _)))) (fun hc => by replace h_t11 := ipos hc h_t11; exact (Option.some.inj h_t11).symm))))) (fun hc F H g => ?_) (fun hc F H g => ?_) (fun σ_ H hP_ => ?_)
    · replace hj := ipos hc hj
      clear hm
      have hm := hj
      clear hj
      have G := G.trans g
      have r_depth := Rp.mono g.ff r_depth
      have o_groups := o_groups.up g
      have r_k := Rp.mono g.ff r_k
      have r_deed := Rp.mono g.ff r_deed
      have sb6 := sb6.trans g.ff
      have sj13 := g.ff
      obtain ⟨t14, h_t14, hm⟩ := Option.bind_eq_some_iff.mp hm
      refine go_appNil2 2 G.sm o_groups rfl G.hh .nil h_t14 (fun w_ F H g n0_ pl_ f0_ pl2_ ne_ on_ => ?_)
      have G := G.trans g
      have r_k := Rp.mono g.ff r_k
      have r_deed := Rp.mono g.ff r_deed
      have sb6 := sb6.trans g.ff
      have sj13 := sj13.trans g.ff
      have G := G.poke (u := w_) n0_ f0_ pl_ pl2_
      have o_groups := on_
      have hm := Option.some.inj hm
      subst hm
      exact GoS.nil ⟨_, sj13, rfl, G, o_groups⟩
    · replace hj := ineg (nt hc) hj
      clear hm
      have hm := hj
      clear hj
      have G := G.trans g
      have r_depth := Rp.mono g.ff r_depth
      have o_groups := o_groups.up g
      have r_k := Rp.mono g.ff r_k
      have r_deed := Rp.mono g.ff r_deed
      have sb6 := sb6.trans g.ff
      have sj13 := g.ff
      have hm := Option.some.inj hm
      subst hm
      exact GoS.nil ⟨_, sj13, rfl, G, o_groups⟩
    obtain ⟨F, sj_, rfl, G, o_groups⟩ := hP_
    have r_k := Rp.mono sj_ r_k
    have r_deed := Rp.mono sj_ r_deed
    have sb6 := sb6.trans sj_
    obtain ⟨t15, h_t15, hm⟩ := Option.bind_eq_some_iff.mp hm
    refine go_app22 2 G.sm o_groups rfl (ev_neg ev_int) (ev_tup2 (ea_cons (ev_varK 3 rfl r_k kv_put_apart_3) (ea_cons (ev_varK 4 rfl r_deed kv_put_apart_4) ea_nil))) h_t15 (fun p_ w_ F H g n0_ pl_ f0_ pl2_ ne_ on_ => ?_)
    have G := G.trans g
    have r_k := Rp.mono g.ff r_k
    have r_deed := Rp.mono g.ff r_deed
    have sb6 := sb6.trans g.ff
    have G := G.poke (u := w_) n0_ f0_ pl_ pl2_
    have o_groups := on_
    have hm := Option.some.inj hm
    subst hm
    exact GoS.nil ⟨_, sb6, G.fh, ⟨_, _, rfl, G, o_groups⟩⟩
  · intro σ_ F H s1_ s2_ iv_
    obtain ⟨u_k, u_deed, rfl, G, o_groups⟩ := iv_
    refine o_groups.freeze G (fun F H s_ s2_ G r_groups k_ => ?_)
    exact go_ret G.sm (ev_varK 2 rfl r_groups kv_put_apart_2) fun v_ F_ H_ g_ rv_ => kr _ _ _ (G.trans g_) (cg (Option.some.inj hm) rv_)
theorem sc_Walk_spend : FnScope ["self"] ["self"] (defScope s_Walk_spend) := ⟨rfl, rfl, rfl, by decide +kernel, rfl, by decide +kernel, by decide +kernel⟩
theorem b_Walk_spend (T : Txt K mg) : Binds K T.d_Walk_spend ["self"] [] := T.F_Walk_spend.bindsN fun _ _ _ _ _ _ us hl => match us, hl with | [_], _ => rfl
theorem ok_Walk_spend (T : Txt K mg) : FnOk P w K mg base (L2.CX P w) 1 (He.fAd K ("Walk", some "spend")) T.d_Walk_spend ["self"] (PrRE "Walk" fs_Walk QWalk.rowP K fun (a_ : Unit) (x_ : QWalk) (b_ : Unit) => m_Walk_spend x_) := by
  refine fn_okRE T.F_Walk_spend sc_Walk_spend rfl fun cdv A outer s_ F0 H0 Hs_ l_self vs1_ vs2_ a_ x_self b_ r D_ E_ hr G o_self ra_ rb_ hm kr kn kx tk_ po_ => ?_
  obtain rfl := ra_
  obtain rfl := rb_
  replace hm : m_Walk_spend x_self = some r := hm
  unfold m_Walk_spend at hm
  change GoS _ _ _ [some (.ref l_self)] _
  refine go_ifA ((decide (x_self.left < (1 : Int)))) G.sm (et_thawRc o_self G.fh (fun F H s_ s2_ rf_ k_ => by
          have rf_self : rp (α := QWalk) K F (.ref l_self) x_self := rf_
          exact (et_cmp op_lt o2_lt (ev_attr T.f_Walk_left (ev_var 0 rfl rf_self)) ev_int (nomark _)))) (fun hc F H g => ?_) (fun hc F H g => ?_)
  · replace hm := ipos hc hm
    have G := G.trans g
    have o_self := o_self.up g
    obtain rfl := Option.some.inj hm
    exact go_raise00 G.sm tk_ T.xn_TooMany T.g_TooMany (kx _ rfl _ _ _ _ G o_self.nil ⟨rfl, rfl⟩)
  · replace hm := ineg (nt hc) hm
    have G := G.trans g
    have o_self := o_self.up g
    refine GoS.nil ?_
    obtain ⟨w1, he, hm⟩ := Option.bind_eq_some_iff.mp hm
    refine go_fldR (P := QWalk.rowP) (w := x_self) (w' := w1) 0 0 G.sm o_self rfl T.cl_Walk T.na_Walk_left (ev_thawRc o_self G.fh (fun F H s_ s2_ rf_ k_ => by
            have rf_self : rp (α := QWalk) K F (.ref l_self) x_self := rf_
            exact (ev_sub (ev_attr T.f_Walk_left (ev_var 0 rfl rf_self)) ev_int))) (by rw [← Option.some.inj he]; rfl) (fun p_ w_ F H g pk_ on_ => ?_)
    have G := G.trans g
    have G := pk_.g G
    have o_self := on_
    obtain rfl := Option.some.inj hm
    exact GoS.nil (kn _ _ _ () rfl G o_self.nil rfl)
theorem sc_Walk_note : FnScope ["self", "k", "values"] ["self", "k", "values"] (defScope s_Walk_note) := ⟨rfl, rfl, rfl, by decide +kernel, rfl, by decide +kernel, by decide +kernel⟩
theorem b_Walk_note (T : Txt K mg) : Binds K T.d_Walk_note ["self", "k", "values"] [] := T.F_Walk_note.bindsN fun _ _ _ _ _ _ us hl => match us, hl with | [_, _, _], _ => rfl
theorem kv_Walk_note_1 : VKn (defScope s_Walk_note) "k" := ⟨by first | exact Or.inl (by decide +kernel) | exact Or.inr (Or.inl (by decide +kernel)) | exact Or.inr (Or.inr (by decide +kernel)), by decide, by decide⟩
theorem kv_Walk_note_2 : VKn (defScope s_Walk_note) "values" := ⟨by first | exact Or.inl (by decide +kernel) | exact Or.inr (Or.inl (by decide +kernel)) | exact Or.inr (Or.inr (by decide +kernel)), by decide, by decide⟩
theorem ok_Walk_note (T : Txt K mg) : FnOk P w K mg base (L2.CX P w) 2 (He.fAd K ("Walk", some "note")) T.d_Walk_note ["self", "k", "values"] (PrRE "Walk" fs_Walk QWalk.rowP K fun (a_ : Unit) (x_ : QWalk) (b_ : Int × (Tp Int) × Unit) => m_Walk_note x_ b_.1 b_.2.1) := by
  refine fn_okRE T.F_Walk_note sc_Walk_note rfl fun cdv A outer s_ F0 H0 Hs_ l_self vs1_ vs2_ a_ x_self b_ r D_ E_ hr G o_self ra_ rb_ hm kr kn kx tk_ po_ => ?_
  obtain rfl := ra_
  obtain ⟨v_k, _, rfl, r_k, v_values, _, rfl, r_values, rfl⟩ := rb_
  obtain ⟨x_k, x_values, _u⟩ := b_
  replace hm : m_Walk_note x_self x_k x_values = some r := hm
  unfold m_Walk_note at hm
  have r_k : rp (α := Int) K F0 v_k x_k := r_k
  have r_values : rp (α := (Tp Int)) K F0 v_values x_values := r_values
  change GoS _ _ _ [some (.ref l_self), some v_k, some v_values] _
  obtain ⟨⟨o1, t1⟩, h_t1, hm⟩ := Option.bind_eq_some_iff.mp hm
  cases o1 with
  | x e1 =>
    obtain rfl := Option.some.inj hm
    exact go_exprZR (EvXR.rz (em_methRE0 0 tk_ (by decide +kernel) T.cl_Walk T.me_Walk_spend (ok_Walk_spend T) (hr.mono (by omega)) (b_Walk_spend T) G o_self .nil rfl h_t1) (fun F_ H_ cls_ dd_ a_ xr_ => kx e1 rfl _ _ _ _ (a_.g G) a_.o xr_))
  | v z1 =>
    refine go_exprMR (ρ := Unit) (EvXR.ok (em_methRE0 0 tk_ (by decide +kernel) T.cl_Walk T.me_Walk_spend (ok_Walk_spend T) (hr.mono (by omega)) (b_Walk_spend T) G o_self .nil rfl h_t1)) (fun F H a_ => ?_)
    have Gm_ := a_.g G
    have r_k := Rp.mono a_.ff r_k
    have r_values := Rp.mono a_.ff r_values
    have G := Gm_
    have o_self := a_.o
    replace hm : ((app t1.turns (T2.mk x_k x_values)).bind fun t2 => (some { t1 with turns := t2 }).bind fun w3 => some ((Rs.v () : Rs Xn Unit), w3)) = some r := hm
    obtain ⟨t2, h_t2, hm⟩ := Option.bind_eq_some_iff.mp hm
    obtain ⟨w3, he, hm⟩ := Option.bind_eq_some_iff.mp hm
    refine go_appR (P := QWalk.rowP) (w := t1) (w' := w3) 0 1 G.sm o_self rfl T.cl_Walk T.na_Walk_turns (ev_tup2 (ea_cons (ev_varK 1 rfl r_k kv_Walk_note_1) (ea_cons (ev_varK 2 rfl r_values kv_Walk_note_2) ea_nil))) h_t2 (by rw [← Option.some.inj he]; rfl) (fun p_ w_ F H g pk_ on_ => ?_)
    have G := G.trans g
    have r_k := Rp.mono g.ff r_k
    have r_values := Rp.mono g.ff r_values
    have G := pk_.g G
    have o_self := on_
    obtain rfl := Option.some.inj hm
    exact GoS.nil (kn _ _ _ () rfl G o_self.nil rfl)
theorem sc_placed : FnScope ["spots", "values", "found", "name", "n"] ["spots", "values"] (defScope s_placed) := ⟨rfl, rfl, rfl, by decide +kernel, rfl, by decide +kernel, by decide +kernel⟩
theorem b_placed (T : Txt K mg) : Binds K T.d_placed ["spots", "values"] [] := T.F_placed.bindsN fun _ _ _ _ _ _ us hl => match us, hl with | [_, _], _ => rfl
theorem kv_placed_0 : VKn (defScope s_placed) "spots" := ⟨by first | exact Or.inl (by decide +kernel) | exact Or.inr (Or.inl (by decide +kernel)) | exact Or.inr (Or.inr (by decide +kernel)), by decide, by decide⟩
theorem kv_placed_1 : VKn (defScope s_placed) "values" := ⟨by first | exact Or.inl (by decide +kernel) | exact Or.inr (Or.inl (by decide +kernel)) | exact Or.inr (Or.inr (by decide +kernel)), by decide, by decide⟩
theorem kv_placed_3 : VKn (defScope s_placed) "name" := ⟨by first | exact Or.inl (by decide +kernel) | exact Or.inr (Or.inl (by decide +kernel)) | exact Or.inr (Or.inr (by decide +kernel)), by decide, by decide⟩
theorem kv_placed_4 : VKn (defScope s_placed) "n" := ⟨by first | exact Or.inl (by decide +kernel) | exact Or.inr (Or.inl (by decide +kernel)) | exact Or.inr (Or.inr (by decide +kernel)), by decide, by decide⟩
theorem ok_placed (T : Txt K mg) : FnOk P w K mg base CX0 1 (He.fAd K ("placed", none)) T.d_placed ["spots", "values"] (Pr K fun (a_ : (T2 (T2 Str Int) (T2 Str Int)) × (Dct Str Int) × Unit) => m_placed a_.1 a_.2.1) := by
  refine fn_ok T.F_placed sc_placed rfl fun cdv A outer s_ F0 H0 vs a_ r D_ E_ hr sm_ ra_ hm kr kn => ?_
  obtain ⟨v_spots, _, rfl, r_spots, v_values, _, rfl, r_values, rfl⟩ := ra_
  obtain ⟨x_spots, x_values, _u⟩ := a_
  have G : GrX K F0 H0 F0 H0 := .refl sm_
  replace hm : m_placed x_spots x_values = some r := hm
  unfold m_placed at hm
  have r_spots : rp (α := (T2 (T2 Str Int) (T2 Str Int))) K F0 v_spots x_spots := r_spots
  have r_values : rp (α := (Dct Str Int)) K F0 v_values x_values := r_values
  change GoS _ _ _ [some v_spots, some v_values, none, none, none] _
  obtain ⟨x_found, he, hm⟩ := Option.bind_eq_some_iff.mp hm
  refine go_setNA ((List Int)) 2 G.sm (en_list el_nil (Nat.zero_le _)) (fun l_found vs_ F H g nl_ fl_ hl_ rs_ => ?_) sc_placed.nd
  have n0_ := G.hh.free nl_
  have G := G.trans g
  have r_spots := Rp.mono g.ff r_spots
  have r_values := Rp.mono g.ff r_values
  have o_found : Own K _ F H l_found _ := Own.cg (Option.some.inj he) ⟨n0_, fl_, vs_, hl_, rs_⟩
  change GoS _ _ _ [some v_spots, some v_values, some (.ref l_found), none, none] _
  obtain ⟨b10, ho_, hm⟩ := Option.bind_eq_some_iff.mp hm
  refine go_forN G.sm (ei_tp (Ev.tp2 (ev_varK 0 rfl r_spots kv_placed_0))) (pg_tup rfl (pgs_cons (pg_name (i := 3) sc_placed.nd rfl (by first | exact Or.inl rfl | exact Or.inr rfl)) (pgs_cons (pg_name (i := 4) sc_placed.nd rfl (by first | exact Or.inl rfl | exact Or.inr rfl)) pgs_nil))) ho_ (fun F H g => ?_) PassesOwn.never
  have G := G.trans g
  have r_values := Rp.mono g.ff r_values
  have o_found := o_found.up g
  refine ⟨fun (b1 : (List Int)) σ_ F_ H_ => ∃ (u_name : Option V) (u_n : Option V), σ_ = [some v_spots, some v_values, some (.ref l_found), u_name, u_n] ∧ GrX K F0 H0 F_ H_ ∧ Own K H0 F_ H_ l_found b1, ⟨_, _, rfl, G, o_found⟩, ?_, ?_⟩
  ·
    intro b1 i2 o_ hm σ_ F H w_ s1_ s2_ iv_ F H g ri_ Q_ hQ_
    obtain ⟨u_name, u_n, rfl, G, o_found⟩ := iv_
    have sb6 := g.ff
    have r_values := Rp.mono s1_ r_values
    have G := G.trans g
    have r_values := Rp.mono g.ff r_values
    have o_found := o_found.up g
    obtain ⟨pa4, _, rfl, sq5, v_name, _, rfl, r_name, v_n, _, rfl, r_n, rfl⟩ := ri_
    refine ⟨pa4, _, rfl, seqT_mono g.fh sq5, rfl, _, _, rfl, _, _, rfl, rfl, hQ_ _ _ ?_⟩
    change GoS _ _ _ [some v_spots, some v_values, some (.ref l_found), some v_name, some v_n] _
    refine go_ifA ((decide (i2.a = ("" : Str)))) G.sm (et_cmp op_eq o2_eq (ev_varK 3 rfl r_name kv_placed_3) ev_str (nomark _)) (fun hc F H g => ?_) (fun hc F H g => ?_)
    · replace hm := ipos hc hm
      have G := G.trans g
      have r_values := Rp.mono g.ff r_values
      have o_found := o_found.up g
      have r_name := Rp.mono g.ff r_name
      have r_n := Rp.mono g.ff r_n
      have sb6 := sb6.trans g.ff
      obtain ⟨t7, he, hm⟩ := Option.bind_eq_some_iff.mp hm
      refine go_append 2 G.sm o_found rfl (ev_varK 4 rfl r_n kv_placed_4) he (fun w_ F H g nz_ fz_ on_ => ?_)
      have G := G.trans g
      have r_n := Rp.mono g.ff r_n
      have sb6 := sb6.trans g.ff
      have G := G.poke (u := w_) on_.n fz_ nz_ on_.pl
      have o_found := on_
      refine GoS.nil ?_
      have hm := Option.some.inj hm
      subst hm
      exact GoS.nil ⟨_, sb6, G.fh, ⟨_, _, rfl, G, o_found⟩⟩
    · replace hm := ineg (nt hc) hm
      have G := G.trans g
      have r_values := Rp.mono g.ff r_values
      have o_found := o_found.up g
      have r_name := Rp.mono g.ff r_name
      have r_n := Rp.mono g.ff r_n
      have sb6 := sb6.trans g.ff
      obtain ⟨t8, h_t8, hm⟩ := Option.bind_eq_some_iff.mp hm
      obtain ⟨t9, he, hm⟩ := Option.bind_eq_some_iff.mp hm
      refine go_append 2 G.sm o_found rfl (ev_add (ev_dget (room1 hr) (ev_varK 1 rfl r_values kv_placed_1) (ev_varK 3 rfl r_name kv_placed_3) h_t8) (ev_varK 4 rfl r_n kv_placed_4)) he (fun w_ F H g nz_ fz_ on_ => ?_)
      have G := G.trans g
      have r_values := Rp.mono g.ff r_values
      have r_name := Rp.mono g.ff r_name
      have r_n := Rp.mono g.ff r_n
      have sb6 := sb6.trans g.ff
      have G := G.poke (u := w_) on_.n fz_ nz_ on_.pl
      have o_found := on_
      refine GoS.nil ?_
      have hm := Option.some.inj hm
      subst hm
      exact GoS.nil ⟨_, sb6, G.fh, ⟨_, _, rfl, G, o_found⟩⟩
  · intro σ_ F H s1_ s2_ iv_
    obtain ⟨u_name, u_n, rfl, G, o_found⟩ := iv_
    change GoS _ _ _ [some v_spots, some v_values, some (.ref l_found), u_name, u_n] _
    exact go_ret G.sm (ev_thaw o_found G.fh (fun F H s_ s2_ rf_ k_ => by
            have rf_found := rf_
            exact (ev_callTy call_tuple_of oc_tuple T.n_tuple (by decide +kernel) (ea_cons (ev_var 2 rfl rf_found) ea_nil)))) fun v_ F_ H_ g_ rv_ => kr _ _ _ (G.trans g_) (cg (Option.some.inj hm) rv_)
theorem sc_bounds_of : FnScope ["deed", "values", "around", "name", "value", "depth"] ["deed", "values"] (defScope s_bounds_of) := ⟨rfl, rfl, rfl, by decide +kernel, rfl, by decide +kernel, by decide +kernel⟩
theorem b_bounds_of (T : Txt K mg) : Binds K T.d_bounds_of ["deed", "values"] [] := T.F_bounds_of.bindsN fun _ _ _ _ _ _ us hl => match us, hl with | [_, _], _ => rfl
theorem kv_bounds_of_0 : VKn (defScope s_bounds_of) "deed" := ⟨by first | exact Or.inl (by decide +kernel) | exact Or.inr (Or.inl (by decide +kernel)) | exact Or.inr (Or.inr (by decide +kernel)), by decide, by decide⟩
theorem kv_bounds_of_1 : VKn (defScope s_bounds_of) "values" := ⟨by first | exact Or.inl (by decide +kernel) | exact Or.inr (Or.inl (by decide +kernel)) | exact Or.inr (Or.inr (by decide +kernel)), by decide, by decide⟩
theorem kv_bounds_of_3 : VKn (defScope s_bounds_of) "name" := ⟨by first | exact Or.inl (by decide +kernel) | exact Or.inr (Or.inl (by decide +kernel)) | exact Or.inr (Or.inr (by decide +kernel)), by decide, by decide⟩
theorem kv_bounds_of_4 : VKn (defScope s_bounds_of) "value" := ⟨by first | exact Or.inl (by decide +kernel) | exact Or.inr (Or.inl (by decide +kernel)) | exact Or.inr (Or.inr (by decide +kernel)), by decide, by decide⟩
theorem kv_bounds_of_5 : VKn (defScope s_bounds_of) "depth" := ⟨by first | exact Or.inl (by decide +kernel) | exact Or.inr (Or.inl (by decide +kernel)) | exact Or.inr (Or.inr (by decide +kernel)), by decide, by decide⟩
theorem gl_bounds_of_placed : (defScope s_bounds_of).names.lookup ("placed" : Str) = some NameKind.globalImplicit := by decide +kernel
theorem ok_bounds_of (T : Txt K mg) : FnOk P w K mg base CX0 2 (He.fAd K ("bounds_of", none)) T.d_bounds_of ["deed", "values"] (Pr K fun (a_ : QDeed × (Tp Int) × Unit) => m_bounds_of a_.1 a_.2.1) := by
  refine fn_ok T.F_bounds_of sc_bounds_of rfl fun cdv A outer s_ F0 H0 vs a_ r D_ E_ hr sm_ ra_ hm kr kn => ?_
  obtain ⟨v_deed, _, rfl, r_deed, v_values, _, rfl, r_values, rfl⟩ := ra_
  obtain ⟨x_deed, x_values, _u⟩ := a_
  have G : GrX K F0 H0 F0 H0 := .refl sm_
  replace hm : m_bounds_of x_deed x_values = some r := hm
  unfold m_bounds_of at hm
  have r_deed : rp (α := QDeed) K F0 v_deed x_deed := r_deed
  have r_values : rp (α := (Tp Int)) K F0 v_values x_values := r_values
  change GoS _ _ _ [some v_deed, some v_values, none, none, none, none] _
  obtain ⟨x_around, he, hm⟩ := Option.bind_eq_some_iff.mp hm
  refine go_setNA ((Dct Str Int)) 2 G.sm en_dict (fun l_around vs_ F H g nl_ fl_ hl_ rs_ => ?_) sc_bounds_of.nd
  have n0_ := G.hh.free nl_
  have G := G.trans g
  have r_deed := Rp.mono g.ff r_deed
  have r_values := Rp.mono g.ff r_values
  have o_around : Own K _ F H l_around _ := Own.cg (Option.some.inj he) ⟨n0_, fl_, vs_, hl_, rs_⟩
  change GoS _ _ _ [some v_deed, some v_values, some (.ref l_around), none, none, none] _
  obtain ⟨b8, ho_, hm⟩ := Option.bind_eq_some_iff.mp hm
  refine go_forN G.sm (ei_zipT (ev_attr T.f_Deed_names (ev_varK 0 rfl r_deed kv_bounds_of_0)) (ev_varK 1 rfl r_values kv_bounds_of_1) T.n_zip) (pg_tup rfl (pgs_cons (pg_name (i := 3) sc_bounds_of.nd rfl (by first | exact Or.inl rfl | exact Or.inr rfl)) (pgs_cons (pg_name (i := 4) sc_bounds_of.nd rfl (by first | exact Or.inl rfl | exact Or.inr rfl)) pgs_nil))) ho_ (fun F H g => ?_) PassesOwn.never
  have G := G.trans g
  have r_deed := Rp.mono g.ff r_deed
  have r_values := Rp.mono g.ff r_values
  have o_around := o_around.up g
  refine ⟨fun (b1 : (Dct Str Int)) σ_ F_ H_ => ∃ (u_name : Option V) (u_value : Option V), σ_ = [some v_deed, some v_values, some (.ref l_around), u_name, u_value, none] ∧ GrX K F0 H0 F_ H_ ∧ Own K H0 F_ H_ l_around b1, ⟨_, _, rfl, G, o_around⟩, ?_, ?_⟩
  ·
    intro b1 i2 o_ hm σ_ F H w_ s1_ s2_ iv_ F H g ri_ Q_ hQ_
    obtain ⟨u_name, u_value, rfl, G, o_around⟩ := iv_
    have sb6 := g.ff
    have G := G.trans g
    have o_around := o_around.up g
    obtain ⟨pa4, _, rfl, sq5, v_name, _, rfl, r_name, v_value, _, rfl, r_value, rfl⟩ := ri_
    refine ⟨pa4, _, rfl, seqT_mono g.fh sq5, rfl, _, _, rfl, _, _, rfl, rfl, hQ_ _ _ ?_⟩
    change GoS _ _ _ [some v_deed, some v_values, some (.ref l_around), some v_name, some v_value, none] _
    obtain ⟨t7, he, hm⟩ := Option.bind_eq_some_iff.mp hm
    refine go_dput 2 G.sm (room1 hr) o_around rfl (ev_varK 4 rfl r_value kv_bounds_of_4) (ev_varK 3 rfl r_name kv_bounds_of_3) he (fun w_ F H g nz_ fz_ on_ => ?_)
    have G := G.trans g
    have r_name := Rp.mono g.ff r_name
    have r_value := Rp.mono g.ff r_value
    have sb6 := sb6.trans g.ff
    have G := G.poke (u := w_) on_.n fz_ nz_ on_.pl
    have o_around := on_
    have hm := Option.some.inj hm
    subst hm
    exact GoS.nil ⟨_, sb6, G.fh, ⟨_, _, rfl, G, o_around⟩⟩
  · intro σ_ F H s1_ s2_ iv_
    obtain ⟨u_name, u_value, rfl, G, o_around⟩ := iv_
    have r_deed := Rp.mono s1_ r_deed
    have r_values := Rp.mono s1_ r_values
    change GoS _ _ _ [some v_deed, some v_values, some (.ref l_around), u_name, u_value, none] _
    obtain ⟨x_depth, he, hm⟩ := Option.bind_eq_some_iff.mp hm
    refine go_setA (Int) 5 G.sm (ev_callB call_len_seq oc_lenTp T.n_len PySem.boot_len (ea_cons (ev_varK 1 rfl r_values kv_bounds_of_1) ea_nil)) (fun v_depth F H g rn_ => ?_) sc_bounds_of.nd
    have G := G.trans g
    have r_deed := Rp.mono g.ff r_deed
    have r_values := Rp.mono g.ff r_values
    have o_around := o_around.up g
    have r_depth := cg (Option.some.inj he) rn_
    change GoS _ _ _ [some v_deed, some v_values, some (.ref l_around), u_name, u_value, some v_depth] _
    obtain ⟨t9, h_t9, hm⟩ := Option.bind_eq_some_iff.mp hm
    obtain ⟨t10, h_t10, hm⟩ := Option.bind_eq_some_iff.mp hm
    obtain ⟨t11, h_t11, hm⟩ := Option.bind_eq_some_iff.mp hm
    exact go_ret G.sm (ev_thaw o_around G.fh (fun F H s_ s2_ rf_ k_ => by
            have r_deed := Rp.mono s_ r_deed
            have r_depth := Rp.mono s_ r_depth
            have rf_around := rf_
            exact (ev_call (ok_placed T) (hr.mono (by omega)) T.g_placed T.F_placed.kp (b_placed T) (ea_cons (ev_tup2 (ea_cons (ev_ixTp (ev_attr T.f_Deed_lows (ev_varK 0 rfl r_deed kv_bounds_of_0)) (ev_varK 5 rfl r_depth kv_bounds_of_5) h_t9) (ea_cons (ev_ixTp (ev_attr T.f_Deed_highs (ev_varK 0 rfl r_deed kv_bounds_of_0)) (ev_varK 5 rfl r_depth kv_bounds_of_5) h_t10) ea_nil))) (ea_cons (ev_var 2 rfl rf_around) ea_nil)) h_t11 gl_bounds_of_placed))) fun v_ F_ H_ g_ rv_ => kr _ _ _ (G.trans g_) (cg (Option.some.inj hm) rv_)
theorem sc_go : FnScope ["walk", "numbered", "values", "depth", "group", "deed", "low", "high"] ["walk", "numbered", "values"] (defScope s_go) := ⟨rfl, rfl, rfl, by decide +kernel, rfl, by decide +kernel, by decide +kernel⟩
theorem b_go (T : Txt K mg) : Binds K T.d_go ["walk", "numbered", "values"] [] := T.F_go.bindsN fun _ _ _ _ _ _ us hl => match us, hl with | [_, _, _], _ => rfl
theorem kv_go_1 : VKn (defScope s_go) "numbered" := ⟨by first | exact Or.inl (by decide +kernel) | exact Or.inr (Or.inl (by decide +kernel)) | exact Or.inr (Or.inr (by decide +kernel)), by decide, by decide⟩
theorem kv_go_2 : VKn (defScope s_go) "values" := ⟨by first | exact Or.inl (by decide +kernel) | exact Or.inr (Or.inl (by decide +kernel)) | exact Or.inr (Or.inr (by decide +kernel)), by decide, by decide⟩
theorem kv_go_3 : VKn (defScope s_go) "depth" := ⟨by first | exact Or.inl (by decide +kernel) | exact Or.inr (Or.inl (by decide +kernel)) | exact Or.inr (Or.inr (by decide +kernel)), by decide, by decide⟩
theorem kv_go_4 : VKn (defScope s_go) "group" := ⟨by first | exact Or.inl (by decide +kernel) | exact Or.inr (Or.inl (by decide +kernel)) | exact Or.inr (Or.inr (by decide +kernel)), by decide, by decide⟩
theorem kv_go_5 : VKn (defScope s_go) "deed" := ⟨by first | exact Or.inl (by decide +kernel) | exact Or.inr (Or.inl (by decide +kernel)) | exact Or.inr (Or.inr (by decide +kernel)), by decide, by decide⟩
theorem kv_go_6 : VKn (defScope s_go) "low" := ⟨by first | exact Or.inl (by decide +kernel) | exact Or.inr (Or.inl (by decide +kernel)) | exact Or.inr (Or.inr (by decide +kernel)), by decide, by decide⟩
theorem kv_go_7 : VKn (defScope s_go) "high" := ⟨by first | exact Or.inl (by decide +kernel) | exact Or.inr (Or.inl (by decide +kernel)) | exact Or.inr (Or.inr (by decide +kernel)), by decide, by decide⟩
theorem gl_go_bounds_of : (defScope s_go).names.lookup ("bounds_of" : Str) = some NameKind.globalImplicit := by decide +kernel
theorem gl_go_go : (defScope s_go).names.lookup ("go" : Str) = some NameKind.globalImplicit := by decide +kernel
theorem gl_go_put_apart : (defScope s_go).names.lookup ("put_apart" : Str) = some NameKind.globalImplicit := by decide +kernel
theorem ok_go (T : Txt K mg) : ∀ n_ : Nat, FnOk P w K mg base (L2.CX P w) (2 + n_ + 1) (He.fAd K ("go", none)) T.d_go ["walk", "numbered", "values"] (PrRE "Walk" fs_Walk QWalk.rowP K fun (a_ : Unit) (x_ : QWalk) (b_ : (List (T2 Int QDeed)) × (Tp Int) × Unit) => m_go n_ x_ b_.1 b_.2.1)
  | 0 => by
    refine fn_okRE T.F_go sc_go rfl fun cdv A outer s_ F0 H0 Hs_ l_walk vs1_ vs2_ a_ x_walk b_ r D_ E_ hr G o_walk ra_ rb_ hm kr kn kx tk_ po_ => ?_
    exact nomatch (show none = some r from hm)
  | n_ + 1 => by
    have ih_ := ok_go T n_
    refine fn_okRE T.F_go sc_go rfl fun cdv A outer s_ F0 H0 Hs_ l_walk vs1_ vs2_ a_ x_walk b_ r D_ E_ hr G o_walk ra_ rb_ hm kr kn kx tk_ po_ => ?_
    obtain rfl := ra_
    obtain ⟨v_numbered, _, rfl, r_numbered, v_values, _, rfl, r_values, rfl⟩ := rb_
    obtain ⟨x_numbered, x_values, _u⟩ := b_
    replace hm : m_go (n_ + 1) x_walk x_numbered x_values = some r := hm
    rw [m_go] at hm
    have r_numbered : rp (α := (List (T2 Int QDeed))) K F0 v_numbered x_numbered := r_numbered
    have r_values : rp (α := (Tp Int)) K F0 v_values x_values := r_values
    change GoS _ _ _ [some (.ref l_walk), some v_numbered, some v_values, none, none, none, none, none] _
    obtain ⟨x_depth, he, hm⟩ := Option.bind_eq_some_iff.mp hm
    refine go_setA (Int) 3 G.sm (ev_callB call_len_seq oc_lenTp T.n_len PySem.boot_len (ea_cons (ev_varK 2 rfl r_values kv_go_2) ea_nil)) (fun v_depth F H g rn_ => ?_) sc_go.nd
    have G := G.trans g
    have o_walk := o_walk.up g
    have r_numbered := Rp.mono g.ff r_numbered
    have r_values := Rp.mono g.ff r_values
    have r_depth := cg (Option.some.inj he) rn_
    change GoS _ _ _ [some (.ref l_walk), some v_numbered, some v_values, some v_depth, none, none, none, none] _
    obtain ⟨t1, h_t1, hm⟩ := Option.bind_eq_some_iff.mp hm
    obtain ⟨o21, ho_, hm⟩ := Option.bind_eq_some_iff.mp hm
    refine go_forMX G.sm (ei_list (ev_call (ok_put_apart T) (hr.mono (by omega)) T.g_put_apart T.F_put_apart.kp (b_put_apart T) (ea_cons (ev_varK 1 rfl r_numbered kv_go_1) (ea_cons (ev_varK 3 rfl r_depth kv_go_3) ea_nil)) h_t1 gl_go_put_apart)) (pg_name (i := 4) sc_go.nd rfl (by first | exact Or.inl rfl | exact Or.inr rfl)) ho_ hm (fun F H g => ?_) po_
    have G := G.trans g
    have o_walk := o_walk.up g
    have r_values := Rp.mono g.ff r_values
    have r_depth := Rp.mono g.ff r_depth
    refine ⟨fun (b2 : QWalk) σ_ F_ H_ => ∃ (u_deed : Option V) (u_low : Option V) (u_high : Option V) (u_group : Option V), σ_ = [some (.ref l_walk), some v_numbered, some v_values, some v_depth, u_group, u_deed, u_low, u_high] ∧ GrX K F0 H0 F_ H_ ∧ OwR "Walk" fs_Walk K H0 F_ H_ l_walk [] (QWalk.rowP b2), fun _ _ _ => False, ⟨_, _, _, _, rfl, G, o_walk⟩, ?_, ?_, fun _ _ _ _ h_ => h_.elim⟩
    ·
      intro b2 x_group o_ hm hx_ σ_ F H v_group s1_ s2_ iv_ F H g r_group Q_ hQ_
      obtain ⟨u_deed, u_low, u_high, u_group, rfl, G, o_walk⟩ := iv_
      have sb5 := g.ff
      have r_values := Rp.mono s1_ r_values
      have r_depth := Rp.mono s1_ r_depth
      have G := G.trans g
      have o_walk := o_walk.up g
      have r_values := Rp.mono g.ff r_values
      have r_depth := Rp.mono g.ff r_depth
      refine hQ_ _ _ ?_
      change GoS _ _ _ [some (.ref l_walk), some v_numbered, some v_values, some v_depth, some v_group, u_deed, u_low, u_high] _
      obtain ⟨t6, h_t6, hm⟩ := Option.bind_eq_some_iff.mp hm
      obtain ⟨x_deed, he, hm⟩ := Option.bind_eq_some_iff.mp hm
      refine go_setA (QDeed) 5 G.sm (ev_ixT (ev_ixL (ev_varK 4 rfl r_group kv_go_4) ev_int h_t6) ev_int pj1) (fun v_deed F H g rn_ => ?_) sc_go.nd
      have G := G.trans g
      have o_walk := o_walk.up g
      have r_values := Rp.mono g.ff r_values
      have r_depth := Rp.mono g.ff r_depth
      have r_group := Rp.mono g.ff r_group
      have sb5 := sb5.trans g.ff
      have r_deed := cg (Option.some.inj he) rn_
      change GoS _ _ _ [some (.ref l_walk), some v_numbered, some v_values, some v_depth, some v_group, some v_deed, u_low, u_high] _
      refine go_ifA ((decide ((x_deed.names.l.length : Int) = x_depth))) G.sm (et_cmp op_eq o2_eq (ev_callB call_len_seq oc_lenTp T.n_len PySem.boot_len (ea_cons (ev_attr T.f_Deed_names (ev_varK 5 rfl r_deed kv_go_5)) ea_nil)) (ev_varK 3 rfl r_depth kv_go_3) (nomark _)) (fun hc F H g => ?_) (fun hc F H g => ?_)
      · replace hm := ipos hc hm
        have G := G.trans g
        have o_walk := o_walk.up g
        have r_values := Rp.mono g.ff r_values
        have r_depth := Rp.mono g.ff r_depth
        have r_group := Rp.mono g.ff r_group
        have r_deed := Rp.mono g.ff r_deed
        have sb5 := sb5.trans g.ff
        obtain ⟨t7, h_t7, hm⟩ := Option.bind_eq_some_iff.mp hm
        obtain ⟨⟨o8, t8⟩, h_t8, hm⟩ := Option.bind_eq_some_iff.mp hm
        cases o8 with
        | x e1 =>
          obtain rfl := Option.some.inj (hx_ _ (Option.some.inj hm))
          exact go_exprZR (EvXR.rz (em_methRE 0 tk_ (by decide +kernel) T.cl_Walk T.me_Walk_note (ok_Walk_note T) (hr.mono (by omega)) (b_Walk_note T) G o_walk .nil rfl (ea_cons (ev_ixT (ev_ixL (ev_varK 4 rfl r_group kv_go_4) ev_int h_t7) ev_int pj0) (ea_cons (ev_varK 2 rfl r_values kv_go_2) ea_nil)) h_t8) (fun F_ H_ cls_ dd_ a_ xr_ => kx e1 rfl _ _ _ _ (a_.g G) a_.o xr_))
        | v z8 =>
          refine go_exprMR (ρ := Unit) (EvXR.ok (em_methRE 0 tk_ (by decide +kernel) T.cl_Walk T.me_Walk_note (ok_Walk_note T) (hr.mono (by omega)) (b_Walk_note T) G o_walk .nil rfl (ea_cons (ev_ixT (ev_ixL (ev_varK 4 rfl r_group kv_go_4) ev_int h_t7) ev_int pj0) (ea_cons (ev_varK 2 rfl r_values kv_go_2) ea_nil)) h_t8)) (fun F H a_ => ?_)
          have Gm_ := a_.g G
          have r_values := Rp.mono a_.ff r_values
          have r_group := Rp.mono a_.ff r_group
          have sb5 := sb5.trans a_.ff
          have G := Gm_
          have o_walk := a_.o
          refine GoS.nil ?_
          exact GoS.nil ⟨_, _, (Option.some.inj hm).symm, sb5, G.fh, ⟨_, _, _, _, rfl, G, o_walk⟩⟩
      · replace hm := ineg (nt hc) hm
        have G := G.trans g
        have o_walk := o_walk.up g
        have r_values := Rp.mono g.ff r_values
        have r_depth := Rp.mono g.ff r_depth
        have r_group := Rp.mono g.ff r_group
        have r_deed := Rp.mono g.ff r_deed
        have sb5 := sb5.trans g.ff
        obtain ⟨t9, h_t9, hm⟩ := Option.bind_eq_some_iff.mp hm
        obtain ⟨t10, h_t10, hm⟩ := Option.bind_eq_some_iff.mp hm
        obtain ⟨i11, he, hm⟩ := Option.bind_eq_some_iff.mp hm
        refine go_unpack G.sm (ev_to2 (ev_call (ok_bounds_of T) (hr.mono (by omega)) T.g_bounds_of T.F_bounds_of.kp (b_bounds_of T) (ea_cons (ev_varK 5 rfl r_deed kv_go_5) (ea_cons (ev_varK 2 rfl r_values kv_go_2) ea_nil)) h_t9 gl_go_bounds_of) h_t10) (pg_tup rfl (pgs_cons (pg_name (i := 6) sc_go.nd rfl (by first | exact Or.inl rfl | exact Or.inr rfl)) (pgs_cons (pg_name (i := 7) sc_go.nd rfl (by first | exact Or.inl rfl | exact Or.inr rfl)) pgs_nil))) (fun w_ F H g ri_ Q_ hQ_ => ?_)
        have ri_ := cg (Option.some.inj he) ri_
        have G := G.trans g
        have o_walk := o_walk.up g
        have r_values := Rp.mono g.ff r_values
        have r_group := Rp.mono g.ff r_group
        have r_deed := Rp.mono g.ff r_deed
        have sb5 := sb5.trans g.ff
        obtain ⟨pa12, _, rfl, sq13, v_low, _, rfl, r_low, v_high, _, rfl, r_high, rfl⟩ := ri_
        refine ⟨pa12, _, rfl, seqT_mono G.fh sq13, rfl, _, _, rfl, _, _, rfl, rfl, hQ_ _ _ ?_⟩
        change GoS _ _ _ [some (.ref l_walk), some v_numbered, some v_values, some v_depth, some v_group, some v_deed, some v_low, some v_high] _
        obtain ⟨o20, hw_, hm⟩ := Option.bind_eq_some_iff.mp hm
        refine go_whileMX (b0 := (b2, i11.a)) (fun (b14 : (QWalk × Int)) σ_ F_ H_ => ∃ (v_low : V), σ_ = [some (.ref l_walk), some v_numbered, some v_values, some v_depth, some v_group, some v_deed, some v_low, some v_high] ∧ GrX K F0 H0 F_ H_ ∧ OwR "Walk" fs_Walk K H0 F_ H_ l_walk [] (QWalk.rowP b14.1) ∧ rp (α := Int) K F_ v_low b14.2) (fun _ _ _ => False) G.sm ⟨_, rfl, G, o_walk, r_low⟩ hw_ hm ?_ ?_ ?_ (fun _ _ _ _ h_ => h_.elim) po_
        ·
          intro b14 t_ hm σ_ F H s1_ s2_ iv_
          obtain ⟨v_low, rfl, G, o_walk, r_low⟩ := iv_
          have r_values := Rp.mono s1_ r_values
          have r_group := Rp.mono s1_ r_group
          have r_high := Rp.mono s1_ r_high
          refine ⟨G.sm, EvT.cg (Option.some.inj hm) (et_cmp op_le o2_le (ev_varK 6 rfl r_low kv_go_6) (ev_varK 7 rfl r_high kv_go_7) (nomark _)), fun F H g => ?_⟩
          have G := G.trans g
          have o_walk := o_walk.up g
          have r_low := Rp.mono g.ff r_low
          exact ⟨_, rfl, G, o_walk, r_low⟩
        ·
          intro b14 o2_ hm hy_ σ_ F H s1_ s2_ iv_
          obtain ⟨v_low, rfl, G, o_walk, r_low⟩ := iv_
          have sb16 := L2.Same.refl F
          have r_values := Rp.mono s1_ r_values
          have r_group := Rp.mono s1_ r_group
          have r_high := Rp.mono s1_ r_high
          obtain ⟨⟨o17, t17⟩, h_t17, hm⟩ := Option.bind_eq_some_iff.mp hm
          cases o17 with
          | x e2 =>
            obtain rfl := Option.some.inj (hy_ _ (Option.some.inj hm))
            obtain rfl := Option.some.inj (hx_ _ rfl)
            exact go_exprZR (EvXR.rz (em_methRE0 0 tk_ (by decide +kernel) T.cl_Walk T.me_Walk_spend (ok_Walk_spend T) (hr.mono (by omega)) (b_Walk_spend T) G o_walk .nil rfl h_t17) (fun F_ H_ cls_ dd_ a_ xr_ => kx e2 rfl _ _ _ _ (a_.g G) a_.o xr_))
          | v z17 =>
            refine go_exprMR (ρ := Unit) (EvXR.ok (em_methRE0 0 tk_ (by decide +kernel) T.cl_Walk T.me_Walk_spend (ok_Walk_spend T) (hr.mono (by omega)) (b_Walk_spend T) G o_walk .nil rfl h_t17)) (fun F H a_ => ?_)
            have Gm_ := a_.g G
            have r_values := Rp.mono a_.ff r_values
            have r_group := Rp.mono a_.ff r_group
            have r_low := Rp.mono a_.ff r_low
            have r_high := Rp.mono a_.ff r_high
            have sb16 := sb16.trans a_.ff
            have G := Gm_
            have o_walk := a_.o
            obtain ⟨t18, h_t18, hm⟩ := Option.bind_eq_some_iff.mp hm
            obtain ⟨⟨o19, t19⟩, h_t19, hm⟩ := Option.bind_eq_some_iff.mp hm
            cases o19 with
            | x e3 =>
              obtain rfl := Option.some.inj (hy_ _ (Option.some.inj hm))
              obtain rfl := Option.some.inj (hx_ _ rfl)
              exact go_exprZR (EvXR.rz (em_callRE tk_ ih_ (hr.mono (by omega)) T.g_go T.F_go.kp (b_go T) G o_walk .nil (eam_here 0 rfl (ea_cons (ev_varK 4 rfl r_group kv_go_4) (ea_cons (ev_catT (ev_varK 2 rfl r_values kv_go_2) (ev_tp (el_cons (ev_varK 6 rfl r_low kv_go_6) el_nil) (by show 1 ≤ sizeLine; decide)) h_t18) ea_nil))) h_t19 gl_go_go) (fun F_ H_ cls_ dd_ a_ xr_ => kx e3 rfl _ _ _ _ (a_.g G) a_.o xr_))
            | v z19 =>
              refine go_exprMR (ρ := Unit) (EvXR.ok (em_callRE tk_ ih_ (hr.mono (by omega)) T.g_go T.F_go.kp (b_go T) G o_walk .nil (eam_here 0 rfl (ea_cons (ev_varK 4 rfl r_group kv_go_4) (ea_cons (ev_catT (ev_varK 2 rfl r_values kv_go_2) (ev_tp (el_cons (ev_varK 6 rfl r_low kv_go_6) el_nil) (by show 1 ≤ sizeLine; decide)) h_t18) ea_nil))) h_t19 gl_go_go)) (fun F H a_ => ?_)
              have Gm_ := a_.g G
              have r_values := Rp.mono a_.ff r_values
              have r_group := Rp.mono a_.ff r_group
              have r_low := Rp.mono a_.ff r_low
              have r_high := Rp.mono a_.ff r_high
              have sb16 := sb16.trans a_.ff
              have G := Gm_
              have o_walk := a_.o
              obtain ⟨x_low, he, hm⟩ := Option.bind_eq_some_iff.mp hm
              refine go_setA (Int) 6 G.sm (ev_add (ev_varK 6 rfl r_low kv_go_6) ev_int) (fun v_low F H g rn_ => ?_) sc_go.nd
              have G := G.trans g
              have o_walk := o_walk.up g
              have r_high := Rp.mono g.ff r_high
              have sb16 := sb16.trans g.ff
              have r_low := cg (Option.some.inj he) rn_
              exact GoS.nil ⟨_, _, (Option.some.inj hm).symm, sb16, G.fh, ⟨_, rfl, G, o_walk, r_low⟩⟩
        · intro b20 hm σ_ F H s1_ s2_ iv_
          obtain ⟨v_low, rfl, G, o_walk, r_low⟩ := iv_
          have sb5 := sb5.trans s1_
          refine GoS.nil ?_
          exact GoS.nil ⟨_, _, (Option.some.inj hm).symm, sb5, G.fh, ⟨_, _, _, _, rfl, G, o_walk⟩⟩
    · intro b21 hm σ_ F H s1_ s2_ iv_
      obtain ⟨u_deed, u_low, u_high, u_group, rfl, G, o_walk⟩ := iv_
      obtain rfl := Option.some.inj hm
      exact GoS.nil (kn _ _ _ () rfl G o_walk.nil rfl)
theorem sc_turns : FnScope ["program", "most", "walk"] ["program", "most"] (defScope s_turns) := ⟨rfl, rfl, rfl, by decide +kernel, rfl, by decide +kernel, by decide +kernel⟩
theorem b_turns (T : Txt K mg) : Binds K T.d_turns ["program", "most"] [] := T.F_turns.bindsN fun _ _ _ _ _ _ us hl => match us, hl with | [_, _], _ => rfl
theorem kv_turns_0 : VKn (defScope s_turns) "program" := ⟨by first | exact Or.inl (by decide +kernel) | exact Or.inr (Or.inl (by decide +kernel)) | exact Or.inr (Or.inr (by decide +kernel)), by decide, by decide⟩
theorem kv_turns_1 : VKn (defScope s_turns) "most" := ⟨by first | exact Or.inl (by decide +kernel) | exact Or.inr (Or.inl (by decide +kernel)) | exact Or.inr (Or.inr (by decide +kernel)), by decide, by decide⟩
theorem kv_turns_2 : VKn (defScope s_turns) "walk" := ⟨by first | exact Or.inl (by decide +kernel) | exact Or.inr (Or.inl (by decide +kernel)) | exact Or.inr (Or.inr (by decide +kernel)), by decide, by decide⟩
theorem gl_turns_go : (defScope s_turns).names.lookup ("go" : Str) = some NameKind.globalImplicit := by decide +kernel
theorem ok_turns (T : Txt K mg) : FnOk P w K mg base (L2.CX P w) 10 (He.fAd K ("turns", none)) T.d_turns ["program", "most"] (PrE K fun (a_ : QProgram × Int × Unit) => m_turns a_.1 a_.2.1) := by
  refine fn_okX T.F_turns sc_turns rfl fun cdv A outer s_ F0 H0 vs a_ r D_ E_ hr sm_ ra_ hm kr kn kx tk_ po_ => ?_
  obtain ⟨v_program, _, rfl, r_program, v_most, _, rfl, r_most, rfl⟩ := ra_
  obtain ⟨x_program, x_most, _u⟩ := a_
  have G : GrX K F0 H0 F0 H0 := .refl sm_
  replace hm : m_turns x_program x_most = some r := hm
  unfold m_turns at hm
  have r_program : rp (α := QProgram) K F0 v_program x_program := r_program
  have r_most : rp (α := Int) K F0 v_most x_most := r_most
  change GoS _ _ _ [some v_program, some v_most, none] _
  obtain ⟨t1, h_t1, hm⟩ := Option.bind_eq_some_iff.mp hm
  refine go_setRec (W := QWalk.rowP) (w := t1) 2 G.sm (er_make T.mk_Walk (ok_Walk_init T) (hr.mono (by omega)) T.g_Walk (b_Walk_init T) (ea_cons (ev_varK 1 rfl r_most kv_turns_1) ea_nil) h_t1) (fun l_walk F H g on_ => ?_) sc_turns.nd
  have o_walk := on_.base fun _ => G.hh.free
  have G := G.trans g
  have r_program := Rp.mono g.ff r_program
  have r_most := Rp.mono g.ff r_most
  change GoS _ _ _ [some v_program, some v_most, some (.ref l_walk)] _
  obtain ⟨⟨o2, t2⟩, h_t2, hm⟩ := Option.bind_eq_some_iff.mp hm
  cases o2 with
  | x e1 => exact go_exprZR (EvXR.rz (em_callRE tk_ (ok_go T 6) (hr.mono (by omega)) T.g_go T.F_go.kp (b_go T) G o_walk .nil (eam_here 2 rfl (ea_cons (EvN.evA ((List (T2 Int QDeed))) (en_listEnum T.n_list T.n_enumerate (ev_attr T.f_Program_deeds (ev_varK 0 rfl r_program kv_turns_0)))) (ea_cons (ev_tp el_nil (by show 0 ≤ sizeLine; decide)) ea_nil))) h_t2 gl_turns_go) (fun F_ H_ cls_ dd_ a_ xr_ => kx e1 (Option.some.inj hm) _ _ _ _ (a_.g G) xr_))
  | v z2 =>
    refine go_exprMR (ρ := Unit) (EvXR.ok (em_callRE tk_ (ok_go T 6) (hr.mono (by omega)) T.g_go T.F_go.kp (b_go T) G o_walk .nil (eam_here 2 rfl (ea_cons (EvN.evA ((List (T2 Int QDeed))) (en_listEnum T.n_list T.n_enumerate (ev_attr T.f_Program_deeds (ev_varK 0 rfl r_program kv_turns_0)))) (ea_cons (ev_tp el_nil (by show 0 ≤ sizeLine; decide)) ea_nil))) h_t2 gl_turns_go)) (fun F H a_ => ?_)
    have Gm_ := a_.g G
    have r_program := Rp.mono a_.ff r_program
    have G := Gm_
    have o_walk := a_.o
    refine o_walk.freeze G (fun F H s_ s2_ G r_walk k_ => ?_)
    have r_walk : rp (α := QWalk) K F (.ref l_walk) t2 := r_walk
    exact go_retA ((List (T2 Int (Tp Int)))) G.sm (ev_attr T.f_Walk_turns (ev_varK 2 rfl r_walk kv_turns_2)) fun v_ F_ H_ g_ rv_ => kr _ _ _ _ (Option.some.inj hm) (G.trans g_) rv_
theorem sc_plain : FnScope ["_law_e"] ["_law_e"] (defScope s_plain) := ⟨rfl, rfl, rfl, by decide +kernel, rfl, by decide +kernel, by decide +kernel⟩
theorem b_plain (T : Txt K mg) : Binds K T.d_plain ["_law_e"] [] := T.F_plain.bindsN fun _ _ _ _ _ _ us hl => match us, hl with | [_], _ => rfl
theorem ok_plain (T : Txt K mg) (xv_e : Exv) : FnOkE xv_e P w K mg base CX0 1 (He.fAd K ("_law_plain", none)) T.d_plain ["_law_e"] (Pr K fun (a_ : OneE xv_e × Unit) => m_plain xv_e.cn) := by
  refine fn_okE T.F_plain sc_plain rfl fun cdv A outer s_ F0 H0 vs a_ r D_ E_ hr xg_ xd_ sm_ ra_ hm kr kn => ?_
  obtain ⟨v_e, _, rfl, r_e, rfl⟩ := ra_
  obtain ⟨x_e, _u⟩ := a_
  have G : GrX K F0 H0 F0 H0 := .refl sm_
  replace hm : m_plain xv_e.cn = some r := hm
  unfold m_plain at hm
  obtain ⟨x_e, fe_e⟩ : ∃ z1_, xv_e.cn = z1_ := ⟨_, rfl⟩
  try rw [fe_e] at hm
  have r_e : ExF xv_e K H0 v_e := ⟨r_e, xg_, xd_⟩
  change GoS _ _ _ [some v_e] _
  obtain ⟨t1, h_t1, hm⟩ := Option.bind_eq_some_iff.mp hm
  obtain ⟨t7, h_t7, hm⟩ := Option.bind_eq_some_iff.mp hm
  refine go_ifA (t7) G.sm (EvW.t (ew_orA (t1) (et_val (ev_isX (x := xv_e) 0 (isaG_exc (by rw [fe_e]; exact h_t1) T.xkC) (exA_of List.mem_cons_self) r_e (isaG_kit (by rw [fe_e]; exact h_t1) T.xka_NoText) rfl T.n_isinstance T.g_NoText)) (fun hc => by
          replace h_t7 := ineg (nt hc) h_t7
          obtain ⟨t2, h_t2, h_t7⟩ := Option.bind_eq_some_iff.mp h_t7
          obtain ⟨t6, h_t6, h_t7⟩ := Option.bind_eq_some_iff.mp h_t7
          exact EvW.cg (Option.some.inj h_t7) (ew_orA (t2) (et_val (ev_isX (x := xv_e) 0 (isaG_exc (by rw [fe_e]; exact h_t2) T.xkC) (exA_of List.mem_cons_self) r_e (isaG_kit (by rw [fe_e]; exact h_t2) T.xka_NoPlan) rfl T.n_isinstance T.g_NoPlan)) (fun hc => by
          replace h_t6 := ineg (nt hc) h_t6
          obtain ⟨t3, h_t3, h_t6⟩ := Option.bind_eq_some_iff.mp h_t6
          obtain ⟨t5, h_t5, h_t6⟩ := Option.bind_eq_some_iff.mp h_t6
          exact EvW.cg (Option.some.inj h_t6) (ew_orA (t3) (et_val (ev_isX (x := xv_e) 0 (isaG_exc (by rw [fe_e]; exact h_t3) T.xkC) (exA_of List.mem_cons_self) r_e (isaG_kit (by rw [fe_e]; exact h_t3) T.xka_NoTurning) rfl T.n_isinstance T.g_NoTurning)) (fun hc => by
          replace h_t5 := ineg (nt hc) h_t5
          obtain ⟨t4, h_t4, h_t5⟩ := Option.bind_eq_some_iff.mp h_t5
          exact EvW.cg (Option.some.inj h_t5) (ew_or1 (et_val (ev_isX (x := xv_e) 0 (isaG_exc (by rw [fe_e]; exact h_t4) T.xkC) (exA_of List.mem_cons_self) r_e (isaG_kit (by rw [fe_e]; exact h_t4) T.xka_BadPlan) rfl T.n_isinstance T.g_BadPlan)))) (fun hc => by replace h_t5 := ipos hc h_t5; exact (Option.some.inj h_t5).symm))) (fun hc => by replace h_t6 := ipos hc h_t6; exact (Option.some.inj h_t6).symm))) (fun hc => by replace h_t7 := ipos hc h_t7; exact (Option.some.inj h_t7).symm))) (fun hc F H g => ?_) (fun hc F H g => ?_)
  · replace hm := ipos hc hm
    have G := G.trans g
    have r_e := r_e.up g
    exact go_ret G.sm ev_bl fun v_ F_ H_ g_ rv_ => kr _ _ _ (G.trans g_) (cg (Option.some.inj hm) rv_)
  · replace hm := ineg (nt hc) hm
    have G := G.trans g
    have r_e := r_e.up g
    refine GoS.nil ?_
    obtain ⟨t8, h_t8, hm⟩ := Option.bind_eq_some_iff.mp hm
    obtain ⟨t12, h_t12, hm⟩ := Option.bind_eq_some_iff.mp hm
    exact go_ret G.sm (ev_andA (t8) (ev_isXB (T := "ValueError") (x := xv_e) 0 (isaG_exc (by rw [fe_e]; exact h_t8) T.xkC) (exA_of List.mem_cons_self) r_e (isaG_kit (by rw [fe_e]; exact h_t8) T.xka_ValueError) rfl T.n_isinstance T.n_ValueError (by decide +kernel)) (fun hc => by
            replace h_t12 := ipos hc h_t12
            obtain ⟨t9, h_t9, h_t12⟩ := Option.bind_eq_some_iff.mp h_t12
            obtain ⟨t11, h_t11, h_t12⟩ := Option.bind_eq_some_iff.mp h_t12
            exact Ev.cg (Option.some.inj h_t12) (ev_andA ((!t9)) (ev_not (ev_isX (x := xv_e) 0 (isaG_exc (by rw [fe_e]; exact h_t9) T.xkC) (exA_of List.mem_cons_self) r_e (isaG_kit (by rw [fe_e]; exact h_t9) T.xka_NoWidth) rfl T.n_isinstance T.g_NoWidth)) (fun hc => by
            replace h_t11 := ipos hc h_t11
            obtain ⟨t10, h_t10, h_t11⟩ := Option.bind_eq_some_iff.mp h_t11
            exact Ev.cg (Option.some.inj h_t11) (ev_one (ev_not (ev_isX (x := xv_e) 0 (isaG_exc (by rw [fe_e]; exact h_t10) T.xkC) (exA_of List.mem_cons_self) r_e (isaG_kit (by rw [fe_e]; exact h_t10) T.xka_NoValues) rfl T.n_isinstance T.g_NoValues)))) (fun hc => by replace h_t11 := ineg (nt hc) h_t11; exact (Option.some.inj h_t11).symm))) (fun hc => by replace h_t12 := ineg (nt hc) h_t12; exact (Option.some.inj h_t12).symm)) fun v_ F_ H_ g_ rv_ => kr _ _ _ (G.trans g_) (cg (Option.some.inj hm) rv_)
theorem sc_refused : FnScope ["_law_program", "_law_bound", "_law_e"] ["_law_program", "_law_bound"] (defScope s_refused) := ⟨rfl, rfl, rfl, by decide +kernel, rfl, by decide +kernel, by decide +kernel⟩
theorem b_refused (T : Txt K mg) : Binds K T.d_refused ["_law_program", "_law_bound"] [] := T.F_refused.bindsN fun _ _ _ _ _ _ us hl => match us, hl with | [_, _], _ => rfl
theorem kv_refused_0 : VKn (defScope s_refused) "_law_program" := ⟨by first | exact Or.inl (by decide +kernel) | exact Or.inr (Or.inl (by decide +kernel)) | exact Or.inr (Or.inr (by decide +kernel)), by decide, by decide⟩
theorem kv_refused_1 : VKn (defScope s_refused) "_law_bound" := ⟨by first | exact Or.inl (by decide +kernel) | exact Or.inr (Or.inl (by decide +kernel)) | exact Or.inr (Or.inr (by decide +kernel)), by decide, by decide⟩
theorem kv_refused_2 : VKn (defScope s_refused) "_law_e" := ⟨by first | exact Or.inl (by decide +kernel) | exact Or.inr (Or.inl (by decide +kernel)) | exact Or.inr (Or.inr (by decide +kernel)), by decide, by decide⟩
theorem gl_refused_plain : (defScope s_refused).names.lookup ("_law_plain" : Str) = some NameKind.globalImplicit := by decide +kernel
theorem gl_refused_turns : (defScope s_refused).names.lookup ("turns" : Str) = some NameKind.globalImplicit := by decide +kernel
theorem ok_refused (T : Txt K mg) : FnOk P w K mg base CX0 11 (He.fAd K ("_law_refused", none)) T.d_refused ["_law_program", "_law_bound"] (Pr K fun (a_ : QProgram × Int × Unit) => m_refused a_.1 a_.2.1) := by
  refine fn_ok T.F_refused sc_refused rfl fun cdv A outer s_ F0 H0 vs a_ r D_ E_ hr sm_ ra_ hm kr kn => ?_
  obtain ⟨v_program, _, rfl, r_program, v_bound, _, rfl, r_bound, rfl⟩ := ra_
  obtain ⟨x_program, x_bound, _u⟩ := a_
  have G : GrX K F0 H0 F0 H0 := .refl sm_
  replace hm : m_refused x_program x_bound = some r := hm
  unfold m_refused at hm
  have r_program : rp (α := QProgram) K F0 v_program x_program := r_program
  have r_bound : rp (α := Int) K F0 v_bound x_bound := r_bound
  change GoS _ _ _ [some v_program, some v_bound, none] _
  refine go_tryN (c := .ref (He.ga K "FurrowError")) 2 sc_refused.nd ⟨rfl, by decide, Or.inl T.g_FurrowError⟩ (fun pn_ xe_ W_ tk_ po_ hw_ => ?_)
  obtain ⟨t1, h_t1, hm⟩ := Option.bind_eq_some_iff.mp hm
  cases t1 with
  | v t2 =>
    refine go_expr G.sm (EvX.ok (ex_call tk_ (ok_turns T) (hr.mono (by omega)) T.g_turns T.F_turns.kp (b_turns T) (ea_cons (ev_varK 0 rfl r_program kv_refused_0) (ea_cons (ev_varK 1 rfl r_bound kv_refused_1) ea_nil)) h_t1 gl_refused_turns)) (fun F H g => ?_)
    have G := G.trans g
    have r_program := Rp.mono g.ff r_program
    have r_bound := Rp.mono g.ff r_bound
    refine GoS.nil ?_
    exact go_ret G.sm ev_bl fun v_ F_ H_ g_ rv_ => kr _ _ _ (G.trans g_) (cg (Option.some.inj hm) rv_)
  | x e3 =>
    cases e3 with
    | TooMany =>
      refine go_exprZ G.sm (EvX.rz (ex_call tk_ (ok_turns T) (hr.mono (by omega)) T.g_turns T.F_turns.kp (b_turns T) (ea_cons (ev_varK 0 rfl r_program kv_refused_0) (ea_cons (ev_varK 1 rfl r_bound kv_refused_1) ea_nil)) h_t1 gl_refused_turns) (fun F H cls_ dd_ g xr_ => hw_ _ _ _ _ ⟨?_, fun a_ ha_ oe_ pn_ z1_ z2_ => ?_⟩))
      · exact xm_of xr_.1 T.xm_TooMany_FurrowError
      ·
        have G := G.trans g
        have r_program := Rp.mono g.ff r_program
        have r_bound := Rp.mono g.ff r_bound
        have r_e : xr0 "TooMany" K cls_ dd_ := xr_
        change GoS _ _ _ [some v_program, some v_bound, some (.ref a_)] _
        obtain ⟨t5, h_t5, hm⟩ := Option.bind_eq_some_iff.mp hm
        exact go_ret G.sm (ev_andA (true) (ev_isE (b := true) 2 T.xc_TooMany T.xk_TooMany_TooMany z1_ z2_ rfl r_e T.n_isinstance T.g_TooMany) (fun hc => by
                replace h_t5 := ipos hc h_t5
                obtain ⟨t4, h_t4, h_t5⟩ := Option.bind_eq_some_iff.mp h_t5
                exact Ev.cg (Option.some.inj h_t5) (ev_one (ev_callE (x := (Exv.mk a_ oe_ "TooMany" dd_)) (k := 1) (ok_plain T (Exv.mk a_ oe_ "TooMany" dd_)) ⟨(hr.mono (j := 1) (by omega)).dp, (hr.mono (j := 1) (by omega)).un⟩ T.g_plain T.F_plain.kp (b_plain T) (exF_0 r_e z1_ z2_) List.mem_cons_self (ea_cons (ev_varK (α := OneE (Exv.mk a_ oe_ "TooMany" dd_)) (x := OneE.mk) 2 rfl rfl kv_refused_2) ea_nil) h_t4 gl_refused_plain))) (fun hc => by replace h_t5 := ineg (nt hc) h_t5; exact (Option.some.inj h_t5).symm)) fun v_ F_ H_ g_ rv_ => kr _ _ _ (G.trans g_) (cg (Option.some.inj hm) rv_)
theorem sc_many : FnScope ["_law_script"] ["_law_script"] (defScope s_many) := ⟨rfl, rfl, rfl, by decide +kernel, rfl, by decide +kernel, by decide +kernel⟩
theorem b_many (T : Txt K mg) : Binds K T.d_many ["_law_script"] [] := T.F_many.bindsN fun _ _ _ _ _ _ us hl => match us, hl with | [_], _ => rfl
theorem kv_many_0 : VKn (defScope s_many) "_law_script" := ⟨by first | exact Or.inl (by decide +kernel) | exact Or.inr (Or.inl (by decide +kernel)) | exact Or.inr (Or.inr (by decide +kernel)), by decide, by decide⟩
theorem gl_many_cell : (defScope s_many).names.lookup ("_law_cell" : Str) = some NameKind.globalImplicit := by decide +kernel
theorem gl_many_mixed : (defScope s_many).names.lookup ("_law_mixed" : Str) = some NameKind.globalImplicit := by decide +kernel
theorem ok_many (T : Txt K mg) : FnOk P w K mg base CX0 2 (He.fAd K ("_law_many", none)) T.d_many ["_law_script"] (Pr K fun (a_ : (List Int) × Unit) => m_many a_.1) := by
  refine fn_ok T.F_many sc_many rfl fun cdv A outer s_ F0 H0 vs a_ r D_ E_ hr sm_ ra_ hm kr kn => ?_
  obtain ⟨v_script, _, rfl, r_script, rfl⟩ := ra_
  obtain ⟨x_script, _u⟩ := a_
  have G : GrX K F0 H0 F0 H0 := .refl sm_
  replace hm : m_many x_script = some r := hm
  unfold m_many at hm
  have r_script : rp (α := (List Int)) K F0 v_script x_script := r_script
  change GoS _ _ _ [some v_script] _
  obtain ⟨t1, h_t1, hm⟩ := Option.bind_eq_some_iff.mp hm
  obtain ⟨t2, h_t2, hm⟩ := Option.bind_eq_some_iff.mp hm
  obtain ⟨t3, h_t3, hm⟩ := Option.bind_eq_some_iff.mp hm
  exact go_ret G.sm (ev_ixL (EvN.evA ((List Int)) (en_list (el_int (el_int (el_int (el_int (el_int (el_int (el_int (el_int el_nil)))))))) (by show 8 ≤ sizeLine; decide))) (ev_mod (ev_call (ok_mixed T) (hr.mono (by omega)) T.g_mixed T.F_mixed.kp (b_mixed T) (ea_cons (ev_call (ok_cell T) (hr.mono (by omega)) T.g_cell T.F_cell.kp (b_cell T) (ea_cons (ev_varK 0 rfl r_script kv_many_0) (ea_cons ev_int ea_nil)) h_t1 gl_many_cell) (ea_cons ev_int ea_nil)) h_t2 gl_many_mixed) ev_int (by decide)) h_t3) fun v_ F_ H_ g_ rv_ => kr _ _ _ (G.trans g_) (cg (Option.some.inj hm) rv_)
theorem sc_loop : FnScope ["_law_number", "_law_far_here", "_law_stack", "_law_cell_here", "_law_about", "_law_bases", "_law_one", "_law_low", "_law_high", "_law_more", "_law_low_spot", "_law_turn", "_law_name_here"] ["_law_number", "_law_far_here", "_law_stack", "_law_cell_here"] (defScope s_loop) := ⟨rfl, rfl, rfl, by decide +kernel, rfl, by decide +kernel, by decide +kernel⟩
theorem b_loop (T : Txt K mg) : Binds K T.d_loop ["_law_number", "_law_far_here", "_law_stack", "_law_cell_here"] [] := T.F_loop.bindsN fun _ _ _ _ _ _ us hl => match us, hl with | [_, _, _, _], _ => rfl
theorem kv_loop_0 : VKn (defScope s_loop) "_law_number" := ⟨by first | exact Or.inl (by decide +kernel) | exact Or.inr (Or.inl (by decide +kernel)) | exact Or.inr (Or.inr (by decide +kernel)), by decide, by decide⟩
theorem kv_loop_1 : VKn (defScope s_loop) "_law_far_here" := ⟨by first | exact Or.inl (by decide +kernel) | exact Or.inr (Or.inl (by decide +kernel)) | exact Or.inr (Or.inr (by decide +kernel)), by decide, by decide⟩
theorem kv_loop_2 : VKn (defScope s_loop) "_law_stack" := ⟨by first | exact Or.inl (by decide +kernel) | exact Or.inr (Or.inl (by decide +kernel)) | exact Or.inr (Or.inr (by decide +kernel)), by decide, by decide⟩
theorem kv_loop_3 : VKn (defScope s_loop) "_law_cell_here" := ⟨by first | exact Or.inl (by decide +kernel) | exact Or.inr (Or.inl (by decide +kernel)) | exact Or.inr (Or.inr (by decide +kernel)), by decide, by decide⟩
theorem kv_loop_4 : VKn (defScope s_loop) "_law_about" := ⟨by first | exact Or.inl (by decide +kernel) | exact Or.inr (Or.inl (by decide +kernel)) | exact Or.inr (Or.inr (by decide +kernel)), by decide, by decide⟩
theorem kv_loop_5 : VKn (defScope s_loop) "_law_bases" := ⟨by first | exact Or.inl (by decide +kernel) | exact Or.inr (Or.inl (by decide +kernel)) | exact Or.inr (Or.inr (by decide +kernel)), by decide, by decide⟩
theorem kv_loop_7 : VKn (defScope s_loop) "_law_low" := ⟨by first | exact Or.inl (by decide +kernel) | exact Or.inr (Or.inl (by decide +kernel)) | exact Or.inr (Or.inr (by decide +kernel)), by decide, by decide⟩
theorem kv_loop_8 : VKn (defScope s_loop) "_law_high" := ⟨by first | exact Or.inl (by decide +kernel) | exact Or.inr (Or.inl (by decide +kernel)) | exact Or.inr (Or.inr (by decide +kernel)), by decide, by decide⟩
theorem kv_loop_9 : VKn (defScope s_loop) "_law_more" := ⟨by first | exact Or.inl (by decide +kernel) | exact Or.inr (Or.inl (by decide +kernel)) | exact Or.inr (Or.inr (by decide +kernel)), by decide, by decide⟩
theorem kv_loop_10 : VKn (defScope s_loop) "_law_low_spot" := ⟨by first | exact Or.inl (by decide +kernel) | exact Or.inr (Or.inl (by decide +kernel)) | exact Or.inr (Or.inr (by decide +kernel)), by decide, by decide⟩
theorem kv_loop_11 : VKn (defScope s_loop) "_law_turn" := ⟨by first | exact Or.inl (by decide +kernel) | exact Or.inr (Or.inl (by decide +kernel)) | exact Or.inr (Or.inr (by decide +kernel)), by decide, by decide⟩
theorem kv_loop_12 : VKn (defScope s_loop) "_law_name_here" := ⟨by first | exact Or.inl (by decide +kernel) | exact Or.inr (Or.inl (by decide +kernel)) | exact Or.inr (Or.inr (by decide +kernel)), by decide, by decide⟩
theorem gl_loop_name : (defScope s_loop).names.lookup ("_law_name" : Str) = some NameKind.globalImplicit := by decide +kernel
theorem ok_loop (T : Txt K mg) : FnOk P w K mg base CX0 3 (He.fAd K ("_law_loop", none)) T.d_loop ["_law_number", "_law_far_here", "_law_stack", "_law_cell_here"] (Pr K fun (a_ : Int × Int × (List (T5 Str (T2 Str Int) (T2 Str Int) Int Int)) × Int × Unit) => m_loop a_.1 a_.2.1 a_.2.2.1 a_.2.2.2.1) := by
  refine fn_ok T.F_loop sc_loop rfl fun cdv A outer s_ F0 H0 vs a_ r D_ E_ hr sm_ ra_ hm kr kn => ?_
  obtain ⟨v_number, _, rfl, r_number, v_far_here, _, rfl, r_far_here, v_stack, _, rfl, r_stack, v_cell_here, _, rfl, r_cell_here, rfl⟩ := ra_
  obtain ⟨x_number, x_far_here, x_stack, x_cell_here, _u⟩ := a_
  have G : GrX K F0 H0 F0 H0 := .refl sm_
  replace hm : m_loop x_number x_far_here x_stack x_cell_here = some r := hm
  unfold m_loop at hm
  have r_number : rp (α := Int) K F0 v_number x_number := r_number
  have r_far_here : rp (α := Int) K F0 v_far_here x_far_here := r_far_here
  have r_stack : rp (α := (List (T5 Str (T2 Str Int) (T2 Str Int) Int Int))) K F0 v_stack x_stack := r_stack
  have r_cell_here : rp (α := Int) K F0 v_cell_here x_cell_here := r_cell_here
  change GoS _ _ _ [some v_number, some v_far_here, some v_stack, some v_cell_here, none, none, none, none, none, none, none, none, none] _
  obtain ⟨t1, h_t1, hm⟩ := Option.bind_eq_some_iff.mp hm
  obtain ⟨x_about, he, hm⟩ := Option.bind_eq_some_iff.mp hm
  refine go_setA (Int) 4 G.sm (ev_ixL (EvN.evA ((List Int)) (en_list (el_int (el_int (el_cons (ev_varK 1 rfl r_far_here kv_loop_1) el_nil))) (by show 3 ≤ sizeLine; decide))) (ev_mod (ev_varK 0 rfl r_number kv_loop_0) ev_int (by decide)) h_t1) (fun v_about F H g rn_ => ?_) sc_loop.nd
  have G := G.trans g
  have r_number := Rp.mono g.ff r_number
  have r_far_here := Rp.mono g.ff r_far_here
  have r_stack := Rp.mono g.ff r_stack
  have r_cell_here := Rp.mono g.ff r_cell_here
  have r_about := cg (Option.some.inj he) rn_
  change GoS _ _ _ [some v_number, some v_far_here, some v_stack, some v_cell_here, some v_about, none, none, none, none, none, none, none, none] _
  obtain ⟨t2, h_t2, hm⟩ := Option.bind_eq_some_iff.mp hm
  obtain ⟨t3, h_t3, hm⟩ := Option.bind_eq_some_iff.mp hm
  obtain ⟨x_bases, he, hm⟩ := Option.bind_eq_some_iff.mp hm
  refine go_setA ((List (T2 Str Int))) 5 G.sm (EvN.evA ((List (T2 Str Int))) (en_cat (EvN.evA ((List (T2 Str Int))) (en_list (el_cons (ev_tup2 (ea_cons ev_str (ea_cons ev_int ea_nil))) el_nil) (by show 1 ≤ sizeLine; decide))) (EvN.evA ((List (T2 Str Int))) (en_comp (own := [("_law_one", 6)]) sc_loop.nd (ei_list (ev_varK 2 rfl r_stack kv_loop_2)) h_t2 (blkOk_by (N := ["_law_number", "_law_far_here", "_law_stack", "_law_cell_here", "_law_about", "_law_bases", "_law_one", "_law_low", "_law_high", "_law_more", "_law_low_spot", "_law_turn", "_law_name_here"]) (sc := defScope s_loop) (by decide +kernel)) (fun _ _ _ _ _ => (pg_name (i := 6) sc_loop.nd rfl (by first | exact Or.inl rfl | exact Or.inr rfl))) (fun x_one o_ hm F H v_one g r_one Q hQ => by
          have r_stack := Rp.mono g.ff r_stack
          refine hQ _ rfl ?_
          exact ⟨_, (Option.some.inj hm).symm, fun s_ H_ C_ cl_ fp_ => (ev_tup2 (ea_cons (ev_ixT (ev_var 6 rfl r_one) ev_int pj0) (ea_cons (ev_ixT (ev_var 6 rfl r_one) ev_int pj3) ea_nil)))⟩))) h_t3)) (fun v_bases F H g rn_ => ?_) sc_loop.nd
  have G := G.trans g
  have r_number := Rp.mono g.ff r_number
  have r_stack := Rp.mono g.ff r_stack
  have r_cell_here := Rp.mono g.ff r_cell_here
  have r_about := Rp.mono g.ff r_about
  have r_bases := cg (Option.some.inj he) rn_
  change GoS _ _ _ [some v_number, some v_far_here, some v_stack, some v_cell_here, some v_about, some v_bases, none, none, none, none, none, none, none] _
  obtain ⟨t4, h_t4, hm⟩ := Option.bind_eq_some_iff.mp hm
  obtain ⟨t5, h_t5, hm⟩ := Option.bind_eq_some_iff.mp hm
  obtain ⟨x_low, he, hm⟩ := Option.bind_eq_some_iff.mp hm
  refine go_setA ((T2 Str Int)) 7 G.sm (ev_ixL (ev_varK 5 rfl r_bases kv_loop_5) (ev_modG (ev_div (ev_varK 0 rfl r_number kv_loop_0) ev_int ⟨by decide, by decide⟩) (ev_callB call_len_seq oc_lenL T.n_len PySem.boot_len (ea_cons (ev_varK 5 rfl r_bases kv_loop_5) ea_nil)) h_t4) h_t5) (fun v_low F H g rn_ => ?_) sc_loop.nd
  have G := G.trans g
  have r_number := Rp.mono g.ff r_number
  have r_stack := Rp.mono g.ff r_stack
  have r_cell_here := Rp.mono g.ff r_cell_here
  have r_about := Rp.mono g.ff r_about
  have r_bases := Rp.mono g.ff r_bases
  have r_low := cg (Option.some.inj he) rn_
  change GoS _ _ _ [some v_number, some v_far_here, some v_stack, some v_cell_here, some v_about, some v_bases, none, some v_low, none, none, none, none, none] _
  obtain ⟨t6, h_t6, hm⟩ := Option.bind_eq_some_iff.mp hm
  obtain ⟨t7, h_t7, hm⟩ := Option.bind_eq_some_iff.mp hm
  obtain ⟨x_high, he, hm⟩ := Option.bind_eq_some_iff.mp hm
  refine go_setA ((T2 Str Int)) 8 G.sm (ev_ixL (ev_varK 5 rfl r_bases kv_loop_5) (ev_modG (ev_div (ev_varK 0 rfl r_number kv_loop_0) ev_int ⟨by decide, by decide⟩) (ev_callB call_len_seq oc_lenL T.n_len PySem.boot_len (ea_cons (ev_varK 5 rfl r_bases kv_loop_5) ea_nil)) h_t6) h_t7) (fun v_high F H g rn_ => ?_) sc_loop.nd
  have G := G.trans g
  have r_number := Rp.mono g.ff r_number
  have r_stack := Rp.mono g.ff r_stack
  have r_cell_here := Rp.mono g.ff r_cell_here
  have r_about := Rp.mono g.ff r_about
  have r_bases := Rp.mono g.ff r_bases
  have r_low := Rp.mono g.ff r_low
  have r_high := cg (Option.some.inj he) rn_
  change GoS _ _ _ [some v_number, some v_far_here, some v_stack, some v_cell_here, some v_about, some v_bases, none, some v_low, some v_high, none, none, none, none] _
  obtain ⟨t8, h_t8, hm⟩ := Option.bind_eq_some_iff.mp hm
  obtain ⟨x_more, he, hm⟩ := Option.bind_eq_some_iff.mp hm
  refine go_setA (Int) 9 G.sm (ev_ixL (EvN.evA ((List Int)) (en_list (el_int (el_int (el_int (el_int (el_int (el_int (el_cons (ev_neg ev_int) (el_int el_nil)))))))) (by show 8 ≤ sizeLine; decide))) (ev_mod (ev_div (ev_varK 0 rfl r_number kv_loop_0) ev_int ⟨by decide, by decide⟩) ev_int (by decide)) h_t8) (fun v_more F H g rn_ => ?_) sc_loop.nd
  have G := G.trans g
  have r_number := Rp.mono g.ff r_number
  have r_stack := Rp.mono g.ff r_stack
  have r_cell_here := Rp.mono g.ff r_cell_here
  have r_about := Rp.mono g.ff r_about
  have r_low := Rp.mono g.ff r_low
  have r_high := Rp.mono g.ff r_high
  have r_more := cg (Option.some.inj he) rn_
  change GoS _ _ _ [some v_number, some v_far_here, some v_stack, some v_cell_here, some v_about, some v_bases, none, some v_low, some v_high, some v_more, none, none, none] _
  obtain ⟨x_low_spot, he, hm⟩ := Option.bind_eq_some_iff.mp hm
  refine go_setA ((T2 Str Int)) 10 G.sm (ev_tup2 (ea_cons (ev_ixT (ev_varK 7 rfl r_low kv_loop_7) ev_int pj0) (ea_cons (ev_add (ev_sub (ev_varK 4 rfl r_about kv_loop_4) (ev_ixT (ev_varK 7 rfl r_low kv_loop_7) ev_int pj1)) (ev_mod (ev_div (ev_varK 0 rfl r_number kv_loop_0) ev_int ⟨by decide, by decide⟩) ev_int (by decide))) ea_nil))) (fun v_low_spot F H g rn_ => ?_) sc_loop.nd
  have G := G.trans g
  have r_number := Rp.mono g.ff r_number
  have r_stack := Rp.mono g.ff r_stack
  have r_cell_here := Rp.mono g.ff r_cell_here
  have r_about := Rp.mono g.ff r_about
  have r_low := Rp.mono g.ff r_low
  have r_high := Rp.mono g.ff r_high
  have r_more := Rp.mono g.ff r_more
  have r_low_spot := cg (Option.some.inj he) rn_
  change GoS _ _ _ [some v_number, some v_far_here, some v_stack, some v_cell_here, some v_about, some v_bases, none, some v_low, some v_high, some v_more, some v_low_spot, none, none] _
  obtain ⟨x_turn, he, hm⟩ := Option.bind_eq_some_iff.mp hm
  refine go_setA (Int) 11 G.sm (ev_mod (ev_div (ev_varK 0 rfl r_number kv_loop_0) ev_int ⟨by decide, by decide⟩) ev_int (by decide)) (fun v_turn F H g rn_ => ?_) sc_loop.nd
  have G := G.trans g
  have r_number := Rp.mono g.ff r_number
  have r_stack := Rp.mono g.ff r_stack
  have r_cell_here := Rp.mono g.ff r_cell_here
  have r_about := Rp.mono g.ff r_about
  have r_high := Rp.mono g.ff r_high
  have r_more := Rp.mono g.ff r_more
  have r_low_spot := Rp.mono g.ff r_low_spot
  have r_turn := cg (Option.some.inj he) rn_
  change GoS _ _ _ [some v_number, some v_far_here, some v_stack, some v_cell_here, some v_about, some v_bases, none, some v_low, some v_high, some v_more, some v_low_spot, some v_turn, none] _
  obtain ⟨b9, hj, hm⟩ := Option.bind_eq_some_iff.mp hm
  refine go_ifjA ((!x_stack.isEmpty)) (fun σ_ H_ => ∃ (F_ : Hp) (v_turn : V), L2.Same F F_ ∧ σ_ = [some v_number, some v_far_here, some v_stack, some v_cell_here, some v_about, some v_bases, none, some v_low, some v_high, some v_more, some v_low_spot, some v_turn, none] ∧ GrX K F0 H0 F_ H_ ∧ rp (α := Int) K F_ v_turn b9) G.sm (et_cmp (op_neE hr.units0) o2_neEL (ev_varK 2 rfl r_stack kv_loop_2) (EvN.evA ((List (T5 Str (T2 Str Int) (T2 Str Int) Int Int))) (en_list el_nil (Nat.zero_le _))) (nomark _)) (fun hc F H g => ?_) (fun hc F H g => ?_) (fun σ_ H hP_ => ?_)
  · replace hj := ipos hc hj
    clear hm
    have hm := hj
    clear hj
    have G := G.trans g
    have r_stack := Rp.mono g.ff r_stack
    have r_cell_here := Rp.mono g.ff r_cell_here
    have r_about := Rp.mono g.ff r_about
    have r_high := Rp.mono g.ff r_high
    have r_more := Rp.mono g.ff r_more
    have r_low_spot := Rp.mono g.ff r_low_spot
    have r_turn := Rp.mono g.ff r_turn
    have sj10 := g.ff
    obtain ⟨t11, h_t11, hm⟩ := Option.bind_eq_some_iff.mp hm
    obtain ⟨x_turn, he, hm⟩ := Option.bind_eq_some_iff.mp hm
    refine go_setA (Int) 11 G.sm (ev_ixT (ev_ixL (ev_varK 2 rfl r_stack kv_loop_2) ev_int h_t11) ev_int pj4) (fun v_turn F H g rn_ => ?_) sc_loop.nd
    have G := G.trans g
    have r_stack := Rp.mono g.ff r_stack
    have r_cell_here := Rp.mono g.ff r_cell_here
    have r_about := Rp.mono g.ff r_about
    have r_high := Rp.mono g.ff r_high
    have r_more := Rp.mono g.ff r_more
    have r_low_spot := Rp.mono g.ff r_low_spot
    have sj10 := sj10.trans g.ff
    have r_turn := cg (Option.some.inj he) rn_
    have hm := Option.some.inj hm
    subst hm
    exact GoS.nil ⟨_, _, sj10, rfl, G, r_turn⟩
  · replace hj := ineg (nt hc) hj
    clear hm
    have hm := hj
    clear hj
    have G := G.trans g
    have r_stack := Rp.mono g.ff r_stack
    have r_cell_here := Rp.mono g.ff r_cell_here
    have r_about := Rp.mono g.ff r_about
    have r_high := Rp.mono g.ff r_high
    have r_more := Rp.mono g.ff r_more
    have r_low_spot := Rp.mono g.ff r_low_spot
    have r_turn := Rp.mono g.ff r_turn
    have sj10 := g.ff
    have hm := Option.some.inj hm
    subst hm
    exact GoS.nil ⟨_, _, sj10, rfl, G, r_turn⟩
  obtain ⟨F, v_turn, sj_, rfl, G, r_turn⟩ := hP_
  have r_stack := Rp.mono sj_ r_stack
  have r_cell_here := Rp.mono sj_ r_cell_here
  have r_about := Rp.mono sj_ r_about
  have r_high := Rp.mono sj_ r_high
  have r_more := Rp.mono sj_ r_more
  have r_low_spot := Rp.mono sj_ r_low_spot
  obtain ⟨t12, h_t12, hm⟩ := Option.bind_eq_some_iff.mp hm
  obtain ⟨x_name_here, he, hm⟩ := Option.bind_eq_some_iff.mp hm
  refine go_setA (Str) 12 G.sm (ev_call (ok_name T) (hr.mono (by omega)) T.g_name T.F_name.kp (b_name T) (ea_cons (ev_varK 3 rfl r_cell_here kv_loop_3) (ea_cons (ev_mod (ev_add (ev_callB call_len_seq oc_lenL T.n_len PySem.boot_len (ea_cons (ev_varK 2 rfl r_stack kv_loop_2) ea_nil)) (ev_varK 11 rfl r_turn kv_loop_11)) ev_int (by decide)) ea_nil)) h_t12 gl_loop_name) (fun v_name_here F H g rn_ => ?_) sc_loop.nd
  have G := G.trans g
  have r_stack := Rp.mono g.ff r_stack
  have r_cell_here := Rp.mono g.ff r_cell_here
  have r_about := Rp.mono g.ff r_about
  have r_high := Rp.mono g.ff r_high
  have r_more := Rp.mono g.ff r_more
  have r_low_spot := Rp.mono g.ff r_low_spot
  have r_turn := Rp.mono g.ff r_turn
  have r_name_here := cg (Option.some.inj he) rn_
  change GoS _ _ _ [some v_number, some v_far_here, some v_stack, some v_cell_here, some v_about, some v_bases, none, some v_low, some v_high, some v_more, some v_low_spot, some v_turn, some v_name_here] _
  exact go_ret G.sm (ev_tup5 (ea_cons (ev_varK 12 rfl r_name_here kv_loop_12) (ea_cons (ev_varK 10 rfl r_low_spot kv_loop_10) (ea_cons (ev_tup2 (ea_cons (ev_ixT (ev_varK 8 rfl r_high kv_loop_8) ev_int pj0) (ea_cons (ev_add (ev_sub (ev_varK 4 rfl r_about kv_loop_4) (ev_ixT (ev_varK 8 rfl r_high kv_loop_8) ev_int pj1)) (ev_varK 9 rfl r_more kv_loop_9)) ea_nil))) (ea_cons (ev_varK 4 rfl r_about kv_loop_4) (ea_cons (ev_varK 11 rfl r_turn kv_loop_11) ea_nil)))))) fun v_ F_ H_ g_ rv_ => kr _ _ _ (G.trans g_) (cg (Option.some.inj hm) rv_)
theorem sc_heads : FnScope ["_law_script", "_law_cell_here", "_law_number", "_law_off", "_law_heads_here", "_law_t"] ["_law_script"] (defScope s_heads) := ⟨rfl, rfl, rfl, by decide +kernel, rfl, by decide +kernel, by decide +kernel⟩
theorem b_heads (T : Txt K mg) : Binds K T.d_heads ["_law_script"] [] := T.F_heads.bindsN fun _ _ _ _ _ _ us hl => match us, hl with | [_], _ => rfl
theorem kv_heads_0 : VKn (defScope s_heads) "_law_script" := ⟨by first | exact Or.inl (by decide +kernel) | exact Or.inr (Or.inl (by decide +kernel)) | exact Or.inr (Or.inr (by decide +kernel)), by decide, by decide⟩
theorem kv_heads_1 : VKn (defScope s_heads) "_law_cell_here" := ⟨by first | exact Or.inl (by decide +kernel) | exact Or.inr (Or.inl (by decide +kernel)) | exact Or.inr (Or.inr (by decide +kernel)), by decide, by decide⟩
theorem kv_heads_2 : VKn (defScope s_heads) "_law_number" := ⟨by first | exact Or.inl (by decide +kernel) | exact Or.inr (Or.inl (by decide +kernel)) | exact Or.inr (Or.inr (by decide +kernel)), by decide, by decide⟩
theorem kv_heads_3 : VKn (defScope s_heads) "_law_off" := ⟨by first | exact Or.inl (by decide +kernel) | exact Or.inr (Or.inl (by decide +kernel)) | exact Or.inr (Or.inr (by decide +kernel)), by decide, by decide⟩
theorem kv_heads_4 : VKn (defScope s_heads) "_law_heads_here" := ⟨by first | exact Or.inl (by decide +kernel) | exact Or.inr (Or.inl (by decide +kernel)) | exact Or.inr (Or.inr (by decide +kernel)), by decide, by decide⟩
theorem kv_heads_5 : VKn (defScope s_heads) "_law_t" := ⟨by first | exact Or.inl (by decide +kernel) | exact Or.inr (Or.inl (by decide +kernel)) | exact Or.inr (Or.inr (by decide +kernel)), by decide, by decide⟩
theorem gl_heads_cell : (defScope s_heads).names.lookup ("_law_cell" : Str) = some NameKind.globalImplicit := by decide +kernel
theorem gl_heads_mixed : (defScope s_heads).names.lookup ("_law_mixed" : Str) = some NameKind.globalImplicit := by decide +kernel
theorem gl_heads_name : (defScope s_heads).names.lookup ("_law_name" : Str) = some NameKind.globalImplicit := by decide +kernel
theorem ok_heads (T : Txt K mg) : FnOk P w K mg base CX0 3 (He.fAd K ("_law_heads", none)) T.d_heads ["_law_script"] (Pr K fun (a_ : (List Int) × Unit) => m_heads a_.1) := by
  refine fn_ok T.F_heads sc_heads rfl fun cdv A outer s_ F0 H0 vs a_ r D_ E_ hr sm_ ra_ hm kr kn => ?_
  obtain ⟨v_script, _, rfl, r_script, rfl⟩ := ra_
  obtain ⟨x_script, _u⟩ := a_
  have G : GrX K F0 H0 F0 H0 := .refl sm_
  replace hm : m_heads x_script = some r := hm
  unfold m_heads at hm
  have r_script : rp (α := (List Int)) K F0 v_script x_script := r_script
  change GoS _ _ _ [some v_script, none, none, none, none, none] _
  obtain ⟨t1, h_t1, hm⟩ := Option.bind_eq_some_iff.mp hm
  obtain ⟨x_cell_here, he, hm⟩ := Option.bind_eq_some_iff.mp hm
  refine go_setA (Int) 1 G.sm (ev_call (ok_cell T) (hr.mono (by omega)) T.g_cell T.F_cell.kp (b_cell T) (ea_cons (ev_varK 0 rfl r_script kv_heads_0) (ea_cons ev_int ea_nil)) h_t1 gl_heads_cell) (fun v_cell_here F H g rn_ => ?_) sc_heads.nd
  have G := G.trans g
  have r_script := Rp.mono g.ff r_script
  have r_cell_here := cg (Option.some.inj he) rn_
  change GoS _ _ _ [some v_script, some v_cell_here, none, none, none, none] _
  obtain ⟨t2, h_t2, hm⟩ := Option.bind_eq_some_iff.mp hm
  obtain ⟨x_number, he, hm⟩ := Option.bind_eq_some_iff.mp hm
  refine go_setA (Int) 2 G.sm (ev_call (ok_mixed T) (hr.mono (by omega)) T.g_mixed T.F_mixed.kp (b_mixed T) (ea_cons (ev_varK 1 rfl r_cell_here kv_heads_1) (ea_cons ev_int ea_nil)) h_t2 gl_heads_mixed) (fun v_number F H g rn_ => ?_) sc_heads.nd
  have G := G.trans g
  have r_cell_here := Rp.mono g.ff r_cell_here
  have r_number := cg (Option.some.inj he) rn_
  change GoS _ _ _ [some v_script, some v_cell_here, some v_number, none, none, none] _
  obtain ⟨t3, h_t3, hm⟩ := Option.bind_eq_some_iff.mp hm
  obtain ⟨x_off, he, hm⟩ := Option.bind_eq_some_iff.mp hm
  refine go_setA (Int) 3 G.sm (ev_ixL (EvN.evA ((List Int)) (en_list (el_int (el_int (el_cons (ev_sub (ev_mod (ev_varK 1 rfl r_cell_here kv_heads_1) (ev_add (ev_mul ev_int (ev_powcA (100000000000000000) ev_int ev_int (by decide) (by decide +kernel)) (CMul.l (by decide))) ev_int) (by decide)) (ev_powcA (100000000000000000) ev_int ev_int (by decide) (by decide +kernel))) el_nil))) (by show 3 ≤ sizeLine; decide))) (ev_mod (ev_varK 2 rfl r_number kv_heads_2) ev_int (by decide)) h_t3) (fun v_off F H g rn_ => ?_) sc_heads.nd
  have G := G.trans g
  have r_cell_here := Rp.mono g.ff r_cell_here
  have r_number := Rp.mono g.ff r_number
  have r_off := cg (Option.some.inj he) rn_
  change GoS _ _ _ [some v_script, some v_cell_here, some v_number, some v_off, none, none] _
  obtain ⟨x_heads_here, he, hm⟩ := Option.bind_eq_some_iff.mp hm
  refine go_setNA ((List (T3 Str Int Int))) 4 G.sm (en_list el_nil (Nat.zero_le _)) (fun l_heads_here vs_ F H g nl_ fl_ hl_ rs_ => ?_) sc_heads.nd
  have n0_ := G.hh.free nl_
  have G := G.trans g
  have r_number := Rp.mono g.ff r_number
  have r_off := Rp.mono g.ff r_off
  have o_heads_here : Own K _ F H l_heads_here _ := Own.cg (Option.some.inj he) ⟨n0_, fl_, vs_, hl_, rs_⟩
  change GoS _ _ _ [some v_script, some v_cell_here, some v_number, some v_off, some (.ref l_heads_here), none] _
  obtain ⟨b11, ho_, hm⟩ := Option.bind_eq_some_iff.mp hm
  refine go_forN G.sm (ei_range1 ev_int (by rfl) T.n_range) (pg_name (i := 5) sc_heads.nd rfl (by first | exact Or.inl rfl | exact Or.inr rfl)) ho_ (fun F H g => ?_) PassesOwn.never
  have G := G.trans g
  have r_number := Rp.mono g.ff r_number
  have r_off := Rp.mono g.ff r_off
  have o_heads_here := o_heads_here.up g
  refine ⟨fun (b4 : (List (T3 Str Int Int))) σ_ F_ H_ => ∃ (u_t : Option V), σ_ = [some v_script, some v_cell_here, some v_number, some v_off, some (.ref l_heads_here), u_t] ∧ GrX K F0 H0 F_ H_ ∧ Own K H0 F_ H_ l_heads_here b4, ⟨_, rfl, G, o_heads_here⟩, ?_, ?_⟩
  ·
    intro b4 x_t o_ hm σ_ F H v_t s1_ s2_ iv_ F H g r_t Q_ hQ_
    obtain ⟨u_t, rfl, G, o_heads_here⟩ := iv_
    have sb7 := g.ff
    have r_number := Rp.mono s1_ r_number
    have r_off := Rp.mono s1_ r_off
    have G := G.trans g
    have r_number := Rp.mono g.ff r_number
    have r_off := Rp.mono g.ff r_off
    have o_heads_here := o_heads_here.up g
    refine hQ_ _ _ ?_
    change GoS _ _ _ [some v_script, some v_cell_here, some v_number, some v_off, some (.ref l_heads_here), some v_t] _
    obtain ⟨t8, h_t8, hm⟩ := Option.bind_eq_some_iff.mp hm
    obtain ⟨t9, h_t9, hm⟩ := Option.bind_eq_some_iff.mp hm
    obtain ⟨t10, he, hm⟩ := Option.bind_eq_some_iff.mp hm
    refine go_append 4 G.sm o_heads_here rfl (ev_tup3 (ea_cons (ev_call (ok_name T) (hr.mono (by omega)) T.g_name T.F_name.kp (b_name T) (ea_cons (ev_div (ev_varK 2 rfl r_number kv_heads_2) ev_int ⟨by decide, by decide⟩) (ea_cons (ev_varK 5 rfl r_t kv_heads_5) ea_nil)) h_t8 gl_heads_name) (ea_cons (ev_ixL (EvN.evA ((List Int)) (en_list (el_int (el_int (el_int (el_int (el_int (el_int el_nil)))))) (by show 6 ≤ sizeLine; decide))) (ev_mod (ev_add (ev_div (ev_varK 2 rfl r_number kv_heads_2) ev_int ⟨by decide, by decide⟩) (ev_varK 5 rfl r_t kv_heads_5)) ev_int (by decide)) h_t9) (ea_cons (ev_varK 3 rfl r_off kv_heads_3) ea_nil)))) he (fun w_ F H g nz_ fz_ on_ => ?_)
    have G := G.trans g
    have r_number := Rp.mono g.ff r_number
    have r_off := Rp.mono g.ff r_off
    have r_t := Rp.mono g.ff r_t
    have sb7 := sb7.trans g.ff
    have G := G.poke (u := w_) on_.n fz_ nz_ on_.pl
    have o_heads_here := on_
    have hm := Option.some.inj hm
    subst hm
    exact GoS.nil ⟨_, sb7, G.fh, ⟨_, rfl, G, o_heads_here⟩⟩
  · intro σ_ F H s1_ s2_ iv_
    obtain ⟨u_t, rfl, G, o_heads_here⟩ := iv_
    refine o_heads_here.freeze G (fun F H s_ s2_ G r_heads_here k_ => ?_)
    exact go_ret G.sm (ev_varK 4 rfl r_heads_here kv_heads_4) fun v_ F_ H_ g_ rv_ => kr _ _ _ (G.trans g_) (cg (Option.some.inj hm) rv_)
theorem sc_spots : FnScope ["_law_number", "_law_bases", "_law_many_here", "_law_off", "_law_spots_here", "_law_k", "_law_part", "_law_base"] ["_law_number", "_law_bases", "_law_many_here", "_law_off"] (defScope s_spots) := ⟨rfl, rfl, rfl, by decide +kernel, rfl, by decide +kernel, by decide +kernel⟩
theorem b_spots (T : Txt K mg) : Binds K T.d_spots ["_law_number", "_law_bases", "_law_many_here", "_law_off"] [] := T.F_spots.bindsN fun _ _ _ _ _ _ us hl => match us, hl with | [_, _, _, _], _ => rfl
theorem kv_spots_0 : VKn (defScope s_spots) "_law_number" := ⟨by first | exact Or.inl (by decide +kernel) | exact Or.inr (Or.inl (by decide +kernel)) | exact Or.inr (Or.inr (by decide +kernel)), by decide, by decide⟩
theorem kv_spots_1 : VKn (defScope s_spots) "_law_bases" := ⟨by first | exact Or.inl (by decide +kernel) | exact Or.inr (Or.inl (by decide +kernel)) | exact Or.inr (Or.inr (by decide +kernel)), by decide, by decide⟩
theorem kv_spots_2 : VKn (defScope s_spots) "_law_many_here" := ⟨by first | exact Or.inl (by decide +kernel) | exact Or.inr (Or.inl (by decide +kernel)) | exact Or.inr (Or.inr (by decide +kernel)), by decide, by decide⟩
theorem kv_spots_3 : VKn (defScope s_spots) "_law_off" := ⟨by first | exact Or.inl (by decide +kernel) | exact Or.inr (Or.inl (by decide +kernel)) | exact Or.inr (Or.inr (by decide +kernel)), by decide, by decide⟩
theorem kv_spots_5 : VKn (defScope s_spots) "_law_k" := ⟨by first | exact Or.inl (by decide +kernel) | exact Or.inr (Or.inl (by decide +kernel)) | exact Or.inr (Or.inr (by decide +kernel)), by decide, by decide⟩
theorem kv_spots_6 : VKn (defScope s_spots) "_law_part" := ⟨by first | exact Or.inl (by decide +kernel) | exact Or.inr (Or.inl (by decide +kernel)) | exact Or.inr (Or.inr (by decide +kernel)), by decide, by decide⟩
theorem kv_spots_7 : VKn (defScope s_spots) "_law_base" := ⟨by first | exact Or.inl (by decide +kernel) | exact Or.inr (Or.inl (by decide +kernel)) | exact Or.inr (Or.inr (by decide +kernel)), by decide, by decide⟩
theorem ok_spots (T : Txt K mg) : FnOk P w K mg base CX0 1 (He.fAd K ("_law_spots", none)) T.d_spots ["_law_number", "_law_bases", "_law_many_here", "_law_off"] (Pr K fun (a_ : Int × (List (T2 Str Int)) × Int × Int × Unit) => m_spots a_.1 a_.2.1 a_.2.2.1 a_.2.2.2.1) := by
  refine fn_ok T.F_spots sc_spots rfl fun cdv A outer s_ F0 H0 vs a_ r D_ E_ hr sm_ ra_ hm kr kn => ?_
  obtain ⟨v_number, _, rfl, r_number, v_bases, _, rfl, r_bases, v_many_here, _, rfl, r_many_here, v_off, _, rfl, r_off, rfl⟩ := ra_
  obtain ⟨x_number, x_bases, x_many_here, x_off, _u⟩ := a_
  have G : GrX K F0 H0 F0 H0 := .refl sm_
  replace hm : m_spots x_number x_bases x_many_here x_off = some r := hm
  unfold m_spots at hm
  have r_number : rp (α := Int) K F0 v_number x_number := r_number
  have r_bases : rp (α := (List (T2 Str Int))) K F0 v_bases x_bases := r_bases
  have r_many_here : rp (α := Int) K F0 v_many_here x_many_here := r_many_here
  have r_off : rp (α := Int) K F0 v_off x_off := r_off
  change GoS _ _ _ [some v_number, some v_bases, some v_many_here, some v_off, none, none, none, none] _
  obtain ⟨x_spots_here, he, hm⟩ := Option.bind_eq_some_iff.mp hm
  refine go_setNA ((List (T2 Str Int))) 4 G.sm (en_list el_nil (Nat.zero_le _)) (fun l_spots_here vs_ F H g nl_ fl_ hl_ rs_ => ?_) sc_spots.nd
  have n0_ := G.hh.free nl_
  have G := G.trans g
  have r_number := Rp.mono g.ff r_number
  have r_bases := Rp.mono g.ff r_bases
  have r_many_here := Rp.mono g.ff r_many_here
  have r_off := Rp.mono g.ff r_off
  have o_spots_here : Own K _ F H l_spots_here _ := Own.cg (Option.some.inj he) ⟨n0_, fl_, vs_, hl_, rs_⟩
  change GoS _ _ _ [some v_number, some v_bases, some v_many_here, some v_off, some (.ref l_spots_here), none, none, none] _
  obtain ⟨t1, h_t1, hm⟩ := Option.bind_eq_some_iff.mp hm
  obtain ⟨b11, ho_, hm⟩ := Option.bind_eq_some_iff.mp hm
  refine go_forN G.sm (ei_range1 (ev_varK 2 rfl r_many_here kv_spots_2) h_t1 T.n_range) (pg_name (i := 5) sc_spots.nd rfl (by first | exact Or.inl rfl | exact Or.inr rfl)) ho_ (fun F H g => ?_) PassesOwn.never
  have G := G.trans g
  have r_number := Rp.mono g.ff r_number
  have r_bases := Rp.mono g.ff r_bases
  have r_off := Rp.mono g.ff r_off
  have o_spots_here := o_spots_here.up g
  refine ⟨fun (b2 : (List (T2 Str Int))) σ_ F_ H_ => ∃ (u_part : Option V) (u_base : Option V) (u_k : Option V), σ_ = [some v_number, some v_bases, some v_many_here, some v_off, some (.ref l_spots_here), u_k, u_part, u_base] ∧ GrX K F0 H0 F_ H_ ∧ Own K H0 F_ H_ l_spots_here b2, ⟨_, _, _, rfl, G, o_spots_here⟩, ?_, ?_⟩
  ·
    intro b2 x_k o_ hm σ_ F H v_k s1_ s2_ iv_ F H g r_k Q_ hQ_
    obtain ⟨u_part, u_base, u_k, rfl, G, o_spots_here⟩ := iv_
    have sb5 := g.ff
    have r_number := Rp.mono s1_ r_number
    have r_bases := Rp.mono s1_ r_bases
    have r_off := Rp.mono s1_ r_off
    have G := G.trans g
    have r_number := Rp.mono g.ff r_number
    have r_bases := Rp.mono g.ff r_bases
    have r_off := Rp.mono g.ff r_off
    have o_spots_here := o_spots_here.up g
    refine hQ_ _ _ ?_
    change GoS _ _ _ [some v_number, some v_bases, some v_many_here, some v_off, some (.ref l_spots_here), some v_k, u_part, u_base] _
    obtain ⟨t6, h_t6, hm⟩ := Option.bind_eq_some_iff.mp hm
    obtain ⟨t7, h_t7, hm⟩ := Option.bind_eq_some_iff.mp hm
    obtain ⟨x_part, he, hm⟩ := Option.bind_eq_some_iff.mp hm
    refine go_setA (Int) 6 G.sm (ev_divG (ev_varK 0 rfl r_number kv_spots_0) (ev_ixL (EvN.evA ((List Int)) (en_list (el_int (el_int (el_int el_nil))) (by show 3 ≤ sizeLine; decide))) (ev_varK 5 rfl r_k kv_spots_5) h_t6) h_t7) (fun v_part F H g rn_ => ?_) sc_spots.nd
    have G := G.trans g
    have r_number := Rp.mono g.ff r_number
    have r_bases := Rp.mono g.ff r_bases
    have r_off := Rp.mono g.ff r_off
    have o_spots_here := o_spots_here.up g
    have r_k := Rp.mono g.ff r_k
    have sb5 := sb5.trans g.ff
    have r_part := cg (Option.some.inj he) rn_
    change GoS _ _ _ [some v_number, some v_bases, some v_many_here, some v_off, some (.ref l_spots_here), some v_k, some v_part, u_base] _
    obtain ⟨t8, h_t8, hm⟩ := Option.bind_eq_some_iff.mp hm
    obtain ⟨t9, h_t9, hm⟩ := Option.bind_eq_some_iff.mp hm
    obtain ⟨x_base, he, hm⟩ := Option.bind_eq_some_iff.mp hm
    refine go_setA ((T2 Str Int)) 7 G.sm (ev_ixL (ev_varK 1 rfl r_bases kv_spots_1) (ev_modG (ev_varK 6 rfl r_part kv_spots_6) (ev_callB call_len_seq oc_lenL T.n_len PySem.boot_len (ea_cons (ev_varK 1 rfl r_bases kv_spots_1) ea_nil)) h_t8) h_t9) (fun v_base F H g rn_ => ?_) sc_spots.nd
    have G := G.trans g
    have r_bases := Rp.mono g.ff r_bases
    have r_off := Rp.mono g.ff r_off
    have o_spots_here := o_spots_here.up g
    have r_part := Rp.mono g.ff r_part
    have sb5 := sb5.trans g.ff
    have r_base := cg (Option.some.inj he) rn_
    change GoS _ _ _ [some v_number, some v_bases, some v_many_here, some v_off, some (.ref l_spots_here), some v_k, some v_part, some v_base] _
    obtain ⟨t10, he, hm⟩ := Option.bind_eq_some_iff.mp hm
    refine go_append 4 G.sm o_spots_here rfl (ev_tup2 (ea_cons (ev_ixT (ev_varK 7 rfl r_base kv_spots_7) ev_int pj0) (ea_cons (ev_sub (ev_add (ev_varK 3 rfl r_off kv_spots_3) (ev_mod (ev_div (ev_varK 6 rfl r_part kv_spots_6) ev_int ⟨by decide, by decide⟩) ev_int (by decide))) (ev_ixT (ev_varK 7 rfl r_base kv_spots_7) ev_int pj1)) ea_nil))) he (fun w_ F H g nz_ fz_ on_ => ?_)
    have G := G.trans g
    have r_off := Rp.mono g.ff r_off
    have r_part := Rp.mono g.ff r_part
    have r_base := Rp.mono g.ff r_base
    have sb5 := sb5.trans g.ff
    have G := G.poke (u := w_) on_.n fz_ nz_ on_.pl
    have o_spots_here := on_
    have hm := Option.some.inj hm
    subst hm
    exact GoS.nil ⟨_, sb5, G.fh, ⟨_, _, _, rfl, G, o_spots_here⟩⟩
  · intro σ_ F H s1_ s2_ iv_
    obtain ⟨u_part, u_base, u_k, rfl, G, o_spots_here⟩ := iv_
    change GoS _ _ _ [some v_number, some v_bases, some v_many_here, some v_off, some (.ref l_spots_here), u_k, u_part, u_base] _
    exact go_ret G.sm (ev_thaw o_spots_here G.fh (fun F H s_ s2_ rf_ k_ => by
            have rf_spots_here := rf_
            exact (ev_callTy call_tuple_of oc_tuple T.n_tuple (by decide +kernel) (ea_cons (ev_var 4 rfl rf_spots_here) ea_nil)))) fun v_ F_ H_ g_ rv_ => kr _ _ _ (G.trans g_) (cg (Option.some.inj hm) rv_)
theorem sc_cell_of : FnScope ["_law_number", "_law_bases", "_law_heads_here", "_law_table", "_law_many_here", "_law_off"] ["_law_number", "_law_bases", "_law_heads_here"] (defScope s_cell_of) := ⟨rfl, rfl, rfl, by decide +kernel, rfl, by decide +kernel, by decide +kernel⟩
theorem b_cell_of (T : Txt K mg) : Binds K T.d_cell_of ["_law_number", "_law_bases", "_law_heads_here"] [] := T.F_cell_of.bindsN fun _ _ _ _ _ _ us hl => match us, hl with | [_, _, _], _ => rfl
theorem kv_cell_of_0 : VKn (defScope s_cell_of) "_law_number" := ⟨by first | exact Or.inl (by decide +kernel) | exact Or.inr (Or.inl (by decide +kernel)) | exact Or.inr (Or.inr (by decide +kernel)), by decide, by decide⟩
theorem kv_cell_of_1 : VKn (defScope s_cell_of) "_law_bases" := ⟨by first | exact Or.inl (by decide +kernel) | exact Or.inr (Or.inl (by decide +kernel)) | exact Or.inr (Or.inr (by decide +kernel)), by decide, by decide⟩
theorem kv_cell_of_2 : VKn (defScope s_cell_of) "_law_heads_here" := ⟨by first | exact Or.inl (by decide +kernel) | exact Or.inr (Or.inl (by decide +kernel)) | exact Or.inr (Or.inr (by decide +kernel)), by decide, by decide⟩
theorem kv_cell_of_3 : VKn (defScope s_cell_of) "_law_table" := ⟨by first | exact Or.inl (by decide +kernel) | exact Or.inr (Or.inl (by decide +kernel)) | exact Or.inr (Or.inr (by decide +kernel)), by decide, by decide⟩
theorem kv_cell_of_4 : VKn (defScope s_cell_of) "_law_many_here" := ⟨by first | exact Or.inl (by decide +kernel) | exact Or.inr (Or.inl (by decide +kernel)) | exact Or.inr (Or.inr (by decide +kernel)), by decide, by decide⟩
theorem kv_cell_of_5 : VKn (defScope s_cell_of) "_law_off" := ⟨by first | exact Or.inl (by decide +kernel) | exact Or.inr (Or.inl (by decide +kernel)) | exact Or.inr (Or.inr (by decide +kernel)), by decide, by decide⟩
theorem gl_cell_of_spots : (defScope s_cell_of).names.lookup ("_law_spots" : Str) = some NameKind.globalImplicit := by decide +kernel
theorem ok_cell_of (T : Txt K mg) : FnOk P w K mg base CX0 2 (He.fAd K ("_law_cell_of", none)) T.d_cell_of ["_law_number", "_law_bases", "_law_heads_here"] (Pr K fun (a_ : Int × (List (T2 Str Int)) × (List (T3 Str Int Int)) × Unit) => m_cell_of a_.1 a_.2.1 a_.2.2.1) := by
  refine fn_ok T.F_cell_of sc_cell_of rfl fun cdv A outer s_ F0 H0 vs a_ r D_ E_ hr sm_ ra_ hm kr kn => ?_
  obtain ⟨v_number, _, rfl, r_number, v_bases, _, rfl, r_bases, v_heads_here, _, rfl, r_heads_here, rfl⟩ := ra_
  obtain ⟨x_number, x_bases, x_heads_here, _u⟩ := a_
  have G : GrX K F0 H0 F0 H0 := .refl sm_
  replace hm : m_cell_of x_number x_bases x_heads_here = some r := hm
  unfold m_cell_of at hm
  have r_number : rp (α := Int) K F0 v_number x_number := r_number
  have r_bases : rp (α := (List (T2 Str Int))) K F0 v_bases x_bases := r_bases
  have r_heads_here : rp (α := (List (T3 Str Int Int))) K F0 v_heads_here x_heads_here := r_heads_here
  change GoS _ _ _ [some v_number, some v_bases, some v_heads_here, none, none, none] _
  obtain ⟨t1, h_t1, hm⟩ := Option.bind_eq_some_iff.mp hm
  obtain ⟨t2, h_t2, hm⟩ := Option.bind_eq_some_iff.mp hm
  obtain ⟨i3, he, hm⟩ := Option.bind_eq_some_iff.mp hm
  refine go_unpack G.sm (ev_ixL (ev_varK 2 rfl r_heads_here kv_cell_of_2) (ev_ixL (EvN.evA ((List Int)) (en_list (el_int (el_int (el_int (el_int (el_int (el_int el_nil)))))) (by show 6 ≤ sizeLine; decide))) (ev_mod (ev_varK 0 rfl r_number kv_cell_of_0) ev_int (by decide)) h_t1) h_t2) (pg_tup rfl (pgs_cons (pg_name (i := 3) sc_cell_of.nd rfl (by first | exact Or.inl rfl | exact Or.inr rfl)) (pgs_cons (pg_name (i := 4) sc_cell_of.nd rfl (by first | exact Or.inl rfl | exact Or.inr rfl)) (pgs_cons (pg_name (i := 5) sc_cell_of.nd rfl (by first | exact Or.inl rfl | exact Or.inr rfl)) pgs_nil)))) (fun w_ F H g ri_ Q_ hQ_ => ?_)
  have ri_ := cg (Option.some.inj he) ri_
  have G := G.trans g
  have r_number := Rp.mono g.ff r_number
  have r_bases := Rp.mono g.ff r_bases
  have r_heads_here := Rp.mono g.ff r_heads_here
  obtain ⟨pa4, _, rfl, sq5, v_table, _, rfl, r_table, v_many_here, _, rfl, r_many_here, v_off, _, rfl, r_off, rfl⟩ := ri_
  refine ⟨pa4, _, rfl, seqT_mono G.fh sq5, rfl, _, _, rfl, _, _, rfl, _, _, rfl, rfl, hQ_ _ _ ?_⟩
  change GoS _ _ _ [some v_number, some v_bases, some v_heads_here, some v_table, some v_many_here, some v_off] _
  obtain ⟨t6, h_t6, hm⟩ := Option.bind_eq_some_iff.mp hm
  exact go_ret G.sm (ev_tup2 (ea_cons (ev_varK 3 rfl r_table kv_cell_of_3) (ea_cons (ev_call (ok_spots T) (hr.mono (by omega)) T.g_spots T.F_spots.kp (b_spots T) (ea_cons (ev_div (ev_varK 0 rfl r_number kv_cell_of_0) ev_int ⟨by decide, by decide⟩) (ea_cons (ev_varK 1 rfl r_bases kv_cell_of_1) (ea_cons (ev_varK 4 rfl r_many_here kv_cell_of_4) (ea_cons (ev_varK 5 rfl r_off kv_cell_of_5) ea_nil)))) h_t6 gl_cell_of_spots) ea_nil))) fun v_ F_ H_ g_ rv_ => kr _ _ _ (G.trans g_) (cg (Option.some.inj hm) rv_)
theorem sc_leaf : FnScope ["_law_number", "_law_bases", "_law_heads_here", "_law_table", "_law_spots_here"] ["_law_number", "_law_bases", "_law_heads_here"] (defScope s_leaf) := ⟨rfl, rfl, rfl, by decide +kernel, rfl, by decide +kernel, by decide +kernel⟩
theorem b_leaf (T : Txt K mg) : Binds K T.d_leaf ["_law_number", "_law_bases", "_law_heads_here"] [] := T.F_leaf.bindsN fun _ _ _ _ _ _ us hl => match us, hl with | [_, _, _], _ => rfl
theorem kv_leaf_0 : VKn (defScope s_leaf) "_law_number" := ⟨by first | exact Or.inl (by decide +kernel) | exact Or.inr (Or.inl (by decide +kernel)) | exact Or.inr (Or.inr (by decide +kernel)), by decide, by decide⟩
theorem kv_leaf_1 : VKn (defScope s_leaf) "_law_bases" := ⟨by first | exact Or.inl (by decide +kernel) | exact Or.inr (Or.inl (by decide +kernel)) | exact Or.inr (Or.inr (by decide +kernel)), by decide, by decide⟩
theorem kv_leaf_2 : VKn (defScope s_leaf) "_law_heads_here" := ⟨by first | exact Or.inl (by decide +kernel) | exact Or.inr (Or.inl (by decide +kernel)) | exact Or.inr (Or.inr (by decide +kernel)), by decide, by decide⟩
theorem kv_leaf_3 : VKn (defScope s_leaf) "_law_table" := ⟨by first | exact Or.inl (by decide +kernel) | exact Or.inr (Or.inl (by decide +kernel)) | exact Or.inr (Or.inr (by decide +kernel)), by decide, by decide⟩
theorem kv_leaf_4 : VKn (defScope s_leaf) "_law_spots_here" := ⟨by first | exact Or.inl (by decide +kernel) | exact Or.inr (Or.inl (by decide +kernel)) | exact Or.inr (Or.inr (by decide +kernel)), by decide, by decide⟩
theorem gl_leaf_cell_of : (defScope s_leaf).names.lookup ("_law_cell_of" : Str) = some NameKind.globalImplicit := by decide +kernel
theorem ok_leaf (T : Txt K mg) : FnOk P w K mg base CX0 3 (He.fAd K ("_law_leaf", none)) T.d_leaf ["_law_number", "_law_bases", "_law_heads_here"] (Pr K fun (a_ : Int × (List (T2 Str Int)) × (List (T3 Str Int Int)) × Unit) => m_leaf a_.1 a_.2.1 a_.2.2.1) := by
  refine fn_ok T.F_leaf sc_leaf rfl fun cdv A outer s_ F0 H0 vs a_ r D_ E_ hr sm_ ra_ hm kr kn => ?_
  obtain ⟨v_number, _, rfl, r_number, v_bases, _, rfl, r_bases, v_heads_here, _, rfl, r_heads_here, rfl⟩ := ra_
  obtain ⟨x_number, x_bases, x_heads_here, _u⟩ := a_
  have G : GrX K F0 H0 F0 H0 := .refl sm_
  replace hm : m_leaf x_number x_bases x_heads_here = some r := hm
  unfold m_leaf at hm
  have r_number : rp (α := Int) K F0 v_number x_number := r_number
  have r_bases : rp (α := (List (T2 Str Int))) K F0 v_bases x_bases := r_bases
  have r_heads_here : rp (α := (List (T3 Str Int Int))) K F0 v_heads_here x_heads_here := r_heads_here
  change GoS _ _ _ [some v_number, some v_bases, some v_heads_here, none, none] _
  refine go_ifA ((decide ((1 : Int) < (x_number % (4 : Int))))) G.sm (et_cmp op_gt o2_gt (ev_mod (ev_varK 0 rfl r_number kv_leaf_0) ev_int (by decide)) ev_int (nomark _)) (fun hc F H g => ?_) (fun hc F H g => ?_)
  · replace hm := ipos hc hm
    have G := G.trans g
    have r_number := Rp.mono g.ff r_number
    have r_bases := Rp.mono g.ff r_bases
    have r_heads_here := Rp.mono g.ff r_heads_here
    obtain ⟨t1, h_t1, hm⟩ := Option.bind_eq_some_iff.mp hm
    obtain ⟨i2, he, hm⟩ := Option.bind_eq_some_iff.mp hm
    refine go_unpack G.sm (ev_call (ok_cell_of T) (hr.mono (by omega)) T.g_cell_of T.F_cell_of.kp (b_cell_of T) (ea_cons (ev_div (ev_varK 0 rfl r_number kv_leaf_0) ev_int ⟨by decide, by decide⟩) (ea_cons (ev_varK 1 rfl r_bases kv_leaf_1) (ea_cons (ev_varK 2 rfl r_heads_here kv_leaf_2) ea_nil))) h_t1 gl_leaf_cell_of) (pg_tup rfl (pgs_cons (pg_name (i := 3) sc_leaf.nd rfl (by first | exact Or.inl rfl | exact Or.inr rfl)) (pgs_cons (pg_name (i := 4) sc_leaf.nd rfl (by first | exact Or.inl rfl | exact Or.inr rfl)) pgs_nil))) (fun w_ F H g ri_ Q_ hQ_ => ?_)
    have ri_ := cg (Option.some.inj he) ri_
    have G := G.trans g
    have r_number := Rp.mono g.ff r_number
    have r_bases := Rp.mono g.ff r_bases
    have r_heads_here := Rp.mono g.ff r_heads_here
    obtain ⟨pa3, _, rfl, sq4, v_table, _, rfl, r_table, v_spots_here, _, rfl, r_spots_here, rfl⟩ := ri_
    refine ⟨pa3, _, rfl, seqT_mono G.fh sq4, rfl, _, _, rfl, _, _, rfl, rfl, hQ_ _ _ ?_⟩
    change GoS _ _ _ [some v_number, some v_bases, some v_heads_here, some v_table, some v_spots_here] _
    exact go_ret G.sm (UShape.mkv_c (ev_tup3 (ea_cons ev_str (ea_cons (ev_varK 3 rfl r_table kv_leaf_3) (ea_cons (ev_varK 4 rfl r_spots_here kv_leaf_4) ea_nil))))) fun v_ F_ H_ g_ rv_ => kr _ _ _ (G.trans g_) (cg (Option.some.inj hm) rv_)
  · replace hm := ineg (nt hc) hm
    have G := G.trans g
    have r_number := Rp.mono g.ff r_number
    have r_bases := Rp.mono g.ff r_bases
    have r_heads_here := Rp.mono g.ff r_heads_here
    refine GoS.nil ?_
    refine go_ifA (((decide ((x_number % (4 : Int)) = (1 : Int))) && (decide ((1 : Int) < (x_bases.length : Int))))) G.sm (EvW.t (ew_andP (et_cmp op_eq o2_eq (ev_mod (ev_varK 0 rfl r_number kv_leaf_0) ev_int (by decide)) ev_int (nomark _)) (ew_and1 (et_cmp op_gt o2_gt (ev_callB call_len_seq oc_lenL T.n_len PySem.boot_len (ea_cons (ev_varK 1 rfl r_bases kv_leaf_1) ea_nil)) ev_int (nomark _))))) (fun hc F H g => ?_) (fun hc F H g => ?_)
    · replace hm := ipos hc hm
      have G := G.trans g
      have r_number := Rp.mono g.ff r_number
      have r_bases := Rp.mono g.ff r_bases
      obtain ⟨t5, h_t5, hm⟩ := Option.bind_eq_some_iff.mp hm
      obtain ⟨t6, h_t6, hm⟩ := Option.bind_eq_some_iff.mp hm
      exact go_ret G.sm (UShape.mkv_v (ev_tup2 (ea_cons ev_str (ea_cons (ev_ixT (ev_ixL (ev_varK 1 rfl r_bases kv_leaf_1) (ev_add ev_int (ev_modG (ev_div (ev_varK 0 rfl r_number kv_leaf_0) ev_int ⟨by decide, by decide⟩) (ev_sub (ev_callB call_len_seq oc_lenL T.n_len PySem.boot_len (ea_cons (ev_varK 1 rfl r_bases kv_leaf_1) ea_nil)) ev_int) h_t5)) h_t6) ev_int pj0) ea_nil)))) fun v_ F_ H_ g_ rv_ => kr _ _ _ (G.trans g_) (cg (Option.some.inj hm) rv_)
    · replace hm := ineg (nt hc) hm
      have G := G.trans g
      have r_number := Rp.mono g.ff r_number
      have r_bases := Rp.mono g.ff r_bases
      refine GoS.nil ?_
      obtain ⟨t7, h_t7, hm⟩ := Option.bind_eq_some_iff.mp hm
      obtain ⟨t8, h_t8, hm⟩ := Option.bind_eq_some_iff.mp hm
      exact go_ret G.sm (UShape.mkv_n (ev_tup2 (ea_cons ev_str (ea_cons (ev_ixL (EvN.evA ((List Int)) (en_list (el_cons (ev_mod (ev_div (ev_varK 0 rfl r_number kv_leaf_0) ev_int ⟨by decide, by decide⟩) ev_int (by decide)) (el_cons (ev_mod (ev_mulG (ev_varK 0 rfl r_number kv_leaf_0) (ev_varK 0 rfl r_number kv_leaf_0) h_t7) (ev_powcA (1000000000000000000) ev_int ev_int (by decide) (by decide +kernel)) (by decide)) el_nil)) (by show 2 ≤ sizeLine; decide))) (ev_mod (ev_div (ev_varK 0 rfl r_number kv_leaf_0) ev_int ⟨by decide, by decide⟩) ev_int (by decide)) h_t8) ea_nil)))) fun v_ F_ H_ g_ rv_ => kr _ _ _ (G.trans g_) (cg (Option.some.inj hm) rv_)
theorem sc_term : FnScope ["_law_cell_here", "_law_bases", "_law_heads_here", "_law_term_here", "_law_k", "_law_sign", "_law_leaf_here"] ["_law_cell_here", "_law_bases", "_law_heads_here"] (defScope s_term) := ⟨rfl, rfl, rfl, by decide +kernel, rfl, by decide +kernel, by decide +kernel⟩
theorem b_term (T : Txt K mg) : Binds K T.d_term ["_law_cell_here", "_law_bases", "_law_heads_here"] [] := T.F_term.bindsN fun _ _ _ _ _ _ us hl => match us, hl with | [_, _, _], _ => rfl
theorem kv_term_0 : VKn (defScope s_term) "_law_cell_here" := ⟨by first | exact Or.inl (by decide +kernel) | exact Or.inr (Or.inl (by decide +kernel)) | exact Or.inr (Or.inr (by decide +kernel)), by decide, by decide⟩
theorem kv_term_1 : VKn (defScope s_term) "_law_bases" := ⟨by first | exact Or.inl (by decide +kernel) | exact Or.inr (Or.inl (by decide +kernel)) | exact Or.inr (Or.inr (by decide +kernel)), by decide, by decide⟩
theorem kv_term_2 : VKn (defScope s_term) "_law_heads_here" := ⟨by first | exact Or.inl (by decide +kernel) | exact Or.inr (Or.inl (by decide +kernel)) | exact Or.inr (Or.inr (by decide +kernel)), by decide, by decide⟩
theorem kv_term_3 : VKn (defScope s_term) "_law_term_here" := ⟨by first | exact Or.inl (by decide +kernel) | exact Or.inr (Or.inl (by decide +kernel)) | exact Or.inr (Or.inr (by decide +kernel)), by decide, by decide⟩
theorem kv_term_4 : VKn (defScope s_term) "_law_k" := ⟨by first | exact Or.inl (by decide +kernel) | exact Or.inr (Or.inl (by decide +kernel)) | exact Or.inr (Or.inr (by decide +kernel)), by decide, by decide⟩
theorem kv_term_5 : VKn (defScope s_term) "_law_sign" := ⟨by first | exact Or.inl (by decide +kernel) | exact Or.inr (Or.inl (by decide +kernel)) | exact Or.inr (Or.inr (by decide +kernel)), by decide, by decide⟩
theorem kv_term_6 : VKn (defScope s_term) "_law_leaf_here" := ⟨by first | exact Or.inl (by decide +kernel) | exact Or.inr (Or.inl (by decide +kernel)) | exact Or.inr (Or.inr (by decide +kernel)), by decide, by decide⟩
theorem gl_term_leaf : (defScope s_term).names.lookup ("_law_leaf" : Str) = some NameKind.globalImplicit := by decide +kernel
theorem gl_term_mixed : (defScope s_term).names.lookup ("_law_mixed" : Str) = some NameKind.globalImplicit := by decide +kernel
theorem ok_term (T : Txt K mg) : FnOk P w K mg base CX0 4 (He.fAd K ("_law_term", none)) T.d_term ["_law_cell_here", "_law_bases", "_law_heads_here"] (Pr K fun (a_ : Int × (List (T2 Str Int)) × (List (T3 Str Int Int)) × Unit) => m_term a_.1 a_.2.1 a_.2.2.1) := by
  refine fn_ok T.F_term sc_term rfl fun cdv A outer s_ F0 H0 vs a_ r D_ E_ hr sm_ ra_ hm kr kn => ?_
  obtain ⟨v_cell_here, _, rfl, r_cell_here, v_bases, _, rfl, r_bases, v_heads_here, _, rfl, r_heads_here, rfl⟩ := ra_
  obtain ⟨x_cell_here, x_bases, x_heads_here, _u⟩ := a_
  have G : GrX K F0 H0 F0 H0 := .refl sm_
  replace hm : m_term x_cell_here x_bases x_heads_here = some r := hm
  unfold m_term at hm
  have r_cell_here : rp (α := Int) K F0 v_cell_here x_cell_here := r_cell_here
  have r_bases : rp (α := (List (T2 Str Int))) K F0 v_bases x_bases := r_bases
  have r_heads_here : rp (α := (List (T3 Str Int Int))) K F0 v_heads_here x_heads_here := r_heads_here
  change GoS _ _ _ [some v_cell_here, some v_bases, some v_heads_here, none, none, none, none] _
  obtain ⟨t1, h_t1, hm⟩ := Option.bind_eq_some_iff.mp hm
  obtain ⟨t2, h_t2, hm⟩ := Option.bind_eq_some_iff.mp hm
  obtain ⟨x_term_here, he, hm⟩ := Option.bind_eq_some_iff.mp hm
  refine go_setA (UShape) 3 G.sm (ev_call (ok_leaf T) (hr.mono (by omega)) T.g_leaf T.F_leaf.kp (b_leaf T) (ea_cons (ev_call (ok_mixed T) (hr.mono (by omega)) T.g_mixed T.F_mixed.kp (b_mixed T) (ea_cons (ev_varK 0 rfl r_cell_here kv_term_0) (ea_cons ev_int ea_nil)) h_t1 gl_term_mixed) (ea_cons (ev_varK 1 rfl r_bases kv_term_1) (ea_cons (ev_varK 2 rfl r_heads_here kv_term_2) ea_nil))) h_t2 gl_term_leaf) (fun v_term_here F H g rn_ => ?_) sc_term.nd
  have G := G.trans g
  have r_cell_here := Rp.mono g.ff r_cell_here
  have r_bases := Rp.mono g.ff r_bases
  have r_heads_here := Rp.mono g.ff r_heads_here
  have r_term_here := cg (Option.some.inj he) rn_
  change GoS _ _ _ [some v_cell_here, some v_bases, some v_heads_here, some v_term_here, none, none, none] _
  obtain ⟨t3, h_t3, hm⟩ := Option.bind_eq_some_iff.mp hm
  obtain ⟨t4, h_t4, hm⟩ := Option.bind_eq_some_iff.mp hm
  obtain ⟨b16, ho_, hm⟩ := Option.bind_eq_some_iff.mp hm
  refine go_forN G.sm (ei_range1 (ev_mod (ev_call (ok_mixed T) (hr.mono (by omega)) T.g_mixed T.F_mixed.kp (b_mixed T) (ea_cons (ev_varK 0 rfl r_cell_here kv_term_0) (ea_cons ev_int ea_nil)) h_t3 gl_term_mixed) ev_int (by decide)) h_t4 T.n_range) (pg_name (i := 4) sc_term.nd rfl (by first | exact Or.inl rfl | exact Or.inr rfl)) ho_ (fun F H g => ?_) PassesOwn.never
  have G := G.trans g
  have r_cell_here := Rp.mono g.ff r_cell_here
  have r_bases := Rp.mono g.ff r_bases
  have r_heads_here := Rp.mono g.ff r_heads_here
  have r_term_here := Rp.mono g.ff r_term_here
  refine ⟨fun (b5 : UShape) σ_ F_ H_ => ∃ (u_sign : Option V) (u_leaf_here : Option V) (u_k : Option V) (v_term_here : V), σ_ = [some v_cell_here, some v_bases, some v_heads_here, some v_term_here, u_k, u_sign, u_leaf_here] ∧ GrX K F0 H0 F_ H_ ∧ rp (α := UShape) K F_ v_term_here b5, ⟨_, _, _, _, rfl, G, r_term_here⟩, ?_, ?_⟩
  ·
    intro b5 x_k o_ hm σ_ F H v_k s1_ s2_ iv_ F H g r_k Q_ hQ_
    obtain ⟨u_sign, u_leaf_here, u_k, v_term_here, rfl, G, r_term_here⟩ := iv_
    have sb8 := g.ff
    have r_cell_here := Rp.mono s1_ r_cell_here
    have r_bases := Rp.mono s1_ r_bases
    have r_heads_here := Rp.mono s1_ r_heads_here
    have G := G.trans g
    have r_cell_here := Rp.mono g.ff r_cell_here
    have r_bases := Rp.mono g.ff r_bases
    have r_heads_here := Rp.mono g.ff r_heads_here
    have r_term_here := Rp.mono g.ff r_term_here
    refine hQ_ _ _ ?_
    change GoS _ _ _ [some v_cell_here, some v_bases, some v_heads_here, some v_term_here, some v_k, u_sign, u_leaf_here] _
    obtain ⟨t9, h_t9, hm⟩ := Option.bind_eq_some_iff.mp hm
    obtain ⟨t10, h_t10, hm⟩ := Option.bind_eq_some_iff.mp hm
    obtain ⟨t11, h_t11, hm⟩ := Option.bind_eq_some_iff.mp hm
    obtain ⟨x_sign, he, hm⟩ := Option.bind_eq_some_iff.mp hm
    refine go_setA (Str) 5 G.sm (ev_ixL (EvN.evA ((List Str)) (en_list (el_cons ev_str (el_cons ev_str (el_cons ev_str el_nil))) (by show 3 ≤ sizeLine; decide))) (ev_mod (ev_divG (ev_call (ok_mixed T) (hr.mono (by omega)) T.g_mixed T.F_mixed.kp (b_mixed T) (ea_cons (ev_varK 0 rfl r_cell_here kv_term_0) (ea_cons ev_int ea_nil)) h_t9 gl_term_mixed) (ev_add ev_int (ev_varK 4 rfl r_k kv_term_4)) h_t10) ev_int (by decide)) h_t11) (fun v_sign F H g rn_ => ?_) sc_term.nd
    have G := G.trans g
    have r_cell_here := Rp.mono g.ff r_cell_here
    have r_bases := Rp.mono g.ff r_bases
    have r_heads_here := Rp.mono g.ff r_heads_here
    have r_term_here := Rp.mono g.ff r_term_here
    have r_k := Rp.mono g.ff r_k
    have sb8 := sb8.trans g.ff
    have r_sign := cg (Option.some.inj he) rn_
    change GoS _ _ _ [some v_cell_here, some v_bases, some v_heads_here, some v_term_here, some v_k, some v_sign, u_leaf_here] _
    obtain ⟨t12, h_t12, hm⟩ := Option.bind_eq_some_iff.mp hm
    obtain ⟨t13, h_t13, hm⟩ := Option.bind_eq_some_iff.mp hm
    obtain ⟨x_leaf_here, he, hm⟩ := Option.bind_eq_some_iff.mp hm
    refine go_setA (UShape) 6 G.sm (ev_call (ok_leaf T) (hr.mono (by omega)) T.g_leaf T.F_leaf.kp (b_leaf T) (ea_cons (ev_call (ok_mixed T) (hr.mono (by omega)) T.g_mixed T.F_mixed.kp (b_mixed T) (ea_cons (ev_varK 0 rfl r_cell_here kv_term_0) (ea_cons (ev_add ev_int (ev_varK 4 rfl r_k kv_term_4)) ea_nil)) h_t12 gl_term_mixed) (ea_cons (ev_varK 1 rfl r_bases kv_term_1) (ea_cons (ev_varK 2 rfl r_heads_here kv_term_2) ea_nil))) h_t13 gl_term_leaf) (fun v_leaf_here F H g rn_ => ?_) sc_term.nd
    have G := G.trans g
    have r_cell_here := Rp.mono g.ff r_cell_here
    have r_bases := Rp.mono g.ff r_bases
    have r_heads_here := Rp.mono g.ff r_heads_here
    have r_term_here := Rp.mono g.ff r_term_here
    have r_k := Rp.mono g.ff r_k
    have r_sign := Rp.mono g.ff r_sign
    have sb8 := sb8.trans g.ff
    have r_leaf_here := cg (Option.some.inj he) rn_
    change GoS _ _ _ [some v_cell_here, some v_bases, some v_heads_here, some v_term_here, some v_k, some v_sign, some v_leaf_here] _
    obtain ⟨t14, h_t14, hm⟩ := Option.bind_eq_some_iff.mp hm
    obtain ⟨t15, h_t15, hm⟩ := Option.bind_eq_some_iff.mp hm
    refine go_ifA ((decide ((t15 % (2 : Int)) = (1 : Int)))) G.sm (et_cmp op_eq o2_eq (ev_mod (ev_divG (ev_call (ok_mixed T) (hr.mono (by omega)) T.g_mixed T.F_mixed.kp (b_mixed T) (ea_cons (ev_varK 0 rfl r_cell_here kv_term_0) (ea_cons ev_int ea_nil)) h_t14 gl_term_mixed) (ev_add ev_int (ev_varK 4 rfl r_k kv_term_4)) h_t15) ev_int (by decide)) ev_int (nomark _)) (fun hc F H g => ?_) (fun hc F H g => ?_)
    · replace hm := ipos hc hm
      have G := G.trans g
      have r_cell_here := Rp.mono g.ff r_cell_here
      have r_term_here := Rp.mono g.ff r_term_here
      have r_k := Rp.mono g.ff r_k
      have r_sign := Rp.mono g.ff r_sign
      have r_leaf_here := Rp.mono g.ff r_leaf_here
      have sb8 := sb8.trans g.ff
      obtain ⟨x_term_here, he, hm⟩ := Option.bind_eq_some_iff.mp hm
      refine go_setA (UShape) 3 G.sm (UShape.mkv_any (ev_tup3 (ea_cons (ev_varK 5 rfl r_sign kv_term_5) (ea_cons (ev_varK 6 rfl r_leaf_here kv_term_6) (ea_cons (ev_varK 3 rfl r_term_here kv_term_3) ea_nil))))) (fun v_term_here F H g rn_ => ?_) sc_term.nd
      have G := G.trans g
      have r_sign := Rp.mono g.ff r_sign
      have r_leaf_here := Rp.mono g.ff r_leaf_here
      have sb8 := sb8.trans g.ff
      have r_term_here := cg (Option.some.inj he) rn_
      refine GoS.nil ?_
      have hm := Option.some.inj hm
      subst hm
      exact GoS.nil ⟨_, sb8, G.fh, ⟨_, _, _, _, rfl, G, r_term_here⟩⟩
    · replace hm := ineg (nt hc) hm
      have G := G.trans g
      have r_cell_here := Rp.mono g.ff r_cell_here
      have r_term_here := Rp.mono g.ff r_term_here
      have r_k := Rp.mono g.ff r_k
      have r_sign := Rp.mono g.ff r_sign
      have r_leaf_here := Rp.mono g.ff r_leaf_here
      have sb8 := sb8.trans g.ff
      obtain ⟨x_term_here, he, hm⟩ := Option.bind_eq_some_iff.mp hm
      refine go_setA (UShape) 3 G.sm (UShape.mkv_any (ev_tup3 (ea_cons (ev_varK 5 rfl r_sign kv_term_5) (ea_cons (ev_varK 3 rfl r_term_here kv_term_3) (ea_cons (ev_varK 6 rfl r_leaf_here kv_term_6) ea_nil))))) (fun v_term_here F H g rn_ => ?_) sc_term.nd
      have G := G.trans g
      have r_sign := Rp.mono g.ff r_sign
      have r_leaf_here := Rp.mono g.ff r_leaf_here
      have sb8 := sb8.trans g.ff
      have r_term_here := cg (Option.some.inj he) rn_
      refine GoS.nil ?_
      have hm := Option.some.inj hm
      subst hm
      exact GoS.nil ⟨_, sb8, G.fh, ⟨_, _, _, _, rfl, G, r_term_here⟩⟩
  · intro σ_ F H s1_ s2_ iv_
    obtain ⟨u_sign, u_leaf_here, u_k, v_term_here, rfl, G, r_term_here⟩ := iv_
    change GoS _ _ _ [some v_cell_here, some v_bases, some v_heads_here, some v_term_here, u_k, u_sign, u_leaf_here] _
    exact go_ret G.sm (ev_varK 3 rfl r_term_here kv_term_3) fun v_ F_ H_ g_ rv_ => kr _ _ _ (G.trans g_) (cg (Option.some.inj hm) rv_)
theorem sc_row : FnScope ["_law_cell_here", "_law_stack", "_law_path", "_law_heads_here", "_law_bases", "_law_one", "_law_names", "_law_lows", "_law_highs", "_law_table", "_law_spots_here"] ["_law_cell_here", "_law_stack", "_law_path", "_law_heads_here"] (defScope s_row) := ⟨rfl, rfl, rfl, by decide +kernel, rfl, by decide +kernel, by decide +kernel⟩
theorem b_row (T : Txt K mg) : Binds K T.d_row ["_law_cell_here", "_law_stack", "_law_path", "_law_heads_here"] [] := T.F_row.bindsN fun _ _ _ _ _ _ us hl => match us, hl with | [_, _, _, _], _ => rfl
theorem kv_row_0 : VKn (defScope s_row) "_law_cell_here" := ⟨by first | exact Or.inl (by decide +kernel) | exact Or.inr (Or.inl (by decide +kernel)) | exact Or.inr (Or.inr (by decide +kernel)), by decide, by decide⟩
theorem kv_row_1 : VKn (defScope s_row) "_law_stack" := ⟨by first | exact Or.inl (by decide +kernel) | exact Or.inr (Or.inl (by decide +kernel)) | exact Or.inr (Or.inr (by decide +kernel)), by decide, by decide⟩
theorem kv_row_2 : VKn (defScope s_row) "_law_path" := ⟨by first | exact Or.inl (by decide +kernel) | exact Or.inr (Or.inl (by decide +kernel)) | exact Or.inr (Or.inr (by decide +kernel)), by decide, by decide⟩
theorem kv_row_3 : VKn (defScope s_row) "_law_heads_here" := ⟨by first | exact Or.inl (by decide +kernel) | exact Or.inr (Or.inl (by decide +kernel)) | exact Or.inr (Or.inr (by decide +kernel)), by decide, by decide⟩
theorem kv_row_4 : VKn (defScope s_row) "_law_bases" := ⟨by first | exact Or.inl (by decide +kernel) | exact Or.inr (Or.inl (by decide +kernel)) | exact Or.inr (Or.inr (by decide +kernel)), by decide, by decide⟩
theorem kv_row_6 : VKn (defScope s_row) "_law_names" := ⟨by first | exact Or.inl (by decide +kernel) | exact Or.inr (Or.inl (by decide +kernel)) | exact Or.inr (Or.inr (by decide +kernel)), by decide, by decide⟩
theorem kv_row_7 : VKn (defScope s_row) "_law_lows" := ⟨by first | exact Or.inl (by decide +kernel) | exact Or.inr (Or.inl (by decide +kernel)) | exact Or.inr (Or.inr (by decide +kernel)), by decide, by decide⟩
theorem kv_row_8 : VKn (defScope s_row) "_law_highs" := ⟨by first | exact Or.inl (by decide +kernel) | exact Or.inr (Or.inl (by decide +kernel)) | exact Or.inr (Or.inr (by decide +kernel)), by decide, by decide⟩
theorem kv_row_9 : VKn (defScope s_row) "_law_table" := ⟨by first | exact Or.inl (by decide +kernel) | exact Or.inr (Or.inl (by decide +kernel)) | exact Or.inr (Or.inr (by decide +kernel)), by decide, by decide⟩
theorem kv_row_10 : VKn (defScope s_row) "_law_spots_here" := ⟨by first | exact Or.inl (by decide +kernel) | exact Or.inr (Or.inl (by decide +kernel)) | exact Or.inr (Or.inr (by decide +kernel)), by decide, by decide⟩
theorem gl_row_cell_of : (defScope s_row).names.lookup ("_law_cell_of" : Str) = some NameKind.globalImplicit := by decide +kernel
theorem gl_row_mixed : (defScope s_row).names.lookup ("_law_mixed" : Str) = some NameKind.globalImplicit := by decide +kernel
theorem gl_row_term : (defScope s_row).names.lookup ("_law_term" : Str) = some NameKind.globalImplicit := by decide +kernel
theorem ok_row (T : Txt K mg) : FnOk P w K mg base CX0 5 (He.fAd K ("_law_row", none)) T.d_row ["_law_cell_here", "_law_stack", "_law_path", "_law_heads_here"] (Pr K fun (a_ : Int × (List (T5 Str (T2 Str Int) (T2 Str Int) Int Int)) × (List Int) × (List (T3 Str Int Int)) × Unit) => m_row a_.1 a_.2.1 a_.2.2.1 a_.2.2.2.1) := by
  refine fn_ok T.F_row sc_row rfl fun cdv A outer s_ F0 H0 vs a_ r D_ E_ hr sm_ ra_ hm kr kn => ?_
  obtain ⟨v_cell_here, _, rfl, r_cell_here, v_stack, _, rfl, r_stack, v_path, _, rfl, r_path, v_heads_here, _, rfl, r_heads_here, rfl⟩ := ra_
  obtain ⟨x_cell_here, x_stack, x_path, x_heads_here, _u⟩ := a_
  have G : GrX K F0 H0 F0 H0 := .refl sm_
  replace hm : m_row x_cell_here x_stack x_path x_heads_here = some r := hm
  unfold m_row at hm
  have r_cell_here : rp (α := Int) K F0 v_cell_here x_cell_here := r_cell_here
  have r_stack : rp (α := (List (T5 Str (T2 Str Int) (T2 Str Int) Int Int))) K F0 v_stack x_stack := r_stack
  have r_path : rp (α := (List Int)) K F0 v_path x_path := r_path
  have r_heads_here : rp (α := (List (T3 Str Int Int))) K F0 v_heads_here x_heads_here := r_heads_here
  change GoS _ _ _ [some v_cell_here, some v_stack, some v_path, some v_heads_here, none, none, none, none, none, none, none] _
  obtain ⟨t1, h_t1, hm⟩ := Option.bind_eq_some_iff.mp hm
  obtain ⟨t2, h_t2, hm⟩ := Option.bind_eq_some_iff.mp hm
  obtain ⟨x_bases, he, hm⟩ := Option.bind_eq_some_iff.mp hm
  refine go_setA ((List (T2 Str Int))) 4 G.sm (EvN.evA ((List (T2 Str Int))) (en_cat (EvN.evA ((List (T2 Str Int))) (en_list (el_cons (ev_tup2 (ea_cons ev_str (ea_cons ev_int ea_nil))) el_nil) (by show 1 ≤ sizeLine; decide))) (EvN.evA ((List (T2 Str Int))) (en_comp (own := [("_law_one", 5)]) sc_row.nd (ei_list (ev_varK 1 rfl r_stack kv_row_1)) h_t1 (blkOk_by (N := ["_law_cell_here", "_law_stack", "_law_path", "_law_heads_here", "_law_bases", "_law_one", "_law_names", "_law_lows", "_law_highs", "_law_table", "_law_spots_here"]) (sc := defScope s_row) (by decide +kernel)) (fun _ _ _ _ _ => (pg_name (i := 5) sc_row.nd rfl (by first | exact Or.inl rfl | exact Or.inr rfl))) (fun x_one o_ hm F H v_one g r_one Q hQ => by
          have r_stack := Rp.mono g.ff r_stack
          refine hQ _ rfl ?_
          exact ⟨_, (Option.some.inj hm).symm, fun s_ H_ C_ cl_ fp_ => (ev_tup2 (ea_cons (ev_ixT (ev_var 5 rfl r_one) ev_int pj0) (ea_cons (ev_ixT (ev_var 5 rfl r_one) ev_int pj3) ea_nil)))⟩))) h_t2)) (fun v_bases F H g rn_ => ?_) sc_row.nd
  have G := G.trans g
  have r_cell_here := Rp.mono g.ff r_cell_here
  have r_stack := Rp.mono g.ff r_stack
  have r_path := Rp.mono g.ff r_path
  have r_heads_here := Rp.mono g.ff r_heads_here
  have r_bases := cg (Option.some.inj he) rn_
  change GoS _ _ _ [some v_cell_here, some v_stack, some v_path, some v_heads_here, some v_bases, none, none, none, none, none, none] _
  obtain ⟨t3, h_t3, hm⟩ := Option.bind_eq_some_iff.mp hm
  obtain ⟨x_names, he, hm⟩ := Option.bind_eq_some_iff.mp hm
  refine go_setA ((Tp Str)) 6 G.sm (ev_callTy call_tuple_of oc_tuple T.n_tuple (by decide +kernel) (ea_cons (EvN.evA ((List Str)) (en_comp (own := [("_law_one", 5)]) sc_row.nd (ei_list (ev_varK 1 rfl r_stack kv_row_1)) h_t3 (blkOk_by (N := ["_law_cell_here", "_law_stack", "_law_path", "_law_heads_here", "_law_bases", "_law_one", "_law_names", "_law_lows", "_law_highs", "_law_table", "_law_spots_here"]) (sc := defScope s_row) (by decide +kernel)) (fun _ _ _ _ _ => (pg_name (i := 5) sc_row.nd rfl (by first | exact Or.inl rfl | exact Or.inr rfl))) (fun x_one o_ hm F H v_one g r_one Q hQ => by
          have r_stack := Rp.mono g.ff r_stack
          refine hQ _ rfl ?_
          exact ⟨_, (Option.some.inj hm).symm, fun s_ H_ C_ cl_ fp_ => (ev_ixT (ev_var 5 rfl r_one) ev_int pj0)⟩))) ea_nil)) (fun v_names F H g rn_ => ?_) sc_row.nd
  have G := G.trans g
  have r_cell_here := Rp.mono g.ff r_cell_here
  have r_stack := Rp.mono g.ff r_stack
  have r_path := Rp.mono g.ff r_path
  have r_heads_here := Rp.mono g.ff r_heads_here
  have r_bases := Rp.mono g.ff r_bases
  have r_names := cg (Option.some.inj he) rn_
  change GoS _ _ _ [some v_cell_here, some v_stack, some v_path, some v_heads_here, some v_bases, none, some v_names, none, none, none, none] _
  obtain ⟨t4, h_t4, hm⟩ := Option.bind_eq_some_iff.mp hm
  obtain ⟨x_lows, he, hm⟩ := Option.bind_eq_some_iff.mp hm
  refine go_setA ((Tp (T2 Str Int))) 7 G.sm (ev_callTy call_tuple_of oc_tuple T.n_tuple (by decide +kernel) (ea_cons (EvN.evA ((List (T2 Str Int))) (en_comp (own := [("_law_one", 5)]) sc_row.nd (ei_list (ev_varK 1 rfl r_stack kv_row_1)) h_t4 (blkOk_by (N := ["_law_cell_here", "_law_stack", "_law_path", "_law_heads_here", "_law_bases", "_law_one", "_law_names", "_law_lows", "_law_highs", "_law_table", "_law_spots_here"]) (sc := defScope s_row) (by decide +kernel)) (fun _ _ _ _ _ => (pg_name (i := 5) sc_row.nd rfl (by first | exact Or.inl rfl | exact Or.inr rfl))) (fun x_one o_ hm F H v_one g r_one Q hQ => by
          have r_stack := Rp.mono g.ff r_stack
          refine hQ _ rfl ?_
          exact ⟨_, (Option.some.inj hm).symm, fun s_ H_ C_ cl_ fp_ => (ev_ixT (ev_var 5 rfl r_one) ev_int pj1)⟩))) ea_nil)) (fun v_lows F H g rn_ => ?_) sc_row.nd
  have G := G.trans g
  have r_cell_here := Rp.mono g.ff r_cell_here
  have r_stack := Rp.mono g.ff r_stack
  have r_path := Rp.mono g.ff r_path
  have r_heads_here := Rp.mono g.ff r_heads_here
  have r_bases := Rp.mono g.ff r_bases
  have r_names := Rp.mono g.ff r_names
  have r_lows := cg (Option.some.inj he) rn_
  change GoS _ _ _ [some v_cell_here, some v_stack, some v_path, some v_heads_here, some v_bases, none, some v_names, some v_lows, none, none, none] _
  obtain ⟨t5, h_t5, hm⟩ := Option.bind_eq_some_iff.mp hm
  obtain ⟨x_highs, he, hm⟩ := Option.bind_eq_some_iff.mp hm
  refine go_setA ((Tp (T2 Str Int))) 8 G.sm (ev_callTy call_tuple_of oc_tuple T.n_tuple (by decide +kernel) (ea_cons (EvN.evA ((List (T2 Str Int))) (en_comp (own := [("_law_one", 5)]) sc_row.nd (ei_list (ev_varK 1 rfl r_stack kv_row_1)) h_t5 (blkOk_by (N := ["_law_cell_here", "_law_stack", "_law_path", "_law_heads_here", "_law_bases", "_law_one", "_law_names", "_law_lows", "_law_highs", "_law_table", "_law_spots_here"]) (sc := defScope s_row) (by decide +kernel)) (fun _ _ _ _ _ => (pg_name (i := 5) sc_row.nd rfl (by first | exact Or.inl rfl | exact Or.inr rfl))) (fun x_one o_ hm F H v_one g r_one Q hQ => by
          have r_stack := Rp.mono g.ff r_stack
          refine hQ _ rfl ?_
          exact ⟨_, (Option.some.inj hm).symm, fun s_ H_ C_ cl_ fp_ => (ev_ixT (ev_var 5 rfl r_one) ev_int pj2)⟩))) ea_nil)) (fun v_highs F H g rn_ => ?_) sc_row.nd
  have G := G.trans g
  have r_cell_here := Rp.mono g.ff r_cell_here
  have r_stack := Rp.mono g.ff r_stack
  have r_path := Rp.mono g.ff r_path
  have r_heads_here := Rp.mono g.ff r_heads_here
  have r_bases := Rp.mono g.ff r_bases
  have r_names := Rp.mono g.ff r_names
  have r_lows := Rp.mono g.ff r_lows
  have r_highs := cg (Option.some.inj he) rn_
  change GoS _ _ _ [some v_cell_here, some v_stack, some v_path, some v_heads_here, some v_bases, none, some v_names, some v_lows, some v_highs, none, none] _
  obtain ⟨t6, h_t6, hm⟩ := Option.bind_eq_some_iff.mp hm
  obtain ⟨t7, h_t7, hm⟩ := Option.bind_eq_some_iff.mp hm
  obtain ⟨i8, he, hm⟩ := Option.bind_eq_some_iff.mp hm
  refine go_unpack G.sm (ev_call (ok_cell_of T) (hr.mono (by omega)) T.g_cell_of T.F_cell_of.kp (b_cell_of T) (ea_cons (ev_call (ok_mixed T) (hr.mono (by omega)) T.g_mixed T.F_mixed.kp (b_mixed T) (ea_cons (ev_varK 0 rfl r_cell_here kv_row_0) (ea_cons ev_int ea_nil)) h_t6 gl_row_mixed) (ea_cons (ev_varK 4 rfl r_bases kv_row_4) (ea_cons (ev_varK 3 rfl r_heads_here kv_row_3) ea_nil))) h_t7 gl_row_cell_of) (pg_tup rfl (pgs_cons (pg_name (i := 9) sc_row.nd rfl (by first | exact Or.inl rfl | exact Or.inr rfl)) (pgs_cons (pg_name (i := 10) sc_row.nd rfl (by first | exact Or.inl rfl | exact Or.inr rfl)) pgs_nil))) (fun w_ F H g ri_ Q_ hQ_ => ?_)
  have ri_ := cg (Option.some.inj he) ri_
  have G := G.trans g
  have r_cell_here := Rp.mono g.ff r_cell_here
  have r_path := Rp.mono g.ff r_path
  have r_heads_here := Rp.mono g.ff r_heads_here
  have r_bases := Rp.mono g.ff r_bases
  have r_names := Rp.mono g.ff r_names
  have r_lows := Rp.mono g.ff r_lows
  have r_highs := Rp.mono g.ff r_highs
  obtain ⟨pa9, _, rfl, sq10, v_table, _, rfl, r_table, v_spots_here, _, rfl, r_spots_here, rfl⟩ := ri_
  refine ⟨pa9, _, rfl, seqT_mono G.fh sq10, rfl, _, _, rfl, _, _, rfl, rfl, hQ_ _ _ ?_⟩
  change GoS _ _ _ [some v_cell_here, some v_stack, some v_path, some v_heads_here, some v_bases, none, some v_names, some v_lows, some v_highs, some v_table, some v_spots_here] _
  obtain ⟨t11, h_t11, hm⟩ := Option.bind_eq_some_iff.mp hm
  exact go_ret G.sm (ev_tup7 (ea_cons (ev_varK 6 rfl r_names kv_row_6) (ea_cons (ev_varK 7 rfl r_lows kv_row_7) (ea_cons (ev_varK 8 rfl r_highs kv_row_8) (ea_cons (ev_varK 9 rfl r_table kv_row_9) (ea_cons (ev_varK 10 rfl r_spots_here kv_row_10) (ea_cons (ev_call (ok_term T) (hr.mono (by omega)) T.g_term T.F_term.kp (b_term T) (ea_cons (ev_varK 0 rfl r_cell_here kv_row_0) (ea_cons (ev_varK 4 rfl r_bases kv_row_4) (ea_cons (ev_varK 3 rfl r_heads_here kv_row_3) ea_nil))) h_t11 gl_row_term) (ea_cons (ev_callTy call_tuple_of oc_tuple T.n_tuple (by decide +kernel) (ea_cons (ev_varK 2 rfl r_path kv_row_2) ea_nil)) ea_nil)))))))) fun v_ F_ H_ g_ rv_ => kr _ _ _ (G.trans g_) (cg (Option.some.inj hm) rv_)
theorem sc_rows : FnScope ["_law_script", "_law_many_here", "_law_far_here", "_law_stack", "_law_counts", "_law_path", "_law_rows_here", "_law_k", "_law_cell_here", "_law_number", "_law_closed", "_law_close", "_law_opens", "_law_e", "_law_loop_here"] ["_law_script", "_law_many_here"] (defScope s_rows) := ⟨rfl, rfl, rfl, by decide +kernel, rfl, by decide +kernel, by decide +kernel⟩
theorem b_rows (T : Txt K mg) : Binds K T.d_rows ["_law_script", "_law_many_here"] [] := T.F_rows.bindsN fun _ _ _ _ _ _ us hl => match us, hl with | [_, _], _ => rfl
theorem kv_rows_0 : VKn (defScope s_rows) "_law_script" := ⟨by first | exact Or.inl (by decide +kernel) | exact Or.inr (Or.inl (by decide +kernel)) | exact Or.inr (Or.inr (by decide +kernel)), by decide, by decide⟩
theorem kv_rows_1 : VKn (defScope s_rows) "_law_many_here" := ⟨by first | exact Or.inl (by decide +kernel) | exact Or.inr (Or.inl (by decide +kernel)) | exact Or.inr (Or.inr (by decide +kernel)), by decide, by decide⟩
theorem kv_rows_2 : VKn (defScope s_rows) "_law_far_here" := ⟨by first | exact Or.inl (by decide +kernel) | exact Or.inr (Or.inl (by decide +kernel)) | exact Or.inr (Or.inr (by decide +kernel)), by decide, by decide⟩
theorem kv_rows_3 : VKn (defScope s_rows) "_law_stack" := ⟨by first | exact Or.inl (by decide +kernel) | exact Or.inr (Or.inl (by decide +kernel)) | exact Or.inr (Or.inr (by decide +kernel)), by decide, by decide⟩
theorem kv_rows_4 : VKn (defScope s_rows) "_law_counts" := ⟨by first | exact Or.inl (by decide +kernel) | exact Or.inr (Or.inl (by decide +kernel)) | exact Or.inr (Or.inr (by decide +kernel)), by decide, by decide⟩
theorem kv_rows_5 : VKn (defScope s_rows) "_law_path" := ⟨by first | exact Or.inl (by decide +kernel) | exact Or.inr (Or.inl (by decide +kernel)) | exact Or.inr (Or.inr (by decide +kernel)), by decide, by decide⟩
theorem kv_rows_6 : VKn (defScope s_rows) "_law_rows_here" := ⟨by first | exact Or.inl (by decide +kernel) | exact Or.inr (Or.inl (by decide +kernel)) | exact Or.inr (Or.inr (by decide +kernel)), by decide, by decide⟩
theorem kv_rows_7 : VKn (defScope s_rows) "_law_k" := ⟨by first | exact Or.inl (by decide +kernel) | exact Or.inr (Or.inl (by decide +kernel)) | exact Or.inr (Or.inr (by decide +kernel)), by decide, by decide⟩
theorem kv_rows_8 : VKn (defScope s_rows) "_law_cell_here" := ⟨by first | exact Or.inl (by decide +kernel) | exact Or.inr (Or.inl (by decide +kernel)) | exact Or.inr (Or.inr (by decide +kernel)), by decide, by decide⟩
theorem kv_rows_9 : VKn (defScope s_rows) "_law_number" := ⟨by first | exact Or.inl (by decide +kernel) | exact Or.inr (Or.inl (by decide +kernel)) | exact Or.inr (Or.inr (by decide +kernel)), by decide, by decide⟩
theorem kv_rows_10 : VKn (defScope s_rows) "_law_closed" := ⟨by first | exact Or.inl (by decide +kernel) | exact Or.inr (Or.inl (by decide +kernel)) | exact Or.inr (Or.inr (by decide +kernel)), by decide, by decide⟩
theorem kv_rows_12 : VKn (defScope s_rows) "_law_opens" := ⟨by first | exact Or.inl (by decide +kernel) | exact Or.inr (Or.inl (by decide +kernel)) | exact Or.inr (Or.inr (by decide +kernel)), by decide, by decide⟩
theorem kv_rows_13 : VKn (defScope s_rows) "_law_e" := ⟨by first | exact Or.inl (by decide +kernel) | exact Or.inr (Or.inl (by decide +kernel)) | exact Or.inr (Or.inr (by decide +kernel)), by decide, by decide⟩
theorem kv_rows_14 : VKn (defScope s_rows) "_law_loop_here" := ⟨by first | exact Or.inl (by decide +kernel) | exact Or.inr (Or.inl (by decide +kernel)) | exact Or.inr (Or.inr (by decide +kernel)), by decide, by decide⟩
theorem gl_rows_cell : (defScope s_rows).names.lookup ("_law_cell" : Str) = some NameKind.globalImplicit := by decide +kernel
theorem gl_rows_heads : (defScope s_rows).names.lookup ("_law_heads" : Str) = some NameKind.globalImplicit := by decide +kernel
theorem gl_rows_loop : (defScope s_rows).names.lookup ("_law_loop" : Str) = some NameKind.globalImplicit := by decide +kernel
theorem gl_rows_mixed : (defScope s_rows).names.lookup ("_law_mixed" : Str) = some NameKind.globalImplicit := by decide +kernel
theorem gl_rows_row : (defScope s_rows).names.lookup ("_law_row" : Str) = some NameKind.globalImplicit := by decide +kernel
theorem ok_rows (T : Txt K mg) : FnOk P w K mg base CX0 6 (He.fAd K ("_law_rows", none)) T.d_rows ["_law_script", "_law_many_here"] (Pr K fun (a_ : (List Int) × Int × Unit) => m_rows a_.1 a_.2.1) := by
  refine fn_ok T.F_rows sc_rows rfl fun cdv A outer s_ F0 H0 vs a_ r D_ E_ hr sm_ ra_ hm kr kn => ?_
  obtain ⟨v_script, _, rfl, r_script, v_many_here, _, rfl, r_many_here, rfl⟩ := ra_
  obtain ⟨x_script, x_many_here, _u⟩ := a_
  have G : GrX K F0 H0 F0 H0 := .refl sm_
  replace hm : m_rows x_script x_many_here = some r := hm
  unfold m_rows at hm
  have r_script : rp (α := (List Int)) K F0 v_script x_script := r_script
  have r_many_here : rp (α := Int) K F0 v_many_here x_many_here := r_many_here
  change GoS _ _ _ [some v_script, some v_many_here, none, none, none, none, none, none, none, none, none, none, none, none, none] _
  obtain ⟨t1, h_t1, hm⟩ := Option.bind_eq_some_iff.mp hm
  obtain ⟨x_far_here, he, hm⟩ := Option.bind_eq_some_iff.mp hm
  refine go_setA (Int) 2 G.sm (ev_sub (ev_mod (ev_call (ok_cell T) (hr.mono (by omega)) T.g_cell T.F_cell.kp (b_cell T) (ea_cons (ev_varK 0 rfl r_script kv_rows_0) (ea_cons ev_int ea_nil)) h_t1 gl_rows_cell) (ev_add (ev_mul ev_int (ev_powcA (100000000000000000) ev_int ev_int (by decide) (by decide +kernel)) (CMul.l (by decide))) ev_int) (by decide)) (ev_powcA (100000000000000000) ev_int ev_int (by decide) (by decide +kernel))) (fun v_far_here F H g rn_ => ?_) sc_rows.nd
  have G := G.trans g
  have r_script := Rp.mono g.ff r_script
  have r_many_here := Rp.mono g.ff r_many_here
  have r_far_here := cg (Option.some.inj he) rn_
  change GoS _ _ _ [some v_script, some v_many_here, some v_far_here, none, none, none, none, none, none, none, none, none, none, none, none] _
  obtain ⟨x_stack, he, hm⟩ := Option.bind_eq_some_iff.mp hm
  refine go_setA ((List (T5 Str (T2 Str Int) (T2 Str Int) Int Int))) 3 G.sm (EvN.evA ((List (T5 Str (T2 Str Int) (T2 Str Int) Int Int))) (en_list el_nil (Nat.zero_le _))) (fun v_stack F H g rn_ => ?_) sc_rows.nd
  have G := G.trans g
  have r_script := Rp.mono g.ff r_script
  have r_many_here := Rp.mono g.ff r_many_here
  have r_far_here := Rp.mono g.ff r_far_here
  have r_stack := cg (Option.some.inj he) rn_
  change GoS _ _ _ [some v_script, some v_many_here, some v_far_here, some v_stack, none, none, none, none, none, none, none, none, none, none, none] _
  obtain ⟨x_counts, he, hm⟩ := Option.bind_eq_some_iff.mp hm
  refine go_setA ((List Int)) 4 G.sm (EvN.evA ((List Int)) (en_list (el_int el_nil) (by show 1 ≤ sizeLine; decide))) (fun v_counts F H g rn_ => ?_) sc_rows.nd
  have G := G.trans g
  have r_script := Rp.mono g.ff r_script
  have r_many_here := Rp.mono g.ff r_many_here
  have r_far_here := Rp.mono g.ff r_far_here
  have r_stack := Rp.mono g.ff r_stack
  have r_counts := cg (Option.some.inj he) rn_
  change GoS _ _ _ [some v_script, some v_many_here, some v_far_here, some v_stack, some v_counts, none, none, none, none, none, none, none, none, none, none] _
  obtain ⟨x_path, he, hm⟩ := Option.bind_eq_some_iff.mp hm
  refine go_setA ((List Int)) 5 G.sm (EvN.evA ((List Int)) (en_list el_nil (Nat.zero_le _))) (fun v_path F H g rn_ => ?_) sc_rows.nd
  have G := G.trans g
  have r_script := Rp.mono g.ff r_script
  have r_many_here := Rp.mono g.ff r_many_here
  have r_far_here := Rp.mono g.ff r_far_here
  have r_stack := Rp.mono g.ff r_stack
  have r_counts := Rp.mono g.ff r_counts
  have r_path := cg (Option.some.inj he) rn_
  change GoS _ _ _ [some v_script, some v_many_here, some v_far_here, some v_stack, some v_counts, some v_path, none, none, none, none, none, none, none, none, none] _
  obtain ⟨x_rows_here, he, hm⟩ := Option.bind_eq_some_iff.mp hm
  refine go_setNA ((List (T7 (Tp Str) (Tp (T2 Str Int)) (Tp (T2 Str Int)) Str (Tp (T2 Str Int)) UShape (Tp Int)))) 6 G.sm (en_list el_nil (Nat.zero_le _)) (fun l_rows_here vs_ F H g nl_ fl_ hl_ rs_ => ?_) sc_rows.nd
  have n0_ := G.hh.free nl_
  have G := G.trans g
  have r_script := Rp.mono g.ff r_script
  have r_many_here := Rp.mono g.ff r_many_here
  have r_far_here := Rp.mono g.ff r_far_here
  have r_stack := Rp.mono g.ff r_stack
  have r_counts := Rp.mono g.ff r_counts
  have r_path := Rp.mono g.ff r_path
  have o_rows_here : Own K _ F H l_rows_here _ := Own.cg (Option.some.inj he) ⟨n0_, fl_, vs_, hl_, rs_⟩
  change GoS _ _ _ [some v_script, some v_many_here, some v_far_here, some v_stack, some v_counts, some v_path, some (.ref l_rows_here), none, none, none, none, none, none, none, none] _
  obtain ⟨t2, h_t2, hm⟩ := Option.bind_eq_some_iff.mp hm
  obtain ⟨b47, ho_, hm⟩ := Option.bind_eq_some_iff.mp hm
  refine go_forN G.sm (ei_range1 (ev_varK 1 rfl r_many_here kv_rows_1) h_t2 T.n_range) (pg_name (i := 7) sc_rows.nd rfl (by first | exact Or.inl rfl | exact Or.inr rfl)) ho_ (fun F H g => ?_) PassesOwn.never
  have G := G.trans g
  have r_script := Rp.mono g.ff r_script
  have r_far_here := Rp.mono g.ff r_far_here
  have r_stack := Rp.mono g.ff r_stack
  have r_counts := Rp.mono g.ff r_counts
  have r_path := Rp.mono g.ff r_path
  have o_rows_here := o_rows_here.up g
  refine ⟨fun (b3 : ((List (T5 Str (T2 Str Int) (T2 Str Int) Int Int)) × (List Int) × (List Int) × (List (T7 (Tp Str) (Tp (T2 Str Int)) (Tp (T2 Str Int)) Str (Tp (T2 Str Int)) UShape (Tp Int))))) σ_ F_ H_ => ∃ (u_cell_here : Option V) (u_number : Option V) (u_closed : Option V) (u_close : Option V) (u_opens : Option V) (u_e : Option V) (u_loop_here : Option V) (u_k : Option V) (v_stack : V) (v_counts : V) (v_path : V), σ_ = [some v_script, some v_many_here, some v_far_here, some v_stack, some v_counts, some v_path, some (.ref l_rows_here), u_k, u_cell_here, u_number, u_closed, u_close, u_opens, u_e, u_loop_here] ∧ GrX K F0 H0 F_ H_ ∧ rp (α := (List (T5 Str (T2 Str Int) (T2 Str Int) Int Int))) K F_ v_stack b3.1 ∧ rp (α := (List Int)) K F_ v_counts b3.2.1 ∧ rp (α := (List Int)) K F_ v_path b3.2.2.1 ∧ Own K H0 F_ H_ l_rows_here b3.2.2.2, ⟨_, _, _, _, _, _, _, _, _, _, _, rfl, G, r_stack, r_counts, r_path, o_rows_here⟩, ?_, ?_⟩
  ·
    intro b3 x_k o_ hm σ_ F H v_k s1_ s2_ iv_ F H g r_k Q_ hQ_
    obtain ⟨u_cell_here, u_number, u_closed, u_close, u_opens, u_e, u_loop_here, u_k, v_stack, v_counts, v_path, rfl, G, r_stack, r_counts, r_path, o_rows_here⟩ := iv_
    have sb6 := g.ff
    have r_script := Rp.mono s1_ r_script
    have r_far_here := Rp.mono s1_ r_far_here
    have G := G.trans g
    have r_script := Rp.mono g.ff r_script
    have r_far_here := Rp.mono g.ff r_far_here
    have r_stack := Rp.mono g.ff r_stack
    have r_counts := Rp.mono g.ff r_counts
    have r_path := Rp.mono g.ff r_path
    have o_rows_here := o_rows_here.up g
    refine hQ_ _ _ ?_
    change GoS _ _ _ [some v_script, some v_many_here, some v_far_here, some v_stack, some v_counts, some v_path, some (.ref l_rows_here), some v_k, u_cell_here, u_number, u_closed, u_close, u_opens, u_e, u_loop_here] _
    obtain ⟨t7, h_t7, hm⟩ := Option.bind_eq_some_iff.mp hm
    obtain ⟨x_cell_here, he, hm⟩ := Option.bind_eq_some_iff.mp hm
    refine go_setA (Int) 8 G.sm (ev_call (ok_cell T) (hr.mono (by omega)) T.g_cell T.F_cell.kp (b_cell T) (ea_cons (ev_varK 0 rfl r_script kv_rows_0) (ea_cons (ev_add ev_int (ev_varK 7 rfl r_k kv_rows_7)) ea_nil)) h_t7 gl_rows_cell) (fun v_cell_here F H g rn_ => ?_) sc_rows.nd
    have G := G.trans g
    have r_script := Rp.mono g.ff r_script
    have r_far_here := Rp.mono g.ff r_far_here
    have r_stack := Rp.mono g.ff r_stack
    have r_counts := Rp.mono g.ff r_counts
    have r_path := Rp.mono g.ff r_path
    have o_rows_here := o_rows_here.up g
    have r_k := Rp.mono g.ff r_k
    have sb6 := sb6.trans g.ff
    have r_cell_here := cg (Option.some.inj he) rn_
    change GoS _ _ _ [some v_script, some v_many_here, some v_far_here, some v_stack, some v_counts, some v_path, some (.ref l_rows_here), some v_k, some v_cell_here, u_number, u_closed, u_close, u_opens, u_e, u_loop_here] _
    obtain ⟨t8, h_t8, hm⟩ := Option.bind_eq_some_iff.mp hm
    obtain ⟨x_number, he, hm⟩ := Option.bind_eq_some_iff.mp hm
    refine go_setA (Int) 9 G.sm (ev_call (ok_mixed T) (hr.mono (by omega)) T.g_mixed T.F_mixed.kp (b_mixed T) (ea_cons (ev_varK 8 rfl r_cell_here kv_rows_8) (ea_cons ev_int ea_nil)) h_t8 gl_rows_mixed) (fun v_number F H g rn_ => ?_) sc_rows.nd
    have G := G.trans g
    have r_script := Rp.mono g.ff r_script
    have r_far_here := Rp.mono g.ff r_far_here
    have r_stack := Rp.mono g.ff r_stack
    have r_counts := Rp.mono g.ff r_counts
    have r_path := Rp.mono g.ff r_path
    have o_rows_here := o_rows_here.up g
    have r_k := Rp.mono g.ff r_k
    have r_cell_here := Rp.mono g.ff r_cell_here
    have sb6 := sb6.trans g.ff
    have r_number := cg (Option.some.inj he) rn_
    change GoS _ _ _ [some v_script, some v_many_here, some v_far_here, some v_stack, some v_counts, some v_path, some (.ref l_rows_here), some v_k, some v_cell_here, some v_number, u_closed, u_close, u_opens, u_e, u_loop_here] _
    obtain ⟨x_closed, he, hm⟩ := Option.bind_eq_some_iff.mp hm
    refine go_setA ((Option (T5 Str (T2 Str Int) (T2 Str Int) Int Int))) 10 G.sm ev_none (fun v_closed F H g rn_ => ?_) sc_rows.nd
    have G := G.trans g
    have r_script := Rp.mono g.ff r_script
    have r_far_here := Rp.mono g.ff r_far_here
    have r_stack := Rp.mono g.ff r_stack
    have r_counts := Rp.mono g.ff r_counts
    have r_path := Rp.mono g.ff r_path
    have o_rows_here := o_rows_here.up g
    have r_k := Rp.mono g.ff r_k
    have r_cell_here := Rp.mono g.ff r_cell_here
    have r_number := Rp.mono g.ff r_number
    have sb6 := sb6.trans g.ff
    have r_closed := cg (Option.some.inj he) rn_
    change GoS _ _ _ [some v_script, some v_many_here, some v_far_here, some v_stack, some v_counts, some v_path, some (.ref l_rows_here), some v_k, some v_cell_here, some v_number, some v_closed, u_close, u_opens, u_e, u_loop_here] _
    obtain ⟨t9, h_t9, hm⟩ := Option.bind_eq_some_iff.mp hm
    obtain ⟨t10, h_t10, hm⟩ := Option.bind_eq_some_iff.mp hm
    obtain ⟨b16, ho_, hm⟩ := Option.bind_eq_some_iff.mp hm
    refine go_forN G.sm (ei_range1 (ev_modG (ev_varK 9 rfl r_number kv_rows_9) (ev_add (ev_callB call_len_seq oc_lenL T.n_len PySem.boot_len (ea_cons (ev_varK 3 rfl r_stack kv_rows_3) ea_nil)) ev_int) h_t9) h_t10 T.n_range) (pg_name (i := 11) sc_rows.nd rfl (by first | exact Or.inl rfl | exact Or.inr rfl)) ho_ (fun F H g => ?_) PassesOwn.never
    have G := G.trans g
    have r_script := Rp.mono g.ff r_script
    have r_far_here := Rp.mono g.ff r_far_here
    have r_stack := Rp.mono g.ff r_stack
    have r_counts := Rp.mono g.ff r_counts
    have r_path := Rp.mono g.ff r_path
    have o_rows_here := o_rows_here.up g
    have r_k := Rp.mono g.ff r_k
    have r_cell_here := Rp.mono g.ff r_cell_here
    have r_number := Rp.mono g.ff r_number
    have r_closed := Rp.mono g.ff r_closed
    have sb6 := sb6.trans g.ff
    refine ⟨fun (b11 : ((Option (T5 Str (T2 Str Int) (T2 Str Int) Int Int)) × (List (T5 Str (T2 Str Int) (T2 Str Int) Int Int)) × (List Int) × (List Int))) σ_ F_ H_ => ∃ (u_close : Option V) (v_closed : V) (v_stack : V) (v_counts : V) (v_path : V), σ_ = [some v_script, some v_many_here, some v_far_here, some v_stack, some v_counts, some v_path, some (.ref l_rows_here), some v_k, some v_cell_here, some v_number, some v_closed, u_close, u_opens, u_e, u_loop_here] ∧ GrX K F0 H0 F_ H_ ∧ rp (α := (Option (T5 Str (T2 Str Int) (T2 Str Int) Int Int))) K F_ v_closed b11.1 ∧ rp (α := (List (T5 Str (T2 Str Int) (T2 Str Int) Int Int))) K F_ v_stack b11.2.1 ∧ rp (α := (List Int)) K F_ v_counts b11.2.2.1 ∧ rp (α := (List Int)) K F_ v_path b11.2.2.2 ∧ Own K H0 F_ H_ l_rows_here b3.2.2.2, ⟨_, _, _, _, _, rfl, G, r_closed, r_stack, r_counts, r_path, o_rows_here⟩, ?_, ?_⟩
    ·
      intro b11 x_close o_ hm σ_ F H v_close s1_ s2_ iv_ F H g r_close Q_ hQ_
      obtain ⟨u_close, v_closed, v_stack, v_counts, v_path, rfl, G, r_closed, r_stack, r_counts, r_path, o_rows_here⟩ := iv_
      have sb14 := g.ff
      have G := G.trans g
      have r_stack := Rp.mono g.ff r_stack
      have r_counts := Rp.mono g.ff r_counts
      have r_path := Rp.mono g.ff r_path
      have o_rows_here := o_rows_here.up g
      have r_closed := Rp.mono g.ff r_closed
      refine hQ_ _ _ ?_
      change GoS _ _ _ [some v_script, some v_many_here, some v_far_here, some v_stack, some v_counts, some v_path, some (.ref l_rows_here), some v_k, some v_cell_here, some v_number, some v_closed, some v_close, u_opens, u_e, u_loop_here] _
      obtain ⟨t15, h_t15, hm⟩ := Option.bind_eq_some_iff.mp hm
      obtain ⟨x_closed, he, hm⟩ := Option.bind_eq_some_iff.mp hm
      refine go_setA ((Option (T5 Str (T2 Str Int) (T2 Str Int) Int Int))) 10 G.sm (Ev.some (ev_ixL (ev_varK 3 rfl r_stack kv_rows_3) (ev_neg ev_int) h_t15)) (fun v_closed F H g rn_ => ?_) sc_rows.nd
      have G := G.trans g
      have r_stack := Rp.mono g.ff r_stack
      have r_counts := Rp.mono g.ff r_counts
      have r_path := Rp.mono g.ff r_path
      have o_rows_here := o_rows_here.up g
      have sb14 := sb14.trans g.ff
      have r_closed := cg (Option.some.inj he) rn_
      obtain ⟨x_stack, he, hm⟩ := Option.bind_eq_some_iff.mp hm
      refine go_setA ((List (T5 Str (T2 Str Int) (T2 Str Int) Int Int))) 3 G.sm (EvN.evA ((List (T5 Str (T2 Str Int) (T2 Str Int) Int Int))) (en_slice (ev_varK 3 rfl r_stack kv_rows_3) eo_none (eo_some (ev_neg ev_int)))) (fun v_stack F H g rn_ => ?_) sc_rows.nd
      have G := G.trans g
      have r_counts := Rp.mono g.ff r_counts
      have r_path := Rp.mono g.ff r_path
      have o_rows_here := o_rows_here.up g
      have r_closed := Rp.mono g.ff r_closed
      have sb14 := sb14.trans g.ff
      have r_stack := cg (Option.some.inj he) rn_
      obtain ⟨x_counts, he, hm⟩ := Option.bind_eq_some_iff.mp hm
      refine go_setA ((List Int)) 4 G.sm (EvN.evA ((List Int)) (en_slice (ev_varK 4 rfl r_counts kv_rows_4) eo_none (eo_some (ev_neg ev_int)))) (fun v_counts F H g rn_ => ?_) sc_rows.nd
      have G := G.trans g
      have r_stack := Rp.mono g.ff r_stack
      have r_path := Rp.mono g.ff r_path
      have o_rows_here := o_rows_here.up g
      have r_closed := Rp.mono g.ff r_closed
      have sb14 := sb14.trans g.ff
      have r_counts := cg (Option.some.inj he) rn_
      obtain ⟨x_path, he, hm⟩ := Option.bind_eq_some_iff.mp hm
      refine go_setA ((List Int)) 5 G.sm (EvN.evA ((List Int)) (en_slice (ev_varK 5 rfl r_path kv_rows_5) eo_none (eo_some (ev_neg ev_int)))) (fun v_path F H g rn_ => ?_) sc_rows.nd
      have G := G.trans g
      have r_stack := Rp.mono g.ff r_stack
      have r_counts := Rp.mono g.ff r_counts
      have o_rows_here := o_rows_here.up g
      have r_closed := Rp.mono g.ff r_closed
      have sb14 := sb14.trans g.ff
      have r_path := cg (Option.some.inj he) rn_
      have hm := Option.some.inj hm
      subst hm
      exact GoS.nil ⟨_, sb14, G.fh, ⟨_, _, _, _, _, rfl, G, r_closed, r_stack, r_counts, r_path, o_rows_here⟩⟩
    · intro σ_ F H s1_ s2_ iv_
      obtain ⟨u_close, v_closed, v_stack, v_counts, v_path, rfl, G, r_closed, r_stack, r_counts, r_path, o_rows_here⟩ := iv_
      have sb6 := sb6.trans s1_
      have r_script := Rp.mono s1_ r_script
      have r_far_here := Rp.mono s1_ r_far_here
      have r_k := Rp.mono s1_ r_k
      have r_cell_here := Rp.mono s1_ r_cell_here
      have r_number := Rp.mono s1_ r_number
      obtain ⟨t17, h_t17, hm⟩ := Option.bind_eq_some_iff.mp hm
      obtain ⟨x_opens, he, hm⟩ := Option.bind_eq_some_iff.mp hm
      refine go_setA (Int) 12 G.sm (ev_ixL (EvN.evA ((List Int)) (en_list (el_int (el_int (el_int (el_int (el_int (el_int (el_int (el_int el_nil)))))))) (by show 8 ≤ sizeLine; decide))) (ev_mod (ev_div (ev_varK 9 rfl r_number kv_rows_9) ev_int ⟨by decide, by decide⟩) ev_int (by decide)) h_t17) (fun v_opens F H g rn_ => ?_) sc_rows.nd
      have G := G.trans g
      have r_script := Rp.mono g.ff r_script
      have r_far_here := Rp.mono g.ff r_far_here
      have r_stack := Rp.mono g.ff r_stack
      have r_counts := Rp.mono g.ff r_counts
      have r_path := Rp.mono g.ff r_path
      have o_rows_here := o_rows_here.up g
      have r_k := Rp.mono g.ff r_k
      have r_cell_here := Rp.mono g.ff r_cell_here
      have r_number := Rp.mono g.ff r_number
      have r_closed := Rp.mono g.ff r_closed
      have sb6 := sb6.trans g.ff
      have r_opens := cg (Option.some.inj he) rn_
      change GoS _ _ _ [some v_script, some v_many_here, some v_far_here, some v_stack, some v_counts, some v_path, some (.ref l_rows_here), some v_k, some v_cell_here, some v_number, some v_closed, u_close, some v_opens, u_e, u_loop_here] _
      obtain ⟨b18, hj, hm⟩ := Option.bind_eq_some_iff.mp hm
      refine go_ifjA ((decide ((0 : Int) < x_k))) (fun σ_ H_ => ∃ (F_ : Hp) (v_opens : V), L2.Same F F_ ∧ σ_ = [some v_script, some v_many_here, some v_far_here, some v_stack, some v_counts, some v_path, some (.ref l_rows_here), some v_k, some v_cell_here, some v_number, some v_closed, u_close, some v_opens, u_e, u_loop_here] ∧ GrX K F0 H0 F_ H_ ∧ rp (α := Int) K F_ v_opens b18 ∧ Own K H0 F_ H_ l_rows_here b3.2.2.2) G.sm (et_cmp op_gt o2_gt (ev_varK 7 rfl r_k kv_rows_7) ev_int (nomark _)) (fun hc F H g => ?_) (fun hc F H g => ?_) (fun σ_ H hP_ => ?_)
      · replace hj := ipos hc hj
        clear hm
        have hm := hj
        clear hj
        have G := G.trans g
        have r_script := Rp.mono g.ff r_script
        have r_far_here := Rp.mono g.ff r_far_here
        have r_stack := Rp.mono g.ff r_stack
        have r_counts := Rp.mono g.ff r_counts
        have r_path := Rp.mono g.ff r_path
        have o_rows_here := o_rows_here.up g
        have r_k := Rp.mono g.ff r_k
        have r_cell_here := Rp.mono g.ff r_cell_here
        have r_number := Rp.mono g.ff r_number
        have r_closed := Rp.mono g.ff r_closed
        have r_opens := Rp.mono g.ff r_opens
        have sb6 := sb6.trans g.ff
        have sj19 := g.ff
        obtain ⟨t20, h_t20, hm⟩ := Option.bind_eq_some_iff.mp hm
        obtain ⟨x_opens, he, hm⟩ := Option.bind_eq_some_iff.mp hm
        refine go_setA (Int) 12 G.sm (ev_ixL (EvN.evA ((List Int)) (en_list (el_int (el_int (el_int (el_int (el_int (el_int (el_int (el_int el_nil)))))))) (by show 8 ≤ sizeLine; decide))) (ev_mod (ev_div (ev_varK 9 rfl r_number kv_rows_9) ev_int ⟨by decide, by decide⟩) ev_int (by decide)) h_t20) (fun v_opens F H g rn_ => ?_) sc_rows.nd
        have G := G.trans g
        have r_script := Rp.mono g.ff r_script
        have r_far_here := Rp.mono g.ff r_far_here
        have r_stack := Rp.mono g.ff r_stack
        have r_counts := Rp.mono g.ff r_counts
        have r_path := Rp.mono g.ff r_path
        have o_rows_here := o_rows_here.up g
        have r_cell_here := Rp.mono g.ff r_cell_here
        have r_number := Rp.mono g.ff r_number
        have r_closed := Rp.mono g.ff r_closed
        have sb6 := sb6.trans g.ff
        have sj19 := sj19.trans g.ff
        have r_opens := cg (Option.some.inj he) rn_
        have hm := Option.some.inj hm
        subst hm
        exact GoS.nil ⟨_, _, sj19, rfl, G, r_opens, o_rows_here⟩
      · replace hj := ineg (nt hc) hj
        clear hm
        have hm := hj
        clear hj
        have G := G.trans g
        have r_script := Rp.mono g.ff r_script
        have r_far_here := Rp.mono g.ff r_far_here
        have r_stack := Rp.mono g.ff r_stack
        have r_counts := Rp.mono g.ff r_counts
        have r_path := Rp.mono g.ff r_path
        have o_rows_here := o_rows_here.up g
        have r_k := Rp.mono g.ff r_k
        have r_cell_here := Rp.mono g.ff r_cell_here
        have r_number := Rp.mono g.ff r_number
        have r_closed := Rp.mono g.ff r_closed
        have r_opens := Rp.mono g.ff r_opens
        have sb6 := sb6.trans g.ff
        have sj19 := g.ff
        have hm := Option.some.inj hm
        subst hm
        exact GoS.nil ⟨_, _, sj19, rfl, G, r_opens, o_rows_here⟩
      obtain ⟨F, v_opens, sj_, rfl, G, r_opens, o_rows_here⟩ := hP_
      have r_script := Rp.mono sj_ r_script
      have r_far_here := Rp.mono sj_ r_far_here
      have r_stack := Rp.mono sj_ r_stack
      have r_counts := Rp.mono sj_ r_counts
      have r_path := Rp.mono sj_ r_path
      have r_cell_here := Rp.mono sj_ r_cell_here
      have r_number := Rp.mono sj_ r_number
      have r_closed := Rp.mono sj_ r_closed
      have sb6 := sb6.trans sj_
      obtain ⟨t21, h_t21, hm⟩ := Option.bind_eq_some_iff.mp hm
      obtain ⟨b39, ho_, hm⟩ := Option.bind_eq_some_iff.mp hm
      refine go_forN G.sm (ei_range1 (ev_callB (call_min2 rfl) oc_min2 T.n_min (by decide +kernel) (ea_cons (ev_varK 12 rfl r_opens kv_rows_12) (ea_cons (ev_sub ev_int (ev_callB call_len_seq oc_lenL T.n_len PySem.boot_len (ea_cons (ev_varK 3 rfl r_stack kv_rows_3) ea_nil))) ea_nil))) h_t21 T.n_range) (pg_name (i := 13) sc_rows.nd rfl (by first | exact Or.inl rfl | exact Or.inr rfl)) ho_ (fun F H g => ?_) PassesOwn.never
      have G := G.trans g
      have r_script := Rp.mono g.ff r_script
      have r_far_here := Rp.mono g.ff r_far_here
      have r_stack := Rp.mono g.ff r_stack
      have r_counts := Rp.mono g.ff r_counts
      have r_path := Rp.mono g.ff r_path
      have o_rows_here := o_rows_here.up g
      have r_cell_here := Rp.mono g.ff r_cell_here
      have r_number := Rp.mono g.ff r_number
      have r_closed := Rp.mono g.ff r_closed
      have sb6 := sb6.trans g.ff
      refine ⟨fun (b22 : ((List (T5 Str (T2 Str Int) (T2 Str Int) Int Int)) × (List Int) × (List Int))) σ_ F_ H_ => ∃ (u_loop_here : Option V) (u_e : Option V) (v_stack : V) (v_path : V) (v_counts : V), σ_ = [some v_script, some v_many_here, some v_far_here, some v_stack, some v_counts, some v_path, some (.ref l_rows_here), some v_k, some v_cell_here, some v_number, some v_closed, u_close, some v_opens, u_e, u_loop_here] ∧ GrX K F0 H0 F_ H_ ∧ rp (α := (List (T5 Str (T2 Str Int) (T2 Str Int) Int Int))) K F_ v_stack b22.1 ∧ rp (α := (List Int)) K F_ v_path b22.2.1 ∧ rp (α := (List Int)) K F_ v_counts b22.2.2 ∧ Own K H0 F_ H_ l_rows_here b3.2.2.2, ⟨_, _, _, _, _, rfl, G, r_stack, r_path, r_counts, o_rows_here⟩, ?_, ?_⟩
      ·
        intro b22 x_e o_ hm σ_ F H v_e s1_ s2_ iv_ F H g r_e Q_ hQ_
        obtain ⟨u_loop_here, u_e, v_stack, v_path, v_counts, rfl, G, r_stack, r_path, r_counts, o_rows_here⟩ := iv_
        have sb25 := g.ff
        have r_script := Rp.mono s1_ r_script
        have r_far_here := Rp.mono s1_ r_far_here
        have r_cell_here := Rp.mono s1_ r_cell_here
        have r_number := Rp.mono s1_ r_number
        have r_closed := Rp.mono s1_ r_closed
        have G := G.trans g
        have r_script := Rp.mono g.ff r_script
        have r_far_here := Rp.mono g.ff r_far_here
        have r_stack := Rp.mono g.ff r_stack
        have r_counts := Rp.mono g.ff r_counts
        have r_path := Rp.mono g.ff r_path
        have o_rows_here := o_rows_here.up g
        have r_cell_here := Rp.mono g.ff r_cell_here
        have r_number := Rp.mono g.ff r_number
        have r_closed := Rp.mono g.ff r_closed
        refine hQ_ _ _ ?_
        change GoS _ _ _ [some v_script, some v_many_here, some v_far_here, some v_stack, some v_counts, some v_path, some (.ref l_rows_here), some v_k, some v_cell_here, some v_number, some v_closed, u_close, some v_opens, some v_e, u_loop_here] _
        obtain ⟨t26, h_t26, hm⟩ := Option.bind_eq_some_iff.mp hm
        obtain ⟨t27, h_t27, hm⟩ := Option.bind_eq_some_iff.mp hm
        obtain ⟨t28, h_t28, hm⟩ := Option.bind_eq_some_iff.mp hm
        obtain ⟨x_loop_here, he, hm⟩ := Option.bind_eq_some_iff.mp hm
        refine go_setA ((T5 Str (T2 Str Int) (T2 Str Int) Int Int)) 14 G.sm (ev_call (ok_loop T) (hr.mono (by omega)) T.g_loop T.F_loop.kp (b_loop T) (ea_cons (ev_call (ok_mixed T) (hr.mono (by omega)) T.g_mixed T.F_mixed.kp (b_mixed T) (ea_cons (ev_varK 8 rfl r_cell_here kv_rows_8) (ea_cons (ev_add ev_int (ev_varK 13 rfl r_e kv_rows_13)) ea_nil)) h_t26 gl_rows_mixed) (ea_cons (ev_varK 2 rfl r_far_here kv_rows_2) (ea_cons (ev_varK 3 rfl r_stack kv_rows_3) (ea_cons (ev_call (ok_cell T) (hr.mono (by omega)) T.g_cell T.F_cell.kp (b_cell T) (ea_cons (ev_varK 0 rfl r_script kv_rows_0) (ea_cons ev_int ea_nil)) h_t27 gl_rows_cell) ea_nil)))) h_t28 gl_rows_loop) (fun v_loop_here F H g rn_ => ?_) sc_rows.nd
        have G := G.trans g
        have r_script := Rp.mono g.ff r_script
        have r_far_here := Rp.mono g.ff r_far_here
        have r_stack := Rp.mono g.ff r_stack
        have r_counts := Rp.mono g.ff r_counts
        have r_path := Rp.mono g.ff r_path
        have o_rows_here := o_rows_here.up g
        have r_cell_here := Rp.mono g.ff r_cell_here
        have r_number := Rp.mono g.ff r_number
        have r_closed := Rp.mono g.ff r_closed
        have r_e := Rp.mono g.ff r_e
        have sb25 := sb25.trans g.ff
        have r_loop_here := cg (Option.some.inj he) rn_
        change GoS _ _ _ [some v_script, some v_many_here, some v_far_here, some v_stack, some v_counts, some v_path, some (.ref l_rows_here), some v_k, some v_cell_here, some v_number, some v_closed, u_close, some v_opens, some v_e, some v_loop_here] _
        obtain ⟨t30, h_t30, hm⟩ := Option.bind_eq_some_iff.mp hm
        obtain ⟨b31, hj, hm⟩ := Option.bind_eq_some_iff.mp hm
        refine go_ifjA (t30) (fun σ_ H_ => ∃ (F_ : Hp) (v_loop_here : V), L2.Same F F_ ∧ σ_ = [some v_script, some v_many_here, some v_far_here, some v_stack, some v_counts, some v_path, some (.ref l_rows_here), some v_k, some v_cell_here, some v_number, some v_closed, u_close, some v_opens, some v_e, some v_loop_here] ∧ GrX K F0 H0 F_ H_ ∧ rp (α := (T5 Str (T2 Str Int) (T2 Str Int) Int Int)) K F_ v_loop_here b31 ∧ Own K H0 F_ H_ l_rows_here b3.2.2.2) G.sm (EvW.t (ew_andA ((decide (x_e = (0 : Int)))) (et_cmp op_eq o2_eq (ev_varK 13 rfl r_e kv_rows_13) ev_int (nomark _)) (fun hc => by
                replace h_t30 := ipos hc h_t30
                obtain ⟨t29, h_t29, h_t30⟩ := Option.bind_eq_some_iff.mp h_t30
                exact EvW.cg (Option.some.inj h_t30) (by
              clear hm
              obtain ⟨z_, hz_⟩ : ∃ z_, z_ = b16.1 := ⟨_, rfl⟩
              have q_closed := rp_cast (α := (Option (T5 Str (T2 Str Int) (T2 Str Int) Int Int))) hz_ r_closed
              rw [← hz_] at h_t29
              clear hz_
              cases z_ with
              | none => exact ew_and (et_notNone (ev_varK 10 rfl q_closed kv_rows_10)) (fun h => nomatch h) (fun _ => (Option.some.inj h_t29).symm)
              | some x_closed =>
                refine ew_and (et_notNone (ev_varK 10 rfl q_closed kv_rows_10)) (fun _ => ?_) (fun h => nomatch h)
                have r_closed := rp_of_some q_closed
                exact EvW.cg (Option.some.inj h_t29) (ew_and1 (et_cmp op_eq o2_eq (ev_mod (ev_div (ev_varK 9 rfl r_number kv_rows_9) ev_int ⟨by decide, by decide⟩) ev_int (by decide)) ev_int (nomark _))))) (fun hc => by replace h_t30 := ineg (nt hc) h_t30; exact (Option.some.inj h_t30).symm))) (fun hc F H g => ?_) (fun hc F H g => ?_) (fun σ_ H hP_ => ?_)
        · replace hj := ipos hc hj
          clear hm
          have hm := hj
          clear hj
          have G := G.trans g
          have r_stack := Rp.mono g.ff r_stack
          have r_counts := Rp.mono g.ff r_counts
          have r_path := Rp.mono g.ff r_path
          have o_rows_here := o_rows_here.up g
          have r_number := Rp.mono g.ff r_number
          have r_closed := Rp.mono g.ff r_closed
          have r_e := Rp.mono g.ff r_e
          have r_loop_here := Rp.mono g.ff r_loop_here
          have sb25 := sb25.trans g.ff
          have sj32 := g.ff
          obtain ⟨t33, h_t33, hm⟩ := Option.bind_eq_some_iff.mp hm
          obtain ⟨x_loop_here, he, hm⟩ := Option.bind_eq_some_iff.mp hm
          refine go_setA ((T5 Str (T2 Str Int) (T2 Str Int) Int Int)) 14 G.sm (Ev.getA (b16.1) (ev_varK 10 rfl r_closed kv_rows_10) h_t33) (fun v_loop_here F H g rn_ => ?_) sc_rows.nd
          have G := G.trans g
          have r_stack := Rp.mono g.ff r_stack
          have r_counts := Rp.mono g.ff r_counts
          have r_path := Rp.mono g.ff r_path
          have o_rows_here := o_rows_here.up g
          have r_closed := Rp.mono g.ff r_closed
          have sb25 := sb25.trans g.ff
          have sj32 := sj32.trans g.ff
          have r_loop_here := cg (Option.some.inj he) rn_
          have hm := Option.some.inj hm
          subst hm
          exact GoS.nil ⟨_, _, sj32, rfl, G, r_loop_here, o_rows_here⟩
        · replace hj := ineg (nt hc) hj
          clear hm
          have hm := hj
          clear hj
          have G := G.trans g
          have r_stack := Rp.mono g.ff r_stack
          have r_counts := Rp.mono g.ff r_counts
          have r_path := Rp.mono g.ff r_path
          have o_rows_here := o_rows_here.up g
          have r_number := Rp.mono g.ff r_number
          have r_closed := Rp.mono g.ff r_closed
          have r_e := Rp.mono g.ff r_e
          have r_loop_here := Rp.mono g.ff r_loop_here
          have sb25 := sb25.trans g.ff
          have sj32 := g.ff
          have hm := Option.some.inj hm
          subst hm
          exact GoS.nil ⟨_, _, sj32, rfl, G, r_loop_here, o_rows_here⟩
        obtain ⟨F, v_loop_here, sj_, rfl, G, r_loop_here, o_rows_here⟩ := hP_
        have r_stack := Rp.mono sj_ r_stack
        have r_counts := Rp.mono sj_ r_counts
        have r_path := Rp.mono sj_ r_path
        have sb25 := sb25.trans sj_
        obtain ⟨t34, h_t34, hm⟩ := Option.bind_eq_some_iff.mp hm
        obtain ⟨x_stack, he, hm⟩ := Option.bind_eq_some_iff.mp hm
        refine go_setA ((List (T5 Str (T2 Str Int) (T2 Str Int) Int Int))) 3 G.sm (EvN.evA ((List (T5 Str (T2 Str Int) (T2 Str Int) Int Int))) (en_cat (ev_varK 3 rfl r_stack kv_rows_3) (EvN.evA ((List (T5 Str (T2 Str Int) (T2 Str Int) Int Int))) (en_list (el_cons (ev_varK 14 rfl r_loop_here kv_rows_14) el_nil) (by show 1 ≤ sizeLine; decide))) h_t34)) (fun v_stack F H g rn_ => ?_) sc_rows.nd
        have G := G.trans g
        have r_counts := Rp.mono g.ff r_counts
        have r_path := Rp.mono g.ff r_path
        have o_rows_here := o_rows_here.up g
        have r_loop_here := Rp.mono g.ff r_loop_here
        have sb25 := sb25.trans g.ff
        have r_stack := cg (Option.some.inj he) rn_
        obtain ⟨t35, h_t35, hm⟩ := Option.bind_eq_some_iff.mp hm
        obtain ⟨t36, h_t36, hm⟩ := Option.bind_eq_some_iff.mp hm
        obtain ⟨x_path, he, hm⟩ := Option.bind_eq_some_iff.mp hm
        refine go_setA ((List Int)) 5 G.sm (EvN.evA ((List Int)) (en_cat (ev_varK 5 rfl r_path kv_rows_5) (EvN.evA ((List Int)) (en_list (el_cons (ev_ixL (ev_varK 4 rfl r_counts kv_rows_4) (ev_neg ev_int) h_t35) el_nil) (by show 1 ≤ sizeLine; decide))) h_t36)) (fun v_path F H g rn_ => ?_) sc_rows.nd
        have G := G.trans g
        have r_stack := Rp.mono g.ff r_stack
        have r_counts := Rp.mono g.ff r_counts
        have o_rows_here := o_rows_here.up g
        have sb25 := sb25.trans g.ff
        have r_path := cg (Option.some.inj he) rn_
        obtain ⟨t37, h_t37, hm⟩ := Option.bind_eq_some_iff.mp hm
        obtain ⟨t38, h_t38, hm⟩ := Option.bind_eq_some_iff.mp hm
        obtain ⟨x_counts, he, hm⟩ := Option.bind_eq_some_iff.mp hm
        refine go_setA ((List Int)) 4 G.sm (EvN.evA ((List Int)) (en_cat (EvN.evA ((List Int)) (en_slice (ev_varK 4 rfl r_counts kv_rows_4) eo_none (eo_some (ev_neg ev_int)))) (EvN.evA ((List Int)) (en_list (el_cons (ev_add (ev_ixL (ev_varK 4 rfl r_counts kv_rows_4) (ev_neg ev_int) h_t37) ev_int) (el_int el_nil)) (by show 2 ≤ sizeLine; decide))) h_t38)) (fun v_counts F H g rn_ => ?_) sc_rows.nd
        have G := G.trans g
        have r_stack := Rp.mono g.ff r_stack
        have r_path := Rp.mono g.ff r_path
        have o_rows_here := o_rows_here.up g
        have sb25 := sb25.trans g.ff
        have r_counts := cg (Option.some.inj he) rn_
        have hm := Option.some.inj hm
        subst hm
        exact GoS.nil ⟨_, sb25, G.fh, ⟨_, _, _, _, _, rfl, G, r_stack, r_path, r_counts, o_rows_here⟩⟩
      · intro σ_ F H s1_ s2_ iv_
        obtain ⟨u_loop_here, u_e, v_stack, v_path, v_counts, rfl, G, r_stack, r_path, r_counts, o_rows_here⟩ := iv_
        have sb6 := sb6.trans s1_
        have r_script := Rp.mono s1_ r_script
        have r_cell_here := Rp.mono s1_ r_cell_here
        obtain ⟨t40, h_t40, hm⟩ := Option.bind_eq_some_iff.mp hm
        obtain ⟨t41, h_t41, hm⟩ := Option.bind_eq_some_iff.mp hm
        obtain ⟨t42, h_t42, hm⟩ := Option.bind_eq_some_iff.mp hm
        obtain ⟨t43, h_t43, hm⟩ := Option.bind_eq_some_iff.mp hm
        obtain ⟨t44, he, hm⟩ := Option.bind_eq_some_iff.mp hm
        refine go_append 6 G.sm o_rows_here rfl (ev_call (ok_row T) (hr.mono (by omega)) T.g_row T.F_row.kp (b_row T) (ea_cons (ev_varK 8 rfl r_cell_here kv_rows_8) (ea_cons (ev_varK 3 rfl r_stack kv_rows_3) (ea_cons (EvN.evA ((List Int)) (en_cat (ev_varK 5 rfl r_path kv_rows_5) (EvN.evA ((List Int)) (en_list (el_cons (ev_ixL (ev_varK 4 rfl r_counts kv_rows_4) (ev_neg ev_int) h_t40) el_nil) (by show 1 ≤ sizeLine; decide))) h_t41)) (ea_cons (ev_call (ok_heads T) (hr.mono (by omega)) T.g_heads T.F_heads.kp (b_heads T) (ea_cons (ev_varK 0 rfl r_script kv_rows_0) ea_nil) h_t42 gl_rows_heads) ea_nil)))) h_t43 gl_rows_row) he (fun w_ F H g nz_ fz_ on_ => ?_)
        have G := G.trans g
        have r_script := Rp.mono g.ff r_script
        have r_stack := Rp.mono g.ff r_stack
        have r_counts := Rp.mono g.ff r_counts
        have r_path := Rp.mono g.ff r_path
        have r_cell_here := Rp.mono g.ff r_cell_here
        have sb6 := sb6.trans g.ff
        have G := G.poke (u := w_) on_.n fz_ nz_ on_.pl
        have o_rows_here := on_
        obtain ⟨t45, h_t45, hm⟩ := Option.bind_eq_some_iff.mp hm
        obtain ⟨t46, h_t46, hm⟩ := Option.bind_eq_some_iff.mp hm
        obtain ⟨x_counts, he, hm⟩ := Option.bind_eq_some_iff.mp hm
        refine go_setA ((List Int)) 4 G.sm (EvN.evA ((List Int)) (en_cat (EvN.evA ((List Int)) (en_slice (ev_varK 4 rfl r_counts kv_rows_4) eo_none (eo_some (ev_neg ev_int)))) (EvN.evA ((List Int)) (en_list (el_cons (ev_add (ev_ixL (ev_varK 4 rfl r_counts kv_rows_4) (ev_neg ev_int) h_t45) ev_int) el_nil) (by show 1 ≤ sizeLine; decide))) h_t46)) (fun v_counts F H g rn_ => ?_) sc_rows.nd
        have G := G.trans g
        have r_stack := Rp.mono g.ff r_stack
        have r_path := Rp.mono g.ff r_path
        have o_rows_here := o_rows_here.up g
        have sb6 := sb6.trans g.ff
        have r_counts := cg (Option.some.inj he) rn_
        have hm := Option.some.inj hm
        subst hm
        exact GoS.nil ⟨_, sb6, G.fh, ⟨_, _, _, _, _, _, _, _, _, _, _, rfl, G, r_stack, r_counts, r_path, o_rows_here⟩⟩
  · intro σ_ F H s1_ s2_ iv_
    obtain ⟨u_cell_here, u_number, u_closed, u_close, u_opens, u_e, u_loop_here, u_k, v_stack, v_counts, v_path, rfl, G, r_stack, r_counts, r_path, o_rows_here⟩ := iv_
    refine o_rows_here.freeze G (fun F H s_ s2_ G r_rows_here k_ => ?_)
    exact go_ret G.sm (ev_varK 6 rfl r_rows_here kv_rows_6) fun v_ F_ H_ g_ rv_ => kr _ _ _ (G.trans g_) (cg (Option.some.inj hm) rv_)
theorem sc_around : FnScope ["_law_names", "_law_values", "_law_around_here", "_law_name_here", "_law_value"] ["_law_names", "_law_values"] (defScope s_around) := ⟨rfl, rfl, rfl, by decide +kernel, rfl, by decide +kernel, by decide +kernel⟩
theorem b_around (T : Txt K mg) : Binds K T.d_around ["_law_names", "_law_values"] [] := T.F_around.bindsN fun _ _ _ _ _ _ us hl => match us, hl with | [_, _], _ => rfl
theorem kv_around_0 : VKn (defScope s_around) "_law_names" := ⟨by first | exact Or.inl (by decide +kernel) | exact Or.inr (Or.inl (by decide +kernel)) | exact Or.inr (Or.inr (by decide +kernel)), by decide, by decide⟩
theorem kv_around_1 : VKn (defScope s_around) "_law_values" := ⟨by first | exact Or.inl (by decide +kernel) | exact Or.inr (Or.inl (by decide +kernel)) | exact Or.inr (Or.inr (by decide +kernel)), by decide, by decide⟩
theorem kv_around_2 : VKn (defScope s_around) "_law_around_here" := ⟨by first | exact Or.inl (by decide +kernel) | exact Or.inr (Or.inl (by decide +kernel)) | exact Or.inr (Or.inr (by decide +kernel)), by decide, by decide⟩
theorem kv_around_3 : VKn (defScope s_around) "_law_name_here" := ⟨by first | exact Or.inl (by decide +kernel) | exact Or.inr (Or.inl (by decide +kernel)) | exact Or.inr (Or.inr (by decide +kernel)), by decide, by decide⟩
theorem kv_around_4 : VKn (defScope s_around) "_law_value" := ⟨by first | exact Or.inl (by decide +kernel) | exact Or.inr (Or.inl (by decide +kernel)) | exact Or.inr (Or.inr (by decide +kernel)), by decide, by decide⟩
theorem ok_around (T : Txt K mg) : FnOk P w K mg base CX0 1 (He.fAd K ("_law_around", none)) T.d_around ["_law_names", "_law_values"] (Pr K fun (a_ : (Tp Str) × (Tp Int) × Unit) => m_around a_.1 a_.2.1) := by
  refine fn_ok T.F_around sc_around rfl fun cdv A outer s_ F0 H0 vs a_ r D_ E_ hr sm_ ra_ hm kr kn => ?_
  obtain ⟨v_names, _, rfl, r_names, v_values, _, rfl, r_values, rfl⟩ := ra_
  obtain ⟨x_names, x_values, _u⟩ := a_
  have G : GrX K F0 H0 F0 H0 := .refl sm_
  replace hm : m_around x_names x_values = some r := hm
  unfold m_around at hm
  have r_names : rp (α := (Tp Str)) K F0 v_names x_names := r_names
  have r_values : rp (α := (Tp Int)) K F0 v_values x_values := r_values
  change GoS _ _ _ [some v_names, some v_values, none, none, none] _
  obtain ⟨x_around_here, he, hm⟩ := Option.bind_eq_some_iff.mp hm
  refine go_setNA ((Dct Str Int)) 2 G.sm en_dict (fun l_around_here vs_ F H g nl_ fl_ hl_ rs_ => ?_) sc_around.nd
  have n0_ := G.hh.free nl_
  have G := G.trans g
  have r_names := Rp.mono g.ff r_names
  have r_values := Rp.mono g.ff r_values
  have o_around_here : Own K _ F H l_around_here _ := Own.cg (Option.some.inj he) ⟨n0_, fl_, vs_, hl_, rs_⟩
  change GoS _ _ _ [some v_names, some v_values, some (.ref l_around_here), none, none] _
  obtain ⟨b8, ho_, hm⟩ := Option.bind_eq_some_iff.mp hm
  refine go_forN G.sm (ei_zipT (ev_varK 0 rfl r_names kv_around_0) (ev_varK 1 rfl r_values kv_around_1) T.n_zip) (pg_tup rfl (pgs_cons (pg_name (i := 3) sc_around.nd rfl (by first | exact Or.inl rfl | exact Or.inr rfl)) (pgs_cons (pg_name (i := 4) sc_around.nd rfl (by first | exact Or.inl rfl | exact Or.inr rfl)) pgs_nil))) ho_ (fun F H g => ?_) PassesOwn.never
  have G := G.trans g
  have o_around_here := o_around_here.up g
  refine ⟨fun (b1 : (Dct Str Int)) σ_ F_ H_ => ∃ (u_name_here : Option V) (u_value : Option V), σ_ = [some v_names, some v_values, some (.ref l_around_here), u_name_here, u_value] ∧ GrX K F0 H0 F_ H_ ∧ Own K H0 F_ H_ l_around_here b1, ⟨_, _, rfl, G, o_around_here⟩, ?_, ?_⟩
  ·
    intro b1 i2 o_ hm σ_ F H w_ s1_ s2_ iv_ F H g ri_ Q_ hQ_
    obtain ⟨u_name_here, u_value, rfl, G, o_around_here⟩ := iv_
    have sb6 := g.ff
    have G := G.trans g
    have o_around_here := o_around_here.up g
    obtain ⟨pa4, _, rfl, sq5, v_name_here, _, rfl, r_name_here, v_value, _, rfl, r_value, rfl⟩ := ri_
    refine ⟨pa4, _, rfl, seqT_mono g.fh sq5, rfl, _, _, rfl, _, _, rfl, rfl, hQ_ _ _ ?_⟩
    change GoS _ _ _ [some v_names, some v_values, some (.ref l_around_here), some v_name_here, some v_value] _
    obtain ⟨t7, he, hm⟩ := Option.bind_eq_some_iff.mp hm
    refine go_dput 2 G.sm (room1 hr) o_around_here rfl (ev_varK 4 rfl r_value kv_around_4) (ev_varK 3 rfl r_name_here kv_around_3) he (fun w_ F H g nz_ fz_ on_ => ?_)
    have G := G.trans g
    have r_name_here := Rp.mono g.ff r_name_here
    have r_value := Rp.mono g.ff r_value
    have sb6 := sb6.trans g.ff
    have G := G.poke (u := w_) on_.n fz_ nz_ on_.pl
    have o_around_here := on_
    have hm := Option.some.inj hm
    subst hm
    exact GoS.nil ⟨_, sb6, G.fh, ⟨_, _, rfl, G, o_around_here⟩⟩
  · intro σ_ F H s1_ s2_ iv_
    obtain ⟨u_name_here, u_value, rfl, G, o_around_here⟩ := iv_
    refine o_around_here.freeze G (fun F H s_ s2_ G r_around_here k_ => ?_)
    exact go_ret G.sm (ev_varK 2 rfl r_around_here kv_around_2) fun v_ F_ H_ g_ rv_ => kr _ _ _ (G.trans g_) (cg (Option.some.inj hm) rv_)
theorem sc_stand : FnScope ["_law_spots_here", "_law_around_here", "_law_place", "_law_name_here", "_law_n"] ["_law_spots_here", "_law_around_here"] (defScope s_stand) := ⟨rfl, rfl, rfl, by decide +kernel, rfl, by decide +kernel, by decide +kernel⟩
theorem b_stand (T : Txt K mg) : Binds K T.d_stand ["_law_spots_here", "_law_around_here"] [] := T.F_stand.bindsN fun _ _ _ _ _ _ us hl => match us, hl with | [_, _], _ => rfl
theorem kv_stand_0 : VKn (defScope s_stand) "_law_spots_here" := ⟨by first | exact Or.inl (by decide +kernel) | exact Or.inr (Or.inl (by decide +kernel)) | exact Or.inr (Or.inr (by decide +kernel)), by decide, by decide⟩
theorem kv_stand_1 : VKn (defScope s_stand) "_law_around_here" := ⟨by first | exact Or.inl (by decide +kernel) | exact Or.inr (Or.inl (by decide +kernel)) | exact Or.inr (Or.inr (by decide +kernel)), by decide, by decide⟩
theorem kv_stand_3 : VKn (defScope s_stand) "_law_name_here" := ⟨by first | exact Or.inl (by decide +kernel) | exact Or.inr (Or.inl (by decide +kernel)) | exact Or.inr (Or.inr (by decide +kernel)), by decide, by decide⟩
theorem kv_stand_4 : VKn (defScope s_stand) "_law_n" := ⟨by first | exact Or.inl (by decide +kernel) | exact Or.inr (Or.inl (by decide +kernel)) | exact Or.inr (Or.inr (by decide +kernel)), by decide, by decide⟩
theorem ok_stand (T : Txt K mg) : FnOk P w K mg base CX0 1 (He.fAd K ("_law_stand", none)) T.d_stand ["_law_spots_here", "_law_around_here"] (Pr K fun (a_ : (T2 (T2 Str Int) (T2 Str Int)) × (Dct Str Int) × Unit) => m_stand a_.1 a_.2.1) := by
  refine fn_ok T.F_stand sc_stand rfl fun cdv A outer s_ F0 H0 vs a_ r D_ E_ hr sm_ ra_ hm kr kn => ?_
  obtain ⟨v_spots_here, _, rfl, r_spots_here, v_around_here, _, rfl, r_around_here, rfl⟩ := ra_
  obtain ⟨x_spots_here, x_around_here, _u⟩ := a_
  have G : GrX K F0 H0 F0 H0 := .refl sm_
  replace hm : m_stand x_spots_here x_around_here = some r := hm
  unfold m_stand at hm
  have r_spots_here : rp (α := (T2 (T2 Str Int) (T2 Str Int))) K F0 v_spots_here x_spots_here := r_spots_here
  have r_around_here : rp (α := (Dct Str Int)) K F0 v_around_here x_around_here := r_around_here
  change GoS _ _ _ [some v_spots_here, some v_around_here, none, none, none] _
  obtain ⟨x_place, he, hm⟩ := Option.bind_eq_some_iff.mp hm
  refine go_setNA ((List Int)) 2 G.sm (en_list el_nil (Nat.zero_le _)) (fun l_place vs_ F H g nl_ fl_ hl_ rs_ => ?_) sc_stand.nd
  have n0_ := G.hh.free nl_
  have G := G.trans g
  have r_spots_here := Rp.mono g.ff r_spots_here
  have r_around_here := Rp.mono g.ff r_around_here
  have o_place : Own K _ F H l_place _ := Own.cg (Option.some.inj he) ⟨n0_, fl_, vs_, hl_, rs_⟩
  change GoS _ _ _ [some v_spots_here, some v_around_here, some (.ref l_place), none, none] _
  obtain ⟨b10, ho_, hm⟩ := Option.bind_eq_some_iff.mp hm
  refine go_forN G.sm (ei_tp (Ev.tp2 (ev_varK 0 rfl r_spots_here kv_stand_0))) (pg_tup rfl (pgs_cons (pg_name (i := 3) sc_stand.nd rfl (by first | exact Or.inl rfl | exact Or.inr rfl)) (pgs_cons (pg_name (i := 4) sc_stand.nd rfl (by first | exact Or.inl rfl | exact Or.inr rfl)) pgs_nil))) ho_ (fun F H g => ?_) PassesOwn.never
  have G := G.trans g
  have r_around_here := Rp.mono g.ff r_around_here
  have o_place := o_place.up g
  refine ⟨fun (b1 : (List Int)) σ_ F_ H_ => ∃ (u_name_here : Option V) (u_n : Option V), σ_ = [some v_spots_here, some v_around_here, some (.ref l_place), u_name_here, u_n] ∧ GrX K F0 H0 F_ H_ ∧ Own K H0 F_ H_ l_place b1, ⟨_, _, rfl, G, o_place⟩, ?_, ?_⟩
  ·
    intro b1 i2 o_ hm σ_ F H w_ s1_ s2_ iv_ F H g ri_ Q_ hQ_
    obtain ⟨u_name_here, u_n, rfl, G, o_place⟩ := iv_
    have sb6 := g.ff
    have r_around_here := Rp.mono s1_ r_around_here
    have G := G.trans g
    have r_around_here := Rp.mono g.ff r_around_here
    have o_place := o_place.up g
    obtain ⟨pa4, _, rfl, sq5, v_name_here, _, rfl, r_name_here, v_n, _, rfl, r_n, rfl⟩ := ri_
    refine ⟨pa4, _, rfl, seqT_mono g.fh sq5, rfl, _, _, rfl, _, _, rfl, rfl, hQ_ _ _ ?_⟩
    change GoS _ _ _ [some v_spots_here, some v_around_here, some (.ref l_place), some v_name_here, some v_n] _
    refine go_ifA ((decide (i2.a = ("" : Str)))) G.sm (et_cmp op_eq o2_eq (ev_varK 3 rfl r_name_here kv_stand_3) ev_str (nomark _)) (fun hc F H g => ?_) (fun hc F H g => ?_)
    · replace hm := ipos hc hm
      have G := G.trans g
      have r_around_here := Rp.mono g.ff r_around_here
      have o_place := o_place.up g
      have r_name_here := Rp.mono g.ff r_name_here
      have r_n := Rp.mono g.ff r_n
      have sb6 := sb6.trans g.ff
      obtain ⟨t7, he, hm⟩ := Option.bind_eq_some_iff.mp hm
      refine go_append 2 G.sm o_place rfl (ev_varK 4 rfl r_n kv_stand_4) he (fun w_ F H g nz_ fz_ on_ => ?_)
      have G := G.trans g
      have r_n := Rp.mono g.ff r_n
      have sb6 := sb6.trans g.ff
      have G := G.poke (u := w_) on_.n fz_ nz_ on_.pl
      have o_place := on_
      refine GoS.nil ?_
      have hm := Option.some.inj hm
      subst hm
      exact GoS.nil ⟨_, sb6, G.fh, ⟨_, _, rfl, G, o_place⟩⟩
    · replace hm := ineg (nt hc) hm
      have G := G.trans g
      have r_around_here := Rp.mono g.ff r_around_here
      have o_place := o_place.up g
      have r_name_here := Rp.mono g.ff r_name_here
      have r_n := Rp.mono g.ff r_n
      have sb6 := sb6.trans g.ff
      obtain ⟨t8, h_t8, hm⟩ := Option.bind_eq_some_iff.mp hm
      obtain ⟨t9, he, hm⟩ := Option.bind_eq_some_iff.mp hm
      refine go_append 2 G.sm o_place rfl (ev_add (ev_dget (room1 hr) (ev_varK 1 rfl r_around_here kv_stand_1) (ev_varK 3 rfl r_name_here kv_stand_3) h_t8) (ev_varK 4 rfl r_n kv_stand_4)) he (fun w_ F H g nz_ fz_ on_ => ?_)
      have G := G.trans g
      have r_around_here := Rp.mono g.ff r_around_here
      have r_name_here := Rp.mono g.ff r_name_here
      have r_n := Rp.mono g.ff r_n
      have sb6 := sb6.trans g.ff
      have G := G.poke (u := w_) on_.n fz_ nz_ on_.pl
      have o_place := on_
      refine GoS.nil ?_
      have hm := Option.some.inj hm
      subst hm
      exact GoS.nil ⟨_, sb6, G.fh, ⟨_, _, rfl, G, o_place⟩⟩
  · intro σ_ F H s1_ s2_ iv_
    obtain ⟨u_name_here, u_n, rfl, G, o_place⟩ := iv_
    change GoS _ _ _ [some v_spots_here, some v_around_here, some (.ref l_place), u_name_here, u_n] _
    exact go_ret G.sm (ev_thaw o_place G.fh (fun F H s_ s2_ rf_ k_ => by
            have rf_place := rf_
            exact (ev_callTy call_tuple_of oc_tuple T.n_tuple (by decide +kernel) (ea_cons (ev_var 2 rfl rf_place) ea_nil)))) fun v_ F_ H_ g_ rv_ => kr _ _ _ (G.trans g_) (cg (Option.some.inj hm) rv_)
theorem sc_levels : FnScope ["_law_row_here", "_law_levels_here", "_law_e", "_law_level", "_law_values", "_law_low", "_law_high"] ["_law_row_here"] (defScope s_levels) := ⟨rfl, rfl, rfl, by decide +kernel, rfl, by decide +kernel, by decide +kernel⟩
theorem b_levels (T : Txt K mg) : Binds K T.d_levels ["_law_row_here"] [] := T.F_levels.bindsN fun _ _ _ _ _ _ us hl => match us, hl with | [_], _ => rfl
theorem kv_levels_0 : VKn (defScope s_levels) "_law_row_here" := ⟨by first | exact Or.inl (by decide +kernel) | exact Or.inr (Or.inl (by decide +kernel)) | exact Or.inr (Or.inr (by decide +kernel)), by decide, by decide⟩
theorem kv_levels_1 : VKn (defScope s_levels) "_law_levels_here" := ⟨by first | exact Or.inl (by decide +kernel) | exact Or.inr (Or.inl (by decide +kernel)) | exact Or.inr (Or.inr (by decide +kernel)), by decide, by decide⟩
theorem kv_levels_2 : VKn (defScope s_levels) "_law_e" := ⟨by first | exact Or.inl (by decide +kernel) | exact Or.inr (Or.inl (by decide +kernel)) | exact Or.inr (Or.inr (by decide +kernel)), by decide, by decide⟩
theorem kv_levels_3 : VKn (defScope s_levels) "_law_level" := ⟨by first | exact Or.inl (by decide +kernel) | exact Or.inr (Or.inl (by decide +kernel)) | exact Or.inr (Or.inr (by decide +kernel)), by decide, by decide⟩
theorem kv_levels_4 : VKn (defScope s_levels) "_law_values" := ⟨by first | exact Or.inl (by decide +kernel) | exact Or.inr (Or.inl (by decide +kernel)) | exact Or.inr (Or.inr (by decide +kernel)), by decide, by decide⟩
theorem kv_levels_5 : VKn (defScope s_levels) "_law_low" := ⟨by first | exact Or.inl (by decide +kernel) | exact Or.inr (Or.inl (by decide +kernel)) | exact Or.inr (Or.inr (by decide +kernel)), by decide, by decide⟩
theorem kv_levels_6 : VKn (defScope s_levels) "_law_high" := ⟨by first | exact Or.inl (by decide +kernel) | exact Or.inr (Or.inl (by decide +kernel)) | exact Or.inr (Or.inr (by decide +kernel)), by decide, by decide⟩
theorem gl_levels_around : (defScope s_levels).names.lookup ("_law_around" : Str) = some NameKind.globalImplicit := by decide +kernel
theorem gl_levels_stand : (defScope s_levels).names.lookup ("_law_stand" : Str) = some NameKind.globalImplicit := by decide +kernel
theorem ok_levels (T : Txt K mg) : FnOk P w K mg base CX0 2 (He.fAd K ("_law_levels", none)) T.d_levels ["_law_row_here"] (Pr K fun (a_ : (T7 (Tp Str) (Tp (T2 Str Int)) (Tp (T2 Str Int)) Str (Tp (T2 Str Int)) UShape (Tp Int)) × Unit) => m_levels a_.1) := by
  refine fn_ok T.F_levels sc_levels rfl fun cdv A outer s_ F0 H0 vs a_ r D_ E_ hr sm_ ra_ hm kr kn => ?_
  obtain ⟨v_row_here, _, rfl, r_row_here, rfl⟩ := ra_
  obtain ⟨x_row_here, _u⟩ := a_
  have G : GrX K F0 H0 F0 H0 := .refl sm_
  replace hm : m_levels x_row_here = some r := hm
  unfold m_levels at hm
  have r_row_here : rp (α := (T7 (Tp Str) (Tp (T2 Str Int)) (Tp (T2 Str Int)) Str (Tp (T2 Str Int)) UShape (Tp Int))) K F0 v_row_here x_row_here := r_row_here
  change GoS _ _ _ [some v_row_here, none, none, none, none, none, none] _
  obtain ⟨x_levels_here, he, hm⟩ := Option.bind_eq_some_iff.mp hm
  refine go_setNA ((List (List (Tp Int)))) 1 G.sm (en_list (el_cons (EvN.evA ((List (Tp Int))) (en_list (el_cons (ev_tp el_nil (by show 0 ≤ sizeLine; decide)) el_nil) (by show 1 ≤ sizeLine; decide))) el_nil) (by show 1 ≤ sizeLine; decide)) (fun l_levels_here vs_ F H g nl_ fl_ hl_ rs_ => ?_) sc_levels.nd
  have n0_ := G.hh.free nl_
  have G := G.trans g
  have r_row_here := Rp.mono g.ff r_row_here
  have o_levels_here : Own K _ F H l_levels_here _ := Own.cg (Option.some.inj he) ⟨n0_, fl_, vs_, hl_, rs_⟩
  change GoS _ _ _ [some v_row_here, some (.ref l_levels_here), none, none, none, none, none] _
  obtain ⟨t1, h_t1, hm⟩ := Option.bind_eq_some_iff.mp hm
  obtain ⟨b27, ho_, hm⟩ := Option.bind_eq_some_iff.mp hm
  refine go_forN G.sm (ei_range1 (ev_callB call_len_seq oc_lenTp T.n_len PySem.boot_len (ea_cons (ev_ixT (ev_varK 0 rfl r_row_here kv_levels_0) ev_int pj0) ea_nil)) h_t1 T.n_range) (pg_name (i := 2) sc_levels.nd rfl (by first | exact Or.inl rfl | exact Or.inr rfl)) ho_ (fun F H g => ?_) PassesOwn.never
  have G := G.trans g
  have r_row_here := Rp.mono g.ff r_row_here
  have o_levels_here := o_levels_here.up g
  refine ⟨fun (b2 : (List (List (Tp Int)))) σ_ F_ H_ => ∃ (u_level : Option V) (u_values : Option V) (u_low : Option V) (u_high : Option V) (u_e : Option V), σ_ = [some v_row_here, some (.ref l_levels_here), u_e, u_level, u_values, u_low, u_high] ∧ GrX K F0 H0 F_ H_ ∧ Own K H0 F_ H_ l_levels_here b2, ⟨_, _, _, _, _, rfl, G, o_levels_here⟩, ?_, ?_⟩
  ·
    intro b2 x_e o_ hm σ_ F H v_e s1_ s2_ iv_ F H g r_e Q_ hQ_
    obtain ⟨u_level, u_values, u_low, u_high, u_e, rfl, G, o_levels_here⟩ := iv_
    have sb5 := g.ff
    have r_row_here := Rp.mono s1_ r_row_here
    have G := G.trans g
    have r_row_here := Rp.mono g.ff r_row_here
    have o_levels_here := o_levels_here.up g
    refine hQ_ _ _ ?_
    change GoS _ _ _ [some v_row_here, some (.ref l_levels_here), some v_e, u_level, u_values, u_low, u_high] _
    obtain ⟨x_level, he, hm⟩ := Option.bind_eq_some_iff.mp hm
    refine go_setNA ((List (Tp Int))) 3 G.sm (en_list el_nil (Nat.zero_le _)) (fun l_level vs_ F H g nl_ fl_ hl_ rs_ => ?_) sc_levels.nd
    have d_level_levels_here : l_level ≠ l_levels_here := fun e_ => o_levels_here.ne0 (e_ ▸ nl_)
    have n0_ := G.hh.free nl_
    have G := G.trans g
    have r_row_here := Rp.mono g.ff r_row_here
    have o_levels_here := o_levels_here.up g
    have r_e := Rp.mono g.ff r_e
    have sb5 := sb5.trans g.ff
    have o_level : Own K _ F H l_level _ := Own.cg (Option.some.inj he) ⟨n0_, fl_, vs_, hl_, rs_⟩
    change GoS _ _ _ [some v_row_here, some (.ref l_levels_here), some v_e, some (.ref l_level), u_values, u_low, u_high] _
    obtain ⟨t6, h_t6, hm⟩ := Option.bind_eq_some_iff.mp hm
    obtain ⟨b25, ho_, hm⟩ := Option.bind_eq_some_iff.mp hm
    refine go_forN G.sm (ei_list (ev_ixOwn 1 o_levels_here rfl (ev_neg ev_int) h_t6)) (pg_name (i := 4) sc_levels.nd rfl (by first | exact Or.inl rfl | exact Or.inr rfl)) ho_ (fun F H g => ?_) PassesOwn.never
    have G := G.trans g
    have r_row_here := Rp.mono g.ff r_row_here
    have o_levels_here := o_levels_here.up g
    have r_e := Rp.mono g.ff r_e
    have o_level := o_level.up g
    have sb5 := sb5.trans g.ff
    refine ⟨fun (b7 : (List (Tp Int))) σ_ F_ H_ => ∃ (u_low : Option V) (u_high : Option V) (u_values : Option V), σ_ = [some v_row_here, some (.ref l_levels_here), some v_e, some (.ref l_level), u_values, u_low, u_high] ∧ GrX K F0 H0 F_ H_ ∧ Own K H0 F_ H_ l_level b7 ∧ Own K H0 F_ H_ l_levels_here b2, ⟨_, _, _, rfl, G, o_level, o_levels_here⟩, ?_, ?_⟩
    ·
      intro b7 x_values o_ hm σ_ F H v_values s1_ s2_ iv_ F H g r_values Q_ hQ_
      obtain ⟨u_low, u_high, u_values, rfl, G, o_level, o_levels_here⟩ := iv_
      have sb10 := g.ff
      have r_row_here := Rp.mono s1_ r_row_here
      have r_e := Rp.mono s1_ r_e
      have G := G.trans g
      have r_row_here := Rp.mono g.ff r_row_here
      have o_levels_here := o_levels_here.up g
      have r_e := Rp.mono g.ff r_e
      have o_level := o_level.up g
      refine hQ_ _ _ ?_
      change GoS _ _ _ [some v_row_here, some (.ref l_levels_here), some v_e, some (.ref l_level), some v_values, u_low, u_high] _
      obtain ⟨t11, h_t11, hm⟩ := Option.bind_eq_some_iff.mp hm
      obtain ⟨t12, h_t12, hm⟩ := Option.bind_eq_some_iff.mp hm
      obtain ⟨t13, h_t13, hm⟩ := Option.bind_eq_some_iff.mp hm
      obtain ⟨t14, h_t14, hm⟩ := Option.bind_eq_some_iff.mp hm
      obtain ⟨t15, h_t15, hm⟩ := Option.bind_eq_some_iff.mp hm
      obtain ⟨i16, he, hm⟩ := Option.bind_eq_some_iff.mp hm
      refine go_unpack G.sm (ev_to2 (ev_call (ok_stand T) (hr.mono (by omega)) T.g_stand T.F_stand.kp (b_stand T) (ea_cons (ev_tup2 (ea_cons (ev_ixTp (ev_ixT (ev_varK 0 rfl r_row_here kv_levels_0) ev_int pj1) (ev_varK 2 rfl r_e kv_levels_2) h_t11) (ea_cons (ev_ixTp (ev_ixT (ev_varK 0 rfl r_row_here kv_levels_0) ev_int pj2) (ev_varK 2 rfl r_e kv_levels_2) h_t12) ea_nil))) (ea_cons (ev_call (ok_around T) (hr.mono (by omega)) T.g_around T.F_around.kp (b_around T) (ea_cons (ev_ixT (ev_varK 0 rfl r_row_here kv_levels_0) ev_int pj0) (ea_cons (ev_varK 4 rfl r_values kv_levels_4) ea_nil)) h_t13 gl_levels_around) ea_nil)) h_t14 gl_levels_stand) h_t15) (pg_tup rfl (pgs_cons (pg_name (i := 5) sc_levels.nd rfl (by first | exact Or.inl rfl | exact Or.inr rfl)) (pgs_cons (pg_name (i := 6) sc_levels.nd rfl (by first | exact Or.inl rfl | exact Or.inr rfl)) pgs_nil))) (fun w_ F H g ri_ Q_ hQ_ => ?_)
      have ri_ := cg (Option.some.inj he) ri_
      have G := G.trans g
      have r_row_here := Rp.mono g.ff r_row_here
      have o_levels_here := o_levels_here.up g
      have r_e := Rp.mono g.ff r_e
      have o_level := o_level.up g
      have r_values := Rp.mono g.ff r_values
      have sb10 := sb10.trans g.ff
      obtain ⟨pa17, _, rfl, sq18, v_low, _, rfl, r_low, v_high, _, rfl, r_high, rfl⟩ := ri_
      refine ⟨pa17, _, rfl, seqT_mono G.fh sq18, rfl, _, _, rfl, _, _, rfl, rfl, hQ_ _ _ ?_⟩
      change GoS _ _ _ [some v_row_here, some (.ref l_levels_here), some v_e, some (.ref l_level), some v_values, some v_low, some v_high] _
      obtain ⟨b24, ho_, hm⟩ := Option.bind_eq_some_iff.mp hm
      refine go_whileN (b0 := (b7, i16.a)) (fun (b19 : ((List (Tp Int)) × Int)) σ_ F_ H_ => ∃ (v_low : V), σ_ = [some v_row_here, some (.ref l_levels_here), some v_e, some (.ref l_level), some v_values, some v_low, some v_high] ∧ GrX K F0 H0 F_ H_ ∧ Own K H0 F_ H_ l_level b19.1 ∧ rp (α := Int) K F_ v_low b19.2 ∧ Own K H0 F_ H_ l_levels_here b2) G.sm ⟨_, rfl, G, o_level, r_low, o_levels_here⟩ ho_ ?_ ?_ ?_ PassesOwn.never
      ·
        intro b19 t_ hm σ_ F H s1_ s2_ iv_
        obtain ⟨v_low, rfl, G, o_level, r_low, o_levels_here⟩ := iv_
        have r_values := Rp.mono s1_ r_values
        have r_high := Rp.mono s1_ r_high
        refine ⟨G.sm, EvT.cg (Option.some.inj hm) (et_cmp op_le o2_le (ev_varK 5 rfl r_low kv_levels_5) (ev_varK 6 rfl r_high kv_levels_6) (nomark _)), fun F H g => ?_⟩
        have G := G.trans g
        have o_level := o_level.up g
        have r_low := Rp.mono g.ff r_low
        have o_levels_here := o_levels_here.up g
        exact ⟨_, rfl, G, o_level, r_low, o_levels_here⟩
      ·
        intro b19 o_ hm σ_ F H s1_ s2_ iv_
        obtain ⟨v_low, rfl, G, o_level, r_low, o_levels_here⟩ := iv_
        have sb21 := L2.Same.refl F
        have r_values := Rp.mono s1_ r_values
        have r_high := Rp.mono s1_ r_high
        obtain ⟨t22, h_t22, hm⟩ := Option.bind_eq_some_iff.mp hm
        obtain ⟨t23, he, hm⟩ := Option.bind_eq_some_iff.mp hm
        refine go_append 3 G.sm o_level rfl (ev_catT (ev_varK 4 rfl r_values kv_levels_4) (ev_tp (el_cons (ev_varK 5 rfl r_low kv_levels_5) el_nil) (by show 1 ≤ sizeLine; decide)) h_t22) he (fun w_ F H g nz_ fz_ on_ => ?_)
        have G := G.trans g
        have o_levels_here := o_levels_here.up g
        have r_values := Rp.mono g.ff r_values
        have r_low := Rp.mono g.ff r_low
        have r_high := Rp.mono g.ff r_high
        have sb21 := sb21.trans g.ff
        have G := G.poke (u := w_) on_.n fz_ nz_ on_.pl
        have o_level := on_
        have o_levels_here := o_levels_here.other (u := w_) (d_level_levels_here.symm)
        obtain ⟨x_low, he, hm⟩ := Option.bind_eq_some_iff.mp hm
        refine go_setA (Int) 5 G.sm (ev_add (ev_varK 5 rfl r_low kv_levels_5) ev_int) (fun v_low F H g rn_ => ?_) sc_levels.nd
        have G := G.trans g
        have o_levels_here := o_levels_here.up g
        have o_level := o_level.up g
        have r_high := Rp.mono g.ff r_high
        have sb21 := sb21.trans g.ff
        have r_low := cg (Option.some.inj he) rn_
        have hm := Option.some.inj hm
        subst hm
        exact GoS.nil ⟨_, sb21, G.fh, ⟨_, rfl, G, o_level, r_low, o_levels_here⟩⟩
      · intro σ_ F H s1_ s2_ iv_
        obtain ⟨v_low, rfl, G, o_level, r_low, o_levels_here⟩ := iv_
        have sb10 := sb10.trans s1_
        have hm := Option.some.inj hm
        subst hm
        exact GoS.nil ⟨_, sb10, G.fh, ⟨_, _, _, rfl, G, o_level, o_levels_here⟩⟩
    · intro σ_ F H s1_ s2_ iv_
      obtain ⟨u_low, u_high, u_values, rfl, G, o_level, o_levels_here⟩ := iv_
      have sb5 := sb5.trans s1_
      refine o_level.freeze G (fun F H s_ s2_ G r_level k_ => ?_)
      have o_levels_here := o_levels_here.keepF (d_level_levels_here.symm) s_ k_
      have sb5 := sb5.trans s_
      obtain ⟨t26, he, hm⟩ := Option.bind_eq_some_iff.mp hm
      refine go_append 1 G.sm o_levels_here rfl (ev_varK 3 rfl r_level kv_levels_3) he (fun w_ F H g nz_ fz_ on_ => ?_)
      have G := G.trans g
      have r_level := Rp.mono g.ff r_level
      have sb5 := sb5.trans g.ff
      have G := G.poke (u := w_) on_.n fz_ nz_ on_.pl
      have o_levels_here := on_
      have hm := Option.some.inj hm
      subst hm
      exact GoS.nil ⟨_, sb5, G.fh, ⟨_, _, _, _, _, rfl, G, o_levels_here⟩⟩
  · intro σ_ F H s1_ s2_ iv_
    obtain ⟨u_level, u_values, u_low, u_high, u_e, rfl, G, o_levels_here⟩ := iv_
    refine o_levels_here.freeze G (fun F H s_ s2_ G r_levels_here k_ => ?_)
    exact go_ret G.sm (ev_varK 1 rfl r_levels_here kv_levels_1) fun v_ F_ H_ g_ rv_ => kr _ _ _ (G.trans g_) (cg (Option.some.inj hm) rv_)
theorem sc_counted : FnScope ["_law_rows_here", "_law_loops", "_law_deeds", "_law_row_here", "_law_levels_here", "_law_e"] ["_law_rows_here"] (defScope s_counted) := ⟨rfl, rfl, rfl, by decide +kernel, rfl, by decide +kernel, by decide +kernel⟩
theorem b_counted (T : Txt K mg) : Binds K T.d_counted ["_law_rows_here"] [] := T.F_counted.bindsN fun _ _ _ _ _ _ us hl => match us, hl with | [_], _ => rfl
theorem kv_counted_0 : VKn (defScope s_counted) "_law_rows_here" := ⟨by first | exact Or.inl (by decide +kernel) | exact Or.inr (Or.inl (by decide +kernel)) | exact Or.inr (Or.inr (by decide +kernel)), by decide, by decide⟩
theorem kv_counted_2 : VKn (defScope s_counted) "_law_deeds" := ⟨by first | exact Or.inl (by decide +kernel) | exact Or.inr (Or.inl (by decide +kernel)) | exact Or.inr (Or.inr (by decide +kernel)), by decide, by decide⟩
theorem kv_counted_3 : VKn (defScope s_counted) "_law_row_here" := ⟨by first | exact Or.inl (by decide +kernel) | exact Or.inr (Or.inl (by decide +kernel)) | exact Or.inr (Or.inr (by decide +kernel)), by decide, by decide⟩
theorem kv_counted_4 : VKn (defScope s_counted) "_law_levels_here" := ⟨by first | exact Or.inl (by decide +kernel) | exact Or.inr (Or.inl (by decide +kernel)) | exact Or.inr (Or.inr (by decide +kernel)), by decide, by decide⟩
theorem kv_counted_5 : VKn (defScope s_counted) "_law_e" := ⟨by first | exact Or.inl (by decide +kernel) | exact Or.inr (Or.inl (by decide +kernel)) | exact Or.inr (Or.inr (by decide +kernel)), by decide, by decide⟩
theorem gl_counted_levels : (defScope s_counted).names.lookup ("_law_levels" : Str) = some NameKind.globalImplicit := by decide +kernel
theorem ok_counted (T : Txt K mg) : FnOk P w K mg base CX0 3 (He.fAd K ("_law_counted", none)) T.d_counted ["_law_rows_here"] (Pr K fun (a_ : (List (T7 (Tp Str) (Tp (T2 Str Int)) (Tp (T2 Str Int)) Str (Tp (T2 Str Int)) UShape (Tp Int))) × Unit) => m_counted a_.1) := by
  refine fn_ok T.F_counted sc_counted rfl fun cdv A outer s_ F0 H0 vs a_ r D_ E_ hr sm_ ra_ hm kr kn => ?_
  obtain ⟨v_rows_here, _, rfl, r_rows_here, rfl⟩ := ra_
  obtain ⟨x_rows_here, _u⟩ := a_
  have G : GrX K F0 H0 F0 H0 := .refl sm_
  replace hm : m_counted x_rows_here = some r := hm
  unfold m_counted at hm
  have r_rows_here : rp (α := (List (T7 (Tp Str) (Tp (T2 Str Int)) (Tp (T2 Str Int)) Str (Tp (T2 Str Int)) UShape (Tp Int)))) K F0 v_rows_here x_rows_here := r_rows_here
  change GoS _ _ _ [some v_rows_here, none, none, none, none, none] _
  obtain ⟨x_loops, he, hm⟩ := Option.bind_eq_some_iff.mp hm
  refine go_setNA ((Dct (Tp Int) Int)) 1 G.sm en_dict (fun l_loops vs_ F H g nl_ fl_ hl_ rs_ => ?_) sc_counted.nd
  have n0_ := G.hh.free nl_
  have G := G.trans g
  have r_rows_here := Rp.mono g.ff r_rows_here
  have o_loops : Own K _ F H l_loops _ := Own.cg (Option.some.inj he) ⟨n0_, fl_, vs_, hl_, rs_⟩
  change GoS _ _ _ [some v_rows_here, some (.ref l_loops), none, none, none, none] _
  obtain ⟨x_deeds, he, hm⟩ := Option.bind_eq_some_iff.mp hm
  refine go_setA (Int) 2 G.sm ev_int (fun v_deeds F H g rn_ => ?_) sc_counted.nd
  have G := G.trans g
  have r_rows_here := Rp.mono g.ff r_rows_here
  have o_loops := o_loops.up g
  have r_deeds := cg (Option.some.inj he) rn_
  change GoS _ _ _ [some v_rows_here, some (.ref l_loops), some v_deeds, none, none, none] _
  obtain ⟨b15, ho_, hm⟩ := Option.bind_eq_some_iff.mp hm
  refine go_forN G.sm (ei_list (ev_varK 0 rfl r_rows_here kv_counted_0)) (pg_name (i := 3) sc_counted.nd rfl (by first | exact Or.inl rfl | exact Or.inr rfl)) ho_ (fun F H g => ?_) PassesOwn.never
  have G := G.trans g
  have o_loops := o_loops.up g
  have r_deeds := Rp.mono g.ff r_deeds
  refine ⟨fun (b1 : (Int × (Dct (Tp Int) Int))) σ_ F_ H_ => ∃ (u_levels_here : Option V) (u_e : Option V) (u_row_here : Option V) (v_deeds : V), σ_ = [some v_rows_here, some (.ref l_loops), some v_deeds, u_row_here, u_levels_here, u_e] ∧ GrX K F0 H0 F_ H_ ∧ rp (α := Int) K F_ v_deeds b1.1 ∧ Own K H0 F_ H_ l_loops b1.2, ⟨_, _, _, _, rfl, G, r_deeds, o_loops⟩, ?_, ?_⟩
  ·
    intro b1 x_row_here o_ hm σ_ F H v_row_here s1_ s2_ iv_ F H g r_row_here Q_ hQ_
    obtain ⟨u_levels_here, u_e, u_row_here, v_deeds, rfl, G, r_deeds, o_loops⟩ := iv_
    have sb4 := g.ff
    have G := G.trans g
    have o_loops := o_loops.up g
    have r_deeds := Rp.mono g.ff r_deeds
    refine hQ_ _ _ ?_
    change GoS _ _ _ [some v_rows_here, some (.ref l_loops), some v_deeds, some v_row_here, u_levels_here, u_e] _
    obtain ⟨t5, h_t5, hm⟩ := Option.bind_eq_some_iff.mp hm
    obtain ⟨x_levels_here, he, hm⟩ := Option.bind_eq_some_iff.mp hm
    refine go_setA ((List (List (Tp Int)))) 4 G.sm (ev_call (ok_levels T) (hr.mono (by omega)) T.g_levels T.F_levels.kp (b_levels T) (ea_cons (ev_varK 3 rfl r_row_here kv_counted_3) ea_nil) h_t5 gl_counted_levels) (fun v_levels_here F H g rn_ => ?_) sc_counted.nd
    have G := G.trans g
    have o_loops := o_loops.up g
    have r_deeds := Rp.mono g.ff r_deeds
    have r_row_here := Rp.mono g.ff r_row_here
    have sb4 := sb4.trans g.ff
    have r_levels_here := cg (Option.some.inj he) rn_
    change GoS _ _ _ [some v_rows_here, some (.ref l_loops), some v_deeds, some v_row_here, some v_levels_here, u_e] _
    obtain ⟨t6, h_t6, hm⟩ := Option.bind_eq_some_iff.mp hm
    obtain ⟨x_deeds, he, hm⟩ := Option.bind_eq_some_iff.mp hm
    refine go_setA (Int) 2 G.sm (ev_add (ev_varK 2 rfl r_deeds kv_counted_2) (ev_callB call_len_seq oc_lenL T.n_len PySem.boot_len (ea_cons (ev_ixL (ev_varK 4 rfl r_levels_here kv_counted_4) (ev_neg ev_int) h_t6) ea_nil))) (fun v_deeds F H g rn_ => ?_) sc_counted.nd
    have G := G.trans g
    have o_loops := o_loops.up g
    have r_row_here := Rp.mono g.ff r_row_here
    have r_levels_here := Rp.mono g.ff r_levels_here
    have sb4 := sb4.trans g.ff
    have r_deeds := cg (Option.some.inj he) rn_
    obtain ⟨t7, h_t7, hm⟩ := Option.bind_eq_some_iff.mp hm
    obtain ⟨b14, ho_, hm⟩ := Option.bind_eq_some_iff.mp hm
    refine go_forN G.sm (ei_range1 (ev_callB call_len_seq oc_lenTp T.n_len PySem.boot_len (ea_cons (ev_ixT (ev_varK 3 rfl r_row_here kv_counted_3) ev_int pj0) ea_nil)) h_t7 T.n_range) (pg_name (i := 5) sc_counted.nd rfl (by first | exact Or.inl rfl | exact Or.inr rfl)) ho_ (fun F H g => ?_) PassesOwn.never
    have G := G.trans g
    have o_loops := o_loops.up g
    have r_deeds := Rp.mono g.ff r_deeds
    have r_row_here := Rp.mono g.ff r_row_here
    have r_levels_here := Rp.mono g.ff r_levels_here
    have sb4 := sb4.trans g.ff
    refine ⟨fun (b8 : (Dct (Tp Int) Int)) σ_ F_ H_ => ∃ (u_e : Option V), σ_ = [some v_rows_here, some (.ref l_loops), some v_deeds, some v_row_here, some v_levels_here, u_e] ∧ GrX K F0 H0 F_ H_ ∧ Own K H0 F_ H_ l_loops b8, ⟨_, rfl, G, o_loops⟩, ?_, ?_⟩
    ·
      intro b8 x_e o_ hm σ_ F H v_e s1_ s2_ iv_ F H g r_e Q_ hQ_
      obtain ⟨u_e, rfl, G, o_loops⟩ := iv_
      have sb11 := g.ff
      have r_row_here := Rp.mono s1_ r_row_here
      have r_levels_here := Rp.mono s1_ r_levels_here
      have G := G.trans g
      have o_loops := o_loops.up g
      have r_row_here := Rp.mono g.ff r_row_here
      have r_levels_here := Rp.mono g.ff r_levels_here
      refine hQ_ _ _ ?_
      change GoS _ _ _ [some v_rows_here, some (.ref l_loops), some v_deeds, some v_row_here, some v_levels_here, some v_e] _
      obtain ⟨t12, h_t12, hm⟩ := Option.bind_eq_some_iff.mp hm
      obtain ⟨t13, he, hm⟩ := Option.bind_eq_some_iff.mp hm
      refine go_dput 1 G.sm (room1 hr) o_loops rfl (ev_callB call_len_seq oc_lenL T.n_len PySem.boot_len (ea_cons (ev_ixL (ev_varK 4 rfl r_levels_here kv_counted_4) (ev_add (ev_varK 5 rfl r_e kv_counted_5) ev_int) h_t12) ea_nil)) (ev_sliceT (ev_ixT (ev_varK 3 rfl r_row_here kv_counted_3) ev_int pj6) eo_none (eo_some (ev_add (ev_varK 5 rfl r_e kv_counted_5) ev_int))) he (fun w_ F H g nz_ fz_ on_ => ?_)
      have G := G.trans g
      have r_row_here := Rp.mono g.ff r_row_here
      have r_levels_here := Rp.mono g.ff r_levels_here
      have r_e := Rp.mono g.ff r_e
      have sb11 := sb11.trans g.ff
      have G := G.poke (u := w_) on_.n fz_ nz_ on_.pl
      have o_loops := on_
      have hm := Option.some.inj hm
      subst hm
      exact GoS.nil ⟨_, sb11, G.fh, ⟨_, rfl, G, o_loops⟩⟩
    · intro σ_ F H s1_ s2_ iv_
      obtain ⟨u_e, rfl, G, o_loops⟩ := iv_
      have sb4 := sb4.trans s1_
      have r_deeds := Rp.mono s1_ r_deeds
      have hm := Option.some.inj hm
      subst hm
      exact GoS.nil ⟨_, sb4, G.fh, ⟨_, _, _, _, rfl, G, r_deeds, o_loops⟩⟩
  · intro σ_ F H s1_ s2_ iv_
    obtain ⟨u_levels_here, u_e, u_row_here, v_deeds, rfl, G, r_deeds, o_loops⟩ := iv_
    change GoS _ _ _ [some v_rows_here, some (.ref l_loops), some v_deeds, u_row_here, u_levels_here, u_e] _
    exact go_ret G.sm (ev_thaw o_loops G.fh (fun F H s_ s2_ rf_ k_ => by
            have r_deeds := Rp.mono s_ r_deeds
            have rf_loops := rf_
            exact (ev_tup2 (ea_cons (ev_callB (cr_sum rfl) oc_sum T.n_sum (by decide +kernel) (ea_cons (EvN.evA ((List Int)) (en_listValsT T.n_list (ev_var 1 rfl rf_loops))) ea_nil)) (ea_cons (ev_varK 2 rfl r_deeds kv_counted_2) ea_nil))))) fun v_ F_ H_ g_ rv_ => kr _ _ _ (G.trans g_) (cg (Option.some.inj hm) rv_)
theorem sc_told : FnScope ["_law_program", "_law_bound", "_law_many_here"] ["_law_program", "_law_bound", "_law_many_here"] (defScope s_told) := ⟨rfl, rfl, rfl, by decide +kernel, rfl, by decide +kernel, by decide +kernel⟩
theorem b_told (T : Txt K mg) : Binds K T.d_told ["_law_program", "_law_bound", "_law_many_here"] [] := T.F_told.bindsN fun _ _ _ _ _ _ us hl => match us, hl with | [_, _, _], _ => rfl
theorem kv_told_0 : VKn (defScope s_told) "_law_program" := ⟨by first | exact Or.inl (by decide +kernel) | exact Or.inr (Or.inl (by decide +kernel)) | exact Or.inr (Or.inr (by decide +kernel)), by decide, by decide⟩
theorem kv_told_1 : VKn (defScope s_told) "_law_bound" := ⟨by first | exact Or.inl (by decide +kernel) | exact Or.inr (Or.inl (by decide +kernel)) | exact Or.inr (Or.inr (by decide +kernel)), by decide, by decide⟩
theorem kv_told_2 : VKn (defScope s_told) "_law_many_here" := ⟨by first | exact Or.inl (by decide +kernel) | exact Or.inr (Or.inl (by decide +kernel)) | exact Or.inr (Or.inr (by decide +kernel)), by decide, by decide⟩
theorem gl_told_turns : (defScope s_told).names.lookup ("turns" : Str) = some NameKind.globalImplicit := by decide +kernel
theorem ok_told (T : Txt K mg) : FnOk P w K mg base CX0 11 (He.fAd K ("_law_told", none)) T.d_told ["_law_program", "_law_bound", "_law_many_here"] (Pr K fun (a_ : QProgram × Int × Int × Unit) => m_told a_.1 a_.2.1 a_.2.2.1) := by
  refine fn_ok T.F_told sc_told rfl fun cdv A outer s_ F0 H0 vs a_ r D_ E_ hr sm_ ra_ hm kr kn => ?_
  obtain ⟨v_program, _, rfl, r_program, v_bound, _, rfl, r_bound, v_many_here, _, rfl, r_many_here, rfl⟩ := ra_
  obtain ⟨x_program, x_bound, x_many_here, _u⟩ := a_
  have G : GrX K F0 H0 F0 H0 := .refl sm_
  replace hm : m_told x_program x_bound x_many_here = some r := hm
  unfold m_told at hm
  have r_program : rp (α := QProgram) K F0 v_program x_program := r_program
  have r_bound : rp (α := Int) K F0 v_bound x_bound := r_bound
  have r_many_here : rp (α := Int) K F0 v_many_here x_many_here := r_many_here
  change GoS _ _ _ [some v_program, some v_bound, some v_many_here] _
  refine go_try (c := .ref (He.ga K "TooMany")) ⟨rfl, by decide, Or.inl T.g_TooMany⟩ (fun pn_ xe_ W_ tk_ po_ hw_ => ?_)
  obtain ⟨t1, h_t1, hm⟩ := Option.bind_eq_some_iff.mp hm
  cases t1 with
  | v t2 =>
    exact go_ret G.sm (ev_cmp op_eq o2_eq (ev_callB call_len_seq oc_lenL T.n_len PySem.boot_len (ea_cons (EvX.ok (ex_call tk_ (ok_turns T) (hr.mono (by omega)) T.g_turns T.F_turns.kp (b_turns T) (ea_cons (ev_varK 0 rfl r_program kv_told_0) (ea_cons (ev_varK 1 rfl r_bound kv_told_1) ea_nil)) h_t1 gl_told_turns)) ea_nil)) (ev_varK 2 rfl r_many_here kv_told_2) (nomark _)) fun v_ F_ H_ g_ rv_ => kr _ _ _ (G.trans g_) (cg (Option.some.inj hm) rv_)
  | x e3 =>
    cases e3 with
    | TooMany =>
      refine go_retZ G.sm (rz_cmp op_eq (rz_len T.n_len (EvX.rz (ex_call tk_ (ok_turns T) (hr.mono (by omega)) T.g_turns T.F_turns.kp (b_turns T) (ea_cons (ev_varK 0 rfl r_program kv_told_0) (ea_cons (ev_varK 1 rfl r_bound kv_told_1) ea_nil)) h_t1 gl_told_turns) (fun F H cls_ dd_ g xr_ => hw_ _ _ _ _ ⟨?_, fun a_ ha_ oe_ pn_ z1_ z2_ => ?_⟩))) (nomark _))
      · exact xm_of xr_.1 T.xm_TooMany_TooMany
      ·
        have G := G.trans g
        have r_program := Rp.mono g.ff r_program
        have r_bound := Rp.mono g.ff r_bound
        have r_many_here := Rp.mono g.ff r_many_here
        exact go_ret G.sm ev_bl fun v_ F_ H_ g_ rv_ => kr _ _ _ (G.trans g_) (cg (Option.some.inj hm) rv_)
theorem sc_law : FnScope ["_law_script", "_law_pick", "_law_size_here", "_law_rows_here", "_law_program", "_law_loops", "_law_deeds", "_law_many_here", "_law_bound"] ["_law_script"] (defScope s_law) := ⟨rfl, rfl, rfl, by decide +kernel, rfl, by decide +kernel, by decide +kernel⟩
theorem kv_law_0 : VKn (defScope s_law) "_law_script" := ⟨by first | exact Or.inl (by decide +kernel) | exact Or.inr (Or.inl (by decide +kernel)) | exact Or.inr (Or.inr (by decide +kernel)), by decide, by decide⟩
theorem kv_law_1 : VKn (defScope s_law) "_law_pick" := ⟨by first | exact Or.inl (by decide +kernel) | exact Or.inr (Or.inl (by decide +kernel)) | exact Or.inr (Or.inr (by decide +kernel)), by decide, by decide⟩
theorem kv_law_2 : VKn (defScope s_law) "_law_size_here" := ⟨by first | exact Or.inl (by decide +kernel) | exact Or.inr (Or.inl (by decide +kernel)) | exact Or.inr (Or.inr (by decide +kernel)), by decide, by decide⟩
theorem kv_law_3 : VKn (defScope s_law) "_law_rows_here" := ⟨by first | exact Or.inl (by decide +kernel) | exact Or.inr (Or.inl (by decide +kernel)) | exact Or.inr (Or.inr (by decide +kernel)), by decide, by decide⟩
theorem kv_law_4 : VKn (defScope s_law) "_law_program" := ⟨by first | exact Or.inl (by decide +kernel) | exact Or.inr (Or.inl (by decide +kernel)) | exact Or.inr (Or.inr (by decide +kernel)), by decide, by decide⟩
theorem kv_law_5 : VKn (defScope s_law) "_law_loops" := ⟨by first | exact Or.inl (by decide +kernel) | exact Or.inr (Or.inl (by decide +kernel)) | exact Or.inr (Or.inr (by decide +kernel)), by decide, by decide⟩
theorem kv_law_6 : VKn (defScope s_law) "_law_deeds" := ⟨by first | exact Or.inl (by decide +kernel) | exact Or.inr (Or.inl (by decide +kernel)) | exact Or.inr (Or.inr (by decide +kernel)), by decide, by decide⟩
theorem kv_law_7 : VKn (defScope s_law) "_law_many_here" := ⟨by first | exact Or.inl (by decide +kernel) | exact Or.inr (Or.inl (by decide +kernel)) | exact Or.inr (Or.inr (by decide +kernel)), by decide, by decide⟩
theorem kv_law_8 : VKn (defScope s_law) "_law_bound" := ⟨by first | exact Or.inl (by decide +kernel) | exact Or.inr (Or.inl (by decide +kernel)) | exact Or.inr (Or.inr (by decide +kernel)), by decide, by decide⟩
theorem gl_law_cell : (defScope s_law).names.lookup ("_law_cell" : Str) = some NameKind.globalImplicit := by decide +kernel
theorem gl_law_counted : (defScope s_law).names.lookup ("_law_counted" : Str) = some NameKind.globalImplicit := by decide +kernel
theorem gl_law_far : (defScope s_law).names.lookup ("_law_far" : Str) = some NameKind.globalImplicit := by decide +kernel
theorem gl_law_made : (defScope s_law).names.lookup ("_law_made" : Str) = some NameKind.globalImplicit := by decide +kernel
theorem gl_law_many : (defScope s_law).names.lookup ("_law_many" : Str) = some NameKind.globalImplicit := by decide +kernel
theorem gl_law_mixed : (defScope s_law).names.lookup ("_law_mixed" : Str) = some NameKind.globalImplicit := by decide +kernel
theorem gl_law_refused : (defScope s_law).names.lookup ("_law_refused" : Str) = some NameKind.globalImplicit := by decide +kernel
theorem gl_law_rows : (defScope s_law).names.lookup ("_law_rows" : Str) = some NameKind.globalImplicit := by decide +kernel
theorem gl_law_size : (defScope s_law).names.lookup ("_law_size" : Str) = some NameKind.globalImplicit := by decide +kernel
theorem gl_law_told : (defScope s_law).names.lookup ("_law_told" : Str) = some NameKind.globalImplicit := by decide +kernel
theorem ok_law (T : Txt K mg) : FnOk P w K mg base CX0 35 (He.fAd K ("law", none)) T.d_law ["_law_script"] (Pr K fun (a_ : (List Int) × Unit) => m_law a_.1) := by
  refine fn_ok T.F_law sc_law rfl fun cdv A outer s_ F0 H0 vs a_ r D_ E_ hr sm_ ra_ hm kr kn => ?_
  obtain ⟨v_script, _, rfl, r_script, rfl⟩ := ra_
  obtain ⟨x_script, _u⟩ := a_
  have G : GrX K F0 H0 F0 H0 := .refl sm_
  replace hm : m_law x_script = some r := hm
  unfold m_law at hm
  have r_script : rp (α := (List Int)) K F0 v_script x_script := r_script
  change GoS _ _ _ [some v_script, none, none, none, none, none, none, none, none] _
  obtain ⟨t1, h_t1, hm⟩ := Option.bind_eq_some_iff.mp hm
  obtain ⟨t2, h_t2, hm⟩ := Option.bind_eq_some_iff.mp hm
  obtain ⟨x_pick, he, hm⟩ := Option.bind_eq_some_iff.mp hm
  refine go_setA (Int) 1 G.sm (ev_call (ok_mixed T) (hr.mono (by omega)) T.g_mixed T.F_mixed.kp (b_mixed T) (ea_cons (ev_call (ok_cell T) (hr.mono (by omega)) T.g_cell T.F_cell.kp (b_cell T) (ea_cons (ev_varK 0 rfl r_script kv_law_0) (ea_cons ev_int ea_nil)) h_t1 gl_law_cell) (ea_cons ev_int ea_nil)) h_t2 gl_law_mixed) (fun v_pick F H g rn_ => ?_) sc_law.nd
  have G := G.trans g
  have r_script := Rp.mono g.ff r_script
  have r_pick := cg (Option.some.inj he) rn_
  change GoS _ _ _ [some v_script, some v_pick, none, none, none, none, none, none, none] _
  obtain ⟨t3, h_t3, hm⟩ := Option.bind_eq_some_iff.mp hm
  obtain ⟨x_size_here, he, hm⟩ := Option.bind_eq_some_iff.mp hm
  refine go_setA (Int) 2 G.sm (ev_call (ok_size T) (hr.mono (by omega)) T.g_size T.F_size.kp (b_size T) (ea_cons (ev_varK 0 rfl r_script kv_law_0) ea_nil) h_t3 gl_law_size) (fun v_size_here F H g rn_ => ?_) sc_law.nd
  have G := G.trans g
  have r_script := Rp.mono g.ff r_script
  have r_pick := Rp.mono g.ff r_pick
  have r_size_here := cg (Option.some.inj he) rn_
  change GoS _ _ _ [some v_script, some v_pick, some v_size_here, none, none, none, none, none, none] _
  refine go_ifA ((decide ((x_pick % (4 : Int)) = (1 : Int)))) G.sm (et_cmp op_eq o2_eq (ev_mod (ev_varK 1 rfl r_pick kv_law_1) ev_int (by decide)) ev_int (nomark _)) (fun hc F H g => ?_) (fun hc F H g => ?_)
  · replace hm := ipos hc hm
    have G := G.trans g
    have r_script := Rp.mono g.ff r_script
    have r_pick := Rp.mono g.ff r_pick
    have r_size_here := Rp.mono g.ff r_size_here
    obtain ⟨t4, h_t4, hm⟩ := Option.bind_eq_some_iff.mp hm
    obtain ⟨t5, h_t5, hm⟩ := Option.bind_eq_some_iff.mp hm
    obtain ⟨t6, h_t6, hm⟩ := Option.bind_eq_some_iff.mp hm
    exact go_ret G.sm (ev_call (ok_refused T) (hr.mono (by omega)) T.g_refused T.F_refused.kp (b_refused T) (ea_cons (EvRN.ev (α := Int) (γ := QDeed) (β := QProgram) (z := (QProgram.mk t5.a t5.b)) (ern_call (cn := "Program") (n1 := "size") (n2 := "deeds") (ok_made T) (hr.mono (by omega)) T.g_made T.F_made.kp (b_made T) (ea_cons (ev_varK 2 rfl r_size_here kv_law_2) (ea_cons (EvN.evA ((List (T7 (Tp Str) (Tp (T2 Str Int)) (Tp (T2 Str Int)) Str (Tp (T2 Str Int)) UShape (Tp Int)))) (en_list (el_cons (ev_call (ok_far T) (hr.mono (by omega)) T.g_far T.F_far.kp (b_far T) (ea_cons (ev_varK 0 rfl r_script kv_law_0) ea_nil) h_t4 gl_law_far) el_nil) (by show 1 ≤ sizeLine; decide))) ea_nil)) h_t5 gl_law_made) (fun _ _ h_ => h_)) (ea_cons (ev_mod (ev_div (ev_varK 1 rfl r_pick kv_law_1) ev_int ⟨by decide, by decide⟩) ev_int (by decide)) ea_nil)) h_t6 gl_law_refused) fun v_ F_ H_ g_ rv_ => kr _ _ _ (G.trans g_) (cg (Option.some.inj hm) rv_)
  · replace hm := ineg (nt hc) hm
    have G := G.trans g
    have r_script := Rp.mono g.ff r_script
    have r_pick := Rp.mono g.ff r_pick
    have r_size_here := Rp.mono g.ff r_size_here
    refine GoS.nil ?_
    obtain ⟨t7, h_t7, hm⟩ := Option.bind_eq_some_iff.mp hm
    obtain ⟨t8, h_t8, hm⟩ := Option.bind_eq_some_iff.mp hm
    obtain ⟨x_rows_here, he, hm⟩ := Option.bind_eq_some_iff.mp hm
    refine go_setA ((List (T7 (Tp Str) (Tp (T2 Str Int)) (Tp (T2 Str Int)) Str (Tp (T2 Str Int)) UShape (Tp Int)))) 3 G.sm (ev_call (ok_rows T) (hr.mono (by omega)) T.g_rows T.F_rows.kp (b_rows T) (ea_cons (ev_varK 0 rfl r_script kv_law_0) (ea_cons (ev_call (ok_many T) (hr.mono (by omega)) T.g_many T.F_many.kp (b_many T) (ea_cons (ev_varK 0 rfl r_script kv_law_0) ea_nil) h_t7 gl_law_many) ea_nil)) h_t8 gl_law_rows) (fun v_rows_here F H g rn_ => ?_) sc_law.nd
    have G := G.trans g
    have r_script := Rp.mono g.ff r_script
    have r_pick := Rp.mono g.ff r_pick
    have r_size_here := Rp.mono g.ff r_size_here
    have r_rows_here := cg (Option.some.inj he) rn_
    change GoS _ _ _ [some v_script, some v_pick, some v_size_here, some v_rows_here, none, none, none, none, none] _
    obtain ⟨t9, h_t9, hm⟩ := Option.bind_eq_some_iff.mp hm
    refine go_setRN (cn := "Program") (n1 := "size") (n2 := "deeds") (α := Int) (γ := QDeed) 4 G.sm (ern_call (cn := "Program") (n1 := "size") (n2 := "deeds") (ok_made T) (hr.mono (by omega)) T.g_made T.F_made.kp (b_made T) (ea_cons (ev_varK 2 rfl r_size_here kv_law_2) (ea_cons (ev_varK 3 rfl r_rows_here kv_law_3) ea_nil)) h_t9 gl_law_made) (fun v_program l_program ob_ F H g nl_ fl_ hl_ rb_ p_program => ?_) sc_law.nd
    have n0_ := G.hh.free nl_
    have G := G.trans g
    have r_pick := Rp.mono g.ff r_pick
    have r_size_here := Rp.mono g.ff r_size_here
    have r_rows_here := Rp.mono g.ff r_rows_here
    have o_program : Own K _ F H l_program _ := ⟨n0_, fl_, ob_, hl_, rb_⟩
    refine o_program.freeze G (fun F H s_ s2_ G r_program k_ => ?_)
    have r_program : rp (α := QProgram) K F v_program (QProgram.mk t9.a t9.b) := (p_program.mono s_).rp r_program
    have r_pick := Rp.mono s_ r_pick
    have r_size_here := Rp.mono s_ r_size_here
    have r_rows_here := Rp.mono s_ r_rows_here
    change GoS _ _ _ [some v_script, some v_pick, some v_size_here, some v_rows_here, some v_program, none, none, none, none] _
    obtain ⟨t10, h_t10, hm⟩ := Option.bind_eq_some_iff.mp hm
    obtain ⟨i11, he, hm⟩ := Option.bind_eq_some_iff.mp hm
    refine go_unpack G.sm (ev_call (ok_counted T) (hr.mono (by omega)) T.g_counted T.F_counted.kp (b_counted T) (ea_cons (ev_varK 3 rfl r_rows_here kv_law_3) ea_nil) h_t10 gl_law_counted) (pg_tup rfl (pgs_cons (pg_name (i := 5) sc_law.nd rfl (by first | exact Or.inl rfl | exact Or.inr rfl)) (pgs_cons (pg_name (i := 6) sc_law.nd rfl (by first | exact Or.inl rfl | exact Or.inr rfl)) pgs_nil))) (fun w_ F H g ri_ Q_ hQ_ => ?_)
    have ri_ := cg (Option.some.inj he) ri_
    have G := G.trans g
    have r_pick := Rp.mono g.ff r_pick
    have r_rows_here := Rp.mono g.ff r_rows_here
    have r_program := Rp.mono g.ff r_program
    obtain ⟨pa12, _, rfl, sq13, v_loops, _, rfl, r_loops, v_deeds, _, rfl, r_deeds, rfl⟩ := ri_
    refine ⟨pa12, _, rfl, seqT_mono G.fh sq13, rfl, _, _, rfl, _, _, rfl, rfl, hQ_ _ _ ?_⟩
    change GoS _ _ _ [some v_script, some v_pick, some v_size_here, some v_rows_here, some v_program, some v_loops, some v_deeds, none, none] _
    obtain ⟨x_many_here, he, hm⟩ := Option.bind_eq_some_iff.mp hm
    refine go_setA (Int) 7 G.sm (ev_add (ev_varK 5 rfl r_loops kv_law_5) (ev_varK 6 rfl r_deeds kv_law_6)) (fun v_many_here F H g rn_ => ?_) sc_law.nd
    have G := G.trans g
    have r_pick := Rp.mono g.ff r_pick
    have r_program := Rp.mono g.ff r_program
    have r_loops := Rp.mono g.ff r_loops
    have r_deeds := Rp.mono g.ff r_deeds
    have r_many_here := cg (Option.some.inj he) rn_
    change GoS _ _ _ [some v_script, some v_pick, some v_size_here, some v_rows_here, some v_program, some v_loops, some v_deeds, some v_many_here, none] _
    obtain ⟨t14, h_t14, hm⟩ := Option.bind_eq_some_iff.mp hm
    obtain ⟨x_bound, he, hm⟩ := Option.bind_eq_some_iff.mp hm
    refine go_setA (Int) 8 G.sm (ev_callB (call_max2 rfl) oc_max2 T.n_max (by decide +kernel) (ea_cons ev_int (ea_cons (ev_ixL (EvN.evA ((List Int)) (en_list (el_cons (ev_varK 7 rfl r_many_here kv_law_7) (el_cons (ev_sub (ev_varK 7 rfl r_many_here kv_law_7) ev_int) (el_cons (ev_add (ev_varK 7 rfl r_many_here kv_law_7) ev_int) (el_cons (ev_sub (ev_varK 7 rfl r_many_here kv_law_7) ev_int) (el_cons (ev_add (ev_varK 7 rfl r_many_here kv_law_7) ev_int) (el_int (el_cons (ev_mod (ev_div (ev_varK 1 rfl r_pick kv_law_1) ev_int ⟨by decide, by decide⟩) ev_int (by decide)) el_nil))))))) (by show 7 ≤ sizeLine; decide))) (ev_mod (ev_div (ev_varK 1 rfl r_pick kv_law_1) ev_int ⟨by decide, by decide⟩) ev_int (by decide)) h_t14) ea_nil))) (fun v_bound F H g rn_ => ?_) sc_law.nd
    have G := G.trans g
    have r_pick := Rp.mono g.ff r_pick
    have r_program := Rp.mono g.ff r_program
    have r_deeds := Rp.mono g.ff r_deeds
    have r_many_here := Rp.mono g.ff r_many_here
    have r_bound := cg (Option.some.inj he) rn_
    change GoS _ _ _ [some v_script, some v_pick, some v_size_here, some v_rows_here, some v_program, some v_loops, some v_deeds, some v_many_here, some v_bound] _
    obtain ⟨t16, h_t16, hm⟩ := Option.bind_eq_some_iff.mp hm
    obtain ⟨t19, h_t19, hm⟩ := Option.bind_eq_some_iff.mp hm
    refine go_ifA (t19) G.sm (EvW.t (ew_orA (t16) (EvW.t (ew_andA ((decide (x_bound < x_many_here))) (et_cmp op_gt o2_gt (ev_varK 7 rfl r_many_here kv_law_7) (ev_varK 8 rfl r_bound kv_law_8) (nomark _)) (fun hc => by
            replace h_t16 := ipos hc h_t16
            obtain ⟨t15, h_t15, h_t16⟩ := Option.bind_eq_some_iff.mp h_t16
            exact EvW.cg (Option.some.inj h_t16) (ew_and1 (et_not (et_val (ev_call (ok_refused T) (hr.mono (by omega)) T.g_refused T.F_refused.kp (b_refused T) (ea_cons (ev_varK 4 rfl r_program kv_law_4) (ea_cons (ev_varK 8 rfl r_bound kv_law_8) ea_nil)) h_t15 gl_law_refused))))) (fun hc => by replace h_t16 := ineg (nt hc) h_t16; exact (Option.some.inj h_t16).symm))) (fun hc => by
            replace h_t19 := ineg (nt hc) h_t19
            obtain ⟨t18, h_t18, h_t19⟩ := Option.bind_eq_some_iff.mp h_t19
            exact EvW.cg (Option.some.inj h_t19) (ew_or1 (EvW.t (ew_andA ((decide (x_many_here ≤ x_bound))) (et_cmp op_le o2_le (ev_varK 7 rfl r_many_here kv_law_7) (ev_varK 8 rfl r_bound kv_law_8) (nomark _)) (fun hc => by
            replace h_t18 := ipos hc h_t18
            obtain ⟨t17, h_t17, h_t18⟩ := Option.bind_eq_some_iff.mp h_t18
            exact EvW.cg (Option.some.inj h_t18) (ew_and1 (et_not (et_val (ev_call (ok_told T) (hr.mono (by omega)) T.g_told T.F_told.kp (b_told T) (ea_cons (ev_varK 4 rfl r_program kv_law_4) (ea_cons (ev_varK 8 rfl r_bound kv_law_8) (ea_cons (ev_varK 6 rfl r_deeds kv_law_6) ea_nil))) h_t17 gl_law_told))))) (fun hc => by replace h_t18 := ineg (nt hc) h_t18; exact (Option.some.inj h_t18).symm))))) (fun hc => by replace h_t19 := ipos hc h_t19; exact (Option.some.inj h_t19).symm))) (fun hc F H g => ?_) (fun hc F H g => ?_)
    · replace hm := ipos hc hm
      have G := G.trans g
      have r_program := Rp.mono g.ff r_program
      have r_deeds := Rp.mono g.ff r_deeds
      have r_many_here := Rp.mono g.ff r_many_here
      have r_bound := Rp.mono g.ff r_bound
      exact go_ret G.sm ev_bl fun v_ F_ H_ g_ rv_ => kr _ _ _ (G.trans g_) (cg (Option.some.inj hm) rv_)
    · replace hm := ineg (nt hc) hm
      have G := G.trans g
      have r_program := Rp.mono g.ff r_program
      have r_deeds := Rp.mono g.ff r_deeds
      have r_many_here := Rp.mono g.ff r_many_here
      have r_bound := Rp.mono g.ff r_bound
      refine GoS.nil ?_
      obtain ⟨t20, h_t20, hm⟩ := Option.bind_eq_some_iff.mp hm
      refine go_ifA ((!t20)) G.sm (et_not (et_val (ev_call (ok_told T) (hr.mono (by omega)) T.g_told T.F_told.kp (b_told T) (ea_cons (ev_varK 4 rfl r_program kv_law_4) (ea_cons (ev_varK 7 rfl r_many_here kv_law_7) (ea_cons (ev_varK 6 rfl r_deeds kv_law_6) ea_nil))) h_t20 gl_law_told))) (fun hc F H g => ?_) (fun hc F H g => ?_)
      · replace hm := ipos hc hm
        have G := G.trans g
        have r_program := Rp.mono g.ff r_program
        have r_deeds := Rp.mono g.ff r_deeds
        have r_many_here := Rp.mono g.ff r_many_here
        exact go_ret G.sm ev_bl fun v_ F_ H_ g_ rv_ => kr _ _ _ (G.trans g_) (cg (Option.some.inj hm) rv_)
      · replace hm := ineg (nt hc) hm
        have G := G.trans g
        have r_program := Rp.mono g.ff r_program
        have r_deeds := Rp.mono g.ff r_deeds
        have r_many_here := Rp.mono g.ff r_many_here
        refine GoS.nil ?_
        obtain ⟨t24, h_t24, hm⟩ := Option.bind_eq_some_iff.mp hm
        exact go_ret G.sm (ev_or (x := (decide (x_many_here = (0 : Int)))) (ev_cmp op_eq o2_eq (ev_varK 7 rfl r_many_here kv_law_7) ev_int (nomark _)) (fun hc => by
                replace h_t24 := ineg (nt hc) h_t24
                obtain ⟨t21, h_t21, h_t24⟩ := Option.bind_eq_some_iff.mp h_t24
                obtain ⟨t23, h_t23, h_t24⟩ := Option.bind_eq_some_iff.mp h_t24
                exact Ev.cg (Option.some.inj h_t24) (ev_one (ev_andA (t21) (ev_call (ok_refused T) (hr.mono (by omega)) T.g_refused T.F_refused.kp (b_refused T) (ea_cons (ev_varK 4 rfl r_program kv_law_4) (ea_cons (ev_sub (ev_varK 7 rfl r_many_here kv_law_7) ev_int) ea_nil)) h_t21 gl_law_refused) (fun hc => by
                replace h_t23 := ipos hc h_t23
                obtain ⟨t22, h_t22, h_t23⟩ := Option.bind_eq_some_iff.mp h_t23
                exact Ev.cg (Option.some.inj h_t23) (ev_one (ev_call (ok_told T) (hr.mono (by omega)) T.g_told T.F_told.kp (b_told T) (ea_cons (ev_varK 4 rfl r_program kv_law_4) (ea_cons (ev_varK 7 rfl r_many_here kv_law_7) (ea_cons (ev_varK 6 rfl r_deeds kv_law_6) ea_nil))) h_t22 gl_law_told))) (fun hc => by replace h_t23 := ineg (nt hc) h_t23; exact (Option.some.inj h_t23).symm)))) (fun hc => by replace h_t24 := ipos hc h_t24; exact (Option.some.inj h_t24).symm)) fun v_ F_ H_ g_ rv_ => kr _ _ _ (G.trans g_) (cg (Option.some.inj hm) rv_)
end
open Run
theorem facts {K : PySem.W.Frag} {h : Heap} {mg : Str → Option Value} (X : K.In h) (G : h.Ns mainGlobals mg) (c : He.SaysD fa fn K) (cx : ex K = true) : ∃ T : Txt K mg, ∀ (s : Shared) (v : Value), BindsTo s T.d_law ⟨[v], []⟩ [("_law_script", v)] := by
  obtain ⟨d_cell, F_cell⟩ := c.def_ 0 (d := D_cell) rfl
  obtain ⟨d_mixed, F_mixed⟩ := c.def_ 1 (d := D_mixed) rfl
  obtain ⟨d_size, F_size⟩ := c.def_ 2 (d := D_size) rfl
  obtain ⟨d_name, F_name⟩ := c.def_ 3 (d := D_name) rfl
  obtain ⟨d_far, F_far⟩ := c.def_ 4 (d := D_far) rfl
  obtain ⟨d_Number_init, F_Number_init⟩ := c.def_ 5 (d := D_Number_init) rfl
  obtain ⟨d_Value_init, F_Value_init⟩ := c.def_ 6 (d := D_Value_init) rfl
  obtain ⟨d_Cell_init, F_Cell_init⟩ := c.def_ 7 (d := D_Cell_init) rfl
  obtain ⟨d_Joined_init, F_Joined_init⟩ := c.def_ 8 (d := D_Joined_init) rfl
  obtain ⟨d_object, F_object⟩ := c.def_ 9 (d := D_object) rfl
  obtain ⟨d_Deed_init, F_Deed_init⟩ := c.def_ 10 (d := D_Deed_init) rfl
  obtain ⟨d_Program_init, F_Program_init⟩ := c.def_ 11 (d := D_Program_init) rfl
  obtain ⟨d_made, F_made⟩ := c.def_ 12 (d := D_made) rfl
  obtain ⟨d_Walk_init, F_Walk_init⟩ := c.def_ 13 (d := D_Walk_init) rfl
  obtain ⟨d_put_apart, F_put_apart⟩ := c.def_ 14 (d := D_put_apart) rfl
  obtain ⟨d_Walk_spend, F_Walk_spend⟩ := c.def_ 15 (d := D_Walk_spend) rfl
  obtain ⟨d_Walk_note, F_Walk_note⟩ := c.def_ 16 (d := D_Walk_note) rfl
  obtain ⟨d_placed, F_placed⟩ := c.def_ 17 (d := D_placed) rfl
  obtain ⟨d_bounds_of, F_bounds_of⟩ := c.def_ 18 (d := D_bounds_of) rfl
  obtain ⟨d_go, F_go⟩ := c.def_ 19 (d := D_go) rfl
  obtain ⟨d_turns, F_turns⟩ := c.def_ 20 (d := D_turns) rfl
  obtain ⟨d_plain, F_plain⟩ := c.def_ 21 (d := D_plain) rfl
  obtain ⟨d_refused, F_refused⟩ := c.def_ 22 (d := D_refused) rfl
  obtain ⟨d_many, F_many⟩ := c.def_ 23 (d := D_many) rfl
  obtain ⟨d_loop, F_loop⟩ := c.def_ 24 (d := D_loop) rfl
  obtain ⟨d_heads, F_heads⟩ := c.def_ 25 (d := D_heads) rfl
  obtain ⟨d_spots, F_spots⟩ := c.def_ 26 (d := D_spots) rfl
  obtain ⟨d_cell_of, F_cell_of⟩ := c.def_ 27 (d := D_cell_of) rfl
  obtain ⟨d_leaf, F_leaf⟩ := c.def_ 28 (d := D_leaf) rfl
  obtain ⟨d_term, F_term⟩ := c.def_ 29 (d := D_term) rfl
  obtain ⟨d_row, F_row⟩ := c.def_ 30 (d := D_row) rfl
  obtain ⟨d_rows, F_rows⟩ := c.def_ 31 (d := D_rows) rfl
  obtain ⟨d_around, F_around⟩ := c.def_ 32 (d := D_around) rfl
  obtain ⟨d_stand, F_stand⟩ := c.def_ 33 (d := D_stand) rfl
  obtain ⟨d_levels, F_levels⟩ := c.def_ 34 (d := D_levels) rfl
  obtain ⟨d_counted, F_counted⟩ := c.def_ 35 (d := D_counted) rfl
  obtain ⟨d_told, F_told⟩ := c.def_ 36 (d := D_told) rfl
  obtain ⟨d_law, F_law⟩ := c.def_ 37 (d := D_law) rfl
  have b := FunD.bindsA (ps := ["_law_script"]) F_law fun _ _ _ _ _ _ us hl => match us, hl with | [_], _ => rfl
  exact ⟨⟨d_cell, F_cell, He.glo_ok X G (c.fact 0 (f := .glo "_law_cell") rfl),
    d_mixed, F_mixed, He.glo_ok X G (c.fact 1 (f := .glo "_law_mixed") rfl),
    d_size, F_size, He.glo_ok X G (c.fact 2 (f := .glo "_law_size") rfl),
    d_name, F_name, He.glo_ok X G (c.fact 3 (f := .glo "_law_name") rfl),
    d_far, F_far, He.glo_ok X G (c.fact 4 (f := .glo "_law_far") rfl),
    d_Number_init, F_Number_init,
    d_Value_init, F_Value_init,
    d_Cell_init, F_Cell_init,
    d_Joined_init, F_Joined_init,
    d_object, F_object, He.glo_ok X G (c.fact 5 (f := .glo "_law_object") rfl),
    d_Deed_init, F_Deed_init,
    d_Program_init, F_Program_init,
    d_made, F_made, He.glo_ok X G (c.fact 6 (f := .glo "_law_made") rfl),
    d_Walk_init, F_Walk_init,
    d_put_apart, F_put_apart, He.glo_ok X G (c.fact 7 (f := .glo "put_apart") rfl),
    d_Walk_spend, F_Walk_spend, He.meth_ok (c.fact 8 (f := .meth "Walk" "spend") rfl),
    d_Walk_note, F_Walk_note, He.meth_ok (c.fact 9 (f := .meth "Walk" "note") rfl),
    d_placed, F_placed, He.glo_ok X G (c.fact 10 (f := .glo "placed") rfl),
    d_bounds_of, F_bounds_of, He.glo_ok X G (c.fact 11 (f := .glo "bounds_of") rfl),
    d_go, F_go, He.glo_ok X G (c.fact 12 (f := .glo "go") rfl),
    d_turns, F_turns, He.glo_ok X G (c.fact 13 (f := .glo "turns") rfl),
    d_plain, F_plain, He.glo_ok X G (c.fact 14 (f := .glo "_law_plain") rfl),
    d_refused, F_refused, He.glo_ok X G (c.fact 15 (f := .glo "_law_refused") rfl),
    d_many, F_many, He.glo_ok X G (c.fact 16 (f := .glo "_law_many") rfl),
    d_loop, F_loop, He.glo_ok X G (c.fact 17 (f := .glo "_law_loop") rfl),
    d_heads, F_heads, He.glo_ok X G (c.fact 18 (f := .glo "_law_heads") rfl),
    d_spots, F_spots, He.glo_ok X G (c.fact 19 (f := .glo "_law_spots") rfl),
    d_cell_of, F_cell_of, He.glo_ok X G (c.fact 20 (f := .glo "_law_cell_of") rfl),
    d_leaf, F_leaf, He.glo_ok X G (c.fact 21 (f := .glo "_law_leaf") rfl),
    d_term, F_term, He.glo_ok X G (c.fact 22 (f := .glo "_law_term") rfl),
    d_row, F_row, He.glo_ok X G (c.fact 23 (f := .glo "_law_row") rfl),
    d_rows, F_rows, He.glo_ok X G (c.fact 24 (f := .glo "_law_rows") rfl),
    d_around, F_around, He.glo_ok X G (c.fact 25 (f := .glo "_law_around") rfl),
    d_stand, F_stand, He.glo_ok X G (c.fact 26 (f := .glo "_law_stand") rfl),
    d_levels, F_levels, He.glo_ok X G (c.fact 27 (f := .glo "_law_levels") rfl),
    d_counted, F_counted, He.glo_ok X G (c.fact 28 (f := .glo "_law_counted") rfl),
    d_told, F_told, He.glo_ok X G (c.fact 29 (f := .glo "_law_told") rfl),
    d_law, F_law, He.glo_ok X G (c.fact 30 (f := .glo "law") rfl),
    He.glo_ok X G (c.fact 31 (f := .glo "Deed") rfl), He.cls_ok (c.fact 32 (f := .cls "Deed") rfl), He.mkr_ok (c.fact 33 (f := .mkr "Deed") rfl),
    He.noat_ok (c.fact 34 (f := .noat "Deed" "names") rfl),
    He.noat_ok (c.fact 35 (f := .noat "Deed" "lows") rfl),
    He.noat_ok (c.fact 36 (f := .noat "Deed" "highs") rfl),
    He.noat_ok (c.fact 37 (f := .noat "Deed" "table") rfl),
    He.noat_ok (c.fact 38 (f := .noat "Deed" "spots") rfl),
    He.noat_ok (c.fact 39 (f := .noat "Deed" "term") rfl),
    He.noat_ok (c.fact 40 (f := .noat "Deed" "path") rfl),
    He.glo_ok X G (c.fact 41 (f := .glo "Number") rfl), He.cls_ok (c.fact 42 (f := .cls "Number") rfl), He.mkr_ok (c.fact 43 (f := .mkr "Number") rfl),
    He.noat_ok (c.fact 44 (f := .noat "Number" "n") rfl),
    He.glo_ok X G (c.fact 45 (f := .glo "Value") rfl), He.cls_ok (c.fact 46 (f := .cls "Value") rfl), He.mkr_ok (c.fact 47 (f := .mkr "Value") rfl),
    He.noat_ok (c.fact 48 (f := .noat "Value" "name") rfl),
    He.glo_ok X G (c.fact 49 (f := .glo "Cell") rfl), He.cls_ok (c.fact 50 (f := .cls "Cell") rfl), He.mkr_ok (c.fact 51 (f := .mkr "Cell") rfl),
    He.noat_ok (c.fact 52 (f := .noat "Cell" "table") rfl),
    He.noat_ok (c.fact 53 (f := .noat "Cell" "spots") rfl),
    He.glo_ok X G (c.fact 54 (f := .glo "Joined") rfl), He.cls_ok (c.fact 55 (f := .cls "Joined") rfl), He.mkr_ok (c.fact 56 (f := .mkr "Joined") rfl),
    He.noat_ok (c.fact 57 (f := .noat "Joined" "sign") rfl),
    He.noat_ok (c.fact 58 (f := .noat "Joined" "left") rfl),
    He.noat_ok (c.fact 59 (f := .noat "Joined" "right") rfl),
    He.glo_ok X G (c.fact 60 (f := .glo "Program") rfl), He.cls_ok (c.fact 61 (f := .cls "Program") rfl), He.mkr_ok (c.fact 62 (f := .mkr "Program") rfl),
    He.noat_ok (c.fact 63 (f := .noat "Program" "size") rfl),
    He.noat_ok (c.fact 64 (f := .noat "Program" "deeds") rfl),
    He.glo_ok X G (c.fact 65 (f := .glo "Walk") rfl), He.cls_ok (c.fact 66 (f := .cls "Walk") rfl), He.mkr_ok (c.fact 67 (f := .mkr "Walk") rfl),
    He.noat_ok (c.fact 68 (f := .noat "Walk" "left") rfl),
    He.noat_ok (c.fact 69 (f := .noat "Walk" "turns") rfl),
    He.glo_ok X G (c.fact 70 (f := .glo "TooMany") rfl), He.exc_ok (c.fact 71 (f := .exc "TooMany") rfl),
    He.exm_ok (c.fact 72 (f := .exm "TooMany" "FurrowError" true) rfl),
    He.exm_ok (c.fact 73 (f := .exm "TooMany" "TooMany" true) rfl),
    excCB_ok (Bool.and_eq_true_iff.mp (Bool.and_eq_true_iff.mp (Bool.and_eq_true_iff.mp (Bool.and_eq_true_iff.mp (Bool.and_eq_true_iff.mp (Bool.and_eq_true_iff.mp (Bool.and_eq_true_iff.mp (Bool.and_eq_true_iff.mp cx).1).1).1).1).1).1).1).1,
    of_decide_eq_true (Bool.and_eq_true_iff.mp (Bool.and_eq_true_iff.mp (Bool.and_eq_true_iff.mp (Bool.and_eq_true_iff.mp (Bool.and_eq_true_iff.mp (Bool.and_eq_true_iff.mp (Bool.and_eq_true_iff.mp (Bool.and_eq_true_iff.mp cx).1).1).1).1).1).1).1).2,
    of_decide_eq_true (Bool.and_eq_true_iff.mp (Bool.and_eq_true_iff.mp (Bool.and_eq_true_iff.mp (Bool.and_eq_true_iff.mp (Bool.and_eq_true_iff.mp (Bool.and_eq_true_iff.mp (Bool.and_eq_true_iff.mp cx).1).1).1).1).1).1).2,
    of_decide_eq_true (Bool.and_eq_true_iff.mp (Bool.and_eq_true_iff.mp (Bool.and_eq_true_iff.mp (Bool.and_eq_true_iff.mp (Bool.and_eq_true_iff.mp (Bool.and_eq_true_iff.mp cx).1).1).1).1).1).2,
    of_decide_eq_true (Bool.and_eq_true_iff.mp (Bool.and_eq_true_iff.mp (Bool.and_eq_true_iff.mp (Bool.and_eq_true_iff.mp (Bool.and_eq_true_iff.mp cx).1).1).1).1).2,
    of_decide_eq_true (Bool.and_eq_true_iff.mp (Bool.and_eq_true_iff.mp (Bool.and_eq_true_iff.mp (Bool.and_eq_true_iff.mp cx).1).1).1).2,
    of_decide_eq_true (Bool.and_eq_true_iff.mp (Bool.and_eq_true_iff.mp (Bool.and_eq_true_iff.mp cx).1).1).2,
    of_decide_eq_true (Bool.and_eq_true_iff.mp (Bool.and_eq_true_iff.mp cx).1).2,
    of_decide_eq_true (Bool.and_eq_true_iff.mp cx).2,
    He.glo_ok X G (c.fact 74 (f := .glo "FurrowError") rfl),
    He.glo_ok X G (c.fact 75 (f := .glo "NoText") rfl),
    He.glo_ok X G (c.fact 76 (f := .glo "NoPlan") rfl),
    He.glo_ok X G (c.fact 77 (f := .glo "NoTurning") rfl),
    He.glo_ok X G (c.fact 78 (f := .glo "BadPlan") rfl),
    He.glo_ok X G (c.fact 79 (f := .glo "NoWidth") rfl),
    He.glo_ok X G (c.fact 80 (f := .glo "NoValues") rfl),
    He.free_ok X G (c.fact 81 (f := .free "ValueError") rfl),
    He.free_ok X G (c.fact 82 (f := .free "enumerate") rfl),
    He.free_ok X G (c.fact 83 (f := .free "isinstance") rfl),
    He.free_ok X G (c.fact 84 (f := .free "len") rfl),
    He.free_ok X G (c.fact 85 (f := .free "list") rfl),
    He.free_ok X G (c.fact 86 (f := .free "max") rfl),
    He.free_ok X G (c.fact 87 (f := .free "min") rfl),
    He.free_ok X G (c.fact 88 (f := .free "range") rfl),
    He.free_ok X G (c.fact 89 (f := .free "sum") rfl),
    He.free_ok X G (c.fact 90 (f := .free "tuple") rfl),
    He.free_ok X G (c.fact 91 (f := .free "zip") rfl)⟩, fun s v => b s [v] rfl⟩
def spLaw (K : PySem.W.Frag) : Sp := Pr K fun (a_ : List Int × Unit) => m_law a_.1
theorem sp_true {K : PySem.W.Frag} (H : Hp) (a : Addr) (ns : List Int) (hS : SqL K H a (ns.map V.int)) (ht : m_law ns = some true) : spLaw K [.ref a] H (fun v _ => v = .bl true) fun _ _ _ => False :=
  ⟨H, (ns, ()), true, ⟨L2.Same.refl H, ⟨fun P hP => (List.not_mem_nil hP).elim⟩⟩, ⟨.ref a, [], rfl, ⟨a, _, rfl, hS, Rps.of_ints ns⟩, rfl⟩, ht, fun _ _ _ _ r => r⟩
end Law
open PySem PySem.W PySem.Calls PyProof.Rows
theorem PySem.Challenge.cw_furrow_k32_too_many_holds : PySem.Challenge.rw_furrow_k32_too_many.Holds := by
  w_on; o_law
  refine HandSHeadRun.head_any (r := OpenLaw.row PySem.Challenge.rw_furrow_k32_too_many) (q := view (OpenLaw.row PySem.Challenge.rw_furrow_k32_too_many).prog [50]) (H := Law.Run.hk) (ob := Law.Run.ob) (M := 8100) (loose := Law.Run.loose) (d := HandSHeadRun.topDef (OpenLaw.row PySem.Challenge.rw_furrow_k32_too_many).prog 50) (kwd := []) Law.Run.ob_eq
    (by kernel_rfl) (fun s => by kernel_rfl) Law.Run.run (by kernel_rfl) (by kernel_rfl) (by kernel_rfl) (by rfl) (by first | assumption | decide +kernel) (by decide +kernel) ⟨rfl, rfl, rfl, rfl, rfl, by decide +kernel⟩ ?hw ?hc
  case hw => w_witness2
  case hc =>
    refine L2.walk_ofE (l := PySem.Challenge.rw_furrow_k32_too_many) (n := 63) (k := 35) (x := "_law_script") (CX := L2.CX0) rfl (by decide) (by kernel_rfl) ⟨rfl, by decide, by decide⟩ ?F (fun _ _ _ _ z => z)
    intro w mg fa h Y G hmg0
    obtain ⟨K, KX, c, cx⟩ := Y
    have hmg : mg ("law" : PySem.Str) = some (.ref fa) := by
      have e : (HandSHeadRun.topDef (OpenLaw.row PySem.Challenge.rw_furrow_k32_too_many).prog 50).name = ("law" : PySem.Str) := by kernel_rfl
      rw [← e]
      exact hmg0
    obtain ⟨T, hb⟩ := Law.facts KX G c cx
    have e := hmg.symm.trans T.g_law
    cases e
    exact ⟨K, T.d_law, Law.spLaw K, KX, hb, fun H a ns hl _ hS => Law.sp_true H a ns hS (Law.law_true ns hl), fun base _ _ => Law.ok_law T⟩
