import PyProof.Rows.All
import HandS.Nested
import Wide.All
import OpenK.AllK
import Wide.FinOn
import HandS.ForMost
import HandS.ForExc
import HandS.IsInst
import HandS.Iter
import HandS.Wide
import PyProof.StrBlock2
import HandS.Defaults
import HandS.TupAny
import HandS.Codes
import HandS.Zip
import HandS.Rev
import HandS.RevRange
import HandS.Deep
import HandS.Strs
import HandS.More
import HandS.TupLen
import HandS.DictComp
import HandS.Words
import HandS.WordsExc
import HandS.Head0
import HandS.Head1
import HandS.Head2
import HandS.HeadEnd
import HandS.HeadHook1
import HandS.HeadHook2
import HandS.TupMul
import KE.KDictList
import HandS.Conv
import HandS.TryOnly
import HandS.DictTup
import PyProof.NeKinds
import KE.GoesEnum
import PyProof.EnumMake
import HandS.SortInts
import HandS.Exc
import HandS.ExcInit
import HandS.ExcField
import HandS.ExcOwn
import HandS.TryMany
import HandS.NestedK
import HandS.HeadHook4
import HandS.HeadWalk
import HandS.ExcIs
import HandS.Flt
import KE.SortKeyHeap
import HandS.HotCalls
import KE.GoesMore
import HandS.TupLe
import KE.KStateDown
import PySem.Challenge.RW_furrow_k67_own_plan_is_plain
set_option Elab.async false
set_option linter.all false
set_option maxRecDepth 100000
set_option maxHeartbeats 40000000
/-! G0: the code objects of the law's text that are made within defs. -/
namespace Gx
open PySem
/-- the name that the code object of a place bears -/
def nmG : Nat → Nat → Str := fun _ _ => ""
/-- the tables -/
def tabsG : PySem.W.Frag → List Addr := fun _ => []
end Gx

/-! Gx: a functional reading over the hand layer. -/
namespace Gx
open PySem PySem.Spec PyProof.Rows L2

/-! ### representation -/
class Rp (α : Type) where
  rp : PySem.W.Frag → Hp → V → α → Prop
  mono : ∀ {K : PySem.W.Frag} {F F' : Hp} {v : V} {x : α}, L2.Same F F' → rp K F v x → rp K F' v x
open Rp (rp)
instance : Rp Int := ⟨fun _ _ v x => v = .int x, fun _ h => h⟩
instance : Rp Bool := ⟨fun _ _ v x => v = .bl x, fun _ h => h⟩
instance : Rp Str := ⟨fun _ _ v x => v = .str x, fun _ h => h⟩
instance : Rp Unit := ⟨fun _ _ v _ => v = .non, fun _ h => h⟩
abbrev Rps {α : Type} [Rp α] (K : PySem.W.Frag) (F : Hp) : List V → List α → Prop := Paired (fun v x => rp K F v x)
theorem Rps.mono {α : Type} [Rp α] {K : PySem.W.Frag} {F F' : Hp} {vs : List V} {xs : List α} (s : L2.Same F F') (h : Rps K F vs xs) : Rps K F' vs xs := L2.Paired.mapP h fun _ _ => Rp.mono s
/-- a tracked tuple -/
def TupF (F : Hp) (a : Addr) (xs : List V) : Prop := F a = some (.tup xs)
theorem tupF_mono {H H' : Hp} {a : Addr} {xs : List V} (e : L2.Same H H') (h : TupF H a xs) : TupF H' a xs := e _ _ h
theorem seqT_mono {K : PySem.W.Frag} {H H' : Hp} {a : Addr} {xs : List V} (e : L2.Same H H') (h : TupF H a xs) : SqT K H' a xs := SqT.of (e _ _ h)
theorem sqT_mono {K : PySem.W.Frag} {H H' : Hp} {a : Addr} {xs : List V} (e : L2.Same H H') (h : SqT K H a xs) : SqT K H' a xs := by
  rcases h with (h | ⟨o, h⟩) | h
  · exact .inl (.inl (e _ _ h))
  · exact .inl (.inr ⟨o, e _ _ h⟩)
  · exact .inr h
instance {α : Type} [Rp α] : Rp (List α) := ⟨fun K F v xs => ∃ a vs, v = .ref a ∧ SqL K F a vs ∧ Rps K F vs xs, fun s ⟨a, vs, e, q, r⟩ => ⟨a, vs, e, s.seq q, r.mono s⟩⟩
/-- a tuple of things of one kind -/
structure Tp (α : Type) where
  l : List α
  deriving DecidableEq
instance {α : Type} [Rp α] : Rp (Tp α) := ⟨fun K F v xs => ∃ a vs, v = .ref a ∧ TupF F a vs ∧ Rps K F vs xs.l, fun s ⟨a, vs, e, q, r⟩ => ⟨a, vs, e, tupF_mono s q, r.mono s⟩⟩
/-- a constant tuple of things of one kind -/
structure Ct (α : Type) where
  l : List α
  deriving DecidableEq
instance {α : Type} [Rp α] : Rp (Ct α) := ⟨fun K F v xs => ∃ a vs, v = .ref a ∧ SqT K F a vs ∧ Rps K F vs xs.l, fun s ⟨a, vs, e, q, r⟩ => ⟨a, vs, e, sqT_mono s q, r.mono s⟩⟩
/-- a tuple of things of one kind whose object has no dict of its own -/
structure Tn (α : Type) where
  l : List α
  deriving DecidableEq
instance {α : Type} [Rp α] : Rp (Tn α) := ⟨fun K F v xs => ∃ a vs o, v = .ref a ∧ F a = some (.frz o (.tup vs)) ∧ o.dict = none ∧ o.cls = .type "tuple" ∧ Rps K F vs xs.l, fun s ⟨a, vs, o, e, q, d, c, r⟩ => ⟨a, vs, o, e, s _ _ q, d, c, r.mono s⟩⟩
/-- what stands as a tuple of things of one kind -/
class TL (θ : Type) (α : outParam Type) [Rp θ] [Rp α] where
  l : θ → List α
  sq : ∀ {K : PySem.W.Frag} {F : Hp} {v : V} {x : θ}, rp K F v x → ∃ a vs, v = .ref a ∧ SqT K F a vs ∧ Rps K F vs (l x)
instance {α : Type} [Rp α] : TL (Tp α) α := ⟨Tp.l, fun ⟨a, vs, e, q, r⟩ => ⟨a, vs, e, SqT.of q, r⟩⟩
instance {α : Type} [Rp α] : TL (Ct α) α := ⟨Ct.l, fun ⟨a, vs, e, q, r⟩ => ⟨a, vs, e, q, r⟩⟩
instance {α : Type} [Rp α] : TL (Tn α) α := ⟨Tn.l, fun ⟨a, vs, o, e, q, _, _, r⟩ => ⟨a, vs, e, .inl (.inr ⟨o, q⟩), r⟩⟩
/-- a row of values of unlike kinds: (x, (y, ())) -/
class Ra (τ : Type) where
  ra : PySem.W.Frag → Hp → List V → τ → Prop
  mono : ∀ {K : PySem.W.Frag} {F F' : Hp} {v : List V} {x : τ}, L2.Same F F' → ra K F v x → ra K F' v x
open Ra (ra)
instance : Ra Unit := ⟨fun _ _ vs _ => vs = [], fun _ h => h⟩
instance {α τ : Type} [Rp α] [Ra τ] : Ra (α × τ) := ⟨fun K F vs x => ∃ v r, vs = v :: r ∧ rp K F v x.1 ∧ ra K F r x.2, fun s ⟨v, r, e, p, q⟩ => ⟨v, r, e, Rp.mono s p, Ra.mono s q⟩⟩
/-- tuples of 2, 3, .. things -/
structure T1 (α : Type) where
  a : α
  deriving DecidableEq
structure T2 (α β : Type) where
  a : α
  b : β
  deriving DecidableEq
structure T3 (α β γ : Type) where
  a : α
  b : β
  c : γ
  deriving DecidableEq
structure T4 (α β γ δ : Type) where
  a : α
  b : β
  c : γ
  d : δ
  deriving DecidableEq
structure T5 (α β γ δ ε : Type) where
  a : α
  b : β
  c : γ
  d : δ
  e : ε
  deriving DecidableEq
/-- a kind that stands as a tuple: its row -/
class Tpl (θ : Type) (τ : outParam Type) where
  row : θ → τ
abbrev T1.row {α : Type} (x : T1 α) : α × Unit := (x.a, ())
abbrev T2.row {α β : Type} (x : T2 α β) : α × β × Unit := (x.a, x.b, ())
abbrev T3.row {α β γ : Type} (x : T3 α β γ) : α × β × γ × Unit := (x.a, x.b, x.c, ())
abbrev T4.row {α β γ δ : Type} (x : T4 α β γ δ) : α × β × γ × δ × Unit := (x.a, x.b, x.c, x.d, ())
abbrev T5.row {α β γ δ ε : Type} (x : T5 α β γ δ ε) : α × β × γ × δ × ε × Unit := (x.a, x.b, x.c, x.d, x.e, ())
def rpT {θ τ : Type} [Ra τ] (row : θ → τ) (K : PySem.W.Frag) (F : Hp) (v : V) (x : θ) : Prop := ∃ a vs, v = .ref a ∧ TupF F a vs ∧ ra K F vs (row x)
theorem rpT.mono {θ τ : Type} [Ra τ] {row : θ → τ} {K : PySem.W.Frag} {F F' : Hp} {v : V} {x : θ} (s : L2.Same F F') : rpT row K F v x → rpT row K F' v x := fun ⟨a, vs, e, q, r⟩ => ⟨a, vs, e, tupF_mono s q, Ra.mono s r⟩
instance {α : Type} [Rp α] : Rp (T1 α) := ⟨rpT T1.row, rpT.mono⟩
instance {α β : Type} [Rp α] [Rp β] : Rp (T2 α β) := ⟨rpT T2.row, rpT.mono⟩
instance {α β γ : Type} [Rp α] [Rp β] [Rp γ] : Rp (T3 α β γ) := ⟨rpT T3.row, rpT.mono⟩
instance {α β γ δ : Type} [Rp α] [Rp β] [Rp γ] [Rp δ] : Rp (T4 α β γ δ) := ⟨rpT T4.row, rpT.mono⟩
instance {α β γ δ ε : Type} [Rp α] [Rp β] [Rp γ] [Rp δ] [Rp ε] : Rp (T5 α β γ δ ε) := ⟨rpT T5.row, rpT.mono⟩
/-- None or a thing that is never None -/
class NN (α : Type) [Rp α] : Prop where
  nn : ∀ {K : PySem.W.Frag} {F : Hp} {x : α}, ¬ rp K F V.non x
instance : NN Int := ⟨fun h => nomatch h⟩
instance : NN Bool := ⟨fun h => nomatch h⟩
instance : NN Str := ⟨fun h => nomatch h⟩
instance {α : Type} [Rp α] : NN (List α) := ⟨fun ⟨_, _, e, _⟩ => nomatch e⟩
instance {α : Type} [Rp α] : NN (Tp α) := ⟨fun ⟨_, _, e, _⟩ => nomatch e⟩
instance {α : Type} [Rp α] : NN (Tn α) := ⟨fun ⟨_, _, _, e, _⟩ => nomatch e⟩
theorem rpT.nn {θ τ : Type} [Ra τ] {row : θ → τ} {K : PySem.W.Frag} {F : Hp} {x : θ} : ¬ rpT row K F .non x := fun ⟨_, _, e, _⟩ => nomatch e
instance {α : Type} [Rp α] : NN (T1 α) := ⟨rpT.nn⟩
instance {α β : Type} [Rp α] [Rp β] : NN (T2 α β) := ⟨rpT.nn⟩
instance {α β γ : Type} [Rp α] [Rp β] [Rp γ] : NN (T3 α β γ) := ⟨rpT.nn⟩
instance {α β γ δ : Type} [Rp α] [Rp β] [Rp γ] [Rp δ] : NN (T4 α β γ δ) := ⟨rpT.nn⟩
instance {α β γ δ ε : Type} [Rp α] [Rp β] [Rp γ] [Rp δ] [Rp ε] : NN (T5 α β γ δ ε) := ⟨rpT.nn⟩
def rpO {α : Type} [Rp α] (K : PySem.W.Frag) (F : Hp) (v : V) : Option α → Prop
  | none => v = .non
  | some x => rp K F v x
instance {α : Type} [Rp α] [NN α] : Rp (Option α) := ⟨rpO, fun {K F F' v x} s h => by
  cases x with
  | none => exact h
  | some x => exact Rp.mono (α := α) s h⟩
theorem rp_some {α : Type} [Rp α] [NN α] {K : PySem.W.Frag} {F : Hp} {v : V} {x : α} (h : rp K F v x) : rp K F v (some x) := h
theorem rp_none {α : Type} [Rp α] [NN α] {K : PySem.W.Frag} {F : Hp} : rp K F V.non (none : Option α) := rfl
theorem rp_isNone {α : Type} [Rp α] [NN α] {K : PySem.W.Frag} {F : Hp} {v : V} : ∀ {x : Option α}, rp K F v x → decide (v = .non) = x.isNone
  | none, h => by
    have e : v = .non := h
    rw [e]; rfl
  | some x, h => by
    have e : ¬ v = .non := fun e => by
      subst e
      exact NN.nn (α := α) h
    rw [decide_eq_false e]; rfl

/-! ### shared part and heap -/
/-- no tuple, nothing described by a wish -/
def lstish : HO → Prop
  | .tup _ => False
  | .frz _ (.tup _) => False
  | .ext _ => False
  | _ => True
/-- no table of code objects -/
def ntb : HO → Prop
  | .tbl _ => False
  | _ => True
/-- neither a table nor a code object -/
def pln : HO → Prop
  | .tbl _ => False
  | .ext _ => False
  | _ => True
theorem pln.ntb {o : HO} (h : pln o) : ntb o := by cases o <;> first | trivial | exact h
/-- a table stands at P that tells code objects of the names that their places have -/
def GdT (H : Hp) (P : Addr) : Prop := ∃ ps : Array Value, H P = some (.tbl ps) ∧ TriplesOk ps.toList ∧ ∀ (pos : Pos) (cv : Value), codeAmong pos ps.toList = some cv → ∃ c, cv = .ref c ∧ H c = some (LamX.CodeO c (nmG pos.line pos.col))
/-- what stands stays, but that tables grow -/
structure Xt (H H' : Hp) : Prop where
  k : ∀ b o, H b = some o → ntb o → H' b = some o
  t : ∀ b ps, H b = some (.tbl ps) → ∃ qs, H' b = some (.tbl qs)
  w : ∀ P, GdT H P → GdT H' P
theorem Xt.refl (H : Hp) : Xt H H := ⟨fun _ _ h _ => h, fun _ _ h => ⟨_, h⟩, fun _ h => h⟩
theorem Xt.trans {H H1 H2 : Hp} (a : Xt H H1) (b : Xt H1 H2) : Xt H H2 := ⟨fun c o h n => b.k c o (a.k c o h n) n, fun c ps h => by
  obtain ⟨qs, h⟩ := a.t c ps h
  exact b.t c qs h, fun P h => b.w P (a.w P h)⟩
theorem Xt.free {H H' : Hp} (a : Xt H H') {p : Addr} (h : H' p = none) : H p = none := by
  cases e : H p with
  | none => rfl
  | some o =>
    cases o with
    | tbl ps =>
      obtain ⟨qs, z⟩ := a.t p ps e
      rw [h] at z; cases z
    | _ => have z := a.k p _ e trivial; rw [h] at z; cases z
theorem Xt.same {H H' : Hp} (s : L2.Same H H') : Xt H H' := ⟨fun b o h _ => s b o h, fun b ps h => ⟨ps, s b _ h⟩, fun P ⟨ps, e, h1, h2⟩ =>
  ⟨ps, s _ _ e, h1, fun pos cv hc => let ⟨c, e1, e2⟩ := h2 pos cv hc; ⟨c, e1, s _ _ e2⟩⟩⟩
theorem Xt.upd {H : Hp} {p : Addr} {o : HO} (hp : H p = none) (_ : ntb o) : Xt H (upd H p o) := .same fun b u e => by rw [upd_ne (ne_of_none e hp)]; exact e
/-- a list or the like stands at l -/
def PlAt (H : Hp) (l : Addr) : Prop := ∃ o, H l = some o ∧ pln o
theorem codeO_pl {c : Addr} {q : Str} {o : HO} (h : o = LamX.CodeO c q) : ¬ pln o := by rw [h]; exact id
theorem GdT.ne {H : Hp} {l P : Addr} (a : GdT H P) (h : PlAt H l) : P ≠ l := fun z => by
  obtain ⟨o, ho, po⟩ := h
  obtain ⟨ps, e, _⟩ := a
  rw [z, ho] at e; cases e; exact po
/-- what is done at l alone -/
theorem GdT.but {H H' : Hp} {l P : Addr} (a : GdT H P) (h : PlAt H l) (k : ∀ b, b ≠ l → H' b = H b) : GdT H' P := by
  have hP := a.ne h
  obtain ⟨o, ho, po⟩ := h
  obtain ⟨ps, e, h1, h2⟩ := a
  refine ⟨ps, (k P hP).trans e, h1, fun pos cv hc => ?_⟩
  obtain ⟨c, e1, e2⟩ := h2 pos cv hc
  refine ⟨c, e1, (k c fun z => ?_).trans e2⟩
  subst z; rw [ho] at e2; exact codeO_pl (Option.some.inj e2) po
theorem GdT.upd {H : Hp} {l P : Addr} {u : HO} (a : GdT H P) (h : PlAt H l) (_ : ntb u) : GdT (upd H l u) P := a.but h fun _ hb => upd_ne hb
theorem Xt.poke {H0 H : Hp} {l : Addr} {u : HO} (x : Xt H0 H) (n : H0 l = none) (h : PlAt H l) (no : ntb u) : Xt H0 (L2.upd H l u) := ⟨fun b o e ns => by
  rw [upd_ne (ne_of_none e n)]; exact x.k b o e ns, fun b ps e => by
  rw [upd_ne (ne_of_none e n)]; exact x.t b ps e, fun P a => (x.w P a).upd h no⟩
structure Gr (F H F' H' : Hp) : Prop where
  ff : L2.Same F F'
  fh : L2.Same F' H'
  hh : Xt H H'
  fr : ∀ a o, H a = some o → lstish o → F' a = F a
theorem Gr.refl {F H : Hp} (s : L2.Same F H) : Gr F H F H := ⟨.refl _, s, .refl _, fun _ _ _ _ => rfl⟩
theorem Gr.trans {F H F1 H1 F2 H2 : Hp} (a : Gr F H F1 H1) (b : Gr F1 H1 F2 H2) : Gr F H F2 H2 :=
  ⟨a.ff.trans b.ff, b.fh, a.hh.trans b.hh, fun c o h n => by
    cases o with
    | tbl ps =>
      obtain ⟨qs, h2⟩ := a.hh.t c ps h
      rw [b.fr c _ h2 trivial, a.fr c _ h trivial]
    | _ => rw [b.fr c _ (a.hh.k c _ h trivial) n, a.fr c _ h n]⟩
theorem Gr.new {F H : Hp} {p : Addr} {o : HO} (s : L2.Same F H) (hp : H p = none) (no : ntb o := by trivial) : Gr F H (upd F p o) (upd H p o) := by
  have fp : F p = none := s.free hp
  refine ⟨fun b u e => ?_, fun b u e => ?_, .upd hp no, fun a o h _ => ?_⟩
  · rw [upd_ne (ne_of_none e fp)]; exact e
  · by_cases hb : b = p
    · subst hb; rw [upd_same] at e ⊢; exact e
    · rw [upd_ne hb] at e ⊢; exact s _ _ e
  · by_cases hb : a = p
    · subst hb; rw [hp] at h; cases h
    · rw [upd_ne hb]
/-- a new object that stays private -/
theorem Gr.newP {F H : Hp} {p : Addr} {o : HO} (s : L2.Same F H) (hp : H p = none) (no : ntb o := by trivial) : Gr F H F (upd H p o) := by
  refine ⟨.refl _, fun b u e => ?_, .upd hp no, fun a o h _ => rfl⟩
  rw [upd_ne (ne_of_none (s _ _ e) hp)]; exact s _ _ e
/-- the tables of the text stand, private -/
structure HasT (K : PySem.W.Frag) (F H : Hp) : Prop where
  t : ∀ P ∈ tabsG K, GdT H P ∧ F P = none
theorem HasT.up {K : PySem.W.Frag} {F H F' H' : Hp} (h : HasT K F H) (g : Gr F H F' H') : HasT K F' H' := ⟨fun P hP => by
  obtain ⟨a, f⟩ := h.t P hP
  obtain ⟨ps, e, _⟩ := id a
  exact ⟨g.hh.w P a, (g.fr P _ e trivial).trans f⟩⟩
/-- the state at a call -/
structure SmX (K : PySem.W.Frag) (F H : Hp) : Prop where
  s : L2.Same F H
  h : HasT K F H
structure GrX (K : PySem.W.Frag) (F H F' H' : Hp) : Prop extends Gr F H F' H' where
  h : HasT K F' H'
section
variable {K : PySem.W.Frag} {F H F1 H1 F2 H2 : Hp}
instance : CoeOut (GrX K F H F1 H1) (Gr F H F1 H1) := ⟨GrX.toGr⟩
theorem GrX.refl (s : SmX K F H) : GrX K F H F H := ⟨.refl s.s, s.h⟩
theorem GrX.sm (g : GrX K F H F1 H1) : SmX K F1 H1 := ⟨g.fh, g.h⟩
theorem GrX.trans (g : GrX K F H F1 H1) (g2 : Gr F1 H1 F2 H2) : GrX K F H F2 H2 := ⟨g.toGr.trans g2, g.h.up g2⟩
theorem GrX.pre (g : Gr F H F1 H1) (g2 : GrX K F1 H1 F2 H2) : GrX K F H F2 H2 := ⟨g.trans g2.toGr, g2.h⟩
theorem SmX.gx (s : SmX K F H) (g : Gr F H F1 H1) : GrX K F H F1 H1 := ⟨g, s.h.up g⟩
theorem HasT.upd {l : Addr} {u v : HO} (h : HasT K F H) (pl : PlAt H l) (no : ntb u) : HasT K F (L2.upd H l u) ∧ HasT K (L2.upd F l v) (L2.upd H l u) :=
  ⟨⟨fun P hP => ⟨(h.t P hP).1.upd pl no, (h.t P hP).2⟩⟩, ⟨fun P hP => ⟨(h.t P hP).1.upd pl no, by rw [upd_ne ((h.t P hP).1.ne pl)]; exact (h.t P hP).2⟩⟩⟩
theorem SmX.up (s : SmX K F H) (g : Gr F H F1 H1) : SmX K F1 H1 := ⟨g.fh, s.h.up g⟩
end

/-! ### runs -/
/-- a wall: who reads a type looks no farther -/
structure Bx (p : Prop) : Prop where
  o : p
def GoE (X : Cx) (e : Expr) : TE := fun σ H Q => Bx (∀ pins s, Inv X pins σ H s → wpAny (model X.prog X.w) X.A (eval e X.env) (EP X pins σ Q) X.xe s)
def GoT (X : Cx) (e : Expr) : TT := fun σ H Q => Bx (∀ pins s, Inv X pins σ H s → wpAny (model X.prog X.w) X.A (isTrue e X.env (eval e X.env)) (TP X pins σ Q) X.xe s)
def GoA (X : Cx) (es : List Expr) : TA := fun σ H Q => Bx (∀ pos pins s, Inv X pins σ H s → wpAny (model X.prog X.w) X.A (spliced (backTo pos (starEach es X.env))) (AP X pins σ Q) X.xe s)
def GoS (X : Cx) (st : List Stmt) : TS := fun D σ H => Bx (∀ pins s, Inv X pins σ H s → wpAny (model X.prog X.w) X.A (execs st X.env) (SP X pins D) X.xe s)
def GoI (X : Cx) (tg iter : Expr) : TI := fun σ H R => Bx (∀ pins s, Inv X pins σ H s → wpAny (model X.prog X.w) X.A (eval iter X.env) (fun v s1 => wpAny (model X.prog X.w) X.A (pyIter v) (PIE X pins σ tg R) X.xe s1) X.xe s)
section
variable {X : Cx} {e : Expr} {es : List Expr} {st : Stmt} {sts rest : List Stmt} {σ : L2.St} {F H : Hp} {D : Ends}
theorem pe_go : PE X e (GoE X e) := ⟨fun pins s σ H Q I h => h.o pins s I⟩
theorem pt_go : PT X e (GoT X e) := ⟨fun pins s σ H Q I h => h.o pins s I⟩
theorem pa_go : PA X es (GoA X es) := ⟨fun pos pins s σ H Q I h => h.o pos pins s I⟩
theorem pss_go : PSs X sts (GoS X sts) := ⟨fun pins s σ H D I h => h.o pins s I⟩
theorem pi_go {tg iter : Expr} : PI X tg iter (GoI X tg iter) := ⟨fun pins s σ H R I h => h.o pins s I⟩
theorem GoE.of {t : TE} {Q : VK} (p : PE X e t) (h : t σ H Q) : GoE X e σ H Q := ⟨fun pins s I => p.run pins s σ H Q I h⟩
theorem GoT.of {t : TT} {Q : Bool → Hp → Prop} (p : PT X e t) (h : t σ H Q) : GoT X e σ H Q := ⟨fun pins s I => p.run pins s σ H Q I h⟩
theorem GoA.of {t : TA} {Q : List V → Hp → Prop} (p : PA X es t) (h : t σ H Q) : GoA X es σ H Q := ⟨fun pos pins s I => p.run pos pins s σ H Q I h⟩
theorem GoI.of {tg iter : Expr} {t : TI} {R : It → Hp → Prop} (p : PI X tg iter t) (h : t σ H R) : GoI X tg iter σ H R := ⟨fun pins s I => p.run pins s σ H R I h⟩
theorem GoS.of {t : TS} (p : PSs X sts t) (h : t D σ H) : GoS X sts D σ H := ⟨fun pins s I => p.run pins s σ H D I h⟩
theorem GoS.cons {t : TS} (p : PS X st t) (h : t { D with nx := GoS X rest D } σ H) : GoS X (st :: rest) D σ H := GoS.of (pss_cons p pss_go) h
theorem GoS.nil (h : D.nx σ H) : GoS X [] D σ H := GoS.of pss_nil h
theorem GoS.mono {D' : Ends} (h : GoS X sts D σ H) (n : ∀ σ H, D.nx σ H → D'.nx σ H) (r : ∀ v H, D.rt v H → D'.rt v H) (b : ∀ σ H, D.bk σ H → D'.bk σ H) (c : ∀ σ H, D.ct σ H → D'.ct σ H) : GoS X sts D' σ H := .mk fun pins s I =>
  thn (h.o pins s I) fun f s' q => by
    cases f with
    | next => obtain ⟨σ', H', I, q⟩ := q; exact ⟨σ', H', I, n _ _ q⟩
    | brk => obtain ⟨σ', H', I, q⟩ := q; exact ⟨σ', H', I, b _ _ q⟩
    | cont => obtain ⟨σ', H', I, q⟩ := q; exact ⟨σ', H', I, c _ _ q⟩
    | ret u => obtain ⟨v, σ', H', I, r', q⟩ := q; exact ⟨v, σ', H', I, r', r _ _ q⟩

/-! ### e is worth x -/
def Ev {α : Type} [Rp α] (X : Cx) (e : Expr) (σ : L2.St) (F H : Hp) (x : α) : Prop := ∀ F1 H1, GrX X.K F H F1 H1 → ∀ Q : VK, (∀ v F2 H2, Gr F1 H1 F2 H2 → rp X.K F2 v x → Q v H2) → GoE X e σ H1 Q
def EvT (X : Cx) (e : Expr) (σ : L2.St) (F H : Hp) (b : Bool) : Prop := ∀ F1 H1, GrX X.K F H F1 H1 → ∀ Q : Bool → Hp → Prop, (∀ F2 H2, Gr F1 H1 F2 H2 → Q b H2) → GoT X e σ H1 Q
def EvA {τ : Type} [Ra τ] (X : Cx) (es : List Expr) (σ : L2.St) (F H : Hp) (x : τ) : Prop := ∀ F1 H1, GrX X.K F H F1 H1 → ∀ Q : List V → Hp → Prop, (∀ vs F2 H2, Gr F1 H1 F2 H2 → ra X.K F2 vs x → Q vs H2) → GoA X es σ H1 Q
theorem Ev.up {α : Type} [Rp α] {x : α} {F' H' : Hp} (h : Ev X e σ F H x) (g : Gr F H F' H') : Ev X e σ F' H' x := fun F1 H1 g1 => h F1 H1 (.pre g g1)
theorem EvT.up {b : Bool} {F' H' : Hp} (h : EvT X e σ F H b) (g : Gr F H F' H') : EvT X e σ F' H' b := fun F1 H1 g1 => h F1 H1 (.pre g g1)

theorem ev_var {α : Type} [Rp α] {x : α} {v : V} (i : Nat) {n : Str} {pos : Pos} (hs : σ[i]? = some (some v)) (h : rp X.K F v x) (hN : X.N[i]? = some n := by rfl) (hv : Vis X.env.scope n := by first | exact Or.inl rfl | exact Or.inr (Or.inl rfl) | exact Or.inr (Or.inr rfl))
    (hd : (n == ("__debug__" : Str)) = false := by decide) (hcd : (n == ("__classdict__" : Str)) = false := by decide) : Ev X (.Name n pos) σ F H x := fun F1 H1 g Q q =>
  GoE.of (pe_var hN hv hd hcd) ⟨v, hs, q v F1 H1 (.refl g.fh) (Rp.mono g.ff h)⟩
theorem ev_int {i : Int} {j : Nat} {pos : Pos} : Ev X (.Constant (.int i) j pos) σ F H i := fun F1 H1 g Q q => GoE.of pe_int (q (.int i) F1 H1 (.refl g.fh) rfl)
theorem ev_bl {i : Bool} {j : Nat} {pos : Pos} : Ev X (.Constant (.bool i) j pos) σ F H i := fun F1 H1 g Q q => GoE.of pe_bl (q (.bl i) F1 H1 (.refl g.fh) rfl)
theorem ev_str {i : Str} {j : Nat} {pos : Pos} : Ev X (.Constant (.str i) j pos) σ F H i := fun F1 H1 g Q q => GoE.of pe_str (q (.str i) F1 H1 (.refl g.fh) rfl)
theorem ev_unit {j : Nat} {pos : Pos} : Ev X (.Constant .none j pos) σ F H () := fun F1 H1 g Q q => GoE.of pe_non (q .non F1 H1 (.refl g.fh) rfl)
theorem ev_none {α : Type} [Rp α] [NN α] {j : Nat} {pos : Pos} : Ev X (.Constant .none j pos) σ F H (none : Option α) := fun F1 H1 g Q q => GoE.of pe_non (q .non F1 H1 (.refl g.fh) rfl)
theorem Ev.some {α : Type} [Rp α] [NN α] {x : α} (h : Ev X e σ F H x) : Ev X e σ F H (some x) := fun F1 H1 g Q q => h F1 H1 g Q q
/-- a module's constant -/
theorem ev_glob {α : Type} [Rp α] {c : α} {x : Str} {v : V} {u : Value} {pos : Pos} (hm : X.mg x = some u) (r : RelV v u) (h : ∀ F, rp X.K F v c) (hg : Gl X x := by rfl) (hd : (x == ("__debug__" : Str)) = false := by decide) : Ev X (.Name x pos) σ F H c := fun F1 H1 g Q q =>
  GoE.of (pe_glob hg hm r hd) (q v F1 H1 (.refl g.fh) (h F1))

/-! ### args -/
theorem ea_nil : EvA X [] σ F H () := fun F1 H1 g Q q => GoA.of pa_nil (q [] F1 H1 (.refl g.fh) rfl)
theorem ea_cons {α τ : Type} [Rp α] [Ra τ] {x : α} {y : τ} (ha : Ev X e σ F H x) (hr : EvA X es σ F H y) (hs : starEach (e :: es) X.env = (false, eval e X.env) :: starEach es X.env := by rfl) : EvA X (e :: es) σ F H (x, y) := fun F1 H1 g Q q =>
  GoA.of (pa_cons pe_go pa_go hs) (ha F1 H1 g _ fun v F2 H2 g2 r2 => hr F2 H2 (g.trans g2) _ fun vs F3 H3 g3 r3 => q _ F3 H3 (g2.trans g3) ⟨v, vs, rfl, Rp.mono g3.ff r2, r3⟩)

/-! ### two operands, by values -/
/-- the rule r gives z for x and y -/
def Op2 {α β γ : Type} [Rp α] [Rp β] [Rp γ] (K : PySem.W.Frag) (r : R2) (x : α) (y : β) (z : γ) : Prop := ∀ (F H : Hp) (v w : V) (Q : VK), L2.Same F H → rp K F v x → rp K F w y → (∀ u F' H', Gr F H F' H' → rp K F' u z → Q u H') → r v w H Q
theorem ev_bin {α β γ : Type} [Rp α] [Rp β] [Rp γ] {x : α} {y : β} {z : γ} {a b : Expr} {op : Operator} {pos : Pos} {r : R2} (ho : OpR X (binaryOp op) r) (hr : Op2 X.K r x y z) (ha : Ev X a σ F H x) (hb : Ev X b σ F H y) : Ev X (.BinOp a op b pos) σ F H z := fun F1 H1 g Q q =>
  GoE.of (pe_op ho pe_go pe_go) (ha F1 H1 g _ fun v F2 H2 g2 r2 => hb F2 H2 (g.trans g2) _ fun w F3 H3 g3 r3 => hr F3 H3 v w Q g3.fh (Rp.mono g3.ff r2) r3 fun u F4 H4 g4 r4 => q u F4 H4 ((g2.trans g3).trans g4) r4)
theorem ev_cmp {α β : Type} [Rp α] [Rp β] {x : α} {y : β} {z : Bool} {a b : Expr} {op : CmpOp} {pos : Pos} {r : R2} (ho : OpR X (compareOp op) r) (hr : Op2 X.K r x y z) (ha : Ev X a σ F H x) (hb : Ev X b σ F H y) (hm : behindInMarks op b = false) : Ev X (.Compare a [op] [b] pos) σ F H z := fun F1 H1 g Q q =>
  GoE.of (pe_cmpR ho pe_go pe_go hm) (ha F1 H1 g _ fun v F2 H2 g2 r2 => hb F2 H2 (g.trans g2) _ fun w F3 H3 g3 r3 => hr F3 H3 v w Q g3.fh (Rp.mono g3.ff r2) r3 fun u F4 H4 g4 r4 => q u F4 H4 ((g2.trans g3).trans g4) r4)
theorem et_cmp {α β : Type} [Rp α] [Rp β] {x : α} {y : β} {z : Bool} {a b : Expr} {op : CmpOp} {pos : Pos} {r : R2} (ho : OpR X (compareOp op) r) (hr : Op2 X.K r x y z) (ha : Ev X a σ F H x) (hb : Ev X b σ F H y) (hm : behindInMarks op b = false) : EvT X (.Compare a [op] [b] pos) σ F H z := fun F1 H1 g Q q =>
  GoT.of (pt_cmpR ho pe_go pe_go hm) (ha F1 H1 g _ fun v F2 H2 g2 r2 => hb F2 H2 (g.trans g2) _ fun w F3 H3 g3 r3 => hr F3 H3 v w _ g3.fh (Rp.mono g3.ff r2) r3 fun u F4 H4 g4 r4 => by
    have r4 : u = .bl z := r4
    subst r4
    exact ⟨z, rfl, q F4 H4 ((g2.trans g3).trans g4)⟩)
theorem ev_chain {α β γ : Type} [Rp α] [Rp β] [Rp γ] {x : α} {y : β} {z : γ} {p q : Bool} {a b c : Expr} {op op' : CmpOp} {pos : Pos} {r r' : R2} (ho : OpR X (compareOp op) r) (ho' : OpR X (compareOp op') r') (hr : Op2 X.K r x y p) (hr' : Op2 X.K r' y z q)
    (ha : Ev X a σ F H x) (hb : Ev X b σ F H y) (hc : Ev X c σ F H z) (hm : lastMarks [op, op'] [b, c] = false := by with_unfolding_all rfl) : Ev X (.Compare a [op, op'] [b, c] pos) σ F H (p && q) := fun F1 H1 g Q k =>
  GoE.of (pe_chain ho ho' pe_go pe_go pe_go hm) (ha F1 H1 g _ fun v F2 H2 g2 r2 => hb F2 H2 (g.trans g2) _ fun w F3 H3 g3 r3 => hr F3 H3 v w _ g3.fh (Rp.mono g3.ff r2) r3 fun u F4 H4 g4 r4 => by
    have r4 : u = .bl p := r4
    subst r4
    refine ⟨p, rfl, ?_⟩
    cases p with
    | true =>
      rw [if_pos rfl]
      exact hc F4 H4 (((g.trans g2).trans g3).trans g4) _ fun w' F5 H5 g5 r5 => hr' F5 H5 w w' _ g5.fh (Rp.mono (g4.ff.trans g5.ff) r3) r5 fun u' F6 H6 g6 r6 => k u' F6 H6 ((((g2.trans g3).trans g4).trans g5).trans g6) r6
    | false =>
      rw [if_neg Bool.false_ne_true]
      exact k _ F4 H4 ((g2.trans g3).trans g4) rfl)
end
end Gx

/-! Gy: operations. -/
namespace Gx
open PySem PySem.Spec PyProof.Rows L2
open Rp (rp)
open Ra (ra)
section
variable {X : Cx} {K : PySem.W.Frag} {e a b c d : Expr} {es : List Expr} {σ : L2.St} {F H : Hp} {pos : Pos}
/-! ### ints -/
theorem o2_I0 {γ : Type} [Rp γ] {g : Int → Int → V} {x y : Int} {z : γ} (h : ∀ F, rp K F (g x y) z) : Op2 K (rI0 g) x y z := fun F H v w Q s rv rw k => ⟨x, y, rv, rw, k _ F H (.refl s) (h F)⟩
theorem o2_I {γ : Type} [Rp γ] {C : Int → Int → Prop} {g : Int → Int → V} {x y : Int} {z : γ} (hc : C x y) (h : ∀ F, rp K F (g x y) z) : Op2 K (rI C g) x y z := fun F H v w Q s rv rw k => ⟨x, y, rv, rw, hc, k _ F H (.refl s) (h F)⟩
theorem ev_add {x y : Int} (ha : Ev X a σ F H x) (hb : Ev X b σ F H y) : Ev X (.BinOp a .Add b pos) σ F H (x + y) := ev_bin op_add (o2_I0 fun _ => rfl) ha hb
theorem ev_sub {x y : Int} (ha : Ev X a σ F H x) (hb : Ev X b σ F H y) : Ev X (.BinOp a .Sub b pos) σ F H (x - y) := ev_bin op_sub (o2_I0 fun _ => rfl) ha hb
theorem ev_mul {x y : Int} (ha : Ev X a σ F H x) (hb : Ev X b σ F H y) (h : CMul x y) : Ev X (.BinOp a .Mult b pos) σ F H (x * y) := ev_bin op_mul (o2_I h fun _ => rfl) ha hb
theorem ev_div {x y : Int} (ha : Ev X a σ F H x) (hb : Ev X b σ F H y) (h : CDiv x y) : Ev X (.BinOp a .FloorDiv b pos) σ F H (x / y) := ev_bin op_fdiv (o2_I h fun _ => rfl) ha hb
theorem ev_mod {x y : Int} (ha : Ev X a σ F H x) (hb : Ev X b σ F H y) (h : 0 < y) : Ev X (.BinOp a .Mod b pos) σ F H (x % y) := ev_bin op_mod (o2_I h fun _ => rfl) ha hb
theorem ev_powc {x y z : Int} (ha : Ev X a σ F H x) (hb : Ev X b σ F H y) (h : CPow x y) (hz : x ^ y.toNat = z) : Ev X (.BinOp a .Pow b pos) σ F H z := ev_bin op_pow (o2_I h fun _ => congrArg V.int hz) ha hb
theorem ev_neg {x : Int} (ha : Ev X a σ F H x) : Ev X (.UnaryOp .USub a pos) σ F H (-x) := fun F1 H1 g Q q => GoE.of (pe_un un_neg pe_go) (ha F1 H1 g _ fun v F2 H2 g2 r2 => ⟨x, r2, q _ F2 H2 g2 rfl⟩)
theorem CMul.l {i j : Int} (h : -(2 ^ 64) < i ∧ i < 2 ^ 64) : CMul i j := .inl h
theorem CMul.r {i j : Int} (h : -(2 ^ 64) < j ∧ j < 2 ^ 64) : CMul i j := .inr h
/-- a guarded product, quotient, rest -/
instance (i j : Int) : Decidable (CMul i j) := inferInstanceAs (Decidable (_ ∨ _))
instance (i j : Int) : Decidable (CDiv i j) := inferInstanceAs (Decidable (_ ∧ _))
instance (i j : Int) : Decidable (CPow i j) := inferInstanceAs (Decidable (_ ∧ _ ∧ _))
instance (i j : Int) : Decidable (CMulW i j) := inferInstanceAs (Decidable (_ < _))
instance (i j : Int) : Decidable (CDivW i j) := inferInstanceAs (Decidable (_ ∧ _))
def mulG (i j : Int) : Option Int := if CMul i j ∨ CMulW i j then some (i * j) else none
def divG (i j : Int) : Option Int := if CDiv i j ∨ CDivW i j then some (i / j) else none
def modG (i j : Int) : Option Int := if 0 < j then some (i % j) else none
theorem mulG_of {i j r : Int} (h : mulG i j = some r) : (CMul i j ∨ CMulW i j) ∧ i * j = r := by
  unfold mulG at h; split at h
  · exact ⟨by assumption, Option.some.inj h⟩
  · cases h
theorem divG_of {i j r : Int} (h : divG i j = some r) : (CDiv i j ∨ CDivW i j) ∧ i / j = r := by
  unfold divG at h; split at h
  · exact ⟨by assumption, Option.some.inj h⟩
  · cases h
theorem modG_of {i j r : Int} (h : modG i j = some r) : 0 < j ∧ i % j = r := by
  unfold modG at h; split at h
  · exact ⟨by assumption, Option.some.inj h⟩
  · cases h
theorem ev_mulG {x y r : Int} (ha : Ev X a σ F H x) (hb : Ev X b σ F H y) (h : mulG x y = some r) : Ev X (.BinOp a .Mult b pos) σ F H r := by
  obtain ⟨c | c, rfl⟩ := mulG_of h
  · exact ev_mul ha hb c
  · exact ev_bin op_mulW (o2_I c fun _ => rfl) ha hb
theorem ev_divG {x y r : Int} (ha : Ev X a σ F H x) (hb : Ev X b σ F H y) (h : divG x y = some r) : Ev X (.BinOp a .FloorDiv b pos) σ F H r := by
  obtain ⟨c | c, rfl⟩ := divG_of h
  · exact ev_div ha hb c
  · exact ev_bin op_fdivW (o2_I c fun _ => rfl) ha hb
theorem ev_modG {x y r : Int} (ha : Ev X a σ F H x) (hb : Ev X b σ F H y) (h : modG x y = some r) : Ev X (.BinOp a .Mod b pos) σ F H r := by
  obtain ⟨c, rfl⟩ := modG_of h; exact ev_mod ha hb c
/-! ### comparisons -/
theorem o2_lt {x y : Int} : Op2 K (rI0 fun i j => .bl (decide (i < j))) x y (decide (x < y)) := o2_I0 fun _ => rfl
theorem o2_le {x y : Int} : Op2 K (rI0 fun i j => .bl (decide (i ≤ j))) x y (decide (x ≤ y)) := o2_I0 fun _ => rfl
theorem o2_gt {x y : Int} : Op2 K (rI0 fun i j => .bl (decide (j < i))) x y (decide (y < x)) := o2_I0 fun _ => rfl
theorem o2_ge {x y : Int} : Op2 K (rI0 fun i j => .bl (decide (j ≤ i))) x y (decide (y ≤ x)) := o2_I0 fun _ => rfl
/-- scalars that == tells apart -/
class Sc (α : Type) [Rp α] [DecidableEq α] : Prop where
  sc : ∀ {K : PySem.W.Frag} {F : Hp} {v w : V} {x y : α}, rp K F v x → rp K F w y → scal v w = true ∧ decide (v = w) = decide (x = y)
instance : Sc Int := ⟨fun {K F v w x y} h1 h2 => by
  have h1 : v = .int x := h1
  have h2 : w = .int y := h2
  subst h1; subst h2
  exact ⟨rfl, by simp⟩⟩
instance : Sc Str := ⟨fun {K F v w x y} h1 h2 => by
  have h1 : v = .str x := h1
  have h2 : w = .str y := h2
  subst h1; subst h2
  exact ⟨rfl, by simp⟩⟩
instance : Sc Bool := ⟨fun {K F v w x y} h1 h2 => by
  have h1 : v = .bl x := h1
  have h2 : w = .bl y := h2
  subst h1; subst h2
  exact ⟨rfl, by simp⟩⟩
theorem o2_eq {α : Type} [Rp α] [DecidableEq α] [Sc α] {x y : α} : Op2 K rEq x y (decide (x = y)) := fun F H v w Q s rv rw k => by
  obtain ⟨h1, h2⟩ := Sc.sc rv rw
  exact ⟨h1, k _ F H (.refl s) (congrArg V.bl h2)⟩
theorem o2_ne {α : Type} [Rp α] [DecidableEq α] [Sc α] {x y : α} : Op2 K rNe x y (!decide (x = y)) := fun F H v w Q s rv rw k => by
  obtain ⟨h1, h2⟩ := Sc.sc rv rw
  exact ⟨h1, k _ F H (.refl s) (congrArg (fun t => V.bl (!t)) h2)⟩
theorem ev_isNone {α : Type} [Rp α] [NN α] {x : Option α} {j : Nat} {pos' : Pos} (ha : Ev X a σ F H x) : Ev X (.Compare a [.Is] [.Constant .none j pos'] pos) σ F H x.isNone := fun F1 H1 g Q q =>
  GoE.of (pe_cmp (pc_isN pe_go) rfl) (ha F1 H1 g _ fun v F2 H2 g2 r2 => q _ F2 H2 g2 (congrArg V.bl (rp_isNone r2)))
theorem ev_notNone {α : Type} [Rp α] [NN α] {x : Option α} {j : Nat} {pos' : Pos} (ha : Ev X a σ F H x) : Ev X (.Compare a [.IsNot] [.Constant .none j pos'] pos) σ F H (!x.isNone) := fun F1 H1 g Q q =>
  GoE.of (pe_cmp (pc_notN pe_go) rfl) (ha F1 H1 g _ fun v F2 H2 g2 r2 => q _ F2 H2 g2 (congrArg (fun t => V.bl (!t)) (rp_isNone r2)))
theorem et_isNone {α : Type} [Rp α] [NN α] {x : Option α} {j : Nat} {pos' : Pos} (ha : Ev X a σ F H x) : EvT X (.Compare a [.Is] [.Constant .none j pos'] pos) σ F H x.isNone := fun F1 H1 g Q q =>
  GoT.of (pt_cmp (pc_isN pe_go) rfl) (ha F1 H1 g _ fun v F2 H2 g2 r2 => ⟨x.isNone, congrArg V.bl (rp_isNone r2), q F2 H2 g2⟩)
theorem et_notNone {α : Type} [Rp α] [NN α] {x : Option α} {j : Nat} {pos' : Pos} (ha : Ev X a σ F H x) : EvT X (.Compare a [.IsNot] [.Constant .none j pos'] pos) σ F H (!x.isNone) := fun F1 H1 g Q q =>
  GoT.of (pt_cmp (pc_notN pe_go) rfl) (ha F1 H1 g _ fun v F2 H2 g2 r2 => ⟨!x.isNone, congrArg (fun t => V.bl (!t)) (rp_isNone r2), q F2 H2 g2⟩)
/-! ### tests -/
theorem et_val {x : Bool} (h : Ev X e σ F H x) (he : ∀ whole, isTrue e X.env whole = (do let v ← whole; standAt e.pos; holding [v] (truthy v)) := by intro _; rfl) : EvT X e σ F H x := fun F1 H1 g Q q =>
  GoT.of (pt_val pe_go he) (h F1 H1 g _ fun v F2 H2 g2 r2 => ⟨x, r2, q F2 H2 g2⟩)
theorem et_not {x : Bool} (h : EvT X a σ F H x) : EvT X (.UnaryOp .Not a pos) σ F H (!x) := fun F1 H1 g Q q => GoT.of (pt_not pt_go) (h F1 H1 g _ fun F2 H2 g2 => q F2 H2 g2)
theorem ev_not {x : Bool} (h : Ev X a σ F H x) : Ev X (.UnaryOp .Not a pos) σ F H (!x) := fun F1 H1 g Q q => GoE.of (pe_not pe_go) (h F1 H1 g _ fun v F2 H2 g2 r2 => ⟨x, r2, q _ F2 H2 g2 rfl⟩)
def GoW (X : Cx) (e : Expr) : TT := fun σ H Q => Bx (∀ whole pins s, Inv X pins σ H s → wpAny (model X.prog X.w) X.A (isTrue e X.env whole) (TP X pins σ Q) X.xe s)
theorem pw_go : PW X e (GoW X e) := ⟨fun wh pins s σ H Q I h => h.o wh pins s I⟩
theorem GoW.of {t : TT} {Q : Bool → Hp → Prop} (p : PW X e t) (h : t σ H Q) : GoW X e σ H Q := ⟨fun wh pins s I => p.run wh pins s σ H Q I h⟩
def EvW (X : Cx) (e : Expr) (σ : L2.St) (F H : Hp) (b : Bool) : Prop := ∀ F1 H1, GrX X.K F H F1 H1 → ∀ Q : Bool → Hp → Prop, (∀ F2 H2, Gr F1 H1 F2 H2 → Q b H2) → GoW X e σ H1 Q
theorem EvW.t {x : Bool} (h : EvW X e σ F H x) : EvT X e σ F H x := fun F1 H1 g Q q => GoT.of (PW.pt pw_go) (h F1 H1 g Q q)
theorem EvW.cg {x y : Bool} (h : x = y) (r : EvW X e σ F H x) : EvW X e σ F H y := h ▸ r
theorem EvT.cg {x y : Bool} (h : x = y) (r : EvT X e σ F H x) : EvT X e σ F H y := h ▸ r
theorem Ev.cg {α : Type} [Rp α] {x y : α} (h : x = y) (r : Ev X e σ F H x) : Ev X e σ F H y := h ▸ r
theorem ew_and1 {x : Bool} (h : EvT X a σ F H x) : EvW X (.BoolOp .And [a] pos) σ F H x := fun F1 H1 g Q q => GoW.of (pw_and1 pt_go) (h F1 H1 g Q q)
theorem ew_or1 {x : Bool} (h : EvT X a σ F H x) : EvW X (.BoolOp .Or [a] pos) σ F H x := fun F1 H1 g Q q => GoW.of (pw_or1 pt_go) (h F1 H1 g Q q)
theorem ew_and {x r : Bool} {rest : List Expr} (ha : EvT X a σ F H x) (hb : x = true → EvW X (.BoolOp .And (b :: rest) pos) σ F H r) (hn : x = false → r = false) : EvW X (.BoolOp .And (a :: b :: rest) pos) σ F H r := fun F1 H1 g Q q =>
  GoW.of (pw_and pt_go pw_go) (ha F1 H1 g _ fun F2 H2 g2 => by
    cases x with
    | true => rw [if_pos rfl]; exact hb rfl F2 H2 (g.trans g2) Q fun F3 H3 g3 => q F3 H3 (g2.trans g3)
    | false =>
      rw [if_neg Bool.false_ne_true]
      have e := hn rfl
      subst e
      exact q F2 H2 g2)
theorem ew_or {x r : Bool} {rest : List Expr} (ha : EvT X a σ F H x) (hb : x = false → EvW X (.BoolOp .Or (b :: rest) pos) σ F H r) (hn : x = true → r = true) : EvW X (.BoolOp .Or (a :: b :: rest) pos) σ F H r := fun F1 H1 g Q q =>
  GoW.of (pw_or pt_go pw_go) (ha F1 H1 g _ fun F2 H2 g2 => by
    cases x with
    | false => rw [if_neg Bool.false_ne_true]; exact hb rfl F2 H2 (g.trans g2) Q fun F3 H3 g3 => q F3 H3 (g2.trans g3)
    | true =>
      rw [if_pos rfl]
      have e := hn rfl
      subst e
      exact q F2 H2 g2)
theorem ew_andP {x y : Bool} {rest : List Expr} (ha : EvT X a σ F H x) (hb : EvW X (.BoolOp .And (b :: rest) pos) σ F H y) : EvW X (.BoolOp .And (a :: b :: rest) pos) σ F H (x && y) :=
  ew_and ha (fun h => by subst h; exact hb) (fun h => by subst h; rfl)
theorem ew_orP {x y : Bool} {rest : List Expr} (ha : EvT X a σ F H x) (hb : EvW X (.BoolOp .Or (b :: rest) pos) σ F H y) : EvW X (.BoolOp .Or (a :: b :: rest) pos) σ F H (x || y) :=
  ew_or ha (fun h => by subst h; exact hb) (fun h => by subst h; rfl)
theorem ev_one {α : Type} [Rp α] {x : α} {op : BoolOp} (h : Ev X a σ F H x) : Ev X (.BoolOp op [a] pos) σ F H x := fun F1 H1 g Q q => GoE.of (pe_one pe_go) (h F1 H1 g Q q)
theorem ev_and {x r : Bool} {rest : List Expr} (ha : Ev X a σ F H x) (hb : x = true → Ev X (.BoolOp .And (b :: rest) pos) σ F H r) (hn : x = false → r = false) : Ev X (.BoolOp .And (a :: b :: rest) pos) σ F H r := fun F1 H1 g Q q =>
  GoE.of (pe_and pe_go pe_go) (ha F1 H1 g _ fun v F2 H2 g2 r2 => ⟨x, r2, by
    cases x with
    | true => rw [if_pos rfl]; exact hb rfl F2 H2 (g.trans g2) Q fun v F3 H3 g3 => q v F3 H3 (g2.trans g3)
    | false =>
      rw [if_neg Bool.false_ne_true]
      have e := hn rfl
      subst e
      exact q _ F2 H2 g2 rfl⟩)
theorem ev_or {x r : Bool} {rest : List Expr} (ha : Ev X a σ F H x) (hb : x = false → Ev X (.BoolOp .Or (b :: rest) pos) σ F H r) (hn : x = true → r = true) : Ev X (.BoolOp .Or (a :: b :: rest) pos) σ F H r := fun F1 H1 g Q q =>
  GoE.of (pe_or pe_go pe_go) (ha F1 H1 g _ fun v F2 H2 g2 r2 => ⟨x, r2, by
    cases x with
    | false => rw [if_neg Bool.false_ne_true]; exact hb rfl F2 H2 (g.trans g2) Q fun v F3 H3 g3 => q v F3 H3 (g2.trans g3)
    | true =>
      rw [if_pos rfl]
      have e := hn rfl
      subst e
      exact q _ F2 H2 g2 rfl⟩)
theorem ev_andP {x y : Bool} {rest : List Expr} (ha : Ev X a σ F H x) (hb : Ev X (.BoolOp .And (b :: rest) pos) σ F H y) : Ev X (.BoolOp .And (a :: b :: rest) pos) σ F H (x && y) :=
  ev_and ha (fun h => by subst h; exact hb) (fun h => by subst h; rfl)
theorem ev_orP {x y : Bool} {rest : List Expr} (ha : Ev X a σ F H x) (hb : Ev X (.BoolOp .Or (b :: rest) pos) σ F H y) : Ev X (.BoolOp .Or (a :: b :: rest) pos) σ F H (x || y) :=
  ev_or ha (fun h => by subst h; exact hb) (fun h => by subst h; rfl)
theorem ev_if {α : Type} [Rp α] {x : α} {t : Bool} (hc : EvT X c σ F H t) (ha : t = true → Ev X a σ F H x) (hb : t = false → Ev X b σ F H x) : Ev X (.IfExp c a b pos) σ F H x := fun F1 H1 g Q q =>
  GoE.of (pe_ifExp pt_go pe_go pe_go) (hc F1 H1 g _ fun F2 H2 g2 => by
    cases t with
    | true => rw [if_pos rfl]; exact ha rfl F2 H2 (g.trans g2) Q fun v F3 H3 g3 => q v F3 H3 (g2.trans g3)
    | false => rw [if_neg Bool.false_ne_true]; exact hb rfl F2 H2 (g.trans g2) Q fun v F3 H3 g3 => q v F3 H3 (g2.trans g3))
theorem ev_ifP {α : Type} [Rp α] {x y : α} {t : Bool} (hc : EvT X c σ F H t) (ha : Ev X a σ F H x) (hb : Ev X b σ F H y) : Ev X (.IfExp c a b pos) σ F H (if t then x else y) :=
  ev_if hc (fun h => by subst h; exact ha) (fun h => by subst h; exact hb)

/-! ### items -/
theorem Rps.get {α : Type} [Rp α] : ∀ {vs : List V} {xs : List α} {i : Nat} {x : α}, Rps K F vs xs → xs[i]? = some x → ∃ v, vs[i]? = some v ∧ rp K F v x
  | _, _, _, _, .nil, e => by simp at e
  | _, _, 0, _, .cons r _, e => by simp at e; subst e; exact ⟨_, rfl, r⟩
  | _, _, i + 1, x, .cons _ t, e => by
    obtain ⟨u, h1, h2⟩ := Rps.get (i := i) (x := x) t (by simpa using e)
    exact ⟨u, by simpa using h1, h2⟩
theorem Rps.atI {α : Type} [Rp α] {vs : List V} {xs : List α} {i : Int} {x : α} (h : Rps K F vs xs) (e : atI xs i = some x) : ∃ v, L2.atI vs i = some v ∧ rp K F v x := by
  unfold L2.atI at e ⊢
  rw [h.length]
  cases q : ixN xs.length i with
  | none => rw [q] at e; cases e
  | some j =>
    rw [q] at e
    exact h.get e
theorem ev_ixL {α : Type} [Rp α] {xs : List α} {i : Int} {x : α} (ha : Ev X a σ F H xs) (hb : Ev X b σ F H i) (h : L2.atI xs i = some x) (hs : PlainIx b := by exact fun _ _ => rfl) : Ev X (.Subscript a b pos) σ F H x := fun F1 H1 g Q q =>
  GoE.of (pe_ix ix_list pe_go pe_go hs) (ha F1 H1 g _ fun v F2 H2 g2 r2 => hb F2 H2 (g.trans g2) _ fun w F3 H3 g3 r3 => by
    obtain ⟨p, vs, rfl, sq, rs⟩ := Rp.mono g3.ff r2
    obtain ⟨y, hy, ry⟩ := rs.atI h
    exact ⟨p, vs, i, y, rfl, r3, g3.fh.seq sq, hy, q y F3 H3 (g2.trans g3) ry⟩)
theorem ev_ixTp {α θ : Type} [Rp α] [Rp θ] [TL θ α] {xs : θ} {i : Int} {x : α} (ha : Ev X a σ F H xs) (hb : Ev X b σ F H i) (h : L2.atI (TL.l xs) i = some x) (hs : PlainIx b := by exact fun _ _ => rfl) : Ev X (.Subscript a b pos) σ F H x := fun F1 H1 g Q q =>
  GoE.of (pe_ix ix_tup pe_go pe_go hs) (ha F1 H1 g _ fun v F2 H2 g2 r2 => hb F2 H2 (g.trans g2) _ fun w F3 H3 g3 r3 => by
    obtain ⟨p, vs, rfl, sq, rs⟩ := TL.sq (Rp.mono g3.ff r2)
    obtain ⟨y, hy, ry⟩ := rs.atI h
    exact ⟨p, vs, i, y, rfl, r3, sqT_mono g3.fh sq, hy, q y F3 H3 (g2.trans g3) ry⟩)
/-- the i-th of a row -/
def Proj {τ α : Type} [Ra τ] [Rp α] (i : Int) (y : τ) (x : α) : Prop := ∀ (K : PySem.W.Frag) (F : Hp) (vs : List V), ra K F vs y → ∃ v, L2.atI vs i = some v ∧ rp K F v x
theorem pj0 {α τ : Type} [Rp α] [Ra τ] {x : α} {y : τ} : Proj 0 (x, y) x := fun K F vs ⟨v, r, e, p, q⟩ => ⟨v, by subst e; show (ixN (r.length + 1) 0).bind _ = _; unfold ixN; rw [if_pos (by decide), if_pos (by omega)]; rfl, p⟩
theorem pj1 {α β τ : Type} [Rp α] [Rp β] [Ra τ] {x : α} {z : β} {y : τ} : Proj 1 (x, z, y) z := fun K F vs ⟨v, r, e, p, v', r', e', p', q⟩ => ⟨v', by subst e; subst e'; show (ixN (r'.length + 1 + 1) 1).bind _ = _; unfold ixN; rw [if_pos (by decide), if_pos (by omega)]; rfl, p'⟩
theorem pj2 {α β γ τ : Type} [Rp α] [Rp β] [Rp γ] [Ra τ] {x : α} {z : β} {u : γ} {y : τ} : Proj 2 (x, z, u, y) u := fun K F vs ⟨v, r, e, p, v', r', e', p', v2, r2, e2, p2, q⟩ => ⟨v2, by subst e; subst e'; subst e2; show (ixN (r2.length + 1 + 1 + 1) 2).bind _ = _; unfold ixN; rw [if_pos (by decide), if_pos (by omega)]; rfl, p2⟩
theorem pj3 {α β γ δ τ : Type} [Rp α] [Rp β] [Rp γ] [Rp δ] [Ra τ] {x : α} {z : β} {u : γ} {t : δ} {y : τ} : Proj 3 (x, z, u, t, y) t := fun K F vs ⟨v, r, e, p, v', r', e', p', v2, r2, e2, p2, v3, r3, e3, p3, q⟩ => ⟨v3, by subst e; subst e'; subst e2; subst e3; show (ixN (r3.length + 1 + 1 + 1 + 1) 3).bind _ = _; unfold ixN; rw [if_pos (by decide), if_pos (by omega)]; rfl, p3⟩
theorem pj4 {α β γ δ ε τ : Type} [Rp α] [Rp β] [Rp γ] [Rp δ] [Rp ε] [Ra τ] {x : α} {z : β} {u : γ} {t : δ} {t2 : ε} {y : τ} : Proj 4 (x, z, u, t, t2, y) t2 := fun K F vs ⟨v, r, e, p, v', r', e', p', v2, r2, e2, p2, v3, r3, e3, p3, v4, r4, e4, p4, q⟩ => ⟨v4, by subst e; subst e'; subst e2; subst e3; subst e4; show (ixN (r4.length + 1 + 1 + 1 + 1 + 1) 4).bind _ = _; unfold ixN; rw [if_pos (by decide), if_pos (by omega)]; rfl, p4⟩
/-- what stands as a tuple -/
class Tup (θ : Type) (τ : outParam Type) [Ra τ] [Rp θ] where
  row : θ → τ
  eq : ∀ {K : PySem.W.Frag} {F : Hp} {v : V} {x : θ}, rp K F v x ↔ rpT row K F v x
instance {α : Type} [Rp α] : Tup (T1 α) (α × Unit) := ⟨T1.row, Iff.rfl⟩
instance {α β : Type} [Rp α] [Rp β] : Tup (T2 α β) (α × β × Unit) := ⟨T2.row, Iff.rfl⟩
instance {α β γ : Type} [Rp α] [Rp β] [Rp γ] : Tup (T3 α β γ) (α × β × γ × Unit) := ⟨T3.row, Iff.rfl⟩
instance {α β γ δ : Type} [Rp α] [Rp β] [Rp γ] [Rp δ] : Tup (T4 α β γ δ) (α × β × γ × δ × Unit) := ⟨T4.row, Iff.rfl⟩
instance {α β γ δ ε : Type} [Rp α] [Rp β] [Rp γ] [Rp δ] [Rp ε] : Tup (T5 α β γ δ ε) (α × β × γ × δ × ε × Unit) := ⟨T5.row, Iff.rfl⟩
theorem ev_ixT {θ τ α : Type} [Ra τ] [Rp θ] [Tup θ τ] [Rp α] {t : θ} {i : Int} {x : α} (ha : Ev X a σ F H t) (hb : Ev X b σ F H i) (h : Proj i (Tup.row t) x) (hs : PlainIx b := by exact fun _ _ => rfl) : Ev X (.Subscript a b pos) σ F H x := fun F1 H1 g Q q =>
  GoE.of (pe_ix ix_tup pe_go pe_go hs) (ha F1 H1 g _ fun v F2 H2 g2 r2 => hb F2 H2 (g.trans g2) _ fun w F3 H3 g3 r3 => by
    obtain ⟨p, vs, rfl, sq, rs⟩ := Tup.eq.mp (Rp.mono g3.ff r2)
    obtain ⟨y, hy, ry⟩ := h _ _ _ rs
    exact ⟨p, vs, i, y, rfl, r3, seqT_mono g3.fh sq, hy, q y F3 H3 (g2.trans g3) ry⟩)
/-- a sign of a text -/
def sAt (z : Str) (i : Int) : Option Str := if z.length ≤ sizeLine then (L2.atI z.cps.toList i).map fun c => ⟨#[c]⟩ else none
theorem ev_ixS {z : Str} {i : Int} {x : Str} (ha : Ev X a σ F H z) (hb : Ev X b σ F H i) (h : sAt z i = some x) (hs : PlainIx b := by exact fun _ _ => rfl) : Ev X (.Subscript a b pos) σ F H x := fun F1 H1 g Q q =>
  GoE.of (pe_ix ix_str pe_go pe_go hs) (ha F1 H1 g _ fun v F2 H2 g2 r2 => hb F2 H2 (g.trans g2) _ fun w F3 H3 g3 r3 => by
    unfold sAt at h
    split at h
    · rename_i hz
      obtain ⟨c, hc, rfl⟩ := Option.map_eq_some_iff.mp h
      exact ⟨z, i, c, r2, r3, hz, hc, q _ F3 H3 (g2.trans g3) rfl⟩
    · cases h)
/-! ### slices -/
def GoO (X : Cx) (o : Option Expr) : TO := fun σ H Q => Bx (∀ pins s, Inv X pins σ H s → wpAny (model X.prog X.w) X.A (evalPart o X.env) (fun u s' => ∃ o H', Inv X pins σ H' s' ∧ IsPart u o ∧ Q o H') X.xe s)
theorem po_go {o : Option Expr} : PO X o (GoO X o) := ⟨fun pins s σ H Q I h => h.o pins s I⟩
theorem GoO.of {o : Option Expr} {t : TO} {Q : Option Int → Hp → Prop} (p : PO X o t) (h : t σ H Q) : GoO X o σ H Q := ⟨fun pins s I => p.run pins s σ H Q I h⟩
def EvO (X : Cx) (o : Option Expr) (σ : L2.St) (F H : Hp) (i : Option Int) : Prop := ∀ F1 H1, GrX X.K F H F1 H1 → ∀ Q : Option Int → Hp → Prop, (∀ F2 H2, Gr F1 H1 F2 H2 → Q i H2) → GoO X o σ H1 Q
theorem eo_none : EvO X none σ F H none := fun F1 H1 g Q q => GoO.of po_none (q F1 H1 (.refl g.fh))
theorem eo_some {i : Int} (h : Ev X e σ F H i) : EvO X (some e) σ F H (some i) := fun F1 H1 g Q q => GoO.of (po_some pe_go) (h F1 H1 g _ fun v F2 H2 g2 r2 => ⟨i, r2, q F2 H2 g2⟩)
/-- a part of a list -/
def cut {α : Type} (xs : List α) (lo hi : Option Int) : List α := (xs.drop (HT.sIx xs.length 0 lo)).take (HT.sIx xs.length xs.length hi - HT.sIx xs.length 0 lo)
theorem Rps.drop {α : Type} [Rp α] : ∀ {vs : List V} {xs : List α} (n : Nat), Rps K F vs xs → Rps K F (vs.drop n) (xs.drop n)
  | _, _, 0, h => h
  | _, _, _ + 1, .nil => .nil
  | _, _, n + 1, .cons _ t => Rps.drop n t
theorem Rps.take {α : Type} [Rp α] : ∀ {vs : List V} {xs : List α} (n : Nat), Rps K F vs xs → Rps K F (vs.take n) (xs.take n)
  | _, _, 0, _ => .nil
  | _, _, _ + 1, .nil => .nil
  | _, _, n + 1, .cons r t => .cons r (Rps.take n t)
theorem Rps.append {α : Type} [Rp α] : ∀ {vs ws : List V} {xs ys : List α}, Rps K F vs xs → Rps K F ws ys → Rps K F (vs ++ ws) (xs ++ ys)
  | _, _, _, _, .nil, s => s
  | _, _, _, _, .cons r t, s => .cons r (Rps.append t s)
theorem Rps.cut {α : Type} [Rp α] {vs : List V} {xs : List α} (h : Rps K F vs xs) (lo hi : Option Int) : Rps K F (cutV vs lo hi) (Gx.cut xs lo hi) := by
  unfold cutV Gx.cut
  rw [h.length]
  exact (h.drop _).take _

/-! ### a new list that is private so far -/
/-- a thing that is changed where it stands -/
class Ob (α : Type) [Rp α] where
  ob : PySem.W.Frag → Hp → HO → α → Prop
  mono : ∀ {K : PySem.W.Frag} {F F' : Hp} {o : HO} {x : α}, L2.Same F F' → ob K F o x → ob K F' o x
  mu : ∀ {K : PySem.W.Frag} {F : Hp} {o : HO} {x : α}, ob K F o x → Mut (some o)
  ls : ∀ {K : PySem.W.Frag} {F : Hp} {o : HO} {x : α}, ob K F o x → lstish o
  fz : ∀ {K : PySem.W.Frag} {F : Hp} {o : HO} {x : α} {l : Addr} {od : Obj}, F l = some (.frz od o) → ob K F o x → rp K F (.ref l) x
open Ob (ob)
instance {α : Type} [Rp α] : Ob (List α) := ⟨fun K F o xs => ∃ vs, o = .lst vs ∧ Rps K F vs xs, fun s ⟨vs, e, r⟩ => ⟨vs, e, r.mono s⟩, fun ⟨vs, e, r⟩ => e ▸ trivial, fun ⟨vs, e, r⟩ => e ▸ trivial,
  fun {K F o x l od} h ⟨vs, e, r⟩ => ⟨l, vs, rfl, .inl (.inr ⟨od, e ▸ h⟩), r⟩⟩
theorem Ob.pl {α : Type} [Rp α] [Ob α] {o : HO} {x : α} (h : ob K F o x) : pln o := by
  have m := Ob.mu h
  have l := Ob.ls h
  cases o <;> first | trivial | exact m | exact l
theorem ob_lst {α : Type} [Rp α] {vs : List V} {xs : List α} (r : Rps K F vs xs) : ob K F (.lst vs) xs := ⟨vs, rfl, r⟩
/-- e gives a new thing x; nothing else knows it -/
def EvN {α : Type} [Rp α] [Ob α] (X : Cx) (e : Expr) (σ : L2.St) (F H : Hp) (x : α) : Prop := ∀ F1 H1, GrX X.K F H F1 H1 → ∀ Q : VK, (∀ l o F2 H2, Gr F1 H1 F2 H2 → H1 l = none → F2 l = none → H2 l = some o → ob X.K F2 o x → Q (.ref l) H2) → GoE X e σ H1 Q
theorem Gr.freeze {F H : Hp} {F0 H0 : Hp} {l : Addr} {o : HO} (g : Gr F0 H0 F H) (n : H0 l = none) (hf : F l = none) (pl : PlAt H l) (no : ntb o := by trivial) : Gr F0 H0 (upd F l o) (upd H l o) := by
  refine ⟨fun b u e => ?_, fun b u e => ?_, g.hh.poke n pl no, fun a o h ns => ?_⟩
  · have e1 := g.ff b u e
    rw [upd_ne (ne_of_none e1 hf)]; exact e1
  · by_cases hb : b = l
    · subst hb; rw [upd_same] at e ⊢; exact e
    · rw [upd_ne hb] at e ⊢; exact g.fh _ _ e
  · by_cases hb : a = l
    · subst hb; rw [n] at h; cases h
    · rw [upd_ne hb]; exact g.fr a o h ns
theorem GrX.freeze {F H : Hp} {F0 H0 : Hp} {l : Addr} {o : HO} (g : GrX K F0 H0 F H) (n : H0 l = none) (hf : F l = none) (pl : PlAt H l) (no : ntb o := by trivial) : GrX K F0 H0 (upd F l o) (upd H l o) := ⟨g.toGr.freeze n hf pl no, (g.h.upd pl no).2⟩
theorem GoE.lock {Q Q' : VK} (h : GoE X e σ H Q') (k : ∀ v H2, Q' v H2 → ∃ l o, H2 l = some o ∧ Mut (some o) ∧ ∀ od, Q v (upd H2 l (.frz od o))) : GoE X e σ H Q := .mk fun pins s I => thn (h.o pins s I) fun v s' ⟨x, H', I', r, q⟩ => by
  obtain ⟨l, o, hl, mu, q'⟩ := k _ _ q
  obtain ⟨od, I2⟩ := I'.lock hl mu
  exact ⟨x, _, I2, r, q' od⟩
theorem GoE.locked {Q : VK} {l : Addr} {o : HO} (hl : H l = some o) (mu : Mut (some o)) (h : ∀ od, GoE X e σ (upd H l (.frz od o)) fun v H2 => H2 l = some (.frz od o) ∧ Q v (upd H2 l o)) : GoE X e σ H Q := .mk fun pins s I => by
  obtain ⟨od, I1⟩ := I.lock hl mu
  exact thn ((h od).o pins s I1) fun v s' ⟨x, H', I2, r, e2, q⟩ => ⟨x, _, I2.unlock e2 (I.nofrz hl mu), r, q⟩
theorem GoT.locked {Q : Bool → Hp → Prop} {l : Addr} {o : HO} (hl : H l = some o) (mu : Mut (some o)) (h : ∀ od, GoT X e σ (upd H l (.frz od o)) fun v H2 => H2 l = some (.frz od o) ∧ Q v (upd H2 l o)) : GoT X e σ H Q := .mk fun pins s I => by
  obtain ⟨od, I1⟩ := I.lock hl mu
  exact thn ((h od).o pins s I1) fun v s' q0 => by
    obtain ⟨H', I2, e2, q⟩ := q0
    exact ⟨_, I2.unlock e2 (I.nofrz hl mu), q⟩
theorem GoS.locked {sts : List Stmt} {D : Ends} {l : Addr} {o : HO} (hl : H l = some o) (mu : Mut (some o)) (h : ∀ od, GoS X sts D σ (upd H l (.frz od o))) : GoS X sts D σ H := .mk fun pins s I => by
  obtain ⟨od, I1⟩ := I.lock hl mu
  exact (h od).o pins s I1
theorem same_upd {F : Hp} {l : Addr} {o : HO} (hf : F l = none) : L2.Same F (upd F l o) := fun b u e => by
  rw [upd_ne (ne_of_none e hf)]; exact e
theorem rp_lst {α : Type} [Rp α] {l : Addr} {vs : List V} {xs : List α} (hf : F l = none) (r : Rps K F vs xs) : rp K (upd F l (.lst vs)) (.ref l) xs := ⟨l, vs, rfl, SqL.of upd_same, r.mono (same_upd hf)⟩
theorem EvN.ev {α : Type} [Rp α] [Ob α] {x : α} (h : EvN X e σ F H x) : Ev X e σ F H x := fun F1 H1 g Q q =>
  GoE.lock (Q' := fun v H2 => ∃ l o F2, v = .ref l ∧ Gr F1 H1 F2 H2 ∧ H1 l = none ∧ F2 l = none ∧ H2 l = some o ∧ ob X.K F2 o x) (h F1 H1 g _ fun l o F2 H2 g2 n2 f2 h2 r2 => ⟨l, o, F2, rfl, g2, n2, f2, h2, r2⟩)
    fun v H2 ⟨l, o, F2, e, g2, n2, f2, h2, r2⟩ => ⟨l, o, h2, Ob.mu r2, fun od => by
      subst e
      exact q _ (upd F2 l (.frz od o)) _ (g2.freeze n2 f2 ⟨o, h2, Ob.pl r2⟩) (Ob.fz upd_same (Ob.mono (same_upd f2) r2))⟩
theorem EvN.newO {α : Type} [Rp α] [Ob α] {x : α} {F1 H1 : Hp} {Q : VK} {F2 H2 : Hp} {o : HO} {p : Addr} (q : ∀ l o F2 H2, Gr F1 H1 F2 H2 → H1 l = none → F2 l = none → H2 l = some o → ob X.K F2 o x → Q (.ref l) H2)
    (g : Gr F1 H1 F2 H2) (hp : H2 p = none) (r : ob X.K F2 o x) : Q (.ref p) (upd H2 p o) :=
  q p o F2 _ (g.trans (Gr.newP g.fh hp (Ob.pl r).ntb)) (g.hh.free hp) (g.fh.free hp) upd_same r
theorem EvN.new {α : Type} [Rp α] {xs : List α} {F1 H1 : Hp} {Q : VK} {F2 H2 : Hp} {vs : List V} {p : Addr} (q : ∀ l o F2 H2, Gr F1 H1 F2 H2 → H1 l = none → F2 l = none → H2 l = some o → ob X.K F2 o xs → Q (.ref l) H2)
    (g : Gr F1 H1 F2 H2) (hp : H2 p = none) (r : Rps X.K F2 vs xs) : Q (.ref p) (upd H2 p (.lst vs)) := EvN.newO q g hp (ob_lst r)
theorem en_slice {α : Type} [Rp α] {xs : List α} {lo hi : Option Expr} {i j : Option Int} {p2 : Pos} (ha : Ev X a σ F H xs) (hl : EvO X lo σ F H i) (hh : EvO X hi σ F H j) : EvN X (.Subscript a (.Slice lo hi none p2) pos) σ F H (cut xs i j) := fun F1 H1 g Q q =>
  GoE.of (pe_slice sl_list pe_go po_go po_go) (ha F1 H1 g _ fun v F2 H2 g2 r2 => hl F2 H2 (g.trans g2) _ fun F3 H3 g3 => hh F3 H3 ((g.trans g2).trans g3) _ fun F4 H4 g4 => by
    obtain ⟨p, vs, rfl, sq, rs⟩ := Rp.mono (g3.ff.trans g4.ff) r2
    exact ⟨p, vs, rfl, g4.fh.seq sq, fun p hp => EvN.new q ((g2.trans g3).trans g4) hp (rs.cut i j)⟩)
/-- a part of a text -/
def sCut (z : Str) (lo hi : Option Int) : Option Str := if z.length ≤ sizeLine then some (cutS z lo hi) else none
theorem ev_sliceS {z : Str} {lo hi : Option Expr} {i j : Option Int} {p2 : Pos} {r : Str} (ha : Ev X a σ F H z) (hl : EvO X lo σ F H i) (hh : EvO X hi σ F H j) (h : sCut z i j = some r) : Ev X (.Subscript a (.Slice lo hi none p2) pos) σ F H r := fun F1 H1 g Q q =>
  GoE.of (pe_slice sl_str pe_go po_go po_go) (ha F1 H1 g _ fun v F2 H2 g2 r2 => hl F2 H2 (g.trans g2) _ fun F3 H3 g3 => hh F3 H3 ((g.trans g2).trans g3) _ fun F4 H4 g4 => by
    unfold sCut at h
    split at h
    · rename_i hz
      exact ⟨z, r2, hz, q _ F4 H4 ((g2.trans g3).trans g4) (congrArg V.str (Option.some.inj h))⟩
    · cases h)
/-! ### displays -/
def EvL {α : Type} [Rp α] (X : Cx) (es : List Expr) (σ : L2.St) (F H : Hp) (xs : List α) : Prop := ∀ F1 H1, GrX X.K F H F1 H1 → ∀ Q : List V → Hp → Prop, (∀ vs F2 H2, Gr F1 H1 F2 H2 → Rps X.K F2 vs xs → Q vs H2) → GoA X es σ H1 Q
theorem el_nil {α : Type} [Rp α] : EvL X [] σ F H ([] : List α) := fun F1 H1 g Q q => GoA.of pa_nil (q [] F1 H1 (.refl g.fh) .nil)
theorem el_cons {α : Type} [Rp α] {x : α} {xs : List α} (ha : Ev X e σ F H x) (hr : EvL X es σ F H xs) (hs : starEach (e :: es) X.env = (false, eval e X.env) :: starEach es X.env := by rfl) : EvL X (e :: es) σ F H (x :: xs) := fun F1 H1 g Q q =>
  GoA.of (pa_cons pe_go pa_go hs) (ha F1 H1 g _ fun v F2 H2 g2 r2 => hr F2 H2 (g.trans g2) _ fun vs F3 H3 g3 r3 => q _ F3 H3 (g2.trans g3) (.cons (Rp.mono g3.ff r2) r3))
theorem en_list {α : Type} [Rp α] {xs : List α} (h : EvL X es σ F H xs) (hz : xs.length ≤ sizeLine) : EvN X (.List es pos) σ F H xs := fun F1 H1 g Q q =>
  GoE.of (pe_lst pa_go) (h F1 H1 g _ fun vs F2 H2 g2 r2 => ⟨by rw [r2.length]; exact hz, fun p hp => EvN.new q g2 hp r2⟩)
theorem ev_tp {α : Type} [Rp α] {xs : List α} {k : Nat} (h : EvL X es σ F H xs) (hz : xs.length ≤ sizeLine) : Ev X (.Tuple es k pos) σ F H (Tp.mk xs) := fun F1 H1 g Q q =>
  GoE.of (pe_tup pa_go) (h F1 H1 g _ fun vs F2 H2 g2 r2 => ⟨by rw [r2.length]; exact hz, fun p hp => q _ (upd F2 p (.tup vs)) _ (g2.trans (Gr.new g2.fh hp)) ⟨p, vs, rfl, upd_same, r2.mono (same_upd (g2.fh.free hp))⟩⟩)
class RaN (τ : Type) [Ra τ] where
  n : Nat
  len : ∀ {K : PySem.W.Frag} {F : Hp} {vs : List V} {x : τ}, ra K F vs x → vs.length = n
instance : RaN Unit := ⟨0, fun {K F vs x} h => by
  have e : vs = [] := h
  rw [e]; rfl⟩
instance {α τ : Type} [Rp α] [Ra τ] [RaN τ] : RaN (α × τ) := ⟨RaN.n τ + 1, fun ⟨v, r, e, p, q⟩ => by rw [e, List.length_cons, RaN.len q]⟩
theorem ev_tup {θ τ : Type} [Ra τ] [RaN τ] [Rp θ] [Tup θ τ] {x : θ} {k : Nat} (h : EvA X es σ F H (Tup.row x)) (hz : RaN.n τ ≤ sizeLine) : Ev X (.Tuple es k pos) σ F H x := fun F1 H1 g Q q =>
  GoE.of (pe_tup pa_go) (h F1 H1 g _ fun vs F2 H2 g2 r2 => ⟨by rw [RaN.len r2]; exact hz, fun p hp => q _ (upd F2 p (.tup vs)) _ (g2.trans (Gr.new g2.fh hp)) (Tup.eq.mpr ⟨p, vs, rfl, upd_same, Ra.mono (same_upd (g2.fh.free hp)) r2⟩)⟩)
theorem ev_tup2 {α β : Type} [Rp α] [Rp β] {x : α} {y : β} {k : Nat} (h : EvA X es σ F H (x, y, ())) : Ev X (.Tuple es k pos) σ F H (T2.mk x y) := ev_tup (θ := T2 α β) h (by show 2 ≤ sizeLine; decide)
theorem ev_tup3 {α β γ : Type} [Rp α] [Rp β] [Rp γ] {x : α} {y : β} {z : γ} {k : Nat} (h : EvA X es σ F H (x, y, z, ())) : Ev X (.Tuple es k pos) σ F H (T3.mk x y z) := ev_tup (θ := T3 α β γ) h (by show 3 ≤ sizeLine; decide)
theorem ev_tup4 {α β γ δ : Type} [Rp α] [Rp β] [Rp γ] [Rp δ] {x : α} {y : β} {z : γ} {u : δ} {k : Nat} (h : EvA X es σ F H (x, y, z, u, ())) : Ev X (.Tuple es k pos) σ F H (T4.mk x y z u) := ev_tup (θ := T4 α β γ δ) h (by show 4 ≤ sizeLine; decide)
theorem ev_tup1 {α : Type} [Rp α] {x : α} {k : Nat} (h : EvA X es σ F H (x, ())) : Ev X (.Tuple es k pos) σ F H (T1.mk x) := ev_tup (θ := T1 α) h (by show 1 ≤ sizeLine; decide)

/-! ### calls -/
/-- the promise: from arguments a with f a = some r a value of r; new things alone are made -/
def Pr (K : PySem.W.Frag) {τ ρ : Type} [Ra τ] [Rp ρ] (f : τ → Option ρ) : Sp := fun vs H Q _ => ∃ F a r, SmX K F H ∧ ra K F vs a ∧ f a = some r ∧ ∀ F' H' u, Gr F H F' H' → rp K F' u r → Q u H'
theorem ev_call {τ ρ : Type} [Ra τ] [Rp ρ] {f : τ → Option ρ} {y : τ} {r : ρ} {k : Nat} {fa : Addr} {fd : FuncData} {ps : List Str} {x : Str} {p : Pos} (Fn : FnOk X.prog X.w X.K X.mg X.base CX0 k fa fd ps (Pr X.K f)) (hr : Room k X.A) (hm : X.mg x = some (.ref fa))
    (hk : PySem.W.keepIn X.K (.ref fa) = true) (hb : Binds X.K fd ps []) (ha : EvA X (e :: es) σ F H y) (h : f y = some r) (hg : Gl X x := by rfl) (hdb : (x == ("__debug__" : Str)) = false := by decide)
    (he : starEach (e :: es) X.env = (false, eval e X.env) :: starEach es X.env := by rfl) (hpl : (backTo pos (starEach es X.env)).any (·.1) = false := by rfl) : Ev X (.Call (.Name x p) (e :: es) [] pos) σ F H r := fun F1 H1 g Q q =>
  GoE.of (pe_call Fn hr hg hm hk hb .nil pass0 pa_go hdb he hpl) (ha F1 H1 g _ fun vs F2 H2 g2 r2 => ⟨F2, y, r, (g.trans g2).sm, by rw [List.append_nil]; exact r2, h, fun F3 H3 u g3 r3 => q u F3 H3 (g2.trans g3) r3⟩)
theorem ev_call0 {ρ : Type} [Rp ρ] {f : Unit → Option ρ} {r : ρ} {k : Nat} {fa : Addr} {fd : FuncData} {ps : List Str} {x : Str} {p : Pos} (Fn : FnOk X.prog X.w X.K X.mg X.base CX0 k fa fd ps (Pr X.K f)) (hr : Room k X.A) (hm : X.mg x = some (.ref fa))
    (hk : PySem.W.keepIn X.K (.ref fa) = true) (hb : Binds X.K fd ps []) (h : f () = some r) (hg : Gl X x := by rfl) (hdb : (x == ("__debug__" : Str)) = false := by decide) : Ev X (.Call (.Name x p) [] [] pos) σ F H r := fun F1 H1 g Q q =>
  GoE.of (pe_call0 Fn hr hg hm hk hb .nil pass0 hdb) ⟨F1, (), r, g.sm, rfl, h, fun F3 H3 u g3 r3 => q u F3 H3 g3 r3⟩
/-- a built-in by its rule -/
def OpC {τ ρ : Type} [Ra τ] [Rp ρ] (K : PySem.W.Frag) (r : List V → Hp → VK → Prop) (y : τ) (z : ρ) : Prop := ∀ (F H : Hp) (vs : List V) (Q : VK), L2.Same F H → ra K F vs y → (∀ u F' H', Gr F H F' H' → rp K F' u z → Q u H') → r vs H Q
theorem ev_callB {τ ρ : Type} [Ra τ] [Rp ρ] {y : τ} {z : ρ} {id : String} {x : Str} {p : Pos} {r : List V → Hp → VK → Prop} (hc : CallR X (.builtin id) r) (ho : OpC X.K r y z) (hm : X.mg x = none) (hv : bootBuiltins x = some (.builtin id)) (ha : EvA X (e :: es) σ F H y) (hg : Gl X x := by rfl)
    (hn : x ≠ "__name__" := by decide) (hdb : (x == ("__debug__" : Str)) = false := by decide)
    (he : starEach (e :: es) X.env = (false, eval e X.env) :: starEach es X.env := by rfl) (hpl : (backTo pos (starEach es X.env)).any (·.1) = false := by rfl) : Ev X (.Call (.Name x p) (e :: es) [] pos) σ F H z := fun F1 H1 g Q q =>
  GoE.of (pe_callB hc hg hm hv pa_go hn hdb he hpl) (ha F1 H1 g _ fun vs F2 H2 g2 r2 => ho F2 H2 vs Q g2.fh r2 fun u F3 H3 g3 r3 => q u F3 H3 (g2.trans g3) r3)
theorem ev_callTy {τ ρ : Type} [Ra τ] [Rp ρ] {y : τ} {z : ρ} {T : String} {x : Str} {p : Pos} {r : List V → Hp → VK → Prop} (hc : CallR X (.type T) r) (ho : OpC X.K r y z) (hm : X.mg x = none) (hv : bootBuiltins x = some (.type T)) (ha : EvA X (e :: es) σ F H y) (hg : Gl X x := by rfl)
    (hn : x ≠ "__name__" := by decide) (hdb : (x == ("__debug__" : Str)) = false := by decide)
    (he : starEach (e :: es) X.env = (false, eval e X.env) :: starEach es X.env := by rfl) (hpl : (backTo pos (starEach es X.env)).any (·.1) = false := by rfl) : Ev X (.Call (.Name x p) (e :: es) [] pos) σ F H z := fun F1 H1 g Q q =>
  GoE.of (pe_callTy hc hg hm hv pa_go hn hdb he hpl) (ha F1 H1 g _ fun vs F2 H2 g2 r2 => ho F2 H2 vs Q g2.fh r2 fun u F3 H3 g3 r3 => q u F3 H3 (g2.trans g3) r3)
theorem oc1 {α ρ : Type} [Rp α] [Rp ρ] {r : List V → Hp → VK → Prop} {y : α} {z : ρ} (h : ∀ (F H : Hp) (v : V) (Q : VK), L2.Same F H → rp K F v y → (∀ u F' H', Gr F H F' H' → rp K F' u z → Q u H') → r [v] H Q) : OpC K r (y, ()) z :=
  fun F H vs Q s ⟨v, w, e, rv, rw'⟩ k => by
    have e2 : w = [] := rw'
    subst e2; subst e
    exact h F H v Q s rv k
theorem oc2 {α β ρ : Type} [Rp α] [Rp β] [Rp ρ] {r : List V → Hp → VK → Prop} {y : α} {y' : β} {z : ρ} (h : ∀ (F H : Hp) (v w : V) (Q : VK), L2.Same F H → rp K F v y → rp K F w y' → (∀ u F' H', Gr F H F' H' → rp K F' u z → Q u H') → r [v, w] H Q) : OpC K r (y, y', ()) z :=
  fun F H vs Q s ⟨v, w, e, rv, v2, w2, e3, rv2, rw'⟩ k => by
    have e2 : w2 = [] := rw'
    subst e2; subst e3; subst e
    exact h F H v v2 Q s rv rv2 k
theorem oc_lenL {α : Type} [Rp α] {xs : List α} : OpC K (fun vs H Q => ∃ p ys, vs = [.ref p] ∧ (SqL K H p ys ∨ SqT K H p ys) ∧ Q (.int ys.length) H) (xs, ()) (xs.length : Int) :=
  oc1 fun F H v Q s ⟨p, vs, e, sq, rs⟩ k => ⟨p, vs, by rw [e], .inl (s.seq sq), k _ F H (.refl s) (congrArg (fun n : Nat => V.int n) rs.length)⟩
theorem oc_lenTp {α θ : Type} [Rp α] [Rp θ] [TL θ α] {xs : θ} : OpC K (fun vs H Q => ∃ p ys, vs = [.ref p] ∧ (SqL K H p ys ∨ SqT K H p ys) ∧ Q (.int ys.length) H) (xs, ()) ((TL.l xs).length : Int) :=
  oc1 fun F H v Q s r k => let ⟨p, vs, e, sq, rs⟩ := TL.sq r; ⟨p, vs, by rw [e], .inr (sqT_mono s sq), k _ F H (.refl s) (congrArg (fun n : Nat => V.int n) rs.length)⟩
theorem oc_lenT {θ τ : Type} [Ra τ] [RaN τ] [Rp θ] [Tup θ τ] {x : θ} : OpC K (fun vs H Q => ∃ p ys, vs = [.ref p] ∧ (SqL K H p ys ∨ SqT K H p ys) ∧ Q (.int ys.length) H) (x, ()) ((RaN.n τ : Nat) : Int) :=
  oc1 fun F H v Q s r k => by
    obtain ⟨p, vs, e, sq, rs⟩ := Tup.eq.mp r
    exact ⟨p, vs, by rw [e], .inr (seqT_mono s sq), k _ F H (.refl s) (congrArg (fun n : Nat => V.int n) (RaN.len rs))⟩
/-- the length of a text -/
def sLen (z : Str) : Option Int := if z.length ≤ sizeLine then some (z.length : Int) else none
theorem oc_lenS {z : Str} {r : Int} (h : sLen z = some r) : OpC K (fun xs H Q => ∃ z, xs = [.str z] ∧ z.length ≤ sizeLine ∧ Q (.int z.length) H) (z, ()) r :=
  oc1 fun F H v Q s e k => by
    have e : v = .str z := e
    unfold sLen at h
    split at h
    · rename_i hz
      exact ⟨z, by rw [e], hz, k _ F H (.refl s) (congrArg V.int (Option.some.inj h))⟩
    · cases h
theorem oc_list {α : Type} [Rp α] {xs : List α} : OpC K (fun vs H Q => ∃ p ys, vs = [.ref p] ∧ (SqL K H p ys ∨ SqT K H p ys) ∧ ∀ l, H l = none → Q (.ref l) (upd H l (.lst ys))) (xs, ()) xs :=
  oc1 fun F H v Q s ⟨p, vs, e, sq, rs⟩ k => ⟨p, vs, by rw [e], .inl (s.seq sq), fun l hl => k _ (upd F l (.lst vs)) _ (Gr.new s hl) (rp_lst (s.free hl) rs)⟩
/-! ### kinds -/
theorem isi_const {α : Type} [Rp α] {x : α} {T U : String} {r : Bool} (hx : ∀ {F H : Hp} {v : V}, L2.Same F H → rp K F v x → TyX K H v (.type U)) (h : kitB U T = some r) : ∀ (F H : Hp) (v : V) (Q : VK), L2.Same F H → rp K F v x → (∀ u F' H', Gr F H F' H' → rp K F' u r → Q u H') → rIsi K [v, .ty T] H Q :=
  fun F H v Q s rv k => ⟨v, .ty T, _, _, r, rfl, .ty T, hx s rv, kit_ty h, k _ F H (.refl s) rfl⟩
end
end Gx

/-! Gz: statements, loops, texts. -/
namespace Gx
open PySem PySem.Spec PyProof.Rows L2
open Rp (rp)
open Ra (ra)
open Ob (ob)
section
variable {X : Cx} {K : PySem.W.Frag} {e a b c d : Expr} {es : List Expr} {σ : L2.St} {F H F0 H0 : Hp} {pos : Pos} {D : Ends} {st : Stmt} {rest body : List Stmt}
/-! ### statements -/
theorem go_set {α : Type} [Rp α] {x : α} {n : Str} {p : Pos} (i : Nat) (s : SmX X.K F H) (he : Ev X e σ F H x) (k : ∀ v F' H', Gr F H F' H' → rp X.K F' v x → GoS X rest D (σ.set i (some v)) H') (hN : X.N.Nodup) (hi : X.N[i]? = some n := by rfl)
    (hx : Loc X.env.scope n := by first | exact Or.inl rfl | exact Or.inr rfl) (hs : swapsWith e (some (.Name n p)) pos.line X.env = pure false := by rfl) (hf : X.fn n = true ∨ X.env.scope.names.lookup n = some .local := by first | exact .inl rfl | exact .inr rfl) :
    GoS X (.Assign [.Name n p] e pos :: rest) D σ H :=
  GoS.cons (ps_set hN hi hx pe_go hs hf) (he F H (.refl s) _ fun v F2 H2 g r => k v F2 H2 g r)
theorem go_setN {α : Type} [Rp α] [Ob α] {x : α} {n : Str} {p : Pos} (i : Nat) (s : SmX X.K F H) (he : EvN X e σ F H x) (k : ∀ l o F' H', Gr F H F' H' → H l = none → F' l = none → H' l = some o → ob X.K F' o x → GoS X rest D (σ.set i (some (.ref l))) H') (hN : X.N.Nodup) (hi : X.N[i]? = some n := by rfl)
    (hx : Loc X.env.scope n := by first | exact Or.inl rfl | exact Or.inr rfl) (hs : swapsWith e (some (.Name n p)) pos.line X.env = pure false := by rfl) (hf : X.fn n = true ∨ X.env.scope.names.lookup n = some .local := by first | exact .inl rfl | exact .inr rfl) :
    GoS X (.Assign [.Name n p] e pos :: rest) D σ H :=
  GoS.cons (ps_set hN hi hx pe_go hs hf) (he F H (.refl s) _ fun l o F2 H2 g n f h r => k l o F2 H2 g n f h r)
theorem go_ret {α : Type} [Rp α] {x : α} (s : SmX X.K F H) (he : Ev X e σ F H x) (k : ∀ v F' H', Gr F H F' H' → rp X.K F' v x → D.rt v H') : GoS X (.Return (some e) pos :: rest) D σ H :=
  GoS.cons (ps_ret pe_go) (he F H (.refl s) _ fun v F2 H2 g r => k v F2 H2 g r)
theorem go_retN (k : D.rt .non H) : GoS X (.Return none pos :: rest) D σ H := GoS.cons ps_retN k
theorem go_brk (k : D.bk σ H) : GoS X (.Break pos :: rest) D σ H := GoS.cons ps_break k
theorem go_cont (k : D.ct σ H) : GoS X (.Continue pos :: rest) D σ H := GoS.cons ps_continue k
theorem go_pass (k : GoS X rest D σ H) : GoS X (.Pass pos :: rest) D σ H := GoS.cons ps_pass k
theorem go_expr {α : Type} [Rp α] {x : α} (s : SmX X.K F H) (he : Ev X e σ F H x) (k : ∀ F' H', Gr F H F' H' → GoS X rest D σ H') (hs : swapsWith e none pos.line X.env = pure false := by rfl) : GoS X (.Expr e pos :: rest) D σ H :=
  GoS.cons (ps_expr pe_go hs) (he F H (.refl s) _ fun v F2 H2 g r => k F2 H2 g)
theorem go_if {t : Bool} {as bs : List Stmt} (s : SmX X.K F H) (hc : EvT X c σ F H t) (ka : t = true → ∀ F' H', Gr F H F' H' → GoS X as { D with nx := GoS X rest D } σ H') (kb : t = false → ∀ F' H', Gr F H F' H' → GoS X bs { D with nx := GoS X rest D } σ H') :
    GoS X (.If c as bs pos :: rest) D σ H :=
  GoS.cons (ps_if pt_go pss_go pss_go) (hc F H (.refl s) _ fun F2 H2 g => by
    cases t with
    | true => rw [if_pos rfl]; exact ka rfl F2 H2 g
    | false => rw [if_neg Bool.false_ne_true]; exact kb rfl F2 H2 g)
/-- the ways meet behind: P -/
theorem go_ifj {t : Bool} {as bs : List Stmt} (P : L2.St → Hp → Prop) (s : SmX X.K F H) (hc : EvT X c σ F H t) (ka : t = true → ∀ F' H', Gr F H F' H' → GoS X as { D with nx := P } σ H') (kb : t = false → ∀ F' H', Gr F H F' H' → GoS X bs { D with nx := P } σ H')
    (k : ∀ σ' H', P σ' H' → GoS X rest D σ' H') : GoS X (.If c as bs pos :: rest) D σ H :=
  go_if s hc (fun e F' H' g => (ka e F' H' g).mono k (fun _ _ h => h) (fun _ _ h => h) fun _ _ h => h) (fun e F' H' g => (kb e F' H' g).mono k (fun _ _ h => h) (fun _ _ h => h) fun _ _ h => h)
/-! ### a private thing -/
structure Own {α : Type} [Rp α] [Ob α] (K : PySem.W.Frag) (H0 F H : Hp) (l : Addr) (x : α) : Prop where
  n : H0 l = none
  f : F l = none
  h : ∃ o, H l = some o ∧ ob K F o x
section
variable {α β : Type} [Rp α] [Ob α] [Rp β] [Ob β] {x y : α} {l l' : Addr}
theorem Own.ne0 (o : Own K H0 F H l x) : H l ≠ none := by
  obtain ⟨u, h, _⟩ := o.h
  rw [h]; exact fun e => nomatch e
theorem Own.up {F' H' : Hp} (o : Own K H0 F H l x) (g : Gr F H F' H') : Own K H0 F' H' l x := by
  obtain ⟨u, h, r⟩ := o.h
  exact ⟨o.n, (g.fr l _ h (Ob.ls r)).trans o.f, u, g.hh.k _ _ h (Ob.pl r).ntb, Ob.mono g.ff r⟩
theorem Own.pl (o : Own K H0 F H l x) : PlAt H l := by
  obtain ⟨u, h, r⟩ := o.h
  exact ⟨u, h, Ob.pl r⟩
theorem Own.other {u : HO} (o : Own K H0 F H l x) (h : l ≠ l') : Own K H0 F (upd H l' u) l x := by
  obtain ⟨v, e, r⟩ := o.h
  exact ⟨o.n, o.f, v, by rw [upd_ne h]; exact e, r⟩
/-- it becomes shared -/
theorem Own.freeze {st : List Stmt} (o : Own X.K H0 F H l x) (g : GrX X.K F0 H0 F H) (k : ∀ F' H', L2.Same F F' → L2.Same F' H' → GrX X.K F0 H0 F' H' → rp X.K F' (.ref l) x → (∀ a, a ≠ l → F' a = F a ∧ H' a = H a) → GoS X st D σ H') : GoS X st D σ H := by
  obtain ⟨u, h, r⟩ := o.h
  refine GoS.locked h (Ob.mu r) fun od => ?_
  have g2 := g.freeze (o := .frz od u) o.n o.f o.pl
  exact k _ _ (same_upd o.f) g2.fh g2 (Ob.fz upd_same (Ob.mono (same_upd o.f) r)) fun a ha => ⟨upd_ne ha, upd_ne ha⟩
theorem Own.keepF {F' H' : Hp} (o : Own K H0 F H l x) (hl : l ≠ l') (s : L2.Same F F') (k : ∀ a, a ≠ l' → F' a = F a ∧ H' a = H a) : Own K H0 F' H' l x := by
  obtain ⟨u, h, r⟩ := o.h
  exact ⟨o.n, (k l hl).1.trans o.f, u, (k l hl).2.trans h, Ob.mono s r⟩
theorem Own.ne {H1 : Hp} (o : Own K H0 F H l x) (h : H l' = none) : l ≠ l' := fun e => o.ne0 (e ▸ h)
theorem Own.set {u : HO} {z : β} (n : H0 l = none) (f : F l = none) (r : ob K F u z) : Own K H0 F (upd H l u) l z := ⟨n, f, u, upd_same, r⟩
end
theorem Gr.poke {F H : Hp} {l : Addr} {u : HO} (g : Gr F0 H0 F H) (n : H0 l = none) (f : F l = none) (pl : PlAt H l) (no : ntb u := by trivial) : Gr F0 H0 F (upd H l u) := by
  refine ⟨g.ff, fun b o e => ?_, g.hh.poke n pl no, g.fr⟩
  rw [upd_ne (ne_of_none e f)]; exact g.fh _ _ e
theorem GrX.poke {F H : Hp} {l : Addr} {u : HO} (g : GrX K F0 H0 F H) (n : H0 l = none) (f : F l = none) (pl : PlAt H l) (no : PlAt (upd H l u) l) : GrX K F0 H0 F (upd H l u) := by
  have no : ntb u := by
    obtain ⟨o, e, p⟩ := no
    rw [upd_same] at e; cases e; exact p.ntb
  exact ⟨g.toGr.poke n f pl no, (g.h.upd (v := u) pl no).1⟩
/-- appending within the bound -/
def app {α : Type} (xs : List α) (y : α) : Option (List α) := if xs.length < sizeLine then some (xs ++ [y]) else none
theorem app_of {α : Type} {xs : List α} {y : α} {r : List α} (h : app xs y = some r) : xs.length < sizeLine ∧ xs ++ [y] = r := by
  unfold app at h; split at h
  · exact ⟨by assumption, Option.some.inj h⟩
  · cases h
theorem go_append {α : Type} [Rp α] {xs : List α} {y : α} {r : List α} {l : Addr} {n : Str} {p1 p2 p3 : Pos} (i : Nat) (s : SmX X.K F H) (o : Own X.K H0 F H l xs) (hσ : σ[i]? = some (some (.ref l))) (he : Ev X e σ F H y) (h : app xs y = some r)
    (k : ∀ u F' H', Gr F H F' H' → PlAt H' l → F' l = none → Own X.K H0 F' (upd H' l u) l r → GoS X rest D σ (upd H' l u)) (hN : X.N[i]? = some n := by rfl) (hv : Vis X.env.scope n := by first | exact Or.inl rfl | exact Or.inr (Or.inl rfl) | exact Or.inr (Or.inr rfl))
    (hd : (n == ("__debug__" : Str)) = false := by decide) (hcd : (n == ("__classdict__" : Str)) = false := by decide) 
    (hbase : attributeBase (.Name n p1) "append" X.env (eval (.Name n p1) X.env) = eval (.Name n p1) X.env := by rfl)
    (hfew : ((backTo p3 (starEach [e] X.env)).all (fun x => !x.1) && (backToKw p3 (keywordEach [] X.env)).all (fun x => x.1.isSome) && decide ([e].length + ([] : List Keyword).length + (if ([] : List Keyword).isEmpty then 0 else 1) < 30)) = true := by rfl)
    (hline : (p2.endLine == p3.line) = true := by rfl) (hs : starEach [e] X.env = (false, eval e X.env) :: starEach [] X.env := by rfl) (hplain : (backTo p3 (starEach [] X.env)).any (·.1) = false := by rfl) (hsw : swapsWith (.Call (.Attribute (.Name n p1) "append" p2) [e] [] p3) none pos.line X.env = pure false := by rfl) :
    GoS X (.Expr (.Call (.Attribute (.Name n p1) "append" p2) [e] [] p3) pos :: rest) D σ H := by
  obtain ⟨_, hl, vs, rfl, rs⟩ := o.h
  obtain ⟨hz, rfl⟩ := app_of h
  refine GoS.cons (ps_expr (pe_bm PySem.F.plainAttrs_list PySem.F.slot_list_append PySem.F.type_list_append mt_append (pe_var hN hv hd hcd) (pa_cons pe_go pa_nil hs) hbase hfew hline hs hplain) hsw) ?_
  refine ⟨_, hσ, .inl ⟨rfl, _, SqL.of hl⟩, he F H (.refl s) _ fun v F2 H2 g r => ?_⟩
  have o2 := o.up g
  have hl2 := g.hh.k _ _ hl trivial
  exact ⟨l, vs, v, rfl, rfl, hl2, by rw [rs.length]; exact hz, k _ F2 H2 g o2.pl o2.f (Own.set o2.n o2.f (ob_lst (Rps.append (rs.mono g.ff) (.cons r .nil))))⟩

/-! ### what is walked -/
def Wk {α : Type} [Rp α] (K : PySem.W.Frag) (J : It) (F H : Hp) (xs : List α) : Prop := ∀ i Fi Hi, L2.Same F Fi → L2.Same Fi Hi → (∀ x, xs[i]? = some x → J.go i Hi ∧ ∀ v H', J.yld i Hi v H' → ∃ F', Gr Fi Hi F' H' ∧ rp K F' v x) ∧ (i = xs.length → J.stop i Hi)
def EvI {α : Type} [Rp α] (X : Cx) (tg iter : Expr) (σ : L2.St) (F H : Hp) (xs : List α) : Prop := ∀ F1 H1, GrX X.K F H F1 H1 → ∀ R : It → Hp → Prop, (∀ J F2 H2, Gr F1 H1 F2 H2 → Wk X.K J F2 H2 xs → R J H2) → GoI X tg iter σ H1 R
theorem ei_list {α : Type} [Rp α] {xs : List α} {tg : Expr} (h : Ev X e σ F H xs) : EvI X tg e σ F H xs := fun F1 H1 g R q =>
  GoI.of (pi_list pe_go) (h F1 H1 g _ fun v F2 H2 g2 ⟨a, vs, e, sq, rs⟩ => ⟨a, e, ⟨vs, g2.fh.seq sq⟩, q _ F2 H2 g2 fun i Fi Hi s1 s2 => by
    have sq' := s2.seq (s1.seq sq)
    refine ⟨fun x hx => ?_, fun e => ⟨vs, sq', by rw [e, rs.length]; exact Nat.le_refl _⟩⟩
    obtain ⟨y, hy, ry⟩ := rs.get hx
    refine ⟨⟨vs, y, sq', hy⟩, fun v H' ⟨e1, e2⟩ => ?_⟩
    subst e1
    have e3 := e2 vs sq'
    rw [hy] at e3
    cases e3
    exact ⟨Fi, .refl s2, Rp.mono s1 ry⟩⟩)
theorem ei_tp {α θ : Type} [Rp α] [Rp θ] [TL θ α] {xs : θ} {tg : Expr} (h : Ev X e σ F H xs) : EvI X tg e σ F H (TL.l xs) := fun F1 H1 g R q =>
  GoI.of (pi_tup pe_go) (h F1 H1 g _ fun v F2 H2 g2 r2 => let ⟨a, vs, e, sq, rs⟩ := TL.sq r2; ⟨a, e, ⟨vs, sqT_mono g2.fh sq⟩, q _ F2 H2 g2 fun i Fi Hi s1 s2 => by
    have sq' := sqT_mono (K := X.K) s2 (sqT_mono s1 sq)
    refine ⟨fun x hx => ?_, fun e => ⟨vs, sq', by rw [e, rs.length]; exact Nat.le_refl _⟩⟩
    obtain ⟨y, hy, ry⟩ := rs.get hx
    refine ⟨⟨vs, y, sq', hy⟩, fun v H' ⟨e1, e2⟩ => ?_⟩
    subst e1
    have e3 := e2 vs sq'
    rw [hy] at e3
    cases e3
    exact ⟨Fi, .refl s2, Rp.mono s1 ry⟩⟩)
/-- the intsF from lo on, n of them -/
def intsF (lo : Int) (n : Nat) : List Int := (List.range n).map fun (i : Nat) => lo + (i : Int)
theorem ints_get {lo : Int} {n i : Nat} {x : Int} (h : (intsF lo n)[i]? = some x) : i < n ∧ x = lo + i := by
  unfold intsF at h
  rw [List.getElem?_map] at h
  obtain ⟨j, hj, e⟩ := Option.map_eq_some_iff.mp h
  rw [List.getElem?_range] at hj
  · have e1 : i = j := Option.some.inj hj
    subst e1
    refine ⟨?_, e.symm⟩
    rcases Nat.lt_or_ge i n with h1 | h1
    · exact h1
    · rw [List.getElem?_eq_none (by simpa using h1)] at h; cases h
  · rcases Nat.lt_or_ge i n with h1 | h1
    · exact h1
    · rw [List.getElem?_eq_none (by simpa using h1)] at hj; cases hj
theorem ints_len {lo : Int} {n : Nat} : (intsF lo n).length = n := by unfold intsF; simp
theorem wk_range {lo : Int} {n : Nat} : Wk K (Itr lo n) F H (intsF lo n) := fun i Fi Hi s1 s2 => by
  refine ⟨fun x hx => ?_, fun e => by rw [ints_len] at e; exact Nat.le_of_eq e.symm⟩
  obtain ⟨h1, rfl⟩ := ints_get hx
  refine ⟨h1, fun v H' ⟨e1, e2⟩ => ?_⟩
  subst e1
  exact ⟨Fi, .refl s2, e2⟩
def rngG (j : Int) : Option (List Int) := if -(2 ^ 62) ≤ j ∧ j < 2 ^ 62 then some (intsF 0 j.toNat) else none
def rngG2 (i j : Int) : Option (List Int) := if -(2 ^ 62) ≤ i ∧ i < 2 ^ 62 ∧ -(2 ^ 62) ≤ j ∧ j < 2 ^ 62 then some (intsF i (j - i).toNat) else none
theorem ei_range1 {j : Int} {r : List Int} {tg : Expr} {p : Pos} (h : Ev X a σ F H j) (hr : rngG j = some r) (hm : X.mg "range" = none) (hg : Gl X "range" := by rfl) (hs : starEach [a] X.env = [(false, eval a X.env)] := by rfl) : EvI X tg (.Call (.Name "range" p) [a] [] pos) σ F H r := fun F1 H1 g R q =>
  GoI.of (pi_range1 hg hm (pa_cons pe_go pa_nil (by rw [hs]; rfl)) hs) (h F1 H1 g _ fun v F2 H2 g2 r2 => by
    unfold rngG at hr
    split at hr
    · rename_i hj
      cases hr
      have r2 : v = .int j := r2
      exact ⟨j, by rw [r2], hj.1, hj.2, q _ F2 H2 g2 wk_range⟩
    · cases hr)
theorem ei_range2 {i j : Int} {r : List Int} {tg : Expr} {p : Pos} (h : Ev X a σ F H i) (h' : Ev X b σ F H j) (hr : rngG2 i j = some r) (hm : X.mg "range" = none) (hg : Gl X "range" := by rfl) (hs : starEach [a, b] X.env = [(false, eval a X.env), (false, eval b X.env)] := by rfl) (hs2 : starEach [b] X.env = [(false, eval b X.env)] := by rfl) :
    EvI X tg (.Call (.Name "range" p) [a, b] [] pos) σ F H r := fun F1 H1 g R q =>
  GoI.of (pi_range2 hg hm (pa_cons pe_go (pa_cons pe_go pa_nil (by rw [hs2]; rfl)) (by rw [hs, hs2])) hs hs2) (h F1 H1 g _ fun v F2 H2 g2 r2 => h' F2 H2 (g.trans g2) _ fun v' F3 H3 g3 r3 => by
    unfold rngG2 at hr
    split at hr
    · rename_i hj
      cases hr
      have r2 : v = .int i := r2
      have r3 : v' = .int j := r3
      exact ⟨i, j, by rw [r2, r3], hj, q _ F3 H3 (g2.trans g3) wk_range⟩
    · cases hr)
/-- a text's sgns -/
def sgns (x : Str) : List Str := x.cps.toList.map fun c => ⟨#[c]⟩
theorem ei_str {x : Str} {tg : Expr} (h : Ev X e σ F H x) : EvI X tg e σ F H (sgns x) := fun F1 H1 g R q =>
  GoI.of (pi_str pe_go) (h F1 H1 g _ fun v F2 H2 g2 r2 => ⟨x, r2, q _ F2 H2 g2 fun i Fi Hi s1 s2 => by
    unfold sgns
    refine ⟨fun y hy => ?_, fun e => by rw [e]; simp [Its]⟩
    rw [List.getElem?_map] at hy
    obtain ⟨c, hc, rfl⟩ := Option.map_eq_some_iff.mp hy
    have hc' : x.cps[i]? = some c := by simpa using hc
    refine ⟨?_, fun v H' ⟨e1, c', e2, e3⟩ => ?_⟩
    · show i < x.cps.size
      exact (Array.getElem?_eq_some_iff.mp hc').1
    · subst e1
      rw [hc'] at e2
      cases e2
      exact ⟨Fi, .refl s2, e3⟩⟩)

/-! ### loops -/
inductive Lp (β ρ : Type) where
  | nx (b : β) | bk (b : β) | rt (r : ρ)
def loopM {α β ρ : Type} (st : β → α → Option (Lp β ρ)) : β → List α → Option (Lp β ρ)
  | b, [] => some (.nx b)
  | b, x :: xs => match st b x with
    | none => none
    | some (.nx b') => loopM st b' xs
    | some (.bk b') => some (.bk b')
    | some (.rt r) => some (.rt r)
/-- what a turn with the outcome o is to reach -/
abbrev LE {β ρ : Type} (Iv : β → L2.St → Hp → Hp → Prop) (Rt : ρ → V → Hp → Prop) (F : Hp) (o : Lp β ρ) : Ends :=
  { nx := fun σ' H' => ∃ b' F', o = .nx b' ∧ L2.Same F F' ∧ L2.Same F' H' ∧ Iv b' σ' F' H', ct := fun σ' H' => ∃ b' F', o = .nx b' ∧ L2.Same F F' ∧ L2.Same F' H' ∧ Iv b' σ' F' H',
    bk := fun σ' H' => ∃ b' F', o = .bk b' ∧ L2.Same F F' ∧ L2.Same F' H' ∧ Iv b' σ' F' H', rt := fun v H' => ∃ r, o = .rt r ∧ Rt r v H' }
theorem go_for {α β ρ : Type} [Rp α] {tg iter : Expr} {g : TG} (xs : List α) (stp : β → α → Option (Lp β ρ)) (b0 : β) {o : Lp β ρ} (s : SmX X.K F H) (hi : EvI X tg iter σ F H xs) (hg : PG X tg g) (ho : loopM stp b0 xs = some o)
    (k : ∀ F2 H2, Gr F H F2 H2 → ∃ (Iv : β → L2.St → Hp → Hp → Prop) (Rt : ρ → V → Hp → Prop), Iv b0 σ F2 H2 ∧
      (∀ b x o', stp b x = some o' → ∀ σ F H v, L2.Same F2 F → L2.Same F H → Iv b σ F H → ∀ F' H', Gr F H F' H' → rp X.K F' v x → ∀ Q : L2.St → Hp → Prop, (∀ σ' H'', GoS X body (LE Iv Rt F o') σ' H'' → Q σ' H'') → g v σ H' Q) ∧
      (match o with | .nx b => ∀ σ F H, L2.Same F H → Iv b σ F H → GoS X rest D σ H | .bk b => ∀ σ F H, L2.Same F H → Iv b σ F H → GoS X rest D σ H | .rt r => ∀ v H, Rt r v H → D.rt v H))
    (hp : PassesOwn (model X.prog X.w) X.A X.env X.xe) (hc : X.calm = true := by rfl) (hs : ∀ x, foldedSetIterable iter X.env x = pure x := by intro _; rfl) : GoS X (.For tg iter body [] pos :: rest) D σ H := by
  refine GoS.cons (ps_for hp hc pi_go hg pss_go hs) (hi F H (.refl s) _ fun J F2 H2 g2 wk => ?_)
  obtain ⟨Iv, Rt, init, step, done⟩ := k F2 H2 g2
  refine ⟨fun i m σ H => m = xs.length - i ∧ i ≤ xs.length ∧ ∃ b F, L2.Same F2 F ∧ L2.Same F H ∧ Iv b σ F H ∧ loopM stp b (xs.drop i) = some o, ⟨_, rfl, Nat.zero_le _, b0, F2, .refl _, g2.fh, init, ho⟩, ?_⟩
  rintro i m σ' H' ⟨rfl, hle, b, Fi, s1, s2, iv, hl⟩
  obtain ⟨w1, w2⟩ := wk i Fi H' s1 s2
  rcases Nat.lt_or_ge i xs.length with hlt | hge
  · obtain ⟨x, hx⟩ : ∃ x, xs[i]? = some x := ⟨xs[i], List.getElem?_eq_getElem hlt⟩
    obtain ⟨hgo, hy⟩ := w1 x hx
    have ed : xs.drop i = x :: xs.drop (i + 1) := by
      rw [List.drop_eq_getElem_cons hlt]
      rw [List.getElem?_eq_getElem hlt] at hx
      rw [Option.some.inj hx]
    rw [ed] at hl
    unfold loopM at hl
    cases hst : stp b x with
    | none => rw [hst] at hl; cases hl
    | some o' =>
      rw [hst] at hl
      refine .inr ⟨hgo, fun σ3 H3 => ∃ b' F', o' = .nx b' ∧ L2.Same Fi F' ∧ L2.Same F' H3 ∧ Iv b' σ3 F' H3, fun σ3 H3 ⟨b', F', e, f1, f2, iv'⟩ => ?_, fun v H3 hv => ?_⟩
      · subst e
        exact ⟨xs.length - (i + 1), by omega, rfl, hlt, b', F', s1.trans f1, f2, iv', hl⟩
      · obtain ⟨F', gr, rv⟩ := hy v H3 hv
        refine step b x o' hst σ' Fi H' v s1 s2 iv F' H3 gr rv _ fun σ4 H4 q => q.mono (fun _ _ h => h) (fun v' H5 ⟨r, e, hr⟩ => ?_) (fun σ5 H5 ⟨b', F5, e, f1, f2, iv'⟩ => ?_) fun _ _ h => h
        · subst e
          cases (Option.some.inj hl)
          exact done v' H5 hr
        · subst e
          cases (Option.some.inj hl)
          exact done σ5 F5 H5 f2 iv'
  · have e : i = xs.length := by omega
    subst e
    rw [List.drop_length] at hl
    cases (Option.some.inj hl)
    exact .inl ⟨w2 rfl, done σ' Fi H' s2 iv⟩
/-- while, with fuel -/
def whileM {β ρ : Type} (c : β → Option Bool) (st : β → Option (Lp β ρ)) : Nat → β → Option (Lp β ρ)
  | 0, _ => none
  | n + 1, b => match c b with
    | none => none
    | some false => some (.nx b)
    | some true => match st b with
      | none => none
      | some (.nx b') => whileM c st n b'
      | some (.bk b') => some (.bk b')
      | some (.rt r) => some (.rt r)
theorem go_while {β ρ : Type} (cn : β → Option Bool) (stp : β → Option (Lp β ρ)) (N : Nat) (b0 : β) {o : Lp β ρ} (Iv : β → L2.St → Hp → Hp → Prop) (Rt : ρ → V → Hp → Prop) (s : SmX X.K F H) (init : Iv b0 σ F H) (ho : whileM cn stp N b0 = some o)
    (kc : ∀ b t, cn b = some t → ∀ σ F H, L2.Same F H → Iv b σ F H → SmX X.K F H ∧ EvT X c σ F H t ∧ ∀ F' H', Gr F H F' H' → Iv b σ F' H')
    (kb : ∀ b o', cn b = some true → stp b = some o' → ∀ σ F H, L2.Same F H → Iv b σ F H → GoS X body (LE Iv Rt F o') σ H)
    (done : match o with | .nx b => ∀ σ F H, L2.Same F H → Iv b σ F H → GoS X rest D σ H | .bk b => ∀ σ F H, L2.Same F H → Iv b σ F H → GoS X rest D σ H | .rt r => ∀ v H, Rt r v H → D.rt v H)
    (hp : PassesOwn (model X.prog X.w) X.A X.env X.xe) : GoS X (.While c body [] pos :: rest) D σ H := by
  refine GoS.cons (ps_while hp pt_go pss_go) ?_
  refine ⟨fun m σ H => ∃ b F, L2.Same F H ∧ Iv b σ F H ∧ whileM cn stp m b = some o, ⟨N, b0, F, s.s, init, ho⟩, ?_⟩
  rintro m σ' H' ⟨b, Fi, s2, iv, hl⟩
  cases m with
  | zero => cases hl
  | succ m =>
    unfold whileM at hl
    cases hc : cn b with
    | none => rw [hc] at hl; cases hl
    | some t =>
      rw [hc] at hl
      obtain ⟨sx, ev, up⟩ := kc b t hc σ' Fi H' s2 iv
      refine ev Fi H' (.refl sx) _ fun F2 H2 g2 => ?_
      cases t with
      | false =>
        rw [if_neg Bool.false_ne_true]
        cases (Option.some.inj hl)
        exact done σ' F2 H2 g2.fh (up F2 H2 g2)
      | true =>
        rw [if_pos rfl]
        cases hst : stp b with
        | none => rw [hst] at hl; cases hl
        | some o' =>
          rw [hst] at hl
          refine ⟨fun σ3 H3 => ∃ b' F', o' = .nx b' ∧ L2.Same F2 F' ∧ L2.Same F' H3 ∧ Iv b' σ3 F' H3, fun σ3 H3 ⟨b', F', e, f1, f2, iv'⟩ => ?_, ?_⟩
          · subst e
            exact ⟨m, Nat.lt_succ_self _, b', F', f2, iv', hl⟩
          · refine (kb b o' hc hst σ' F2 H2 g2.fh (up F2 H2 g2)).mono (fun _ _ h => h) (fun v' H5 ⟨r, e, hr⟩ => ?_) (fun σ5 H5 ⟨b', F5, e, f1, f2, iv'⟩ => ?_) fun _ _ h => h
            · subst e
              cases (Option.some.inj hl)
              exact done v' H5 hr
            · subst e
              cases (Option.some.inj hl)
              exact done σ5 F5 H5 f2 iv'
/-! ### targets -/
theorem gn {i : Nat} {v : V} {Q : L2.St → Hp → Prop} {P : L2.St → Hp → Prop} (h : ∀ σ' H', P σ' H' → Q σ' H') (p : P (σ.set i (some v)) H) : gName i v σ H Q := h _ _ p

/-! ### texts -/
def sAdd (x y : Str) : Option Str := if x.length + y.length ≤ sizeLine then some (x ++ y) else none
theorem ev_addS {x y r : Str} (ha : Ev X a σ F H x) (hb : Ev X b σ F H y) (h : sAdd x y = some r) : Ev X (.BinOp a .Add b pos) σ F H r := ev_bin op_add_str (fun F H v w Q s rv rw' k => by
  unfold sAdd at h
  split at h
  · rename_i hz
    exact ⟨x, y, rv, rw', hz, k _ F H (.refl s) (congrArg V.str (Option.some.inj h))⟩
  · cases h) ha hb
/-- is the one sign x in z -/
def sIn (x z : Str) : Option Bool := match x.cps.toList with
  | [c] => some (decide (c ∈ z.cps.toList))
  | _ => none
theorem sIn_of {x z : Str} {r : Bool} (h : sIn x z = some r) : ∃ c, x = ⟨#[c]⟩ ∧ decide (c ∈ z.cps.toList) = r := by
  unfold sIn at h
  split at h
  · rename_i c hc
    refine ⟨c, ?_, Option.some.inj h⟩
    cases x with
    | mk cps => rw [← Array.toArray_toList (xs := cps), hc]
  · cases h
theorem o2_inS {x z : Str} {r : Bool} (h : sIn x z = some r) : Op2 K (fun x y H Q => ∃ (c : Nat) (z : Str), x = .str ⟨#[c]⟩ ∧ y = .str z ∧ Q (.bl (decide (c ∈ z.cps.toList))) H) x z r := fun F H v w Q s rv rw' k => by
  obtain ⟨c, rfl, e⟩ := sIn_of h
  exact ⟨c, z, rv, rw', k _ F H (.refl s) (congrArg V.bl e)⟩
theorem o2_notInS {x z : Str} {r : Bool} (h : sIn x z = some r) : Op2 K (fun x y H Q => ∃ (c : Nat) (z : Str), x = .str ⟨#[c]⟩ ∧ y = .str z ∧ Q (.bl (!decide (c ∈ z.cps.toList))) H) x z (!r) := fun F H v w Q s rv rw' k => by
  obtain ⟨c, rfl, e⟩ := sIn_of h
  exact ⟨c, z, rv, rw', k _ F H (.refl s) (congrArg (fun t => V.bl (!t)) e)⟩
/-- a text's method of one text -/
theorem ev_m1 {α : Type} [Rp α] {x y : Str} {z : α} {id : String} {name : Str} {apos : Pos} {r : V → List V → Hp → VK → Prop} (slot : Slot "str" name id) (ty : typeOf (.builtin id) = pure (.type "method_descriptor")) (rule : MtR X id r)
    (hr : ∀ (F H : Hp) (Q : VK), L2.Same F H → (∀ u F' H', Gr F H F' H' → rp X.K F' u z → Q u H') → r (.str x) [.str y] H Q) (ho : Ev X a σ F H x) (he : Ev X e σ F H y)
    (hs : starEach [e] X.env = [(false, eval e X.env)] := by rfl) (hbase : attributeBase a name X.env (eval a X.env) = eval a X.env := by rfl) (hline : (apos.endLine == pos.line) = true := by rfl) : Ev X (.Call (.Attribute a name apos) [e] [] pos) σ F H z := fun F1 H1 g Q q =>
  GoE.of (pe_m1 slot ty rule pe_go pe_go hs hbase hline) (ho F1 H1 g _ fun v F2 H2 g2 r2 => ⟨⟨x, r2⟩, he F2 H2 (g.trans g2) _ fun w F3 H3 g3 r3 => by
    have r2 : v = .str x := r2
    have r3 : w = .str y := r3
    subst r2; subst r3
    exact hr F3 H3 Q g3.fh fun u F4 H4 g4 r4 => q u F4 H4 ((g2.trans g3).trans g4) r4⟩)
theorem ev_m0 {α : Type} [Rp α] {x : Str} {z : α} {id : String} {name : Str} {apos : Pos} {r : V → List V → Hp → VK → Prop} (slot : Slot "str" name id) (ty : typeOf (.builtin id) = pure (.type "method_descriptor")) (rule : MtR X id r)
    (hr : ∀ (F H : Hp) (Q : VK), L2.Same F H → (∀ u F' H', Gr F H F' H' → rp X.K F' u z → Q u H') → r (.str x) [] H Q) (ho : Ev X a σ F H x)
    (hbase : attributeBase a name X.env (eval a X.env) = eval a X.env := by rfl) (hline : (apos.endLine == pos.line) = true := by rfl) : Ev X (.Call (.Attribute a name apos) [] [] pos) σ F H z := fun F1 H1 g Q q =>
  GoE.of (pe_m0 slot ty rule pe_go hbase hline) (ho F1 H1 g _ fun v F2 H2 g2 r2 => ⟨⟨x, r2⟩, by
    have r2 : v = .str x := r2
    subst r2
    exact hr F2 H2 Q g2.fh fun u F4 H4 g4 r4 => q u F4 H4 (g2.trans g4) r4⟩)
theorem ev_find {x y : Str} {apos : Pos} (ho : Ev X a σ F H x) (he : Ev X e σ F H y)
    (hs : starEach [e] X.env = [(false, eval e X.env)] := by rfl) (hbase : attributeBase a "find" X.env (eval a X.env) = eval a X.env := by rfl) (hline : (apos.endLine == pos.line) = true := by rfl) : Ev X (.Call (.Attribute a "find" apos) [e] [] pos) σ F H (Txt.find x y) :=
  ev_m1 PySem.F.slot_str_find PySem.F.type_str_find mt_find (fun F H Q s k => ⟨x, y, rfl, rfl, k _ F H (.refl s) rfl⟩) ho he hs hbase hline
def sJoin (a : Str) (ys : List Str) : Option Str := if (ys.map (·.length)).sum + ys.length * a.length ≤ 16777216 then some (Txt.join a ys) else none
theorem Rps.strs : ∀ {vs : List V} {ys : List Str}, Rps K F vs ys → vs = ys.map V.str
  | _, _, .nil => rfl
  | _, _, .cons r t => by
    rw [List.map_cons, ← Rps.strs t]
    exact congrArg (· :: _) r
theorem ev_join {x r : Str} {ys : List Str} {apos : Pos} (ho : Ev X a σ F H x) (he : Ev X e σ F H ys) (h : sJoin x ys = some r)
    (hs : starEach [e] X.env = [(false, eval e X.env)] := by rfl) (hbase : attributeBase a "join" X.env (eval a X.env) = eval a X.env := by rfl) (hline : (apos.endLine == pos.line) = true := by rfl) : Ev X (.Call (.Attribute a "join" apos) [e] [] pos) σ F H r := fun F1 H1 g Q q =>
  GoE.of (pe_join pe_go pe_go hs hbase hline) (ho F1 H1 g _ fun v F2 H2 g2 r2 => ⟨⟨x, r2⟩, he F2 H2 (g.trans g2) _ fun w F3 H3 g3 ⟨p, vs, e, sq, rs⟩ => by
    unfold sJoin at h
    split at h
    · rename_i hz
      have e3 := rs.strs
      subst e3
      exact ⟨x, p, ys, r2, by rw [e], .inl (g3.fh.seq sq), hz, q _ F3 H3 (g2.trans g3) (congrArg V.str (Option.some.inj h))⟩
    · cases h⟩)
def sOfI (i : Int) : Option Str := if i.natAbs.log2 < 1920 then some (toString i : String) else none
theorem oc_strI {i : Int} {r : Str} (h : sOfI i = some r) : OpC K (fun xs H Q => ∃ i : Int, xs = [.int i] ∧ i.natAbs.log2 < 1920 ∧ Q (.str (toString i : String)) H) (i, ()) r := oc1 fun F H v Q s rv k => by
  unfold sOfI at h
  split at h
  · rename_i hz
    have rv : v = .int i := rv
    exact ⟨i, by rw [rv], hz, k _ F H (.refl s) (congrArg V.str (Option.some.inj h))⟩
  · cases h
def iOfS (x : Str) : Option Int := if x.length ≤ 640 then PySem.intText? x else none
theorem oc_intS {x : Str} {r : Int} (h : iOfS x = some r) : OpC K (fun xs H Q => ∃ a n, xs = [.str a] ∧ PySem.intText? a = some n ∧ a.length ≤ 640 ∧ Q (.int n) H) (x, ()) r := oc1 fun F H v Q s rv k => by
  unfold iOfS at h
  split at h
  · rename_i hz
    have rv : v = .str x := rv
    exact ⟨x, r, by rw [rv], h, hz, k _ F H (.refl s) rfl⟩
  · cases h
/-- n times a text -/
def sMul (x : Str) (n : Int) : Option Str := if -(2 ^ 62) < n ∧ n < 2 ^ 62 ∧ x.length * n.toNat ≤ 16777216 then some (Txt.mul x n) else none
theorem op_mulS : OpR X (binaryOp .Mult) (fun x y H Q => ∃ (z : Str) (n : Int), x = .str z ∧ y = .int n ∧ MulOk z n ∧ Q (.str (Txt.mul z n)) H) := by
  intro pins s σ H x y v u Q I rx ry h
  obtain ⟨z, n, rfl, rfl, ok, q⟩ := h
  obtain ⟨t, rfl⟩ := rx
  obtain ⟨t', rfl⟩ := ry
  exact SB.mul ok fun t' k => ⟨.str _, H, I.tok k, ⟨t', rfl⟩, q⟩
theorem ev_mulS {x r : Str} {n : Int} (ha : Ev X a σ F H x) (hb : Ev X b σ F H n) (h : sMul x n = some r) : Ev X (.BinOp a .Mult b pos) σ F H r := ev_bin op_mulS (fun F H v w Q s rv rw' k => by
  unfold sMul at h
  split at h
  · rename_i hz
    obtain ⟨z1, z2, z3⟩ := hz
    refine ⟨x, n, rv, rw', ⟨?_, fun hn _ => ?_, fun _ _ => ?_⟩, k _ F H (.refl s) (congrArg V.str (Option.some.inj h))⟩
    · rw [Bool.or_eq_false_iff]
      exact ⟨decide_eq_false (by omega), decide_eq_false (by omega)⟩
    · have h1 : ((x.length * n.toNat : Nat) : Int) = (x.length : Int) * n := by rw [Int.natCast_mul, Int.toNat_of_nonneg (by omega)]
      have h2 : (x.length : Int) ≤ (2 ^ 63 - 1) / n := Int.le_ediv_of_mul_le (by omega) (by rw [← h1]; omega)
      omega
    · show decide (x.length * n.toNat > sizeLine) = false
      rw [sizeLine_eq]
      exact decide_eq_false (by omega)
  · cases h) ha hb
end
end Gx

/-! Gc: comprehensions, a def's own rule. -/
namespace Gx
open PySem PySem.Spec PyProof.Rows L2
open Rp (rp)
open Ra (ra)
open Ob (ob)
section
variable {X : Cx} {K : PySem.W.Frag} {e a b c d : Expr} {es : List Expr} {σ : L2.St} {F H F0 H0 : Hp} {pos : Pos} {D : Ends} {st : Stmt} {rest body : List Stmt}
def compM {α γ : Type} (f : α → Option (Option γ)) : List α → Option (List γ)
  | [] => some []
  | x :: xs => match f x with
    | none => none
    | some none => compM f xs
    | some (some y) => (compM f xs).map (y :: ·)
def compG {α γ : Type} (f : α → Option (Option γ)) (xs : List α) : Option (List γ) := if xs.length ≤ sizeLine then compM f xs else none
abbrev blkX (X : Cx) (scope : Scope) (s : Shared) (H : Hp) (C : Addr) (cl : List (Str × Addr)) (fp : List Addr) : Cx := X.blk s H scope (compEnvC scope cl C X.env) fp
def GoEB (X : Cx) (scope : Scope) (e : Expr) : TE := fun σ H Q => ∀ s H' C cl fp, GoE (blkX X scope s H' C cl fp) e σ H Q
def GoTB (X : Cx) (scope : Scope) (e : Expr) : TT := fun σ H Q => ∀ s H' C cl fp, GoT (blkX X scope s H' C cl fp) e σ H Q
theorem pe_goB {scope : Scope} (s : Shared) (H : Hp) (C : Addr) (cl : List (Str × Addr)) (fp : List Addr) : PE (blkX X scope s H C cl fp) e (GoEB X scope e) := ⟨fun pins s σ H Q I h => (h _ _ _ _ _).o pins s I⟩
theorem pt_goB {scope : Scope} (s : Shared) (H : Hp) (C : Addr) (cl : List (Str × Addr)) (fp : List Addr) : PT (blkX X scope s H C cl fp) e (GoTB X scope e) := ⟨fun pins s σ H Q I h => (h _ _ _ _ _).o pins s I⟩
/-- what one item gives -/
def CB {γ : Type} [Rp γ] (X : Cx) (scope : Scope) (elt : Expr) (σ2 : L2.St) (F H : Hp) (o : Option γ) : Prop := ∃ y, o = some y ∧ ∀ s H' C cl fp, Ev (blkX X scope s H' C cl fp) elt σ2 F H y
def CBi {γ : Type} [Rp γ] (X : Cx) (scope : Scope) (tst elt : Expr) (σ2 : L2.St) (F H : Hp) (o : Option γ) : Prop := ∃ b, (∀ s H' C cl fp, EvT (blkX X scope s H' C cl fp) tst σ2 F H b) ∧ (b = true → CB X scope elt σ2 F H o) ∧ (b = false → o = none)
theorem comp_core {α γ : Type} [Rp α] [Rp γ] {tg iter elt : Expr} {scope : Scope} {g : TG} {tt : TT} {vs : List Nat} {xs : List α} {ys : List γ} {f : α → Option (Option γ)} (hi : EvI X tg iter σ F H xs) (hr : compG f xs = some ys)
    (step : ∀ x o, f x = some o → ∀ F' H' v, GrX X.K F H F' H' → rp X.K F' v x → ∀ Q : L2.St → Hp → Prop, (∀ σ2, wipe σ2 vs = wipe σ vs → (∀ R : Bool → Hp → Prop, (∀ F2 H2, Gr F' H' F2 H2 → o = none → R false H2) → (∀ F2 H2, Gr F' H' F2 H2 → CB X scope elt σ2 F2 H2 o → R true H2) → tt σ2 H' R) → Q σ2 H') → g v (wipe σ vs) H' Q)
    {F1 H1 : Hp} (g1 : GrX X.K F H F1 H1) {Q : VK} (q : ∀ l o F2 H2, Gr F1 H1 F2 H2 → H1 l = none → F2 l = none → H2 l = some o → ob X.K F2 o ys → Q (.ref l) H2) : tLc (GoI X tg iter) g tt (GoEB X scope elt) vs σ H1 Q := by
  unfold compG at hr
  split at hr
  case isFalse => cases hr
  rename_i hz
  refine hi F1 H1 g1 _ fun J F2 H2 g2 wk L hL => ?_
  refine ⟨fun i m H => m = xs.length - i ∧ i ≤ xs.length ∧ ∃ Fi acc zs ws, Gr F2 H2 Fi H ∧ Fi L = none ∧ H L = some (.lst acc) ∧ Rps X.K Fi acc zs ∧ acc.length ≤ i ∧ compM f (xs.drop i) = some ws ∧ zs ++ ws = ys,
    ⟨_, rfl, Nat.zero_le _, F2, [], [], ys, Gr.newP g2.fh hL trivial, g2.fh.free hL, upd_same, .nil, Nat.le_refl _, hr, rfl⟩, ?_⟩
  rintro i m Hi ⟨rfl, hle, Fi, acc, zs, ws, gi, fL, hLi, rs, hacc, hcm, hys⟩
  obtain ⟨w1, w2⟩ := wk i Fi Hi gi.ff gi.fh
  rcases Nat.lt_or_ge i xs.length with hlt | hge
  · obtain ⟨x, hx⟩ : ∃ x, xs[i]? = some x := ⟨xs[i], List.getElem?_eq_getElem hlt⟩
    obtain ⟨hgo, hy⟩ := w1 x hx
    have ed : xs.drop i = x :: xs.drop (i + 1) := by
      rw [List.drop_eq_getElem_cons hlt]
      rw [List.getElem?_eq_getElem hlt] at hx
      rw [Option.some.inj hx]
    rw [ed] at hcm
    unfold compM at hcm
    cases hf : f x with
    | none => rw [hf] at hcm; cases hcm
    | some o =>
      rw [hf] at hcm
      refine .inr ⟨hgo, fun H' => ∃ F' acc' zs' ws', Gr F2 H2 F' H' ∧ F' L = none ∧ H' L = some (.lst acc') ∧ Rps X.K F' acc' zs' ∧ acc'.length ≤ i + 1 ∧ compM f (xs.drop (i + 1)) = some ws' ∧ zs' ++ ws' = ys,
        fun H' ⟨F', acc', zs', ws', h1, h2, h3, h4, h5, h6, h7⟩ => ⟨xs.length - (i + 1), by omega, rfl, hlt, F', acc', zs', ws', h1, h2, h3, h4, h5, h6, h7⟩, fun v H3 hv => ?_⟩
      obtain ⟨F3, g3, rv⟩ := hy v H3 hv
      refine step x o hf F3 H3 v ((g1.trans g2).trans (gi.trans g3)) rv _ fun σ2 ew ht => ⟨ew, ht _ (fun F4 H4 g4 eo => ?_) fun F4 H4 g4 ⟨y, eo, hev⟩ => ?_⟩
      · rw [if_neg Bool.false_ne_true]
        subst eo
        exact ⟨F4, acc, zs, ws, gi.trans (g3.trans g4), (g4.fr L _ (g3.hh.k _ _ hLi trivial) trivial).trans ((g3.fr L _ hLi trivial).trans fL), g4.hh.k _ _ (g3.hh.k _ _ hLi trivial) trivial, rs.mono (g3.ff.trans g4.ff), Nat.le_succ_of_le hacc, hcm, hys⟩
      · rw [if_pos rfl]
        subst eo
        obtain ⟨ws', hw, ew'⟩ := Option.map_eq_some_iff.mp hcm
        refine fun s H' C cl fp => hev s H' C cl fp F4 H4 (.refl (((g1.trans g2).trans (gi.trans g3)).trans g4).sm) _ fun u F5 H5 g5 ru => ?_
        have gg : Gr Fi Hi F5 H5 := (g3.trans g4).trans g5
        have f5 : F5 L = none := (gg.fr L _ hLi trivial).trans fL
        have h5 : H5 L = some (.lst acc) := gg.hh.k _ _ hLi trivial
        refine ⟨acc, h5, by omega, F5, acc ++ [u], zs ++ [y], ws', (gi.trans gg).poke hL f5 ⟨_, h5, trivial⟩ trivial, f5, upd_same, Rps.append (rs.mono gg.ff) (.cons ru .nil), by rw [List.length_append]; simp; omega, hw, ?_⟩
        rw [List.append_assoc]
        show zs ++ (y :: ws') = ys
        rw [ew']; exact hys
  · have e : i = xs.length := by omega
    subst e
    rw [List.drop_length] at hcm
    have ew : ws = [] := (Option.some.inj hcm).symm
    subst ew
    rw [List.append_nil] at hys
    subst hys
    refine .inl ⟨w2 rfl, q L (.lst acc) Fi Hi (g2.trans gi) (g2.hh.free hL) fL hLi (ob_lst rs)⟩
theorem en_comp {α γ : Type} [Rp α] [Rp γ] {tg iter elt : Expr} {scope : Scope} {g : TG} {own : List (Str × Nat)} {xs : List α} {ys : List γ} {f : α → Option (Option γ)} (hN : X.N.Nodup) (hi : EvI X tg iter σ F H xs) (hr : compG f xs = some ys) (ok : BlkOk X.N X.env.scope scope own)
    (hg : ∀ (s : Shared) (H : Hp) (C : Addr) (cl : List (Str × Addr)) (fp : List Addr), PG (blkX X scope s H C cl fp) tg g)
    (step : ∀ x o, f x = some o → ∀ F' H' v, GrX X.K F H F' H' → rp X.K F' v x → ∀ Q : L2.St → Hp → Prop, (∀ σ2, wipe σ2 (own.map (·.2)) = wipe σ (own.map (·.2)) → CB X scope elt σ2 F' H' o → Q σ2 H') → g v (wipe σ (own.map (·.2))) H' Q)
    (hc : X.calm = true := by rfl) (hs : ∀ x, foldedSetIterable iter X.env x = pure x := by intro _; rfl) : EvN X (.ListComp elt [⟨tg, iter, [], 0⟩] scope pos) σ F H ys := fun F1 H1 g1 Q q =>
  GoE.of (pe_lc hc hN pi_go ok hg (fun _ _ _ _ _ => pts_nil) pe_goB hs) (comp_core hi hr (fun x o hf F' H' v gr rv Q' k => step x o hf F' H' v gr rv Q' fun σ2 ew cb => k σ2 ew fun R _ r1 => r1 F' H' (.refl gr.fh) cb) g1 q)
theorem CB.up {γ : Type} [Rp γ] {scope : Scope} {elt : Expr} {σ2 : L2.St} {F' H' : Hp} {o : Option γ} (h : CB X scope elt σ2 F H o) (g : Gr F H F' H') : CB X scope elt σ2 F' H' o := by
  obtain ⟨y, e, h⟩ := h
  exact ⟨y, e, fun s H' C cl fp => (h s H' C cl fp).up g⟩
theorem en_compi {α γ : Type} [Rp α] [Rp γ] {tg iter elt tst : Expr} {scope : Scope} {g : TG} {own : List (Str × Nat)} {xs : List α} {ys : List γ} {f : α → Option (Option γ)} (hN : X.N.Nodup) (hi : EvI X tg iter σ F H xs) (hr : compG f xs = some ys) (ok : BlkOk X.N X.env.scope scope own)
    (hg : ∀ (s : Shared) (H : Hp) (C : Addr) (cl : List (Str × Addr)) (fp : List Addr), PG (blkX X scope s H C cl fp) tg g)
    (step : ∀ x o, f x = some o → ∀ F' H' v, GrX X.K F H F' H' → rp X.K F' v x → ∀ Q : L2.St → Hp → Prop, (∀ σ2, wipe σ2 (own.map (·.2)) = wipe σ (own.map (·.2)) → CBi X scope tst elt σ2 F' H' o → Q σ2 H') → g v (wipe σ (own.map (·.2))) H' Q)
    (hc : X.calm = true := by rfl) (hs : ∀ x, foldedSetIterable iter X.env x = pure x := by intro _; rfl) : EvN X (.ListComp elt [⟨tg, iter, [tst], 0⟩] scope pos) σ F H ys := fun F1 H1 g1 Q q =>
  GoE.of (pe_lc hc hN pi_go ok hg (fun s H C cl fp => pts_one (pt_goB s H C cl fp)) pe_goB hs) (comp_core hi hr (fun x o hf F' H' v gr rv Q' k => step x o hf F' H' v gr rv Q' fun σ2 ew ⟨b, ht, h1, h2⟩ => k σ2 ew fun R r0 r1 s Hb C cl fp => ht s Hb C cl fp F' H' (.refl gr.sm) R fun F2 H2 g2 => by
    cases b with
    | true => exact r1 F2 H2 g2 ((h1 rfl).up g2)
    | false => exact r0 F2 H2 g2 (h2 rfl)) g1 q)
/-- y = [..] on one line, y a local -/
theorem go_setLc {α γ : Type} [Rp α] [Rp γ] {tg iter elt : Expr} {scope : Scope} {g : TG} {own : List (Str × Nat)} {xs : List α} {ys : List γ} {f : α → Option (Option γ)} {y : Str} {py cpos : Pos} (i : Nat) (s : SmX X.K F H) (hN : X.N.Nodup) (hi : EvI X tg iter σ F H xs) (hr : compG f xs = some ys) (ok : BlkOk X.N X.env.scope scope own)
    (hg : ∀ (s : Shared) (H : Hp) (C : Addr) (cl : List (Str × Addr)) (fp : List Addr), PG (blkX X scope s H C cl fp) tg g)
    (step : ∀ x o, f x = some o → ∀ F' H' v, GrX X.K F H F' H' → rp X.K F' v x → ∀ Q : L2.St → Hp → Prop, (∀ σ2, wipe σ2 (own.map (·.2)) = wipe σ (own.map (·.2)) → CB X scope elt σ2 F' H' o → Q σ2 H') → g v (wipe σ (own.map (·.2))) H' Q)
    (k : ∀ l o F' H', Gr F H F' H' → H l = none → F' l = none → H' l = some o → ob X.K F' o ys → GoS X rest D (σ.set i (some (.ref l))) H')
    (hy : X.N[i]? = some y := by rfl) (hyl : X.env.scope.names.lookup y = some .local := by rfl) (hsw : swapsWith (.ListComp elt [⟨tg, iter, [], 0⟩] scope cpos) (some (.Name y py)) pos.line X.env = pure true := by exact sw_true rfl rfl rfl (by decide +kernel))
    (hc : X.calm = true := by rfl) (hs : ∀ x, foldedSetIterable iter X.env x = pure x := by intro _; rfl) : GoS X (.Assign [.Name y py] (.ListComp elt [⟨tg, iter, [], 0⟩] scope cpos) pos :: rest) D σ H :=
  GoS.cons (ps_setLc hc hN hy hyl hsw pi_go ok hg (fun _ _ _ _ _ => pts_nil) pe_goB hs) (comp_core hi hr (fun x o hf F' H' v gr rv Q' k => step x o hf F' H' v gr rv Q' fun σ2 ew cb => k σ2 ew fun R _ r1 => r1 F' H' (.refl gr.fh) cb) (.refl s) k)
theorem go_setLci {α γ : Type} [Rp α] [Rp γ] {tg iter elt tst : Expr} {scope : Scope} {g : TG} {own : List (Str × Nat)} {xs : List α} {ys : List γ} {f : α → Option (Option γ)} {y : Str} {py cpos : Pos} (i : Nat) (s : SmX X.K F H) (hN : X.N.Nodup) (hi : EvI X tg iter σ F H xs) (hr : compG f xs = some ys) (ok : BlkOk X.N X.env.scope scope own)
    (hg : ∀ (s : Shared) (H : Hp) (C : Addr) (cl : List (Str × Addr)) (fp : List Addr), PG (blkX X scope s H C cl fp) tg g)
    (step : ∀ x o, f x = some o → ∀ F' H' v, GrX X.K F H F' H' → rp X.K F' v x → ∀ Q : L2.St → Hp → Prop, (∀ σ2, wipe σ2 (own.map (·.2)) = wipe σ (own.map (·.2)) → CBi X scope tst elt σ2 F' H' o → Q σ2 H') → g v (wipe σ (own.map (·.2))) H' Q)
    (k : ∀ l o F' H', Gr F H F' H' → H l = none → F' l = none → H' l = some o → ob X.K F' o ys → GoS X rest D (σ.set i (some (.ref l))) H')
    (hy : X.N[i]? = some y := by rfl) (hyl : X.env.scope.names.lookup y = some .local := by rfl) (hsw : swapsWith (.ListComp elt [⟨tg, iter, [tst], 0⟩] scope cpos) (some (.Name y py)) pos.line X.env = pure true := by exact sw_true rfl rfl rfl (by decide +kernel))
    (hc : X.calm = true := by rfl) (hs : ∀ x, foldedSetIterable iter X.env x = pure x := by intro _; rfl) : GoS X (.Assign [.Name y py] (.ListComp elt [⟨tg, iter, [tst], 0⟩] scope cpos) pos :: rest) D σ H :=
  GoS.cons (ps_setLc hc hN hy hyl hsw pi_go ok hg (fun s H C cl fp => pts_one (pt_goB s H C cl fp)) pe_goB hs) (comp_core hi hr (fun x o hf F' H' v gr rv Q' k => step x o hf F' H' v gr rv Q' fun σ2 ew ⟨b, ht, h1, h2⟩ => k σ2 ew fun R r0 r1 s Hb C cl fp => ht s Hb C cl fp F' H' (.refl gr.sm) R fun F2 H2 g2 => by
    cases b with
    | true => exact r1 F2 H2 g2 ((h1 rfl).up g2)
    | false => exact r0 F2 H2 g2 (h2 rfl)) (.refl s) k)

/-! ### a def by its mirror -/
theorem fn_ok {P : Program} {w : World} {mg : Str → Option Value} {base : Heap} {τ ρ : Type} [Ra τ] [RaN τ] [Rp ρ] {f : τ → Option ρ} {x qual : Str} {s0 : Stmt} {fa : Addr} {fd : FuncData} {N ps : List Str} {k : Nat} (Fn : FunD K x qual (defArgs s0) (defBody s0) (defScope s0) [] [] fa fd) (S : FnScope N ps (defScope s0)) (hn : RaN.n τ = ps.length)
    (hbody : ∀ (cdv : Value) (A : Around) (outer : List Env) (s : Shared) (F H : Hp) (vs : List V) (a : τ) (r : ρ) (D : Ends) (E : XK), Room k (A.deeper (envOfC qual (defScope s0) s.heap.objs.size fa cdv)) → SmX K F H → ra K F vs a → f a = some r → (∀ F' H' u, GrX K F H F' H' → rp K F' u r → D.rt u H') →
      (∀ σ' F' H', GrX K F H F' H' → rp K F' .non r → D.nx σ' H') → GoS (cxOf CX0 P w K mg base N qual (defScope s0) fa cdv A outer s H E).nox (defBody s0) D (start N vs) H) :
    FnOk P w K mg base CX0 (k + 1) fa fd ps (Pr K f) := by
  refine Fn.ok S (fun vs H Q E ⟨F, a, r, _, ra', _⟩ => by rw [RaN.len ra', hn]) fun cdv A outer s H vs Q E hr ⟨F, a, r, sm, ra', hf, k⟩ => ?_
  refine ⟨_, PSs.nox pss_go, hbody cdv A outer s F H vs a r { nx := fun _ H' => Q .non H', rt := Q } E hr sm ra' hf (fun F' H' u g q => k F' H' u g.toGr q) fun σ' F' H' g q => k F' H' .non g.toGr q⟩
end
end Gx
namespace Gx
open PySem PySem.Spec PyProof.Rows L2
open Rp (rp)
open Ra (ra)
open Ob (ob)
theorem cg {α : Type} [Rp α] {K : PySem.W.Frag} {F : Hp} {v : V} {x y : α} (e : x = y) (h : rp K F v x) : rp K F v y := e ▸ h
theorem nt {b : Bool} (h : b = false) : ¬ b = true := by rw [h]; exact Bool.false_ne_true
def Lp.thn {β ρ γ : Type} (o : Lp β ρ) (f : β → Option γ) (g : ρ → Option γ) : Option γ := match o with
  | .nx b => f b
  | .bk b => f b
  | .rt r => g r
/-- a loop that neither breaks nor returns -/
def loopN {α β : Type} (st : β → α → Option β) : β → List α → Option β
  | b, [] => some b
  | b, x :: xs => match st b x with
    | none => none
    | some b' => loopN st b' xs
theorem loopN_M {α β : Type} (st : β → α → Option β) : ∀ (xs : List α) (b : β), loopM (ρ := Unit) (fun b x => (st b x).map Lp.nx) b xs = (loopN st b xs).map Lp.nx
  | [], b => rfl
  | x :: xs, b => by
    unfold loopM loopN
    cases st b x with
    | none => rfl
    | some b' => exact loopN_M st xs b'
def whileN {β : Type} (c : β → Option Bool) (st : β → Option β) : Nat → β → Option β
  | 0, _ => none
  | n + 1, b => match c b with
    | none => none
    | some false => some b
    | some true => match st b with
      | none => none
      | some b' => whileN c st n b'
theorem whileN_M {β : Type} (c : β → Option Bool) (st : β → Option β) : ∀ (n : Nat) (b : β), whileM (ρ := Unit) c (fun b => (st b).map Lp.nx) n b = (whileN c st n b).map Lp.nx
  | 0, b => rfl
  | n + 1, b => by
    unfold whileM whileN
    cases c b with
    | none => rfl
    | some t =>
      cases t with
      | false => rfl
      | true =>
        dsimp only
        cases st b with
        | none => rfl
        | some b' => exact whileN_M c st n b'
section
variable {X : Cx} {K : PySem.W.Frag} {e a b c d : Expr} {es : List Expr} {σ : L2.St} {F H F0 H0 : Hp} {pos : Pos} {D : Ends} {st : Stmt} {rest body : List Stmt}
theorem go_forM {α β ρ γ : Type} [Rp α] {tg iter : Expr} {g : TG} {xs : List α} {stp : β → α → Option (Lp β ρ)} {b0 : β} {o : Lp β ρ} {f1 : β → Option γ} {f2 : ρ → Option γ} {r : γ} (s : SmX X.K F H) (hi : EvI X tg iter σ F H xs) (hg : PG X tg g) (ho : loopM stp b0 xs = some o) (hm : o.thn f1 f2 = some r)
    (k : ∀ F2 H2, Gr F H F2 H2 → ∃ (Iv : β → L2.St → Hp → Hp → Prop) (Rt : ρ → V → Hp → Prop), Iv b0 σ F2 H2 ∧
      (∀ b x o', stp b x = some o' → ∀ σ F H v, L2.Same F2 F → L2.Same F H → Iv b σ F H → ∀ F' H', Gr F H F' H' → rp X.K F' v x → ∀ Q : L2.St → Hp → Prop, (∀ σ' H'', GoS X body (LE Iv Rt F o') σ' H'' → Q σ' H'') → g v σ H' Q) ∧
      (∀ b, f1 b = some r → ∀ σ F H, L2.Same F2 F → L2.Same F H → Iv b σ F H → GoS X rest D σ H) ∧ (∀ x, f2 x = some r → ∀ v H, Rt x v H → D.rt v H))
    (hp : PassesOwn (model X.prog X.w) X.A X.env X.xe) (hc : X.calm = true := by rfl) (hs : ∀ x, foldedSetIterable iter X.env x = pure x := by intro _; rfl) : GoS X (.For tg iter body [] pos :: rest) D σ H :=
  go_for xs stp b0 s hi hg ho (fun F2 H2 g2 => by
    obtain ⟨Iv, Rt, i0, st, d1, d2⟩ := k F2 H2 g2
    refine ⟨fun b σ F H => L2.Same F2 F ∧ Iv b σ F H, Rt, ⟨.refl _, i0⟩, fun b x o' e σ F H v s1 s2 ⟨_, iv⟩ F' H' gr rv Q q => st b x o' e σ F H v s1 s2 iv F' H' gr rv Q fun σ' H'' go => q σ' H'' (go.mono ?_ (fun _ _ h => h) ?_ ?_), ?_⟩
    · exact fun σ3 H3 ⟨b', F3, e, f1, f2, iv⟩ => ⟨b', F3, e, f1, f2, s1.trans f1, iv⟩
    · exact fun σ3 H3 ⟨b', F3, e, f1, f2, iv⟩ => ⟨b', F3, e, f1, f2, s1.trans f1, iv⟩
    · exact fun σ3 H3 ⟨b', F3, e, f1, f2, iv⟩ => ⟨b', F3, e, f1, f2, s1.trans f1, iv⟩
    · cases o with
      | nx b => exact fun σ F H s1 ⟨s0, iv⟩ => d1 b hm σ F H s0 s1 iv
      | bk b => exact fun σ F H s1 ⟨s0, iv⟩ => d1 b hm σ F H s0 s1 iv
      | rt x => exact d2 x hm) hp hc hs
theorem go_forN {α β : Type} [Rp α] {tg iter : Expr} {g : TG} {xs : List α} {stp : β → α → Option β} {b0 b1 : β} (s : SmX X.K F H) (hi : EvI X tg iter σ F H xs) (hg : PG X tg g) (ho : loopN stp b0 xs = some b1)
    (k : ∀ F2 H2, Gr F H F2 H2 → ∃ (Iv : β → L2.St → Hp → Hp → Prop), Iv b0 σ F2 H2 ∧
      (∀ b x b', stp b x = some b' → ∀ σ F H v, L2.Same F2 F → L2.Same F H → Iv b σ F H → ∀ F' H', Gr F H F' H' → rp X.K F' v x → ∀ Q : L2.St → Hp → Prop, (∀ σ' H'', GoS X body { nx := fun σ3 H3 => ∃ F3, L2.Same F F3 ∧ L2.Same F3 H3 ∧ Iv b' σ3 F3 H3, ct := fun σ3 H3 => ∃ F3, L2.Same F F3 ∧ L2.Same F3 H3 ∧ Iv b' σ3 F3 H3, bk := fun _ _ => False, rt := fun _ _ => False } σ' H'' → Q σ' H'') → g v σ H' Q) ∧
      (∀ σ F H, L2.Same F2 F → L2.Same F H → Iv b1 σ F H → GoS X rest D σ H))
    (hp : PassesOwn (model X.prog X.w) X.A X.env X.xe) (hc : X.calm = true := by rfl) (hs : ∀ x, foldedSetIterable iter X.env x = pure x := by intro _; rfl) : GoS X (.For tg iter body [] pos :: rest) D σ H := by
  have ho' : loopM (ρ := Unit) (fun b x => (stp b x).map Lp.nx) b0 xs = some (.nx b1) := by rw [loopN_M, ho]; rfl
  refine go_forM (f1 := fun b => some b) (f2 := fun _ => none) (r := b1) s hi hg ho' rfl (fun F2 H2 g2 => ?_) hp hc hs
  obtain ⟨Iv, i0, st, d1⟩ := k F2 H2 g2
  refine ⟨Iv, fun _ _ _ => False, i0, fun b x o' e σ F H v s1 s2 iv F' H' gr rv Q q => ?_, fun b e => by cases (Option.some.inj e); exact d1, fun _ e => nomatch e⟩
  obtain ⟨b', eb, rfl⟩ := Option.map_eq_some_iff.mp e
  exact st b x b' eb σ F H v s1 s2 iv F' H' gr rv Q fun σ' H'' go => q σ' H'' (go.mono (fun σ3 H3 ⟨F3, f1, f2, iv⟩ => ⟨b', F3, rfl, f1, f2, iv⟩) (fun _ _ h => h.elim) (fun _ _ h => h.elim) fun σ3 H3 ⟨F3, f1, f2, iv⟩ => ⟨b', F3, rfl, f1, f2, iv⟩)
theorem go_whileM {β ρ γ : Type} {cn : β → Option Bool} {stp : β → Option (Lp β ρ)} {N : Nat} {b0 : β} {o : Lp β ρ} {f1 : β → Option γ} {f2 : ρ → Option γ} {r : γ} (Iv : β → L2.St → Hp → Hp → Prop) (Rt : ρ → V → Hp → Prop) (s : SmX X.K F H) (init : Iv b0 σ F H) (ho : whileM cn stp N b0 = some o) (hm : o.thn f1 f2 = some r)
    (kc : ∀ b t, cn b = some t → ∀ σ F1 H, L2.Same F F1 → L2.Same F1 H → Iv b σ F1 H → SmX X.K F1 H ∧ EvT X c σ F1 H t ∧ ∀ F' H', Gr F1 H F' H' → Iv b σ F' H')
    (kb : ∀ b o', stp b = some o' → ∀ σ F1 H, L2.Same F F1 → L2.Same F1 H → Iv b σ F1 H → GoS X body (LE Iv Rt F1 o') σ H)
    (d1 : ∀ b, f1 b = some r → ∀ σ F1 H, L2.Same F F1 → L2.Same F1 H → Iv b σ F1 H → GoS X rest D σ H) (d2 : ∀ x, f2 x = some r → ∀ v H, Rt x v H → D.rt v H)
    (hp : PassesOwn (model X.prog X.w) X.A X.env X.xe) : GoS X (.While c body [] pos :: rest) D σ H := by
  refine go_while cn stp N b0 (fun b σ F1 H => L2.Same F F1 ∧ Iv b σ F1 H) Rt s ⟨.refl _, init⟩ ho (fun b t e σ F1 H s2 ⟨s1, iv⟩ => ?_) (fun b o' _ e σ F1 H s2 ⟨s1, iv⟩ => (kb b o' e σ F1 H s1 s2 iv).mono ?_ (fun _ _ h => h) ?_ ?_) ?_ hp
  · obtain ⟨h0, h1, h2⟩ := kc b t e σ F1 H s1 s2 iv
    exact ⟨h0, h1, fun F' H' g => ⟨s1.trans g.ff, h2 F' H' g⟩⟩
  · exact fun σ3 H3 ⟨b', F3, e, f1, f2, iv⟩ => ⟨b', F3, e, f1, f2, s1.trans f1, iv⟩
  · exact fun σ3 H3 ⟨b', F3, e, f1, f2, iv⟩ => ⟨b', F3, e, f1, f2, s1.trans f1, iv⟩
  · exact fun σ3 H3 ⟨b', F3, e, f1, f2, iv⟩ => ⟨b', F3, e, f1, f2, s1.trans f1, iv⟩
  · cases o with
    | nx b => exact fun σ F H s1 ⟨s0, iv⟩ => d1 b hm σ F H s0 s1 iv
    | bk b => exact fun σ F H s1 ⟨s0, iv⟩ => d1 b hm σ F H s0 s1 iv
    | rt x => exact d2 x hm
theorem go_whileN {β : Type} {cn : β → Option Bool} {stp : β → Option β} {N : Nat} {b0 b1 : β} (Iv : β → L2.St → Hp → Hp → Prop) (s : SmX X.K F H) (init : Iv b0 σ F H) (ho : whileN cn stp N b0 = some b1)
    (kc : ∀ b t, cn b = some t → ∀ σ F1 H, L2.Same F F1 → L2.Same F1 H → Iv b σ F1 H → SmX X.K F1 H ∧ EvT X c σ F1 H t ∧ ∀ F' H', Gr F1 H F' H' → Iv b σ F' H')
    (kb : ∀ b b', stp b = some b' → ∀ σ F1 H, L2.Same F F1 → L2.Same F1 H → Iv b σ F1 H → GoS X body { nx := fun σ3 H3 => ∃ F3, L2.Same F1 F3 ∧ L2.Same F3 H3 ∧ Iv b' σ3 F3 H3, ct := fun σ3 H3 => ∃ F3, L2.Same F1 F3 ∧ L2.Same F3 H3 ∧ Iv b' σ3 F3 H3, bk := fun _ _ => False, rt := fun _ _ => False } σ H)
    (d1 : ∀ σ F1 H, L2.Same F F1 → L2.Same F1 H → Iv b1 σ F1 H → GoS X rest D σ H) (hp : PassesOwn (model X.prog X.w) X.A X.env X.xe) : GoS X (.While c body [] pos :: rest) D σ H := by
  have ho' : whileM (ρ := Unit) cn (fun b => (stp b).map Lp.nx) N b0 = some (.nx b1) := by rw [whileN_M, ho]; rfl
  refine go_whileM (f1 := fun b => some b) (f2 := fun _ => none) (r := b1) Iv (fun _ _ _ => False) s init ho' rfl kc (fun b o' e σ F1 H s1 s2 iv => ?_) (fun b e => by cases (Option.some.inj e); exact d1) (fun _ e => nomatch e) hp
  obtain ⟨b', eb, rfl⟩ := Option.map_eq_some_iff.mp e
  exact (kb b b' eb σ F1 H s1 s2 iv).mono (fun σ3 H3 ⟨F3, f1, f2, iv⟩ => ⟨b', F3, rfl, f1, f2, iv⟩) (fun _ _ h => h.elim) (fun _ _ h => h.elim) fun σ3 H3 ⟨F3, f1, f2, iv⟩ => ⟨b', F3, rfl, f1, f2, iv⟩
/-! ### reading a private list -/
def er (F : Hp) (l : Addr) : Hp := fun a => if a = l then none else F a
class Flat (α : Type) [Rp α] : Prop where
  fl : ∀ {K : PySem.W.Frag} {F : Hp} {l : Addr} {v : V} {x : α}, (∀ xs, ¬ F l = some (.tup xs)) → (∀ o xs, ¬ F l = some (.frz o (.tup xs))) → rp K F v x → rp K (er F l) v x
instance : Flat Int := ⟨fun _ _ h => h⟩
instance : Flat Bool := ⟨fun _ _ h => h⟩
instance : Flat Str := ⟨fun _ _ h => h⟩
instance : Flat Unit := ⟨fun _ _ h => h⟩
theorem er_seqT {F : Hp} {l a : Addr} {xs : List V} (h1 : ∀ xs, ¬ F l = some (.tup xs)) (h2 : ∀ o xs, ¬ F l = some (.frz o (.tup xs))) (h : TupF F a xs) : TupF (er F l) a xs := by
  unfold TupF er
  rw [if_neg (show ¬ a = l from fun e => h1 xs (e ▸ h))]; exact h
instance {α : Type} [Rp α] [NN α] [Flat α] : Flat (Option α) := ⟨fun {K F l v x} h1 h2 h => by
  cases x with
  | none => exact h
  | some x => exact Flat.fl (α := α) h1 h2 h⟩
theorem Rps.fl {α : Type} [Rp α] [Flat α] {F : Hp} {l : Addr} {vs : List V} {xs : List α} (h1 : ∀ xs, ¬ F l = some (.tup xs)) (h2 : ∀ o xs, ¬ F l = some (.frz o (.tup xs))) (h : Rps K F vs xs) : Rps K (er F l) vs xs := L2.Paired.mapP h fun _ _ => Flat.fl h1 h2
instance {α : Type} [Rp α] [Flat α] : Flat (Tp α) := ⟨fun h1 h2 ⟨a, vs, e, q, r⟩ => ⟨a, vs, e, er_seqT h1 h2 q, Rps.fl h1 h2 r⟩⟩
class FlatR (τ : Type) [Ra τ] : Prop where
  fl : ∀ {K : PySem.W.Frag} {F : Hp} {l : Addr} {v : List V} {x : τ}, (∀ xs, ¬ F l = some (.tup xs)) → (∀ o xs, ¬ F l = some (.frz o (.tup xs))) → ra K F v x → ra K (er F l) v x
instance : FlatR Unit := ⟨fun _ _ h => h⟩
instance {α τ : Type} [Rp α] [Ra τ] [Flat α] [FlatR τ] : FlatR (α × τ) := ⟨fun h1 h2 ⟨v, r, e, p, q⟩ => ⟨v, r, e, Flat.fl h1 h2 p, FlatR.fl h1 h2 q⟩⟩
theorem rpT.fl {θ τ : Type} [Ra τ] [FlatR τ] {row : θ → τ} {F : Hp} {l : Addr} {v : V} {x : θ} (h1 : ∀ xs, ¬ F l = some (.tup xs)) (h2 : ∀ o xs, ¬ F l = some (.frz o (.tup xs))) : rpT row K F v x → rpT row K (er F l) v x := fun ⟨a, vs, e, q, r⟩ => ⟨a, vs, e, er_seqT h1 h2 q, FlatR.fl h1 h2 r⟩
instance {α : Type} [Rp α] [Flat α] : Flat (T1 α) := ⟨rpT.fl⟩
instance {α β : Type} [Rp α] [Rp β] [Flat α] [Flat β] : Flat (T2 α β) := ⟨rpT.fl⟩
instance {α β γ : Type} [Rp α] [Rp β] [Rp γ] [Flat α] [Flat β] [Flat γ] : Flat (T3 α β γ) := ⟨rpT.fl⟩
instance {α β γ δ : Type} [Rp α] [Rp β] [Rp γ] [Rp δ] [Flat α] [Flat β] [Flat γ] [Flat δ] : Flat (T4 α β γ δ) := ⟨rpT.fl⟩
instance {α β γ δ ε : Type} [Rp α] [Rp β] [Rp γ] [Rp δ] [Rp ε] [Flat α] [Flat β] [Flat γ] [Flat δ] [Flat ε] : Flat (T5 α β γ δ ε) := ⟨rpT.fl⟩
/-- the private thing at l shown for a while -/
theorem GdT.back {l P : Addr} {u : HO} (a : GdT (L2.upd H l u) P) (h : PlAt H l) (pu : pln u) : GdT H P := by
  obtain ⟨o, ho, po⟩ := h
  have e : L2.upd (L2.upd H l u) l o = H := by
    rw [upd_upd]; funext b
    by_cases hb : b = l
    · rw [hb, upd_same, ho]
    · exact upd_ne hb
  rw [← e]
  exact a.upd ⟨u, upd_same, pu⟩ po.ntb
theorem Gr.show_ {F H F1 H1 : Hp} {l : Addr} {o u : HO} (hl : H l = some o) (fl : F l = none) (no : lstish o) (po : pln o) (g : Gr F H F1 H1) (pu : pln u := by trivial) : Gr (upd F l u) (L2.upd H l u) (upd F1 l u) (upd H1 l u) ∧ F1 l = none ∧ H1 l = some o := by
  have f1 : F1 l = none := (g.fr l _ hl no).trans fl
  have hl1 := g.hh.k _ _ hl po.ntb
  refine ⟨⟨fun b v e => ?_, fun b v e => ?_, ⟨fun b v e n => ?_, fun b ps e => ?_, fun P a => (g.hh.w P (a.back ⟨o, hl, po⟩ pu)).upd ⟨o, hl1, po⟩ pu.ntb⟩, fun a v h n => ?_⟩, f1, hl1⟩
  · by_cases hb : b = l
    · subst hb; rw [upd_same] at e ⊢; exact e
    · rw [upd_ne hb] at e ⊢; exact g.ff _ _ e
  · by_cases hb : b = l
    · subst hb; rw [upd_same] at e ⊢; exact e
    · rw [upd_ne hb] at e ⊢; exact g.fh _ _ e
  · by_cases hb : b = l
    · subst hb; rw [upd_same] at e ⊢; exact e
    · rw [upd_ne hb] at e ⊢; exact g.hh.k _ _ e n
  · by_cases hb : b = l
    · subst hb; rw [upd_same] at e ⊢; exact ⟨_, e⟩
    · rw [upd_ne hb] at e ⊢; exact g.hh.t _ _ e
  · by_cases hb : a = l
    · subst hb; rw [upd_same, upd_same]
    · rw [upd_ne hb] at h ⊢; rw [upd_ne hb]; exact g.fr a v h n
theorem GrX.show_ {F H F1 H1 : Hp} {l : Addr} {o u : HO} (hl : H l = some o) (fl : F l = none) (no : lstish o) (po : pln o) (g : GrX K F H F1 H1) (pu : pln u := by trivial) : GrX K (upd F l u) (upd H l u) (upd F1 l u) (upd H1 l u) ∧ F1 l = none ∧ H1 l = some o := by
  obtain ⟨g1, f1, h1⟩ := g.toGr.show_ (u := u) hl fl no po pu
  exact ⟨⟨g1, (g.h.upd ⟨o, h1, po⟩ pu.ntb).2⟩, f1, h1⟩
theorem Gr.hide {F1 H1 F2 H2 : Hp} {l : Addr} {o u : HO} (hl : H1 l = some o) (f1 : F1 l = none) (po : pln o) (g : Gr (upd F1 l u) (upd H1 l u) F2 H2) (pu : pln u := by trivial) : Gr F1 H1 (er F2 l) (upd H2 l o) := by
  have h2 : H2 l = some u := g.hh.k _ _ upd_same pu.ntb
  refine ⟨fun b v e => ?_, fun b v e => ?_, ⟨fun b v e n => ?_, fun b ps e => ?_, fun P a => (g.hh.w P (a.upd ⟨o, hl, po⟩ pu.ntb)).upd ⟨u, h2, pu⟩ po.ntb⟩, fun a v h n => ?_⟩
  · have hb : b ≠ l := ne_of_none e f1
    unfold er
    rw [if_neg hb]
    exact g.ff b v (by rw [upd_ne hb]; exact e)
  · unfold er at e
    split at e
    · cases e
    · rename_i hb
      rw [upd_ne hb]; exact g.fh b v e
  · by_cases hb : b = l
    · subst hb; rw [upd_same, ← hl]; exact e
    · rw [upd_ne hb]; exact g.hh.k b v (by rw [upd_ne hb]; exact e) n
  · by_cases hb : b = l
    · subst hb; rw [hl] at e; cases e; exact po.elim
    · rw [upd_ne hb]; exact g.hh.t b ps (by rw [upd_ne hb]; exact e)
  · unfold er
    by_cases hb : a = l
    · rw [if_pos hb, hb, f1]
    · rw [if_neg hb, g.fr a v (by rw [upd_ne hb]; exact h) n, upd_ne hb]
theorem frz_no {F : Hp} {l : Addr} {od : Obj} {o : HO} (e : F l = some (.frz od o)) (no : lstish o) : (∀ xs, ¬ F l = some (.tup xs)) ∧ (∀ (o' : Obj) (xs : List V), ¬ F l = some (.frz o' (.tup xs))) :=
  ⟨fun xs h => (by rw [e] at h; cases h), fun o' xs h => (by rw [e] at h; cases h; exact no)⟩
theorem shown {F H : Hp} {l : Addr} {u : HO} (s : L2.Same F H) : L2.Same (upd F l u) (upd H l u) := fun b v e => by
  by_cases hb : b = l
  · subst hb; rw [upd_same] at e ⊢; exact e
  · rw [upd_ne hb] at e ⊢; exact s _ _ e
theorem ev_thaw {α β : Type} [Rp α] [Flat α] [Rp β] [Ob β] {x : α} {y : β} {l : Addr} (o : Own X.K H0 F H l y) (s : L2.Same F H) (h : ∀ F' H', L2.Same F F' → L2.Same F' H' → rp X.K F' (.ref l) y → (∀ a, a ≠ l → F' a = F a ∧ H' a = H a) → Ev X e σ F' H' x) : Ev X e σ F H x := fun F1 H1 g Q q => by
  obtain ⟨u, hl, r⟩ := o.h
  have hl1 := g.hh.k _ _ hl (Ob.pl r).ntb
  refine GoE.locked hl1 (Ob.mu r) fun od => ?_
  obtain ⟨g1, f1, h1⟩ := GrX.show_ (u := .frz od u) hl o.f (Ob.ls r) (Ob.pl r) g
  refine h _ _ (same_upd o.f) (shown s) (Ob.fz upd_same (Ob.mono (same_upd o.f) r)) (fun a ha => ⟨upd_ne ha, upd_ne ha⟩) _ _ g1 _ fun v F2 H2 g2 r2 => ?_
  have e2 : F2 l = some (.frz od u) := g2.ff _ _ upd_same
  obtain ⟨n1, n2⟩ := frz_no e2 (Ob.ls r)
  exact ⟨g2.fh _ _ e2, q v (er F2 l) _ (Gr.hide h1 f1 (Ob.pl r) g2) (Flat.fl n1 n2 r2)⟩
theorem et_thaw {β : Type} [Rp β] [Ob β] {x : Bool} {y : β} {l : Addr} (o : Own X.K H0 F H l y) (s : L2.Same F H) (h : ∀ F' H', L2.Same F F' → L2.Same F' H' → rp X.K F' (.ref l) y → (∀ a, a ≠ l → F' a = F a ∧ H' a = H a) → EvT X e σ F' H' x) : EvT X e σ F H x := fun F1 H1 g Q q => by
  obtain ⟨u, hl, r⟩ := o.h
  have hl1 := g.hh.k _ _ hl (Ob.pl r).ntb
  refine GoT.locked hl1 (Ob.mu r) fun od => ?_
  obtain ⟨g1, f1, h1⟩ := GrX.show_ (u := .frz od u) hl o.f (Ob.ls r) (Ob.pl r) g
  refine h _ _ (same_upd o.f) (shown s) (Ob.fz upd_same (Ob.mono (same_upd o.f) r)) (fun a ha => ⟨upd_ne ha, upd_ne ha⟩) _ _ g1 _ fun F2 H2 g2 => ?_
  have e2 : F2 l = some (.frz od u) := g2.ff _ _ upd_same
  exact ⟨g2.fh _ _ e2, q (er F2 l) _ (Gr.hide h1 f1 (Ob.pl r) g2)⟩
class FlatO (α : Type) [Rp α] [Ob α] : Prop where
  fl : ∀ {K : PySem.W.Frag} {F : Hp} {l : Addr} {o : HO} {x : α}, (∀ xs, ¬ F l = some (.tup xs)) → (∀ o xs, ¬ F l = some (.frz o (.tup xs))) → ob K F o x → ob K (er F l) o x
instance {α : Type} [Rp α] [Flat α] : FlatO (List α) := ⟨fun h1 h2 ⟨vs, e, r⟩ => ⟨vs, e, Rps.fl h1 h2 r⟩⟩
theorem en_thaw {α β : Type} [Rp α] [Ob α] [FlatO α] [Rp β] [Ob β] {x : α} {y : β} {l : Addr} (o : Own X.K H0 F H l y) (s : L2.Same F H) (h : ∀ F' H', L2.Same F F' → L2.Same F' H' → rp X.K F' (.ref l) y → (∀ a, a ≠ l → F' a = F a ∧ H' a = H a) → EvN X e σ F' H' x) : EvN X e σ F H x := fun F1 H1 g Q q => by
  obtain ⟨u, hl, r⟩ := o.h
  have hl1 := g.hh.k _ _ hl (Ob.pl r).ntb
  refine GoE.locked hl1 (Ob.mu r) fun od => ?_
  obtain ⟨g1, f1, h1⟩ := GrX.show_ (u := .frz od u) hl o.f (Ob.ls r) (Ob.pl r) g
  refine h _ _ (same_upd o.f) (shown s) (Ob.fz upd_same (Ob.mono (same_upd o.f) r)) (fun a ha => ⟨upd_ne ha, upd_ne ha⟩) _ _ g1 _ fun l2 u2 F2 H2 g2 n2 f2 h2 r2 => ?_
  have e2 : F2 l = some (.frz od u) := g2.ff _ _ upd_same
  obtain ⟨n1, n2'⟩ := frz_no e2 (Ob.ls r)
  have hne : l2 ≠ l := fun e => by rw [e, upd_same] at n2; cases n2
  refine ⟨g2.fh _ _ e2, q l2 u2 (er F2 l) _ (Gr.hide h1 f1 (Ob.pl r) g2) (by rw [upd_ne hne] at n2; exact n2) ?_ (by rw [upd_ne hne]; exact h2) (FlatO.fl n1 n2' r2)⟩
  unfold er
  rw [if_neg hne]; exact f2
end
end Gx
namespace Gx
open PySem PySem.Spec PyProof.Rows L2
open Rp (rp)
open Ra (ra)
open Ob (ob)
section
variable {X : Cx} {K : PySem.W.Frag} {e a b c d : Expr} {es : List Expr} {σ : L2.St} {F H F0 H0 : Hp} {pos : Pos} {D : Ends} {st : Stmt} {rest body : List Stmt}
theorem Own.cg {α : Type} [Rp α] [Ob α] {xs ys : α} {l : Addr} (e : xs = ys) (o : Own K H0 F H l xs) : Own K H0 F H l ys := e ▸ o
theorem ob_cg {α : Type} [Rp α] [Ob α] {xs ys : α} {o : HO} (e : xs = ys) (r : Ob.ob K F o xs) : Ob.ob K F o ys := e ▸ r
theorem go_augA {i : Nat} {x y : Int} {v : V} {n : Str} {p : Pos} (s : SmX X.K F H) (hσ : σ[i]? = some (some v)) (r : rp X.K F v x) (he : Ev X e σ F H y) (k : ∀ v F' H', Gr F H F' H' → rp X.K F' v (x + y) → GoS X rest D (σ.set i (some v)) H') (hN : X.N.Nodup) (hi : X.N[i]? = some n := by rfl)
    (hx : Loc X.env.scope n := by first | exact Or.inl rfl | exact Or.inr rfl) (hf : X.fn n = true ∨ X.env.scope.names.lookup n = some .local := by first | exact .inl rfl | exact .inr rfl) : GoS X (.AugAssign (.Name n p) .Add e pos :: rest) D σ H :=
  GoS.cons (ps_aug hN hi hx pe_go ip_add hf) ⟨v, hσ, he F H (.refl s) _ fun w F2 H2 g r2 => ⟨x, y, r, r2, k _ F2 H2 g rfl⟩⟩
theorem go_augS {i : Nat} {x y : Int} {v : V} {n : Str} {p : Pos} (s : SmX X.K F H) (hσ : σ[i]? = some (some v)) (r : rp X.K F v x) (he : Ev X e σ F H y) (k : ∀ v F' H', Gr F H F' H' → rp X.K F' v (x - y) → GoS X rest D (σ.set i (some v)) H') (hN : X.N.Nodup) (hi : X.N[i]? = some n := by rfl)
    (hx : Loc X.env.scope n := by first | exact Or.inl rfl | exact Or.inr rfl) (hf : X.fn n = true ∨ X.env.scope.names.lookup n = some .local := by first | exact .inl rfl | exact .inr rfl) : GoS X (.AugAssign (.Name n p) .Sub e pos :: rest) D σ H :=
  GoS.cons (ps_aug hN hi hx pe_go ip_sub hf) ⟨v, hσ, he F H (.refl s) _ fun w F2 H2 g r2 => ⟨x, y, r, r2, k _ F2 H2 g rfl⟩⟩
/-- a, b, .. = e -/
theorem go_unpack {α : Type} [Rp α] {x : α} {tg : Expr} {g : TG} (s : SmX X.K F H) (he : Ev X e σ F H x) (hg : PG X tg g) (k : ∀ v F' H', Gr F H F' H' → rp X.K F' v x → ∀ Q : L2.St → Hp → Prop, (∀ σ' H'', GoS X rest D σ' H'' → Q σ' H'') → g v σ H' Q)
    (hs : swapsWithSole [tg] e pos.line X.env = pure false := by rfl) (hw : swappedStores [tg] e X.env = pure none := by rfl) (h1 : (assignEach [tg] X.env).map (·.2) = [assign tg X.env] := by rfl) : GoS X (.Assign [tg] e pos :: rest) D σ H :=
  GoS.cons (ps_asg pe_go hg hs hw h1) (he F H (.refl s) _ fun v F2 H2 g2 r => k v F2 H2 g2 r _ fun _ _ h => h)
end
end Gx

/-! Gd: more operations. -/
namespace Gx
open PySem PySem.Spec PyProof.Rows L2
open Rp (rp)
open Ra (ra)
open Ob (ob)
section
variable {X : Cx} {K : PySem.W.Frag} {e a b c d : Expr} {es : List Expr} {σ : L2.St} {F H F0 H0 : Hp} {pos : Pos} {D : Ends} {st : Stmt} {rest body : List Stmt}
theorem Rps.of_ints : ∀ ns : List Int, Rps K F (ns.map V.int) ns
  | [] => .nil
  | n :: ns => .cons rfl (Rps.of_ints ns)
theorem Rps.of_strs : ∀ ns : List Str, Rps K F (ns.map V.str) ns
  | [] => .nil
  | n :: ns => .cons rfl (Rps.of_strs ns)
class SN (α : Type) [Rp α] : Prop where
  sn : ∀ {K : PySem.W.Frag} {F : Hp} {v : V} {x : α}, rp K F v x → scal .non v = true ∧ scal v .non = true ∧ v ≠ .non
instance : SN Int := ⟨fun {K F v x} h => by
  have h : v = .int x := h
  subst h; exact ⟨rfl, rfl, fun e => nomatch e⟩⟩
instance : SN Str := ⟨fun {K F v x} h => by
  have h : v = .str x := h
  subst h; exact ⟨rfl, rfl, fun e => nomatch e⟩⟩
instance : SN Bool := ⟨fun {K F v x} h => by
  have h : v = .bl x := h
  subst h; exact ⟨rfl, rfl, fun e => nomatch e⟩⟩
instance {α : Type} [Rp α] [NN α] [DecidableEq α] [Sc α] [SN α] : Sc (Option α) := ⟨fun {K F v w x y} h1 h2 => by
  cases x with
  | none =>
    have h1 : v = .non := h1
    subst h1
    cases y with
    | none =>
      have h2 : w = .non := h2
      subst h2; exact ⟨rfl, rfl⟩
    | some y =>
      obtain ⟨s1, _, n1⟩ := SN.sn (α := α) h2
      exact ⟨s1, by rw [decide_eq_false (fun e => n1 e.symm)]; rfl⟩
  | some x =>
    cases y with
    | none =>
      have h2 : w = .non := h2
      subst h2
      obtain ⟨_, s2, n1⟩ := SN.sn (α := α) h1
      exact ⟨s2, by rw [decide_eq_false n1]; rfl⟩
    | some y =>
      obtain ⟨s1, s2⟩ := Sc.sc (α := α) h1 h2
      exact ⟨s1, by rw [s2]; simp⟩⟩
/-! ### kinds -/
inductive Kn (K : PySem.W.Frag) (H : Hp) : V → String → Prop
  | non : Kn K H .non "NoneType"
  | bl (b : Bool) : Kn K H (.bl b) "bool"
  | int (i : Int) : Kn K H (.int i) "int"
  | str (x : Str) : Kn K H (.str x) "str"
  | lst {a : Addr} {xs : List V} : SqL K H a xs → Kn K H (.ref a) "list"
  | tup {a : Addr} {xs : List V} : SqT K H a xs → Kn K H (.ref a) "tuple"
  | dK {a : Addr} {xs : List (Key × V)} : Rd H a (.dK xs) → Kn K H (.ref a) "dict"
  | dT {a : Addr} {xs : List (List Key × V)} : Rd H a (.dT xs) → Kn K H (.ref a) "dict"
def rIsK (K : PySem.W.Frag) : List V → Hp → VK → Prop := fun xs H Q => ∃ (x : V) (U T : String) (b : Bool), xs = [x, .ty T] ∧ Kn K H x U ∧ kitB U T = some b ∧ Q (.bl b) H
theorem call_isk : CallR X (.builtin "isinstance") (rIsK X.K) := by
  intro pins s σ H xs us Q I r h
  obtain ⟨x, U, T, b, rfl, k, e, q⟩ := h
  obtain ⟨u1, u2, rfl, r1, r2⟩ := vals2 r
  have e2 : u2 = .type T := r2
  subst e2
  have fin : ∀ {P : Heap → Prop}, PySem.W.KitX X.K u1 (.type U) P → P s.heap → u1 ≠ .builtin "__main__.__loader__#opaque" → wpAny (model X.prog X.w) X.A (call (.builtin "isinstance") [u1, .type T]) (EP X pins σ Q) X.xe s :=
    fun Z p hx => PySem.W.kia_one Z I.kIn p (kit_ty e) hx fun tk => ⟨.bl b, H, I.tok tk, rfl, q⟩
  cases k with
  | non => cases (show u1 = Value.none from r1); exact fin PySem.W.kitx_none True.intro (fun z => nomatch z)
  | bl y => cases (show u1 = Value.bool y from r1); exact fin PySem.W.kitx_bool True.intro (fun z => nomatch z)
  | int i => obtain ⟨t, q⟩ := (show ∃ t, u1 = Value.int i t from r1); cases q; exact fin PySem.W.kitx_int True.intro (fun z => nomatch z)
  | str i => obtain ⟨t, q⟩ := (show ∃ t, u1 = Value.str i t from r1); cases q; exact fin PySem.W.kitx_str True.intro (fun z => nomatch z)
  | lst sq =>
    rename_i a xs
    cases (show u1 = Value.ref a from r1)
    obtain ⟨its, rv, ⟨o, n, h1, h2, _⟩, _⟩ := I.list sq
    exact fin PySem.W.kitx_list ⟨o, h1, h2⟩ (fun z => nomatch z)
  | tup sq =>
    rename_i a xs
    cases (show u1 = Value.ref a from r1)
    obtain ⟨its, rv, ⟨o, h1, h2, _⟩, _⟩ := I.tuple sq
    exact fin PySem.W.kitx_tuple ⟨o, h1, h2⟩ (fun z => nomatch z)
  | dK ea =>
    rename_i a xs
    cases (show u1 = Value.ref a from r1)
    obtain ⟨_, _, vs, _, o, es, ep, h1, h2, _⟩ := (show ObjOk X.prog X.w H s.heap a (.dK xs) from ea.ok I.hok)
    exact fin PySem.W.kitx_dict ⟨o, h1, h2.1⟩ (fun z => nomatch z)
  | dT ea =>
    rename_i a xs
    cases (show u1 = Value.ref a from r1)
    obtain ⟨_, _, vs, _, o, es, ep, h1, h2, _⟩ := (show ObjOk X.prog X.w H s.heap a (.dT xs) from ea.ok I.hok)
    exact fin PySem.W.kitx_dict ⟨o, h1, h2.1⟩ (fun z => nomatch z)
class Kd (α : Type) [Rp α] where
  nm : String
  kd : ∀ {K : PySem.W.Frag} {F H : Hp} {v : V} {x : α}, L2.Same F H → rp K F v x → Kn K H v nm
instance : Kd Int := ⟨"int", fun {K F H v x} _ h => by
  have h : v = .int x := h
  subst h; exact .int _⟩
instance : Kd Bool := ⟨"bool", fun {K F H v x} _ h => by
  have h : v = .bl x := h
  subst h; exact .bl _⟩
instance : Kd Str := ⟨"str", fun {K F H v x} _ h => by
  have h : v = .str x := h
  subst h; exact .str _⟩
instance : Kd Unit := ⟨"NoneType", fun {K F H v x} _ h => by
  have h : v = .non := h
  subst h; exact .non⟩
instance {α : Type} [Rp α] : Kd (List α) := ⟨"list", fun s ⟨a, vs, e, sq, _⟩ => e ▸ .lst (s.seq sq)⟩
instance {α : Type} [Rp α] : Kd (Tp α) := ⟨"tuple", fun s ⟨a, vs, e, sq, _⟩ => e ▸ .tup (seqT_mono s sq)⟩
instance {α : Type} [Rp α] : Kd (Tn α) := ⟨"tuple", fun s ⟨a, vs, o, e, q, _, _, _⟩ => e ▸ .tup (.inl (.inr ⟨o, s _ _ q⟩))⟩
theorem rpT.kd {θ τ : Type} [Ra τ] {row : θ → τ} {F H : Hp} {v : V} {x : θ} (s : L2.Same F H) (h : rpT row K F v x) : Kn K H v "tuple" := by
  obtain ⟨a, vs, e, sq, _⟩ := h
  exact e ▸ .tup (seqT_mono s sq)
instance {α : Type} [Rp α] : Kd (T1 α) := ⟨"tuple", rpT.kd⟩
instance {α β : Type} [Rp α] [Rp β] : Kd (T2 α β) := ⟨"tuple", rpT.kd⟩
instance {α β γ : Type} [Rp α] [Rp β] [Rp γ] : Kd (T3 α β γ) := ⟨"tuple", rpT.kd⟩
instance {α β γ δ : Type} [Rp α] [Rp β] [Rp γ] [Rp δ] : Kd (T4 α β γ δ) := ⟨"tuple", rpT.kd⟩
instance {α β γ δ ε : Type} [Rp α] [Rp β] [Rp γ] [Rp δ] [Rp ε] : Kd (T5 α β γ δ ε) := ⟨"tuple", rpT.kd⟩
theorem goa2 {t1 t2 : TE} {Q : List V → Hp → Prop} (h1 : PE X a t1) (h2 : PE X b t2) (hs : starEach [a, b] X.env = (false, eval a X.env) :: starEach [b] X.env) (hs2 : starEach [b] X.env = (false, eval b X.env) :: starEach [] X.env) (q : t1 σ H fun v H1 => t2 σ H1 fun w H2 => Q [v, w] H2) : GoA X [a, b] σ H Q :=
  GoA.of (pa_cons h1 (pa_cons h2 pa_nil hs2) hs) q
theorem ev_isi {α : Type} [Rp α] [Kd α] {x : α} {T : String} {r : Bool} {p1 p2 : Pos} (h : kitB (Kd.nm α) T = some r) (hm : X.mg "isinstance" = none) (hT : X.mg (Str.ofString T) = none) (hv : bootBuiltins (Str.ofString T) = some (.type T)) (ha : Ev X a σ F H x)
    (hg : Gl X "isinstance" := by rfl) (hgT : Gl X (Str.ofString T) := by rfl) (hn : (Str.ofString T) ≠ "__name__" := by decide) (hd : ((Str.ofString T) == ("__debug__" : Str)) = false := by decide)
    (hs : starEach [a, .Name (Str.ofString T) p2] X.env = (false, eval a X.env) :: starEach [.Name (Str.ofString T) p2] X.env := by rfl) (hs2 : starEach [.Name (Str.ofString T) p2] X.env = (false, eval (.Name (Str.ofString T) p2) X.env) :: starEach [] X.env := by rfl)
    (hpl : (backTo pos (starEach [.Name (Str.ofString T) p2] X.env)).any (·.1) = false := by rfl) : Ev X (.Call (.Name "isinstance" p1) [a, .Name (Str.ofString T) p2] [] pos) σ F H r := fun F1 H1 g Q q =>
  GoE.of (pe_callB call_isk hg hm (by decide +kernel) (pa_cons pe_go (pa_cons (pe_bltn hgT hT hv (v := .ty T) rfl hn hd) pa_nil hs2) hs) (by decide) (by decide) hs hpl)
    (ha F1 H1 g _ fun v F2 H2 g2 r2 => ⟨v, _, T, r, rfl, Kd.kd g2.fh r2, h, q _ F2 H2 g2 rfl⟩)
theorem ev_isiO {α : Type} [Rp α] [NN α] [Kd α] {x : Option α} {T : String} {r : Bool} {p1 p2 : Pos} (h : kitB (Kd.nm α) T = some r) (h0 : kitB "NoneType" T = some false) (hm : X.mg "isinstance" = none) (hT : X.mg (Str.ofString T) = none) (hv : bootBuiltins (Str.ofString T) = some (.type T)) (ha : Ev X a σ F H x)
    (hg : Gl X "isinstance" := by rfl) (hgT : Gl X (Str.ofString T) := by rfl) (hn : (Str.ofString T) ≠ "__name__" := by decide) (hd : ((Str.ofString T) == ("__debug__" : Str)) = false := by decide)
    (hs : starEach [a, .Name (Str.ofString T) p2] X.env = (false, eval a X.env) :: starEach [.Name (Str.ofString T) p2] X.env := by rfl) (hs2 : starEach [.Name (Str.ofString T) p2] X.env = (false, eval (.Name (Str.ofString T) p2) X.env) :: starEach [] X.env := by rfl)
    (hpl : (backTo pos (starEach [.Name (Str.ofString T) p2] X.env)).any (·.1) = false := by rfl) : Ev X (.Call (.Name "isinstance" p1) [a, .Name (Str.ofString T) p2] [] pos) σ F H (x.isSome && r) := fun F1 H1 g Q q =>
  GoE.of (pe_callB call_isk hg hm (by decide +kernel) (pa_cons pe_go (pa_cons (pe_bltn hgT hT hv (v := .ty T) rfl hn hd) pa_nil hs2) hs) (by decide) (by decide) hs hpl)
    (ha F1 H1 g _ fun v F2 H2 g2 r2 => by
      cases x with
      | none =>
        have r2 : v = .non := r2
        subst r2
        exact ⟨_, _, T, false, rfl, .non, h0, q _ F2 H2 g2 rfl⟩
      | some x => exact ⟨v, _, T, r, rfl, Kd.kd (α := α) g2.fh r2, h, q _ F2 H2 g2 (by cases r <;> rfl)⟩)
/-! ### in -/
class Fv (α : Type) [Rp α] [DecidableEq α] : Prop where
  fv : ∀ {K : PySem.W.Frag} {F : Hp} {v : V} {x : α}, rp K F v x → flatV v = true
  ev : ∀ {K : PySem.W.Frag} {F : Hp} {v w : V} {x y : α}, rp K F v x → rp K F w y → eqV v w = decide (x = y)
instance : Fv Int := ⟨fun {K F v x} h => by
  have h : v = .int x := h
  subst h; rfl, fun {K F v w x y} h1 h2 => by
  have h1 : v = .int x := h1
  have h2 : w = .int y := h2
  subst h1; subst h2
  show (x == y) = _
  rw [Bool.beq_eq_decide_eq]⟩
instance : Fv Str := ⟨fun {K F v x} h => by
  have h : v = .str x := h
  subst h; rfl, fun {K F v w x y} h1 h2 => by
  have h1 : v = .str x := h1
  have h2 : w = .str y := h2
  subst h1; subst h2
  show (x == y) = _
  rw [Bool.beq_eq_decide_eq]⟩
theorem inV_eq {α : Type} [Rp α] [DecidableEq α] [Fv α] {v : V} {x : α} (h : rp K F v x) : ∀ {vs : List V} {xs : List α}, Rps K F vs xs → vs.all flatV = true ∧ inV v vs = decide (x ∈ xs)
  | _, _, .nil => ⟨rfl, by simp [inV]⟩
  | _, _, .cons (a := w) (b := y) (l₁ := vs) (l₂ := ys) r t => by
    obtain ⟨h1, h2⟩ := inV_eq h t
    refine ⟨by rw [List.all_cons, Fv.fv r, h1]; rfl, ?_⟩
    unfold inV at h2 ⊢
    rw [List.any_cons, h2, Fv.ev r h]
    by_cases e : x = y
    · subst e; simp
    · have e' : ¬ y = x := fun z => e z.symm
      simp [e, e']
theorem o2_inL {α : Type} [Rp α] [DecidableEq α] [Fv α] {x : α} {xs : List α} : Op2 K (rIn K false) x xs (decide (x ∈ xs)) := fun F H v w Q s rv ⟨p, vs, e, sq, rs⟩ k => by
  obtain ⟨h1, h2⟩ := inV_eq rv rs
  exact ⟨p, vs, e, .inl (s.seq sq), Fv.fv rv, h1, k _ F H (.refl s) (congrArg V.bl h2)⟩
theorem o2_notInL {α : Type} [Rp α] [DecidableEq α] [Fv α] {x : α} {xs : List α} : Op2 K (rIn K true) x xs (!decide (x ∈ xs)) := fun F H v w Q s rv ⟨p, vs, e, sq, rs⟩ k => by
  obtain ⟨h1, h2⟩ := inV_eq rv rs
  exact ⟨p, vs, e, .inl (s.seq sq), Fv.fv rv, h1, k _ F H (.refl s) (congrArg (fun t => V.bl (!t)) h2)⟩
theorem o2_inT {α θ : Type} [Rp α] [Rp θ] [TL θ α] [DecidableEq α] [Fv α] {x : α} {xs : θ} : Op2 K (rIn K false) x xs (decide (x ∈ TL.l xs)) := fun F H v w Q s rv r2 k => by
  obtain ⟨p, vs, e, sq, rs⟩ := TL.sq r2
  obtain ⟨h1, h2⟩ := inV_eq rv rs
  exact ⟨p, vs, e, .inr (sqT_mono s sq), Fv.fv rv, h1, k _ F H (.refl s) (congrArg V.bl h2)⟩
theorem o2_notInT {α θ : Type} [Rp α] [Rp θ] [TL θ α] [DecidableEq α] [Fv α] {x : α} {xs : θ} : Op2 K (rIn K true) x xs (!decide (x ∈ TL.l xs)) := fun F H v w Q s rv r2 k => by
  obtain ⟨p, vs, e, sq, rs⟩ := TL.sq r2
  obtain ⟨h1, h2⟩ := inV_eq rv rs
  exact ⟨p, vs, e, .inr (sqT_mono s sq), Fv.fv rv, h1, k _ F H (.refl s) (congrArg (fun t => V.bl (!t)) h2)⟩
/-! ### equal data -/
class Pd (α : Type) [Rp α] where
  toD : α → PyData
  dp : ∀ {K : PySem.W.Frag} {F : Hp} {v : V} {x : α}, rp K F v x → Dp K F v (toD x)
  eq : ∀ x y, PyData.eqv (toD x) (toD y) = true ↔ x = y
/-- all texts within are texts of signs that Python can have, and it is no deeper than 64 -/
def okD {α : Type} [Rp α] [Pd α] (x : α) : Bool := SeqAt.shaped (Pd.toD x)
class PdS (α : Type) [Rp α] [Pd α] where
  dep : Nat
  de : ∀ x : α, (Pd.toD x).depth ≤ dep
instance : Pd Int := ⟨.int, fun {K F v x} h => by
  have h : v = .int x := h
  subst h; exact .int x, fun x y => by simp [PyData.eqv]⟩
instance : Pd Str := ⟨.str, fun {K F v x} h => by
  have h : v = .str x := h
  subst h; exact .str x, fun x y => by simp [PyData.eqv]⟩
instance : Pd Bool := ⟨.bool, fun {K F v x} h => by
  have h : v = .bl x := h
  subst h; exact .bl x, fun x y => by simp [PyData.eqv]⟩
end
end Gx
namespace Gx
open PySem PySem.Spec PyProof.Rows L2
open Rp (rp)
open Ra (ra)
open Ob (ob)
section
variable {X : Cx} {K : PySem.W.Frag} {e a b c d : Expr} {es : List Expr} {σ : L2.St} {F H F0 H0 : Hp} {pos : Pos} {D : Ends} {st : Stmt} {rest body : List Stmt}
theorem et_chain {α β γ : Type} [Rp α] [Rp β] [Rp γ] {x : α} {y : β} {z : γ} {p q : Bool} {op op' : CmpOp} {r r' : R2} (ho : OpR X (compareOp op) r) (ho' : OpR X (compareOp op') r') (hr : Op2 X.K r x y p) (hr' : Op2 X.K r' y z q)
    (ha : Ev X a σ F H x) (hb : Ev X b σ F H y) (hc : Ev X c σ F H z) (hm : lastMarks [op, op'] [b, c] = false := by with_unfolding_all rfl) : EvT X (.Compare a [op, op'] [b, c] pos) σ F H (p && q) := fun F1 H1 g Q k =>
  GoT.of (pt_chain ho ho' pe_go pe_go pe_go hm) (ha F1 H1 g _ fun v F2 H2 g2 r2 => hb F2 H2 (g.trans g2) _ fun w F3 H3 g3 r3 => hr F3 H3 v w _ g3.fh (Rp.mono g3.ff r2) r3 fun u F4 H4 g4 r4 => by
    have r4 : u = .bl p := r4
    subst r4
    refine ⟨p, rfl, ?_⟩
    cases p with
    | true =>
      rw [if_pos rfl]
      exact hc F4 H4 (((g.trans g2).trans g3).trans g4) _ fun w' F5 H5 g5 r5 => hr' F5 H5 w w' _ g5.fh (Rp.mono (g4.ff.trans g5.ff) r3) r5 fun u' F6 H6 g6 r6 => by
        have r6 : u' = .bl q := r6
        subst r6
        exact ⟨q, rfl, k F6 H6 ((((g2.trans g3).trans g4).trans g5).trans g6)⟩
    | false =>
      rw [if_neg Bool.false_ne_true]
      exact ⟨false, rfl, k F4 H4 ((g2.trans g3).trans g4)⟩)
/-! ### copies, joins -/
theorem en_list_of {α : Type} [Rp α] {xs : List α} {p : Pos} (hm : X.mg "list" = none) (ha : Ev X a σ F H xs) (hg : Gl X "list" := by rfl) (hs : starEach [a] X.env = (false, eval a X.env) :: starEach [] X.env := by rfl) (hpl : (backTo pos (starEach [] X.env)).any (·.1) = false := by rfl) :
    EvN X (.Call (.Name "list" p) [a] [] pos) σ F H xs := fun F1 H1 g Q q =>
  GoE.of (pe_callTy call_list_of hg hm (by decide +kernel) (pa_cons pe_go pa_nil hs) (by decide) (by decide) hs hpl) (ha F1 H1 g _ fun v F2 H2 g2 ⟨p, vs, e, sq, rs⟩ => ⟨p, vs, by rw [e], .inl (g2.fh.seq sq), fun l hl => EvN.new q g2 hl rs⟩)
theorem en_list_tp {α θ : Type} [Rp α] [Rp θ] [TL θ α] {xs : θ} {p : Pos} (hm : X.mg "list" = none) (ha : Ev X a σ F H xs) (hg : Gl X "list" := by rfl) (hs : starEach [a] X.env = (false, eval a X.env) :: starEach [] X.env := by rfl) (hpl : (backTo pos (starEach [] X.env)).any (·.1) = false := by rfl) :
    EvN X (.Call (.Name "list" p) [a] [] pos) σ F H (TL.l xs) := fun F1 H1 g Q q =>
  GoE.of (pe_callTy call_list_of hg hm (by decide +kernel) (pa_cons pe_go pa_nil hs) (by decide) (by decide) hs hpl) (ha F1 H1 g _ fun v F2 H2 g2 r2 => let ⟨p, vs, e, sq, rs⟩ := TL.sq r2; ⟨p, vs, by rw [e], .inr (sqT_mono g2.fh sq), fun l hl => EvN.new q g2 hl rs⟩)
theorem oc_tuple {α : Type} [Rp α] {xs : List α} : OpC K (fun vs H Q => ∃ p ys, vs = [.ref p] ∧ ((SqL K H p ys ∧ ∀ l, H l = none → Q (.ref l) (upd H l (.tup ys))) ∨ (SqT K H p ys ∧ Q (.ref p) H))) (xs, ()) (Tp.mk xs) :=
  oc1 fun F H v Q s ⟨p, vs, e, sq, rs⟩ k => ⟨p, vs, by rw [e], .inl ⟨s.seq sq, fun l hl => k _ (upd F l (.tup vs)) _ (Gr.new s hl) ⟨l, vs, rfl, upd_same, rs.mono (same_upd (s.free hl))⟩⟩⟩
theorem oc_tupleT {α : Type} [Rp α] {xs : Tp α} : OpC K (fun vs H Q => ∃ p ys, vs = [.ref p] ∧ ((SqL K H p ys ∧ ∀ l, H l = none → Q (.ref l) (upd H l (.tup ys))) ∨ (SqT K H p ys ∧ Q (.ref p) H))) (xs, ()) xs :=
  oc1 fun F H v Q s ⟨p, vs, e, sq, rs⟩ k => ⟨p, vs, by rw [e], .inr ⟨seqT_mono s sq, k _ F H (.refl s) ⟨p, vs, rfl, sq, rs⟩⟩⟩
theorem oc_abs {i : Int} : OpC K (fun xs H Q => ∃ i, xs = [.int i] ∧ Q (.int (if i < 0 then -i else i)) H) (i, ()) (if i < 0 then -i else i) :=
  oc1 fun F H v Q s rv k => ⟨i, by rw [show v = .int i from rv], k _ F H (.refl s) rfl⟩
theorem oc_max2 {i j : Int} : OpC K (fun xs H Q => ∃ i j, xs = [.int i, .int j] ∧ Q (.int (if j > i then j else i)) H) (i, j, ()) (if j > i then j else i) :=
  oc2 fun F H v w Q s rv rw' k => ⟨i, j, by rw [show v = .int i from rv, show w = .int j from rw'], k _ F H (.refl s) rfl⟩
theorem oc_min2 {i j : Int} : OpC K (fun xs H Q => ∃ i j, xs = [.int i, .int j] ∧ Q (.int (if j < i then j else i)) H) (i, j, ()) (if j < i then j else i) :=
  oc2 fun F H v w Q s rv rw' k => ⟨i, j, by rw [show v = .int i from rv, show w = .int j from rw'], k _ F H (.refl s) rfl⟩
def rCatL (K : PySem.W.Frag) : R2 := fun x y H Q => ∃ a b xs ys, x = .ref a ∧ y = .ref b ∧ SqL K H a xs ∧ SqL K H b ys ∧ xs.length + ys.length ≤ sizeLine ∧ ∀ p, H p = none → Q (.ref p) (upd H p (.lst (xs ++ ys)))
theorem op_catL : OpR X (binaryOp .Add) (rCatL X.K) := by
  intro pins s σ H x y v u Q I rx ry h
  obtain ⟨a, b, xs, ys, rfl, rfl, ha, hb, hz, q⟩ := h
  cases rx
  cases ry
  obtain ⟨its, r, ⟨⟨cls, dd, data, sl⟩, n, ho, hc, _, hd⟩, _⟩ := I.list ha
  obtain ⟨its2, r2, ⟨⟨cls2, dd2, data2, sl2⟩, n2, ho2, hc2, _, hd2⟩, _⟩ := I.list hb
  simp only at hc hd hc2 hd2
  subst hc hd hc2 hd2
  have e : its.toArray ++ its2.toArray = (its ++ its2).toArray := by simp
  refine concat_meets ⟨_, ho, rfl⟩ ⟨_, ho2, rfl⟩ noFill_list_add seq_list_add PySem.F.slot_list_add PySem.F.entry_list_add (PySem.F.args_list_add_2 _ _) (list_addW a b its.toArray its2.toArray n n2 dd dd2 sl sl2 (by rw [List.size_toArray, List.size_toArray, ← r.length, ← r2.length]; exact hz)) ⟨ho, ho2, ?_⟩
  rw [e]
  exact ⟨.ref _, _, I.lnew (t' := s.toks) (r.append r2) (by rw [List.length_append]; exact hz), rfl, q _ I.fresh⟩
def catG {α : Type} (xs ys : List α) : Option (List α) := if xs.length + ys.length ≤ sizeLine then some (xs ++ ys) else none
theorem en_cat {α : Type} [Rp α] {xs ys r : List α} (ha : Ev X a σ F H xs) (hb : Ev X b σ F H ys) (h : catG xs ys = some r) : EvN X (.BinOp a .Add b pos) σ F H r := fun F1 H1 g Q q =>
  GoE.of (pe_op op_catL pe_go pe_go) (ha F1 H1 g _ fun v F2 H2 g2 r2 => hb F2 H2 (g.trans g2) _ fun w F3 H3 g3 ⟨p', vs', e', sq', rs'⟩ => by
    obtain ⟨p, vs, e, sq, rs⟩ := Rp.mono g3.ff r2
    unfold catG at h
    split at h
    · rename_i hz
      cases (Option.some.inj h)
      exact ⟨p, p', vs, vs', e, e', g3.fh.seq sq, g3.fh.seq sq', by rw [rs.length, rs'.length]; exact hz, fun l hl => EvN.new q (g2.trans g3) hl (Rps.append rs rs')⟩
    · cases h)
def catT {α : Type} (xs ys : Tp α) : Option (Tp α) := if xs.l.length + ys.l.length ≤ sizeLine then some ⟨xs.l ++ ys.l⟩ else none
theorem Rps.nil_r {α : Type} [Rp α] : ∀ {vs : List V} {xs : List α}, Rps K F vs xs → (vs = [] ↔ xs = [])
  | _, _, .nil => by simp
  | _, _, .cons _ _ => by simp
theorem o2_catT {α : Type} [Rp α] {xs ys r : Tp α} (h : catT xs ys = some r) : Op2 K (rCatA K) xs ys r := fun F H v w Q s ⟨p, vs, e, sq, rs⟩ ⟨p', vs', e', sq', rs'⟩ k => by
  unfold catT at h
  split at h
  · rename_i hz
    cases (Option.some.inj h)
    refine ⟨p, p', vs, vs', e, e', seqT_mono s sq, seqT_mono s sq', by rw [rs.length, rs'.length]; exact hz, fun e0 => ?_, fun _ e0 => ?_, fun _ _ l hl => ?_⟩
    · refine k _ F H (.refl s) ⟨p', vs', rfl, sq', ?_⟩
      rw [rs.nil_r.mp e0]; exact rs'
    · refine k _ F H (.refl s) ⟨p, vs, rfl, sq, ?_⟩
      rw [rs'.nil_r.mp e0, List.append_nil]; exact rs
    · exact k _ (upd F l (.tup (vs ++ vs'))) _ (Gr.new s hl) ⟨l, _, rfl, upd_same, (Rps.append rs rs').mono (same_upd (s.free hl))⟩
  · cases h
theorem ev_catT {α : Type} [Rp α] {xs ys r : Tp α} (ha : Ev X a σ F H xs) (hb : Ev X b σ F H ys) (h : catT xs ys = some r) : Ev X (.BinOp a .Add b pos) σ F H r := ev_bin op_catA (o2_catT h) ha hb
theorem ev_sliceT {α : Type} [Rp α] {xs : Tp α} {lo hi : Option Expr} {i j : Option Int} {p2 : Pos} (ha : Ev X a σ F H xs) (hl : EvO X lo σ F H i) (hh : EvO X hi σ F H j) : Ev X (.Subscript a (.Slice lo hi none p2) pos) σ F H (Tp.mk (cut xs.l i j)) := fun F1 H1 g Q q =>
  GoE.of (pe_slice sl_tupA pe_go po_go po_go) (ha F1 H1 g _ fun v F2 H2 g2 r2 => hl F2 H2 (g.trans g2) _ fun F3 H3 g3 => hh F3 H3 ((g.trans g2).trans g3) _ fun F4 H4 g4 => by
    obtain ⟨p, vs, rfl, sq, rs⟩ := Rp.mono (g3.ff.trans g4.ff) r2
    refine ⟨p, vs, rfl, seqT_mono g4.fh sq, fun hw => ?_, fun _ l hl => ?_⟩
    · refine q _ F4 H4 ((g2.trans g3).trans g4) ⟨p, vs, rfl, sq, ?_⟩
      have hw' : HT.sIx xs.l.length 0 i = 0 ∧ HT.sIx xs.l.length xs.l.length j = xs.l.length := by rw [← rs.length]; exact hw
      show Rps _ _ vs (cut xs.l i j)
      unfold cut
      rw [hw'.1, hw'.2]
      simpa using rs
    · exact q _ (upd F4 l (.tup _)) _ (((g2.trans g3).trans g4).trans (Gr.new g4.fh hl)) ⟨l, _, rfl, upd_same, (rs.cut i j).mono (same_upd (g4.fh.free hl))⟩)
end
end Gx

/-! Gm: facts of the mirrors' operations. -/
namespace Gx
open PySem PySem.Spec PyProof.Rows L2
/-- a text of signs -/
abbrev S (l : List Nat) : Str := ⟨l.toArray⟩
theorem S_tl (x : Str) : S x.cps.toList = x := TL.mk_tl x
theorem S_len (a : List Nat) : (S a).length = a.length := by simp [S, Str.length]
theorem szl : sizeLine = 16777216 := PySem.sizeLine_eq
theorem len_cl (z : Str) : z.length = z.cps.toList.length := by simp [Str.length]
theorem atI_ok {α : Type} {xs : List α} {i : Int} (h0 : 0 ≤ i) (h1 : i < xs.length) : ∃ v, L2.atI xs i = some v ∧ xs[i.toNat]? = some v := by
  have hl : i.toNat < xs.length := by omega
  refine ⟨xs[i.toNat], ?_, List.getElem?_eq_getElem hl⟩
  unfold L2.atI ixN
  rw [if_pos h0, if_pos h1]
  exact List.getElem?_eq_getElem hl
theorem atI_nn {α : Type} {xs : List α} {i : Int} (h0 : 0 ≤ i) : L2.atI xs i = xs[i.toNat]? := by
  unfold L2.atI ixN
  rw [if_pos h0]
  by_cases h1 : i < xs.length
  · rw [if_pos h1]; rfl
  · rw [if_neg h1, List.getElem?_eq_none (by omega)]; rfl
theorem cut_len {α : Type} (xs : List α) (i j : Option Int) : (cut xs i j).length ≤ xs.length := by
  unfold cut
  rw [List.length_take, List.length_drop]; omega
theorem sCut_ok {z : Str} (h : z.length ≤ sizeLine) (i j : Option Int) : ∃ r, sCut z i j = some r ∧ r.length ≤ z.length ∧ r.cps.toList = cut z.cps.toList i j := by
  refine ⟨cutS z i j, if_pos h, ?_, ?_⟩
  · unfold cutS
    rw [len_cl, len_cl]
    simp only [List.length_take, List.length_drop]
    omega
  · unfold cutS cut
    rw [len_cl]
theorem sLen_ok {z : Str} (h : z.length ≤ sizeLine) : sLen z = some (z.length : Int) := if_pos h
theorem app_len (a b : Str) : (a ++ b).length = a.length + b.length := by
  have e := TL.tl_append a b
  have e2 : (a ++ b).cps.toList = a.cps.toList ++ b.cps.toList := e
  rw [len_cl, e2, List.length_append, ← len_cl, ← len_cl]
theorem app_cl (a b : Str) : (a ++ b).cps.toList = a.cps.toList ++ b.cps.toList := TL.tl_append a b
theorem sAdd_ok {a b : Str} (h : a.length + b.length ≤ sizeLine) : sAdd a b = some (a ++ b) := if_pos h
theorem sOfI_ok {n : Int} (h0 : 0 ≤ n) (h1 : n < 10 ^ 18) : ∃ r, sOfI n = some r ∧ r.length ≤ 18 ∧ r.cps.toList = TL.numL n.toNat := by
  have e : (n.toNat : Int) = n := Int.toNat_of_nonneg h0
  refine ⟨Str.ofString (toString n), if_pos ?_, ?_, ?_⟩
  · have h2 : n.natAbs < 2 ^ 1920 := by
      have : (10 : Nat) ^ 18 ≤ 2 ^ 1920 := by decide +kernel
      omega
    by_cases hz : n.natAbs = 0
    · rw [hz]; decide
    · exact (Nat.log2_lt hz).mpr h2
  · rw [len_cl]
    have e2 : (Str.ofString (toString n)).cps.toList = TL.numL n.toNat := by rw [← e]; exact TL.tl_num _
    rw [e2]
    exact TL.numL_len (by decide) (by omega)
  · rw [← e]; exact TL.tl_num _
theorem rep_fold (xs : Array Nat) : ∀ (n : Nat) (acc : Array Nat), ((List.replicate n xs).foldl (· ++ ·) acc).size = acc.size + n * xs.size
  | 0, acc => by simp
  | n + 1, acc => by
    rw [List.replicate_succ, List.foldl_cons, rep_fold xs n, Array.size_append, Nat.succ_mul]; omega
theorem sMul_ok {z : Str} {n : Int} (h0 : 0 ≤ n) (h1 : n ≤ 1000) (h2 : z.length ≤ 1000) : ∃ r, sMul z n = some r ∧ r.length ≤ z.length * n.toNat := by
  have hb : z.length * n.toNat ≤ 1000 * 1000 := Nat.mul_le_mul h2 (by omega)
  refine ⟨Txt.mul z n, if_pos ⟨by omega, by omega, by omega⟩, ?_⟩
  · unfold Txt.mul
    split
    · exact Nat.zero_le _
    · split
      · rename_i hh
        rcases Bool.or_eq_true_iff.mp hh with h | h
        · have : n = 1 := by simpa using h
          subst this; simp
        · have : z.length = 0 := by simpa using h
          rw [this]; exact Nat.zero_le _
      · show (Array.size _) ≤ _
        rw [rep_fold]
        show 0 + n.toNat * z.cps.size ≤ z.length * n.toNat
        rw [Nat.zero_add, Nat.mul_comm]
        exact Nat.le_refl _
/-! ### loops -/
theorem loopN_inv {α β : Type} {st : β → α → Option β} (J : β → List α → Prop) : ∀ (xs : List α) (b : β), J b xs → (∀ b x ys, J b (x :: ys) → ∃ b', st b x = some b' ∧ J b' ys) → ∃ b', loopN st b xs = some b' ∧ J b' []
  | [], b, h, _ => ⟨b, rfl, h⟩
  | x :: xs, b, h, hs => by
    obtain ⟨b', e, h'⟩ := hs b x xs h
    obtain ⟨b2, e2, h2⟩ := loopN_inv J xs b' h' hs
    exact ⟨b2, by unfold loopN; rw [e]; exact e2, h2⟩
theorem loopN_cons {α β : Type} {st : β → α → Option β} {b b' : β} {x : α} {xs : List α} (h : st b x = some b') : loopN st b (x :: xs) = loopN st b' xs := by
  unfold loopN; rw [h]
  cases xs <;> rfl
theorem loopM_nx {α β ρ : Type} {st : β → α → Option (Lp β ρ)} {b b' : β} {x : α} {xs : List α} (h : st b x = some (.nx b')) : loopM st b (x :: xs) = loopM st b' xs := by
  rw [loopM, h]
theorem loopM_rt {α β ρ : Type} {st : β → α → Option (Lp β ρ)} {b : β} {r : ρ} {x : α} {xs : List α} (h : st b x = some (.rt r)) : loopM st b (x :: xs) = some (.rt r) := by
  rw [loopM, h]
theorem compM_map {α γ : Type} {f : α → Option (Option γ)} {g : α → γ} : ∀ {xs : List α}, (∀ x ∈ xs, f x = some (some (g x))) → compM f xs = some (xs.map g)
  | [], _ => rfl
  | x :: xs, h => by
    rw [compM, h x List.mem_cons_self, compM_map fun y hy => h y (List.mem_cons_of_mem _ hy)]
    rfl
theorem compM_filter {α γ : Type} {f : α → Option (Option γ)} {p : α → Bool} {g : α → γ} : ∀ {xs : List α}, (∀ x ∈ xs, f x = some (if p x then some (g x) else none)) → compM f xs = some ((xs.filter p).map g)
  | [], _ => rfl
  | x :: xs, h => by
    rw [compM, h x List.mem_cons_self, compM_filter fun y hy => h y (List.mem_cons_of_mem _ hy)]
    cases e : p x with
    | true => simp [e]
    | false => simp [e]
theorem compG_map {α γ : Type} {f : α → Option (Option γ)} {g : α → γ} {xs : List α} (hl : xs.length ≤ sizeLine) (h : ∀ x ∈ xs, f x = some (some (g x))) : compG f xs = some (xs.map g) := by
  unfold compG; rw [if_pos hl]; exact compM_map h
theorem compG_filter {α γ : Type} {f : α → Option (Option γ)} {p : α → Bool} {g : α → γ} {xs : List α} (hl : xs.length ≤ sizeLine) (h : ∀ x ∈ xs, f x = some (if p x then some (g x) else none)) : compG f xs = some ((xs.filter p).map g) := by
  unfold compG; rw [if_pos hl]; exact compM_filter h
theorem int_S {a : List Nat} (h : ∀ c ∈ a, 48 ≤ c ∧ c ≤ 57) (hne : a ≠ []) (hl : a.length ≤ 4300) : PySem.intText? (S a) = some ((NumText.digitsVal a : Nat) : Int) :=
  SX.int_S (List.all_eq_true.mpr fun c hc => by rw [decide_eq_true (h c hc).1, decide_eq_true (h c hc).2]; rfl) hne hl
end Gx

/-! Ge: data compared, walks over pairs, places. -/
namespace Gx
open PySem PySem.Spec PyProof.Rows L2 RZ RT
open Rp (rp)
open Ra (ra)
open Ob (ob)
section
variable {X : Cx} {K : PySem.W.Frag} {e a b c d : Expr} {es : List Expr} {σ : L2.St} {F H F0 H0 : Hp} {pos : Pos} {D : Ends} {st : Stmt} {rest body : List Stmt}
theorem Dp.all {α : Type} [Rp α] [Pd α] : ∀ {vs : List V} {xs : List α}, Rps K F vs xs → DpAll K F vs (xs.map Pd.toD)
  | _, _, .nil => .nil
  | _, _, .cons r t => .cons (Pd.dp r) (Dp.all t)
theorem eqvAll_iff {α : Type} [Rp α] [Pd α] : ∀ xs ys : List α, PyData.eqvAll (xs.map Pd.toD) (ys.map Pd.toD) = true ↔ xs = ys
  | [], [] => by simp [PyData.eqvAll]
  | [], _ :: _ => by simp [PyData.eqvAll]
  | _ :: _, [] => by simp [PyData.eqvAll]
  | x :: xs, y :: ys => by
    rw [List.map_cons, List.map_cons, PyData.eqvAll, Bool.and_eq_true, Pd.eq, eqvAll_iff xs ys, List.cons.injEq]
instance {α : Type} [Rp α] [Pd α] : Pd (List α) := ⟨fun xs => .list (xs.map Pd.toD), fun ⟨a, vs, e, sq, rs⟩ => e ▸ .lst sq (Dp.all rs), fun x y => by rw [PyData.eqv]; exact eqvAll_iff x y⟩
instance {α : Type} [Rp α] [Pd α] : Pd (Tp α) := ⟨fun xs => .tuple (xs.l.map Pd.toD), fun ⟨a, vs, e, sq, rs⟩ => e ▸ .tup (SqT.of sq) (Dp.all rs), fun x y => by
  rw [PyData.eqv]
  cases x; cases y
  rw [eqvAll_iff, Tp.mk.injEq]⟩
class PdR (τ : Type) [Ra τ] where
  toR : τ → List PyData
  dp : ∀ {K : PySem.W.Frag} {F : Hp} {vs : List V} {x : τ}, ra K F vs x → DpAll K F vs (toR x)
  eq : ∀ x y, PyData.eqvAll (toR x) (toR y) = true ↔ x = y
instance : PdR Unit := ⟨fun _ => [], fun {K F vs x} h => by
  have h : vs = [] := h
  subst h; exact .nil, fun x y => by simp [PyData.eqvAll]⟩
instance {α τ : Type} [Rp α] [Ra τ] [Pd α] [PdR τ] : PdR (α × τ) := ⟨fun x => Pd.toD x.1 :: PdR.toR x.2, fun ⟨v, r, e, p, q⟩ => e ▸ .cons (Pd.dp p) (PdR.dp q), fun x y => by
  rw [PyData.eqvAll, Bool.and_eq_true, Pd.eq, PdR.eq, Prod.ext_iff]⟩
theorem rpT.dp {θ τ : Type} [Ra τ] [PdR τ] {row : θ → τ} {F : Hp} {v : V} {x : θ} : rpT row K F v x → Dp K F v (.tuple (PdR.toR (row x))) := fun ⟨a, vs, e, sq, rs⟩ => e ▸ .tup (SqT.of sq) (PdR.dp rs)
theorem rowEq {θ τ : Type} [Ra τ] [PdR τ] {row : θ → τ} (inj : ∀ x y, row x = row y ↔ x = y) (x y : θ) : PyData.eqv (.tuple (PdR.toR (row x))) (.tuple (PdR.toR (row y))) = true ↔ x = y := by
  rw [PyData.eqv, PdR.eq]; exact inj x y
instance {α : Type} [Rp α] [Pd α] : Pd (T1 α) := ⟨fun x => .tuple (PdR.toR x.row), rpT.dp, rowEq fun x y => by cases x; cases y; simp [T1.row]⟩
instance {α β : Type} [Rp α] [Rp β] [Pd α] [Pd β] : Pd (T2 α β) := ⟨fun x => .tuple (PdR.toR x.row), rpT.dp, rowEq fun x y => by cases x; cases y; simp [T2.row]⟩
instance {α β γ : Type} [Rp α] [Rp β] [Rp γ] [Pd α] [Pd β] [Pd γ] : Pd (T3 α β γ) := ⟨fun x => .tuple (PdR.toR x.row), rpT.dp, rowEq fun x y => by cases x; cases y; simp [T3.row]⟩
instance {α β γ δ : Type} [Rp α] [Rp β] [Rp γ] [Rp δ] [Pd α] [Pd β] [Pd γ] [Pd δ] : Pd (T4 α β γ δ) := ⟨fun x => .tuple (PdR.toR x.row), rpT.dp, rowEq fun x y => by cases x; cases y; simp [T4.row]⟩
instance {α β γ δ ε : Type} [Rp α] [Rp β] [Rp γ] [Rp δ] [Rp ε] [Pd α] [Pd β] [Pd γ] [Pd δ] [Pd ε] : Pd (T5 α β γ δ ε) := ⟨fun x => .tuple (PdR.toR x.row), rpT.dp, rowEq fun x y => by cases x; cases y; simp [T5.row]⟩
class PdO (α : Type) [Rp α] [Pd α] : Prop where
  nn : ∀ x : α, Pd.toD x ≠ .none
instance : PdO Int := ⟨fun _ h => nomatch h⟩
instance : PdO Str := ⟨fun _ h => nomatch h⟩
instance : PdO Bool := ⟨fun _ h => nomatch h⟩
instance {α : Type} [Rp α] [Pd α] : PdO (List α) := ⟨fun _ h => nomatch h⟩
instance {α : Type} [Rp α] [Pd α] : PdO (Tp α) := ⟨fun _ h => nomatch h⟩
instance {α β : Type} [Rp α] [Rp β] [Pd α] [Pd β] : PdO (T2 α β) := ⟨fun _ h => nomatch h⟩
instance {α β γ : Type} [Rp α] [Rp β] [Rp γ] [Pd α] [Pd β] [Pd γ] : PdO (T3 α β γ) := ⟨fun _ h => nomatch h⟩
theorem eqv_nl {d : PyData} : PyData.eqv .none d = true → d = .none := by cases d <;> simp [PyData.eqv]
theorem eqv_nr {d : PyData} : PyData.eqv d .none = true → d = .none := by cases d <;> simp [PyData.eqv]
def optD {α : Type} [Rp α] [Pd α] : Option α → PyData
  | none => .none
  | some x => Pd.toD x
instance {α : Type} [Rp α] [NN α] [Pd α] [PdO α] : Pd (Option α) := ⟨optD, fun {K F v x} h => by
  cases x with
  | none =>
    have h : v = .non := h
    subst h; exact .non
  | some x => exact Pd.dp (α := α) h, fun x y => by
  cases x with
  | none =>
    cases y with
    | none => simp [optD, PyData.eqv]
    | some y =>
      constructor
      · intro h; exact absurd (eqv_nl h) (PdO.nn y)
      · intro h; cases h
  | some x =>
    cases y with
    | none =>
      constructor
      · intro h; exact absurd (eqv_nr h) (PdO.nn x)
      · intro h; cases h
    | some y => simp [optD, Pd.eq]⟩
/-- static depth, no texts -/
class PdF (α : Type) [Rp α] [Pd α] : Prop where
  ok : ∀ x : α, (Pd.toD x).canLay0 = true
instance : PdS Int := ⟨0, fun _ => by simp [Pd.toD, PyData.depth]⟩
instance : PdS Str := ⟨0, fun _ => by simp [Pd.toD, PyData.depth]⟩
instance : PdS Bool := ⟨0, fun _ => by simp [Pd.toD, PyData.depth]⟩
theorem dpAll_le {α : Type} [Rp α] [Pd α] [PdS α] : ∀ xs : List α, PyData.depthAll (xs.map Pd.toD) ≤ PdS.dep α
  | [] => by simp [PyData.depthAll]
  | x :: xs => by
    rw [List.map_cons, PyData.depthAll]
    exact Nat.max_le.mpr ⟨PdS.de x, dpAll_le xs⟩
instance {α : Type} [Rp α] [Pd α] [PdS α] : PdS (List α) := ⟨PdS.dep α + 1, fun x => by
  show (PyData.depthAll (x.map Pd.toD)) + 1 ≤ _
  exact Nat.succ_le_succ (dpAll_le x)⟩
instance {α : Type} [Rp α] [Pd α] [PdS α] : PdS (Tp α) := ⟨PdS.dep α + 1, fun x => by
  show (PyData.depthAll (x.l.map Pd.toD)) + 1 ≤ _
  exact Nat.succ_le_succ (dpAll_le x.l)⟩
class PdRS (τ : Type) [Ra τ] [PdR τ] where
  dep : Nat
  de : ∀ x : τ, PyData.depthAll (PdR.toR x) ≤ dep
instance : PdRS Unit := ⟨0, fun _ => by simp [PdR.toR, PyData.depthAll]⟩
instance {α τ : Type} [Rp α] [Ra τ] [Pd α] [PdR τ] [PdS α] [PdRS τ] : PdRS (α × τ) := ⟨max (PdS.dep α) (PdRS.dep τ), fun x => by
  show max (PyData.depth _) (PyData.depthAll _) ≤ _
  have h1 := PdS.de x.1
  have h2 := PdRS.de x.2
  omega⟩
instance {α : Type} [Rp α] [Pd α] [PdS α] : PdS (T1 α) := ⟨PdRS.dep (α × Unit) + 1, fun x => Nat.succ_le_succ (PdRS.de x.row)⟩
instance {α β : Type} [Rp α] [Rp β] [Pd α] [Pd β] [PdS α] [PdS β] : PdS (T2 α β) := ⟨PdRS.dep (α × β × Unit) + 1, fun x => Nat.succ_le_succ (PdRS.de x.row)⟩
instance {α β γ : Type} [Rp α] [Rp β] [Rp γ] [Pd α] [Pd β] [Pd γ] [PdS α] [PdS β] [PdS γ] : PdS (T3 α β γ) := ⟨PdRS.dep (α × β × γ × Unit) + 1, fun x => Nat.succ_le_succ (PdRS.de x.row)⟩
instance {α β γ δ : Type} [Rp α] [Rp β] [Rp γ] [Rp δ] [Pd α] [Pd β] [Pd γ] [Pd δ] [PdS α] [PdS β] [PdS γ] [PdS δ] : PdS (T4 α β γ δ) := ⟨PdRS.dep (α × β × γ × δ × Unit) + 1, fun x => Nat.succ_le_succ (PdRS.de x.row)⟩
instance {α β γ δ ε : Type} [Rp α] [Rp β] [Rp γ] [Rp δ] [Rp ε] [Pd α] [Pd β] [Pd γ] [Pd δ] [Pd ε] [PdS α] [PdS β] [PdS γ] [PdS δ] [PdS ε] : PdS (T5 α β γ δ ε) := ⟨PdRS.dep (α × β × γ × δ × ε × Unit) + 1, fun x => Nat.succ_le_succ (PdRS.de x.row)⟩
instance {α : Type} [Rp α] [NN α] [Pd α] [PdO α] [PdS α] : PdS (Option α) := ⟨PdS.dep α, fun x => by
  cases x with
  | none => exact Nat.zero_le _
  | some x => exact PdS.de x⟩
instance : PdF Int := ⟨fun _ => by simp [Pd.toD, PyData.canLay0]⟩
instance : PdF Bool := ⟨fun _ => by simp [Pd.toD, PyData.canLay0]⟩
theorem layAll {α : Type} [Rp α] [Pd α] : ∀ {xs : List α}, (∀ x ∈ xs, (Pd.toD x).canLay0 = true) → PyData.canLayAll0 (xs.map Pd.toD) = true
  | [], _ => by simp [PyData.canLayAll0]
  | x :: xs, h => by
    rw [List.map_cons, PyData.canLayAll0, h x List.mem_cons_self, layAll fun y hy => h y (List.mem_cons_of_mem _ hy)]; rfl
instance {α : Type} [Rp α] [Pd α] [PdF α] : PdF (List α) := ⟨fun x => layAll fun y _ => PdF.ok y⟩
instance {α : Type} [Rp α] [Pd α] [PdF α] : PdF (Tp α) := ⟨fun x => layAll fun y _ => PdF.ok y⟩
class PdRF (τ : Type) [Ra τ] [PdR τ] : Prop where
  ok : ∀ x : τ, PyData.canLayAll0 (PdR.toR x) = true
instance : PdRF Unit := ⟨fun _ => by simp [PdR.toR, PyData.canLayAll0]⟩
instance {α τ : Type} [Rp α] [Ra τ] [Pd α] [PdR τ] [PdF α] [PdRF τ] : PdRF (α × τ) := ⟨fun x => by
  show (PyData.canLay0 _ && PyData.canLayAll0 _) = true
  rw [PdF.ok, PdRF.ok]; rfl⟩
instance {α : Type} [Rp α] [Pd α] [PdF α] : PdF (T1 α) := ⟨fun x => PdRF.ok x.row⟩
instance {α β : Type} [Rp α] [Rp β] [Pd α] [Pd β] [PdF α] [PdF β] : PdF (T2 α β) := ⟨fun x => PdRF.ok x.row⟩
instance {α β γ : Type} [Rp α] [Rp β] [Rp γ] [Pd α] [Pd β] [Pd γ] [PdF α] [PdF β] [PdF γ] : PdF (T3 α β γ) := ⟨fun x => PdRF.ok x.row⟩
instance {α β γ δ : Type} [Rp α] [Rp β] [Rp γ] [Rp δ] [Pd α] [Pd β] [Pd γ] [Pd δ] [PdF α] [PdF β] [PdF γ] [PdF δ] : PdF (T4 α β γ δ) := ⟨fun x => PdRF.ok x.row⟩
instance {α β γ δ ε : Type} [Rp α] [Rp β] [Rp γ] [Rp δ] [Rp ε] [Pd α] [Pd β] [Pd γ] [Pd δ] [Pd ε] [PdF α] [PdF β] [PdF γ] [PdF δ] [PdF ε] : PdF (T5 α β γ δ ε) := ⟨fun x => PdRF.ok x.row⟩
instance {α : Type} [Rp α] [NN α] [Pd α] [PdO α] [PdF α] : PdF (Option α) := ⟨fun x => by
  cases x with
  | none => rfl
  | some x => exact PdF.ok x⟩
theorem okD_of {α : Type} [Rp α] [Pd α] [PdS α] (hd : PdS.dep α ≤ 64) {x : α} (h : (Pd.toD x).canLay0 = true) : okD x = true := by
  unfold okD SeqAt.shaped
  rw [h, decide_eq_true (Nat.le_trans (PdS.de x) hd)]; rfl
theorem okD_F {α : Type} [Rp α] [Pd α] [PdS α] [PdF α] (x : α) (hd : PdS.dep α ≤ 64 := by decide) : okD x = true := okD_of hd (PdF.ok x)
/-- x == y of data -/
def eqG {α : Type} [Rp α] [Pd α] [DecidableEq α] (x y : α) : Option Bool := if (okD x && okD y) = true then some (decide (x = y)) else none
theorem eqG_ok {α : Type} [Rp α] [Pd α] [DecidableEq α] {x y : α} (h1 : okD x = true) (h2 : okD y = true) : eqG x y = some (decide (x = y)) := by
  unfold eqG; rw [h1, h2]; rfl
theorem eqG_F {α : Type} [Rp α] [Pd α] [PdS α] [PdF α] [DecidableEq α] (x y : α) (hd : PdS.dep α ≤ 64 := by decide) : eqG x y = some (decide (x = y)) := eqG_ok (okD_F x hd) (okD_F y hd)
theorem eqG_of {α : Type} [Rp α] [Pd α] [DecidableEq α] {x y : α} {r : Bool} (h : eqG x y = some r) : okD x = true ∧ okD y = true ∧ decide (x = y) = r := by
  unfold eqG at h; split at h
  · rename_i h1
    obtain ⟨h1, h2⟩ := Bool.and_eq_true_iff.mp h1
    exact ⟨h1, h2, Option.some.inj h⟩
  · cases h
theorem eqv_dec {α : Type} [Rp α] [Pd α] [DecidableEq α] (x y : α) : PyData.eqv (Pd.toD x) (Pd.toD y) = decide (x = y) := by
  have h := Pd.eq x y
  cases q : PyData.eqv (Pd.toD x) (Pd.toD y) with
  | true => exact (decide_eq_true (h.mp q)).symm
  | false => exact (decide_eq_false fun e => by rw [h.mpr e] at q; cases q).symm
theorem dp_mono {v : V} {d : PyData} (s : L2.Same F H) : ∀ {d : PyData} {v : V}, Dp K F v d → Dp K H v d := by
  intro d v h
  exact Dp.rec (motive_1 := fun v d _ => Dp K H v d) (motive_2 := fun vs ds _ => DpAll K H vs ds) .non .bl .int .str (fun q _ ih => .lst (s.seq q) ih) (fun q _ ih => .tup (sqT_mono s q) ih) .nil (fun _ _ i1 i2 => .cons i1 i2) h
theorem o2_eqD {α : Type} [Rp α] [Pd α] [DecidableEq α] {x y : α} {r : Bool} (h : eqG x y = some r) : Op2 K (rEqD K) x y r := fun F H v w Q s rv rw' k => by
  obtain ⟨h1, h2, h3⟩ := eqG_of h
  exact ⟨_, _, Pd.dp (Rp.mono s rv), Pd.dp (Rp.mono s rw'), h1, h2, k _ F H (.refl s) (congrArg V.bl ((eqv_dec x y).trans h3))⟩
theorem o2_neD {α : Type} [Rp α] [Pd α] [DecidableEq α] {x y : α} {r : Bool} (h : eqG x y = some r) : Op2 K (rNeD K) x y (!r) := fun F H v w Q s rv rw' k => by
  obtain ⟨h1, h2, h3⟩ := eqG_of h
  exact ⟨_, _, Pd.dp (Rp.mono s rv), Pd.dp (Rp.mono s rw'), h1, h2, k _ F H (.refl s) (congrArg (fun t => V.bl (!t)) ((eqv_dec x y).trans h3))⟩
/-- x in a list or tuple of data -/
def inG {α : Type} [Rp α] [Pd α] [DecidableEq α] (x : α) (xs : List α) : Option Bool := if (okD x && okD xs) = true then some (decide (x ∈ xs)) else none
theorem inG_of {α : Type} [Rp α] [Pd α] [DecidableEq α] {x : α} {xs : List α} {r : Bool} (h : inG x xs = some r) : okD x = true ∧ okD xs = true ∧ decide (x ∈ xs) = r := by
  unfold inG at h; split at h
  · rename_i h1
    obtain ⟨h1, h2⟩ := Bool.and_eq_true_iff.mp h1
    exact ⟨h1, h2, Option.some.inj h⟩
  · cases h
theorem any_in {α : Type} [Rp α] [Pd α] [DecidableEq α] (x : α) (xs : List α) : ((xs.map Pd.toD).any fun z => PyData.eqv z (Pd.toD x)) = decide (x ∈ xs) := by
  induction xs with
  | nil => simp
  | cons y ys ih =>
    rw [List.map_cons, List.any_cons, ih, eqv_dec]
    by_cases e : x = y
    · subst e; simp
    · have e' : ¬ y = x := fun z => e z.symm
      simp [e, e']
theorem o2_inD {α : Type} [Rp α] [Pd α] [DecidableEq α] {x : α} {xs : List α} {r : Bool} (h : inG x xs = some r) : Op2 K (rInD K) x xs r := fun F H v w Q s rv rw' k => by
  obtain ⟨h1, h2, h3⟩ := inG_of h
  exact ⟨_, _, Pd.dp (Rp.mono s rv), Pd.dp (Rp.mono s rw'), h1, h2, k _ F H (.refl s) (congrArg V.bl ((any_in x xs).trans h3))⟩
theorem o2_notInD {α : Type} [Rp α] [Pd α] [DecidableEq α] {x : α} {xs : List α} {r : Bool} (h : inG x xs = some r) : Op2 K (rNotInD K) x xs (!r) := fun F H v w Q s rv rw' k => by
  obtain ⟨h1, h2, h3⟩ := inG_of h
  exact ⟨_, _, Pd.dp (Rp.mono s rv), Pd.dp (Rp.mono s rw'), h1, h2, k _ F H (.refl s) (congrArg (fun t => V.bl (!t)) ((any_in x xs).trans h3))⟩
/-! ### pairs walked -/
def enumF {α : Type} : Int → List α → List (T2 Int α)
  | _, [] => []
  | i, x :: xs => ⟨i, x⟩ :: enumF (i + 1) xs
abbrev enumL {α : Type} (xs : List α) : List (T2 Int α) := enumF 0 xs
theorem enumF_get {α : Type} : ∀ {xs : List α} {j : Int} {i : Nat} {x : T2 Int α}, (enumF j xs)[i]? = some x → x.a = j + i ∧ xs[i]? = some x.b
  | [], _, _, _, h => by simp [enumF] at h
  | y :: ys, j, 0, x, h => by
    simp [enumF] at h; subst h; simp
  | y :: ys, j, i + 1, x, h => by
    have h' : (enumF (j + 1) ys)[i]? = some x := by simpa [enumF] using h
    obtain ⟨h1, h2⟩ := enumF_get h'
    exact ⟨by rw [h1]; omega, by simpa using h2⟩
theorem enumF_len {α : Type} : ∀ {xs : List α} {j : Int}, (enumF j xs).length = xs.length
  | [], _ => rfl
  | x :: xs, j => by rw [enumF, List.length_cons, enumF_len, List.length_cons]
def zipL {α β : Type} : List α → List β → List (T2 α β)
  | x :: xs, y :: ys => ⟨x, y⟩ :: zipL xs ys
  | _, _ => []
theorem zipL_get {α β : Type} : ∀ {xs : List α} {ys : List β} {i : Nat} {z : T2 α β}, (zipL xs ys)[i]? = some z → xs[i]? = some z.a ∧ ys[i]? = some z.b
  | [], _, _, _, h => by simp [zipL] at h
  | _ :: _, [], _, _, h => by simp [zipL] at h
  | x :: xs, y :: ys, 0, z, h => by
    simp [zipL] at h; subst h; simp
  | x :: xs, y :: ys, i + 1, z, h => by
    have h' : (zipL xs ys)[i]? = some z := by simpa [zipL] using h
    obtain ⟨h1, h2⟩ := zipL_get h'
    exact ⟨by simpa using h1, by simpa using h2⟩
theorem zipL_len {α β : Type} : ∀ {xs : List α} {ys : List β}, (zipL xs ys).length = min xs.length ys.length
  | [], _ => by simp [zipL]
  | _ :: _, [] => by simp [zipL]
  | x :: xs, y :: ys => by rw [zipL, List.length_cons, zipL_len, List.length_cons, List.length_cons]; omega
theorem pair_new {α β : Type} [Rp α] [Rp β] {T : Addr} {v w : V} {x : α} {y : β} (s : L2.Same F H) (hT : H T = none) (rv : rp K F v x) (rw' : rp K F w y) : ∃ F', Gr F H F' (upd H T (.tup [v, w])) ∧ rp K F' (.ref T) (T2.mk x y) :=
  ⟨_, Gr.new s hT, T, [v, w], rfl, upd_same, v, [w], rfl, Rp.mono (same_upd (s.free hT)) rv, w, [], rfl, Rp.mono (same_upd (s.free hT)) rw', rfl⟩
theorem ei_enum {α : Type} [Rp α] {xs : List α} {p tpos : Pos} {elts : List Expr} {kk : Nat} (h : Ev X e σ F H xs) (hm : X.mg "enumerate" = none) (hg : Gl X "enumerate" := by rfl) (hs : starEach [e] X.env = [(false, eval e X.env)] := by rfl) :
    EvI X (.Tuple elts kk tpos) (.Call (.Name "enumerate" p) [e] [] pos) σ F H (enumL xs) := fun F1 H1 g R q =>
  GoI.of (pi_enum hg hm (pa_cons pe_go pa_nil (by rw [hs]; rfl)) hs) (h F1 H1 g _ fun v F2 H2 g2 ⟨a, vs, e, sq, rs⟩ => ⟨a, vs, by rw [e], g2.fh.seq sq, q _ F2 H2 g2 fun i Fi Hi s1 s2 => by
    have sq' := s2.seq (s1.seq sq)
    refine ⟨fun x hx => ?_, fun e => ⟨vs, sq', by rw [e, rs.length, enumF_len]; exact Nat.le_refl _⟩⟩
    obtain ⟨h1, h2⟩ := enumF_get hx
    obtain ⟨y, hy, ry⟩ := rs.get h2
    refine ⟨⟨vs, y, sq', hy⟩, fun v H' ⟨T, x', e1, e2, e3, e4⟩ => ?_⟩
    subst e1; subst e3
    have e5 := e4 vs sq'
    rw [hy] at e5
    cases e5
    have hi : x.a = (i : Int) := by rw [h1]; omega
    have := pair_new (K := X.K) (x := x.a) (y := x.b) s2 e2 (v := .int (i : Nat)) (congrArg V.int hi.symm) (Rp.mono s1 ry)
    exact this⟩)
theorem ei_zip {α β : Type} [Rp α] [Rp β] {xs : List α} {ys : List β} {p tpos : Pos} {elts : List Expr} {kk : Nat} (ha : Ev X a σ F H xs) (hb : Ev X b σ F H ys) (hm : X.mg "zip" = none) (hg : Gl X "zip" := by rfl) (hs : starEach [a, b] X.env = (false, eval a X.env) :: starEach [b] X.env := by rfl) (hs2 : starEach [b] X.env = (false, eval b X.env) :: starEach [] X.env := by rfl)
    (hpl : (backTo pos (starEach [b] X.env)).any (·.1) = false := by rfl) : EvI X (.Tuple elts kk tpos) (.Call (.Name "zip" p) [a, b] [] pos) σ F H (zipL xs ys) := fun F1 H1 g R q =>
  GoI.of (pi_zipA hg hm (pa_cons pe_go (pa_cons pe_go pa_nil hs2) hs) hs hpl) (ha F1 H1 g _ fun v F2 H2 g2 r2 => hb F2 H2 (g.trans g2) _ fun w F3 H3 g3 ⟨p', vs', e', sq', rs'⟩ => by
    obtain ⟨p, vs, e, sq, rs⟩ := Rp.mono g3.ff r2
    refine ⟨p, p', vs, vs', by rw [e, e'], .inl ⟨g3.fh.seq sq, g3.fh.seq sq', q _ F3 H3 (g2.trans g3) fun i Fi Hi s1 s2 => ?_⟩⟩
    have q1 := s2.seq (s1.seq sq)
    have q2 := s2.seq (s1.seq sq')
    refine ⟨fun x hx => ?_, fun e => ⟨vs, vs', q1, q2, by rw [e, zipL_len, rs.length, rs'.length]; omega⟩⟩
    obtain ⟨h1, h2⟩ := zipL_get hx
    obtain ⟨y, hy, ry⟩ := rs.get h1
    obtain ⟨z, hz, rz⟩ := rs'.get h2
    refine ⟨⟨vs, vs', y, z, q1, q2, hy, hz⟩, fun v H' ⟨T, x1, y1, e1, e2, e3, e4, e5⟩ => ?_⟩
    subst e1; subst e3
    have e6 := e4 vs q1
    have e7 := e5 vs' q2
    rw [hy] at e6; rw [hz] at e7
    cases e6; cases e7
    exact pair_new s2 e2 (Rp.mono s1 ry) (Rp.mono s1 rz))
theorem ei_zipT {α β θ θ' : Type} [Rp α] [Rp β] [Rp θ] [Rp θ'] [TL θ α] [TL θ' β] {xs : θ} {ys : θ'} {p tpos : Pos} {elts : List Expr} {kk : Nat} (ha : Ev X a σ F H xs) (hb : Ev X b σ F H ys) (hm : X.mg "zip" = none) (hg : Gl X "zip" := by rfl) (hs : starEach [a, b] X.env = (false, eval a X.env) :: starEach [b] X.env := by rfl) (hs2 : starEach [b] X.env = (false, eval b X.env) :: starEach [] X.env := by rfl)
    (hpl : (backTo pos (starEach [b] X.env)).any (·.1) = false := by rfl) : EvI X (.Tuple elts kk tpos) (.Call (.Name "zip" p) [a, b] [] pos) σ F H (zipL (TL.l xs) (TL.l ys)) := fun F1 H1 g R q =>
  GoI.of (pi_zipA hg hm (pa_cons pe_go (pa_cons pe_go pa_nil hs2) hs) hs hpl) (ha F1 H1 g _ fun v F2 H2 g2 r2 => hb F2 H2 (g.trans g2) _ fun w F3 H3 g3 r3 => by
    obtain ⟨p', vs', e', sq', rs'⟩ := TL.sq r3
    obtain ⟨p, vs, e, sq, rs⟩ := TL.sq (Rp.mono g3.ff r2)
    refine ⟨p, p', vs, vs', by rw [e, e'], .inr ⟨sqT_mono g3.fh sq, sqT_mono g3.fh sq', q _ F3 H3 (g2.trans g3) fun i Fi Hi s1 s2 => ?_⟩⟩
    have q1 : SqT X.K Hi p vs := sqT_mono s2 (sqT_mono s1 sq)
    have q2 : SqT X.K Hi p' vs' := sqT_mono s2 (sqT_mono s1 sq')
    refine ⟨fun x hx => ?_, fun e => ⟨vs, vs', q1, q2, by rw [e, zipL_len, rs.length, rs'.length]; omega⟩⟩
    obtain ⟨h1, h2⟩ := zipL_get hx
    obtain ⟨y, hy, ry⟩ := rs.get h1
    obtain ⟨z, hz, rz⟩ := rs'.get h2
    refine ⟨⟨vs, vs', y, z, q1, q2, hy, hz⟩, fun v H' ⟨T, x1, y1, e1, e2, e3, e4, e5⟩ => ?_⟩
    subst e1; subst e3
    have e6 := e4 vs q1
    have e7 := e5 vs' q2
    rw [hy] at e6; rw [hz] at e7
    cases e6; cases e7
    exact pair_new s2 e2 (Rp.mono s1 ry) (Rp.mono s1 rz))
theorem rev_get {α : Type} {xs : List α} {i : Nat} {x : α} (h : xs.reverse[i]? = some x) : i < xs.length ∧ xs[xs.length - 1 - i]? = some x := by
  have hi : i < xs.length := by
    rcases Nat.lt_or_ge i xs.length with h1 | h1
    · exact h1
    · rw [List.getElem?_eq_none (by simpa using h1)] at h; cases h
  rw [List.getElem?_reverse hi] at h
  exact ⟨hi, h⟩
theorem ei_rev {α : Type} [Rp α] {xs : List α} {p : Pos} {tg : Expr} (h : Ev X e σ F H xs) (hm : X.mg "reversed" = none) (hg : Gl X "reversed" := by rfl) (hs : starEach [e] X.env = (false, eval e X.env) :: starEach [] X.env := by rfl) :
    EvI X tg (.Call (.Name "reversed" p) [e] [] pos) σ F H xs.reverse := fun F1 H1 g R q =>
  GoI.of (pi_revA hg hm pe_go hs) (h F1 H1 g _ fun v F2 H2 g2 ⟨a, vs, e, sq, rs⟩ => ⟨a, vs, e, .inl ⟨g2.fh.seq sq, q _ F2 H2 g2 fun i Fi Hi s1 s2 => by
    have sq' := s2.seq (s1.seq sq)
    refine ⟨fun x hx => ?_, fun e => by rw [e, List.length_reverse, ← rs.length]; exact Nat.le_refl _⟩
    obtain ⟨h1, h2⟩ := rev_get hx
    obtain ⟨y, hy, ry⟩ := rs.get h2
    rw [← rs.length] at h1 hy
    refine ⟨⟨h1, vs, y, sq', hy⟩, fun v H' ⟨e1, e2⟩ => ?_⟩
    subst e1
    have e3 := e2 vs sq'
    rw [hy] at e3
    cases e3
    exact ⟨Fi, .refl s2, Rp.mono s1 ry⟩⟩⟩)
theorem ei_revT {α θ : Type} [Rp α] [Rp θ] [TL θ α] {xs : θ} {p : Pos} {tg : Expr} (h : Ev X e σ F H xs) (hm : X.mg "reversed" = none) (hg : Gl X "reversed" := by rfl) (hs : starEach [e] X.env = (false, eval e X.env) :: starEach [] X.env := by rfl) :
    EvI X tg (.Call (.Name "reversed" p) [e] [] pos) σ F H (TL.l xs).reverse := fun F1 H1 g R q =>
  GoI.of (pi_revA hg hm pe_go hs) (h F1 H1 g _ fun v F2 H2 g2 r2 => let ⟨a, vs, e, sq, rs⟩ := TL.sq r2; ⟨a, vs, e, .inr ⟨sqT_mono g2.fh sq, q _ F2 H2 g2 fun i Fi Hi s1 s2 => by
    have sq' : SqT X.K Hi a vs := sqT_mono s2 (sqT_mono s1 sq)
    refine ⟨fun x hx => ?_, fun e => by rw [e, List.length_reverse, ← rs.length]; exact Nat.le_refl _⟩
    obtain ⟨h1, h2⟩ := rev_get hx
    obtain ⟨y, hy, ry⟩ := rs.get h2
    rw [← rs.length] at h1 hy
    refine ⟨⟨h1, vs, y, sq', hy⟩, fun v H' ⟨e1, e2⟩ => ?_⟩
    subst e1
    have e3 := e2 vs sq'
    rw [hy] at e3
    cases e3
    exact ⟨Fi, .refl s2, Rp.mono s1 ry⟩⟩⟩)
/-! ### the place of an item -/
def idxG {α : Type} [Rp α] [Pd α] [DecidableEq α] (xs : List α) (x : α) : Option Int := if (okD x && okD xs) = true ∧ x ∈ xs then some ((xs.idxOf x : Nat) : Int) else none
theorem idxG_of {α : Type} [Rp α] [Pd α] [DecidableEq α] {x : α} {xs : List α} {r : Int} (h : idxG xs x = some r) : okD x = true ∧ okD xs = true ∧ x ∈ xs ∧ r = ((xs.idxOf x : Nat) : Int) := by
  unfold idxG at h; split at h
  · rename_i h1
    obtain ⟨h0, h3⟩ := h1
    obtain ⟨h1, h2⟩ := Bool.and_eq_true_iff.mp h0
    exact ⟨h1, h2, h3, (Option.some.inj h).symm⟩
  · cases h
theorem idx_at {α : Type} [DecidableEq α] {x : α} : ∀ {xs : List α}, x ∈ xs → xs[xs.idxOf x]? = some x ∧ ∀ m, m < xs.idxOf x → xs[m]? ≠ some x
  | y :: ys, h => by
    by_cases e : y = x
    · subst e; simp
    · have hx : x ∈ ys := by
        rcases List.mem_cons.mp h with h | h
        · exact absurd h.symm e
        · exact h
      obtain ⟨h1, h2⟩ := idx_at hx
      have hi : (y :: ys).idxOf x = ys.idxOf x + 1 := by
        rw [List.idxOf_cons, beq_eq_false_iff_ne.mpr e]; rfl
      rw [hi]
      refine ⟨by simpa using h1, fun m hm => ?_⟩
      cases m with
      | zero => simpa using e
      | succ m => simpa using h2 m (by omega)
theorem ev_indexL {α : Type} [Rp α] [Pd α] [DecidableEq α] {xs : List α} {x : α} {r : Int} {apos : Pos} (ho : Ev X a σ F H xs) (he : Ev X e σ F H x) (h : idxG xs x = some r) (hu : X.A.units + 65 < cLine)
    (hbase : attributeBase a "index" X.env (eval a X.env) = eval a X.env := by rfl)
    (hfew : ((backTo pos (starEach [e] X.env)).all (fun x => !x.1) && (backToKw pos (keywordEach [] X.env)).all (fun x => x.1.isSome) && decide ([e].length + ([] : List Keyword).length + (if ([] : List Keyword).isEmpty then 0 else 1) < 30)) = true := by rfl)
    (hline : (apos.endLine == pos.line) = true := by rfl) (hs : starEach [e] X.env = (false, eval e X.env) :: starEach [] X.env := by rfl) (hplain : (backTo pos (starEach [] X.env)).any (·.1) = false := by rfl) :
    Ev X (.Call (.Attribute a "index" apos) [e] [] pos) σ F H r := fun F1 H1 g Q q => by
  obtain ⟨k1, k2, k3, rfl⟩ := idxG_of h
  refine GoE.of (pe_bm PySem.F.plainAttrs_list PySem.F.slot_list_index PySem.F.type_list_index (mt_indexD hu) pe_go (pa_cons pe_go pa_nil hs) hbase hfew hline hs hplain) (ho F1 H1 g _ fun v F2 H2 g2 r2 => ?_)
  obtain ⟨p, vs, rfl, sq, rs⟩ := id r2
  refine ⟨.inl ⟨rfl, vs, g2.fh.seq sq⟩, he F2 H2 (g.trans g2) _ fun w F3 H3 g3 r3 => ?_⟩
  obtain ⟨h1, h2⟩ := idx_at k3
  refine ⟨p, w, Pd.toD x, xs.map Pd.toD, xs.idxOf x, Pd.toD x, rfl, rfl, Pd.dp (Rp.mono (g3.ff.trans g3.fh) r2), Pd.dp (Rp.mono g3.fh r3), k2, k1, by rw [List.getElem?_map, h1]; rfl, (eqv_dec x x).trans (decide_eq_true rfl), fun m z' hm hz => ?_, q _ F3 H3 (g2.trans g3) rfl⟩
  rw [List.getElem?_map] at hz
  obtain ⟨y, hy, rfl⟩ := Option.map_eq_some_iff.mp hz
  rw [eqv_dec]
  exact decide_eq_false fun e => h2 m hm (e ▸ hy)
/-! ### tuples without a dict of their own -/
def rTupN (K : PySem.W.Frag) : List V → Hp → VK → Prop := fun xs H Q => ∃ p ys, xs = [.ref p] ∧ SqL K H p ys ∧ ∀ l o, H l = none → o.dict = none → o.cls = .type "tuple" → Q (.ref l) (upd H l (.frz o (.tup ys)))
theorem call_tupN : CallR X (.type "tuple") (rTupN X.K) := by
  intro pins s σ H xs us Q I r ⟨p, ys, e, hq, q⟩
  subst e
  obtain ⟨u, rfl, rx⟩ := vals1 r
  cases rx
  obtain ⟨its, r', pl, hz⟩ := I.list hq
  have hlen := r'.length
  refine call_tuple_list pl.isList (fun h' kp => ?_) (by simp only [List.size_toArray] <;> omega)
  have I1 : Inv X pins σ H { s with heap := h' } := I.kept (t' := s.toks) kp
  have new : ObjOk X.prog X.w (upd H h'.objs.size (.frz { cls := .type "tuple", data := .seq its.toArray } (.tup ys))) (h'.push { cls := .type "tuple", data := .seq its.toArray }) h'.objs.size (.frz { cls := .type "tuple", data := .seq its.toArray } (.tup ys)) :=
    ⟨Heap.get?_push_size _ rfl, hz, its, r', IsTup.new _ _⟩
  exact ⟨.ref h'.objs.size, _, I1.laid (t' := s.toks) (fun b o e => Heap.get?_push_of_some _ e) (Nat.le_refl _) new, rfl, q _ _ (I1.hok.fresh (Nat.le_refl _)) rfl rfl⟩
theorem oc_tupleN {α : Type} [Rp α] {xs : List α} : OpC K (rTupN K) (xs, ()) (Tn.mk xs) :=
  oc1 fun F H v Q s ⟨p, vs, e, sq, rs⟩ k => ⟨p, vs, by rw [e], s.seq sq, fun l o hl h1 h2 => k _ (upd F l (.frz o (.tup vs))) _ (Gr.new s hl) ⟨l, vs, o, rfl, upd_same, h1, h2, rs.mono (same_upd (s.free hl))⟩⟩
def tBMn (r : V → List V → Hp → VK → Prop) (to : TE) (t : TA) : TE := fun σ H Q => to σ H fun x H1 => (∃ p o xs, x = .ref p ∧ H1 p = some (.frz o (.tup xs)) ∧ o.dict = none ∧ o.cls = .type "tuple") ∧ t σ H1 fun xs H2 => r x xs H2 Q
theorem pe_bmn {o : Expr} {to : TE} {t : TA} {name : Str} {apos cpos : Pos} {id : String} {r : V → List V → Hp → VK → Prop} (pa : PlainAttrs "tuple") (slot : Slot "tuple" name id) (hty : typeOf (.builtin id) = pure (.type "method_descriptor")) (hm : MtR X id r) (ho : PE X o to) (ha : PA X (e :: es) t)
    (hbase : attributeBase o name X.env (eval o X.env) = eval o X.env)
    (hfew : ((backTo cpos (starEach (e :: es) X.env)).all (fun x => !x.1) && (backToKw cpos (keywordEach [] X.env)).all (fun x => x.1.isSome) && decide ((e :: es).length + ([] : List Keyword).length + (if ([] : List Keyword).isEmpty then 0 else 1) < 30)) = true)
    (hline : (apos.endLine == cpos.line) = true) (hs : starEach (e :: es) X.env = (false, eval e X.env) :: starEach es X.env) (hplain : (backTo cpos (starEach es X.env)).any (·.1) = false) :
    PE X (.Call (.Attribute o name apos) (e :: es) [] cpos) (tBMn r to t) := ⟨fun pins s σ H Q I h => by
  refine wpAny_Call_method_late hbase hfew hline rfl (thn (ho.run pins s σ H _ I h) fun v s1 ⟨x, H1, I1, r1, ⟨p, ob, ys, ex, hp, hd, hc⟩, q1⟩ => ?_)
  subst ex
  cases r1
  obtain ⟨hg, _⟩ := I1.hok p _ hp
  refine ⟨"tuple", id, pa, slot, hty, ⟨ob, hg, hc⟩, fun a' e' => by cases e'; exact ⟨ob, hg, hd⟩, ?_⟩
  have hA := ha.run cpos pins s1 σ H1 _ I1 q1
  rw [hs] at hA ⊢
  refine Calls.callWith_builtin (by show (false || (backTo cpos (starEach es X.env)).any (·.1)) = false; rw [hplain]; rfl) (Calls.evalArgs_plain ?_)
  exact thn hA fun us s2 ⟨vs, H2, I2, r2, q2⟩ => hm pins s2 σ H2 (.ref p) vs _ us Q I2 rfl r2 q2⟩
def idxT (xs : List Str) (x : Str) : Option Int := if x ∈ xs then some ((xs.idxOf x : Nat) : Int) else none
theorem ev_indexT {xs : Tn Str} {x : Str} {r : Int} {apos : Pos} (ho : Ev X a σ F H xs) (he : Ev X e σ F H x) (h : idxT xs.l x = some r)
    (hbase : attributeBase a "index" X.env (eval a X.env) = eval a X.env := by rfl)
    (hfew : ((backTo pos (starEach [e] X.env)).all (fun x => !x.1) && (backToKw pos (keywordEach [] X.env)).all (fun x => x.1.isSome) && decide ([e].length + ([] : List Keyword).length + (if ([] : List Keyword).isEmpty then 0 else 1) < 30)) = true := by rfl)
    (hline : (apos.endLine == pos.line) = true := by rfl) (hs : starEach [e] X.env = (false, eval e X.env) :: starEach [] X.env := by rfl) (hplain : (backTo pos (starEach [] X.env)).any (·.1) = false := by rfl) :
    Ev X (.Call (.Attribute a "index" apos) [e] [] pos) σ F H r := fun F1 H1 g Q q => by
  unfold idxT at h
  split at h
  case isFalse => cases h
  rename_i k3
  cases (Option.some.inj h)
  refine GoE.of (pe_bmn PySem.F.plainAttrs_tuple PySem.F.slot_tuple_index PySem.F.type_tuple_index mt_tup_index pe_go (pa_cons pe_go pa_nil hs) hbase hfew hline hs hplain) (ho F1 H1 g _ fun v F2 H2 g2 r2 => ?_)
  obtain ⟨p, vs, o, rfl, hp, hd, hc, rs⟩ := r2
  refine ⟨⟨p, o, vs, rfl, g2.fh _ _ hp, hd, hc⟩, he F2 H2 (g.trans g2) _ fun w F3 H3 g3 r3 => ?_⟩
  obtain ⟨h1, h2⟩ := idx_at k3
  have e4 := rs.strs
  subst e4
  exact ⟨p, xs.l, x, xs.l.idxOf x, rfl, by rw [show w = .str x from r3], .inl (.inr ⟨o, g3.fh _ _ (g3.ff _ _ hp)⟩), h1, h2, q _ F3 H3 (g2.trans g3) rfl⟩
/-! ### texts -/
theorem ev_partition {x y : Str} {apos : Pos} (hx : x.length ≤ sizeLine ∧ (y.length == 0) = false) (ho : Ev X a σ F H x) (he : Ev X e σ F H y)
    (hs : starEach [e] X.env = [(false, eval e X.env)] := by rfl) (hbase : attributeBase a "partition" X.env (eval a X.env) = eval a X.env := by rfl) (hline : (apos.endLine == pos.line) = true := by rfl) : Ev X (.Call (.Attribute a "partition" apos) [e] [] pos) σ F H (T3.mk (Txt.partition x y).1 (Txt.partition x y).2.1 (Txt.partition x y).2.2) :=
  ev_m1 PySem.F.slot_str_partition PySem.F.type_str_partition mt_partition (fun F H Q s k => ⟨x, y, rfl, rfl, hx.2, hx.1, fun p hp => k _ (upd F p _) _ (Gr.new s hp) ⟨p, _, rfl, upd_same, _, _, rfl, rfl, _, _, rfl, rfl, _, _, rfl, rfl, rfl⟩⟩) ho he hs hbase hline
def sPart (x y : Str) : Option (T3 Str Str Str) := if x.length ≤ sizeLine ∧ (y.length == 0) = false then some ⟨(Txt.partition x y).1, (Txt.partition x y).2.1, (Txt.partition x y).2.2⟩ else none
theorem ev_part {x y : Str} {r : T3 Str Str Str} {apos : Pos} (ho : Ev X a σ F H x) (he : Ev X e σ F H y) (h : sPart x y = some r)
    (hs : starEach [e] X.env = [(false, eval e X.env)] := by rfl) (hbase : attributeBase a "partition" X.env (eval a X.env) = eval a X.env := by rfl) (hline : (apos.endLine == pos.line) = true := by rfl) : Ev X (.Call (.Attribute a "partition" apos) [e] [] pos) σ F H r := by
  unfold sPart at h
  split at h
  · rename_i hz
    cases (Option.some.inj h)
    exact ev_partition hz ho he hs hbase hline
  · cases h
theorem oc_intB {b : Bool} : OpC K (fun xs H Q => (∃ i, xs = [.int i] ∧ Q (.int i) H) ∨ ∃ k, xs = [.bl k] ∧ Q (.int (if k then 1 else 0)) H) (b, ()) (if b = true then (1 : Int) else 0) :=
  oc1 fun F H v Q s rv k => .inr ⟨b, by rw [show v = .bl b from rv], k _ F H (.refl s) rfl⟩
end
end Gx

/-! Gf: dicts. -/
namespace Gx
open PySem PySem.Spec PyProof.Rows L2
open Rp (rp)
open Ra (ra)
open Ob (ob)
section
variable {κ α β : Type} [DecidableEq κ]
def kvLook : List (κ × α) → κ → Option α
  | [], _ => none
  | p :: r, k => if p.1 = k then some p.2 else kvLook r k
def kvPut (l : List (κ × α)) (k : κ) (v : α) : List (κ × α) := if (l.any fun p => decide (p.1 = k)) = true then l.map (fun p => if p.1 = k then (p.1, v) else p) else l ++ [(k, v)]
def kvDrop (l : List (κ × α)) (k : κ) : List (κ × α) := l.filter fun p => decide (p.1 ≠ k)
variable {κ' : Type} [DecidableEq κ'] {g : κ → κ'}
abbrev kvm (g : κ → κ') (l : List (κ × α)) : List (κ' × α) := l.map fun p => (g p.1, p.2)
theorem kvm_val (hg : ∀ x y, g x = g y → x = y) (k : κ) : ∀ l : List (κ × V), valV (kvm g l) (g k) = kvLook l k
  | [] => rfl
  | p :: r => by
    by_cases e : p.1 = k
    · subst e; simp [valV, kvLook]
    · have e' : ¬ g p.1 = g k := fun z => e (hg _ _ z)
      have ih := kvm_val hg k r
      unfold valV at ih ⊢
      rw [kvm, List.map_cons, List.find?_cons, decide_eq_false e', kvLook, if_neg e]
      exact ih
theorem kvm_any (hg : ∀ x y, g x = g y → x = y) (k : κ) (l : List (κ × α)) : ((kvm g l).any fun p => decide (p.1 = g k)) = l.any fun p => decide (p.1 = k) := by
  induction l with
  | nil => rfl
  | cons p r ih =>
    rw [kvm, List.map_cons, List.any_cons, List.any_cons, ← ih]
    congr 1
    rw [decide_eq_decide]
    exact ⟨hg _ _, fun e => e ▸ rfl⟩
theorem kvm_put (hg : ∀ x y, g x = g y → x = y) (k : κ) (v : V) (l : List (κ × V)) : putK (kvm g l) (g k) v = kvm g (kvPut l k v) := by
  unfold putK kvPut
  rw [kvm_any hg]
  split
  · rw [kvm, kvm, List.map_map, List.map_map]
    refine List.map_congr_left fun p _ => ?_
    show (if g p.1 = g k then (g p.1, v) else (g p.1, p.2)) = _
    by_cases e : p.1 = k
    · subst e; simp
    · rw [if_neg (fun z => e (hg _ _ z))]; simp [e]
  · simp [kvm]
theorem kvm_drop (hg : ∀ x y, g x = g y → x = y) (k : κ) (l : List (κ × V)) : dropK (kvm g l) (g k) = kvm g (kvDrop l k) := by
  unfold dropK kvDrop
  induction l with
  | nil => rfl
  | cons p r ih =>
    rw [kvm, List.map_cons]
    by_cases e : p.1 = k
    · rw [List.filter_cons_of_neg (by simp [e]), List.filter_cons_of_neg (by simp [e])]; exact ih
    · have e' : ¬ g p.1 = g k := fun z => e (hg _ _ z)
      rw [List.filter_cons_of_pos (by simp [e']), List.filter_cons_of_pos (by simp [e]), kvm, List.map_cons]
      exact congrArg _ ih
theorem kvPut_len (l : List (κ × α)) (k : κ) (v : α) : (kvPut l k v).length ≤ l.length + 1 := by
  unfold kvPut; split
  · rw [List.length_map]; omega
  · rw [List.length_append]; simp
theorem kvLook_put (l : List (κ × α)) (k k' : κ) (v : α) : kvLook (kvPut l k v) k' = if k = k' then some v else kvLook l k' := by
  unfold kvPut
  split
  · rename_i h
    induction l with
    | nil => cases h
    | cons p r ih =>
      rw [List.map_cons]
      by_cases e : p.1 = k
      · rw [if_pos e, kvLook]
        by_cases e2 : k = k'
        · rw [if_pos e2, if_pos (e.trans e2)]
        · rw [if_neg e2, if_neg (fun z => e2 (e.symm.trans z)), kvLook, if_neg (fun z => e2 (e.symm.trans z))]
          clear ih h
          induction r with
          | nil => rfl
          | cons q s ih =>
            rw [List.map_cons]
            by_cases e3 : q.1 = k
            · rw [if_pos e3, kvLook, if_neg (fun z => e2 (e3.symm.trans z)), ih, kvLook, if_neg (fun z => e2 (e3.symm.trans z))]
            · rw [if_neg e3, kvLook, ih, kvLook]
      · rw [if_neg e, kvLook]
        have h' : (r.any fun p => decide (p.1 = k)) = true := by
          rw [List.any_cons, decide_eq_false e, Bool.false_or] at h; exact h
        rw [ih h', kvLook]
        by_cases e2 : k = k'
        · rw [if_pos e2, if_neg (fun z => e (z.trans e2.symm)), if_pos e2]
        · rw [if_neg e2, if_neg e2]
  · rename_i h
    induction l with
    | nil => simp [kvLook]
    | cons p r ih =>
      have h1 : ¬ p.1 = k ∧ ¬ (r.any fun p => decide (p.1 = k)) = true := by
        constructor
        · intro e; exact h (by rw [List.any_cons, decide_eq_true e]; rfl)
        · intro e; exact h (by rw [List.any_cons, e, Bool.or_true])
      rw [List.cons_append, kvLook, ih h1.2, kvLook]
      by_cases e2 : k = k'
      · rw [if_pos e2, if_neg (fun z => h1.1 (z.trans e2.symm)), if_pos e2]
      · rw [if_neg e2, if_neg e2]
end
/-- a dict -/
structure Dct (κ ν : Type) where
  l : List (κ × ν)
  deriving DecidableEq
abbrev KR {κ ν : Type} [Rp ν] (K : PySem.W.Frag) (F : Hp) : List (κ × V) → List (κ × ν) → Prop := Paired fun p q => p.1 = q.1 ∧ rp K F p.2 q.2
section
variable {κ ν : Type} [Rp ν] {K : PySem.W.Frag} {F F' : Hp}
theorem KR.mono {kvs : List (κ × V)} {l : List (κ × ν)} (s : L2.Same F F') (h : KR K F kvs l) : KR K F' kvs l := Paired.mapP h fun _ _ ⟨e, r⟩ => ⟨e, Rp.mono s r⟩
variable [DecidableEq κ]
theorem KR.look (k : κ) : ∀ {kvs : List (κ × V)} {l : List (κ × ν)}, KR K F kvs l → (kvLook kvs k = none ∧ kvLook l k = none) ∨ ∃ v x, kvLook kvs k = some v ∧ kvLook l k = some x ∧ rp K F v x
  | _, _, .nil => .inl ⟨rfl, rfl⟩
  | _, _, .cons (a := p) (b := q) ⟨e, r⟩ t => by
    by_cases h : p.1 = k
    · exact .inr ⟨p.2, q.2, by rw [kvLook, if_pos h], by rw [kvLook, if_pos (e ▸ h)], r⟩
    · rw [kvLook, if_neg h, kvLook, if_neg (fun z => h (e.trans z))]
      exact KR.look k t
theorem KR.any (k : κ) : ∀ {kvs : List (κ × V)} {l : List (κ × ν)}, KR K F kvs l → (kvs.any fun p => decide (p.1 = k)) = l.any fun p => decide (p.1 = k)
  | _, _, .nil => rfl
  | _, _, .cons ⟨e, _⟩ t => by rw [List.any_cons, List.any_cons, KR.any k t, e]
theorem KR.map (k : κ) {v : V} {x : ν} (r : rp K F v x) : ∀ {kvs : List (κ × V)} {l : List (κ × ν)}, KR K F kvs l → KR K F (kvs.map fun p => if p.1 = k then (p.1, v) else p) (l.map fun p => if p.1 = k then (p.1, x) else p)
  | _, _, .nil => .nil
  | _, _, .cons (a := p) (b := q) ⟨e, r'⟩ t => by
    rw [List.map_cons, List.map_cons]
    refine .cons ?_ (KR.map k r t)
    by_cases h : p.1 = k
    · rw [if_pos h, if_pos (e ▸ h)]; exact ⟨e, r⟩
    · rw [if_neg h, if_neg (fun z => h (e.trans z))]; exact ⟨e, r'⟩
theorem KR.app {kvs ws : List (κ × V)} {l m : List (κ × ν)} (h : KR K F kvs l) (h' : KR K F ws m) : KR K F (kvs ++ ws) (l ++ m) := by
  induction h with
  | nil => exact h'
  | cons r t ih => exact .cons r ih
theorem KR.put {k : κ} {v : V} {x : ν} {kvs : List (κ × V)} {l : List (κ × ν)} (h : KR K F kvs l) (r : rp K F v x) : KR K F (kvPut kvs k v) (kvPut l k x) := by
  unfold kvPut
  rw [h.any k]
  split
  · exact KR.map k r h
  · exact h.app (.cons ⟨rfl, r⟩ .nil)
theorem KR.drop {k : κ} : ∀ {kvs : List (κ × V)} {l : List (κ × ν)}, KR K F kvs l → KR K F (kvDrop kvs k) (kvDrop l k)
  | _, _, .nil => .nil
  | _, _, .cons (a := p) (b := q) ⟨e, r'⟩ t => by
    unfold kvDrop
    by_cases h : p.1 = k
    · rw [List.filter_cons_of_neg (by simp [h]), List.filter_cons_of_neg (by simp [← e, h])]; exact KR.drop t
    · rw [List.filter_cons_of_pos (by simp [h]), List.filter_cons_of_pos (by simp [← e, h])]; exact .cons ⟨e, r'⟩ (KR.drop t)
end
/-! ### keys -/
class KeyS (κ : Type) [Rp κ] where
  g : κ → Key
  inj : ∀ x y, g x = g y → x = y
  rpg : ∀ {K : PySem.W.Frag} {F : Hp} {v : V} {k : κ}, rp K F v k ↔ v = kV (g k)
instance : KeyS Int := ⟨.inl, fun _ _ h => Sum.inl.inj h, Iff.rfl⟩
instance : KeyS Str := ⟨.inr, fun _ _ h => Sum.inr.inj h, Iff.rfl⟩
class KeyT (κ : Type) [Rp κ] where
  g : κ → List Key
  inj : ∀ x y, g x = g y → x = y
  rpg : ∀ {K : PySem.W.Frag} {F : Hp} {v : V} {k : κ}, rp K F v k ↔ ∃ b, v = .ref b ∧ F b = some (.tup ((g k).map kV))
class DKey (κ : Type) [Rp κ] [DecidableEq κ] where
  hob : List (κ × V) → HO
  inj : ∀ {a b}, hob a = hob b → a = b
  mu : ∀ kvs, Mut (some (hob kvs))
  ls : ∀ kvs, lstish (hob kvs)
  isD : ∀ {H : Hp} {a : Addr} {kvs}, Rd H a (hob kvs) → IsD H a
  get : ∀ {K : PySem.W.Frag} {F H : Hp} {a : Addr} {v : V} {k : κ} {kvs}, L2.Same F H → rp K F v k → Rd H a (hob kvs) → DGet H a v (kvLook kvs k)
  put : ∀ {K : PySem.W.Frag} {F H : Hp} {a : Addr} {v x : V} {k : κ} {kvs}, L2.Same F H → rp K F v k → H a = some (hob kvs) → kvs.length < sizeLine → DPut H a v x (upd H a (hob (kvPut kvs k x)))
  new : ∀ {X : Cx} {pos : Pos}, PE X (.Dict [] [] pos) fun _ H Q => ∀ p, H p = none → Q (.ref p) (upd H p (hob []))
  kd : ∀ {K : PySem.W.Frag} {H : Hp} {a : Addr} {kvs}, Rd H a (hob kvs) → Kn K H (.ref a) "dict"
  le : ∀ {P : Program} {w : World} {H : Hp} {h : Heap} {a : Addr} {kvs}, ObjOk P w H h a (hob kvs) → kvs.length ≤ sizeLine
theorem kvm_inj {κ κ' α : Type} {g : κ → κ'} (hg : ∀ x y, g x = g y → x = y) : ∀ {a b : List (κ × α)}, kvm g a = kvm g b → a = b
  | [], [], _ => rfl
  | [], _ :: _, h => by cases h
  | _ :: _, [], h => by cases h
  | p :: r, q :: s, h => by
    rw [kvm, kvm, List.map_cons, List.map_cons, List.cons.injEq] at h
    obtain ⟨h1, h2⟩ := h
    rw [kvm_inj hg h2]
    rw [Prod.mk.injEq] at h1
    congr 1
    exact Prod.ext (hg _ _ h1.1) h1.2
theorem kvm_len {κ κ' α : Type} {g : κ → κ'} (l : List (κ × α)) : (kvm g l).length = l.length := by rw [kvm, List.length_map]
instance {κ : Type} [Rp κ] [DecidableEq κ] [KeyS κ] : DKey κ where
  hob kvs := .dK (kvm KeyS.g kvs)
  inj h := kvm_inj KeyS.inj (HO.dK.inj h)
  mu _ := trivial
  ls _ := trivial
  isD h := .inl ⟨_, h⟩
  get s r h := .inl ⟨_, _, h, KeyS.rpg.mp r, (kvm_val KeyS.inj _ _).symm⟩
  put s r h hl := .inl ⟨_, _, h, KeyS.rpg.mp r, by rw [kvm_len]; exact hl, by rw [kvm_put KeyS.inj]⟩
  new := pe_dnewK
  kd h := .dK h
  le h := by obtain ⟨z, _⟩ := (show ObjOk _ _ _ _ _ (.dK _) from h); rw [kvm_len] at z; exact z
instance {κ : Type} [Rp κ] [DecidableEq κ] [KeyT κ] : DKey κ where
  hob kvs := .dT (kvm KeyT.g kvs)
  inj h := kvm_inj KeyT.inj (HO.dT.inj h)
  mu _ := trivial
  ls _ := trivial
  isD h := .inr ⟨_, h⟩
  get s r h := by
    obtain ⟨b, e, hb⟩ := KeyT.rpg.mp r
    exact .inr ⟨_, _, b, h, e, s _ _ hb, (kvm_val KeyT.inj _ _).symm⟩
  put s r h hl := by
    obtain ⟨b, e, hb⟩ := KeyT.rpg.mp r
    exact .inr ⟨_, _, b, h, e, s _ _ hb, by rw [kvm_len]; exact hl, by rw [kvm_put KeyT.inj]⟩
  new := pe_dnewT
  kd h := .dT h
  le h := by obtain ⟨z, _⟩ := (show ObjOk _ _ _ _ _ (.dT _) from h); rw [kvm_len] at z; exact z
/-- keys that are tuples of scalars -/
class KeyR (τ : Type) [Ra τ] where
  g : τ → List Key
  inj : ∀ x y, g x = g y → x = y
  rpg : ∀ {K : PySem.W.Frag} {F : Hp} {vs : List V} {k : τ}, ra K F vs k ↔ vs = (g k).map kV
instance : KeyR Unit := ⟨fun _ => [], fun _ _ _ => rfl, Iff.rfl⟩
instance {α τ : Type} [Rp α] [Ra τ] [KeyS α] [KeyR τ] : KeyR (α × τ) := ⟨fun x => KeyS.g x.1 :: KeyR.g x.2, fun x y h => by
  rw [List.cons.injEq] at h
  exact Prod.ext (KeyS.inj _ _ h.1) (KeyR.inj _ _ h.2), by
  intro K F vs k
  constructor
  · rintro ⟨v, r, e, p, q⟩
    rw [e, KeyS.rpg.mp p, KeyR.rpg.mp q]; rfl
  · intro h
    exact ⟨_, _, h, KeyS.rpg.mpr rfl, KeyR.rpg.mpr rfl⟩⟩
theorem keyR_rp {θ τ : Type} [Ra τ] [KeyR τ] {row : θ → τ} {K : PySem.W.Frag} {F : Hp} {v : V} {k : θ} : rpT row K F v k ↔ ∃ b, v = .ref b ∧ F b = some (.tup ((KeyR.g (row k)).map kV)) := by
  constructor
  · rintro ⟨b, vs, e, q, r⟩
    exact ⟨b, e, by rw [← KeyR.rpg.mp r]; exact q⟩
  · rintro ⟨b, e, q⟩
    exact ⟨b, _, e, q, KeyR.rpg.mpr rfl⟩
instance {α : Type} [Rp α] [KeyS α] : KeyT (T1 α) := ⟨fun x => KeyR.g x.row, fun x y h => by cases x; cases y; simpa [T1.row] using KeyR.inj _ _ h, keyR_rp⟩
instance {α β : Type} [Rp α] [Rp β] [KeyS α] [KeyS β] : KeyT (T2 α β) := ⟨fun x => KeyR.g x.row, fun x y h => by cases x; cases y; simpa [T2.row] using KeyR.inj _ _ h, keyR_rp⟩
instance {α β γ : Type} [Rp α] [Rp β] [Rp γ] [KeyS α] [KeyS β] [KeyS γ] : KeyT (T3 α β γ) := ⟨fun x => KeyR.g x.row, fun x y h => by cases x; cases y; simpa [T3.row] using KeyR.inj _ _ h, keyR_rp⟩
theorem keys_rps {α : Type} [Rp α] [KeyS α] {K : PySem.W.Frag} {F : Hp} : ∀ {vs : List V} {xs : List α}, Rps K F vs xs ↔ vs = (xs.map KeyS.g).map kV
  | [], [] => ⟨fun _ => rfl, fun _ => .nil⟩
  | [], _ :: _ => ⟨fun h => (by cases h), fun h => (by cases h)⟩
  | _ :: _, [] => ⟨fun h => (by cases h), fun h => (by cases h)⟩
  | v :: vs, x :: xs => by
    rw [List.map_cons, List.map_cons]
    constructor
    · intro h
      cases h with
      | cons r t => rw [KeyS.rpg.mp r, keys_rps.mp t]
    · intro h
      rw [List.cons.injEq] at h
      exact .cons (KeyS.rpg.mpr h.1) (keys_rps.mpr h.2)
instance {α : Type} [Rp α] [KeyS α] : KeyT (Tp α) := ⟨fun x => x.l.map KeyS.g, fun x y h => by
  cases x; cases y
  congr 1
  rename_i a b
  have : ∀ a b : List α, a.map KeyS.g = b.map KeyS.g → a = b := by
    intro a
    induction a with
    | nil => intro b h; cases b with
      | nil => rfl
      | cons _ _ => cases h
    | cons x r ih => intro b h; cases b with
      | nil => cases h
      | cons y s =>
        rw [List.map_cons, List.map_cons, List.cons.injEq] at h
        rw [KeyS.inj _ _ h.1, ih _ h.2]
  exact this a b h, by
  intro K F v k
  constructor
  · rintro ⟨b, vs, e, q, r⟩
    exact ⟨b, e, by rw [← keys_rps.mp r]; exact q⟩
  · rintro ⟨b, e, q⟩
    exact ⟨b, _, e, q, keys_rps.mpr rfl⟩⟩
/-! ### dicts as things -/
instance {κ ν : Type} [Rp κ] [DecidableEq κ] [DKey κ] [Rp ν] : Rp (Dct κ ν) := ⟨fun K F v d => ∃ a o kvs, v = .ref a ∧ F a = some (.frz o (DKey.hob kvs)) ∧ KR K F kvs d.l, fun s ⟨a, o, kvs, e, q, r⟩ => ⟨a, o, kvs, e, s _ _ q, r.mono s⟩⟩
instance {κ ν : Type} [Rp κ] [DecidableEq κ] [DKey κ] [Rp ν] : Ob (Dct κ ν) := ⟨fun K F o d => ∃ kvs, o = DKey.hob kvs ∧ KR K F kvs d.l, fun s ⟨kvs, e, r⟩ => ⟨kvs, e, r.mono s⟩, fun ⟨kvs, e, r⟩ => e ▸ DKey.mu kvs, fun ⟨kvs, e, r⟩ => e ▸ DKey.ls kvs,
  fun {K F o x l od} h ⟨kvs, e, r⟩ => ⟨l, od, kvs, rfl, e ▸ h, r⟩⟩
instance {κ ν : Type} [Rp κ] [DecidableEq κ] [DKey κ] [Rp ν] : NN (Dct κ ν) := ⟨fun ⟨_, _, _, e, _⟩ => nomatch e⟩
instance {κ ν : Type} [Rp κ] [DecidableEq κ] [DKey κ] [Rp ν] : Kd (Dct κ ν) := ⟨"dict", fun s ⟨a, o, kvs, e, q, r⟩ => e ▸ DKey.kd (.inr ⟨o, s _ _ q⟩)⟩
section
variable {κ ν : Type} [Rp κ] [DecidableEq κ] [DKey κ] [Rp ν]
variable {X : Cx} {K : PySem.W.Frag} {e a b c d : Expr} {es : List Expr} {σ : L2.St} {F H F0 H0 : Hp} {pos : Pos} {D : Ends} {st : Stmt} {rest body : List Stmt}
abbrev Dct.look (d : Dct κ ν) (k : κ) : Option ν := kvLook d.l k
abbrev Dct.put (d : Dct κ ν) (k : κ) (v : ν) : Dct κ ν := ⟨kvPut d.l k v⟩
abbrev Dct.drop (d : Dct κ ν) (k : κ) : Dct κ ν := ⟨kvDrop d.l k⟩
theorem en_dict : EvN X (.Dict [] [] pos) σ F H (Dct.mk ([] : List (κ × ν))) := fun F1 H1 g Q q =>
  GoE.of DKey.new fun p hp => EvN.newO q (.refl g.fh) hp ⟨[], rfl, .nil⟩
theorem ev_dget {m : Dct κ ν} {k : κ} {r : ν} (hu : X.A.units + 1 < cLine) (ha : Ev X a σ F H m) (hb : Ev X b σ F H k) (h : m.look k = some r) (hs : NoSl b := by exact fun _ _ => rfl) : Ev X (.Subscript a b pos) σ F H r := fun F1 H1 g Q q =>
  GoE.of (pe_dget hu pe_go pe_go hs) (ha F1 H1 g _ fun v F2 H2 g2 r2 => hb F2 H2 (g.trans g2) _ fun w F3 H3 g3 r3 => by
    obtain ⟨p, o, kvs, e, hq, kr⟩ := Rp.mono g3.ff r2
    rcases kr.look k with ⟨_, h2⟩ | ⟨v', x, h1, h2, h3⟩
    · rw [Dct.look, h2] at h; cases h
    · rw [Dct.look, h2] at h
      cases h
      exact ⟨p, v', e, h1 ▸ DKey.get g3.fh r3 (.inr ⟨o, g3.fh _ _ hq⟩), q v' F3 H3 (g2.trans g3) h3⟩)
theorem ev_din {m : Dct κ ν} {k : κ} (hu : X.A.units + 1 < cLine) (ha : Ev X a σ F H k) (hb : Ev X b σ F H m) (hmk : behindInMarks .In b = false := by rfl) : Ev X (.Compare a [.In] [b] pos) σ F H (m.look k).isSome := fun F1 H1 g Q q =>
  GoE.of (pe_cmp (pc_din hu pe_go pe_go) hmk) (ha F1 H1 g _ fun v F2 H2 g2 r2 => hb F2 H2 (g.trans g2) _ fun w F3 H3 g3 r3 => by
    obtain ⟨p, o, kvs, e, hq, kr⟩ := r3
    refine ⟨p, kvLook kvs k, e, DKey.get g3.fh (Rp.mono g3.ff r2) (.inr ⟨o, g3.fh _ _ hq⟩), q _ F3 H3 (g2.trans g3) ?_⟩
    rcases kr.look k with ⟨h1, h2⟩ | ⟨v', x, h1, h2, h3⟩ <;> (show V.bl _ = V.bl _) <;> rw [Dct.look, h1, h2] <;> rfl)
theorem et_din {m : Dct κ ν} {k : κ} (hu : X.A.units + 1 < cLine) (ha : Ev X a σ F H k) (hb : Ev X b σ F H m) (hmk : behindInMarks .In b = false := by rfl) : EvT X (.Compare a [.In] [b] pos) σ F H (m.look k).isSome := fun F1 H1 g Q q =>
  GoT.of (pt_cmp (pc_din hu pe_go pe_go) hmk) (ha F1 H1 g _ fun v F2 H2 g2 r2 => hb F2 H2 (g.trans g2) _ fun w F3 H3 g3 r3 => by
    obtain ⟨p, o, kvs, e, hq, kr⟩ := r3
    refine ⟨p, kvLook kvs k, e, DKey.get g3.fh (Rp.mono g3.ff r2) (.inr ⟨o, g3.fh _ _ hq⟩), (m.look k).isSome, ?_, q F3 H3 (g2.trans g3)⟩
    rcases kr.look k with ⟨h1, h2⟩ | ⟨v', x, h1, h2, h3⟩ <;> (show V.bl _ = V.bl _) <;> rw [Dct.look, h1, h2] <;> rfl)
theorem ev_dnotin {m : Dct κ ν} {k : κ} (hu : X.A.units + 1 < cLine) (ha : Ev X a σ F H k) (hb : Ev X b σ F H m) (hmk : behindInMarks .NotIn b = false := by rfl) : Ev X (.Compare a [.NotIn] [b] pos) σ F H (!(m.look k).isSome) := fun F1 H1 g Q q =>
  GoE.of (pe_cmp (pc_dnotin hu pe_go pe_go) hmk) (ha F1 H1 g _ fun v F2 H2 g2 r2 => hb F2 H2 (g.trans g2) _ fun w F3 H3 g3 r3 => by
    obtain ⟨p, o, kvs, e, hq, kr⟩ := r3
    refine ⟨p, kvLook kvs k, e, DKey.get g3.fh (Rp.mono g3.ff r2) (.inr ⟨o, g3.fh _ _ hq⟩), q _ F3 H3 (g2.trans g3) ?_⟩
    rcases kr.look k with ⟨h1, h2⟩ | ⟨v', x, h1, h2, h3⟩ <;> (show V.bl _ = V.bl _) <;> rw [Dct.look, h1, h2] <;> rfl)
theorem et_dnotin {m : Dct κ ν} {k : κ} (hu : X.A.units + 1 < cLine) (ha : Ev X a σ F H k) (hb : Ev X b σ F H m) (hmk : behindInMarks .NotIn b = false := by rfl) : EvT X (.Compare a [.NotIn] [b] pos) σ F H (!(m.look k).isSome) := fun F1 H1 g Q q =>
  GoT.of (pt_cmp (pc_dnotin hu pe_go pe_go) hmk) (ha F1 H1 g _ fun v F2 H2 g2 r2 => hb F2 H2 (g.trans g2) _ fun w F3 H3 g3 r3 => by
    obtain ⟨p, o, kvs, e, hq, kr⟩ := r3
    refine ⟨p, kvLook kvs k, e, DKey.get g3.fh (Rp.mono g3.ff r2) (.inr ⟨o, g3.fh _ _ hq⟩), !(m.look k).isSome, ?_, q F3 H3 (g2.trans g3)⟩
    rcases kr.look k with ⟨h1, h2⟩ | ⟨v', x, h1, h2, h3⟩ <;> (show V.bl _ = V.bl _) <;> rw [Dct.look, h1, h2] <;> rfl)
theorem ev_dget1 [NN ν] {m : Dct κ ν} {k : κ} {apos : Pos} (hu : X.A.units + 1 < cLine) (ha : Ev X a σ F H m) (hb : Ev X b σ F H k) (hm : M1 X a "get" apos b pos := by exact ⟨rfl, rfl, rfl, rfl⟩) : Ev X (.Call (.Attribute a "get" apos) [b] [] pos) σ F H (m.look k) := fun F1 H1 g Q q =>
  GoE.of (pe_dget1 hu pe_go pe_go hm) (ha F1 H1 g _ fun v F2 H2 g2 r2 => by
    obtain ⟨p, o, kvs, e, hq, kr⟩ := id r2
    refine ⟨p, e, DKey.isD (.inr ⟨o, g2.fh _ _ hq⟩), hb F2 H2 (g.trans g2) _ fun w F3 H3 g3 r3 => ⟨kvLook kvs k, DKey.get g3.fh r3 (.inr ⟨o, g3.fh _ _ (g3.ff _ _ hq)⟩), q _ F3 H3 (g2.trans g3) ?_⟩⟩
    rcases kr.look k with ⟨h1, h2⟩ | ⟨v', x, h1, h2, h3⟩
    · rw [Dct.look, h1, h2]; rfl
    · rw [Dct.look, h1, h2]; exact Rp.mono (α := ν) g3.ff h3)
theorem ev_dget2 {m : Dct κ ν} {k : κ} {z : ν} {apos : Pos} (hu : X.A.units + 1 < cLine) (ha : Ev X a σ F H m) (hb : Ev X b σ F H k) (hc : Ev X c σ F H z) (hm : M2 X a "get" apos b c pos := by exact ⟨rfl, rfl, rfl, rfl⟩) : Ev X (.Call (.Attribute a "get" apos) [b, c] [] pos) σ F H ((m.look k).getD z) := fun F1 H1 g Q q =>
  GoE.of (pe_dget2 hu pe_go pe_go pe_go hm) (ha F1 H1 g _ fun v F2 H2 g2 r2 => by
    obtain ⟨p, o, kvs, e, hq, kr⟩ := id r2
    refine ⟨p, e, DKey.isD (.inr ⟨o, g2.fh _ _ hq⟩), hb F2 H2 (g.trans g2) _ fun w F3 H3 g3 r3 => hc F3 H3 ((g.trans g2).trans g3) _ fun u F4 H4 g4 r4 => ⟨kvLook kvs k, DKey.get g4.fh (Rp.mono g4.ff r3) (.inr ⟨o, g4.fh _ _ (g4.ff _ _ (g3.ff _ _ hq))⟩), q _ F4 H4 ((g2.trans g3).trans g4) ?_⟩⟩
    rcases kr.look k with ⟨h1, h2⟩ | ⟨v', x, h1, h2, h3⟩
    · rw [Dct.look, h1, h2]; exact r4
    · rw [Dct.look, h1, h2]; exact Rp.mono (α := ν) (g3.ff.trans g4.ff) h3)
/-- d[k] = v, d a private dict -/
def dputG (m : Dct κ ν) (k : κ) (v : ν) : Option (Dct κ ν) := if m.l.length < sizeLine then some (m.put k v) else none
theorem dputG_of {m r : Dct κ ν} {k : κ} {v : ν} (h : dputG m k v = some r) : m.l.length < sizeLine ∧ m.put k v = r := by
  unfold dputG at h; split at h
  · exact ⟨by assumption, Option.some.inj h⟩
  · cases h
theorem go_dput {m r : Dct κ ν} {k : κ} {x : ν} {l : Addr} {n : Str} {p1 p2 : Pos} (i : Nat) (s : SmX X.K F H) (hu : X.A.units + 1 < cLine) (o : Own X.K H0 F H l m) (hσ : σ[i]? = some (some (.ref l))) (hv : Ev X e σ F H x) (hk : Ev X b σ F H k) (h : dputG m k x = some r)
    (q : ∀ u F' H', Gr F H F' H' → PlAt H' l → F' l = none → Own X.K H0 F' (upd H' l u) l r → GoS X rest D σ (upd H' l u)) (hN : X.N[i]? = some n := by rfl) (hvis : Vis X.env.scope n := by first | exact Or.inl rfl | exact Or.inr (Or.inl rfl) | exact Or.inr (Or.inr rfl))
    (hd : (n == ("__debug__" : Str)) = false := by decide) (hcd : (n == ("__classdict__" : Str)) = false := by decide) (hs : NoSl b := by exact fun _ _ => rfl) (hsw : swapsWith e (some (.Subscript (.Name n p1) b p2)) pos.line X.env = pure false := by rfl) :
    GoS X (.Assign [.Subscript (.Name n p1) b p2] e pos :: rest) D σ H := by
  obtain ⟨hl, rfl⟩ := dputG_of h
  refine GoS.cons (ps_dput hu (pe_var hN hvis hd hcd) pe_go pe_go hsw) (hv F H (.refl s) _ fun v F2 H2 g2 r2 => ⟨_, hσ, hk F2 H2 (s.gx g2) _ fun w F3 H3 g3 r3 => ?_⟩)
  have o3 := (o.up g2).up g3
  obtain ⟨_, h3, kvs, rfl, kr⟩ := o3.h
  have hlen : kvs.length = m.l.length := Paired.length kr
  exact ⟨l, _, rfl, DKey.put g3.fh r3 h3 (by rw [hlen]; exact hl), q _ F3 H3 (g2.trans g3) o3.pl o3.f (Own.set o3.n o3.f ⟨_, rfl, kr.put (Rp.mono g3.ff r2)⟩)⟩
end
end Gx

/-! Gg: dicts, further. -/
namespace Gx
open PySem PySem.Spec PyProof.Rows L2
open Rp (rp)
open Ra (ra)
open Ob (ob)
theorem KR.fl {κ ν : Type} [Rp ν] [Flat ν] {K : PySem.W.Frag} {F : Hp} {l : Addr} {kvs : List (κ × V)} {m : List (κ × ν)} (h1 : ∀ xs, ¬ F l = some (.tup xs)) (h2 : ∀ o xs, ¬ F l = some (.frz o (.tup xs))) (h : KR K F kvs m) : KR K (er F l) kvs m := Paired.mapP h fun _ _ ⟨e, r⟩ => ⟨e, Flat.fl h1 h2 r⟩
instance {κ ν : Type} [Rp κ] [DecidableEq κ] [DKey κ] [Rp ν] [Flat ν] : FlatO (Dct κ ν) := ⟨fun h1 h2 ⟨kvs, e, r⟩ => ⟨kvs, e, KR.fl h1 h2 r⟩⟩
instance {α : Type} [Rp α] [Flat α] : Flat (Tn α) := ⟨fun {K F l v x} h1 h2 ⟨a, vs, o, e, q, d, c, r⟩ => ⟨a, vs, o, e, by unfold er; rw [if_neg (show ¬ a = l from fun z => h2 o vs (z ▸ q))]; exact q, d, c, Rps.fl h1 h2 r⟩⟩
instance {α : Type} [Rp α] [Pd α] : Pd (Tn α) := ⟨fun xs => .tuple (xs.l.map Pd.toD), fun ⟨a, vs, o, e, sq, _, _, rs⟩ => e ▸ .tup (.inl (.inr ⟨o, sq⟩)) (Dp.all rs), fun x y => by
  rw [PyData.eqv]
  cases x; cases y
  rw [eqvAll_iff, Tn.mk.injEq]⟩
instance {α : Type} [Rp α] [Pd α] [PdS α] : PdS (Tn α) := ⟨PdS.dep α + 1, fun x => by
  show (PyData.depthAll (x.l.map Pd.toD)) + 1 ≤ _
  exact Nat.succ_le_succ (dpAll_le x.l)⟩
instance {α : Type} [Rp α] [Pd α] [PdF α] : PdF (Tn α) := ⟨fun x => layAll fun y _ => PdF.ok y⟩
section
variable {κ ν : Type} [Rp κ] [DecidableEq κ] [Rp ν]
variable {X : Cx} {K : PySem.W.Frag} {e a b c d : Expr} {es : List Expr} {σ : L2.St} {F H F0 H0 : Hp} {pos : Pos} {D : Ends} {st : Stmt} {rest body : List Stmt}
def Dct.keys (m : Dct κ ν) : List κ := m.l.map (·.1)
def Dct.vals (m : Dct κ ν) : List ν := m.l.map (·.2)
def Dct.items (m : Dct κ ν) : List (T2 κ ν) := m.l.map fun p => ⟨p.1, p.2⟩
theorem KR.get : ∀ {kvs : List (κ × V)} {l : List (κ × ν)} {i : Nat} {p : κ × ν}, KR K F kvs l → l[i]? = some p → ∃ v, kvs[i]? = some (p.1, v) ∧ rp K F v p.2
  | _, _, _, _, .nil, h => by simp at h
  | _, _, 0, p, .cons (a := q) ⟨e, r⟩ _, h => by
    simp at h; subst h
    exact ⟨q.2, by rw [← e]; simp, r⟩
  | _, _, i + 1, p, .cons _ t, h => by
    obtain ⟨v, h1, h2⟩ := KR.get t (by simpa using h)
    exact ⟨v, by simpa using h1, h2⟩
theorem same_tup {q : Addr} {xs : List V} (s : L2.Same F H) (h : H q = some (.tup xs)) : ∃ F', Gr F H F' H ∧ F' q = some (.tup xs) := by
  cases e : F q with
  | some u =>
    have := s _ _ e
    rw [h] at this; cases this
    exact ⟨F, .refl s, e⟩
  | none =>
    refine ⟨upd F q (.tup xs), ⟨same_upd e, fun b u z => ?_, .refl _, fun x o hx n => ?_⟩, upd_same⟩
    · by_cases hb : b = q
      · subst hb; rw [upd_same] at z; cases z; exact h
      · rw [upd_ne hb] at z; exact s _ _ z
    · by_cases hb : x = q
      · subst hb; rw [h] at hx; cases hx; exact n.elim
      · rw [upd_ne hb]
theorem ei_keysS [KeyS κ] {m : Dct κ ν} {tg : Expr} (h : Ev X e σ F H m) : EvI X tg e σ F H m.keys := fun F1 H1 g R q =>
  GoI.of (pi_keys pe_go) (h F1 H1 g _ fun v F2 H2 g2 r2 => by
    obtain ⟨p, o, kvs, e, hq, kr⟩ := r2
    refine ⟨p, o, e, .inl ⟨_, g2.fh _ _ hq, q _ F2 H2 g2 fun i Fi Hi s1 s2 => ?_⟩⟩
    have hd := s2 _ _ (s1 _ _ hq)
    have hl : kvs.length = m.l.length := Paired.length kr
    refine ⟨fun x hx => ?_, fun e => ⟨hd, by rw [e, kvm_len, hl, Dct.keys, List.length_map]; exact Nat.le_refl _⟩⟩
    rw [Dct.keys, List.getElem?_map] at hx
    obtain ⟨pr, hpr, rfl⟩ := Option.map_eq_some_iff.mp hx
    obtain ⟨w, hw, _⟩ := kr.get hpr
    have hk : (kvm KeyS.g kvs)[i]? = some (KeyS.g pr.1, w) := by rw [kvm, List.getElem?_map, hw]; rfl
    refine ⟨⟨hd, (List.getElem?_eq_some_iff.mp hk).1⟩, fun v H' ⟨e1, k, v', e2, e3⟩ => ?_⟩
    subst e1
    rw [hk] at e2; cases e2
    exact ⟨Fi, .refl s2, KeyS.rpg.mpr e3⟩)
theorem ei_keysT [KeyT κ] {m : Dct κ ν} {tg : Expr} (h : Ev X e σ F H m) : EvI X tg e σ F H m.keys := fun F1 H1 g R q =>
  GoI.of (pi_keys pe_go) (h F1 H1 g _ fun v F2 H2 g2 r2 => by
    obtain ⟨p, o, kvs, e, hq, kr⟩ := r2
    refine ⟨p, o, e, .inr ⟨_, g2.fh _ _ hq, q _ F2 H2 g2 fun i Fi Hi s1 s2 => ?_⟩⟩
    have hd := s2 _ _ (s1 _ _ hq)
    have hl : kvs.length = m.l.length := Paired.length kr
    refine ⟨fun x hx => ?_, fun e => ⟨hd, by rw [e, kvm_len, hl, Dct.keys, List.length_map]; exact Nat.le_refl _⟩⟩
    rw [Dct.keys, List.getElem?_map] at hx
    obtain ⟨pr, hpr, rfl⟩ := Option.map_eq_some_iff.mp hx
    obtain ⟨w, hw, _⟩ := kr.get hpr
    have hk : (kvm KeyT.g kvs)[i]? = some (KeyT.g pr.1, w) := by rw [kvm, List.getElem?_map, hw]; rfl
    refine ⟨⟨hd, (List.getElem?_eq_some_iff.mp hk).1⟩, fun v H' ⟨e1, k, v', qa, e2, e3, e4⟩ => ?_⟩
    subst e1
    rw [hk] at e2; cases e2
    obtain ⟨F', g', hF⟩ := same_tup s2 e4
    exact ⟨F', g', KeyT.rpg.mpr ⟨qa, e3, hF⟩⟩)
theorem ei_vals [KeyS κ] {m : Dct κ ν} {tg : Expr} {apos : Pos} (h : Ev X e σ F H m) (hbase : attributeBase e "values" X.env (eval e X.env) = eval e X.env := by rfl) (hline : (apos.endLine == pos.line) = true := by rfl) : EvI X tg (.Call (.Attribute e "values" apos) [] [] pos) σ F H m.vals := fun F1 H1 g R q =>
  GoI.of (pi_values pe_go hbase hline) (h F1 H1 g _ fun v F2 H2 g2 r2 => by
    obtain ⟨p, o, kvs, e, hq, kr⟩ := r2
    refine ⟨p, o, _, e, g2.fh _ _ hq, q _ F2 H2 g2 fun i Fi Hi s1 s2 => ?_⟩
    have hd := s2 _ _ (s1 _ _ hq)
    have hl : kvs.length = m.l.length := Paired.length kr
    refine ⟨fun x hx => ?_, fun e => ⟨hd, by rw [e, kvm_len, hl, Dct.vals, List.length_map]; exact Nat.le_refl _⟩⟩
    rw [Dct.vals, List.getElem?_map] at hx
    obtain ⟨pr, hpr, rfl⟩ := Option.map_eq_some_iff.mp hx
    obtain ⟨w, hw, rw'⟩ := kr.get hpr
    have hk : (kvm KeyS.g kvs)[i]? = some (KeyS.g pr.1, w) := by rw [kvm, List.getElem?_map, hw]; rfl
    refine ⟨⟨hd, (List.getElem?_eq_some_iff.mp hk).1⟩, fun v H' ⟨e1, k, e2⟩ => ?_⟩
    subst e1
    rw [hk] at e2; cases e2
    exact ⟨Fi, .refl s2, Rp.mono s1 rw'⟩)
theorem ei_items [KeyS κ] {m : Dct κ ν} {apos tpos : Pos} {elts : List Expr} {kk : Nat} (h : Ev X e σ F H m) (hbase : attributeBase e "items" X.env (eval e X.env) = eval e X.env := by rfl) (hline : (apos.endLine == pos.line) = true := by rfl) : EvI X (.Tuple elts kk tpos) (.Call (.Attribute e "items" apos) [] [] pos) σ F H m.items := fun F1 H1 g R q =>
  GoI.of (pi_items pe_go hbase hline) (h F1 H1 g _ fun v F2 H2 g2 r2 => by
    obtain ⟨p, o, kvs, e, hq, kr⟩ := r2
    refine ⟨p, o, _, e, g2.fh _ _ hq, q _ F2 H2 g2 fun i Fi Hi s1 s2 => ?_⟩
    have hd := s2 _ _ (s1 _ _ hq)
    have hl : kvs.length = m.l.length := Paired.length kr
    refine ⟨fun x hx => ?_, fun e => ⟨hd, by rw [e, kvm_len, hl, Dct.items, List.length_map]; exact Nat.le_refl _⟩⟩
    rw [Dct.items, List.getElem?_map] at hx
    obtain ⟨pr, hpr, rfl⟩ := Option.map_eq_some_iff.mp hx
    obtain ⟨w, hw, rw'⟩ := kr.get hpr
    have hk : (kvm KeyS.g kvs)[i]? = some (KeyS.g pr.1, w) := by rw [kvm, List.getElem?_map, hw]; rfl
    refine ⟨⟨hd, (List.getElem?_eq_some_iff.mp hk).1⟩, fun v H' ⟨T, k, v', e2, e3, e4, e5⟩ => ?_⟩
    subst e3; subst e5
    rw [hk] at e2; cases e2
    exact pair_new s2 e4 (KeyS.rpg.mpr rfl) (Rp.mono s1 rw'))
theorem en_dictOf [KeyS κ] {m : Dct κ ν} {p : Pos} (hm : X.mg "dict" = none) (ha : Ev X a σ F H m) (hg : Gl X "dict" := by rfl) (hs : starEach [a] X.env = (false, eval a X.env) :: starEach [] X.env := by rfl) (hpl : (backTo pos (starEach [] X.env)).any (·.1) = false := by rfl) :
    EvN X (.Call (.Name "dict" p) [a] [] pos) σ F H m := fun F1 H1 g Q q =>
  GoE.of (pe_callTy call_dictD hg hm (by decide +kernel) (pa_cons pe_go pa_nil hs) (by decide) (by decide) hs hpl) (ha F1 H1 g _ fun v F2 H2 g2 r2 => by
    obtain ⟨p, o, kvs, e, hq, kr⟩ := r2
    exact ⟨p, _, by rw [e], .inr ⟨o, g2.fh _ _ hq⟩, fun p' hp => EvN.newO q g2 hp ⟨kvs, rfl, kr⟩⟩)
/-! ### dicts that are equal -/
def rEqR : R2 := fun x y H Q => ∃ a b ks ls, x = .ref a ∧ y = .ref b ∧ Rd H a (.dK ks) ∧ Rd H b (.dK ls) ∧ ks.length = ls.length ∧ (∀ p ∈ ks, valV ls p.1 = some p.2 ∧ flatB p.2 = true) ∧ Q (.bl true) H
def rNeR : R2 := fun x y H Q => ∃ a b ks ls, x = .ref a ∧ y = .ref b ∧ Rd H a (.dK ks) ∧ Rd H b (.dK ls) ∧ ks.length = ls.length ∧ (∀ p ∈ ks, valV ls p.1 = some p.2 ∧ flatB p.2 = true) ∧ Q (.bl false) H
theorem op_eqR (hu : X.A.units < cLine) : OpR X (compareOp .Eq) rEqR := fun pins s σ H x y v u Q I rx ry h => by
  obtain ⟨a, b, ks, ls, rfl, rfl, ea, eb, hlen, hp, q⟩ := h
  cases rx; cases ry
  obtain ⟨_, n1, m1, r1, d1⟩ := ea.ok I.hok
  obtain ⟨_, n2, m2, r2, d2⟩ := eb.ok I.hok
  have e : m1.length = m2.length := by rw [← Paired.length r1, ← Paired.length r2]; exact hlen
  exact PySem.W.keq_eq (knd := mixKind X.prog X.w) (r := true) n1 n2 d1 d2 hu (fun _ => hits_all r2 r1 hp) (fin_bl I q (by simp [e]))
theorem op_neR (hu : X.A.units < cLine) : OpR X (compareOp .NotEq) rNeR := fun pins s σ H x y v u Q I rx ry h => by
  obtain ⟨a, b, ks, ls, rfl, rfl, ea, eb, hlen, hp, q⟩ := h
  cases rx; cases ry
  obtain ⟨_, n1, m1, r1, d1⟩ := ea.ok I.hok
  obtain ⟨_, n2, m2, r2, d2⟩ := eb.ok I.hok
  have e : m1.length = m2.length := by rw [← Paired.length r1, ← Paired.length r2]; exact hlen
  exact PySem.W.keq_ne (knd := mixKind X.prog X.w) (r := true) n1 n2 d1 d2 hu (fun _ => hits_all r2 r1 hp) (fin_bl I q (by simp [e]))
theorem flat_kV (k : Key) : flatB (kV k) = true := by cases k <;> rfl
variable [KeyS κ] [KeyS ν] [DecidableEq ν]
def Dct.alike (m n : Dct κ ν) : Prop := m.l.length = n.l.length ∧ ∀ p ∈ m.l, kvLook n.l p.1 = some p.2
instance (m n : Dct κ ν) : Decidable (m.alike n) := inferInstanceAs (Decidable (_ ∧ _))
def deqG (m n : Dct κ ν) : Option Bool := if m.alike n then some true else none
theorem KR.mem {kvs : List (κ × V)} {l : List (κ × ν)} {q : κ × V} (h : KR K F kvs l) (hq : q ∈ kvs) : ∃ p ∈ l, p.1 = q.1 ∧ rp K F q.2 p.2 := by
  induction h with
  | nil => cases hq
  | cons r t ih =>
    rcases List.mem_cons.mp hq with e | hq
    · subst e; exact ⟨_, List.mem_cons_self, r.1.symm, r.2⟩
    · obtain ⟨p, h1, h2⟩ := ih hq
      exact ⟨p, List.mem_cons_of_mem _ h1, h2⟩
theorem alike_vals {m n : Dct κ ν} {ks ls : List (κ × V)} (h : m.alike n) (h1 : KR K F ks m.l) (h2 : KR K F ls n.l) : ∀ p ∈ kvm KeyS.g ks, valV (kvm KeyS.g ls) p.1 = some p.2 ∧ flatB p.2 = true := fun p hp => by
  obtain ⟨q, hq, rfl⟩ := List.mem_map.mp hp
  obtain ⟨r, hr, e, hv⟩ := h1.mem hq
  have h3 := h.2 r hr
  rw [kvm_val KeyS.inj]
  rcases h2.look q.1 with ⟨_, h5⟩ | ⟨v, x, h4, h5, h6⟩
  · rw [e] at h3; rw [h5] at h3; cases h3
  · rw [e] at h3; rw [h5] at h3; cases h3
    rw [h4]
    have e1 := KeyS.rpg.mp h6
    have e2 := KeyS.rpg.mp hv
    refine ⟨?_, ?_⟩
    · show some v = some q.2
      rw [e1, e2]
    · show flatB q.2 = true
      rw [e2]; exact flat_kV _
theorem o2_eqR {m n : Dct κ ν} {r : Bool} (h : deqG m n = some r) : Op2 K rEqR m n r := fun F H v w Q s rv rw' k => by
  unfold deqG at h
  split at h
  case isFalse => cases h
  rename_i ha
  obtain ⟨a, o, ks, e, hq, kr⟩ := rv
  obtain ⟨a', o', ls, e', hq', kr'⟩ := rw'
  have l1 : ks.length = m.l.length := Paired.length kr
  have l2 : ls.length = n.l.length := Paired.length kr'
  exact ⟨a, a', _, _, e, e', .inr ⟨o, s _ _ hq⟩, .inr ⟨o', s _ _ hq'⟩, by rw [kvm_len, kvm_len, l1, l2]; exact ha.1, alike_vals ha kr kr', k _ F H (.refl s) (congrArg V.bl (Option.some.inj h))⟩
theorem o2_neR {m n : Dct κ ν} {r : Bool} (h : deqG m n = some r) : Op2 K rNeR m n (!r) := fun F H v w Q s rv rw' k => by
  unfold deqG at h
  split at h
  case isFalse => cases h
  rename_i ha
  obtain ⟨a, o, ks, e, hq, kr⟩ := rv
  obtain ⟨a', o', ls, e', hq', kr'⟩ := rw'
  have l1 : ks.length = m.l.length := Paired.length kr
  have l2 : ls.length = n.l.length := Paired.length kr'
  exact ⟨a, a', _, _, e, e', .inr ⟨o, s _ _ hq⟩, .inr ⟨o', s _ _ hq'⟩, by rw [kvm_len, kvm_len, l1, l2]; exact ha.1, alike_vals ha kr kr', k _ F H (.refl s) (congrArg (fun t => V.bl (!t)) (Option.some.inj h))⟩
end
section
theorem room1 {k : Nat} {A : Around} (r : Room k A) : A.units + 1 < cLine := by have := r.un; omega
theorem room65 {k : Nat} {A : Around} (r : Room k A) : A.units + 65 < cLine := by have := r.un; omega
variable {α : Type} [Rp α] {X : Cx} {K : PySem.W.Frag} {e a b c d : Expr} {es : List Expr} {σ : L2.St} {F H F0 H0 : Hp} {pos : Pos}
theorem Ev.re {β : Type} [Rp β] {x : α} {y : β} (h : Ev X e σ F H x) (f : ∀ (F : Hp) (v : V), rp X.K F v x → rp X.K F v y) : Ev X e σ F H y := fun F1 H1 g Q q => h F1 H1 g Q fun v F2 H2 g2 r => q v F2 H2 g2 (f _ _ r)
theorem tp1 {F : Hp} {v : V} {x : T1 α} (h : rp K F v x) : rp K F v (Tp.mk [x.a]) := by
  obtain ⟨p, vs, e, q, v1, w1, e1, r1, e2⟩ := h
  have e2 : w1 = [] := e2
  subst e2; subst e1
  exact ⟨p, _, e, q, .cons r1 .nil⟩
theorem tp2 {F : Hp} {v : V} {x : T2 α α} (h : rp K F v x) : rp K F v (Tp.mk [x.a, x.b]) := by
  obtain ⟨p, vs, e, q, v1, w1, e1, r1, v2, w2, e2, r2, e3⟩ := h
  have e3 : w2 = [] := e3
  subst e3; subst e2; subst e1
  exact ⟨p, _, e, q, .cons r1 (.cons r2 .nil)⟩
theorem tp3 {F : Hp} {v : V} {x : T3 α α α} (h : rp K F v x) : rp K F v (Tp.mk [x.a, x.b, x.c]) := by
  obtain ⟨p, vs, e, q, v1, w1, e1, r1, v2, w2, e2, r2, v3, w3, e3, r3, e4⟩ := h
  have e4 : w3 = [] := e4
  subst e4; subst e3; subst e2; subst e1
  exact ⟨p, _, e, q, .cons r1 (.cons r2 (.cons r3 .nil))⟩
theorem tp4 {F : Hp} {v : V} {x : T4 α α α α} (h : rp K F v x) : rp K F v (Tp.mk [x.a, x.b, x.c, x.d]) := by
  obtain ⟨p, vs, e, q, v1, w1, e1, r1, v2, w2, e2, r2, v3, w3, e3, r3, v4, w4, e4, r4, e5⟩ := h
  have e5 : w4 = [] := e5
  subst e5; subst e4; subst e3; subst e2; subst e1
  exact ⟨p, _, e, q, .cons r1 (.cons r2 (.cons r3 (.cons r4 .nil)))⟩
theorem tp5 {F : Hp} {v : V} {x : T5 α α α α α} (h : rp K F v x) : rp K F v (Tp.mk [x.a, x.b, x.c, x.d, x.e]) := by
  obtain ⟨p, vs, e, q, v1, w1, e1, r1, v2, w2, e2, r2, v3, w3, e3, r3, v4, w4, e4, r4, v5, w5, e5, r5, e6⟩ := h
  have e6 : w5 = [] := e6
  subst e6; subst e5; subst e4; subst e3; subst e2; subst e1
  exact ⟨p, _, e, q, .cons r1 (.cons r2 (.cons r3 (.cons r4 (.cons r5 .nil))))⟩
theorem Ev.tp1 {x : T1 α} (h : Ev X e σ F H x) : Ev X e σ F H (Tp.mk [x.a]) := h.re fun _ _ => Gx.tp1
theorem Ev.tp2 {x : T2 α α} (h : Ev X e σ F H x) : Ev X e σ F H (Tp.mk [x.a, x.b]) := h.re fun _ _ => Gx.tp2
theorem Ev.tp3 {x : T3 α α α} (h : Ev X e σ F H x) : Ev X e σ F H (Tp.mk [x.a, x.b, x.c]) := h.re fun _ _ => Gx.tp3
theorem Ev.tp4 {x : T4 α α α α} (h : Ev X e σ F H x) : Ev X e σ F H (Tp.mk [x.a, x.b, x.c, x.d]) := h.re fun _ _ => Gx.tp4
theorem Ev.tp5 {x : T5 α α α α α} (h : Ev X e σ F H x) : Ev X e σ F H (Tp.mk [x.a, x.b, x.c, x.d, x.e]) := h.re fun _ _ => Gx.tp5
end
end Gx
namespace Gx
open PySem PySem.Spec PyProof.Rows L2
open Rp (rp)
open Ra (ra)
open Ob (ob)
section
variable {κ ν : Type} [Rp κ] [DecidableEq κ] [KeyS κ] [Rp ν]
variable {X : Cx} {K : PySem.W.Frag} {e a b c d : Expr} {σ : L2.St} {F H F0 H0 : Hp} {pos : Pos} {ks : List (Option Expr)} {vs : List Expr}
/-! ### displays of dicts -/
abbrev PR (K : PySem.W.Frag) (F : Hp) : List (V × V) → List (κ × ν) → Prop := Paired fun p q => rp K F p.1 q.1 ∧ rp K F p.2 q.2
theorem PR.mono {F' : Hp} {ps : List (V × V)} {l : List (κ × ν)} (s : L2.Same F F') (h : PR K F ps l) : PR K F' ps l := Paired.mapP h fun _ _ ⟨e, r⟩ => ⟨Rp.mono s e, Rp.mono s r⟩
def EvP (X : Cx) (pos : Pos) (ks : List (Option Expr)) (vs : List Expr) (σ : L2.St) (F H : Hp) (l : List (κ × ν)) : Prop := ∃ trs, PPs X pos ks vs trs ∧ ∀ F1 H1, GrX X.K F H F1 H1 → ∀ Q : List (V × V) → Hp → Prop, (∀ ps F2 H2, Gr F1 H1 F2 H2 → PR X.K F2 ps l → Q ps H2) → tPairs trs σ H1 Q
theorem ep_nil : EvP X pos [] [] σ F H ([] : List (κ × ν)) := ⟨[], pps_nil, fun F1 H1 g Q q => q [] F1 H1 (.refl g.fh) .nil⟩
theorem ep_cons {k : κ} {x : ν} {l : List (κ × ν)} (ha : Ev X a σ F H k) (hb : Ev X b σ F H x) (hr : EvP X pos ks vs σ F H l) : EvP X pos (some a :: ks) (b :: vs) σ F H ((k, x) :: l) := by
  obtain ⟨trs, h1, h2⟩ := hr
  exact ⟨_, pps_cons pe_go pe_go h1, fun F1 H1 g Q q => ha F1 H1 g _ fun v F2 H2 g2 r2 => hb F2 H2 (g.trans g2) _ fun w F3 H3 g3 r3 => h2 F3 H3 ((g.trans g2).trans g3) _ fun ps F4 H4 g4 r4 =>
    q _ F4 H4 ((g2.trans g3).trans g4) (.cons ⟨Rp.mono (g3.ff.trans g4.ff) r2, Rp.mono g4.ff r3⟩ r4)⟩
def kvMerge (l : List (κ × ν)) : List (κ × ν) := l.foldl (fun acc p => kvPut acc p.1 p.2) []
theorem pr_kv {ps : List (V × V)} {l : List (κ × ν)} (h : PR K F ps l) : ∃ ws : List (κ × V), KR K F ws l ∧ ps = (kvm KeyS.g ws).map fun kv => (kV kv.1, kv.2) := by
  induction h with
  | nil => exact ⟨[], .nil, rfl⟩
  | @cons p q ps l r t ih =>
    obtain ⟨ws, h1, h2⟩ := ih
    refine ⟨(q.1, p.2) :: ws, .cons ⟨rfl, r.2⟩ h1, ?_⟩
    rw [h2]
    show p :: _ = (kV (KeyS.g q.1), p.2) :: _
    rw [← KeyS.rpg.mp r.1]
theorem mergeK_kvm : ∀ (ws acc : List (κ × V)), mergeK (kvm KeyS.g acc) (kvm KeyS.g ws) = kvm KeyS.g (ws.foldl (fun acc p => kvPut acc p.1 p.2) acc)
  | [], acc => rfl
  | p :: r, acc => by
    rw [List.foldl_cons, ← mergeK_kvm r, ← kvm_put KeyS.inj]; rfl
theorem KR.merge : ∀ {ws : List (κ × V)} {l : List (κ × ν)} {acc : List (κ × V)} {acc' : List (κ × ν)}, KR K F ws l → KR K F acc acc' → KR K F (ws.foldl (fun acc p => kvPut acc p.1 p.2) acc) (l.foldl (fun acc p => kvPut acc p.1 p.2) acc')
  | _, _, _, _, .nil, h => h
  | _, _, _, _, .cons (a := p) (b := q) ⟨e, r⟩ t, h => by
    rw [List.foldl_cons, List.foldl_cons, e]
    exact KR.merge t (h.put r)
theorem en_disp {l : List (κ × ν)} (h : EvP X pos ks vs σ F H l) (h15 : l.length ≤ 15) (hall : ks.all (·.isSome) = true := by rfl) (hl : ks.length = vs.length := by rfl) (h0 : ks ≠ [] := by exact fun h => nomatch h) (hk : ks.length ≤ 15 := by decide) : EvN X (.Dict ks vs pos) σ F H (Dct.mk (kvMerge l)) := fun F1 H1 g Q q => by
  obtain ⟨trs, h1, h2⟩ := h
  refine GoE.of (pe_disp h1 hall hl h0 hk) fun p hp => ?_
  have gp := Gr.newP (o := .dK []) g.fh hp trivial
  refine h2 F1 _ (g.trans gp) _ fun ps F2 H2 g2 r2 => ?_
  obtain ⟨ws, k1, k2⟩ := pr_kv r2
  have hlen : ws.length = l.length := Paired.length k1
  have hp2 : H2 p = some (.dK []) := g2.hh.k _ _ upd_same trivial
  refine ⟨hp2, kvm KeyS.g ws, k2, by rw [kvm_len, hlen]; exact h15, ?_⟩
  have f2 : F2 p = none := (g2.fr p _ upd_same trivial).trans (g.fh.free hp)
  refine q p _ F2 _ ((gp.trans g2).poke hp f2 ⟨_, hp2, trivial⟩ (by unfold ntb; trivial)) hp f2 upd_same ⟨_, congrArg HO.dK (mergeK_kvm ws []), KR.merge k1 .nil⟩
end
end Gx
namespace Gx
open PySem PySem.Spec PyProof.Rows L2
open Rp (rp)
section
variable {X : Cx} {K : PySem.W.Frag} {a b : Expr} {σ : L2.St} {F H : Hp} {pos : Pos} {α : Type} [Rp α]
theorem ipos {α : Type} {c : Prop} [Decidable c] {x y r : α} (h : c) (e : (if c then x else y) = r) : x = r := by rw [if_pos h] at e; exact e
theorem ineg {α : Type} {c : Prop} [Decidable c] {x y r : α} (h : ¬ c) (e : (if c then x else y) = r) : y = r := by rw [if_neg h] at e; exact e
theorem btf {b : Bool} (h1 : b = true) (h2 : b = false) : False := by rw [h1] at h2; cases h2
theorem rp_of_some [NN α] {v : V} {x : α} (h : rp (α := Option α) K F v (some x)) : rp K F v x := h
variable [Pd α] [DecidableEq α]
theorem ev_eqD {x y : α} {r : Bool} (ha : Ev X a σ F H x) (hb : Ev X b σ F H y) (h : eqG x y = some r) (hu : X.A.units + 64 < cLine) : Ev X (.Compare a [.Eq] [b] pos) σ F H r := ev_cmp (op_eqD hu) (o2_eqD h) ha hb (nomark _)
theorem ev_neD {x y : α} {r : Bool} (ha : Ev X a σ F H x) (hb : Ev X b σ F H y) (h : eqG x y = some r) (hu : X.A.units + 64 < cLine) : Ev X (.Compare a [.NotEq] [b] pos) σ F H (!r) := ev_cmp (op_neD hu) (o2_neD h) ha hb (nomark _)
theorem et_eqD {x y : α} {r : Bool} (ha : Ev X a σ F H x) (hb : Ev X b σ F H y) (h : eqG x y = some r) (hu : X.A.units + 64 < cLine) : EvT X (.Compare a [.Eq] [b] pos) σ F H r := et_cmp (op_eqD hu) (o2_eqD h) ha hb (nomark _)
theorem et_neD {x y : α} {r : Bool} (ha : Ev X a σ F H x) (hb : Ev X b σ F H y) (h : eqG x y = some r) (hu : X.A.units + 64 < cLine) : EvT X (.Compare a [.NotEq] [b] pos) σ F H (!r) := et_cmp (op_neD hu) (o2_neD h) ha hb (nomark _)
theorem ev_inD {x : α} {y : List α} {r : Bool} (ha : Ev X a σ F H x) (hb : Ev X b σ F H y) (h : inG x y = some r) (hu : X.A.units + 65 < cLine) (hm : behindInMarks .In b = false := by rfl) : Ev X (.Compare a [.In] [b] pos) σ F H r := ev_cmp (op_inD hu) (o2_inD h) ha hb hm
theorem ev_notInD {x : α} {y : List α} {r : Bool} (ha : Ev X a σ F H x) (hb : Ev X b σ F H y) (h : inG x y = some r) (hu : X.A.units + 65 < cLine) (hm : behindInMarks .NotIn b = false := by rfl) : Ev X (.Compare a [.NotIn] [b] pos) σ F H (!r) := ev_cmp (op_notInD hu) (o2_notInD h) ha hb hm
theorem et_inD {x : α} {y : List α} {r : Bool} (ha : Ev X a σ F H x) (hb : Ev X b σ F H y) (h : inG x y = some r) (hu : X.A.units + 65 < cLine) (hm : behindInMarks .In b = false := by rfl) : EvT X (.Compare a [.In] [b] pos) σ F H r := et_cmp (op_inD hu) (o2_inD h) ha hb hm
theorem et_notInD {x : α} {y : List α} {r : Bool} (ha : Ev X a σ F H x) (hb : Ev X b σ F H y) (h : inG x y = some r) (hu : X.A.units + 65 < cLine) (hm : behindInMarks .NotIn b = false := by rfl) : EvT X (.Compare a [.NotIn] [b] pos) σ F H (!r) := et_cmp (op_notInD hu) (o2_notInD h) ha hb hm
end
section
variable {X : Cx} {a b : Expr} {σ : L2.St} {F H : Hp} {pos : Pos} {κ ν : Type} [Rp κ] [Rp ν] [DecidableEq κ] [DecidableEq ν] [KeyS κ] [KeyS ν]
theorem ev_eqR {x y : Dct κ ν} {r : Bool} (ha : Ev X a σ F H x) (hb : Ev X b σ F H y) (h : deqG x y = some r) (hu : X.A.units < cLine) : Ev X (.Compare a [.Eq] [b] pos) σ F H r := ev_cmp (op_eqR hu) (o2_eqR h) ha hb (nomark _)
theorem ev_neR {x y : Dct κ ν} {r : Bool} (ha : Ev X a σ F H x) (hb : Ev X b σ F H y) (h : deqG x y = some r) (hu : X.A.units < cLine) : Ev X (.Compare a [.NotEq] [b] pos) σ F H (!r) := ev_cmp (op_neR hu) (o2_neR h) ha hb (nomark _)
theorem et_eqR {x y : Dct κ ν} {r : Bool} (ha : Ev X a σ F H x) (hb : Ev X b σ F H y) (h : deqG x y = some r) (hu : X.A.units < cLine) : EvT X (.Compare a [.Eq] [b] pos) σ F H r := et_cmp (op_eqR hu) (o2_eqR h) ha hb (nomark _)
theorem et_neR {x y : Dct κ ν} {r : Bool} (ha : Ev X a σ F H x) (hb : Ev X b σ F H y) (h : deqG x y = some r) (hu : X.A.units < cLine) : EvT X (.Compare a [.NotEq] [b] pos) σ F H (!r) := et_cmp (op_neR hu) (o2_neR h) ha hb (nomark _)
end
end Gx

/-! Gh: the head's facts, and one more test. -/
namespace Gx
open PySem PySem.Spec PyProof.Rows L2
abbrev AlE : Type := He.AlD × Bool
abbrev frE (n : Nat) (g : Addr → Option Obj) : PySem.W.Frag := He.frG g (He.asD g n)
def obsE (n : Nat) (fa : List He.Fa) (fn : List He.DefD) (ex : PySem.W.Frag → Bool) (g : Addr → Option Obj) : AlE := (He.obsD fa fn (frE n g), ex (frE n g))
def hookE (n : Nat) (fa : List He.Fa) (fn : List He.DefD) (ex : PySem.W.Frag → Bool) : PySem.W.Hook where
  α := AlE
  obs s := obsE n fa fn ex s.heap.get?
  val _ := (He.valD fn, true)
  says _ h := ∃ K : PySem.W.Frag, K.In h ∧ He.SaysD fa fn K ∧ ex K = true
  of _ _ e := ⟨_, He.frG_in, congrArg (fun z : AlE => z.1) e, congrArg (fun z : AlE => z.2) e⟩
  keeps := fun _ _ _ ⟨K, hK, c⟩ k => ⟨K, PySem.W.Frag.In.keeps hK k, c⟩
theorem obsE_eq {n : Nat} {fa : List He.Fa} {fn : List He.DefD} {ex : PySem.W.Frag → Bool} {g : Addr → Option Obj} {s : Shared} (h : ∀ a, g a = s.heap.get? a) : obsE n fa fn ex g = (hookE n fa fn ex).obs s := by
  cases (funext h : g = s.heap.get?)
  rfl
end Gx

/-! Gi: what a mirror comes to: Ok. -/
namespace Gx
open PySem PySem.Spec PyProof.Rows L2
/-- m comes to an x of which P holds -/
def Ok {α : Type} (m : Option α) (P : α → Prop) : Prop := ∃ x, m = some x ∧ P x
section
variable {α β γ ρ : Type}
theorem Ok.ret {P : α → Prop} {x : α} (h : P x) : Ok (some x) P := ⟨x, rfl, h⟩
theorem Ok.of {P : α → Prop} {m : Option α} {x : α} (e : m = some x) (h : P x) : Ok m P := ⟨x, e, h⟩
theorem Ok.bind {m : Option α} {f : α → Option β} {P : α → Prop} {Q : β → Prop} (h : Ok m P) (k : ∀ x, P x → Ok (f x) Q) : Ok (m.bind f) Q := by
  obtain ⟨x, rfl, p⟩ := h
  exact k x p
theorem Ok.bindE {m : Option α} {f : α → Option β} {x : α} {Q : β → Prop} (h : m = some x) (k : Ok (f x) Q) : Ok (m.bind f) Q := by
  subst h; exact k
theorem Ok.mono {m : Option α} {P Q : α → Prop} (h : Ok m P) (k : ∀ x, P x → Q x) : Ok m Q := by
  obtain ⟨x, e, p⟩ := h
  exact ⟨x, e, k x p⟩
theorem Ok.ite {c : Prop} [Decidable c] {a b : Option α} {P : α → Prop} (h1 : c → Ok a P) (h2 : ¬ c → Ok b P) : Ok (if c then a else b) P := by
  by_cases h : c
  · rw [if_pos h]; exact h1 h
  · rw [if_neg h]; exact h2 h
theorem Ok.dite {p : Prop} [Decidable p] {a b : Option α} {P : α → Prop} (h1 : p → Ok a P) (h2 : ¬ p → Ok b P) : Ok (if decide p = true then a else b) P :=
  Ok.ite (fun h => h1 (of_decide_eq_true h)) (fun h => h2 fun z => h (decide_eq_true z))
theorem Ok.true_ {m : Option Bool} (h : Ok m (· = true)) : m = some true := by
  obtain ⟨x, e, p⟩ := h
  rw [e, p]
theorem Ok.eq {m : Option α} {y : α} (h : Ok m (· = y)) : m = some y := by
  obtain ⟨x, e, p⟩ := h
  rw [e, p]
/-- a loop, by an invariant over what is left -/
theorem Ok.loopN {st : β → α → Option β} {b : β} {xs : List α} {Q : β → Prop} (J : β → List α → Prop) (h0 : J b xs) (hs : ∀ b x ys, J b (x :: ys) → Ok (st b x) fun b' => J b' ys) (hq : ∀ b, J b [] → Q b) : Ok (loopN st b xs) Q := by
  induction xs generalizing b with
  | nil => exact ⟨b, rfl, hq b h0⟩
  | cons x ys ih =>
    obtain ⟨b', e, h'⟩ := hs b x ys h0
    rw [loopN_cons e]
    exact ih h'
theorem Ok.loopM {st : β → α → Option (Lp β ρ)} {b : β} {xs : List α} {Q : Lp β ρ → Prop} (J : β → List α → Prop) (h0 : J b xs) (hs : ∀ b x ys, J b (x :: ys) → Ok (st b x) fun o => match o with | .nx b' => J b' ys | .bk b' => Q (.bk b') | .rt r => Q (.rt r)) (hq : ∀ b, J b [] → Q (.nx b)) : Ok (loopM st b xs) Q := by
  induction xs generalizing b with
  | nil => exact ⟨.nx b, rfl, hq b h0⟩
  | cons x ys ih =>
    obtain ⟨o, e, h'⟩ := hs b x ys h0
    cases o with
    | nx b' => rw [loopM_nx e]; exact ih h'
    | bk b' => exact ⟨.bk b', by rw [Gx.loopM, e], h'⟩
    | rt r => exact ⟨.rt r, by rw [Gx.loopM, e], h'⟩
theorem Ok.whileN {c : β → Option Bool} {st : β → Option β} {n : Nat} {b : β} {Q : β → Prop} (J : β → Prop) (m : β → Nat) (h0 : J b) (hm : m b < n) (hs : ∀ b, J b → Ok (c b) fun t => (t = true → Ok (st b) fun b' => J b' ∧ m b' < m b) ∧ (t = false → Q b)) : Ok (whileN c st n b) Q := by
  induction n generalizing b with
  | zero => omega
  | succ n ih =>
    obtain ⟨t, e, h1, h2⟩ := hs b h0
    cases t with
    | false => exact ⟨b, by rw [Gx.whileN, e], h2 rfl⟩
    | true =>
      obtain ⟨b', e', j, l⟩ := h1 rfl
      rw [Gx.whileN, e]
      dsimp only
      rw [e']
      exact ih j (by omega)
theorem Ok.thn {o : Option (Lp β ρ)} {f : β → Option γ} {g : ρ → Option γ} {Q : γ → Prop} (P : Lp β ρ → Prop) (h : Ok o P) (k1 : ∀ b, P (.nx b) → Ok (f b) Q) (k2 : ∀ b, P (.bk b) → Ok (f b) Q) (k3 : ∀ r, P (.rt r) → Ok (g r) Q) : Ok (o.bind fun o => o.thn f g) Q := by
  obtain ⟨x, rfl, p⟩ := h
  cases x with
  | nx b => exact k1 b p
  | bk b => exact k2 b p
  | rt r => exact k3 r p
/-- a comprehension -/
theorem Ok.comp {f : α → Option (Option γ)} {xs : List α} {P : List γ → Prop} (g : α → γ) (hl : xs.length ≤ 16777216) (h : ∀ x ∈ xs, f x = some (some (g x))) (hp : P (xs.map g)) : Ok (compG f xs) P := ⟨_, compG_map (by rw [szl]; exact hl) h, hp⟩
theorem Ok.compf {f : α → Option (Option γ)} {xs : List α} {P : List γ → Prop} (p : α → Bool) (g : α → γ) (hl : xs.length ≤ 16777216) (h : ∀ x ∈ xs, f x = some (if p x then some (g x) else none)) (hp : P ((xs.filter p).map g)) : Ok (compG f xs) P := ⟨_, compG_filter (by rw [szl]; exact hl) h, hp⟩
/-- .. of which only a relation is known -/
theorem compM_rel {f : α → Option (Option γ)} {R : α → γ → Prop} : ∀ {xs : List α}, (∀ x ∈ xs, Ok (f x) fun o => ∃ y, o = some y ∧ R x y) → Ok (compM f xs) fun ys => Paired R xs ys
  | [], _ => ⟨[], rfl, .nil⟩
  | x :: xs, h => by
    obtain ⟨o, e, y, rfl, r⟩ := h x List.mem_cons_self
    obtain ⟨ys, e2, r2⟩ := compM_rel fun z hz => h z (List.mem_cons_of_mem _ hz)
    exact ⟨y :: ys, by rw [compM, e, e2]; rfl, .cons r r2⟩
theorem Ok.compR {f : α → Option (Option γ)} {xs : List α} (R : α → γ → Prop) {P : List γ → Prop} (hl : xs.length ≤ 16777216) (h : ∀ x ∈ xs, Ok (f x) fun o => ∃ y, o = some y ∧ R x y) (hp : ∀ ys, Paired R xs ys → P ys) : Ok (compG f xs) P := by
  unfold compG; rw [if_pos (by rw [szl]; exact hl)]
  exact (compM_rel h).mono hp
theorem Paired.mem {R : α → γ → Prop} {xs : List α} {ys : List γ} (h : Paired R xs ys) {y : γ} (hy : y ∈ ys) : ∃ x ∈ xs, R x y := by
  induction h with
  | nil => cases hy
  | cons r t ih =>
    rcases List.mem_cons.mp hy with e | hy
    · subst e; exact ⟨_, List.mem_cons_self, r⟩
    · obtain ⟨x, h1, h2⟩ := ih hy
      exact ⟨x, List.mem_cons_of_mem _ h1, h2⟩
theorem Paired.get {R : α → γ → Prop} {xs : List α} {ys : List γ} (h : Paired R xs ys) {i : Nat} {y : γ} (hy : ys[i]? = some y) : ∃ x, xs[i]? = some x ∧ R x y := by
  induction h generalizing i with
  | nil => simp at hy
  | cons r t ih =>
    cases i with
    | zero => simp at hy; subst hy; exact ⟨_, by simp, r⟩
    | succ i => obtain ⟨x, h1, h2⟩ := ih (by simpa using hy); exact ⟨x, by simpa using h1, h2⟩
/-! ### guards -/
theorem mulG_l {i j : Int} (h : -(2 ^ 64) < i ∧ i < 2 ^ 64) : mulG i j = some (i * j) := if_pos (.inl (CMul.l h))
theorem mulG_r {i j : Int} (h : -(2 ^ 64) < j ∧ j < 2 ^ 64) : mulG i j = some (i * j) := if_pos (.inl (CMul.r h))
theorem mulG_w {i j : Int} (h : CMulW i j) : mulG i j = some (i * j) := if_pos (.inr h)
theorem divG_w {i j : Int} (h : CDivW i j) : divG i j = some (i / j) := if_pos (.inr h)
theorem modG_p {i j : Int} (h : 0 < j) : modG i j = some (i % j) := if_pos h
theorem divG_p {i j : Int} (h : CDiv i j) : divG i j = some (i / j) := if_pos (.inl h)
theorem app_p {xs : List α} {y : α} (h : xs.length < 16777216) : app xs y = some (xs ++ [y]) := if_pos (by rw [szl]; exact h)
theorem catG_p {xs ys : List α} (h : xs.length + ys.length ≤ 16777216) : catG xs ys = some (xs ++ ys) := if_pos (by rw [szl]; exact h)
theorem catT_p {xs ys : Tp α} (h : xs.l.length + ys.l.length ≤ 16777216) : catT xs ys = some ⟨xs.l ++ ys.l⟩ := if_pos (by rw [szl]; exact h)
theorem rngG_p {j : Int} (h : -(2 ^ 62) ≤ j ∧ j < 2 ^ 62) : rngG j = some (intsF 0 j.toNat) := if_pos h
theorem rngG_n {n : Nat} (h : n ≤ 16777216) : rngG (n : Int) = some (intsF 0 n) := by
  have h1 : (n : Int) ≤ 16777216 := by omega
  have h2 : (0 : Int) ≤ n := Int.natCast_nonneg n
  have e := rngG_p (j := (n : Int)) ⟨Int.le_trans (by decide) h2, Int.lt_of_le_of_lt h1 (by decide)⟩
  rw [Int.toNat_natCast] at e
  exact e
theorem rngG_s {j : Int} (h : -1000000000 ≤ j ∧ j ≤ 1000000000) : rngG j = some (intsF 0 j.toNat) := rngG_p ⟨Int.le_trans (by decide) h.1, Int.lt_of_le_of_lt h.2 (by decide)⟩
theorem rngG2_s {i j : Int} (hi : -1000000000 ≤ i ∧ i ≤ 1000000000) (h : -1000000000 ≤ j ∧ j ≤ 1000000000) : rngG2 i j = some (intsF i (j - i).toNat) := if_pos ⟨Int.le_trans (by decide) hi.1, Int.lt_of_le_of_lt hi.2 (by decide), Int.le_trans (by decide) h.1, Int.lt_of_le_of_lt h.2 (by decide)⟩
theorem rngG2_p {i j : Int} (h : -(2 ^ 62) ≤ i ∧ i < 2 ^ 62 ∧ -(2 ^ 62) ≤ j ∧ j < 2 ^ 62) : rngG2 i j = some (intsF i (j - i).toNat) := if_pos h
theorem dputG_p {κ ν : Type} [Rp κ] [DecidableEq κ] [DKey κ] [Rp ν] {m : Dct κ ν} {k : κ} {v : ν} (h : m.l.length < 16777216) : dputG m k v = some ⟨kvPut m.l k v⟩ := if_pos (by rw [szl]; exact h)
theorem intsF_mem {lo : Int} {n : Nat} {x : Int} (h : x ∈ intsF lo n) : lo ≤ x ∧ x < lo + n := by
  obtain ⟨i, hi⟩ := List.mem_iff_getElem?.mp h
  obtain ⟨h1, h2⟩ := ints_get hi
  omega
theorem intsF_succ (lo : Int) (n : Nat) : intsF lo (n + 1) = lo :: intsF (lo + 1) n := by
  unfold intsF
  rw [List.range_succ_eq_map, List.map_cons, List.map_map]
  congr 1
  · simp
  · refine List.map_congr_left fun i _ => ?_
    show lo + ((i + 1 : Nat) : Int) = _
    omega
theorem intsF_zero (lo : Int) : intsF lo 0 = [] := rfl
theorem atI_mem {xs : List α} {i : Int} (h0 : 0 ≤ i) (h1 : i < xs.length) : Ok (L2.atI xs i) fun v => v ∈ xs ∧ xs[i.toNat]? = some v := by
  obtain ⟨v, h2, h3⟩ := atI_ok h0 h1
  exact ⟨v, h2, List.mem_of_getElem? h3, h3⟩
theorem atI_last {xs : List α} (h : xs ≠ []) : L2.atI xs (-1) = some (xs.getLast h) := by
  unfold L2.atI ixN
  have hl : 0 < xs.length := List.length_pos_iff.mpr h
  rw [if_neg (by omega), if_pos (by omega)]
  show xs[((-1 : Int) + xs.length).toNat]? = _
  have e : ((-1 : Int) + xs.length).toNat = xs.length - 1 := by omega
  rw [e, List.getLast_eq_getElem]
  exact List.getElem?_eq_getElem (by omega)
theorem atI_ints {f : Int → α} {n : Nat} {k : Int} (h0 : 0 ≤ k) (h1 : k < n) : L2.atI ((intsF 0 n).map f) k = some (f k) := by
  rw [atI_nn h0, List.getElem?_map]
  have e : (intsF 0 n)[k.toNat]? = some k := by
    unfold intsF
    rw [List.getElem?_map, List.getElem?_range (by omega)]
    show some ((0 : Int) + (k.toNat : Int)) = _
    congr 1; omega
  rw [e]; rfl
/-! ### loops that append -/
theorem loopN_app {st : List γ → α → Option (List γ)} (f : α → γ) : ∀ (xs : List α) (b : List γ), b.length + xs.length ≤ 16777216 → (∀ x ∈ xs, ∀ b : List γ, b.length < 16777216 → st b x = some (b ++ [f x])) → loopN st b xs = some (b ++ xs.map f)
  | [], b, _, _ => by rw [loopN]; simp
  | x :: xs, b, hl, h => by
    rw [List.length_cons] at hl
    rw [loopN_cons (h x List.mem_cons_self b (by omega)), loopN_app f xs (b ++ [f x]) (by rw [List.length_append]; simp; omega) fun y hy => h y (List.mem_cons_of_mem _ hy)]
    simp
theorem loopN_map {st : List γ → α → Option (List γ)} (f : α → γ) (xs : List α) (hl : xs.length ≤ 16777216) (h : ∀ x ∈ xs, ∀ b : List γ, b.length < 16777216 → st b x = some (b ++ [f x])) : loopN st [] xs = some (xs.map f) :=
  loopN_app f xs [] (by simpa using hl) h
/-! ### dicts -/
section
variable {κ ν : Type} [DecidableEq κ]
def Dct.nd (d : Dct κ ν) : Prop := (d.l.map (·.1)).Nodup
theorem kvPut_keys (l : List (κ × ν)) (k : κ) (v : ν) : (kvPut l k v).map (·.1) = if k ∈ l.map (·.1) then l.map (·.1) else l.map (·.1) ++ [k] := by
  unfold kvPut
  by_cases h : k ∈ l.map (·.1)
  · rw [if_pos h, if_pos (by
      obtain ⟨p, hp, e⟩ := List.mem_map.mp h
      exact List.any_eq_true.mpr ⟨p, hp, decide_eq_true e⟩), List.map_map]
    refine List.map_congr_left fun p _ => ?_
    show (if p.1 = k then (p.1, v) else p).1 = p.1
    split <;> rfl
  · rw [if_neg h, if_neg (fun z => by
      obtain ⟨p, hp, e⟩ := List.any_eq_true.mp z
      exact h (List.mem_map.mpr ⟨p, hp, of_decide_eq_true e⟩)), List.map_append]
    rfl
theorem kvPut_nd {l : List (κ × ν)} {k : κ} {v : ν} (h : (l.map (·.1)).Nodup) : ((kvPut l k v).map (·.1)).Nodup := by
  rw [kvPut_keys]
  split
  · exact h
  · rename_i hk
    rw [List.nodup_append]
    refine ⟨h, by simp, fun a ha b hb => ?_⟩
    have : b = k := by simpa using hb
    subst this
    intro e; subst e; exact hk ha
theorem kvLook_mem {l : List (κ × ν)} {k : κ} : k ∈ l.map (·.1) ↔ ∃ v, kvLook l k = some v := by
  induction l with
  | nil => simp [kvLook]
  | cons p r ih =>
    rw [List.map_cons, List.mem_cons, kvLook]
    by_cases e : p.1 = k
    · rw [if_pos e]; exact ⟨fun _ => ⟨_, rfl⟩, fun _ => .inl e.symm⟩
    · rw [if_neg e, ← ih]
      exact ⟨fun h => h.resolve_left fun z => e z.symm, .inr⟩
theorem kvLook_self {l : List (κ × ν)} (h : (l.map (·.1)).Nodup) {p : κ × ν} (hp : p ∈ l) : kvLook l p.1 = some p.2 := by
  induction l with
  | nil => cases hp
  | cons q r ih =>
    rw [List.map_cons, List.nodup_cons] at h
    rw [kvLook]
    rcases List.mem_cons.mp hp with e | hp
    · subst e; rw [if_pos rfl]
    · rw [if_neg (show ¬ q.1 = p.1 from fun e => h.1 (by rw [e]; exact List.mem_map.mpr ⟨p, hp, rfl⟩))]
      exact ih h.2 hp
end
theorem deqG_self {κ ν : Type} [Rp κ] [DecidableEq κ] [Rp ν] [KeyS κ] [KeyS ν] [DecidableEq ν] {d : Dct κ ν} (h : (d.l.map (·.1)).Nodup) : deqG d d = some true := if_pos ⟨rfl, fun _ hp => kvLook_self h hp⟩
/-! ### texts by their signs -/
def cl (z : Str) : List Nat := z.cps.toList
theorem len_c (z : Str) : z.length = (cl z).length := len_cl z
theorem S_cl (x : Str) : S (cl x) = x := S_tl x
theorem cl_S (l : List Nat) : cl (S l) = l := rfl
theorem cl_inj {a b : Str} (h : cl a = cl b) : a = b := by
  rw [← S_tl a, ← S_tl b]; exact congrArg S h
theorem sAt_ok {z : Str} (hz : (cl z).length ≤ 16777216) {i : Int} (h0 : 0 ≤ i) (h1 : i < (cl z).length) : Ok (sAt z i) fun s => ∃ c, s = ⟨#[c]⟩ ∧ (cl z)[i.toNat]? = some c ∧ c ∈ cl z := by
  obtain ⟨c, h2, h3⟩ := atI_ok h0 h1
  refine ⟨⟨#[c]⟩, ?_, c, rfl, h3, List.mem_of_getElem? h3⟩
  unfold sAt
  rw [if_pos (by rw [len_c, szl]; exact hz), show L2.atI z.cps.toList i = some c from h2]; rfl
theorem sAdd_cl {a b : Str} (h : (cl a).length + (cl b).length ≤ 16777216) : Ok (sAdd a b) fun r => cl r = cl a ++ cl b := ⟨a ++ b, sAdd_ok (by rw [len_c, len_c, szl]; exact h), app_cl a b⟩
theorem sCut_cl {z : Str} (hz : (cl z).length ≤ 16777216) (i j : Option Int) : Ok (sCut z i j) fun r => cl r = cut (cl z) i j := by
  obtain ⟨r, h1, _, h3⟩ := sCut_ok (z := z) (by rw [len_c, szl]; exact hz) i j
  exact ⟨r, h1, h3⟩
theorem sLen_cl {z : Str} (hz : (cl z).length ≤ 16777216) : sLen z = some ((cl z).length : Int) := by
  rw [sLen_ok (by rw [len_c, szl]; exact hz), len_c]
theorem sOfI_cl {n : Int} (h0 : 0 ≤ n) (h1 : n < 10 ^ 18) : Ok (sOfI n) fun r => cl r = TL.numL n.toNat ∧ (cl r).length ≤ 18 := by
  obtain ⟨r, e, l, c⟩ := sOfI_ok h0 h1
  exact ⟨r, e, c, by rw [← len_c]; exact l⟩
theorem take_drop_min {xs : List α} (a b : Nat) : (xs.drop (min a xs.length)).take (min b xs.length - min a xs.length) = (xs.drop a).take (b - a) := by
  rcases Nat.lt_or_ge a xs.length with h | h
  · rw [Nat.min_eq_left (Nat.le_of_lt h)]
    rcases Nat.lt_or_ge b xs.length with h2 | h2
    · rw [Nat.min_eq_left (Nat.le_of_lt h2)]
    · rw [Nat.min_eq_right h2, List.take_of_length_le (by rw [List.length_drop]; exact Nat.le_refl _), List.take_of_length_le (by rw [List.length_drop]; omega)]
  · rw [Nat.min_eq_right h, List.drop_of_length_le (Nat.le_refl _), List.drop_of_length_le h]; simp
theorem cut_mid {xs : List α} {i j : Int} (h0 : 0 ≤ i) (h1 : 0 ≤ j) : cut xs (some i) (some j) = (xs.drop i.toNat).take (j.toNat - i.toNat) := by
  obtain ⟨a, rfl⟩ : ∃ m : Nat, i = (m : Int) := ⟨i.toNat, by omega⟩
  obtain ⟨b, rfl⟩ : ∃ m : Nat, j = (m : Int) := ⟨j.toNat, by omega⟩
  unfold cut
  rw [HT.sIx_nat, HT.sIx_nat]
  exact take_drop_min a b
theorem cut_to {xs : List α} {n : Int} (h0 : 0 ≤ n) : cut xs none (some n) = xs.take n.toNat := by
  obtain ⟨m, rfl⟩ : ∃ m : Nat, n = (m : Int) := ⟨n.toNat, by omega⟩
  unfold cut
  rw [HT.sIx_nat, HT.sIx_none]
  have := take_drop_min (xs := xs) 0 m
  rw [Nat.min_eq_left (Nat.zero_le _)] at this
  exact this
theorem cut_from {xs : List α} {n : Int} (h0 : 0 ≤ n) : cut xs (some n) none = xs.drop n.toNat := by
  obtain ⟨m, rfl⟩ : ∃ m : Nat, n = (m : Int) := ⟨n.toNat, by omega⟩
  unfold cut
  rw [HT.sIx_nat, HT.sIx_none]
  have := take_drop_min (xs := xs) m xs.length
  rw [Nat.min_eq_left (Nat.le_refl _), List.take_of_length_le (l := xs.drop m) (by rw [List.length_drop]; exact Nat.le_refl _)] at this
  exact this
theorem cut_init {xs : List α} : cut xs none (some (-1 : Int)) = xs.take (xs.length - 1) := by
  unfold cut
  have e : HT.sIx xs.length xs.length (some (-1)) = xs.length - 1 := by
    show (if (-1 : Int) < 0 then ((-1 : Int) + (xs.length : Int)).toNat else min (-1 : Int).toNat xs.length) = xs.length - 1
    rw [if_pos (by decide)]; omega
  rw [HT.sIx_none, e]; simp
theorem map_cl_S (ys : List Str) : (ys.map cl).map S = ys := by
  rw [List.map_map]
  exact (List.map_congr_left fun y _ => S_tl y).trans (List.map_id _)
theorem sJoin_cl {x : Str} {ys : List Str} (h : (ys.map (·.length)).sum + ys.length * x.length ≤ 16777216) : Ok (sJoin x ys) fun r => cl r = TL.joinL (cl x) (ys.map cl) := by
  refine ⟨Txt.join x ys, if_pos h, ?_⟩
  have e := SX.join_S (cl x) (ys.map cl)
  have hx : SX.S (cl x) = x := S_tl x
  rw [map_cl_S, hx] at e
  rw [e]; rfl
theorem joinL_nil : ∀ ls : List (List Nat), TL.joinL [] ls = ls.flatten
  | [] => rfl
  | [p] => by simp [TL.joinL]
  | p :: q :: r => by
    rw [TL.joinL, joinL_nil (q :: r)]; simp
theorem len_sum {n : Nat} : ∀ {ys : List Str}, (∀ y ∈ ys, (cl y).length ≤ n) → (ys.map (·.length)).sum ≤ ys.length * n
  | [], _ => by simp
  | y :: ys, h => by
    rw [List.map_cons, List.sum_cons, List.length_cons, Nat.succ_mul, len_c]
    have h1 := h y List.mem_cons_self
    have h2 := len_sum fun z hz => h z (List.mem_cons_of_mem _ hz)
    omega
/-- texts of one sign joined by nothing -/
theorem sJoin_signs {ys : List Str} {cs : List Nat} (h : ys = cs.map fun c => ⟨#[c]⟩) (hl : cs.length ≤ 1000000) : Ok (sJoin ("" : Str) ys) fun r => cl r = cs := by
  have h1 : ∀ y ∈ ys, (cl y).length ≤ 1 := fun y hy => by
    subst h
    obtain ⟨c, _, rfl⟩ := List.mem_map.mp hy
    exact Nat.le_refl _
  have h2 := len_sum h1
  have h3 : ys.length = cs.length := by rw [h, List.length_map]
  refine (sJoin_cl ?_).mono fun r hr => ?_
  · rw [show ("" : Str).length = 0 from by decide]; omega
  · rw [hr, show cl ("" : Str) = [] from by decide, joinL_nil, h, List.map_map]
    clear h h1 h2 h3 hr hl
    induction cs with
    | nil => rfl
    | cons c cs ih => rw [List.map_cons, List.flatten_cons, ih]; rfl
theorem nodup_map_on {α β : Type} {f : α → β} {l : List α} (inj : ∀ x ∈ l, ∀ y ∈ l, f x = f y → x = y) (h : l.Nodup) : (l.map f).Nodup := by
  unfold List.Nodup
  rw [List.pairwise_map]
  exact List.Pairwise.imp_of_mem (fun ha hb hne e => hne (inj _ ha _ hb e)) h
theorem ints_nodup (lo : Int) (n : Nat) : (intsF lo n).Nodup := by
  unfold intsF
  exact nodup_map_on (fun x _ y _ e => by omega) List.nodup_range
/-! ### texts within data -/
def sok (z : Str) : Prop := ∀ c ∈ cl z, c < 1114112
theorem lay_str {z : Str} (h : sok z) : (Pd.toD z).canLay0 = true := by
  show PySem.PyData.canLay0 (.str z) = true
  rw [PyData.canLay0]
  show z.cps.all (· < 0x110000) = true
  rw [← Array.all_toList, List.all_eq_true]
  intro c hc
  exact decide_eq_true (h c hc)
/-- the texts in a thing are texts that Python can have -/
class PdL (α : Type) [Rp α] [Pd α] where
  tx : α → Prop
  ok : ∀ {x : α}, tx x → (Pd.toD x).canLay0 = true
instance : PdL Int := ⟨fun _ => True, fun _ => PdF.ok _⟩
instance : PdL Bool := ⟨fun _ => True, fun _ => PdF.ok _⟩
instance : PdL Str := ⟨sok, lay_str⟩
instance {α : Type} [Rp α] [Pd α] [PdL α] : PdL (List α) := ⟨fun l => ∀ x ∈ l, PdL.tx x, fun h => layAll fun x hx => PdL.ok (h x hx)⟩
instance {α : Type} [Rp α] [Pd α] [PdL α] : PdL (Tp α) := ⟨fun l => ∀ x ∈ l.l, PdL.tx x, fun h => layAll fun x hx => PdL.ok (h x hx)⟩
instance {α : Type} [Rp α] [Pd α] [PdL α] : PdL (Tn α) := ⟨fun l => ∀ x ∈ l.l, PdL.tx x, fun h => layAll fun x hx => PdL.ok (h x hx)⟩
class PdRL (τ : Type) [Ra τ] [PdR τ] where
  tx : τ → Prop
  ok : ∀ {x : τ}, tx x → PyData.canLayAll0 (PdR.toR x) = true
instance : PdRL Unit := ⟨fun _ => True, fun _ => PdRF.ok _⟩
instance {α τ : Type} [Rp α] [Ra τ] [Pd α] [PdR τ] [PdL α] [PdRL τ] : PdRL (α × τ) := ⟨fun x => PdL.tx x.1 ∧ PdRL.tx x.2, fun {x} h => by
  show (PyData.canLay0 _ && PyData.canLayAll0 _) = true
  rw [PdL.ok h.1, PdRL.ok h.2]; rfl⟩
instance {α : Type} [Rp α] [Pd α] [PdL α] : PdL (T1 α) := ⟨fun x => PdRL.tx x.row, fun h => PdRL.ok h⟩
instance {α β : Type} [Rp α] [Rp β] [Pd α] [Pd β] [PdL α] [PdL β] : PdL (T2 α β) := ⟨fun x => PdRL.tx x.row, fun h => PdRL.ok h⟩
instance {α β γ : Type} [Rp α] [Rp β] [Rp γ] [Pd α] [Pd β] [Pd γ] [PdL α] [PdL β] [PdL γ] : PdL (T3 α β γ) := ⟨fun x => PdRL.tx x.row, fun h => PdRL.ok h⟩
instance {α β γ δ : Type} [Rp α] [Rp β] [Rp γ] [Rp δ] [Pd α] [Pd β] [Pd γ] [Pd δ] [PdL α] [PdL β] [PdL γ] [PdL δ] : PdL (T4 α β γ δ) := ⟨fun x => PdRL.tx x.row, fun h => PdRL.ok h⟩
instance {α β γ δ ε : Type} [Rp α] [Rp β] [Rp γ] [Rp δ] [Rp ε] [Pd α] [Pd β] [Pd γ] [Pd δ] [Pd ε] [PdL α] [PdL β] [PdL γ] [PdL δ] [PdL ε] : PdL (T5 α β γ δ ε) := ⟨fun x => PdRL.tx x.row, fun h => PdRL.ok h⟩
theorem okD_L {α : Type} [Rp α] [Pd α] [PdS α] [PdL α] {x : α} (h : PdL.tx x) (hd : PdS.dep α ≤ 64 := by decide) : okD x = true := okD_of hd (PdL.ok h)
theorem eqG_L {α : Type} [Rp α] [Pd α] [PdS α] [PdL α] [DecidableEq α] {x y : α} (h1 : PdL.tx x) (h2 : PdL.tx y) (hd : PdS.dep α ≤ 64 := by decide) : eqG x y = some (decide (x = y)) := eqG_ok (okD_L h1 hd) (okD_L h2 hd)
end
end Gx

/-! Gj: records (instances that do not change once they are made). -/
namespace Gx
open PySem PySem.Spec PyProof.Rows L2
open Rp (rp)
open Ra (ra)
open Ob (ob)
section
variable {X : Cx} {K : PySem.W.Frag} {e a b c d : Expr} {es : List Expr} {σ : L2.St} {F H F0 H0 : Hp} {pos : Pos} {D : Ends} {st : Stmt} {rest body : List Stmt}
/-! ### leaving one address out -/
theorem GdT.er {l P : Addr} (a : GdT H P) (h : PlAt H l) : GdT (er H l) P := a.but h fun _ hb => if_neg hb
theorem Gr.over {F' H' : Hp} {l : Addr} (g : Gr F0 H0 F H) (n : H0 l = none) (g' : Gr F (er H l) F' H') (pl : PlAt H l) : Gr F0 H0 F' H' := by
  have lift : ∀ a o, H0 a = some o → ∀ u, H a = some u → er H l a = some u := fun a o h u e => by
    unfold er; rw [if_neg fun z => by rw [z, n] at h; cases h]; exact e
  refine ⟨g.ff.trans g'.ff, g'.fh, ⟨fun a o h ns => g'.hh.k a o (lift a o h _ (g.hh.k a o h ns)) ns, fun a ps h => ?_, fun P a => g'.hh.w P ((g.hh.w P a).er pl)⟩, fun a o h ns => ?_⟩
  · obtain ⟨qs, e⟩ := g.hh.t a ps h
    exact g'.hh.t a qs (lift a _ h _ e)
  · cases o with
    | tbl ps =>
      obtain ⟨qs, e⟩ := g.hh.t a ps h
      rw [g'.fr a _ (lift a _ h _ e) trivial, g.fr a _ h trivial]
    | _ => rw [g'.fr a _ (lift a _ h _ (g.hh.k a _ h trivial)) ns, g.fr a _ h ns]
theorem HasT.er {l : Addr} (h : HasT K F H) (pl : PlAt H l) : HasT K F (er H l) := ⟨fun P hP => ⟨(h.t P hP).1.er pl, (h.t P hP).2⟩⟩
theorem GrX.over {F' H' : Hp} {l : Addr} (g : GrX K F0 H0 F H) (n : H0 l = none) (g' : Gr F (er H l) F' H') (pl : PlAt H l) : GrX K F0 H0 F' H' := ⟨g.toGr.over n g' pl, (g.h.er pl).up g'⟩
theorem Own.over {α : Type} [Rp α] [Ob α] {x : α} {F' H' : Hp} {l l2 : Addr} (o : Own K H0 F H l2 x) (h : l2 ≠ l) (g : Gr F (er H l) F' H') : Own K H0 F' H' l2 x := by
  obtain ⟨u, hl, r⟩ := o.h
  have e : er H l l2 = some u := by unfold er; rw [if_neg h]; exact hl
  exact ⟨o.n, (g.fr l2 u e (Ob.ls r)).trans o.f, u, g.hh.k _ _ e (Ob.pl r).ntb, Ob.mono g.ff r⟩
theorem er_same {l : Addr} : er H l l = none := if_pos rfl
theorem er_ne {l a : Addr} (h : a ≠ l) : er H l a = H a := if_neg h
theorem same_er {l : Addr} (s : L2.Same F H) (f : F l = none) : L2.Same F (er H l) := fun a o h => by
  rw [er_ne (ne_of_none h f)]; exact s a o h
theorem SmX.er {l : Addr} (s : SmX K F H) (f : F l = none) (pl : PlAt H l) : SmX K F (er H l) := ⟨same_er s.s f, s.h.er pl⟩
theorem Xt.start {l : Addr} (_ : PlAt H l) : Xt (er H l) H := .same fun a o h => by
  unfold er at h; split at h
  · cases h
  · exact h
theorem Gr.start {l : Addr} (s : L2.Same F H) (f : F l = none) (pl : PlAt H l) : Gr F (er H l) F H := ⟨.refl _, s, .start pl, fun _ _ _ _ => rfl⟩
/-! ### attributes by places -/
theorem zlook {names : List Str} {vs : List V} {i : Nat} {f : Str} {v : V} (h : names.idxOf f = i) (hi : i < names.length) (hv : vs[i]? = some v) : (names.zip vs).lookup f = some v := by
  induction names generalizing vs i with
  | nil => simp at hi
  | cons n ns ih =>
    cases vs with
    | nil => simp at hv
    | cons w ws =>
      rw [List.zip_cons_cons, List.lookup_cons]
      by_cases e : n = f
      · subst e
        have : i = 0 := by rw [← h, List.idxOf_cons_self]
        subst this
        simp at hv; subst hv; simp
      · have e' : (f == n) = false := beq_eq_false_iff_ne.mpr fun z => e z.symm
        rw [e']
        have hi2 : i = ns.idxOf f + 1 := by
          rw [← h, List.idxOf_cons, beq_eq_false_iff_ne.mpr e]; rfl
        subst hi2
        exact ih rfl (by simpa using hi) (by simpa using hv)
theorem putF_new {f : Str} {v : V} : ∀ {fs : List (Str × V)}, f ∉ fs.map (·.1) → putF f v fs = fs ++ [(f, v)]
  | [], _ => rfl
  | (g, x) :: r, h => by
    rw [List.map_cons, List.mem_cons] at h
    show (if g = f then _ else _) = _
    rw [if_neg (fun e => h (.inl e.symm)), putF_new fun z => h (.inr z)]; rfl
theorem zip_snoc {names : List Str} {vs : List V} {f : Str} {v : V} (h : names.length = vs.length) : names.zip vs ++ [(f, v)] = (names ++ [f]).zip (vs ++ [v]) := by
  rw [List.zip_append h]; rfl
theorem zip_names {names : List Str} {vs : List V} (h : names.length = vs.length) : (names.zip vs).map (·.1) = names := by
  rw [← List.unzip_fst, List.unzip_zip h]
/-- a record at its address -/
def rpI (cn : Str) (names : List Str) {τ : Type} [Ra τ] (K : PySem.W.Frag) (F : Hp) (v : V) (x : τ) : Prop := ∃ a dx vs, v = .ref a ∧ F a = some (.ins (He.ga K cn) dx (names.zip vs)) ∧ ra K F vs x
theorem rpI.mono {cn : Str} {names : List Str} {τ : Type} [Ra τ] {F F' : Hp} {v : V} {x : τ} (s : L2.Same F F') : rpI cn names K F v x → rpI cn names K F' v x := fun ⟨a, dx, vs, e, q, r⟩ => ⟨a, dx, vs, e, s _ _ q, Ra.mono s r⟩
theorem rpI.nn {cn : Str} {names : List Str} {τ : Type} [Ra τ] {F : Hp} {x : τ} : ¬ rpI cn names K F .non x := fun ⟨_, _, _, e, _⟩ => nomatch e
/-- the field fn of a thing θ is g of it -/
def FldOf (K : PySem.W.Frag) {θ α : Type} [Rp θ] [Rp α] (fn : Str) (g : θ → α) : Prop := ∀ F v (d : θ), rp K F v d → ∃ a C dx fs u, v = .ref a ∧ F a = some (.ins C dx fs) ∧ Cls K C ∧ NoAttr K C fn ∧ fs.lookup fn = some u ∧ rp K F u (g d)
theorem ev_attr {θ α : Type} [Rp θ] [Rp α] {fn : Str} {g : θ → α} {x : θ} (f : FldOf X.K fn g) (h : Ev X e σ F H x) (hb : attributeBase e fn X.env (eval e X.env) = eval e X.env := by rfl) : Ev X (.Attribute e fn pos) σ F H (g x) := fun F1 H1 gr Q q =>
  GoE.of (pe_fld pe_go hb) (h F1 H1 gr _ fun v F2 H2 g2 r2 => by
    obtain ⟨a, C, dx, fs, u, e, hF, c, na, l, r⟩ := f F2 v x r2
    exact ⟨a, C, dx, fs, u, e, g2.fh _ _ hF, c, na, l, q u F2 H2 g2 r⟩)
/-! ### making -/
/-- the promise of an __init__ that stores its fields in order -/
def PrI (K : PySem.W.Frag) (C : Addr) (names : List Str) {τ ρ : Type} [Ra τ] [Ra ρ] (f : τ → Option ρ) : Sp := fun vs H Q _ => ∃ F x dx args a r, vs = .ref x :: args ∧ SmX K F H ∧ F x = none ∧ H x = some (.ins C dx []) ∧ ra K F args a ∧ f a = some r ∧
  ∀ F' H' ws, Gr F (er H x) F' H' → F' x = none → H' x = some (.ins C dx (names.zip ws)) → ra K F' ws r → Q .non H'
/-- a store to a field of the new instance -/
theorem go_fld {α : Type} [Rp α] {x : Addr} {y : α} {C dx : Addr} {names : List Str} {vs : List V} {fn n : Str} {p1 p2 : Pos} (i : Nat) (s : SmX X.K F H) (fx : F x = none) (hx : H x = some (.ins C dx (names.zip vs))) (hl : names.length = vs.length) (hn : names.length < 1000) (hf : fn ∉ names) (c : Cls X.K C) (na : NoAttr X.K C fn)
    (hσ : σ[i]? = some (some (.ref x))) (he : Ev X e σ F H y) (k : ∀ v F' H', Gr F H F' H' → rp X.K F' v y → F' x = none → H' x = some (.ins C dx (names.zip vs)) → GoS X rest D σ (upd H' x (.ins C dx ((names ++ [fn]).zip (vs ++ [v]))))) (hN : X.N[i]? = some n := by rfl) (hv : Vis X.env.scope n := by first | exact Or.inl rfl | exact Or.inr (Or.inl rfl) | exact Or.inr (Or.inr rfl))
    (hd : (n == ("__debug__" : Str)) = false := by decide) (hcd : (n == ("__classdict__" : Str)) = false := by decide) (hs : swapsWith e (some (.Attribute (.Name n p1) fn p2)) pos.line X.env = pure false := by rfl) : GoS X (.Assign [.Attribute (.Name n p1) fn p2] e pos :: rest) D σ H :=
  GoS.cons (ps_fld (pe_var hN hv hd hcd) pe_go hs) (he F H (.refl s) _ fun v F2 H2 g2 r2 => by
    have h2 := g2.hh.k _ _ hx trivial
    refine ⟨_, hσ, x, C, dx, _, rfl, h2, c, na, ?_, ?_⟩
    · rw [List.length_zip]; omega
    · rw [putF_new (by rw [zip_names hl]; exact hf), zip_snoc hl]
      exact k v F2 H2 g2 r2 ((g2.fr x _ hx trivial).trans fx) h2)
/-- .. over the whole def -/
theorem fn_init {P : Program} {w : World} {mg : Str → Option Value} {base : Heap} {τ ρ : Type} [Ra τ] [RaN τ] [Ra ρ] {f : τ → Option ρ} {C : Addr} {names : List Str} {x qual : Str} {s0 : Stmt} {fa : Addr} {fd : FuncData} {N ps : List Str} {k : Nat} (Fn : FunD K x qual (defArgs s0) (defBody s0) (defScope s0) [] [] fa fd) (S : FnScope N ps (defScope s0)) (hn : RaN.n τ + 1 = ps.length)
    (hbody : ∀ (cdv : Value) (A : Around) (outer : List Env) (s : Shared) (F H : Hp) (y dx : Addr) (vs : List V) (a : τ) (r : ρ) (D : Ends) (E : XK), Room k (A.deeper (envOfC qual (defScope s0) s.heap.objs.size fa cdv)) → GrX K F (er H y) F H → F y = none → H y = some (.ins C dx []) → ra K F vs a → f a = some r →
      (∀ σ' F' H' ws, GrX K F (er H y) F' H' → F' y = none → H' y = some (.ins C dx (names.zip ws)) → ra K F' ws r → D.nx σ' H') → GoS (cxOf CX0 P w K mg base N qual (defScope s0) fa cdv A outer s H E).nox (defBody s0) D (start N (.ref y :: vs)) H) :
    FnOk P w K mg base CX0 (k + 1) fa fd ps (PrI K C names f) := by
  refine Fn.ok S (fun vs H Q E ⟨F, y, dx, args, a, r, e, _, _, _, ra', _⟩ => by rw [e, List.length_cons, RaN.len ra', hn]) fun cdv A outer s H vs Q E hr ⟨F, y, dx, args, a, r, e, sm, fy, hy, ra', hf, k⟩ => ?_
  subst e
  exact ⟨_, PSs.nox pss_go, hbody cdv A outer s F H y dx args a r { nx := fun _ H' => Q .non H', rt := Q } E hr ⟨Gr.start sm.s fy ⟨_, hy, trivial⟩, sm.h⟩ fy hy ra' hf fun σ' F' H' ws g f' h' r' => k F' H' ws g.toGr f' h' r'⟩
theorem ev_make {θ τ ρ : Type} [Rp θ] [Ra τ] [Ra ρ] {f : τ → Option ρ} {names : List Str} {y : τ} {r : ρ} {z : θ} {k : Nat} {fa : Addr} {fd : FuncData} {ps : List Str} {x cn : Str} {p : Pos} (rep : ∀ F v, rpI cn names X.K F v r → rp X.K F v z) (M : Mk X.K (He.ga X.K cn) fa) (Fn : FnOk X.prog X.w X.K X.mg X.base CX0 k fa fd ps (PrI X.K (He.ga X.K cn) names f)) (hr : Room (k + 1) X.A)
    (hm : X.mg x = some (.ref (He.ga X.K cn))) (hb : Binds X.K fd ps []) (ha : EvA X (e :: es) σ F H y) (h : f y = some r) (hg : Gl X x := by rfl) (hdb : (x == ("__debug__" : Str)) = false := by decide)
    (he : starEach (e :: es) X.env = (false, eval e X.env) :: starEach es X.env := by rfl) (hpl : (backTo pos (starEach es X.env)).any (·.1) = false := by rfl) : Ev X (.Call (.Name x p) (e :: es) [] pos) σ F H z := fun F1 H1 g Q q =>
  GoE.of (pe_make M Fn hr hg hm hb .nil pass0 pa_go hdb he hpl) (ha F1 H1 g _ fun vs F2 H2 g2 r2 => by
    intro o dx ho hdx hne
    have so : H2 dx = none := hdx
    have g3 : Gr F2 H2 (upd F2 dx (.own o)) (upd H2 dx (.own o)) := Gr.new g2.fh hdx trivial
    have ho3 : upd H2 dx (.own o) o = none := by rw [upd_ne (fun z => hne z.symm)]; exact ho
    have fo3 : upd F2 dx (.own o) o = none := by rw [upd_ne (fun z => hne z.symm)]; exact g2.fh.free ho
    have g4 := Gr.newP (o := .ins (He.ga X.K cn) dx []) g3.fh ho3 trivial
    refine ⟨upd F2 dx (.own o), o, dx, vs, y, r, by rw [List.append_nil], (g.trans g2).sm.up (g3.trans g4), fo3, upd_same, Ra.mono g3.ff r2, h, fun F' H' ws g5 f5 h5 r5 => ⟨rfl, ?_⟩⟩
    have g6 : Gr F1 H1 F' H' := (((g2.trans g3).trans g4)).over (g2.hh.free ho) g5 ⟨_, upd_same, trivial⟩
    have g7 := g6.freeze (o := .ins (He.ga X.K cn) dx (names.zip ws)) (g2.hh.free ho) f5 ⟨_, h5, trivial⟩ trivial
    have e7 : upd H' o (.ins (He.ga X.K cn) dx (names.zip ws)) = H' := by
      funext b
      by_cases hb : b = o
      · rw [hb, upd_same, h5]
      · rw [upd_ne hb]
    rw [e7] at g7
    exact q (.ref o) _ H' g7 (rep _ _ ⟨o, dx, ws, rfl, upd_same, Ra.mono (same_upd f5) r5⟩))
end
end Gx

/-! Gk: a private thing read while a new one is made by a statement; products of lists and tuples. -/
namespace Gx
open PySem PySem.Spec PyProof.Rows L2
open Rp (rp)
open Ra (ra)
open Ob (ob)
section
variable {X : Cx} {K : PySem.W.Frag} {e a b c d : Expr} {es : List Expr} {σ : L2.St} {F H F0 H0 : Hp} {pos : Pos} {D : Ends} {st : Stmt} {rest body : List Stmt}
theorem GoS.lockedU {sts : List Stmt} {l : Addr} {o : HO} (hl : H l = some o) (mu : Mut (some o)) (h : ∀ od, (∀ o' u', X.H_0 l ≠ some (.frz o' u')) → GoS X sts D σ (upd H l (.frz od o))) : GoS X sts D σ H := .mk fun pins s I => by
  obtain ⟨od, I1⟩ := I.lock hl mu
  exact (h od (I.nofrz hl mu)).o pins s I1
theorem GoS.unlocked {sts : List Stmt} {l : Addr} {od : Obj} {o : HO} (hl : H l = some (.frz od o)) (hn : ∀ o' u', X.H_0 l ≠ some (.frz o' u')) (h : GoS X sts D σ (upd H l o)) : GoS X sts D σ H := .mk fun pins s I => h.o pins s (I.unlock hl hn)
/-- a statement that makes a new thing and reads a private one -/
theorem go_thawN {α β : Type} [Rp α] [Ob α] [FlatO α] [Rp β] [Ob β] {xs : α} {y : β} {l : Addr} {stm : Stmt} {τ : Addr → L2.St} (o : Own X.K H0 F H l y) (s : SmX X.K F H)
    (run : ∀ F' H', L2.Same F F' → SmX X.K F' H' → rp X.K F' (.ref l) y → (∀ a, a ≠ l → F' a = F a ∧ H' a = H a) →
      (∀ l2 o2 F2 H2, Gr F' H' F2 H2 → H' l2 = none → F2 l2 = none → H2 l2 = some o2 → ob X.K F2 o2 xs → GoS X rest D (τ l2) H2) → GoS X (stm :: rest) D σ H')
    (k : ∀ l2 o2 F2 H2, Gr F H F2 H2 → H l2 = none → F2 l2 = none → H2 l2 = some o2 → ob X.K F2 o2 xs → GoS X rest D (τ l2) H2) : GoS X (stm :: rest) D σ H := by
  obtain ⟨u, hl, r⟩ := o.h
  refine GoS.lockedU hl (Ob.mu r) fun od hn => ?_
  refine run _ _ (same_upd o.f) ⟨shown s.s, (s.h.upd (u := .frz od u) o.pl trivial).2⟩ (Ob.fz upd_same (Ob.mono (same_upd o.f) r)) (fun a ha => ⟨upd_ne ha, upd_ne ha⟩) fun l2 o2 F2 H2 g2 n2 f2 h2 r2 => ?_
  have e2 : F2 l = some (.frz od u) := g2.ff _ _ upd_same
  obtain ⟨n1, n2'⟩ := frz_no e2 (Ob.ls r)
  have hne : l2 ≠ l := fun e => by rw [e, upd_same] at n2; cases n2
  refine GoS.unlocked (g2.fh _ _ e2) hn (k l2 o2 (er F2 l) _ (Gr.hide hl o.f (Ob.pl r) g2) (by rw [upd_ne hne] at n2; exact n2) ?_ (by rw [upd_ne hne]; exact h2) (FlatO.fl n1 n2' r2))
  rw [er_ne hne]; exact f2
/-! ### products -/
theorem Rps.rep {α : Type} [Rp α] {vs : List V} {xs : List α} (r : Rps K F vs xs) : ∀ n : Nat, Rps K F (List.replicate n vs).flatten (List.replicate n xs).flatten
  | 0 => .nil
  | n + 1 => by
    rw [List.replicate_succ, List.replicate_succ, List.flatten_cons, List.flatten_cons]
    exact Rps.append r (Rps.rep r n)
def mulL {α : Type} (xs : List α) (n : Int) : Option (List α) := if -1000000 ≤ n ∧ n ≤ 1000000 ∧ xs.length * n.toNat ≤ 16777216 then some (List.replicate n.toNat xs).flatten else none
def mulT {α : Type} (xs : Tp α) (n : Int) : Option (Tp α) := if -1000 ≤ n ∧ n ≤ 1000 ∧ xs.l.length ≤ 1000 ∧ xs.l ≠ [] then some ⟨(List.replicate n.toNat xs.l).flatten⟩ else none
theorem tuple_mul1 (l : Addr) (items : Array Value) (n : Nat) (dd : Option Addr) (sl : Array (Option Value)) (u : Tok) :
    Meets (Builtin.«tuple.__mul__» ⟨[.ref l, .int 1 u], []⟩) (fun _ R s => s.heap.get? l = some { cls := .type "tuple", dict := dd, data := .seq items n, slots := sl } ∧ R (.ok (.ret (Value.ref l))) s) :=
  .of_wp fun prog w A R s h => by
    obtain ⟨hp, g, d, tk, os⟩ := s
    obtain ⟨hl, h⟩ := h
    have f1 := AutoSeq1.idx_int
    have c1 : (items.isEmpty || (1 : Int) == 1) = true := by simp
    wp_walk using wpAny_loadPart' hl
    repeat (first
      | (refine wpAny_ite_true (decide_eq_true c1) ?_; wp_walk using wpAny_loadPart' hl)
      | (refine wpAny_ite_true c1 ?_; wp_walk using wpAny_loadPart' hl)
      | (refine wpAny_ite_false (by decide) ?_; wp_walk using wpAny_loadPart' hl))
    exact ⟨_, rfl, h⟩
theorem tuple_mul0 (l : Addr) (items : Array Value) (n : Nat) (dd : Option Addr) (sl : Array (Option Value)) (x : Int) (u : Tok) (c0 : (decide (x < -(2 ^ 63)) || decide (x ≥ 2 ^ 63)) = false) (c1 : (items.isEmpty || x == 1) = false) (c2 : (decide (x ≤ 0) || items.isEmpty) = true) :
    Meets (Builtin.«tuple.__mul__» ⟨[.ref l, .int x u], []⟩) (fun _ R s => s.heap.get? l = some { cls := .type "tuple", dict := dd, data := .seq items n, slots := sl } ∧ R (.ok (.ret (Value.ref s.heap.objs.size))) { s with heap := s.heap.push { cls := Value.type "tuple", data := Data.seq #[] }, toks := s.toks }) :=
  .of_wp fun prog w A R s h => by
    obtain ⟨hp, g, d, tk, os⟩ := s
    obtain ⟨hl, h⟩ := h
    have f1 := AutoSeq1.idx_int
    have sz : ¬ (sizeLine < (#[] : Array Value).size) := Nat.not_lt_zero _
    wp_walk using wpAny_loadPart' hl
    repeat (first
      | (refine wpAny_ite_false (decide_eq_false (by rw [c0]; exact Bool.false_ne_true)) ?_; wp_walk using wpAny_loadPart' hl)
      | (refine wpAny_ite_false (decide_eq_false (by rw [c1]; exact Bool.false_ne_true)) ?_; wp_walk using wpAny_loadPart' hl)
      | (refine wpAny_ite_true (decide_eq_true c2) ?_; wp_walk using wpAny_loadPart' hl)
      | (refine wpAny_ite_true c2 ?_; wp_walk using wpAny_loadPart' hl)
      | (refine wpAny_ite_false (decide_eq_false sz) ?_; wp_walk using wpAny_loadPart' hl))
    exact ⟨_, rfl, h⟩
def rMulT (K : PySem.W.Frag) : R2 := fun x y H Q => ∃ l k xs, x = .ref l ∧ y = .int k ∧ SqT K H l xs ∧ xs ≠ [] ∧ -1000 ≤ k ∧ k ≤ 1000 ∧ xs.length ≤ 1000 ∧ (k = 1 → Q (.ref l) H) ∧ (k ≠ 1 → ∀ p, H p = none → Q (.ref p) (upd H p (.tup (List.replicate k.toNat xs).flatten)))
theorem op_mulT : OpR X (binaryOp .Mult) (rMulT X.K) := fun pins s σ H x y v u Q I rx ry ⟨l, k, xs, e1, e2, hT, hne, k1, k2, hz, q1, q2⟩ => by
  by_cases h1 : k = 1
  · subst h1; subst e1; subst e2
    have q := q1 rfl
    cases rx
    obtain ⟨t, rfl⟩ := ry
    obtain ⟨its, r, ⟨⟨cls, dd, data, sl⟩, ho, hc, n, hd⟩, hs⟩ := I.tuple hT
    simp only at hc hd
    subst hc hd
    exact wpAny_binaryOp_repeat_ref (T := "tuple") (U := "int") (by decide) ⟨_, ho, rfl⟩ (fun s' => typeIs_int s' 1 t) noFill_tuple_mul F.fills_int_mul F.slot_int_rmul repeat_tuple F.slot_int_index.lookup
      (call_meets F.slot_int_rmul (typeIs_int s 1 t) F.entry_int_rmul (F.args_int_rmul_2 _ _) (int_rmul_tuple 1 t l its.toArray n dd sl)
        ⟨ho, rfl, ⟨_, ho, rfl⟩, call_meets F.slot_tuple_mul ⟨_, ho, rfl⟩ F.entry_tuple_mul (F.args_tuple_mul_2 _ _) (tuple_mul1 l its.toArray n dd sl t) ⟨ho, ⟨.ref l, H, I.tok _, rfl, q⟩⟩⟩)
  · by_cases h2 : 2 ≤ k
    · exact op_repT pins s σ H x y v u Q I rx ry ⟨l, k, xs, e1, e2, hT, hne, h2, k2, hz, q2 h1⟩
    · subst e1; subst e2
      have q := q2 h1
      cases rx
      obtain ⟨t, rfl⟩ := ry
      obtain ⟨its, r, ⟨⟨cls, dd, data, sl⟩, ho, hc, n, hd⟩, hs⟩ := I.tuple hT
      simp only at hc hd
      subst hc hd
      have hi : its.toArray.isEmpty = false := by
        cases its with
        | nil => exact absurd (List.eq_nil_of_length_eq_zero (by rw [r.length]; rfl)) hne
        | cons a b => rfl
      have c0 : (decide (k < -(2 ^ 63)) || decide (k ≥ 2 ^ 63)) = false := by
        rw [decide_eq_false (by omega), decide_eq_false (by omega)]; rfl
      have c1 : (its.toArray.isEmpty || k == 1) = false := by
        rw [hi, beq_eq_false_iff_ne.mpr h1]; rfl
      have c2 : (decide (k ≤ 0) || its.toArray.isEmpty) = true := by
        rw [decide_eq_true (by omega)]; rfl
      have e0 : (List.replicate k.toNat xs).flatten = [] := by
        rw [show k.toNat = 0 by omega]; rfl
      rw [e0] at q
      have fr : H s.heap.objs.size = none := I.hok.fresh (Nat.le_refl _)
      exact wpAny_binaryOp_repeat_ref (T := "tuple") (U := "int") (by decide) ⟨_, ho, rfl⟩ (fun s' => typeIs_int s' k t) noFill_tuple_mul F.fills_int_mul F.slot_int_rmul repeat_tuple F.slot_int_index.lookup
        (call_meets F.slot_int_rmul (typeIs_int s k t) F.entry_int_rmul (F.args_int_rmul_2 _ _) (int_rmul_tuple k t l its.toArray n dd sl)
          ⟨ho, rfl, ⟨_, ho, rfl⟩, call_meets F.slot_tuple_mul ⟨_, ho, rfl⟩ F.entry_tuple_mul (F.args_tuple_mul_2 _ _) (tuple_mul0 l its.toArray n dd sl k t c0 c1 c2) ⟨ho, ⟨.ref s.heap.objs.size, upd H s.heap.objs.size (.tup []),
            I.laid (t' := s.toks) (fun b o e => Heap.get?_push_of_some _ e) (Nat.le_refl _) (show ObjOk X.prog X.w _ _ _ (.tup []) from ⟨Nat.zero_le _, [], .nil, IsTup.new _ _⟩), rfl, q _ fr⟩⟩⟩)
theorem ev_mulT {α : Type} [Rp α] {xs r : Tp α} {n : Int} (ha : Ev X a σ F H xs) (hb : Ev X b σ F H n) (h : mulT xs n = some r) : Ev X (.BinOp a .Mult b pos) σ F H r := ev_bin (α := Tp α) (β := Int) (γ := Tp α) op_mulT (fun F H v w Q s rv rw' k => by
  obtain ⟨p, vs, e, sq, rs⟩ := rv
  unfold mulT at h
  split at h
  case isFalse => cases h
  rename_i hz
  cases (Option.some.inj h)
  refine ⟨p, n, vs, e, rw', seqT_mono s sq, fun z => hz.2.2.2 (rs.nil_r.mp z), hz.1, hz.2.1, by rw [rs.length]; exact hz.2.2.1, fun h1 => ?_, fun h2 l hl => ?_⟩
  · subst h1
    refine k _ F H (.refl s) ⟨p, vs, rfl, sq, ?_⟩
    show Rps X.K F vs (List.replicate 1 xs.l).flatten
    rw [show (List.replicate 1 xs.l).flatten = xs.l by simp]; exact rs
  · exact k _ (upd F l (.tup _)) _ (Gr.new s hl) ⟨l, _, rfl, upd_same, (rs.rep _).mono (same_upd (s.free hl))⟩) ha hb
theorem en_mulL {α : Type} [Rp α] {xs r : List α} {n : Int} (ha : EvN X a σ F H xs) (hb : Ev X b σ F H n) (h : mulL xs n = some r) : EvN X (.BinOp a .Mult b pos) σ F H r := fun F1 H1 g Q q =>
  GoE.of (pe_op op_rep pe_go pe_go) (ha F1 H1 g _ fun l o F2 H2 g2 n2 f2 h2 ⟨vs, e, rs⟩ => hb F2 H2 (g.trans g2) _ fun w F3 H3 g3 r3 => by
    unfold mulL at h
    split at h
    case isFalse => cases h
    rename_i hz
    cases (Option.some.inj h)
    subst e
    refine ⟨l, n, vs, rfl, r3, g3.hh.k _ _ h2 (Ob.pl ‹_›).ntb, Int.le_trans (by decide) hz.1, Int.lt_of_le_of_lt hz.2.1 (by decide), by rw [rs.length, sizeLine_eq]; exact hz.2.2, fun p hp => EvN.new q (g2.trans g3) hp ((rs.mono g3.ff).rep _)⟩)
theorem mulT_p {α : Type} {xs : Tp α} {n : Int} (h : 1 ≤ n ∧ n ≤ 1000 ∧ xs.l.length ≤ 1000 ∧ xs.l ≠ []) : mulT xs n = some ⟨(List.replicate n.toNat xs.l).flatten⟩ := if_pos ⟨by omega, h.2⟩
theorem mulT_z {α : Type} {xs : Tp α} {n : Int} (h : -1000 ≤ n ∧ n ≤ 1000 ∧ xs.l.length ≤ 1000 ∧ xs.l ≠ []) : mulT xs n = some ⟨(List.replicate n.toNat xs.l).flatten⟩ := if_pos h
theorem mulL_p {α : Type} {xs : List α} {n : Int} (h : -1000000 ≤ n ∧ n ≤ 1000000 ∧ xs.length * n.toNat ≤ 16777216) : mulL xs n = some (List.replicate n.toNat xs).flatten := if_pos h
end
end Gx

/-! Gl: lists of dicts, rows taken apart. -/
namespace Gx
open PySem PySem.Spec PyProof.Rows L2
open Rp (rp)
open Ra (ra)
open Ob (ob)
section
variable {X : Cx} {K : PySem.W.Frag} {e a b c d : Expr} {es : List Expr} {σ : L2.St} {F H F0 H0 : Hp} {pos : Pos} {D : Ends} {st : Stmt} {rest body : List Stmt}
def tListVals (te : TE) : TE := fun σ H Q => te σ H fun x H1 => ∃ d kvs, x = .ref d ∧ Rd H1 d (.dK kvs) ∧ ∀ p, H1 p = none → Q (.ref p) (upd H1 p (.lst (kvs.map (·.2))))
theorem vals_snd : ∀ {kvs : List (Key × V)} {vs : List (Key × Value)}, KV kvs vs → Vals (kvs.map (·.2)) (vs.map (·.2))
  | _, _, .nil => .nil
  | _, _, .cons h t => .cons h.2 (vals_snd t)
theorem pe_listVals {te : TE} {p apos cpos : Pos} (hc : X.calm = true) (he : PE X e te) (hg : Gl X "list") (hm : X.mg "list" = none) (hv : bootBuiltins "list" = some (.type "list")) (hbase : attributeBase e "values" X.env (eval e X.env) = eval e X.env := by rfl) (hline : (apos.endLine == cpos.line) = true := by rfl)
    (hs : starEach [.Call (.Attribute e "values" apos) [] [] cpos] X.env = (false, eval (.Call (.Attribute e "values" apos) [] [] cpos) X.env) :: starEach [] X.env := by rfl) :
    PE X (.Call (.Name "list" p) [.Call (.Attribute e "values" apos) [] [] cpos] [] pos) (tListVals te) := by
  refine ⟨fun pins s σ H Q I hq => ?_⟩
  refine wpAny_Call_Name_kw (ld_blt I hg hm hv ?_)
  refine PyProof.Rows.callWith_type1 ?_ hs rfl
  rw [hs]
  show wpAny _ _ (spliced ((false, eval (.Call (.Attribute e "values" apos) [] [] cpos) X.env) :: backTo pos (starEach [] X.env))) _ _ s
  refine Calls.spliced_cons ?_
  refine wpAny_Call_method (T := "dict") (id := "dict.values") hbase rfl hline F.plainAttrs_dict F.slot_dict_values F.type_dict_values (thn (he.run pins s σ H _ I hq) fun u s1 ⟨x, H1, I1, rx, d, kvs, ex, hd, q⟩ => ?_)
  subst ex
  obtain rfl : u = Value.ref d := rx
  obtain ⟨hz, hs0, vs, kv, hdo⟩ := dk_rd I1.hok hd
  obtain ⟨ep, hat⟩ := hdo.dictAt
  have lk : kvs.length = vs.length := Paired.length kv
  have I2 : Inv X pins σ H1 { s1 with heap := s1.heap.push { cls := .type "dict_values", data := .fields #[.ref d] } } := I1.kept (t' := s1.toks) fun b ob q => Heap.get?_push_of_some _ q
  refine ⟨hdo.typeIs, hdo.mapOf.noDict, ?_⟩
  show wpAny _ _ (callWith cpos (.builtin "dict.values") [.ref d] [] []) _ X.xe s1
  refine method_meetsIn F.slot_dict_values F.entry_dict_values rfl (PySem.evalArgs_none ⟨rfl, hdo.typeIs, F.args_dict_values_1 _, _, meets_dict_values (mixKind X.prog X.w) d hs0, ⟨vs, hdo⟩, ?_⟩)
  refine Calls.spliced_nil ?_
  refine PySem.W.kdl_call (PySem.W.kdl_values (knd := mixKind X.prog X.w) (kvs := vs) (ep := ep)) (I1.ok.hd hc) ⟨⟨_, Heap.get?_push_size _ rfl, rfl, rfl⟩, hat.push _⟩ (by omega) fun h' tk acc c' hk hD hacc => ?_
  have ev : acc.toList = vs.map (·.2) := PySem.W.kdl_vals_eq _ (by rw [Array.length_toList]; exact hacc.1) fun j v e => hacc.2 j v (by rw [← Array.getElem?_toList]; exact e)
  refine ⟨.ref _, _, I2.laid (t' := tk) hk (Nat.le_refl _) (show ObjOk X.prog X.w _ _ _ (.lst (kvs.map (·.2))) from ⟨by rw [List.length_map]; exact hz, acc.toList, c', by rw [ev]; exact vals_snd kv, by rw [Array.toArray_toList]; exact hD⟩), rfl, q _ (I2.hok.fresh (Nat.le_refl _))⟩
theorem KR.vals {κ ν : Type} [Rp ν] : ∀ {kvs : List (κ × V)} {l : List (κ × ν)}, KR K F kvs l → Rps K F (kvs.map (·.2)) (l.map (·.2))
  | _, _, .nil => .nil
  | _, _, .cons h t => .cons h.2 (KR.vals t)
theorem KR.keysS {κ ν : Type} [Rp κ] [KeyS κ] [Rp ν] : ∀ {kvs : List (κ × V)} {l : List (κ × ν)}, KR K F kvs l → Rps K F ((kvm KeyS.g kvs).map fun kv => kV kv.1) (l.map (·.1))
  | _, _, .nil => .nil
  | _, _, .cons (a := p) (b := q) h t => .cons (KeyS.rpg.mpr (by show kV (KeyS.g p.1) = kV (KeyS.g q.1); rw [h.1])) (KR.keysS t)
section
variable {κ ν : Type} [Rp κ] [DecidableEq κ] [KeyS κ] [Rp ν]
theorem kvm_vals (kvs : List (κ × V)) : (kvm KeyS.g kvs).map (·.2) = kvs.map (·.2) := by unfold kvm; rw [List.map_map]; rfl
theorem en_listVals {m : Dct κ ν} {p apos cpos : Pos} (hm : X.mg "list" = none) (ha : Ev X a σ F H m) (hc : X.calm = true := by rfl) (hg : Gl X "list" := by rfl) (hbase : attributeBase a "values" X.env (eval a X.env) = eval a X.env := by rfl) (hline : (apos.endLine == cpos.line) = true := by rfl)
    (hs : starEach [.Call (.Attribute a "values" apos) [] [] cpos] X.env = (false, eval (.Call (.Attribute a "values" apos) [] [] cpos) X.env) :: starEach [] X.env := by rfl) : EvN X (.Call (.Name "list" p) [.Call (.Attribute a "values" apos) [] [] cpos] [] pos) σ F H m.vals := fun F1 H1 g Q q =>
  GoE.of (pe_listVals hc pe_go hg hm (by decide +kernel) hbase hline hs) (ha F1 H1 g _ fun v F2 H2 g2 r2 => by
    obtain ⟨p, o, kvs, e, hq, kr⟩ := r2
    refine ⟨p, _, e, .inr ⟨o, g2.fh _ _ hq⟩, fun l hl => ?_⟩
    rw [kvm_vals]
    exact EvN.new q g2 hl kr.vals)
theorem en_listKeys {m : Dct κ ν} {p : Pos} (hm : X.mg "list" = none) (ha : Ev X a σ F H m) (hc : X.calm = true := by rfl) (hg : Gl X "list" := by rfl) (hs : starEach [a] X.env = (false, eval a X.env) :: starEach [] X.env := by rfl) (hpl : (backTo pos (starEach [] X.env)).any (·.1) = false := by rfl) :
    EvN X (.Call (.Name "list" p) [a] [] pos) σ F H m.keys := fun F1 H1 g Q q =>
  GoE.of (pe_callTy (call_listD hc) hg hm (by decide +kernel) (pa_cons pe_go pa_nil hs) (by decide) (by decide) hs hpl) (ha F1 H1 g _ fun v F2 H2 g2 r2 => by
    obtain ⟨p, o, kvs, e, hq, kr⟩ := r2
    exact ⟨p, _, by rw [e], .inr ⟨o, g2.fh _ _ hq⟩, fun l hl => EvN.new q g2 hl kr.keysS⟩)
end
theorem ev_tup5 {α β γ δ ε : Type} [Rp α] [Rp β] [Rp γ] [Rp δ] [Rp ε] {x : α} {y : β} {z : γ} {u : δ} {w : ε} {k : Nat} (h : EvA X es σ F H (x, y, z, u, w, ())) : Ev X (.Tuple es k pos) σ F H (T5.mk x y z u w) := ev_tup (θ := T5 α β γ δ ε) h (by show 5 ≤ sizeLine; decide)
/-! ### rows of a known length -/
def to2 {α : Type} : List α → Option (T2 α α)
  | [x, y] => some ⟨x, y⟩
  | _ => none
def to3 {α : Type} : List α → Option (T3 α α α)
  | [x, y, z] => some ⟨x, y, z⟩
  | _ => none
theorem ev_to2 {α : Type} [Rp α] {xs : Tp α} {r : T2 α α} (h : Ev X e σ F H xs) (hr : Gx.to2 xs.l = some r) : Ev X e σ F H r := h.re fun F v r2 => by
  obtain ⟨xs⟩ := xs
  match xs, hr, r2 with
  | [x, y], hr, ⟨a, vs, e, q, rs⟩ =>
    cases hr
    cases rs with
    | cons r1 t => cases t with
      | cons r2 t => cases t; exact ⟨a, _, e, q, _, _, rfl, r1, _, _, rfl, r2, rfl⟩
theorem ev_to3 {α : Type} [Rp α] {xs : Tp α} {r : T3 α α α} (h : Ev X e σ F H xs) (hr : Gx.to3 xs.l = some r) : Ev X e σ F H r := h.re fun F v r2 => by
  obtain ⟨xs⟩ := xs
  match xs, hr, r2 with
  | [x, y, z], hr, ⟨a, vs, e, q, rs⟩ =>
    cases hr
    cases rs with
    | cons r1 t => cases t with
      | cons r2 t => cases t with
        | cons r3 t => cases t; exact ⟨a, _, e, q, _, _, rfl, r1, _, _, rfl, r2, _, _, rfl, r3, rfl⟩
end
end Gx

/-! Gp: loops over ranges, plainly. -/
namespace Gx
open PySem PySem.Spec PyProof.Rows L2
section
variable {α β γ ρ : Type}
theorem intsF_cons (k n : Nat) : intsF (k : Int) (n + 1) = (k : Int) :: intsF ((k + 1 : Nat) : Int) n := by rw [intsF_succ]; rfl
theorem Ok.range_aux {st : β → Int → Option β} {Q : β → Prop} (J : Nat → β → Prop) (n : Nat) (hs : ∀ k b, k < n → J k b → Ok (st b (k : Int)) fun b' => J (k + 1) b') (hq : ∀ b, J n b → Q b) : ∀ (m k : Nat) (b : β), k + m = n → J k b → Ok (Gx.loopN st b (intsF (k : Int) m)) Q
  | 0, k, b, e, h => ⟨b, rfl, hq b (by have : k = n := by omega
                                       exact this ▸ h)⟩
  | m + 1, k, b, e, h => by
    obtain ⟨b', e1, h1⟩ := hs k b (by omega) h
    rw [intsF_cons, loopN_cons e1]
    exact Ok.range_aux J n hs hq m (k + 1) b' (by omega) h1
/-- a loop over range(n) -/
theorem Ok.range {st : β → Int → Option β} {n : Nat} {b : β} {Q : β → Prop} (J : Nat → β → Prop) (h0 : J 0 b) (hs : ∀ k b, k < n → J k b → Ok (st b (k : Int)) fun b' => J (k + 1) b') (hq : ∀ b, J n b → Q b) : Ok (Gx.loopN st b (intsF 0 n)) Q :=
  Ok.range_aux J n hs hq n 0 b (by omega) h0
theorem Ok.rangeM_aux {st : β → Int → Option (Lp β ρ)} {Q : Lp β ρ → Prop} (J : Nat → β → Prop) (n : Nat) (hs : ∀ k b, k < n → J k b → Ok (st b (k : Int)) fun o => match o with | .nx b' => J (k + 1) b' | .bk b' => Q (.bk b') | .rt r => Q (.rt r)) (hq : ∀ b, J n b → Q (.nx b)) : ∀ (m k : Nat) (b : β), k + m = n → J k b → Ok (Gx.loopM st b (intsF (k : Int) m)) Q
  | 0, k, b, e, h => ⟨.nx b, rfl, hq b (by have : k = n := by omega
                                           exact this ▸ h)⟩
  | m + 1, k, b, e, h => by
    obtain ⟨o, e1, h1⟩ := hs k b (by omega) h
    rw [intsF_cons]
    cases o with
    | nx b' => rw [loopM_nx e1]; exact Ok.rangeM_aux J n hs hq m (k + 1) b' (by omega) h1
    | bk b' => exact ⟨.bk b', by rw [Gx.loopM, e1], h1⟩
    | rt r => exact ⟨.rt r, by rw [Gx.loopM, e1], h1⟩
theorem Ok.rangeM {st : β → Int → Option (Lp β ρ)} {n : Nat} {b : β} {Q : Lp β ρ → Prop} (J : Nat → β → Prop) (h0 : J 0 b) (hs : ∀ k b, k < n → J k b → Ok (st b (k : Int)) fun o => match o with | .nx b' => J (k + 1) b' | .bk b' => Q (.bk b') | .rt r => Q (.rt r)) (hq : ∀ b, J n b → Q (.nx b)) : Ok (Gx.loopM st b (intsF 0 n)) Q :=
  Ok.rangeM_aux J n hs hq n 0 b (by omega) h0
/-- a loop over range(n) that appends a few things each time -/
theorem loopN_flat {st : List γ → Int → Option (List γ)} (g : Nat → List γ) (n : Nat) (h : ∀ k < n, st ((List.range k).flatMap g) (k : Int) = some ((List.range k).flatMap g ++ g k)) : Gx.loopN st [] (intsF 0 n) = some ((List.range n).flatMap g) := by
  refine Ok.eq (Ok.range (fun k b => b = (List.range k).flatMap g) rfl (fun k b hk e => ?_) fun b e => e)
  subst e
  refine .of (h k hk) ?_
  rw [List.range_succ, List.flatMap_append, List.flatMap_cons, List.flatMap_nil, List.append_nil]
theorem flat_len {g : Nat → List γ} {m : Nat} (h : ∀ k, (g k).length = m) : ∀ n, ((List.range n).flatMap g).length = n * m
  | 0 => by simp
  | n + 1 => by rw [List.range_succ, List.flatMap_append, List.length_append, flat_len h n, List.flatMap_cons, List.flatMap_nil, List.append_nil, h, Nat.succ_mul]
theorem atI_at {xs : List α} {k : Nat} {x : α} (h : xs[k]? = some x) : L2.atI xs (k : Int) = some x := by
  rw [atI_nn (by omega), Int.toNat_natCast]; exact h
theorem Ok.andOr {a : Option Bool} {P : Bool → Prop} {b : Bool} (h1 : b = true → Ok a P) (h2 : b = false → P false) : Ok (if b = true then a else some false) P := by
  cases b with
  | true => rw [if_pos rfl]; exact h1 rfl
  | false => rw [if_neg Bool.false_ne_true]; exact .ret (h2 rfl)
end
end Gx

/-! Gq: calls that give a new thing; calls and methods that change a private thing. -/
namespace Gx
open PySem PySem.Spec PyProof.Rows L2
open Rp (rp)
open Ra (ra)
open Ob (ob)
section
variable {X : Cx} {K : PySem.W.Frag} {e a b c d : Expr} {es : List Expr} {σ : L2.St} {F H F0 H0 : Hp} {pos : Pos} {D : Ends} {st : Stmt} {rest body : List Stmt}
theorem go_retO {i : Nat} {v : V} {n : Str} {p : Pos} (hσ : σ[i]? = some (some v)) (k : D.rt v H) (hN : X.N[i]? = some n := by rfl) (hv : Vis X.env.scope n := by first | exact Or.inl rfl | exact Or.inr (Or.inl rfl) | exact Or.inr (Or.inr rfl))
    (hd : (n == ("__debug__" : Str)) = false := by decide) (hcd : (n == ("__classdict__" : Str)) = false := by decide) : GoS X (.Return (some (.Name n p)) pos :: rest) D σ H :=
  GoS.cons (ps_ret (pe_var hN hv hd hcd)) ⟨v, hσ, k⟩
theorem go_retE {α : Type} [Rp α] [Ob α] {x : α} (s : SmX X.K F H) (he : EvN X e σ F H x) (k : ∀ l o F' H', Gr F H F' H' → H l = none → F' l = none → H' l = some o → ob X.K F' o x → D.rt (.ref l) H') : GoS X (.Return (some e) pos :: rest) D σ H :=
  GoS.cons (ps_ret pe_go) (he F H (.refl s) _ fun l o F2 H2 g n f h r => k l o F2 H2 g n f h r)
/-! ### a new thing from a call -/
def PrN (K : PySem.W.Frag) {τ ρ : Type} [Ra τ] [Rp ρ] [Ob ρ] (f : τ → Option ρ) : Sp := fun vs H Q _ => ∃ F a r, SmX K F H ∧ ra K F vs a ∧ f a = some r ∧ ∀ l o F' H', Gr F H F' H' → H l = none → F' l = none → H' l = some o → ob K F' o r → Q (.ref l) H'
theorem en_call {τ ρ : Type} [Ra τ] [Rp ρ] [Ob ρ] {f : τ → Option ρ} {y : τ} {r : ρ} {k : Nat} {fa : Addr} {fd : FuncData} {ps : List Str} {x : Str} {p : Pos} (Fn : FnOk X.prog X.w X.K X.mg X.base CX0 k fa fd ps (PrN X.K f)) (hr : Room k X.A) (hm : X.mg x = some (.ref fa))
    (hk : PySem.W.keepIn X.K (.ref fa) = true) (hb : Binds X.K fd ps []) (ha : EvA X (e :: es) σ F H y) (h : f y = some r) (hg : Gl X x := by rfl) (hdb : (x == ("__debug__" : Str)) = false := by decide)
    (he : starEach (e :: es) X.env = (false, eval e X.env) :: starEach es X.env := by rfl) (hpl : (backTo pos (starEach es X.env)).any (·.1) = false := by rfl) : EvN X (.Call (.Name x p) (e :: es) [] pos) σ F H r := fun F1 H1 g Q q =>
  GoE.of (pe_call Fn hr hg hm hk hb .nil pass0 pa_go hdb he hpl) (ha F1 H1 g _ fun vs F2 H2 g2 r2 => ⟨F2, y, r, (g.trans g2).sm, by rw [List.append_nil]; exact r2, h, fun l o F3 H3 g3 n3 f3 h3 r3 => q l o F3 H3 (g2.trans g3) (g2.hh.free n3) f3 h3 r3⟩)
theorem fn_okN {P : Program} {w : World} {mg : Str → Option Value} {base : Heap} {τ ρ : Type} [Ra τ] [RaN τ] [Rp ρ] [Ob ρ] {f : τ → Option ρ} {x qual : Str} {s0 : Stmt} {fa : Addr} {fd : FuncData} {N ps : List Str} {k : Nat} (Fn : FunD K x qual (defArgs s0) (defBody s0) (defScope s0) [] [] fa fd) (S : FnScope N ps (defScope s0)) (hn : RaN.n τ = ps.length)
    (hbody : ∀ (cdv : Value) (A : Around) (outer : List Env) (s : Shared) (F H : Hp) (vs : List V) (a : τ) (r : ρ) (D : Ends) (E : XK), Room k (A.deeper (envOfC qual (defScope s0) s.heap.objs.size fa cdv)) → SmX K F H → ra K F vs a → f a = some r → (∀ l o F' H', GrX K F H F' H' → H l = none → F' l = none → H' l = some o → ob K F' o r → D.rt (.ref l) H') →
      True → GoS (cxOf CX0 P w K mg base N qual (defScope s0) fa cdv A outer s H E).nox (defBody s0) D (start N vs) H) :
    FnOk P w K mg base CX0 (k + 1) fa fd ps (PrN K f) := by
  refine Fn.ok S (fun vs H Q E ⟨F, a, r, _, ra', _⟩ => by rw [RaN.len ra', hn]) fun cdv A outer s H vs Q E hr ⟨F, a, r, sm, ra', hf, k⟩ => ?_
  exact ⟨_, PSs.nox pss_go, hbody cdv A outer s F H vs a r { nx := fun _ H' => Q .non H', rt := Q } E hr sm ra' hf (fun l o F' H' g n f h r => k l o F' H' g.toGr n f h r) trivial⟩
/-! ### a private thing that is changed -/
theorem Gr.erl {F1 H1 F2 H2 H3 : Hp} {l : Addr} {o : HO} (g : Gr F1 H1 F2 H2) (f : F1 l = none) (h : H1 l = some o) (ls : lstish o) (po : pln o) (k : ∀ b, b ≠ l → H3 b = H2 b) (no : ∀ ps, H3 l ≠ some (.tbl ps)) : Gr F1 (er H1 l) F2 H3 := by
  have f2 : F2 l = none := (g.fr l o h ls).trans f
  have h2 := g.hh.k l o h po.ntb
  have un : ∀ b u, er H1 l b = some u → b ≠ l ∧ H1 b = some u := fun b u e => by
    unfold er at e; split at e
    · cases e
    · exact ⟨by assumption, e⟩
  refine ⟨g.ff, fun b u e => ?_, ⟨fun b u e ns => ?_, fun b ps e => ?_, fun P a => ?_⟩, fun b u e n => ?_⟩
  · rw [k b (ne_of_none e f2)]; exact g.fh _ _ e
  · obtain ⟨hb, e⟩ := un b u e
    rw [k b hb]; exact g.hh.k _ _ e ns
  · obtain ⟨hb, e⟩ := un b _ e
    rw [k b hb]; exact g.hh.t _ _ e
  · exact (g.hh.w P ((Xt.start ⟨o, h, po⟩).w P a)).but ⟨o, h2, po⟩ k
  · exact g.fr b u (un b u e).2 n
theorem Own.erl {α : Type} [Rp α] [Ob α] {x : α} {l : Addr} {F2 H2 H3 : Hp} (o : Own K H0 F H l x) (g : Gr F H F2 H2) (k : ∀ b, b ≠ l → H3 b = H2 b) (no : ∀ ps, H3 l ≠ some (.tbl ps)) : Gr F (er H l) F2 H3 := by
  obtain ⟨u, h, r⟩ := o.h
  exact g.erl o.f h (Ob.ls r) (Ob.pl r) k no
theorem no_er {l : Addr} : ∀ ps, er H l l ≠ some (.tbl ps) := fun ps e => by rw [er_same] at e; cases e
theorem no_upd {l : Addr} {u : HO} (h : ntb u) : ∀ ps, upd H l u l ≠ some (.tbl ps) := fun ps e => by rw [upd_same] at e; cases e; exact h
theorem Own.ere {α : Type} [Rp α] [Ob α] {x : α} {l : Addr} {F2 H2 : Hp} (o : Own K H0 F H l x) (g : Gr F H F2 H2) : Gr F (er H l) F2 (er H2 l) := o.erl g (fun b hb => er_ne hb) no_er
/-- e is worth r and turns the thing at l to y -/
def EvM {ρ β : Type} [Rp ρ] [Rp β] [Ob β] (X : Cx) (e : Expr) (σ : L2.St) (F H : Hp) (l : Addr) (r : ρ) (y : β) : Prop := ∀ F1 H1, GrX X.K F H F1 H1 → ∀ Q : VK, (∀ u F2 H2 o, Gr F1 (er H1 l) F2 H2 → F2 l = none → H2 l = some o → ob X.K F2 o y → rp X.K F2 u r → Q u H2) → GoE X e σ H1 Q
def EvAM {τ1 τ2 : Type} [Ra τ1] [Ra τ2] (X : Cx) (es : List Expr) (σ : L2.St) (F H : Hp) (y : τ1) (l : Addr) (z : τ2) : Prop := ∀ F1 H1, GrX X.K F H F1 H1 → ∀ Q : List V → Hp → Prop, (∀ vs1 vs2 F2 H2, Gr F1 H1 F2 H2 → ra X.K F2 vs1 y → ra X.K F2 vs2 z → Q (vs1 ++ .ref l :: vs2) H2) → GoA X es σ H1 Q
theorem eam_here {τ2 : Type} [Ra τ2] {z : τ2} {l : Addr} {n : Str} {p : Pos} (i : Nat) (hσ : σ[i]? = some (some (.ref l))) (hr : EvA X es σ F H z) (hN : X.N[i]? = some n := by rfl) (hv : Vis X.env.scope n := by first | exact Or.inl rfl | exact Or.inr (Or.inl rfl) | exact Or.inr (Or.inr rfl))
    (hd : (n == ("__debug__" : Str)) = false := by decide) (hcd : (n == ("__classdict__" : Str)) = false := by decide) (hs : starEach (.Name n p :: es) X.env = (false, eval (.Name n p) X.env) :: starEach es X.env := by rfl) : EvAM X (.Name n p :: es) σ F H () l z := fun F1 H1 g Q q =>
  GoA.of (pa_cons (pe_var hN hv hd hcd) pa_go hs) ⟨_, hσ, hr F1 H1 g _ fun vs F2 H2 g2 r2 => q [] vs F2 H2 g2 rfl r2⟩
theorem eam_cons {α τ1 τ2 : Type} [Rp α] [Ra τ1] [Ra τ2] {x : α} {y : τ1} {z : τ2} {l : Addr} (ha : Ev X e σ F H x) (hr : EvAM X es σ F H y l z) (hs : starEach (e :: es) X.env = (false, eval e X.env) :: starEach es X.env := by rfl) : EvAM X (e :: es) σ F H (x, y) l z := fun F1 H1 g Q q =>
  GoA.of (pa_cons pe_go pa_go hs) (ha F1 H1 g _ fun v F2 H2 g2 r2 => hr F2 H2 (g.trans g2) _ fun vs1 vs2 F3 H3 g3 r3 r4 => q (v :: vs1) vs2 F3 H3 (g2.trans g3) ⟨v, vs1, rfl, Rp.mono g3.ff r2, r3⟩ r4)
/-- the promise of a def that changes the thing that is handed in at one place -/
def PrM (K : PySem.W.Frag) {τ1 τ2 β ρ : Type} [Ra τ1] [Ra τ2] [Rp β] [Ob β] [Rp ρ] (f : τ1 → β → τ2 → Option (ρ × β)) : Sp := fun vs H Q _ => ∃ F ws1 l ws2 o a1 x a2 r, vs = ws1 ++ .ref l :: ws2 ∧ SmX K F H ∧ ra K F ws1 a1 ∧ ra K F ws2 a2 ∧ F l = none ∧ H l = some o ∧ ob K F o x ∧ f a1 x a2 = some r ∧
  ∀ F' H' u o', Gr F (er H l) F' H' → F' l = none → H' l = some o' → ob K F' o' r.2 → rp K F' u r.1 → Q u H'
theorem em_call {τ1 τ2 β ρ : Type} [Ra τ1] [Ra τ2] [Rp β] [Ob β] [Rp ρ] {f : τ1 → β → τ2 → Option (ρ × β)} {y : τ1} {z : τ2} {xx : β} {r : ρ × β} {l : Addr} {k : Nat} {fa : Addr} {fd : FuncData} {ps : List Str} {x : Str} {p : Pos} (Fn : FnOk X.prog X.w X.K X.mg X.base CX0 k fa fd ps (PrM X.K f)) (hr : Room k X.A) (hm : X.mg x = some (.ref fa))
    (hk : PySem.W.keepIn X.K (.ref fa) = true) (hb : Binds X.K fd ps []) (o : Own X.K H0 F H l xx) (ha : EvAM X (e :: es) σ F H y l z) (h : f y xx z = some r) (hg : Gl X x := by rfl) (hdb : (x == ("__debug__" : Str)) = false := by decide)
    (he : starEach (e :: es) X.env = (false, eval e X.env) :: starEach es X.env := by rfl) (hpl : (backTo pos (starEach es X.env)).any (·.1) = false := by rfl) : EvM X (.Call (.Name x p) (e :: es) [] pos) σ F H l r.1 r.2 := fun F1 H1 g Q q =>
  GoE.of (pe_call Fn hr hg hm hk hb .nil pass0 pa_go hdb he hpl) (ha F1 H1 g _ fun vs1 vs2 F2 H2 g2 r2 r3 => by
    have o1 := o.up g.toGr
    have o2 := o1.up g2
    obtain ⟨u, hu, ru⟩ := o2.h
    exact ⟨F2, vs1, l, vs2, u, y, xx, z, r, by rw [List.append_nil], (g.trans g2).sm, r2, r3, o2.f, hu, ru, h, fun F3 H3 v o' g3 f3 h3 b3 r3 => q v F3 H3 o' ((o1.ere g2).trans g3) f3 h3 b3 r3⟩)
theorem fn_okM {P : Program} {w : World} {mg : Str → Option Value} {base : Heap} {τ1 τ2 β ρ : Type} [Ra τ1] [RaN τ1] [Ra τ2] [RaN τ2] [Rp β] [Ob β] [Rp ρ] {f : τ1 → β → τ2 → Option (ρ × β)} {x qual : Str} {s0 : Stmt} {fa : Addr} {fd : FuncData} {N ps : List Str} {k : Nat} (Fn : FunD K x qual (defArgs s0) (defBody s0) (defScope s0) [] [] fa fd) (S : FnScope N ps (defScope s0)) (hn : RaN.n τ1 + (RaN.n τ2 + 1) = ps.length)
    (hbody : ∀ (cdv : Value) (A : Around) (outer : List Env) (s : Shared) (F H0 H : Hp) (l : Addr) (vs1 vs2 : List V) (a1 : τ1) (x : β) (a2 : τ2) (r : ρ × β) (D : Ends) (E : XK), Room k (A.deeper (envOfC qual (defScope s0) s.heap.objs.size fa cdv)) → GrX K F H0 F H → Own K H0 F H l x → ra K F vs1 a1 → ra K F vs2 a2 → f a1 x a2 = some r →
      (∀ F' H' u o', GrX K F H0 F' H' → F' l = none → H' l = some o' → ob K F' o' r.2 → rp K F' u r.1 → D.rt u H') → (∀ σ' F' H' o', GrX K F H0 F' H' → F' l = none → H' l = some o' → ob K F' o' r.2 → rp K F' .non r.1 → D.nx σ' H') → GoS (cxOf CX0 P w K mg base N qual (defScope s0) fa cdv A outer s H E).nox (defBody s0) D (start N (vs1 ++ .ref l :: vs2)) H) :
    FnOk P w K mg base CX0 (k + 1) fa fd ps (PrM K f) := by
  refine Fn.ok S (fun vs H Q E ⟨F, ws1, l, ws2, o, a1, x, a2, r, e, _, r1, r2, _⟩ => by rw [e, List.length_append, List.length_cons, RaN.len r1, RaN.len r2, hn]) fun cdv A outer s H vs Q E hr ⟨F, ws1, l, ws2, o, a1, x, a2, r, e, sm, r1, r2, fl, hl, bo, hf, k⟩ => ?_
  subst e
  exact ⟨_, PSs.nox pss_go, hbody cdv A outer s F (er H l) H l ws1 ws2 a1 x a2 r { nx := fun _ H' => Q .non H', rt := Q } E hr ⟨Gr.start sm.s fl ⟨o, hl, Ob.pl bo⟩, sm.h⟩ ⟨er_same, fl, o, hl, bo⟩ r1 r2 hf (fun F' H' u o' g f h b r => k F' H' u o' g.toGr f h b r) fun σ' F' H' o' g f h b r => k F' H' .non o' g.toGr f h b r⟩
/-! ### statements by such expressions -/
theorem go_exprM {ρ β : Type} [Rp ρ] [Rp β] [Ob β] {r : ρ} {y : β} {l : Addr} (s : SmX X.K F H) (he : EvM X e σ F H l r y) (k : ∀ F' H' o, Gr F (er H l) F' H' → F' l = none → H' l = some o → ob X.K F' o y → GoS X rest D σ H') (hs : swapsWith e none pos.line X.env = pure false := by rfl) : GoS X (.Expr e pos :: rest) D σ H :=
  GoS.cons (ps_expr pe_go hs) (he F H (.refl s) _ fun v F2 H2 o g f h b r => k F2 H2 o g f h b)
theorem go_setM {ρ β : Type} [Rp ρ] [Rp β] [Ob β] {r : ρ} {y : β} {l : Addr} {n : Str} {p : Pos} (i : Nat) (s : SmX X.K F H) (he : EvM X e σ F H l r y) (k : ∀ v F' H' o, Gr F (er H l) F' H' → F' l = none → H' l = some o → ob X.K F' o y → rp X.K F' v r → GoS X rest D (σ.set i (some v)) H') (hN : X.N.Nodup) (hi : X.N[i]? = some n := by rfl)
    (hx : Loc X.env.scope n := by first | exact Or.inl rfl | exact Or.inr rfl) (hs : swapsWith e (some (.Name n p)) pos.line X.env = pure false := by rfl) (hf : X.fn n = true ∨ X.env.scope.names.lookup n = some .local := by first | exact .inl rfl | exact .inr rfl) :
    GoS X (.Assign [.Name n p] e pos :: rest) D σ H :=
  GoS.cons (ps_set hN hi hx pe_go hs hf) (he F H (.refl s) _ fun v F2 H2 o g f h b r => k v F2 H2 o g f h b r)
theorem go_retM {ρ β : Type} [Rp ρ] [Rp β] [Ob β] {r : ρ} {y : β} {l : Addr} (s : SmX X.K F H) (he : EvM X e σ F H l r y) (k : ∀ v F' H' o, Gr F (er H l) F' H' → F' l = none → H' l = some o → ob X.K F' o y → rp X.K F' v r → D.rt v H') : GoS X (.Return (some e) pos :: rest) D σ H :=
  GoS.cons (ps_ret pe_go) (he F H (.refl s) _ fun v F2 H2 o g f h b r => k v F2 H2 o g f h b r)
theorem go_appendM {ρ β : Type} [Rp ρ] [Rp β] [Ob β] {y : β} {l : Addr} {xs : List ρ} {w : ρ} {r : List ρ} {l2 : Addr} {n : Str} {p1 p2 p3 : Pos} (i : Nat) (s : SmX X.K F H) (o : Own X.K H0 F H l2 xs) (hne : l2 ≠ l) (hσ : σ[i]? = some (some (.ref l2))) (he : EvM X e σ F H l w y) (h : app xs w = some r)
    (k : ∀ u F' H' o', Gr F (er H l) F' H' → F' l = none → H' l = some o' → ob X.K F' o' y → PlAt H' l2 → F' l2 = none → Own X.K H0 F' (upd H' l2 u) l2 r → GoS X rest D σ (upd H' l2 u)) (hN : X.N[i]? = some n := by rfl) (hv : Vis X.env.scope n := by first | exact Or.inl rfl | exact Or.inr (Or.inl rfl) | exact Or.inr (Or.inr rfl))
    (hd : (n == ("__debug__" : Str)) = false := by decide) (hcd : (n == ("__classdict__" : Str)) = false := by decide) 
    (hbase : attributeBase (.Name n p1) "append" X.env (eval (.Name n p1) X.env) = eval (.Name n p1) X.env := by rfl)
    (hfew : ((backTo p3 (starEach [e] X.env)).all (fun x => !x.1) && (backToKw p3 (keywordEach [] X.env)).all (fun x => x.1.isSome) && decide ([e].length + ([] : List Keyword).length + (if ([] : List Keyword).isEmpty then 0 else 1) < 30)) = true := by rfl)
    (hline : (p2.endLine == p3.line) = true := by rfl) (hs : starEach [e] X.env = (false, eval e X.env) :: starEach [] X.env := by rfl) (hplain : (backTo p3 (starEach [] X.env)).any (·.1) = false := by rfl) (hsw : swapsWith (.Call (.Attribute (.Name n p1) "append" p2) [e] [] p3) none pos.line X.env = pure false := by rfl) :
    GoS X (.Expr (.Call (.Attribute (.Name n p1) "append" p2) [e] [] p3) pos :: rest) D σ H := by
  obtain ⟨_, hl, vs, rfl, rs⟩ := o.h
  obtain ⟨hz, rfl⟩ := app_of h
  refine GoS.cons (ps_expr (pe_bm PySem.F.plainAttrs_list PySem.F.slot_list_append PySem.F.type_list_append mt_append (pe_var hN hv hd hcd) (pa_cons pe_go pa_nil hs) hbase hfew hline hs hplain) hsw) ?_
  refine ⟨_, hσ, .inl ⟨rfl, _, SqL.of hl⟩, he F H (.refl s) _ fun v F2 H2 o' g f2 h2 b2 r => ?_⟩
  have o2 := o.over hne g
  obtain ⟨_, hl2, vs2, rfl, rs2⟩ := o2.h
  have hl3 : H2 l2 = some (.lst vs) := g.hh.k _ _ (by rw [er_ne hne]; exact hl) trivial
  rw [hl2] at hl3; cases hl3
  exact ⟨l2, vs, v, rfl, rfl, hl2, by rw [rs2.length]; exact hz, k _ F2 H2 o' g f2 h2 b2 o2.pl o2.f (Own.set o2.n o2.f (ob_lst (Rps.append rs2 (.cons r .nil))))⟩
/-! ### pop -/
theorem Rps.erase {α : Type} [Rp α] : ∀ {vs : List V} {xs : List α} (n : Nat), Rps K F vs xs → Rps K F (vs.eraseIdx n) (xs.eraseIdx n)
  | _, _, _, .nil => by simp; exact .nil
  | _, _, 0, .cons _ t => t
  | _, _, n + 1, .cons r t => .cons r (Rps.erase n t)
def popG {α : Type} (xs : List α) (i : Int) : Option (α × List α) := if -(2 ^ 62) ≤ i ∧ i < 2 ^ 62 then match seqIndex? i xs.length with
    | some k => (xs[k]?).map fun y => (y, xs.eraseIdx k)
    | none => none
  else none
theorem popG_of {α : Type} {xs : List α} {i : Int} {r : α × List α} (h : popG xs i = some r) : ∃ k, -(2 ^ 62) ≤ i ∧ i < 2 ^ 62 ∧ seqIndex? i xs.length = some k ∧ xs[k]? = some r.1 ∧ r.2 = xs.eraseIdx k := by
  unfold popG at h
  split at h
  case isFalse => cases h
  rename_i hi
  cases e : seqIndex? i xs.length with
  | none => rw [e] at h; cases h
  | some k =>
    rw [e] at h
    obtain ⟨y, h1, h2⟩ := Option.map_eq_some_iff.mp h
    subst h2
    exact ⟨k, hi.1, hi.2, rfl, h1, rfl⟩
theorem em_pop1 {α : Type} [Rp α] {xs : List α} {k : Int} {r : α × List α} {l : Addr} {n : Str} {p1 p2 p3 : Pos} (i : Nat) (o : Own X.K H0 F H l xs) (hσ : σ[i]? = some (some (.ref l))) (he : Ev X e σ F H k) (h : popG xs k = some r)
    (hN : X.N[i]? = some n := by rfl) (hv : Vis X.env.scope n := by first | exact Or.inl rfl | exact Or.inr (Or.inl rfl) | exact Or.inr (Or.inr rfl))
    (hd : (n == ("__debug__" : Str)) = false := by decide) (hcd : (n == ("__classdict__" : Str)) = false := by decide) 
    (hbase : attributeBase (.Name n p1) "pop" X.env (eval (.Name n p1) X.env) = eval (.Name n p1) X.env := by rfl)
    (hfew : ((backTo p3 (starEach [e] X.env)).all (fun x => !x.1) && (backToKw p3 (keywordEach [] X.env)).all (fun x => x.1.isSome) && decide ([e].length + ([] : List Keyword).length + (if ([] : List Keyword).isEmpty then 0 else 1) < 30)) = true := by rfl)
    (hline : (p2.endLine == p3.line) = true := by rfl) (hs : starEach [e] X.env = (false, eval e X.env) :: starEach [] X.env := by rfl) (hplain : (backTo p3 (starEach [] X.env)).any (·.1) = false := by rfl) :
    EvM X (.Call (.Attribute (.Name n p1) "pop" p2) [e] [] p3) σ F H l r.1 r.2 := fun F1 H1 g Q q => by
  have o1 := o.up g.toGr
  obtain ⟨_, hl, vs, rfl, rs⟩ := o1.h
  obtain ⟨j, b1, b2, hj, hy, e2⟩ := popG_of h
  refine GoE.of (pe_bm PySem.F.plainAttrs_list PySem.F.slot_list_pop PySem.F.type_list_pop mt_popAt (pe_var hN hv hd hcd) (pa_cons pe_go pa_nil hs) hbase hfew hline hs hplain) ?_
  refine ⟨_, hσ, .inl ⟨rfl, _, SqL.of hl⟩, he F1 H1 g _ fun v F2 H2 g2 r2 => ?_⟩
  have hl2 := g2.hh.k _ _ hl trivial
  have rs2 := rs.mono g2.ff
  obtain ⟨y, hy1, ry⟩ := rs2.get hy
  refine ⟨l, vs, k, j, y, rfl, by rw [show v = .int k from r2], hl2, Int.le_trans (by decide) b1, Int.lt_trans b2 (by decide), by rw [rs.length]; exact hj, hy1, ?_⟩
  exact q y F2 _ _ (o1.erl g2 (fun b hb => upd_ne hb) (no_upd trivial)) (o1.up g2).f upd_same (by rw [e2]; exact ob_lst (rs2.erase j)) ry
theorem seqIndex_nat {i : Int} {n : Nat} (h0 : 0 ≤ i) (h1 : i < n) : seqIndex? i n = some i.toNat := by
  have e1 : (if i < 0 then i + (n : Int) else i) = i := if_neg (by omega)
  unfold seqIndex?
  simp only [e1]
  rw [if_pos (by rw [decide_eq_true h0, decide_eq_true h1]; rfl)]
theorem popG_p {α : Type} {xs : List α} {i : Int} {y : α} (h0 : 0 ≤ i) (hs : xs.length < 1000000) (h : xs[i.toNat]? = some y) : popG xs i = some (y, xs.eraseIdx i.toNat) := by
  have := (List.getElem?_eq_some_iff.mp h).1
  unfold popG
  rw [if_pos ⟨by omega, by omega⟩, seqIndex_nat h0 (by omega)]
  simp only [h, Option.map_some]
/-! ### more than one part -/
theorem em_tup2a {α ρ β : Type} [Rp α] [Rp ρ] [Rp β] [Ob β] {r : ρ} {y xx : β} {z : α} {l : Addr} {k : Nat} (o : Own X.K H0 F H l xx) (ha : EvM X a σ F H l r y) (hb : Ev X b σ F (er H l) z) (hs : starEach [a, b] X.env = (false, eval a X.env) :: starEach [b] X.env := by rfl) (hs2 : starEach [b] X.env = (false, eval b X.env) :: starEach [] X.env := by rfl) : EvM X (.Tuple [a, b] k pos) σ F H l (T2.mk r z) y := fun F1 H1 g Q q =>
  GoE.of (pe_tup (pa_cons pe_go (pa_cons pe_go pa_nil hs2) hs)) (ha F1 H1 g _ fun u F2 H2 o' g2 f2 h2 b2 r2 => hb F2 H2 (.pre (o.ere g.toGr) ⟨g2, (g.h.er (o.up g.toGr).pl).up g2⟩) _ fun v F3 H3 g3 r3 => ⟨by show 2 ≤ sizeLine; decide, fun p hp => by
    have f3 : F3 l = none := (g3.fr l _ h2 (Ob.ls b2)).trans f2
    have h3 := g3.hh.k _ _ h2 (Ob.pl b2).ntb
    have g4 : Gr F3 H3 (upd F3 p (.tup [u, v])) (upd H3 p (.tup [u, v])) := Gr.new g3.fh hp trivial
    have hlp : l ≠ p := ne_of_none h3 hp
    exact q (.ref p) _ _ o' ((g2.trans g3).trans g4) (by rw [upd_ne hlp]; exact f3) (by rw [upd_ne hlp]; exact h3) (Ob.mono (g3.ff.trans g4.ff) b2) ⟨p, _, rfl, upd_same, u, _, rfl, Rp.mono (g3.ff.trans g4.ff) r2, v, _, rfl, Rp.mono g4.ff r3, rfl⟩⟩)
theorem em_thaw {ρ β γ : Type} [Rp ρ] [Flat ρ] [Rp β] [Ob β] [FlatO β] [Rp γ] [Ob γ] {x : ρ} {z : β} {y : γ} {l l2 : Addr} (o : Own X.K H0 F H l y) (hne : l2 ≠ l) (s : L2.Same F H) (h : ∀ F' H', L2.Same F F' → L2.Same F' H' → rp X.K F' (.ref l) y → (∀ a, a ≠ l → F' a = F a ∧ H' a = H a) → EvM X e σ F' H' l2 x z) : EvM X e σ F H l2 x z := fun F1 H1 g Q q => by
  obtain ⟨u, hl, r⟩ := o.h
  have hl1 := g.hh.k _ _ hl (Ob.pl r).ntb
  refine GoE.locked hl1 (Ob.mu r) fun od => ?_
  obtain ⟨g1, f1, h1⟩ := GrX.show_ (u := .frz od u) hl o.f (Ob.ls r) (Ob.pl r) g
  refine h _ _ (same_upd o.f) (shown s) (Ob.fz upd_same (Ob.mono (same_upd o.f) r)) (fun a ha => ⟨upd_ne ha, upd_ne ha⟩) _ _ g1 _ fun v F2 H2 o2 g2 f2 h2 b2 r2 => ?_
  have e1 : er (upd H1 l (.frz od u)) l2 = upd (er H1 l2) l (.frz od u) := by
    funext b
    unfold er upd
    by_cases hb : b = l
    · subst hb; rw [if_neg (fun z => hne z.symm), if_pos rfl, if_pos rfl]
    · rw [if_neg hb, if_neg hb]
  rw [e1] at g2
  have e2 : F2 l = some (.frz od u) := g2.ff _ _ upd_same
  obtain ⟨n1, n2⟩ := frz_no e2 (Ob.ls r)
  have g3 := Gr.hide (F1 := F1) (H1 := er H1 l2) (l := l) (o := u) (by rw [er_ne (fun z => hne z.symm)]; exact h1) f1 (Ob.pl r) g2
  refine ⟨g2.fh _ _ e2, q v (er F2 l) _ o2 g3 ?_ ?_ (FlatO.fl n1 n2 b2) (Flat.fl n1 n2 r2)⟩
  · rw [er_ne hne]; exact f2
  · rw [upd_ne hne]; exact h2
end
end Gx

/-! Gs: defs that give a new thing or change one; more methods of lists and dicts. -/
namespace Gx
open PySem PySem.Spec PyProof.Rows L2
open Rp (rp)
open Ra (ra)
open Ob (ob)
section
variable {X : Cx} {K : PySem.W.Frag} {e a b c d : Expr} {es : List Expr} {σ : L2.St} {F H F0 H0 : Hp} {pos : Pos} {D : Ends} {st : Stmt} {rest body : List Stmt}
theorem Own.own {α : Type} [Rp α] [Ob α] {x : α} {l : Addr} {o : HO} {H1 : Hp} (g : Gr H1 H0 F H) : True := trivial
/-- a def that gives a new thing -/
theorem fn_okN' {P : Program} {w : World} {mg : Str → Option Value} {base : Heap} {τ ρ : Type} [Ra τ] [RaN τ] [Rp ρ] [Ob ρ] {f : τ → Option ρ} {x qual : Str} {s0 : Stmt} {fa : Addr} {fd : FuncData} {N ps : List Str} {k : Nat} (Fn : FunD K x qual (defArgs s0) (defBody s0) (defScope s0) [] [] fa fd) (S : FnScope N ps (defScope s0)) (hn : RaN.n τ = ps.length)
    (hbody : ∀ (cdv : Value) (A : Around) (outer : List Env) (s : Shared) (F H : Hp) (vs : List V) (a : τ) (r : ρ) (D : Ends) (E : XK), Room k (A.deeper (envOfC qual (defScope s0) s.heap.objs.size fa cdv)) → SmX K F H → ra K F vs a → f a = some r → (∀ l F' H', GrX K F H F' H' → Own K H F' H' l r → D.rt (.ref l) H') →
      True → GoS (cxOf CX0 P w K mg base N qual (defScope s0) fa cdv A outer s H E).nox (defBody s0) D (start N vs) H) :
    FnOk P w K mg base CX0 (k + 1) fa fd ps (PrN K f) :=
  fn_okN Fn S hn fun cdv A outer s F H vs a r D E hr sm ra' hf kr _ => hbody cdv A outer s F H vs a r D E hr sm ra' hf (fun l F' H' g o => by
    obtain ⟨u, h, b⟩ := o.h
    exact kr l u F' H' g o.n o.f h b) trivial
theorem go_retO' {α : Type} [Rp α] [Ob α] {x : α} {l : Addr} {n : Str} {p : Pos} (i : Nat) (hσ : σ[i]? = some (some (.ref l))) (k : D.rt (.ref l) H) (hN : X.N[i]? = some n := by rfl) (hv : Vis X.env.scope n := by first | exact Or.inl rfl | exact Or.inr (Or.inl rfl) | exact Or.inr (Or.inr rfl))
    (hd : (n == ("__debug__" : Str)) = false := by decide) (hcd : (n == ("__classdict__" : Str)) = false := by decide) : GoS X (.Return (some (.Name n p)) pos :: rest) D σ H := go_retO hσ k hN hv hd hcd
/-- a def that changes the thing handed in at one place -/
theorem fn_okM' {P : Program} {w : World} {mg : Str → Option Value} {base : Heap} {τ1 τ2 β ρ : Type} [Ra τ1] [RaN τ1] [Ra τ2] [RaN τ2] [Rp β] [Ob β] [Rp ρ] {f : τ1 → β → τ2 → Option (ρ × β)} {x qual : Str} {s0 : Stmt} {fa : Addr} {fd : FuncData} {N ps : List Str} {k : Nat} (Fn : FunD K x qual (defArgs s0) (defBody s0) (defScope s0) [] [] fa fd) (S : FnScope N ps (defScope s0)) (hn : RaN.n τ1 + (RaN.n τ2 + 1) = ps.length)
    (hbody : ∀ (cdv : Value) (A : Around) (outer : List Env) (s : Shared) (F H0 H : Hp) (l : Addr) (vs1 vs2 : List V) (a1 : τ1) (x : β) (a2 : τ2) (r : ρ × β) (D : Ends) (E : XK), Room k (A.deeper (envOfC qual (defScope s0) s.heap.objs.size fa cdv)) → GrX K F H0 F H → Own K H0 F H l x → ra K F vs1 a1 → ra K F vs2 a2 → f a1 x a2 = some r →
      (∀ F' H' u, GrX K F H0 F' H' → Own K H0 F' H' l r.2 → rp K F' u r.1 → D.rt u H') → (∀ σ' F' H', GrX K F H0 F' H' → Own K H0 F' H' l r.2 → rp K F' .non r.1 → D.nx σ' H') → GoS (cxOf CX0 P w K mg base N qual (defScope s0) fa cdv A outer s H E).nox (defBody s0) D (start N (vs1 ++ .ref l :: vs2)) H) :
    FnOk P w K mg base CX0 (k + 1) fa fd ps (PrM K f) :=
  fn_okM Fn S hn fun cdv A outer s F H0 H l vs1 vs2 a1 x a2 r D E hr g o r1 r2 hf kr kn => hbody cdv A outer s F H0 H l vs1 vs2 a1 x a2 r D E hr g o r1 r2 hf
    (fun F' H' u g o r => by
      obtain ⟨v, h, b⟩ := o.h
      exact kr F' H' u v g o.f h b r)
    (fun σ' F' H' g o r => by
      obtain ⟨v, h, b⟩ := o.h
      exact kn σ' F' H' v g o.f h b r)
theorem Own.mk' {α : Type} [Rp α] [Ob α] {y : α} {l : Addr} {o : HO} (n : H0 l = none) (f : F l = none) (h : H l = some o) (b : ob K F o y) : Own K H0 F H l y := ⟨n, f, o, h, b⟩
/-! ### pop, extend, insert, reverse, clear -/
def popE {α : Type} (xs : List α) : Option (α × List α) := match xs.getLast? with
  | some y => some (y, xs.dropLast)
  | none => none
theorem popE_of {α : Type} {xs : List α} {r : α × List α} (h : popE xs = some r) : xs[xs.length - 1]? = some r.1 ∧ r.2 = xs.dropLast := by
  unfold popE at h
  rw [List.getLast?_eq_getElem?] at h
  cases e : xs[xs.length - 1]? with
  | none => rw [e] at h; cases h
  | some y => rw [e] at h; cases h; exact ⟨rfl, rfl⟩
theorem popE_p {α : Type} {xs : List α} {y : α} : popE (xs ++ [y]) = some (y, xs) := by unfold popE; simp
theorem Rps.dropLast {α : Type} [Rp α] {vs : List V} {xs : List α} (h : Rps K F vs xs) : Rps K F vs.dropLast xs.dropLast := by
  rw [List.dropLast_eq_take, List.dropLast_eq_take, h.length]; exact Rps.take _ h
theorem Rps.reverse {α : Type} [Rp α] : ∀ {vs : List V} {xs : List α}, Rps K F vs xs → Rps K F vs.reverse xs.reverse
  | _, _, .nil => .nil
  | _, _, .cons r t => by rw [List.reverse_cons, List.reverse_cons]; exact Rps.append (Rps.reverse t) (.cons r .nil)
section
variable {α : Type} [Rp α] {xs : List α} {l : Addr} {n : Str} {p1 p2 p3 : Pos}
theorem em_pop0 {r : α × List α} (i : Nat) (o : Own X.K H0 F H l xs) (hσ : σ[i]? = some (some (.ref l))) (h : popE xs = some r) (hN : X.N[i]? = some n := by rfl) (hv : Vis X.env.scope n := by first | exact Or.inl rfl | exact Or.inr (Or.inl rfl) | exact Or.inr (Or.inr rfl))
    (hd : (n == ("__debug__" : Str)) = false := by decide) (hcd : (n == ("__classdict__" : Str)) = false := by decide) (hbase : attributeBase (.Name n p1) "pop" X.env (eval (.Name n p1) X.env) = eval (.Name n p1) X.env := by rfl) (hline : (p2.endLine == p3.line) = true := by rfl) :
    EvM X (.Call (.Attribute (.Name n p1) "pop" p2) [] [] p3) σ F H l r.1 r.2 := fun F1 H1 g Q q => by
  have o1 := o.up g.toGr
  obtain ⟨_, hl, vs, rfl, rs⟩ := o1.h
  obtain ⟨hy, e2⟩ := popE_of h
  refine GoE.of (pe_bm0 PySem.F.plainAttrs_list PySem.F.slot_list_pop PySem.F.type_list_pop mt_pop (pe_var hN hv hd hcd) hbase hline) ?_
  obtain ⟨y, hy1, ry⟩ := rs.get hy
  refine ⟨_, hσ, .inl ⟨rfl, _, SqL.of hl⟩, l, vs, y, rfl, rfl, hl, by rw [rs.length]; exact hy1, ?_⟩
  exact q y F1 _ _ (o1.erl (.refl g.fh) (fun b hb => upd_ne hb) (no_upd trivial)) o1.f upd_same (by rw [e2]; exact ob_lst rs.dropLast) ry
theorem em_reverse (i : Nat) (o : Own X.K H0 F H l xs) (hσ : σ[i]? = some (some (.ref l))) (hN : X.N[i]? = some n := by rfl) (hv : Vis X.env.scope n := by first | exact Or.inl rfl | exact Or.inr (Or.inl rfl) | exact Or.inr (Or.inr rfl))
    (hd : (n == ("__debug__" : Str)) = false := by decide) (hcd : (n == ("__classdict__" : Str)) = false := by decide) (hbase : attributeBase (.Name n p1) "reverse" X.env (eval (.Name n p1) X.env) = eval (.Name n p1) X.env := by rfl) (hline : (p2.endLine == p3.line) = true := by rfl) :
    EvM X (.Call (.Attribute (.Name n p1) "reverse" p2) [] [] p3) σ F H l () xs.reverse := fun F1 H1 g Q q => by
  have o1 := o.up g.toGr
  obtain ⟨_, hl, vs, rfl, rs⟩ := o1.h
  refine GoE.of (pe_bm0 PySem.F.plainAttrs_list PySem.F.slot_list_reverse PySem.F.type_list_reverse mt_reverse (pe_var hN hv hd hcd) hbase hline) ?_
  exact ⟨_, hσ, .inl ⟨rfl, _, SqL.of hl⟩, l, vs, rfl, rfl, hl, q .non F1 _ _ (o1.erl (.refl g.fh) (fun b hb => upd_ne hb) (no_upd trivial)) o1.f upd_same (ob_lst rs.reverse) rfl⟩
theorem em_clear (i : Nat) (o : Own X.K H0 F H l xs) (hσ : σ[i]? = some (some (.ref l))) (hN : X.N[i]? = some n := by rfl) (hv : Vis X.env.scope n := by first | exact Or.inl rfl | exact Or.inr (Or.inl rfl) | exact Or.inr (Or.inr rfl))
    (hd : (n == ("__debug__" : Str)) = false := by decide) (hcd : (n == ("__classdict__" : Str)) = false := by decide) (hbase : attributeBase (.Name n p1) "clear" X.env (eval (.Name n p1) X.env) = eval (.Name n p1) X.env := by rfl) (hline : (p2.endLine == p3.line) = true := by rfl) :
    EvM X (.Call (.Attribute (.Name n p1) "clear" p2) [] [] p3) σ F H l () ([] : List α) := fun F1 H1 g Q q => by
  have o1 := o.up g.toGr
  obtain ⟨_, hl, vs, rfl, rs⟩ := o1.h
  refine GoE.of (pe_bm0 PySem.F.plainAttrs_list PySem.F.slot_list_clear PySem.F.type_list_clear mt_clear (pe_var hN hv hd hcd) hbase hline) ?_
  exact ⟨_, hσ, .inl ⟨rfl, _, SqL.of hl⟩, l, vs, rfl, rfl, hl, q .non F1 _ _ (o1.erl (.refl g.fh) (fun b hb => upd_ne hb) (no_upd trivial)) o1.f upd_same (ob_lst .nil) rfl⟩
theorem list_extendW (l : Addr) (items : Array Value) (n : Nat) (b : Addr) (items2 : Array Value) (n2 : Nat) (dd2 : Option Addr) (sl2 : Array (Option Value)) (hc0 : ¬(!items.isEmpty && Builtin.List.listTooLong (items.size + items2.size)) = true) (hc1 : items.size ≤ sizeLine) (hs2 : items.size + items2.size ≤ sizeLine + 1) :
    Meets (Builtin.«list.extend» ⟨[.ref l, .ref b], []⟩) (fun _ R s => s.heap.get? l = some { cls := .type "list", dict := none, data := .seq items n, slots := #[] } ∧ s.heap.get? b = some { cls := .type "list", dict := dd2, data := .seq items2 n2, slots := sl2 } ∧ R (.ok (.ret Value.none)) { s with heap := s.heap.update l (Obj.mapSeq fun x => x ++ items2), toks := s.toks }) :=
  .of_wp fun prog w A R s h => by
    obtain ⟨hp, g, d, tk, os⟩ := s; obtain ⟨hl, hb, h⟩ := h; have f1 := AutoSeq1.idx_int; have f2 := AutoSeq1.sub_tuple_tuple; have f3 := AutoSeq1.sub_list_list; have f4 := AutoSeq1.sub_tuple_list; have f5 := AutoSeq1.sub_list_tuple;
    have hz' : (items ++ items2).size ≤ sizeLine + 1 := by rw [Array.size_append]; exact hs2
    wp_walk using (wpAny_updateSeq hl rfl (hz := hc1) (_hz' := hz')), wpAny_loadPart' hl, wpAny_loadPart' hb; exact ⟨_, rfl, h⟩
def rExtendF (K : PySem.W.Frag) : V → List V → Hp → VK → Prop := fun x vs H Q => ∃ l b xs zs, x = .ref l ∧ vs = [.ref b] ∧ H l = some (.lst xs) ∧ SqL K H b zs ∧ xs.length + zs.length ≤ sizeLine ∧ Q .non (upd H l (.lst (xs ++ zs)))
theorem mt_extendF : MtR X "list.extend" (rExtendF X.K) := by
  intro pins s σ H x vs v us Q I rx rv h
  obtain ⟨l, b, xs, zs, rfl, rfl, hH, hB, hz, q⟩ := h
  cases rx
  obtain ⟨u, rfl, ru⟩ := rv.one
  cases ru
  obtain ⟨z, its, n, r, hl, e⟩ := I.lstM hH
  obtain ⟨its2, r2, ⟨⟨cls2, dd2, data2, sl2⟩, n2, ho2, hc2, _, hd2⟩, _⟩ := I.list hB
  simp only at hc2 hd2
  subst hc2 hd2
  have l2 := r2.length
  have hsz : its.toArray.size + its2.toArray.size ≤ sizeLine := by rw [List.size_toArray, List.size_toArray]; omega
  have hlong : ¬ (!its.toArray.isEmpty && Builtin.List.listTooLong (its.toArray.size + its2.toArray.size)) = true := by
    rw [notLongL hsz, Bool.and_false]
    exact Bool.false_ne_true
  refine call_meets F.slot_list_extend ⟨_, e, rfl⟩ F.entry_list_extend (F.args_list_extend_2 _ _)
    (list_extendW l its.toArray n b its2.toArray n2 dd2 sl2 hlong (by rw [List.size_toArray]; omega) (by omega)) ⟨e, ho2, ?_⟩
  refine ⟨.non, _, I.lset (its' := its ++ its2) hH e (by simp) (r.append r2) ?_, rfl, q⟩
  rw [List.length_append]
  omega
theorem em_extend {ys r : List α} (i : Nat) (o : Own X.K H0 F H l xs) (hσ : σ[i]? = some (some (.ref l))) (he : Ev X e σ F H ys) (h : catG xs ys = some r)
    (hN : X.N[i]? = some n := by rfl) (hv : Vis X.env.scope n := by first | exact Or.inl rfl | exact Or.inr (Or.inl rfl) | exact Or.inr (Or.inr rfl))
    (hd : (n == ("__debug__" : Str)) = false := by decide) (hcd : (n == ("__classdict__" : Str)) = false := by decide) 
    (hbase : attributeBase (.Name n p1) "extend" X.env (eval (.Name n p1) X.env) = eval (.Name n p1) X.env := by rfl)
    (hfew : ((backTo p3 (starEach [e] X.env)).all (fun x => !x.1) && (backToKw p3 (keywordEach [] X.env)).all (fun x => x.1.isSome) && decide ([e].length + ([] : List Keyword).length + (if ([] : List Keyword).isEmpty then 0 else 1) < 30)) = true := by rfl)
    (hline : (p2.endLine == p3.line) = true := by rfl) (hs : starEach [e] X.env = (false, eval e X.env) :: starEach [] X.env := by rfl) (hplain : (backTo p3 (starEach [] X.env)).any (·.1) = false := by rfl) :
    EvM X (.Call (.Attribute (.Name n p1) "extend" p2) [e] [] p3) σ F H l () r := fun F1 H1 g Q q => by
  have o1 := o.up g.toGr
  obtain ⟨_, hl, vs, rfl, rs⟩ := o1.h
  unfold catG at h
  split at h
  case isFalse => cases h
  rename_i hz
  cases (Option.some.inj h)
  refine GoE.of (pe_bm PySem.F.plainAttrs_list PySem.F.slot_list_extend PySem.F.type_list_extend mt_extendF (pe_var hN hv hd hcd) (pa_cons pe_go pa_nil hs) hbase hfew hline hs hplain) ?_
  refine ⟨_, hσ, .inl ⟨rfl, _, SqL.of hl⟩, he F1 H1 g _ fun v F2 H2 g2 r2 => ?_⟩
  obtain ⟨b, zs, rfl, sq, rz⟩ := r2
  have hl2 := g2.hh.k _ _ hl trivial
  exact ⟨l, b, vs, zs, rfl, rfl, hl2, g2.fh.seq sq, by rw [rs.length, rz.length]; exact hz, q .non F2 _ _ (o1.erl g2 (fun b hb => upd_ne hb) (no_upd trivial)) (o1.up g2).f upd_same (ob_lst (Rps.append (rs.mono g2.ff) rz)) rfl⟩
def insG {α : Type} (xs : List α) (i : Int) (y : α) : Option (List α) := if 0 ≤ i ∧ i < 2 ^ 62 ∧ xs.length < sizeLine then some (xs.take i.toNat ++ [y] ++ xs.drop i.toNat) else none
theorem insG_of {α : Type} {xs : List α} {i : Int} {y : α} {r : List α} (h : insG xs i y = some r) : 0 ≤ i ∧ i < 2 ^ 63 ∧ xs.length < sizeLine ∧ r = xs.take i.toNat ++ [y] ++ xs.drop i.toNat := by
  unfold insG at h
  split at h
  · rename_i h1
    exact ⟨h1.1, Int.lt_trans h1.2.1 (by decide), h1.2.2, (Option.some.inj h).symm⟩
  · cases h
theorem insG_p {α : Type} {xs : List α} {i : Int} {y : α} (h0 : 0 ≤ i) (h1 : i < 1000000) (h2 : xs.length < 16777216) : insG xs i y = some (xs.take i.toNat ++ [y] ++ xs.drop i.toNat) := if_pos ⟨h0, Int.lt_trans h1 (by decide), by rw [szl]; exact h2⟩
theorem em_insert {k : Int} {y : α} {r : List α} (i : Nat) (o : Own X.K H0 F H l xs) (hσ : σ[i]? = some (some (.ref l))) (ha : Ev X a σ F H k) (he : Ev X e σ F H y) (h : insG xs k y = some r)
    (hN : X.N[i]? = some n := by rfl) (hv : Vis X.env.scope n := by first | exact Or.inl rfl | exact Or.inr (Or.inl rfl) | exact Or.inr (Or.inr rfl))
    (hd : (n == ("__debug__" : Str)) = false := by decide) (hcd : (n == ("__classdict__" : Str)) = false := by decide) 
    (hbase : attributeBase (.Name n p1) "insert" X.env (eval (.Name n p1) X.env) = eval (.Name n p1) X.env := by rfl)
    (hfew : ((backTo p3 (starEach [a, e] X.env)).all (fun x => !x.1) && (backToKw p3 (keywordEach [] X.env)).all (fun x => x.1.isSome) && decide ([a, e].length + ([] : List Keyword).length + (if ([] : List Keyword).isEmpty then 0 else 1) < 30)) = true := by rfl)
    (hline : (p2.endLine == p3.line) = true := by rfl) (hs : starEach [a, e] X.env = (false, eval a X.env) :: starEach [e] X.env := by rfl) (hs2 : starEach [e] X.env = (false, eval e X.env) :: starEach [] X.env := by rfl) (hplain : (backTo p3 (starEach [e] X.env)).any (·.1) = false := by rfl) :
    EvM X (.Call (.Attribute (.Name n p1) "insert" p2) [a, e] [] p3) σ F H l () r := fun F1 H1 g Q q => by
  have o1 := o.up g.toGr
  obtain ⟨_, hl, vs, rfl, rs⟩ := o1.h
  obtain ⟨k0, k1, hz, rfl⟩ := insG_of h
  refine GoE.of (pe_bm PySem.F.plainAttrs_list PySem.F.slot_list_insert PySem.F.type_list_insert mt_insert (pe_var hN hv hd hcd) (pa_cons pe_go (pa_cons pe_go pa_nil hs2) hs) hbase hfew hline hs hplain) ?_
  refine ⟨_, hσ, .inl ⟨rfl, _, SqL.of hl⟩, ha F1 H1 g _ fun v F2 H2 g2 r2 => he F2 H2 (g.trans g2) _ fun u F3 H3 g3 r3 => ?_⟩
  have g4 := g2.trans g3
  have hl2 := g4.hh.k _ _ hl trivial
  have rs2 := rs.mono g4.ff
  refine ⟨l, vs, k, u, rfl, by rw [show v = .int k from r2], hl2, by rw [rs.length]; exact hz, k0, k1, q .non F3 _ _ (o1.erl g4 (fun b hb => upd_ne hb) (no_upd trivial)) (o1.up g4).f upd_same (ob_lst (Rps.append (Rps.append (Rps.take _ rs2) (.cons r3 .nil)) (Rps.drop _ rs2))) rfl⟩
/-- .. the item coming out of the list itself -/
theorem em_insertM {k : Int} {y : α} {ys r : List α} (i : Nat) (o : Own X.K H0 F H l xs) (hσ : σ[i]? = some (some (.ref l))) (ha : Ev X a σ F H k) (he : EvM X e σ F H l y ys) (h : insG ys k y = some r)
    (hN : X.N[i]? = some n := by rfl) (hv : Vis X.env.scope n := by first | exact Or.inl rfl | exact Or.inr (Or.inl rfl) | exact Or.inr (Or.inr rfl))
    (hd : (n == ("__debug__" : Str)) = false := by decide) (hcd : (n == ("__classdict__" : Str)) = false := by decide) 
    (hbase : attributeBase (.Name n p1) "insert" X.env (eval (.Name n p1) X.env) = eval (.Name n p1) X.env := by rfl)
    (hfew : ((backTo p3 (starEach [a, e] X.env)).all (fun x => !x.1) && (backToKw p3 (keywordEach [] X.env)).all (fun x => x.1.isSome) && decide ([a, e].length + ([] : List Keyword).length + (if ([] : List Keyword).isEmpty then 0 else 1) < 30)) = true := by rfl)
    (hline : (p2.endLine == p3.line) = true := by rfl) (hs : starEach [a, e] X.env = (false, eval a X.env) :: starEach [e] X.env := by rfl) (hs2 : starEach [e] X.env = (false, eval e X.env) :: starEach [] X.env := by rfl) (hplain : (backTo p3 (starEach [e] X.env)).any (·.1) = false := by rfl) :
    EvM X (.Call (.Attribute (.Name n p1) "insert" p2) [a, e] [] p3) σ F H l () r := fun F1 H1 g Q q => by
  have o1 := o.up g.toGr
  obtain ⟨_, hl, vs, rfl, rs⟩ := o1.h
  obtain ⟨k0, k1, hz, rfl⟩ := insG_of h
  refine GoE.of (pe_bm PySem.F.plainAttrs_list PySem.F.slot_list_insert PySem.F.type_list_insert mt_insert (pe_var hN hv hd hcd) (pa_cons pe_go (pa_cons pe_go pa_nil hs2) hs) hbase hfew hline hs hplain) ?_
  refine ⟨_, hσ, .inl ⟨rfl, _, SqL.of hl⟩, ha F1 H1 g _ fun v F2 H2 g2 r2 => he F2 H2 (g.trans g2) _ fun u F3 H3 o' g3 f3 h3 b3 r3 => ?_⟩
  obtain ⟨ws, rfl, rw3⟩ := b3
  have g4 : Gr F1 (er H1 l) F3 H3 := ((o1.ere g2)).trans g3
  have e4 : ∀ b, b ≠ l → upd H3 l (.lst (ws.take k.toNat ++ [u] ++ ws.drop k.toNat)) b = H3 b := fun b hb => upd_ne hb
  refine ⟨l, ws, k, u, rfl, by rw [show v = .int k from r2], h3, by rw [rw3.length]; exact hz, k0, k1, q .non F3 _ _ (g4.poke er_same f3 ⟨_, h3, trivial⟩ trivial) f3 upd_same (ob_lst (Rps.append (Rps.append (Rps.take _ rw3) (.cons r3 .nil)) (Rps.drop _ rw3))) rfl⟩
/-! ### xs[i] = e -/
def setG {α : Type} (xs : List α) (i : Int) (y : α) : Option (List α) := (ixN xs.length i).map fun j => xs.set j y
theorem Rps.set {α : Type} [Rp α] {v : V} {x : α} (r : rp K F v x) : ∀ {vs : List V} {xs : List α} (n : Nat), Rps K F vs xs → Rps K F (vs.set n v) (xs.set n x)
  | _, _, _, .nil => .nil
  | _, _, 0, .cons _ t => .cons r t
  | _, _, n + 1, .cons r' t => .cons r' (Rps.set r n t)
theorem go_setL {k : Int} {y : α} {r : List α} (i : Nat) (s : SmX X.K F H) (o : Own X.K H0 F H l xs) (hσ : σ[i]? = some (some (.ref l))) (he : Ev X e σ F H y) (hk : Ev X a σ F H k) (h : setG xs k y = some r)
    (kk : ∀ u F' H', Gr F H F' H' → PlAt H' l → F' l = none → Own X.K H0 F' (upd H' l u) l r → GoS X rest D σ (upd H' l u)) (hN : X.N[i]? = some n := by rfl) (hv : Vis X.env.scope n := by first | exact Or.inl rfl | exact Or.inr (Or.inl rfl) | exact Or.inr (Or.inr rfl))
    (hd : (n == ("__debug__" : Str)) = false := by decide) (hcd : (n == ("__classdict__" : Str)) = false := by decide)
    (ha : ∀ v, assign (.Subscript (.Name n p1) a p2) X.env v = (do
      let ov ← holding [v] (eval (.Name n p1) X.env)
      let iv ← holding [v, ov] (eval a X.env)
      standAt p2
      holding [v, ov, iv] (setItem ov iv v)
      release [v, ov, iv] []) := by intro _; rfl)
    (hs : swapsWithSole [.Subscript (.Name n p1) a p2] e pos.line X.env = pure false := by rfl) (hw : swappedStores [.Subscript (.Name n p1) a p2] e X.env = pure none := by rfl) (h1 : (assignEach [.Subscript (.Name n p1) a p2] X.env).map (·.2) = [assign (.Subscript (.Name n p1) a p2) X.env] := by rfl) :
    GoS X (.Assign [.Subscript (.Name n p1) a p2] e pos :: rest) D σ H := by
  obtain ⟨j, hj, rfl⟩ := Option.map_eq_some_iff.mp h
  obtain ⟨_, hl, vs, rfl, rs⟩ := o.h
  refine GoS.cons (ps_asg pe_go (pg_sub (pe_var hN hv hd hcd) pe_go set_list ha) hs hw h1) (he F H (.refl s) _ fun v F2 H2 g r => ?_)
  refine ⟨_, hσ, hk F2 H2 (s.gx g) _ fun w F3 H3 g3 r3 => ?_⟩
  have g4 := g.trans g3
  have o2 := o.up g4
  have hl2 := g4.hh.k _ _ hl trivial
  exact ⟨l, vs, k, j, rfl, r3, hl2, by rw [rs.length]; exact hj, kk _ F3 H3 g4 o2.pl o2.f (Own.set o2.n o2.f (ob_lst (Rps.set (Rp.mono g3.ff r) j (rs.mono g4.ff))))⟩
end
end
end Gx

/-! Gt: lists of ranges, items of private lists, comparing with nothing in it. -/
namespace Gx
open PySem PySem.Spec PyProof.Rows L2
open Rp (rp)
open Ra (ra)
open Ob (ob)
section
variable {X : Cx} {K : PySem.W.Frag} {e a b c d : Expr} {es : List Expr} {σ : L2.St} {F H F0 H0 : Hp} {pos : Pos} {D : Ends} {st : Stmt} {rest body : List Stmt}
theorem rps_rg {i j : Int} : Rps K F (rgV i j) (intsF i (j - i).toNat) := by
  unfold rgV intsF
  have : ∀ l : List Nat, Rps K F (l.map fun (n : Nat) => V.int (i + (n : Int))) (l.map fun (n : Nat) => i + (n : Int)) := by
    intro l
    induction l with
    | nil => exact .nil
    | cons n r ih => exact .cons rfl ih
  exact this _
def lRg (i j : Int) : Option (List Int) := if -(2 ^ 62) ≤ i ∧ i < 2 ^ 62 ∧ -(2 ^ 62) ≤ j ∧ j < 2 ^ 62 ∧ (j - i).toNat ≤ 2 ^ 24 then some (intsF i (j - i).toNat) else none
theorem lRg_of {i j : Int} {r : List Int} (h : lRg i j = some r) : RgOk i j ∧ intsF i (j - i).toNat = r := by
  unfold lRg at h
  split at h
  · rename_i h1; exact ⟨h1, Option.some.inj h⟩
  · cases h
theorem lRg_n {n : Nat} (h : n ≤ 1000000) : lRg 0 (n : Int) = some (intsF 0 n) := by
  have e : ((n : Int) - 0).toNat = n := by omega
  unfold lRg
  rw [if_pos (by rw [e]; exact ⟨by decide, by decide, by omega, by omega, by omega⟩), e]
theorem lRg_p {i j : Int} (h1 : -1000000 ≤ i) (h2 : i ≤ 1000000) (h3 : -1000000 ≤ j) (h4 : j ≤ 1000000) : lRg i j = some (intsF i (j - i).toNat) := if_pos ⟨by omega, by omega, by omega, by omega, by omega⟩
theorem en_listRg1 {n : Int} {r : List Int} {p p2 : Pos} {pos2 : Pos} (hm : X.mg "list" = none) (hr : X.mg "range" = none) (ha : Ev X a σ F H n) (h : lRg 0 n = some r) (hc : X.calm = true := by rfl) (hg : Gl X "list" := by rfl) (hg2 : Gl X "range" := by rfl)
    (na : starEach [a] X.env = (false, eval a X.env) :: starEach [] X.env := by rfl) (na2 : starEach [.Call (.Name "range" p2) [a] [] pos2] X.env = (false, eval (.Call (.Name "range" p2) [a] [] pos2) X.env) :: starEach [] X.env := by rfl) :
    EvN X (.Call (.Name "list" p) [.Call (.Name "range" p2) [a] [] pos2] [] pos) σ F H r := fun F1 H1 g Q q => by
  obtain ⟨h1, rfl⟩ := lRg_of h
  exact GoE.of (pe_listRg hc hg hm (prg_1 hg2 hr pe_go na) na2) (ha F1 H1 g _ fun v F2 H2 g2 r2 => ⟨n, r2, h1, fun l hl => EvN.new q g2 hl rps_rg⟩)
theorem en_listRg2 {i j : Int} {r : List Int} {p p2 : Pos} {pos2 : Pos} (hm : X.mg "list" = none) (hr : X.mg "range" = none) (ha : Ev X a σ F H i) (hb : Ev X b σ F H j) (h : lRg i j = some r) (hc : X.calm = true := by rfl) (hg : Gl X "list" := by rfl) (hg2 : Gl X "range" := by rfl)
    (na : starEach [a, b] X.env = (false, eval a X.env) :: starEach [b] X.env := by rfl) (nb : starEach [b] X.env = (false, eval b X.env) :: starEach [] X.env := by rfl) (hp : (backTo pos2 (starEach [b] X.env)).any (·.1) = false := by rfl) (na2 : starEach [.Call (.Name "range" p2) [a, b] [] pos2] X.env = (false, eval (.Call (.Name "range" p2) [a, b] [] pos2) X.env) :: starEach [] X.env := by rfl) :
    EvN X (.Call (.Name "list" p) [.Call (.Name "range" p2) [a, b] [] pos2] [] pos) σ F H r := fun F1 H1 g Q q => by
  obtain ⟨h1, rfl⟩ := lRg_of h
  exact GoE.of (pe_listRg hc hg hm (prg_2 hg2 hr pe_go pe_go na nb hp) na2) (ha F1 H1 g _ fun v F2 H2 g2 r2 => hb F2 H2 (g.trans g2) _ fun w F3 H3 g3 r3 => ⟨i, j, r2, r3, h1, fun l hl => EvN.new q (g2.trans g3) hl rps_rg⟩)
/-- an item of a private list -/
theorem ev_ixOwn {α : Type} [Rp α] {xs : List α} {x : α} {k : Int} {l : Addr} {n : Str} {p1 : Pos} (i : Nat) (o : Own X.K H0 F H l xs) (hσ : σ[i]? = some (some (.ref l))) (hb : Ev X b σ F H k) (h : L2.atI xs k = some x) (hs : NoSl b := by exact fun _ _ => rfl)
    (hN : X.N[i]? = some n := by rfl) (hv : Vis X.env.scope n := by first | exact Or.inl rfl | exact Or.inr (Or.inl rfl) | exact Or.inr (Or.inr rfl)) (hd : (n == ("__debug__" : Str)) = false := by decide) (hcd : (n == ("__classdict__" : Str)) = false := by decide) :
    Ev X (.Subscript (.Name n p1) b pos) σ F H x := fun F1 H1 g Q q => by
  have o1 := o.up g.toGr
  obtain ⟨_, hl, vs, rfl, rs⟩ := o1.h
  refine GoE.of (pe_ix ix_list (pe_var hN hv hd hcd) pe_go hs) ⟨_, hσ, hb F1 H1 g _ fun w F2 H2 g2 r2 => ?_⟩
  have rs2 := rs.mono g2.ff
  obtain ⟨v, hv2, rv⟩ := rs2.atI h
  exact ⟨l, vs, k, v, rfl, r2, SqL.of (g2.hh.k _ _ hl trivial), hv2, q v F2 H2 g2 rv⟩
theorem Ev.get {α : Type} [Rp α] [NN α] {o : Option α} {x : α} (h : Ev X e σ F H o) (he : o = Option.some x) : Ev X e σ F H x := by
  subst he
  exact h.re fun _ _ r => r
/-! ### x == [], x != () -/
def rEqE (K : PySem.W.Frag) : R2 := fun x y H Q => ∃ a b xs, x = .ref a ∧ y = .ref b ∧ ((SqL K H a xs ∧ SqL K H b []) ∨ (SqT K H a xs ∧ SqT K H b [])) ∧ Q (.bl xs.isEmpty) H
def rNeE (K : PySem.W.Frag) : R2 := fun x y H Q => ∃ a b xs, x = .ref a ∧ y = .ref b ∧ ((SqL K H a xs ∧ SqL K H b []) ∨ (SqT K H a xs ∧ SqT K H b [])) ∧ Q (.bl (!xs.isEmpty)) H
theorem op_eqE (hu : X.A.units < cLine) : OpR X (compareOp .Eq) (rEqE X.K) := fun pins s σ H x y v u Q I rx ry ⟨a, b, xs, e1, e2, h, q⟩ => by
  subst e1; subst e2
  cases rx; cases ry
  rcases h with ⟨h1, h2⟩ | ⟨h1, h2⟩
  · obtain ⟨its, r, pl, _⟩ := I.list h1
    obtain ⟨its2, r2, pl2, _⟩ := I.list h2
    cases r2
    cases r with
    | nil => exact SeqAt.RcAt.lists (e := fun _ => true) pl.isList pl2.isList rfl hu (fun j h1 _ => absurd h1 (Nat.not_lt_zero _)) _ _ _ _ ⟨.bl true, H, I, rfl, q⟩
    | cons _ _ => exact SeqAt.RcAt.lists_lengths pl.isList pl2.isList (by simp) hu _ _ _ _ ⟨.bl false, H, I, rfl, q⟩
  · obtain ⟨its, r, ⟨o, ho, hc, n, hd⟩, _⟩ := I.tuple h1
    obtain ⟨its2, r2, ⟨o2, ho2, hc2, n2, hd2⟩, _⟩ := I.tuple h2
    cases r2
    cases r with
    | nil => exact SeqAt.RcAt.tuples (e := fun _ => true) ⟨o, ho, hc, n, hd⟩ ⟨o2, ho2, hc2, n2, hd2⟩ hu (fun j h1 _ => absurd h1 (Nat.not_lt_zero _)) _ _ _ _ ⟨.bl true, H, I, rfl, q⟩
    | cons _ _ => exact SeqAt.RcAt.tuples (e := fun _ => true) ⟨o, ho, hc, n, hd⟩ ⟨o2, ho2, hc2, n2, hd2⟩ hu (fun j _ h2 => absurd h2 (Nat.not_lt_zero _)) _ _ _ _ ⟨.bl false, H, I, by simp [L2.RelV], q⟩
theorem op_neE (hu : X.A.units < cLine) : OpR X (compareOp .NotEq) (rNeE X.K) := fun pins s σ H x y v u Q I rx ry ⟨a, b, xs, e1, e2, h, q⟩ => by
  subst e1; subst e2
  cases rx; cases ry
  rcases h with ⟨h1, h2⟩ | ⟨h1, h2⟩
  · obtain ⟨its, r, pl, _⟩ := I.list h1
    obtain ⟨its2, r2, pl2, _⟩ := I.list h2
    cases r2
    cases r with
    | nil => exact SeqAt.RcNeAt.lists (e := fun _ => true) pl.isList pl2.isList rfl hu (fun j h1 _ => absurd h1 (Nat.not_lt_zero _)) _ _ _ _ ⟨.bl false, H, I, rfl, q⟩
    | cons _ _ => exact SeqAt.RcNeAt.lists_lengths pl.isList pl2.isList (by simp) hu _ _ _ _ ⟨.bl true, H, I, rfl, q⟩
  · obtain ⟨its, r, ⟨o, ho, hc, n, hd⟩, _⟩ := I.tuple h1
    obtain ⟨its2, r2, ⟨o2, ho2, hc2, n2, hd2⟩, _⟩ := I.tuple h2
    cases r2
    cases r with
    | nil => exact SeqAt.RcNeAt.tuples (e := fun _ => true) ⟨o, ho, hc, n, hd⟩ ⟨o2, ho2, hc2, n2, hd2⟩ hu (fun j h1 _ => absurd h1 (Nat.not_lt_zero _)) _ _ _ _ ⟨.bl false, H, I, rfl, q⟩
    | cons _ _ => exact SeqAt.RcNeAt.tuples (e := fun _ => true) ⟨o, ho, hc, n, hd⟩ ⟨o2, ho2, hc2, n2, hd2⟩ hu (fun j _ h2 => absurd h2 (Nat.not_lt_zero _)) _ _ _ _ ⟨.bl true, H, I, by simp [L2.RelV], q⟩
section
variable {α : Type} [Rp α]
theorem isE {vs : List V} {xs : List α} (r : Rps K F vs xs) : vs.isEmpty = xs.isEmpty := by cases r <;> rfl
theorem o2_eqEL {xs : List α} : Op2 K (rEqE K) xs ([] : List α) xs.isEmpty := fun F H v w Q s ⟨a, vs, e, sq, rs⟩ ⟨b, ws, e2, sq2, rs2⟩ k => by
  cases rs2
  exact ⟨a, b, vs, e, e2, .inl ⟨s.seq sq, s.seq sq2⟩, k _ F H (.refl s) (congrArg V.bl (isE rs))⟩
theorem o2_neEL {xs : List α} : Op2 K (rNeE K) xs ([] : List α) (!xs.isEmpty) := fun F H v w Q s ⟨a, vs, e, sq, rs⟩ ⟨b, ws, e2, sq2, rs2⟩ k => by
  cases rs2
  exact ⟨a, b, vs, e, e2, .inl ⟨s.seq sq, s.seq sq2⟩, k _ F H (.refl s) (congrArg (fun t => V.bl (!t)) (isE rs))⟩
theorem o2_eqET {xs : Tp α} : Op2 K (rEqE K) xs (Tp.mk ([] : List α)) xs.l.isEmpty := fun F H v w Q s ⟨a, vs, e, sq, rs⟩ ⟨b, ws, e2, sq2, rs2⟩ k => by
  cases rs2
  exact ⟨a, b, vs, e, e2, .inr ⟨seqT_mono s sq, seqT_mono s sq2⟩, k _ F H (.refl s) (congrArg V.bl (isE rs))⟩
theorem o2_neET {xs : Tp α} : Op2 K (rNeE K) xs (Tp.mk ([] : List α)) (!xs.l.isEmpty) := fun F H v w Q s ⟨a, vs, e, sq, rs⟩ ⟨b, ws, e2, sq2, rs2⟩ k => by
  cases rs2
  exact ⟨a, b, vs, e, e2, .inr ⟨seqT_mono s sq, seqT_mono s sq2⟩, k _ F H (.refl s) (congrArg (fun t => V.bl (!t)) (isE rs))⟩
end
end
end Gx

/-! Gv: enumerate of a tuple; min, max, sum, all, sorted. -/
namespace Gx
open PySem PySem.Spec PyProof.Rows
open AutoSeq1 (wpAny_loadPart')
/-- what iterates over a tuple -/
abbrev itO (l : Addr) : Obj := { cls := .type "tuple_iterator", data := .fields #[.ref l, .int 0 0] }
abbrev enO (i : Addr) : Obj := { cls := .type "enumerate", data := .fields #[.none, .bool false, .ref i, rawInt 0, .none, .none] }
theorem enumT_made (l : Addr) (xs : Array Value) (k : Nat) (dd : Option Addr) (ss : Array (Option Value)) :
    Meets (Builtin.«enumerate.__new__» ⟨[.type "enumerate", .ref l], []⟩) (fun _ R s => s.heap.get? l = some { cls := .type "tuple", dict := dd, data := .seq xs k, slots := ss } ∧
      R (.ok (.ret (.ref (s.heap.push (itO l)).objs.size))) { s with heap := (s.heap.push (itO l)).push (enO s.heap.objs.size) }) :=
  .of_wp fun P W A R s ⟨at_, R1⟩ => by
    cases s with
    | mk hp gs ds ts os =>
      have sub_ := sub_enumerate
      have tup_ : Heap.IsTuple (Shared.heap ⟨hp, gs, ds, ts, os⟩) l xs := ⟨_, at_, rfl, k, rfl⟩
      wp_walk using wpAny_loadPart' at_
      refine wpAny_stack_any fun _ => wpAny_pure ?_
      split
      · rename_i cl _ _ _ _ _
        cases (cl == Value.type "enumerate") <;> (wp_walk using wpAny_loadPart' at_, wpAny_pyIter_tuple tup_; exact ⟨_, rfl, R1⟩)
      · wp_walk using wpAny_loadPart' at_, wpAny_pyIter_tuple tup_
        exact ⟨_, rfl, R1⟩
theorem call_enumT {P : Program} {W : World} {A : Around} {E : Value → Shared → Prop} {s : Shared} {l : Addr} {xs : Array Value} {Q : Value → Shared → Prop} (tup_ : s.heap.IsTuple l xs)
    (q : ∀ h', IsEnum h' (s.heap.objs.size + 1) s.heap.objs.size 0 .none → h'.IsTupleIter s.heap.objs.size l 0 → (∀ b o, s.heap.get? b = some o → h'.get? b = some o) → Q (.ref (s.heap.objs.size + 1)) { s with heap := h' }) :
    wpAny (model P W) A (call (.type "enumerate") [.ref l]) Q E s := by
  obtain ⟨⟨cls, dd, dat, ss⟩, at_, e1, k, e2⟩ := tup_
  have e1 : cls = .type "tuple" := e1
  have e2 : dat = .seq xs k := e2
  subst e1; subst e2
  have sz : (s.heap.push (itO l)).objs.size = s.heap.objs.size + 1 := Heap.size_push ..
  refine callType_new F.called_enumerate (by decide) (F.typeCall_enumerate_1 _) (F.newCall_enumerate_1 _) (fun o => F.args_object_init_2 o _) F.entry_enumerate_new (enumT_made l xs k dd ss) ⟨at_, ?_⟩
  show _ ∧ _
  rw [sz]
  have en_ : IsEnum ((s.heap.push (itO l)).push (enO s.heap.objs.size)) (s.heap.objs.size + 1) s.heap.objs.size 0 .none := by
    have z := Heap.get?_push_size (s.heap.push (itO l)) (o := enO s.heap.objs.size) rfl
    rwa [sz] at z
  exact ⟨⟨_, en_, rfl⟩, q _ en_ ⟨_, Heap.get?_push_of_some _ (Heap.get?_push_size _ rfl), rfl, rfl⟩ fun b o z => Heap.get?_push_of_some _ (Heap.get?_push_of_some _ z)⟩
end Gx
namespace Gx
open PySem PySem.Spec PyProof.Rows L2
open Rp (rp)
open Ra (ra)
open Ob (ob)
theorem enumT_end {P : Program} {W : World} {A : Around} {E : Value → Shared → Prop} {s : Shared} {e it l : Addr} {i : Nat} {xs : Array Value} {old : Value} {Q : Option Value → Shared → Prop} (hh : A.handled = none)
    (en_ : IsEnum s.heap e it i old) (hit : s.heap.IsTupleIter it l i) (tup_ : s.heap.IsTuple l xs) (none_ : xs[i]? = none) (q : ∀ h', Heap.ExtBut it s.heap h' → Q none { s with heap := h' }) : wpAny (model P W) A (pyNext (.ref e)) Q E s := by
  have ty_ : s.TypeIs (.ref e) "enumerate" := ⟨_, en_, rfl⟩
  unfold pyNext
  refine wpAny_bind (wpAny_attempt (wpAny_callSpecial?_slot (name := Str.ofString "__next__") ty_ F.slot_enumerate_next (wpAny_call_entry F.slot_enumerate_next ty_ F.entry_enumerate_next ?_ (F.args_enumerate_next_1 _))))
  show wpAny _ _ (field (.ref e) 2 >>= _) _ _ _
  refine wpAny_bind (wpAny_field en_ rfl (x := .ref it) rfl (wpAny_bind (wpAny_nextOf_tuple_end hh hit tup_ none_ fun h' x ext ⟨o, ho, hc⟩ => ?_)))
  exact wpAny_bind (wpAny_isInstance (T := "StopIteration") (b := true) ⟨o, ho, hc⟩ isSubtype_stop (wpAny_pure (q _ ext)))
def IteT (K : PySem.W.Frag) (a : Addr) : It :=
  ⟨fun i H => ∃ (xs : List V) (x : V), SqT K H a xs ∧ xs[i]? = some x, fun i H v H' => ∃ T x, v = .ref T ∧ H T = none ∧ H' = upd H T (.tup [.int (i : Nat), x]) ∧ ∀ xs, SqT K H a xs → xs[i]? = some x, fun i H => ∃ xs : List V, SqT K H a xs ∧ xs.length ≤ i⟩
theorem turn_enumT {P : Program} {w : World} {K : PySem.W.Frag} {elts : List Expr} {kk : Nat} {tpos : Pos} (a e it : Addr) :
    Turn P w K (.Tuple elts kk tpos) (IteT K a) [e, it] e (fun i h => (∃ old, IsEnum h e it ((i : Nat) : Int) old) ∧ h.IsTupleIter it a i ∧ e ≠ it) where
  mem := by simp
  obj := fun i h st b hb => by
    obtain ⟨⟨old, he⟩, ⟨o, ho, hc, hd⟩, _⟩ := st
    have e' : b = e ∨ b = it := by simpa using hb
    rcases e' with z | z
    · rw [z]; exact ⟨_, he, fun v q => nomatch q⟩
    · rw [z]; exact ⟨o, ho, fun v q => by rw [hd] at q; cases q⟩
  keep := fun i h h' st k => let ⟨⟨old, he⟩, hi, hne⟩ := st; ⟨⟨old, k e (by simp) _ he⟩, hi.at fun o q => k it (by simp) o q, hne⟩
  item := by
    intro X hP hw hK hc i pins s σ H E I hf st hg
    subst hP hw hK
    obtain ⟨⟨old, he⟩, hit, hne⟩ := st
    obtain ⟨xs, x, hq, hx⟩ := hg
    obtain ⟨its, rv, p, hz⟩ := I.tuple hq
    obtain ⟨u, hu, ru⟩ := rv.get hx
    have hel : e < s.heap.objs.size := Heap.lt_size he
    have hil : it < s.heap.objs.size := by obtain ⟨_, q, _⟩ := hit; exact Heap.lt_size q
    have tup_ : s.heap.IsTuple a its.toArray := p
    have hne2 : a ≠ it := fun z => by
      obtain ⟨o1, q1, c1, _⟩ := hit
      obtain ⟨o2, q2, c2, _⟩ := tup_
      rw [z] at q2; rw [q1] at q2; cases q2; rw [c1] at c2; exact absurd c2 (by decide)
    have hea : e ≠ a := fun z => by
      obtain ⟨o2, q2, c2, _⟩ := tup_
      rw [← z] at q2; rw [show s.heap.get? e = _ from he] at q2; cases q2; exact absurd (show Value.type "enumerate" = Value.type "tuple" from c2) (by decide)
    refine wpAny_pyNext_enum_itemC (Draws.tuple (A := X.A.in1) (I.ok.hd hc) it a hne2 its.toArray) he ⟨hit, tup_⟩ (by
      have h1 := (List.getElem?_eq_some_iff.mp hu).1
      simpa using h1) hne (by simp [hne, hea]) fun u' h' tk hP ho hst' hT hsz hk => ?_
    obtain rfl : u = u' := by
      have h2 : its.toArray[i]? = some u' := hP
      have h1 : its.toArray[i]? = some u := by simpa using hu
      rw [h1] at h2; exact Option.some.inj h2
    obtain ⟨hit', _⟩ := hst'
    refine ⟨_, rfl, wpAny_letOwnedTupleGo_enum (s := { s with heap := h', toks := tk + 1 }) ho fun h'' he' sb => ?_⟩
    have hT2 : h''.get? s.heap.objs.size = some { cls := .type "tuple", data := .seq #[.int i tk, u] } := (sb.2 _ (Nat.ne_of_gt hel)).trans hT
    have new : ObjOk X.prog X.w (upd H s.heap.objs.size (.tup [.int (i : Nat), x])) h'' s.heap.objs.size (.tup [.int (i : Nat), x]) :=
      ⟨by show 2 ≤ sizeLine; decide, [.int i tk, u], .cons ⟨_, rfl⟩ (.cons ru .nil), ⟨_, hT2, rfl, _, rfl⟩⟩
    have I1 : Inv X pins σ (upd H s.heap.objs.size (.tup [.int (i : Nat), x])) { s with heap := h'', toks := tk + 1 } :=
      I.turnedNew (ch := [e, it]) (fun b ob hb q => (sb.2 b (fun z => hb (by simp [z]))).trans (hk b ob (fun z => hb (by simp [z])) (fun z => hb (by simp [z])) q)) hf (Nat.le_refl _) new
    refine ⟨.ref s.heap.objs.size, _, I1, rfl, ⟨_, x, rfl, I.hok.fresh (Nat.le_refl _), rfl, fun ys hy => by rw [I.tuple_inj hy hq]; exact hx⟩, ⟨⟨u, ?_⟩, hit'.at fun o q => (sb.2 it (Ne.symm hne)).trans q, hne⟩, fun b hb => ?_⟩
    · have e1 : ((i + 1 : Nat) : Int) = (i : Int) + 1 := by omega
      rw [e1]; exact he'
    · have hb' : b < s.heap.objs.size := by
        have e' : b = e ∨ b = it := by simpa using hb
        rcases e' with z | z
        · rw [z]; exact hel
        · rw [z]; exact hil
      rw [upd_ne (Nat.ne_of_lt hb')]
      exact (hf b hb).1
  done := by
    intro X hP hw hK hc i pins s σ H E I hf st hg
    subst hP hw hK
    obtain ⟨⟨old, he⟩, hit, hne⟩ := st
    obtain ⟨xs, hq, hx⟩ := hg
    obtain ⟨its, rv, p, hz⟩ := I.tuple hq
    obtain ⟨f0, f1, f2, f3, f4, f5⟩ := hf it (by simp)
    have hl := rv.length
    have tup_ : s.heap.IsTuple a its.toArray := p
    have hne2 : a ≠ it := fun z => by
      obtain ⟨o1, q1, c1, _⟩ := hit
      obtain ⟨o2, q2, c2, _⟩ := tup_
      rw [z] at q2; rw [q1] at q2; cases q2; rw [c1] at c2; exact absurd c2 (by decide)
    exact enumT_end (I.ok.hd hc) he hit tup_ (by simp; omega) fun h' eb => ⟨rfl, I.turned (t' := s.toks) (fun b o hb q => eb b o hb q) f0 f1 f3 f4 f5⟩
  self := fun A i s Q E st h => let ⟨⟨_, he⟩, _⟩ := st; wpAny_pyIter_enum he h
def iEnumT (K : PySem.W.Frag) (ta : TA) : TI := fun σ H R => ta σ H fun vs H1 => ∃ a xs, vs = [.ref a] ∧ SqT K H1 a xs ∧ R (IteT K a) H1
theorem pi_enumT {X : Cx} {e : Expr} {ta : TA} {p pos tpos : Pos} {elts : List Expr} {kk : Nat} (hg : Gl X "enumerate") (hm : X.mg "enumerate" = none) (ha : PA X [e] ta) (hs : starEach [e] X.env = [(false, eval e X.env)] := by rfl) :
    PI X (.Tuple elts kk tpos) (.Call (.Name "enumerate" p) [e] [] pos) (iEnumT X.K ta) := by
  refine ⟨fun pins s σ H R I h => ?_⟩
  refine Call_ (ld_blt I hg hm boot_enumerate (PyProof.Rows.callWith_type1 (thn (ha.run pos pins s σ H _ I h) fun us s1 ⟨vs, H1, I1, r1, q1⟩ => ?_) hs rfl))
  obtain ⟨a, xs, ex, hq, q⟩ := q1
  subst ex
  cases r1 with
  | cons r rr =>
    cases rr
    cases r
    obtain ⟨its, rv, p', hz⟩ := I1.tuple hq
    refine call_enumT (show s1.heap.IsTuple a its.toArray from p') fun h' he hit hk => wpAny_pyIter_enum he ?_
    have I2 : Inv X pins σ H1 { s1 with heap := h' } := I1.kept (t' := s1.toks) hk
    refine ⟨s1.heap.objs.size + 1, [s1.heap.objs.size + 1, s1.heap.objs.size], _, _, H1, rfl, I2, turn_enumT a (s1.heap.objs.size + 1) s1.heap.objs.size, ⟨⟨.none, he⟩, hit, Nat.succ_ne_self _⟩, fun b hb => ?_, q⟩
    have e' : b = s1.heap.objs.size + 1 ∨ b = s1.heap.objs.size := by simpa using hb
    have hle : s1.heap.objs.size ≤ b := by
      rcases e' with z | z
      · rw [z]; exact Nat.le_add_right _ _
      · rw [z]; exact Nat.le_refl _
    exact I1.fpOk hle (I1.hok.fresh hle)
section
variable {X : Cx} {K : PySem.W.Frag} {e a b c d : Expr} {es : List Expr} {σ : L2.St} {F H F0 H0 : Hp} {pos : Pos} {D : Ends} {st : Stmt} {rest body : List Stmt}
theorem ei_enumT {α θ : Type} [Rp α] [Rp θ] [TL θ α] {xs : θ} {p tpos : Pos} {elts : List Expr} {kk : Nat} (h : Ev X e σ F H xs) (hm : X.mg "enumerate" = none) (hg : Gl X "enumerate" := by rfl) (hs : starEach [e] X.env = [(false, eval e X.env)] := by rfl) : EvI X (.Tuple elts kk tpos) (.Call (.Name "enumerate" p) [e] [] pos) σ F H (enumL (TL.l xs)) := fun F1 H1 g R q =>
  GoI.of (pi_enumT hg hm (pa_cons pe_go pa_nil (by rw [hs]; rfl)) hs) (h F1 H1 g _ fun v F2 H2 g2 r2 => let ⟨a, vs, e, sq, rs⟩ := TL.sq r2; ⟨a, vs, by rw [e], sqT_mono g2.fh sq, q _ F2 H2 g2 fun i Fi Hi s1 s2 => by
    have sq' : SqT X.K Hi a vs := sqT_mono s2 (sqT_mono s1 sq)
    refine ⟨fun x hx => ?_, fun e => ⟨vs, sq', by rw [e, enumF_len, rs.length]; exact Nat.le_refl _⟩⟩
    obtain ⟨hi, hx2⟩ := enumF_get hx
    obtain ⟨y, hy, ry⟩ := rs.get hx2
    refine ⟨⟨vs, y, sq', hy⟩, fun v H' ⟨T, x', e1, e2, e3, e4⟩ => ?_⟩
    subst e1; subst e3
    have e5 := e4 vs sq'
    rw [hy] at e5
    cases e5
    rw [Int.zero_add] at hi
    have := pair_new (α := Int) s2 e2 (v := .int (i : Nat)) (congrArg V.int hi.symm) (Rp.mono s1 ry)
    exact this⟩)
/-! ### min, max, sum, all, sorted -/
theorem rps_ints {vs : List V} {xs : List Int} (h : Rps K F vs xs) : vs = xs.map V.int := by
  induction h with
  | nil => rfl
  | cons r t ih => rw [ih, show _ = V.int _ from r]; rfl
theorem rps_bls {vs : List V} {xs : List Bool} (h : Rps K F vs xs) : vs = xs.map V.bl := by
  induction h with
  | nil => rfl
  | cons r t ih => rw [ih, show _ = V.bl _ from r]; rfl
theorem o2_ltT {xs ys : Tp Int} : Op2 K (rLtT K) xs ys (HT.lexLt xs.l ys.l) := fun F H v w Q s ⟨a, vs, e, sq, rs⟩ ⟨b, ws, e2, sq2, rs2⟩ k => by
  have h1 := rps_ints rs
  have h2 := rps_ints rs2
  subst h1; subst h2
  exact ⟨a, b, xs.l, ys.l, e, e2, seqT_mono s sq, seqT_mono s sq2, k _ F H (.refl s) rfl⟩
theorem oc_min {xs : List Int} {m : Int} (h : xs.min? = some m) : OpC K (rMin K) (xs, ()) m :=
  oc1 fun F H v Q s ⟨a, vs, e, sq, rs⟩ k => ⟨a, xs, by rw [e], by rw [← rps_ints rs]; exact s.seq sq, by
    cases xs with
    | nil => cases h
    | cons _ _ => exact Nat.succ_pos _, fun m' h1 h2 => k _ F H (.refl s) (by
      have := List.min?_eq_some_iff.mp h
      have e : m = m' := Int.le_antisymm (this.2 _ h1) (h2 _ this.1)
      exact e ▸ rfl)⟩
theorem oc_max {xs : List Int} {m : Int} (h : xs.max? = some m) : OpC K (rMax K) (xs, ()) m :=
  oc1 fun F H v Q s ⟨a, vs, e, sq, rs⟩ k => ⟨a, xs, by rw [e], by rw [← rps_ints rs]; exact s.seq sq, by
    cases xs with
    | nil => cases h
    | cons _ _ => exact Nat.succ_pos _, fun m' h1 h2 => k _ F H (.refl s) (by
      have := List.max?_eq_some_iff.mp h
      have e : m = m' := Int.le_antisymm (h2 _ this.1) (this.2 _ h1)
      exact e ▸ rfl)⟩
theorem oc_sum {xs : List Int} : OpC K (rSum K) (xs, ()) xs.sum :=
  oc1 fun F H v Q s ⟨a, vs, e, sq, rs⟩ k => ⟨a, xs, by rw [e], by rw [← rps_ints rs]; exact s.seq sq, k _ F H (.refl s) rfl⟩
theorem oc_all {xs : List Bool} : OpC K (rAll K) (xs, ()) (xs.all id) :=
  oc1 fun F H v Q s ⟨a, vs, e, sq, rs⟩ k => ⟨a, xs, by rw [e], by rw [← rps_bls rs]; exact s.seq sq, k _ F H (.refl s) rfl⟩
theorem oc_any {xs : List Bool} : OpC K (rAny K) (xs, ()) (xs.any id) :=
  oc1 fun F H v Q s ⟨a, vs, e, sq, rs⟩ k => ⟨a, xs, by rw [e], by rw [← rps_bls rs]; exact s.seq sq, k _ F H (.refl s) rfl⟩
end
end Gx

/-! Gw: what is read from a private dict may be a list. -/
namespace Gx
open PySem PySem.Spec PyProof.Rows L2
open Rp (rp)
open Ra (ra)
open Ob (ob)
theorem isD_tup {F : Hp} {l : Addr} (d : IsD F l) : (∀ xs, ¬ F l = some (.tup xs)) ∧ (∀ (o' : Obj) (xs : List V), ¬ F l = some (.frz o' (.tup xs))) := by
  rcases d with ⟨ks, d | ⟨o, d⟩⟩ | ⟨ks, d | ⟨o, d⟩⟩ <;> exact ⟨fun xs h => (by rw [d] at h; cases h), fun o' xs h => (by rw [d] at h; cases h)⟩
theorem isD_lst {F : Hp} {l : Addr} {xs : List V} (d : IsD F l) : ¬ Rd F l (.lst xs) := by
  rcases d with ⟨ks, d | ⟨o, d⟩⟩ | ⟨ks, d | ⟨o, d⟩⟩ <;> rintro (h | ⟨o, h⟩) <;> (rw [d] at h; cases h)
theorem er_neD {F : Hp} {l a : Addr} (h : ¬ a = l) : er F l a = F a := if_neg h
/-- a thing that is no dict and has none in it -/
class FlatD (α : Type) [Rp α] : Prop where
  fl : ∀ {K : PySem.W.Frag} {F : Hp} {l : Addr} {v : V} {x : α}, IsD F l → rp K F v x → rp K (er F l) v x
instance : FlatD Int := ⟨fun _ h => h⟩
instance : FlatD Bool := ⟨fun _ h => h⟩
instance : FlatD Str := ⟨fun _ h => h⟩
instance : FlatD Unit := ⟨fun _ h => h⟩
instance {α : Type} [Rp α] [NN α] [FlatD α] : FlatD (Option α) := ⟨fun {K F l v x} h1 h => by
  cases x with
  | none => exact h
  | some x => exact FlatD.fl (α := α) h1 h⟩
theorem Rps.fd {α : Type} [Rp α] [FlatD α] {K : PySem.W.Frag} {F : Hp} {l : Addr} {vs : List V} {xs : List α} (h1 : IsD F l) (h : Rps K F vs xs) : Rps K (er F l) vs xs := L2.Paired.mapP h fun _ _ => FlatD.fl h1
instance {α : Type} [Rp α] [FlatD α] : FlatD (Tp α) := ⟨fun h1 ⟨a, vs, e, q, r⟩ => ⟨a, vs, e, er_seqT (isD_tup h1).1 (isD_tup h1).2 q, Rps.fd h1 r⟩⟩
instance {α : Type} [Rp α] [FlatD α] : FlatD (List α) := ⟨fun {K F l v x} h1 ⟨a, vs, e, q, r⟩ => ⟨a, vs, e, by
  rcases q with q | q
  · refine .inl ?_
    have : ¬ a = l := fun z => isD_lst h1 (z ▸ q)
    unfold Rd
    rw [er_neD this]; exact q
  · exact .inr q, Rps.fd h1 r⟩⟩
class FlatDR (τ : Type) [Ra τ] : Prop where
  fl : ∀ {K : PySem.W.Frag} {F : Hp} {l : Addr} {v : List V} {x : τ}, IsD F l → ra K F v x → ra K (er F l) v x
instance : FlatDR Unit := ⟨fun _ h => h⟩
instance {α τ : Type} [Rp α] [Ra τ] [FlatD α] [FlatDR τ] : FlatDR (α × τ) := ⟨fun h1 ⟨v, r, e, p, q⟩ => ⟨v, r, e, FlatD.fl h1 p, FlatDR.fl h1 q⟩⟩
theorem rpT.fd {θ τ : Type} [Ra τ] [FlatDR τ] {row : θ → τ} {K : PySem.W.Frag} {F : Hp} {l : Addr} {v : V} {x : θ} (h1 : IsD F l) : rpT row K F v x → rpT row K (er F l) v x := fun ⟨a, vs, e, q, r⟩ => ⟨a, vs, e, er_seqT (isD_tup h1).1 (isD_tup h1).2 q, FlatDR.fl h1 r⟩
instance {α : Type} [Rp α] [FlatD α] : FlatD (T1 α) := ⟨rpT.fd⟩
instance {α β : Type} [Rp α] [Rp β] [FlatD α] [FlatD β] : FlatD (T2 α β) := ⟨rpT.fd⟩
instance {α β γ : Type} [Rp α] [Rp β] [Rp γ] [FlatD α] [FlatD β] [FlatD γ] : FlatD (T3 α β γ) := ⟨rpT.fd⟩
instance {α β γ δ : Type} [Rp α] [Rp β] [Rp γ] [Rp δ] [FlatD α] [FlatD β] [FlatD γ] [FlatD δ] : FlatD (T4 α β γ δ) := ⟨rpT.fd⟩
instance {α β γ δ ε : Type} [Rp α] [Rp β] [Rp γ] [Rp δ] [Rp ε] [FlatD α] [FlatD β] [FlatD γ] [FlatD δ] [FlatD ε] : FlatD (T5 α β γ δ ε) := ⟨rpT.fd⟩
section
variable {X : Cx} {K : PySem.W.Frag} {e a b c d : Expr} {es : List Expr} {σ : L2.St} {F H F0 H0 : Hp} {pos : Pos} {D : Ends} {st : Stmt} {rest body : List Stmt}
theorem ev_thawD {α κ ν : Type} [Rp α] [FlatD α] [Rp κ] [DecidableEq κ] [DKey κ] [Rp ν] {x : α} {y : Dct κ ν} {l : Addr} (o : Own X.K H0 F H l y) (s : L2.Same F H) (h : ∀ F' H', L2.Same F F' → L2.Same F' H' → rp X.K F' (.ref l) y → (∀ a, a ≠ l → F' a = F a ∧ H' a = H a) → Ev X e σ F' H' x) : Ev X e σ F H x := fun F1 H1 g Q q => by
  obtain ⟨u, hl, r⟩ := o.h
  have hl1 := g.hh.k _ _ hl (Ob.pl r).ntb
  refine GoE.locked hl1 (Ob.mu r) fun od => ?_
  obtain ⟨g1, f1, h1⟩ := GrX.show_ (u := .frz od u) hl o.f (Ob.ls r) (Ob.pl r) g
  refine h _ _ (same_upd o.f) (shown s) (Ob.fz upd_same (Ob.mono (same_upd o.f) r)) (fun a ha => ⟨upd_ne ha, upd_ne ha⟩) _ _ g1 _ fun v F2 H2 g2 r2 => ?_
  have e2 : F2 l = some (.frz od u) := g2.ff _ _ upd_same
  have hd : IsD F2 l := by
    obtain ⟨kvs, e, _⟩ := r
    exact DKey.isD (.inr ⟨od, e ▸ e2⟩)
  exact ⟨g2.fh _ _ e2, q v (er F2 l) _ (Gr.hide h1 f1 (Ob.pl r) g2) (FlatD.fl hd r2)⟩
theorem call_lenDR : CallR X (.builtin "len") (fun xs H Q => ∃ (a : Addr) (kvs : List (Key × V)), xs = [V.ref a] ∧ Rd H a (.dK kvs) ∧ Q (.int (kvs.length : Nat)) H) := by
  intro pins s σ H xs us Q I r h
  obtain ⟨a, kvs, rfl, ha, q⟩ := h
  obtain ⟨u, rfl, ru⟩ := vals1 r
  cases ru
  exact d_len I ha fun t s' I' => ⟨.int kvs.length, H, I', ⟨t, rfl⟩, q⟩
theorem oc_lenD {κ ν : Type} [Rp κ] [DecidableEq κ] [KeyS κ] [Rp ν] {m : Dct κ ν} : OpC K (fun xs H Q => ∃ (a : Addr) (kvs : List (Key × V)), xs = [V.ref a] ∧ Rd H a (.dK kvs) ∧ Q (.int (kvs.length : Nat)) H) (m, ()) (m.l.length : Int) :=
  oc1 fun F H v Q s ⟨a, o, kvs, e, hF, kr⟩ k => ⟨a, kvm KeyS.g kvs, by rw [e], .inr ⟨o, s _ _ hF⟩, k _ F H (.refl s) (by rw [kvm_len]; exact congrArg (fun n : Nat => V.int n) (Paired.length kr))⟩
end
/-- an item of a list that is a number -/
theorem el_int {es : List Expr} {i : Int} {j : Nat} {pos : Pos} {xs : List Int} (hr : EvL X es σ F H xs) : EvL X (.Constant (.int i) j pos :: es) σ F H (i :: xs) := el_cons ev_int hr
/-! ### a list taken apart -/
def unlist2 {α : Type} : List α → Option (T2 α α)
  | [a, b] => some ⟨a, b⟩
  | _ => none
def unlist3 {α : Type} : List α → Option (T3 α α α)
  | [a, b, c] => some ⟨a, b, c⟩
  | _ => none
def unlist4 {α : Type} : List α → Option (T4 α α α α)
  | [a, b, c, d] => some ⟨a, b, c, d⟩
  | _ => none
theorem unl2 {K : PySem.W.Frag} {F : Hp} {v : V} {α : Type} [Rp α] {xs : List α} {t : T2 α α} (h : unlist2 xs = some t) (r : rp K F v xs) : ∃ a vs, v = .ref a ∧ SqL K F a vs ∧ ra K F vs t.row := by
  obtain ⟨a, vs, e, q, rs⟩ := r
  match xs, h with
  | [x, y], h =>
    cases h
    cases rs with
    | cons r1 rs => cases rs with
      | cons r2 rs => cases rs; exact ⟨a, _, e, q, _, _, rfl, r1, _, _, rfl, r2, rfl⟩
theorem unl3 {K : PySem.W.Frag} {F : Hp} {v : V} {α : Type} [Rp α] {xs : List α} {t : T3 α α α} (h : unlist3 xs = some t) (r : rp K F v xs) : ∃ a vs, v = .ref a ∧ SqL K F a vs ∧ ra K F vs t.row := by
  obtain ⟨a, vs, e, q, rs⟩ := r
  match xs, h with
  | [x, y, z], h =>
    cases h
    cases rs with
    | cons r1 rs => cases rs with
      | cons r2 rs => cases rs with
        | cons r3 rs => cases rs; exact ⟨a, _, e, q, _, _, rfl, r1, _, _, rfl, r2, _, _, rfl, r3, rfl⟩
theorem unl4 {K : PySem.W.Frag} {F : Hp} {v : V} {α : Type} [Rp α] {xs : List α} {t : T4 α α α α} (h : unlist4 xs = some t) (r : rp K F v xs) : ∃ a vs, v = .ref a ∧ SqL K F a vs ∧ ra K F vs t.row := by
  obtain ⟨a, vs, e, q, rs⟩ := r
  match xs, h with
  | [x, y, z, u], h =>
    cases h
    cases rs with
    | cons r1 rs => cases rs with
      | cons r2 rs => cases rs with
        | cons r3 rs => cases rs with
          | cons r4 rs => cases rs; exact ⟨a, _, e, q, _, _, rfl, r1, _, _, rfl, r2, _, _, rfl, r3, _, _, rfl, r4, rfl⟩
theorem seqL_mono {K : PySem.W.Frag} {F H : Hp} {a : Addr} {vs : List V} (s : L2.Same F H) (q : SqL K F a vs) : SqL K H a vs := s.seq q
/-! ### a thing of which no more is known than that it is there -/
structure Blur : Type where
instance : Rp Blur := ⟨fun _ _ v _ => v ≠ .non, fun _ h => h⟩
instance : NN Blur := ⟨fun h => h rfl⟩
instance : Flat Blur := ⟨fun _ _ h => h⟩
instance : FlatD Blur := ⟨fun _ h => h⟩
theorem ev_blur {X : Cx} {e : Expr} {σ : L2.St} {F H : Hp} {α : Type} [Rp α] [NN α] {o : Option α} (h : Ev X e σ F H o) : Ev X e σ F H (o.map fun _ => Blur.mk) := fun F1 H1 g Q q => h F1 H1 g Q fun v F2 H2 g2 r2 => q v F2 H2 g2 (by
  cases o with
  | none => exact r2
  | some x => exact fun z => NN.nn (α := α) (z ▸ r2))
/-! ### the same with what is told ahead: a named argument makes the reader of the text look through the whole type -/
section
variable {X : Cx} {e a b c : Expr} {σ : L2.St} {F H : Hp} {pos : Pos} {D : Ends} {rest : List Stmt}
theorem go_setA (α : Type) [Rp α] {x : α} {n : Str} {p : Pos} (i : Nat) (s : SmX X.K F H) (he : Ev X e σ F H x) (k : ∀ v F' H', Gr F H F' H' → rp X.K F' v x → GoS X rest D (σ.set i (some v)) H') (hN : X.N.Nodup) (hi : X.N[i]? = some n := by rfl)
    (hx : Loc X.env.scope n := by first | exact Or.inl rfl | exact Or.inr rfl) (hs : swapsWith e (some (.Name n p)) pos.line X.env = pure false := by rfl) (hf : X.fn n = true ∨ X.env.scope.names.lookup n = some .local := by first | exact .inl rfl | exact .inr rfl) :
    GoS X (.Assign [.Name n p] e pos :: rest) D σ H := go_set i s he k hN hi hx hs hf
theorem go_setNA (α : Type) [Rp α] [Ob α] {x : α} {n : Str} {p : Pos} (i : Nat) (s : SmX X.K F H) (he : EvN X e σ F H x) (k : ∀ l o F' H', Gr F H F' H' → H l = none → F' l = none → H' l = some o → ob X.K F' o x → GoS X rest D (σ.set i (some (.ref l))) H') (hN : X.N.Nodup) (hi : X.N[i]? = some n := by rfl)
    (hx : Loc X.env.scope n := by first | exact Or.inl rfl | exact Or.inr rfl) (hs : swapsWith e (some (.Name n p)) pos.line X.env = pure false := by rfl) (hf : X.fn n = true ∨ X.env.scope.names.lookup n = some .local := by first | exact .inl rfl | exact .inr rfl) :
    GoS X (.Assign [.Name n p] e pos :: rest) D σ H := go_setN i s he k hN hi hx hs hf
theorem go_retA (α : Type) [Rp α] {x : α} (s : SmX X.K F H) (he : Ev X e σ F H x) (k : ∀ v F' H', Gr F H F' H' → rp X.K F' v x → D.rt v H') : GoS X (.Return (some e) pos :: rest) D σ H := go_ret s he k
theorem go_ifA (t : Bool) {as bs : List Stmt} (s : SmX X.K F H) (hc : EvT X c σ F H t) (ka : t = true → ∀ F' H', Gr F H F' H' → GoS X as { D with nx := GoS X rest D } σ H') (kb : t = false → ∀ F' H', Gr F H F' H' → GoS X bs { D with nx := GoS X rest D } σ H') :
    GoS X (.If c as bs pos :: rest) D σ H := go_if s hc ka kb
theorem go_ifjA (t : Bool) {as bs : List Stmt} (P : L2.St → Hp → Prop) (s : SmX X.K F H) (hc : EvT X c σ F H t) (ka : t = true → ∀ F' H', Gr F H F' H' → GoS X as { D with nx := P } σ H') (kb : t = false → ∀ F' H', Gr F H F' H' → GoS X bs { D with nx := P } σ H')
    (k : ∀ σ' H', P σ' H' → GoS X rest D σ' H') : GoS X (.If c as bs pos :: rest) D σ H := go_ifj P s hc ka kb k
theorem EvN.evA (α : Type) [Rp α] [Ob α] {x : α} (h : EvN X e σ F H x) : Ev X e σ F H x := h.ev
theorem ew_orA (x : Bool) {r : Bool} {rest : List Expr} (ha : EvT X a σ F H x) (hb : x = false → EvW X (.BoolOp .Or (b :: rest) pos) σ F H r) (hn : x = true → r = true) : EvW X (.BoolOp .Or (a :: b :: rest) pos) σ F H r := ew_or ha hb hn
theorem ew_andA (x : Bool) {r : Bool} {rest : List Expr} (ha : EvT X a σ F H x) (hb : x = true → EvW X (.BoolOp .And (b :: rest) pos) σ F H r) (hn : x = false → r = false) : EvW X (.BoolOp .And (a :: b :: rest) pos) σ F H r := ew_and ha hb hn
theorem ev_andA (x : Bool) {r : Bool} {rest : List Expr} (ha : Ev X a σ F H x) (hb : x = true → Ev X (.BoolOp .And (b :: rest) pos) σ F H r) (hn : x = false → r = false) : Ev X (.BoolOp .And (a :: b :: rest) pos) σ F H r := ev_and ha hb hn
theorem ev_powcA (z : Int) {x y : Int} (ha : Ev X a σ F H x) (hb : Ev X b σ F H y) (h : CPow x y) (hz : x ^ y.toNat = z) : Ev X (.BinOp a .Pow b pos) σ F H z := ev_powc ha hb h hz
end
end Gx

/-! Gr: isinstance of own classes. -/
namespace Gx
open PySem PySem.Spec PyProof.Rows L2
open Rp (rp)
open Ra (ra)
open Ob (ob)
/-- what isinstance asks of a class cn, and its answer for dn -/
structure IsaF (K : PySem.W.Frag) (cn dn : Str) (b : Bool) : Prop where
  ha : PySem.W.findIn K (.ref (He.ga K cn)) "__class__" = some (some (.builtin "object.__class__"))
  hn : PySem.W.specialIn K (.builtin "object.__class__") "__get__" = some (some (.builtin "getset_descriptor.__get__"))
  ht : PySem.W.takesIn K (.builtin "object.__class__") = some true
  hm : PySem.W.mroIn K (He.ga K cn) (.type "object") = some true
  kit : PySem.W.kitOne K (.ref (He.ga K cn)) (.ref (He.ga K dn)) = some b
def isaB (K : PySem.W.Frag) (cn dn : Str) (b : Bool) : Bool := decide (PySem.W.findIn K (.ref (He.ga K cn)) "__class__" = some (some (.builtin "object.__class__"))) && (decide (PySem.W.specialIn K (.builtin "object.__class__") "__get__" = some (some (.builtin "getset_descriptor.__get__"))) && (decide (PySem.W.takesIn K (.builtin "object.__class__") = some true) && (decide (PySem.W.mroIn K (He.ga K cn) (.type "object") = some true) && decide (PySem.W.kitOne K (.ref (He.ga K cn)) (.ref (He.ga K dn)) = some b))))
theorem isaB_ok {K : PySem.W.Frag} {cn dn : Str} {b : Bool} (h : isaB K cn dn b = true) : IsaF K cn dn b := by
  obtain ⟨h1, h⟩ := Bool.and_eq_true_iff.mp h
  obtain ⟨h2, h⟩ := Bool.and_eq_true_iff.mp h
  obtain ⟨h3, h⟩ := Bool.and_eq_true_iff.mp h
  obtain ⟨h4, h5⟩ := Bool.and_eq_true_iff.mp h
  exact ⟨of_decide_eq_true h1, of_decide_eq_true h2, of_decide_eq_true h3, of_decide_eq_true h4, of_decide_eq_true h5⟩
section
variable {X : Cx} {K : PySem.W.Frag} {e a b c d : Expr} {es : List Expr} {σ : L2.St} {F H F0 H0 : Hp} {pos : Pos} {D : Ends} {st : Stmt} {rest body : List Stmt}
theorem ev_isc {α : Type} [Rp α] {x : α} {cn dn : Str} {r : Bool} {p1 p2 : Pos} (hx : ∀ F v, rp X.K F v x → ∃ a dx fs, v = .ref a ∧ F a = some (.ins (He.ga X.K cn) dx fs)) (I : IsaF X.K cn dn r) (cl : Cls X.K (He.ga X.K cn)) (hm : X.mg "isinstance" = none) (hD : X.mg dn = some (.ref (He.ga X.K dn))) (ha : Ev X a σ F H x)
    (hg : Gl X "isinstance" := by rfl) (hgD : Gl X dn := by rfl) (hd : (dn == ("__debug__" : Str)) = false := by decide)
    (hs : starEach [a, .Name dn p2] X.env = (false, eval a X.env) :: starEach [.Name dn p2] X.env := by rfl) (hs2 : starEach [.Name dn p2] X.env = (false, eval (.Name dn p2) X.env) :: starEach [] X.env := by rfl)
    (hpl : (backTo pos (starEach [.Name dn p2] X.env)).any (·.1) = false := by rfl) : Ev X (.Call (.Name "isinstance" p1) [a, .Name dn p2] [] pos) σ F H r := fun F1 H1 g Q q =>
  GoE.of (pe_callB call_isi hg hm (by decide +kernel) (pa_cons pe_go (pa_cons (pe_glob (v := .ref (He.ga X.K dn)) hgD hD rfl hd) pa_nil hs2) hs) (by decide) (by decide) hs hpl)
    (ha F1 H1 g _ fun v F2 H2 g2 r2 => by
      obtain ⟨z, dx, fs, e, hF⟩ := hx F2 v r2
      exact ⟨v, .ref (He.ga X.K dn), .ref (He.ga X.K cn), .ref (He.ga X.K dn), r, rfl, .own _, e ▸ .base (.ins (g2.fh _ _ hF) cl I.ha I.hn I.ht I.hm), I.kit, q _ F2 H2 g2 rfl⟩)
theorem rpI.ins {cn : Str} {names : List Str} {τ : Type} [Ra τ] {F : Hp} {v : V} {x : τ} (h : rpI cn names K F v x) : ∃ a dx fs, v = .ref a ∧ F a = some (.ins (He.ga K cn) dx fs) := by
  obtain ⟨a, dx, vs, e, q, _⟩ := h
  exact ⟨a, dx, _, e, q⟩
structure T6 (α β γ δ ε ζ : Type) where
  a : α
  b : β
  c : γ
  d : δ
  e : ε
  f : ζ
  deriving DecidableEq
abbrev T6.row {α β γ δ ε ζ : Type} (x : T6 α β γ δ ε ζ) : α × β × γ × δ × ε × ζ × Unit := (x.a, x.b, x.c, x.d, x.e, x.f, ())
instance {α β γ δ ε ζ : Type} [Rp α] [Rp β] [Rp γ] [Rp δ] [Rp ε] [Rp ζ] : Rp (T6 α β γ δ ε ζ) := ⟨rpT T6.row, rpT.mono⟩
instance {α β γ δ ε ζ : Type} [Rp α] [Rp β] [Rp γ] [Rp δ] [Rp ε] [Rp ζ] : NN (T6 α β γ δ ε ζ) := ⟨rpT.nn⟩
instance {α β γ δ ε ζ : Type} [Rp α] [Rp β] [Rp γ] [Rp δ] [Rp ε] [Rp ζ] : Tup (T6 α β γ δ ε ζ) (α × β × γ × δ × ε × ζ × Unit) := ⟨T6.row, Iff.rfl⟩
instance {α β γ δ ε ζ : Type} [Rp α] [Rp β] [Rp γ] [Rp δ] [Rp ε] [Rp ζ] [Flat α] [Flat β] [Flat γ] [Flat δ] [Flat ε] [Flat ζ] : Flat (T6 α β γ δ ε ζ) := ⟨rpT.fl⟩
instance {α β γ δ ε ζ : Type} [Rp α] [Rp β] [Rp γ] [Rp δ] [Rp ε] [Rp ζ] [FlatD α] [FlatD β] [FlatD γ] [FlatD δ] [FlatD ε] [FlatD ζ] : FlatD (T6 α β γ δ ε ζ) := ⟨rpT.fd⟩
instance {α β γ δ ε ζ : Type} [Rp α] [Rp β] [Rp γ] [Rp δ] [Rp ε] [Rp ζ] : Kd (T6 α β γ δ ε ζ) := ⟨"tuple", rpT.kd⟩
instance {α β γ δ ε ζ : Type} [Rp α] [Rp β] [Rp γ] [Rp δ] [Rp ε] [Rp ζ] [Pd α] [Pd β] [Pd γ] [Pd δ] [Pd ε] [Pd ζ] : Pd (T6 α β γ δ ε ζ) := ⟨fun x => .tuple (PdR.toR x.row), rpT.dp, rowEq fun x y => by cases x; cases y; simp [T6.row]⟩
instance {α β γ δ ε ζ : Type} [Rp α] [Rp β] [Rp γ] [Rp δ] [Rp ε] [Rp ζ] [Pd α] [Pd β] [Pd γ] [Pd δ] [Pd ε] [Pd ζ] [PdS α] [PdS β] [PdS γ] [PdS δ] [PdS ε] [PdS ζ] : PdS (T6 α β γ δ ε ζ) := ⟨PdRS.dep (α × β × γ × δ × ε × ζ × Unit) + 1, fun x => Nat.succ_le_succ (PdRS.de x.row)⟩
instance {α β γ δ ε ζ : Type} [Rp α] [Rp β] [Rp γ] [Rp δ] [Rp ε] [Rp ζ] [Pd α] [Pd β] [Pd γ] [Pd δ] [Pd ε] [Pd ζ] [PdF α] [PdF β] [PdF γ] [PdF δ] [PdF ε] [PdF ζ] : PdF (T6 α β γ δ ε ζ) := ⟨fun x => PdRF.ok x.row⟩
instance {α β γ δ ε ζ : Type} [Rp α] [Rp β] [Rp γ] [Rp δ] [Rp ε] [Rp ζ] [Pd α] [Pd β] [Pd γ] [Pd δ] [Pd ε] [Pd ζ] [PdL α] [PdL β] [PdL γ] [PdL δ] [PdL ε] [PdL ζ] : PdL (T6 α β γ δ ε ζ) := ⟨fun x => PdRL.tx x.row, fun h => PdRL.ok h⟩
theorem ev_tup6 {α β γ δ ε ζ : Type} [Rp α] [Rp β] [Rp γ] [Rp δ] [Rp ε] [Rp ζ] {x : α} {y : β} {z : γ} {u : δ} {w : ε} {p : ζ} {k : Nat} (h : EvA X es σ F H (x, y, z, u, w, p, ())) : Ev X (.Tuple es k pos) σ F H (T6.mk x y z u w p) := ev_tup (θ := T6 α β γ δ ε ζ) h (by show 6 ≤ sizeLine; decide)
structure T7 (α β γ δ ε ζ η : Type) where
  a : α
  b : β
  c : γ
  d : δ
  e : ε
  f : ζ
  g : η
  deriving DecidableEq
abbrev T7.row {α β γ δ ε ζ η : Type} (x : T7 α β γ δ ε ζ η) : α × β × γ × δ × ε × ζ × η × Unit := (x.a, x.b, x.c, x.d, x.e, x.f, x.g, ())
instance {α β γ δ ε ζ η : Type} [Rp α] [Rp β] [Rp γ] [Rp δ] [Rp ε] [Rp ζ] [Rp η] : Rp (T7 α β γ δ ε ζ η) := ⟨rpT T7.row, rpT.mono⟩
instance {α β γ δ ε ζ η : Type} [Rp α] [Rp β] [Rp γ] [Rp δ] [Rp ε] [Rp ζ] [Rp η] : NN (T7 α β γ δ ε ζ η) := ⟨rpT.nn⟩
instance {α β γ δ ε ζ η : Type} [Rp α] [Rp β] [Rp γ] [Rp δ] [Rp ε] [Rp ζ] [Rp η] : Tup (T7 α β γ δ ε ζ η) (α × β × γ × δ × ε × ζ × η × Unit) := ⟨T7.row, Iff.rfl⟩
instance {α β γ δ ε ζ η : Type} [Rp α] [Rp β] [Rp γ] [Rp δ] [Rp ε] [Rp ζ] [Rp η] [Flat α] [Flat β] [Flat γ] [Flat δ] [Flat ε] [Flat ζ] [Flat η] : Flat (T7 α β γ δ ε ζ η) := ⟨rpT.fl⟩
instance {α β γ δ ε ζ η : Type} [Rp α] [Rp β] [Rp γ] [Rp δ] [Rp ε] [Rp ζ] [Rp η] [FlatD α] [FlatD β] [FlatD γ] [FlatD δ] [FlatD ε] [FlatD ζ] [FlatD η] : FlatD (T7 α β γ δ ε ζ η) := ⟨rpT.fd⟩
instance {α β γ δ ε ζ η : Type} [Rp α] [Rp β] [Rp γ] [Rp δ] [Rp ε] [Rp ζ] [Rp η] : Kd (T7 α β γ δ ε ζ η) := ⟨"tuple", rpT.kd⟩
instance {α β γ δ ε ζ η : Type} [Rp α] [Rp β] [Rp γ] [Rp δ] [Rp ε] [Rp ζ] [Rp η] [Pd α] [Pd β] [Pd γ] [Pd δ] [Pd ε] [Pd ζ] [Pd η] : Pd (T7 α β γ δ ε ζ η) := ⟨fun x => .tuple (PdR.toR x.row), rpT.dp, rowEq fun x y => by cases x; cases y; simp [T7.row]⟩
instance {α β γ δ ε ζ η : Type} [Rp α] [Rp β] [Rp γ] [Rp δ] [Rp ε] [Rp ζ] [Rp η] [Pd α] [Pd β] [Pd γ] [Pd δ] [Pd ε] [Pd ζ] [Pd η] [PdS α] [PdS β] [PdS γ] [PdS δ] [PdS ε] [PdS ζ] [PdS η] : PdS (T7 α β γ δ ε ζ η) := ⟨PdRS.dep (α × β × γ × δ × ε × ζ × η × Unit) + 1, fun x => Nat.succ_le_succ (PdRS.de x.row)⟩
instance {α β γ δ ε ζ η : Type} [Rp α] [Rp β] [Rp γ] [Rp δ] [Rp ε] [Rp ζ] [Rp η] [Pd α] [Pd β] [Pd γ] [Pd δ] [Pd ε] [Pd ζ] [Pd η] [PdF α] [PdF β] [PdF γ] [PdF δ] [PdF ε] [PdF ζ] [PdF η] : PdF (T7 α β γ δ ε ζ η) := ⟨fun x => PdRF.ok x.row⟩
instance {α β γ δ ε ζ η : Type} [Rp α] [Rp β] [Rp γ] [Rp δ] [Rp ε] [Rp ζ] [Rp η] [Pd α] [Pd β] [Pd γ] [Pd δ] [Pd ε] [Pd ζ] [Pd η] [PdL α] [PdL β] [PdL γ] [PdL δ] [PdL ε] [PdL ζ] [PdL η] : PdL (T7 α β γ δ ε ζ η) := ⟨fun x => PdRL.tx x.row, fun h => PdRL.ok h⟩
theorem ev_tup7 {α β γ δ ε ζ η : Type} [Rp α] [Rp β] [Rp γ] [Rp δ] [Rp ε] [Rp ζ] [Rp η] {x : α} {y : β} {z : γ} {u : δ} {w : ε} {p : ζ} {q : η} {k : Nat} (h : EvA X es σ F H (x, y, z, u, w, p, q, ())) : Ev X (.Tuple es k pos) σ F H (T7.mk x y z u w p q) := ev_tup (θ := T7 α β γ δ ε ζ η) h (by show 7 ≤ sizeLine; decide)
theorem pj5 {α β γ δ ε ζ τ : Type} [Rp α] [Rp β] [Rp γ] [Rp δ] [Rp ε] [Rp ζ] [Ra τ] {x0 : α} {x1 : β} {x2 : γ} {x3 : δ} {x4 : ε} {x5 : ζ} {y : τ} : Proj 5 (x0, x1, x2, x3, x4, x5, y) x5 := fun K F vs ⟨v0, r0, e0, p0, v1, r1, e1, p1, v2, r2, e2, p2, v3, r3, e3, p3, v4, r4, e4, p4, v5, r5, e5, p5, q⟩ => ⟨v5, by subst e0; subst e1; subst e2; subst e3; subst e4; subst e5; show (ixN (r5.length + 1 + 1 + 1 + 1 + 1 + 1) 5).bind _ = _; unfold ixN; rw [if_pos (by decide), if_pos (by omega)]; rfl, p5⟩
theorem pj6 {α β γ δ ε ζ η τ : Type} [Rp α] [Rp β] [Rp γ] [Rp δ] [Rp ε] [Rp ζ] [Rp η] [Ra τ] {x0 : α} {x1 : β} {x2 : γ} {x3 : δ} {x4 : ε} {x5 : ζ} {x6 : η} {y : τ} : Proj 6 (x0, x1, x2, x3, x4, x5, x6, y) x6 := fun K F vs ⟨v0, r0, e0, p0, v1, r1, e1, p1, v2, r2, e2, p2, v3, r3, e3, p3, v4, r4, e4, p4, v5, r5, e5, p5, v6, r6, e6, p6, q⟩ => ⟨v6, by subst e0; subst e1; subst e2; subst e3; subst e4; subst e5; subst e6; show (ixN (r6.length + 1 + 1 + 1 + 1 + 1 + 1 + 1) 6).bind _ = _; unfold ixN; rw [if_pos (by decide), if_pos (by omega)]; rfl, p6⟩
theorem zip_none {m : Str} : ∀ {names : List Str} {vs : List V}, m ∉ names → (names.zip vs).lookup m = none
  | [], _, _ => rfl
  | _ :: _, [], _ => rfl
  | n :: ns, v :: vs, h => by
    show (match m == n with | true => some v | false => (ns.zip vs).lookup m) = none
    have h1 : (m == n) = false := beq_eq_false_iff_ne.mpr fun e => h (e ▸ List.mem_cons_self)
    rw [h1]
    exact zip_none fun z => h (List.mem_cons_of_mem _ z)
/-- o.m() of a thing of one class -/
theorem ev_meth0 {α ρ : Type} [Rp α] [Rp ρ] {x : α} {f : α × Unit → Option ρ} {r : ρ} {cn m : Str} {names : List Str} {k : Nat} {fa : Addr} {fd : FuncData} {ps : List Str} {apos : Pos} {pl : Sem Bool} (hx : ∀ F v, rp X.K F v x → ∃ a dx vs, v = .ref a ∧ F a = some (.ins (He.ga X.K cn) dx (names.zip vs))) (hn : m ∉ names) (cl : Cls X.K (He.ga X.K cn)) (me : Meth X.K (He.ga X.K cn) m fa)
    (Fn : FnOk X.prog X.w X.K X.mg X.base CX0 k fa fd ps (Pr X.K f)) (hr : Room k X.A) (hb : Binds X.K fd ps []) (ha : Ev X a σ F H x) (h : f (x, ()) = some r)
    (ht : eval (.Call (.Attribute a m apos) [] [] pos) X.env = (do
      let ov ← eval a X.env
      standAt apos.atName
      let (f, first) ← holding [ov] (getMethod ov m pl)
      callWith pos f first (backTo pos (starEach [] X.env)) (backToKw pos (keywordEach [] X.env))) := by rfl) : Ev X (.Call (.Attribute a m apos) [] [] pos) σ F H r := fun F1 H1 g Q q =>
  GoE.of (pe_meth0 pe_go cl me Fn hr hb .nil pass0 ht) (ha F1 H1 g _ fun v F2 H2 g2 r2 => by
    obtain ⟨z, dx, vs, e, hF⟩ := hx F2 v r2
    subst e
    exact ⟨z, dx, _, rfl, g2.fh _ _ hF, zip_none hn, F2, (x, ()), r, (g.trans g2).sm, ⟨_, [], rfl, r2, rfl⟩, h, fun F3 H3 u g3 r3 => q u F3 H3 (g2.trans g3) r3⟩)
theorem rpI.insN {cn : Str} {names : List Str} {τ : Type} [Ra τ] {F : Hp} {v : V} {x : τ} (h : rpI cn names K F v x) : ∃ a dx vs, v = .ref a ∧ F a = some (.ins (He.ga K cn) dx (names.zip vs)) := by
  obtain ⟨a, dx, vs, e, q, _⟩ := h
  exact ⟨a, dx, vs, e, q⟩
end
end Gx

/-! Gn: exceptions: defs that may raise, try with one clause. -/
namespace Gx
open PySem PySem.Spec PyProof.Rows L2
open Rp (rp)
open Ra (ra)
open Ob (ob)
/-- an outcome: a value, or an exception -/
inductive Rs (ε ρ : Type) where
  | v (r : ρ)
  | x (e : ε)
/-- what stands for an exception of a class, with a dict -/
class Xk (ε : Type) where
  xr : PySem.W.Frag → Hp → Hp → Value → Option Addr → ε → Prop
open Xk (xr)
/-- with one field -/
def xr1 (cn fn : Str) {α : Type} [Rp α] (K : PySem.W.Frag) (F H : Hp) (cls : Value) (dd : Option Addr) (x : α) : Prop := cls = .ref (He.ga K cn) ∧ ∃ d v, dd = some d ∧ H d = some (.xd [(fn, v)]) ∧ rp K F v x
/-- without one -/
def xr0 (cn : Str) (K : PySem.W.Frag) (cls : Value) (dd : Option Addr) : Prop := cls = .ref (He.ga K cn) ∧ dd = none
/-- the promise of a def that may raise -/
def PrE (K : PySem.W.Frag) {τ ε ρ : Type} [Ra τ] [Xk ε] [Rp ρ] (f : τ → Option (Rs ε ρ)) : Sp := fun vs H Q E => ∃ F a o, SmX K F H ∧ ra K F vs a ∧ f a = some o ∧
  (∀ r, o = .v r → ∀ F' H' u, Gr F H F' H' → rp K F' u r → Q u H') ∧ (∀ e, o = .x e → ∀ F' H' cls dd, Gr F H F' H' → xr K F' H' cls dd e → E cls dd H')
/-! ### classes -/
def oexB (K : PySem.W.Frag) (C : Addr) : Bool := match K.lookup C with
  | some ⟨.type "type", _, .cls cd, sl⟩ => (match cd.mro, sl.toList with
    | .ref C' :: bm, [_, _, _, _, some (.builtin n), _] => C' == C && n == "ValueError.__new__" && !cd.hasDel && cd.hasDict && PySem.HandSPX.refsVE bm
    | _, _ => false)
  | _ => false
theorem oexB_ok {K : PySem.W.Frag} {C : Addr} (q : oexB K C = true) : ∃ nm q N bs bm sn sub ab col dd k0 k1 k2 k3 k5, K.lookup C = some (excClassObj nm q C N bs bm true sn sub ab col dd k0 k1 k2 k3 k5 "ValueError.__new__") ∧ PySem.HandSPX.refsVE bm = true := by
  unfold oexB at q
  split at q
  · rename_i dd cd sl ho
    split at q
    · rename_i C' bm k0 k1 k2 k3 n k5 hm hs
      simp only [Bool.and_eq_true, beq_iff_eq, Bool.not_eq_true'] at q
      obtain ⟨⟨⟨⟨rfl, rfl⟩, hdel⟩, hdd⟩, hv⟩ := q
      obtain ⟨nm, bs, mro, ns, qn, hd, sn, sub, ab, col, del⟩ := cd
      dsimp only at hm hdel hdd
      subst hm hdel hdd
      have hsl : sl = #[k0, k1, k2, k3, some (.builtin "ValueError.__new__"), k5] := by
        obtain ⟨l⟩ := sl
        simp only at hs
        rw [hs]
      subst hsl
      exact ⟨nm, qn, ns, bs, bm, sn, sub, ab, col, dd, k0, k1, k2, k3, k5, ho, hv⟩
    · cases q
  · cases q
structure XoF (K : PySem.W.Frag) (cn fn : Str) : Prop where
  T : OexC K (He.ga K cn)
  iC : PySem.W.findIn K (.ref (He.ga K cn)) "__init__" = some (some (.ref (He.ma K (He.ga K cn) "__init__")))
  tI : PySem.W.typeIn K (.ref (He.ma K (He.ga K cn) "__init__")) = some (.type "function")
  no : PySem.W.findIn K (.ref (He.ga K cn)) fn = some none
  xf : XfC K (He.ga K cn)
def xoB (K : PySem.W.Frag) (cn fn : Str) : Bool := (((((((oexB K (He.ga K cn) && decide (PySem.W.findIn K (.ref (He.ga K cn)) "__setattr__" = some (some (.builtin "object.__setattr__")))) && decide (PySem.W.subIn K (.ref (He.ga K cn)) (.type "BaseException") = some true)) && decide (PySem.W.typeIn K (.ref (He.ga K cn)) = some (.type "type"))) && PySem.W.keepIn K (.ref (He.ga K cn))) &&
  decide (PySem.W.findIn K (.ref (He.ga K cn)) "__init__" = some (some (.ref (He.ma K (He.ga K cn) "__init__"))))) && decide (PySem.W.typeIn K (.ref (He.ma K (He.ga K cn) "__init__")) = some (.type "function"))) && decide (PySem.W.findIn K (.ref (He.ga K cn)) fn = some none)) && xfB K (He.ga K cn)
theorem xoB_ok {K : PySem.W.Frag} {cn fn : Str} (h : xoB K cn fn = true) : XoF K cn fn := by
  obtain ⟨h, h9⟩ := Bool.and_eq_true_iff.mp h
  obtain ⟨h, h8⟩ := Bool.and_eq_true_iff.mp h
  obtain ⟨h, h7⟩ := Bool.and_eq_true_iff.mp h
  obtain ⟨h, h6⟩ := Bool.and_eq_true_iff.mp h
  obtain ⟨h, h5⟩ := Bool.and_eq_true_iff.mp h
  obtain ⟨h, h4⟩ := Bool.and_eq_true_iff.mp h
  obtain ⟨h, h3⟩ := Bool.and_eq_true_iff.mp h
  obtain ⟨h1, h2⟩ := Bool.and_eq_true_iff.mp h
  exact ⟨⟨oexB_ok h1, of_decide_eq_true h2, of_decide_eq_true h3, of_decide_eq_true h4, h5⟩, of_decide_eq_true h6, of_decide_eq_true h7, of_decide_eq_true h8, xfB_ok h9⟩
/-- what is asked of a class without own __init__ -/
abbrev XnF (K : PySem.W.Frag) (cn : Str) : Prop := PySem.W.excIn K (He.ga K cn) He.veBase "ValueError.__new__" = true ∧ PySem.W.keepIn K (.ref (He.ga K cn)) = true ∧ PySem.W.subIn K (.ref (He.ga K cn)) (.type "BaseException") = some true ∧ PySem.W.typeIn K (.ref (He.ga K cn)) = some (.type "type")
/-- the promise of such an __init__ -/
def PrXI (K : PySem.W.Frag) (C : Addr) (fn : Str) : Sp := fun vs H Q _ => ∃ a v, vs = [.ref a, v] ∧ H a = some (exo a C none) ∧ ∀ d, H d = none → d ≠ a → Q .non (upd (upd H d (exd d [(fn, v)])) a (exo a C (some d)))
section
variable {X : Cx} {K : PySem.W.Frag} {e a b c d : Expr} {es : List Expr} {σ : L2.St} {F H F0 H0 : Hp} {pos : Pos} {D : Ends} {st : Stmt} {rest body : List Stmt} {ε : Type} [Xk ε] {W : WX}
theorem fn_okXI {P : Program} {w : World} {mg : Str → Option Value} {base : Heap} {x qual : Str} {s0 : Stmt} {fa : Addr} {fd : FuncData} {N ps : List Str} {k : Nat} {cn fn : Str} (Fn : FunD K x qual (defArgs s0) (defBody s0) (defScope s0) [] [] fa fd) (S : FnScope N ps (defScope s0)) (hn : 2 = ps.length) (X1 : XoF K cn fn)
    {p1 p2 p3 p4 : Pos} {n0 n1 : Str} (hb : defBody s0 = [.Assign [.Attribute (.Name n0 p1) fn p2] (.Name n1 p3) p4]) (hN : N = [n0, n1])
    (hk0 : ∀ m f cd, Vis (envOfC qual (defScope s0) m f cd).scope n0) (hk1 : ∀ m f cd, Vis (envOfC qual (defScope s0) m f cd).scope n1) (hs : ∀ m f cd, swapsWith (.Name n1 p3) (some (.Attribute (.Name n0 p1) fn p2)) p4.line (envOfC qual (defScope s0) m f cd) = pure false)
    (d0 : (n0 == ("__debug__" : Str)) = false := by decide) (d1 : (n1 == ("__debug__" : Str)) = false := by decide) (c0 : (n0 == ("__classdict__" : Str)) = false := by decide) (c1 : (n1 == ("__classdict__" : Str)) = false := by decide) :
    FnOk P w K mg base CX0 (k + 1) fa fd ps (PrXI K (He.ga K cn) fn) := by
  refine Fn.ok S (fun vs H Q E ⟨a, v, e, _⟩ => by rw [e, ← hn]; rfl) fun cdv A outer s H vs Q E hr ⟨a, v, e, ha, k⟩ => ?_
  subst e
  rw [hb]
  subst hN
  refine ⟨_, pss_cons (ps_ost (pe_var (i := 0) rfl (hk0 _ _ _) d0 c0) (pe_var (i := 1) rfl (hk1 _ _ _) d1 c1) (hs _ _ _)) pss_nil, ?_⟩
  exact ⟨v, rfl, .ref a, rfl, a, _, rfl, X1.T, X1.no, .inl ⟨ha, fun dx n1 n2 => k dx n1 n2⟩⟩
theorem fn_okX {P : Program} {w : World} {mg : Str → Option Value} {base : Heap} {τ ρ : Type} [Ra τ] [RaN τ] [Rp ρ] {f : τ → Option (Rs ε ρ)} {x qual : Str} {s0 : Stmt} {fa : Addr} {fd : FuncData} {N ps : List Str} {k : Nat} (Fn : FunD K x qual (defArgs s0) (defBody s0) (defScope s0) [] [] fa fd) (S : FnScope N ps (defScope s0)) (hn : RaN.n τ = ps.length)
    (hbody : ∀ (cdv : Value) (A : Around) (outer : List Env) (s : Shared) (F H : Hp) (vs : List V) (a : τ) (r : Rs ε ρ) (D : Ends) (E : XK), Room k (A.deeper (envOfC qual (defScope s0) s.heap.objs.size fa cdv)) → SmX K F H → ra K F vs a → f a = some r →
      (∀ F' H' u y, Rs.v y = r → GrX K F H F' H' → rp K F' u y → D.rt u H') → (∀ σ' F' H' y, Rs.v y = r → GrX K F H F' H' → rp K F' .non y → D.nx σ' H') →
      (∀ y, Rs.x y = r → ∀ F' H' cls dd, GrX K F H F' H' → xr K F' H' cls dd y → E cls dd H') →
      Takes (cxOf (L2.CX P w) P w K mg base N qual (defScope s0) fa cdv A outer s H E) (fun cls d _ H => E cls d H) →
      PassesOwn (model P w) (A.deeper (envOfC qual (defScope s0) s.heap.objs.size fa cdv)) (envOfC qual (defScope s0) s.heap.objs.size fa cdv) (cxOf (L2.CX P w) P w K mg base N qual (defScope s0) fa cdv A outer s H E).xe →
      GoS (cxOf (L2.CX P w) P w K mg base N qual (defScope s0) fa cdv A outer s H E) (defBody s0) D (start N vs) H) :
    FnOk P w K mg base (L2.CX P w) (k + 1) fa fd ps (PrE K f) := by
  refine Fn.ok S (fun vs H Q E ⟨F, a, r, _, ra', _⟩ => by rw [RaN.len ra', hn]) fun cdv A outer s H vs Q E hr ⟨F, a, r, sm, ra', hf, k, kx⟩ => ?_
  refine ⟨_, pss_go, hbody cdv A outer s F H vs a r { nx := fun _ H' => Q .non H', rt := Q } E hr sm ra' hf (fun F' H' u y q g r => k y q.symm F' H' u g.toGr r) (fun σ' F' H' y q g r => k y q.symm F' H' .non g.toGr r) (fun y q F' H' cls dd g r => kx y q.symm F' H' cls dd g.toGr r) (takes_of rfl rfl rfl rfl) (passes_of rfl)⟩
/-! ### an expression that may raise -/
def EvX {ρ : Type} [Rp ρ] (X : Cx) (W : WX) (e : Expr) (σ : L2.St) (F H : Hp) (o : Rs ε ρ) : Prop := ∀ F1 H1, GrX X.K F H F1 H1 → ∀ Q : VK, (∀ r, o = .v r → ∀ v F2 H2, Gr F1 H1 F2 H2 → rp X.K F2 v r → Q v H2) → (∀ y, o = .x y → ∀ F2 H2 cls dd, Gr F1 H1 F2 H2 → xr X.K F2 H2 cls dd y → W cls dd σ H2) → GoE X e σ H1 Q
theorem EvX.ok {ρ : Type} [Rp ρ] {r : ρ} (h : EvX (ε := ε) X W e σ F H (.v r)) : Ev X e σ F H r := fun F1 H1 g Q q => h F1 H1 g Q (fun r' e => by cases e; exact q) fun y e => nomatch e
/-- e raises -/
def Rz (X : Cx) (e : Expr) (σ : L2.St) (F H : Hp) : Prop := ∀ F1 H1, GrX X.K F H F1 H1 → ∀ Q : VK, GoE X e σ H1 Q
theorem EvX.rz {ρ : Type} [Rp ρ] {y : ε} (h : EvX (ρ := ρ) X W e σ F H (.x y)) (k : ∀ F2 H2 cls dd, Gr F H F2 H2 → xr X.K F2 H2 cls dd y → W cls dd σ H2) : Rz X e σ F H := fun F1 H1 g Q => h F1 H1 g Q (fun r e => nomatch e) fun y' e => by
  cases e; exact fun F2 H2 cls dd g2 r => k F2 H2 cls dd (g.toGr.trans g2) r
theorem ex_call {τ ρ : Type} [Ra τ] [Rp ρ] {f : τ → Option (Rs ε ρ)} {y : τ} {r : Rs ε ρ} {k : Nat} {fa : Addr} {fd : FuncData} {ps : List Str} {x : Str} {p : Pos} (tk : Takes X W) (Fn : FnOk X.prog X.w X.K X.mg X.base (L2.CX X.prog X.w) k fa fd ps (PrE X.K f)) (hr : Room k X.A) (hm : X.mg x = some (.ref fa))
    (hk : PySem.W.keepIn X.K (.ref fa) = true) (hb : Binds X.K fd ps []) (ha : EvA X (e :: es) σ F H y) (h : f y = some r) (hg : Gl X x := by rfl) (hdb : (x == ("__debug__" : Str)) = false := by decide)
    (he : starEach (e :: es) X.env = (false, eval e X.env) :: starEach es X.env := by rfl) (hpl : (backTo pos (starEach es X.env)).any (·.1) = false := by rfl) : EvX X W (.Call (.Name x p) (e :: es) [] pos) σ F H r := fun F1 H1 g Q q qx =>
  GoE.of (pe_callS (E := WE W) Fn hr hg hm hk hb (passAt tk) pa_go hdb he hpl) (ha F1 H1 g _ fun vs F2 H2 g2 r2 => ⟨F2, y, r, (g.trans g2).sm, r2, h, fun r' e F3 H3 u g3 r3 => q r' e u F3 H3 (g2.trans g3) r3, fun y' e F3 H3 cls dd g3 r3 => qx y' e F3 H3 cls dd (g2.trans g3) r3⟩)
theorem rz_tup2 {α : Type} [Rp α] {x : α} {k : Nat} (ha : Ev X a σ F H x) (hb : Rz X b σ F H) (hs : starEach [a, b] X.env = (false, eval a X.env) :: starEach [b] X.env := by rfl) (hs2 : starEach [b] X.env = (false, eval b X.env) :: starEach [] X.env := by rfl) : Rz X (.Tuple [a, b] k pos) σ F H := fun F1 H1 g Q =>
  GoE.of (pe_tup (pa_cons pe_go (pa_cons pe_go pa_nil hs2) hs)) (ha F1 H1 g _ fun v F2 H2 g2 r2 => hb F2 H2 (g.trans g2) _)
theorem go_setZ {n : Str} {p : Pos} (i : Nat) (s : SmX X.K F H) (he : Rz X e σ F H) (hN : X.N.Nodup) (hi : X.N[i]? = some n := by rfl)
    (hx : Loc X.env.scope n := by first | exact Or.inl rfl | exact Or.inr rfl) (hs : swapsWith e (some (.Name n p)) pos.line X.env = pure false := by rfl) (hf : X.fn n = true ∨ X.env.scope.names.lookup n = some .local := by first | exact .inl rfl | exact .inr rfl) :
    GoS X (.Assign [.Name n p] e pos :: rest) D σ H :=
  GoS.cons (ps_set hN hi hx pe_go hs hf) (he F H (.refl s) _)
theorem go_unpackZ {tg : Expr} {g : TG} (s : SmX X.K F H) (he : Rz X e σ F H) (hg : PG X tg g)
    (hs : swapsWithSole [tg] e pos.line X.env = pure false := by rfl) (hw : swappedStores [tg] e X.env = pure none := by rfl) (h1 : (assignEach [tg] X.env).map (·.2) = [assign tg X.env] := by rfl) : GoS X (.Assign [tg] e pos :: rest) D σ H :=
  GoS.cons (ps_asg pe_go hg hs hw h1) (he F H (.refl s) _)
theorem go_retZ (s : SmX X.K F H) (he : Rz X e σ F H) : GoS X (.Return (some e) pos :: rest) D σ H := GoS.cons (ps_ret pe_go) (he F H (.refl s) _)
theorem go_exprZ (s : SmX X.K F H) (he : Rz X e σ F H) (hs : swapsWith e none pos.line X.env = pure false := by rfl) : GoS X (.Expr e pos :: rest) D σ H := GoS.cons (ps_expr pe_go hs) (he F H (.refl s) _)
/-! ### raise -/
theorem go_raise0 {m : Str} {cn : Str} {j : Nat} {p p2 pos2 : Pos} (s : SmX X.K F H) (tk : Takes X W) (N1 : XnF X.K cn) (hm : X.mg cn = some (.ref (He.ga X.K cn))) (k : W (.ref (He.ga X.K cn)) none σ H) (hg : Gl X cn := by rfl) (hdb : (cn == ("__debug__" : Str)) = false := by decide) (hc : X.calm = true := by rfl) :
    GoS X (.Raise (some (.Call (.Name cn p) [.Constant (.str m) j p2] [] pos)) none pos2 :: rest) D σ H :=
  GoS.cons (ps_raise hc tk (pmk_own PySem.F.excBase_ValueError N1.1 hm N1.2.1 (raises_own N1.2.2.1 N1.2.2.2) hg hdb)) k
theorem go_raise1 {α : Type} [Rp α] {x : α} {cn fn : Str} {p pos2 : Pos} {kk : Nat} {fd : FuncData} {ps : List Str} (s : SmX X.K F H) (tk : Takes X W) (X1 : XoF X.K cn fn) (hm : X.mg cn = some (.ref (He.ga X.K cn))) (Fn : FnOk X.prog X.w X.K X.mg X.base CX0 kk (He.ma X.K (He.ga X.K cn) "__init__") fd ps (PrXI X.K (He.ga X.K cn) fn)) (hr : Room (kk + 1) X.A) (hb : Binds X.K fd ps [])
    (he : Ev X e σ F H x) (k : ∀ F' H' cls dd, Gr F H F' H' → xr1 cn fn X.K F' H' cls dd x → W cls dd σ H') (hg : Gl X cn := by rfl) (hdb : (cn == ("__debug__" : Str)) = false := by decide) (hc : X.calm = true := by rfl)
    (hs : starEach [e] X.env = (false, eval e X.env) :: starEach [] X.env := by rfl) (hpl : (backTo pos (starEach [] X.env)).any (·.1) = false := by rfl) :
    GoS X (.Raise (some (.Call (.Name cn p) [e] [] pos)) none pos2 :: rest) D σ H :=
  GoS.cons (ps_raise hc tk (pmk_oex X1.T X1.iC X1.tI Fn hr hb .nil pass0 hg hm (pa_cons pe_go pa_nil hs) hdb hs hpl)) (he F H (.refl s) _ fun v F2 H2 g2 r2 => by
    refine ⟨by show 1 ≤ 1000; decide, fun a ha => ⟨a, v, rfl, upd_same, fun d hd hda => ⟨rfl, d, [(fn, v)], upd_same, ?_, ?_, ?_⟩⟩⟩
    · rw [upd_ne hda, upd_same]
    · rw [upd_ne hda] at hd; exact hd
    · rw [upd_ne hda] at hd
      have e1 : upd (del (upd (upd (upd H2 a (exo a (He.ga X.K cn) none)) d (exd d [(fn, v)])) a (exo a (He.ga X.K cn) (some d))) a) d (.xd [(fn, v)]) = upd H2 d (.xd [(fn, v)]) := by
        funext b
        by_cases h1 : b = d
        · subst h1; rw [upd_same, upd_same]
        · rw [upd_ne h1, upd_ne h1]
          by_cases h2 : b = a
          · subst h2; rw [del_same, ha]
          · rw [del_ne h2, upd_ne h2, upd_ne h1, upd_ne h2]
      rw [e1]
      exact k F2 _ _ _ (g2.trans (Gr.newP g2.fh hd)) ⟨rfl, d, v, rfl, upd_same, r2⟩)
/-! ### try -/
/-- what the one clause's suite is to do -/
def Hnd (X : Cx) (c : Value) (cls : Value) (dd : Option Addr) (H : Hp) (k : Addr → Cx → Prop) : Prop := PySem.W.exmOne X.K cls c = some true ∧ ∀ a, H a = none → ∀ oe pn, Zc cls dd oe → (∃ vs, oe.data = .fields vs) → k a (X.suite a ((a, oe) :: pn))
theorem go_tryN {x n : Str} {c : Value} (i : Nat) {suite : List Stmt} {b₀ : Stmt} {np pos' : Pos} (hN : X.N.Nodup) (hc : Names X x c)
    (h : ∀ pn xe (W : WX), Takes (X.tr pn xe) W → PassesOwn (model X.prog X.w) X.A X.env xe →
      (∀ cls dd σ' H', Hnd X c cls dd H' (fun a X' => GoS X' (b₀ :: suite) { nx := fun σ' H' => GoS X rest D (σ'.set i none) H', rt := D.rt, bk := fun σ' H' => D.bk (σ'.set i none) H', ct := fun σ' H' => D.ct (σ'.set i none) H' } (σ'.set i (some (.ref a))) H') → W cls dd σ' H') →
      GoS (X.tr pn xe) body { D with nx := GoS X rest D } σ H)
    (hs : X.stack = X.env :: X.outer := by rfl) (hf : X.env.frame = some X.env.locals := by rfl) (hi : X.N[i]? = some n := by rfl) (hln : X.env.kindOf n = some .local := by rfl) (tk : Takes X (fun _ _ _ _ => False) := by exact takes_none5) :
    GoS X (.Try body [.ExceptHandler (some (.Name x np)) (some n) (b₀ :: suite) pos'] [] [] pos :: rest) D σ H :=
  GoS.cons (ps_try_as (tb := fun W D σ H => ∀ pn xe, Takes (X.tr pn xe) W → PassesOwn (model X.prog X.w) X.A X.env xe → GoS (X.tr pn xe) body D σ H) (ts := fun a cls d D σ H => ∀ oe pn, Zc cls d oe → (∃ vs, oe.data = .fields vs) → GoS (X.suite a ((a, oe) :: pn)) (b₀ :: suite) D σ H) (Wout := fun _ _ _ _ => False) hs hf hN hi hln hc tk
    (fun W pn xe t1 t2 => ⟨fun pins s σ H D I h => (h pn xe t1 t2).o pins s I⟩) (fun a oe cls d pn z1 z2 => ⟨fun pins s σ H D I h => (h oe pn z1 z2).o pins s I⟩))
    fun pn xe t1 t2 => h pn xe _ t1 t2 fun cls dd σ' H' ⟨q1, q2⟩ => ⟨true, q1, fun _ a ha oe pn z1 z2 => q2 a ha oe pn z1 z2, fun z => nomatch z⟩
theorem go_try {x : Str} {c : Value} {suite : List Stmt} {b₀ : Stmt} {np pos' : Pos} (hc : Names X x c)
    (h : ∀ pn xe (W : WX), Takes (X.tr pn xe) W → PassesOwn (model X.prog X.w) X.A X.env xe →
      (∀ cls dd σ' H', Hnd X c cls dd H' (fun a X' => GoS X' (b₀ :: suite) { D with nx := GoS X rest D } σ' H') → W cls dd σ' H') →
      GoS (X.tr pn xe) body { D with nx := GoS X rest D } σ H)
    (hs : X.stack = X.env :: X.outer := by rfl) (hf : X.env.frame = some X.env.locals := by rfl) (tk : Takes X (fun _ _ _ _ => False) := by exact takes_none5) :
    GoS X (.Try body [.ExceptHandler (some (.Name x np)) none (b₀ :: suite) pos'] [] [] pos :: rest) D σ H :=
  GoS.cons (ps_try_only (tb := fun W D σ H => ∀ pn xe, Takes (X.tr pn xe) W → PassesOwn (model X.prog X.w) X.A X.env xe → GoS (X.tr pn xe) body D σ H) (ts := fun a cls d D σ H => ∀ oe pn, Zc cls d oe → (∃ vs, oe.data = .fields vs) → GoS (X.suite a ((a, oe) :: pn)) (b₀ :: suite) D σ H) (Wout := fun _ _ _ _ => False) hs hf hc tk
    (fun W pn xe t1 t2 => ⟨fun pins s σ H D I h => (h pn xe t1 t2).o pins s I⟩) (fun a oe cls d pn z1 z2 => ⟨fun pins s σ H D I h => (h oe pn z1 z2).o pins s I⟩))
    fun pn xe t1 t2 => h pn xe _ t1 t2 fun cls dd σ' H' ⟨q1, q2⟩ => ⟨true, q1, fun _ a ha oe pn z1 z2 => q2 a ha oe pn z1 z2, fun z => nomatch z⟩
/-- e.f in the suite -/
theorem ev_xf {α : Type} [Rp α] {x : α} {a : Addr} {cn fn n : Str} {oe : Obj} {cls : Value} {dd : Option Addr} {pn : List (Addr × Obj)} {p2 : Pos} (i : Nat) (X1 : XoF X.K cn fn) (hz : Zc cls dd oe) (hf : ∃ vs, oe.data = .fields vs) (hσ : σ[i]? = some (some (.ref a))) (r : xr1 cn fn X.K F H cls dd x)
    (hi : X.N[i]? = some n := by rfl) (hv : Vis X.env.scope n := by first | exact Or.inl rfl | exact Or.inr (Or.inl rfl) | exact Or.inr (Or.inr rfl)) (hd : (n == ("__debug__" : Str)) = false := by decide) (hcd : (n == ("__classdict__" : Str)) = false := by decide)
    (hb : attributeBase (.Name n p2) fn X.env (eval (.Name n p2) X.env) = eval (.Name n p2) X.env := by rfl) : Ev (X.suite a ((a, oe) :: pn)) (.Attribute (.Name n p2) fn pos) σ F H x := fun F1 H1 g Q q => by
  obtain ⟨e1, d, v, e2, hd1, rv⟩ := r
  exact GoE.of (pe_xf X1.xf X1.no hz hf (pe_var (X := X.suite a ((a, oe) :: pn)) hi hv hd hcd) hb) ⟨_, hσ, rfl, e1, d, _, v, e2, g.hh.k _ _ hd1 trivial, by simp [List.lookup], q v F1 H1 (.refl g.fh) (Rp.mono g.ff rv)⟩
end
end Gx
namespace Gx
open PySem PySem.Spec PyProof.Rows L2
open Rp (rp)
theorem rp_cast {α : Type} [Rp α] {K : PySem.W.Frag} {F : Hp} {v : V} {x z : α} (e : z = x) (r : rp K F v x) : rp K F v z := e ▸ r
theorem xm_of {K : PySem.W.Frag} {cls c c2 : Value} (e : cls = c) (h : PySem.W.exmOne K c c2 = some true) : PySem.W.exmOne K cls c2 = some true := e ▸ h
theorem xr1.up {cn fn : Str} {α : Type} [Rp α] {K : PySem.W.Frag} {F H F' H' : Hp} {cls : Value} {dd : Option Addr} {x : α} (h : xr1 cn fn K F H cls dd x) (g : Gr F H F' H') : xr1 cn fn K F' H' cls dd x := by
  obtain ⟨e, d, v, e2, h3, r⟩ := h
  exact ⟨e, d, v, e2, g.hh.k _ _ h3 trivial, Rp.mono g.ff r⟩
end Gx

/-! Gb: a private thing changed within an expression. -/
namespace Gx
open PySem PySem.Spec PyProof.Rows L2
open Rp (rp)
open Ra (ra)
open Ob (ob)
theorem Gr.wide {F Hl F1 H1 : Hp} {l : Addr} (g : Gr F Hl F1 (er H1 l)) (pl : PlAt H1 l) : Gr F Hl F1 H1 := by
  have er_s : ∀ b u, er H1 l b = some u → H1 b = some u := fun b u e => by
    unfold er at e; split at e
    · cases e
    · exact e
  exact ⟨g.ff, fun b u e => er_s b u (g.fh b u e), g.hh.trans (.start pl), g.fr⟩
theorem GrX.wide {K : PySem.W.Frag} {F Hl F1 H1 : Hp} {l : Addr} (g : GrX K F Hl F1 (er H1 l)) (pl : PlAt H1 l) : GrX K F Hl F1 H1 := ⟨g.toGr.wide pl, ⟨fun P hP => by
  obtain ⟨a, f⟩ := g.h.t P hP
  exact ⟨(Xt.start pl).w P a, f⟩⟩⟩
theorem Gr.both {F1 H1 F2 H2 : Hp} {l : Addr} {o : HO} (f : F1 l = none) (h : H1 l = some o) (ls : lstish o) (po : pln o) (g : Gr F1 H1 F2 H2) : Gr F1 (er H1 l) F2 (er H2 l) :=
  g.erl f h ls po (fun b hb => er_ne hb) no_er
theorem Gr.ere0 {F2 H2 F3 H3 : Hp} {l : Addr} (g : Gr F2 (er H2 l) F3 H3) (f3 : F3 l = none) (_ : er H2 l l = none) (pl : PlAt H3 l) : Gr F2 (er H2 l) F3 (er H3 l) :=
  ⟨g.ff, fun b u e => by rw [er_ne (ne_of_none e f3)]; exact g.fh _ _ e, ⟨fun b u e n => by
    rw [er_ne (ne_of_none e er_same)]; exact g.hh.k _ _ e n, fun b ps e => by
    rw [er_ne (ne_of_none e er_same)]; exact g.hh.t _ _ e, fun P a => (g.hh.w P a).er pl⟩, g.fr⟩
theorem Own.erS {α : Type} [Rp α] [Ob α] {x : α} {K : PySem.W.Frag} {H0 F H : Hp} {l : Addr} (o : Own K H0 F H l x) (s : L2.Same F H) : L2.Same F (er H l) := fun b u e => by
  rw [er_ne (ne_of_none e o.f)]; exact s _ _ e
section
variable {X : Cx} {K : PySem.W.Frag} {e a b c d : Expr} {es : List Expr} {σ : L2.St} {F H Hl F0 H0 : Hp} {pos : Pos} {D : Ends} {st : Stmt} {rest body : List Stmt} {l : Addr} {β : Type} [Rp β] [Ob β] {c0 c1 c2 : β}
/-- e is worth r and turns the thing at l from x to y; Hl: the heap without it -/
def EvU {ρ : Type} [Rp ρ] (X : Cx) (e : Expr) (σ : L2.St) (F Hl : Hp) (l : Addr) (x : β) (r : ρ) (y : β) : Prop := ∀ F1 H1 o, GrX X.K F Hl F1 (er H1 l) → F1 l = none → H1 l = some o → ob X.K F1 o x → ∀ Q : VK, (∀ u F2 H2 o2, Gr F1 (er H1 l) F2 (er H2 l) → F2 l = none → H2 l = some o2 → ob X.K F2 o2 y → rp X.K F2 u r → Q u H2) → GoE X e σ H1 Q
def EvUA {τ : Type} [Ra τ] (X : Cx) (es : List Expr) (σ : L2.St) (F Hl : Hp) (l : Addr) (x : β) (r : τ) (y : β) : Prop := ∀ F1 H1 o, GrX X.K F Hl F1 (er H1 l) → F1 l = none → H1 l = some o → ob X.K F1 o x → ∀ Q : List V → Hp → Prop, (∀ u F2 H2 o2, Gr F1 (er H1 l) F2 (er H2 l) → F2 l = none → H2 l = some o2 → ob X.K F2 o2 y → ra X.K F2 u r → Q u H2) → GoA X es σ H1 Q
def EvUL {α : Type} [Rp α] (X : Cx) (es : List Expr) (σ : L2.St) (F Hl : Hp) (l : Addr) (x : β) (r : List α) (y : β) : Prop := ∀ F1 H1 o, GrX X.K F Hl F1 (er H1 l) → F1 l = none → H1 l = some o → ob X.K F1 o x → ∀ Q : List V → Hp → Prop, (∀ u F2 H2 o2, Gr F1 (er H1 l) F2 (er H2 l) → F2 l = none → H2 l = some o2 → ob X.K F2 o2 y → Rps X.K F2 u r → Q u H2) → GoA X es σ H1 Q
def EvUT (X : Cx) (e : Expr) (σ : L2.St) (F Hl : Hp) (l : Addr) (x : β) (r : Bool) (y : β) : Prop := ∀ F1 H1 o, GrX X.K F Hl F1 (er H1 l) → F1 l = none → H1 l = some o → ob X.K F1 o x → ∀ Q : Bool → Hp → Prop, (∀ F2 H2 o2, Gr F1 (er H1 l) F2 (er H2 l) → F2 l = none → H2 l = some o2 → ob X.K F2 o2 y → Q r H2) → GoT X e σ H1 Q
def EvUW (X : Cx) (e : Expr) (σ : L2.St) (F Hl : Hp) (l : Addr) (x : β) (r : Bool) (y : β) : Prop := ∀ F1 H1 o, GrX X.K F Hl F1 (er H1 l) → F1 l = none → H1 l = some o → ob X.K F1 o x → ∀ Q : Bool → Hp → Prop, (∀ F2 H2 o2, Gr F1 (er H1 l) F2 (er H2 l) → F2 l = none → H2 l = some o2 → ob X.K F2 o2 y → Q r H2) → GoW X e σ H1 Q
theorem eu_pure {ρ : Type} [Rp ρ] {r : ρ} (h : Ev X e σ F Hl r) : EvU X e σ F Hl l c0 r c0 := fun F1 H1 o g f h1 bo Q q => h F1 H1 (g.wide ⟨_, h1, Ob.pl bo⟩) Q fun v F2 H2 g2 r2 =>
  q v F2 H2 o (g2.both f h1 (Ob.ls bo) (Ob.pl bo)) ((g2.fr l o h1 (Ob.ls bo)).trans f) (g2.hh.k _ _ h1 (Ob.pl bo).ntb) (Ob.mono g2.ff bo) r2
theorem eut_pure {r : Bool} (h : EvT X e σ F Hl r) : EvUT X e σ F Hl l c0 r c0 := fun F1 H1 o g f h1 bo Q q => h F1 H1 (g.wide ⟨_, h1, Ob.pl bo⟩) Q fun F2 H2 g2 =>
  q F2 H2 o (g2.both f h1 (Ob.ls bo) (Ob.pl bo)) ((g2.fr l o h1 (Ob.ls bo)).trans f) (g2.hh.k _ _ h1 (Ob.pl bo).ntb) (Ob.mono g2.ff bo)
theorem EvU.up {ρ : Type} [Rp ρ] {r : ρ} {F' H' : Hp} (h : EvU X e σ F Hl l c0 r c1) (g : Gr F Hl F' H') : EvU X e σ F' H' l c0 r c1 := fun F1 H1 o g1 => h F1 H1 o (.pre g g1)
/-- as a change of what is owned -/
theorem EvU.m {ρ : Type} [Rp ρ] {r : ρ} (o : Own X.K H0 F H l c0) (h : EvU X e σ F (er H l) l c0 r c1) : EvM X e σ F H l r c1 := fun F1 H1 g Q q => by
  have o1 := o.up g.toGr
  obtain ⟨u, hu, ru⟩ := o1.h
  exact h F1 H1 u ⟨o.ere g.toGr, g.h.er o1.pl⟩ o1.f hu ru Q fun v F2 H2 o2 g2 f2 h2 b2 r2 => q v F2 H2 o2 (g2.wide ⟨_, h2, Ob.pl b2⟩) f2 h2 b2 r2
theorem eu_op {α γ ρ : Type} [Rp α] [Rp γ] [Rp ρ] {x : α} {y : γ} {z : ρ} {op : Operator} {r : R2} (ho : OpR X (binaryOp op) r) (hr : Op2 X.K r x y z) (ha : EvU X a σ F Hl l c0 x c1) (hb : EvU X b σ F Hl l c1 y c2) : EvU X (.BinOp a op b pos) σ F Hl l c0 z c2 := fun F1 H1 o g f h1 bo Q q =>
  GoE.of (pe_op ho pe_go pe_go) (ha F1 H1 o g f h1 bo _ fun v F2 H2 o2 g2 f2 h2 b2 r2 => hb F2 H2 o2 (g.trans g2) f2 h2 b2 _ fun w F3 H3 o3 g3 f3 h3 b3 r3 => hr F3 H3 v w Q (Gr.wide g3 ⟨_, h3, Ob.pl b3⟩).fh (Rp.mono g3.ff r2) r3 fun u F4 H4 g4 r4 =>
    q u F4 H4 o3 ((g2.trans g3).trans (g4.both f3 h3 (Ob.ls b3) (Ob.pl b3))) ((g4.fr l o3 h3 (Ob.ls b3)).trans f3) (g4.hh.k _ _ h3 (Ob.pl b3).ntb) (Ob.mono g4.ff b3) r4)
theorem eu_add {x y : Int} (ha : EvU X a σ F Hl l c0 x c1) (hb : EvU X b σ F Hl l c1 y c2) : EvU X (.BinOp a .Add b pos) σ F Hl l c0 (x + y) c2 := eu_op op_add (o2_I0 fun _ => rfl) ha hb
theorem eu_sub {x y : Int} (ha : EvU X a σ F Hl l c0 x c1) (hb : EvU X b σ F Hl l c1 y c2) : EvU X (.BinOp a .Sub b pos) σ F Hl l c0 (x - y) c2 := eu_op op_sub (o2_I0 fun _ => rfl) ha hb
theorem eu_mulG {x y r : Int} (ha : EvU X a σ F Hl l c0 x c1) (hb : EvU X b σ F Hl l c1 y c2) (h : mulG x y = some r) : EvU X (.BinOp a .Mult b pos) σ F Hl l c0 r c2 := by
  obtain ⟨c | c, rfl⟩ := mulG_of h
  · exact eu_op op_mul (o2_I c fun _ => rfl) ha hb
  · exact eu_op op_mulW (o2_I c fun _ => rfl) ha hb
theorem eut_cmp {α γ : Type} [Rp α] [Rp γ] {x : α} {y : γ} {z : Bool} {op : CmpOp} {r : R2} (ho : OpR X (compareOp op) r) (hr : Op2 X.K r x y z) (ha : EvU X a σ F Hl l c0 x c1) (hb : EvU X b σ F Hl l c1 y c2) (hm : behindInMarks op b = false) : EvUT X (.Compare a [op] [b] pos) σ F Hl l c0 z c2 := fun F1 H1 o g f h1 bo Q q =>
  GoT.of (pt_cmpR ho pe_go pe_go hm) (ha F1 H1 o g f h1 bo _ fun v F2 H2 o2 g2 f2 h2 b2 r2 => hb F2 H2 o2 (g.trans g2) f2 h2 b2 _ fun w F3 H3 o3 g3 f3 h3 b3 r3 => hr F3 H3 v w _ (Gr.wide g3 ⟨_, h3, Ob.pl b3⟩).fh (Rp.mono g3.ff r2) r3 fun u F4 H4 g4 r4 => by
    have r4 : u = .bl z := r4
    subst r4
    exact ⟨z, rfl, q F4 H4 o3 ((g2.trans g3).trans (g4.both f3 h3 (Ob.ls b3) (Ob.pl b3))) ((g4.fr l o3 h3 (Ob.ls b3)).trans f3) (g4.hh.k _ _ h3 (Ob.pl b3).ntb) (Ob.mono g4.ff b3)⟩)
theorem euw_and1 {r : Bool} (h : EvUT X a σ F Hl l c0 r c1) : EvUW X (.BoolOp .And [a] pos) σ F Hl l c0 r c1 := fun F1 H1 o g f h1 bo Q q => GoW.of (pw_and1 pt_go) (h F1 H1 o g f h1 bo Q q)
theorem euw_and {r : Bool} {rs : List Expr} (ha : EvUT X a σ F Hl l c0 true c1) (hb : EvUW X (.BoolOp .And (b :: rs) pos) σ F Hl l c1 r c2) : EvUW X (.BoolOp .And (a :: b :: rs) pos) σ F Hl l c0 r c2 := fun F1 H1 o g f h1 bo Q q =>
  GoW.of (pw_and pt_go pw_go) (ha F1 H1 o g f h1 bo _ fun F2 H2 o2 g2 f2 h2 b2 => by
    rw [if_pos rfl]; exact hb F2 H2 o2 (g.trans g2) f2 h2 b2 Q fun F3 H3 o3 g3 f3 h3 b3 => q F3 H3 o3 (g2.trans g3) f3 h3 b3)
theorem EvUW.t {r : Bool} (h : EvUW X e σ F Hl l c0 r c1) : EvUT X e σ F Hl l c0 r c1 := fun F1 H1 o g f h1 bo Q q => GoT.of (PW.pt pw_go) (h F1 H1 o g f h1 bo Q q)
/-! ### args -/
theorem eua_nil : EvUA X [] σ F Hl l c0 () c0 := fun F1 H1 o g f h1 bo Q q => GoA.of pa_nil (q [] F1 H1 o (.refl (g.fh)) f h1 bo rfl)
theorem eua_cons {α τ : Type} [Rp α] [Ra τ] {x : α} {y : τ} (ha : EvU X e σ F Hl l c0 x c1) (hr : EvUA X es σ F Hl l c1 y c2) (hs : starEach (e :: es) X.env = (false, eval e X.env) :: starEach es X.env := by rfl) : EvUA X (e :: es) σ F Hl l c0 (x, y) c2 := fun F1 H1 o g f h1 bo Q q =>
  GoA.of (pa_cons pe_go pa_go hs) (ha F1 H1 o g f h1 bo _ fun v F2 H2 o2 g2 f2 h2 b2 r2 => hr F2 H2 o2 (g.trans g2) f2 h2 b2 _ fun vs F3 H3 o3 g3 f3 h3 b3 r3 => q _ F3 H3 o3 (g2.trans g3) f3 h3 b3 ⟨v, vs, rfl, Rp.mono g3.ff r2, r3⟩)
theorem eul_nil {α : Type} [Rp α] : EvUL X [] σ F Hl l c0 ([] : List α) c0 := fun F1 H1 o g f h1 bo Q q => GoA.of pa_nil (q [] F1 H1 o (.refl (g.fh)) f h1 bo .nil)
theorem eul_cons {α : Type} [Rp α] {x : α} {xs : List α} (ha : EvU X e σ F Hl l c0 x c1) (hr : EvUL X es σ F Hl l c1 xs c2) (hs : starEach (e :: es) X.env = (false, eval e X.env) :: starEach es X.env := by rfl) : EvUL X (e :: es) σ F Hl l c0 (x :: xs) c2 := fun F1 H1 o g f h1 bo Q q =>
  GoA.of (pa_cons pe_go pa_go hs) (ha F1 H1 o g f h1 bo _ fun v F2 H2 o2 g2 f2 h2 b2 r2 => hr F2 H2 o2 (g.trans g2) f2 h2 b2 _ fun vs F3 H3 o3 g3 f3 h3 b3 r3 => q _ F3 H3 o3 (g2.trans g3) f3 h3 b3 (.cons (Rp.mono g3.ff r2) r3))
theorem Gr.new_er {F3 H3 : Hp} {l p : Addr} {o o3 : HO} (fh : L2.Same F3 (er H3 l)) (hp : H3 p = none) (h3 : H3 l = some o3) (no : ntb o := by trivial) : Gr F3 (er H3 l) (upd F3 p o) (er (upd H3 p o) l) ∧ p ≠ l := by
  have hn : p ≠ l := fun e => by rw [e, h3] at hp; cases hp
  have e1 : er (upd H3 p o) l = upd (er H3 l) p o := by
    funext b
    by_cases h : b = l
    · rw [h, er_same, upd_ne (fun z => hn z.symm), er_same]
    · rw [er_ne h]
      by_cases h2 : b = p
      · rw [h2, upd_same, upd_same]
      · rw [upd_ne h2, upd_ne h2, er_ne h]
  rw [e1]
  exact ⟨Gr.new fh (by rw [er_ne hn]; exact hp) no, hn⟩
theorem eu_list {α : Type} [Rp α] {xs : List α} (h : EvUL X es σ F Hl l c0 xs c1) (hz : xs.length ≤ sizeLine) : EvU X (.List es pos) σ F Hl l c0 xs c1 := fun F1 H1 o g f h1 bo Q q =>
  GoE.of (pe_lst pa_go) (h F1 H1 o g f h1 bo _ fun vs F2 H2 o2 g2 f2 h2 b2 r2 => ⟨by rw [r2.length]; exact hz, fun p hp => by
    obtain ⟨g3, hn⟩ := Gr.new_er (o := .lst vs) g2.fh hp h2
    have s3 : L2.Same F2 (upd F2 p (.lst vs)) := g3.ff
    exact q (.ref p) _ _ o2 (g2.trans g3) (by rw [upd_ne (fun z => hn z.symm)]; exact f2) (by rw [upd_ne (fun z => hn z.symm)]; exact h2) (Ob.mono s3 b2) ⟨p, vs, rfl, SqL.of upd_same, r2.mono s3⟩⟩)
theorem eu_ixL {α : Type} [Rp α] {xs : List α} {i : Int} {x : α} (ha : EvU X a σ F Hl l c0 xs c1) (hb : EvU X b σ F Hl l c1 i c2) (h : L2.atI xs i = some x) (hs : PlainIx b := by exact fun _ _ => rfl) : EvU X (.Subscript a b pos) σ F Hl l c0 x c2 := fun F1 H1 o g f h1 bo Q q =>
  GoE.of (pe_ix ix_list pe_go pe_go hs) (ha F1 H1 o g f h1 bo _ fun v F2 H2 o2 g2 f2 h2 b2 r2 => hb F2 H2 o2 (g.trans g2) f2 h2 b2 _ fun w F3 H3 o3 g3 f3 h3 b3 r3 => by
    obtain ⟨p, vs, rfl, sq, rs⟩ := Rp.mono g3.ff r2
    obtain ⟨y, hy, ry⟩ := rs.atI h
    exact ⟨p, vs, i, y, rfl, r3, (Gr.wide g3 ⟨_, h3, Ob.pl b3⟩).fh.seq sq, hy, q y F3 H3 o3 (g2.trans g3) f3 h3 b3 ry⟩)
theorem eu_tup {θ τ : Type} [Ra τ] [RaN τ] [Rp θ] [Tup θ τ] {x : θ} {k : Nat} (h : EvUA X es σ F Hl l c0 (Tup.row x) c1) (hz : RaN.n τ ≤ sizeLine) : EvU X (.Tuple es k pos) σ F Hl l c0 x c1 := fun F1 H1 o g f h1 bo Q q =>
  GoE.of (pe_tup pa_go) (h F1 H1 o g f h1 bo _ fun vs F2 H2 o2 g2 f2 h2 b2 r2 => ⟨by rw [RaN.len r2]; exact hz, fun p hp => by
    obtain ⟨g3, hn⟩ := Gr.new_er (o := .tup vs) g2.fh hp h2
    have s3 : L2.Same F2 (upd F2 p (.tup vs)) := g3.ff
    exact q (.ref p) _ _ o2 (g2.trans g3) (by rw [upd_ne (fun z => hn z.symm)]; exact f2) (by rw [upd_ne (fun z => hn z.symm)]; exact h2) (Ob.mono s3 b2) (Tup.eq.mpr ⟨p, vs, rfl, upd_same, Ra.mono s3 r2⟩)⟩)
theorem eu_tup2 {α γ : Type} [Rp α] [Rp γ] {x : α} {y : γ} {k : Nat} (h : EvUA X es σ F Hl l c0 (x, y, ()) c1) : EvU X (.Tuple es k pos) σ F Hl l c0 (T2.mk x y) c1 := eu_tup (θ := T2 α γ) h (by show 2 ≤ sizeLine; decide)
theorem eu_tup3 {α γ δ : Type} [Rp α] [Rp γ] [Rp δ] {x : α} {y : γ} {z : δ} {k : Nat} (h : EvUA X es σ F Hl l c0 (x, y, z, ()) c1) : EvU X (.Tuple es k pos) σ F Hl l c0 (T3.mk x y z) c1 := eu_tup (θ := T3 α γ δ) h (by show 3 ≤ sizeLine; decide)
/-- f(.., e, ..) where an argument changes it -/
theorem eu_call {τ ρ : Type} [Ra τ] [Rp ρ] {f : τ → Option ρ} {y : τ} {r : ρ} {k : Nat} {fa : Addr} {fd : FuncData} {ps : List Str} {x : Str} {p : Pos} (Fn : FnOk X.prog X.w X.K X.mg X.base CX0 k fa fd ps (Pr X.K f)) (hr : Room k X.A) (hm : X.mg x = some (.ref fa))
    (hk : PySem.W.keepIn X.K (.ref fa) = true) (hb : Binds X.K fd ps []) (ha : EvUA X (e :: es) σ F Hl l c0 y c1) (h : f y = some r) (hg : Gl X x := by rfl) (hdb : (x == ("__debug__" : Str)) = false := by decide)
    (he : starEach (e :: es) X.env = (false, eval e X.env) :: starEach es X.env := by rfl) (hpl : (backTo pos (starEach es X.env)).any (·.1) = false := by rfl) : EvU X (.Call (.Name x p) (e :: es) [] pos) σ F Hl l c0 r c1 := fun F1 H1 o g f1 h1 bo Q q =>
  GoE.of (pe_call Fn hr hg hm hk hb .nil pass0 pa_go hdb he hpl) (ha F1 H1 o g f1 h1 bo _ fun vs F2 H2 o2 g2 f2 h2 b2 r2 => ⟨F2, y, r, ((g.trans g2).wide ⟨_, h2, Ob.pl b2⟩).sm, by rw [List.append_nil]; exact r2, h, fun F3 H3 u g3 r3 =>
    q u F3 H3 o2 (g2.trans (g3.both f2 h2 (Ob.ls b2) (Ob.pl b2))) ((g3.fr l o2 h2 (Ob.ls b2)).trans f2) (g3.hh.k _ _ h2 (Ob.pl b2).ntb) (Ob.mono g3.ff b2) r3⟩)
/-- f(.., l, ..) that changes it -/
theorem eu_mut {τ1 τ2 ρ : Type} [Ra τ1] [Ra τ2] [Rp ρ] {f : τ1 → β → τ2 → Option (ρ × β)} {y : τ1} {z : τ2} {r : ρ × β} {k : Nat} {fa : Addr} {fd : FuncData} {ps : List Str} {x : Str} {p : Pos} (Fn : FnOk X.prog X.w X.K X.mg X.base CX0 k fa fd ps (PrM X.K f)) (hr : Room k X.A) (hm : X.mg x = some (.ref fa))
    (hk : PySem.W.keepIn X.K (.ref fa) = true) (hb : Binds X.K fd ps []) (ha : EvAM X (e :: es) σ F Hl y l z) (h : f y c0 z = some r) (hg : Gl X x := by rfl) (hdb : (x == ("__debug__" : Str)) = false := by decide)
    (he : starEach (e :: es) X.env = (false, eval e X.env) :: starEach es X.env := by rfl) (hpl : (backTo pos (starEach es X.env)).any (·.1) = false := by rfl) : EvU X (.Call (.Name x p) (e :: es) [] pos) σ F Hl l c0 r.1 r.2 := fun F1 H1 o g f1 h1 bo Q q =>
  GoE.of (pe_call Fn hr hg hm hk hb .nil pass0 pa_go hdb he hpl) (ha F1 H1 (g.wide ⟨_, h1, Ob.pl bo⟩) _ fun vs1 vs2 F2 H2 g2 r2 r3 =>
    ⟨F2, vs1, l, vs2, o, y, c0, z, r, by rw [List.append_nil], ((g.wide ⟨_, h1, Ob.pl bo⟩).trans g2).sm, r2, r3, (g2.fr l o h1 (Ob.ls bo)).trans f1, g2.hh.k _ _ h1 (Ob.pl bo).ntb, Ob.mono g2.ff bo, h, fun F3 H3 v o' g3 f3 h3 b3 r3 => q v F3 H3 o' ((g2.both f1 h1 (Ob.ls bo) (Ob.pl bo)).trans (g3.ere0 f3 (er_same) ⟨_, h3, Ob.pl b3⟩)) f3 h3 b3 r3⟩)
/-- f(new, ..): what is handed in is dropped -/
theorem ev_callNM {τ2 ρ : Type} [Ra τ2] [Rp ρ] {f : Unit → β → τ2 → Option (ρ × β)} {z : τ2} {r : ρ × β} {k : Nat} {fa : Addr} {fd : FuncData} {ps : List Str} {x : Str} {p : Pos} (Fn : FnOk X.prog X.w X.K X.mg X.base CX0 k fa fd ps (PrM X.K f)) (hr : Room k X.A) (hm : X.mg x = some (.ref fa))
    (hk : PySem.W.keepIn X.K (.ref fa) = true) (hb : Binds X.K fd ps []) (hn : EvN X e σ F H c0) (ha : EvA X es σ F H z) (h : f () c0 z = some r) (hg : Gl X x := by rfl) (hdb : (x == ("__debug__" : Str)) = false := by decide)
    (he : starEach (e :: es) X.env = (false, eval e X.env) :: starEach es X.env := by rfl) (hpl : (backTo pos (starEach es X.env)).any (·.1) = false := by rfl) : Ev X (.Call (.Name x p) (e :: es) [] pos) σ F H r.1 := fun F1 H1 g Q q =>
  GoE.of (pe_call Fn hr hg hm hk hb .nil pass0 (pa_cons pe_go pa_go he) hdb he hpl) (hn F1 H1 g _ fun l o F2 H2 g2 n2 f2 h2 b2 => ha F2 H2 (g.trans g2) _ fun vs F3 H3 g3 r3 => by
    have f3 : F3 l = none := (g3.fr l o h2 (Ob.ls b2)).trans f2
    have gA : Gr F1 H1 F3 (er H3 l) := by
      have g23 := g2.trans g3
      have pl3 : PlAt H3 l := ⟨_, g3.hh.k _ _ h2 (Ob.pl b2).ntb, Ob.pl b2⟩
      refine ⟨g23.ff, fun b u q => ?_, ⟨fun b u q n => ?_, fun b ps q => ?_, fun P a => (g23.hh.w P a).er pl3⟩, g23.fr⟩
      · rw [er_ne (ne_of_none q f3)]; exact g3.fh _ _ q
      · rw [er_ne (ne_of_none q n2)]; exact g23.hh.k _ _ q n
      · rw [er_ne (ne_of_none q n2)]; exact g23.hh.t _ _ q
    exact ⟨F3, [], l, vs, o, (), c0, z, r, by rw [List.append_nil]; rfl, ((g.trans g2).trans g3).sm, rfl, r3, f3, g3.hh.k _ _ h2 (Ob.pl b2).ntb, Ob.mono g3.ff b2, h, fun F4 H4 v o' g4 f4 h4 b4 r4 => q v F4 H4 (gA.trans g4) r4⟩)
/-! ### an if whose test changes it -/
theorem go_ifU {x : β} (t : Bool) {as bs : List Stmt} (o : Own X.K H0 F H l x) (s : SmX X.K F H) (hc : EvUT X c σ F (er H l) l x t c1) (ka : t = true → ∀ F' H' o', Gr F (er H l) F' H' → F' l = none → H' l = some o' → ob X.K F' o' c1 → GoS X as { D with nx := GoS X rest D } σ H') (kb : t = false → ∀ F' H' o', Gr F (er H l) F' H' → F' l = none → H' l = some o' → ob X.K F' o' c1 → GoS X bs { D with nx := GoS X rest D } σ H') :
    GoS X (.If c as bs pos :: rest) D σ H := by
  obtain ⟨u, hu, ru⟩ := o.h
  refine GoS.cons (ps_if pt_go pss_go pss_go) (hc F H u (.refl (s.er o.f o.pl)) o.f hu ru _ fun F2 H2 o2 g2 f2 h2 b2 => ?_)
  cases t with
  | true => rw [if_pos rfl]; exact ka rfl F2 H2 o2 (g2.wide ⟨_, h2, Ob.pl b2⟩) f2 h2 b2
  | false => rw [if_neg Bool.false_ne_true]; exact kb rfl F2 H2 o2 (g2.wide ⟨_, h2, Ob.pl b2⟩) f2 h2 b2
end
end Gx
namespace Gx
open PySem PySem.Spec PyProof.Rows L2
open Rp (rp)
open Ra (ra)
open Ob (ob)
section
variable {X : Cx} {e : Expr} {es : List Expr} {σ : L2.St} {F Hl : Hp} {l : Addr} {β : Type} [Rp β] [Ob β] {c0 c1 c2 : β}
/-- a name that is seen -/
structure VKn (sc : Scope) (n : Str) : Prop where
  v : Vis sc n
  d : (n == ("__debug__" : Str)) = false
  c : (n == ("__classdict__" : Str)) = false
theorem ev_varK {α : Type} [Rp α] {x : α} {v : V} {H : Hp} (i : Nat) {n : Str} {pos : Pos} (hs : σ[i]? = some (some v)) (h : rp X.K F v x) (k : VKn X.env.scope n) (hN : X.N[i]? = some n := by rfl) : Ev X (.Name n pos) σ F H x := ev_var i hs h hN k.v k.d k.c
theorem Ev.getA {α : Type} [Rp α] [NN α] {x : α} {H : Hp} (o : Option α) (h : Ev X e σ F H o) (he : o = Option.some x) : Ev X e σ F H x := h.get he
theorem eul_int {i : Int} {j : Nat} {pos : Pos} {xs : List Int} (hr : EvUL X es σ F Hl l c0 xs c2) : EvUL X (.Constant (.int i) j pos :: es) σ F Hl l c0 (i :: xs) c2 := eul_cons (eu_pure ev_int) hr
theorem eu_listI {xs : List Int} {pos : Pos} (h : EvUL X es σ F Hl l c0 xs c1) (hz : xs.length ≤ sizeLine) : EvU X (.List es pos) σ F Hl l c0 xs c1 := eu_list h hz
theorem eu_ixLI {xs : List Int} {i x : Int} {a b : Expr} {pos : Pos} (ha : EvU X a σ F Hl l c0 xs c1) (hb : EvU X b σ F Hl l c1 i c2) (h : L2.atI xs i = some x) (hs : PlainIx b := by exact fun _ _ => rfl) : EvU X (.Subscript a b pos) σ F Hl l c0 x c2 := eu_ixL ha hb h hs
/-- a list that is pure -/
theorem eu_pureL {xs : List Int} (h : Ev X e σ F Hl xs) : EvU X e σ F Hl l c0 xs c0 := eu_pure h
end
end Gx

/-! Ga: a tuple with a private list in it. -/
namespace Gx
open PySem PySem.Spec PyProof.Rows L2
open Rp (rp)
open Ra (ra)
open Ob (ob)
/-- v is the tuple of x and the thing at l -/
def C2 {α : Type} [Rp α] (K : PySem.W.Frag) (F : Hp) (v : V) (l : Addr) (x : α) : Prop := ∃ a w, v = .ref a ∧ TupF F a [w, .ref l] ∧ rp K F w x
theorem C2.mono {α : Type} [Rp α] {K : PySem.W.Frag} {F F' : Hp} {v : V} {l : Addr} {x : α} (h : C2 K F v l x) (s : L2.Same F F') : C2 K F' v l x := by
  obtain ⟨a, w, e, t, r⟩ := h
  exact ⟨a, w, e, tupF_mono s t, Rp.mono s r⟩
theorem C2.rp {α γ : Type} [Rp α] [Rp γ] {K : PySem.W.Frag} {F : Hp} {v : V} {l : Addr} {x : α} {y : γ} (h : C2 K F v l x) (r : Rp.rp K F (.ref l) y) : Rp.rp K F v (T2.mk x y) := by
  obtain ⟨a, w, e, t, rw'⟩ := h
  exact ⟨a, _, e, t, w, _, rfl, rw', .ref l, _, rfl, r, rfl⟩
theorem C2.of {α γ : Type} [Rp α] [Rp γ] {K : PySem.W.Frag} {F : Hp} {v : V} {l : Addr} {t : T2 α γ} (h : C2 K F v l t.a) (r : Rp.rp K F (.ref l) t.b) : Rp.rp K F v t := h.rp r
theorem C2.er {α : Type} [Rp α] [Flat α] {K : PySem.W.Frag} {F : Hp} {v : V} {l l0 : Addr} {x : α} (h : C2 K F v l x) (h1 : ∀ xs, ¬ F l0 = some (.tup xs)) (h2 : ∀ o xs, ¬ F l0 = some (.frz o (.tup xs))) : C2 K (er F l0) v l x := by
  obtain ⟨a, w, e, t, r⟩ := h
  exact ⟨a, w, e, er_seqT h1 h2 t, Flat.fl h1 h2 r⟩
section
variable {X : Cx} {K : PySem.W.Frag} {e a b c d : Expr} {es : List Expr} {σ : L2.St} {F H F0 H0 : Hp} {pos : Pos} {D : Ends} {st : Stmt} {rest body : List Stmt} {α γ : Type} [Rp α] [Rp γ] {x : α} {ys : List γ}
/-- e gives a new tuple of x and a new list -/
def EvCP (X : Cx) (e : Expr) (σ : L2.St) (F H : Hp) (x : α) (ys : List γ) : Prop := ∀ F1 H1, GrX X.K F H F1 H1 → ∀ Q : VK, (∀ u l o F2 H2, Gr F1 H1 F2 H2 → H1 l = none → F2 l = none → H2 l = some o → ob X.K F2 o ys → C2 X.K F2 u l x → Q u H2) → GoE X e σ H1 Q
theorem ecp_tup2 {k : Nat} (ha : Ev X a σ F H x) (hb : EvN X b σ F H ys) (hs : starEach [a, b] X.env = (false, eval a X.env) :: starEach [b] X.env := by rfl) (hs2 : starEach [b] X.env = (false, eval b X.env) :: starEach [] X.env := by rfl) : EvCP X (.Tuple [a, b] k pos) σ F H x ys := fun F1 H1 g Q q =>
  GoE.of (pe_tup (pa_cons pe_go (pa_cons pe_go pa_nil hs2) hs)) (ha F1 H1 g _ fun v F2 H2 g2 r2 => hb F2 H2 (g.trans g2) _ fun l o F3 H3 g3 n3 f3 h3 b3 => ⟨by show 2 ≤ sizeLine; decide, fun p hp => by
    have hl : l ≠ p := ne_of_none h3 hp
    have g4 : Gr F3 H3 (upd F3 p (.tup [v, .ref l])) (upd H3 p (.tup [v, .ref l])) := Gr.new g3.fh hp trivial
    exact q (.ref p) l o _ _ ((g2.trans g3).trans g4) (g2.hh.free n3) (by rw [upd_ne hl]; exact f3) (by rw [upd_ne hl]; exact h3) (Ob.mono g4.ff b3) ⟨p, v, rfl, upd_same, Rp.mono (g3.ff.trans g4.ff) r2⟩⟩)
def PrCP (K : PySem.W.Frag) {τ : Type} [Ra τ] (f : τ → Option (T2 α (List γ))) : Sp := fun vs H Q _ => ∃ F a r, SmX K F H ∧ ra K F vs a ∧ f a = some r ∧ ∀ u l o F' H', Gr F H F' H' → H l = none → F' l = none → H' l = some o → ob K F' o r.b → C2 K F' u l r.a → Q u H'
theorem ecp_call {τ : Type} [Ra τ] {f : τ → Option (T2 α (List γ))} {y : τ} {r : T2 α (List γ)} {k : Nat} {fa : Addr} {fd : FuncData} {ps : List Str} {x : Str} {p : Pos} (Fn : FnOk X.prog X.w X.K X.mg X.base CX0 k fa fd ps (PrCP X.K f)) (hr : Room k X.A) (hm : X.mg x = some (.ref fa))
    (hk : PySem.W.keepIn X.K (.ref fa) = true) (hb : Binds X.K fd ps []) (ha : EvA X (e :: es) σ F H y) (h : f y = some r) (hg : Gl X x := by rfl) (hdb : (x == ("__debug__" : Str)) = false := by decide)
    (he : starEach (e :: es) X.env = (false, eval e X.env) :: starEach es X.env := by rfl) (hpl : (backTo pos (starEach es X.env)).any (·.1) = false := by rfl) : EvCP X (.Call (.Name x p) (e :: es) [] pos) σ F H r.a r.b := fun F1 H1 g Q q =>
  GoE.of (pe_call Fn hr hg hm hk hb .nil pass0 pa_go hdb he hpl) (ha F1 H1 g _ fun vs F2 H2 g2 r2 => ⟨F2, y, r, (g.trans g2).sm, by rw [List.append_nil]; exact r2, h, fun u l o F3 H3 g3 n3 f3 h3 b3 c3 => q u l o F3 H3 (g2.trans g3) (g2.hh.free n3) f3 h3 b3 c3⟩)
theorem fn_okCP {P : Program} {w : World} {mg : Str → Option Value} {base : Heap} {τ : Type} [Ra τ] [RaN τ] {f : τ → Option (T2 α (List γ))} {x qual : Str} {s0 : Stmt} {fa : Addr} {fd : FuncData} {N ps : List Str} {k : Nat} (Fn : FunD K x qual (defArgs s0) (defBody s0) (defScope s0) [] [] fa fd) (S : FnScope N ps (defScope s0)) (hn : RaN.n τ = ps.length)
    (hbody : ∀ (cdv : Value) (A : Around) (outer : List Env) (s : Shared) (F H : Hp) (vs : List V) (a : τ) (r : T2 α (List γ)) (D : Ends) (E : XK), Room k (A.deeper (envOfC qual (defScope s0) s.heap.objs.size fa cdv)) → SmX K F H → ra K F vs a → f a = some r → (∀ u l o F' H', GrX K F H F' H' → H l = none → F' l = none → H' l = some o → ob K F' o r.b → C2 K F' u l r.a → D.rt u H') →
      True → GoS (cxOf CX0 P w K mg base N qual (defScope s0) fa cdv A outer s H E).nox (defBody s0) D (start N vs) H) :
    FnOk P w K mg base CX0 (k + 1) fa fd ps (PrCP K f) := by
  refine Fn.ok S (fun vs H Q E ⟨F, a, r, _, ra', _⟩ => by rw [RaN.len ra', hn]) fun cdv A outer s H vs Q E hr ⟨F, a, r, sm, ra', hf, k⟩ => ?_
  exact ⟨_, PSs.nox pss_go, hbody cdv A outer s F H vs a r { nx := fun _ H' => Q .non H', rt := Q } E hr sm ra' hf (fun u l o F' H' g n f h r c => k u l o F' H' g.toGr n f h r c) trivial⟩
theorem go_retCP (s : SmX X.K F H) (he : EvCP X e σ F H x ys) (k : ∀ u l o F' H', Gr F H F' H' → H l = none → F' l = none → H' l = some o → ob X.K F' o ys → C2 X.K F' u l x → D.rt u H') : GoS X (.Return (some e) pos :: rest) D σ H :=
  GoS.cons (ps_ret pe_go) (he F H (.refl s) _ fun u l o F2 H2 g n f h r c => k u l o F2 H2 g n f h r c)
theorem go_setCP {n : Str} {p : Pos} (i : Nat) (s : SmX X.K F H) (he : EvCP X e σ F H x ys) (k : ∀ u l o F' H', Gr F H F' H' → H l = none → F' l = none → H' l = some o → ob X.K F' o ys → C2 X.K F' u l x → GoS X rest D (σ.set i (some u)) H') (hN : X.N.Nodup) (hi : X.N[i]? = some n := by rfl)
    (hx : Loc X.env.scope n := by first | exact Or.inl rfl | exact Or.inr rfl) (hs : swapsWith e (some (.Name n p)) pos.line X.env = pure false := by rfl) (hf : X.fn n = true ∨ X.env.scope.names.lookup n = some .local := by first | exact .inl rfl | exact .inr rfl) :
    GoS X (.Assign [.Name n p] e pos :: rest) D σ H :=
  GoS.cons (ps_set hN hi hx pe_go hs hf) (he F H (.refl s) _ fun u l o F2 H2 g n f h r c => k u l o F2 H2 g n f h r c)
theorem EvCP.ev (h : EvCP X e σ F H x ys) : Ev X e σ F H (T2.mk x ys) := fun F1 H1 g Q q =>
  GoE.lock (Q' := fun v H2 => ∃ l o F2, C2 X.K F2 v l x ∧ Gr F1 H1 F2 H2 ∧ H1 l = none ∧ F2 l = none ∧ H2 l = some o ∧ ob X.K F2 o ys) (h F1 H1 g _ fun u l o F2 H2 g2 n2 f2 h2 r2 c2 => ⟨l, o, F2, c2, g2, n2, f2, h2, r2⟩)
    fun v H2 ⟨l, o, F2, c2, g2, n2, f2, h2, r2⟩ => ⟨l, o, h2, Ob.mu r2, fun od =>
      q _ (upd F2 l (.frz od o)) _ (g2.freeze n2 f2 ⟨_, h2, Ob.pl r2⟩ trivial) ((c2.mono (same_upd f2)).rp (Ob.fz upd_same (Ob.mono (same_upd f2) r2)))⟩
theorem EvCP.evT {t : T2 α (List γ)} (h : EvCP X e σ F H t.a t.b) : Ev X e σ F H t := h.ev
theorem ecp_thaw {β : Type} [Flat α] [Flat γ] [Rp β] [Ob β] {y : β} {l : Addr} (o : Own X.K H0 F H l y) (s : L2.Same F H) (h : ∀ F' H', L2.Same F F' → L2.Same F' H' → rp X.K F' (.ref l) y → (∀ a, a ≠ l → F' a = F a ∧ H' a = H a) → EvCP X e σ F' H' x ys) : EvCP X e σ F H x ys := fun F1 H1 g Q q => by
  obtain ⟨u, hl, r⟩ := o.h
  have hl1 := g.hh.k _ _ hl (Ob.pl r).ntb
  refine GoE.locked hl1 (Ob.mu r) fun od => ?_
  obtain ⟨g1, f1, h1⟩ := GrX.show_ (u := .frz od u) hl o.f (Ob.ls r) (Ob.pl r) g
  refine h _ _ (same_upd o.f) (shown s) (Ob.fz upd_same (Ob.mono (same_upd o.f) r)) (fun a ha => ⟨upd_ne ha, upd_ne ha⟩) _ _ g1 _ fun v2 l2 u2 F2 H2 g2 n2 f2 h2 r2 c2 => ?_
  have e2 : F2 l = some (.frz od u) := g2.ff _ _ upd_same
  obtain ⟨n1, n2'⟩ := frz_no e2 (Ob.ls r)
  have hne : l2 ≠ l := fun e => by rw [e, upd_same] at n2; cases n2
  refine ⟨g2.fh _ _ e2, q v2 l2 u2 (er F2 l) _ (Gr.hide h1 f1 (Ob.pl r) g2) (by rw [upd_ne hne] at n2; exact n2) ?_ (by rw [upd_ne hne]; exact h2) (FlatO.fl n1 n2' r2) (c2.er n1 n2')⟩
  unfold er
  rw [if_neg hne]; exact f2
/-- t[1].append(e) -/
theorem go_appendCP {y : γ} {zs r : List γ} {l : Addr} {v : V} {n : Str} {j : Nat} {p1 p2 p3 p4 p5 : Pos} (i : Nat) (s : SmX X.K F H) (o : Own X.K H0 F H l zs) (ct : C2 X.K F v l x) (hσ : σ[i]? = some (some v)) (he : Ev X e σ F H y) (h : app zs y = some r)
    (k : ∀ u F' H', Gr F H F' H' → PlAt H' l → F' l = none → Own X.K H0 F' (upd H' l u) l r → GoS X rest D σ (upd H' l u)) (hN : X.N[i]? = some n := by rfl) (hv : Vis X.env.scope n := by first | exact Or.inl rfl | exact Or.inr (Or.inl rfl) | exact Or.inr (Or.inr rfl))
    (hd : (n == ("__debug__" : Str)) = false := by decide) (hcd : (n == ("__classdict__" : Str)) = false := by decide) 
    (hbase : attributeBase (.Subscript (.Name n p1) (.Constant (.int 1) j p4) p5) "append" X.env (eval (.Subscript (.Name n p1) (.Constant (.int 1) j p4) p5) X.env) = eval (.Subscript (.Name n p1) (.Constant (.int 1) j p4) p5) X.env := by rfl)
    (hfew : ((backTo p3 (starEach [e] X.env)).all (fun x => !x.1) && (backToKw p3 (keywordEach [] X.env)).all (fun x => x.1.isSome) && decide ([e].length + ([] : List Keyword).length + (if ([] : List Keyword).isEmpty then 0 else 1) < 30)) = true := by rfl)
    (hline : (p2.endLine == p3.line) = true := by rfl) (hs : starEach [e] X.env = (false, eval e X.env) :: starEach [] X.env := by rfl) (hplain : (backTo p3 (starEach [] X.env)).any (·.1) = false := by rfl) (hsw : swapsWith (.Call (.Attribute (.Subscript (.Name n p1) (.Constant (.int 1) j p4) p5) "append" p2) [e] [] p3) none pos.line X.env = pure false := by rfl) :
    GoS X (.Expr (.Call (.Attribute (.Subscript (.Name n p1) (.Constant (.int 1) j p4) p5) "append" p2) [e] [] p3) pos :: rest) D σ H := by
  obtain ⟨_, hl, vs, rfl, rs⟩ := o.h
  obtain ⟨hz, rfl⟩ := app_of h
  obtain ⟨a, w, ev, tf, rw'⟩ := ct
  refine GoS.cons (ps_expr (pe_bm PySem.F.plainAttrs_list PySem.F.slot_list_append PySem.F.type_list_append mt_append (pe_ix ix_tup (pe_var hN hv hd hcd) pe_int (fun _ _ => rfl)) (pa_cons pe_go pa_nil hs) hbase hfew hline hs hplain) hsw) ?_
  refine ⟨v, hσ, a, [w, .ref l], 1, .ref l, ev, rfl, seqT_mono s.s tf, rfl, .inl ⟨rfl, _, SqL.of hl⟩, he F H (.refl s) _ fun v F2 H2 g r => ?_⟩
  have o2 := o.up g
  have hl2 := g.hh.k _ _ hl trivial
  obtain ⟨_, hl3, vs2, rfl, rs2⟩ := o2.h
  rw [hl2] at hl3; cases hl3
  exact ⟨l, vs, v, rfl, rfl, hl2, by rw [rs2.length]; exact hz, k _ F2 H2 g o2.pl o2.f (Own.set o2.n o2.f (ob_lst (Rps.append rs2 (.cons r .nil))))⟩
end
end Gx

/-! Gu: defs made within defs, handed on and called. -/
namespace Gx
open PySem PySem.Spec PyProof.Rows L2
open Rp (rp)
open Ra (ra)
open Ob (ob)
/-! ### a def made within a def, as a thing -/
structure Fnv (τ ρ : Type) where
  f : Addr
  g : NdefX.NF
  fr : List Str
  ws : List (Option V)
  R : PySem.W.Frag → Hp → Prop
  mono : ∀ {K : PySem.W.Frag} {F F' : Hp}, L2.Same F F' → R K F → R K F'
  fn : τ → Option ρ
/-- the one value of a known thing -/
structure One {τ ρ : Type} (x : Fnv τ ρ) : Type where
section
variable {τ ρ : Type} {x : Fnv τ ρ} {X : Cx} {K : PySem.W.Frag} {e a b c d : Expr} {es : List Expr} {σ : L2.St} {F H F0 H0 : Hp} {pos : Pos} {D : Ends} {st : Stmt} {rest body : List Stmt}
instance : Rp (One x) := ⟨fun K F v _ => v = .ref x.f ∧ x.R K F, fun s h => ⟨h.1, x.mono s h.2⟩⟩
instance : NN (One x) := ⟨fun h => nomatch h.1⟩
/-- its objects stand -/
structure Mkf (x : Fnv τ ρ) (H : Hp) : Prop where
  f : H x.f = some (NdefX.FnO x.f x.g)
  c : H x.g.c = some (LamX.CodeO x.g.c x.g.qual)
theorem ntb_fnO {f : Addr} {g : NdefX.NF} : ntb (NdefX.FnO f g) := by show True; trivial
theorem ntb_codeO {c : Addr} {q : Str} : ntb (LamX.CodeO c q) := by show True; trivial
theorem Mkf.ext {H' : Hp} (m : Mkf x H) (h : Xt H H') : Mkf x H' := ⟨h.k _ _ m.f ntb_fnO, h.k _ _ m.c ntb_codeO⟩
/-- a name holds it -/
structure ClF (x : Fnv τ ρ) (K : PySem.W.Frag) (F H : Hp) (v : V) : Prop where
  r : rp K F v (One.mk : One x)
  m : Mkf x H
theorem ClF.ex {v : V} (h : ClF x K F H v) : ∃ z : Fnv τ ρ, z = x ∧ ClF z K F H v := ⟨x, rfl, h⟩
theorem ClF.up {v : V} {F' H' : Hp} (h : ClF x K F H v) (g : Gr F H F' H') : ClF x K F' H' v := ⟨Rp.mono g.ff h.r, h.m.ext g.hh⟩
/-- what stands of it ahead of a call -/
structure ZC (x : Fnv τ ρ) (outer : List Env) (s : Shared) (H : Hp) : Prop where
  m : Mkf x H
  c : NdefX.CellsAt x.g.cl x.fr x.ws s.heap H
  n : ∀ y a, x.g.cl.lookup y = some a → a ∉ frs outer
/-- its cells, at each state with the slots σ -/
def ClA (X : Cx) (σ : L2.St) (x : Fnv τ ρ) : Prop := ∀ pins H s, Inv X pins σ H s → NdefX.CellsAt x.g.cl x.fr x.ws s.heap H ∧ ∀ y a, x.g.cl.lookup y = some a → a ∉ frs X.stack
theorem clA_recv (z : ZC x X.outer X.s_0 X.H_0) (hx : X.ex = [] := by rfl) : ClA X σ x := fun pins H s I => by
  have no : ∀ q : Addr, q ∉ X.ex := fun q hq => by rw [hx] at hq; cases hq
  refine ⟨z.c.later z.n (fun _ q _ => no q) I, fun y q e hq => ?_⟩
  rcases List.mem_cons.mp (I.stkSub q hq) with z1 | z1
  · obtain ⟨_, v, o, ho, _⟩ := z.c.all y q e
    have h1 := Heap.lt_size ho
    have h2 := I.ok.above
    rw [← z1] at h2
    exact Nat.lt_irrefl _ (Nat.lt_of_lt_of_le h1 h2)
  · exact z.n y q e z1
theorem clA_made {sc : Scope} {js : List Nat} (hcl : x.g.cl = cloFrom X.env.cells sc.names []) (hfree : ∀ y ∈ sc.names, y.2 = .free → X.env.scope.names.lookup y.1 = some .cell ∨ X.env.scope.names.lookup y.1 = some .free)
    (hfr : ∀ y ∈ x.fr, (y, NameKind.free) ∈ sc.names) (hjs : js.map (fun j => X.N[j]?) = x.fr.map some) (hw : js.map (NdefX.slotAt σ) = x.ws) (hfn : X.fn = (fun _ => true) := by rfl) : ClA X σ x := fun pins H s I => by
  have cp := NdefX.Caps.made I.ok hfree hfr hjs
  rw [← hcl] at cp
  have C := NdefX.cells_of I cp
  rw [hw] at C
  refine ⟨C, fun y q e hq => ?_⟩
  have e1 := cp.sub y q e
  rcases List.mem_cons.mp (I.stkSub q hq) with z1 | z1
  · exact I.cne y q e1 z1
  · obtain ⟨_, o, ho, _⟩ := I.ok.funs.mem z1
    have h1 := Heap.lt_size ho
    have h2 := I.ok.cab y q (by rw [hfn]) e1
    exact Nat.lt_irrefl _ (Nat.lt_of_lt_of_le h1 h2)
/-! ### what it promises -/
def PrF (K : PySem.W.Frag) [Ra τ] [Rp ρ] (x : Fnv τ ρ) : List (Option V) → Sp := fun ws vs H Q _ => ws = x.ws ∧ ∃ F a r, SmX K F H ∧ x.R K F ∧ ra K F vs a ∧ x.fn a = some r ∧ ∀ F' H' u, Gr F H F' H' → rp K F' u r → Q u H'
def NokF (P : Program) (w : World) (K : PySem.W.Frag) (mg : Str → Option Value) (base : Heap) [Ra τ] [Rp ρ] (k : Nat) (x : Fnv τ ρ) : Prop := ∃ ps : List Str, NdefX.NOk P w K mg base CX0 k x.f x.g ps x.fr (PrF K x)
theorem nokF {P : Program} {w : World} {mg : Str → Option Value} {base : Heap} [Ra τ] [RaN τ] [Rp ρ] {N ps : List Str} {k : Nat} (S : NdefX.NScope N ps x.fr x.g.scope) (hn : RaN.n τ = ps.length)
    (hb : ∀ (doc pm ctv : Value) (us : List Value), us.length = ps.length → bindArgs (x.g.fd doc pm ctv) ⟨us, []⟩ = pure (ps.zip us))
    (hbody : ∀ (A : Around) (outer : List Env) (s : Shared) (F H : Hp) (vs : List V) (a : τ) (r : ρ) (D : Ends) (E : XK), Room k (A.deeper (NdefX.envF x.g x.f s.heap.objs.size)) → SmX K F H → x.R K F → ra K F vs a → x.fn a = some r → (∀ F' H' u, GrX K F H F' H' → rp K F' u r → D.rt u H') →
      (∀ σ' F' H', GrX K F H F' H' → rp K F' .non r → D.nx σ' H') → GoS (NdefX.ncx CX0 P w K mg base N x.g x.f A outer s H E).nox x.g.body D (NdefX.startF N vs x.ws) H) : NokF P w K mg base (k + 1) x :=
  ⟨ps, NdefX.nok_of S hb (fun ws vs H Q E ⟨_, F, a, r, _, _, ra', _⟩ => by rw [RaN.len ra', hn]) fun A outer s H vs ws Q E hr _ _ _ ⟨ew, F, a, r, sm, hR, ra', hf, k⟩ => by
    subst ew
    exact ⟨_, PSs.nox pss_go, hbody A outer s F H vs a r { nx := fun _ H' => Q .non H', rt := Q } E hr sm hR ra' hf (fun F' H' u g q => k F' H' u g.toGr q) fun σ' F' H' g q => k F' H' .non g.toGr q⟩⟩
theorem NokF.mono {P : Program} {w : World} {mg : Str → Option Value} {base : Heap} [Ra τ] [Rp ρ] {j k : Nat} (o : NokF P w K mg base j x) (h : j ≤ k) : NokF P w K mg base k x := let ⟨ps, o⟩ := o; ⟨ps, NdefX.NOk.mono o h⟩
/-! ### it is called by a name -/
theorem GoE.callG {S : List (Option V) → Sp} {P1 : List V → Hp → Prop} {Q : VK} {i j k : Nat} {n : Str} {p : Pos} {v : V} (Fn : ∃ ps : List Str, NdefX.NOk X.prog X.w X.K X.mg X.base CX0 k x.f x.g ps x.fr S) (hr : Room j X.A) (hk : k ≤ j) (hσ : σ[i]? = some (some v)) (hv : v = .ref x.f) (m : Mkf x H) (hc : ClA X σ x) (ga : GoA X (e :: es) σ H P1)
    (h : ∀ vs H1, P1 vs H1 → Mkf x H1 ∧ S x.ws vs H1 Q fun _ _ _ => False) (hN : X.N[i]? = some n) (hvis : Vis X.env.scope n) (hd : (n == ("__debug__" : Str)) = false) (hcd : (n == ("__classdict__" : Str)) = false)
    (he : starEach (e :: es) X.env = (false, eval e X.env) :: starEach es X.env) (hpl : (backTo pos (starEach es X.env)).any (·.1) = false) : GoE X (.Call (.Name n p) (e :: es) [] pos) σ H Q := .mk fun pins s I => by
  subst hv
  refine wpAny_Call_Name_kw (thn ((pe_var (pos := p) hN hvis hd hcd).run pins s σ H (fun u H1 => u = .ref x.f ∧ H1 = H) I ⟨_, hσ, rfl, rfl⟩) fun u s1 ⟨u', H1, I1, r1, e1, e2⟩ => ?_)
  subst e1; subst e2
  cases r1
  have at1 := NdefX.fnAt_of I1 m.f
  refine PySem.W.callWith_F (first := []) at1 (thn (ga.o pos pins s1 I1) fun us s2 ⟨vs, H2, I2, r2, q⟩ => ?_) he hpl
  obtain ⟨m2, q2⟩ := h vs H2 q
  refine ⟨NdefX.fnAt_of I2 m2.f, ?_⟩
  obtain ⟨ps, Fn⟩ := Fn
  refine wpAny_call (codeAny_mono (Fn.run X.A X.stack s2 H2 us vs x.ws Q (fun _ _ _ => False) (hr.mono hk) I2.env0 m2.f m2.c (hc _ _ _ I2).1 r2 q2) fun o s3 ho => ?_)
  cases o with
  | error _ => exact ho.elim
  | ok fl => cases fl <;> first | exact False.elim ho | exact I2.after ho
theorem GoE.callC {P1 : List V → Hp → Prop} {Q : VK} {i j k : Nat} {n : Str} {p : Pos} {v : V} [Ra τ] [Rp ρ] (Fn : NokF X.prog X.w X.K X.mg X.base k x) (hr : Room j X.A) (hk : k ≤ j) (hσ : σ[i]? = some (some v)) (hv : v = .ref x.f) (m : Mkf x H) (hc : ClA X σ x) (ga : GoA X (e :: es) σ H P1)
    (h : ∀ vs H1, P1 vs H1 → Mkf x H1 ∧ PrF X.K x x.ws vs H1 Q fun _ _ _ => False) (hN : X.N[i]? = some n) (hvis : Vis X.env.scope n) (hd : (n == ("__debug__" : Str)) = false) (hcd : (n == ("__classdict__" : Str)) = false)
    (he : starEach (e :: es) X.env = (false, eval e X.env) :: starEach es X.env) (hpl : (backTo pos (starEach es X.env)).any (·.1) = false) : GoE X (.Call (.Name n p) (e :: es) [] pos) σ H Q := GoE.callG (S := PrF X.K x) Fn hr hk hσ hv m hc ga h hN hvis hd hcd he hpl
theorem ev_callC {j k : Nat} {n : Str} {p : Pos} {v : V} {y : τ} {r : ρ} [Ra τ] [Rp ρ] (i : Nat) (Fn : NokF X.prog X.w X.K X.mg X.base k x) (hr : Room j X.A) (hk : k ≤ j) (hσ : σ[i]? = some (some v)) (hv : ClF x X.K F H v) (hc : ClA X σ x) (ha : EvA X (e :: es) σ F H y) (h : x.fn y = some r) (hN : X.N[i]? = some n := by rfl)
    (hvis : Vis X.env.scope n := by first | exact Or.inl rfl | exact Or.inr (Or.inl rfl) | exact Or.inr (Or.inr rfl)) (hd : (n == ("__debug__" : Str)) = false := by decide) (hcd : (n == ("__classdict__" : Str)) = false := by decide)
    (he : starEach (e :: es) X.env = (false, eval e X.env) :: starEach es X.env := by rfl) (hpl : (backTo pos (starEach es X.env)).any (·.1) = false := by rfl) : Ev X (.Call (.Name n p) (e :: es) [] pos) σ F H r := fun F1 H1 g Q q => by
  have hv1 := hv.up g.toGr
  refine GoE.callC (P1 := fun vs H2 => Mkf x H2 ∧ PrF X.K x x.ws vs H2 Q fun _ _ _ => False) Fn hr hk hσ hv1.r.1 hv1.m hc (ha F1 H1 g _ fun vs F2 H2 g2 r2 => ?_) (fun _ _ z => z) hN hvis hd hcd he hpl
  have hv2 := hv1.up g2
  exact ⟨hv2.m, rfl, F2, y, r, (g.trans g2).sm, hv2.r.2, r2, h, fun F3 H3 u g3 r3 => q u F3 H3 (g2.trans g3) r3⟩
end
/-- the statements in a loop or under a condition -/
def inBody : Stmt → List Stmt
  | .For _ _ b _ _ => b
  | .While _ b _ _ => b
  | .If _ b _ _ => b
  | _ => []
/-! ### it takes two new things for its own -/
section
variable {α β ρ : Type} [Rp α] [Ob α] [Rp β] [Ob β] [Rp ρ] {x : Fnv (α × β × Unit) ρ} {X : Cx} {e a b : Expr} {σ : L2.St} {F H : Hp} {pos : Pos}
def PrT (K : PySem.W.Frag) (x : Fnv (α × β × Unit) ρ) : List (Option V) → Sp := fun ws vs H Q _ => ws = x.ws ∧ ∃ F0 H0 F l1 l2 y1 y2 r, vs = [.ref l1, .ref l2] ∧ GrX K F0 H0 F H ∧ x.R K F ∧ Own K H0 F H l1 y1 ∧ Own K H0 F H l2 y2 ∧ l1 ≠ l2 ∧ x.fn (y1, y2, ()) = some r ∧ ∀ F' H' u, Gr F0 H0 F' H' → rp K F' u r → Q u H'
def NokT (P : Program) (w : World) (K : PySem.W.Frag) (mg : Str → Option Value) (base : Heap) (k : Nat) (x : Fnv (α × β × Unit) ρ) : Prop := ∃ ps : List Str, NdefX.NOk P w K mg base CX0 k x.f x.g ps x.fr (PrT K x)
theorem nokT {K : PySem.W.Frag} {P : Program} {w : World} {mg : Str → Option Value} {base : Heap} {N ps : List Str} {k : Nat} (S : NdefX.NScope N ps x.fr x.g.scope) (hn : ps.length = 2)
    (hb : ∀ (doc pm ctv : Value) (us : List Value), us.length = ps.length → bindArgs (x.g.fd doc pm ctv) ⟨us, []⟩ = pure (ps.zip us))
    (hbody : ∀ (A : Around) (outer : List Env) (s : Shared) (F0 H0 F H : Hp) (l1 l2 : Addr) (y1 : α) (y2 : β) (r : ρ) (D : Ends) (E : XK), Room k (A.deeper (NdefX.envF x.g x.f s.heap.objs.size)) → GrX K F0 H0 F H → x.R K F → Own K H0 F H l1 y1 → Own K H0 F H l2 y2 → l1 ≠ l2 → x.fn (y1, y2, ()) = some r → (∀ F' H' u, GrX K F0 H0 F' H' → rp K F' u r → D.rt u H') →
      (∀ σ' F' H', GrX K F0 H0 F' H' → rp K F' .non r → D.nx σ' H') → GoS (NdefX.ncx CX0 P w K mg base N x.g x.f A outer s H E).nox x.g.body D (NdefX.startF N [.ref l1, .ref l2] x.ws) H) : NokT P w K mg base (k + 1) x :=
  ⟨ps, NdefX.nok_of S hb (fun ws vs H Q E ⟨_, F0, H0, F, l1, l2, y1, y2, r, ev, _⟩ => by rw [ev, hn]; rfl) fun A outer s H vs ws Q E hr _ _ _ ⟨ew, F0, H0, F, l1, l2, y1, y2, r, ev, g, hR, o1, o2, ne, hf, k⟩ => by
    subst ew; subst ev
    exact ⟨_, PSs.nox pss_go, hbody A outer s F0 H0 F H l1 l2 y1 y2 r { nx := fun _ H' => Q .non H', rt := Q } E hr g hR o1 o2 ne hf (fun F' H' u g q => k F' H' u g.toGr q) fun σ' F' H' g q => k F' H' .non g.toGr q⟩⟩
theorem NokT.mono {K : PySem.W.Frag} {P : Program} {w : World} {mg : Str → Option Value} {base : Heap} {j k : Nat} (o : NokT P w K mg base j x) (h : j ≤ k) : NokT P w K mg base k x := let ⟨ps, o⟩ := o; ⟨ps, NdefX.NOk.mono o h⟩
theorem ev_callT {j k : Nat} {n : Str} {p : Pos} {v : V} {y1 : α} {y2 : β} {r : ρ} (i : Nat) (Fn : NokT X.prog X.w X.K X.mg X.base k x) (hr : Room j X.A) (hk : k ≤ j) (hσ : σ[i]? = some (some v)) (hv : ClF x X.K F H v) (hc : ClA X σ x) (ha : EvN X a σ F H y1) (hb : EvN X b σ F H y2) (h : x.fn (y1, y2, ()) = some r) (hN : X.N[i]? = some n := by rfl)
    (hvis : Vis X.env.scope n := by first | exact Or.inl rfl | exact Or.inr (Or.inl rfl) | exact Or.inr (Or.inr rfl)) (hd : (n == ("__debug__" : Str)) = false := by decide) (hcd : (n == ("__classdict__" : Str)) = false := by decide)
    (hs : starEach [a, b] X.env = (false, eval a X.env) :: starEach [b] X.env := by rfl) (hs2 : starEach [b] X.env = (false, eval b X.env) :: starEach [] X.env := by rfl) (hpl : (backTo pos (starEach [b] X.env)).any (·.1) = false := by rfl) : Ev X (.Call (.Name n p) [a, b] [] pos) σ F H r := fun F1 H1 g Q q => by
  have hv1 := hv.up g.toGr
  refine GoE.callG (S := PrT X.K x) (P1 := fun vs H2 => Mkf x H2 ∧ PrT X.K x x.ws vs H2 Q fun _ _ _ => False) Fn hr hk hσ hv1.r.1 hv1.m hc (GoA.of (pa_cons pe_go (pa_cons pe_go pa_nil hs2) hs) (ha F1 H1 g _ fun l1 o1 F2 H2 g2 n1 f1 h1 b1 => hb F2 H2 (g.trans g2) _ fun l2 o2 F3 H3 g3 n2 f2 h2 b2 => ?_)) (fun _ _ z => z) hN hvis hd hcd hs hpl
  have w1 : Own X.K H1 F3 H3 l1 y1 := (Own.mk' n1 f1 h1 b1).up g3
  have nl2 : H1 l2 = none := g2.hh.free n2
  exact ⟨(hv1.up (g2.trans g3)).m, rfl, F1, H1, F3, l1, l2, y1, y2, r, rfl, .pre (.refl g.fh) (g.sm.gx (g2.trans g3)), (hv1.up (g2.trans g3)).r.2, w1, Own.mk' nl2 f2 h2 b2, (fun z => by
    subst z
    rw [h1] at n2; cases n2), h, fun F4 H4 u g4 r4 => q u F4 H4 g4 r4⟩
end
/-! ### a def to which it is handed -/
structure FnOkZ (Z : List Env → Shared → Hp → Prop) (P : Program) (w : World) (K : PySem.W.Frag) (mg : Str → Option Value) (base : Heap) (CX : CXT) (k : Nat) (f : Addr) (fd : FuncData) (ps : List Str) (sp : Sp) : Prop where
  len : ∀ vs H Q E, sp vs H Q E → vs.length = ps.length
  run : ∀ (A : Around) (outer : List Env) (s : Shared) (H : Hp) (args : Args) (us : List Value) (vs : List V) (Q : VK) (E : XK), Room k A → Env0 P w K mg base A outer s H → BindsTo s fd args (ps.zip us) → Vals vs us → Z outer s H →
    sp vs H Q E → codeAny (model P w) A (.call (.ref f) args) (CR CX outer P w H s Q E) s
section
variable {X : Cx} {K : PySem.W.Frag} {e a b c d : Expr} {es : List Expr} {σ : L2.St} {F H F0 H0 : Hp} {pos : Pos} {D : Ends} {st : Stmt} {rest body : List Stmt} {P : Program} {w : World} {mg : Str → Option Value} {base : Heap} {Z : List Env → Shared → Hp → Prop}
theorem FnOkZ.plain {CX : CXT} {k : Nat} {f : Addr} {fd : FuncData} {ps : List Str} {sp : Sp} (o : FnOkZ (fun _ _ _ => True) P w K mg base CX k f fd ps sp) : FnOk P w K mg base CX k f fd ps sp :=
  ⟨o.len, fun A outer s H args us vs Q E hr e0 hb r h => o.run A outer s H args us vs Q E hr e0 hb r trivial h⟩
theorem FnOkZ.mono {CX : CXT} {k j : Nat} {f : Addr} {fd : FuncData} {ps : List Str} {sp : Sp} (o : FnOkZ Z P w K mg base CX j f fd ps sp) (h : j ≤ k) : FnOkZ Z P w K mg base CX k f fd ps sp :=
  ⟨o.len, fun A outer s H args us vs Q E hr => o.run A outer s H args us vs Q E (hr.mono h)⟩
/-- a def by its body; the body may know what Z tells, and the def's code object -/
theorem okZ {N ps : List Str} {k : Nat} {sp : Sp} {x qual : Str} {s0 : Stmt} {pp : Str × Option Str} {fd : FuncData} {CX : CXT} (Fn : FunD K x qual (defArgs s0) (defBody s0) (defScope s0) [] [] (He.fAd K pp) fd) (S : FnScope N ps (defScope s0)) (len : ∀ vs H Q E, sp vs H Q E → vs.length = ps.length)
    (hbody : ∀ (cdv : Value) (A : Around) (outer : List Env) (s : Shared) (H : Hp) (vs : List V) (Q : VK) (E : XK), cdv = .ref (He.codeOf K pp) → Room k (A.deeper (envOfC qual (defScope s0) s.heap.objs.size (He.fAd K pp) cdv)) → Z outer s H → sp vs H Q E →
      GoS (cxOf CX P w K mg base N qual (defScope s0) (He.fAd K pp) cdv A outer s H E) (defBody s0) { nx := fun _ H' => Q .non H', rt := Q } (start N vs) H) : FnOkZ Z P w K mg base CX (k + 1) (He.fAd K pp) fd ps sp := by
  obtain ⟨oc, od, dV, kV, doc, pm, an, cdv, ct, osl, rfl, lk, hcd, _, _⟩ := Fn.ex
  have ecd : cdv = .ref (He.codeOf K pp) := by
    obtain ⟨c0, e0⟩ := He.codeIn_ref hcd
    rw [He.codeOf_eq lk e0]; exact e0
  refine ⟨len, fun A outer s H args us vs Q E hr env0 bnd rv z hsp => ?_⟩
  have keep0 : ∀ q o, base.get? q = some o → s.heap.get? q = some o := fun q o h => (env0.bs q o h).1
  have inK := env0.mod.kin.keeps keep0
  have noLim : s.heap.NoLimit := env0.mod.nolimit.keeps keep0
  have kinds : ∀ y ∈ ps.zip us, (defScope s0).names.lookup y.1 = some .local ∨ ((defScope s0).names.lookup y.1 = some .cell ∧ ((cellsFrom (s.heap.objs.size + 1) (defScope s0).names []).lookup y.1).isSome = true) := by
    rintro ⟨n, v⟩ hy
    exact (S.par n (List.of_mem_zip hy).1).imp id fun q => ⟨q, PySem.W.cellsFrom_some _ _ _ (.inl q)⟩
  refine codeAny_call_function hr.depth (inK _ _ lk) rfl S.co S.gen rfl (PySem.W.codeRec_of inK hcd) (bnd _ _ _ _ (wpAny_newFunctionEnv_cells S.kind kinds fun env1 he1 s1 made => ?_))
  subst he1
  refine ⟨noLim.keeps made.toInCall.keep, codeAny_func ?_⟩
  have I := inv_start (CX := CX) (P := P) (w := w) (K := K) (mg := mg) (base := base) (E := E) (cd := cdv) S hr.hd env0 (len _ _ _ _ hsp) rv made
  have body := (hbody cdv A outer s H vs Q E ecd (hr.deeper _) z hsp).o [] s1 I
  have done : ∀ {σ1 : L2.St} {H1 : Hp} {v1 : V} {u1 : Value} {s2 : Shared}, Inv (cxOf CX P w K mg base N qual (defScope s0) (He.fAd K pp) cdv A outer s H E) [] σ1 H1 s2 → RelV v1 u1 → Q v1 H1 → CE outer P w H s Q u1 s2 := by
    intro σ1 H1 v1 u1 s2 J r1 q1
    exact ⟨v1, H1, J.os, J.bare, J.base, J.hok, r1, q1⟩
  refine wpAny_mono body (fun fl s2 h2 => ?_) fun _ _ h2 => h2
  match fl, h2 with
  | .ret _, ⟨_, _, _, J, r1, q1⟩ => exact done J r1 q1
  | .next, ⟨_, _, J, q1⟩ => exact done (v1 := .non) (u1 := .none) J rfl q1
  | .brk, ⟨_, _, _, q1⟩ => exact q1.elim
  | .cont, ⟨_, _, _, q1⟩ => exact q1.elim
theorem GoS.nox {σ : L2.St} (h : GoS X.nox body D σ H) : GoS X body D σ H := GoS.of (PSs.nox pss_go) h
theorem fn_okZ {τ ρ : Type} [Ra τ] [RaN τ] [Rp ρ] {f : τ → Option ρ} {x qual : Str} {s0 : Stmt} {pp : Str × Option Str} {fd : FuncData} {N ps : List Str} {k : Nat} (Fn : FunD K x qual (defArgs s0) (defBody s0) (defScope s0) [] [] (He.fAd K pp) fd) (S : FnScope N ps (defScope s0)) (hn : RaN.n τ = ps.length)
    (hbody : ∀ (cdv : Value) (A : Around) (outer : List Env) (s : Shared) (F H : Hp) (vs : List V) (a : τ) (r : ρ) (D : Ends) (E : XK), cdv = .ref (He.codeOf K pp) → Room k (A.deeper (envOfC qual (defScope s0) s.heap.objs.size (He.fAd K pp) cdv)) → Z outer s H → SmX K F H → ra K F vs a → f a = some r →
      (∀ F' H' u, GrX K F H F' H' → rp K F' u r → D.rt u H') → (∀ σ' F' H', GrX K F H F' H' → rp K F' .non r → D.nx σ' H') → GoS (cxOf CX0 P w K mg base N qual (defScope s0) (He.fAd K pp) cdv A outer s H E).nox (defBody s0) D (start N vs) H) :
    FnOkZ Z P w K mg base CX0 (k + 1) (He.fAd K pp) fd ps (Pr K f) :=
  okZ Fn S (fun vs H Q E ⟨F, a, r, _, ra', _⟩ => by rw [RaN.len ra', hn]) fun cdv A outer s H vs Q E hcd hr z ⟨F, a, r, sm, ra', hf, k⟩ =>
    (hbody cdv A outer s F H vs a r _ E hcd hr z sm ra' hf (fun F' H' u g q => k F' H' u g.toGr q) fun σ' F' H' g q => k F' H' .non g.toGr q).nox
theorem GoE.callZ {P1 : List V → Hp → Prop} {Q : VK} {k : Nat} {fa : Addr} {fd : FuncData} {ps : List Str} {sp : Sp} {x : Str} {p : Pos} (Fn : FnOkZ Z X.prog X.w X.K X.mg X.base CX0 k fa fd ps sp) (hr : Room k X.A) (hm : X.mg x = some (.ref fa))
    (hk : PySem.W.keepIn X.K (.ref fa) = true) (hb : Binds X.K fd ps []) (ga : GoA X (e :: es) σ H P1) (h : ∀ vs H1, P1 vs H1 → sp vs H1 Q (fun _ _ _ => False) ∧ ∀ pins s, Inv X pins σ H1 s → Z X.stack s H1) (hg : Gl X x) (hdb : (x == ("__debug__" : Str)) = false)
    (he : starEach (e :: es) X.env = (false, eval e X.env) :: starEach es X.env) (hpl : (backTo pos (starEach es X.env)).any (·.1) = false) : GoE X (.Call (.Name x p) (e :: es) [] pos) σ H Q := .mk fun pins s I => by
  refine wpAny_Call_Name_kw (ld_glob I hg hm ?_ hdb)
  refine PySem.W.callWith_K (h₀ := X.base) I.ok.mod.kin hk (thn (ga.o pos pins s I) fun us s1 ⟨vs, H1, I1, r1, q⟩ => ?_) he hpl
  obtain ⟨q1, q2⟩ := h vs H1 q
  refine ⟨I1.kIn, ?_⟩
  have hl : us.length = ps.length := r1.length.symm.trans (Fn.len _ _ _ _ q1)
  have bnd := hb s1 us I1.kIn (by rw [List.append_nil]; exact hl)
  rw [List.append_nil] at bnd
  refine wpAny_call (codeAny_mono (Fn.run X.A X.stack s1 H1 ⟨us, []⟩ us vs Q (fun _ _ _ => False) hr I1.env0 bnd r1 (q2 _ _ I1) q1) fun o s2 ho => ?_)
  cases o with
  | error _ => exact ho.elim
  | ok fl => cases fl <;> first | exact False.elim ho | exact I1.after ho
/-- f(.., change, ..) -/
theorem ev_callZ {τ ρ τ1 ρ1 : Type} [Ra τ] [Rp ρ] {fv : Fnv τ1 ρ1} {f : τ → Option ρ} {y : τ} {r : ρ} {k : Nat} {fa : Addr} {fd : FuncData} {ps : List Str} {x : Str} {p : Pos} {v : V} (Fn : FnOkZ (ZC fv) X.prog X.w X.K X.mg X.base CX0 k fa fd ps (Pr X.K f)) (hr : Room k X.A) (hm : X.mg x = some (.ref fa))
    (hk : PySem.W.keepIn X.K (.ref fa) = true) (hb : Binds X.K fd ps []) (hv : ClF fv X.K F H v) (hc : ClA X σ fv) (ha : EvA X (e :: es) σ F H y) (h : f y = some r) (hg : Gl X x := by rfl) (hdb : (x == ("__debug__" : Str)) = false := by decide)
    (he : starEach (e :: es) X.env = (false, eval e X.env) :: starEach es X.env := by rfl) (hpl : (backTo pos (starEach es X.env)).any (·.1) = false := by rfl) : Ev X (.Call (.Name x p) (e :: es) [] pos) σ F H r := fun F1 H1 g Q q =>
  GoE.callZ (P1 := fun vs H2 => Pr X.K f vs H2 Q (fun _ _ _ => False) ∧ ∀ pins s, Inv X pins σ H2 s → ZC fv X.stack s H2) Fn hr hm hk hb (ha F1 H1 g _ fun vs F2 H2 g2 r2 => ⟨⟨F2, y, r, (g.trans g2).sm, r2, h, fun F3 H3 u g3 r3 => q u F3 H3 (g2.trans g3) r3⟩, fun pins s I =>
    ⟨(hv.up (g.trans g2).toGr).m, (hc pins H2 s I).1, (hc pins H2 s I).2⟩⟩) (fun _ _ z => z) hg hdb he hpl
end
def ordG (z : Str) : Option Int := if z.length = 1 then some ((z.cps.getD 0 0 : Nat) : Int) else none
theorem oc_ord {K : PySem.W.Frag} {z : Str} {r : Int} (h : ordG z = some r) : OpC K (fun xs H Q => ∃ x : Str, xs = [.str x] ∧ x.length = 1 ∧ Q (.int (x.cps.getD 0 0 : Nat)) H) (z, ()) r := oc1 fun F H v Q s rv k => by
  unfold ordG at h
  split at h
  · rename_i hz
    have rv : v = .str z := rv
    exact ⟨z, by rw [rv], hz, k _ F H (.refl s) (congrArg V.int (Option.some.inj h))⟩
  · cases h
/-- how long a private list is -/
theorem ev_lenOwn {α : Type} [Rp α] {X : Cx} {σ : L2.St} {F H H0 : Hp} {pos : Pos} {xs : List α} {l : Addr} {n : Str} {p1 p2 : Pos} (i : Nat) (o : Own X.K H0 F H l xs) (hσ : σ[i]? = some (some (.ref l))) (hm : X.mg "len" = none)
    (hN : X.N[i]? = some n := by rfl) (hv : Vis X.env.scope n := by first | exact Or.inl rfl | exact Or.inr (Or.inl rfl) | exact Or.inr (Or.inr rfl)) (hd : (n == ("__debug__" : Str)) = false := by decide) (hcd : (n == ("__classdict__" : Str)) = false := by decide)
    (hg : Gl X "len" := by rfl) (hs : starEach [.Name n p1] X.env = (false, eval (.Name n p1) X.env) :: starEach [] X.env := by rfl) (hpl : (backTo pos (starEach [] X.env)).any (·.1) = false := by rfl) : Ev X (.Call (.Name "len" p2) [.Name n p1] [] pos) σ F H (xs.length : Int) := fun F1 H1 g Q q => by
  have o1 := o.up g.toGr
  obtain ⟨_, hl, vs, rfl, rs⟩ := o1.h
  have q1 := q (.int vs.length) F1 H1 (.refl g.fh) (by show V.int _ = V.int _; rw [rs.length])
  exact GoE.of (pe_callB call_len_seq hg hm PySem.boot_len (pa_cons (pe_var hN hv hd hcd) pa_nil hs) (by decide) (by decide) hs hpl) ⟨_, hσ, _, vs, rfl, .inl (SqL.of hl), q1⟩
/-! ### a method to which it is handed -/
section
variable {X : Cx} {a e : Expr} {es : List Expr} {σ : L2.St} {F H : Hp} {pos : Pos} {Z : List Env → Shared → Hp → Prop}
theorem run_fnZ {k : Nat} {fa : Addr} {fd : FuncData} {ps : List Str} {sp : Sp} {pins : List (Addr × Obj)} {s : Shared} {Q : VK} {us : List Value} {vs : List V} (Fn : FnOkZ Z X.prog X.w X.K X.mg X.base CX0 k fa fd ps sp) (hr : Room k X.A) (hb : Binds X.K fd ps [])
    (I : Inv X pins σ H s) (r : Vals vs us) (h : sp vs H Q (fun _ _ _ => False)) (z : Z X.stack s H) : wpAny (model X.prog X.w) X.A (call (.ref fa) us) (EP X pins σ Q) X.xe s := by
  have hl : us.length = ps.length := r.length.symm.trans (Fn.len _ _ _ _ h)
  have bnd := hb s us I.kIn (by rw [List.append_nil]; exact hl)
  rw [List.append_nil] at bnd
  refine wpAny_call (codeAny_mono (Fn.run X.A X.stack s H ⟨us, []⟩ us vs Q (fun _ _ _ => False) hr I.env0 bnd r z h) fun o s2 ho => ?_)
  cases o with
  | error _ => exact ho.elim
  | ok fl => cases fl <;> first | exact False.elim ho | exact I.after ho
theorem ev_methZ {α τ ρ τ1 ρ1 : Type} [Rp α] [Ra τ] [Rp ρ] {fv : Fnv τ1 ρ1} {x : α} {y : τ} {f : α × τ → Option ρ} {r : ρ} {cn m : Str} {names : List Str} {k : Nat} {fa : Addr} {fd : FuncData} {ps : List Str} {apos : Pos} {pl : Sem Bool} {v : V} (hx : ∀ F v, rp X.K F v x → ∃ a dx vs, v = .ref a ∧ F a = some (.ins (He.ga X.K cn) dx (names.zip vs))) (hn : m ∉ names) (cl : Cls X.K (He.ga X.K cn)) (me : Meth X.K (He.ga X.K cn) m fa)
    (Fn : FnOkZ (ZC fv) X.prog X.w X.K X.mg X.base CX0 k fa fd ps (Pr X.K f)) (hr : Room k X.A) (hb : Binds X.K fd ps []) (hv : ClF fv X.K F H v) (hc : ClA X σ fv) (ha : Ev X a σ F H x) (hy : EvA X (e :: es) σ F H y) (h : f (x, y) = some r)
    (hs : starEach (e :: es) X.env = (false, eval e X.env) :: starEach es X.env) (hpl : (backTo pos (starEach es X.env)).any (·.1) = false)
    (ht : eval (.Call (.Attribute a m apos) (e :: es) [] pos) X.env = (do
      let ov ← eval a X.env
      standAt apos.atName
      let (f, first) ← holding [ov] (getMethod ov m pl)
      callWith pos f first (backTo pos (starEach (e :: es) X.env)) (backToKw pos (keywordEach [] X.env)))) : Ev X (.Call (.Attribute a m apos) (e :: es) [] pos) σ F H r := fun F1 H1 g Q q => .mk fun pins s I => by
  refine PySem.W.methodCall_KW (pl := pl) (thn ((ha F1 H1 g (fun w H2 => ∃ z dx ws, w = .ref z ∧ H2 z = some (.ins (He.ga X.K cn) dx (names.zip ws)) ∧ GoA X (e :: es) σ H2 (fun vs H3 => Pr X.K f (.ref z :: vs) H3 Q (fun _ _ _ => False) ∧ ∀ pins s, Inv X pins σ H3 s → ZC fv X.stack s H3)) fun w F2 H2 g2 r2 => ?_).o pins s I) fun u s1 ⟨w, H2, I1, rx, z, dx, ws, ew, ez, q1⟩ => ?_) ht
  · obtain ⟨z, dx, ws, e1, hF⟩ := hx F2 w r2
    subst e1
    refine ⟨z, dx, ws, rfl, g2.fh _ _ hF, hy F2 H2 (g.trans g2) _ fun vs F3 H3 g3 r3 => ⟨⟨F3, (x, y), r, (g.trans (g2.trans g3)).sm, ⟨_, vs, rfl, Rp.mono g3.ff r2, r3⟩, h, fun F4 H4 u g4 r4 => q u F4 H4 ((g2.trans g3).trans g4) r4⟩, fun pins s I => ?_⟩⟩
    exact ⟨(hv.up (g.trans (g2.trans g3)).toGr).m, (hc pins H3 s I).1, (hc pins H3 s I).2⟩
  · subst ew
    obtain rfl : u = Value.ref z := rx
    refine getmeth_ok I1 ez cl me (zip_none hn) ?_
    refine PySem.W.callWith_K (first := [.ref z]) (h₀ := X.base) I.ok.mod.kin me.kp (thn (q1.o pos pins s1 I1) fun us s2 ⟨vs, H3, I3, r3, q2, qz⟩ => ⟨I3.kIn, ?_⟩) hs hpl
    exact run_fnZ (us := .ref z :: us) (vs := .ref z :: vs) Fn hr hb I3 (.cons rfl r3) q2 (qz _ _ I3)
end
section
variable {X : Cx} {K : PySem.W.Frag} {e a b c d : Expr} {es : List Expr} {σ : L2.St} {F H F0 H0 : Hp} {pos : Pos} {D : Ends} {st : Stmt} {rest body : List Stmt} {P : Program} {w : World} {mg : Str → Option Value} {base : Heap} {Z : List Env → Shared → Hp → Prop}
/-! ### it is made -/
theorem tab_more {ps : Array Value} {more : List Value} : (ps ++ more.toArray).toList = ps.toList ++ more := by simp
theorem ndefG {pins : List (Addr × Obj)} {s : Shared} {c P : Addr} {name : Str} {params : Arguments} {nb : List Stmt} {scope : Scope} {E Q : Value → Shared → Prop} (I : Inv X pins σ H s) (TB : LamX.TabB X.base X.mg c P) (hcode : X.env.code = .ref c) (hT : GdT H P) (hq : nmG pos.line pos.col = X.env.qual ++ name)
    (hfree : ∀ y ∈ scope.names, y.2 = .free → ∃ q, X.env.cells.lookup y.1 = some q)
    (h : ∀ f c' H1 s', Inv X pins σ H1 s' → Xt H H1 → (∀ b o, H b = some o → b ≠ P → H1 b = some o) → H1 f = some (NdefX.FnO f ⟨name, X.env.qual ++ name, params, nb, scope, cloFrom X.env.cells scope.names [], c'⟩) → H1 c' = some (LamX.CodeO c' (X.env.qual ++ name)) → Q (.ref f) s') :
    wpAny (model X.prog X.w) X.A (makeFunction name (X.env.qual ++ name) params (.stmts nb) scope X.env [] [] [] pos pos.line) Q E s := by
  have hG := hT
  obtain ⟨ps, tP, tri, all⟩ := hT
  have g1 := I.mod.glob.keeps I.bk
  have cd := TB.code.keeps I.bk
  have bt : s.heap.BuiltinsAt X.mg P := TB.bm.keeps I.bk
  have oP : s.heap.get? P = some { cls := .none, data := .fields ps } := I.hok P _ tP
  cases among : codeAmong pos ps.toList with
  | some cv =>
    obtain ⟨c', rfl, cO⟩ := all pos cv among
    rw [hq] at cO
    refine PySem.W.makeFunction_hit (c := c) (closure_ok hfree) I.ok.glob g1 hcode cd oP tri among bt fun ctv doc h' tk kp _ => ?_
    have I1 := I.kept (t' := tk) kp
    have nf : H h'.objs.size = none := I1.hok.fresh (Nat.le_refl _)
    have I2 := NdefX.inv_fn (F := ⟨name, X.env.qual ++ name, params, nb, scope, cloFrom X.env.cells scope.names [], c'⟩) (t' := tk) (doc := doc) (pm := (X.mg "__name__").getD .none) (ctv := ctv) I1 rfl
    exact h _ c' _ _ I2 (.upd nf ntb_fnO) (fun b o hb _ => by rw [upd_ne (ne_of_none hb nf)]; exact hb) upd_same (by rw [upd_ne (ne_of_none cO nf)]; exact cO)
  | none =>
    refine PySem.W.makeFunction_K (c := c) (closure_ok hfree) I.ok.glob g1 hcode cd oP tri among TB.gP bt fun c' ctv doc h' tk hx hge hlt hrec htb => ?_
    obtain ⟨c2, oc, vs, t, e2, hoc, hd, hv⟩ := hrec
    cases e2
    have nC : H c' = none := I.hok.fresh hge
    have I1 := LamX.inv_table (t' := tk) (more := [rawInt pos.line, rawInt pos.col, .ref c'].toArray) (h' := h') I tP (fun b o hb => hx b o hb) htb hge ⟨oc, vs, t, hoc, hd, hv⟩
    have nF := I1.hok.fresh (Nat.le_refl h'.objs.size)
    have I2 := NdefX.inv_fn (F := ⟨name, X.env.qual ++ name, params, nb, scope, cloFrom X.env.cells scope.names [], c'⟩) (t' := tk) (doc := doc) (pm := (X.mg "__name__").getD .none) (ctv := ctv) I1 rfl
    have nF0 : H h'.objs.size = none := NdefX.upd_none (NdefX.upd_none nF)
    generalize hH1 : upd (upd (upd H P (.tbl (ps ++ [rawInt pos.line, rawInt pos.col, .ref c'].toArray))) c' (LamX.CodeO c' (X.env.qual ++ name))) h'.objs.size (NdefX.FnO h'.objs.size ⟨name, X.env.qual ++ name, params, nb, scope, cloFrom X.env.cells scope.names [], c'⟩) = H1 at I2
    have kp : ∀ b o, H b = some o → b ≠ P → H1 b = some o := fun b o hb hP => by
      rw [← hH1, upd_ne (ne_of_none hb nF0), upd_ne (ne_of_none hb nC), upd_ne hP]; exact hb
    have cO : H1 c' = some (LamX.CodeO c' (X.env.qual ++ name)) := by rw [← hH1, upd_ne (Nat.ne_of_lt hlt)]; exact upd_same
    have pO : H1 P = some (.tbl (ps ++ [rawInt pos.line, rawInt pos.col, .ref c'].toArray)) := by rw [← hH1, upd_ne (ne_of_none tP nF0), upd_ne (ne_of_none tP nC)]; exact upd_same
    have code : ∀ q nm, H q = some (LamX.CodeO q nm) → H1 q = some (LamX.CodeO q nm) := fun q nm hb => kp q _ hb fun z => by
      rw [z, tP] at hb; exact LamX.codeO_ne ps (Option.some.inj hb).symm
    refine h _ c' H1 _ I2 ⟨fun b o hb n => kp b o hb fun z => ?_, fun b qs hb => ?_, fun P' hP' => ?_⟩ kp (by rw [← hH1]; exact upd_same) cO
    · subst z; rw [tP] at hb; cases hb; exact n
    · by_cases z : b = P
      · subst z; exact ⟨_, pO⟩
      · exact ⟨qs, kp b _ hb z⟩
    · by_cases z : P' = P
      · subst z
        refine ⟨_, pO, by rw [tab_more]; exact PySem.TriplesOk_snoc _ _ _ _ tri, fun p' cv hcv => ?_⟩
        rw [tab_more] at hcv
        rcases NdefX.among_app2 _ tri hcv with y | ⟨y, y1, y2⟩
        · obtain ⟨q, e1, e2⟩ := all p' cv y
          exact ⟨q, e1, code _ _ e2⟩
        · refine ⟨c', y, ?_⟩
          rw [← y1, ← y2, hq]; exact cO
      · obtain ⟨qs, e1, e2, e3⟩ := hP'
        exact ⟨qs, kp _ _ e1 z, e2, fun p' cv hcv => let ⟨q, y1, y2⟩ := e3 p' cv hcv; ⟨q, y1, code _ _ y2⟩⟩
/-- def name(..): .. in a def's body -/
theorem go_ndef {name : Str} {params : Arguments} {nb : List Stmt} {scope : Scope} {c P : Addr} (i : Nat) (s : SmX X.K F H) (TB : LamX.TabB X.base X.mg c P) (hcode : X.env.code = .ref c) (hP : P ∈ tabsG X.K) (hq : nmG pos.line pos.col = X.env.qual ++ name)
    (hfree : ∀ y ∈ scope.names, y.2 = .free → X.env.scope.names.lookup y.1 = some .cell ∨ X.env.scope.names.lookup y.1 = some .free)
    (k : ∀ f c' H', Gr F H F H' → H' f = some (NdefX.FnO f ⟨name, X.env.qual ++ name, params, nb, scope, cloFrom X.env.cells scope.names [], c'⟩) → H' c' = some (LamX.CodeO c' (X.env.qual ++ name)) → GoS X rest D (σ.set i (some (.ref f))) H')
    (hN : X.N.Nodup) (hd0 : params.defaults = [] := by rfl) (hk0 : params.kw_defaults = [] := by rfl) (ha : annTrees params none X.env = [] := by rfl) (hi : X.N[i]? = some name := by rfl)
    (hx : Loc X.env.scope name := by first | exact Or.inl rfl | exact Or.inr rfl) (hf : X.fn name = true ∨ X.env.scope.names.lookup name = some .local := by first | exact .inl rfl | exact .inr rfl) : GoS X (.FunctionDef name params nb [] none [] scope none name pos :: rest) D σ H := by
  have run : PS X (.FunctionDef name params nb [] none [] scope none name pos) (fun D1 σ1 H1 => H1 = H ∧ σ1 = σ ∧ ∀ f c' H', Gr F H F H' → H' f = some (NdefX.FnO f ⟨name, X.env.qual ++ name, params, nb, scope, cloFrom X.env.cells scope.names [], c'⟩) → H' c' = some (LamX.CodeO c' (X.env.qual ++ name)) → D1.nx (σ.set i (some (.ref f))) H') := by
    refine ⟨fun pins s1 σ1 H1 D1 I ⟨eH, eσ, h⟩ => ?_⟩
    subst eH; subst eσ
    have eqn : qualnameIn X.env name name = X.env.qual ++ name := by
      have hk : X.env.kindOf name = some .local ∨ X.env.kindOf name = some .cell := hx
      unfold qualnameIn
      rcases hk with hk | hk <;> rw [hk] <;> first | rfl | exact if_neg (by decide)
    refine PySem.W.nestDef_K hd0 hk0 ha ?_
    rw [eqn]
    refine ndefG I TB hcode (s.h.t P hP).1 hq (fun y hy e => I.ok.has _ (hfree y hy e)) fun f c' H2 s2 I2 xt kp f0 c0 => ?_
    refine store_ok I2 hN hi hx (v := .ref f) rfl (fun s3 J => ⟨_, H2, J, h f c' H2 ⟨.refl _, fun b o e => kp b o (s.s b o e) fun z => ?_, xt, fun _ _ _ _ => rfl⟩ f0 c0⟩) hf
    rw [z, (s.h.t P hP).2] at e; cases e
  exact GoS.cons run ⟨rfl, rfl, k⟩
/-! ### a def that may raise and makes another -/
theorem fn_okXZ {τ ε ρ : Type} [Ra τ] [RaN τ] [Xk ε] [Rp ρ] {f : τ → Option (Rs ε ρ)} {x qual : Str} {s0 : Stmt} {pp : Str × Option Str} {fd : FuncData} {N ps : List Str} {k : Nat} (Fn : FunD K x qual (defArgs s0) (defBody s0) (defScope s0) [] [] (He.fAd K pp) fd) (S : FnScope N ps (defScope s0)) (hn : RaN.n τ = ps.length)
    (hbody : ∀ (cdv : Value) (A : Around) (outer : List Env) (s : Shared) (F H : Hp) (vs : List V) (a : τ) (r : Rs ε ρ) (D : Ends) (E : XK), cdv = .ref (He.codeOf K pp) → Room k (A.deeper (envOfC qual (defScope s0) s.heap.objs.size (He.fAd K pp) cdv)) → SmX K F H → ra K F vs a → f a = some r →
      (∀ F' H' u y, Rs.v y = r → GrX K F H F' H' → rp K F' u y → D.rt u H') → (∀ σ' F' H' y, Rs.v y = r → GrX K F H F' H' → rp K F' .non y → D.nx σ' H') →
      (∀ y, Rs.x y = r → ∀ F' H' cls dd, GrX K F H F' H' → Xk.xr K F' H' cls dd y → E cls dd H') →
      Takes (cxOf (L2.CX P w) P w K mg base N qual (defScope s0) (He.fAd K pp) cdv A outer s H E) (fun cls d _ H => E cls d H) →
      PassesOwn (model P w) (A.deeper (envOfC qual (defScope s0) s.heap.objs.size (He.fAd K pp) cdv)) (envOfC qual (defScope s0) s.heap.objs.size (He.fAd K pp) cdv) (cxOf (L2.CX P w) P w K mg base N qual (defScope s0) (He.fAd K pp) cdv A outer s H E).xe →
      GoS (cxOf (L2.CX P w) P w K mg base N qual (defScope s0) (He.fAd K pp) cdv A outer s H E) (defBody s0) D (start N vs) H) :
    FnOk P w K mg base (L2.CX P w) (k + 1) (He.fAd K pp) fd ps (PrE K f) :=
  FnOkZ.plain (okZ (sp := PrE K f) Fn S (fun vs H Q E ⟨F, a, r, _, ra', _⟩ => by rw [RaN.len ra', hn]) fun cdv A outer s H vs Q E hcd hr _ ⟨F, a, r, sm, ra', hf, k, kx⟩ =>
    hbody cdv A outer s F H vs a r _ E hcd hr sm ra' hf (fun F' H' u y q g r => k y q.symm F' H' u g.toGr r) (fun σ' F' H' y q g r => k y q.symm F' H' .non g.toGr r) (fun y q F' H' cls dd g r => kx y q.symm F' H' cls dd g.toGr r) (takes_of rfl rfl rfl rfl) (passes_of rfl))
/-! ### isinstance of a caught exception -/
def excCB (K : PySem.W.Frag) (C : Addr) : Bool := decide (PySem.W.findIn K (.ref C) "__getattribute__" = some (some (.builtin "BaseException.__getattribute__"))) && (decide (PySem.W.findIn K (.ref C) "__getattr__" = some none) && (decide (PySem.W.subIn K (.ref C) (.type "BaseException") = some true) && (PySem.W.hasDictIn K C &&
  (decide (PySem.W.findIn K (.ref C) "__class__" = some (some (.builtin "object.__class__"))) && (decide (PySem.W.specialIn K (.builtin "object.__class__") "__get__" = some (some (.builtin "getset_descriptor.__get__"))) && (decide (PySem.W.takesIn K (.builtin "object.__class__") = some true) && decide (PySem.W.mroIn K C (.type "object") = some true)))))))
theorem excCB_ok {C : Addr} (h : excCB K C = true) : ExcC K C := by
  obtain ⟨h1, h⟩ := Bool.and_eq_true_iff.mp h
  obtain ⟨h2, h⟩ := Bool.and_eq_true_iff.mp h
  obtain ⟨h3, h⟩ := Bool.and_eq_true_iff.mp h
  obtain ⟨h4, h⟩ := Bool.and_eq_true_iff.mp h
  obtain ⟨h5, h⟩ := Bool.and_eq_true_iff.mp h
  obtain ⟨h6, h⟩ := Bool.and_eq_true_iff.mp h
  obtain ⟨h7, h8⟩ := Bool.and_eq_true_iff.mp h
  exact ⟨of_decide_eq_true h1, of_decide_eq_true h2, of_decide_eq_true h3, h4, of_decide_eq_true h5, of_decide_eq_true h6, of_decide_eq_true h7, of_decide_eq_true h8⟩
theorem ev_isE {a : Addr} {cn dn n : Str} {oe : Obj} {cls : Value} {dd : Option Addr} {pn : List (Addr × Obj)} {b : Bool} {p1 p2 p3 : Pos} (i : Nat) (C : ExcC X.K (He.ga X.K cn)) (hk : PySem.W.kitOne X.K (.ref (He.ga X.K cn)) (.ref (He.ga X.K dn)) = some b) (hz : Zc cls dd oe) (hf : ∃ vs, oe.data = .fields vs) (hσ : σ[i]? = some (some (.ref a))) (r : xr0 cn X.K cls dd)
    (hm : X.mg "isinstance" = none) (hD : X.mg dn = some (.ref (He.ga X.K dn)))
    (hi : X.N[i]? = some n := by rfl) (hv : Vis X.env.scope n := by first | exact Or.inl rfl | exact Or.inr (Or.inl rfl) | exact Or.inr (Or.inr rfl)) (hdn : (n == ("__debug__" : Str)) = false := by decide) (hcd : (n == ("__classdict__" : Str)) = false := by decide)
    (hg : Gl X "isinstance" := by rfl) (hgD : Gl X dn := by rfl) (hd : (dn == ("__debug__" : Str)) = false := by decide)
    (hs : starEach [.Name n p3, .Name dn p2] X.env = (false, eval (.Name n p3) X.env) :: starEach [.Name dn p2] X.env := by rfl) (hs2 : starEach [.Name dn p2] X.env = (false, eval (.Name dn p2) X.env) :: starEach [] X.env := by rfl)
    (hpl : (backTo pos (starEach [.Name dn p2] X.env)).any (·.1) = false := by rfl) : Ev (X.suite a ((a, oe) :: pn)) (.Call (.Name "isinstance" p1) [.Name n p3, .Name dn p2] [] pos) σ F H b := fun F1 H1 g Q q => by
  obtain ⟨e1, e2⟩ := r
  subst e1; subst e2
  exact GoE.of (pe_callB (X := X.suite a ((a, oe) :: pn)) (call_isE C hz hf) hg hm (by decide +kernel) (pa_cons (pe_var hi hv hdn hcd) (pa_cons (pe_glob (v := .ref (He.ga X.K dn)) hgD hD rfl hd) pa_nil hs2) hs) (by decide) (by decide) hs hpl)
    ⟨_, hσ, _, _, b, rfl, fun u z => z, hk, q _ F1 H1 (.refl g.fh) rfl⟩
theorem ev_isEB {a : Addr} {cn n : Str} {oe : Obj} {cls : Value} {dd : Option Addr} {pn : List (Addr × Obj)} {b : Bool} {T : String} {p1 p2 p3 : Pos} (i : Nat) (C : ExcC X.K (He.ga X.K cn)) (hk : PySem.W.kitOne X.K (.ref (He.ga X.K cn)) (.type T) = some b) (hz : Zc cls dd oe) (hf : ∃ vs, oe.data = .fields vs) (hσ : σ[i]? = some (some (.ref a))) (r : xr0 cn X.K cls dd)
    (hm : X.mg "isinstance" = none) (hT : X.mg (Str.ofString T) = none) (hbT : bootBuiltins (Str.ofString T) = some (.type T))
    (hi : X.N[i]? = some n := by rfl) (hv : Vis X.env.scope n := by first | exact Or.inl rfl | exact Or.inr (Or.inl rfl) | exact Or.inr (Or.inr rfl)) (hdn : (n == ("__debug__" : Str)) = false := by decide) (hcd : (n == ("__classdict__" : Str)) = false := by decide)
    (hg : Gl X "isinstance" := by rfl) (hgT : Gl X (Str.ofString T) := by rfl) (hn : (Str.ofString T) ≠ "__name__" := by decide) (hd : ((Str.ofString T) == ("__debug__" : Str)) = false := by decide)
    (hs : starEach [.Name n p3, .Name (Str.ofString T) p2] X.env = (false, eval (.Name n p3) X.env) :: starEach [.Name (Str.ofString T) p2] X.env := by rfl) (hs2 : starEach [.Name (Str.ofString T) p2] X.env = (false, eval (.Name (Str.ofString T) p2) X.env) :: starEach [] X.env := by rfl)
    (hpl : (backTo pos (starEach [.Name (Str.ofString T) p2] X.env)).any (·.1) = false := by rfl) : Ev (X.suite a ((a, oe) :: pn)) (.Call (.Name "isinstance" p1) [.Name n p3, .Name (Str.ofString T) p2] [] pos) σ F H b := fun F1 H1 g Q q => by
  obtain ⟨e1, e2⟩ := r
  subst e1; subst e2
  exact GoE.of (pe_callB (X := X.suite a ((a, oe) :: pn)) (call_isE C hz hf) hg hm (by decide +kernel) (pa_cons (pe_var hi hv hdn hcd) (pa_cons (pe_bltn hgT hT hbT (v := .ty T) rfl hn hd) pa_nil hs2) hs) (by decide) (by decide) hs hpl)
    ⟨_, hσ, _, _, b, rfl, fun u z => z, hk, q _ F1 H1 (.refl g.fh) rfl⟩
def Rs.get {ε ρ : Type} : Rs ε ρ → Option ρ
  | .v r => some r
  | .x _ => none
/-- a def that may raise, where it does not -/
theorem ev_callV {τ ε ρ : Type} [Ra τ] [Xk ε] [Rp ρ] {f : τ → Option (Rs ε ρ)} {y : τ} {o : Rs ε ρ} {r : ρ} {k : Nat} {fa : Addr} {fd : FuncData} {ps : List Str} {x : Str} {p : Pos} (Fn : FnOk X.prog X.w X.K X.mg X.base (L2.CX X.prog X.w) k fa fd ps (PrE X.K f)) (hr : Room k X.A) (hm : X.mg x = some (.ref fa))
    (hk : PySem.W.keepIn X.K (.ref fa) = true) (hb : Binds X.K fd ps []) (ha : EvA X (e :: es) σ F H y) (h : f y = some o) (h2 : Rs.get o = some r) (hg : Gl X x := by rfl) (hdb : (x == ("__debug__" : Str)) = false := by decide)
    (he : starEach (e :: es) X.env = (false, eval e X.env) :: starEach es X.env := by rfl) (hpl : (backTo pos (starEach es X.env)).any (·.1) = false := by rfl) (tk : Takes X (fun _ _ _ _ => False) := by exact takes_none5) : Ev X (.Call (.Name x p) (e :: es) [] pos) σ F H r := by
  cases o with
  | v r' => cases h2; exact EvX.ok (ex_call tk Fn hr hm hk hb ha h hg hdb he hpl)
  | x e => cases h2
/-! ### the beginning -/
theorem xr0.up {cn : Str} {F' H' : Hp} {cls : Value} {dd : Option Addr} (h : xr0 cn K cls dd) (_ : Gr F H F' H') : xr0 cn K cls dd := h
def unT (H : Hp) : Hp := fun b => match H b with
  | some (.tbl _) => none
  | o => o
theorem unT_of {b : Addr} {o : HO} (h : H b = some o) (n : ntb o) : unT H b = some o := by
  unfold unT; rw [h]; cases o <;> first | rfl | exact n.elim
theorem unT_same : L2.Same (unT H) H := fun b o h => by
  unfold unT at h
  split at h
  · cases h
  · exact h
theorem unT_seq {a : Addr} {xs : List V} (h : SqL K H a xs) : SqL K (unT H) a xs := by
  rcases h with (h | ⟨o, h⟩) | h
  · exact .inl (.inl (unT_of h trivial))
  · exact .inl (.inr ⟨o, unT_of h trivial⟩)
  · exact .inr h
theorem sm_start (h : ∀ P ∈ tabsG K, H P = some (.tbl #[])) : SmX K (unT H) H := ⟨unT_same, ⟨fun P hP => ⟨⟨#[], h P hP, True.intro, fun pos cv hc => by
  have z : codeAmong pos [] = some cv := hc
  simp [codeAmong] at z⟩, by unfold unT; rw [h P hP]⟩⟩⟩
end
end Gx

/-! Go: values of any kind, as data. -/
namespace Gx
open PySem PySem.Spec PyProof.Rows L2
open Rp (rp)
open Ra (ra)
mutual
theorem Dp.sm {K : PySem.W.Frag} {F F' : Hp} (s : L2.Same F F') : ∀ (d : PyData) (v : V), Dp K F v d → Dp K F' v d
  | .none, _, h => by cases h; exact .non
  | .bool b, _, h => by cases h; exact .bl b
  | .int i, _, h => by cases h; exact .int i
  | .str x, _, h => by cases h; exact .str x
  | .list ds, _, h => by
    cases h with
    | lst q r => exact .lst (seqL_mono s q) (DpAll.sm s ds _ r)
  | .tuple ds, _, h => by
    cases h with
    | tup q r => exact .tup (sqT_mono s q) (DpAll.sm s ds _ r)
  | .dict kvs, _, h => by cases h
theorem DpAll.sm {K : PySem.W.Frag} {F F' : Hp} (s : L2.Same F F') : ∀ (ds : List PyData) (vs : List V), DpAll K F vs ds → DpAll K F' vs ds
  | [], _, h => by cases h; exact .nil
  | d :: ds, _, h => by
    cases h with
    | cons a b => exact .cons (Dp.sm s d _ a) (DpAll.sm s ds _ b)
end
/-- min and max of three -/
def min3I (i j k : Int) : Int := if k < (if j < i then j else i) then k else (if j < i then j else i)
theorem oc_min3 {K : PySem.W.Frag} {i j k : Int} : OpC K (rNuC3 nuMin3) (i, j, k, ()) (min3I i j k) := fun F H vs Q s r q => by
  obtain ⟨v, _, rfl, rv, w, _, rfl, rw', z, _, rfl, rz, rfl⟩ := r
  have rv : v = .int i := rv
  have rw' : w = .int j := rw'
  have rz : z = .int k := rz
  subst rv; subst rw'; subst rz
  refine ⟨_, _, _, .int (min3I i j k), rfl, ?_, q _ F H (.refl s) rfl⟩
  have e : ∀ a b : Int, nuLt (.int a) (.int b) = some (decide (a < b)) := fun _ _ => rfl
  unfold nuMin3 nuMin2 min3I
  by_cases h1 : j < i
  · by_cases h2 : k < j <;> simp [e, h1, h2]
  · by_cases h2 : k < i <;> simp [e, h1, h2]
/-! ### lists taken apart -/
def unlist5 {α : Type} : List α → Option (T5 α α α α α)
  | [x0, x1, x2, x3, x4] => some ⟨x0, x1, x2, x3, x4⟩
  | _ => none
theorem unl5 {K : PySem.W.Frag} {F : Hp} {v : V} {α : Type} [Rp α] {xs : List α} {t : T5 α α α α α} (h : unlist5 xs = some t) (r : rp K F v xs) : ∃ a vs, v = .ref a ∧ SqL K F a vs ∧ ra K F vs t.row := by
  obtain ⟨a, vs, e, q, rs⟩ := r
  match xs, h with
  | [x0, x1, x2, x3, x4], h =>
    cases h
    cases rs with
    | cons r0 rs =>
      cases rs with
      | cons r1 rs =>
        cases rs with
        | cons r2 rs =>
          cases rs with
          | cons r3 rs =>
            cases rs with
            | cons r4 rs =>
              cases rs; exact ⟨a, _, e, q, _, _, rfl, r0, _, _, rfl, r1, _, _, rfl, r2, _, _, rfl, r3, _, _, rfl, r4, rfl⟩
def unlist6 {α : Type} : List α → Option (T6 α α α α α α)
  | [x0, x1, x2, x3, x4, x5] => some ⟨x0, x1, x2, x3, x4, x5⟩
  | _ => none
theorem unl6 {K : PySem.W.Frag} {F : Hp} {v : V} {α : Type} [Rp α] {xs : List α} {t : T6 α α α α α α} (h : unlist6 xs = some t) (r : rp K F v xs) : ∃ a vs, v = .ref a ∧ SqL K F a vs ∧ ra K F vs t.row := by
  obtain ⟨a, vs, e, q, rs⟩ := r
  match xs, h with
  | [x0, x1, x2, x3, x4, x5], h =>
    cases h
    cases rs with
    | cons r0 rs =>
      cases rs with
      | cons r1 rs =>
        cases rs with
        | cons r2 rs =>
          cases rs with
          | cons r3 rs =>
            cases rs with
            | cons r4 rs =>
              cases rs with
              | cons r5 rs =>
                cases rs; exact ⟨a, _, e, q, _, _, rfl, r0, _, _, rfl, r1, _, _, rfl, r2, _, _, rfl, r3, _, _, rfl, r4, _, _, rfl, r5, rfl⟩
def unlist7 {α : Type} : List α → Option (T7 α α α α α α α)
  | [x0, x1, x2, x3, x4, x5, x6] => some ⟨x0, x1, x2, x3, x4, x5, x6⟩
  | _ => none
theorem unl7 {K : PySem.W.Frag} {F : Hp} {v : V} {α : Type} [Rp α] {xs : List α} {t : T7 α α α α α α α} (h : unlist7 xs = some t) (r : rp K F v xs) : ∃ a vs, v = .ref a ∧ SqL K F a vs ∧ ra K F vs t.row := by
  obtain ⟨a, vs, e, q, rs⟩ := r
  match xs, h with
  | [x0, x1, x2, x3, x4, x5, x6], h =>
    cases h
    cases rs with
    | cons r0 rs =>
      cases rs with
      | cons r1 rs =>
        cases rs with
        | cons r2 rs =>
          cases rs with
          | cons r3 rs =>
            cases rs with
            | cons r4 rs =>
              cases rs with
              | cons r5 rs =>
                cases rs with
                | cons r6 rs =>
                  cases rs; exact ⟨a, _, e, q, _, _, rfl, r0, _, _, rfl, r1, _, _, rfl, r2, _, _, rfl, r3, _, _, rfl, r4, _, _, rfl, r5, _, _, rfl, r6, rfl⟩
structure Dy where
  d : PyData
instance : Rp Dy := ⟨fun K F v x => Dp K F v x.d, fun s h => Dp.sm s _ _ h⟩
def kindD : PyData → String
  | .none => "NoneType"
  | .bool _ => "bool"
  | .int _ => "int"
  | .str _ => "str"
  | .list _ => "list"
  | .tuple _ => "tuple"
  | .dict _ => "dict"
theorem dp_kn {K : PySem.W.Frag} {H : Hp} {v : V} {d : PyData} (h : Dp K H v d) : Kn K H v (kindD d) := by
  cases h with
  | non => exact .non
  | bl b => exact .bl b
  | int i => exact .int i
  | str x => exact .str x
  | lst q _ => exact .lst q
  | tup q _ => exact .tup q
def Dy.tup : Dy → Option (Ct Dy)
  | ⟨.tuple ds⟩ => some ⟨ds.map Dy.mk⟩
  | _ => none
theorem DpAll.rps {K : PySem.W.Frag} {F : Hp} : ∀ {vs : List V} {ds : List PyData}, DpAll K F vs ds → Rps K F vs (ds.map Dy.mk)
  | _, _, .nil => .nil
  | _, _, .cons a b => .cons a (DpAll.rps b)
/-- x == y of things of any kind -/
def eqDy (x y : Dy) : Option Bool := if (SeqAt.shaped x.d && SeqAt.shaped y.d) = true then some (PyData.eqv x.d y.d) else none
theorem eqDy_of {x y : Dy} {r : Bool} (h : eqDy x y = some r) : SeqAt.shaped x.d = true ∧ SeqAt.shaped y.d = true ∧ PyData.eqv x.d y.d = r := by
  unfold eqDy at h; split at h
  · rename_i h1
    obtain ⟨h1, h2⟩ := Bool.and_eq_true_iff.mp h1
    exact ⟨h1, h2, Option.some.inj h⟩
  · cases h
theorem o2_eqDy {K : PySem.W.Frag} {x y : Dy} {r : Bool} (h : eqDy x y = some r) : Op2 K (rEqD K) x y r := fun F H v w Q s rv rw' k => by
  obtain ⟨h1, h2, h3⟩ := eqDy_of h
  exact ⟨_, _, Dp.sm s _ _ rv, Dp.sm s _ _ rw', h1, h2, k _ F H (.refl s) (congrArg V.bl h3)⟩
section
variable {X : Cx} {e a : Expr} {σ : L2.St} {F H : Hp} {pos : Pos}
/-- a thing of a known kind is one of any kind -/
theorem ev_dy {α : Type} [Rp α] [Pd α] {x : α} (h : Ev X e σ F H x) : Ev X e σ F H (Dy.mk (Pd.toD x)) := h.re fun _ _ r => Pd.dp r
theorem ev_dyTup {x : Dy} {t : Ct Dy} (h : Ev X e σ F H x) (ht : x.tup = some t) : Ev X e σ F H t := by
  obtain ⟨d⟩ := x
  cases d with
  | tuple ds =>
    cases ht
    refine h.re fun F v r => ?_
    have r : Dp X.K F v (.tuple ds) := r
    cases r with
    | tup q b => exact ⟨_, _, rfl, q, DpAll.rps b⟩
  | _ => cases ht
theorem ev_isDy {x : Dy} {T : String} {r : Bool} {p1 p2 : Pos} (h : kitB (kindD x.d) T = some r) (hm : X.mg "isinstance" = none) (hT : X.mg (Str.ofString T) = none) (hv : bootBuiltins (Str.ofString T) = some (.type T)) (ha : Ev X a σ F H x)
    (hg : Gl X "isinstance" := by rfl) (hgT : Gl X (Str.ofString T) := by rfl) (hn : (Str.ofString T) ≠ "__name__" := by decide) (hd : ((Str.ofString T) == ("__debug__" : Str)) = false := by decide)
    (hs : starEach [a, .Name (Str.ofString T) p2] X.env = (false, eval a X.env) :: starEach [.Name (Str.ofString T) p2] X.env := by rfl) (hs2 : starEach [.Name (Str.ofString T) p2] X.env = (false, eval (.Name (Str.ofString T) p2) X.env) :: starEach [] X.env := by rfl)
    (hpl : (backTo pos (starEach [.Name (Str.ofString T) p2] X.env)).any (·.1) = false := by rfl) : Ev X (.Call (.Name "isinstance" p1) [a, .Name (Str.ofString T) p2] [] pos) σ F H r := fun F1 H1 g Q q =>
  GoE.of (pe_callB call_isk hg hm (by decide +kernel) (pa_cons pe_go (pa_cons (pe_bltn hgT hT hv (v := .ty T) rfl hn hd) pa_nil hs2) hs) (by decide) (by decide) hs hpl)
    (ha F1 H1 g _ fun v F2 H2 g2 r2 => ⟨v, _, T, r, rfl, dp_kn (Dp.sm g2.fh _ _ r2), h, q _ F2 H2 g2 rfl⟩)
/-- isinstance(x, (int, str)) of what is no list and no tuple -/
def isIS : PyData → Option Bool
  | .none => some false
  | .bool _ => some true
  | .int _ => some true
  | .str _ => some true
  | _ => none
theorem ev_isDyIS {x : Dy} {r : Bool} {p1 p2 p3 : Pos} {kk : Nat} {tpos : Pos} (h : isIS x.d = some r) (hm : X.mg "isinstance" = none) (hI : X.mg "int" = none) (hS : X.mg "str" = none) (ha : Ev X a σ F H x)
    (hg : Gl X "isinstance" := by rfl) (hgI : Gl X "int" := by rfl) (hgS : Gl X "str" := by rfl)
    (hs : starEach [a, .Tuple [.Name "int" p2, .Name "str" p3] kk tpos] X.env = (false, eval a X.env) :: starEach [.Tuple [.Name "int" p2, .Name "str" p3] kk tpos] X.env := by rfl) (hs2 : starEach [.Tuple [.Name "int" p2, .Name "str" p3] kk tpos] X.env = (false, eval (.Tuple [.Name "int" p2, .Name "str" p3] kk tpos) X.env) :: starEach [] X.env := by rfl)
    (hs3 : starEach [.Name "int" p2, .Name "str" p3] X.env = (false, eval (.Name "int" p2) X.env) :: starEach [.Name "str" p3] X.env := by rfl) (hs4 : starEach [.Name "str" p3] X.env = (false, eval (.Name "str" p3) X.env) :: starEach [] X.env := by rfl)
    (hpl : (backTo pos (starEach [.Tuple [.Name "int" p2, .Name "str" p3] kk tpos] X.env)).any (·.1) = false := by rfl) : Ev X (.Call (.Name "isinstance" p1) [a, .Tuple [.Name "int" p2, .Name "str" p3] kk tpos] [] pos) σ F H r := fun F1 H1 g Q q =>
  GoE.of (pe_callB call_isiT hg hm (by decide +kernel) (pa_cons pe_go (pa_cons (pe_tup (pa_cons (pe_bltn hgI hI (by decide +kernel) (v := .ty "int") rfl (by decide) (by decide)) (pa_cons (pe_bltn hgS hS (by decide +kernel) (v := .ty "str") rfl (by decide) (by decide)) pa_nil hs4) hs3)) pa_nil hs2) hs) (by decide) (by decide) hs hpl)
    (ha F1 H1 g _ fun v F2 H2 g2 r2 => ⟨by show 2 ≤ sizeLine; decide, fun p hp => by
      have gr := g2.trans (Gr.new (o := .tup [.ty "int", .ty "str"]) g2.fh hp)
      have r2 : Dp X.K F2 v x.d := r2
      have fin : ∀ b : Bool, ∀ t : Value, TyX X.K (upd H2 p (.tup [.ty "int", .ty "str"])) v t → PySem.W.kitAny X.K t [.type "int", .type "str"] = some b → b = r → ∃ (x : V) (tp : Addr) (cs : List V) (t : Value) (us : List Value) (b : Bool), [v, .ref p] = [x, .ref tp] ∧ upd H2 p (.tup [.ty "int", .ty "str"]) tp = some (.tup cs) ∧ Paired ClsV cs us ∧ TyX X.K (upd H2 p (.tup [.ty "int", .ty "str"])) x t ∧ PySem.W.kitAny X.K t us = some b ∧ Q (.bl b) (upd H2 p (.tup [.ty "int", .ty "str"])) := fun b t ht hk hb => ⟨v, p, [.ty "int", .ty "str"], t, [.type "int", .type "str"], b, rfl, upd_same, .cons (.ty _) (.cons (.ty _) .nil), ht, hk, q _ _ _ gr (congrArg V.bl hb)⟩
      obtain ⟨d⟩ := x
      cases d with
      | none => cases h; cases r2; exact fin false _ (.base .non) rfl rfl
      | bool b => cases h; cases r2; exact fin true _ (.base (.bl _)) rfl rfl
      | int i => cases h; cases r2; exact fin true _ (.base (.int _)) rfl rfl
      | str z => cases h; cases r2; exact fin true _ (.base (.str _)) rfl rfl
      | list _ => cases h
      | tuple _ => cases h
      | dict _ => cases h⟩)
theorem ev_eqDy {b : Expr} {x y : Dy} {r : Bool} (ha : Ev X a σ F H x) (hb : Ev X b σ F H y) (h : eqDy x y = some r) (hu : X.A.units + 64 < cLine) : Ev X (.Compare a [.Eq] [b] pos) σ F H r := ev_cmp (op_eqD hu) (o2_eqDy h) ha hb (nomark _)
theorem et_eqDy {b : Expr} {x y : Dy} {r : Bool} (ha : Ev X a σ F H x) (hb : Ev X b σ F H y) (h : eqDy x y = some r) (hu : X.A.units + 64 < cLine) : EvT X (.Compare a [.Eq] [b] pos) σ F H r := et_cmp (op_eqD hu) (o2_eqDy h) ha hb (nomark _)
end
end Gx

/-! Gka: sorted(range(..), key=lambda v: xs[v]). -/
namespace Gx
open PySem PySem.Spec PyProof.Rows L2
open Rp (rp)
open Ra (ra)
open Ob (ob)
section
variable {prog : Program} {w : World} {A : Around} {E : Value → Shared → Prop} {s : Shared}
abbrev Kp (h h' : Heap) : Prop := ∀ b o, h.get? b = some o → h'.get? b = some o
theorem sorted_range {r : Addr} {b : Int} {t u v : Tok} {n : Nat} {kw : List (Str × Value)} {Q : Value → Shared → Prop} (hh : A.handled = none) (hr : IsRange s.heap r 0 b 1 t u v) (hsmall : Builtin.Range.small 0 b 1 = true) (hn : Builtin.Range.rangeSize 0 b 1 = n) (hlen : n ≤ 2 ^ 24)
    (ha1 : argsOk "sorted" ⟨[.ref r], kw⟩) (ha2 : ∀ x, argsOk "list.sort" ⟨[.ref x], kw⟩)
    (body : ∀ (E' : Value → Shared → Prop) (h' : Heap) (tk : Nat) (acc : Array Value), Kp s.heap h' → ItemsOf (fun i v => ∃ t, v = .int (0 + i * 1) t) acc n →
      wpAny (model prog w) A.in1.in1 (Builtin.«list.sort» ⟨[.ref h'.objs.size], kw⟩) (fun f s' => f = .done (.ret .none) ∧ Q (.ref h'.objs.size) s') E' { s with heap := h'.push (seqObj "list" acc 0), toks := tk }) :
    wpAny (model prog w) A (call (.builtin "sorted") [.ref r] kw) Q E s := by
  refine call_function_entry_kw kind_sorted plain_sorted entry_sorted ha1 ?_
  unfold Builtin.«sorted»
  refine wpAny_bind (m := checkCount "sorted" 1 1 _) (wpAny_pure ?_)
  refine wpAny_bind (L2.collect_range (A := A.in1) hh hr hsmall hn hlen fun h' tk acc hk hi => ?_)
  have hz : acc.toList.length ≤ sizeLine := by rw [Array.length_toList, hi.1, sizeLine_eq]; omega
  refine wpAny_bind (wpAny_newList ?_ hz)
  rw [Array.toArray_toList]
  refine wpAny_bind (wpAny_holding (wpAny_call_entry_kw slot_list_sort ⟨_, Heap.get?_push_size _ rfl, rfl⟩ entry_list_sort ?body (ha2 _)))
  case body =>
    refine wpAny_mono (body _ h' tk acc hk hi) (fun f s' hf => ?_) fun _ _ e => e
    obtain ⟨rfl, hq⟩ := hf
    exact ⟨_, rfl, wpAny_pure ⟨_, rfl, hq⟩⟩
/-- the order by the numbers that stand at the places -/
def byKey (ks : List Int) (i : Int) : PyData := .int (ks.getD i.toNat 0)
def byLe (ks : List Int) : Int → Int → Bool := PySem.W.dataLe false (byKey ks)
theorem sorted_range_key {r f : Addr} {b : Int} {t u v : Tok} {n : Nat} {ks : List Int} {Q : Value → Shared → Prop} (hh : A.handled = none) (hr : IsRange s.heap r 0 b 1 t u v) (hsmall : Builtin.Range.small 0 b 1 = true) (hn : Builtin.Range.rangeSize 0 b 1 = n) (hlen : n ≤ 2 ^ 24) (hu : A.units + 64 < cLine)
    (turn : ∀ (i : Nat) (t : Tok), i < n → ∀ (h : Heap) (tk : Nat), Kp s.heap h → wpAny (model prog w) A.in1.in1 (call (.ref f) [.int i t]) (PySem.W.KeyPure (.int (ks.getD i 0)) { s with heap := h, toks := tk }) (fun _ _ => False) { s with heap := h, toks := tk })
    (h : ∀ hm out c h' tk, Kp s.heap hm → Kp hm h' → h'.get? hm.objs.size = some (seqObj "list" (List.toArray out) c) → PySem.W.EachIs (fun v (x : Int) => ∃ t, v = .int x t) out ((intsF 0 n).mergeSort (byLe ks)) → Q (.ref hm.objs.size) { s with heap := h', toks := tk }) :
    wpAny (model prog w) A (call (.builtin "sorted") [.ref r] [(Str.ofString "key", .ref f)]) Q E s := by
  refine sorted_range hh hr hsmall hn hlen (ksk_s1 _ _) (fun _ => ksk_l1 _ _) fun E' h' tk acc hk hi => ?_
  rw [ksk_t1]
  have hlA : acc.toList.length = n := by rw [Array.length_toList]; exact hi.1
  have hlI : (intsF 0 n).length = n := by unfold intsF; rw [List.length_map, List.length_range]
  have up : ∀ {g : Heap}, PySem.W.KeepsBut h'.objs.size (h'.push (seqObj "list" acc.toList.toArray 0)) g → Kp h' g := fun kp b o q => kp b o (Nat.ne_of_lt (Heap.lt_size q)) (Heap.get?_push_of_some _ q)
  have e : PySem.W.EachIs (fun v (x : Int) => ∃ t, v = .int x t) acc.toList (intsF 0 n) := PySem.W.EachIs.of_zip (by rw [hlA, hlI]) fun p hp => by
    obtain ⟨j, hj⟩ := List.mem_iff_getElem?.mp hp
    rw [List.getElem?_zip_eq_some] at hj
    obtain ⟨h1, h2⟩ := hj
    obtain ⟨t, e1⟩ := hi.2 j p.1 (by rw [← Array.getElem?_toList]; exact h1)
    unfold intsF at h2
    rw [List.getElem?_map] at h2
    cases hq : (List.range n)[j]? with
    | none => rw [hq] at h2; cases h2
    | some k =>
      rw [hq] at h2
      obtain ⟨hk1, hk2⟩ := List.getElem?_eq_some_iff.mp hq
      rw [List.getElem_range] at hk2
      subst hk2
      have h2 : (0 : Int) + (j : Int) = p.2 := Option.some.inj h2
      exact ⟨t, by rw [e1, ← h2, Int.mul_one]⟩
  have eo : h'.push (seqObj "list" acc 0) = h'.push (seqObj "list" acc.toList.toArray 0) := by rw [Array.toArray_toList]
  rw [eo]
  refine PySem.W.keyH_tree (kz := (intsF 0 n).map (byKey ks)) (n := 0) (vs := acc.toList) (s := { s with heap := h'.push (seqObj "list" acc.toList.toArray 0), toks := tk }) (Heap.get?_push_size _ rfl) (by rw [List.length_map, hlA, hlI]) (by rw [hlA, sizeLine_eq]; omega)
    (PySem.W.AllAlike.of fun _ _ => rfl) (PySem.W.Sortable.others fun _ => ⟨(fun z => nomatch z), (fun xs z => nomatch z)⟩) (PySem.W.bound_map (A := A.in1.in1) fun x _ => ?_)
    (PySem.W.keyH_turns (s := { s with heap := h'.push (seqObj "list" acc.toList.toArray 0), toks := tk }) e fun v x hR hx h2 tk2 kp => ?_) fun h2 tk2 out c kp hD ko => ⟨rfl, ?_⟩
  · have hd : (byKey ks x).depth ≤ 1 := by unfold byKey; simp [PyData.depth]
    show A.units + 1 + 1 + _ < _
    omega
  · obtain ⟨t, rfl⟩ := hR
    have hx2 : 0 ≤ x ∧ x.toNat < n := by
      unfold intsF at hx
      obtain ⟨j, hj, rfl⟩ := List.mem_map.mp hx
      have := List.mem_range.mp hj
      omega
    have ex : x = (x.toNat : Int) := (Int.toNat_of_nonneg hx2.1).symm
    have q := turn x.toNat t hx2.2 h2 tk2 fun b o q => up kp b o (hk b o q)
    rw [← ex] at q
    exact q
  · exact h h' out c h2 tk2 hk (up kp) hD (PySem.W.keyedOut_each (byKey ks) ko e)
/-- a call of lambda v: xs[v] -/
theorem lam_at {f c' cc l : Addr} {pm ctv : Value} {qual vn on : Str} {params : Arguments} {scope : Scope} {cl : List (Str × Addr)} {its : Array Value} {i : Nat} {t t' : Tok} {k : Int} {p1 p2 p3 : Pos} (hroom : A.depth < recursionLimit)
    (ho : s.heap.get? f = some (PySem.W.kla_obj "<lambda>" qual params (.Subscript (.Name on p1) (.Name vn p2) p3) scope cl pm c' ctv)) (hcd : s.heap.CodeRec (.ref c') qual) (lim : s.heap.NoLimit)
    (hbind : ∀ u : Value, bindArgs (PySem.W.kla_fn "<lambda>" qual params (.Subscript (.Name on p1) (.Name vn p2) p3) scope cl pm (.ref c') ctv) ⟨[u], []⟩ = pure [(vn, u)])
    (hk : scope.kind = .function) (hco : scope.isCoroutine = false) (hgen : scope.isGenerator = false) (hcell : ∀ y ∈ scope.names, y.2 ≠ .cell) (hl : scope.names.lookup vn = some .local) (hof : scope.names.lookup on = some .free)
    (hc : cl.lookup on = some cc) (hC : s.heap.IsCell cc (some (.ref l))) (hL : s.heap.IsList l its) (hi : its[i]? = some (.int k t')) (hfit : (i : Int) < 2 ^ 63)
    (d1 : (vn == ("__debug__" : Str)) = false := by decide) (d2 : (on == ("__debug__" : Str)) = false := by decide) (d3 : (on == ("__classdict__" : Str)) = false := by decide) :
    wpAny (model prog w) A (call (.ref f) [.int i t]) (PySem.W.KeyPure (.int k) s) E s := by
  refine wpAny_call (codeAny_mono (R := fun r s' => ∃ u, r = .ok (.ret u) ∧ PySem.W.KeyPure (.int k) s u s') ?_ fun r s' ⟨u, e, q⟩ => by subst e; exact q)
  refine PySem.W.kla_callFunE hroom ho rfl hco hgen rfl hcd ?_
  rw [hbind]
  refine wpAny_pure (wpAny_newFunctionEnv hcell (fun y hy => ?_) (fun h₁ hns hsb => ⟨lim.fresh _ hsb, ?_⟩) hk)
  · obtain rfl : y = (vn, Value.int i t) := by simpa using hy
    exact hl
  have kp : Kp s.heap h₁ := fun b o e => hsb.extBut b o (Nat.ne_of_lt (Heap.lt_size e)) (Heap.get?_push_of_some _ e)
  show codeAny _ _ (.expr (.Subscript (.Name on p1) (.Name vn p2) p3) (PySem.W.envX qual scope s.heap.objs.size f (.ref c') cl)) _ _
  have cK : h₁.IsCell cc (some (.ref l)) := let ⟨o, a, b⟩ := hC; ⟨o, kp _ _ a, b⟩
  have lK : h₁.IsList l its := let ⟨o, a, b⟩ := hL; ⟨o, kp _ _ a, b⟩
  refine PySem.W.kla_codeExpr (Subscript_ (wpAny_Name (wpAny_loadName_free hk hof hc cK ?_ d3) d2))
  refine wpAny_Name (wpAny_loadName_local hk hl hns (v := .int i t) (by simp [List.lookup]) ?_) d1
  refine item_listR lK (Int.natCast_nonneg i) hfit (by rw [Int.toNat_natCast]; exact hi) ⟨_, rfl, h₁, _, rfl, kp, .int _ _⟩ rfl
end
end Gx
namespace Gx
open PySem PySem.Spec PyProof.Rows L2
open Rp (rp)
open Ra (ra)
open Ob (ob)
section
variable {X : Cx} {K : PySem.W.Frag} {e a b d : Expr} {es : List Expr} {σ : L2.St} {F H F0 H0 : Hp} {pos : Pos}
/-- a lambda is made; its object is known of the heap alone -/
theorem lamG {pins : List (Addr × Obj)} {s : Shared} {c P : Addr} {params : Arguments} {body : Expr} {scope : Scope} {lp : Pos} {E Q : Value → Shared → Prop} (I : Inv X pins σ H s) (TB : LamX.TabB X.base X.mg c P) (hcode : X.env.code = .ref c) (hT : GdT H P) (hq : nmG lp.line lp.col = X.env.qual ++ "<lambda>")
    (hfree : ∀ y ∈ scope.names, y.2 = .free → ∃ q, X.env.cells.lookup y.1 = some q) (hdef : defaultsOf params X.env = ([], []))
    (h : ∀ f c' pm ctv H1 s', Inv X pins σ H1 s' → Xt H H1 → (∀ b o, H b = some o → b ≠ P → H1 b = some o) → (∀ b o, b ≠ P → s.heap.get? b = some o → s'.heap.get? b = some o) → s'.heap.get? f = some (PySem.W.kla_obj "<lambda>" (X.env.qual ++ "<lambda>") params body scope (cloFrom X.env.cells scope.names []) pm c' ctv) →
      s'.heap.CodeRec (.ref c') (X.env.qual ++ "<lambda>") → Q (.ref f) s') :
    wpAny (model X.prog X.w) X.A (eval (.Lambda params body scope lp) X.env) Q E s := by
  have hG := hT
  obtain ⟨ps, tP, tri, all⟩ := hT
  refine PySem.W.kla_eval hdef ?_
  have g1 := I.mod.glob.keeps I.bk
  have cd := TB.code.keeps I.bk
  have bt : s.heap.BuiltinsAt X.mg P := TB.bm.keeps I.bk
  have oP : s.heap.get? P = some { cls := .none, data := .fields ps } := I.hok P _ tP
  cases among : codeAmong lp ps.toList with
  | some cv =>
    obtain ⟨c', rfl, cO⟩ := all lp cv among
    rw [hq] at cO
    refine PySem.W.kla_makeFunctionHit (mg := X.mg) (c := c) (P := P) (ps := ps) (closure_ok hfree) I.ok.glob g1 hcode cd oP tri among bt fun ctv h' tk hx hsz => ?_
    have hk : Kp s.heap (h'.push (PySem.W.kla_obj "<lambda>" (X.env.qual ++ "<lambda>") params body scope (cloFrom X.env.cells scope.names []) ((X.mg "__name__").getD .none) c' ctv)) := fun b o e => Heap.get?_push_of_some _ (hx b o e)
    obtain ⟨⟨oc, vs, t, hoc, hd, hv⟩, _⟩ := I.hok c' _ cO
    exact h _ c' _ ctv H _ (I.kept hk) (.refl _) (fun b o e _ => e) (fun b o _ e => hk b o e) (Heap.get?_push_size _ rfl) ⟨c', oc, vs, t, rfl, hk _ _ hoc, hd, hv⟩
  | none =>
    refine PySem.W.kla_makeFunction (mg := X.mg) (c := c) (P := P) (ps := ps) (closure_ok hfree) I.ok.glob g1 hcode cd oP tri among TB.gP bt fun c' ctv h' tk hx hge hlt hrec htb => ?_
    have hrec0 := hrec
    obtain ⟨c2, oc, vs, t, e2, hoc, hd, hv⟩ := hrec
    cases e2
    have nC : H c' = none := I.hok.fresh hge
    have I1 := LamX.inv_table (t' := tk) (more := #[rawInt lp.line, rawInt lp.col, .ref c']) (h' := h'.push (PySem.W.kla_obj "<lambda>" (X.env.qual ++ "<lambda>") params body scope (cloFrom X.env.cells scope.names []) ((X.mg "__name__").getD .none) c' ctv)) I tP
      (fun b o hb e => Heap.get?_push_of_some _ (hx b o hb e)) (Heap.get?_push_of_some _ htb) hge ⟨oc, vs, t, Heap.get?_push_of_some _ hoc, hd, hv⟩
    generalize hH1 : upd (upd H P (.tbl (ps ++ #[rawInt lp.line, rawInt lp.col, .ref c']))) c' (LamX.CodeO c' (X.env.qual ++ "<lambda>")) = H1 at I1
    have nPc : P ≠ c' := ne_of_none tP nC
    have kp : ∀ b o, H b = some o → b ≠ P → H1 b = some o := fun b o hb hP => by
      rw [← hH1, upd_ne (ne_of_none hb nC), upd_ne hP]; exact hb
    have cO : H1 c' = some (LamX.CodeO c' (X.env.qual ++ "<lambda>")) := by rw [← hH1, upd_same]
    have pO : H1 P = some (.tbl (ps ++ #[rawInt lp.line, rawInt lp.col, .ref c'])) := by rw [← hH1, upd_ne nPc, upd_same]
    have code : ∀ q nm, H q = some (LamX.CodeO q nm) → H1 q = some (LamX.CodeO q nm) := fun q nm hb => kp q _ hb fun z => by
      rw [z, tP] at hb; exact LamX.codeO_ne ps (Option.some.inj hb).symm
    have eL : (ps ++ #[rawInt lp.line, rawInt lp.col, .ref c']).toList = ps.toList ++ [rawInt lp.line, rawInt lp.col, .ref c'] := by simp
    refine h _ c' _ ctv H1 _ I1 ⟨fun b o hb n => kp b o hb fun z => ?_, fun b qs hb => ?_, fun P' hP' => ?_⟩ kp (fun b o hb e => Heap.get?_push_of_some _ (hx b o hb e)) (Heap.get?_push_size _ rfl) (hrec0.push _)
    · subst z; rw [tP] at hb; cases hb; exact n
    · by_cases z : b = P
      · subst z; exact ⟨_, pO⟩
      · exact ⟨qs, kp b _ hb z⟩
    · by_cases z : P' = P
      · subst z
        refine ⟨_, pO, by rw [eL]; exact PySem.TriplesOk_snoc _ _ _ _ tri, fun p' cv hcv => ?_⟩
        rw [eL] at hcv
        rcases NdefX.among_app2 _ tri hcv with y | ⟨y, y1, y2⟩
        · obtain ⟨q, e1, e2⟩ := all p' cv y
          exact ⟨q, e1, code _ _ e2⟩
        · refine ⟨c', y, ?_⟩
          rw [← y1, ← y2, hq]; exact cO
      · obtain ⟨qs, e1, e2, e3⟩ := hP'
        exact ⟨qs, kp _ _ e1 z, e2, fun p' cv hcv => let ⟨q, y1, y2⟩ := e3 p' cv hcv; ⟨q, y1, code _ _ y2⟩⟩
/-- the names of lambda v: xs[v] -/
structure LamN (sc scope : Scope) (on vn : Str) : Prop where
  kind : scope.kind = .function
  co : scope.isCoroutine = false
  gen : scope.isGenerator = false
  cell : ∀ y ∈ scope.names, y.2 ≠ .cell
  v : scope.names.lookup vn = some .local
  o : scope.names.lookup on = some .free
  fr : ∀ y ∈ scope.names, y.2 = .free → sc.names.lookup y.1 = some .cell ∨ sc.names.lookup y.1 = some .free
def lamNB (sc scope : Scope) (on vn : Str) : Bool :=
  decide (scope.kind = .function) && !scope.isCoroutine && !scope.isGenerator && scope.names.all (fun y => !decide (y.2 = .cell)) && decide (scope.names.lookup vn = some .local) && decide (scope.names.lookup on = some .free) && scope.names.all fun y => !decide (y.2 = .free) || decide (sc.names.lookup y.1 = some .cell) || decide (sc.names.lookup y.1 = some .free)
theorem lamN_by {sc scope : Scope} {on vn : Str} (h : lamNB sc scope on vn = true) : LamN sc scope on vn := by
  unfold lamNB at h
  simp only [Bool.and_eq_true, Bool.or_eq_true, Bool.not_eq_true', decide_eq_true_eq, decide_eq_false_iff_not, List.all_eq_true] at h
  obtain ⟨⟨⟨⟨⟨⟨h1, h2⟩, h3⟩, h4⟩, h5⟩, h6⟩, h7⟩ := h
  exact ⟨h1, h2, h3, h4, h5, h6, fun y hy e => by
    rcases h7 y hy with (z | z) | z
    · exact absurd e z
    · exact .inl z
    · exact .inr z⟩
/-- sorted(range(m), key=lambda v: ks[v]) -/
def srtG (ks : List Int) (m : Int) : Option (List Int) := if 0 ≤ m ∧ m ≤ 16777216 ∧ m ≤ ks.length then some ((intsF 0 m.toNat).mergeSort (byLe ks)) else none
theorem rps_intsV {xs : List Int} : Rps K F (xs.map V.int) xs := by
  induction xs with
  | nil => exact .nil
  | cons x r ih => exact .cons rfl ih
theorem vals_each {out : List Value} {xs : List Int} (h : PySem.W.EachIs (fun v (x : Int) => ∃ t, v = .int x t) out xs) : L2.Vals (xs.map V.int) out := by
  induction h with
  | nil => exact .nil
  | cons r _ ih => exact .cons r ih
theorem en_sortK {c P : Addr} {k : Nat} {on vn : Str} {params : Arguments} {scope : Scope} {v : V} {ks r : List Int} {m : Int} {p1 p2 p3 lp kp p p4 p5 : Pos} (i : Nat) (hr : Room k X.A) (TB : LamX.TabB X.base X.mg c P) (hcode : X.env.code = .ref c) (hP : P ∈ tabsG X.K) (hq : nmG lp.line lp.col = X.env.qual ++ "<lambda>") (hL : LamN X.env.scope scope on vn)
    (hns : X.mg "sorted" = none) (hnr : X.mg "range" = none) (hσ : σ[i]? = some (some v)) (hv : rp X.K F v ks) (ha : Ev X a σ F H m) (h : srtG ks m = some r)
    (hbind : ∀ (q : Str) (cl : List (Str × Addr)) (pm cv ctv u : Value), bindArgs (PySem.W.kla_fn "<lambda>" q params (.Subscript (.Name on p1) (.Name vn p2) p3) scope cl pm cv ctv) ⟨[u], []⟩ = pure [(vn, u)] := by exact fun _ _ _ _ _ _ => rfl)
    (hdef : defaultsOf params X.env = ([], []) := by rfl) (hN : X.N[i]? = some on := by rfl)
    (hcl : X.env.scope.names.lookup on = some .cell := by rfl)
    (hgs : Gl X "sorted" := by rfl) (hgr : Gl X "range" := by rfl) (d1 : (vn == ("__debug__" : Str)) = false := by decide) (d2 : (on == ("__debug__" : Str)) = false := by decide) (d3 : (on == ("__classdict__" : Str)) = false := by decide)
    (hs : starEach [a] X.env = (false, eval a X.env) :: starEach [] X.env := by rfl)
    (he : backTo pos (starEach [.Call (.Name "range" p4) [a] [] p5] X.env) = (false, eval (.Call (.Name "range" p4) [a] [] p5) X.env) :: backTo pos (starEach [] X.env) := by rfl) (hpl : (backTo pos (starEach [.Call (.Name "range" p4) [a] [] p5] X.env)).any (·.1) = false := by rfl) :
    EvN X (.Call (.Name "sorted" p) [.Call (.Name "range" p4) [a] [] p5] [⟨some (Str.ofString "key"), .Lambda params (.Subscript (.Name on p1) (.Name vn p2) p3) scope lp, kp⟩] pos) σ F H r := fun F1 H1 g Q q => .mk fun pins s I => by
  unfold srtG at h
  split at h
  case isFalse => cases h
  rename_i hm
  obtain ⟨m0, m1, m2⟩ := hm
  have h := (Option.some.inj h).symm
  have hok : RgOk 0 m := RgOk.of_le (Int.le_refl _) m1 (by omega) m0
  obtain ⟨b1, b2, b3, b4, b5⟩ := hok
  have ga := ha F1 H1 g (fun x H2 => x = .int m ∧ ∃ F2, Gr F1 H1 F2 H2) fun x F2 H2 g2 r2 => ⟨r2, F2, g2⟩
  refine wpAny_Call_Name_kw (ld_blt I hgs hns boot_sorted ?_)
  refine PyProof.Rows.callWith_kw (args_cons (thn (prg_1 hgr hnr pe_go hs pins s σ H1 (fun x y H2 => x = 0 ∧ y = m ∧ ∃ F2, Gr F1 H1 F2 H2) I (Bx.mk fun pins s I => thn (ga.o pins s I) fun v s' ⟨x, H2, I2, r2, e2, g2⟩ => ⟨x, H2, I2, r2, m, e2, rfl, rfl, g2⟩)) fun x s1 ⟨r1, a0, b0, t, u, v1, H2, ex, hR, I1, e1, e2, F2, g2⟩ => args_nil ?_) rfl) he hpl rfl rfl
  have e2 := e2.symm
  subst e1; subst e2; subst ex
  show wpAny _ _ (evalAll [(do let v ← eval (.Lambda params (.Subscript (.Name on p1) (.Name vn p2) p3) scope lp) X.env; standAt pos; pure v)]) _ _ s1
  have sm := (g.trans g2).sm
  have hfree : ∀ y ∈ scope.names, y.2 = .free → ∃ q, X.env.cells.lookup y.1 = some q := fun y hy e => I1.ok.has _ (hL.fr y hy e)
  refine wpAny_evalAll_cons (wpAny_bind (lamG I1 TB hcode (sm.h.t P hP).1 hq hfree hdef fun f c' pm ctv H3 s2 I2 xt kpH kpS fO cR => wpAny_bind (wpAny_standAt (wpAny_pure (wpAny_evalAll_nil ?_)))))
  show wpAny _ _ (call (.builtin "sorted") [.ref r1] [(Str.ofString "key", .ref f)]) _ _ s2
  obtain ⟨ps, tP, _⟩ := (sm.h.t P hP).1
  have nP : r1 ≠ P := fun z => by
    have oP : s1.heap.get? P = some { cls := .none, data := .fields ps } := I1.hok P _ tP
    rw [← z] at oP
    have := hR.symm.trans oP
    cases this
  have hR2 : IsRange s2.heap r1 0 m 1 t u v1 := kpS _ _ nP hR
  have fP := (sm.h.t P hP).2
  have g3 : Gr F2 H2 F2 H3 := ⟨.refl _, (fun b o e => kpH b o (g2.fh b o e) fun z => ne_of_none e fP z), xt, fun _ _ _ _ => rfl⟩
  have gg := (g.trans g2).trans g3
  have hv2 := Rp.mono gg.ff hv
  obtain ⟨l, vs, el, sq, rs⟩ := hv2
  have sq2 := gg.fh.seq sq
  obtain ⟨its, rv, pl, hz⟩ := I2.list sq2
  have ev := rps_ints rs
  subst ev
  obtain ⟨mm, hn, hl⟩ := I2.loc
  obtain ⟨u0, ru, lk⟩ := hl i on v hN hσ (.inr (.inl hcl))
  subst el
  obtain rfl : u0 = Value.ref l := ru
  obtain ⟨cc, hcc, hcell⟩ : ∃ cc, X.env.cells.lookup on = some cc ∧ s2.heap.IsCell cc (some (.ref l)) := by
    rcases lk with ⟨hk', _⟩ | ⟨_, c3, e', z⟩
    · have hk' : X.env.scope.names.lookup on = some .local := hk'
      rw [hcl] at hk'; cases hk'
    · exact ⟨c3, e', z⟩
  have hclo : (cloFrom X.env.cells scope.names []).lookup on = some cc := by
    obtain ⟨c2, h2⟩ := L2.mem_lookup (cloFrom_has (cells := X.env.cells) (acc := []) (PySem.mem_of_lookup hL.o))
    rcases cloFrom_mem (PySem.mem_of_lookup h2) with z | ⟨_, z⟩
    · cases z
    · rw [h2, z, hcc] <;> rfl
  have em : (m - 0).toNat = m.toNat := by rw [Int.sub_zero]
  refine sorted_range_key (ks := ks) (n := m.toNat) hr.hd hR2 (small_one b1 b2 b3 b4) ((rangeSize_nat 0 m).trans (by rw [em])) (by omega) hr.units (fun i' t' hi' hh tk hkp => ?_) fun hm out c2 h' tk k1 k2 hLO each => ?_
  · obtain ⟨w, hw, rw'⟩ := rv.get (i := i') (x := V.int (ks.getD i' 0)) (by
      rw [List.getElem?_map, List.getD_eq_getElem?_getD]
      have : i' < ks.length := by omega
      rw [List.getElem?_eq_getElem this] <;> rfl)
    obtain ⟨t2, rfl⟩ := rw'
    refine lam_at (s := { s2 with heap := hh, toks := tk }) (by have := hr.dp; show X.A.depth < _; omega) (hkp _ _ fO) (cR.keeps hkp) (I2.nolimit.keeps hkp) (fun u => hbind _ _ _ _ _ u) hL.kind hL.co hL.gen hL.cell hL.v hL.o hclo (let ⟨o, a, b⟩ := hcell; ⟨o, hkp _ _ a, b⟩)
      (let ⟨o, a, b⟩ := pl.isList; ⟨o, hkp _ _ a, b⟩) (by rw [List.getElem?_toArray]; exact hw) (by have := line63; omega) d1 d2 d3
  · rw [← h] at each
    have I3 : Inv X pins σ H3 { s2 with heap := hm, toks := tk } := I2.kept k1
    have hlen : (r.map V.int).length ≤ sizeLine := by
      rw [List.length_map, h, List.length_mergeSort, sizeLine_eq]
      unfold intsF
      rw [List.length_map, List.length_range]
      omega
    exact ⟨.ref hm.objs.size, upd H3 hm.objs.size (.lst (r.map V.int)), I3.laid (t' := tk) k2 (Nat.le_refl _) ⟨hlen, out, c2, vals_each each, hLO⟩, rfl, EvN.new q (g2.trans g3) (I3.hok.fresh (Nat.le_refl _)) rps_intsV⟩
end
end Gx
namespace Gx
open PySem PySem.Spec PyProof.Rows L2
open Rp (rp)
open Ra (ra)
open Ob (ob)
/-! ### sorted(xs), xs a list of triples of ints -/
def enc3 (x : T3 Int Int Int) : PyData := .tuple [.int x.a, .int x.b, .int x.c]
def srt3 (xs : List (T3 Int Int Int)) : List (T3 Int Int Int) := xs.mergeSort (PySem.W.dataLe false enc3)
def is3 (H : Hp) (v : V) (x : T3 Int Int Int) : Prop := ∃ p, v = .ref p ∧ H p = some (.tup [.int x.a, .int x.b, .int x.c])
def rSorted3 (K : PySem.W.Frag) : List V → Hp → VK → Prop := fun vs H Q => ∃ (F : Hp) (a : Addr) (xs : List V) (ns : List (T3 Int Int Int)), L2.Same F H ∧ vs = [V.ref a] ∧ SqL K H a xs ∧ Paired (is3 F) xs ns ∧ ∀ ys p, Paired (is3 F) ys (srt3 ns) → H p = none → Q (.ref p) (upd H p (.lst ys))
section
variable {X : Cx} {K : PySem.W.Frag} {e a b d : Expr} {es : List Expr} {σ : L2.St} {F H F0 H0 : Hp} {pos : Pos}
theorem paired_zip {α β : Type} {R : α → β → Prop} {xs : List α} {ys : List β} (h : Paired R xs ys) : ∀ p ∈ xs.zip ys, R p.1 p.2 := by
  induction h with
  | nil => intro p hp; cases hp
  | cons r _ ih =>
    intro p hp
    rcases List.mem_cons.mp hp with e | e
    · subst e; exact r
    · exact ih p e
theorem paired_of {α β γ : Type} {R : α → β → Prop} {f : γ → α} {g : γ → β} : ∀ {zs : List γ}, (∀ z ∈ zs, R (f z) (g z)) → Paired R (zs.map f) (zs.map g)
  | [], _ => .nil
  | z :: zs, h => .cons (h z List.mem_cons_self) (paired_of fun y m => h y (List.mem_cons_of_mem _ m))
theorem vals_fst {bs ms : List (V × T3 Int Int Int)} {out : List Value} (h : PySem.W.EachIs (fun (v : Value) (z : V × T3 Int Int Int) => RelV z.1 v ∧ z ∈ bs) out ms) : L2.Vals (ms.map (·.1)) out := by
  induction h with
  | nil => exact .nil
  | cons r _ ih => exact .cons r.1 ih
theorem cr_sorted3 (hu : X.A.units + 64 < cLine) : CallR X (.builtin "sorted") (rSorted3 X.K) := by
  intro pins s σ H vs us Q I r h
  obtain ⟨F, a, xs, ns, sF, rfl, hs, hx, q⟩ := h
  obtain ⟨its, rv, hl, hz⟩ := I.list hs
  obtain ⟨u, rfl, ru⟩ := vals1 r
  obtain rfl : u = Value.ref a := ru
  have hl1 : xs.length = ns.length := hx.length
  have hl2 := rv.length
  let bs : List (V × T3 Int Int Int) := xs.zip ns
  have lb : bs.length = ns.length := by show (xs.zip ns).length = _; rw [List.length_zip]; omega
  have hm : ∀ z ∈ bs, is3 F z.1 z.2 := paired_zip hx
  have b1 : bs.map (·.1) = xs := List.map_fst_zip (Nat.le_of_eq hl1)
  have b2 : bs.map (·.2) = ns := List.map_snd_zip (Nat.le_of_eq hl1.symm)
  have e : PySem.W.EachIs (fun (v : Value) (z : V × T3 Int Int Int) => RelV z.1 v ∧ z ∈ bs) its bs := PySem.W.EachIs.of_zip (by omega) fun p hp => by
    obtain ⟨j, hj⟩ := List.mem_iff_getElem?.mp hp
    rw [List.getElem?_zip_eq_some] at hj
    obtain ⟨h1, h2⟩ := hj
    have h3 : xs[j]? = some p.2.1 := by
      rw [← b1, List.getElem?_map, h2] <;> rfl
    obtain ⟨u, hu', rr⟩ := rv.get h3
    rw [h1] at hu'; cases hu'
    exact ⟨rr, List.mem_of_getElem? h2⟩
  have er : PySem.W.EachIs (fun (v : Value) (z : V × T3 Int Int Int) => ∃ as, Reads s.heap v (enc3 z.2) as) its bs := e.mono fun v z ⟨rr, m⟩ => by
    obtain ⟨p, e1, hp⟩ := hm z m
    rw [e1] at rr
    obtain rfl : v = Value.ref p := rr
    obtain ⟨us, ru, ⟨o, ho, hc, n, hd⟩, _⟩ := I.tuple (.inl (.inl (sF _ _ hp)))
    cases ru with
    | cons r1 ru => cases ru with
      | cons r2 ru => cases ru with
        | cons r3 ru =>
          cases ru
          obtain ⟨t1, rfl⟩ := r1
          obtain ⟨t2, rfl⟩ := r2
          obtain ⟨t3, rfl⟩ := r3
          exact ⟨_, .tuple ho hc hd (.cons (.int _ _) (.cons (.int _ _) (.cons (.int _ _) .nil)))⟩
  refine PySem.W.sorted_data (enc := fun z : V × T3 Int Int Int => enc3 z.2) hl.isList e er (PySem.W.AllAlike.of fun _ _ => rfl) (PySem.W.Sortable.tuples fun z => ⟨_, _, rfl⟩) (by omega) (fun z _ => ?_) fun out ho each => ?_
  · have hd : (enc3 z.2).depth ≤ 2 := by unfold enc3; simp [PyData.depth, PyData.depthAll]
    omega
  · obtain ⟨ep, he'⟩ := PyProof.Rows.sortedAll_at s.heap its out.toArray
    have hp := List.mergeSort_perm bs (PySem.W.dataLe false fun z : V × T3 Int Int Int => enc3 z.2)
    have e2 : (bs.mergeSort (PySem.W.dataLe false fun z : V × T3 Int Int Int => enc3 z.2)).map (·.2) = srt3 ns := by
      have e3 : (bs.mergeSort (PySem.W.dataLe false fun z : V × T3 Int Int Int => enc3 z.2)).map (fun z => z.2) = (bs.map (fun z => z.2)).mergeSort (PySem.W.dataLe false enc3) := List.map_mergeSort fun a _ b _ => rfl
      exact e3.trans (by rw [b2]; rfl)
    generalize bs.mergeSort (PySem.W.dataLe false fun z : V × T3 Int Int Int => enc3 z.2) = ms at each hp e2
    have rel : L2.Vals (ms.map (·.1)) out := vals_fst each
    have hlen : (ms.map (·.1)).length ≤ sizeLine := by
      rw [List.length_map, hp.length_eq, lb]; omega
    exact ⟨.ref _, upd H (s.heap.objs.size + 1) (.lst (ms.map (·.1))), I.laid (t' := s.toks) (fun _ _ => PyProof.Rows.sortedAll_old) (Nat.le_succ _) ⟨hlen, out, ep, rel, he'⟩, rfl, q _ _ (by
      rw [← e2]; exact paired_of fun z m => hm z (hp.mem_iff.mp m)) (I.hok.fresh (Nat.le_succ _))⟩
theorem rps_is3 {vs : List V} {xs : List (T3 Int Int Int)} (s : L2.Same F H) (h : Rps K F vs xs) : Paired (is3 H) vs xs := by
  induction h with
  | nil => exact .nil
  | cons r _ ih =>
    obtain ⟨p, ws, e, hp, w1, r1, e1, q1, w2, r2, e2, q2, w3, r3, e3, q3, e4⟩ := Tup.eq.mp r
    subst e1; subst e2; subst e3; subst e4
    have q1 : w1 = .int _ := q1
    have q2 : w2 = .int _ := q2
    have q3 : w3 = .int _ := q3
    subst q1; subst q2; subst q3
    exact .cons ⟨p, e, s _ _ hp⟩ ih
theorem is3_rps {vs : List V} {xs : List (T3 Int Int Int)} (h : Paired (is3 F) vs xs) : Rps K F vs xs := by
  induction h with
  | nil => exact .nil
  | cons r _ ih =>
    obtain ⟨p, e, hp⟩ := r
    exact .cons ⟨p, _, e, hp, ⟨_, _, rfl, rfl, _, _, rfl, rfl, _, _, rfl, rfl, rfl⟩⟩ ih
theorem en_sort3 {xs : List (T3 Int Int Int)} {p : Pos} (hu : X.A.units + 64 < cLine) (hm : X.mg "sorted" = none) (ha : Ev X a σ F H xs) (hg : Gl X "sorted" := by rfl) (hs : starEach [a] X.env = (false, eval a X.env) :: starEach [] X.env := by rfl) :
    EvN X (.Call (.Name "sorted" p) [a] [] pos) σ F H (srt3 xs) := fun F1 H1 g Q q =>
  GoE.of (pe_callB (cr_sorted3 hu) hg hm boot_sorted (pa_cons pe_go pa_nil hs) (by decide) (by decide) hs rfl) (ha F1 H1 g _ fun v F2 H2 g2 ⟨l, vs, e, sq, rs⟩ => ⟨F2, l, vs, xs, g2.fh, by rw [e], g2.fh.seq sq, rps_is3 (.refl _) rs, fun ys p hy hp => EvN.new q g2 hp (is3_rps hy)⟩)
end
end Gx

/-! Gkb: caught exceptions with fields, and handed on. -/
namespace Gx
open PySem PySem.Spec PySem.Calls PyProof.Rows L2
section
variable {prog : Program} {w : World} {A : Around} {E : Value → Shared → Prop} {s : Shared} {K : PySem.W.Frag} {x D : Addr} {ox : Obj} {od : Option Obj}
theorem class_ofE {Q : Option Value → Shared → Prop} (C : ExcC K D) (X : K.In s.heap) (I : PySem.W.InstAt s.heap x ox D od) (h : Q (some (.ref D)) { s with toks := s.toks + 1 }) : wpAny (model prog w) A (getAttr? (.ref x) "__class__") Q E s := by
  have hf : PySem.W.findObj K D od "__class__" = some (.bind (.builtin "getset_descriptor.__get__") (.builtin "object.__class__")) := by
    obtain ⟨cd, hc, _⟩ := PySem.W.any_some C.hd
    unfold PySem.W.findObj
    rw [hc, Option.bind_some, C.ha, Option.bind_some]
    simp [C.hn, C.ht]
  have sub : PySem.W.Looks (model prog w) s.heap (isInstance (.ref x) (.type "BaseException")) true := (I.type (M := model prog w)).andThen (PySem.W.looks_subIn X C.hs)
  have dk := PySem.F.excAttr_ValueError.ga.bind (.ref x)
  unfold getAttr? getAttrBy? getAttrBy
  wp_walk using (I.type (M := model prog w)).at, (PySem.W.looks_findIn (M := model prog w) X C.hg).at
  refine (PySem.W.looks_findIn (M := model prog w) (h := s.heap) X C.hk).at ?_
  unfold callGetattribute
  rw [show (false && onTheHeap (Value.builtin "BaseException.__getattribute__")) = false from rfl, if_neg Bool.false_ne_true]
  unfold boundAndCalled
  rw [dk]
  wp_walk
  have ga := PySem.F.excAttr_ValueError.ga
  show codeAny _ _ (.call (.builtin "BaseException.__getattribute__") ⟨[.ref x, .str "__class__" s.toks], []⟩) _ _
  have pl := ga.plain
  clear dk ga
  refine codeAny_call_builtin pl PySem.F.entry_bexc_ga ?_
  obtain ⟨hp, g, dr, tk, os⟩ := s
  have c1 : builtinKind "BaseException.__getattribute__" = some .slot := by decide +kernel
  have c2 : splitId "BaseException.__getattribute__" = some ("BaseException", "__getattribute__") := by decide +kernel
  have c3 := PySem.F.args_bexc_ga (.ref x) (.str "__class__" tk)
  refine PySem.W.check_slot (M := model prog w) (A := A.in1) (s := ⟨hp, g, dr, tk + 1, os⟩) (i := "BaseException.__getattribute__") (self := .ref x) (rest := [.str "__class__" tk]) (kw := []) c1 c2 sub c3 ?_
  unfold Builtin.«object.__getattribute__»
  have sl : slotArgs "__getattribute__" 1 ⟨[.ref x, .str "__class__" tk], []⟩ = pure ((.ref x : Value), [Value.str "__class__" tk]) := by
    simp only [slotArgs]; rfl
  refine wpAny_bind (wpAny_of_eq sl ?_)
  have nm : Builtin.ObjectAttr.attrName (.str "__class__" tk) = pure "__class__" := rfl
  refine wpAny_bind (wpAny_of_eq nm ?_)
  refine wpAny_bind ((I.type (M := model prog w)).at (wpAny_bind ((PySem.W.looks_find (M := model prog w) X I hf).at ?_)))
  dsimp only
  show wpAny _ _ (holding [Value.builtin "object.__class__"] (call (.builtin "getset_descriptor.__get__") [.builtin "object.__class__", .ref x, .ref D]) >>= ret) _ _ _
  refine wpAny_bind (wpAny_holding (wpAny_call (PySem.W.class_get X I C.hm ?_)))
  refine wpAny_pure ?_
  show wpAny _ _ (handedOut (.ref D)) _ _ _
  rw [PySem.W.handedOut_of (v := .ref D) rfl]
  exact wpAny_pure (wpAny_pure h)
/-- instances of own exception classes, with a dict or without -/
theorem kitxE (C : ExcC K D) : PySem.W.KitX K (.ref x) (.ref D) (fun h => PySem.W.InstAt h x ox D od) where
  ty := fun _ _ _ I => I.type
  it := fun M h X _ A Q E s k q => PySem.W.mc_isType (s := s) (X.keeps k) C.hd A Q E s (fun _ _ z => z) q
  ne := fun h tp dd its n sl X htp => (PySem.W.handS_kitx_exc (x := x) (ox := ox) C.hg C.hk C.hs C.hd C.ha C.hn C.ht C.hm).ne h tp dd its n sl X htp
  ca := fun X I k => class_ofE C X I k
end
end Gx
namespace Gx
open PySem PySem.Spec PySem.Calls PyProof.Rows L2
open Rp (rp)
open Ra (ra)
open Ob (ob)
/-! ### an exception that was caught, as a thing -/
structure Exv where
  a : Addr
  oe : Obj
  cn : Str
  dd : Option Addr
structure OneE (x : Exv) : Type where
/-- what was caught -/
structure ExG (K : PySem.W.Frag) (x : Exv) : Prop where
  z : Zc (.ref (He.ga K x.cn)) x.dd x.oe
  f : ∃ vs, x.oe.data = .fields vs
def ExD (x : Exv) (H : Hp) : Prop := x.dd = none ∨ ∃ d fs, x.dd = some d ∧ H d = some (.xd fs)
/-- a name holds it -/
structure ExF (x : Exv) (K : PySem.W.Frag) (H : Hp) (v : V) : Prop where
  r : v = .ref x.a
  g : ExG K x
  d : ExD x H
section
variable {x : Exv} {X : Cx} {K : PySem.W.Frag} {e a b c d : Expr} {es : List Expr} {σ : L2.St} {F H F0 H0 : Hp} {pos : Pos}
instance : Rp (OneE x) := ⟨fun K F v _ => v = .ref x.a, fun s h => h⟩
instance : NN (OneE x) := ⟨fun h => nomatch h⟩
/-- it stands at each state -/
def ExA (X : Cx) (x : Exv) : Prop := ∀ pins σ H s, Inv X pins σ H s → s.heap.get? x.a = some x.oe ∧ H x.a = none ∧ x.a ∉ frs X.stack
theorem ExD.up {F' H' : Hp} (h : ExD x H) (g : Gr F H F' H') : ExD x H' := h.imp id fun ⟨d, fs, e, hd⟩ => ⟨d, fs, e, g.hh.k _ _ hd trivial⟩
theorem ExF.up {v : V} {F' H' : Hp} (h : ExF x K H v) (g : Gr F H F' H') : ExF x K H' v := ⟨h.r, h.g, h.d.up g⟩
theorem exA_of (h : (x.a, x.oe) ∈ X.pn) : ExA X x := fun pins σ H s I => by
  obtain ⟨h1, h2, h3, h4, h5⟩ := I.pin (x.a, x.oe) (List.mem_append_left _ h)
  exact ⟨h1, h2, fun z => (List.mem_cons.mp (I.stkSub x.a z)).elim h3 h4⟩
theorem exA_suite {oe : Obj} {pn : List (Addr × Obj)} {q : Addr} {cn : Str} {dd : Option Addr} : ExA (X.suite q ((q, oe) :: pn)) ⟨q, oe, cn, dd⟩ := exA_of List.mem_cons_self
theorem pin_of {pins : List (Addr × Obj)} {s : Shared} (h : (x.a, x.oe) ∈ X.pn) (I : Inv X pins σ H s) : L2H.PinOk X.stack H s (x.a, x.oe) := by
  obtain ⟨h1, h2, h3, h4, h5⟩ := I.pin (x.a, x.oe) (List.mem_append_left _ h)
  exact ⟨h1, h2, fun z => (List.mem_cons.mp (I.stkSub x.a z)).elim h3 h4, h5⟩
/-- a def to which the caught exception is handed, within the suite -/
structure FnOkE (x : Exv) (P : Program) (w : World) (K : PySem.W.Frag) (mg : Str → Option Value) (base : Heap) (CX : CXT) (k : Nat) (f : Addr) (fd : FuncData) (ps : List Str) (sp : Sp) : Prop where
  len : ∀ vs H Q E, sp vs H Q E → vs.length = ps.length
  run : ∀ (A : Around) (outer : List Env) (s : Shared) (H : Hp) (args : Args) (us : List Value) (vs : List V) (Q : VK) (E : XK), L2H.RoomH k A → L2H.PinOk outer H s (x.a, x.oe) → ExG K x → ExD x H → Env0 P w K mg base A outer s H → BindsTo s fd args (ps.zip us) → Vals vs us →
    sp vs H Q E → codeAny (model P w) A (.call (.ref f) args) (CR CX outer P w H s Q E) s
theorem fn_okE {P : Program} {w : World} {mg : Str → Option Value} {base : Heap} {τ ρ : Type} [Ra τ] [RaN τ] [Rp ρ] {f : τ → Option ρ} {nm qual : Str} {s0 : Stmt} {pp : Str × Option Str} {fd : FuncData} {N ps : List Str} {k : Nat} (Fn : FunD K nm qual (defArgs s0) (defBody s0) (defScope s0) [] [] (He.fAd K pp) fd) (S : FnScope N ps (defScope s0)) (hn : RaN.n τ = ps.length)
    (hbody : ∀ (cdv : Value) (A : Around) (outer : List Env) (s : Shared) (F H : Hp) (vs : List V) (a : τ) (r : ρ) (D : Ends) (E : XK), L2H.RoomH k (A.deeper (envOfC qual (defScope s0) s.heap.objs.size (He.fAd K pp) cdv)) → ExG K x → ExD x H → SmX K F H → ra K F vs a → f a = some r →
      (∀ F' H' u, GrX K F H F' H' → rp K F' u r → D.rt u H') → (∀ σ' F' H', GrX K F H F' H' → rp K F' .non r → D.nx σ' H') → GoS (L2H.cxH CX0 P w K mg base N qual (defScope s0) (He.fAd K pp) cdv A outer s H E (x.a, x.oe)).nox (defBody s0) D (start N vs) H) :
    FnOkE x P w K mg base CX0 (k + 1) (He.fAd K pp) fd ps (Pr K f) := by
  obtain ⟨oc, od, dV, kV, doc, pm, an, cdv, ct, osl, rfl, lk, hcd, _, _⟩ := Fn.ex
  have len : ∀ vs H Q E, Pr K f vs H Q E → vs.length = ps.length := fun vs H Q E ⟨F, a, r, _, ra', _⟩ => by rw [RaN.len ra', hn]
  refine ⟨len, fun A outer s H args us vs Q E hr pin hg hd env0 bnd rv hsp => ?_⟩
  have keep0 : ∀ q o, base.get? q = some o → s.heap.get? q = some o := fun q o h => (env0.bs q o h).1
  have inK := env0.mod.kin.keeps keep0
  have noLim : s.heap.NoLimit := env0.mod.nolimit.keeps keep0
  have kinds : ∀ y ∈ ps.zip us, (defScope s0).names.lookup y.1 = some .local ∨ ((defScope s0).names.lookup y.1 = some .cell ∧ ((cellsFrom (s.heap.objs.size + 1) (defScope s0).names []).lookup y.1).isSome = true) := by
    rintro ⟨n, v⟩ hy
    exact (S.par n (List.of_mem_zip hy).1).imp id fun q => ⟨q, PySem.W.cellsFrom_some _ _ _ (.inl q)⟩
  refine codeAny_call_function hr.depth (inK _ _ lk) rfl S.co S.gen rfl (PySem.W.codeRec_of inK hcd) (bnd _ _ _ _ (wpAny_newFunctionEnv_cells S.kind kinds fun env1 he1 s1 made => ?_))
  subst he1
  refine ⟨noLim.keeps made.toInCall.keep, codeAny_func ?_⟩
  have I := L2H.inv_startH (CX := CX0) (E := E) (f := He.fAd K pp) (cd := cdv) (qual := qual) S pin env0 (len _ _ _ _ hsp) rv made
  obtain ⟨F, a, r, sm, ra', hf, k'⟩ := hsp
  have body := (hbody cdv A outer s F H vs a r { nx := fun _ H' => Q .non H', rt := Q } E (hr.deeper _) hg hd sm ra' hf (fun F' H' u g q => k' F' H' u g.toGr q) fun σ' F' H' g q => k' F' H' .non g.toGr q).nox.o [] s1 I
  refine wpAny_mono body (fun fl s2 h2 => ?_) fun _ _ h2 => h2
  match fl, h2 with
  | .ret _, ⟨v1, σ1, H1, J, r1, q1⟩ => exact ⟨v1, H1, J.os, J.bare, J.base, J.hok, r1, q1⟩
  | .next, ⟨σ1, H1, J, q1⟩ => exact ⟨.non, H1, J.os, J.bare, J.base, J.hok, rfl, q1⟩
  | .brk, ⟨_, _, _, q1⟩ => exact q1.elim
  | .cont, ⟨_, _, _, q1⟩ => exact q1.elim
/-- isinstance(e, c) -/
def rIsX (K : PySem.W.Frag) (x : Exv) : List V → Hp → VK → Prop := fun xs H Q => ∃ (c : V) (cv : Value) (b : Bool), xs = [.ref x.a, c] ∧ (∀ u, RelV c u → u = cv) ∧ PySem.W.kitOne K (.ref (He.ga K x.cn)) cv = some b ∧ ExD x H ∧ Q (.bl b) H
theorem call_isX (C : ExcC X.K (He.ga X.K x.cn)) (hA : ExA X x) (hg : ExG X.K x) : CallR X (.builtin "isinstance") (rIsX X.K x) := by
  intro pins s σ H xs us Q I r h
  obtain ⟨c, cv, b, rfl, hcv, e, hd, q⟩ := h
  cases r with
  | cons rx rr =>
    cases rr with
    | cons rt rr =>
      cases rr
      cases rx
      have ec := hcv _ rt
      subst ec
      obtain ⟨hget, _⟩ := hA pins σ H s I
      obtain ⟨vs, hv⟩ := hg.f
      obtain ⟨od, J⟩ : ∃ od, PySem.W.InstAt s.heap x.a x.oe (He.ga X.K x.cn) od := by
        have no : PySem.W.notCls x.oe = true := by unfold PySem.W.notCls; rw [hv] <;> rfl
        rcases hd with e0 | ⟨d, fs, e0, hH⟩
        · exact ⟨none, hget, hg.z.1, no, by rw [hg.z.2, e0]; trivial⟩
        · have hx : ObjOk X.prog X.w H s.heap d (.xd fs) := I.hok d _ hH
          obtain ⟨mA, hns, hr⟩ := hx
          obtain ⟨od, ho, hl⟩ := lookIn_ns hns
          exact ⟨some od, hget, hg.z.1, no, by rw [hg.z.2, e0]; exact ho⟩
      exact PySem.W.kia_one (kitxE C) I.kIn J e (fun z => nomatch z) fun tk => ⟨.bl b, H, I.kept (t' := tk) fun _ _ z => z, rfl, q⟩
theorem ev_isX {v : V} {dn n : Str} {b : Bool} {p1 p2 p3 : Pos} (i : Nat) (C : ExcC X.K (He.ga X.K x.cn)) (hA : ExA X x) (hf : ExF x X.K H v) (hk : PySem.W.kitOne X.K (.ref (He.ga X.K x.cn)) (.ref (He.ga X.K dn)) = some b) (hσ : σ[i]? = some (some v)) (hm : X.mg "isinstance" = none) (hD : X.mg dn = some (.ref (He.ga X.K dn)))
    (hi : X.N[i]? = some n := by rfl) (hv : Vis X.env.scope n := by first | exact Or.inl rfl | exact Or.inr (Or.inl rfl) | exact Or.inr (Or.inr rfl)) (hdn : (n == ("__debug__" : Str)) = false := by decide) (hcd : (n == ("__classdict__" : Str)) = false := by decide)
    (hg : Gl X "isinstance" := by rfl) (hgD : Gl X dn := by rfl) (hd : (dn == ("__debug__" : Str)) = false := by decide)
    (hs : starEach [.Name n p3, .Name dn p2] X.env = (false, eval (.Name n p3) X.env) :: starEach [.Name dn p2] X.env := by rfl) (hs2 : starEach [.Name dn p2] X.env = (false, eval (.Name dn p2) X.env) :: starEach [] X.env := by rfl)
    (hpl : (backTo pos (starEach [.Name dn p2] X.env)).any (·.1) = false := by rfl) : Ev X (.Call (.Name "isinstance" p1) [.Name n p3, .Name dn p2] [] pos) σ F H b := fun F1 H1 g Q q => by
  have hf1 := hf.up g.toGr
  have e := hf1.r
  subst e
  exact GoE.of (pe_callB (call_isX C hA hf1.g) hg hm (by decide +kernel) (pa_cons (pe_var hi hv hdn hcd) (pa_cons (pe_glob (v := .ref (He.ga X.K dn)) hgD hD rfl hd) pa_nil hs2) hs) (by decide) (by decide) hs hpl)
    ⟨_, hσ, _, _, b, rfl, fun u z => z, hk, hf1.d, q _ F1 H1 (.refl g.fh) rfl⟩
theorem ev_isXB {v : V} {n : Str} {b : Bool} {T : String} {p1 p2 p3 : Pos} (i : Nat) (C : ExcC X.K (He.ga X.K x.cn)) (hA : ExA X x) (hf : ExF x X.K H v) (hk : PySem.W.kitOne X.K (.ref (He.ga X.K x.cn)) (.type T) = some b) (hσ : σ[i]? = some (some v)) (hm : X.mg "isinstance" = none) (hT : X.mg (Str.ofString T) = none) (hbT : bootBuiltins (Str.ofString T) = some (.type T))
    (hi : X.N[i]? = some n := by rfl) (hv : Vis X.env.scope n := by first | exact Or.inl rfl | exact Or.inr (Or.inl rfl) | exact Or.inr (Or.inr rfl)) (hdn : (n == ("__debug__" : Str)) = false := by decide) (hcd : (n == ("__classdict__" : Str)) = false := by decide)
    (hg : Gl X "isinstance" := by rfl) (hgT : Gl X (Str.ofString T) := by rfl) (hn : (Str.ofString T) ≠ "__name__" := by decide) (hd : ((Str.ofString T) == ("__debug__" : Str)) = false := by decide)
    (hs : starEach [.Name n p3, .Name (Str.ofString T) p2] X.env = (false, eval (.Name n p3) X.env) :: starEach [.Name (Str.ofString T) p2] X.env := by rfl) (hs2 : starEach [.Name (Str.ofString T) p2] X.env = (false, eval (.Name (Str.ofString T) p2) X.env) :: starEach [] X.env := by rfl)
    (hpl : (backTo pos (starEach [.Name (Str.ofString T) p2] X.env)).any (·.1) = false := by rfl) : Ev X (.Call (.Name "isinstance" p1) [.Name n p3, .Name (Str.ofString T) p2] [] pos) σ F H b := fun F1 H1 g Q q => by
  have hf1 := hf.up g.toGr
  have e := hf1.r
  subst e
  exact GoE.of (pe_callB (call_isX C hA hf1.g) hg hm (by decide +kernel) (pa_cons (pe_var hi hv hdn hcd) (pa_cons (pe_bltn hgT hT hbT (v := .ty T) rfl hn hd) pa_nil hs2) hs) (by decide) (by decide) hs hpl)
    ⟨_, hσ, _, _, b, rfl, fun u z => z, hk, hf1.d, q _ F1 H1 (.refl g.fh) rfl⟩
/-- is an exception of the class c one of .. -/
def isaG (kn subs : List Str) (c : Str) : Option Bool := if c ∈ kn then some (decide (c ∈ subs)) else none
theorem isaG_kit {kn subs : List Str} {c : Str} {b : Bool} {cv : Value} (h : isaG kn subs c = some b) (hk : ∀ c ∈ kn, PySem.W.kitOne K (.ref (He.ga K c)) cv = some (decide (c ∈ subs))) : PySem.W.kitOne K (.ref (He.ga K c)) cv = some b := by
  unfold isaG at h
  split at h
  · rename_i m
    rw [hk c m, h]
  · cases h
theorem isaG_exc {kn subs : List Str} {c : Str} {b : Bool} (h : isaG kn subs c = some b) (hC : ∀ c ∈ kn, ExcC K (He.ga K c)) : ExcC K (He.ga K c) := by
  unfold isaG at h
  split at h
  · rename_i m; exact hC c m
  · cases h
/-- f(.., it, ..) -/
theorem ev_callE {τ ρ : Type} [Ra τ] [Rp ρ] {f : τ → Option ρ} {y : τ} {r : ρ} {k : Nat} {fa : Addr} {fd : FuncData} {ps : List Str} {nm : Str} {p : Pos} {v : V} (Fn : FnOkE x X.prog X.w X.K X.mg X.base CX0 k fa fd ps (Pr X.K f)) (hr : L2H.RoomH k X.A) (hm : X.mg nm = some (.ref fa))
    (hk : PySem.W.keepIn X.K (.ref fa) = true) (hb : Binds X.K fd ps []) (hv : ExF x X.K H v) (hp : (x.a, x.oe) ∈ X.pn) (ha : EvA X (e :: es) σ F H y) (h : f y = some r) (hg : Gl X nm := by rfl) (hdb : (nm == ("__debug__" : Str)) = false := by decide)
    (he : starEach (e :: es) X.env = (false, eval e X.env) :: starEach es X.env := by rfl) (hpl : (backTo pos (starEach es X.env)).any (·.1) = false := by rfl) : Ev X (.Call (.Name nm p) (e :: es) [] pos) σ F H r := fun F1 H1 g Q q => .mk fun pins s I => by
  have ga := ha F1 H1 g (fun vs H2 => Pr X.K f vs H2 Q (fun _ _ _ => False) ∧ ExD x H2) fun vs F2 H2 g2 r2 => ⟨⟨F2, y, r, (g.trans g2).sm, r2, h, fun F3 H3 u g3 r3 => q u F3 H3 (g2.trans g3) r3⟩, (hv.up (g.trans g2).toGr).d⟩
  refine wpAny_Call_Name_kw (ld_glob I hg hm ?_ hdb)
  refine PySem.W.callWith_K (h₀ := X.base) I.ok.mod.kin hk (thn (ga.o pos pins s I) fun us s1 ⟨vs, H1, I1, r1, q1, q2⟩ => ?_) he hpl
  refine ⟨I1.kIn, ?_⟩
  have hl : us.length = ps.length := r1.length.symm.trans (Fn.len _ _ _ _ q1)
  have bnd := hb s1 us I1.kIn (by rw [List.append_nil]; exact hl)
  rw [List.append_nil] at bnd
  refine wpAny_call (codeAny_mono (Fn.run X.A X.stack s1 H1 ⟨us, []⟩ us vs Q (fun _ _ _ => False) hr (pin_of hp I1) hv.g q2 I1.env0 bnd r1 q1) fun o s2 ho => ?_)
  cases o with
  | error _ => exact ho.elim
  | ok fl => cases fl <;> first | exact False.elim ho | exact I1.after ho
/-- the caught one of a class, with one field or none -/
theorem exF_1 {q : Addr} {oe : Obj} {cn fn : Str} {α : Type} [Rp α] {y : α} {cls : Value} {dd : Option Addr} (r : xr1 cn fn K F H cls dd y) (hz : Zc cls dd oe) (hf : ∃ vs, oe.data = .fields vs) : ExF ⟨q, oe, cn, dd⟩ K H (.ref q) := by
  obtain ⟨e, d, v, e2, h3, _⟩ := r
  subst e
  exact ⟨rfl, ⟨hz, hf⟩, .inr ⟨d, _, e2, h3⟩⟩
theorem exF_0 {q : Addr} {oe : Obj} {cn : Str} {cls : Value} {dd : Option Addr} (r : xr0 cn K cls dd) (hz : Zc cls dd oe) (hf : ∃ vs, oe.data = .fields vs) : ExF ⟨q, oe, cn, dd⟩ K H (.ref q) := by
  obtain ⟨e, e2⟩ := r
  subst e
  exact ⟨rfl, ⟨hz, hf⟩, .inl e2⟩
end
end Gx

/-! Gkc: several except clauses, exceptions without texts, exceptions held. -/
namespace Gx
open PySem PySem.Spec PyProof.Rows L2
open Rp (rp)
open Ra (ra)
open Ob (ob)
section
variable {X : Cx} {K : PySem.W.Frag} {e a b c d : Expr} {es : List Expr} {σ : L2.St} {F H F0 H0 : Hp} {pos : Pos} {D : Ends} {st : Stmt} {rest body : List Stmt} {W : WX}
theorem pmk_own0 {C : Addr} {bmB : List Value} {B newId initId : String} {x : Str} {p : Pos} (F : ExcBaseFacts B newId initId bmB) (q : PySem.W.excIn X.K C bmB newId = true) (gC : X.mg x = some (.ref C)) (kC : PySem.W.keepIn X.K (.ref C) = true) (r : Raises X (.ref C)) (hg : Gl X x) (hdb : (x == ("__debug__" : Str)) = false := by decide) :
    PMk X (.Call (.Name x p) [] [] pos) (fun σ H Q => Q (.ref C) none H) := by
  intro pins s σ H Q I h
  refine wpAny_Call_Name_kw (ld_glob I hg gC ?_ hdb)
  refine PySem.W.callWith_K0 I.kIn kC ?_
  show wpAny _ _ (call (.ref C) []) _ _ _
  obtain ⟨bm, N, nm, qn, bs, hdct, sn, sub, ab, col, dd, k0, k1, k2, k3, k5, mN, hC, hN, hni, T⟩ := exc_obj I.kIn q
  refine wpAny_call_exc_subT F T hC hN hni (fun h' e hm => ?_) (by show 0 ≤ sizeLine; exact Nat.zero_le _)
  exact mk_of I hm r h (I.hok.gone hm.new)
theorem go_raise00 {cn : Str} {p pos2 : Pos} (s : SmX X.K F H) (tk : Takes X W) (N1 : XnF X.K cn) (hm : X.mg cn = some (.ref (He.ga X.K cn))) (k : W (.ref (He.ga X.K cn)) none σ H) (hg : Gl X cn := by rfl) (hdb : (cn == ("__debug__" : Str)) = false := by decide) (hc : X.calm = true := by rfl) :
    GoS X (.Raise (some (.Call (.Name cn p) [] [] pos)) none pos2 :: rest) D σ H :=
  GoS.cons (ps_raise hc tk (pmk_own0 PySem.F.excBase_ValueError N1.1 hm N1.2.1 (raises_own N1.2.2.1 N1.2.2.2) hg hdb)) k
/-! ### several clauses -/
def hdT (X : Cx) (b : List Stmt) : Addr → Value → Option Addr → TS := fun a cls d D σ H => ∀ oe pn, Zc cls d oe → (∃ vs, oe.data = .fields vs) → GoS (X.suite a ((a, oe) :: pn)) b D σ H
theorem hd_nil : HdsOk X [] [] := .nil
theorem hd_cons {x : Str} {c : Value} {b₀ : Stmt} {suite : List Stmt} {np pos' : Pos} {hds : List ExceptHandler} {l : List (Value × (Addr → Value → Option Addr → TS))} (hc : Names X x c) (r : HdsOk X hds l) :
    HdsOk X (.ExceptHandler (some (.Name x np)) none (b₀ :: suite) pos' :: hds) ((c, hdT X (b₀ :: suite)) :: l) :=
  .cons hc (fun a oe cls d pn z1 z2 => ⟨fun pins s σ H D I h => (h oe pn z1 z2).o pins s I⟩) r
theorem go_tryM {h₀ : ExceptHandler} {hds : List ExceptHandler} {l : List (Value × (Addr → Value → Option Addr → TS))} (hh : HdsOk X (h₀ :: hds) l)
    (h : ∀ pn xe (W : WX), Takes (X.tr pn xe) W → PassesOwn (model X.prog X.w) X.A X.env xe → (∀ cls dd σ' H', wMany X.K (fun _ _ _ _ => False) { D with nx := GoS X rest D } l cls dd σ' H' → W cls dd σ' H') →
      GoS (X.tr pn xe) body { D with nx := GoS X rest D } σ H)
    (hs : X.stack = X.env :: X.outer := by rfl) (hf : X.env.frame = some X.env.locals := by rfl) (tk : Takes X (fun _ _ _ _ => False) := by exact takes_none5) : GoS X (.Try body (h₀ :: hds) [] [] pos :: rest) D σ H :=
  GoS.cons (ps_try_many (tb := fun W D σ H => ∀ pn xe, Takes (X.tr pn xe) W → PassesOwn (model X.prog X.w) X.A X.env xe → GoS (X.tr pn xe) body D σ H) (Wout := fun _ _ _ _ => False) hs hf tk
    (fun W pn xe t1 t2 => ⟨fun pins s σ H D I h => (h pn xe t1 t2).o pins s I⟩) hh) fun pn xe t1 t2 => h pn xe _ t1 t2 fun _ _ _ _ z => z
theorem wm_no {Wout : WX} {c cls : Value} {ts : Addr → Value → Option Addr → TS} {r : List (Value × (Addr → Value → Option Addr → TS))} {dd : Option Addr} (h : PySem.W.exmOne K cls c = some false) (k : wMany K Wout D r cls dd σ H) : wMany K Wout D ((c, ts) :: r) cls dd σ H :=
  ⟨false, h, (fun z => nomatch z), fun _ => k⟩
theorem wm_yes {Wout : WX} {c cls : Value} {r : List (Value × (Addr → Value → Option Addr → TS))} {dd : Option Addr} {b : List Stmt} (h : PySem.W.exmOne X.K cls c = some true) (k : ∀ a, H a = none → ∀ oe pn, Zc cls dd oe → (∃ vs, oe.data = .fields vs) → GoS (X.suite a ((a, oe) :: pn)) b D σ H) : wMany X.K Wout D ((c, hdT X b) :: r) cls dd σ H :=
  ⟨true, h, (fun _ a ha => k a ha), fun z => nomatch z⟩
theorem xm_ofb {cls c c2 : Value} {b : Bool} (e : cls = c) (h : PySem.W.exmOne K c c2 = some b) : PySem.W.exmOne K cls c2 = some b := e ▸ h
/-! ### an exception that is held -/
structure Xq (cn fn : Str) (α : Type) where
  v : α
instance {cn fn : Str} {α : Type} [Rp α] : Rp (Xq cn fn α) := ⟨fun K F v x => ∃ q d w, v = .ref q ∧ F q = some (exo q (He.ga K cn) (some d)) ∧ F d = some (exd d [(fn, w)]) ∧ rp K F w x.v, fun s ⟨q, d, w, e, h1, h2, r⟩ => ⟨q, d, w, e, s _ _ h1, s _ _ h2, Rp.mono s r⟩⟩
theorem ev_mkX {α : Type} [Rp α] {x : α} {cn fn : Str} {p : Pos} {k : Nat} {fd : FuncData} {ps : List Str} (X1 : XoF X.K cn fn) (hm : X.mg cn = some (.ref (He.ga X.K cn))) (Fn : FnOk X.prog X.w X.K X.mg X.base CX0 k (He.ma X.K (He.ga X.K cn) "__init__") fd ps (PrXI X.K (He.ga X.K cn) fn)) (hr : Room (k + 1) X.A) (hb : Binds X.K fd ps [])
    (he : Ev X e σ F H x) (hg : Gl X cn := by rfl) (hdb : (cn == ("__debug__" : Str)) = false := by decide) (hs : starEach [e] X.env = (false, eval e X.env) :: starEach [] X.env := by rfl) (hpl : (backTo pos (starEach [] X.env)).any (·.1) = false := by rfl) :
    Ev X (.Call (.Name cn p) [e] [] pos) σ F H (Xq.mk x : Xq cn fn α) := fun F1 H1 g Q q => .mk fun pins s I => by
  obtain ⟨nm, qn, N, bs, bm, sn, sub, ab, col, dd, k0, k1, k2, k3, k5, hC, hbm⟩ := X1.T.cls
  have ga := he F1 H1 g (fun w H2 => ∃ F2, Gr F1 H1 F2 H2 ∧ rp X.K F2 w x) fun w F2 H2 g2 r2 => ⟨F2, g2, r2⟩
  refine wpAny_Call_Name_kw (ld_glob I hg hm ?_ hdb)
  refine PySem.W.callWith_K (h₀ := X.base) I.ok.mod.kin X1.T.kC (one_arg (pe_go (X := X)) I ga (fun v1 s1 w H2 I1 rw1 hP => ⟨I1.kIn, ?_⟩) hs) hs hpl
  show wpAny _ _ (call (.ref (He.ga X.K cn)) [v1]) _ _ _
  obtain ⟨F2, g2, r2⟩ := hP
  obtain ⟨hp, gg, dr, tk, os⟩ := s1
  generalize hCa : He.ga X.K cn = C at *
  have hsz : hp.objs.size ≤ hp.objs.size + 1 := Nat.le_succ _
  have hn : H2 (hp.objs.size + 1) = none := I1.hok.fresh hsz
  have kk : Kp hp ((hp.push (PySem.W.kdv_tup [v1])).push (PySem.HandSPX.excO C hp.objs.size)) := fun b o e => Heap.get?_push_of_some _ (Heap.get?_push_of_some _ e)
  have hget : ((hp.push (PySem.W.kdv_tup [v1])).push (PySem.HandSPX.excO C hp.objs.size)).get? (hp.objs.size + 1) = some (PySem.HandSPX.excO C hp.objs.size) := by heap_get
  have I2 : Inv X pins σ (upd H2 (hp.objs.size + 1) (exo (hp.objs.size + 1) C none)) ⟨(hp.push (PySem.W.kdv_tup [v1])).push (PySem.HandSPX.excO C hp.objs.size), gg, dr, tk, os⟩ := I1.laid (t' := tk) kk hsz (exo_ok hget)
  have spec : PrXI X.K C fn [.ref (hp.objs.size + 1), w] (upd H2 (hp.objs.size + 1) (exo (hp.objs.size + 1) C none)) (fun u H3 => u = .non ∧ Q (.ref (hp.objs.size + 1)) H3) (fun _ _ _ => False) := ⟨hp.objs.size + 1, w, rfl, upd_same, fun d hd hda => by
    rw [upd_ne hda] at hd
    have e1 : upd (upd (upd H2 (hp.objs.size + 1) (exo (hp.objs.size + 1) C none)) d (exd d [(fn, w)])) (hp.objs.size + 1) (exo (hp.objs.size + 1) C (some d)) = upd (upd H2 d (exd d [(fn, w)])) (hp.objs.size + 1) (exo (hp.objs.size + 1) C (some d)) := by
      funext b
      by_cases h1 : b = hp.objs.size + 1
      · subst h1; rw [upd_same, upd_same]
      · rw [upd_ne h1, upd_ne h1]
        by_cases h2 : b = d
        · subst h2; rw [upd_same, upd_same]
        · rw [upd_ne h2, upd_ne h2, upd_ne h1]
    rw [e1]
    have g3 : Gr F2 H2 (upd F2 d (exd d [(fn, w)])) (upd H2 d (exd d [(fn, w)])) := Gr.new g2.fh hd
    have hn2 : (upd H2 d (exd d [(fn, w)])) (hp.objs.size + 1) = none := by rw [upd_ne (fun z => hda z.symm)]; exact hn
    have g4 : Gr (upd F2 d (exd d [(fn, w)])) (upd H2 d (exd d [(fn, w)])) (upd (upd F2 d (exd d [(fn, w)])) (hp.objs.size + 1) (exo (hp.objs.size + 1) C (some d))) (upd (upd H2 d (exd d [(fn, w)])) (hp.objs.size + 1) (exo (hp.objs.size + 1) C (some d))) := Gr.new g3.fh hn2
    refine ⟨rfl, ?_⟩
    exact q _ _ _ ((g2.trans g3).trans g4) ⟨hp.objs.size + 1, d, w, rfl, by rw [upd_same, hCa], by rw [upd_ne hda, upd_same], Rp.mono (g3.ff.trans g4.ff) r2⟩⟩
  have iC : PySem.W.findIn X.K (.ref C) "__init__" = some (some (.ref (He.ma X.K C "__init__"))) := hCa ▸ X1.iC
  have tI : PySem.W.typeIn X.K (.ref (He.ma X.K C "__init__")) = some (.type "function") := hCa ▸ X1.tI
  have hl : (Value.ref (hp.objs.size + 1) :: [v1] ++ []).length = ps.length := by
    have e := Fn.len _ _ _ _ spec
    rw [← e]; rfl
  refine wpAny_call (PySem.HandSPX.call_own PySem.F.excBase_ValueError (fun Y => PySem.HandSPX.refsVE_contains Y bm hbm) (I1.kIn _ _ hC) (PySem.W.looks_findIn I1.kIn iC) (fun self => PySem.W.bind_fn I1.kIn self tI) (by show 1 ≤ sizeLine; decide)
    (codeAny_mono (Fn.run _ X.stack _ _ ⟨Value.ref (hp.objs.size + 1) :: [v1], []⟩ (Value.ref (hp.objs.size + 1) :: [v1] ++ []) [.ref (hp.objs.size + 1), w] _ (fun _ _ _ => False) (hr.make C [v1] []) (I2.env0.make C [v1] []) (hb _ (Value.ref (hp.objs.size + 1) :: [v1]) I2.kIn hl) (.cons rfl (.cons rw1 .nil)) spec) fun r s' hq' => ?_))
  cases r with
  | error er => exact hq'.elim
  | ok fl =>
    cases fl with
    | ret u =>
      obtain ⟨v, H3, I3, rv, ev, q3⟩ := I2.after hq'
      subst ev
      exact ⟨rv, .ref (hp.objs.size + 1), H3, ⟨I3.ok, I3.os, I3.bare, I3.base, I3.loc, I3.cell, I3.free, I3.freeC, I3.pin, I3.hok, I3.len⟩, rfl, q3⟩
    | next => exact False.elim hq'
    | brk => exact False.elim hq'
    | cont => exact False.elim hq'
theorem ev_xq {α : Type} [Rp α] {y : α} {cn fn : Str} {x : Xq cn fn α} (X1 : XoF X.K cn fn) (he : Ev X e σ F H x) (hy : x.v = y) (hb : attributeBase e fn X.env (eval e X.env) = eval e X.env := by rfl) : Ev X (.Attribute e fn pos) σ F H y := fun F1 H1 g Q q => .mk fun pins s I => by
  refine attr_of hb (thn ((he F1 H1 g (fun w H2 => ∃ F2, Gr F1 H1 F2 H2 ∧ rp X.K F2 w x) fun w F2 H2 g2 r2 => ⟨F2, g2, r2⟩).o pins s I) fun u s1 hh => ?_)
  obtain ⟨w, H2, I1, rx, F2, g2, a, d, z, e1, h1, h2, r⟩ := hh
  subst e1
  obtain rfl : u = Value.ref a := rx
  have ha : ObjOk X.prog X.w H2 s1.heap a (exo a (He.ga X.K cn) (some d)) := I1.hok a _ (g2.fh _ _ h1)
  have hd : ObjOk X.prog X.w H2 s1.heap d (exd d [(fn, z)]) := I1.hok d _ (g2.fh _ _ h2)
  obtain ⟨⟨t1, hget⟩, _⟩ := ha
  obtain ⟨⟨mA, hns, hr⟩, _⟩ := hd
  obtain ⟨od, ho, hl⟩ := lookIn_ns hns
  obtain ⟨v, hv, rv⟩ := RelO.some_of (v := z) (o := mA fn) (by have := hr fn; simpa [List.lookup] using this)
  have J : PySem.W.InstAt s1.heap a _ (He.ga X.K cn) (some od) := ⟨hget, rfl, rfl, ho⟩
  exact HandSPX.exc_get I1.kIn J X1.xf.ga X1.xf.gg X1.xf.exC (PySem.W.findObj_own X1.xf.hdC X1.no rfl (by rw [hl, hv])) (handed_of rv) ⟨z, H2, I1.tok _, rv, q z F2 H2 g2 (hy ▸ r)⟩
end
end Gx

/-! Gkd: a record whose last field holds a private list. -/
namespace Gx
open PySem PySem.Spec PyProof.Rows L2
open Rp (rp)
open Ra (ra)
open Ob (ob)
/-- v is the record of the class cn with the fields n1 (x) and n2 (what is at l) -/
def CR {α : Type} [Rp α] (cn n1 n2 : Str) (K : PySem.W.Frag) (F : Hp) (v : V) (l : Addr) (x : α) : Prop := ∃ a dx w, v = .ref a ∧ F a = some (.ins (He.ga K cn) dx (List.zip [n1, n2] [w, .ref l])) ∧ rp K F w x
theorem CR.mono {α : Type} [Rp α] {cn n1 n2 : Str} {K : PySem.W.Frag} {F F' : Hp} {v : V} {l : Addr} {x : α} (h : CR cn n1 n2 K F v l x) (s : L2.Same F F') : CR cn n1 n2 K F' v l x := by
  obtain ⟨a, dx, w, e, t, r⟩ := h
  exact ⟨a, dx, w, e, s _ _ t, Rp.mono s r⟩
theorem CR.rp {α γ : Type} [Rp α] [Rp γ] {cn n1 n2 : Str} {K : PySem.W.Frag} {F : Hp} {v : V} {l : Addr} {x : α} {y : γ} (h : CR cn n1 n2 K F v l x) (r : Rp.rp K F (.ref l) y) : rpI cn [n1, n2] K F v ((x, y, ()) : α × γ × Unit) := by
  obtain ⟨a, dx, w, e, t, rw'⟩ := h
  exact ⟨a, dx, [w, .ref l], e, t, w, _, rfl, rw', .ref l, _, rfl, r, rfl⟩
section
variable {X : Cx} {K : PySem.W.Frag} {e a b c d : Expr} {es : List Expr} {σ : L2.St} {F H F0 H0 : Hp} {pos : Pos} {D : Ends} {st : Stmt} {rest body : List Stmt} {α γ : Type} [Rp α] [Rp γ] {x : α} {ys : List γ} {cn n1 n2 : Str}
/-- e gives a new record with a new list -/
def EvRN (cn n1 n2 : Str) (X : Cx) (e : Expr) (σ : L2.St) (F H : Hp) (x : α) (ys : List γ) : Prop := ∀ F1 H1, GrX X.K F H F1 H1 → ∀ Q : VK, (∀ u l o F2 H2, Gr F1 H1 F2 H2 → H1 l = none → F2 l = none → H2 l = some o → ob X.K F2 o ys → CR cn n1 n2 X.K F2 u l x → Q u H2) → GoE X e σ H1 Q
/-- the promise of an __init__ whose last field is a new list -/
def PrIN (n1 n2 : Str) (K : PySem.W.Frag) (C : Addr) {τ : Type} [Ra τ] (f : τ → Option (T2 α (List γ))) : Sp := fun vs H Q _ => ∃ F x dx args a r, vs = .ref x :: args ∧ SmX K F H ∧ F x = none ∧ H x = some (.ins C dx []) ∧ ra K F args a ∧ f a = some r ∧
  ∀ F' H' w l o, Gr F (er H x) F' H' → F' x = none → H' x = some (.ins C dx (List.zip [n1, n2] [w, .ref l])) → rp K F' w r.a → er H x l = none → F' l = none → H' l = some o → ob K F' o r.b → Q .non H'
theorem go_fldN {x : Addr} {C dx : Addr} {names : List Str} {vs : List V} {fn n : Str} {p1 p2 : Pos} (i : Nat) (s : SmX X.K F H) (fx : F x = none) (hx : H x = some (.ins C dx (names.zip vs))) (hl : names.length = vs.length) (hn : names.length < 1000) (hf : fn ∉ names) (c : Cls X.K C) (na : NoAttr X.K C fn)
    (hσ : σ[i]? = some (some (.ref x))) (he : EvN X e σ F H ys) (k : ∀ l o F' H', Gr F H F' H' → H l = none → F' l = none → H' l = some o → ob X.K F' o ys → F' x = none → H' x = some (.ins C dx (names.zip vs)) → GoS X rest D σ (upd H' x (.ins C dx ((names ++ [fn]).zip (vs ++ [.ref l]))))) (hN : X.N[i]? = some n := by rfl) (hv : Vis X.env.scope n := by first | exact Or.inl rfl | exact Or.inr (Or.inl rfl) | exact Or.inr (Or.inr rfl))
    (hd : (n == ("__debug__" : Str)) = false := by decide) (hcd : (n == ("__classdict__" : Str)) = false := by decide) (hs : swapsWith e (some (.Attribute (.Name n p1) fn p2)) pos.line X.env = pure false := by rfl) : GoS X (.Assign [.Attribute (.Name n p1) fn p2] e pos :: rest) D σ H :=
  GoS.cons (ps_fld (pe_var hN hv hd hcd) pe_go hs) (he F H (.refl s) _ fun l o F2 H2 g2 n2 f2 h2 r2 => by
    have hx2 := g2.hh.k _ _ hx trivial
    refine ⟨_, hσ, x, C, dx, _, rfl, hx2, c, na, ?_, ?_⟩
    · rw [List.length_zip]; omega
    · rw [putF_new (by rw [zip_names hl]; exact hf), zip_snoc hl]
      exact k l o F2 H2 g2 n2 f2 h2 r2 ((g2.fr x _ hx trivial).trans fx) hx2)
theorem fn_initN {P : Program} {w : World} {mg : Str → Option Value} {base : Heap} {τ : Type} [Ra τ] [RaN τ] {f : τ → Option (T2 α (List γ))} {C : Addr} {x qual : Str} {s0 : Stmt} {fa : Addr} {fd : FuncData} {N ps : List Str} {k : Nat} (Fn : FunD K x qual (defArgs s0) (defBody s0) (defScope s0) [] [] fa fd) (S : FnScope N ps (defScope s0)) (hn : RaN.n τ + 1 = ps.length)
    (hbody : ∀ (cdv : Value) (A : Around) (outer : List Env) (s : Shared) (F H : Hp) (y dx : Addr) (vs : List V) (a : τ) (r : T2 α (List γ)) (D : Ends) (E : XK), Room k (A.deeper (envOfC qual (defScope s0) s.heap.objs.size fa cdv)) → GrX K F (er H y) F H → F y = none → H y = some (.ins C dx []) → ra K F vs a → f a = some r →
      (∀ σ' F' H' w l o, GrX K F (er H y) F' H' → F' y = none → H' y = some (.ins C dx (List.zip [n1, n2] [w, .ref l])) → rp K F' w r.a → er H y l = none → F' l = none → H' l = some o → ob K F' o r.b → D.nx σ' H') → GoS (cxOf CX0 P w K mg base N qual (defScope s0) fa cdv A outer s H E).nox (defBody s0) D (start N (.ref y :: vs)) H) :
    FnOk P w K mg base CX0 (k + 1) fa fd ps (PrIN n1 n2 K C f) := by
  refine Fn.ok S (fun vs H Q E ⟨F, y, dx, args, a, r, e, _, _, _, ra', _⟩ => by rw [e, List.length_cons, RaN.len ra', hn]) fun cdv A outer s H vs Q E hr ⟨F, y, dx, args, a, r, e, sm, fy, hy, ra', hf, k⟩ => ?_
  subst e
  exact ⟨_, PSs.nox pss_go, hbody cdv A outer s F H y dx args a r { nx := fun _ H' => Q .non H', rt := Q } E hr ⟨Gr.start sm.s fy ⟨_, hy, trivial⟩, sm.h⟩ fy hy ra' hf fun σ' F' H' w l o g f' h' r' n f2 h2 b => k F' H' w l o g.toGr f' h' r' n f2 h2 b⟩
theorem ern_make {τ : Type} [Ra τ] {f : τ → Option (T2 α (List γ))} {y : τ} {r : T2 α (List γ)} {k : Nat} {fa : Addr} {fd : FuncData} {ps : List Str} {x : Str} {p : Pos} (M : Mk X.K (He.ga X.K cn) fa) (Fn : FnOk X.prog X.w X.K X.mg X.base CX0 k fa fd ps (PrIN n1 n2 X.K (He.ga X.K cn) f)) (hr : Room (k + 1) X.A)
    (hm : X.mg x = some (.ref (He.ga X.K cn))) (hb : Binds X.K fd ps []) (ha : EvA X (e :: es) σ F H y) (h : f y = some r) (hg : Gl X x := by rfl) (hdb : (x == ("__debug__" : Str)) = false := by decide)
    (he : starEach (e :: es) X.env = (false, eval e X.env) :: starEach es X.env := by rfl) (hpl : (backTo pos (starEach es X.env)).any (·.1) = false := by rfl) : EvRN cn n1 n2 X (.Call (.Name x p) (e :: es) [] pos) σ F H r.a r.b := fun F1 H1 g Q q =>
  GoE.of (pe_make M Fn hr hg hm hb .nil pass0 pa_go hdb he hpl) (ha F1 H1 g _ fun vs F2 H2 g2 r2 => by
    intro o dx ho hdx hne
    have so : H2 dx = none := hdx
    have g3 : Gr F2 H2 (upd F2 dx (.own o)) (upd H2 dx (.own o)) := Gr.new g2.fh hdx trivial
    have ho3 : upd H2 dx (.own o) o = none := by rw [upd_ne (fun z => hne z.symm)]; exact ho
    have fo3 : upd F2 dx (.own o) o = none := by rw [upd_ne (fun z => hne z.symm)]; exact g2.fh.free ho
    have g4 := Gr.newP (o := .ins (He.ga X.K cn) dx []) g3.fh ho3 trivial
    refine ⟨upd F2 dx (.own o), o, dx, vs, y, r, by rw [List.append_nil], (g.trans g2).sm.up (g3.trans g4), fo3, upd_same, Ra.mono g3.ff r2, h, fun F' H' w l lo g5 f5 h5 r5 n5 f6 h6 b6 => ⟨rfl, ?_⟩⟩
    have g6 : Gr F1 H1 F' H' := (((g2.trans g3).trans g4)).over (g2.hh.free ho) g5 ⟨_, upd_same, trivial⟩
    have g7 := g6.freeze (o := .ins (He.ga X.K cn) dx (List.zip [n1, n2] [w, .ref l])) (g2.hh.free ho) f5 ⟨_, h5, trivial⟩ trivial
    have e7 : upd H' o (.ins (He.ga X.K cn) dx (List.zip [n1, n2] [w, .ref l])) = H' := by
      funext b
      by_cases hb : b = o
      · rw [hb, upd_same, h5]
      · rw [upd_ne hb]
    rw [e7] at g7
    have hlo : l ≠ o := fun z => by
      obtain ⟨us, e1, _⟩ := b6
      subst z; rw [h5] at h6; cases h6; cases e1
    have n6 : H1 l = none := by
      refine g2.hh.free (g3.hh.free ?_)
      unfold er at n5
      rw [if_neg hlo, upd_ne hlo] at n5
      exact n5
    exact q (.ref o) l lo _ H' g7 n6 (by rw [upd_ne hlo]; exact f6) h6 (Ob.mono (same_upd f5) b6) ⟨o, dx, w, rfl, upd_same, Rp.mono (same_upd f5) r5⟩)
theorem go_setRN {n : Str} {p : Pos} (i : Nat) (s : SmX X.K F H) (he : EvRN cn n1 n2 X e σ F H x ys) (k : ∀ u l o F' H', Gr F H F' H' → H l = none → F' l = none → H' l = some o → ob X.K F' o ys → CR cn n1 n2 X.K F' u l x → GoS X rest D (σ.set i (some u)) H') (hN : X.N.Nodup) (hi : X.N[i]? = some n := by rfl)
    (hx : Loc X.env.scope n := by first | exact Or.inl rfl | exact Or.inr rfl) (hs : swapsWith e (some (.Name n p)) pos.line X.env = pure false := by rfl) (hf : X.fn n = true ∨ X.env.scope.names.lookup n = some .local := by first | exact .inl rfl | exact .inr rfl) :
    GoS X (.Assign [.Name n p] e pos :: rest) D σ H :=
  GoS.cons (ps_set hN hi hx pe_go hs hf) (he F H (.refl s) _ fun u l o F2 H2 g n f h r c => k u l o F2 H2 g n f h r c)
section
variable {zs : List γ} {l : Addr} {v : V} {n : Str} {p1 p2 p3 p4 : Pos}
/-- v.n2.pop() -/
theorem em_popR {r : γ × List γ} (i : Nat) (o : Own X.K H0 F H l zs) (ct : CR cn n1 n2 X.K F v l x) (c : Cls X.K (He.ga X.K cn)) (na : NoAttr X.K (He.ga X.K cn) n2) (hne : (n2 == n1) = false) (hσ : σ[i]? = some (some v)) (h : popE zs = some r) (hN : X.N[i]? = some n := by rfl) (hv : Vis X.env.scope n := by first | exact Or.inl rfl | exact Or.inr (Or.inl rfl) | exact Or.inr (Or.inr rfl))
    (hd : (n == ("__debug__" : Str)) = false := by decide) (hcd : (n == ("__classdict__" : Str)) = false := by decide) (hb0 : attributeBase (.Name n p1) n2 X.env (eval (.Name n p1) X.env) = eval (.Name n p1) X.env := by rfl)
    (hbase : attributeBase (.Attribute (.Name n p1) n2 p4) "pop" X.env (eval (.Attribute (.Name n p1) n2 p4) X.env) = eval (.Attribute (.Name n p1) n2 p4) X.env := by rfl) (hline : (p2.endLine == p3.line) = true := by rfl) :
    EvM X (.Call (.Attribute (.Attribute (.Name n p1) n2 p4) "pop" p2) [] [] p3) σ F H l r.1 r.2 := fun F1 H1 g Q q => by
  have o1 := o.up g.toGr
  obtain ⟨_, hl, vs, rfl, rs⟩ := o1.h
  obtain ⟨hy, e2⟩ := popE_of h
  obtain ⟨a, dx, w, ev, tf, rw'⟩ := ct.mono g.ff
  refine GoE.of (pe_bm0 PySem.F.plainAttrs_list PySem.F.slot_list_pop PySem.F.type_list_pop mt_pop (pe_fld (pe_var hN hv hd hcd) hb0) hbase hline) ?_
  obtain ⟨y, hy1, ry⟩ := rs.get hy
  refine ⟨v, hσ, a, _, dx, _, .ref l, ev, g.fh _ _ tf, c, na, by simp [List.zip, List.lookup, hne], .inl ⟨rfl, _, SqL.of hl⟩, l, vs, y, rfl, rfl, hl, by rw [rs.length]; exact hy1, ?_⟩
  exact q y F1 _ _ (o1.erl (.refl g.fh) (fun b hb => upd_ne hb) (no_upd trivial)) o1.f upd_same (by rw [e2]; exact ob_lst rs.dropLast) ry
/-- v.n2.clear() -/
theorem em_clearR (i : Nat) (o : Own X.K H0 F H l zs) (ct : CR cn n1 n2 X.K F v l x) (c : Cls X.K (He.ga X.K cn)) (na : NoAttr X.K (He.ga X.K cn) n2) (hne : (n2 == n1) = false) (hσ : σ[i]? = some (some v)) (hN : X.N[i]? = some n := by rfl) (hv : Vis X.env.scope n := by first | exact Or.inl rfl | exact Or.inr (Or.inl rfl) | exact Or.inr (Or.inr rfl))
    (hd : (n == ("__debug__" : Str)) = false := by decide) (hcd : (n == ("__classdict__" : Str)) = false := by decide) (hb0 : attributeBase (.Name n p1) n2 X.env (eval (.Name n p1) X.env) = eval (.Name n p1) X.env := by rfl)
    (hbase : attributeBase (.Attribute (.Name n p1) n2 p4) "clear" X.env (eval (.Attribute (.Name n p1) n2 p4) X.env) = eval (.Attribute (.Name n p1) n2 p4) X.env := by rfl) (hline : (p2.endLine == p3.line) = true := by rfl) :
    EvM X (.Call (.Attribute (.Attribute (.Name n p1) n2 p4) "clear" p2) [] [] p3) σ F H l () ([] : List γ) := fun F1 H1 g Q q => by
  have o1 := o.up g.toGr
  obtain ⟨_, hl, vs, rfl, rs⟩ := o1.h
  obtain ⟨a, dx, w, ev, tf, rw'⟩ := ct.mono g.ff
  refine GoE.of (pe_bm0 PySem.F.plainAttrs_list PySem.F.slot_list_clear PySem.F.type_list_clear mt_clear (pe_fld (pe_var hN hv hd hcd) hb0) hbase hline) ?_
  exact ⟨v, hσ, a, _, dx, _, .ref l, ev, g.fh _ _ tf, c, na, by simp [List.zip, List.lookup, hne], .inl ⟨rfl, _, SqL.of hl⟩, l, vs, rfl, rfl, hl, q .non F1 _ _ (o1.erl (.refl g.fh) (fun b hb => upd_ne hb) (no_upd trivial)) o1.f upd_same (ob_lst .nil) rfl⟩
end
end
end Gx
namespace Gx
open PySem PySem.Spec PyProof.Rows L2
open Rp (rp)
open Ra (ra)
open Ob (ob)
/-! ### sorted(xs), xs a short list of ints -/
def srtI (xs : List Int) : Option (List Int) := if xs.length < 64 then some (xs.mergeSort fun a b => decide (a ≤ b)) else none
theorem srt_uniq {xs ys : List Int} (hp : ys.Perm xs) (hs : ys.Pairwise (· ≤ ·)) : ys = xs.mergeSort fun a b => decide (a ≤ b) := by
  have h1 : (xs.mergeSort fun a b => decide (a ≤ b)).Pairwise (· ≤ ·) := by
    have := List.pairwise_mergeSort (le := fun (a b : Int) => decide (a ≤ b)) (fun a b c h1 h2 => by simp only [decide_eq_true_eq] at *; omega) (fun a b => by simp only [Bool.or_eq_true, decide_eq_true_eq]; omega) xs
    exact this.imp fun h => of_decide_eq_true h
  exact List.Perm.eq_of_pairwise (le := fun a b : Int => a ≤ b) (fun a b _ _ h1 h2 => Int.le_antisymm h1 h2) hs h1 (hp.trans (List.mergeSort_perm _ _).symm)
theorem en_sortI {X : Cx} {a : Expr} {σ : L2.St} {F H : Hp} {pos : Pos} {xs r : List Int} {p : Pos} (hm : X.mg "sorted" = none) (ha : Ev X a σ F H xs) (h : srtI xs = some r) (hg : Gl X "sorted" := by rfl) (hs : starEach [a] X.env = (false, eval a X.env) :: starEach [] X.env := by rfl) :
    EvN X (.Call (.Name "sorted" p) [a] [] pos) σ F H r := fun F1 H1 g Q q => by
  unfold srtI at h; split at h
  · rename_i hl
    cases Option.some.inj h
    exact GoE.of (pe_callB cr_sorted hg hm boot_sorted (pa_cons pe_go pa_nil hs) (by decide) (by decide) hs rfl) (ha F1 H1 g _ fun v F2 H2 g2 ⟨l, vs, e, sq, rs⟩ => ⟨l, xs, by rw [e], by rw [← rps_ints rs]; exact g2.fh.seq sq, hl, fun ys p h1 h2 hp => EvN.new q g2 hp (by rw [← srt_uniq h1 h2]; exact rps_intsV)⟩)
  · cases h
end Gx
namespace Gx
open PySem PySem.Spec PyProof.Rows L2
open Rp (rp)
open Ra (ra)
open Ob (ob)
/-! ### zip of a tuple and a list -/
def ItzM (K : PySem.W.Frag) (a b : Addr) : It :=
  ⟨fun i H => ∃ (xs ys : List V) (x y : V), SqT K H a xs ∧ SqL K H b ys ∧ xs[i]? = some x ∧ ys[i]? = some y,
    fun i H v H' => ∃ T x y, v = .ref T ∧ H T = none ∧ H' = upd H T (.tup [x, y]) ∧ (∀ xs, SqT K H a xs → xs[i]? = some x) ∧ ∀ ys, SqL K H b ys → ys[i]? = some y,
    fun i H => ∃ xs ys : List V, SqT K H a xs ∧ SqL K H b ys ∧ i ≤ xs.length ∧ i ≤ ys.length ∧ (i = xs.length ∨ i = ys.length)⟩
def stM (z TI TO i1 i2 a b : Addr) (i : Nat) (h : Heap) : Prop := IsZip h z TI TO .none ∧ IsTupOf2 h TI (.ref i1) (.ref i2) ∧ (∃ x y, IsTupOf2 h TO x y) ∧ h.IsTupleIter i1 a i ∧ h.IsListIter i2 b i
theorem mem5 {c z TI TO i1 i2 : Addr} (h : c ∈ [z, TI, TO, i1, i2]) : c = z ∨ c = TI ∨ c = TO ∨ c = i1 ∨ c = i2 := by simpa using h
theorem turn_zipM {P : Program} {w : World} {K : PySem.W.Frag} {elts : List Expr} {kk : Nat} {tpos : Pos} {a b z TI TO i1 i2 : Addr} (S : ZipSep2 z TI TO i1 i2 [i1, a] [i2, b]) (na : a ≠ i1) (nb : b ≠ i2) :
    Turn P w K (.Tuple elts kk tpos) (ItzM K a b) [z, TI, TO, i1, i2] z (stM z TI TO i1 i2 a b) where
  mem := List.mem_cons_self
  obj := fun i h ⟨hz, hTI, ⟨x, y, hTO⟩, ⟨o1, e1, _, d1⟩, ⟨o2, e2, _, d2⟩⟩ c hc => by
    rcases mem5 hc with q | q | q | q | q <;> rw [q]
    · exact ⟨_, hz, fun v q => nomatch q⟩
    · exact ⟨_, hTI, fun v q => nomatch q⟩
    · exact ⟨_, hTO, fun v q => nomatch q⟩
    · exact ⟨o1, e1, fun v q => by rw [d1] at q; cases q⟩
    · exact ⟨o2, e2, fun v q => by rw [d2] at q; cases q⟩
  keep := fun i h h' ⟨hz, hTI, ⟨x, y, hTO⟩, h1, h2⟩ k =>
    ⟨k z (by simp) _ hz, k TI (by simp) _ hTI, ⟨x, y, k TO (by simp) _ hTO⟩, h1.at fun o q => k i1 (by simp) o q, h2.at fun o q => k i2 (by simp) o q⟩
  item := fun X hP hw hK hc i pins s σ H E I hf ⟨hz, hTI, ⟨x0, y0, hTO⟩, h1, h2⟩ ⟨xs, ys, x, y, hqx, hqy, hx, hy⟩ => by
    subst hP hw hK
    obtain ⟨its, rv, p, _⟩ := I.tuple hqx
    obtain ⟨its2, rv2, p2, _⟩ := I.list hqy
    obtain ⟨u, hu, ru⟩ := rv.get hx
    obtain ⟨u2, hu2, ru2⟩ := rv2.get hy
    have hh : X.A.in1.handled = none := I.ok.hd hc
    have hzl : z < s.heap.objs.size := Heap.lt_size hz
    have b1 : i < its.toArray.size := by have := (List.getElem?_eq_some_iff.mp hu).1; simpa using this
    have b2 : i < its2.toArray.size := by have := (List.getElem?_eq_some_iff.mp hu2).1; simpa using this
    refine wpAny_pyNext_zipD2_item S (Draws.tuple hh i1 a na its.toArray) (Draws.list hh i2 b nb its2.toArray) hz hTI hTO ⟨h1, p⟩ ⟨h2, p2.isList⟩ b1 b2 fun v1 v2 h' tk q1 q2 z' TO' st1 st2 hT hsz hk => ?_
    have q1 : its[i]? = some v1 := by simpa using q1
    have q2 : its2[i]? = some v2 := by simpa using q2
    rw [hu] at q1; rw [hu2] at q2; cases q1; cases q2
    refine ⟨_, rfl, wpAny_letOwnedTupleGo_zip (s := { s with heap := h', toks := tk }) z' fun h'' z'' sb => ?_⟩
    have hT2 : h''.get? s.heap.objs.size = some { cls := .type "tuple", data := .seq #[u, u2] } := (sb.2 _ (Nat.ne_of_gt hzl)).trans hT
    have new : ObjOk X.prog X.w (upd H s.heap.objs.size (.tup [x, y])) h'' s.heap.objs.size (.tup [x, y]) :=
      ⟨by show 2 ≤ sizeLine; decide, [u, u2], .cons ru (.cons ru2 .nil), ⟨_, hT2, rfl, _, rfl⟩⟩
    have I1 : Inv X pins σ (upd H s.heap.objs.size (.tup [x, y])) { s with heap := h'', toks := tk } :=
      I.turnedNew (t' := tk) (ch := [z, TI, TO, i1, i2]) (fun c o hb q => (sb.2 c (fun q' => hb (by simp [q']))).trans (hk c o (fun q' => hb (by simp [q'])) (fun q' => hb (by simp [q'])) (fun q' => hb (by simp [q'])) (fun q' => hb (by simp [q'])) q)) hf (Nat.le_refl _) new
    refine ⟨.ref s.heap.objs.size, _, I1, rfl, ⟨_, x, y, rfl, I.hok.fresh (Nat.le_refl _), rfl, fun l hl => by rw [I.tuple_inj hl hqx]; exact hx, fun l hl => by rw [I.list_inj hl hqy]; exact hy⟩, ⟨z'', ?_, ⟨u, u2, ?_⟩, ?_, ?_⟩, fun c hcm => ?_⟩
    · exact (sb.2 _ S.TIz).trans (hk _ _ S.TIz S.TITO S.TIi1 S.TIi2 hTI)
    · exact (sb.2 _ S.TOz).trans TO'
    · exact st1.1.at fun o q => (sb.2 _ S.zi1.symm).trans q
    · exact st2.1.at fun o q => (sb.2 _ S.zi2.symm).trans q
    · have hlt : c < s.heap.objs.size := by
        rcases mem5 hcm with q | q | q | q | q <;> rw [q]
        · exact hzl
        · exact Heap.lt_size hTI
        · exact Heap.lt_size hTO
        · obtain ⟨_, e1, _⟩ := h1; exact Heap.lt_size e1
        · obtain ⟨_, e2, _⟩ := h2; exact Heap.lt_size e2
      rw [upd_ne (Nat.ne_of_lt hlt)]
      exact (hf c hcm).1
  done := fun X hP hw hK hc i pins s σ H E I hf ⟨hz, hTI, ⟨x0, y0, hTO⟩, h1, h2⟩ ⟨xs, ys, hqx, hqy, le1, le2, hend⟩ => by
    subst hP hw hK
    obtain ⟨its, rv, p, _⟩ := I.tuple hqx
    obtain ⟨its2, rv2, p2, _⟩ := I.list hqy
    have l1 := rv.length
    have l2 := rv2.length
    have hh : X.A.in1.handled = none := I.ok.hd hc
    exact wpAny_pyNext_zipD2_end S (Draws.tuple hh i1 a na its.toArray) (Draws.list hh i2 b nb its2.toArray) hz hTI hTO ⟨h1, p⟩ ⟨h2, p2.isList⟩ (by simp; omega) (by simp; omega) (by simp; omega) fun h' tk hk =>
      ⟨rfl, I.turnedL (t' := tk) (ch := [z, TI, TO, i1, i2]) (fun c o hb q => hk c o (fun q' => hb (by simp [q'])) (fun q' => hb (by simp [q'])) (fun q' => hb (by simp [q'])) (fun q' => hb (by simp [q'])) q) hf⟩
  self := fun A i s Q E st h => wpAny_pyIter_zip st.1 h
def iZipM (K : PySem.W.Frag) (ta : TA) : TI := fun σ H R => ta σ H fun vs H1 => ∃ a b xs ys, vs = [.ref a, .ref b] ∧ SqT K H1 a xs ∧ SqL K H1 b ys ∧ R (ItzM K a b) H1
theorem pi_zipM {X : Cx} {e e2 : Expr} {ta : TA} {p pos tpos : Pos} {elts : List Expr} {kk : Nat} (hg : Gl X "zip") (hm : X.mg "zip" = none) (ha : PA X [e, e2] ta)
    (hs : starEach [e, e2] X.env = (false, eval e X.env) :: starEach [e2] X.env := by rfl) (hpl : (backTo pos (starEach [e2] X.env)).any (·.1) = false := by rfl) :
    PI X (.Tuple elts kk tpos) (.Call (.Name "zip" p) [e, e2] [] pos) (iZipM X.K ta) := by
  refine ⟨fun pins s σ H R I h => ?_⟩
  refine Call_ (ld_blt I hg hm PyProof.Rows.boot_zip (PyProof.Rows.callWith_type1 (thn (ha.run pos pins s σ H _ I h) fun us s1 ⟨vs, H1, I1, r1, q1⟩ => ?_) hs hpl))
  obtain ⟨a, b, xs, ys, rfl, hqx, hqy, q⟩ := q1
  obtain ⟨u, u2, rfl, ru, ru2⟩ : ∃ u u2, us = [u, u2] ∧ RelV (.ref a) u ∧ RelV (.ref b) u2 := by
    cases r1 with
    | cons r rr => cases rr with
      | cons r' rr => cases rr; exact ⟨_, _, rfl, r, r'⟩
  obtain rfl : u = Value.ref a := ru
  obtain rfl : u2 = Value.ref b := ru2
  have fresh5 : ∀ c, c ∈ [s1.heap.objs.size + 4, s1.heap.objs.size + 2, s1.heap.objs.size + 3, s1.heap.objs.size, s1.heap.objs.size + 1] → FpOk X pins H1 c := fun c hcm => by
    have hle : s1.heap.objs.size ≤ c := by
      rcases mem5 hcm with z | z | z | z | z <;> rw [z] <;> first | exact Nat.le_refl _ | exact Nat.le_add_right _ _
    exact I1.fpOk hle (I1.hok.fresh hle)
  obtain ⟨its, rv, p1, _⟩ := I1.tuple hqx
  obtain ⟨its2, rv2, p2, _⟩ := I1.list hqy
  obtain ⟨o1, ho1, _⟩ := id p1
  have la : a < s1.heap.objs.size := Heap.lt_size ho1
  have lb : b < s1.heap.objs.size := p2.lt
  refine zip_begins2 (begins_tuple a its.toArray) (begins_list b its2.toArray) p1 p2.isList fun h' hz hTI hTO h1 h2 hsz hk => wpAny_pyIter_zip hz ?_
  have I2 : Inv X pins σ H1 { s1 with heap := h' } := I1.kept (t' := s1.toks) hk
  exact ⟨s1.heap.objs.size + 4, [s1.heap.objs.size + 4, s1.heap.objs.size + 2, s1.heap.objs.size + 3, s1.heap.objs.size, s1.heap.objs.size + 1], _, _, H1, rfl, I2,
    turn_zipM (zip_sep2 (fp1 := [a]) (fp2 := [b]) (fun c hc => by rw [List.mem_singleton.mp hc]; exact la) (fun c hc => by rw [List.mem_singleton.mp hc]; exact lb)) (Nat.ne_of_lt la) (Nat.ne_of_lt (Nat.lt_succ_of_lt lb)), ⟨hz, hTI, ⟨_, _, hTO⟩, ⟨_, h1, rfl, rfl⟩, ⟨_, h2, rfl, rfl⟩⟩, fresh5, q⟩
section
variable {X : Cx} {a b : Expr} {σ : L2.St} {F H : Hp} {pos : Pos}
theorem ei_zipM {α β θ : Type} [Rp α] [Rp β] [Rp θ] [TL θ α] {xs : θ} {ys : List β} {p tpos : Pos} {elts : List Expr} {kk : Nat} (ha : Ev X a σ F H xs) (hb : Ev X b σ F H ys) (hm : X.mg "zip" = none) (hg : Gl X "zip" := by rfl) (hs : starEach [a, b] X.env = (false, eval a X.env) :: starEach [b] X.env := by rfl) (hs2 : starEach [b] X.env = (false, eval b X.env) :: starEach [] X.env := by rfl)
    (hpl : (backTo pos (starEach [b] X.env)).any (·.1) = false := by rfl) : EvI X (.Tuple elts kk tpos) (.Call (.Name "zip" p) [a, b] [] pos) σ F H (zipL (TL.l xs) ys) := fun F1 H1 g R q =>
  GoI.of (pi_zipM hg hm (pa_cons pe_go (pa_cons pe_go pa_nil hs2) hs) hs hpl) (ha F1 H1 g _ fun v F2 H2 g2 r2 => hb F2 H2 (g.trans g2) _ fun w F3 H3 g3 ⟨p', vs', e', sq', rs'⟩ => by
    obtain ⟨p, vs, e, sq, rs⟩ := TL.sq (Rp.mono g3.ff r2)
    refine ⟨p, p', vs, vs', by rw [e, e'], sqT_mono g3.fh sq, g3.fh.seq sq', q _ F3 H3 (g2.trans g3) fun i Fi Hi s1 s2 => ?_⟩
    have q1 : SqT X.K Hi p vs := sqT_mono s2 (sqT_mono s1 sq)
    have q2 := s2.seq (s1.seq sq')
    refine ⟨fun x hx => ?_, fun e => ⟨vs, vs', q1, q2, ?_, ?_, ?_⟩⟩
    · obtain ⟨h1, h2⟩ := zipL_get hx
      obtain ⟨y, hy, ry⟩ := rs.get h1
      obtain ⟨z, hz, rz⟩ := rs'.get h2
      refine ⟨⟨vs, vs', y, z, q1, q2, hy, hz⟩, fun v H' ⟨T, x1, y1, e1, e2, e3, e4, e5⟩ => ?_⟩
      subst e1; subst e3
      have e6 := e4 vs q1
      have e7 := e5 vs' q2
      rw [hy] at e6; rw [hz] at e7
      cases e6; cases e7
      exact pair_new s2 e2 (Rp.mono s1 ry) (Rp.mono s1 rz)
    · rw [e, zipL_len, rs.length]; omega
    · rw [e, zipL_len, rs'.length]; omega
    · rw [e, zipL_len, rs.length, rs'.length]; omega)
end
end Gx
namespace Gx
open PySem PySem.Spec PyProof.Rows L2
open Rp (rp)
open Ra (ra)
open Ob (ob)
/-! ### xs[i] += e -/
def augG (xs : List Int) (k d : Int) : Option (List Int) := if 0 ≤ k then (xs[k.toNat]?).map fun x => xs.set k.toNat (x + d) else none
def rGet0 (K : PySem.W.Frag) : V → V → Hp → VK → Prop := fun x y H Q => ∃ p xs k v, x = .ref p ∧ y = .int k ∧ SqL K H p xs ∧ 0 ≤ k ∧ xs[k.toNat]? = some v ∧ Q v H
section
variable {X : Cx} {a e : Expr} {σ : L2.St} {F H H0 : Hp} {pos : Pos} {D : Ends} {rest : List Stmt}
theorem get_list0 : PGet X (rGet0 X.K) := by
  intro pins s σ H o i ov iv Q I ro ri h
  obtain ⟨p, xs, k, v, rfl, rfl, hq, h0, hv, q⟩ := h
  cases ro
  obtain ⟨t, rfl⟩ := ri
  obtain ⟨its, r, pl, hz⟩ := I.list hq
  obtain ⟨w, ew, rw'⟩ := r.get hv
  have hl := r.length
  have hn := line63
  have hlt := (List.getElem?_eq_some_iff.mp hv).1
  exact wpAny_getItem_list pl.isList h0 (by omega) (by simpa using ew) ⟨v, H, I, rw', q⟩
theorem go_augI {xs r : List Int} {k d : Int} {l : Addr} {n : Str} {p1 p2 : Pos} (i : Nat) (s : SmX X.K F H) (o : Own X.K H0 F H l xs) (hσ : σ[i]? = some (some (.ref l))) (he : Ev X e σ F H d) (hk : Ev X a σ F H k) (h : augG xs k d = some r)
    (kk : ∀ u F' H', Gr F H F' H' → PlAt H' l → F' l = none → Own X.K H0 F' (upd H' l u) l r → GoS X rest D σ (upd H' l u)) (hN : X.N[i]? = some n := by rfl) (hv : Vis X.env.scope n := by first | exact Or.inl rfl | exact Or.inr (Or.inl rfl) | exact Or.inr (Or.inr rfl))
    (hd : (n == ("__debug__" : Str)) = false := by decide) (hcd : (n == ("__classdict__" : Str)) = false := by decide)
    (ha : ∀ ov iv new, augStore a ov iv new = (do holding [new, ov, iv] (setItem ov iv new); release [new, ov, iv] []; pure .next) := by intros; rfl) :
    GoS X (.AugAssign (.Subscript (.Name n p1) a p2) .Add e pos :: rest) D σ H := by
  unfold augG at h; split at h
  · rename_i h0
    obtain ⟨x, hx, rfl⟩ := Option.map_eq_some_iff.mp h
    obtain ⟨_, hl, vs, rfl, rs⟩ := o.h
    obtain ⟨v, hv1, rv⟩ := rs.get hx
    obtain rfl : v = .int x := rv
    refine GoS.cons (ps_augS (pe_var hN hv hd hcd) pe_go get_list0 pe_go ip_add set_list ha) ⟨_, hσ, hk F H (.refl s) _ fun w F2 H2 g2 r2 => ?_⟩
    have hl2 := g2.hh.k _ _ hl trivial
    obtain rfl : w = .int k := r2
    refine ⟨l, vs, k, .int x, rfl, rfl, SqL.of hl2, h0, hv1, he F2 H2 (s.gx g2) _ fun w3 F3 H3 g3 r3 => ?_⟩
    obtain rfl : w3 = .int d := r3
    have g4 := g2.trans g3
    have o2 := o.up g4
    have hl3 := g4.hh.k _ _ hl trivial
    have hlt := (List.getElem?_eq_some_iff.mp hv1).1
    have hj : ixN vs.length k = some k.toNat := by unfold ixN; rw [if_pos (by omega), if_pos (by omega)]
    exact ⟨x, d, rfl, rfl, l, vs, k, k.toNat, rfl, rfl, hl3, hj, kk _ F3 H3 g4 o2.pl o2.f (Own.set o2.n o2.f (ob_lst (Rps.set (show rp X.K F3 (.int (x + d)) (x + d) from rfl) k.toNat (rs.mono g4.ff))))⟩
  · cases h
end
end Gx
namespace Gx
open PySem PySem.Spec PyProof.Rows L2
/-! ### b is True -/
theorem o2_isB {K : PySem.W.Frag} {x y : Bool} : Op2 K (fun x y H Q => ∃ a b, x = .bl a ∧ y = .bl b ∧ Q (.bl (decide (a = b))) H) x y (decide (x = y)) := fun F H v w Q s r1 r2 k => ⟨x, y, r1, r2, k _ F H (.refl s) rfl⟩
theorem o2_isnotB {K : PySem.W.Frag} {x y : Bool} : Op2 K (fun x y H Q => ∃ a b, x = .bl a ∧ y = .bl b ∧ Q (.bl (!decide (a = b))) H) x y (!decide (x = y)) := fun F H v w Q s r1 r2 k => ⟨x, y, r1, r2, k _ F H (.refl s) rfl⟩
end Gx
namespace Gx
open PySem PySem.Spec PyProof.Rows L2
open Rp (rp)
open Ra (ra)
open Ob (ob)
/-! ### what does not tell of a list that is shown for a while -/
def IsL (F : Hp) (l : Addr) : Prop := ∃ od xs, F l = some (.frz od (.lst xs))
theorem IsL.tup {F : Hp} {l : Addr} (h : IsL F l) : (∀ xs, ¬ F l = some (.tup xs)) ∧ (∀ (o : Obj) (xs : List V), ¬ F l = some (.frz o (.tup xs))) := by
  obtain ⟨od, ys, h⟩ := h
  exact ⟨fun xs e => (by rw [h] at e; cases e), fun o xs e => (by rw [h] at e; cases e)⟩
theorem IsL.ins {F : Hp} {l a : Addr} {c d : Addr} {fs : List (Str × V)} (h : IsL F l) (e : F a = some (.ins c d fs)) : er F l a = some (.ins c d fs) := by
  obtain ⟨od, ys, h⟩ := h
  unfold er
  rw [if_neg (show ¬ a = l from fun z => by rw [z, h] at e; cases e)]; exact e
class FlatL (α : Type) [Rp α] : Prop where
  fl : ∀ {K : PySem.W.Frag} {F : Hp} {l : Addr} {v : V} {x : α}, IsL F l → rp K F v x → rp K (er F l) v x
class FlatLR (τ : Type) [Ra τ] : Prop where
  fl : ∀ {K : PySem.W.Frag} {F : Hp} {l : Addr} {v : List V} {x : τ}, IsL F l → ra K F v x → ra K (er F l) v x
instance (priority := low) {α : Type} [Rp α] [Flat α] : FlatL α := ⟨fun h r => Flat.fl h.tup.1 h.tup.2 r⟩
instance : FlatLR Unit := ⟨fun _ h => h⟩
instance {α τ : Type} [Rp α] [Ra τ] [FlatL α] [FlatLR τ] : FlatLR (α × τ) := ⟨fun h1 ⟨v, r, e, p, q⟩ => ⟨v, r, e, FlatL.fl h1 p, FlatLR.fl h1 q⟩⟩
theorem rpI.fl {cn : Str} {names : List Str} {τ : Type} [Ra τ] [FlatLR τ] {K : PySem.W.Frag} {F : Hp} {l : Addr} {v : V} {x : τ} (h : IsL F l) : rpI cn names K F v x → rpI cn names K (er F l) v x := fun ⟨a, dx, vs, e, q, r⟩ => ⟨a, dx, vs, e, h.ins q, FlatLR.fl h r⟩
theorem Rps.fll {α : Type} [Rp α] [FlatL α] {K : PySem.W.Frag} {F : Hp} {l : Addr} {vs : List V} {xs : List α} (h1 : IsL F l) (h : Rps K F vs xs) : Rps K (er F l) vs xs := L2.Paired.mapP h fun _ _ => FlatL.fl h1
theorem CR.er {α : Type} [Rp α] [FlatL α] {cn n1 n2 : Str} {K : PySem.W.Frag} {F : Hp} {v : V} {l l0 : Addr} {x : α} (h : CR cn n1 n2 K F v l x) (h1 : IsL F l0) : CR cn n1 n2 K (er F l0) v l x := by
  obtain ⟨a, dx, w, e, t, r⟩ := h
  exact ⟨a, dx, w, e, h1.ins t, FlatL.fl h1 r⟩
theorem ern_thaw {α γ δ : Type} [Rp α] [FlatL α] [Rp γ] [FlatL γ] [Rp δ] {cn n1 n2 : Str} {X : Cx} {e : Expr} {σ : L2.St} {F H H0 : Hp} {x : α} {ys : List γ} {y : List δ} {l : Addr} (o : Own X.K H0 F H l y) (s : L2.Same F H) (h : ∀ F' H', L2.Same F F' → L2.Same F' H' → rp X.K F' (.ref l) y → (∀ a, a ≠ l → F' a = F a ∧ H' a = H a) → EvRN cn n1 n2 X e σ F' H' x ys) : EvRN cn n1 n2 X e σ F H x ys := fun F1 H1 g Q q => by
  obtain ⟨u, hl, r⟩ := o.h
  obtain ⟨vs0, eu, _⟩ := id r
  have hl1 := g.hh.k _ _ hl (Ob.pl r).ntb
  refine GoE.locked hl1 (Ob.mu r) fun od => ?_
  obtain ⟨g1, f1, h1⟩ := GrX.show_ (u := .frz od u) hl o.f (Ob.ls r) (Ob.pl r) g
  refine h _ _ (same_upd o.f) (shown s) (Ob.fz upd_same (Ob.mono (same_upd o.f) r)) (fun a ha => ⟨upd_ne ha, upd_ne ha⟩) _ _ g1 _ fun v2 l2 u2 F2 H2 g2 n2 f2 h2 r2 c2 => ?_
  have e2 : F2 l = some (.frz od u) := g2.ff _ _ upd_same
  have il : IsL F2 l := ⟨od, vs0, by rw [e2, eu]⟩
  have hne : l2 ≠ l := fun e => by rw [e, upd_same] at n2; cases n2
  obtain ⟨ws, ew, rw2⟩ := r2
  refine ⟨g2.fh _ _ e2, q v2 l2 u2 (er F2 l) _ (Gr.hide h1 f1 (Ob.pl r) g2) (by rw [upd_ne hne] at n2; exact n2) ?_ (by rw [upd_ne hne]; exact h2) ⟨ws, ew, Rps.fll il rw2⟩ (c2.er il)⟩
  unfold er
  rw [if_neg hne]; exact f2
end Gx
namespace Gx
open PySem PySem.Spec PyProof.Rows L2
open Rp (rp)
open Ra (ra)
open Ob (ob)
/-! ### zip of a list and a tuple -/
def ItzN (K : PySem.W.Frag) (a b : Addr) : It :=
  ⟨fun i H => ∃ (xs ys : List V) (x y : V), SqL K H a xs ∧ SqT K H b ys ∧ xs[i]? = some x ∧ ys[i]? = some y,
    fun i H v H' => ∃ T x y, v = .ref T ∧ H T = none ∧ H' = upd H T (.tup [x, y]) ∧ (∀ xs, SqL K H a xs → xs[i]? = some x) ∧ ∀ ys, SqT K H b ys → ys[i]? = some y,
    fun i H => ∃ xs ys : List V, SqL K H a xs ∧ SqT K H b ys ∧ i ≤ xs.length ∧ i ≤ ys.length ∧ (i = xs.length ∨ i = ys.length)⟩
def stN (z TI TO i1 i2 a b : Addr) (i : Nat) (h : Heap) : Prop := IsZip h z TI TO .none ∧ IsTupOf2 h TI (.ref i1) (.ref i2) ∧ (∃ x y, IsTupOf2 h TO x y) ∧ h.IsListIter i1 a i ∧ h.IsTupleIter i2 b i
theorem turn_zipN {P : Program} {w : World} {K : PySem.W.Frag} {elts : List Expr} {kk : Nat} {tpos : Pos} {a b z TI TO i1 i2 : Addr} (S : ZipSep2 z TI TO i1 i2 [i1, a] [i2, b]) (na : a ≠ i1) (nb : b ≠ i2) :
    Turn P w K (.Tuple elts kk tpos) (ItzN K a b) [z, TI, TO, i1, i2] z (stN z TI TO i1 i2 a b) where
  mem := List.mem_cons_self
  obj := fun i h ⟨hz, hTI, ⟨x, y, hTO⟩, ⟨o1, e1, _, d1⟩, ⟨o2, e2, _, d2⟩⟩ c hc => by
    rcases mem5 hc with q | q | q | q | q <;> rw [q]
    · exact ⟨_, hz, fun v q => nomatch q⟩
    · exact ⟨_, hTI, fun v q => nomatch q⟩
    · exact ⟨_, hTO, fun v q => nomatch q⟩
    · exact ⟨o1, e1, fun v q => by rw [d1] at q; cases q⟩
    · exact ⟨o2, e2, fun v q => by rw [d2] at q; cases q⟩
  keep := fun i h h' ⟨hz, hTI, ⟨x, y, hTO⟩, h1, h2⟩ k =>
    ⟨k z (by simp) _ hz, k TI (by simp) _ hTI, ⟨x, y, k TO (by simp) _ hTO⟩, h1.at fun o q => k i1 (by simp) o q, h2.at fun o q => k i2 (by simp) o q⟩
  item := fun X hP hw hK hc i pins s σ H E I hf ⟨hz, hTI, ⟨x0, y0, hTO⟩, h1, h2⟩ ⟨xs, ys, x, y, hqx, hqy, hx, hy⟩ => by
    subst hP hw hK
    obtain ⟨its, rv, p, _⟩ := I.list hqx
    obtain ⟨its2, rv2, p2, _⟩ := I.tuple hqy
    obtain ⟨u, hu, ru⟩ := rv.get hx
    obtain ⟨u2, hu2, ru2⟩ := rv2.get hy
    have hh : X.A.in1.handled = none := I.ok.hd hc
    have hzl : z < s.heap.objs.size := Heap.lt_size hz
    have b1 : i < its.toArray.size := by have := (List.getElem?_eq_some_iff.mp hu).1; simpa using this
    have b2 : i < its2.toArray.size := by have := (List.getElem?_eq_some_iff.mp hu2).1; simpa using this
    refine wpAny_pyNext_zipD2_item S (Draws.list hh i1 a na its.toArray) (Draws.tuple hh i2 b nb its2.toArray) hz hTI hTO ⟨h1, p.isList⟩ ⟨h2, p2⟩ b1 b2 fun v1 v2 h' tk q1 q2 z' TO' st1 st2 hT hsz hk => ?_
    have q1 : its[i]? = some v1 := by simpa using q1
    have q2 : its2[i]? = some v2 := by simpa using q2
    rw [hu] at q1; rw [hu2] at q2; cases q1; cases q2
    refine ⟨_, rfl, wpAny_letOwnedTupleGo_zip (s := { s with heap := h', toks := tk }) z' fun h'' z'' sb => ?_⟩
    have hT2 : h''.get? s.heap.objs.size = some { cls := .type "tuple", data := .seq #[u, u2] } := (sb.2 _ (Nat.ne_of_gt hzl)).trans hT
    have new : ObjOk X.prog X.w (upd H s.heap.objs.size (.tup [x, y])) h'' s.heap.objs.size (.tup [x, y]) :=
      ⟨by show 2 ≤ sizeLine; decide, [u, u2], .cons ru (.cons ru2 .nil), ⟨_, hT2, rfl, _, rfl⟩⟩
    have I1 : Inv X pins σ (upd H s.heap.objs.size (.tup [x, y])) { s with heap := h'', toks := tk } :=
      I.turnedNew (t' := tk) (ch := [z, TI, TO, i1, i2]) (fun c o hb q => (sb.2 c (fun q' => hb (by simp [q']))).trans (hk c o (fun q' => hb (by simp [q'])) (fun q' => hb (by simp [q'])) (fun q' => hb (by simp [q'])) (fun q' => hb (by simp [q'])) q)) hf (Nat.le_refl _) new
    refine ⟨.ref s.heap.objs.size, _, I1, rfl, ⟨_, x, y, rfl, I.hok.fresh (Nat.le_refl _), rfl, fun l hl => by rw [I.list_inj hl hqx]; exact hx, fun l hl => by rw [I.tuple_inj hl hqy]; exact hy⟩, ⟨z'', ?_, ⟨u, u2, ?_⟩, ?_, ?_⟩, fun c hcm => ?_⟩
    · exact (sb.2 _ S.TIz).trans (hk _ _ S.TIz S.TITO S.TIi1 S.TIi2 hTI)
    · exact (sb.2 _ S.TOz).trans TO'
    · exact st1.1.at fun o q => (sb.2 _ S.zi1.symm).trans q
    · exact st2.1.at fun o q => (sb.2 _ S.zi2.symm).trans q
    · have hlt : c < s.heap.objs.size := by
        rcases mem5 hcm with q | q | q | q | q <;> rw [q]
        · exact hzl
        · exact Heap.lt_size hTI
        · exact Heap.lt_size hTO
        · obtain ⟨_, e1, _⟩ := h1; exact Heap.lt_size e1
        · obtain ⟨_, e2, _⟩ := h2; exact Heap.lt_size e2
      rw [upd_ne (Nat.ne_of_lt hlt)]
      exact (hf c hcm).1
  done := fun X hP hw hK hc i pins s σ H E I hf ⟨hz, hTI, ⟨x0, y0, hTO⟩, h1, h2⟩ ⟨xs, ys, hqx, hqy, le1, le2, hend⟩ => by
    subst hP hw hK
    obtain ⟨its, rv, p, _⟩ := I.list hqx
    obtain ⟨its2, rv2, p2, _⟩ := I.tuple hqy
    have l1 := rv.length
    have l2 := rv2.length
    have hh : X.A.in1.handled = none := I.ok.hd hc
    exact wpAny_pyNext_zipD2_end S (Draws.list hh i1 a na its.toArray) (Draws.tuple hh i2 b nb its2.toArray) hz hTI hTO ⟨h1, p.isList⟩ ⟨h2, p2⟩ (by simp; omega) (by simp; omega) (by simp; omega) fun h' tk hk =>
      ⟨rfl, I.turnedL (t' := tk) (ch := [z, TI, TO, i1, i2]) (fun c o hb q => hk c o (fun q' => hb (by simp [q'])) (fun q' => hb (by simp [q'])) (fun q' => hb (by simp [q'])) (fun q' => hb (by simp [q'])) q) hf⟩
  self := fun A i s Q E st h => wpAny_pyIter_zip st.1 h
def iZipN (K : PySem.W.Frag) (ta : TA) : TI := fun σ H R => ta σ H fun vs H1 => ∃ a b xs ys, vs = [.ref a, .ref b] ∧ SqL K H1 a xs ∧ SqT K H1 b ys ∧ R (ItzN K a b) H1
theorem pi_zipN {X : Cx} {e e2 : Expr} {ta : TA} {p pos tpos : Pos} {elts : List Expr} {kk : Nat} (hg : Gl X "zip") (hm : X.mg "zip" = none) (ha : PA X [e, e2] ta)
    (hs : starEach [e, e2] X.env = (false, eval e X.env) :: starEach [e2] X.env := by rfl) (hpl : (backTo pos (starEach [e2] X.env)).any (·.1) = false := by rfl) :
    PI X (.Tuple elts kk tpos) (.Call (.Name "zip" p) [e, e2] [] pos) (iZipN X.K ta) := by
  refine ⟨fun pins s σ H R I h => ?_⟩
  refine Call_ (ld_blt I hg hm PyProof.Rows.boot_zip (PyProof.Rows.callWith_type1 (thn (ha.run pos pins s σ H _ I h) fun us s1 ⟨vs, H1, I1, r1, q1⟩ => ?_) hs hpl))
  obtain ⟨a, b, xs, ys, rfl, hqx, hqy, q⟩ := q1
  obtain ⟨u, u2, rfl, ru, ru2⟩ : ∃ u u2, us = [u, u2] ∧ RelV (.ref a) u ∧ RelV (.ref b) u2 := by
    cases r1 with
    | cons r rr => cases rr with
      | cons r' rr => cases rr; exact ⟨_, _, rfl, r, r'⟩
  obtain rfl : u = Value.ref a := ru
  obtain rfl : u2 = Value.ref b := ru2
  have fresh5 : ∀ c, c ∈ [s1.heap.objs.size + 4, s1.heap.objs.size + 2, s1.heap.objs.size + 3, s1.heap.objs.size, s1.heap.objs.size + 1] → FpOk X pins H1 c := fun c hcm => by
    have hle : s1.heap.objs.size ≤ c := by
      rcases mem5 hcm with z | z | z | z | z <;> rw [z] <;> first | exact Nat.le_refl _ | exact Nat.le_add_right _ _
    exact I1.fpOk hle (I1.hok.fresh hle)
  obtain ⟨its, rv, p1, _⟩ := I1.list hqx
  obtain ⟨its2, rv2, p2, _⟩ := I1.tuple hqy
  obtain ⟨o1, ho1, _⟩ := id p2
  have lb : b < s1.heap.objs.size := Heap.lt_size ho1
  have la : a < s1.heap.objs.size := p1.lt
  refine zip_begins2 (begins_list a its.toArray) (begins_tuple b its2.toArray) p1.isList p2 fun h' hz hTI hTO h1 h2 hsz hk => wpAny_pyIter_zip hz ?_
  have I2 : Inv X pins σ H1 { s1 with heap := h' } := I1.kept (t' := s1.toks) hk
  exact ⟨s1.heap.objs.size + 4, [s1.heap.objs.size + 4, s1.heap.objs.size + 2, s1.heap.objs.size + 3, s1.heap.objs.size, s1.heap.objs.size + 1], _, _, H1, rfl, I2,
    turn_zipN (zip_sep2 (fp1 := [a]) (fp2 := [b]) (fun c hc => by rw [List.mem_singleton.mp hc]; exact la) (fun c hc => by rw [List.mem_singleton.mp hc]; exact lb)) (Nat.ne_of_lt la) (Nat.ne_of_lt (Nat.lt_succ_of_lt lb)), ⟨hz, hTI, ⟨_, _, hTO⟩, ⟨_, h1, rfl, rfl⟩, ⟨_, h2, rfl, rfl⟩⟩, fresh5, q⟩
section
variable {X : Cx} {a b : Expr} {σ : L2.St} {F H : Hp} {pos : Pos}
theorem ei_zipN {α β θ : Type} [Rp α] [Rp β] [Rp θ] [TL θ β] {xs : List α} {ys : θ} {p tpos : Pos} {elts : List Expr} {kk : Nat} (ha : Ev X a σ F H xs) (hb : Ev X b σ F H ys) (hm : X.mg "zip" = none) (hg : Gl X "zip" := by rfl) (hs : starEach [a, b] X.env = (false, eval a X.env) :: starEach [b] X.env := by rfl) (hs2 : starEach [b] X.env = (false, eval b X.env) :: starEach [] X.env := by rfl)
    (hpl : (backTo pos (starEach [b] X.env)).any (·.1) = false := by rfl) : EvI X (.Tuple elts kk tpos) (.Call (.Name "zip" p) [a, b] [] pos) σ F H (zipL xs (TL.l ys)) := fun F1 H1 g R q =>
  GoI.of (pi_zipN hg hm (pa_cons pe_go (pa_cons pe_go pa_nil hs2) hs) hs hpl) (ha F1 H1 g _ fun v F2 H2 g2 r2 => hb F2 H2 (g.trans g2) _ fun w F3 H3 g3 r3 => by
    obtain ⟨p', vs', e', sq', rs'⟩ := TL.sq r3
    obtain ⟨p, vs, e, sq, rs⟩ := Rp.mono g3.ff r2
    refine ⟨p, p', vs, vs', by rw [e, e'], g3.fh.seq sq, sqT_mono g3.fh sq', q _ F3 H3 (g2.trans g3) fun i Fi Hi s1 s2 => ?_⟩
    have q1 := s2.seq (s1.seq sq)
    have q2 : SqT X.K Hi p' vs' := sqT_mono s2 (sqT_mono s1 sq')
    refine ⟨fun x hx => ?_, fun e => ⟨vs, vs', q1, q2, ?_, ?_, ?_⟩⟩
    · obtain ⟨h1, h2⟩ := zipL_get hx
      obtain ⟨y, hy, ry⟩ := rs.get h1
      obtain ⟨z, hz, rz⟩ := rs'.get h2
      refine ⟨⟨vs, vs', y, z, q1, q2, hy, hz⟩, fun v H' ⟨T, x1, y1, e1, e2, e3, e4, e5⟩ => ?_⟩
      subst e1; subst e3
      have e6 := e4 vs q1
      have e7 := e5 vs' q2
      rw [hy] at e6; rw [hz] at e7
      cases e6; cases e7
      exact pair_new s2 e2 (Rp.mono s1 ry) (Rp.mono s1 rz)
    · rw [e, zipL_len, rs.length]; omega
    · rw [e, zipL_len, rs'.length]; omega
    · rw [e, zipL_len, rs.length, rs'.length]; omega)
end
end Gx

namespace Law
open PySem PySem.Spec PyProof.Rows L2 Gx
open Rp (rp)
open Ra (ra)

/-! ### the text -/
def top (i : Nat) : Stmt := PySem.Challenge.pw_furrow_k67_own_plan_is_plain.main.body.getD i (.Pass ⟨0, 0, 0, 0⟩)
abbrev s_at : Stmt := top 26
abbrev s_digits : Stmt := top 27
abbrev s_loop : Stmt := top 28
abbrev s_deeds : Stmt := top 29
abbrev s_told : Stmt := top 30
abbrev s_Number_init : Stmt := inClass (top 3) 0
abbrev s_Deed_init : Stmt := inClass (top 5) 0
abbrev s_told_deeds : Stmt := top 31
abbrev s_Program_init : Stmt := inClass (top 6) 0
abbrev s_shared : Stmt := top 7
abbrev s_own_items : Stmt := top 10
abbrev s_own_plan : Stmt := top 11
abbrev s_values : Stmt := top 32
abbrev s_before : Stmt := top 33
abbrev s_ahead : Stmt := top 8
abbrev s_stand_within : Stmt := top 14
abbrev s_stand : Stmt := top 15
abbrev s_sweeps_within : Stmt := top 12
abbrev s_sweeps_of : Stmt := top 13
abbrev s_time_of : Stmt := top 23
abbrev s_order_of : Stmt := top 24
abbrev s_law : Stmt := top 34
/-! ### union Item -/
inductive UItem where
  | v_deed (b : Int) (c : (Tp (T2 Int Int)))
  | v_sweep (b : Bool) (c : Str) (d : (List UItem))
mutual
def UItem.R (K : PySem.W.Frag) (F : Hp) : UItem → V → Prop
  | .v_deed b c, v => ∃ p w0 w1 w2, v = .ref p ∧ TupF F p [w0, w1, w2] ∧ w0 = .str "deed" ∧ rp (α := Int) K F w1 b ∧ rp (α := (Tp (T2 Int Int))) K F w2 c
  | .v_sweep b c d, v => ∃ p w0 w1 w2 w3, v = .ref p ∧ TupF F p [w0, w1, w2, w3] ∧ w0 = .str "sweep" ∧ rp (α := Bool) K F w1 b ∧ rp (α := Str) K F w2 c ∧ (∃ q vs, w3 = .ref q ∧ TupF F q vs ∧ UItem.Rs K F d vs)
def UItem.Rs (K : PySem.W.Frag) (F : Hp) : List UItem → List V → Prop
  | [], vs => vs = []
  | x :: xs, vs => ∃ v r, vs = v :: r ∧ UItem.R K F x v ∧ UItem.Rs K F xs r
end
mutual
theorem UItem.R_mono {K : PySem.W.Frag} {F F2 : Hp} (s_ : L2.Same F F2) : ∀ (x : UItem) (v : V), UItem.R K F x v → UItem.R K F2 x v
  | .v_deed b c, v, h => by
    rw [UItem.R] at h ⊢
    obtain ⟨p, w0, w1, w2, e, t, h0, h1, h2⟩ := h
    exact ⟨p, w0, w1, w2, e, tupF_mono s_ t, h0, Rp.mono s_ h1, Rp.mono s_ h2⟩
  | .v_sweep b c d, v, h => by
    rw [UItem.R] at h ⊢
    obtain ⟨p, w0, w1, w2, w3, e, t, h0, h1, h2, ⟨q2, vs2, e2, t2, h3⟩⟩ := h
    exact ⟨p, w0, w1, w2, w3, e, tupF_mono s_ t, h0, Rp.mono s_ h1, Rp.mono s_ h2, ⟨q2, vs2, e2, tupF_mono s_ t2, UItem.Rs_mono s_ d _ h3⟩⟩
theorem UItem.Rs_mono {K : PySem.W.Frag} {F F2 : Hp} (s_ : L2.Same F F2) : ∀ (x : List UItem) (v : List V), UItem.Rs K F x v → UItem.Rs K F2 x v
  | [], vs, h => by rw [UItem.Rs] at h ⊢; exact h
  | x :: xs, vs, h => by
    rw [UItem.Rs] at h ⊢
    obtain ⟨v, r, e, h1, h2⟩ := h
    exact ⟨v, r, e, UItem.R_mono s_ x v h1, UItem.Rs_mono s_ xs r h2⟩
end
instance : Rp UItem := ⟨fun K F v x => UItem.R K F x v, fun s h => UItem.R_mono s _ _ h⟩
theorem UItem.Rs_iff {K : PySem.W.Frag} {F : Hp} : ∀ {xs : List UItem} {vs : List V}, UItem.Rs K F xs vs ↔ Rps K F vs xs
  | [], vs => by
    rw [UItem.Rs]
    exact ⟨fun h => h ▸ .nil, fun h => by cases h; rfl⟩
  | x :: xs, vs => by
    rw [UItem.Rs]
    constructor
    · rintro ⟨v, r, rfl, h1, h2⟩
      exact .cons h1 (UItem.Rs_iff.mp h2)
    · intro h
      cases h with
      | cons h1 h2 => exact ⟨_, _, rfl, h1, UItem.Rs_iff.mpr h2⟩
def UItem.tag : UItem → Str
  | .v_deed _ _ => "deed"
  | .v_sweep _ _ _ => "sweep"
def UItem.asv_deed : UItem → Option (T3 Str Int (Tp (T2 Int Int)))
  | .v_deed b c => some ⟨("deed" : Str), b, c⟩
  | _ => none
theorem UItem.ofv_deed {K : PySem.W.Frag} {F : Hp} {v : V} {b : Int} {c : (Tp (T2 Int Int))} : rp (α := (T3 Str Int (Tp (T2 Int Int)))) K F v ⟨("deed" : Str), b, c⟩ ↔ rp K F v (UItem.v_deed b c) := by
  show _ ↔ UItem.R K F _ v
  rw [UItem.R]
  constructor
  · rintro ⟨p, vs, e, t, w0, _, rfl, h0, w1, _, rfl, h1, w2, _, rfl, h2, rfl⟩
    exact ⟨p, w0, w1, w2, e, t, h0, h1, h2⟩
  · rintro ⟨p, w0, w1, w2, e, t, h0, h1, h2⟩
    exact ⟨p, _, e, t, w0, _, rfl, h0, w1, _, rfl, h1, w2, _, rfl, h2, rfl⟩
def UItem.asv_sweep : UItem → Option (T4 Str Bool Str (Tp UItem))
  | .v_sweep b c d => some ⟨("sweep" : Str), b, c, ⟨d⟩⟩
  | _ => none
theorem UItem.ofv_sweep {K : PySem.W.Frag} {F : Hp} {v : V} {b : Bool} {c : Str} {d : (Tp UItem)} : rp (α := (T4 Str Bool Str (Tp UItem))) K F v ⟨("sweep" : Str), b, c, d⟩ ↔ rp K F v (UItem.v_sweep b c d.l) := by
  show _ ↔ UItem.R K F _ v
  rw [UItem.R]
  constructor
  · rintro ⟨p, vs, e, t, w0, _, rfl, h0, w1, _, rfl, h1, w2, _, rfl, h2, w3, _, rfl, ⟨q3, vs3, e3, t3, h3⟩, rfl⟩
    exact ⟨p, w0, w1, w2, w3, e, t, h0, h1, h2, ⟨q3, vs3, e3, t3, UItem.Rs_iff.mpr h3⟩⟩
  · rintro ⟨p, w0, w1, w2, w3, e, t, h0, h1, h2, ⟨q3, vs3, e3, t3, h3⟩⟩
    exact ⟨p, _, e, t, w0, _, rfl, h0, w1, _, rfl, h1, w2, _, rfl, h2, w3, _, rfl, ⟨q3, vs3, e3, t3, UItem.Rs_iff.mp h3⟩, rfl⟩
section
variable {X : Cx} {e : Expr} {σ : L2.St} {F H : Hp} {x : UItem}
theorem UItem.evv_deed {t : (T3 Str Int (Tp (T2 Int Int)))} (h : Ev X e σ F H x) (he : x.asv_deed = some t) : Ev X e σ F H t := by
  cases x with
  | v_deed b c => cases he; exact h.re fun _ _ r => (UItem.ofv_deed).mpr r
  | v_sweep b c d => cases he
theorem UItem.mkv_deed {b : Int} {c : (Tp (T2 Int Int))} (h : Ev X e σ F H (T3.mk ("deed" : Str) b c)) : Ev X e σ F H (UItem.v_deed b c) := h.re fun _ _ r => UItem.ofv_deed.mp r
def UItem.inv_deed (t : (T3 Str Int (Tp (T2 Int Int)))) : Option UItem := if t.a = "deed" then some (UItem.v_deed t.b t.c) else none
theorem UItem.evinv_deed {t : (T3 Str Int (Tp (T2 Int Int)))} (h : Ev X e σ F H t) (he : UItem.inv_deed t = some x) : Ev X e σ F H x := by
  unfold UItem.inv_deed at he
  split at he
  · rename_i ha
    cases he
    obtain ⟨a, b, c⟩ := t
    have ha : a = "deed" := ha
    subst ha
    exact UItem.mkv_deed h
  · cases he
theorem UItem.evv_sweep {t : (T4 Str Bool Str (Tp UItem))} (h : Ev X e σ F H x) (he : x.asv_sweep = some t) : Ev X e σ F H t := by
  cases x with
  | v_deed b c => cases he
  | v_sweep b c d => cases he; exact h.re fun _ _ r => (UItem.ofv_sweep (d := ⟨d⟩)).mpr r
theorem UItem.mkv_sweep {b : Bool} {c : Str} {d : (Tp UItem)} (h : Ev X e σ F H (T4.mk ("sweep" : Str) b c d)) : Ev X e σ F H (UItem.v_sweep b c d.l) := h.re fun _ _ r => UItem.ofv_sweep.mp r
def UItem.inv_sweep (t : (T4 Str Bool Str (Tp UItem))) : Option UItem := if t.a = "sweep" then some (UItem.v_sweep t.b t.c t.d.l) else none
theorem UItem.evinv_sweep {t : (T4 Str Bool Str (Tp UItem))} (h : Ev X e σ F H t) (he : UItem.inv_sweep t = some x) : Ev X e σ F H x := by
  unfold UItem.inv_sweep at he
  split at he
  · rename_i ha
    cases he
    obtain ⟨a, b, c, d⟩ := t
    have ha : a = "sweep" := ha
    subst ha
    exact UItem.mkv_sweep h
  · cases he
theorem UItem.ev_tag {j : Nat} {p1 pos : Pos} (h : Ev X e σ F H x) : Ev X (.Subscript e (.Constant (.int 0) j p1) pos) σ F H x.tag := by
  cases x with
  | v_deed b c => exact ev_ixT (h.re fun _ _ r => (UItem.ofv_deed).mpr r) ev_int pj0
  | v_sweep b c d => exact ev_ixT (h.re fun _ _ r => (UItem.ofv_sweep (d := ⟨d⟩)).mpr r) ev_int pj0
end
instance : NN UItem := ⟨fun {K F x} h => by
  cases x with
  | v_deed b c => exact NN.nn (α := (T3 Str Int (Tp (T2 Int Int)))) ((UItem.ofv_deed).mpr h)
  | v_sweep b c d => exact NN.nn (α := (T4 Str Bool Str (Tp UItem))) ((UItem.ofv_sweep (d := ⟨d⟩)).mpr h)⟩
instance : Kd UItem := ⟨"tuple", fun {K F H v x} s h => by
  cases x with
  | v_deed b c => exact Kd.kd (α := (T3 Str Int (Tp (T2 Int Int)))) s ((UItem.ofv_deed).mpr h)
  | v_sweep b c d => exact Kd.kd (α := (T4 Str Bool Str (Tp UItem))) s ((UItem.ofv_sweep (d := ⟨d⟩)).mpr h)⟩
mutual
def UItem.D : UItem → PyData
  | .v_deed b c => .tuple [.str "deed", Pd.toD b, Pd.toD c]
  | .v_sweep b c d => .tuple [.str "sweep", Pd.toD b, Pd.toD c, .tuple (UItem.Ds d)]
def UItem.Ds : List UItem → List PyData
  | [] => []
  | x :: xs => UItem.D x :: UItem.Ds xs
end
mutual
theorem UItem.dp {K : PySem.W.Frag} {F : Hp} : ∀ (x : UItem) (v : V), UItem.R K F x v → Dp K F v (UItem.D x)
  | .v_deed b c, v, h => by
    rw [UItem.R] at h
    obtain ⟨p, w0, w1, w2, e, t, h0, h1, h2⟩ := h
    subst e; subst h0
    rw [UItem.D]
    exact .tup (SqT.of t) (.cons (.str _) (.cons (Pd.dp h1) (.cons (Pd.dp h2) .nil)))
  | .v_sweep b c d, v, h => by
    rw [UItem.R] at h
    obtain ⟨p, w0, w1, w2, w3, e, t, h0, h1, h2, ⟨q2, vs2, e2, t2, h3⟩⟩ := h
    subst e; subst h0; subst e2
    rw [UItem.D]
    exact .tup (SqT.of t) (.cons (.str _) (.cons (Pd.dp h1) (.cons (Pd.dp h2) (.cons (.tup (SqT.of t2) (UItem.dps d _ h3)) .nil))))
theorem UItem.dps {K : PySem.W.Frag} {F : Hp} : ∀ (x : List UItem) (v : List V), UItem.Rs K F x v → DpAll K F v (UItem.Ds x)
  | [], vs, h => by rw [UItem.Rs] at h; subst h; rw [UItem.Ds]; exact .nil
  | x :: xs, vs, h => by
    rw [UItem.Rs] at h
    obtain ⟨v, r, e, h1, h2⟩ := h
    subst e
    rw [UItem.Ds]
    exact .cons (UItem.dp x v h1) (UItem.dps xs r h2)
end
mutual
theorem UItem.eqv : ∀ x y : UItem, PyData.eqv (UItem.D x) (UItem.D y) = true ↔ x = y
  | .v_deed b1 c1, .v_deed b2 c2 => by
    simp [UItem.D, PyData.eqv, PyData.eqvAll, Pd.eq]
  | .v_deed b1 c1, .v_sweep b2 c2 d2 => by
    have h_ : ¬ (("deed" : Str) = "sweep") := by decide
    simp [UItem.D, PyData.eqv, PyData.eqvAll, h_]
  | .v_sweep b1 c1 d1, .v_deed b2 c2 => by
    have h_ : ¬ (("sweep" : Str) = "deed") := by decide
    simp [UItem.D, PyData.eqv, PyData.eqvAll, h_]
  | .v_sweep b1 c1 d1, .v_sweep b2 c2 d2 => by
    simp [UItem.D, PyData.eqv, PyData.eqvAll, Pd.eq, UItem.eqvs d1 d2]
theorem UItem.eqvs : ∀ x y : List UItem, PyData.eqvAll (UItem.Ds x) (UItem.Ds y) = true ↔ x = y
  | [], [] => by simp [UItem.Ds, PyData.eqvAll]
  | [], _ :: _ => by simp [UItem.Ds, PyData.eqvAll]
  | _ :: _, [] => by simp [UItem.Ds, PyData.eqvAll]
  | x :: xs, y :: ys => by
    rw [UItem.Ds, UItem.Ds, PyData.eqvAll, Bool.and_eq_true, UItem.eqv x y, UItem.eqvs xs ys, List.cons.injEq]
end
instance : Pd UItem := ⟨UItem.D, fun {K F v x} h => UItem.dp x v h, UItem.eqv⟩
instance : PdO UItem := ⟨fun x h => by cases x <;> (simp only [Pd.toD, UItem.D] at h; cases h)⟩
instance : DecidableEq UItem := fun x y => if h : PyData.eqv (UItem.D x) (UItem.D y) = true then isTrue ((UItem.eqv x y).mp h) else isFalse fun e => h ((UItem.eqv x y).mpr e)
mutual
theorem UItem.R_flat {K : PySem.W.Frag} {F : Hp} {l : Addr} (s_ : (∀ xs, ¬ F l = some (.tup xs)) ∧ (∀ o xs, ¬ F l = some (.frz o (.tup xs)))) : ∀ (x : UItem) (v : V), UItem.R K F x v → UItem.R K (er F l) x v
  | .v_deed b c, v, h => by
    rw [UItem.R] at h ⊢
    obtain ⟨p, w0, w1, w2, e, t, h0, h1, h2⟩ := h
    exact ⟨p, w0, w1, w2, e, er_seqT s_.1 s_.2 t, h0, Flat.fl (α := Int) s_.1 s_.2 h1, Flat.fl (α := (Tp (T2 Int Int))) s_.1 s_.2 h2⟩
  | .v_sweep b c d, v, h => by
    rw [UItem.R] at h ⊢
    obtain ⟨p, w0, w1, w2, w3, e, t, h0, h1, h2, ⟨q2, vs2, e2, t2, h3⟩⟩ := h
    exact ⟨p, w0, w1, w2, w3, e, er_seqT s_.1 s_.2 t, h0, Flat.fl (α := Bool) s_.1 s_.2 h1, Flat.fl (α := Str) s_.1 s_.2 h2, ⟨q2, vs2, e2, er_seqT s_.1 s_.2 t2, UItem.Rs_flat s_ d _ h3⟩⟩
theorem UItem.Rs_flat {K : PySem.W.Frag} {F : Hp} {l : Addr} (s_ : (∀ xs, ¬ F l = some (.tup xs)) ∧ (∀ o xs, ¬ F l = some (.frz o (.tup xs)))) : ∀ (x : List UItem) (v : List V), UItem.Rs K F x v → UItem.Rs K (er F l) x v
  | [], vs, h => by rw [UItem.Rs] at h ⊢; exact h
  | x :: xs, vs, h => by
    rw [UItem.Rs] at h ⊢
    obtain ⟨v, r, e, h1, h2⟩ := h
    exact ⟨v, r, e, UItem.R_flat s_ x v h1, UItem.Rs_flat s_ xs r h2⟩
end
instance : Flat UItem := ⟨fun {K F l v x} h1 h2 h => UItem.R_flat ⟨h1, h2⟩ x v h⟩
/-! ### records -/
structure QNumber where
  n : Int
  deriving DecidableEq
def fs_Number : List Str := ["n"]
abbrev QNumber.row (x : QNumber) := (x.n, ())
instance : Rp QNumber := ⟨fun K F v x => rpI "Number" fs_Number K F v x.row, rpI.mono⟩
instance : NN QNumber := ⟨rpI.nn⟩
structure QDeed where
  names : (Tn Str)
  lows : (Tp (T2 Str Int))
  highs : (Tp (T2 Str Int))
  table : Str
  spots : (Tp (T2 Str Int))
  term : QNumber
  path : (Tp Int)
def fs_Deed : List Str := ["names", "lows", "highs", "table", "spots", "term", "path"]
abbrev QDeed.row (x : QDeed) := (x.names, x.lows, x.highs, x.table, x.spots, x.term, x.path, ())
instance : Rp QDeed := ⟨fun K F v x => rpI "Deed" fs_Deed K F v x.row, rpI.mono⟩
instance : NN QDeed := ⟨rpI.nn⟩
structure QProgram where
  size : Int
  deeds : (List QDeed)
def fs_Program : List Str := ["size", "deeds"]
abbrev QProgram.row (x : QProgram) := (x.size, x.deeds, ())
instance : Rp QProgram := ⟨fun K F v x => rpI "Program" fs_Program K F v x.row, rpI.mono⟩
instance : NN QProgram := ⟨rpI.nn⟩
/-! ### mirrors -/
def m_at (x_script : (List Int)) (x_k : Int) : Option Int :=
  (some (((7919 : Int) * x_k) + (1 : Int))).bind fun x_number => (if (decide (x_k < (x_script.length : Int))) = true then (L2.atI x_script x_k).bind fun t3 => (some (x_number + t3)).bind fun x_number => some x_number else if (decide ((0 : Int) < (x_script.length : Int))) = true then (modG (x_k * (7 : Int)) (x_script.length : Int)).bind fun t4 => (L2.atI x_script t4).bind fun t5 => (some (((31 : Int) * x_number) + t5)).bind fun x_number => some x_number else some x_number).bind fun (b1 : Int) => (some ((b1 * (48271 : Int)) % (2147483647 : Int))).bind fun x_number => (mulG x_number x_number).bind fun t6 => some (t6 % (2147483629 : Int))
def m_digits (x_cell : Int) (x_sizes : (List Int)) : Option (List Int) :=
  (some ([] : List Int)).bind fun x_found => (loopN (fun (b1 : ((List Int) × Int)) (x_many : Int) => (modG b1.2 x_many).bind fun t5 => (app b1.1 t5).bind fun t6 => (divG b1.2 x_many).bind fun t7 => (some t7).bind fun x_cell => some (t6, x_cell)) (x_found, x_cell) x_sizes).bind fun (b8 : ((List Int) × Int)) => some b8.1
def m_loop (x_cell : Int) (x_loops : (List (T5 Str (T2 Str Int) (T2 Str Int) Int Int))) : Option (T5 Str (T2 Str Int) (T2 Str Int) Int Int) :=
  (m_digits x_cell [(5 : Int), (5 : Int), (3 : Int), (12 : Int), (3 : Int), (26 : Int), (40 : Int)]).bind fun t1 => (unlist7 t1).bind fun i2 => (some ("abcdefghijklmnopqrstuvwxyz" : Str)).bind fun x_letters => (sAt x_letters i2.f).bind fun t5 => (sAt x_letters (i2.g % (26 : Int))).bind fun t6 => (sMul t6 (i2.g / (26 : Int))).bind fun t7 => (sAdd t5 t7).bind fun t8 => (some t8).bind fun x_name => (whileN (fun (b9 : Str) => (compG (fun (x_loop_here : (T5 Str (T2 Str Int) (T2 Str Int) Int Int)) => some (some x_loop_here.a)) x_loops).bind fun t12 => some (decide (b9 ∈ t12))) (fun (b9 : Str) => (sAdd b9 ("q" : Str)).bind fun t13 => (some t13).bind fun x_name => some x_name) 100000 x_name).bind fun (b14 : Str) => (some (i2.b - (2 : Int))).bind fun x_at_here => if x_loops.isEmpty = true then (L2.atI [(1 : Int), (2 : Int), (0 : Int)] i2.c).bind fun t15 => (some ((x_at_here + t15) - ((3 : Int) * (if (decide (i2.d = (5 : Int))) = true then (1 : Int) else 0)))).bind fun x_high => some (T5.mk b14 (T2.mk ("" : Str) x_at_here) (T2.mk ("" : Str) x_high) x_at_here x_high) else (modG i2.e (x_loops.length : Int)).bind fun t16 => (L2.atI x_loops t16).bind fun t17 => (some t17).bind fun i18 => if (decide (i2.a = (0 : Int))) = true then (some ((x_at_here + (i2.c % (2 : Int))) - ((2 : Int) * (if (decide (i2.d = (5 : Int))) = true then (1 : Int) else 0)))).bind fun x_high_s3 => some (T5.mk b14 (T2.mk ("" : Str) x_at_here) (T2.mk ("" : Str) x_high_s3) x_at_here x_high_s3) else if (decide (i2.a = (1 : Int))) = true then (some ((if ((decide ((0 : Int) < i2.c)) && (decide ((i18.e - i18.d) < (3 : Int)))) = true then (1 : Int) else 0) - ((2 : Int) * (if (decide (i2.d = (5 : Int))) = true then (1 : Int) else 0)))).bind fun x_more => some (T5.mk b14 (T2.mk i18.a x_at_here) (T2.mk i18.a (x_at_here + x_more)) (i18.d + x_at_here) ((i18.e + x_at_here) + x_more)) else if (decide (i2.a = (2 : Int))) = true then (some ((i18.e + x_at_here) - (if (decide ((i2.d % (3 : Int)) = (1 : Int))) = true then (1 : Int) else 0))).bind fun x_high_s4 => some (T5.mk b14 (T2.mk i18.a x_at_here) (T2.mk ("" : Str) x_high_s4) (i18.d + x_at_here) x_high_s4) else if (decide (i2.a = (3 : Int))) = true then some (T5.mk b14 (T2.mk ("" : Str) (i18.d + x_at_here)) (T2.mk i18.a x_at_here) (i18.d + x_at_here) (i18.e + x_at_here)) else (modG (i2.e + (1 : Int)) (x_loops.length : Int)).bind fun t21 => (L2.atI x_loops t21).bind fun t22 => (some t22).bind fun x_other => (some (((i18.d + x_at_here) + (1 : Int)) + i2.c)).bind fun x_high_s5 => some (T5.mk b14 (T2.mk i18.a x_at_here) (T2.mk x_other.a (x_high_s5 - x_other.e)) (i18.d + x_at_here) x_high_s5)
def m_deeds (x_script : (List Int)) (x_first : Int) (x_count : Int) : Option (List (T3 (List (T5 Str (T2 Str Int) (T2 Str Int) Int Int)) (Tp Int) Int)) :=
  (some ([] : List (T3 (List (T5 Str (T2 Str Int) (T2 Str Int) Int Int)) (Tp Int) Int))).bind fun x_deeds_here => (rngG x_count).bind fun t1 => (loopN (fun (b2 : (List (T3 (List (T5 Str (T2 Str Int) (T2 Str Int) Int Int)) (Tp Int) Int))) (x_n : Int) => (m_at x_script (x_first + ((4 : Int) * x_n))).bind fun t6 => (m_digits t6 [(7 : Int), (4 : Int)]).bind fun t7 => (unlist2 t7).bind fun i8 => (L2.atI [(2 : Int), (1 : Int), (3 : Int), (2 : Int), (0 : Int), (1 : Int), (2 : Int)] i8.a).bind fun t11 => (some (if ((3 : Int) - (if (decide ((3 : Int) < x_count)) = true then (1 : Int) else 0)) < t11 then ((3 : Int) - (if (decide ((3 : Int) < x_count)) = true then (1 : Int) else 0)) else t11)).bind fun x_deep => (some ([] : List (T5 Str (T2 Str Int) (T2 Str Int) Int Int))).bind fun x_loops => (some (Tp.mk ([(0 : Int)] : List Int))).bind fun x_path => (some ([] : List (T5 Str (T2 Str Int) (T2 Str Int) Int Int))).bind fun x_old => (if (decide (x_n = (0 : Int))) = true then (some (0 : Int)).bind fun x_common => some (x_common, x_old, x_loops, x_path) else (L2.atI b2 (x_n - (1 : Int))).bind fun t14 => (some t14.a).bind fun x_old => (some (min3I i8.b (x_old.length : Int) x_deep)).bind fun x_common => (some (cut x_old none (some x_common))).bind fun x_loops => (L2.atI b2 (x_n - (1 : Int))).bind fun t15 => (L2.atI b2 (x_n - (1 : Int))).bind fun t16 => (L2.atI t16.b.l x_common).bind fun t17 => (catT (Tp.mk (cut t15.b.l none (some x_common))) (Tp.mk ([(t17 + (1 : Int))] : List Int))).bind fun t18 => (some t18).bind fun x_path => some (x_common, x_old, x_loops, x_path)).bind fun (b12 : (Int × (List (T5 Str (T2 Str Int) (T2 Str Int) Int Int)) × (List (T5 Str (T2 Str Int) (T2 Str Int) Int Int)) × (Tp Int))) => (whileN (fun (b19 : ((List (T5 Str (T2 Str Int) (T2 Str Int) Int Int)) × (Tp Int))) => some (decide ((b19.1.length : Int) < x_deep))) (fun (b19 : ((List (T5 Str (T2 Str Int) (T2 Str Int) Int Int)) × (Tp Int))) => (m_at x_script (((x_first + ((4 : Int) * x_n)) + (1 : Int)) + (b19.1.length : Int))).bind fun t22 => (some t22).bind fun x_cell => (eqG (cut b12.2.1 none (some (b19.1.length : Int))) b19.1).bind fun t23 => (if (t23 && ((decide ((b19.1.length : Int) < (b12.2.1.length : Int))) && (decide (((x_cell / (7 : Int)) % (3 : Int)) = (1 : Int))))) = true then (L2.atI b12.2.1 (b19.1.length : Int)).bind fun t26 => (catG b19.1 [t26]).bind fun t27 => (some t27).bind fun x_loops => some x_loops else (m_loop x_cell b19.1).bind fun t28 => (catG b19.1 [t28]).bind fun t29 => (some t29).bind fun x_loops => some x_loops).bind fun (b24 : (List (T5 Str (T2 Str Int) (T2 Str Int) Int Int))) => (catT b19.2 (Tp.mk ([(0 : Int)] : List Int))).bind fun t30 => (some t30).bind fun x_path => some (b24, x_path)) 100000 (b12.2.2.1, b12.2.2.2)).bind fun (b31 : ((List (T5 Str (T2 Str Int) (T2 Str Int) Int Int)) × (Tp Int))) => (app b2 (T3.mk b31.1 b31.2 b12.1)).bind fun t32 => some t32) x_deeds_here t1).bind fun (b33 : (List (T3 (List (T5 Str (T2 Str Int) (T2 Str Int) Int Int)) (Tp Int) Int))) => some b33
def m_told (x_spot : (T2 Str Int)) (x_scale : Int) (x_base : Int) : Option (T2 Str Int) :=
  if (decide (x_spot.a = ("" : Str))) = true then (mulG x_scale x_spot.b).bind fun t1 => some (T2.mk ("" : Str) (t1 + x_base)) else (mulG x_scale x_spot.b).bind fun t2 => some (T2.mk x_spot.a t2)
def m_Number_init (x_n : Int) : Option (Int × Unit) :=
  some (x_n, ())
def m_Deed_init (x_names : (Tn Str)) (x_lows : (Tp (T2 Str Int))) (x_highs : (Tp (T2 Str Int))) (x_table : Str) (x_spots : (Tp (T2 Str Int))) (x_term : QNumber) (x_path : (Tp Int)) : Option ((Tn Str) × (Tp (T2 Str Int)) × (Tp (T2 Str Int)) × Str × (Tp (T2 Str Int)) × QNumber × (Tp Int) × Unit) :=
  some (x_names, x_lows, x_highs, x_table, x_spots, x_term, x_path, ())
def m_told_deeds (x_deeds_here : (List (T3 (List (T5 Str (T2 Str Int) (T2 Str Int) Int Int)) (Tp Int) Int))) (x_scale : Int) (x_base : Int) : Option (List QDeed) :=
  (some ([] : List QDeed)).bind fun x_found => (loopN (fun (b1 : (List QDeed)) (i2 : (T3 (List (T5 Str (T2 Str Int) (T2 Str Int) Int Int)) (Tp Int) Int)) => (compG (fun (x_loop_here : (T5 Str (T2 Str Int) (T2 Str Int) Int Int)) => some (some x_loop_here.a)) i2.a).bind fun t7 => (some (Tn.mk t7)).bind fun x_names => (compG (fun (x_loop_here : (T5 Str (T2 Str Int) (T2 Str Int) Int Int)) => (m_told x_loop_here.b x_scale x_base).bind fun t8 => some (some t8)) i2.a).bind fun t9 => (some (Tp.mk t9)).bind fun x_lows => (compG (fun (x_loop_here : (T5 Str (T2 Str Int) (T2 Str Int) Int Int)) => (m_told x_loop_here.c x_scale x_base).bind fun t10 => some (some t10)) i2.a).bind fun t11 => (some (Tp.mk t11)).bind fun x_highs => (app b1 (QDeed.mk x_names x_lows x_highs ("a" : Str) (Tp.mk ([(T2.mk ("" : Str) (0 : Int))] : List (T2 Str Int))) (QNumber.mk (1 : Int)) i2.b)).bind fun t12 => some t12) x_found x_deeds_here).bind fun (b13 : (List QDeed)) => some b13
def m_Program_init (x_size : Int) (x_deeds : (List QDeed)) : Option (Int × (List QDeed) × Unit) :=
  some (x_size, x_deeds, ())
def m_shared (x_one : QDeed) (x_other : QDeed) : Option Int :=
  (some (0 : Int)).bind fun x_many => (whileN (fun (b1 : Int) => (if (decide (b1 < (x_one.names.l.length : Int))) = true then (if (decide (b1 < (x_other.names.l.length : Int))) = true then (L2.atI x_one.path.l b1).bind fun t4 => (L2.atI x_other.path.l b1).bind fun t5 => some (decide (t4 = t5)) else some false).bind fun t6 => some t6 else some false).bind fun t7 => some t7) (fun (b1 : Int) => (some (b1 + (1 : Int))).bind fun x_many => some x_many) 100000 x_many).bind fun (b8 : Int) => some b8
def m_own_items : Nat → (List QDeed) → Int → Int → Int → Option (Tp UItem)
  | 0, _, _, _, _ => none
  | n_ + 1, x_deeds, x_first, x_behind, x_depth =>
    (some ([] : List UItem)).bind fun x_items => (some x_first).bind fun x_at => (whileN (fun (b1 : ((List UItem) × Int)) => some (decide (b1.2 < x_behind))) (fun (b1 : ((List UItem) × Int)) => (some (b1.2 + (1 : Int))).bind fun x_upto => (L2.atI x_deeds b1.2).bind fun t4 => (if (decide ((t4.names.l.length : Int) = x_depth)) = true then (rngG x_depth).bind fun t7 => (compG (fun (x_e : Int) => some (some (T2.mk x_e (0 : Int)))) t7).bind fun t8 => (app b1.1 (UItem.v_deed b1.2 (Tp.mk t8))).bind fun t9 => some (t9, x_upto) else (whileN (fun (b10 : Int) => (if (decide (b10 < x_behind)) = true then (L2.atI x_deeds b1.2).bind fun t13 => (L2.atI x_deeds b10).bind fun t14 => (m_shared t13 t14).bind fun t15 => some (decide (x_depth < t15)) else some false).bind fun t16 => some t16) (fun (b10 : Int) => (some (b10 + (1 : Int))).bind fun x_upto => some x_upto) 100000 x_upto).bind fun (b17 : Int) => (m_own_items n_ x_deeds b1.2 b17 (x_depth + (1 : Int))).bind fun t18 => (app b1.1 (UItem.v_sweep false ("up" : Str) t18.l)).bind fun t19 => some (t19, b17)).bind fun (b5 : ((List UItem) × Int)) => (some b5.2).bind fun x_at => some (b5.1, x_at)) 100000 (x_items, x_at)).bind fun (b20 : ((List UItem) × Int)) => some (Tp.mk b20.1)
def m_own_plan (x_program : QProgram) : Option (Tp UItem) :=
  (m_own_items 10 x_program.deeds (0 : Int) (x_program.deeds.length : Int) (0 : Int)).bind fun t1 => some t1
def m_values (x_loops : (List (T5 Str (T2 Str Int) (T2 Str Int) Int Int))) : Option (List (Tp Int)) :=
  (some [(Tp.mk ([] : List Int))]).bind fun x_rows => (loopN (fun (b1 : (List (Tp Int))) (x_loop_here : (T5 Str (T2 Str Int) (T2 Str Int) Int Int)) => (some ([] : List (Tp Int))).bind fun x_grown => (loopN (fun (b5 : (List (Tp Int))) (x_row : (Tp Int)) => (some (Dct.mk (kvMerge [(("" : Str), (0 : Int))]) : (Dct Str Int))).bind fun x_worths => (loopN (fun (b9 : (Dct Str Int)) (i10 : (T2 (T5 Str (T2 Str Int) (T2 Str Int) Int Int) Int)) => (dputG b9 i10.a.a i10.b).bind fun t15 => some t15) x_worths (zipL x_loops x_row.l)).bind fun (b16 : (Dct Str Int)) => (b16.look x_loop_here.b.a).bind fun t17 => (some (t17 + x_loop_here.b.b)).bind fun x_low => (b16.look x_loop_here.c.a).bind fun t18 => (some (t18 + x_loop_here.c.b)).bind fun x_high => (rngG2 x_low (x_high + (1 : Int))).bind fun t19 => (loopN (fun (b20 : (List (Tp Int))) (x_value : Int) => (catT x_row (Tp.mk ([x_value] : List Int))).bind fun t24 => (app b20 t24).bind fun t25 => some t25) b5 t19).bind fun (b26 : (List (Tp Int))) => some b26) x_grown b1).bind fun (b27 : (List (Tp Int))) => (some b27).bind fun x_rows => some x_rows) x_rows x_loops).bind fun (b28 : (List (Tp Int))) => some b28
def m_before (x_one : (T2 Int (Tp Int))) (x_other : (T2 Int (Tp Int))) (x_deeds_here : (List (T3 (List (T5 Str (T2 Str Int) (T2 Str Int) Int Int)) (Tp Int) Int))) : Option Bool :=
  (some (if x_other.a < x_one.a then x_other.a else x_one.a)).bind fun x_low => (L2.atI x_deeds_here x_low).bind fun t1 => (some (t1.a.length : Int)).bind fun x_many => (rngG2 (x_low + (1 : Int)) ((if x_other.a > x_one.a then x_other.a else x_one.a) + (1 : Int))).bind fun t2 => (loopN (fun (b3 : Int) (x_k : Int) => (L2.atI x_deeds_here x_k).bind fun t7 => (some (if t7.c < b3 then t7.c else b3)).bind fun x_many => some x_many) x_many t2).bind fun (b8 : Int) => (rngG b8).bind fun t9 => (loopM (ρ := Bool) (fun (b10 : Unit) (x_e : Int) => (L2.atI x_one.b.l x_e).bind fun t14 => (L2.atI x_other.b.l x_e).bind fun t15 => if (!decide (t14 = t15)) = true then (L2.atI x_one.b.l x_e).bind fun t16 => (L2.atI x_other.b.l x_e).bind fun t17 => some (Lp.rt (decide (t16 < t17))) else some (Lp.nx ())) () t9).bind fun o12 => o12.thn (fun (b18 : Unit) => some (decide (x_one.a < x_other.a))) (fun (r_ : Bool) => some r_)
def m_ahead (x_program : QProgram) (x_one : (T2 Int (Tp Int))) (x_other : (T2 Int (Tp Int))) : Option Bool :=
  (L2.atI x_program.deeds x_one.a).bind fun t1 => (L2.atI x_program.deeds x_other.a).bind fun t2 => (m_shared t1 t2).bind fun t3 => (rngG t3).bind fun t4 => (loopM (ρ := Bool) (fun (b5 : Unit) (x_k : Int) => (L2.atI x_one.b.l x_k).bind fun t9 => (L2.atI x_other.b.l x_k).bind fun t10 => if (!decide (t9 = t10)) = true then (L2.atI x_one.b.l x_k).bind fun t11 => (L2.atI x_other.b.l x_k).bind fun t12 => some (Lp.rt (decide (t11 < t12))) else some (Lp.nx ())) () t4).bind fun o7 => o7.thn (fun (b13 : Unit) => some (decide (x_one.a < x_other.a))) (fun (r_ : Bool) => some r_)
def m_stand_within : Nat → (Tp UItem) → Int → (Tp Int) → Option (Option (T2 (Tp Int) (Tp (T2 Int Int))))
  | 0, _, _, _ => none
  | n_ + 1, x_items, x_k, x_path =>
    (loopM (ρ := (Option (T2 (Tp Int) (Tp (T2 Int Int))))) (fun (b1 : Unit) (i2 : (T2 Int UItem)) => (catT x_path (Tp.mk ([i2.a] : List Int))).bind fun t7 => (some t7).bind fun x_here => if (decide (i2.b.tag = ("sweep" : Str))) = true then (i2.b.asv_sweep).bind fun t8 => (m_stand_within n_ t8.d x_k x_here).bind fun t9 => (some t9).bind fun x_found => (match x_found with | none => some (Lp.nx ()) | some x_found => some (Lp.rt (some x_found))) else (i2.b.asv_deed).bind fun t10 => if (decide (t10.b = x_k)) = true then (i2.b.asv_deed).bind fun t11 => some (Lp.rt (some (T2.mk x_here t11.c))) else some (Lp.nx ())) () (enumL x_items.l)).bind fun o3 => o3.thn (fun (b12 : Unit) => some (none : (Option (T2 (Tp Int) (Tp (T2 Int Int)))))) (fun (r_ : (Option (T2 (Tp Int) (Tp (T2 Int Int))))) => some r_)
def m_stand (x_plan : (Tp UItem)) (x_k : Int) : Option (Option (T2 (Tp Int) (Tp (T2 Int Int)))) :=
  (m_stand_within 10 x_plan x_k (Tp.mk ([] : List Int))).bind fun t1 => some t1
def m_sweeps_within : Nat → (Tp UItem) → (Tp Int) → Option (List (T3 (Tp Int) Bool Str))
  | 0, _, _ => none
  | n_ + 1, x_items, x_path =>
    (some ([] : List (T3 (Tp Int) Bool Str))).bind fun x_found => (loopN (fun (b1 : (List (T3 (Tp Int) Bool Str))) (i2 : (T2 Int UItem)) => if (decide (i2.b.tag = ("sweep" : Str))) = true then (catT x_path (Tp.mk ([i2.a] : List Int))).bind fun t7 => (some t7).bind fun x_here => (i2.b.asv_sweep).bind fun t8 => (i2.b.asv_sweep).bind fun t9 => (app b1 (T3.mk x_here t8.b t9.c)).bind fun t10 => (i2.b.asv_sweep).bind fun t11 => (m_sweeps_within n_ t11.d x_here).bind fun t12 => (catG t10 t12).bind fun t13 => some t13 else some b1) x_found (enumL x_items.l)).bind fun (b14 : (List (T3 (Tp Int) Bool Str))) => some b14
def m_sweeps_of (x_plan : (Tp UItem)) : Option (List (T3 (Tp Int) Bool Str)) :=
  (m_sweeps_within 10 x_plan (Tp.mk ([] : List Int))).bind fun t1 => some t1
def m_time_of (x_turn : (T2 Int (Tp Int))) (x_pair : (T2 Int Int)) : Option Int :=
  (L2.atI x_turn.b.l x_pair.a).bind fun t1 => some (t1 + x_pair.b)
def m_order_of (x_program : QProgram) (x_plan : (Tp UItem)) (x_widths : (List Int)) (x_one : (T2 Int (Tp Int))) (x_other : (T2 Int (Tp Int))) : Option Int :=
  (m_stand x_plan x_one.a).bind fun t1 => (t1).bind fun t2 => (some t2).bind fun i3 => (m_stand x_plan x_other.a).bind fun t6 => (t6).bind fun t7 => (some t7).bind fun i8 => (some (0 : Int)).bind fun x_number => (m_sweeps_of x_plan).bind fun t11 => (loopM (ρ := Int) (fun (b12 : Int) (i13 : (T3 (Tp Int) Bool Str)) => (some (i13.a.l.length : Int)).bind fun x_upto => (eqG (Tp.mk (cut i3.a.l none (some x_upto))) i13.a).bind fun t18 => (if t18 = true then (eqG (Tp.mk (cut i8.a.l none (some x_upto))) i13.a).bind fun t19 => some t19 else some false).bind fun t20 => if t20 = true then (L2.atI i3.b.l (x_upto - (1 : Int))).bind fun t21 => (m_time_of x_one t21).bind fun t22 => (some t22).bind fun x_left => (L2.atI i8.b.l (x_upto - (1 : Int))).bind fun t23 => (m_time_of x_other t23).bind fun t24 => (some t24).bind fun x_right => (if i13.b = true then none else some (x_left, x_right)).bind fun (b25 : (Int × Int)) => if (!decide (b25.1 = b25.2)) = true then if (decide (i13.c = ("any" : Str))) = true then some (Lp.rt (0 : Int)) else some (Lp.rt ((1 : Int) - ((2 : Int) * (if (decide ((decide (b25.1 < b25.2)) = (decide (i13.c = ("up" : Str))))) = true then (1 : Int) else 0)))) else (some (b12 + (if i13.b = true then (1 : Int) else 0))).bind fun x_number => some (Lp.nx x_number) else (some (b12 + (if i13.b = true then (1 : Int) else 0))).bind fun x_number => some (Lp.nx x_number)) x_number t11).bind fun o14 => o14.thn (fun (b29 : Int) => some ((1 : Int) - ((2 : Int) * (if (HT.lexLt i3.a.l i8.a.l) = true then (1 : Int) else 0)))) (fun (r_ : Int) => some r_)
def m_law (x_script : (List Int)) : Option Bool :=
  (m_at x_script (0 : Int)).bind fun t1 => (m_deeds x_script (2 : Int) ((1 : Int) + (t1 % (6 : Int)))).bind fun t2 => (some t2).bind fun x_deeds_here => (some (0 : Int)).bind fun x_base => (m_at x_script (1 : Int)).bind fun t3 => (if (decide ((t3 % (2 : Int)) = (1 : Int))) = true then (m_at x_script (1 : Int)).bind fun t6 => (some (((t6 * (998244353 : Int)) % (((2 : Int) * (100000000000000000 : Int)) + (1 : Int))) - (100000000000000000 : Int))).bind fun x_base => some x_base else some x_base).bind fun (b4 : Int) => (m_told_deeds x_deeds_here (1 : Int) b4).bind fun t7 => (m_Program_init (97 : Int) t7).bind fun t8 => (some (QProgram.mk t8.1 t8.2.1)).bind fun x_program => (m_own_plan x_program).bind fun t9 => (some t9).bind fun x_plan => (some ([] : List (T2 Int (Tp Int)))).bind fun x_some => (loopN (fun (b10 : (List (T2 Int (Tp Int)))) (i11 : (T2 Int (T3 (List (T5 Str (T2 Str Int) (T2 Str Int) Int Int)) (Tp Int) Int))) => (m_values i11.b.a).bind fun t16 => (compG (fun (x_small : (Tp Int)) => (compG (fun (x_one : Int) => some (some (x_one + b4))) x_small.l).bind fun t17 => some (some (T2.mk i11.a (Tp.mk t17)))) t16).bind fun t18 => (catG b10 t18).bind fun t19 => some t19) x_some (enumL x_deeds_here)).bind fun (b20 : (List (T2 Int (Tp Int)))) => if (decide ((b20.length : Int) < (2 : Int))) = true then some true else (rngG2 (18 : Int) (if (78 : Int) < (if (22 : Int) > (x_script.length : Int) then (22 : Int) else (x_script.length : Int)) then (78 : Int) else (if (22 : Int) > (x_script.length : Int) then (22 : Int) else (x_script.length : Int)))).bind fun t21 => (loopM (ρ := Bool) (fun (b22 : Unit) (x_k : Int) => (m_at x_script x_k).bind fun t26 => (m_digits t26 [(b20.length : Int), ((b20.length : Int) - (1 : Int))]).bind fun t27 => (unlist2 t27).bind fun i28 => (L2.atI b20 i28.a).bind fun t31 => (some t31).bind fun x_one => (modG ((i28.a + (1 : Int)) + i28.b) (b20.length : Int)).bind fun t32 => (L2.atI b20 t32).bind fun t33 => (some t33).bind fun x_other => (m_before x_one x_other x_deeds_here).bind fun t34 => (some t34).bind fun x_due => (m_ahead x_program x_one x_other).bind fun t35 => (some t35).bind fun x_said => if ((!true) || (!decide (x_said = x_due))) = true then some (Lp.rt false) else (m_order_of x_program x_plan ([] : List Int) x_one x_other).bind fun t36 => (some t36).bind fun x_found => if ((!true) || (false || (!decide (x_found = ((1 : Int) - ((2 : Int) * (if x_due = true then (1 : Int) else 0))))))) = true then some (Lp.rt false) else some (Lp.nx ())) () t21).bind fun o24 => o24.thn (fun (b37 : Unit) => some true) (fun (r_ : Bool) => some r_)

/-! ### the mathematics -/
theorem az : cl ("abcdefghijklmnopqrstuvwxyz" : Str) = [97,98,99,100,101,102,103,104,105,106,107,108,109,110,111,112,113,114,115,116,117,118,119,120,121,122] := by decide +kernel
theorem az_at {i : Int} (h0 : 0 ≤ i) (h1 : i < 26) : sAt ("abcdefghijklmnopqrstuvwxyz" : Str) i = some ⟨#[97 + i.toNat]⟩ := by
  unfold sAt
  rw [if_pos (by rw [len_c, az, szl]; decide), atI_nn h0]
  show Option.map _ ((cl ("abcdefghijklmnopqrstuvwxyz" : Str))[i.toNat]?) = _
  rw [az]
  have : i = 0 ∨ i = 1 ∨ i = 2 ∨ i = 3 ∨ i = 4 ∨ i = 5 ∨ i = 6 ∨ i = 7 ∨ i = 8 ∨ i = 9 ∨ i = 10 ∨ i = 11 ∨ i = 12 ∨ i = 13 ∨ i = 14 ∨ i = 15 ∨ i = 16 ∨ i = 17 ∨ i = 18 ∨ i = 19 ∨ i = 20 ∨ i = 21 ∨ i = 22 ∨ i = 23 ∨ i = 24 ∨ i = 25 := by omega
  rcases this with h | h | h | h | h | h | h | h | h | h | h | h | h | h | h | h | h | h | h | h | h | h | h | h | h | h <;> subst h <;> rfl
theorem az_mod (i : Int) : sAt ("abcdefghijklmnopqrstuvwxyz" : Str) (i % 26) = some ⟨#[97 + (i % 26).toNat]⟩ := az_at (Int.emod_nonneg _ (by decide)) (Int.emod_lt_of_pos _ (by decide))
def small (l : List Nat) : Prop := ∀ c ∈ l, 97 ≤ c ∧ c ≤ 122
theorem small_app {a b : List Nat} (h1 : small a) (h2 : small b) : small (a ++ b) := fun c hc => (List.mem_append.mp hc).elim (h1 c) (h2 c)
theorem small_take {a : List Nat} (h1 : small a) (n : Nat) : small (a.take n) := fun c hc => h1 c (List.mem_of_mem_take hc)
theorem small_drop {a : List Nat} (h1 : small a) (n : Nat) : small (a.drop n) := fun c hc => h1 c (List.mem_of_mem_drop hc)
def wordsL : List (List Nat) := [[102, 111, 114], [101, 110, 100], [115, 105, 122, 101]]
def ren (z : List Nat) : List Nat := if z ∈ wordsL then 122 :: 122 :: z else z
theorem in_words (z : Str) : decide (z ∈ [("for" : Str), ("end" : Str), ("size" : Str)]) = decide (cl z ∈ wordsL) := by
  rw [decide_eq_decide]
  unfold wordsL
  simp only [List.mem_cons, List.not_mem_nil, or_false]
  have e1 : cl ("for" : Str) = [102, 111, 114] := by decide +kernel
  have e2 : cl ("end" : Str) = [101, 110, 100] := by decide +kernel
  have e3 : cl ("size" : Str) = [115, 105, 122, 101] := by decide +kernel
  constructor
  · rintro (h | h | h) <;> subst h
    · exact .inl e1
    · exact .inr (.inl e2)
    · exact .inr (.inr e3)
  · rintro (h | h | h)
    · exact .inl (cl_inj (h.trans e1.symm))
    · exact .inr (.inl (cl_inj (h.trans e2.symm)))
    · exact .inr (.inr (cl_inj (h.trans e3.symm)))
theorem emod_in (c : Int) {n : Int} (h : 0 < n) : 0 ≤ c % n ∧ c % n < n := ⟨Int.emod_nonneg _ (by omega), Int.emod_lt_of_pos _ h⟩
theorem at_ok (ns : List Int) {k : Int} (h0 : 0 ≤ k) : Ok (m_at ns k) fun v => 0 ≤ v ∧ v < 2147483629 := by
  unfold m_at
  refine .bindE rfl (.bind (P := fun _ => True) (Ok.dite (fun h => ?_) fun _ => Ok.dite (fun h => ?_) fun _ => .ret trivial) fun b _ => .bindE rfl ?_)
  · obtain ⟨v, e, _⟩ := atI_mem h0 h
    exact .bindE e (.bindE rfl (.ret trivial))
  · rw [modG_p h]
    exact .bindE rfl (.bind (atI_mem (emod_in _ h).1 (emod_in _ h).2) fun v _ => .bindE rfl (.ret trivial))
  · have h2 := emod_in (b * 48271) (show (0 : Int) < 2147483647 by decide)
    generalize b * 48271 % 2147483647 = x at *
    rw [mulG_l (by omega)]
    exact .bindE rfl (.ret (emod_in _ (by decide)))
theorem paired_snoc {α β : Type} {R : α → β → Prop} {xs : List α} {ys : List β} {x : α} {y : β} (h : Paired R xs ys) (r : R x y) : Paired R (xs ++ [x]) (ys ++ [y]) := by
  induction h with
  | nil => exact .cons r .nil
  | cons a _ ih => exact .cons a ih
theorem digits_ok (c : Int) (h0 : 0 ≤ c) (h1 : c < 2147483629) {sz : List Int} (hs : ∀ m ∈ sz, 0 < m ∧ m < 500000000) (hl : sz.length ≤ 1000) : Ok (m_digits c sz) fun r => Paired (fun (m d : Int) => 0 ≤ d ∧ d < m) sz r := by
  unfold m_digits
  refine .bindE rfl (.bind (P := fun b : List Int × Int => Paired (fun (m d : Int) => 0 ≤ d ∧ d < m) sz b.1) (Ok.loopN (J := fun (b : List Int × Int) ys => (∃ dn, sz = dn ++ ys ∧ Paired (fun (m d : Int) => 0 ≤ d ∧ d < m) dn b.1) ∧ 0 ≤ b.2 ∧ b.2 < 2147483629) ⟨⟨[], rfl, .nil⟩, h0, h1⟩ (fun b m ys ⟨⟨dn, e, p⟩, b0, b1⟩ => ?_) fun b ⟨⟨dn, e, p⟩, _, _⟩ => by rw [e, List.append_nil]; exact p) fun b hb => .ret hb)
  have hm := hs m (by rw [e]; exact List.mem_append_right _ List.mem_cons_self)
  rw [modG_p hm.1]
  have pl := p.length
  have el := congrArg List.length e
  rw [List.length_append, List.length_cons] at el
  refine .bindE rfl (.bindE (app_p (by omega)) ?_)
  rw [divG_p ⟨by omega, by omega⟩]
  refine .bindE rfl (.bindE rfl (.ret ⟨⟨dn ++ [m], by rw [e]; simp, paired_snoc p (emod_in _ hm.1)⟩, Int.ediv_nonneg b0 (by omega), ?_⟩))
  show b.2 / m < _
  exact Int.lt_of_le_of_lt (Int.ediv_le_self _ b0) b1
theorem dig2 {m1 m2 : Int} {r : List Int} (h : Paired (fun (m d : Int) => 0 ≤ d ∧ d < m) [m1, m2] r) : ∃ a b, r = [a, b] ∧ (0 ≤ a ∧ a < m1) ∧ (0 ≤ b ∧ b < m2) := by
  cases h with
  | cons h1 h => cases h with
    | cons h2 h => cases h; exact ⟨_, _, rfl, h1, h2⟩
theorem dig7 {m1 m2 m3 m4 m5 m6 m7 : Int} {r : List Int} (h : Paired (fun (m d : Int) => 0 ≤ d ∧ d < m) [m1, m2, m3, m4, m5, m6, m7] r) : ∃ a b c d e f g, r = [a, b, c, d, e, f, g] ∧ (0 ≤ a ∧ a < m1) ∧ (0 ≤ b ∧ b < m2) ∧ (0 ≤ c ∧ c < m3) ∧ (0 ≤ d ∧ d < m4) ∧ (0 ≤ e ∧ e < m5) ∧ (0 ≤ f ∧ f < m6) ∧ (0 ≤ g ∧ g < m7) := by
  cases h with
  | cons h1 h => cases h with
    | cons h2 h => cases h with
      | cons h3 h => cases h with
        | cons h4 h => cases h with
          | cons h5 h => cases h with
            | cons h6 h => cases h with
              | cons h7 h => cases h; exact ⟨_, _, _, _, _, _, _, rfl, h1, h2, h3, h4, h5, h6, h7⟩
/-! the deeds that are drawn: loops, path, how many loops are shared with the one ahead -/
abbrev LpT : Type := T5 Str (T2 Str Int) (T2 Str Int) Int Int
abbrev DdT : Type := T3 (List LpT) (Tp Int) Int
theorem small_sok {z : Str} (h : small (cl z)) : sok z := fun c hc => by have := (h c hc).2; omega
theorem sok_nil : sok ("" : Str) := by unfold sok; decide +kernel
structure Lw (x : LpT) : Prop where
  nm : small (cl x.a)
  lo : sok x.b.a
  hi : sok x.c.a
/-- the loop x at the place i of l -/
structure Lk (l : List LpT) (i : Nat) (x : LpT) : Prop where
  n : (cl x.a).length ≤ 3 + i
  s1 : x.b.a = ("" : Str) ∨ ∃ (j : Nat) (y : LpT), j < i ∧ l[j]? = some y ∧ y.a = x.b.a
  s2 : x.c.a = ("" : Str) ∨ ∃ (j : Nat) (y : LpT), j < i ∧ l[j]? = some y ∧ y.a = x.c.a
  d : -(5 + 5 * (i : Int)) ≤ x.d ∧ x.d ≤ 5 + 5 * (i : Int)
  e : -(5 + 5 * (i : Int)) ≤ x.e ∧ x.e ≤ 5 + 5 * (i : Int)
  o1 : -(5 + 10 * (i : Int)) ≤ x.b.b ∧ x.b.b ≤ 5 + 10 * (i : Int)
  o2 : -(5 + 10 * (i : Int)) ≤ x.c.b ∧ x.c.b ≤ 5 + 10 * (i : Int)
theorem Lk.to {l l' : List LpT} {i : Nat} {x : LpT} (h : Lk l i x) (hl : ∀ j, j < i → l'[j]? = l[j]?) : Lk l' i x :=
  ⟨h.n, h.s1.imp id fun ⟨j, y, a, b, c⟩ => ⟨j, y, a, by rw [hl j a]; exact b, c⟩, h.s2.imp id fun ⟨j, y, a, b, c⟩ => ⟨j, y, a, by rw [hl j a]; exact b, c⟩, h.d, h.e, h.o1, h.o2⟩
structure Lps (l : List LpT) : Prop where
  w : ∀ x ∈ l, Lw x
  k : ∀ (i : Nat) (x : LpT), l[i]? = some x → Lk l i x
theorem Lps.nil : Lps [] := ⟨fun _ h => (nomatch h), fun i x h => by simp at h⟩
theorem Lps.take {l : List LpT} (h : Lps l) (n : Nat) : Lps (l.take n) := ⟨fun x hx => h.w x (List.mem_of_mem_take hx), fun i x hx => by
  rw [List.getElem?_take] at hx
  split at hx
  · exact (h.k i x hx).to fun j hj => by rw [List.getElem?_take, if_pos (by omega)]
  · cases hx⟩
theorem Lps.snoc {l : List LpT} (h : Lps l) {x : LpT} (hw : Lw x) (hk : Lk l l.length x) : Lps (l ++ [x]) := ⟨fun y hy => by
  rcases List.mem_append.mp hy with m | m
  · exact h.w y m
  · rw [List.mem_singleton.mp m]; exact hw, fun i y hy => by
  by_cases hi : i < l.length
  · rw [List.getElem?_append_left hi] at hy
    exact (h.k i y hy).to fun j hj => List.getElem?_append_left (by omega)
  · have hl := (List.getElem?_eq_some_iff.mp hy).1
    rw [List.length_append, List.length_singleton] at hl
    have hi : i = l.length := by omega
    subst hi
    rw [List.getElem?_append_right (Nat.le_refl _), Nat.sub_self] at hy
    have : x = y := by simpa using hy
    subst this
    exact hk.to fun j hj => List.getElem?_append_left hj⟩
theorem Lps.tx {l : List LpT} (h : Lps l) : PdL.tx l := fun x hx => ⟨small_sok (h.w x hx).nm, ⟨(h.w x hx).lo, trivial, trivial⟩, ⟨(h.w x hx).hi, trivial, trivial⟩, trivial, trivial, trivial⟩
theorem loop_ok (c : Int) (h0 : 0 ≤ c) (h1 : c < 2147483629) {l : List LpT} (hl : Lps l) (h3 : l.length ≤ 3) : Ok (m_loop c l) fun x => Lw x ∧ Lk l l.length x := by
  unfold m_loop
  refine .bind (digits_ok c h0 h1 (by decide) (by decide)) fun r hr => ?_
  obtain ⟨a, b, c, d, e, f, g, rfl, ha, hb, hc, hd, he, hf, hg⟩ := dig7 hr
  refine .bindE rfl (.bindE rfl (.bindE (az_at hf.1 hf.2) (.bindE (az_mod g) ?_)))
  have eg : g / 26 = 0 ∨ g / 26 = 1 := by omega
  have hm := Int.emod_nonneg g (show (26 : Int) ≠ 0 by decide)
  have hm2 := Int.emod_lt_of_pos g (show (0 : Int) < 26 by decide)
  refine .bind (P := fun z => small (cl z) ∧ (cl z).length ≤ 1) ?_ fun t7 ⟨s7, l7⟩ => ?_
  · rcases eg with eg | eg
    · show Ok (sMul _ (g / 26)) _
      rw [eg]
      refine .of (x := ("" : Str)) ?_ ⟨fun c hc => ?_, by decide⟩
      · unfold sMul
        rw [if_pos (by refine ⟨by decide, by decide, ?_⟩; simp)]; rfl
      · have : cl ("" : Str) = [] := by decide +kernel
        rw [this] at hc; cases hc
    · show Ok (sMul _ (g / 26)) _
      rw [eg]
      refine .of (x := ⟨#[97 + (g % 26).toNat]⟩) ?_ ⟨fun c hc => ?_, Nat.le_refl _⟩
      · unfold sMul
        rw [if_pos (by refine ⟨by decide, by decide, ?_⟩; show 1 * 1 ≤ _; decide)]; rfl
      · have : c = 97 + (g % 26).toNat := by
          have hc : c ∈ [97 + (g % 26).toNat] := hc
          simpa using hc
        omega
  have e5 : cl (⟨#[97 + f.toNat]⟩ : Str) = [97 + f.toNat] := rfl
  refine .bind (sAdd_cl (by rw [e5, List.length_singleton]; omega)) fun t8 e8 => .bindE rfl ?_
  rw [e5] at e8
  have s8 : small (cl t8) := by
    rw [e8]; exact small_app (fun c hc => by rw [List.mem_singleton.mp hc]; omega) s7
  have l8 : (cl t8).length ≤ 2 := by rw [e8, List.length_append, List.length_singleton]; omega
  refine .bind (P := fun z : Str => small (cl z) ∧ (cl z).length ≤ 3 + l.length) (Ok.whileN (J := fun z : Str => small (cl z) ∧ (cl z).length ≤ 3 + l.length) (m := fun z => 10 - (cl z).length) ⟨s8, by omega⟩ (by omega) fun z ⟨sz, lz⟩ => ?_) fun z ⟨sz, lz⟩ => ?_
  · refine .bind (Ok.comp (P := fun ys => ys = l.map (·.a)) (fun x : LpT => x.a) (by omega) (fun x _ => rfl) rfl) fun ys hy => .ret ⟨fun t => ?_, fun _ => ⟨sz, lz⟩⟩
    subst hy
    obtain ⟨x, hx, ex⟩ := List.mem_map.mp (of_decide_eq_true t)
    obtain ⟨i, hi⟩ := List.mem_iff_getElem?.mp hx
    have := (hl.k i x hi).n
    have hlt := (List.getElem?_eq_some_iff.mp hi).1
    rw [ex] at this
    have eq : cl ("q" : Str) = [113] := by decide +kernel
    refine .bind (sAdd_cl (by rw [eq, List.length_singleton]; omega)) fun t e => .bindE rfl (.ret ?_)
    rw [eq] at e
    have el : (cl t).length = (cl z).length + 1 := by rw [e, List.length_append, List.length_singleton]
    exact ⟨⟨by rw [e]; exact small_app sz fun c hc => by rw [List.mem_singleton.mp hc]; decide, by omega⟩, by omega⟩
  refine .bindE rfl ?_
  refine Ok.ite (fun h => ?_) fun h => ?_
  · have l0 : l.length = 0 := by
      cases l with
      | nil => rfl
      | cons x r => cases h
    refine .bind (atI_mem (by exact hc.1) (by exact hc.2)) fun t ⟨ht, _⟩ => .bindE rfl (.ret ⟨⟨sz, sok_nil, sok_nil⟩, ⟨lz, .inl rfl, .inl rfl, ?_, ?_, ?_, ?_⟩⟩)
    · show -(5 + 5 * (l.length : Int)) ≤ b - 2 ∧ b - 2 ≤ 5 + 5 * (l.length : Int); omega
    · simp only [List.mem_cons, List.not_mem_nil, or_false] at ht
      show -(5 + 5 * (l.length : Int)) ≤ b - 2 + t - 3 * _ ∧ b - 2 + t - 3 * _ ≤ 5 + 5 * (l.length : Int)
      split <;> omega
    · show -(5 + 10 * (l.length : Int)) ≤ b - 2 ∧ b - 2 ≤ 5 + 10 * (l.length : Int); omega
    · simp only [List.mem_cons, List.not_mem_nil, or_false] at ht
      show -(5 + 10 * (l.length : Int)) ≤ b - 2 + t - 3 * _ ∧ b - 2 + t - 3 * _ ≤ 5 + 10 * (l.length : Int)
      split <;> omega
  have hp : (0 : Int) < l.length := by
    cases l with
    | nil => exact absurd rfl h
    | cons x r => simp only [List.length_cons]; omega
  have em := emod_in e hp
  show Ok ((modG e (l.length : Int)).bind _) _
  rw [modG_p hp]
  refine .bindE rfl (.bind (atI_mem em.1 em.2) fun x ⟨hx, hix⟩ => .bindE rfl ?_)
  have xs := small_sok (hl.w x hx).nm
  generalize hi0 : (e % (l.length : Int)).toNat = i0 at hix
  have kx := hl.k i0 x hix
  have i0l := (List.getElem?_eq_some_iff.mp hix).1
  have xd := kx.d
  have xe := kx.e
  have sx : ∃ (j : Nat) (y : LpT), j < l.length ∧ l[j]? = some y ∧ y.a = x.a := ⟨i0, x, i0l, hix, rfl⟩
  dsimp only
  have c2 : 0 ≤ c % 2 ∧ c % 2 ≤ 1 := by omega
  refine Ok.ite (fun _ => .bindE rfl (.ret ⟨⟨sz, sok_nil, sok_nil⟩, ⟨lz, .inl rfl, .inl rfl, ?_, ?_, ?_, ?_⟩⟩)) fun _ => ?_
  · show -(5 + 5 * (l.length : Int)) ≤ b - 2 ∧ b - 2 ≤ 5 + 5 * (l.length : Int); omega
  · show -(5 + 5 * (l.length : Int)) ≤ b - 2 + c % 2 - 2 * _ ∧ b - 2 + c % 2 - 2 * _ ≤ 5 + 5 * (l.length : Int)
    split <;> omega
  · show -(5 + 10 * (l.length : Int)) ≤ b - 2 ∧ b - 2 ≤ 5 + 10 * (l.length : Int); omega
  · show -(5 + 10 * (l.length : Int)) ≤ b - 2 + c % 2 - 2 * _ ∧ b - 2 + c % 2 - 2 * _ ≤ 5 + 10 * (l.length : Int)
    split <;> omega
  refine Ok.ite (fun _ => ?_) fun _ => ?_
  · refine .bind (P := fun m : Int => -2 ≤ m ∧ m ≤ 1) (.ret (by split <;> split <;> omega)) fun m hm => .ret ⟨⟨sz, xs, xs⟩, ⟨lz, .inr sx, .inr sx, ?_, ?_, ?_, ?_⟩⟩
    · show -(5 + 5 * (l.length : Int)) ≤ x.d + (b - 2) ∧ x.d + (b - 2) ≤ 5 + 5 * (l.length : Int); omega
    · show -(5 + 5 * (l.length : Int)) ≤ x.e + (b - 2) + m ∧ x.e + (b - 2) + m ≤ 5 + 5 * (l.length : Int); omega
    · show -(5 + 10 * (l.length : Int)) ≤ b - 2 ∧ b - 2 ≤ 5 + 10 * (l.length : Int); omega
    · show -(5 + 10 * (l.length : Int)) ≤ b - 2 + m ∧ b - 2 + m ≤ 5 + 10 * (l.length : Int); omega
  refine Ok.ite (fun _ => ?_) fun _ => ?_
  · refine .bind (P := fun m : Int => x.e + (b - 2) - 1 ≤ m ∧ m ≤ x.e + (b - 2)) (.ret (by split <;> omega)) fun m hm => .ret ⟨⟨sz, xs, sok_nil⟩, ⟨lz, .inr sx, .inl rfl, ?_, ?_, ?_, ?_⟩⟩
    · show -(5 + 5 * (l.length : Int)) ≤ x.d + (b - 2) ∧ x.d + (b - 2) ≤ 5 + 5 * (l.length : Int); omega
    · show -(5 + 5 * (l.length : Int)) ≤ m ∧ m ≤ 5 + 5 * (l.length : Int); omega
    · show -(5 + 10 * (l.length : Int)) ≤ b - 2 ∧ b - 2 ≤ 5 + 10 * (l.length : Int); omega
    · show -(5 + 10 * (l.length : Int)) ≤ m ∧ m ≤ 5 + 10 * (l.length : Int); omega
  refine Ok.ite (fun _ => .ret ⟨⟨sz, sok_nil, xs⟩, ⟨lz, .inl rfl, .inr sx, ?_, ?_, ?_, ?_⟩⟩) fun _ => ?_
  · show -(5 + 5 * (l.length : Int)) ≤ x.d + (b - 2) ∧ x.d + (b - 2) ≤ 5 + 5 * (l.length : Int); omega
  · show -(5 + 5 * (l.length : Int)) ≤ x.e + (b - 2) ∧ x.e + (b - 2) ≤ 5 + 5 * (l.length : Int); omega
  · show -(5 + 10 * (l.length : Int)) ≤ x.d + (b - 2) ∧ x.d + (b - 2) ≤ 5 + 10 * (l.length : Int); omega
  · show -(5 + 10 * (l.length : Int)) ≤ b - 2 ∧ b - 2 ≤ 5 + 10 * (l.length : Int); omega
  have em2 := emod_in (e + 1) hp
  show Ok ((modG (e + 1) (l.length : Int)).bind _) _
  rw [modG_p hp]
  refine .bindE rfl (.bind (atI_mem em2.1 em2.2) fun y ⟨hy, hiy⟩ => .bindE rfl (.bindE rfl (.ret ⟨⟨sz, xs, small_sok (hl.w y hy).nm⟩, ⟨lz, .inr sx, .inr ⟨_, y, (List.getElem?_eq_some_iff.mp hiy).1, hiy, rfl⟩, ?_, ?_, ?_, ?_⟩⟩)))
  · show -(5 + 5 * (l.length : Int)) ≤ x.d + (b - 2) ∧ x.d + (b - 2) ≤ 5 + 5 * (l.length : Int); omega
  · show -(5 + 5 * (l.length : Int)) ≤ x.d + (b - 2) + 1 + c ∧ x.d + (b - 2) + 1 + c ≤ 5 + 5 * (l.length : Int); omega
  · show -(5 + 10 * (l.length : Int)) ≤ b - 2 ∧ b - 2 ≤ 5 + 10 * (l.length : Int); omega
  · have ye := (hl.k _ y hiy).e
    have iyl := (List.getElem?_eq_some_iff.mp hiy).1
    show -(5 + 10 * (l.length : Int)) ≤ x.d + (b - 2) + 1 + c - y.e ∧ x.d + (b - 2) + 1 + c - y.e ≤ 5 + 10 * (l.length : Int)
    omega
structure Dd (x : DdT) : Prop where
  lp : Lps x.a
  n3 : x.a.length ≤ 3
  pl : x.b.l.length = x.a.length + 1
  c0 : 0 ≤ x.c
  c1 : x.c ≤ x.a.length
structure Nx (p x : DdT) : Prop where
  c : x.c ≤ p.a.length
  t : x.b.l.take x.c.toNat = p.b.l.take x.c.toNat
  v : ∃ v, p.b.l[x.c.toNat]? = some v ∧ x.b.l[x.c.toNat]? = some (v + 1)
  z : x.b.l.drop (x.c.toNat + 1) = List.replicate (x.a.length - x.c.toNat) 0
structure Dds (ds : List DdT) : Prop where
  d : ∀ x ∈ ds, Dd x
  nx : ∀ (i : Nat) (p x : DdT), ds[i]? = some p → ds[i + 1]? = some x → Nx p x
  h0 : ∀ x, ds[0]? = some x → x.c = 0 ∧ x.b.l = List.replicate (x.a.length + 1) 0
theorem Dds.take {ds : List DdT} (h : Dds ds) (n : Nat) : Dds (ds.take n) := by
  refine ⟨fun x hx => h.d x (List.mem_of_mem_take hx), fun i p x h1 h2 => ?_, fun x hx => ?_⟩
  · rw [List.getElem?_take] at h1 h2
    split at h1
    · split at h2
      · exact h.nx i p x h1 h2
      · cases h2
    · cases h1
  · rw [List.getElem?_take] at hx
    split at hx
    · exact h.h0 x hx
    · cases hx
theorem Dds.snoc {ds : List DdT} (h : Dds ds) {x : DdT} (hd : Dd x) (h0 : ds.length = 0 → x.c = 0 ∧ x.b.l = List.replicate (x.a.length + 1) 0) (hn : ∀ p, ds.length ≠ 0 → ds[ds.length - 1]? = some p → Nx p x) : Dds (ds ++ [x]) := by
  refine ⟨fun y hy => ?_, fun i p y h1 h2 => ?_, fun y hy => ?_⟩
  · rcases List.mem_append.mp hy with m | m
    · exact h.d y m
    · rw [List.mem_singleton.mp m]; exact hd
  · have hl := (List.getElem?_eq_some_iff.mp h2).1
    rw [List.length_append, List.length_singleton] at hl
    rw [List.getElem?_append_left (by omega)] at h1
    by_cases hi : i + 1 < ds.length
    · rw [List.getElem?_append_left hi] at h2
      exact h.nx i p y h1 h2
    · rw [List.getElem?_append_right (by omega), show i + 1 - ds.length = 0 by omega] at h2
      have : x = y := by simpa using h2
      subst this
      exact hn p (by omega) (by rw [show ds.length - 1 = i by omega]; exact h1)
  · by_cases hi : ds.length = 0
    · have : ds = [] := List.length_eq_zero_iff.mp hi
      subst this
      have : x = y := by simpa using hy
      subst this; exact h0 rfl
    · rw [List.getElem?_append_left (by omega)] at hy
      exact h.h0 y hy
theorem min3_le {a b c : Int} (ha : 0 ≤ a) (hb : 0 ≤ b) (hc : 0 ≤ c) : 0 ≤ min3I a b c ∧ min3I a b c ≤ b ∧ min3I a b c ≤ c := by
  unfold min3I
  split <;> split at * <;> omega
abbrev StD : Type := List LpT × Tp Int
theorem deeds_ok (ns : List Int) {n : Nat} (h1 : 1 ≤ n) (h6 : n ≤ 6) {first : Int} (hf : 0 ≤ first) : Ok (m_deeds ns first (n : Int)) fun ds => ds.length = n ∧ Dds ds := by
  unfold m_deeds
  refine .bindE rfl (.bindE (rngG_n (by omega)) (.bind (Ok.range (Q := fun ds : List DdT => ds.length = n ∧ Dds ds) (J := fun k ds => ds.length = k ∧ Dds ds) ⟨rfl, ⟨fun _ h => (nomatch h), fun i p x h => by simp at h, fun x h => by simp at h⟩⟩ (fun k ds hk ⟨hl, D⟩ => ?_) fun ds h => h) fun ds h => .ret h))
  refine .bind (at_ok ns (by omega)) fun u hu => .bind (digits_ok u hu.1 hu.2 (by decide) (by decide)) fun r hr => ?_
  obtain ⟨a, b, rfl, ha, hb⟩ := dig2 hr
  refine .bindE rfl (.bind (atI_mem ha.1 (by exact ha.2)) fun t ⟨ht, _⟩ => ?_)
  have ht2 : 0 ≤ t ∧ t ≤ 3 := by
    simp only [List.mem_cons, List.not_mem_nil, or_false] at ht
    omega
  refine .bind (P := fun d : Int => 0 ≤ d ∧ d ≤ 3) (.ret ?_) fun deep ⟨d0, d3⟩ => ?_
  · split <;> split at * <;> omega
  refine .bindE rfl (.bindE rfl (.bindE rfl ?_))
  refine .bind (P := fun z : Int × List LpT × List LpT × Tp Int => 0 ≤ z.1 ∧ z.1 ≤ deep ∧ Lps z.2.1 ∧ z.2.1.length ≤ 3 ∧ Lps z.2.2.1 ∧ (z.2.2.1.length : Int) = z.1 ∧ z.2.2.2.l.length = z.2.2.1.length + 1 ∧ (ds.length = 0 → z.1 = 0 ∧ z.2.2.2.l = [0]) ∧
    ∀ p, ds.length ≠ 0 → ds[ds.length - 1]? = some p → z.1 ≤ p.a.length ∧ z.2.2.2.l.take z.1.toNat = p.b.l.take z.1.toNat ∧ ∃ v, p.b.l[z.1.toNat]? = some v ∧ z.2.2.2.l[z.1.toNat]? = some (v + 1)) ?_ fun z ⟨z0, z1, z2, z3, z4, z5, z6, z7, z8⟩ => ?_
  · refine Ok.dite (fun hz => ?_) fun hz => ?_
    · have hz : k = 0 := by omega
      refine .bindE rfl (.ret ⟨Int.le_refl _, d0, .nil, Nat.zero_le _, .nil, rfl, rfl, fun _ => ⟨rfl, rfl⟩, fun p hp => absurd (by omega) hp⟩)
    · have hz : k ≠ 0 := fun e => hz (by omega)
      have hk1 : k - 1 < ds.length := by omega
      have hp := List.getElem?_eq_getElem hk1
      generalize ds[k - 1] = p at hp
      have dp := D.d p (List.mem_of_getElem? hp)
      have ep : L2.atI ds ((k : Int) - 1) = some p := by
        rw [show (k : Int) - 1 = ((k - 1 : Nat) : Int) by omega]
        exact atI_at hp
      obtain ⟨m0, m1, m2⟩ := min3_le hb.1 (Int.natCast_nonneg p.a.length) d0
      refine .bindE ep (.bindE rfl (.bindE rfl ?_))
      show Ok ((some (cut p.a none (some (min3I b (p.a.length : Int) deep)))).bind _) _
      generalize min3I b (p.a.length : Int) deep = c at m0 m1 m2
      have hcl : c.toNat < p.b.l.length := by have := dp.pl; omega
      have hv := List.getElem?_eq_getElem hcl
      generalize p.b.l[c.toNat] = v at hv
      have ev : L2.atI p.b.l c = some v := by rw [atI_nn m0]; exact hv
      have eq : cut p.b.l none (some c) = p.b.l.take c.toNat := cut_to m0
      have ea : cut p.a none (some c) = p.a.take c.toNat := cut_to m0
      refine .bindE rfl (.bindE ep (.bindE ep (.bindE ev ?_)))
      rw [eq, ea, catT_p (by have := dp.pl; have := dp.n3; show (p.b.l.take c.toNat).length + 1 ≤ _; rw [List.length_take]; omega)]
      have lt : (p.b.l.take c.toNat).length = c.toNat := by rw [List.length_take]; omega
      refine .bindE rfl (.bindE rfl (.ret ⟨m0, m2, dp.lp, dp.n3, dp.lp.take _, ?_, ?_, fun e => absurd e (by omega), fun p' _ hp' => ?_⟩))
      · show ((p.a.take c.toNat).length : Int) = c
        rw [List.length_take]; omega
      · show (p.b.l.take c.toNat ++ [v + 1]).length = (p.a.take c.toNat).length + 1
        rw [List.length_append, lt, List.length_take, List.length_singleton]; omega
      · rw [hl, hp] at hp'
        cases hp'
        refine ⟨m1, ?_, v, hv, ?_⟩
        · show (p.b.l.take c.toNat ++ [v + 1]).take c.toNat = _
          rw [List.take_append_of_le_length (by omega), List.take_take, Nat.min_self]
        · show (p.b.l.take c.toNat ++ [v + 1])[c.toNat]? = _
          rw [List.getElem?_append_right (by omega), lt, Nat.sub_self]; rfl
  refine .bind (P := fun w : StD => Lps w.1 ∧ (w.1.length : Int) = deep ∧ w.2.l.length = w.1.length + 1 ∧ ∃ k : Nat, w.2.l = z.2.2.2.l ++ List.replicate k 0) (Ok.whileN (J := fun w : StD => Lps w.1 ∧ (w.1.length : Int) ≤ deep ∧ w.2.l.length = w.1.length + 1 ∧ ∃ k : Nat, w.2.l = z.2.2.2.l ++ List.replicate k 0) (m := fun w => 3 - w.1.length) ⟨z4, by show (z.2.2.1.length : Int) ≤ deep; omega, z6, 0, (List.append_nil _).symm⟩ (by show 3 - z.2.2.1.length < _; omega) fun w ⟨w1, w2, w3, e, w4⟩ => .ret ⟨fun t => ?_, fun t => ⟨w1, ?_, w3, e, w4⟩⟩) fun w ⟨w1, w2, w3, e, w4⟩ => ?_
  · have t := of_decide_eq_true t
    refine .bind (at_ok ns (by omega)) fun q hq => .bindE rfl ?_
    have ec : cut z.2.1 none (some (w.1.length : Int)) = z.2.1.take w.1.length := by rw [cut_to (by omega), Int.toNat_natCast]
    rw [ec, eqG_L (z2.take _).tx w1.tx]
    refine .bindE rfl (.bind (P := fun l : List LpT => Lps l ∧ l.length = w.1.length + 1) (Ok.ite (fun h => ?_) fun h => ?_) fun l ⟨hl1, hl2⟩ => ?_)
    · have ho : w.1.length < z.2.1.length := by
        rw [Bool.and_eq_true, Bool.and_eq_true] at h
        have := of_decide_eq_true h.2.1
        omega
      have hx := List.getElem?_eq_getElem ho
      generalize z.2.1[w.1.length] = x at hx
      refine .bindE (atI_at hx) ?_
      rw [catG_p (by show w.1.length + 1 ≤ _; omega)]
      have eo := of_decide_eq_true (Bool.and_eq_true_iff.mp h).1
      exact .bindE rfl (.bindE rfl (.ret ⟨w1.snoc (z2.w x (List.mem_of_getElem? hx)) ((z2.k _ x hx).to fun j hj => by rw [← eo, List.getElem?_take, if_pos hj]), by rw [List.length_append]; rfl⟩))
    · refine .bind (loop_ok q hq.1 hq.2 w1 (by omega)) fun x ⟨x1, x2⟩ => ?_
      rw [catG_p (by show w.1.length + 1 ≤ _; omega)]
      exact .bindE rfl (.bindE rfl (.ret ⟨w1.snoc x1 x2, by rw [List.length_append]; rfl⟩))
    · rw [catT_p (by show w.2.l.length + 1 ≤ _; omega)]
      refine .bindE rfl (.bindE rfl (.ret ⟨⟨hl1, by show (l.length : Int) ≤ deep; omega, by show (w.2.l ++ [0]).length = l.length + 1; rw [List.length_append, List.length_singleton]; omega, e + 1, by show w.2.l ++ [0] = _; rw [w4, List.append_assoc, List.replicate_succ']⟩, by show 3 - l.length < 3 - w.1.length; omega⟩))
  · have t := of_decide_eq_false t
    omega
  · rw [app_p (by omega)]
    have hzl : z.2.2.2.l.length = z.1.toNat + 1 := by omega
    have ee : e = w.1.length - z.1.toNat := by
      have := congrArg List.length w4
      rw [List.length_append, List.length_replicate] at this
      omega
    refine .bindE rfl (.ret ⟨by rw [List.length_append, hl]; rfl, D.snoc ⟨w1, by show w.1.length ≤ 3; omega, w3, z0, by show z.1 ≤ w.1.length; omega⟩ (fun h => ⟨(z7 h).1, ?_⟩) fun p hp1 hp2 => ?_⟩)
    · obtain ⟨y1, y2⟩ := z7 h
      show w.2.l = List.replicate (w.1.length + 1) 0
      rw [w4, y2, ee, y1]
      show [0] ++ List.replicate (w.1.length - 0) 0 = _
      rw [Nat.sub_zero, List.replicate_succ]; rfl
    obtain ⟨p1, p2, v, p3, p4⟩ := z8 p hp1 hp2
    refine ⟨p1, ?_, ⟨v, p3, ?_⟩, ?_⟩
    · show w.2.l.take z.1.toNat = _
      rw [w4, List.take_append_of_le_length (by omega)]; exact p2
    · show w.2.l[z.1.toNat]? = _
      rw [w4, List.getElem?_append_left (by omega)]; exact p4
    · show w.2.l.drop (z.1.toNat + 1) = List.replicate (w.1.length - z.1.toNat) 0
      rw [w4, ← hzl, List.drop_left, ee]
/-! the own plan: its tree -/
abbrev RwT : Type := T3 Int Int Int
def prL (d : Nat) : List (T2 Int Int) := (intsF 0 d).map fun e => ⟨e, 0⟩
inductive Tr : Nat → List RwT → List UItem → Prop
  | nil (d : Nat) : Tr d [] []
  | deed {d : Nat} {x : RwT} {r : List RwT} {its : List UItem} : x.b = (d : Int) → Tr d r its → Tr d (x :: r) (.v_deed x.a ⟨prL d⟩ :: its)
  | sweep {d : Nat} {x : RwT} {g r : List RwT} {sub its : List UItem} : (d : Int) < x.b → (∀ y ∈ g, (d : Int) < y.c) → (∀ y, r.head? = some y → ¬ (d : Int) < y.c) → Tr (d + 1) (x :: g) sub → Tr d r its → Tr d (x :: (g ++ r)) (.v_sweep false "up" sub :: its)
theorem split_uniq {α : Type} {p : α → Prop} : ∀ {g r g' r' : List α}, (∀ y ∈ g, p y) → (∀ y, r.head? = some y → ¬ p y) → (∀ y ∈ g', p y) → (∀ y, r'.head? = some y → ¬ p y) → g ++ r = g' ++ r' → g = g' ∧ r = r'
  | [], _, [], _, _, _, _, _, e => ⟨rfl, e⟩
  | [], r, y :: g', r', _, h2, h3, _, e => absurd (h3 y List.mem_cons_self) (h2 y (by rw [show r = y :: (g' ++ r') from e]; rfl))
  | y :: g, r, [], r', h1, _, _, h4, e => absurd (h1 y List.mem_cons_self) (h4 y (by rw [← show y :: (g ++ r) = r' from e]; rfl))
  | y :: g, r, z :: g', r', h1, h2, h3, h4, e => by
    have e : y :: (g ++ r) = z :: (g' ++ r') := e
    obtain ⟨e1, e2⟩ := List.cons.inj e
    obtain ⟨a, b⟩ := split_uniq (fun w m => h1 w (List.mem_cons_of_mem _ m)) h2 (fun w m => h3 w (List.mem_cons_of_mem _ m)) h4 e2
    exact ⟨by rw [e1, a], b⟩
theorem Tr.inv {d : Nat} {rows : List RwT} {its : List UItem} (t : Tr d rows its) : (rows = [] ∧ its = []) ∨ (∃ x r i, rows = x :: r ∧ its = .v_deed x.a ⟨prL d⟩ :: i ∧ x.b = (d : Int) ∧ Tr d r i) ∨
    ∃ x g r s i, rows = x :: (g ++ r) ∧ its = .v_sweep false "up" s :: i ∧ (d : Int) < x.b ∧ (∀ y ∈ g, (d : Int) < y.c) ∧ (∀ y, r.head? = some y → ¬ (d : Int) < y.c) ∧ Tr (d + 1) (x :: g) s ∧ Tr d r i := by
  cases t with
  | nil => exact .inl ⟨rfl, rfl⟩
  | deed h t => exact .inr (.inl ⟨_, _, _, rfl, rfl, h, t⟩)
  | sweep h1 h2 h3 h4 h5 => exact .inr (.inr ⟨_, _, _, _, _, rfl, rfl, h1, h2, h3, h4, h5⟩)
theorem Tr.uniq {d : Nat} {rows : List RwT} {its : List UItem} (t : Tr d rows its) : ∀ {its' : List UItem}, Tr d rows its' → its = its' := by
  induction t with
  | nil d =>
    intro its' t'
    rcases t'.inv with ⟨_, e⟩ | ⟨x, r, i, e, _⟩ | ⟨x, g, r, s, i, e, _⟩
    · exact e.symm
    · cases e
    · cases e
  | deed h t ih =>
    intro its' t'
    rcases t'.inv with ⟨e, _⟩ | ⟨x, r, i, e, e2, _, t2⟩ | ⟨x, g, r, s, i, e, _, h2, _⟩
    · cases e
    · cases e
      rw [e2, ih t2]
    · cases e; omega
  | sweep h1 h2 h3 t1 t2 ih1 ih2 =>
    intro its' t'
    rcases t'.inv with ⟨e, _⟩ | ⟨x, r, i, e, _, h4, _⟩ | ⟨x, g, r, s, i, e, e2, _, g2, g3, u1, u2⟩
    · cases e
    · cases e; omega
    · obtain ⟨e3, e4⟩ := List.cons.inj e
      obtain ⟨e5, e6⟩ := split_uniq h2 h3 g2 g3 e4
      subst e3; subst e5; subst e6
      rw [e2, ih1 u1, ih2 u2]
theorem Tr.ne {d : Nat} {x : RwT} {r : List RwT} {its : List UItem} (t : Tr d (x :: r) its) : its ≠ [] := by
  rcases t.inv with ⟨e, _⟩ | ⟨_, _, _, _, e, _⟩ | ⟨_, _, _, _, _, _, e, _⟩
  · cases e
  · rw [e]; exact fun z => nomatch z
  · rw [e]; exact fun z => nomatch z
theorem drop_at {α : Type} {l : List α} {k : Nat} {x : α} (h : l[k]? = some x) : l.drop k = x :: l.drop (k + 1) := by
  obtain ⟨hk, rfl⟩ := List.getElem?_eq_some_iff.mp h
  exact List.drop_eq_getElem_cons hk
theorem prL_ok (d : Nat) (h : d ≤ 1000) : compG (fun (x_e : Int) => some (some (T2.mk x_e (0 : Int)))) (intsF 0 d) = some (prL d) := compG_map (by rw [szl, ints_len]; omega) fun _ _ => rfl
theorem outer {d : Nat} {step : List UItem × Int → Option (List UItem × Int)} (f : Nat) (bs : List RwT) (hl : bs.length ≤ 1000)
    (hs : ∀ (acc : List UItem) (k : Nat), k < bs.length → acc.length ≤ k → Ok (step (acc, ((f + k : Nat) : Int))) fun c => ∃ (k' : Nat) (it : UItem), c = (acc ++ [it], ((f + k' : Nat) : Int)) ∧ k < k' ∧ k' ≤ bs.length ∧ ∀ its, Tr d (bs.drop k') its → Tr d (bs.drop k) (it :: its)) :
    Ok (whileN (fun b => some (decide (b.2 < ((f + bs.length : Nat) : Int)))) step 100000 ([], ((f : Nat) : Int))) fun b => Tr d bs b.1 := by
  refine Ok.whileN (fun b : List UItem × Int => ∃ k : Nat, b.2 = ((f + k : Nat) : Int) ∧ k ≤ bs.length ∧ b.1.length ≤ k ∧ ∀ its, Tr d (bs.drop k) its → Tr d bs (b.1 ++ its)) (fun b => f + bs.length - b.2.toNat) ⟨0, rfl, Nat.zero_le _, Nat.le_refl _, fun its h => h⟩ (by show f + bs.length - f < 100000; omega) fun b ⟨k, e, hk, hi, ht⟩ => ?_
  obtain ⟨acc, p⟩ := b
  have e : p = ((f + k : Nat) : Int) := e
  subst e
  refine .ret ⟨fun hlt => ?_, fun hge => ?_⟩
  · have hlt := of_decide_eq_true hlt
    refine (hs acc k (by have : ((f + k : Nat) : Int) < ((f + bs.length : Nat) : Int) := hlt; omega) hi).mono fun c ⟨k', it, hc, g1, g2, g3⟩ => ?_
    subst hc
    refine ⟨⟨k', rfl, g2, by rw [List.length_append]; have : acc.length ≤ k := hi; simp; omega, fun its h => ?_⟩, by show f + bs.length - ((f + k' : Nat) : Int).toNat < f + bs.length - ((f + k : Nat) : Int).toNat; omega⟩
    rw [List.append_assoc]
    exact ht _ (g3 its h)
  · have hge := of_decide_eq_false hge
    have : k = bs.length := by
      have : ¬ ((f + k : Nat) : Int) < ((f + bs.length : Nat) : Int) := hge
      omega
    subst this
    have := ht [] (by rw [List.drop_length]; exact .nil d)
    rwa [List.append_nil] at this
theorem inner {d : Nat} {c : Int → Option Bool} (f : Nat) (bs : List RwT) (hl : bs.length ≤ 1000) (k : Nat) (hk : k < bs.length)
    (hc : ∀ k', k < k' → k' ≤ bs.length → (∀ y ∈ (bs.drop (k + 1)).take (k' - (k + 1)), (d : Int) < y.c) → Ok (c ((f + k' : Nat) : Int)) fun t => t = true ↔ ∃ y, bs[k']? = some y ∧ (d : Int) < y.c) :
    Ok (whileN c (fun u => some (u + 1)) 100000 ((f + (k + 1) : Nat) : Int)) fun u => ∃ k' : Nat, u = ((f + k' : Nat) : Int) ∧ k < k' ∧ k' ≤ bs.length ∧ (∀ y ∈ (bs.drop (k + 1)).take (k' - (k + 1)), (d : Int) < y.c) ∧ ∀ y, bs[k']? = some y → ¬ (d : Int) < y.c := by
  refine Ok.whileN (fun u : Int => ∃ k' : Nat, u = ((f + k' : Nat) : Int) ∧ k < k' ∧ k' ≤ bs.length ∧ ∀ y ∈ (bs.drop (k + 1)).take (k' - (k + 1)), (d : Int) < y.c) (fun u => f + bs.length - u.toNat) ⟨k + 1, rfl, Nat.lt_succ_self _, hk, fun y hy => by rw [Nat.sub_self, List.take_zero] at hy; cases hy⟩ (by show f + bs.length - (f + (k + 1)) < 100000; omega) fun u ⟨k', e', g1, g2, g3⟩ => ?_
  subst e'
  refine (hc k' g1 g2 g3).mono fun t ht => ⟨fun z => ?_, fun z => ?_⟩
  · obtain ⟨y, hy, w⟩ := ht.mp z
    have hlt2 := (List.getElem?_eq_some_iff.mp hy).1
    refine .ret ⟨⟨k' + 1, rfl, by omega, hlt2, fun v hv => ?_⟩, by show f + bs.length - (f + (k' + 1)) < f + bs.length - (f + k'); omega⟩
    have e3 : k' + 1 - (k + 1) = (k' - (k + 1)) + 1 := by omega
    rw [e3, List.take_succ] at hv
    rcases List.mem_append.mp hv with h | h
    · exact g3 v h
    · rw [List.getElem?_drop, show k + 1 + (k' - (k + 1)) = k' by omega, hy] at h
      have : v = y := by simpa using h
      rw [this]; exact w
  · exact ⟨k', rfl, g1, g2, g3, fun y hy w => by rw [ht.mpr ⟨y, hy, w⟩] at z; cases z⟩
theorem seg {bs : List RwT} {k k' : Nat} {x : RwT} (hx : bs[k]? = some x) (g1 : k < k') : (bs.drop k).take (k' - k) = x :: (bs.drop (k + 1)).take (k' - (k + 1)) := by
  rw [drop_at hx, show k' - k = (k' - (k + 1)) + 1 by omega, List.take_succ_cons]
theorem sweep_at {d : Nat} {bs : List RwT} {k k' : Nat} {x : RwT} {sub its : List UItem} (hx : bs[k]? = some x) (hd : (d : Int) < x.b) (g1 : k < k') (g3 : ∀ y ∈ (bs.drop (k + 1)).take (k' - (k + 1)), (d : Int) < y.c) (g4 : ∀ y, bs[k']? = some y → ¬ (d : Int) < y.c)
    (ht : Tr (d + 1) (x :: (bs.drop (k + 1)).take (k' - (k + 1))) sub) (h : Tr d (bs.drop k') its) : Tr d (bs.drop k) (.v_sweep false "up" sub :: its) := by
  have es : bs.drop k = x :: ((bs.drop (k + 1)).take (k' - (k + 1)) ++ bs.drop k') := by
    rw [drop_at hx]
    congr 1
    have e4 : bs.drop k' = (bs.drop (k + 1)).drop (k' - (k + 1)) := by rw [List.drop_drop]; congr 1; omega
    rw [e4, List.take_append_drop]
  rw [es]
  exact .sweep hd g3 (fun y hy => g4 y (by rw [List.head?_drop] at hy; exact hy)) ht h
/-! the own plan of deeds along their paths -/
structure Nq (p q : QDeed) (x : RwT) : Prop where
  c0 : 0 ≤ x.c
  c1 : x.c ≤ p.names.l.length
  c2 : x.c ≤ q.names.l.length
  t : q.path.l.take x.c.toNat = p.path.l.take x.c.toNat
  v : ∃ v, p.path.l[x.c.toNat]? = some v ∧ q.path.l[x.c.toNat]? = some (v + 1)
structure Al (rows : List RwT) (qs : List QDeed) : Prop where
  len : rows.length = qs.length
  a : ∀ (i : Nat) (x : RwT) (q : QDeed), rows[i]? = some x → qs[i]? = some q → x.a = (i : Int) ∧ x.b = (q.names.l.length : Int) ∧ q.names.l.length ≤ 3 ∧ q.path.l.length = q.names.l.length + 1
  nx : ∀ (i : Nat) (p q : QDeed) (x : RwT), qs[i]? = some p → qs[i + 1]? = some q → rows[i + 1]? = some x → Nq p q x
theorem take_eq_get {α : Type} {a b : List α} {n i : Nat} (h : a.take n = b.take n) (hi : i < n) : a[i]? = b[i]? := by
  have := congrArg (·[i]?) h
  simp only [List.getElem?_take, if_pos hi] at this
  exact this
theorem take_succ_eq {α : Type} {a b : List α} {n : Nat} (h : a.take n = b.take n) (h2 : a[n]? = b[n]?) : a.take (n + 1) = b.take (n + 1) := by
  rw [List.take_succ, List.take_succ, h, h2]
theorem take_le_eq {α : Type} {a b : List α} {m n : Nat} (h : a.take n = b.take n) (hm : m ≤ n) : a.take m = b.take m := by
  have := congrArg (List.take m) h
  rwa [List.take_take, List.take_take, Nat.min_eq_left hm] at this
theorem shared_val {p q : QDeed} (lp : p.path.l.length = p.names.l.length + 1) (lq : q.path.l.length = q.names.l.length + 1) (l3 : p.names.l.length ≤ 3) :
    Ok (m_shared p q) fun r => ∃ m : Nat, r = (m : Int) ∧ m ≤ p.names.l.length ∧ m ≤ q.names.l.length ∧ p.path.l.take m = q.path.l.take m ∧ ¬ (m < p.names.l.length ∧ m < q.names.l.length ∧ p.path.l[m]? = q.path.l[m]?) := by
  unfold m_shared
  refine .bindE rfl (.bind (Ok.whileN (Q := fun r : Int => ∃ m : Nat, r = (m : Int) ∧ m ≤ p.names.l.length ∧ m ≤ q.names.l.length ∧ p.path.l.take m = q.path.l.take m ∧ ¬ (m < p.names.l.length ∧ m < q.names.l.length ∧ p.path.l[m]? = q.path.l[m]?))
    (J := fun r : Int => ∃ m : Nat, r = (m : Int) ∧ m ≤ p.names.l.length ∧ m ≤ q.names.l.length ∧ p.path.l.take m = q.path.l.take m) (m := fun r => p.names.l.length - r.toNat) ⟨0, rfl, Nat.zero_le _, Nat.zero_le _, rfl⟩ (by omega) fun r ⟨m, e, m1, m2, m3⟩ => ?_) fun r h => .ret h)
  subst e
  refine .bind (P := fun t : Bool => t = true ↔ (m < p.names.l.length ∧ m < q.names.l.length ∧ p.path.l[m]? = q.path.l[m]?)) (Ok.dite (fun h1 => .bind (Ok.dite (fun h2 => ?_) fun h2 => .ret ?_) fun t ht => .ret ht) fun h1 => .ret ?_) fun t ht => .ret ⟨fun z => ?_, fun z => ?_⟩
  · have a1 := List.getElem?_eq_getElem (show m < p.path.l.length by omega)
    have a2 := List.getElem?_eq_getElem (show m < q.path.l.length by omega)
    refine .bindE (atI_at a1) (.bindE (atI_at a2) (.ret ?_))
    rw [decide_eq_true_iff]
    constructor
    · intro z; exact ⟨by omega, by omega, by rw [a1, a2, z]⟩
    · intro z; have z := z.2.2; rw [a1, a2] at z; exact Option.some.inj z
  · exact ⟨fun z => (by cases z), fun z => absurd z.2.1 (by omega)⟩
  · exact ⟨fun z => (by cases z), fun z => absurd z.1 (by omega)⟩
  · obtain ⟨z1, z2, z3⟩ := ht.mp z
    exact .bindE rfl (.ret ⟨⟨m + 1, rfl, z1, z2, take_succ_eq m3 z3⟩, by show p.names.l.length - (m + 1) < p.names.l.length - m; omega⟩)
  · exact ⟨m, rfl, m1, m2, m3, fun w => by rw [ht.mpr w] at z; cases z⟩
theorem shared_ok {p q : QDeed} (lp : p.path.l.length = p.names.l.length + 1) (lq : q.path.l.length = q.names.l.length + 1) (l3 : p.names.l.length ≤ 3) (d : Nat) :
    Ok (m_shared p q) fun r => (d : Int) < r ↔ (d < p.names.l.length ∧ d < q.names.l.length ∧ p.path.l.take (d + 1) = q.path.l.take (d + 1)) := by
  refine (shared_val lp lq l3).mono fun r ⟨m, e, m1, m2, m3, m4⟩ => ?_
  subst e
  constructor
  · intro h
    exact ⟨by omega, by omega, take_le_eq m3 (by omega)⟩
  · intro ⟨h1, h2, h3⟩
    by_cases hm : d < m
    · omega
    · exact absurd ⟨by omega, by omega, take_eq_get h3 (by omega)⟩ m4
theorem run_take {rows : List RwT} {qs : List QDeed} (A : Al rows qs) {d at_ : Nat} {q : QDeed} (hq : qs[at_]? = some q) : ∀ (m : Nat) (p : QDeed), qs[at_ + m]? = some p → (∀ i y, at_ < i → i ≤ at_ + m → rows[i]? = some y → (d : Int) < y.c) → p.path.l.take (d + 1) = q.path.l.take (d + 1)
  | 0, p, hp, _ => by
    have hp : qs[at_]? = some p := hp
    rw [hq] at hp; cases hp; rfl
  | m + 1, p, hp, h => by
    have hl := (List.getElem?_eq_some_iff.mp hp).1
    have hp0 := List.getElem?_eq_getElem (show at_ + m < qs.length by omega)
    have hy := List.getElem?_eq_getElem (show at_ + m + 1 < rows.length by rw [A.len]; omega)
    generalize qs[at_ + m] = p0 at hp0
    obtain ⟨y, hy⟩ : ∃ y, rows[at_ + m + 1]? = some y := ⟨_, hy⟩
    have N := A.nx _ _ _ _ hp0 hp hy
    have := h (at_ + m + 1) y (by omega) (by omega) hy
    rw [take_le_eq N.t (by omega)]
    exact run_take A hq m p0 hp0 fun i z a b => h i z a (by omega)
theorem own_ok {rows : List RwT} {qs : List QDeed} (A : Al rows qs) (hl : rows.length ≤ 1000) : ∀ (n d f e : Nat), 4 ≤ n + d → d ≤ 3 → f ≤ e → e ≤ rows.length → (∀ i x, f ≤ i → i < e → rows[i]? = some x → (d : Int) ≤ x.b) → Ok (m_own_items n qs (f : Int) (e : Int) (d : Int)) fun t => Tr d ((rows.drop f).take (e - f)) t.l
  | 0, d, f, e, h1, h2, _, _, _ => absurd h1 (by omega)
  | n + 1, d, f, e, h1, h2, hfe, he, hb => by
    rw [m_own_items]
    refine .bindE rfl (.bindE rfl (.bind (?_ : Ok _ fun b : List UItem × Int => Tr d ((rows.drop f).take (e - f)) b.1) fun b hb => .ret hb))
    have hA := A.len
    obtain ⟨bs, ebs⟩ : ∃ bs, bs = (rows.drop f).take (e - f) := ⟨_, rfl⟩
    have lbs : bs.length = e - f := by rw [ebs, List.length_take, List.length_drop]; omega
    have gbs : ∀ k, k < bs.length → bs[k]? = rows[f + k]? := fun k hk => by
      rw [ebs, List.getElem?_take, if_pos (by omega), List.getElem?_drop]
    rw [← ebs]
    have := outer (d := d) (f := f) bs (by omega) (step := fun (b1 : ((List UItem) × Int)) => (some (b1.2 + (1 : Int))).bind fun x_upto => (L2.atI qs b1.2).bind fun t4 => (if (decide ((t4.names.l.length : Int) = (d : Int))) = true then (rngG (d : Int)).bind fun t7 => (compG (fun (x_e : Int) => some (some (T2.mk x_e (0 : Int)))) t7).bind fun t8 => (app b1.1 (UItem.v_deed b1.2 (Tp.mk t8))).bind fun t9 => some (t9, x_upto) else (whileN (fun (b10 : Int) => (if (decide (b10 < (e : Int))) = true then (L2.atI qs b1.2).bind fun t13 => (L2.atI qs b10).bind fun t14 => (m_shared t13 t14).bind fun t15 => some (decide ((d : Int) < t15)) else some false).bind fun t16 => some t16) (fun (b10 : Int) => (some (b10 + (1 : Int))).bind fun x_upto => some x_upto) 100000 x_upto).bind fun (b17 : Int) => (m_own_items n qs b1.2 b17 ((d : Int) + (1 : Int))).bind fun t18 => (app b1.1 (UItem.v_sweep false ("up" : Str) t18.l)).bind fun t19 => some (t19, b17)).bind fun (b5 : ((List UItem) × Int)) => (some b5.2).bind fun x_at => some (b5.1, x_at)) fun acc k hk hi => ?_
    · rw [show f + bs.length = e by omega] at this; exact this
    have hx : bs[k]? = some bs[k] := List.getElem?_eq_getElem hk
    generalize bs[k] = x at hx
    have hxr : rows[f + k]? = some x := by rw [← gbs k hk]; exact hx
    have hq := List.getElem?_eq_getElem (show f + k < qs.length by omega)
    generalize qs[f + k] = q at hq
    obtain ⟨xa, xb, x3, xp⟩ := A.a _ _ _ hxr hq
    have xd := hb (f + k) x (by omega) (by omega) hxr
    refine .bindE rfl (.bindE (atI_at hq) ?_)
    refine .bind (P := fun c : List UItem × Int => ∃ (k' : Nat) (it : UItem), c = (acc ++ [it], ((f + k' : Nat) : Int)) ∧ k < k' ∧ k' ≤ bs.length ∧ ∀ its, Tr d (bs.drop k') its → Tr d (bs.drop k) (it :: its)) ?_ fun c hc => .bindE rfl (.ret (by obtain ⟨k', it, hc, g⟩ := hc; exact ⟨k', it, by rw [hc], g⟩))
    refine Ok.dite (fun hz => ?_) fun hz => ?_
    · refine .bindE (rngG_n (by omega)) (.bindE (prL_ok d (by omega)) (.bindE (app_p (show acc.length < _ by omega)) (.ret ⟨k + 1, _, rfl, Nat.lt_succ_self _, hk, fun its h => ?_⟩)))
      rw [drop_at hx]
      have := Tr.deed (d := d) (x := x) (by omega) h
      rw [xa] at this
      exact this
    · have hz : (d : Int) < x.b := by omega
      have inn := inner (d := d) (f := f) bs (by omega) k hk (c := fun (b10 : Int) => (if (decide (b10 < (e : Int))) = true then (L2.atI qs ((f + k : Nat) : Int)).bind fun t13 => (L2.atI qs b10).bind fun t14 => (m_shared t13 t14).bind fun t15 => some (decide ((d : Int) < t15)) else some false).bind fun t16 => some t16) fun k' g1 g2 g3 => ?_
      · refine .bind inn fun u ⟨k', e', g1, g2, g3, g4⟩ => ?_
        subst e'
        have es : (rows.drop (f + k)).take (f + k' - (f + k)) = x :: (bs.drop (k + 1)).take (k' - (k + 1)) := by
          rw [← seg hx g1, ebs, List.drop_take, List.drop_drop, List.take_take, Nat.min_eq_left (by omega), show f + k' - (f + k) = k' - k by omega]
        refine .bind (own_ok A hl n (d + 1) (f + k) (f + k') (by omega) (by omega) (by omega) (by omega) fun i y i1 i2 hy => ?_) fun t ht => .bindE (app_p (show acc.length < _ by omega)) (.ret ⟨k', _, rfl, g1, g2, fun its h => sweep_at hx hz g1 g3 g4 (by rw [← es]; exact ht) h⟩)
        by_cases hi : i = f + k
        · subst hi
          rw [hxr] at hy; cases hy; omega
        · have hm : y ∈ (bs.drop (k + 1)).take (k' - (k + 1)) := by
            refine List.mem_iff_getElem?.mpr ⟨i - (f + k + 1), ?_⟩
            rw [List.getElem?_take, if_pos (by omega), List.getElem?_drop, gbs _ (by omega), show f + (k + 1 + (i - (f + k + 1))) = i by omega]
            exact hy
          have c1 := g3 y hm
          have q1 := List.getElem?_eq_getElem (show i - 1 < qs.length by omega)
          have q2 := List.getElem?_eq_getElem (show i - 1 + 1 < qs.length by omega)
          have N := A.nx (i - 1) _ _ y q1 q2 (by rw [show i - 1 + 1 = i by omega]; exact hy)
          have := (A.a (i - 1 + 1) y _ (by rw [show i - 1 + 1 = i by omega]; exact hy) q2).2.1
          have := N.c2
          omega
      · refine .bind (P := fun t : Bool => t = true ↔ ∃ y, bs[k']? = some y ∧ (d : Int) < y.c) (Ok.dite (fun h => ?_) fun h => .ret ⟨fun z => (by cases z), fun ⟨y, hy, _⟩ => absurd (List.getElem?_eq_some_iff.mp hy).1 (by omega)⟩) fun t ht => .ret ht
        have hk' : k' < bs.length := by omega
        have hy := List.getElem?_eq_getElem hk'
        generalize bs[k'] = y at hy
        have hyr : rows[f + k']? = some y := by rw [← gbs k' hk']; exact hy
        have hq' := List.getElem?_eq_getElem (show f + k' < qs.length by omega)
        generalize qs[f + k'] = q' at hq'
        have hp' := List.getElem?_eq_getElem (show f + k' - 1 < qs.length by omega)
        generalize qs[f + k' - 1] = p' at hp'
        obtain ⟨_, yb, _, yp⟩ := A.a _ _ _ hyr hq'
        have N := A.nx (f + k' - 1) p' q' y hp' (by rw [show f + k' - 1 + 1 = f + k' by omega]; exact hq') (by rw [show f + k' - 1 + 1 = f + k' by omega]; exact hyr)
        have rt : p'.path.l.take (d + 1) = q.path.l.take (d + 1) := run_take A hq (k' - 1 - k) p' (by rw [show f + k + (k' - 1 - k) = f + k' - 1 by omega]; exact hp') fun i z i1 i2 hz => g3 z (List.mem_iff_getElem?.mpr ⟨i - (f + k + 1), by
          rw [List.getElem?_take, if_pos (by omega), List.getElem?_drop, gbs _ (by omega), show f + (k + 1 + (i - (f + k + 1))) = i by omega]; exact hz⟩)
        refine .bindE (atI_at hq) (.bindE (atI_at hq') (.bind (shared_ok xp yp x3 d) fun r hr => .ret ?_))
        rw [decide_eq_true_iff, hr]
        constructor
        · intro ⟨r1, r2, r3⟩
          refine ⟨y, hy, ?_⟩
          by_cases hc : (d : Int) < y.c
          · exact hc
          · obtain ⟨v, v1, v2⟩ := N.v
            have c0 := N.c0
            have e1 := take_eq_get r3 (show y.c.toNat < d + 1 by omega)
            have e2 := take_eq_get rt (show y.c.toNat < d + 1 by omega)
            rw [v1] at e2; rw [v2, ← e2] at e1
            have := Option.some.inj e1
            omega
        · intro ⟨y', hy', hc⟩
          rw [hy] at hy'; cases hy'
          have c2 := N.c2
          refine ⟨by omega, by omega, ?_⟩
          rw [take_le_eq N.t (by omega), rt]
/-! the deeds that are told -/
abbrev TdR (x : DdT) (q : QDeed) : Prop := q.names.l = x.a.map (·.a) ∧ q.path = x.b
theorem told_ok (sp : T2 Str Int) (base : Int) : Ok (m_told sp 1 base) fun _ => True := by
  unfold m_told
  refine Ok.dite (fun _ => ?_) fun _ => ?_
  · rw [mulG_l (by decide)]; exact .bindE rfl (.ret trivial)
  · rw [mulG_l (by decide)]; exact .bindE rfl (.ret trivial)
theorem told_deeds_ok {ds : List DdT} (D : Dds ds) (hl : ds.length ≤ 1000) (base : Int) : Ok (m_told_deeds ds 1 base) fun qs => Paired TdR ds qs := by
  unfold m_told_deeds
  refine .bindE rfl (.bind (Ok.loopN (Q := fun qs : List QDeed => Paired TdR ds qs) (J := fun (b : List QDeed) ys => ∃ dn, ds = dn ++ ys ∧ Paired TdR dn b) ⟨[], rfl, .nil⟩ (fun b x ys ⟨dn, e, p⟩ => ?_) fun b ⟨dn, e, p⟩ => by rw [e, List.append_nil]; exact p) fun qs h => .ret h)
  have hx := D.d x (by rw [e]; exact List.mem_append_right _ List.mem_cons_self)
  have n3 := hx.n3
  have pl := p.length
  have el := congrArg List.length e
  rw [List.length_append, List.length_cons] at el
  refine .bind (Ok.comp (P := fun ys => ys = x.a.map (·.a)) (fun y : LpT => y.a) (by omega) (fun y _ => rfl) rfl) fun nm hn => .bindE rfl ?_
  refine .bind (Ok.compR (R := fun _ _ => True) (P := fun _ => True) (by omega) (fun y _ => .bind (told_ok _ _) fun v _ => .ret ⟨v, rfl, trivial⟩) fun _ _ => trivial) fun lo _ => .bindE rfl ?_
  refine .bind (Ok.compR (R := fun _ _ => True) (P := fun _ => True) (by omega) (fun y _ => .bind (told_ok _ _) fun v _ => .ret ⟨v, rfl, trivial⟩) fun _ _ => trivial) fun hi _ => .bindE rfl ?_
  rw [app_p (by omega)]
  exact .bindE rfl (.ret ⟨dn ++ [x], by rw [e, List.append_assoc]; rfl, paired_snoc p ⟨hn, rfl⟩⟩)
def rwsF (ds : List DdT) : List RwT := (enumL ds).map fun i3 => ⟨i3.a, (i3.b.a.length : Int), i3.b.c⟩
theorem rwsF_len (ds : List DdT) : (rwsF ds).length = ds.length := by unfold rwsF; rw [List.length_map, enumF_len]
theorem rwsF_get {ds : List DdT} {i : Nat} {x : RwT} (h : (rwsF ds)[i]? = some x) : ∃ y, ds[i]? = some y ∧ x = ⟨(i : Int), (y.a.length : Int), y.c⟩ := by
  unfold rwsF at h
  rw [List.getElem?_map] at h
  obtain ⟨z, hz, e⟩ := Option.map_eq_some_iff.mp h
  obtain ⟨e1, e2⟩ := enumF_get hz
  exact ⟨z.b, e2, by rw [← e, e1, Int.zero_add]⟩
theorem paired_at {α β : Type} {R : α → β → Prop} {xs : List α} {ys : List β} (h : Paired R xs ys) {i : Nat} {x : α} {y : β} (hx : xs[i]? = some x) (hy : ys[i]? = some y) : R x y := by
  obtain ⟨x', e, r⟩ := Paired.get h hy
  rw [hx] at e; cases e; exact r
theorem al_ok {ds : List DdT} {qs : List QDeed} (D : Dds ds) (p : Paired TdR ds qs) : Al (rwsF ds) qs := by
  have pl := p.length
  refine ⟨by rw [rwsF_len]; exact pl, fun i x q hx hq => ?_, fun i a b x ha hb hx => ?_⟩
  · obtain ⟨y, hy, e⟩ := rwsF_get hx
    obtain ⟨r1, r2⟩ := paired_at p hy hq
    have dy := D.d y (List.mem_of_getElem? hy)
    have ln : q.names.l.length = y.a.length := by rw [r1, List.length_map]
    subst e
    exact ⟨rfl, by show (y.a.length : Int) = _; rw [ln], by rw [ln]; exact dy.n3, by rw [r2, ln]; exact dy.pl⟩
  · obtain ⟨y, hy, e⟩ := rwsF_get hx
    obtain ⟨z, hz, ra⟩ := Paired.get p ha
    have rb := paired_at p hy hb
    have dy := D.d y (List.mem_of_getElem? hy)
    have N := D.nx i z y hz hy
    subst e
    refine ⟨dy.c0, ?_, ?_, ?_, ?_⟩
    · rw [ra.1, List.length_map]; exact N.c
    · rw [rb.1, List.length_map]; exact dy.c1
    · rw [ra.2, rb.2]; exact N.t
    · rw [ra.2, rb.2]; exact N.v
theorem Al.take {rows : List RwT} {qs : List QDeed} (A : Al rows qs) (n : Nat) : Al (rows.take n) (qs.take n) := by
  refine ⟨by rw [List.length_take, List.length_take, A.len], fun i x q hx hq => ?_, fun i p q x hp hq hx => ?_⟩
  · rw [List.getElem?_take] at hx hq
    split at hx
    · rw [if_pos (by assumption)] at hq
      exact A.a i x q hx hq
    · cases hx
  · rw [List.getElem?_take] at hp hq hx
    split at hx
    · rename_i h
      rw [if_pos h] at hq
      rw [if_pos (by omega)] at hp
      exact A.nx i p q x hp hq hx
    · cases hx
theorem rows_c {ds : List DdT} (D : Dds ds) : ∀ x ∈ rwsF ds, 0 ≤ x.b ∧ x.b ≤ 3 ∧ x.c ≤ x.b := fun x hx => by
  obtain ⟨i, hi⟩ := List.mem_iff_getElem?.mp hx
  obtain ⟨y, hy, e⟩ := rwsF_get hi
  have dy := D.d y (List.mem_of_getElem? hy)
  have := dy.n3
  have := dy.c1
  subst e
  exact ⟨by show (0 : Int) ≤ (y.a.length : Int); omega, by show (y.a.length : Int) ≤ 3; omega, dy.c1⟩
abbrev WayT : Type := T2 Bool Str
abbrev BoughT : Type := T4 Int Int (List WayT) (Tp (T2 Int Int))
abbrev RowT : Type := T3 (Tp Int) Bool Str
def wayS (z : Str) : Prop := z = ("up" : Str) ∨ z = ("down" : Str) ∨ z = ("any" : Str)
/-- how many are split, how many are not -/
def nSp (l : List WayT) : Nat := (l.filter fun w => w.a).length
def nPl (l : List WayT) : Nat := (l.filter fun w => !w.a).length
def Ch : List WayT → List BoughT → Prop
  | _, [] => True
  | prior, x :: r => x.b ≤ prior.length ∧ x.c.take x.b.toNat = prior.take x.b.toNat ∧ Ch x.c r
theorem Ch.app : ∀ {prior : List WayT} {bs : List BoughT} {x : BoughT}, Ch prior bs → x.b ≤ ((bs.getLast?.map (·.c)).getD prior).length → x.c.take x.b.toNat = ((bs.getLast?.map (·.c)).getD prior).take x.b.toNat → Ch prior (bs ++ [x])
  | prior, [], x, _, h1, h2 => ⟨h1, h2, trivial⟩
  | prior, [y], x, ⟨a, b, _⟩, h1, h2 => ⟨a, b, h1, h2, trivial⟩
  | prior, y :: z :: r, x, ⟨a, b, c⟩, h1, h2 => ⟨a, b, Ch.app c h1 h2⟩
/-- one bough by itself -/
structure Bg (x : BoughT) : Prop where
  b0 : 0 ≤ x.b
  b2 : x.b ≤ x.c.length
  c6 : x.c.length ≤ 6
  ws : ∀ w ∈ x.c, wayS w.b
  sp : nSp x.c ≤ 3
  dl : x.d.l.length ≤ 6
/-! the tree of a row of boughs -/
inductive Tree : Nat → List BoughT → List UItem → Prop
  | nil (d : Nat) : Tree d [] []
  | deed {d : Nat} {x : BoughT} {r : List BoughT} {its : List UItem} : x.c.length = d → Tree d r its → Tree d (x :: r) (.v_deed x.a x.d :: its)
  | sweep {d : Nat} {x : BoughT} {g r : List BoughT} {w : WayT} {sub its : List UItem} : x.c[d]? = some w → (∀ y ∈ g, (d : Int) < y.b) → (∀ y, r.head? = some y → ¬ (d : Int) < y.b) → Tree (d + 1) (x :: g) sub → Tree d r its → Tree d (x :: (g ++ r)) (.v_sweep w.a w.b sub :: its)
theorem Ch.right : ∀ {g r : List BoughT} {prior : List WayT}, Ch prior (g ++ r) → ∃ p, Ch p r
  | [], r, prior, h => ⟨prior, h⟩
  | x :: g, r, prior, ⟨_, _, h⟩ => Ch.right (g := g) h
theorem Ch.left : ∀ {g r : List BoughT} {prior : List WayT}, Ch prior (g ++ r) → Ch prior g
  | [], r, prior, h => trivial
  | x :: g, r, prior, ⟨a, b, h⟩ => ⟨a, b, Ch.left h⟩
/-! paths -/
/-- the path behind the path q -/
def nxt (q : List Int) (y : BoughT) : List Int := q.take y.b.toNat ++ [q.getD y.b.toNat 0 + 1] ++ List.replicate (y.c.length - y.b.toNat) 0
def pr : List Int → List BoughT → List (BoughT × List Int)
  | _, [] => []
  | q, y :: r => (y, nxt q y) :: pr (nxt q y) r
def lastP : List Int → List BoughT → List Int
  | q, [] => q
  | q, y :: r => lastP (nxt q y) r
theorem pr_app : ∀ (g r : List BoughT) (q : List Int), pr q (g ++ r) = pr q g ++ pr (lastP q g) r
  | [], _, _ => rfl
  | y :: g, r, q => by
    show (y, nxt q y) :: pr (nxt q y) (g ++ r) = _
    rw [pr_app g r]; rfl
theorem pr_fst : ∀ (r : List BoughT) (q : List Int), (pr q r).map (·.1) = r
  | [], _ => rfl
  | y :: r, q => by
    show y :: (pr (nxt q y) r).map (·.1) = _
    rw [pr_fst r]
/-- the rows of a bough from a sweep on -/
def rwF (s : Nat) (z : BoughT × List Int) : List RowT := (List.range (z.1.c.length - s)).map fun j => ⟨⟨z.2.take (s + j + 1)⟩, (z.1.c.getD (s + j) ⟨true, ""⟩).a, (z.1.c.getD (s + j) ⟨true, ""⟩).b⟩
def rowsF (d : Nat) (x : BoughT) (q : List Int) (r : List BoughT) : List RowT := rwF d (x, q) ++ (pr q r).flatMap fun z => rwF z.1.b.toNat z
theorem rwF_cons {d : Nat} {x : BoughT} {q : List Int} {w : WayT} (h : x.c[d]? = some w) : rwF d (x, q) = ⟨⟨q.take (d + 1)⟩, w.a, w.b⟩ :: rwF (d + 1) (x, q) := by
  obtain ⟨hk, _⟩ := List.getElem?_eq_some_iff.mp h
  unfold rwF
  rw [show x.c.length - d = (x.c.length - (d + 1)) + 1 by omega, List.range_succ_eq_map, List.map_cons, List.map_map]
  have e : x.c.getD (d + 0) ⟨true, ""⟩ = w := by rw [List.getD_eq_getElem?_getD, Nat.add_zero, h]; rfl
  congr 1
  · show T3.mk (Tp.mk (q.take (d + 0 + 1))) (x.c.getD (d + 0) ⟨true, ""⟩).a (x.c.getD (d + 0) ⟨true, ""⟩).b = _
    rw [e]
  · refine List.map_congr_left fun j _ => ?_
    show T3.mk (Tp.mk (q.take (d + (j + 1) + 1))) (x.c.getD (d + (j + 1)) ⟨true, ""⟩).a (x.c.getD (d + (j + 1)) ⟨true, ""⟩).b = T3.mk (Tp.mk (q.take (d + 1 + j + 1))) (x.c.getD (d + 1 + j) ⟨true, ""⟩).a (x.c.getD (d + 1 + j) ⟨true, ""⟩).b
    rw [show d + (j + 1) = d + 1 + j by omega]
theorem rwF_nil {d : Nat} {z : BoughT × List Int} (h : z.1.c.length ≤ d) : rwF d z = [] := by
  unfold rwF
  rw [show z.1.c.length - d = 0 by omega]; rfl
theorem rwF_len (s : Nat) (z : BoughT × List Int) (h : z.1.c.length ≤ 6) : (rwF s z).length ≤ 6 := by
  unfold rwF
  rw [List.length_map, List.length_range]; omega
theorem flat_len : ∀ (l : List (BoughT × List Int)) (f : BoughT × List Int → Nat), (∀ z ∈ l, z.1.c.length ≤ 6) → (l.flatMap fun z => rwF (f z) z).length ≤ 6 * l.length
  | [], _, _ => Nat.zero_le _
  | z :: l, f, h => by
    have := flat_len l f fun y m => h y (List.mem_cons_of_mem _ m)
    have := rwF_len (f z) z (h z List.mem_cons_self)
    rw [List.flatMap_cons, List.length_append, List.length_cons]
    omega
theorem pr_len : ∀ (r : List BoughT) (q : List Int), (pr q r).length = r.length
  | [], _ => rfl
  | y :: r, q => congrArg (· + 1) (pr_len r (nxt q y))
theorem pr_mem {r : List BoughT} {q : List Int} {z : BoughT × List Int} (h : z ∈ pr q r) : z.1 ∈ r := by
  have : z.1 ∈ (pr q r).map (·.1) := List.mem_map_of_mem h
  rwa [pr_fst] at this
theorem nxt_len {q : List Int} {y : BoughT} (h0 : 0 ≤ y.b) (h1 : y.b ≤ q.length) (h2 : y.b ≤ y.c.length) : (nxt q y).length = y.c.length + 1 := by
  unfold nxt
  rw [List.length_append, List.length_append, List.length_take, List.length_replicate]
  simp only [List.length_cons, List.length_nil]
  omega
theorem nxt_take {q : List Int} {y : BoughT} {d : Nat} (h : (d : Int) < y.b) (h1 : y.b ≤ q.length) : (nxt q y).take (d + 1) = q.take (d + 1) := by
  unfold nxt
  rw [List.append_assoc, List.take_append_of_le_length (by rw [List.length_take]; omega), List.take_take, Nat.min_eq_left (by omega)]
theorem lastP_take {d : Nat} : ∀ {g : List BoughT} {x : BoughT} {q : List Int}, (∀ y ∈ g, (d : Int) < y.b) → Ch x.c g → (∀ y ∈ g, Bg y) → q.length = x.c.length + 1 → (lastP q g).take (d + 1) = q.take (d + 1)
  | [], _, _, _, _, _, _ => rfl
  | y :: g, x, q, h, ⟨c1, c2, c3⟩, hg, hq => by
    have by_ := hg y List.mem_cons_self
    have hb := h y List.mem_cons_self
    show (lastP (nxt q y) g).take (d + 1) = _
    rw [lastP_take (x := y) (fun z m => h z (List.mem_cons_of_mem _ m)) c3 (fun z m => hg z (List.mem_cons_of_mem _ m)) (nxt_len by_.b0 (by omega) by_.b2), nxt_take hb (by omega)]
theorem nxt_at {q p : List Int} {i : Int} {y : BoughT} {d : Nat} (hb : y.b = (d : Int)) (hp : p.length = d) (hq : q.take (d + 1) = p ++ [i]) : nxt q y = p ++ [i + 1] ++ List.replicate (y.c.length - d) 0 := by
  have e1 : q.take d = p := by
    have h := congrArg (List.take d) hq
    rw [List.take_take, Nat.min_eq_left (by omega)] at h
    rw [h, List.take_append_of_le_length (by omega), List.take_of_length_le (by omega)]
  have e2 : q.getD d 0 = i := by
    have h : (q.take (d + 1))[d]? = (p ++ [i])[d]? := by rw [hq]
    rw [List.getElem?_take_of_lt (by omega), List.getElem?_append_right (by omega), hp, Nat.sub_self] at h
    rw [List.getD_eq_getElem?_getD, h]; rfl
  unfold nxt
  rw [hb, Int.toNat_natCast, e1, e2]
theorem tree_nil {d : Nat} {its : List UItem} {bs : List BoughT} (t : Tree d bs its) (h : bs = []) : its = [] := by
  cases t with
  | nil => rfl
  | deed => cases h
  | sweep => cases h
def sstep (n_ : Nat) (x_path : Tp Int) : List RowT → T2 Int UItem → Option (List RowT) := fun (b1 : (List (T3 (Tp Int) Bool Str))) (i2 : (T2 Int UItem)) => if (decide (i2.b.tag = ("sweep" : Str))) = true then (catT x_path (Tp.mk ([i2.a] : List Int))).bind fun t7 => (some t7).bind fun x_here => (i2.b.asv_sweep).bind fun t8 => (i2.b.asv_sweep).bind fun t9 => (app b1 (T3.mk x_here t8.b t9.c)).bind fun t10 => (i2.b.asv_sweep).bind fun t11 => (m_sweeps_within n_ t11.d x_here).bind fun t12 => (catG t10 t12).bind fun t13 => some t13 else some b1
theorem sw_step (n : Nat) (its : Tp UItem) (p : Tp Int) : m_sweeps_within (n + 1) its p = (loopN (sstep n p) [] (enumL its.l)).bind fun b => some b := rfl
theorem take_rep {p : List Int} {i : Int} {k : Nat} : (p ++ [i] ++ List.replicate k 0).take (p.length + 1) = p ++ [i] := by
  rw [List.take_append_of_le_length (by simp), List.take_of_length_le (by simp)]
theorem rows_ok {d : Nat} {bs : List BoughT} {its : List UItem} (t : Tree d bs its) : ∀ (m i : Nat) (b : List RowT) (p : List Int), 6 ≤ m + d → d ≤ 6 → (∀ x ∈ bs, Bg x) → (∀ y ∈ bs.tail, (d : Int) ≤ y.b) → (∃ prior, Ch prior bs) → p.length = d → b.length + 7 * bs.length ≤ 10000 →
    ∀ x r, bs = x :: r → ∀ q, q = p ++ [(i : Int)] ++ List.replicate (x.c.length - d) 0 → d ≤ x.c.length → loopN (sstep m ⟨p⟩) b (enumF (i : Int) its) = some (b ++ rowsF d x q r) := by
  induction t with
  | nil d => intro m i b p _ _ _ _ _ _ _ x r e; cases e
  | @deed d x r its hc t ih =>
    intro m i b p h1 h2 hb ht ⟨pri, hch⟩ hp hl x0 r0 e q hq hx
    cases e
    have st : sstep m ⟨p⟩ b ⟨(i : Int), .v_deed x.a x.d⟩ = some b := if_neg (by show ¬ decide (("deed" : Str) = "sweep") = true; decide)
    show loopN (sstep m ⟨p⟩) b (⟨(i : Int), .v_deed x.a x.d⟩ :: enumF ((i : Int) + 1) its) = _
    rw [loopN_cons st]
    unfold rowsF
    rw [rwF_nil (by show x.c.length ≤ d; omega), List.nil_append]
    cases hr : r with
    | nil =>
      rw [tree_nil t hr]
      show some b = some (b ++ [])
      rw [List.append_nil]
    | cons y r' =>
      subst hr
      obtain ⟨_, _, hch2⟩ := hch
      have yb : y.b = (d : Int) := by
        have a := ht y List.mem_cons_self
        have := hch2.1
        omega
      have e2 : q.take (d + 1) = p ++ [(i : Int)] := by
        rw [hq, ← hp]; exact take_rep
      have en := nxt_at yb hp e2
      have yg := hb y (List.mem_cons_of_mem _ List.mem_cons_self)
      have := ih m (i + 1) b p h1 h2 (fun z m => hb z (List.mem_cons_of_mem _ m)) (fun z m => ht z (List.mem_cons_of_mem _ m)) ⟨_, hch2⟩ hp (by simp only [List.length_cons] at hl ⊢; omega) y r' rfl (nxt q y) (by rw [en]; simp) (by have := yg.b2; omega)
      rw [show ((i : Int) + 1) = ((i + 1 : Nat) : Int) by omega, this]
      unfold rowsF
      show _ = some (b ++ (((y, nxt q y) :: pr (nxt q y) r').flatMap fun z => rwF z.1.b.toNat z))
      rw [List.flatMap_cons]
      show _ = some (b ++ (rwF y.b.toNat (y, nxt q y) ++ _))
      rw [yb, Int.toNat_natCast]
  | @sweep d x g r w sub its hw hg hr tsub tr ihs ihr =>
    intro m i b p h1 h2 hb ht ⟨pri, hch⟩ hp hl x0 r0 e q hq hx
    cases e
    obtain ⟨hk, _⟩ := List.getElem?_eq_some_iff.mp hw
    have xg := hb x List.mem_cons_self
    have hch2 : Ch x.c (g ++ r) := hch.2.2
    have e2 : q.take (d + 1) = p ++ [(i : Int)] := by
      rw [hq, ← hp]; exact take_rep
    have ql : q.length = x.c.length + 1 := by
      rw [hq, List.length_append, List.length_append, List.length_replicate, hp]
      simp only [List.length_cons, List.length_nil]
      omega
    obtain ⟨m', rfl⟩ : ∃ m', m = m' + 1 := ⟨m - 1, by have := xg.c6; omega⟩
    have hgb : ∀ y ∈ g, Bg y := fun y m => hb y (List.mem_cons_of_mem _ (List.mem_append_left _ m))
    simp only [List.length_cons, List.length_append] at hl
    have sub_ok := ihs m' 0 [] (p ++ [(i : Int)]) (by omega) (by have := xg.c6; omega) (fun z m => by
        rcases List.mem_cons.mp m with h | h
        · rw [h]; exact xg
        · exact hgb z h) (fun y m => by have := hg y m; omega) ⟨pri, hch.1, hch.2.1, Ch.left hch2⟩ (by rw [List.length_append, hp]; rfl) (by simp only [List.length_nil, List.length_cons]; omega) x g rfl q (by
        rw [hq, show x.c.length - d = (x.c.length - (d + 1)) + 1 by omega, List.replicate_succ]
        simp) hk
    have lenR : (rowsF (d + 1) x q g).length ≤ 6 + 6 * g.length := by
      unfold rowsF
      rw [List.length_append]
      have := rwF_len (d + 1) (x, q) xg.c6
      have := flat_len (pr q g) (fun z => z.1.b.toNat) fun z m => (hgb _ (pr_mem m)).c6
      rw [pr_len] at this
      omega
    have st : sstep (m' + 1) ⟨p⟩ b ⟨(i : Int), .v_sweep w.a w.b sub⟩ = some (b ++ (⟨⟨p ++ [(i : Int)]⟩, w.a, w.b⟩ :: rowsF (d + 1) x q g)) := by
      unfold sstep
      rw [if_pos (by show decide (("sweep" : Str) = "sweep") = true; decide), catT_p (by show p.length + 1 ≤ _; omega)]
      show (app b (T3.mk (Tp.mk (p ++ [(i : Int)])) w.a w.b)).bind _ = _
      rw [app_p (by omega)]
      show (m_sweeps_within (m' + 1) ⟨sub⟩ ⟨p ++ [(i : Int)]⟩).bind _ = _
      rw [sw_step]
      have : loopN (sstep m' ⟨p ++ [(i : Int)]⟩) [] (enumL sub) = some (rowsF (d + 1) x q g) := by
        have := sub_ok
        rwa [List.nil_append] at this
      show ((loopN (sstep m' ⟨p ++ [(i : Int)]⟩) [] (enumL sub)).bind fun b => some b).bind _ = _
      rw [this]
      show (catG (b ++ [_]) (rowsF (d + 1) x q g)).bind _ = _
      rw [catG_p (by rw [List.length_append]; simp only [List.length_cons, List.length_nil]; omega)]
      simp
    show loopN (sstep (m' + 1) ⟨p⟩) b (⟨(i : Int), .v_sweep w.a w.b sub⟩ :: enumF ((i : Int) + 1) its) = _
    rw [loopN_cons st]
    have head : (⟨⟨p ++ [(i : Int)]⟩, w.a, w.b⟩ :: rowsF (d + 1) x q g : List RowT) = rowsF d x q g := by
      unfold rowsF
      rw [rwF_cons hw, e2]; rfl
    rw [head]
    cases hrr : r with
    | nil =>
      rw [tree_nil tr hrr, List.append_nil]; rfl
    | cons y r' =>
      subst hrr
      have yb : y.b = (d : Int) := by
        have a := ht y (List.mem_append_right _ List.mem_cons_self)
        have := hr y rfl
        omega
      have e3 : (lastP q g).take (d + 1) = p ++ [(i : Int)] := by
        rw [lastP_take (x := x) hg (Ch.left hch2) hgb ql, e2]
      have en := nxt_at yb hp e3
      have yg := hb y (List.mem_cons_of_mem _ (List.mem_append_right _ List.mem_cons_self))
      obtain ⟨pri2, hch3⟩ := Ch.right hch2
      have lenD : (rowsF d x q g).length ≤ 7 + 6 * g.length := by
        rw [← head, List.length_cons]; omega
      have := ihr (m' + 1) (i + 1) (b ++ rowsF d x q g) p h1 h2 (fun z m => hb z (List.mem_cons_of_mem _ (List.mem_append_right _ m))) (fun z m => ht z (List.mem_append_right _ (List.mem_cons_of_mem _ m))) ⟨pri2, hch3⟩ hp (by simp only [List.length_cons, List.length_append] at hl ⊢; omega) y r' rfl (nxt (lastP q g) y) (by rw [en]; simp) (by have := yg.b2; omega)
      rw [show ((i : Int) + 1) = ((i + 1 : Nat) : Int) by omega, this]
      unfold rowsF
      rw [pr_app, List.flatMap_append]
      show _ = some (b ++ (rwF d (x, q) ++ ((pr q g).flatMap _ ++ (((y, nxt (lastP q g) y) :: pr (nxt (lastP q g) y) r').flatMap fun z => rwF z.1.b.toNat z))))
      rw [List.flatMap_cons]
      show _ = some (b ++ (rwF d (x, q) ++ ((pr q g).flatMap _ ++ (rwF y.b.toNat (y, nxt (lastP q g) y) ++ _))))
      rw [yb, Int.toNat_natCast]
      simp only [List.append_assoc]
/-! where a deed stands -/
abbrev StT : Type := T2 (Tp Int) (Tp (T2 Int Int))
def fnd (k : Int) : List (BoughT × List Int) → Option StT
  | [] => none
  | z :: r => if z.1.a = k then some ⟨⟨z.2⟩, z.1.d⟩ else fnd k r
theorem fnd_app (k : Int) : ∀ a b : List (BoughT × List Int), fnd k (a ++ b) = match fnd k a with | some r => some r | none => fnd k b
  | [], _ => rfl
  | z :: r, b => by
    show (if z.1.a = k then _ else fnd k (r ++ b)) = match (if z.1.a = k then _ else fnd k r) with | some r => some r | none => fnd k b
    by_cases h : z.1.a = k
    · rw [if_pos h, if_pos h]
    · rw [if_neg h, if_neg h]; exact fnd_app k r b
def lpF (o : Option StT) : Lp Unit (Option StT) := match o with
  | some r => .rt (some r)
  | none => .nx ()
def tstep (n_ : Nat) (x_k : Int) (x_path : Tp Int) : Unit → T2 Int UItem → Option (Lp Unit (Option StT)) := fun (b1 : Unit) (i2 : (T2 Int UItem)) => (catT x_path (Tp.mk ([i2.a] : List Int))).bind fun t7 => (some t7).bind fun x_here => if (decide (i2.b.tag = ("sweep" : Str))) = true then (i2.b.asv_sweep).bind fun t8 => (m_stand_within n_ t8.d x_k x_here).bind fun t9 => (some t9).bind fun x_found => (match x_found with | none => some (Lp.nx ()) | some x_found => some (Lp.rt (some x_found))) else (i2.b.asv_deed).bind fun t10 => if (decide (t10.b = x_k)) = true then (i2.b.asv_deed).bind fun t11 => some (Lp.rt (some (T2.mk x_here t11.c))) else some (Lp.nx ())
theorem st_step (n : Nat) (its : Tp UItem) (k : Int) (p : Tp Int) : m_stand_within (n + 1) its k p = (loopM (tstep n k p) () (enumL its.l)).bind fun o3 => o3.thn (fun _ => some (none : Option StT)) (fun r_ => some r_) := rfl
theorem stand_rows {d : Nat} {bs : List BoughT} {its : List UItem} (t : Tree d bs its) (k : Int) : ∀ (m i : Nat) (p : List Int), 6 ≤ m + d → d ≤ 6 → (∀ x ∈ bs, Bg x) → (∀ y ∈ bs.tail, (d : Int) ≤ y.b) → (∃ prior, Ch prior bs) → p.length = d →
    ∀ x r, bs = x :: r → ∀ q, q = p ++ [(i : Int)] ++ List.replicate (x.c.length - d) 0 → d ≤ x.c.length → loopM (tstep m k ⟨p⟩) () (enumF (i : Int) its) = some (lpF (fnd k ((x, q) :: pr q r))) := by
  induction t with
  | nil d => intro m i p _ _ _ _ _ _ x r e; cases e
  | @deed d x r its hc t ih =>
    intro m i p h1 h2 hb ht ⟨pri, hch⟩ hp x0 r0 e q hq hx
    cases e
    have hq0 : q = p ++ [(i : Int)] := by
      rw [hq, show x.c.length - d = 0 by omega]; simp
    have st : tstep m k ⟨p⟩ () ⟨(i : Int), .v_deed x.a x.d⟩ = if decide (x.a = k) = true then some (Lp.rt (some (T2.mk ⟨q⟩ x.d))) else some (Lp.nx ()) := by
      unfold tstep
      rw [catT_p (by show p.length + 1 ≤ _; omega)]
      simp only [Option.bind_some]
      rw [if_neg (by show ¬ decide (("deed" : Str) = "sweep") = true; decide), hq0]; rfl
    show loopM (tstep m k ⟨p⟩) () (⟨(i : Int), .v_deed x.a x.d⟩ :: enumF ((i : Int) + 1) its) = some (lpF (if x.a = k then _ else fnd k (pr q r)))
    by_cases hk : x.a = k
    · rw [if_pos (decide_eq_true hk)] at st
      rw [loopM_rt st, if_pos hk]; rfl
    · rw [if_neg (fun z => hk (of_decide_eq_true z))] at st
      rw [loopM_nx st, if_neg hk]
      cases hr : r with
      | nil => rw [tree_nil t hr]; rfl
      | cons y r' =>
        subst hr
        obtain ⟨_, _, hch2⟩ := hch
        have yb : y.b = (d : Int) := by
          have a := ht y List.mem_cons_self
          have := hch2.1
          omega
        have e2 : q.take (d + 1) = p ++ [(i : Int)] := by
          rw [hq, ← hp]; exact take_rep
        have en := nxt_at yb hp e2
        have yg := hb y (List.mem_cons_of_mem _ List.mem_cons_self)
        have := ih m (i + 1) p h1 h2 (fun z m => hb z (List.mem_cons_of_mem _ m)) (fun z m => ht z (List.mem_cons_of_mem _ m)) ⟨_, hch2⟩ hp y r' rfl (nxt q y) (by rw [en]; simp) (by have := yg.b2; omega)
        rw [show ((i : Int) + 1) = ((i + 1 : Nat) : Int) by omega, this]; rfl
  | @sweep d x g r w sub its hw hg hr tsub tr ihs ihr =>
    intro m i p h1 h2 hb ht ⟨pri, hch⟩ hp x0 r0 e q hq hx
    cases e
    obtain ⟨hk, _⟩ := List.getElem?_eq_some_iff.mp hw
    have xg := hb x List.mem_cons_self
    have hch2 : Ch x.c (g ++ r) := hch.2.2
    have e2 : q.take (d + 1) = p ++ [(i : Int)] := by
      rw [hq, ← hp]; exact take_rep
    have ql : q.length = x.c.length + 1 := by
      rw [hq, List.length_append, List.length_append, List.length_replicate, hp]
      simp only [List.length_cons, List.length_nil]
      omega
    obtain ⟨m', rfl⟩ : ∃ m', m = m' + 1 := ⟨m - 1, by have := xg.c6; omega⟩
    have hgb : ∀ y ∈ g, Bg y := fun y m => hb y (List.mem_cons_of_mem _ (List.mem_append_left _ m))
    have sub_ok := ihs m' 0 (p ++ [(i : Int)]) (by omega) (by have := xg.c6; omega) (fun z m => by
        rcases List.mem_cons.mp m with h | h
        · rw [h]; exact xg
        · exact hgb z h) (fun y m => by have := hg y m; omega) ⟨pri, hch.1, hch.2.1, Ch.left hch2⟩ (by rw [List.length_append, hp]; rfl) x g rfl q (by
        rw [hq, show x.c.length - d = (x.c.length - (d + 1)) + 1 by omega, List.replicate_succ]
        simp) hk
    have st : tstep (m' + 1) k ⟨p⟩ () ⟨(i : Int), .v_sweep w.a w.b sub⟩ = some (lpF (fnd k ((x, q) :: pr q g))) := by
      unfold tstep
      rw [catT_p (by show p.length + 1 ≤ _; omega)]
      simp only [Option.bind_some]
      rw [if_pos (by show decide (("sweep" : Str) = "sweep") = true; decide)]
      show (m_stand_within (m' + 1) ⟨sub⟩ k ⟨p ++ [(i : Int)]⟩).bind _ = _
      rw [st_step]
      show ((loopM (tstep m' k ⟨p ++ [(i : Int)]⟩) () (enumF ((0 : Nat) : Int) sub)).bind _).bind _ = _
      rw [sub_ok]
      cases fnd k ((x, q) :: pr q g) <;> rfl
    show loopM (tstep (m' + 1) k ⟨p⟩) () (⟨(i : Int), .v_sweep w.a w.b sub⟩ :: enumF ((i : Int) + 1) its) = _
    have split : (x, q) :: pr q (g ++ r) = ((x, q) :: pr q g) ++ pr (lastP q g) r := by rw [pr_app]; rfl
    rw [split, fnd_app]
    cases hf : fnd k ((x, q) :: pr q g) with
    | some z =>
      rw [hf] at st
      rw [loopM_rt st]; rfl
    | none =>
      rw [hf] at st
      rw [loopM_nx st]
      cases hrr : r with
      | nil => rw [tree_nil tr hrr]; rfl
      | cons y r' =>
        subst hrr
        have yb : y.b = (d : Int) := by
          have a := ht y (List.mem_append_right _ List.mem_cons_self)
          have := hr y rfl
          omega
        have e3 : (lastP q g).take (d + 1) = p ++ [(i : Int)] := by
          rw [lastP_take (x := x) hg (Ch.left hch2) hgb ql, e2]
        have en := nxt_at yb hp e3
        have yg := hb y (List.mem_cons_of_mem _ (List.mem_append_right _ List.mem_cons_self))
        obtain ⟨pri2, hch3⟩ := Ch.right hch2
        have := ihr (m' + 1) (i + 1) p h1 h2 (fun z m => hb z (List.mem_cons_of_mem _ (List.mem_append_right _ m))) (fun z m => ht z (List.mem_append_right _ (List.mem_cons_of_mem _ m))) ⟨pri2, hch3⟩ hp y r' rfl (nxt (lastP q g) y) (by rw [en]; simp) (by have := yg.b2; omega)
        rw [show ((i : Int) + 1) = ((i + 1 : Nat) : Int) by omega, this]; rfl
/-- the path of the first one -/
def q0 (x : BoughT) : List Int := [0] ++ List.replicate x.c.length 0
/-- all of them with their paths -/
def prs : List BoughT → List (BoughT × List Int)
  | [] => []
  | x :: r => (x, q0 x) :: pr (q0 x) r
theorem prs_fst (bs : List BoughT) : (prs bs).map (·.1) = bs := by
  cases bs with
  | nil => rfl
  | cons x r => show x :: (pr (q0 x) r).map (·.1) = _; rw [pr_fst]
theorem prs_len (bs : List BoughT) : (prs bs).length = bs.length := by
  have := congrArg List.length (prs_fst bs)
  rwa [List.length_map] at this
theorem pr_q : ∀ (r : List BoughT) (x : BoughT) (q : List Int), q.length = x.c.length + 1 → x.c.length ≤ 6 → Ch x.c r → (∀ y ∈ r, Bg y) → ∀ z ∈ pr q r, z.2.length ≤ 7
  | [], _, _, _, _, _, _, _, h => nomatch h
  | y :: r, x, q, hq, hx, ⟨c1, c2, c3⟩, hb, z, h => by
    have yg := hb y List.mem_cons_self
    have e := nxt_len (q := q) yg.b0 (by omega) yg.b2
    have h : z ∈ (y, nxt q y) :: pr (nxt q y) r := h
    rcases List.mem_cons.mp h with z1 | z1
    · subst z1
      have := yg.c6
      show (nxt q y).length ≤ 7
      omega
    · exact pr_q r y (nxt q y) e yg.c6 c3 (fun w m => hb w (List.mem_cons_of_mem _ m)) z z1
theorem q0_len (x : BoughT) : (q0 x).length = x.c.length + 1 := by
  unfold q0
  rw [List.length_append, List.length_replicate]; simp only [List.length_cons, List.length_nil]; omega
theorem prs_q {bs : List BoughT} (hc : Ch [] bs) (hb : ∀ y ∈ bs, Bg y) : ∀ z ∈ prs bs, z.2.length ≤ 7 ∧ Bg z.1 := fun z hz => by
  have hm : z.1 ∈ bs := by
    have : z.1 ∈ (prs bs).map (·.1) := List.mem_map_of_mem hz
    rwa [prs_fst] at this
  refine ⟨?_, hb _ hm⟩
  cases bs with
  | nil => cases hz
  | cons x r =>
    have xg := hb x List.mem_cons_self
    have hz : z ∈ (x, q0 x) :: pr (q0 x) r := hz
    rcases List.mem_cons.mp hz with e | e
    · subst e
      have := q0_len x
      have := xg.c6
      show (q0 x).length ≤ 7
      omega
    · exact pr_q r x (q0 x) (q0_len x) xg.c6 hc.2.2 (fun y m => hb y (List.mem_cons_of_mem _ m)) z e
theorem fnd_uniq : ∀ {l : List (BoughT × List Int)} {z : BoughT × List Int}, (l.map (·.1.a)).Nodup → z ∈ l → fnd z.1.a l = some ⟨⟨z.2⟩, z.1.d⟩
  | [], _, _, h => nomatch h
  | y :: l, z, nd, h => by
    have nd := List.nodup_cons.mp nd
    show (if y.1.a = z.1.a then _ else fnd z.1.a l) = _
    rcases List.mem_cons.mp h with e | e
    · subst e; rw [if_pos rfl]
    · rw [if_neg fun q => nd.1 (by show y.1.a ∈ _; rw [q]; exact List.mem_map_of_mem (f := fun y : BoughT × List Int => y.1.a) e)]
      exact fnd_uniq nd.2 e
theorem sweeps_of_ok {x : BoughT} {r : List BoughT} {its : List UItem} (t : Tree 0 (x :: r) its) (hc : Ch [] (x :: r)) (hb : ∀ y ∈ x :: r, Bg y) (hl : (x :: r).length ≤ 6) : m_sweeps_of ⟨its⟩ = some ((prs (x :: r)).flatMap fun z => rwF z.1.b.toNat z) := by
  have xb : x.b = 0 := by
    have := (hb x List.mem_cons_self).b0
    have := hc.1
    simp at this; omega
  have := rows_ok t 9 0 [] [] (by decide) (by decide) hb (fun y m => (hb y (List.mem_of_mem_tail m)).b0) ⟨_, hc⟩ rfl (by simp only [List.length_nil]; omega) x r rfl (q0 x) rfl (Nat.zero_le _)
  have e0 : m_sweeps_of ⟨its⟩ = ((loopN (sstep 9 ⟨[]⟩) [] (enumF ((0 : Nat) : Int) its)).bind fun b => some b).bind fun t1 => some t1 := rfl
  rw [e0, this]
  show some (rwF 0 (x, q0 x) ++ _) = some (((x, q0 x) :: pr (q0 x) r).flatMap fun z => rwF z.1.b.toNat z)
  rw [List.flatMap_cons]
  show _ = some (rwF x.b.toNat (x, q0 x) ++ _)
  rw [xb]; rfl
theorem stand_ok {x : BoughT} {r : List BoughT} {its : List UItem} (t : Tree 0 (x :: r) its) (hc : Ch [] (x :: r)) (hb : ∀ y ∈ x :: r, Bg y) (nd : ((x :: r).map (·.a)).Nodup) {z : BoughT × List Int} (hz : z ∈ prs (x :: r)) : m_stand ⟨its⟩ z.1.a = some (some ⟨⟨z.2⟩, z.1.d⟩) := by
  have := stand_rows t z.1.a 9 0 [] (by decide) (by decide) hb (fun y m => (hb y (List.mem_of_mem_tail m)).b0) ⟨_, hc⟩ rfl x r rfl (q0 x) rfl (Nat.zero_le _)
  have e0 : m_stand ⟨its⟩ z.1.a = ((loopM (tstep 9 z.1.a ⟨[]⟩) () (enumF ((0 : Nat) : Int) its)).bind fun o3 => o3.thn (fun _ => some (none : Option StT)) (fun r_ => some r_)).bind fun t1 => some t1 := rfl
  have nd2 : ((prs (x :: r)).map (·.1.a)).Nodup := by
    have e : (prs (x :: r)).map (·.1.a) = (x :: r).map (·.a) := by
      rw [← prs_fst (x :: r), List.map_map, prs_fst]; rfl
    rw [e]; exact nd
  have f := fnd_uniq nd2 hz
  rw [e0, this, show (x, q0 x) :: pr (q0 x) r = prs (x :: r) from rfl, f]; rfl
/-! where the paths of two deeds part -/
def cmn (ds : List DdT) (i : Nat) : Nat → Nat
  | 0 => (ds[i]?.map fun x => x.a.length).getD 0
  | m + 1 => min (cmn ds i m) ((ds[i + m + 1]?.map fun x => x.c.toNat).getD 0)
theorem part_ok {ds : List DdT} (D : Dds ds) {i : Nat} {p : DdT} (hp : ds[i]? = some p) : ∀ (m : Nat) (q : DdT), ds[i + m]? = some q → cmn ds i m ≤ p.a.length ∧ cmn ds i m ≤ q.a.length ∧ p.b.l.take (cmn ds i m) = q.b.l.take (cmn ds i m) ∧ (0 < m → ∃ u v : Int, p.b.l[cmn ds i m]? = some u ∧ q.b.l[cmn ds i m]? = some v ∧ u < v)
  | 0, q, hq => by
    have hq : ds[i]? = some q := hq
    rw [hp] at hq; cases hq
    have e : cmn ds i 0 = p.a.length := by unfold cmn; rw [hp]; rfl
    rw [e]
    exact ⟨Nat.le_refl _, Nat.le_refl _, rfl, fun h => absurd h (by omega)⟩
  | m + 1, q, hq => by
    have hl := (List.getElem?_eq_some_iff.mp hq).1
    obtain ⟨r, hr⟩ : ∃ r, ds[i + m]? = some r := ⟨_, List.getElem?_eq_getElem (show i + m < ds.length by omega)⟩
    obtain ⟨a1, a2, a3, a4⟩ := part_ok D hp m r hr
    have N := D.nx (i + m) r q hr hq
    have dr := D.d r (List.mem_of_getElem? hr)
    have dq := D.d q (List.mem_of_getElem? hq)
    have c0 := dq.c0
    have c1 := dq.c1
    have cr := N.c
    obtain ⟨v0, v1, v2⟩ := N.v
    have e : cmn ds i (m + 1) = min (cmn ds i m) q.c.toNat := by
      show min (cmn ds i m) ((ds[i + m + 1]?.map fun x => x.c.toNat).getD 0) = _
      rw [show i + m + 1 = i + (m + 1) by omega, hq]; rfl
    rw [e]
    generalize hn : cmn ds i m = n at a1 a2 a3 a4
    by_cases hc : q.c.toNat < n
    · rw [Nat.min_eq_right (by omega)]
      refine ⟨by omega, by omega, by rw [take_le_eq a3 (by omega), N.t], fun _ => ⟨v0, v0 + 1, by rw [take_eq_get a3 hc]; exact v1, v2, by omega⟩⟩
    · rw [Nat.min_eq_left (by omega)]
      refine ⟨a1, by omega, ?_, fun _ => ?_⟩
      · rw [a3]
        exact (take_le_eq N.t (by omega)).symm
      · by_cases hm : m = 0
        · subst hm
          have : r = p := by
            have hr : ds[i]? = some r := hr
            rw [hp] at hr; cases hr; rfl
          subst this
          have hn0 : n = r.a.length := by rw [← hn]; unfold cmn; rw [hp]; rfl
          have : n = q.c.toNat := by omega
          rw [this]
          exact ⟨v0, v0 + 1, v1, v2, by omega⟩
        · obtain ⟨u, v, u1, u2, u3⟩ := a4 (by omega)
          by_cases hcn : q.c.toNat = n
          · rw [hcn] at v1 v2
            have ev := Option.some.inj (u2.symm.trans v1)
            exact ⟨u, v0 + 1, u1, v2, by omega⟩
          · exact ⟨u, v, u1, by rw [take_eq_get N.t (show n < q.c.toNat by omega)]; exact u2, u3⟩
def nij (ds : List DdT) (i j : Nat) : Nat := if i ≤ j then cmn ds i (j - i) else cmn ds j (i - j)
structure Part (p q : DdT) (n i j : Nat) : Prop where
  np : n ≤ p.a.length
  nq : n ≤ q.a.length
  t : p.b.l.take n = q.b.l.take n
  lt : i < j → ∃ u v : Int, p.b.l[n]? = some u ∧ q.b.l[n]? = some v ∧ u < v
  gt : j < i → ∃ u v : Int, p.b.l[n]? = some u ∧ q.b.l[n]? = some v ∧ v < u
  eq : i = j → p = q ∧ n = p.a.length
theorem part2 {ds : List DdT} (D : Dds ds) {i j : Nat} {p q : DdT} (hp : ds[i]? = some p) (hq : ds[j]? = some q) : Part p q (nij ds i j) i j := by
  unfold nij
  by_cases h : i ≤ j
  · rw [if_pos h]
    obtain ⟨a, b, c, d⟩ := part_ok D hp (j - i) q (by rw [show i + (j - i) = j by omega]; exact hq)
    refine ⟨a, b, c, fun h => d (by omega), fun h => absurd h (by omega), fun e => ?_⟩
    subst e
    rw [hp] at hq; cases hq
    refine ⟨rfl, ?_⟩
    rw [Nat.sub_self]; unfold cmn; rw [hp]; rfl
  · rw [if_neg h]
    obtain ⟨a, b, c, d⟩ := part_ok D hq (i - j) p (by rw [show j + (i - j) = i by omega]; exact hp)
    exact ⟨b, a, c.symm, fun h => absurd h (by omega), fun h => by
      obtain ⟨u, v, x, y, z⟩ := d (by omega)
      exact ⟨v, u, y, x, z⟩, fun e => absurd e (by omega)⟩
theorem Part.le {p q : DdT} {n i j k : Nat} (P : Part p q n i j) (h : i ≠ j) (hk : p.b.l.take k = q.b.l.take k) : k ≤ n := by
  by_cases hn : k ≤ n
  · exact hn
  · have e := take_eq_get hk (show n < k by omega)
    rcases Nat.lt_or_gt_of_ne h with hl | hl
    · obtain ⟨u, v, a, b, c⟩ := P.lt hl
      rw [a, b] at e; cases e; omega
    · obtain ⟨u, v, a, b, c⟩ := P.gt hl
      rw [a, b] at e; cases e; omega
def Fl (a b : List Int) : Unit → Int → Option (Lp Unit Bool) := fun _ x_e => (L2.atI a x_e).bind fun t14 => (L2.atI b x_e).bind fun t15 => if (!decide (t14 = t15)) = true then (L2.atI a x_e).bind fun t16 => (L2.atI b x_e).bind fun t17 => some (Lp.rt (decide (t16 < t17))) else some (Lp.nx ())
/-- the first place at which a and b are unlike -/
def Fst (a b : List Int) (n : Nat) (o : Lp Unit Bool) : Prop := (o = .nx () ∧ ∀ k, k < n → a[k]? = b[k]?) ∨ ∃ (k : Nat) (u v : Int), k < n ∧ a[k]? = some u ∧ b[k]? = some v ∧ u ≠ v ∧ (∀ k', k' < k → a[k']? = b[k']?) ∧ o = .rt (decide (u < v))
theorem fl_ok {a b : List Int} {n : Nat} (ha : n ≤ a.length) (hb : n ≤ b.length) : Ok (loopM (Fl a b) () (intsF 0 n)) (Fst a b n) := by
  refine Ok.rangeM (J := fun k _ => ∀ k', k' < k → a[k']? = b[k']?) (fun k h => absurd h (by omega)) (fun k _ hk hJ => ?_) fun _ h => .inl ⟨rfl, h⟩
  have h1 := List.getElem?_eq_getElem (show k < a.length by omega)
  have h2 := List.getElem?_eq_getElem (show k < b.length by omega)
  obtain ⟨u, h1⟩ : ∃ u, a[k]? = some u := ⟨_, h1⟩
  obtain ⟨v, h2⟩ : ∃ v, b[k]? = some v := ⟨_, h2⟩
  refine .bindE (atI_at h1) (.bindE (atI_at h2) ?_)
  by_cases e : u = v
  · rw [if_neg (by rw [decide_eq_true e]; decide)]
    refine .ret fun k' hk' => ?_
    by_cases h : k' = k
    · subst h; rw [h1, h2, e]
    · exact hJ k' (by omega)
  · rw [if_pos (by rw [decide_eq_false e]; rfl)]
    exact .bindE (atI_at h1) (.bindE (atI_at h2) (.ret (.inr ⟨k, u, v, hk, h1, h2, e, hJ, rfl⟩)))
def cstep (ds : List DdT) : Int → Int → Option Int := fun b3 x_k => (L2.atI ds x_k).bind fun t7 => (some (if t7.c < b3 then t7.c else b3)).bind fun x_many => some x_many
theorem cmn_loop {ds : List DdT} (D : Dds ds) (l : Nat) : ∀ m k : Nat, l + k + m < ds.length → loopN (cstep ds) (cmn ds l k : Int) (intsF ((l + k + 1 : Nat) : Int) m) = some (cmn ds l (k + m) : Int)
  | 0, _, _ => rfl
  | m + 1, k, h => by
    obtain ⟨y, hy⟩ : ∃ y, ds[l + k + 1]? = some y := ⟨_, List.getElem?_eq_getElem (by omega)⟩
    have c0 := (D.d y (List.mem_of_getElem? hy)).c0
    have e : cmn ds l (k + 1) = min (cmn ds l k) y.c.toNat := by
      show min (cmn ds l k) ((ds[l + k + 1]?.map fun x => x.c.toNat).getD 0) = _
      rw [hy]; rfl
    have st : cstep ds (cmn ds l k : Int) ((l + k + 1 : Nat) : Int) = some (cmn ds l (k + 1) : Int) := by
      unfold cstep
      rw [atI_at hy, e]
      show some (if y.c < (cmn ds l k : Int) then y.c else (cmn ds l k : Int)) = _
      congr 1
      split <;> omega
    rw [intsF_succ, loopN_cons st, show ((l + k + 1 : Nat) : Int) + 1 = ((l + (k + 1) + 1 : Nat) : Int) by omega, cmn_loop D l m (k + 1) (by omega), show k + 1 + m = k + (m + 1) by omega]
def tailB (a b : List Int) (e : Bool) (n : Int) : Option Bool := (rngG n).bind fun t9 => (loopM (Fl a b) () t9).bind fun o => o.thn (fun _ => some e) fun r => some r
theorem tailB_n (a b : List Int) (e : Bool) {n : Nat} (h : n ≤ 1000) : tailB a b e (n : Int) = (loopM (Fl a b) () (intsF 0 n)).bind fun o => o.thn (fun _ => some e) fun r => some r := by
  unfold tailB
  rw [rngG_n (by omega), Option.bind_some]
def midB (ds : List DdT) (a b : List Int) (e : Bool) (l h : Int) : Option Bool := (L2.atI ds l).bind fun t1 => (some (t1.a.length : Int)).bind fun x_many => (rngG2 (l + (1 : Int)) (h + (1 : Int))).bind fun t2 => (loopN (cstep ds) x_many t2).bind fun b8 => tailB a b e b8
theorem before_key {ds : List DdT} (D : Dds ds) (hd : ds.length ≤ 1000) (a b : List Int) (e : Bool) {l h : Nat} {x : DdT} (hx : ds[l]? = some x) (hlh : l ≤ h) (hh : h < ds.length) (hc : cmn ds l (h - l) ≤ 1000) : midB ds a b e (l : Int) (h : Int) = (loopM (Fl a b) () (intsF 0 (cmn ds l (h - l)))).bind fun o => o.thn (fun _ => some e) fun r => some r := by
  have e0 : (x.a.length : Int) = (cmn ds l 0 : Int) := by unfold cmn; rw [hx]; rfl
  have e1 : rngG2 ((l : Int) + 1) ((h : Int) + 1) = some (intsF ((l + 0 + 1 : Nat) : Int) (h - l)) := by
    rw [rngG2_s (by omega) (by omega), show ((h : Int) + 1 - ((l : Int) + 1)).toNat = h - l by omega, show (l : Int) + 1 = ((l + 0 + 1 : Nat) : Int) by omega]
  have e2 := cmn_loop D l (h - l) 0 (by omega)
  rw [Nat.zero_add] at e2
  unfold midB
  rw [atI_at hx, Option.bind_some, Option.bind_some, e1, Option.bind_some, e0, e2, Option.bind_some, tailB_n a b e hc]
theorem before_mid (ds : List DdT) (i j : Int) (a b : List Int) : m_before ⟨i, ⟨a⟩⟩ ⟨j, ⟨b⟩⟩ ds = midB ds a b (decide (i < j)) (if j < i then j else i) (if j > i then j else i) := rfl
theorem before_ok {ds : List DdT} (D : Dds ds) (hl : ds.length ≤ 1000) {i j : Nat} {p q : DdT} (hp : ds[i]? = some p) (hq : ds[j]? = some q) (a b : List Int) : m_before ⟨(i : Int), ⟨a⟩⟩ ⟨(j : Int), ⟨b⟩⟩ ds = (loopM (Fl a b) () (intsF 0 (nij ds i j))).bind fun o => o.thn (fun _ => some (decide ((i : Int) < (j : Int)))) fun r => some r := by
  have il := (List.getElem?_eq_some_iff.mp hp).1
  have jl := (List.getElem?_eq_some_iff.mp hq).1
  have P := part2 D hp hq
  have p3 := (D.d p (List.mem_of_getElem? hp)).n3
  have n3 := P.np
  rw [before_mid]
  unfold nij at *
  by_cases h : i ≤ j
  · rw [if_pos h] at n3 ⊢
    rw [show (if (j : Int) < (i : Int) then (j : Int) else (i : Int)) = (i : Int) from if_neg (by omega), show (if (j : Int) > (i : Int) then (j : Int) else (i : Int)) = (j : Int) by split <;> omega]
    exact before_key D hl a b _ hp h jl (by omega)
  · rw [if_neg h] at n3 ⊢
    rw [show (if (j : Int) < (i : Int) then (j : Int) else (i : Int)) = (j : Int) from if_pos (by omega), show (if (j : Int) > (i : Int) then (j : Int) else (i : Int)) = (i : Int) from if_neg (by omega)]
    exact before_key D hl a b _ hq (by omega) il (by omega)
/-! the order of two turns by the own plan -/
def bgOf (x : RwT) : BoughT := ⟨x.a, x.c, List.replicate x.b.toNat ⟨false, "up"⟩, ⟨prL x.b.toNat⟩⟩
def bgD (k : Nat) (y : DdT) : BoughT := ⟨(k : Int), y.c, List.replicate y.a.length ⟨false, "up"⟩, ⟨prL y.a.length⟩⟩
theorem Tr.tree {d : Nat} {rows : List RwT} {its : List UItem} (t : Tr d rows its) : (∀ x ∈ rows, 0 ≤ x.b) → Tree d (rows.map bgOf) its := by
  induction t with
  | nil d => intro _; exact .nil d
  | @deed d x r its h t ih =>
    intro hb
    have := Tree.deed (d := d) (x := bgOf x) (by show (List.replicate x.b.toNat (T2.mk false ("up" : Str))).length = d; rw [List.length_replicate]; omega) (ih fun y m => hb y (List.mem_cons_of_mem _ m))
    have e : bgOf x = ⟨x.a, x.c, List.replicate x.b.toNat ⟨false, "up"⟩, ⟨prL d⟩⟩ := by unfold bgOf; rw [h, Int.toNat_natCast]
    rw [List.map_cons]
    rw [e] at this ⊢
    exact this
  | @sweep d x g r sub its h1 h2 h3 t1 t2 ih1 ih2 =>
    intro hb
    rw [List.map_cons, List.map_append]
    have hw : (bgOf x).c[d]? = some (T2.mk false ("up" : Str)) := by
      show (List.replicate x.b.toNat (T2.mk false ("up" : Str)))[d]? = _
      rw [List.getElem?_replicate, if_pos (by omega)]
    refine Tree.sweep hw (fun y hy => ?_) (fun y hy => ?_) ?_ (ih2 fun y m => hb y (List.mem_cons_of_mem _ (List.mem_append_right _ m)))
    · obtain ⟨z, hz, e⟩ := List.mem_map.mp hy
      subst e; exact h2 z hz
    · rw [List.head?_map] at hy
      obtain ⟨z, hz, e⟩ := Option.map_eq_some_iff.mp hy
      subst e; exact h3 z hz
    · have := ih1 fun y hy => by
        rcases List.mem_cons.mp hy with e | e
        · subst e; exact hb y List.mem_cons_self
        · exact hb y (List.mem_cons_of_mem _ (List.mem_append_left _ e))
      rwa [List.map_cons] at this
def bgs (ds : List DdT) : List BoughT := (rwsF ds).map bgOf
theorem bgs_len (ds : List DdT) : (bgs ds).length = ds.length := by unfold bgs; rw [List.length_map, rwsF_len]
theorem bgs_get {ds : List DdT} {k : Nat} {b : BoughT} (h : (bgs ds)[k]? = some b) : ∃ y, ds[k]? = some y ∧ b = bgD k y := by
  unfold bgs at h
  rw [List.getElem?_map] at h
  obtain ⟨x, hx, e⟩ := Option.map_eq_some_iff.mp h
  obtain ⟨y, hy, e2⟩ := rwsF_get hx
  refine ⟨y, hy, ?_⟩
  rw [← e, e2]
  unfold bgOf bgD
  dsimp only
  rw [Int.toNat_natCast]
theorem bgs_at {ds : List DdT} {k : Nat} {y : DdT} (h : ds[k]? = some y) : (bgs ds)[k]? = some (bgD k y) := by
  have hl := (List.getElem?_eq_some_iff.mp h).1
  obtain ⟨b, hb⟩ : ∃ b, (bgs ds)[k]? = some b := ⟨_, List.getElem?_eq_getElem (by rw [bgs_len]; exact hl)⟩
  obtain ⟨y', h', e⟩ := bgs_get hb
  rw [h] at h'; cases h'
  rw [hb, e]
theorem ch_of : ∀ {l : List BoughT} {prior : List WayT}, (∀ x : BoughT, l[0]? = some x → x.b ≤ (prior.length : Int) ∧ x.c.take x.b.toNat = prior.take x.b.toNat) → (∀ (i : Nat) (p x : BoughT), l[i]? = some p → l[i + 1]? = some x → x.b ≤ (p.c.length : Int) ∧ x.c.take x.b.toNat = p.c.take x.b.toNat) → Ch prior l
  | [], _, _, _ => trivial
  | x :: r, prior, h0, h1 => ⟨(h0 x rfl).1, (h0 x rfl).2, ch_of (fun y hy => h1 0 x y rfl hy) fun i p y hp hy => h1 (i + 1) p y hp hy⟩
theorem bgs_ch {ds : List DdT} (D : Dds ds) : Ch [] (bgs ds) := by
  refine ch_of (fun b hb => ?_) fun i p b hp hb => ?_
  · obtain ⟨y, hy, e⟩ := bgs_get hb
    have := (D.h0 y hy).1
    subst e
    show y.c ≤ ((0 : Nat) : Int) ∧ (List.replicate y.a.length (T2.mk false ("up" : Str))).take y.c.toNat = _
    rw [this]
    exact ⟨Int.le_refl _, by rw [List.take_nil]; rfl⟩
  · obtain ⟨u, hu, e⟩ := bgs_get hp
    obtain ⟨y, hy, e2⟩ := bgs_get hb
    have N := D.nx i u y hu hy
    have c1 := (D.d y (List.mem_of_getElem? hy)).c1
    have cn := N.c
    subst e; subst e2
    show y.c ≤ ((List.replicate u.a.length (T2.mk false ("up" : Str))).length : Int) ∧ (List.replicate y.a.length (T2.mk false ("up" : Str))).take y.c.toNat = (List.replicate u.a.length (T2.mk false ("up" : Str))).take y.c.toNat
    rw [List.length_replicate, List.take_replicate, List.take_replicate, Nat.min_eq_left (by omega), Nat.min_eq_left (by omega)]
    exact ⟨cn, rfl⟩
theorem nsp_rep (n : Nat) : nSp (List.replicate n (T2.mk false ("up" : Str))) = 0 := by
  unfold nSp
  rw [List.filter_replicate]; rfl
theorem bgs_bg {ds : List DdT} (D : Dds ds) : ∀ b ∈ bgs ds, Bg b := fun b hb => by
  obtain ⟨i, hi⟩ := List.mem_iff_getElem?.mp hb
  obtain ⟨y, hy, e⟩ := bgs_get hi
  have dy := D.d y (List.mem_of_getElem? hy)
  have n3 := dy.n3
  subst e
  have el : (bgD i y).c.length = y.a.length := List.length_replicate
  refine ⟨dy.c0, by rw [el]; exact dy.c1, by rw [el]; omega, fun w hw => ?_, ?_, ?_⟩
  · rw [(List.mem_replicate.mp hw).2]; exact .inl rfl
  · show nSp (List.replicate y.a.length (T2.mk false ("up" : Str))) ≤ 3
    rw [nsp_rep]; decide
  · show (prL y.a.length).length ≤ 6
    unfold prL; rw [List.length_map, ints_len]; omega
theorem pr_succ : ∀ (r : List BoughT) (x : BoughT) (q : List Int) (k : Nat) (z : BoughT × List Int) (y : BoughT), ((x, q) :: pr q r)[k]? = some z → (x :: r)[k + 1]? = some y → ((x, q) :: pr q r)[k + 1]? = some (y, nxt z.2 y)
  | [], x, q, k, z, y, _, h => by simp at h
  | y0 :: r, x, q, 0, z, y, hz, hy => by
    have hz : some (x, q) = some z := hz
    have hy : some y0 = some y := hy
    cases hz; cases hy; rfl
  | y0 :: r, x, q, k + 1, z, y, hz, hy => pr_succ r y0 (nxt q y0) k z y hz hy
theorem nxt_eq {p y : DdT} (dp : Dd p) (dy : Dd y) (N : Nx p y) (k : Nat) : nxt p.b.l (bgD k y) = y.b.l := by
  obtain ⟨v, v1, v2⟩ := N.v
  have c0 := dy.c0
  have c1 := dy.c1
  show p.b.l.take y.c.toNat ++ [p.b.l.getD y.c.toNat 0 + 1] ++ List.replicate ((List.replicate y.a.length (T2.mk false ("up" : Str))).length - y.c.toNat) 0 = y.b.l
  rw [List.length_replicate, List.getD_eq_getElem?_getD, v1, ← N.z, ← N.t]
  show y.b.l.take y.c.toNat ++ [v + 1] ++ _ = _
  have hl : y.c.toNat < y.b.l.length := by have := dy.pl; omega
  have e : y.b.l[y.c.toNat] = v + 1 := by
    rw [List.getElem?_eq_getElem hl] at v2; exact Option.some.inj v2
  rw [← e, List.append_assoc]
  have : [y.b.l[y.c.toNat]] ++ y.b.l.drop (y.c.toNat + 1) = y.b.l.drop y.c.toNat := (List.drop_eq_getElem_cons hl).symm
  rw [this, List.take_append_drop]
theorem prs_at {ds : List DdT} (D : Dds ds) : ∀ (k : Nat) (y : DdT), ds[k]? = some y → (prs (bgs ds))[k]? = some (bgD k y, y.b.l)
  | 0, y, h => by
    have hb := bgs_at h
    have e0 := (D.h0 y h).2
    cases hx : bgs ds with
    | nil => rw [hx] at hb; simp at hb
    | cons x r =>
      rw [hx] at hb
      have hb : some x = some (bgD 0 y) := hb
      cases hb
      show some (bgD 0 y, q0 (bgD 0 y)) = _
      have : q0 (bgD 0 y) = y.b.l := by
        rw [e0]
        show [0] ++ List.replicate (List.replicate y.a.length (T2.mk false ("up" : Str))).length 0 = _
        rw [List.length_replicate, List.replicate_succ]; rfl
      rw [this]
  | k + 1, y, h => by
    have hl := (List.getElem?_eq_some_iff.mp h).1
    obtain ⟨p, hp⟩ : ∃ p, ds[k]? = some p := ⟨_, List.getElem?_eq_getElem (show k < ds.length by omega)⟩
    have ih := prs_at D k p hp
    have hb := bgs_at h
    cases hx : bgs ds with
    | nil => rw [hx] at hb; simp at hb
    | cons x r =>
      rw [hx] at hb ih
      have := pr_succ r x (q0 x) k _ _ ih hb
      show ((x, q0 x) :: pr (q0 x) r)[k + 1]? = _
      rw [this, nxt_eq (D.d p (List.mem_of_getElem? hp)) (D.d y (List.mem_of_getElem? h)) (D.nx k p y hp h)]
def RR (ds : List DdT) : List RowT := (prs (bgs ds)).flatMap fun z => rwF z.1.b.toNat z
def rwP (p : List Int) : RowT := ⟨⟨p⟩, false, "up"⟩
theorem prs_get {ds : List DdT} (D : Dds ds) {k : Nat} {z : BoughT × List Int} (h : (prs (bgs ds))[k]? = some z) : ∃ y, ds[k]? = some y ∧ z = (bgD k y, y.b.l) := by
  have hl := (List.getElem?_eq_some_iff.mp h).1
  rw [prs_len, bgs_len] at hl
  obtain ⟨y, hy⟩ : ∃ y, ds[k]? = some y := ⟨_, List.getElem?_eq_getElem hl⟩
  rw [prs_at D k y hy] at h
  cases h
  exact ⟨y, hy, rfl⟩
theorem rwF_bg (k : Nat) (y : DdT) : rwF (bgD k y).b.toNat (bgD k y, y.b.l) = (List.range (y.a.length - y.c.toNat)).map fun j => rwP (y.b.l.take (y.c.toNat + j + 1)) := by
  unfold rwF
  show (List.range ((List.replicate y.a.length (T2.mk false ("up" : Str))).length - y.c.toNat)).map _ = _
  rw [List.length_replicate]
  refine List.map_congr_left fun j hj => ?_
  have hj := List.mem_range.mp hj
  show T3.mk (Tp.mk (y.b.l.take (y.c.toNat + j + 1))) ((List.replicate y.a.length (T2.mk false ("up" : Str))).getD (y.c.toNat + j) ⟨true, ""⟩).a ((List.replicate y.a.length (T2.mk false ("up" : Str))).getD (y.c.toNat + j) ⟨true, ""⟩).b = _
  rw [List.getD_eq_getElem?_getD, List.getElem?_replicate, if_pos (by omega)]; rfl
theorem rr_mem {ds : List DdT} (D : Dds ds) {r : RowT} (h : r ∈ RR ds) : ∃ (k : Nat) (y : DdT) (j : Nat), ds[k]? = some y ∧ y.c.toNat ≤ j ∧ j < y.a.length ∧ r = rwP (y.b.l.take (j + 1)) := by
  obtain ⟨z, hz, hr⟩ := List.mem_flatMap.mp h
  obtain ⟨k, hk⟩ := List.mem_iff_getElem?.mp hz
  obtain ⟨y, hy, e⟩ := prs_get D hk
  subst e
  rw [rwF_bg] at hr
  obtain ⟨j, hj, e⟩ := List.mem_map.mp hr
  have hj := List.mem_range.mp hj
  exact ⟨k, y, y.c.toNat + j, hy, by omega, by omega, e.symm⟩
theorem rr_in {ds : List DdT} (D : Dds ds) : ∀ (i : Nat) (p : DdT), ds[i]? = some p → ∀ e, e < p.a.length → rwP (p.b.l.take (e + 1)) ∈ RR ds
  | i, p, hp, e, he => by
    by_cases hc : p.c.toNat ≤ e
    · refine List.mem_flatMap.mpr ⟨_, List.mem_of_getElem? (prs_at D i p hp), ?_⟩
      rw [rwF_bg]
      exact List.mem_map.mpr ⟨e - p.c.toNat, List.mem_range.mpr (by omega), by rw [show p.c.toNat + (e - p.c.toNat) + 1 = e + 1 by omega]⟩
    · match i, hp with
      | 0, hp =>
        have := (D.h0 p hp).1
        omega
      | i + 1, hp =>
        have hl := (List.getElem?_eq_some_iff.mp hp).1
        obtain ⟨u, hu⟩ : ∃ u, ds[i]? = some u := ⟨_, List.getElem?_eq_getElem (show i < ds.length by omega)⟩
        have N := D.nx i u p hu hp
        have cn := N.c
        rw [take_le_eq N.t (show e + 1 ≤ p.c.toNat by omega)]
        exact rr_in D i u hu e (by omega)
theorem part_nc {ds : List DdT} (D : Dds ds) {k k' : Nat} {y y' : DdT} (hy : ds[k]? = some y) (hy' : ds[k']? = some y') (h : k < k') : nij ds k k' ≤ y'.c.toNat := by
  unfold nij
  rw [if_pos (by omega)]
  obtain ⟨m, hm⟩ : ∃ m, k' - k = m + 1 := ⟨k' - k - 1, by omega⟩
  rw [hm]
  show min (cmn ds k m) ((ds[k + m + 1]?.map fun x => x.c.toNat).getD 0) ≤ _
  rw [show k + m + 1 = k' by omega, hy']
  exact Nat.min_le_right _ _
theorem rr_pw {ds : List DdT} (D : Dds ds) : (RR ds).Pairwise fun r s => ¬ r.a.l.take s.a.l.length = s.a.l := by
  unfold RR
  rw [List.pairwise_flatMap]
  refine ⟨fun z hz => ?_, List.pairwise_iff_getElem.mpr fun i j hi hj hij => ?_⟩
  · obtain ⟨k, hk⟩ := List.mem_iff_getElem?.mp hz
    obtain ⟨y, hy, e⟩ := prs_get D hk
    subst e
    have pl := (D.d y (List.mem_of_getElem? hy)).pl
    have cc := (D.d y (List.mem_of_getElem? hy)).c1
    rw [rwF_bg, List.pairwise_map]
    refine List.Pairwise.imp_of_mem (fun {a b} ha hb hab => ?_) (List.pairwise_lt_range (n := y.a.length - y.c.toNat))
    have ha := List.mem_range.mp ha
    have hb := List.mem_range.mp hb
    intro he
    have := congrArg List.length he
    simp only [rwP, List.length_take] at this
    omega
  · obtain ⟨y, hy, e⟩ := prs_get D (List.getElem?_eq_getElem hi)
    obtain ⟨y', hy', e'⟩ := prs_get D (List.getElem?_eq_getElem hj)
    rw [e, e']
    intro r hr s hs he
    rw [rwF_bg] at hr hs
    obtain ⟨a, ha, er⟩ := List.mem_map.mp hr
    obtain ⟨b, hb, es⟩ := List.mem_map.mp hs
    have ha := List.mem_range.mp ha
    have hb := List.mem_range.mp hb
    subst er; subst es
    have pl := (D.d y (List.mem_of_getElem? hy)).pl
    have pl' := (D.d y' (List.mem_of_getElem? hy')).pl
    have he : (y.b.l.take (y.c.toNat + a + 1)).take (y'.b.l.take (y'.c.toNat + b + 1)).length = y'.b.l.take (y'.c.toNat + b + 1) := he
    have hl : (y'.b.l.take (y'.c.toNat + b + 1)).length = y'.c.toNat + b + 1 := by rw [List.length_take]; omega
    have h2 := congrArg List.length he
    rw [hl, List.length_take, List.length_take] at h2
    rw [hl, List.take_take, Nat.min_eq_left (by omega)] at he
    have := (part2 D hy hy').le (by omega) he
    have := part_nc D hy hy' hij
    omega
theorem own_plan_ok {rows : List RwT} {qs : List QDeed} (A : Al rows qs) (hl : rows.length ≤ 1000) (hc : ∀ x ∈ rows, 0 ≤ x.b ∧ x.b ≤ 3 ∧ x.c ≤ x.b) (z : Int) : ∃ its, m_own_plan ⟨z, qs⟩ = some ⟨its⟩ ∧ Tr 0 rows its := by
  obtain ⟨t1, e1, h1⟩ := own_ok A hl 10 0 0 rows.length (by decide) (by decide) (Nat.zero_le _) (Nat.le_refl _) fun i x _ _ hx => (hc x (List.mem_of_getElem? hx)).1
  rw [List.drop_zero, Nat.sub_zero, List.take_length] at h1
  obtain ⟨l1⟩ := t1
  refine ⟨l1, ?_, h1⟩
  unfold m_own_plan
  have e1 : m_own_items 10 qs (0 : Int) (rows.length : Int) (0 : Int) = some ⟨l1⟩ := e1
  show (m_own_items 10 qs (0 : Int) (qs.length : Int) (0 : Int)).bind _ = _
  rw [← A.len, e1]; rfl
structure PlanOk (ds : List DdT) (its : List UItem) : Prop where
  sw : m_sweeps_of ⟨its⟩ = some (RR ds)
  st : ∀ (k : Nat) (y : DdT), ds[k]? = some y → m_stand ⟨its⟩ (k : Int) = some (some ⟨⟨y.b.l⟩, ⟨prL y.a.length⟩⟩)
theorem sw_of {bs : List BoughT} {its : List UItem} (t : Tree 0 bs its) (h0 : bs ≠ []) (hc : Ch [] bs) (hb : ∀ y ∈ bs, Bg y) (hl : bs.length ≤ 6) : m_sweeps_of ⟨its⟩ = some ((prs bs).flatMap fun z => rwF z.1.b.toNat z) := by
  cases bs with
  | nil => exact absurd rfl h0
  | cons x r => exact sweeps_of_ok t hc hb hl
theorem st_of {bs : List BoughT} {its : List UItem} (t : Tree 0 bs its) (h0 : bs ≠ []) (hc : Ch [] bs) (hb : ∀ y ∈ bs, Bg y) (nd : (bs.map (·.a)).Nodup) {z : BoughT × List Int} (hz : z ∈ prs bs) : m_stand ⟨its⟩ z.1.a = some (some ⟨⟨z.2⟩, z.1.d⟩) := by
  cases bs with
  | nil => exact absurd rfl h0
  | cons x r => exact stand_ok t hc hb nd hz
theorem bgs_nd (ds : List DdT) : ((bgs ds).map (·.a)).Nodup := by
  have e : (bgs ds).map (·.a) = intsF 0 ds.length := by
    refine List.ext_getElem? fun i => ?_
    rw [List.getElem?_map]
    by_cases hi : i < ds.length
    · obtain ⟨y, hy⟩ : ∃ y, ds[i]? = some y := ⟨_, List.getElem?_eq_getElem hi⟩
      rw [bgs_at hy]
      unfold intsF
      rw [List.getElem?_map, List.getElem?_range hi]
      show some ((i : Nat) : Int) = some (0 + (i : Int))
      rw [Int.zero_add]
    · rw [List.getElem?_eq_none (by rw [bgs_len]; omega), List.getElem?_eq_none (by rw [ints_len]; omega)]; rfl
  rw [e]; exact ints_nodup _ _
theorem planOk {ds : List DdT} (D : Dds ds) (h0 : ds ≠ []) (h6 : ds.length ≤ 6) {its : List UItem} (t : Tr 0 (rwsF ds) its) : PlanOk ds its := by
  have tr : Tree 0 (bgs ds) its := t.tree fun x hx => (rows_c D x hx).1
  have ne : bgs ds ≠ [] := fun e => by
    have hl := bgs_len ds
    rw [e] at hl
    exact h0 (List.length_eq_zero_iff.mp hl.symm)
  exact ⟨sw_of tr ne (bgs_ch D) (bgs_bg D) (by rw [bgs_len]; exact h6), fun k y hy => by
    have := st_of (z := (bgD k y, y.b.l)) tr ne (bgs_ch D) (bgs_bg D) (bgs_nd ds) (List.mem_of_getElem? (prs_at D k y hy))
    exact this⟩
theorem prL_get {d e : Nat} (h : e < d) : L2.atI (prL d) (e : Int) = some ⟨(e : Int), 0⟩ := by
  refine atI_at ?_
  unfold prL
  rw [List.getElem?_map]
  unfold intsF
  rw [List.getElem?_map, List.getElem?_range h]
  show some (T2.mk (0 + (e : Int)) 0) = _
  rw [Int.zero_add]
theorem ahead_mid (z : Int) (qs : List QDeed) (i j : Int) (a b : List Int) : m_ahead ⟨z, qs⟩ ⟨i, ⟨a⟩⟩ ⟨j, ⟨b⟩⟩ = (L2.atI qs i).bind fun t1 => (L2.atI qs j).bind fun t2 => (m_shared t1 t2).bind fun t3 => tailB a b (decide (i < j)) t3 := rfl
theorem ahead_ok {ds : List DdT} (D : Dds ds) {qs : List QDeed} (Pd : Paired TdR ds qs) {i j : Nat} {p q : DdT} (hp : ds[i]? = some p) (hq : ds[j]? = some q) (a b : List Int) (z : Int) : m_ahead ⟨z, qs⟩ ⟨(i : Int), ⟨a⟩⟩ ⟨(j : Int), ⟨b⟩⟩ = (loopM (Fl a b) () (intsF 0 (nij ds i j))).bind fun o => o.thn (fun _ => some (decide ((i : Int) < (j : Int)))) fun r => some r := by
  have pl := Pd.length
  have il := (List.getElem?_eq_some_iff.mp hp).1
  have jl := (List.getElem?_eq_some_iff.mp hq).1
  obtain ⟨u, hu⟩ : ∃ u, qs[i]? = some u := ⟨_, List.getElem?_eq_getElem (by omega)⟩
  obtain ⟨w, hw⟩ : ∃ w, qs[j]? = some w := ⟨_, List.getElem?_eq_getElem (by omega)⟩
  obtain ⟨u1, u2⟩ := paired_at Pd hp hu
  obtain ⟨w1, w2⟩ := paired_at Pd hq hw
  have dp := D.d p (List.mem_of_getElem? hp)
  have dq := D.d q (List.mem_of_getElem? hq)
  have P := part2 D hp hq
  have lu : u.names.l.length = p.a.length := by rw [u1, List.length_map]
  have lw : w.names.l.length = q.a.length := by rw [w1, List.length_map]
  obtain ⟨r, e, m, em, m1, m2, m3, m4⟩ := shared_val (p := u) (q := w) (by rw [u2, lu]; exact dp.pl) (by rw [w2, lw]; exact dq.pl) (by rw [lu]; exact dp.n3)
  rw [u2, w2] at m3 m4
  rw [lu] at m1 m4
  rw [lw] at m2 m4
  have np := P.np
  have nq := P.nq
  have n3 := dp.n3
  have mn : m = nij ds i j := by
    by_cases h1 : m < nij ds i j
    · exact absurd ⟨by omega, by omega, take_eq_get P.t h1⟩ m4
    · by_cases hij : i = j
      · have := (P.eq hij).2; omega
      · have := P.le hij m3; omega
  rw [ahead_mid, atI_at hu, Option.bind_some, atI_at hw, Option.bind_some, e, Option.bind_some, em, mn, tailB_n a b _ (by omega)]
theorem lex_of : ∀ (n : Nat) (x y : List Int) (u v : Int), x.take n = y.take n → x[n]? = some u → y[n]? = some v → u < v → HT.lexLt x y = true ∧ HT.lexLt y x = false
  | 0, x, y, u, v, _, hx, hy, h => by
    cases x with
    | nil => simp at hx
    | cons c xs => cases y with
      | nil => simp at hy
      | cons c' ys =>
        have hx : some c = some u := hx
        have hy : some c' = some v := hy
        cases hx; cases hy
        rw [HT.lexLt_cons, HT.lexLt_cons, if_neg (by omega), if_neg (by omega), decide_eq_true h, decide_eq_false (by omega)]
        exact ⟨rfl, rfl⟩
  | n + 1, x, y, u, v, ht, hx, hy, h => by
    cases x with
    | nil => simp at hx
    | cons c xs => cases y with
      | nil => simp at hy
      | cons c' ys =>
        have hx : xs[n]? = some u := hx
        have hy : ys[n]? = some v := hy
        rw [List.take_succ_cons, List.take_succ_cons] at ht
        obtain ⟨e1, e2⟩ := List.cons.inj ht
        rw [HT.lexLt_cons, HT.lexLt_cons, if_pos e1, if_pos e1.symm]
        exact lex_of n xs ys u v e2 hx hy h
theorem lex_self : ∀ x : List Int, HT.lexLt x x = false
  | [] => rfl
  | c :: xs => by rw [HT.lexLt_cons, if_pos rfl]; exact lex_self xs
theorem lex_path {ds : List DdT} (D : Dds ds) {i j : Nat} {p q : DdT} (hp : ds[i]? = some p) (hq : ds[j]? = some q) : HT.lexLt p.b.l q.b.l = decide ((i : Int) < (j : Int)) := by
  have P := part2 D hp hq
  rcases Nat.lt_trichotomy i j with h | h | h
  · obtain ⟨u, v, a, b, c⟩ := P.lt h
    rw [(lex_of _ _ _ u v P.t a b c).1, decide_eq_true (by omega)]
  · rw [(P.eq h).1, lex_self, decide_eq_false (by omega)]
  · obtain ⟨u, v, a, b, c⟩ := P.gt h
    rw [(lex_of _ _ _ v u P.t.symm b a c).2, decide_eq_false (by omega)]
def ostep (pi pj : List Int) (di dj : List (T2 Int Int)) (i j : Int) (a b : List Int) : Int → RowT → Option (Lp Int Int) := fun b12 i13 => (some (i13.a.l.length : Int)).bind fun x_upto => (eqG (Tp.mk (cut pi none (some x_upto))) i13.a).bind fun t18 => (if t18 = true then (eqG (Tp.mk (cut pj none (some x_upto))) i13.a).bind fun t19 => some t19 else some false).bind fun t20 => if t20 = true then (L2.atI di (x_upto - (1 : Int))).bind fun t21 => (m_time_of ⟨i, ⟨a⟩⟩ t21).bind fun t22 => (some t22).bind fun x_left => (L2.atI dj (x_upto - (1 : Int))).bind fun t23 => (m_time_of ⟨j, ⟨b⟩⟩ t23).bind fun t24 => (some t24).bind fun x_right => (if i13.b = true then none else some (x_left, x_right)).bind fun (b25 : (Int × Int)) => if (!decide (b25.1 = b25.2)) = true then if (decide (i13.c = ("any" : Str))) = true then some (Lp.rt (0 : Int)) else some (Lp.rt ((1 : Int) - ((2 : Int) * (if (decide ((decide (b25.1 < b25.2)) = (decide (i13.c = ("up" : Str))))) = true then (1 : Int) else 0)))) else (some (b12 + (if i13.b = true then (1 : Int) else 0))).bind fun x_number => some (Lp.nx x_number) else (some (b12 + (if i13.b = true then (1 : Int) else 0))).bind fun x_number => some (Lp.nx x_number)
section
variable {pi pj a b : List Int} {n m : Nat} {i j : Int}
theorem eqP (x y : List Int) : eqG (Tp.mk x) (Tp.mk y) = some (decide (x = y)) := by
  rw [eqG_F]
  congr 1
  rw [decide_eq_decide, Tp.mk.injEq]
theorem ostep_no {p : List Int} (h : ¬ (pi.take p.length = p ∧ pj.take p.length = p)) (num : Int) : ostep pi pj (prL n) (prL m) i j a b num (rwP p) = some (.nx num) := by
  have c1 : cut pi none (some (p.length : Int)) = pi.take p.length := by rw [cut_to (by omega), Int.toNat_natCast]
  have c2 : cut pj none (some (p.length : Int)) = pj.take p.length := by rw [cut_to (by omega), Int.toNat_natCast]
  refine Ok.eq ?_
  unfold ostep
  refine .bindE rfl ?_
  show Ok ((eqG (Tp.mk (cut pi none (some (p.length : Int)))) (Tp.mk p)).bind _) _
  rw [c1, eqP]
  refine .bindE rfl (.bind (P := (· = false)) ?_ fun t ht => ?_)
  · by_cases h1 : pi.take p.length = p
    · rw [if_pos (decide_eq_true h1)]
      show Ok ((eqG (Tp.mk (cut pj none (some (p.length : Int)))) (Tp.mk p)).bind _) _
      rw [c2, eqP, decide_eq_false fun h2 => h ⟨h1, h2⟩]
      exact .bindE rfl (.ret rfl)
    · rw [if_neg (by rw [decide_eq_false h1]; decide)]
      exact .ret rfl
  subst ht
  rw [if_neg (by decide)]
  exact .bindE rfl (.ret (by show Lp.nx (num + 0) = _; rw [Int.add_zero]))
theorem ostep_yes {e : Nat} {u v : Int} {p : List Int} (hl : p.length = e + 1) (h1 : pi.take p.length = p) (h2 : pj.take p.length = p) (hn : e < n) (hm : e < m) (ha : a[e]? = some u) (hb : b[e]? = some v) (num : Int) : ostep pi pj (prL n) (prL m) i j a b num (rwP p) = some (if u = v then .nx num else .rt (1 - 2 * (if decide (u < v) = true then 1 else 0))) := by
  have c1 : cut pi none (some (p.length : Int)) = pi.take p.length := by rw [cut_to (by omega), Int.toNat_natCast]
  have c2 : cut pj none (some (p.length : Int)) = pj.take p.length := by rw [cut_to (by omega), Int.toNat_natCast]
  have el : (p.length : Int) - 1 = (e : Int) := by omega
  refine Ok.eq ?_
  unfold ostep
  refine .bindE rfl ?_
  show Ok ((eqG (Tp.mk (cut pi none (some (p.length : Int)))) (Tp.mk p)).bind _) _
  rw [c1, eqP, decide_eq_true h1]
  refine .bindE rfl (.bind (P := (· = true)) ?_ fun t ht => ?_)
  · rw [if_pos rfl]
    show Ok ((eqG (Tp.mk (cut pj none (some (p.length : Int)))) (Tp.mk p)).bind _) _
    rw [c2, eqP, decide_eq_true h2]
    exact .bindE rfl (.ret rfl)
  subst ht
  rw [if_pos rfl]
  have t1 : m_time_of ⟨i, ⟨a⟩⟩ ⟨(e : Int), 0⟩ = some u := by
    unfold m_time_of
    show (L2.atI a (e : Int)).bind _ = _
    rw [atI_at ha]
    show some (u + 0) = _
    rw [Int.add_zero]
  have t2 : m_time_of ⟨j, ⟨b⟩⟩ ⟨(e : Int), 0⟩ = some v := by
    unfold m_time_of
    show (L2.atI b (e : Int)).bind _ = _
    rw [atI_at hb]
    show some (v + 0) = _
    rw [Int.add_zero]
  have g1 : L2.atI (prL n) ((p.length : Int) - 1) = some ⟨(e : Int), 0⟩ := by rw [el]; exact prL_get hn
  have g2 : L2.atI (prL m) ((p.length : Int) - 1) = some ⟨(e : Int), 0⟩ := by rw [el]; exact prL_get hm
  refine .bindE g1 (.bindE t1 (.bindE rfl (.bindE g2 (.bindE t2 (.bindE rfl ?_)))))
  refine .bindE (x := (u, v)) (if_neg (by show ¬ false = true; decide)) ?_
  by_cases huv : u = v
  · rw [if_neg (by show ¬ (!decide (u = v)) = true; rw [decide_eq_true huv]; decide), if_pos huv]
    exact .bindE rfl (.ret (by show Lp.nx (num + 0) = _; rw [Int.add_zero]))
  · rw [if_pos (by show (!decide (u = v)) = true; rw [decide_eq_false huv]; rfl), if_neg huv, if_neg (by show ¬ decide (("up" : Str) = "any") = true; decide)]
    refine .ret ?_
    show Lp.rt (1 - 2 * (if decide (decide (u < v) = decide (("up" : Str) = "up")) = true then 1 else 0)) = _
    rw [decide_eq_true (show ("up" : Str) = "up" from rfl)]
    by_cases h : u < v
    · rw [decide_eq_true h]; rfl
    · rw [decide_eq_false h]; rfl
end
theorem loopM_skip {α β ρ : Type} {st : β → α → Option (Lp β ρ)} {b : β} : ∀ {A B : List α}, (∀ x ∈ A, st b x = some (.nx b)) → loopM st b (A ++ B) = loopM st b B
  | [], _, _ => rfl
  | x :: A, B, h => by
    show loopM st b (x :: (A ++ B)) = _
    rw [loopM_nx (h x List.mem_cons_self), loopM_skip fun y m => h y (List.mem_cons_of_mem _ m)]
theorem both_in {ds : List DdT} (D : Dds ds) {i j : Nat} {p q : DdT} (hp : ds[i]? = some p) (hq : ds[j]? = some q) {r : RowT} (hr : r ∈ RR ds) : ∃ w, r = rwP w ∧ (p.b.l.take w.length = w → q.b.l.take w.length = w → ∃ e, w = p.b.l.take (e + 1) ∧ w.length = e + 1 ∧ e < nij ds i j) := by
  obtain ⟨k, y, e, hy, c1, c2, rfl⟩ := rr_mem D hr
  refine ⟨_, rfl, fun h1 h2 => ?_⟩
  have dy := D.d y (List.mem_of_getElem? hy)
  have yl : (y.b.l.take (e + 1)).length = e + 1 := by rw [List.length_take, dy.pl]; omega
  rw [yl] at h1 h2
  have low : ∀ {t : Nat} {x : DdT}, ds[t]? = some x → x.b.l.take (e + 1) = y.b.l.take (e + 1) → e < x.a.length := fun {t x} ht he => by
    have dx := D.d x (List.mem_of_getElem? ht)
    have hl := congrArg List.length he
    rw [yl, List.length_take, dx.pl] at hl
    by_cases htk : t = k
    · subst htk; rw [hy] at ht; cases ht; exact c2
    · have P := part2 D ht hy
      have := P.le htk he
      have := P.np
      omega
  have P := part2 D hp hq
  refine ⟨e, h1.symm, yl, ?_⟩
  by_cases hij : i = j
  · have := (P.eq hij).2
    have := low hp h1
    omega
  · exact P.le hij (h1.trans h2.symm)
def resO (o : Lp Unit Bool) (e : Bool) : Bool := match o with
  | .rt r => r
  | _ => e
theorem order_ok {ds : List DdT} (D : Dds ds) {its : List UItem} (Pn : PlanOk ds its) {i j : Nat} {p q : DdT} (hp : ds[i]? = some p) (hq : ds[j]? = some q) {a b : List Int} (ha : a.length = p.a.length) (hb : b.length = q.a.length) (z : Int) (qs : List QDeed) {o : Lp Unit Bool} (ho : Fst a b (nij ds i j) o) : m_order_of ⟨z, qs⟩ ⟨its⟩ [] ⟨(i : Int), ⟨a⟩⟩ ⟨(j : Int), ⟨b⟩⟩ = some (1 - 2 * (if resO o (decide ((i : Int) < (j : Int))) = true then 1 else 0)) := by
  have P := part2 D hp hq
  have np := P.np
  have nq := P.nq
  refine Ok.eq ?_
  unfold m_order_of
  refine .bindE (Pn.st i p hp) (.bindE rfl (.bindE rfl (.bindE (Pn.st j q hq) (.bindE rfl (.bindE rfl (.bindE rfl (.bindE Pn.sw ?_)))))))
  show Ok ((loopM (ostep p.b.l q.b.l (prL p.a.length) (prL q.a.length) (i : Int) (j : Int) a b) 0 (RR ds)).bind _) _
  have pre : ∀ e, e < nij ds i j → p.b.l.take (p.b.l.take (e + 1)).length = p.b.l.take (e + 1) ∧ q.b.l.take (p.b.l.take (e + 1)).length = p.b.l.take (e + 1) ∧ (p.b.l.take (e + 1)).length = e + 1 := fun e he => by
    have dp := D.d p (List.mem_of_getElem? hp)
    have l : (p.b.l.take (e + 1)).length = e + 1 := by rw [List.length_take, dp.pl]; omega
    rw [l]
    exact ⟨rfl, (take_le_eq P.t (by omega)).symm, rfl⟩
  have stp : ∀ e, e < nij ds i j → ∀ u v, a[e]? = some u → b[e]? = some v → ostep p.b.l q.b.l (prL p.a.length) (prL q.a.length) (i : Int) (j : Int) a b 0 (rwP (p.b.l.take (e + 1))) = some (if u = v then .nx 0 else .rt (1 - 2 * (if decide (u < v) = true then 1 else 0))) := fun e he u v hu hv =>
    ostep_yes (pre e he).2.2 (pre e he).1 (pre e he).2.1 (by omega) (by omega) hu hv 0
  have row : ∀ r ∈ RR ds, (∀ e, e < nij ds i j → r = rwP (p.b.l.take (e + 1)) → a[e]? = b[e]?) → ostep p.b.l q.b.l (prL p.a.length) (prL q.a.length) (i : Int) (j : Int) a b 0 r = some (.nx 0) := fun r hr h => by
    obtain ⟨w, rfl, hw⟩ := both_in D hp hq hr
    by_cases hb2 : p.b.l.take w.length = w ∧ q.b.l.take w.length = w
    · obtain ⟨e, e1, e2, e3⟩ := hw hb2.1 hb2.2
      obtain ⟨u, hu⟩ : ∃ u, a[e]? = some u := ⟨_, List.getElem?_eq_getElem (by omega)⟩
      have hv := h e e3 (by rw [e1])
      rw [hu] at hv
      rw [e1, stp e e3 u u hu hv.symm, if_pos rfl]
    · exact ostep_no hb2 0
  rcases ho with ⟨rfl, hall⟩ | ⟨k, u, v, hk, hu, hv, huv, hlow, rfl⟩
  · have : loopM (ostep p.b.l q.b.l (prL p.a.length) (prL q.a.length) (i : Int) (j : Int) a b) 0 (RR ds) = some (.nx 0) := by
      have := loopM_skip (st := ostep p.b.l q.b.l (prL p.a.length) (prL q.a.length) (i : Int) (j : Int) a b) (b := 0) (A := RR ds) (B := []) fun r hr => row r hr fun e he _ => hall e he
      rw [List.append_nil] at this
      rw [this]; rfl
    refine .bindE this (.ret ?_)
    show 1 - 2 * (if HT.lexLt p.b.l q.b.l = true then (1 : Int) else 0) = _
    rw [lex_path D hp hq]; rfl
  · have hin := rr_in D i p hp k (by omega)
    obtain ⟨A, B, eAB⟩ := List.append_of_mem hin
    have pw := rr_pw D
    rw [eAB, List.pairwise_append] at pw
    have : loopM (ostep p.b.l q.b.l (prL p.a.length) (prL q.a.length) (i : Int) (j : Int) a b) 0 (RR ds) = some (.rt (1 - 2 * (if decide (u < v) = true then 1 else 0))) := by
      rw [eAB, loopM_skip fun r hr => row r (by rw [eAB]; exact List.mem_append_left _ hr) fun e he hre => ?_, loopM_rt]
      · rw [stp k hk u v hu hv, if_neg huv]
      · by_cases hek : e < k
        · exact hlow e hek
        · exfalso
          have h := pw.2.2 r hr _ List.mem_cons_self
          subst hre
          refine h ?_
          show (p.b.l.take (e + 1)).take (p.b.l.take (k + 1)).length = p.b.l.take (k + 1)
          rw [(pre k hk).2.2, List.take_take, Nat.min_eq_left (by omega)]
    exact .bindE this (.ret rfl)
/-! the values of the loops -/
def vb : Nat → Nat
  | 0 => 0
  | e + 1 => vb e + 5 + 10 * e
def rb : Nat → Nat
  | 0 => 1
  | e + 1 => rb e * (2 * vb (e + 1) + 2)
def VOk (e : Nat) (r : Tp Int) : Prop := r.l.length = e ∧ ∀ v ∈ r.l, -(vb e : Int) ≤ v ∧ v ≤ (vb e : Int)
theorem kvPut_le {κ ν : Type} [DecidableEq κ] (l : List (κ × ν)) (k : κ) (v : ν) : (kvPut l k v).length ≤ l.length + 1 := by
  unfold kvPut
  split
  · rw [List.length_map]; omega
  · rw [List.length_append]; exact Nat.le_refl _
structure WOk (V : Nat) (n : Nat) (W : Dct Str Int) : Prop where
  len : W.l.length ≤ n
  bd : ∀ z v, kvLook W.l z = some v → -(V : Int) ≤ v ∧ v ≤ (V : Int)
  e : ∃ v, kvLook W.l ("" : Str) = some v
theorem WOk.put {V n : Nat} {W : Dct Str Int} (h : WOk V n W) {z : Str} {v : Int} (hv : -(V : Int) ≤ v ∧ v ≤ (V : Int)) : WOk V (n + 1) ⟨kvPut W.l z v⟩ := by
  refine ⟨Nat.le_trans (kvPut_le _ _ _) (Nat.succ_le_succ h.len), fun y u hu => ?_, ?_⟩
  · have hu : kvLook (kvPut W.l z v) y = some u := hu
    rw [kvLook_put] at hu
    split at hu
    · cases hu; exact hv
    · exact h.bd y u hu
  · show ∃ u, kvLook (kvPut W.l z v) _ = some u
    rw [kvLook_put]
    split
    · exact ⟨v, rfl⟩
    · exact h.e
theorem has_put {W : Dct Str Int} {y z : Str} {v : Int} (h : ∃ u, kvLook W.l y = some u) : ∃ u, kvLook (kvPut W.l z v) y = some u := by
  rw [kvLook_put]
  split
  · exact ⟨v, rfl⟩
  · exact h
theorem has_self {W : Dct Str Int} {z : Str} {v : Int} : ∃ u, kvLook (kvPut W.l z v) z = some u := ⟨v, by rw [kvLook_put, if_pos rfl]⟩
theorem worths_ok {l : List LpT} {e : Nat} (he : e ≤ l.length) (l3 : l.length ≤ 3) {r : Tp Int} (hr : VOk e r) : Ok (loopN (fun (b9 : (Dct Str Int)) (i10 : (T2 LpT Int)) => (dputG b9 i10.a.a i10.b).bind fun t15 => some t15) (Dct.mk (kvMerge [(("" : Str), (0 : Int))]) : (Dct Str Int)) (zipL l r.l)) fun W => WOk (vb e) 10 W ∧ ∀ (j : Nat) (y : LpT), j < e → l[j]? = some y → ∃ v, kvLook W.l y.a = some v := by
  have zl : (zipL l r.l).length = e := by rw [zipL_len, hr.1]; omega
  refine Ok.loopN (J := fun W ys => ∃ dn, zipL l r.l = dn ++ ys ∧ WOk (vb e) (1 + dn.length) W ∧ ∀ y ∈ dn, ∃ v, kvLook W.l y.a.a = some v) ⟨[], rfl, ⟨Nat.le_refl _, fun z v hv => ?_, ⟨0, rfl⟩⟩, fun y hy => nomatch hy⟩ (fun W x ys ⟨dn, e1, w, hn⟩ => ?_) fun W ⟨dn, e1, w, hn⟩ => ?_
  · have hv : (if ("" : Str) = z then some (0 : Int) else none) = some v := hv
    split at hv
    · cases hv; exact ⟨by omega, by omega⟩
    · cases hv
  · have hm : x ∈ zipL l r.l := by rw [e1]; exact List.mem_append_right _ List.mem_cons_self
    obtain ⟨i, hi⟩ := List.mem_iff_getElem?.mp hm
    have hb := hr.2 x.b (List.mem_of_getElem? (zipL_get hi).2)
    have el := congrArg List.length e1
    rw [zl, List.length_append, List.length_cons] at el
    have := w.len
    refine .bindE (dputG_p (by omega)) (.ret ⟨dn ++ [x], by rw [e1, List.append_assoc]; rfl, ?_, fun y hy => ?_⟩)
    · rw [List.length_append]
      exact w.put hb
    · rcases List.mem_append.mp hy with h | h
      · exact has_put (hn y h)
      · rw [List.mem_singleton.mp h]; exact has_self
  · rw [List.append_nil] at e1
    refine ⟨⟨?_, w.bd, w.e⟩, fun j y hj hy => ?_⟩
    · have := w.len
      rw [← e1, zl] at this
      omega
    · have hz : j < (zipL l r.l).length := by omega
      obtain ⟨x, hx⟩ : ∃ x, (zipL l r.l)[j]? = some x := ⟨_, List.getElem?_eq_getElem hz⟩
      have := (zipL_get hx).1
      rw [hy] at this
      have ey : y = x.a := Option.some.inj this
      rw [ey]
      exact hn x (by rw [← e1]; exact List.mem_of_getElem? hx)
theorem grow_ok {x_row : Tp Int} {e V : Nat} (hr : VOk e x_row) (hV : vb e ≤ V) (hV2 : V = vb (e + 1)) (he : e ≤ 1000) : ∀ (vs : List Int) (b : List (Tp Int)), (∀ v ∈ vs, -(V : Int) ≤ v ∧ v ≤ (V : Int)) → b.length + vs.length ≤ 1000000 → (∀ r ∈ b, VOk (e + 1) r) → Ok (loopN (fun (b20 : (List (Tp Int))) (x_value : Int) => (catT x_row (Tp.mk ([x_value] : List Int))).bind fun t24 => (app b20 t24).bind fun t25 => some t25) b vs) fun b' => b'.length = b.length + vs.length ∧ ∀ r ∈ b', VOk (e + 1) r
  | [], b, _, _, hb => .ret ⟨rfl, hb⟩
  | v :: vs, b, hv, hl, hb => by
    rw [List.length_cons] at hl
    have st : (catT x_row (Tp.mk ([v] : List Int))).bind (fun t24 => (app b t24).bind fun t25 => some t25) = some (b ++ [⟨x_row.l ++ [v]⟩]) := by
      rw [catT_p (by rw [hr.1]; show e + 1 ≤ _; omega), Option.bind_some, app_p (by omega), Option.bind_some]
    rw [loopN_cons st]
    refine (grow_ok hr hV hV2 he vs _ (fun w m => hv w (List.mem_cons_of_mem _ m)) (by rw [List.length_append, List.length_singleton]; omega) fun r h => ?_).mono fun b' ⟨h1, h2⟩ => ⟨by rw [h1, List.length_append, List.length_singleton, List.length_cons]; omega, h2⟩
    rcases List.mem_append.mp h with m | m
    · exact hb r m
    · rw [List.mem_singleton.mp m]
      refine ⟨by show (x_row.l ++ [v]).length = _; rw [List.length_append, hr.1]; rfl, fun w hw => ?_⟩
      rw [← hV2]
      rcases List.mem_append.mp hw with k | k
      · have := hr.2 w k
        exact ⟨by omega, by omega⟩
      · rw [List.mem_singleton.mp k]; exact hv v List.mem_cons_self
theorem values_ok {l : List LpT} (h : Lps l) (l3 : l.length ≤ 3) : Ok (m_values l) fun rows => rows.length ≤ rb l.length ∧ ∀ r ∈ rows, r.l.length = l.length := by
  unfold m_values
  refine .bindE rfl (.bind (Ok.loopN (Q := fun rows : List (Tp Int) => rows.length ≤ rb l.length ∧ ∀ r ∈ rows, r.l.length = l.length) (J := fun rows ys => ∃ dn, l = dn ++ ys ∧ rows.length ≤ rb dn.length ∧ ∀ r ∈ rows, VOk dn.length r) ⟨[], rfl, Nat.le_refl _, fun r hr => ?_⟩ (fun rows x ys ⟨dn, e1, hl, hr⟩ => ?_) fun rows ⟨dn, e1, hl, hr⟩ => ?_) fun rows hr => .ret hr)
  · rw [List.mem_singleton.mp hr]
    exact ⟨rfl, fun v hv => nomatch hv⟩
  · have el := congrArg List.length e1
    rw [List.length_append, List.length_cons] at el
    have hx : l[dn.length]? = some x := by rw [e1, List.getElem?_append_right (Nat.le_refl _), Nat.sub_self]; rfl
    have K := h.k _ x hx
    have o1 := K.o1
    have o2 := K.o2
    generalize he : dn.length = e at *
    have hvb : vb (e + 1) = vb e + 5 + 10 * e := rfl
    have hrb : rb (e + 1) = rb e * (2 * vb (e + 1) + 2) := rfl
    have e2 : e ≤ 2 := by omega
    have v50 : vb (e + 1) ≤ 45 := by
      have : e = 0 ∨ e = 1 ∨ e = 2 := by omega
      rcases this with h | h | h <;> subst h <;> decide
    have r50 : rb e ≤ 504 := by
      have : e = 0 ∨ e = 1 ∨ e = 2 := by omega
      rcases this with h | h | h <;> subst h <;> decide
    refine .bindE rfl (.bind (Ok.loopN (Q := fun g : List (Tp Int) => g.length ≤ rb (e + 1) ∧ ∀ r ∈ g, VOk (e + 1) r) (J := fun g zs => ∃ done, rows = done ++ zs ∧ g.length ≤ done.length * (2 * vb (e + 1) + 2) ∧ ∀ r ∈ g, VOk (e + 1) r) ⟨[], rfl, Nat.zero_le _, fun r hr => nomatch hr⟩ (fun g r zs ⟨done, f1, f2, f3⟩ => ?_) fun g ⟨done, f1, f2, f3⟩ => ⟨?_, f3⟩) fun g ⟨g1, g2⟩ => .bindE rfl (.ret ⟨dn ++ [x], by rw [e1, List.append_assoc]; rfl, by rw [List.length_append, he]; exact g1, by rw [List.length_append, he]; exact g2⟩))
    · have hrr := hr r (by rw [f1]; exact List.mem_append_right _ List.mem_cons_self)
      have fl := congrArg List.length f1
      rw [List.length_append, List.length_cons] at fl
      refine .bindE rfl (.bind (worths_ok (by omega) l3 hrr) fun W ⟨w, hw⟩ => ?_)
      have lk : ∀ z : Str, (z = ("" : Str) ∨ ∃ (j : Nat) (y : LpT), j < e ∧ l[j]? = some y ∧ y.a = z) → Ok (W.look z) fun v => -(vb e : Int) ≤ v ∧ v ≤ (vb e : Int) := fun z hz => by
        have hv : ∃ v, kvLook W.l z = some v := by
          rcases hz with hz | ⟨j, y, j1, j2, j3⟩
          · rw [hz]; exact w.e
          · rw [← j3]; exact hw j y j1 j2
        obtain ⟨v, hv⟩ := hv
        exact ⟨v, hv, w.bd z v hv⟩
      refine .bind (lk _ K.s1) fun t17 h17 => .bindE rfl (.bind (lk _ K.s2) fun t18 h18 => .bindE rfl ?_)
      rw [rngG2_s (by omega) (by omega)]
      refine .bindE rfl ?_
      have cnt : (intsF (t17 + x.b.b) (t18 + x.c.b + 1 - (t17 + x.b.b)).toNat).length ≤ 2 * vb (e + 1) + 2 := by rw [ints_len]; omega
      have dl : done.length ≤ 504 := by omega
      have gl : g.length ≤ 504 * (2 * 45 + 2) := Nat.le_trans f2 (Nat.mul_le_mul dl (by omega))
      refine .bind (grow_ok hrr (V := vb (e + 1)) (by omega) rfl (by omega) _ g (fun v hv => ?_) (by omega) f3) fun g' ⟨g1, g2⟩ => .ret ⟨done ++ [r], by rw [f1, List.append_assoc]; rfl, ?_, g2⟩
      · have := intsF_mem hv
        omega
      · rw [g1, List.length_append, List.length_singleton, Nat.add_mul]
        omega
    · rw [List.append_nil] at f1
      rw [hrb]
      exact Nat.le_trans f2 (Nat.mul_le_mul (by rw [← f1]; exact hl) (Nat.le_refl _))
  · rw [List.append_nil] at e1
    rw [e1]
    exact ⟨hl, fun r hr' => (hr r hr').1⟩
theorem rb_le {n : Nat} (h : n ≤ 3) : rb n ≤ 46368 := by
  have : n = 0 ∨ n = 1 ∨ n = 2 ∨ n = 3 := by omega
  rcases this with h | h | h | h <;> subst h <;> decide
theorem law_true (ns : List Int) (h : ns.length ≤ 63) : m_law ns = some true := by
  refine Ok.true_ ?_
  unfold m_law
  refine .bind (at_ok ns (by decide)) fun v hv => ?_
  have hm := emod_in v (show (0 : Int) < 6 by decide)
  obtain ⟨n, en⟩ : ∃ n : Nat, 1 + v % 6 = (n : Int) := ⟨(1 + v % 6).toNat, by omega⟩
  rw [en]
  refine .bind (deeds_ok ns (n := n) (by omega) (by omega) (by decide)) fun ds ⟨dl, D⟩ => .bindE rfl (.bindE rfl ?_)
  refine .bind (at_ok ns (by decide)) fun b1 hb1 => .bind (P := fun _ => True) (Ok.ite (fun _ => .bind (at_ok ns (by decide)) fun b2 hb2 => .bindE rfl (.ret trivial)) fun _ => .ret trivial) fun base _ => ?_
  refine .bind (told_deeds_ok D (by omega) base) fun qs P => ?_
  refine .bindE (x := ((97 : Int), qs, ())) rfl (.bindE rfl ?_)
  have A := al_ok D P
  have rl := rwsF_len ds
  obtain ⟨its, o1, t1⟩ := own_plan_ok A (by omega) (rows_c D) 97
  have Pn := planOk D (fun e => by rw [e] at dl; simp at dl; omega) (by omega) t1
  refine .bindE o1 (.bindE rfl (.bindE rfl ?_))
  refine .bind (Ok.loopN (Q := fun b : List (T2 Int (Tp Int)) => b.length ≤ 300000 ∧ ∀ y ∈ b, ∃ (k : Nat) (x : DdT), y.a = (k : Int) ∧ ds[k]? = some x ∧ y.b.l.length = x.a.length) (J := fun b ys => ∃ dn, enumL ds = dn ++ ys ∧ b.length ≤ dn.length * 46368 ∧ ∀ y ∈ b, ∃ (k : Nat) (x : DdT), y.a = (k : Int) ∧ ds[k]? = some x ∧ y.b.l.length = x.a.length) ⟨[], rfl, Nat.zero_le _, fun y hy => nomatch hy⟩ (fun b i11 ys ⟨dn, e1, e2, e3⟩ => ?_) fun b ⟨dn, e1, e2, e3⟩ => ⟨?_, e3⟩) fun some_ ⟨s1, s2⟩ => ?_
  · have hx : (enumL ds)[dn.length]? = some i11 := by rw [e1, List.getElem?_append_right (Nat.le_refl _), Nat.sub_self]; rfl
    obtain ⟨x1, x2⟩ := enumF_get hx
    have el := congrArg List.length e1
    rw [enumF_len, List.length_append, List.length_cons] at el
    have dx := D.d i11.b (List.mem_of_getElem? x2)
    refine .bind (values_ok dx.lp dx.n3) fun rows ⟨r1, r2⟩ => ?_
    have r3 := rb_le dx.n3
    refine .bind (Ok.compR (R := fun x y => y.a = i11.a ∧ y.b.l.length = x.l.length) (P := fun ys : List (T2 Int (Tp Int)) => ys.length = rows.length ∧ ∀ y ∈ ys, y.a = i11.a ∧ y.b.l.length = i11.b.a.length) (by omega) (fun x hx => ?_) fun ys hy => ⟨hy.length.symm, fun y hm => ?_⟩) fun ys ⟨y1, y2⟩ => ?_
    · have xl := r2 x hx
      have := dx.n3
      refine .bind (Ok.comp (P := fun zs => zs = x.l.map fun o => o + base) (fun o => o + base) (by omega) (fun _ _ => rfl) rfl) fun zs hz => .ret ⟨_, rfl, rfl, ?_⟩
      show zs.length = x.l.length
      rw [hz, List.length_map]
    · obtain ⟨x, hx, q1, q2⟩ := Gx.Paired.mem hy hm
      exact ⟨q1, by rw [q2]; exact r2 x hx⟩
    · rw [catG_p (by omega)]
      refine .bindE rfl (.ret ⟨dn ++ [i11], by rw [e1, List.append_assoc]; rfl, ?_, fun y hm => ?_⟩)
      · rw [List.length_append, List.length_append, List.length_singleton, y1]; omega
      · rcases List.mem_append.mp hm with m | m
        · exact e3 y m
        · obtain ⟨z1, z2⟩ := y2 y m
          exact ⟨dn.length, i11.b, by rw [z1, x1, Int.zero_add], x2, z2⟩
  · rw [List.append_nil] at e1
    have el := congrArg List.length e1
    rw [enumF_len] at el
    omega
  refine Ok.ite (fun _ => .ret rfl) fun h2 => ?_
  have h2 : ¬ ((some_.length : Int) < 2) := fun e => h2 (decide_eq_true e)
  have top : (if (78 : Int) < (if (22 : Int) > (ns.length : Int) then (22 : Int) else (ns.length : Int)) then (78 : Int) else (if (22 : Int) > (ns.length : Int) then (22 : Int) else (ns.length : Int))) ≤ 78 ∧ 0 ≤ (if (78 : Int) < (if (22 : Int) > (ns.length : Int) then (22 : Int) else (ns.length : Int)) then (78 : Int) else (if (22 : Int) > (ns.length : Int) then (22 : Int) else (ns.length : Int))) := by
    split <;> split at * <;> omega
  generalize (if (78 : Int) < (if (22 : Int) > (ns.length : Int) then (22 : Int) else (ns.length : Int)) then (78 : Int) else (if (22 : Int) > (ns.length : Int) then (22 : Int) else (ns.length : Int))) = hi at top
  rw [rngG2_s (by omega) (by omega)]
  refine .bindE rfl (.thn (P := fun o => o = .nx ()) (Ok.loopM (J := fun _ ys => ∀ y ∈ ys, 0 ≤ y) (fun y hy => by have := intsF_mem hy; omega) (fun _ k ys hy => ?_) fun _ _ => rfl) (fun _ _ => .ret rfl) (fun b e => nomatch e) fun r e => nomatch e)
  refine .bind (at_ok ns (hy k List.mem_cons_self)) fun u hu => .bind (digits_ok u hu.1 hu.2 (fun m hm => ?_) (by show 2 ≤ 1000; decide)) fun r hr => ?_
  · simp only [List.mem_cons, List.not_mem_nil, or_false] at hm
    omega
  obtain ⟨a, b, rfl, ha, hb⟩ := dig2 hr
  refine .bindE rfl (.bind (atI_mem ha.1 (by exact ha.2)) fun one ⟨ho, _⟩ => .bindE rfl ?_)
  rw [modG_p (by omega)]
  have em := emod_in (a + 1 + b) (show (0 : Int) < (some_.length : Int) by omega)
  refine .bindE rfl (.bind (atI_mem em.1 em.2) fun other ⟨ht, _⟩ => .bindE rfl ?_)
  obtain ⟨i, p, i1, i2, i3⟩ := s2 one ho
  obtain ⟨j, q, j1, j2, j3⟩ := s2 other ht
  obtain ⟨oa, ⟨ol⟩⟩ := one
  obtain ⟨ta, ⟨tl⟩⟩ := other
  have i1 : oa = (i : Int) := i1
  have j1 : ta = (j : Int) := j1
  have i3 : ol.length = p.a.length := i3
  have j3 : tl.length = q.a.length := j3
  subst i1; subst j1
  have Pt := part2 D i2 j2
  have np := Pt.np
  have nq := Pt.nq
  obtain ⟨o, eo, fo⟩ := fl_ok (a := ol) (b := tl) (n := nij ds i j) (by omega) (by omega)
  have res : ((loopM (Fl ol tl) () (intsF 0 (nij ds i j))).bind fun o => o.thn (fun _ => some (decide ((i : Int) < (j : Int)))) fun r => some r) = some (resO o (decide ((i : Int) < (j : Int)))) := by
    rw [eo, Option.bind_some]
    rcases fo with ⟨e, _⟩ | ⟨_, _, _, _, _, _, _, _, e⟩ <;> rw [e] <;> rfl
  have bo := (before_ok D (by omega) i2 j2 ol tl).trans res
  have ah := (ahead_ok D P i2 j2 ol tl 97).trans res
  have od := order_ok D Pn i2 j2 i3 j3 97 qs fo
  refine .bindE bo (.bindE rfl (.bindE ah (.bindE rfl ?_)))
  rw [if_neg (by rw [decide_eq_true rfl]; decide)]
  refine .bindE od (.bindE rfl ?_)
  rw [if_neg (by rw [decide_eq_true rfl]; decide)]
  exact .ret fun w m => hy w (List.mem_cons_of_mem _ m)

/-! ### what the top has left -/
structure Txt (K : PySem.W.Frag) (mg : Str → Option Value) where
  d_at : FuncData
  F_at : FunD K "_law_at" "_law_at" (defArgs s_at) (defBody s_at) (defScope s_at) [] [] (He.fAd K ("_law_at", none)) d_at
  g_at : mg "_law_at" = some (.ref (He.fAd K ("_law_at", none)))
  d_digits : FuncData
  F_digits : FunD K "_law_digits" "_law_digits" (defArgs s_digits) (defBody s_digits) (defScope s_digits) [] [] (He.fAd K ("_law_digits", none)) d_digits
  g_digits : mg "_law_digits" = some (.ref (He.fAd K ("_law_digits", none)))
  d_loop : FuncData
  F_loop : FunD K "_law_loop" "_law_loop" (defArgs s_loop) (defBody s_loop) (defScope s_loop) [] [] (He.fAd K ("_law_loop", none)) d_loop
  g_loop : mg "_law_loop" = some (.ref (He.fAd K ("_law_loop", none)))
  d_deeds : FuncData
  F_deeds : FunD K "_law_deeds" "_law_deeds" (defArgs s_deeds) (defBody s_deeds) (defScope s_deeds) [] [] (He.fAd K ("_law_deeds", none)) d_deeds
  g_deeds : mg "_law_deeds" = some (.ref (He.fAd K ("_law_deeds", none)))
  d_told : FuncData
  F_told : FunD K "_law_told" "_law_told" (defArgs s_told) (defBody s_told) (defScope s_told) [] [] (He.fAd K ("_law_told", none)) d_told
  g_told : mg "_law_told" = some (.ref (He.fAd K ("_law_told", none)))
  d_Number_init : FuncData
  F_Number_init : FunD K "__init__" "Number.__init__" (defArgs s_Number_init) (defBody s_Number_init) (defScope s_Number_init) [] [] (He.fAd K ("Number", some "__init__")) d_Number_init
  d_Deed_init : FuncData
  F_Deed_init : FunD K "__init__" "Deed.__init__" (defArgs s_Deed_init) (defBody s_Deed_init) (defScope s_Deed_init) [] [] (He.fAd K ("Deed", some "__init__")) d_Deed_init
  d_told_deeds : FuncData
  F_told_deeds : FunD K "_law_told_deeds" "_law_told_deeds" (defArgs s_told_deeds) (defBody s_told_deeds) (defScope s_told_deeds) [] [] (He.fAd K ("_law_told_deeds", none)) d_told_deeds
  g_told_deeds : mg "_law_told_deeds" = some (.ref (He.fAd K ("_law_told_deeds", none)))
  d_Program_init : FuncData
  F_Program_init : FunD K "__init__" "Program.__init__" (defArgs s_Program_init) (defBody s_Program_init) (defScope s_Program_init) [] [] (He.fAd K ("Program", some "__init__")) d_Program_init
  d_shared : FuncData
  F_shared : FunD K "shared" "shared" (defArgs s_shared) (defBody s_shared) (defScope s_shared) [] [] (He.fAd K ("shared", none)) d_shared
  g_shared : mg "shared" = some (.ref (He.fAd K ("shared", none)))
  d_own_items : FuncData
  F_own_items : FunD K "own_items" "own_items" (defArgs s_own_items) (defBody s_own_items) (defScope s_own_items) [] [] (He.fAd K ("own_items", none)) d_own_items
  g_own_items : mg "own_items" = some (.ref (He.fAd K ("own_items", none)))
  d_own_plan : FuncData
  F_own_plan : FunD K "own_plan" "own_plan" (defArgs s_own_plan) (defBody s_own_plan) (defScope s_own_plan) [] [] (He.fAd K ("own_plan", none)) d_own_plan
  g_own_plan : mg "own_plan" = some (.ref (He.fAd K ("own_plan", none)))
  d_values : FuncData
  F_values : FunD K "_law_values" "_law_values" (defArgs s_values) (defBody s_values) (defScope s_values) [] [] (He.fAd K ("_law_values", none)) d_values
  g_values : mg "_law_values" = some (.ref (He.fAd K ("_law_values", none)))
  d_before : FuncData
  F_before : FunD K "_law_before" "_law_before" (defArgs s_before) (defBody s_before) (defScope s_before) [] [] (He.fAd K ("_law_before", none)) d_before
  g_before : mg "_law_before" = some (.ref (He.fAd K ("_law_before", none)))
  d_ahead : FuncData
  F_ahead : FunD K "ahead" "ahead" (defArgs s_ahead) (defBody s_ahead) (defScope s_ahead) [] [] (He.fAd K ("ahead", none)) d_ahead
  g_ahead : mg "ahead" = some (.ref (He.fAd K ("ahead", none)))
  d_stand_within : FuncData
  F_stand_within : FunD K "stand_within" "stand_within" (defArgs s_stand_within) (defBody s_stand_within) (defScope s_stand_within) [] [] (He.fAd K ("stand_within", none)) d_stand_within
  g_stand_within : mg "stand_within" = some (.ref (He.fAd K ("stand_within", none)))
  d_stand : FuncData
  F_stand : FunD K "stand" "stand" (defArgs s_stand) (defBody s_stand) (defScope s_stand) [] [] (He.fAd K ("stand", none)) d_stand
  g_stand : mg "stand" = some (.ref (He.fAd K ("stand", none)))
  d_sweeps_within : FuncData
  F_sweeps_within : FunD K "sweeps_within" "sweeps_within" (defArgs s_sweeps_within) (defBody s_sweeps_within) (defScope s_sweeps_within) [] [] (He.fAd K ("sweeps_within", none)) d_sweeps_within
  g_sweeps_within : mg "sweeps_within" = some (.ref (He.fAd K ("sweeps_within", none)))
  d_sweeps_of : FuncData
  F_sweeps_of : FunD K "sweeps_of" "sweeps_of" (defArgs s_sweeps_of) (defBody s_sweeps_of) (defScope s_sweeps_of) [] [] (He.fAd K ("sweeps_of", none)) d_sweeps_of
  g_sweeps_of : mg "sweeps_of" = some (.ref (He.fAd K ("sweeps_of", none)))
  d_time_of : FuncData
  F_time_of : FunD K "time_of" "time_of" (defArgs s_time_of) (defBody s_time_of) (defScope s_time_of) [] [] (He.fAd K ("time_of", none)) d_time_of
  g_time_of : mg "time_of" = some (.ref (He.fAd K ("time_of", none)))
  d_order_of : FuncData
  F_order_of : FunD K "order_of" "order_of" (defArgs s_order_of) (defBody s_order_of) (defScope s_order_of) [] [] (He.fAd K ("order_of", none)) d_order_of
  g_order_of : mg "order_of" = some (.ref (He.fAd K ("order_of", none)))
  d_law : FuncData
  F_law : FunD K "law" "law" (defArgs s_law) (defBody s_law) (defScope s_law) [] [] (He.fAd K ("law", none)) d_law
  g_law : mg "law" = some (.ref (He.fAd K ("law", none)))
  g_Program : mg "Program" = some (.ref (He.ga K "Program"))
  cl_Program : Cls K (He.ga K "Program")
  mk_Program : Mk K (He.ga K "Program") (He.fAd K ("Program", some "__init__"))
  na_Program_size : NoAttr K (He.ga K "Program") "size"
  na_Program_deeds : NoAttr K (He.ga K "Program") "deeds"
  g_Deed : mg "Deed" = some (.ref (He.ga K "Deed"))
  cl_Deed : Cls K (He.ga K "Deed")
  mk_Deed : Mk K (He.ga K "Deed") (He.fAd K ("Deed", some "__init__"))
  na_Deed_names : NoAttr K (He.ga K "Deed") "names"
  na_Deed_lows : NoAttr K (He.ga K "Deed") "lows"
  na_Deed_highs : NoAttr K (He.ga K "Deed") "highs"
  na_Deed_table : NoAttr K (He.ga K "Deed") "table"
  na_Deed_spots : NoAttr K (He.ga K "Deed") "spots"
  na_Deed_term : NoAttr K (He.ga K "Deed") "term"
  na_Deed_path : NoAttr K (He.ga K "Deed") "path"
  g_Number : mg "Number" = some (.ref (He.ga K "Number"))
  cl_Number : Cls K (He.ga K "Number")
  mk_Number : Mk K (He.ga K "Number") (He.fAd K ("Number", some "__init__"))
  na_Number_n : NoAttr K (He.ga K "Number") "n"
  n_bool : mg "bool" = none
  n_enumerate : mg "enumerate" = none
  n_int : mg "int" = none
  n_isinstance : mg "isinstance" = none
  n_len : mg "len" = none
  n_list : mg "list" = none
  n_max : mg "max" = none
  n_min : mg "min" = none
  n_range : mg "range" = none
  n_tuple : mg "tuple" = none
  n_zip : mg "zip" = none
section
variable {P : Program} {w : World} {K : PySem.W.Frag} {mg : Str → Option Value} {base : Heap}
theorem Txt.f_Program_size (T : Txt K mg) : FldOf K "size" (fun d : QProgram => d.size) := fun F v d ⟨a, dx, vs, e, hF, ra_⟩ => by
  obtain ⟨v0, _, rfl, r0, ⟨v1, _, rfl, r1, rfl⟩⟩ := ra_
  exact ⟨a, _, dx, _, v0, e, hF, T.cl_Program, T.na_Program_size, zlook (i := 0) (by decide +kernel) (by decide) rfl, r0⟩
theorem Txt.f_Program_deeds (T : Txt K mg) : FldOf K "deeds" (fun d : QProgram => d.deeds) := fun F v d ⟨a, dx, vs, e, hF, ra_⟩ => by
  obtain ⟨v0, _, rfl, r0, ⟨v1, _, rfl, r1, rfl⟩⟩ := ra_
  exact ⟨a, _, dx, _, v1, e, hF, T.cl_Program, T.na_Program_deeds, zlook (i := 1) (by decide +kernel) (by decide) rfl, r1⟩
theorem Txt.f_Deed_names (T : Txt K mg) : FldOf K "names" (fun d : QDeed => d.names) := fun F v d ⟨a, dx, vs, e, hF, ra_⟩ => by
  obtain ⟨v0, _, rfl, r0, ⟨v1, _, rfl, r1, ⟨v2, _, rfl, r2, ⟨v3, _, rfl, r3, ⟨v4, _, rfl, r4, ⟨v5, _, rfl, r5, ⟨v6, _, rfl, r6, rfl⟩⟩⟩⟩⟩⟩⟩ := ra_
  exact ⟨a, _, dx, _, v0, e, hF, T.cl_Deed, T.na_Deed_names, zlook (i := 0) (by decide +kernel) (by decide) rfl, r0⟩
theorem Txt.f_Deed_lows (T : Txt K mg) : FldOf K "lows" (fun d : QDeed => d.lows) := fun F v d ⟨a, dx, vs, e, hF, ra_⟩ => by
  obtain ⟨v0, _, rfl, r0, ⟨v1, _, rfl, r1, ⟨v2, _, rfl, r2, ⟨v3, _, rfl, r3, ⟨v4, _, rfl, r4, ⟨v5, _, rfl, r5, ⟨v6, _, rfl, r6, rfl⟩⟩⟩⟩⟩⟩⟩ := ra_
  exact ⟨a, _, dx, _, v1, e, hF, T.cl_Deed, T.na_Deed_lows, zlook (i := 1) (by decide +kernel) (by decide) rfl, r1⟩
theorem Txt.f_Deed_highs (T : Txt K mg) : FldOf K "highs" (fun d : QDeed => d.highs) := fun F v d ⟨a, dx, vs, e, hF, ra_⟩ => by
  obtain ⟨v0, _, rfl, r0, ⟨v1, _, rfl, r1, ⟨v2, _, rfl, r2, ⟨v3, _, rfl, r3, ⟨v4, _, rfl, r4, ⟨v5, _, rfl, r5, ⟨v6, _, rfl, r6, rfl⟩⟩⟩⟩⟩⟩⟩ := ra_
  exact ⟨a, _, dx, _, v2, e, hF, T.cl_Deed, T.na_Deed_highs, zlook (i := 2) (by decide +kernel) (by decide) rfl, r2⟩
theorem Txt.f_Deed_table (T : Txt K mg) : FldOf K "table" (fun d : QDeed => d.table) := fun F v d ⟨a, dx, vs, e, hF, ra_⟩ => by
  obtain ⟨v0, _, rfl, r0, ⟨v1, _, rfl, r1, ⟨v2, _, rfl, r2, ⟨v3, _, rfl, r3, ⟨v4, _, rfl, r4, ⟨v5, _, rfl, r5, ⟨v6, _, rfl, r6, rfl⟩⟩⟩⟩⟩⟩⟩ := ra_
  exact ⟨a, _, dx, _, v3, e, hF, T.cl_Deed, T.na_Deed_table, zlook (i := 3) (by decide +kernel) (by decide) rfl, r3⟩
theorem Txt.f_Deed_spots (T : Txt K mg) : FldOf K "spots" (fun d : QDeed => d.spots) := fun F v d ⟨a, dx, vs, e, hF, ra_⟩ => by
  obtain ⟨v0, _, rfl, r0, ⟨v1, _, rfl, r1, ⟨v2, _, rfl, r2, ⟨v3, _, rfl, r3, ⟨v4, _, rfl, r4, ⟨v5, _, rfl, r5, ⟨v6, _, rfl, r6, rfl⟩⟩⟩⟩⟩⟩⟩ := ra_
  exact ⟨a, _, dx, _, v4, e, hF, T.cl_Deed, T.na_Deed_spots, zlook (i := 4) (by decide +kernel) (by decide) rfl, r4⟩
theorem Txt.f_Deed_term (T : Txt K mg) : FldOf K "term" (fun d : QDeed => d.term) := fun F v d ⟨a, dx, vs, e, hF, ra_⟩ => by
  obtain ⟨v0, _, rfl, r0, ⟨v1, _, rfl, r1, ⟨v2, _, rfl, r2, ⟨v3, _, rfl, r3, ⟨v4, _, rfl, r4, ⟨v5, _, rfl, r5, ⟨v6, _, rfl, r6, rfl⟩⟩⟩⟩⟩⟩⟩ := ra_
  exact ⟨a, _, dx, _, v5, e, hF, T.cl_Deed, T.na_Deed_term, zlook (i := 5) (by decide +kernel) (by decide) rfl, r5⟩
theorem Txt.f_Deed_path (T : Txt K mg) : FldOf K "path" (fun d : QDeed => d.path) := fun F v d ⟨a, dx, vs, e, hF, ra_⟩ => by
  obtain ⟨v0, _, rfl, r0, ⟨v1, _, rfl, r1, ⟨v2, _, rfl, r2, ⟨v3, _, rfl, r3, ⟨v4, _, rfl, r4, ⟨v5, _, rfl, r5, ⟨v6, _, rfl, r6, rfl⟩⟩⟩⟩⟩⟩⟩ := ra_
  exact ⟨a, _, dx, _, v6, e, hF, T.cl_Deed, T.na_Deed_path, zlook (i := 6) (by decide +kernel) (by decide) rfl, r6⟩
theorem Txt.f_Number_n (T : Txt K mg) : FldOf K "n" (fun d : QNumber => d.n) := fun F v d ⟨a, dx, vs, e, hF, ra_⟩ => by
  obtain ⟨v0, _, rfl, r0, rfl⟩ := ra_
  exact ⟨a, _, dx, _, v0, e, hF, T.cl_Number, T.na_Number_n, zlook (i := 0) (by decide +kernel) (by decide) rfl, r0⟩
/-! at -/
theorem sc_at : FnScope ["_law_script", "_law_k", "_law_number"] ["_law_script", "_law_k"] (defScope s_at) := ⟨rfl, rfl, rfl, by decide +kernel, rfl, by decide +kernel, by decide +kernel⟩
theorem b_at (T : Txt K mg) : Binds K T.d_at ["_law_script", "_law_k"] [] := T.F_at.bindsN fun _ _ _ _ _ _ us hl => match us, hl with | [_, _], _ => rfl
theorem kv_at_0 : VKn (defScope s_at) "_law_script" := ⟨by first | exact Or.inl (by decide +kernel) | exact Or.inr (Or.inl (by decide +kernel)) | exact Or.inr (Or.inr (by decide +kernel)), by decide, by decide⟩
theorem kv_at_1 : VKn (defScope s_at) "_law_k" := ⟨by first | exact Or.inl (by decide +kernel) | exact Or.inr (Or.inl (by decide +kernel)) | exact Or.inr (Or.inr (by decide +kernel)), by decide, by decide⟩
theorem kv_at_2 : VKn (defScope s_at) "_law_number" := ⟨by first | exact Or.inl (by decide +kernel) | exact Or.inr (Or.inl (by decide +kernel)) | exact Or.inr (Or.inr (by decide +kernel)), by decide, by decide⟩
theorem ok_at (T : Txt K mg) : FnOk P w K mg base CX0 1 (He.fAd K ("_law_at", none)) T.d_at ["_law_script", "_law_k"] (Pr K fun (a_ : (List Int) × Int × Unit) => m_at a_.1 a_.2.1) := by
  refine fn_ok T.F_at sc_at rfl fun cdv A outer s_ F0 H0 vs a_ r D_ E_ hr sm_ ra_ hm kr kn => ?_
  obtain ⟨v_script, _, rfl, r_script, v_k, _, rfl, r_k, rfl⟩ := ra_
  obtain ⟨x_script, x_k, _u⟩ := a_
  have G : GrX K F0 H0 F0 H0 := .refl sm_
  replace hm : m_at x_script x_k = some r := hm
  unfold m_at at hm
  have r_script : rp (α := (List Int)) K F0 v_script x_script := r_script
  have r_k : rp (α := Int) K F0 v_k x_k := r_k
  change GoS _ _ _ [some v_script, some v_k, none] _
  obtain ⟨x_number, he, hm⟩ := Option.bind_eq_some_iff.mp hm
  refine go_setA (Int) 2 G.sm (ev_add (ev_mul ev_int (ev_varK 1 rfl r_k kv_at_1) (CMul.l (by decide))) ev_int) (fun v_number F H g rn_ => ?_) sc_at.nd
  have G := G.trans g
  have r_script := Rp.mono g.ff r_script
  have r_k := Rp.mono g.ff r_k
  have r_number := cg (Option.some.inj he) rn_
  change GoS _ _ _ [some v_script, some v_k, some v_number] _
  obtain ⟨b1, hj, hm⟩ := Option.bind_eq_some_iff.mp hm
  refine go_ifjA ((decide (x_k < (x_script.length : Int)))) (fun σ_ H_ => ∃ (F_ : Hp) (v_number : V), L2.Same F F_ ∧ σ_ = [some v_script, some v_k, some v_number] ∧ GrX K F0 H0 F_ H_ ∧ rp (α := Int) K F_ v_number b1) G.sm (et_cmp op_lt o2_lt (ev_varK 1 rfl r_k kv_at_1) (ev_callB call_len_seq oc_lenL T.n_len PySem.boot_len (ea_cons (ev_varK 0 rfl r_script kv_at_0) ea_nil)) (nomark _)) (fun hc F H g => ?_) (fun hc F H g => ?_) (fun σ_ H hP_ => ?_)
  · replace hj := ipos hc hj
    clear hm
    have hm := hj
    clear hj
    have G := G.trans g
    have r_script := Rp.mono g.ff r_script
    have r_k := Rp.mono g.ff r_k
    have r_number := Rp.mono g.ff r_number
    have sj2 := g.ff
    obtain ⟨t3, h_t3, hm⟩ := Option.bind_eq_some_iff.mp hm
    obtain ⟨x_number, he, hm⟩ := Option.bind_eq_some_iff.mp hm
    refine go_setA (Int) 2 G.sm (ev_add (ev_varK 2 rfl r_number kv_at_2) (ev_ixL (ev_varK 0 rfl r_script kv_at_0) (ev_varK 1 rfl r_k kv_at_1) h_t3)) (fun v_number F H g rn_ => ?_) sc_at.nd
    have G := G.trans g
    have r_script := Rp.mono g.ff r_script
    have r_k := Rp.mono g.ff r_k
    have sj2 := sj2.trans g.ff
    have r_number := cg (Option.some.inj he) rn_
    have hm := Option.some.inj hm
    subst hm
    exact GoS.nil ⟨_, _, sj2, rfl, G, r_number⟩
  · replace hj := ineg (nt hc) hj
    clear hm
    have hm := hj
    clear hj
    have G := G.trans g
    have r_script := Rp.mono g.ff r_script
    have r_k := Rp.mono g.ff r_k
    have r_number := Rp.mono g.ff r_number
    have sj2 := g.ff
    refine go_ifA ((decide ((0 : Int) < (x_script.length : Int)))) G.sm (et_cmp op_gt o2_gt (ev_callB call_len_seq oc_lenL T.n_len PySem.boot_len (ea_cons (ev_varK 0 rfl r_script kv_at_0) ea_nil)) ev_int (nomark _)) (fun hc F H g => ?_) (fun hc F H g => ?_)
    · replace hm := ipos hc hm
      have G := G.trans g
      have r_script := Rp.mono g.ff r_script
      have r_k := Rp.mono g.ff r_k
      have r_number := Rp.mono g.ff r_number
      have sj2 := sj2.trans g.ff
      obtain ⟨t4, h_t4, hm⟩ := Option.bind_eq_some_iff.mp hm
      obtain ⟨t5, h_t5, hm⟩ := Option.bind_eq_some_iff.mp hm
      obtain ⟨x_number, he, hm⟩ := Option.bind_eq_some_iff.mp hm
      refine go_setA (Int) 2 G.sm (ev_add (ev_mul ev_int (ev_varK 2 rfl r_number kv_at_2) (CMul.l (by decide))) (ev_ixL (ev_varK 0 rfl r_script kv_at_0) (ev_modG (ev_mul (ev_varK 1 rfl r_k kv_at_1) ev_int (CMul.r (by decide))) (ev_callB call_len_seq oc_lenL T.n_len PySem.boot_len (ea_cons (ev_varK 0 rfl r_script kv_at_0) ea_nil)) h_t4) h_t5)) (fun v_number F H g rn_ => ?_) sc_at.nd
      have G := G.trans g
      have r_script := Rp.mono g.ff r_script
      have r_k := Rp.mono g.ff r_k
      have sj2 := sj2.trans g.ff
      have r_number := cg (Option.some.inj he) rn_
      refine GoS.nil ?_
      have hm := Option.some.inj hm
      subst hm
      exact GoS.nil ⟨_, _, sj2, rfl, G, r_number⟩
    · replace hm := ineg (nt hc) hm
      have G := G.trans g
      have r_script := Rp.mono g.ff r_script
      have r_k := Rp.mono g.ff r_k
      have r_number := Rp.mono g.ff r_number
      have sj2 := sj2.trans g.ff
      refine GoS.nil ?_
      have hm := Option.some.inj hm
      subst hm
      exact GoS.nil ⟨_, _, sj2, rfl, G, r_number⟩
  obtain ⟨F, v_number, sj_, rfl, G, r_number⟩ := hP_
  obtain ⟨x_number, he, hm⟩ := Option.bind_eq_some_iff.mp hm
  refine go_setA (Int) 2 G.sm (ev_mod (ev_mul (ev_varK 2 rfl r_number kv_at_2) ev_int (CMul.r (by decide))) ev_int (by decide)) (fun v_number F H g rn_ => ?_) sc_at.nd
  have G := G.trans g
  have r_number := cg (Option.some.inj he) rn_
  obtain ⟨t6, h_t6, hm⟩ := Option.bind_eq_some_iff.mp hm
  exact go_ret G.sm (ev_mod (ev_mulG (ev_varK 2 rfl r_number kv_at_2) (ev_varK 2 rfl r_number kv_at_2) h_t6) ev_int (by decide)) fun v_ F_ H_ g_ rv_ => kr _ _ _ (G.trans g_) (cg (Option.some.inj hm) rv_)
/-! digits -/
theorem sc_digits : FnScope ["_law_cell", "_law_sizes", "_law_found", "_law_many"] ["_law_cell", "_law_sizes"] (defScope s_digits) := ⟨rfl, rfl, rfl, by decide +kernel, rfl, by decide +kernel, by decide +kernel⟩
theorem b_digits (T : Txt K mg) : Binds K T.d_digits ["_law_cell", "_law_sizes"] [] := T.F_digits.bindsN fun _ _ _ _ _ _ us hl => match us, hl with | [_, _], _ => rfl
theorem kv_digits_0 : VKn (defScope s_digits) "_law_cell" := ⟨by first | exact Or.inl (by decide +kernel) | exact Or.inr (Or.inl (by decide +kernel)) | exact Or.inr (Or.inr (by decide +kernel)), by decide, by decide⟩
theorem kv_digits_1 : VKn (defScope s_digits) "_law_sizes" := ⟨by first | exact Or.inl (by decide +kernel) | exact Or.inr (Or.inl (by decide +kernel)) | exact Or.inr (Or.inr (by decide +kernel)), by decide, by decide⟩
theorem kv_digits_2 : VKn (defScope s_digits) "_law_found" := ⟨by first | exact Or.inl (by decide +kernel) | exact Or.inr (Or.inl (by decide +kernel)) | exact Or.inr (Or.inr (by decide +kernel)), by decide, by decide⟩
theorem kv_digits_3 : VKn (defScope s_digits) "_law_many" := ⟨by first | exact Or.inl (by decide +kernel) | exact Or.inr (Or.inl (by decide +kernel)) | exact Or.inr (Or.inr (by decide +kernel)), by decide, by decide⟩
theorem ok_digits (T : Txt K mg) : FnOk P w K mg base CX0 1 (He.fAd K ("_law_digits", none)) T.d_digits ["_law_cell", "_law_sizes"] (Pr K fun (a_ : Int × (List Int) × Unit) => m_digits a_.1 a_.2.1) := by
  refine fn_ok T.F_digits sc_digits rfl fun cdv A outer s_ F0 H0 vs a_ r D_ E_ hr sm_ ra_ hm kr kn => ?_
  obtain ⟨v_cell, _, rfl, r_cell, v_sizes, _, rfl, r_sizes, rfl⟩ := ra_
  obtain ⟨x_cell, x_sizes, _u⟩ := a_
  have G : GrX K F0 H0 F0 H0 := .refl sm_
  replace hm : m_digits x_cell x_sizes = some r := hm
  unfold m_digits at hm
  have r_cell : rp (α := Int) K F0 v_cell x_cell := r_cell
  have r_sizes : rp (α := (List Int)) K F0 v_sizes x_sizes := r_sizes
  change GoS _ _ _ [some v_cell, some v_sizes, none, none] _
  obtain ⟨x_found, he, hm⟩ := Option.bind_eq_some_iff.mp hm
  refine go_setNA ((List Int)) 2 G.sm (en_list el_nil (Nat.zero_le _)) (fun l_found vs_ F H g nl_ fl_ hl_ rs_ => ?_) sc_digits.nd
  have n0_ := G.hh.free nl_
  have G := G.trans g
  have r_cell := Rp.mono g.ff r_cell
  have r_sizes := Rp.mono g.ff r_sizes
  have o_found : Own K _ F H l_found _ := Own.cg (Option.some.inj he) ⟨n0_, fl_, vs_, hl_, rs_⟩
  change GoS _ _ _ [some v_cell, some v_sizes, some (.ref l_found), none] _
  obtain ⟨b8, ho_, hm⟩ := Option.bind_eq_some_iff.mp hm
  refine go_forN G.sm (ei_list (ev_varK 1 rfl r_sizes kv_digits_1)) (pg_name (i := 3) sc_digits.nd rfl (by first | exact Or.inl rfl | exact Or.inr rfl)) ho_ (fun F H g => ?_) PassesOwn.never
  have G := G.trans g
  have r_cell := Rp.mono g.ff r_cell
  have o_found := o_found.up g
  refine ⟨fun (b1 : ((List Int) × Int)) σ_ F_ H_ => ∃ (u_many : Option V) (v_cell : V), σ_ = [some v_cell, some v_sizes, some (.ref l_found), u_many] ∧ GrX K F0 H0 F_ H_ ∧ Own K H0 F_ H_ l_found b1.1 ∧ rp (α := Int) K F_ v_cell b1.2, ⟨_, _, rfl, G, o_found, r_cell⟩, ?_, ?_⟩
  ·
    intro b1 x_many o_ hm σ_ F H v_many s1_ s2_ iv_ F H g r_many Q_ hQ_
    obtain ⟨u_many, v_cell, rfl, G, o_found, r_cell⟩ := iv_
    have sb4 := g.ff
    have G := G.trans g
    have r_cell := Rp.mono g.ff r_cell
    have o_found := o_found.up g
    refine hQ_ _ _ ?_
    change GoS _ _ _ [some v_cell, some v_sizes, some (.ref l_found), some v_many] _
    obtain ⟨t5, h_t5, hm⟩ := Option.bind_eq_some_iff.mp hm
    obtain ⟨t6, he, hm⟩ := Option.bind_eq_some_iff.mp hm
    refine go_append 2 G.sm o_found rfl (ev_modG (ev_varK 0 rfl r_cell kv_digits_0) (ev_varK 3 rfl r_many kv_digits_3) h_t5) he (fun w_ F H g nz_ fz_ on_ => ?_)
    have G := G.trans g
    have r_cell := Rp.mono g.ff r_cell
    have r_many := Rp.mono g.ff r_many
    have sb4 := sb4.trans g.ff
    have G := G.poke (u := w_) on_.n fz_ nz_ on_.pl
    have o_found := on_
    obtain ⟨t7, h_t7, hm⟩ := Option.bind_eq_some_iff.mp hm
    obtain ⟨x_cell, he, hm⟩ := Option.bind_eq_some_iff.mp hm
    refine go_setA (Int) 0 G.sm (ev_divG (ev_varK 0 rfl r_cell kv_digits_0) (ev_varK 3 rfl r_many kv_digits_3) h_t7) (fun v_cell F H g rn_ => ?_) sc_digits.nd
    have G := G.trans g
    have o_found := o_found.up g
    have r_many := Rp.mono g.ff r_many
    have sb4 := sb4.trans g.ff
    have r_cell := cg (Option.some.inj he) rn_
    have hm := Option.some.inj hm
    subst hm
    exact GoS.nil ⟨_, sb4, G.fh, ⟨_, _, rfl, G, o_found, r_cell⟩⟩
  · intro σ_ F H s1_ s2_ iv_
    obtain ⟨u_many, v_cell, rfl, G, o_found, r_cell⟩ := iv_
    refine o_found.freeze G (fun F H s_ s2_ G r_found k_ => ?_)
    exact go_ret G.sm (ev_varK 2 rfl r_found kv_digits_2) fun v_ F_ H_ g_ rv_ => kr _ _ _ (G.trans g_) (cg (Option.some.inj hm) rv_)
/-! loop -/
theorem sc_loop : FnScope ["_law_cell", "_law_loops", "_law_kind", "_law_step", "_law_many", "_law_thin", "_law_which", "_law_sign", "_law_more", "_law_letters", "_law_name", "_law_loop_here", "_law_at_here", "_law_high", "_law_outer", "_law_low", "_law_first", "_law_last", "_law_other"] ["_law_cell", "_law_loops"] (defScope s_loop) := ⟨rfl, rfl, rfl, by decide +kernel, rfl, by decide +kernel, by decide +kernel⟩
theorem b_loop (T : Txt K mg) : Binds K T.d_loop ["_law_cell", "_law_loops"] [] := T.F_loop.bindsN fun _ _ _ _ _ _ us hl => match us, hl with | [_, _], _ => rfl
theorem kv_loop_0 : VKn (defScope s_loop) "_law_cell" := ⟨by first | exact Or.inl (by decide +kernel) | exact Or.inr (Or.inl (by decide +kernel)) | exact Or.inr (Or.inr (by decide +kernel)), by decide, by decide⟩
theorem kv_loop_1 : VKn (defScope s_loop) "_law_loops" := ⟨by first | exact Or.inl (by decide +kernel) | exact Or.inr (Or.inl (by decide +kernel)) | exact Or.inr (Or.inr (by decide +kernel)), by decide, by decide⟩
theorem kv_loop_2 : VKn (defScope s_loop) "_law_kind" := ⟨by first | exact Or.inl (by decide +kernel) | exact Or.inr (Or.inl (by decide +kernel)) | exact Or.inr (Or.inr (by decide +kernel)), by decide, by decide⟩
theorem kv_loop_3 : VKn (defScope s_loop) "_law_step" := ⟨by first | exact Or.inl (by decide +kernel) | exact Or.inr (Or.inl (by decide +kernel)) | exact Or.inr (Or.inr (by decide +kernel)), by decide, by decide⟩
theorem kv_loop_4 : VKn (defScope s_loop) "_law_many" := ⟨by first | exact Or.inl (by decide +kernel) | exact Or.inr (Or.inl (by decide +kernel)) | exact Or.inr (Or.inr (by decide +kernel)), by decide, by decide⟩
theorem kv_loop_5 : VKn (defScope s_loop) "_law_thin" := ⟨by first | exact Or.inl (by decide +kernel) | exact Or.inr (Or.inl (by decide +kernel)) | exact Or.inr (Or.inr (by decide +kernel)), by decide, by decide⟩
theorem kv_loop_6 : VKn (defScope s_loop) "_law_which" := ⟨by first | exact Or.inl (by decide +kernel) | exact Or.inr (Or.inl (by decide +kernel)) | exact Or.inr (Or.inr (by decide +kernel)), by decide, by decide⟩
theorem kv_loop_7 : VKn (defScope s_loop) "_law_sign" := ⟨by first | exact Or.inl (by decide +kernel) | exact Or.inr (Or.inl (by decide +kernel)) | exact Or.inr (Or.inr (by decide +kernel)), by decide, by decide⟩
theorem kv_loop_8 : VKn (defScope s_loop) "_law_more" := ⟨by first | exact Or.inl (by decide +kernel) | exact Or.inr (Or.inl (by decide +kernel)) | exact Or.inr (Or.inr (by decide +kernel)), by decide, by decide⟩
theorem kv_loop_9 : VKn (defScope s_loop) "_law_letters" := ⟨by first | exact Or.inl (by decide +kernel) | exact Or.inr (Or.inl (by decide +kernel)) | exact Or.inr (Or.inr (by decide +kernel)), by decide, by decide⟩
theorem kv_loop_10 : VKn (defScope s_loop) "_law_name" := ⟨by first | exact Or.inl (by decide +kernel) | exact Or.inr (Or.inl (by decide +kernel)) | exact Or.inr (Or.inr (by decide +kernel)), by decide, by decide⟩
theorem kv_loop_12 : VKn (defScope s_loop) "_law_at_here" := ⟨by first | exact Or.inl (by decide +kernel) | exact Or.inr (Or.inl (by decide +kernel)) | exact Or.inr (Or.inr (by decide +kernel)), by decide, by decide⟩
theorem kv_loop_13 : VKn (defScope s_loop) "_law_high" := ⟨by first | exact Or.inl (by decide +kernel) | exact Or.inr (Or.inl (by decide +kernel)) | exact Or.inr (Or.inr (by decide +kernel)), by decide, by decide⟩
theorem kv_loop_14 : VKn (defScope s_loop) "_law_outer" := ⟨by first | exact Or.inl (by decide +kernel) | exact Or.inr (Or.inl (by decide +kernel)) | exact Or.inr (Or.inr (by decide +kernel)), by decide, by decide⟩
theorem kv_loop_16 : VKn (defScope s_loop) "_law_first" := ⟨by first | exact Or.inl (by decide +kernel) | exact Or.inr (Or.inl (by decide +kernel)) | exact Or.inr (Or.inr (by decide +kernel)), by decide, by decide⟩
theorem kv_loop_17 : VKn (defScope s_loop) "_law_last" := ⟨by first | exact Or.inl (by decide +kernel) | exact Or.inr (Or.inl (by decide +kernel)) | exact Or.inr (Or.inr (by decide +kernel)), by decide, by decide⟩
theorem kv_loop_18 : VKn (defScope s_loop) "_law_other" := ⟨by first | exact Or.inl (by decide +kernel) | exact Or.inr (Or.inl (by decide +kernel)) | exact Or.inr (Or.inr (by decide +kernel)), by decide, by decide⟩
theorem gl_loop_digits : (defScope s_loop).names.lookup ("_law_digits" : Str) = some NameKind.globalImplicit := by decide +kernel
theorem ok_loop (T : Txt K mg) : FnOk P w K mg base CX0 2 (He.fAd K ("_law_loop", none)) T.d_loop ["_law_cell", "_law_loops"] (Pr K fun (a_ : Int × (List (T5 Str (T2 Str Int) (T2 Str Int) Int Int)) × Unit) => m_loop a_.1 a_.2.1) := by
  refine fn_ok T.F_loop sc_loop rfl fun cdv A outer s_ F0 H0 vs a_ r D_ E_ hr sm_ ra_ hm kr kn => ?_
  obtain ⟨v_cell, _, rfl, r_cell, v_loops, _, rfl, r_loops, rfl⟩ := ra_
  obtain ⟨x_cell, x_loops, _u⟩ := a_
  have G : GrX K F0 H0 F0 H0 := .refl sm_
  replace hm : m_loop x_cell x_loops = some r := hm
  unfold m_loop at hm
  have r_cell : rp (α := Int) K F0 v_cell x_cell := r_cell
  have r_loops : rp (α := (List (T5 Str (T2 Str Int) (T2 Str Int) Int Int))) K F0 v_loops x_loops := r_loops
  change GoS _ _ _ [some v_cell, some v_loops, none, none, none, none, none, none, none, none, none, none, none, none, none, none, none, none, none] _
  obtain ⟨t1, h_t1, hm⟩ := Option.bind_eq_some_iff.mp hm
  obtain ⟨i2, he, hm⟩ := Option.bind_eq_some_iff.mp hm
  refine go_unpack G.sm (ev_call (ok_digits T) (hr.mono (by omega)) T.g_digits T.F_digits.kp (b_digits T) (ea_cons (ev_varK 0 rfl r_cell kv_loop_0) (ea_cons (EvN.evA ((List Int)) (en_list (el_int (el_int (el_int (el_int (el_int (el_int (el_int el_nil))))))) (by show 7 ≤ sizeLine; decide))) ea_nil)) h_t1 gl_loop_digits) (pg_lst rfl (pgs_cons (pg_name (i := 2) sc_loop.nd rfl (by first | exact Or.inl rfl | exact Or.inr rfl)) (pgs_cons (pg_name (i := 3) sc_loop.nd rfl (by first | exact Or.inl rfl | exact Or.inr rfl)) (pgs_cons (pg_name (i := 4) sc_loop.nd rfl (by first | exact Or.inl rfl | exact Or.inr rfl)) (pgs_cons (pg_name (i := 5) sc_loop.nd rfl (by first | exact Or.inl rfl | exact Or.inr rfl)) (pgs_cons (pg_name (i := 6) sc_loop.nd rfl (by first | exact Or.inl rfl | exact Or.inr rfl)) (pgs_cons (pg_name (i := 7) sc_loop.nd rfl (by first | exact Or.inl rfl | exact Or.inr rfl)) (pgs_cons (pg_name (i := 8) sc_loop.nd rfl (by first | exact Or.inl rfl | exact Or.inr rfl)) pgs_nil)))))))) (fun w_ F H g ri_ Q_ hQ_ => ?_)
  have ri_ := unl7 he ri_
  have G := G.trans g
  have r_cell := Rp.mono g.ff r_cell
  have r_loops := Rp.mono g.ff r_loops
  obtain ⟨pa3, _, rfl, sq4, v_kind, _, rfl, r_kind, v_step, _, rfl, r_step, v_many, _, rfl, r_many, v_thin, _, rfl, r_thin, v_which, _, rfl, r_which, v_sign, _, rfl, r_sign, v_more, _, rfl, r_more, rfl⟩ := ri_
  refine ⟨pa3, _, rfl, seqL_mono G.fh sq4, rfl, _, _, rfl, _, _, rfl, _, _, rfl, _, _, rfl, _, _, rfl, _, _, rfl, _, _, rfl, rfl, hQ_ _ _ ?_⟩
  change GoS _ _ _ [some v_cell, some v_loops, some v_kind, some v_step, some v_many, some v_thin, some v_which, some v_sign, some v_more, none, none, none, none, none, none, none, none, none, none] _
  obtain ⟨x_letters, he, hm⟩ := Option.bind_eq_some_iff.mp hm
  refine go_setA (Str) 9 G.sm ev_str (fun v_letters F H g rn_ => ?_) sc_loop.nd
  have G := G.trans g
  have r_loops := Rp.mono g.ff r_loops
  have r_kind := Rp.mono g.ff r_kind
  have r_step := Rp.mono g.ff r_step
  have r_many := Rp.mono g.ff r_many
  have r_thin := Rp.mono g.ff r_thin
  have r_which := Rp.mono g.ff r_which
  have r_sign := Rp.mono g.ff r_sign
  have r_more := Rp.mono g.ff r_more
  have r_letters := cg (Option.some.inj he) rn_
  change GoS _ _ _ [some v_cell, some v_loops, some v_kind, some v_step, some v_many, some v_thin, some v_which, some v_sign, some v_more, some v_letters, none, none, none, none, none, none, none, none, none] _
  obtain ⟨t5, h_t5, hm⟩ := Option.bind_eq_some_iff.mp hm
  obtain ⟨t6, h_t6, hm⟩ := Option.bind_eq_some_iff.mp hm
  obtain ⟨t7, h_t7, hm⟩ := Option.bind_eq_some_iff.mp hm
  obtain ⟨t8, h_t8, hm⟩ := Option.bind_eq_some_iff.mp hm
  obtain ⟨x_name, he, hm⟩ := Option.bind_eq_some_iff.mp hm
  refine go_setA (Str) 10 G.sm (ev_addS (ev_ixS (ev_varK 9 rfl r_letters kv_loop_9) (ev_varK 7 rfl r_sign kv_loop_7) h_t5) (ev_mulS (ev_ixS (ev_varK 9 rfl r_letters kv_loop_9) (ev_mod (ev_varK 8 rfl r_more kv_loop_8) ev_int (by decide)) h_t6) (ev_div (ev_varK 8 rfl r_more kv_loop_8) ev_int ⟨by decide, by decide⟩) h_t7) h_t8) (fun v_name F H g rn_ => ?_) sc_loop.nd
  have G := G.trans g
  have r_loops := Rp.mono g.ff r_loops
  have r_kind := Rp.mono g.ff r_kind
  have r_step := Rp.mono g.ff r_step
  have r_many := Rp.mono g.ff r_many
  have r_thin := Rp.mono g.ff r_thin
  have r_which := Rp.mono g.ff r_which
  have r_sign := Rp.mono g.ff r_sign
  have r_more := Rp.mono g.ff r_more
  have r_letters := Rp.mono g.ff r_letters
  have r_name := cg (Option.some.inj he) rn_
  change GoS _ _ _ [some v_cell, some v_loops, some v_kind, some v_step, some v_many, some v_thin, some v_which, some v_sign, some v_more, some v_letters, some v_name, none, none, none, none, none, none, none, none] _
  obtain ⟨b14, ho_, hm⟩ := Option.bind_eq_some_iff.mp hm
  refine go_whileN (b0 := x_name) (fun (b9 : Str) σ_ F_ H_ => ∃ (v_name : V), σ_ = [some v_cell, some v_loops, some v_kind, some v_step, some v_many, some v_thin, some v_which, some v_sign, some v_more, some v_letters, some v_name, none, none, none, none, none, none, none, none] ∧ GrX K F0 H0 F_ H_ ∧ rp (α := Str) K F_ v_name b9) G.sm ⟨_, rfl, G, r_name⟩ ho_ ?_ ?_ ?_ PassesOwn.never
  ·
    intro b9 t_ hm σ_ F H s1_ s2_ iv_
    obtain ⟨v_name, rfl, G, r_name⟩ := iv_
    have r_loops := Rp.mono s1_ r_loops
    obtain ⟨t12, h_t12, hm⟩ := Option.bind_eq_some_iff.mp hm
    refine ⟨G.sm, EvT.cg (Option.some.inj hm) (et_cmp op_in_seq o2_inL (ev_varK 10 rfl r_name kv_loop_10) (EvN.evA ((List Str)) (en_comp (own := [("_law_loop_here", 11)]) sc_loop.nd (ei_list (ev_varK 1 rfl r_loops kv_loop_1)) h_t12 (blkOk_by (N := ["_law_cell", "_law_loops", "_law_kind", "_law_step", "_law_many", "_law_thin", "_law_which", "_law_sign", "_law_more", "_law_letters", "_law_name", "_law_loop_here", "_law_at_here", "_law_high", "_law_outer", "_law_low", "_law_first", "_law_last", "_law_other"]) (sc := defScope s_loop) (by decide +kernel)) (fun _ _ _ _ _ => (pg_name (i := 11) sc_loop.nd rfl (by first | exact Or.inl rfl | exact Or.inr rfl))) (fun x_loop_here o_ hm F H v_loop_here g r_loop_here Q hQ => by
            have r_loops := Rp.mono g.ff r_loops
            refine hQ _ rfl ?_
            exact ⟨_, (Option.some.inj hm).symm, fun s_ H_ C_ cl_ fp_ => (ev_ixT (ev_var 11 rfl r_loop_here) ev_int pj0)⟩))) rfl), fun F H g => ?_⟩
    have G := G.trans g
    have r_name := Rp.mono g.ff r_name
    exact ⟨_, rfl, G, r_name⟩
  ·
    intro b9 o_ hm σ_ F H s1_ s2_ iv_
    obtain ⟨v_name, rfl, G, r_name⟩ := iv_
    have sb11 := L2.Same.refl F
    have r_loops := Rp.mono s1_ r_loops
    obtain ⟨t13, h_t13, hm⟩ := Option.bind_eq_some_iff.mp hm
    obtain ⟨x_name, he, hm⟩ := Option.bind_eq_some_iff.mp hm
    refine go_setA (Str) 10 G.sm (ev_addS (ev_varK 10 rfl r_name kv_loop_10) ev_str h_t13) (fun v_name F H g rn_ => ?_) sc_loop.nd
    have G := G.trans g
    have r_loops := Rp.mono g.ff r_loops
    have sb11 := sb11.trans g.ff
    have r_name := cg (Option.some.inj he) rn_
    have hm := Option.some.inj hm
    subst hm
    exact GoS.nil ⟨_, sb11, G.fh, ⟨_, rfl, G, r_name⟩⟩
  · intro σ_ F H s1_ s2_ iv_
    obtain ⟨v_name, rfl, G, r_name⟩ := iv_
    have r_loops := Rp.mono s1_ r_loops
    have r_kind := Rp.mono s1_ r_kind
    have r_step := Rp.mono s1_ r_step
    have r_many := Rp.mono s1_ r_many
    have r_thin := Rp.mono s1_ r_thin
    have r_which := Rp.mono s1_ r_which
    have r_more := Rp.mono s1_ r_more
    obtain ⟨x_at_here, he, hm⟩ := Option.bind_eq_some_iff.mp hm
    refine go_setA (Int) 12 G.sm (ev_sub (ev_varK 3 rfl r_step kv_loop_3) ev_int) (fun v_at_here F H g rn_ => ?_) sc_loop.nd
    have G := G.trans g
    have r_loops := Rp.mono g.ff r_loops
    have r_kind := Rp.mono g.ff r_kind
    have r_step := Rp.mono g.ff r_step
    have r_many := Rp.mono g.ff r_many
    have r_thin := Rp.mono g.ff r_thin
    have r_which := Rp.mono g.ff r_which
    have r_more := Rp.mono g.ff r_more
    have r_name := Rp.mono g.ff r_name
    have r_at_here := cg (Option.some.inj he) rn_
    change GoS _ _ _ [some v_cell, some v_loops, some v_kind, some v_step, some v_many, some v_thin, some v_which, some v_sign, some v_more, some v_letters, some v_name, none, some v_at_here, none, none, none, none, none, none] _
    refine go_ifA (x_loops.isEmpty) G.sm (et_cmp (op_eqE hr.units0) o2_eqEL (ev_varK 1 rfl r_loops kv_loop_1) (EvN.evA ((List (T5 Str (T2 Str Int) (T2 Str Int) Int Int))) (en_list el_nil (Nat.zero_le _))) (nomark _)) (fun hc F H g => ?_) (fun hc F H g => ?_)
    · replace hm := ipos hc hm
      have G := G.trans g
      have r_loops := Rp.mono g.ff r_loops
      have r_kind := Rp.mono g.ff r_kind
      have r_many := Rp.mono g.ff r_many
      have r_thin := Rp.mono g.ff r_thin
      have r_which := Rp.mono g.ff r_which
      have r_more := Rp.mono g.ff r_more
      have r_name := Rp.mono g.ff r_name
      have r_at_here := Rp.mono g.ff r_at_here
      obtain ⟨t15, h_t15, hm⟩ := Option.bind_eq_some_iff.mp hm
      obtain ⟨x_high, he, hm⟩ := Option.bind_eq_some_iff.mp hm
      refine go_setA (Int) 13 G.sm (ev_sub (ev_add (ev_varK 12 rfl r_at_here kv_loop_12) (ev_ixL (EvN.evA ((List Int)) (en_list (el_int (el_int (el_int el_nil))) (by show 3 ≤ sizeLine; decide))) (ev_varK 4 rfl r_many kv_loop_4) h_t15)) (ev_mul ev_int (ev_callTy call_int1 oc_intB T.n_int (by decide +kernel) (ea_cons (ev_cmp op_eq o2_eq (ev_varK 5 rfl r_thin kv_loop_5) ev_int (nomark _)) ea_nil)) (CMul.l (by decide)))) (fun v_high F H g rn_ => ?_) sc_loop.nd
      have G := G.trans g
      have r_many := Rp.mono g.ff r_many
      have r_thin := Rp.mono g.ff r_thin
      have r_name := Rp.mono g.ff r_name
      have r_at_here := Rp.mono g.ff r_at_here
      have r_high := cg (Option.some.inj he) rn_
      change GoS _ _ _ [some v_cell, some v_loops, some v_kind, some v_step, some v_many, some v_thin, some v_which, some v_sign, some v_more, some v_letters, some v_name, none, some v_at_here, some v_high, none, none, none, none, none] _
      exact go_ret G.sm (ev_tup5 (ea_cons (ev_varK 10 rfl r_name kv_loop_10) (ea_cons (ev_tup2 (ea_cons ev_str (ea_cons (ev_varK 12 rfl r_at_here kv_loop_12) ea_nil))) (ea_cons (ev_tup2 (ea_cons ev_str (ea_cons (ev_varK 13 rfl r_high kv_loop_13) ea_nil))) (ea_cons (ev_varK 12 rfl r_at_here kv_loop_12) (ea_cons (ev_varK 13 rfl r_high kv_loop_13) ea_nil)))))) fun v_ F_ H_ g_ rv_ => kr _ _ _ (G.trans g_) (cg (Option.some.inj hm) rv_)
    · replace hm := ineg (nt hc) hm
      have G := G.trans g
      have r_loops := Rp.mono g.ff r_loops
      have r_kind := Rp.mono g.ff r_kind
      have r_many := Rp.mono g.ff r_many
      have r_thin := Rp.mono g.ff r_thin
      have r_which := Rp.mono g.ff r_which
      have r_more := Rp.mono g.ff r_more
      have r_name := Rp.mono g.ff r_name
      have r_at_here := Rp.mono g.ff r_at_here
      refine GoS.nil ?_
      obtain ⟨t16, h_t16, hm⟩ := Option.bind_eq_some_iff.mp hm
      obtain ⟨t17, h_t17, hm⟩ := Option.bind_eq_some_iff.mp hm
      obtain ⟨i18, he, hm⟩ := Option.bind_eq_some_iff.mp hm
      refine go_unpack G.sm (ev_ixL (ev_varK 1 rfl r_loops kv_loop_1) (ev_modG (ev_varK 6 rfl r_which kv_loop_6) (ev_callB call_len_seq oc_lenL T.n_len PySem.boot_len (ea_cons (ev_varK 1 rfl r_loops kv_loop_1) ea_nil)) h_t16) h_t17) (pg_tup rfl (pgs_cons (pg_name (i := 14) sc_loop.nd rfl (by first | exact Or.inl rfl | exact Or.inr rfl)) (pgs_cons (pg_name (i := 15) sc_loop.nd rfl (by first | exact Or.inl rfl | exact Or.inr rfl)) (pgs_cons (pg_name (i := 13) sc_loop.nd rfl (by first | exact Or.inl rfl | exact Or.inr rfl)) (pgs_cons (pg_name (i := 16) sc_loop.nd rfl (by first | exact Or.inl rfl | exact Or.inr rfl)) (pgs_cons (pg_name (i := 17) sc_loop.nd rfl (by first | exact Or.inl rfl | exact Or.inr rfl)) pgs_nil)))))) (fun w_ F H g ri_ Q_ hQ_ => ?_)
      have ri_ := cg (Option.some.inj he) ri_
      have G := G.trans g
      have r_loops := Rp.mono g.ff r_loops
      have r_kind := Rp.mono g.ff r_kind
      have r_many := Rp.mono g.ff r_many
      have r_thin := Rp.mono g.ff r_thin
      have r_which := Rp.mono g.ff r_which
      have r_more := Rp.mono g.ff r_more
      have r_name := Rp.mono g.ff r_name
      have r_at_here := Rp.mono g.ff r_at_here
      obtain ⟨pa19, _, rfl, sq20, v_outer, _, rfl, r_outer, v_low, _, rfl, r_low, v_high_s2, _, rfl, r_high_s2, v_first, _, rfl, r_first, v_last, _, rfl, r_last, rfl⟩ := ri_
      refine ⟨pa19, _, rfl, seqT_mono G.fh sq20, rfl, _, _, rfl, _, _, rfl, _, _, rfl, _, _, rfl, _, _, rfl, rfl, hQ_ _ _ ?_⟩
      change GoS _ _ _ [some v_cell, some v_loops, some v_kind, some v_step, some v_many, some v_thin, some v_which, some v_sign, some v_more, some v_letters, some v_name, none, some v_at_here, some v_high_s2, some v_outer, some v_low, some v_first, some v_last, none] _
      refine go_ifA ((decide (i2.a = (0 : Int)))) G.sm (et_cmp op_eq o2_eq (ev_varK 2 rfl r_kind kv_loop_2) ev_int (nomark _)) (fun hc F H g => ?_) (fun hc F H g => ?_)
      · replace hm := ipos hc hm
        have G := G.trans g
        have r_loops := Rp.mono g.ff r_loops
        have r_kind := Rp.mono g.ff r_kind
        have r_many := Rp.mono g.ff r_many
        have r_thin := Rp.mono g.ff r_thin
        have r_which := Rp.mono g.ff r_which
        have r_more := Rp.mono g.ff r_more
        have r_name := Rp.mono g.ff r_name
        have r_at_here := Rp.mono g.ff r_at_here
        have r_outer := Rp.mono g.ff r_outer
        have r_first := Rp.mono g.ff r_first
        have r_last := Rp.mono g.ff r_last
        obtain ⟨x_high_s3, he, hm⟩ := Option.bind_eq_some_iff.mp hm
        refine go_setA (Int) 13 G.sm (ev_sub (ev_add (ev_varK 12 rfl r_at_here kv_loop_12) (ev_mod (ev_varK 4 rfl r_many kv_loop_4) ev_int (by decide))) (ev_mul ev_int (ev_callTy call_int1 oc_intB T.n_int (by decide +kernel) (ea_cons (ev_cmp op_eq o2_eq (ev_varK 5 rfl r_thin kv_loop_5) ev_int (nomark _)) ea_nil)) (CMul.l (by decide)))) (fun v_high_s3 F H g rn_ => ?_) sc_loop.nd
        have G := G.trans g
        have r_many := Rp.mono g.ff r_many
        have r_thin := Rp.mono g.ff r_thin
        have r_name := Rp.mono g.ff r_name
        have r_at_here := Rp.mono g.ff r_at_here
        have r_high_s3 := cg (Option.some.inj he) rn_
        change GoS _ _ _ [some v_cell, some v_loops, some v_kind, some v_step, some v_many, some v_thin, some v_which, some v_sign, some v_more, some v_letters, some v_name, none, some v_at_here, some v_high_s3, some v_outer, some v_low, some v_first, some v_last, none] _
        exact go_ret G.sm (ev_tup5 (ea_cons (ev_varK 10 rfl r_name kv_loop_10) (ea_cons (ev_tup2 (ea_cons ev_str (ea_cons (ev_varK 12 rfl r_at_here kv_loop_12) ea_nil))) (ea_cons (ev_tup2 (ea_cons ev_str (ea_cons (ev_varK 13 rfl r_high_s3 kv_loop_13) ea_nil))) (ea_cons (ev_varK 12 rfl r_at_here kv_loop_12) (ea_cons (ev_varK 13 rfl r_high_s3 kv_loop_13) ea_nil)))))) fun v_ F_ H_ g_ rv_ => kr _ _ _ (G.trans g_) (cg (Option.some.inj hm) rv_)
      · replace hm := ineg (nt hc) hm
        have G := G.trans g
        have r_loops := Rp.mono g.ff r_loops
        have r_kind := Rp.mono g.ff r_kind
        have r_many := Rp.mono g.ff r_many
        have r_thin := Rp.mono g.ff r_thin
        have r_which := Rp.mono g.ff r_which
        have r_more := Rp.mono g.ff r_more
        have r_name := Rp.mono g.ff r_name
        have r_at_here := Rp.mono g.ff r_at_here
        have r_outer := Rp.mono g.ff r_outer
        have r_first := Rp.mono g.ff r_first
        have r_last := Rp.mono g.ff r_last
        refine GoS.nil ?_
        refine go_ifA ((decide (i2.a = (1 : Int)))) G.sm (et_cmp op_eq o2_eq (ev_varK 2 rfl r_kind kv_loop_2) ev_int (nomark _)) (fun hc F H g => ?_) (fun hc F H g => ?_)
        · replace hm := ipos hc hm
          have G := G.trans g
          have r_loops := Rp.mono g.ff r_loops
          have r_kind := Rp.mono g.ff r_kind
          have r_many := Rp.mono g.ff r_many
          have r_thin := Rp.mono g.ff r_thin
          have r_which := Rp.mono g.ff r_which
          have r_more := Rp.mono g.ff r_more
          have r_name := Rp.mono g.ff r_name
          have r_at_here := Rp.mono g.ff r_at_here
          have r_outer := Rp.mono g.ff r_outer
          have r_first := Rp.mono g.ff r_first
          have r_last := Rp.mono g.ff r_last
          obtain ⟨x_more, he, hm⟩ := Option.bind_eq_some_iff.mp hm
          refine go_setA (Int) 8 G.sm (ev_sub (ev_callTy call_int1 oc_intB T.n_int (by decide +kernel) (ea_cons (ev_andP (ev_cmp op_gt o2_gt (ev_varK 4 rfl r_many kv_loop_4) ev_int (nomark _)) (ev_one (ev_cmp op_lt o2_lt (ev_sub (ev_varK 17 rfl r_last kv_loop_17) (ev_varK 16 rfl r_first kv_loop_16)) ev_int (nomark _)))) ea_nil)) (ev_mul ev_int (ev_callTy call_int1 oc_intB T.n_int (by decide +kernel) (ea_cons (ev_cmp op_eq o2_eq (ev_varK 5 rfl r_thin kv_loop_5) ev_int (nomark _)) ea_nil)) (CMul.l (by decide)))) (fun v_more F H g rn_ => ?_) sc_loop.nd
          have G := G.trans g
          have r_many := Rp.mono g.ff r_many
          have r_thin := Rp.mono g.ff r_thin
          have r_name := Rp.mono g.ff r_name
          have r_at_here := Rp.mono g.ff r_at_here
          have r_outer := Rp.mono g.ff r_outer
          have r_first := Rp.mono g.ff r_first
          have r_last := Rp.mono g.ff r_last
          have r_more := cg (Option.some.inj he) rn_
          exact go_ret G.sm (ev_tup5 (ea_cons (ev_varK 10 rfl r_name kv_loop_10) (ea_cons (ev_tup2 (ea_cons (ev_varK 14 rfl r_outer kv_loop_14) (ea_cons (ev_varK 12 rfl r_at_here kv_loop_12) ea_nil))) (ea_cons (ev_tup2 (ea_cons (ev_varK 14 rfl r_outer kv_loop_14) (ea_cons (ev_add (ev_varK 12 rfl r_at_here kv_loop_12) (ev_varK 8 rfl r_more kv_loop_8)) ea_nil))) (ea_cons (ev_add (ev_varK 16 rfl r_first kv_loop_16) (ev_varK 12 rfl r_at_here kv_loop_12)) (ea_cons (ev_add (ev_add (ev_varK 17 rfl r_last kv_loop_17) (ev_varK 12 rfl r_at_here kv_loop_12)) (ev_varK 8 rfl r_more kv_loop_8)) ea_nil)))))) fun v_ F_ H_ g_ rv_ => kr _ _ _ (G.trans g_) (cg (Option.some.inj hm) rv_)
        · replace hm := ineg (nt hc) hm
          have G := G.trans g
          have r_loops := Rp.mono g.ff r_loops
          have r_kind := Rp.mono g.ff r_kind
          have r_many := Rp.mono g.ff r_many
          have r_thin := Rp.mono g.ff r_thin
          have r_which := Rp.mono g.ff r_which
          have r_more := Rp.mono g.ff r_more
          have r_name := Rp.mono g.ff r_name
          have r_at_here := Rp.mono g.ff r_at_here
          have r_outer := Rp.mono g.ff r_outer
          have r_first := Rp.mono g.ff r_first
          have r_last := Rp.mono g.ff r_last
          refine GoS.nil ?_
          refine go_ifA ((decide (i2.a = (2 : Int)))) G.sm (et_cmp op_eq o2_eq (ev_varK 2 rfl r_kind kv_loop_2) ev_int (nomark _)) (fun hc F H g => ?_) (fun hc F H g => ?_)
          · replace hm := ipos hc hm
            have G := G.trans g
            have r_loops := Rp.mono g.ff r_loops
            have r_kind := Rp.mono g.ff r_kind
            have r_many := Rp.mono g.ff r_many
            have r_thin := Rp.mono g.ff r_thin
            have r_which := Rp.mono g.ff r_which
            have r_name := Rp.mono g.ff r_name
            have r_at_here := Rp.mono g.ff r_at_here
            have r_outer := Rp.mono g.ff r_outer
            have r_first := Rp.mono g.ff r_first
            have r_last := Rp.mono g.ff r_last
            obtain ⟨x_high_s4, he, hm⟩ := Option.bind_eq_some_iff.mp hm
            refine go_setA (Int) 13 G.sm (ev_sub (ev_add (ev_varK 17 rfl r_last kv_loop_17) (ev_varK 12 rfl r_at_here kv_loop_12)) (ev_callTy call_int1 oc_intB T.n_int (by decide +kernel) (ea_cons (ev_cmp op_eq o2_eq (ev_mod (ev_varK 5 rfl r_thin kv_loop_5) ev_int (by decide)) ev_int (nomark _)) ea_nil))) (fun v_high_s4 F H g rn_ => ?_) sc_loop.nd
            have G := G.trans g
            have r_thin := Rp.mono g.ff r_thin
            have r_name := Rp.mono g.ff r_name
            have r_at_here := Rp.mono g.ff r_at_here
            have r_outer := Rp.mono g.ff r_outer
            have r_first := Rp.mono g.ff r_first
            have r_last := Rp.mono g.ff r_last
            have r_high_s4 := cg (Option.some.inj he) rn_
            change GoS _ _ _ [some v_cell, some v_loops, some v_kind, some v_step, some v_many, some v_thin, some v_which, some v_sign, some v_more, some v_letters, some v_name, none, some v_at_here, some v_high_s4, some v_outer, some v_low, some v_first, some v_last, none] _
            exact go_ret G.sm (ev_tup5 (ea_cons (ev_varK 10 rfl r_name kv_loop_10) (ea_cons (ev_tup2 (ea_cons (ev_varK 14 rfl r_outer kv_loop_14) (ea_cons (ev_varK 12 rfl r_at_here kv_loop_12) ea_nil))) (ea_cons (ev_tup2 (ea_cons ev_str (ea_cons (ev_varK 13 rfl r_high_s4 kv_loop_13) ea_nil))) (ea_cons (ev_add (ev_varK 16 rfl r_first kv_loop_16) (ev_varK 12 rfl r_at_here kv_loop_12)) (ea_cons (ev_varK 13 rfl r_high_s4 kv_loop_13) ea_nil)))))) fun v_ F_ H_ g_ rv_ => kr _ _ _ (G.trans g_) (cg (Option.some.inj hm) rv_)
          · replace hm := ineg (nt hc) hm
            have G := G.trans g
            have r_loops := Rp.mono g.ff r_loops
            have r_kind := Rp.mono g.ff r_kind
            have r_many := Rp.mono g.ff r_many
            have r_thin := Rp.mono g.ff r_thin
            have r_which := Rp.mono g.ff r_which
            have r_name := Rp.mono g.ff r_name
            have r_at_here := Rp.mono g.ff r_at_here
            have r_outer := Rp.mono g.ff r_outer
            have r_first := Rp.mono g.ff r_first
            have r_last := Rp.mono g.ff r_last
            refine GoS.nil ?_
            refine go_ifA ((decide (i2.a = (3 : Int)))) G.sm (et_cmp op_eq o2_eq (ev_varK 2 rfl r_kind kv_loop_2) ev_int (nomark _)) (fun hc F H g => ?_) (fun hc F H g => ?_)
            · replace hm := ipos hc hm
              have G := G.trans g
              have r_loops := Rp.mono g.ff r_loops
              have r_kind := Rp.mono g.ff r_kind
              have r_many := Rp.mono g.ff r_many
              have r_which := Rp.mono g.ff r_which
              have r_name := Rp.mono g.ff r_name
              have r_at_here := Rp.mono g.ff r_at_here
              have r_outer := Rp.mono g.ff r_outer
              have r_first := Rp.mono g.ff r_first
              have r_last := Rp.mono g.ff r_last
              exact go_ret G.sm (ev_tup5 (ea_cons (ev_varK 10 rfl r_name kv_loop_10) (ea_cons (ev_tup2 (ea_cons ev_str (ea_cons (ev_add (ev_varK 16 rfl r_first kv_loop_16) (ev_varK 12 rfl r_at_here kv_loop_12)) ea_nil))) (ea_cons (ev_tup2 (ea_cons (ev_varK 14 rfl r_outer kv_loop_14) (ea_cons (ev_varK 12 rfl r_at_here kv_loop_12) ea_nil))) (ea_cons (ev_add (ev_varK 16 rfl r_first kv_loop_16) (ev_varK 12 rfl r_at_here kv_loop_12)) (ea_cons (ev_add (ev_varK 17 rfl r_last kv_loop_17) (ev_varK 12 rfl r_at_here kv_loop_12)) ea_nil)))))) fun v_ F_ H_ g_ rv_ => kr _ _ _ (G.trans g_) (cg (Option.some.inj hm) rv_)
            · replace hm := ineg (nt hc) hm
              have G := G.trans g
              have r_loops := Rp.mono g.ff r_loops
              have r_kind := Rp.mono g.ff r_kind
              have r_many := Rp.mono g.ff r_many
              have r_which := Rp.mono g.ff r_which
              have r_name := Rp.mono g.ff r_name
              have r_at_here := Rp.mono g.ff r_at_here
              have r_outer := Rp.mono g.ff r_outer
              have r_first := Rp.mono g.ff r_first
              have r_last := Rp.mono g.ff r_last
              refine GoS.nil ?_
              obtain ⟨t21, h_t21, hm⟩ := Option.bind_eq_some_iff.mp hm
              obtain ⟨t22, h_t22, hm⟩ := Option.bind_eq_some_iff.mp hm
              obtain ⟨x_other, he, hm⟩ := Option.bind_eq_some_iff.mp hm
              refine go_setA ((T5 Str (T2 Str Int) (T2 Str Int) Int Int)) 18 G.sm (ev_ixL (ev_varK 1 rfl r_loops kv_loop_1) (ev_modG (ev_add (ev_varK 6 rfl r_which kv_loop_6) ev_int) (ev_callB call_len_seq oc_lenL T.n_len PySem.boot_len (ea_cons (ev_varK 1 rfl r_loops kv_loop_1) ea_nil)) h_t21) h_t22) (fun v_other F H g rn_ => ?_) sc_loop.nd
              have G := G.trans g
              have r_loops := Rp.mono g.ff r_loops
              have r_many := Rp.mono g.ff r_many
              have r_which := Rp.mono g.ff r_which
              have r_name := Rp.mono g.ff r_name
              have r_at_here := Rp.mono g.ff r_at_here
              have r_outer := Rp.mono g.ff r_outer
              have r_first := Rp.mono g.ff r_first
              have r_other := cg (Option.some.inj he) rn_
              change GoS _ _ _ [some v_cell, some v_loops, some v_kind, some v_step, some v_many, some v_thin, some v_which, some v_sign, some v_more, some v_letters, some v_name, none, some v_at_here, some v_high_s2, some v_outer, some v_low, some v_first, some v_last, some v_other] _
              obtain ⟨x_high_s5, he, hm⟩ := Option.bind_eq_some_iff.mp hm
              refine go_setA (Int) 13 G.sm (ev_add (ev_add (ev_add (ev_varK 16 rfl r_first kv_loop_16) (ev_varK 12 rfl r_at_here kv_loop_12)) ev_int) (ev_varK 4 rfl r_many kv_loop_4)) (fun v_high_s5 F H g rn_ => ?_) sc_loop.nd
              have G := G.trans g
              have r_many := Rp.mono g.ff r_many
              have r_name := Rp.mono g.ff r_name
              have r_at_here := Rp.mono g.ff r_at_here
              have r_outer := Rp.mono g.ff r_outer
              have r_first := Rp.mono g.ff r_first
              have r_other := Rp.mono g.ff r_other
              have r_high_s5 := cg (Option.some.inj he) rn_
              change GoS _ _ _ [some v_cell, some v_loops, some v_kind, some v_step, some v_many, some v_thin, some v_which, some v_sign, some v_more, some v_letters, some v_name, none, some v_at_here, some v_high_s5, some v_outer, some v_low, some v_first, some v_last, some v_other] _
              exact go_ret G.sm (ev_tup5 (ea_cons (ev_varK 10 rfl r_name kv_loop_10) (ea_cons (ev_tup2 (ea_cons (ev_varK 14 rfl r_outer kv_loop_14) (ea_cons (ev_varK 12 rfl r_at_here kv_loop_12) ea_nil))) (ea_cons (ev_tup2 (ea_cons (ev_ixT (ev_varK 18 rfl r_other kv_loop_18) ev_int pj0) (ea_cons (ev_sub (ev_varK 13 rfl r_high_s5 kv_loop_13) (ev_ixT (ev_varK 18 rfl r_other kv_loop_18) ev_int pj4)) ea_nil))) (ea_cons (ev_add (ev_varK 16 rfl r_first kv_loop_16) (ev_varK 12 rfl r_at_here kv_loop_12)) (ea_cons (ev_varK 13 rfl r_high_s5 kv_loop_13) ea_nil)))))) fun v_ F_ H_ g_ rv_ => kr _ _ _ (G.trans g_) (cg (Option.some.inj hm) rv_)
/-! deeds -/
theorem sc_deeds : FnScope ["_law_script", "_law_first", "_law_count", "_law_deeds_here", "_law_n", "_law_deep", "_law_common", "_law_loops", "_law_path", "_law_old", "_law_cell"] ["_law_script", "_law_first", "_law_count"] (defScope s_deeds) := ⟨rfl, rfl, rfl, by decide +kernel, rfl, by decide +kernel, by decide +kernel⟩
theorem b_deeds (T : Txt K mg) : Binds K T.d_deeds ["_law_script", "_law_first", "_law_count"] [] := T.F_deeds.bindsN fun _ _ _ _ _ _ us hl => match us, hl with | [_, _, _], _ => rfl
theorem kv_deeds_0 : VKn (defScope s_deeds) "_law_script" := ⟨by first | exact Or.inl (by decide +kernel) | exact Or.inr (Or.inl (by decide +kernel)) | exact Or.inr (Or.inr (by decide +kernel)), by decide, by decide⟩
theorem kv_deeds_1 : VKn (defScope s_deeds) "_law_first" := ⟨by first | exact Or.inl (by decide +kernel) | exact Or.inr (Or.inl (by decide +kernel)) | exact Or.inr (Or.inr (by decide +kernel)), by decide, by decide⟩
theorem kv_deeds_2 : VKn (defScope s_deeds) "_law_count" := ⟨by first | exact Or.inl (by decide +kernel) | exact Or.inr (Or.inl (by decide +kernel)) | exact Or.inr (Or.inr (by decide +kernel)), by decide, by decide⟩
theorem kv_deeds_3 : VKn (defScope s_deeds) "_law_deeds_here" := ⟨by first | exact Or.inl (by decide +kernel) | exact Or.inr (Or.inl (by decide +kernel)) | exact Or.inr (Or.inr (by decide +kernel)), by decide, by decide⟩
theorem kv_deeds_4 : VKn (defScope s_deeds) "_law_n" := ⟨by first | exact Or.inl (by decide +kernel) | exact Or.inr (Or.inl (by decide +kernel)) | exact Or.inr (Or.inr (by decide +kernel)), by decide, by decide⟩
theorem kv_deeds_5 : VKn (defScope s_deeds) "_law_deep" := ⟨by first | exact Or.inl (by decide +kernel) | exact Or.inr (Or.inl (by decide +kernel)) | exact Or.inr (Or.inr (by decide +kernel)), by decide, by decide⟩
theorem kv_deeds_6 : VKn (defScope s_deeds) "_law_common" := ⟨by first | exact Or.inl (by decide +kernel) | exact Or.inr (Or.inl (by decide +kernel)) | exact Or.inr (Or.inr (by decide +kernel)), by decide, by decide⟩
theorem kv_deeds_7 : VKn (defScope s_deeds) "_law_loops" := ⟨by first | exact Or.inl (by decide +kernel) | exact Or.inr (Or.inl (by decide +kernel)) | exact Or.inr (Or.inr (by decide +kernel)), by decide, by decide⟩
theorem kv_deeds_8 : VKn (defScope s_deeds) "_law_path" := ⟨by first | exact Or.inl (by decide +kernel) | exact Or.inr (Or.inl (by decide +kernel)) | exact Or.inr (Or.inr (by decide +kernel)), by decide, by decide⟩
theorem kv_deeds_9 : VKn (defScope s_deeds) "_law_old" := ⟨by first | exact Or.inl (by decide +kernel) | exact Or.inr (Or.inl (by decide +kernel)) | exact Or.inr (Or.inr (by decide +kernel)), by decide, by decide⟩
theorem kv_deeds_10 : VKn (defScope s_deeds) "_law_cell" := ⟨by first | exact Or.inl (by decide +kernel) | exact Or.inr (Or.inl (by decide +kernel)) | exact Or.inr (Or.inr (by decide +kernel)), by decide, by decide⟩
theorem gl_deeds_at : (defScope s_deeds).names.lookup ("_law_at" : Str) = some NameKind.globalImplicit := by decide +kernel
theorem gl_deeds_digits : (defScope s_deeds).names.lookup ("_law_digits" : Str) = some NameKind.globalImplicit := by decide +kernel
theorem gl_deeds_loop : (defScope s_deeds).names.lookup ("_law_loop" : Str) = some NameKind.globalImplicit := by decide +kernel
theorem ok_deeds (T : Txt K mg) : FnOk P w K mg base CX0 3 (He.fAd K ("_law_deeds", none)) T.d_deeds ["_law_script", "_law_first", "_law_count"] (Pr K fun (a_ : (List Int) × Int × Int × Unit) => m_deeds a_.1 a_.2.1 a_.2.2.1) := by
  refine fn_ok T.F_deeds sc_deeds rfl fun cdv A outer s_ F0 H0 vs a_ r D_ E_ hr sm_ ra_ hm kr kn => ?_
  obtain ⟨v_script, _, rfl, r_script, v_first, _, rfl, r_first, v_count, _, rfl, r_count, rfl⟩ := ra_
  obtain ⟨x_script, x_first, x_count, _u⟩ := a_
  have G : GrX K F0 H0 F0 H0 := .refl sm_
  replace hm : m_deeds x_script x_first x_count = some r := hm
  unfold m_deeds at hm
  have r_script : rp (α := (List Int)) K F0 v_script x_script := r_script
  have r_first : rp (α := Int) K F0 v_first x_first := r_first
  have r_count : rp (α := Int) K F0 v_count x_count := r_count
  change GoS _ _ _ [some v_script, some v_first, some v_count, none, none, none, none, none, none, none, none] _
  obtain ⟨x_deeds_here, he, hm⟩ := Option.bind_eq_some_iff.mp hm
  refine go_setNA ((List (T3 (List (T5 Str (T2 Str Int) (T2 Str Int) Int Int)) (Tp Int) Int))) 3 G.sm (en_list el_nil (Nat.zero_le _)) (fun l_deeds_here vs_ F H g nl_ fl_ hl_ rs_ => ?_) sc_deeds.nd
  have n0_ := G.hh.free nl_
  have G := G.trans g
  have r_script := Rp.mono g.ff r_script
  have r_first := Rp.mono g.ff r_first
  have r_count := Rp.mono g.ff r_count
  have o_deeds_here : Own K _ F H l_deeds_here _ := Own.cg (Option.some.inj he) ⟨n0_, fl_, vs_, hl_, rs_⟩
  change GoS _ _ _ [some v_script, some v_first, some v_count, some (.ref l_deeds_here), none, none, none, none, none, none, none] _
  obtain ⟨t1, h_t1, hm⟩ := Option.bind_eq_some_iff.mp hm
  obtain ⟨b33, ho_, hm⟩ := Option.bind_eq_some_iff.mp hm
  refine go_forN G.sm (ei_range1 (ev_varK 2 rfl r_count kv_deeds_2) h_t1 T.n_range) (pg_name (i := 4) sc_deeds.nd rfl (by first | exact Or.inl rfl | exact Or.inr rfl)) ho_ (fun F H g => ?_) PassesOwn.never
  have G := G.trans g
  have r_script := Rp.mono g.ff r_script
  have r_first := Rp.mono g.ff r_first
  have r_count := Rp.mono g.ff r_count
  have o_deeds_here := o_deeds_here.up g
  refine ⟨fun (b2 : (List (T3 (List (T5 Str (T2 Str Int) (T2 Str Int) Int Int)) (Tp Int) Int))) σ_ F_ H_ => ∃ (u_deep : Option V) (u_common : Option V) (u_loops : Option V) (u_path : Option V) (u_old : Option V) (u_cell : Option V) (u_n : Option V), σ_ = [some v_script, some v_first, some v_count, some (.ref l_deeds_here), u_n, u_deep, u_common, u_loops, u_path, u_old, u_cell] ∧ GrX K F0 H0 F_ H_ ∧ Own K H0 F_ H_ l_deeds_here b2, ⟨_, _, _, _, _, _, _, rfl, G, o_deeds_here⟩, ?_, ?_⟩
  ·
    intro b2 x_n o_ hm σ_ F H v_n s1_ s2_ iv_ F H g r_n Q_ hQ_
    obtain ⟨u_deep, u_common, u_loops, u_path, u_old, u_cell, u_n, rfl, G, o_deeds_here⟩ := iv_
    have sb5 := g.ff
    have r_script := Rp.mono s1_ r_script
    have r_first := Rp.mono s1_ r_first
    have r_count := Rp.mono s1_ r_count
    have G := G.trans g
    have r_script := Rp.mono g.ff r_script
    have r_first := Rp.mono g.ff r_first
    have r_count := Rp.mono g.ff r_count
    have o_deeds_here := o_deeds_here.up g
    refine hQ_ _ _ ?_
    change GoS _ _ _ [some v_script, some v_first, some v_count, some (.ref l_deeds_here), some v_n, u_deep, u_common, u_loops, u_path, u_old, u_cell] _
    obtain ⟨t6, h_t6, hm⟩ := Option.bind_eq_some_iff.mp hm
    obtain ⟨t7, h_t7, hm⟩ := Option.bind_eq_some_iff.mp hm
    obtain ⟨i8, he, hm⟩ := Option.bind_eq_some_iff.mp hm
    refine go_unpack G.sm (ev_call (ok_digits T) (hr.mono (by omega)) T.g_digits T.F_digits.kp (b_digits T) (ea_cons (ev_call (ok_at T) (hr.mono (by omega)) T.g_at T.F_at.kp (b_at T) (ea_cons (ev_varK 0 rfl r_script kv_deeds_0) (ea_cons (ev_add (ev_varK 1 rfl r_first kv_deeds_1) (ev_mul ev_int (ev_varK 4 rfl r_n kv_deeds_4) (CMul.l (by decide)))) ea_nil)) h_t6 gl_deeds_at) (ea_cons (EvN.evA ((List Int)) (en_list (el_int (el_int el_nil)) (by show 2 ≤ sizeLine; decide))) ea_nil)) h_t7 gl_deeds_digits) (pg_lst rfl (pgs_cons (pg_name (i := 5) sc_deeds.nd rfl (by first | exact Or.inl rfl | exact Or.inr rfl)) (pgs_cons (pg_name (i := 6) sc_deeds.nd rfl (by first | exact Or.inl rfl | exact Or.inr rfl)) pgs_nil))) (fun w_ F H g ri_ Q_ hQ_ => ?_)
    have ri_ := unl2 he ri_
    have G := G.trans g
    have r_script := Rp.mono g.ff r_script
    have r_first := Rp.mono g.ff r_first
    have r_count := Rp.mono g.ff r_count
    have o_deeds_here := o_deeds_here.up g
    have r_n := Rp.mono g.ff r_n
    have sb5 := sb5.trans g.ff
    obtain ⟨pa9, _, rfl, sq10, v_deep, _, rfl, r_deep, v_common, _, rfl, r_common, rfl⟩ := ri_
    refine ⟨pa9, _, rfl, seqL_mono G.fh sq10, rfl, _, _, rfl, _, _, rfl, rfl, hQ_ _ _ ?_⟩
    change GoS _ _ _ [some v_script, some v_first, some v_count, some (.ref l_deeds_here), some v_n, some v_deep, some v_common, u_loops, u_path, u_old, u_cell] _
    obtain ⟨t11, h_t11, hm⟩ := Option.bind_eq_some_iff.mp hm
    obtain ⟨x_deep, he, hm⟩ := Option.bind_eq_some_iff.mp hm
    refine go_setA (Int) 5 G.sm (ev_callB (call_min2 rfl) oc_min2 T.n_min (by decide +kernel) (ea_cons (ev_ixL (EvN.evA ((List Int)) (en_list (el_int (el_int (el_int (el_int (el_int (el_int (el_int el_nil))))))) (by show 7 ≤ sizeLine; decide))) (ev_varK 5 rfl r_deep kv_deeds_5) h_t11) (ea_cons (ev_sub ev_int (ev_callTy call_int1 oc_intB T.n_int (by decide +kernel) (ea_cons (ev_cmp op_gt o2_gt (ev_varK 2 rfl r_count kv_deeds_2) ev_int (nomark _)) ea_nil))) ea_nil))) (fun v_deep F H g rn_ => ?_) sc_deeds.nd
    have G := G.trans g
    have r_script := Rp.mono g.ff r_script
    have r_first := Rp.mono g.ff r_first
    have r_count := Rp.mono g.ff r_count
    have o_deeds_here := o_deeds_here.up g
    have r_n := Rp.mono g.ff r_n
    have r_common := Rp.mono g.ff r_common
    have sb5 := sb5.trans g.ff
    have r_deep := cg (Option.some.inj he) rn_
    obtain ⟨x_loops, he, hm⟩ := Option.bind_eq_some_iff.mp hm
    refine go_setA ((List (T5 Str (T2 Str Int) (T2 Str Int) Int Int))) 7 G.sm (EvN.evA ((List (T5 Str (T2 Str Int) (T2 Str Int) Int Int))) (en_list el_nil (Nat.zero_le _))) (fun v_loops F H g rn_ => ?_) sc_deeds.nd
    have G := G.trans g
    have r_script := Rp.mono g.ff r_script
    have r_first := Rp.mono g.ff r_first
    have o_deeds_here := o_deeds_here.up g
    have r_n := Rp.mono g.ff r_n
    have r_deep := Rp.mono g.ff r_deep
    have r_common := Rp.mono g.ff r_common
    have sb5 := sb5.trans g.ff
    have r_loops := cg (Option.some.inj he) rn_
    change GoS _ _ _ [some v_script, some v_first, some v_count, some (.ref l_deeds_here), some v_n, some v_deep, some v_common, some v_loops, u_path, u_old, u_cell] _
    obtain ⟨x_path, he, hm⟩ := Option.bind_eq_some_iff.mp hm
    refine go_setA ((Tp Int)) 8 G.sm (ev_tp (el_int el_nil) (by show 1 ≤ sizeLine; decide)) (fun v_path F H g rn_ => ?_) sc_deeds.nd
    have G := G.trans g
    have r_script := Rp.mono g.ff r_script
    have r_first := Rp.mono g.ff r_first
    have o_deeds_here := o_deeds_here.up g
    have r_n := Rp.mono g.ff r_n
    have r_deep := Rp.mono g.ff r_deep
    have r_common := Rp.mono g.ff r_common
    have r_loops := Rp.mono g.ff r_loops
    have sb5 := sb5.trans g.ff
    have r_path := cg (Option.some.inj he) rn_
    change GoS _ _ _ [some v_script, some v_first, some v_count, some (.ref l_deeds_here), some v_n, some v_deep, some v_common, some v_loops, some v_path, u_old, u_cell] _
    obtain ⟨x_old, he, hm⟩ := Option.bind_eq_some_iff.mp hm
    refine go_setA ((List (T5 Str (T2 Str Int) (T2 Str Int) Int Int))) 9 G.sm (EvN.evA ((List (T5 Str (T2 Str Int) (T2 Str Int) Int Int))) (en_list el_nil (Nat.zero_le _))) (fun v_old F H g rn_ => ?_) sc_deeds.nd
    have G := G.trans g
    have r_script := Rp.mono g.ff r_script
    have r_first := Rp.mono g.ff r_first
    have o_deeds_here := o_deeds_here.up g
    have r_n := Rp.mono g.ff r_n
    have r_deep := Rp.mono g.ff r_deep
    have r_common := Rp.mono g.ff r_common
    have r_loops := Rp.mono g.ff r_loops
    have r_path := Rp.mono g.ff r_path
    have sb5 := sb5.trans g.ff
    have r_old := cg (Option.some.inj he) rn_
    change GoS _ _ _ [some v_script, some v_first, some v_count, some (.ref l_deeds_here), some v_n, some v_deep, some v_common, some v_loops, some v_path, some v_old, u_cell] _
    obtain ⟨b12, hj, hm⟩ := Option.bind_eq_some_iff.mp hm
    refine go_ifjA ((decide (x_n = (0 : Int)))) (fun σ_ H_ => ∃ (F_ : Hp) (v_common : V) (v_old : V) (v_loops : V) (v_path : V), L2.Same F F_ ∧ σ_ = [some v_script, some v_first, some v_count, some (.ref l_deeds_here), some v_n, some v_deep, some v_common, some v_loops, some v_path, some v_old, u_cell] ∧ GrX K F0 H0 F_ H_ ∧ rp (α := Int) K F_ v_common b12.1 ∧ rp (α := (List (T5 Str (T2 Str Int) (T2 Str Int) Int Int))) K F_ v_old b12.2.1 ∧ rp (α := (List (T5 Str (T2 Str Int) (T2 Str Int) Int Int))) K F_ v_loops b12.2.2.1 ∧ rp (α := (Tp Int)) K F_ v_path b12.2.2.2 ∧ Own K H0 F_ H_ l_deeds_here b2) G.sm (et_cmp op_eq o2_eq (ev_varK 4 rfl r_n kv_deeds_4) ev_int (nomark _)) (fun hc F H g => ?_) (fun hc F H g => ?_) (fun σ_ H hP_ => ?_)
    · replace hj := ipos hc hj
      clear hm
      have hm := hj
      clear hj
      have G := G.trans g
      have r_script := Rp.mono g.ff r_script
      have r_first := Rp.mono g.ff r_first
      have o_deeds_here := o_deeds_here.up g
      have r_n := Rp.mono g.ff r_n
      have r_deep := Rp.mono g.ff r_deep
      have r_common := Rp.mono g.ff r_common
      have r_loops := Rp.mono g.ff r_loops
      have r_path := Rp.mono g.ff r_path
      have r_old := Rp.mono g.ff r_old
      have sb5 := sb5.trans g.ff
      have sj13 := g.ff
      obtain ⟨x_common, he, hm⟩ := Option.bind_eq_some_iff.mp hm
      refine go_setA (Int) 6 G.sm ev_int (fun v_common F H g rn_ => ?_) sc_deeds.nd
      have G := G.trans g
      have r_script := Rp.mono g.ff r_script
      have r_first := Rp.mono g.ff r_first
      have o_deeds_here := o_deeds_here.up g
      have r_n := Rp.mono g.ff r_n
      have r_deep := Rp.mono g.ff r_deep
      have r_loops := Rp.mono g.ff r_loops
      have r_path := Rp.mono g.ff r_path
      have r_old := Rp.mono g.ff r_old
      have sb5 := sb5.trans g.ff
      have sj13 := sj13.trans g.ff
      have r_common := cg (Option.some.inj he) rn_
      have hm := Option.some.inj hm
      subst hm
      exact GoS.nil ⟨_, _, _, _, _, sj13, rfl, G, r_common, r_old, r_loops, r_path, o_deeds_here⟩
    · replace hj := ineg (nt hc) hj
      clear hm
      have hm := hj
      clear hj
      have G := G.trans g
      have r_script := Rp.mono g.ff r_script
      have r_first := Rp.mono g.ff r_first
      have o_deeds_here := o_deeds_here.up g
      have r_n := Rp.mono g.ff r_n
      have r_deep := Rp.mono g.ff r_deep
      have r_common := Rp.mono g.ff r_common
      have r_loops := Rp.mono g.ff r_loops
      have r_path := Rp.mono g.ff r_path
      have r_old := Rp.mono g.ff r_old
      have sb5 := sb5.trans g.ff
      have sj13 := g.ff
      obtain ⟨t14, h_t14, hm⟩ := Option.bind_eq_some_iff.mp hm
      obtain ⟨x_old, he, hm⟩ := Option.bind_eq_some_iff.mp hm
      refine go_setA ((List (T5 Str (T2 Str Int) (T2 Str Int) Int Int))) 9 G.sm (ev_ixT (ev_ixOwn 3 o_deeds_here rfl (ev_sub (ev_varK 4 rfl r_n kv_deeds_4) ev_int) h_t14) ev_int pj0) (fun v_old F H g rn_ => ?_) sc_deeds.nd
      have G := G.trans g
      have r_script := Rp.mono g.ff r_script
      have r_first := Rp.mono g.ff r_first
      have o_deeds_here := o_deeds_here.up g
      have r_n := Rp.mono g.ff r_n
      have r_deep := Rp.mono g.ff r_deep
      have r_common := Rp.mono g.ff r_common
      have r_loops := Rp.mono g.ff r_loops
      have r_path := Rp.mono g.ff r_path
      have sb5 := sb5.trans g.ff
      have sj13 := sj13.trans g.ff
      have r_old := cg (Option.some.inj he) rn_
      obtain ⟨x_common, he, hm⟩ := Option.bind_eq_some_iff.mp hm
      refine go_setA (Int) 6 G.sm (ev_callB (call_min3Nu rfl) oc_min3 T.n_min (by decide +kernel) (ea_cons (ev_varK 6 rfl r_common kv_deeds_6) (ea_cons (ev_callB call_len_seq oc_lenL T.n_len PySem.boot_len (ea_cons (ev_varK 9 rfl r_old kv_deeds_9) ea_nil)) (ea_cons (ev_varK 5 rfl r_deep kv_deeds_5) ea_nil)))) (fun v_common F H g rn_ => ?_) sc_deeds.nd
      have G := G.trans g
      have r_script := Rp.mono g.ff r_script
      have r_first := Rp.mono g.ff r_first
      have o_deeds_here := o_deeds_here.up g
      have r_n := Rp.mono g.ff r_n
      have r_deep := Rp.mono g.ff r_deep
      have r_loops := Rp.mono g.ff r_loops
      have r_path := Rp.mono g.ff r_path
      have r_old := Rp.mono g.ff r_old
      have sb5 := sb5.trans g.ff
      have sj13 := sj13.trans g.ff
      have r_common := cg (Option.some.inj he) rn_
      obtain ⟨x_loops, he, hm⟩ := Option.bind_eq_some_iff.mp hm
      refine go_setA ((List (T5 Str (T2 Str Int) (T2 Str Int) Int Int))) 7 G.sm (EvN.evA ((List (T5 Str (T2 Str Int) (T2 Str Int) Int Int))) (en_slice (ev_varK 9 rfl r_old kv_deeds_9) eo_none (eo_some (ev_varK 6 rfl r_common kv_deeds_6)))) (fun v_loops F H g rn_ => ?_) sc_deeds.nd
      have G := G.trans g
      have r_script := Rp.mono g.ff r_script
      have r_first := Rp.mono g.ff r_first
      have o_deeds_here := o_deeds_here.up g
      have r_n := Rp.mono g.ff r_n
      have r_deep := Rp.mono g.ff r_deep
      have r_common := Rp.mono g.ff r_common
      have r_path := Rp.mono g.ff r_path
      have r_old := Rp.mono g.ff r_old
      have sb5 := sb5.trans g.ff
      have sj13 := sj13.trans g.ff
      have r_loops := cg (Option.some.inj he) rn_
      obtain ⟨t15, h_t15, hm⟩ := Option.bind_eq_some_iff.mp hm
      obtain ⟨t16, h_t16, hm⟩ := Option.bind_eq_some_iff.mp hm
      obtain ⟨t17, h_t17, hm⟩ := Option.bind_eq_some_iff.mp hm
      obtain ⟨t18, h_t18, hm⟩ := Option.bind_eq_some_iff.mp hm
      obtain ⟨x_path, he, hm⟩ := Option.bind_eq_some_iff.mp hm
      refine go_setA ((Tp Int)) 8 G.sm (ev_catT (ev_sliceT (ev_ixT (ev_ixOwn 3 o_deeds_here rfl (ev_sub (ev_varK 4 rfl r_n kv_deeds_4) ev_int) h_t15) ev_int pj1) eo_none (eo_some (ev_varK 6 rfl r_common kv_deeds_6))) (ev_tp (el_cons (ev_add (ev_ixTp (ev_ixT (ev_ixOwn 3 o_deeds_here rfl (ev_sub (ev_varK 4 rfl r_n kv_deeds_4) ev_int) h_t16) ev_int pj1) (ev_varK 6 rfl r_common kv_deeds_6) h_t17) ev_int) el_nil) (by show 1 ≤ sizeLine; decide)) h_t18) (fun v_path F H g rn_ => ?_) sc_deeds.nd
      have G := G.trans g
      have r_script := Rp.mono g.ff r_script
      have r_first := Rp.mono g.ff r_first
      have o_deeds_here := o_deeds_here.up g
      have r_n := Rp.mono g.ff r_n
      have r_deep := Rp.mono g.ff r_deep
      have r_common := Rp.mono g.ff r_common
      have r_loops := Rp.mono g.ff r_loops
      have r_old := Rp.mono g.ff r_old
      have sb5 := sb5.trans g.ff
      have sj13 := sj13.trans g.ff
      have r_path := cg (Option.some.inj he) rn_
      have hm := Option.some.inj hm
      subst hm
      exact GoS.nil ⟨_, _, _, _, _, sj13, rfl, G, r_common, r_old, r_loops, r_path, o_deeds_here⟩
    obtain ⟨F, v_common, v_old, v_loops, v_path, sj_, rfl, G, r_common, r_old, r_loops, r_path, o_deeds_here⟩ := hP_
    have r_script := Rp.mono sj_ r_script
    have r_first := Rp.mono sj_ r_first
    have r_n := Rp.mono sj_ r_n
    have r_deep := Rp.mono sj_ r_deep
    have sb5 := sb5.trans sj_
    obtain ⟨b31, ho_, hm⟩ := Option.bind_eq_some_iff.mp hm
    refine go_whileN (b0 := (b12.2.2.1, b12.2.2.2)) (fun (b19 : ((List (T5 Str (T2 Str Int) (T2 Str Int) Int Int)) × (Tp Int))) σ_ F_ H_ => ∃ (u_cell : Option V) (v_loops : V) (v_path : V), σ_ = [some v_script, some v_first, some v_count, some (.ref l_deeds_here), some v_n, some v_deep, some v_common, some v_loops, some v_path, some v_old, u_cell] ∧ GrX K F0 H0 F_ H_ ∧ rp (α := (List (T5 Str (T2 Str Int) (T2 Str Int) Int Int))) K F_ v_loops b19.1 ∧ rp (α := (Tp Int)) K F_ v_path b19.2 ∧ Own K H0 F_ H_ l_deeds_here b2) G.sm ⟨_, _, _, rfl, G, r_loops, r_path, o_deeds_here⟩ ho_ ?_ ?_ ?_ PassesOwn.never
    ·
      intro b19 t_ hm σ_ F H s1_ s2_ iv_
      obtain ⟨u_cell, v_loops, v_path, rfl, G, r_loops, r_path, o_deeds_here⟩ := iv_
      have r_script := Rp.mono s1_ r_script
      have r_first := Rp.mono s1_ r_first
      have r_n := Rp.mono s1_ r_n
      have r_deep := Rp.mono s1_ r_deep
      have r_old := Rp.mono s1_ r_old
      refine ⟨G.sm, EvT.cg (Option.some.inj hm) (et_cmp op_lt o2_lt (ev_callB call_len_seq oc_lenL T.n_len PySem.boot_len (ea_cons (ev_varK 7 rfl r_loops kv_deeds_7) ea_nil)) (ev_varK 5 rfl r_deep kv_deeds_5) (nomark _)), fun F H g => ?_⟩
      have G := G.trans g
      have r_loops := Rp.mono g.ff r_loops
      have r_path := Rp.mono g.ff r_path
      have o_deeds_here := o_deeds_here.up g
      exact ⟨_, _, _, rfl, G, r_loops, r_path, o_deeds_here⟩
    ·
      intro b19 o_ hm σ_ F H s1_ s2_ iv_
      obtain ⟨u_cell, v_loops, v_path, rfl, G, r_loops, r_path, o_deeds_here⟩ := iv_
      have sb21 := L2.Same.refl F
      have r_script := Rp.mono s1_ r_script
      have r_first := Rp.mono s1_ r_first
      have r_n := Rp.mono s1_ r_n
      have r_deep := Rp.mono s1_ r_deep
      have r_old := Rp.mono s1_ r_old
      obtain ⟨t22, h_t22, hm⟩ := Option.bind_eq_some_iff.mp hm
      obtain ⟨x_cell, he, hm⟩ := Option.bind_eq_some_iff.mp hm
      refine go_setA (Int) 10 G.sm (ev_call (ok_at T) (hr.mono (by omega)) T.g_at T.F_at.kp (b_at T) (ea_cons (ev_varK 0 rfl r_script kv_deeds_0) (ea_cons (ev_add (ev_add (ev_add (ev_varK 1 rfl r_first kv_deeds_1) (ev_mul ev_int (ev_varK 4 rfl r_n kv_deeds_4) (CMul.l (by decide)))) ev_int) (ev_callB call_len_seq oc_lenL T.n_len PySem.boot_len (ea_cons (ev_varK 7 rfl r_loops kv_deeds_7) ea_nil))) ea_nil)) h_t22 gl_deeds_at) (fun v_cell F H g rn_ => ?_) sc_deeds.nd
      have G := G.trans g
      have r_script := Rp.mono g.ff r_script
      have r_first := Rp.mono g.ff r_first
      have o_deeds_here := o_deeds_here.up g
      have r_n := Rp.mono g.ff r_n
      have r_deep := Rp.mono g.ff r_deep
      have r_loops := Rp.mono g.ff r_loops
      have r_path := Rp.mono g.ff r_path
      have r_old := Rp.mono g.ff r_old
      have sb21 := sb21.trans g.ff
      have r_cell := cg (Option.some.inj he) rn_
      change GoS _ _ _ [some v_script, some v_first, some v_count, some (.ref l_deeds_here), some v_n, some v_deep, some v_common, some v_loops, some v_path, some v_old, some v_cell] _
      obtain ⟨t23, h_t23, hm⟩ := Option.bind_eq_some_iff.mp hm
      obtain ⟨b24, hj, hm⟩ := Option.bind_eq_some_iff.mp hm
      refine go_ifjA ((t23 && ((decide ((b19.1.length : Int) < (b12.2.1.length : Int))) && (decide (((x_cell / (7 : Int)) % (3 : Int)) = (1 : Int)))))) (fun σ_ H_ => ∃ (F_ : Hp) (v_loops : V), L2.Same F F_ ∧ σ_ = [some v_script, some v_first, some v_count, some (.ref l_deeds_here), some v_n, some v_deep, some v_common, some v_loops, some v_path, some v_old, some v_cell] ∧ GrX K F0 H0 F_ H_ ∧ rp (α := (List (T5 Str (T2 Str Int) (T2 Str Int) Int Int))) K F_ v_loops b24 ∧ Own K H0 F_ H_ l_deeds_here b2) G.sm (EvW.t (ew_andP (et_eqD (EvN.evA ((List (T5 Str (T2 Str Int) (T2 Str Int) Int Int))) (en_slice (ev_varK 9 rfl r_old kv_deeds_9) eo_none (eo_some (ev_callB call_len_seq oc_lenL T.n_len PySem.boot_len (ea_cons (ev_varK 7 rfl r_loops kv_deeds_7) ea_nil))))) (ev_varK 7 rfl r_loops kv_deeds_7) h_t23 hr.units) (ew_andP (et_cmp op_gt o2_gt (ev_callB call_len_seq oc_lenL T.n_len PySem.boot_len (ea_cons (ev_varK 9 rfl r_old kv_deeds_9) ea_nil)) (ev_callB call_len_seq oc_lenL T.n_len PySem.boot_len (ea_cons (ev_varK 7 rfl r_loops kv_deeds_7) ea_nil)) (nomark _)) (ew_and1 (et_cmp op_eq o2_eq (ev_mod (ev_div (ev_varK 10 rfl r_cell kv_deeds_10) ev_int ⟨by decide, by decide⟩) ev_int (by decide)) ev_int (nomark _)))))) (fun hc F H g => ?_) (fun hc F H g => ?_) (fun σ_ H hP_ => ?_)
      · replace hj := ipos hc hj
        clear hm
        have hm := hj
        clear hj
        have G := G.trans g
        have o_deeds_here := o_deeds_here.up g
        have r_deep := Rp.mono g.ff r_deep
        have r_loops := Rp.mono g.ff r_loops
        have r_path := Rp.mono g.ff r_path
        have r_old := Rp.mono g.ff r_old
        have r_cell := Rp.mono g.ff r_cell
        have sb21 := sb21.trans g.ff
        have sj25 := g.ff
        obtain ⟨t26, h_t26, hm⟩ := Option.bind_eq_some_iff.mp hm
        obtain ⟨t27, h_t27, hm⟩ := Option.bind_eq_some_iff.mp hm
        obtain ⟨x_loops, he, hm⟩ := Option.bind_eq_some_iff.mp hm
        refine go_setA ((List (T5 Str (T2 Str Int) (T2 Str Int) Int Int))) 7 G.sm (EvN.evA ((List (T5 Str (T2 Str Int) (T2 Str Int) Int Int))) (en_cat (ev_varK 7 rfl r_loops kv_deeds_7) (EvN.evA ((List (T5 Str (T2 Str Int) (T2 Str Int) Int Int))) (en_list (el_cons (ev_ixL (ev_varK 9 rfl r_old kv_deeds_9) (ev_callB call_len_seq oc_lenL T.n_len PySem.boot_len (ea_cons (ev_varK 7 rfl r_loops kv_deeds_7) ea_nil)) h_t26) el_nil) (by show 1 ≤ sizeLine; decide))) h_t27)) (fun v_loops F H g rn_ => ?_) sc_deeds.nd
        have G := G.trans g
        have o_deeds_here := o_deeds_here.up g
        have r_deep := Rp.mono g.ff r_deep
        have r_path := Rp.mono g.ff r_path
        have r_old := Rp.mono g.ff r_old
        have sb21 := sb21.trans g.ff
        have sj25 := sj25.trans g.ff
        have r_loops := cg (Option.some.inj he) rn_
        have hm := Option.some.inj hm
        subst hm
        exact GoS.nil ⟨_, _, sj25, rfl, G, r_loops, o_deeds_here⟩
      · replace hj := ineg (nt hc) hj
        clear hm
        have hm := hj
        clear hj
        have G := G.trans g
        have o_deeds_here := o_deeds_here.up g
        have r_deep := Rp.mono g.ff r_deep
        have r_loops := Rp.mono g.ff r_loops
        have r_path := Rp.mono g.ff r_path
        have r_old := Rp.mono g.ff r_old
        have r_cell := Rp.mono g.ff r_cell
        have sb21 := sb21.trans g.ff
        have sj25 := g.ff
        obtain ⟨t28, h_t28, hm⟩ := Option.bind_eq_some_iff.mp hm
        obtain ⟨t29, h_t29, hm⟩ := Option.bind_eq_some_iff.mp hm
        obtain ⟨x_loops, he, hm⟩ := Option.bind_eq_some_iff.mp hm
        refine go_setA ((List (T5 Str (T2 Str Int) (T2 Str Int) Int Int))) 7 G.sm (EvN.evA ((List (T5 Str (T2 Str Int) (T2 Str Int) Int Int))) (en_cat (ev_varK 7 rfl r_loops kv_deeds_7) (EvN.evA ((List (T5 Str (T2 Str Int) (T2 Str Int) Int Int))) (en_list (el_cons (ev_call (ok_loop T) (hr.mono (by omega)) T.g_loop T.F_loop.kp (b_loop T) (ea_cons (ev_varK 10 rfl r_cell kv_deeds_10) (ea_cons (ev_varK 7 rfl r_loops kv_deeds_7) ea_nil)) h_t28 gl_deeds_loop) el_nil) (by show 1 ≤ sizeLine; decide))) h_t29)) (fun v_loops F H g rn_ => ?_) sc_deeds.nd
        have G := G.trans g
        have o_deeds_here := o_deeds_here.up g
        have r_deep := Rp.mono g.ff r_deep
        have r_path := Rp.mono g.ff r_path
        have r_cell := Rp.mono g.ff r_cell
        have sb21 := sb21.trans g.ff
        have sj25 := sj25.trans g.ff
        have r_loops := cg (Option.some.inj he) rn_
        have hm := Option.some.inj hm
        subst hm
        exact GoS.nil ⟨_, _, sj25, rfl, G, r_loops, o_deeds_here⟩
      obtain ⟨F, v_loops, sj_, rfl, G, r_loops, o_deeds_here⟩ := hP_
      have r_deep := Rp.mono sj_ r_deep
      have r_path := Rp.mono sj_ r_path
      have sb21 := sb21.trans sj_
      obtain ⟨t30, h_t30, hm⟩ := Option.bind_eq_some_iff.mp hm
      obtain ⟨x_path, he, hm⟩ := Option.bind_eq_some_iff.mp hm
      refine go_setA ((Tp Int)) 8 G.sm (ev_catT (ev_varK 8 rfl r_path kv_deeds_8) (ev_tp (el_int el_nil) (by show 1 ≤ sizeLine; decide)) h_t30) (fun v_path F H g rn_ => ?_) sc_deeds.nd
      have G := G.trans g
      have o_deeds_here := o_deeds_here.up g
      have r_deep := Rp.mono g.ff r_deep
      have r_loops := Rp.mono g.ff r_loops
      have sb21 := sb21.trans g.ff
      have r_path := cg (Option.some.inj he) rn_
      have hm := Option.some.inj hm
      subst hm
      exact GoS.nil ⟨_, sb21, G.fh, ⟨_, _, _, rfl, G, r_loops, r_path, o_deeds_here⟩⟩
    · intro σ_ F H s1_ s2_ iv_
      obtain ⟨u_cell, v_loops, v_path, rfl, G, r_loops, r_path, o_deeds_here⟩ := iv_
      have sb5 := sb5.trans s1_
      have r_common := Rp.mono s1_ r_common
      obtain ⟨t32, he, hm⟩ := Option.bind_eq_some_iff.mp hm
      refine go_append 3 G.sm o_deeds_here rfl (ev_tup3 (ea_cons (ev_varK 7 rfl r_loops kv_deeds_7) (ea_cons (ev_varK 8 rfl r_path kv_deeds_8) (ea_cons (ev_varK 6 rfl r_common kv_deeds_6) ea_nil)))) he (fun w_ F H g nz_ fz_ on_ => ?_)
      have G := G.trans g
      have r_common := Rp.mono g.ff r_common
      have r_loops := Rp.mono g.ff r_loops
      have r_path := Rp.mono g.ff r_path
      have sb5 := sb5.trans g.ff
      have G := G.poke (u := w_) on_.n fz_ nz_ on_.pl
      have o_deeds_here := on_
      have hm := Option.some.inj hm
      subst hm
      exact GoS.nil ⟨_, sb5, G.fh, ⟨_, _, _, _, _, _, _, rfl, G, o_deeds_here⟩⟩
  · intro σ_ F H s1_ s2_ iv_
    obtain ⟨u_deep, u_common, u_loops, u_path, u_old, u_cell, u_n, rfl, G, o_deeds_here⟩ := iv_
    refine o_deeds_here.freeze G (fun F H s_ s2_ G r_deeds_here k_ => ?_)
    exact go_ret G.sm (ev_varK 3 rfl r_deeds_here kv_deeds_3) fun v_ F_ H_ g_ rv_ => kr _ _ _ (G.trans g_) (cg (Option.some.inj hm) rv_)
/-! told -/
theorem sc_told : FnScope ["_law_spot", "_law_scale", "_law_base"] ["_law_spot", "_law_scale", "_law_base"] (defScope s_told) := ⟨rfl, rfl, rfl, by decide +kernel, rfl, by decide +kernel, by decide +kernel⟩
theorem b_told (T : Txt K mg) : Binds K T.d_told ["_law_spot", "_law_scale", "_law_base"] [] := T.F_told.bindsN fun _ _ _ _ _ _ us hl => match us, hl with | [_, _, _], _ => rfl
theorem kv_told_0 : VKn (defScope s_told) "_law_spot" := ⟨by first | exact Or.inl (by decide +kernel) | exact Or.inr (Or.inl (by decide +kernel)) | exact Or.inr (Or.inr (by decide +kernel)), by decide, by decide⟩
theorem kv_told_1 : VKn (defScope s_told) "_law_scale" := ⟨by first | exact Or.inl (by decide +kernel) | exact Or.inr (Or.inl (by decide +kernel)) | exact Or.inr (Or.inr (by decide +kernel)), by decide, by decide⟩
theorem kv_told_2 : VKn (defScope s_told) "_law_base" := ⟨by first | exact Or.inl (by decide +kernel) | exact Or.inr (Or.inl (by decide +kernel)) | exact Or.inr (Or.inr (by decide +kernel)), by decide, by decide⟩
theorem ok_told (T : Txt K mg) : FnOk P w K mg base CX0 1 (He.fAd K ("_law_told", none)) T.d_told ["_law_spot", "_law_scale", "_law_base"] (Pr K fun (a_ : (T2 Str Int) × Int × Int × Unit) => m_told a_.1 a_.2.1 a_.2.2.1) := by
  refine fn_ok T.F_told sc_told rfl fun cdv A outer s_ F0 H0 vs a_ r D_ E_ hr sm_ ra_ hm kr kn => ?_
  obtain ⟨v_spot, _, rfl, r_spot, v_scale, _, rfl, r_scale, v_base, _, rfl, r_base, rfl⟩ := ra_
  obtain ⟨x_spot, x_scale, x_base, _u⟩ := a_
  have G : GrX K F0 H0 F0 H0 := .refl sm_
  replace hm : m_told x_spot x_scale x_base = some r := hm
  unfold m_told at hm
  have r_spot : rp (α := (T2 Str Int)) K F0 v_spot x_spot := r_spot
  have r_scale : rp (α := Int) K F0 v_scale x_scale := r_scale
  have r_base : rp (α := Int) K F0 v_base x_base := r_base
  change GoS _ _ _ [some v_spot, some v_scale, some v_base] _
  refine go_ifA ((decide (x_spot.a = ("" : Str)))) G.sm (et_cmp op_eq o2_eq (ev_ixT (ev_varK 0 rfl r_spot kv_told_0) ev_int pj0) ev_str (nomark _)) (fun hc F H g => ?_) (fun hc F H g => ?_)
  · replace hm := ipos hc hm
    have G := G.trans g
    have r_spot := Rp.mono g.ff r_spot
    have r_scale := Rp.mono g.ff r_scale
    have r_base := Rp.mono g.ff r_base
    obtain ⟨t1, h_t1, hm⟩ := Option.bind_eq_some_iff.mp hm
    exact go_ret G.sm (ev_tup2 (ea_cons ev_str (ea_cons (ev_add (ev_mulG (ev_varK 1 rfl r_scale kv_told_1) (ev_ixT (ev_varK 0 rfl r_spot kv_told_0) ev_int pj1) h_t1) (ev_varK 2 rfl r_base kv_told_2)) ea_nil))) fun v_ F_ H_ g_ rv_ => kr _ _ _ (G.trans g_) (cg (Option.some.inj hm) rv_)
  · replace hm := ineg (nt hc) hm
    have G := G.trans g
    have r_spot := Rp.mono g.ff r_spot
    have r_scale := Rp.mono g.ff r_scale
    have r_base := Rp.mono g.ff r_base
    refine GoS.nil ?_
    obtain ⟨t2, h_t2, hm⟩ := Option.bind_eq_some_iff.mp hm
    exact go_ret G.sm (ev_tup2 (ea_cons (ev_ixT (ev_varK 0 rfl r_spot kv_told_0) ev_int pj0) (ea_cons (ev_mulG (ev_varK 1 rfl r_scale kv_told_1) (ev_ixT (ev_varK 0 rfl r_spot kv_told_0) ev_int pj1) h_t2) ea_nil))) fun v_ F_ H_ g_ rv_ => kr _ _ _ (G.trans g_) (cg (Option.some.inj hm) rv_)
/-! Number_init -/
theorem sc_Number_init : FnScope ["self", "n"] ["self", "n"] (defScope s_Number_init) := ⟨rfl, rfl, rfl, by decide +kernel, rfl, by decide +kernel, by decide +kernel⟩
theorem b_Number_init (T : Txt K mg) : Binds K T.d_Number_init ["self", "n"] [] := T.F_Number_init.bindsN fun _ _ _ _ _ _ us hl => match us, hl with | [_, _], _ => rfl
theorem kv_Number_init_1 : VKn (defScope s_Number_init) "n" := ⟨by first | exact Or.inl (by decide +kernel) | exact Or.inr (Or.inl (by decide +kernel)) | exact Or.inr (Or.inr (by decide +kernel)), by decide, by decide⟩
theorem ok_Number_init (T : Txt K mg) : FnOk P w K mg base CX0 1 (He.fAd K ("Number", some "__init__")) T.d_Number_init ["self", "n"] (PrI K (He.ga K "Number") fs_Number fun (a_ : Int × Unit) => m_Number_init a_.1) := by
  refine fn_init T.F_Number_init sc_Number_init rfl fun cdv A outer s_ F0 H0 y_ dx_ vs a_ r D_ E_ hr G fy_ hy_ ra_ hm kn => ?_
  obtain ⟨v_n, _, rfl, r_n, rfl⟩ := ra_
  obtain ⟨x_n, _u⟩ := a_
  replace hm : m_Number_init x_n = some r := hm
  unfold m_Number_init at hm
  have r_n : rp (α := Int) K F0 v_n x_n := r_n
  refine go_fld (names := []) (vs := []) 0 G.sm fy_ hy_ rfl (by decide) (by decide +kernel) T.cl_Number T.na_Number_n rfl (ev_varK 1 rfl r_n kv_Number_init_1) (fun w0 F H g rw0 fy_ hy_ => ?_)
  have G := (G.trans g).poke (u := .ins (He.ga K "Number") dx_ (List.zip ["n"] [w0])) er_same fy_ ⟨_, hy_, trivial⟩ ⟨_, upd_same, trivial⟩
  have r_n := Rp.mono g.ff r_n
  have hy_ : upd H y_ (.ins (He.ga K "Number") dx_ (List.zip ["n"] [w0])) y_ = some (.ins (He.ga K "Number") dx_ (List.zip ["n"] [w0])) := upd_same
  cases (Option.some.inj hm)
  exact GoS.nil (kn _ _ _ [w0] G fy_ hy_ ⟨_, _, rfl, rw0, rfl⟩)
/-! Deed_init -/
theorem sc_Deed_init : FnScope ["self", "names", "lows", "highs", "table", "spots", "term", "path"] ["self", "names", "lows", "highs", "table", "spots", "term", "path"] (defScope s_Deed_init) := ⟨rfl, rfl, rfl, by decide +kernel, rfl, by decide +kernel, by decide +kernel⟩
theorem b_Deed_init (T : Txt K mg) : Binds K T.d_Deed_init ["self", "names", "lows", "highs", "table", "spots", "term", "path"] [] := T.F_Deed_init.bindsN fun _ _ _ _ _ _ us hl => match us, hl with | [_, _, _, _, _, _, _, _], _ => rfl
theorem kv_Deed_init_1 : VKn (defScope s_Deed_init) "names" := ⟨by first | exact Or.inl (by decide +kernel) | exact Or.inr (Or.inl (by decide +kernel)) | exact Or.inr (Or.inr (by decide +kernel)), by decide, by decide⟩
theorem kv_Deed_init_2 : VKn (defScope s_Deed_init) "lows" := ⟨by first | exact Or.inl (by decide +kernel) | exact Or.inr (Or.inl (by decide +kernel)) | exact Or.inr (Or.inr (by decide +kernel)), by decide, by decide⟩
theorem kv_Deed_init_3 : VKn (defScope s_Deed_init) "highs" := ⟨by first | exact Or.inl (by decide +kernel) | exact Or.inr (Or.inl (by decide +kernel)) | exact Or.inr (Or.inr (by decide +kernel)), by decide, by decide⟩
theorem kv_Deed_init_4 : VKn (defScope s_Deed_init) "table" := ⟨by first | exact Or.inl (by decide +kernel) | exact Or.inr (Or.inl (by decide +kernel)) | exact Or.inr (Or.inr (by decide +kernel)), by decide, by decide⟩
theorem kv_Deed_init_5 : VKn (defScope s_Deed_init) "spots" := ⟨by first | exact Or.inl (by decide +kernel) | exact Or.inr (Or.inl (by decide +kernel)) | exact Or.inr (Or.inr (by decide +kernel)), by decide, by decide⟩
theorem kv_Deed_init_6 : VKn (defScope s_Deed_init) "term" := ⟨by first | exact Or.inl (by decide +kernel) | exact Or.inr (Or.inl (by decide +kernel)) | exact Or.inr (Or.inr (by decide +kernel)), by decide, by decide⟩
theorem kv_Deed_init_7 : VKn (defScope s_Deed_init) "path" := ⟨by first | exact Or.inl (by decide +kernel) | exact Or.inr (Or.inl (by decide +kernel)) | exact Or.inr (Or.inr (by decide +kernel)), by decide, by decide⟩
theorem ok_Deed_init (T : Txt K mg) : FnOk P w K mg base CX0 1 (He.fAd K ("Deed", some "__init__")) T.d_Deed_init ["self", "names", "lows", "highs", "table", "spots", "term", "path"] (PrI K (He.ga K "Deed") fs_Deed fun (a_ : (Tn Str) × (Tp (T2 Str Int)) × (Tp (T2 Str Int)) × Str × (Tp (T2 Str Int)) × QNumber × (Tp Int) × Unit) => m_Deed_init a_.1 a_.2.1 a_.2.2.1 a_.2.2.2.1 a_.2.2.2.2.1 a_.2.2.2.2.2.1 a_.2.2.2.2.2.2.1) := by
  refine fn_init T.F_Deed_init sc_Deed_init rfl fun cdv A outer s_ F0 H0 y_ dx_ vs a_ r D_ E_ hr G fy_ hy_ ra_ hm kn => ?_
  obtain ⟨v_names, _, rfl, r_names, v_lows, _, rfl, r_lows, v_highs, _, rfl, r_highs, v_table, _, rfl, r_table, v_spots, _, rfl, r_spots, v_term, _, rfl, r_term, v_path, _, rfl, r_path, rfl⟩ := ra_
  obtain ⟨x_names, x_lows, x_highs, x_table, x_spots, x_term, x_path, _u⟩ := a_
  replace hm : m_Deed_init x_names x_lows x_highs x_table x_spots x_term x_path = some r := hm
  unfold m_Deed_init at hm
  have r_names : rp (α := (Tn Str)) K F0 v_names x_names := r_names
  have r_lows : rp (α := (Tp (T2 Str Int))) K F0 v_lows x_lows := r_lows
  have r_highs : rp (α := (Tp (T2 Str Int))) K F0 v_highs x_highs := r_highs
  have r_table : rp (α := Str) K F0 v_table x_table := r_table
  have r_spots : rp (α := (Tp (T2 Str Int))) K F0 v_spots x_spots := r_spots
  have r_term : rp (α := QNumber) K F0 v_term x_term := r_term
  have r_path : rp (α := (Tp Int)) K F0 v_path x_path := r_path
  refine go_fld (names := []) (vs := []) 0 G.sm fy_ hy_ rfl (by decide) (by decide +kernel) T.cl_Deed T.na_Deed_names rfl (ev_varK 1 rfl r_names kv_Deed_init_1) (fun w0 F H g rw0 fy_ hy_ => ?_)
  have G := (G.trans g).poke (u := .ins (He.ga K "Deed") dx_ (List.zip ["names"] [w0])) er_same fy_ ⟨_, hy_, trivial⟩ ⟨_, upd_same, trivial⟩
  have r_names := Rp.mono g.ff r_names
  have r_lows := Rp.mono g.ff r_lows
  have r_highs := Rp.mono g.ff r_highs
  have r_table := Rp.mono g.ff r_table
  have r_spots := Rp.mono g.ff r_spots
  have r_term := Rp.mono g.ff r_term
  have r_path := Rp.mono g.ff r_path
  have hy_ : upd H y_ (.ins (He.ga K "Deed") dx_ (List.zip ["names"] [w0])) y_ = some (.ins (He.ga K "Deed") dx_ (List.zip ["names"] [w0])) := upd_same
  refine go_fld (names := ["names"]) (vs := [w0]) 0 G.sm fy_ hy_ rfl (by decide) (by decide +kernel) T.cl_Deed T.na_Deed_lows rfl (ev_varK 2 rfl r_lows kv_Deed_init_2) (fun w1 F H g rw1 fy_ hy_ => ?_)
  have G := (G.trans g).poke (u := .ins (He.ga K "Deed") dx_ (List.zip ["names", "lows"] [w0, w1])) er_same fy_ ⟨_, hy_, trivial⟩ ⟨_, upd_same, trivial⟩
  have rw0 := Rp.mono g.ff rw0
  have r_names := Rp.mono g.ff r_names
  have r_lows := Rp.mono g.ff r_lows
  have r_highs := Rp.mono g.ff r_highs
  have r_table := Rp.mono g.ff r_table
  have r_spots := Rp.mono g.ff r_spots
  have r_term := Rp.mono g.ff r_term
  have r_path := Rp.mono g.ff r_path
  have hy_ : upd H y_ (.ins (He.ga K "Deed") dx_ (List.zip ["names", "lows"] [w0, w1])) y_ = some (.ins (He.ga K "Deed") dx_ (List.zip ["names", "lows"] [w0, w1])) := upd_same
  refine go_fld (names := ["names", "lows"]) (vs := [w0, w1]) 0 G.sm fy_ hy_ rfl (by decide) (by decide +kernel) T.cl_Deed T.na_Deed_highs rfl (ev_varK 3 rfl r_highs kv_Deed_init_3) (fun w2 F H g rw2 fy_ hy_ => ?_)
  have G := (G.trans g).poke (u := .ins (He.ga K "Deed") dx_ (List.zip ["names", "lows", "highs"] [w0, w1, w2])) er_same fy_ ⟨_, hy_, trivial⟩ ⟨_, upd_same, trivial⟩
  have rw0 := Rp.mono g.ff rw0
  have rw1 := Rp.mono g.ff rw1
  have r_names := Rp.mono g.ff r_names
  have r_lows := Rp.mono g.ff r_lows
  have r_highs := Rp.mono g.ff r_highs
  have r_table := Rp.mono g.ff r_table
  have r_spots := Rp.mono g.ff r_spots
  have r_term := Rp.mono g.ff r_term
  have r_path := Rp.mono g.ff r_path
  have hy_ : upd H y_ (.ins (He.ga K "Deed") dx_ (List.zip ["names", "lows", "highs"] [w0, w1, w2])) y_ = some (.ins (He.ga K "Deed") dx_ (List.zip ["names", "lows", "highs"] [w0, w1, w2])) := upd_same
  refine go_fld (names := ["names", "lows", "highs"]) (vs := [w0, w1, w2]) 0 G.sm fy_ hy_ rfl (by decide) (by decide +kernel) T.cl_Deed T.na_Deed_table rfl (ev_varK 4 rfl r_table kv_Deed_init_4) (fun w3 F H g rw3 fy_ hy_ => ?_)
  have G := (G.trans g).poke (u := .ins (He.ga K "Deed") dx_ (List.zip ["names", "lows", "highs", "table"] [w0, w1, w2, w3])) er_same fy_ ⟨_, hy_, trivial⟩ ⟨_, upd_same, trivial⟩
  have rw0 := Rp.mono g.ff rw0
  have rw1 := Rp.mono g.ff rw1
  have rw2 := Rp.mono g.ff rw2
  have r_names := Rp.mono g.ff r_names
  have r_lows := Rp.mono g.ff r_lows
  have r_highs := Rp.mono g.ff r_highs
  have r_table := Rp.mono g.ff r_table
  have r_spots := Rp.mono g.ff r_spots
  have r_term := Rp.mono g.ff r_term
  have r_path := Rp.mono g.ff r_path
  have hy_ : upd H y_ (.ins (He.ga K "Deed") dx_ (List.zip ["names", "lows", "highs", "table"] [w0, w1, w2, w3])) y_ = some (.ins (He.ga K "Deed") dx_ (List.zip ["names", "lows", "highs", "table"] [w0, w1, w2, w3])) := upd_same
  refine go_fld (names := ["names", "lows", "highs", "table"]) (vs := [w0, w1, w2, w3]) 0 G.sm fy_ hy_ rfl (by decide) (by decide +kernel) T.cl_Deed T.na_Deed_spots rfl (ev_varK 5 rfl r_spots kv_Deed_init_5) (fun w4 F H g rw4 fy_ hy_ => ?_)
  have G := (G.trans g).poke (u := .ins (He.ga K "Deed") dx_ (List.zip ["names", "lows", "highs", "table", "spots"] [w0, w1, w2, w3, w4])) er_same fy_ ⟨_, hy_, trivial⟩ ⟨_, upd_same, trivial⟩
  have rw0 := Rp.mono g.ff rw0
  have rw1 := Rp.mono g.ff rw1
  have rw2 := Rp.mono g.ff rw2
  have rw3 := Rp.mono g.ff rw3
  have r_names := Rp.mono g.ff r_names
  have r_lows := Rp.mono g.ff r_lows
  have r_highs := Rp.mono g.ff r_highs
  have r_table := Rp.mono g.ff r_table
  have r_spots := Rp.mono g.ff r_spots
  have r_term := Rp.mono g.ff r_term
  have r_path := Rp.mono g.ff r_path
  have hy_ : upd H y_ (.ins (He.ga K "Deed") dx_ (List.zip ["names", "lows", "highs", "table", "spots"] [w0, w1, w2, w3, w4])) y_ = some (.ins (He.ga K "Deed") dx_ (List.zip ["names", "lows", "highs", "table", "spots"] [w0, w1, w2, w3, w4])) := upd_same
  refine go_fld (names := ["names", "lows", "highs", "table", "spots"]) (vs := [w0, w1, w2, w3, w4]) 0 G.sm fy_ hy_ rfl (by decide) (by decide +kernel) T.cl_Deed T.na_Deed_term rfl (ev_varK 6 rfl r_term kv_Deed_init_6) (fun w5 F H g rw5 fy_ hy_ => ?_)
  have G := (G.trans g).poke (u := .ins (He.ga K "Deed") dx_ (List.zip ["names", "lows", "highs", "table", "spots", "term"] [w0, w1, w2, w3, w4, w5])) er_same fy_ ⟨_, hy_, trivial⟩ ⟨_, upd_same, trivial⟩
  have rw0 := Rp.mono g.ff rw0
  have rw1 := Rp.mono g.ff rw1
  have rw2 := Rp.mono g.ff rw2
  have rw3 := Rp.mono g.ff rw3
  have rw4 := Rp.mono g.ff rw4
  have r_names := Rp.mono g.ff r_names
  have r_lows := Rp.mono g.ff r_lows
  have r_highs := Rp.mono g.ff r_highs
  have r_table := Rp.mono g.ff r_table
  have r_spots := Rp.mono g.ff r_spots
  have r_term := Rp.mono g.ff r_term
  have r_path := Rp.mono g.ff r_path
  have hy_ : upd H y_ (.ins (He.ga K "Deed") dx_ (List.zip ["names", "lows", "highs", "table", "spots", "term"] [w0, w1, w2, w3, w4, w5])) y_ = some (.ins (He.ga K "Deed") dx_ (List.zip ["names", "lows", "highs", "table", "spots", "term"] [w0, w1, w2, w3, w4, w5])) := upd_same
  refine go_fld (names := ["names", "lows", "highs", "table", "spots", "term"]) (vs := [w0, w1, w2, w3, w4, w5]) 0 G.sm fy_ hy_ rfl (by decide) (by decide +kernel) T.cl_Deed T.na_Deed_path rfl (ev_varK 7 rfl r_path kv_Deed_init_7) (fun w6 F H g rw6 fy_ hy_ => ?_)
  have G := (G.trans g).poke (u := .ins (He.ga K "Deed") dx_ (List.zip ["names", "lows", "highs", "table", "spots", "term", "path"] [w0, w1, w2, w3, w4, w5, w6])) er_same fy_ ⟨_, hy_, trivial⟩ ⟨_, upd_same, trivial⟩
  have rw0 := Rp.mono g.ff rw0
  have rw1 := Rp.mono g.ff rw1
  have rw2 := Rp.mono g.ff rw2
  have rw3 := Rp.mono g.ff rw3
  have rw4 := Rp.mono g.ff rw4
  have rw5 := Rp.mono g.ff rw5
  have r_names := Rp.mono g.ff r_names
  have r_lows := Rp.mono g.ff r_lows
  have r_highs := Rp.mono g.ff r_highs
  have r_table := Rp.mono g.ff r_table
  have r_spots := Rp.mono g.ff r_spots
  have r_term := Rp.mono g.ff r_term
  have r_path := Rp.mono g.ff r_path
  have hy_ : upd H y_ (.ins (He.ga K "Deed") dx_ (List.zip ["names", "lows", "highs", "table", "spots", "term", "path"] [w0, w1, w2, w3, w4, w5, w6])) y_ = some (.ins (He.ga K "Deed") dx_ (List.zip ["names", "lows", "highs", "table", "spots", "term", "path"] [w0, w1, w2, w3, w4, w5, w6])) := upd_same
  cases (Option.some.inj hm)
  exact GoS.nil (kn _ _ _ [w0, w1, w2, w3, w4, w5, w6] G fy_ hy_ ⟨_, _, rfl, rw0, ⟨_, _, rfl, rw1, ⟨_, _, rfl, rw2, ⟨_, _, rfl, rw3, ⟨_, _, rfl, rw4, ⟨_, _, rfl, rw5, ⟨_, _, rfl, rw6, rfl⟩⟩⟩⟩⟩⟩⟩)
/-! told_deeds -/
theorem sc_told_deeds : FnScope ["_law_deeds_here", "_law_scale", "_law_base", "_law_found", "_law_loops", "_law_path", "_law_common", "_law_names", "_law_loop_here", "_law_lows", "_law_highs"] ["_law_deeds_here", "_law_scale", "_law_base"] (defScope s_told_deeds) := ⟨rfl, rfl, rfl, by decide +kernel, rfl, by decide +kernel, by decide +kernel⟩
theorem b_told_deeds (T : Txt K mg) : Binds K T.d_told_deeds ["_law_deeds_here", "_law_scale", "_law_base"] [] := T.F_told_deeds.bindsN fun _ _ _ _ _ _ us hl => match us, hl with | [_, _, _], _ => rfl
theorem kv_told_deeds_0 : VKn (defScope s_told_deeds) "_law_deeds_here" := ⟨by first | exact Or.inl (by decide +kernel) | exact Or.inr (Or.inl (by decide +kernel)) | exact Or.inr (Or.inr (by decide +kernel)), by decide, by decide⟩
theorem kv_told_deeds_3 : VKn (defScope s_told_deeds) "_law_found" := ⟨by first | exact Or.inl (by decide +kernel) | exact Or.inr (Or.inl (by decide +kernel)) | exact Or.inr (Or.inr (by decide +kernel)), by decide, by decide⟩
theorem kv_told_deeds_4 : VKn (defScope s_told_deeds) "_law_loops" := ⟨by first | exact Or.inl (by decide +kernel) | exact Or.inr (Or.inl (by decide +kernel)) | exact Or.inr (Or.inr (by decide +kernel)), by decide, by decide⟩
theorem kv_told_deeds_5 : VKn (defScope s_told_deeds) "_law_path" := ⟨by first | exact Or.inl (by decide +kernel) | exact Or.inr (Or.inl (by decide +kernel)) | exact Or.inr (Or.inr (by decide +kernel)), by decide, by decide⟩
theorem kv_told_deeds_7 : VKn (defScope s_told_deeds) "_law_names" := ⟨by first | exact Or.inl (by decide +kernel) | exact Or.inr (Or.inl (by decide +kernel)) | exact Or.inr (Or.inr (by decide +kernel)), by decide, by decide⟩
theorem kv_told_deeds_9 : VKn (defScope s_told_deeds) "_law_lows" := ⟨by first | exact Or.inl (by decide +kernel) | exact Or.inr (Or.inl (by decide +kernel)) | exact Or.inr (Or.inr (by decide +kernel)), by decide, by decide⟩
theorem kv_told_deeds_10 : VKn (defScope s_told_deeds) "_law_highs" := ⟨by first | exact Or.inl (by decide +kernel) | exact Or.inr (Or.inl (by decide +kernel)) | exact Or.inr (Or.inr (by decide +kernel)), by decide, by decide⟩
theorem ok_told_deeds (T : Txt K mg) : FnOk P w K mg base CX0 3 (He.fAd K ("_law_told_deeds", none)) T.d_told_deeds ["_law_deeds_here", "_law_scale", "_law_base"] (Pr K fun (a_ : (List (T3 (List (T5 Str (T2 Str Int) (T2 Str Int) Int Int)) (Tp Int) Int)) × Int × Int × Unit) => m_told_deeds a_.1 a_.2.1 a_.2.2.1) := by
  refine fn_ok T.F_told_deeds sc_told_deeds rfl fun cdv A outer s_ F0 H0 vs a_ r D_ E_ hr sm_ ra_ hm kr kn => ?_
  obtain ⟨v_deeds_here, _, rfl, r_deeds_here, v_scale, _, rfl, r_scale, v_base, _, rfl, r_base, rfl⟩ := ra_
  obtain ⟨x_deeds_here, x_scale, x_base, _u⟩ := a_
  have G : GrX K F0 H0 F0 H0 := .refl sm_
  replace hm : m_told_deeds x_deeds_here x_scale x_base = some r := hm
  unfold m_told_deeds at hm
  have r_deeds_here : rp (α := (List (T3 (List (T5 Str (T2 Str Int) (T2 Str Int) Int Int)) (Tp Int) Int))) K F0 v_deeds_here x_deeds_here := r_deeds_here
  have r_scale : rp (α := Int) K F0 v_scale x_scale := r_scale
  have r_base : rp (α := Int) K F0 v_base x_base := r_base
  change GoS _ _ _ [some v_deeds_here, some v_scale, some v_base, none, none, none, none, none, none, none, none] _
  obtain ⟨x_found, he, hm⟩ := Option.bind_eq_some_iff.mp hm
  refine go_setNA ((List QDeed)) 3 G.sm (en_list el_nil (Nat.zero_le _)) (fun l_found vs_ F H g nl_ fl_ hl_ rs_ => ?_) sc_told_deeds.nd
  have n0_ := G.hh.free nl_
  have G := G.trans g
  have r_deeds_here := Rp.mono g.ff r_deeds_here
  have r_scale := Rp.mono g.ff r_scale
  have r_base := Rp.mono g.ff r_base
  have o_found : Own K _ F H l_found _ := Own.cg (Option.some.inj he) ⟨n0_, fl_, vs_, hl_, rs_⟩
  change GoS _ _ _ [some v_deeds_here, some v_scale, some v_base, some (.ref l_found), none, none, none, none, none, none, none] _
  obtain ⟨b13, ho_, hm⟩ := Option.bind_eq_some_iff.mp hm
  refine go_forN G.sm (ei_list (ev_varK 0 rfl r_deeds_here kv_told_deeds_0)) (pg_tup rfl (pgs_cons (pg_name (i := 4) sc_told_deeds.nd rfl (by first | exact Or.inl rfl | exact Or.inr rfl)) (pgs_cons (pg_name (i := 5) sc_told_deeds.nd rfl (by first | exact Or.inl rfl | exact Or.inr rfl)) (pgs_cons (pg_name (i := 6) sc_told_deeds.nd rfl (by first | exact Or.inl rfl | exact Or.inr rfl)) pgs_nil)))) ho_ (fun F H g => ?_) PassesOwn.never
  have G := G.trans g
  have r_scale := Rp.mono g.ff r_scale
  have r_base := Rp.mono g.ff r_base
  have o_found := o_found.up g
  refine ⟨fun (b1 : (List QDeed)) σ_ F_ H_ => ∃ (u_names : Option V) (u_lows : Option V) (u_highs : Option V) (u_loops : Option V) (u_path : Option V) (u_common : Option V), σ_ = [some v_deeds_here, some v_scale, some v_base, some (.ref l_found), u_loops, u_path, u_common, u_names, none, u_lows, u_highs] ∧ GrX K F0 H0 F_ H_ ∧ Own K H0 F_ H_ l_found b1, ⟨_, _, _, _, _, _, rfl, G, o_found⟩, ?_, ?_⟩
  ·
    intro b1 i2 o_ hm σ_ F H w_ s1_ s2_ iv_ F H g ri_ Q_ hQ_
    obtain ⟨u_names, u_lows, u_highs, u_loops, u_path, u_common, rfl, G, o_found⟩ := iv_
    have sb6 := g.ff
    have r_scale := Rp.mono s1_ r_scale
    have r_base := Rp.mono s1_ r_base
    have G := G.trans g
    have r_scale := Rp.mono g.ff r_scale
    have r_base := Rp.mono g.ff r_base
    have o_found := o_found.up g
    obtain ⟨pa4, _, rfl, sq5, v_loops, _, rfl, r_loops, v_path, _, rfl, r_path, v_common, _, rfl, r_common, rfl⟩ := ri_
    refine ⟨pa4, _, rfl, seqT_mono g.fh sq5, rfl, _, _, rfl, _, _, rfl, _, _, rfl, rfl, hQ_ _ _ ?_⟩
    change GoS _ _ _ [some v_deeds_here, some v_scale, some v_base, some (.ref l_found), some v_loops, some v_path, some v_common, u_names, none, u_lows, u_highs] _
    obtain ⟨t7, h_t7, hm⟩ := Option.bind_eq_some_iff.mp hm
    obtain ⟨x_names, he, hm⟩ := Option.bind_eq_some_iff.mp hm
    refine go_setA ((Tn Str)) 7 G.sm (ev_callTy call_tupN oc_tupleN T.n_tuple (by decide +kernel) (ea_cons (EvN.evA ((List Str)) (en_comp (own := [("_law_loop_here", 8)]) sc_told_deeds.nd (ei_list (ev_varK 4 rfl r_loops kv_told_deeds_4)) h_t7 (blkOk_by (N := ["_law_deeds_here", "_law_scale", "_law_base", "_law_found", "_law_loops", "_law_path", "_law_common", "_law_names", "_law_loop_here", "_law_lows", "_law_highs"]) (sc := defScope s_told_deeds) (by decide +kernel)) (fun _ _ _ _ _ => (pg_name (i := 8) sc_told_deeds.nd rfl (by first | exact Or.inl rfl | exact Or.inr rfl))) (fun x_loop_here o_ hm F H v_loop_here g r_loop_here Q hQ => by
            have r_loops := Rp.mono g.ff r_loops
            refine hQ _ rfl ?_
            exact ⟨_, (Option.some.inj hm).symm, fun s_ H_ C_ cl_ fp_ => (ev_ixT (ev_var 8 rfl r_loop_here) ev_int pj0)⟩))) ea_nil)) (fun v_names F H g rn_ => ?_) sc_told_deeds.nd
    have G := G.trans g
    have r_scale := Rp.mono g.ff r_scale
    have r_base := Rp.mono g.ff r_base
    have o_found := o_found.up g
    have r_loops := Rp.mono g.ff r_loops
    have r_path := Rp.mono g.ff r_path
    have sb6 := sb6.trans g.ff
    have r_names := cg (Option.some.inj he) rn_
    change GoS _ _ _ [some v_deeds_here, some v_scale, some v_base, some (.ref l_found), some v_loops, some v_path, some v_common, some v_names, none, u_lows, u_highs] _
    obtain ⟨t9, h_t9, hm⟩ := Option.bind_eq_some_iff.mp hm
    obtain ⟨x_lows, he, hm⟩ := Option.bind_eq_some_iff.mp hm
    refine go_setA ((Tp (T2 Str Int))) 9 G.sm (ev_callTy call_tuple_of oc_tuple T.n_tuple (by decide +kernel) (ea_cons (EvN.evA ((List (T2 Str Int))) (en_comp (own := [("_law_loop_here", 8)]) sc_told_deeds.nd (ei_list (ev_varK 4 rfl r_loops kv_told_deeds_4)) h_t9 (blkOk_by (N := ["_law_deeds_here", "_law_scale", "_law_base", "_law_found", "_law_loops", "_law_path", "_law_common", "_law_names", "_law_loop_here", "_law_lows", "_law_highs"]) (sc := defScope s_told_deeds) (by decide +kernel)) (fun _ _ _ _ _ => (pg_name (i := 8) sc_told_deeds.nd rfl (by first | exact Or.inl rfl | exact Or.inr rfl))) (fun x_loop_here o_ hm F H v_loop_here g r_loop_here Q hQ => by
            have r_scale := Rp.mono g.ff r_scale
            have r_base := Rp.mono g.ff r_base
            have r_loops := Rp.mono g.ff r_loops
            refine hQ _ rfl ?_
            obtain ⟨t8, h_t8, hm⟩ := Option.bind_eq_some_iff.mp hm
            exact ⟨_, (Option.some.inj hm).symm, fun s_ H_ C_ cl_ fp_ => (ev_call (ok_told T) (hr.mono (by omega)) T.g_told T.F_told.kp (b_told T) (ea_cons (ev_ixT (ev_var 8 rfl r_loop_here) ev_int pj1) (ea_cons (ev_var 1 rfl r_scale) (ea_cons (ev_var 2 rfl r_base) ea_nil))) h_t8)⟩))) ea_nil)) (fun v_lows F H g rn_ => ?_) sc_told_deeds.nd
    have G := G.trans g
    have r_scale := Rp.mono g.ff r_scale
    have r_base := Rp.mono g.ff r_base
    have o_found := o_found.up g
    have r_loops := Rp.mono g.ff r_loops
    have r_path := Rp.mono g.ff r_path
    have r_names := Rp.mono g.ff r_names
    have sb6 := sb6.trans g.ff
    have r_lows := cg (Option.some.inj he) rn_
    change GoS _ _ _ [some v_deeds_here, some v_scale, some v_base, some (.ref l_found), some v_loops, some v_path, some v_common, some v_names, none, some v_lows, u_highs] _
    obtain ⟨t11, h_t11, hm⟩ := Option.bind_eq_some_iff.mp hm
    obtain ⟨x_highs, he, hm⟩ := Option.bind_eq_some_iff.mp hm
    refine go_setA ((Tp (T2 Str Int))) 10 G.sm (ev_callTy call_tuple_of oc_tuple T.n_tuple (by decide +kernel) (ea_cons (EvN.evA ((List (T2 Str Int))) (en_comp (own := [("_law_loop_here", 8)]) sc_told_deeds.nd (ei_list (ev_varK 4 rfl r_loops kv_told_deeds_4)) h_t11 (blkOk_by (N := ["_law_deeds_here", "_law_scale", "_law_base", "_law_found", "_law_loops", "_law_path", "_law_common", "_law_names", "_law_loop_here", "_law_lows", "_law_highs"]) (sc := defScope s_told_deeds) (by decide +kernel)) (fun _ _ _ _ _ => (pg_name (i := 8) sc_told_deeds.nd rfl (by first | exact Or.inl rfl | exact Or.inr rfl))) (fun x_loop_here o_ hm F H v_loop_here g r_loop_here Q hQ => by
            have r_scale := Rp.mono g.ff r_scale
            have r_base := Rp.mono g.ff r_base
            have r_loops := Rp.mono g.ff r_loops
            refine hQ _ rfl ?_
            obtain ⟨t10, h_t10, hm⟩ := Option.bind_eq_some_iff.mp hm
            exact ⟨_, (Option.some.inj hm).symm, fun s_ H_ C_ cl_ fp_ => (ev_call (ok_told T) (hr.mono (by omega)) T.g_told T.F_told.kp (b_told T) (ea_cons (ev_ixT (ev_var 8 rfl r_loop_here) ev_int pj2) (ea_cons (ev_var 1 rfl r_scale) (ea_cons (ev_var 2 rfl r_base) ea_nil))) h_t10)⟩))) ea_nil)) (fun v_highs F H g rn_ => ?_) sc_told_deeds.nd
    have G := G.trans g
    have r_scale := Rp.mono g.ff r_scale
    have r_base := Rp.mono g.ff r_base
    have o_found := o_found.up g
    have r_loops := Rp.mono g.ff r_loops
    have r_path := Rp.mono g.ff r_path
    have r_names := Rp.mono g.ff r_names
    have r_lows := Rp.mono g.ff r_lows
    have sb6 := sb6.trans g.ff
    have r_highs := cg (Option.some.inj he) rn_
    change GoS _ _ _ [some v_deeds_here, some v_scale, some v_base, some (.ref l_found), some v_loops, some v_path, some v_common, some v_names, none, some v_lows, some v_highs] _
    obtain ⟨t12, he, hm⟩ := Option.bind_eq_some_iff.mp hm
    refine go_append 3 G.sm o_found rfl (ev_make (z := QDeed.mk x_names x_lows x_highs ("a" : Str) (Tp.mk ([(T2.mk ("" : Str) (0 : Int))] : List (T2 Str Int))) (QNumber.mk (1 : Int)) i2.b) (names := fs_Deed) (cn := "Deed") (fun _ _ h => h) T.mk_Deed (ok_Deed_init T) (hr.mono (by omega)) T.g_Deed (b_Deed_init T) (ea_cons (ev_varK 7 rfl r_names kv_told_deeds_7) (ea_cons (ev_varK 9 rfl r_lows kv_told_deeds_9) (ea_cons (ev_varK 10 rfl r_highs kv_told_deeds_10) (ea_cons ev_str (ea_cons (ev_tp (el_cons (ev_tup2 (ea_cons ev_str (ea_cons ev_int ea_nil))) el_nil) (by show 1 ≤ sizeLine; decide)) (ea_cons (ev_make (z := QNumber.mk (1 : Int)) (names := fs_Number) (cn := "Number") (fun _ _ h => h) T.mk_Number (ok_Number_init T) (hr.mono (by omega)) T.g_Number (b_Number_init T) (ea_cons ev_int ea_nil) rfl) (ea_cons (ev_varK 5 rfl r_path kv_told_deeds_5) ea_nil))))))) rfl) he (fun w_ F H g nz_ fz_ on_ => ?_)
    have G := G.trans g
    have r_path := Rp.mono g.ff r_path
    have r_names := Rp.mono g.ff r_names
    have r_lows := Rp.mono g.ff r_lows
    have r_highs := Rp.mono g.ff r_highs
    have sb6 := sb6.trans g.ff
    have G := G.poke (u := w_) on_.n fz_ nz_ on_.pl
    have o_found := on_
    have hm := Option.some.inj hm
    subst hm
    exact GoS.nil ⟨_, sb6, G.fh, ⟨_, _, _, _, _, _, rfl, G, o_found⟩⟩
  · intro σ_ F H s1_ s2_ iv_
    obtain ⟨u_names, u_lows, u_highs, u_loops, u_path, u_common, rfl, G, o_found⟩ := iv_
    refine o_found.freeze G (fun F H s_ s2_ G r_found k_ => ?_)
    exact go_ret G.sm (ev_varK 3 rfl r_found kv_told_deeds_3) fun v_ F_ H_ g_ rv_ => kr _ _ _ (G.trans g_) (cg (Option.some.inj hm) rv_)
/-! Program_init -/
theorem sc_Program_init : FnScope ["self", "size", "deeds"] ["self", "size", "deeds"] (defScope s_Program_init) := ⟨rfl, rfl, rfl, by decide +kernel, rfl, by decide +kernel, by decide +kernel⟩
theorem b_Program_init (T : Txt K mg) : Binds K T.d_Program_init ["self", "size", "deeds"] [] := T.F_Program_init.bindsN fun _ _ _ _ _ _ us hl => match us, hl with | [_, _, _], _ => rfl
theorem kv_Program_init_1 : VKn (defScope s_Program_init) "size" := ⟨by first | exact Or.inl (by decide +kernel) | exact Or.inr (Or.inl (by decide +kernel)) | exact Or.inr (Or.inr (by decide +kernel)), by decide, by decide⟩
theorem kv_Program_init_2 : VKn (defScope s_Program_init) "deeds" := ⟨by first | exact Or.inl (by decide +kernel) | exact Or.inr (Or.inl (by decide +kernel)) | exact Or.inr (Or.inr (by decide +kernel)), by decide, by decide⟩
theorem ok_Program_init (T : Txt K mg) : FnOk P w K mg base CX0 1 (He.fAd K ("Program", some "__init__")) T.d_Program_init ["self", "size", "deeds"] (PrI K (He.ga K "Program") fs_Program fun (a_ : Int × (List QDeed) × Unit) => m_Program_init a_.1 a_.2.1) := by
  refine fn_init T.F_Program_init sc_Program_init rfl fun cdv A outer s_ F0 H0 y_ dx_ vs a_ r D_ E_ hr G fy_ hy_ ra_ hm kn => ?_
  obtain ⟨v_size, _, rfl, r_size, v_deeds, _, rfl, r_deeds, rfl⟩ := ra_
  obtain ⟨x_size, x_deeds, _u⟩ := a_
  replace hm : m_Program_init x_size x_deeds = some r := hm
  unfold m_Program_init at hm
  have r_size : rp (α := Int) K F0 v_size x_size := r_size
  have r_deeds : rp (α := (List QDeed)) K F0 v_deeds x_deeds := r_deeds
  refine go_fld (names := []) (vs := []) 0 G.sm fy_ hy_ rfl (by decide) (by decide +kernel) T.cl_Program T.na_Program_size rfl (ev_varK 1 rfl r_size kv_Program_init_1) (fun w0 F H g rw0 fy_ hy_ => ?_)
  have G := (G.trans g).poke (u := .ins (He.ga K "Program") dx_ (List.zip ["size"] [w0])) er_same fy_ ⟨_, hy_, trivial⟩ ⟨_, upd_same, trivial⟩
  have r_size := Rp.mono g.ff r_size
  have r_deeds := Rp.mono g.ff r_deeds
  have hy_ : upd H y_ (.ins (He.ga K "Program") dx_ (List.zip ["size"] [w0])) y_ = some (.ins (He.ga K "Program") dx_ (List.zip ["size"] [w0])) := upd_same
  refine go_fld (names := ["size"]) (vs := [w0]) 0 G.sm fy_ hy_ rfl (by decide) (by decide +kernel) T.cl_Program T.na_Program_deeds rfl (EvN.evA ((List QDeed)) (en_list_of T.n_list (ev_varK 2 rfl r_deeds kv_Program_init_2))) (fun w1 F H g rw1 fy_ hy_ => ?_)
  have G := (G.trans g).poke (u := .ins (He.ga K "Program") dx_ (List.zip ["size", "deeds"] [w0, w1])) er_same fy_ ⟨_, hy_, trivial⟩ ⟨_, upd_same, trivial⟩
  have rw0 := Rp.mono g.ff rw0
  have r_size := Rp.mono g.ff r_size
  have r_deeds := Rp.mono g.ff r_deeds
  have hy_ : upd H y_ (.ins (He.ga K "Program") dx_ (List.zip ["size", "deeds"] [w0, w1])) y_ = some (.ins (He.ga K "Program") dx_ (List.zip ["size", "deeds"] [w0, w1])) := upd_same
  cases (Option.some.inj hm)
  exact GoS.nil (kn _ _ _ [w0, w1] G fy_ hy_ ⟨_, _, rfl, rw0, ⟨_, _, rfl, rw1, rfl⟩⟩)
/-! shared -/
theorem sc_shared : FnScope ["one", "other", "many"] ["one", "other"] (defScope s_shared) := ⟨rfl, rfl, rfl, by decide +kernel, rfl, by decide +kernel, by decide +kernel⟩
theorem b_shared (T : Txt K mg) : Binds K T.d_shared ["one", "other"] [] := T.F_shared.bindsN fun _ _ _ _ _ _ us hl => match us, hl with | [_, _], _ => rfl
theorem kv_shared_0 : VKn (defScope s_shared) "one" := ⟨by first | exact Or.inl (by decide +kernel) | exact Or.inr (Or.inl (by decide +kernel)) | exact Or.inr (Or.inr (by decide +kernel)), by decide, by decide⟩
theorem kv_shared_1 : VKn (defScope s_shared) "other" := ⟨by first | exact Or.inl (by decide +kernel) | exact Or.inr (Or.inl (by decide +kernel)) | exact Or.inr (Or.inr (by decide +kernel)), by decide, by decide⟩
theorem kv_shared_2 : VKn (defScope s_shared) "many" := ⟨by first | exact Or.inl (by decide +kernel) | exact Or.inr (Or.inl (by decide +kernel)) | exact Or.inr (Or.inr (by decide +kernel)), by decide, by decide⟩
theorem ok_shared (T : Txt K mg) : FnOk P w K mg base CX0 1 (He.fAd K ("shared", none)) T.d_shared ["one", "other"] (Pr K fun (a_ : QDeed × QDeed × Unit) => m_shared a_.1 a_.2.1) := by
  refine fn_ok T.F_shared sc_shared rfl fun cdv A outer s_ F0 H0 vs a_ r D_ E_ hr sm_ ra_ hm kr kn => ?_
  obtain ⟨v_one, _, rfl, r_one, v_other, _, rfl, r_other, rfl⟩ := ra_
  obtain ⟨x_one, x_other, _u⟩ := a_
  have G : GrX K F0 H0 F0 H0 := .refl sm_
  replace hm : m_shared x_one x_other = some r := hm
  unfold m_shared at hm
  have r_one : rp (α := QDeed) K F0 v_one x_one := r_one
  have r_other : rp (α := QDeed) K F0 v_other x_other := r_other
  change GoS _ _ _ [some v_one, some v_other, none] _
  obtain ⟨x_many, he, hm⟩ := Option.bind_eq_some_iff.mp hm
  refine go_setA (Int) 2 G.sm ev_int (fun v_many F H g rn_ => ?_) sc_shared.nd
  have G := G.trans g
  have r_one := Rp.mono g.ff r_one
  have r_other := Rp.mono g.ff r_other
  have r_many := cg (Option.some.inj he) rn_
  change GoS _ _ _ [some v_one, some v_other, some v_many] _
  obtain ⟨b8, ho_, hm⟩ := Option.bind_eq_some_iff.mp hm
  refine go_whileN (b0 := x_many) (fun (b1 : Int) σ_ F_ H_ => ∃ (v_many : V), σ_ = [some v_one, some v_other, some v_many] ∧ GrX K F0 H0 F_ H_ ∧ rp (α := Int) K F_ v_many b1) G.sm ⟨_, rfl, G, r_many⟩ ho_ ?_ ?_ ?_ PassesOwn.never
  ·
    intro b1 t_ hm σ_ F H s1_ s2_ iv_
    obtain ⟨v_many, rfl, G, r_many⟩ := iv_
    have r_one := Rp.mono s1_ r_one
    have r_other := Rp.mono s1_ r_other
    obtain ⟨t7, h_t7, hm⟩ := Option.bind_eq_some_iff.mp hm
    refine ⟨G.sm, EvT.cg (Option.some.inj hm) (EvW.t (ew_andA ((decide (b1 < (x_one.names.l.length : Int)))) (et_cmp op_lt o2_lt (ev_varK 2 rfl r_many kv_shared_2) (ev_callB call_len_seq oc_lenTp T.n_len PySem.boot_len (ea_cons (ev_attr T.f_Deed_names (ev_varK 0 rfl r_one kv_shared_0)) ea_nil)) (nomark _)) (fun hc => by
            replace h_t7 := ipos hc h_t7
            obtain ⟨t6, h_t6, h_t7⟩ := Option.bind_eq_some_iff.mp h_t7
            exact EvW.cg (Option.some.inj h_t7) (ew_andA ((decide (b1 < (x_other.names.l.length : Int)))) (et_cmp op_lt o2_lt (ev_varK 2 rfl r_many kv_shared_2) (ev_callB call_len_seq oc_lenTp T.n_len PySem.boot_len (ea_cons (ev_attr T.f_Deed_names (ev_varK 1 rfl r_other kv_shared_1)) ea_nil)) (nomark _)) (fun hc => by
            replace h_t6 := ipos hc h_t6
            obtain ⟨t4, h_t4, h_t6⟩ := Option.bind_eq_some_iff.mp h_t6
            obtain ⟨t5, h_t5, h_t6⟩ := Option.bind_eq_some_iff.mp h_t6
            exact EvW.cg (Option.some.inj h_t6) (ew_and1 (et_cmp op_eq o2_eq (ev_ixTp (ev_attr T.f_Deed_path (ev_varK 0 rfl r_one kv_shared_0)) (ev_varK 2 rfl r_many kv_shared_2) h_t4) (ev_ixTp (ev_attr T.f_Deed_path (ev_varK 1 rfl r_other kv_shared_1)) (ev_varK 2 rfl r_many kv_shared_2) h_t5) (nomark _)))) (fun hc => by replace h_t6 := ineg (nt hc) h_t6; exact (Option.some.inj h_t6).symm))) (fun hc => by replace h_t7 := ineg (nt hc) h_t7; exact (Option.some.inj h_t7).symm))), fun F H g => ?_⟩
    have G := G.trans g
    have r_many := Rp.mono g.ff r_many
    exact ⟨_, rfl, G, r_many⟩
  ·
    intro b1 o_ hm σ_ F H s1_ s2_ iv_
    obtain ⟨v_many, rfl, G, r_many⟩ := iv_
    have sb3 := L2.Same.refl F
    have r_one := Rp.mono s1_ r_one
    have r_other := Rp.mono s1_ r_other
    obtain ⟨x_many, he, hm⟩ := Option.bind_eq_some_iff.mp hm
    refine go_setA (Int) 2 G.sm (ev_add (ev_varK 2 rfl r_many kv_shared_2) ev_int) (fun v_many F H g rn_ => ?_) sc_shared.nd
    have G := G.trans g
    have r_one := Rp.mono g.ff r_one
    have r_other := Rp.mono g.ff r_other
    have sb3 := sb3.trans g.ff
    have r_many := cg (Option.some.inj he) rn_
    have hm := Option.some.inj hm
    subst hm
    exact GoS.nil ⟨_, sb3, G.fh, ⟨_, rfl, G, r_many⟩⟩
  · intro σ_ F H s1_ s2_ iv_
    obtain ⟨v_many, rfl, G, r_many⟩ := iv_
    exact go_ret G.sm (ev_varK 2 rfl r_many kv_shared_2) fun v_ F_ H_ g_ rv_ => kr _ _ _ (G.trans g_) (cg (Option.some.inj hm) rv_)
/-! own_items -/
theorem sc_own_items : FnScope ["deeds", "first", "behind", "depth", "items", "at", "upto", "e"] ["deeds", "first", "behind", "depth"] (defScope s_own_items) := ⟨rfl, rfl, rfl, by decide +kernel, rfl, by decide +kernel, by decide +kernel⟩
theorem b_own_items (T : Txt K mg) : Binds K T.d_own_items ["deeds", "first", "behind", "depth"] [] := T.F_own_items.bindsN fun _ _ _ _ _ _ us hl => match us, hl with | [_, _, _, _], _ => rfl
theorem kv_own_items_0 : VKn (defScope s_own_items) "deeds" := ⟨by first | exact Or.inl (by decide +kernel) | exact Or.inr (Or.inl (by decide +kernel)) | exact Or.inr (Or.inr (by decide +kernel)), by decide, by decide⟩
theorem kv_own_items_1 : VKn (defScope s_own_items) "first" := ⟨by first | exact Or.inl (by decide +kernel) | exact Or.inr (Or.inl (by decide +kernel)) | exact Or.inr (Or.inr (by decide +kernel)), by decide, by decide⟩
theorem kv_own_items_2 : VKn (defScope s_own_items) "behind" := ⟨by first | exact Or.inl (by decide +kernel) | exact Or.inr (Or.inl (by decide +kernel)) | exact Or.inr (Or.inr (by decide +kernel)), by decide, by decide⟩
theorem kv_own_items_3 : VKn (defScope s_own_items) "depth" := ⟨by first | exact Or.inl (by decide +kernel) | exact Or.inr (Or.inl (by decide +kernel)) | exact Or.inr (Or.inr (by decide +kernel)), by decide, by decide⟩
theorem kv_own_items_5 : VKn (defScope s_own_items) "at" := ⟨by first | exact Or.inl (by decide +kernel) | exact Or.inr (Or.inl (by decide +kernel)) | exact Or.inr (Or.inr (by decide +kernel)), by decide, by decide⟩
theorem kv_own_items_6 : VKn (defScope s_own_items) "upto" := ⟨by first | exact Or.inl (by decide +kernel) | exact Or.inr (Or.inl (by decide +kernel)) | exact Or.inr (Or.inr (by decide +kernel)), by decide, by decide⟩
theorem gl_own_items_own_items : (defScope s_own_items).names.lookup ("own_items" : Str) = some NameKind.globalImplicit := by decide +kernel
theorem gl_own_items_shared : (defScope s_own_items).names.lookup ("shared" : Str) = some NameKind.globalImplicit := by decide +kernel
theorem ok_own_items (T : Txt K mg) : ∀ n_ : Nat, FnOk P w K mg base CX0 (1 + n_ + 1) (He.fAd K ("own_items", none)) T.d_own_items ["deeds", "first", "behind", "depth"] (Pr K fun (a_ : (List QDeed) × Int × Int × Int × Unit) => m_own_items n_ a_.1 a_.2.1 a_.2.2.1 a_.2.2.2.1)
  | 0 => by
    refine fn_ok T.F_own_items sc_own_items rfl fun cdv A outer s_ F0 H0 vs a_ r D_ E_ hr sm_ ra_ hm kr kn => ?_
    exact nomatch (show none = some r from hm)
  | n_ + 1 => by
    have ih_ := ok_own_items T n_
    refine fn_ok T.F_own_items sc_own_items rfl fun cdv A outer s_ F0 H0 vs a_ r D_ E_ hr sm_ ra_ hm kr kn => ?_
    obtain ⟨v_deeds, _, rfl, r_deeds, v_first, _, rfl, r_first, v_behind, _, rfl, r_behind, v_depth, _, rfl, r_depth, rfl⟩ := ra_
    obtain ⟨x_deeds, x_first, x_behind, x_depth, _u⟩ := a_
    have G : GrX K F0 H0 F0 H0 := .refl sm_
    replace hm : m_own_items (n_ + 1) x_deeds x_first x_behind x_depth = some r := hm
    rw [m_own_items] at hm
    have r_deeds : rp (α := (List QDeed)) K F0 v_deeds x_deeds := r_deeds
    have r_first : rp (α := Int) K F0 v_first x_first := r_first
    have r_behind : rp (α := Int) K F0 v_behind x_behind := r_behind
    have r_depth : rp (α := Int) K F0 v_depth x_depth := r_depth
    change GoS _ _ _ [some v_deeds, some v_first, some v_behind, some v_depth, none, none, none, none] _
    obtain ⟨x_items, he, hm⟩ := Option.bind_eq_some_iff.mp hm
    refine go_setNA ((List UItem)) 4 G.sm (en_list el_nil (Nat.zero_le _)) (fun l_items vs_ F H g nl_ fl_ hl_ rs_ => ?_) sc_own_items.nd
    have n0_ := G.hh.free nl_
    have G := G.trans g
    have r_deeds := Rp.mono g.ff r_deeds
    have r_first := Rp.mono g.ff r_first
    have r_behind := Rp.mono g.ff r_behind
    have r_depth := Rp.mono g.ff r_depth
    have o_items : Own K _ F H l_items _ := Own.cg (Option.some.inj he) ⟨n0_, fl_, vs_, hl_, rs_⟩
    change GoS _ _ _ [some v_deeds, some v_first, some v_behind, some v_depth, some (.ref l_items), none, none, none] _
    obtain ⟨x_at, he, hm⟩ := Option.bind_eq_some_iff.mp hm
    refine go_setA (Int) 5 G.sm (ev_varK 1 rfl r_first kv_own_items_1) (fun v_at F H g rn_ => ?_) sc_own_items.nd
    have G := G.trans g
    have r_deeds := Rp.mono g.ff r_deeds
    have r_first := Rp.mono g.ff r_first
    have r_behind := Rp.mono g.ff r_behind
    have r_depth := Rp.mono g.ff r_depth
    have o_items := o_items.up g
    have r_at := cg (Option.some.inj he) rn_
    change GoS _ _ _ [some v_deeds, some v_first, some v_behind, some v_depth, some (.ref l_items), some v_at, none, none] _
    obtain ⟨b20, ho_, hm⟩ := Option.bind_eq_some_iff.mp hm
    refine go_whileN (b0 := (x_items, x_at)) (fun (b1 : ((List UItem) × Int)) σ_ F_ H_ => ∃ (u_upto : Option V) (v_at : V), σ_ = [some v_deeds, some v_first, some v_behind, some v_depth, some (.ref l_items), some v_at, u_upto, none] ∧ GrX K F0 H0 F_ H_ ∧ Own K H0 F_ H_ l_items b1.1 ∧ rp (α := Int) K F_ v_at b1.2) G.sm ⟨_, _, rfl, G, o_items, r_at⟩ ho_ ?_ ?_ ?_ PassesOwn.never
    ·
      intro b1 t_ hm σ_ F H s1_ s2_ iv_
      obtain ⟨u_upto, v_at, rfl, G, o_items, r_at⟩ := iv_
      have r_deeds := Rp.mono s1_ r_deeds
      have r_behind := Rp.mono s1_ r_behind
      have r_depth := Rp.mono s1_ r_depth
      refine ⟨G.sm, EvT.cg (Option.some.inj hm) (et_cmp op_lt o2_lt (ev_varK 5 rfl r_at kv_own_items_5) (ev_varK 2 rfl r_behind kv_own_items_2) (nomark _)), fun F H g => ?_⟩
      have G := G.trans g
      have o_items := o_items.up g
      have r_at := Rp.mono g.ff r_at
      exact ⟨_, _, rfl, G, o_items, r_at⟩
    ·
      intro b1 o_ hm σ_ F H s1_ s2_ iv_
      obtain ⟨u_upto, v_at, rfl, G, o_items, r_at⟩ := iv_
      have sb3 := L2.Same.refl F
      have r_deeds := Rp.mono s1_ r_deeds
      have r_behind := Rp.mono s1_ r_behind
      have r_depth := Rp.mono s1_ r_depth
      change GoS _ _ _ [some v_deeds, some v_first, some v_behind, some v_depth, some (.ref l_items), some v_at, u_upto, none] _
      obtain ⟨x_upto, he, hm⟩ := Option.bind_eq_some_iff.mp hm
      refine go_setA (Int) 6 G.sm (ev_add (ev_varK 5 rfl r_at kv_own_items_5) ev_int) (fun v_upto F H g rn_ => ?_) sc_own_items.nd
      have G := G.trans g
      have r_deeds := Rp.mono g.ff r_deeds
      have r_behind := Rp.mono g.ff r_behind
      have r_depth := Rp.mono g.ff r_depth
      have o_items := o_items.up g
      have r_at := Rp.mono g.ff r_at
      have sb3 := sb3.trans g.ff
      have r_upto := cg (Option.some.inj he) rn_
      change GoS _ _ _ [some v_deeds, some v_first, some v_behind, some v_depth, some (.ref l_items), some v_at, some v_upto, none] _
      obtain ⟨t4, h_t4, hm⟩ := Option.bind_eq_some_iff.mp hm
      obtain ⟨b5, hj, hm⟩ := Option.bind_eq_some_iff.mp hm
      refine go_ifjA ((decide ((t4.names.l.length : Int) = x_depth))) (fun σ_ H_ => ∃ (F_ : Hp) (v_upto : V), L2.Same F F_ ∧ σ_ = [some v_deeds, some v_first, some v_behind, some v_depth, some (.ref l_items), some v_at, some v_upto, none] ∧ GrX K F0 H0 F_ H_ ∧ Own K H0 F_ H_ l_items b5.1 ∧ rp (α := Int) K F_ v_upto b5.2) G.sm (et_cmp op_eq o2_eq (ev_callB call_len_seq oc_lenTp T.n_len PySem.boot_len (ea_cons (ev_attr T.f_Deed_names (ev_ixL (ev_varK 0 rfl r_deeds kv_own_items_0) (ev_varK 5 rfl r_at kv_own_items_5) h_t4)) ea_nil)) (ev_varK 3 rfl r_depth kv_own_items_3) (nomark _)) (fun hc F H g => ?_) (fun hc F H g => ?_) (fun σ_ H hP_ => ?_)
      · replace hj := ipos hc hj
        clear hm
        have hm := hj
        clear hj
        have G := G.trans g
        have r_deeds := Rp.mono g.ff r_deeds
        have r_behind := Rp.mono g.ff r_behind
        have r_depth := Rp.mono g.ff r_depth
        have o_items := o_items.up g
        have r_at := Rp.mono g.ff r_at
        have r_upto := Rp.mono g.ff r_upto
        have sb3 := sb3.trans g.ff
        have sj6 := g.ff
        obtain ⟨t7, h_t7, hm⟩ := Option.bind_eq_some_iff.mp hm
        obtain ⟨t8, h_t8, hm⟩ := Option.bind_eq_some_iff.mp hm
        obtain ⟨t9, he, hm⟩ := Option.bind_eq_some_iff.mp hm
        refine go_append 4 G.sm o_items rfl (UItem.mkv_deed (ev_tup3 (ea_cons ev_str (ea_cons (ev_varK 5 rfl r_at kv_own_items_5) (ea_cons (ev_callTy call_tuple_of oc_tuple T.n_tuple (by decide +kernel) (ea_cons (EvN.evA ((List (T2 Int Int))) (en_comp (own := [("e", 7)]) sc_own_items.nd (ei_range1 (ev_varK 3 rfl r_depth kv_own_items_3) h_t7 T.n_range) h_t8 (blkOk_by (N := ["deeds", "first", "behind", "depth", "items", "at", "upto", "e"]) (sc := defScope s_own_items) (by decide +kernel)) (fun _ _ _ _ _ => (pg_name (i := 7) sc_own_items.nd rfl (by first | exact Or.inl rfl | exact Or.inr rfl))) (fun x_e o_ hm F H v_e g r_e Q hQ => by
                have r_depth := Rp.mono g.ff r_depth
                refine hQ _ rfl ?_
                exact ⟨_, (Option.some.inj hm).symm, fun s_ H_ C_ cl_ fp_ => (ev_tup2 (ea_cons (ev_var 7 rfl r_e) (ea_cons ev_int ea_nil)))⟩))) ea_nil)) ea_nil))))) he (fun w_ F H g nz_ fz_ on_ => ?_)
        have G := G.trans g
        have r_behind := Rp.mono g.ff r_behind
        have r_depth := Rp.mono g.ff r_depth
        have r_at := Rp.mono g.ff r_at
        have r_upto := Rp.mono g.ff r_upto
        have sb3 := sb3.trans g.ff
        have sj6 := sj6.trans g.ff
        have G := G.poke (u := w_) on_.n fz_ nz_ on_.pl
        have o_items := on_
        have hm := Option.some.inj hm
        subst hm
        exact GoS.nil ⟨_, _, sj6, rfl, G, o_items, r_upto⟩
      · replace hj := ineg (nt hc) hj
        clear hm
        have hm := hj
        clear hj
        have G := G.trans g
        have r_deeds := Rp.mono g.ff r_deeds
        have r_behind := Rp.mono g.ff r_behind
        have r_depth := Rp.mono g.ff r_depth
        have o_items := o_items.up g
        have r_at := Rp.mono g.ff r_at
        have r_upto := Rp.mono g.ff r_upto
        have sb3 := sb3.trans g.ff
        have sj6 := g.ff
        obtain ⟨b17, ho_, hm⟩ := Option.bind_eq_some_iff.mp hm
        refine go_whileN (b0 := x_upto) (fun (b10 : Int) σ_ F_ H_ => ∃ (v_upto : V), σ_ = [some v_deeds, some v_first, some v_behind, some v_depth, some (.ref l_items), some v_at, some v_upto, none] ∧ GrX K F0 H0 F_ H_ ∧ rp (α := Int) K F_ v_upto b10 ∧ Own K H0 F_ H_ l_items b1.1) G.sm ⟨_, rfl, G, r_upto, o_items⟩ ho_ ?_ ?_ ?_ PassesOwn.never
        ·
          intro b10 t_ hm σ_ F H s1_ s2_ iv_
          obtain ⟨v_upto, rfl, G, r_upto, o_items⟩ := iv_
          have r_deeds := Rp.mono s1_ r_deeds
          have r_behind := Rp.mono s1_ r_behind
          have r_depth := Rp.mono s1_ r_depth
          have r_at := Rp.mono s1_ r_at
          obtain ⟨t16, h_t16, hm⟩ := Option.bind_eq_some_iff.mp hm
          refine ⟨G.sm, EvT.cg (Option.some.inj hm) (EvW.t (ew_andA ((decide (b10 < x_behind))) (et_cmp op_lt o2_lt (ev_varK 6 rfl r_upto kv_own_items_6) (ev_varK 2 rfl r_behind kv_own_items_2) (nomark _)) (fun hc => by
                  replace h_t16 := ipos hc h_t16
                  obtain ⟨t13, h_t13, h_t16⟩ := Option.bind_eq_some_iff.mp h_t16
                  obtain ⟨t14, h_t14, h_t16⟩ := Option.bind_eq_some_iff.mp h_t16
                  obtain ⟨t15, h_t15, h_t16⟩ := Option.bind_eq_some_iff.mp h_t16
                  exact EvW.cg (Option.some.inj h_t16) (ew_and1 (et_cmp op_gt o2_gt (ev_call (ok_shared T) (hr.mono (by omega)) T.g_shared T.F_shared.kp (b_shared T) (ea_cons (ev_ixL (ev_varK 0 rfl r_deeds kv_own_items_0) (ev_varK 5 rfl r_at kv_own_items_5) h_t13) (ea_cons (ev_ixL (ev_varK 0 rfl r_deeds kv_own_items_0) (ev_varK 6 rfl r_upto kv_own_items_6) h_t14) ea_nil)) h_t15 gl_own_items_shared) (ev_varK 3 rfl r_depth kv_own_items_3) (nomark _)))) (fun hc => by replace h_t16 := ineg (nt hc) h_t16; exact (Option.some.inj h_t16).symm))), fun F H g => ?_⟩
          have G := G.trans g
          have r_upto := Rp.mono g.ff r_upto
          have o_items := o_items.up g
          exact ⟨_, rfl, G, r_upto, o_items⟩
        ·
          intro b10 o_ hm σ_ F H s1_ s2_ iv_
          obtain ⟨v_upto, rfl, G, r_upto, o_items⟩ := iv_
          have sb12 := L2.Same.refl F
          have r_deeds := Rp.mono s1_ r_deeds
          have r_behind := Rp.mono s1_ r_behind
          have r_depth := Rp.mono s1_ r_depth
          have r_at := Rp.mono s1_ r_at
          obtain ⟨x_upto, he, hm⟩ := Option.bind_eq_some_iff.mp hm
          refine go_setA (Int) 6 G.sm (ev_add (ev_varK 6 rfl r_upto kv_own_items_6) ev_int) (fun v_upto F H g rn_ => ?_) sc_own_items.nd
          have G := G.trans g
          have r_deeds := Rp.mono g.ff r_deeds
          have r_behind := Rp.mono g.ff r_behind
          have r_depth := Rp.mono g.ff r_depth
          have o_items := o_items.up g
          have r_at := Rp.mono g.ff r_at
          have sb12 := sb12.trans g.ff
          have r_upto := cg (Option.some.inj he) rn_
          have hm := Option.some.inj hm
          subst hm
          exact GoS.nil ⟨_, sb12, G.fh, ⟨_, rfl, G, r_upto, o_items⟩⟩
        · intro σ_ F H s1_ s2_ iv_
          obtain ⟨v_upto, rfl, G, r_upto, o_items⟩ := iv_
          have sb3 := sb3.trans s1_
          have sj6 := sj6.trans s1_
          have r_deeds := Rp.mono s1_ r_deeds
          have r_behind := Rp.mono s1_ r_behind
          have r_depth := Rp.mono s1_ r_depth
          have r_at := Rp.mono s1_ r_at
          obtain ⟨t18, h_t18, hm⟩ := Option.bind_eq_some_iff.mp hm
          obtain ⟨t19, he, hm⟩ := Option.bind_eq_some_iff.mp hm
          refine go_append 4 G.sm o_items rfl (UItem.mkv_sweep (ev_tup4 (ea_cons ev_str (ea_cons ev_bl (ea_cons ev_str (ea_cons (ev_call ih_ (hr.mono (by omega)) T.g_own_items T.F_own_items.kp (b_own_items T) (ea_cons (ev_varK 0 rfl r_deeds kv_own_items_0) (ea_cons (ev_varK 5 rfl r_at kv_own_items_5) (ea_cons (ev_varK 6 rfl r_upto kv_own_items_6) (ea_cons (ev_add (ev_varK 3 rfl r_depth kv_own_items_3) ev_int) ea_nil)))) h_t18 gl_own_items_own_items) ea_nil)))))) he (fun w_ F H g nz_ fz_ on_ => ?_)
          have G := G.trans g
          have r_deeds := Rp.mono g.ff r_deeds
          have r_behind := Rp.mono g.ff r_behind
          have r_depth := Rp.mono g.ff r_depth
          have r_at := Rp.mono g.ff r_at
          have r_upto := Rp.mono g.ff r_upto
          have sb3 := sb3.trans g.ff
          have sj6 := sj6.trans g.ff
          have G := G.poke (u := w_) on_.n fz_ nz_ on_.pl
          have o_items := on_
          have hm := Option.some.inj hm
          subst hm
          exact GoS.nil ⟨_, _, sj6, rfl, G, o_items, r_upto⟩
      obtain ⟨F, v_upto, sj_, rfl, G, o_items, r_upto⟩ := hP_
      have r_behind := Rp.mono sj_ r_behind
      have r_at := Rp.mono sj_ r_at
      have sb3 := sb3.trans sj_
      obtain ⟨x_at, he, hm⟩ := Option.bind_eq_some_iff.mp hm
      refine go_setA (Int) 5 G.sm (ev_varK 6 rfl r_upto kv_own_items_6) (fun v_at F H g rn_ => ?_) sc_own_items.nd
      have G := G.trans g
      have r_behind := Rp.mono g.ff r_behind
      have o_items := o_items.up g
      have r_upto := Rp.mono g.ff r_upto
      have sb3 := sb3.trans g.ff
      have r_at := cg (Option.some.inj he) rn_
      have hm := Option.some.inj hm
      subst hm
      exact GoS.nil ⟨_, sb3, G.fh, ⟨_, _, rfl, G, o_items, r_at⟩⟩
    · intro σ_ F H s1_ s2_ iv_
      obtain ⟨u_upto, v_at, rfl, G, o_items, r_at⟩ := iv_
      change GoS _ _ _ [some v_deeds, some v_first, some v_behind, some v_depth, some (.ref l_items), some v_at, u_upto, none] _
      exact go_ret G.sm (ev_thaw o_items G.fh (fun F H s_ s2_ rf_ k_ => by
              have rf_items := rf_
              exact (ev_callTy call_tuple_of oc_tuple T.n_tuple (by decide +kernel) (ea_cons (ev_var 4 rfl rf_items) ea_nil)))) fun v_ F_ H_ g_ rv_ => kr _ _ _ (G.trans g_) (cg (Option.some.inj hm) rv_)
/-! own_plan -/
theorem sc_own_plan : FnScope ["program"] ["program"] (defScope s_own_plan) := ⟨rfl, rfl, rfl, by decide +kernel, rfl, by decide +kernel, by decide +kernel⟩
theorem b_own_plan (T : Txt K mg) : Binds K T.d_own_plan ["program"] [] := T.F_own_plan.bindsN fun _ _ _ _ _ _ us hl => match us, hl with | [_], _ => rfl
theorem kv_own_plan_0 : VKn (defScope s_own_plan) "program" := ⟨by first | exact Or.inl (by decide +kernel) | exact Or.inr (Or.inl (by decide +kernel)) | exact Or.inr (Or.inr (by decide +kernel)), by decide, by decide⟩
theorem gl_own_plan_own_items : (defScope s_own_plan).names.lookup ("own_items" : Str) = some NameKind.globalImplicit := by decide +kernel
theorem ok_own_plan (T : Txt K mg) : FnOk P w K mg base CX0 13 (He.fAd K ("own_plan", none)) T.d_own_plan ["program"] (Pr K fun (a_ : QProgram × Unit) => m_own_plan a_.1) := by
  refine fn_ok T.F_own_plan sc_own_plan rfl fun cdv A outer s_ F0 H0 vs a_ r D_ E_ hr sm_ ra_ hm kr kn => ?_
  obtain ⟨v_program, _, rfl, r_program, rfl⟩ := ra_
  obtain ⟨x_program, _u⟩ := a_
  have G : GrX K F0 H0 F0 H0 := .refl sm_
  replace hm : m_own_plan x_program = some r := hm
  unfold m_own_plan at hm
  have r_program : rp (α := QProgram) K F0 v_program x_program := r_program
  change GoS _ _ _ [some v_program] _
  obtain ⟨t1, h_t1, hm⟩ := Option.bind_eq_some_iff.mp hm
  exact go_ret G.sm (ev_call (ok_own_items T 10) (hr.mono (by omega)) T.g_own_items T.F_own_items.kp (b_own_items T) (ea_cons (ev_attr T.f_Program_deeds (ev_varK 0 rfl r_program kv_own_plan_0)) (ea_cons ev_int (ea_cons (ev_callB call_len_seq oc_lenL T.n_len PySem.boot_len (ea_cons (ev_attr T.f_Program_deeds (ev_varK 0 rfl r_program kv_own_plan_0)) ea_nil)) (ea_cons ev_int ea_nil)))) h_t1 gl_own_plan_own_items) fun v_ F_ H_ g_ rv_ => kr _ _ _ (G.trans g_) (cg (Option.some.inj hm) rv_)
/-! values -/
theorem sc_values : FnScope ["_law_loops", "_law_rows", "_law_loop_here", "_law_grown", "_law_row", "_law_worths", "_law_other", "_law_value", "_law_low", "_law_high"] ["_law_loops"] (defScope s_values) := ⟨rfl, rfl, rfl, by decide +kernel, rfl, by decide +kernel, by decide +kernel⟩
theorem b_values (T : Txt K mg) : Binds K T.d_values ["_law_loops"] [] := T.F_values.bindsN fun _ _ _ _ _ _ us hl => match us, hl with | [_], _ => rfl
theorem kv_values_0 : VKn (defScope s_values) "_law_loops" := ⟨by first | exact Or.inl (by decide +kernel) | exact Or.inr (Or.inl (by decide +kernel)) | exact Or.inr (Or.inr (by decide +kernel)), by decide, by decide⟩
theorem kv_values_1 : VKn (defScope s_values) "_law_rows" := ⟨by first | exact Or.inl (by decide +kernel) | exact Or.inr (Or.inl (by decide +kernel)) | exact Or.inr (Or.inr (by decide +kernel)), by decide, by decide⟩
theorem kv_values_2 : VKn (defScope s_values) "_law_loop_here" := ⟨by first | exact Or.inl (by decide +kernel) | exact Or.inr (Or.inl (by decide +kernel)) | exact Or.inr (Or.inr (by decide +kernel)), by decide, by decide⟩
theorem kv_values_3 : VKn (defScope s_values) "_law_grown" := ⟨by first | exact Or.inl (by decide +kernel) | exact Or.inr (Or.inl (by decide +kernel)) | exact Or.inr (Or.inr (by decide +kernel)), by decide, by decide⟩
theorem kv_values_4 : VKn (defScope s_values) "_law_row" := ⟨by first | exact Or.inl (by decide +kernel) | exact Or.inr (Or.inl (by decide +kernel)) | exact Or.inr (Or.inr (by decide +kernel)), by decide, by decide⟩
theorem kv_values_6 : VKn (defScope s_values) "_law_other" := ⟨by first | exact Or.inl (by decide +kernel) | exact Or.inr (Or.inl (by decide +kernel)) | exact Or.inr (Or.inr (by decide +kernel)), by decide, by decide⟩
theorem kv_values_7 : VKn (defScope s_values) "_law_value" := ⟨by first | exact Or.inl (by decide +kernel) | exact Or.inr (Or.inl (by decide +kernel)) | exact Or.inr (Or.inr (by decide +kernel)), by decide, by decide⟩
theorem kv_values_8 : VKn (defScope s_values) "_law_low" := ⟨by first | exact Or.inl (by decide +kernel) | exact Or.inr (Or.inl (by decide +kernel)) | exact Or.inr (Or.inr (by decide +kernel)), by decide, by decide⟩
theorem kv_values_9 : VKn (defScope s_values) "_law_high" := ⟨by first | exact Or.inl (by decide +kernel) | exact Or.inr (Or.inl (by decide +kernel)) | exact Or.inr (Or.inr (by decide +kernel)), by decide, by decide⟩
theorem ok_values (T : Txt K mg) : FnOk P w K mg base CX0 1 (He.fAd K ("_law_values", none)) T.d_values ["_law_loops"] (Pr K fun (a_ : (List (T5 Str (T2 Str Int) (T2 Str Int) Int Int)) × Unit) => m_values a_.1) := by
  refine fn_ok T.F_values sc_values rfl fun cdv A outer s_ F0 H0 vs a_ r D_ E_ hr sm_ ra_ hm kr kn => ?_
  obtain ⟨v_loops, _, rfl, r_loops, rfl⟩ := ra_
  obtain ⟨x_loops, _u⟩ := a_
  have G : GrX K F0 H0 F0 H0 := .refl sm_
  replace hm : m_values x_loops = some r := hm
  unfold m_values at hm
  have r_loops : rp (α := (List (T5 Str (T2 Str Int) (T2 Str Int) Int Int))) K F0 v_loops x_loops := r_loops
  change GoS _ _ _ [some v_loops, none, none, none, none, none, none, none, none, none] _
  obtain ⟨x_rows, he, hm⟩ := Option.bind_eq_some_iff.mp hm
  refine go_setA ((List (Tp Int))) 1 G.sm (EvN.evA ((List (Tp Int))) (en_list (el_cons (ev_tp el_nil (by show 0 ≤ sizeLine; decide)) el_nil) (by show 1 ≤ sizeLine; decide))) (fun v_rows F H g rn_ => ?_) sc_values.nd
  have G := G.trans g
  have r_loops := Rp.mono g.ff r_loops
  have r_rows := cg (Option.some.inj he) rn_
  change GoS _ _ _ [some v_loops, some v_rows, none, none, none, none, none, none, none, none] _
  obtain ⟨b28, ho_, hm⟩ := Option.bind_eq_some_iff.mp hm
  refine go_forN G.sm (ei_list (ev_varK 0 rfl r_loops kv_values_0)) (pg_name (i := 2) sc_values.nd rfl (by first | exact Or.inl rfl | exact Or.inr rfl)) ho_ (fun F H g => ?_) PassesOwn.never
  have G := G.trans g
  have r_loops := Rp.mono g.ff r_loops
  have r_rows := Rp.mono g.ff r_rows
  refine ⟨fun (b1 : (List (Tp Int))) σ_ F_ H_ => ∃ (u_grown : Option V) (u_row : Option V) (u_worths : Option V) (u_other : Option V) (u_value : Option V) (u_low : Option V) (u_high : Option V) (u_loop_here : Option V) (v_rows : V), σ_ = [some v_loops, some v_rows, u_loop_here, u_grown, u_row, u_worths, u_other, u_value, u_low, u_high] ∧ GrX K F0 H0 F_ H_ ∧ rp (α := (List (Tp Int))) K F_ v_rows b1, ⟨_, _, _, _, _, _, _, _, _, rfl, G, r_rows⟩, ?_, ?_⟩
  ·
    intro b1 x_loop_here o_ hm σ_ F H v_loop_here s1_ s2_ iv_ F H g r_loop_here Q_ hQ_
    obtain ⟨u_grown, u_row, u_worths, u_other, u_value, u_low, u_high, u_loop_here, v_rows, rfl, G, r_rows⟩ := iv_
    have sb4 := g.ff
    have r_loops := Rp.mono s1_ r_loops
    have G := G.trans g
    have r_loops := Rp.mono g.ff r_loops
    have r_rows := Rp.mono g.ff r_rows
    refine hQ_ _ _ ?_
    change GoS _ _ _ [some v_loops, some v_rows, some v_loop_here, u_grown, u_row, u_worths, u_other, u_value, u_low, u_high] _
    obtain ⟨x_grown, he, hm⟩ := Option.bind_eq_some_iff.mp hm
    refine go_setNA ((List (Tp Int))) 3 G.sm (en_list el_nil (Nat.zero_le _)) (fun l_grown vs_ F H g nl_ fl_ hl_ rs_ => ?_) sc_values.nd
    have n0_ := G.hh.free nl_
    have G := G.trans g
    have r_loops := Rp.mono g.ff r_loops
    have r_rows := Rp.mono g.ff r_rows
    have r_loop_here := Rp.mono g.ff r_loop_here
    have sb4 := sb4.trans g.ff
    have o_grown : Own K _ F H l_grown _ := Own.cg (Option.some.inj he) ⟨n0_, fl_, vs_, hl_, rs_⟩
    change GoS _ _ _ [some v_loops, some v_rows, some v_loop_here, some (.ref l_grown), u_row, u_worths, u_other, u_value, u_low, u_high] _
    obtain ⟨b27, ho_, hm⟩ := Option.bind_eq_some_iff.mp hm
    refine go_forN G.sm (ei_list (ev_varK 1 rfl r_rows kv_values_1)) (pg_name (i := 4) sc_values.nd rfl (by first | exact Or.inl rfl | exact Or.inr rfl)) ho_ (fun F H g => ?_) PassesOwn.never
    have G := G.trans g
    have r_loops := Rp.mono g.ff r_loops
    have r_rows := Rp.mono g.ff r_rows
    have r_loop_here := Rp.mono g.ff r_loop_here
    have o_grown := o_grown.up g
    have sb4 := sb4.trans g.ff
    refine ⟨fun (b5 : (List (Tp Int))) σ_ F_ H_ => ∃ (u_worths : Option V) (u_other : Option V) (u_value : Option V) (u_low : Option V) (u_high : Option V) (u_row : Option V), σ_ = [some v_loops, some v_rows, some v_loop_here, some (.ref l_grown), u_row, u_worths, u_other, u_value, u_low, u_high] ∧ GrX K F0 H0 F_ H_ ∧ Own K H0 F_ H_ l_grown b5, ⟨_, _, _, _, _, _, rfl, G, o_grown⟩, ?_, ?_⟩
    ·
      intro b5 x_row o_ hm σ_ F H v_row s1_ s2_ iv_ F H g r_row Q_ hQ_
      obtain ⟨u_worths, u_other, u_value, u_low, u_high, u_row, rfl, G, o_grown⟩ := iv_
      have sb8 := g.ff
      have r_loops := Rp.mono s1_ r_loops
      have r_loop_here := Rp.mono s1_ r_loop_here
      have G := G.trans g
      have r_loops := Rp.mono g.ff r_loops
      have r_loop_here := Rp.mono g.ff r_loop_here
      have o_grown := o_grown.up g
      refine hQ_ _ _ ?_
      change GoS _ _ _ [some v_loops, some v_rows, some v_loop_here, some (.ref l_grown), some v_row, u_worths, u_other, u_value, u_low, u_high] _
      obtain ⟨x_worths, he, hm⟩ := Option.bind_eq_some_iff.mp hm
      refine go_setNA ((Dct Str Int)) 5 G.sm (en_disp (ep_cons ev_str ev_int ep_nil) (by show 1 ≤ 15; decide)) (fun l_worths vs_ F H g nl_ fl_ hl_ rs_ => ?_) sc_values.nd
      have d_grown_worths : l_grown ≠ l_worths := fun e_ => o_grown.ne0 (e_.symm ▸ nl_)
      have n0_ := G.hh.free nl_
      have G := G.trans g
      have r_loops := Rp.mono g.ff r_loops
      have r_loop_here := Rp.mono g.ff r_loop_here
      have o_grown := o_grown.up g
      have r_row := Rp.mono g.ff r_row
      have sb8 := sb8.trans g.ff
      have o_worths : Own K _ F H l_worths _ := Own.cg (Option.some.inj he) ⟨n0_, fl_, vs_, hl_, rs_⟩
      change GoS _ _ _ [some v_loops, some v_rows, some v_loop_here, some (.ref l_grown), some v_row, some (.ref l_worths), u_other, u_value, u_low, u_high] _
      obtain ⟨b16, ho_, hm⟩ := Option.bind_eq_some_iff.mp hm
      refine go_forN G.sm (ei_zipN (ev_varK 0 rfl r_loops kv_values_0) (ev_varK 4 rfl r_row kv_values_4) T.n_zip) (pg_tup rfl (pgs_cons (pg_name (i := 6) sc_values.nd rfl (by first | exact Or.inl rfl | exact Or.inr rfl)) (pgs_cons (pg_name (i := 7) sc_values.nd rfl (by first | exact Or.inl rfl | exact Or.inr rfl)) pgs_nil))) ho_ (fun F H g => ?_) PassesOwn.never
      have G := G.trans g
      have r_loop_here := Rp.mono g.ff r_loop_here
      have o_grown := o_grown.up g
      have r_row := Rp.mono g.ff r_row
      have o_worths := o_worths.up g
      have sb8 := sb8.trans g.ff
      refine ⟨fun (b9 : (Dct Str Int)) σ_ F_ H_ => ∃ (u_other : Option V) (u_value : Option V), σ_ = [some v_loops, some v_rows, some v_loop_here, some (.ref l_grown), some v_row, some (.ref l_worths), u_other, u_value, u_low, u_high] ∧ GrX K F0 H0 F_ H_ ∧ Own K H0 F_ H_ l_worths b9 ∧ Own K H0 F_ H_ l_grown b5, ⟨_, _, rfl, G, o_worths, o_grown⟩, ?_, ?_⟩
      ·
        intro b9 i10 o_ hm σ_ F H w_ s1_ s2_ iv_ F H g ri_ Q_ hQ_
        obtain ⟨u_other, u_value, rfl, G, o_worths, o_grown⟩ := iv_
        have sb14 := g.ff
        have G := G.trans g
        have o_grown := o_grown.up g
        have o_worths := o_worths.up g
        obtain ⟨pa12, _, rfl, sq13, v_other, _, rfl, r_other, v_value, _, rfl, r_value, rfl⟩ := ri_
        refine ⟨pa12, _, rfl, seqT_mono g.fh sq13, rfl, _, _, rfl, _, _, rfl, rfl, hQ_ _ _ ?_⟩
        change GoS _ _ _ [some v_loops, some v_rows, some v_loop_here, some (.ref l_grown), some v_row, some (.ref l_worths), some v_other, some v_value, u_low, u_high] _
        obtain ⟨t15, he, hm⟩ := Option.bind_eq_some_iff.mp hm
        refine go_dput 5 G.sm (room1 hr) o_worths rfl (ev_varK 7 rfl r_value kv_values_7) (ev_ixT (ev_varK 6 rfl r_other kv_values_6) ev_int pj0) he (fun w_ F H g nz_ fz_ on_ => ?_)
        have G := G.trans g
        have o_grown := o_grown.up g
        have r_other := Rp.mono g.ff r_other
        have r_value := Rp.mono g.ff r_value
        have sb14 := sb14.trans g.ff
        have G := G.poke (u := w_) on_.n fz_ nz_ on_.pl
        have o_worths := on_
        have o_grown := o_grown.other (u := w_) (d_grown_worths)
        have hm := Option.some.inj hm
        subst hm
        exact GoS.nil ⟨_, sb14, G.fh, ⟨_, _, rfl, G, o_worths, o_grown⟩⟩
      · intro σ_ F H s1_ s2_ iv_
        obtain ⟨u_other, u_value, rfl, G, o_worths, o_grown⟩ := iv_
        have sb8 := sb8.trans s1_
        have r_loop_here := Rp.mono s1_ r_loop_here
        have r_row := Rp.mono s1_ r_row
        obtain ⟨t17, h_t17, hm⟩ := Option.bind_eq_some_iff.mp hm
        obtain ⟨x_low, he, hm⟩ := Option.bind_eq_some_iff.mp hm
        refine go_setA (Int) 8 G.sm (ev_thaw o_worths G.fh (fun F H s_ s2_ rf_ k_ => by
                have r_loop_here := Rp.mono s_ r_loop_here
                have r_row := Rp.mono s_ r_row
                have rf_worths := rf_
                exact (ev_add (ev_dget (room1 hr) (ev_var 5 rfl rf_worths) (ev_ixT (ev_ixT (ev_varK 2 rfl r_loop_here kv_values_2) ev_int pj1) ev_int pj0) h_t17) (ev_ixT (ev_ixT (ev_varK 2 rfl r_loop_here kv_values_2) ev_int pj1) ev_int pj1)))) (fun v_low F H g rn_ => ?_) sc_values.nd
        have G := G.trans g
        have r_loop_here := Rp.mono g.ff r_loop_here
        have o_grown := o_grown.up g
        have r_row := Rp.mono g.ff r_row
        have o_worths := o_worths.up g
        have sb8 := sb8.trans g.ff
        have r_low := cg (Option.some.inj he) rn_
        change GoS _ _ _ [some v_loops, some v_rows, some v_loop_here, some (.ref l_grown), some v_row, some (.ref l_worths), u_other, u_value, some v_low, u_high] _
        obtain ⟨t18, h_t18, hm⟩ := Option.bind_eq_some_iff.mp hm
        obtain ⟨x_high, he, hm⟩ := Option.bind_eq_some_iff.mp hm
        refine go_setA (Int) 9 G.sm (ev_thaw o_worths G.fh (fun F H s_ s2_ rf_ k_ => by
                have r_loop_here := Rp.mono s_ r_loop_here
                have r_row := Rp.mono s_ r_row
                have r_low := Rp.mono s_ r_low
                have rf_worths := rf_
                exact (ev_add (ev_dget (room1 hr) (ev_var 5 rfl rf_worths) (ev_ixT (ev_ixT (ev_varK 2 rfl r_loop_here kv_values_2) ev_int pj2) ev_int pj0) h_t18) (ev_ixT (ev_ixT (ev_varK 2 rfl r_loop_here kv_values_2) ev_int pj2) ev_int pj1)))) (fun v_high F H g rn_ => ?_) sc_values.nd
        have G := G.trans g
        have r_loop_here := Rp.mono g.ff r_loop_here
        have o_grown := o_grown.up g
        have r_row := Rp.mono g.ff r_row
        have o_worths := o_worths.up g
        have r_low := Rp.mono g.ff r_low
        have sb8 := sb8.trans g.ff
        have r_high := cg (Option.some.inj he) rn_
        change GoS _ _ _ [some v_loops, some v_rows, some v_loop_here, some (.ref l_grown), some v_row, some (.ref l_worths), u_other, u_value, some v_low, some v_high] _
        obtain ⟨t19, h_t19, hm⟩ := Option.bind_eq_some_iff.mp hm
        obtain ⟨b26, ho_, hm⟩ := Option.bind_eq_some_iff.mp hm
        refine go_forN G.sm (ei_range2 (ev_varK 8 rfl r_low kv_values_8) (ev_add (ev_varK 9 rfl r_high kv_values_9) ev_int) h_t19 T.n_range) (pg_name (i := 7) sc_values.nd rfl (by first | exact Or.inl rfl | exact Or.inr rfl)) ho_ (fun F H g => ?_) PassesOwn.never
        have G := G.trans g
        have o_grown := o_grown.up g
        have r_row := Rp.mono g.ff r_row
        have o_worths := o_worths.up g
        have sb8 := sb8.trans g.ff
        refine ⟨fun (b20 : (List (Tp Int))) σ_ F_ H_ => ∃ (u_value : Option V), σ_ = [some v_loops, some v_rows, some v_loop_here, some (.ref l_grown), some v_row, some (.ref l_worths), u_other, u_value, some v_low, some v_high] ∧ GrX K F0 H0 F_ H_ ∧ Own K H0 F_ H_ l_grown b20 ∧ Own K H0 F_ H_ l_worths b16, ⟨_, rfl, G, o_grown, o_worths⟩, ?_, ?_⟩
        ·
          intro b20 x_value o_ hm σ_ F H v_value s1_ s2_ iv_ F H g r_value Q_ hQ_
          obtain ⟨u_value, rfl, G, o_grown, o_worths⟩ := iv_
          have sb23 := g.ff
          have r_row := Rp.mono s1_ r_row
          have G := G.trans g
          have o_grown := o_grown.up g
          have r_row := Rp.mono g.ff r_row
          have o_worths := o_worths.up g
          refine hQ_ _ _ ?_
          change GoS _ _ _ [some v_loops, some v_rows, some v_loop_here, some (.ref l_grown), some v_row, some (.ref l_worths), u_other, some v_value, some v_low, some v_high] _
          obtain ⟨t24, h_t24, hm⟩ := Option.bind_eq_some_iff.mp hm
          obtain ⟨t25, he, hm⟩ := Option.bind_eq_some_iff.mp hm
          refine go_append 3 G.sm o_grown rfl (ev_catT (ev_varK 4 rfl r_row kv_values_4) (ev_tp (el_cons (ev_varK 7 rfl r_value kv_values_7) el_nil) (by show 1 ≤ sizeLine; decide)) h_t24) he (fun w_ F H g nz_ fz_ on_ => ?_)
          have G := G.trans g
          have r_row := Rp.mono g.ff r_row
          have o_worths := o_worths.up g
          have r_value := Rp.mono g.ff r_value
          have sb23 := sb23.trans g.ff
          have G := G.poke (u := w_) on_.n fz_ nz_ on_.pl
          have o_grown := on_
          have o_worths := o_worths.other (u := w_) (d_grown_worths.symm)
          have hm := Option.some.inj hm
          subst hm
          exact GoS.nil ⟨_, sb23, G.fh, ⟨_, rfl, G, o_grown, o_worths⟩⟩
        · intro σ_ F H s1_ s2_ iv_
          obtain ⟨u_value, rfl, G, o_grown, o_worths⟩ := iv_
          have sb8 := sb8.trans s1_
          have hm := Option.some.inj hm
          subst hm
          exact GoS.nil ⟨_, sb8, G.fh, ⟨_, _, _, _, _, _, rfl, G, o_grown⟩⟩
    · intro σ_ F H s1_ s2_ iv_
      obtain ⟨u_worths, u_other, u_value, u_low, u_high, u_row, rfl, G, o_grown⟩ := iv_
      have sb4 := sb4.trans s1_
      have r_rows := Rp.mono s1_ r_rows
      refine o_grown.freeze G (fun F H s_ s2_ G r_grown k_ => ?_)
      have r_rows := Rp.mono s_ r_rows
      have sb4 := sb4.trans s_
      obtain ⟨x_rows, he, hm⟩ := Option.bind_eq_some_iff.mp hm
      refine go_setA ((List (Tp Int))) 1 G.sm (ev_varK 3 rfl r_grown kv_values_3) (fun v_rows F H g rn_ => ?_) sc_values.nd
      have G := G.trans g
      have r_grown := Rp.mono g.ff r_grown
      have sb4 := sb4.trans g.ff
      have r_rows := cg (Option.some.inj he) rn_
      have hm := Option.some.inj hm
      subst hm
      exact GoS.nil ⟨_, sb4, G.fh, ⟨_, _, _, _, _, _, _, _, _, rfl, G, r_rows⟩⟩
  · intro σ_ F H s1_ s2_ iv_
    obtain ⟨u_grown, u_row, u_worths, u_other, u_value, u_low, u_high, u_loop_here, v_rows, rfl, G, r_rows⟩ := iv_
    change GoS _ _ _ [some v_loops, some v_rows, u_loop_here, u_grown, u_row, u_worths, u_other, u_value, u_low, u_high] _
    exact go_ret G.sm (ev_varK 1 rfl r_rows kv_values_1) fun v_ F_ H_ g_ rv_ => kr _ _ _ (G.trans g_) (cg (Option.some.inj hm) rv_)
/-! before -/
theorem sc_before : FnScope ["_law_one", "_law_other", "_law_deeds_here", "_law_low", "_law_many", "_law_k", "_law_e"] ["_law_one", "_law_other", "_law_deeds_here"] (defScope s_before) := ⟨rfl, rfl, rfl, by decide +kernel, rfl, by decide +kernel, by decide +kernel⟩
theorem b_before (T : Txt K mg) : Binds K T.d_before ["_law_one", "_law_other", "_law_deeds_here"] [] := T.F_before.bindsN fun _ _ _ _ _ _ us hl => match us, hl with | [_, _, _], _ => rfl
theorem kv_before_0 : VKn (defScope s_before) "_law_one" := ⟨by first | exact Or.inl (by decide +kernel) | exact Or.inr (Or.inl (by decide +kernel)) | exact Or.inr (Or.inr (by decide +kernel)), by decide, by decide⟩
theorem kv_before_1 : VKn (defScope s_before) "_law_other" := ⟨by first | exact Or.inl (by decide +kernel) | exact Or.inr (Or.inl (by decide +kernel)) | exact Or.inr (Or.inr (by decide +kernel)), by decide, by decide⟩
theorem kv_before_2 : VKn (defScope s_before) "_law_deeds_here" := ⟨by first | exact Or.inl (by decide +kernel) | exact Or.inr (Or.inl (by decide +kernel)) | exact Or.inr (Or.inr (by decide +kernel)), by decide, by decide⟩
theorem kv_before_3 : VKn (defScope s_before) "_law_low" := ⟨by first | exact Or.inl (by decide +kernel) | exact Or.inr (Or.inl (by decide +kernel)) | exact Or.inr (Or.inr (by decide +kernel)), by decide, by decide⟩
theorem kv_before_4 : VKn (defScope s_before) "_law_many" := ⟨by first | exact Or.inl (by decide +kernel) | exact Or.inr (Or.inl (by decide +kernel)) | exact Or.inr (Or.inr (by decide +kernel)), by decide, by decide⟩
theorem kv_before_5 : VKn (defScope s_before) "_law_k" := ⟨by first | exact Or.inl (by decide +kernel) | exact Or.inr (Or.inl (by decide +kernel)) | exact Or.inr (Or.inr (by decide +kernel)), by decide, by decide⟩
theorem kv_before_6 : VKn (defScope s_before) "_law_e" := ⟨by first | exact Or.inl (by decide +kernel) | exact Or.inr (Or.inl (by decide +kernel)) | exact Or.inr (Or.inr (by decide +kernel)), by decide, by decide⟩
theorem ok_before (T : Txt K mg) : FnOk P w K mg base CX0 1 (He.fAd K ("_law_before", none)) T.d_before ["_law_one", "_law_other", "_law_deeds_here"] (Pr K fun (a_ : (T2 Int (Tp Int)) × (T2 Int (Tp Int)) × (List (T3 (List (T5 Str (T2 Str Int) (T2 Str Int) Int Int)) (Tp Int) Int)) × Unit) => m_before a_.1 a_.2.1 a_.2.2.1) := by
  refine fn_ok T.F_before sc_before rfl fun cdv A outer s_ F0 H0 vs a_ r D_ E_ hr sm_ ra_ hm kr kn => ?_
  obtain ⟨v_one, _, rfl, r_one, v_other, _, rfl, r_other, v_deeds_here, _, rfl, r_deeds_here, rfl⟩ := ra_
  obtain ⟨x_one, x_other, x_deeds_here, _u⟩ := a_
  have G : GrX K F0 H0 F0 H0 := .refl sm_
  replace hm : m_before x_one x_other x_deeds_here = some r := hm
  unfold m_before at hm
  have r_one : rp (α := (T2 Int (Tp Int))) K F0 v_one x_one := r_one
  have r_other : rp (α := (T2 Int (Tp Int))) K F0 v_other x_other := r_other
  have r_deeds_here : rp (α := (List (T3 (List (T5 Str (T2 Str Int) (T2 Str Int) Int Int)) (Tp Int) Int))) K F0 v_deeds_here x_deeds_here := r_deeds_here
  change GoS _ _ _ [some v_one, some v_other, some v_deeds_here, none, none, none, none] _
  obtain ⟨x_low, he, hm⟩ := Option.bind_eq_some_iff.mp hm
  refine go_setA (Int) 3 G.sm (ev_callB (call_min2 rfl) oc_min2 T.n_min (by decide +kernel) (ea_cons (ev_ixT (ev_varK 0 rfl r_one kv_before_0) ev_int pj0) (ea_cons (ev_ixT (ev_varK 1 rfl r_other kv_before_1) ev_int pj0) ea_nil))) (fun v_low F H g rn_ => ?_) sc_before.nd
  have G := G.trans g
  have r_one := Rp.mono g.ff r_one
  have r_other := Rp.mono g.ff r_other
  have r_deeds_here := Rp.mono g.ff r_deeds_here
  have r_low := cg (Option.some.inj he) rn_
  change GoS _ _ _ [some v_one, some v_other, some v_deeds_here, some v_low, none, none, none] _
  obtain ⟨t1, h_t1, hm⟩ := Option.bind_eq_some_iff.mp hm
  obtain ⟨x_many, he, hm⟩ := Option.bind_eq_some_iff.mp hm
  refine go_setA (Int) 4 G.sm (ev_callB call_len_seq oc_lenL T.n_len PySem.boot_len (ea_cons (ev_ixT (ev_ixL (ev_varK 2 rfl r_deeds_here kv_before_2) (ev_varK 3 rfl r_low kv_before_3) h_t1) ev_int pj0) ea_nil)) (fun v_many F H g rn_ => ?_) sc_before.nd
  have G := G.trans g
  have r_one := Rp.mono g.ff r_one
  have r_other := Rp.mono g.ff r_other
  have r_deeds_here := Rp.mono g.ff r_deeds_here
  have r_low := Rp.mono g.ff r_low
  have r_many := cg (Option.some.inj he) rn_
  change GoS _ _ _ [some v_one, some v_other, some v_deeds_here, some v_low, some v_many, none, none] _
  obtain ⟨t2, h_t2, hm⟩ := Option.bind_eq_some_iff.mp hm
  obtain ⟨b8, ho_, hm⟩ := Option.bind_eq_some_iff.mp hm
  refine go_forN G.sm (ei_range2 (ev_add (ev_varK 3 rfl r_low kv_before_3) ev_int) (ev_add (ev_callB (call_max2 rfl) oc_max2 T.n_max (by decide +kernel) (ea_cons (ev_ixT (ev_varK 0 rfl r_one kv_before_0) ev_int pj0) (ea_cons (ev_ixT (ev_varK 1 rfl r_other kv_before_1) ev_int pj0) ea_nil))) ev_int) h_t2 T.n_range) (pg_name (i := 5) sc_before.nd rfl (by first | exact Or.inl rfl | exact Or.inr rfl)) ho_ (fun F H g => ?_) PassesOwn.never
  have G := G.trans g
  have r_one := Rp.mono g.ff r_one
  have r_other := Rp.mono g.ff r_other
  have r_deeds_here := Rp.mono g.ff r_deeds_here
  have r_many := Rp.mono g.ff r_many
  refine ⟨fun (b3 : Int) σ_ F_ H_ => ∃ (u_k : Option V) (v_many : V), σ_ = [some v_one, some v_other, some v_deeds_here, some v_low, some v_many, u_k, none] ∧ GrX K F0 H0 F_ H_ ∧ rp (α := Int) K F_ v_many b3, ⟨_, _, rfl, G, r_many⟩, ?_, ?_⟩
  ·
    intro b3 x_k o_ hm σ_ F H v_k s1_ s2_ iv_ F H g r_k Q_ hQ_
    obtain ⟨u_k, v_many, rfl, G, r_many⟩ := iv_
    have sb6 := g.ff
    have r_deeds_here := Rp.mono s1_ r_deeds_here
    have G := G.trans g
    have r_deeds_here := Rp.mono g.ff r_deeds_here
    have r_many := Rp.mono g.ff r_many
    refine hQ_ _ _ ?_
    change GoS _ _ _ [some v_one, some v_other, some v_deeds_here, some v_low, some v_many, some v_k, none] _
    obtain ⟨t7, h_t7, hm⟩ := Option.bind_eq_some_iff.mp hm
    obtain ⟨x_many, he, hm⟩ := Option.bind_eq_some_iff.mp hm
    refine go_setA (Int) 4 G.sm (ev_callB (call_min2 rfl) oc_min2 T.n_min (by decide +kernel) (ea_cons (ev_varK 4 rfl r_many kv_before_4) (ea_cons (ev_ixT (ev_ixL (ev_varK 2 rfl r_deeds_here kv_before_2) (ev_varK 5 rfl r_k kv_before_5) h_t7) ev_int pj2) ea_nil))) (fun v_many F H g rn_ => ?_) sc_before.nd
    have G := G.trans g
    have r_deeds_here := Rp.mono g.ff r_deeds_here
    have r_k := Rp.mono g.ff r_k
    have sb6 := sb6.trans g.ff
    have r_many := cg (Option.some.inj he) rn_
    have hm := Option.some.inj hm
    subst hm
    exact GoS.nil ⟨_, sb6, G.fh, ⟨_, _, rfl, G, r_many⟩⟩
  · intro σ_ F H s1_ s2_ iv_
    obtain ⟨u_k, v_many, rfl, G, r_many⟩ := iv_
    have r_one := Rp.mono s1_ r_one
    have r_other := Rp.mono s1_ r_other
    change GoS _ _ _ [some v_one, some v_other, some v_deeds_here, some v_low, some v_many, u_k, none] _
    obtain ⟨t9, h_t9, hm⟩ := Option.bind_eq_some_iff.mp hm
    obtain ⟨o12, ho_, hm⟩ := Option.bind_eq_some_iff.mp hm
    refine go_forM G.sm (ei_range1 (ev_varK 4 rfl r_many kv_before_4) h_t9 T.n_range) (pg_name (i := 6) sc_before.nd rfl (by first | exact Or.inl rfl | exact Or.inr rfl)) ho_ hm (fun F H g => ?_) PassesOwn.never
    have G := G.trans g
    have r_one := Rp.mono g.ff r_one
    have r_other := Rp.mono g.ff r_other
    refine ⟨fun (b10 : Unit) σ_ F_ H_ => ∃ (u_e : Option V), σ_ = [some v_one, some v_other, some v_deeds_here, some v_low, some v_many, u_k, u_e] ∧ GrX K F0 H0 F_ H_, fun r_ v_ H_ => ∃ F_, GrX K F0 H0 F_ H_ ∧ rp K F_ v_ r_, ⟨_, rfl, G⟩, ?_, ?_, ?_⟩
    ·
      intro b10 x_e o_ hm σ_ F H v_e s1_ s2_ iv_ F H g r_e Q_ hQ_
      obtain ⟨u_e, rfl, G⟩ := iv_
      have sb13 := g.ff
      have r_one := Rp.mono s1_ r_one
      have r_other := Rp.mono s1_ r_other
      have G := G.trans g
      have r_one := Rp.mono g.ff r_one
      have r_other := Rp.mono g.ff r_other
      refine hQ_ _ _ ?_
      change GoS _ _ _ [some v_one, some v_other, some v_deeds_here, some v_low, some v_many, u_k, some v_e] _
      obtain ⟨t14, h_t14, hm⟩ := Option.bind_eq_some_iff.mp hm
      obtain ⟨t15, h_t15, hm⟩ := Option.bind_eq_some_iff.mp hm
      refine go_ifA ((!decide (t14 = t15))) G.sm (et_cmp op_ne o2_ne (ev_ixTp (ev_ixT (ev_varK 0 rfl r_one kv_before_0) ev_int pj1) (ev_varK 6 rfl r_e kv_before_6) h_t14) (ev_ixTp (ev_ixT (ev_varK 1 rfl r_other kv_before_1) ev_int pj1) (ev_varK 6 rfl r_e kv_before_6) h_t15) (nomark _)) (fun hc F H g => ?_) (fun hc F H g => ?_)
      · replace hm := ipos hc hm
        have G := G.trans g
        have r_one := Rp.mono g.ff r_one
        have r_other := Rp.mono g.ff r_other
        have r_e := Rp.mono g.ff r_e
        have sb13 := sb13.trans g.ff
        obtain ⟨t16, h_t16, hm⟩ := Option.bind_eq_some_iff.mp hm
        obtain ⟨t17, h_t17, hm⟩ := Option.bind_eq_some_iff.mp hm
        exact go_ret G.sm (ev_cmp op_lt o2_lt (ev_ixTp (ev_ixT (ev_varK 0 rfl r_one kv_before_0) ev_int pj1) (ev_varK 6 rfl r_e kv_before_6) h_t16) (ev_ixTp (ev_ixT (ev_varK 1 rfl r_other kv_before_1) ev_int pj1) (ev_varK 6 rfl r_e kv_before_6) h_t17) (nomark _)) fun v_ F_ H_ g_ rv_ => ⟨_, (Option.some.inj hm).symm, F_, G.trans g_, rv_⟩
      · replace hm := ineg (nt hc) hm
        have G := G.trans g
        have r_one := Rp.mono g.ff r_one
        have r_other := Rp.mono g.ff r_other
        have r_e := Rp.mono g.ff r_e
        have sb13 := sb13.trans g.ff
        refine GoS.nil ?_
        exact GoS.nil ⟨_, _, (Option.some.inj hm).symm, sb13, G.fh, ⟨_, rfl, G⟩⟩
    · intro b18 hm σ_ F H s1_ s2_ iv_
      obtain ⟨u_e, rfl, G⟩ := iv_
      have r_one := Rp.mono s1_ r_one
      have r_other := Rp.mono s1_ r_other
      change GoS _ _ _ [some v_one, some v_other, some v_deeds_here, some v_low, some v_many, u_k, u_e] _
      exact go_ret G.sm (ev_cmp op_lt o2_lt (ev_ixT (ev_varK 0 rfl r_one kv_before_0) ev_int pj0) (ev_ixT (ev_varK 1 rfl r_other kv_before_1) ev_int pj0) (nomark _)) fun v_ F_ H_ g_ rv_ => kr _ _ _ (G.trans g_) (cg (Option.some.inj hm) rv_)
    · intro r_ he v_ H_ hv_
      obtain ⟨F_, g_, rv_⟩ := hv_
      exact kr _ _ _ g_ (cg (Option.some.inj he) rv_)
/-! ahead -/
theorem sc_ahead : FnScope ["program", "one", "other", "k"] ["program", "one", "other"] (defScope s_ahead) := ⟨rfl, rfl, rfl, by decide +kernel, rfl, by decide +kernel, by decide +kernel⟩
theorem b_ahead (T : Txt K mg) : Binds K T.d_ahead ["program", "one", "other"] [] := T.F_ahead.bindsN fun _ _ _ _ _ _ us hl => match us, hl with | [_, _, _], _ => rfl
theorem kv_ahead_0 : VKn (defScope s_ahead) "program" := ⟨by first | exact Or.inl (by decide +kernel) | exact Or.inr (Or.inl (by decide +kernel)) | exact Or.inr (Or.inr (by decide +kernel)), by decide, by decide⟩
theorem kv_ahead_1 : VKn (defScope s_ahead) "one" := ⟨by first | exact Or.inl (by decide +kernel) | exact Or.inr (Or.inl (by decide +kernel)) | exact Or.inr (Or.inr (by decide +kernel)), by decide, by decide⟩
theorem kv_ahead_2 : VKn (defScope s_ahead) "other" := ⟨by first | exact Or.inl (by decide +kernel) | exact Or.inr (Or.inl (by decide +kernel)) | exact Or.inr (Or.inr (by decide +kernel)), by decide, by decide⟩
theorem kv_ahead_3 : VKn (defScope s_ahead) "k" := ⟨by first | exact Or.inl (by decide +kernel) | exact Or.inr (Or.inl (by decide +kernel)) | exact Or.inr (Or.inr (by decide +kernel)), by decide, by decide⟩
theorem gl_ahead_shared : (defScope s_ahead).names.lookup ("shared" : Str) = some NameKind.globalImplicit := by decide +kernel
theorem ok_ahead (T : Txt K mg) : FnOk P w K mg base CX0 2 (He.fAd K ("ahead", none)) T.d_ahead ["program", "one", "other"] (Pr K fun (a_ : QProgram × (T2 Int (Tp Int)) × (T2 Int (Tp Int)) × Unit) => m_ahead a_.1 a_.2.1 a_.2.2.1) := by
  refine fn_ok T.F_ahead sc_ahead rfl fun cdv A outer s_ F0 H0 vs a_ r D_ E_ hr sm_ ra_ hm kr kn => ?_
  obtain ⟨v_program, _, rfl, r_program, v_one, _, rfl, r_one, v_other, _, rfl, r_other, rfl⟩ := ra_
  obtain ⟨x_program, x_one, x_other, _u⟩ := a_
  have G : GrX K F0 H0 F0 H0 := .refl sm_
  replace hm : m_ahead x_program x_one x_other = some r := hm
  unfold m_ahead at hm
  have r_program : rp (α := QProgram) K F0 v_program x_program := r_program
  have r_one : rp (α := (T2 Int (Tp Int))) K F0 v_one x_one := r_one
  have r_other : rp (α := (T2 Int (Tp Int))) K F0 v_other x_other := r_other
  change GoS _ _ _ [some v_program, some v_one, some v_other, none] _
  obtain ⟨t1, h_t1, hm⟩ := Option.bind_eq_some_iff.mp hm
  obtain ⟨t2, h_t2, hm⟩ := Option.bind_eq_some_iff.mp hm
  obtain ⟨t3, h_t3, hm⟩ := Option.bind_eq_some_iff.mp hm
  obtain ⟨t4, h_t4, hm⟩ := Option.bind_eq_some_iff.mp hm
  obtain ⟨o7, ho_, hm⟩ := Option.bind_eq_some_iff.mp hm
  refine go_forM G.sm (ei_range1 (ev_call (ok_shared T) (hr.mono (by omega)) T.g_shared T.F_shared.kp (b_shared T) (ea_cons (ev_ixL (ev_attr T.f_Program_deeds (ev_varK 0 rfl r_program kv_ahead_0)) (ev_ixT (ev_varK 1 rfl r_one kv_ahead_1) ev_int pj0) h_t1) (ea_cons (ev_ixL (ev_attr T.f_Program_deeds (ev_varK 0 rfl r_program kv_ahead_0)) (ev_ixT (ev_varK 2 rfl r_other kv_ahead_2) ev_int pj0) h_t2) ea_nil)) h_t3 gl_ahead_shared) h_t4 T.n_range) (pg_name (i := 3) sc_ahead.nd rfl (by first | exact Or.inl rfl | exact Or.inr rfl)) ho_ hm (fun F H g => ?_) PassesOwn.never
  have G := G.trans g
  have r_one := Rp.mono g.ff r_one
  have r_other := Rp.mono g.ff r_other
  refine ⟨fun (b5 : Unit) σ_ F_ H_ => ∃ (u_k : Option V), σ_ = [some v_program, some v_one, some v_other, u_k] ∧ GrX K F0 H0 F_ H_, fun r_ v_ H_ => ∃ F_, GrX K F0 H0 F_ H_ ∧ rp K F_ v_ r_, ⟨_, rfl, G⟩, ?_, ?_, ?_⟩
  ·
    intro b5 x_k o_ hm σ_ F H v_k s1_ s2_ iv_ F H g r_k Q_ hQ_
    obtain ⟨u_k, rfl, G⟩ := iv_
    have sb8 := g.ff
    have r_one := Rp.mono s1_ r_one
    have r_other := Rp.mono s1_ r_other
    have G := G.trans g
    have r_one := Rp.mono g.ff r_one
    have r_other := Rp.mono g.ff r_other
    refine hQ_ _ _ ?_
    change GoS _ _ _ [some v_program, some v_one, some v_other, some v_k] _
    obtain ⟨t9, h_t9, hm⟩ := Option.bind_eq_some_iff.mp hm
    obtain ⟨t10, h_t10, hm⟩ := Option.bind_eq_some_iff.mp hm
    refine go_ifA ((!decide (t9 = t10))) G.sm (et_cmp op_ne o2_ne (ev_ixTp (ev_ixT (ev_varK 1 rfl r_one kv_ahead_1) ev_int pj1) (ev_varK 3 rfl r_k kv_ahead_3) h_t9) (ev_ixTp (ev_ixT (ev_varK 2 rfl r_other kv_ahead_2) ev_int pj1) (ev_varK 3 rfl r_k kv_ahead_3) h_t10) (nomark _)) (fun hc F H g => ?_) (fun hc F H g => ?_)
    · replace hm := ipos hc hm
      have G := G.trans g
      have r_one := Rp.mono g.ff r_one
      have r_other := Rp.mono g.ff r_other
      have r_k := Rp.mono g.ff r_k
      have sb8 := sb8.trans g.ff
      obtain ⟨t11, h_t11, hm⟩ := Option.bind_eq_some_iff.mp hm
      obtain ⟨t12, h_t12, hm⟩ := Option.bind_eq_some_iff.mp hm
      exact go_ret G.sm (ev_cmp op_lt o2_lt (ev_ixTp (ev_ixT (ev_varK 1 rfl r_one kv_ahead_1) ev_int pj1) (ev_varK 3 rfl r_k kv_ahead_3) h_t11) (ev_ixTp (ev_ixT (ev_varK 2 rfl r_other kv_ahead_2) ev_int pj1) (ev_varK 3 rfl r_k kv_ahead_3) h_t12) (nomark _)) fun v_ F_ H_ g_ rv_ => ⟨_, (Option.some.inj hm).symm, F_, G.trans g_, rv_⟩
    · replace hm := ineg (nt hc) hm
      have G := G.trans g
      have r_one := Rp.mono g.ff r_one
      have r_other := Rp.mono g.ff r_other
      have r_k := Rp.mono g.ff r_k
      have sb8 := sb8.trans g.ff
      refine GoS.nil ?_
      exact GoS.nil ⟨_, _, (Option.some.inj hm).symm, sb8, G.fh, ⟨_, rfl, G⟩⟩
  · intro b13 hm σ_ F H s1_ s2_ iv_
    obtain ⟨u_k, rfl, G⟩ := iv_
    have r_one := Rp.mono s1_ r_one
    have r_other := Rp.mono s1_ r_other
    change GoS _ _ _ [some v_program, some v_one, some v_other, u_k] _
    exact go_ret G.sm (ev_cmp op_lt o2_lt (ev_ixT (ev_varK 1 rfl r_one kv_ahead_1) ev_int pj0) (ev_ixT (ev_varK 2 rfl r_other kv_ahead_2) ev_int pj0) (nomark _)) fun v_ F_ H_ g_ rv_ => kr _ _ _ (G.trans g_) (cg (Option.some.inj hm) rv_)
  · intro r_ he v_ H_ hv_
    obtain ⟨F_, g_, rv_⟩ := hv_
    exact kr _ _ _ g_ (cg (Option.some.inj he) rv_)
/-! stand_within -/
theorem sc_stand_within : FnScope ["items", "k", "path", "at", "item", "here", "found"] ["items", "k", "path"] (defScope s_stand_within) := ⟨rfl, rfl, rfl, by decide +kernel, rfl, by decide +kernel, by decide +kernel⟩
theorem b_stand_within (T : Txt K mg) : Binds K T.d_stand_within ["items", "k", "path"] [] := T.F_stand_within.bindsN fun _ _ _ _ _ _ us hl => match us, hl with | [_, _, _], _ => rfl
theorem kv_stand_within_0 : VKn (defScope s_stand_within) "items" := ⟨by first | exact Or.inl (by decide +kernel) | exact Or.inr (Or.inl (by decide +kernel)) | exact Or.inr (Or.inr (by decide +kernel)), by decide, by decide⟩
theorem kv_stand_within_1 : VKn (defScope s_stand_within) "k" := ⟨by first | exact Or.inl (by decide +kernel) | exact Or.inr (Or.inl (by decide +kernel)) | exact Or.inr (Or.inr (by decide +kernel)), by decide, by decide⟩
theorem kv_stand_within_2 : VKn (defScope s_stand_within) "path" := ⟨by first | exact Or.inl (by decide +kernel) | exact Or.inr (Or.inl (by decide +kernel)) | exact Or.inr (Or.inr (by decide +kernel)), by decide, by decide⟩
theorem kv_stand_within_3 : VKn (defScope s_stand_within) "at" := ⟨by first | exact Or.inl (by decide +kernel) | exact Or.inr (Or.inl (by decide +kernel)) | exact Or.inr (Or.inr (by decide +kernel)), by decide, by decide⟩
theorem kv_stand_within_4 : VKn (defScope s_stand_within) "item" := ⟨by first | exact Or.inl (by decide +kernel) | exact Or.inr (Or.inl (by decide +kernel)) | exact Or.inr (Or.inr (by decide +kernel)), by decide, by decide⟩
theorem kv_stand_within_5 : VKn (defScope s_stand_within) "here" := ⟨by first | exact Or.inl (by decide +kernel) | exact Or.inr (Or.inl (by decide +kernel)) | exact Or.inr (Or.inr (by decide +kernel)), by decide, by decide⟩
theorem kv_stand_within_6 : VKn (defScope s_stand_within) "found" := ⟨by first | exact Or.inl (by decide +kernel) | exact Or.inr (Or.inl (by decide +kernel)) | exact Or.inr (Or.inr (by decide +kernel)), by decide, by decide⟩
theorem gl_stand_within_stand_within : (defScope s_stand_within).names.lookup ("stand_within" : Str) = some NameKind.globalImplicit := by decide +kernel
theorem ok_stand_within (T : Txt K mg) : ∀ n_ : Nat, FnOk P w K mg base CX0 (0 + n_ + 1) (He.fAd K ("stand_within", none)) T.d_stand_within ["items", "k", "path"] (Pr K fun (a_ : (Tp UItem) × Int × (Tp Int) × Unit) => m_stand_within n_ a_.1 a_.2.1 a_.2.2.1)
  | 0 => by
    refine fn_ok T.F_stand_within sc_stand_within rfl fun cdv A outer s_ F0 H0 vs a_ r D_ E_ hr sm_ ra_ hm kr kn => ?_
    exact nomatch (show none = some r from hm)
  | n_ + 1 => by
    have ih_ := ok_stand_within T n_
    refine fn_ok T.F_stand_within sc_stand_within rfl fun cdv A outer s_ F0 H0 vs a_ r D_ E_ hr sm_ ra_ hm kr kn => ?_
    obtain ⟨v_items, _, rfl, r_items, v_k, _, rfl, r_k, v_path, _, rfl, r_path, rfl⟩ := ra_
    obtain ⟨x_items, x_k, x_path, _u⟩ := a_
    have G : GrX K F0 H0 F0 H0 := .refl sm_
    replace hm : m_stand_within (n_ + 1) x_items x_k x_path = some r := hm
    rw [m_stand_within] at hm
    have r_items : rp (α := (Tp UItem)) K F0 v_items x_items := r_items
    have r_k : rp (α := Int) K F0 v_k x_k := r_k
    have r_path : rp (α := (Tp Int)) K F0 v_path x_path := r_path
    change GoS _ _ _ [some v_items, some v_k, some v_path, none, none, none, none] _
    obtain ⟨o3, ho_, hm⟩ := Option.bind_eq_some_iff.mp hm
    refine go_forM G.sm (ei_enumT (ev_varK 0 rfl r_items kv_stand_within_0) T.n_enumerate) (pg_tup rfl (pgs_cons (pg_name (i := 3) sc_stand_within.nd rfl (by first | exact Or.inl rfl | exact Or.inr rfl)) (pgs_cons (pg_name (i := 4) sc_stand_within.nd rfl (by first | exact Or.inl rfl | exact Or.inr rfl)) pgs_nil))) ho_ hm (fun F H g => ?_) PassesOwn.never
    have G := G.trans g
    have r_k := Rp.mono g.ff r_k
    have r_path := Rp.mono g.ff r_path
    refine ⟨fun (b1 : Unit) σ_ F_ H_ => ∃ (u_here : Option V) (u_found : Option V) (u_at : Option V) (u_item : Option V), σ_ = [some v_items, some v_k, some v_path, u_at, u_item, u_here, u_found] ∧ GrX K F0 H0 F_ H_, fun r_ v_ H_ => ∃ F_, GrX K F0 H0 F_ H_ ∧ rp K F_ v_ r_, ⟨_, _, _, _, rfl, G⟩, ?_, ?_, ?_⟩
    ·
      intro b1 i2 o_ hm σ_ F H w_ s1_ s2_ iv_ F H g ri_ Q_ hQ_
      obtain ⟨u_here, u_found, u_at, u_item, rfl, G⟩ := iv_
      have sb6 := g.ff
      have r_k := Rp.mono s1_ r_k
      have r_path := Rp.mono s1_ r_path
      have G := G.trans g
      have r_k := Rp.mono g.ff r_k
      have r_path := Rp.mono g.ff r_path
      obtain ⟨pa4, _, rfl, sq5, v_at, _, rfl, r_at, v_item, _, rfl, r_item, rfl⟩ := ri_
      refine ⟨pa4, _, rfl, seqT_mono g.fh sq5, rfl, _, _, rfl, _, _, rfl, rfl, hQ_ _ _ ?_⟩
      change GoS _ _ _ [some v_items, some v_k, some v_path, some v_at, some v_item, u_here, u_found] _
      obtain ⟨t7, h_t7, hm⟩ := Option.bind_eq_some_iff.mp hm
      obtain ⟨x_here, he, hm⟩ := Option.bind_eq_some_iff.mp hm
      refine go_setA ((Tp Int)) 5 G.sm (ev_catT (ev_varK 2 rfl r_path kv_stand_within_2) (ev_tp (el_cons (ev_varK 3 rfl r_at kv_stand_within_3) el_nil) (by show 1 ≤ sizeLine; decide)) h_t7) (fun v_here F H g rn_ => ?_) sc_stand_within.nd
      have G := G.trans g
      have r_k := Rp.mono g.ff r_k
      have r_path := Rp.mono g.ff r_path
      have r_at := Rp.mono g.ff r_at
      have r_item := Rp.mono g.ff r_item
      have sb6 := sb6.trans g.ff
      have r_here := cg (Option.some.inj he) rn_
      change GoS _ _ _ [some v_items, some v_k, some v_path, some v_at, some v_item, some v_here, u_found] _
      refine go_ifA ((decide (i2.b.tag = ("sweep" : Str)))) G.sm (et_cmp op_eq o2_eq (UItem.ev_tag (ev_varK 4 rfl r_item kv_stand_within_4)) ev_str (nomark _)) (fun hc F H g => ?_) (fun hc F H g => ?_)
      · replace hm := ipos hc hm
        have G := G.trans g
        have r_k := Rp.mono g.ff r_k
        have r_item := Rp.mono g.ff r_item
        have r_here := Rp.mono g.ff r_here
        have sb6 := sb6.trans g.ff
        obtain ⟨t8, h_t8, hm⟩ := Option.bind_eq_some_iff.mp hm
        obtain ⟨t9, h_t9, hm⟩ := Option.bind_eq_some_iff.mp hm
        obtain ⟨x_found, he, hm⟩ := Option.bind_eq_some_iff.mp hm
        refine go_setA ((Option (T2 (Tp Int) (Tp (T2 Int Int))))) 6 G.sm (ev_call ih_ (hr.mono (by omega)) T.g_stand_within T.F_stand_within.kp (b_stand_within T) (ea_cons (ev_ixT (UItem.evv_sweep (ev_varK 4 rfl r_item kv_stand_within_4) h_t8) ev_int pj3) (ea_cons (ev_varK 1 rfl r_k kv_stand_within_1) (ea_cons (ev_varK 5 rfl r_here kv_stand_within_5) ea_nil))) h_t9 gl_stand_within_stand_within) (fun v_found F H g rn_ => ?_) sc_stand_within.nd
        have G := G.trans g
        have r_k := Rp.mono g.ff r_k
        have r_item := Rp.mono g.ff r_item
        have r_here := Rp.mono g.ff r_here
        have sb6 := sb6.trans g.ff
        have r_found := cg (Option.some.inj he) rn_
        change GoS _ _ _ [some v_items, some v_k, some v_path, some v_at, some v_item, some v_here, some v_found] _
        obtain ⟨z_, hz_⟩ : ∃ z_, z_ = x_found := ⟨_, rfl⟩
        change rp (α := (Option (T2 (Tp Int) (Tp (T2 Int Int))))) _ _ _ (x_found) at r_found
        rw [← hz_] at hm r_found
        clear hz_
        cases z_ with
        | none =>
          refine go_if G.sm (et_notNone (ev_varK 6 rfl r_found kv_stand_within_6)) (fun hc F H g => ?_) (fun hc F H g => ?_)
          · exact absurd hc (by first | exact Bool.false_ne_true | exact (fun h => nomatch h))
          ·
            have G := G.trans g
            have r_found := Rp.mono g.ff r_found
            have sb6 := sb6.trans g.ff
            refine GoS.nil ?_
            refine GoS.nil ?_
            exact GoS.nil ⟨_, _, (Option.some.inj hm).symm, sb6, G.fh, ⟨_, _, _, _, rfl, G⟩⟩
        | some x_found =>
          refine go_if G.sm (et_notNone (ev_varK 6 rfl r_found kv_stand_within_6)) (fun hc F H g => ?_) (fun hc F H g => ?_)
          ·
            have G := G.trans g
            have r_found := Rp.mono g.ff r_found
            have sb6 := sb6.trans g.ff
            have r_found := rp_of_some r_found
            exact go_ret G.sm (Ev.some (ev_varK 6 rfl r_found kv_stand_within_6)) fun v_ F_ H_ g_ rv_ => ⟨_, (Option.some.inj hm).symm, F_, G.trans g_, rv_⟩
          · exact absurd hc (by first | exact Bool.false_ne_true | exact (fun h => nomatch h))
      · replace hm := ineg (nt hc) hm
        have G := G.trans g
        have r_k := Rp.mono g.ff r_k
        have r_item := Rp.mono g.ff r_item
        have r_here := Rp.mono g.ff r_here
        have sb6 := sb6.trans g.ff
        obtain ⟨t10, h_t10, hm⟩ := Option.bind_eq_some_iff.mp hm
        refine go_ifA ((decide (t10.b = x_k))) G.sm (et_cmp op_eq o2_eq (ev_ixT (UItem.evv_deed (ev_varK 4 rfl r_item kv_stand_within_4) h_t10) ev_int pj1) (ev_varK 1 rfl r_k kv_stand_within_1) (nomark _)) (fun hc F H g => ?_) (fun hc F H g => ?_)
        · replace hm := ipos hc hm
          have G := G.trans g
          have r_k := Rp.mono g.ff r_k
          have r_item := Rp.mono g.ff r_item
          have r_here := Rp.mono g.ff r_here
          have sb6 := sb6.trans g.ff
          obtain ⟨t11, h_t11, hm⟩ := Option.bind_eq_some_iff.mp hm
          exact go_ret G.sm (Ev.some (ev_tup2 (ea_cons (ev_varK 5 rfl r_here kv_stand_within_5) (ea_cons (ev_ixT (UItem.evv_deed (ev_varK 4 rfl r_item kv_stand_within_4) h_t11) ev_int pj2) ea_nil)))) fun v_ F_ H_ g_ rv_ => ⟨_, (Option.some.inj hm).symm, F_, G.trans g_, rv_⟩
        · replace hm := ineg (nt hc) hm
          have G := G.trans g
          have r_k := Rp.mono g.ff r_k
          have r_item := Rp.mono g.ff r_item
          have r_here := Rp.mono g.ff r_here
          have sb6 := sb6.trans g.ff
          refine GoS.nil ?_
          refine GoS.nil ?_
          exact GoS.nil ⟨_, _, (Option.some.inj hm).symm, sb6, G.fh, ⟨_, _, _, _, rfl, G⟩⟩
    · intro b12 hm σ_ F H s1_ s2_ iv_
      obtain ⟨u_here, u_found, u_at, u_item, rfl, G⟩ := iv_
      change GoS _ _ _ [some v_items, some v_k, some v_path, u_at, u_item, u_here, u_found] _
      exact go_ret G.sm ev_none fun v_ F_ H_ g_ rv_ => kr _ _ _ (G.trans g_) (cg (Option.some.inj hm) rv_)
    · intro r_ he v_ H_ hv_
      obtain ⟨F_, g_, rv_⟩ := hv_
      exact kr _ _ _ g_ (cg (Option.some.inj he) rv_)
/-! stand -/
theorem sc_stand : FnScope ["plan", "k"] ["plan", "k"] (defScope s_stand) := ⟨rfl, rfl, rfl, by decide +kernel, rfl, by decide +kernel, by decide +kernel⟩
theorem b_stand (T : Txt K mg) : Binds K T.d_stand ["plan", "k"] [] := T.F_stand.bindsN fun _ _ _ _ _ _ us hl => match us, hl with | [_, _], _ => rfl
theorem kv_stand_0 : VKn (defScope s_stand) "plan" := ⟨by first | exact Or.inl (by decide +kernel) | exact Or.inr (Or.inl (by decide +kernel)) | exact Or.inr (Or.inr (by decide +kernel)), by decide, by decide⟩
theorem kv_stand_1 : VKn (defScope s_stand) "k" := ⟨by first | exact Or.inl (by decide +kernel) | exact Or.inr (Or.inl (by decide +kernel)) | exact Or.inr (Or.inr (by decide +kernel)), by decide, by decide⟩
theorem gl_stand_stand_within : (defScope s_stand).names.lookup ("stand_within" : Str) = some NameKind.globalImplicit := by decide +kernel
theorem ok_stand (T : Txt K mg) : FnOk P w K mg base CX0 12 (He.fAd K ("stand", none)) T.d_stand ["plan", "k"] (Pr K fun (a_ : (Tp UItem) × Int × Unit) => m_stand a_.1 a_.2.1) := by
  refine fn_ok T.F_stand sc_stand rfl fun cdv A outer s_ F0 H0 vs a_ r D_ E_ hr sm_ ra_ hm kr kn => ?_
  obtain ⟨v_plan, _, rfl, r_plan, v_k, _, rfl, r_k, rfl⟩ := ra_
  obtain ⟨x_plan, x_k, _u⟩ := a_
  have G : GrX K F0 H0 F0 H0 := .refl sm_
  replace hm : m_stand x_plan x_k = some r := hm
  unfold m_stand at hm
  have r_plan : rp (α := (Tp UItem)) K F0 v_plan x_plan := r_plan
  have r_k : rp (α := Int) K F0 v_k x_k := r_k
  change GoS _ _ _ [some v_plan, some v_k] _
  obtain ⟨t1, h_t1, hm⟩ := Option.bind_eq_some_iff.mp hm
  exact go_ret G.sm (ev_call (ok_stand_within T 10) (hr.mono (by omega)) T.g_stand_within T.F_stand_within.kp (b_stand_within T) (ea_cons (ev_varK 0 rfl r_plan kv_stand_0) (ea_cons (ev_varK 1 rfl r_k kv_stand_1) (ea_cons (ev_tp el_nil (by show 0 ≤ sizeLine; decide)) ea_nil))) h_t1 gl_stand_stand_within) fun v_ F_ H_ g_ rv_ => kr _ _ _ (G.trans g_) (cg (Option.some.inj hm) rv_)
/-! sweeps_within -/
theorem sc_sweeps_within : FnScope ["items", "path", "found", "at", "item", "here"] ["items", "path"] (defScope s_sweeps_within) := ⟨rfl, rfl, rfl, by decide +kernel, rfl, by decide +kernel, by decide +kernel⟩
theorem b_sweeps_within (T : Txt K mg) : Binds K T.d_sweeps_within ["items", "path"] [] := T.F_sweeps_within.bindsN fun _ _ _ _ _ _ us hl => match us, hl with | [_, _], _ => rfl
theorem kv_sweeps_within_0 : VKn (defScope s_sweeps_within) "items" := ⟨by first | exact Or.inl (by decide +kernel) | exact Or.inr (Or.inl (by decide +kernel)) | exact Or.inr (Or.inr (by decide +kernel)), by decide, by decide⟩
theorem kv_sweeps_within_1 : VKn (defScope s_sweeps_within) "path" := ⟨by first | exact Or.inl (by decide +kernel) | exact Or.inr (Or.inl (by decide +kernel)) | exact Or.inr (Or.inr (by decide +kernel)), by decide, by decide⟩
theorem kv_sweeps_within_2 : VKn (defScope s_sweeps_within) "found" := ⟨by first | exact Or.inl (by decide +kernel) | exact Or.inr (Or.inl (by decide +kernel)) | exact Or.inr (Or.inr (by decide +kernel)), by decide, by decide⟩
theorem kv_sweeps_within_3 : VKn (defScope s_sweeps_within) "at" := ⟨by first | exact Or.inl (by decide +kernel) | exact Or.inr (Or.inl (by decide +kernel)) | exact Or.inr (Or.inr (by decide +kernel)), by decide, by decide⟩
theorem kv_sweeps_within_4 : VKn (defScope s_sweeps_within) "item" := ⟨by first | exact Or.inl (by decide +kernel) | exact Or.inr (Or.inl (by decide +kernel)) | exact Or.inr (Or.inr (by decide +kernel)), by decide, by decide⟩
theorem kv_sweeps_within_5 : VKn (defScope s_sweeps_within) "here" := ⟨by first | exact Or.inl (by decide +kernel) | exact Or.inr (Or.inl (by decide +kernel)) | exact Or.inr (Or.inr (by decide +kernel)), by decide, by decide⟩
theorem gl_sweeps_within_sweeps_within : (defScope s_sweeps_within).names.lookup ("sweeps_within" : Str) = some NameKind.globalImplicit := by decide +kernel
theorem ok_sweeps_within (T : Txt K mg) : ∀ n_ : Nat, FnOk P w K mg base CX0 (0 + n_ + 1) (He.fAd K ("sweeps_within", none)) T.d_sweeps_within ["items", "path"] (Pr K fun (a_ : (Tp UItem) × (Tp Int) × Unit) => m_sweeps_within n_ a_.1 a_.2.1)
  | 0 => by
    refine fn_ok T.F_sweeps_within sc_sweeps_within rfl fun cdv A outer s_ F0 H0 vs a_ r D_ E_ hr sm_ ra_ hm kr kn => ?_
    exact nomatch (show none = some r from hm)
  | n_ + 1 => by
    have ih_ := ok_sweeps_within T n_
    refine fn_ok T.F_sweeps_within sc_sweeps_within rfl fun cdv A outer s_ F0 H0 vs a_ r D_ E_ hr sm_ ra_ hm kr kn => ?_
    obtain ⟨v_items, _, rfl, r_items, v_path, _, rfl, r_path, rfl⟩ := ra_
    obtain ⟨x_items, x_path, _u⟩ := a_
    have G : GrX K F0 H0 F0 H0 := .refl sm_
    replace hm : m_sweeps_within (n_ + 1) x_items x_path = some r := hm
    rw [m_sweeps_within] at hm
    have r_items : rp (α := (Tp UItem)) K F0 v_items x_items := r_items
    have r_path : rp (α := (Tp Int)) K F0 v_path x_path := r_path
    change GoS _ _ _ [some v_items, some v_path, none, none, none, none] _
    obtain ⟨x_found, he, hm⟩ := Option.bind_eq_some_iff.mp hm
    refine go_setNA ((List (T3 (Tp Int) Bool Str))) 2 G.sm (en_list el_nil (Nat.zero_le _)) (fun l_found vs_ F H g nl_ fl_ hl_ rs_ => ?_) sc_sweeps_within.nd
    have n0_ := G.hh.free nl_
    have G := G.trans g
    have r_items := Rp.mono g.ff r_items
    have r_path := Rp.mono g.ff r_path
    have o_found : Own K _ F H l_found _ := Own.cg (Option.some.inj he) ⟨n0_, fl_, vs_, hl_, rs_⟩
    change GoS _ _ _ [some v_items, some v_path, some (.ref l_found), none, none, none] _
    obtain ⟨b14, ho_, hm⟩ := Option.bind_eq_some_iff.mp hm
    refine go_forN G.sm (ei_enumT (ev_varK 0 rfl r_items kv_sweeps_within_0) T.n_enumerate) (pg_tup rfl (pgs_cons (pg_name (i := 3) sc_sweeps_within.nd rfl (by first | exact Or.inl rfl | exact Or.inr rfl)) (pgs_cons (pg_name (i := 4) sc_sweeps_within.nd rfl (by first | exact Or.inl rfl | exact Or.inr rfl)) pgs_nil))) ho_ (fun F H g => ?_) PassesOwn.never
    have G := G.trans g
    have r_path := Rp.mono g.ff r_path
    have o_found := o_found.up g
    refine ⟨fun (b1 : (List (T3 (Tp Int) Bool Str))) σ_ F_ H_ => ∃ (u_here : Option V) (u_at : Option V) (u_item : Option V), σ_ = [some v_items, some v_path, some (.ref l_found), u_at, u_item, u_here] ∧ GrX K F0 H0 F_ H_ ∧ Own K H0 F_ H_ l_found b1, ⟨_, _, _, rfl, G, o_found⟩, ?_, ?_⟩
    ·
      intro b1 i2 o_ hm σ_ F H w_ s1_ s2_ iv_ F H g ri_ Q_ hQ_
      obtain ⟨u_here, u_at, u_item, rfl, G, o_found⟩ := iv_
      have sb6 := g.ff
      have r_path := Rp.mono s1_ r_path
      have G := G.trans g
      have r_path := Rp.mono g.ff r_path
      have o_found := o_found.up g
      obtain ⟨pa4, _, rfl, sq5, v_at, _, rfl, r_at, v_item, _, rfl, r_item, rfl⟩ := ri_
      refine ⟨pa4, _, rfl, seqT_mono g.fh sq5, rfl, _, _, rfl, _, _, rfl, rfl, hQ_ _ _ ?_⟩
      change GoS _ _ _ [some v_items, some v_path, some (.ref l_found), some v_at, some v_item, u_here] _
      refine go_ifA ((decide (i2.b.tag = ("sweep" : Str)))) G.sm (et_cmp op_eq o2_eq (UItem.ev_tag (ev_varK 4 rfl r_item kv_sweeps_within_4)) ev_str (nomark _)) (fun hc F H g => ?_) (fun hc F H g => ?_)
      · replace hm := ipos hc hm
        have G := G.trans g
        have r_path := Rp.mono g.ff r_path
        have o_found := o_found.up g
        have r_at := Rp.mono g.ff r_at
        have r_item := Rp.mono g.ff r_item
        have sb6 := sb6.trans g.ff
        obtain ⟨t7, h_t7, hm⟩ := Option.bind_eq_some_iff.mp hm
        obtain ⟨x_here, he, hm⟩ := Option.bind_eq_some_iff.mp hm
        refine go_setA ((Tp Int)) 5 G.sm (ev_catT (ev_varK 1 rfl r_path kv_sweeps_within_1) (ev_tp (el_cons (ev_varK 3 rfl r_at kv_sweeps_within_3) el_nil) (by show 1 ≤ sizeLine; decide)) h_t7) (fun v_here F H g rn_ => ?_) sc_sweeps_within.nd
        have G := G.trans g
        have r_path := Rp.mono g.ff r_path
        have o_found := o_found.up g
        have r_at := Rp.mono g.ff r_at
        have r_item := Rp.mono g.ff r_item
        have sb6 := sb6.trans g.ff
        have r_here := cg (Option.some.inj he) rn_
        change GoS _ _ _ [some v_items, some v_path, some (.ref l_found), some v_at, some v_item, some v_here] _
        obtain ⟨t8, h_t8, hm⟩ := Option.bind_eq_some_iff.mp hm
        obtain ⟨t9, h_t9, hm⟩ := Option.bind_eq_some_iff.mp hm
        obtain ⟨t10, he, hm⟩ := Option.bind_eq_some_iff.mp hm
        refine go_append 2 G.sm o_found rfl (ev_tup3 (ea_cons (ev_varK 5 rfl r_here kv_sweeps_within_5) (ea_cons (ev_ixT (UItem.evv_sweep (ev_varK 4 rfl r_item kv_sweeps_within_4) h_t8) ev_int pj1) (ea_cons (ev_ixT (UItem.evv_sweep (ev_varK 4 rfl r_item kv_sweeps_within_4) h_t9) ev_int pj2) ea_nil)))) he (fun w_ F H g nz_ fz_ on_ => ?_)
        have G := G.trans g
        have r_item := Rp.mono g.ff r_item
        have r_here := Rp.mono g.ff r_here
        have sb6 := sb6.trans g.ff
        have G := G.poke (u := w_) on_.n fz_ nz_ on_.pl
        have o_found := on_
        obtain ⟨t11, h_t11, hm⟩ := Option.bind_eq_some_iff.mp hm
        obtain ⟨t12, h_t12, hm⟩ := Option.bind_eq_some_iff.mp hm
        obtain ⟨t13, h_t13, hm⟩ := Option.bind_eq_some_iff.mp hm
        refine go_exprM (ρ := Unit) (β := (List (T3 (Tp Int) Bool Str))) G.sm (em_extend 2 o_found rfl (ev_call ih_ (hr.mono (by omega)) T.g_sweeps_within T.F_sweeps_within.kp (b_sweeps_within T) (ea_cons (ev_ixT (UItem.evv_sweep (ev_varK 4 rfl r_item kv_sweeps_within_4) h_t11) ev_int pj3) (ea_cons (ev_varK 5 rfl r_here kv_sweeps_within_5) ea_nil)) h_t12 gl_sweeps_within_sweeps_within) h_t13) (fun F H ob_ g fl_ hl_ rb_ => ?_)
        have Gm_ := G.over o_found.n g o_found.pl
        have r_item := Rp.mono g.ff r_item
        have r_here := Rp.mono g.ff r_here
        have sb6 := sb6.trans g.ff
        have G := Gm_
        have o_found := Own.mk' o_found.n fl_ hl_ rb_
        refine GoS.nil ?_
        have hm := Option.some.inj hm
        subst hm
        exact GoS.nil ⟨_, sb6, G.fh, ⟨_, _, _, rfl, G, o_found⟩⟩
      · replace hm := ineg (nt hc) hm
        have G := G.trans g
        have r_path := Rp.mono g.ff r_path
        have o_found := o_found.up g
        have r_at := Rp.mono g.ff r_at
        have r_item := Rp.mono g.ff r_item
        have sb6 := sb6.trans g.ff
        refine GoS.nil ?_
        have hm := Option.some.inj hm
        subst hm
        exact GoS.nil ⟨_, sb6, G.fh, ⟨_, _, _, rfl, G, o_found⟩⟩
    · intro σ_ F H s1_ s2_ iv_
      obtain ⟨u_here, u_at, u_item, rfl, G, o_found⟩ := iv_
      refine o_found.freeze G (fun F H s_ s2_ G r_found k_ => ?_)
      exact go_ret G.sm (ev_varK 2 rfl r_found kv_sweeps_within_2) fun v_ F_ H_ g_ rv_ => kr _ _ _ (G.trans g_) (cg (Option.some.inj hm) rv_)
/-! sweeps_of -/
theorem sc_sweeps_of : FnScope ["plan"] ["plan"] (defScope s_sweeps_of) := ⟨rfl, rfl, rfl, by decide +kernel, rfl, by decide +kernel, by decide +kernel⟩
theorem b_sweeps_of (T : Txt K mg) : Binds K T.d_sweeps_of ["plan"] [] := T.F_sweeps_of.bindsN fun _ _ _ _ _ _ us hl => match us, hl with | [_], _ => rfl
theorem kv_sweeps_of_0 : VKn (defScope s_sweeps_of) "plan" := ⟨by first | exact Or.inl (by decide +kernel) | exact Or.inr (Or.inl (by decide +kernel)) | exact Or.inr (Or.inr (by decide +kernel)), by decide, by decide⟩
theorem gl_sweeps_of_sweeps_within : (defScope s_sweeps_of).names.lookup ("sweeps_within" : Str) = some NameKind.globalImplicit := by decide +kernel
theorem ok_sweeps_of (T : Txt K mg) : FnOk P w K mg base CX0 12 (He.fAd K ("sweeps_of", none)) T.d_sweeps_of ["plan"] (Pr K fun (a_ : (Tp UItem) × Unit) => m_sweeps_of a_.1) := by
  refine fn_ok T.F_sweeps_of sc_sweeps_of rfl fun cdv A outer s_ F0 H0 vs a_ r D_ E_ hr sm_ ra_ hm kr kn => ?_
  obtain ⟨v_plan, _, rfl, r_plan, rfl⟩ := ra_
  obtain ⟨x_plan, _u⟩ := a_
  have G : GrX K F0 H0 F0 H0 := .refl sm_
  replace hm : m_sweeps_of x_plan = some r := hm
  unfold m_sweeps_of at hm
  have r_plan : rp (α := (Tp UItem)) K F0 v_plan x_plan := r_plan
  change GoS _ _ _ [some v_plan] _
  obtain ⟨t1, h_t1, hm⟩ := Option.bind_eq_some_iff.mp hm
  exact go_ret G.sm (ev_call (ok_sweeps_within T 10) (hr.mono (by omega)) T.g_sweeps_within T.F_sweeps_within.kp (b_sweeps_within T) (ea_cons (ev_varK 0 rfl r_plan kv_sweeps_of_0) (ea_cons (ev_tp el_nil (by show 0 ≤ sizeLine; decide)) ea_nil)) h_t1 gl_sweeps_of_sweeps_within) fun v_ F_ H_ g_ rv_ => kr _ _ _ (G.trans g_) (cg (Option.some.inj hm) rv_)
/-! time_of -/
theorem sc_time_of : FnScope ["turn", "pair"] ["turn", "pair"] (defScope s_time_of) := ⟨rfl, rfl, rfl, by decide +kernel, rfl, by decide +kernel, by decide +kernel⟩
theorem b_time_of (T : Txt K mg) : Binds K T.d_time_of ["turn", "pair"] [] := T.F_time_of.bindsN fun _ _ _ _ _ _ us hl => match us, hl with | [_, _], _ => rfl
theorem kv_time_of_0 : VKn (defScope s_time_of) "turn" := ⟨by first | exact Or.inl (by decide +kernel) | exact Or.inr (Or.inl (by decide +kernel)) | exact Or.inr (Or.inr (by decide +kernel)), by decide, by decide⟩
theorem kv_time_of_1 : VKn (defScope s_time_of) "pair" := ⟨by first | exact Or.inl (by decide +kernel) | exact Or.inr (Or.inl (by decide +kernel)) | exact Or.inr (Or.inr (by decide +kernel)), by decide, by decide⟩
theorem ok_time_of (T : Txt K mg) : FnOk P w K mg base CX0 1 (He.fAd K ("time_of", none)) T.d_time_of ["turn", "pair"] (Pr K fun (a_ : (T2 Int (Tp Int)) × (T2 Int Int) × Unit) => m_time_of a_.1 a_.2.1) := by
  refine fn_ok T.F_time_of sc_time_of rfl fun cdv A outer s_ F0 H0 vs a_ r D_ E_ hr sm_ ra_ hm kr kn => ?_
  obtain ⟨v_turn, _, rfl, r_turn, v_pair, _, rfl, r_pair, rfl⟩ := ra_
  obtain ⟨x_turn, x_pair, _u⟩ := a_
  have G : GrX K F0 H0 F0 H0 := .refl sm_
  replace hm : m_time_of x_turn x_pair = some r := hm
  unfold m_time_of at hm
  have r_turn : rp (α := (T2 Int (Tp Int))) K F0 v_turn x_turn := r_turn
  have r_pair : rp (α := (T2 Int Int)) K F0 v_pair x_pair := r_pair
  change GoS _ _ _ [some v_turn, some v_pair] _
  obtain ⟨t1, h_t1, hm⟩ := Option.bind_eq_some_iff.mp hm
  exact go_ret G.sm (ev_add (ev_ixTp (ev_ixT (ev_varK 0 rfl r_turn kv_time_of_0) ev_int pj1) (ev_ixT (ev_varK 1 rfl r_pair kv_time_of_1) ev_int pj0) h_t1) (ev_ixT (ev_varK 1 rfl r_pair kv_time_of_1) ev_int pj1)) fun v_ F_ H_ g_ rv_ => kr _ _ _ (G.trans g_) (cg (Option.some.inj hm) rv_)
/-! order_of -/
theorem sc_order_of : FnScope ["program", "plan", "widths", "one", "other", "here", "mine", "there", "others", "number", "path", "cut", "way", "upto", "left", "right", "least"] ["program", "plan", "widths", "one", "other"] (defScope s_order_of) := ⟨rfl, rfl, rfl, by decide +kernel, rfl, by decide +kernel, by decide +kernel⟩
theorem b_order_of (T : Txt K mg) : Binds K T.d_order_of ["program", "plan", "widths", "one", "other"] [] := T.F_order_of.bindsN fun _ _ _ _ _ _ us hl => match us, hl with | [_, _, _, _, _], _ => rfl
theorem kv_order_of_1 : VKn (defScope s_order_of) "plan" := ⟨by first | exact Or.inl (by decide +kernel) | exact Or.inr (Or.inl (by decide +kernel)) | exact Or.inr (Or.inr (by decide +kernel)), by decide, by decide⟩
theorem kv_order_of_3 : VKn (defScope s_order_of) "one" := ⟨by first | exact Or.inl (by decide +kernel) | exact Or.inr (Or.inl (by decide +kernel)) | exact Or.inr (Or.inr (by decide +kernel)), by decide, by decide⟩
theorem kv_order_of_4 : VKn (defScope s_order_of) "other" := ⟨by first | exact Or.inl (by decide +kernel) | exact Or.inr (Or.inl (by decide +kernel)) | exact Or.inr (Or.inr (by decide +kernel)), by decide, by decide⟩
theorem kv_order_of_5 : VKn (defScope s_order_of) "here" := ⟨by first | exact Or.inl (by decide +kernel) | exact Or.inr (Or.inl (by decide +kernel)) | exact Or.inr (Or.inr (by decide +kernel)), by decide, by decide⟩
theorem kv_order_of_6 : VKn (defScope s_order_of) "mine" := ⟨by first | exact Or.inl (by decide +kernel) | exact Or.inr (Or.inl (by decide +kernel)) | exact Or.inr (Or.inr (by decide +kernel)), by decide, by decide⟩
theorem kv_order_of_7 : VKn (defScope s_order_of) "there" := ⟨by first | exact Or.inl (by decide +kernel) | exact Or.inr (Or.inl (by decide +kernel)) | exact Or.inr (Or.inr (by decide +kernel)), by decide, by decide⟩
theorem kv_order_of_8 : VKn (defScope s_order_of) "others" := ⟨by first | exact Or.inl (by decide +kernel) | exact Or.inr (Or.inl (by decide +kernel)) | exact Or.inr (Or.inr (by decide +kernel)), by decide, by decide⟩
theorem kv_order_of_10 : VKn (defScope s_order_of) "path" := ⟨by first | exact Or.inl (by decide +kernel) | exact Or.inr (Or.inl (by decide +kernel)) | exact Or.inr (Or.inr (by decide +kernel)), by decide, by decide⟩
theorem kv_order_of_11 : VKn (defScope s_order_of) "cut" := ⟨by first | exact Or.inl (by decide +kernel) | exact Or.inr (Or.inl (by decide +kernel)) | exact Or.inr (Or.inr (by decide +kernel)), by decide, by decide⟩
theorem kv_order_of_12 : VKn (defScope s_order_of) "way" := ⟨by first | exact Or.inl (by decide +kernel) | exact Or.inr (Or.inl (by decide +kernel)) | exact Or.inr (Or.inr (by decide +kernel)), by decide, by decide⟩
theorem kv_order_of_13 : VKn (defScope s_order_of) "upto" := ⟨by first | exact Or.inl (by decide +kernel) | exact Or.inr (Or.inl (by decide +kernel)) | exact Or.inr (Or.inr (by decide +kernel)), by decide, by decide⟩
theorem kv_order_of_14 : VKn (defScope s_order_of) "left" := ⟨by first | exact Or.inl (by decide +kernel) | exact Or.inr (Or.inl (by decide +kernel)) | exact Or.inr (Or.inr (by decide +kernel)), by decide, by decide⟩
theorem kv_order_of_15 : VKn (defScope s_order_of) "right" := ⟨by first | exact Or.inl (by decide +kernel) | exact Or.inr (Or.inl (by decide +kernel)) | exact Or.inr (Or.inr (by decide +kernel)), by decide, by decide⟩
theorem gl_order_of_stand : (defScope s_order_of).names.lookup ("stand" : Str) = some NameKind.globalImplicit := by decide +kernel
theorem gl_order_of_sweeps_of : (defScope s_order_of).names.lookup ("sweeps_of" : Str) = some NameKind.globalImplicit := by decide +kernel
theorem gl_order_of_time_of : (defScope s_order_of).names.lookup ("time_of" : Str) = some NameKind.globalImplicit := by decide +kernel
theorem ok_order_of (T : Txt K mg) : FnOk P w K mg base CX0 13 (He.fAd K ("order_of", none)) T.d_order_of ["program", "plan", "widths", "one", "other"] (Pr K fun (a_ : QProgram × (Tp UItem) × (List Int) × (T2 Int (Tp Int)) × (T2 Int (Tp Int)) × Unit) => m_order_of a_.1 a_.2.1 a_.2.2.1 a_.2.2.2.1 a_.2.2.2.2.1) := by
  refine fn_ok T.F_order_of sc_order_of rfl fun cdv A outer s_ F0 H0 vs a_ r D_ E_ hr sm_ ra_ hm kr kn => ?_
  obtain ⟨v_program, _, rfl, r_program, v_plan, _, rfl, r_plan, v_widths, _, rfl, r_widths, v_one, _, rfl, r_one, v_other, _, rfl, r_other, rfl⟩ := ra_
  obtain ⟨x_program, x_plan, x_widths, x_one, x_other, _u⟩ := a_
  have G : GrX K F0 H0 F0 H0 := .refl sm_
  replace hm : m_order_of x_program x_plan x_widths x_one x_other = some r := hm
  unfold m_order_of at hm
  have r_program : rp (α := QProgram) K F0 v_program x_program := r_program
  have r_plan : rp (α := (Tp UItem)) K F0 v_plan x_plan := r_plan
  have r_widths : rp (α := (List Int)) K F0 v_widths x_widths := r_widths
  have r_one : rp (α := (T2 Int (Tp Int))) K F0 v_one x_one := r_one
  have r_other : rp (α := (T2 Int (Tp Int))) K F0 v_other x_other := r_other
  change GoS _ _ _ [some v_program, some v_plan, some v_widths, some v_one, some v_other, none, none, none, none, none, none, none, none, none, none, none, none] _
  obtain ⟨t1, h_t1, hm⟩ := Option.bind_eq_some_iff.mp hm
  obtain ⟨t2, h_t2, hm⟩ := Option.bind_eq_some_iff.mp hm
  obtain ⟨i3, he, hm⟩ := Option.bind_eq_some_iff.mp hm
  refine go_unpack G.sm (Ev.get (ev_call (ok_stand T) (hr.mono (by omega)) T.g_stand T.F_stand.kp (b_stand T) (ea_cons (ev_varK 1 rfl r_plan kv_order_of_1) (ea_cons (ev_ixT (ev_varK 3 rfl r_one kv_order_of_3) ev_int pj0) ea_nil)) h_t1 gl_order_of_stand) h_t2) (pg_tup rfl (pgs_cons (pg_name (i := 5) sc_order_of.nd rfl (by first | exact Or.inl rfl | exact Or.inr rfl)) (pgs_cons (pg_name (i := 6) sc_order_of.nd rfl (by first | exact Or.inl rfl | exact Or.inr rfl)) pgs_nil))) (fun w_ F H g ri_ Q_ hQ_ => ?_)
  have ri_ := cg (Option.some.inj he) ri_
  have G := G.trans g
  have r_program := Rp.mono g.ff r_program
  have r_plan := Rp.mono g.ff r_plan
  have r_widths := Rp.mono g.ff r_widths
  have r_one := Rp.mono g.ff r_one
  have r_other := Rp.mono g.ff r_other
  obtain ⟨pa4, _, rfl, sq5, v_here, _, rfl, r_here, v_mine, _, rfl, r_mine, rfl⟩ := ri_
  refine ⟨pa4, _, rfl, seqT_mono G.fh sq5, rfl, _, _, rfl, _, _, rfl, rfl, hQ_ _ _ ?_⟩
  change GoS _ _ _ [some v_program, some v_plan, some v_widths, some v_one, some v_other, some v_here, some v_mine, none, none, none, none, none, none, none, none, none, none] _
  obtain ⟨t6, h_t6, hm⟩ := Option.bind_eq_some_iff.mp hm
  obtain ⟨t7, h_t7, hm⟩ := Option.bind_eq_some_iff.mp hm
  obtain ⟨i8, he, hm⟩ := Option.bind_eq_some_iff.mp hm
  refine go_unpack G.sm (Ev.get (ev_call (ok_stand T) (hr.mono (by omega)) T.g_stand T.F_stand.kp (b_stand T) (ea_cons (ev_varK 1 rfl r_plan kv_order_of_1) (ea_cons (ev_ixT (ev_varK 4 rfl r_other kv_order_of_4) ev_int pj0) ea_nil)) h_t6 gl_order_of_stand) h_t7) (pg_tup rfl (pgs_cons (pg_name (i := 7) sc_order_of.nd rfl (by first | exact Or.inl rfl | exact Or.inr rfl)) (pgs_cons (pg_name (i := 8) sc_order_of.nd rfl (by first | exact Or.inl rfl | exact Or.inr rfl)) pgs_nil))) (fun w_ F H g ri_ Q_ hQ_ => ?_)
  have ri_ := cg (Option.some.inj he) ri_
  have G := G.trans g
  have r_program := Rp.mono g.ff r_program
  have r_plan := Rp.mono g.ff r_plan
  have r_widths := Rp.mono g.ff r_widths
  have r_one := Rp.mono g.ff r_one
  have r_other := Rp.mono g.ff r_other
  have r_here := Rp.mono g.ff r_here
  have r_mine := Rp.mono g.ff r_mine
  obtain ⟨pa9, _, rfl, sq10, v_there, _, rfl, r_there, v_others, _, rfl, r_others, rfl⟩ := ri_
  refine ⟨pa9, _, rfl, seqT_mono G.fh sq10, rfl, _, _, rfl, _, _, rfl, rfl, hQ_ _ _ ?_⟩
  change GoS _ _ _ [some v_program, some v_plan, some v_widths, some v_one, some v_other, some v_here, some v_mine, some v_there, some v_others, none, none, none, none, none, none, none, none] _
  obtain ⟨x_number, he, hm⟩ := Option.bind_eq_some_iff.mp hm
  refine go_setA (Int) 9 G.sm ev_int (fun v_number F H g rn_ => ?_) sc_order_of.nd
  have G := G.trans g
  have r_program := Rp.mono g.ff r_program
  have r_plan := Rp.mono g.ff r_plan
  have r_widths := Rp.mono g.ff r_widths
  have r_one := Rp.mono g.ff r_one
  have r_other := Rp.mono g.ff r_other
  have r_here := Rp.mono g.ff r_here
  have r_mine := Rp.mono g.ff r_mine
  have r_there := Rp.mono g.ff r_there
  have r_others := Rp.mono g.ff r_others
  have r_number := cg (Option.some.inj he) rn_
  change GoS _ _ _ [some v_program, some v_plan, some v_widths, some v_one, some v_other, some v_here, some v_mine, some v_there, some v_others, some v_number, none, none, none, none, none, none, none] _
  obtain ⟨t11, h_t11, hm⟩ := Option.bind_eq_some_iff.mp hm
  obtain ⟨o14, ho_, hm⟩ := Option.bind_eq_some_iff.mp hm
  refine go_forM G.sm (ei_list (ev_call (ok_sweeps_of T) (hr.mono (by omega)) T.g_sweeps_of T.F_sweeps_of.kp (b_sweeps_of T) (ea_cons (ev_varK 1 rfl r_plan kv_order_of_1) ea_nil) h_t11 gl_order_of_sweeps_of)) (pg_tup rfl (pgs_cons (pg_name (i := 10) sc_order_of.nd rfl (by first | exact Or.inl rfl | exact Or.inr rfl)) (pgs_cons (pg_name (i := 11) sc_order_of.nd rfl (by first | exact Or.inl rfl | exact Or.inr rfl)) (pgs_cons (pg_name (i := 12) sc_order_of.nd rfl (by first | exact Or.inl rfl | exact Or.inr rfl)) pgs_nil)))) ho_ hm (fun F H g => ?_) PassesOwn.never
  have G := G.trans g
  have r_program := Rp.mono g.ff r_program
  have r_plan := Rp.mono g.ff r_plan
  have r_widths := Rp.mono g.ff r_widths
  have r_one := Rp.mono g.ff r_one
  have r_other := Rp.mono g.ff r_other
  have r_here := Rp.mono g.ff r_here
  have r_mine := Rp.mono g.ff r_mine
  have r_there := Rp.mono g.ff r_there
  have r_others := Rp.mono g.ff r_others
  have r_number := Rp.mono g.ff r_number
  refine ⟨fun (b12 : Int) σ_ F_ H_ => ∃ (u_upto : Option V) (u_left : Option V) (u_right : Option V) (u_least : Option V) (u_path : Option V) (u_cut : Option V) (u_way : Option V) (v_number : V), σ_ = [some v_program, some v_plan, some v_widths, some v_one, some v_other, some v_here, some v_mine, some v_there, some v_others, some v_number, u_path, u_cut, u_way, u_upto, u_left, u_right, u_least] ∧ GrX K F0 H0 F_ H_ ∧ rp (α := Int) K F_ v_number b12, fun r_ v_ H_ => ∃ F_, GrX K F0 H0 F_ H_ ∧ rp K F_ v_ r_, ⟨_, _, _, _, _, _, _, _, rfl, G, r_number⟩, ?_, ?_, ?_⟩
  ·
    intro b12 i13 o_ hm σ_ F H w_ s1_ s2_ iv_ F H g ri_ Q_ hQ_
    obtain ⟨u_upto, u_left, u_right, u_least, u_path, u_cut, u_way, v_number, rfl, G, r_number⟩ := iv_
    have sb17 := g.ff
    have r_program := Rp.mono s1_ r_program
    have r_plan := Rp.mono s1_ r_plan
    have r_widths := Rp.mono s1_ r_widths
    have r_one := Rp.mono s1_ r_one
    have r_other := Rp.mono s1_ r_other
    have r_here := Rp.mono s1_ r_here
    have r_mine := Rp.mono s1_ r_mine
    have r_there := Rp.mono s1_ r_there
    have r_others := Rp.mono s1_ r_others
    have G := G.trans g
    have r_program := Rp.mono g.ff r_program
    have r_plan := Rp.mono g.ff r_plan
    have r_widths := Rp.mono g.ff r_widths
    have r_one := Rp.mono g.ff r_one
    have r_other := Rp.mono g.ff r_other
    have r_here := Rp.mono g.ff r_here
    have r_mine := Rp.mono g.ff r_mine
    have r_there := Rp.mono g.ff r_there
    have r_others := Rp.mono g.ff r_others
    have r_number := Rp.mono g.ff r_number
    obtain ⟨pa15, _, rfl, sq16, v_path, _, rfl, r_path, v_cut, _, rfl, r_cut, v_way, _, rfl, r_way, rfl⟩ := ri_
    refine ⟨pa15, _, rfl, seqT_mono g.fh sq16, rfl, _, _, rfl, _, _, rfl, _, _, rfl, rfl, hQ_ _ _ ?_⟩
    change GoS _ _ _ [some v_program, some v_plan, some v_widths, some v_one, some v_other, some v_here, some v_mine, some v_there, some v_others, some v_number, some v_path, some v_cut, some v_way, u_upto, u_left, u_right, u_least] _
    obtain ⟨x_upto, he, hm⟩ := Option.bind_eq_some_iff.mp hm
    refine go_setA (Int) 13 G.sm (ev_callB call_len_seq oc_lenTp T.n_len PySem.boot_len (ea_cons (ev_varK 10 rfl r_path kv_order_of_10) ea_nil)) (fun v_upto F H g rn_ => ?_) sc_order_of.nd
    have G := G.trans g
    have r_program := Rp.mono g.ff r_program
    have r_plan := Rp.mono g.ff r_plan
    have r_widths := Rp.mono g.ff r_widths
    have r_one := Rp.mono g.ff r_one
    have r_other := Rp.mono g.ff r_other
    have r_here := Rp.mono g.ff r_here
    have r_mine := Rp.mono g.ff r_mine
    have r_there := Rp.mono g.ff r_there
    have r_others := Rp.mono g.ff r_others
    have r_number := Rp.mono g.ff r_number
    have r_path := Rp.mono g.ff r_path
    have r_cut := Rp.mono g.ff r_cut
    have r_way := Rp.mono g.ff r_way
    have sb17 := sb17.trans g.ff
    have r_upto := cg (Option.some.inj he) rn_
    change GoS _ _ _ [some v_program, some v_plan, some v_widths, some v_one, some v_other, some v_here, some v_mine, some v_there, some v_others, some v_number, some v_path, some v_cut, some v_way, some v_upto, u_left, u_right, u_least] _
    obtain ⟨t18, h_t18, hm⟩ := Option.bind_eq_some_iff.mp hm
    obtain ⟨t20, h_t20, hm⟩ := Option.bind_eq_some_iff.mp hm
    refine go_ifA (t20) G.sm (EvW.t (ew_andA (t18) (et_eqD (ev_sliceT (ev_varK 5 rfl r_here kv_order_of_5) eo_none (eo_some (ev_varK 13 rfl r_upto kv_order_of_13))) (ev_varK 10 rfl r_path kv_order_of_10) h_t18 hr.units) (fun hc => by
            replace h_t20 := ipos hc h_t20
            obtain ⟨t19, h_t19, h_t20⟩ := Option.bind_eq_some_iff.mp h_t20
            exact EvW.cg (Option.some.inj h_t20) (ew_and1 (et_eqD (ev_sliceT (ev_varK 7 rfl r_there kv_order_of_7) eo_none (eo_some (ev_varK 13 rfl r_upto kv_order_of_13))) (ev_varK 10 rfl r_path kv_order_of_10) h_t19 hr.units))) (fun hc => by replace h_t20 := ineg (nt hc) h_t20; exact (Option.some.inj h_t20).symm))) (fun hc F H g => ?_) (fun hc F H g => ?_)
    · replace hm := ipos hc hm
      have G := G.trans g
      have r_program := Rp.mono g.ff r_program
      have r_plan := Rp.mono g.ff r_plan
      have r_widths := Rp.mono g.ff r_widths
      have r_one := Rp.mono g.ff r_one
      have r_other := Rp.mono g.ff r_other
      have r_here := Rp.mono g.ff r_here
      have r_mine := Rp.mono g.ff r_mine
      have r_there := Rp.mono g.ff r_there
      have r_others := Rp.mono g.ff r_others
      have r_number := Rp.mono g.ff r_number
      have r_path := Rp.mono g.ff r_path
      have r_cut := Rp.mono g.ff r_cut
      have r_way := Rp.mono g.ff r_way
      have r_upto := Rp.mono g.ff r_upto
      have sb17 := sb17.trans g.ff
      obtain ⟨t21, h_t21, hm⟩ := Option.bind_eq_some_iff.mp hm
      obtain ⟨t22, h_t22, hm⟩ := Option.bind_eq_some_iff.mp hm
      obtain ⟨x_left, he, hm⟩ := Option.bind_eq_some_iff.mp hm
      refine go_setA (Int) 14 G.sm (ev_call (ok_time_of T) (hr.mono (by omega)) T.g_time_of T.F_time_of.kp (b_time_of T) (ea_cons (ev_varK 3 rfl r_one kv_order_of_3) (ea_cons (ev_ixTp (ev_varK 6 rfl r_mine kv_order_of_6) (ev_sub (ev_varK 13 rfl r_upto kv_order_of_13) ev_int) h_t21) ea_nil)) h_t22 gl_order_of_time_of) (fun v_left F H g rn_ => ?_) sc_order_of.nd
      have G := G.trans g
      have r_program := Rp.mono g.ff r_program
      have r_plan := Rp.mono g.ff r_plan
      have r_widths := Rp.mono g.ff r_widths
      have r_one := Rp.mono g.ff r_one
      have r_other := Rp.mono g.ff r_other
      have r_mine := Rp.mono g.ff r_mine
      have r_others := Rp.mono g.ff r_others
      have r_number := Rp.mono g.ff r_number
      have r_path := Rp.mono g.ff r_path
      have r_cut := Rp.mono g.ff r_cut
      have r_way := Rp.mono g.ff r_way
      have r_upto := Rp.mono g.ff r_upto
      have sb17 := sb17.trans g.ff
      have r_left := cg (Option.some.inj he) rn_
      change GoS _ _ _ [some v_program, some v_plan, some v_widths, some v_one, some v_other, some v_here, some v_mine, some v_there, some v_others, some v_number, some v_path, some v_cut, some v_way, some v_upto, some v_left, u_right, u_least] _
      obtain ⟨t23, h_t23, hm⟩ := Option.bind_eq_some_iff.mp hm
      obtain ⟨t24, h_t24, hm⟩ := Option.bind_eq_some_iff.mp hm
      obtain ⟨x_right, he, hm⟩ := Option.bind_eq_some_iff.mp hm
      refine go_setA (Int) 15 G.sm (ev_call (ok_time_of T) (hr.mono (by omega)) T.g_time_of T.F_time_of.kp (b_time_of T) (ea_cons (ev_varK 4 rfl r_other kv_order_of_4) (ea_cons (ev_ixTp (ev_varK 8 rfl r_others kv_order_of_8) (ev_sub (ev_varK 13 rfl r_upto kv_order_of_13) ev_int) h_t23) ea_nil)) h_t24 gl_order_of_time_of) (fun v_right F H g rn_ => ?_) sc_order_of.nd
      have G := G.trans g
      have r_program := Rp.mono g.ff r_program
      have r_plan := Rp.mono g.ff r_plan
      have r_widths := Rp.mono g.ff r_widths
      have r_other := Rp.mono g.ff r_other
      have r_others := Rp.mono g.ff r_others
      have r_number := Rp.mono g.ff r_number
      have r_path := Rp.mono g.ff r_path
      have r_cut := Rp.mono g.ff r_cut
      have r_way := Rp.mono g.ff r_way
      have r_upto := Rp.mono g.ff r_upto
      have r_left := Rp.mono g.ff r_left
      have sb17 := sb17.trans g.ff
      have r_right := cg (Option.some.inj he) rn_
      change GoS _ _ _ [some v_program, some v_plan, some v_widths, some v_one, some v_other, some v_here, some v_mine, some v_there, some v_others, some v_number, some v_path, some v_cut, some v_way, some v_upto, some v_left, some v_right, u_least] _
      obtain ⟨b25, hj, hm⟩ := Option.bind_eq_some_iff.mp hm
      refine go_ifjA (i13.b) (fun σ_ H_ => ∃ (F_ : Hp) (u_least : Option V) (v_left : V) (v_right : V), L2.Same F F_ ∧ σ_ = [some v_program, some v_plan, some v_widths, some v_one, some v_other, some v_here, some v_mine, some v_there, some v_others, some v_number, some v_path, some v_cut, some v_way, some v_upto, some v_left, some v_right, u_least] ∧ GrX K F0 H0 F_ H_ ∧ rp (α := Int) K F_ v_left b25.1 ∧ rp (α := Int) K F_ v_right b25.2) G.sm (et_val (ev_varK 11 rfl r_cut kv_order_of_11)) (fun hc F H g => ?_) (fun hc F H g => ?_) (fun σ_ H hP_ => ?_)
      · replace hj := ipos hc hj
        clear hm
        have hm := hj
        clear hj
        have G := G.trans g
        have r_program := Rp.mono g.ff r_program
        have r_plan := Rp.mono g.ff r_plan
        have r_widths := Rp.mono g.ff r_widths
        have r_number := Rp.mono g.ff r_number
        have r_path := Rp.mono g.ff r_path
        have r_cut := Rp.mono g.ff r_cut
        have r_way := Rp.mono g.ff r_way
        have r_left := Rp.mono g.ff r_left
        have r_right := Rp.mono g.ff r_right
        have sb17 := sb17.trans g.ff
        have sj26 := g.ff
        cases hm
      · replace hj := ineg (nt hc) hj
        clear hm
        have hm := hj
        clear hj
        have G := G.trans g
        have r_program := Rp.mono g.ff r_program
        have r_plan := Rp.mono g.ff r_plan
        have r_widths := Rp.mono g.ff r_widths
        have r_number := Rp.mono g.ff r_number
        have r_path := Rp.mono g.ff r_path
        have r_cut := Rp.mono g.ff r_cut
        have r_way := Rp.mono g.ff r_way
        have r_left := Rp.mono g.ff r_left
        have r_right := Rp.mono g.ff r_right
        have sb17 := sb17.trans g.ff
        have sj26 := g.ff
        have hm := Option.some.inj hm
        subst hm
        exact GoS.nil ⟨_, _, _, _, sj26, rfl, G, r_left, r_right⟩
      obtain ⟨F, u_least, v_left, v_right, sj_, rfl, G, r_left, r_right⟩ := hP_
      have r_number := Rp.mono sj_ r_number
      have r_cut := Rp.mono sj_ r_cut
      have r_way := Rp.mono sj_ r_way
      have sb17 := sb17.trans sj_
      refine go_ifA ((!decide (b25.1 = b25.2))) G.sm (et_cmp op_ne o2_ne (ev_varK 14 rfl r_left kv_order_of_14) (ev_varK 15 rfl r_right kv_order_of_15) (nomark _)) (fun hc F H g => ?_) (fun hc F H g => ?_)
      · replace hm := ipos hc hm
        have G := G.trans g
        have r_number := Rp.mono g.ff r_number
        have r_cut := Rp.mono g.ff r_cut
        have r_way := Rp.mono g.ff r_way
        have r_left := Rp.mono g.ff r_left
        have r_right := Rp.mono g.ff r_right
        have sb17 := sb17.trans g.ff
        refine go_ifA ((decide (i13.c = ("any" : Str)))) G.sm (et_cmp op_eq o2_eq (ev_varK 12 rfl r_way kv_order_of_12) ev_str (nomark _)) (fun hc F H g => ?_) (fun hc F H g => ?_)
        · replace hm := ipos hc hm
          have G := G.trans g
          have r_number := Rp.mono g.ff r_number
          have r_cut := Rp.mono g.ff r_cut
          have r_way := Rp.mono g.ff r_way
          have r_left := Rp.mono g.ff r_left
          have r_right := Rp.mono g.ff r_right
          have sb17 := sb17.trans g.ff
          exact go_ret G.sm ev_int fun v_ F_ H_ g_ rv_ => ⟨_, (Option.some.inj hm).symm, F_, G.trans g_, rv_⟩
        · replace hm := ineg (nt hc) hm
          have G := G.trans g
          have r_number := Rp.mono g.ff r_number
          have r_cut := Rp.mono g.ff r_cut
          have r_way := Rp.mono g.ff r_way
          have r_left := Rp.mono g.ff r_left
          have r_right := Rp.mono g.ff r_right
          have sb17 := sb17.trans g.ff
          refine GoS.nil ?_
          exact go_ret G.sm (ev_sub ev_int (ev_mul ev_int (ev_callTy call_int1 oc_intB T.n_int (by decide +kernel) (ea_cons (ev_cmp op_eq o2_eq (ev_cmp op_lt o2_lt (ev_varK 14 rfl r_left kv_order_of_14) (ev_varK 15 rfl r_right kv_order_of_15) (nomark _)) (ev_cmp op_eq o2_eq (ev_varK 12 rfl r_way kv_order_of_12) ev_str (nomark _)) (nomark _)) ea_nil)) (CMul.l (by decide)))) fun v_ F_ H_ g_ rv_ => ⟨_, (Option.some.inj hm).symm, F_, G.trans g_, rv_⟩
      · replace hm := ineg (nt hc) hm
        have G := G.trans g
        have r_number := Rp.mono g.ff r_number
        have r_cut := Rp.mono g.ff r_cut
        have r_way := Rp.mono g.ff r_way
        have r_left := Rp.mono g.ff r_left
        have r_right := Rp.mono g.ff r_right
        have sb17 := sb17.trans g.ff
        refine GoS.nil ?_
        refine GoS.nil ?_
        obtain ⟨t27, he, hm⟩ := Option.bind_eq_some_iff.mp hm
        refine go_augA (i := 9) G.sm rfl r_number (ev_callTy call_int1 oc_intB T.n_int (by decide +kernel) (ea_cons (ev_varK 11 rfl r_cut kv_order_of_11) ea_nil)) (fun v_number F H g rn_ => ?_) sc_order_of.nd
        have G := G.trans g
        have r_cut := Rp.mono g.ff r_cut
        have sb17 := sb17.trans g.ff
        have r_number := cg (Option.some.inj he) rn_
        exact GoS.nil ⟨_, _, (Option.some.inj hm).symm, sb17, G.fh, ⟨_, _, _, _, _, _, _, _, rfl, G, r_number⟩⟩
    · replace hm := ineg (nt hc) hm
      have G := G.trans g
      have r_program := Rp.mono g.ff r_program
      have r_plan := Rp.mono g.ff r_plan
      have r_widths := Rp.mono g.ff r_widths
      have r_one := Rp.mono g.ff r_one
      have r_other := Rp.mono g.ff r_other
      have r_here := Rp.mono g.ff r_here
      have r_mine := Rp.mono g.ff r_mine
      have r_there := Rp.mono g.ff r_there
      have r_others := Rp.mono g.ff r_others
      have r_number := Rp.mono g.ff r_number
      have r_path := Rp.mono g.ff r_path
      have r_cut := Rp.mono g.ff r_cut
      have r_way := Rp.mono g.ff r_way
      have r_upto := Rp.mono g.ff r_upto
      have sb17 := sb17.trans g.ff
      refine GoS.nil ?_
      obtain ⟨t28, he, hm⟩ := Option.bind_eq_some_iff.mp hm
      refine go_augA (i := 9) G.sm rfl r_number (ev_callTy call_int1 oc_intB T.n_int (by decide +kernel) (ea_cons (ev_varK 11 rfl r_cut kv_order_of_11) ea_nil)) (fun v_number F H g rn_ => ?_) sc_order_of.nd
      have G := G.trans g
      have r_cut := Rp.mono g.ff r_cut
      have sb17 := sb17.trans g.ff
      have r_number := cg (Option.some.inj he) rn_
      exact GoS.nil ⟨_, _, (Option.some.inj hm).symm, sb17, G.fh, ⟨_, _, _, _, _, _, _, _, rfl, G, r_number⟩⟩
  · intro b29 hm σ_ F H s1_ s2_ iv_
    obtain ⟨u_upto, u_left, u_right, u_least, u_path, u_cut, u_way, v_number, rfl, G, r_number⟩ := iv_
    have r_here := Rp.mono s1_ r_here
    have r_there := Rp.mono s1_ r_there
    change GoS _ _ _ [some v_program, some v_plan, some v_widths, some v_one, some v_other, some v_here, some v_mine, some v_there, some v_others, some v_number, u_path, u_cut, u_way, u_upto, u_left, u_right, u_least] _
    exact go_ret G.sm (ev_sub ev_int (ev_mul ev_int (ev_callTy call_int1 oc_intB T.n_int (by decide +kernel) (ea_cons (ev_cmp (op_ltT hr.units0) o2_ltT (ev_varK 5 rfl r_here kv_order_of_5) (ev_varK 7 rfl r_there kv_order_of_7) (nomark _)) ea_nil)) (CMul.l (by decide)))) fun v_ F_ H_ g_ rv_ => kr _ _ _ (G.trans g_) (cg (Option.some.inj hm) rv_)
  · intro r_ he v_ H_ hv_
    obtain ⟨F_, g_, rv_⟩ := hv_
    exact kr _ _ _ g_ (cg (Option.some.inj he) rv_)
/-! law -/
theorem sc_law : FnScope ["_law_script", "_law_deeds_here", "_law_base", "_law_program", "_law_plan", "_law_some", "_law_k", "_law_deed", "_law_one", "_law_small", "_law_at_here", "_law_step", "_law_other", "_law_due", "_law_said", "_law_found"] ["_law_script"] (defScope s_law) := ⟨rfl, rfl, rfl, by decide +kernel, rfl, by decide +kernel, by decide +kernel⟩
theorem b_law (T : Txt K mg) : Binds K T.d_law ["_law_script"] [] := T.F_law.bindsN fun _ _ _ _ _ _ us hl => match us, hl with | [_], _ => rfl
theorem kv_law_0 : VKn (defScope s_law) "_law_script" := ⟨by first | exact Or.inl (by decide +kernel) | exact Or.inr (Or.inl (by decide +kernel)) | exact Or.inr (Or.inr (by decide +kernel)), by decide, by decide⟩
theorem kv_law_1 : VKn (defScope s_law) "_law_deeds_here" := ⟨by first | exact Or.inl (by decide +kernel) | exact Or.inr (Or.inl (by decide +kernel)) | exact Or.inr (Or.inr (by decide +kernel)), by decide, by decide⟩
theorem kv_law_2 : VKn (defScope s_law) "_law_base" := ⟨by first | exact Or.inl (by decide +kernel) | exact Or.inr (Or.inl (by decide +kernel)) | exact Or.inr (Or.inr (by decide +kernel)), by decide, by decide⟩
theorem kv_law_3 : VKn (defScope s_law) "_law_program" := ⟨by first | exact Or.inl (by decide +kernel) | exact Or.inr (Or.inl (by decide +kernel)) | exact Or.inr (Or.inr (by decide +kernel)), by decide, by decide⟩
theorem kv_law_4 : VKn (defScope s_law) "_law_plan" := ⟨by first | exact Or.inl (by decide +kernel) | exact Or.inr (Or.inl (by decide +kernel)) | exact Or.inr (Or.inr (by decide +kernel)), by decide, by decide⟩
theorem kv_law_6 : VKn (defScope s_law) "_law_k" := ⟨by first | exact Or.inl (by decide +kernel) | exact Or.inr (Or.inl (by decide +kernel)) | exact Or.inr (Or.inr (by decide +kernel)), by decide, by decide⟩
theorem kv_law_7 : VKn (defScope s_law) "_law_deed" := ⟨by first | exact Or.inl (by decide +kernel) | exact Or.inr (Or.inl (by decide +kernel)) | exact Or.inr (Or.inr (by decide +kernel)), by decide, by decide⟩
theorem kv_law_8 : VKn (defScope s_law) "_law_one" := ⟨by first | exact Or.inl (by decide +kernel) | exact Or.inr (Or.inl (by decide +kernel)) | exact Or.inr (Or.inr (by decide +kernel)), by decide, by decide⟩
theorem kv_law_10 : VKn (defScope s_law) "_law_at_here" := ⟨by first | exact Or.inl (by decide +kernel) | exact Or.inr (Or.inl (by decide +kernel)) | exact Or.inr (Or.inr (by decide +kernel)), by decide, by decide⟩
theorem kv_law_11 : VKn (defScope s_law) "_law_step" := ⟨by first | exact Or.inl (by decide +kernel) | exact Or.inr (Or.inl (by decide +kernel)) | exact Or.inr (Or.inr (by decide +kernel)), by decide, by decide⟩
theorem kv_law_12 : VKn (defScope s_law) "_law_other" := ⟨by first | exact Or.inl (by decide +kernel) | exact Or.inr (Or.inl (by decide +kernel)) | exact Or.inr (Or.inr (by decide +kernel)), by decide, by decide⟩
theorem kv_law_13 : VKn (defScope s_law) "_law_due" := ⟨by first | exact Or.inl (by decide +kernel) | exact Or.inr (Or.inl (by decide +kernel)) | exact Or.inr (Or.inr (by decide +kernel)), by decide, by decide⟩
theorem kv_law_14 : VKn (defScope s_law) "_law_said" := ⟨by first | exact Or.inl (by decide +kernel) | exact Or.inr (Or.inl (by decide +kernel)) | exact Or.inr (Or.inr (by decide +kernel)), by decide, by decide⟩
theorem kv_law_15 : VKn (defScope s_law) "_law_found" := ⟨by first | exact Or.inl (by decide +kernel) | exact Or.inr (Or.inl (by decide +kernel)) | exact Or.inr (Or.inr (by decide +kernel)), by decide, by decide⟩
theorem gl_law_ahead : (defScope s_law).names.lookup ("ahead" : Str) = some NameKind.globalImplicit := by decide +kernel
theorem gl_law_at : (defScope s_law).names.lookup ("_law_at" : Str) = some NameKind.globalImplicit := by decide +kernel
theorem gl_law_before : (defScope s_law).names.lookup ("_law_before" : Str) = some NameKind.globalImplicit := by decide +kernel
theorem gl_law_deeds : (defScope s_law).names.lookup ("_law_deeds" : Str) = some NameKind.globalImplicit := by decide +kernel
theorem gl_law_digits : (defScope s_law).names.lookup ("_law_digits" : Str) = some NameKind.globalImplicit := by decide +kernel
theorem gl_law_order_of : (defScope s_law).names.lookup ("order_of" : Str) = some NameKind.globalImplicit := by decide +kernel
theorem gl_law_own_plan : (defScope s_law).names.lookup ("own_plan" : Str) = some NameKind.globalImplicit := by decide +kernel
theorem gl_law_told_deeds : (defScope s_law).names.lookup ("_law_told_deeds" : Str) = some NameKind.globalImplicit := by decide +kernel
theorem gl_law_values : (defScope s_law).names.lookup ("_law_values" : Str) = some NameKind.globalImplicit := by decide +kernel
theorem ok_law (T : Txt K mg) : FnOk P w K mg base CX0 14 (He.fAd K ("law", none)) T.d_law ["_law_script"] (Pr K fun (a_ : (List Int) × Unit) => m_law a_.1) := by
  refine fn_ok T.F_law sc_law rfl fun cdv A outer s_ F0 H0 vs a_ r D_ E_ hr sm_ ra_ hm kr kn => ?_
  obtain ⟨v_script, _, rfl, r_script, rfl⟩ := ra_
  obtain ⟨x_script, _u⟩ := a_
  have G : GrX K F0 H0 F0 H0 := .refl sm_
  replace hm : m_law x_script = some r := hm
  unfold m_law at hm
  have r_script : rp (α := (List Int)) K F0 v_script x_script := r_script
  change GoS _ _ _ [some v_script, none, none, none, none, none, none, none, none, none, none, none, none, none, none, none] _
  obtain ⟨t1, h_t1, hm⟩ := Option.bind_eq_some_iff.mp hm
  obtain ⟨t2, h_t2, hm⟩ := Option.bind_eq_some_iff.mp hm
  obtain ⟨x_deeds_here, he, hm⟩ := Option.bind_eq_some_iff.mp hm
  refine go_setA ((List (T3 (List (T5 Str (T2 Str Int) (T2 Str Int) Int Int)) (Tp Int) Int))) 1 G.sm (ev_call (ok_deeds T) (hr.mono (by omega)) T.g_deeds T.F_deeds.kp (b_deeds T) (ea_cons (ev_varK 0 rfl r_script kv_law_0) (ea_cons ev_int (ea_cons (ev_add ev_int (ev_mod (ev_call (ok_at T) (hr.mono (by omega)) T.g_at T.F_at.kp (b_at T) (ea_cons (ev_varK 0 rfl r_script kv_law_0) (ea_cons ev_int ea_nil)) h_t1 gl_law_at) ev_int (by decide))) ea_nil))) h_t2 gl_law_deeds) (fun v_deeds_here F H g rn_ => ?_) sc_law.nd
  have G := G.trans g
  have r_script := Rp.mono g.ff r_script
  have r_deeds_here := cg (Option.some.inj he) rn_
  change GoS _ _ _ [some v_script, some v_deeds_here, none, none, none, none, none, none, none, none, none, none, none, none, none, none] _
  obtain ⟨x_base, he, hm⟩ := Option.bind_eq_some_iff.mp hm
  refine go_setA (Int) 2 G.sm ev_int (fun v_base F H g rn_ => ?_) sc_law.nd
  have G := G.trans g
  have r_script := Rp.mono g.ff r_script
  have r_deeds_here := Rp.mono g.ff r_deeds_here
  have r_base := cg (Option.some.inj he) rn_
  change GoS _ _ _ [some v_script, some v_deeds_here, some v_base, none, none, none, none, none, none, none, none, none, none, none, none, none] _
  obtain ⟨t3, h_t3, hm⟩ := Option.bind_eq_some_iff.mp hm
  obtain ⟨b4, hj, hm⟩ := Option.bind_eq_some_iff.mp hm
  refine go_ifjA ((decide ((t3 % (2 : Int)) = (1 : Int)))) (fun σ_ H_ => ∃ (F_ : Hp) (v_base : V), L2.Same F F_ ∧ σ_ = [some v_script, some v_deeds_here, some v_base, none, none, none, none, none, none, none, none, none, none, none, none, none] ∧ GrX K F0 H0 F_ H_ ∧ rp (α := Int) K F_ v_base b4) G.sm (et_cmp op_eq o2_eq (ev_mod (ev_call (ok_at T) (hr.mono (by omega)) T.g_at T.F_at.kp (b_at T) (ea_cons (ev_varK 0 rfl r_script kv_law_0) (ea_cons ev_int ea_nil)) h_t3 gl_law_at) ev_int (by decide)) ev_int (nomark _)) (fun hc F H g => ?_) (fun hc F H g => ?_) (fun σ_ H hP_ => ?_)
  · replace hj := ipos hc hj
    clear hm
    have hm := hj
    clear hj
    have G := G.trans g
    have r_script := Rp.mono g.ff r_script
    have r_deeds_here := Rp.mono g.ff r_deeds_here
    have r_base := Rp.mono g.ff r_base
    have sj5 := g.ff
    obtain ⟨t6, h_t6, hm⟩ := Option.bind_eq_some_iff.mp hm
    obtain ⟨x_base, he, hm⟩ := Option.bind_eq_some_iff.mp hm
    refine go_setA (Int) 2 G.sm (ev_sub (ev_mod (ev_mul (ev_call (ok_at T) (hr.mono (by omega)) T.g_at T.F_at.kp (b_at T) (ea_cons (ev_varK 0 rfl r_script kv_law_0) (ea_cons ev_int ea_nil)) h_t6 gl_law_at) ev_int (CMul.r (by decide))) (ev_add (ev_mul ev_int (ev_powcA (100000000000000000) ev_int ev_int (by decide) (by decide +kernel)) (CMul.l (by decide))) ev_int) (by decide)) (ev_powcA (100000000000000000) ev_int ev_int (by decide) (by decide +kernel))) (fun v_base F H g rn_ => ?_) sc_law.nd
    have G := G.trans g
    have r_script := Rp.mono g.ff r_script
    have r_deeds_here := Rp.mono g.ff r_deeds_here
    have sj5 := sj5.trans g.ff
    have r_base := cg (Option.some.inj he) rn_
    have hm := Option.some.inj hm
    subst hm
    exact GoS.nil ⟨_, _, sj5, rfl, G, r_base⟩
  · replace hj := ineg (nt hc) hj
    clear hm
    have hm := hj
    clear hj
    have G := G.trans g
    have r_script := Rp.mono g.ff r_script
    have r_deeds_here := Rp.mono g.ff r_deeds_here
    have r_base := Rp.mono g.ff r_base
    have sj5 := g.ff
    have hm := Option.some.inj hm
    subst hm
    exact GoS.nil ⟨_, _, sj5, rfl, G, r_base⟩
  obtain ⟨F, v_base, sj_, rfl, G, r_base⟩ := hP_
  have r_script := Rp.mono sj_ r_script
  have r_deeds_here := Rp.mono sj_ r_deeds_here
  obtain ⟨t7, h_t7, hm⟩ := Option.bind_eq_some_iff.mp hm
  obtain ⟨t8, h_t8, hm⟩ := Option.bind_eq_some_iff.mp hm
  obtain ⟨x_program, he, hm⟩ := Option.bind_eq_some_iff.mp hm
  refine go_setA (QProgram) 3 G.sm (ev_make (z := QProgram.mk t8.1 t8.2.1) (names := fs_Program) (cn := "Program") (fun _ _ h => h) T.mk_Program (ok_Program_init T) (hr.mono (by omega)) T.g_Program (b_Program_init T) (ea_cons ev_int (ea_cons (ev_call (ok_told_deeds T) (hr.mono (by omega)) T.g_told_deeds T.F_told_deeds.kp (b_told_deeds T) (ea_cons (ev_varK 1 rfl r_deeds_here kv_law_1) (ea_cons ev_int (ea_cons (ev_varK 2 rfl r_base kv_law_2) ea_nil))) h_t7 gl_law_told_deeds) ea_nil)) h_t8) (fun v_program F H g rn_ => ?_) sc_law.nd
  have G := G.trans g
  have r_script := Rp.mono g.ff r_script
  have r_deeds_here := Rp.mono g.ff r_deeds_here
  have r_base := Rp.mono g.ff r_base
  have r_program := cg (Option.some.inj he) rn_
  change GoS _ _ _ [some v_script, some v_deeds_here, some v_base, some v_program, none, none, none, none, none, none, none, none, none, none, none, none] _
  obtain ⟨t9, h_t9, hm⟩ := Option.bind_eq_some_iff.mp hm
  obtain ⟨x_plan, he, hm⟩ := Option.bind_eq_some_iff.mp hm
  refine go_setA ((Tp UItem)) 4 G.sm (ev_call (ok_own_plan T) (hr.mono (by omega)) T.g_own_plan T.F_own_plan.kp (b_own_plan T) (ea_cons (ev_varK 3 rfl r_program kv_law_3) ea_nil) h_t9 gl_law_own_plan) (fun v_plan F H g rn_ => ?_) sc_law.nd
  have G := G.trans g
  have r_script := Rp.mono g.ff r_script
  have r_deeds_here := Rp.mono g.ff r_deeds_here
  have r_base := Rp.mono g.ff r_base
  have r_program := Rp.mono g.ff r_program
  have r_plan := cg (Option.some.inj he) rn_
  change GoS _ _ _ [some v_script, some v_deeds_here, some v_base, some v_program, some v_plan, none, none, none, none, none, none, none, none, none, none, none] _
  obtain ⟨x_some, he, hm⟩ := Option.bind_eq_some_iff.mp hm
  refine go_setNA ((List (T2 Int (Tp Int)))) 5 G.sm (en_list el_nil (Nat.zero_le _)) (fun l_some vs_ F H g nl_ fl_ hl_ rs_ => ?_) sc_law.nd
  have n0_ := G.hh.free nl_
  have G := G.trans g
  have r_script := Rp.mono g.ff r_script
  have r_deeds_here := Rp.mono g.ff r_deeds_here
  have r_base := Rp.mono g.ff r_base
  have r_program := Rp.mono g.ff r_program
  have r_plan := Rp.mono g.ff r_plan
  have o_some : Own K _ F H l_some _ := Own.cg (Option.some.inj he) ⟨n0_, fl_, vs_, hl_, rs_⟩
  change GoS _ _ _ [some v_script, some v_deeds_here, some v_base, some v_program, some v_plan, some (.ref l_some), none, none, none, none, none, none, none, none, none, none] _
  obtain ⟨b20, ho_, hm⟩ := Option.bind_eq_some_iff.mp hm
  refine go_forN G.sm (ei_enum (ev_varK 1 rfl r_deeds_here kv_law_1) T.n_enumerate) (pg_tup rfl (pgs_cons (pg_name (i := 6) sc_law.nd rfl (by first | exact Or.inl rfl | exact Or.inr rfl)) (pgs_cons (pg_name (i := 7) sc_law.nd rfl (by first | exact Or.inl rfl | exact Or.inr rfl)) pgs_nil))) ho_ (fun F H g => ?_) PassesOwn.never
  have G := G.trans g
  have r_script := Rp.mono g.ff r_script
  have r_deeds_here := Rp.mono g.ff r_deeds_here
  have r_base := Rp.mono g.ff r_base
  have r_program := Rp.mono g.ff r_program
  have r_plan := Rp.mono g.ff r_plan
  have o_some := o_some.up g
  refine ⟨fun (b10 : (List (T2 Int (Tp Int)))) σ_ F_ H_ => ∃ (u_k : Option V) (u_deed : Option V), σ_ = [some v_script, some v_deeds_here, some v_base, some v_program, some v_plan, some (.ref l_some), u_k, u_deed, none, none, none, none, none, none, none, none] ∧ GrX K F0 H0 F_ H_ ∧ Own K H0 F_ H_ l_some b10, ⟨_, _, rfl, G, o_some⟩, ?_, ?_⟩
  ·
    intro b10 i11 o_ hm σ_ F H w_ s1_ s2_ iv_ F H g ri_ Q_ hQ_
    obtain ⟨u_k, u_deed, rfl, G, o_some⟩ := iv_
    have sb15 := g.ff
    have r_base := Rp.mono s1_ r_base
    have G := G.trans g
    have r_base := Rp.mono g.ff r_base
    have o_some := o_some.up g
    obtain ⟨pa13, _, rfl, sq14, v_k, _, rfl, r_k, v_deed, _, rfl, r_deed, rfl⟩ := ri_
    refine ⟨pa13, _, rfl, seqT_mono g.fh sq14, rfl, _, _, rfl, _, _, rfl, rfl, hQ_ _ _ ?_⟩
    change GoS _ _ _ [some v_script, some v_deeds_here, some v_base, some v_program, some v_plan, some (.ref l_some), some v_k, some v_deed, none, none, none, none, none, none, none, none] _
    obtain ⟨t16, h_t16, hm⟩ := Option.bind_eq_some_iff.mp hm
    obtain ⟨t18, h_t18, hm⟩ := Option.bind_eq_some_iff.mp hm
    obtain ⟨t19, h_t19, hm⟩ := Option.bind_eq_some_iff.mp hm
    refine go_exprM (ρ := Unit) (β := (List (T2 Int (Tp Int)))) G.sm (em_extend 5 o_some rfl (EvN.evA ((List (T2 Int (Tp Int)))) (en_comp (own := [("_law_small", 9)]) sc_law.nd (ei_list (ev_call (ok_values T) (hr.mono (by omega)) T.g_values T.F_values.kp (b_values T) (ea_cons (ev_ixT (ev_varK 7 rfl r_deed kv_law_7) ev_int pj0) ea_nil) h_t16 gl_law_values)) h_t18 (blkOk_by (N := ["_law_script", "_law_deeds_here", "_law_base", "_law_program", "_law_plan", "_law_some", "_law_k", "_law_deed", "_law_one", "_law_small", "_law_at_here", "_law_step", "_law_other", "_law_due", "_law_said", "_law_found"]) (sc := defScope s_law) (by decide +kernel)) (fun _ _ _ _ _ => (pg_name (i := 9) sc_law.nd rfl (by first | exact Or.inl rfl | exact Or.inr rfl))) (fun x_small o_ hm F H v_small g r_small Q hQ => by
            have r_base := Rp.mono g.ff r_base
            have r_k := Rp.mono g.ff r_k
            have r_deed := Rp.mono g.ff r_deed
            refine hQ _ rfl ?_
            obtain ⟨t17, h_t17, hm⟩ := Option.bind_eq_some_iff.mp hm
            exact ⟨_, (Option.some.inj hm).symm, fun s_ H_ C_ cl_ fp_ => (ev_tup2 (ea_cons (ev_var 6 rfl r_k) (ea_cons (ev_callTy call_tuple_of oc_tuple T.n_tuple (by decide +kernel) (ea_cons (EvN.evA ((List Int)) (en_comp (own := [("_law_one", 8)]) sc_law.nd (ei_tp (ev_var 9 rfl r_small)) h_t17 (blkOk_by (N := ["_law_script", "_law_deeds_here", "_law_base", "_law_program", "_law_plan", "_law_some", "_law_k", "_law_deed", "_law_one", "_law_small", "_law_at_here", "_law_step", "_law_other", "_law_due", "_law_said", "_law_found"]) (sc := _) (by first | rfl | with_unfolding_all rfl)) (fun _ _ _ _ _ => (pg_name (i := 8) sc_law.nd rfl (by first | exact Or.inl rfl | exact Or.inr rfl))) (fun x_one o_ hm F H v_one g r_one Q hQ => by
            have r_base := Rp.mono g.ff r_base
            have r_small := Rp.mono g.ff r_small
            refine hQ _ rfl ?_
            exact ⟨_, (Option.some.inj hm).symm, fun s_ H_ C_ cl_ fp_ => (ev_add (ev_var 8 rfl r_one) (ev_var 2 rfl r_base))⟩))) ea_nil)) ea_nil)))⟩))) h_t19) (fun F H ob_ g fl_ hl_ rb_ => ?_)
    have Gm_ := G.over o_some.n g o_some.pl
    have r_base := Rp.mono g.ff r_base
    have r_k := Rp.mono g.ff r_k
    have r_deed := Rp.mono g.ff r_deed
    have sb15 := sb15.trans g.ff
    have G := Gm_
    have o_some := Own.mk' o_some.n fl_ hl_ rb_
    have hm := Option.some.inj hm
    subst hm
    exact GoS.nil ⟨_, sb15, G.fh, ⟨_, _, rfl, G, o_some⟩⟩
  · intro σ_ F H s1_ s2_ iv_
    obtain ⟨u_k, u_deed, rfl, G, o_some⟩ := iv_
    have r_script := Rp.mono s1_ r_script
    have r_deeds_here := Rp.mono s1_ r_deeds_here
    have r_program := Rp.mono s1_ r_program
    have r_plan := Rp.mono s1_ r_plan
    change GoS _ _ _ [some v_script, some v_deeds_here, some v_base, some v_program, some v_plan, some (.ref l_some), u_k, u_deed, none, none, none, none, none, none, none, none] _
    refine go_ifA ((decide ((b20.length : Int) < (2 : Int)))) G.sm (et_cmp op_lt o2_lt (ev_lenOwn 5 o_some rfl T.n_len) ev_int (nomark _)) (fun hc F H g => ?_) (fun hc F H g => ?_)
    · replace hm := ipos hc hm
      have G := G.trans g
      have r_script := Rp.mono g.ff r_script
      have r_deeds_here := Rp.mono g.ff r_deeds_here
      have r_program := Rp.mono g.ff r_program
      have r_plan := Rp.mono g.ff r_plan
      have o_some := o_some.up g
      exact go_ret G.sm ev_bl fun v_ F_ H_ g_ rv_ => kr _ _ _ (G.trans g_) (cg (Option.some.inj hm) rv_)
    · replace hm := ineg (nt hc) hm
      have G := G.trans g
      have r_script := Rp.mono g.ff r_script
      have r_deeds_here := Rp.mono g.ff r_deeds_here
      have r_program := Rp.mono g.ff r_program
      have r_plan := Rp.mono g.ff r_plan
      have o_some := o_some.up g
      refine GoS.nil ?_
      obtain ⟨t21, h_t21, hm⟩ := Option.bind_eq_some_iff.mp hm
      obtain ⟨o24, ho_, hm⟩ := Option.bind_eq_some_iff.mp hm
      refine go_forM G.sm (ei_range2 ev_int (ev_callB (call_min2 rfl) oc_min2 T.n_min (by decide +kernel) (ea_cons (ev_callB (call_max2 rfl) oc_max2 T.n_max (by decide +kernel) (ea_cons (ev_callB call_len_seq oc_lenL T.n_len PySem.boot_len (ea_cons (ev_varK 0 rfl r_script kv_law_0) ea_nil)) (ea_cons ev_int ea_nil))) (ea_cons ev_int ea_nil))) h_t21 T.n_range) (pg_name (i := 6) sc_law.nd rfl (by first | exact Or.inl rfl | exact Or.inr rfl)) ho_ hm (fun F H g => ?_) PassesOwn.never
      have G := G.trans g
      have r_script := Rp.mono g.ff r_script
      have r_deeds_here := Rp.mono g.ff r_deeds_here
      have r_program := Rp.mono g.ff r_program
      have r_plan := Rp.mono g.ff r_plan
      have o_some := o_some.up g
      refine ⟨fun (b22 : Unit) σ_ F_ H_ => ∃ (u_at_here : Option V) (u_step : Option V) (u_one : Option V) (u_other : Option V) (u_due : Option V) (u_said : Option V) (u_found : Option V) (u_k : Option V), σ_ = [some v_script, some v_deeds_here, some v_base, some v_program, some v_plan, some (.ref l_some), u_k, u_deed, u_one, none, u_at_here, u_step, u_other, u_due, u_said, u_found] ∧ GrX K F0 H0 F_ H_ ∧ Own K H0 F_ H_ l_some b20, fun r_ v_ H_ => ∃ F_, GrX K F0 H0 F_ H_ ∧ rp K F_ v_ r_, ⟨_, _, _, _, _, _, _, _, rfl, G, o_some⟩, ?_, ?_, ?_⟩
      ·
        intro b22 x_k o_ hm σ_ F H v_k s1_ s2_ iv_ F H g r_k Q_ hQ_
        obtain ⟨u_at_here, u_step, u_one, u_other, u_due, u_said, u_found, u_k, rfl, G, o_some⟩ := iv_
        have sb25 := g.ff
        have r_script := Rp.mono s1_ r_script
        have r_deeds_here := Rp.mono s1_ r_deeds_here
        have r_program := Rp.mono s1_ r_program
        have r_plan := Rp.mono s1_ r_plan
        have G := G.trans g
        have r_script := Rp.mono g.ff r_script
        have r_deeds_here := Rp.mono g.ff r_deeds_here
        have r_program := Rp.mono g.ff r_program
        have r_plan := Rp.mono g.ff r_plan
        have o_some := o_some.up g
        refine hQ_ _ _ ?_
        change GoS _ _ _ [some v_script, some v_deeds_here, some v_base, some v_program, some v_plan, some (.ref l_some), some v_k, u_deed, u_one, none, u_at_here, u_step, u_other, u_due, u_said, u_found] _
        obtain ⟨t26, h_t26, hm⟩ := Option.bind_eq_some_iff.mp hm
        obtain ⟨t27, h_t27, hm⟩ := Option.bind_eq_some_iff.mp hm
        obtain ⟨i28, he, hm⟩ := Option.bind_eq_some_iff.mp hm
        refine go_unpack G.sm (ev_call (ok_digits T) (hr.mono (by omega)) T.g_digits T.F_digits.kp (b_digits T) (ea_cons (ev_call (ok_at T) (hr.mono (by omega)) T.g_at T.F_at.kp (b_at T) (ea_cons (ev_varK 0 rfl r_script kv_law_0) (ea_cons (ev_varK 6 rfl r_k kv_law_6) ea_nil)) h_t26 gl_law_at) (ea_cons (EvN.evA ((List Int)) (en_list (el_cons (ev_lenOwn 5 o_some rfl T.n_len) (el_cons (ev_sub (ev_lenOwn 5 o_some rfl T.n_len) ev_int) el_nil)) (by show 2 ≤ sizeLine; decide))) ea_nil)) h_t27 gl_law_digits) (pg_lst rfl (pgs_cons (pg_name (i := 10) sc_law.nd rfl (by first | exact Or.inl rfl | exact Or.inr rfl)) (pgs_cons (pg_name (i := 11) sc_law.nd rfl (by first | exact Or.inl rfl | exact Or.inr rfl)) pgs_nil))) (fun w_ F H g ri_ Q_ hQ_ => ?_)
        have ri_ := unl2 he ri_
        have G := G.trans g
        have r_script := Rp.mono g.ff r_script
        have r_deeds_here := Rp.mono g.ff r_deeds_here
        have r_program := Rp.mono g.ff r_program
        have r_plan := Rp.mono g.ff r_plan
        have o_some := o_some.up g
        have r_k := Rp.mono g.ff r_k
        have sb25 := sb25.trans g.ff
        obtain ⟨pa29, _, rfl, sq30, v_at_here, _, rfl, r_at_here, v_step, _, rfl, r_step, rfl⟩ := ri_
        refine ⟨pa29, _, rfl, seqL_mono G.fh sq30, rfl, _, _, rfl, _, _, rfl, rfl, hQ_ _ _ ?_⟩
        change GoS _ _ _ [some v_script, some v_deeds_here, some v_base, some v_program, some v_plan, some (.ref l_some), some v_k, u_deed, u_one, none, some v_at_here, some v_step, u_other, u_due, u_said, u_found] _
        obtain ⟨t31, h_t31, hm⟩ := Option.bind_eq_some_iff.mp hm
        obtain ⟨x_one, he, hm⟩ := Option.bind_eq_some_iff.mp hm
        refine go_setA ((T2 Int (Tp Int))) 8 G.sm (ev_ixOwn 5 o_some rfl (ev_varK 10 rfl r_at_here kv_law_10) h_t31) (fun v_one F H g rn_ => ?_) sc_law.nd
        have G := G.trans g
        have r_deeds_here := Rp.mono g.ff r_deeds_here
        have r_program := Rp.mono g.ff r_program
        have r_plan := Rp.mono g.ff r_plan
        have o_some := o_some.up g
        have r_at_here := Rp.mono g.ff r_at_here
        have r_step := Rp.mono g.ff r_step
        have sb25 := sb25.trans g.ff
        have r_one := cg (Option.some.inj he) rn_
        change GoS _ _ _ [some v_script, some v_deeds_here, some v_base, some v_program, some v_plan, some (.ref l_some), some v_k, u_deed, some v_one, none, some v_at_here, some v_step, u_other, u_due, u_said, u_found] _
        obtain ⟨t32, h_t32, hm⟩ := Option.bind_eq_some_iff.mp hm
        obtain ⟨t33, h_t33, hm⟩ := Option.bind_eq_some_iff.mp hm
        obtain ⟨x_other, he, hm⟩ := Option.bind_eq_some_iff.mp hm
        refine go_setA ((T2 Int (Tp Int))) 12 G.sm (ev_ixOwn 5 o_some rfl (ev_modG (ev_add (ev_add (ev_varK 10 rfl r_at_here kv_law_10) ev_int) (ev_varK 11 rfl r_step kv_law_11)) (ev_lenOwn 5 o_some rfl T.n_len) h_t32) h_t33) (fun v_other F H g rn_ => ?_) sc_law.nd
        have G := G.trans g
        have r_deeds_here := Rp.mono g.ff r_deeds_here
        have r_program := Rp.mono g.ff r_program
        have r_plan := Rp.mono g.ff r_plan
        have o_some := o_some.up g
        have r_at_here := Rp.mono g.ff r_at_here
        have r_step := Rp.mono g.ff r_step
        have r_one := Rp.mono g.ff r_one
        have sb25 := sb25.trans g.ff
        have r_other := cg (Option.some.inj he) rn_
        change GoS _ _ _ [some v_script, some v_deeds_here, some v_base, some v_program, some v_plan, some (.ref l_some), some v_k, u_deed, some v_one, none, some v_at_here, some v_step, some v_other, u_due, u_said, u_found] _
        obtain ⟨t34, h_t34, hm⟩ := Option.bind_eq_some_iff.mp hm
        obtain ⟨x_due, he, hm⟩ := Option.bind_eq_some_iff.mp hm
        refine go_setA (Bool) 13 G.sm (ev_call (ok_before T) (hr.mono (by omega)) T.g_before T.F_before.kp (b_before T) (ea_cons (ev_varK 8 rfl r_one kv_law_8) (ea_cons (ev_varK 12 rfl r_other kv_law_12) (ea_cons (ev_varK 1 rfl r_deeds_here kv_law_1) ea_nil))) h_t34 gl_law_before) (fun v_due F H g rn_ => ?_) sc_law.nd
        have G := G.trans g
        have r_deeds_here := Rp.mono g.ff r_deeds_here
        have r_program := Rp.mono g.ff r_program
        have r_plan := Rp.mono g.ff r_plan
        have o_some := o_some.up g
        have r_one := Rp.mono g.ff r_one
        have r_other := Rp.mono g.ff r_other
        have sb25 := sb25.trans g.ff
        have r_due := cg (Option.some.inj he) rn_
        change GoS _ _ _ [some v_script, some v_deeds_here, some v_base, some v_program, some v_plan, some (.ref l_some), some v_k, u_deed, some v_one, none, some v_at_here, some v_step, some v_other, some v_due, u_said, u_found] _
        obtain ⟨t35, h_t35, hm⟩ := Option.bind_eq_some_iff.mp hm
        obtain ⟨x_said, he, hm⟩ := Option.bind_eq_some_iff.mp hm
        refine go_setA (Bool) 14 G.sm (ev_call (ok_ahead T) (hr.mono (by omega)) T.g_ahead T.F_ahead.kp (b_ahead T) (ea_cons (ev_varK 3 rfl r_program kv_law_3) (ea_cons (ev_varK 8 rfl r_one kv_law_8) (ea_cons (ev_varK 12 rfl r_other kv_law_12) ea_nil))) h_t35 gl_law_ahead) (fun v_said F H g rn_ => ?_) sc_law.nd
        have G := G.trans g
        have r_program := Rp.mono g.ff r_program
        have r_plan := Rp.mono g.ff r_plan
        have o_some := o_some.up g
        have r_one := Rp.mono g.ff r_one
        have r_other := Rp.mono g.ff r_other
        have r_due := Rp.mono g.ff r_due
        have sb25 := sb25.trans g.ff
        have r_said := cg (Option.some.inj he) rn_
        change GoS _ _ _ [some v_script, some v_deeds_here, some v_base, some v_program, some v_plan, some (.ref l_some), some v_k, u_deed, some v_one, none, some v_at_here, some v_step, some v_other, some v_due, some v_said, u_found] _
        refine go_ifA (((!true) || (!decide (x_said = x_due)))) G.sm (EvW.t (ew_orP (et_not (et_val (ev_isi (T := "bool") (r := true) (by decide +kernel) T.n_isinstance T.n_bool (by decide +kernel) (ev_varK 14 rfl r_said kv_law_14)))) (ew_or1 (et_cmp op_ne o2_ne (ev_varK 14 rfl r_said kv_law_14) (ev_varK 13 rfl r_due kv_law_13) (nomark _))))) (fun hc F H g => ?_) (fun hc F H g => ?_)
        · replace hm := ipos hc hm
          have G := G.trans g
          have r_program := Rp.mono g.ff r_program
          have r_plan := Rp.mono g.ff r_plan
          have o_some := o_some.up g
          have r_one := Rp.mono g.ff r_one
          have r_other := Rp.mono g.ff r_other
          have r_due := Rp.mono g.ff r_due
          have r_said := Rp.mono g.ff r_said
          have sb25 := sb25.trans g.ff
          exact go_ret G.sm ev_bl fun v_ F_ H_ g_ rv_ => ⟨_, (Option.some.inj hm).symm, F_, G.trans g_, rv_⟩
        · replace hm := ineg (nt hc) hm
          have G := G.trans g
          have r_program := Rp.mono g.ff r_program
          have r_plan := Rp.mono g.ff r_plan
          have o_some := o_some.up g
          have r_one := Rp.mono g.ff r_one
          have r_other := Rp.mono g.ff r_other
          have r_due := Rp.mono g.ff r_due
          have r_said := Rp.mono g.ff r_said
          have sb25 := sb25.trans g.ff
          refine GoS.nil ?_
          obtain ⟨t36, h_t36, hm⟩ := Option.bind_eq_some_iff.mp hm
          obtain ⟨x_found, he, hm⟩ := Option.bind_eq_some_iff.mp hm
          refine go_setA (Int) 15 G.sm (ev_call (ok_order_of T) (hr.mono (by omega)) T.g_order_of T.F_order_of.kp (b_order_of T) (ea_cons (ev_varK 3 rfl r_program kv_law_3) (ea_cons (ev_varK 4 rfl r_plan kv_law_4) (ea_cons (EvN.evA ((List Int)) (en_list el_nil (Nat.zero_le _))) (ea_cons (ev_varK 8 rfl r_one kv_law_8) (ea_cons (ev_varK 12 rfl r_other kv_law_12) ea_nil))))) h_t36 gl_law_order_of) (fun v_found F H g rn_ => ?_) sc_law.nd
          have G := G.trans g
          have r_program := Rp.mono g.ff r_program
          have r_plan := Rp.mono g.ff r_plan
          have o_some := o_some.up g
          have r_one := Rp.mono g.ff r_one
          have r_other := Rp.mono g.ff r_other
          have r_due := Rp.mono g.ff r_due
          have sb25 := sb25.trans g.ff
          have r_found := cg (Option.some.inj he) rn_
          change GoS _ _ _ [some v_script, some v_deeds_here, some v_base, some v_program, some v_plan, some (.ref l_some), some v_k, u_deed, some v_one, none, some v_at_here, some v_step, some v_other, some v_due, some v_said, some v_found] _
          refine go_ifA (((!true) || (false || (!decide (x_found = ((1 : Int) - ((2 : Int) * (if x_due = true then (1 : Int) else 0)))))))) G.sm (EvW.t (ew_orP (et_not (et_val (ev_isi (T := "int") (r := true) (by decide +kernel) T.n_isinstance T.n_int (by decide +kernel) (ev_varK 15 rfl r_found kv_law_15)))) (ew_orP (et_val (ev_isi (T := "bool") (r := false) (by decide +kernel) T.n_isinstance T.n_bool (by decide +kernel) (ev_varK 15 rfl r_found kv_law_15))) (ew_or1 (et_cmp op_ne o2_ne (ev_varK 15 rfl r_found kv_law_15) (ev_sub ev_int (ev_mul ev_int (ev_callTy call_int1 oc_intB T.n_int (by decide +kernel) (ea_cons (ev_varK 13 rfl r_due kv_law_13) ea_nil)) (CMul.l (by decide)))) (nomark _)))))) (fun hc F H g => ?_) (fun hc F H g => ?_)
          · replace hm := ipos hc hm
            have G := G.trans g
            have o_some := o_some.up g
            have r_due := Rp.mono g.ff r_due
            have r_found := Rp.mono g.ff r_found
            have sb25 := sb25.trans g.ff
            exact go_ret G.sm ev_bl fun v_ F_ H_ g_ rv_ => ⟨_, (Option.some.inj hm).symm, F_, G.trans g_, rv_⟩
          · replace hm := ineg (nt hc) hm
            have G := G.trans g
            have o_some := o_some.up g
            have r_due := Rp.mono g.ff r_due
            have r_found := Rp.mono g.ff r_found
            have sb25 := sb25.trans g.ff
            refine GoS.nil ?_
            exact GoS.nil ⟨_, _, (Option.some.inj hm).symm, sb25, G.fh, ⟨_, _, _, _, _, _, _, _, rfl, G, o_some⟩⟩
      · intro b37 hm σ_ F H s1_ s2_ iv_
        obtain ⟨u_at_here, u_step, u_one, u_other, u_due, u_said, u_found, u_k, rfl, G, o_some⟩ := iv_
        change GoS _ _ _ [some v_script, some v_deeds_here, some v_base, some v_program, some v_plan, some (.ref l_some), u_k, u_deed, u_one, none, u_at_here, u_step, u_other, u_due, u_said, u_found] _
        exact go_ret G.sm ev_bl fun v_ F_ H_ g_ rv_ => kr _ _ _ (G.trans g_) (cg (Option.some.inj hm) rv_)
      · intro r_ he v_ H_ hv_
        obtain ⟨F_, g_, rv_⟩ := hv_
        exact kr _ _ _ g_ (cg (Option.some.inj he) rv_)
end

def D_at : He.DefD := ⟨("_law_at", none), "_law_at", "_law_at", defArgs s_at, defBody s_at, defScope s_at, [], []⟩
def D_digits : He.DefD := ⟨("_law_digits", none), "_law_digits", "_law_digits", defArgs s_digits, defBody s_digits, defScope s_digits, [], []⟩
def D_loop : He.DefD := ⟨("_law_loop", none), "_law_loop", "_law_loop", defArgs s_loop, defBody s_loop, defScope s_loop, [], []⟩
def D_deeds : He.DefD := ⟨("_law_deeds", none), "_law_deeds", "_law_deeds", defArgs s_deeds, defBody s_deeds, defScope s_deeds, [], []⟩
def D_told : He.DefD := ⟨("_law_told", none), "_law_told", "_law_told", defArgs s_told, defBody s_told, defScope s_told, [], []⟩
def D_Number_init : He.DefD := ⟨("Number", some "__init__"), "__init__", "Number.__init__", defArgs s_Number_init, defBody s_Number_init, defScope s_Number_init, [], []⟩
def D_Deed_init : He.DefD := ⟨("Deed", some "__init__"), "__init__", "Deed.__init__", defArgs s_Deed_init, defBody s_Deed_init, defScope s_Deed_init, [], []⟩
def D_told_deeds : He.DefD := ⟨("_law_told_deeds", none), "_law_told_deeds", "_law_told_deeds", defArgs s_told_deeds, defBody s_told_deeds, defScope s_told_deeds, [], []⟩
def D_Program_init : He.DefD := ⟨("Program", some "__init__"), "__init__", "Program.__init__", defArgs s_Program_init, defBody s_Program_init, defScope s_Program_init, [], []⟩
def D_shared : He.DefD := ⟨("shared", none), "shared", "shared", defArgs s_shared, defBody s_shared, defScope s_shared, [], []⟩
def D_own_items : He.DefD := ⟨("own_items", none), "own_items", "own_items", defArgs s_own_items, defBody s_own_items, defScope s_own_items, [], []⟩
def D_own_plan : He.DefD := ⟨("own_plan", none), "own_plan", "own_plan", defArgs s_own_plan, defBody s_own_plan, defScope s_own_plan, [], []⟩
def D_values : He.DefD := ⟨("_law_values", none), "_law_values", "_law_values", defArgs s_values, defBody s_values, defScope s_values, [], []⟩
def D_before : He.DefD := ⟨("_law_before", none), "_law_before", "_law_before", defArgs s_before, defBody s_before, defScope s_before, [], []⟩
def D_ahead : He.DefD := ⟨("ahead", none), "ahead", "ahead", defArgs s_ahead, defBody s_ahead, defScope s_ahead, [], []⟩
def D_stand_within : He.DefD := ⟨("stand_within", none), "stand_within", "stand_within", defArgs s_stand_within, defBody s_stand_within, defScope s_stand_within, [], []⟩
def D_stand : He.DefD := ⟨("stand", none), "stand", "stand", defArgs s_stand, defBody s_stand, defScope s_stand, [], []⟩
def D_sweeps_within : He.DefD := ⟨("sweeps_within", none), "sweeps_within", "sweeps_within", defArgs s_sweeps_within, defBody s_sweeps_within, defScope s_sweeps_within, [], []⟩
def D_sweeps_of : He.DefD := ⟨("sweeps_of", none), "sweeps_of", "sweeps_of", defArgs s_sweeps_of, defBody s_sweeps_of, defScope s_sweeps_of, [], []⟩
def D_time_of : He.DefD := ⟨("time_of", none), "time_of", "time_of", defArgs s_time_of, defBody s_time_of, defScope s_time_of, [], []⟩
def D_order_of : He.DefD := ⟨("order_of", none), "order_of", "order_of", defArgs s_order_of, defBody s_order_of, defScope s_order_of, [], []⟩
def D_law : He.DefD := ⟨("law", none), "law", "law", defArgs s_law, defBody s_law, defScope s_law, [], []⟩
def fn : List He.DefD := [D_at, D_digits, D_loop, D_deeds, D_told, D_Number_init, D_Deed_init, D_told_deeds, D_Program_init, D_shared, D_own_items, D_own_plan, D_values, D_before, D_ahead, D_stand_within, D_stand, D_sweeps_within, D_sweeps_of, D_time_of, D_order_of, D_law]
def fa : List He.Fa := [.glo "_law_at", .glo "_law_digits", .glo "_law_loop", .glo "_law_deeds", .glo "_law_told", .glo "_law_told_deeds", .glo "shared", .glo "own_items", .glo "own_plan", .glo "_law_values", .glo "_law_before", .glo "ahead", .glo "stand_within", .glo "stand", .glo "sweeps_within", .glo "sweeps_of", .glo "time_of", .glo "order_of", .glo "law", .glo "Program", .cls "Program", .mkr "Program", .noat "Program" "size", .noat "Program" "deeds", .glo "Deed", .cls "Deed", .mkr "Deed", .noat "Deed" "names", .noat "Deed" "lows", .noat "Deed" "highs", .noat "Deed" "table", .noat "Deed" "spots", .noat "Deed" "term", .noat "Deed" "path", .glo "Number", .cls "Number", .mkr "Number", .noat "Number" "n", .free "bool", .free "enumerate", .free "int", .free "isinstance", .free "len", .free "list", .free "max", .free "min", .free "range", .free "tuple", .free "zip"]
abbrev R : PySem.W.OpenRow := PySem.W.OpenLaw.row PySem.Challenge.rw_furrow_k67_own_plan_is_plain
def ex (K : PySem.W.Frag) : Bool := true
abbrev hk : PySem.W.Hook := hookE 4 fa fn ex
def ob (s : PySem.W.SharedT) : AlE := obsE 4 fa fn ex (HandSHeadRun.getT s)
theorem ob_eq (s : PySem.W.SharedT) : ob s = hk.obs s.abs := obsE_eq (HandSHeadRun.getT_eq s)
def loose : List Str := ["_wall", "__name__", "Term", "Number", "Deed", "Program", "shared", "ahead", "own_items", "own_plan", "sweeps_within", "sweeps_of", "stand_within", "stand", "unknown", "loop_bonds", "shortened", "least_sums", "ends_at", "time_of", "order_of", "_law_at", "_law_digits", "_law_loop", "_law_deeds", "_law_told", "_law_told_deeds", "_law_values", "_law_before"]
theorem run (w : World) : HandSHeadRun.RunEq R (PySem.W.view R.prog [34]) hk ob 6500 loose w := by
  intro os
  kernel_rfl
theorem facts {K : PySem.W.Frag} {h : Heap} {mg : Str → Option Value} (X : K.In h) (G : h.Ns mainGlobals mg) (c : He.SaysD fa fn K) (cx : ex K = true) : ∃ T : Txt K mg, ∀ (s : Shared) (v : Value), BindsTo s T.d_law ⟨[v], []⟩ [("_law_script", v)] := by
  obtain ⟨d_at, F_at⟩ := c.def_ 0 (d := D_at) rfl
  obtain ⟨d_digits, F_digits⟩ := c.def_ 1 (d := D_digits) rfl
  obtain ⟨d_loop, F_loop⟩ := c.def_ 2 (d := D_loop) rfl
  obtain ⟨d_deeds, F_deeds⟩ := c.def_ 3 (d := D_deeds) rfl
  obtain ⟨d_told, F_told⟩ := c.def_ 4 (d := D_told) rfl
  obtain ⟨d_Number_init, F_Number_init⟩ := c.def_ 5 (d := D_Number_init) rfl
  obtain ⟨d_Deed_init, F_Deed_init⟩ := c.def_ 6 (d := D_Deed_init) rfl
  obtain ⟨d_told_deeds, F_told_deeds⟩ := c.def_ 7 (d := D_told_deeds) rfl
  obtain ⟨d_Program_init, F_Program_init⟩ := c.def_ 8 (d := D_Program_init) rfl
  obtain ⟨d_shared, F_shared⟩ := c.def_ 9 (d := D_shared) rfl
  obtain ⟨d_own_items, F_own_items⟩ := c.def_ 10 (d := D_own_items) rfl
  obtain ⟨d_own_plan, F_own_plan⟩ := c.def_ 11 (d := D_own_plan) rfl
  obtain ⟨d_values, F_values⟩ := c.def_ 12 (d := D_values) rfl
  obtain ⟨d_before, F_before⟩ := c.def_ 13 (d := D_before) rfl
  obtain ⟨d_ahead, F_ahead⟩ := c.def_ 14 (d := D_ahead) rfl
  obtain ⟨d_stand_within, F_stand_within⟩ := c.def_ 15 (d := D_stand_within) rfl
  obtain ⟨d_stand, F_stand⟩ := c.def_ 16 (d := D_stand) rfl
  obtain ⟨d_sweeps_within, F_sweeps_within⟩ := c.def_ 17 (d := D_sweeps_within) rfl
  obtain ⟨d_sweeps_of, F_sweeps_of⟩ := c.def_ 18 (d := D_sweeps_of) rfl
  obtain ⟨d_time_of, F_time_of⟩ := c.def_ 19 (d := D_time_of) rfl
  obtain ⟨d_order_of, F_order_of⟩ := c.def_ 20 (d := D_order_of) rfl
  obtain ⟨d_law, F_law⟩ := c.def_ 21 (d := D_law) rfl
  have b := FunD.bindsA (ps := ["_law_script"]) F_law fun _ _ _ _ _ _ us hl => match us, hl with | [_], _ => rfl
  exact ⟨⟨d_at, F_at, He.glo_ok X G (c.fact 0 (f := .glo "_law_at") rfl),
    d_digits, F_digits, He.glo_ok X G (c.fact 1 (f := .glo "_law_digits") rfl),
    d_loop, F_loop, He.glo_ok X G (c.fact 2 (f := .glo "_law_loop") rfl),
    d_deeds, F_deeds, He.glo_ok X G (c.fact 3 (f := .glo "_law_deeds") rfl),
    d_told, F_told, He.glo_ok X G (c.fact 4 (f := .glo "_law_told") rfl),
    d_Number_init, F_Number_init,
    d_Deed_init, F_Deed_init,
    d_told_deeds, F_told_deeds, He.glo_ok X G (c.fact 5 (f := .glo "_law_told_deeds") rfl),
    d_Program_init, F_Program_init,
    d_shared, F_shared, He.glo_ok X G (c.fact 6 (f := .glo "shared") rfl),
    d_own_items, F_own_items, He.glo_ok X G (c.fact 7 (f := .glo "own_items") rfl),
    d_own_plan, F_own_plan, He.glo_ok X G (c.fact 8 (f := .glo "own_plan") rfl),
    d_values, F_values, He.glo_ok X G (c.fact 9 (f := .glo "_law_values") rfl),
    d_before, F_before, He.glo_ok X G (c.fact 10 (f := .glo "_law_before") rfl),
    d_ahead, F_ahead, He.glo_ok X G (c.fact 11 (f := .glo "ahead") rfl),
    d_stand_within, F_stand_within, He.glo_ok X G (c.fact 12 (f := .glo "stand_within") rfl),
    d_stand, F_stand, He.glo_ok X G (c.fact 13 (f := .glo "stand") rfl),
    d_sweeps_within, F_sweeps_within, He.glo_ok X G (c.fact 14 (f := .glo "sweeps_within") rfl),
    d_sweeps_of, F_sweeps_of, He.glo_ok X G (c.fact 15 (f := .glo "sweeps_of") rfl),
    d_time_of, F_time_of, He.glo_ok X G (c.fact 16 (f := .glo "time_of") rfl),
    d_order_of, F_order_of, He.glo_ok X G (c.fact 17 (f := .glo "order_of") rfl),
    d_law, F_law, He.glo_ok X G (c.fact 18 (f := .glo "law") rfl),
    He.glo_ok X G (c.fact 19 (f := .glo "Program") rfl), He.cls_ok (c.fact 20 (f := .cls "Program") rfl), He.mkr_ok (c.fact 21 (f := .mkr "Program") rfl),
    He.noat_ok (c.fact 22 (f := .noat "Program" "size") rfl),
    He.noat_ok (c.fact 23 (f := .noat "Program" "deeds") rfl),
    He.glo_ok X G (c.fact 24 (f := .glo "Deed") rfl), He.cls_ok (c.fact 25 (f := .cls "Deed") rfl), He.mkr_ok (c.fact 26 (f := .mkr "Deed") rfl),
    He.noat_ok (c.fact 27 (f := .noat "Deed" "names") rfl),
    He.noat_ok (c.fact 28 (f := .noat "Deed" "lows") rfl),
    He.noat_ok (c.fact 29 (f := .noat "Deed" "highs") rfl),
    He.noat_ok (c.fact 30 (f := .noat "Deed" "table") rfl),
    He.noat_ok (c.fact 31 (f := .noat "Deed" "spots") rfl),
    He.noat_ok (c.fact 32 (f := .noat "Deed" "term") rfl),
    He.noat_ok (c.fact 33 (f := .noat "Deed" "path") rfl),
    He.glo_ok X G (c.fact 34 (f := .glo "Number") rfl), He.cls_ok (c.fact 35 (f := .cls "Number") rfl), He.mkr_ok (c.fact 36 (f := .mkr "Number") rfl),
    He.noat_ok (c.fact 37 (f := .noat "Number" "n") rfl),
    He.free_ok X G (c.fact 38 (f := .free "bool") rfl),
    He.free_ok X G (c.fact 39 (f := .free "enumerate") rfl),
    He.free_ok X G (c.fact 40 (f := .free "int") rfl),
    He.free_ok X G (c.fact 41 (f := .free "isinstance") rfl),
    He.free_ok X G (c.fact 42 (f := .free "len") rfl),
    He.free_ok X G (c.fact 43 (f := .free "list") rfl),
    He.free_ok X G (c.fact 44 (f := .free "max") rfl),
    He.free_ok X G (c.fact 45 (f := .free "min") rfl),
    He.free_ok X G (c.fact 46 (f := .free "range") rfl),
    He.free_ok X G (c.fact 47 (f := .free "tuple") rfl),
    He.free_ok X G (c.fact 48 (f := .free "zip") rfl)⟩, fun s v => b s [v] rfl⟩
def spLaw (K : PySem.W.Frag) : Sp := Pr K fun (a_ : List Int × Unit) => m_law a_.1
theorem sp_true {K : PySem.W.Frag} (H : Hp) (a : Addr) (ns : List Int) (hS : SqL K H a (ns.map V.int)) (ht : m_law ns = some true) : spLaw K [.ref a] H (fun v _ => v = .bl true) fun _ _ _ => False :=
  ⟨H, (ns, ()), true, ⟨L2.Same.refl H, ⟨fun P hP => (List.not_mem_nil hP).elim⟩⟩, ⟨.ref a, [], rfl, ⟨a, _, rfl, hS, Rps.of_ints ns⟩, rfl⟩, ht, fun _ _ _ _ r => r⟩

end Law
open PySem PySem.W PySem.Calls PyProof.Rows
theorem PySem.Challenge.cw_furrow_k67_own_plan_is_plain_holds : PySem.Challenge.rw_furrow_k67_own_plan_is_plain.Holds := by
  w_on; o_law
  refine HandSHeadRun.head_any (r := OpenLaw.row PySem.Challenge.rw_furrow_k67_own_plan_is_plain) (q := view (OpenLaw.row PySem.Challenge.rw_furrow_k67_own_plan_is_plain).prog [34]) (H := Law.hk) (ob := Law.ob) (M := 6500) (loose := Law.loose) (d := HandSHeadRun.topDef (OpenLaw.row PySem.Challenge.rw_furrow_k67_own_plan_is_plain).prog 34) (kwd := []) Law.ob_eq
    (by kernel_rfl) (fun s => by kernel_rfl) Law.run (by kernel_rfl) (by kernel_rfl) (by kernel_rfl) (by rfl) (by first | assumption | decide +kernel) (by decide +kernel) ⟨rfl, rfl, rfl, rfl, rfl, by decide +kernel⟩ ?hw ?hc
  case hw => w_witness2
  case hc =>
    refine L2.walk_ofE (l := PySem.Challenge.rw_furrow_k67_own_plan_is_plain) (n := 63) (k := 14) (x := "_law_script") (CX := L2.CX0) rfl (by decide) (by kernel_rfl) ⟨rfl, by decide, by decide⟩ ?F (fun _ _ _ _ z => z)
    intro w mg fa h Y G hmg0
    obtain ⟨K, KX, c, cx⟩ := Y
    have hmg : mg ("law" : PySem.Str) = some (.ref fa) := by
      have e : (HandSHeadRun.topDef (OpenLaw.row PySem.Challenge.rw_furrow_k67_own_plan_is_plain).prog 34).name = ("law" : PySem.Str) := by kernel_rfl
      rw [← e]
      exact hmg0
    obtain ⟨T, hb⟩ := Law.facts KX G c cx
    have e := hmg.symm.trans T.g_law
    cases e
    exact ⟨K, T.d_law, Law.spLaw K, KX, hb, fun H a ns hl _ hS => Law.sp_true H a ns hS (Law.law_true ns hl), fun base _ _ => Law.ok_law T⟩

