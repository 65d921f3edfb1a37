import PyProof.Rows.All
import HandS.Nested
import Wide.All
import OpenK.AllK
import Wide.FinOn
import HandS.ForMost
import HandS.ForExc
import HandS.IsInst
import HandS.Iter
import HandS.Wide
import PyProof.StrBlock2
import HandS.Defaults
import HandS.TupAny
import HandS.Codes
import HandS.Zip
import HandS.Rev
import HandS.RevRange
import HandS.Deep
import HandS.Strs
import HandS.More
import HandS.TupLen
import HandS.DictComp
import HandS.Words
import HandS.WordsExc
import HandS.Head0
import HandS.Head1
import HandS.Head2
import HandS.HeadEnd
import HandS.HeadHook1
import HandS.HeadHook2
import HandS.TupMul
import KE.KDictList
import HandS.Conv
import HandS.TryOnly
import HandS.DictTup
import PyProof.NeKinds
import KE.GoesEnum
import PyProof.EnumMake
import HandS.SortInts
import HandS.Exc
import HandS.ExcInit
import HandS.ExcField
import HandS.ExcOwn
import HandS.TryMany
import HandS.NestedK
import HandS.HeadHook4
import HandS.HeadWalk
import HandS.ExcIs
import HandS.Flt
import KE.SortKeyHeap
import HandS.HotCalls
import KE.GoesMore
import HandS.TupLe
import KE.DataMinMax
import HandS.ListItems
import KE.KDictCopyH
import KE.KStateDown
import PySem.Challenge.RW_furrow_k80_woven
set_option Elab.async false
set_option linter.all false
set_option maxRecDepth 100000
set_option maxHeartbeats 40000000
/-! G0: the code objects of the law's text that are made within defs. -/
namespace Gx
open PySem
/-- the name that the code object of a place bears -/
def nmG : Nat → Nat → Str := fun _ _ => ""
/-- the tables -/
def tabsG : PySem.W.Frag → List Addr := fun _ => []
end Gx

/-! Gx: a functional reading over the hand layer. -/
namespace Gx
open PySem PySem.Spec PyProof.Rows L2

/-! ### representation -/
class Rp (α : Type) where
  rp : PySem.W.Frag → Hp → V → α → Prop
  mono : ∀ {K : PySem.W.Frag} {F F' : Hp} {v : V} {x : α}, L2.Same F F' → rp K F v x → rp K F' v x
open Rp (rp)
instance : Rp Int := ⟨fun _ _ v x => v = .int x, fun _ h => h⟩
instance : Rp Bool := ⟨fun _ _ v x => v = .bl x, fun _ h => h⟩
instance : Rp Str := ⟨fun _ _ v x => v = .str x, fun _ h => h⟩
instance : Rp Unit := ⟨fun _ _ v _ => v = .non, fun _ h => h⟩
abbrev Rps {α : Type} [Rp α] (K : PySem.W.Frag) (F : Hp) : List V → List α → Prop := Paired (fun v x => rp K F v x)
theorem Rps.mono {α : Type} [Rp α] {K : PySem.W.Frag} {F F' : Hp} {vs : List V} {xs : List α} (s : L2.Same F F') (h : Rps K F vs xs) : Rps K F' vs xs := L2.Paired.mapP h fun _ _ => Rp.mono s
/-- a tracked tuple -/
def TupF (F : Hp) (a : Addr) (xs : List V) : Prop := F a = some (.tup xs)
theorem tupF_mono {H H' : Hp} {a : Addr} {xs : List V} (e : L2.Same H H') (h : TupF H a xs) : TupF H' a xs := e _ _ h
theorem seqT_mono {K : PySem.W.Frag} {H H' : Hp} {a : Addr} {xs : List V} (e : L2.Same H H') (h : TupF H a xs) : SqT K H' a xs := SqT.of (e _ _ h)
theorem sqT_mono {K : PySem.W.Frag} {H H' : Hp} {a : Addr} {xs : List V} (e : L2.Same H H') (h : SqT K H a xs) : SqT K H' a xs := by
  rcases h with (h | ⟨o, h⟩) | h
  · exact .inl (.inl (e _ _ h))
  · exact .inl (.inr ⟨o, e _ _ h⟩)
  · exact .inr h
instance {α : Type} [Rp α] : Rp (List α) := ⟨fun K F v xs => ∃ a vs, v = .ref a ∧ SqL K F a vs ∧ Rps K F vs xs, fun s ⟨a, vs, e, q, r⟩ => ⟨a, vs, e, s.seq q, r.mono s⟩⟩
/-- a tuple of things of one kind -/
structure Tp (α : Type) where
  l : List α
  deriving DecidableEq
instance {α : Type} [Rp α] : Rp (Tp α) := ⟨fun K F v xs => ∃ a vs, v = .ref a ∧ TupF F a vs ∧ Rps K F vs xs.l, fun s ⟨a, vs, e, q, r⟩ => ⟨a, vs, e, tupF_mono s q, r.mono s⟩⟩
/-- a constant tuple of things of one kind -/
structure Ct (α : Type) where
  l : List α
  deriving DecidableEq
instance {α : Type} [Rp α] : Rp (Ct α) := ⟨fun K F v xs => ∃ a vs, v = .ref a ∧ SqT K F a vs ∧ Rps K F vs xs.l, fun s ⟨a, vs, e, q, r⟩ => ⟨a, vs, e, sqT_mono s q, r.mono s⟩⟩
/-- a tuple of things of one kind whose object has no dict of its own -/
structure Tn (α : Type) where
  l : List α
  deriving DecidableEq
instance {α : Type} [Rp α] : Rp (Tn α) := ⟨fun K F v xs => ∃ a vs o, v = .ref a ∧ F a = some (.frz o (.tup vs)) ∧ o.dict = none ∧ o.cls = .type "tuple" ∧ Rps K F vs xs.l, fun s ⟨a, vs, o, e, q, d, c, r⟩ => ⟨a, vs, o, e, s _ _ q, d, c, r.mono s⟩⟩
/-- what stands as a tuple of things of one kind -/
class TL (θ : Type) (α : outParam Type) [Rp θ] [Rp α] where
  l : θ → List α
  sq : ∀ {K : PySem.W.Frag} {F : Hp} {v : V} {x : θ}, rp K F v x → ∃ a vs, v = .ref a ∧ SqT K F a vs ∧ Rps K F vs (l x)
instance {α : Type} [Rp α] : TL (Tp α) α := ⟨Tp.l, fun ⟨a, vs, e, q, r⟩ => ⟨a, vs, e, SqT.of q, r⟩⟩
instance {α : Type} [Rp α] : TL (Ct α) α := ⟨Ct.l, fun ⟨a, vs, e, q, r⟩ => ⟨a, vs, e, q, r⟩⟩
instance {α : Type} [Rp α] : TL (Tn α) α := ⟨Tn.l, fun ⟨a, vs, o, e, q, _, _, r⟩ => ⟨a, vs, e, .inl (.inr ⟨o, q⟩), r⟩⟩
/-- a row of values of unlike kinds: (x, (y, ())) -/
class Ra (τ : Type) where
  ra : PySem.W.Frag → Hp → List V → τ → Prop
  mono : ∀ {K : PySem.W.Frag} {F F' : Hp} {v : List V} {x : τ}, L2.Same F F' → ra K F v x → ra K F' v x
open Ra (ra)
instance : Ra Unit := ⟨fun _ _ vs _ => vs = [], fun _ h => h⟩
instance {α τ : Type} [Rp α] [Ra τ] : Ra (α × τ) := ⟨fun K F vs x => ∃ v r, vs = v :: r ∧ rp K F v x.1 ∧ ra K F r x.2, fun s ⟨v, r, e, p, q⟩ => ⟨v, r, e, Rp.mono s p, Ra.mono s q⟩⟩
/-- tuples of 2, 3, .. things -/
structure T1 (α : Type) where
  a : α
  deriving DecidableEq
structure T2 (α β : Type) where
  a : α
  b : β
  deriving DecidableEq
structure T3 (α β γ : Type) where
  a : α
  b : β
  c : γ
  deriving DecidableEq
structure T4 (α β γ δ : Type) where
  a : α
  b : β
  c : γ
  d : δ
  deriving DecidableEq
structure T5 (α β γ δ ε : Type) where
  a : α
  b : β
  c : γ
  d : δ
  e : ε
  deriving DecidableEq
/-- a kind that stands as a tuple: its row -/
class Tpl (θ : Type) (τ : outParam Type) where
  row : θ → τ
abbrev T1.row {α : Type} (x : T1 α) : α × Unit := (x.a, ())
abbrev T2.row {α β : Type} (x : T2 α β) : α × β × Unit := (x.a, x.b, ())
abbrev T3.row {α β γ : Type} (x : T3 α β γ) : α × β × γ × Unit := (x.a, x.b, x.c, ())
abbrev T4.row {α β γ δ : Type} (x : T4 α β γ δ) : α × β × γ × δ × Unit := (x.a, x.b, x.c, x.d, ())
abbrev T5.row {α β γ δ ε : Type} (x : T5 α β γ δ ε) : α × β × γ × δ × ε × Unit := (x.a, x.b, x.c, x.d, x.e, ())
def rpT {θ τ : Type} [Ra τ] (row : θ → τ) (K : PySem.W.Frag) (F : Hp) (v : V) (x : θ) : Prop := ∃ a vs, v = .ref a ∧ TupF F a vs ∧ ra K F vs (row x)
theorem rpT.mono {θ τ : Type} [Ra τ] {row : θ → τ} {K : PySem.W.Frag} {F F' : Hp} {v : V} {x : θ} (s : L2.Same F F') : rpT row K F v x → rpT row K F' v x := fun ⟨a, vs, e, q, r⟩ => ⟨a, vs, e, tupF_mono s q, Ra.mono s r⟩
instance {α : Type} [Rp α] : Rp (T1 α) := ⟨rpT T1.row, rpT.mono⟩
instance {α β : Type} [Rp α] [Rp β] : Rp (T2 α β) := ⟨rpT T2.row, rpT.mono⟩
instance {α β γ : Type} [Rp α] [Rp β] [Rp γ] : Rp (T3 α β γ) := ⟨rpT T3.row, rpT.mono⟩
instance {α β γ δ : Type} [Rp α] [Rp β] [Rp γ] [Rp δ] : Rp (T4 α β γ δ) := ⟨rpT T4.row, rpT.mono⟩
instance {α β γ δ ε : Type} [Rp α] [Rp β] [Rp γ] [Rp δ] [Rp ε] : Rp (T5 α β γ δ ε) := ⟨rpT T5.row, rpT.mono⟩
/-- None or a thing that is never None -/
class NN (α : Type) [Rp α] : Prop where
  nn : ∀ {K : PySem.W.Frag} {F : Hp} {x : α}, ¬ rp K F V.non x
instance : NN Int := ⟨fun h => nomatch h⟩
instance : NN Bool := ⟨fun h => nomatch h⟩
instance : NN Str := ⟨fun h => nomatch h⟩
instance {α : Type} [Rp α] : NN (List α) := ⟨fun ⟨_, _, e, _⟩ => nomatch e⟩
instance {α : Type} [Rp α] : NN (Tp α) := ⟨fun ⟨_, _, e, _⟩ => nomatch e⟩
instance {α : Type} [Rp α] : NN (Tn α) := ⟨fun ⟨_, _, _, e, _⟩ => nomatch e⟩
theorem rpT.nn {θ τ : Type} [Ra τ] {row : θ → τ} {K : PySem.W.Frag} {F : Hp} {x : θ} : ¬ rpT row K F .non x := fun ⟨_, _, e, _⟩ => nomatch e
instance {α : Type} [Rp α] : NN (T1 α) := ⟨rpT.nn⟩
instance {α β : Type} [Rp α] [Rp β] : NN (T2 α β) := ⟨rpT.nn⟩
instance {α β γ : Type} [Rp α] [Rp β] [Rp γ] : NN (T3 α β γ) := ⟨rpT.nn⟩
instance {α β γ δ : Type} [Rp α] [Rp β] [Rp γ] [Rp δ] : NN (T4 α β γ δ) := ⟨rpT.nn⟩
instance {α β γ δ ε : Type} [Rp α] [Rp β] [Rp γ] [Rp δ] [Rp ε] : NN (T5 α β γ δ ε) := ⟨rpT.nn⟩
def rpO {α : Type} [Rp α] (K : PySem.W.Frag) (F : Hp) (v : V) : Option α → Prop
  | none => v = .non
  | some x => rp K F v x
instance {α : Type} [Rp α] [NN α] : Rp (Option α) := ⟨rpO, fun {K F F' v x} s h => by
  cases x with
  | none => exact h
  | some x => exact Rp.mono (α := α) s h⟩
theorem rp_some {α : Type} [Rp α] [NN α] {K : PySem.W.Frag} {F : Hp} {v : V} {x : α} (h : rp K F v x) : rp K F v (some x) := h
theorem rp_none {α : Type} [Rp α] [NN α] {K : PySem.W.Frag} {F : Hp} : rp K F V.non (none : Option α) := rfl
theorem rp_isNone {α : Type} [Rp α] [NN α] {K : PySem.W.Frag} {F : Hp} {v : V} : ∀ {x : Option α}, rp K F v x → decide (v = .non) = x.isNone
  | none, h => by
    have e : v = .non := h
    rw [e]; rfl
  | some x, h => by
    have e : ¬ v = .non := fun e => by
      subst e
      exact NN.nn (α := α) h
    rw [decide_eq_false e]; rfl

/-! ### shared part and heap -/
/-- no tuple, nothing described by a wish -/
def lstish : HO → Prop
  | .tup _ => False
  | .frz _ (.tup _) => False
  | .ext _ => False
  | _ => True
/-- no table of code objects -/
def ntb : HO → Prop
  | .tbl _ => False
  | _ => True
/-- neither a table nor a code object -/
def pln : HO → Prop
  | .tbl _ => False
  | .ext _ => False
  | _ => True
theorem pln.ntb {o : HO} (h : pln o) : ntb o := by cases o <;> first | trivial | exact h
/-- a table stands at P that tells code objects of the names that their places have -/
def GdT (H : Hp) (P : Addr) : Prop := ∃ ps : Array Value, H P = some (.tbl ps) ∧ TriplesOk ps.toList ∧ ∀ (pos : Pos) (cv : Value), codeAmong pos ps.toList = some cv → ∃ c, cv = .ref c ∧ H c = some (LamX.CodeO c (nmG pos.line pos.col))
/-- what stands stays, but that tables grow -/
structure Xt (H H' : Hp) : Prop where
  k : ∀ b o, H b = some o → ntb o → H' b = some o
  t : ∀ b ps, H b = some (.tbl ps) → ∃ qs, H' b = some (.tbl qs)
  w : ∀ P, GdT H P → GdT H' P
theorem Xt.refl (H : Hp) : Xt H H := ⟨fun _ _ h _ => h, fun _ _ h => ⟨_, h⟩, fun _ h => h⟩
theorem Xt.trans {H H1 H2 : Hp} (a : Xt H H1) (b : Xt H1 H2) : Xt H H2 := ⟨fun c o h n => b.k c o (a.k c o h n) n, fun c ps h => by
  obtain ⟨qs, h⟩ := a.t c ps h
  exact b.t c qs h, fun P h => b.w P (a.w P h)⟩
theorem Xt.free {H H' : Hp} (a : Xt H H') {p : Addr} (h : H' p = none) : H p = none := by
  cases e : H p with
  | none => rfl
  | some o =>
    cases o with
    | tbl ps =>
      obtain ⟨qs, z⟩ := a.t p ps e
      rw [h] at z; cases z
    | _ => have z := a.k p _ e trivial; rw [h] at z; cases z
theorem Xt.same {H H' : Hp} (s : L2.Same H H') : Xt H H' := ⟨fun b o h _ => s b o h, fun b ps h => ⟨ps, s b _ h⟩, fun P ⟨ps, e, h1, h2⟩ =>
  ⟨ps, s _ _ e, h1, fun pos cv hc => let ⟨c, e1, e2⟩ := h2 pos cv hc; ⟨c, e1, s _ _ e2⟩⟩⟩
theorem Xt.upd {H : Hp} {p : Addr} {o : HO} (hp : H p = none) (_ : ntb o) : Xt H (upd H p o) := .same fun b u e => by rw [upd_ne (ne_of_none e hp)]; exact e
/-- a list or the like stands at l -/
def PlAt (H : Hp) (l : Addr) : Prop := ∃ o, H l = some o ∧ pln o
theorem codeO_pl {c : Addr} {q : Str} {o : HO} (h : o = LamX.CodeO c q) : ¬ pln o := by rw [h]; exact id
theorem GdT.ne {H : Hp} {l P : Addr} (a : GdT H P) (h : PlAt H l) : P ≠ l := fun z => by
  obtain ⟨o, ho, po⟩ := h
  obtain ⟨ps, e, _⟩ := a
  rw [z, ho] at e; cases e; exact po
/-- what is done at l alone -/
theorem GdT.but {H H' : Hp} {l P : Addr} (a : GdT H P) (h : PlAt H l) (k : ∀ b, b ≠ l → H' b = H b) : GdT H' P := by
  have hP := a.ne h
  obtain ⟨o, ho, po⟩ := h
  obtain ⟨ps, e, h1, h2⟩ := a
  refine ⟨ps, (k P hP).trans e, h1, fun pos cv hc => ?_⟩
  obtain ⟨c, e1, e2⟩ := h2 pos cv hc
  refine ⟨c, e1, (k c fun z => ?_).trans e2⟩
  subst z; rw [ho] at e2; exact codeO_pl (Option.some.inj e2) po
theorem GdT.upd {H : Hp} {l P : Addr} {u : HO} (a : GdT H P) (h : PlAt H l) (_ : ntb u) : GdT (upd H l u) P := a.but h fun _ hb => upd_ne hb
theorem Xt.poke {H0 H : Hp} {l : Addr} {u : HO} (x : Xt H0 H) (n : H0 l = none) (h : PlAt H l) (no : ntb u) : Xt H0 (L2.upd H l u) := ⟨fun b o e ns => by
  rw [upd_ne (ne_of_none e n)]; exact x.k b o e ns, fun b ps e => by
  rw [upd_ne (ne_of_none e n)]; exact x.t b ps e, fun P a => (x.w P a).upd h no⟩
structure Gr (F H F' H' : Hp) : Prop where
  ff : L2.Same F F'
  fh : L2.Same F' H'
  hh : Xt H H'
  fr : ∀ a o, H a = some o → lstish o → F' a = F a
theorem Gr.refl {F H : Hp} (s : L2.Same F H) : Gr F H F H := ⟨.refl _, s, .refl _, fun _ _ _ _ => rfl⟩
theorem Gr.trans {F H F1 H1 F2 H2 : Hp} (a : Gr F H F1 H1) (b : Gr F1 H1 F2 H2) : Gr F H F2 H2 :=
  ⟨a.ff.trans b.ff, b.fh, a.hh.trans b.hh, fun c o h n => by
    cases o with
    | tbl ps =>
      obtain ⟨qs, h2⟩ := a.hh.t c ps h
      rw [b.fr c _ h2 trivial, a.fr c _ h trivial]
    | _ => rw [b.fr c _ (a.hh.k c _ h trivial) n, a.fr c _ h n]⟩
theorem Gr.new {F H : Hp} {p : Addr} {o : HO} (s : L2.Same F H) (hp : H p = none) (no : ntb o := by trivial) : Gr F H (upd F p o) (upd H p o) := by
  have fp : F p = none := s.free hp
  refine ⟨fun b u e => ?_, fun b u e => ?_, .upd hp no, fun a o h _ => ?_⟩
  · rw [upd_ne (ne_of_none e fp)]; exact e
  · by_cases hb : b = p
    · subst hb; rw [upd_same] at e ⊢; exact e
    · rw [upd_ne hb] at e ⊢; exact s _ _ e
  · by_cases hb : a = p
    · subst hb; rw [hp] at h; cases h
    · rw [upd_ne hb]
/-- a new object that stays private -/
theorem Gr.newP {F H : Hp} {p : Addr} {o : HO} (s : L2.Same F H) (hp : H p = none) (no : ntb o := by trivial) : Gr F H F (upd H p o) := by
  refine ⟨.refl _, fun b u e => ?_, .upd hp no, fun a o h _ => rfl⟩
  rw [upd_ne (ne_of_none (s _ _ e) hp)]; exact s _ _ e
/-- the tables of the text stand, private -/
structure HasT (K : PySem.W.Frag) (F H : Hp) : Prop where
  t : ∀ P ∈ tabsG K, GdT H P ∧ F P = none
theorem HasT.up {K : PySem.W.Frag} {F H F' H' : Hp} (h : HasT K F H) (g : Gr F H F' H') : HasT K F' H' := ⟨fun P hP => by
  obtain ⟨a, f⟩ := h.t P hP
  obtain ⟨ps, e, _⟩ := id a
  exact ⟨g.hh.w P a, (g.fr P _ e trivial).trans f⟩⟩
/-- the state at a call -/
structure SmX (K : PySem.W.Frag) (F H : Hp) : Prop where
  s : L2.Same F H
  h : HasT K F H
structure GrX (K : PySem.W.Frag) (F H F' H' : Hp) : Prop extends Gr F H F' H' where
  h : HasT K F' H'
section
variable {K : PySem.W.Frag} {F H F1 H1 F2 H2 : Hp}
instance : CoeOut (GrX K F H F1 H1) (Gr F H F1 H1) := ⟨GrX.toGr⟩
theorem GrX.refl (s : SmX K F H) : GrX K F H F H := ⟨.refl s.s, s.h⟩
theorem GrX.sm (g : GrX K F H F1 H1) : SmX K F1 H1 := ⟨g.fh, g.h⟩
theorem GrX.trans (g : GrX K F H F1 H1) (g2 : Gr F1 H1 F2 H2) : GrX K F H F2 H2 := ⟨g.toGr.trans g2, g.h.up g2⟩
theorem GrX.pre (g : Gr F H F1 H1) (g2 : GrX K F1 H1 F2 H2) : GrX K F H F2 H2 := ⟨g.trans g2.toGr, g2.h⟩
theorem SmX.gx (s : SmX K F H) (g : Gr F H F1 H1) : GrX K F H F1 H1 := ⟨g, s.h.up g⟩
theorem HasT.upd {l : Addr} {u v : HO} (h : HasT K F H) (pl : PlAt H l) (no : ntb u) : HasT K F (L2.upd H l u) ∧ HasT K (L2.upd F l v) (L2.upd H l u) :=
  ⟨⟨fun P hP => ⟨(h.t P hP).1.upd pl no, (h.t P hP).2⟩⟩, ⟨fun P hP => ⟨(h.t P hP).1.upd pl no, by rw [upd_ne ((h.t P hP).1.ne pl)]; exact (h.t P hP).2⟩⟩⟩
theorem SmX.up (s : SmX K F H) (g : Gr F H F1 H1) : SmX K F1 H1 := ⟨g.fh, s.h.up g⟩
end

/-! ### runs -/
/-- a wall: who reads a type looks no farther -/
structure Bx (p : Prop) : Prop where
  o : p
def GoE (X : Cx) (e : Expr) : TE := fun σ H Q => Bx (∀ pins s, Inv X pins σ H s → wpAny (model X.prog X.w) X.A (eval e X.env) (EP X pins σ Q) X.xe s)
def GoT (X : Cx) (e : Expr) : TT := fun σ H Q => Bx (∀ pins s, Inv X pins σ H s → wpAny (model X.prog X.w) X.A (isTrue e X.env (eval e X.env)) (TP X pins σ Q) X.xe s)
def GoA (X : Cx) (es : List Expr) : TA := fun σ H Q => Bx (∀ pos pins s, Inv X pins σ H s → wpAny (model X.prog X.w) X.A (spliced (backTo pos (starEach es X.env))) (AP X pins σ Q) X.xe s)
def GoS (X : Cx) (st : List Stmt) : TS := fun D σ H => Bx (∀ pins s, Inv X pins σ H s → wpAny (model X.prog X.w) X.A (execs st X.env) (SP X pins D) X.xe s)
def GoI (X : Cx) (tg iter : Expr) : TI := fun σ H R => Bx (∀ pins s, Inv X pins σ H s → wpAny (model X.prog X.w) X.A (eval iter X.env) (fun v s1 => wpAny (model X.prog X.w) X.A (pyIter v) (PIE X pins σ tg R) X.xe s1) X.xe s)
section
variable {X : Cx} {e : Expr} {es : List Expr} {st : Stmt} {sts rest : List Stmt} {σ : L2.St} {F H : Hp} {D : Ends}
theorem pe_go : PE X e (GoE X e) := ⟨fun pins s σ H Q I h => h.o pins s I⟩
theorem pt_go : PT X e (GoT X e) := ⟨fun pins s σ H Q I h => h.o pins s I⟩
theorem pa_go : PA X es (GoA X es) := ⟨fun pos pins s σ H Q I h => h.o pos pins s I⟩
theorem pss_go : PSs X sts (GoS X sts) := ⟨fun pins s σ H D I h => h.o pins s I⟩
theorem pi_go {tg iter : Expr} : PI X tg iter (GoI X tg iter) := ⟨fun pins s σ H R I h => h.o pins s I⟩
theorem GoE.of {t : TE} {Q : VK} (p : PE X e t) (h : t σ H Q) : GoE X e σ H Q := ⟨fun pins s I => p.run pins s σ H Q I h⟩
theorem GoT.of {t : TT} {Q : Bool → Hp → Prop} (p : PT X e t) (h : t σ H Q) : GoT X e σ H Q := ⟨fun pins s I => p.run pins s σ H Q I h⟩
theorem GoA.of {t : TA} {Q : List V → Hp → Prop} (p : PA X es t) (h : t σ H Q) : GoA X es σ H Q := ⟨fun pos pins s I => p.run pos pins s σ H Q I h⟩
theorem GoI.of {tg iter : Expr} {t : TI} {R : It → Hp → Prop} (p : PI X tg iter t) (h : t σ H R) : GoI X tg iter σ H R := ⟨fun pins s I => p.run pins s σ H R I h⟩
theorem GoS.of {t : TS} (p : PSs X sts t) (h : t D σ H) : GoS X sts D σ H := ⟨fun pins s I => p.run pins s σ H D I h⟩
theorem GoS.cons {t : TS} (p : PS X st t) (h : t { D with nx := GoS X rest D } σ H) : GoS X (st :: rest) D σ H := GoS.of (pss_cons p pss_go) h
theorem GoS.nil (h : D.nx σ H) : GoS X [] D σ H := GoS.of pss_nil h
theorem GoS.mono {D' : Ends} (h : GoS X sts D σ H) (n : ∀ σ H, D.nx σ H → D'.nx σ H) (r : ∀ v H, D.rt v H → D'.rt v H) (b : ∀ σ H, D.bk σ H → D'.bk σ H) (c : ∀ σ H, D.ct σ H → D'.ct σ H) : GoS X sts D' σ H := .mk fun pins s I =>
  thn (h.o pins s I) fun f s' q => by
    cases f with
    | next => obtain ⟨σ', H', I, q⟩ := q; exact ⟨σ', H', I, n _ _ q⟩
    | brk => obtain ⟨σ', H', I, q⟩ := q; exact ⟨σ', H', I, b _ _ q⟩
    | cont => obtain ⟨σ', H', I, q⟩ := q; exact ⟨σ', H', I, c _ _ q⟩
    | ret u => obtain ⟨v, σ', H', I, r', q⟩ := q; exact ⟨v, σ', H', I, r', r _ _ q⟩

/-! ### e is worth x -/
def Ev {α : Type} [Rp α] (X : Cx) (e : Expr) (σ : L2.St) (F H : Hp) (x : α) : Prop := ∀ F1 H1, GrX X.K F H F1 H1 → ∀ Q : VK, (∀ v F2 H2, Gr F1 H1 F2 H2 → rp X.K F2 v x → Q v H2) → GoE X e σ H1 Q
def EvT (X : Cx) (e : Expr) (σ : L2.St) (F H : Hp) (b : Bool) : Prop := ∀ F1 H1, GrX X.K F H F1 H1 → ∀ Q : Bool → Hp → Prop, (∀ F2 H2, Gr F1 H1 F2 H2 → Q b H2) → GoT X e σ H1 Q
def EvA {τ : Type} [Ra τ] (X : Cx) (es : List Expr) (σ : L2.St) (F H : Hp) (x : τ) : Prop := ∀ F1 H1, GrX X.K F H F1 H1 → ∀ Q : List V → Hp → Prop, (∀ vs F2 H2, Gr F1 H1 F2 H2 → ra X.K F2 vs x → Q vs H2) → GoA X es σ H1 Q
theorem Ev.up {α : Type} [Rp α] {x : α} {F' H' : Hp} (h : Ev X e σ F H x) (g : Gr F H F' H') : Ev X e σ F' H' x := fun F1 H1 g1 => h F1 H1 (.pre g g1)
theorem EvT.up {b : Bool} {F' H' : Hp} (h : EvT X e σ F H b) (g : Gr F H F' H') : EvT X e σ F' H' b := fun F1 H1 g1 => h F1 H1 (.pre g g1)

theorem ev_var {α : Type} [Rp α] {x : α} {v : V} (i : Nat) {n : Str} {pos : Pos} (hs : σ[i]? = some (some v)) (h : rp X.K F v x) (hN : X.N[i]? = some n := by rfl) (hv : Vis X.env.scope n := by first | exact Or.inl rfl | exact Or.inr (Or.inl rfl) | exact Or.inr (Or.inr rfl))
    (hd : (n == ("__debug__" : Str)) = false := by decide) (hcd : (n == ("__classdict__" : Str)) = false := by decide) : Ev X (.Name n pos) σ F H x := fun F1 H1 g Q q =>
  GoE.of (pe_var hN hv hd hcd) ⟨v, hs, q v F1 H1 (.refl g.fh) (Rp.mono g.ff h)⟩
theorem ev_int {i : Int} {j : Nat} {pos : Pos} : Ev X (.Constant (.int i) j pos) σ F H i := fun F1 H1 g Q q => GoE.of pe_int (q (.int i) F1 H1 (.refl g.fh) rfl)
theorem ev_bl {i : Bool} {j : Nat} {pos : Pos} : Ev X (.Constant (.bool i) j pos) σ F H i := fun F1 H1 g Q q => GoE.of pe_bl (q (.bl i) F1 H1 (.refl g.fh) rfl)
theorem ev_str {i : Str} {j : Nat} {pos : Pos} : Ev X (.Constant (.str i) j pos) σ F H i := fun F1 H1 g Q q => GoE.of pe_str (q (.str i) F1 H1 (.refl g.fh) rfl)
theorem ev_unit {j : Nat} {pos : Pos} : Ev X (.Constant .none j pos) σ F H () := fun F1 H1 g Q q => GoE.of pe_non (q .non F1 H1 (.refl g.fh) rfl)
theorem ev_none {α : Type} [Rp α] [NN α] {j : Nat} {pos : Pos} : Ev X (.Constant .none j pos) σ F H (none : Option α) := fun F1 H1 g Q q => GoE.of pe_non (q .non F1 H1 (.refl g.fh) rfl)
theorem Ev.some {α : Type} [Rp α] [NN α] {x : α} (h : Ev X e σ F H x) : Ev X e σ F H (some x) := fun F1 H1 g Q q => h F1 H1 g Q q
/-- a module's constant -/
theorem ev_glob {α : Type} [Rp α] {c : α} {x : Str} {v : V} {u : Value} {pos : Pos} (hm : X.mg x = some u) (r : RelV v u) (h : ∀ F, rp X.K F v c) (hg : Gl X x := by rfl) (hd : (x == ("__debug__" : Str)) = false := by decide) : Ev X (.Name x pos) σ F H c := fun F1 H1 g Q q =>
  GoE.of (pe_glob hg hm r hd) (q v F1 H1 (.refl g.fh) (h F1))

/-! ### args -/
theorem ea_nil : EvA X [] σ F H () := fun F1 H1 g Q q => GoA.of pa_nil (q [] F1 H1 (.refl g.fh) rfl)
theorem ea_cons {α τ : Type} [Rp α] [Ra τ] {x : α} {y : τ} (ha : Ev X e σ F H x) (hr : EvA X es σ F H y) (hs : starEach (e :: es) X.env = (false, eval e X.env) :: starEach es X.env := by rfl) : EvA X (e :: es) σ F H (x, y) := fun F1 H1 g Q q =>
  GoA.of (pa_cons pe_go pa_go hs) (ha F1 H1 g _ fun v F2 H2 g2 r2 => hr F2 H2 (g.trans g2) _ fun vs F3 H3 g3 r3 => q _ F3 H3 (g2.trans g3) ⟨v, vs, rfl, Rp.mono g3.ff r2, r3⟩)

/-! ### two operands, by values -/
/-- the rule r gives z for x and y -/
def Op2 {α β γ : Type} [Rp α] [Rp β] [Rp γ] (K : PySem.W.Frag) (r : R2) (x : α) (y : β) (z : γ) : Prop := ∀ (F H : Hp) (v w : V) (Q : VK), L2.Same F H → rp K F v x → rp K F w y → (∀ u F' H', Gr F H F' H' → rp K F' u z → Q u H') → r v w H Q
theorem ev_bin {α β γ : Type} [Rp α] [Rp β] [Rp γ] {x : α} {y : β} {z : γ} {a b : Expr} {op : Operator} {pos : Pos} {r : R2} (ho : OpR X (binaryOp op) r) (hr : Op2 X.K r x y z) (ha : Ev X a σ F H x) (hb : Ev X b σ F H y) : Ev X (.BinOp a op b pos) σ F H z := fun F1 H1 g Q q =>
  GoE.of (pe_op ho pe_go pe_go) (ha F1 H1 g _ fun v F2 H2 g2 r2 => hb F2 H2 (g.trans g2) _ fun w F3 H3 g3 r3 => hr F3 H3 v w Q g3.fh (Rp.mono g3.ff r2) r3 fun u F4 H4 g4 r4 => q u F4 H4 ((g2.trans g3).trans g4) r4)
theorem ev_cmp {α β : Type} [Rp α] [Rp β] {x : α} {y : β} {z : Bool} {a b : Expr} {op : CmpOp} {pos : Pos} {r : R2} (ho : OpR X (compareOp op) r) (hr : Op2 X.K r x y z) (ha : Ev X a σ F H x) (hb : Ev X b σ F H y) (hm : behindInMarks op b = false) : Ev X (.Compare a [op] [b] pos) σ F H z := fun F1 H1 g Q q =>
  GoE.of (pe_cmpR ho pe_go pe_go hm) (ha F1 H1 g _ fun v F2 H2 g2 r2 => hb F2 H2 (g.trans g2) _ fun w F3 H3 g3 r3 => hr F3 H3 v w Q g3.fh (Rp.mono g3.ff r2) r3 fun u F4 H4 g4 r4 => q u F4 H4 ((g2.trans g3).trans g4) r4)
theorem et_cmp {α β : Type} [Rp α] [Rp β] {x : α} {y : β} {z : Bool} {a b : Expr} {op : CmpOp} {pos : Pos} {r : R2} (ho : OpR X (compareOp op) r) (hr : Op2 X.K r x y z) (ha : Ev X a σ F H x) (hb : Ev X b σ F H y) (hm : behindInMarks op b = false) : EvT X (.Compare a [op] [b] pos) σ F H z := fun F1 H1 g Q q =>
  GoT.of (pt_cmpR ho pe_go pe_go hm) (ha F1 H1 g _ fun v F2 H2 g2 r2 => hb F2 H2 (g.trans g2) _ fun w F3 H3 g3 r3 => hr F3 H3 v w _ g3.fh (Rp.mono g3.ff r2) r3 fun u F4 H4 g4 r4 => by
    have r4 : u = .bl z := r4
    subst r4
    exact ⟨z, rfl, q F4 H4 ((g2.trans g3).trans g4)⟩)
theorem ev_chain {α β γ : Type} [Rp α] [Rp β] [Rp γ] {x : α} {y : β} {z : γ} {p q : Bool} {a b c : Expr} {op op' : CmpOp} {pos : Pos} {r r' : R2} (ho : OpR X (compareOp op) r) (ho' : OpR X (compareOp op') r') (hr : Op2 X.K r x y p) (hr' : Op2 X.K r' y z q)
    (ha : Ev X a σ F H x) (hb : Ev X b σ F H y) (hc : Ev X c σ F H z) (hm : lastMarks [op, op'] [b, c] = false := by with_unfolding_all rfl) : Ev X (.Compare a [op, op'] [b, c] pos) σ F H (p && q) := fun F1 H1 g Q k =>
  GoE.of (pe_chain ho ho' pe_go pe_go pe_go hm) (ha F1 H1 g _ fun v F2 H2 g2 r2 => hb F2 H2 (g.trans g2) _ fun w F3 H3 g3 r3 => hr F3 H3 v w _ g3.fh (Rp.mono g3.ff r2) r3 fun u F4 H4 g4 r4 => by
    have r4 : u = .bl p := r4
    subst r4
    refine ⟨p, rfl, ?_⟩
    cases p with
    | true =>
      rw [if_pos rfl]
      exact hc F4 H4 (((g.trans g2).trans g3).trans g4) _ fun w' F5 H5 g5 r5 => hr' F5 H5 w w' _ g5.fh (Rp.mono (g4.ff.trans g5.ff) r3) r5 fun u' F6 H6 g6 r6 => k u' F6 H6 ((((g2.trans g3).trans g4).trans g5).trans g6) r6
    | false =>
      rw [if_neg Bool.false_ne_true]
      exact k _ F4 H4 ((g2.trans g3).trans g4) rfl)
end
end Gx

/-! Gy: operations. -/
namespace Gx
open PySem PySem.Spec PyProof.Rows L2
open Rp (rp)
open Ra (ra)
section
variable {X : Cx} {K : PySem.W.Frag} {e a b c d : Expr} {es : List Expr} {σ : L2.St} {F H : Hp} {pos : Pos}
/-! ### ints -/
theorem o2_I0 {γ : Type} [Rp γ] {g : Int → Int → V} {x y : Int} {z : γ} (h : ∀ F, rp K F (g x y) z) : Op2 K (rI0 g) x y z := fun F H v w Q s rv rw k => ⟨x, y, rv, rw, k _ F H (.refl s) (h F)⟩
theorem o2_I {γ : Type} [Rp γ] {C : Int → Int → Prop} {g : Int → Int → V} {x y : Int} {z : γ} (hc : C x y) (h : ∀ F, rp K F (g x y) z) : Op2 K (rI C g) x y z := fun F H v w Q s rv rw k => ⟨x, y, rv, rw, hc, k _ F H (.refl s) (h F)⟩
theorem ev_add {x y : Int} (ha : Ev X a σ F H x) (hb : Ev X b σ F H y) : Ev X (.BinOp a .Add b pos) σ F H (x + y) := ev_bin op_add (o2_I0 fun _ => rfl) ha hb
theorem ev_sub {x y : Int} (ha : Ev X a σ F H x) (hb : Ev X b σ F H y) : Ev X (.BinOp a .Sub b pos) σ F H (x - y) := ev_bin op_sub (o2_I0 fun _ => rfl) ha hb
theorem ev_mul {x y : Int} (ha : Ev X a σ F H x) (hb : Ev X b σ F H y) (h : CMul x y) : Ev X (.BinOp a .Mult b pos) σ F H (x * y) := ev_bin op_mul (o2_I h fun _ => rfl) ha hb
theorem ev_div {x y : Int} (ha : Ev X a σ F H x) (hb : Ev X b σ F H y) (h : CDiv x y) : Ev X (.BinOp a .FloorDiv b pos) σ F H (x / y) := ev_bin op_fdiv (o2_I h fun _ => rfl) ha hb
theorem ev_mod {x y : Int} (ha : Ev X a σ F H x) (hb : Ev X b σ F H y) (h : 0 < y) : Ev X (.BinOp a .Mod b pos) σ F H (x % y) := ev_bin op_mod (o2_I h fun _ => rfl) ha hb
theorem ev_powc {x y z : Int} (ha : Ev X a σ F H x) (hb : Ev X b σ F H y) (h : CPow x y) (hz : x ^ y.toNat = z) : Ev X (.BinOp a .Pow b pos) σ F H z := ev_bin op_pow (o2_I h fun _ => congrArg V.int hz) ha hb
theorem ev_neg {x : Int} (ha : Ev X a σ F H x) : Ev X (.UnaryOp .USub a pos) σ F H (-x) := fun F1 H1 g Q q => GoE.of (pe_un un_neg pe_go) (ha F1 H1 g _ fun v F2 H2 g2 r2 => ⟨x, r2, q _ F2 H2 g2 rfl⟩)
theorem CMul.l {i j : Int} (h : -(2 ^ 64) < i ∧ i < 2 ^ 64) : CMul i j := .inl h
theorem CMul.r {i j : Int} (h : -(2 ^ 64) < j ∧ j < 2 ^ 64) : CMul i j := .inr h
/-- a guarded product, quotient, rest -/
instance (i j : Int) : Decidable (CMul i j) := inferInstanceAs (Decidable (_ ∨ _))
instance (i j : Int) : Decidable (CDiv i j) := inferInstanceAs (Decidable (_ ∧ _))
instance (i j : Int) : Decidable (CPow i j) := inferInstanceAs (Decidable (_ ∧ _ ∧ _))
instance (i j : Int) : Decidable (CMulW i j) := inferInstanceAs (Decidable (_ < _))
instance (i j : Int) : Decidable (CDivW i j) := inferInstanceAs (Decidable (_ ∧ _))
def mulG (i j : Int) : Option Int := if CMul i j ∨ CMulW i j then some (i * j) else none
def divG (i j : Int) : Option Int := if CDiv i j ∨ CDivW i j then some (i / j) else none
def modG (i j : Int) : Option Int := if 0 < j then some (i % j) else none
theorem mulG_of {i j r : Int} (h : mulG i j = some r) : (CMul i j ∨ CMulW i j) ∧ i * j = r := by
  unfold mulG at h; split at h
  · exact ⟨by assumption, Option.some.inj h⟩
  · cases h
theorem divG_of {i j r : Int} (h : divG i j = some r) : (CDiv i j ∨ CDivW i j) ∧ i / j = r := by
  unfold divG at h; split at h
  · exact ⟨by assumption, Option.some.inj h⟩
  · cases h
theorem modG_of {i j r : Int} (h : modG i j = some r) : 0 < j ∧ i % j = r := by
  unfold modG at h; split at h
  · exact ⟨by assumption, Option.some.inj h⟩
  · cases h
theorem ev_mulG {x y r : Int} (ha : Ev X a σ F H x) (hb : Ev X b σ F H y) (h : mulG x y = some r) : Ev X (.BinOp a .Mult b pos) σ F H r := by
  obtain ⟨c | c, rfl⟩ := mulG_of h
  · exact ev_mul ha hb c
  · exact ev_bin op_mulW (o2_I c fun _ => rfl) ha hb
theorem ev_divG {x y r : Int} (ha : Ev X a σ F H x) (hb : Ev X b σ F H y) (h : divG x y = some r) : Ev X (.BinOp a .FloorDiv b pos) σ F H r := by
  obtain ⟨c | c, rfl⟩ := divG_of h
  · exact ev_div ha hb c
  · exact ev_bin op_fdivW (o2_I c fun _ => rfl) ha hb
theorem ev_modG {x y r : Int} (ha : Ev X a σ F H x) (hb : Ev X b σ F H y) (h : modG x y = some r) : Ev X (.BinOp a .Mod b pos) σ F H r := by
  obtain ⟨c, rfl⟩ := modG_of h; exact ev_mod ha hb c
/-! ### comparisons -/
theorem o2_lt {x y : Int} : Op2 K (rI0 fun i j => .bl (decide (i < j))) x y (decide (x < y)) := o2_I0 fun _ => rfl
theorem o2_le {x y : Int} : Op2 K (rI0 fun i j => .bl (decide (i ≤ j))) x y (decide (x ≤ y)) := o2_I0 fun _ => rfl
theorem o2_gt {x y : Int} : Op2 K (rI0 fun i j => .bl (decide (j < i))) x y (decide (y < x)) := o2_I0 fun _ => rfl
theorem o2_ge {x y : Int} : Op2 K (rI0 fun i j => .bl (decide (j ≤ i))) x y (decide (y ≤ x)) := o2_I0 fun _ => rfl
/-- scalars that == tells apart -/
class Sc (α : Type) [Rp α] [DecidableEq α] : Prop where
  sc : ∀ {K : PySem.W.Frag} {F : Hp} {v w : V} {x y : α}, rp K F v x → rp K F w y → scal v w = true ∧ decide (v = w) = decide (x = y)
instance : Sc Int := ⟨fun {K F v w x y} h1 h2 => by
  have h1 : v = .int x := h1
  have h2 : w = .int y := h2
  subst h1; subst h2
  exact ⟨rfl, by simp⟩⟩
instance : Sc Str := ⟨fun {K F v w x y} h1 h2 => by
  have h1 : v = .str x := h1
  have h2 : w = .str y := h2
  subst h1; subst h2
  exact ⟨rfl, by simp⟩⟩
instance : Sc Bool := ⟨fun {K F v w x y} h1 h2 => by
  have h1 : v = .bl x := h1
  have h2 : w = .bl y := h2
  subst h1; subst h2
  exact ⟨rfl, by simp⟩⟩
theorem o2_eq {α : Type} [Rp α] [DecidableEq α] [Sc α] {x y : α} : Op2 K rEq x y (decide (x = y)) := fun F H v w Q s rv rw k => by
  obtain ⟨h1, h2⟩ := Sc.sc rv rw
  exact ⟨h1, k _ F H (.refl s) (congrArg V.bl h2)⟩
theorem o2_ne {α : Type} [Rp α] [DecidableEq α] [Sc α] {x y : α} : Op2 K rNe x y (!decide (x = y)) := fun F H v w Q s rv rw k => by
  obtain ⟨h1, h2⟩ := Sc.sc rv rw
  exact ⟨h1, k _ F H (.refl s) (congrArg (fun t => V.bl (!t)) h2)⟩
theorem ev_isNone {α : Type} [Rp α] [NN α] {x : Option α} {j : Nat} {pos' : Pos} (ha : Ev X a σ F H x) : Ev X (.Compare a [.Is] [.Constant .none j pos'] pos) σ F H x.isNone := fun F1 H1 g Q q =>
  GoE.of (pe_cmp (pc_isN pe_go) rfl) (ha F1 H1 g _ fun v F2 H2 g2 r2 => q _ F2 H2 g2 (congrArg V.bl (rp_isNone r2)))
theorem ev_notNone {α : Type} [Rp α] [NN α] {x : Option α} {j : Nat} {pos' : Pos} (ha : Ev X a σ F H x) : Ev X (.Compare a [.IsNot] [.Constant .none j pos'] pos) σ F H (!x.isNone) := fun F1 H1 g Q q =>
  GoE.of (pe_cmp (pc_notN pe_go) rfl) (ha F1 H1 g _ fun v F2 H2 g2 r2 => q _ F2 H2 g2 (congrArg (fun t => V.bl (!t)) (rp_isNone r2)))
theorem et_isNone {α : Type} [Rp α] [NN α] {x : Option α} {j : Nat} {pos' : Pos} (ha : Ev X a σ F H x) : EvT X (.Compare a [.Is] [.Constant .none j pos'] pos) σ F H x.isNone := fun F1 H1 g Q q =>
  GoT.of (pt_cmp (pc_isN pe_go) rfl) (ha F1 H1 g _ fun v F2 H2 g2 r2 => ⟨x.isNone, congrArg V.bl (rp_isNone r2), q F2 H2 g2⟩)
theorem et_notNone {α : Type} [Rp α] [NN α] {x : Option α} {j : Nat} {pos' : Pos} (ha : Ev X a σ F H x) : EvT X (.Compare a [.IsNot] [.Constant .none j pos'] pos) σ F H (!x.isNone) := fun F1 H1 g Q q =>
  GoT.of (pt_cmp (pc_notN pe_go) rfl) (ha F1 H1 g _ fun v F2 H2 g2 r2 => ⟨!x.isNone, congrArg (fun t => V.bl (!t)) (rp_isNone r2), q F2 H2 g2⟩)
/-! ### tests -/
theorem et_val {x : Bool} (h : Ev X e σ F H x) (he : ∀ whole, isTrue e X.env whole = (do let v ← whole; standAt e.pos; holding [v] (truthy v)) := by intro _; rfl) : EvT X e σ F H x := fun F1 H1 g Q q =>
  GoT.of (pt_val pe_go he) (h F1 H1 g _ fun v F2 H2 g2 r2 => ⟨x, r2, q F2 H2 g2⟩)
theorem et_not {x : Bool} (h : EvT X a σ F H x) : EvT X (.UnaryOp .Not a pos) σ F H (!x) := fun F1 H1 g Q q => GoT.of (pt_not pt_go) (h F1 H1 g _ fun F2 H2 g2 => q F2 H2 g2)
theorem ev_not {x : Bool} (h : Ev X a σ F H x) : Ev X (.UnaryOp .Not a pos) σ F H (!x) := fun F1 H1 g Q q => GoE.of (pe_not pe_go) (h F1 H1 g _ fun v F2 H2 g2 r2 => ⟨x, r2, q _ F2 H2 g2 rfl⟩)
def GoW (X : Cx) (e : Expr) : TT := fun σ H Q => Bx (∀ whole pins s, Inv X pins σ H s → wpAny (model X.prog X.w) X.A (isTrue e X.env whole) (TP X pins σ Q) X.xe s)
theorem pw_go : PW X e (GoW X e) := ⟨fun wh pins s σ H Q I h => h.o wh pins s I⟩
theorem GoW.of {t : TT} {Q : Bool → Hp → Prop} (p : PW X e t) (h : t σ H Q) : GoW X e σ H Q := ⟨fun wh pins s I => p.run wh pins s σ H Q I h⟩
def EvW (X : Cx) (e : Expr) (σ : L2.St) (F H : Hp) (b : Bool) : Prop := ∀ F1 H1, GrX X.K F H F1 H1 → ∀ Q : Bool → Hp → Prop, (∀ F2 H2, Gr F1 H1 F2 H2 → Q b H2) → GoW X e σ H1 Q
theorem EvW.t {x : Bool} (h : EvW X e σ F H x) : EvT X e σ F H x := fun F1 H1 g Q q => GoT.of (PW.pt pw_go) (h F1 H1 g Q q)
theorem EvW.cg {x y : Bool} (h : x = y) (r : EvW X e σ F H x) : EvW X e σ F H y := h ▸ r
theorem EvT.cg {x y : Bool} (h : x = y) (r : EvT X e σ F H x) : EvT X e σ F H y := h ▸ r
theorem Ev.cg {α : Type} [Rp α] {x y : α} (h : x = y) (r : Ev X e σ F H x) : Ev X e σ F H y := h ▸ r
theorem ew_and1 {x : Bool} (h : EvT X a σ F H x) : EvW X (.BoolOp .And [a] pos) σ F H x := fun F1 H1 g Q q => GoW.of (pw_and1 pt_go) (h F1 H1 g Q q)
theorem ew_or1 {x : Bool} (h : EvT X a σ F H x) : EvW X (.BoolOp .Or [a] pos) σ F H x := fun F1 H1 g Q q => GoW.of (pw_or1 pt_go) (h F1 H1 g Q q)
theorem ew_and {x r : Bool} {rest : List Expr} (ha : EvT X a σ F H x) (hb : x = true → EvW X (.BoolOp .And (b :: rest) pos) σ F H r) (hn : x = false → r = false) : EvW X (.BoolOp .And (a :: b :: rest) pos) σ F H r := fun F1 H1 g Q q =>
  GoW.of (pw_and pt_go pw_go) (ha F1 H1 g _ fun F2 H2 g2 => by
    cases x with
    | true => rw [if_pos rfl]; exact hb rfl F2 H2 (g.trans g2) Q fun F3 H3 g3 => q F3 H3 (g2.trans g3)
    | false =>
      rw [if_neg Bool.false_ne_true]
      have e := hn rfl
      subst e
      exact q F2 H2 g2)
theorem ew_or {x r : Bool} {rest : List Expr} (ha : EvT X a σ F H x) (hb : x = false → EvW X (.BoolOp .Or (b :: rest) pos) σ F H r) (hn : x = true → r = true) : EvW X (.BoolOp .Or (a :: b :: rest) pos) σ F H r := fun F1 H1 g Q q =>
  GoW.of (pw_or pt_go pw_go) (ha F1 H1 g _ fun F2 H2 g2 => by
    cases x with
    | false => rw [if_neg Bool.false_ne_true]; exact hb rfl F2 H2 (g.trans g2) Q fun F3 H3 g3 => q F3 H3 (g2.trans g3)
    | true =>
      rw [if_pos rfl]
      have e := hn rfl
      subst e
      exact q F2 H2 g2)
theorem ew_andP {x y : Bool} {rest : List Expr} (ha : EvT X a σ F H x) (hb : EvW X (.BoolOp .And (b :: rest) pos) σ F H y) : EvW X (.BoolOp .And (a :: b :: rest) pos) σ F H (x && y) :=
  ew_and ha (fun h => by subst h; exact hb) (fun h => by subst h; rfl)
theorem ew_orP {x y : Bool} {rest : List Expr} (ha : EvT X a σ F H x) (hb : EvW X (.BoolOp .Or (b :: rest) pos) σ F H y) : EvW X (.BoolOp .Or (a :: b :: rest) pos) σ F H (x || y) :=
  ew_or ha (fun h => by subst h; exact hb) (fun h => by subst h; rfl)
theorem ev_one {α : Type} [Rp α] {x : α} {op : BoolOp} (h : Ev X a σ F H x) : Ev X (.BoolOp op [a] pos) σ F H x := fun F1 H1 g Q q => GoE.of (pe_one pe_go) (h F1 H1 g Q q)
theorem ev_and {x r : Bool} {rest : List Expr} (ha : Ev X a σ F H x) (hb : x = true → Ev X (.BoolOp .And (b :: rest) pos) σ F H r) (hn : x = false → r = false) : Ev X (.BoolOp .And (a :: b :: rest) pos) σ F H r := fun F1 H1 g Q q =>
  GoE.of (pe_and pe_go pe_go) (ha F1 H1 g _ fun v F2 H2 g2 r2 => ⟨x, r2, by
    cases x with
    | true => rw [if_pos rfl]; exact hb rfl F2 H2 (g.trans g2) Q fun v F3 H3 g3 => q v F3 H3 (g2.trans g3)
    | false =>
      rw [if_neg Bool.false_ne_true]
      have e := hn rfl
      subst e
      exact q _ F2 H2 g2 rfl⟩)
theorem ev_or {x r : Bool} {rest : List Expr} (ha : Ev X a σ F H x) (hb : x = false → Ev X (.BoolOp .Or (b :: rest) pos) σ F H r) (hn : x = true → r = true) : Ev X (.BoolOp .Or (a :: b :: rest) pos) σ F H r := fun F1 H1 g Q q =>
  GoE.of (pe_or pe_go pe_go) (ha F1 H1 g _ fun v F2 H2 g2 r2 => ⟨x, r2, by
    cases x with
    | false => rw [if_neg Bool.false_ne_true]; exact hb rfl F2 H2 (g.trans g2) Q fun v F3 H3 g3 => q v F3 H3 (g2.trans g3)
    | true =>
      rw [if_pos rfl]
      have e := hn rfl
      subst e
      exact q _ F2 H2 g2 rfl⟩)
theorem ev_andP {x y : Bool} {rest : List Expr} (ha : Ev X a σ F H x) (hb : Ev X (.BoolOp .And (b :: rest) pos) σ F H y) : Ev X (.BoolOp .And (a :: b :: rest) pos) σ F H (x && y) :=
  ev_and ha (fun h => by subst h; exact hb) (fun h => by subst h; rfl)
theorem ev_orP {x y : Bool} {rest : List Expr} (ha : Ev X a σ F H x) (hb : Ev X (.BoolOp .Or (b :: rest) pos) σ F H y) : Ev X (.BoolOp .Or (a :: b :: rest) pos) σ F H (x || y) :=
  ev_or ha (fun h => by subst h; exact hb) (fun h => by subst h; rfl)
theorem ev_if {α : Type} [Rp α] {x : α} {t : Bool} (hc : EvT X c σ F H t) (ha : t = true → Ev X a σ F H x) (hb : t = false → Ev X b σ F H x) : Ev X (.IfExp c a b pos) σ F H x := fun F1 H1 g Q q =>
  GoE.of (pe_ifExp pt_go pe_go pe_go) (hc F1 H1 g _ fun F2 H2 g2 => by
    cases t with
    | true => rw [if_pos rfl]; exact ha rfl F2 H2 (g.trans g2) Q fun v F3 H3 g3 => q v F3 H3 (g2.trans g3)
    | false => rw [if_neg Bool.false_ne_true]; exact hb rfl F2 H2 (g.trans g2) Q fun v F3 H3 g3 => q v F3 H3 (g2.trans g3))
theorem ev_ifP {α : Type} [Rp α] {x y : α} {t : Bool} (hc : EvT X c σ F H t) (ha : Ev X a σ F H x) (hb : Ev X b σ F H y) : Ev X (.IfExp c a b pos) σ F H (if t then x else y) :=
  ev_if hc (fun h => by subst h; exact ha) (fun h => by subst h; exact hb)

/-! ### items -/
theorem Rps.get {α : Type} [Rp α] : ∀ {vs : List V} {xs : List α} {i : Nat} {x : α}, Rps K F vs xs → xs[i]? = some x → ∃ v, vs[i]? = some v ∧ rp K F v x
  | _, _, _, _, .nil, e => by simp at e
  | _, _, 0, _, .cons r _, e => by simp at e; subst e; exact ⟨_, rfl, r⟩
  | _, _, i + 1, x, .cons _ t, e => by
    obtain ⟨u, h1, h2⟩ := Rps.get (i := i) (x := x) t (by simpa using e)
    exact ⟨u, by simpa using h1, h2⟩
theorem Rps.atI {α : Type} [Rp α] {vs : List V} {xs : List α} {i : Int} {x : α} (h : Rps K F vs xs) (e : atI xs i = some x) : ∃ v, L2.atI vs i = some v ∧ rp K F v x := by
  unfold L2.atI at e ⊢
  rw [h.length]
  cases q : ixN xs.length i with
  | none => rw [q] at e; cases e
  | some j =>
    rw [q] at e
    exact h.get e
theorem ev_ixL {α : Type} [Rp α] {xs : List α} {i : Int} {x : α} (ha : Ev X a σ F H xs) (hb : Ev X b σ F H i) (h : L2.atI xs i = some x) (hs : PlainIx b := by exact fun _ _ => rfl) : Ev X (.Subscript a b pos) σ F H x := fun F1 H1 g Q q =>
  GoE.of (pe_ix ix_list pe_go pe_go hs) (ha F1 H1 g _ fun v F2 H2 g2 r2 => hb F2 H2 (g.trans g2) _ fun w F3 H3 g3 r3 => by
    obtain ⟨p, vs, rfl, sq, rs⟩ := Rp.mono g3.ff r2
    obtain ⟨y, hy, ry⟩ := rs.atI h
    exact ⟨p, vs, i, y, rfl, r3, g3.fh.seq sq, hy, q y F3 H3 (g2.trans g3) ry⟩)
theorem ev_ixTp {α θ : Type} [Rp α] [Rp θ] [TL θ α] {xs : θ} {i : Int} {x : α} (ha : Ev X a σ F H xs) (hb : Ev X b σ F H i) (h : L2.atI (TL.l xs) i = some x) (hs : PlainIx b := by exact fun _ _ => rfl) : Ev X (.Subscript a b pos) σ F H x := fun F1 H1 g Q q =>
  GoE.of (pe_ix ix_tup pe_go pe_go hs) (ha F1 H1 g _ fun v F2 H2 g2 r2 => hb F2 H2 (g.trans g2) _ fun w F3 H3 g3 r3 => by
    obtain ⟨p, vs, rfl, sq, rs⟩ := TL.sq (Rp.mono g3.ff r2)
    obtain ⟨y, hy, ry⟩ := rs.atI h
    exact ⟨p, vs, i, y, rfl, r3, sqT_mono g3.fh sq, hy, q y F3 H3 (g2.trans g3) ry⟩)
/-- the i-th of a row -/
def Proj {τ α : Type} [Ra τ] [Rp α] (i : Int) (y : τ) (x : α) : Prop := ∀ (K : PySem.W.Frag) (F : Hp) (vs : List V), ra K F vs y → ∃ v, L2.atI vs i = some v ∧ rp K F v x
theorem pj0 {α τ : Type} [Rp α] [Ra τ] {x : α} {y : τ} : Proj 0 (x, y) x := fun K F vs ⟨v, r, e, p, q⟩ => ⟨v, by subst e; show (ixN (r.length + 1) 0).bind _ = _; unfold ixN; rw [if_pos (by decide), if_pos (by omega)]; rfl, p⟩
theorem pj1 {α β τ : Type} [Rp α] [Rp β] [Ra τ] {x : α} {z : β} {y : τ} : Proj 1 (x, z, y) z := fun K F vs ⟨v, r, e, p, v', r', e', p', q⟩ => ⟨v', by subst e; subst e'; show (ixN (r'.length + 1 + 1) 1).bind _ = _; unfold ixN; rw [if_pos (by decide), if_pos (by omega)]; rfl, p'⟩
theorem pj2 {α β γ τ : Type} [Rp α] [Rp β] [Rp γ] [Ra τ] {x : α} {z : β} {u : γ} {y : τ} : Proj 2 (x, z, u, y) u := fun K F vs ⟨v, r, e, p, v', r', e', p', v2, r2, e2, p2, q⟩ => ⟨v2, by subst e; subst e'; subst e2; show (ixN (r2.length + 1 + 1 + 1) 2).bind _ = _; unfold ixN; rw [if_pos (by decide), if_pos (by omega)]; rfl, p2⟩
theorem pj3 {α β γ δ τ : Type} [Rp α] [Rp β] [Rp γ] [Rp δ] [Ra τ] {x : α} {z : β} {u : γ} {t : δ} {y : τ} : Proj 3 (x, z, u, t, y) t := fun K F vs ⟨v, r, e, p, v', r', e', p', v2, r2, e2, p2, v3, r3, e3, p3, q⟩ => ⟨v3, by subst e; subst e'; subst e2; subst e3; show (ixN (r3.length + 1 + 1 + 1 + 1) 3).bind _ = _; unfold ixN; rw [if_pos (by decide), if_pos (by omega)]; rfl, p3⟩
theorem pj4 {α β γ δ ε τ : Type} [Rp α] [Rp β] [Rp γ] [Rp δ] [Rp ε] [Ra τ] {x : α} {z : β} {u : γ} {t : δ} {t2 : ε} {y : τ} : Proj 4 (x, z, u, t, t2, y) t2 := fun K F vs ⟨v, r, e, p, v', r', e', p', v2, r2, e2, p2, v3, r3, e3, p3, v4, r4, e4, p4, q⟩ => ⟨v4, by subst e; subst e'; subst e2; subst e3; subst e4; show (ixN (r4.length + 1 + 1 + 1 + 1 + 1) 4).bind _ = _; unfold ixN; rw [if_pos (by decide), if_pos (by omega)]; rfl, p4⟩
/-- what stands as a tuple -/
class Tup (θ : Type) (τ : outParam Type) [Ra τ] [Rp θ] where
  row : θ → τ
  eq : ∀ {K : PySem.W.Frag} {F : Hp} {v : V} {x : θ}, rp K F v x ↔ rpT row K F v x
instance {α : Type} [Rp α] : Tup (T1 α) (α × Unit) := ⟨T1.row, Iff.rfl⟩
instance {α β : Type} [Rp α] [Rp β] : Tup (T2 α β) (α × β × Unit) := ⟨T2.row, Iff.rfl⟩
instance {α β γ : Type} [Rp α] [Rp β] [Rp γ] : Tup (T3 α β γ) (α × β × γ × Unit) := ⟨T3.row, Iff.rfl⟩
instance {α β γ δ : Type} [Rp α] [Rp β] [Rp γ] [Rp δ] : Tup (T4 α β γ δ) (α × β × γ × δ × Unit) := ⟨T4.row, Iff.rfl⟩
instance {α β γ δ ε : Type} [Rp α] [Rp β] [Rp γ] [Rp δ] [Rp ε] : Tup (T5 α β γ δ ε) (α × β × γ × δ × ε × Unit) := ⟨T5.row, Iff.rfl⟩
theorem ev_ixT {θ τ α : Type} [Ra τ] [Rp θ] [Tup θ τ] [Rp α] {t : θ} {i : Int} {x : α} (ha : Ev X a σ F H t) (hb : Ev X b σ F H i) (h : Proj i (Tup.row t) x) (hs : PlainIx b := by exact fun _ _ => rfl) : Ev X (.Subscript a b pos) σ F H x := fun F1 H1 g Q q =>
  GoE.of (pe_ix ix_tup pe_go pe_go hs) (ha F1 H1 g _ fun v F2 H2 g2 r2 => hb F2 H2 (g.trans g2) _ fun w F3 H3 g3 r3 => by
    obtain ⟨p, vs, rfl, sq, rs⟩ := Tup.eq.mp (Rp.mono g3.ff r2)
    obtain ⟨y, hy, ry⟩ := h _ _ _ rs
    exact ⟨p, vs, i, y, rfl, r3, seqT_mono g3.fh sq, hy, q y F3 H3 (g2.trans g3) ry⟩)
/-- a sign of a text -/
def sAt (z : Str) (i : Int) : Option Str := if z.length ≤ sizeLine then (L2.atI z.cps.toList i).map fun c => ⟨#[c]⟩ else none
theorem ev_ixS {z : Str} {i : Int} {x : Str} (ha : Ev X a σ F H z) (hb : Ev X b σ F H i) (h : sAt z i = some x) (hs : PlainIx b := by exact fun _ _ => rfl) : Ev X (.Subscript a b pos) σ F H x := fun F1 H1 g Q q =>
  GoE.of (pe_ix ix_str pe_go pe_go hs) (ha F1 H1 g _ fun v F2 H2 g2 r2 => hb F2 H2 (g.trans g2) _ fun w F3 H3 g3 r3 => by
    unfold sAt at h
    split at h
    · rename_i hz
      obtain ⟨c, hc, rfl⟩ := Option.map_eq_some_iff.mp h
      exact ⟨z, i, c, r2, r3, hz, hc, q _ F3 H3 (g2.trans g3) rfl⟩
    · cases h)
/-! ### slices -/
def GoO (X : Cx) (o : Option Expr) : TO := fun σ H Q => Bx (∀ pins s, Inv X pins σ H s → wpAny (model X.prog X.w) X.A (evalPart o X.env) (fun u s' => ∃ o H', Inv X pins σ H' s' ∧ IsPart u o ∧ Q o H') X.xe s)
theorem po_go {o : Option Expr} : PO X o (GoO X o) := ⟨fun pins s σ H Q I h => h.o pins s I⟩
theorem GoO.of {o : Option Expr} {t : TO} {Q : Option Int → Hp → Prop} (p : PO X o t) (h : t σ H Q) : GoO X o σ H Q := ⟨fun pins s I => p.run pins s σ H Q I h⟩
def EvO (X : Cx) (o : Option Expr) (σ : L2.St) (F H : Hp) (i : Option Int) : Prop := ∀ F1 H1, GrX X.K F H F1 H1 → ∀ Q : Option Int → Hp → Prop, (∀ F2 H2, Gr F1 H1 F2 H2 → Q i H2) → GoO X o σ H1 Q
theorem eo_none : EvO X none σ F H none := fun F1 H1 g Q q => GoO.of po_none (q F1 H1 (.refl g.fh))
theorem eo_some {i : Int} (h : Ev X e σ F H i) : EvO X (some e) σ F H (some i) := fun F1 H1 g Q q => GoO.of (po_some pe_go) (h F1 H1 g _ fun v F2 H2 g2 r2 => ⟨i, r2, q F2 H2 g2⟩)
/-- a part of a list -/
def cut {α : Type} (xs : List α) (lo hi : Option Int) : List α := (xs.drop (HT.sIx xs.length 0 lo)).take (HT.sIx xs.length xs.length hi - HT.sIx xs.length 0 lo)
theorem Rps.drop {α : Type} [Rp α] : ∀ {vs : List V} {xs : List α} (n : Nat), Rps K F vs xs → Rps K F (vs.drop n) (xs.drop n)
  | _, _, 0, h => h
  | _, _, _ + 1, .nil => .nil
  | _, _, n + 1, .cons _ t => Rps.drop n t
theorem Rps.take {α : Type} [Rp α] : ∀ {vs : List V} {xs : List α} (n : Nat), Rps K F vs xs → Rps K F (vs.take n) (xs.take n)
  | _, _, 0, _ => .nil
  | _, _, _ + 1, .nil => .nil
  | _, _, n + 1, .cons r t => .cons r (Rps.take n t)
theorem Rps.append {α : Type} [Rp α] : ∀ {vs ws : List V} {xs ys : List α}, Rps K F vs xs → Rps K F ws ys → Rps K F (vs ++ ws) (xs ++ ys)
  | _, _, _, _, .nil, s => s
  | _, _, _, _, .cons r t, s => .cons r (Rps.append t s)
theorem Rps.cut {α : Type} [Rp α] {vs : List V} {xs : List α} (h : Rps K F vs xs) (lo hi : Option Int) : Rps K F (cutV vs lo hi) (Gx.cut xs lo hi) := by
  unfold cutV Gx.cut
  rw [h.length]
  exact (h.drop _).take _

/-! ### a new list that is private so far -/
/-- a thing that is changed where it stands -/
class Ob (α : Type) [Rp α] where
  ob : PySem.W.Frag → Hp → HO → α → Prop
  mono : ∀ {K : PySem.W.Frag} {F F' : Hp} {o : HO} {x : α}, L2.Same F F' → ob K F o x → ob K F' o x
  mu : ∀ {K : PySem.W.Frag} {F : Hp} {o : HO} {x : α}, ob K F o x → Mut (some o)
  ls : ∀ {K : PySem.W.Frag} {F : Hp} {o : HO} {x : α}, ob K F o x → lstish o
  fz : ∀ {K : PySem.W.Frag} {F : Hp} {o : HO} {x : α} {l : Addr} {od : Obj}, F l = some (.frz od o) → ob K F o x → rp K F (.ref l) x
open Ob (ob)
instance {α : Type} [Rp α] : Ob (List α) := ⟨fun K F o xs => ∃ vs, o = .lst vs ∧ Rps K F vs xs, fun s ⟨vs, e, r⟩ => ⟨vs, e, r.mono s⟩, fun ⟨vs, e, r⟩ => e ▸ trivial, fun ⟨vs, e, r⟩ => e ▸ trivial,
  fun {K F o x l od} h ⟨vs, e, r⟩ => ⟨l, vs, rfl, .inl (.inr ⟨od, e ▸ h⟩), r⟩⟩
theorem Ob.pl {α : Type} [Rp α] [Ob α] {o : HO} {x : α} (h : ob K F o x) : pln o := by
  have m := Ob.mu h
  have l := Ob.ls h
  cases o <;> first | trivial | exact m | exact l
theorem ob_lst {α : Type} [Rp α] {vs : List V} {xs : List α} (r : Rps K F vs xs) : ob K F (.lst vs) xs := ⟨vs, rfl, r⟩
/-- e gives a new thing x; nothing else knows it -/
def EvN {α : Type} [Rp α] [Ob α] (X : Cx) (e : Expr) (σ : L2.St) (F H : Hp) (x : α) : Prop := ∀ F1 H1, GrX X.K F H F1 H1 → ∀ Q : VK, (∀ l o F2 H2, Gr F1 H1 F2 H2 → H1 l = none → F2 l = none → H2 l = some o → ob X.K F2 o x → Q (.ref l) H2) → GoE X e σ H1 Q
theorem Gr.freeze {F H : Hp} {F0 H0 : Hp} {l : Addr} {o : HO} (g : Gr F0 H0 F H) (n : H0 l = none) (hf : F l = none) (pl : PlAt H l) (no : ntb o := by trivial) : Gr F0 H0 (upd F l o) (upd H l o) := by
  refine ⟨fun b u e => ?_, fun b u e => ?_, g.hh.poke n pl no, fun a o h ns => ?_⟩
  · have e1 := g.ff b u e
    rw [upd_ne (ne_of_none e1 hf)]; exact e1
  · by_cases hb : b = l
    · subst hb; rw [upd_same] at e ⊢; exact e
    · rw [upd_ne hb] at e ⊢; exact g.fh _ _ e
  · by_cases hb : a = l
    · subst hb; rw [n] at h; cases h
    · rw [upd_ne hb]; exact g.fr a o h ns
theorem GrX.freeze {F H : Hp} {F0 H0 : Hp} {l : Addr} {o : HO} (g : GrX K F0 H0 F H) (n : H0 l = none) (hf : F l = none) (pl : PlAt H l) (no : ntb o := by trivial) : GrX K F0 H0 (upd F l o) (upd H l o) := ⟨g.toGr.freeze n hf pl no, (g.h.upd pl no).2⟩
theorem GoE.lock {Q Q' : VK} (h : GoE X e σ H Q') (k : ∀ v H2, Q' v H2 → ∃ l o, H2 l = some o ∧ Mut (some o) ∧ ∀ od, Q v (upd H2 l (.frz od o))) : GoE X e σ H Q := .mk fun pins s I => thn (h.o pins s I) fun v s' ⟨x, H', I', r, q⟩ => by
  obtain ⟨l, o, hl, mu, q'⟩ := k _ _ q
  obtain ⟨od, I2⟩ := I'.lock hl mu
  exact ⟨x, _, I2, r, q' od⟩
theorem GoE.locked {Q : VK} {l : Addr} {o : HO} (hl : H l = some o) (mu : Mut (some o)) (h : ∀ od, GoE X e σ (upd H l (.frz od o)) fun v H2 => H2 l = some (.frz od o) ∧ Q v (upd H2 l o)) : GoE X e σ H Q := .mk fun pins s I => by
  obtain ⟨od, I1⟩ := I.lock hl mu
  exact thn ((h od).o pins s I1) fun v s' ⟨x, H', I2, r, e2, q⟩ => ⟨x, _, I2.unlock e2 (I.nofrz hl mu), r, q⟩
theorem GoT.locked {Q : Bool → Hp → Prop} {l : Addr} {o : HO} (hl : H l = some o) (mu : Mut (some o)) (h : ∀ od, GoT X e σ (upd H l (.frz od o)) fun v H2 => H2 l = some (.frz od o) ∧ Q v (upd H2 l o)) : GoT X e σ H Q := .mk fun pins s I => by
  obtain ⟨od, I1⟩ := I.lock hl mu
  exact thn ((h od).o pins s I1) fun v s' q0 => by
    obtain ⟨H', I2, e2, q⟩ := q0
    exact ⟨_, I2.unlock e2 (I.nofrz hl mu), q⟩
theorem GoS.locked {sts : List Stmt} {D : Ends} {l : Addr} {o : HO} (hl : H l = some o) (mu : Mut (some o)) (h : ∀ od, GoS X sts D σ (upd H l (.frz od o))) : GoS X sts D σ H := .mk fun pins s I => by
  obtain ⟨od, I1⟩ := I.lock hl mu
  exact (h od).o pins s I1
theorem same_upd {F : Hp} {l : Addr} {o : HO} (hf : F l = none) : L2.Same F (upd F l o) := fun b u e => by
  rw [upd_ne (ne_of_none e hf)]; exact e
theorem rp_lst {α : Type} [Rp α] {l : Addr} {vs : List V} {xs : List α} (hf : F l = none) (r : Rps K F vs xs) : rp K (upd F l (.lst vs)) (.ref l) xs := ⟨l, vs, rfl, SqL.of upd_same, r.mono (same_upd hf)⟩
theorem EvN.ev {α : Type} [Rp α] [Ob α] {x : α} (h : EvN X e σ F H x) : Ev X e σ F H x := fun F1 H1 g Q q =>
  GoE.lock (Q' := fun v H2 => ∃ l o F2, v = .ref l ∧ Gr F1 H1 F2 H2 ∧ H1 l = none ∧ F2 l = none ∧ H2 l = some o ∧ ob X.K F2 o x) (h F1 H1 g _ fun l o F2 H2 g2 n2 f2 h2 r2 => ⟨l, o, F2, rfl, g2, n2, f2, h2, r2⟩)
    fun v H2 ⟨l, o, F2, e, g2, n2, f2, h2, r2⟩ => ⟨l, o, h2, Ob.mu r2, fun od => by
      subst e
      exact q _ (upd F2 l (.frz od o)) _ (g2.freeze n2 f2 ⟨o, h2, Ob.pl r2⟩) (Ob.fz upd_same (Ob.mono (same_upd f2) r2))⟩
theorem EvN.newO {α : Type} [Rp α] [Ob α] {x : α} {F1 H1 : Hp} {Q : VK} {F2 H2 : Hp} {o : HO} {p : Addr} (q : ∀ l o F2 H2, Gr F1 H1 F2 H2 → H1 l = none → F2 l = none → H2 l = some o → ob X.K F2 o x → Q (.ref l) H2)
    (g : Gr F1 H1 F2 H2) (hp : H2 p = none) (r : ob X.K F2 o x) : Q (.ref p) (upd H2 p o) :=
  q p o F2 _ (g.trans (Gr.newP g.fh hp (Ob.pl r).ntb)) (g.hh.free hp) (g.fh.free hp) upd_same r
theorem EvN.new {α : Type} [Rp α] {xs : List α} {F1 H1 : Hp} {Q : VK} {F2 H2 : Hp} {vs : List V} {p : Addr} (q : ∀ l o F2 H2, Gr F1 H1 F2 H2 → H1 l = none → F2 l = none → H2 l = some o → ob X.K F2 o xs → Q (.ref l) H2)
    (g : Gr F1 H1 F2 H2) (hp : H2 p = none) (r : Rps X.K F2 vs xs) : Q (.ref p) (upd H2 p (.lst vs)) := EvN.newO q g hp (ob_lst r)
theorem en_slice {α : Type} [Rp α] {xs : List α} {lo hi : Option Expr} {i j : Option Int} {p2 : Pos} (ha : Ev X a σ F H xs) (hl : EvO X lo σ F H i) (hh : EvO X hi σ F H j) : EvN X (.Subscript a (.Slice lo hi none p2) pos) σ F H (cut xs i j) := fun F1 H1 g Q q =>
  GoE.of (pe_slice sl_list pe_go po_go po_go) (ha F1 H1 g _ fun v F2 H2 g2 r2 => hl F2 H2 (g.trans g2) _ fun F3 H3 g3 => hh F3 H3 ((g.trans g2).trans g3) _ fun F4 H4 g4 => by
    obtain ⟨p, vs, rfl, sq, rs⟩ := Rp.mono (g3.ff.trans g4.ff) r2
    exact ⟨p, vs, rfl, g4.fh.seq sq, fun p hp => EvN.new q ((g2.trans g3).trans g4) hp (rs.cut i j)⟩)
/-- a part of a text -/
def sCut (z : Str) (lo hi : Option Int) : Option Str := if z.length ≤ sizeLine then some (cutS z lo hi) else none
theorem ev_sliceS {z : Str} {lo hi : Option Expr} {i j : Option Int} {p2 : Pos} {r : Str} (ha : Ev X a σ F H z) (hl : EvO X lo σ F H i) (hh : EvO X hi σ F H j) (h : sCut z i j = some r) : Ev X (.Subscript a (.Slice lo hi none p2) pos) σ F H r := fun F1 H1 g Q q =>
  GoE.of (pe_slice sl_str pe_go po_go po_go) (ha F1 H1 g _ fun v F2 H2 g2 r2 => hl F2 H2 (g.trans g2) _ fun F3 H3 g3 => hh F3 H3 ((g.trans g2).trans g3) _ fun F4 H4 g4 => by
    unfold sCut at h
    split at h
    · rename_i hz
      exact ⟨z, r2, hz, q _ F4 H4 ((g2.trans g3).trans g4) (congrArg V.str (Option.some.inj h))⟩
    · cases h)
/-! ### displays -/
def EvL {α : Type} [Rp α] (X : Cx) (es : List Expr) (σ : L2.St) (F H : Hp) (xs : List α) : Prop := ∀ F1 H1, GrX X.K F H F1 H1 → ∀ Q : List V → Hp → Prop, (∀ vs F2 H2, Gr F1 H1 F2 H2 → Rps X.K F2 vs xs → Q vs H2) → GoA X es σ H1 Q
theorem el_nil {α : Type} [Rp α] : EvL X [] σ F H ([] : List α) := fun F1 H1 g Q q => GoA.of pa_nil (q [] F1 H1 (.refl g.fh) .nil)
theorem el_cons {α : Type} [Rp α] {x : α} {xs : List α} (ha : Ev X e σ F H x) (hr : EvL X es σ F H xs) (hs : starEach (e :: es) X.env = (false, eval e X.env) :: starEach es X.env := by rfl) : EvL X (e :: es) σ F H (x :: xs) := fun F1 H1 g Q q =>
  GoA.of (pa_cons pe_go pa_go hs) (ha F1 H1 g _ fun v F2 H2 g2 r2 => hr F2 H2 (g.trans g2) _ fun vs F3 H3 g3 r3 => q _ F3 H3 (g2.trans g3) (.cons (Rp.mono g3.ff r2) r3))
theorem en_list {α : Type} [Rp α] {xs : List α} (h : EvL X es σ F H xs) (hz : xs.length ≤ sizeLine) : EvN X (.List es pos) σ F H xs := fun F1 H1 g Q q =>
  GoE.of (pe_lst pa_go) (h F1 H1 g _ fun vs F2 H2 g2 r2 => ⟨by rw [r2.length]; exact hz, fun p hp => EvN.new q g2 hp r2⟩)
theorem ev_tp {α : Type} [Rp α] {xs : List α} {k : Nat} (h : EvL X es σ F H xs) (hz : xs.length ≤ sizeLine) : Ev X (.Tuple es k pos) σ F H (Tp.mk xs) := fun F1 H1 g Q q =>
  GoE.of (pe_tup pa_go) (h F1 H1 g _ fun vs F2 H2 g2 r2 => ⟨by rw [r2.length]; exact hz, fun p hp => q _ (upd F2 p (.tup vs)) _ (g2.trans (Gr.new g2.fh hp)) ⟨p, vs, rfl, upd_same, r2.mono (same_upd (g2.fh.free hp))⟩⟩)
class RaN (τ : Type) [Ra τ] where
  n : Nat
  len : ∀ {K : PySem.W.Frag} {F : Hp} {vs : List V} {x : τ}, ra K F vs x → vs.length = n
instance : RaN Unit := ⟨0, fun {K F vs x} h => by
  have e : vs = [] := h
  rw [e]; rfl⟩
instance {α τ : Type} [Rp α] [Ra τ] [RaN τ] : RaN (α × τ) := ⟨RaN.n τ + 1, fun ⟨v, r, e, p, q⟩ => by rw [e, List.length_cons, RaN.len q]⟩
theorem ev_tup {θ τ : Type} [Ra τ] [RaN τ] [Rp θ] [Tup θ τ] {x : θ} {k : Nat} (h : EvA X es σ F H (Tup.row x)) (hz : RaN.n τ ≤ sizeLine) : Ev X (.Tuple es k pos) σ F H x := fun F1 H1 g Q q =>
  GoE.of (pe_tup pa_go) (h F1 H1 g _ fun vs F2 H2 g2 r2 => ⟨by rw [RaN.len r2]; exact hz, fun p hp => q _ (upd F2 p (.tup vs)) _ (g2.trans (Gr.new g2.fh hp)) (Tup.eq.mpr ⟨p, vs, rfl, upd_same, Ra.mono (same_upd (g2.fh.free hp)) r2⟩)⟩)
theorem ev_tup2 {α β : Type} [Rp α] [Rp β] {x : α} {y : β} {k : Nat} (h : EvA X es σ F H (x, y, ())) : Ev X (.Tuple es k pos) σ F H (T2.mk x y) := ev_tup (θ := T2 α β) h (by show 2 ≤ sizeLine; decide)
theorem ev_tup3 {α β γ : Type} [Rp α] [Rp β] [Rp γ] {x : α} {y : β} {z : γ} {k : Nat} (h : EvA X es σ F H (x, y, z, ())) : Ev X (.Tuple es k pos) σ F H (T3.mk x y z) := ev_tup (θ := T3 α β γ) h (by show 3 ≤ sizeLine; decide)
theorem ev_tup4 {α β γ δ : Type} [Rp α] [Rp β] [Rp γ] [Rp δ] {x : α} {y : β} {z : γ} {u : δ} {k : Nat} (h : EvA X es σ F H (x, y, z, u, ())) : Ev X (.Tuple es k pos) σ F H (T4.mk x y z u) := ev_tup (θ := T4 α β γ δ) h (by show 4 ≤ sizeLine; decide)
theorem ev_tup1 {α : Type} [Rp α] {x : α} {k : Nat} (h : EvA X es σ F H (x, ())) : Ev X (.Tuple es k pos) σ F H (T1.mk x) := ev_tup (θ := T1 α) h (by show 1 ≤ sizeLine; decide)

/-! ### calls -/
/-- the promise: from arguments a with f a = some r a value of r; new things alone are made -/
def Pr (K : PySem.W.Frag) {τ ρ : Type} [Ra τ] [Rp ρ] (f : τ → Option ρ) : Sp := fun vs H Q _ => ∃ F a r, SmX K F H ∧ ra K F vs a ∧ f a = some r ∧ ∀ F' H' u, Gr F H F' H' → rp K F' u r → Q u H'
theorem ev_call {τ ρ : Type} [Ra τ] [Rp ρ] {f : τ → Option ρ} {y : τ} {r : ρ} {k : Nat} {fa : Addr} {fd : FuncData} {ps : List Str} {x : Str} {p : Pos} (Fn : FnOk X.prog X.w X.K X.mg X.base CX0 k fa fd ps (Pr X.K f)) (hr : Room k X.A) (hm : X.mg x = some (.ref fa))
    (hk : PySem.W.keepIn X.K (.ref fa) = true) (hb : Binds X.K fd ps []) (ha : EvA X (e :: es) σ F H y) (h : f y = some r) (hg : Gl X x := by rfl) (hdb : (x == ("__debug__" : Str)) = false := by decide)
    (he : starEach (e :: es) X.env = (false, eval e X.env) :: starEach es X.env := by rfl) (hpl : (backTo pos (starEach es X.env)).any (·.1) = false := by rfl) : Ev X (.Call (.Name x p) (e :: es) [] pos) σ F H r := fun F1 H1 g Q q =>
  GoE.of (pe_call Fn hr hg hm hk hb .nil pass0 pa_go hdb he hpl) (ha F1 H1 g _ fun vs F2 H2 g2 r2 => ⟨F2, y, r, (g.trans g2).sm, by rw [List.append_nil]; exact r2, h, fun F3 H3 u g3 r3 => q u F3 H3 (g2.trans g3) r3⟩)
theorem ev_call0 {ρ : Type} [Rp ρ] {f : Unit → Option ρ} {r : ρ} {k : Nat} {fa : Addr} {fd : FuncData} {ps : List Str} {x : Str} {p : Pos} (Fn : FnOk X.prog X.w X.K X.mg X.base CX0 k fa fd ps (Pr X.K f)) (hr : Room k X.A) (hm : X.mg x = some (.ref fa))
    (hk : PySem.W.keepIn X.K (.ref fa) = true) (hb : Binds X.K fd ps []) (h : f () = some r) (hg : Gl X x := by rfl) (hdb : (x == ("__debug__" : Str)) = false := by decide) : Ev X (.Call (.Name x p) [] [] pos) σ F H r := fun F1 H1 g Q q =>
  GoE.of (pe_call0 Fn hr hg hm hk hb .nil pass0 hdb) ⟨F1, (), r, g.sm, rfl, h, fun F3 H3 u g3 r3 => q u F3 H3 g3 r3⟩
/-- a built-in by its rule -/
def OpC {τ ρ : Type} [Ra τ] [Rp ρ] (K : PySem.W.Frag) (r : List V → Hp → VK → Prop) (y : τ) (z : ρ) : Prop := ∀ (F H : Hp) (vs : List V) (Q : VK), L2.Same F H → ra K F vs y → (∀ u F' H', Gr F H F' H' → rp K F' u z → Q u H') → r vs H Q
theorem ev_callB {τ ρ : Type} [Ra τ] [Rp ρ] {y : τ} {z : ρ} {id : String} {x : Str} {p : Pos} {r : List V → Hp → VK → Prop} (hc : CallR X (.builtin id) r) (ho : OpC X.K r y z) (hm : X.mg x = none) (hv : bootBuiltins x = some (.builtin id)) (ha : EvA X (e :: es) σ F H y) (hg : Gl X x := by rfl)
    (hn : x ≠ "__name__" := by decide) (hdb : (x == ("__debug__" : Str)) = false := by decide)
    (he : starEach (e :: es) X.env = (false, eval e X.env) :: starEach es X.env := by rfl) (hpl : (backTo pos (starEach es X.env)).any (·.1) = false := by rfl) : Ev X (.Call (.Name x p) (e :: es) [] pos) σ F H z := fun F1 H1 g Q q =>
  GoE.of (pe_callB hc hg hm hv pa_go hn hdb he hpl) (ha F1 H1 g _ fun vs F2 H2 g2 r2 => ho F2 H2 vs Q g2.fh r2 fun u F3 H3 g3 r3 => q u F3 H3 (g2.trans g3) r3)
theorem ev_callTy {τ ρ : Type} [Ra τ] [Rp ρ] {y : τ} {z : ρ} {T : String} {x : Str} {p : Pos} {r : List V → Hp → VK → Prop} (hc : CallR X (.type T) r) (ho : OpC X.K r y z) (hm : X.mg x = none) (hv : bootBuiltins x = some (.type T)) (ha : EvA X (e :: es) σ F H y) (hg : Gl X x := by rfl)
    (hn : x ≠ "__name__" := by decide) (hdb : (x == ("__debug__" : Str)) = false := by decide)
    (he : starEach (e :: es) X.env = (false, eval e X.env) :: starEach es X.env := by rfl) (hpl : (backTo pos (starEach es X.env)).any (·.1) = false := by rfl) : Ev X (.Call (.Name x p) (e :: es) [] pos) σ F H z := fun F1 H1 g Q q =>
  GoE.of (pe_callTy hc hg hm hv pa_go hn hdb he hpl) (ha F1 H1 g _ fun vs F2 H2 g2 r2 => ho F2 H2 vs Q g2.fh r2 fun u F3 H3 g3 r3 => q u F3 H3 (g2.trans g3) r3)
theorem oc1 {α ρ : Type} [Rp α] [Rp ρ] {r : List V → Hp → VK → Prop} {y : α} {z : ρ} (h : ∀ (F H : Hp) (v : V) (Q : VK), L2.Same F H → rp K F v y → (∀ u F' H', Gr F H F' H' → rp K F' u z → Q u H') → r [v] H Q) : OpC K r (y, ()) z :=
  fun F H vs Q s ⟨v, w, e, rv, rw'⟩ k => by
    have e2 : w = [] := rw'
    subst e2; subst e
    exact h F H v Q s rv k
theorem oc2 {α β ρ : Type} [Rp α] [Rp β] [Rp ρ] {r : List V → Hp → VK → Prop} {y : α} {y' : β} {z : ρ} (h : ∀ (F H : Hp) (v w : V) (Q : VK), L2.Same F H → rp K F v y → rp K F w y' → (∀ u F' H', Gr F H F' H' → rp K F' u z → Q u H') → r [v, w] H Q) : OpC K r (y, y', ()) z :=
  fun F H vs Q s ⟨v, w, e, rv, v2, w2, e3, rv2, rw'⟩ k => by
    have e2 : w2 = [] := rw'
    subst e2; subst e3; subst e
    exact h F H v v2 Q s rv rv2 k
theorem oc_lenL {α : Type} [Rp α] {xs : List α} : OpC K (fun vs H Q => ∃ p ys, vs = [.ref p] ∧ (SqL K H p ys ∨ SqT K H p ys) ∧ Q (.int ys.length) H) (xs, ()) (xs.length : Int) :=
  oc1 fun F H v Q s ⟨p, vs, e, sq, rs⟩ k => ⟨p, vs, by rw [e], .inl (s.seq sq), k _ F H (.refl s) (congrArg (fun n : Nat => V.int n) rs.length)⟩
theorem oc_lenTp {α θ : Type} [Rp α] [Rp θ] [TL θ α] {xs : θ} : OpC K (fun vs H Q => ∃ p ys, vs = [.ref p] ∧ (SqL K H p ys ∨ SqT K H p ys) ∧ Q (.int ys.length) H) (xs, ()) ((TL.l xs).length : Int) :=
  oc1 fun F H v Q s r k => let ⟨p, vs, e, sq, rs⟩ := TL.sq r; ⟨p, vs, by rw [e], .inr (sqT_mono s sq), k _ F H (.refl s) (congrArg (fun n : Nat => V.int n) rs.length)⟩
theorem oc_lenT {θ τ : Type} [Ra τ] [RaN τ] [Rp θ] [Tup θ τ] {x : θ} : OpC K (fun vs H Q => ∃ p ys, vs = [.ref p] ∧ (SqL K H p ys ∨ SqT K H p ys) ∧ Q (.int ys.length) H) (x, ()) ((RaN.n τ : Nat) : Int) :=
  oc1 fun F H v Q s r k => by
    obtain ⟨p, vs, e, sq, rs⟩ := Tup.eq.mp r
    exact ⟨p, vs, by rw [e], .inr (seqT_mono s sq), k _ F H (.refl s) (congrArg (fun n : Nat => V.int n) (RaN.len rs))⟩
/-- the length of a text -/
def sLen (z : Str) : Option Int := if z.length ≤ sizeLine then some (z.length : Int) else none
theorem oc_lenS {z : Str} {r : Int} (h : sLen z = some r) : OpC K (fun xs H Q => ∃ z, xs = [.str z] ∧ z.length ≤ sizeLine ∧ Q (.int z.length) H) (z, ()) r :=
  oc1 fun F H v Q s e k => by
    have e : v = .str z := e
    unfold sLen at h
    split at h
    · rename_i hz
      exact ⟨z, by rw [e], hz, k _ F H (.refl s) (congrArg V.int (Option.some.inj h))⟩
    · cases h
theorem oc_list {α : Type} [Rp α] {xs : List α} : OpC K (fun vs H Q => ∃ p ys, vs = [.ref p] ∧ (SqL K H p ys ∨ SqT K H p ys) ∧ ∀ l, H l = none → Q (.ref l) (upd H l (.lst ys))) (xs, ()) xs :=
  oc1 fun F H v Q s ⟨p, vs, e, sq, rs⟩ k => ⟨p, vs, by rw [e], .inl (s.seq sq), fun l hl => k _ (upd F l (.lst vs)) _ (Gr.new s hl) (rp_lst (s.free hl) rs)⟩
/-! ### kinds -/
theorem isi_const {α : Type} [Rp α] {x : α} {T U : String} {r : Bool} (hx : ∀ {F H : Hp} {v : V}, L2.Same F H → rp K F v x → TyX K H v (.type U)) (h : kitB U T = some r) : ∀ (F H : Hp) (v : V) (Q : VK), L2.Same F H → rp K F v x → (∀ u F' H', Gr F H F' H' → rp K F' u r → Q u H') → rIsi K [v, .ty T] H Q :=
  fun F H v Q s rv k => ⟨v, .ty T, _, _, r, rfl, .ty T, hx s rv, kit_ty h, k _ F H (.refl s) rfl⟩
end
end Gx

/-! Gz: statements, loops, texts. -/
namespace Gx
open PySem PySem.Spec PyProof.Rows L2
open Rp (rp)
open Ra (ra)
open Ob (ob)
section
variable {X : Cx} {K : PySem.W.Frag} {e a b c d : Expr} {es : List Expr} {σ : L2.St} {F H F0 H0 : Hp} {pos : Pos} {D : Ends} {st : Stmt} {rest body : List Stmt}
/-! ### statements -/
theorem go_set {α : Type} [Rp α] {x : α} {n : Str} {p : Pos} (i : Nat) (s : SmX X.K F H) (he : Ev X e σ F H x) (k : ∀ v F' H', Gr F H F' H' → rp X.K F' v x → GoS X rest D (σ.set i (some v)) H') (hN : X.N.Nodup) (hi : X.N[i]? = some n := by rfl)
    (hx : Loc X.env.scope n := by first | exact Or.inl rfl | exact Or.inr rfl) (hs : swapsWith e (some (.Name n p)) pos.line X.env = pure false := by rfl) (hf : X.fn n = true ∨ X.env.scope.names.lookup n = some .local := by first | exact .inl rfl | exact .inr rfl) :
    GoS X (.Assign [.Name n p] e pos :: rest) D σ H :=
  GoS.cons (ps_set hN hi hx pe_go hs hf) (he F H (.refl s) _ fun v F2 H2 g r => k v F2 H2 g r)
theorem go_setN {α : Type} [Rp α] [Ob α] {x : α} {n : Str} {p : Pos} (i : Nat) (s : SmX X.K F H) (he : EvN X e σ F H x) (k : ∀ l o F' H', Gr F H F' H' → H l = none → F' l = none → H' l = some o → ob X.K F' o x → GoS X rest D (σ.set i (some (.ref l))) H') (hN : X.N.Nodup) (hi : X.N[i]? = some n := by rfl)
    (hx : Loc X.env.scope n := by first | exact Or.inl rfl | exact Or.inr rfl) (hs : swapsWith e (some (.Name n p)) pos.line X.env = pure false := by rfl) (hf : X.fn n = true ∨ X.env.scope.names.lookup n = some .local := by first | exact .inl rfl | exact .inr rfl) :
    GoS X (.Assign [.Name n p] e pos :: rest) D σ H :=
  GoS.cons (ps_set hN hi hx pe_go hs hf) (he F H (.refl s) _ fun l o F2 H2 g n f h r => k l o F2 H2 g n f h r)
theorem go_ret {α : Type} [Rp α] {x : α} (s : SmX X.K F H) (he : Ev X e σ F H x) (k : ∀ v F' H', Gr F H F' H' → rp X.K F' v x → D.rt v H') : GoS X (.Return (some e) pos :: rest) D σ H :=
  GoS.cons (ps_ret pe_go) (he F H (.refl s) _ fun v F2 H2 g r => k v F2 H2 g r)
theorem go_retN (k : D.rt .non H) : GoS X (.Return none pos :: rest) D σ H := GoS.cons ps_retN k
theorem go_brk (k : D.bk σ H) : GoS X (.Break pos :: rest) D σ H := GoS.cons ps_break k
theorem go_cont (k : D.ct σ H) : GoS X (.Continue pos :: rest) D σ H := GoS.cons ps_continue k
theorem go_pass (k : GoS X rest D σ H) : GoS X (.Pass pos :: rest) D σ H := GoS.cons ps_pass k
theorem go_expr {α : Type} [Rp α] {x : α} (s : SmX X.K F H) (he : Ev X e σ F H x) (k : ∀ F' H', Gr F H F' H' → GoS X rest D σ H') (hs : swapsWith e none pos.line X.env = pure false := by rfl) : GoS X (.Expr e pos :: rest) D σ H :=
  GoS.cons (ps_expr pe_go hs) (he F H (.refl s) _ fun v F2 H2 g r => k F2 H2 g)
theorem go_if {t : Bool} {as bs : List Stmt} (s : SmX X.K F H) (hc : EvT X c σ F H t) (ka : t = true → ∀ F' H', Gr F H F' H' → GoS X as { D with nx := GoS X rest D } σ H') (kb : t = false → ∀ F' H', Gr F H F' H' → GoS X bs { D with nx := GoS X rest D } σ H') :
    GoS X (.If c as bs pos :: rest) D σ H :=
  GoS.cons (ps_if pt_go pss_go pss_go) (hc F H (.refl s) _ fun F2 H2 g => by
    cases t with
    | true => rw [if_pos rfl]; exact ka rfl F2 H2 g
    | false => rw [if_neg Bool.false_ne_true]; exact kb rfl F2 H2 g)
/-- the ways meet behind: P -/
theorem go_ifj {t : Bool} {as bs : List Stmt} (P : L2.St → Hp → Prop) (s : SmX X.K F H) (hc : EvT X c σ F H t) (ka : t = true → ∀ F' H', Gr F H F' H' → GoS X as { D with nx := P } σ H') (kb : t = false → ∀ F' H', Gr F H F' H' → GoS X bs { D with nx := P } σ H')
    (k : ∀ σ' H', P σ' H' → GoS X rest D σ' H') : GoS X (.If c as bs pos :: rest) D σ H :=
  go_if s hc (fun e F' H' g => (ka e F' H' g).mono k (fun _ _ h => h) (fun _ _ h => h) fun _ _ h => h) (fun e F' H' g => (kb e F' H' g).mono k (fun _ _ h => h) (fun _ _ h => h) fun _ _ h => h)
/-! ### a private thing -/
structure Own {α : Type} [Rp α] [Ob α] (K : PySem.W.Frag) (H0 F H : Hp) (l : Addr) (x : α) : Prop where
  n : H0 l = none
  f : F l = none
  h : ∃ o, H l = some o ∧ ob K F o x
section
variable {α β : Type} [Rp α] [Ob α] [Rp β] [Ob β] {x y : α} {l l' : Addr}
theorem Own.ne0 (o : Own K H0 F H l x) : H l ≠ none := by
  obtain ⟨u, h, _⟩ := o.h
  rw [h]; exact fun e => nomatch e
theorem Own.up {F' H' : Hp} (o : Own K H0 F H l x) (g : Gr F H F' H') : Own K H0 F' H' l x := by
  obtain ⟨u, h, r⟩ := o.h
  exact ⟨o.n, (g.fr l _ h (Ob.ls r)).trans o.f, u, g.hh.k _ _ h (Ob.pl r).ntb, Ob.mono g.ff r⟩
theorem Own.pl (o : Own K H0 F H l x) : PlAt H l := by
  obtain ⟨u, h, r⟩ := o.h
  exact ⟨u, h, Ob.pl r⟩
theorem Own.other {u : HO} (o : Own K H0 F H l x) (h : l ≠ l') : Own K H0 F (upd H l' u) l x := by
  obtain ⟨v, e, r⟩ := o.h
  exact ⟨o.n, o.f, v, by rw [upd_ne h]; exact e, r⟩
/-- it becomes shared -/
theorem Own.freeze {st : List Stmt} (o : Own X.K H0 F H l x) (g : GrX X.K F0 H0 F H) (k : ∀ F' H', L2.Same F F' → L2.Same F' H' → GrX X.K F0 H0 F' H' → rp X.K F' (.ref l) x → (∀ a, a ≠ l → F' a = F a ∧ H' a = H a) → GoS X st D σ H') : GoS X st D σ H := by
  obtain ⟨u, h, r⟩ := o.h
  refine GoS.locked h (Ob.mu r) fun od => ?_
  have g2 := g.freeze (o := .frz od u) o.n o.f o.pl
  exact k _ _ (same_upd o.f) g2.fh g2 (Ob.fz upd_same (Ob.mono (same_upd o.f) r)) fun a ha => ⟨upd_ne ha, upd_ne ha⟩
theorem Own.keepF {F' H' : Hp} (o : Own K H0 F H l x) (hl : l ≠ l') (s : L2.Same F F') (k : ∀ a, a ≠ l' → F' a = F a ∧ H' a = H a) : Own K H0 F' H' l x := by
  obtain ⟨u, h, r⟩ := o.h
  exact ⟨o.n, (k l hl).1.trans o.f, u, (k l hl).2.trans h, Ob.mono s r⟩
theorem Own.ne {H1 : Hp} (o : Own K H0 F H l x) (h : H l' = none) : l ≠ l' := fun e => o.ne0 (e ▸ h)
theorem Own.set {u : HO} {z : β} (n : H0 l = none) (f : F l = none) (r : ob K F u z) : Own K H0 F (upd H l u) l z := ⟨n, f, u, upd_same, r⟩
end
theorem Gr.poke {F H : Hp} {l : Addr} {u : HO} (g : Gr F0 H0 F H) (n : H0 l = none) (f : F l = none) (pl : PlAt H l) (no : ntb u := by trivial) : Gr F0 H0 F (upd H l u) := by
  refine ⟨g.ff, fun b o e => ?_, g.hh.poke n pl no, g.fr⟩
  rw [upd_ne (ne_of_none e f)]; exact g.fh _ _ e
theorem GrX.poke {F H : Hp} {l : Addr} {u : HO} (g : GrX K F0 H0 F H) (n : H0 l = none) (f : F l = none) (pl : PlAt H l) (no : PlAt (upd H l u) l) : GrX K F0 H0 F (upd H l u) := by
  have no : ntb u := by
    obtain ⟨o, e, p⟩ := no
    rw [upd_same] at e; cases e; exact p.ntb
  exact ⟨g.toGr.poke n f pl no, (g.h.upd (v := u) pl no).1⟩
/-- appending within the bound -/
def app {α : Type} (xs : List α) (y : α) : Option (List α) := if xs.length < sizeLine then some (xs ++ [y]) else none
theorem app_of {α : Type} {xs : List α} {y : α} {r : List α} (h : app xs y = some r) : xs.length < sizeLine ∧ xs ++ [y] = r := by
  unfold app at h; split at h
  · exact ⟨by assumption, Option.some.inj h⟩
  · cases h
theorem go_append {α : Type} [Rp α] {xs : List α} {y : α} {r : List α} {l : Addr} {n : Str} {p1 p2 p3 : Pos} (i : Nat) (s : SmX X.K F H) (o : Own X.K H0 F H l xs) (hσ : σ[i]? = some (some (.ref l))) (he : Ev X e σ F H y) (h : app xs y = some r)
    (k : ∀ u F' H', Gr F H F' H' → PlAt H' l → F' l = none → Own X.K H0 F' (upd H' l u) l r → GoS X rest D σ (upd H' l u)) (hN : X.N[i]? = some n := by rfl) (hv : Vis X.env.scope n := by first | exact Or.inl rfl | exact Or.inr (Or.inl rfl) | exact Or.inr (Or.inr rfl))
    (hd : (n == ("__debug__" : Str)) = false := by decide) (hcd : (n == ("__classdict__" : Str)) = false := by decide) 
    (hbase : attributeBase (.Name n p1) "append" X.env (eval (.Name n p1) X.env) = eval (.Name n p1) X.env := by rfl)
    (hfew : ((backTo p3 (starEach [e] X.env)).all (fun x => !x.1) && (backToKw p3 (keywordEach [] X.env)).all (fun x => x.1.isSome) && decide ([e].length + ([] : List Keyword).length + (if ([] : List Keyword).isEmpty then 0 else 1) < 30)) = true := by rfl)
    (hline : (p2.endLine == p3.line) = true := by rfl) (hs : starEach [e] X.env = (false, eval e X.env) :: starEach [] X.env := by rfl) (hplain : (backTo p3 (starEach [] X.env)).any (·.1) = false := by rfl) (hsw : swapsWith (.Call (.Attribute (.Name n p1) "append" p2) [e] [] p3) none pos.line X.env = pure false := by rfl) :
    GoS X (.Expr (.Call (.Attribute (.Name n p1) "append" p2) [e] [] p3) pos :: rest) D σ H := by
  obtain ⟨_, hl, vs, rfl, rs⟩ := o.h
  obtain ⟨hz, rfl⟩ := app_of h
  refine GoS.cons (ps_expr (pe_bm PySem.F.plainAttrs_list PySem.F.slot_list_append PySem.F.type_list_append mt_append (pe_var hN hv hd hcd) (pa_cons pe_go pa_nil hs) hbase hfew hline hs hplain) hsw) ?_
  refine ⟨_, hσ, .inl ⟨rfl, _, SqL.of hl⟩, he F H (.refl s) _ fun v F2 H2 g r => ?_⟩
  have o2 := o.up g
  have hl2 := g.hh.k _ _ hl trivial
  exact ⟨l, vs, v, rfl, rfl, hl2, by rw [rs.length]; exact hz, k _ F2 H2 g o2.pl o2.f (Own.set o2.n o2.f (ob_lst (Rps.append (rs.mono g.ff) (.cons r .nil))))⟩

/-! ### what is walked -/
def Wk {α : Type} [Rp α] (K : PySem.W.Frag) (J : It) (F H : Hp) (xs : List α) : Prop := ∀ i Fi Hi, L2.Same F Fi → L2.Same Fi Hi → (∀ x, xs[i]? = some x → J.go i Hi ∧ ∀ v H', J.yld i Hi v H' → ∃ F', Gr Fi Hi F' H' ∧ rp K F' v x) ∧ (i = xs.length → J.stop i Hi)
def EvI {α : Type} [Rp α] (X : Cx) (tg iter : Expr) (σ : L2.St) (F H : Hp) (xs : List α) : Prop := ∀ F1 H1, GrX X.K F H F1 H1 → ∀ R : It → Hp → Prop, (∀ J F2 H2, Gr F1 H1 F2 H2 → Wk X.K J F2 H2 xs → R J H2) → GoI X tg iter σ H1 R
theorem ei_list {α : Type} [Rp α] {xs : List α} {tg : Expr} (h : Ev X e σ F H xs) : EvI X tg e σ F H xs := fun F1 H1 g R q =>
  GoI.of (pi_list pe_go) (h F1 H1 g _ fun v F2 H2 g2 ⟨a, vs, e, sq, rs⟩ => ⟨a, e, ⟨vs, g2.fh.seq sq⟩, q _ F2 H2 g2 fun i Fi Hi s1 s2 => by
    have sq' := s2.seq (s1.seq sq)
    refine ⟨fun x hx => ?_, fun e => ⟨vs, sq', by rw [e, rs.length]; exact Nat.le_refl _⟩⟩
    obtain ⟨y, hy, ry⟩ := rs.get hx
    refine ⟨⟨vs, y, sq', hy⟩, fun v H' ⟨e1, e2⟩ => ?_⟩
    subst e1
    have e3 := e2 vs sq'
    rw [hy] at e3
    cases e3
    exact ⟨Fi, .refl s2, Rp.mono s1 ry⟩⟩)
theorem ei_tp {α θ : Type} [Rp α] [Rp θ] [TL θ α] {xs : θ} {tg : Expr} (h : Ev X e σ F H xs) : EvI X tg e σ F H (TL.l xs) := fun F1 H1 g R q =>
  GoI.of (pi_tup pe_go) (h F1 H1 g _ fun v F2 H2 g2 r2 => let ⟨a, vs, e, sq, rs⟩ := TL.sq r2; ⟨a, e, ⟨vs, sqT_mono g2.fh sq⟩, q _ F2 H2 g2 fun i Fi Hi s1 s2 => by
    have sq' := sqT_mono (K := X.K) s2 (sqT_mono s1 sq)
    refine ⟨fun x hx => ?_, fun e => ⟨vs, sq', by rw [e, rs.length]; exact Nat.le_refl _⟩⟩
    obtain ⟨y, hy, ry⟩ := rs.get hx
    refine ⟨⟨vs, y, sq', hy⟩, fun v H' ⟨e1, e2⟩ => ?_⟩
    subst e1
    have e3 := e2 vs sq'
    rw [hy] at e3
    cases e3
    exact ⟨Fi, .refl s2, Rp.mono s1 ry⟩⟩)
/-- the intsF from lo on, n of them -/
def intsF (lo : Int) (n : Nat) : List Int := (List.range n).map fun (i : Nat) => lo + (i : Int)
theorem ints_get {lo : Int} {n i : Nat} {x : Int} (h : (intsF lo n)[i]? = some x) : i < n ∧ x = lo + i := by
  unfold intsF at h
  rw [List.getElem?_map] at h
  obtain ⟨j, hj, e⟩ := Option.map_eq_some_iff.mp h
  rw [List.getElem?_range] at hj
  · have e1 : i = j := Option.some.inj hj
    subst e1
    refine ⟨?_, e.symm⟩
    rcases Nat.lt_or_ge i n with h1 | h1
    · exact h1
    · rw [List.getElem?_eq_none (by simpa using h1)] at h; cases h
  · rcases Nat.lt_or_ge i n with h1 | h1
    · exact h1
    · rw [List.getElem?_eq_none (by simpa using h1)] at hj; cases hj
theorem ints_len {lo : Int} {n : Nat} : (intsF lo n).length = n := by unfold intsF; simp
theorem wk_range {lo : Int} {n : Nat} : Wk K (Itr lo n) F H (intsF lo n) := fun i Fi Hi s1 s2 => by
  refine ⟨fun x hx => ?_, fun e => by rw [ints_len] at e; exact Nat.le_of_eq e.symm⟩
  obtain ⟨h1, rfl⟩ := ints_get hx
  refine ⟨h1, fun v H' ⟨e1, e2⟩ => ?_⟩
  subst e1
  exact ⟨Fi, .refl s2, e2⟩
def rngG (j : Int) : Option (List Int) := if -(2 ^ 62) ≤ j ∧ j < 2 ^ 62 then some (intsF 0 j.toNat) else none
def rngG2 (i j : Int) : Option (List Int) := if -(2 ^ 62) ≤ i ∧ i < 2 ^ 62 ∧ -(2 ^ 62) ≤ j ∧ j < 2 ^ 62 then some (intsF i (j - i).toNat) else none
theorem ei_range1 {j : Int} {r : List Int} {tg : Expr} {p : Pos} (h : Ev X a σ F H j) (hr : rngG j = some r) (hm : X.mg "range" = none) (hg : Gl X "range" := by rfl) (hs : starEach [a] X.env = [(false, eval a X.env)] := by rfl) : EvI X tg (.Call (.Name "range" p) [a] [] pos) σ F H r := fun F1 H1 g R q =>
  GoI.of (pi_range1 hg hm (pa_cons pe_go pa_nil (by rw [hs]; rfl)) hs) (h F1 H1 g _ fun v F2 H2 g2 r2 => by
    unfold rngG at hr
    split at hr
    · rename_i hj
      cases hr
      have r2 : v = .int j := r2
      exact ⟨j, by rw [r2], hj.1, hj.2, q _ F2 H2 g2 wk_range⟩
    · cases hr)
theorem ei_range2 {i j : Int} {r : List Int} {tg : Expr} {p : Pos} (h : Ev X a σ F H i) (h' : Ev X b σ F H j) (hr : rngG2 i j = some r) (hm : X.mg "range" = none) (hg : Gl X "range" := by rfl) (hs : starEach [a, b] X.env = [(false, eval a X.env), (false, eval b X.env)] := by rfl) (hs2 : starEach [b] X.env = [(false, eval b X.env)] := by rfl) :
    EvI X tg (.Call (.Name "range" p) [a, b] [] pos) σ F H r := fun F1 H1 g R q =>
  GoI.of (pi_range2 hg hm (pa_cons pe_go (pa_cons pe_go pa_nil (by rw [hs2]; rfl)) (by rw [hs, hs2])) hs hs2) (h F1 H1 g _ fun v F2 H2 g2 r2 => h' F2 H2 (g.trans g2) _ fun v' F3 H3 g3 r3 => by
    unfold rngG2 at hr
    split at hr
    · rename_i hj
      cases hr
      have r2 : v = .int i := r2
      have r3 : v' = .int j := r3
      exact ⟨i, j, by rw [r2, r3], hj, q _ F3 H3 (g2.trans g3) wk_range⟩
    · cases hr)
/-- a text's sgns -/
def sgns (x : Str) : List Str := x.cps.toList.map fun c => ⟨#[c]⟩
theorem ei_str {x : Str} {tg : Expr} (h : Ev X e σ F H x) : EvI X tg e σ F H (sgns x) := fun F1 H1 g R q =>
  GoI.of (pi_str pe_go) (h F1 H1 g _ fun v F2 H2 g2 r2 => ⟨x, r2, q _ F2 H2 g2 fun i Fi Hi s1 s2 => by
    unfold sgns
    refine ⟨fun y hy => ?_, fun e => by rw [e]; simp [Its]⟩
    rw [List.getElem?_map] at hy
    obtain ⟨c, hc, rfl⟩ := Option.map_eq_some_iff.mp hy
    have hc' : x.cps[i]? = some c := by simpa using hc
    refine ⟨?_, fun v H' ⟨e1, c', e2, e3⟩ => ?_⟩
    · show i < x.cps.size
      exact (Array.getElem?_eq_some_iff.mp hc').1
    · subst e1
      rw [hc'] at e2
      cases e2
      exact ⟨Fi, .refl s2, e3⟩⟩)

/-! ### loops -/
inductive Lp (β ρ : Type) where
  | nx (b : β) | bk (b : β) | rt (r : ρ)
def loopM {α β ρ : Type} (st : β → α → Option (Lp β ρ)) : β → List α → Option (Lp β ρ)
  | b, [] => some (.nx b)
  | b, x :: xs => match st b x with
    | none => none
    | some (.nx b') => loopM st b' xs
    | some (.bk b') => some (.bk b')
    | some (.rt r) => some (.rt r)
/-- what a turn with the outcome o is to reach -/
abbrev LE {β ρ : Type} (Iv : β → L2.St → Hp → Hp → Prop) (Rt : ρ → V → Hp → Prop) (F : Hp) (o : Lp β ρ) : Ends :=
  { nx := fun σ' H' => ∃ b' F', o = .nx b' ∧ L2.Same F F' ∧ L2.Same F' H' ∧ Iv b' σ' F' H', ct := fun σ' H' => ∃ b' F', o = .nx b' ∧ L2.Same F F' ∧ L2.Same F' H' ∧ Iv b' σ' F' H',
    bk := fun σ' H' => ∃ b' F', o = .bk b' ∧ L2.Same F F' ∧ L2.Same F' H' ∧ Iv b' σ' F' H', rt := fun v H' => ∃ r, o = .rt r ∧ Rt r v H' }
theorem go_for {α β ρ : Type} [Rp α] {tg iter : Expr} {g : TG} (xs : List α) (stp : β → α → Option (Lp β ρ)) (b0 : β) {o : Lp β ρ} (s : SmX X.K F H) (hi : EvI X tg iter σ F H xs) (hg : PG X tg g) (ho : loopM stp b0 xs = some o)
    (k : ∀ F2 H2, Gr F H F2 H2 → ∃ (Iv : β → L2.St → Hp → Hp → Prop) (Rt : ρ → V → Hp → Prop), Iv b0 σ F2 H2 ∧
      (∀ b x o', stp b x = some o' → ∀ σ F H v, L2.Same F2 F → L2.Same F H → Iv b σ F H → ∀ F' H', Gr F H F' H' → rp X.K F' v x → ∀ Q : L2.St → Hp → Prop, (∀ σ' H'', GoS X body (LE Iv Rt F o') σ' H'' → Q σ' H'') → g v σ H' Q) ∧
      (match o with | .nx b => ∀ σ F H, L2.Same F H → Iv b σ F H → GoS X rest D σ H | .bk b => ∀ σ F H, L2.Same F H → Iv b σ F H → GoS X rest D σ H | .rt r => ∀ v H, Rt r v H → D.rt v H))
    (hp : PassesOwn (model X.prog X.w) X.A X.env X.xe) (hc : X.calm = true := by rfl) (hs : ∀ x, foldedSetIterable iter X.env x = pure x := by intro _; rfl) : GoS X (.For tg iter body [] pos :: rest) D σ H := by
  refine GoS.cons (ps_for hp hc pi_go hg pss_go hs) (hi F H (.refl s) _ fun J F2 H2 g2 wk => ?_)
  obtain ⟨Iv, Rt, init, step, done⟩ := k F2 H2 g2
  refine ⟨fun i m σ H => m = xs.length - i ∧ i ≤ xs.length ∧ ∃ b F, L2.Same F2 F ∧ L2.Same F H ∧ Iv b σ F H ∧ loopM stp b (xs.drop i) = some o, ⟨_, rfl, Nat.zero_le _, b0, F2, .refl _, g2.fh, init, ho⟩, ?_⟩
  rintro i m σ' H' ⟨rfl, hle, b, Fi, s1, s2, iv, hl⟩
  obtain ⟨w1, w2⟩ := wk i Fi H' s1 s2
  rcases Nat.lt_or_ge i xs.length with hlt | hge
  · obtain ⟨x, hx⟩ : ∃ x, xs[i]? = some x := ⟨xs[i], List.getElem?_eq_getElem hlt⟩
    obtain ⟨hgo, hy⟩ := w1 x hx
    have ed : xs.drop i = x :: xs.drop (i + 1) := by
      rw [List.drop_eq_getElem_cons hlt]
      rw [List.getElem?_eq_getElem hlt] at hx
      rw [Option.some.inj hx]
    rw [ed] at hl
    unfold loopM at hl
    cases hst : stp b x with
    | none => rw [hst] at hl; cases hl
    | some o' =>
      rw [hst] at hl
      refine .inr ⟨hgo, fun σ3 H3 => ∃ b' F', o' = .nx b' ∧ L2.Same Fi F' ∧ L2.Same F' H3 ∧ Iv b' σ3 F' H3, fun σ3 H3 ⟨b', F', e, f1, f2, iv'⟩ => ?_, fun v H3 hv => ?_⟩
      · subst e
        exact ⟨xs.length - (i + 1), by omega, rfl, hlt, b', F', s1.trans f1, f2, iv', hl⟩
      · obtain ⟨F', gr, rv⟩ := hy v H3 hv
        refine step b x o' hst σ' Fi H' v s1 s2 iv F' H3 gr rv _ fun σ4 H4 q => q.mono (fun _ _ h => h) (fun v' H5 ⟨r, e, hr⟩ => ?_) (fun σ5 H5 ⟨b', F5, e, f1, f2, iv'⟩ => ?_) fun _ _ h => h
        · subst e
          cases (Option.some.inj hl)
          exact done v' H5 hr
        · subst e
          cases (Option.some.inj hl)
          exact done σ5 F5 H5 f2 iv'
  · have e : i = xs.length := by omega
    subst e
    rw [List.drop_length] at hl
    cases (Option.some.inj hl)
    exact .inl ⟨w2 rfl, done σ' Fi H' s2 iv⟩
/-- while, with fuel -/
def whileM {β ρ : Type} (c : β → Option Bool) (st : β → Option (Lp β ρ)) : Nat → β → Option (Lp β ρ)
  | 0, _ => none
  | n + 1, b => match c b with
    | none => none
    | some false => some (.nx b)
    | some true => match st b with
      | none => none
      | some (.nx b') => whileM c st n b'
      | some (.bk b') => some (.bk b')
      | some (.rt r) => some (.rt r)
theorem go_while {β ρ : Type} (cn : β → Option Bool) (stp : β → Option (Lp β ρ)) (N : Nat) (b0 : β) {o : Lp β ρ} (Iv : β → L2.St → Hp → Hp → Prop) (Rt : ρ → V → Hp → Prop) (s : SmX X.K F H) (init : Iv b0 σ F H) (ho : whileM cn stp N b0 = some o)
    (kc : ∀ b t, cn b = some t → ∀ σ F H, L2.Same F H → Iv b σ F H → SmX X.K F H ∧ EvT X c σ F H t ∧ ∀ F' H', Gr F H F' H' → Iv b σ F' H')
    (kb : ∀ b o', cn b = some true → stp b = some o' → ∀ σ F H, L2.Same F H → Iv b σ F H → GoS X body (LE Iv Rt F o') σ H)
    (done : match o with | .nx b => ∀ σ F H, L2.Same F H → Iv b σ F H → GoS X rest D σ H | .bk b => ∀ σ F H, L2.Same F H → Iv b σ F H → GoS X rest D σ H | .rt r => ∀ v H, Rt r v H → D.rt v H)
    (hp : PassesOwn (model X.prog X.w) X.A X.env X.xe) : GoS X (.While c body [] pos :: rest) D σ H := by
  refine GoS.cons (ps_while hp pt_go pss_go) ?_
  refine ⟨fun m σ H => ∃ b F, L2.Same F H ∧ Iv b σ F H ∧ whileM cn stp m b = some o, ⟨N, b0, F, s.s, init, ho⟩, ?_⟩
  rintro m σ' H' ⟨b, Fi, s2, iv, hl⟩
  cases m with
  | zero => cases hl
  | succ m =>
    unfold whileM at hl
    cases hc : cn b with
    | none => rw [hc] at hl; cases hl
    | some t =>
      rw [hc] at hl
      obtain ⟨sx, ev, up⟩ := kc b t hc σ' Fi H' s2 iv
      refine ev Fi H' (.refl sx) _ fun F2 H2 g2 => ?_
      cases t with
      | false =>
        rw [if_neg Bool.false_ne_true]
        cases (Option.some.inj hl)
        exact done σ' F2 H2 g2.fh (up F2 H2 g2)
      | true =>
        rw [if_pos rfl]
        cases hst : stp b with
        | none => rw [hst] at hl; cases hl
        | some o' =>
          rw [hst] at hl
          refine ⟨fun σ3 H3 => ∃ b' F', o' = .nx b' ∧ L2.Same F2 F' ∧ L2.Same F' H3 ∧ Iv b' σ3 F' H3, fun σ3 H3 ⟨b', F', e, f1, f2, iv'⟩ => ?_, ?_⟩
          · subst e
            exact ⟨m, Nat.lt_succ_self _, b', F', f2, iv', hl⟩
          · refine (kb b o' hc hst σ' F2 H2 g2.fh (up F2 H2 g2)).mono (fun _ _ h => h) (fun v' H5 ⟨r, e, hr⟩ => ?_) (fun σ5 H5 ⟨b', F5, e, f1, f2, iv'⟩ => ?_) fun _ _ h => h
            · subst e
              cases (Option.some.inj hl)
              exact done v' H5 hr
            · subst e
              cases (Option.some.inj hl)
              exact done σ5 F5 H5 f2 iv'
/-! ### targets -/
theorem gn {i : Nat} {v : V} {Q : L2.St → Hp → Prop} {P : L2.St → Hp → Prop} (h : ∀ σ' H', P σ' H' → Q σ' H') (p : P (σ.set i (some v)) H) : gName i v σ H Q := h _ _ p

/-! ### texts -/
def sAdd (x y : Str) : Option Str := if x.length + y.length ≤ sizeLine then some (x ++ y) else none
theorem ev_addS {x y r : Str} (ha : Ev X a σ F H x) (hb : Ev X b σ F H y) (h : sAdd x y = some r) : Ev X (.BinOp a .Add b pos) σ F H r := ev_bin op_add_str (fun F H v w Q s rv rw' k => by
  unfold sAdd at h
  split at h
  · rename_i hz
    exact ⟨x, y, rv, rw', hz, k _ F H (.refl s) (congrArg V.str (Option.some.inj h))⟩
  · cases h) ha hb
/-- is the one sign x in z -/
def sIn (x z : Str) : Option Bool := match x.cps.toList with
  | [c] => some (decide (c ∈ z.cps.toList))
  | _ => none
theorem sIn_of {x z : Str} {r : Bool} (h : sIn x z = some r) : ∃ c, x = ⟨#[c]⟩ ∧ decide (c ∈ z.cps.toList) = r := by
  unfold sIn at h
  split at h
  · rename_i c hc
    refine ⟨c, ?_, Option.some.inj h⟩
    cases x with
    | mk cps => rw [← Array.toArray_toList (xs := cps), hc]
  · cases h
theorem o2_inS {x z : Str} {r : Bool} (h : sIn x z = some r) : Op2 K (fun x y H Q => ∃ (c : Nat) (z : Str), x = .str ⟨#[c]⟩ ∧ y = .str z ∧ Q (.bl (decide (c ∈ z.cps.toList))) H) x z r := fun F H v w Q s rv rw' k => by
  obtain ⟨c, rfl, e⟩ := sIn_of h
  exact ⟨c, z, rv, rw', k _ F H (.refl s) (congrArg V.bl e)⟩
theorem o2_notInS {x z : Str} {r : Bool} (h : sIn x z = some r) : Op2 K (fun x y H Q => ∃ (c : Nat) (z : Str), x = .str ⟨#[c]⟩ ∧ y = .str z ∧ Q (.bl (!decide (c ∈ z.cps.toList))) H) x z (!r) := fun F H v w Q s rv rw' k => by
  obtain ⟨c, rfl, e⟩ := sIn_of h
  exact ⟨c, z, rv, rw', k _ F H (.refl s) (congrArg (fun t => V.bl (!t)) e)⟩
/-- a text's method of one text -/
theorem ev_m1 {α : Type} [Rp α] {x y : Str} {z : α} {id : String} {name : Str} {apos : Pos} {r : V → List V → Hp → VK → Prop} (slot : Slot "str" name id) (ty : typeOf (.builtin id) = pure (.type "method_descriptor")) (rule : MtR X id r)
    (hr : ∀ (F H : Hp) (Q : VK), L2.Same F H → (∀ u F' H', Gr F H F' H' → rp X.K F' u z → Q u H') → r (.str x) [.str y] H Q) (ho : Ev X a σ F H x) (he : Ev X e σ F H y)
    (hs : starEach [e] X.env = [(false, eval e X.env)] := by rfl) (hbase : attributeBase a name X.env (eval a X.env) = eval a X.env := by rfl) (hline : (apos.endLine == pos.line) = true := by rfl) : Ev X (.Call (.Attribute a name apos) [e] [] pos) σ F H z := fun F1 H1 g Q q =>
  GoE.of (pe_m1 slot ty rule pe_go pe_go hs hbase hline) (ho F1 H1 g _ fun v F2 H2 g2 r2 => ⟨⟨x, r2⟩, he F2 H2 (g.trans g2) _ fun w F3 H3 g3 r3 => by
    have r2 : v = .str x := r2
    have r3 : w = .str y := r3
    subst r2; subst r3
    exact hr F3 H3 Q g3.fh fun u F4 H4 g4 r4 => q u F4 H4 ((g2.trans g3).trans g4) r4⟩)
theorem ev_m0 {α : Type} [Rp α] {x : Str} {z : α} {id : String} {name : Str} {apos : Pos} {r : V → List V → Hp → VK → Prop} (slot : Slot "str" name id) (ty : typeOf (.builtin id) = pure (.type "method_descriptor")) (rule : MtR X id r)
    (hr : ∀ (F H : Hp) (Q : VK), L2.Same F H → (∀ u F' H', Gr F H F' H' → rp X.K F' u z → Q u H') → r (.str x) [] H Q) (ho : Ev X a σ F H x)
    (hbase : attributeBase a name X.env (eval a X.env) = eval a X.env := by rfl) (hline : (apos.endLine == pos.line) = true := by rfl) : Ev X (.Call (.Attribute a name apos) [] [] pos) σ F H z := fun F1 H1 g Q q =>
  GoE.of (pe_m0 slot ty rule pe_go hbase hline) (ho F1 H1 g _ fun v F2 H2 g2 r2 => ⟨⟨x, r2⟩, by
    have r2 : v = .str x := r2
    subst r2
    exact hr F2 H2 Q g2.fh fun u F4 H4 g4 r4 => q u F4 H4 (g2.trans g4) r4⟩)
theorem ev_find {x y : Str} {apos : Pos} (ho : Ev X a σ F H x) (he : Ev X e σ F H y)
    (hs : starEach [e] X.env = [(false, eval e X.env)] := by rfl) (hbase : attributeBase a "find" X.env (eval a X.env) = eval a X.env := by rfl) (hline : (apos.endLine == pos.line) = true := by rfl) : Ev X (.Call (.Attribute a "find" apos) [e] [] pos) σ F H (Txt.find x y) :=
  ev_m1 PySem.F.slot_str_find PySem.F.type_str_find mt_find (fun F H Q s k => ⟨x, y, rfl, rfl, k _ F H (.refl s) rfl⟩) ho he hs hbase hline
def sJoin (a : Str) (ys : List Str) : Option Str := if (ys.map (·.length)).sum + ys.length * a.length ≤ 16777216 then some (Txt.join a ys) else none
theorem Rps.strs : ∀ {vs : List V} {ys : List Str}, Rps K F vs ys → vs = ys.map V.str
  | _, _, .nil => rfl
  | _, _, .cons r t => by
    rw [List.map_cons, ← Rps.strs t]
    exact congrArg (· :: _) r
theorem ev_join {x r : Str} {ys : List Str} {apos : Pos} (ho : Ev X a σ F H x) (he : Ev X e σ F H ys) (h : sJoin x ys = some r)
    (hs : starEach [e] X.env = [(false, eval e X.env)] := by rfl) (hbase : attributeBase a "join" X.env (eval a X.env) = eval a X.env := by rfl) (hline : (apos.endLine == pos.line) = true := by rfl) : Ev X (.Call (.Attribute a "join" apos) [e] [] pos) σ F H r := fun F1 H1 g Q q =>
  GoE.of (pe_join pe_go pe_go hs hbase hline) (ho F1 H1 g _ fun v F2 H2 g2 r2 => ⟨⟨x, r2⟩, he F2 H2 (g.trans g2) _ fun w F3 H3 g3 ⟨p, vs, e, sq, rs⟩ => by
    unfold sJoin at h
    split at h
    · rename_i hz
      have e3 := rs.strs
      subst e3
      exact ⟨x, p, ys, r2, by rw [e], .inl (g3.fh.seq sq), hz, q _ F3 H3 (g2.trans g3) (congrArg V.str (Option.some.inj h))⟩
    · cases h⟩)
def sOfI (i : Int) : Option Str := if i.natAbs.log2 < 1920 then some (toString i : String) else none
theorem oc_strI {i : Int} {r : Str} (h : sOfI i = some r) : OpC K (fun xs H Q => ∃ i : Int, xs = [.int i] ∧ i.natAbs.log2 < 1920 ∧ Q (.str (toString i : String)) H) (i, ()) r := oc1 fun F H v Q s rv k => by
  unfold sOfI at h
  split at h
  · rename_i hz
    have rv : v = .int i := rv
    exact ⟨i, by rw [rv], hz, k _ F H (.refl s) (congrArg V.str (Option.some.inj h))⟩
  · cases h
def iOfS (x : Str) : Option Int := if x.length ≤ 640 then PySem.intText? x else none
theorem oc_intS {x : Str} {r : Int} (h : iOfS x = some r) : OpC K (fun xs H Q => ∃ a n, xs = [.str a] ∧ PySem.intText? a = some n ∧ a.length ≤ 640 ∧ Q (.int n) H) (x, ()) r := oc1 fun F H v Q s rv k => by
  unfold iOfS at h
  split at h
  · rename_i hz
    have rv : v = .str x := rv
    exact ⟨x, r, by rw [rv], h, hz, k _ F H (.refl s) rfl⟩
  · cases h
/-- n times a text -/
def sMul (x : Str) (n : Int) : Option Str := if -(2 ^ 62) < n ∧ n < 2 ^ 62 ∧ x.length * n.toNat ≤ 16777216 then some (Txt.mul x n) else none
theorem op_mulS : OpR X (binaryOp .Mult) (fun x y H Q => ∃ (z : Str) (n : Int), x = .str z ∧ y = .int n ∧ MulOk z n ∧ Q (.str (Txt.mul z n)) H) := by
  intro pins s σ H x y v u Q I rx ry h
  obtain ⟨z, n, rfl, rfl, ok, q⟩ := h
  obtain ⟨t, rfl⟩ := rx
  obtain ⟨t', rfl⟩ := ry
  exact SB.mul ok fun t' k => ⟨.str _, H, I.tok k, ⟨t', rfl⟩, q⟩
theorem ev_mulS {x r : Str} {n : Int} (ha : Ev X a σ F H x) (hb : Ev X b σ F H n) (h : sMul x n = some r) : Ev X (.BinOp a .Mult b pos) σ F H r := ev_bin op_mulS (fun F H v w Q s rv rw' k => by
  unfold sMul at h
  split at h
  · rename_i hz
    obtain ⟨z1, z2, z3⟩ := hz
    refine ⟨x, n, rv, rw', ⟨?_, fun hn _ => ?_, fun _ _ => ?_⟩, k _ F H (.refl s) (congrArg V.str (Option.some.inj h))⟩
    · rw [Bool.or_eq_false_iff]
      exact ⟨decide_eq_false (by omega), decide_eq_false (by omega)⟩
    · have h1 : ((x.length * n.toNat : Nat) : Int) = (x.length : Int) * n := by rw [Int.natCast_mul, Int.toNat_of_nonneg (by omega)]
      have h2 : (x.length : Int) ≤ (2 ^ 63 - 1) / n := Int.le_ediv_of_mul_le (by omega) (by rw [← h1]; omega)
      omega
    · show decide (x.length * n.toNat > sizeLine) = false
      rw [sizeLine_eq]
      exact decide_eq_false (by omega)
  · cases h) ha hb
end
end Gx

/-! Gc: comprehensions, a def's own rule. -/
namespace Gx
open PySem PySem.Spec PyProof.Rows L2
open Rp (rp)
open Ra (ra)
open Ob (ob)
section
variable {X : Cx} {K : PySem.W.Frag} {e a b c d : Expr} {es : List Expr} {σ : L2.St} {F H F0 H0 : Hp} {pos : Pos} {D : Ends} {st : Stmt} {rest body : List Stmt}
def compM {α γ : Type} (f : α → Option (Option γ)) : List α → Option (List γ)
  | [] => some []
  | x :: xs => match f x with
    | none => none
    | some none => compM f xs
    | some (some y) => (compM f xs).map (y :: ·)
def compG {α γ : Type} (f : α → Option (Option γ)) (xs : List α) : Option (List γ) := if xs.length ≤ sizeLine then compM f xs else none
abbrev blkX (X : Cx) (scope : Scope) (s : Shared) (H : Hp) (C : Addr) (cl : List (Str × Addr)) (fp : List Addr) : Cx := X.blk s H scope (compEnvC scope cl C X.env) fp
def GoEB (X : Cx) (scope : Scope) (e : Expr) : TE := fun σ H Q => ∀ s H' C cl fp, GoE (blkX X scope s H' C cl fp) e σ H Q
def GoTB (X : Cx) (scope : Scope) (e : Expr) : TT := fun σ H Q => ∀ s H' C cl fp, GoT (blkX X scope s H' C cl fp) e σ H Q
theorem pe_goB {scope : Scope} (s : Shared) (H : Hp) (C : Addr) (cl : List (Str × Addr)) (fp : List Addr) : PE (blkX X scope s H C cl fp) e (GoEB X scope e) := ⟨fun pins s σ H Q I h => (h _ _ _ _ _).o pins s I⟩
theorem pt_goB {scope : Scope} (s : Shared) (H : Hp) (C : Addr) (cl : List (Str × Addr)) (fp : List Addr) : PT (blkX X scope s H C cl fp) e (GoTB X scope e) := ⟨fun pins s σ H Q I h => (h _ _ _ _ _).o pins s I⟩
/-- what one item gives -/
def CB {γ : Type} [Rp γ] (X : Cx) (scope : Scope) (elt : Expr) (σ2 : L2.St) (F H : Hp) (o : Option γ) : Prop := ∃ y, o = some y ∧ ∀ s H' C cl fp, Ev (blkX X scope s H' C cl fp) elt σ2 F H y
def CBi {γ : Type} [Rp γ] (X : Cx) (scope : Scope) (tst elt : Expr) (σ2 : L2.St) (F H : Hp) (o : Option γ) : Prop := ∃ b, (∀ s H' C cl fp, EvT (blkX X scope s H' C cl fp) tst σ2 F H b) ∧ (b = true → CB X scope elt σ2 F H o) ∧ (b = false → o = none)
theorem comp_core {α γ : Type} [Rp α] [Rp γ] {tg iter elt : Expr} {scope : Scope} {g : TG} {tt : TT} {vs : List Nat} {xs : List α} {ys : List γ} {f : α → Option (Option γ)} (hi : EvI X tg iter σ F H xs) (hr : compG f xs = some ys)
    (step : ∀ x o, f x = some o → ∀ F' H' v, GrX X.K F H F' H' → rp X.K F' v x → ∀ Q : L2.St → Hp → Prop, (∀ σ2, wipe σ2 vs = wipe σ vs → (∀ R : Bool → Hp → Prop, (∀ F2 H2, Gr F' H' F2 H2 → o = none → R false H2) → (∀ F2 H2, Gr F' H' F2 H2 → CB X scope elt σ2 F2 H2 o → R true H2) → tt σ2 H' R) → Q σ2 H') → g v (wipe σ vs) H' Q)
    {F1 H1 : Hp} (g1 : GrX X.K F H F1 H1) {Q : VK} (q : ∀ l o F2 H2, Gr F1 H1 F2 H2 → H1 l = none → F2 l = none → H2 l = some o → ob X.K F2 o ys → Q (.ref l) H2) : tLc (GoI X tg iter) g tt (GoEB X scope elt) vs σ H1 Q := by
  unfold compG at hr
  split at hr
  case isFalse => cases hr
  rename_i hz
  refine hi F1 H1 g1 _ fun J F2 H2 g2 wk L hL => ?_
  refine ⟨fun i m H => m = xs.length - i ∧ i ≤ xs.length ∧ ∃ Fi acc zs ws, Gr F2 H2 Fi H ∧ Fi L = none ∧ H L = some (.lst acc) ∧ Rps X.K Fi acc zs ∧ acc.length ≤ i ∧ compM f (xs.drop i) = some ws ∧ zs ++ ws = ys,
    ⟨_, rfl, Nat.zero_le _, F2, [], [], ys, Gr.newP g2.fh hL trivial, g2.fh.free hL, upd_same, .nil, Nat.le_refl _, hr, rfl⟩, ?_⟩
  rintro i m Hi ⟨rfl, hle, Fi, acc, zs, ws, gi, fL, hLi, rs, hacc, hcm, hys⟩
  obtain ⟨w1, w2⟩ := wk i Fi Hi gi.ff gi.fh
  rcases Nat.lt_or_ge i xs.length with hlt | hge
  · obtain ⟨x, hx⟩ : ∃ x, xs[i]? = some x := ⟨xs[i], List.getElem?_eq_getElem hlt⟩
    obtain ⟨hgo, hy⟩ := w1 x hx
    have ed : xs.drop i = x :: xs.drop (i + 1) := by
      rw [List.drop_eq_getElem_cons hlt]
      rw [List.getElem?_eq_getElem hlt] at hx
      rw [Option.some.inj hx]
    rw [ed] at hcm
    unfold compM at hcm
    cases hf : f x with
    | none => rw [hf] at hcm; cases hcm
    | some o =>
      rw [hf] at hcm
      refine .inr ⟨hgo, fun H' => ∃ F' acc' zs' ws', Gr F2 H2 F' H' ∧ F' L = none ∧ H' L = some (.lst acc') ∧ Rps X.K F' acc' zs' ∧ acc'.length ≤ i + 1 ∧ compM f (xs.drop (i + 1)) = some ws' ∧ zs' ++ ws' = ys,
        fun H' ⟨F', acc', zs', ws', h1, h2, h3, h4, h5, h6, h7⟩ => ⟨xs.length - (i + 1), by omega, rfl, hlt, F', acc', zs', ws', h1, h2, h3, h4, h5, h6, h7⟩, fun v H3 hv => ?_⟩
      obtain ⟨F3, g3, rv⟩ := hy v H3 hv
      refine step x o hf F3 H3 v ((g1.trans g2).trans (gi.trans g3)) rv _ fun σ2 ew ht => ⟨ew, ht _ (fun F4 H4 g4 eo => ?_) fun F4 H4 g4 ⟨y, eo, hev⟩ => ?_⟩
      · rw [if_neg Bool.false_ne_true]
        subst eo
        exact ⟨F4, acc, zs, ws, gi.trans (g3.trans g4), (g4.fr L _ (g3.hh.k _ _ hLi trivial) trivial).trans ((g3.fr L _ hLi trivial).trans fL), g4.hh.k _ _ (g3.hh.k _ _ hLi trivial) trivial, rs.mono (g3.ff.trans g4.ff), Nat.le_succ_of_le hacc, hcm, hys⟩
      · rw [if_pos rfl]
        subst eo
        obtain ⟨ws', hw, ew'⟩ := Option.map_eq_some_iff.mp hcm
        refine fun s H' C cl fp => hev s H' C cl fp F4 H4 (.refl (((g1.trans g2).trans (gi.trans g3)).trans g4).sm) _ fun u F5 H5 g5 ru => ?_
        have gg : Gr Fi Hi F5 H5 := (g3.trans g4).trans g5
        have f5 : F5 L = none := (gg.fr L _ hLi trivial).trans fL
        have h5 : H5 L = some (.lst acc) := gg.hh.k _ _ hLi trivial
        refine ⟨acc, h5, by omega, F5, acc ++ [u], zs ++ [y], ws', (gi.trans gg).poke hL f5 ⟨_, h5, trivial⟩ trivial, f5, upd_same, Rps.append (rs.mono gg.ff) (.cons ru .nil), by rw [List.length_append]; simp; omega, hw, ?_⟩
        rw [List.append_assoc]
        show zs ++ (y :: ws') = ys
        rw [ew']; exact hys
  · have e : i = xs.length := by omega
    subst e
    rw [List.drop_length] at hcm
    have ew : ws = [] := (Option.some.inj hcm).symm
    subst ew
    rw [List.append_nil] at hys
    subst hys
    refine .inl ⟨w2 rfl, q L (.lst acc) Fi Hi (g2.trans gi) (g2.hh.free hL) fL hLi (ob_lst rs)⟩
theorem en_comp {α γ : Type} [Rp α] [Rp γ] {tg iter elt : Expr} {scope : Scope} {g : TG} {own : List (Str × Nat)} {xs : List α} {ys : List γ} {f : α → Option (Option γ)} (hN : X.N.Nodup) (hi : EvI X tg iter σ F H xs) (hr : compG f xs = some ys) (ok : BlkOk X.N X.env.scope scope own)
    (hg : ∀ (s : Shared) (H : Hp) (C : Addr) (cl : List (Str × Addr)) (fp : List Addr), PG (blkX X scope s H C cl fp) tg g)
    (step : ∀ x o, f x = some o → ∀ F' H' v, GrX X.K F H F' H' → rp X.K F' v x → ∀ Q : L2.St → Hp → Prop, (∀ σ2, wipe σ2 (own.map (·.2)) = wipe σ (own.map (·.2)) → CB X scope elt σ2 F' H' o → Q σ2 H') → g v (wipe σ (own.map (·.2))) H' Q)
    (hc : X.calm = true := by rfl) (hs : ∀ x, foldedSetIterable iter X.env x = pure x := by intro _; rfl) : EvN X (.ListComp elt [⟨tg, iter, [], 0⟩] scope pos) σ F H ys := fun F1 H1 g1 Q q =>
  GoE.of (pe_lc hc hN pi_go ok hg (fun _ _ _ _ _ => pts_nil) pe_goB hs) (comp_core hi hr (fun x o hf F' H' v gr rv Q' k => step x o hf F' H' v gr rv Q' fun σ2 ew cb => k σ2 ew fun R _ r1 => r1 F' H' (.refl gr.fh) cb) g1 q)
theorem CB.up {γ : Type} [Rp γ] {scope : Scope} {elt : Expr} {σ2 : L2.St} {F' H' : Hp} {o : Option γ} (h : CB X scope elt σ2 F H o) (g : Gr F H F' H') : CB X scope elt σ2 F' H' o := by
  obtain ⟨y, e, h⟩ := h
  exact ⟨y, e, fun s H' C cl fp => (h s H' C cl fp).up g⟩
theorem en_compi {α γ : Type} [Rp α] [Rp γ] {tg iter elt tst : Expr} {scope : Scope} {g : TG} {own : List (Str × Nat)} {xs : List α} {ys : List γ} {f : α → Option (Option γ)} (hN : X.N.Nodup) (hi : EvI X tg iter σ F H xs) (hr : compG f xs = some ys) (ok : BlkOk X.N X.env.scope scope own)
    (hg : ∀ (s : Shared) (H : Hp) (C : Addr) (cl : List (Str × Addr)) (fp : List Addr), PG (blkX X scope s H C cl fp) tg g)
    (step : ∀ x o, f x = some o → ∀ F' H' v, GrX X.K F H F' H' → rp X.K F' v x → ∀ Q : L2.St → Hp → Prop, (∀ σ2, wipe σ2 (own.map (·.2)) = wipe σ (own.map (·.2)) → CBi X scope tst elt σ2 F' H' o → Q σ2 H') → g v (wipe σ (own.map (·.2))) H' Q)
    (hc : X.calm = true := by rfl) (hs : ∀ x, foldedSetIterable iter X.env x = pure x := by intro _; rfl) : EvN X (.ListComp elt [⟨tg, iter, [tst], 0⟩] scope pos) σ F H ys := fun F1 H1 g1 Q q =>
  GoE.of (pe_lc hc hN pi_go ok hg (fun s H C cl fp => pts_one (pt_goB s H C cl fp)) pe_goB hs) (comp_core hi hr (fun x o hf F' H' v gr rv Q' k => step x o hf F' H' v gr rv Q' fun σ2 ew ⟨b, ht, h1, h2⟩ => k σ2 ew fun R r0 r1 s Hb C cl fp => ht s Hb C cl fp F' H' (.refl gr.sm) R fun F2 H2 g2 => by
    cases b with
    | true => exact r1 F2 H2 g2 ((h1 rfl).up g2)
    | false => exact r0 F2 H2 g2 (h2 rfl)) g1 q)
/-- y = [..] on one line, y a local -/
theorem go_setLc {α γ : Type} [Rp α] [Rp γ] {tg iter elt : Expr} {scope : Scope} {g : TG} {own : List (Str × Nat)} {xs : List α} {ys : List γ} {f : α → Option (Option γ)} {y : Str} {py cpos : Pos} (i : Nat) (s : SmX X.K F H) (hN : X.N.Nodup) (hi : EvI X tg iter σ F H xs) (hr : compG f xs = some ys) (ok : BlkOk X.N X.env.scope scope own)
    (hg : ∀ (s : Shared) (H : Hp) (C : Addr) (cl : List (Str × Addr)) (fp : List Addr), PG (blkX X scope s H C cl fp) tg g)
    (step : ∀ x o, f x = some o → ∀ F' H' v, GrX X.K F H F' H' → rp X.K F' v x → ∀ Q : L2.St → Hp → Prop, (∀ σ2, wipe σ2 (own.map (·.2)) = wipe σ (own.map (·.2)) → CB X scope elt σ2 F' H' o → Q σ2 H') → g v (wipe σ (own.map (·.2))) H' Q)
    (k : ∀ l o F' H', Gr F H F' H' → H l = none → F' l = none → H' l = some o → ob X.K F' o ys → GoS X rest D (σ.set i (some (.ref l))) H')
    (hy : X.N[i]? = some y := by rfl) (hyl : X.env.scope.names.lookup y = some .local := by rfl) (hsw : swapsWith (.ListComp elt [⟨tg, iter, [], 0⟩] scope cpos) (some (.Name y py)) pos.line X.env = pure true := by exact sw_true rfl rfl rfl (by decide +kernel))
    (hc : X.calm = true := by rfl) (hs : ∀ x, foldedSetIterable iter X.env x = pure x := by intro _; rfl) : GoS X (.Assign [.Name y py] (.ListComp elt [⟨tg, iter, [], 0⟩] scope cpos) pos :: rest) D σ H :=
  GoS.cons (ps_setLc hc hN hy hyl hsw pi_go ok hg (fun _ _ _ _ _ => pts_nil) pe_goB hs) (comp_core hi hr (fun x o hf F' H' v gr rv Q' k => step x o hf F' H' v gr rv Q' fun σ2 ew cb => k σ2 ew fun R _ r1 => r1 F' H' (.refl gr.fh) cb) (.refl s) k)
theorem go_setLci {α γ : Type} [Rp α] [Rp γ] {tg iter elt tst : Expr} {scope : Scope} {g : TG} {own : List (Str × Nat)} {xs : List α} {ys : List γ} {f : α → Option (Option γ)} {y : Str} {py cpos : Pos} (i : Nat) (s : SmX X.K F H) (hN : X.N.Nodup) (hi : EvI X tg iter σ F H xs) (hr : compG f xs = some ys) (ok : BlkOk X.N X.env.scope scope own)
    (hg : ∀ (s : Shared) (H : Hp) (C : Addr) (cl : List (Str × Addr)) (fp : List Addr), PG (blkX X scope s H C cl fp) tg g)
    (step : ∀ x o, f x = some o → ∀ F' H' v, GrX X.K F H F' H' → rp X.K F' v x → ∀ Q : L2.St → Hp → Prop, (∀ σ2, wipe σ2 (own.map (·.2)) = wipe σ (own.map (·.2)) → CBi X scope tst elt σ2 F' H' o → Q σ2 H') → g v (wipe σ (own.map (·.2))) H' Q)
    (k : ∀ l o F' H', Gr F H F' H' → H l = none → F' l = none → H' l = some o → ob X.K F' o ys → GoS X rest D (σ.set i (some (.ref l))) H')
    (hy : X.N[i]? = some y := by rfl) (hyl : X.env.scope.names.lookup y = some .local := by rfl) (hsw : swapsWith (.ListComp elt [⟨tg, iter, [tst], 0⟩] scope cpos) (some (.Name y py)) pos.line X.env = pure true := by exact sw_true rfl rfl rfl (by decide +kernel))
    (hc : X.calm = true := by rfl) (hs : ∀ x, foldedSetIterable iter X.env x = pure x := by intro _; rfl) : GoS X (.Assign [.Name y py] (.ListComp elt [⟨tg, iter, [tst], 0⟩] scope cpos) pos :: rest) D σ H :=
  GoS.cons (ps_setLc hc hN hy hyl hsw pi_go ok hg (fun s H C cl fp => pts_one (pt_goB s H C cl fp)) pe_goB hs) (comp_core hi hr (fun x o hf F' H' v gr rv Q' k => step x o hf F' H' v gr rv Q' fun σ2 ew ⟨b, ht, h1, h2⟩ => k σ2 ew fun R r0 r1 s Hb C cl fp => ht s Hb C cl fp F' H' (.refl gr.sm) R fun F2 H2 g2 => by
    cases b with
    | true => exact r1 F2 H2 g2 ((h1 rfl).up g2)
    | false => exact r0 F2 H2 g2 (h2 rfl)) (.refl s) k)

/-! ### a def by its mirror -/
theorem fn_ok {P : Program} {w : World} {mg : Str → Option Value} {base : Heap} {τ ρ : Type} [Ra τ] [RaN τ] [Rp ρ] {f : τ → Option ρ} {x qual : Str} {s0 : Stmt} {fa : Addr} {fd : FuncData} {N ps : List Str} {k : Nat} (Fn : FunD K x qual (defArgs s0) (defBody s0) (defScope s0) [] [] fa fd) (S : FnScope N ps (defScope s0)) (hn : RaN.n τ = ps.length)
    (hbody : ∀ (cdv : Value) (A : Around) (outer : List Env) (s : Shared) (F H : Hp) (vs : List V) (a : τ) (r : ρ) (D : Ends) (E : XK), Room k (A.deeper (envOfC qual (defScope s0) s.heap.objs.size fa cdv)) → SmX K F H → ra K F vs a → f a = some r → (∀ F' H' u, GrX K F H F' H' → rp K F' u r → D.rt u H') →
      (∀ σ' F' H', GrX K F H F' H' → rp K F' .non r → D.nx σ' H') → GoS (cxOf CX0 P w K mg base N qual (defScope s0) fa cdv A outer s H E).nox (defBody s0) D (start N vs) H) :
    FnOk P w K mg base CX0 (k + 1) fa fd ps (Pr K f) := by
  refine Fn.ok S (fun vs H Q E ⟨F, a, r, _, ra', _⟩ => by rw [RaN.len ra', hn]) fun cdv A outer s H vs Q E hr ⟨F, a, r, sm, ra', hf, k⟩ => ?_
  refine ⟨_, PSs.nox pss_go, hbody cdv A outer s F H vs a r { nx := fun _ H' => Q .non H', rt := Q } E hr sm ra' hf (fun F' H' u g q => k F' H' u g.toGr q) fun σ' F' H' g q => k F' H' .non g.toGr q⟩
end
end Gx
namespace Gx
open PySem PySem.Spec PyProof.Rows L2
open Rp (rp)
open Ra (ra)
open Ob (ob)
theorem cg {α : Type} [Rp α] {K : PySem.W.Frag} {F : Hp} {v : V} {x y : α} (e : x = y) (h : rp K F v x) : rp K F v y := e ▸ h
theorem nt {b : Bool} (h : b = false) : ¬ b = true := by rw [h]; exact Bool.false_ne_true
def Lp.thn {β ρ γ : Type} (o : Lp β ρ) (f : β → Option γ) (g : ρ → Option γ) : Option γ := match o with
  | .nx b => f b
  | .bk b => f b
  | .rt r => g r
/-- a loop that neither breaks nor returns -/
def loopN {α β : Type} (st : β → α → Option β) : β → List α → Option β
  | b, [] => some b
  | b, x :: xs => match st b x with
    | none => none
    | some b' => loopN st b' xs
theorem loopN_M {α β : Type} (st : β → α → Option β) : ∀ (xs : List α) (b : β), loopM (ρ := Unit) (fun b x => (st b x).map Lp.nx) b xs = (loopN st b xs).map Lp.nx
  | [], b => rfl
  | x :: xs, b => by
    unfold loopM loopN
    cases st b x with
    | none => rfl
    | some b' => exact loopN_M st xs b'
def whileN {β : Type} (c : β → Option Bool) (st : β → Option β) : Nat → β → Option β
  | 0, _ => none
  | n + 1, b => match c b with
    | none => none
    | some false => some b
    | some true => match st b with
      | none => none
      | some b' => whileN c st n b'
theorem whileN_M {β : Type} (c : β → Option Bool) (st : β → Option β) : ∀ (n : Nat) (b : β), whileM (ρ := Unit) c (fun b => (st b).map Lp.nx) n b = (whileN c st n b).map Lp.nx
  | 0, b => rfl
  | n + 1, b => by
    unfold whileM whileN
    cases c b with
    | none => rfl
    | some t =>
      cases t with
      | false => rfl
      | true =>
        dsimp only
        cases st b with
        | none => rfl
        | some b' => exact whileN_M c st n b'
section
variable {X : Cx} {K : PySem.W.Frag} {e a b c d : Expr} {es : List Expr} {σ : L2.St} {F H F0 H0 : Hp} {pos : Pos} {D : Ends} {st : Stmt} {rest body : List Stmt}
theorem go_forM {α β ρ γ : Type} [Rp α] {tg iter : Expr} {g : TG} {xs : List α} {stp : β → α → Option (Lp β ρ)} {b0 : β} {o : Lp β ρ} {f1 : β → Option γ} {f2 : ρ → Option γ} {r : γ} (s : SmX X.K F H) (hi : EvI X tg iter σ F H xs) (hg : PG X tg g) (ho : loopM stp b0 xs = some o) (hm : o.thn f1 f2 = some r)
    (k : ∀ F2 H2, Gr F H F2 H2 → ∃ (Iv : β → L2.St → Hp → Hp → Prop) (Rt : ρ → V → Hp → Prop), Iv b0 σ F2 H2 ∧
      (∀ b x o', stp b x = some o' → ∀ σ F H v, L2.Same F2 F → L2.Same F H → Iv b σ F H → ∀ F' H', Gr F H F' H' → rp X.K F' v x → ∀ Q : L2.St → Hp → Prop, (∀ σ' H'', GoS X body (LE Iv Rt F o') σ' H'' → Q σ' H'') → g v σ H' Q) ∧
      (∀ b, f1 b = some r → ∀ σ F H, L2.Same F2 F → L2.Same F H → Iv b σ F H → GoS X rest D σ H) ∧ (∀ x, f2 x = some r → ∀ v H, Rt x v H → D.rt v H))
    (hp : PassesOwn (model X.prog X.w) X.A X.env X.xe) (hc : X.calm = true := by rfl) (hs : ∀ x, foldedSetIterable iter X.env x = pure x := by intro _; rfl) : GoS X (.For tg iter body [] pos :: rest) D σ H :=
  go_for xs stp b0 s hi hg ho (fun F2 H2 g2 => by
    obtain ⟨Iv, Rt, i0, st, d1, d2⟩ := k F2 H2 g2
    refine ⟨fun b σ F H => L2.Same F2 F ∧ Iv b σ F H, Rt, ⟨.refl _, i0⟩, fun b x o' e σ F H v s1 s2 ⟨_, iv⟩ F' H' gr rv Q q => st b x o' e σ F H v s1 s2 iv F' H' gr rv Q fun σ' H'' go => q σ' H'' (go.mono ?_ (fun _ _ h => h) ?_ ?_), ?_⟩
    · exact fun σ3 H3 ⟨b', F3, e, f1, f2, iv⟩ => ⟨b', F3, e, f1, f2, s1.trans f1, iv⟩
    · exact fun σ3 H3 ⟨b', F3, e, f1, f2, iv⟩ => ⟨b', F3, e, f1, f2, s1.trans f1, iv⟩
    · exact fun σ3 H3 ⟨b', F3, e, f1, f2, iv⟩ => ⟨b', F3, e, f1, f2, s1.trans f1, iv⟩
    · cases o with
      | nx b => exact fun σ F H s1 ⟨s0, iv⟩ => d1 b hm σ F H s0 s1 iv
      | bk b => exact fun σ F H s1 ⟨s0, iv⟩ => d1 b hm σ F H s0 s1 iv
      | rt x => exact d2 x hm) hp hc hs
theorem go_forN {α β : Type} [Rp α] {tg iter : Expr} {g : TG} {xs : List α} {stp : β → α → Option β} {b0 b1 : β} (s : SmX X.K F H) (hi : EvI X tg iter σ F H xs) (hg : PG X tg g) (ho : loopN stp b0 xs = some b1)
    (k : ∀ F2 H2, Gr F H F2 H2 → ∃ (Iv : β → L2.St → Hp → Hp → Prop), Iv b0 σ F2 H2 ∧
      (∀ b x b', stp b x = some b' → ∀ σ F H v, L2.Same F2 F → L2.Same F H → Iv b σ F H → ∀ F' H', Gr F H F' H' → rp X.K F' v x → ∀ Q : L2.St → Hp → Prop, (∀ σ' H'', GoS X body { nx := fun σ3 H3 => ∃ F3, L2.Same F F3 ∧ L2.Same F3 H3 ∧ Iv b' σ3 F3 H3, ct := fun σ3 H3 => ∃ F3, L2.Same F F3 ∧ L2.Same F3 H3 ∧ Iv b' σ3 F3 H3, bk := fun _ _ => False, rt := fun _ _ => False } σ' H'' → Q σ' H'') → g v σ H' Q) ∧
      (∀ σ F H, L2.Same F2 F → L2.Same F H → Iv b1 σ F H → GoS X rest D σ H))
    (hp : PassesOwn (model X.prog X.w) X.A X.env X.xe) (hc : X.calm = true := by rfl) (hs : ∀ x, foldedSetIterable iter X.env x = pure x := by intro _; rfl) : GoS X (.For tg iter body [] pos :: rest) D σ H := by
  have ho' : loopM (ρ := Unit) (fun b x => (stp b x).map Lp.nx) b0 xs = some (.nx b1) := by rw [loopN_M, ho]; rfl
  refine go_forM (f1 := fun b => some b) (f2 := fun _ => none) (r := b1) s hi hg ho' rfl (fun F2 H2 g2 => ?_) hp hc hs
  obtain ⟨Iv, i0, st, d1⟩ := k F2 H2 g2
  refine ⟨Iv, fun _ _ _ => False, i0, fun b x o' e σ F H v s1 s2 iv F' H' gr rv Q q => ?_, fun b e => by cases (Option.some.inj e); exact d1, fun _ e => nomatch e⟩
  obtain ⟨b', eb, rfl⟩ := Option.map_eq_some_iff.mp e
  exact st b x b' eb σ F H v s1 s2 iv F' H' gr rv Q fun σ' H'' go => q σ' H'' (go.mono (fun σ3 H3 ⟨F3, f1, f2, iv⟩ => ⟨b', F3, rfl, f1, f2, iv⟩) (fun _ _ h => h.elim) (fun _ _ h => h.elim) fun σ3 H3 ⟨F3, f1, f2, iv⟩ => ⟨b', F3, rfl, f1, f2, iv⟩)
theorem go_whileM {β ρ γ : Type} {cn : β → Option Bool} {stp : β → Option (Lp β ρ)} {N : Nat} {b0 : β} {o : Lp β ρ} {f1 : β → Option γ} {f2 : ρ → Option γ} {r : γ} (Iv : β → L2.St → Hp → Hp → Prop) (Rt : ρ → V → Hp → Prop) (s : SmX X.K F H) (init : Iv b0 σ F H) (ho : whileM cn stp N b0 = some o) (hm : o.thn f1 f2 = some r)
    (kc : ∀ b t, cn b = some t → ∀ σ F1 H, L2.Same F F1 → L2.Same F1 H → Iv b σ F1 H → SmX X.K F1 H ∧ EvT X c σ F1 H t ∧ ∀ F' H', Gr F1 H F' H' → Iv b σ F' H')
    (kb : ∀ b o', stp b = some o' → ∀ σ F1 H, L2.Same F F1 → L2.Same F1 H → Iv b σ F1 H → GoS X body (LE Iv Rt F1 o') σ H)
    (d1 : ∀ b, f1 b = some r → ∀ σ F1 H, L2.Same F F1 → L2.Same F1 H → Iv b σ F1 H → GoS X rest D σ H) (d2 : ∀ x, f2 x = some r → ∀ v H, Rt x v H → D.rt v H)
    (hp : PassesOwn (model X.prog X.w) X.A X.env X.xe) : GoS X (.While c body [] pos :: rest) D σ H := by
  refine go_while cn stp N b0 (fun b σ F1 H => L2.Same F F1 ∧ Iv b σ F1 H) Rt s ⟨.refl _, init⟩ ho (fun b t e σ F1 H s2 ⟨s1, iv⟩ => ?_) (fun b o' _ e σ F1 H s2 ⟨s1, iv⟩ => (kb b o' e σ F1 H s1 s2 iv).mono ?_ (fun _ _ h => h) ?_ ?_) ?_ hp
  · obtain ⟨h0, h1, h2⟩ := kc b t e σ F1 H s1 s2 iv
    exact ⟨h0, h1, fun F' H' g => ⟨s1.trans g.ff, h2 F' H' g⟩⟩
  · exact fun σ3 H3 ⟨b', F3, e, f1, f2, iv⟩ => ⟨b', F3, e, f1, f2, s1.trans f1, iv⟩
  · exact fun σ3 H3 ⟨b', F3, e, f1, f2, iv⟩ => ⟨b', F3, e, f1, f2, s1.trans f1, iv⟩
  · exact fun σ3 H3 ⟨b', F3, e, f1, f2, iv⟩ => ⟨b', F3, e, f1, f2, s1.trans f1, iv⟩
  · cases o with
    | nx b => exact fun σ F H s1 ⟨s0, iv⟩ => d1 b hm σ F H s0 s1 iv
    | bk b => exact fun σ F H s1 ⟨s0, iv⟩ => d1 b hm σ F H s0 s1 iv
    | rt x => exact d2 x hm
theorem go_whileN {β : Type} {cn : β → Option Bool} {stp : β → Option β} {N : Nat} {b0 b1 : β} (Iv : β → L2.St → Hp → Hp → Prop) (s : SmX X.K F H) (init : Iv b0 σ F H) (ho : whileN cn stp N b0 = some b1)
    (kc : ∀ b t, cn b = some t → ∀ σ F1 H, L2.Same F F1 → L2.Same F1 H → Iv b σ F1 H → SmX X.K F1 H ∧ EvT X c σ F1 H t ∧ ∀ F' H', Gr F1 H F' H' → Iv b σ F' H')
    (kb : ∀ b b', stp b = some b' → ∀ σ F1 H, L2.Same F F1 → L2.Same F1 H → Iv b σ F1 H → GoS X body { nx := fun σ3 H3 => ∃ F3, L2.Same F1 F3 ∧ L2.Same F3 H3 ∧ Iv b' σ3 F3 H3, ct := fun σ3 H3 => ∃ F3, L2.Same F1 F3 ∧ L2.Same F3 H3 ∧ Iv b' σ3 F3 H3, bk := fun _ _ => False, rt := fun _ _ => False } σ H)
    (d1 : ∀ σ F1 H, L2.Same F F1 → L2.Same F1 H → Iv b1 σ F1 H → GoS X rest D σ H) (hp : PassesOwn (model X.prog X.w) X.A X.env X.xe) : GoS X (.While c body [] pos :: rest) D σ H := by
  have ho' : whileM (ρ := Unit) cn (fun b => (stp b).map Lp.nx) N b0 = some (.nx b1) := by rw [whileN_M, ho]; rfl
  refine go_whileM (f1 := fun b => some b) (f2 := fun _ => none) (r := b1) Iv (fun _ _ _ => False) s init ho' rfl kc (fun b o' e σ F1 H s1 s2 iv => ?_) (fun b e => by cases (Option.some.inj e); exact d1) (fun _ e => nomatch e) hp
  obtain ⟨b', eb, rfl⟩ := Option.map_eq_some_iff.mp e
  exact (kb b b' eb σ F1 H s1 s2 iv).mono (fun σ3 H3 ⟨F3, f1, f2, iv⟩ => ⟨b', F3, rfl, f1, f2, iv⟩) (fun _ _ h => h.elim) (fun _ _ h => h.elim) fun σ3 H3 ⟨F3, f1, f2, iv⟩ => ⟨b', F3, rfl, f1, f2, iv⟩
/-! ### reading a private list -/
def er (F : Hp) (l : Addr) : Hp := fun a => if a = l then none else F a
class Flat (α : Type) [Rp α] : Prop where
  fl : ∀ {K : PySem.W.Frag} {F : Hp} {l : Addr} {v : V} {x : α}, (∀ xs, ¬ F l = some (.tup xs)) → (∀ o xs, ¬ F l = some (.frz o (.tup xs))) → rp K F v x → rp K (er F l) v x
instance : Flat Int := ⟨fun _ _ h => h⟩
instance : Flat Bool := ⟨fun _ _ h => h⟩
instance : Flat Str := ⟨fun _ _ h => h⟩
instance : Flat Unit := ⟨fun _ _ h => h⟩
theorem er_seqT {F : Hp} {l a : Addr} {xs : List V} (h1 : ∀ xs, ¬ F l = some (.tup xs)) (h2 : ∀ o xs, ¬ F l = some (.frz o (.tup xs))) (h : TupF F a xs) : TupF (er F l) a xs := by
  unfold TupF er
  rw [if_neg (show ¬ a = l from fun e => h1 xs (e ▸ h))]; exact h
instance {α : Type} [Rp α] [NN α] [Flat α] : Flat (Option α) := ⟨fun {K F l v x} h1 h2 h => by
  cases x with
  | none => exact h
  | some x => exact Flat.fl (α := α) h1 h2 h⟩
theorem Rps.fl {α : Type} [Rp α] [Flat α] {F : Hp} {l : Addr} {vs : List V} {xs : List α} (h1 : ∀ xs, ¬ F l = some (.tup xs)) (h2 : ∀ o xs, ¬ F l = some (.frz o (.tup xs))) (h : Rps K F vs xs) : Rps K (er F l) vs xs := L2.Paired.mapP h fun _ _ => Flat.fl h1 h2
instance {α : Type} [Rp α] [Flat α] : Flat (Tp α) := ⟨fun h1 h2 ⟨a, vs, e, q, r⟩ => ⟨a, vs, e, er_seqT h1 h2 q, Rps.fl h1 h2 r⟩⟩
class FlatR (τ : Type) [Ra τ] : Prop where
  fl : ∀ {K : PySem.W.Frag} {F : Hp} {l : Addr} {v : List V} {x : τ}, (∀ xs, ¬ F l = some (.tup xs)) → (∀ o xs, ¬ F l = some (.frz o (.tup xs))) → ra K F v x → ra K (er F l) v x
instance : FlatR Unit := ⟨fun _ _ h => h⟩
instance {α τ : Type} [Rp α] [Ra τ] [Flat α] [FlatR τ] : FlatR (α × τ) := ⟨fun h1 h2 ⟨v, r, e, p, q⟩ => ⟨v, r, e, Flat.fl h1 h2 p, FlatR.fl h1 h2 q⟩⟩
theorem rpT.fl {θ τ : Type} [Ra τ] [FlatR τ] {row : θ → τ} {F : Hp} {l : Addr} {v : V} {x : θ} (h1 : ∀ xs, ¬ F l = some (.tup xs)) (h2 : ∀ o xs, ¬ F l = some (.frz o (.tup xs))) : rpT row K F v x → rpT row K (er F l) v x := fun ⟨a, vs, e, q, r⟩ => ⟨a, vs, e, er_seqT h1 h2 q, FlatR.fl h1 h2 r⟩
instance {α : Type} [Rp α] [Flat α] : Flat (T1 α) := ⟨rpT.fl⟩
instance {α β : Type} [Rp α] [Rp β] [Flat α] [Flat β] : Flat (T2 α β) := ⟨rpT.fl⟩
instance {α β γ : Type} [Rp α] [Rp β] [Rp γ] [Flat α] [Flat β] [Flat γ] : Flat (T3 α β γ) := ⟨rpT.fl⟩
instance {α β γ δ : Type} [Rp α] [Rp β] [Rp γ] [Rp δ] [Flat α] [Flat β] [Flat γ] [Flat δ] : Flat (T4 α β γ δ) := ⟨rpT.fl⟩
instance {α β γ δ ε : Type} [Rp α] [Rp β] [Rp γ] [Rp δ] [Rp ε] [Flat α] [Flat β] [Flat γ] [Flat δ] [Flat ε] : Flat (T5 α β γ δ ε) := ⟨rpT.fl⟩
/-- the private thing at l shown for a while -/
theorem GdT.back {l P : Addr} {u : HO} (a : GdT (L2.upd H l u) P) (h : PlAt H l) (pu : pln u) : GdT H P := by
  obtain ⟨o, ho, po⟩ := h
  have e : L2.upd (L2.upd H l u) l o = H := by
    rw [upd_upd]; funext b
    by_cases hb : b = l
    · rw [hb, upd_same, ho]
    · exact upd_ne hb
  rw [← e]
  exact a.upd ⟨u, upd_same, pu⟩ po.ntb
theorem Gr.show_ {F H F1 H1 : Hp} {l : Addr} {o u : HO} (hl : H l = some o) (fl : F l = none) (no : lstish o) (po : pln o) (g : Gr F H F1 H1) (pu : pln u := by trivial) : Gr (upd F l u) (L2.upd H l u) (upd F1 l u) (upd H1 l u) ∧ F1 l = none ∧ H1 l = some o := by
  have f1 : F1 l = none := (g.fr l _ hl no).trans fl
  have hl1 := g.hh.k _ _ hl po.ntb
  refine ⟨⟨fun b v e => ?_, fun b v e => ?_, ⟨fun b v e n => ?_, fun b ps e => ?_, fun P a => (g.hh.w P (a.back ⟨o, hl, po⟩ pu)).upd ⟨o, hl1, po⟩ pu.ntb⟩, fun a v h n => ?_⟩, f1, hl1⟩
  · by_cases hb : b = l
    · subst hb; rw [upd_same] at e ⊢; exact e
    · rw [upd_ne hb] at e ⊢; exact g.ff _ _ e
  · by_cases hb : b = l
    · subst hb; rw [upd_same] at e ⊢; exact e
    · rw [upd_ne hb] at e ⊢; exact g.fh _ _ e
  · by_cases hb : b = l
    · subst hb; rw [upd_same] at e ⊢; exact e
    · rw [upd_ne hb] at e ⊢; exact g.hh.k _ _ e n
  · by_cases hb : b = l
    · subst hb; rw [upd_same] at e ⊢; exact ⟨_, e⟩
    · rw [upd_ne hb] at e ⊢; exact g.hh.t _ _ e
  · by_cases hb : a = l
    · subst hb; rw [upd_same, upd_same]
    · rw [upd_ne hb] at h ⊢; rw [upd_ne hb]; exact g.fr a v h n
theorem GrX.show_ {F H F1 H1 : Hp} {l : Addr} {o u : HO} (hl : H l = some o) (fl : F l = none) (no : lstish o) (po : pln o) (g : GrX K F H F1 H1) (pu : pln u := by trivial) : GrX K (upd F l u) (upd H l u) (upd F1 l u) (upd H1 l u) ∧ F1 l = none ∧ H1 l = some o := by
  obtain ⟨g1, f1, h1⟩ := g.toGr.show_ (u := u) hl fl no po pu
  exact ⟨⟨g1, (g.h.upd ⟨o, h1, po⟩ pu.ntb).2⟩, f1, h1⟩
theorem Gr.hide {F1 H1 F2 H2 : Hp} {l : Addr} {o u : HO} (hl : H1 l = some o) (f1 : F1 l = none) (po : pln o) (g : Gr (upd F1 l u) (upd H1 l u) F2 H2) (pu : pln u := by trivial) : Gr F1 H1 (er F2 l) (upd H2 l o) := by
  have h2 : H2 l = some u := g.hh.k _ _ upd_same pu.ntb
  refine ⟨fun b v e => ?_, fun b v e => ?_, ⟨fun b v e n => ?_, fun b ps e => ?_, fun P a => (g.hh.w P (a.upd ⟨o, hl, po⟩ pu.ntb)).upd ⟨u, h2, pu⟩ po.ntb⟩, fun a v h n => ?_⟩
  · have hb : b ≠ l := ne_of_none e f1
    unfold er
    rw [if_neg hb]
    exact g.ff b v (by rw [upd_ne hb]; exact e)
  · unfold er at e
    split at e
    · cases e
    · rename_i hb
      rw [upd_ne hb]; exact g.fh b v e
  · by_cases hb : b = l
    · subst hb; rw [upd_same, ← hl]; exact e
    · rw [upd_ne hb]; exact g.hh.k b v (by rw [upd_ne hb]; exact e) n
  · by_cases hb : b = l
    · subst hb; rw [hl] at e; cases e; exact po.elim
    · rw [upd_ne hb]; exact g.hh.t b ps (by rw [upd_ne hb]; exact e)
  · unfold er
    by_cases hb : a = l
    · rw [if_pos hb, hb, f1]
    · rw [if_neg hb, g.fr a v (by rw [upd_ne hb]; exact h) n, upd_ne hb]
theorem frz_no {F : Hp} {l : Addr} {od : Obj} {o : HO} (e : F l = some (.frz od o)) (no : lstish o) : (∀ xs, ¬ F l = some (.tup xs)) ∧ (∀ (o' : Obj) (xs : List V), ¬ F l = some (.frz o' (.tup xs))) :=
  ⟨fun xs h => (by rw [e] at h; cases h), fun o' xs h => (by rw [e] at h; cases h; exact no)⟩
theorem shown {F H : Hp} {l : Addr} {u : HO} (s : L2.Same F H) : L2.Same (upd F l u) (upd H l u) := fun b v e => by
  by_cases hb : b = l
  · subst hb; rw [upd_same] at e ⊢; exact e
  · rw [upd_ne hb] at e ⊢; exact s _ _ e
theorem ev_thaw {α β : Type} [Rp α] [Flat α] [Rp β] [Ob β] {x : α} {y : β} {l : Addr} (o : Own X.K H0 F H l y) (s : L2.Same F H) (h : ∀ F' H', L2.Same F F' → L2.Same F' H' → rp X.K F' (.ref l) y → (∀ a, a ≠ l → F' a = F a ∧ H' a = H a) → Ev X e σ F' H' x) : Ev X e σ F H x := fun F1 H1 g Q q => by
  obtain ⟨u, hl, r⟩ := o.h
  have hl1 := g.hh.k _ _ hl (Ob.pl r).ntb
  refine GoE.locked hl1 (Ob.mu r) fun od => ?_
  obtain ⟨g1, f1, h1⟩ := GrX.show_ (u := .frz od u) hl o.f (Ob.ls r) (Ob.pl r) g
  refine h _ _ (same_upd o.f) (shown s) (Ob.fz upd_same (Ob.mono (same_upd o.f) r)) (fun a ha => ⟨upd_ne ha, upd_ne ha⟩) _ _ g1 _ fun v F2 H2 g2 r2 => ?_
  have e2 : F2 l = some (.frz od u) := g2.ff _ _ upd_same
  obtain ⟨n1, n2⟩ := frz_no e2 (Ob.ls r)
  exact ⟨g2.fh _ _ e2, q v (er F2 l) _ (Gr.hide h1 f1 (Ob.pl r) g2) (Flat.fl n1 n2 r2)⟩
theorem et_thaw {β : Type} [Rp β] [Ob β] {x : Bool} {y : β} {l : Addr} (o : Own X.K H0 F H l y) (s : L2.Same F H) (h : ∀ F' H', L2.Same F F' → L2.Same F' H' → rp X.K F' (.ref l) y → (∀ a, a ≠ l → F' a = F a ∧ H' a = H a) → EvT X e σ F' H' x) : EvT X e σ F H x := fun F1 H1 g Q q => by
  obtain ⟨u, hl, r⟩ := o.h
  have hl1 := g.hh.k _ _ hl (Ob.pl r).ntb
  refine GoT.locked hl1 (Ob.mu r) fun od => ?_
  obtain ⟨g1, f1, h1⟩ := GrX.show_ (u := .frz od u) hl o.f (Ob.ls r) (Ob.pl r) g
  refine h _ _ (same_upd o.f) (shown s) (Ob.fz upd_same (Ob.mono (same_upd o.f) r)) (fun a ha => ⟨upd_ne ha, upd_ne ha⟩) _ _ g1 _ fun F2 H2 g2 => ?_
  have e2 : F2 l = some (.frz od u) := g2.ff _ _ upd_same
  exact ⟨g2.fh _ _ e2, q (er F2 l) _ (Gr.hide h1 f1 (Ob.pl r) g2)⟩
class FlatO (α : Type) [Rp α] [Ob α] : Prop where
  fl : ∀ {K : PySem.W.Frag} {F : Hp} {l : Addr} {o : HO} {x : α}, (∀ xs, ¬ F l = some (.tup xs)) → (∀ o xs, ¬ F l = some (.frz o (.tup xs))) → ob K F o x → ob K (er F l) o x
instance {α : Type} [Rp α] [Flat α] : FlatO (List α) := ⟨fun h1 h2 ⟨vs, e, r⟩ => ⟨vs, e, Rps.fl h1 h2 r⟩⟩
theorem en_thaw {α β : Type} [Rp α] [Ob α] [FlatO α] [Rp β] [Ob β] {x : α} {y : β} {l : Addr} (o : Own X.K H0 F H l y) (s : L2.Same F H) (h : ∀ F' H', L2.Same F F' → L2.Same F' H' → rp X.K F' (.ref l) y → (∀ a, a ≠ l → F' a = F a ∧ H' a = H a) → EvN X e σ F' H' x) : EvN X e σ F H x := fun F1 H1 g Q q => by
  obtain ⟨u, hl, r⟩ := o.h
  have hl1 := g.hh.k _ _ hl (Ob.pl r).ntb
  refine GoE.locked hl1 (Ob.mu r) fun od => ?_
  obtain ⟨g1, f1, h1⟩ := GrX.show_ (u := .frz od u) hl o.f (Ob.ls r) (Ob.pl r) g
  refine h _ _ (same_upd o.f) (shown s) (Ob.fz upd_same (Ob.mono (same_upd o.f) r)) (fun a ha => ⟨upd_ne ha, upd_ne ha⟩) _ _ g1 _ fun l2 u2 F2 H2 g2 n2 f2 h2 r2 => ?_
  have e2 : F2 l = some (.frz od u) := g2.ff _ _ upd_same
  obtain ⟨n1, n2'⟩ := frz_no e2 (Ob.ls r)
  have hne : l2 ≠ l := fun e => by rw [e, upd_same] at n2; cases n2
  refine ⟨g2.fh _ _ e2, q l2 u2 (er F2 l) _ (Gr.hide h1 f1 (Ob.pl r) g2) (by rw [upd_ne hne] at n2; exact n2) ?_ (by rw [upd_ne hne]; exact h2) (FlatO.fl n1 n2' r2)⟩
  unfold er
  rw [if_neg hne]; exact f2
end
end Gx
namespace Gx
open PySem PySem.Spec PyProof.Rows L2
open Rp (rp)
open Ra (ra)
open Ob (ob)
section
variable {X : Cx} {K : PySem.W.Frag} {e a b c d : Expr} {es : List Expr} {σ : L2.St} {F H F0 H0 : Hp} {pos : Pos} {D : Ends} {st : Stmt} {rest body : List Stmt}
theorem Own.cg {α : Type} [Rp α] [Ob α] {xs ys : α} {l : Addr} (e : xs = ys) (o : Own K H0 F H l xs) : Own K H0 F H l ys := e ▸ o
theorem ob_cg {α : Type} [Rp α] [Ob α] {xs ys : α} {o : HO} (e : xs = ys) (r : Ob.ob K F o xs) : Ob.ob K F o ys := e ▸ r
theorem go_augA {i : Nat} {x y : Int} {v : V} {n : Str} {p : Pos} (s : SmX X.K F H) (hσ : σ[i]? = some (some v)) (r : rp X.K F v x) (he : Ev X e σ F H y) (k : ∀ v F' H', Gr F H F' H' → rp X.K F' v (x + y) → GoS X rest D (σ.set i (some v)) H') (hN : X.N.Nodup) (hi : X.N[i]? = some n := by rfl)
    (hx : Loc X.env.scope n := by first | exact Or.inl rfl | exact Or.inr rfl) (hf : X.fn n = true ∨ X.env.scope.names.lookup n = some .local := by first | exact .inl rfl | exact .inr rfl) : GoS X (.AugAssign (.Name n p) .Add e pos :: rest) D σ H :=
  GoS.cons (ps_aug hN hi hx pe_go ip_add hf) ⟨v, hσ, he F H (.refl s) _ fun w F2 H2 g r2 => ⟨x, y, r, r2, k _ F2 H2 g rfl⟩⟩
theorem go_augS {i : Nat} {x y : Int} {v : V} {n : Str} {p : Pos} (s : SmX X.K F H) (hσ : σ[i]? = some (some v)) (r : rp X.K F v x) (he : Ev X e σ F H y) (k : ∀ v F' H', Gr F H F' H' → rp X.K F' v (x - y) → GoS X rest D (σ.set i (some v)) H') (hN : X.N.Nodup) (hi : X.N[i]? = some n := by rfl)
    (hx : Loc X.env.scope n := by first | exact Or.inl rfl | exact Or.inr rfl) (hf : X.fn n = true ∨ X.env.scope.names.lookup n = some .local := by first | exact .inl rfl | exact .inr rfl) : GoS X (.AugAssign (.Name n p) .Sub e pos :: rest) D σ H :=
  GoS.cons (ps_aug hN hi hx pe_go ip_sub hf) ⟨v, hσ, he F H (.refl s) _ fun w F2 H2 g r2 => ⟨x, y, r, r2, k _ F2 H2 g rfl⟩⟩
/-- a, b, .. = e -/
theorem go_unpack {α : Type} [Rp α] {x : α} {tg : Expr} {g : TG} (s : SmX X.K F H) (he : Ev X e σ F H x) (hg : PG X tg g) (k : ∀ v F' H', Gr F H F' H' → rp X.K F' v x → ∀ Q : L2.St → Hp → Prop, (∀ σ' H'', GoS X rest D σ' H'' → Q σ' H'') → g v σ H' Q)
    (hs : swapsWithSole [tg] e pos.line X.env = pure false := by rfl) (hw : swappedStores [tg] e X.env = pure none := by rfl) (h1 : (assignEach [tg] X.env).map (·.2) = [assign tg X.env] := by rfl) : GoS X (.Assign [tg] e pos :: rest) D σ H :=
  GoS.cons (ps_asg pe_go hg hs hw h1) (he F H (.refl s) _ fun v F2 H2 g2 r => k v F2 H2 g2 r _ fun _ _ h => h)
end
end Gx

/-! Gd: more operations. -/
namespace Gx
open PySem PySem.Spec PyProof.Rows L2
open Rp (rp)
open Ra (ra)
open Ob (ob)
section
variable {X : Cx} {K : PySem.W.Frag} {e a b c d : Expr} {es : List Expr} {σ : L2.St} {F H F0 H0 : Hp} {pos : Pos} {D : Ends} {st : Stmt} {rest body : List Stmt}
theorem Rps.of_ints : ∀ ns : List Int, Rps K F (ns.map V.int) ns
  | [] => .nil
  | n :: ns => .cons rfl (Rps.of_ints ns)
theorem Rps.of_strs : ∀ ns : List Str, Rps K F (ns.map V.str) ns
  | [] => .nil
  | n :: ns => .cons rfl (Rps.of_strs ns)
class SN (α : Type) [Rp α] : Prop where
  sn : ∀ {K : PySem.W.Frag} {F : Hp} {v : V} {x : α}, rp K F v x → scal .non v = true ∧ scal v .non = true ∧ v ≠ .non
instance : SN Int := ⟨fun {K F v x} h => by
  have h : v = .int x := h
  subst h; exact ⟨rfl, rfl, fun e => nomatch e⟩⟩
instance : SN Str := ⟨fun {K F v x} h => by
  have h : v = .str x := h
  subst h; exact ⟨rfl, rfl, fun e => nomatch e⟩⟩
instance : SN Bool := ⟨fun {K F v x} h => by
  have h : v = .bl x := h
  subst h; exact ⟨rfl, rfl, fun e => nomatch e⟩⟩
instance {α : Type} [Rp α] [NN α] [DecidableEq α] [Sc α] [SN α] : Sc (Option α) := ⟨fun {K F v w x y} h1 h2 => by
  cases x with
  | none =>
    have h1 : v = .non := h1
    subst h1
    cases y with
    | none =>
      have h2 : w = .non := h2
      subst h2; exact ⟨rfl, rfl⟩
    | some y =>
      obtain ⟨s1, _, n1⟩ := SN.sn (α := α) h2
      exact ⟨s1, by rw [decide_eq_false (fun e => n1 e.symm)]; rfl⟩
  | some x =>
    cases y with
    | none =>
      have h2 : w = .non := h2
      subst h2
      obtain ⟨_, s2, n1⟩ := SN.sn (α := α) h1
      exact ⟨s2, by rw [decide_eq_false n1]; rfl⟩
    | some y =>
      obtain ⟨s1, s2⟩ := Sc.sc (α := α) h1 h2
      exact ⟨s1, by rw [s2]; simp⟩⟩
/-! ### kinds -/
inductive Kn (K : PySem.W.Frag) (H : Hp) : V → String → Prop
  | non : Kn K H .non "NoneType"
  | bl (b : Bool) : Kn K H (.bl b) "bool"
  | int (i : Int) : Kn K H (.int i) "int"
  | str (x : Str) : Kn K H (.str x) "str"
  | lst {a : Addr} {xs : List V} : SqL K H a xs → Kn K H (.ref a) "list"
  | tup {a : Addr} {xs : List V} : SqT K H a xs → Kn K H (.ref a) "tuple"
  | dK {a : Addr} {xs : List (Key × V)} : Rd H a (.dK xs) → Kn K H (.ref a) "dict"
  | dT {a : Addr} {xs : List (List Key × V)} : Rd H a (.dT xs) → Kn K H (.ref a) "dict"
def rIsK (K : PySem.W.Frag) : List V → Hp → VK → Prop := fun xs H Q => ∃ (x : V) (U T : String) (b : Bool), xs = [x, .ty T] ∧ Kn K H x U ∧ kitB U T = some b ∧ Q (.bl b) H
theorem call_isk : CallR X (.builtin "isinstance") (rIsK X.K) := by
  intro pins s σ H xs us Q I r h
  obtain ⟨x, U, T, b, rfl, k, e, q⟩ := h
  obtain ⟨u1, u2, rfl, r1, r2⟩ := vals2 r
  have e2 : u2 = .type T := r2
  subst e2
  have fin : ∀ {P : Heap → Prop}, PySem.W.KitX X.K u1 (.type U) P → P s.heap → u1 ≠ .builtin "__main__.__loader__#opaque" → wpAny (model X.prog X.w) X.A (call (.builtin "isinstance") [u1, .type T]) (EP X pins σ Q) X.xe s :=
    fun Z p hx => PySem.W.kia_one Z I.kIn p (kit_ty e) hx fun tk => ⟨.bl b, H, I.tok tk, rfl, q⟩
  cases k with
  | non => cases (show u1 = Value.none from r1); exact fin PySem.W.kitx_none True.intro (fun z => nomatch z)
  | bl y => cases (show u1 = Value.bool y from r1); exact fin PySem.W.kitx_bool True.intro (fun z => nomatch z)
  | int i => obtain ⟨t, q⟩ := (show ∃ t, u1 = Value.int i t from r1); cases q; exact fin PySem.W.kitx_int True.intro (fun z => nomatch z)
  | str i => obtain ⟨t, q⟩ := (show ∃ t, u1 = Value.str i t from r1); cases q; exact fin PySem.W.kitx_str True.intro (fun z => nomatch z)
  | lst sq =>
    rename_i a xs
    cases (show u1 = Value.ref a from r1)
    obtain ⟨its, rv, ⟨o, n, h1, h2, _⟩, _⟩ := I.list sq
    exact fin PySem.W.kitx_list ⟨o, h1, h2⟩ (fun z => nomatch z)
  | tup sq =>
    rename_i a xs
    cases (show u1 = Value.ref a from r1)
    obtain ⟨its, rv, ⟨o, h1, h2, _⟩, _⟩ := I.tuple sq
    exact fin PySem.W.kitx_tuple ⟨o, h1, h2⟩ (fun z => nomatch z)
  | dK ea =>
    rename_i a xs
    cases (show u1 = Value.ref a from r1)
    obtain ⟨_, _, vs, _, o, es, ep, h1, h2, _⟩ := (show ObjOk X.prog X.w H s.heap a (.dK xs) from ea.ok I.hok)
    exact fin PySem.W.kitx_dict ⟨o, h1, h2.1⟩ (fun z => nomatch z)
  | dT ea =>
    rename_i a xs
    cases (show u1 = Value.ref a from r1)
    obtain ⟨_, _, vs, _, o, es, ep, h1, h2, _⟩ := (show ObjOk X.prog X.w H s.heap a (.dT xs) from ea.ok I.hok)
    exact fin PySem.W.kitx_dict ⟨o, h1, h2.1⟩ (fun z => nomatch z)
class Kd (α : Type) [Rp α] where
  nm : String
  kd : ∀ {K : PySem.W.Frag} {F H : Hp} {v : V} {x : α}, L2.Same F H → rp K F v x → Kn K H v nm
instance : Kd Int := ⟨"int", fun {K F H v x} _ h => by
  have h : v = .int x := h
  subst h; exact .int _⟩
instance : Kd Bool := ⟨"bool", fun {K F H v x} _ h => by
  have h : v = .bl x := h
  subst h; exact .bl _⟩
instance : Kd Str := ⟨"str", fun {K F H v x} _ h => by
  have h : v = .str x := h
  subst h; exact .str _⟩
instance : Kd Unit := ⟨"NoneType", fun {K F H v x} _ h => by
  have h : v = .non := h
  subst h; exact .non⟩
instance {α : Type} [Rp α] : Kd (List α) := ⟨"list", fun s ⟨a, vs, e, sq, _⟩ => e ▸ .lst (s.seq sq)⟩
instance {α : Type} [Rp α] : Kd (Tp α) := ⟨"tuple", fun s ⟨a, vs, e, sq, _⟩ => e ▸ .tup (seqT_mono s sq)⟩
instance {α : Type} [Rp α] : Kd (Tn α) := ⟨"tuple", fun s ⟨a, vs, o, e, q, _, _, _⟩ => e ▸ .tup (.inl (.inr ⟨o, s _ _ q⟩))⟩
theorem rpT.kd {θ τ : Type} [Ra τ] {row : θ → τ} {F H : Hp} {v : V} {x : θ} (s : L2.Same F H) (h : rpT row K F v x) : Kn K H v "tuple" := by
  obtain ⟨a, vs, e, sq, _⟩ := h
  exact e ▸ .tup (seqT_mono s sq)
instance {α : Type} [Rp α] : Kd (T1 α) := ⟨"tuple", rpT.kd⟩
instance {α β : Type} [Rp α] [Rp β] : Kd (T2 α β) := ⟨"tuple", rpT.kd⟩
instance {α β γ : Type} [Rp α] [Rp β] [Rp γ] : Kd (T3 α β γ) := ⟨"tuple", rpT.kd⟩
instance {α β γ δ : Type} [Rp α] [Rp β] [Rp γ] [Rp δ] : Kd (T4 α β γ δ) := ⟨"tuple", rpT.kd⟩
instance {α β γ δ ε : Type} [Rp α] [Rp β] [Rp γ] [Rp δ] [Rp ε] : Kd (T5 α β γ δ ε) := ⟨"tuple", rpT.kd⟩
theorem goa2 {t1 t2 : TE} {Q : List V → Hp → Prop} (h1 : PE X a t1) (h2 : PE X b t2) (hs : starEach [a, b] X.env = (false, eval a X.env) :: starEach [b] X.env) (hs2 : starEach [b] X.env = (false, eval b X.env) :: starEach [] X.env) (q : t1 σ H fun v H1 => t2 σ H1 fun w H2 => Q [v, w] H2) : GoA X [a, b] σ H Q :=
  GoA.of (pa_cons h1 (pa_cons h2 pa_nil hs2) hs) q
theorem ev_isi {α : Type} [Rp α] [Kd α] {x : α} {T : String} {r : Bool} {p1 p2 : Pos} (h : kitB (Kd.nm α) T = some r) (hm : X.mg "isinstance" = none) (hT : X.mg (Str.ofString T) = none) (hv : bootBuiltins (Str.ofString T) = some (.type T)) (ha : Ev X a σ F H x)
    (hg : Gl X "isinstance" := by rfl) (hgT : Gl X (Str.ofString T) := by rfl) (hn : (Str.ofString T) ≠ "__name__" := by decide) (hd : ((Str.ofString T) == ("__debug__" : Str)) = false := by decide)
    (hs : starEach [a, .Name (Str.ofString T) p2] X.env = (false, eval a X.env) :: starEach [.Name (Str.ofString T) p2] X.env := by rfl) (hs2 : starEach [.Name (Str.ofString T) p2] X.env = (false, eval (.Name (Str.ofString T) p2) X.env) :: starEach [] X.env := by rfl)
    (hpl : (backTo pos (starEach [.Name (Str.ofString T) p2] X.env)).any (·.1) = false := by rfl) : Ev X (.Call (.Name "isinstance" p1) [a, .Name (Str.ofString T) p2] [] pos) σ F H r := fun F1 H1 g Q q =>
  GoE.of (pe_callB call_isk hg hm (by decide +kernel) (pa_cons pe_go (pa_cons (pe_bltn hgT hT hv (v := .ty T) rfl hn hd) pa_nil hs2) hs) (by decide) (by decide) hs hpl)
    (ha F1 H1 g _ fun v F2 H2 g2 r2 => ⟨v, _, T, r, rfl, Kd.kd g2.fh r2, h, q _ F2 H2 g2 rfl⟩)
theorem ev_isiO {α : Type} [Rp α] [NN α] [Kd α] {x : Option α} {T : String} {r : Bool} {p1 p2 : Pos} (h : kitB (Kd.nm α) T = some r) (h0 : kitB "NoneType" T = some false) (hm : X.mg "isinstance" = none) (hT : X.mg (Str.ofString T) = none) (hv : bootBuiltins (Str.ofString T) = some (.type T)) (ha : Ev X a σ F H x)
    (hg : Gl X "isinstance" := by rfl) (hgT : Gl X (Str.ofString T) := by rfl) (hn : (Str.ofString T) ≠ "__name__" := by decide) (hd : ((Str.ofString T) == ("__debug__" : Str)) = false := by decide)
    (hs : starEach [a, .Name (Str.ofString T) p2] X.env = (false, eval a X.env) :: starEach [.Name (Str.ofString T) p2] X.env := by rfl) (hs2 : starEach [.Name (Str.ofString T) p2] X.env = (false, eval (.Name (Str.ofString T) p2) X.env) :: starEach [] X.env := by rfl)
    (hpl : (backTo pos (starEach [.Name (Str.ofString T) p2] X.env)).any (·.1) = false := by rfl) : Ev X (.Call (.Name "isinstance" p1) [a, .Name (Str.ofString T) p2] [] pos) σ F H (x.isSome && r) := fun F1 H1 g Q q =>
  GoE.of (pe_callB call_isk hg hm (by decide +kernel) (pa_cons pe_go (pa_cons (pe_bltn hgT hT hv (v := .ty T) rfl hn hd) pa_nil hs2) hs) (by decide) (by decide) hs hpl)
    (ha F1 H1 g _ fun v F2 H2 g2 r2 => by
      cases x with
      | none =>
        have r2 : v = .non := r2
        subst r2
        exact ⟨_, _, T, false, rfl, .non, h0, q _ F2 H2 g2 rfl⟩
      | some x => exact ⟨v, _, T, r, rfl, Kd.kd (α := α) g2.fh r2, h, q _ F2 H2 g2 (by cases r <;> rfl)⟩)
/-! ### in -/
class Fv (α : Type) [Rp α] [DecidableEq α] : Prop where
  fv : ∀ {K : PySem.W.Frag} {F : Hp} {v : V} {x : α}, rp K F v x → flatV v = true
  ev : ∀ {K : PySem.W.Frag} {F : Hp} {v w : V} {x y : α}, rp K F v x → rp K F w y → eqV v w = decide (x = y)
instance : Fv Int := ⟨fun {K F v x} h => by
  have h : v = .int x := h
  subst h; rfl, fun {K F v w x y} h1 h2 => by
  have h1 : v = .int x := h1
  have h2 : w = .int y := h2
  subst h1; subst h2
  show (x == y) = _
  rw [Bool.beq_eq_decide_eq]⟩
instance : Fv Str := ⟨fun {K F v x} h => by
  have h : v = .str x := h
  subst h; rfl, fun {K F v w x y} h1 h2 => by
  have h1 : v = .str x := h1
  have h2 : w = .str y := h2
  subst h1; subst h2
  show (x == y) = _
  rw [Bool.beq_eq_decide_eq]⟩
theorem inV_eq {α : Type} [Rp α] [DecidableEq α] [Fv α] {v : V} {x : α} (h : rp K F v x) : ∀ {vs : List V} {xs : List α}, Rps K F vs xs → vs.all flatV = true ∧ inV v vs = decide (x ∈ xs)
  | _, _, .nil => ⟨rfl, by simp [inV]⟩
  | _, _, .cons (a := w) (b := y) (l₁ := vs) (l₂ := ys) r t => by
    obtain ⟨h1, h2⟩ := inV_eq h t
    refine ⟨by rw [List.all_cons, Fv.fv r, h1]; rfl, ?_⟩
    unfold inV at h2 ⊢
    rw [List.any_cons, h2, Fv.ev r h]
    by_cases e : x = y
    · subst e; simp
    · have e' : ¬ y = x := fun z => e z.symm
      simp [e, e']
theorem o2_inL {α : Type} [Rp α] [DecidableEq α] [Fv α] {x : α} {xs : List α} : Op2 K (rIn K false) x xs (decide (x ∈ xs)) := fun F H v w Q s rv ⟨p, vs, e, sq, rs⟩ k => by
  obtain ⟨h1, h2⟩ := inV_eq rv rs
  exact ⟨p, vs, e, .inl (s.seq sq), Fv.fv rv, h1, k _ F H (.refl s) (congrArg V.bl h2)⟩
theorem o2_notInL {α : Type} [Rp α] [DecidableEq α] [Fv α] {x : α} {xs : List α} : Op2 K (rIn K true) x xs (!decide (x ∈ xs)) := fun F H v w Q s rv ⟨p, vs, e, sq, rs⟩ k => by
  obtain ⟨h1, h2⟩ := inV_eq rv rs
  exact ⟨p, vs, e, .inl (s.seq sq), Fv.fv rv, h1, k _ F H (.refl s) (congrArg (fun t => V.bl (!t)) h2)⟩
theorem o2_inT {α θ : Type} [Rp α] [Rp θ] [TL θ α] [DecidableEq α] [Fv α] {x : α} {xs : θ} : Op2 K (rIn K false) x xs (decide (x ∈ TL.l xs)) := fun F H v w Q s rv r2 k => by
  obtain ⟨p, vs, e, sq, rs⟩ := TL.sq r2
  obtain ⟨h1, h2⟩ := inV_eq rv rs
  exact ⟨p, vs, e, .inr (sqT_mono s sq), Fv.fv rv, h1, k _ F H (.refl s) (congrArg V.bl h2)⟩
theorem o2_notInT {α θ : Type} [Rp α] [Rp θ] [TL θ α] [DecidableEq α] [Fv α] {x : α} {xs : θ} : Op2 K (rIn K true) x xs (!decide (x ∈ TL.l xs)) := fun F H v w Q s rv r2 k => by
  obtain ⟨p, vs, e, sq, rs⟩ := TL.sq r2
  obtain ⟨h1, h2⟩ := inV_eq rv rs
  exact ⟨p, vs, e, .inr (sqT_mono s sq), Fv.fv rv, h1, k _ F H (.refl s) (congrArg (fun t => V.bl (!t)) h2)⟩
/-! ### equal data -/
class Pd (α : Type) [Rp α] where
  toD : α → PyData
  dp : ∀ {K : PySem.W.Frag} {F : Hp} {v : V} {x : α}, rp K F v x → Dp K F v (toD x)
  eq : ∀ x y, PyData.eqv (toD x) (toD y) = true ↔ x = y
/-- all texts within are texts of signs that Python can have, and it is no deeper than 64 -/
def okD {α : Type} [Rp α] [Pd α] (x : α) : Bool := SeqAt.shaped (Pd.toD x)
class PdS (α : Type) [Rp α] [Pd α] where
  dep : Nat
  de : ∀ x : α, (Pd.toD x).depth ≤ dep
instance : Pd Int := ⟨.int, fun {K F v x} h => by
  have h : v = .int x := h
  subst h; exact .int x, fun x y => by simp [PyData.eqv]⟩
instance : Pd Str := ⟨.str, fun {K F v x} h => by
  have h : v = .str x := h
  subst h; exact .str x, fun x y => by simp [PyData.eqv]⟩
instance : Pd Bool := ⟨.bool, fun {K F v x} h => by
  have h : v = .bl x := h
  subst h; exact .bl x, fun x y => by simp [PyData.eqv]⟩
end
end Gx
namespace Gx
open PySem PySem.Spec PyProof.Rows L2
open Rp (rp)
open Ra (ra)
open Ob (ob)
section
variable {X : Cx} {K : PySem.W.Frag} {e a b c d : Expr} {es : List Expr} {σ : L2.St} {F H F0 H0 : Hp} {pos : Pos} {D : Ends} {st : Stmt} {rest body : List Stmt}
theorem et_chain {α β γ : Type} [Rp α] [Rp β] [Rp γ] {x : α} {y : β} {z : γ} {p q : Bool} {op op' : CmpOp} {r r' : R2} (ho : OpR X (compareOp op) r) (ho' : OpR X (compareOp op') r') (hr : Op2 X.K r x y p) (hr' : Op2 X.K r' y z q)
    (ha : Ev X a σ F H x) (hb : Ev X b σ F H y) (hc : Ev X c σ F H z) (hm : lastMarks [op, op'] [b, c] = false := by with_unfolding_all rfl) : EvT X (.Compare a [op, op'] [b, c] pos) σ F H (p && q) := fun F1 H1 g Q k =>
  GoT.of (pt_chain ho ho' pe_go pe_go pe_go hm) (ha F1 H1 g _ fun v F2 H2 g2 r2 => hb F2 H2 (g.trans g2) _ fun w F3 H3 g3 r3 => hr F3 H3 v w _ g3.fh (Rp.mono g3.ff r2) r3 fun u F4 H4 g4 r4 => by
    have r4 : u = .bl p := r4
    subst r4
    refine ⟨p, rfl, ?_⟩
    cases p with
    | true =>
      rw [if_pos rfl]
      exact hc F4 H4 (((g.trans g2).trans g3).trans g4) _ fun w' F5 H5 g5 r5 => hr' F5 H5 w w' _ g5.fh (Rp.mono (g4.ff.trans g5.ff) r3) r5 fun u' F6 H6 g6 r6 => by
        have r6 : u' = .bl q := r6
        subst r6
        exact ⟨q, rfl, k F6 H6 ((((g2.trans g3).trans g4).trans g5).trans g6)⟩
    | false =>
      rw [if_neg Bool.false_ne_true]
      exact ⟨false, rfl, k F4 H4 ((g2.trans g3).trans g4)⟩)
/-! ### copies, joins -/
theorem en_list_of {α : Type} [Rp α] {xs : List α} {p : Pos} (hm : X.mg "list" = none) (ha : Ev X a σ F H xs) (hg : Gl X "list" := by rfl) (hs : starEach [a] X.env = (false, eval a X.env) :: starEach [] X.env := by rfl) (hpl : (backTo pos (starEach [] X.env)).any (·.1) = false := by rfl) :
    EvN X (.Call (.Name "list" p) [a] [] pos) σ F H xs := fun F1 H1 g Q q =>
  GoE.of (pe_callTy call_list_of hg hm (by decide +kernel) (pa_cons pe_go pa_nil hs) (by decide) (by decide) hs hpl) (ha F1 H1 g _ fun v F2 H2 g2 ⟨p, vs, e, sq, rs⟩ => ⟨p, vs, by rw [e], .inl (g2.fh.seq sq), fun l hl => EvN.new q g2 hl rs⟩)
theorem en_list_tp {α θ : Type} [Rp α] [Rp θ] [TL θ α] {xs : θ} {p : Pos} (hm : X.mg "list" = none) (ha : Ev X a σ F H xs) (hg : Gl X "list" := by rfl) (hs : starEach [a] X.env = (false, eval a X.env) :: starEach [] X.env := by rfl) (hpl : (backTo pos (starEach [] X.env)).any (·.1) = false := by rfl) :
    EvN X (.Call (.Name "list" p) [a] [] pos) σ F H (TL.l xs) := fun F1 H1 g Q q =>
  GoE.of (pe_callTy call_list_of hg hm (by decide +kernel) (pa_cons pe_go pa_nil hs) (by decide) (by decide) hs hpl) (ha F1 H1 g _ fun v F2 H2 g2 r2 => let ⟨p, vs, e, sq, rs⟩ := TL.sq r2; ⟨p, vs, by rw [e], .inr (sqT_mono g2.fh sq), fun l hl => EvN.new q g2 hl rs⟩)
theorem oc_tuple {α : Type} [Rp α] {xs : List α} : OpC K (fun vs H Q => ∃ p ys, vs = [.ref p] ∧ ((SqL K H p ys ∧ ∀ l, H l = none → Q (.ref l) (upd H l (.tup ys))) ∨ (SqT K H p ys ∧ Q (.ref p) H))) (xs, ()) (Tp.mk xs) :=
  oc1 fun F H v Q s ⟨p, vs, e, sq, rs⟩ k => ⟨p, vs, by rw [e], .inl ⟨s.seq sq, fun l hl => k _ (upd F l (.tup vs)) _ (Gr.new s hl) ⟨l, vs, rfl, upd_same, rs.mono (same_upd (s.free hl))⟩⟩⟩
theorem oc_tupleT {α : Type} [Rp α] {xs : Tp α} : OpC K (fun vs H Q => ∃ p ys, vs = [.ref p] ∧ ((SqL K H p ys ∧ ∀ l, H l = none → Q (.ref l) (upd H l (.tup ys))) ∨ (SqT K H p ys ∧ Q (.ref p) H))) (xs, ()) xs :=
  oc1 fun F H v Q s ⟨p, vs, e, sq, rs⟩ k => ⟨p, vs, by rw [e], .inr ⟨seqT_mono s sq, k _ F H (.refl s) ⟨p, vs, rfl, sq, rs⟩⟩⟩
theorem oc_abs {i : Int} : OpC K (fun xs H Q => ∃ i, xs = [.int i] ∧ Q (.int (if i < 0 then -i else i)) H) (i, ()) (if i < 0 then -i else i) :=
  oc1 fun F H v Q s rv k => ⟨i, by rw [show v = .int i from rv], k _ F H (.refl s) rfl⟩
theorem oc_max2 {i j : Int} : OpC K (fun xs H Q => ∃ i j, xs = [.int i, .int j] ∧ Q (.int (if j > i then j else i)) H) (i, j, ()) (if j > i then j else i) :=
  oc2 fun F H v w Q s rv rw' k => ⟨i, j, by rw [show v = .int i from rv, show w = .int j from rw'], k _ F H (.refl s) rfl⟩
theorem oc_min2 {i j : Int} : OpC K (fun xs H Q => ∃ i j, xs = [.int i, .int j] ∧ Q (.int (if j < i then j else i)) H) (i, j, ()) (if j < i then j else i) :=
  oc2 fun F H v w Q s rv rw' k => ⟨i, j, by rw [show v = .int i from rv, show w = .int j from rw'], k _ F H (.refl s) rfl⟩
def rCatL (K : PySem.W.Frag) : R2 := fun x y H Q => ∃ a b xs ys, x = .ref a ∧ y = .ref b ∧ SqL K H a xs ∧ SqL K H b ys ∧ xs.length + ys.length ≤ sizeLine ∧ ∀ p, H p = none → Q (.ref p) (upd H p (.lst (xs ++ ys)))
theorem op_catL : OpR X (binaryOp .Add) (rCatL X.K) := by
  intro pins s σ H x y v u Q I rx ry h
  obtain ⟨a, b, xs, ys, rfl, rfl, ha, hb, hz, q⟩ := h
  cases rx
  cases ry
  obtain ⟨its, r, ⟨⟨cls, dd, data, sl⟩, n, ho, hc, _, hd⟩, _⟩ := I.list ha
  obtain ⟨its2, r2, ⟨⟨cls2, dd2, data2, sl2⟩, n2, ho2, hc2, _, hd2⟩, _⟩ := I.list hb
  simp only at hc hd hc2 hd2
  subst hc hd hc2 hd2
  have e : its.toArray ++ its2.toArray = (its ++ its2).toArray := by simp
  refine concat_meets ⟨_, ho, rfl⟩ ⟨_, ho2, rfl⟩ noFill_list_add seq_list_add PySem.F.slot_list_add PySem.F.entry_list_add (PySem.F.args_list_add_2 _ _) (list_addW a b its.toArray its2.toArray n n2 dd dd2 sl sl2 (by rw [List.size_toArray, List.size_toArray, ← r.length, ← r2.length]; exact hz)) ⟨ho, ho2, ?_⟩
  rw [e]
  exact ⟨.ref _, _, I.lnew (t' := s.toks) (r.append r2) (by rw [List.length_append]; exact hz), rfl, q _ I.fresh⟩
def catG {α : Type} (xs ys : List α) : Option (List α) := if xs.length + ys.length ≤ sizeLine then some (xs ++ ys) else none
theorem en_cat {α : Type} [Rp α] {xs ys r : List α} (ha : Ev X a σ F H xs) (hb : Ev X b σ F H ys) (h : catG xs ys = some r) : EvN X (.BinOp a .Add b pos) σ F H r := fun F1 H1 g Q q =>
  GoE.of (pe_op op_catL pe_go pe_go) (ha F1 H1 g _ fun v F2 H2 g2 r2 => hb F2 H2 (g.trans g2) _ fun w F3 H3 g3 ⟨p', vs', e', sq', rs'⟩ => by
    obtain ⟨p, vs, e, sq, rs⟩ := Rp.mono g3.ff r2
    unfold catG at h
    split at h
    · rename_i hz
      cases (Option.some.inj h)
      exact ⟨p, p', vs, vs', e, e', g3.fh.seq sq, g3.fh.seq sq', by rw [rs.length, rs'.length]; exact hz, fun l hl => EvN.new q (g2.trans g3) hl (Rps.append rs rs')⟩
    · cases h)
def catT {α : Type} (xs ys : Tp α) : Option (Tp α) := if xs.l.length + ys.l.length ≤ sizeLine then some ⟨xs.l ++ ys.l⟩ else none
theorem Rps.nil_r {α : Type} [Rp α] : ∀ {vs : List V} {xs : List α}, Rps K F vs xs → (vs = [] ↔ xs = [])
  | _, _, .nil => by simp
  | _, _, .cons _ _ => by simp
theorem o2_catT {α : Type} [Rp α] {xs ys r : Tp α} (h : catT xs ys = some r) : Op2 K (rCatA K) xs ys r := fun F H v w Q s ⟨p, vs, e, sq, rs⟩ ⟨p', vs', e', sq', rs'⟩ k => by
  unfold catT at h
  split at h
  · rename_i hz
    cases (Option.some.inj h)
    refine ⟨p, p', vs, vs', e, e', seqT_mono s sq, seqT_mono s sq', by rw [rs.length, rs'.length]; exact hz, fun e0 => ?_, fun _ e0 => ?_, fun _ _ l hl => ?_⟩
    · refine k _ F H (.refl s) ⟨p', vs', rfl, sq', ?_⟩
      rw [rs.nil_r.mp e0]; exact rs'
    · refine k _ F H (.refl s) ⟨p, vs, rfl, sq, ?_⟩
      rw [rs'.nil_r.mp e0, List.append_nil]; exact rs
    · exact k _ (upd F l (.tup (vs ++ vs'))) _ (Gr.new s hl) ⟨l, _, rfl, upd_same, (Rps.append rs rs').mono (same_upd (s.free hl))⟩
  · cases h
theorem ev_catT {α : Type} [Rp α] {xs ys r : Tp α} (ha : Ev X a σ F H xs) (hb : Ev X b σ F H ys) (h : catT xs ys = some r) : Ev X (.BinOp a .Add b pos) σ F H r := ev_bin op_catA (o2_catT h) ha hb
theorem ev_sliceT {α : Type} [Rp α] {xs : Tp α} {lo hi : Option Expr} {i j : Option Int} {p2 : Pos} (ha : Ev X a σ F H xs) (hl : EvO X lo σ F H i) (hh : EvO X hi σ F H j) : Ev X (.Subscript a (.Slice lo hi none p2) pos) σ F H (Tp.mk (cut xs.l i j)) := fun F1 H1 g Q q =>
  GoE.of (pe_slice sl_tupA pe_go po_go po_go) (ha F1 H1 g _ fun v F2 H2 g2 r2 => hl F2 H2 (g.trans g2) _ fun F3 H3 g3 => hh F3 H3 ((g.trans g2).trans g3) _ fun F4 H4 g4 => by
    obtain ⟨p, vs, rfl, sq, rs⟩ := Rp.mono (g3.ff.trans g4.ff) r2
    refine ⟨p, vs, rfl, seqT_mono g4.fh sq, fun hw => ?_, fun _ l hl => ?_⟩
    · refine q _ F4 H4 ((g2.trans g3).trans g4) ⟨p, vs, rfl, sq, ?_⟩
      have hw' : HT.sIx xs.l.length 0 i = 0 ∧ HT.sIx xs.l.length xs.l.length j = xs.l.length := by rw [← rs.length]; exact hw
      show Rps _ _ vs (cut xs.l i j)
      unfold cut
      rw [hw'.1, hw'.2]
      simpa using rs
    · exact q _ (upd F4 l (.tup _)) _ (((g2.trans g3).trans g4).trans (Gr.new g4.fh hl)) ⟨l, _, rfl, upd_same, (rs.cut i j).mono (same_upd (g4.fh.free hl))⟩)
end
end Gx

/-! Gm: facts of the mirrors' operations. -/
namespace Gx
open PySem PySem.Spec PyProof.Rows L2
/-- a text of signs -/
abbrev S (l : List Nat) : Str := ⟨l.toArray⟩
theorem S_tl (x : Str) : S x.cps.toList = x := TL.mk_tl x
theorem S_len (a : List Nat) : (S a).length = a.length := by simp [S, Str.length]
theorem szl : sizeLine = 16777216 := PySem.sizeLine_eq
theorem len_cl (z : Str) : z.length = z.cps.toList.length := by simp [Str.length]
theorem atI_ok {α : Type} {xs : List α} {i : Int} (h0 : 0 ≤ i) (h1 : i < xs.length) : ∃ v, L2.atI xs i = some v ∧ xs[i.toNat]? = some v := by
  have hl : i.toNat < xs.length := by omega
  refine ⟨xs[i.toNat], ?_, List.getElem?_eq_getElem hl⟩
  unfold L2.atI ixN
  rw [if_pos h0, if_pos h1]
  exact List.getElem?_eq_getElem hl
theorem atI_nn {α : Type} {xs : List α} {i : Int} (h0 : 0 ≤ i) : L2.atI xs i = xs[i.toNat]? := by
  unfold L2.atI ixN
  rw [if_pos h0]
  by_cases h1 : i < xs.length
  · rw [if_pos h1]; rfl
  · rw [if_neg h1, List.getElem?_eq_none (by omega)]; rfl
theorem cut_len {α : Type} (xs : List α) (i j : Option Int) : (cut xs i j).length ≤ xs.length := by
  unfold cut
  rw [List.length_take, List.length_drop]; omega
theorem sCut_ok {z : Str} (h : z.length ≤ sizeLine) (i j : Option Int) : ∃ r, sCut z i j = some r ∧ r.length ≤ z.length ∧ r.cps.toList = cut z.cps.toList i j := by
  refine ⟨cutS z i j, if_pos h, ?_, ?_⟩
  · unfold cutS
    rw [len_cl, len_cl]
    simp only [List.length_take, List.length_drop]
    omega
  · unfold cutS cut
    rw [len_cl]
theorem sLen_ok {z : Str} (h : z.length ≤ sizeLine) : sLen z = some (z.length : Int) := if_pos h
theorem app_len (a b : Str) : (a ++ b).length = a.length + b.length := by
  have e := TL.tl_append a b
  have e2 : (a ++ b).cps.toList = a.cps.toList ++ b.cps.toList := e
  rw [len_cl, e2, List.length_append, ← len_cl, ← len_cl]
theorem app_cl (a b : Str) : (a ++ b).cps.toList = a.cps.toList ++ b.cps.toList := TL.tl_append a b
theorem sAdd_ok {a b : Str} (h : a.length + b.length ≤ sizeLine) : sAdd a b = some (a ++ b) := if_pos h
theorem sOfI_ok {n : Int} (h0 : 0 ≤ n) (h1 : n < 10 ^ 18) : ∃ r, sOfI n = some r ∧ r.length ≤ 18 ∧ r.cps.toList = TL.numL n.toNat := by
  have e : (n.toNat : Int) = n := Int.toNat_of_nonneg h0
  refine ⟨Str.ofString (toString n), if_pos ?_, ?_, ?_⟩
  · have h2 : n.natAbs < 2 ^ 1920 := by
      have : (10 : Nat) ^ 18 ≤ 2 ^ 1920 := by decide +kernel
      omega
    by_cases hz : n.natAbs = 0
    · rw [hz]; decide
    · exact (Nat.log2_lt hz).mpr h2
  · rw [len_cl]
    have e2 : (Str.ofString (toString n)).cps.toList = TL.numL n.toNat := by rw [← e]; exact TL.tl_num _
    rw [e2]
    exact TL.numL_len (by decide) (by omega)
  · rw [← e]; exact TL.tl_num _
theorem rep_fold (xs : Array Nat) : ∀ (n : Nat) (acc : Array Nat), ((List.replicate n xs).foldl (· ++ ·) acc).size = acc.size + n * xs.size
  | 0, acc => by simp
  | n + 1, acc => by
    rw [List.replicate_succ, List.foldl_cons, rep_fold xs n, Array.size_append, Nat.succ_mul]; omega
theorem sMul_ok {z : Str} {n : Int} (h0 : 0 ≤ n) (h1 : n ≤ 1000) (h2 : z.length ≤ 1000) : ∃ r, sMul z n = some r ∧ r.length ≤ z.length * n.toNat := by
  have hb : z.length * n.toNat ≤ 1000 * 1000 := Nat.mul_le_mul h2 (by omega)
  refine ⟨Txt.mul z n, if_pos ⟨by omega, by omega, by omega⟩, ?_⟩
  · unfold Txt.mul
    split
    · exact Nat.zero_le _
    · split
      · rename_i hh
        rcases Bool.or_eq_true_iff.mp hh with h | h
        · have : n = 1 := by simpa using h
          subst this; simp
        · have : z.length = 0 := by simpa using h
          rw [this]; exact Nat.zero_le _
      · show (Array.size _) ≤ _
        rw [rep_fold]
        show 0 + n.toNat * z.cps.size ≤ z.length * n.toNat
        rw [Nat.zero_add, Nat.mul_comm]
        exact Nat.le_refl _
/-! ### loops -/
theorem loopN_inv {α β : Type} {st : β → α → Option β} (J : β → List α → Prop) : ∀ (xs : List α) (b : β), J b xs → (∀ b x ys, J b (x :: ys) → ∃ b', st b x = some b' ∧ J b' ys) → ∃ b', loopN st b xs = some b' ∧ J b' []
  | [], b, h, _ => ⟨b, rfl, h⟩
  | x :: xs, b, h, hs => by
    obtain ⟨b', e, h'⟩ := hs b x xs h
    obtain ⟨b2, e2, h2⟩ := loopN_inv J xs b' h' hs
    exact ⟨b2, by unfold loopN; rw [e]; exact e2, h2⟩
theorem loopN_cons {α β : Type} {st : β → α → Option β} {b b' : β} {x : α} {xs : List α} (h : st b x = some b') : loopN st b (x :: xs) = loopN st b' xs := by
  unfold loopN; rw [h]
  cases xs <;> rfl
theorem loopM_nx {α β ρ : Type} {st : β → α → Option (Lp β ρ)} {b b' : β} {x : α} {xs : List α} (h : st b x = some (.nx b')) : loopM st b (x :: xs) = loopM st b' xs := by
  rw [loopM, h]
theorem loopM_rt {α β ρ : Type} {st : β → α → Option (Lp β ρ)} {b : β} {r : ρ} {x : α} {xs : List α} (h : st b x = some (.rt r)) : loopM st b (x :: xs) = some (.rt r) := by
  rw [loopM, h]
theorem compM_map {α γ : Type} {f : α → Option (Option γ)} {g : α → γ} : ∀ {xs : List α}, (∀ x ∈ xs, f x = some (some (g x))) → compM f xs = some (xs.map g)
  | [], _ => rfl
  | x :: xs, h => by
    rw [compM, h x List.mem_cons_self, compM_map fun y hy => h y (List.mem_cons_of_mem _ hy)]
    rfl
theorem compM_filter {α γ : Type} {f : α → Option (Option γ)} {p : α → Bool} {g : α → γ} : ∀ {xs : List α}, (∀ x ∈ xs, f x = some (if p x then some (g x) else none)) → compM f xs = some ((xs.filter p).map g)
  | [], _ => rfl
  | x :: xs, h => by
    rw [compM, h x List.mem_cons_self, compM_filter fun y hy => h y (List.mem_cons_of_mem _ hy)]
    cases e : p x with
    | true => simp [e]
    | false => simp [e]
theorem compG_map {α γ : Type} {f : α → Option (Option γ)} {g : α → γ} {xs : List α} (hl : xs.length ≤ sizeLine) (h : ∀ x ∈ xs, f x = some (some (g x))) : compG f xs = some (xs.map g) := by
  unfold compG; rw [if_pos hl]; exact compM_map h
theorem compG_filter {α γ : Type} {f : α → Option (Option γ)} {p : α → Bool} {g : α → γ} {xs : List α} (hl : xs.length ≤ sizeLine) (h : ∀ x ∈ xs, f x = some (if p x then some (g x) else none)) : compG f xs = some ((xs.filter p).map g) := by
  unfold compG; rw [if_pos hl]; exact compM_filter h
theorem int_S {a : List Nat} (h : ∀ c ∈ a, 48 ≤ c ∧ c ≤ 57) (hne : a ≠ []) (hl : a.length ≤ 4300) : PySem.intText? (S a) = some ((NumText.digitsVal a : Nat) : Int) :=
  SX.int_S (List.all_eq_true.mpr fun c hc => by rw [decide_eq_true (h c hc).1, decide_eq_true (h c hc).2]; rfl) hne hl
end Gx

/-! Ge: data compared, walks over pairs, places. -/
namespace Gx
open PySem PySem.Spec PyProof.Rows L2 RZ RT
open Rp (rp)
open Ra (ra)
open Ob (ob)
section
variable {X : Cx} {K : PySem.W.Frag} {e a b c d : Expr} {es : List Expr} {σ : L2.St} {F H F0 H0 : Hp} {pos : Pos} {D : Ends} {st : Stmt} {rest body : List Stmt}
theorem Dp.all {α : Type} [Rp α] [Pd α] : ∀ {vs : List V} {xs : List α}, Rps K F vs xs → DpAll K F vs (xs.map Pd.toD)
  | _, _, .nil => .nil
  | _, _, .cons r t => .cons (Pd.dp r) (Dp.all t)
theorem eqvAll_iff {α : Type} [Rp α] [Pd α] : ∀ xs ys : List α, PyData.eqvAll (xs.map Pd.toD) (ys.map Pd.toD) = true ↔ xs = ys
  | [], [] => by simp [PyData.eqvAll]
  | [], _ :: _ => by simp [PyData.eqvAll]
  | _ :: _, [] => by simp [PyData.eqvAll]
  | x :: xs, y :: ys => by
    rw [List.map_cons, List.map_cons, PyData.eqvAll, Bool.and_eq_true, Pd.eq, eqvAll_iff xs ys, List.cons.injEq]
instance {α : Type} [Rp α] [Pd α] : Pd (List α) := ⟨fun xs => .list (xs.map Pd.toD), fun ⟨a, vs, e, sq, rs⟩ => e ▸ .lst sq (Dp.all rs), fun x y => by rw [PyData.eqv]; exact eqvAll_iff x y⟩
instance {α : Type} [Rp α] [Pd α] : Pd (Tp α) := ⟨fun xs => .tuple (xs.l.map Pd.toD), fun ⟨a, vs, e, sq, rs⟩ => e ▸ .tup (SqT.of sq) (Dp.all rs), fun x y => by
  rw [PyData.eqv]
  cases x; cases y
  rw [eqvAll_iff, Tp.mk.injEq]⟩
class PdR (τ : Type) [Ra τ] where
  toR : τ → List PyData
  dp : ∀ {K : PySem.W.Frag} {F : Hp} {vs : List V} {x : τ}, ra K F vs x → DpAll K F vs (toR x)
  eq : ∀ x y, PyData.eqvAll (toR x) (toR y) = true ↔ x = y
instance : PdR Unit := ⟨fun _ => [], fun {K F vs x} h => by
  have h : vs = [] := h
  subst h; exact .nil, fun x y => by simp [PyData.eqvAll]⟩
instance {α τ : Type} [Rp α] [Ra τ] [Pd α] [PdR τ] : PdR (α × τ) := ⟨fun x => Pd.toD x.1 :: PdR.toR x.2, fun ⟨v, r, e, p, q⟩ => e ▸ .cons (Pd.dp p) (PdR.dp q), fun x y => by
  rw [PyData.eqvAll, Bool.and_eq_true, Pd.eq, PdR.eq, Prod.ext_iff]⟩
theorem rpT.dp {θ τ : Type} [Ra τ] [PdR τ] {row : θ → τ} {F : Hp} {v : V} {x : θ} : rpT row K F v x → Dp K F v (.tuple (PdR.toR (row x))) := fun ⟨a, vs, e, sq, rs⟩ => e ▸ .tup (SqT.of sq) (PdR.dp rs)
theorem rowEq {θ τ : Type} [Ra τ] [PdR τ] {row : θ → τ} (inj : ∀ x y, row x = row y ↔ x = y) (x y : θ) : PyData.eqv (.tuple (PdR.toR (row x))) (.tuple (PdR.toR (row y))) = true ↔ x = y := by
  rw [PyData.eqv, PdR.eq]; exact inj x y
instance {α : Type} [Rp α] [Pd α] : Pd (T1 α) := ⟨fun x => .tuple (PdR.toR x.row), rpT.dp, rowEq fun x y => by cases x; cases y; simp [T1.row]⟩
instance {α β : Type} [Rp α] [Rp β] [Pd α] [Pd β] : Pd (T2 α β) := ⟨fun x => .tuple (PdR.toR x.row), rpT.dp, rowEq fun x y => by cases x; cases y; simp [T2.row]⟩
instance {α β γ : Type} [Rp α] [Rp β] [Rp γ] [Pd α] [Pd β] [Pd γ] : Pd (T3 α β γ) := ⟨fun x => .tuple (PdR.toR x.row), rpT.dp, rowEq fun x y => by cases x; cases y; simp [T3.row]⟩
instance {α β γ δ : Type} [Rp α] [Rp β] [Rp γ] [Rp δ] [Pd α] [Pd β] [Pd γ] [Pd δ] : Pd (T4 α β γ δ) := ⟨fun x => .tuple (PdR.toR x.row), rpT.dp, rowEq fun x y => by cases x; cases y; simp [T4.row]⟩
instance {α β γ δ ε : Type} [Rp α] [Rp β] [Rp γ] [Rp δ] [Rp ε] [Pd α] [Pd β] [Pd γ] [Pd δ] [Pd ε] : Pd (T5 α β γ δ ε) := ⟨fun x => .tuple (PdR.toR x.row), rpT.dp, rowEq fun x y => by cases x; cases y; simp [T5.row]⟩
class PdO (α : Type) [Rp α] [Pd α] : Prop where
  nn : ∀ x : α, Pd.toD x ≠ .none
instance : PdO Int := ⟨fun _ h => nomatch h⟩
instance : PdO Str := ⟨fun _ h => nomatch h⟩
instance : PdO Bool := ⟨fun _ h => nomatch h⟩
instance {α : Type} [Rp α] [Pd α] : PdO (List α) := ⟨fun _ h => nomatch h⟩
instance {α : Type} [Rp α] [Pd α] : PdO (Tp α) := ⟨fun _ h => nomatch h⟩
instance {α β : Type} [Rp α] [Rp β] [Pd α] [Pd β] : PdO (T2 α β) := ⟨fun _ h => nomatch h⟩
instance {α β γ : Type} [Rp α] [Rp β] [Rp γ] [Pd α] [Pd β] [Pd γ] : PdO (T3 α β γ) := ⟨fun _ h => nomatch h⟩
theorem eqv_nl {d : PyData} : PyData.eqv .none d = true → d = .none := by cases d <;> simp [PyData.eqv]
theorem eqv_nr {d : PyData} : PyData.eqv d .none = true → d = .none := by cases d <;> simp [PyData.eqv]
def optD {α : Type} [Rp α] [Pd α] : Option α → PyData
  | none => .none
  | some x => Pd.toD x
instance {α : Type} [Rp α] [NN α] [Pd α] [PdO α] : Pd (Option α) := ⟨optD, fun {K F v x} h => by
  cases x with
  | none =>
    have h : v = .non := h
    subst h; exact .non
  | some x => exact Pd.dp (α := α) h, fun x y => by
  cases x with
  | none =>
    cases y with
    | none => simp [optD, PyData.eqv]
    | some y =>
      constructor
      · intro h; exact absurd (eqv_nl h) (PdO.nn y)
      · intro h; cases h
  | some x =>
    cases y with
    | none =>
      constructor
      · intro h; exact absurd (eqv_nr h) (PdO.nn x)
      · intro h; cases h
    | some y => simp [optD, Pd.eq]⟩
/-- static depth, no texts -/
class PdF (α : Type) [Rp α] [Pd α] : Prop where
  ok : ∀ x : α, (Pd.toD x).canLay0 = true
instance : PdS Int := ⟨0, fun _ => by simp [Pd.toD, PyData.depth]⟩
instance : PdS Str := ⟨0, fun _ => by simp [Pd.toD, PyData.depth]⟩
instance : PdS Bool := ⟨0, fun _ => by simp [Pd.toD, PyData.depth]⟩
theorem dpAll_le {α : Type} [Rp α] [Pd α] [PdS α] : ∀ xs : List α, PyData.depthAll (xs.map Pd.toD) ≤ PdS.dep α
  | [] => by simp [PyData.depthAll]
  | x :: xs => by
    rw [List.map_cons, PyData.depthAll]
    exact Nat.max_le.mpr ⟨PdS.de x, dpAll_le xs⟩
instance {α : Type} [Rp α] [Pd α] [PdS α] : PdS (List α) := ⟨PdS.dep α + 1, fun x => by
  show (PyData.depthAll (x.map Pd.toD)) + 1 ≤ _
  exact Nat.succ_le_succ (dpAll_le x)⟩
instance {α : Type} [Rp α] [Pd α] [PdS α] : PdS (Tp α) := ⟨PdS.dep α + 1, fun x => by
  show (PyData.depthAll (x.l.map Pd.toD)) + 1 ≤ _
  exact Nat.succ_le_succ (dpAll_le x.l)⟩
class PdRS (τ : Type) [Ra τ] [PdR τ] where
  dep : Nat
  de : ∀ x : τ, PyData.depthAll (PdR.toR x) ≤ dep
instance : PdRS Unit := ⟨0, fun _ => by simp [PdR.toR, PyData.depthAll]⟩
instance {α τ : Type} [Rp α] [Ra τ] [Pd α] [PdR τ] [PdS α] [PdRS τ] : PdRS (α × τ) := ⟨max (PdS.dep α) (PdRS.dep τ), fun x => by
  show max (PyData.depth _) (PyData.depthAll _) ≤ _
  have h1 := PdS.de x.1
  have h2 := PdRS.de x.2
  omega⟩
instance {α : Type} [Rp α] [Pd α] [PdS α] : PdS (T1 α) := ⟨PdRS.dep (α × Unit) + 1, fun x => Nat.succ_le_succ (PdRS.de x.row)⟩
instance {α β : Type} [Rp α] [Rp β] [Pd α] [Pd β] [PdS α] [PdS β] : PdS (T2 α β) := ⟨PdRS.dep (α × β × Unit) + 1, fun x => Nat.succ_le_succ (PdRS.de x.row)⟩
instance {α β γ : Type} [Rp α] [Rp β] [Rp γ] [Pd α] [Pd β] [Pd γ] [PdS α] [PdS β] [PdS γ] : PdS (T3 α β γ) := ⟨PdRS.dep (α × β × γ × Unit) + 1, fun x => Nat.succ_le_succ (PdRS.de x.row)⟩
instance {α β γ δ : Type} [Rp α] [Rp β] [Rp γ] [Rp δ] [Pd α] [Pd β] [Pd γ] [Pd δ] [PdS α] [PdS β] [PdS γ] [PdS δ] : PdS (T4 α β γ δ) := ⟨PdRS.dep (α × β × γ × δ × Unit) + 1, fun x => Nat.succ_le_succ (PdRS.de x.row)⟩
instance {α β γ δ ε : Type} [Rp α] [Rp β] [Rp γ] [Rp δ] [Rp ε] [Pd α] [Pd β] [Pd γ] [Pd δ] [Pd ε] [PdS α] [PdS β] [PdS γ] [PdS δ] [PdS ε] : PdS (T5 α β γ δ ε) := ⟨PdRS.dep (α × β × γ × δ × ε × Unit) + 1, fun x => Nat.succ_le_succ (PdRS.de x.row)⟩
instance {α : Type} [Rp α] [NN α] [Pd α] [PdO α] [PdS α] : PdS (Option α) := ⟨PdS.dep α, fun x => by
  cases x with
  | none => exact Nat.zero_le _
  | some x => exact PdS.de x⟩
instance : PdF Int := ⟨fun _ => by simp [Pd.toD, PyData.canLay0]⟩
instance : PdF Bool := ⟨fun _ => by simp [Pd.toD, PyData.canLay0]⟩
theorem layAll {α : Type} [Rp α] [Pd α] : ∀ {xs : List α}, (∀ x ∈ xs, (Pd.toD x).canLay0 = true) → PyData.canLayAll0 (xs.map Pd.toD) = true
  | [], _ => by simp [PyData.canLayAll0]
  | x :: xs, h => by
    rw [List.map_cons, PyData.canLayAll0, h x List.mem_cons_self, layAll fun y hy => h y (List.mem_cons_of_mem _ hy)]; rfl
instance {α : Type} [Rp α] [Pd α] [PdF α] : PdF (List α) := ⟨fun x => layAll fun y _ => PdF.ok y⟩
instance {α : Type} [Rp α] [Pd α] [PdF α] : PdF (Tp α) := ⟨fun x => layAll fun y _ => PdF.ok y⟩
class PdRF (τ : Type) [Ra τ] [PdR τ] : Prop where
  ok : ∀ x : τ, PyData.canLayAll0 (PdR.toR x) = true
instance : PdRF Unit := ⟨fun _ => by simp [PdR.toR, PyData.canLayAll0]⟩
instance {α τ : Type} [Rp α] [Ra τ] [Pd α] [PdR τ] [PdF α] [PdRF τ] : PdRF (α × τ) := ⟨fun x => by
  show (PyData.canLay0 _ && PyData.canLayAll0 _) = true
  rw [PdF.ok, PdRF.ok]; rfl⟩
instance {α : Type} [Rp α] [Pd α] [PdF α] : PdF (T1 α) := ⟨fun x => PdRF.ok x.row⟩
instance {α β : Type} [Rp α] [Rp β] [Pd α] [Pd β] [PdF α] [PdF β] : PdF (T2 α β) := ⟨fun x => PdRF.ok x.row⟩
instance {α β γ : Type} [Rp α] [Rp β] [Rp γ] [Pd α] [Pd β] [Pd γ] [PdF α] [PdF β] [PdF γ] : PdF (T3 α β γ) := ⟨fun x => PdRF.ok x.row⟩
instance {α β γ δ : Type} [Rp α] [Rp β] [Rp γ] [Rp δ] [Pd α] [Pd β] [Pd γ] [Pd δ] [PdF α] [PdF β] [PdF γ] [PdF δ] : PdF (T4 α β γ δ) := ⟨fun x => PdRF.ok x.row⟩
instance {α β γ δ ε : Type} [Rp α] [Rp β] [Rp γ] [Rp δ] [Rp ε] [Pd α] [Pd β] [Pd γ] [Pd δ] [Pd ε] [PdF α] [PdF β] [PdF γ] [PdF δ] [PdF ε] : PdF (T5 α β γ δ ε) := ⟨fun x => PdRF.ok x.row⟩
instance {α : Type} [Rp α] [NN α] [Pd α] [PdO α] [PdF α] : PdF (Option α) := ⟨fun x => by
  cases x with
  | none => rfl
  | some x => exact PdF.ok x⟩
theorem okD_of {α : Type} [Rp α] [Pd α] [PdS α] (hd : PdS.dep α ≤ 64) {x : α} (h : (Pd.toD x).canLay0 = true) : okD x = true := by
  unfold okD SeqAt.shaped
  rw [h, decide_eq_true (Nat.le_trans (PdS.de x) hd)]; rfl
theorem okD_F {α : Type} [Rp α] [Pd α] [PdS α] [PdF α] (x : α) (hd : PdS.dep α ≤ 64 := by decide) : okD x = true := okD_of hd (PdF.ok x)
/-- x == y of data -/
def eqG {α : Type} [Rp α] [Pd α] [DecidableEq α] (x y : α) : Option Bool := if (okD x && okD y) = true then some (decide (x = y)) else none
theorem eqG_ok {α : Type} [Rp α] [Pd α] [DecidableEq α] {x y : α} (h1 : okD x = true) (h2 : okD y = true) : eqG x y = some (decide (x = y)) := by
  unfold eqG; rw [h1, h2]; rfl
theorem eqG_F {α : Type} [Rp α] [Pd α] [PdS α] [PdF α] [DecidableEq α] (x y : α) (hd : PdS.dep α ≤ 64 := by decide) : eqG x y = some (decide (x = y)) := eqG_ok (okD_F x hd) (okD_F y hd)
theorem eqG_of {α : Type} [Rp α] [Pd α] [DecidableEq α] {x y : α} {r : Bool} (h : eqG x y = some r) : okD x = true ∧ okD y = true ∧ decide (x = y) = r := by
  unfold eqG at h; split at h
  · rename_i h1
    obtain ⟨h1, h2⟩ := Bool.and_eq_true_iff.mp h1
    exact ⟨h1, h2, Option.some.inj h⟩
  · cases h
theorem eqv_dec {α : Type} [Rp α] [Pd α] [DecidableEq α] (x y : α) : PyData.eqv (Pd.toD x) (Pd.toD y) = decide (x = y) := by
  have h := Pd.eq x y
  cases q : PyData.eqv (Pd.toD x) (Pd.toD y) with
  | true => exact (decide_eq_true (h.mp q)).symm
  | false => exact (decide_eq_false fun e => by rw [h.mpr e] at q; cases q).symm
theorem dp_mono {v : V} {d : PyData} (s : L2.Same F H) : ∀ {d : PyData} {v : V}, Dp K F v d → Dp K H v d := by
  intro d v h
  exact Dp.rec (motive_1 := fun v d _ => Dp K H v d) (motive_2 := fun vs ds _ => DpAll K H vs ds) .non .bl .int .str (fun q _ ih => .lst (s.seq q) ih) (fun q _ ih => .tup (sqT_mono s q) ih) .nil (fun _ _ i1 i2 => .cons i1 i2) h
theorem o2_eqD {α : Type} [Rp α] [Pd α] [DecidableEq α] {x y : α} {r : Bool} (h : eqG x y = some r) : Op2 K (rEqD K) x y r := fun F H v w Q s rv rw' k => by
  obtain ⟨h1, h2, h3⟩ := eqG_of h
  exact ⟨_, _, Pd.dp (Rp.mono s rv), Pd.dp (Rp.mono s rw'), h1, h2, k _ F H (.refl s) (congrArg V.bl ((eqv_dec x y).trans h3))⟩
theorem o2_neD {α : Type} [Rp α] [Pd α] [DecidableEq α] {x y : α} {r : Bool} (h : eqG x y = some r) : Op2 K (rNeD K) x y (!r) := fun F H v w Q s rv rw' k => by
  obtain ⟨h1, h2, h3⟩ := eqG_of h
  exact ⟨_, _, Pd.dp (Rp.mono s rv), Pd.dp (Rp.mono s rw'), h1, h2, k _ F H (.refl s) (congrArg (fun t => V.bl (!t)) ((eqv_dec x y).trans h3))⟩
/-- x in a list or tuple of data -/
def inG {α : Type} [Rp α] [Pd α] [DecidableEq α] (x : α) (xs : List α) : Option Bool := if (okD x && okD xs) = true then some (decide (x ∈ xs)) else none
theorem inG_of {α : Type} [Rp α] [Pd α] [DecidableEq α] {x : α} {xs : List α} {r : Bool} (h : inG x xs = some r) : okD x = true ∧ okD xs = true ∧ decide (x ∈ xs) = r := by
  unfold inG at h; split at h
  · rename_i h1
    obtain ⟨h1, h2⟩ := Bool.and_eq_true_iff.mp h1
    exact ⟨h1, h2, Option.some.inj h⟩
  · cases h
theorem any_in {α : Type} [Rp α] [Pd α] [DecidableEq α] (x : α) (xs : List α) : ((xs.map Pd.toD).any fun z => PyData.eqv z (Pd.toD x)) = decide (x ∈ xs) := by
  induction xs with
  | nil => simp
  | cons y ys ih =>
    rw [List.map_cons, List.any_cons, ih, eqv_dec]
    by_cases e : x = y
    · subst e; simp
    · have e' : ¬ y = x := fun z => e z.symm
      simp [e, e']
theorem o2_inD {α : Type} [Rp α] [Pd α] [DecidableEq α] {x : α} {xs : List α} {r : Bool} (h : inG x xs = some r) : Op2 K (rInD K) x xs r := fun F H v w Q s rv rw' k => by
  obtain ⟨h1, h2, h3⟩ := inG_of h
  exact ⟨_, _, Pd.dp (Rp.mono s rv), Pd.dp (Rp.mono s rw'), h1, h2, k _ F H (.refl s) (congrArg V.bl ((any_in x xs).trans h3))⟩
theorem o2_notInD {α : Type} [Rp α] [Pd α] [DecidableEq α] {x : α} {xs : List α} {r : Bool} (h : inG x xs = some r) : Op2 K (rNotInD K) x xs (!r) := fun F H v w Q s rv rw' k => by
  obtain ⟨h1, h2, h3⟩ := inG_of h
  exact ⟨_, _, Pd.dp (Rp.mono s rv), Pd.dp (Rp.mono s rw'), h1, h2, k _ F H (.refl s) (congrArg (fun t => V.bl (!t)) ((any_in x xs).trans h3))⟩
/-! ### pairs walked -/
def enumF {α : Type} : Int → List α → List (T2 Int α)
  | _, [] => []
  | i, x :: xs => ⟨i, x⟩ :: enumF (i + 1) xs
abbrev enumL {α : Type} (xs : List α) : List (T2 Int α) := enumF 0 xs
theorem enumF_get {α : Type} : ∀ {xs : List α} {j : Int} {i : Nat} {x : T2 Int α}, (enumF j xs)[i]? = some x → x.a = j + i ∧ xs[i]? = some x.b
  | [], _, _, _, h => by simp [enumF] at h
  | y :: ys, j, 0, x, h => by
    simp [enumF] at h; subst h; simp
  | y :: ys, j, i + 1, x, h => by
    have h' : (enumF (j + 1) ys)[i]? = some x := by simpa [enumF] using h
    obtain ⟨h1, h2⟩ := enumF_get h'
    exact ⟨by rw [h1]; omega, by simpa using h2⟩
theorem enumF_len {α : Type} : ∀ {xs : List α} {j : Int}, (enumF j xs).length = xs.length
  | [], _ => rfl
  | x :: xs, j => by rw [enumF, List.length_cons, enumF_len, List.length_cons]
def zipL {α β : Type} : List α → List β → List (T2 α β)
  | x :: xs, y :: ys => ⟨x, y⟩ :: zipL xs ys
  | _, _ => []
theorem zipL_get {α β : Type} : ∀ {xs : List α} {ys : List β} {i : Nat} {z : T2 α β}, (zipL xs ys)[i]? = some z → xs[i]? = some z.a ∧ ys[i]? = some z.b
  | [], _, _, _, h => by simp [zipL] at h
  | _ :: _, [], _, _, h => by simp [zipL] at h
  | x :: xs, y :: ys, 0, z, h => by
    simp [zipL] at h; subst h; simp
  | x :: xs, y :: ys, i + 1, z, h => by
    have h' : (zipL xs ys)[i]? = some z := by simpa [zipL] using h
    obtain ⟨h1, h2⟩ := zipL_get h'
    exact ⟨by simpa using h1, by simpa using h2⟩
theorem zipL_len {α β : Type} : ∀ {xs : List α} {ys : List β}, (zipL xs ys).length = min xs.length ys.length
  | [], _ => by simp [zipL]
  | _ :: _, [] => by simp [zipL]
  | x :: xs, y :: ys => by rw [zipL, List.length_cons, zipL_len, List.length_cons, List.length_cons]; omega
theorem pair_new {α β : Type} [Rp α] [Rp β] {T : Addr} {v w : V} {x : α} {y : β} (s : L2.Same F H) (hT : H T = none) (rv : rp K F v x) (rw' : rp K F w y) : ∃ F', Gr F H F' (upd H T (.tup [v, w])) ∧ rp K F' (.ref T) (T2.mk x y) :=
  ⟨_, Gr.new s hT, T, [v, w], rfl, upd_same, v, [w], rfl, Rp.mono (same_upd (s.free hT)) rv, w, [], rfl, Rp.mono (same_upd (s.free hT)) rw', rfl⟩
theorem ei_enum {α : Type} [Rp α] {xs : List α} {p tpos : Pos} {elts : List Expr} {kk : Nat} (h : Ev X e σ F H xs) (hm : X.mg "enumerate" = none) (hg : Gl X "enumerate" := by rfl) (hs : starEach [e] X.env = [(false, eval e X.env)] := by rfl) :
    EvI X (.Tuple elts kk tpos) (.Call (.Name "enumerate" p) [e] [] pos) σ F H (enumL xs) := fun F1 H1 g R q =>
  GoI.of (pi_enum hg hm (pa_cons pe_go pa_nil (by rw [hs]; rfl)) hs) (h F1 H1 g _ fun v F2 H2 g2 ⟨a, vs, e, sq, rs⟩ => ⟨a, vs, by rw [e], g2.fh.seq sq, q _ F2 H2 g2 fun i Fi Hi s1 s2 => by
    have sq' := s2.seq (s1.seq sq)
    refine ⟨fun x hx => ?_, fun e => ⟨vs, sq', by rw [e, rs.length, enumF_len]; exact Nat.le_refl _⟩⟩
    obtain ⟨h1, h2⟩ := enumF_get hx
    obtain ⟨y, hy, ry⟩ := rs.get h2
    refine ⟨⟨vs, y, sq', hy⟩, fun v H' ⟨T, x', e1, e2, e3, e4⟩ => ?_⟩
    subst e1; subst e3
    have e5 := e4 vs sq'
    rw [hy] at e5
    cases e5
    have hi : x.a = (i : Int) := by rw [h1]; omega
    have := pair_new (K := X.K) (x := x.a) (y := x.b) s2 e2 (v := .int (i : Nat)) (congrArg V.int hi.symm) (Rp.mono s1 ry)
    exact this⟩)
theorem ei_zip {α β : Type} [Rp α] [Rp β] {xs : List α} {ys : List β} {p tpos : Pos} {elts : List Expr} {kk : Nat} (ha : Ev X a σ F H xs) (hb : Ev X b σ F H ys) (hm : X.mg "zip" = none) (hg : Gl X "zip" := by rfl) (hs : starEach [a, b] X.env = (false, eval a X.env) :: starEach [b] X.env := by rfl) (hs2 : starEach [b] X.env = (false, eval b X.env) :: starEach [] X.env := by rfl)
    (hpl : (backTo pos (starEach [b] X.env)).any (·.1) = false := by rfl) : EvI X (.Tuple elts kk tpos) (.Call (.Name "zip" p) [a, b] [] pos) σ F H (zipL xs ys) := fun F1 H1 g R q =>
  GoI.of (pi_zipA hg hm (pa_cons pe_go (pa_cons pe_go pa_nil hs2) hs) hs hpl) (ha F1 H1 g _ fun v F2 H2 g2 r2 => hb F2 H2 (g.trans g2) _ fun w F3 H3 g3 ⟨p', vs', e', sq', rs'⟩ => by
    obtain ⟨p, vs, e, sq, rs⟩ := Rp.mono g3.ff r2
    refine ⟨p, p', vs, vs', by rw [e, e'], .inl ⟨g3.fh.seq sq, g3.fh.seq sq', q _ F3 H3 (g2.trans g3) fun i Fi Hi s1 s2 => ?_⟩⟩
    have q1 := s2.seq (s1.seq sq)
    have q2 := s2.seq (s1.seq sq')
    refine ⟨fun x hx => ?_, fun e => ⟨vs, vs', q1, q2, by rw [e, zipL_len, rs.length, rs'.length]; omega⟩⟩
    obtain ⟨h1, h2⟩ := zipL_get hx
    obtain ⟨y, hy, ry⟩ := rs.get h1
    obtain ⟨z, hz, rz⟩ := rs'.get h2
    refine ⟨⟨vs, vs', y, z, q1, q2, hy, hz⟩, fun v H' ⟨T, x1, y1, e1, e2, e3, e4, e5⟩ => ?_⟩
    subst e1; subst e3
    have e6 := e4 vs q1
    have e7 := e5 vs' q2
    rw [hy] at e6; rw [hz] at e7
    cases e6; cases e7
    exact pair_new s2 e2 (Rp.mono s1 ry) (Rp.mono s1 rz))
theorem ei_zipT {α β θ θ' : Type} [Rp α] [Rp β] [Rp θ] [Rp θ'] [TL θ α] [TL θ' β] {xs : θ} {ys : θ'} {p tpos : Pos} {elts : List Expr} {kk : Nat} (ha : Ev X a σ F H xs) (hb : Ev X b σ F H ys) (hm : X.mg "zip" = none) (hg : Gl X "zip" := by rfl) (hs : starEach [a, b] X.env = (false, eval a X.env) :: starEach [b] X.env := by rfl) (hs2 : starEach [b] X.env = (false, eval b X.env) :: starEach [] X.env := by rfl)
    (hpl : (backTo pos (starEach [b] X.env)).any (·.1) = false := by rfl) : EvI X (.Tuple elts kk tpos) (.Call (.Name "zip" p) [a, b] [] pos) σ F H (zipL (TL.l xs) (TL.l ys)) := fun F1 H1 g R q =>
  GoI.of (pi_zipA hg hm (pa_cons pe_go (pa_cons pe_go pa_nil hs2) hs) hs hpl) (ha F1 H1 g _ fun v F2 H2 g2 r2 => hb F2 H2 (g.trans g2) _ fun w F3 H3 g3 r3 => by
    obtain ⟨p', vs', e', sq', rs'⟩ := TL.sq r3
    obtain ⟨p, vs, e, sq, rs⟩ := TL.sq (Rp.mono g3.ff r2)
    refine ⟨p, p', vs, vs', by rw [e, e'], .inr ⟨sqT_mono g3.fh sq, sqT_mono g3.fh sq', q _ F3 H3 (g2.trans g3) fun i Fi Hi s1 s2 => ?_⟩⟩
    have q1 : SqT X.K Hi p vs := sqT_mono s2 (sqT_mono s1 sq)
    have q2 : SqT X.K Hi p' vs' := sqT_mono s2 (sqT_mono s1 sq')
    refine ⟨fun x hx => ?_, fun e => ⟨vs, vs', q1, q2, by rw [e, zipL_len, rs.length, rs'.length]; omega⟩⟩
    obtain ⟨h1, h2⟩ := zipL_get hx
    obtain ⟨y, hy, ry⟩ := rs.get h1
    obtain ⟨z, hz, rz⟩ := rs'.get h2
    refine ⟨⟨vs, vs', y, z, q1, q2, hy, hz⟩, fun v H' ⟨T, x1, y1, e1, e2, e3, e4, e5⟩ => ?_⟩
    subst e1; subst e3
    have e6 := e4 vs q1
    have e7 := e5 vs' q2
    rw [hy] at e6; rw [hz] at e7
    cases e6; cases e7
    exact pair_new s2 e2 (Rp.mono s1 ry) (Rp.mono s1 rz))
theorem rev_get {α : Type} {xs : List α} {i : Nat} {x : α} (h : xs.reverse[i]? = some x) : i < xs.length ∧ xs[xs.length - 1 - i]? = some x := by
  have hi : i < xs.length := by
    rcases Nat.lt_or_ge i xs.length with h1 | h1
    · exact h1
    · rw [List.getElem?_eq_none (by simpa using h1)] at h; cases h
  rw [List.getElem?_reverse hi] at h
  exact ⟨hi, h⟩
theorem ei_rev {α : Type} [Rp α] {xs : List α} {p : Pos} {tg : Expr} (h : Ev X e σ F H xs) (hm : X.mg "reversed" = none) (hg : Gl X "reversed" := by rfl) (hs : starEach [e] X.env = (false, eval e X.env) :: starEach [] X.env := by rfl) :
    EvI X tg (.Call (.Name "reversed" p) [e] [] pos) σ F H xs.reverse := fun F1 H1 g R q =>
  GoI.of (pi_revA hg hm pe_go hs) (h F1 H1 g _ fun v F2 H2 g2 ⟨a, vs, e, sq, rs⟩ => ⟨a, vs, e, .inl ⟨g2.fh.seq sq, q _ F2 H2 g2 fun i Fi Hi s1 s2 => by
    have sq' := s2.seq (s1.seq sq)
    refine ⟨fun x hx => ?_, fun e => by rw [e, List.length_reverse, ← rs.length]; exact Nat.le_refl _⟩
    obtain ⟨h1, h2⟩ := rev_get hx
    obtain ⟨y, hy, ry⟩ := rs.get h2
    rw [← rs.length] at h1 hy
    refine ⟨⟨h1, vs, y, sq', hy⟩, fun v H' ⟨e1, e2⟩ => ?_⟩
    subst e1
    have e3 := e2 vs sq'
    rw [hy] at e3
    cases e3
    exact ⟨Fi, .refl s2, Rp.mono s1 ry⟩⟩⟩)
theorem ei_revT {α θ : Type} [Rp α] [Rp θ] [TL θ α] {xs : θ} {p : Pos} {tg : Expr} (h : Ev X e σ F H xs) (hm : X.mg "reversed" = none) (hg : Gl X "reversed" := by rfl) (hs : starEach [e] X.env = (false, eval e X.env) :: starEach [] X.env := by rfl) :
    EvI X tg (.Call (.Name "reversed" p) [e] [] pos) σ F H (TL.l xs).reverse := fun F1 H1 g R q =>
  GoI.of (pi_revA hg hm pe_go hs) (h F1 H1 g _ fun v F2 H2 g2 r2 => let ⟨a, vs, e, sq, rs⟩ := TL.sq r2; ⟨a, vs, e, .inr ⟨sqT_mono g2.fh sq, q _ F2 H2 g2 fun i Fi Hi s1 s2 => by
    have sq' : SqT X.K Hi a vs := sqT_mono s2 (sqT_mono s1 sq)
    refine ⟨fun x hx => ?_, fun e => by rw [e, List.length_reverse, ← rs.length]; exact Nat.le_refl _⟩
    obtain ⟨h1, h2⟩ := rev_get hx
    obtain ⟨y, hy, ry⟩ := rs.get h2
    rw [← rs.length] at h1 hy
    refine ⟨⟨h1, vs, y, sq', hy⟩, fun v H' ⟨e1, e2⟩ => ?_⟩
    subst e1
    have e3 := e2 vs sq'
    rw [hy] at e3
    cases e3
    exact ⟨Fi, .refl s2, Rp.mono s1 ry⟩⟩⟩)
/-! ### the place of an item -/
def idxG {α : Type} [Rp α] [Pd α] [DecidableEq α] (xs : List α) (x : α) : Option Int := if (okD x && okD xs) = true ∧ x ∈ xs then some ((xs.idxOf x : Nat) : Int) else none
theorem idxG_of {α : Type} [Rp α] [Pd α] [DecidableEq α] {x : α} {xs : List α} {r : Int} (h : idxG xs x = some r) : okD x = true ∧ okD xs = true ∧ x ∈ xs ∧ r = ((xs.idxOf x : Nat) : Int) := by
  unfold idxG at h; split at h
  · rename_i h1
    obtain ⟨h0, h3⟩ := h1
    obtain ⟨h1, h2⟩ := Bool.and_eq_true_iff.mp h0
    exact ⟨h1, h2, h3, (Option.some.inj h).symm⟩
  · cases h
theorem idx_at {α : Type} [DecidableEq α] {x : α} : ∀ {xs : List α}, x ∈ xs → xs[xs.idxOf x]? = some x ∧ ∀ m, m < xs.idxOf x → xs[m]? ≠ some x
  | y :: ys, h => by
    by_cases e : y = x
    · subst e; simp
    · have hx : x ∈ ys := by
        rcases List.mem_cons.mp h with h | h
        · exact absurd h.symm e
        · exact h
      obtain ⟨h1, h2⟩ := idx_at hx
      have hi : (y :: ys).idxOf x = ys.idxOf x + 1 := by
        rw [List.idxOf_cons, beq_eq_false_iff_ne.mpr e]; rfl
      rw [hi]
      refine ⟨by simpa using h1, fun m hm => ?_⟩
      cases m with
      | zero => simpa using e
      | succ m => simpa using h2 m (by omega)
theorem ev_indexL {α : Type} [Rp α] [Pd α] [DecidableEq α] {xs : List α} {x : α} {r : Int} {apos : Pos} (ho : Ev X a σ F H xs) (he : Ev X e σ F H x) (h : idxG xs x = some r) (hu : X.A.units + 65 < cLine)
    (hbase : attributeBase a "index" X.env (eval a X.env) = eval a X.env := by rfl)
    (hfew : ((backTo pos (starEach [e] X.env)).all (fun x => !x.1) && (backToKw pos (keywordEach [] X.env)).all (fun x => x.1.isSome) && decide ([e].length + ([] : List Keyword).length + (if ([] : List Keyword).isEmpty then 0 else 1) < 30)) = true := by rfl)
    (hline : (apos.endLine == pos.line) = true := by rfl) (hs : starEach [e] X.env = (false, eval e X.env) :: starEach [] X.env := by rfl) (hplain : (backTo pos (starEach [] X.env)).any (·.1) = false := by rfl) :
    Ev X (.Call (.Attribute a "index" apos) [e] [] pos) σ F H r := fun F1 H1 g Q q => by
  obtain ⟨k1, k2, k3, rfl⟩ := idxG_of h
  refine GoE.of (pe_bm PySem.F.plainAttrs_list PySem.F.slot_list_index PySem.F.type_list_index (mt_indexD hu) pe_go (pa_cons pe_go pa_nil hs) hbase hfew hline hs hplain) (ho F1 H1 g _ fun v F2 H2 g2 r2 => ?_)
  obtain ⟨p, vs, rfl, sq, rs⟩ := id r2
  refine ⟨.inl ⟨rfl, vs, g2.fh.seq sq⟩, he F2 H2 (g.trans g2) _ fun w F3 H3 g3 r3 => ?_⟩
  obtain ⟨h1, h2⟩ := idx_at k3
  refine ⟨p, w, Pd.toD x, xs.map Pd.toD, xs.idxOf x, Pd.toD x, rfl, rfl, Pd.dp (Rp.mono (g3.ff.trans g3.fh) r2), Pd.dp (Rp.mono g3.fh r3), k2, k1, by rw [List.getElem?_map, h1]; rfl, (eqv_dec x x).trans (decide_eq_true rfl), fun m z' hm hz => ?_, q _ F3 H3 (g2.trans g3) rfl⟩
  rw [List.getElem?_map] at hz
  obtain ⟨y, hy, rfl⟩ := Option.map_eq_some_iff.mp hz
  rw [eqv_dec]
  exact decide_eq_false fun e => h2 m hm (e ▸ hy)
/-! ### tuples without a dict of their own -/
def rTupN (K : PySem.W.Frag) : List V → Hp → VK → Prop := fun xs H Q => ∃ p ys, xs = [.ref p] ∧ SqL K H p ys ∧ ∀ l o, H l = none → o.dict = none → o.cls = .type "tuple" → Q (.ref l) (upd H l (.frz o (.tup ys)))
theorem call_tupN : CallR X (.type "tuple") (rTupN X.K) := by
  intro pins s σ H xs us Q I r ⟨p, ys, e, hq, q⟩
  subst e
  obtain ⟨u, rfl, rx⟩ := vals1 r
  cases rx
  obtain ⟨its, r', pl, hz⟩ := I.list hq
  have hlen := r'.length
  refine call_tuple_list pl.isList (fun h' kp => ?_) (by simp only [List.size_toArray] <;> omega)
  have I1 : Inv X pins σ H { s with heap := h' } := I.kept (t' := s.toks) kp
  have new : ObjOk X.prog X.w (upd H h'.objs.size (.frz { cls := .type "tuple", data := .seq its.toArray } (.tup ys))) (h'.push { cls := .type "tuple", data := .seq its.toArray }) h'.objs.size (.frz { cls := .type "tuple", data := .seq its.toArray } (.tup ys)) :=
    ⟨Heap.get?_push_size _ rfl, hz, its, r', IsTup.new _ _⟩
  exact ⟨.ref h'.objs.size, _, I1.laid (t' := s.toks) (fun b o e => Heap.get?_push_of_some _ e) (Nat.le_refl _) new, rfl, q _ _ (I1.hok.fresh (Nat.le_refl _)) rfl rfl⟩
theorem oc_tupleN {α : Type} [Rp α] {xs : List α} : OpC K (rTupN K) (xs, ()) (Tn.mk xs) :=
  oc1 fun F H v Q s ⟨p, vs, e, sq, rs⟩ k => ⟨p, vs, by rw [e], s.seq sq, fun l o hl h1 h2 => k _ (upd F l (.frz o (.tup vs))) _ (Gr.new s hl) ⟨l, vs, o, rfl, upd_same, h1, h2, rs.mono (same_upd (s.free hl))⟩⟩
def tBMn (r : V → List V → Hp → VK → Prop) (to : TE) (t : TA) : TE := fun σ H Q => to σ H fun x H1 => (∃ p o xs, x = .ref p ∧ H1 p = some (.frz o (.tup xs)) ∧ o.dict = none ∧ o.cls = .type "tuple") ∧ t σ H1 fun xs H2 => r x xs H2 Q
theorem pe_bmn {o : Expr} {to : TE} {t : TA} {name : Str} {apos cpos : Pos} {id : String} {r : V → List V → Hp → VK → Prop} (pa : PlainAttrs "tuple") (slot : Slot "tuple" name id) (hty : typeOf (.builtin id) = pure (.type "method_descriptor")) (hm : MtR X id r) (ho : PE X o to) (ha : PA X (e :: es) t)
    (hbase : attributeBase o name X.env (eval o X.env) = eval o X.env)
    (hfew : ((backTo cpos (starEach (e :: es) X.env)).all (fun x => !x.1) && (backToKw cpos (keywordEach [] X.env)).all (fun x => x.1.isSome) && decide ((e :: es).length + ([] : List Keyword).length + (if ([] : List Keyword).isEmpty then 0 else 1) < 30)) = true)
    (hline : (apos.endLine == cpos.line) = true) (hs : starEach (e :: es) X.env = (false, eval e X.env) :: starEach es X.env) (hplain : (backTo cpos (starEach es X.env)).any (·.1) = false) :
    PE X (.Call (.Attribute o name apos) (e :: es) [] cpos) (tBMn r to t) := ⟨fun pins s σ H Q I h => by
  refine wpAny_Call_method_late hbase hfew hline rfl (thn (ho.run pins s σ H _ I h) fun v s1 ⟨x, H1, I1, r1, ⟨p, ob, ys, ex, hp, hd, hc⟩, q1⟩ => ?_)
  subst ex
  cases r1
  obtain ⟨hg, _⟩ := I1.hok p _ hp
  refine ⟨"tuple", id, pa, slot, hty, ⟨ob, hg, hc⟩, fun a' e' => by cases e'; exact ⟨ob, hg, hd⟩, ?_⟩
  have hA := ha.run cpos pins s1 σ H1 _ I1 q1
  rw [hs] at hA ⊢
  refine Calls.callWith_builtin (by show (false || (backTo cpos (starEach es X.env)).any (·.1)) = false; rw [hplain]; rfl) (Calls.evalArgs_plain ?_)
  exact thn hA fun us s2 ⟨vs, H2, I2, r2, q2⟩ => hm pins s2 σ H2 (.ref p) vs _ us Q I2 rfl r2 q2⟩
def idxT (xs : List Str) (x : Str) : Option Int := if x ∈ xs then some ((xs.idxOf x : Nat) : Int) else none
theorem ev_indexT {xs : Tn Str} {x : Str} {r : Int} {apos : Pos} (ho : Ev X a σ F H xs) (he : Ev X e σ F H x) (h : idxT xs.l x = some r)
    (hbase : attributeBase a "index" X.env (eval a X.env) = eval a X.env := by rfl)
    (hfew : ((backTo pos (starEach [e] X.env)).all (fun x => !x.1) && (backToKw pos (keywordEach [] X.env)).all (fun x => x.1.isSome) && decide ([e].length + ([] : List Keyword).length + (if ([] : List Keyword).isEmpty then 0 else 1) < 30)) = true := by rfl)
    (hline : (apos.endLine == pos.line) = true := by rfl) (hs : starEach [e] X.env = (false, eval e X.env) :: starEach [] X.env := by rfl) (hplain : (backTo pos (starEach [] X.env)).any (·.1) = false := by rfl) :
    Ev X (.Call (.Attribute a "index" apos) [e] [] pos) σ F H r := fun F1 H1 g Q q => by
  unfold idxT at h
  split at h
  case isFalse => cases h
  rename_i k3
  cases (Option.some.inj h)
  refine GoE.of (pe_bmn PySem.F.plainAttrs_tuple PySem.F.slot_tuple_index PySem.F.type_tuple_index mt_tup_index pe_go (pa_cons pe_go pa_nil hs) hbase hfew hline hs hplain) (ho F1 H1 g _ fun v F2 H2 g2 r2 => ?_)
  obtain ⟨p, vs, o, rfl, hp, hd, hc, rs⟩ := r2
  refine ⟨⟨p, o, vs, rfl, g2.fh _ _ hp, hd, hc⟩, he F2 H2 (g.trans g2) _ fun w F3 H3 g3 r3 => ?_⟩
  obtain ⟨h1, h2⟩ := idx_at k3
  have e4 := rs.strs
  subst e4
  exact ⟨p, xs.l, x, xs.l.idxOf x, rfl, by rw [show w = .str x from r3], .inl (.inr ⟨o, g3.fh _ _ (g3.ff _ _ hp)⟩), h1, h2, q _ F3 H3 (g2.trans g3) rfl⟩
/-! ### texts -/
theorem ev_partition {x y : Str} {apos : Pos} (hx : x.length ≤ sizeLine ∧ (y.length == 0) = false) (ho : Ev X a σ F H x) (he : Ev X e σ F H y)
    (hs : starEach [e] X.env = [(false, eval e X.env)] := by rfl) (hbase : attributeBase a "partition" X.env (eval a X.env) = eval a X.env := by rfl) (hline : (apos.endLine == pos.line) = true := by rfl) : Ev X (.Call (.Attribute a "partition" apos) [e] [] pos) σ F H (T3.mk (Txt.partition x y).1 (Txt.partition x y).2.1 (Txt.partition x y).2.2) :=
  ev_m1 PySem.F.slot_str_partition PySem.F.type_str_partition mt_partition (fun F H Q s k => ⟨x, y, rfl, rfl, hx.2, hx.1, fun p hp => k _ (upd F p _) _ (Gr.new s hp) ⟨p, _, rfl, upd_same, _, _, rfl, rfl, _, _, rfl, rfl, _, _, rfl, rfl, rfl⟩⟩) ho he hs hbase hline
def sPart (x y : Str) : Option (T3 Str Str Str) := if x.length ≤ sizeLine ∧ (y.length == 0) = false then some ⟨(Txt.partition x y).1, (Txt.partition x y).2.1, (Txt.partition x y).2.2⟩ else none
theorem ev_part {x y : Str} {r : T3 Str Str Str} {apos : Pos} (ho : Ev X a σ F H x) (he : Ev X e σ F H y) (h : sPart x y = some r)
    (hs : starEach [e] X.env = [(false, eval e X.env)] := by rfl) (hbase : attributeBase a "partition" X.env (eval a X.env) = eval a X.env := by rfl) (hline : (apos.endLine == pos.line) = true := by rfl) : Ev X (.Call (.Attribute a "partition" apos) [e] [] pos) σ F H r := by
  unfold sPart at h
  split at h
  · rename_i hz
    cases (Option.some.inj h)
    exact ev_partition hz ho he hs hbase hline
  · cases h
theorem oc_intB {b : Bool} : OpC K (fun xs H Q => (∃ i, xs = [.int i] ∧ Q (.int i) H) ∨ ∃ k, xs = [.bl k] ∧ Q (.int (if k then 1 else 0)) H) (b, ()) (if b = true then (1 : Int) else 0) :=
  oc1 fun F H v Q s rv k => .inr ⟨b, by rw [show v = .bl b from rv], k _ F H (.refl s) rfl⟩
end
end Gx

/-! Gf: dicts. -/
namespace Gx
open PySem PySem.Spec PyProof.Rows L2
open Rp (rp)
open Ra (ra)
open Ob (ob)
section
variable {κ α β : Type} [DecidableEq κ]
def kvLook : List (κ × α) → κ → Option α
  | [], _ => none
  | p :: r, k => if p.1 = k then some p.2 else kvLook r k
def kvPut (l : List (κ × α)) (k : κ) (v : α) : List (κ × α) := if (l.any fun p => decide (p.1 = k)) = true then l.map (fun p => if p.1 = k then (p.1, v) else p) else l ++ [(k, v)]
def kvDrop (l : List (κ × α)) (k : κ) : List (κ × α) := l.filter fun p => decide (p.1 ≠ k)
variable {κ' : Type} [DecidableEq κ'] {g : κ → κ'}
abbrev kvm (g : κ → κ') (l : List (κ × α)) : List (κ' × α) := l.map fun p => (g p.1, p.2)
theorem kvm_val (hg : ∀ x y, g x = g y → x = y) (k : κ) : ∀ l : List (κ × V), valV (kvm g l) (g k) = kvLook l k
  | [] => rfl
  | p :: r => by
    by_cases e : p.1 = k
    · subst e; simp [valV, kvLook]
    · have e' : ¬ g p.1 = g k := fun z => e (hg _ _ z)
      have ih := kvm_val hg k r
      unfold valV at ih ⊢
      rw [kvm, List.map_cons, List.find?_cons, decide_eq_false e', kvLook, if_neg e]
      exact ih
theorem kvm_any (hg : ∀ x y, g x = g y → x = y) (k : κ) (l : List (κ × α)) : ((kvm g l).any fun p => decide (p.1 = g k)) = l.any fun p => decide (p.1 = k) := by
  induction l with
  | nil => rfl
  | cons p r ih =>
    rw [kvm, List.map_cons, List.any_cons, List.any_cons, ← ih]
    congr 1
    rw [decide_eq_decide]
    exact ⟨hg _ _, fun e => e ▸ rfl⟩
theorem kvm_put (hg : ∀ x y, g x = g y → x = y) (k : κ) (v : V) (l : List (κ × V)) : putK (kvm g l) (g k) v = kvm g (kvPut l k v) := by
  unfold putK kvPut
  rw [kvm_any hg]
  split
  · rw [kvm, kvm, List.map_map, List.map_map]
    refine List.map_congr_left fun p _ => ?_
    show (if g p.1 = g k then (g p.1, v) else (g p.1, p.2)) = _
    by_cases e : p.1 = k
    · subst e; simp
    · rw [if_neg (fun z => e (hg _ _ z))]; simp [e]
  · simp [kvm]
theorem kvm_drop (hg : ∀ x y, g x = g y → x = y) (k : κ) (l : List (κ × V)) : dropK (kvm g l) (g k) = kvm g (kvDrop l k) := by
  unfold dropK kvDrop
  induction l with
  | nil => rfl
  | cons p r ih =>
    rw [kvm, List.map_cons]
    by_cases e : p.1 = k
    · rw [List.filter_cons_of_neg (by simp [e]), List.filter_cons_of_neg (by simp [e])]; exact ih
    · have e' : ¬ g p.1 = g k := fun z => e (hg _ _ z)
      rw [List.filter_cons_of_pos (by simp [e']), List.filter_cons_of_pos (by simp [e]), kvm, List.map_cons]
      exact congrArg _ ih
theorem kvPut_len (l : List (κ × α)) (k : κ) (v : α) : (kvPut l k v).length ≤ l.length + 1 := by
  unfold kvPut; split
  · rw [List.length_map]; omega
  · rw [List.length_append]; simp
theorem kvLook_put (l : List (κ × α)) (k k' : κ) (v : α) : kvLook (kvPut l k v) k' = if k = k' then some v else kvLook l k' := by
  unfold kvPut
  split
  · rename_i h
    induction l with
    | nil => cases h
    | cons p r ih =>
      rw [List.map_cons]
      by_cases e : p.1 = k
      · rw [if_pos e, kvLook]
        by_cases e2 : k = k'
        · rw [if_pos e2, if_pos (e.trans e2)]
        · rw [if_neg e2, if_neg (fun z => e2 (e.symm.trans z)), kvLook, if_neg (fun z => e2 (e.symm.trans z))]
          clear ih h
          induction r with
          | nil => rfl
          | cons q s ih =>
            rw [List.map_cons]
            by_cases e3 : q.1 = k
            · rw [if_pos e3, kvLook, if_neg (fun z => e2 (e3.symm.trans z)), ih, kvLook, if_neg (fun z => e2 (e3.symm.trans z))]
            · rw [if_neg e3, kvLook, ih, kvLook]
      · rw [if_neg e, kvLook]
        have h' : (r.any fun p => decide (p.1 = k)) = true := by
          rw [List.any_cons, decide_eq_false e, Bool.false_or] at h; exact h
        rw [ih h', kvLook]
        by_cases e2 : k = k'
        · rw [if_pos e2, if_neg (fun z => e (z.trans e2.symm)), if_pos e2]
        · rw [if_neg e2, if_neg e2]
  · rename_i h
    induction l with
    | nil => simp [kvLook]
    | cons p r ih =>
      have h1 : ¬ p.1 = k ∧ ¬ (r.any fun p => decide (p.1 = k)) = true := by
        constructor
        · intro e; exact h (by rw [List.any_cons, decide_eq_true e]; rfl)
        · intro e; exact h (by rw [List.any_cons, e, Bool.or_true])
      rw [List.cons_append, kvLook, ih h1.2, kvLook]
      by_cases e2 : k = k'
      · rw [if_pos e2, if_neg (fun z => h1.1 (z.trans e2.symm)), if_pos e2]
      · rw [if_neg e2, if_neg e2]
end
/-- a dict -/
structure Dct (κ ν : Type) where
  l : List (κ × ν)
  deriving DecidableEq
abbrev KR {κ ν : Type} [Rp ν] (K : PySem.W.Frag) (F : Hp) : List (κ × V) → List (κ × ν) → Prop := Paired fun p q => p.1 = q.1 ∧ rp K F p.2 q.2
section
variable {κ ν : Type} [Rp ν] {K : PySem.W.Frag} {F F' : Hp}
theorem KR.mono {kvs : List (κ × V)} {l : List (κ × ν)} (s : L2.Same F F') (h : KR K F kvs l) : KR K F' kvs l := Paired.mapP h fun _ _ ⟨e, r⟩ => ⟨e, Rp.mono s r⟩
variable [DecidableEq κ]
theorem KR.look (k : κ) : ∀ {kvs : List (κ × V)} {l : List (κ × ν)}, KR K F kvs l → (kvLook kvs k = none ∧ kvLook l k = none) ∨ ∃ v x, kvLook kvs k = some v ∧ kvLook l k = some x ∧ rp K F v x
  | _, _, .nil => .inl ⟨rfl, rfl⟩
  | _, _, .cons (a := p) (b := q) ⟨e, r⟩ t => by
    by_cases h : p.1 = k
    · exact .inr ⟨p.2, q.2, by rw [kvLook, if_pos h], by rw [kvLook, if_pos (e ▸ h)], r⟩
    · rw [kvLook, if_neg h, kvLook, if_neg (fun z => h (e.trans z))]
      exact KR.look k t
theorem KR.any (k : κ) : ∀ {kvs : List (κ × V)} {l : List (κ × ν)}, KR K F kvs l → (kvs.any fun p => decide (p.1 = k)) = l.any fun p => decide (p.1 = k)
  | _, _, .nil => rfl
  | _, _, .cons ⟨e, _⟩ t => by rw [List.any_cons, List.any_cons, KR.any k t, e]
theorem KR.map (k : κ) {v : V} {x : ν} (r : rp K F v x) : ∀ {kvs : List (κ × V)} {l : List (κ × ν)}, KR K F kvs l → KR K F (kvs.map fun p => if p.1 = k then (p.1, v) else p) (l.map fun p => if p.1 = k then (p.1, x) else p)
  | _, _, .nil => .nil
  | _, _, .cons (a := p) (b := q) ⟨e, r'⟩ t => by
    rw [List.map_cons, List.map_cons]
    refine .cons ?_ (KR.map k r t)
    by_cases h : p.1 = k
    · rw [if_pos h, if_pos (e ▸ h)]; exact ⟨e, r⟩
    · rw [if_neg h, if_neg (fun z => h (e.trans z))]; exact ⟨e, r'⟩
theorem KR.app {kvs ws : List (κ × V)} {l m : List (κ × ν)} (h : KR K F kvs l) (h' : KR K F ws m) : KR K F (kvs ++ ws) (l ++ m) := by
  induction h with
  | nil => exact h'
  | cons r t ih => exact .cons r ih
theorem KR.put {k : κ} {v : V} {x : ν} {kvs : List (κ × V)} {l : List (κ × ν)} (h : KR K F kvs l) (r : rp K F v x) : KR K F (kvPut kvs k v) (kvPut l k x) := by
  unfold kvPut
  rw [h.any k]
  split
  · exact KR.map k r h
  · exact h.app (.cons ⟨rfl, r⟩ .nil)
theorem KR.drop {k : κ} : ∀ {kvs : List (κ × V)} {l : List (κ × ν)}, KR K F kvs l → KR K F (kvDrop kvs k) (kvDrop l k)
  | _, _, .nil => .nil
  | _, _, .cons (a := p) (b := q) ⟨e, r'⟩ t => by
    unfold kvDrop
    by_cases h : p.1 = k
    · rw [List.filter_cons_of_neg (by simp [h]), List.filter_cons_of_neg (by simp [← e, h])]; exact KR.drop t
    · rw [List.filter_cons_of_pos (by simp [h]), List.filter_cons_of_pos (by simp [← e, h])]; exact .cons ⟨e, r'⟩ (KR.drop t)
end
/-! ### keys -/
class KeyS (κ : Type) [Rp κ] where
  g : κ → Key
  inj : ∀ x y, g x = g y → x = y
  rpg : ∀ {K : PySem.W.Frag} {F : Hp} {v : V} {k : κ}, rp K F v k ↔ v = kV (g k)
instance : KeyS Int := ⟨.inl, fun _ _ h => Sum.inl.inj h, Iff.rfl⟩
instance : KeyS Str := ⟨.inr, fun _ _ h => Sum.inr.inj h, Iff.rfl⟩
class KeyT (κ : Type) [Rp κ] where
  g : κ → List Key
  inj : ∀ x y, g x = g y → x = y
  rpg : ∀ {K : PySem.W.Frag} {F : Hp} {v : V} {k : κ}, rp K F v k ↔ ∃ b, v = .ref b ∧ F b = some (.tup ((g k).map kV))
class DKey (κ : Type) [Rp κ] [DecidableEq κ] where
  hob : List (κ × V) → HO
  inj : ∀ {a b}, hob a = hob b → a = b
  mu : ∀ kvs, Mut (some (hob kvs))
  ls : ∀ kvs, lstish (hob kvs)
  isD : ∀ {H : Hp} {a : Addr} {kvs}, Rd H a (hob kvs) → IsD H a
  get : ∀ {K : PySem.W.Frag} {F H : Hp} {a : Addr} {v : V} {k : κ} {kvs}, L2.Same F H → rp K F v k → Rd H a (hob kvs) → DGet H a v (kvLook kvs k)
  put : ∀ {K : PySem.W.Frag} {F H : Hp} {a : Addr} {v x : V} {k : κ} {kvs}, L2.Same F H → rp K F v k → H a = some (hob kvs) → kvs.length < sizeLine → DPut H a v x (upd H a (hob (kvPut kvs k x)))
  new : ∀ {X : Cx} {pos : Pos}, PE X (.Dict [] [] pos) fun _ H Q => ∀ p, H p = none → Q (.ref p) (upd H p (hob []))
  kd : ∀ {K : PySem.W.Frag} {H : Hp} {a : Addr} {kvs}, Rd H a (hob kvs) → Kn K H (.ref a) "dict"
  le : ∀ {P : Program} {w : World} {H : Hp} {h : Heap} {a : Addr} {kvs}, ObjOk P w H h a (hob kvs) → kvs.length ≤ sizeLine
theorem kvm_inj {κ κ' α : Type} {g : κ → κ'} (hg : ∀ x y, g x = g y → x = y) : ∀ {a b : List (κ × α)}, kvm g a = kvm g b → a = b
  | [], [], _ => rfl
  | [], _ :: _, h => by cases h
  | _ :: _, [], h => by cases h
  | p :: r, q :: s, h => by
    rw [kvm, kvm, List.map_cons, List.map_cons, List.cons.injEq] at h
    obtain ⟨h1, h2⟩ := h
    rw [kvm_inj hg h2]
    rw [Prod.mk.injEq] at h1
    congr 1
    exact Prod.ext (hg _ _ h1.1) h1.2
theorem kvm_len {κ κ' α : Type} {g : κ → κ'} (l : List (κ × α)) : (kvm g l).length = l.length := by rw [kvm, List.length_map]
instance {κ : Type} [Rp κ] [DecidableEq κ] [KeyS κ] : DKey κ where
  hob kvs := .dK (kvm KeyS.g kvs)
  inj h := kvm_inj KeyS.inj (HO.dK.inj h)
  mu _ := trivial
  ls _ := trivial
  isD h := .inl ⟨_, h⟩
  get s r h := .inl ⟨_, _, h, KeyS.rpg.mp r, (kvm_val KeyS.inj _ _).symm⟩
  put s r h hl := .inl ⟨_, _, h, KeyS.rpg.mp r, by rw [kvm_len]; exact hl, by rw [kvm_put KeyS.inj]⟩
  new := pe_dnewK
  kd h := .dK h
  le h := by obtain ⟨z, _⟩ := (show ObjOk _ _ _ _ _ (.dK _) from h); rw [kvm_len] at z; exact z
instance {κ : Type} [Rp κ] [DecidableEq κ] [KeyT κ] : DKey κ where
  hob kvs := .dT (kvm KeyT.g kvs)
  inj h := kvm_inj KeyT.inj (HO.dT.inj h)
  mu _ := trivial
  ls _ := trivial
  isD h := .inr ⟨_, h⟩
  get s r h := by
    obtain ⟨b, e, hb⟩ := KeyT.rpg.mp r
    exact .inr ⟨_, _, b, h, e, s _ _ hb, (kvm_val KeyT.inj _ _).symm⟩
  put s r h hl := by
    obtain ⟨b, e, hb⟩ := KeyT.rpg.mp r
    exact .inr ⟨_, _, b, h, e, s _ _ hb, by rw [kvm_len]; exact hl, by rw [kvm_put KeyT.inj]⟩
  new := pe_dnewT
  kd h := .dT h
  le h := by obtain ⟨z, _⟩ := (show ObjOk _ _ _ _ _ (.dT _) from h); rw [kvm_len] at z; exact z
/-- keys that are tuples of scalars -/
class KeyR (τ : Type) [Ra τ] where
  g : τ → List Key
  inj : ∀ x y, g x = g y → x = y
  rpg : ∀ {K : PySem.W.Frag} {F : Hp} {vs : List V} {k : τ}, ra K F vs k ↔ vs = (g k).map kV
instance : KeyR Unit := ⟨fun _ => [], fun _ _ _ => rfl, Iff.rfl⟩
instance {α τ : Type} [Rp α] [Ra τ] [KeyS α] [KeyR τ] : KeyR (α × τ) := ⟨fun x => KeyS.g x.1 :: KeyR.g x.2, fun x y h => by
  rw [List.cons.injEq] at h
  exact Prod.ext (KeyS.inj _ _ h.1) (KeyR.inj _ _ h.2), by
  intro K F vs k
  constructor
  · rintro ⟨v, r, e, p, q⟩
    rw [e, KeyS.rpg.mp p, KeyR.rpg.mp q]; rfl
  · intro h
    exact ⟨_, _, h, KeyS.rpg.mpr rfl, KeyR.rpg.mpr rfl⟩⟩
theorem keyR_rp {θ τ : Type} [Ra τ] [KeyR τ] {row : θ → τ} {K : PySem.W.Frag} {F : Hp} {v : V} {k : θ} : rpT row K F v k ↔ ∃ b, v = .ref b ∧ F b = some (.tup ((KeyR.g (row k)).map kV)) := by
  constructor
  · rintro ⟨b, vs, e, q, r⟩
    exact ⟨b, e, by rw [← KeyR.rpg.mp r]; exact q⟩
  · rintro ⟨b, e, q⟩
    exact ⟨b, _, e, q, KeyR.rpg.mpr rfl⟩
instance {α : Type} [Rp α] [KeyS α] : KeyT (T1 α) := ⟨fun x => KeyR.g x.row, fun x y h => by cases x; cases y; simpa [T1.row] using KeyR.inj _ _ h, keyR_rp⟩
instance {α β : Type} [Rp α] [Rp β] [KeyS α] [KeyS β] : KeyT (T2 α β) := ⟨fun x => KeyR.g x.row, fun x y h => by cases x; cases y; simpa [T2.row] using KeyR.inj _ _ h, keyR_rp⟩
instance {α β γ : Type} [Rp α] [Rp β] [Rp γ] [KeyS α] [KeyS β] [KeyS γ] : KeyT (T3 α β γ) := ⟨fun x => KeyR.g x.row, fun x y h => by cases x; cases y; simpa [T3.row] using KeyR.inj _ _ h, keyR_rp⟩
theorem keys_rps {α : Type} [Rp α] [KeyS α] {K : PySem.W.Frag} {F : Hp} : ∀ {vs : List V} {xs : List α}, Rps K F vs xs ↔ vs = (xs.map KeyS.g).map kV
  | [], [] => ⟨fun _ => rfl, fun _ => .nil⟩
  | [], _ :: _ => ⟨fun h => (by cases h), fun h => (by cases h)⟩
  | _ :: _, [] => ⟨fun h => (by cases h), fun h => (by cases h)⟩
  | v :: vs, x :: xs => by
    rw [List.map_cons, List.map_cons]
    constructor
    · intro h
      cases h with
      | cons r t => rw [KeyS.rpg.mp r, keys_rps.mp t]
    · intro h
      rw [List.cons.injEq] at h
      exact .cons (KeyS.rpg.mpr h.1) (keys_rps.mpr h.2)
instance {α : Type} [Rp α] [KeyS α] : KeyT (Tp α) := ⟨fun x => x.l.map KeyS.g, fun x y h => by
  cases x; cases y
  congr 1
  rename_i a b
  have : ∀ a b : List α, a.map KeyS.g = b.map KeyS.g → a = b := by
    intro a
    induction a with
    | nil => intro b h; cases b with
      | nil => rfl
      | cons _ _ => cases h
    | cons x r ih => intro b h; cases b with
      | nil => cases h
      | cons y s =>
        rw [List.map_cons, List.map_cons, List.cons.injEq] at h
        rw [KeyS.inj _ _ h.1, ih _ h.2]
  exact this a b h, by
  intro K F v k
  constructor
  · rintro ⟨b, vs, e, q, r⟩
    exact ⟨b, e, by rw [← keys_rps.mp r]; exact q⟩
  · rintro ⟨b, e, q⟩
    exact ⟨b, _, e, q, keys_rps.mpr rfl⟩⟩
/-! ### dicts as things -/
instance {κ ν : Type} [Rp κ] [DecidableEq κ] [DKey κ] [Rp ν] : Rp (Dct κ ν) := ⟨fun K F v d => ∃ a o kvs, v = .ref a ∧ F a = some (.frz o (DKey.hob kvs)) ∧ KR K F kvs d.l, fun s ⟨a, o, kvs, e, q, r⟩ => ⟨a, o, kvs, e, s _ _ q, r.mono s⟩⟩
instance {κ ν : Type} [Rp κ] [DecidableEq κ] [DKey κ] [Rp ν] : Ob (Dct κ ν) := ⟨fun K F o d => ∃ kvs, o = DKey.hob kvs ∧ KR K F kvs d.l, fun s ⟨kvs, e, r⟩ => ⟨kvs, e, r.mono s⟩, fun ⟨kvs, e, r⟩ => e ▸ DKey.mu kvs, fun ⟨kvs, e, r⟩ => e ▸ DKey.ls kvs,
  fun {K F o x l od} h ⟨kvs, e, r⟩ => ⟨l, od, kvs, rfl, e ▸ h, r⟩⟩
instance {κ ν : Type} [Rp κ] [DecidableEq κ] [DKey κ] [Rp ν] : NN (Dct κ ν) := ⟨fun ⟨_, _, _, e, _⟩ => nomatch e⟩
instance {κ ν : Type} [Rp κ] [DecidableEq κ] [DKey κ] [Rp ν] : Kd (Dct κ ν) := ⟨"dict", fun s ⟨a, o, kvs, e, q, r⟩ => e ▸ DKey.kd (.inr ⟨o, s _ _ q⟩)⟩
section
variable {κ ν : Type} [Rp κ] [DecidableEq κ] [DKey κ] [Rp ν]
variable {X : Cx} {K : PySem.W.Frag} {e a b c d : Expr} {es : List Expr} {σ : L2.St} {F H F0 H0 : Hp} {pos : Pos} {D : Ends} {st : Stmt} {rest body : List Stmt}
abbrev Dct.look (d : Dct κ ν) (k : κ) : Option ν := kvLook d.l k
abbrev Dct.put (d : Dct κ ν) (k : κ) (v : ν) : Dct κ ν := ⟨kvPut d.l k v⟩
abbrev Dct.drop (d : Dct κ ν) (k : κ) : Dct κ ν := ⟨kvDrop d.l k⟩
theorem en_dict : EvN X (.Dict [] [] pos) σ F H (Dct.mk ([] : List (κ × ν))) := fun F1 H1 g Q q =>
  GoE.of DKey.new fun p hp => EvN.newO q (.refl g.fh) hp ⟨[], rfl, .nil⟩
theorem ev_dget {m : Dct κ ν} {k : κ} {r : ν} (hu : X.A.units + 1 < cLine) (ha : Ev X a σ F H m) (hb : Ev X b σ F H k) (h : m.look k = some r) (hs : NoSl b := by exact fun _ _ => rfl) : Ev X (.Subscript a b pos) σ F H r := fun F1 H1 g Q q =>
  GoE.of (pe_dget hu pe_go pe_go hs) (ha F1 H1 g _ fun v F2 H2 g2 r2 => hb F2 H2 (g.trans g2) _ fun w F3 H3 g3 r3 => by
    obtain ⟨p, o, kvs, e, hq, kr⟩ := Rp.mono g3.ff r2
    rcases kr.look k with ⟨_, h2⟩ | ⟨v', x, h1, h2, h3⟩
    · rw [Dct.look, h2] at h; cases h
    · rw [Dct.look, h2] at h
      cases h
      exact ⟨p, v', e, h1 ▸ DKey.get g3.fh r3 (.inr ⟨o, g3.fh _ _ hq⟩), q v' F3 H3 (g2.trans g3) h3⟩)
theorem ev_din {m : Dct κ ν} {k : κ} (hu : X.A.units + 1 < cLine) (ha : Ev X a σ F H k) (hb : Ev X b σ F H m) (hmk : behindInMarks .In b = false := by rfl) : Ev X (.Compare a [.In] [b] pos) σ F H (m.look k).isSome := fun F1 H1 g Q q =>
  GoE.of (pe_cmp (pc_din hu pe_go pe_go) hmk) (ha F1 H1 g _ fun v F2 H2 g2 r2 => hb F2 H2 (g.trans g2) _ fun w F3 H3 g3 r3 => by
    obtain ⟨p, o, kvs, e, hq, kr⟩ := r3
    refine ⟨p, kvLook kvs k, e, DKey.get g3.fh (Rp.mono g3.ff r2) (.inr ⟨o, g3.fh _ _ hq⟩), q _ F3 H3 (g2.trans g3) ?_⟩
    rcases kr.look k with ⟨h1, h2⟩ | ⟨v', x, h1, h2, h3⟩ <;> (show V.bl _ = V.bl _) <;> rw [Dct.look, h1, h2] <;> rfl)
theorem et_din {m : Dct κ ν} {k : κ} (hu : X.A.units + 1 < cLine) (ha : Ev X a σ F H k) (hb : Ev X b σ F H m) (hmk : behindInMarks .In b = false := by rfl) : EvT X (.Compare a [.In] [b] pos) σ F H (m.look k).isSome := fun F1 H1 g Q q =>
  GoT.of (pt_cmp (pc_din hu pe_go pe_go) hmk) (ha F1 H1 g _ fun v F2 H2 g2 r2 => hb F2 H2 (g.trans g2) _ fun w F3 H3 g3 r3 => by
    obtain ⟨p, o, kvs, e, hq, kr⟩ := r3
    refine ⟨p, kvLook kvs k, e, DKey.get g3.fh (Rp.mono g3.ff r2) (.inr ⟨o, g3.fh _ _ hq⟩), (m.look k).isSome, ?_, q F3 H3 (g2.trans g3)⟩
    rcases kr.look k with ⟨h1, h2⟩ | ⟨v', x, h1, h2, h3⟩ <;> (show V.bl _ = V.bl _) <;> rw [Dct.look, h1, h2] <;> rfl)
theorem ev_dnotin {m : Dct κ ν} {k : κ} (hu : X.A.units + 1 < cLine) (ha : Ev X a σ F H k) (hb : Ev X b σ F H m) (hmk : behindInMarks .NotIn b = false := by rfl) : Ev X (.Compare a [.NotIn] [b] pos) σ F H (!(m.look k).isSome) := fun F1 H1 g Q q =>
  GoE.of (pe_cmp (pc_dnotin hu pe_go pe_go) hmk) (ha F1 H1 g _ fun v F2 H2 g2 r2 => hb F2 H2 (g.trans g2) _ fun w F3 H3 g3 r3 => by
    obtain ⟨p, o, kvs, e, hq, kr⟩ := r3
    refine ⟨p, kvLook kvs k, e, DKey.get g3.fh (Rp.mono g3.ff r2) (.inr ⟨o, g3.fh _ _ hq⟩), q _ F3 H3 (g2.trans g3) ?_⟩
    rcases kr.look k with ⟨h1, h2⟩ | ⟨v', x, h1, h2, h3⟩ <;> (show V.bl _ = V.bl _) <;> rw [Dct.look, h1, h2] <;> rfl)
theorem et_dnotin {m : Dct κ ν} {k : κ} (hu : X.A.units + 1 < cLine) (ha : Ev X a σ F H k) (hb : Ev X b σ F H m) (hmk : behindInMarks .NotIn b = false := by rfl) : EvT X (.Compare a [.NotIn] [b] pos) σ F H (!(m.look k).isSome) := fun F1 H1 g Q q =>
  GoT.of (pt_cmp (pc_dnotin hu pe_go pe_go) hmk) (ha F1 H1 g _ fun v F2 H2 g2 r2 => hb F2 H2 (g.trans g2) _ fun w F3 H3 g3 r3 => by
    obtain ⟨p, o, kvs, e, hq, kr⟩ := r3
    refine ⟨p, kvLook kvs k, e, DKey.get g3.fh (Rp.mono g3.ff r2) (.inr ⟨o, g3.fh _ _ hq⟩), !(m.look k).isSome, ?_, q F3 H3 (g2.trans g3)⟩
    rcases kr.look k with ⟨h1, h2⟩ | ⟨v', x, h1, h2, h3⟩ <;> (show V.bl _ = V.bl _) <;> rw [Dct.look, h1, h2] <;> rfl)
theorem ev_dget1 [NN ν] {m : Dct κ ν} {k : κ} {apos : Pos} (hu : X.A.units + 1 < cLine) (ha : Ev X a σ F H m) (hb : Ev X b σ F H k) (hm : M1 X a "get" apos b pos := by exact ⟨rfl, rfl, rfl, rfl⟩) : Ev X (.Call (.Attribute a "get" apos) [b] [] pos) σ F H (m.look k) := fun F1 H1 g Q q =>
  GoE.of (pe_dget1 hu pe_go pe_go hm) (ha F1 H1 g _ fun v F2 H2 g2 r2 => by
    obtain ⟨p, o, kvs, e, hq, kr⟩ := id r2
    refine ⟨p, e, DKey.isD (.inr ⟨o, g2.fh _ _ hq⟩), hb F2 H2 (g.trans g2) _ fun w F3 H3 g3 r3 => ⟨kvLook kvs k, DKey.get g3.fh r3 (.inr ⟨o, g3.fh _ _ (g3.ff _ _ hq)⟩), q _ F3 H3 (g2.trans g3) ?_⟩⟩
    rcases kr.look k with ⟨h1, h2⟩ | ⟨v', x, h1, h2, h3⟩
    · rw [Dct.look, h1, h2]; rfl
    · rw [Dct.look, h1, h2]; exact Rp.mono (α := ν) g3.ff h3)
theorem ev_dget2 {m : Dct κ ν} {k : κ} {z : ν} {apos : Pos} (hu : X.A.units + 1 < cLine) (ha : Ev X a σ F H m) (hb : Ev X b σ F H k) (hc : Ev X c σ F H z) (hm : M2 X a "get" apos b c pos := by exact ⟨rfl, rfl, rfl, rfl⟩) : Ev X (.Call (.Attribute a "get" apos) [b, c] [] pos) σ F H ((m.look k).getD z) := fun F1 H1 g Q q =>
  GoE.of (pe_dget2 hu pe_go pe_go pe_go hm) (ha F1 H1 g _ fun v F2 H2 g2 r2 => by
    obtain ⟨p, o, kvs, e, hq, kr⟩ := id r2
    refine ⟨p, e, DKey.isD (.inr ⟨o, g2.fh _ _ hq⟩), hb F2 H2 (g.trans g2) _ fun w F3 H3 g3 r3 => hc F3 H3 ((g.trans g2).trans g3) _ fun u F4 H4 g4 r4 => ⟨kvLook kvs k, DKey.get g4.fh (Rp.mono g4.ff r3) (.inr ⟨o, g4.fh _ _ (g4.ff _ _ (g3.ff _ _ hq))⟩), q _ F4 H4 ((g2.trans g3).trans g4) ?_⟩⟩
    rcases kr.look k with ⟨h1, h2⟩ | ⟨v', x, h1, h2, h3⟩
    · rw [Dct.look, h1, h2]; exact r4
    · rw [Dct.look, h1, h2]; exact Rp.mono (α := ν) (g3.ff.trans g4.ff) h3)
/-- d[k] = v, d a private dict -/
def dputG (m : Dct κ ν) (k : κ) (v : ν) : Option (Dct κ ν) := if m.l.length < sizeLine then some (m.put k v) else none
theorem dputG_of {m r : Dct κ ν} {k : κ} {v : ν} (h : dputG m k v = some r) : m.l.length < sizeLine ∧ m.put k v = r := by
  unfold dputG at h; split at h
  · exact ⟨by assumption, Option.some.inj h⟩
  · cases h
theorem go_dput {m r : Dct κ ν} {k : κ} {x : ν} {l : Addr} {n : Str} {p1 p2 : Pos} (i : Nat) (s : SmX X.K F H) (hu : X.A.units + 1 < cLine) (o : Own X.K H0 F H l m) (hσ : σ[i]? = some (some (.ref l))) (hv : Ev X e σ F H x) (hk : Ev X b σ F H k) (h : dputG m k x = some r)
    (q : ∀ u F' H', Gr F H F' H' → PlAt H' l → F' l = none → Own X.K H0 F' (upd H' l u) l r → GoS X rest D σ (upd H' l u)) (hN : X.N[i]? = some n := by rfl) (hvis : Vis X.env.scope n := by first | exact Or.inl rfl | exact Or.inr (Or.inl rfl) | exact Or.inr (Or.inr rfl))
    (hd : (n == ("__debug__" : Str)) = false := by decide) (hcd : (n == ("__classdict__" : Str)) = false := by decide) (hs : NoSl b := by exact fun _ _ => rfl) (hsw : swapsWith e (some (.Subscript (.Name n p1) b p2)) pos.line X.env = pure false := by rfl) :
    GoS X (.Assign [.Subscript (.Name n p1) b p2] e pos :: rest) D σ H := by
  obtain ⟨hl, rfl⟩ := dputG_of h
  refine GoS.cons (ps_dput hu (pe_var hN hvis hd hcd) pe_go pe_go hsw) (hv F H (.refl s) _ fun v F2 H2 g2 r2 => ⟨_, hσ, hk F2 H2 (s.gx g2) _ fun w F3 H3 g3 r3 => ?_⟩)
  have o3 := (o.up g2).up g3
  obtain ⟨_, h3, kvs, rfl, kr⟩ := o3.h
  have hlen : kvs.length = m.l.length := Paired.length kr
  exact ⟨l, _, rfl, DKey.put g3.fh r3 h3 (by rw [hlen]; exact hl), q _ F3 H3 (g2.trans g3) o3.pl o3.f (Own.set o3.n o3.f ⟨_, rfl, kr.put (Rp.mono g3.ff r2)⟩)⟩
end
end Gx

/-! Gg: dicts, further. -/
namespace Gx
open PySem PySem.Spec PyProof.Rows L2
open Rp (rp)
open Ra (ra)
open Ob (ob)
theorem KR.fl {κ ν : Type} [Rp ν] [Flat ν] {K : PySem.W.Frag} {F : Hp} {l : Addr} {kvs : List (κ × V)} {m : List (κ × ν)} (h1 : ∀ xs, ¬ F l = some (.tup xs)) (h2 : ∀ o xs, ¬ F l = some (.frz o (.tup xs))) (h : KR K F kvs m) : KR K (er F l) kvs m := Paired.mapP h fun _ _ ⟨e, r⟩ => ⟨e, Flat.fl h1 h2 r⟩
instance {κ ν : Type} [Rp κ] [DecidableEq κ] [DKey κ] [Rp ν] [Flat ν] : FlatO (Dct κ ν) := ⟨fun h1 h2 ⟨kvs, e, r⟩ => ⟨kvs, e, KR.fl h1 h2 r⟩⟩
instance {α : Type} [Rp α] [Flat α] : Flat (Tn α) := ⟨fun {K F l v x} h1 h2 ⟨a, vs, o, e, q, d, c, r⟩ => ⟨a, vs, o, e, by unfold er; rw [if_neg (show ¬ a = l from fun z => h2 o vs (z ▸ q))]; exact q, d, c, Rps.fl h1 h2 r⟩⟩
instance {α : Type} [Rp α] [Pd α] : Pd (Tn α) := ⟨fun xs => .tuple (xs.l.map Pd.toD), fun ⟨a, vs, o, e, sq, _, _, rs⟩ => e ▸ .tup (.inl (.inr ⟨o, sq⟩)) (Dp.all rs), fun x y => by
  rw [PyData.eqv]
  cases x; cases y
  rw [eqvAll_iff, Tn.mk.injEq]⟩
instance {α : Type} [Rp α] [Pd α] [PdS α] : PdS (Tn α) := ⟨PdS.dep α + 1, fun x => by
  show (PyData.depthAll (x.l.map Pd.toD)) + 1 ≤ _
  exact Nat.succ_le_succ (dpAll_le x.l)⟩
instance {α : Type} [Rp α] [Pd α] [PdF α] : PdF (Tn α) := ⟨fun x => layAll fun y _ => PdF.ok y⟩
section
variable {κ ν : Type} [Rp κ] [DecidableEq κ] [Rp ν]
variable {X : Cx} {K : PySem.W.Frag} {e a b c d : Expr} {es : List Expr} {σ : L2.St} {F H F0 H0 : Hp} {pos : Pos} {D : Ends} {st : Stmt} {rest body : List Stmt}
def Dct.keys (m : Dct κ ν) : List κ := m.l.map (·.1)
def Dct.vals (m : Dct κ ν) : List ν := m.l.map (·.2)
def Dct.items (m : Dct κ ν) : List (T2 κ ν) := m.l.map fun p => ⟨p.1, p.2⟩
theorem KR.get : ∀ {kvs : List (κ × V)} {l : List (κ × ν)} {i : Nat} {p : κ × ν}, KR K F kvs l → l[i]? = some p → ∃ v, kvs[i]? = some (p.1, v) ∧ rp K F v p.2
  | _, _, _, _, .nil, h => by simp at h
  | _, _, 0, p, .cons (a := q) ⟨e, r⟩ _, h => by
    simp at h; subst h
    exact ⟨q.2, by rw [← e]; simp, r⟩
  | _, _, i + 1, p, .cons _ t, h => by
    obtain ⟨v, h1, h2⟩ := KR.get t (by simpa using h)
    exact ⟨v, by simpa using h1, h2⟩
theorem same_tup {q : Addr} {xs : List V} (s : L2.Same F H) (h : H q = some (.tup xs)) : ∃ F', Gr F H F' H ∧ F' q = some (.tup xs) := by
  cases e : F q with
  | some u =>
    have := s _ _ e
    rw [h] at this; cases this
    exact ⟨F, .refl s, e⟩
  | none =>
    refine ⟨upd F q (.tup xs), ⟨same_upd e, fun b u z => ?_, .refl _, fun x o hx n => ?_⟩, upd_same⟩
    · by_cases hb : b = q
      · subst hb; rw [upd_same] at z; cases z; exact h
      · rw [upd_ne hb] at z; exact s _ _ z
    · by_cases hb : x = q
      · subst hb; rw [h] at hx; cases hx; exact n.elim
      · rw [upd_ne hb]
theorem ei_keysS [KeyS κ] {m : Dct κ ν} {tg : Expr} (h : Ev X e σ F H m) : EvI X tg e σ F H m.keys := fun F1 H1 g R q =>
  GoI.of (pi_keys pe_go) (h F1 H1 g _ fun v F2 H2 g2 r2 => by
    obtain ⟨p, o, kvs, e, hq, kr⟩ := r2
    refine ⟨p, o, e, .inl ⟨_, g2.fh _ _ hq, q _ F2 H2 g2 fun i Fi Hi s1 s2 => ?_⟩⟩
    have hd := s2 _ _ (s1 _ _ hq)
    have hl : kvs.length = m.l.length := Paired.length kr
    refine ⟨fun x hx => ?_, fun e => ⟨hd, by rw [e, kvm_len, hl, Dct.keys, List.length_map]; exact Nat.le_refl _⟩⟩
    rw [Dct.keys, List.getElem?_map] at hx
    obtain ⟨pr, hpr, rfl⟩ := Option.map_eq_some_iff.mp hx
    obtain ⟨w, hw, _⟩ := kr.get hpr
    have hk : (kvm KeyS.g kvs)[i]? = some (KeyS.g pr.1, w) := by rw [kvm, List.getElem?_map, hw]; rfl
    refine ⟨⟨hd, (List.getElem?_eq_some_iff.mp hk).1⟩, fun v H' ⟨e1, k, v', e2, e3⟩ => ?_⟩
    subst e1
    rw [hk] at e2; cases e2
    exact ⟨Fi, .refl s2, KeyS.rpg.mpr e3⟩)
theorem ei_keysT [KeyT κ] {m : Dct κ ν} {tg : Expr} (h : Ev X e σ F H m) : EvI X tg e σ F H m.keys := fun F1 H1 g R q =>
  GoI.of (pi_keys pe_go) (h F1 H1 g _ fun v F2 H2 g2 r2 => by
    obtain ⟨p, o, kvs, e, hq, kr⟩ := r2
    refine ⟨p, o, e, .inr ⟨_, g2.fh _ _ hq, q _ F2 H2 g2 fun i Fi Hi s1 s2 => ?_⟩⟩
    have hd := s2 _ _ (s1 _ _ hq)
    have hl : kvs.length = m.l.length := Paired.length kr
    refine ⟨fun x hx => ?_, fun e => ⟨hd, by rw [e, kvm_len, hl, Dct.keys, List.length_map]; exact Nat.le_refl _⟩⟩
    rw [Dct.keys, List.getElem?_map] at hx
    obtain ⟨pr, hpr, rfl⟩ := Option.map_eq_some_iff.mp hx
    obtain ⟨w, hw, _⟩ := kr.get hpr
    have hk : (kvm KeyT.g kvs)[i]? = some (KeyT.g pr.1, w) := by rw [kvm, List.getElem?_map, hw]; rfl
    refine ⟨⟨hd, (List.getElem?_eq_some_iff.mp hk).1⟩, fun v H' ⟨e1, k, v', qa, e2, e3, e4⟩ => ?_⟩
    subst e1
    rw [hk] at e2; cases e2
    obtain ⟨F', g', hF⟩ := same_tup s2 e4
    exact ⟨F', g', KeyT.rpg.mpr ⟨qa, e3, hF⟩⟩)
theorem ei_vals [KeyS κ] {m : Dct κ ν} {tg : Expr} {apos : Pos} (h : Ev X e σ F H m) (hbase : attributeBase e "values" X.env (eval e X.env) = eval e X.env := by rfl) (hline : (apos.endLine == pos.line) = true := by rfl) : EvI X tg (.Call (.Attribute e "values" apos) [] [] pos) σ F H m.vals := fun F1 H1 g R q =>
  GoI.of (pi_values pe_go hbase hline) (h F1 H1 g _ fun v F2 H2 g2 r2 => by
    obtain ⟨p, o, kvs, e, hq, kr⟩ := r2
    refine ⟨p, o, _, e, g2.fh _ _ hq, q _ F2 H2 g2 fun i Fi Hi s1 s2 => ?_⟩
    have hd := s2 _ _ (s1 _ _ hq)
    have hl : kvs.length = m.l.length := Paired.length kr
    refine ⟨fun x hx => ?_, fun e => ⟨hd, by rw [e, kvm_len, hl, Dct.vals, List.length_map]; exact Nat.le_refl _⟩⟩
    rw [Dct.vals, List.getElem?_map] at hx
    obtain ⟨pr, hpr, rfl⟩ := Option.map_eq_some_iff.mp hx
    obtain ⟨w, hw, rw'⟩ := kr.get hpr
    have hk : (kvm KeyS.g kvs)[i]? = some (KeyS.g pr.1, w) := by rw [kvm, List.getElem?_map, hw]; rfl
    refine ⟨⟨hd, (List.getElem?_eq_some_iff.mp hk).1⟩, fun v H' ⟨e1, k, e2⟩ => ?_⟩
    subst e1
    rw [hk] at e2; cases e2
    exact ⟨Fi, .refl s2, Rp.mono s1 rw'⟩)
theorem ei_items [KeyS κ] {m : Dct κ ν} {apos tpos : Pos} {elts : List Expr} {kk : Nat} (h : Ev X e σ F H m) (hbase : attributeBase e "items" X.env (eval e X.env) = eval e X.env := by rfl) (hline : (apos.endLine == pos.line) = true := by rfl) : EvI X (.Tuple elts kk tpos) (.Call (.Attribute e "items" apos) [] [] pos) σ F H m.items := fun F1 H1 g R q =>
  GoI.of (pi_items pe_go hbase hline) (h F1 H1 g _ fun v F2 H2 g2 r2 => by
    obtain ⟨p, o, kvs, e, hq, kr⟩ := r2
    refine ⟨p, o, _, e, g2.fh _ _ hq, q _ F2 H2 g2 fun i Fi Hi s1 s2 => ?_⟩
    have hd := s2 _ _ (s1 _ _ hq)
    have hl : kvs.length = m.l.length := Paired.length kr
    refine ⟨fun x hx => ?_, fun e => ⟨hd, by rw [e, kvm_len, hl, Dct.items, List.length_map]; exact Nat.le_refl _⟩⟩
    rw [Dct.items, List.getElem?_map] at hx
    obtain ⟨pr, hpr, rfl⟩ := Option.map_eq_some_iff.mp hx
    obtain ⟨w, hw, rw'⟩ := kr.get hpr
    have hk : (kvm KeyS.g kvs)[i]? = some (KeyS.g pr.1, w) := by rw [kvm, List.getElem?_map, hw]; rfl
    refine ⟨⟨hd, (List.getElem?_eq_some_iff.mp hk).1⟩, fun v H' ⟨T, k, v', e2, e3, e4, e5⟩ => ?_⟩
    subst e3; subst e5
    rw [hk] at e2; cases e2
    exact pair_new s2 e4 (KeyS.rpg.mpr rfl) (Rp.mono s1 rw'))
theorem en_dictOf [KeyS κ] {m : Dct κ ν} {p : Pos} (hm : X.mg "dict" = none) (ha : Ev X a σ F H m) (hg : Gl X "dict" := by rfl) (hs : starEach [a] X.env = (false, eval a X.env) :: starEach [] X.env := by rfl) (hpl : (backTo pos (starEach [] X.env)).any (·.1) = false := by rfl) :
    EvN X (.Call (.Name "dict" p) [a] [] pos) σ F H m := fun F1 H1 g Q q =>
  GoE.of (pe_callTy call_dictD hg hm (by decide +kernel) (pa_cons pe_go pa_nil hs) (by decide) (by decide) hs hpl) (ha F1 H1 g _ fun v F2 H2 g2 r2 => by
    obtain ⟨p, o, kvs, e, hq, kr⟩ := r2
    exact ⟨p, _, by rw [e], .inr ⟨o, g2.fh _ _ hq⟩, fun p' hp => EvN.newO q g2 hp ⟨kvs, rfl, kr⟩⟩)
/-! ### dicts that are equal -/
def rEqR : R2 := fun x y H Q => ∃ a b ks ls, x = .ref a ∧ y = .ref b ∧ Rd H a (.dK ks) ∧ Rd H b (.dK ls) ∧ ks.length = ls.length ∧ (∀ p ∈ ks, valV ls p.1 = some p.2 ∧ flatB p.2 = true) ∧ Q (.bl true) H
def rNeR : R2 := fun x y H Q => ∃ a b ks ls, x = .ref a ∧ y = .ref b ∧ Rd H a (.dK ks) ∧ Rd H b (.dK ls) ∧ ks.length = ls.length ∧ (∀ p ∈ ks, valV ls p.1 = some p.2 ∧ flatB p.2 = true) ∧ Q (.bl false) H
theorem op_eqR (hu : X.A.units < cLine) : OpR X (compareOp .Eq) rEqR := fun pins s σ H x y v u Q I rx ry h => by
  obtain ⟨a, b, ks, ls, rfl, rfl, ea, eb, hlen, hp, q⟩ := h
  cases rx; cases ry
  obtain ⟨_, n1, m1, r1, d1⟩ := ea.ok I.hok
  obtain ⟨_, n2, m2, r2, d2⟩ := eb.ok I.hok
  have e : m1.length = m2.length := by rw [← Paired.length r1, ← Paired.length r2]; exact hlen
  exact PySem.W.keq_eq (knd := mixKind X.prog X.w) (r := true) n1 n2 d1 d2 hu (fun _ => hits_all r2 r1 hp) (fin_bl I q (by simp [e]))
theorem op_neR (hu : X.A.units < cLine) : OpR X (compareOp .NotEq) rNeR := fun pins s σ H x y v u Q I rx ry h => by
  obtain ⟨a, b, ks, ls, rfl, rfl, ea, eb, hlen, hp, q⟩ := h
  cases rx; cases ry
  obtain ⟨_, n1, m1, r1, d1⟩ := ea.ok I.hok
  obtain ⟨_, n2, m2, r2, d2⟩ := eb.ok I.hok
  have e : m1.length = m2.length := by rw [← Paired.length r1, ← Paired.length r2]; exact hlen
  exact PySem.W.keq_ne (knd := mixKind X.prog X.w) (r := true) n1 n2 d1 d2 hu (fun _ => hits_all r2 r1 hp) (fin_bl I q (by simp [e]))
theorem flat_kV (k : Key) : flatB (kV k) = true := by cases k <;> rfl
variable [KeyS κ] [KeyS ν] [DecidableEq ν]
def Dct.alike (m n : Dct κ ν) : Prop := m.l.length = n.l.length ∧ ∀ p ∈ m.l, kvLook n.l p.1 = some p.2
instance (m n : Dct κ ν) : Decidable (m.alike n) := inferInstanceAs (Decidable (_ ∧ _))
def deqG (m n : Dct κ ν) : Option Bool := if m.alike n then some true else none
theorem KR.mem {kvs : List (κ × V)} {l : List (κ × ν)} {q : κ × V} (h : KR K F kvs l) (hq : q ∈ kvs) : ∃ p ∈ l, p.1 = q.1 ∧ rp K F q.2 p.2 := by
  induction h with
  | nil => cases hq
  | cons r t ih =>
    rcases List.mem_cons.mp hq with e | hq
    · subst e; exact ⟨_, List.mem_cons_self, r.1.symm, r.2⟩
    · obtain ⟨p, h1, h2⟩ := ih hq
      exact ⟨p, List.mem_cons_of_mem _ h1, h2⟩
theorem alike_vals {m n : Dct κ ν} {ks ls : List (κ × V)} (h : m.alike n) (h1 : KR K F ks m.l) (h2 : KR K F ls n.l) : ∀ p ∈ kvm KeyS.g ks, valV (kvm KeyS.g ls) p.1 = some p.2 ∧ flatB p.2 = true := fun p hp => by
  obtain ⟨q, hq, rfl⟩ := List.mem_map.mp hp
  obtain ⟨r, hr, e, hv⟩ := h1.mem hq
  have h3 := h.2 r hr
  rw [kvm_val KeyS.inj]
  rcases h2.look q.1 with ⟨_, h5⟩ | ⟨v, x, h4, h5, h6⟩
  · rw [e] at h3; rw [h5] at h3; cases h3
  · rw [e] at h3; rw [h5] at h3; cases h3
    rw [h4]
    have e1 := KeyS.rpg.mp h6
    have e2 := KeyS.rpg.mp hv
    refine ⟨?_, ?_⟩
    · show some v = some q.2
      rw [e1, e2]
    · show flatB q.2 = true
      rw [e2]; exact flat_kV _
theorem o2_eqR {m n : Dct κ ν} {r : Bool} (h : deqG m n = some r) : Op2 K rEqR m n r := fun F H v w Q s rv rw' k => by
  unfold deqG at h
  split at h
  case isFalse => cases h
  rename_i ha
  obtain ⟨a, o, ks, e, hq, kr⟩ := rv
  obtain ⟨a', o', ls, e', hq', kr'⟩ := rw'
  have l1 : ks.length = m.l.length := Paired.length kr
  have l2 : ls.length = n.l.length := Paired.length kr'
  exact ⟨a, a', _, _, e, e', .inr ⟨o, s _ _ hq⟩, .inr ⟨o', s _ _ hq'⟩, by rw [kvm_len, kvm_len, l1, l2]; exact ha.1, alike_vals ha kr kr', k _ F H (.refl s) (congrArg V.bl (Option.some.inj h))⟩
theorem o2_neR {m n : Dct κ ν} {r : Bool} (h : deqG m n = some r) : Op2 K rNeR m n (!r) := fun F H v w Q s rv rw' k => by
  unfold deqG at h
  split at h
  case isFalse => cases h
  rename_i ha
  obtain ⟨a, o, ks, e, hq, kr⟩ := rv
  obtain ⟨a', o', ls, e', hq', kr'⟩ := rw'
  have l1 : ks.length = m.l.length := Paired.length kr
  have l2 : ls.length = n.l.length := Paired.length kr'
  exact ⟨a, a', _, _, e, e', .inr ⟨o, s _ _ hq⟩, .inr ⟨o', s _ _ hq'⟩, by rw [kvm_len, kvm_len, l1, l2]; exact ha.1, alike_vals ha kr kr', k _ F H (.refl s) (congrArg (fun t => V.bl (!t)) (Option.some.inj h))⟩
end
section
theorem room1 {k : Nat} {A : Around} (r : Room k A) : A.units + 1 < cLine := by have := r.un; omega
theorem room65 {k : Nat} {A : Around} (r : Room k A) : A.units + 65 < cLine := by have := r.un; omega
variable {α : Type} [Rp α] {X : Cx} {K : PySem.W.Frag} {e a b c d : Expr} {es : List Expr} {σ : L2.St} {F H F0 H0 : Hp} {pos : Pos}
theorem Ev.re {β : Type} [Rp β] {x : α} {y : β} (h : Ev X e σ F H x) (f : ∀ (F : Hp) (v : V), rp X.K F v x → rp X.K F v y) : Ev X e σ F H y := fun F1 H1 g Q q => h F1 H1 g Q fun v F2 H2 g2 r => q v F2 H2 g2 (f _ _ r)
theorem tp1 {F : Hp} {v : V} {x : T1 α} (h : rp K F v x) : rp K F v (Tp.mk [x.a]) := by
  obtain ⟨p, vs, e, q, v1, w1, e1, r1, e2⟩ := h
  have e2 : w1 = [] := e2
  subst e2; subst e1
  exact ⟨p, _, e, q, .cons r1 .nil⟩
theorem tp2 {F : Hp} {v : V} {x : T2 α α} (h : rp K F v x) : rp K F v (Tp.mk [x.a, x.b]) := by
  obtain ⟨p, vs, e, q, v1, w1, e1, r1, v2, w2, e2, r2, e3⟩ := h
  have e3 : w2 = [] := e3
  subst e3; subst e2; subst e1
  exact ⟨p, _, e, q, .cons r1 (.cons r2 .nil)⟩
theorem tp3 {F : Hp} {v : V} {x : T3 α α α} (h : rp K F v x) : rp K F v (Tp.mk [x.a, x.b, x.c]) := by
  obtain ⟨p, vs, e, q, v1, w1, e1, r1, v2, w2, e2, r2, v3, w3, e3, r3, e4⟩ := h
  have e4 : w3 = [] := e4
  subst e4; subst e3; subst e2; subst e1
  exact ⟨p, _, e, q, .cons r1 (.cons r2 (.cons r3 .nil))⟩
theorem tp4 {F : Hp} {v : V} {x : T4 α α α α} (h : rp K F v x) : rp K F v (Tp.mk [x.a, x.b, x.c, x.d]) := by
  obtain ⟨p, vs, e, q, v1, w1, e1, r1, v2, w2, e2, r2, v3, w3, e3, r3, v4, w4, e4, r4, e5⟩ := h
  have e5 : w4 = [] := e5
  subst e5; subst e4; subst e3; subst e2; subst e1
  exact ⟨p, _, e, q, .cons r1 (.cons r2 (.cons r3 (.cons r4 .nil)))⟩
theorem tp5 {F : Hp} {v : V} {x : T5 α α α α α} (h : rp K F v x) : rp K F v (Tp.mk [x.a, x.b, x.c, x.d, x.e]) := by
  obtain ⟨p, vs, e, q, v1, w1, e1, r1, v2, w2, e2, r2, v3, w3, e3, r3, v4, w4, e4, r4, v5, w5, e5, r5, e6⟩ := h
  have e6 : w5 = [] := e6
  subst e6; subst e5; subst e4; subst e3; subst e2; subst e1
  exact ⟨p, _, e, q, .cons r1 (.cons r2 (.cons r3 (.cons r4 (.cons r5 .nil))))⟩
theorem Ev.tp1 {x : T1 α} (h : Ev X e σ F H x) : Ev X e σ F H (Tp.mk [x.a]) := h.re fun _ _ => Gx.tp1
theorem Ev.tp2 {x : T2 α α} (h : Ev X e σ F H x) : Ev X e σ F H (Tp.mk [x.a, x.b]) := h.re fun _ _ => Gx.tp2
theorem Ev.tp3 {x : T3 α α α} (h : Ev X e σ F H x) : Ev X e σ F H (Tp.mk [x.a, x.b, x.c]) := h.re fun _ _ => Gx.tp3
theorem Ev.tp4 {x : T4 α α α α} (h : Ev X e σ F H x) : Ev X e σ F H (Tp.mk [x.a, x.b, x.c, x.d]) := h.re fun _ _ => Gx.tp4
theorem Ev.tp5 {x : T5 α α α α α} (h : Ev X e σ F H x) : Ev X e σ F H (Tp.mk [x.a, x.b, x.c, x.d, x.e]) := h.re fun _ _ => Gx.tp5
end
end Gx
namespace Gx
open PySem PySem.Spec PyProof.Rows L2
open Rp (rp)
open Ra (ra)
open Ob (ob)
section
variable {κ ν : Type} [Rp κ] [DecidableEq κ] [KeyS κ] [Rp ν]
variable {X : Cx} {K : PySem.W.Frag} {e a b c d : Expr} {σ : L2.St} {F H F0 H0 : Hp} {pos : Pos} {ks : List (Option Expr)} {vs : List Expr}
/-! ### displays of dicts -/
abbrev PR (K : PySem.W.Frag) (F : Hp) : List (V × V) → List (κ × ν) → Prop := Paired fun p q => rp K F p.1 q.1 ∧ rp K F p.2 q.2
theorem PR.mono {F' : Hp} {ps : List (V × V)} {l : List (κ × ν)} (s : L2.Same F F') (h : PR K F ps l) : PR K F' ps l := Paired.mapP h fun _ _ ⟨e, r⟩ => ⟨Rp.mono s e, Rp.mono s r⟩
def EvP (X : Cx) (pos : Pos) (ks : List (Option Expr)) (vs : List Expr) (σ : L2.St) (F H : Hp) (l : List (κ × ν)) : Prop := ∃ trs, PPs X pos ks vs trs ∧ ∀ F1 H1, GrX X.K F H F1 H1 → ∀ Q : List (V × V) → Hp → Prop, (∀ ps F2 H2, Gr F1 H1 F2 H2 → PR X.K F2 ps l → Q ps H2) → tPairs trs σ H1 Q
theorem ep_nil : EvP X pos [] [] σ F H ([] : List (κ × ν)) := ⟨[], pps_nil, fun F1 H1 g Q q => q [] F1 H1 (.refl g.fh) .nil⟩
theorem ep_cons {k : κ} {x : ν} {l : List (κ × ν)} (ha : Ev X a σ F H k) (hb : Ev X b σ F H x) (hr : EvP X pos ks vs σ F H l) : EvP X pos (some a :: ks) (b :: vs) σ F H ((k, x) :: l) := by
  obtain ⟨trs, h1, h2⟩ := hr
  exact ⟨_, pps_cons pe_go pe_go h1, fun F1 H1 g Q q => ha F1 H1 g _ fun v F2 H2 g2 r2 => hb F2 H2 (g.trans g2) _ fun w F3 H3 g3 r3 => h2 F3 H3 ((g.trans g2).trans g3) _ fun ps F4 H4 g4 r4 =>
    q _ F4 H4 ((g2.trans g3).trans g4) (.cons ⟨Rp.mono (g3.ff.trans g4.ff) r2, Rp.mono g4.ff r3⟩ r4)⟩
def kvMerge (l : List (κ × ν)) : List (κ × ν) := l.foldl (fun acc p => kvPut acc p.1 p.2) []
theorem pr_kv {ps : List (V × V)} {l : List (κ × ν)} (h : PR K F ps l) : ∃ ws : List (κ × V), KR K F ws l ∧ ps = (kvm KeyS.g ws).map fun kv => (kV kv.1, kv.2) := by
  induction h with
  | nil => exact ⟨[], .nil, rfl⟩
  | @cons p q ps l r t ih =>
    obtain ⟨ws, h1, h2⟩ := ih
    refine ⟨(q.1, p.2) :: ws, .cons ⟨rfl, r.2⟩ h1, ?_⟩
    rw [h2]
    show p :: _ = (kV (KeyS.g q.1), p.2) :: _
    rw [← KeyS.rpg.mp r.1]
theorem mergeK_kvm : ∀ (ws acc : List (κ × V)), mergeK (kvm KeyS.g acc) (kvm KeyS.g ws) = kvm KeyS.g (ws.foldl (fun acc p => kvPut acc p.1 p.2) acc)
  | [], acc => rfl
  | p :: r, acc => by
    rw [List.foldl_cons, ← mergeK_kvm r, ← kvm_put KeyS.inj]; rfl
theorem KR.merge : ∀ {ws : List (κ × V)} {l : List (κ × ν)} {acc : List (κ × V)} {acc' : List (κ × ν)}, KR K F ws l → KR K F acc acc' → KR K F (ws.foldl (fun acc p => kvPut acc p.1 p.2) acc) (l.foldl (fun acc p => kvPut acc p.1 p.2) acc')
  | _, _, _, _, .nil, h => h
  | _, _, _, _, .cons (a := p) (b := q) ⟨e, r⟩ t, h => by
    rw [List.foldl_cons, List.foldl_cons, e]
    exact KR.merge t (h.put r)
theorem en_disp {l : List (κ × ν)} (h : EvP X pos ks vs σ F H l) (h15 : l.length ≤ 15) (hall : ks.all (·.isSome) = true := by rfl) (hl : ks.length = vs.length := by rfl) (h0 : ks ≠ [] := by exact fun h => nomatch h) (hk : ks.length ≤ 15 := by decide) : EvN X (.Dict ks vs pos) σ F H (Dct.mk (kvMerge l)) := fun F1 H1 g Q q => by
  obtain ⟨trs, h1, h2⟩ := h
  refine GoE.of (pe_disp h1 hall hl h0 hk) fun p hp => ?_
  have gp := Gr.newP (o := .dK []) g.fh hp trivial
  refine h2 F1 _ (g.trans gp) _ fun ps F2 H2 g2 r2 => ?_
  obtain ⟨ws, k1, k2⟩ := pr_kv r2
  have hlen : ws.length = l.length := Paired.length k1
  have hp2 : H2 p = some (.dK []) := g2.hh.k _ _ upd_same trivial
  refine ⟨hp2, kvm KeyS.g ws, k2, by rw [kvm_len, hlen]; exact h15, ?_⟩
  have f2 : F2 p = none := (g2.fr p _ upd_same trivial).trans (g.fh.free hp)
  refine q p _ F2 _ ((gp.trans g2).poke hp f2 ⟨_, hp2, trivial⟩ (by unfold ntb; trivial)) hp f2 upd_same ⟨_, congrArg HO.dK (mergeK_kvm ws []), KR.merge k1 .nil⟩
end
end Gx
namespace Gx
open PySem PySem.Spec PyProof.Rows L2
open Rp (rp)
section
variable {X : Cx} {K : PySem.W.Frag} {a b : Expr} {σ : L2.St} {F H : Hp} {pos : Pos} {α : Type} [Rp α]
theorem ipos {α : Type} {c : Prop} [Decidable c] {x y r : α} (h : c) (e : (if c then x else y) = r) : x = r := by rw [if_pos h] at e; exact e
theorem ineg {α : Type} {c : Prop} [Decidable c] {x y r : α} (h : ¬ c) (e : (if c then x else y) = r) : y = r := by rw [if_neg h] at e; exact e
theorem btf {b : Bool} (h1 : b = true) (h2 : b = false) : False := by rw [h1] at h2; cases h2
theorem rp_of_some [NN α] {v : V} {x : α} (h : rp (α := Option α) K F v (some x)) : rp K F v x := h
variable [Pd α] [DecidableEq α]
theorem ev_eqD {x y : α} {r : Bool} (ha : Ev X a σ F H x) (hb : Ev X b σ F H y) (h : eqG x y = some r) (hu : X.A.units + 64 < cLine) : Ev X (.Compare a [.Eq] [b] pos) σ F H r := ev_cmp (op_eqD hu) (o2_eqD h) ha hb (nomark _)
theorem ev_neD {x y : α} {r : Bool} (ha : Ev X a σ F H x) (hb : Ev X b σ F H y) (h : eqG x y = some r) (hu : X.A.units + 64 < cLine) : Ev X (.Compare a [.NotEq] [b] pos) σ F H (!r) := ev_cmp (op_neD hu) (o2_neD h) ha hb (nomark _)
theorem et_eqD {x y : α} {r : Bool} (ha : Ev X a σ F H x) (hb : Ev X b σ F H y) (h : eqG x y = some r) (hu : X.A.units + 64 < cLine) : EvT X (.Compare a [.Eq] [b] pos) σ F H r := et_cmp (op_eqD hu) (o2_eqD h) ha hb (nomark _)
theorem et_neD {x y : α} {r : Bool} (ha : Ev X a σ F H x) (hb : Ev X b σ F H y) (h : eqG x y = some r) (hu : X.A.units + 64 < cLine) : EvT X (.Compare a [.NotEq] [b] pos) σ F H (!r) := et_cmp (op_neD hu) (o2_neD h) ha hb (nomark _)
theorem ev_inD {x : α} {y : List α} {r : Bool} (ha : Ev X a σ F H x) (hb : Ev X b σ F H y) (h : inG x y = some r) (hu : X.A.units + 65 < cLine) (hm : behindInMarks .In b = false := by rfl) : Ev X (.Compare a [.In] [b] pos) σ F H r := ev_cmp (op_inD hu) (o2_inD h) ha hb hm
theorem ev_notInD {x : α} {y : List α} {r : Bool} (ha : Ev X a σ F H x) (hb : Ev X b σ F H y) (h : inG x y = some r) (hu : X.A.units + 65 < cLine) (hm : behindInMarks .NotIn b = false := by rfl) : Ev X (.Compare a [.NotIn] [b] pos) σ F H (!r) := ev_cmp (op_notInD hu) (o2_notInD h) ha hb hm
theorem et_inD {x : α} {y : List α} {r : Bool} (ha : Ev X a σ F H x) (hb : Ev X b σ F H y) (h : inG x y = some r) (hu : X.A.units + 65 < cLine) (hm : behindInMarks .In b = false := by rfl) : EvT X (.Compare a [.In] [b] pos) σ F H r := et_cmp (op_inD hu) (o2_inD h) ha hb hm
theorem et_notInD {x : α} {y : List α} {r : Bool} (ha : Ev X a σ F H x) (hb : Ev X b σ F H y) (h : inG x y = some r) (hu : X.A.units + 65 < cLine) (hm : behindInMarks .NotIn b = false := by rfl) : EvT X (.Compare a [.NotIn] [b] pos) σ F H (!r) := et_cmp (op_notInD hu) (o2_notInD h) ha hb hm
end
section
variable {X : Cx} {a b : Expr} {σ : L2.St} {F H : Hp} {pos : Pos} {κ ν : Type} [Rp κ] [Rp ν] [DecidableEq κ] [DecidableEq ν] [KeyS κ] [KeyS ν]
theorem ev_eqR {x y : Dct κ ν} {r : Bool} (ha : Ev X a σ F H x) (hb : Ev X b σ F H y) (h : deqG x y = some r) (hu : X.A.units < cLine) : Ev X (.Compare a [.Eq] [b] pos) σ F H r := ev_cmp (op_eqR hu) (o2_eqR h) ha hb (nomark _)
theorem ev_neR {x y : Dct κ ν} {r : Bool} (ha : Ev X a σ F H x) (hb : Ev X b σ F H y) (h : deqG x y = some r) (hu : X.A.units < cLine) : Ev X (.Compare a [.NotEq] [b] pos) σ F H (!r) := ev_cmp (op_neR hu) (o2_neR h) ha hb (nomark _)
theorem et_eqR {x y : Dct κ ν} {r : Bool} (ha : Ev X a σ F H x) (hb : Ev X b σ F H y) (h : deqG x y = some r) (hu : X.A.units < cLine) : EvT X (.Compare a [.Eq] [b] pos) σ F H r := et_cmp (op_eqR hu) (o2_eqR h) ha hb (nomark _)
theorem et_neR {x y : Dct κ ν} {r : Bool} (ha : Ev X a σ F H x) (hb : Ev X b σ F H y) (h : deqG x y = some r) (hu : X.A.units < cLine) : EvT X (.Compare a [.NotEq] [b] pos) σ F H (!r) := et_cmp (op_neR hu) (o2_neR h) ha hb (nomark _)
end
end Gx

/-! Gh: the head's facts, and one more test. -/
namespace Gx
open PySem PySem.Spec PyProof.Rows L2
abbrev AlE : Type := He.AlD × Bool
abbrev frE (n : Nat) (g : Addr → Option Obj) : PySem.W.Frag := He.frG g (He.asD g n)
def obsE (n : Nat) (fa : List He.Fa) (fn : List He.DefD) (ex : PySem.W.Frag → Bool) (g : Addr → Option Obj) : AlE := (He.obsD fa fn (frE n g), ex (frE n g))
def hookE (n : Nat) (fa : List He.Fa) (fn : List He.DefD) (ex : PySem.W.Frag → Bool) : PySem.W.Hook where
  α := AlE
  obs s := obsE n fa fn ex s.heap.get?
  val _ := (He.valD fn, true)
  says _ h := ∃ K : PySem.W.Frag, K.In h ∧ He.SaysD fa fn K ∧ ex K = true
  of _ _ e := ⟨_, He.frG_in, congrArg (fun z : AlE => z.1) e, congrArg (fun z : AlE => z.2) e⟩
  keeps := fun _ _ _ ⟨K, hK, c⟩ k => ⟨K, PySem.W.Frag.In.keeps hK k, c⟩
theorem obsE_eq {n : Nat} {fa : List He.Fa} {fn : List He.DefD} {ex : PySem.W.Frag → Bool} {g : Addr → Option Obj} {s : Shared} (h : ∀ a, g a = s.heap.get? a) : obsE n fa fn ex g = (hookE n fa fn ex).obs s := by
  cases (funext h : g = s.heap.get?)
  rfl
end Gx

/-! Gi: what a mirror comes to: Ok. -/
namespace Gx
open PySem PySem.Spec PyProof.Rows L2
/-- m comes to an x of which P holds -/
def Ok {α : Type} (m : Option α) (P : α → Prop) : Prop := ∃ x, m = some x ∧ P x
section
variable {α β γ ρ : Type}
theorem Ok.ret {P : α → Prop} {x : α} (h : P x) : Ok (some x) P := ⟨x, rfl, h⟩
theorem Ok.of {P : α → Prop} {m : Option α} {x : α} (e : m = some x) (h : P x) : Ok m P := ⟨x, e, h⟩
theorem Ok.bind {m : Option α} {f : α → Option β} {P : α → Prop} {Q : β → Prop} (h : Ok m P) (k : ∀ x, P x → Ok (f x) Q) : Ok (m.bind f) Q := by
  obtain ⟨x, rfl, p⟩ := h
  exact k x p
theorem Ok.bindE {m : Option α} {f : α → Option β} {x : α} {Q : β → Prop} (h : m = some x) (k : Ok (f x) Q) : Ok (m.bind f) Q := by
  subst h; exact k
theorem Ok.mono {m : Option α} {P Q : α → Prop} (h : Ok m P) (k : ∀ x, P x → Q x) : Ok m Q := by
  obtain ⟨x, e, p⟩ := h
  exact ⟨x, e, k x p⟩
theorem Ok.ite {c : Prop} [Decidable c] {a b : Option α} {P : α → Prop} (h1 : c → Ok a P) (h2 : ¬ c → Ok b P) : Ok (if c then a else b) P := by
  by_cases h : c
  · rw [if_pos h]; exact h1 h
  · rw [if_neg h]; exact h2 h
theorem Ok.dite {p : Prop} [Decidable p] {a b : Option α} {P : α → Prop} (h1 : p → Ok a P) (h2 : ¬ p → Ok b P) : Ok (if decide p = true then a else b) P :=
  Ok.ite (fun h => h1 (of_decide_eq_true h)) (fun h => h2 fun z => h (decide_eq_true z))
theorem Ok.true_ {m : Option Bool} (h : Ok m (· = true)) : m = some true := by
  obtain ⟨x, e, p⟩ := h
  rw [e, p]
theorem Ok.eq {m : Option α} {y : α} (h : Ok m (· = y)) : m = some y := by
  obtain ⟨x, e, p⟩ := h
  rw [e, p]
/-- a loop, by an invariant over what is left -/
theorem Ok.loopN {st : β → α → Option β} {b : β} {xs : List α} {Q : β → Prop} (J : β → List α → Prop) (h0 : J b xs) (hs : ∀ b x ys, J b (x :: ys) → Ok (st b x) fun b' => J b' ys) (hq : ∀ b, J b [] → Q b) : Ok (loopN st b xs) Q := by
  induction xs generalizing b with
  | nil => exact ⟨b, rfl, hq b h0⟩
  | cons x ys ih =>
    obtain ⟨b', e, h'⟩ := hs b x ys h0
    rw [loopN_cons e]
    exact ih h'
theorem Ok.loopM {st : β → α → Option (Lp β ρ)} {b : β} {xs : List α} {Q : Lp β ρ → Prop} (J : β → List α → Prop) (h0 : J b xs) (hs : ∀ b x ys, J b (x :: ys) → Ok (st b x) fun o => match o with | .nx b' => J b' ys | .bk b' => Q (.bk b') | .rt r => Q (.rt r)) (hq : ∀ b, J b [] → Q (.nx b)) : Ok (loopM st b xs) Q := by
  induction xs generalizing b with
  | nil => exact ⟨.nx b, rfl, hq b h0⟩
  | cons x ys ih =>
    obtain ⟨o, e, h'⟩ := hs b x ys h0
    cases o with
    | nx b' => rw [loopM_nx e]; exact ih h'
    | bk b' => exact ⟨.bk b', by rw [Gx.loopM, e], h'⟩
    | rt r => exact ⟨.rt r, by rw [Gx.loopM, e], h'⟩
theorem Ok.whileN {c : β → Option Bool} {st : β → Option β} {n : Nat} {b : β} {Q : β → Prop} (J : β → Prop) (m : β → Nat) (h0 : J b) (hm : m b < n) (hs : ∀ b, J b → Ok (c b) fun t => (t = true → Ok (st b) fun b' => J b' ∧ m b' < m b) ∧ (t = false → Q b)) : Ok (whileN c st n b) Q := by
  induction n generalizing b with
  | zero => omega
  | succ n ih =>
    obtain ⟨t, e, h1, h2⟩ := hs b h0
    cases t with
    | false => exact ⟨b, by rw [Gx.whileN, e], h2 rfl⟩
    | true =>
      obtain ⟨b', e', j, l⟩ := h1 rfl
      rw [Gx.whileN, e]
      dsimp only
      rw [e']
      exact ih j (by omega)
theorem Ok.thn {o : Option (Lp β ρ)} {f : β → Option γ} {g : ρ → Option γ} {Q : γ → Prop} (P : Lp β ρ → Prop) (h : Ok o P) (k1 : ∀ b, P (.nx b) → Ok (f b) Q) (k2 : ∀ b, P (.bk b) → Ok (f b) Q) (k3 : ∀ r, P (.rt r) → Ok (g r) Q) : Ok (o.bind fun o => o.thn f g) Q := by
  obtain ⟨x, rfl, p⟩ := h
  cases x with
  | nx b => exact k1 b p
  | bk b => exact k2 b p
  | rt r => exact k3 r p
/-- a comprehension -/
theorem Ok.comp {f : α → Option (Option γ)} {xs : List α} {P : List γ → Prop} (g : α → γ) (hl : xs.length ≤ 16777216) (h : ∀ x ∈ xs, f x = some (some (g x))) (hp : P (xs.map g)) : Ok (compG f xs) P := ⟨_, compG_map (by rw [szl]; exact hl) h, hp⟩
theorem Ok.compf {f : α → Option (Option γ)} {xs : List α} {P : List γ → Prop} (p : α → Bool) (g : α → γ) (hl : xs.length ≤ 16777216) (h : ∀ x ∈ xs, f x = some (if p x then some (g x) else none)) (hp : P ((xs.filter p).map g)) : Ok (compG f xs) P := ⟨_, compG_filter (by rw [szl]; exact hl) h, hp⟩
/-- .. of which only a relation is known -/
theorem compM_rel {f : α → Option (Option γ)} {R : α → γ → Prop} : ∀ {xs : List α}, (∀ x ∈ xs, Ok (f x) fun o => ∃ y, o = some y ∧ R x y) → Ok (compM f xs) fun ys => Paired R xs ys
  | [], _ => ⟨[], rfl, .nil⟩
  | x :: xs, h => by
    obtain ⟨o, e, y, rfl, r⟩ := h x List.mem_cons_self
    obtain ⟨ys, e2, r2⟩ := compM_rel fun z hz => h z (List.mem_cons_of_mem _ hz)
    exact ⟨y :: ys, by rw [compM, e, e2]; rfl, .cons r r2⟩
theorem Ok.compR {f : α → Option (Option γ)} {xs : List α} (R : α → γ → Prop) {P : List γ → Prop} (hl : xs.length ≤ 16777216) (h : ∀ x ∈ xs, Ok (f x) fun o => ∃ y, o = some y ∧ R x y) (hp : ∀ ys, Paired R xs ys → P ys) : Ok (compG f xs) P := by
  unfold compG; rw [if_pos (by rw [szl]; exact hl)]
  exact (compM_rel h).mono hp
theorem Paired.mem {R : α → γ → Prop} {xs : List α} {ys : List γ} (h : Paired R xs ys) {y : γ} (hy : y ∈ ys) : ∃ x ∈ xs, R x y := by
  induction h with
  | nil => cases hy
  | cons r t ih =>
    rcases List.mem_cons.mp hy with e | hy
    · subst e; exact ⟨_, List.mem_cons_self, r⟩
    · obtain ⟨x, h1, h2⟩ := ih hy
      exact ⟨x, List.mem_cons_of_mem _ h1, h2⟩
theorem Paired.get {R : α → γ → Prop} {xs : List α} {ys : List γ} (h : Paired R xs ys) {i : Nat} {y : γ} (hy : ys[i]? = some y) : ∃ x, xs[i]? = some x ∧ R x y := by
  induction h generalizing i with
  | nil => simp at hy
  | cons r t ih =>
    cases i with
    | zero => simp at hy; subst hy; exact ⟨_, by simp, r⟩
    | succ i => obtain ⟨x, h1, h2⟩ := ih (by simpa using hy); exact ⟨x, by simpa using h1, h2⟩
/-! ### guards -/
theorem mulG_l {i j : Int} (h : -(2 ^ 64) < i ∧ i < 2 ^ 64) : mulG i j = some (i * j) := if_pos (.inl (CMul.l h))
theorem mulG_r {i j : Int} (h : -(2 ^ 64) < j ∧ j < 2 ^ 64) : mulG i j = some (i * j) := if_pos (.inl (CMul.r h))
theorem mulG_w {i j : Int} (h : CMulW i j) : mulG i j = some (i * j) := if_pos (.inr h)
theorem divG_w {i j : Int} (h : CDivW i j) : divG i j = some (i / j) := if_pos (.inr h)
theorem modG_p {i j : Int} (h : 0 < j) : modG i j = some (i % j) := if_pos h
theorem divG_p {i j : Int} (h : CDiv i j) : divG i j = some (i / j) := if_pos (.inl h)
theorem app_p {xs : List α} {y : α} (h : xs.length < 16777216) : app xs y = some (xs ++ [y]) := if_pos (by rw [szl]; exact h)
theorem catG_p {xs ys : List α} (h : xs.length + ys.length ≤ 16777216) : catG xs ys = some (xs ++ ys) := if_pos (by rw [szl]; exact h)
theorem catT_p {xs ys : Tp α} (h : xs.l.length + ys.l.length ≤ 16777216) : catT xs ys = some ⟨xs.l ++ ys.l⟩ := if_pos (by rw [szl]; exact h)
theorem rngG_p {j : Int} (h : -(2 ^ 62) ≤ j ∧ j < 2 ^ 62) : rngG j = some (intsF 0 j.toNat) := if_pos h
theorem rngG_n {n : Nat} (h : n ≤ 16777216) : rngG (n : Int) = some (intsF 0 n) := by
  have h1 : (n : Int) ≤ 16777216 := by omega
  have h2 : (0 : Int) ≤ n := Int.natCast_nonneg n
  have e := rngG_p (j := (n : Int)) ⟨Int.le_trans (by decide) h2, Int.lt_of_le_of_lt h1 (by decide)⟩
  rw [Int.toNat_natCast] at e
  exact e
theorem rngG_s {j : Int} (h : -1000000000 ≤ j ∧ j ≤ 1000000000) : rngG j = some (intsF 0 j.toNat) := rngG_p ⟨Int.le_trans (by decide) h.1, Int.lt_of_le_of_lt h.2 (by decide)⟩
theorem rngG2_s {i j : Int} (hi : -1000000000 ≤ i ∧ i ≤ 1000000000) (h : -1000000000 ≤ j ∧ j ≤ 1000000000) : rngG2 i j = some (intsF i (j - i).toNat) := if_pos ⟨Int.le_trans (by decide) hi.1, Int.lt_of_le_of_lt hi.2 (by decide), Int.le_trans (by decide) h.1, Int.lt_of_le_of_lt h.2 (by decide)⟩
theorem rngG2_p {i j : Int} (h : -(2 ^ 62) ≤ i ∧ i < 2 ^ 62 ∧ -(2 ^ 62) ≤ j ∧ j < 2 ^ 62) : rngG2 i j = some (intsF i (j - i).toNat) := if_pos h
theorem dputG_p {κ ν : Type} [Rp κ] [DecidableEq κ] [DKey κ] [Rp ν] {m : Dct κ ν} {k : κ} {v : ν} (h : m.l.length < 16777216) : dputG m k v = some ⟨kvPut m.l k v⟩ := if_pos (by rw [szl]; exact h)
theorem intsF_mem {lo : Int} {n : Nat} {x : Int} (h : x ∈ intsF lo n) : lo ≤ x ∧ x < lo + n := by
  obtain ⟨i, hi⟩ := List.mem_iff_getElem?.mp h
  obtain ⟨h1, h2⟩ := ints_get hi
  omega
theorem intsF_succ (lo : Int) (n : Nat) : intsF lo (n + 1) = lo :: intsF (lo + 1) n := by
  unfold intsF
  rw [List.range_succ_eq_map, List.map_cons, List.map_map]
  congr 1
  · simp
  · refine List.map_congr_left fun i _ => ?_
    show lo + ((i + 1 : Nat) : Int) = _
    omega
theorem intsF_zero (lo : Int) : intsF lo 0 = [] := rfl
theorem atI_mem {xs : List α} {i : Int} (h0 : 0 ≤ i) (h1 : i < xs.length) : Ok (L2.atI xs i) fun v => v ∈ xs ∧ xs[i.toNat]? = some v := by
  obtain ⟨v, h2, h3⟩ := atI_ok h0 h1
  exact ⟨v, h2, List.mem_of_getElem? h3, h3⟩
theorem atI_last {xs : List α} (h : xs ≠ []) : L2.atI xs (-1) = some (xs.getLast h) := by
  unfold L2.atI ixN
  have hl : 0 < xs.length := List.length_pos_iff.mpr h
  rw [if_neg (by omega), if_pos (by omega)]
  show xs[((-1 : Int) + xs.length).toNat]? = _
  have e : ((-1 : Int) + xs.length).toNat = xs.length - 1 := by omega
  rw [e, List.getLast_eq_getElem]
  exact List.getElem?_eq_getElem (by omega)
theorem atI_ints {f : Int → α} {n : Nat} {k : Int} (h0 : 0 ≤ k) (h1 : k < n) : L2.atI ((intsF 0 n).map f) k = some (f k) := by
  rw [atI_nn h0, List.getElem?_map]
  have e : (intsF 0 n)[k.toNat]? = some k := by
    unfold intsF
    rw [List.getElem?_map, List.getElem?_range (by omega)]
    show some ((0 : Int) + (k.toNat : Int)) = _
    congr 1; omega
  rw [e]; rfl
/-! ### loops that append -/
theorem loopN_app {st : List γ → α → Option (List γ)} (f : α → γ) : ∀ (xs : List α) (b : List γ), b.length + xs.length ≤ 16777216 → (∀ x ∈ xs, ∀ b : List γ, b.length < 16777216 → st b x = some (b ++ [f x])) → loopN st b xs = some (b ++ xs.map f)
  | [], b, _, _ => by rw [loopN]; simp
  | x :: xs, b, hl, h => by
    rw [List.length_cons] at hl
    rw [loopN_cons (h x List.mem_cons_self b (by omega)), loopN_app f xs (b ++ [f x]) (by rw [List.length_append]; simp; omega) fun y hy => h y (List.mem_cons_of_mem _ hy)]
    simp
theorem loopN_map {st : List γ → α → Option (List γ)} (f : α → γ) (xs : List α) (hl : xs.length ≤ 16777216) (h : ∀ x ∈ xs, ∀ b : List γ, b.length < 16777216 → st b x = some (b ++ [f x])) : loopN st [] xs = some (xs.map f) :=
  loopN_app f xs [] (by simpa using hl) h
/-! ### dicts -/
section
variable {κ ν : Type} [DecidableEq κ]
def Dct.nd (d : Dct κ ν) : Prop := (d.l.map (·.1)).Nodup
theorem kvPut_keys (l : List (κ × ν)) (k : κ) (v : ν) : (kvPut l k v).map (·.1) = if k ∈ l.map (·.1) then l.map (·.1) else l.map (·.1) ++ [k] := by
  unfold kvPut
  by_cases h : k ∈ l.map (·.1)
  · rw [if_pos h, if_pos (by
      obtain ⟨p, hp, e⟩ := List.mem_map.mp h
      exact List.any_eq_true.mpr ⟨p, hp, decide_eq_true e⟩), List.map_map]
    refine List.map_congr_left fun p _ => ?_
    show (if p.1 = k then (p.1, v) else p).1 = p.1
    split <;> rfl
  · rw [if_neg h, if_neg (fun z => by
      obtain ⟨p, hp, e⟩ := List.any_eq_true.mp z
      exact h (List.mem_map.mpr ⟨p, hp, of_decide_eq_true e⟩)), List.map_append]
    rfl
theorem kvPut_nd {l : List (κ × ν)} {k : κ} {v : ν} (h : (l.map (·.1)).Nodup) : ((kvPut l k v).map (·.1)).Nodup := by
  rw [kvPut_keys]
  split
  · exact h
  · rename_i hk
    rw [List.nodup_append]
    refine ⟨h, by simp, fun a ha b hb => ?_⟩
    have : b = k := by simpa using hb
    subst this
    intro e; subst e; exact hk ha
theorem kvLook_mem {l : List (κ × ν)} {k : κ} : k ∈ l.map (·.1) ↔ ∃ v, kvLook l k = some v := by
  induction l with
  | nil => simp [kvLook]
  | cons p r ih =>
    rw [List.map_cons, List.mem_cons, kvLook]
    by_cases e : p.1 = k
    · rw [if_pos e]; exact ⟨fun _ => ⟨_, rfl⟩, fun _ => .inl e.symm⟩
    · rw [if_neg e, ← ih]
      exact ⟨fun h => h.resolve_left fun z => e z.symm, .inr⟩
theorem kvLook_self {l : List (κ × ν)} (h : (l.map (·.1)).Nodup) {p : κ × ν} (hp : p ∈ l) : kvLook l p.1 = some p.2 := by
  induction l with
  | nil => cases hp
  | cons q r ih =>
    rw [List.map_cons, List.nodup_cons] at h
    rw [kvLook]
    rcases List.mem_cons.mp hp with e | hp
    · subst e; rw [if_pos rfl]
    · rw [if_neg (show ¬ q.1 = p.1 from fun e => h.1 (by rw [e]; exact List.mem_map.mpr ⟨p, hp, rfl⟩))]
      exact ih h.2 hp
end
theorem deqG_self {κ ν : Type} [Rp κ] [DecidableEq κ] [Rp ν] [KeyS κ] [KeyS ν] [DecidableEq ν] {d : Dct κ ν} (h : (d.l.map (·.1)).Nodup) : deqG d d = some true := if_pos ⟨rfl, fun _ hp => kvLook_self h hp⟩
/-! ### texts by their signs -/
def cl (z : Str) : List Nat := z.cps.toList
theorem len_c (z : Str) : z.length = (cl z).length := len_cl z
theorem S_cl (x : Str) : S (cl x) = x := S_tl x
theorem cl_S (l : List Nat) : cl (S l) = l := rfl
theorem cl_inj {a b : Str} (h : cl a = cl b) : a = b := by
  rw [← S_tl a, ← S_tl b]; exact congrArg S h
theorem sAt_ok {z : Str} (hz : (cl z).length ≤ 16777216) {i : Int} (h0 : 0 ≤ i) (h1 : i < (cl z).length) : Ok (sAt z i) fun s => ∃ c, s = ⟨#[c]⟩ ∧ (cl z)[i.toNat]? = some c ∧ c ∈ cl z := by
  obtain ⟨c, h2, h3⟩ := atI_ok h0 h1
  refine ⟨⟨#[c]⟩, ?_, c, rfl, h3, List.mem_of_getElem? h3⟩
  unfold sAt
  rw [if_pos (by rw [len_c, szl]; exact hz), show L2.atI z.cps.toList i = some c from h2]; rfl
theorem sAdd_cl {a b : Str} (h : (cl a).length + (cl b).length ≤ 16777216) : Ok (sAdd a b) fun r => cl r = cl a ++ cl b := ⟨a ++ b, sAdd_ok (by rw [len_c, len_c, szl]; exact h), app_cl a b⟩
theorem sCut_cl {z : Str} (hz : (cl z).length ≤ 16777216) (i j : Option Int) : Ok (sCut z i j) fun r => cl r = cut (cl z) i j := by
  obtain ⟨r, h1, _, h3⟩ := sCut_ok (z := z) (by rw [len_c, szl]; exact hz) i j
  exact ⟨r, h1, h3⟩
theorem sLen_cl {z : Str} (hz : (cl z).length ≤ 16777216) : sLen z = some ((cl z).length : Int) := by
  rw [sLen_ok (by rw [len_c, szl]; exact hz), len_c]
theorem sOfI_cl {n : Int} (h0 : 0 ≤ n) (h1 : n < 10 ^ 18) : Ok (sOfI n) fun r => cl r = TL.numL n.toNat ∧ (cl r).length ≤ 18 := by
  obtain ⟨r, e, l, c⟩ := sOfI_ok h0 h1
  exact ⟨r, e, c, by rw [← len_c]; exact l⟩
theorem take_drop_min {xs : List α} (a b : Nat) : (xs.drop (min a xs.length)).take (min b xs.length - min a xs.length) = (xs.drop a).take (b - a) := by
  rcases Nat.lt_or_ge a xs.length with h | h
  · rw [Nat.min_eq_left (Nat.le_of_lt h)]
    rcases Nat.lt_or_ge b xs.length with h2 | h2
    · rw [Nat.min_eq_left (Nat.le_of_lt h2)]
    · rw [Nat.min_eq_right h2, List.take_of_length_le (by rw [List.length_drop]; exact Nat.le_refl _), List.take_of_length_le (by rw [List.length_drop]; omega)]
  · rw [Nat.min_eq_right h, List.drop_of_length_le (Nat.le_refl _), List.drop_of_length_le h]; simp
theorem cut_mid {xs : List α} {i j : Int} (h0 : 0 ≤ i) (h1 : 0 ≤ j) : cut xs (some i) (some j) = (xs.drop i.toNat).take (j.toNat - i.toNat) := by
  obtain ⟨a, rfl⟩ : ∃ m : Nat, i = (m : Int) := ⟨i.toNat, by omega⟩
  obtain ⟨b, rfl⟩ : ∃ m : Nat, j = (m : Int) := ⟨j.toNat, by omega⟩
  unfold cut
  rw [HT.sIx_nat, HT.sIx_nat]
  exact take_drop_min a b
theorem cut_to {xs : List α} {n : Int} (h0 : 0 ≤ n) : cut xs none (some n) = xs.take n.toNat := by
  obtain ⟨m, rfl⟩ : ∃ m : Nat, n = (m : Int) := ⟨n.toNat, by omega⟩
  unfold cut
  rw [HT.sIx_nat, HT.sIx_none]
  have := take_drop_min (xs := xs) 0 m
  rw [Nat.min_eq_left (Nat.zero_le _)] at this
  exact this
theorem cut_from {xs : List α} {n : Int} (h0 : 0 ≤ n) : cut xs (some n) none = xs.drop n.toNat := by
  obtain ⟨m, rfl⟩ : ∃ m : Nat, n = (m : Int) := ⟨n.toNat, by omega⟩
  unfold cut
  rw [HT.sIx_nat, HT.sIx_none]
  have := take_drop_min (xs := xs) m xs.length
  rw [Nat.min_eq_left (Nat.le_refl _), List.take_of_length_le (l := xs.drop m) (by rw [List.length_drop]; exact Nat.le_refl _)] at this
  exact this
theorem cut_init {xs : List α} : cut xs none (some (-1 : Int)) = xs.take (xs.length - 1) := by
  unfold cut
  have e : HT.sIx xs.length xs.length (some (-1)) = xs.length - 1 := by
    show (if (-1 : Int) < 0 then ((-1 : Int) + (xs.length : Int)).toNat else min (-1 : Int).toNat xs.length) = xs.length - 1
    rw [if_pos (by decide)]; omega
  rw [HT.sIx_none, e]; simp
theorem map_cl_S (ys : List Str) : (ys.map cl).map S = ys := by
  rw [List.map_map]
  exact (List.map_congr_left fun y _ => S_tl y).trans (List.map_id _)
theorem sJoin_cl {x : Str} {ys : List Str} (h : (ys.map (·.length)).sum + ys.length * x.length ≤ 16777216) : Ok (sJoin x ys) fun r => cl r = TL.joinL (cl x) (ys.map cl) := by
  refine ⟨Txt.join x ys, if_pos h, ?_⟩
  have e := SX.join_S (cl x) (ys.map cl)
  have hx : SX.S (cl x) = x := S_tl x
  rw [map_cl_S, hx] at e
  rw [e]; rfl
theorem joinL_nil : ∀ ls : List (List Nat), TL.joinL [] ls = ls.flatten
  | [] => rfl
  | [p] => by simp [TL.joinL]
  | p :: q :: r => by
    rw [TL.joinL, joinL_nil (q :: r)]; simp
theorem len_sum {n : Nat} : ∀ {ys : List Str}, (∀ y ∈ ys, (cl y).length ≤ n) → (ys.map (·.length)).sum ≤ ys.length * n
  | [], _ => by simp
  | y :: ys, h => by
    rw [List.map_cons, List.sum_cons, List.length_cons, Nat.succ_mul, len_c]
    have h1 := h y List.mem_cons_self
    have h2 := len_sum fun z hz => h z (List.mem_cons_of_mem _ hz)
    omega
/-- texts of one sign joined by nothing -/
theorem sJoin_signs {ys : List Str} {cs : List Nat} (h : ys = cs.map fun c => ⟨#[c]⟩) (hl : cs.length ≤ 1000000) : Ok (sJoin ("" : Str) ys) fun r => cl r = cs := by
  have h1 : ∀ y ∈ ys, (cl y).length ≤ 1 := fun y hy => by
    subst h
    obtain ⟨c, _, rfl⟩ := List.mem_map.mp hy
    exact Nat.le_refl _
  have h2 := len_sum h1
  have h3 : ys.length = cs.length := by rw [h, List.length_map]
  refine (sJoin_cl ?_).mono fun r hr => ?_
  · rw [show ("" : Str).length = 0 from by decide]; omega
  · rw [hr, show cl ("" : Str) = [] from by decide, joinL_nil, h, List.map_map]
    clear h h1 h2 h3 hr hl
    induction cs with
    | nil => rfl
    | cons c cs ih => rw [List.map_cons, List.flatten_cons, ih]; rfl
theorem nodup_map_on {α β : Type} {f : α → β} {l : List α} (inj : ∀ x ∈ l, ∀ y ∈ l, f x = f y → x = y) (h : l.Nodup) : (l.map f).Nodup := by
  unfold List.Nodup
  rw [List.pairwise_map]
  exact List.Pairwise.imp_of_mem (fun ha hb hne e => hne (inj _ ha _ hb e)) h
theorem ints_nodup (lo : Int) (n : Nat) : (intsF lo n).Nodup := by
  unfold intsF
  exact nodup_map_on (fun x _ y _ e => by omega) List.nodup_range
/-! ### texts within data -/
def sok (z : Str) : Prop := ∀ c ∈ cl z, c < 1114112
theorem lay_str {z : Str} (h : sok z) : (Pd.toD z).canLay0 = true := by
  show PySem.PyData.canLay0 (.str z) = true
  rw [PyData.canLay0]
  show z.cps.all (· < 0x110000) = true
  rw [← Array.all_toList, List.all_eq_true]
  intro c hc
  exact decide_eq_true (h c hc)
/-- the texts in a thing are texts that Python can have -/
class PdL (α : Type) [Rp α] [Pd α] where
  tx : α → Prop
  ok : ∀ {x : α}, tx x → (Pd.toD x).canLay0 = true
instance : PdL Int := ⟨fun _ => True, fun _ => PdF.ok _⟩
instance : PdL Bool := ⟨fun _ => True, fun _ => PdF.ok _⟩
instance : PdL Str := ⟨sok, lay_str⟩
instance {α : Type} [Rp α] [Pd α] [PdL α] : PdL (List α) := ⟨fun l => ∀ x ∈ l, PdL.tx x, fun h => layAll fun x hx => PdL.ok (h x hx)⟩
instance {α : Type} [Rp α] [Pd α] [PdL α] : PdL (Tp α) := ⟨fun l => ∀ x ∈ l.l, PdL.tx x, fun h => layAll fun x hx => PdL.ok (h x hx)⟩
instance {α : Type} [Rp α] [Pd α] [PdL α] : PdL (Tn α) := ⟨fun l => ∀ x ∈ l.l, PdL.tx x, fun h => layAll fun x hx => PdL.ok (h x hx)⟩
class PdRL (τ : Type) [Ra τ] [PdR τ] where
  tx : τ → Prop
  ok : ∀ {x : τ}, tx x → PyData.canLayAll0 (PdR.toR x) = true
instance : PdRL Unit := ⟨fun _ => True, fun _ => PdRF.ok _⟩
instance {α τ : Type} [Rp α] [Ra τ] [Pd α] [PdR τ] [PdL α] [PdRL τ] : PdRL (α × τ) := ⟨fun x => PdL.tx x.1 ∧ PdRL.tx x.2, fun {x} h => by
  show (PyData.canLay0 _ && PyData.canLayAll0 _) = true
  rw [PdL.ok h.1, PdRL.ok h.2]; rfl⟩
instance {α : Type} [Rp α] [Pd α] [PdL α] : PdL (T1 α) := ⟨fun x => PdRL.tx x.row, fun h => PdRL.ok h⟩
instance {α β : Type} [Rp α] [Rp β] [Pd α] [Pd β] [PdL α] [PdL β] : PdL (T2 α β) := ⟨fun x => PdRL.tx x.row, fun h => PdRL.ok h⟩
instance {α β γ : Type} [Rp α] [Rp β] [Rp γ] [Pd α] [Pd β] [Pd γ] [PdL α] [PdL β] [PdL γ] : PdL (T3 α β γ) := ⟨fun x => PdRL.tx x.row, fun h => PdRL.ok h⟩
instance {α β γ δ : Type} [Rp α] [Rp β] [Rp γ] [Rp δ] [Pd α] [Pd β] [Pd γ] [Pd δ] [PdL α] [PdL β] [PdL γ] [PdL δ] : PdL (T4 α β γ δ) := ⟨fun x => PdRL.tx x.row, fun h => PdRL.ok h⟩
instance {α β γ δ ε : Type} [Rp α] [Rp β] [Rp γ] [Rp δ] [Rp ε] [Pd α] [Pd β] [Pd γ] [Pd δ] [Pd ε] [PdL α] [PdL β] [PdL γ] [PdL δ] [PdL ε] : PdL (T5 α β γ δ ε) := ⟨fun x => PdRL.tx x.row, fun h => PdRL.ok h⟩
theorem okD_L {α : Type} [Rp α] [Pd α] [PdS α] [PdL α] {x : α} (h : PdL.tx x) (hd : PdS.dep α ≤ 64 := by decide) : okD x = true := okD_of hd (PdL.ok h)
theorem eqG_L {α : Type} [Rp α] [Pd α] [PdS α] [PdL α] [DecidableEq α] {x y : α} (h1 : PdL.tx x) (h2 : PdL.tx y) (hd : PdS.dep α ≤ 64 := by decide) : eqG x y = some (decide (x = y)) := eqG_ok (okD_L h1 hd) (okD_L h2 hd)
end
end Gx

/-! Gj: records (instances that do not change once they are made). -/
namespace Gx
open PySem PySem.Spec PyProof.Rows L2
open Rp (rp)
open Ra (ra)
open Ob (ob)
section
variable {X : Cx} {K : PySem.W.Frag} {e a b c d : Expr} {es : List Expr} {σ : L2.St} {F H F0 H0 : Hp} {pos : Pos} {D : Ends} {st : Stmt} {rest body : List Stmt}
/-! ### leaving one address out -/
theorem GdT.er {l P : Addr} (a : GdT H P) (h : PlAt H l) : GdT (er H l) P := a.but h fun _ hb => if_neg hb
theorem Gr.over {F' H' : Hp} {l : Addr} (g : Gr F0 H0 F H) (n : H0 l = none) (g' : Gr F (er H l) F' H') (pl : PlAt H l) : Gr F0 H0 F' H' := by
  have lift : ∀ a o, H0 a = some o → ∀ u, H a = some u → er H l a = some u := fun a o h u e => by
    unfold er; rw [if_neg fun z => by rw [z, n] at h; cases h]; exact e
  refine ⟨g.ff.trans g'.ff, g'.fh, ⟨fun a o h ns => g'.hh.k a o (lift a o h _ (g.hh.k a o h ns)) ns, fun a ps h => ?_, fun P a => g'.hh.w P ((g.hh.w P a).er pl)⟩, fun a o h ns => ?_⟩
  · obtain ⟨qs, e⟩ := g.hh.t a ps h
    exact g'.hh.t a qs (lift a _ h _ e)
  · cases o with
    | tbl ps =>
      obtain ⟨qs, e⟩ := g.hh.t a ps h
      rw [g'.fr a _ (lift a _ h _ e) trivial, g.fr a _ h trivial]
    | _ => rw [g'.fr a _ (lift a _ h _ (g.hh.k a _ h trivial)) ns, g.fr a _ h ns]
theorem HasT.er {l : Addr} (h : HasT K F H) (pl : PlAt H l) : HasT K F (er H l) := ⟨fun P hP => ⟨(h.t P hP).1.er pl, (h.t P hP).2⟩⟩
theorem GrX.over {F' H' : Hp} {l : Addr} (g : GrX K F0 H0 F H) (n : H0 l = none) (g' : Gr F (er H l) F' H') (pl : PlAt H l) : GrX K F0 H0 F' H' := ⟨g.toGr.over n g' pl, (g.h.er pl).up g'⟩
theorem Own.over {α : Type} [Rp α] [Ob α] {x : α} {F' H' : Hp} {l l2 : Addr} (o : Own K H0 F H l2 x) (h : l2 ≠ l) (g : Gr F (er H l) F' H') : Own K H0 F' H' l2 x := by
  obtain ⟨u, hl, r⟩ := o.h
  have e : er H l l2 = some u := by unfold er; rw [if_neg h]; exact hl
  exact ⟨o.n, (g.fr l2 u e (Ob.ls r)).trans o.f, u, g.hh.k _ _ e (Ob.pl r).ntb, Ob.mono g.ff r⟩
theorem er_same {l : Addr} : er H l l = none := if_pos rfl
theorem er_ne {l a : Addr} (h : a ≠ l) : er H l a = H a := if_neg h
theorem same_er {l : Addr} (s : L2.Same F H) (f : F l = none) : L2.Same F (er H l) := fun a o h => by
  rw [er_ne (ne_of_none h f)]; exact s a o h
theorem SmX.er {l : Addr} (s : SmX K F H) (f : F l = none) (pl : PlAt H l) : SmX K F (er H l) := ⟨same_er s.s f, s.h.er pl⟩
theorem Xt.start {l : Addr} (_ : PlAt H l) : Xt (er H l) H := .same fun a o h => by
  unfold er at h; split at h
  · cases h
  · exact h
theorem Gr.start {l : Addr} (s : L2.Same F H) (f : F l = none) (pl : PlAt H l) : Gr F (er H l) F H := ⟨.refl _, s, .start pl, fun _ _ _ _ => rfl⟩
/-! ### attributes by places -/
theorem zlook {names : List Str} {vs : List V} {i : Nat} {f : Str} {v : V} (h : names.idxOf f = i) (hi : i < names.length) (hv : vs[i]? = some v) : (names.zip vs).lookup f = some v := by
  induction names generalizing vs i with
  | nil => simp at hi
  | cons n ns ih =>
    cases vs with
    | nil => simp at hv
    | cons w ws =>
      rw [List.zip_cons_cons, List.lookup_cons]
      by_cases e : n = f
      · subst e
        have : i = 0 := by rw [← h, List.idxOf_cons_self]
        subst this
        simp at hv; subst hv; simp
      · have e' : (f == n) = false := beq_eq_false_iff_ne.mpr fun z => e z.symm
        rw [e']
        have hi2 : i = ns.idxOf f + 1 := by
          rw [← h, List.idxOf_cons, beq_eq_false_iff_ne.mpr e]; rfl
        subst hi2
        exact ih rfl (by simpa using hi) (by simpa using hv)
theorem putF_new {f : Str} {v : V} : ∀ {fs : List (Str × V)}, f ∉ fs.map (·.1) → putF f v fs = fs ++ [(f, v)]
  | [], _ => rfl
  | (g, x) :: r, h => by
    rw [List.map_cons, List.mem_cons] at h
    show (if g = f then _ else _) = _
    rw [if_neg (fun e => h (.inl e.symm)), putF_new fun z => h (.inr z)]; rfl
theorem zip_snoc {names : List Str} {vs : List V} {f : Str} {v : V} (h : names.length = vs.length) : names.zip vs ++ [(f, v)] = (names ++ [f]).zip (vs ++ [v]) := by
  rw [List.zip_append h]; rfl
theorem zip_names {names : List Str} {vs : List V} (h : names.length = vs.length) : (names.zip vs).map (·.1) = names := by
  rw [← List.unzip_fst, List.unzip_zip h]
/-- a record at its address -/
def rpI (cn : Str) (names : List Str) {τ : Type} [Ra τ] (K : PySem.W.Frag) (F : Hp) (v : V) (x : τ) : Prop := ∃ a dx vs, v = .ref a ∧ F a = some (.ins (He.ga K cn) dx (names.zip vs)) ∧ ra K F vs x
theorem rpI.mono {cn : Str} {names : List Str} {τ : Type} [Ra τ] {F F' : Hp} {v : V} {x : τ} (s : L2.Same F F') : rpI cn names K F v x → rpI cn names K F' v x := fun ⟨a, dx, vs, e, q, r⟩ => ⟨a, dx, vs, e, s _ _ q, Ra.mono s r⟩
theorem rpI.nn {cn : Str} {names : List Str} {τ : Type} [Ra τ] {F : Hp} {x : τ} : ¬ rpI cn names K F .non x := fun ⟨_, _, _, e, _⟩ => nomatch e
/-- the field fn of a thing θ is g of it -/
def FldOf (K : PySem.W.Frag) {θ α : Type} [Rp θ] [Rp α] (fn : Str) (g : θ → α) : Prop := ∀ F v (d : θ), rp K F v d → ∃ a C dx fs u, v = .ref a ∧ F a = some (.ins C dx fs) ∧ Cls K C ∧ NoAttr K C fn ∧ fs.lookup fn = some u ∧ rp K F u (g d)
theorem ev_attr {θ α : Type} [Rp θ] [Rp α] {fn : Str} {g : θ → α} {x : θ} (f : FldOf X.K fn g) (h : Ev X e σ F H x) (hb : attributeBase e fn X.env (eval e X.env) = eval e X.env := by rfl) : Ev X (.Attribute e fn pos) σ F H (g x) := fun F1 H1 gr Q q =>
  GoE.of (pe_fld pe_go hb) (h F1 H1 gr _ fun v F2 H2 g2 r2 => by
    obtain ⟨a, C, dx, fs, u, e, hF, c, na, l, r⟩ := f F2 v x r2
    exact ⟨a, C, dx, fs, u, e, g2.fh _ _ hF, c, na, l, q u F2 H2 g2 r⟩)
/-! ### making -/
/-- the promise of an __init__ that stores its fields in order -/
def PrI (K : PySem.W.Frag) (C : Addr) (names : List Str) {τ ρ : Type} [Ra τ] [Ra ρ] (f : τ → Option ρ) : Sp := fun vs H Q _ => ∃ F x dx args a r, vs = .ref x :: args ∧ SmX K F H ∧ F x = none ∧ H x = some (.ins C dx []) ∧ ra K F args a ∧ f a = some r ∧
  ∀ F' H' ws, Gr F (er H x) F' H' → F' x = none → H' x = some (.ins C dx (names.zip ws)) → ra K F' ws r → Q .non H'
/-- a store to a field of the new instance -/
theorem go_fld {α : Type} [Rp α] {x : Addr} {y : α} {C dx : Addr} {names : List Str} {vs : List V} {fn n : Str} {p1 p2 : Pos} (i : Nat) (s : SmX X.K F H) (fx : F x = none) (hx : H x = some (.ins C dx (names.zip vs))) (hl : names.length = vs.length) (hn : names.length < 1000) (hf : fn ∉ names) (c : Cls X.K C) (na : NoAttr X.K C fn)
    (hσ : σ[i]? = some (some (.ref x))) (he : Ev X e σ F H y) (k : ∀ v F' H', Gr F H F' H' → rp X.K F' v y → F' x = none → H' x = some (.ins C dx (names.zip vs)) → GoS X rest D σ (upd H' x (.ins C dx ((names ++ [fn]).zip (vs ++ [v]))))) (hN : X.N[i]? = some n := by rfl) (hv : Vis X.env.scope n := by first | exact Or.inl rfl | exact Or.inr (Or.inl rfl) | exact Or.inr (Or.inr rfl))
    (hd : (n == ("__debug__" : Str)) = false := by decide) (hcd : (n == ("__classdict__" : Str)) = false := by decide) (hs : swapsWith e (some (.Attribute (.Name n p1) fn p2)) pos.line X.env = pure false := by rfl) : GoS X (.Assign [.Attribute (.Name n p1) fn p2] e pos :: rest) D σ H :=
  GoS.cons (ps_fld (pe_var hN hv hd hcd) pe_go hs) (he F H (.refl s) _ fun v F2 H2 g2 r2 => by
    have h2 := g2.hh.k _ _ hx trivial
    refine ⟨_, hσ, x, C, dx, _, rfl, h2, c, na, ?_, ?_⟩
    · rw [List.length_zip]; omega
    · rw [putF_new (by rw [zip_names hl]; exact hf), zip_snoc hl]
      exact k v F2 H2 g2 r2 ((g2.fr x _ hx trivial).trans fx) h2)
/-- .. over the whole def -/
theorem fn_init {P : Program} {w : World} {mg : Str → Option Value} {base : Heap} {τ ρ : Type} [Ra τ] [RaN τ] [Ra ρ] {f : τ → Option ρ} {C : Addr} {names : List Str} {x qual : Str} {s0 : Stmt} {fa : Addr} {fd : FuncData} {N ps : List Str} {k : Nat} (Fn : FunD K x qual (defArgs s0) (defBody s0) (defScope s0) [] [] fa fd) (S : FnScope N ps (defScope s0)) (hn : RaN.n τ + 1 = ps.length)
    (hbody : ∀ (cdv : Value) (A : Around) (outer : List Env) (s : Shared) (F H : Hp) (y dx : Addr) (vs : List V) (a : τ) (r : ρ) (D : Ends) (E : XK), Room k (A.deeper (envOfC qual (defScope s0) s.heap.objs.size fa cdv)) → GrX K F (er H y) F H → F y = none → H y = some (.ins C dx []) → ra K F vs a → f a = some r →
      (∀ σ' F' H' ws, GrX K F (er H y) F' H' → F' y = none → H' y = some (.ins C dx (names.zip ws)) → ra K F' ws r → D.nx σ' H') → GoS (cxOf CX0 P w K mg base N qual (defScope s0) fa cdv A outer s H E).nox (defBody s0) D (start N (.ref y :: vs)) H) :
    FnOk P w K mg base CX0 (k + 1) fa fd ps (PrI K C names f) := by
  refine Fn.ok S (fun vs H Q E ⟨F, y, dx, args, a, r, e, _, _, _, ra', _⟩ => by rw [e, List.length_cons, RaN.len ra', hn]) fun cdv A outer s H vs Q E hr ⟨F, y, dx, args, a, r, e, sm, fy, hy, ra', hf, k⟩ => ?_
  subst e
  exact ⟨_, PSs.nox pss_go, hbody cdv A outer s F H y dx args a r { nx := fun _ H' => Q .non H', rt := Q } E hr ⟨Gr.start sm.s fy ⟨_, hy, trivial⟩, sm.h⟩ fy hy ra' hf fun σ' F' H' ws g f' h' r' => k F' H' ws g.toGr f' h' r'⟩
theorem ev_make {θ τ ρ : Type} [Rp θ] [Ra τ] [Ra ρ] {f : τ → Option ρ} {names : List Str} {y : τ} {r : ρ} {z : θ} {k : Nat} {fa : Addr} {fd : FuncData} {ps : List Str} {x cn : Str} {p : Pos} (rep : ∀ F v, rpI cn names X.K F v r → rp X.K F v z) (M : Mk X.K (He.ga X.K cn) fa) (Fn : FnOk X.prog X.w X.K X.mg X.base CX0 k fa fd ps (PrI X.K (He.ga X.K cn) names f)) (hr : Room (k + 1) X.A)
    (hm : X.mg x = some (.ref (He.ga X.K cn))) (hb : Binds X.K fd ps []) (ha : EvA X (e :: es) σ F H y) (h : f y = some r) (hg : Gl X x := by rfl) (hdb : (x == ("__debug__" : Str)) = false := by decide)
    (he : starEach (e :: es) X.env = (false, eval e X.env) :: starEach es X.env := by rfl) (hpl : (backTo pos (starEach es X.env)).any (·.1) = false := by rfl) : Ev X (.Call (.Name x p) (e :: es) [] pos) σ F H z := fun F1 H1 g Q q =>
  GoE.of (pe_make M Fn hr hg hm hb .nil pass0 pa_go hdb he hpl) (ha F1 H1 g _ fun vs F2 H2 g2 r2 => by
    intro o dx ho hdx hne
    have so : H2 dx = none := hdx
    have g3 : Gr F2 H2 (upd F2 dx (.own o)) (upd H2 dx (.own o)) := Gr.new g2.fh hdx trivial
    have ho3 : upd H2 dx (.own o) o = none := by rw [upd_ne (fun z => hne z.symm)]; exact ho
    have fo3 : upd F2 dx (.own o) o = none := by rw [upd_ne (fun z => hne z.symm)]; exact g2.fh.free ho
    have g4 := Gr.newP (o := .ins (He.ga X.K cn) dx []) g3.fh ho3 trivial
    refine ⟨upd F2 dx (.own o), o, dx, vs, y, r, by rw [List.append_nil], (g.trans g2).sm.up (g3.trans g4), fo3, upd_same, Ra.mono g3.ff r2, h, fun F' H' ws g5 f5 h5 r5 => ⟨rfl, ?_⟩⟩
    have g6 : Gr F1 H1 F' H' := (((g2.trans g3).trans g4)).over (g2.hh.free ho) g5 ⟨_, upd_same, trivial⟩
    have g7 := g6.freeze (o := .ins (He.ga X.K cn) dx (names.zip ws)) (g2.hh.free ho) f5 ⟨_, h5, trivial⟩ trivial
    have e7 : upd H' o (.ins (He.ga X.K cn) dx (names.zip ws)) = H' := by
      funext b
      by_cases hb : b = o
      · rw [hb, upd_same, h5]
      · rw [upd_ne hb]
    rw [e7] at g7
    exact q (.ref o) _ H' g7 (rep _ _ ⟨o, dx, ws, rfl, upd_same, Ra.mono (same_upd f5) r5⟩))
end
end Gx

/-! Gk: a private thing read while a new one is made by a statement; products of lists and tuples. -/
namespace Gx
open PySem PySem.Spec PyProof.Rows L2
open Rp (rp)
open Ra (ra)
open Ob (ob)
section
variable {X : Cx} {K : PySem.W.Frag} {e a b c d : Expr} {es : List Expr} {σ : L2.St} {F H F0 H0 : Hp} {pos : Pos} {D : Ends} {st : Stmt} {rest body : List Stmt}
theorem GoS.lockedU {sts : List Stmt} {l : Addr} {o : HO} (hl : H l = some o) (mu : Mut (some o)) (h : ∀ od, (∀ o' u', X.H_0 l ≠ some (.frz o' u')) → GoS X sts D σ (upd H l (.frz od o))) : GoS X sts D σ H := .mk fun pins s I => by
  obtain ⟨od, I1⟩ := I.lock hl mu
  exact (h od (I.nofrz hl mu)).o pins s I1
theorem GoS.unlocked {sts : List Stmt} {l : Addr} {od : Obj} {o : HO} (hl : H l = some (.frz od o)) (hn : ∀ o' u', X.H_0 l ≠ some (.frz o' u')) (h : GoS X sts D σ (upd H l o)) : GoS X sts D σ H := .mk fun pins s I => h.o pins s (I.unlock hl hn)
/-- a statement that makes a new thing and reads a private one -/
theorem go_thawN {α β : Type} [Rp α] [Ob α] [FlatO α] [Rp β] [Ob β] {xs : α} {y : β} {l : Addr} {stm : Stmt} {τ : Addr → L2.St} (o : Own X.K H0 F H l y) (s : SmX X.K F H)
    (run : ∀ F' H', L2.Same F F' → SmX X.K F' H' → rp X.K F' (.ref l) y → (∀ a, a ≠ l → F' a = F a ∧ H' a = H a) →
      (∀ l2 o2 F2 H2, Gr F' H' F2 H2 → H' l2 = none → F2 l2 = none → H2 l2 = some o2 → ob X.K F2 o2 xs → GoS X rest D (τ l2) H2) → GoS X (stm :: rest) D σ H')
    (k : ∀ l2 o2 F2 H2, Gr F H F2 H2 → H l2 = none → F2 l2 = none → H2 l2 = some o2 → ob X.K F2 o2 xs → GoS X rest D (τ l2) H2) : GoS X (stm :: rest) D σ H := by
  obtain ⟨u, hl, r⟩ := o.h
  refine GoS.lockedU hl (Ob.mu r) fun od hn => ?_
  refine run _ _ (same_upd o.f) ⟨shown s.s, (s.h.upd (u := .frz od u) o.pl trivial).2⟩ (Ob.fz upd_same (Ob.mono (same_upd o.f) r)) (fun a ha => ⟨upd_ne ha, upd_ne ha⟩) fun l2 o2 F2 H2 g2 n2 f2 h2 r2 => ?_
  have e2 : F2 l = some (.frz od u) := g2.ff _ _ upd_same
  obtain ⟨n1, n2'⟩ := frz_no e2 (Ob.ls r)
  have hne : l2 ≠ l := fun e => by rw [e, upd_same] at n2; cases n2
  refine GoS.unlocked (g2.fh _ _ e2) hn (k l2 o2 (er F2 l) _ (Gr.hide hl o.f (Ob.pl r) g2) (by rw [upd_ne hne] at n2; exact n2) ?_ (by rw [upd_ne hne]; exact h2) (FlatO.fl n1 n2' r2))
  rw [er_ne hne]; exact f2
/-! ### products -/
theorem Rps.rep {α : Type} [Rp α] {vs : List V} {xs : List α} (r : Rps K F vs xs) : ∀ n : Nat, Rps K F (List.replicate n vs).flatten (List.replicate n xs).flatten
  | 0 => .nil
  | n + 1 => by
    rw [List.replicate_succ, List.replicate_succ, List.flatten_cons, List.flatten_cons]
    exact Rps.append r (Rps.rep r n)
def mulL {α : Type} (xs : List α) (n : Int) : Option (List α) := if -1000000 ≤ n ∧ n ≤ 1000000 ∧ xs.length * n.toNat ≤ 16777216 then some (List.replicate n.toNat xs).flatten else none
def mulT {α : Type} (xs : Tp α) (n : Int) : Option (Tp α) := if -1000 ≤ n ∧ n ≤ 1000 ∧ xs.l.length ≤ 1000 ∧ xs.l ≠ [] then some ⟨(List.replicate n.toNat xs.l).flatten⟩ else none
theorem tuple_mul1 (l : Addr) (items : Array Value) (n : Nat) (dd : Option Addr) (sl : Array (Option Value)) (u : Tok) :
    Meets (Builtin.«tuple.__mul__» ⟨[.ref l, .int 1 u], []⟩) (fun _ R s => s.heap.get? l = some { cls := .type "tuple", dict := dd, data := .seq items n, slots := sl } ∧ R (.ok (.ret (Value.ref l))) s) :=
  .of_wp fun prog w A R s h => by
    obtain ⟨hp, g, d, tk, os⟩ := s
    obtain ⟨hl, h⟩ := h
    have f1 := AutoSeq1.idx_int
    have c1 : (items.isEmpty || (1 : Int) == 1) = true := by simp
    wp_walk using wpAny_loadPart' hl
    repeat (first
      | (refine wpAny_ite_true (decide_eq_true c1) ?_; wp_walk using wpAny_loadPart' hl)
      | (refine wpAny_ite_true c1 ?_; wp_walk using wpAny_loadPart' hl)
      | (refine wpAny_ite_false (by decide) ?_; wp_walk using wpAny_loadPart' hl))
    exact ⟨_, rfl, h⟩
theorem tuple_mul0 (l : Addr) (items : Array Value) (n : Nat) (dd : Option Addr) (sl : Array (Option Value)) (x : Int) (u : Tok) (c0 : (decide (x < -(2 ^ 63)) || decide (x ≥ 2 ^ 63)) = false) (c1 : (items.isEmpty || x == 1) = false) (c2 : (decide (x ≤ 0) || items.isEmpty) = true) :
    Meets (Builtin.«tuple.__mul__» ⟨[.ref l, .int x u], []⟩) (fun _ R s => s.heap.get? l = some { cls := .type "tuple", dict := dd, data := .seq items n, slots := sl } ∧ R (.ok (.ret (Value.ref s.heap.objs.size))) { s with heap := s.heap.push { cls := Value.type "tuple", data := Data.seq #[] }, toks := s.toks }) :=
  .of_wp fun prog w A R s h => by
    obtain ⟨hp, g, d, tk, os⟩ := s
    obtain ⟨hl, h⟩ := h
    have f1 := AutoSeq1.idx_int
    have sz : ¬ (sizeLine < (#[] : Array Value).size) := Nat.not_lt_zero _
    wp_walk using wpAny_loadPart' hl
    repeat (first
      | (refine wpAny_ite_false (decide_eq_false (by rw [c0]; exact Bool.false_ne_true)) ?_; wp_walk using wpAny_loadPart' hl)
      | (refine wpAny_ite_false (decide_eq_false (by rw [c1]; exact Bool.false_ne_true)) ?_; wp_walk using wpAny_loadPart' hl)
      | (refine wpAny_ite_true (decide_eq_true c2) ?_; wp_walk using wpAny_loadPart' hl)
      | (refine wpAny_ite_true c2 ?_; wp_walk using wpAny_loadPart' hl)
      | (refine wpAny_ite_false (decide_eq_false sz) ?_; wp_walk using wpAny_loadPart' hl))
    exact ⟨_, rfl, h⟩
def rMulT (K : PySem.W.Frag) : R2 := fun x y H Q => ∃ l k xs, x = .ref l ∧ y = .int k ∧ SqT K H l xs ∧ xs ≠ [] ∧ -1000 ≤ k ∧ k ≤ 1000 ∧ xs.length ≤ 1000 ∧ (k = 1 → Q (.ref l) H) ∧ (k ≠ 1 → ∀ p, H p = none → Q (.ref p) (upd H p (.tup (List.replicate k.toNat xs).flatten)))
theorem op_mulT : OpR X (binaryOp .Mult) (rMulT X.K) := fun pins s σ H x y v u Q I rx ry ⟨l, k, xs, e1, e2, hT, hne, k1, k2, hz, q1, q2⟩ => by
  by_cases h1 : k = 1
  · subst h1; subst e1; subst e2
    have q := q1 rfl
    cases rx
    obtain ⟨t, rfl⟩ := ry
    obtain ⟨its, r, ⟨⟨cls, dd, data, sl⟩, ho, hc, n, hd⟩, hs⟩ := I.tuple hT
    simp only at hc hd
    subst hc hd
    exact wpAny_binaryOp_repeat_ref (T := "tuple") (U := "int") (by decide) ⟨_, ho, rfl⟩ (fun s' => typeIs_int s' 1 t) noFill_tuple_mul F.fills_int_mul F.slot_int_rmul repeat_tuple F.slot_int_index.lookup
      (call_meets F.slot_int_rmul (typeIs_int s 1 t) F.entry_int_rmul (F.args_int_rmul_2 _ _) (int_rmul_tuple 1 t l its.toArray n dd sl)
        ⟨ho, rfl, ⟨_, ho, rfl⟩, call_meets F.slot_tuple_mul ⟨_, ho, rfl⟩ F.entry_tuple_mul (F.args_tuple_mul_2 _ _) (tuple_mul1 l its.toArray n dd sl t) ⟨ho, ⟨.ref l, H, I.tok _, rfl, q⟩⟩⟩)
  · by_cases h2 : 2 ≤ k
    · exact op_repT pins s σ H x y v u Q I rx ry ⟨l, k, xs, e1, e2, hT, hne, h2, k2, hz, q2 h1⟩
    · subst e1; subst e2
      have q := q2 h1
      cases rx
      obtain ⟨t, rfl⟩ := ry
      obtain ⟨its, r, ⟨⟨cls, dd, data, sl⟩, ho, hc, n, hd⟩, hs⟩ := I.tuple hT
      simp only at hc hd
      subst hc hd
      have hi : its.toArray.isEmpty = false := by
        cases its with
        | nil => exact absurd (List.eq_nil_of_length_eq_zero (by rw [r.length]; rfl)) hne
        | cons a b => rfl
      have c0 : (decide (k < -(2 ^ 63)) || decide (k ≥ 2 ^ 63)) = false := by
        rw [decide_eq_false (by omega), decide_eq_false (by omega)]; rfl
      have c1 : (its.toArray.isEmpty || k == 1) = false := by
        rw [hi, beq_eq_false_iff_ne.mpr h1]; rfl
      have c2 : (decide (k ≤ 0) || its.toArray.isEmpty) = true := by
        rw [decide_eq_true (by omega)]; rfl
      have e0 : (List.replicate k.toNat xs).flatten = [] := by
        rw [show k.toNat = 0 by omega]; rfl
      rw [e0] at q
      have fr : H s.heap.objs.size = none := I.hok.fresh (Nat.le_refl _)
      exact wpAny_binaryOp_repeat_ref (T := "tuple") (U := "int") (by decide) ⟨_, ho, rfl⟩ (fun s' => typeIs_int s' k t) noFill_tuple_mul F.fills_int_mul F.slot_int_rmul repeat_tuple F.slot_int_index.lookup
        (call_meets F.slot_int_rmul (typeIs_int s k t) F.entry_int_rmul (F.args_int_rmul_2 _ _) (int_rmul_tuple k t l its.toArray n dd sl)
          ⟨ho, rfl, ⟨_, ho, rfl⟩, call_meets F.slot_tuple_mul ⟨_, ho, rfl⟩ F.entry_tuple_mul (F.args_tuple_mul_2 _ _) (tuple_mul0 l its.toArray n dd sl k t c0 c1 c2) ⟨ho, ⟨.ref s.heap.objs.size, upd H s.heap.objs.size (.tup []),
            I.laid (t' := s.toks) (fun b o e => Heap.get?_push_of_some _ e) (Nat.le_refl _) (show ObjOk X.prog X.w _ _ _ (.tup []) from ⟨Nat.zero_le _, [], .nil, IsTup.new _ _⟩), rfl, q _ fr⟩⟩⟩)
theorem ev_mulT {α : Type} [Rp α] {xs r : Tp α} {n : Int} (ha : Ev X a σ F H xs) (hb : Ev X b σ F H n) (h : mulT xs n = some r) : Ev X (.BinOp a .Mult b pos) σ F H r := ev_bin (α := Tp α) (β := Int) (γ := Tp α) op_mulT (fun F H v w Q s rv rw' k => by
  obtain ⟨p, vs, e, sq, rs⟩ := rv
  unfold mulT at h
  split at h
  case isFalse => cases h
  rename_i hz
  cases (Option.some.inj h)
  refine ⟨p, n, vs, e, rw', seqT_mono s sq, fun z => hz.2.2.2 (rs.nil_r.mp z), hz.1, hz.2.1, by rw [rs.length]; exact hz.2.2.1, fun h1 => ?_, fun h2 l hl => ?_⟩
  · subst h1
    refine k _ F H (.refl s) ⟨p, vs, rfl, sq, ?_⟩
    show Rps X.K F vs (List.replicate 1 xs.l).flatten
    rw [show (List.replicate 1 xs.l).flatten = xs.l by simp]; exact rs
  · exact k _ (upd F l (.tup _)) _ (Gr.new s hl) ⟨l, _, rfl, upd_same, (rs.rep _).mono (same_upd (s.free hl))⟩) ha hb
theorem en_mulL {α : Type} [Rp α] {xs r : List α} {n : Int} (ha : EvN X a σ F H xs) (hb : Ev X b σ F H n) (h : mulL xs n = some r) : EvN X (.BinOp a .Mult b pos) σ F H r := fun F1 H1 g Q q =>
  GoE.of (pe_op op_rep pe_go pe_go) (ha F1 H1 g _ fun l o F2 H2 g2 n2 f2 h2 ⟨vs, e, rs⟩ => hb F2 H2 (g.trans g2) _ fun w F3 H3 g3 r3 => by
    unfold mulL at h
    split at h
    case isFalse => cases h
    rename_i hz
    cases (Option.some.inj h)
    subst e
    refine ⟨l, n, vs, rfl, r3, g3.hh.k _ _ h2 (Ob.pl ‹_›).ntb, Int.le_trans (by decide) hz.1, Int.lt_of_le_of_lt hz.2.1 (by decide), by rw [rs.length, sizeLine_eq]; exact hz.2.2, fun p hp => EvN.new q (g2.trans g3) hp ((rs.mono g3.ff).rep _)⟩)
theorem mulT_p {α : Type} {xs : Tp α} {n : Int} (h : 1 ≤ n ∧ n ≤ 1000 ∧ xs.l.length ≤ 1000 ∧ xs.l ≠ []) : mulT xs n = some ⟨(List.replicate n.toNat xs.l).flatten⟩ := if_pos ⟨by omega, h.2⟩
theorem mulT_z {α : Type} {xs : Tp α} {n : Int} (h : -1000 ≤ n ∧ n ≤ 1000 ∧ xs.l.length ≤ 1000 ∧ xs.l ≠ []) : mulT xs n = some ⟨(List.replicate n.toNat xs.l).flatten⟩ := if_pos h
theorem mulL_p {α : Type} {xs : List α} {n : Int} (h : -1000000 ≤ n ∧ n ≤ 1000000 ∧ xs.length * n.toNat ≤ 16777216) : mulL xs n = some (List.replicate n.toNat xs).flatten := if_pos h
end
end Gx

/-! Gl: lists of dicts, rows taken apart. -/
namespace Gx
open PySem PySem.Spec PyProof.Rows L2
open Rp (rp)
open Ra (ra)
open Ob (ob)
section
variable {X : Cx} {K : PySem.W.Frag} {e a b c d : Expr} {es : List Expr} {σ : L2.St} {F H F0 H0 : Hp} {pos : Pos} {D : Ends} {st : Stmt} {rest body : List Stmt}
def tListVals (te : TE) : TE := fun σ H Q => te σ H fun x H1 => ∃ d kvs, x = .ref d ∧ Rd H1 d (.dK kvs) ∧ ∀ p, H1 p = none → Q (.ref p) (upd H1 p (.lst (kvs.map (·.2))))
theorem vals_snd : ∀ {kvs : List (Key × V)} {vs : List (Key × Value)}, KV kvs vs → Vals (kvs.map (·.2)) (vs.map (·.2))
  | _, _, .nil => .nil
  | _, _, .cons h t => .cons h.2 (vals_snd t)
theorem pe_listVals {te : TE} {p apos cpos : Pos} (hc : X.calm = true) (he : PE X e te) (hg : Gl X "list") (hm : X.mg "list" = none) (hv : bootBuiltins "list" = some (.type "list")) (hbase : attributeBase e "values" X.env (eval e X.env) = eval e X.env := by rfl) (hline : (apos.endLine == cpos.line) = true := by rfl)
    (hs : starEach [.Call (.Attribute e "values" apos) [] [] cpos] X.env = (false, eval (.Call (.Attribute e "values" apos) [] [] cpos) X.env) :: starEach [] X.env := by rfl) :
    PE X (.Call (.Name "list" p) [.Call (.Attribute e "values" apos) [] [] cpos] [] pos) (tListVals te) := by
  refine ⟨fun pins s σ H Q I hq => ?_⟩
  refine wpAny_Call_Name_kw (ld_blt I hg hm hv ?_)
  refine PyProof.Rows.callWith_type1 ?_ hs rfl
  rw [hs]
  show wpAny _ _ (spliced ((false, eval (.Call (.Attribute e "values" apos) [] [] cpos) X.env) :: backTo pos (starEach [] X.env))) _ _ s
  refine Calls.spliced_cons ?_
  refine wpAny_Call_method (T := "dict") (id := "dict.values") hbase rfl hline F.plainAttrs_dict F.slot_dict_values F.type_dict_values (thn (he.run pins s σ H _ I hq) fun u s1 ⟨x, H1, I1, rx, d, kvs, ex, hd, q⟩ => ?_)
  subst ex
  obtain rfl : u = Value.ref d := rx
  obtain ⟨hz, hs0, vs, kv, hdo⟩ := dk_rd I1.hok hd
  obtain ⟨ep, hat⟩ := hdo.dictAt
  have lk : kvs.length = vs.length := Paired.length kv
  have I2 : Inv X pins σ H1 { s1 with heap := s1.heap.push { cls := .type "dict_values", data := .fields #[.ref d] } } := I1.kept (t' := s1.toks) fun b ob q => Heap.get?_push_of_some _ q
  refine ⟨hdo.typeIs, hdo.mapOf.noDict, ?_⟩
  show wpAny _ _ (callWith cpos (.builtin "dict.values") [.ref d] [] []) _ X.xe s1
  refine method_meetsIn F.slot_dict_values F.entry_dict_values rfl (PySem.evalArgs_none ⟨rfl, hdo.typeIs, F.args_dict_values_1 _, _, meets_dict_values (mixKind X.prog X.w) d hs0, ⟨vs, hdo⟩, ?_⟩)
  refine Calls.spliced_nil ?_
  refine PySem.W.kdl_call (PySem.W.kdl_values (knd := mixKind X.prog X.w) (kvs := vs) (ep := ep)) (I1.ok.hd hc) ⟨⟨_, Heap.get?_push_size _ rfl, rfl, rfl⟩, hat.push _⟩ (by omega) fun h' tk acc c' hk hD hacc => ?_
  have ev : acc.toList = vs.map (·.2) := PySem.W.kdl_vals_eq _ (by rw [Array.length_toList]; exact hacc.1) fun j v e => hacc.2 j v (by rw [← Array.getElem?_toList]; exact e)
  refine ⟨.ref _, _, I2.laid (t' := tk) hk (Nat.le_refl _) (show ObjOk X.prog X.w _ _ _ (.lst (kvs.map (·.2))) from ⟨by rw [List.length_map]; exact hz, acc.toList, c', by rw [ev]; exact vals_snd kv, by rw [Array.toArray_toList]; exact hD⟩), rfl, q _ (I2.hok.fresh (Nat.le_refl _))⟩
theorem KR.vals {κ ν : Type} [Rp ν] : ∀ {kvs : List (κ × V)} {l : List (κ × ν)}, KR K F kvs l → Rps K F (kvs.map (·.2)) (l.map (·.2))
  | _, _, .nil => .nil
  | _, _, .cons h t => .cons h.2 (KR.vals t)
theorem KR.keysS {κ ν : Type} [Rp κ] [KeyS κ] [Rp ν] : ∀ {kvs : List (κ × V)} {l : List (κ × ν)}, KR K F kvs l → Rps K F ((kvm KeyS.g kvs).map fun kv => kV kv.1) (l.map (·.1))
  | _, _, .nil => .nil
  | _, _, .cons (a := p) (b := q) h t => .cons (KeyS.rpg.mpr (by show kV (KeyS.g p.1) = kV (KeyS.g q.1); rw [h.1])) (KR.keysS t)
section
variable {κ ν : Type} [Rp κ] [DecidableEq κ] [KeyS κ] [Rp ν]
theorem kvm_vals (kvs : List (κ × V)) : (kvm KeyS.g kvs).map (·.2) = kvs.map (·.2) := by unfold kvm; rw [List.map_map]; rfl
theorem en_listVals {m : Dct κ ν} {p apos cpos : Pos} (hm : X.mg "list" = none) (ha : Ev X a σ F H m) (hc : X.calm = true := by rfl) (hg : Gl X "list" := by rfl) (hbase : attributeBase a "values" X.env (eval a X.env) = eval a X.env := by rfl) (hline : (apos.endLine == cpos.line) = true := by rfl)
    (hs : starEach [.Call (.Attribute a "values" apos) [] [] cpos] X.env = (false, eval (.Call (.Attribute a "values" apos) [] [] cpos) X.env) :: starEach [] X.env := by rfl) : EvN X (.Call (.Name "list" p) [.Call (.Attribute a "values" apos) [] [] cpos] [] pos) σ F H m.vals := fun F1 H1 g Q q =>
  GoE.of (pe_listVals hc pe_go hg hm (by decide +kernel) hbase hline hs) (ha F1 H1 g _ fun v F2 H2 g2 r2 => by
    obtain ⟨p, o, kvs, e, hq, kr⟩ := r2
    refine ⟨p, _, e, .inr ⟨o, g2.fh _ _ hq⟩, fun l hl => ?_⟩
    rw [kvm_vals]
    exact EvN.new q g2 hl kr.vals)
theorem en_listKeys {m : Dct κ ν} {p : Pos} (hm : X.mg "list" = none) (ha : Ev X a σ F H m) (hc : X.calm = true := by rfl) (hg : Gl X "list" := by rfl) (hs : starEach [a] X.env = (false, eval a X.env) :: starEach [] X.env := by rfl) (hpl : (backTo pos (starEach [] X.env)).any (·.1) = false := by rfl) :
    EvN X (.Call (.Name "list" p) [a] [] pos) σ F H m.keys := fun F1 H1 g Q q =>
  GoE.of (pe_callTy (call_listD hc) hg hm (by decide +kernel) (pa_cons pe_go pa_nil hs) (by decide) (by decide) hs hpl) (ha F1 H1 g _ fun v F2 H2 g2 r2 => by
    obtain ⟨p, o, kvs, e, hq, kr⟩ := r2
    exact ⟨p, _, by rw [e], .inr ⟨o, g2.fh _ _ hq⟩, fun l hl => EvN.new q g2 hl kr.keysS⟩)
end
theorem ev_tup5 {α β γ δ ε : Type} [Rp α] [Rp β] [Rp γ] [Rp δ] [Rp ε] {x : α} {y : β} {z : γ} {u : δ} {w : ε} {k : Nat} (h : EvA X es σ F H (x, y, z, u, w, ())) : Ev X (.Tuple es k pos) σ F H (T5.mk x y z u w) := ev_tup (θ := T5 α β γ δ ε) h (by show 5 ≤ sizeLine; decide)
/-! ### rows of a known length -/
def to2 {α : Type} : List α → Option (T2 α α)
  | [x, y] => some ⟨x, y⟩
  | _ => none
def to3 {α : Type} : List α → Option (T3 α α α)
  | [x, y, z] => some ⟨x, y, z⟩
  | _ => none
theorem ev_to2 {α : Type} [Rp α] {xs : Tp α} {r : T2 α α} (h : Ev X e σ F H xs) (hr : Gx.to2 xs.l = some r) : Ev X e σ F H r := h.re fun F v r2 => by
  obtain ⟨xs⟩ := xs
  match xs, hr, r2 with
  | [x, y], hr, ⟨a, vs, e, q, rs⟩ =>
    cases hr
    cases rs with
    | cons r1 t => cases t with
      | cons r2 t => cases t; exact ⟨a, _, e, q, _, _, rfl, r1, _, _, rfl, r2, rfl⟩
theorem ev_to3 {α : Type} [Rp α] {xs : Tp α} {r : T3 α α α} (h : Ev X e σ F H xs) (hr : Gx.to3 xs.l = some r) : Ev X e σ F H r := h.re fun F v r2 => by
  obtain ⟨xs⟩ := xs
  match xs, hr, r2 with
  | [x, y, z], hr, ⟨a, vs, e, q, rs⟩ =>
    cases hr
    cases rs with
    | cons r1 t => cases t with
      | cons r2 t => cases t with
        | cons r3 t => cases t; exact ⟨a, _, e, q, _, _, rfl, r1, _, _, rfl, r2, _, _, rfl, r3, rfl⟩
end
end Gx

/-! Gp: loops over ranges, plainly. -/
namespace Gx
open PySem PySem.Spec PyProof.Rows L2
section
variable {α β γ ρ : Type}
theorem intsF_cons (k n : Nat) : intsF (k : Int) (n + 1) = (k : Int) :: intsF ((k + 1 : Nat) : Int) n := by rw [intsF_succ]; rfl
theorem Ok.range_aux {st : β → Int → Option β} {Q : β → Prop} (J : Nat → β → Prop) (n : Nat) (hs : ∀ k b, k < n → J k b → Ok (st b (k : Int)) fun b' => J (k + 1) b') (hq : ∀ b, J n b → Q b) : ∀ (m k : Nat) (b : β), k + m = n → J k b → Ok (Gx.loopN st b (intsF (k : Int) m)) Q
  | 0, k, b, e, h => ⟨b, rfl, hq b (by have : k = n := by omega
                                       exact this ▸ h)⟩
  | m + 1, k, b, e, h => by
    obtain ⟨b', e1, h1⟩ := hs k b (by omega) h
    rw [intsF_cons, loopN_cons e1]
    exact Ok.range_aux J n hs hq m (k + 1) b' (by omega) h1
/-- a loop over range(n) -/
theorem Ok.range {st : β → Int → Option β} {n : Nat} {b : β} {Q : β → Prop} (J : Nat → β → Prop) (h0 : J 0 b) (hs : ∀ k b, k < n → J k b → Ok (st b (k : Int)) fun b' => J (k + 1) b') (hq : ∀ b, J n b → Q b) : Ok (Gx.loopN st b (intsF 0 n)) Q :=
  Ok.range_aux J n hs hq n 0 b (by omega) h0
theorem Ok.rangeM_aux {st : β → Int → Option (Lp β ρ)} {Q : Lp β ρ → Prop} (J : Nat → β → Prop) (n : Nat) (hs : ∀ k b, k < n → J k b → Ok (st b (k : Int)) fun o => match o with | .nx b' => J (k + 1) b' | .bk b' => Q (.bk b') | .rt r => Q (.rt r)) (hq : ∀ b, J n b → Q (.nx b)) : ∀ (m k : Nat) (b : β), k + m = n → J k b → Ok (Gx.loopM st b (intsF (k : Int) m)) Q
  | 0, k, b, e, h => ⟨.nx b, rfl, hq b (by have : k = n := by omega
                                           exact this ▸ h)⟩
  | m + 1, k, b, e, h => by
    obtain ⟨o, e1, h1⟩ := hs k b (by omega) h
    rw [intsF_cons]
    cases o with
    | nx b' => rw [loopM_nx e1]; exact Ok.rangeM_aux J n hs hq m (k + 1) b' (by omega) h1
    | bk b' => exact ⟨.bk b', by rw [Gx.loopM, e1], h1⟩
    | rt r => exact ⟨.rt r, by rw [Gx.loopM, e1], h1⟩
theorem Ok.rangeM {st : β → Int → Option (Lp β ρ)} {n : Nat} {b : β} {Q : Lp β ρ → Prop} (J : Nat → β → Prop) (h0 : J 0 b) (hs : ∀ k b, k < n → J k b → Ok (st b (k : Int)) fun o => match o with | .nx b' => J (k + 1) b' | .bk b' => Q (.bk b') | .rt r => Q (.rt r)) (hq : ∀ b, J n b → Q (.nx b)) : Ok (Gx.loopM st b (intsF 0 n)) Q :=
  Ok.rangeM_aux J n hs hq n 0 b (by omega) h0
/-- a loop over range(n) that appends a few things each time -/
theorem loopN_flat {st : List γ → Int → Option (List γ)} (g : Nat → List γ) (n : Nat) (h : ∀ k < n, st ((List.range k).flatMap g) (k : Int) = some ((List.range k).flatMap g ++ g k)) : Gx.loopN st [] (intsF 0 n) = some ((List.range n).flatMap g) := by
  refine Ok.eq (Ok.range (fun k b => b = (List.range k).flatMap g) rfl (fun k b hk e => ?_) fun b e => e)
  subst e
  refine .of (h k hk) ?_
  rw [List.range_succ, List.flatMap_append, List.flatMap_cons, List.flatMap_nil, List.append_nil]
theorem flat_len {g : Nat → List γ} {m : Nat} (h : ∀ k, (g k).length = m) : ∀ n, ((List.range n).flatMap g).length = n * m
  | 0 => by simp
  | n + 1 => by rw [List.range_succ, List.flatMap_append, List.length_append, flat_len h n, List.flatMap_cons, List.flatMap_nil, List.append_nil, h, Nat.succ_mul]
theorem atI_at {xs : List α} {k : Nat} {x : α} (h : xs[k]? = some x) : L2.atI xs (k : Int) = some x := by
  rw [atI_nn (by omega), Int.toNat_natCast]; exact h
theorem Ok.andOr {a : Option Bool} {P : Bool → Prop} {b : Bool} (h1 : b = true → Ok a P) (h2 : b = false → P false) : Ok (if b = true then a else some false) P := by
  cases b with
  | true => rw [if_pos rfl]; exact h1 rfl
  | false => rw [if_neg Bool.false_ne_true]; exact .ret (h2 rfl)
end
end Gx

/-! Gq: calls that give a new thing; calls and methods that change a private thing. -/
namespace Gx
open PySem PySem.Spec PyProof.Rows L2
open Rp (rp)
open Ra (ra)
open Ob (ob)
section
variable {X : Cx} {K : PySem.W.Frag} {e a b c d : Expr} {es : List Expr} {σ : L2.St} {F H F0 H0 : Hp} {pos : Pos} {D : Ends} {st : Stmt} {rest body : List Stmt}
theorem go_retO {i : Nat} {v : V} {n : Str} {p : Pos} (hσ : σ[i]? = some (some v)) (k : D.rt v H) (hN : X.N[i]? = some n := by rfl) (hv : Vis X.env.scope n := by first | exact Or.inl rfl | exact Or.inr (Or.inl rfl) | exact Or.inr (Or.inr rfl))
    (hd : (n == ("__debug__" : Str)) = false := by decide) (hcd : (n == ("__classdict__" : Str)) = false := by decide) : GoS X (.Return (some (.Name n p)) pos :: rest) D σ H :=
  GoS.cons (ps_ret (pe_var hN hv hd hcd)) ⟨v, hσ, k⟩
theorem go_retE {α : Type} [Rp α] [Ob α] {x : α} (s : SmX X.K F H) (he : EvN X e σ F H x) (k : ∀ l o F' H', Gr F H F' H' → H l = none → F' l = none → H' l = some o → ob X.K F' o x → D.rt (.ref l) H') : GoS X (.Return (some e) pos :: rest) D σ H :=
  GoS.cons (ps_ret pe_go) (he F H (.refl s) _ fun l o F2 H2 g n f h r => k l o F2 H2 g n f h r)
/-! ### a new thing from a call -/
def PrN (K : PySem.W.Frag) {τ ρ : Type} [Ra τ] [Rp ρ] [Ob ρ] (f : τ → Option ρ) : Sp := fun vs H Q _ => ∃ F a r, SmX K F H ∧ ra K F vs a ∧ f a = some r ∧ ∀ l o F' H', Gr F H F' H' → H l = none → F' l = none → H' l = some o → ob K F' o r → Q (.ref l) H'
theorem en_call {τ ρ : Type} [Ra τ] [Rp ρ] [Ob ρ] {f : τ → Option ρ} {y : τ} {r : ρ} {k : Nat} {fa : Addr} {fd : FuncData} {ps : List Str} {x : Str} {p : Pos} (Fn : FnOk X.prog X.w X.K X.mg X.base CX0 k fa fd ps (PrN X.K f)) (hr : Room k X.A) (hm : X.mg x = some (.ref fa))
    (hk : PySem.W.keepIn X.K (.ref fa) = true) (hb : Binds X.K fd ps []) (ha : EvA X (e :: es) σ F H y) (h : f y = some r) (hg : Gl X x := by rfl) (hdb : (x == ("__debug__" : Str)) = false := by decide)
    (he : starEach (e :: es) X.env = (false, eval e X.env) :: starEach es X.env := by rfl) (hpl : (backTo pos (starEach es X.env)).any (·.1) = false := by rfl) : EvN X (.Call (.Name x p) (e :: es) [] pos) σ F H r := fun F1 H1 g Q q =>
  GoE.of (pe_call Fn hr hg hm hk hb .nil pass0 pa_go hdb he hpl) (ha F1 H1 g _ fun vs F2 H2 g2 r2 => ⟨F2, y, r, (g.trans g2).sm, by rw [List.append_nil]; exact r2, h, fun l o F3 H3 g3 n3 f3 h3 r3 => q l o F3 H3 (g2.trans g3) (g2.hh.free n3) f3 h3 r3⟩)
theorem fn_okN {P : Program} {w : World} {mg : Str → Option Value} {base : Heap} {τ ρ : Type} [Ra τ] [RaN τ] [Rp ρ] [Ob ρ] {f : τ → Option ρ} {x qual : Str} {s0 : Stmt} {fa : Addr} {fd : FuncData} {N ps : List Str} {k : Nat} (Fn : FunD K x qual (defArgs s0) (defBody s0) (defScope s0) [] [] fa fd) (S : FnScope N ps (defScope s0)) (hn : RaN.n τ = ps.length)
    (hbody : ∀ (cdv : Value) (A : Around) (outer : List Env) (s : Shared) (F H : Hp) (vs : List V) (a : τ) (r : ρ) (D : Ends) (E : XK), Room k (A.deeper (envOfC qual (defScope s0) s.heap.objs.size fa cdv)) → SmX K F H → ra K F vs a → f a = some r → (∀ l o F' H', GrX K F H F' H' → H l = none → F' l = none → H' l = some o → ob K F' o r → D.rt (.ref l) H') →
      True → GoS (cxOf CX0 P w K mg base N qual (defScope s0) fa cdv A outer s H E).nox (defBody s0) D (start N vs) H) :
    FnOk P w K mg base CX0 (k + 1) fa fd ps (PrN K f) := by
  refine Fn.ok S (fun vs H Q E ⟨F, a, r, _, ra', _⟩ => by rw [RaN.len ra', hn]) fun cdv A outer s H vs Q E hr ⟨F, a, r, sm, ra', hf, k⟩ => ?_
  exact ⟨_, PSs.nox pss_go, hbody cdv A outer s F H vs a r { nx := fun _ H' => Q .non H', rt := Q } E hr sm ra' hf (fun l o F' H' g n f h r => k l o F' H' g.toGr n f h r) trivial⟩
/-! ### a private thing that is changed -/
theorem Gr.erl {F1 H1 F2 H2 H3 : Hp} {l : Addr} {o : HO} (g : Gr F1 H1 F2 H2) (f : F1 l = none) (h : H1 l = some o) (ls : lstish o) (po : pln o) (k : ∀ b, b ≠ l → H3 b = H2 b) (no : ∀ ps, H3 l ≠ some (.tbl ps)) : Gr F1 (er H1 l) F2 H3 := by
  have f2 : F2 l = none := (g.fr l o h ls).trans f
  have h2 := g.hh.k l o h po.ntb
  have un : ∀ b u, er H1 l b = some u → b ≠ l ∧ H1 b = some u := fun b u e => by
    unfold er at e; split at e
    · cases e
    · exact ⟨by assumption, e⟩
  refine ⟨g.ff, fun b u e => ?_, ⟨fun b u e ns => ?_, fun b ps e => ?_, fun P a => ?_⟩, fun b u e n => ?_⟩
  · rw [k b (ne_of_none e f2)]; exact g.fh _ _ e
  · obtain ⟨hb, e⟩ := un b u e
    rw [k b hb]; exact g.hh.k _ _ e ns
  · obtain ⟨hb, e⟩ := un b _ e
    rw [k b hb]; exact g.hh.t _ _ e
  · exact (g.hh.w P ((Xt.start ⟨o, h, po⟩).w P a)).but ⟨o, h2, po⟩ k
  · exact g.fr b u (un b u e).2 n
theorem Own.erl {α : Type} [Rp α] [Ob α] {x : α} {l : Addr} {F2 H2 H3 : Hp} (o : Own K H0 F H l x) (g : Gr F H F2 H2) (k : ∀ b, b ≠ l → H3 b = H2 b) (no : ∀ ps, H3 l ≠ some (.tbl ps)) : Gr F (er H l) F2 H3 := by
  obtain ⟨u, h, r⟩ := o.h
  exact g.erl o.f h (Ob.ls r) (Ob.pl r) k no
theorem no_er {l : Addr} : ∀ ps, er H l l ≠ some (.tbl ps) := fun ps e => by rw [er_same] at e; cases e
theorem no_upd {l : Addr} {u : HO} (h : ntb u) : ∀ ps, upd H l u l ≠ some (.tbl ps) := fun ps e => by rw [upd_same] at e; cases e; exact h
theorem Own.ere {α : Type} [Rp α] [Ob α] {x : α} {l : Addr} {F2 H2 : Hp} (o : Own K H0 F H l x) (g : Gr F H F2 H2) : Gr F (er H l) F2 (er H2 l) := o.erl g (fun b hb => er_ne hb) no_er
/-- e is worth r and turns the thing at l to y -/
def EvM {ρ β : Type} [Rp ρ] [Rp β] [Ob β] (X : Cx) (e : Expr) (σ : L2.St) (F H : Hp) (l : Addr) (r : ρ) (y : β) : Prop := ∀ F1 H1, GrX X.K F H F1 H1 → ∀ Q : VK, (∀ u F2 H2 o, Gr F1 (er H1 l) F2 H2 → F2 l = none → H2 l = some o → ob X.K F2 o y → rp X.K F2 u r → Q u H2) → GoE X e σ H1 Q
def EvAM {τ1 τ2 : Type} [Ra τ1] [Ra τ2] (X : Cx) (es : List Expr) (σ : L2.St) (F H : Hp) (y : τ1) (l : Addr) (z : τ2) : Prop := ∀ F1 H1, GrX X.K F H F1 H1 → ∀ Q : List V → Hp → Prop, (∀ vs1 vs2 F2 H2, Gr F1 H1 F2 H2 → ra X.K F2 vs1 y → ra X.K F2 vs2 z → Q (vs1 ++ .ref l :: vs2) H2) → GoA X es σ H1 Q
theorem eam_here {τ2 : Type} [Ra τ2] {z : τ2} {l : Addr} {n : Str} {p : Pos} (i : Nat) (hσ : σ[i]? = some (some (.ref l))) (hr : EvA X es σ F H z) (hN : X.N[i]? = some n := by rfl) (hv : Vis X.env.scope n := by first | exact Or.inl rfl | exact Or.inr (Or.inl rfl) | exact Or.inr (Or.inr rfl))
    (hd : (n == ("__debug__" : Str)) = false := by decide) (hcd : (n == ("__classdict__" : Str)) = false := by decide) (hs : starEach (.Name n p :: es) X.env = (false, eval (.Name n p) X.env) :: starEach es X.env := by rfl) : EvAM X (.Name n p :: es) σ F H () l z := fun F1 H1 g Q q =>
  GoA.of (pa_cons (pe_var hN hv hd hcd) pa_go hs) ⟨_, hσ, hr F1 H1 g _ fun vs F2 H2 g2 r2 => q [] vs F2 H2 g2 rfl r2⟩
theorem eam_cons {α τ1 τ2 : Type} [Rp α] [Ra τ1] [Ra τ2] {x : α} {y : τ1} {z : τ2} {l : Addr} (ha : Ev X e σ F H x) (hr : EvAM X es σ F H y l z) (hs : starEach (e :: es) X.env = (false, eval e X.env) :: starEach es X.env := by rfl) : EvAM X (e :: es) σ F H (x, y) l z := fun F1 H1 g Q q =>
  GoA.of (pa_cons pe_go pa_go hs) (ha F1 H1 g _ fun v F2 H2 g2 r2 => hr F2 H2 (g.trans g2) _ fun vs1 vs2 F3 H3 g3 r3 r4 => q (v :: vs1) vs2 F3 H3 (g2.trans g3) ⟨v, vs1, rfl, Rp.mono g3.ff r2, r3⟩ r4)
/-- the promise of a def that changes the thing that is handed in at one place -/
def PrM (K : PySem.W.Frag) {τ1 τ2 β ρ : Type} [Ra τ1] [Ra τ2] [Rp β] [Ob β] [Rp ρ] (f : τ1 → β → τ2 → Option (ρ × β)) : Sp := fun vs H Q _ => ∃ F ws1 l ws2 o a1 x a2 r, vs = ws1 ++ .ref l :: ws2 ∧ SmX K F H ∧ ra K F ws1 a1 ∧ ra K F ws2 a2 ∧ F l = none ∧ H l = some o ∧ ob K F o x ∧ f a1 x a2 = some r ∧
  ∀ F' H' u o', Gr F (er H l) F' H' → F' l = none → H' l = some o' → ob K F' o' r.2 → rp K F' u r.1 → Q u H'
theorem em_call {τ1 τ2 β ρ : Type} [Ra τ1] [Ra τ2] [Rp β] [Ob β] [Rp ρ] {f : τ1 → β → τ2 → Option (ρ × β)} {y : τ1} {z : τ2} {xx : β} {r : ρ × β} {l : Addr} {k : Nat} {fa : Addr} {fd : FuncData} {ps : List Str} {x : Str} {p : Pos} (Fn : FnOk X.prog X.w X.K X.mg X.base CX0 k fa fd ps (PrM X.K f)) (hr : Room k X.A) (hm : X.mg x = some (.ref fa))
    (hk : PySem.W.keepIn X.K (.ref fa) = true) (hb : Binds X.K fd ps []) (o : Own X.K H0 F H l xx) (ha : EvAM X (e :: es) σ F H y l z) (h : f y xx z = some r) (hg : Gl X x := by rfl) (hdb : (x == ("__debug__" : Str)) = false := by decide)
    (he : starEach (e :: es) X.env = (false, eval e X.env) :: starEach es X.env := by rfl) (hpl : (backTo pos (starEach es X.env)).any (·.1) = false := by rfl) : EvM X (.Call (.Name x p) (e :: es) [] pos) σ F H l r.1 r.2 := fun F1 H1 g Q q =>
  GoE.of (pe_call Fn hr hg hm hk hb .nil pass0 pa_go hdb he hpl) (ha F1 H1 g _ fun vs1 vs2 F2 H2 g2 r2 r3 => by
    have o1 := o.up g.toGr
    have o2 := o1.up g2
    obtain ⟨u, hu, ru⟩ := o2.h
    exact ⟨F2, vs1, l, vs2, u, y, xx, z, r, by rw [List.append_nil], (g.trans g2).sm, r2, r3, o2.f, hu, ru, h, fun F3 H3 v o' g3 f3 h3 b3 r3 => q v F3 H3 o' ((o1.ere g2).trans g3) f3 h3 b3 r3⟩)
theorem fn_okM {P : Program} {w : World} {mg : Str → Option Value} {base : Heap} {τ1 τ2 β ρ : Type} [Ra τ1] [RaN τ1] [Ra τ2] [RaN τ2] [Rp β] [Ob β] [Rp ρ] {f : τ1 → β → τ2 → Option (ρ × β)} {x qual : Str} {s0 : Stmt} {fa : Addr} {fd : FuncData} {N ps : List Str} {k : Nat} (Fn : FunD K x qual (defArgs s0) (defBody s0) (defScope s0) [] [] fa fd) (S : FnScope N ps (defScope s0)) (hn : RaN.n τ1 + (RaN.n τ2 + 1) = ps.length)
    (hbody : ∀ (cdv : Value) (A : Around) (outer : List Env) (s : Shared) (F H0 H : Hp) (l : Addr) (vs1 vs2 : List V) (a1 : τ1) (x : β) (a2 : τ2) (r : ρ × β) (D : Ends) (E : XK), Room k (A.deeper (envOfC qual (defScope s0) s.heap.objs.size fa cdv)) → GrX K F H0 F H → Own K H0 F H l x → ra K F vs1 a1 → ra K F vs2 a2 → f a1 x a2 = some r →
      (∀ F' H' u o', GrX K F H0 F' H' → F' l = none → H' l = some o' → ob K F' o' r.2 → rp K F' u r.1 → D.rt u H') → (∀ σ' F' H' o', GrX K F H0 F' H' → F' l = none → H' l = some o' → ob K F' o' r.2 → rp K F' .non r.1 → D.nx σ' H') → GoS (cxOf CX0 P w K mg base N qual (defScope s0) fa cdv A outer s H E).nox (defBody s0) D (start N (vs1 ++ .ref l :: vs2)) H) :
    FnOk P w K mg base CX0 (k + 1) fa fd ps (PrM K f) := by
  refine Fn.ok S (fun vs H Q E ⟨F, ws1, l, ws2, o, a1, x, a2, r, e, _, r1, r2, _⟩ => by rw [e, List.length_append, List.length_cons, RaN.len r1, RaN.len r2, hn]) fun cdv A outer s H vs Q E hr ⟨F, ws1, l, ws2, o, a1, x, a2, r, e, sm, r1, r2, fl, hl, bo, hf, k⟩ => ?_
  subst e
  exact ⟨_, PSs.nox pss_go, hbody cdv A outer s F (er H l) H l ws1 ws2 a1 x a2 r { nx := fun _ H' => Q .non H', rt := Q } E hr ⟨Gr.start sm.s fl ⟨o, hl, Ob.pl bo⟩, sm.h⟩ ⟨er_same, fl, o, hl, bo⟩ r1 r2 hf (fun F' H' u o' g f h b r => k F' H' u o' g.toGr f h b r) fun σ' F' H' o' g f h b r => k F' H' .non o' g.toGr f h b r⟩
/-! ### statements by such expressions -/
theorem go_exprM {ρ β : Type} [Rp ρ] [Rp β] [Ob β] {r : ρ} {y : β} {l : Addr} (s : SmX X.K F H) (he : EvM X e σ F H l r y) (k : ∀ F' H' o, Gr F (er H l) F' H' → F' l = none → H' l = some o → ob X.K F' o y → GoS X rest D σ H') (hs : swapsWith e none pos.line X.env = pure false := by rfl) : GoS X (.Expr e pos :: rest) D σ H :=
  GoS.cons (ps_expr pe_go hs) (he F H (.refl s) _ fun v F2 H2 o g f h b r => k F2 H2 o g f h b)
theorem go_setM {ρ β : Type} [Rp ρ] [Rp β] [Ob β] {r : ρ} {y : β} {l : Addr} {n : Str} {p : Pos} (i : Nat) (s : SmX X.K F H) (he : EvM X e σ F H l r y) (k : ∀ v F' H' o, Gr F (er H l) F' H' → F' l = none → H' l = some o → ob X.K F' o y → rp X.K F' v r → GoS X rest D (σ.set i (some v)) H') (hN : X.N.Nodup) (hi : X.N[i]? = some n := by rfl)
    (hx : Loc X.env.scope n := by first | exact Or.inl rfl | exact Or.inr rfl) (hs : swapsWith e (some (.Name n p)) pos.line X.env = pure false := by rfl) (hf : X.fn n = true ∨ X.env.scope.names.lookup n = some .local := by first | exact .inl rfl | exact .inr rfl) :
    GoS X (.Assign [.Name n p] e pos :: rest) D σ H :=
  GoS.cons (ps_set hN hi hx pe_go hs hf) (he F H (.refl s) _ fun v F2 H2 o g f h b r => k v F2 H2 o g f h b r)
theorem go_retM {ρ β : Type} [Rp ρ] [Rp β] [Ob β] {r : ρ} {y : β} {l : Addr} (s : SmX X.K F H) (he : EvM X e σ F H l r y) (k : ∀ v F' H' o, Gr F (er H l) F' H' → F' l = none → H' l = some o → ob X.K F' o y → rp X.K F' v r → D.rt v H') : GoS X (.Return (some e) pos :: rest) D σ H :=
  GoS.cons (ps_ret pe_go) (he F H (.refl s) _ fun v F2 H2 o g f h b r => k v F2 H2 o g f h b r)
theorem go_appendM {ρ β : Type} [Rp ρ] [Rp β] [Ob β] {y : β} {l : Addr} {xs : List ρ} {w : ρ} {r : List ρ} {l2 : Addr} {n : Str} {p1 p2 p3 : Pos} (i : Nat) (s : SmX X.K F H) (o : Own X.K H0 F H l2 xs) (hne : l2 ≠ l) (hσ : σ[i]? = some (some (.ref l2))) (he : EvM X e σ F H l w y) (h : app xs w = some r)
    (k : ∀ u F' H' o', Gr F (er H l) F' H' → F' l = none → H' l = some o' → ob X.K F' o' y → PlAt H' l2 → F' l2 = none → Own X.K H0 F' (upd H' l2 u) l2 r → GoS X rest D σ (upd H' l2 u)) (hN : X.N[i]? = some n := by rfl) (hv : Vis X.env.scope n := by first | exact Or.inl rfl | exact Or.inr (Or.inl rfl) | exact Or.inr (Or.inr rfl))
    (hd : (n == ("__debug__" : Str)) = false := by decide) (hcd : (n == ("__classdict__" : Str)) = false := by decide) 
    (hbase : attributeBase (.Name n p1) "append" X.env (eval (.Name n p1) X.env) = eval (.Name n p1) X.env := by rfl)
    (hfew : ((backTo p3 (starEach [e] X.env)).all (fun x => !x.1) && (backToKw p3 (keywordEach [] X.env)).all (fun x => x.1.isSome) && decide ([e].length + ([] : List Keyword).length + (if ([] : List Keyword).isEmpty then 0 else 1) < 30)) = true := by rfl)
    (hline : (p2.endLine == p3.line) = true := by rfl) (hs : starEach [e] X.env = (false, eval e X.env) :: starEach [] X.env := by rfl) (hplain : (backTo p3 (starEach [] X.env)).any (·.1) = false := by rfl) (hsw : swapsWith (.Call (.Attribute (.Name n p1) "append" p2) [e] [] p3) none pos.line X.env = pure false := by rfl) :
    GoS X (.Expr (.Call (.Attribute (.Name n p1) "append" p2) [e] [] p3) pos :: rest) D σ H := by
  obtain ⟨_, hl, vs, rfl, rs⟩ := o.h
  obtain ⟨hz, rfl⟩ := app_of h
  refine GoS.cons (ps_expr (pe_bm PySem.F.plainAttrs_list PySem.F.slot_list_append PySem.F.type_list_append mt_append (pe_var hN hv hd hcd) (pa_cons pe_go pa_nil hs) hbase hfew hline hs hplain) hsw) ?_
  refine ⟨_, hσ, .inl ⟨rfl, _, SqL.of hl⟩, he F H (.refl s) _ fun v F2 H2 o' g f2 h2 b2 r => ?_⟩
  have o2 := o.over hne g
  obtain ⟨_, hl2, vs2, rfl, rs2⟩ := o2.h
  have hl3 : H2 l2 = some (.lst vs) := g.hh.k _ _ (by rw [er_ne hne]; exact hl) trivial
  rw [hl2] at hl3; cases hl3
  exact ⟨l2, vs, v, rfl, rfl, hl2, by rw [rs2.length]; exact hz, k _ F2 H2 o' g f2 h2 b2 o2.pl o2.f (Own.set o2.n o2.f (ob_lst (Rps.append rs2 (.cons r .nil))))⟩
/-! ### pop -/
theorem Rps.erase {α : Type} [Rp α] : ∀ {vs : List V} {xs : List α} (n : Nat), Rps K F vs xs → Rps K F (vs.eraseIdx n) (xs.eraseIdx n)
  | _, _, _, .nil => by simp; exact .nil
  | _, _, 0, .cons _ t => t
  | _, _, n + 1, .cons r t => .cons r (Rps.erase n t)
def popG {α : Type} (xs : List α) (i : Int) : Option (α × List α) := if -(2 ^ 62) ≤ i ∧ i < 2 ^ 62 then match seqIndex? i xs.length with
    | some k => (xs[k]?).map fun y => (y, xs.eraseIdx k)
    | none => none
  else none
theorem popG_of {α : Type} {xs : List α} {i : Int} {r : α × List α} (h : popG xs i = some r) : ∃ k, -(2 ^ 62) ≤ i ∧ i < 2 ^ 62 ∧ seqIndex? i xs.length = some k ∧ xs[k]? = some r.1 ∧ r.2 = xs.eraseIdx k := by
  unfold popG at h
  split at h
  case isFalse => cases h
  rename_i hi
  cases e : seqIndex? i xs.length with
  | none => rw [e] at h; cases h
  | some k =>
    rw [e] at h
    obtain ⟨y, h1, h2⟩ := Option.map_eq_some_iff.mp h
    subst h2
    exact ⟨k, hi.1, hi.2, rfl, h1, rfl⟩
theorem em_pop1 {α : Type} [Rp α] {xs : List α} {k : Int} {r : α × List α} {l : Addr} {n : Str} {p1 p2 p3 : Pos} (i : Nat) (o : Own X.K H0 F H l xs) (hσ : σ[i]? = some (some (.ref l))) (he : Ev X e σ F H k) (h : popG xs k = some r)
    (hN : X.N[i]? = some n := by rfl) (hv : Vis X.env.scope n := by first | exact Or.inl rfl | exact Or.inr (Or.inl rfl) | exact Or.inr (Or.inr rfl))
    (hd : (n == ("__debug__" : Str)) = false := by decide) (hcd : (n == ("__classdict__" : Str)) = false := by decide) 
    (hbase : attributeBase (.Name n p1) "pop" X.env (eval (.Name n p1) X.env) = eval (.Name n p1) X.env := by rfl)
    (hfew : ((backTo p3 (starEach [e] X.env)).all (fun x => !x.1) && (backToKw p3 (keywordEach [] X.env)).all (fun x => x.1.isSome) && decide ([e].length + ([] : List Keyword).length + (if ([] : List Keyword).isEmpty then 0 else 1) < 30)) = true := by rfl)
    (hline : (p2.endLine == p3.line) = true := by rfl) (hs : starEach [e] X.env = (false, eval e X.env) :: starEach [] X.env := by rfl) (hplain : (backTo p3 (starEach [] X.env)).any (·.1) = false := by rfl) :
    EvM X (.Call (.Attribute (.Name n p1) "pop" p2) [e] [] p3) σ F H l r.1 r.2 := fun F1 H1 g Q q => by
  have o1 := o.up g.toGr
  obtain ⟨_, hl, vs, rfl, rs⟩ := o1.h
  obtain ⟨j, b1, b2, hj, hy, e2⟩ := popG_of h
  refine GoE.of (pe_bm PySem.F.plainAttrs_list PySem.F.slot_list_pop PySem.F.type_list_pop mt_popAt (pe_var hN hv hd hcd) (pa_cons pe_go pa_nil hs) hbase hfew hline hs hplain) ?_
  refine ⟨_, hσ, .inl ⟨rfl, _, SqL.of hl⟩, he F1 H1 g _ fun v F2 H2 g2 r2 => ?_⟩
  have hl2 := g2.hh.k _ _ hl trivial
  have rs2 := rs.mono g2.ff
  obtain ⟨y, hy1, ry⟩ := rs2.get hy
  refine ⟨l, vs, k, j, y, rfl, by rw [show v = .int k from r2], hl2, Int.le_trans (by decide) b1, Int.lt_trans b2 (by decide), by rw [rs.length]; exact hj, hy1, ?_⟩
  exact q y F2 _ _ (o1.erl g2 (fun b hb => upd_ne hb) (no_upd trivial)) (o1.up g2).f upd_same (by rw [e2]; exact ob_lst (rs2.erase j)) ry
theorem seqIndex_nat {i : Int} {n : Nat} (h0 : 0 ≤ i) (h1 : i < n) : seqIndex? i n = some i.toNat := by
  have e1 : (if i < 0 then i + (n : Int) else i) = i := if_neg (by omega)
  unfold seqIndex?
  simp only [e1]
  rw [if_pos (by rw [decide_eq_true h0, decide_eq_true h1]; rfl)]
theorem popG_p {α : Type} {xs : List α} {i : Int} {y : α} (h0 : 0 ≤ i) (hs : xs.length < 1000000) (h : xs[i.toNat]? = some y) : popG xs i = some (y, xs.eraseIdx i.toNat) := by
  have := (List.getElem?_eq_some_iff.mp h).1
  unfold popG
  rw [if_pos ⟨by omega, by omega⟩, seqIndex_nat h0 (by omega)]
  simp only [h, Option.map_some]
/-! ### more than one part -/
theorem em_tup2a {α ρ β : Type} [Rp α] [Rp ρ] [Rp β] [Ob β] {r : ρ} {y xx : β} {z : α} {l : Addr} {k : Nat} (o : Own X.K H0 F H l xx) (ha : EvM X a σ F H l r y) (hb : Ev X b σ F (er H l) z) (hs : starEach [a, b] X.env = (false, eval a X.env) :: starEach [b] X.env := by rfl) (hs2 : starEach [b] X.env = (false, eval b X.env) :: starEach [] X.env := by rfl) : EvM X (.Tuple [a, b] k pos) σ F H l (T2.mk r z) y := fun F1 H1 g Q q =>
  GoE.of (pe_tup (pa_cons pe_go (pa_cons pe_go pa_nil hs2) hs)) (ha F1 H1 g _ fun u F2 H2 o' g2 f2 h2 b2 r2 => hb F2 H2 (.pre (o.ere g.toGr) ⟨g2, (g.h.er (o.up g.toGr).pl).up g2⟩) _ fun v F3 H3 g3 r3 => ⟨by show 2 ≤ sizeLine; decide, fun p hp => by
    have f3 : F3 l = none := (g3.fr l _ h2 (Ob.ls b2)).trans f2
    have h3 := g3.hh.k _ _ h2 (Ob.pl b2).ntb
    have g4 : Gr F3 H3 (upd F3 p (.tup [u, v])) (upd H3 p (.tup [u, v])) := Gr.new g3.fh hp trivial
    have hlp : l ≠ p := ne_of_none h3 hp
    exact q (.ref p) _ _ o' ((g2.trans g3).trans g4) (by rw [upd_ne hlp]; exact f3) (by rw [upd_ne hlp]; exact h3) (Ob.mono (g3.ff.trans g4.ff) b2) ⟨p, _, rfl, upd_same, u, _, rfl, Rp.mono (g3.ff.trans g4.ff) r2, v, _, rfl, Rp.mono g4.ff r3, rfl⟩⟩)
theorem em_thaw {ρ β γ : Type} [Rp ρ] [Flat ρ] [Rp β] [Ob β] [FlatO β] [Rp γ] [Ob γ] {x : ρ} {z : β} {y : γ} {l l2 : Addr} (o : Own X.K H0 F H l y) (hne : l2 ≠ l) (s : L2.Same F H) (h : ∀ F' H', L2.Same F F' → L2.Same F' H' → rp X.K F' (.ref l) y → (∀ a, a ≠ l → F' a = F a ∧ H' a = H a) → EvM X e σ F' H' l2 x z) : EvM X e σ F H l2 x z := fun F1 H1 g Q q => by
  obtain ⟨u, hl, r⟩ := o.h
  have hl1 := g.hh.k _ _ hl (Ob.pl r).ntb
  refine GoE.locked hl1 (Ob.mu r) fun od => ?_
  obtain ⟨g1, f1, h1⟩ := GrX.show_ (u := .frz od u) hl o.f (Ob.ls r) (Ob.pl r) g
  refine h _ _ (same_upd o.f) (shown s) (Ob.fz upd_same (Ob.mono (same_upd o.f) r)) (fun a ha => ⟨upd_ne ha, upd_ne ha⟩) _ _ g1 _ fun v F2 H2 o2 g2 f2 h2 b2 r2 => ?_
  have e1 : er (upd H1 l (.frz od u)) l2 = upd (er H1 l2) l (.frz od u) := by
    funext b
    unfold er upd
    by_cases hb : b = l
    · subst hb; rw [if_neg (fun z => hne z.symm), if_pos rfl, if_pos rfl]
    · rw [if_neg hb, if_neg hb]
  rw [e1] at g2
  have e2 : F2 l = some (.frz od u) := g2.ff _ _ upd_same
  obtain ⟨n1, n2⟩ := frz_no e2 (Ob.ls r)
  have g3 := Gr.hide (F1 := F1) (H1 := er H1 l2) (l := l) (o := u) (by rw [er_ne (fun z => hne z.symm)]; exact h1) f1 (Ob.pl r) g2
  refine ⟨g2.fh _ _ e2, q v (er F2 l) _ o2 g3 ?_ ?_ (FlatO.fl n1 n2 b2) (Flat.fl n1 n2 r2)⟩
  · rw [er_ne hne]; exact f2
  · rw [upd_ne hne]; exact h2
end
end Gx

/-! Gs: defs that give a new thing or change one; more methods of lists and dicts. -/
namespace Gx
open PySem PySem.Spec PyProof.Rows L2
open Rp (rp)
open Ra (ra)
open Ob (ob)
section
variable {X : Cx} {K : PySem.W.Frag} {e a b c d : Expr} {es : List Expr} {σ : L2.St} {F H F0 H0 : Hp} {pos : Pos} {D : Ends} {st : Stmt} {rest body : List Stmt}
theorem Own.own {α : Type} [Rp α] [Ob α] {x : α} {l : Addr} {o : HO} {H1 : Hp} (g : Gr H1 H0 F H) : True := trivial
/-- a def that gives a new thing -/
theorem fn_okN' {P : Program} {w : World} {mg : Str → Option Value} {base : Heap} {τ ρ : Type} [Ra τ] [RaN τ] [Rp ρ] [Ob ρ] {f : τ → Option ρ} {x qual : Str} {s0 : Stmt} {fa : Addr} {fd : FuncData} {N ps : List Str} {k : Nat} (Fn : FunD K x qual (defArgs s0) (defBody s0) (defScope s0) [] [] fa fd) (S : FnScope N ps (defScope s0)) (hn : RaN.n τ = ps.length)
    (hbody : ∀ (cdv : Value) (A : Around) (outer : List Env) (s : Shared) (F H : Hp) (vs : List V) (a : τ) (r : ρ) (D : Ends) (E : XK), Room k (A.deeper (envOfC qual (defScope s0) s.heap.objs.size fa cdv)) → SmX K F H → ra K F vs a → f a = some r → (∀ l F' H', GrX K F H F' H' → Own K H F' H' l r → D.rt (.ref l) H') →
      True → GoS (cxOf CX0 P w K mg base N qual (defScope s0) fa cdv A outer s H E).nox (defBody s0) D (start N vs) H) :
    FnOk P w K mg base CX0 (k + 1) fa fd ps (PrN K f) :=
  fn_okN Fn S hn fun cdv A outer s F H vs a r D E hr sm ra' hf kr _ => hbody cdv A outer s F H vs a r D E hr sm ra' hf (fun l F' H' g o => by
    obtain ⟨u, h, b⟩ := o.h
    exact kr l u F' H' g o.n o.f h b) trivial
theorem go_retO' {α : Type} [Rp α] [Ob α] {x : α} {l : Addr} {n : Str} {p : Pos} (i : Nat) (hσ : σ[i]? = some (some (.ref l))) (k : D.rt (.ref l) H) (hN : X.N[i]? = some n := by rfl) (hv : Vis X.env.scope n := by first | exact Or.inl rfl | exact Or.inr (Or.inl rfl) | exact Or.inr (Or.inr rfl))
    (hd : (n == ("__debug__" : Str)) = false := by decide) (hcd : (n == ("__classdict__" : Str)) = false := by decide) : GoS X (.Return (some (.Name n p)) pos :: rest) D σ H := go_retO hσ k hN hv hd hcd
/-- a def that changes the thing handed in at one place -/
theorem fn_okM' {P : Program} {w : World} {mg : Str → Option Value} {base : Heap} {τ1 τ2 β ρ : Type} [Ra τ1] [RaN τ1] [Ra τ2] [RaN τ2] [Rp β] [Ob β] [Rp ρ] {f : τ1 → β → τ2 → Option (ρ × β)} {x qual : Str} {s0 : Stmt} {fa : Addr} {fd : FuncData} {N ps : List Str} {k : Nat} (Fn : FunD K x qual (defArgs s0) (defBody s0) (defScope s0) [] [] fa fd) (S : FnScope N ps (defScope s0)) (hn : RaN.n τ1 + (RaN.n τ2 + 1) = ps.length)
    (hbody : ∀ (cdv : Value) (A : Around) (outer : List Env) (s : Shared) (F H0 H : Hp) (l : Addr) (vs1 vs2 : List V) (a1 : τ1) (x : β) (a2 : τ2) (r : ρ × β) (D : Ends) (E : XK), Room k (A.deeper (envOfC qual (defScope s0) s.heap.objs.size fa cdv)) → GrX K F H0 F H → Own K H0 F H l x → ra K F vs1 a1 → ra K F vs2 a2 → f a1 x a2 = some r →
      (∀ F' H' u, GrX K F H0 F' H' → Own K H0 F' H' l r.2 → rp K F' u r.1 → D.rt u H') → (∀ σ' F' H', GrX K F H0 F' H' → Own K H0 F' H' l r.2 → rp K F' .non r.1 → D.nx σ' H') → GoS (cxOf CX0 P w K mg base N qual (defScope s0) fa cdv A outer s H E).nox (defBody s0) D (start N (vs1 ++ .ref l :: vs2)) H) :
    FnOk P w K mg base CX0 (k + 1) fa fd ps (PrM K f) :=
  fn_okM Fn S hn fun cdv A outer s F H0 H l vs1 vs2 a1 x a2 r D E hr g o r1 r2 hf kr kn => hbody cdv A outer s F H0 H l vs1 vs2 a1 x a2 r D E hr g o r1 r2 hf
    (fun F' H' u g o r => by
      obtain ⟨v, h, b⟩ := o.h
      exact kr F' H' u v g o.f h b r)
    (fun σ' F' H' g o r => by
      obtain ⟨v, h, b⟩ := o.h
      exact kn σ' F' H' v g o.f h b r)
theorem Own.mk' {α : Type} [Rp α] [Ob α] {y : α} {l : Addr} {o : HO} (n : H0 l = none) (f : F l = none) (h : H l = some o) (b : ob K F o y) : Own K H0 F H l y := ⟨n, f, o, h, b⟩
/-! ### pop, extend, insert, reverse, clear -/
def popE {α : Type} (xs : List α) : Option (α × List α) := match xs.getLast? with
  | some y => some (y, xs.dropLast)
  | none => none
theorem popE_of {α : Type} {xs : List α} {r : α × List α} (h : popE xs = some r) : xs[xs.length - 1]? = some r.1 ∧ r.2 = xs.dropLast := by
  unfold popE at h
  rw [List.getLast?_eq_getElem?] at h
  cases e : xs[xs.length - 1]? with
  | none => rw [e] at h; cases h
  | some y => rw [e] at h; cases h; exact ⟨rfl, rfl⟩
theorem popE_p {α : Type} {xs : List α} {y : α} : popE (xs ++ [y]) = some (y, xs) := by unfold popE; simp
theorem Rps.dropLast {α : Type} [Rp α] {vs : List V} {xs : List α} (h : Rps K F vs xs) : Rps K F vs.dropLast xs.dropLast := by
  rw [List.dropLast_eq_take, List.dropLast_eq_take, h.length]; exact Rps.take _ h
theorem Rps.reverse {α : Type} [Rp α] : ∀ {vs : List V} {xs : List α}, Rps K F vs xs → Rps K F vs.reverse xs.reverse
  | _, _, .nil => .nil
  | _, _, .cons r t => by rw [List.reverse_cons, List.reverse_cons]; exact Rps.append (Rps.reverse t) (.cons r .nil)
section
variable {α : Type} [Rp α] {xs : List α} {l : Addr} {n : Str} {p1 p2 p3 : Pos}
theorem em_pop0 {r : α × List α} (i : Nat) (o : Own X.K H0 F H l xs) (hσ : σ[i]? = some (some (.ref l))) (h : popE xs = some r) (hN : X.N[i]? = some n := by rfl) (hv : Vis X.env.scope n := by first | exact Or.inl rfl | exact Or.inr (Or.inl rfl) | exact Or.inr (Or.inr rfl))
    (hd : (n == ("__debug__" : Str)) = false := by decide) (hcd : (n == ("__classdict__" : Str)) = false := by decide) (hbase : attributeBase (.Name n p1) "pop" X.env (eval (.Name n p1) X.env) = eval (.Name n p1) X.env := by rfl) (hline : (p2.endLine == p3.line) = true := by rfl) :
    EvM X (.Call (.Attribute (.Name n p1) "pop" p2) [] [] p3) σ F H l r.1 r.2 := fun F1 H1 g Q q => by
  have o1 := o.up g.toGr
  obtain ⟨_, hl, vs, rfl, rs⟩ := o1.h
  obtain ⟨hy, e2⟩ := popE_of h
  refine GoE.of (pe_bm0 PySem.F.plainAttrs_list PySem.F.slot_list_pop PySem.F.type_list_pop mt_pop (pe_var hN hv hd hcd) hbase hline) ?_
  obtain ⟨y, hy1, ry⟩ := rs.get hy
  refine ⟨_, hσ, .inl ⟨rfl, _, SqL.of hl⟩, l, vs, y, rfl, rfl, hl, by rw [rs.length]; exact hy1, ?_⟩
  exact q y F1 _ _ (o1.erl (.refl g.fh) (fun b hb => upd_ne hb) (no_upd trivial)) o1.f upd_same (by rw [e2]; exact ob_lst rs.dropLast) ry
theorem em_reverse (i : Nat) (o : Own X.K H0 F H l xs) (hσ : σ[i]? = some (some (.ref l))) (hN : X.N[i]? = some n := by rfl) (hv : Vis X.env.scope n := by first | exact Or.inl rfl | exact Or.inr (Or.inl rfl) | exact Or.inr (Or.inr rfl))
    (hd : (n == ("__debug__" : Str)) = false := by decide) (hcd : (n == ("__classdict__" : Str)) = false := by decide) (hbase : attributeBase (.Name n p1) "reverse" X.env (eval (.Name n p1) X.env) = eval (.Name n p1) X.env := by rfl) (hline : (p2.endLine == p3.line) = true := by rfl) :
    EvM X (.Call (.Attribute (.Name n p1) "reverse" p2) [] [] p3) σ F H l () xs.reverse := fun F1 H1 g Q q => by
  have o1 := o.up g.toGr
  obtain ⟨_, hl, vs, rfl, rs⟩ := o1.h
  refine GoE.of (pe_bm0 PySem.F.plainAttrs_list PySem.F.slot_list_reverse PySem.F.type_list_reverse mt_reverse (pe_var hN hv hd hcd) hbase hline) ?_
  exact ⟨_, hσ, .inl ⟨rfl, _, SqL.of hl⟩, l, vs, rfl, rfl, hl, q .non F1 _ _ (o1.erl (.refl g.fh) (fun b hb => upd_ne hb) (no_upd trivial)) o1.f upd_same (ob_lst rs.reverse) rfl⟩
theorem em_clear (i : Nat) (o : Own X.K H0 F H l xs) (hσ : σ[i]? = some (some (.ref l))) (hN : X.N[i]? = some n := by rfl) (hv : Vis X.env.scope n := by first | exact Or.inl rfl | exact Or.inr (Or.inl rfl) | exact Or.inr (Or.inr rfl))
    (hd : (n == ("__debug__" : Str)) = false := by decide) (hcd : (n == ("__classdict__" : Str)) = false := by decide) (hbase : attributeBase (.Name n p1) "clear" X.env (eval (.Name n p1) X.env) = eval (.Name n p1) X.env := by rfl) (hline : (p2.endLine == p3.line) = true := by rfl) :
    EvM X (.Call (.Attribute (.Name n p1) "clear" p2) [] [] p3) σ F H l () ([] : List α) := fun F1 H1 g Q q => by
  have o1 := o.up g.toGr
  obtain ⟨_, hl, vs, rfl, rs⟩ := o1.h
  refine GoE.of (pe_bm0 PySem.F.plainAttrs_list PySem.F.slot_list_clear PySem.F.type_list_clear mt_clear (pe_var hN hv hd hcd) hbase hline) ?_
  exact ⟨_, hσ, .inl ⟨rfl, _, SqL.of hl⟩, l, vs, rfl, rfl, hl, q .non F1 _ _ (o1.erl (.refl g.fh) (fun b hb => upd_ne hb) (no_upd trivial)) o1.f upd_same (ob_lst .nil) rfl⟩
theorem list_extendW (l : Addr) (items : Array Value) (n : Nat) (b : Addr) (items2 : Array Value) (n2 : Nat) (dd2 : Option Addr) (sl2 : Array (Option Value)) (hc0 : ¬(!items.isEmpty && Builtin.List.listTooLong (items.size + items2.size)) = true) (hc1 : items.size ≤ sizeLine) (hs2 : items.size + items2.size ≤ sizeLine + 1) :
    Meets (Builtin.«list.extend» ⟨[.ref l, .ref b], []⟩) (fun _ R s => s.heap.get? l = some { cls := .type "list", dict := none, data := .seq items n, slots := #[] } ∧ s.heap.get? b = some { cls := .type "list", dict := dd2, data := .seq items2 n2, slots := sl2 } ∧ R (.ok (.ret Value.none)) { s with heap := s.heap.update l (Obj.mapSeq fun x => x ++ items2), toks := s.toks }) :=
  .of_wp fun prog w A R s h => by
    obtain ⟨hp, g, d, tk, os⟩ := s; obtain ⟨hl, hb, h⟩ := h; have f1 := AutoSeq1.idx_int; have f2 := AutoSeq1.sub_tuple_tuple; have f3 := AutoSeq1.sub_list_list; have f4 := AutoSeq1.sub_tuple_list; have f5 := AutoSeq1.sub_list_tuple;
    have hz' : (items ++ items2).size ≤ sizeLine + 1 := by rw [Array.size_append]; exact hs2
    wp_walk using (wpAny_updateSeq hl rfl (hz := hc1) (_hz' := hz')), wpAny_loadPart' hl, wpAny_loadPart' hb; exact ⟨_, rfl, h⟩
def rExtendF (K : PySem.W.Frag) : V → List V → Hp → VK → Prop := fun x vs H Q => ∃ l b xs zs, x = .ref l ∧ vs = [.ref b] ∧ H l = some (.lst xs) ∧ SqL K H b zs ∧ xs.length + zs.length ≤ sizeLine ∧ Q .non (upd H l (.lst (xs ++ zs)))
theorem mt_extendF : MtR X "list.extend" (rExtendF X.K) := by
  intro pins s σ H x vs v us Q I rx rv h
  obtain ⟨l, b, xs, zs, rfl, rfl, hH, hB, hz, q⟩ := h
  cases rx
  obtain ⟨u, rfl, ru⟩ := rv.one
  cases ru
  obtain ⟨z, its, n, r, hl, e⟩ := I.lstM hH
  obtain ⟨its2, r2, ⟨⟨cls2, dd2, data2, sl2⟩, n2, ho2, hc2, _, hd2⟩, _⟩ := I.list hB
  simp only at hc2 hd2
  subst hc2 hd2
  have l2 := r2.length
  have hsz : its.toArray.size + its2.toArray.size ≤ sizeLine := by rw [List.size_toArray, List.size_toArray]; omega
  have hlong : ¬ (!its.toArray.isEmpty && Builtin.List.listTooLong (its.toArray.size + its2.toArray.size)) = true := by
    rw [notLongL hsz, Bool.and_false]
    exact Bool.false_ne_true
  refine call_meets F.slot_list_extend ⟨_, e, rfl⟩ F.entry_list_extend (F.args_list_extend_2 _ _)
    (list_extendW l its.toArray n b its2.toArray n2 dd2 sl2 hlong (by rw [List.size_toArray]; omega) (by omega)) ⟨e, ho2, ?_⟩
  refine ⟨.non, _, I.lset (its' := its ++ its2) hH e (by simp) (r.append r2) ?_, rfl, q⟩
  rw [List.length_append]
  omega
theorem em_extend {ys r : List α} (i : Nat) (o : Own X.K H0 F H l xs) (hσ : σ[i]? = some (some (.ref l))) (he : Ev X e σ F H ys) (h : catG xs ys = some r)
    (hN : X.N[i]? = some n := by rfl) (hv : Vis X.env.scope n := by first | exact Or.inl rfl | exact Or.inr (Or.inl rfl) | exact Or.inr (Or.inr rfl))
    (hd : (n == ("__debug__" : Str)) = false := by decide) (hcd : (n == ("__classdict__" : Str)) = false := by decide) 
    (hbase : attributeBase (.Name n p1) "extend" X.env (eval (.Name n p1) X.env) = eval (.Name n p1) X.env := by rfl)
    (hfew : ((backTo p3 (starEach [e] X.env)).all (fun x => !x.1) && (backToKw p3 (keywordEach [] X.env)).all (fun x => x.1.isSome) && decide ([e].length + ([] : List Keyword).length + (if ([] : List Keyword).isEmpty then 0 else 1) < 30)) = true := by rfl)
    (hline : (p2.endLine == p3.line) = true := by rfl) (hs : starEach [e] X.env = (false, eval e X.env) :: starEach [] X.env := by rfl) (hplain : (backTo p3 (starEach [] X.env)).any (·.1) = false := by rfl) :
    EvM X (.Call (.Attribute (.Name n p1) "extend" p2) [e] [] p3) σ F H l () r := fun F1 H1 g Q q => by
  have o1 := o.up g.toGr
  obtain ⟨_, hl, vs, rfl, rs⟩ := o1.h
  unfold catG at h
  split at h
  case isFalse => cases h
  rename_i hz
  cases (Option.some.inj h)
  refine GoE.of (pe_bm PySem.F.plainAttrs_list PySem.F.slot_list_extend PySem.F.type_list_extend mt_extendF (pe_var hN hv hd hcd) (pa_cons pe_go pa_nil hs) hbase hfew hline hs hplain) ?_
  refine ⟨_, hσ, .inl ⟨rfl, _, SqL.of hl⟩, he F1 H1 g _ fun v F2 H2 g2 r2 => ?_⟩
  obtain ⟨b, zs, rfl, sq, rz⟩ := r2
  have hl2 := g2.hh.k _ _ hl trivial
  exact ⟨l, b, vs, zs, rfl, rfl, hl2, g2.fh.seq sq, by rw [rs.length, rz.length]; exact hz, q .non F2 _ _ (o1.erl g2 (fun b hb => upd_ne hb) (no_upd trivial)) (o1.up g2).f upd_same (ob_lst (Rps.append (rs.mono g2.ff) rz)) rfl⟩
def insG {α : Type} (xs : List α) (i : Int) (y : α) : Option (List α) := if 0 ≤ i ∧ i < 2 ^ 62 ∧ xs.length < sizeLine then some (xs.take i.toNat ++ [y] ++ xs.drop i.toNat) else none
theorem insG_of {α : Type} {xs : List α} {i : Int} {y : α} {r : List α} (h : insG xs i y = some r) : 0 ≤ i ∧ i < 2 ^ 63 ∧ xs.length < sizeLine ∧ r = xs.take i.toNat ++ [y] ++ xs.drop i.toNat := by
  unfold insG at h
  split at h
  · rename_i h1
    exact ⟨h1.1, Int.lt_trans h1.2.1 (by decide), h1.2.2, (Option.some.inj h).symm⟩
  · cases h
theorem insG_p {α : Type} {xs : List α} {i : Int} {y : α} (h0 : 0 ≤ i) (h1 : i < 1000000) (h2 : xs.length < 16777216) : insG xs i y = some (xs.take i.toNat ++ [y] ++ xs.drop i.toNat) := if_pos ⟨h0, Int.lt_trans h1 (by decide), by rw [szl]; exact h2⟩
theorem em_insert {k : Int} {y : α} {r : List α} (i : Nat) (o : Own X.K H0 F H l xs) (hσ : σ[i]? = some (some (.ref l))) (ha : Ev X a σ F H k) (he : Ev X e σ F H y) (h : insG xs k y = some r)
    (hN : X.N[i]? = some n := by rfl) (hv : Vis X.env.scope n := by first | exact Or.inl rfl | exact Or.inr (Or.inl rfl) | exact Or.inr (Or.inr rfl))
    (hd : (n == ("__debug__" : Str)) = false := by decide) (hcd : (n == ("__classdict__" : Str)) = false := by decide) 
    (hbase : attributeBase (.Name n p1) "insert" X.env (eval (.Name n p1) X.env) = eval (.Name n p1) X.env := by rfl)
    (hfew : ((backTo p3 (starEach [a, e] X.env)).all (fun x => !x.1) && (backToKw p3 (keywordEach [] X.env)).all (fun x => x.1.isSome) && decide ([a, e].length + ([] : List Keyword).length + (if ([] : List Keyword).isEmpty then 0 else 1) < 30)) = true := by rfl)
    (hline : (p2.endLine == p3.line) = true := by rfl) (hs : starEach [a, e] X.env = (false, eval a X.env) :: starEach [e] X.env := by rfl) (hs2 : starEach [e] X.env = (false, eval e X.env) :: starEach [] X.env := by rfl) (hplain : (backTo p3 (starEach [e] X.env)).any (·.1) = false := by rfl) :
    EvM X (.Call (.Attribute (.Name n p1) "insert" p2) [a, e] [] p3) σ F H l () r := fun F1 H1 g Q q => by
  have o1 := o.up g.toGr
  obtain ⟨_, hl, vs, rfl, rs⟩ := o1.h
  obtain ⟨k0, k1, hz, rfl⟩ := insG_of h
  refine GoE.of (pe_bm PySem.F.plainAttrs_list PySem.F.slot_list_insert PySem.F.type_list_insert mt_insert (pe_var hN hv hd hcd) (pa_cons pe_go (pa_cons pe_go pa_nil hs2) hs) hbase hfew hline hs hplain) ?_
  refine ⟨_, hσ, .inl ⟨rfl, _, SqL.of hl⟩, ha F1 H1 g _ fun v F2 H2 g2 r2 => he F2 H2 (g.trans g2) _ fun u F3 H3 g3 r3 => ?_⟩
  have g4 := g2.trans g3
  have hl2 := g4.hh.k _ _ hl trivial
  have rs2 := rs.mono g4.ff
  refine ⟨l, vs, k, u, rfl, by rw [show v = .int k from r2], hl2, by rw [rs.length]; exact hz, k0, k1, q .non F3 _ _ (o1.erl g4 (fun b hb => upd_ne hb) (no_upd trivial)) (o1.up g4).f upd_same (ob_lst (Rps.append (Rps.append (Rps.take _ rs2) (.cons r3 .nil)) (Rps.drop _ rs2))) rfl⟩
/-- .. the item coming out of the list itself -/
theorem em_insertM {k : Int} {y : α} {ys r : List α} (i : Nat) (o : Own X.K H0 F H l xs) (hσ : σ[i]? = some (some (.ref l))) (ha : Ev X a σ F H k) (he : EvM X e σ F H l y ys) (h : insG ys k y = some r)
    (hN : X.N[i]? = some n := by rfl) (hv : Vis X.env.scope n := by first | exact Or.inl rfl | exact Or.inr (Or.inl rfl) | exact Or.inr (Or.inr rfl))
    (hd : (n == ("__debug__" : Str)) = false := by decide) (hcd : (n == ("__classdict__" : Str)) = false := by decide) 
    (hbase : attributeBase (.Name n p1) "insert" X.env (eval (.Name n p1) X.env) = eval (.Name n p1) X.env := by rfl)
    (hfew : ((backTo p3 (starEach [a, e] X.env)).all (fun x => !x.1) && (backToKw p3 (keywordEach [] X.env)).all (fun x => x.1.isSome) && decide ([a, e].length + ([] : List Keyword).length + (if ([] : List Keyword).isEmpty then 0 else 1) < 30)) = true := by rfl)
    (hline : (p2.endLine == p3.line) = true := by rfl) (hs : starEach [a, e] X.env = (false, eval a X.env) :: starEach [e] X.env := by rfl) (hs2 : starEach [e] X.env = (false, eval e X.env) :: starEach [] X.env := by rfl) (hplain : (backTo p3 (starEach [e] X.env)).any (·.1) = false := by rfl) :
    EvM X (.Call (.Attribute (.Name n p1) "insert" p2) [a, e] [] p3) σ F H l () r := fun F1 H1 g Q q => by
  have o1 := o.up g.toGr
  obtain ⟨_, hl, vs, rfl, rs⟩ := o1.h
  obtain ⟨k0, k1, hz, rfl⟩ := insG_of h
  refine GoE.of (pe_bm PySem.F.plainAttrs_list PySem.F.slot_list_insert PySem.F.type_list_insert mt_insert (pe_var hN hv hd hcd) (pa_cons pe_go (pa_cons pe_go pa_nil hs2) hs) hbase hfew hline hs hplain) ?_
  refine ⟨_, hσ, .inl ⟨rfl, _, SqL.of hl⟩, ha F1 H1 g _ fun v F2 H2 g2 r2 => he F2 H2 (g.trans g2) _ fun u F3 H3 o' g3 f3 h3 b3 r3 => ?_⟩
  obtain ⟨ws, rfl, rw3⟩ := b3
  have g4 : Gr F1 (er H1 l) F3 H3 := ((o1.ere g2)).trans g3
  have e4 : ∀ b, b ≠ l → upd H3 l (.lst (ws.take k.toNat ++ [u] ++ ws.drop k.toNat)) b = H3 b := fun b hb => upd_ne hb
  refine ⟨l, ws, k, u, rfl, by rw [show v = .int k from r2], h3, by rw [rw3.length]; exact hz, k0, k1, q .non F3 _ _ (g4.poke er_same f3 ⟨_, h3, trivial⟩ trivial) f3 upd_same (ob_lst (Rps.append (Rps.append (Rps.take _ rw3) (.cons r3 .nil)) (Rps.drop _ rw3))) rfl⟩
/-! ### xs[i] = e -/
def setG {α : Type} (xs : List α) (i : Int) (y : α) : Option (List α) := (ixN xs.length i).map fun j => xs.set j y
theorem Rps.set {α : Type} [Rp α] {v : V} {x : α} (r : rp K F v x) : ∀ {vs : List V} {xs : List α} (n : Nat), Rps K F vs xs → Rps K F (vs.set n v) (xs.set n x)
  | _, _, _, .nil => .nil
  | _, _, 0, .cons _ t => .cons r t
  | _, _, n + 1, .cons r' t => .cons r' (Rps.set r n t)
theorem go_setL {k : Int} {y : α} {r : List α} (i : Nat) (s : SmX X.K F H) (o : Own X.K H0 F H l xs) (hσ : σ[i]? = some (some (.ref l))) (he : Ev X e σ F H y) (hk : Ev X a σ F H k) (h : setG xs k y = some r)
    (kk : ∀ u F' H', Gr F H F' H' → PlAt H' l → F' l = none → Own X.K H0 F' (upd H' l u) l r → GoS X rest D σ (upd H' l u)) (hN : X.N[i]? = some n := by rfl) (hv : Vis X.env.scope n := by first | exact Or.inl rfl | exact Or.inr (Or.inl rfl) | exact Or.inr (Or.inr rfl))
    (hd : (n == ("__debug__" : Str)) = false := by decide) (hcd : (n == ("__classdict__" : Str)) = false := by decide)
    (ha : ∀ v, assign (.Subscript (.Name n p1) a p2) X.env v = (do
      let ov ← holding [v] (eval (.Name n p1) X.env)
      let iv ← holding [v, ov] (eval a X.env)
      standAt p2
      holding [v, ov, iv] (setItem ov iv v)
      release [v, ov, iv] []) := by intro _; rfl)
    (hs : swapsWithSole [.Subscript (.Name n p1) a p2] e pos.line X.env = pure false := by rfl) (hw : swappedStores [.Subscript (.Name n p1) a p2] e X.env = pure none := by rfl) (h1 : (assignEach [.Subscript (.Name n p1) a p2] X.env).map (·.2) = [assign (.Subscript (.Name n p1) a p2) X.env] := by rfl) :
    GoS X (.Assign [.Subscript (.Name n p1) a p2] e pos :: rest) D σ H := by
  obtain ⟨j, hj, rfl⟩ := Option.map_eq_some_iff.mp h
  obtain ⟨_, hl, vs, rfl, rs⟩ := o.h
  refine GoS.cons (ps_asg pe_go (pg_sub (pe_var hN hv hd hcd) pe_go set_list ha) hs hw h1) (he F H (.refl s) _ fun v F2 H2 g r => ?_)
  refine ⟨_, hσ, hk F2 H2 (s.gx g) _ fun w F3 H3 g3 r3 => ?_⟩
  have g4 := g.trans g3
  have o2 := o.up g4
  have hl2 := g4.hh.k _ _ hl trivial
  exact ⟨l, vs, k, j, rfl, r3, hl2, by rw [rs.length]; exact hj, kk _ F3 H3 g4 o2.pl o2.f (Own.set o2.n o2.f (ob_lst (Rps.set (Rp.mono g3.ff r) j (rs.mono g4.ff))))⟩
end
end
end Gx

/-! Gt: lists of ranges, items of private lists, comparing with nothing in it. -/
namespace Gx
open PySem PySem.Spec PyProof.Rows L2
open Rp (rp)
open Ra (ra)
open Ob (ob)
section
variable {X : Cx} {K : PySem.W.Frag} {e a b c d : Expr} {es : List Expr} {σ : L2.St} {F H F0 H0 : Hp} {pos : Pos} {D : Ends} {st : Stmt} {rest body : List Stmt}
theorem rps_rg {i j : Int} : Rps K F (rgV i j) (intsF i (j - i).toNat) := by
  unfold rgV intsF
  have : ∀ l : List Nat, Rps K F (l.map fun (n : Nat) => V.int (i + (n : Int))) (l.map fun (n : Nat) => i + (n : Int)) := by
    intro l
    induction l with
    | nil => exact .nil
    | cons n r ih => exact .cons rfl ih
  exact this _
def lRg (i j : Int) : Option (List Int) := if -(2 ^ 62) ≤ i ∧ i < 2 ^ 62 ∧ -(2 ^ 62) ≤ j ∧ j < 2 ^ 62 ∧ (j - i).toNat ≤ 2 ^ 24 then some (intsF i (j - i).toNat) else none
theorem lRg_of {i j : Int} {r : List Int} (h : lRg i j = some r) : RgOk i j ∧ intsF i (j - i).toNat = r := by
  unfold lRg at h
  split at h
  · rename_i h1; exact ⟨h1, Option.some.inj h⟩
  · cases h
theorem lRg_n {n : Nat} (h : n ≤ 1000000) : lRg 0 (n : Int) = some (intsF 0 n) := by
  have e : ((n : Int) - 0).toNat = n := by omega
  unfold lRg
  rw [if_pos (by rw [e]; exact ⟨by decide, by decide, by omega, by omega, by omega⟩), e]
theorem lRg_p {i j : Int} (h1 : -1000000 ≤ i) (h2 : i ≤ 1000000) (h3 : -1000000 ≤ j) (h4 : j ≤ 1000000) : lRg i j = some (intsF i (j - i).toNat) := if_pos ⟨by omega, by omega, by omega, by omega, by omega⟩
theorem en_listRg1 {n : Int} {r : List Int} {p p2 : Pos} {pos2 : Pos} (hm : X.mg "list" = none) (hr : X.mg "range" = none) (ha : Ev X a σ F H n) (h : lRg 0 n = some r) (hc : X.calm = true := by rfl) (hg : Gl X "list" := by rfl) (hg2 : Gl X "range" := by rfl)
    (na : starEach [a] X.env = (false, eval a X.env) :: starEach [] X.env := by rfl) (na2 : starEach [.Call (.Name "range" p2) [a] [] pos2] X.env = (false, eval (.Call (.Name "range" p2) [a] [] pos2) X.env) :: starEach [] X.env := by rfl) :
    EvN X (.Call (.Name "list" p) [.Call (.Name "range" p2) [a] [] pos2] [] pos) σ F H r := fun F1 H1 g Q q => by
  obtain ⟨h1, rfl⟩ := lRg_of h
  exact GoE.of (pe_listRg hc hg hm (prg_1 hg2 hr pe_go na) na2) (ha F1 H1 g _ fun v F2 H2 g2 r2 => ⟨n, r2, h1, fun l hl => EvN.new q g2 hl rps_rg⟩)
theorem en_listRg2 {i j : Int} {r : List Int} {p p2 : Pos} {pos2 : Pos} (hm : X.mg "list" = none) (hr : X.mg "range" = none) (ha : Ev X a σ F H i) (hb : Ev X b σ F H j) (h : lRg i j = some r) (hc : X.calm = true := by rfl) (hg : Gl X "list" := by rfl) (hg2 : Gl X "range" := by rfl)
    (na : starEach [a, b] X.env = (false, eval a X.env) :: starEach [b] X.env := by rfl) (nb : starEach [b] X.env = (false, eval b X.env) :: starEach [] X.env := by rfl) (hp : (backTo pos2 (starEach [b] X.env)).any (·.1) = false := by rfl) (na2 : starEach [.Call (.Name "range" p2) [a, b] [] pos2] X.env = (false, eval (.Call (.Name "range" p2) [a, b] [] pos2) X.env) :: starEach [] X.env := by rfl) :
    EvN X (.Call (.Name "list" p) [.Call (.Name "range" p2) [a, b] [] pos2] [] pos) σ F H r := fun F1 H1 g Q q => by
  obtain ⟨h1, rfl⟩ := lRg_of h
  exact GoE.of (pe_listRg hc hg hm (prg_2 hg2 hr pe_go pe_go na nb hp) na2) (ha F1 H1 g _ fun v F2 H2 g2 r2 => hb F2 H2 (g.trans g2) _ fun w F3 H3 g3 r3 => ⟨i, j, r2, r3, h1, fun l hl => EvN.new q (g2.trans g3) hl rps_rg⟩)
/-- an item of a private list -/
theorem ev_ixOwn {α : Type} [Rp α] {xs : List α} {x : α} {k : Int} {l : Addr} {n : Str} {p1 : Pos} (i : Nat) (o : Own X.K H0 F H l xs) (hσ : σ[i]? = some (some (.ref l))) (hb : Ev X b σ F H k) (h : L2.atI xs k = some x) (hs : NoSl b := by exact fun _ _ => rfl)
    (hN : X.N[i]? = some n := by rfl) (hv : Vis X.env.scope n := by first | exact Or.inl rfl | exact Or.inr (Or.inl rfl) | exact Or.inr (Or.inr rfl)) (hd : (n == ("__debug__" : Str)) = false := by decide) (hcd : (n == ("__classdict__" : Str)) = false := by decide) :
    Ev X (.Subscript (.Name n p1) b pos) σ F H x := fun F1 H1 g Q q => by
  have o1 := o.up g.toGr
  obtain ⟨_, hl, vs, rfl, rs⟩ := o1.h
  refine GoE.of (pe_ix ix_list (pe_var hN hv hd hcd) pe_go hs) ⟨_, hσ, hb F1 H1 g _ fun w F2 H2 g2 r2 => ?_⟩
  have rs2 := rs.mono g2.ff
  obtain ⟨v, hv2, rv⟩ := rs2.atI h
  exact ⟨l, vs, k, v, rfl, r2, SqL.of (g2.hh.k _ _ hl trivial), hv2, q v F2 H2 g2 rv⟩
theorem Ev.get {α : Type} [Rp α] [NN α] {o : Option α} {x : α} (h : Ev X e σ F H o) (he : o = Option.some x) : Ev X e σ F H x := by
  subst he
  exact h.re fun _ _ r => r
/-! ### x == [], x != () -/
def rEqE (K : PySem.W.Frag) : R2 := fun x y H Q => ∃ a b xs, x = .ref a ∧ y = .ref b ∧ ((SqL K H a xs ∧ SqL K H b []) ∨ (SqT K H a xs ∧ SqT K H b [])) ∧ Q (.bl xs.isEmpty) H
def rNeE (K : PySem.W.Frag) : R2 := fun x y H Q => ∃ a b xs, x = .ref a ∧ y = .ref b ∧ ((SqL K H a xs ∧ SqL K H b []) ∨ (SqT K H a xs ∧ SqT K H b [])) ∧ Q (.bl (!xs.isEmpty)) H
theorem op_eqE (hu : X.A.units < cLine) : OpR X (compareOp .Eq) (rEqE X.K) := fun pins s σ H x y v u Q I rx ry ⟨a, b, xs, e1, e2, h, q⟩ => by
  subst e1; subst e2
  cases rx; cases ry
  rcases h with ⟨h1, h2⟩ | ⟨h1, h2⟩
  · obtain ⟨its, r, pl, _⟩ := I.list h1
    obtain ⟨its2, r2, pl2, _⟩ := I.list h2
    cases r2
    cases r with
    | nil => exact SeqAt.RcAt.lists (e := fun _ => true) pl.isList pl2.isList rfl hu (fun j h1 _ => absurd h1 (Nat.not_lt_zero _)) _ _ _ _ ⟨.bl true, H, I, rfl, q⟩
    | cons _ _ => exact SeqAt.RcAt.lists_lengths pl.isList pl2.isList (by simp) hu _ _ _ _ ⟨.bl false, H, I, rfl, q⟩
  · obtain ⟨its, r, ⟨o, ho, hc, n, hd⟩, _⟩ := I.tuple h1
    obtain ⟨its2, r2, ⟨o2, ho2, hc2, n2, hd2⟩, _⟩ := I.tuple h2
    cases r2
    cases r with
    | nil => exact SeqAt.RcAt.tuples (e := fun _ => true) ⟨o, ho, hc, n, hd⟩ ⟨o2, ho2, hc2, n2, hd2⟩ hu (fun j h1 _ => absurd h1 (Nat.not_lt_zero _)) _ _ _ _ ⟨.bl true, H, I, rfl, q⟩
    | cons _ _ => exact SeqAt.RcAt.tuples (e := fun _ => true) ⟨o, ho, hc, n, hd⟩ ⟨o2, ho2, hc2, n2, hd2⟩ hu (fun j _ h2 => absurd h2 (Nat.not_lt_zero _)) _ _ _ _ ⟨.bl false, H, I, by simp [L2.RelV], q⟩
theorem op_neE (hu : X.A.units < cLine) : OpR X (compareOp .NotEq) (rNeE X.K) := fun pins s σ H x y v u Q I rx ry ⟨a, b, xs, e1, e2, h, q⟩ => by
  subst e1; subst e2
  cases rx; cases ry
  rcases h with ⟨h1, h2⟩ | ⟨h1, h2⟩
  · obtain ⟨its, r, pl, _⟩ := I.list h1
    obtain ⟨its2, r2, pl2, _⟩ := I.list h2
    cases r2
    cases r with
    | nil => exact SeqAt.RcNeAt.lists (e := fun _ => true) pl.isList pl2.isList rfl hu (fun j h1 _ => absurd h1 (Nat.not_lt_zero _)) _ _ _ _ ⟨.bl false, H, I, rfl, q⟩
    | cons _ _ => exact SeqAt.RcNeAt.lists_lengths pl.isList pl2.isList (by simp) hu _ _ _ _ ⟨.bl true, H, I, rfl, q⟩
  · obtain ⟨its, r, ⟨o, ho, hc, n, hd⟩, _⟩ := I.tuple h1
    obtain ⟨its2, r2, ⟨o2, ho2, hc2, n2, hd2⟩, _⟩ := I.tuple h2
    cases r2
    cases r with
    | nil => exact SeqAt.RcNeAt.tuples (e := fun _ => true) ⟨o, ho, hc, n, hd⟩ ⟨o2, ho2, hc2, n2, hd2⟩ hu (fun j h1 _ => absurd h1 (Nat.not_lt_zero _)) _ _ _ _ ⟨.bl false, H, I, rfl, q⟩
    | cons _ _ => exact SeqAt.RcNeAt.tuples (e := fun _ => true) ⟨o, ho, hc, n, hd⟩ ⟨o2, ho2, hc2, n2, hd2⟩ hu (fun j _ h2 => absurd h2 (Nat.not_lt_zero _)) _ _ _ _ ⟨.bl true, H, I, by simp [L2.RelV], q⟩
section
variable {α : Type} [Rp α]
theorem isE {vs : List V} {xs : List α} (r : Rps K F vs xs) : vs.isEmpty = xs.isEmpty := by cases r <;> rfl
theorem o2_eqEL {xs : List α} : Op2 K (rEqE K) xs ([] : List α) xs.isEmpty := fun F H v w Q s ⟨a, vs, e, sq, rs⟩ ⟨b, ws, e2, sq2, rs2⟩ k => by
  cases rs2
  exact ⟨a, b, vs, e, e2, .inl ⟨s.seq sq, s.seq sq2⟩, k _ F H (.refl s) (congrArg V.bl (isE rs))⟩
theorem o2_neEL {xs : List α} : Op2 K (rNeE K) xs ([] : List α) (!xs.isEmpty) := fun F H v w Q s ⟨a, vs, e, sq, rs⟩ ⟨b, ws, e2, sq2, rs2⟩ k => by
  cases rs2
  exact ⟨a, b, vs, e, e2, .inl ⟨s.seq sq, s.seq sq2⟩, k _ F H (.refl s) (congrArg (fun t => V.bl (!t)) (isE rs))⟩
theorem o2_eqET {xs : Tp α} : Op2 K (rEqE K) xs (Tp.mk ([] : List α)) xs.l.isEmpty := fun F H v w Q s ⟨a, vs, e, sq, rs⟩ ⟨b, ws, e2, sq2, rs2⟩ k => by
  cases rs2
  exact ⟨a, b, vs, e, e2, .inr ⟨seqT_mono s sq, seqT_mono s sq2⟩, k _ F H (.refl s) (congrArg V.bl (isE rs))⟩
theorem o2_neET {xs : Tp α} : Op2 K (rNeE K) xs (Tp.mk ([] : List α)) (!xs.l.isEmpty) := fun F H v w Q s ⟨a, vs, e, sq, rs⟩ ⟨b, ws, e2, sq2, rs2⟩ k => by
  cases rs2
  exact ⟨a, b, vs, e, e2, .inr ⟨seqT_mono s sq, seqT_mono s sq2⟩, k _ F H (.refl s) (congrArg (fun t => V.bl (!t)) (isE rs))⟩
end
end
end Gx

/-! Gv: enumerate of a tuple; min, max, sum, all, sorted. -/
namespace Gx
open PySem PySem.Spec PyProof.Rows
open AutoSeq1 (wpAny_loadPart')
/-- what iterates over a tuple -/
abbrev itO (l : Addr) : Obj := { cls := .type "tuple_iterator", data := .fields #[.ref l, .int 0 0] }
abbrev enO (i : Addr) : Obj := { cls := .type "enumerate", data := .fields #[.none, .bool false, .ref i, rawInt 0, .none, .none] }
theorem enumT_made (l : Addr) (xs : Array Value) (k : Nat) (dd : Option Addr) (ss : Array (Option Value)) :
    Meets (Builtin.«enumerate.__new__» ⟨[.type "enumerate", .ref l], []⟩) (fun _ R s => s.heap.get? l = some { cls := .type "tuple", dict := dd, data := .seq xs k, slots := ss } ∧
      R (.ok (.ret (.ref (s.heap.push (itO l)).objs.size))) { s with heap := (s.heap.push (itO l)).push (enO s.heap.objs.size) }) :=
  .of_wp fun P W A R s ⟨at_, R1⟩ => by
    cases s with
    | mk hp gs ds ts os =>
      have sub_ := sub_enumerate
      have tup_ : Heap.IsTuple (Shared.heap ⟨hp, gs, ds, ts, os⟩) l xs := ⟨_, at_, rfl, k, rfl⟩
      wp_walk using wpAny_loadPart' at_
      refine wpAny_stack_any fun _ => wpAny_pure ?_
      split
      · rename_i cl _ _ _ _ _
        cases (cl == Value.type "enumerate") <;> (wp_walk using wpAny_loadPart' at_, wpAny_pyIter_tuple tup_; exact ⟨_, rfl, R1⟩)
      · wp_walk using wpAny_loadPart' at_, wpAny_pyIter_tuple tup_
        exact ⟨_, rfl, R1⟩
theorem call_enumT {P : Program} {W : World} {A : Around} {E : Value → Shared → Prop} {s : Shared} {l : Addr} {xs : Array Value} {Q : Value → Shared → Prop} (tup_ : s.heap.IsTuple l xs)
    (q : ∀ h', IsEnum h' (s.heap.objs.size + 1) s.heap.objs.size 0 .none → h'.IsTupleIter s.heap.objs.size l 0 → (∀ b o, s.heap.get? b = some o → h'.get? b = some o) → Q (.ref (s.heap.objs.size + 1)) { s with heap := h' }) :
    wpAny (model P W) A (call (.type "enumerate") [.ref l]) Q E s := by
  obtain ⟨⟨cls, dd, dat, ss⟩, at_, e1, k, e2⟩ := tup_
  have e1 : cls = .type "tuple" := e1
  have e2 : dat = .seq xs k := e2
  subst e1; subst e2
  have sz : (s.heap.push (itO l)).objs.size = s.heap.objs.size + 1 := Heap.size_push ..
  refine callType_new F.called_enumerate (by decide) (F.typeCall_enumerate_1 _) (F.newCall_enumerate_1 _) (fun o => F.args_object_init_2 o _) F.entry_enumerate_new (enumT_made l xs k dd ss) ⟨at_, ?_⟩
  show _ ∧ _
  rw [sz]
  have en_ : IsEnum ((s.heap.push (itO l)).push (enO s.heap.objs.size)) (s.heap.objs.size + 1) s.heap.objs.size 0 .none := by
    have z := Heap.get?_push_size (s.heap.push (itO l)) (o := enO s.heap.objs.size) rfl
    rwa [sz] at z
  exact ⟨⟨_, en_, rfl⟩, q _ en_ ⟨_, Heap.get?_push_of_some _ (Heap.get?_push_size _ rfl), rfl, rfl⟩ fun b o z => Heap.get?_push_of_some _ (Heap.get?_push_of_some _ z)⟩
end Gx
namespace Gx
open PySem PySem.Spec PyProof.Rows L2
open Rp (rp)
open Ra (ra)
open Ob (ob)
theorem enumT_end {P : Program} {W : World} {A : Around} {E : Value → Shared → Prop} {s : Shared} {e it l : Addr} {i : Nat} {xs : Array Value} {old : Value} {Q : Option Value → Shared → Prop} (hh : A.handled = none)
    (en_ : IsEnum s.heap e it i old) (hit : s.heap.IsTupleIter it l i) (tup_ : s.heap.IsTuple l xs) (none_ : xs[i]? = none) (q : ∀ h', Heap.ExtBut it s.heap h' → Q none { s with heap := h' }) : wpAny (model P W) A (pyNext (.ref e)) Q E s := by
  have ty_ : s.TypeIs (.ref e) "enumerate" := ⟨_, en_, rfl⟩
  unfold pyNext
  refine wpAny_bind (wpAny_attempt (wpAny_callSpecial?_slot (name := Str.ofString "__next__") ty_ F.slot_enumerate_next (wpAny_call_entry F.slot_enumerate_next ty_ F.entry_enumerate_next ?_ (F.args_enumerate_next_1 _))))
  show wpAny _ _ (field (.ref e) 2 >>= _) _ _ _
  refine wpAny_bind (wpAny_field en_ rfl (x := .ref it) rfl (wpAny_bind (wpAny_nextOf_tuple_end hh hit tup_ none_ fun h' x ext ⟨o, ho, hc⟩ => ?_)))
  exact wpAny_bind (wpAny_isInstance (T := "StopIteration") (b := true) ⟨o, ho, hc⟩ isSubtype_stop (wpAny_pure (q _ ext)))
def IteT (K : PySem.W.Frag) (a : Addr) : It :=
  ⟨fun i H => ∃ (xs : List V) (x : V), SqT K H a xs ∧ xs[i]? = some x, fun i H v H' => ∃ T x, v = .ref T ∧ H T = none ∧ H' = upd H T (.tup [.int (i : Nat), x]) ∧ ∀ xs, SqT K H a xs → xs[i]? = some x, fun i H => ∃ xs : List V, SqT K H a xs ∧ xs.length ≤ i⟩
theorem turn_enumT {P : Program} {w : World} {K : PySem.W.Frag} {elts : List Expr} {kk : Nat} {tpos : Pos} (a e it : Addr) :
    Turn P w K (.Tuple elts kk tpos) (IteT K a) [e, it] e (fun i h => (∃ old, IsEnum h e it ((i : Nat) : Int) old) ∧ h.IsTupleIter it a i ∧ e ≠ it) where
  mem := by simp
  obj := fun i h st b hb => by
    obtain ⟨⟨old, he⟩, ⟨o, ho, hc, hd⟩, _⟩ := st
    have e' : b = e ∨ b = it := by simpa using hb
    rcases e' with z | z
    · rw [z]; exact ⟨_, he, fun v q => nomatch q⟩
    · rw [z]; exact ⟨o, ho, fun v q => by rw [hd] at q; cases q⟩
  keep := fun i h h' st k => let ⟨⟨old, he⟩, hi, hne⟩ := st; ⟨⟨old, k e (by simp) _ he⟩, hi.at fun o q => k it (by simp) o q, hne⟩
  item := by
    intro X hP hw hK hc i pins s σ H E I hf st hg
    subst hP hw hK
    obtain ⟨⟨old, he⟩, hit, hne⟩ := st
    obtain ⟨xs, x, hq, hx⟩ := hg
    obtain ⟨its, rv, p, hz⟩ := I.tuple hq
    obtain ⟨u, hu, ru⟩ := rv.get hx
    have hel : e < s.heap.objs.size := Heap.lt_size he
    have hil : it < s.heap.objs.size := by obtain ⟨_, q, _⟩ := hit; exact Heap.lt_size q
    have tup_ : s.heap.IsTuple a its.toArray := p
    have hne2 : a ≠ it := fun z => by
      obtain ⟨o1, q1, c1, _⟩ := hit
      obtain ⟨o2, q2, c2, _⟩ := tup_
      rw [z] at q2; rw [q1] at q2; cases q2; rw [c1] at c2; exact absurd c2 (by decide)
    have hea : e ≠ a := fun z => by
      obtain ⟨o2, q2, c2, _⟩ := tup_
      rw [← z] at q2; rw [show s.heap.get? e = _ from he] at q2; cases q2; exact absurd (show Value.type "enumerate" = Value.type "tuple" from c2) (by decide)
    refine wpAny_pyNext_enum_itemC (Draws.tuple (A := X.A.in1) (I.ok.hd hc) it a hne2 its.toArray) he ⟨hit, tup_⟩ (by
      have h1 := (List.getElem?_eq_some_iff.mp hu).1
      simpa using h1) hne (by simp [hne, hea]) fun u' h' tk hP ho hst' hT hsz hk => ?_
    obtain rfl : u = u' := by
      have h2 : its.toArray[i]? = some u' := hP
      have h1 : its.toArray[i]? = some u := by simpa using hu
      rw [h1] at h2; exact Option.some.inj h2
    obtain ⟨hit', _⟩ := hst'
    refine ⟨_, rfl, wpAny_letOwnedTupleGo_enum (s := { s with heap := h', toks := tk + 1 }) ho fun h'' he' sb => ?_⟩
    have hT2 : h''.get? s.heap.objs.size = some { cls := .type "tuple", data := .seq #[.int i tk, u] } := (sb.2 _ (Nat.ne_of_gt hel)).trans hT
    have new : ObjOk X.prog X.w (upd H s.heap.objs.size (.tup [.int (i : Nat), x])) h'' s.heap.objs.size (.tup [.int (i : Nat), x]) :=
      ⟨by show 2 ≤ sizeLine; decide, [.int i tk, u], .cons ⟨_, rfl⟩ (.cons ru .nil), ⟨_, hT2, rfl, _, rfl⟩⟩
    have I1 : Inv X pins σ (upd H s.heap.objs.size (.tup [.int (i : Nat), x])) { s with heap := h'', toks := tk + 1 } :=
      I.turnedNew (ch := [e, it]) (fun b ob hb q => (sb.2 b (fun z => hb (by simp [z]))).trans (hk b ob (fun z => hb (by simp [z])) (fun z => hb (by simp [z])) q)) hf (Nat.le_refl _) new
    refine ⟨.ref s.heap.objs.size, _, I1, rfl, ⟨_, x, rfl, I.hok.fresh (Nat.le_refl _), rfl, fun ys hy => by rw [I.tuple_inj hy hq]; exact hx⟩, ⟨⟨u, ?_⟩, hit'.at fun o q => (sb.2 it (Ne.symm hne)).trans q, hne⟩, fun b hb => ?_⟩
    · have e1 : ((i + 1 : Nat) : Int) = (i : Int) + 1 := by omega
      rw [e1]; exact he'
    · have hb' : b < s.heap.objs.size := by
        have e' : b = e ∨ b = it := by simpa using hb
        rcases e' with z | z
        · rw [z]; exact hel
        · rw [z]; exact hil
      rw [upd_ne (Nat.ne_of_lt hb')]
      exact (hf b hb).1
  done := by
    intro X hP hw hK hc i pins s σ H E I hf st hg
    subst hP hw hK
    obtain ⟨⟨old, he⟩, hit, hne⟩ := st
    obtain ⟨xs, hq, hx⟩ := hg
    obtain ⟨its, rv, p, hz⟩ := I.tuple hq
    obtain ⟨f0, f1, f2, f3, f4, f5⟩ := hf it (by simp)
    have hl := rv.length
    have tup_ : s.heap.IsTuple a its.toArray := p
    have hne2 : a ≠ it := fun z => by
      obtain ⟨o1, q1, c1, _⟩ := hit
      obtain ⟨o2, q2, c2, _⟩ := tup_
      rw [z] at q2; rw [q1] at q2; cases q2; rw [c1] at c2; exact absurd c2 (by decide)
    exact enumT_end (I.ok.hd hc) he hit tup_ (by simp; omega) fun h' eb => ⟨rfl, I.turned (t' := s.toks) (fun b o hb q => eb b o hb q) f0 f1 f3 f4 f5⟩
  self := fun A i s Q E st h => let ⟨⟨_, he⟩, _⟩ := st; wpAny_pyIter_enum he h
def iEnumT (K : PySem.W.Frag) (ta : TA) : TI := fun σ H R => ta σ H fun vs H1 => ∃ a xs, vs = [.ref a] ∧ SqT K H1 a xs ∧ R (IteT K a) H1
theorem pi_enumT {X : Cx} {e : Expr} {ta : TA} {p pos tpos : Pos} {elts : List Expr} {kk : Nat} (hg : Gl X "enumerate") (hm : X.mg "enumerate" = none) (ha : PA X [e] ta) (hs : starEach [e] X.env = [(false, eval e X.env)] := by rfl) :
    PI X (.Tuple elts kk tpos) (.Call (.Name "enumerate" p) [e] [] pos) (iEnumT X.K ta) := by
  refine ⟨fun pins s σ H R I h => ?_⟩
  refine Call_ (ld_blt I hg hm boot_enumerate (PyProof.Rows.callWith_type1 (thn (ha.run pos pins s σ H _ I h) fun us s1 ⟨vs, H1, I1, r1, q1⟩ => ?_) hs rfl))
  obtain ⟨a, xs, ex, hq, q⟩ := q1
  subst ex
  cases r1 with
  | cons r rr =>
    cases rr
    cases r
    obtain ⟨its, rv, p', hz⟩ := I1.tuple hq
    refine call_enumT (show s1.heap.IsTuple a its.toArray from p') fun h' he hit hk => wpAny_pyIter_enum he ?_
    have I2 : Inv X pins σ H1 { s1 with heap := h' } := I1.kept (t' := s1.toks) hk
    refine ⟨s1.heap.objs.size + 1, [s1.heap.objs.size + 1, s1.heap.objs.size], _, _, H1, rfl, I2, turn_enumT a (s1.heap.objs.size + 1) s1.heap.objs.size, ⟨⟨.none, he⟩, hit, Nat.succ_ne_self _⟩, fun b hb => ?_, q⟩
    have e' : b = s1.heap.objs.size + 1 ∨ b = s1.heap.objs.size := by simpa using hb
    have hle : s1.heap.objs.size ≤ b := by
      rcases e' with z | z
      · rw [z]; exact Nat.le_add_right _ _
      · rw [z]; exact Nat.le_refl _
    exact I1.fpOk hle (I1.hok.fresh hle)
section
variable {X : Cx} {K : PySem.W.Frag} {e a b c d : Expr} {es : List Expr} {σ : L2.St} {F H F0 H0 : Hp} {pos : Pos} {D : Ends} {st : Stmt} {rest body : List Stmt}
theorem ei_enumT {α θ : Type} [Rp α] [Rp θ] [TL θ α] {xs : θ} {p tpos : Pos} {elts : List Expr} {kk : Nat} (h : Ev X e σ F H xs) (hm : X.mg "enumerate" = none) (hg : Gl X "enumerate" := by rfl) (hs : starEach [e] X.env = [(false, eval e X.env)] := by rfl) : EvI X (.Tuple elts kk tpos) (.Call (.Name "enumerate" p) [e] [] pos) σ F H (enumL (TL.l xs)) := fun F1 H1 g R q =>
  GoI.of (pi_enumT hg hm (pa_cons pe_go pa_nil (by rw [hs]; rfl)) hs) (h F1 H1 g _ fun v F2 H2 g2 r2 => let ⟨a, vs, e, sq, rs⟩ := TL.sq r2; ⟨a, vs, by rw [e], sqT_mono g2.fh sq, q _ F2 H2 g2 fun i Fi Hi s1 s2 => by
    have sq' : SqT X.K Hi a vs := sqT_mono s2 (sqT_mono s1 sq)
    refine ⟨fun x hx => ?_, fun e => ⟨vs, sq', by rw [e, enumF_len, rs.length]; exact Nat.le_refl _⟩⟩
    obtain ⟨hi, hx2⟩ := enumF_get hx
    obtain ⟨y, hy, ry⟩ := rs.get hx2
    refine ⟨⟨vs, y, sq', hy⟩, fun v H' ⟨T, x', e1, e2, e3, e4⟩ => ?_⟩
    subst e1; subst e3
    have e5 := e4 vs sq'
    rw [hy] at e5
    cases e5
    rw [Int.zero_add] at hi
    have := pair_new (α := Int) s2 e2 (v := .int (i : Nat)) (congrArg V.int hi.symm) (Rp.mono s1 ry)
    exact this⟩)
/-! ### min, max, sum, all, sorted -/
theorem rps_ints {vs : List V} {xs : List Int} (h : Rps K F vs xs) : vs = xs.map V.int := by
  induction h with
  | nil => rfl
  | cons r t ih => rw [ih, show _ = V.int _ from r]; rfl
theorem rps_bls {vs : List V} {xs : List Bool} (h : Rps K F vs xs) : vs = xs.map V.bl := by
  induction h with
  | nil => rfl
  | cons r t ih => rw [ih, show _ = V.bl _ from r]; rfl
theorem o2_ltT {xs ys : Tp Int} : Op2 K (rLtT K) xs ys (HT.lexLt xs.l ys.l) := fun F H v w Q s ⟨a, vs, e, sq, rs⟩ ⟨b, ws, e2, sq2, rs2⟩ k => by
  have h1 := rps_ints rs
  have h2 := rps_ints rs2
  subst h1; subst h2
  exact ⟨a, b, xs.l, ys.l, e, e2, seqT_mono s sq, seqT_mono s sq2, k _ F H (.refl s) rfl⟩
theorem oc_min {xs : List Int} {m : Int} (h : xs.min? = some m) : OpC K (rMin K) (xs, ()) m :=
  oc1 fun F H v Q s ⟨a, vs, e, sq, rs⟩ k => ⟨a, xs, by rw [e], by rw [← rps_ints rs]; exact s.seq sq, by
    cases xs with
    | nil => cases h
    | cons _ _ => exact Nat.succ_pos _, fun m' h1 h2 => k _ F H (.refl s) (by
      have := List.min?_eq_some_iff.mp h
      have e : m = m' := Int.le_antisymm (this.2 _ h1) (h2 _ this.1)
      exact e ▸ rfl)⟩
theorem oc_max {xs : List Int} {m : Int} (h : xs.max? = some m) : OpC K (rMax K) (xs, ()) m :=
  oc1 fun F H v Q s ⟨a, vs, e, sq, rs⟩ k => ⟨a, xs, by rw [e], by rw [← rps_ints rs]; exact s.seq sq, by
    cases xs with
    | nil => cases h
    | cons _ _ => exact Nat.succ_pos _, fun m' h1 h2 => k _ F H (.refl s) (by
      have := List.max?_eq_some_iff.mp h
      have e : m = m' := Int.le_antisymm (h2 _ this.1) (this.2 _ h1)
      exact e ▸ rfl)⟩
theorem oc_sum {xs : List Int} : OpC K (rSum K) (xs, ()) xs.sum :=
  oc1 fun F H v Q s ⟨a, vs, e, sq, rs⟩ k => ⟨a, xs, by rw [e], by rw [← rps_ints rs]; exact s.seq sq, k _ F H (.refl s) rfl⟩
theorem oc_all {xs : List Bool} : OpC K (rAll K) (xs, ()) (xs.all id) :=
  oc1 fun F H v Q s ⟨a, vs, e, sq, rs⟩ k => ⟨a, xs, by rw [e], by rw [← rps_bls rs]; exact s.seq sq, k _ F H (.refl s) rfl⟩
theorem oc_any {xs : List Bool} : OpC K (rAny K) (xs, ()) (xs.any id) :=
  oc1 fun F H v Q s ⟨a, vs, e, sq, rs⟩ k => ⟨a, xs, by rw [e], by rw [← rps_bls rs]; exact s.seq sq, k _ F H (.refl s) rfl⟩
end
end Gx

/-! Gw: what is read from a private dict may be a list. -/
namespace Gx
open PySem PySem.Spec PyProof.Rows L2
open Rp (rp)
open Ra (ra)
open Ob (ob)
theorem isD_tup {F : Hp} {l : Addr} (d : IsD F l) : (∀ xs, ¬ F l = some (.tup xs)) ∧ (∀ (o' : Obj) (xs : List V), ¬ F l = some (.frz o' (.tup xs))) := by
  rcases d with ⟨ks, d | ⟨o, d⟩⟩ | ⟨ks, d | ⟨o, d⟩⟩ <;> exact ⟨fun xs h => (by rw [d] at h; cases h), fun o' xs h => (by rw [d] at h; cases h)⟩
theorem isD_lst {F : Hp} {l : Addr} {xs : List V} (d : IsD F l) : ¬ Rd F l (.lst xs) := by
  rcases d with ⟨ks, d | ⟨o, d⟩⟩ | ⟨ks, d | ⟨o, d⟩⟩ <;> rintro (h | ⟨o, h⟩) <;> (rw [d] at h; cases h)
theorem er_neD {F : Hp} {l a : Addr} (h : ¬ a = l) : er F l a = F a := if_neg h
/-- a thing that is no dict and has none in it -/
class FlatD (α : Type) [Rp α] : Prop where
  fl : ∀ {K : PySem.W.Frag} {F : Hp} {l : Addr} {v : V} {x : α}, IsD F l → rp K F v x → rp K (er F l) v x
instance : FlatD Int := ⟨fun _ h => h⟩
instance : FlatD Bool := ⟨fun _ h => h⟩
instance : FlatD Str := ⟨fun _ h => h⟩
instance : FlatD Unit := ⟨fun _ h => h⟩
instance {α : Type} [Rp α] [NN α] [FlatD α] : FlatD (Option α) := ⟨fun {K F l v x} h1 h => by
  cases x with
  | none => exact h
  | some x => exact FlatD.fl (α := α) h1 h⟩
theorem Rps.fd {α : Type} [Rp α] [FlatD α] {K : PySem.W.Frag} {F : Hp} {l : Addr} {vs : List V} {xs : List α} (h1 : IsD F l) (h : Rps K F vs xs) : Rps K (er F l) vs xs := L2.Paired.mapP h fun _ _ => FlatD.fl h1
instance {α : Type} [Rp α] [FlatD α] : FlatD (Tp α) := ⟨fun h1 ⟨a, vs, e, q, r⟩ => ⟨a, vs, e, er_seqT (isD_tup h1).1 (isD_tup h1).2 q, Rps.fd h1 r⟩⟩
instance {α : Type} [Rp α] [FlatD α] : FlatD (List α) := ⟨fun {K F l v x} h1 ⟨a, vs, e, q, r⟩ => ⟨a, vs, e, by
  rcases q with q | q
  · refine .inl ?_
    have : ¬ a = l := fun z => isD_lst h1 (z ▸ q)
    unfold Rd
    rw [er_neD this]; exact q
  · exact .inr q, Rps.fd h1 r⟩⟩
class FlatDR (τ : Type) [Ra τ] : Prop where
  fl : ∀ {K : PySem.W.Frag} {F : Hp} {l : Addr} {v : List V} {x : τ}, IsD F l → ra K F v x → ra K (er F l) v x
instance : FlatDR Unit := ⟨fun _ h => h⟩
instance {α τ : Type} [Rp α] [Ra τ] [FlatD α] [FlatDR τ] : FlatDR (α × τ) := ⟨fun h1 ⟨v, r, e, p, q⟩ => ⟨v, r, e, FlatD.fl h1 p, FlatDR.fl h1 q⟩⟩
theorem rpT.fd {θ τ : Type} [Ra τ] [FlatDR τ] {row : θ → τ} {K : PySem.W.Frag} {F : Hp} {l : Addr} {v : V} {x : θ} (h1 : IsD F l) : rpT row K F v x → rpT row K (er F l) v x := fun ⟨a, vs, e, q, r⟩ => ⟨a, vs, e, er_seqT (isD_tup h1).1 (isD_tup h1).2 q, FlatDR.fl h1 r⟩
instance {α : Type} [Rp α] [FlatD α] : FlatD (T1 α) := ⟨rpT.fd⟩
instance {α β : Type} [Rp α] [Rp β] [FlatD α] [FlatD β] : FlatD (T2 α β) := ⟨rpT.fd⟩
instance {α β γ : Type} [Rp α] [Rp β] [Rp γ] [FlatD α] [FlatD β] [FlatD γ] : FlatD (T3 α β γ) := ⟨rpT.fd⟩
instance {α β γ δ : Type} [Rp α] [Rp β] [Rp γ] [Rp δ] [FlatD α] [FlatD β] [FlatD γ] [FlatD δ] : FlatD (T4 α β γ δ) := ⟨rpT.fd⟩
instance {α β γ δ ε : Type} [Rp α] [Rp β] [Rp γ] [Rp δ] [Rp ε] [FlatD α] [FlatD β] [FlatD γ] [FlatD δ] [FlatD ε] : FlatD (T5 α β γ δ ε) := ⟨rpT.fd⟩
section
variable {X : Cx} {K : PySem.W.Frag} {e a b c d : Expr} {es : List Expr} {σ : L2.St} {F H F0 H0 : Hp} {pos : Pos} {D : Ends} {st : Stmt} {rest body : List Stmt}
theorem ev_thawD {α κ ν : Type} [Rp α] [FlatD α] [Rp κ] [DecidableEq κ] [DKey κ] [Rp ν] {x : α} {y : Dct κ ν} {l : Addr} (o : Own X.K H0 F H l y) (s : L2.Same F H) (h : ∀ F' H', L2.Same F F' → L2.Same F' H' → rp X.K F' (.ref l) y → (∀ a, a ≠ l → F' a = F a ∧ H' a = H a) → Ev X e σ F' H' x) : Ev X e σ F H x := fun F1 H1 g Q q => by
  obtain ⟨u, hl, r⟩ := o.h
  have hl1 := g.hh.k _ _ hl (Ob.pl r).ntb
  refine GoE.locked hl1 (Ob.mu r) fun od => ?_
  obtain ⟨g1, f1, h1⟩ := GrX.show_ (u := .frz od u) hl o.f (Ob.ls r) (Ob.pl r) g
  refine h _ _ (same_upd o.f) (shown s) (Ob.fz upd_same (Ob.mono (same_upd o.f) r)) (fun a ha => ⟨upd_ne ha, upd_ne ha⟩) _ _ g1 _ fun v F2 H2 g2 r2 => ?_
  have e2 : F2 l = some (.frz od u) := g2.ff _ _ upd_same
  have hd : IsD F2 l := by
    obtain ⟨kvs, e, _⟩ := r
    exact DKey.isD (.inr ⟨od, e ▸ e2⟩)
  exact ⟨g2.fh _ _ e2, q v (er F2 l) _ (Gr.hide h1 f1 (Ob.pl r) g2) (FlatD.fl hd r2)⟩
theorem call_lenDR : CallR X (.builtin "len") (fun xs H Q => ∃ (a : Addr) (kvs : List (Key × V)), xs = [V.ref a] ∧ Rd H a (.dK kvs) ∧ Q (.int (kvs.length : Nat)) H) := by
  intro pins s σ H xs us Q I r h
  obtain ⟨a, kvs, rfl, ha, q⟩ := h
  obtain ⟨u, rfl, ru⟩ := vals1 r
  cases ru
  exact d_len I ha fun t s' I' => ⟨.int kvs.length, H, I', ⟨t, rfl⟩, q⟩
theorem oc_lenD {κ ν : Type} [Rp κ] [DecidableEq κ] [KeyS κ] [Rp ν] {m : Dct κ ν} : OpC K (fun xs H Q => ∃ (a : Addr) (kvs : List (Key × V)), xs = [V.ref a] ∧ Rd H a (.dK kvs) ∧ Q (.int (kvs.length : Nat)) H) (m, ()) (m.l.length : Int) :=
  oc1 fun F H v Q s ⟨a, o, kvs, e, hF, kr⟩ k => ⟨a, kvm KeyS.g kvs, by rw [e], .inr ⟨o, s _ _ hF⟩, k _ F H (.refl s) (by rw [kvm_len]; exact congrArg (fun n : Nat => V.int n) (Paired.length kr))⟩
end
/-- an item of a list that is a number -/
theorem el_int {es : List Expr} {i : Int} {j : Nat} {pos : Pos} {xs : List Int} (hr : EvL X es σ F H xs) : EvL X (.Constant (.int i) j pos :: es) σ F H (i :: xs) := el_cons ev_int hr
/-! ### a list taken apart -/
def unlist2 {α : Type} : List α → Option (T2 α α)
  | [a, b] => some ⟨a, b⟩
  | _ => none
def unlist3 {α : Type} : List α → Option (T3 α α α)
  | [a, b, c] => some ⟨a, b, c⟩
  | _ => none
def unlist4 {α : Type} : List α → Option (T4 α α α α)
  | [a, b, c, d] => some ⟨a, b, c, d⟩
  | _ => none
theorem unl2 {K : PySem.W.Frag} {F : Hp} {v : V} {α : Type} [Rp α] {xs : List α} {t : T2 α α} (h : unlist2 xs = some t) (r : rp K F v xs) : ∃ a vs, v = .ref a ∧ SqL K F a vs ∧ ra K F vs t.row := by
  obtain ⟨a, vs, e, q, rs⟩ := r
  match xs, h with
  | [x, y], h =>
    cases h
    cases rs with
    | cons r1 rs => cases rs with
      | cons r2 rs => cases rs; exact ⟨a, _, e, q, _, _, rfl, r1, _, _, rfl, r2, rfl⟩
theorem unl3 {K : PySem.W.Frag} {F : Hp} {v : V} {α : Type} [Rp α] {xs : List α} {t : T3 α α α} (h : unlist3 xs = some t) (r : rp K F v xs) : ∃ a vs, v = .ref a ∧ SqL K F a vs ∧ ra K F vs t.row := by
  obtain ⟨a, vs, e, q, rs⟩ := r
  match xs, h with
  | [x, y, z], h =>
    cases h
    cases rs with
    | cons r1 rs => cases rs with
      | cons r2 rs => cases rs with
        | cons r3 rs => cases rs; exact ⟨a, _, e, q, _, _, rfl, r1, _, _, rfl, r2, _, _, rfl, r3, rfl⟩
theorem unl4 {K : PySem.W.Frag} {F : Hp} {v : V} {α : Type} [Rp α] {xs : List α} {t : T4 α α α α} (h : unlist4 xs = some t) (r : rp K F v xs) : ∃ a vs, v = .ref a ∧ SqL K F a vs ∧ ra K F vs t.row := by
  obtain ⟨a, vs, e, q, rs⟩ := r
  match xs, h with
  | [x, y, z, u], h =>
    cases h
    cases rs with
    | cons r1 rs => cases rs with
      | cons r2 rs => cases rs with
        | cons r3 rs => cases rs with
          | cons r4 rs => cases rs; exact ⟨a, _, e, q, _, _, rfl, r1, _, _, rfl, r2, _, _, rfl, r3, _, _, rfl, r4, rfl⟩
theorem seqL_mono {K : PySem.W.Frag} {F H : Hp} {a : Addr} {vs : List V} (s : L2.Same F H) (q : SqL K F a vs) : SqL K H a vs := s.seq q
/-! ### a thing of which no more is known than that it is there -/
structure Blur : Type where
instance : Rp Blur := ⟨fun _ _ v _ => v ≠ .non, fun _ h => h⟩
instance : NN Blur := ⟨fun h => h rfl⟩
instance : Flat Blur := ⟨fun _ _ h => h⟩
instance : FlatD Blur := ⟨fun _ h => h⟩
theorem ev_blur {X : Cx} {e : Expr} {σ : L2.St} {F H : Hp} {α : Type} [Rp α] [NN α] {o : Option α} (h : Ev X e σ F H o) : Ev X e σ F H (o.map fun _ => Blur.mk) := fun F1 H1 g Q q => h F1 H1 g Q fun v F2 H2 g2 r2 => q v F2 H2 g2 (by
  cases o with
  | none => exact r2
  | some x => exact fun z => NN.nn (α := α) (z ▸ r2))
/-! ### the same with what is told ahead: a named argument makes the reader of the text look through the whole type -/
section
variable {X : Cx} {e a b c : Expr} {σ : L2.St} {F H : Hp} {pos : Pos} {D : Ends} {rest : List Stmt}
theorem go_setA (α : Type) [Rp α] {x : α} {n : Str} {p : Pos} (i : Nat) (s : SmX X.K F H) (he : Ev X e σ F H x) (k : ∀ v F' H', Gr F H F' H' → rp X.K F' v x → GoS X rest D (σ.set i (some v)) H') (hN : X.N.Nodup) (hi : X.N[i]? = some n := by rfl)
    (hx : Loc X.env.scope n := by first | exact Or.inl rfl | exact Or.inr rfl) (hs : swapsWith e (some (.Name n p)) pos.line X.env = pure false := by rfl) (hf : X.fn n = true ∨ X.env.scope.names.lookup n = some .local := by first | exact .inl rfl | exact .inr rfl) :
    GoS X (.Assign [.Name n p] e pos :: rest) D σ H := go_set i s he k hN hi hx hs hf
theorem go_setNA (α : Type) [Rp α] [Ob α] {x : α} {n : Str} {p : Pos} (i : Nat) (s : SmX X.K F H) (he : EvN X e σ F H x) (k : ∀ l o F' H', Gr F H F' H' → H l = none → F' l = none → H' l = some o → ob X.K F' o x → GoS X rest D (σ.set i (some (.ref l))) H') (hN : X.N.Nodup) (hi : X.N[i]? = some n := by rfl)
    (hx : Loc X.env.scope n := by first | exact Or.inl rfl | exact Or.inr rfl) (hs : swapsWith e (some (.Name n p)) pos.line X.env = pure false := by rfl) (hf : X.fn n = true ∨ X.env.scope.names.lookup n = some .local := by first | exact .inl rfl | exact .inr rfl) :
    GoS X (.Assign [.Name n p] e pos :: rest) D σ H := go_setN i s he k hN hi hx hs hf
theorem go_retA (α : Type) [Rp α] {x : α} (s : SmX X.K F H) (he : Ev X e σ F H x) (k : ∀ v F' H', Gr F H F' H' → rp X.K F' v x → D.rt v H') : GoS X (.Return (some e) pos :: rest) D σ H := go_ret s he k
theorem go_ifA (t : Bool) {as bs : List Stmt} (s : SmX X.K F H) (hc : EvT X c σ F H t) (ka : t = true → ∀ F' H', Gr F H F' H' → GoS X as { D with nx := GoS X rest D } σ H') (kb : t = false → ∀ F' H', Gr F H F' H' → GoS X bs { D with nx := GoS X rest D } σ H') :
    GoS X (.If c as bs pos :: rest) D σ H := go_if s hc ka kb
theorem go_ifjA (t : Bool) {as bs : List Stmt} (P : L2.St → Hp → Prop) (s : SmX X.K F H) (hc : EvT X c σ F H t) (ka : t = true → ∀ F' H', Gr F H F' H' → GoS X as { D with nx := P } σ H') (kb : t = false → ∀ F' H', Gr F H F' H' → GoS X bs { D with nx := P } σ H')
    (k : ∀ σ' H', P σ' H' → GoS X rest D σ' H') : GoS X (.If c as bs pos :: rest) D σ H := go_ifj P s hc ka kb k
theorem EvN.evA (α : Type) [Rp α] [Ob α] {x : α} (h : EvN X e σ F H x) : Ev X e σ F H x := h.ev
theorem ew_orA (x : Bool) {r : Bool} {rest : List Expr} (ha : EvT X a σ F H x) (hb : x = false → EvW X (.BoolOp .Or (b :: rest) pos) σ F H r) (hn : x = true → r = true) : EvW X (.BoolOp .Or (a :: b :: rest) pos) σ F H r := ew_or ha hb hn
theorem ew_andA (x : Bool) {r : Bool} {rest : List Expr} (ha : EvT X a σ F H x) (hb : x = true → EvW X (.BoolOp .And (b :: rest) pos) σ F H r) (hn : x = false → r = false) : EvW X (.BoolOp .And (a :: b :: rest) pos) σ F H r := ew_and ha hb hn
theorem ev_andA (x : Bool) {r : Bool} {rest : List Expr} (ha : Ev X a σ F H x) (hb : x = true → Ev X (.BoolOp .And (b :: rest) pos) σ F H r) (hn : x = false → r = false) : Ev X (.BoolOp .And (a :: b :: rest) pos) σ F H r := ev_and ha hb hn
theorem ev_powcA (z : Int) {x y : Int} (ha : Ev X a σ F H x) (hb : Ev X b σ F H y) (h : CPow x y) (hz : x ^ y.toNat = z) : Ev X (.BinOp a .Pow b pos) σ F H z := ev_powc ha hb h hz
end
end Gx

/-! Gr: isinstance of own classes. -/
namespace Gx
open PySem PySem.Spec PyProof.Rows L2
open Rp (rp)
open Ra (ra)
open Ob (ob)
/-- what isinstance asks of a class cn, and its answer for dn -/
structure IsaF (K : PySem.W.Frag) (cn dn : Str) (b : Bool) : Prop where
  ha : PySem.W.findIn K (.ref (He.ga K cn)) "__class__" = some (some (.builtin "object.__class__"))
  hn : PySem.W.specialIn K (.builtin "object.__class__") "__get__" = some (some (.builtin "getset_descriptor.__get__"))
  ht : PySem.W.takesIn K (.builtin "object.__class__") = some true
  hm : PySem.W.mroIn K (He.ga K cn) (.type "object") = some true
  kit : PySem.W.kitOne K (.ref (He.ga K cn)) (.ref (He.ga K dn)) = some b
def isaB (K : PySem.W.Frag) (cn dn : Str) (b : Bool) : Bool := decide (PySem.W.findIn K (.ref (He.ga K cn)) "__class__" = some (some (.builtin "object.__class__"))) && (decide (PySem.W.specialIn K (.builtin "object.__class__") "__get__" = some (some (.builtin "getset_descriptor.__get__"))) && (decide (PySem.W.takesIn K (.builtin "object.__class__") = some true) && (decide (PySem.W.mroIn K (He.ga K cn) (.type "object") = some true) && decide (PySem.W.kitOne K (.ref (He.ga K cn)) (.ref (He.ga K dn)) = some b))))
theorem isaB_ok {K : PySem.W.Frag} {cn dn : Str} {b : Bool} (h : isaB K cn dn b = true) : IsaF K cn dn b := by
  obtain ⟨h1, h⟩ := Bool.and_eq_true_iff.mp h
  obtain ⟨h2, h⟩ := Bool.and_eq_true_iff.mp h
  obtain ⟨h3, h⟩ := Bool.and_eq_true_iff.mp h
  obtain ⟨h4, h5⟩ := Bool.and_eq_true_iff.mp h
  exact ⟨of_decide_eq_true h1, of_decide_eq_true h2, of_decide_eq_true h3, of_decide_eq_true h4, of_decide_eq_true h5⟩
section
variable {X : Cx} {K : PySem.W.Frag} {e a b c d : Expr} {es : List Expr} {σ : L2.St} {F H F0 H0 : Hp} {pos : Pos} {D : Ends} {st : Stmt} {rest body : List Stmt}
theorem ev_isc {α : Type} [Rp α] {x : α} {cn dn : Str} {r : Bool} {p1 p2 : Pos} (hx : ∀ F v, rp X.K F v x → ∃ a dx fs, v = .ref a ∧ F a = some (.ins (He.ga X.K cn) dx fs)) (I : IsaF X.K cn dn r) (cl : Cls X.K (He.ga X.K cn)) (hm : X.mg "isinstance" = none) (hD : X.mg dn = some (.ref (He.ga X.K dn))) (ha : Ev X a σ F H x)
    (hg : Gl X "isinstance" := by rfl) (hgD : Gl X dn := by rfl) (hd : (dn == ("__debug__" : Str)) = false := by decide)
    (hs : starEach [a, .Name dn p2] X.env = (false, eval a X.env) :: starEach [.Name dn p2] X.env := by rfl) (hs2 : starEach [.Name dn p2] X.env = (false, eval (.Name dn p2) X.env) :: starEach [] X.env := by rfl)
    (hpl : (backTo pos (starEach [.Name dn p2] X.env)).any (·.1) = false := by rfl) : Ev X (.Call (.Name "isinstance" p1) [a, .Name dn p2] [] pos) σ F H r := fun F1 H1 g Q q =>
  GoE.of (pe_callB call_isi hg hm (by decide +kernel) (pa_cons pe_go (pa_cons (pe_glob (v := .ref (He.ga X.K dn)) hgD hD rfl hd) pa_nil hs2) hs) (by decide) (by decide) hs hpl)
    (ha F1 H1 g _ fun v F2 H2 g2 r2 => by
      obtain ⟨z, dx, fs, e, hF⟩ := hx F2 v r2
      exact ⟨v, .ref (He.ga X.K dn), .ref (He.ga X.K cn), .ref (He.ga X.K dn), r, rfl, .own _, e ▸ .base (.ins (g2.fh _ _ hF) cl I.ha I.hn I.ht I.hm), I.kit, q _ F2 H2 g2 rfl⟩)
theorem rpI.ins {cn : Str} {names : List Str} {τ : Type} [Ra τ] {F : Hp} {v : V} {x : τ} (h : rpI cn names K F v x) : ∃ a dx fs, v = .ref a ∧ F a = some (.ins (He.ga K cn) dx fs) := by
  obtain ⟨a, dx, vs, e, q, _⟩ := h
  exact ⟨a, dx, _, e, q⟩
structure T6 (α β γ δ ε ζ : Type) where
  a : α
  b : β
  c : γ
  d : δ
  e : ε
  f : ζ
  deriving DecidableEq
abbrev T6.row {α β γ δ ε ζ : Type} (x : T6 α β γ δ ε ζ) : α × β × γ × δ × ε × ζ × Unit := (x.a, x.b, x.c, x.d, x.e, x.f, ())
instance {α β γ δ ε ζ : Type} [Rp α] [Rp β] [Rp γ] [Rp δ] [Rp ε] [Rp ζ] : Rp (T6 α β γ δ ε ζ) := ⟨rpT T6.row, rpT.mono⟩
instance {α β γ δ ε ζ : Type} [Rp α] [Rp β] [Rp γ] [Rp δ] [Rp ε] [Rp ζ] : NN (T6 α β γ δ ε ζ) := ⟨rpT.nn⟩
instance {α β γ δ ε ζ : Type} [Rp α] [Rp β] [Rp γ] [Rp δ] [Rp ε] [Rp ζ] : Tup (T6 α β γ δ ε ζ) (α × β × γ × δ × ε × ζ × Unit) := ⟨T6.row, Iff.rfl⟩
instance {α β γ δ ε ζ : Type} [Rp α] [Rp β] [Rp γ] [Rp δ] [Rp ε] [Rp ζ] [Flat α] [Flat β] [Flat γ] [Flat δ] [Flat ε] [Flat ζ] : Flat (T6 α β γ δ ε ζ) := ⟨rpT.fl⟩
instance {α β γ δ ε ζ : Type} [Rp α] [Rp β] [Rp γ] [Rp δ] [Rp ε] [Rp ζ] [FlatD α] [FlatD β] [FlatD γ] [FlatD δ] [FlatD ε] [FlatD ζ] : FlatD (T6 α β γ δ ε ζ) := ⟨rpT.fd⟩
instance {α β γ δ ε ζ : Type} [Rp α] [Rp β] [Rp γ] [Rp δ] [Rp ε] [Rp ζ] : Kd (T6 α β γ δ ε ζ) := ⟨"tuple", rpT.kd⟩
instance {α β γ δ ε ζ : Type} [Rp α] [Rp β] [Rp γ] [Rp δ] [Rp ε] [Rp ζ] [Pd α] [Pd β] [Pd γ] [Pd δ] [Pd ε] [Pd ζ] : Pd (T6 α β γ δ ε ζ) := ⟨fun x => .tuple (PdR.toR x.row), rpT.dp, rowEq fun x y => by cases x; cases y; simp [T6.row]⟩
instance {α β γ δ ε ζ : Type} [Rp α] [Rp β] [Rp γ] [Rp δ] [Rp ε] [Rp ζ] [Pd α] [Pd β] [Pd γ] [Pd δ] [Pd ε] [Pd ζ] [PdS α] [PdS β] [PdS γ] [PdS δ] [PdS ε] [PdS ζ] : PdS (T6 α β γ δ ε ζ) := ⟨PdRS.dep (α × β × γ × δ × ε × ζ × Unit) + 1, fun x => Nat.succ_le_succ (PdRS.de x.row)⟩
instance {α β γ δ ε ζ : Type} [Rp α] [Rp β] [Rp γ] [Rp δ] [Rp ε] [Rp ζ] [Pd α] [Pd β] [Pd γ] [Pd δ] [Pd ε] [Pd ζ] [PdF α] [PdF β] [PdF γ] [PdF δ] [PdF ε] [PdF ζ] : PdF (T6 α β γ δ ε ζ) := ⟨fun x => PdRF.ok x.row⟩
instance {α β γ δ ε ζ : Type} [Rp α] [Rp β] [Rp γ] [Rp δ] [Rp ε] [Rp ζ] [Pd α] [Pd β] [Pd γ] [Pd δ] [Pd ε] [Pd ζ] [PdL α] [PdL β] [PdL γ] [PdL δ] [PdL ε] [PdL ζ] : PdL (T6 α β γ δ ε ζ) := ⟨fun x => PdRL.tx x.row, fun h => PdRL.ok h⟩
theorem ev_tup6 {α β γ δ ε ζ : Type} [Rp α] [Rp β] [Rp γ] [Rp δ] [Rp ε] [Rp ζ] {x : α} {y : β} {z : γ} {u : δ} {w : ε} {p : ζ} {k : Nat} (h : EvA X es σ F H (x, y, z, u, w, p, ())) : Ev X (.Tuple es k pos) σ F H (T6.mk x y z u w p) := ev_tup (θ := T6 α β γ δ ε ζ) h (by show 6 ≤ sizeLine; decide)
structure T7 (α β γ δ ε ζ η : Type) where
  a : α
  b : β
  c : γ
  d : δ
  e : ε
  f : ζ
  g : η
  deriving DecidableEq
abbrev T7.row {α β γ δ ε ζ η : Type} (x : T7 α β γ δ ε ζ η) : α × β × γ × δ × ε × ζ × η × Unit := (x.a, x.b, x.c, x.d, x.e, x.f, x.g, ())
instance {α β γ δ ε ζ η : Type} [Rp α] [Rp β] [Rp γ] [Rp δ] [Rp ε] [Rp ζ] [Rp η] : Rp (T7 α β γ δ ε ζ η) := ⟨rpT T7.row, rpT.mono⟩
instance {α β γ δ ε ζ η : Type} [Rp α] [Rp β] [Rp γ] [Rp δ] [Rp ε] [Rp ζ] [Rp η] : NN (T7 α β γ δ ε ζ η) := ⟨rpT.nn⟩
instance {α β γ δ ε ζ η : Type} [Rp α] [Rp β] [Rp γ] [Rp δ] [Rp ε] [Rp ζ] [Rp η] : Tup (T7 α β γ δ ε ζ η) (α × β × γ × δ × ε × ζ × η × Unit) := ⟨T7.row, Iff.rfl⟩
instance {α β γ δ ε ζ η : Type} [Rp α] [Rp β] [Rp γ] [Rp δ] [Rp ε] [Rp ζ] [Rp η] [Flat α] [Flat β] [Flat γ] [Flat δ] [Flat ε] [Flat ζ] [Flat η] : Flat (T7 α β γ δ ε ζ η) := ⟨rpT.fl⟩
instance {α β γ δ ε ζ η : Type} [Rp α] [Rp β] [Rp γ] [Rp δ] [Rp ε] [Rp ζ] [Rp η] [FlatD α] [FlatD β] [FlatD γ] [FlatD δ] [FlatD ε] [FlatD ζ] [FlatD η] : FlatD (T7 α β γ δ ε ζ η) := ⟨rpT.fd⟩
instance {α β γ δ ε ζ η : Type} [Rp α] [Rp β] [Rp γ] [Rp δ] [Rp ε] [Rp ζ] [Rp η] : Kd (T7 α β γ δ ε ζ η) := ⟨"tuple", rpT.kd⟩
instance {α β γ δ ε ζ η : Type} [Rp α] [Rp β] [Rp γ] [Rp δ] [Rp ε] [Rp ζ] [Rp η] [Pd α] [Pd β] [Pd γ] [Pd δ] [Pd ε] [Pd ζ] [Pd η] : Pd (T7 α β γ δ ε ζ η) := ⟨fun x => .tuple (PdR.toR x.row), rpT.dp, rowEq fun x y => by cases x; cases y; simp [T7.row]⟩
instance {α β γ δ ε ζ η : Type} [Rp α] [Rp β] [Rp γ] [Rp δ] [Rp ε] [Rp ζ] [Rp η] [Pd α] [Pd β] [Pd γ] [Pd δ] [Pd ε] [Pd ζ] [Pd η] [PdS α] [PdS β] [PdS γ] [PdS δ] [PdS ε] [PdS ζ] [PdS η] : PdS (T7 α β γ δ ε ζ η) := ⟨PdRS.dep (α × β × γ × δ × ε × ζ × η × Unit) + 1, fun x => Nat.succ_le_succ (PdRS.de x.row)⟩
instance {α β γ δ ε ζ η : Type} [Rp α] [Rp β] [Rp γ] [Rp δ] [Rp ε] [Rp ζ] [Rp η] [Pd α] [Pd β] [Pd γ] [Pd δ] [Pd ε] [Pd ζ] [Pd η] [PdF α] [PdF β] [PdF γ] [PdF δ] [PdF ε] [PdF ζ] [PdF η] : PdF (T7 α β γ δ ε ζ η) := ⟨fun x => PdRF.ok x.row⟩
instance {α β γ δ ε ζ η : Type} [Rp α] [Rp β] [Rp γ] [Rp δ] [Rp ε] [Rp ζ] [Rp η] [Pd α] [Pd β] [Pd γ] [Pd δ] [Pd ε] [Pd ζ] [Pd η] [PdL α] [PdL β] [PdL γ] [PdL δ] [PdL ε] [PdL ζ] [PdL η] : PdL (T7 α β γ δ ε ζ η) := ⟨fun x => PdRL.tx x.row, fun h => PdRL.ok h⟩
theorem ev_tup7 {α β γ δ ε ζ η : Type} [Rp α] [Rp β] [Rp γ] [Rp δ] [Rp ε] [Rp ζ] [Rp η] {x : α} {y : β} {z : γ} {u : δ} {w : ε} {p : ζ} {q : η} {k : Nat} (h : EvA X es σ F H (x, y, z, u, w, p, q, ())) : Ev X (.Tuple es k pos) σ F H (T7.mk x y z u w p q) := ev_tup (θ := T7 α β γ δ ε ζ η) h (by show 7 ≤ sizeLine; decide)
theorem pj5 {α β γ δ ε ζ τ : Type} [Rp α] [Rp β] [Rp γ] [Rp δ] [Rp ε] [Rp ζ] [Ra τ] {x0 : α} {x1 : β} {x2 : γ} {x3 : δ} {x4 : ε} {x5 : ζ} {y : τ} : Proj 5 (x0, x1, x2, x3, x4, x5, y) x5 := fun K F vs ⟨v0, r0, e0, p0, v1, r1, e1, p1, v2, r2, e2, p2, v3, r3, e3, p3, v4, r4, e4, p4, v5, r5, e5, p5, q⟩ => ⟨v5, by subst e0; subst e1; subst e2; subst e3; subst e4; subst e5; show (ixN (r5.length + 1 + 1 + 1 + 1 + 1 + 1) 5).bind _ = _; unfold ixN; rw [if_pos (by decide), if_pos (by omega)]; rfl, p5⟩
theorem pj6 {α β γ δ ε ζ η τ : Type} [Rp α] [Rp β] [Rp γ] [Rp δ] [Rp ε] [Rp ζ] [Rp η] [Ra τ] {x0 : α} {x1 : β} {x2 : γ} {x3 : δ} {x4 : ε} {x5 : ζ} {x6 : η} {y : τ} : Proj 6 (x0, x1, x2, x3, x4, x5, x6, y) x6 := fun K F vs ⟨v0, r0, e0, p0, v1, r1, e1, p1, v2, r2, e2, p2, v3, r3, e3, p3, v4, r4, e4, p4, v5, r5, e5, p5, v6, r6, e6, p6, q⟩ => ⟨v6, by subst e0; subst e1; subst e2; subst e3; subst e4; subst e5; subst e6; show (ixN (r6.length + 1 + 1 + 1 + 1 + 1 + 1 + 1) 6).bind _ = _; unfold ixN; rw [if_pos (by decide), if_pos (by omega)]; rfl, p6⟩
theorem zip_none {m : Str} : ∀ {names : List Str} {vs : List V}, m ∉ names → (names.zip vs).lookup m = none
  | [], _, _ => rfl
  | _ :: _, [], _ => rfl
  | n :: ns, v :: vs, h => by
    show (match m == n with | true => some v | false => (ns.zip vs).lookup m) = none
    have h1 : (m == n) = false := beq_eq_false_iff_ne.mpr fun e => h (e ▸ List.mem_cons_self)
    rw [h1]
    exact zip_none fun z => h (List.mem_cons_of_mem _ z)
/-- o.m() of a thing of one class -/
theorem ev_meth0 {α ρ : Type} [Rp α] [Rp ρ] {x : α} {f : α × Unit → Option ρ} {r : ρ} {cn m : Str} {names : List Str} {k : Nat} {fa : Addr} {fd : FuncData} {ps : List Str} {apos : Pos} {pl : Sem Bool} (hx : ∀ F v, rp X.K F v x → ∃ a dx vs, v = .ref a ∧ F a = some (.ins (He.ga X.K cn) dx (names.zip vs))) (hn : m ∉ names) (cl : Cls X.K (He.ga X.K cn)) (me : Meth X.K (He.ga X.K cn) m fa)
    (Fn : FnOk X.prog X.w X.K X.mg X.base CX0 k fa fd ps (Pr X.K f)) (hr : Room k X.A) (hb : Binds X.K fd ps []) (ha : Ev X a σ F H x) (h : f (x, ()) = some r)
    (ht : eval (.Call (.Attribute a m apos) [] [] pos) X.env = (do
      let ov ← eval a X.env
      standAt apos.atName
      let (f, first) ← holding [ov] (getMethod ov m pl)
      callWith pos f first (backTo pos (starEach [] X.env)) (backToKw pos (keywordEach [] X.env))) := by rfl) : Ev X (.Call (.Attribute a m apos) [] [] pos) σ F H r := fun F1 H1 g Q q =>
  GoE.of (pe_meth0 pe_go cl me Fn hr hb .nil pass0 ht) (ha F1 H1 g _ fun v F2 H2 g2 r2 => by
    obtain ⟨z, dx, vs, e, hF⟩ := hx F2 v r2
    subst e
    exact ⟨z, dx, _, rfl, g2.fh _ _ hF, zip_none hn, F2, (x, ()), r, (g.trans g2).sm, ⟨_, [], rfl, r2, rfl⟩, h, fun F3 H3 u g3 r3 => q u F3 H3 (g2.trans g3) r3⟩)
theorem rpI.insN {cn : Str} {names : List Str} {τ : Type} [Ra τ] {F : Hp} {v : V} {x : τ} (h : rpI cn names K F v x) : ∃ a dx vs, v = .ref a ∧ F a = some (.ins (He.ga K cn) dx (names.zip vs)) := by
  obtain ⟨a, dx, vs, e, q, _⟩ := h
  exact ⟨a, dx, vs, e, q⟩
end
end Gx

/-! Gn: exceptions: defs that may raise, try with one clause. -/
namespace Gx
open PySem PySem.Spec PyProof.Rows L2
open Rp (rp)
open Ra (ra)
open Ob (ob)
/-- an outcome: a value, or an exception -/
inductive Rs (ε ρ : Type) where
  | v (r : ρ)
  | x (e : ε)
/-- what stands for an exception of a class, with a dict -/
class Xk (ε : Type) where
  xr : PySem.W.Frag → Hp → Hp → Value → Option Addr → ε → Prop
open Xk (xr)
/-- with one field -/
def xr1 (cn fn : Str) {α : Type} [Rp α] (K : PySem.W.Frag) (F H : Hp) (cls : Value) (dd : Option Addr) (x : α) : Prop := cls = .ref (He.ga K cn) ∧ ∃ d v, dd = some d ∧ H d = some (.xd [(fn, v)]) ∧ rp K F v x
/-- without one -/
def xr0 (cn : Str) (K : PySem.W.Frag) (cls : Value) (dd : Option Addr) : Prop := cls = .ref (He.ga K cn) ∧ dd = none
/-- the promise of a def that may raise -/
def PrE (K : PySem.W.Frag) {τ ε ρ : Type} [Ra τ] [Xk ε] [Rp ρ] (f : τ → Option (Rs ε ρ)) : Sp := fun vs H Q E => ∃ F a o, SmX K F H ∧ ra K F vs a ∧ f a = some o ∧
  (∀ r, o = .v r → ∀ F' H' u, Gr F H F' H' → rp K F' u r → Q u H') ∧ (∀ e, o = .x e → ∀ F' H' cls dd, Gr F H F' H' → xr K F' H' cls dd e → E cls dd H')
/-! ### classes -/
def oexB (K : PySem.W.Frag) (C : Addr) : Bool := match K.lookup C with
  | some ⟨.type "type", _, .cls cd, sl⟩ => (match cd.mro, sl.toList with
    | .ref C' :: bm, [_, _, _, _, some (.builtin n), _] => C' == C && n == "ValueError.__new__" && !cd.hasDel && cd.hasDict && PySem.HandSPX.refsVE bm
    | _, _ => false)
  | _ => false
theorem oexB_ok {K : PySem.W.Frag} {C : Addr} (q : oexB K C = true) : ∃ nm q N bs bm sn sub ab col dd k0 k1 k2 k3 k5, K.lookup C = some (excClassObj nm q C N bs bm true sn sub ab col dd k0 k1 k2 k3 k5 "ValueError.__new__") ∧ PySem.HandSPX.refsVE bm = true := by
  unfold oexB at q
  split at q
  · rename_i dd cd sl ho
    split at q
    · rename_i C' bm k0 k1 k2 k3 n k5 hm hs
      simp only [Bool.and_eq_true, beq_iff_eq, Bool.not_eq_true'] at q
      obtain ⟨⟨⟨⟨rfl, rfl⟩, hdel⟩, hdd⟩, hv⟩ := q
      obtain ⟨nm, bs, mro, ns, qn, hd, sn, sub, ab, col, del⟩ := cd
      dsimp only at hm hdel hdd
      subst hm hdel hdd
      have hsl : sl = #[k0, k1, k2, k3, some (.builtin "ValueError.__new__"), k5] := by
        obtain ⟨l⟩ := sl
        simp only at hs
        rw [hs]
      subst hsl
      exact ⟨nm, qn, ns, bs, bm, sn, sub, ab, col, dd, k0, k1, k2, k3, k5, ho, hv⟩
    · cases q
  · cases q
structure XoF (K : PySem.W.Frag) (cn fn : Str) : Prop where
  T : OexC K (He.ga K cn)
  iC : PySem.W.findIn K (.ref (He.ga K cn)) "__init__" = some (some (.ref (He.ma K (He.ga K cn) "__init__")))
  tI : PySem.W.typeIn K (.ref (He.ma K (He.ga K cn) "__init__")) = some (.type "function")
  no : PySem.W.findIn K (.ref (He.ga K cn)) fn = some none
  xf : XfC K (He.ga K cn)
def xoB (K : PySem.W.Frag) (cn fn : Str) : Bool := (((((((oexB K (He.ga K cn) && decide (PySem.W.findIn K (.ref (He.ga K cn)) "__setattr__" = some (some (.builtin "object.__setattr__")))) && decide (PySem.W.subIn K (.ref (He.ga K cn)) (.type "BaseException") = some true)) && decide (PySem.W.typeIn K (.ref (He.ga K cn)) = some (.type "type"))) && PySem.W.keepIn K (.ref (He.ga K cn))) &&
  decide (PySem.W.findIn K (.ref (He.ga K cn)) "__init__" = some (some (.ref (He.ma K (He.ga K cn) "__init__"))))) && decide (PySem.W.typeIn K (.ref (He.ma K (He.ga K cn) "__init__")) = some (.type "function"))) && decide (PySem.W.findIn K (.ref (He.ga K cn)) fn = some none)) && xfB K (He.ga K cn)
theorem xoB_ok {K : PySem.W.Frag} {cn fn : Str} (h : xoB K cn fn = true) : XoF K cn fn := by
  obtain ⟨h, h9⟩ := Bool.and_eq_true_iff.mp h
  obtain ⟨h, h8⟩ := Bool.and_eq_true_iff.mp h
  obtain ⟨h, h7⟩ := Bool.and_eq_true_iff.mp h
  obtain ⟨h, h6⟩ := Bool.and_eq_true_iff.mp h
  obtain ⟨h, h5⟩ := Bool.and_eq_true_iff.mp h
  obtain ⟨h, h4⟩ := Bool.and_eq_true_iff.mp h
  obtain ⟨h, h3⟩ := Bool.and_eq_true_iff.mp h
  obtain ⟨h1, h2⟩ := Bool.and_eq_true_iff.mp h
  exact ⟨⟨oexB_ok h1, of_decide_eq_true h2, of_decide_eq_true h3, of_decide_eq_true h4, h5⟩, of_decide_eq_true h6, of_decide_eq_true h7, of_decide_eq_true h8, xfB_ok h9⟩
/-- what is asked of a class without own __init__ -/
abbrev XnF (K : PySem.W.Frag) (cn : Str) : Prop := PySem.W.excIn K (He.ga K cn) He.veBase "ValueError.__new__" = true ∧ PySem.W.keepIn K (.ref (He.ga K cn)) = true ∧ PySem.W.subIn K (.ref (He.ga K cn)) (.type "BaseException") = some true ∧ PySem.W.typeIn K (.ref (He.ga K cn)) = some (.type "type")
/-- the promise of such an __init__ -/
def PrXI (K : PySem.W.Frag) (C : Addr) (fn : Str) : Sp := fun vs H Q _ => ∃ a v, vs = [.ref a, v] ∧ H a = some (exo a C none) ∧ ∀ d, H d = none → d ≠ a → Q .non (upd (upd H d (exd d [(fn, v)])) a (exo a C (some d)))
section
variable {X : Cx} {K : PySem.W.Frag} {e a b c d : Expr} {es : List Expr} {σ : L2.St} {F H F0 H0 : Hp} {pos : Pos} {D : Ends} {st : Stmt} {rest body : List Stmt} {ε : Type} [Xk ε] {W : WX}
theorem fn_okXI {P : Program} {w : World} {mg : Str → Option Value} {base : Heap} {x qual : Str} {s0 : Stmt} {fa : Addr} {fd : FuncData} {N ps : List Str} {k : Nat} {cn fn : Str} (Fn : FunD K x qual (defArgs s0) (defBody s0) (defScope s0) [] [] fa fd) (S : FnScope N ps (defScope s0)) (hn : 2 = ps.length) (X1 : XoF K cn fn)
    {p1 p2 p3 p4 : Pos} {n0 n1 : Str} (hb : defBody s0 = [.Assign [.Attribute (.Name n0 p1) fn p2] (.Name n1 p3) p4]) (hN : N = [n0, n1])
    (hk0 : ∀ m f cd, Vis (envOfC qual (defScope s0) m f cd).scope n0) (hk1 : ∀ m f cd, Vis (envOfC qual (defScope s0) m f cd).scope n1) (hs : ∀ m f cd, swapsWith (.Name n1 p3) (some (.Attribute (.Name n0 p1) fn p2)) p4.line (envOfC qual (defScope s0) m f cd) = pure false)
    (d0 : (n0 == ("__debug__" : Str)) = false := by decide) (d1 : (n1 == ("__debug__" : Str)) = false := by decide) (c0 : (n0 == ("__classdict__" : Str)) = false := by decide) (c1 : (n1 == ("__classdict__" : Str)) = false := by decide) :
    FnOk P w K mg base CX0 (k + 1) fa fd ps (PrXI K (He.ga K cn) fn) := by
  refine Fn.ok S (fun vs H Q E ⟨a, v, e, _⟩ => by rw [e, ← hn]; rfl) fun cdv A outer s H vs Q E hr ⟨a, v, e, ha, k⟩ => ?_
  subst e
  rw [hb]
  subst hN
  refine ⟨_, pss_cons (ps_ost (pe_var (i := 0) rfl (hk0 _ _ _) d0 c0) (pe_var (i := 1) rfl (hk1 _ _ _) d1 c1) (hs _ _ _)) pss_nil, ?_⟩
  exact ⟨v, rfl, .ref a, rfl, a, _, rfl, X1.T, X1.no, .inl ⟨ha, fun dx n1 n2 => k dx n1 n2⟩⟩
theorem fn_okX {P : Program} {w : World} {mg : Str → Option Value} {base : Heap} {τ ρ : Type} [Ra τ] [RaN τ] [Rp ρ] {f : τ → Option (Rs ε ρ)} {x qual : Str} {s0 : Stmt} {fa : Addr} {fd : FuncData} {N ps : List Str} {k : Nat} (Fn : FunD K x qual (defArgs s0) (defBody s0) (defScope s0) [] [] fa fd) (S : FnScope N ps (defScope s0)) (hn : RaN.n τ = ps.length)
    (hbody : ∀ (cdv : Value) (A : Around) (outer : List Env) (s : Shared) (F H : Hp) (vs : List V) (a : τ) (r : Rs ε ρ) (D : Ends) (E : XK), Room k (A.deeper (envOfC qual (defScope s0) s.heap.objs.size fa cdv)) → SmX K F H → ra K F vs a → f a = some r →
      (∀ F' H' u y, Rs.v y = r → GrX K F H F' H' → rp K F' u y → D.rt u H') → (∀ σ' F' H' y, Rs.v y = r → GrX K F H F' H' → rp K F' .non y → D.nx σ' H') →
      (∀ y, Rs.x y = r → ∀ F' H' cls dd, GrX K F H F' H' → xr K F' H' cls dd y → E cls dd H') →
      Takes (cxOf (L2.CX P w) P w K mg base N qual (defScope s0) fa cdv A outer s H E) (fun cls d _ H => E cls d H) →
      PassesOwn (model P w) (A.deeper (envOfC qual (defScope s0) s.heap.objs.size fa cdv)) (envOfC qual (defScope s0) s.heap.objs.size fa cdv) (cxOf (L2.CX P w) P w K mg base N qual (defScope s0) fa cdv A outer s H E).xe →
      GoS (cxOf (L2.CX P w) P w K mg base N qual (defScope s0) fa cdv A outer s H E) (defBody s0) D (start N vs) H) :
    FnOk P w K mg base (L2.CX P w) (k + 1) fa fd ps (PrE K f) := by
  refine Fn.ok S (fun vs H Q E ⟨F, a, r, _, ra', _⟩ => by rw [RaN.len ra', hn]) fun cdv A outer s H vs Q E hr ⟨F, a, r, sm, ra', hf, k, kx⟩ => ?_
  refine ⟨_, pss_go, hbody cdv A outer s F H vs a r { nx := fun _ H' => Q .non H', rt := Q } E hr sm ra' hf (fun F' H' u y q g r => k y q.symm F' H' u g.toGr r) (fun σ' F' H' y q g r => k y q.symm F' H' .non g.toGr r) (fun y q F' H' cls dd g r => kx y q.symm F' H' cls dd g.toGr r) (takes_of rfl rfl rfl rfl) (passes_of rfl)⟩
/-! ### an expression that may raise -/
def EvX {ρ : Type} [Rp ρ] (X : Cx) (W : WX) (e : Expr) (σ : L2.St) (F H : Hp) (o : Rs ε ρ) : Prop := ∀ F1 H1, GrX X.K F H F1 H1 → ∀ Q : VK, (∀ r, o = .v r → ∀ v F2 H2, Gr F1 H1 F2 H2 → rp X.K F2 v r → Q v H2) → (∀ y, o = .x y → ∀ F2 H2 cls dd, Gr F1 H1 F2 H2 → xr X.K F2 H2 cls dd y → W cls dd σ H2) → GoE X e σ H1 Q
theorem EvX.ok {ρ : Type} [Rp ρ] {r : ρ} (h : EvX (ε := ε) X W e σ F H (.v r)) : Ev X e σ F H r := fun F1 H1 g Q q => h F1 H1 g Q (fun r' e => by cases e; exact q) fun y e => nomatch e
/-- e raises -/
def Rz (X : Cx) (e : Expr) (σ : L2.St) (F H : Hp) : Prop := ∀ F1 H1, GrX X.K F H F1 H1 → ∀ Q : VK, GoE X e σ H1 Q
theorem EvX.rz {ρ : Type} [Rp ρ] {y : ε} (h : EvX (ρ := ρ) X W e σ F H (.x y)) (k : ∀ F2 H2 cls dd, Gr F H F2 H2 → xr X.K F2 H2 cls dd y → W cls dd σ H2) : Rz X e σ F H := fun F1 H1 g Q => h F1 H1 g Q (fun r e => nomatch e) fun y' e => by
  cases e; exact fun F2 H2 cls dd g2 r => k F2 H2 cls dd (g.toGr.trans g2) r
theorem ex_call {τ ρ : Type} [Ra τ] [Rp ρ] {f : τ → Option (Rs ε ρ)} {y : τ} {r : Rs ε ρ} {k : Nat} {fa : Addr} {fd : FuncData} {ps : List Str} {x : Str} {p : Pos} (tk : Takes X W) (Fn : FnOk X.prog X.w X.K X.mg X.base (L2.CX X.prog X.w) k fa fd ps (PrE X.K f)) (hr : Room k X.A) (hm : X.mg x = some (.ref fa))
    (hk : PySem.W.keepIn X.K (.ref fa) = true) (hb : Binds X.K fd ps []) (ha : EvA X (e :: es) σ F H y) (h : f y = some r) (hg : Gl X x := by rfl) (hdb : (x == ("__debug__" : Str)) = false := by decide)
    (he : starEach (e :: es) X.env = (false, eval e X.env) :: starEach es X.env := by rfl) (hpl : (backTo pos (starEach es X.env)).any (·.1) = false := by rfl) : EvX X W (.Call (.Name x p) (e :: es) [] pos) σ F H r := fun F1 H1 g Q q qx =>
  GoE.of (pe_callS (E := WE W) Fn hr hg hm hk hb (passAt tk) pa_go hdb he hpl) (ha F1 H1 g _ fun vs F2 H2 g2 r2 => ⟨F2, y, r, (g.trans g2).sm, r2, h, fun r' e F3 H3 u g3 r3 => q r' e u F3 H3 (g2.trans g3) r3, fun y' e F3 H3 cls dd g3 r3 => qx y' e F3 H3 cls dd (g2.trans g3) r3⟩)
theorem rz_tup2 {α : Type} [Rp α] {x : α} {k : Nat} (ha : Ev X a σ F H x) (hb : Rz X b σ F H) (hs : starEach [a, b] X.env = (false, eval a X.env) :: starEach [b] X.env := by rfl) (hs2 : starEach [b] X.env = (false, eval b X.env) :: starEach [] X.env := by rfl) : Rz X (.Tuple [a, b] k pos) σ F H := fun F1 H1 g Q =>
  GoE.of (pe_tup (pa_cons pe_go (pa_cons pe_go pa_nil hs2) hs)) (ha F1 H1 g _ fun v F2 H2 g2 r2 => hb F2 H2 (g.trans g2) _)
theorem go_setZ {n : Str} {p : Pos} (i : Nat) (s : SmX X.K F H) (he : Rz X e σ F H) (hN : X.N.Nodup) (hi : X.N[i]? = some n := by rfl)
    (hx : Loc X.env.scope n := by first | exact Or.inl rfl | exact Or.inr rfl) (hs : swapsWith e (some (.Name n p)) pos.line X.env = pure false := by rfl) (hf : X.fn n = true ∨ X.env.scope.names.lookup n = some .local := by first | exact .inl rfl | exact .inr rfl) :
    GoS X (.Assign [.Name n p] e pos :: rest) D σ H :=
  GoS.cons (ps_set hN hi hx pe_go hs hf) (he F H (.refl s) _)
theorem go_unpackZ {tg : Expr} {g : TG} (s : SmX X.K F H) (he : Rz X e σ F H) (hg : PG X tg g)
    (hs : swapsWithSole [tg] e pos.line X.env = pure false := by rfl) (hw : swappedStores [tg] e X.env = pure none := by rfl) (h1 : (assignEach [tg] X.env).map (·.2) = [assign tg X.env] := by rfl) : GoS X (.Assign [tg] e pos :: rest) D σ H :=
  GoS.cons (ps_asg pe_go hg hs hw h1) (he F H (.refl s) _)
theorem go_retZ (s : SmX X.K F H) (he : Rz X e σ F H) : GoS X (.Return (some e) pos :: rest) D σ H := GoS.cons (ps_ret pe_go) (he F H (.refl s) _)
theorem go_exprZ (s : SmX X.K F H) (he : Rz X e σ F H) (hs : swapsWith e none pos.line X.env = pure false := by rfl) : GoS X (.Expr e pos :: rest) D σ H := GoS.cons (ps_expr pe_go hs) (he F H (.refl s) _)
/-! ### raise -/
theorem go_raise0 {m : Str} {cn : Str} {j : Nat} {p p2 pos2 : Pos} (s : SmX X.K F H) (tk : Takes X W) (N1 : XnF X.K cn) (hm : X.mg cn = some (.ref (He.ga X.K cn))) (k : W (.ref (He.ga X.K cn)) none σ H) (hg : Gl X cn := by rfl) (hdb : (cn == ("__debug__" : Str)) = false := by decide) (hc : X.calm = true := by rfl) :
    GoS X (.Raise (some (.Call (.Name cn p) [.Constant (.str m) j p2] [] pos)) none pos2 :: rest) D σ H :=
  GoS.cons (ps_raise hc tk (pmk_own PySem.F.excBase_ValueError N1.1 hm N1.2.1 (raises_own N1.2.2.1 N1.2.2.2) hg hdb)) k
theorem go_raise1 {α : Type} [Rp α] {x : α} {cn fn : Str} {p pos2 : Pos} {kk : Nat} {fd : FuncData} {ps : List Str} (s : SmX X.K F H) (tk : Takes X W) (X1 : XoF X.K cn fn) (hm : X.mg cn = some (.ref (He.ga X.K cn))) (Fn : FnOk X.prog X.w X.K X.mg X.base CX0 kk (He.ma X.K (He.ga X.K cn) "__init__") fd ps (PrXI X.K (He.ga X.K cn) fn)) (hr : Room (kk + 1) X.A) (hb : Binds X.K fd ps [])
    (he : Ev X e σ F H x) (k : ∀ F' H' cls dd, Gr F H F' H' → xr1 cn fn X.K F' H' cls dd x → W cls dd σ H') (hg : Gl X cn := by rfl) (hdb : (cn == ("__debug__" : Str)) = false := by decide) (hc : X.calm = true := by rfl)
    (hs : starEach [e] X.env = (false, eval e X.env) :: starEach [] X.env := by rfl) (hpl : (backTo pos (starEach [] X.env)).any (·.1) = false := by rfl) :
    GoS X (.Raise (some (.Call (.Name cn p) [e] [] pos)) none pos2 :: rest) D σ H :=
  GoS.cons (ps_raise hc tk (pmk_oex X1.T X1.iC X1.tI Fn hr hb .nil pass0 hg hm (pa_cons pe_go pa_nil hs) hdb hs hpl)) (he F H (.refl s) _ fun v F2 H2 g2 r2 => by
    refine ⟨by show 1 ≤ 1000; decide, fun a ha => ⟨a, v, rfl, upd_same, fun d hd hda => ⟨rfl, d, [(fn, v)], upd_same, ?_, ?_, ?_⟩⟩⟩
    · rw [upd_ne hda, upd_same]
    · rw [upd_ne hda] at hd; exact hd
    · rw [upd_ne hda] at hd
      have e1 : upd (del (upd (upd (upd H2 a (exo a (He.ga X.K cn) none)) d (exd d [(fn, v)])) a (exo a (He.ga X.K cn) (some d))) a) d (.xd [(fn, v)]) = upd H2 d (.xd [(fn, v)]) := by
        funext b
        by_cases h1 : b = d
        · subst h1; rw [upd_same, upd_same]
        · rw [upd_ne h1, upd_ne h1]
          by_cases h2 : b = a
          · subst h2; rw [del_same, ha]
          · rw [del_ne h2, upd_ne h2, upd_ne h1, upd_ne h2]
      rw [e1]
      exact k F2 _ _ _ (g2.trans (Gr.newP g2.fh hd)) ⟨rfl, d, v, rfl, upd_same, r2⟩)
/-! ### try -/
/-- what the one clause's suite is to do -/
def Hnd (X : Cx) (c : Value) (cls : Value) (dd : Option Addr) (H : Hp) (k : Addr → Cx → Prop) : Prop := PySem.W.exmOne X.K cls c = some true ∧ ∀ a, H a = none → ∀ oe pn, Zc cls dd oe → (∃ vs, oe.data = .fields vs) → k a (X.suite a ((a, oe) :: pn))
theorem go_tryN {x n : Str} {c : Value} (i : Nat) {suite : List Stmt} {b₀ : Stmt} {np pos' : Pos} (hN : X.N.Nodup) (hc : Names X x c)
    (h : ∀ pn xe (W : WX), Takes (X.tr pn xe) W → PassesOwn (model X.prog X.w) X.A X.env xe →
      (∀ cls dd σ' H', Hnd X c cls dd H' (fun a X' => GoS X' (b₀ :: suite) { nx := fun σ' H' => GoS X rest D (σ'.set i none) H', rt := D.rt, bk := fun σ' H' => D.bk (σ'.set i none) H', ct := fun σ' H' => D.ct (σ'.set i none) H' } (σ'.set i (some (.ref a))) H') → W cls dd σ' H') →
      GoS (X.tr pn xe) body { D with nx := GoS X rest D } σ H)
    (hs : X.stack = X.env :: X.outer := by rfl) (hf : X.env.frame = some X.env.locals := by rfl) (hi : X.N[i]? = some n := by rfl) (hln : X.env.kindOf n = some .local := by rfl) (tk : Takes X (fun _ _ _ _ => False) := by exact takes_none5) :
    GoS X (.Try body [.ExceptHandler (some (.Name x np)) (some n) (b₀ :: suite) pos'] [] [] pos :: rest) D σ H :=
  GoS.cons (ps_try_as (tb := fun W D σ H => ∀ pn xe, Takes (X.tr pn xe) W → PassesOwn (model X.prog X.w) X.A X.env xe → GoS (X.tr pn xe) body D σ H) (ts := fun a cls d D σ H => ∀ oe pn, Zc cls d oe → (∃ vs, oe.data = .fields vs) → GoS (X.suite a ((a, oe) :: pn)) (b₀ :: suite) D σ H) (Wout := fun _ _ _ _ => False) hs hf hN hi hln hc tk
    (fun W pn xe t1 t2 => ⟨fun pins s σ H D I h => (h pn xe t1 t2).o pins s I⟩) (fun a oe cls d pn z1 z2 => ⟨fun pins s σ H D I h => (h oe pn z1 z2).o pins s I⟩))
    fun pn xe t1 t2 => h pn xe _ t1 t2 fun cls dd σ' H' ⟨q1, q2⟩ => ⟨true, q1, fun _ a ha oe pn z1 z2 => q2 a ha oe pn z1 z2, fun z => nomatch z⟩
theorem go_try {x : Str} {c : Value} {suite : List Stmt} {b₀ : Stmt} {np pos' : Pos} (hc : Names X x c)
    (h : ∀ pn xe (W : WX), Takes (X.tr pn xe) W → PassesOwn (model X.prog X.w) X.A X.env xe →
      (∀ cls dd σ' H', Hnd X c cls dd H' (fun a X' => GoS X' (b₀ :: suite) { D with nx := GoS X rest D } σ' H') → W cls dd σ' H') →
      GoS (X.tr pn xe) body { D with nx := GoS X rest D } σ H)
    (hs : X.stack = X.env :: X.outer := by rfl) (hf : X.env.frame = some X.env.locals := by rfl) (tk : Takes X (fun _ _ _ _ => False) := by exact takes_none5) :
    GoS X (.Try body [.ExceptHandler (some (.Name x np)) none (b₀ :: suite) pos'] [] [] pos :: rest) D σ H :=
  GoS.cons (ps_try_only (tb := fun W D σ H => ∀ pn xe, Takes (X.tr pn xe) W → PassesOwn (model X.prog X.w) X.A X.env xe → GoS (X.tr pn xe) body D σ H) (ts := fun a cls d D σ H => ∀ oe pn, Zc cls d oe → (∃ vs, oe.data = .fields vs) → GoS (X.suite a ((a, oe) :: pn)) (b₀ :: suite) D σ H) (Wout := fun _ _ _ _ => False) hs hf hc tk
    (fun W pn xe t1 t2 => ⟨fun pins s σ H D I h => (h pn xe t1 t2).o pins s I⟩) (fun a oe cls d pn z1 z2 => ⟨fun pins s σ H D I h => (h oe pn z1 z2).o pins s I⟩))
    fun pn xe t1 t2 => h pn xe _ t1 t2 fun cls dd σ' H' ⟨q1, q2⟩ => ⟨true, q1, fun _ a ha oe pn z1 z2 => q2 a ha oe pn z1 z2, fun z => nomatch z⟩
/-- e.f in the suite -/
theorem ev_xf {α : Type} [Rp α] {x : α} {a : Addr} {cn fn n : Str} {oe : Obj} {cls : Value} {dd : Option Addr} {pn : List (Addr × Obj)} {p2 : Pos} (i : Nat) (X1 : XoF X.K cn fn) (hz : Zc cls dd oe) (hf : ∃ vs, oe.data = .fields vs) (hσ : σ[i]? = some (some (.ref a))) (r : xr1 cn fn X.K F H cls dd x)
    (hi : X.N[i]? = some n := by rfl) (hv : Vis X.env.scope n := by first | exact Or.inl rfl | exact Or.inr (Or.inl rfl) | exact Or.inr (Or.inr rfl)) (hd : (n == ("__debug__" : Str)) = false := by decide) (hcd : (n == ("__classdict__" : Str)) = false := by decide)
    (hb : attributeBase (.Name n p2) fn X.env (eval (.Name n p2) X.env) = eval (.Name n p2) X.env := by rfl) : Ev (X.suite a ((a, oe) :: pn)) (.Attribute (.Name n p2) fn pos) σ F H x := fun F1 H1 g Q q => by
  obtain ⟨e1, d, v, e2, hd1, rv⟩ := r
  exact GoE.of (pe_xf X1.xf X1.no hz hf (pe_var (X := X.suite a ((a, oe) :: pn)) hi hv hd hcd) hb) ⟨_, hσ, rfl, e1, d, _, v, e2, g.hh.k _ _ hd1 trivial, by simp [List.lookup], q v F1 H1 (.refl g.fh) (Rp.mono g.ff rv)⟩
end
end Gx
namespace Gx
open PySem PySem.Spec PyProof.Rows L2
open Rp (rp)
theorem rp_cast {α : Type} [Rp α] {K : PySem.W.Frag} {F : Hp} {v : V} {x z : α} (e : z = x) (r : rp K F v x) : rp K F v z := e ▸ r
theorem xm_of {K : PySem.W.Frag} {cls c c2 : Value} (e : cls = c) (h : PySem.W.exmOne K c c2 = some true) : PySem.W.exmOne K cls c2 = some true := e ▸ h
theorem xr1.up {cn fn : Str} {α : Type} [Rp α] {K : PySem.W.Frag} {F H F' H' : Hp} {cls : Value} {dd : Option Addr} {x : α} (h : xr1 cn fn K F H cls dd x) (g : Gr F H F' H') : xr1 cn fn K F' H' cls dd x := by
  obtain ⟨e, d, v, e2, h3, r⟩ := h
  exact ⟨e, d, v, e2, g.hh.k _ _ h3 trivial, Rp.mono g.ff r⟩
end Gx

/-! Gb: a private thing changed within an expression. -/
namespace Gx
open PySem PySem.Spec PyProof.Rows L2
open Rp (rp)
open Ra (ra)
open Ob (ob)
theorem Gr.wide {F Hl F1 H1 : Hp} {l : Addr} (g : Gr F Hl F1 (er H1 l)) (pl : PlAt H1 l) : Gr F Hl F1 H1 := by
  have er_s : ∀ b u, er H1 l b = some u → H1 b = some u := fun b u e => by
    unfold er at e; split at e
    · cases e
    · exact e
  exact ⟨g.ff, fun b u e => er_s b u (g.fh b u e), g.hh.trans (.start pl), g.fr⟩
theorem GrX.wide {K : PySem.W.Frag} {F Hl F1 H1 : Hp} {l : Addr} (g : GrX K F Hl F1 (er H1 l)) (pl : PlAt H1 l) : GrX K F Hl F1 H1 := ⟨g.toGr.wide pl, ⟨fun P hP => by
  obtain ⟨a, f⟩ := g.h.t P hP
  exact ⟨(Xt.start pl).w P a, f⟩⟩⟩
theorem Gr.both {F1 H1 F2 H2 : Hp} {l : Addr} {o : HO} (f : F1 l = none) (h : H1 l = some o) (ls : lstish o) (po : pln o) (g : Gr F1 H1 F2 H2) : Gr F1 (er H1 l) F2 (er H2 l) :=
  g.erl f h ls po (fun b hb => er_ne hb) no_er
theorem Gr.ere0 {F2 H2 F3 H3 : Hp} {l : Addr} (g : Gr F2 (er H2 l) F3 H3) (f3 : F3 l = none) (_ : er H2 l l = none) (pl : PlAt H3 l) : Gr F2 (er H2 l) F3 (er H3 l) :=
  ⟨g.ff, fun b u e => by rw [er_ne (ne_of_none e f3)]; exact g.fh _ _ e, ⟨fun b u e n => by
    rw [er_ne (ne_of_none e er_same)]; exact g.hh.k _ _ e n, fun b ps e => by
    rw [er_ne (ne_of_none e er_same)]; exact g.hh.t _ _ e, fun P a => (g.hh.w P a).er pl⟩, g.fr⟩
theorem Own.erS {α : Type} [Rp α] [Ob α] {x : α} {K : PySem.W.Frag} {H0 F H : Hp} {l : Addr} (o : Own K H0 F H l x) (s : L2.Same F H) : L2.Same F (er H l) := fun b u e => by
  rw [er_ne (ne_of_none e o.f)]; exact s _ _ e
section
variable {X : Cx} {K : PySem.W.Frag} {e a b c d : Expr} {es : List Expr} {σ : L2.St} {F H Hl F0 H0 : Hp} {pos : Pos} {D : Ends} {st : Stmt} {rest body : List Stmt} {l : Addr} {β : Type} [Rp β] [Ob β] {c0 c1 c2 : β}
/-- e is worth r and turns the thing at l from x to y; Hl: the heap without it -/
def EvU {ρ : Type} [Rp ρ] (X : Cx) (e : Expr) (σ : L2.St) (F Hl : Hp) (l : Addr) (x : β) (r : ρ) (y : β) : Prop := ∀ F1 H1 o, GrX X.K F Hl F1 (er H1 l) → F1 l = none → H1 l = some o → ob X.K F1 o x → ∀ Q : VK, (∀ u F2 H2 o2, Gr F1 (er H1 l) F2 (er H2 l) → F2 l = none → H2 l = some o2 → ob X.K F2 o2 y → rp X.K F2 u r → Q u H2) → GoE X e σ H1 Q
def EvUA {τ : Type} [Ra τ] (X : Cx) (es : List Expr) (σ : L2.St) (F Hl : Hp) (l : Addr) (x : β) (r : τ) (y : β) : Prop := ∀ F1 H1 o, GrX X.K F Hl F1 (er H1 l) → F1 l = none → H1 l = some o → ob X.K F1 o x → ∀ Q : List V → Hp → Prop, (∀ u F2 H2 o2, Gr F1 (er H1 l) F2 (er H2 l) → F2 l = none → H2 l = some o2 → ob X.K F2 o2 y → ra X.K F2 u r → Q u H2) → GoA X es σ H1 Q
def EvUL {α : Type} [Rp α] (X : Cx) (es : List Expr) (σ : L2.St) (F Hl : Hp) (l : Addr) (x : β) (r : List α) (y : β) : Prop := ∀ F1 H1 o, GrX X.K F Hl F1 (er H1 l) → F1 l = none → H1 l = some o → ob X.K F1 o x → ∀ Q : List V → Hp → Prop, (∀ u F2 H2 o2, Gr F1 (er H1 l) F2 (er H2 l) → F2 l = none → H2 l = some o2 → ob X.K F2 o2 y → Rps X.K F2 u r → Q u H2) → GoA X es σ H1 Q
def EvUT (X : Cx) (e : Expr) (σ : L2.St) (F Hl : Hp) (l : Addr) (x : β) (r : Bool) (y : β) : Prop := ∀ F1 H1 o, GrX X.K F Hl F1 (er H1 l) → F1 l = none → H1 l = some o → ob X.K F1 o x → ∀ Q : Bool → Hp → Prop, (∀ F2 H2 o2, Gr F1 (er H1 l) F2 (er H2 l) → F2 l = none → H2 l = some o2 → ob X.K F2 o2 y → Q r H2) → GoT X e σ H1 Q
def EvUW (X : Cx) (e : Expr) (σ : L2.St) (F Hl : Hp) (l : Addr) (x : β) (r : Bool) (y : β) : Prop := ∀ F1 H1 o, GrX X.K F Hl F1 (er H1 l) → F1 l = none → H1 l = some o → ob X.K F1 o x → ∀ Q : Bool → Hp → Prop, (∀ F2 H2 o2, Gr F1 (er H1 l) F2 (er H2 l) → F2 l = none → H2 l = some o2 → ob X.K F2 o2 y → Q r H2) → GoW X e σ H1 Q
theorem eu_pure {ρ : Type} [Rp ρ] {r : ρ} (h : Ev X e σ F Hl r) : EvU X e σ F Hl l c0 r c0 := fun F1 H1 o g f h1 bo Q q => h F1 H1 (g.wide ⟨_, h1, Ob.pl bo⟩) Q fun v F2 H2 g2 r2 =>
  q v F2 H2 o (g2.both f h1 (Ob.ls bo) (Ob.pl bo)) ((g2.fr l o h1 (Ob.ls bo)).trans f) (g2.hh.k _ _ h1 (Ob.pl bo).ntb) (Ob.mono g2.ff bo) r2
theorem eut_pure {r : Bool} (h : EvT X e σ F Hl r) : EvUT X e σ F Hl l c0 r c0 := fun F1 H1 o g f h1 bo Q q => h F1 H1 (g.wide ⟨_, h1, Ob.pl bo⟩) Q fun F2 H2 g2 =>
  q F2 H2 o (g2.both f h1 (Ob.ls bo) (Ob.pl bo)) ((g2.fr l o h1 (Ob.ls bo)).trans f) (g2.hh.k _ _ h1 (Ob.pl bo).ntb) (Ob.mono g2.ff bo)
theorem EvU.up {ρ : Type} [Rp ρ] {r : ρ} {F' H' : Hp} (h : EvU X e σ F Hl l c0 r c1) (g : Gr F Hl F' H') : EvU X e σ F' H' l c0 r c1 := fun F1 H1 o g1 => h F1 H1 o (.pre g g1)
/-- as a change of what is owned -/
theorem EvU.m {ρ : Type} [Rp ρ] {r : ρ} (o : Own X.K H0 F H l c0) (h : EvU X e σ F (er H l) l c0 r c1) : EvM X e σ F H l r c1 := fun F1 H1 g Q q => by
  have o1 := o.up g.toGr
  obtain ⟨u, hu, ru⟩ := o1.h
  exact h F1 H1 u ⟨o.ere g.toGr, g.h.er o1.pl⟩ o1.f hu ru Q fun v F2 H2 o2 g2 f2 h2 b2 r2 => q v F2 H2 o2 (g2.wide ⟨_, h2, Ob.pl b2⟩) f2 h2 b2 r2
theorem eu_op {α γ ρ : Type} [Rp α] [Rp γ] [Rp ρ] {x : α} {y : γ} {z : ρ} {op : Operator} {r : R2} (ho : OpR X (binaryOp op) r) (hr : Op2 X.K r x y z) (ha : EvU X a σ F Hl l c0 x c1) (hb : EvU X b σ F Hl l c1 y c2) : EvU X (.BinOp a op b pos) σ F Hl l c0 z c2 := fun F1 H1 o g f h1 bo Q q =>
  GoE.of (pe_op ho pe_go pe_go) (ha F1 H1 o g f h1 bo _ fun v F2 H2 o2 g2 f2 h2 b2 r2 => hb F2 H2 o2 (g.trans g2) f2 h2 b2 _ fun w F3 H3 o3 g3 f3 h3 b3 r3 => hr F3 H3 v w Q (Gr.wide g3 ⟨_, h3, Ob.pl b3⟩).fh (Rp.mono g3.ff r2) r3 fun u F4 H4 g4 r4 =>
    q u F4 H4 o3 ((g2.trans g3).trans (g4.both f3 h3 (Ob.ls b3) (Ob.pl b3))) ((g4.fr l o3 h3 (Ob.ls b3)).trans f3) (g4.hh.k _ _ h3 (Ob.pl b3).ntb) (Ob.mono g4.ff b3) r4)
theorem eu_add {x y : Int} (ha : EvU X a σ F Hl l c0 x c1) (hb : EvU X b σ F Hl l c1 y c2) : EvU X (.BinOp a .Add b pos) σ F Hl l c0 (x + y) c2 := eu_op op_add (o2_I0 fun _ => rfl) ha hb
theorem eu_sub {x y : Int} (ha : EvU X a σ F Hl l c0 x c1) (hb : EvU X b σ F Hl l c1 y c2) : EvU X (.BinOp a .Sub b pos) σ F Hl l c0 (x - y) c2 := eu_op op_sub (o2_I0 fun _ => rfl) ha hb
theorem eu_mulG {x y r : Int} (ha : EvU X a σ F Hl l c0 x c1) (hb : EvU X b σ F Hl l c1 y c2) (h : mulG x y = some r) : EvU X (.BinOp a .Mult b pos) σ F Hl l c0 r c2 := by
  obtain ⟨c | c, rfl⟩ := mulG_of h
  · exact eu_op op_mul (o2_I c fun _ => rfl) ha hb
  · exact eu_op op_mulW (o2_I c fun _ => rfl) ha hb
theorem eut_cmp {α γ : Type} [Rp α] [Rp γ] {x : α} {y : γ} {z : Bool} {op : CmpOp} {r : R2} (ho : OpR X (compareOp op) r) (hr : Op2 X.K r x y z) (ha : EvU X a σ F Hl l c0 x c1) (hb : EvU X b σ F Hl l c1 y c2) (hm : behindInMarks op b = false) : EvUT X (.Compare a [op] [b] pos) σ F Hl l c0 z c2 := fun F1 H1 o g f h1 bo Q q =>
  GoT.of (pt_cmpR ho pe_go pe_go hm) (ha F1 H1 o g f h1 bo _ fun v F2 H2 o2 g2 f2 h2 b2 r2 => hb F2 H2 o2 (g.trans g2) f2 h2 b2 _ fun w F3 H3 o3 g3 f3 h3 b3 r3 => hr F3 H3 v w _ (Gr.wide g3 ⟨_, h3, Ob.pl b3⟩).fh (Rp.mono g3.ff r2) r3 fun u F4 H4 g4 r4 => by
    have r4 : u = .bl z := r4
    subst r4
    exact ⟨z, rfl, q F4 H4 o3 ((g2.trans g3).trans (g4.both f3 h3 (Ob.ls b3) (Ob.pl b3))) ((g4.fr l o3 h3 (Ob.ls b3)).trans f3) (g4.hh.k _ _ h3 (Ob.pl b3).ntb) (Ob.mono g4.ff b3)⟩)
theorem euw_and1 {r : Bool} (h : EvUT X a σ F Hl l c0 r c1) : EvUW X (.BoolOp .And [a] pos) σ F Hl l c0 r c1 := fun F1 H1 o g f h1 bo Q q => GoW.of (pw_and1 pt_go) (h F1 H1 o g f h1 bo Q q)
theorem euw_and {r : Bool} {rs : List Expr} (ha : EvUT X a σ F Hl l c0 true c1) (hb : EvUW X (.BoolOp .And (b :: rs) pos) σ F Hl l c1 r c2) : EvUW X (.BoolOp .And (a :: b :: rs) pos) σ F Hl l c0 r c2 := fun F1 H1 o g f h1 bo Q q =>
  GoW.of (pw_and pt_go pw_go) (ha F1 H1 o g f h1 bo _ fun F2 H2 o2 g2 f2 h2 b2 => by
    rw [if_pos rfl]; exact hb F2 H2 o2 (g.trans g2) f2 h2 b2 Q fun F3 H3 o3 g3 f3 h3 b3 => q F3 H3 o3 (g2.trans g3) f3 h3 b3)
theorem EvUW.t {r : Bool} (h : EvUW X e σ F Hl l c0 r c1) : EvUT X e σ F Hl l c0 r c1 := fun F1 H1 o g f h1 bo Q q => GoT.of (PW.pt pw_go) (h F1 H1 o g f h1 bo Q q)
/-! ### args -/
theorem eua_nil : EvUA X [] σ F Hl l c0 () c0 := fun F1 H1 o g f h1 bo Q q => GoA.of pa_nil (q [] F1 H1 o (.refl (g.fh)) f h1 bo rfl)
theorem eua_cons {α τ : Type} [Rp α] [Ra τ] {x : α} {y : τ} (ha : EvU X e σ F Hl l c0 x c1) (hr : EvUA X es σ F Hl l c1 y c2) (hs : starEach (e :: es) X.env = (false, eval e X.env) :: starEach es X.env := by rfl) : EvUA X (e :: es) σ F Hl l c0 (x, y) c2 := fun F1 H1 o g f h1 bo Q q =>
  GoA.of (pa_cons pe_go pa_go hs) (ha F1 H1 o g f h1 bo _ fun v F2 H2 o2 g2 f2 h2 b2 r2 => hr F2 H2 o2 (g.trans g2) f2 h2 b2 _ fun vs F3 H3 o3 g3 f3 h3 b3 r3 => q _ F3 H3 o3 (g2.trans g3) f3 h3 b3 ⟨v, vs, rfl, Rp.mono g3.ff r2, r3⟩)
theorem eul_nil {α : Type} [Rp α] : EvUL X [] σ F Hl l c0 ([] : List α) c0 := fun F1 H1 o g f h1 bo Q q => GoA.of pa_nil (q [] F1 H1 o (.refl (g.fh)) f h1 bo .nil)
theorem eul_cons {α : Type} [Rp α] {x : α} {xs : List α} (ha : EvU X e σ F Hl l c0 x c1) (hr : EvUL X es σ F Hl l c1 xs c2) (hs : starEach (e :: es) X.env = (false, eval e X.env) :: starEach es X.env := by rfl) : EvUL X (e :: es) σ F Hl l c0 (x :: xs) c2 := fun F1 H1 o g f h1 bo Q q =>
  GoA.of (pa_cons pe_go pa_go hs) (ha F1 H1 o g f h1 bo _ fun v F2 H2 o2 g2 f2 h2 b2 r2 => hr F2 H2 o2 (g.trans g2) f2 h2 b2 _ fun vs F3 H3 o3 g3 f3 h3 b3 r3 => q _ F3 H3 o3 (g2.trans g3) f3 h3 b3 (.cons (Rp.mono g3.ff r2) r3))
theorem Gr.new_er {F3 H3 : Hp} {l p : Addr} {o o3 : HO} (fh : L2.Same F3 (er H3 l)) (hp : H3 p = none) (h3 : H3 l = some o3) (no : ntb o := by trivial) : Gr F3 (er H3 l) (upd F3 p o) (er (upd H3 p o) l) ∧ p ≠ l := by
  have hn : p ≠ l := fun e => by rw [e, h3] at hp; cases hp
  have e1 : er (upd H3 p o) l = upd (er H3 l) p o := by
    funext b
    by_cases h : b = l
    · rw [h, er_same, upd_ne (fun z => hn z.symm), er_same]
    · rw [er_ne h]
      by_cases h2 : b = p
      · rw [h2, upd_same, upd_same]
      · rw [upd_ne h2, upd_ne h2, er_ne h]
  rw [e1]
  exact ⟨Gr.new fh (by rw [er_ne hn]; exact hp) no, hn⟩
theorem eu_list {α : Type} [Rp α] {xs : List α} (h : EvUL X es σ F Hl l c0 xs c1) (hz : xs.length ≤ sizeLine) : EvU X (.List es pos) σ F Hl l c0 xs c1 := fun F1 H1 o g f h1 bo Q q =>
  GoE.of (pe_lst pa_go) (h F1 H1 o g f h1 bo _ fun vs F2 H2 o2 g2 f2 h2 b2 r2 => ⟨by rw [r2.length]; exact hz, fun p hp => by
    obtain ⟨g3, hn⟩ := Gr.new_er (o := .lst vs) g2.fh hp h2
    have s3 : L2.Same F2 (upd F2 p (.lst vs)) := g3.ff
    exact q (.ref p) _ _ o2 (g2.trans g3) (by rw [upd_ne (fun z => hn z.symm)]; exact f2) (by rw [upd_ne (fun z => hn z.symm)]; exact h2) (Ob.mono s3 b2) ⟨p, vs, rfl, SqL.of upd_same, r2.mono s3⟩⟩)
theorem eu_ixL {α : Type} [Rp α] {xs : List α} {i : Int} {x : α} (ha : EvU X a σ F Hl l c0 xs c1) (hb : EvU X b σ F Hl l c1 i c2) (h : L2.atI xs i = some x) (hs : PlainIx b := by exact fun _ _ => rfl) : EvU X (.Subscript a b pos) σ F Hl l c0 x c2 := fun F1 H1 o g f h1 bo Q q =>
  GoE.of (pe_ix ix_list pe_go pe_go hs) (ha F1 H1 o g f h1 bo _ fun v F2 H2 o2 g2 f2 h2 b2 r2 => hb F2 H2 o2 (g.trans g2) f2 h2 b2 _ fun w F3 H3 o3 g3 f3 h3 b3 r3 => by
    obtain ⟨p, vs, rfl, sq, rs⟩ := Rp.mono g3.ff r2
    obtain ⟨y, hy, ry⟩ := rs.atI h
    exact ⟨p, vs, i, y, rfl, r3, (Gr.wide g3 ⟨_, h3, Ob.pl b3⟩).fh.seq sq, hy, q y F3 H3 o3 (g2.trans g3) f3 h3 b3 ry⟩)
theorem eu_tup {θ τ : Type} [Ra τ] [RaN τ] [Rp θ] [Tup θ τ] {x : θ} {k : Nat} (h : EvUA X es σ F Hl l c0 (Tup.row x) c1) (hz : RaN.n τ ≤ sizeLine) : EvU X (.Tuple es k pos) σ F Hl l c0 x c1 := fun F1 H1 o g f h1 bo Q q =>
  GoE.of (pe_tup pa_go) (h F1 H1 o g f h1 bo _ fun vs F2 H2 o2 g2 f2 h2 b2 r2 => ⟨by rw [RaN.len r2]; exact hz, fun p hp => by
    obtain ⟨g3, hn⟩ := Gr.new_er (o := .tup vs) g2.fh hp h2
    have s3 : L2.Same F2 (upd F2 p (.tup vs)) := g3.ff
    exact q (.ref p) _ _ o2 (g2.trans g3) (by rw [upd_ne (fun z => hn z.symm)]; exact f2) (by rw [upd_ne (fun z => hn z.symm)]; exact h2) (Ob.mono s3 b2) (Tup.eq.mpr ⟨p, vs, rfl, upd_same, Ra.mono s3 r2⟩)⟩)
theorem eu_tup2 {α γ : Type} [Rp α] [Rp γ] {x : α} {y : γ} {k : Nat} (h : EvUA X es σ F Hl l c0 (x, y, ()) c1) : EvU X (.Tuple es k pos) σ F Hl l c0 (T2.mk x y) c1 := eu_tup (θ := T2 α γ) h (by show 2 ≤ sizeLine; decide)
theorem eu_tup3 {α γ δ : Type} [Rp α] [Rp γ] [Rp δ] {x : α} {y : γ} {z : δ} {k : Nat} (h : EvUA X es σ F Hl l c0 (x, y, z, ()) c1) : EvU X (.Tuple es k pos) σ F Hl l c0 (T3.mk x y z) c1 := eu_tup (θ := T3 α γ δ) h (by show 3 ≤ sizeLine; decide)
/-- f(.., e, ..) where an argument changes it -/
theorem eu_call {τ ρ : Type} [Ra τ] [Rp ρ] {f : τ → Option ρ} {y : τ} {r : ρ} {k : Nat} {fa : Addr} {fd : FuncData} {ps : List Str} {x : Str} {p : Pos} (Fn : FnOk X.prog X.w X.K X.mg X.base CX0 k fa fd ps (Pr X.K f)) (hr : Room k X.A) (hm : X.mg x = some (.ref fa))
    (hk : PySem.W.keepIn X.K (.ref fa) = true) (hb : Binds X.K fd ps []) (ha : EvUA X (e :: es) σ F Hl l c0 y c1) (h : f y = some r) (hg : Gl X x := by rfl) (hdb : (x == ("__debug__" : Str)) = false := by decide)
    (he : starEach (e :: es) X.env = (false, eval e X.env) :: starEach es X.env := by rfl) (hpl : (backTo pos (starEach es X.env)).any (·.1) = false := by rfl) : EvU X (.Call (.Name x p) (e :: es) [] pos) σ F Hl l c0 r c1 := fun F1 H1 o g f1 h1 bo Q q =>
  GoE.of (pe_call Fn hr hg hm hk hb .nil pass0 pa_go hdb he hpl) (ha F1 H1 o g f1 h1 bo _ fun vs F2 H2 o2 g2 f2 h2 b2 r2 => ⟨F2, y, r, ((g.trans g2).wide ⟨_, h2, Ob.pl b2⟩).sm, by rw [List.append_nil]; exact r2, h, fun F3 H3 u g3 r3 =>
    q u F3 H3 o2 (g2.trans (g3.both f2 h2 (Ob.ls b2) (Ob.pl b2))) ((g3.fr l o2 h2 (Ob.ls b2)).trans f2) (g3.hh.k _ _ h2 (Ob.pl b2).ntb) (Ob.mono g3.ff b2) r3⟩)
/-- f(.., l, ..) that changes it -/
theorem eu_mut {τ1 τ2 ρ : Type} [Ra τ1] [Ra τ2] [Rp ρ] {f : τ1 → β → τ2 → Option (ρ × β)} {y : τ1} {z : τ2} {r : ρ × β} {k : Nat} {fa : Addr} {fd : FuncData} {ps : List Str} {x : Str} {p : Pos} (Fn : FnOk X.prog X.w X.K X.mg X.base CX0 k fa fd ps (PrM X.K f)) (hr : Room k X.A) (hm : X.mg x = some (.ref fa))
    (hk : PySem.W.keepIn X.K (.ref fa) = true) (hb : Binds X.K fd ps []) (ha : EvAM X (e :: es) σ F Hl y l z) (h : f y c0 z = some r) (hg : Gl X x := by rfl) (hdb : (x == ("__debug__" : Str)) = false := by decide)
    (he : starEach (e :: es) X.env = (false, eval e X.env) :: starEach es X.env := by rfl) (hpl : (backTo pos (starEach es X.env)).any (·.1) = false := by rfl) : EvU X (.Call (.Name x p) (e :: es) [] pos) σ F Hl l c0 r.1 r.2 := fun F1 H1 o g f1 h1 bo Q q =>
  GoE.of (pe_call Fn hr hg hm hk hb .nil pass0 pa_go hdb he hpl) (ha F1 H1 (g.wide ⟨_, h1, Ob.pl bo⟩) _ fun vs1 vs2 F2 H2 g2 r2 r3 =>
    ⟨F2, vs1, l, vs2, o, y, c0, z, r, by rw [List.append_nil], ((g.wide ⟨_, h1, Ob.pl bo⟩).trans g2).sm, r2, r3, (g2.fr l o h1 (Ob.ls bo)).trans f1, g2.hh.k _ _ h1 (Ob.pl bo).ntb, Ob.mono g2.ff bo, h, fun F3 H3 v o' g3 f3 h3 b3 r3 => q v F3 H3 o' ((g2.both f1 h1 (Ob.ls bo) (Ob.pl bo)).trans (g3.ere0 f3 (er_same) ⟨_, h3, Ob.pl b3⟩)) f3 h3 b3 r3⟩)
/-- f(new, ..): what is handed in is dropped -/
theorem ev_callNM {τ2 ρ : Type} [Ra τ2] [Rp ρ] {f : Unit → β → τ2 → Option (ρ × β)} {z : τ2} {r : ρ × β} {k : Nat} {fa : Addr} {fd : FuncData} {ps : List Str} {x : Str} {p : Pos} (Fn : FnOk X.prog X.w X.K X.mg X.base CX0 k fa fd ps (PrM X.K f)) (hr : Room k X.A) (hm : X.mg x = some (.ref fa))
    (hk : PySem.W.keepIn X.K (.ref fa) = true) (hb : Binds X.K fd ps []) (hn : EvN X e σ F H c0) (ha : EvA X es σ F H z) (h : f () c0 z = some r) (hg : Gl X x := by rfl) (hdb : (x == ("__debug__" : Str)) = false := by decide)
    (he : starEach (e :: es) X.env = (false, eval e X.env) :: starEach es X.env := by rfl) (hpl : (backTo pos (starEach es X.env)).any (·.1) = false := by rfl) : Ev X (.Call (.Name x p) (e :: es) [] pos) σ F H r.1 := fun F1 H1 g Q q =>
  GoE.of (pe_call Fn hr hg hm hk hb .nil pass0 (pa_cons pe_go pa_go he) hdb he hpl) (hn F1 H1 g _ fun l o F2 H2 g2 n2 f2 h2 b2 => ha F2 H2 (g.trans g2) _ fun vs F3 H3 g3 r3 => by
    have f3 : F3 l = none := (g3.fr l o h2 (Ob.ls b2)).trans f2
    have gA : Gr F1 H1 F3 (er H3 l) := by
      have g23 := g2.trans g3
      have pl3 : PlAt H3 l := ⟨_, g3.hh.k _ _ h2 (Ob.pl b2).ntb, Ob.pl b2⟩
      refine ⟨g23.ff, fun b u q => ?_, ⟨fun b u q n => ?_, fun b ps q => ?_, fun P a => (g23.hh.w P a).er pl3⟩, g23.fr⟩
      · rw [er_ne (ne_of_none q f3)]; exact g3.fh _ _ q
      · rw [er_ne (ne_of_none q n2)]; exact g23.hh.k _ _ q n
      · rw [er_ne (ne_of_none q n2)]; exact g23.hh.t _ _ q
    exact ⟨F3, [], l, vs, o, (), c0, z, r, by rw [List.append_nil]; rfl, ((g.trans g2).trans g3).sm, rfl, r3, f3, g3.hh.k _ _ h2 (Ob.pl b2).ntb, Ob.mono g3.ff b2, h, fun F4 H4 v o' g4 f4 h4 b4 r4 => q v F4 H4 (gA.trans g4) r4⟩)
/-! ### an if whose test changes it -/
theorem go_ifU {x : β} (t : Bool) {as bs : List Stmt} (o : Own X.K H0 F H l x) (s : SmX X.K F H) (hc : EvUT X c σ F (er H l) l x t c1) (ka : t = true → ∀ F' H' o', Gr F (er H l) F' H' → F' l = none → H' l = some o' → ob X.K F' o' c1 → GoS X as { D with nx := GoS X rest D } σ H') (kb : t = false → ∀ F' H' o', Gr F (er H l) F' H' → F' l = none → H' l = some o' → ob X.K F' o' c1 → GoS X bs { D with nx := GoS X rest D } σ H') :
    GoS X (.If c as bs pos :: rest) D σ H := by
  obtain ⟨u, hu, ru⟩ := o.h
  refine GoS.cons (ps_if pt_go pss_go pss_go) (hc F H u (.refl (s.er o.f o.pl)) o.f hu ru _ fun F2 H2 o2 g2 f2 h2 b2 => ?_)
  cases t with
  | true => rw [if_pos rfl]; exact ka rfl F2 H2 o2 (g2.wide ⟨_, h2, Ob.pl b2⟩) f2 h2 b2
  | false => rw [if_neg Bool.false_ne_true]; exact kb rfl F2 H2 o2 (g2.wide ⟨_, h2, Ob.pl b2⟩) f2 h2 b2
end
end Gx
namespace Gx
open PySem PySem.Spec PyProof.Rows L2
open Rp (rp)
open Ra (ra)
open Ob (ob)
section
variable {X : Cx} {e : Expr} {es : List Expr} {σ : L2.St} {F Hl : Hp} {l : Addr} {β : Type} [Rp β] [Ob β] {c0 c1 c2 : β}
/-- a name that is seen -/
structure VKn (sc : Scope) (n : Str) : Prop where
  v : Vis sc n
  d : (n == ("__debug__" : Str)) = false
  c : (n == ("__classdict__" : Str)) = false
theorem ev_varK {α : Type} [Rp α] {x : α} {v : V} {H : Hp} (i : Nat) {n : Str} {pos : Pos} (hs : σ[i]? = some (some v)) (h : rp X.K F v x) (k : VKn X.env.scope n) (hN : X.N[i]? = some n := by rfl) : Ev X (.Name n pos) σ F H x := ev_var i hs h hN k.v k.d k.c
theorem Ev.getA {α : Type} [Rp α] [NN α] {x : α} {H : Hp} (o : Option α) (h : Ev X e σ F H o) (he : o = Option.some x) : Ev X e σ F H x := h.get he
theorem eul_int {i : Int} {j : Nat} {pos : Pos} {xs : List Int} (hr : EvUL X es σ F Hl l c0 xs c2) : EvUL X (.Constant (.int i) j pos :: es) σ F Hl l c0 (i :: xs) c2 := eul_cons (eu_pure ev_int) hr
theorem eu_listI {xs : List Int} {pos : Pos} (h : EvUL X es σ F Hl l c0 xs c1) (hz : xs.length ≤ sizeLine) : EvU X (.List es pos) σ F Hl l c0 xs c1 := eu_list h hz
theorem eu_ixLI {xs : List Int} {i x : Int} {a b : Expr} {pos : Pos} (ha : EvU X a σ F Hl l c0 xs c1) (hb : EvU X b σ F Hl l c1 i c2) (h : L2.atI xs i = some x) (hs : PlainIx b := by exact fun _ _ => rfl) : EvU X (.Subscript a b pos) σ F Hl l c0 x c2 := eu_ixL ha hb h hs
/-- a list that is pure -/
theorem eu_pureL {xs : List Int} (h : Ev X e σ F Hl xs) : EvU X e σ F Hl l c0 xs c0 := eu_pure h
end
end Gx

/-! Ga: a tuple with a private list in it. -/
namespace Gx
open PySem PySem.Spec PyProof.Rows L2
open Rp (rp)
open Ra (ra)
open Ob (ob)
/-- v is the tuple of x and the thing at l -/
def C2 {α : Type} [Rp α] (K : PySem.W.Frag) (F : Hp) (v : V) (l : Addr) (x : α) : Prop := ∃ a w, v = .ref a ∧ TupF F a [w, .ref l] ∧ rp K F w x
theorem C2.mono {α : Type} [Rp α] {K : PySem.W.Frag} {F F' : Hp} {v : V} {l : Addr} {x : α} (h : C2 K F v l x) (s : L2.Same F F') : C2 K F' v l x := by
  obtain ⟨a, w, e, t, r⟩ := h
  exact ⟨a, w, e, tupF_mono s t, Rp.mono s r⟩
theorem C2.rp {α γ : Type} [Rp α] [Rp γ] {K : PySem.W.Frag} {F : Hp} {v : V} {l : Addr} {x : α} {y : γ} (h : C2 K F v l x) (r : Rp.rp K F (.ref l) y) : Rp.rp K F v (T2.mk x y) := by
  obtain ⟨a, w, e, t, rw'⟩ := h
  exact ⟨a, _, e, t, w, _, rfl, rw', .ref l, _, rfl, r, rfl⟩
theorem C2.of {α γ : Type} [Rp α] [Rp γ] {K : PySem.W.Frag} {F : Hp} {v : V} {l : Addr} {t : T2 α γ} (h : C2 K F v l t.a) (r : Rp.rp K F (.ref l) t.b) : Rp.rp K F v t := h.rp r
theorem C2.er {α : Type} [Rp α] [Flat α] {K : PySem.W.Frag} {F : Hp} {v : V} {l l0 : Addr} {x : α} (h : C2 K F v l x) (h1 : ∀ xs, ¬ F l0 = some (.tup xs)) (h2 : ∀ o xs, ¬ F l0 = some (.frz o (.tup xs))) : C2 K (er F l0) v l x := by
  obtain ⟨a, w, e, t, r⟩ := h
  exact ⟨a, w, e, er_seqT h1 h2 t, Flat.fl h1 h2 r⟩
section
variable {X : Cx} {K : PySem.W.Frag} {e a b c d : Expr} {es : List Expr} {σ : L2.St} {F H F0 H0 : Hp} {pos : Pos} {D : Ends} {st : Stmt} {rest body : List Stmt} {α γ : Type} [Rp α] [Rp γ] {x : α} {ys : List γ}
/-- e gives a new tuple of x and a new list -/
def EvCP (X : Cx) (e : Expr) (σ : L2.St) (F H : Hp) (x : α) (ys : List γ) : Prop := ∀ F1 H1, GrX X.K F H F1 H1 → ∀ Q : VK, (∀ u l o F2 H2, Gr F1 H1 F2 H2 → H1 l = none → F2 l = none → H2 l = some o → ob X.K F2 o ys → C2 X.K F2 u l x → Q u H2) → GoE X e σ H1 Q
theorem ecp_tup2 {k : Nat} (ha : Ev X a σ F H x) (hb : EvN X b σ F H ys) (hs : starEach [a, b] X.env = (false, eval a X.env) :: starEach [b] X.env := by rfl) (hs2 : starEach [b] X.env = (false, eval b X.env) :: starEach [] X.env := by rfl) : EvCP X (.Tuple [a, b] k pos) σ F H x ys := fun F1 H1 g Q q =>
  GoE.of (pe_tup (pa_cons pe_go (pa_cons pe_go pa_nil hs2) hs)) (ha F1 H1 g _ fun v F2 H2 g2 r2 => hb F2 H2 (g.trans g2) _ fun l o F3 H3 g3 n3 f3 h3 b3 => ⟨by show 2 ≤ sizeLine; decide, fun p hp => by
    have hl : l ≠ p := ne_of_none h3 hp
    have g4 : Gr F3 H3 (upd F3 p (.tup [v, .ref l])) (upd H3 p (.tup [v, .ref l])) := Gr.new g3.fh hp trivial
    exact q (.ref p) l o _ _ ((g2.trans g3).trans g4) (g2.hh.free n3) (by rw [upd_ne hl]; exact f3) (by rw [upd_ne hl]; exact h3) (Ob.mono g4.ff b3) ⟨p, v, rfl, upd_same, Rp.mono (g3.ff.trans g4.ff) r2⟩⟩)
def PrCP (K : PySem.W.Frag) {τ : Type} [Ra τ] (f : τ → Option (T2 α (List γ))) : Sp := fun vs H Q _ => ∃ F a r, SmX K F H ∧ ra K F vs a ∧ f a = some r ∧ ∀ u l o F' H', Gr F H F' H' → H l = none → F' l = none → H' l = some o → ob K F' o r.b → C2 K F' u l r.a → Q u H'
theorem ecp_call {τ : Type} [Ra τ] {f : τ → Option (T2 α (List γ))} {y : τ} {r : T2 α (List γ)} {k : Nat} {fa : Addr} {fd : FuncData} {ps : List Str} {x : Str} {p : Pos} (Fn : FnOk X.prog X.w X.K X.mg X.base CX0 k fa fd ps (PrCP X.K f)) (hr : Room k X.A) (hm : X.mg x = some (.ref fa))
    (hk : PySem.W.keepIn X.K (.ref fa) = true) (hb : Binds X.K fd ps []) (ha : EvA X (e :: es) σ F H y) (h : f y = some r) (hg : Gl X x := by rfl) (hdb : (x == ("__debug__" : Str)) = false := by decide)
    (he : starEach (e :: es) X.env = (false, eval e X.env) :: starEach es X.env := by rfl) (hpl : (backTo pos (starEach es X.env)).any (·.1) = false := by rfl) : EvCP X (.Call (.Name x p) (e :: es) [] pos) σ F H r.a r.b := fun F1 H1 g Q q =>
  GoE.of (pe_call Fn hr hg hm hk hb .nil pass0 pa_go hdb he hpl) (ha F1 H1 g _ fun vs F2 H2 g2 r2 => ⟨F2, y, r, (g.trans g2).sm, by rw [List.append_nil]; exact r2, h, fun u l o F3 H3 g3 n3 f3 h3 b3 c3 => q u l o F3 H3 (g2.trans g3) (g2.hh.free n3) f3 h3 b3 c3⟩)
theorem fn_okCP {P : Program} {w : World} {mg : Str → Option Value} {base : Heap} {τ : Type} [Ra τ] [RaN τ] {f : τ → Option (T2 α (List γ))} {x qual : Str} {s0 : Stmt} {fa : Addr} {fd : FuncData} {N ps : List Str} {k : Nat} (Fn : FunD K x qual (defArgs s0) (defBody s0) (defScope s0) [] [] fa fd) (S : FnScope N ps (defScope s0)) (hn : RaN.n τ = ps.length)
    (hbody : ∀ (cdv : Value) (A : Around) (outer : List Env) (s : Shared) (F H : Hp) (vs : List V) (a : τ) (r : T2 α (List γ)) (D : Ends) (E : XK), Room k (A.deeper (envOfC qual (defScope s0) s.heap.objs.size fa cdv)) → SmX K F H → ra K F vs a → f a = some r → (∀ u l o F' H', GrX K F H F' H' → H l = none → F' l = none → H' l = some o → ob K F' o r.b → C2 K F' u l r.a → D.rt u H') →
      True → GoS (cxOf CX0 P w K mg base N qual (defScope s0) fa cdv A outer s H E).nox (defBody s0) D (start N vs) H) :
    FnOk P w K mg base CX0 (k + 1) fa fd ps (PrCP K f) := by
  refine Fn.ok S (fun vs H Q E ⟨F, a, r, _, ra', _⟩ => by rw [RaN.len ra', hn]) fun cdv A outer s H vs Q E hr ⟨F, a, r, sm, ra', hf, k⟩ => ?_
  exact ⟨_, PSs.nox pss_go, hbody cdv A outer s F H vs a r { nx := fun _ H' => Q .non H', rt := Q } E hr sm ra' hf (fun u l o F' H' g n f h r c => k u l o F' H' g.toGr n f h r c) trivial⟩
theorem go_retCP (s : SmX X.K F H) (he : EvCP X e σ F H x ys) (k : ∀ u l o F' H', Gr F H F' H' → H l = none → F' l = none → H' l = some o → ob X.K F' o ys → C2 X.K F' u l x → D.rt u H') : GoS X (.Return (some e) pos :: rest) D σ H :=
  GoS.cons (ps_ret pe_go) (he F H (.refl s) _ fun u l o F2 H2 g n f h r c => k u l o F2 H2 g n f h r c)
theorem go_setCP {n : Str} {p : Pos} (i : Nat) (s : SmX X.K F H) (he : EvCP X e σ F H x ys) (k : ∀ u l o F' H', Gr F H F' H' → H l = none → F' l = none → H' l = some o → ob X.K F' o ys → C2 X.K F' u l x → GoS X rest D (σ.set i (some u)) H') (hN : X.N.Nodup) (hi : X.N[i]? = some n := by rfl)
    (hx : Loc X.env.scope n := by first | exact Or.inl rfl | exact Or.inr rfl) (hs : swapsWith e (some (.Name n p)) pos.line X.env = pure false := by rfl) (hf : X.fn n = true ∨ X.env.scope.names.lookup n = some .local := by first | exact .inl rfl | exact .inr rfl) :
    GoS X (.Assign [.Name n p] e pos :: rest) D σ H :=
  GoS.cons (ps_set hN hi hx pe_go hs hf) (he F H (.refl s) _ fun u l o F2 H2 g n f h r c => k u l o F2 H2 g n f h r c)
theorem EvCP.ev (h : EvCP X e σ F H x ys) : Ev X e σ F H (T2.mk x ys) := fun F1 H1 g Q q =>
  GoE.lock (Q' := fun v H2 => ∃ l o F2, C2 X.K F2 v l x ∧ Gr F1 H1 F2 H2 ∧ H1 l = none ∧ F2 l = none ∧ H2 l = some o ∧ ob X.K F2 o ys) (h F1 H1 g _ fun u l o F2 H2 g2 n2 f2 h2 r2 c2 => ⟨l, o, F2, c2, g2, n2, f2, h2, r2⟩)
    fun v H2 ⟨l, o, F2, c2, g2, n2, f2, h2, r2⟩ => ⟨l, o, h2, Ob.mu r2, fun od =>
      q _ (upd F2 l (.frz od o)) _ (g2.freeze n2 f2 ⟨_, h2, Ob.pl r2⟩ trivial) ((c2.mono (same_upd f2)).rp (Ob.fz upd_same (Ob.mono (same_upd f2) r2)))⟩
theorem EvCP.evT {t : T2 α (List γ)} (h : EvCP X e σ F H t.a t.b) : Ev X e σ F H t := h.ev
theorem ecp_thaw {β : Type} [Flat α] [Flat γ] [Rp β] [Ob β] {y : β} {l : Addr} (o : Own X.K H0 F H l y) (s : L2.Same F H) (h : ∀ F' H', L2.Same F F' → L2.Same F' H' → rp X.K F' (.ref l) y → (∀ a, a ≠ l → F' a = F a ∧ H' a = H a) → EvCP X e σ F' H' x ys) : EvCP X e σ F H x ys := fun F1 H1 g Q q => by
  obtain ⟨u, hl, r⟩ := o.h
  have hl1 := g.hh.k _ _ hl (Ob.pl r).ntb
  refine GoE.locked hl1 (Ob.mu r) fun od => ?_
  obtain ⟨g1, f1, h1⟩ := GrX.show_ (u := .frz od u) hl o.f (Ob.ls r) (Ob.pl r) g
  refine h _ _ (same_upd o.f) (shown s) (Ob.fz upd_same (Ob.mono (same_upd o.f) r)) (fun a ha => ⟨upd_ne ha, upd_ne ha⟩) _ _ g1 _ fun v2 l2 u2 F2 H2 g2 n2 f2 h2 r2 c2 => ?_
  have e2 : F2 l = some (.frz od u) := g2.ff _ _ upd_same
  obtain ⟨n1, n2'⟩ := frz_no e2 (Ob.ls r)
  have hne : l2 ≠ l := fun e => by rw [e, upd_same] at n2; cases n2
  refine ⟨g2.fh _ _ e2, q v2 l2 u2 (er F2 l) _ (Gr.hide h1 f1 (Ob.pl r) g2) (by rw [upd_ne hne] at n2; exact n2) ?_ (by rw [upd_ne hne]; exact h2) (FlatO.fl n1 n2' r2) (c2.er n1 n2')⟩
  unfold er
  rw [if_neg hne]; exact f2
/-- t[1].append(e) -/
theorem go_appendCP {y : γ} {zs r : List γ} {l : Addr} {v : V} {n : Str} {j : Nat} {p1 p2 p3 p4 p5 : Pos} (i : Nat) (s : SmX X.K F H) (o : Own X.K H0 F H l zs) (ct : C2 X.K F v l x) (hσ : σ[i]? = some (some v)) (he : Ev X e σ F H y) (h : app zs y = some r)
    (k : ∀ u F' H', Gr F H F' H' → PlAt H' l → F' l = none → Own X.K H0 F' (upd H' l u) l r → GoS X rest D σ (upd H' l u)) (hN : X.N[i]? = some n := by rfl) (hv : Vis X.env.scope n := by first | exact Or.inl rfl | exact Or.inr (Or.inl rfl) | exact Or.inr (Or.inr rfl))
    (hd : (n == ("__debug__" : Str)) = false := by decide) (hcd : (n == ("__classdict__" : Str)) = false := by decide) 
    (hbase : attributeBase (.Subscript (.Name n p1) (.Constant (.int 1) j p4) p5) "append" X.env (eval (.Subscript (.Name n p1) (.Constant (.int 1) j p4) p5) X.env) = eval (.Subscript (.Name n p1) (.Constant (.int 1) j p4) p5) X.env := by rfl)
    (hfew : ((backTo p3 (starEach [e] X.env)).all (fun x => !x.1) && (backToKw p3 (keywordEach [] X.env)).all (fun x => x.1.isSome) && decide ([e].length + ([] : List Keyword).length + (if ([] : List Keyword).isEmpty then 0 else 1) < 30)) = true := by rfl)
    (hline : (p2.endLine == p3.line) = true := by rfl) (hs : starEach [e] X.env = (false, eval e X.env) :: starEach [] X.env := by rfl) (hplain : (backTo p3 (starEach [] X.env)).any (·.1) = false := by rfl) (hsw : swapsWith (.Call (.Attribute (.Subscript (.Name n p1) (.Constant (.int 1) j p4) p5) "append" p2) [e] [] p3) none pos.line X.env = pure false := by rfl) :
    GoS X (.Expr (.Call (.Attribute (.Subscript (.Name n p1) (.Constant (.int 1) j p4) p5) "append" p2) [e] [] p3) pos :: rest) D σ H := by
  obtain ⟨_, hl, vs, rfl, rs⟩ := o.h
  obtain ⟨hz, rfl⟩ := app_of h
  obtain ⟨a, w, ev, tf, rw'⟩ := ct
  refine GoS.cons (ps_expr (pe_bm PySem.F.plainAttrs_list PySem.F.slot_list_append PySem.F.type_list_append mt_append (pe_ix ix_tup (pe_var hN hv hd hcd) pe_int (fun _ _ => rfl)) (pa_cons pe_go pa_nil hs) hbase hfew hline hs hplain) hsw) ?_
  refine ⟨v, hσ, a, [w, .ref l], 1, .ref l, ev, rfl, seqT_mono s.s tf, rfl, .inl ⟨rfl, _, SqL.of hl⟩, he F H (.refl s) _ fun v F2 H2 g r => ?_⟩
  have o2 := o.up g
  have hl2 := g.hh.k _ _ hl trivial
  obtain ⟨_, hl3, vs2, rfl, rs2⟩ := o2.h
  rw [hl2] at hl3; cases hl3
  exact ⟨l, vs, v, rfl, rfl, hl2, by rw [rs2.length]; exact hz, k _ F2 H2 g o2.pl o2.f (Own.set o2.n o2.f (ob_lst (Rps.append rs2 (.cons r .nil))))⟩
end
end Gx

/-! Gu: defs made within defs, handed on and called. -/
namespace Gx
open PySem PySem.Spec PyProof.Rows L2
open Rp (rp)
open Ra (ra)
open Ob (ob)
/-! ### a def made within a def, as a thing -/
structure Fnv (τ ρ : Type) where
  f : Addr
  g : NdefX.NF
  fr : List Str
  ws : List (Option V)
  R : PySem.W.Frag → Hp → Prop
  mono : ∀ {K : PySem.W.Frag} {F F' : Hp}, L2.Same F F' → R K F → R K F'
  fn : τ → Option ρ
/-- the one value of a known thing -/
structure One {τ ρ : Type} (x : Fnv τ ρ) : Type where
section
variable {τ ρ : Type} {x : Fnv τ ρ} {X : Cx} {K : PySem.W.Frag} {e a b c d : Expr} {es : List Expr} {σ : L2.St} {F H F0 H0 : Hp} {pos : Pos} {D : Ends} {st : Stmt} {rest body : List Stmt}
instance : Rp (One x) := ⟨fun K F v _ => v = .ref x.f ∧ x.R K F, fun s h => ⟨h.1, x.mono s h.2⟩⟩
instance : NN (One x) := ⟨fun h => nomatch h.1⟩
/-- its objects stand -/
structure Mkf (x : Fnv τ ρ) (H : Hp) : Prop where
  f : H x.f = some (NdefX.FnO x.f x.g)
  c : H x.g.c = some (LamX.CodeO x.g.c x.g.qual)
theorem ntb_fnO {f : Addr} {g : NdefX.NF} : ntb (NdefX.FnO f g) := by show True; trivial
theorem ntb_codeO {c : Addr} {q : Str} : ntb (LamX.CodeO c q) := by show True; trivial
theorem Mkf.ext {H' : Hp} (m : Mkf x H) (h : Xt H H') : Mkf x H' := ⟨h.k _ _ m.f ntb_fnO, h.k _ _ m.c ntb_codeO⟩
/-- a name holds it -/
structure ClF (x : Fnv τ ρ) (K : PySem.W.Frag) (F H : Hp) (v : V) : Prop where
  r : rp K F v (One.mk : One x)
  m : Mkf x H
theorem ClF.ex {v : V} (h : ClF x K F H v) : ∃ z : Fnv τ ρ, z = x ∧ ClF z K F H v := ⟨x, rfl, h⟩
theorem ClF.up {v : V} {F' H' : Hp} (h : ClF x K F H v) (g : Gr F H F' H') : ClF x K F' H' v := ⟨Rp.mono g.ff h.r, h.m.ext g.hh⟩
/-- what stands of it ahead of a call -/
structure ZC (x : Fnv τ ρ) (outer : List Env) (s : Shared) (H : Hp) : Prop where
  m : Mkf x H
  c : NdefX.CellsAt x.g.cl x.fr x.ws s.heap H
  n : ∀ y a, x.g.cl.lookup y = some a → a ∉ frs outer
/-- its cells, at each state with the slots σ -/
def ClA (X : Cx) (σ : L2.St) (x : Fnv τ ρ) : Prop := ∀ pins H s, Inv X pins σ H s → NdefX.CellsAt x.g.cl x.fr x.ws s.heap H ∧ ∀ y a, x.g.cl.lookup y = some a → a ∉ frs X.stack
theorem clA_recv (z : ZC x X.outer X.s_0 X.H_0) (hx : X.ex = [] := by rfl) : ClA X σ x := fun pins H s I => by
  have no : ∀ q : Addr, q ∉ X.ex := fun q hq => by rw [hx] at hq; cases hq
  refine ⟨z.c.later z.n (fun _ q _ => no q) I, fun y q e hq => ?_⟩
  rcases List.mem_cons.mp (I.stkSub q hq) with z1 | z1
  · obtain ⟨_, v, o, ho, _⟩ := z.c.all y q e
    have h1 := Heap.lt_size ho
    have h2 := I.ok.above
    rw [← z1] at h2
    exact Nat.lt_irrefl _ (Nat.lt_of_lt_of_le h1 h2)
  · exact z.n y q e z1
theorem clA_made {sc : Scope} {js : List Nat} (hcl : x.g.cl = cloFrom X.env.cells sc.names []) (hfree : ∀ y ∈ sc.names, y.2 = .free → X.env.scope.names.lookup y.1 = some .cell ∨ X.env.scope.names.lookup y.1 = some .free)
    (hfr : ∀ y ∈ x.fr, (y, NameKind.free) ∈ sc.names) (hjs : js.map (fun j => X.N[j]?) = x.fr.map some) (hw : js.map (NdefX.slotAt σ) = x.ws) (hfn : X.fn = (fun _ => true) := by rfl) : ClA X σ x := fun pins H s I => by
  have cp := NdefX.Caps.made I.ok hfree hfr hjs
  rw [← hcl] at cp
  have C := NdefX.cells_of I cp
  rw [hw] at C
  refine ⟨C, fun y q e hq => ?_⟩
  have e1 := cp.sub y q e
  rcases List.mem_cons.mp (I.stkSub q hq) with z1 | z1
  · exact I.cne y q e1 z1
  · obtain ⟨_, o, ho, _⟩ := I.ok.funs.mem z1
    have h1 := Heap.lt_size ho
    have h2 := I.ok.cab y q (by rw [hfn]) e1
    exact Nat.lt_irrefl _ (Nat.lt_of_lt_of_le h1 h2)
/-! ### what it promises -/
def PrF (K : PySem.W.Frag) [Ra τ] [Rp ρ] (x : Fnv τ ρ) : List (Option V) → Sp := fun ws vs H Q _ => ws = x.ws ∧ ∃ F a r, SmX K F H ∧ x.R K F ∧ ra K F vs a ∧ x.fn a = some r ∧ ∀ F' H' u, Gr F H F' H' → rp K F' u r → Q u H'
def NokF (P : Program) (w : World) (K : PySem.W.Frag) (mg : Str → Option Value) (base : Heap) [Ra τ] [Rp ρ] (k : Nat) (x : Fnv τ ρ) : Prop := ∃ ps : List Str, NdefX.NOk P w K mg base CX0 k x.f x.g ps x.fr (PrF K x)
theorem nokF {P : Program} {w : World} {mg : Str → Option Value} {base : Heap} [Ra τ] [RaN τ] [Rp ρ] {N ps : List Str} {k : Nat} (S : NdefX.NScope N ps x.fr x.g.scope) (hn : RaN.n τ = ps.length)
    (hb : ∀ (doc pm ctv : Value) (us : List Value), us.length = ps.length → bindArgs (x.g.fd doc pm ctv) ⟨us, []⟩ = pure (ps.zip us))
    (hbody : ∀ (A : Around) (outer : List Env) (s : Shared) (F H : Hp) (vs : List V) (a : τ) (r : ρ) (D : Ends) (E : XK), Room k (A.deeper (NdefX.envF x.g x.f s.heap.objs.size)) → SmX K F H → x.R K F → ra K F vs a → x.fn a = some r → (∀ F' H' u, GrX K F H F' H' → rp K F' u r → D.rt u H') →
      (∀ σ' F' H', GrX K F H F' H' → rp K F' .non r → D.nx σ' H') → GoS (NdefX.ncx CX0 P w K mg base N x.g x.f A outer s H E).nox x.g.body D (NdefX.startF N vs x.ws) H) : NokF P w K mg base (k + 1) x :=
  ⟨ps, NdefX.nok_of S hb (fun ws vs H Q E ⟨_, F, a, r, _, _, ra', _⟩ => by rw [RaN.len ra', hn]) fun A outer s H vs ws Q E hr _ _ _ ⟨ew, F, a, r, sm, hR, ra', hf, k⟩ => by
    subst ew
    exact ⟨_, PSs.nox pss_go, hbody A outer s F H vs a r { nx := fun _ H' => Q .non H', rt := Q } E hr sm hR ra' hf (fun F' H' u g q => k F' H' u g.toGr q) fun σ' F' H' g q => k F' H' .non g.toGr q⟩⟩
theorem NokF.mono {P : Program} {w : World} {mg : Str → Option Value} {base : Heap} [Ra τ] [Rp ρ] {j k : Nat} (o : NokF P w K mg base j x) (h : j ≤ k) : NokF P w K mg base k x := let ⟨ps, o⟩ := o; ⟨ps, NdefX.NOk.mono o h⟩
/-! ### it is called by a name -/
theorem GoE.callG {S : List (Option V) → Sp} {P1 : List V → Hp → Prop} {Q : VK} {i j k : Nat} {n : Str} {p : Pos} {v : V} (Fn : ∃ ps : List Str, NdefX.NOk X.prog X.w X.K X.mg X.base CX0 k x.f x.g ps x.fr S) (hr : Room j X.A) (hk : k ≤ j) (hσ : σ[i]? = some (some v)) (hv : v = .ref x.f) (m : Mkf x H) (hc : ClA X σ x) (ga : GoA X (e :: es) σ H P1)
    (h : ∀ vs H1, P1 vs H1 → Mkf x H1 ∧ S x.ws vs H1 Q fun _ _ _ => False) (hN : X.N[i]? = some n) (hvis : Vis X.env.scope n) (hd : (n == ("__debug__" : Str)) = false) (hcd : (n == ("__classdict__" : Str)) = false)
    (he : starEach (e :: es) X.env = (false, eval e X.env) :: starEach es X.env) (hpl : (backTo pos (starEach es X.env)).any (·.1) = false) : GoE X (.Call (.Name n p) (e :: es) [] pos) σ H Q := .mk fun pins s I => by
  subst hv
  refine wpAny_Call_Name_kw (thn ((pe_var (pos := p) hN hvis hd hcd).run pins s σ H (fun u H1 => u = .ref x.f ∧ H1 = H) I ⟨_, hσ, rfl, rfl⟩) fun u s1 ⟨u', H1, I1, r1, e1, e2⟩ => ?_)
  subst e1; subst e2
  cases r1
  have at1 := NdefX.fnAt_of I1 m.f
  refine PySem.W.callWith_F (first := []) at1 (thn (ga.o pos pins s1 I1) fun us s2 ⟨vs, H2, I2, r2, q⟩ => ?_) he hpl
  obtain ⟨m2, q2⟩ := h vs H2 q
  refine ⟨NdefX.fnAt_of I2 m2.f, ?_⟩
  obtain ⟨ps, Fn⟩ := Fn
  refine wpAny_call (codeAny_mono (Fn.run X.A X.stack s2 H2 us vs x.ws Q (fun _ _ _ => False) (hr.mono hk) I2.env0 m2.f m2.c (hc _ _ _ I2).1 r2 q2) fun o s3 ho => ?_)
  cases o with
  | error _ => exact ho.elim
  | ok fl => cases fl <;> first | exact False.elim ho | exact I2.after ho
theorem GoE.callC {P1 : List V → Hp → Prop} {Q : VK} {i j k : Nat} {n : Str} {p : Pos} {v : V} [Ra τ] [Rp ρ] (Fn : NokF X.prog X.w X.K X.mg X.base k x) (hr : Room j X.A) (hk : k ≤ j) (hσ : σ[i]? = some (some v)) (hv : v = .ref x.f) (m : Mkf x H) (hc : ClA X σ x) (ga : GoA X (e :: es) σ H P1)
    (h : ∀ vs H1, P1 vs H1 → Mkf x H1 ∧ PrF X.K x x.ws vs H1 Q fun _ _ _ => False) (hN : X.N[i]? = some n) (hvis : Vis X.env.scope n) (hd : (n == ("__debug__" : Str)) = false) (hcd : (n == ("__classdict__" : Str)) = false)
    (he : starEach (e :: es) X.env = (false, eval e X.env) :: starEach es X.env) (hpl : (backTo pos (starEach es X.env)).any (·.1) = false) : GoE X (.Call (.Name n p) (e :: es) [] pos) σ H Q := GoE.callG (S := PrF X.K x) Fn hr hk hσ hv m hc ga h hN hvis hd hcd he hpl
theorem ev_callC {j k : Nat} {n : Str} {p : Pos} {v : V} {y : τ} {r : ρ} [Ra τ] [Rp ρ] (i : Nat) (Fn : NokF X.prog X.w X.K X.mg X.base k x) (hr : Room j X.A) (hk : k ≤ j) (hσ : σ[i]? = some (some v)) (hv : ClF x X.K F H v) (hc : ClA X σ x) (ha : EvA X (e :: es) σ F H y) (h : x.fn y = some r) (hN : X.N[i]? = some n := by rfl)
    (hvis : Vis X.env.scope n := by first | exact Or.inl rfl | exact Or.inr (Or.inl rfl) | exact Or.inr (Or.inr rfl)) (hd : (n == ("__debug__" : Str)) = false := by decide) (hcd : (n == ("__classdict__" : Str)) = false := by decide)
    (he : starEach (e :: es) X.env = (false, eval e X.env) :: starEach es X.env := by rfl) (hpl : (backTo pos (starEach es X.env)).any (·.1) = false := by rfl) : Ev X (.Call (.Name n p) (e :: es) [] pos) σ F H r := fun F1 H1 g Q q => by
  have hv1 := hv.up g.toGr
  refine GoE.callC (P1 := fun vs H2 => Mkf x H2 ∧ PrF X.K x x.ws vs H2 Q fun _ _ _ => False) Fn hr hk hσ hv1.r.1 hv1.m hc (ha F1 H1 g _ fun vs F2 H2 g2 r2 => ?_) (fun _ _ z => z) hN hvis hd hcd he hpl
  have hv2 := hv1.up g2
  exact ⟨hv2.m, rfl, F2, y, r, (g.trans g2).sm, hv2.r.2, r2, h, fun F3 H3 u g3 r3 => q u F3 H3 (g2.trans g3) r3⟩
end
/-- the statements in a loop or under a condition -/
def inBody : Stmt → List Stmt
  | .For _ _ b _ _ => b
  | .While _ b _ _ => b
  | .If _ b _ _ => b
  | _ => []
/-! ### it takes two new things for its own -/
section
variable {α β ρ : Type} [Rp α] [Ob α] [Rp β] [Ob β] [Rp ρ] {x : Fnv (α × β × Unit) ρ} {X : Cx} {e a b : Expr} {σ : L2.St} {F H : Hp} {pos : Pos}
def PrT (K : PySem.W.Frag) (x : Fnv (α × β × Unit) ρ) : List (Option V) → Sp := fun ws vs H Q _ => ws = x.ws ∧ ∃ F0 H0 F l1 l2 y1 y2 r, vs = [.ref l1, .ref l2] ∧ GrX K F0 H0 F H ∧ x.R K F ∧ Own K H0 F H l1 y1 ∧ Own K H0 F H l2 y2 ∧ l1 ≠ l2 ∧ x.fn (y1, y2, ()) = some r ∧ ∀ F' H' u, Gr F0 H0 F' H' → rp K F' u r → Q u H'
def NokT (P : Program) (w : World) (K : PySem.W.Frag) (mg : Str → Option Value) (base : Heap) (k : Nat) (x : Fnv (α × β × Unit) ρ) : Prop := ∃ ps : List Str, NdefX.NOk P w K mg base CX0 k x.f x.g ps x.fr (PrT K x)
theorem nokT {K : PySem.W.Frag} {P : Program} {w : World} {mg : Str → Option Value} {base : Heap} {N ps : List Str} {k : Nat} (S : NdefX.NScope N ps x.fr x.g.scope) (hn : ps.length = 2)
    (hb : ∀ (doc pm ctv : Value) (us : List Value), us.length = ps.length → bindArgs (x.g.fd doc pm ctv) ⟨us, []⟩ = pure (ps.zip us))
    (hbody : ∀ (A : Around) (outer : List Env) (s : Shared) (F0 H0 F H : Hp) (l1 l2 : Addr) (y1 : α) (y2 : β) (r : ρ) (D : Ends) (E : XK), Room k (A.deeper (NdefX.envF x.g x.f s.heap.objs.size)) → GrX K F0 H0 F H → x.R K F → Own K H0 F H l1 y1 → Own K H0 F H l2 y2 → l1 ≠ l2 → x.fn (y1, y2, ()) = some r → (∀ F' H' u, GrX K F0 H0 F' H' → rp K F' u r → D.rt u H') →
      (∀ σ' F' H', GrX K F0 H0 F' H' → rp K F' .non r → D.nx σ' H') → GoS (NdefX.ncx CX0 P w K mg base N x.g x.f A outer s H E).nox x.g.body D (NdefX.startF N [.ref l1, .ref l2] x.ws) H) : NokT P w K mg base (k + 1) x :=
  ⟨ps, NdefX.nok_of S hb (fun ws vs H Q E ⟨_, F0, H0, F, l1, l2, y1, y2, r, ev, _⟩ => by rw [ev, hn]; rfl) fun A outer s H vs ws Q E hr _ _ _ ⟨ew, F0, H0, F, l1, l2, y1, y2, r, ev, g, hR, o1, o2, ne, hf, k⟩ => by
    subst ew; subst ev
    exact ⟨_, PSs.nox pss_go, hbody A outer s F0 H0 F H l1 l2 y1 y2 r { nx := fun _ H' => Q .non H', rt := Q } E hr g hR o1 o2 ne hf (fun F' H' u g q => k F' H' u g.toGr q) fun σ' F' H' g q => k F' H' .non g.toGr q⟩⟩
theorem NokT.mono {K : PySem.W.Frag} {P : Program} {w : World} {mg : Str → Option Value} {base : Heap} {j k : Nat} (o : NokT P w K mg base j x) (h : j ≤ k) : NokT P w K mg base k x := let ⟨ps, o⟩ := o; ⟨ps, NdefX.NOk.mono o h⟩
theorem ev_callT {j k : Nat} {n : Str} {p : Pos} {v : V} {y1 : α} {y2 : β} {r : ρ} (i : Nat) (Fn : NokT X.prog X.w X.K X.mg X.base k x) (hr : Room j X.A) (hk : k ≤ j) (hσ : σ[i]? = some (some v)) (hv : ClF x X.K F H v) (hc : ClA X σ x) (ha : EvN X a σ F H y1) (hb : EvN X b σ F H y2) (h : x.fn (y1, y2, ()) = some r) (hN : X.N[i]? = some n := by rfl)
    (hvis : Vis X.env.scope n := by first | exact Or.inl rfl | exact Or.inr (Or.inl rfl) | exact Or.inr (Or.inr rfl)) (hd : (n == ("__debug__" : Str)) = false := by decide) (hcd : (n == ("__classdict__" : Str)) = false := by decide)
    (hs : starEach [a, b] X.env = (false, eval a X.env) :: starEach [b] X.env := by rfl) (hs2 : starEach [b] X.env = (false, eval b X.env) :: starEach [] X.env := by rfl) (hpl : (backTo pos (starEach [b] X.env)).any (·.1) = false := by rfl) : Ev X (.Call (.Name n p) [a, b] [] pos) σ F H r := fun F1 H1 g Q q => by
  have hv1 := hv.up g.toGr
  refine GoE.callG (S := PrT X.K x) (P1 := fun vs H2 => Mkf x H2 ∧ PrT X.K x x.ws vs H2 Q fun _ _ _ => False) Fn hr hk hσ hv1.r.1 hv1.m hc (GoA.of (pa_cons pe_go (pa_cons pe_go pa_nil hs2) hs) (ha F1 H1 g _ fun l1 o1 F2 H2 g2 n1 f1 h1 b1 => hb F2 H2 (g.trans g2) _ fun l2 o2 F3 H3 g3 n2 f2 h2 b2 => ?_)) (fun _ _ z => z) hN hvis hd hcd hs hpl
  have w1 : Own X.K H1 F3 H3 l1 y1 := (Own.mk' n1 f1 h1 b1).up g3
  have nl2 : H1 l2 = none := g2.hh.free n2
  exact ⟨(hv1.up (g2.trans g3)).m, rfl, F1, H1, F3, l1, l2, y1, y2, r, rfl, .pre (.refl g.fh) (g.sm.gx (g2.trans g3)), (hv1.up (g2.trans g3)).r.2, w1, Own.mk' nl2 f2 h2 b2, (fun z => by
    subst z
    rw [h1] at n2; cases n2), h, fun F4 H4 u g4 r4 => q u F4 H4 g4 r4⟩
end
/-! ### a def to which it is handed -/
structure FnOkZ (Z : List Env → Shared → Hp → Prop) (P : Program) (w : World) (K : PySem.W.Frag) (mg : Str → Option Value) (base : Heap) (CX : CXT) (k : Nat) (f : Addr) (fd : FuncData) (ps : List Str) (sp : Sp) : Prop where
  len : ∀ vs H Q E, sp vs H Q E → vs.length = ps.length
  run : ∀ (A : Around) (outer : List Env) (s : Shared) (H : Hp) (args : Args) (us : List Value) (vs : List V) (Q : VK) (E : XK), Room k A → Env0 P w K mg base A outer s H → BindsTo s fd args (ps.zip us) → Vals vs us → Z outer s H →
    sp vs H Q E → codeAny (model P w) A (.call (.ref f) args) (CR CX outer P w H s Q E) s
section
variable {X : Cx} {K : PySem.W.Frag} {e a b c d : Expr} {es : List Expr} {σ : L2.St} {F H F0 H0 : Hp} {pos : Pos} {D : Ends} {st : Stmt} {rest body : List Stmt} {P : Program} {w : World} {mg : Str → Option Value} {base : Heap} {Z : List Env → Shared → Hp → Prop}
theorem FnOkZ.plain {CX : CXT} {k : Nat} {f : Addr} {fd : FuncData} {ps : List Str} {sp : Sp} (o : FnOkZ (fun _ _ _ => True) P w K mg base CX k f fd ps sp) : FnOk P w K mg base CX k f fd ps sp :=
  ⟨o.len, fun A outer s H args us vs Q E hr e0 hb r h => o.run A outer s H args us vs Q E hr e0 hb r trivial h⟩
theorem FnOkZ.mono {CX : CXT} {k j : Nat} {f : Addr} {fd : FuncData} {ps : List Str} {sp : Sp} (o : FnOkZ Z P w K mg base CX j f fd ps sp) (h : j ≤ k) : FnOkZ Z P w K mg base CX k f fd ps sp :=
  ⟨o.len, fun A outer s H args us vs Q E hr => o.run A outer s H args us vs Q E (hr.mono h)⟩
/-- a def by its body; the body may know what Z tells, and the def's code object -/
theorem okZ {N ps : List Str} {k : Nat} {sp : Sp} {x qual : Str} {s0 : Stmt} {pp : Str × Option Str} {fd : FuncData} {CX : CXT} (Fn : FunD K x qual (defArgs s0) (defBody s0) (defScope s0) [] [] (He.fAd K pp) fd) (S : FnScope N ps (defScope s0)) (len : ∀ vs H Q E, sp vs H Q E → vs.length = ps.length)
    (hbody : ∀ (cdv : Value) (A : Around) (outer : List Env) (s : Shared) (H : Hp) (vs : List V) (Q : VK) (E : XK), cdv = .ref (He.codeOf K pp) → Room k (A.deeper (envOfC qual (defScope s0) s.heap.objs.size (He.fAd K pp) cdv)) → Z outer s H → sp vs H Q E →
      GoS (cxOf CX P w K mg base N qual (defScope s0) (He.fAd K pp) cdv A outer s H E) (defBody s0) { nx := fun _ H' => Q .non H', rt := Q } (start N vs) H) : FnOkZ Z P w K mg base CX (k + 1) (He.fAd K pp) fd ps sp := by
  obtain ⟨oc, od, dV, kV, doc, pm, an, cdv, ct, osl, rfl, lk, hcd, _, _⟩ := Fn.ex
  have ecd : cdv = .ref (He.codeOf K pp) := by
    obtain ⟨c0, e0⟩ := He.codeIn_ref hcd
    rw [He.codeOf_eq lk e0]; exact e0
  refine ⟨len, fun A outer s H args us vs Q E hr env0 bnd rv z hsp => ?_⟩
  have keep0 : ∀ q o, base.get? q = some o → s.heap.get? q = some o := fun q o h => (env0.bs q o h).1
  have inK := env0.mod.kin.keeps keep0
  have noLim : s.heap.NoLimit := env0.mod.nolimit.keeps keep0
  have kinds : ∀ y ∈ ps.zip us, (defScope s0).names.lookup y.1 = some .local ∨ ((defScope s0).names.lookup y.1 = some .cell ∧ ((cellsFrom (s.heap.objs.size + 1) (defScope s0).names []).lookup y.1).isSome = true) := by
    rintro ⟨n, v⟩ hy
    exact (S.par n (List.of_mem_zip hy).1).imp id fun q => ⟨q, PySem.W.cellsFrom_some _ _ _ (.inl q)⟩
  refine codeAny_call_function hr.depth (inK _ _ lk) rfl S.co S.gen rfl (PySem.W.codeRec_of inK hcd) (bnd _ _ _ _ (wpAny_newFunctionEnv_cells S.kind kinds fun env1 he1 s1 made => ?_))
  subst he1
  refine ⟨noLim.keeps made.toInCall.keep, codeAny_func ?_⟩
  have I := inv_start (CX := CX) (P := P) (w := w) (K := K) (mg := mg) (base := base) (E := E) (cd := cdv) S hr.hd env0 (len _ _ _ _ hsp) rv made
  have body := (hbody cdv A outer s H vs Q E ecd (hr.deeper _) z hsp).o [] s1 I
  have done : ∀ {σ1 : L2.St} {H1 : Hp} {v1 : V} {u1 : Value} {s2 : Shared}, Inv (cxOf CX P w K mg base N qual (defScope s0) (He.fAd K pp) cdv A outer s H E) [] σ1 H1 s2 → RelV v1 u1 → Q v1 H1 → CE outer P w H s Q u1 s2 := by
    intro σ1 H1 v1 u1 s2 J r1 q1
    exact ⟨v1, H1, J.os, J.bare, J.base, J.hok, r1, q1⟩
  refine wpAny_mono body (fun fl s2 h2 => ?_) fun _ _ h2 => h2
  match fl, h2 with
  | .ret _, ⟨_, _, _, J, r1, q1⟩ => exact done J r1 q1
  | .next, ⟨_, _, J, q1⟩ => exact done (v1 := .non) (u1 := .none) J rfl q1
  | .brk, ⟨_, _, _, q1⟩ => exact q1.elim
  | .cont, ⟨_, _, _, q1⟩ => exact q1.elim
theorem GoS.nox {σ : L2.St} (h : GoS X.nox body D σ H) : GoS X body D σ H := GoS.of (PSs.nox pss_go) h
theorem fn_okZ {τ ρ : Type} [Ra τ] [RaN τ] [Rp ρ] {f : τ → Option ρ} {x qual : Str} {s0 : Stmt} {pp : Str × Option Str} {fd : FuncData} {N ps : List Str} {k : Nat} (Fn : FunD K x qual (defArgs s0) (defBody s0) (defScope s0) [] [] (He.fAd K pp) fd) (S : FnScope N ps (defScope s0)) (hn : RaN.n τ = ps.length)
    (hbody : ∀ (cdv : Value) (A : Around) (outer : List Env) (s : Shared) (F H : Hp) (vs : List V) (a : τ) (r : ρ) (D : Ends) (E : XK), cdv = .ref (He.codeOf K pp) → Room k (A.deeper (envOfC qual (defScope s0) s.heap.objs.size (He.fAd K pp) cdv)) → Z outer s H → SmX K F H → ra K F vs a → f a = some r →
      (∀ F' H' u, GrX K F H F' H' → rp K F' u r → D.rt u H') → (∀ σ' F' H', GrX K F H F' H' → rp K F' .non r → D.nx σ' H') → GoS (cxOf CX0 P w K mg base N qual (defScope s0) (He.fAd K pp) cdv A outer s H E).nox (defBody s0) D (start N vs) H) :
    FnOkZ Z P w K mg base CX0 (k + 1) (He.fAd K pp) fd ps (Pr K f) :=
  okZ Fn S (fun vs H Q E ⟨F, a, r, _, ra', _⟩ => by rw [RaN.len ra', hn]) fun cdv A outer s H vs Q E hcd hr z ⟨F, a, r, sm, ra', hf, k⟩ =>
    (hbody cdv A outer s F H vs a r _ E hcd hr z sm ra' hf (fun F' H' u g q => k F' H' u g.toGr q) fun σ' F' H' g q => k F' H' .non g.toGr q).nox
theorem GoE.callZ {P1 : List V → Hp → Prop} {Q : VK} {k : Nat} {fa : Addr} {fd : FuncData} {ps : List Str} {sp : Sp} {x : Str} {p : Pos} (Fn : FnOkZ Z X.prog X.w X.K X.mg X.base CX0 k fa fd ps sp) (hr : Room k X.A) (hm : X.mg x = some (.ref fa))
    (hk : PySem.W.keepIn X.K (.ref fa) = true) (hb : Binds X.K fd ps []) (ga : GoA X (e :: es) σ H P1) (h : ∀ vs H1, P1 vs H1 → sp vs H1 Q (fun _ _ _ => False) ∧ ∀ pins s, Inv X pins σ H1 s → Z X.stack s H1) (hg : Gl X x) (hdb : (x == ("__debug__" : Str)) = false)
    (he : starEach (e :: es) X.env = (false, eval e X.env) :: starEach es X.env) (hpl : (backTo pos (starEach es X.env)).any (·.1) = false) : GoE X (.Call (.Name x p) (e :: es) [] pos) σ H Q := .mk fun pins s I => by
  refine wpAny_Call_Name_kw (ld_glob I hg hm ?_ hdb)
  refine PySem.W.callWith_K (h₀ := X.base) I.ok.mod.kin hk (thn (ga.o pos pins s I) fun us s1 ⟨vs, H1, I1, r1, q⟩ => ?_) he hpl
  obtain ⟨q1, q2⟩ := h vs H1 q
  refine ⟨I1.kIn, ?_⟩
  have hl : us.length = ps.length := r1.length.symm.trans (Fn.len _ _ _ _ q1)
  have bnd := hb s1 us I1.kIn (by rw [List.append_nil]; exact hl)
  rw [List.append_nil] at bnd
  refine wpAny_call (codeAny_mono (Fn.run X.A X.stack s1 H1 ⟨us, []⟩ us vs Q (fun _ _ _ => False) hr I1.env0 bnd r1 (q2 _ _ I1) q1) fun o s2 ho => ?_)
  cases o with
  | error _ => exact ho.elim
  | ok fl => cases fl <;> first | exact False.elim ho | exact I1.after ho
/-- f(.., change, ..) -/
theorem ev_callZ {τ ρ τ1 ρ1 : Type} [Ra τ] [Rp ρ] {fv : Fnv τ1 ρ1} {f : τ → Option ρ} {y : τ} {r : ρ} {k : Nat} {fa : Addr} {fd : FuncData} {ps : List Str} {x : Str} {p : Pos} {v : V} (Fn : FnOkZ (ZC fv) X.prog X.w X.K X.mg X.base CX0 k fa fd ps (Pr X.K f)) (hr : Room k X.A) (hm : X.mg x = some (.ref fa))
    (hk : PySem.W.keepIn X.K (.ref fa) = true) (hb : Binds X.K fd ps []) (hv : ClF fv X.K F H v) (hc : ClA X σ fv) (ha : EvA X (e :: es) σ F H y) (h : f y = some r) (hg : Gl X x := by rfl) (hdb : (x == ("__debug__" : Str)) = false := by decide)
    (he : starEach (e :: es) X.env = (false, eval e X.env) :: starEach es X.env := by rfl) (hpl : (backTo pos (starEach es X.env)).any (·.1) = false := by rfl) : Ev X (.Call (.Name x p) (e :: es) [] pos) σ F H r := fun F1 H1 g Q q =>
  GoE.callZ (P1 := fun vs H2 => Pr X.K f vs H2 Q (fun _ _ _ => False) ∧ ∀ pins s, Inv X pins σ H2 s → ZC fv X.stack s H2) Fn hr hm hk hb (ha F1 H1 g _ fun vs F2 H2 g2 r2 => ⟨⟨F2, y, r, (g.trans g2).sm, r2, h, fun F3 H3 u g3 r3 => q u F3 H3 (g2.trans g3) r3⟩, fun pins s I =>
    ⟨(hv.up (g.trans g2).toGr).m, (hc pins H2 s I).1, (hc pins H2 s I).2⟩⟩) (fun _ _ z => z) hg hdb he hpl
end
def ordG (z : Str) : Option Int := if z.length = 1 then some ((z.cps.getD 0 0 : Nat) : Int) else none
theorem oc_ord {K : PySem.W.Frag} {z : Str} {r : Int} (h : ordG z = some r) : OpC K (fun xs H Q => ∃ x : Str, xs = [.str x] ∧ x.length = 1 ∧ Q (.int (x.cps.getD 0 0 : Nat)) H) (z, ()) r := oc1 fun F H v Q s rv k => by
  unfold ordG at h
  split at h
  · rename_i hz
    have rv : v = .str z := rv
    exact ⟨z, by rw [rv], hz, k _ F H (.refl s) (congrArg V.int (Option.some.inj h))⟩
  · cases h
/-- how long a private list is -/
theorem ev_lenOwn {α : Type} [Rp α] {X : Cx} {σ : L2.St} {F H H0 : Hp} {pos : Pos} {xs : List α} {l : Addr} {n : Str} {p1 p2 : Pos} (i : Nat) (o : Own X.K H0 F H l xs) (hσ : σ[i]? = some (some (.ref l))) (hm : X.mg "len" = none)
    (hN : X.N[i]? = some n := by rfl) (hv : Vis X.env.scope n := by first | exact Or.inl rfl | exact Or.inr (Or.inl rfl) | exact Or.inr (Or.inr rfl)) (hd : (n == ("__debug__" : Str)) = false := by decide) (hcd : (n == ("__classdict__" : Str)) = false := by decide)
    (hg : Gl X "len" := by rfl) (hs : starEach [.Name n p1] X.env = (false, eval (.Name n p1) X.env) :: starEach [] X.env := by rfl) (hpl : (backTo pos (starEach [] X.env)).any (·.1) = false := by rfl) : Ev X (.Call (.Name "len" p2) [.Name n p1] [] pos) σ F H (xs.length : Int) := fun F1 H1 g Q q => by
  have o1 := o.up g.toGr
  obtain ⟨_, hl, vs, rfl, rs⟩ := o1.h
  have q1 := q (.int vs.length) F1 H1 (.refl g.fh) (by show V.int _ = V.int _; rw [rs.length])
  exact GoE.of (pe_callB call_len_seq hg hm PySem.boot_len (pa_cons (pe_var hN hv hd hcd) pa_nil hs) (by decide) (by decide) hs hpl) ⟨_, hσ, _, vs, rfl, .inl (SqL.of hl), q1⟩
/-! ### a method to which it is handed -/
section
variable {X : Cx} {a e : Expr} {es : List Expr} {σ : L2.St} {F H : Hp} {pos : Pos} {Z : List Env → Shared → Hp → Prop}
theorem run_fnZ {k : Nat} {fa : Addr} {fd : FuncData} {ps : List Str} {sp : Sp} {pins : List (Addr × Obj)} {s : Shared} {Q : VK} {us : List Value} {vs : List V} (Fn : FnOkZ Z X.prog X.w X.K X.mg X.base CX0 k fa fd ps sp) (hr : Room k X.A) (hb : Binds X.K fd ps [])
    (I : Inv X pins σ H s) (r : Vals vs us) (h : sp vs H Q (fun _ _ _ => False)) (z : Z X.stack s H) : wpAny (model X.prog X.w) X.A (call (.ref fa) us) (EP X pins σ Q) X.xe s := by
  have hl : us.length = ps.length := r.length.symm.trans (Fn.len _ _ _ _ h)
  have bnd := hb s us I.kIn (by rw [List.append_nil]; exact hl)
  rw [List.append_nil] at bnd
  refine wpAny_call (codeAny_mono (Fn.run X.A X.stack s H ⟨us, []⟩ us vs Q (fun _ _ _ => False) hr I.env0 bnd r z h) fun o s2 ho => ?_)
  cases o with
  | error _ => exact ho.elim
  | ok fl => cases fl <;> first | exact False.elim ho | exact I.after ho
theorem ev_methZ {α τ ρ τ1 ρ1 : Type} [Rp α] [Ra τ] [Rp ρ] {fv : Fnv τ1 ρ1} {x : α} {y : τ} {f : α × τ → Option ρ} {r : ρ} {cn m : Str} {names : List Str} {k : Nat} {fa : Addr} {fd : FuncData} {ps : List Str} {apos : Pos} {pl : Sem Bool} {v : V} (hx : ∀ F v, rp X.K F v x → ∃ a dx vs, v = .ref a ∧ F a = some (.ins (He.ga X.K cn) dx (names.zip vs))) (hn : m ∉ names) (cl : Cls X.K (He.ga X.K cn)) (me : Meth X.K (He.ga X.K cn) m fa)
    (Fn : FnOkZ (ZC fv) X.prog X.w X.K X.mg X.base CX0 k fa fd ps (Pr X.K f)) (hr : Room k X.A) (hb : Binds X.K fd ps []) (hv : ClF fv X.K F H v) (hc : ClA X σ fv) (ha : Ev X a σ F H x) (hy : EvA X (e :: es) σ F H y) (h : f (x, y) = some r)
    (hs : starEach (e :: es) X.env = (false, eval e X.env) :: starEach es X.env) (hpl : (backTo pos (starEach es X.env)).any (·.1) = false)
    (ht : eval (.Call (.Attribute a m apos) (e :: es) [] pos) X.env = (do
      let ov ← eval a X.env
      standAt apos.atName
      let (f, first) ← holding [ov] (getMethod ov m pl)
      callWith pos f first (backTo pos (starEach (e :: es) X.env)) (backToKw pos (keywordEach [] X.env)))) : Ev X (.Call (.Attribute a m apos) (e :: es) [] pos) σ F H r := fun F1 H1 g Q q => .mk fun pins s I => by
  refine PySem.W.methodCall_KW (pl := pl) (thn ((ha F1 H1 g (fun w H2 => ∃ z dx ws, w = .ref z ∧ H2 z = some (.ins (He.ga X.K cn) dx (names.zip ws)) ∧ GoA X (e :: es) σ H2 (fun vs H3 => Pr X.K f (.ref z :: vs) H3 Q (fun _ _ _ => False) ∧ ∀ pins s, Inv X pins σ H3 s → ZC fv X.stack s H3)) fun w F2 H2 g2 r2 => ?_).o pins s I) fun u s1 ⟨w, H2, I1, rx, z, dx, ws, ew, ez, q1⟩ => ?_) ht
  · obtain ⟨z, dx, ws, e1, hF⟩ := hx F2 w r2
    subst e1
    refine ⟨z, dx, ws, rfl, g2.fh _ _ hF, hy F2 H2 (g.trans g2) _ fun vs F3 H3 g3 r3 => ⟨⟨F3, (x, y), r, (g.trans (g2.trans g3)).sm, ⟨_, vs, rfl, Rp.mono g3.ff r2, r3⟩, h, fun F4 H4 u g4 r4 => q u F4 H4 ((g2.trans g3).trans g4) r4⟩, fun pins s I => ?_⟩⟩
    exact ⟨(hv.up (g.trans (g2.trans g3)).toGr).m, (hc pins H3 s I).1, (hc pins H3 s I).2⟩
  · subst ew
    obtain rfl : u = Value.ref z := rx
    refine getmeth_ok I1 ez cl me (zip_none hn) ?_
    refine PySem.W.callWith_K (first := [.ref z]) (h₀ := X.base) I.ok.mod.kin me.kp (thn (q1.o pos pins s1 I1) fun us s2 ⟨vs, H3, I3, r3, q2, qz⟩ => ⟨I3.kIn, ?_⟩) hs hpl
    exact run_fnZ (us := .ref z :: us) (vs := .ref z :: vs) Fn hr hb I3 (.cons rfl r3) q2 (qz _ _ I3)
end
section
variable {X : Cx} {K : PySem.W.Frag} {e a b c d : Expr} {es : List Expr} {σ : L2.St} {F H F0 H0 : Hp} {pos : Pos} {D : Ends} {st : Stmt} {rest body : List Stmt} {P : Program} {w : World} {mg : Str → Option Value} {base : Heap} {Z : List Env → Shared → Hp → Prop}
/-! ### it is made -/
theorem tab_more {ps : Array Value} {more : List Value} : (ps ++ more.toArray).toList = ps.toList ++ more := by simp
theorem ndefG {pins : List (Addr × Obj)} {s : Shared} {c P : Addr} {name : Str} {params : Arguments} {nb : List Stmt} {scope : Scope} {E Q : Value → Shared → Prop} (I : Inv X pins σ H s) (TB : LamX.TabB X.base X.mg c P) (hcode : X.env.code = .ref c) (hT : GdT H P) (hq : nmG pos.line pos.col = X.env.qual ++ name)
    (hfree : ∀ y ∈ scope.names, y.2 = .free → ∃ q, X.env.cells.lookup y.1 = some q)
    (h : ∀ f c' H1 s', Inv X pins σ H1 s' → Xt H H1 → (∀ b o, H b = some o → b ≠ P → H1 b = some o) → H1 f = some (NdefX.FnO f ⟨name, X.env.qual ++ name, params, nb, scope, cloFrom X.env.cells scope.names [], c'⟩) → H1 c' = some (LamX.CodeO c' (X.env.qual ++ name)) → Q (.ref f) s') :
    wpAny (model X.prog X.w) X.A (makeFunction name (X.env.qual ++ name) params (.stmts nb) scope X.env [] [] [] pos pos.line) Q E s := by
  have hG := hT
  obtain ⟨ps, tP, tri, all⟩ := hT
  have g1 := I.mod.glob.keeps I.bk
  have cd := TB.code.keeps I.bk
  have bt : s.heap.BuiltinsAt X.mg P := TB.bm.keeps I.bk
  have oP : s.heap.get? P = some { cls := .none, data := .fields ps } := I.hok P _ tP
  cases among : codeAmong pos ps.toList with
  | some cv =>
    obtain ⟨c', rfl, cO⟩ := all pos cv among
    rw [hq] at cO
    refine PySem.W.makeFunction_hit (c := c) (closure_ok hfree) I.ok.glob g1 hcode cd oP tri among bt fun ctv doc h' tk kp _ => ?_
    have I1 := I.kept (t' := tk) kp
    have nf : H h'.objs.size = none := I1.hok.fresh (Nat.le_refl _)
    have I2 := NdefX.inv_fn (F := ⟨name, X.env.qual ++ name, params, nb, scope, cloFrom X.env.cells scope.names [], c'⟩) (t' := tk) (doc := doc) (pm := (X.mg "__name__").getD .none) (ctv := ctv) I1 rfl
    exact h _ c' _ _ I2 (.upd nf ntb_fnO) (fun b o hb _ => by rw [upd_ne (ne_of_none hb nf)]; exact hb) upd_same (by rw [upd_ne (ne_of_none cO nf)]; exact cO)
  | none =>
    refine PySem.W.makeFunction_K (c := c) (closure_ok hfree) I.ok.glob g1 hcode cd oP tri among TB.gP bt fun c' ctv doc h' tk hx hge hlt hrec htb => ?_
    obtain ⟨c2, oc, vs, t, e2, hoc, hd, hv⟩ := hrec
    cases e2
    have nC : H c' = none := I.hok.fresh hge
    have I1 := LamX.inv_table (t' := tk) (more := [rawInt pos.line, rawInt pos.col, .ref c'].toArray) (h' := h') I tP (fun b o hb => hx b o hb) htb hge ⟨oc, vs, t, hoc, hd, hv⟩
    have nF := I1.hok.fresh (Nat.le_refl h'.objs.size)
    have I2 := NdefX.inv_fn (F := ⟨name, X.env.qual ++ name, params, nb, scope, cloFrom X.env.cells scope.names [], c'⟩) (t' := tk) (doc := doc) (pm := (X.mg "__name__").getD .none) (ctv := ctv) I1 rfl
    have nF0 : H h'.objs.size = none := NdefX.upd_none (NdefX.upd_none nF)
    generalize hH1 : upd (upd (upd H P (.tbl (ps ++ [rawInt pos.line, rawInt pos.col, .ref c'].toArray))) c' (LamX.CodeO c' (X.env.qual ++ name))) h'.objs.size (NdefX.FnO h'.objs.size ⟨name, X.env.qual ++ name, params, nb, scope, cloFrom X.env.cells scope.names [], c'⟩) = H1 at I2
    have kp : ∀ b o, H b = some o → b ≠ P → H1 b = some o := fun b o hb hP => by
      rw [← hH1, upd_ne (ne_of_none hb nF0), upd_ne (ne_of_none hb nC), upd_ne hP]; exact hb
    have cO : H1 c' = some (LamX.CodeO c' (X.env.qual ++ name)) := by rw [← hH1, upd_ne (Nat.ne_of_lt hlt)]; exact upd_same
    have pO : H1 P = some (.tbl (ps ++ [rawInt pos.line, rawInt pos.col, .ref c'].toArray)) := by rw [← hH1, upd_ne (ne_of_none tP nF0), upd_ne (ne_of_none tP nC)]; exact upd_same
    have code : ∀ q nm, H q = some (LamX.CodeO q nm) → H1 q = some (LamX.CodeO q nm) := fun q nm hb => kp q _ hb fun z => by
      rw [z, tP] at hb; exact LamX.codeO_ne ps (Option.some.inj hb).symm
    refine h _ c' H1 _ I2 ⟨fun b o hb n => kp b o hb fun z => ?_, fun b qs hb => ?_, fun P' hP' => ?_⟩ kp (by rw [← hH1]; exact upd_same) cO
    · subst z; rw [tP] at hb; cases hb; exact n
    · by_cases z : b = P
      · subst z; exact ⟨_, pO⟩
      · exact ⟨qs, kp b _ hb z⟩
    · by_cases z : P' = P
      · subst z
        refine ⟨_, pO, by rw [tab_more]; exact PySem.TriplesOk_snoc _ _ _ _ tri, fun p' cv hcv => ?_⟩
        rw [tab_more] at hcv
        rcases NdefX.among_app2 _ tri hcv with y | ⟨y, y1, y2⟩
        · obtain ⟨q, e1, e2⟩ := all p' cv y
          exact ⟨q, e1, code _ _ e2⟩
        · refine ⟨c', y, ?_⟩
          rw [← y1, ← y2, hq]; exact cO
      · obtain ⟨qs, e1, e2, e3⟩ := hP'
        exact ⟨qs, kp _ _ e1 z, e2, fun p' cv hcv => let ⟨q, y1, y2⟩ := e3 p' cv hcv; ⟨q, y1, code _ _ y2⟩⟩
/-- def name(..): .. in a def's body -/
theorem go_ndef {name : Str} {params : Arguments} {nb : List Stmt} {scope : Scope} {c P : Addr} (i : Nat) (s : SmX X.K F H) (TB : LamX.TabB X.base X.mg c P) (hcode : X.env.code = .ref c) (hP : P ∈ tabsG X.K) (hq : nmG pos.line pos.col = X.env.qual ++ name)
    (hfree : ∀ y ∈ scope.names, y.2 = .free → X.env.scope.names.lookup y.1 = some .cell ∨ X.env.scope.names.lookup y.1 = some .free)
    (k : ∀ f c' H', Gr F H F H' → H' f = some (NdefX.FnO f ⟨name, X.env.qual ++ name, params, nb, scope, cloFrom X.env.cells scope.names [], c'⟩) → H' c' = some (LamX.CodeO c' (X.env.qual ++ name)) → GoS X rest D (σ.set i (some (.ref f))) H')
    (hN : X.N.Nodup) (hd0 : params.defaults = [] := by rfl) (hk0 : params.kw_defaults = [] := by rfl) (ha : annTrees params none X.env = [] := by rfl) (hi : X.N[i]? = some name := by rfl)
    (hx : Loc X.env.scope name := by first | exact Or.inl rfl | exact Or.inr rfl) (hf : X.fn name = true ∨ X.env.scope.names.lookup name = some .local := by first | exact .inl rfl | exact .inr rfl) : GoS X (.FunctionDef name params nb [] none [] scope none name pos :: rest) D σ H := by
  have run : PS X (.FunctionDef name params nb [] none [] scope none name pos) (fun D1 σ1 H1 => H1 = H ∧ σ1 = σ ∧ ∀ f c' H', Gr F H F H' → H' f = some (NdefX.FnO f ⟨name, X.env.qual ++ name, params, nb, scope, cloFrom X.env.cells scope.names [], c'⟩) → H' c' = some (LamX.CodeO c' (X.env.qual ++ name)) → D1.nx (σ.set i (some (.ref f))) H') := by
    refine ⟨fun pins s1 σ1 H1 D1 I ⟨eH, eσ, h⟩ => ?_⟩
    subst eH; subst eσ
    have eqn : qualnameIn X.env name name = X.env.qual ++ name := by
      have hk : X.env.kindOf name = some .local ∨ X.env.kindOf name = some .cell := hx
      unfold qualnameIn
      rcases hk with hk | hk <;> rw [hk] <;> first | rfl | exact if_neg (by decide)
    refine PySem.W.nestDef_K hd0 hk0 ha ?_
    rw [eqn]
    refine ndefG I TB hcode (s.h.t P hP).1 hq (fun y hy e => I.ok.has _ (hfree y hy e)) fun f c' H2 s2 I2 xt kp f0 c0 => ?_
    refine store_ok I2 hN hi hx (v := .ref f) rfl (fun s3 J => ⟨_, H2, J, h f c' H2 ⟨.refl _, fun b o e => kp b o (s.s b o e) fun z => ?_, xt, fun _ _ _ _ => rfl⟩ f0 c0⟩) hf
    rw [z, (s.h.t P hP).2] at e; cases e
  exact GoS.cons run ⟨rfl, rfl, k⟩
/-! ### a def that may raise and makes another -/
theorem fn_okXZ {τ ε ρ : Type} [Ra τ] [RaN τ] [Xk ε] [Rp ρ] {f : τ → Option (Rs ε ρ)} {x qual : Str} {s0 : Stmt} {pp : Str × Option Str} {fd : FuncData} {N ps : List Str} {k : Nat} (Fn : FunD K x qual (defArgs s0) (defBody s0) (defScope s0) [] [] (He.fAd K pp) fd) (S : FnScope N ps (defScope s0)) (hn : RaN.n τ = ps.length)
    (hbody : ∀ (cdv : Value) (A : Around) (outer : List Env) (s : Shared) (F H : Hp) (vs : List V) (a : τ) (r : Rs ε ρ) (D : Ends) (E : XK), cdv = .ref (He.codeOf K pp) → Room k (A.deeper (envOfC qual (defScope s0) s.heap.objs.size (He.fAd K pp) cdv)) → SmX K F H → ra K F vs a → f a = some r →
      (∀ F' H' u y, Rs.v y = r → GrX K F H F' H' → rp K F' u y → D.rt u H') → (∀ σ' F' H' y, Rs.v y = r → GrX K F H F' H' → rp K F' .non y → D.nx σ' H') →
      (∀ y, Rs.x y = r → ∀ F' H' cls dd, GrX K F H F' H' → Xk.xr K F' H' cls dd y → E cls dd H') →
      Takes (cxOf (L2.CX P w) P w K mg base N qual (defScope s0) (He.fAd K pp) cdv A outer s H E) (fun cls d _ H => E cls d H) →
      PassesOwn (model P w) (A.deeper (envOfC qual (defScope s0) s.heap.objs.size (He.fAd K pp) cdv)) (envOfC qual (defScope s0) s.heap.objs.size (He.fAd K pp) cdv) (cxOf (L2.CX P w) P w K mg base N qual (defScope s0) (He.fAd K pp) cdv A outer s H E).xe →
      GoS (cxOf (L2.CX P w) P w K mg base N qual (defScope s0) (He.fAd K pp) cdv A outer s H E) (defBody s0) D (start N vs) H) :
    FnOk P w K mg base (L2.CX P w) (k + 1) (He.fAd K pp) fd ps (PrE K f) :=
  FnOkZ.plain (okZ (sp := PrE K f) Fn S (fun vs H Q E ⟨F, a, r, _, ra', _⟩ => by rw [RaN.len ra', hn]) fun cdv A outer s H vs Q E hcd hr _ ⟨F, a, r, sm, ra', hf, k, kx⟩ =>
    hbody cdv A outer s F H vs a r _ E hcd hr sm ra' hf (fun F' H' u y q g r => k y q.symm F' H' u g.toGr r) (fun σ' F' H' y q g r => k y q.symm F' H' .non g.toGr r) (fun y q F' H' cls dd g r => kx y q.symm F' H' cls dd g.toGr r) (takes_of rfl rfl rfl rfl) (passes_of rfl))
/-! ### isinstance of a caught exception -/
def excCB (K : PySem.W.Frag) (C : Addr) : Bool := decide (PySem.W.findIn K (.ref C) "__getattribute__" = some (some (.builtin "BaseException.__getattribute__"))) && (decide (PySem.W.findIn K (.ref C) "__getattr__" = some none) && (decide (PySem.W.subIn K (.ref C) (.type "BaseException") = some true) && (PySem.W.hasDictIn K C &&
  (decide (PySem.W.findIn K (.ref C) "__class__" = some (some (.builtin "object.__class__"))) && (decide (PySem.W.specialIn K (.builtin "object.__class__") "__get__" = some (some (.builtin "getset_descriptor.__get__"))) && (decide (PySem.W.takesIn K (.builtin "object.__class__") = some true) && decide (PySem.W.mroIn K C (.type "object") = some true)))))))
theorem excCB_ok {C : Addr} (h : excCB K C = true) : ExcC K C := by
  obtain ⟨h1, h⟩ := Bool.and_eq_true_iff.mp h
  obtain ⟨h2, h⟩ := Bool.and_eq_true_iff.mp h
  obtain ⟨h3, h⟩ := Bool.and_eq_true_iff.mp h
  obtain ⟨h4, h⟩ := Bool.and_eq_true_iff.mp h
  obtain ⟨h5, h⟩ := Bool.and_eq_true_iff.mp h
  obtain ⟨h6, h⟩ := Bool.and_eq_true_iff.mp h
  obtain ⟨h7, h8⟩ := Bool.and_eq_true_iff.mp h
  exact ⟨of_decide_eq_true h1, of_decide_eq_true h2, of_decide_eq_true h3, h4, of_decide_eq_true h5, of_decide_eq_true h6, of_decide_eq_true h7, of_decide_eq_true h8⟩
theorem ev_isE {a : Addr} {cn dn n : Str} {oe : Obj} {cls : Value} {dd : Option Addr} {pn : List (Addr × Obj)} {b : Bool} {p1 p2 p3 : Pos} (i : Nat) (C : ExcC X.K (He.ga X.K cn)) (hk : PySem.W.kitOne X.K (.ref (He.ga X.K cn)) (.ref (He.ga X.K dn)) = some b) (hz : Zc cls dd oe) (hf : ∃ vs, oe.data = .fields vs) (hσ : σ[i]? = some (some (.ref a))) (r : xr0 cn X.K cls dd)
    (hm : X.mg "isinstance" = none) (hD : X.mg dn = some (.ref (He.ga X.K dn)))
    (hi : X.N[i]? = some n := by rfl) (hv : Vis X.env.scope n := by first | exact Or.inl rfl | exact Or.inr (Or.inl rfl) | exact Or.inr (Or.inr rfl)) (hdn : (n == ("__debug__" : Str)) = false := by decide) (hcd : (n == ("__classdict__" : Str)) = false := by decide)
    (hg : Gl X "isinstance" := by rfl) (hgD : Gl X dn := by rfl) (hd : (dn == ("__debug__" : Str)) = false := by decide)
    (hs : starEach [.Name n p3, .Name dn p2] X.env = (false, eval (.Name n p3) X.env) :: starEach [.Name dn p2] X.env := by rfl) (hs2 : starEach [.Name dn p2] X.env = (false, eval (.Name dn p2) X.env) :: starEach [] X.env := by rfl)
    (hpl : (backTo pos (starEach [.Name dn p2] X.env)).any (·.1) = false := by rfl) : Ev (X.suite a ((a, oe) :: pn)) (.Call (.Name "isinstance" p1) [.Name n p3, .Name dn p2] [] pos) σ F H b := fun F1 H1 g Q q => by
  obtain ⟨e1, e2⟩ := r
  subst e1; subst e2
  exact GoE.of (pe_callB (X := X.suite a ((a, oe) :: pn)) (call_isE C hz hf) hg hm (by decide +kernel) (pa_cons (pe_var hi hv hdn hcd) (pa_cons (pe_glob (v := .ref (He.ga X.K dn)) hgD hD rfl hd) pa_nil hs2) hs) (by decide) (by decide) hs hpl)
    ⟨_, hσ, _, _, b, rfl, fun u z => z, hk, q _ F1 H1 (.refl g.fh) rfl⟩
theorem ev_isEB {a : Addr} {cn n : Str} {oe : Obj} {cls : Value} {dd : Option Addr} {pn : List (Addr × Obj)} {b : Bool} {T : String} {p1 p2 p3 : Pos} (i : Nat) (C : ExcC X.K (He.ga X.K cn)) (hk : PySem.W.kitOne X.K (.ref (He.ga X.K cn)) (.type T) = some b) (hz : Zc cls dd oe) (hf : ∃ vs, oe.data = .fields vs) (hσ : σ[i]? = some (some (.ref a))) (r : xr0 cn X.K cls dd)
    (hm : X.mg "isinstance" = none) (hT : X.mg (Str.ofString T) = none) (hbT : bootBuiltins (Str.ofString T) = some (.type T))
    (hi : X.N[i]? = some n := by rfl) (hv : Vis X.env.scope n := by first | exact Or.inl rfl | exact Or.inr (Or.inl rfl) | exact Or.inr (Or.inr rfl)) (hdn : (n == ("__debug__" : Str)) = false := by decide) (hcd : (n == ("__classdict__" : Str)) = false := by decide)
    (hg : Gl X "isinstance" := by rfl) (hgT : Gl X (Str.ofString T) := by rfl) (hn : (Str.ofString T) ≠ "__name__" := by decide) (hd : ((Str.ofString T) == ("__debug__" : Str)) = false := by decide)
    (hs : starEach [.Name n p3, .Name (Str.ofString T) p2] X.env = (false, eval (.Name n p3) X.env) :: starEach [.Name (Str.ofString T) p2] X.env := by rfl) (hs2 : starEach [.Name (Str.ofString T) p2] X.env = (false, eval (.Name (Str.ofString T) p2) X.env) :: starEach [] X.env := by rfl)
    (hpl : (backTo pos (starEach [.Name (Str.ofString T) p2] X.env)).any (·.1) = false := by rfl) : Ev (X.suite a ((a, oe) :: pn)) (.Call (.Name "isinstance" p1) [.Name n p3, .Name (Str.ofString T) p2] [] pos) σ F H b := fun F1 H1 g Q q => by
  obtain ⟨e1, e2⟩ := r
  subst e1; subst e2
  exact GoE.of (pe_callB (X := X.suite a ((a, oe) :: pn)) (call_isE C hz hf) hg hm (by decide +kernel) (pa_cons (pe_var hi hv hdn hcd) (pa_cons (pe_bltn hgT hT hbT (v := .ty T) rfl hn hd) pa_nil hs2) hs) (by decide) (by decide) hs hpl)
    ⟨_, hσ, _, _, b, rfl, fun u z => z, hk, q _ F1 H1 (.refl g.fh) rfl⟩
def Rs.get {ε ρ : Type} : Rs ε ρ → Option ρ
  | .v r => some r
  | .x _ => none
/-- a def that may raise, where it does not -/
theorem ev_callV {τ ε ρ : Type} [Ra τ] [Xk ε] [Rp ρ] {f : τ → Option (Rs ε ρ)} {y : τ} {o : Rs ε ρ} {r : ρ} {k : Nat} {fa : Addr} {fd : FuncData} {ps : List Str} {x : Str} {p : Pos} (Fn : FnOk X.prog X.w X.K X.mg X.base (L2.CX X.prog X.w) k fa fd ps (PrE X.K f)) (hr : Room k X.A) (hm : X.mg x = some (.ref fa))
    (hk : PySem.W.keepIn X.K (.ref fa) = true) (hb : Binds X.K fd ps []) (ha : EvA X (e :: es) σ F H y) (h : f y = some o) (h2 : Rs.get o = some r) (hg : Gl X x := by rfl) (hdb : (x == ("__debug__" : Str)) = false := by decide)
    (he : starEach (e :: es) X.env = (false, eval e X.env) :: starEach es X.env := by rfl) (hpl : (backTo pos (starEach es X.env)).any (·.1) = false := by rfl) (tk : Takes X (fun _ _ _ _ => False) := by exact takes_none5) : Ev X (.Call (.Name x p) (e :: es) [] pos) σ F H r := by
  cases o with
  | v r' => cases h2; exact EvX.ok (ex_call tk Fn hr hm hk hb ha h hg hdb he hpl)
  | x e => cases h2
/-! ### the beginning -/
theorem xr0.up {cn : Str} {F' H' : Hp} {cls : Value} {dd : Option Addr} (h : xr0 cn K cls dd) (_ : Gr F H F' H') : xr0 cn K cls dd := h
def unT (H : Hp) : Hp := fun b => match H b with
  | some (.tbl _) => none
  | o => o
theorem unT_of {b : Addr} {o : HO} (h : H b = some o) (n : ntb o) : unT H b = some o := by
  unfold unT; rw [h]; cases o <;> first | rfl | exact n.elim
theorem unT_same : L2.Same (unT H) H := fun b o h => by
  unfold unT at h
  split at h
  · cases h
  · exact h
theorem unT_seq {a : Addr} {xs : List V} (h : SqL K H a xs) : SqL K (unT H) a xs := by
  rcases h with (h | ⟨o, h⟩) | h
  · exact .inl (.inl (unT_of h trivial))
  · exact .inl (.inr ⟨o, unT_of h trivial⟩)
  · exact .inr h
theorem sm_start (h : ∀ P ∈ tabsG K, H P = some (.tbl #[])) : SmX K (unT H) H := ⟨unT_same, ⟨fun P hP => ⟨⟨#[], h P hP, True.intro, fun pos cv hc => by
  have z : codeAmong pos [] = some cv := hc
  simp [codeAmong] at z⟩, by unfold unT; rw [h P hP]⟩⟩⟩
end
end Gx

/-! Go: values of any kind, as data. -/
namespace Gx
open PySem PySem.Spec PyProof.Rows L2
open Rp (rp)
open Ra (ra)
mutual
theorem Dp.sm {K : PySem.W.Frag} {F F' : Hp} (s : L2.Same F F') : ∀ (d : PyData) (v : V), Dp K F v d → Dp K F' v d
  | .none, _, h => by cases h; exact .non
  | .bool b, _, h => by cases h; exact .bl b
  | .int i, _, h => by cases h; exact .int i
  | .str x, _, h => by cases h; exact .str x
  | .list ds, _, h => by
    cases h with
    | lst q r => exact .lst (seqL_mono s q) (DpAll.sm s ds _ r)
  | .tuple ds, _, h => by
    cases h with
    | tup q r => exact .tup (sqT_mono s q) (DpAll.sm s ds _ r)
  | .dict kvs, _, h => by cases h
theorem DpAll.sm {K : PySem.W.Frag} {F F' : Hp} (s : L2.Same F F') : ∀ (ds : List PyData) (vs : List V), DpAll K F vs ds → DpAll K F' vs ds
  | [], _, h => by cases h; exact .nil
  | d :: ds, _, h => by
    cases h with
    | cons a b => exact .cons (Dp.sm s d _ a) (DpAll.sm s ds _ b)
end
/-- min and max of three -/
def min3I (i j k : Int) : Int := if k < (if j < i then j else i) then k else (if j < i then j else i)
theorem oc_min3 {K : PySem.W.Frag} {i j k : Int} : OpC K (rNuC3 nuMin3) (i, j, k, ()) (min3I i j k) := fun F H vs Q s r q => by
  obtain ⟨v, _, rfl, rv, w, _, rfl, rw', z, _, rfl, rz, rfl⟩ := r
  have rv : v = .int i := rv
  have rw' : w = .int j := rw'
  have rz : z = .int k := rz
  subst rv; subst rw'; subst rz
  refine ⟨_, _, _, .int (min3I i j k), rfl, ?_, q _ F H (.refl s) rfl⟩
  have e : ∀ a b : Int, nuLt (.int a) (.int b) = some (decide (a < b)) := fun _ _ => rfl
  unfold nuMin3 nuMin2 min3I
  by_cases h1 : j < i
  · by_cases h2 : k < j <;> simp [e, h1, h2]
  · by_cases h2 : k < i <;> simp [e, h1, h2]
/-! ### lists taken apart -/
def unlist5 {α : Type} : List α → Option (T5 α α α α α)
  | [x0, x1, x2, x3, x4] => some ⟨x0, x1, x2, x3, x4⟩
  | _ => none
theorem unl5 {K : PySem.W.Frag} {F : Hp} {v : V} {α : Type} [Rp α] {xs : List α} {t : T5 α α α α α} (h : unlist5 xs = some t) (r : rp K F v xs) : ∃ a vs, v = .ref a ∧ SqL K F a vs ∧ ra K F vs t.row := by
  obtain ⟨a, vs, e, q, rs⟩ := r
  match xs, h with
  | [x0, x1, x2, x3, x4], h =>
    cases h
    cases rs with
    | cons r0 rs =>
      cases rs with
      | cons r1 rs =>
        cases rs with
        | cons r2 rs =>
          cases rs with
          | cons r3 rs =>
            cases rs with
            | cons r4 rs =>
              cases rs; exact ⟨a, _, e, q, _, _, rfl, r0, _, _, rfl, r1, _, _, rfl, r2, _, _, rfl, r3, _, _, rfl, r4, rfl⟩
def unlist6 {α : Type} : List α → Option (T6 α α α α α α)
  | [x0, x1, x2, x3, x4, x5] => some ⟨x0, x1, x2, x3, x4, x5⟩
  | _ => none
theorem unl6 {K : PySem.W.Frag} {F : Hp} {v : V} {α : Type} [Rp α] {xs : List α} {t : T6 α α α α α α} (h : unlist6 xs = some t) (r : rp K F v xs) : ∃ a vs, v = .ref a ∧ SqL K F a vs ∧ ra K F vs t.row := by
  obtain ⟨a, vs, e, q, rs⟩ := r
  match xs, h with
  | [x0, x1, x2, x3, x4, x5], h =>
    cases h
    cases rs with
    | cons r0 rs =>
      cases rs with
      | cons r1 rs =>
        cases rs with
        | cons r2 rs =>
          cases rs with
          | cons r3 rs =>
            cases rs with
            | cons r4 rs =>
              cases rs with
              | cons r5 rs =>
                cases rs; exact ⟨a, _, e, q, _, _, rfl, r0, _, _, rfl, r1, _, _, rfl, r2, _, _, rfl, r3, _, _, rfl, r4, _, _, rfl, r5, rfl⟩
def unlist7 {α : Type} : List α → Option (T7 α α α α α α α)
  | [x0, x1, x2, x3, x4, x5, x6] => some ⟨x0, x1, x2, x3, x4, x5, x6⟩
  | _ => none
theorem unl7 {K : PySem.W.Frag} {F : Hp} {v : V} {α : Type} [Rp α] {xs : List α} {t : T7 α α α α α α α} (h : unlist7 xs = some t) (r : rp K F v xs) : ∃ a vs, v = .ref a ∧ SqL K F a vs ∧ ra K F vs t.row := by
  obtain ⟨a, vs, e, q, rs⟩ := r
  match xs, h with
  | [x0, x1, x2, x3, x4, x5, x6], h =>
    cases h
    cases rs with
    | cons r0 rs =>
      cases rs with
      | cons r1 rs =>
        cases rs with
        | cons r2 rs =>
          cases rs with
          | cons r3 rs =>
            cases rs with
            | cons r4 rs =>
              cases rs with
              | cons r5 rs =>
                cases rs with
                | cons r6 rs =>
                  cases rs; exact ⟨a, _, e, q, _, _, rfl, r0, _, _, rfl, r1, _, _, rfl, r2, _, _, rfl, r3, _, _, rfl, r4, _, _, rfl, r5, _, _, rfl, r6, rfl⟩
structure Dy where
  d : PyData
instance : Rp Dy := ⟨fun K F v x => Dp K F v x.d, fun s h => Dp.sm s _ _ h⟩
def kindD : PyData → String
  | .none => "NoneType"
  | .bool _ => "bool"
  | .int _ => "int"
  | .str _ => "str"
  | .list _ => "list"
  | .tuple _ => "tuple"
  | .dict _ => "dict"
theorem dp_kn {K : PySem.W.Frag} {H : Hp} {v : V} {d : PyData} (h : Dp K H v d) : Kn K H v (kindD d) := by
  cases h with
  | non => exact .non
  | bl b => exact .bl b
  | int i => exact .int i
  | str x => exact .str x
  | lst q _ => exact .lst q
  | tup q _ => exact .tup q
def Dy.tup : Dy → Option (Ct Dy)
  | ⟨.tuple ds⟩ => some ⟨ds.map Dy.mk⟩
  | _ => none
theorem DpAll.rps {K : PySem.W.Frag} {F : Hp} : ∀ {vs : List V} {ds : List PyData}, DpAll K F vs ds → Rps K F vs (ds.map Dy.mk)
  | _, _, .nil => .nil
  | _, _, .cons a b => .cons a (DpAll.rps b)
/-- x == y of things of any kind -/
def eqDy (x y : Dy) : Option Bool := if (SeqAt.shaped x.d && SeqAt.shaped y.d) = true then some (PyData.eqv x.d y.d) else none
theorem eqDy_of {x y : Dy} {r : Bool} (h : eqDy x y = some r) : SeqAt.shaped x.d = true ∧ SeqAt.shaped y.d = true ∧ PyData.eqv x.d y.d = r := by
  unfold eqDy at h; split at h
  · rename_i h1
    obtain ⟨h1, h2⟩ := Bool.and_eq_true_iff.mp h1
    exact ⟨h1, h2, Option.some.inj h⟩
  · cases h
theorem o2_eqDy {K : PySem.W.Frag} {x y : Dy} {r : Bool} (h : eqDy x y = some r) : Op2 K (rEqD K) x y r := fun F H v w Q s rv rw' k => by
  obtain ⟨h1, h2, h3⟩ := eqDy_of h
  exact ⟨_, _, Dp.sm s _ _ rv, Dp.sm s _ _ rw', h1, h2, k _ F H (.refl s) (congrArg V.bl h3)⟩
section
variable {X : Cx} {e a : Expr} {σ : L2.St} {F H : Hp} {pos : Pos}
/-- a thing of a known kind is one of any kind -/
theorem ev_dy {α : Type} [Rp α] [Pd α] {x : α} (h : Ev X e σ F H x) : Ev X e σ F H (Dy.mk (Pd.toD x)) := h.re fun _ _ r => Pd.dp r
theorem ev_dyTup {x : Dy} {t : Ct Dy} (h : Ev X e σ F H x) (ht : x.tup = some t) : Ev X e σ F H t := by
  obtain ⟨d⟩ := x
  cases d with
  | tuple ds =>
    cases ht
    refine h.re fun F v r => ?_
    have r : Dp X.K F v (.tuple ds) := r
    cases r with
    | tup q b => exact ⟨_, _, rfl, q, DpAll.rps b⟩
  | _ => cases ht
theorem ev_isDy {x : Dy} {T : String} {r : Bool} {p1 p2 : Pos} (h : kitB (kindD x.d) T = some r) (hm : X.mg "isinstance" = none) (hT : X.mg (Str.ofString T) = none) (hv : bootBuiltins (Str.ofString T) = some (.type T)) (ha : Ev X a σ F H x)
    (hg : Gl X "isinstance" := by rfl) (hgT : Gl X (Str.ofString T) := by rfl) (hn : (Str.ofString T) ≠ "__name__" := by decide) (hd : ((Str.ofString T) == ("__debug__" : Str)) = false := by decide)
    (hs : starEach [a, .Name (Str.ofString T) p2] X.env = (false, eval a X.env) :: starEach [.Name (Str.ofString T) p2] X.env := by rfl) (hs2 : starEach [.Name (Str.ofString T) p2] X.env = (false, eval (.Name (Str.ofString T) p2) X.env) :: starEach [] X.env := by rfl)
    (hpl : (backTo pos (starEach [.Name (Str.ofString T) p2] X.env)).any (·.1) = false := by rfl) : Ev X (.Call (.Name "isinstance" p1) [a, .Name (Str.ofString T) p2] [] pos) σ F H r := fun F1 H1 g Q q =>
  GoE.of (pe_callB call_isk hg hm (by decide +kernel) (pa_cons pe_go (pa_cons (pe_bltn hgT hT hv (v := .ty T) rfl hn hd) pa_nil hs2) hs) (by decide) (by decide) hs hpl)
    (ha F1 H1 g _ fun v F2 H2 g2 r2 => ⟨v, _, T, r, rfl, dp_kn (Dp.sm g2.fh _ _ r2), h, q _ F2 H2 g2 rfl⟩)
/-- isinstance(x, (int, str)) of what is no list and no tuple -/
def isIS : PyData → Option Bool
  | .none => some false
  | .bool _ => some true
  | .int _ => some true
  | .str _ => some true
  | _ => none
theorem ev_isDyIS {x : Dy} {r : Bool} {p1 p2 p3 : Pos} {kk : Nat} {tpos : Pos} (h : isIS x.d = some r) (hm : X.mg "isinstance" = none) (hI : X.mg "int" = none) (hS : X.mg "str" = none) (ha : Ev X a σ F H x)
    (hg : Gl X "isinstance" := by rfl) (hgI : Gl X "int" := by rfl) (hgS : Gl X "str" := by rfl)
    (hs : starEach [a, .Tuple [.Name "int" p2, .Name "str" p3] kk tpos] X.env = (false, eval a X.env) :: starEach [.Tuple [.Name "int" p2, .Name "str" p3] kk tpos] X.env := by rfl) (hs2 : starEach [.Tuple [.Name "int" p2, .Name "str" p3] kk tpos] X.env = (false, eval (.Tuple [.Name "int" p2, .Name "str" p3] kk tpos) X.env) :: starEach [] X.env := by rfl)
    (hs3 : starEach [.Name "int" p2, .Name "str" p3] X.env = (false, eval (.Name "int" p2) X.env) :: starEach [.Name "str" p3] X.env := by rfl) (hs4 : starEach [.Name "str" p3] X.env = (false, eval (.Name "str" p3) X.env) :: starEach [] X.env := by rfl)
    (hpl : (backTo pos (starEach [.Tuple [.Name "int" p2, .Name "str" p3] kk tpos] X.env)).any (·.1) = false := by rfl) : Ev X (.Call (.Name "isinstance" p1) [a, .Tuple [.Name "int" p2, .Name "str" p3] kk tpos] [] pos) σ F H r := fun F1 H1 g Q q =>
  GoE.of (pe_callB call_isiT hg hm (by decide +kernel) (pa_cons pe_go (pa_cons (pe_tup (pa_cons (pe_bltn hgI hI (by decide +kernel) (v := .ty "int") rfl (by decide) (by decide)) (pa_cons (pe_bltn hgS hS (by decide +kernel) (v := .ty "str") rfl (by decide) (by decide)) pa_nil hs4) hs3)) pa_nil hs2) hs) (by decide) (by decide) hs hpl)
    (ha F1 H1 g _ fun v F2 H2 g2 r2 => ⟨by show 2 ≤ sizeLine; decide, fun p hp => by
      have gr := g2.trans (Gr.new (o := .tup [.ty "int", .ty "str"]) g2.fh hp)
      have r2 : Dp X.K F2 v x.d := r2
      have fin : ∀ b : Bool, ∀ t : Value, TyX X.K (upd H2 p (.tup [.ty "int", .ty "str"])) v t → PySem.W.kitAny X.K t [.type "int", .type "str"] = some b → b = r → ∃ (x : V) (tp : Addr) (cs : List V) (t : Value) (us : List Value) (b : Bool), [v, .ref p] = [x, .ref tp] ∧ upd H2 p (.tup [.ty "int", .ty "str"]) tp = some (.tup cs) ∧ Paired ClsV cs us ∧ TyX X.K (upd H2 p (.tup [.ty "int", .ty "str"])) x t ∧ PySem.W.kitAny X.K t us = some b ∧ Q (.bl b) (upd H2 p (.tup [.ty "int", .ty "str"])) := fun b t ht hk hb => ⟨v, p, [.ty "int", .ty "str"], t, [.type "int", .type "str"], b, rfl, upd_same, .cons (.ty _) (.cons (.ty _) .nil), ht, hk, q _ _ _ gr (congrArg V.bl hb)⟩
      obtain ⟨d⟩ := x
      cases d with
      | none => cases h; cases r2; exact fin false _ (.base .non) rfl rfl
      | bool b => cases h; cases r2; exact fin true _ (.base (.bl _)) rfl rfl
      | int i => cases h; cases r2; exact fin true _ (.base (.int _)) rfl rfl
      | str z => cases h; cases r2; exact fin true _ (.base (.str _)) rfl rfl
      | list _ => cases h
      | tuple _ => cases h
      | dict _ => cases h⟩)
theorem ev_eqDy {b : Expr} {x y : Dy} {r : Bool} (ha : Ev X a σ F H x) (hb : Ev X b σ F H y) (h : eqDy x y = some r) (hu : X.A.units + 64 < cLine) : Ev X (.Compare a [.Eq] [b] pos) σ F H r := ev_cmp (op_eqD hu) (o2_eqDy h) ha hb (nomark _)
theorem et_eqDy {b : Expr} {x y : Dy} {r : Bool} (ha : Ev X a σ F H x) (hb : Ev X b σ F H y) (h : eqDy x y = some r) (hu : X.A.units + 64 < cLine) : EvT X (.Compare a [.Eq] [b] pos) σ F H r := et_cmp (op_eqD hu) (o2_eqDy h) ha hb (nomark _)
end
end Gx

/-! Gka: sorted(range(..), key=lambda v: xs[v]). -/
namespace Gx
open PySem PySem.Spec PyProof.Rows L2
open Rp (rp)
open Ra (ra)
open Ob (ob)
section
variable {prog : Program} {w : World} {A : Around} {E : Value → Shared → Prop} {s : Shared}
abbrev Kp (h h' : Heap) : Prop := ∀ b o, h.get? b = some o → h'.get? b = some o
theorem sorted_range {r : Addr} {b : Int} {t u v : Tok} {n : Nat} {kw : List (Str × Value)} {Q : Value → Shared → Prop} (hh : A.handled = none) (hr : IsRange s.heap r 0 b 1 t u v) (hsmall : Builtin.Range.small 0 b 1 = true) (hn : Builtin.Range.rangeSize 0 b 1 = n) (hlen : n ≤ 2 ^ 24)
    (ha1 : argsOk "sorted" ⟨[.ref r], kw⟩) (ha2 : ∀ x, argsOk "list.sort" ⟨[.ref x], kw⟩)
    (body : ∀ (E' : Value → Shared → Prop) (h' : Heap) (tk : Nat) (acc : Array Value), Kp s.heap h' → ItemsOf (fun i v => ∃ t, v = .int (0 + i * 1) t) acc n →
      wpAny (model prog w) A.in1.in1 (Builtin.«list.sort» ⟨[.ref h'.objs.size], kw⟩) (fun f s' => f = .done (.ret .none) ∧ Q (.ref h'.objs.size) s') E' { s with heap := h'.push (seqObj "list" acc 0), toks := tk }) :
    wpAny (model prog w) A (call (.builtin "sorted") [.ref r] kw) Q E s := by
  refine call_function_entry_kw kind_sorted plain_sorted entry_sorted ha1 ?_
  unfold Builtin.«sorted»
  refine wpAny_bind (m := checkCount "sorted" 1 1 _) (wpAny_pure ?_)
  refine wpAny_bind (L2.collect_range (A := A.in1) hh hr hsmall hn hlen fun h' tk acc hk hi => ?_)
  have hz : acc.toList.length ≤ sizeLine := by rw [Array.length_toList, hi.1, sizeLine_eq]; omega
  refine wpAny_bind (wpAny_newList ?_ hz)
  rw [Array.toArray_toList]
  refine wpAny_bind (wpAny_holding (wpAny_call_entry_kw slot_list_sort ⟨_, Heap.get?_push_size _ rfl, rfl⟩ entry_list_sort ?body (ha2 _)))
  case body =>
    refine wpAny_mono (body _ h' tk acc hk hi) (fun f s' hf => ?_) fun _ _ e => e
    obtain ⟨rfl, hq⟩ := hf
    exact ⟨_, rfl, wpAny_pure ⟨_, rfl, hq⟩⟩
/-- the order by the numbers that stand at the places -/
def byKey (ks : List Int) (i : Int) : PyData := .int (ks.getD i.toNat 0)
def byLe (ks : List Int) : Int → Int → Bool := PySem.W.dataLe false (byKey ks)
theorem sorted_range_key {r f : Addr} {b : Int} {t u v : Tok} {n : Nat} {ks : List Int} {Q : Value → Shared → Prop} (hh : A.handled = none) (hr : IsRange s.heap r 0 b 1 t u v) (hsmall : Builtin.Range.small 0 b 1 = true) (hn : Builtin.Range.rangeSize 0 b 1 = n) (hlen : n ≤ 2 ^ 24) (hu : A.units + 64 < cLine)
    (turn : ∀ (i : Nat) (t : Tok), i < n → ∀ (h : Heap) (tk : Nat), Kp s.heap h → wpAny (model prog w) A.in1.in1 (call (.ref f) [.int i t]) (PySem.W.KeyPure (.int (ks.getD i 0)) { s with heap := h, toks := tk }) (fun _ _ => False) { s with heap := h, toks := tk })
    (h : ∀ hm out c h' tk, Kp s.heap hm → Kp hm h' → h'.get? hm.objs.size = some (seqObj "list" (List.toArray out) c) → PySem.W.EachIs (fun v (x : Int) => ∃ t, v = .int x t) out ((intsF 0 n).mergeSort (byLe ks)) → Q (.ref hm.objs.size) { s with heap := h', toks := tk }) :
    wpAny (model prog w) A (call (.builtin "sorted") [.ref r] [(Str.ofString "key", .ref f)]) Q E s := by
  refine sorted_range hh hr hsmall hn hlen (ksk_s1 _ _) (fun _ => ksk_l1 _ _) fun E' h' tk acc hk hi => ?_
  rw [ksk_t1]
  have hlA : acc.toList.length = n := by rw [Array.length_toList]; exact hi.1
  have hlI : (intsF 0 n).length = n := by unfold intsF; rw [List.length_map, List.length_range]
  have up : ∀ {g : Heap}, PySem.W.KeepsBut h'.objs.size (h'.push (seqObj "list" acc.toList.toArray 0)) g → Kp h' g := fun kp b o q => kp b o (Nat.ne_of_lt (Heap.lt_size q)) (Heap.get?_push_of_some _ q)
  have e : PySem.W.EachIs (fun v (x : Int) => ∃ t, v = .int x t) acc.toList (intsF 0 n) := PySem.W.EachIs.of_zip (by rw [hlA, hlI]) fun p hp => by
    obtain ⟨j, hj⟩ := List.mem_iff_getElem?.mp hp
    rw [List.getElem?_zip_eq_some] at hj
    obtain ⟨h1, h2⟩ := hj
    obtain ⟨t, e1⟩ := hi.2 j p.1 (by rw [← Array.getElem?_toList]; exact h1)
    unfold intsF at h2
    rw [List.getElem?_map] at h2
    cases hq : (List.range n)[j]? with
    | none => rw [hq] at h2; cases h2
    | some k =>
      rw [hq] at h2
      obtain ⟨hk1, hk2⟩ := List.getElem?_eq_some_iff.mp hq
      rw [List.getElem_range] at hk2
      subst hk2
      have h2 : (0 : Int) + (j : Int) = p.2 := Option.some.inj h2
      exact ⟨t, by rw [e1, ← h2, Int.mul_one]⟩
  have eo : h'.push (seqObj "list" acc 0) = h'.push (seqObj "list" acc.toList.toArray 0) := by rw [Array.toArray_toList]
  rw [eo]
  refine PySem.W.keyH_tree (kz := (intsF 0 n).map (byKey ks)) (n := 0) (vs := acc.toList) (s := { s with heap := h'.push (seqObj "list" acc.toList.toArray 0), toks := tk }) (Heap.get?_push_size _ rfl) (by rw [List.length_map, hlA, hlI]) (by rw [hlA, sizeLine_eq]; omega)
    (PySem.W.AllAlike.of fun _ _ => rfl) (PySem.W.Sortable.others fun _ => ⟨(fun z => nomatch z), (fun xs z => nomatch z)⟩) (PySem.W.bound_map (A := A.in1.in1) fun x _ => ?_)
    (PySem.W.keyH_turns (s := { s with heap := h'.push (seqObj "list" acc.toList.toArray 0), toks := tk }) e fun v x hR hx h2 tk2 kp => ?_) fun h2 tk2 out c kp hD ko => ⟨rfl, ?_⟩
  · have hd : (byKey ks x).depth ≤ 1 := by unfold byKey; simp [PyData.depth]
    show A.units + 1 + 1 + _ < _
    omega
  · obtain ⟨t, rfl⟩ := hR
    have hx2 : 0 ≤ x ∧ x.toNat < n := by
      unfold intsF at hx
      obtain ⟨j, hj, rfl⟩ := List.mem_map.mp hx
      have := List.mem_range.mp hj
      omega
    have ex : x = (x.toNat : Int) := (Int.toNat_of_nonneg hx2.1).symm
    have q := turn x.toNat t hx2.2 h2 tk2 fun b o q => up kp b o (hk b o q)
    rw [← ex] at q
    exact q
  · exact h h' out c h2 tk2 hk (up kp) hD (PySem.W.keyedOut_each (byKey ks) ko e)
/-- a call of lambda v: xs[v] -/
theorem lam_at {f c' cc l : Addr} {pm ctv : Value} {qual vn on : Str} {params : Arguments} {scope : Scope} {cl : List (Str × Addr)} {its : Array Value} {i : Nat} {t t' : Tok} {k : Int} {p1 p2 p3 : Pos} (hroom : A.depth < recursionLimit)
    (ho : s.heap.get? f = some (PySem.W.kla_obj "<lambda>" qual params (.Subscript (.Name on p1) (.Name vn p2) p3) scope cl pm c' ctv)) (hcd : s.heap.CodeRec (.ref c') qual) (lim : s.heap.NoLimit)
    (hbind : ∀ u : Value, bindArgs (PySem.W.kla_fn "<lambda>" qual params (.Subscript (.Name on p1) (.Name vn p2) p3) scope cl pm (.ref c') ctv) ⟨[u], []⟩ = pure [(vn, u)])
    (hk : scope.kind = .function) (hco : scope.isCoroutine = false) (hgen : scope.isGenerator = false) (hcell : ∀ y ∈ scope.names, y.2 ≠ .cell) (hl : scope.names.lookup vn = some .local) (hof : scope.names.lookup on = some .free)
    (hc : cl.lookup on = some cc) (hC : s.heap.IsCell cc (some (.ref l))) (hL : s.heap.IsList l its) (hi : its[i]? = some (.int k t')) (hfit : (i : Int) < 2 ^ 63)
    (d1 : (vn == ("__debug__" : Str)) = false := by decide) (d2 : (on == ("__debug__" : Str)) = false := by decide) (d3 : (on == ("__classdict__" : Str)) = false := by decide) :
    wpAny (model prog w) A (call (.ref f) [.int i t]) (PySem.W.KeyPure (.int k) s) E s := by
  refine wpAny_call (codeAny_mono (R := fun r s' => ∃ u, r = .ok (.ret u) ∧ PySem.W.KeyPure (.int k) s u s') ?_ fun r s' ⟨u, e, q⟩ => by subst e; exact q)
  refine PySem.W.kla_callFunE hroom ho rfl hco hgen rfl hcd ?_
  rw [hbind]
  refine wpAny_pure (wpAny_newFunctionEnv hcell (fun y hy => ?_) (fun h₁ hns hsb => ⟨lim.fresh _ hsb, ?_⟩) hk)
  · obtain rfl : y = (vn, Value.int i t) := by simpa using hy
    exact hl
  have kp : Kp s.heap h₁ := fun b o e => hsb.extBut b o (Nat.ne_of_lt (Heap.lt_size e)) (Heap.get?_push_of_some _ e)
  show codeAny _ _ (.expr (.Subscript (.Name on p1) (.Name vn p2) p3) (PySem.W.envX qual scope s.heap.objs.size f (.ref c') cl)) _ _
  have cK : h₁.IsCell cc (some (.ref l)) := let ⟨o, a, b⟩ := hC; ⟨o, kp _ _ a, b⟩
  have lK : h₁.IsList l its := let ⟨o, a, b⟩ := hL; ⟨o, kp _ _ a, b⟩
  refine PySem.W.kla_codeExpr (Subscript_ (wpAny_Name (wpAny_loadName_free hk hof hc cK ?_ d3) d2))
  refine wpAny_Name (wpAny_loadName_local hk hl hns (v := .int i t) (by simp [List.lookup]) ?_) d1
  refine item_listR lK (Int.natCast_nonneg i) hfit (by rw [Int.toNat_natCast]; exact hi) ⟨_, rfl, h₁, _, rfl, kp, .int _ _⟩ rfl
end
end Gx
namespace Gx
open PySem PySem.Spec PyProof.Rows L2
open Rp (rp)
open Ra (ra)
open Ob (ob)
section
variable {X : Cx} {K : PySem.W.Frag} {e a b d : Expr} {es : List Expr} {σ : L2.St} {F H F0 H0 : Hp} {pos : Pos}
/-- a lambda is made; its object is known of the heap alone -/
theorem lamG {pins : List (Addr × Obj)} {s : Shared} {c P : Addr} {params : Arguments} {body : Expr} {scope : Scope} {lp : Pos} {E Q : Value → Shared → Prop} (I : Inv X pins σ H s) (TB : LamX.TabB X.base X.mg c P) (hcode : X.env.code = .ref c) (hT : GdT H P) (hq : nmG lp.line lp.col = X.env.qual ++ "<lambda>")
    (hfree : ∀ y ∈ scope.names, y.2 = .free → ∃ q, X.env.cells.lookup y.1 = some q) (hdef : defaultsOf params X.env = ([], []))
    (h : ∀ f c' pm ctv H1 s', Inv X pins σ H1 s' → Xt H H1 → (∀ b o, H b = some o → b ≠ P → H1 b = some o) → (∀ b o, b ≠ P → s.heap.get? b = some o → s'.heap.get? b = some o) → s'.heap.get? f = some (PySem.W.kla_obj "<lambda>" (X.env.qual ++ "<lambda>") params body scope (cloFrom X.env.cells scope.names []) pm c' ctv) →
      s'.heap.CodeRec (.ref c') (X.env.qual ++ "<lambda>") → Q (.ref f) s') :
    wpAny (model X.prog X.w) X.A (eval (.Lambda params body scope lp) X.env) Q E s := by
  have hG := hT
  obtain ⟨ps, tP, tri, all⟩ := hT
  refine PySem.W.kla_eval hdef ?_
  have g1 := I.mod.glob.keeps I.bk
  have cd := TB.code.keeps I.bk
  have bt : s.heap.BuiltinsAt X.mg P := TB.bm.keeps I.bk
  have oP : s.heap.get? P = some { cls := .none, data := .fields ps } := I.hok P _ tP
  cases among : codeAmong lp ps.toList with
  | some cv =>
    obtain ⟨c', rfl, cO⟩ := all lp cv among
    rw [hq] at cO
    refine PySem.W.kla_makeFunctionHit (mg := X.mg) (c := c) (P := P) (ps := ps) (closure_ok hfree) I.ok.glob g1 hcode cd oP tri among bt fun ctv h' tk hx hsz => ?_
    have hk : Kp s.heap (h'.push (PySem.W.kla_obj "<lambda>" (X.env.qual ++ "<lambda>") params body scope (cloFrom X.env.cells scope.names []) ((X.mg "__name__").getD .none) c' ctv)) := fun b o e => Heap.get?_push_of_some _ (hx b o e)
    obtain ⟨⟨oc, vs, t, hoc, hd, hv⟩, _⟩ := I.hok c' _ cO
    exact h _ c' _ ctv H _ (I.kept hk) (.refl _) (fun b o e _ => e) (fun b o _ e => hk b o e) (Heap.get?_push_size _ rfl) ⟨c', oc, vs, t, rfl, hk _ _ hoc, hd, hv⟩
  | none =>
    refine PySem.W.kla_makeFunction (mg := X.mg) (c := c) (P := P) (ps := ps) (closure_ok hfree) I.ok.glob g1 hcode cd oP tri among TB.gP bt fun c' ctv h' tk hx hge hlt hrec htb => ?_
    have hrec0 := hrec
    obtain ⟨c2, oc, vs, t, e2, hoc, hd, hv⟩ := hrec
    cases e2
    have nC : H c' = none := I.hok.fresh hge
    have I1 := LamX.inv_table (t' := tk) (more := #[rawInt lp.line, rawInt lp.col, .ref c']) (h' := h'.push (PySem.W.kla_obj "<lambda>" (X.env.qual ++ "<lambda>") params body scope (cloFrom X.env.cells scope.names []) ((X.mg "__name__").getD .none) c' ctv)) I tP
      (fun b o hb e => Heap.get?_push_of_some _ (hx b o hb e)) (Heap.get?_push_of_some _ htb) hge ⟨oc, vs, t, Heap.get?_push_of_some _ hoc, hd, hv⟩
    generalize hH1 : upd (upd H P (.tbl (ps ++ #[rawInt lp.line, rawInt lp.col, .ref c']))) c' (LamX.CodeO c' (X.env.qual ++ "<lambda>")) = H1 at I1
    have nPc : P ≠ c' := ne_of_none tP nC
    have kp : ∀ b o, H b = some o → b ≠ P → H1 b = some o := fun b o hb hP => by
      rw [← hH1, upd_ne (ne_of_none hb nC), upd_ne hP]; exact hb
    have cO : H1 c' = some (LamX.CodeO c' (X.env.qual ++ "<lambda>")) := by rw [← hH1, upd_same]
    have pO : H1 P = some (.tbl (ps ++ #[rawInt lp.line, rawInt lp.col, .ref c'])) := by rw [← hH1, upd_ne nPc, upd_same]
    have code : ∀ q nm, H q = some (LamX.CodeO q nm) → H1 q = some (LamX.CodeO q nm) := fun q nm hb => kp q _ hb fun z => by
      rw [z, tP] at hb; exact LamX.codeO_ne ps (Option.some.inj hb).symm
    have eL : (ps ++ #[rawInt lp.line, rawInt lp.col, .ref c']).toList = ps.toList ++ [rawInt lp.line, rawInt lp.col, .ref c'] := by simp
    refine h _ c' _ ctv H1 _ I1 ⟨fun b o hb n => kp b o hb fun z => ?_, fun b qs hb => ?_, fun P' hP' => ?_⟩ kp (fun b o hb e => Heap.get?_push_of_some _ (hx b o hb e)) (Heap.get?_push_size _ rfl) (hrec0.push _)
    · subst z; rw [tP] at hb; cases hb; exact n
    · by_cases z : b = P
      · subst z; exact ⟨_, pO⟩
      · exact ⟨qs, kp b _ hb z⟩
    · by_cases z : P' = P
      · subst z
        refine ⟨_, pO, by rw [eL]; exact PySem.TriplesOk_snoc _ _ _ _ tri, fun p' cv hcv => ?_⟩
        rw [eL] at hcv
        rcases NdefX.among_app2 _ tri hcv with y | ⟨y, y1, y2⟩
        · obtain ⟨q, e1, e2⟩ := all p' cv y
          exact ⟨q, e1, code _ _ e2⟩
        · refine ⟨c', y, ?_⟩
          rw [← y1, ← y2, hq]; exact cO
      · obtain ⟨qs, e1, e2, e3⟩ := hP'
        exact ⟨qs, kp _ _ e1 z, e2, fun p' cv hcv => let ⟨q, y1, y2⟩ := e3 p' cv hcv; ⟨q, y1, code _ _ y2⟩⟩
/-- the names of lambda v: xs[v] -/
structure LamN (sc scope : Scope) (on vn : Str) : Prop where
  kind : scope.kind = .function
  co : scope.isCoroutine = false
  gen : scope.isGenerator = false
  cell : ∀ y ∈ scope.names, y.2 ≠ .cell
  v : scope.names.lookup vn = some .local
  o : scope.names.lookup on = some .free
  fr : ∀ y ∈ scope.names, y.2 = .free → sc.names.lookup y.1 = some .cell ∨ sc.names.lookup y.1 = some .free
def lamNB (sc scope : Scope) (on vn : Str) : Bool :=
  decide (scope.kind = .function) && !scope.isCoroutine && !scope.isGenerator && scope.names.all (fun y => !decide (y.2 = .cell)) && decide (scope.names.lookup vn = some .local) && decide (scope.names.lookup on = some .free) && scope.names.all fun y => !decide (y.2 = .free) || decide (sc.names.lookup y.1 = some .cell) || decide (sc.names.lookup y.1 = some .free)
theorem lamN_by {sc scope : Scope} {on vn : Str} (h : lamNB sc scope on vn = true) : LamN sc scope on vn := by
  unfold lamNB at h
  simp only [Bool.and_eq_true, Bool.or_eq_true, Bool.not_eq_true', decide_eq_true_eq, decide_eq_false_iff_not, List.all_eq_true] at h
  obtain ⟨⟨⟨⟨⟨⟨h1, h2⟩, h3⟩, h4⟩, h5⟩, h6⟩, h7⟩ := h
  exact ⟨h1, h2, h3, h4, h5, h6, fun y hy e => by
    rcases h7 y hy with (z | z) | z
    · exact absurd e z
    · exact .inl z
    · exact .inr z⟩
/-- sorted(range(m), key=lambda v: ks[v]) -/
def srtG (ks : List Int) (m : Int) : Option (List Int) := if 0 ≤ m ∧ m ≤ 16777216 ∧ m ≤ ks.length then some ((intsF 0 m.toNat).mergeSort (byLe ks)) else none
theorem rps_intsV {xs : List Int} : Rps K F (xs.map V.int) xs := by
  induction xs with
  | nil => exact .nil
  | cons x r ih => exact .cons rfl ih
theorem vals_each {out : List Value} {xs : List Int} (h : PySem.W.EachIs (fun v (x : Int) => ∃ t, v = .int x t) out xs) : L2.Vals (xs.map V.int) out := by
  induction h with
  | nil => exact .nil
  | cons r _ ih => exact .cons r ih
theorem en_sortK {c P : Addr} {k : Nat} {on vn : Str} {params : Arguments} {scope : Scope} {v : V} {ks r : List Int} {m : Int} {p1 p2 p3 lp kp p p4 p5 : Pos} (i : Nat) (hr : Room k X.A) (TB : LamX.TabB X.base X.mg c P) (hcode : X.env.code = .ref c) (hP : P ∈ tabsG X.K) (hq : nmG lp.line lp.col = X.env.qual ++ "<lambda>") (hL : LamN X.env.scope scope on vn)
    (hns : X.mg "sorted" = none) (hnr : X.mg "range" = none) (hσ : σ[i]? = some (some v)) (hv : rp X.K F v ks) (ha : Ev X a σ F H m) (h : srtG ks m = some r)
    (hbind : ∀ (q : Str) (cl : List (Str × Addr)) (pm cv ctv u : Value), bindArgs (PySem.W.kla_fn "<lambda>" q params (.Subscript (.Name on p1) (.Name vn p2) p3) scope cl pm cv ctv) ⟨[u], []⟩ = pure [(vn, u)] := by exact fun _ _ _ _ _ _ => rfl)
    (hdef : defaultsOf params X.env = ([], []) := by rfl) (hN : X.N[i]? = some on := by rfl)
    (hcl : X.env.scope.names.lookup on = some .cell := by rfl)
    (hgs : Gl X "sorted" := by rfl) (hgr : Gl X "range" := by rfl) (d1 : (vn == ("__debug__" : Str)) = false := by decide) (d2 : (on == ("__debug__" : Str)) = false := by decide) (d3 : (on == ("__classdict__" : Str)) = false := by decide)
    (hs : starEach [a] X.env = (false, eval a X.env) :: starEach [] X.env := by rfl)
    (he : backTo pos (starEach [.Call (.Name "range" p4) [a] [] p5] X.env) = (false, eval (.Call (.Name "range" p4) [a] [] p5) X.env) :: backTo pos (starEach [] X.env) := by rfl) (hpl : (backTo pos (starEach [.Call (.Name "range" p4) [a] [] p5] X.env)).any (·.1) = false := by rfl) :
    EvN X (.Call (.Name "sorted" p) [.Call (.Name "range" p4) [a] [] p5] [⟨some (Str.ofString "key"), .Lambda params (.Subscript (.Name on p1) (.Name vn p2) p3) scope lp, kp⟩] pos) σ F H r := fun F1 H1 g Q q => .mk fun pins s I => by
  unfold srtG at h
  split at h
  case isFalse => cases h
  rename_i hm
  obtain ⟨m0, m1, m2⟩ := hm
  have h := (Option.some.inj h).symm
  have hok : RgOk 0 m := RgOk.of_le (Int.le_refl _) m1 (by omega) m0
  obtain ⟨b1, b2, b3, b4, b5⟩ := hok
  have ga := ha F1 H1 g (fun x H2 => x = .int m ∧ ∃ F2, Gr F1 H1 F2 H2) fun x F2 H2 g2 r2 => ⟨r2, F2, g2⟩
  refine wpAny_Call_Name_kw (ld_blt I hgs hns boot_sorted ?_)
  refine PyProof.Rows.callWith_kw (args_cons (thn (prg_1 hgr hnr pe_go hs pins s σ H1 (fun x y H2 => x = 0 ∧ y = m ∧ ∃ F2, Gr F1 H1 F2 H2) I (Bx.mk fun pins s I => thn (ga.o pins s I) fun v s' ⟨x, H2, I2, r2, e2, g2⟩ => ⟨x, H2, I2, r2, m, e2, rfl, rfl, g2⟩)) fun x s1 ⟨r1, a0, b0, t, u, v1, H2, ex, hR, I1, e1, e2, F2, g2⟩ => args_nil ?_) rfl) he hpl rfl rfl
  have e2 := e2.symm
  subst e1; subst e2; subst ex
  show wpAny _ _ (evalAll [(do let v ← eval (.Lambda params (.Subscript (.Name on p1) (.Name vn p2) p3) scope lp) X.env; standAt pos; pure v)]) _ _ s1
  have sm := (g.trans g2).sm
  have hfree : ∀ y ∈ scope.names, y.2 = .free → ∃ q, X.env.cells.lookup y.1 = some q := fun y hy e => I1.ok.has _ (hL.fr y hy e)
  refine wpAny_evalAll_cons (wpAny_bind (lamG I1 TB hcode (sm.h.t P hP).1 hq hfree hdef fun f c' pm ctv H3 s2 I2 xt kpH kpS fO cR => wpAny_bind (wpAny_standAt (wpAny_pure (wpAny_evalAll_nil ?_)))))
  show wpAny _ _ (call (.builtin "sorted") [.ref r1] [(Str.ofString "key", .ref f)]) _ _ s2
  obtain ⟨ps, tP, _⟩ := (sm.h.t P hP).1
  have nP : r1 ≠ P := fun z => by
    have oP : s1.heap.get? P = some { cls := .none, data := .fields ps } := I1.hok P _ tP
    rw [← z] at oP
    have := hR.symm.trans oP
    cases this
  have hR2 : IsRange s2.heap r1 0 m 1 t u v1 := kpS _ _ nP hR
  have fP := (sm.h.t P hP).2
  have g3 : Gr F2 H2 F2 H3 := ⟨.refl _, (fun b o e => kpH b o (g2.fh b o e) fun z => ne_of_none e fP z), xt, fun _ _ _ _ => rfl⟩
  have gg := (g.trans g2).trans g3
  have hv2 := Rp.mono gg.ff hv
  obtain ⟨l, vs, el, sq, rs⟩ := hv2
  have sq2 := gg.fh.seq sq
  obtain ⟨its, rv, pl, hz⟩ := I2.list sq2
  have ev := rps_ints rs
  subst ev
  obtain ⟨mm, hn, hl⟩ := I2.loc
  obtain ⟨u0, ru, lk⟩ := hl i on v hN hσ (.inr (.inl hcl))
  subst el
  obtain rfl : u0 = Value.ref l := ru
  obtain ⟨cc, hcc, hcell⟩ : ∃ cc, X.env.cells.lookup on = some cc ∧ s2.heap.IsCell cc (some (.ref l)) := by
    rcases lk with ⟨hk', _⟩ | ⟨_, c3, e', z⟩
    · have hk' : X.env.scope.names.lookup on = some .local := hk'
      rw [hcl] at hk'; cases hk'
    · exact ⟨c3, e', z⟩
  have hclo : (cloFrom X.env.cells scope.names []).lookup on = some cc := by
    obtain ⟨c2, h2⟩ := L2.mem_lookup (cloFrom_has (cells := X.env.cells) (acc := []) (PySem.mem_of_lookup hL.o))
    rcases cloFrom_mem (PySem.mem_of_lookup h2) with z | ⟨_, z⟩
    · cases z
    · rw [h2, z, hcc] <;> rfl
  have em : (m - 0).toNat = m.toNat := by rw [Int.sub_zero]
  refine sorted_range_key (ks := ks) (n := m.toNat) hr.hd hR2 (small_one b1 b2 b3 b4) ((rangeSize_nat 0 m).trans (by rw [em])) (by omega) hr.units (fun i' t' hi' hh tk hkp => ?_) fun hm out c2 h' tk k1 k2 hLO each => ?_
  · obtain ⟨w, hw, rw'⟩ := rv.get (i := i') (x := V.int (ks.getD i' 0)) (by
      rw [List.getElem?_map, List.getD_eq_getElem?_getD]
      have : i' < ks.length := by omega
      rw [List.getElem?_eq_getElem this] <;> rfl)
    obtain ⟨t2, rfl⟩ := rw'
    refine lam_at (s := { s2 with heap := hh, toks := tk }) (by have := hr.dp; show X.A.depth < _; omega) (hkp _ _ fO) (cR.keeps hkp) (I2.nolimit.keeps hkp) (fun u => hbind _ _ _ _ _ u) hL.kind hL.co hL.gen hL.cell hL.v hL.o hclo (let ⟨o, a, b⟩ := hcell; ⟨o, hkp _ _ a, b⟩)
      (let ⟨o, a, b⟩ := pl.isList; ⟨o, hkp _ _ a, b⟩) (by rw [List.getElem?_toArray]; exact hw) (by have := line63; omega) d1 d2 d3
  · rw [← h] at each
    have I3 : Inv X pins σ H3 { s2 with heap := hm, toks := tk } := I2.kept k1
    have hlen : (r.map V.int).length ≤ sizeLine := by
      rw [List.length_map, h, List.length_mergeSort, sizeLine_eq]
      unfold intsF
      rw [List.length_map, List.length_range]
      omega
    exact ⟨.ref hm.objs.size, upd H3 hm.objs.size (.lst (r.map V.int)), I3.laid (t' := tk) k2 (Nat.le_refl _) ⟨hlen, out, c2, vals_each each, hLO⟩, rfl, EvN.new q (g2.trans g3) (I3.hok.fresh (Nat.le_refl _)) rps_intsV⟩
end
end Gx
namespace Gx
open PySem PySem.Spec PyProof.Rows L2
open Rp (rp)
open Ra (ra)
open Ob (ob)
/-! ### sorted(xs), xs a list of triples of ints -/
def enc3 (x : T3 Int Int Int) : PyData := .tuple [.int x.a, .int x.b, .int x.c]
def srt3 (xs : List (T3 Int Int Int)) : List (T3 Int Int Int) := xs.mergeSort (PySem.W.dataLe false enc3)
def is3 (H : Hp) (v : V) (x : T3 Int Int Int) : Prop := ∃ p, v = .ref p ∧ H p = some (.tup [.int x.a, .int x.b, .int x.c])
def rSorted3 (K : PySem.W.Frag) : List V → Hp → VK → Prop := fun vs H Q => ∃ (F : Hp) (a : Addr) (xs : List V) (ns : List (T3 Int Int Int)), L2.Same F H ∧ vs = [V.ref a] ∧ SqL K H a xs ∧ Paired (is3 F) xs ns ∧ ∀ ys p, Paired (is3 F) ys (srt3 ns) → H p = none → Q (.ref p) (upd H p (.lst ys))
section
variable {X : Cx} {K : PySem.W.Frag} {e a b d : Expr} {es : List Expr} {σ : L2.St} {F H F0 H0 : Hp} {pos : Pos}
theorem paired_zip {α β : Type} {R : α → β → Prop} {xs : List α} {ys : List β} (h : Paired R xs ys) : ∀ p ∈ xs.zip ys, R p.1 p.2 := by
  induction h with
  | nil => intro p hp; cases hp
  | cons r _ ih =>
    intro p hp
    rcases List.mem_cons.mp hp with e | e
    · subst e; exact r
    · exact ih p e
theorem paired_of {α β γ : Type} {R : α → β → Prop} {f : γ → α} {g : γ → β} : ∀ {zs : List γ}, (∀ z ∈ zs, R (f z) (g z)) → Paired R (zs.map f) (zs.map g)
  | [], _ => .nil
  | z :: zs, h => .cons (h z List.mem_cons_self) (paired_of fun y m => h y (List.mem_cons_of_mem _ m))
theorem vals_fst {bs ms : List (V × T3 Int Int Int)} {out : List Value} (h : PySem.W.EachIs (fun (v : Value) (z : V × T3 Int Int Int) => RelV z.1 v ∧ z ∈ bs) out ms) : L2.Vals (ms.map (·.1)) out := by
  induction h with
  | nil => exact .nil
  | cons r _ ih => exact .cons r.1 ih
theorem cr_sorted3 (hu : X.A.units + 64 < cLine) : CallR X (.builtin "sorted") (rSorted3 X.K) := by
  intro pins s σ H vs us Q I r h
  obtain ⟨F, a, xs, ns, sF, rfl, hs, hx, q⟩ := h
  obtain ⟨its, rv, hl, hz⟩ := I.list hs
  obtain ⟨u, rfl, ru⟩ := vals1 r
  obtain rfl : u = Value.ref a := ru
  have hl1 : xs.length = ns.length := hx.length
  have hl2 := rv.length
  let bs : List (V × T3 Int Int Int) := xs.zip ns
  have lb : bs.length = ns.length := by show (xs.zip ns).length = _; rw [List.length_zip]; omega
  have hm : ∀ z ∈ bs, is3 F z.1 z.2 := paired_zip hx
  have b1 : bs.map (·.1) = xs := List.map_fst_zip (Nat.le_of_eq hl1)
  have b2 : bs.map (·.2) = ns := List.map_snd_zip (Nat.le_of_eq hl1.symm)
  have e : PySem.W.EachIs (fun (v : Value) (z : V × T3 Int Int Int) => RelV z.1 v ∧ z ∈ bs) its bs := PySem.W.EachIs.of_zip (by omega) fun p hp => by
    obtain ⟨j, hj⟩ := List.mem_iff_getElem?.mp hp
    rw [List.getElem?_zip_eq_some] at hj
    obtain ⟨h1, h2⟩ := hj
    have h3 : xs[j]? = some p.2.1 := by
      rw [← b1, List.getElem?_map, h2] <;> rfl
    obtain ⟨u, hu', rr⟩ := rv.get h3
    rw [h1] at hu'; cases hu'
    exact ⟨rr, List.mem_of_getElem? h2⟩
  have er : PySem.W.EachIs (fun (v : Value) (z : V × T3 Int Int Int) => ∃ as, Reads s.heap v (enc3 z.2) as) its bs := e.mono fun v z ⟨rr, m⟩ => by
    obtain ⟨p, e1, hp⟩ := hm z m
    rw [e1] at rr
    obtain rfl : v = Value.ref p := rr
    obtain ⟨us, ru, ⟨o, ho, hc, n, hd⟩, _⟩ := I.tuple (.inl (.inl (sF _ _ hp)))
    cases ru with
    | cons r1 ru => cases ru with
      | cons r2 ru => cases ru with
        | cons r3 ru =>
          cases ru
          obtain ⟨t1, rfl⟩ := r1
          obtain ⟨t2, rfl⟩ := r2
          obtain ⟨t3, rfl⟩ := r3
          exact ⟨_, .tuple ho hc hd (.cons (.int _ _) (.cons (.int _ _) (.cons (.int _ _) .nil)))⟩
  refine PySem.W.sorted_data (enc := fun z : V × T3 Int Int Int => enc3 z.2) hl.isList e er (PySem.W.AllAlike.of fun _ _ => rfl) (PySem.W.Sortable.tuples fun z => ⟨_, _, rfl⟩) (by omega) (fun z _ => ?_) fun out ho each => ?_
  · have hd : (enc3 z.2).depth ≤ 2 := by unfold enc3; simp [PyData.depth, PyData.depthAll]
    omega
  · obtain ⟨ep, he'⟩ := PyProof.Rows.sortedAll_at s.heap its out.toArray
    have hp := List.mergeSort_perm bs (PySem.W.dataLe false fun z : V × T3 Int Int Int => enc3 z.2)
    have e2 : (bs.mergeSort (PySem.W.dataLe false fun z : V × T3 Int Int Int => enc3 z.2)).map (·.2) = srt3 ns := by
      have e3 : (bs.mergeSort (PySem.W.dataLe false fun z : V × T3 Int Int Int => enc3 z.2)).map (fun z => z.2) = (bs.map (fun z => z.2)).mergeSort (PySem.W.dataLe false enc3) := List.map_mergeSort fun a _ b _ => rfl
      exact e3.trans (by rw [b2]; rfl)
    generalize bs.mergeSort (PySem.W.dataLe false fun z : V × T3 Int Int Int => enc3 z.2) = ms at each hp e2
    have rel : L2.Vals (ms.map (·.1)) out := vals_fst each
    have hlen : (ms.map (·.1)).length ≤ sizeLine := by
      rw [List.length_map, hp.length_eq, lb]; omega
    exact ⟨.ref _, upd H (s.heap.objs.size + 1) (.lst (ms.map (·.1))), I.laid (t' := s.toks) (fun _ _ => PyProof.Rows.sortedAll_old) (Nat.le_succ _) ⟨hlen, out, ep, rel, he'⟩, rfl, q _ _ (by
      rw [← e2]; exact paired_of fun z m => hm z (hp.mem_iff.mp m)) (I.hok.fresh (Nat.le_succ _))⟩
theorem rps_is3 {vs : List V} {xs : List (T3 Int Int Int)} (s : L2.Same F H) (h : Rps K F vs xs) : Paired (is3 H) vs xs := by
  induction h with
  | nil => exact .nil
  | cons r _ ih =>
    obtain ⟨p, ws, e, hp, w1, r1, e1, q1, w2, r2, e2, q2, w3, r3, e3, q3, e4⟩ := Tup.eq.mp r
    subst e1; subst e2; subst e3; subst e4
    have q1 : w1 = .int _ := q1
    have q2 : w2 = .int _ := q2
    have q3 : w3 = .int _ := q3
    subst q1; subst q2; subst q3
    exact .cons ⟨p, e, s _ _ hp⟩ ih
theorem is3_rps {vs : List V} {xs : List (T3 Int Int Int)} (h : Paired (is3 F) vs xs) : Rps K F vs xs := by
  induction h with
  | nil => exact .nil
  | cons r _ ih =>
    obtain ⟨p, e, hp⟩ := r
    exact .cons ⟨p, _, e, hp, ⟨_, _, rfl, rfl, _, _, rfl, rfl, _, _, rfl, rfl, rfl⟩⟩ ih
theorem en_sort3 {xs : List (T3 Int Int Int)} {p : Pos} (hu : X.A.units + 64 < cLine) (hm : X.mg "sorted" = none) (ha : Ev X a σ F H xs) (hg : Gl X "sorted" := by rfl) (hs : starEach [a] X.env = (false, eval a X.env) :: starEach [] X.env := by rfl) :
    EvN X (.Call (.Name "sorted" p) [a] [] pos) σ F H (srt3 xs) := fun F1 H1 g Q q =>
  GoE.of (pe_callB (cr_sorted3 hu) hg hm boot_sorted (pa_cons pe_go pa_nil hs) (by decide) (by decide) hs rfl) (ha F1 H1 g _ fun v F2 H2 g2 ⟨l, vs, e, sq, rs⟩ => ⟨F2, l, vs, xs, g2.fh, by rw [e], g2.fh.seq sq, rps_is3 (.refl _) rs, fun ys p hy hp => EvN.new q g2 hp (is3_rps hy)⟩)
end
end Gx

/-! Gkb: caught exceptions with fields, and handed on. -/
namespace Gx
open PySem PySem.Spec PySem.Calls PyProof.Rows L2
section
variable {prog : Program} {w : World} {A : Around} {E : Value → Shared → Prop} {s : Shared} {K : PySem.W.Frag} {x D : Addr} {ox : Obj} {od : Option Obj}
theorem class_ofE {Q : Option Value → Shared → Prop} (C : ExcC K D) (X : K.In s.heap) (I : PySem.W.InstAt s.heap x ox D od) (h : Q (some (.ref D)) { s with toks := s.toks + 1 }) : wpAny (model prog w) A (getAttr? (.ref x) "__class__") Q E s := by
  have hf : PySem.W.findObj K D od "__class__" = some (.bind (.builtin "getset_descriptor.__get__") (.builtin "object.__class__")) := by
    obtain ⟨cd, hc, _⟩ := PySem.W.any_some C.hd
    unfold PySem.W.findObj
    rw [hc, Option.bind_some, C.ha, Option.bind_some]
    simp [C.hn, C.ht]
  have sub : PySem.W.Looks (model prog w) s.heap (isInstance (.ref x) (.type "BaseException")) true := (I.type (M := model prog w)).andThen (PySem.W.looks_subIn X C.hs)
  have dk := PySem.F.excAttr_ValueError.ga.bind (.ref x)
  unfold getAttr? getAttrBy? getAttrBy
  wp_walk using (I.type (M := model prog w)).at, (PySem.W.looks_findIn (M := model prog w) X C.hg).at
  refine (PySem.W.looks_findIn (M := model prog w) (h := s.heap) X C.hk).at ?_
  unfold callGetattribute
  rw [show (false && onTheHeap (Value.builtin "BaseException.__getattribute__")) = false from rfl, if_neg Bool.false_ne_true]
  unfold boundAndCalled
  rw [dk]
  wp_walk
  have ga := PySem.F.excAttr_ValueError.ga
  show codeAny _ _ (.call (.builtin "BaseException.__getattribute__") ⟨[.ref x, .str "__class__" s.toks], []⟩) _ _
  have pl := ga.plain
  clear dk ga
  refine codeAny_call_builtin pl PySem.F.entry_bexc_ga ?_
  obtain ⟨hp, g, dr, tk, os⟩ := s
  have c1 : builtinKind "BaseException.__getattribute__" = some .slot := by decide +kernel
  have c2 : splitId "BaseException.__getattribute__" = some ("BaseException", "__getattribute__") := by decide +kernel
  have c3 := PySem.F.args_bexc_ga (.ref x) (.str "__class__" tk)
  refine PySem.W.check_slot (M := model prog w) (A := A.in1) (s := ⟨hp, g, dr, tk + 1, os⟩) (i := "BaseException.__getattribute__") (self := .ref x) (rest := [.str "__class__" tk]) (kw := []) c1 c2 sub c3 ?_
  unfold Builtin.«object.__getattribute__»
  have sl : slotArgs "__getattribute__" 1 ⟨[.ref x, .str "__class__" tk], []⟩ = pure ((.ref x : Value), [Value.str "__class__" tk]) := by
    simp only [slotArgs]; rfl
  refine wpAny_bind (wpAny_of_eq sl ?_)
  have nm : Builtin.ObjectAttr.attrName (.str "__class__" tk) = pure "__class__" := rfl
  refine wpAny_bind (wpAny_of_eq nm ?_)
  refine wpAny_bind ((I.type (M := model prog w)).at (wpAny_bind ((PySem.W.looks_find (M := model prog w) X I hf).at ?_)))
  dsimp only
  show wpAny _ _ (holding [Value.builtin "object.__class__"] (call (.builtin "getset_descriptor.__get__") [.builtin "object.__class__", .ref x, .ref D]) >>= ret) _ _ _
  refine wpAny_bind (wpAny_holding (wpAny_call (PySem.W.class_get X I C.hm ?_)))
  refine wpAny_pure ?_
  show wpAny _ _ (handedOut (.ref D)) _ _ _
  rw [PySem.W.handedOut_of (v := .ref D) rfl]
  exact wpAny_pure (wpAny_pure h)
/-- instances of own exception classes, with a dict or without -/
theorem kitxE (C : ExcC K D) : PySem.W.KitX K (.ref x) (.ref D) (fun h => PySem.W.InstAt h x ox D od) where
  ty := fun _ _ _ I => I.type
  it := fun M h X _ A Q E s k q => PySem.W.mc_isType (s := s) (X.keeps k) C.hd A Q E s (fun _ _ z => z) q
  ne := fun h tp dd its n sl X htp => (PySem.W.handS_kitx_exc (x := x) (ox := ox) C.hg C.hk C.hs C.hd C.ha C.hn C.ht C.hm).ne h tp dd its n sl X htp
  ca := fun X I k => class_ofE C X I k
end
end Gx
namespace Gx
open PySem PySem.Spec PySem.Calls PyProof.Rows L2
open Rp (rp)
open Ra (ra)
open Ob (ob)
/-! ### an exception that was caught, as a thing -/
structure Exv where
  a : Addr
  oe : Obj
  cn : Str
  dd : Option Addr
structure OneE (x : Exv) : Type where
/-- what was caught -/
structure ExG (K : PySem.W.Frag) (x : Exv) : Prop where
  z : Zc (.ref (He.ga K x.cn)) x.dd x.oe
  f : ∃ vs, x.oe.data = .fields vs
def ExD (x : Exv) (H : Hp) : Prop := x.dd = none ∨ ∃ d fs, x.dd = some d ∧ H d = some (.xd fs)
/-- a name holds it -/
structure ExF (x : Exv) (K : PySem.W.Frag) (H : Hp) (v : V) : Prop where
  r : v = .ref x.a
  g : ExG K x
  d : ExD x H
section
variable {x : Exv} {X : Cx} {K : PySem.W.Frag} {e a b c d : Expr} {es : List Expr} {σ : L2.St} {F H F0 H0 : Hp} {pos : Pos}
instance : Rp (OneE x) := ⟨fun K F v _ => v = .ref x.a, fun s h => h⟩
instance : NN (OneE x) := ⟨fun h => nomatch h⟩
/-- it stands at each state -/
def ExA (X : Cx) (x : Exv) : Prop := ∀ pins σ H s, Inv X pins σ H s → s.heap.get? x.a = some x.oe ∧ H x.a = none ∧ x.a ∉ frs X.stack
theorem ExD.up {F' H' : Hp} (h : ExD x H) (g : Gr F H F' H') : ExD x H' := h.imp id fun ⟨d, fs, e, hd⟩ => ⟨d, fs, e, g.hh.k _ _ hd trivial⟩
theorem ExF.up {v : V} {F' H' : Hp} (h : ExF x K H v) (g : Gr F H F' H') : ExF x K H' v := ⟨h.r, h.g, h.d.up g⟩
theorem exA_of (h : (x.a, x.oe) ∈ X.pn) : ExA X x := fun pins σ H s I => by
  obtain ⟨h1, h2, h3, h4, h5⟩ := I.pin (x.a, x.oe) (List.mem_append_left _ h)
  exact ⟨h1, h2, fun z => (List.mem_cons.mp (I.stkSub x.a z)).elim h3 h4⟩
theorem exA_suite {oe : Obj} {pn : List (Addr × Obj)} {q : Addr} {cn : Str} {dd : Option Addr} : ExA (X.suite q ((q, oe) :: pn)) ⟨q, oe, cn, dd⟩ := exA_of List.mem_cons_self
theorem pin_of {pins : List (Addr × Obj)} {s : Shared} (h : (x.a, x.oe) ∈ X.pn) (I : Inv X pins σ H s) : L2H.PinOk X.stack H s (x.a, x.oe) := by
  obtain ⟨h1, h2, h3, h4, h5⟩ := I.pin (x.a, x.oe) (List.mem_append_left _ h)
  exact ⟨h1, h2, fun z => (List.mem_cons.mp (I.stkSub x.a z)).elim h3 h4, h5⟩
/-- a def to which the caught exception is handed, within the suite -/
structure FnOkE (x : Exv) (P : Program) (w : World) (K : PySem.W.Frag) (mg : Str → Option Value) (base : Heap) (CX : CXT) (k : Nat) (f : Addr) (fd : FuncData) (ps : List Str) (sp : Sp) : Prop where
  len : ∀ vs H Q E, sp vs H Q E → vs.length = ps.length
  run : ∀ (A : Around) (outer : List Env) (s : Shared) (H : Hp) (args : Args) (us : List Value) (vs : List V) (Q : VK) (E : XK), L2H.RoomH k A → L2H.PinOk outer H s (x.a, x.oe) → ExG K x → ExD x H → Env0 P w K mg base A outer s H → BindsTo s fd args (ps.zip us) → Vals vs us →
    sp vs H Q E → codeAny (model P w) A (.call (.ref f) args) (CR CX outer P w H s Q E) s
theorem fn_okE {P : Program} {w : World} {mg : Str → Option Value} {base : Heap} {τ ρ : Type} [Ra τ] [RaN τ] [Rp ρ] {f : τ → Option ρ} {nm qual : Str} {s0 : Stmt} {pp : Str × Option Str} {fd : FuncData} {N ps : List Str} {k : Nat} (Fn : FunD K nm qual (defArgs s0) (defBody s0) (defScope s0) [] [] (He.fAd K pp) fd) (S : FnScope N ps (defScope s0)) (hn : RaN.n τ = ps.length)
    (hbody : ∀ (cdv : Value) (A : Around) (outer : List Env) (s : Shared) (F H : Hp) (vs : List V) (a : τ) (r : ρ) (D : Ends) (E : XK), L2H.RoomH k (A.deeper (envOfC qual (defScope s0) s.heap.objs.size (He.fAd K pp) cdv)) → ExG K x → ExD x H → SmX K F H → ra K F vs a → f a = some r →
      (∀ F' H' u, GrX K F H F' H' → rp K F' u r → D.rt u H') → (∀ σ' F' H', GrX K F H F' H' → rp K F' .non r → D.nx σ' H') → GoS (L2H.cxH CX0 P w K mg base N qual (defScope s0) (He.fAd K pp) cdv A outer s H E (x.a, x.oe)).nox (defBody s0) D (start N vs) H) :
    FnOkE x P w K mg base CX0 (k + 1) (He.fAd K pp) fd ps (Pr K f) := by
  obtain ⟨oc, od, dV, kV, doc, pm, an, cdv, ct, osl, rfl, lk, hcd, _, _⟩ := Fn.ex
  have len : ∀ vs H Q E, Pr K f vs H Q E → vs.length = ps.length := fun vs H Q E ⟨F, a, r, _, ra', _⟩ => by rw [RaN.len ra', hn]
  refine ⟨len, fun A outer s H args us vs Q E hr pin hg hd env0 bnd rv hsp => ?_⟩
  have keep0 : ∀ q o, base.get? q = some o → s.heap.get? q = some o := fun q o h => (env0.bs q o h).1
  have inK := env0.mod.kin.keeps keep0
  have noLim : s.heap.NoLimit := env0.mod.nolimit.keeps keep0
  have kinds : ∀ y ∈ ps.zip us, (defScope s0).names.lookup y.1 = some .local ∨ ((defScope s0).names.lookup y.1 = some .cell ∧ ((cellsFrom (s.heap.objs.size + 1) (defScope s0).names []).lookup y.1).isSome = true) := by
    rintro ⟨n, v⟩ hy
    exact (S.par n (List.of_mem_zip hy).1).imp id fun q => ⟨q, PySem.W.cellsFrom_some _ _ _ (.inl q)⟩
  refine codeAny_call_function hr.depth (inK _ _ lk) rfl S.co S.gen rfl (PySem.W.codeRec_of inK hcd) (bnd _ _ _ _ (wpAny_newFunctionEnv_cells S.kind kinds fun env1 he1 s1 made => ?_))
  subst he1
  refine ⟨noLim.keeps made.toInCall.keep, codeAny_func ?_⟩
  have I := L2H.inv_startH (CX := CX0) (E := E) (f := He.fAd K pp) (cd := cdv) (qual := qual) S pin env0 (len _ _ _ _ hsp) rv made
  obtain ⟨F, a, r, sm, ra', hf, k'⟩ := hsp
  have body := (hbody cdv A outer s F H vs a r { nx := fun _ H' => Q .non H', rt := Q } E (hr.deeper _) hg hd sm ra' hf (fun F' H' u g q => k' F' H' u g.toGr q) fun σ' F' H' g q => k' F' H' .non g.toGr q).nox.o [] s1 I
  refine wpAny_mono body (fun fl s2 h2 => ?_) fun _ _ h2 => h2
  match fl, h2 with
  | .ret _, ⟨v1, σ1, H1, J, r1, q1⟩ => exact ⟨v1, H1, J.os, J.bare, J.base, J.hok, r1, q1⟩
  | .next, ⟨σ1, H1, J, q1⟩ => exact ⟨.non, H1, J.os, J.bare, J.base, J.hok, rfl, q1⟩
  | .brk, ⟨_, _, _, q1⟩ => exact q1.elim
  | .cont, ⟨_, _, _, q1⟩ => exact q1.elim
/-- isinstance(e, c) -/
def rIsX (K : PySem.W.Frag) (x : Exv) : List V → Hp → VK → Prop := fun xs H Q => ∃ (c : V) (cv : Value) (b : Bool), xs = [.ref x.a, c] ∧ (∀ u, RelV c u → u = cv) ∧ PySem.W.kitOne K (.ref (He.ga K x.cn)) cv = some b ∧ ExD x H ∧ Q (.bl b) H
theorem call_isX (C : ExcC X.K (He.ga X.K x.cn)) (hA : ExA X x) (hg : ExG X.K x) : CallR X (.builtin "isinstance") (rIsX X.K x) := by
  intro pins s σ H xs us Q I r h
  obtain ⟨c, cv, b, rfl, hcv, e, hd, q⟩ := h
  cases r with
  | cons rx rr =>
    cases rr with
    | cons rt rr =>
      cases rr
      cases rx
      have ec := hcv _ rt
      subst ec
      obtain ⟨hget, _⟩ := hA pins σ H s I
      obtain ⟨vs, hv⟩ := hg.f
      obtain ⟨od, J⟩ : ∃ od, PySem.W.InstAt s.heap x.a x.oe (He.ga X.K x.cn) od := by
        have no : PySem.W.notCls x.oe = true := by unfold PySem.W.notCls; rw [hv] <;> rfl
        rcases hd with e0 | ⟨d, fs, e0, hH⟩
        · exact ⟨none, hget, hg.z.1, no, by rw [hg.z.2, e0]; trivial⟩
        · have hx : ObjOk X.prog X.w H s.heap d (.xd fs) := I.hok d _ hH
          obtain ⟨mA, hns, hr⟩ := hx
          obtain ⟨od, ho, hl⟩ := lookIn_ns hns
          exact ⟨some od, hget, hg.z.1, no, by rw [hg.z.2, e0]; exact ho⟩
      exact PySem.W.kia_one (kitxE C) I.kIn J e (fun z => nomatch z) fun tk => ⟨.bl b, H, I.kept (t' := tk) fun _ _ z => z, rfl, q⟩
theorem ev_isX {v : V} {dn n : Str} {b : Bool} {p1 p2 p3 : Pos} (i : Nat) (C : ExcC X.K (He.ga X.K x.cn)) (hA : ExA X x) (hf : ExF x X.K H v) (hk : PySem.W.kitOne X.K (.ref (He.ga X.K x.cn)) (.ref (He.ga X.K dn)) = some b) (hσ : σ[i]? = some (some v)) (hm : X.mg "isinstance" = none) (hD : X.mg dn = some (.ref (He.ga X.K dn)))
    (hi : X.N[i]? = some n := by rfl) (hv : Vis X.env.scope n := by first | exact Or.inl rfl | exact Or.inr (Or.inl rfl) | exact Or.inr (Or.inr rfl)) (hdn : (n == ("__debug__" : Str)) = false := by decide) (hcd : (n == ("__classdict__" : Str)) = false := by decide)
    (hg : Gl X "isinstance" := by rfl) (hgD : Gl X dn := by rfl) (hd : (dn == ("__debug__" : Str)) = false := by decide)
    (hs : starEach [.Name n p3, .Name dn p2] X.env = (false, eval (.Name n p3) X.env) :: starEach [.Name dn p2] X.env := by rfl) (hs2 : starEach [.Name dn p2] X.env = (false, eval (.Name dn p2) X.env) :: starEach [] X.env := by rfl)
    (hpl : (backTo pos (starEach [.Name dn p2] X.env)).any (·.1) = false := by rfl) : Ev X (.Call (.Name "isinstance" p1) [.Name n p3, .Name dn p2] [] pos) σ F H b := fun F1 H1 g Q q => by
  have hf1 := hf.up g.toGr
  have e := hf1.r
  subst e
  exact GoE.of (pe_callB (call_isX C hA hf1.g) hg hm (by decide +kernel) (pa_cons (pe_var hi hv hdn hcd) (pa_cons (pe_glob (v := .ref (He.ga X.K dn)) hgD hD rfl hd) pa_nil hs2) hs) (by decide) (by decide) hs hpl)
    ⟨_, hσ, _, _, b, rfl, fun u z => z, hk, hf1.d, q _ F1 H1 (.refl g.fh) rfl⟩
theorem ev_isXB {v : V} {n : Str} {b : Bool} {T : String} {p1 p2 p3 : Pos} (i : Nat) (C : ExcC X.K (He.ga X.K x.cn)) (hA : ExA X x) (hf : ExF x X.K H v) (hk : PySem.W.kitOne X.K (.ref (He.ga X.K x.cn)) (.type T) = some b) (hσ : σ[i]? = some (some v)) (hm : X.mg "isinstance" = none) (hT : X.mg (Str.ofString T) = none) (hbT : bootBuiltins (Str.ofString T) = some (.type T))
    (hi : X.N[i]? = some n := by rfl) (hv : Vis X.env.scope n := by first | exact Or.inl rfl | exact Or.inr (Or.inl rfl) | exact Or.inr (Or.inr rfl)) (hdn : (n == ("__debug__" : Str)) = false := by decide) (hcd : (n == ("__classdict__" : Str)) = false := by decide)
    (hg : Gl X "isinstance" := by rfl) (hgT : Gl X (Str.ofString T) := by rfl) (hn : (Str.ofString T) ≠ "__name__" := by decide) (hd : ((Str.ofString T) == ("__debug__" : Str)) = false := by decide)
    (hs : starEach [.Name n p3, .Name (Str.ofString T) p2] X.env = (false, eval (.Name n p3) X.env) :: starEach [.Name (Str.ofString T) p2] X.env := by rfl) (hs2 : starEach [.Name (Str.ofString T) p2] X.env = (false, eval (.Name (Str.ofString T) p2) X.env) :: starEach [] X.env := by rfl)
    (hpl : (backTo pos (starEach [.Name (Str.ofString T) p2] X.env)).any (·.1) = false := by rfl) : Ev X (.Call (.Name "isinstance" p1) [.Name n p3, .Name (Str.ofString T) p2] [] pos) σ F H b := fun F1 H1 g Q q => by
  have hf1 := hf.up g.toGr
  have e := hf1.r
  subst e
  exact GoE.of (pe_callB (call_isX C hA hf1.g) hg hm (by decide +kernel) (pa_cons (pe_var hi hv hdn hcd) (pa_cons (pe_bltn hgT hT hbT (v := .ty T) rfl hn hd) pa_nil hs2) hs) (by decide) (by decide) hs hpl)
    ⟨_, hσ, _, _, b, rfl, fun u z => z, hk, hf1.d, q _ F1 H1 (.refl g.fh) rfl⟩
/-- is an exception of the class c one of .. -/
def isaG (kn subs : List Str) (c : Str) : Option Bool := if c ∈ kn then some (decide (c ∈ subs)) else none
theorem isaG_kit {kn subs : List Str} {c : Str} {b : Bool} {cv : Value} (h : isaG kn subs c = some b) (hk : ∀ c ∈ kn, PySem.W.kitOne K (.ref (He.ga K c)) cv = some (decide (c ∈ subs))) : PySem.W.kitOne K (.ref (He.ga K c)) cv = some b := by
  unfold isaG at h
  split at h
  · rename_i m
    rw [hk c m, h]
  · cases h
theorem isaG_exc {kn subs : List Str} {c : Str} {b : Bool} (h : isaG kn subs c = some b) (hC : ∀ c ∈ kn, ExcC K (He.ga K c)) : ExcC K (He.ga K c) := by
  unfold isaG at h
  split at h
  · rename_i m; exact hC c m
  · cases h
/-- f(.., it, ..) -/
theorem ev_callE {τ ρ : Type} [Ra τ] [Rp ρ] {f : τ → Option ρ} {y : τ} {r : ρ} {k : Nat} {fa : Addr} {fd : FuncData} {ps : List Str} {nm : Str} {p : Pos} {v : V} (Fn : FnOkE x X.prog X.w X.K X.mg X.base CX0 k fa fd ps (Pr X.K f)) (hr : L2H.RoomH k X.A) (hm : X.mg nm = some (.ref fa))
    (hk : PySem.W.keepIn X.K (.ref fa) = true) (hb : Binds X.K fd ps []) (hv : ExF x X.K H v) (hp : (x.a, x.oe) ∈ X.pn) (ha : EvA X (e :: es) σ F H y) (h : f y = some r) (hg : Gl X nm := by rfl) (hdb : (nm == ("__debug__" : Str)) = false := by decide)
    (he : starEach (e :: es) X.env = (false, eval e X.env) :: starEach es X.env := by rfl) (hpl : (backTo pos (starEach es X.env)).any (·.1) = false := by rfl) : Ev X (.Call (.Name nm p) (e :: es) [] pos) σ F H r := fun F1 H1 g Q q => .mk fun pins s I => by
  have ga := ha F1 H1 g (fun vs H2 => Pr X.K f vs H2 Q (fun _ _ _ => False) ∧ ExD x H2) fun vs F2 H2 g2 r2 => ⟨⟨F2, y, r, (g.trans g2).sm, r2, h, fun F3 H3 u g3 r3 => q u F3 H3 (g2.trans g3) r3⟩, (hv.up (g.trans g2).toGr).d⟩
  refine wpAny_Call_Name_kw (ld_glob I hg hm ?_ hdb)
  refine PySem.W.callWith_K (h₀ := X.base) I.ok.mod.kin hk (thn (ga.o pos pins s I) fun us s1 ⟨vs, H1, I1, r1, q1, q2⟩ => ?_) he hpl
  refine ⟨I1.kIn, ?_⟩
  have hl : us.length = ps.length := r1.length.symm.trans (Fn.len _ _ _ _ q1)
  have bnd := hb s1 us I1.kIn (by rw [List.append_nil]; exact hl)
  rw [List.append_nil] at bnd
  refine wpAny_call (codeAny_mono (Fn.run X.A X.stack s1 H1 ⟨us, []⟩ us vs Q (fun _ _ _ => False) hr (pin_of hp I1) hv.g q2 I1.env0 bnd r1 q1) fun o s2 ho => ?_)
  cases o with
  | error _ => exact ho.elim
  | ok fl => cases fl <;> first | exact False.elim ho | exact I1.after ho
/-- the caught one of a class, with one field or none -/
theorem exF_1 {q : Addr} {oe : Obj} {cn fn : Str} {α : Type} [Rp α] {y : α} {cls : Value} {dd : Option Addr} (r : xr1 cn fn K F H cls dd y) (hz : Zc cls dd oe) (hf : ∃ vs, oe.data = .fields vs) : ExF ⟨q, oe, cn, dd⟩ K H (.ref q) := by
  obtain ⟨e, d, v, e2, h3, _⟩ := r
  subst e
  exact ⟨rfl, ⟨hz, hf⟩, .inr ⟨d, _, e2, h3⟩⟩
theorem exF_0 {q : Addr} {oe : Obj} {cn : Str} {cls : Value} {dd : Option Addr} (r : xr0 cn K cls dd) (hz : Zc cls dd oe) (hf : ∃ vs, oe.data = .fields vs) : ExF ⟨q, oe, cn, dd⟩ K H (.ref q) := by
  obtain ⟨e, e2⟩ := r
  subst e
  exact ⟨rfl, ⟨hz, hf⟩, .inl e2⟩
end
end Gx

/-! Gkc: several except clauses, exceptions without texts, exceptions held. -/
namespace Gx
open PySem PySem.Spec PyProof.Rows L2
open Rp (rp)
open Ra (ra)
open Ob (ob)
section
variable {X : Cx} {K : PySem.W.Frag} {e a b c d : Expr} {es : List Expr} {σ : L2.St} {F H F0 H0 : Hp} {pos : Pos} {D : Ends} {st : Stmt} {rest body : List Stmt} {W : WX}
theorem pmk_own0 {C : Addr} {bmB : List Value} {B newId initId : String} {x : Str} {p : Pos} (F : ExcBaseFacts B newId initId bmB) (q : PySem.W.excIn X.K C bmB newId = true) (gC : X.mg x = some (.ref C)) (kC : PySem.W.keepIn X.K (.ref C) = true) (r : Raises X (.ref C)) (hg : Gl X x) (hdb : (x == ("__debug__" : Str)) = false := by decide) :
    PMk X (.Call (.Name x p) [] [] pos) (fun σ H Q => Q (.ref C) none H) := by
  intro pins s σ H Q I h
  refine wpAny_Call_Name_kw (ld_glob I hg gC ?_ hdb)
  refine PySem.W.callWith_K0 I.kIn kC ?_
  show wpAny _ _ (call (.ref C) []) _ _ _
  obtain ⟨bm, N, nm, qn, bs, hdct, sn, sub, ab, col, dd, k0, k1, k2, k3, k5, mN, hC, hN, hni, T⟩ := exc_obj I.kIn q
  refine wpAny_call_exc_subT F T hC hN hni (fun h' e hm => ?_) (by show 0 ≤ sizeLine; exact Nat.zero_le _)
  exact mk_of I hm r h (I.hok.gone hm.new)
theorem go_raise00 {cn : Str} {p pos2 : Pos} (s : SmX X.K F H) (tk : Takes X W) (N1 : XnF X.K cn) (hm : X.mg cn = some (.ref (He.ga X.K cn))) (k : W (.ref (He.ga X.K cn)) none σ H) (hg : Gl X cn := by rfl) (hdb : (cn == ("__debug__" : Str)) = false := by decide) (hc : X.calm = true := by rfl) :
    GoS X (.Raise (some (.Call (.Name cn p) [] [] pos)) none pos2 :: rest) D σ H :=
  GoS.cons (ps_raise hc tk (pmk_own0 PySem.F.excBase_ValueError N1.1 hm N1.2.1 (raises_own N1.2.2.1 N1.2.2.2) hg hdb)) k
/-! ### several clauses -/
def hdT (X : Cx) (b : List Stmt) : Addr → Value → Option Addr → TS := fun a cls d D σ H => ∀ oe pn, Zc cls d oe → (∃ vs, oe.data = .fields vs) → GoS (X.suite a ((a, oe) :: pn)) b D σ H
theorem hd_nil : HdsOk X [] [] := .nil
theorem hd_cons {x : Str} {c : Value} {b₀ : Stmt} {suite : List Stmt} {np pos' : Pos} {hds : List ExceptHandler} {l : List (Value × (Addr → Value → Option Addr → TS))} (hc : Names X x c) (r : HdsOk X hds l) :
    HdsOk X (.ExceptHandler (some (.Name x np)) none (b₀ :: suite) pos' :: hds) ((c, hdT X (b₀ :: suite)) :: l) :=
  .cons hc (fun a oe cls d pn z1 z2 => ⟨fun pins s σ H D I h => (h oe pn z1 z2).o pins s I⟩) r
theorem go_tryM {h₀ : ExceptHandler} {hds : List ExceptHandler} {l : List (Value × (Addr → Value → Option Addr → TS))} (hh : HdsOk X (h₀ :: hds) l)
    (h : ∀ pn xe (W : WX), Takes (X.tr pn xe) W → PassesOwn (model X.prog X.w) X.A X.env xe → (∀ cls dd σ' H', wMany X.K (fun _ _ _ _ => False) { D with nx := GoS X rest D } l cls dd σ' H' → W cls dd σ' H') →
      GoS (X.tr pn xe) body { D with nx := GoS X rest D } σ H)
    (hs : X.stack = X.env :: X.outer := by rfl) (hf : X.env.frame = some X.env.locals := by rfl) (tk : Takes X (fun _ _ _ _ => False) := by exact takes_none5) : GoS X (.Try body (h₀ :: hds) [] [] pos :: rest) D σ H :=
  GoS.cons (ps_try_many (tb := fun W D σ H => ∀ pn xe, Takes (X.tr pn xe) W → PassesOwn (model X.prog X.w) X.A X.env xe → GoS (X.tr pn xe) body D σ H) (Wout := fun _ _ _ _ => False) hs hf tk
    (fun W pn xe t1 t2 => ⟨fun pins s σ H D I h => (h pn xe t1 t2).o pins s I⟩) hh) fun pn xe t1 t2 => h pn xe _ t1 t2 fun _ _ _ _ z => z
theorem wm_no {Wout : WX} {c cls : Value} {ts : Addr → Value → Option Addr → TS} {r : List (Value × (Addr → Value → Option Addr → TS))} {dd : Option Addr} (h : PySem.W.exmOne K cls c = some false) (k : wMany K Wout D r cls dd σ H) : wMany K Wout D ((c, ts) :: r) cls dd σ H :=
  ⟨false, h, (fun z => nomatch z), fun _ => k⟩
theorem wm_yes {Wout : WX} {c cls : Value} {r : List (Value × (Addr → Value → Option Addr → TS))} {dd : Option Addr} {b : List Stmt} (h : PySem.W.exmOne X.K cls c = some true) (k : ∀ a, H a = none → ∀ oe pn, Zc cls dd oe → (∃ vs, oe.data = .fields vs) → GoS (X.suite a ((a, oe) :: pn)) b D σ H) : wMany X.K Wout D ((c, hdT X b) :: r) cls dd σ H :=
  ⟨true, h, (fun _ a ha => k a ha), fun z => nomatch z⟩
theorem xm_ofb {cls c c2 : Value} {b : Bool} (e : cls = c) (h : PySem.W.exmOne K c c2 = some b) : PySem.W.exmOne K cls c2 = some b := e ▸ h
/-! ### an exception that is held -/
structure Xq (cn fn : Str) (α : Type) where
  v : α
instance {cn fn : Str} {α : Type} [Rp α] : Rp (Xq cn fn α) := ⟨fun K F v x => ∃ q d w, v = .ref q ∧ F q = some (exo q (He.ga K cn) (some d)) ∧ F d = some (exd d [(fn, w)]) ∧ rp K F w x.v, fun s ⟨q, d, w, e, h1, h2, r⟩ => ⟨q, d, w, e, s _ _ h1, s _ _ h2, Rp.mono s r⟩⟩
theorem ev_mkX {α : Type} [Rp α] {x : α} {cn fn : Str} {p : Pos} {k : Nat} {fd : FuncData} {ps : List Str} (X1 : XoF X.K cn fn) (hm : X.mg cn = some (.ref (He.ga X.K cn))) (Fn : FnOk X.prog X.w X.K X.mg X.base CX0 k (He.ma X.K (He.ga X.K cn) "__init__") fd ps (PrXI X.K (He.ga X.K cn) fn)) (hr : Room (k + 1) X.A) (hb : Binds X.K fd ps [])
    (he : Ev X e σ F H x) (hg : Gl X cn := by rfl) (hdb : (cn == ("__debug__" : Str)) = false := by decide) (hs : starEach [e] X.env = (false, eval e X.env) :: starEach [] X.env := by rfl) (hpl : (backTo pos (starEach [] X.env)).any (·.1) = false := by rfl) :
    Ev X (.Call (.Name cn p) [e] [] pos) σ F H (Xq.mk x : Xq cn fn α) := fun F1 H1 g Q q => .mk fun pins s I => by
  obtain ⟨nm, qn, N, bs, bm, sn, sub, ab, col, dd, k0, k1, k2, k3, k5, hC, hbm⟩ := X1.T.cls
  have ga := he F1 H1 g (fun w H2 => ∃ F2, Gr F1 H1 F2 H2 ∧ rp X.K F2 w x) fun w F2 H2 g2 r2 => ⟨F2, g2, r2⟩
  refine wpAny_Call_Name_kw (ld_glob I hg hm ?_ hdb)
  refine PySem.W.callWith_K (h₀ := X.base) I.ok.mod.kin X1.T.kC (one_arg (pe_go (X := X)) I ga (fun v1 s1 w H2 I1 rw1 hP => ⟨I1.kIn, ?_⟩) hs) hs hpl
  show wpAny _ _ (call (.ref (He.ga X.K cn)) [v1]) _ _ _
  obtain ⟨F2, g2, r2⟩ := hP
  obtain ⟨hp, gg, dr, tk, os⟩ := s1
  generalize hCa : He.ga X.K cn = C at *
  have hsz : hp.objs.size ≤ hp.objs.size + 1 := Nat.le_succ _
  have hn : H2 (hp.objs.size + 1) = none := I1.hok.fresh hsz
  have kk : Kp hp ((hp.push (PySem.W.kdv_tup [v1])).push (PySem.HandSPX.excO C hp.objs.size)) := fun b o e => Heap.get?_push_of_some _ (Heap.get?_push_of_some _ e)
  have hget : ((hp.push (PySem.W.kdv_tup [v1])).push (PySem.HandSPX.excO C hp.objs.size)).get? (hp.objs.size + 1) = some (PySem.HandSPX.excO C hp.objs.size) := by heap_get
  have I2 : Inv X pins σ (upd H2 (hp.objs.size + 1) (exo (hp.objs.size + 1) C none)) ⟨(hp.push (PySem.W.kdv_tup [v1])).push (PySem.HandSPX.excO C hp.objs.size), gg, dr, tk, os⟩ := I1.laid (t' := tk) kk hsz (exo_ok hget)
  have spec : PrXI X.K C fn [.ref (hp.objs.size + 1), w] (upd H2 (hp.objs.size + 1) (exo (hp.objs.size + 1) C none)) (fun u H3 => u = .non ∧ Q (.ref (hp.objs.size + 1)) H3) (fun _ _ _ => False) := ⟨hp.objs.size + 1, w, rfl, upd_same, fun d hd hda => by
    rw [upd_ne hda] at hd
    have e1 : upd (upd (upd H2 (hp.objs.size + 1) (exo (hp.objs.size + 1) C none)) d (exd d [(fn, w)])) (hp.objs.size + 1) (exo (hp.objs.size + 1) C (some d)) = upd (upd H2 d (exd d [(fn, w)])) (hp.objs.size + 1) (exo (hp.objs.size + 1) C (some d)) := by
      funext b
      by_cases h1 : b = hp.objs.size + 1
      · subst h1; rw [upd_same, upd_same]
      · rw [upd_ne h1, upd_ne h1]
        by_cases h2 : b = d
        · subst h2; rw [upd_same, upd_same]
        · rw [upd_ne h2, upd_ne h2, upd_ne h1]
    rw [e1]
    have g3 : Gr F2 H2 (upd F2 d (exd d [(fn, w)])) (upd H2 d (exd d [(fn, w)])) := Gr.new g2.fh hd
    have hn2 : (upd H2 d (exd d [(fn, w)])) (hp.objs.size + 1) = none := by rw [upd_ne (fun z => hda z.symm)]; exact hn
    have g4 : Gr (upd F2 d (exd d [(fn, w)])) (upd H2 d (exd d [(fn, w)])) (upd (upd F2 d (exd d [(fn, w)])) (hp.objs.size + 1) (exo (hp.objs.size + 1) C (some d))) (upd (upd H2 d (exd d [(fn, w)])) (hp.objs.size + 1) (exo (hp.objs.size + 1) C (some d))) := Gr.new g3.fh hn2
    refine ⟨rfl, ?_⟩
    exact q _ _ _ ((g2.trans g3).trans g4) ⟨hp.objs.size + 1, d, w, rfl, by rw [upd_same, hCa], by rw [upd_ne hda, upd_same], Rp.mono (g3.ff.trans g4.ff) r2⟩⟩
  have iC : PySem.W.findIn X.K (.ref C) "__init__" = some (some (.ref (He.ma X.K C "__init__"))) := hCa ▸ X1.iC
  have tI : PySem.W.typeIn X.K (.ref (He.ma X.K C "__init__")) = some (.type "function") := hCa ▸ X1.tI
  have hl : (Value.ref (hp.objs.size + 1) :: [v1] ++ []).length = ps.length := by
    have e := Fn.len _ _ _ _ spec
    rw [← e]; rfl
  refine wpAny_call (PySem.HandSPX.call_own PySem.F.excBase_ValueError (fun Y => PySem.HandSPX.refsVE_contains Y bm hbm) (I1.kIn _ _ hC) (PySem.W.looks_findIn I1.kIn iC) (fun self => PySem.W.bind_fn I1.kIn self tI) (by show 1 ≤ sizeLine; decide)
    (codeAny_mono (Fn.run _ X.stack _ _ ⟨Value.ref (hp.objs.size + 1) :: [v1], []⟩ (Value.ref (hp.objs.size + 1) :: [v1] ++ []) [.ref (hp.objs.size + 1), w] _ (fun _ _ _ => False) (hr.make C [v1] []) (I2.env0.make C [v1] []) (hb _ (Value.ref (hp.objs.size + 1) :: [v1]) I2.kIn hl) (.cons rfl (.cons rw1 .nil)) spec) fun r s' hq' => ?_))
  cases r with
  | error er => exact hq'.elim
  | ok fl =>
    cases fl with
    | ret u =>
      obtain ⟨v, H3, I3, rv, ev, q3⟩ := I2.after hq'
      subst ev
      exact ⟨rv, .ref (hp.objs.size + 1), H3, ⟨I3.ok, I3.os, I3.bare, I3.base, I3.loc, I3.cell, I3.free, I3.freeC, I3.pin, I3.hok, I3.len⟩, rfl, q3⟩
    | next => exact False.elim hq'
    | brk => exact False.elim hq'
    | cont => exact False.elim hq'
theorem ev_xq {α : Type} [Rp α] {y : α} {cn fn : Str} {x : Xq cn fn α} (X1 : XoF X.K cn fn) (he : Ev X e σ F H x) (hy : x.v = y) (hb : attributeBase e fn X.env (eval e X.env) = eval e X.env := by rfl) : Ev X (.Attribute e fn pos) σ F H y := fun F1 H1 g Q q => .mk fun pins s I => by
  refine attr_of hb (thn ((he F1 H1 g (fun w H2 => ∃ F2, Gr F1 H1 F2 H2 ∧ rp X.K F2 w x) fun w F2 H2 g2 r2 => ⟨F2, g2, r2⟩).o pins s I) fun u s1 hh => ?_)
  obtain ⟨w, H2, I1, rx, F2, g2, a, d, z, e1, h1, h2, r⟩ := hh
  subst e1
  obtain rfl : u = Value.ref a := rx
  have ha : ObjOk X.prog X.w H2 s1.heap a (exo a (He.ga X.K cn) (some d)) := I1.hok a _ (g2.fh _ _ h1)
  have hd : ObjOk X.prog X.w H2 s1.heap d (exd d [(fn, z)]) := I1.hok d _ (g2.fh _ _ h2)
  obtain ⟨⟨t1, hget⟩, _⟩ := ha
  obtain ⟨⟨mA, hns, hr⟩, _⟩ := hd
  obtain ⟨od, ho, hl⟩ := lookIn_ns hns
  obtain ⟨v, hv, rv⟩ := RelO.some_of (v := z) (o := mA fn) (by have := hr fn; simpa [List.lookup] using this)
  have J : PySem.W.InstAt s1.heap a _ (He.ga X.K cn) (some od) := ⟨hget, rfl, rfl, ho⟩
  exact HandSPX.exc_get I1.kIn J X1.xf.ga X1.xf.gg X1.xf.exC (PySem.W.findObj_own X1.xf.hdC X1.no rfl (by rw [hl, hv])) (handed_of rv) ⟨z, H2, I1.tok _, rv, q z F2 H2 g2 (hy ▸ r)⟩
end
end Gx

/-! Gkd: a record whose last field holds a private list. -/
namespace Gx
open PySem PySem.Spec PyProof.Rows L2
open Rp (rp)
open Ra (ra)
open Ob (ob)
/-- v is the record of the class cn with the fields n1 (x) and n2 (what is at l) -/
def CR {α : Type} [Rp α] (cn n1 n2 : Str) (K : PySem.W.Frag) (F : Hp) (v : V) (l : Addr) (x : α) : Prop := ∃ a dx w, v = .ref a ∧ F a = some (.ins (He.ga K cn) dx (List.zip [n1, n2] [w, .ref l])) ∧ rp K F w x
theorem CR.mono {α : Type} [Rp α] {cn n1 n2 : Str} {K : PySem.W.Frag} {F F' : Hp} {v : V} {l : Addr} {x : α} (h : CR cn n1 n2 K F v l x) (s : L2.Same F F') : CR cn n1 n2 K F' v l x := by
  obtain ⟨a, dx, w, e, t, r⟩ := h
  exact ⟨a, dx, w, e, s _ _ t, Rp.mono s r⟩
theorem CR.rp {α γ : Type} [Rp α] [Rp γ] {cn n1 n2 : Str} {K : PySem.W.Frag} {F : Hp} {v : V} {l : Addr} {x : α} {y : γ} (h : CR cn n1 n2 K F v l x) (r : Rp.rp K F (.ref l) y) : rpI cn [n1, n2] K F v ((x, y, ()) : α × γ × Unit) := by
  obtain ⟨a, dx, w, e, t, rw'⟩ := h
  exact ⟨a, dx, [w, .ref l], e, t, w, _, rfl, rw', .ref l, _, rfl, r, rfl⟩
section
variable {X : Cx} {K : PySem.W.Frag} {e a b c d : Expr} {es : List Expr} {σ : L2.St} {F H F0 H0 : Hp} {pos : Pos} {D : Ends} {st : Stmt} {rest body : List Stmt} {α γ : Type} [Rp α] [Rp γ] {x : α} {ys : List γ} {cn n1 n2 : Str}
/-- e gives a new record with a new list -/
def EvRN (cn n1 n2 : Str) (X : Cx) (e : Expr) (σ : L2.St) (F H : Hp) (x : α) (ys : List γ) : Prop := ∀ F1 H1, GrX X.K F H F1 H1 → ∀ Q : VK, (∀ u l o F2 H2, Gr F1 H1 F2 H2 → H1 l = none → F2 l = none → H2 l = some o → ob X.K F2 o ys → CR cn n1 n2 X.K F2 u l x → Q u H2) → GoE X e σ H1 Q
/-- the promise of an __init__ whose last field is a new list -/
def PrIN (n1 n2 : Str) (K : PySem.W.Frag) (C : Addr) {τ : Type} [Ra τ] (f : τ → Option (T2 α (List γ))) : Sp := fun vs H Q _ => ∃ F x dx args a r, vs = .ref x :: args ∧ SmX K F H ∧ F x = none ∧ H x = some (.ins C dx []) ∧ ra K F args a ∧ f a = some r ∧
  ∀ F' H' w l o, Gr F (er H x) F' H' → F' x = none → H' x = some (.ins C dx (List.zip [n1, n2] [w, .ref l])) → rp K F' w r.a → er H x l = none → F' l = none → H' l = some o → ob K F' o r.b → Q .non H'
theorem go_fldN {x : Addr} {C dx : Addr} {names : List Str} {vs : List V} {fn n : Str} {p1 p2 : Pos} (i : Nat) (s : SmX X.K F H) (fx : F x = none) (hx : H x = some (.ins C dx (names.zip vs))) (hl : names.length = vs.length) (hn : names.length < 1000) (hf : fn ∉ names) (c : Cls X.K C) (na : NoAttr X.K C fn)
    (hσ : σ[i]? = some (some (.ref x))) (he : EvN X e σ F H ys) (k : ∀ l o F' H', Gr F H F' H' → H l = none → F' l = none → H' l = some o → ob X.K F' o ys → F' x = none → H' x = some (.ins C dx (names.zip vs)) → GoS X rest D σ (upd H' x (.ins C dx ((names ++ [fn]).zip (vs ++ [.ref l]))))) (hN : X.N[i]? = some n := by rfl) (hv : Vis X.env.scope n := by first | exact Or.inl rfl | exact Or.inr (Or.inl rfl) | exact Or.inr (Or.inr rfl))
    (hd : (n == ("__debug__" : Str)) = false := by decide) (hcd : (n == ("__classdict__" : Str)) = false := by decide) (hs : swapsWith e (some (.Attribute (.Name n p1) fn p2)) pos.line X.env = pure false := by rfl) : GoS X (.Assign [.Attribute (.Name n p1) fn p2] e pos :: rest) D σ H :=
  GoS.cons (ps_fld (pe_var hN hv hd hcd) pe_go hs) (he F H (.refl s) _ fun l o F2 H2 g2 n2 f2 h2 r2 => by
    have hx2 := g2.hh.k _ _ hx trivial
    refine ⟨_, hσ, x, C, dx, _, rfl, hx2, c, na, ?_, ?_⟩
    · rw [List.length_zip]; omega
    · rw [putF_new (by rw [zip_names hl]; exact hf), zip_snoc hl]
      exact k l o F2 H2 g2 n2 f2 h2 r2 ((g2.fr x _ hx trivial).trans fx) hx2)
theorem fn_initN {P : Program} {w : World} {mg : Str → Option Value} {base : Heap} {τ : Type} [Ra τ] [RaN τ] {f : τ → Option (T2 α (List γ))} {C : Addr} {x qual : Str} {s0 : Stmt} {fa : Addr} {fd : FuncData} {N ps : List Str} {k : Nat} (Fn : FunD K x qual (defArgs s0) (defBody s0) (defScope s0) [] [] fa fd) (S : FnScope N ps (defScope s0)) (hn : RaN.n τ + 1 = ps.length)
    (hbody : ∀ (cdv : Value) (A : Around) (outer : List Env) (s : Shared) (F H : Hp) (y dx : Addr) (vs : List V) (a : τ) (r : T2 α (List γ)) (D : Ends) (E : XK), Room k (A.deeper (envOfC qual (defScope s0) s.heap.objs.size fa cdv)) → GrX K F (er H y) F H → F y = none → H y = some (.ins C dx []) → ra K F vs a → f a = some r →
      (∀ σ' F' H' w l o, GrX K F (er H y) F' H' → F' y = none → H' y = some (.ins C dx (List.zip [n1, n2] [w, .ref l])) → rp K F' w r.a → er H y l = none → F' l = none → H' l = some o → ob K F' o r.b → D.nx σ' H') → GoS (cxOf CX0 P w K mg base N qual (defScope s0) fa cdv A outer s H E).nox (defBody s0) D (start N (.ref y :: vs)) H) :
    FnOk P w K mg base CX0 (k + 1) fa fd ps (PrIN n1 n2 K C f) := by
  refine Fn.ok S (fun vs H Q E ⟨F, y, dx, args, a, r, e, _, _, _, ra', _⟩ => by rw [e, List.length_cons, RaN.len ra', hn]) fun cdv A outer s H vs Q E hr ⟨F, y, dx, args, a, r, e, sm, fy, hy, ra', hf, k⟩ => ?_
  subst e
  exact ⟨_, PSs.nox pss_go, hbody cdv A outer s F H y dx args a r { nx := fun _ H' => Q .non H', rt := Q } E hr ⟨Gr.start sm.s fy ⟨_, hy, trivial⟩, sm.h⟩ fy hy ra' hf fun σ' F' H' w l o g f' h' r' n f2 h2 b => k F' H' w l o g.toGr f' h' r' n f2 h2 b⟩
theorem ern_make {τ : Type} [Ra τ] {f : τ → Option (T2 α (List γ))} {y : τ} {r : T2 α (List γ)} {k : Nat} {fa : Addr} {fd : FuncData} {ps : List Str} {x : Str} {p : Pos} (M : Mk X.K (He.ga X.K cn) fa) (Fn : FnOk X.prog X.w X.K X.mg X.base CX0 k fa fd ps (PrIN n1 n2 X.K (He.ga X.K cn) f)) (hr : Room (k + 1) X.A)
    (hm : X.mg x = some (.ref (He.ga X.K cn))) (hb : Binds X.K fd ps []) (ha : EvA X (e :: es) σ F H y) (h : f y = some r) (hg : Gl X x := by rfl) (hdb : (x == ("__debug__" : Str)) = false := by decide)
    (he : starEach (e :: es) X.env = (false, eval e X.env) :: starEach es X.env := by rfl) (hpl : (backTo pos (starEach es X.env)).any (·.1) = false := by rfl) : EvRN cn n1 n2 X (.Call (.Name x p) (e :: es) [] pos) σ F H r.a r.b := fun F1 H1 g Q q =>
  GoE.of (pe_make M Fn hr hg hm hb .nil pass0 pa_go hdb he hpl) (ha F1 H1 g _ fun vs F2 H2 g2 r2 => by
    intro o dx ho hdx hne
    have so : H2 dx = none := hdx
    have g3 : Gr F2 H2 (upd F2 dx (.own o)) (upd H2 dx (.own o)) := Gr.new g2.fh hdx trivial
    have ho3 : upd H2 dx (.own o) o = none := by rw [upd_ne (fun z => hne z.symm)]; exact ho
    have fo3 : upd F2 dx (.own o) o = none := by rw [upd_ne (fun z => hne z.symm)]; exact g2.fh.free ho
    have g4 := Gr.newP (o := .ins (He.ga X.K cn) dx []) g3.fh ho3 trivial
    refine ⟨upd F2 dx (.own o), o, dx, vs, y, r, by rw [List.append_nil], (g.trans g2).sm.up (g3.trans g4), fo3, upd_same, Ra.mono g3.ff r2, h, fun F' H' w l lo g5 f5 h5 r5 n5 f6 h6 b6 => ⟨rfl, ?_⟩⟩
    have g6 : Gr F1 H1 F' H' := (((g2.trans g3).trans g4)).over (g2.hh.free ho) g5 ⟨_, upd_same, trivial⟩
    have g7 := g6.freeze (o := .ins (He.ga X.K cn) dx (List.zip [n1, n2] [w, .ref l])) (g2.hh.free ho) f5 ⟨_, h5, trivial⟩ trivial
    have e7 : upd H' o (.ins (He.ga X.K cn) dx (List.zip [n1, n2] [w, .ref l])) = H' := by
      funext b
      by_cases hb : b = o
      · rw [hb, upd_same, h5]
      · rw [upd_ne hb]
    rw [e7] at g7
    have hlo : l ≠ o := fun z => by
      obtain ⟨us, e1, _⟩ := b6
      subst z; rw [h5] at h6; cases h6; cases e1
    have n6 : H1 l = none := by
      refine g2.hh.free (g3.hh.free ?_)
      unfold er at n5
      rw [if_neg hlo, upd_ne hlo] at n5
      exact n5
    exact q (.ref o) l lo _ H' g7 n6 (by rw [upd_ne hlo]; exact f6) h6 (Ob.mono (same_upd f5) b6) ⟨o, dx, w, rfl, upd_same, Rp.mono (same_upd f5) r5⟩)
theorem go_setRN {n : Str} {p : Pos} (i : Nat) (s : SmX X.K F H) (he : EvRN cn n1 n2 X e σ F H x ys) (k : ∀ u l o F' H', Gr F H F' H' → H l = none → F' l = none → H' l = some o → ob X.K F' o ys → CR cn n1 n2 X.K F' u l x → GoS X rest D (σ.set i (some u)) H') (hN : X.N.Nodup) (hi : X.N[i]? = some n := by rfl)
    (hx : Loc X.env.scope n := by first | exact Or.inl rfl | exact Or.inr rfl) (hs : swapsWith e (some (.Name n p)) pos.line X.env = pure false := by rfl) (hf : X.fn n = true ∨ X.env.scope.names.lookup n = some .local := by first | exact .inl rfl | exact .inr rfl) :
    GoS X (.Assign [.Name n p] e pos :: rest) D σ H :=
  GoS.cons (ps_set hN hi hx pe_go hs hf) (he F H (.refl s) _ fun u l o F2 H2 g n f h r c => k u l o F2 H2 g n f h r c)
section
variable {zs : List γ} {l : Addr} {v : V} {n : Str} {p1 p2 p3 p4 : Pos}
/-- v.n2.pop() -/
theorem em_popR {r : γ × List γ} (i : Nat) (o : Own X.K H0 F H l zs) (ct : CR cn n1 n2 X.K F v l x) (c : Cls X.K (He.ga X.K cn)) (na : NoAttr X.K (He.ga X.K cn) n2) (hne : (n2 == n1) = false) (hσ : σ[i]? = some (some v)) (h : popE zs = some r) (hN : X.N[i]? = some n := by rfl) (hv : Vis X.env.scope n := by first | exact Or.inl rfl | exact Or.inr (Or.inl rfl) | exact Or.inr (Or.inr rfl))
    (hd : (n == ("__debug__" : Str)) = false := by decide) (hcd : (n == ("__classdict__" : Str)) = false := by decide) (hb0 : attributeBase (.Name n p1) n2 X.env (eval (.Name n p1) X.env) = eval (.Name n p1) X.env := by rfl)
    (hbase : attributeBase (.Attribute (.Name n p1) n2 p4) "pop" X.env (eval (.Attribute (.Name n p1) n2 p4) X.env) = eval (.Attribute (.Name n p1) n2 p4) X.env := by rfl) (hline : (p2.endLine == p3.line) = true := by rfl) :
    EvM X (.Call (.Attribute (.Attribute (.Name n p1) n2 p4) "pop" p2) [] [] p3) σ F H l r.1 r.2 := fun F1 H1 g Q q => by
  have o1 := o.up g.toGr
  obtain ⟨_, hl, vs, rfl, rs⟩ := o1.h
  obtain ⟨hy, e2⟩ := popE_of h
  obtain ⟨a, dx, w, ev, tf, rw'⟩ := ct.mono g.ff
  refine GoE.of (pe_bm0 PySem.F.plainAttrs_list PySem.F.slot_list_pop PySem.F.type_list_pop mt_pop (pe_fld (pe_var hN hv hd hcd) hb0) hbase hline) ?_
  obtain ⟨y, hy1, ry⟩ := rs.get hy
  refine ⟨v, hσ, a, _, dx, _, .ref l, ev, g.fh _ _ tf, c, na, by simp [List.zip, List.lookup, hne], .inl ⟨rfl, _, SqL.of hl⟩, l, vs, y, rfl, rfl, hl, by rw [rs.length]; exact hy1, ?_⟩
  exact q y F1 _ _ (o1.erl (.refl g.fh) (fun b hb => upd_ne hb) (no_upd trivial)) o1.f upd_same (by rw [e2]; exact ob_lst rs.dropLast) ry
/-- v.n2.clear() -/
theorem em_clearR (i : Nat) (o : Own X.K H0 F H l zs) (ct : CR cn n1 n2 X.K F v l x) (c : Cls X.K (He.ga X.K cn)) (na : NoAttr X.K (He.ga X.K cn) n2) (hne : (n2 == n1) = false) (hσ : σ[i]? = some (some v)) (hN : X.N[i]? = some n := by rfl) (hv : Vis X.env.scope n := by first | exact Or.inl rfl | exact Or.inr (Or.inl rfl) | exact Or.inr (Or.inr rfl))
    (hd : (n == ("__debug__" : Str)) = false := by decide) (hcd : (n == ("__classdict__" : Str)) = false := by decide) (hb0 : attributeBase (.Name n p1) n2 X.env (eval (.Name n p1) X.env) = eval (.Name n p1) X.env := by rfl)
    (hbase : attributeBase (.Attribute (.Name n p1) n2 p4) "clear" X.env (eval (.Attribute (.Name n p1) n2 p4) X.env) = eval (.Attribute (.Name n p1) n2 p4) X.env := by rfl) (hline : (p2.endLine == p3.line) = true := by rfl) :
    EvM X (.Call (.Attribute (.Attribute (.Name n p1) n2 p4) "clear" p2) [] [] p3) σ F H l () ([] : List γ) := fun F1 H1 g Q q => by
  have o1 := o.up g.toGr
  obtain ⟨_, hl, vs, rfl, rs⟩ := o1.h
  obtain ⟨a, dx, w, ev, tf, rw'⟩ := ct.mono g.ff
  refine GoE.of (pe_bm0 PySem.F.plainAttrs_list PySem.F.slot_list_clear PySem.F.type_list_clear mt_clear (pe_fld (pe_var hN hv hd hcd) hb0) hbase hline) ?_
  exact ⟨v, hσ, a, _, dx, _, .ref l, ev, g.fh _ _ tf, c, na, by simp [List.zip, List.lookup, hne], .inl ⟨rfl, _, SqL.of hl⟩, l, vs, rfl, rfl, hl, q .non F1 _ _ (o1.erl (.refl g.fh) (fun b hb => upd_ne hb) (no_upd trivial)) o1.f upd_same (ob_lst .nil) rfl⟩
end
end
end Gx
namespace Gx
open PySem PySem.Spec PyProof.Rows L2
open Rp (rp)
open Ra (ra)
open Ob (ob)
/-! ### sorted(xs), xs a short list of ints -/
def srtI (xs : List Int) : Option (List Int) := if xs.length < 64 then some (xs.mergeSort fun a b => decide (a ≤ b)) else none
theorem srt_uniq {xs ys : List Int} (hp : ys.Perm xs) (hs : ys.Pairwise (· ≤ ·)) : ys = xs.mergeSort fun a b => decide (a ≤ b) := by
  have h1 : (xs.mergeSort fun a b => decide (a ≤ b)).Pairwise (· ≤ ·) := by
    have := List.pairwise_mergeSort (le := fun (a b : Int) => decide (a ≤ b)) (fun a b c h1 h2 => by simp only [decide_eq_true_eq] at *; omega) (fun a b => by simp only [Bool.or_eq_true, decide_eq_true_eq]; omega) xs
    exact this.imp fun h => of_decide_eq_true h
  exact List.Perm.eq_of_pairwise (le := fun a b : Int => a ≤ b) (fun a b _ _ h1 h2 => Int.le_antisymm h1 h2) hs h1 (hp.trans (List.mergeSort_perm _ _).symm)
theorem en_sortI {X : Cx} {a : Expr} {σ : L2.St} {F H : Hp} {pos : Pos} {xs r : List Int} {p : Pos} (hm : X.mg "sorted" = none) (ha : Ev X a σ F H xs) (h : srtI xs = some r) (hg : Gl X "sorted" := by rfl) (hs : starEach [a] X.env = (false, eval a X.env) :: starEach [] X.env := by rfl) :
    EvN X (.Call (.Name "sorted" p) [a] [] pos) σ F H r := fun F1 H1 g Q q => by
  unfold srtI at h; split at h
  · rename_i hl
    cases Option.some.inj h
    exact GoE.of (pe_callB cr_sorted hg hm boot_sorted (pa_cons pe_go pa_nil hs) (by decide) (by decide) hs rfl) (ha F1 H1 g _ fun v F2 H2 g2 ⟨l, vs, e, sq, rs⟩ => ⟨l, xs, by rw [e], by rw [← rps_ints rs]; exact g2.fh.seq sq, hl, fun ys p h1 h2 hp => EvN.new q g2 hp (by rw [← srt_uniq h1 h2]; exact rps_intsV)⟩)
  · cases h
end Gx
namespace Gx
open PySem PySem.Spec PyProof.Rows L2
open Rp (rp)
open Ra (ra)
open Ob (ob)
/-! ### zip of a tuple and a list -/
def ItzM (K : PySem.W.Frag) (a b : Addr) : It :=
  ⟨fun i H => ∃ (xs ys : List V) (x y : V), SqT K H a xs ∧ SqL K H b ys ∧ xs[i]? = some x ∧ ys[i]? = some y,
    fun i H v H' => ∃ T x y, v = .ref T ∧ H T = none ∧ H' = upd H T (.tup [x, y]) ∧ (∀ xs, SqT K H a xs → xs[i]? = some x) ∧ ∀ ys, SqL K H b ys → ys[i]? = some y,
    fun i H => ∃ xs ys : List V, SqT K H a xs ∧ SqL K H b ys ∧ i ≤ xs.length ∧ i ≤ ys.length ∧ (i = xs.length ∨ i = ys.length)⟩
def stM (z TI TO i1 i2 a b : Addr) (i : Nat) (h : Heap) : Prop := IsZip h z TI TO .none ∧ IsTupOf2 h TI (.ref i1) (.ref i2) ∧ (∃ x y, IsTupOf2 h TO x y) ∧ h.IsTupleIter i1 a i ∧ h.IsListIter i2 b i
theorem mem5 {c z TI TO i1 i2 : Addr} (h : c ∈ [z, TI, TO, i1, i2]) : c = z ∨ c = TI ∨ c = TO ∨ c = i1 ∨ c = i2 := by simpa using h
theorem turn_zipM {P : Program} {w : World} {K : PySem.W.Frag} {elts : List Expr} {kk : Nat} {tpos : Pos} {a b z TI TO i1 i2 : Addr} (S : ZipSep2 z TI TO i1 i2 [i1, a] [i2, b]) (na : a ≠ i1) (nb : b ≠ i2) :
    Turn P w K (.Tuple elts kk tpos) (ItzM K a b) [z, TI, TO, i1, i2] z (stM z TI TO i1 i2 a b) where
  mem := List.mem_cons_self
  obj := fun i h ⟨hz, hTI, ⟨x, y, hTO⟩, ⟨o1, e1, _, d1⟩, ⟨o2, e2, _, d2⟩⟩ c hc => by
    rcases mem5 hc with q | q | q | q | q <;> rw [q]
    · exact ⟨_, hz, fun v q => nomatch q⟩
    · exact ⟨_, hTI, fun v q => nomatch q⟩
    · exact ⟨_, hTO, fun v q => nomatch q⟩
    · exact ⟨o1, e1, fun v q => by rw [d1] at q; cases q⟩
    · exact ⟨o2, e2, fun v q => by rw [d2] at q; cases q⟩
  keep := fun i h h' ⟨hz, hTI, ⟨x, y, hTO⟩, h1, h2⟩ k =>
    ⟨k z (by simp) _ hz, k TI (by simp) _ hTI, ⟨x, y, k TO (by simp) _ hTO⟩, h1.at fun o q => k i1 (by simp) o q, h2.at fun o q => k i2 (by simp) o q⟩
  item := fun X hP hw hK hc i pins s σ H E I hf ⟨hz, hTI, ⟨x0, y0, hTO⟩, h1, h2⟩ ⟨xs, ys, x, y, hqx, hqy, hx, hy⟩ => by
    subst hP hw hK
    obtain ⟨its, rv, p, _⟩ := I.tuple hqx
    obtain ⟨its2, rv2, p2, _⟩ := I.list hqy
    obtain ⟨u, hu, ru⟩ := rv.get hx
    obtain ⟨u2, hu2, ru2⟩ := rv2.get hy
    have hh : X.A.in1.handled = none := I.ok.hd hc
    have hzl : z < s.heap.objs.size := Heap.lt_size hz
    have b1 : i < its.toArray.size := by have := (List.getElem?_eq_some_iff.mp hu).1; simpa using this
    have b2 : i < its2.toArray.size := by have := (List.getElem?_eq_some_iff.mp hu2).1; simpa using this
    refine wpAny_pyNext_zipD2_item S (Draws.tuple hh i1 a na its.toArray) (Draws.list hh i2 b nb its2.toArray) hz hTI hTO ⟨h1, p⟩ ⟨h2, p2.isList⟩ b1 b2 fun v1 v2 h' tk q1 q2 z' TO' st1 st2 hT hsz hk => ?_
    have q1 : its[i]? = some v1 := by simpa using q1
    have q2 : its2[i]? = some v2 := by simpa using q2
    rw [hu] at q1; rw [hu2] at q2; cases q1; cases q2
    refine ⟨_, rfl, wpAny_letOwnedTupleGo_zip (s := { s with heap := h', toks := tk }) z' fun h'' z'' sb => ?_⟩
    have hT2 : h''.get? s.heap.objs.size = some { cls := .type "tuple", data := .seq #[u, u2] } := (sb.2 _ (Nat.ne_of_gt hzl)).trans hT
    have new : ObjOk X.prog X.w (upd H s.heap.objs.size (.tup [x, y])) h'' s.heap.objs.size (.tup [x, y]) :=
      ⟨by show 2 ≤ sizeLine; decide, [u, u2], .cons ru (.cons ru2 .nil), ⟨_, hT2, rfl, _, rfl⟩⟩
    have I1 : Inv X pins σ (upd H s.heap.objs.size (.tup [x, y])) { s with heap := h'', toks := tk } :=
      I.turnedNew (t' := tk) (ch := [z, TI, TO, i1, i2]) (fun c o hb q => (sb.2 c (fun q' => hb (by simp [q']))).trans (hk c o (fun q' => hb (by simp [q'])) (fun q' => hb (by simp [q'])) (fun q' => hb (by simp [q'])) (fun q' => hb (by simp [q'])) q)) hf (Nat.le_refl _) new
    refine ⟨.ref s.heap.objs.size, _, I1, rfl, ⟨_, x, y, rfl, I.hok.fresh (Nat.le_refl _), rfl, fun l hl => by rw [I.tuple_inj hl hqx]; exact hx, fun l hl => by rw [I.list_inj hl hqy]; exact hy⟩, ⟨z'', ?_, ⟨u, u2, ?_⟩, ?_, ?_⟩, fun c hcm => ?_⟩
    · exact (sb.2 _ S.TIz).trans (hk _ _ S.TIz S.TITO S.TIi1 S.TIi2 hTI)
    · exact (sb.2 _ S.TOz).trans TO'
    · exact st1.1.at fun o q => (sb.2 _ S.zi1.symm).trans q
    · exact st2.1.at fun o q => (sb.2 _ S.zi2.symm).trans q
    · have hlt : c < s.heap.objs.size := by
        rcases mem5 hcm with q | q | q | q | q <;> rw [q]
        · exact hzl
        · exact Heap.lt_size hTI
        · exact Heap.lt_size hTO
        · obtain ⟨_, e1, _⟩ := h1; exact Heap.lt_size e1
        · obtain ⟨_, e2, _⟩ := h2; exact Heap.lt_size e2
      rw [upd_ne (Nat.ne_of_lt hlt)]
      exact (hf c hcm).1
  done := fun X hP hw hK hc i pins s σ H E I hf ⟨hz, hTI, ⟨x0, y0, hTO⟩, h1, h2⟩ ⟨xs, ys, hqx, hqy, le1, le2, hend⟩ => by
    subst hP hw hK
    obtain ⟨its, rv, p, _⟩ := I.tuple hqx
    obtain ⟨its2, rv2, p2, _⟩ := I.list hqy
    have l1 := rv.length
    have l2 := rv2.length
    have hh : X.A.in1.handled = none := I.ok.hd hc
    exact wpAny_pyNext_zipD2_end S (Draws.tuple hh i1 a na its.toArray) (Draws.list hh i2 b nb its2.toArray) hz hTI hTO ⟨h1, p⟩ ⟨h2, p2.isList⟩ (by simp; omega) (by simp; omega) (by simp; omega) fun h' tk hk =>
      ⟨rfl, I.turnedL (t' := tk) (ch := [z, TI, TO, i1, i2]) (fun c o hb q => hk c o (fun q' => hb (by simp [q'])) (fun q' => hb (by simp [q'])) (fun q' => hb (by simp [q'])) (fun q' => hb (by simp [q'])) q) hf⟩
  self := fun A i s Q E st h => wpAny_pyIter_zip st.1 h
def iZipM (K : PySem.W.Frag) (ta : TA) : TI := fun σ H R => ta σ H fun vs H1 => ∃ a b xs ys, vs = [.ref a, .ref b] ∧ SqT K H1 a xs ∧ SqL K H1 b ys ∧ R (ItzM K a b) H1
theorem pi_zipM {X : Cx} {e e2 : Expr} {ta : TA} {p pos tpos : Pos} {elts : List Expr} {kk : Nat} (hg : Gl X "zip") (hm : X.mg "zip" = none) (ha : PA X [e, e2] ta)
    (hs : starEach [e, e2] X.env = (false, eval e X.env) :: starEach [e2] X.env := by rfl) (hpl : (backTo pos (starEach [e2] X.env)).any (·.1) = false := by rfl) :
    PI X (.Tuple elts kk tpos) (.Call (.Name "zip" p) [e, e2] [] pos) (iZipM X.K ta) := by
  refine ⟨fun pins s σ H R I h => ?_⟩
  refine Call_ (ld_blt I hg hm PyProof.Rows.boot_zip (PyProof.Rows.callWith_type1 (thn (ha.run pos pins s σ H _ I h) fun us s1 ⟨vs, H1, I1, r1, q1⟩ => ?_) hs hpl))
  obtain ⟨a, b, xs, ys, rfl, hqx, hqy, q⟩ := q1
  obtain ⟨u, u2, rfl, ru, ru2⟩ : ∃ u u2, us = [u, u2] ∧ RelV (.ref a) u ∧ RelV (.ref b) u2 := by
    cases r1 with
    | cons r rr => cases rr with
      | cons r' rr => cases rr; exact ⟨_, _, rfl, r, r'⟩
  obtain rfl : u = Value.ref a := ru
  obtain rfl : u2 = Value.ref b := ru2
  have fresh5 : ∀ c, c ∈ [s1.heap.objs.size + 4, s1.heap.objs.size + 2, s1.heap.objs.size + 3, s1.heap.objs.size, s1.heap.objs.size + 1] → FpOk X pins H1 c := fun c hcm => by
    have hle : s1.heap.objs.size ≤ c := by
      rcases mem5 hcm with z | z | z | z | z <;> rw [z] <;> first | exact Nat.le_refl _ | exact Nat.le_add_right _ _
    exact I1.fpOk hle (I1.hok.fresh hle)
  obtain ⟨its, rv, p1, _⟩ := I1.tuple hqx
  obtain ⟨its2, rv2, p2, _⟩ := I1.list hqy
  obtain ⟨o1, ho1, _⟩ := id p1
  have la : a < s1.heap.objs.size := Heap.lt_size ho1
  have lb : b < s1.heap.objs.size := p2.lt
  refine zip_begins2 (begins_tuple a its.toArray) (begins_list b its2.toArray) p1 p2.isList fun h' hz hTI hTO h1 h2 hsz hk => wpAny_pyIter_zip hz ?_
  have I2 : Inv X pins σ H1 { s1 with heap := h' } := I1.kept (t' := s1.toks) hk
  exact ⟨s1.heap.objs.size + 4, [s1.heap.objs.size + 4, s1.heap.objs.size + 2, s1.heap.objs.size + 3, s1.heap.objs.size, s1.heap.objs.size + 1], _, _, H1, rfl, I2,
    turn_zipM (zip_sep2 (fp1 := [a]) (fp2 := [b]) (fun c hc => by rw [List.mem_singleton.mp hc]; exact la) (fun c hc => by rw [List.mem_singleton.mp hc]; exact lb)) (Nat.ne_of_lt la) (Nat.ne_of_lt (Nat.lt_succ_of_lt lb)), ⟨hz, hTI, ⟨_, _, hTO⟩, ⟨_, h1, rfl, rfl⟩, ⟨_, h2, rfl, rfl⟩⟩, fresh5, q⟩
section
variable {X : Cx} {a b : Expr} {σ : L2.St} {F H : Hp} {pos : Pos}
theorem ei_zipM {α β θ : Type} [Rp α] [Rp β] [Rp θ] [TL θ α] {xs : θ} {ys : List β} {p tpos : Pos} {elts : List Expr} {kk : Nat} (ha : Ev X a σ F H xs) (hb : Ev X b σ F H ys) (hm : X.mg "zip" = none) (hg : Gl X "zip" := by rfl) (hs : starEach [a, b] X.env = (false, eval a X.env) :: starEach [b] X.env := by rfl) (hs2 : starEach [b] X.env = (false, eval b X.env) :: starEach [] X.env := by rfl)
    (hpl : (backTo pos (starEach [b] X.env)).any (·.1) = false := by rfl) : EvI X (.Tuple elts kk tpos) (.Call (.Name "zip" p) [a, b] [] pos) σ F H (zipL (TL.l xs) ys) := fun F1 H1 g R q =>
  GoI.of (pi_zipM hg hm (pa_cons pe_go (pa_cons pe_go pa_nil hs2) hs) hs hpl) (ha F1 H1 g _ fun v F2 H2 g2 r2 => hb F2 H2 (g.trans g2) _ fun w F3 H3 g3 ⟨p', vs', e', sq', rs'⟩ => by
    obtain ⟨p, vs, e, sq, rs⟩ := TL.sq (Rp.mono g3.ff r2)
    refine ⟨p, p', vs, vs', by rw [e, e'], sqT_mono g3.fh sq, g3.fh.seq sq', q _ F3 H3 (g2.trans g3) fun i Fi Hi s1 s2 => ?_⟩
    have q1 : SqT X.K Hi p vs := sqT_mono s2 (sqT_mono s1 sq)
    have q2 := s2.seq (s1.seq sq')
    refine ⟨fun x hx => ?_, fun e => ⟨vs, vs', q1, q2, ?_, ?_, ?_⟩⟩
    · obtain ⟨h1, h2⟩ := zipL_get hx
      obtain ⟨y, hy, ry⟩ := rs.get h1
      obtain ⟨z, hz, rz⟩ := rs'.get h2
      refine ⟨⟨vs, vs', y, z, q1, q2, hy, hz⟩, fun v H' ⟨T, x1, y1, e1, e2, e3, e4, e5⟩ => ?_⟩
      subst e1; subst e3
      have e6 := e4 vs q1
      have e7 := e5 vs' q2
      rw [hy] at e6; rw [hz] at e7
      cases e6; cases e7
      exact pair_new s2 e2 (Rp.mono s1 ry) (Rp.mono s1 rz)
    · rw [e, zipL_len, rs.length]; omega
    · rw [e, zipL_len, rs'.length]; omega
    · rw [e, zipL_len, rs.length, rs'.length]; omega)
end
end Gx
namespace Gx
open PySem PySem.Spec PyProof.Rows L2
open Rp (rp)
open Ra (ra)
open Ob (ob)
/-! ### xs[i] += e -/
def augG (xs : List Int) (k d : Int) : Option (List Int) := if 0 ≤ k then (xs[k.toNat]?).map fun x => xs.set k.toNat (x + d) else none
def rGet0 (K : PySem.W.Frag) : V → V → Hp → VK → Prop := fun x y H Q => ∃ p xs k v, x = .ref p ∧ y = .int k ∧ SqL K H p xs ∧ 0 ≤ k ∧ xs[k.toNat]? = some v ∧ Q v H
section
variable {X : Cx} {a e : Expr} {σ : L2.St} {F H H0 : Hp} {pos : Pos} {D : Ends} {rest : List Stmt}
theorem get_list0 : PGet X (rGet0 X.K) := by
  intro pins s σ H o i ov iv Q I ro ri h
  obtain ⟨p, xs, k, v, rfl, rfl, hq, h0, hv, q⟩ := h
  cases ro
  obtain ⟨t, rfl⟩ := ri
  obtain ⟨its, r, pl, hz⟩ := I.list hq
  obtain ⟨w, ew, rw'⟩ := r.get hv
  have hl := r.length
  have hn := line63
  have hlt := (List.getElem?_eq_some_iff.mp hv).1
  exact wpAny_getItem_list pl.isList h0 (by omega) (by simpa using ew) ⟨v, H, I, rw', q⟩
theorem go_augI {xs r : List Int} {k d : Int} {l : Addr} {n : Str} {p1 p2 : Pos} (i : Nat) (s : SmX X.K F H) (o : Own X.K H0 F H l xs) (hσ : σ[i]? = some (some (.ref l))) (he : Ev X e σ F H d) (hk : Ev X a σ F H k) (h : augG xs k d = some r)
    (kk : ∀ u F' H', Gr F H F' H' → PlAt H' l → F' l = none → Own X.K H0 F' (upd H' l u) l r → GoS X rest D σ (upd H' l u)) (hN : X.N[i]? = some n := by rfl) (hv : Vis X.env.scope n := by first | exact Or.inl rfl | exact Or.inr (Or.inl rfl) | exact Or.inr (Or.inr rfl))
    (hd : (n == ("__debug__" : Str)) = false := by decide) (hcd : (n == ("__classdict__" : Str)) = false := by decide)
    (ha : ∀ ov iv new, augStore a ov iv new = (do holding [new, ov, iv] (setItem ov iv new); release [new, ov, iv] []; pure .next) := by intros; rfl) :
    GoS X (.AugAssign (.Subscript (.Name n p1) a p2) .Add e pos :: rest) D σ H := by
  unfold augG at h; split at h
  · rename_i h0
    obtain ⟨x, hx, rfl⟩ := Option.map_eq_some_iff.mp h
    obtain ⟨_, hl, vs, rfl, rs⟩ := o.h
    obtain ⟨v, hv1, rv⟩ := rs.get hx
    obtain rfl : v = .int x := rv
    refine GoS.cons (ps_augS (pe_var hN hv hd hcd) pe_go get_list0 pe_go ip_add set_list ha) ⟨_, hσ, hk F H (.refl s) _ fun w F2 H2 g2 r2 => ?_⟩
    have hl2 := g2.hh.k _ _ hl trivial
    obtain rfl : w = .int k := r2
    refine ⟨l, vs, k, .int x, rfl, rfl, SqL.of hl2, h0, hv1, he F2 H2 (s.gx g2) _ fun w3 F3 H3 g3 r3 => ?_⟩
    obtain rfl : w3 = .int d := r3
    have g4 := g2.trans g3
    have o2 := o.up g4
    have hl3 := g4.hh.k _ _ hl trivial
    have hlt := (List.getElem?_eq_some_iff.mp hv1).1
    have hj : ixN vs.length k = some k.toNat := by unfold ixN; rw [if_pos (by omega), if_pos (by omega)]
    exact ⟨x, d, rfl, rfl, l, vs, k, k.toNat, rfl, rfl, hl3, hj, kk _ F3 H3 g4 o2.pl o2.f (Own.set o2.n o2.f (ob_lst (Rps.set (show rp X.K F3 (.int (x + d)) (x + d) from rfl) k.toNat (rs.mono g4.ff))))⟩
  · cases h
end
end Gx
namespace Gx
open PySem PySem.Spec PyProof.Rows L2
/-! ### b is True -/
theorem o2_isB {K : PySem.W.Frag} {x y : Bool} : Op2 K (fun x y H Q => ∃ a b, x = .bl a ∧ y = .bl b ∧ Q (.bl (decide (a = b))) H) x y (decide (x = y)) := fun F H v w Q s r1 r2 k => ⟨x, y, r1, r2, k _ F H (.refl s) rfl⟩
theorem o2_isnotB {K : PySem.W.Frag} {x y : Bool} : Op2 K (fun x y H Q => ∃ a b, x = .bl a ∧ y = .bl b ∧ Q (.bl (!decide (a = b))) H) x y (!decide (x = y)) := fun F H v w Q s r1 r2 k => ⟨x, y, r1, r2, k _ F H (.refl s) rfl⟩
end Gx
namespace Gx
open PySem PySem.Spec PyProof.Rows L2
open Rp (rp)
open Ra (ra)
open Ob (ob)
/-! ### what does not tell of a list that is shown for a while -/
def IsL (F : Hp) (l : Addr) : Prop := ∃ od xs, F l = some (.frz od (.lst xs))
theorem IsL.tup {F : Hp} {l : Addr} (h : IsL F l) : (∀ xs, ¬ F l = some (.tup xs)) ∧ (∀ (o : Obj) (xs : List V), ¬ F l = some (.frz o (.tup xs))) := by
  obtain ⟨od, ys, h⟩ := h
  exact ⟨fun xs e => (by rw [h] at e; cases e), fun o xs e => (by rw [h] at e; cases e)⟩
theorem IsL.ins {F : Hp} {l a : Addr} {c d : Addr} {fs : List (Str × V)} (h : IsL F l) (e : F a = some (.ins c d fs)) : er F l a = some (.ins c d fs) := by
  obtain ⟨od, ys, h⟩ := h
  unfold er
  rw [if_neg (show ¬ a = l from fun z => by rw [z, h] at e; cases e)]; exact e
class FlatL (α : Type) [Rp α] : Prop where
  fl : ∀ {K : PySem.W.Frag} {F : Hp} {l : Addr} {v : V} {x : α}, IsL F l → rp K F v x → rp K (er F l) v x
class FlatLR (τ : Type) [Ra τ] : Prop where
  fl : ∀ {K : PySem.W.Frag} {F : Hp} {l : Addr} {v : List V} {x : τ}, IsL F l → ra K F v x → ra K (er F l) v x
instance (priority := low) {α : Type} [Rp α] [Flat α] : FlatL α := ⟨fun h r => Flat.fl h.tup.1 h.tup.2 r⟩
instance : FlatLR Unit := ⟨fun _ h => h⟩
instance {α τ : Type} [Rp α] [Ra τ] [FlatL α] [FlatLR τ] : FlatLR (α × τ) := ⟨fun h1 ⟨v, r, e, p, q⟩ => ⟨v, r, e, FlatL.fl h1 p, FlatLR.fl h1 q⟩⟩
theorem rpI.fl {cn : Str} {names : List Str} {τ : Type} [Ra τ] [FlatLR τ] {K : PySem.W.Frag} {F : Hp} {l : Addr} {v : V} {x : τ} (h : IsL F l) : rpI cn names K F v x → rpI cn names K (er F l) v x := fun ⟨a, dx, vs, e, q, r⟩ => ⟨a, dx, vs, e, h.ins q, FlatLR.fl h r⟩
theorem Rps.fll {α : Type} [Rp α] [FlatL α] {K : PySem.W.Frag} {F : Hp} {l : Addr} {vs : List V} {xs : List α} (h1 : IsL F l) (h : Rps K F vs xs) : Rps K (er F l) vs xs := L2.Paired.mapP h fun _ _ => FlatL.fl h1
theorem CR.er {α : Type} [Rp α] [FlatL α] {cn n1 n2 : Str} {K : PySem.W.Frag} {F : Hp} {v : V} {l l0 : Addr} {x : α} (h : CR cn n1 n2 K F v l x) (h1 : IsL F l0) : CR cn n1 n2 K (er F l0) v l x := by
  obtain ⟨a, dx, w, e, t, r⟩ := h
  exact ⟨a, dx, w, e, h1.ins t, FlatL.fl h1 r⟩
theorem ern_thaw {α γ δ : Type} [Rp α] [FlatL α] [Rp γ] [FlatL γ] [Rp δ] {cn n1 n2 : Str} {X : Cx} {e : Expr} {σ : L2.St} {F H H0 : Hp} {x : α} {ys : List γ} {y : List δ} {l : Addr} (o : Own X.K H0 F H l y) (s : L2.Same F H) (h : ∀ F' H', L2.Same F F' → L2.Same F' H' → rp X.K F' (.ref l) y → (∀ a, a ≠ l → F' a = F a ∧ H' a = H a) → EvRN cn n1 n2 X e σ F' H' x ys) : EvRN cn n1 n2 X e σ F H x ys := fun F1 H1 g Q q => by
  obtain ⟨u, hl, r⟩ := o.h
  obtain ⟨vs0, eu, _⟩ := id r
  have hl1 := g.hh.k _ _ hl (Ob.pl r).ntb
  refine GoE.locked hl1 (Ob.mu r) fun od => ?_
  obtain ⟨g1, f1, h1⟩ := GrX.show_ (u := .frz od u) hl o.f (Ob.ls r) (Ob.pl r) g
  refine h _ _ (same_upd o.f) (shown s) (Ob.fz upd_same (Ob.mono (same_upd o.f) r)) (fun a ha => ⟨upd_ne ha, upd_ne ha⟩) _ _ g1 _ fun v2 l2 u2 F2 H2 g2 n2 f2 h2 r2 c2 => ?_
  have e2 : F2 l = some (.frz od u) := g2.ff _ _ upd_same
  have il : IsL F2 l := ⟨od, vs0, by rw [e2, eu]⟩
  have hne : l2 ≠ l := fun e => by rw [e, upd_same] at n2; cases n2
  obtain ⟨ws, ew, rw2⟩ := r2
  refine ⟨g2.fh _ _ e2, q v2 l2 u2 (er F2 l) _ (Gr.hide h1 f1 (Ob.pl r) g2) (by rw [upd_ne hne] at n2; exact n2) ?_ (by rw [upd_ne hne]; exact h2) ⟨ws, ew, Rps.fll il rw2⟩ (c2.er il)⟩
  unfold er
  rw [if_neg hne]; exact f2
end Gx
namespace Gx
open PySem PySem.Spec PyProof.Rows L2
open Rp (rp)
open Ra (ra)
open Ob (ob)
/-! ### zip of a list and a tuple -/
def ItzN (K : PySem.W.Frag) (a b : Addr) : It :=
  ⟨fun i H => ∃ (xs ys : List V) (x y : V), SqL K H a xs ∧ SqT K H b ys ∧ xs[i]? = some x ∧ ys[i]? = some y,
    fun i H v H' => ∃ T x y, v = .ref T ∧ H T = none ∧ H' = upd H T (.tup [x, y]) ∧ (∀ xs, SqL K H a xs → xs[i]? = some x) ∧ ∀ ys, SqT K H b ys → ys[i]? = some y,
    fun i H => ∃ xs ys : List V, SqL K H a xs ∧ SqT K H b ys ∧ i ≤ xs.length ∧ i ≤ ys.length ∧ (i = xs.length ∨ i = ys.length)⟩
def stN (z TI TO i1 i2 a b : Addr) (i : Nat) (h : Heap) : Prop := IsZip h z TI TO .none ∧ IsTupOf2 h TI (.ref i1) (.ref i2) ∧ (∃ x y, IsTupOf2 h TO x y) ∧ h.IsListIter i1 a i ∧ h.IsTupleIter i2 b i
theorem turn_zipN {P : Program} {w : World} {K : PySem.W.Frag} {elts : List Expr} {kk : Nat} {tpos : Pos} {a b z TI TO i1 i2 : Addr} (S : ZipSep2 z TI TO i1 i2 [i1, a] [i2, b]) (na : a ≠ i1) (nb : b ≠ i2) :
    Turn P w K (.Tuple elts kk tpos) (ItzN K a b) [z, TI, TO, i1, i2] z (stN z TI TO i1 i2 a b) where
  mem := List.mem_cons_self
  obj := fun i h ⟨hz, hTI, ⟨x, y, hTO⟩, ⟨o1, e1, _, d1⟩, ⟨o2, e2, _, d2⟩⟩ c hc => by
    rcases mem5 hc with q | q | q | q | q <;> rw [q]
    · exact ⟨_, hz, fun v q => nomatch q⟩
    · exact ⟨_, hTI, fun v q => nomatch q⟩
    · exact ⟨_, hTO, fun v q => nomatch q⟩
    · exact ⟨o1, e1, fun v q => by rw [d1] at q; cases q⟩
    · exact ⟨o2, e2, fun v q => by rw [d2] at q; cases q⟩
  keep := fun i h h' ⟨hz, hTI, ⟨x, y, hTO⟩, h1, h2⟩ k =>
    ⟨k z (by simp) _ hz, k TI (by simp) _ hTI, ⟨x, y, k TO (by simp) _ hTO⟩, h1.at fun o q => k i1 (by simp) o q, h2.at fun o q => k i2 (by simp) o q⟩
  item := fun X hP hw hK hc i pins s σ H E I hf ⟨hz, hTI, ⟨x0, y0, hTO⟩, h1, h2⟩ ⟨xs, ys, x, y, hqx, hqy, hx, hy⟩ => by
    subst hP hw hK
    obtain ⟨its, rv, p, _⟩ := I.list hqx
    obtain ⟨its2, rv2, p2, _⟩ := I.tuple hqy
    obtain ⟨u, hu, ru⟩ := rv.get hx
    obtain ⟨u2, hu2, ru2⟩ := rv2.get hy
    have hh : X.A.in1.handled = none := I.ok.hd hc
    have hzl : z < s.heap.objs.size := Heap.lt_size hz
    have b1 : i < its.toArray.size := by have := (List.getElem?_eq_some_iff.mp hu).1; simpa using this
    have b2 : i < its2.toArray.size := by have := (List.getElem?_eq_some_iff.mp hu2).1; simpa using this
    refine wpAny_pyNext_zipD2_item S (Draws.list hh i1 a na its.toArray) (Draws.tuple hh i2 b nb its2.toArray) hz hTI hTO ⟨h1, p.isList⟩ ⟨h2, p2⟩ b1 b2 fun v1 v2 h' tk q1 q2 z' TO' st1 st2 hT hsz hk => ?_
    have q1 : its[i]? = some v1 := by simpa using q1
    have q2 : its2[i]? = some v2 := by simpa using q2
    rw [hu] at q1; rw [hu2] at q2; cases q1; cases q2
    refine ⟨_, rfl, wpAny_letOwnedTupleGo_zip (s := { s with heap := h', toks := tk }) z' fun h'' z'' sb => ?_⟩
    have hT2 : h''.get? s.heap.objs.size = some { cls := .type "tuple", data := .seq #[u, u2] } := (sb.2 _ (Nat.ne_of_gt hzl)).trans hT
    have new : ObjOk X.prog X.w (upd H s.heap.objs.size (.tup [x, y])) h'' s.heap.objs.size (.tup [x, y]) :=
      ⟨by show 2 ≤ sizeLine; decide, [u, u2], .cons ru (.cons ru2 .nil), ⟨_, hT2, rfl, _, rfl⟩⟩
    have I1 : Inv X pins σ (upd H s.heap.objs.size (.tup [x, y])) { s with heap := h'', toks := tk } :=
      I.turnedNew (t' := tk) (ch := [z, TI, TO, i1, i2]) (fun c o hb q => (sb.2 c (fun q' => hb (by simp [q']))).trans (hk c o (fun q' => hb (by simp [q'])) (fun q' => hb (by simp [q'])) (fun q' => hb (by simp [q'])) (fun q' => hb (by simp [q'])) q)) hf (Nat.le_refl _) new
    refine ⟨.ref s.heap.objs.size, _, I1, rfl, ⟨_, x, y, rfl, I.hok.fresh (Nat.le_refl _), rfl, fun l hl => by rw [I.list_inj hl hqx]; exact hx, fun l hl => by rw [I.tuple_inj hl hqy]; exact hy⟩, ⟨z'', ?_, ⟨u, u2, ?_⟩, ?_, ?_⟩, fun c hcm => ?_⟩
    · exact (sb.2 _ S.TIz).trans (hk _ _ S.TIz S.TITO S.TIi1 S.TIi2 hTI)
    · exact (sb.2 _ S.TOz).trans TO'
    · exact st1.1.at fun o q => (sb.2 _ S.zi1.symm).trans q
    · exact st2.1.at fun o q => (sb.2 _ S.zi2.symm).trans q
    · have hlt : c < s.heap.objs.size := by
        rcases mem5 hcm with q | q | q | q | q <;> rw [q]
        · exact hzl
        · exact Heap.lt_size hTI
        · exact Heap.lt_size hTO
        · obtain ⟨_, e1, _⟩ := h1; exact Heap.lt_size e1
        · obtain ⟨_, e2, _⟩ := h2; exact Heap.lt_size e2
      rw [upd_ne (Nat.ne_of_lt hlt)]
      exact (hf c hcm).1
  done := fun X hP hw hK hc i pins s σ H E I hf ⟨hz, hTI, ⟨x0, y0, hTO⟩, h1, h2⟩ ⟨xs, ys, hqx, hqy, le1, le2, hend⟩ => by
    subst hP hw hK
    obtain ⟨its, rv, p, _⟩ := I.list hqx
    obtain ⟨its2, rv2, p2, _⟩ := I.tuple hqy
    have l1 := rv.length
    have l2 := rv2.length
    have hh : X.A.in1.handled = none := I.ok.hd hc
    exact wpAny_pyNext_zipD2_end S (Draws.list hh i1 a na its.toArray) (Draws.tuple hh i2 b nb its2.toArray) hz hTI hTO ⟨h1, p.isList⟩ ⟨h2, p2⟩ (by simp; omega) (by simp; omega) (by simp; omega) fun h' tk hk =>
      ⟨rfl, I.turnedL (t' := tk) (ch := [z, TI, TO, i1, i2]) (fun c o hb q => hk c o (fun q' => hb (by simp [q'])) (fun q' => hb (by simp [q'])) (fun q' => hb (by simp [q'])) (fun q' => hb (by simp [q'])) q) hf⟩
  self := fun A i s Q E st h => wpAny_pyIter_zip st.1 h
def iZipN (K : PySem.W.Frag) (ta : TA) : TI := fun σ H R => ta σ H fun vs H1 => ∃ a b xs ys, vs = [.ref a, .ref b] ∧ SqL K H1 a xs ∧ SqT K H1 b ys ∧ R (ItzN K a b) H1
theorem pi_zipN {X : Cx} {e e2 : Expr} {ta : TA} {p pos tpos : Pos} {elts : List Expr} {kk : Nat} (hg : Gl X "zip") (hm : X.mg "zip" = none) (ha : PA X [e, e2] ta)
    (hs : starEach [e, e2] X.env = (false, eval e X.env) :: starEach [e2] X.env := by rfl) (hpl : (backTo pos (starEach [e2] X.env)).any (·.1) = false := by rfl) :
    PI X (.Tuple elts kk tpos) (.Call (.Name "zip" p) [e, e2] [] pos) (iZipN X.K ta) := by
  refine ⟨fun pins s σ H R I h => ?_⟩
  refine Call_ (ld_blt I hg hm PyProof.Rows.boot_zip (PyProof.Rows.callWith_type1 (thn (ha.run pos pins s σ H _ I h) fun us s1 ⟨vs, H1, I1, r1, q1⟩ => ?_) hs hpl))
  obtain ⟨a, b, xs, ys, rfl, hqx, hqy, q⟩ := q1
  obtain ⟨u, u2, rfl, ru, ru2⟩ : ∃ u u2, us = [u, u2] ∧ RelV (.ref a) u ∧ RelV (.ref b) u2 := by
    cases r1 with
    | cons r rr => cases rr with
      | cons r' rr => cases rr; exact ⟨_, _, rfl, r, r'⟩
  obtain rfl : u = Value.ref a := ru
  obtain rfl : u2 = Value.ref b := ru2
  have fresh5 : ∀ c, c ∈ [s1.heap.objs.size + 4, s1.heap.objs.size + 2, s1.heap.objs.size + 3, s1.heap.objs.size, s1.heap.objs.size + 1] → FpOk X pins H1 c := fun c hcm => by
    have hle : s1.heap.objs.size ≤ c := by
      rcases mem5 hcm with z | z | z | z | z <;> rw [z] <;> first | exact Nat.le_refl _ | exact Nat.le_add_right _ _
    exact I1.fpOk hle (I1.hok.fresh hle)
  obtain ⟨its, rv, p1, _⟩ := I1.list hqx
  obtain ⟨its2, rv2, p2, _⟩ := I1.tuple hqy
  obtain ⟨o1, ho1, _⟩ := id p2
  have lb : b < s1.heap.objs.size := Heap.lt_size ho1
  have la : a < s1.heap.objs.size := p1.lt
  refine zip_begins2 (begins_list a its.toArray) (begins_tuple b its2.toArray) p1.isList p2 fun h' hz hTI hTO h1 h2 hsz hk => wpAny_pyIter_zip hz ?_
  have I2 : Inv X pins σ H1 { s1 with heap := h' } := I1.kept (t' := s1.toks) hk
  exact ⟨s1.heap.objs.size + 4, [s1.heap.objs.size + 4, s1.heap.objs.size + 2, s1.heap.objs.size + 3, s1.heap.objs.size, s1.heap.objs.size + 1], _, _, H1, rfl, I2,
    turn_zipN (zip_sep2 (fp1 := [a]) (fp2 := [b]) (fun c hc => by rw [List.mem_singleton.mp hc]; exact la) (fun c hc => by rw [List.mem_singleton.mp hc]; exact lb)) (Nat.ne_of_lt la) (Nat.ne_of_lt (Nat.lt_succ_of_lt lb)), ⟨hz, hTI, ⟨_, _, hTO⟩, ⟨_, h1, rfl, rfl⟩, ⟨_, h2, rfl, rfl⟩⟩, fresh5, q⟩
section
variable {X : Cx} {a b : Expr} {σ : L2.St} {F H : Hp} {pos : Pos}
theorem ei_zipN {α β θ : Type} [Rp α] [Rp β] [Rp θ] [TL θ β] {xs : List α} {ys : θ} {p tpos : Pos} {elts : List Expr} {kk : Nat} (ha : Ev X a σ F H xs) (hb : Ev X b σ F H ys) (hm : X.mg "zip" = none) (hg : Gl X "zip" := by rfl) (hs : starEach [a, b] X.env = (false, eval a X.env) :: starEach [b] X.env := by rfl) (hs2 : starEach [b] X.env = (false, eval b X.env) :: starEach [] X.env := by rfl)
    (hpl : (backTo pos (starEach [b] X.env)).any (·.1) = false := by rfl) : EvI X (.Tuple elts kk tpos) (.Call (.Name "zip" p) [a, b] [] pos) σ F H (zipL xs (TL.l ys)) := fun F1 H1 g R q =>
  GoI.of (pi_zipN hg hm (pa_cons pe_go (pa_cons pe_go pa_nil hs2) hs) hs hpl) (ha F1 H1 g _ fun v F2 H2 g2 r2 => hb F2 H2 (g.trans g2) _ fun w F3 H3 g3 r3 => by
    obtain ⟨p', vs', e', sq', rs'⟩ := TL.sq r3
    obtain ⟨p, vs, e, sq, rs⟩ := Rp.mono g3.ff r2
    refine ⟨p, p', vs, vs', by rw [e, e'], g3.fh.seq sq, sqT_mono g3.fh sq', q _ F3 H3 (g2.trans g3) fun i Fi Hi s1 s2 => ?_⟩
    have q1 := s2.seq (s1.seq sq)
    have q2 : SqT X.K Hi p' vs' := sqT_mono s2 (sqT_mono s1 sq')
    refine ⟨fun x hx => ?_, fun e => ⟨vs, vs', q1, q2, ?_, ?_, ?_⟩⟩
    · obtain ⟨h1, h2⟩ := zipL_get hx
      obtain ⟨y, hy, ry⟩ := rs.get h1
      obtain ⟨z, hz, rz⟩ := rs'.get h2
      refine ⟨⟨vs, vs', y, z, q1, q2, hy, hz⟩, fun v H' ⟨T, x1, y1, e1, e2, e3, e4, e5⟩ => ?_⟩
      subst e1; subst e3
      have e6 := e4 vs q1
      have e7 := e5 vs' q2
      rw [hy] at e6; rw [hz] at e7
      cases e6; cases e7
      exact pair_new s2 e2 (Rp.mono s1 ry) (Rp.mono s1 rz)
    · rw [e, zipL_len, rs.length]; omega
    · rw [e, zipL_len, rs'.length]; omega
    · rw [e, zipL_len, rs.length, rs'.length]; omega)
end
end Gx
namespace Gx
open PySem PySem.Spec PyProof.Rows L2
open Rp (rp)
open Ra (ra)
open Ob (ob)
/-! ### a def that gives a new record with a new list -/
section
variable {X : Cx} {K : PySem.W.Frag} {e : Expr} {es : List Expr} {σ : L2.St} {F H F0 H0 : Hp} {pos : Pos} {D : Ends} {rest : List Stmt} {α γ : Type} [Rp α] [Rp γ] {x : α} {ys : List γ} {cn n1 n2 : Str}
def PrRN (cn n1 n2 : Str) (K : PySem.W.Frag) {τ : Type} [Ra τ] (f : τ → Option (T2 α (List γ))) : Sp := fun vs H Q _ => ∃ F a r, SmX K F H ∧ ra K F vs a ∧ f a = some r ∧ ∀ u l o F' H', Gr F H F' H' → H l = none → F' l = none → H' l = some o → ob K F' o r.b → CR cn n1 n2 K F' u l r.a → Q u H'
theorem ern_call {τ : Type} [Ra τ] {f : τ → Option (T2 α (List γ))} {y : τ} {r : T2 α (List γ)} {k : Nat} {fa : Addr} {fd : FuncData} {ps : List Str} {x : Str} {p : Pos} (Fn : FnOk X.prog X.w X.K X.mg X.base CX0 k fa fd ps (PrRN cn n1 n2 X.K f)) (hr : Room k X.A) (hm : X.mg x = some (.ref fa))
    (hk : PySem.W.keepIn X.K (.ref fa) = true) (hb : Binds X.K fd ps []) (ha : EvA X (e :: es) σ F H y) (h : f y = some r) (hg : Gl X x := by rfl) (hdb : (x == ("__debug__" : Str)) = false := by decide)
    (he : starEach (e :: es) X.env = (false, eval e X.env) :: starEach es X.env := by rfl) (hpl : (backTo pos (starEach es X.env)).any (·.1) = false := by rfl) : EvRN cn n1 n2 X (.Call (.Name x p) (e :: es) [] pos) σ F H r.a r.b := fun F1 H1 g Q q =>
  GoE.of (pe_call Fn hr hg hm hk hb .nil pass0 pa_go hdb he hpl) (ha F1 H1 g _ fun vs F2 H2 g2 r2 => ⟨F2, y, r, (g.trans g2).sm, by rw [List.append_nil]; exact r2, h, fun u l o F3 H3 g3 n3 f3 h3 b3 c3 => q u l o F3 H3 (g2.trans g3) (g2.hh.free n3) f3 h3 b3 c3⟩)
theorem fn_okRN {P : Program} {w : World} {mg : Str → Option Value} {base : Heap} {τ : Type} [Ra τ] [RaN τ] {f : τ → Option (T2 α (List γ))} {x qual : Str} {s0 : Stmt} {fa : Addr} {fd : FuncData} {N ps : List Str} {k : Nat} (Fn : FunD K x qual (defArgs s0) (defBody s0) (defScope s0) [] [] fa fd) (S : FnScope N ps (defScope s0)) (hn : RaN.n τ = ps.length)
    (hbody : ∀ (cdv : Value) (A : Around) (outer : List Env) (s : Shared) (F H : Hp) (vs : List V) (a : τ) (r : T2 α (List γ)) (D : Ends) (E : XK), Room k (A.deeper (envOfC qual (defScope s0) s.heap.objs.size fa cdv)) → SmX K F H → ra K F vs a → f a = some r → (∀ u l o F' H', GrX K F H F' H' → H l = none → F' l = none → H' l = some o → ob K F' o r.b → CR cn n1 n2 K F' u l r.a → D.rt u H') →
      True → GoS (cxOf CX0 P w K mg base N qual (defScope s0) fa cdv A outer s H E).nox (defBody s0) D (start N vs) H) :
    FnOk P w K mg base CX0 (k + 1) fa fd ps (PrRN cn n1 n2 K f) := by
  refine Fn.ok S (fun vs H Q E ⟨F, a, r, _, ra', _⟩ => by rw [RaN.len ra', hn]) fun cdv A outer s H vs Q E hr ⟨F, a, r, sm, ra', hf, k⟩ => ?_
  exact ⟨_, PSs.nox pss_go, hbody cdv A outer s F H vs a r { nx := fun _ H' => Q .non H', rt := Q } E hr sm ra' hf (fun u l o F' H' g n f h r c => k u l o F' H' g.toGr n f h r c) trivial⟩
theorem go_retRN (s : SmX X.K F H) (he : EvRN cn n1 n2 X e σ F H x ys) (k : ∀ u l o F' H', Gr F H F' H' → H l = none → F' l = none → H' l = some o → ob X.K F' o ys → CR cn n1 n2 X.K F' u l x → D.rt u H') : GoS X (.Return (some e) pos :: rest) D σ H :=
  GoS.cons (ps_ret pe_go) (he F H (.refl s) _ fun u l o F2 H2 g n f h r c => k u l o F2 H2 g n f h r c)
end
end Gx

/-! Gke: a private list of private lists. -/
namespace Gx
open PySem PySem.Spec PyProof.Rows L2
open Rp (rp)
open Ra (ra)
open Ob (ob)
/-- an address -/
structure Ad where
  a : Addr
instance : Rp Ad := ⟨fun _ _ v x => v = .ref x.a, fun _ h => h⟩
section
variable {X : Cx} {K : PySem.W.Frag} {e a b c d : Expr} {es : List Expr} {σ : L2.St} {F H F0 H0 : Hp} {pos : Pos} {D : Ends} {st : Stmt} {rest body : List Stmt}
theorem Own.keepX {α : Type} [Rp α] [Ob α] {x : α} {l : Addr} {F' H' : Hp} (o : Own K H0 F H l x) (s : L2.Same F F') (k : F' l = F l ∧ H' l = H l) : Own K H0 F' H' l x := by
  obtain ⟨u, h, r⟩ := o.h
  exact ⟨o.n, k.1.trans o.f, u, k.2.trans h, Ob.mono s r⟩
theorem Own.base {α : Type} [Rp α] [Ob α] {x : α} {l : Addr} {H1 : Hp} (o : Own K H1 F H l x) (h : ∀ p, H1 p = none → H0 p = none) : Own K H0 F H l x := ⟨h l o.n, o.f, o.h⟩
/-- at l stands a private list whose items are private lists; none of them at ex -/
structure Own2 {α : Type} [Rp α] (K : PySem.W.Frag) (H0 F H : Hp) (l : Addr) (ex : List Addr) (x : List (List α)) : Prop where
  w : ∃ as : List Addr, Own K H0 F H l (as.map Ad.mk) ∧ Paired (fun a r => Own K H0 F H a r) as x ∧ (l :: as).Nodup ∧ ∀ b ∈ ex, b ∉ l :: as
section
variable {α : Type} [Rp α] {x : List (List α)} {l : Addr} {ex : List Addr}
theorem Own2.cg {y : List (List α)} (e : x = y) (o : Own2 K H0 F H l ex x) : Own2 K H0 F H l ex y := e ▸ o
theorem Own2.up {F' H' : Hp} (o : Own2 K H0 F H l ex x) (g : Gr F H F' H') : Own2 K H0 F' H' l ex x := by
  obtain ⟨as, o, p, nd, hx⟩ := o.w
  exact ⟨as, o.up g, L2.Paired.mapP p fun _ _ h => h.up g, nd, hx⟩
theorem paired_mapM {β γ : Type} {R S : β → γ → Prop} : ∀ {as : List β} {bs : List γ}, Paired R as bs → (∀ a ∈ as, ∀ b, R a b → S a b) → Paired S as bs
  | _, _, .nil, _ => .nil
  | _, _, .cons r t, h => .cons (h _ List.mem_cons_self _ r) (paired_mapM t fun a m => h a (List.mem_cons_of_mem _ m))
theorem Own2.mapA {F' H' : Hp} {ex' : List Addr} (o : Own2 K H0 F H l ex x) (h : ∀ {β : Type} [Rp β] [Ob β] {y : β} {a : Addr}, (∀ b ∈ ex, b ≠ a) → Own K H0 F H a y → Own K H0 F' H' a y) : Own2 K H0 F' H' l ex x := by
  obtain ⟨as, o, p, nd, hx⟩ := o.w
  exact ⟨as, h (fun b hb e => hx b hb (e ▸ List.mem_cons_self)) o, paired_mapM p fun a m _ r => h (fun b hb e => hx b hb (e ▸ List.mem_cons_of_mem _ m)) r, nd, hx⟩
theorem Own2.other {u : HO} {b : Addr} (o : Own2 K H0 F H l ex x) (h : b ∈ ex) : Own2 K H0 F (upd H b u) l ex x := o.mapA (ex' := ex) fun h2 o => o.other fun e => h2 b h e.symm
theorem Own2.keepF {F' H' : Hp} {b : Addr} (o : Own2 K H0 F H l ex x) (h : b ∈ ex) (s : L2.Same F F') (k : ∀ a, a ≠ b → F' a = F a ∧ H' a = H a) : Own2 K H0 F' H' l ex x := o.mapA (ex' := ex) fun h2 o => o.keepF (fun e => h2 b h e.symm) s k
theorem Own2.over {F' H' : Hp} {b : Addr} (o : Own2 K H0 F H l ex x) (h : b ∈ ex) (g : Gr F (er H b) F' H') : Own2 K H0 F' H' l ex x := o.mapA (ex' := ex) fun h2 o => o.over (fun e => h2 b h e.symm) g
theorem Own2.base {H1 : Hp} (o : Own2 K H1 F H l ex x) (h : ∀ p, H1 p = none → H0 p = none) : Own2 K H0 F H l ex x := by
  obtain ⟨as, o, p, nd, hx⟩ := o.w
  exact ⟨as, o.base h, L2.Paired.mapP p fun _ _ z => z.base h, nd, hx⟩
theorem Own2.ne0 (o : Own2 K H0 F H l ex x) : H l ≠ none := by
  obtain ⟨as, o, p, nd, hx⟩ := o.w
  exact o.ne0
theorem paired_l {β γ : Type} {R : β → γ → Prop} : ∀ {as : List β} {bs : List γ} {a : β}, Paired R as bs → a ∈ as → ∃ b ∈ bs, R a b
  | _, _, _, .nil, h => nomatch h
  | _, _, a, .cons r t, h => by
    rcases List.mem_cons.mp h with e | e
    · subst e; exact ⟨_, List.mem_cons_self, r⟩
    · obtain ⟨b, m, z⟩ := paired_l t e
      exact ⟨b, List.mem_cons_of_mem _ m, z⟩
theorem Own2.ext {p : Addr} (o : Own2 K H0 F H l ex x) (h : H p = none) : Own2 K H0 F H l (p :: ex) x := by
  obtain ⟨as, o, q, nd, hx⟩ := o.w
  refine ⟨as, o, q, nd, fun b hb => ?_⟩
  rcases List.mem_cons.mp hb with e | e
  · subst e
    intro m
    rcases List.mem_cons.mp m with e | e
    · subst e; exact o.ne0 h
    · obtain ⟨r, _, z⟩ := paired_l q e
      exact z.ne0 h
  · exact hx b e
/-- new behind H1, where something stands at p -/
theorem Own2.exO {H1 : Hp} {p : Addr} (o : Own2 K H1 F H l ex x) (h : H1 p ≠ none) : Own2 K H1 F H l (p :: ex) x := by
  obtain ⟨as, o, q, nd, hx⟩ := o.w
  refine ⟨as, o, q, nd, fun b hb => ?_⟩
  rcases List.mem_cons.mp hb with e | e
  · subst e
    intro m
    rcases List.mem_cons.mp m with e | e
    · subst e; exact h o.n
    · obtain ⟨r, _, z⟩ := paired_l q e
      exact h z.n
  · exact hx b e
theorem Own2.ne {b : Addr} (o : Own2 K H0 F H l ex x) (h : b ∈ ex) : b ≠ l := by
  obtain ⟨as, o, q, nd, hx⟩ := o.w
  exact fun e => hx b h (e ▸ List.mem_cons_self)
theorem thaw_in {J : Hp → Hp → Prop} (T : ∀ {γ : Type} [Rp γ] [Ob γ] {y : γ} {F H : Hp} {l : Addr}, Own K H0 F H l y → L2.Same F H → (∀ F' H', L2.Same F F' → L2.Same F' H' → rp K F' (.ref l) y → (∀ a, a ≠ l → F' a = F a ∧ H' a = H a) → J F' H') → J F H) :
    ∀ {as : List Addr} {xs : List (List α)} {F H : Hp}, Paired (fun a r => Own K H0 F H a r) as xs → as.Nodup → L2.Same F H → (∀ F' H', L2.Same F F' → L2.Same F' H' → Paired (fun a (r : List α) => rp K F' (.ref a) r) as xs → (∀ a, a ∉ as → F' a = F a ∧ H' a = H a) → J F' H') → J F H
  | _, _, F, H, .nil, _, s, k => k F H (.refl _) s .nil fun _ _ => ⟨rfl, rfl⟩
  | a :: as, r :: xs, F, H, .cons o p, nd, s, k => T o s fun F1 H1 s1 s2 r1 k1 => by
    obtain ⟨na, nd⟩ := List.nodup_cons.mp nd
    refine thaw_in T (as := as) (xs := xs) (paired_mapM p fun b m _ z => z.keepF (fun (e : b = a) => na (e ▸ m)) s1 k1) nd s2 fun F2 H2 s3 s4 rs k2 => ?_
    refine k F2 H2 (s1.trans s3) s4 (.cons (Rp.mono s3 r1) rs) fun b hb => ?_
    have h1 := k1 b fun e => hb (e ▸ List.mem_cons_self)
    have h2 := k2 b fun m => hb (List.mem_cons_of_mem _ m)
    exact ⟨h2.1.trans h1.1, h2.2.trans h1.2⟩
theorem rps_ads : ∀ {vs : List V} {as : List Addr} {xs : List (List α)}, Rps K F vs (as.map Ad.mk) → Paired (fun a (r : List α) => rp K F (.ref a) r) as xs → Rps K F vs xs
  | _, [], _, .nil, .nil => .nil
  | _, a :: as, _, .cons r t, .cons r2 t2 => .cons (by
    have e : _ = V.ref a := r
    rw [e]; exact r2) (rps_ads t t2)
theorem thaw_2 {J : Hp → Hp → Prop} (T : ∀ {γ : Type} [Rp γ] [Ob γ] {y : γ} {F H : Hp} {l : Addr}, Own K H0 F H l y → L2.Same F H → (∀ F' H', L2.Same F F' → L2.Same F' H' → rp K F' (.ref l) y → (∀ a, a ≠ l → F' a = F a ∧ H' a = H a) → J F' H') → J F H)
    (o : Own2 K H0 F H l ex x) (s : L2.Same F H) (k : ∀ F' H', L2.Same F F' → L2.Same F' H' → rp K F' (.ref l) x → (∀ a ∈ ex, F' a = F a ∧ H' a = H a) → J F' H') : J F H := by
  obtain ⟨as, o, p, nd, hx⟩ := o.w
  obtain ⟨nl, nd⟩ := List.nodup_cons.mp nd
  refine thaw_in T p nd s fun F1 H1 s1 s2 r1 k1 => T (o.keepX s1 (k1 l nl)) s2 fun F2 H2 s3 s4 r2 k2 => ?_
  refine k F2 H2 (s1.trans s3) s4 ?_ fun b hb => ?_
  · obtain ⟨q, vs, e, sq, rs⟩ := r2
    exact ⟨q, vs, e, sq, rps_ads rs (L2.Paired.mapP r1 fun _ _ z => Rp.mono s3 z)⟩
  · have h1 := k1 b fun m => hx b hb (List.mem_cons_of_mem _ m)
    have h2 := k2 b fun e => hx b hb (e ▸ List.mem_cons_self)
    exact ⟨h2.1.trans h1.1, h2.2.trans h1.2⟩
theorem ev_thaw2 {β : Type} [Rp β] [Flat β] {z : β} (o : Own2 X.K H0 F H l ex x) (s : L2.Same F H) (h : ∀ F' H', L2.Same F F' → L2.Same F' H' → rp X.K F' (.ref l) x → (∀ a ∈ ex, F' a = F a ∧ H' a = H a) → Ev X e σ F' H' z) : Ev X e σ F H z := thaw_2 (J := fun F H => Ev X e σ F H z) (fun o s k => ev_thaw o s k) o s h
theorem et_thaw2 {z : Bool} (o : Own2 X.K H0 F H l ex x) (s : L2.Same F H) (h : ∀ F' H', L2.Same F F' → L2.Same F' H' → rp X.K F' (.ref l) x → (∀ a ∈ ex, F' a = F a ∧ H' a = H a) → EvT X e σ F' H' z) : EvT X e σ F H z := thaw_2 (J := fun F H => EvT X e σ F H z) (fun o s k => et_thaw o s k) o s h
theorem Own2.freeze {st : List Stmt} (o : Own2 X.K H0 F H l ex x) (g : GrX X.K F0 H0 F H) (k : ∀ F' H', L2.Same F F' → L2.Same F' H' → GrX X.K F0 H0 F' H' → rp X.K F' (.ref l) x → (∀ a ∈ ex, F' a = F a ∧ H' a = H a) → GoS X st D σ H') : GoS X st D σ H :=
  thaw_2 (J := fun F H => GrX X.K F0 H0 F H → GoS X st D σ H) (fun o s k g => o.freeze g fun F' H' s1 s2 g' r kk => k F' H' s1 s2 r kk g') o g.fh (fun F' H' s1 s2 r kk g' => k F' H' s1 s2 g' r kk) g
end
/-! ### making one -/
def EvN2 {α : Type} [Rp α] (X : Cx) (e : Expr) (σ : L2.St) (F H : Hp) (x : List (List α)) : Prop := ∀ F1 H1, GrX X.K F H F1 H1 → ∀ Q : VK, (∀ l F2 H2, Gr F1 H1 F2 H2 → Own2 X.K H1 F2 H2 l [] x → Q (.ref l) H2) → GoE X e σ H1 Q
def CBn {γ : Type} [Rp γ] (X : Cx) (scope : Scope) (elt : Expr) (σ2 : L2.St) (F H : Hp) (o : Option (List γ)) : Prop := ∃ y, o = some y ∧ ∀ s H' C cl fp, EvN (blkX X scope s H' C cl fp) elt σ2 F H y
def CBni {γ : Type} [Rp γ] (X : Cx) (scope : Scope) (tst elt : Expr) (σ2 : L2.St) (F H : Hp) (o : Option (List γ)) : Prop := ∃ b, (∀ s H' C cl fp, EvT (blkX X scope s H' C cl fp) tst σ2 F H b) ∧ (b = true → CBn X scope elt σ2 F H o) ∧ (b = false → o = none)
theorem CBn.up {γ : Type} [Rp γ] {scope : Scope} {elt : Expr} {σ2 : L2.St} {F' H' : Hp} {o : Option (List γ)} (h : CBn X scope elt σ2 F H o) (g : Gr F H F' H') : CBn X scope elt σ2 F' H' o := by
  obtain ⟨y, e, h⟩ := h
  exact ⟨y, e, fun s H' C cl fp F1 H1 g1 => h s H' C cl fp F1 H1 (.pre g g1)⟩
theorem paired_snoc' {β γ : Type} {R : β → γ → Prop} {as : List β} {bs : List γ} {a : β} {b : γ} (h : Paired R as bs) (r : R a b) : Paired R (as ++ [a]) (bs ++ [b]) := by
  induction h with
  | nil => exact .cons r .nil
  | cons r' t ih => exact .cons r' ih
theorem comp_core2 {α γ : Type} [Rp α] [Rp γ] {tg iter elt : Expr} {scope : Scope} {g : TG} {tt : TT} {vs : List Nat} {xs : List α} {ys : List (List γ)} {f : α → Option (Option (List γ))} (hi : EvI X tg iter σ F H xs) (hr : compG f xs = some ys)
    (step : ∀ x o, f x = some o → ∀ F' H' v, GrX X.K F H F' H' → rp X.K F' v x → ∀ Q : L2.St → Hp → Prop, (∀ σ2, wipe σ2 vs = wipe σ vs → (∀ R : Bool → Hp → Prop, (∀ F2 H2, Gr F' H' F2 H2 → o = none → R false H2) → (∀ F2 H2, Gr F' H' F2 H2 → CBn X scope elt σ2 F2 H2 o → R true H2) → tt σ2 H' R) → Q σ2 H') → g v (wipe σ vs) H' Q)
    {F1 H1 : Hp} (g1 : GrX X.K F H F1 H1) {Q : VK} (q : ∀ l F2 H2, Gr F1 H1 F2 H2 → Own2 X.K H1 F2 H2 l [] ys → Q (.ref l) H2) : tLc (GoI X tg iter) g tt (GoEB X scope elt) vs σ H1 Q := by
  unfold compG at hr
  split at hr
  case isFalse => cases hr
  rename_i hz
  refine hi F1 H1 g1 _ fun J F2 H2 g2 wk L hL => ?_
  refine ⟨fun i m H => m = xs.length - i ∧ i ≤ xs.length ∧ ∃ Fi as zs ws, Gr F2 H2 Fi H ∧ Fi L = none ∧ H L = some (.lst (as.map V.ref)) ∧ Paired (fun a r => Own X.K H1 Fi H a r) as zs ∧ (L :: as).Nodup ∧ as.length ≤ i ∧ compM f (xs.drop i) = some ws ∧ zs ++ ws = ys,
    ⟨_, rfl, Nat.zero_le _, F2, [], [], ys, Gr.newP g2.fh hL trivial, g2.fh.free hL, upd_same, .nil, by simp, Nat.le_refl _, hr, rfl⟩, ?_⟩
  rintro i m Hi ⟨rfl, hle, Fi, as, zs, ws, gi, fL, hLi, rs, nd, hacc, hcm, hys⟩
  obtain ⟨w1, w2⟩ := wk i Fi Hi gi.ff gi.fh
  rcases Nat.lt_or_ge i xs.length with hlt | hge
  · obtain ⟨x, hx⟩ : ∃ x, xs[i]? = some x := ⟨xs[i], List.getElem?_eq_getElem hlt⟩
    obtain ⟨hgo, hy⟩ := w1 x hx
    have ed : xs.drop i = x :: xs.drop (i + 1) := by
      rw [List.drop_eq_getElem_cons hlt]
      rw [List.getElem?_eq_getElem hlt] at hx
      rw [Option.some.inj hx]
    rw [ed] at hcm
    unfold compM at hcm
    cases hf : f x with
    | none => rw [hf] at hcm; cases hcm
    | some o =>
      rw [hf] at hcm
      refine .inr ⟨hgo, fun H' => ∃ F' as' zs' ws', Gr F2 H2 F' H' ∧ F' L = none ∧ H' L = some (.lst (as'.map V.ref)) ∧ Paired (fun a r => Own X.K H1 F' H' a r) as' zs' ∧ (L :: as').Nodup ∧ as'.length ≤ i + 1 ∧ compM f (xs.drop (i + 1)) = some ws' ∧ zs' ++ ws' = ys,
        fun H' ⟨F', as', zs', ws', h1, h2, h3, h4, h4b, h5, h6, h7⟩ => ⟨xs.length - (i + 1), by omega, rfl, hlt, F', as', zs', ws', h1, h2, h3, h4, h4b, h5, h6, h7⟩, fun v H3 hv => ?_⟩
      obtain ⟨F3, g3, rv⟩ := hy v H3 hv
      refine step x o hf F3 H3 v ((g1.trans g2).trans (gi.trans g3)) rv _ fun σ2 ew ht => ⟨ew, ht _ (fun F4 H4 g4 eo => ?_) fun F4 H4 g4 ⟨y, eo, hev⟩ => ?_⟩
      · rw [if_neg Bool.false_ne_true]
        subst eo
        have gg := g3.trans g4
        exact ⟨F4, as, zs, ws, gi.trans gg, (gg.fr L _ hLi trivial).trans fL, gg.hh.k _ _ hLi trivial, L2.Paired.mapP rs fun _ _ z => z.up gg, nd, Nat.le_succ_of_le hacc, hcm, hys⟩
      · rw [if_pos rfl]
        subst eo
        obtain ⟨ws', hw, ew'⟩ := Option.map_eq_some_iff.mp hcm
        refine fun s H' C cl fp => hev s H' C cl fp F4 H4 (.refl (((g1.trans g2).trans (gi.trans g3)).trans g4).sm) _ fun u o5 F5 H5 g5 n5 f5 h5 b5 => ?_
        have g34 := g3.trans g4
        have gg : Gr Fi Hi F5 H5 := g34.trans g5
        have fL5 : F5 L = none := (gg.fr L _ hLi trivial).trans fL
        have hL5 : H5 L = some (.lst (as.map V.ref)) := gg.hh.k _ _ hLi trivial
        have hL4 : H4 L = some (.lst (as.map V.ref)) := g34.hh.k _ _ hLi trivial
        have uL : u ≠ L := fun e => by rw [e, hL4] at n5; cases n5
        have ua : u ∉ as := fun m => by
          obtain ⟨r, _, z⟩ := paired_l rs m
          exact (z.up g34).ne0 n5
        obtain ⟨nL, nd'⟩ := List.nodup_cons.mp nd
        refine ⟨as.map V.ref, hL5, by rw [List.length_map]; omega, F5, as ++ [u], zs ++ [y], ws', (gi.trans gg).poke hL fL5 ⟨_, hL5, trivial⟩ trivial, fL5, ?_, ?_, ?_, by rw [List.length_append]; simp; omega, hw, ?_⟩
        · rw [upd_same, List.map_append]; rfl
        · refine paired_snoc' (paired_mapM rs fun a m _ z => (z.up gg).other fun e => nL (e ▸ m)) ?_
          have ou : Own X.K H1 F5 H5 u y := ⟨g2.hh.free ((gi.trans g34).hh.free n5), f5, o5, h5, b5⟩
          exact ou.other uL
        · refine List.nodup_cons.mpr ⟨fun m => ?_, ?_⟩
          · rcases List.mem_append.mp m with m | m
            · exact nL m
            · exact uL (List.mem_singleton.mp m).symm
          · rw [List.nodup_append]
            exact ⟨nd', by simp, fun a m b mb e => by rw [List.mem_singleton] at mb; subst mb; subst e; exact ua m⟩
        · rw [List.append_assoc]
          show zs ++ (y :: ws') = ys
          rw [ew']; exact hys
  · have e : i = xs.length := by omega
    subst e
    rw [List.drop_length] at hcm
    have ew : ws = [] := (Option.some.inj hcm).symm
    subst ew
    rw [List.append_nil] at hys
    subst hys
    refine .inl ⟨w2 rfl, q L Fi Hi (g2.trans gi) ⟨as, ⟨g2.hh.free hL, fL, _, hLi, _, rfl, ?_⟩, rs, nd, fun _ h => nomatch h⟩⟩
    clear rs nd hLi hacc
    induction as with
    | nil => exact .nil
    | cons a as ih => exact .cons rfl ih
theorem en_comp2 {α γ : Type} [Rp α] [Rp γ] {tg iter elt : Expr} {scope : Scope} {g : TG} {own : List (Str × Nat)} {xs : List α} {ys : List (List γ)} {f : α → Option (Option (List γ))} (hN : X.N.Nodup) (hi : EvI X tg iter σ F H xs) (hr : compG f xs = some ys) (ok : BlkOk X.N X.env.scope scope own)
    (hg : ∀ (s : Shared) (H : Hp) (C : Addr) (cl : List (Str × Addr)) (fp : List Addr), PG (blkX X scope s H C cl fp) tg g)
    (step : ∀ x o, f x = some o → ∀ F' H' v, GrX X.K F H F' H' → rp X.K F' v x → ∀ Q : L2.St → Hp → Prop, (∀ σ2, wipe σ2 (own.map (·.2)) = wipe σ (own.map (·.2)) → CBn X scope elt σ2 F' H' o → Q σ2 H') → g v (wipe σ (own.map (·.2))) H' Q)
    (hc : X.calm = true := by rfl) (hs : ∀ x, foldedSetIterable iter X.env x = pure x := by intro _; rfl) : EvN2 X (.ListComp elt [⟨tg, iter, [], 0⟩] scope pos) σ F H ys := fun F1 H1 g1 Q q =>
  GoE.of (pe_lc hc hN pi_go ok hg (fun _ _ _ _ _ => pts_nil) pe_goB hs) (comp_core2 hi hr (fun x o hf F' H' v gr rv Q' k => step x o hf F' H' v gr rv Q' fun σ2 ew cb => k σ2 ew fun R _ r1 => r1 F' H' (.refl gr.fh) cb) g1 q)
theorem en_comp2i {α γ : Type} [Rp α] [Rp γ] {tg iter elt tst : Expr} {scope : Scope} {g : TG} {own : List (Str × Nat)} {xs : List α} {ys : List (List γ)} {f : α → Option (Option (List γ))} (hN : X.N.Nodup) (hi : EvI X tg iter σ F H xs) (hr : compG f xs = some ys) (ok : BlkOk X.N X.env.scope scope own)
    (hg : ∀ (s : Shared) (H : Hp) (C : Addr) (cl : List (Str × Addr)) (fp : List Addr), PG (blkX X scope s H C cl fp) tg g)
    (step : ∀ x o, f x = some o → ∀ F' H' v, GrX X.K F H F' H' → rp X.K F' v x → ∀ Q : L2.St → Hp → Prop, (∀ σ2, wipe σ2 (own.map (·.2)) = wipe σ (own.map (·.2)) → CBni X scope tst elt σ2 F' H' o → Q σ2 H') → g v (wipe σ (own.map (·.2))) H' Q)
    (hc : X.calm = true := by rfl) (hs : ∀ x, foldedSetIterable iter X.env x = pure x := by intro _; rfl) : EvN2 X (.ListComp elt [⟨tg, iter, [tst], 0⟩] scope pos) σ F H ys := fun F1 H1 g1 Q q =>
  GoE.of (pe_lc hc hN pi_go ok hg (fun s H C cl fp => pts_one (pt_goB s H C cl fp)) pe_goB hs) (comp_core2 hi hr (fun x o hf F' H' v gr rv Q' k => step x o hf F' H' v gr rv Q' fun σ2 ew ⟨b, ht, h1, h2⟩ => k σ2 ew fun R r0 r1 s Hb C cl fp => ht s Hb C cl fp F' H' (.refl gr.sm) R fun F2 H2 g2 => by
    cases b with
    | true => exact r1 F2 H2 g2 ((h1 rfl).up g2)
    | false => exact r0 F2 H2 g2 (h2 rfl)) g1 q)
theorem go_setN2 {α : Type} [Rp α] {x : List (List α)} {n : Str} {p : Pos} (i : Nat) (s : SmX X.K F H) (he : EvN2 X e σ F H x) (k : ∀ l F' H', Gr F H F' H' → Own2 X.K H F' H' l [] x → GoS X rest D (σ.set i (some (.ref l))) H') (hN : X.N.Nodup) (hi : X.N[i]? = some n := by rfl)
    (hx : Loc X.env.scope n := by first | exact Or.inl rfl | exact Or.inr rfl) (hs : swapsWith e (some (.Name n p)) pos.line X.env = pure false := by rfl) (hf : X.fn n = true ∨ X.env.scope.names.lookup n = some .local := by first | exact .inl rfl | exact .inr rfl) :
    GoS X (.Assign [.Name n p] e pos :: rest) D σ H :=
  GoS.cons (ps_set hN hi hx pe_go hs hf) (he F H (.refl s) _ fun l F2 H2 g o => k l F2 H2 g o)
theorem go_setLc2 {α γ : Type} [Rp α] [Rp γ] {tg iter elt : Expr} {scope : Scope} {g : TG} {own : List (Str × Nat)} {xs : List α} {ys : List (List γ)} {f : α → Option (Option (List γ))} {y : Str} {py cpos : Pos} (i : Nat) (s : SmX X.K F H) (hN : X.N.Nodup) (hi : EvI X tg iter σ F H xs) (hr : compG f xs = some ys) (ok : BlkOk X.N X.env.scope scope own)
    (hg : ∀ (s : Shared) (H : Hp) (C : Addr) (cl : List (Str × Addr)) (fp : List Addr), PG (blkX X scope s H C cl fp) tg g)
    (step : ∀ x o, f x = some o → ∀ F' H' v, GrX X.K F H F' H' → rp X.K F' v x → ∀ Q : L2.St → Hp → Prop, (∀ σ2, wipe σ2 (own.map (·.2)) = wipe σ (own.map (·.2)) → CBn X scope elt σ2 F' H' o → Q σ2 H') → g v (wipe σ (own.map (·.2))) H' Q)
    (k : ∀ l F' H', Gr F H F' H' → Own2 X.K H F' H' l [] ys → GoS X rest D (σ.set i (some (.ref l))) H')
    (hy : X.N[i]? = some y := by rfl) (hyl : X.env.scope.names.lookup y = some .local := by rfl) (hsw : swapsWith (.ListComp elt [⟨tg, iter, [], 0⟩] scope cpos) (some (.Name y py)) pos.line X.env = pure true := by exact sw_true rfl rfl rfl (by decide +kernel))
    (hc : X.calm = true := by rfl) (hs : ∀ x, foldedSetIterable iter X.env x = pure x := by intro _; rfl) : GoS X (.Assign [.Name y py] (.ListComp elt [⟨tg, iter, [], 0⟩] scope cpos) pos :: rest) D σ H :=
  GoS.cons (ps_setLc hc hN hy hyl hsw pi_go ok hg (fun _ _ _ _ _ => pts_nil) pe_goB hs) (comp_core2 hi hr (fun x o hf F' H' v gr rv Q' k => step x o hf F' H' v gr rv Q' fun σ2 ew cb => k σ2 ew fun R _ r1 => r1 F' H' (.refl gr.fh) cb) (.refl s) k)
theorem go_setLc2i {α γ : Type} [Rp α] [Rp γ] {tg iter elt tst : Expr} {scope : Scope} {g : TG} {own : List (Str × Nat)} {xs : List α} {ys : List (List γ)} {f : α → Option (Option (List γ))} {y : Str} {py cpos : Pos} (i : Nat) (s : SmX X.K F H) (hN : X.N.Nodup) (hi : EvI X tg iter σ F H xs) (hr : compG f xs = some ys) (ok : BlkOk X.N X.env.scope scope own)
    (hg : ∀ (s : Shared) (H : Hp) (C : Addr) (cl : List (Str × Addr)) (fp : List Addr), PG (blkX X scope s H C cl fp) tg g)
    (step : ∀ x o, f x = some o → ∀ F' H' v, GrX X.K F H F' H' → rp X.K F' v x → ∀ Q : L2.St → Hp → Prop, (∀ σ2, wipe σ2 (own.map (·.2)) = wipe σ (own.map (·.2)) → CBni X scope tst elt σ2 F' H' o → Q σ2 H') → g v (wipe σ (own.map (·.2))) H' Q)
    (k : ∀ l F' H', Gr F H F' H' → Own2 X.K H F' H' l [] ys → GoS X rest D (σ.set i (some (.ref l))) H')
    (hy : X.N[i]? = some y := by rfl) (hyl : X.env.scope.names.lookup y = some .local := by rfl) (hsw : swapsWith (.ListComp elt [⟨tg, iter, [tst], 0⟩] scope cpos) (some (.Name y py)) pos.line X.env = pure true := by exact sw_true rfl rfl rfl (by decide +kernel))
    (hc : X.calm = true := by rfl) (hs : ∀ x, foldedSetIterable iter X.env x = pure x := by intro _; rfl) : GoS X (.Assign [.Name y py] (.ListComp elt [⟨tg, iter, [tst], 0⟩] scope cpos) pos :: rest) D σ H :=
  GoS.cons (ps_setLc hc hN hy hyl hsw pi_go ok hg (fun s H C cl fp => pts_one (pt_goB s H C cl fp)) pe_goB hs) (comp_core2 hi hr (fun x o hf F' H' v gr rv Q' k => step x o hf F' H' v gr rv Q' fun σ2 ew ⟨b, ht, h1, h2⟩ => k σ2 ew fun R r0 r1 s Hb C cl fp => ht s Hb C cl fp F' H' (.refl gr.sm) R fun F2 H2 g2 => by
    cases b with
    | true => exact r1 F2 H2 g2 ((h1 rfl).up g2)
    | false => exact r0 F2 H2 g2 (h2 rfl)) (.refl s) k)
/-! ### t[x][y] = e -/
def setG2 {α : Type} (t : List (List α)) (i j : Int) (v : α) : Option (List (List α)) := match ixN t.length i with
  | none => none
  | some n => match t[n]? with
    | none => none
    | some r => (setG r j v).map fun r2 => t.set n r2
theorem paired_setA {β γ : Type} {R : β → γ → Prop} : ∀ {as : List β} {bs : List γ} {n : Nat} {a : β} {b : γ}, Paired R as bs → as[n]? = some a → R a b → Paired R as (bs.set n b)
  | _, _, _, _, _, .nil, _, _ => .nil
  | _, _, 0, _, _, .cons _ t, e, r => by
    have e : some _ = some _ := e
    cases e; exact .cons r t
  | _, _, n + 1, _, _, .cons r' t, e, r => .cons r' (paired_setA (n := n) t e r)
theorem paired_getA {β γ : Type} {R : β → γ → Prop} : ∀ {as : List β} {bs : List γ} {n : Nat} {b : γ}, Paired R as bs → bs[n]? = some b → ∃ a, as[n]? = some a ∧ R a b
  | _, _, _, _, .nil, h => nomatch h
  | _, _, 0, _, .cons r _, h => by
    have h : some _ = some _ := h
    cases h; exact ⟨_, rfl, r⟩
  | _, _, n + 1, _, .cons _ t, h => paired_getA (n := n) t h
/-- one of the lists within is changed -/
theorem paired_poke {α : Type} [Rp α] {u : HO} {r2 : List α} : ∀ {as : List Addr} {x : List (List α)} {n : Nat} {p : Addr}, Paired (fun a r => Own K H0 F H a r) as x → as.Nodup → as[n]? = some p → Own K H0 F (upd H p u) p r2 → Paired (fun a r => Own K H0 F (upd H p u) a r) as (x.set n r2)
  | _, _, _, _, .nil, _, _, _ => .nil
  | a :: as, _, 0, _, .cons _ t, nd, e, o => by
    have e : some a = some _ := e
    cases e
    obtain ⟨na, nd⟩ := List.nodup_cons.mp nd
    exact .cons o (paired_mapM t fun b m _ z => z.other fun e => na (e ▸ m))
  | a :: as, _, n + 1, p, .cons r t, nd, e, o => by
    obtain ⟨na, nd⟩ := List.nodup_cons.mp nd
    have e : as[n]? = some p := e
    exact .cons (r.other fun z => na (z ▸ List.mem_of_getElem? e)) (paired_poke t nd e o)
theorem go_set22 {α : Type} [Rp α] {x r : List (List α)} {l : Addr} {ex : List Addr} {k1 k2 : Int} {v : α} {n : Str} {a1 a2 : Expr} {p1 p2 p3 : Pos} (i : Nat) (s : SmX X.K F H) (o : Own2 X.K H0 F H l ex x) (hσ : σ[i]? = some (some (.ref l))) (he : Ev X e σ F H v) (hk1 : Ev X a1 σ F H k1) (hk2 : Ev X a2 σ F H k2) (h : setG2 x k1 k2 v = some r)
    (kk : ∀ p u F' H', Gr F H F' H' → H0 p = none → PlAt H' p → F' p = none → PlAt (upd H' p u) p → (∀ b ∈ ex, b ≠ p) → Own2 X.K H0 F' (upd H' p u) l ex r → GoS X rest D σ (upd H' p u)) (hp : PlainIx a1 := by exact fun _ _ => rfl) (hN : X.N[i]? = some n := by rfl) (hv : Vis X.env.scope n := by first | exact Or.inl rfl | exact Or.inr (Or.inl rfl) | exact Or.inr (Or.inr rfl))
    (hd : (n == ("__debug__" : Str)) = false := by decide) (hcd : (n == ("__classdict__" : Str)) = false := by decide)
    (ha : ∀ v, assign (.Subscript (.Subscript (.Name n p1) a1 p2) a2 p3) X.env v = (do
      let ov ← holding [v] (eval (.Subscript (.Name n p1) a1 p2) X.env)
      let iv ← holding [v, ov] (eval a2 X.env)
      standAt p3
      holding [v, ov, iv] (setItem ov iv v)
      release [v, ov, iv] []) := by intro _; rfl)
    (hs : swapsWithSole [.Subscript (.Subscript (.Name n p1) a1 p2) a2 p3] e pos.line X.env = pure false := by rfl) (hw : swappedStores [.Subscript (.Subscript (.Name n p1) a1 p2) a2 p3] e X.env = pure none := by rfl) (h1 : (assignEach [.Subscript (.Subscript (.Name n p1) a1 p2) a2 p3] X.env).map (·.2) = [assign (.Subscript (.Subscript (.Name n p1) a1 p2) a2 p3) X.env] := by rfl) :
    GoS X (.Assign [.Subscript (.Subscript (.Name n p1) a1 p2) a2 p3] e pos :: rest) D σ H := by
  unfold setG2 at h
  cases hn : ixN x.length k1 with
  | none => rw [hn] at h; cases h
  | some m =>
    rw [hn] at h
    dsimp only at h
    cases hm : x[m]? with
    | none => rw [hm] at h; cases h
    | some row =>
      rw [hm] at h
      obtain ⟨row2, hr2, rfl⟩ := Option.map_eq_some_iff.mp h
      obtain ⟨j, hj, rfl⟩ := Option.map_eq_some_iff.mp hr2
      obtain ⟨as, ol, pr, nd, hx⟩ := o.w
      obtain ⟨nl, nda⟩ := List.nodup_cons.mp nd
      obtain ⟨p, hpm, op⟩ := paired_getA pr hm
      refine GoS.cons (ps_asg pe_go (pg_sub (pe_ix ix_list (pe_var hN hv hd hcd) pe_go hp) pe_go set_list ha) hs hw h1) (he F H (.refl s) _ fun w F2 H2 g r => ?_)
      refine ⟨_, hσ, hk1 F2 H2 (s.gx g) _ fun w1 F3 H3 g3 r3 => ?_⟩
      have g23 := g.trans g3
      obtain ⟨_, hl, vs, rfl, rs⟩ := (ol.up g23).h
      have hvm : vs[m]? = some (.ref p) := by
        have : (as.map Ad.mk)[m]? = some ⟨p⟩ := by rw [List.getElem?_map, hpm]; rfl
        obtain ⟨y, hy, ry⟩ := rs.get this
        have ry : y = .ref p := ry
        rw [hy, ry]
      refine ⟨l, vs, k1, .ref p, rfl, r3, SqL.of hl, ?_, ?_⟩
      · unfold L2.atI
        rw [rs.length, List.length_map, pr.length, hn]
        exact hvm
      · refine hk2 F3 H3 (s.gx g23) _ fun w2 F4 H4 g4 r4 => ?_
        have g24 := g23.trans g4
        have op4 := op.up g24
        obtain ⟨_, hp4, ws, rfl, rw4⟩ := id op4.h
        refine ⟨p, ws, k2, j, rfl, r4, hp4, by rw [rw4.length]; exact hj, ?_⟩
        have on : Own X.K H0 F4 (upd H4 p (.lst (ws.set j w))) p (row.set j v) := Own.set op4.n op4.f (ob_lst (Rps.set (Rp.mono (g3.trans g4).ff r) j rw4))
        have pm := List.mem_of_getElem? hpm
        refine kk p _ F4 H4 g24 op4.n op4.pl op4.f on.pl (fun b hb e => hx b hb (e ▸ List.mem_cons_of_mem _ pm)) ⟨as, (ol.up g24).other (fun e => nl (e ▸ pm)), ?_, nd, hx⟩
        exact paired_poke (L2.Paired.mapP pr fun _ _ z => z.up g24) nda hpm on
end
end Gx

/-! Gkf: min and max of a list with default=. -/
namespace Gx
open PySem PySem.Spec PyProof.Rows L2
open Rp (rp)
open Ra (ra)
open Ob (ob)
def minDf (xs : List Int) (d : Int) : Int := xs.min?.getD d
def maxDf (xs : List Int) (d : Int) : Int := xs.max?.getD d
section
variable {X : Cx} {K : PySem.W.Frag} {e a b c d : Expr} {es : List Expr} {σ : L2.St} {F H F0 H0 : Hp} {pos : Pos}
theorem bt_min : bootBuiltins (Str.ofString "min") = some (.builtin "min") := by decide +kernel
theorem bt_max : bootBuiltins (Str.ofString "max") = some (.builtin "max") := by decide +kernel
theorem alike_is (ns : List Int) : PySem.W.AlikeAll (ns.map .int) := ⟨fun x hx y hy => by
  obtain ⟨i, _, rfl⟩ := List.mem_map.mp hx
  obtain ⟨j, _, rfl⟩ := List.mem_map.mp hy
  rfl, fun x hx => by
  obtain ⟨i, _, rfl⟩ := List.mem_map.mp hx
  exact fun e => nomatch e⟩
theorem depth_is : ∀ ns : List Int, PyData.depthAll (ns.map .int) ≤ 1
  | [] => by simp [PyData.depthAll]
  | n :: ns => by
    have := depth_is ns
    simp [PyData.depthAll, PyData.depth]
    omega
theorem ev_minDf {xs : List Int} {dv : Int} {j : Nat} {p kp cp : Pos} (hc : X.calm = true) (hu : X.A.units + 64 < cLine) (hn : X.mg "min" = none) (ha : Ev X a σ F H xs)
    (hg : Gl X "min" := by rfl) (hs : starEach [a] X.env = (false, eval a X.env) :: starEach [] X.env := by rfl) (he : backTo pos (starEach [a] X.env) = (false, eval a X.env) :: backTo pos (starEach [] X.env) := by rfl) (hpl : (backTo pos (starEach [a] X.env)).any (·.1) = false := by rfl) :
    Ev X (.Call (.Name "min" p) [a] [⟨some (Str.ofString "default"), .Constant (.int dv) j cp, kp⟩] pos) σ F H (minDf xs dv) := fun F1 H1 g Q q => .mk fun pins s I => by
  have ga := ha F1 H1 g (fun x H2 => ∃ F2, Gr F1 H1 F2 H2 ∧ rp X.K F2 x xs) fun x F2 H2 g2 r2 => ⟨F2, g2, r2⟩
  refine wpAny_Call_Name_kw (ld_blt I hg hn bt_min ?_)
  refine PyProof.Rows.callWith_kw (args_cons (thn (ga.o pins s I) fun v s1 ⟨x, H2, I1, r1, F2, g2, r2⟩ => args_nil ?_) hs) he hpl rfl rfl
  show wpAny _ _ (evalAll [(do let v ← eval (.Constant (.int dv) j cp) X.env; standAt pos; pure v)]) _ _ s1
  refine wpAny_evalAll_cons (wpAny_bind (thn (pe_int.run pins s1 σ H2 (fun y H3 => y = .int dv ∧ H3 = H2) I1 ⟨rfl, rfl⟩) fun w s2 ⟨y, H3, I2, r3, ey, eH⟩ => wpAny_bind (wpAny_standAt (wpAny_pure (wpAny_evalAll_nil ?_)))))
  subst eH; subst ey
  obtain ⟨t, rfl⟩ := r3
  obtain ⟨l, vs, el, sq, rs⟩ := r2
  subst el
  cases r1
  have ev := rps_ints rs
  subst ev
  obtain ⟨its, rv, pl, hz⟩ := I2.list (g2.fh.seq sq)
  have hI := rv.ints
  refine PySem.W.min_list_default (d := .int dv t) (I2.ok.hd hc) pl.isList (hI.reads s2.heap) (alike_is xs) (by have := depth_is xs; omega) (fun h0 h' tk hk => ?_) fun y ys i v h' tk bs hy hv r hk => ?_
  · have e0 : xs = [] := List.map_eq_nil_iff.mp h0
    subst e0
    exact ⟨.int dv, H3, I2.kept hk, ⟨_, rfl⟩, q _ F2 H3 g2 rfl⟩
  · cases xs with
    | nil => cases hy
    | cons n ns =>
      have hy : PyData.int n :: ns.map .int = y :: ys := hy
      obtain ⟨rfl, rfl⟩ := List.cons.inj hy
      rw [PySem.W.minD_ints] at r
      cases r
      refine ⟨.int (ns.foldl min n), H3, I2.kept hk, ⟨_, rfl⟩, q _ F2 H3 g2 ?_⟩
      show V.int _ = V.int _
      rfl
theorem ev_maxDf {xs : List Int} {dv : Int} {j : Nat} {p kp cp : Pos} (hc : X.calm = true) (hu : X.A.units + 64 < cLine) (hn : X.mg "max" = none) (ha : Ev X a σ F H xs)
    (hg : Gl X "max" := by rfl) (hs : starEach [a] X.env = (false, eval a X.env) :: starEach [] X.env := by rfl) (he : backTo pos (starEach [a] X.env) = (false, eval a X.env) :: backTo pos (starEach [] X.env) := by rfl) (hpl : (backTo pos (starEach [a] X.env)).any (·.1) = false := by rfl) :
    Ev X (.Call (.Name "max" p) [a] [⟨some (Str.ofString "default"), .Constant (.int dv) j cp, kp⟩] pos) σ F H (maxDf xs dv) := fun F1 H1 g Q q => .mk fun pins s I => by
  have ga := ha F1 H1 g (fun x H2 => ∃ F2, Gr F1 H1 F2 H2 ∧ rp X.K F2 x xs) fun x F2 H2 g2 r2 => ⟨F2, g2, r2⟩
  refine wpAny_Call_Name_kw (ld_blt I hg hn bt_max ?_)
  refine PyProof.Rows.callWith_kw (args_cons (thn (ga.o pins s I) fun v s1 ⟨x, H2, I1, r1, F2, g2, r2⟩ => args_nil ?_) hs) he hpl rfl rfl
  show wpAny _ _ (evalAll [(do let v ← eval (.Constant (.int dv) j cp) X.env; standAt pos; pure v)]) _ _ s1
  refine wpAny_evalAll_cons (wpAny_bind (thn (pe_int.run pins s1 σ H2 (fun y H3 => y = .int dv ∧ H3 = H2) I1 ⟨rfl, rfl⟩) fun w s2 ⟨y, H3, I2, r3, ey, eH⟩ => wpAny_bind (wpAny_standAt (wpAny_pure (wpAny_evalAll_nil ?_)))))
  subst eH; subst ey
  obtain ⟨t, rfl⟩ := r3
  obtain ⟨l, vs, el, sq, rs⟩ := r2
  subst el
  cases r1
  have ev := rps_ints rs
  subst ev
  obtain ⟨its, rv, pl, hz⟩ := I2.list (g2.fh.seq sq)
  have hI := rv.ints
  refine PySem.W.max_list_default (d := .int dv t) (I2.ok.hd hc) pl.isList (hI.reads s2.heap) (alike_is xs) (by have := depth_is xs; omega) (fun h0 h' tk hk => ?_) fun y ys i v h' tk bs hy hv r hk => ?_
  · have e0 : xs = [] := List.map_eq_nil_iff.mp h0
    subst e0
    exact ⟨.int dv, H3, I2.kept hk, ⟨_, rfl⟩, q _ F2 H3 g2 rfl⟩
  · cases xs with
    | nil => cases hy
    | cons n ns =>
      have hy : PyData.int n :: ns.map .int = y :: ys := hy
      obtain ⟨rfl, rfl⟩ := List.cons.inj hy
      rw [PySem.W.maxD_ints] at r
      cases r
      refine ⟨.int (ns.foldl max n), H3, I2.kept hk, ⟨_, rfl⟩, q _ F2 H3 g2 ?_⟩
      show V.int _ = V.int _
      rfl
end
end Gx
namespace Gx
open PySem PySem.Spec PyProof.Rows L2
open Rp (rp)
open Ra (ra)
open Ob (ob)
/-! ### zip of a list, a tuple and a list -/
def Itz3 (K : PySem.W.Frag) (a b c : Addr) : It :=
  ⟨fun i H => ∃ (xs ys zs : List V) (x y z : V), SqL K H a xs ∧ SqT K H b ys ∧ SqL K H c zs ∧ xs[i]? = some x ∧ ys[i]? = some y ∧ zs[i]? = some z,
    fun i H v H' => ∃ T x y z, v = .ref T ∧ H T = none ∧ H' = upd H T (.tup [x, y, z]) ∧ (∀ xs, SqL K H a xs → xs[i]? = some x) ∧ (∀ ys, SqT K H b ys → ys[i]? = some y) ∧ ∀ zs, SqL K H c zs → zs[i]? = some z,
    fun i H => ∃ xs ys zs : List V, SqL K H a xs ∧ SqT K H b ys ∧ SqL K H c zs ∧ i ≤ xs.length ∧ i ≤ ys.length ∧ i ≤ zs.length ∧ (i = xs.length ∨ i = ys.length ∨ i = zs.length)⟩
def st3 (z TI TO i1 i2 i3 a b c : Addr) (i : Nat) (h : Heap) : Prop := IsZip h z TI TO .none ∧ IsTupOf3 h TI (.ref i1) (.ref i2) (.ref i3) ∧ (∃ x y u, IsTupOf3 h TO x y u) ∧ h.IsListIter i1 a i ∧ h.IsTupleIter i2 b i ∧ h.IsListIter i3 c i
theorem mem6 {c z TI TO i1 i2 i3 : Addr} (h : c ∈ [z, TI, TO, i1, i2, i3]) : c = z ∨ c = TI ∨ c = TO ∨ c = i1 ∨ c = i2 ∨ c = i3 := by simpa using h
theorem turn_zip3 {P : Program} {w : World} {K : PySem.W.Frag} {elts : List Expr} {kk : Nat} {tpos : Pos} {a b c z TI TO i1 i2 i3 : Addr} (S : ZipSep3 z TI TO i1 i2 i3 [i1, a] [i2, b] [i3, c]) (zi1 : z ≠ i1) (zi2 : z ≠ i2) (zi3 : z ≠ i3) (na : a ≠ i1) (nb : b ≠ i2) (nc : c ≠ i3) :
    Turn P w K (.Tuple elts kk tpos) (Itz3 K a b c) [z, TI, TO, i1, i2, i3] z (st3 z TI TO i1 i2 i3 a b c) where
  mem := List.mem_cons_self
  obj := fun i h ⟨hz, hTI, ⟨x, y, u, hTO⟩, ⟨o1, e1, _, d1⟩, ⟨o2, e2, _, d2⟩, ⟨o3, e3, _, d3⟩⟩ c hc => by
    rcases mem6 hc with q | q | q | q | q | q <;> rw [q]
    · exact ⟨_, hz, fun v q => nomatch q⟩
    · exact ⟨_, hTI, fun v q => nomatch q⟩
    · exact ⟨_, hTO, fun v q => nomatch q⟩
    · exact ⟨o1, e1, fun v q => by rw [d1] at q; cases q⟩
    · exact ⟨o2, e2, fun v q => by rw [d2] at q; cases q⟩
    · exact ⟨o3, e3, fun v q => by rw [d3] at q; cases q⟩
  keep := fun i h h' ⟨hz, hTI, ⟨x, y, u, hTO⟩, h1, h2, h3⟩ k =>
    ⟨k z (by simp) _ hz, k TI (by simp) _ hTI, ⟨x, y, u, k TO (by simp) _ hTO⟩, h1.at fun o q => k i1 (by simp) o q, h2.at fun o q => k i2 (by simp) o q, h3.at fun o q => k i3 (by simp) o q⟩
  item := fun X hP hw hK hc i pins s σ H E I hf ⟨hz, hTI, ⟨x0, y0, u0, hTO⟩, h1, h2, h3⟩ ⟨xs, ys, zs, x, y, u, hqx, hqy, hqz, hx, hy, hu0⟩ => by
    subst hP hw hK
    obtain ⟨its, rv, p, _⟩ := I.list hqx
    obtain ⟨its2, rv2, p2, _⟩ := I.tuple hqy
    obtain ⟨its3, rv3, p3, _⟩ := I.list hqz
    obtain ⟨w1, hw1, rw1⟩ := rv.get hx
    obtain ⟨w2, hw2, rw2⟩ := rv2.get hy
    obtain ⟨w3, hw3, rw3⟩ := rv3.get hu0
    have hh : X.A.in1.handled = none := I.ok.hd hc
    have hzl : z < s.heap.objs.size := Heap.lt_size hz
    have b1 : i < its.toArray.size := by have := (List.getElem?_eq_some_iff.mp hw1).1; simpa using this
    have b2 : i < its2.toArray.size := by have := (List.getElem?_eq_some_iff.mp hw2).1; simpa using this
    have b3 : i < its3.toArray.size := by have := (List.getElem?_eq_some_iff.mp hw3).1; simpa using this
    refine wpAny_pyNext_zipD3_item S (Draws.list hh i1 a na its.toArray) (Draws.tuple hh i2 b nb its2.toArray) (Draws.list hh i3 c nc its3.toArray) hz hTI hTO ⟨h1, p.isList⟩ ⟨h2, p2⟩ ⟨h3, p3.isList⟩ b1 b2 b3 fun v1 v2 v3 h' tk q1 q2 q3 z' TO' s1 s2 s3 hT hsz hk => ?_
    have q1 : its[i]? = some v1 := by simpa using q1
    have q2 : its2[i]? = some v2 := by simpa using q2
    have q3 : its3[i]? = some v3 := by simpa using q3
    rw [hw1] at q1; rw [hw2] at q2; rw [hw3] at q3; cases q1; cases q2; cases q3
    refine ⟨_, rfl, wpAny_letOwnedTupleGo_zip (s := { s with heap := h', toks := tk }) z' fun h'' z'' sb => ?_⟩
    have hT2 : h''.get? s.heap.objs.size = some { cls := .type "tuple", data := .seq #[w1, w2, w3] } := (sb.2 _ (Nat.ne_of_gt hzl)).trans hT
    have new : ObjOk X.prog X.w (upd H s.heap.objs.size (.tup [x, y, u])) h'' s.heap.objs.size (.tup [x, y, u]) :=
      ⟨by show 3 ≤ sizeLine; decide, [w1, w2, w3], .cons rw1 (.cons rw2 (.cons rw3 .nil)), ⟨_, hT2, rfl, _, rfl⟩⟩
    have I1 : Inv X pins σ (upd H s.heap.objs.size (.tup [x, y, u])) { s with heap := h'', toks := tk } :=
      I.turnedNew (t' := tk) (ch := [z, TI, TO, i1, i2, i3]) (fun c o hb q => (sb.2 c (fun q' => hb (by simp [q']))).trans (hk c o (fun q' => hb (by simp [q'])) (fun q' => hb (by simp [q'])) (fun q' => hb (by simp [q'])) (fun q' => hb (by simp [q'])) (fun q' => hb (by simp [q'])) q)) hf (Nat.le_refl _) new
    refine ⟨.ref s.heap.objs.size, _, I1, rfl, ⟨_, x, y, u, rfl, I.hok.fresh (Nat.le_refl _), rfl, fun l hl => by rw [I.list_inj hl hqx]; exact hx, fun l hl => by rw [I.tuple_inj hl hqy]; exact hy, fun l hl => by rw [I.list_inj hl hqz]; exact hu0⟩, ⟨z'', ?_, ⟨w1, w2, w3, ?_⟩, ?_, ?_, ?_⟩, fun c hcm => ?_⟩
    · exact (sb.2 _ S.TIz).trans (hk _ _ S.TIz S.TITO S.TIi1 S.TIi2 S.TIi3 hTI)
    · exact (sb.2 _ S.TOz).trans TO'
    · exact s1.1.at fun o q => (sb.2 _ zi1.symm).trans q
    · exact s2.1.at fun o q => (sb.2 _ zi2.symm).trans q
    · exact s3.1.at fun o q => (sb.2 _ zi3.symm).trans q
    · have hlt : c < s.heap.objs.size := by
        rcases mem6 hcm with q | q | q | q | q | q <;> rw [q]
        · exact hzl
        · exact Heap.lt_size hTI
        · exact Heap.lt_size hTO
        · obtain ⟨_, e1, _⟩ := h1; exact Heap.lt_size e1
        · obtain ⟨_, e2, _⟩ := h2; exact Heap.lt_size e2
        · obtain ⟨_, e3, _⟩ := h3; exact Heap.lt_size e3
      rw [upd_ne (Nat.ne_of_lt hlt)]
      exact (hf c hcm).1
  done := fun X hP hw hK hc i pins s σ H E I hf ⟨hz, hTI, ⟨x0, y0, u0, hTO⟩, h1, h2, h3⟩ ⟨xs, ys, zs, hqx, hqy, hqz, le1, le2, le3, hend⟩ => by
    subst hP hw hK
    obtain ⟨its, rv, p, _⟩ := I.list hqx
    obtain ⟨its2, rv2, p2, _⟩ := I.tuple hqy
    obtain ⟨its3, rv3, p3, _⟩ := I.list hqz
    have l1 := rv.length
    have l2 := rv2.length
    have l3 := rv3.length
    have hh : X.A.in1.handled = none := I.ok.hd hc
    exact wpAny_pyNext_zipD3_end S (Draws.list hh i1 a na its.toArray) (Draws.tuple hh i2 b nb its2.toArray) (Draws.list hh i3 c nc its3.toArray) hz hTI hTO ⟨h1, p.isList⟩ ⟨h2, p2⟩ ⟨h3, p3.isList⟩ (by simp; omega) (by simp; omega) (by simp; omega) (by simp; omega) fun h' tk hk =>
      ⟨rfl, I.turnedL (t' := tk) (ch := [z, TI, TO, i1, i2, i3]) (fun c o hb q => hk c o (fun q' => hb (by simp [q'])) (fun q' => hb (by simp [q'])) (fun q' => hb (by simp [q'])) (fun q' => hb (by simp [q'])) (fun q' => hb (by simp [q'])) q) hf⟩
  self := fun A i s Q E st h => wpAny_pyIter_zip st.1 h
def iZip3 (K : PySem.W.Frag) (ta : TA) : TI := fun σ H R => ta σ H fun vs H1 => ∃ a b c xs ys zs, vs = [.ref a, .ref b, .ref c] ∧ SqL K H1 a xs ∧ SqT K H1 b ys ∧ SqL K H1 c zs ∧ R (Itz3 K a b c) H1
theorem pi_zip3 {X : Cx} {e e2 e3 : Expr} {ta : TA} {p pos tpos : Pos} {elts : List Expr} {kk : Nat} (hg : Gl X "zip") (hm : X.mg "zip" = none) (ha : PA X [e, e2, e3] ta)
    (hs : starEach [e, e2, e3] X.env = (false, eval e X.env) :: starEach [e2, e3] X.env := by rfl) (hpl : (backTo pos (starEach [e2, e3] X.env)).any (·.1) = false := by rfl) :
    PI X (.Tuple elts kk tpos) (.Call (.Name "zip" p) [e, e2, e3] [] pos) (iZip3 X.K ta) := by
  refine ⟨fun pins s σ H R I h => ?_⟩
  refine Call_ (ld_blt I hg hm PyProof.Rows.boot_zip (PyProof.Rows.callWith_type1 (thn (ha.run pos pins s σ H _ I h) fun us s1 ⟨vs, H1, I1, r1, q1⟩ => ?_) hs hpl))
  obtain ⟨a, b, c, xs, ys, zs, rfl, hqx, hqy, hqz, q⟩ := q1
  obtain ⟨u, u2, u3, rfl, ru, ru2, ru3⟩ : ∃ u u2 u3, us = [u, u2, u3] ∧ RelV (.ref a) u ∧ RelV (.ref b) u2 ∧ RelV (.ref c) u3 := by
    cases r1 with
    | cons r rr => cases rr with
      | cons r' rr => cases rr with
        | cons r'' rr => cases rr; exact ⟨_, _, _, rfl, r, r', r''⟩
  obtain rfl : u = Value.ref a := ru
  obtain rfl : u2 = Value.ref b := ru2
  obtain rfl : u3 = Value.ref c := ru3
  have fresh6 : ∀ d, d ∈ [s1.heap.objs.size + 5, s1.heap.objs.size + 3, s1.heap.objs.size + 4, s1.heap.objs.size, s1.heap.objs.size + 1, s1.heap.objs.size + 2] → FpOk X pins H1 d := fun d hcm => by
    have hle : s1.heap.objs.size ≤ d := by
      rcases mem6 hcm with z | z | z | z | z | z <;> rw [z] <;> first | exact Nat.le_refl _ | exact Nat.le_add_right _ _
    exact I1.fpOk hle (I1.hok.fresh hle)
  obtain ⟨its, rv, p1, _⟩ := I1.list hqx
  obtain ⟨its2, rv2, p2, _⟩ := I1.tuple hqy
  obtain ⟨its3, rv3, p3, _⟩ := I1.list hqz
  obtain ⟨o2, ho2, _⟩ := id p2
  have la : a < s1.heap.objs.size := p1.lt
  have lb : b < s1.heap.objs.size := Heap.lt_size ho2
  have lc : c < s1.heap.objs.size := p3.lt
  refine zip_begins3 (begins_list a its.toArray) (begins_tuple b its2.toArray) (begins_list c its3.toArray) p1.isList p2 p3.isList fun h' hz hTI hTO h1 h2 h3 hsz hk => wpAny_pyIter_zip hz ?_
  have I2 : Inv X pins σ H1 { s1 with heap := h' } := I1.kept (t' := s1.toks) hk
  have ne0 : (s1.heap.objs.size + 5 : Nat) ≠ s1.heap.objs.size := by omega
  have ne1 : (s1.heap.objs.size + 5 : Nat) ≠ s1.heap.objs.size + 1 := by omega
  have ne2 : (s1.heap.objs.size + 5 : Nat) ≠ s1.heap.objs.size + 2 := by omega
  exact ⟨s1.heap.objs.size + 5, [s1.heap.objs.size + 5, s1.heap.objs.size + 3, s1.heap.objs.size + 4, s1.heap.objs.size, s1.heap.objs.size + 1, s1.heap.objs.size + 2], _, _, H1, rfl, I2,
    turn_zip3 (zip_sep3 (fp1 := [a]) (fp2 := [b]) (fp3 := [c]) (fun d hd => by rw [List.mem_singleton.mp hd]; exact la) (fun d hd => by rw [List.mem_singleton.mp hd]; exact lb) (fun d hd => by rw [List.mem_singleton.mp hd]; exact lc)) ne0 ne1 ne2 (Nat.ne_of_lt la) (Nat.ne_of_lt (Nat.lt_succ_of_lt lb)) (Nat.ne_of_lt (Nat.lt_succ_of_lt (Nat.lt_succ_of_lt lc))), ⟨hz, hTI, ⟨_, _, _, hTO⟩, ⟨_, h1, rfl, rfl⟩, ⟨_, h2, rfl, rfl⟩, ⟨_, h3, rfl, rfl⟩⟩, fresh6, q⟩
def zipL3 {α β γ : Type} : List α → List β → List γ → List (T3 α β γ)
  | x :: xs, y :: ys, z :: zs => ⟨x, y, z⟩ :: zipL3 xs ys zs
  | _, _, _ => []
theorem zipL3_get {α β γ : Type} {xs : List α} {ys : List β} {zs : List γ} {i : Nat} {t : T3 α β γ} (h : (zipL3 xs ys zs)[i]? = some t) : xs[i]? = some t.a ∧ ys[i]? = some t.b ∧ zs[i]? = some t.c := by
  induction i generalizing xs ys zs with
  | zero =>
    cases xs with
    | nil => simp [zipL3] at h
    | cons x xs => cases ys with
      | nil => simp [zipL3] at h
      | cons y ys => cases zs with
        | nil => simp [zipL3] at h
        | cons z zs =>
          have h : some (T3.mk x y z) = some t := h
          cases h; exact ⟨rfl, rfl, rfl⟩
  | succ i ih =>
    cases xs with
    | nil => simp [zipL3] at h
    | cons x xs => cases ys with
      | nil => simp [zipL3] at h
      | cons y ys => cases zs with
        | nil => simp [zipL3] at h
        | cons z zs =>
          have h : (zipL3 xs ys zs)[i]? = some t := h
          exact ih h
theorem zipL3_len {α β γ : Type} : ∀ (xs : List α) (ys : List β) (zs : List γ), (zipL3 xs ys zs).length = min (min xs.length ys.length) zs.length
  | [], _, _ => by simp [zipL3]
  | _ :: _, [], _ => by simp [zipL3]
  | _ :: _, _ :: _, [] => by simp [zipL3]
  | x :: xs, y :: ys, z :: zs => by
    have := zipL3_len xs ys zs
    simp only [zipL3, List.length_cons, this]
    omega
section
variable {X : Cx} {K : PySem.W.Frag} {a b c : Expr} {σ : L2.St} {F H : Hp} {pos : Pos}
theorem trip_new {α β γ : Type} [Rp α] [Rp β] [Rp γ] {T : Addr} {v w u : V} {x : α} {y : β} {z : γ} (s : L2.Same F H) (hT : H T = none) (rv : rp K F v x) (rw' : rp K F w y) (ru : rp K F u z) : ∃ F', Gr F H F' (upd H T (.tup [v, w, u])) ∧ rp K F' (.ref T) (T3.mk x y z) :=
  ⟨_, Gr.new s hT, T, [v, w, u], rfl, upd_same, v, [w, u], rfl, Rp.mono (same_upd (s.free hT)) rv, w, [u], rfl, Rp.mono (same_upd (s.free hT)) rw', u, [], rfl, Rp.mono (same_upd (s.free hT)) ru, rfl⟩
theorem ei_zip3 {α β γ θ : Type} [Rp α] [Rp β] [Rp γ] [Rp θ] [TL θ β] {xs : List α} {ys : θ} {zs : List γ} {p tpos : Pos} {elts : List Expr} {kk : Nat} (ha : Ev X a σ F H xs) (hb : Ev X b σ F H ys) (hcc : Ev X c σ F H zs) (hm : X.mg "zip" = none) (hg : Gl X "zip" := by rfl) (hs : starEach [a, b, c] X.env = (false, eval a X.env) :: starEach [b, c] X.env := by rfl) (hs2 : starEach [b, c] X.env = (false, eval b X.env) :: starEach [c] X.env := by rfl) (hs3 : starEach [c] X.env = (false, eval c X.env) :: starEach [] X.env := by rfl)
    (hpl : (backTo pos (starEach [b, c] X.env)).any (·.1) = false := by rfl) : EvI X (.Tuple elts kk tpos) (.Call (.Name "zip" p) [a, b, c] [] pos) σ F H (zipL3 xs (TL.l ys) zs) := fun F1 H1 g R q =>
  GoI.of (pi_zip3 hg hm (pa_cons pe_go (pa_cons pe_go (pa_cons pe_go pa_nil hs3) hs2) hs) hs hpl) (ha F1 H1 g _ fun v F2 H2 g2 r2 => hb F2 H2 (g.trans g2) _ fun w F3 H3 g3 r3 => hcc F3 H3 ((g.trans g2).trans g3) _ fun w4 F4 H4 g4 ⟨p'', vs'', e'', sq'', rs''⟩ => by
    obtain ⟨p', vs', e', sq', rs'⟩ := TL.sq (Rp.mono g4.ff r3)
    obtain ⟨p, vs, e, sq, rs⟩ := Rp.mono (g3.ff.trans g4.ff) r2
    refine ⟨p, p', p'', vs, vs', vs'', by rw [e, e', e''], g4.fh.seq sq, sqT_mono g4.fh sq', g4.fh.seq sq'', q _ F4 H4 ((g2.trans g3).trans g4) fun i Fi Hi s1 s2 => ?_⟩
    have q1 := s2.seq (s1.seq sq)
    have q2 : SqT X.K Hi p' vs' := sqT_mono s2 (sqT_mono s1 sq')
    have q3 := s2.seq (s1.seq sq'')
    refine ⟨fun x hx => ?_, fun e => ⟨vs, vs', vs'', q1, q2, q3, ?_, ?_, ?_, ?_⟩⟩
    · obtain ⟨h1, h2, h3⟩ := zipL3_get hx
      obtain ⟨y, hy, ry⟩ := rs.get h1
      obtain ⟨z, hz, rz⟩ := rs'.get h2
      obtain ⟨u, hu, ru⟩ := rs''.get h3
      refine ⟨⟨vs, vs', vs'', y, z, u, q1, q2, q3, hy, hz, hu⟩, fun v H' ⟨T, x1, y1, z1, e1, e2, e3, e4, e5, e6⟩ => ?_⟩
      subst e1; subst e3
      have e7 := e4 vs q1
      have e8 := e5 vs' q2
      have e9 := e6 vs'' q3
      rw [hy] at e7; rw [hz] at e8; rw [hu] at e9
      cases e7; cases e8; cases e9
      exact trip_new s2 e2 (Rp.mono s1 ry) (Rp.mono s1 rz) (Rp.mono s1 ru)
    · rw [e, zipL3_len, rs.length]; omega
    · rw [e, zipL3_len, rs'.length]; omega
    · rw [e, zipL3_len, rs''.length]; omega
    · rw [e, zipL3_len, rs.length, rs'.length, rs''.length]; omega)
end
end Gx

/-! Gkg: values of two kinds; dicts whose keys are tuples: list(d.values()), list(d.items()), enumerate(d). -/
namespace Gx
open PySem PySem.Spec PyProof.Rows L2
open Rp (rp)
open Ra (ra)
open Ob (ob)
/-- one of two kinds -/
inductive Sm (α β : Type) where
  | l (x : α)
  | r (y : β)
  deriving DecidableEq
def Sm.asl {α β : Type} : Sm α β → Option α
  | .l x => some x
  | .r _ => none
def Sm.asr {α β : Type} : Sm α β → Option β
  | .l _ => none
  | .r y => some y
section
variable {α β : Type} [Rp α] [Rp β]
def rpSm (K : PySem.W.Frag) (F : Hp) (v : V) : Sm α β → Prop
  | .l x => rp K F v x
  | .r y => rp K F v y
instance : Rp (Sm α β) := ⟨rpSm, fun {K F F' v x} s h => by
  cases x with
  | l x => exact Rp.mono (α := α) s h
  | r y => exact Rp.mono (α := β) s h⟩
instance [NN α] [NN β] : NN (Sm α β) := ⟨fun {K F x} h => by
  cases x with
  | l x => exact NN.nn (α := α) h
  | r y => exact NN.nn (α := β) h⟩
instance [FlatD α] [FlatD β] : FlatD (Sm α β) := ⟨fun {K F l v x} h1 h => by
  cases x with
  | l x => exact FlatD.fl (α := α) h1 h
  | r y => exact FlatD.fl (α := β) h1 h⟩
variable {X : Cx} {e : Expr} {σ : L2.St} {F H : Hp}
theorem ev_sml {x : α} (h : Ev X e σ F H x) : Ev X e σ F H (Sm.l x : Sm α β) := h.re fun _ _ r => r
theorem ev_smr {y : β} (h : Ev X e σ F H y) : Ev X e σ F H (Sm.r y : Sm α β) := h.re fun _ _ r => r
theorem ev_asl {x : α} {s : Sm α β} (h : Ev X e σ F H s) (hs : s.asl = some x) : Ev X e σ F H x := by
  cases s with
  | l y => cases hs; exact h.re fun _ _ r => r
  | r y => cases hs
theorem ev_asr {x : β} {s : Sm α β} (h : Ev X e σ F H s) (hs : s.asr = some x) : Ev X e σ F H x := by
  cases s with
  | l y => cases hs
  | r y => cases hs; exact h.re fun _ _ r => r
def smAll {κ : Type} : List (κ × Sm α β) → Option (List (κ × β))
  | [] => some []
  | p :: l => match p.2 with
    | .r y => (smAll l).map ((p.1, y) :: ·)
    | .l _ => none
/-- all values are of the second kind -/
def Dct.allr {κ : Type} (m : Dct κ (Sm α β)) : Option (Dct κ β) := (smAll m.l).map Dct.mk
theorem smAll_kr {κ : Type} {K : PySem.W.Frag} {F : Hp} : ∀ {kvs : List (κ × V)} {l : List (κ × Sm α β)} {r : List (κ × β)}, KR K F kvs l → smAll l = some r → KR K F kvs r
  | _, [], _, .nil, e => by
    have e : some [] = some _ := e
    cases e; exact .nil
  | _, (k, .r y) :: l, r, .cons h t, e => by
    obtain ⟨r', e', rfl⟩ := Option.map_eq_some_iff.mp (show (smAll l).map (fun z => (k, y) :: z) = some r from e)
    exact .cons h (smAll_kr t e')
  | _, (k, .l x) :: l, r, _, e => by
    have e : none = some r := e
    cases e
theorem ev_allr {κ : Type} [Rp κ] [DecidableEq κ] [DKey κ] {m : Dct κ (Sm α β)} {r : Dct κ β} (h : Ev X e σ F H m) (hr : m.allr = some r) : Ev X e σ F H r := h.re fun _ _ ⟨a, o, kvs, e, q, kr⟩ => by
  obtain ⟨l, hl, rfl⟩ := Option.map_eq_some_iff.mp hr
  exact ⟨a, o, kvs, e, q, smAll_kr kr hl⟩
end
/-! ### list(d.values()), keys that are tuples -/
theorem kt_vals {H : Hp} : ∀ {kvs : List (List Key × V)} {xs : List (List Key × Addr × Value)}, KT H kvs xs → Vals (kvs.map (·.2)) (xs.map (·.2.2))
  | _, _, .nil => .nil
  | _, _, .cons h t => .cons h.2.2 (kt_vals t)
def tListValsT (te : TE) : TE := fun σ H Q => te σ H fun x H1 => ∃ d kvs, x = .ref d ∧ Rd H1 d (.dT kvs) ∧ ∀ p, H1 p = none → Q (.ref p) (upd H1 p (.lst (kvs.map (·.2))))
theorem pe_listValsT {X : Cx} {e : Expr} {pos : Pos} {te : TE} {p apos cpos : Pos} (hc : X.calm = true) (he : PE X e te) (hg : Gl X "list") (hm : X.mg "list" = none) (hv : bootBuiltins "list" = some (.type "list")) (hbase : attributeBase e "values" X.env (eval e X.env) = eval e X.env := by rfl) (hline : (apos.endLine == cpos.line) = true := by rfl)
    (hs : starEach [.Call (.Attribute e "values" apos) [] [] cpos] X.env = (false, eval (.Call (.Attribute e "values" apos) [] [] cpos) X.env) :: starEach [] X.env := by rfl) :
    PE X (.Call (.Name "list" p) [.Call (.Attribute e "values" apos) [] [] cpos] [] pos) (tListValsT te) := by
  refine ⟨fun pins s σ H Q I hq => ?_⟩
  refine wpAny_Call_Name_kw (ld_blt I hg hm hv ?_)
  refine PyProof.Rows.callWith_type1 ?_ hs rfl
  rw [hs]
  show wpAny _ _ (spliced ((false, eval (.Call (.Attribute e "values" apos) [] [] cpos) X.env) :: backTo pos (starEach [] X.env))) _ _ s
  refine Calls.spliced_cons ?_
  refine wpAny_Call_method (T := "dict") (id := "dict.values") hbase rfl hline F.plainAttrs_dict F.slot_dict_values F.type_dict_values (thn (he.run pins s σ H _ I hq) fun u s1 ⟨x, H1, I1, rx, d, kvs, ex, hd, q⟩ => ?_)
  subst ex
  obtain rfl : u = Value.ref d := rx
  obtain ⟨hz, hs0, xs, kt, o, es, ep, ho, hx, hdt, hes, _⟩ := dt_rd I1.hok hd
  have raw : s1.heap.DictRaw d es ep := ⟨o, ho, hx, hdt⟩
  have lk : kvs.length = xs.length := Paired.length kt
  have le : es.size = xs.length := size_of_entries hes
  have I2 : Inv X pins σ H1 { s1 with heap := s1.heap.push { cls := .type "dict_values", data := .fields #[.ref d] } } := I1.kept (t' := s1.toks) fun b ob q => Heap.get?_push_of_some _ q
  refine ⟨raw.typeIs, fun a ea => by cases ea; exact ⟨o, ho, hx.2.1⟩, ?_⟩
  show wpAny _ _ (callWith cpos (.builtin "dict.values") [.ref d] [] []) _ X.xe s1
  refine method_meetsIn F.slot_dict_values F.entry_dict_values rfl (PySem.evalArgs_none ⟨rfl, raw.typeIs, F.args_dict_values_1 _, _, meets_dict_values_raw d hs0, ?_⟩)
  refine ⟨⟨es, ep, raw⟩, ?_⟩
  refine Calls.spliced_nil ?_
  refine PySem.W.kdl_call (KdlSrc.rawValues (es := es) (ep := ep)) (I1.ok.hd hc) ⟨⟨_, Heap.get?_push_size _ rfl, rfl, rfl⟩, raw.at fun o q => Heap.get?_push_of_some _ q⟩ (by omega) fun h' tk acc c' hk hD hacc => ?_
  have ev : acc.toList = xs.map (·.2.2) := by
    refine List.ext_getElem? fun j => ?_
    rw [Array.getElem?_toList]
    rcases Nat.lt_or_ge j es.size with hj | hj
    · obtain ⟨v, hv'⟩ : ∃ v, acc[j]? = some v := ⟨_, Array.getElem?_eq_getElem (by rw [hacc.1]; exact hj)⟩
      obtain ⟨hi, rfl⟩ := hacc.2 j v hv'
      have q := entry_at hes j
      rw [hv', List.getElem?_map]
      rw [Array.getElem?_eq_getElem hi] at q
      cases hxj : xs[j]? with
      | none => rw [hxj] at q; cases q
      | some x =>
        rw [hxj] at q
        rw [Option.some.inj q]; rfl
    · rw [Array.getElem?_eq_none (by rw [hacc.1]; exact hj), List.getElem?_eq_none (by rw [List.length_map]; omega)]
  refine ⟨.ref _, _, I2.laid (t' := tk) hk (Nat.le_refl _) (show ObjOk X.prog X.w _ _ _ (.lst (kvs.map (·.2))) from ⟨by rw [List.length_map]; exact hz, acc.toList, c', by rw [ev]; exact kt_vals kt, by rw [Array.toArray_toList]; exact hD⟩), rfl, q _ (I2.hok.fresh (Nat.le_refl _))⟩
section
variable {X : Cx} {a e : Expr} {σ : L2.St} {F H : Hp} {pos : Pos} {κ ν : Type} [Rp κ] [DecidableEq κ] [KeyT κ] [Rp ν]
theorem en_listValsT {m : Dct κ ν} {p apos cpos : Pos} (hm : X.mg "list" = none) (ha : Ev X a σ F H m) (hc : X.calm = true := by rfl) (hg : Gl X "list" := by rfl) (hbase : attributeBase a "values" X.env (eval a X.env) = eval a X.env := by rfl) (hline : (apos.endLine == cpos.line) = true := by rfl)
    (hs : starEach [.Call (.Attribute a "values" apos) [] [] cpos] X.env = (false, eval (.Call (.Attribute a "values" apos) [] [] cpos) X.env) :: starEach [] X.env := by rfl) : EvN X (.Call (.Name "list" p) [.Call (.Attribute a "values" apos) [] [] cpos] [] pos) σ F H m.vals := fun F1 H1 g Q q =>
  GoE.of (pe_listValsT hc pe_go hg hm (by decide +kernel) hbase hline hs) (ha F1 H1 g _ fun v F2 H2 g2 r2 => by
    obtain ⟨p, o, kvs, e, hq, kr⟩ := r2
    refine ⟨p, _, e, .inr ⟨o, g2.fh _ _ hq⟩, fun l hl => ?_⟩
    have ek : (kvm KeyT.g kvs).map (·.2) = kvs.map (·.2) := by unfold kvm; rw [List.map_map]; rfl
    rw [ek]
    exact EvN.new q g2 hl kr.vals)
end
end Gx
namespace Gx
open PySem PySem.Spec PyProof.Rows L2
open Rp (rp)
open Ra (ra)
open Ob (ob)
/-! ### list(d.items()), keys that are tuples -/
section
variable {prog : Program} {w : World} {A : Around} {E : Value → Shared → Prop} {s : Shared} {r d : Addr} {es : Array DictEntry} {ep : Nat}
theorem listItems_init {R : Result → Shared → Prop} (hh : A.handled = none) (hv : s.heap.IsItemsView r d) (hm : DT.Raw s.heap d es ep) (S : Addr) (hSr : S ≠ r) (hSd : d ≠ S) (hS : s.heap.get? S = some { cls := .type "list", data := .seq #[] })
    (hR : ∀ h' tk acc c as, (∀ b o, b ≠ S → s.heap.get? b = some o → h'.get? b = some o) → h'.get? S = some { cls := .type "list", dict := none, data := .seq acc c, slots := #[] } → as.length = es.size → DT.Made es s.heap.objs.size h' as → acc.toList = as.map Value.ref → R (.ok (.ret .none)) { s with heap := h', toks := tk }) (hn : es.size ≤ sizeLine) :
    wpAny (model prog w) A.in1 (Builtin.«list.__init__» ⟨[.ref S, .ref r], []⟩)
      (fun fin s' => match fin with | .done f => R (.ok f) s' | .again c' => c'.quiet = true ∧ codeAny (model prog w) A c' R s') (fun e s' => R (.error e) s') s := by
  show wpAny _ _ (do let old ← Builtin.List.listItems (.ref S); Builtin.List.listUpdate (.ref S) (fun _ => #[]); letGo old.toList.reverse; Builtin.List.listExtendWith (.ref S) (.ref r) .none) _ _ s
  unfold Builtin.List.listItems
  refine wpAny_bind (wpAny_bind (wpAny_seqItems hS rfl (wpAny_pure ?_)))
  show wpAny _ _ (updateSeq S (fun _ => #[]) >>= fun _ => letGo (#[] : Array Value).toList.reverse >>= fun _ => Builtin.List.listExtendWith (.ref S) (.ref r) .none) _ _ s
  refine wpAny_bind (wpAny_updateSeq hS rfl ?_)
  have hS2 := Heap.get?_update_self (Obj.mapSeq (fun _ => (#[] : Array Value))) hS rfl
  have ot : ∀ b o, b ≠ S → s.heap.get? b = some o → (s.heap.update S (Obj.mapSeq (fun _ => (#[] : Array Value)))).get? b = some o := fun b o hb e => (Heap.get?_update_other _ _ (Ne.symm hb)).trans e
  have sz : (s.heap.update S (Obj.mapSeq (fun _ => (#[] : Array Value)))).objs.size = s.heap.objs.size := (Heap.SameBut.update ..).1
  refine wpAny_bind (wpAny_letGo (DT.extI (s := { s with heap := s.heap.update S (Obj.mapSeq (fun _ => (#[] : Array Value))) }) hh ?_ (hm.at' fun o e => ot d o hSd e) S hSr hSd .none _ hS2 (fun h' tk acc c as hk hS' hl hG hacc => ?_) hn))
  · obtain ⟨o, ho, x⟩ := hv
    exact ⟨o, ot r o hSr.symm ho, x⟩
  · exact hR h' tk acc c as (fun b o hb e => hk b o hb (ot b o hb e)) hS' hl (by rw [← sz]; exact hG) hacc
theorem listItems_raw {Q : Value → Shared → Prop} (hh : A.handled = none) (hv : s.heap.IsItemsView r d) (hm : DT.Raw s.heap d es ep) (hn : es.size ≤ sizeLine)
    (hQ : ∀ h' tk acc c as, (∀ b o, s.heap.get? b = some o → h'.get? b = some o) → h'.get? s.heap.objs.size = some { cls := .type "list", dict := none, data := .seq acc c, slots := #[] } → as.length = es.size → DT.Made es s.heap.objs.size h' as → acc.toList = as.map Value.ref → Q (.ref s.heap.objs.size) { s with heap := h', toks := tk }) :
    wpAny (model prog w) A (call (.type "list") [.ref r]) Q E s := by
  refine callType_codes (Q₁ := fun obj t => obj = .ref s.heap.objs.size ∧ t = { s with heap := s.heap.push { cls := .type "list", data := .seq #[] } }) PySem.F.called_list (PySem.F.typeCall_list_1 _) PySem.F.entry_list_init (code_list_new _ ⟨rfl, rfl⟩) fun obj t ht => ?_
  obtain ⟨rfl, rfl⟩ := ht
  have hS : (s.heap.push { cls := .type "list", data := .seq #[] }).get? s.heap.objs.size = some { cls := .type "list", data := .seq #[] } := Heap.get?_push_size _ rfl
  have hr : r < s.heap.objs.size := let ⟨_, ho, _⟩ := hv; Heap.lt_size ho
  refine ⟨⟨_, hS, rfl⟩, PySem.F.args_list_init_2 _ _, listItems_init (A := A.in1) (s := { s with heap := s.heap.push { cls := .type "list", data := .seq #[] } }) hh ?_ (hm.push _) _ (Nat.ne_of_gt hr) (Nat.ne_of_lt hm.lt) hS (fun h' tk acc c as hk hS' hl hG hacc => ⟨rfl, ?_⟩) hn⟩
  · obtain ⟨o, ho, x⟩ := hv
    exact ⟨o, Heap.get?_push_of_some _ ho, x⟩
  · exact hQ h' tk acc c as (fun b o e => hk b o (Nat.ne_of_lt (Heap.lt_size e)) (Heap.get?_push_of_some _ e)) hS' hl (hG.low (by show s.heap.objs.size ≤ (s.heap.push _).objs.size; rw [Heap.size_push]; exact Nat.le_succ _)) hacc
end
/-- the shared part with all tuples of the heap -/
def ftup (F H : Hp) : Hp := fun b => match H b with
  | some (.tup xs) => some (.tup xs)
  | _ => F b
theorem ftup_tup {F H : Hp} {b : Addr} {xs : List V} (h : H b = some (.tup xs)) : ftup F H b = some (.tup xs) := by unfold ftup; rw [h]
theorem ftup_no {F H : Hp} {b : Addr} {o : HO} (h : H b = some o) (no : lstish o) : ftup F H b = F b := by
  unfold ftup; rw [h]
  cases o <;> first | rfl | exact no.elim
theorem Gr.tups {F H H' : Hp} (s : L2.Same F H) (k : L2.Same H H') : Gr F H (ftup F H') H' := by
  have ft : ∀ b o, ftup F H' b = some o → H' b = some o := fun b o e => by
    unfold ftup at e
    split at e
    · rename_i xs h; rw [h]; exact e
    · exact k _ _ (s _ _ e)
  refine ⟨fun b o e => ?_, ft, .same k, fun a o h n => ftup_no (k _ _ h) n⟩
  unfold ftup
  split
  · rename_i xs h
    have := k _ _ (s _ _ e)
    rw [h] at this; exact this
  · exact e
def tListItemsT (te : TE) : TE := fun σ H Q => te σ H fun x H1 => ∃ d kvs, x = .ref d ∧ Rd H1 d (.dT kvs) ∧ ∀ H' p ts, L2.Same H1 H' → H1 p = none → H' p = some (.lst (ts.map V.ref)) →
  Paired (fun (t : Addr) (q : List Key × V) => ∃ key, H' t = some (.tup [.ref key, q.2]) ∧ H' key = some (.tup (q.1.map kV))) ts kvs → Q (.ref p) H'
theorem paired_ixx {α β : Type} {R : α → β → Prop} : ∀ {xs : List α} {ys : List β}, xs.length = ys.length → (∀ (j : Nat) (x : α) (y : β), xs[j]? = some x → ys[j]? = some y → R x y) → Paired R xs ys
  | [], [], _, _ => .nil
  | [], _ :: _, h, _ => nomatch h
  | _ :: _, [], h, _ => nomatch h
  | x :: xs, y :: ys, h, k => .cons (k 0 x y rfl rfl) (paired_ixx (Nat.succ.inj h) fun j a b e1 e2 => k (j + 1) a b e1 e2)
theorem pe_listItemsT {X : Cx} {e : Expr} {pos : Pos} {te : TE} {p apos cpos : Pos} (hc : X.calm = true) (he : PE X e te) (hg : Gl X "list") (hm : X.mg "list" = none) (hv : bootBuiltins "list" = some (.type "list")) (hbase : attributeBase e "items" X.env (eval e X.env) = eval e X.env := by rfl) (hline : (apos.endLine == cpos.line) = true := by rfl)
    (hs : starEach [.Call (.Attribute e "items" apos) [] [] cpos] X.env = (false, eval (.Call (.Attribute e "items" apos) [] [] cpos) X.env) :: starEach [] X.env := by rfl) :
    PE X (.Call (.Name "list" p) [.Call (.Attribute e "items" apos) [] [] cpos] [] pos) (tListItemsT te) := by
  refine ⟨fun pins s σ H Q I hq => ?_⟩
  refine wpAny_Call_Name_kw (ld_blt I hg hm hv ?_)
  refine PyProof.Rows.callWith_type1 ?_ hs rfl
  rw [hs]
  show wpAny _ _ (spliced ((false, eval (.Call (.Attribute e "items" apos) [] [] cpos) X.env) :: backTo pos (starEach [] X.env))) _ _ s
  refine Calls.spliced_cons ?_
  refine wpAny_Call_method (T := "dict") (id := "dict.items") hbase rfl hline F.plainAttrs_dict F.slot_dict_items F.type_dict_items (thn (he.run pins s σ H _ I hq) fun u s1 ⟨x, H1, I1, rx, d, kvs, ex, hd, q⟩ => ?_)
  subst ex
  obtain rfl : u = Value.ref d := rx
  obtain ⟨hz, hs0, xs, kt, o, es, ep, ho, hx, hdt, hes, _⟩ := dt_rd I1.hok hd
  have raw : DT.Raw s1.heap d es ep := ⟨o, ho, hx, hdt⟩
  have lk : kvs.length = xs.length := Paired.length kt
  have le : es.size = xs.length := size_of_entries hes
  have I2 : Inv X pins σ H1 { s1 with heap := s1.heap.push { cls := .type "dict_items", data := .fields #[.ref d] } } := I1.kept (t' := s1.toks) fun b ob q => Heap.get?_push_of_some _ q
  refine ⟨raw.typeIs, fun a ea => by cases ea; exact ⟨o, ho, hx.2.1⟩, ?_⟩
  show wpAny _ _ (callWith cpos (.builtin "dict.items") [.ref d] [] []) _ X.xe s1
  refine method_meetsIn F.slot_dict_items F.entry_dict_items rfl (PySem.evalArgs_none ⟨rfl, raw.typeIs, F.args_dict_items_1 _, _, DT.meetsItems (es := es) (ep := ep) hs0, raw, ?_⟩)
  refine Calls.spliced_nil ?_
  refine listItems_raw (I1.ok.hd hc) ⟨_, Heap.get?_push_size _ rfl, rfl, rfl⟩ (raw.push _) (by omega) fun h' tk acc c as hk hS hl hG hacc => ?_
  generalize hs2 : ({ s1 with heap := s1.heap.push { cls := .type "dict_items", data := .fields #[.ref d] } } : Shared) = s2 at *
  have newS : H1 s2.heap.objs.size = none := I2.hok.fresh (Nat.le_refl _)
  have J : Inv X pins σ (upd H1 s2.heap.objs.size (.lst (as.map V.ref))) { s2 with heap := h', toks := tk } := I2.laid (t' := tk) hk (Nat.le_refl _) (show ObjOk X.prog X.w _ _ _ (.lst (as.map V.ref)) from ⟨by rw [List.length_map]; omega, acc.toList, c, by rw [hacc]; exact LiI.vals_refs as, by rw [Array.toArray_toList]; exact hS⟩)
  have nd : as.Nodup := List.Pairwise.imp (fun {a b} (h : a < b) => Nat.ne_of_lt h) hG.rise
  have pr : ∀ (j : Nat) (b : Addr), as[j]? = some b → ∃ (k : List Key) (v : V) (key : Addr) (u : Value), kvs[j]? = some (k, v) ∧ H1 key = some (.tup (k.map kV)) ∧ RelV v u ∧ h'.get? b = some { cls := .type "tuple", data := .seq #[Value.ref key, u] } := fun j b hj => by
    obtain ⟨en, he1, hg1⟩ := hG.pairs j b hj
    have q1 := entry_at hes j
    rw [he1] at q1
    cases hxj : xs[j]? with
    | none => rw [hxj] at q1; cases q1
    | some x1 =>
      rw [hxj] at q1
      have e1 := Option.some.inj q1
      obtain ⟨p1, hp1, r1, r2, r3⟩ := L2.DX.pget kt hxj
      refine ⟨p1.1, p1.2, x1.2.1, x1.2.2, hp1, r2, r3, ?_⟩
      rw [hg1, e1]; rfl
  obtain ⟨H2, J2, k2, q2⟩ := L2.DX.takeT (P := fun b vs => ∃ (j : Nat) (k : List Key) (v : V) (key : Addr), as[j]? = some b ∧ kvs[j]? = some (k, v) ∧ H1 key = some (.tup (k.map kV)) ∧ vs = [.ref key, v]) I2 as _ J nd fun b hb => by
    obtain ⟨j, hj⟩ := List.mem_iff_getElem?.mp hb
    obtain ⟨k, v, key, u, h1, h2, h3, h4⟩ := pr j b hj
    have ab := hG.above b hb
    refine ⟨Nat.le_of_lt ab, ?_, _, ⟨j, k, v, key, hj, h1, h2, rfl⟩, fun H3 => ⟨by show 2 ≤ sizeLine; decide, [.ref key, u], .cons rfl (.cons h3 .nil), ⟨_, h4, rfl, _, rfl⟩⟩⟩
    rw [upd_ne (Nat.ne_of_gt ab)]
    exact I2.hok.fresh (Nat.le_of_lt ab)
  have up1 : L2.Same H1 H2 := fun b o e => k2 b o (by rw [upd_ne (ne_of_none e newS)]; exact e)
  refine ⟨.ref _, H2, J2, rfl, q H2 _ as up1 newS (k2 _ _ upd_same) (paired_ixx (by omega) fun j b y e1 e2 => ?_)⟩
  obtain ⟨vs, ⟨j', k, v, key, f1, f2, f3, rfl⟩, f4⟩ := q2 b (List.mem_of_getElem? e1)
  have : j' = j := (List.getElem?_inj (List.getElem?_eq_some_iff.mp f1).1 nd).mp (f1.trans e1.symm)
  subst this
  rw [e2] at f2
  cases f2
  exact ⟨key, f4, up1 _ _ f3⟩
section
variable {X : Cx} {a e : Expr} {σ : L2.St} {F H : Hp} {pos : Pos} {κ ν : Type} [Rp κ] [DecidableEq κ] [KeyT κ] [Rp ν]
theorem items_rps {K : PySem.W.Frag} {F2 H' : Hp} (s : L2.Same F2 H') : ∀ {ts : List Addr} {kvs : List (κ × V)} {l : List (κ × ν)}, KR K F2 kvs l → Paired (fun (t : Addr) (q : List Key × V) => ∃ key, H' t = some (.tup [.ref key, q.2]) ∧ H' key = some (.tup (q.1.map kV))) ts (kvm KeyT.g kvs) → (∀ {v : V} {x : ν}, rp K F2 v x → rp K (ftup F2 H') v x) → Rps K (ftup F2 H') (ts.map V.ref) (l.map fun p => (⟨p.1, p.2⟩ : T2 κ ν))
  | [], [], _, .nil, _, _ => .nil
  | _, p :: kvs, _, .cons (b := q) h t, hp, up => by
    cases hp with
    | cons h2 t2 =>
      obtain ⟨key, h3, h4⟩ := h2
      refine .cons ⟨_, _, rfl, ftup_tup h3, _, _, rfl, ?_, _, _, rfl, up h.2, rfl⟩ (items_rps s t t2 up)
      show rp K (ftup F2 H') (.ref key) q.1
      rw [← h.1]
      exact KeyT.rpg.mpr ⟨key, rfl, ftup_tup h4⟩
theorem en_listItemsT {m : Dct κ ν} {p apos cpos : Pos} (hm : X.mg "list" = none) (ha : Ev X a σ F H m) (hc : X.calm = true := by rfl) (hg : Gl X "list" := by rfl) (hbase : attributeBase a "items" X.env (eval a X.env) = eval a X.env := by rfl) (hline : (apos.endLine == cpos.line) = true := by rfl)
    (hs : starEach [.Call (.Attribute a "items" apos) [] [] cpos] X.env = (false, eval (.Call (.Attribute a "items" apos) [] [] cpos) X.env) :: starEach [] X.env := by rfl) : EvN X (.Call (.Name "list" p) [.Call (.Attribute a "items" apos) [] [] cpos] [] pos) σ F H m.items := fun F1 H1 g Q q =>
  GoE.of (pe_listItemsT hc pe_go hg hm (by decide +kernel) hbase hline hs) (ha F1 H1 g _ fun v F2 H2 g2 r2 => by
    obtain ⟨d, o, kvs, e, hq, kr⟩ := r2
    refine ⟨d, _, e, .inr ⟨o, g2.fh _ _ hq⟩, fun H' l ts up hl hl2 hp => ?_⟩
    have g3 : Gr F2 H2 (ftup F2 H') H' := .tups g2.fh up
    refine q l _ (ftup F2 H') H' (g2.trans g3) (g2.hh.free hl) ?_ hl2 (ob_lst (items_rps (fun b o e => up _ _ (g2.fh _ _ e)) kr hp fun r => Rp.mono g3.ff r))
    rw [ftup_no hl2 trivial]
    exact g2.fh.free hl)
end
end Gx
namespace Gx
open PySem PySem.Spec PyProof.Rows L2
open Rp (rp)
open Ra (ra)
open Ob (ob)
/-! ### enumerate(d), keys that are tuples -/
section
variable {prog : Program} {w : World} {A : Around} {E : Value → Shared → Prop} {s : Shared}
theorem nextOf_key_item {it d : Addr} {i ep : Nat} {es : Array DictEntry} {Q : Value → Shared → Prop} (hit : s.heap.IsKeyIter it d i es.size ep) (hm : s.heap.DictRaw d es ep) (hi : i < es.size)
    (hQ : ∀ h', h'.IsKeyIter it d (i + 1) es.size ep → Heap.SameBut it s.heap h' → Q es[i].key { s with heap := h' }) : wpAny (model prog w) A (Builtin.SmallTypes.nextOf (.ref it)) Q E s := by
  obtain ⟨oi, e1, e2, e3⟩ := id hit
  obtain ⟨od, d1, d2, d3⟩ := id hm
  unfold Builtin.SmallTypes.nextOf
  refine wpAny_bind (wpAny_callSpecial?_slot (name := Str.ofString "__next__") hit.typeIs F.slot_dict_keyiterator_next (wpAny_call_entry F.slot_dict_keyiterator_next hit.typeIs F.entry_dict_keyiterator_next ?_ (F.args_dict_keyiterator_next_1 _)))
  refine wpAny_bind (wpAny_pure (wpAny_bind (wpAny_bind ?_)))
  first | refine wpAny_bind (wpAny_typeNameOfWhole_keyiter hit.typeIs (wpAny_pure ?_)) | refine wpAny_bind (wpAny_typeNameOf_keyiter hit.typeIs (wpAny_pure ?_))
  refine wpAny_bind (wpAny_fieldsOf e1 e3 ?_)
  simp only [show Builtin.Dict_items.ownsTuple "dict_keyiterator" = false by decide, Bool.false_eq_true, if_false]
  show wpAny _ _ (if (Value.ref d == Value.none) = true then _ else _) _ _ s
  rw [if_neg (show ¬ ((Value.ref d == Value.none) = true) from Bool.false_ne_true)]
  refine wpAny_bind (wpAny_pure (wpAny_bind (wpAny_dictEntries d1 d3 ?_)))
  rw [if_neg (by simp)]
  refine wpAny_bind (wpAny_pure (wpAny_bind (wpAny_dictEpoch d1 d3 ?_)))
  rw [if_neg (by simp)]
  refine wpAny_pure ?_
  simp only [show ¬ ((i : Int) < 0) from by omega, if_false, Int.toNat_natCast, Array.getElem?_eq_getElem hi]
  refine wpAny_bind ?_
  first | refine wpAny_bind (wpAny_typeNameOfWhole_keyiter hit.typeIs (wpAny_pure ?_)) | refine wpAny_bind (wpAny_typeNameOf_keyiter hit.typeIs (wpAny_pure ?_))
  refine wpAny_bind (wpAny_isOneOf_keyiter hit.typeIs ?_)
  show wpAny _ _ (setField (.ref it) 1 (rawInt ((i : Int) + 1)) >>= _) _ _ s
  refine wpAny_bind (wpAny_setField e1 e3 (by simp) ?_)
  have st : (s.heap.update it (Obj.mapFields (·.setIfInBounds 1 (rawInt ((i : Int) + 1))))).IsKeyIter it d (i + 1) es.size ep :=
    ⟨_, Heap.get?_update_self _ e1 (Obj.isFreed_of_fields (Obj.data_mapFields e3 _)), (Obj.cls_mapFields ..).trans e2, by rw [Obj.data_mapFields e3]; simp [rawInt]⟩
  refine wpAny_bind (wpAny_holding (wpAny_bind (wpAny_isOneOf_keyiter (s := { s with heap := s.heap.update it (Obj.mapFields (·.setIfInBounds 1 (rawInt ((i : Int) + 1)))) }) st.typeIs ?_)))
  show wpAny _ _ (pure es[i].key) _ _ _
  exact wpAny_pure (wpAny_pure ⟨_, rfl, wpAny_pure (hQ _ st (Heap.SameBut.update ..))⟩)
theorem nextOf_key_end {it d : Addr} {i ep : Nat} {es : Array DictEntry} {Q : Value → Shared → Prop} (hh : A.handled = none) (hit : s.heap.IsKeyIter it d i es.size ep) (hm : s.heap.DictRaw d es ep) (hge : es.size ≤ i)
    (hE : ∀ h' e, Heap.ExtBut it s.heap h' → (∃ o, h'.get? e = some o ∧ o.cls = .type "StopIteration") → E (.ref e) { s with heap := h' }) : wpAny (model prog w) A (Builtin.SmallTypes.nextOf (.ref it)) Q E s := by
  obtain ⟨oi, e1, e2, e3⟩ := id hit
  obtain ⟨od, d1, d2, d3⟩ := id hm
  unfold Builtin.SmallTypes.nextOf
  refine wpAny_bind (wpAny_callSpecial?_slot (name := Str.ofString "__next__") hit.typeIs F.slot_dict_keyiterator_next (wpAny_call_entry F.slot_dict_keyiterator_next hit.typeIs F.entry_dict_keyiterator_next ?_ (F.args_dict_keyiterator_next_1 _)))
  refine wpAny_bind (wpAny_pure (wpAny_bind (wpAny_bind ?_)))
  first | refine wpAny_bind (wpAny_typeNameOfWhole_keyiter hit.typeIs (wpAny_pure ?_)) | refine wpAny_bind (wpAny_typeNameOf_keyiter hit.typeIs (wpAny_pure ?_))
  refine wpAny_bind (wpAny_fieldsOf e1 e3 ?_)
  simp only [show Builtin.Dict_items.ownsTuple "dict_keyiterator" = false by decide, Bool.false_eq_true, if_false]
  show wpAny _ _ (if (Value.ref d == Value.none) = true then _ else _) _ _ s
  rw [if_neg (show ¬ ((Value.ref d == Value.none) = true) from Bool.false_ne_true)]
  refine wpAny_bind (wpAny_pure (wpAny_bind (wpAny_dictEntries d1 d3 ?_)))
  rw [if_neg (by simp)]
  refine wpAny_bind (wpAny_pure (wpAny_bind (wpAny_dictEpoch d1 d3 ?_)))
  rw [if_neg (by simp)]
  refine wpAny_pure ?_
  simp only [show ¬ ((i : Int) < 0) from by omega, if_false, Int.toNat_natCast, Array.getElem?_eq_none hge]
  refine wpAny_bind ?_
  first | refine wpAny_bind (wpAny_typeNameOfWhole_keyiter hit.typeIs (wpAny_pure ?_)) | refine wpAny_bind (wpAny_typeNameOf_keyiter hit.typeIs (wpAny_pure ?_))
  show wpAny _ _ (setField (.ref it) 0 .none >>= _) _ _ s
  refine wpAny_bind (wpAny_setField e1 e3 (by simp) ?_)
  show wpAny _ _ (newExc (.type "StopIteration") [] >>= _) _ _ _
  refine wpAny_bind ?_
  simp only [newExc, newTuple]
  refine wpAny_bind (wpAny_newObj_type ?_ (by size_fits))
  refine wpAny_bind (m := firstArgMember _ _) (wpAny_of_eq (a := Value.none) (by first | rfl | (simp only [firstArgMember]; rfl)) ?_)
  refine wpAny_newObj_type ?_ (by size_fits)
  simp only [raiseNew]
  refine wpAny_bind (wpAny_handled ?_)
  rw [show A.in1.handled = none from hh]
  refine wpAny_bind (wpAny_pure (wpAny_throw ?_))
  exact hE _ _ (((Heap.SameBut.update ..).extBut.push _).push _) ⟨_, Heap.get?_push_size _ rfl, rfl⟩
theorem Draws.keysRaw (hh : A.handled = none) (it d : Addr) (hne : d ≠ it) (es : Array DictEntry) (ep : Nat) :
    Draws prog w A it [it, d] es.size (fun i v => ∃ hi : i < es.size, v = es[i].key) (fun i h => h.IsKeyIter it d i es.size ep ∧ h.DictRaw d es ep) where
  live := fun _ _ st => let ⟨o, ho, _⟩ := st.1; ⟨o, ho⟩
  frame := fun _ _ _ st hk => ⟨st.1.at fun o e => hk it (by simp) o e, st.2.at fun o e => hk d (by simp) o e⟩
  item := fun i s Q E hi st hQ => nextOf_key_item st.1 st.2 hi fun h' hit' hs' => hQ _ h' s.toks ⟨hi, rfl⟩ ⟨hit', st.2.at fun o e => hs'.extBut d o hne e⟩ hs'
  done := fun s Q E st hE => nextOf_key_end hh st.1 st.2 (Nat.le_refl _) hE
theorem begins_dict (d : Addr) (es : Array DictEntry) (ep : Nat) (hd : (d == sysModules) = false) : Begins (.ref d) { cls := .type "dict_keyiterator", data := .fields #[.ref d, .int 0 0, .int es.size 0, .int ep 0] } fun h => h.DictRaw d es ep where
  iter := fun prog w A E s Q hm h => wpAny_pyIter_dict_raw hd hm h
  keeps := fun h h' x hk => x.at fun o e => hk d o e
  free := rfl
end
set_option maxHeartbeats 4000000 in
theorem enum_new1 {v : Value} {o : Obj} {G : Heap → Prop} (B : Begins v o G) :
    Meets (Builtin.«enumerate.__new__» ⟨[.type "enumerate", v], []⟩) (fun _ R s => G s.heap ∧ R (.ok (.ret (.ref (s.heap.push o).objs.size))) { s with heap := (s.heap.push o).push { cls := .type "enumerate", data := .fields #[.none, .bool false, .ref s.heap.objs.size, rawInt 0, .none, .none] } }) :=
  .of_wp fun prog w A R s h => by
    obtain ⟨hp, g, d, tk, os⟩ := s; obtain ⟨h1, h⟩ := h
    have hsub := sub_enumerate
    have q1 : ∀ {A' : Around} {E : Value → Shared → Prop} {Q : Value → Shared → Prop}, Q (.ref hp.objs.size) ⟨hp.push o, g, d, tk, os⟩ → wpAny (model prog w) A' (pyIter v) Q E ⟨hp, g, d, tk, os⟩ := fun q => B.iter prog w _ _ ⟨hp, g, d, tk, os⟩ _ h1 q
    wp_walk using q1
    refine wpAny_stack_any fun st => wpAny_pure ?_
    split
    · rename_i c _ _ _ _ _
      cases (c == Value.type "enumerate") <;> (wp_walk using q1; exact ⟨_, rfl, h⟩)
    · wp_walk using q1
      exact ⟨_, rfl, h⟩
theorem enum_begins1 {prog : Program} {w : World} {A : Around} {E : Value → Shared → Prop} {s : Shared} {v : Value} {o : Obj} {G : Heap → Prop} {Q : Value → Shared → Prop} (B : Begins v o G) (h1 : G s.heap)
    (h : ∀ h', IsEnum h' (s.heap.objs.size + 1) s.heap.objs.size 0 .none → h'.get? s.heap.objs.size = some o → h'.objs.size = s.heap.objs.size + 2 → (∀ b o, s.heap.get? b = some o → h'.get? b = some o) → Q (.ref (s.heap.objs.size + 1)) { s with heap := h' }) :
    wpAny (model prog w) A (call (.type "enumerate") [v]) Q E s := by
  refine callType_new F.called_enumerate (by decide) (F.typeCall_enumerate_1 _) (F.newCall_enumerate_1 _) (fun obj => F.args_object_init_2 obj _) F.entry_enumerate_new (enum_new1 B) ⟨h1, ?_⟩
  have hz : (s.heap.push o).objs.size = s.heap.objs.size + 1 := Heap.size_push ..
  show _ ∧ _
  rw [hz]
  have he := Heap.get?_push_size (s.heap.push o) (o := { cls := .type "enumerate", data := .fields #[.none, .bool false, .ref s.heap.objs.size, rawInt 0, .none, .none] }) rfl
  rw [hz] at he
  exact ⟨⟨_, he, rfl⟩, h _ he (Heap.get?_push_of_some _ (Heap.get?_push_size _ B.free)) (by rw [Heap.size_push, hz]) fun b o x => Heap.get?_push_of_some _ (Heap.get?_push_of_some _ x)⟩
def ItekT (d : Addr) (o : Obj) (kvs : List (List Key × V)) : It :=
  ⟨fun i H => H d = some (.frz o (.dT kvs)) ∧ i < kvs.length, fun i H x H' => ∃ T k v q, kvs[i]? = some (k, v) ∧ x = .ref T ∧ H T = none ∧ H' = upd H T (.tup [.int (i : Nat), .ref q]) ∧ H q = some (.tup (k.map kV)), fun i H => H d = some (.frz o (.dT kvs)) ∧ i = kvs.length⟩
theorem turn_enumD {P : Program} {w : World} {K : PySem.W.Frag} {elts : List Expr} {kk : Nat} {tpos : Pos} {d e it : Addr} {o : Obj} {es : Array DictEntry} {ep : Nat} {kvs : List (List Key × V)} (hod : o.data = .dict es ep) (hsz : es.size = kvs.length) (hne : e ≠ it) (hed : e ≠ d) (hdi : d ≠ it) :
    Turn P w K (.Tuple elts kk tpos) (ItekT d o kvs) [e, it] e (fun i h => (∃ old, IsEnum h e it ((i : Nat) : Int) old) ∧ h.IsKeyIter it d i es.size ep) where
  mem := by simp
  obj := fun i h ⟨⟨old, he⟩, ⟨oi, h1, h2, h3⟩⟩ b hb => by
    have e' : b = e ∨ b = it := by simpa using hb
    rcases e' with z | z
    · rw [z]; exact ⟨_, he, fun v q => nomatch q⟩
    · rw [z]; exact ⟨oi, h1, fun v q => by rw [h3] at q; cases q⟩
  keep := fun i h h' ⟨⟨old, he⟩, hi⟩ k => ⟨⟨old, k e (by simp) _ he⟩, hi.at fun o q => k it (by simp) o q⟩
  item := fun X hP hw hK hc i pins s σ H E I hf ⟨⟨old, he⟩, hit⟩ ⟨hd, hi⟩ => by
    subst hP hw hK
    obtain ⟨hs, hgd, hx, es', ep', hdt, _, ent⟩ := I.frzT hd
    obtain ⟨rfl, rfl⟩ := dict_ep hod hdt
    obtain ⟨⟨k, v⟩, hkv⟩ : ∃ p, kvs[i]? = some p := ⟨kvs[i], List.getElem?_eq_getElem hi⟩
    obtain ⟨en, q, hen, hkey, hq⟩ := ent i k v hkv
    have raw : s.heap.DictRaw d es' ep' := ⟨o, hgd, hx, hdt⟩
    have hel : e < s.heap.objs.size := Heap.lt_size he
    have hil : it < s.heap.objs.size := by obtain ⟨_, z, _⟩ := hit; exact Heap.lt_size z
    refine wpAny_pyNext_enum_itemD (Draws.keysRaw (A := X.A.in1) (I.ok.hd hc) it d hdi es' ep') he ⟨hit, raw⟩ (by omega) hne (by simp [hne, hed]) fun x h' tk hx' ho st' hT hsz' hk => ?_
    obtain ⟨hi', rfl⟩ := hx'
    have ek : es'[i].key = .ref q := by
      rw [Array.getElem?_eq_getElem hi'] at hen
      rw [Option.some.inj hen]; exact hkey
    rw [ek] at hT ho
    refine ⟨_, rfl, wpAny_letOwnedTupleGo_enum (s := { s with heap := h', toks := tk + 1 }) ho fun h'' he' sb => ?_⟩
    have hT2 : h''.get? s.heap.objs.size = some { cls := .type "tuple", data := .seq #[.int i tk, .ref q] } := (sb.2 _ (Nat.ne_of_gt hel)).trans hT
    have new : ObjOk X.prog X.w (upd H s.heap.objs.size (.tup [.int (i : Nat), .ref q])) h'' s.heap.objs.size (.tup [.int (i : Nat), .ref q]) :=
      ⟨by show 2 ≤ sizeLine; decide, [.int i tk, .ref q], .cons ⟨_, rfl⟩ (.cons rfl .nil), ⟨_, hT2, rfl, _, rfl⟩⟩
    have I1 : Inv X pins σ (upd H s.heap.objs.size (.tup [.int (i : Nat), .ref q])) { s with heap := h'', toks := tk + 1 } :=
      I.turnedNew (ch := [e, it]) (fun b ob hb z => (sb.2 b (fun y => hb (by simp [y]))).trans (hk b ob (fun y => hb (by simp [y])) (fun y => hb (by simp [y])) z)) hf (Nat.le_refl _) new
    refine ⟨.ref s.heap.objs.size, _, I1, rfl, ⟨_, k, v, q, hkv, rfl, I.hok.fresh (Nat.le_refl _), rfl, hq⟩, ⟨⟨Value.ref q, ?_⟩, st'.1.at fun o z => (sb.2 it (Ne.symm hne)).trans z⟩, fun b hb => ?_⟩
    · have e1 : ((i + 1 : Nat) : Int) = (i : Int) + 1 := by omega
      rw [e1]; exact he'
    · have hb' : b < s.heap.objs.size := by
        have e' : b = e ∨ b = it := by simpa using hb
        rcases e' with z | z
        · rw [z]; exact hel
        · rw [z]; exact hil
      rw [upd_ne (Nat.ne_of_lt hb')]
      exact (hf b hb).1
  done := fun X hP hw hK hc i pins s σ H E I hf ⟨⟨old, he⟩, hit⟩ ⟨hd, hi⟩ => by
    subst hP hw hK
    obtain ⟨hs, hgd, hx, es', ep', hdt, _, ent⟩ := I.frzT hd
    obtain ⟨rfl, rfl⟩ := dict_ep hod hdt
    have raw : s.heap.DictRaw d es' ep' := ⟨o, hgd, hx, hdt⟩
    obtain ⟨f0, f1, f2, f3, f4, f5⟩ := hf it (by simp)
    have e1 : i = es'.size := by omega
    subst e1
    exact wpAny_pyNext_enum_endD (Draws.keysRaw (A := X.A.in1) (I.ok.hd hc) it d hdi es' ep') he ⟨hit, raw⟩ fun h' eb => ⟨rfl, I.turned (t' := s.toks) (fun b o hb z => eb b o hb z) f0 f1 f3 f4 f5⟩
  self := fun A i s Q E ⟨⟨_, he⟩, _⟩ h => wpAny_pyIter_enum he h
def iEnumD (ta : TA) : TI := fun σ H R => ta σ H fun vs H1 => ∃ d o kvs, vs = [.ref d] ∧ H1 d = some (.frz o (.dT kvs)) ∧ R (ItekT d o kvs) H1
theorem pi_enumD {X : Cx} {e : Expr} {ta : TA} {p pos tpos : Pos} {elts : List Expr} {kk : Nat} (hg : Gl X "enumerate") (hm : X.mg "enumerate" = none) (ha : PA X [e] ta) (hs : starEach [e] X.env = [(false, eval e X.env)] := by rfl) :
    PI X (.Tuple elts kk tpos) (.Call (.Name "enumerate" p) [e] [] pos) (iEnumD ta) := by
  refine ⟨fun pins s σ H R I h => ?_⟩
  refine Call_ (ld_blt I hg hm boot_enumerate (PyProof.Rows.callWith_type1 (thn (ha.run pos pins s σ H _ I h) fun us s1 ⟨vs, H1, I1, r1, q1⟩ => ?_) hs rfl))
  obtain ⟨d, o, kvs, ex, hd, q⟩ := q1
  subst ex
  obtain rfl := Vals.ref1 r1
  obtain ⟨h0, hgd, hx, es, ep, hdt, hsz, ent⟩ := I1.frzT hd
  have raw : s1.heap.DictRaw d es ep := ⟨o, hgd, hx, hdt⟩
  have ld : d < s1.heap.objs.size := raw.lt_size
  refine enum_begins1 (begins_dict d es ep h0) raw fun h' he hit hz hk => wpAny_pyIter_enum he ?_
  have I2 : Inv X pins σ H1 { s1 with heap := h' } := I1.kept (t' := s1.toks) hk
  have n1 : (s1.heap.objs.size + 1 : Nat) ≠ d := Nat.ne_of_gt (Nat.lt_succ_of_lt ld)
  refine ⟨s1.heap.objs.size + 1, [s1.heap.objs.size + 1, s1.heap.objs.size], _, _, H1, rfl, I2, turn_enumD hdt hsz (Nat.succ_ne_self _) n1 (Nat.ne_of_lt ld), ⟨⟨.none, he⟩, ⟨_, hit, rfl, rfl⟩⟩, fun b hb => ?_, q⟩
  have e' : b = s1.heap.objs.size + 1 ∨ b = s1.heap.objs.size := by simpa using hb
  have hle : s1.heap.objs.size ≤ b := by
    rcases e' with z | z
    · rw [z]; exact Nat.le_add_right _ _
    · rw [z]; exact Nat.le_refl _
  exact I1.fpOk hle (I1.hok.fresh hle)
section
variable {X : Cx} {a e : Expr} {σ : L2.St} {F H : Hp} {pos : Pos} {κ ν : Type} [Rp κ] [DecidableEq κ] [KeyT κ] [Rp ν]
theorem ei_enumKT {m : Dct κ ν} {p tpos : Pos} {elts : List Expr} {kk : Nat} (h : Ev X e σ F H m) (hm : X.mg "enumerate" = none) (hg : Gl X "enumerate" := by rfl) (hs : starEach [e] X.env = [(false, eval e X.env)] := by rfl) :
    EvI X (.Tuple elts kk tpos) (.Call (.Name "enumerate" p) [e] [] pos) σ F H (enumL m.keys) := fun F1 H1 g R q =>
  GoI.of (pi_enumD hg hm (pa_cons pe_go pa_nil (by rw [hs]; rfl)) hs) (h F1 H1 g _ fun v F2 H2 g2 r2 => by
    obtain ⟨d, o, kvs, e, hq, kr⟩ := r2
    refine ⟨d, o, _, by rw [e], g2.fh _ _ hq, q _ F2 H2 g2 fun i Fi Hi s1 s2 => ?_⟩
    have hd := s2 _ _ (s1 _ _ hq)
    have hl : kvs.length = m.l.length := Paired.length kr
    refine ⟨fun x hx => ?_, fun e => ⟨hd, by rw [e, enumF_len, Dct.keys, List.length_map, kvm_len, hl]⟩⟩
    obtain ⟨h1, h2⟩ := enumF_get hx
    rw [Dct.keys, List.getElem?_map] at h2
    obtain ⟨pr, hpr, e2⟩ := Option.map_eq_some_iff.mp h2
    obtain ⟨w, hw, _⟩ := kr.get hpr
    have hk : (kvm KeyT.g kvs)[i]? = some (KeyT.g pr.1, w) := by rw [kvm, List.getElem?_map, hw]; rfl
    refine ⟨⟨hd, (List.getElem?_eq_some_iff.mp hk).1⟩, fun v H' ⟨T, k, v', q', f1, f2, f3, f4, f5⟩ => ?_⟩
    subst f2; subst f4
    rw [hk] at f1; cases f1
    obtain ⟨F', g', hF⟩ := same_tup s2 f5
    have hi : (i : Int) = x.a := by omega
    have hk2 : rp X.K F' (.ref q') x.b := by
      rw [← e2]
      exact KeyT.rpg.mpr ⟨q', rfl, hF⟩
    obtain ⟨F3, g3, r3⟩ := pair_new (K := X.K) (x := x.a) (y := x.b) g'.fh f3 (v := .int (i : Nat)) (congrArg V.int hi) hk2
    exact ⟨F3, g'.trans g3, r3⟩)
end
end Gx

/-! Gkh: tuples of eight, unlike tuples put together, lists of unlike things, tuples as displayed without a dict. -/
namespace Gx
open PySem PySem.Spec PyProof.Rows L2
open Rp (rp)
open Ra (ra)
open Ob (ob)
structure T8 (α β γ δ ε ζ η θ : Type) where
  a : α
  b : β
  c : γ
  d : δ
  e : ε
  f : ζ
  g : η
  h : θ
  deriving DecidableEq
section
variable {α β γ δ ε ζ η θ : Type}
abbrev T8.row (x : T8 α β γ δ ε ζ η θ) : α × β × γ × δ × ε × ζ × η × θ × Unit := (x.a, x.b, x.c, x.d, x.e, x.f, x.g, x.h, ())
variable [Rp α] [Rp β] [Rp γ] [Rp δ] [Rp ε] [Rp ζ] [Rp η] [Rp θ]
instance : Rp (T8 α β γ δ ε ζ η θ) := ⟨rpT T8.row, rpT.mono⟩
instance : NN (T8 α β γ δ ε ζ η θ) := ⟨rpT.nn⟩
instance : Tup (T8 α β γ δ ε ζ η θ) (α × β × γ × δ × ε × ζ × η × θ × Unit) := ⟨T8.row, Iff.rfl⟩
instance [Flat α] [Flat β] [Flat γ] [Flat δ] [Flat ε] [Flat ζ] [Flat η] [Flat θ] : Flat (T8 α β γ δ ε ζ η θ) := ⟨rpT.fl⟩
instance [FlatD α] [FlatD β] [FlatD γ] [FlatD δ] [FlatD ε] [FlatD ζ] [FlatD η] [FlatD θ] : FlatD (T8 α β γ δ ε ζ η θ) := ⟨rpT.fd⟩
instance : Kd (T8 α β γ δ ε ζ η θ) := ⟨"tuple", rpT.kd⟩
instance [Pd α] [Pd β] [Pd γ] [Pd δ] [Pd ε] [Pd ζ] [Pd η] [Pd θ] : Pd (T8 α β γ δ ε ζ η θ) := ⟨fun x => .tuple (PdR.toR x.row), rpT.dp, rowEq fun x y => by cases x; cases y; simp [T8.row]⟩
instance [Pd α] [Pd β] [Pd γ] [Pd δ] [Pd ε] [Pd ζ] [Pd η] [Pd θ] [PdS α] [PdS β] [PdS γ] [PdS δ] [PdS ε] [PdS ζ] [PdS η] [PdS θ] : PdS (T8 α β γ δ ε ζ η θ) := ⟨PdRS.dep (α × β × γ × δ × ε × ζ × η × θ × Unit) + 1, fun x => Nat.succ_le_succ (PdRS.de x.row)⟩
instance [Pd α] [Pd β] [Pd γ] [Pd δ] [Pd ε] [Pd ζ] [Pd η] [Pd θ] [PdF α] [PdF β] [PdF γ] [PdF δ] [PdF ε] [PdF ζ] [PdF η] [PdF θ] : PdF (T8 α β γ δ ε ζ η θ) := ⟨fun x => PdRF.ok x.row⟩
instance [Pd α] [Pd β] [Pd γ] [Pd δ] [Pd ε] [Pd ζ] [Pd η] [Pd θ] [PdL α] [PdL β] [PdL γ] [PdL δ] [PdL ε] [PdL ζ] [PdL η] [PdL θ] : PdL (T8 α β γ δ ε ζ η θ) := ⟨fun x => PdRL.tx x.row, fun h => PdRL.ok h⟩
end
section
variable {X : Cx} {K : PySem.W.Frag} {e a b c d : Expr} {es : List Expr} {σ : L2.St} {F H F0 H0 : Hp} {pos : Pos}
/-! ### unlike tuples put together -/
def RC {τ1 τ2 τ3 : Type} [Ra τ1] [Ra τ2] [Ra τ3] (x : τ1) (y : τ2) (z : τ3) : Prop := ∀ (K : PySem.W.Frag) (F : Hp) (vs ws : List V), ra K F vs x → ra K F ws y → ra K F (vs ++ ws) z
theorem rc_nil {τ : Type} [Ra τ] {y : τ} : RC () y y := fun K F vs ws h1 h2 => by
  have e : vs = [] := h1
  subst e; exact h2
theorem rc_cons {α τ1 τ2 τ3 : Type} [Rp α] [Ra τ1] [Ra τ2] [Ra τ3] {v : α} {x : τ1} {y : τ2} {z : τ3} (h : RC x y z) : RC (v, x) y (v, z) := fun K F vs ws ⟨u, r, e, p, q⟩ h2 => ⟨u, r ++ ws, by rw [e]; rfl, p, h K F r ws q h2⟩
theorem o2_catR {θ1 τ1 θ2 τ2 θ3 τ3 : Type} [Ra τ1] [Ra τ2] [Ra τ3] [RaN τ1] [RaN τ2] [Rp θ1] [Rp θ2] [Rp θ3] [Tup θ1 τ1] [Tup θ2 τ2] [Tup θ3 τ3] {x : θ1} {y : θ2} {z : θ3} (h : RC (Tup.row x) (Tup.row y) (Tup.row z)) (h1 : 0 < RaN.n τ1) (h2 : 0 < RaN.n τ2) (h3 : RaN.n τ1 + RaN.n τ2 ≤ sizeLine) : Op2 K (rCatA K) x y z := fun F H v w Q s rx ry k => by
  obtain ⟨p, vs, e, sq, rs⟩ := Tup.eq.mp rx
  obtain ⟨p', vs', e', sq', rs'⟩ := Tup.eq.mp ry
  have l1 := RaN.len rs
  have l2 := RaN.len rs'
  refine ⟨p, p', vs, vs', e, e', seqT_mono s sq, seqT_mono s sq', by rw [l1, l2]; exact h3, fun e0 => ?_, fun _ e0 => ?_, fun _ _ l hl => ?_⟩
  · rw [e0, List.length_nil] at l1; omega
  · rw [e0, List.length_nil] at l2; omega
  · exact k _ (upd F l (.tup (vs ++ vs'))) _ (Gr.new s hl) (Tup.eq.mpr ⟨l, _, rfl, upd_same, Ra.mono (same_upd (s.free hl)) (h K F vs vs' rs rs')⟩)
theorem ev_catR {θ1 τ1 θ2 τ2 θ3 τ3 : Type} [Ra τ1] [Ra τ2] [Ra τ3] [RaN τ1] [RaN τ2] [Rp θ1] [Rp θ2] [Rp θ3] [Tup θ1 τ1] [Tup θ2 τ2] [Tup θ3 τ3] {x : θ1} {y : θ2} (z : θ3) (ha : Ev X a σ F H x) (hb : Ev X b σ F H y) (h : RC (Tup.row x) (Tup.row y) (Tup.row z)) (h1 : 0 < RaN.n τ1) (h2 : 0 < RaN.n τ2) (h3 : RaN.n τ1 + RaN.n τ2 ≤ sizeLine) : Ev X (.BinOp a .Add b pos) σ F H z := ev_bin op_catA (o2_catR h h1 h2 h3) ha hb
/-! ### lists of four unlike things -/
structure H4 (α β γ δ : Type) where
  a : α
  b : β
  c : γ
  d : δ
  deriving DecidableEq
section
variable {α β γ δ : Type}
abbrev H4.row (x : H4 α β γ δ) : α × β × γ × δ × Unit := (x.a, x.b, x.c, x.d, ())
variable [Rp α] [Rp β] [Rp γ] [Rp δ]
instance : Rp (H4 α β γ δ) := ⟨fun K F v x => ∃ a vs, v = .ref a ∧ SqL K F a vs ∧ ra K F vs x.row, fun s ⟨a, vs, e, q, r⟩ => ⟨a, vs, e, s.seq q, Ra.mono s r⟩⟩
instance : NN (H4 α β γ δ) := ⟨fun ⟨_, _, e, _⟩ => nomatch e⟩
instance : Ob (H4 α β γ δ) := ⟨fun K F o x => ∃ vs, o = .lst vs ∧ ra K F vs x.row, fun s ⟨vs, e, r⟩ => ⟨vs, e, Ra.mono s r⟩, fun ⟨vs, e, r⟩ => e ▸ trivial, fun ⟨vs, e, r⟩ => e ▸ trivial,
  fun {K F o x l od} h ⟨vs, e, r⟩ => ⟨l, vs, rfl, .inl (.inr ⟨od, e ▸ h⟩), r⟩⟩
theorem en_hl4 {x : α} {y : β} {z : γ} {u : δ} (h : EvA X es σ F H (x, y, z, u, ())) : EvN X (.List es pos) σ F H (H4.mk x y z u) := fun F1 H1 g Q q =>
  GoE.of (pe_lst pa_go) (h F1 H1 g _ fun vs F2 H2 g2 r2 => ⟨by rw [RaN.len r2]; show 4 ≤ sizeLine; decide, fun p hp => EvN.newO q g2 hp ⟨vs, rfl, r2⟩⟩)
theorem ev_ixH {τ : Type} [Rp τ] {t : H4 α β γ δ} {i : Int} {x : τ} (ha : Ev X a σ F H t) (hb : Ev X b σ F H i) (h : Proj i t.row x) (hs : PlainIx b := by exact fun _ _ => rfl) : Ev X (.Subscript a b pos) σ F H x := fun F1 H1 g Q q =>
  GoE.of (pe_ix ix_list pe_go pe_go hs) (ha F1 H1 g _ fun v F2 H2 g2 r2 => hb F2 H2 (g.trans g2) _ fun w F3 H3 g3 r3 => by
    obtain ⟨p, vs, rfl, sq, rs⟩ := Rp.mono g3.ff r2
    obtain ⟨y, hy, ry⟩ := h _ _ _ rs
    exact ⟨p, vs, i, y, rfl, r3, g3.fh.seq sq, hy, q y F3 H3 (g2.trans g3) ry⟩)
/-- [x] + t[1:] -/
theorem en_hd4 {x : α} {t : H4 α β γ δ} {lo hi : Option Expr} {p2 p3 p4 p5 : Pos} (he : Ev X e σ F H x) (ht : Ev X a σ F H t) (hl : EvO X lo σ F H (some 1)) (hh : EvO X hi σ F H none) (hs0 : starEach [e] X.env = (false, eval e X.env) :: starEach [] X.env := by rfl) : EvN X (.BinOp (.List [e] p3) .Add (.Subscript a (.Slice lo hi none p2) p4) p5) σ F H (H4.mk x t.b t.c t.d) := fun F1 H1 g Q q =>
  GoE.of (pe_op op_catL (pe_lst pa_go) (pe_slice sl_list pe_go po_go po_go)) ((ea_cons he ea_nil hs0 : EvA X [e] σ F H (x, ())) F1 H1 g _ fun vs1 F2 H2 g2 r2 => ⟨by rw [RaN.len r2]; show 1 ≤ sizeLine; decide, fun l1 hl1 => by
    obtain ⟨v1, _, rfl, rv1, (rfl : _ = [])⟩ := r2
    have g2' := g2.trans (Gr.new (o := .lst [v1]) g2.fh hl1)
    refine ht _ _ (g.trans g2') _ fun v F3 H3 g3 r3 => hl F3 H3 ((g.trans g2').trans g3) _ fun F4 H4_ g4 => hh F4 H4_ (((g.trans g2').trans g3).trans g4) _ fun F5 H5 g5 => ?_
    obtain ⟨p, vs, rfl, sq, rs⟩ := Rp.mono (g4.ff.trans g5.ff) r3
    obtain ⟨w1, _, rfl, q1, w2, _, rfl, q2, w3, _, rfl, q3, w4, _, rfl, q4, (rfl : _ = [])⟩ := rs
    refine ⟨p, _, rfl, g5.fh.seq sq, fun l2 hl2 => ?_⟩
    have gA := ((g3.trans g4).trans g5)
    have hl1' : H5 l1 = some (.lst [v1]) := gA.hh.k _ _ upd_same trivial
    have ne : l1 ≠ l2 := fun z => by rw [z, hl2] at hl1'; cases hl1'
    refine ⟨l1, l2, [v1], [w2, w3, w4], rfl, rfl, SqL.of (by rw [upd_ne ne]; exact hl1'), SqL.of upd_same, by show 4 ≤ sizeLine; decide, fun l hl => ?_⟩
    have g6 : Gr F1 H1 (upd F5 l2 (.lst [w2, w3, w4])) (upd H5 l2 (.lst [w2, w3, w4])) := (g2'.trans gA).trans (Gr.new g5.fh hl2)
    refine EvN.newO q g6 hl ⟨_, rfl, ?_⟩
    have s1 : L2.Same F2 (upd F5 l2 (.lst [w2, w3, w4])) := ((same_upd (g2.fh.free hl1)).trans gA.ff).trans (same_upd (g5.fh.free hl2))
    have s2 : L2.Same F5 (upd F5 l2 (.lst [w2, w3, w4])) := same_upd (g5.fh.free hl2)
    exact ⟨v1, _, rfl, Rp.mono s1 rv1, w2, _, rfl, Rp.mono s2 q2, w3, _, rfl, Rp.mono s2 q3, w4, _, rfl, Rp.mono s2 q4, rfl⟩⟩)
end
/-! ### a tuple as displayed, without a dict of its own -/
def tTupN (t : TA) : TE := fun σ H Q => t σ H fun xs H1 => xs.length ≤ sizeLine ∧ ∀ l o, H1 l = none → o.dict = none → o.cls = .type "tuple" → Q (.ref l) (upd H1 l (.frz o (.tup xs)))
theorem pe_tupN {t : TA} {x1 : Nat} (h : PA X es t) : PE X (.Tuple es x1 pos) (tTupN t) := by
  refine ⟨fun pins s σ H Q I hq => ?_⟩
  refine wpAny_Tuple_spliced (thn (h.run pos pins s σ H _ I hq) fun us s1 ⟨xs, H1, I1, r, z, q⟩ => ⟨by rw [← r.length]; exact z, ?_⟩)
  have hf : H1 s1.heap.objs.size = none := I1.hok.fresh (Nat.le_refl _)
  refine ⟨.ref s1.heap.objs.size, _, I1.laid (t' := s1.toks) (fun b u e => Heap.get?_push_of_some _ e) (Nat.le_refl _) (show ObjOk X.prog X.w _ _ _ (.frz { cls := .type "tuple", data := .seq us.toArray } (.tup xs)) from ⟨Heap.get?_push_size _ rfl, z, us, r, IsTup.new _ _⟩), rfl, q _ _ hf rfl rfl⟩
theorem ev_tn {α : Type} [Rp α] {xs : List α} {k : Nat} (h : EvL X es σ F H xs) (hz : xs.length ≤ sizeLine) : Ev X (.Tuple es k pos) σ F H (Tn.mk xs) := fun F1 H1 g Q q =>
  GoE.of (pe_tupN pa_go) (h F1 H1 g _ fun vs F2 H2 g2 r2 => ⟨by rw [r2.length]; exact hz, fun l o hl h1 h2 => q _ (upd F2 l (.frz o (.tup vs))) _ (g2.trans (Gr.new g2.fh hl)) ⟨l, vs, o, rfl, upd_same, h1, h2, r2.mono (same_upd (g2.fh.free hl))⟩⟩)
/-! ### a condition whose first call raises -/
theorem rz_ix (ha : Rz X a σ F H) (hs : PlainIx b := by exact fun _ _ => rfl) : Rz X (.Subscript a b pos) σ F H := fun F1 H1 g Q =>
  GoE.of (pe_ix ix_tup pe_go pe_go hs) (ha F1 H1 g _)
def RzT (X : Cx) (e : Expr) (σ : L2.St) (F H : Hp) : Prop := ∀ F1 H1, GrX X.K F H F1 H1 → ∀ Q : Bool → Hp → Prop, GoT X e σ H1 Q
theorem rzt_cmp {op : CmpOp} {r : R2} (ho : OpR X (compareOp op) r) (ha : Rz X a σ F H) (hm : behindInMarks op b = false) : RzT X (.Compare a [op] [b] pos) σ F H := fun F1 H1 g Q =>
  GoT.of (pt_cmpR ho pe_go pe_go hm) (ha F1 H1 g _)
theorem go_ifZ {rest : List Stmt} {D : Ends} {as bs : List Stmt} (s : SmX X.K F H) (hc : RzT X c σ F H) : GoS X (.If c as bs pos :: rest) D σ H :=
  GoS.cons (ps_if pt_go pss_go pss_go) (hc F H (.refl s) _)
end
end Gx

/-! Gki: reversed(range(..)). -/
namespace Gx
open PySem PySem.Spec PyProof.Rows L2
open Rp (rp)
open Ra (ra)
open Ob (ob)
section
variable {X : Cx} {K : PySem.W.Frag} {F H : Hp} {σ : L2.St} {a b : Expr} {pos : Pos}
theorem wk_rangeR {lo : Int} {n : Nat} : Wk K (Itc (lo + (n : Int) - 1) (-1) n) F H (intsF lo n).reverse := fun i Fi Hi s1 s2 => by
  refine ⟨fun x hx => ?_, fun e => by rw [List.length_reverse, ints_len] at e; exact Nat.le_of_eq e.symm⟩
  obtain ⟨h1, h2⟩ := rev_get hx
  rw [ints_len] at h1 h2
  obtain ⟨h3, rfl⟩ := ints_get h2
  refine ⟨h1, fun v H' ⟨e1, e2⟩ => ?_⟩
  subst e1
  refine ⟨Fi, .refl s2, ?_⟩
  rw [e2, show lo + (n : Int) - 1 + ((i : Nat) : Int) * -1 = lo + ((n - 1 - i : Nat) : Int) by omega]
  rfl
theorem ei_revR1 {j : Int} {r : List Int} {tg : Expr} {p p2 pos2 : Pos} (h : Ev X a σ F H j) (hr : rngG j = some r) (hm : X.mg "reversed" = none) (hm2 : X.mg "range" = none) (hg : Gl X "reversed" := by rfl) (hg2 : Gl X "range" := by rfl) (hs : starEach [.Call (.Name "range" p2) [a] [] pos2] X.env = (false, eval (.Call (.Name "range" p2) [a] [] pos2) X.env) :: starEach [] X.env := by rfl) (hs1 : starEach [a] X.env = (false, eval a X.env) :: starEach [] X.env := by rfl) :
    EvI X tg (.Call (.Name "reversed" p) [.Call (.Name "range" p2) [a] [] pos2] [] pos) σ F H r.reverse := fun F1 H1 g R q =>
  GoI.of (pi_revR hg hm (prg_1 hg2 hm2 pe_go hs1) hs) (h F1 H1 g _ fun v F2 H2 g2 r2 => by
    unfold rngG at hr
    split at hr
    · rename_i hj
      cases hr
      have r2 : v = .int j := r2
      have := q _ F2 H2 g2 (wk_rangeR (lo := 0) (n := j.toNat))
      refine ⟨j, by rw [r2], by omega, by omega, hj.1, hj.2, ?_⟩
      rw [Int.sub_zero]
      exact this
    · cases hr)
theorem ei_revR2 {i j : Int} {r : List Int} {tg : Expr} {p p2 pos2 : Pos} (h : Ev X a σ F H i) (h' : Ev X b σ F H j) (hr : rngG2 i j = some r) (hm : X.mg "reversed" = none) (hm2 : X.mg "range" = none) (hg : Gl X "reversed" := by rfl) (hg2 : Gl X "range" := by rfl) (hs : starEach [.Call (.Name "range" p2) [a, b] [] pos2] X.env = (false, eval (.Call (.Name "range" p2) [a, b] [] pos2) X.env) :: starEach [] X.env := by rfl) (hs1 : starEach [a, b] X.env = (false, eval a X.env) :: starEach [b] X.env := by rfl) (hs2 : starEach [b] X.env = (false, eval b X.env) :: starEach [] X.env := by rfl) (hp : (backTo pos2 (starEach [b] X.env)).any (·.1) = false := by rfl) :
    EvI X tg (.Call (.Name "reversed" p) [.Call (.Name "range" p2) [a, b] [] pos2] [] pos) σ F H r.reverse := fun F1 H1 g R q =>
  GoI.of (pi_revR hg hm (prg_2 hg2 hm2 pe_go pe_go hs1 hs2 hp) hs) (h F1 H1 g _ fun v F2 H2 g2 r2 => h' F2 H2 (g.trans g2) _ fun v' F3 H3 g3 r3 => by
    unfold rngG2 at hr
    split at hr
    · rename_i hj
      cases hr
      have r2 : v = .int i := r2
      have r3 : v' = .int j := r3
      exact ⟨i, j, by rw [r2], by rw [r3], hj.1, hj.2.1, hj.2.2.1, hj.2.2.2, q _ F3 H3 (g2.trans g3) wk_rangeR⟩
    · cases hr)
end
end Gx

/-! Gkj: a private record: its fields are values, and private things. -/
namespace Gx
open PySem PySem.Spec PyProof.Rows L2
open Rp (rp)
open Ra (ra)
open Ob (ob)
/-- a field that holds a private thing -/
structure Pv (β : Type) where
  v : β
/-- one private thing becomes known for a while -/
def Thw (K : PySem.W.Frag) (H0 : Hp) (J : Hp → Hp → Prop) : Prop := ∀ {γ : Type} [Rp γ] [Ob γ] {y : γ} {F H : Hp} {l : Addr}, Own K H0 F H l y → L2.Same F H → (∀ F' H', L2.Same F F' → L2.Same F' H' → rp K F' (.ref l) y → (∀ a, a ≠ l → F' a = F a ∧ H' a = H a) → J F' H') → J F H
/-- a thing that may be private stands at l -/
def PlL (H : Hp) (l : Addr) : Prop := ∃ o, H l = some o ∧ lstish o ∧ pln o
theorem PlL.pl {H : Hp} {l : Addr} (h : PlL H l) : PlAt H l := let ⟨o, e, _, p⟩ := h; ⟨o, e, p⟩
theorem Own.pll {α : Type} [Rp α] [Ob α] {K : PySem.W.Frag} {H0 F H : Hp} {x : α} {l : Addr} (o : Own K H0 F H l x) : PlL H l := by
  obtain ⟨u, h, r⟩ := o.h
  exact ⟨u, h, Ob.ls r, Ob.pl r⟩
/-- the fields of a private record, those of one that is known -/
class Rw (τ : Type) (φ : outParam Type) [Ra φ] where
  rw : PySem.W.Frag → Hp → Hp → Hp → List Addr → List V → τ → Prop
  fz : τ → φ
  map : ∀ {K : PySem.W.Frag} {H0 F H H0' F' H' : Hp} {fp : List Addr} {vs : List V} {x : τ}, L2.Same F F' → (∀ {β : Type} [Rp β] [Ob β] {y : β} {a : Addr}, a ∈ fp → Own K H0 F H a y → Own K H0' F' H' a y) → rw K H0 F H fp vs x → rw K H0' F' H' fp vs x
  th : ∀ {K : PySem.W.Frag} {H0 : Hp} {J : Hp → Hp → Prop}, Thw K H0 J → ∀ {F H : Hp} {fp : List Addr} {vs : List V} {x : τ}, rw K H0 F H fp vs x → fp.Nodup → L2.Same F H → (∀ F' H', L2.Same F F' → L2.Same F' H' → ra K F' vs (fz x) → (∀ a, a ∉ fp → F' a = F a ∧ H' a = H a) → J F' H') → J F H
  ne : ∀ {K : PySem.W.Frag} {H0 F H : Hp} {fp : List Addr} {vs : List V} {x : τ}, rw K H0 F H fp vs x → ∀ a ∈ fp, H0 a = none ∧ F a = none ∧ PlL H a
instance : Rw Unit Unit := ⟨fun _ _ _ _ fp vs _ => fp = [] ∧ vs = [], id, fun _ _ h => h, fun T F H fp vs x h _ s k => by
  obtain ⟨e1, e2⟩ := h
  subst e1; subst e2
  exact k F H (.refl _) s rfl fun _ _ => ⟨rfl, rfl⟩, fun ⟨e, _⟩ a h => by rw [e] at h; cases h⟩
instance {α τ φ : Type} [Rp α] [Ra φ] [Rw τ φ] : Rw (α × τ) (α × φ) := ⟨fun K H0 F H fp vs x => ∃ v r, vs = v :: r ∧ rp K F v x.1 ∧ Rw.rw K H0 F H fp r x.2, fun x => (x.1, Rw.fz x.2),
  fun s m ⟨v, r, e, p, q⟩ => ⟨v, r, e, Rp.mono s p, Rw.map s m q⟩,
  fun T F H fp vs x h nd s k => by
    obtain ⟨v, r, e, p, q⟩ := h
    refine Rw.th T q nd s fun F' H' s1 s2 r' kk => k F' H' s1 s2 ⟨v, r, e, Rp.mono s1 p, r'⟩ kk,
  fun ⟨v, r, e, p, q⟩ => Rw.ne q⟩
instance {β τ φ : Type} [Rp β] [Ob β] [Ra φ] [Rw τ φ] : Rw (Pv β × τ) (β × φ) := ⟨fun K H0 F H fp vs x => ∃ p q r, fp = p :: q ∧ vs = .ref p :: r ∧ Own K H0 F H p x.1.v ∧ Rw.rw K H0 F H q r x.2, fun x => (x.1.v, Rw.fz x.2),
  fun s m ⟨p, q, r, e1, e2, o, w⟩ => ⟨p, q, r, e1, e2, m (by rw [e1]; exact List.mem_cons_self) o, Rw.map s (fun h o => m (by rw [e1]; exact List.mem_cons_of_mem _ h) o) w⟩,
  fun {K H0 J} T F H fp vs x h nd s k => by
    obtain ⟨p, q, r, e1, e2, o, w⟩ := h
    subst e1; subst e2
    obtain ⟨np, nd⟩ := List.nodup_cons.mp nd
    refine T o s fun F1 H1 s1 s2 r1 k1 => ?_
    refine Rw.th T (H0 := H0) (x := x.2) (vs := r) (fp := q) (Rw.map s1 (fun {β} _ _ {y a} ha o => o.keepF (fun z => np (by rw [← z]; exact ha)) s1 k1) w) nd s2 fun F2 H2 s3 s4 r2 k2 => ?_
    refine k F2 H2 (s1.trans s3) s4 ⟨.ref p, r, rfl, Rp.mono s3 r1, r2⟩ fun b hb => ?_
    have h1 := k1 b fun e => hb (e ▸ List.mem_cons_self)
    have h2 := k2 b fun m => hb (List.mem_cons_of_mem _ m)
    exact ⟨h2.1.trans h1.1, h2.2.trans h1.2⟩,
  fun ⟨p, q, r, e1, e2, o, w⟩ a h => by
    rw [e1] at h
    rcases List.mem_cons.mp h with e | m
    · subst e; exact ⟨o.n, o.f, o.pll⟩
    · exact Rw.ne w a m⟩
section
variable {X : Cx} {K : PySem.W.Frag} {e a b c d : Expr} {es : List Expr} {σ : L2.St} {F H F0 H0 : Hp} {pos : Pos} {D : Ends} {st : Stmt} {rest body : List Stmt} {τ φ : Type} [Ra φ] [Rw τ φ] {cn : Str} {ns : List Str} {x : τ} {l : Addr} {fp ex : List Addr}
/-- at l stands a private record; what is private in it stands at fp; none of it is at ex -/
structure OwnR (cn : Str) (ns : List Str) (K : PySem.W.Frag) (H0 F H : Hp) (l : Addr) (fp ex : List Addr) (x : τ) : Prop where
  n : H0 l = none
  f : F l = none
  w : ∃ dx vs, H l = some (.ins (He.ga K cn) dx (ns.zip vs)) ∧ ns.length = vs.length ∧ Rw.rw K H0 F H fp vs x
  nd : (l :: fp).Nodup
  ex : ∀ b ∈ ex, b ∉ l :: fp
theorem OwnR.mapA {H0' F' H' : Hp} {ex' : List Addr} (o : OwnR cn ns K H0 F H l fp ex x) (n : H0' l = none) (f : F' l = none) (h : H' l = H l) (s : L2.Same F F') (m : ∀ {β : Type} [Rp β] [Ob β] {y : β} {a : Addr}, a ∈ fp → Own K H0 F H a y → Own K H0' F' H' a y) (he : ∀ b ∈ ex', b ∉ l :: fp) : OwnR cn ns K H0' F' H' l fp ex' x := by
  obtain ⟨dx, vs, e, z, w⟩ := o.w
  exact ⟨n, f, ⟨dx, vs, h.trans e, z, Rw.map s m w⟩, o.nd, he⟩
theorem OwnR.up {F' H' : Hp} (o : OwnR cn ns K H0 F H l fp ex x) (g : Gr F H F' H') : OwnR cn ns K H0 F' H' l fp ex x := by
  obtain ⟨dx, vs, e, z, w⟩ := o.w
  exact ⟨o.n, (g.fr l _ e trivial).trans o.f, ⟨dx, vs, g.hh.k _ _ e trivial, z, Rw.map g.ff (fun _ o => o.up g) w⟩, o.nd, o.ex⟩
theorem OwnR.plA (o : OwnR cn ns K H0 F H l fp ex x) : ∀ a ∈ l :: fp, H0 a = none ∧ F a = none ∧ PlL H a := fun a ha => by
  obtain ⟨dx, vs, e, z, w⟩ := o.w
  rcases List.mem_cons.mp ha with m | m
  · subst m; exact ⟨o.n, o.f, _, e, trivial, trivial⟩
  · exact Rw.ne w a m
theorem OwnR.ne0 (o : OwnR cn ns K H0 F H l fp ex x) {p : Addr} (h : p ∈ l :: fp) : H p ≠ none := by
  obtain ⟨_, _, u, e, _⟩ := o.plA p h
  rw [e]; exact fun z => nomatch z
theorem OwnR.other {u : HO} {b : Addr} (o : OwnR cn ns K H0 F H l fp ex x) (h : b ∈ ex) : OwnR cn ns K H0 F (upd H b u) l fp ex x := by
  have hb := o.ex b h
  exact o.mapA o.n o.f (upd_ne fun e => hb (e ▸ List.mem_cons_self)) (.refl _) (fun m p => p.other fun z => hb (by rw [← z]; exact List.mem_cons_of_mem _ m)) o.ex
theorem OwnR.keepF {F' H' : Hp} {b : Addr} (o : OwnR cn ns K H0 F H l fp ex x) (h : b ∈ ex) (s : L2.Same F F') (k : ∀ a, a ≠ b → F' a = F a ∧ H' a = H a) : OwnR cn ns K H0 F' H' l fp ex x := by
  have hb := o.ex b h
  have hl := k l fun e => hb (e ▸ List.mem_cons_self)
  exact o.mapA o.n (hl.1.trans o.f) hl.2 s (fun m p => p.keepF (fun z => hb (by rw [← z]; exact List.mem_cons_of_mem _ m)) s k) o.ex
theorem OwnR.over {F' H' : Hp} {b : Addr} (o : OwnR cn ns K H0 F H l fp ex x) (h : b ∈ ex) (g : Gr F (er H b) F' H') : OwnR cn ns K H0 F' H' l fp ex x := by
  have hb := o.ex b h
  have hl : l ≠ b := fun e => hb (e ▸ List.mem_cons_self)
  obtain ⟨dx, vs, e, z, w⟩ := o.w
  have e2 : er H b l = some (.ins (He.ga K cn) dx (ns.zip vs)) := by rw [er_ne hl]; exact e
  exact o.mapA o.n ((g.fr l _ e2 trivial).trans o.f) ((g.hh.k _ _ e2 trivial).trans e.symm) g.ff (fun m p => p.over (fun z => hb (by rw [← z]; exact List.mem_cons_of_mem _ m)) g) o.ex
theorem OwnR.ext {p : Addr} (o : OwnR cn ns K H0 F H l fp ex x) (h : H p = none) : OwnR cn ns K H0 F H l fp (p :: ex) x := ⟨o.n, o.f, o.w, o.nd, fun b hb => by
  rcases List.mem_cons.mp hb with e | e
  · subst e; exact fun m => o.ne0 m h
  · exact o.ex b e⟩
theorem OwnR.exO {p : Addr} (o : OwnR cn ns K H0 F H l fp ex x) (h : H0 p ≠ none) : OwnR cn ns K H0 F H l fp (p :: ex) x := ⟨o.n, o.f, o.w, o.nd, fun b hb => by
  rcases List.mem_cons.mp hb with e | e
  · subst e; exact fun m => h (o.plA b m).1
  · exact o.ex b e⟩
theorem OwnR.base {H1 : Hp} (o : OwnR cn ns K H1 F H l fp ex x) (h : ∀ p, H1 p = none → H0 p = none) : OwnR cn ns K H0 F H l fp ex x := o.mapA (h l o.n) o.f rfl (.refl _) (fun _ p => p.base h) o.ex
theorem OwnR.cg {y : τ} (e : x = y) (o : OwnR cn ns K H0 F H l fp ex x) : OwnR cn ns K H0 F H l fp ex y := e ▸ o
/-! ### a private record that is read -/
/-- the record itself becomes known for a while -/
def ThI (K : PySem.W.Frag) (J : Hp → Hp → Prop) : Prop := ∀ {F H : Hp} {l C dx : Addr} {fs : List (Str × V)}, H l = some (.ins C dx fs) → F l = none → L2.Same F H → (L2.Same F (upd F l (.ins C dx fs)) → L2.Same (upd F l (.ins C dx fs)) H → J (upd F l (.ins C dx fs)) H) → J F H
theorem thaw_R {J : Hp → Hp → Prop} (T : Thw K H0 J) (TI : ThI K J) (o : OwnR cn ns K H0 F H l fp ex x) (s : L2.Same F H) (k : ∀ F' H', L2.Same F F' → L2.Same F' H' → rpI cn ns K F' (.ref l) (Rw.fz x) → (∀ a ∈ ex, F' a = F a ∧ H' a = H a) → J F' H') : J F H := by
  obtain ⟨dx, vs, e, z, w⟩ := o.w
  obtain ⟨nl, nd⟩ := List.nodup_cons.mp o.nd
  refine Rw.th T w nd s fun F1 H1 s1 s2 r1 k1 => ?_
  have kl := k1 l nl
  refine TI (kl.2.trans e) (kl.1.trans o.f) s2 fun s3 s4 => k _ H1 (s1.trans s3) s4 ⟨l, dx, vs, rfl, upd_same, Ra.mono s3 r1⟩ fun b hb => ?_
  have hb := o.ex b hb
  have h1 := k1 b fun m => hb (List.mem_cons_of_mem _ m)
  have bl : b ≠ l := fun z => hb (by rw [z]; exact List.mem_cons_self)
  exact ⟨by rw [upd_ne bl]; exact h1.1, h1.2⟩
theorem upd_id {H : Hp} {l : Addr} {o : HO} (h : H l = some o) : upd H l o = H := by
  funext b
  by_cases hb : b = l
  · rw [hb, upd_same, h]
  · rw [upd_ne hb]
theorem same_in {F H : Hp} {l : Addr} {o : HO} (s : L2.Same F H) (h : H l = some o) : L2.Same (upd F l o) H := fun b u e => by
  by_cases hb : b = l
  · subst hb; rw [upd_same] at e; rw [← e]; exact h
  · rw [upd_ne hb] at e; exact s _ _ e
theorem ev_thawI {α : Type} [Rp α] [Flat α] {z : α} : ThI X.K fun F H => Ev X e σ F H z := fun {F H l C dx fs} hl fl s k F1 H1 g Q q => by
  have kk := k (same_upd fl) (same_in s hl)
  obtain ⟨g1, f1, h1⟩ := GrX.show_ (u := .ins C dx fs) hl fl trivial trivial g
  rw [upd_id hl, upd_id h1] at g1
  refine kk _ _ g1 _ fun v F2 H2 g2 r2 => ?_
  have e2 : F2 l = some (.ins C dx fs) := g2.ff _ _ upd_same
  have h2 : H2 l = some (.ins C dx fs) := g2.fh _ _ e2
  have g3 : Gr (upd F1 l (.ins C dx fs)) (upd H1 l (.ins C dx fs)) F2 H2 := by rw [upd_id h1]; exact g2
  have g4 := Gr.hide h1 f1 trivial g3
  rw [upd_id h2] at g4
  exact q v _ _ g4 (Flat.fl (fun xs h => by rw [e2] at h; cases h) (fun o xs h => by rw [e2] at h; cases h) r2)
theorem et_thawI {z : Bool} : ThI X.K fun F H => EvT X e σ F H z := fun {F H l C dx fs} hl fl s k F1 H1 g Q q => by
  have kk := k (same_upd fl) (same_in s hl)
  obtain ⟨g1, f1, h1⟩ := GrX.show_ (u := .ins C dx fs) hl fl trivial trivial g
  rw [upd_id hl, upd_id h1] at g1
  refine kk _ _ g1 _ fun F2 H2 g2 => ?_
  have e2 : F2 l = some (.ins C dx fs) := g2.ff _ _ upd_same
  have h2 : H2 l = some (.ins C dx fs) := g2.fh _ _ e2
  have g3 : Gr (upd F1 l (.ins C dx fs)) (upd H1 l (.ins C dx fs)) F2 H2 := by rw [upd_id h1]; exact g2
  have g4 := Gr.hide h1 f1 trivial g3
  rw [upd_id h2] at g4
  exact q _ _ g4
theorem ev_thawR {α : Type} [Rp α] [Flat α] {z : α} (o : OwnR cn ns X.K H0 F H l fp ex x) (s : L2.Same F H) (h : ∀ F' H', L2.Same F F' → L2.Same F' H' → rpI cn ns X.K F' (.ref l) (Rw.fz x) → (∀ a ∈ ex, F' a = F a ∧ H' a = H a) → Ev X e σ F' H' z) : Ev X e σ F H z := thaw_R (J := fun F H => Ev X e σ F H z) (fun o s k => ev_thaw o s k) ev_thawI o s h
theorem et_thawR {z : Bool} (o : OwnR cn ns X.K H0 F H l fp ex x) (s : L2.Same F H) (h : ∀ F' H', L2.Same F F' → L2.Same F' H' → rpI cn ns X.K F' (.ref l) (Rw.fz x) → (∀ a ∈ ex, F' a = F a ∧ H' a = H a) → EvT X e σ F' H' z) : EvT X e σ F H z := thaw_R (J := fun F H => EvT X e σ F H z) (fun o s k => et_thaw o s k) et_thawI o s h
end
/-! ### a private record, closed -/
section
variable {X : Cx} {K : PySem.W.Frag} {e a b c d : Expr} {es : List Expr} {σ : L2.St} {F H F0 H0 : Hp} {pos : Pos} {D : Ends} {st : Stmt} {rest body : List Stmt} {τ φ : Type} [Ra φ] [Rw τ φ] {cn : Str} {ns : List Str} {x : τ} {l : Addr} {ex : List Addr}
structure OwR (cn : Str) (ns : List Str) (K : PySem.W.Frag) (H0 F H : Hp) (l : Addr) (ex : List Addr) (x : τ) : Prop where
  o : ∃ fp, OwnR cn ns K H0 F H l fp ex x
theorem OwR.cg {y : τ} (e : x = y) (o : OwR cn ns K H0 F H l ex x) : OwR cn ns K H0 F H l ex y := e ▸ o
theorem OwR.up {F' H' : Hp} (o : OwR cn ns K H0 F H l ex x) (g : Gr F H F' H') : OwR cn ns K H0 F' H' l ex x := let ⟨fp, o⟩ := o.o; ⟨fp, o.up g⟩
theorem OwR.n (o : OwR cn ns K H0 F H l ex x) : H0 l = none := let ⟨_, o⟩ := o.o; o.n
theorem OwR.ne0 (o : OwR cn ns K H0 F H l ex x) : H l ≠ none := let ⟨_, o⟩ := o.o; o.ne0 List.mem_cons_self
theorem OwR.other {u : HO} {b : Addr} (o : OwR cn ns K H0 F H l ex x) (h : b ∈ ex) : OwR cn ns K H0 F (upd H b u) l ex x := let ⟨fp, o⟩ := o.o; ⟨fp, o.other h⟩
theorem OwR.keepF {F' H' : Hp} {b : Addr} (o : OwR cn ns K H0 F H l ex x) (h : b ∈ ex) (s : L2.Same F F') (k : ∀ a, a ≠ b → F' a = F a ∧ H' a = H a) : OwR cn ns K H0 F' H' l ex x := let ⟨fp, o⟩ := o.o; ⟨fp, o.keepF h s k⟩
theorem OwR.over {F' H' : Hp} {b : Addr} (o : OwR cn ns K H0 F H l ex x) (h : b ∈ ex) (g : Gr F (er H b) F' H') : OwR cn ns K H0 F' H' l ex x := let ⟨fp, o⟩ := o.o; ⟨fp, o.over h g⟩
theorem OwR.ext {p : Addr} (o : OwR cn ns K H0 F H l ex x) (h : H p = none) : OwR cn ns K H0 F H l (p :: ex) x := let ⟨fp, o⟩ := o.o; ⟨fp, o.ext h⟩
theorem OwR.exO {p : Addr} (o : OwR cn ns K H0 F H l ex x) (h : H0 p ≠ none) : OwR cn ns K H0 F H l (p :: ex) x := let ⟨fp, o⟩ := o.o; ⟨fp, o.exO h⟩
theorem OwR.base {H1 : Hp} (o : OwR cn ns K H1 F H l ex x) (h : ∀ p, H1 p = none → H0 p = none) : OwR cn ns K H0 F H l ex x := let ⟨fp, o⟩ := o.o; ⟨fp, o.base h⟩
theorem OwR.nil (o : OwR cn ns K H0 F H l ex x) : OwR cn ns K H0 F H l [] x := let ⟨fp, o⟩ := o.o; ⟨fp, ⟨o.n, o.f, o.w, o.nd, fun b h => nomatch h⟩⟩
theorem OwR.tl {b : Addr} (o : OwR cn ns K H0 F H l (b :: ex) x) : OwR cn ns K H0 F H l ex x := let ⟨fp, o⟩ := o.o; ⟨fp, ⟨o.n, o.f, o.w, o.nd, fun b h => o.ex b (List.mem_cons_of_mem _ h)⟩⟩
theorem ev_thawRc {α : Type} [Rp α] [Flat α] {z : α} (o : OwR cn ns X.K H0 F H l ex x) (s : L2.Same F H) (h : ∀ F' H', L2.Same F F' → L2.Same F' H' → rpI cn ns X.K F' (.ref l) (Rw.fz x) → (∀ a ∈ ex, F' a = F a ∧ H' a = H a) → Ev X e σ F' H' z) : Ev X e σ F H z := let ⟨fp, o⟩ := o.o; ev_thawR o s h
theorem et_thawRc {z : Bool} (o : OwR cn ns X.K H0 F H l ex x) (s : L2.Same F H) (h : ∀ F' H', L2.Same F F' → L2.Same F' H' → rpI cn ns X.K F' (.ref l) (Rw.fz x) → (∀ a ∈ ex, F' a = F a ∧ H' a = H a) → EvT X e σ F' H' z) : EvT X e σ F H z := let ⟨fp, o⟩ := o.o; et_thawR o s h
end
/-! ### several places left out -/
def ers (H : Hp) (S : List Addr) : Hp := fun a => if a ∈ S then none else H a
section
variable {X : Cx} {K : PySem.W.Frag} {F H F0 H0 F' H' : Hp} {S : List Addr}
theorem ers_in {a : Addr} (h : a ∈ S) : ers H S a = none := if_pos h
theorem ers_out {a : Addr} (h : a ∉ S) : ers H S a = H a := if_neg h
theorem ers_some {a : Addr} {o : HO} (h : ers H S a = some o) : a ∉ S ∧ H a = some o := by
  unfold ers at h; split at h
  · cases h
  · exact ⟨by assumption, h⟩
theorem GdT.ers {P : Addr} (a : GdT H P) (h : ∀ l ∈ S, PlAt H l) : GdT (ers H S) P := by
  have hP : P ∉ S := fun m => a.ne (h P m) rfl
  obtain ⟨ps, e, h1, h2⟩ := a
  refine ⟨ps, (ers_out hP).trans e, h1, fun pos cv hc => ?_⟩
  obtain ⟨c, e1, e2⟩ := h2 pos cv hc
  refine ⟨c, e1, (ers_out fun m => ?_).trans e2⟩
  obtain ⟨o, ho, po⟩ := h c m
  rw [ho] at e2; exact codeO_pl (Option.some.inj e2) po
theorem HasT.ers (h : HasT K F H) (pl : ∀ l ∈ S, PlAt H l) : HasT K F (ers H S) := ⟨fun P hP => ⟨(h.t P hP).1.ers pl, (h.t P hP).2⟩⟩
theorem same_ers (s : L2.Same F H) (f : ∀ l ∈ S, F l = none) : L2.Same F (ers H S) := fun a o h => by
  rw [ers_out fun m => by rw [f a m] at h; cases h]; exact s a o h
theorem SmX.ers (s : SmX K F H) (f : ∀ l ∈ S, F l = none) (pl : ∀ l ∈ S, PlAt H l) : SmX K F (ers H S) := ⟨same_ers s.s f, s.h.ers pl⟩
theorem Gr.startS (s : L2.Same F H) : Gr F (ers H S) F H := ⟨.refl _, s, .same fun a o h => (ers_some h).2, fun _ _ _ _ => rfl⟩
theorem Gr.overS (g : Gr F0 H0 F H) (n : ∀ l ∈ S, H0 l = none) (g' : Gr F (ers H S) F' H') (pl : ∀ l ∈ S, PlAt H l) : Gr F0 H0 F' H' := by
  have lift : ∀ a o, H0 a = some o → ∀ u, H a = some u → ers H S a = some u := fun a o h u e => by
    rw [ers_out fun m => by rw [n a m] at h; cases h]; exact e
  refine ⟨g.ff.trans g'.ff, g'.fh, ⟨fun a o h ns => g'.hh.k a o (lift a o h _ (g.hh.k a o h ns)) ns, fun a ps h => ?_, fun P a => g'.hh.w P ((g.hh.w P a).ers pl)⟩, fun a o h ns => ?_⟩
  · obtain ⟨qs, e⟩ := g.hh.t a ps h
    exact g'.hh.t a qs (lift a _ h _ e)
  · cases o with
    | tbl ps =>
      obtain ⟨qs, e⟩ := g.hh.t a ps h
      rw [g'.fr a _ (lift a _ h _ e) trivial, g.fr a _ h trivial]
    | _ => rw [g'.fr a _ (lift a _ h _ (g.hh.k a _ h trivial)) ns, g.fr a _ h ns]
theorem GrX.overS (g : GrX K F0 H0 F H) (n : ∀ l ∈ S, H0 l = none) (g' : Gr F (ers H S) F' H') (pl : ∀ l ∈ S, PlAt H l) : GrX K F0 H0 F' H' := ⟨g.toGr.overS n g' pl, (g.h.ers pl).up g'⟩
theorem Own.overS {α : Type} [Rp α] [Ob α] {x : α} {l2 : Addr} (o : Own K H0 F H l2 x) (h : l2 ∉ S) (g : Gr F (ers H S) F' H') : Own K H0 F' H' l2 x := by
  obtain ⟨u, hl, r⟩ := o.h
  have e : ers H S l2 = some u := by rw [ers_out h]; exact hl
  exact ⟨o.n, (g.fr l2 u e (Ob.ls r)).trans o.f, u, g.hh.k _ _ e (Ob.pl r).ntb, Ob.mono g.ff r⟩
/-- what is grown is left out at both ends -/
theorem Gr.erS {F1 H1 F2 H2 : Hp} (g : Gr F1 H1 F2 H2) (h : ∀ l ∈ S, F1 l = none ∧ ∃ o, H1 l = some o ∧ lstish o ∧ pln o) : Gr F1 (ers H1 S) F2 (ers H2 S) := by
  have hS : ∀ l ∈ S, F2 l = none ∧ PlAt H2 l := fun l m => by
    obtain ⟨f, o, e, ls, po⟩ := h l m
    exact ⟨(g.fr l o e ls).trans f, o, g.hh.k l o e po.ntb, po⟩
  refine ⟨g.ff, same_ers g.fh fun l m => (hS l m).1, ⟨fun b u e n => ?_, fun b ps e => ?_, fun P a => ?_⟩, fun b u e n => g.fr b u (ers_some e).2 n⟩
  · obtain ⟨hb, e⟩ := ers_some e
    rw [ers_out hb]; exact g.hh.k b u e n
  · obtain ⟨hb, e⟩ := ers_some e
    rw [ers_out hb]; exact g.hh.t b ps e
  · exact (g.hh.w P (Xt.w (.same fun a o h => (ers_some h).2) P a)).ers fun l m => (hS l m).2
end
/-! ### calls that change a private record -/
/-- the private things b of ex stand -/
inductive AllNe (H : Hp) : List Addr → Prop
  | nil : AllNe H []
  | cons {b : Addr} {ex : List Addr} : H b ≠ none → AllNe H ex → AllNe H (b :: ex)
theorem AllNe.mem {H : Hp} {ex : List Addr} (h : AllNe H ex) : ∀ b ∈ ex, H b ≠ none := by
  induction h with
  | nil => exact fun b m => nomatch m
  | cons h _ ih =>
    intro b m
    rcases List.mem_cons.mp m with e | e
    · subst e; exact h
    · exact ih b e
theorem AllNe.up {H H' : Hp} {ex : List Addr} (h : AllNe H ex) (k : ∀ p, H' p = none → H p = none) : AllNe H' ex := by
  induction h with
  | nil => exact .nil
  | cons h _ ih => exact .cons (fun z => h (k _ z)) ih
section
variable {X : Cx} {K : PySem.W.Frag} {e a b c d : Expr} {es : List Expr} {σ : L2.St} {F H F0 H0 : Hp} {pos : Pos} {D : Ends} {st : Stmt} {rest body : List Stmt} {τ φ θ : Type} [Ra φ] [Rw τ φ] {cn : Str} {ns : List Str} {P : θ → τ} {l : Addr} {ex : List Addr}
/-- what a change of a private record leaves -/
structure AftR (cn : Str) (ns : List Str) (P : θ → τ) (K : PySem.W.Frag) (H0 F H : Hp) (l : Addr) (ex : List Addr) (y : θ) (F' H' : Hp) : Prop where
  s : ∃ S : List Addr, (∀ p ∈ S, H0 p = none ∧ F p = none ∧ PlL H p) ∧ (∀ b ∈ ex, b ∉ S) ∧ Gr F (ers H S) F' H'
  o : OwR cn ns K H0 F' H' l ex (P y)
theorem AftR.g {F' H' : Hp} {y : θ} (a : AftR cn ns P K H0 F H l ex y F' H') (g : GrX K F0 H0 F H) : GrX K F0 H0 F' H' := by
  obtain ⟨S, h1, _, h3⟩ := a.s
  exact g.overS (fun p m => (h1 p m).1) h3 fun p m => (h1 p m).2.2.pl
theorem AftR.ff {F' H' : Hp} {y : θ} (a : AftR cn ns P K H0 F H l ex y F' H') : L2.Same F F' := let ⟨_, _, _, h⟩ := a.s; h.ff
theorem AftR.own {α : Type} [Rp α] [Ob α] {x : α} {F' H' : Hp} {y : θ} {q : Addr} (a : AftR cn ns P K H0 F H l ex y F' H') (o : Own K H0 F H q x) (h : q ∈ ex) : Own K H0 F' H' q x := by
  obtain ⟨S, _, h2, h3⟩ := a.s
  exact o.overS (h2 q h) h3
def EvMR {ρ : Type} [Rp ρ] (cn : Str) (ns : List Str) (P : θ → τ) (X : Cx) (e : Expr) (σ : L2.St) (H0 F H : Hp) (l : Addr) (ex : List Addr) (r : ρ) (y : θ) : Prop := ∀ Q : VK, (∀ u F2 H2, AftR cn ns P X.K H0 F H l ex y F2 H2 → rp X.K F2 u r → Q u H2) → GoE X e σ H Q
/-- the promise of a def that changes the private record that is handed in at one place -/
def PrR (cn : Str) (ns : List Str) (P : θ → τ) (K : PySem.W.Frag) {τ1 τ2 ρ : Type} [Ra τ1] [Ra τ2] [Rp ρ] (f : τ1 → θ → τ2 → Option (ρ × θ)) : Sp := fun vs H Q _ => ∃ F ws1 l ws2 fp a1 x a2 r, vs = ws1 ++ .ref l :: ws2 ∧ SmX K F H ∧ ra K F ws1 a1 ∧ ra K F ws2 a2 ∧ OwnR cn ns K (ers H (l :: fp)) F H l fp [] (P x) ∧ f a1 x a2 = some r ∧
  ∀ F' H' u, Gr F (ers H (l :: fp)) F' H' → OwR cn ns K (ers H (l :: fp)) F' H' l [] (P r.2) → rp K F' u r.1 → Q u H'
theorem OwnR.toS {fp : List Addr} {x : τ} (o : OwnR cn ns K H0 F H l fp ex x) : OwnR cn ns K (ers H (l :: fp)) F H l fp [] x :=
  o.mapA (ers_in List.mem_cons_self) o.f rfl (.refl _) (fun m p => ⟨ers_in (List.mem_cons_of_mem _ m), p.f, p.h⟩) fun b h => nomatch h
theorem OwnR.aft {fp : List Addr} {x : τ} {y : θ} {F' H' : Hp} (o : OwnR cn ns K H0 F H l fp ex x) (ne : AllNe H ex) (hb : ∀ p, H p = none → H0 p = none) (g : Gr F (ers H (l :: fp)) F' H') (o' : OwR cn ns K (ers H (l :: fp)) F' H' l [] (P y)) : AftR cn ns P K H0 F H l ex y F' H' := by
  have pl := o.plA
  refine ⟨⟨l :: fp, pl, o.ex, g⟩, ?_⟩
  obtain ⟨fp', o'⟩ := o'.o
  refine ⟨fp', ?_⟩
  have o2 : OwnR cn ns K H0 F' H' l fp' [] (P y) := o'.base fun p hp => by
    by_cases m : p ∈ l :: fp
    · exact (pl p m).1
    · rw [ers_out m] at hp; exact hb p hp
  refine ⟨o2.n, o2.f, o2.w, o2.nd, fun b hbx m => ?_⟩
  have h1 := (o'.plA b m).1
  rw [ers_out (o.ex b hbx)] at h1
  exact ne.mem b hbx h1
theorem em_callR {τ1 τ2 ρ : Type} [Ra τ1] [Ra τ2] [Rp ρ] {f : τ1 → θ → τ2 → Option (ρ × θ)} {y : τ1} {z : τ2} {xx : θ} {r : ρ × θ} {k : Nat} {fa : Addr} {fd : FuncData} {ps : List Str} {x : Str} {p : Pos} (Fn : FnOk X.prog X.w X.K X.mg X.base CX0 k fa fd ps (PrR cn ns P X.K f)) (hr : Room k X.A) (hm : X.mg x = some (.ref fa))
    (hk : PySem.W.keepIn X.K (.ref fa) = true) (hb : Binds X.K fd ps []) (G : GrX X.K F0 H0 F H) (o : OwR cn ns X.K H0 F H l ex (P xx)) (ne : AllNe H ex) (ha : EvAM X (e :: es) σ F H y l z) (h : f y xx z = some r) (hg : Gl X x := by rfl) (hdb : (x == ("__debug__" : Str)) = false := by decide)
    (he : starEach (e :: es) X.env = (false, eval e X.env) :: starEach es X.env := by rfl) (hpl : (backTo pos (starEach es X.env)).any (·.1) = false := by rfl) : EvMR cn ns P X (.Call (.Name x p) (e :: es) [] pos) σ H0 F H l ex r.1 r.2 := fun Q q =>
  GoE.of (pe_call Fn hr hg hm hk hb .nil pass0 pa_go hdb he hpl) (ha F H (.refl G.sm) _ fun vs1 vs2 F2 H2 g2 r2 r3 => by
    obtain ⟨fp, o⟩ := o.o
    have o2 := o.up g2
    have ne2 : AllNe H2 ex := ne.up fun _ => g2.hh.free
    exact ⟨F2, vs1, l, vs2, fp, y, xx, z, r, by rw [List.append_nil], (G.trans g2).sm, r2, r3, o2.toS, h, fun F3 H3 v g3 o3 r4 => q v F3 H3 (by
      have a := o2.aft ne2 (fun p hp => (G.toGr.trans g2).hh.free hp) g3 o3
      exact ⟨⟨l :: fp, o.plA, o.ex, (g2.erS fun p m => (o.plA p m).2).trans g3⟩, a.o⟩) r4⟩)
end
/-! ### the fields of a private record, by places -/
class RwV (i : Nat) (τ : Type) {φ : Type} [Ra φ] [Rw τ φ] (α : outParam Type) [Rp α] where
  set : τ → α → τ
  put : ∀ {K : PySem.W.Frag} {H0 F H : Hp} {fp : List Addr} {vs : List V} {x : τ} {v : V} {y : α}, Rw.rw K H0 F H fp vs x → rp K F v y → Rw.rw K H0 F H fp (vs.set i v) (set x y)
class RwP (i : Nat) (τ : Type) {φ : Type} [Ra φ] [Rw τ φ] (β : outParam Type) [Rp β] [Ob β] where
  get : τ → β
  set : τ → β → τ
  own : ∀ {K : PySem.W.Frag} {H0 F H : Hp} {fp : List Addr} {vs : List V} {x : τ}, Rw.rw K H0 F H fp vs x → ∃ p, p ∈ fp ∧ vs[i]? = some (.ref p) ∧ Own K H0 F H p (get x) ∧
    ∀ {F' H' : Hp} {y : β}, fp.Nodup → L2.Same F F' → (∀ {γ : Type} [Rp γ] [Ob γ] {z : γ} {a : Addr}, a ∈ fp → a ≠ p → Own K H0 F H a z → Own K H0 F' H' a z) → Own K H0 F' H' p y → Rw.rw K H0 F' H' fp vs (set x y)
instance {α τ φ : Type} [Rp α] [Ra φ] [Rw τ φ] : RwV 0 (α × τ) α := ⟨fun x y => (y, x.2), fun ⟨v, r, e, p, q⟩ h => by subst e; exact ⟨_, r, rfl, h, q⟩⟩
instance {i : Nat} {α β τ φ : Type} [Rp α] [Rp β] [Ra φ] [Rw τ φ] [RwV i τ α] : RwV (i + 1) (β × τ) α := ⟨fun x y => (x.1, RwV.set i φ x.2 y), fun ⟨v, r, e, p, q⟩ h => by subst e; exact ⟨v, _, rfl, p, RwV.put q h⟩⟩
instance {i : Nat} {α β τ φ : Type} [Rp α] [Rp β] [Ob β] [Ra φ] [Rw τ φ] [RwV i τ α] : RwV (i + 1) (Pv β × τ) α := ⟨fun x y => (x.1, RwV.set i φ x.2 y), fun ⟨p, q, r, e1, e2, o, w⟩ h => by subst e1; subst e2; exact ⟨p, q, _, rfl, rfl, o, RwV.put w h⟩⟩
instance {β τ φ : Type} [Rp β] [Ob β] [Ra φ] [Rw τ φ] : RwP 0 (Pv β × τ) β := ⟨fun x => x.1.v, fun x y => (⟨y⟩, x.2), fun {K H0 F H fp vs x} ⟨p, q, r, e1, e2, o, w⟩ => by
  subst e1; subst e2
  refine ⟨p, List.mem_cons_self, rfl, o, fun nd s m oy => ⟨p, q, r, rfl, rfl, oy, Rw.map s (fun {γ} _ _ {z a} ha o => m (List.mem_cons_of_mem _ ha) (fun e => (List.nodup_cons.mp nd).1 (by rw [← e]; exact ha)) o) w⟩⟩⟩
instance {i : Nat} {α β τ φ : Type} [Rp α] [Rp β] [Ob β] [Ra φ] [Rw τ φ] [RwP i τ β] : RwP (i + 1) (α × τ) β := ⟨fun x => RwP.get i φ x.2, fun x y => (x.1, RwP.set i φ x.2 y), fun {K H0 F H fp vs x} ⟨v, r, e, h, w⟩ => by
  subst e
  obtain ⟨p, h1, h2, h3, h4⟩ := RwP.own (i := i) w
  exact ⟨p, h1, h2, h3, fun nd s m oy => ⟨v, r, rfl, Rp.mono s h, h4 nd s m oy⟩⟩⟩
instance {i : Nat} {γ β τ φ : Type} [Rp γ] [Ob γ] [Rp β] [Ob β] [Ra φ] [Rw τ φ] [RwP i τ β] : RwP (i + 1) (Pv γ × τ) β := ⟨fun x => RwP.get i φ x.2, fun x y => (x.1, RwP.set i φ x.2 y), fun {K H0 F H fp vs x} ⟨p0, q, r, e1, e2, o, w⟩ => by
  subst e1; subst e2
  obtain ⟨p, h1, h2, h3, h4⟩ := RwP.own (i := i) w
  refine ⟨p, List.mem_cons_of_mem _ h1, h2, h3, fun nd s m oy => ?_⟩
  obtain ⟨n0, nd⟩ := List.nodup_cons.mp nd
  exact ⟨p0, q, r, rfl, rfl, m List.mem_cons_self (fun e => n0 (by rw [e]; exact h1)) o, h4 nd s (fun ha hne o => m (List.mem_cons_of_mem _ ha) hne o) oy⟩⟩
theorem putF_set {f : Str} {v : V} : ∀ {names : List Str} {vs : List V} {i : Nat}, names[i]? = some f → names.idxOf f = i → names.length = vs.length → putF f v (names.zip vs) = names.zip (vs.set i v)
  | [], _, i, h, _, _ => by simp at h
  | n :: ns, [], i, _, _, h => by simp at h
  | n :: ns, w :: vs, i, h, hi, hl => by
    show (if n = f then _ else _) = _
    by_cases e : n = f
    · subst e
      have : i = 0 := by rw [← hi, List.idxOf_cons_self]
      subst this
      rw [if_pos rfl]; rfl
    · rw [if_neg e]
      have e' : (n == f) = false := beq_eq_false_iff_ne.mpr e
      cases i with
      | zero => simp at h; exact absurd h e
      | succ i =>
        rw [List.idxOf_cons, e'] at hi
        have := putF_set (v := v) (names := ns) (vs := vs) (i := i) (by simpa using h) (by simpa using hi) (by simpa using hl)
        show (n, w) :: putF f v (ns.zip vs) = (n, w) :: ns.zip (vs.set i v)
        rw [this]
section
variable {X : Cx} {K : PySem.W.Frag} {e a b c d : Expr} {es : List Expr} {σ : L2.St} {F H F0 H0 : Hp} {pos : Pos} {D : Ends} {st : Stmt} {rest body : List Stmt} {τ φ θ : Type} [Ra φ] [Rw τ φ] {cn : Str} {ns : List Str} {P : θ → τ} {l : Addr} {ex : List Addr} {w w' : θ}
/-- a place that is written -/
structure PkR (H0 F H : Hp) (ex : List Addr) (p : Addr) (u : HO) : Prop where
  n : H0 p = none
  f : F p = none
  pl : PlAt H p
  no : PlAt (upd H p u) p
  hx : ∀ b ∈ ex, b ≠ p
theorem PkR.g {p : Addr} {u : HO} (k : PkR H0 F H ex p u) (g : GrX K F0 H0 F H) : GrX K F0 H0 F (upd H p u) := g.poke k.n k.f k.pl k.no
theorem go_fldR {α : Type} [Rp α] {y : α} {fn n : Str} {p1 p2 : Pos} (i j : Nat) [RwV j τ α] (s : SmX X.K F H) (o : OwR cn ns X.K H0 F H l ex (P w)) (hσ : σ[i]? = some (some (.ref l))) (c : Cls X.K (He.ga X.K cn)) (na : NoAttr X.K (He.ga X.K cn) fn) (he : Ev X e σ F H y) (hw : P w' = RwV.set j φ (P w) y)
    (k : ∀ p u F' H', Gr F H F' H' → PkR H0 F' H' ex p u → OwR cn ns X.K H0 F' (upd H' p u) l ex (P w') → GoS X rest D σ (upd H' p u)) (hj : ns[j]? = some fn := by rfl) (hi : ns.idxOf fn = j := by decide) (hln : ns.length < 1000 := by decide) (hN : X.N[i]? = some n := by rfl) (hv : Vis X.env.scope n := by first | exact Or.inl rfl | exact Or.inr (Or.inl rfl) | exact Or.inr (Or.inr rfl))
    (hd : (n == ("__debug__" : Str)) = false := by decide) (hcd : (n == ("__classdict__" : Str)) = false := by decide) (hs : swapsWith e (some (.Attribute (.Name n p1) fn p2)) pos.line X.env = pure false := by rfl) : GoS X (.Assign [.Attribute (.Name n p1) fn p2] e pos :: rest) D σ H :=
  GoS.cons (ps_fld (pe_var hN hv hd hcd) pe_go hs) (he F H (.refl s) _ fun v F2 H2 g2 r2 => by
    obtain ⟨fp, o⟩ := o.o
    have o2 := o.up g2
    obtain ⟨dx, vs, h2, hl, rw_⟩ := o2.w
    refine ⟨_, hσ, l, _, dx, _, rfl, h2, c, na, ?_, ?_⟩
    · rw [List.length_zip]; omega
    · rw [putF_set hj hi hl]
      refine k l _ F2 H2 g2 ⟨o2.n, o2.f, ⟨_, h2, trivial⟩, ⟨_, upd_same, trivial⟩, fun b hb e => o2.ex b hb (by rw [e]; exact List.mem_cons_self)⟩ ⟨fp, ⟨o2.n, o2.f, ⟨dx, vs.set j v, upd_same, by rw [List.length_set]; exact hl, ?_⟩, o2.nd, o2.ex⟩⟩
      rw [hw]
      have nl := (List.nodup_cons.mp o2.nd).1
      exact Rw.map (.refl _) (fun {β} _ _ {z a} ha o => o.other fun e => nl (by rw [← e]; exact ha)) (RwV.put rw_ r2))
/-- n.f.append(e) -/
theorem go_appR {γ : Type} [Rp γ] {y : γ} {r : List γ} {fn n : Str} {p1 p2 p3 p4 : Pos} (i j : Nat) [RwP j τ (List γ)] (s : SmX X.K F H) (o : OwR cn ns X.K H0 F H l ex (P w)) (hσ : σ[i]? = some (some (.ref l))) (c : Cls X.K (He.ga X.K cn)) (na : NoAttr X.K (He.ga X.K cn) fn) (he : Ev X e σ F H y) (h : app (RwP.get j φ (P w)) y = some r) (hw : P w' = RwP.set j φ (P w) r)
    (k : ∀ p u F' H', Gr F H F' H' → PkR H0 F' H' ex p u → OwR cn ns X.K H0 F' (upd H' p u) l ex (P w') → GoS X rest D σ (upd H' p u)) (hi : ns.idxOf fn = j := by decide) (hj2 : j < ns.length := by decide) (hN : X.N[i]? = some n := by rfl) (hv : Vis X.env.scope n := by first | exact Or.inl rfl | exact Or.inr (Or.inl rfl) | exact Or.inr (Or.inr rfl))
    (hd : (n == ("__debug__" : Str)) = false := by decide) (hcd : (n == ("__classdict__" : Str)) = false := by decide) (hb0 : attributeBase (.Name n p1) fn X.env (eval (.Name n p1) X.env) = eval (.Name n p1) X.env := by rfl)
    (hbase : attributeBase (.Attribute (.Name n p1) fn p4) "append" X.env (eval (.Attribute (.Name n p1) fn p4) X.env) = eval (.Attribute (.Name n p1) fn p4) X.env := by rfl)
    (hfew : ((backTo p3 (starEach [e] X.env)).all (fun x => !x.1) && (backToKw p3 (keywordEach [] X.env)).all (fun x => x.1.isSome) && decide ([e].length + ([] : List Keyword).length + (if ([] : List Keyword).isEmpty then 0 else 1) < 30)) = true := by rfl)
    (hline : (p2.endLine == p3.line) = true := by rfl) (hs : starEach [e] X.env = (false, eval e X.env) :: starEach [] X.env := by rfl) (hplain : (backTo p3 (starEach [] X.env)).any (·.1) = false := by rfl) (hsw : swapsWith (.Call (.Attribute (.Attribute (.Name n p1) fn p4) "append" p2) [e] [] p3) none pos.line X.env = pure false := by rfl) :
    GoS X (.Expr (.Call (.Attribute (.Attribute (.Name n p1) fn p4) "append" p2) [e] [] p3) pos :: rest) D σ H := by
  obtain ⟨fp, o⟩ := o.o
  obtain ⟨dx, vs, hx, hl, rw_⟩ := o.w
  obtain ⟨p, pm, hp, op, put⟩ := RwP.own (i := j) rw_
  obtain ⟨_, hlp, xs, rfl, rs⟩ := op.h
  obtain ⟨hz, hr⟩ := app_of h
  refine GoS.cons (ps_expr (pe_bm PySem.F.plainAttrs_list PySem.F.slot_list_append PySem.F.type_list_append mt_append (pe_fld (pe_var hN hv hd hcd) hb0) (pa_cons pe_go pa_nil hs) hbase hfew hline hs hplain) hsw) ?_
  refine ⟨_, hσ, l, _, dx, _, .ref p, rfl, hx, c, na, zlook hi hj2 hp, .inl ⟨rfl, _, SqL.of hlp⟩, he F H (.refl s) _ fun v F2 H2 g r2 => ?_⟩
  have o2 := o.up g
  have hlp2 := g.hh.k _ _ hlp trivial
  have op2 := op.up g
  have nd := (List.nodup_cons.mp o.nd).2
  have nl : p ≠ l := fun e => (List.nodup_cons.mp o.nd).1 (by rw [← e]; exact pm)
  refine ⟨p, xs, v, rfl, rfl, hlp2, by rw [rs.length]; exact hz, ?_⟩
  refine k p _ F2 H2 g ⟨op2.n, op2.f, op2.pl, ⟨_, upd_same, trivial⟩, fun b hb e => o2.ex b hb (by rw [e]; exact List.mem_cons_of_mem _ pm)⟩ ⟨fp, ⟨o2.n, o2.f, ⟨dx, vs, by rw [upd_ne nl.symm]; exact g.hh.k _ _ hx trivial, hl, ?_⟩, o2.nd, o2.ex⟩⟩
  rw [hw]
  exact put nd g.ff (fun ha hne o => (o.up g).other hne) (Own.set op2.n op2.f (ob_lst (by rw [← hr]; exact Rps.append (rs.mono g.ff) (.cons r2 .nil))))
end
/-! ### defs and methods that change a private record -/
section
variable {X : Cx} {K : PySem.W.Frag} {e a b c d : Expr} {es : List Expr} {σ : L2.St} {F H F0 H0 : Hp} {pos : Pos} {D : Ends} {st : Stmt} {rest body : List Stmt} {τ φ θ : Type} [Ra φ] [Rw τ φ] {cn : Str} {ns : List Str} {W : θ → τ} {l : Addr} {ex : List Addr} {w w' : θ}
theorem fn_okR {P : Program} {w : World} {mg : Str → Option Value} {base : Heap} {τ1 τ2 ρ : Type} [Ra τ1] [RaN τ1] [Ra τ2] [RaN τ2] [Rp ρ] {f : τ1 → θ → τ2 → Option (ρ × θ)} {x qual : Str} {s0 : Stmt} {fa : Addr} {fd : FuncData} {N ps : List Str} {k : Nat} (Fn : FunD K x qual (defArgs s0) (defBody s0) (defScope s0) [] [] fa fd) (S : FnScope N ps (defScope s0)) (hn : RaN.n τ1 + (RaN.n τ2 + 1) = ps.length)
    (hbody : ∀ (cdv : Value) (A : Around) (outer : List Env) (s : Shared) (F H0 H : Hp) (l : Addr) (vs1 vs2 : List V) (a1 : τ1) (x : θ) (a2 : τ2) (r : ρ × θ) (D : Ends) (E : XK), Room k (A.deeper (envOfC qual (defScope s0) s.heap.objs.size fa cdv)) → GrX K F H0 F H → OwR cn ns K H0 F H l [] (W x) → ra K F vs1 a1 → ra K F vs2 a2 → f a1 x a2 = some r →
      (∀ F' H' u, GrX K F H0 F' H' → OwR cn ns K H0 F' H' l [] (W r.2) → rp K F' u r.1 → D.rt u H') → (∀ σ' F' H', GrX K F H0 F' H' → OwR cn ns K H0 F' H' l [] (W r.2) → rp K F' .non r.1 → D.nx σ' H') → GoS (cxOf CX0 P w K mg base N qual (defScope s0) fa cdv A outer s H E).nox (defBody s0) D (start N (vs1 ++ .ref l :: vs2)) H) :
    FnOk P w K mg base CX0 (k + 1) fa fd ps (PrR cn ns W K f) := by
  refine Fn.ok S (fun vs H Q E ⟨F, ws1, l, ws2, fp, a1, x, a2, r, e, _, r1, r2, _⟩ => by rw [e, List.length_append, List.length_cons, RaN.len r1, RaN.len r2, hn]) fun cdv A outer s H vs Q E hr ⟨F, ws1, l, ws2, fp, a1, x, a2, r, e, sm, r1, r2, o, hf, k⟩ => ?_
  subst e
  exact ⟨_, PSs.nox pss_go, hbody cdv A outer s F (ers H (l :: fp)) H l ws1 ws2 a1 x a2 r { nx := fun _ H' => Q .non H', rt := Q } E hr ⟨Gr.startS sm.s, sm.h⟩ ⟨fp, o⟩ r1 r2 hf (fun F' H' u g o r => k F' H' u g.toGr o r) fun σ' F' H' g o r => k F' H' .non g.toGr o r⟩
theorem OwR.aft {x : θ} {y : θ} (o : OwR cn ns K H0 F H l ex (W x)) (ne : AllNe H ex) (hb : ∀ p, H p = none → H0 p = none) {Q : List V → Hp → Prop} : True := trivial
/-- n.m(e, ..) -/
theorem em_methR {τ2 ρ : Type} [Ra τ2] [Rp ρ] {f : Unit → θ → τ2 → Option (ρ × θ)} {z : τ2} {r : ρ × θ} {m n : Str} {k : Nat} {fa : Addr} {fd : FuncData} {ps : List Str} {apos p1 : Pos} {pl : Sem Bool} (i : Nat) (hm : m ∉ ns) (cl : Cls X.K (He.ga X.K cn)) (me : Meth X.K (He.ga X.K cn) m fa) (Fn : FnOk X.prog X.w X.K X.mg X.base CX0 k fa fd ps (PrR cn ns W X.K f)) (hr : Room k X.A) (hb : Binds X.K fd ps [])
    (G : GrX X.K F0 H0 F H) (o : OwR cn ns X.K H0 F H l ex (W w)) (ne : AllNe H ex) (hσ : σ[i]? = some (some (.ref l))) (ha : EvA X (e :: es) σ F H z) (h : f () w z = some r) (hN : X.N[i]? = some n := by rfl) (hv : Vis X.env.scope n := by first | exact Or.inl rfl | exact Or.inr (Or.inl rfl) | exact Or.inr (Or.inr rfl))
    (hd : (n == ("__debug__" : Str)) = false := by decide) (hcd : (n == ("__classdict__" : Str)) = false := by decide) (hs : starEach (e :: es) X.env = (false, eval e X.env) :: starEach es X.env := by rfl) (hpl : (backTo pos (starEach es X.env)).any (·.1) = false := by rfl)
    (ht : eval (.Call (.Attribute (.Name n p1) m apos) (e :: es) [] pos) X.env = (do
      let ov ← eval (.Name n p1) X.env
      standAt apos.atName
      let (f, first) ← holding [ov] (getMethod ov m pl)
      callWith pos f first (backTo pos (starEach (e :: es) X.env)) (backToKw pos (keywordEach [] X.env))) := by rfl) : EvMR cn ns W X (.Call (.Attribute (.Name n p1) m apos) (e :: es) [] pos) σ H0 F H l ex r.1 r.2 := fun Q q => by
  obtain ⟨fp, o⟩ := o.o
  obtain ⟨dx, vs, hx, hl, _⟩ := o.w
  refine GoE.of (pe_meth (pe_var hN hv hd hcd) cl me Fn hr hb .nil pass0 pa_go hs hpl ht) ⟨_, hσ, l, dx, _, rfl, hx, zip_none hm, ha F H (.refl G.sm) _ fun us F2 H2 g2 r2 => ?_⟩
  have o2 := o.up g2
  have ne2 : AllNe H2 ex := ne.up fun _ => g2.hh.free
  refine ⟨F2, [], l, us, fp, (), w, z, r, by rw [List.append_nil]; rfl, (G.trans g2).sm, rfl, r2, o2.toS, h, fun F3 H3 v g3 o3 r4 => q v F3 H3 ?_ r4⟩
  have a := o2.aft ne2 (fun p hp => (G.toGr.trans g2).hh.free hp) g3 o3
  exact ⟨⟨l :: fp, o.plA, o.ex, (g2.erS fun p m => (o.plA p m).2).trans g3⟩, a.o⟩
/-- n.m() -/
theorem em_methR0 {ρ : Type} [Rp ρ] {f : Unit → θ → Unit → Option (ρ × θ)} {r : ρ × θ} {m n : Str} {k : Nat} {fa : Addr} {fd : FuncData} {ps : List Str} {apos p1 : Pos} {pl : Sem Bool} (i : Nat) (hm : m ∉ ns) (cl : Cls X.K (He.ga X.K cn)) (me : Meth X.K (He.ga X.K cn) m fa) (Fn : FnOk X.prog X.w X.K X.mg X.base CX0 k fa fd ps (PrR cn ns W X.K f)) (hr : Room k X.A) (hb : Binds X.K fd ps [])
    (G : GrX X.K F0 H0 F H) (o : OwR cn ns X.K H0 F H l ex (W w)) (ne : AllNe H ex) (hσ : σ[i]? = some (some (.ref l))) (h : f () w () = some r) (hN : X.N[i]? = some n := by rfl) (hv : Vis X.env.scope n := by first | exact Or.inl rfl | exact Or.inr (Or.inl rfl) | exact Or.inr (Or.inr rfl))
    (hd : (n == ("__debug__" : Str)) = false := by decide) (hcd : (n == ("__classdict__" : Str)) = false := by decide)
    (ht : eval (.Call (.Attribute (.Name n p1) m apos) [] [] pos) X.env = (do
      let ov ← eval (.Name n p1) X.env
      standAt apos.atName
      let (f, first) ← holding [ov] (getMethod ov m pl)
      callWith pos f first (backTo pos (starEach [] X.env)) (backToKw pos (keywordEach [] X.env))) := by rfl) : EvMR cn ns W X (.Call (.Attribute (.Name n p1) m apos) [] [] pos) σ H0 F H l ex r.1 r.2 := fun Q q => by
  obtain ⟨fp, o⟩ := o.o
  obtain ⟨dx, vs, hx, hl, _⟩ := o.w
  refine GoE.of (pe_meth0 (pe_var hN hv hd hcd) cl me Fn hr hb .nil pass0 ht) ⟨_, hσ, l, dx, _, rfl, hx, zip_none hm, ?_⟩
  refine ⟨F, [], l, [], fp, (), w, (), r, rfl, G.sm, rfl, rfl, o.toS, h, fun F3 H3 v g3 o3 r4 => q v F3 H3 ?_ r4⟩
  have a := o.aft ne (fun p hp => G.hh.free hp) g3 o3
  exact ⟨⟨l :: fp, o.plA, o.ex, g3⟩, a.o⟩
/-! statements by such expressions -/
theorem go_exprMR {ρ : Type} [Rp ρ] {r : ρ} {y : θ} (he : EvMR cn ns W X e σ H0 F H l ex r y) (k : ∀ F' H', AftR cn ns W X.K H0 F H l ex y F' H' → GoS X rest D σ H') (hs : swapsWith e none pos.line X.env = pure false := by rfl) : GoS X (.Expr e pos :: rest) D σ H :=
  GoS.cons (ps_expr pe_go hs) (he _ fun v F2 H2 a r => k F2 H2 a)
theorem go_setMR {ρ : Type} [Rp ρ] {r : ρ} {y : θ} {n : Str} {p : Pos} (i : Nat) (he : EvMR cn ns W X e σ H0 F H l ex r y) (k : ∀ v F' H', AftR cn ns W X.K H0 F H l ex y F' H' → rp X.K F' v r → GoS X rest D (σ.set i (some v)) H') (hN : X.N.Nodup) (hi : X.N[i]? = some n := by rfl)
    (hx : Loc X.env.scope n := by first | exact Or.inl rfl | exact Or.inr rfl) (hs : swapsWith e (some (.Name n p)) pos.line X.env = pure false := by rfl) (hf : X.fn n = true ∨ X.env.scope.names.lookup n = some .local := by first | exact .inl rfl | exact .inr rfl) :
    GoS X (.Assign [.Name n p] e pos :: rest) D σ H :=
  GoS.cons (ps_set hN hi hx pe_go hs hf) (he _ fun v F2 H2 a r => k v F2 H2 a r)
theorem go_retMR {ρ : Type} [Rp ρ] {r : ρ} {y : θ} (he : EvMR cn ns W X e σ H0 F H l ex r y) (k : ∀ v F' H', AftR cn ns W X.K H0 F H l ex y F' H' → rp X.K F' v r → D.rt v H') : GoS X (.Return (some e) pos :: rest) D σ H :=
  GoS.cons (ps_ret pe_go) (he _ fun v F2 H2 a r => k v F2 H2 a r)
/-! ### making one -/
def EvRec (cn : Str) (ns : List Str) (W : θ → τ) (X : Cx) (e : Expr) (σ : L2.St) (F H : Hp) (y : θ) : Prop := ∀ F1 H1, GrX X.K F H F1 H1 → ∀ Q : VK, (∀ l F2 H2, Gr F1 H1 F2 H2 → OwR cn ns X.K H1 F2 H2 l [] (W y) → Q (.ref l) H2) → GoE X e σ H1 Q
def PrIR (cn : Str) (ns : List Str) (W : θ → τ) (K : PySem.W.Frag) {τ1 : Type} [Ra τ1] (f : τ1 → Option θ) : Sp := fun vs H Q _ => ∃ F x dx args a r, vs = .ref x :: args ∧ SmX K F H ∧ F x = none ∧ H x = some (.ins (He.ga K cn) dx []) ∧ ra K F args a ∧ f a = some r ∧
  ∀ F' H', Gr F (er H x) F' H' → OwR cn ns K (er H x) F' H' x [] (W r) → Q .non H'
theorem fn_initR {P : Program} {w : World} {mg : Str → Option Value} {base : Heap} {τ1 : Type} [Ra τ1] [RaN τ1] {f : τ1 → Option θ} {x qual : Str} {s0 : Stmt} {fa : Addr} {fd : FuncData} {N ps : List Str} {k : Nat} (Fn : FunD K x qual (defArgs s0) (defBody s0) (defScope s0) [] [] fa fd) (S : FnScope N ps (defScope s0)) (hn : RaN.n τ1 + 1 = ps.length)
    (hbody : ∀ (cdv : Value) (A : Around) (outer : List Env) (s : Shared) (F H : Hp) (y dx : Addr) (vs : List V) (a : τ1) (r : θ) (D : Ends) (E : XK), Room k (A.deeper (envOfC qual (defScope s0) s.heap.objs.size fa cdv)) → GrX K F (er H y) F H → F y = none → H y = some (.ins (He.ga K cn) dx []) → ra K F vs a → f a = some r →
      (∀ σ' F' H', GrX K F (er H y) F' H' → OwR cn ns K (er H y) F' H' y [] (W r) → D.nx σ' H') → GoS (cxOf CX0 P w K mg base N qual (defScope s0) fa cdv A outer s H E).nox (defBody s0) D (start N (.ref y :: vs)) H) :
    FnOk P w K mg base CX0 (k + 1) fa fd ps (PrIR cn ns W K f) := by
  refine Fn.ok S (fun vs H Q E ⟨F, y, dx, args, a, r, e, _, _, _, ra', _⟩ => by rw [e, List.length_cons, RaN.len ra', hn]) fun cdv A outer s H vs Q E hr ⟨F, y, dx, args, a, r, e, sm, fy, hy, ra', hf, k⟩ => ?_
  subst e
  exact ⟨_, PSs.nox pss_go, hbody cdv A outer s F H y dx args a r { nx := fun _ H' => Q .non H', rt := Q } E hr ⟨Gr.start sm.s fy ⟨_, hy, trivial⟩, sm.h⟩ fy hy ra' hf fun σ' F' H' g o => k F' H' g.toGr o⟩
theorem er_make {τ1 : Type} [Ra τ1] {f : τ1 → Option θ} {y : τ1} {r : θ} {k : Nat} {fa : Addr} {fd : FuncData} {ps : List Str} {x : Str} {p : Pos} (M : Mk X.K (He.ga X.K cn) fa) (Fn : FnOk X.prog X.w X.K X.mg X.base CX0 k fa fd ps (PrIR cn ns W X.K f)) (hr : Room (k + 1) X.A)
    (hm : X.mg x = some (.ref (He.ga X.K cn))) (hb : Binds X.K fd ps []) (ha : EvA X (e :: es) σ F H y) (h : f y = some r) (hg : Gl X x := by rfl) (hdb : (x == ("__debug__" : Str)) = false := by decide)
    (he : starEach (e :: es) X.env = (false, eval e X.env) :: starEach es X.env := by rfl) (hpl : (backTo pos (starEach es X.env)).any (·.1) = false := by rfl) : EvRec cn ns W X (.Call (.Name x p) (e :: es) [] pos) σ F H r := fun F1 H1 g Q q =>
  GoE.of (pe_make M Fn hr hg hm hb .nil pass0 pa_go hdb he hpl) (ha F1 H1 g _ fun vs F2 H2 g2 r2 => by
    intro o dx ho hdx hne
    have g3 : Gr F2 H2 (upd F2 dx (.own o)) (upd H2 dx (.own o)) := Gr.new g2.fh hdx trivial
    have ho3 : upd H2 dx (.own o) o = none := by rw [upd_ne (fun z => hne z.symm)]; exact ho
    have fo3 : upd F2 dx (.own o) o = none := by rw [upd_ne (fun z => hne z.symm)]; exact g2.fh.free ho
    have g4 := Gr.newP (o := .ins (He.ga X.K cn) dx []) g3.fh ho3 trivial
    refine ⟨upd F2 dx (.own o), o, dx, vs, y, r, by rw [List.append_nil], (g.trans g2).sm.up (g3.trans g4), fo3, upd_same, Ra.mono g3.ff r2, h, fun F' H' g5 o5 => ⟨rfl, ?_⟩⟩
    have g6 : Gr F1 H1 F' H' := (((g2.trans g3).trans g4)).over (g2.hh.free ho) g5 ⟨_, upd_same, trivial⟩
    refine q o F' H' g6 (o5.base fun p hp => ?_)
    by_cases e : p = o
    · rw [e]; exact g2.hh.free ho
    · rw [er_ne e, upd_ne e] at hp
      exact g2.hh.free (g3.hh.free hp))
theorem go_setRec {n : Str} {p : Pos} (i : Nat) (s : SmX X.K F H) (he : EvRec cn ns W X e σ F H w) (k : ∀ l F' H', Gr F H F' H' → OwR cn ns X.K H F' H' l [] (W w) → GoS X rest D (σ.set i (some (.ref l))) H') (hN : X.N.Nodup) (hi : X.N[i]? = some n := by rfl)
    (hx : Loc X.env.scope n := by first | exact Or.inl rfl | exact Or.inr rfl) (hs : swapsWith e (some (.Name n p)) pos.line X.env = pure false := by rfl) (hf : X.fn n = true ∨ X.env.scope.names.lookup n = some .local := by first | exact .inl rfl | exact .inr rfl) :
    GoS X (.Assign [.Name n p] e pos :: rest) D σ H :=
  GoS.cons (ps_set hN hi hx pe_go hs hf) (he F H (.refl s) _ fun l F2 H2 g o => k l F2 H2 g o)
/-- return n.f, a new list -/
theorem go_retFldR {β : Type} [Rp β] [Ob β] {fn n : Str} {p1 p4 : Pos} (i j : Nat) [RwP j τ β] (o : OwR cn ns X.K H0 F H l ex (W w)) (hσ : σ[i]? = some (some (.ref l))) (c : Cls X.K (He.ga X.K cn)) (na : NoAttr X.K (He.ga X.K cn) fn) (k : ∀ p, Own X.K H0 F H p (RwP.get j φ (W w)) → D.rt (.ref p) H) (hi : ns.idxOf fn = j := by decide) (hj2 : j < ns.length := by decide) (hN : X.N[i]? = some n := by rfl) (hv : Vis X.env.scope n := by first | exact Or.inl rfl | exact Or.inr (Or.inl rfl) | exact Or.inr (Or.inr rfl))
    (hd : (n == ("__debug__" : Str)) = false := by decide) (hcd : (n == ("__classdict__" : Str)) = false := by decide) (hb0 : attributeBase (.Name n p1) fn X.env (eval (.Name n p1) X.env) = eval (.Name n p1) X.env := by rfl) : GoS X (.Return (some (.Attribute (.Name n p1) fn p4)) pos :: rest) D σ H := by
  obtain ⟨fp, o⟩ := o.o
  obtain ⟨dx, vs, hx, hl, rw_⟩ := o.w
  obtain ⟨p, pm, hp, op, _⟩ := RwP.own (i := j) rw_
  exact GoS.cons (ps_ret (pe_fld (pe_var hN hv hd hcd) hb0)) ⟨_, hσ, l, _, dx, _, .ref p, rfl, hx, c, na, zlook hi hj2 hp, k p op⟩
end
end Gx

/-! Gkk: the law's def alone, of which it is known that no repr is under way; repr of data; lists of private lists popped. -/
namespace Gx
open PySem PySem.Spec PyProof.Rows L2
open Rp (rp)
open Ra (ra)
open Ob (ob)
/-! ### the law's own call -/
/-- what a def does when the claim itself calls it -/
def TopOk (P : Program) (w : World) (K : PySem.W.Frag) (mg : Str → Option Value) (base : Heap) (f : Addr) (fd : FuncData) (ps : List Str) (sp : Sp) : Prop :=
  ∀ (s : Shared) (H : Hp) (args : Args) (us : List Value) (vs : List V) (Q : VK) (E : XK), Env0 P w K mg base callerA [] s H → BindsTo s fd args (ps.zip us) → Vals vs us → sp vs H Q E →
    codeAny (model P w) callerA (.call (.ref f) args) (L2.CR CX0 [] P w H s Q E) s
theorem top_ok {K : PySem.W.Frag} {P : Program} {w : World} {mg : Str → Option Value} {base : Heap} {τ ρ : Type} [Ra τ] [RaN τ] [Rp ρ] {f : τ → Option ρ} {x qual : Str} {s0 : Stmt} {fa : Addr} {fd : FuncData} {N ps : List Str} {k : Nat} (Fn : FunD K x qual (defArgs s0) (defBody s0) (defScope s0) [] [] fa fd) (S : FnScope N ps (defScope s0)) (hn : RaN.n τ = ps.length) (hr0 : Room (k + 1) callerA)
    (hbody : ∀ (cdv : Value) (A : Around) (outer : List Env) (s : Shared) (F H : Hp) (vs : List V) (a : τ) (r : ρ) (D : Ends) (E : XK), Room k (A.deeper (envOfC qual (defScope s0) s.heap.objs.size fa cdv)) → (A.deeper (envOfC qual (defScope s0) s.heap.objs.size fa cdv)).guards = some [] → SmX K F H → ra K F vs a → f a = some r →
      (∀ F' H' u, GrX K F H F' H' → rp K F' u r → D.rt u H') → (∀ σ' F' H', GrX K F H F' H' → rp K F' .non r → D.nx σ' H') → GoS (cxOf CX0 P w K mg base N qual (defScope s0) fa cdv A outer s H E).nox (defBody s0) D (start N vs) H) :
    TopOk P w K mg base fa fd ps (Pr K f) := by
  obtain ⟨oc, od, dV, kV, doc, pm, an, cdv, ct, osl, rfl, lk, hcd, _, _⟩ := Fn.ex
  intro s H args us vs Q E env0 bnd rv ⟨F, a, r, sm, ra', hf, k'⟩
  have keep0 : ∀ q o, base.get? q = some o → s.heap.get? q = some o := fun q o h => (env0.bs q o h).1
  have inK := env0.mod.kin.keeps keep0
  have noLim : s.heap.NoLimit := env0.mod.nolimit.keeps keep0
  have kinds : ∀ y ∈ ps.zip us, (defScope s0).names.lookup y.1 = some .local ∨ ((defScope s0).names.lookup y.1 = some .cell ∧ ((cellsFrom (s.heap.objs.size + 1) (defScope s0).names []).lookup y.1).isSome = true) := by
    rintro ⟨n, v⟩ hy
    exact (S.par n (List.of_mem_zip hy).1).imp id fun q => ⟨q, PySem.W.cellsFrom_some _ _ _ (.inl q)⟩
  refine codeAny_call_function hr0.depth (inK _ _ lk) rfl S.co S.gen rfl (PySem.W.codeRec_of inK hcd) (bnd _ _ _ _ (wpAny_newFunctionEnv_cells S.kind kinds fun env1 he1 s1 made => ?_))
  subst he1
  refine ⟨noLim.keeps made.toInCall.keep, codeAny_func ?_⟩
  have I := inv_start (CX := CX0) (E := E) (f := fa) (cd := cdv) (qual := qual) S hr0.hd env0 (by rw [RaN.len ra', hn]) rv made
  have body := (hbody cdv callerA [] s F H vs a r { nx := fun _ H' => Q .non H', rt := Q } E (hr0.deeper _) rfl sm ra' hf (fun F' H' u g q => k' F' H' u g.toGr q) fun σ' F' H' g q => k' F' H' .non g.toGr q).nox.o [] s1 I
  refine wpAny_mono body (fun fl s2 h2 => ?_) fun _ _ h2 => h2
  match fl, h2 with
  | .ret _, ⟨v1, σ1, H1, J, r1, q1⟩ => exact ⟨v1, H1, J.os, J.bare, J.base, J.hok, r1, q1⟩
  | .next, ⟨σ1, H1, J, q1⟩ => exact ⟨.non, H1, J.os, J.bare, J.base, J.hok, rfl, q1⟩
  | .brk, ⟨_, _, _, q1⟩ => exact q1.elim
  | .cont, ⟨_, _, _, q1⟩ => exact q1.elim
/-- the claim's call of such a def -/
theorem top_call {P : Program} {w : World} {K : PySem.W.Frag} {mg mb : Str → Option Value} {fa a : Addr} {fd : FuncData} {x : Str} {sp : Sp} {s : Shared} {vs : List Value} {ns : List Int}
    (KX : K.In s.heap) (hns : s.heap.Ns mainGlobals mg) (hb : s.heap.Ns builtinsNs mb) (hbb : ∀ x : Str, x ≠ "__name__" → mb x = bootBuiltins x) (hlim : s.heap.NoLimit) (hg : s.gens = #[])
    (ha : s.heap.get? a = some { cls := .type "list", data := .seq vs.toArray }) (hi : IntsAre vs ns) (hl : ns.length ≤ sizeLine)
    (F : ∀ base : Heap, K.In base → base.Ns mainGlobals mg → TopOk P w K mg base fa fd [x] sp) (hbind : ∀ (s : Shared) (u : Value), BindsTo s fd ⟨[u], []⟩ [(x, u)])
    (hsp : ∀ H : Hp, SqL K H a (ns.map V.int) → sp [.ref a] H (fun v _ => v = .bl true) fun _ _ _ => False) :
    codeAny (model P w) callerA (.call (.ref fa) ⟨[.ref a], []⟩) (fun r s' => r = .ok (.ret (.bool true)) ∧ OldK s.heap s'.heap ∧ s'.os = s.os ∧ AllBare s'.gens) s := by
  let oA : Obj := { cls := .type "list", data := .seq vs.toArray }
  let H : Hp := fun b => if b = a ∧ K.lookup a = none then some (.frz oA (.lst (ns.map V.int))) else none
  have rv := vals_ints hi
  have len := hi.length
  have hH : ∀ {b u}, H b = some u → (b = a ∧ K.lookup a = none) ∧ u = .frz oA (.lst (ns.map V.int)) := fun {b u} e => by
    by_cases c : b = a ∧ K.lookup a = none
    · exact ⟨c, (Option.some.inj ((if_pos c).symm.trans e)).symm⟩
    · exact nomatch (if_neg c).symm.trans e
  have free : ∀ {b o}, s.heap.get? b = some o → o.data ≠ .seq vs.toArray → H b = none := fun {b o} e d => by
    cases q : H b with
    | none => rfl
    | some u =>
      obtain ⟨⟨rfl, _⟩, _⟩ := hH q
      rw [ha] at e; cases e; exact absurd rfl d
  have ns' : ∀ {b : Addr} {m : Str → Option Value}, s.heap.Ns b m → (hidT s.heap H).Ns b m := fun ⟨o, es, ep, e, d, r⟩ => ⟨o, es, ep, hidT_get e (free e (by rw [d]; exact fun z => nomatch z)), d, r⟩
  have kin : K.In (hidT s.heap H) := fun b o e => hidT_get (KX b o e) (by
    cases q : H b with
    | none => rfl
    | some u =>
      obtain ⟨⟨rfl, z⟩, _⟩ := hH q
      rw [z] at e; cases e)
  have sq : SqL K H a (ns.map V.int) := by
    cases hk : K.lookup a with
    | none => exact .inl (.inr ⟨oA, if_pos ⟨rfl, hk⟩⟩)
    | some o =>
      have e := KX a o hk
      rw [ha] at e
      cases e
      exact .inr ⟨_, vs.toArray, _, hk, rfl, rfl, rfl, by rw [List.size_toArray, len]; exact hl, by simpa using rv⟩
  have hok : HOk P w H s.heap := fun b u e => by
    obtain ⟨⟨rfl, _⟩, rfl⟩ := hH e
    exact ⟨ha, by rw [List.length_map]; exact hl, vs, _, rv, ha⟩
  have env : Env0 P w K mg (hidT s.heap H) callerA [] s H := ⟨rfl, ⟨kin, ns' hns, ⟨mb, ns' hb, hbb⟩, let ⟨mc, h1, h2⟩ := hlim; ⟨mc, ns' h1, h2⟩⟩, fun b o e => of_hidT e, Nat.le_of_eq (hidT_size _ _), trivial, fun b z => (nomatch (show b ∈ ([] : List Addr) from z)), hok, .of_eq hg⟩
  refine codeAny_mono (F _ kin (ns' hns) s H ⟨[.ref a], []⟩ [.ref a] [.ref a] _ _ env (hbind s (.ref a)) (.cons rfl .nil) (hsp H sq)) fun r s' h => ?_
  match r, h with
  | .ok (.ret u), ⟨v, H', os, bare, un, hok', r', q⟩ =>
    obtain rfl : v = .bl true := q
    obtain rfl : u = Value.bool true := r'
    refine ⟨rfl, OldK.of_keep fun b o e => ?_, os, bare⟩
    cases q : H b with
    | none => exact un.keep b o e q (fun z => (nomatch (show b ∈ ([] : List Addr) from z))) (by simp)
    | some u =>
      obtain ⟨⟨rfl, _⟩, rfl⟩ := hH q
      obtain ⟨e2, _⟩ := hok' b _ (un.frzs b oA _ q)
      rw [ha] at e; cases e
      exact e2
/-- a law whose def is called so -/
theorem walk_top {l : PySem.W.OpenLaw} {n : Nat} {q : Program} {loose : List Str} {XP : (Str → Option Value) → Heap → Prop} {YP : World → Heap → Prop} {d : DefRec} {x : Str}
    (hn : l.most = some n) (hn2 : n ≤ sizeLine) (hdf : d.params.defaults = [])
    (F : ∀ (w : World) (mg : Str → Option Value) (fa : Addr) (h : Heap), YP w h → h.Ns mainGlobals mg → mg d.name = some (.ref fa) →
      ∃ (K : PySem.W.Frag) (fd : FuncData) (sp : Sp), K.In h ∧ (∀ (s : Shared) (u : Value), BindsTo s fd ⟨[u], []⟩ [(x, u)]) ∧
        (∀ (H : Hp) (a : Addr) (ns : List Int), ns.length ≤ n → SqL K H a (ns.map V.int) → sp [.ref a] H (fun v _ => v = .bl true) fun _ _ _ => False) ∧
        ∀ base : Heap, K.In base → base.Ns mainGlobals mg → TopOk l.prog w K mg base fa fd [x] sp) :
    PySem.W.WalkO q loose XP YP l.row.toRowW d [] (fun f vs => PySem.call f vs) := Att.attach_call hn hdf fun w s₀ s₁ mg mb fa o pm cd doc a vs ns G Y _ _ _ hmg hobj hints hlen hg => by
  obtain ⟨K, fd, sp, KX, hb, hsp, hF⟩ := F w mg fa _ Y G.T.g hmg
  exact top_call KX G.T.g G.T.b G.T.builtins G.T.nolimit hg hobj hints (Nat.le_trans hlen hn2) hF hb fun H hS => hsp H a ns hlen hS
instance : Pd Unit := ⟨fun _ => .none, fun {K F v x} h => by
  have h : v = .non := h
  subst h; exact .non, fun x y => by simp [PyData.eqv]⟩
/-! ### repr of data -/
/-- what stands as data -/
class PdD (α : Type) [Rp α] where
  toD : α → PyData
  dp : ∀ {K : PySem.W.Frag} {F : Hp} {v : V} {x : α}, rp K F v x → Dp K F v (toD x)
theorem dpd_all {α : Type} [Rp α] [PdD α] {K : PySem.W.Frag} {F : Hp} : ∀ {vs : List V} {xs : List α}, Rps K F vs xs → DpAll K F vs (xs.map PdD.toD)
  | _, _, .nil => .nil
  | _, _, .cons r t => .cons (PdD.dp r) (dpd_all t)
instance : PdD Dy := ⟨Dy.d, fun h => h⟩
instance : PdD Int := ⟨.int, fun h => Pd.dp (α := Int) h⟩
instance {α : Type} [Rp α] [PdD α] : PdD (List α) := ⟨fun xs => .list (xs.map PdD.toD), fun {K F v x} ⟨a, vs, e, sq, rs⟩ => by
  subst e
  exact .lst sq (dpd_all rs)⟩
instance {α β : Type} [Rp α] [Rp β] [PdD α] [PdD β] : PdD (T2 α β) := ⟨fun x => .tuple [PdD.toD x.a, PdD.toD x.b], fun {K F v x} ⟨a, vs, e, sq, v1, r1, e1, h1, v2, r2, e2, h2, e3⟩ => by
  have e3 : r2 = [] := e3
  subst e3; subst e2; subst e1; subst e
  exact .tup (SqT.of sq) (.cons (PdD.dp h1) (.cons (PdD.dp h2) .nil))⟩
/-- what stands at an address -/
class PdRef (α : Type) [Rp α] : Prop where
  ref : ∀ {K : PySem.W.Frag} {F : Hp} {v : V} {x : α}, rp K F v x → ∃ a, v = .ref a
instance {α : Type} [Rp α] : PdRef (List α) := ⟨fun ⟨a, _, e, _⟩ => ⟨a, e⟩⟩
instance {α β : Type} [Rp α] [Rp β] : PdRef (T2 α β) := ⟨fun ⟨a, _, e, _⟩ => ⟨a, e⟩⟩
def showG (d : PyData) : Option Str := if d.showable = true ∧ d.hasDict = false ∧ d.depth ≤ 60 ∧ d.shown.length ≤ sizeLine then some d.shown else none
theorem showG_of {d : PyData} {r : Str} (h : showG d = some r) : (d.showable = true ∧ d.hasDict = false ∧ d.depth ≤ 60 ∧ d.shown.length ≤ sizeLine) ∧ r = d.shown := by
  unfold showG at h
  split at h
  · exact ⟨by assumption, (Option.some.inj h).symm⟩
  · cases h
def rRepr (K : PySem.W.Frag) : List V → Hp → VK → Prop := fun vs H Q => ∃ a d r, vs = [.ref a] ∧ Dp K H (.ref a) d ∧ showG d = some r ∧ Q (.str r) H
section
variable {X : Cx} {K : PySem.W.Frag} {e a b c d : Expr} {es : List Expr} {σ : L2.St} {F H F0 H0 : Hp} {pos : Pos} {D : Ends} {st : Stmt} {rest body : List Stmt}
theorem call_repr {k : Nat} (hG : X.A.guards = some []) (hr : Room k X.A) : CallR X (.builtin "repr") (rRepr X.K) := by
  intro pins s σ H xs us Q I r h
  obtain ⟨a, d, t, rfl, hd, hs, q⟩ := h
  obtain ⟨⟨h1, h2, h3, h4⟩, rfl⟩ := showG_of hs
  cases r with
  | cons rx rr =>
    cases rr
    obtain rfl : _ = Value.ref a := rx
    obtain ⟨as, rd⟩ := Dp.reads I d (.ref a) (.ref a) hd rfl
    have hu := hr.units
    exact PySem.repr_of_reads' rd h1 (PyData.noDict_hsm h2) hG (by omega) (fun _ _ e => e) (fun h' u tk hk => ⟨.str _, H, I.kept hk, ⟨_, rfl⟩, q⟩) h4
theorem oc_repr {α : Type} [Rp α] [PdD α] [PdRef α] {x : α} {r : Str} (h : showG (PdD.toD x) = some r) : OpC K (rRepr K) (x, ()) r := oc1 fun F H v Q s rv q => by
  obtain ⟨a, rfl⟩ := PdRef.ref rv
  exact ⟨a, _, r, rfl, Dp.sm s _ _ (PdD.dp rv), h, q _ F H (.refl s) rfl⟩
/-! ### lists within a private list, popped -/
def popG2 {α : Type} (t : List (List α)) (i j : Int) : Option (α × List (List α)) := match ixN t.length i with
  | none => none
  | some n => match t[n]? with
    | none => none
    | some r => (popG r j).map fun w => (w.1, t.set n w.2)
section
variable {α : Type} [Rp α] {t : List (List α)} {l l2 : Addr} {ex : List Addr}
theorem own2_ix {as : List Addr} {k1 : Int} {m : Nat} {row : List α} {p : Addr} {vs : List V} (rs : Rps K F vs (as.map Ad.mk)) (pr : as.length = t.length) (hn : ixN t.length k1 = some m) (hpm : as[m]? = some p) : L2.atI vs k1 = some (.ref p) := by
  have hvm : vs[m]? = some (.ref p) := by
    have : (as.map Ad.mk)[m]? = some ⟨p⟩ := by rw [List.getElem?_map, hpm]; rfl
    obtain ⟨y, hy, ry⟩ := rs.get this
    have ry : y = .ref p := ry
    rw [hy, ry]
  unfold L2.atI
  rw [rs.length, List.length_map, pr, hn]
  exact hvm
/-- found.append(t[k].pop(j)) -/
theorem go_appPop2 {xs ys : List α} {q : α × List (List α)} {k1 k2 : Int} {n n2 : Str} {a1 a2 : Expr} {p1 p2 p3 p4 p5 p6 p7 : Pos} (i j : Nat) (s : SmX X.K F H) (o : Own2 X.K H0 F H l ex t) (o2 : Own X.K H0 F H l2 xs) (hm : l2 ∈ ex) (hσ : σ[i]? = some (some (.ref l))) (hσ2 : σ[j]? = some (some (.ref l2))) (hk1 : Ev X a1 σ F H k1) (hk2 : Ev X a2 σ F H k2) (h : popG2 t k1 k2 = some q) (happ : app xs q.1 = some ys)
    (kk : ∀ p w1 w2 F' H', Gr F H F' H' → H0 p = none → PlAt H' p → F' p = none → PlAt (upd H' p w1) p → (∀ b ∈ ex, b ≠ p) → PlAt (upd H' p w1) l2 → F' l2 = none → Own2 X.K H0 F' (upd (upd H' p w1) l2 w2) l ex q.2 → Own X.K H0 F' (upd (upd H' p w1) l2 w2) l2 ys → GoS X rest D σ (upd (upd H' p w1) l2 w2)) (hp : PlainIx a1 := by exact fun _ _ => rfl)
    (hN : X.N[i]? = some n := by rfl) (hv : Vis X.env.scope n := by first | exact Or.inl rfl | exact Or.inr (Or.inl rfl) | exact Or.inr (Or.inr rfl)) (hd : (n == ("__debug__" : Str)) = false := by decide) (hcd : (n == ("__classdict__" : Str)) = false := by decide)
    (hN2 : X.N[j]? = some n2 := by rfl) (hv2 : Vis X.env.scope n2 := by first | exact Or.inl rfl | exact Or.inr (Or.inl rfl) | exact Or.inr (Or.inr rfl)) (hd2 : (n2 == ("__debug__" : Str)) = false := by decide) (hcd2 : (n2 == ("__classdict__" : Str)) = false := by decide)
    (hbase : attributeBase (.Subscript (.Name n p1) a1 p2) "pop" X.env (eval (.Subscript (.Name n p1) a1 p2) X.env) = eval (.Subscript (.Name n p1) a1 p2) X.env := by rfl)
    (hfew : ((backTo p4 (starEach [a2] X.env)).all (fun x => !x.1) && (backToKw p4 (keywordEach [] X.env)).all (fun x => x.1.isSome) && decide ([a2].length + ([] : List Keyword).length + (if ([] : List Keyword).isEmpty then 0 else 1) < 30)) = true := by rfl)
    (hline : (p3.endLine == p4.line) = true := by rfl) (hs : starEach [a2] X.env = (false, eval a2 X.env) :: starEach [] X.env := by rfl) (hplain : (backTo p4 (starEach [] X.env)).any (·.1) = false := by rfl)
    (hbase2 : attributeBase (.Name n2 p5) "append" X.env (eval (.Name n2 p5) X.env) = eval (.Name n2 p5) X.env := by rfl)
    (hfew2 : ((backTo p7 (starEach [.Call (.Attribute (.Subscript (.Name n p1) a1 p2) "pop" p3) [a2] [] p4] X.env)).all (fun x => !x.1) && (backToKw p7 (keywordEach [] X.env)).all (fun x => x.1.isSome) && decide ([Expr.Call (.Attribute (.Subscript (.Name n p1) a1 p2) "pop" p3) [a2] [] p4].length + ([] : List Keyword).length + (if ([] : List Keyword).isEmpty then 0 else 1) < 30)) = true := by rfl)
    (hline2 : (p6.endLine == p7.line) = true := by rfl) (hs2 : starEach [.Call (.Attribute (.Subscript (.Name n p1) a1 p2) "pop" p3) [a2] [] p4] X.env = (false, eval (.Call (.Attribute (.Subscript (.Name n p1) a1 p2) "pop" p3) [a2] [] p4) X.env) :: starEach [] X.env := by rfl) (hplain2 : (backTo p7 (starEach [] X.env)).any (·.1) = false := by rfl)
    (hsw : swapsWith (.Call (.Attribute (.Name n2 p5) "append" p6) [.Call (.Attribute (.Subscript (.Name n p1) a1 p2) "pop" p3) [a2] [] p4] [] p7) none pos.line X.env = pure false := by rfl) :
    GoS X (.Expr (.Call (.Attribute (.Name n2 p5) "append" p6) [.Call (.Attribute (.Subscript (.Name n p1) a1 p2) "pop" p3) [a2] [] p4] [] p7) pos :: rest) D σ H := by
  unfold popG2 at h
  cases hn : ixN t.length k1 with
  | none => rw [hn] at h; cases h
  | some m =>
    rw [hn] at h
    dsimp only at h
    cases hmm : t[m]? with
    | none => rw [hmm] at h; cases h
    | some row =>
      rw [hmm] at h
      obtain ⟨w, hw, rfl⟩ := Option.map_eq_some_iff.mp h
      obtain ⟨jj, b1, b2, hj, hy, e2⟩ := popG_of hw
      obtain ⟨hz, rfl⟩ := app_of happ
      obtain ⟨as, ol, pr, nd, hx⟩ := o.w
      obtain ⟨nl, nda⟩ := List.nodup_cons.mp nd
      obtain ⟨p, hpm, op⟩ := paired_getA pr hmm
      have pm := List.mem_of_getElem? hpm
      have l2p : l2 ≠ p := fun e => hx l2 hm (e ▸ List.mem_cons_of_mem _ pm)
      have l2l : l2 ≠ l := fun e => hx l2 hm (e ▸ List.mem_cons_self)
      obtain ⟨_, h2l, vs2, rfl, rs2⟩ := id o2.h
      refine GoS.cons (ps_expr (pe_bm PySem.F.plainAttrs_list PySem.F.slot_list_append PySem.F.type_list_append mt_append (pe_var hN2 hv2 hd2 hcd2) (pa_cons (pe_bm PySem.F.plainAttrs_list PySem.F.slot_list_pop PySem.F.type_list_pop mt_popAt (pe_ix ix_list (pe_var hN hv hd hcd) pe_go hp) (pa_cons pe_go pa_nil hs) hbase hfew hline hs hplain) pa_nil hs2) hbase2 hfew2 hline2 hs2 hplain2) hsw) ?_
      refine ⟨_, hσ2, .inl ⟨rfl, _, SqL.of h2l⟩, _, hσ, hk1 F H (.refl s) _ fun v F2 H2 g2 r2 => ?_⟩
      obtain ⟨_, hl, vs, rfl, rs⟩ := (ol.up g2).h
      have op2 := op.up g2
      obtain ⟨_, hp2, wp2, rfl, rw2⟩ := id op2.h
      refine ⟨l, vs, k1, .ref p, rfl, r2, SqL.of hl, own2_ix (t := t) (row := row) rs pr.length hn hpm, .inl ⟨rfl, _, SqL.of hp2⟩, hk2 F2 H2 (s.gx g2) _ fun v3 F3 H3 g3 r3 => ?_⟩
      have g23 := g2.trans g3
      have hp3 := g3.hh.k _ _ hp2 trivial
      have rw3 := rw2.mono g3.ff
      obtain ⟨y, hy1, ry⟩ := rw3.get hy
      refine ⟨p, wp2, k2, jj, y, rfl, by rw [show v3 = .int k2 from r3], hp3, Int.le_trans (by decide) b1, Int.lt_trans b2 (by decide), by rw [rw2.length]; exact hj, hy1, ?_⟩
      have op3 := op2.up g3
      have on : Own X.K H0 F3 (upd H3 p (.lst (wp2.eraseIdx jj))) p w.2 := Own.set op3.n op3.f (by rw [e2]; exact ob_lst (rw3.erase jj))
      have o23 := o2.up g23
      have h2l3 : upd H3 p (.lst (wp2.eraseIdx jj)) l2 = some (.lst vs2) := by rw [upd_ne l2p]; exact g23.hh.k _ _ h2l trivial
      have rs23 := rs2.mono g23.ff
      have ofin : Own X.K H0 F3 (upd (upd H3 p (.lst (wp2.eraseIdx jj))) l2 (.lst (vs2 ++ [y]))) l2 (xs ++ [w.1]) := Own.set o23.n o23.f (ob_lst (Rps.append rs23 (.cons ry .nil)))
      refine ⟨l2, vs2, y, rfl, rfl, h2l3, by rw [rs2.length]; exact hz, ?_⟩
      refine kk p _ _ F3 H3 g23 op3.n op3.pl op3.f on.pl (fun b hb e => hx b hb (e ▸ List.mem_cons_of_mem _ pm)) ⟨_, h2l3, trivial⟩ o23.f ⟨as, ?_, ?_, nd, hx⟩ ofin
      · exact ((ol.up g23).other (fun e => nl (e ▸ pm))).other fun e => l2l e.symm
      · refine paired_mapM (paired_poke (L2.Paired.mapP pr fun _ _ z => z.up g23) nda hpm on) fun a ma _ z => z.other fun e => hx l2 hm (e ▸ List.mem_cons_of_mem _ ma)
theorem paired_erase {β γ : Type} {R : β → γ → Prop} : ∀ {as : List β} {bs : List γ} (n : Nat), Paired R as bs → Paired R (as.eraseIdx n) (bs.eraseIdx n)
  | _, _, _, .nil => by simp; exact .nil
  | _, _, 0, .cons _ t => t
  | _, _, n + 1, .cons r t => .cons r (paired_erase n t)
theorem erase_map {β γ : Type} (f : β → γ) : ∀ (l : List β) (n : Nat), (l.map f).eraseIdx n = (l.eraseIdx n).map f
  | [], _ => by simp
  | _ :: _, 0 => rfl
  | x :: l, n + 1 => by
    show f x :: (l.map f).eraseIdx n = f x :: (l.eraseIdx n).map f
    rw [erase_map f l n]
/-- t.pop(k) -/
theorem go_pop22 {q : List α × List (List α)} {k1 : Int} {n : Str} {a1 : Expr} {p1 p2 p3 : Pos} (i : Nat) (s : SmX X.K F H) (o : Own2 X.K H0 F H l ex t) (hσ : σ[i]? = some (some (.ref l))) (hk1 : Ev X a1 σ F H k1) (h : popG t k1 = some q)
    (kk : ∀ w F' H', Gr F H F' H' → H0 l = none → PlAt H' l → F' l = none → PlAt (upd H' l w) l → (∀ b ∈ ex, b ≠ l) → Own2 X.K H0 F' (upd H' l w) l ex q.2 → GoS X rest D σ (upd H' l w))
    (hN : X.N[i]? = some n := by rfl) (hv : Vis X.env.scope n := by first | exact Or.inl rfl | exact Or.inr (Or.inl rfl) | exact Or.inr (Or.inr rfl)) (hd : (n == ("__debug__" : Str)) = false := by decide) (hcd : (n == ("__classdict__" : Str)) = false := by decide)
    (hbase : attributeBase (.Name n p1) "pop" X.env (eval (.Name n p1) X.env) = eval (.Name n p1) X.env := by rfl)
    (hfew : ((backTo p3 (starEach [a1] X.env)).all (fun x => !x.1) && (backToKw p3 (keywordEach [] X.env)).all (fun x => x.1.isSome) && decide ([a1].length + ([] : List Keyword).length + (if ([] : List Keyword).isEmpty then 0 else 1) < 30)) = true := by rfl)
    (hline : (p2.endLine == p3.line) = true := by rfl) (hs : starEach [a1] X.env = (false, eval a1 X.env) :: starEach [] X.env := by rfl) (hplain : (backTo p3 (starEach [] X.env)).any (·.1) = false := by rfl)
    (hsw : swapsWith (.Call (.Attribute (.Name n p1) "pop" p2) [a1] [] p3) none pos.line X.env = pure false := by rfl) :
    GoS X (.Expr (.Call (.Attribute (.Name n p1) "pop" p2) [a1] [] p3) pos :: rest) D σ H := by
  obtain ⟨m, b1, b2, hj, hy, e2⟩ := popG_of h
  obtain ⟨as, ol, pr, nd, hx⟩ := o.w
  obtain ⟨nl, nda⟩ := List.nodup_cons.mp nd
  obtain ⟨p, hpm, op⟩ := paired_getA pr hy
  obtain ⟨_, hl, vs, rfl, rs⟩ := ol.h
  refine GoS.cons (ps_expr (pe_bm PySem.F.plainAttrs_list PySem.F.slot_list_pop PySem.F.type_list_pop mt_popAt (pe_var hN hv hd hcd) (pa_cons pe_go pa_nil hs) hbase hfew hline hs hplain) hsw) ?_
  refine ⟨_, hσ, .inl ⟨rfl, _, SqL.of hl⟩, hk1 F H (.refl s) _ fun v F2 H2 g2 r2 => ?_⟩
  have hl2 := g2.hh.k _ _ hl trivial
  have rs2 := rs.mono g2.ff
  have hpa : (as.map Ad.mk)[m]? = some ⟨p⟩ := by rw [List.getElem?_map, hpm]; rfl
  obtain ⟨y, hy1, _⟩ := rs2.get hpa
  have ol2 := ol.up g2
  have en : (as.map Ad.mk).eraseIdx m = (as.eraseIdx m).map Ad.mk := erase_map ..
  have on : Own X.K H0 F2 (upd H2 l (.lst (vs.eraseIdx m))) l ((as.eraseIdx m).map Ad.mk) := Own.set ol2.n ol2.f (by rw [← en]; exact ob_lst (rs2.erase m))
  refine ⟨l, vs, k1, m, y, rfl, by rw [show v = .int k1 from r2], hl2, Int.le_trans (by decide) b1, Int.lt_trans b2 (by decide), by rw [rs.length, List.length_map, pr.length]; exact hj, hy1, ?_⟩
  have sub : ∀ {b}, b ∈ as.eraseIdx m → b ∈ as := fun h => List.mem_of_mem_eraseIdx h
  refine kk _ F2 H2 g2 ol2.n ol2.pl ol2.f on.pl (fun b hb e => hx b hb (e ▸ List.mem_cons_self)) ⟨as.eraseIdx m, on, ?_, List.nodup_cons.mpr ⟨fun h => nl (sub h), nda.sublist (List.eraseIdx_sublist ..)⟩, fun b hb h => hx b hb ?_⟩
  · rw [e2]
    exact paired_mapM (paired_erase m (L2.Paired.mapP pr fun _ _ z => z.up g2)) fun a ma _ z => z.other fun e => nl (e ▸ sub ma)
  · rcases List.mem_cons.mp h with e | e
    · exact e ▸ List.mem_cons_self
    · exact List.mem_cons_of_mem _ (sub e)
end
end
/-! ### a tuple whose first place is a private list -/
/-- v is the tuple of the thing at l and x -/
def C1 {α : Type} [Rp α] (K : PySem.W.Frag) (F : Hp) (v : V) (l : Addr) (x : α) : Prop := ∃ a w, v = .ref a ∧ TupF F a [.ref l, w] ∧ rp K F w x
theorem C1.mono {α : Type} [Rp α] {K : PySem.W.Frag} {F F' : Hp} {v : V} {l : Addr} {x : α} (h : C1 K F v l x) (s : L2.Same F F') : C1 K F' v l x := by
  obtain ⟨a, w, e, t, r⟩ := h
  exact ⟨a, w, e, tupF_mono s t, Rp.mono s r⟩
theorem C1.rp {α γ : Type} [Rp α] [Rp γ] {K : PySem.W.Frag} {F : Hp} {v : V} {l : Addr} {x : α} {y : γ} (h : C1 K F v l x) (r : Rp.rp K F (.ref l) y) : Rp.rp K F v (T2.mk y x) := by
  obtain ⟨a, w, e, t, rw'⟩ := h
  exact ⟨a, _, e, t, .ref l, _, rfl, r, w, _, rfl, rw', rfl⟩
theorem C1.of {α γ : Type} [Rp α] [Rp γ] {K : PySem.W.Frag} {F : Hp} {v : V} {l : Addr} {t : T2 γ α} (h : C1 K F v l t.b) (r : Rp.rp K F (.ref l) t.a) : Rp.rp K F v t := h.rp r
section
variable {X : Cx} {K : PySem.W.Frag} {e a b c d : Expr} {es : List Expr} {σ : L2.St} {F H F0 H0 : Hp} {pos : Pos} {D : Ends} {st : Stmt} {rest body : List Stmt} {α γ : Type} [Rp α] [Rp γ] {x : α} {ys : List γ}
/-- e gives a new tuple of a new list and x -/
def EvC1 (X : Cx) (e : Expr) (σ : L2.St) (F H : Hp) (ys : List γ) (x : α) : Prop := ∀ F1 H1, GrX X.K F H F1 H1 → ∀ Q : VK, (∀ u l o F2 H2, Gr F1 H1 F2 H2 → H1 l = none → F2 l = none → H2 l = some o → ob X.K F2 o ys → C1 X.K F2 u l x → Q u H2) → GoE X e σ H1 Q
def PrC1 (K : PySem.W.Frag) {τ : Type} [Ra τ] (f : τ → Option (T2 (List γ) α)) : Sp := fun vs H Q _ => ∃ F a r, SmX K F H ∧ ra K F vs a ∧ f a = some r ∧ ∀ u l o F' H', Gr F H F' H' → H l = none → F' l = none → H' l = some o → ob K F' o r.a → C1 K F' u l r.b → Q u H'
theorem ec1_call {τ : Type} [Ra τ] {f : τ → Option (T2 (List γ) α)} {y : τ} {r : T2 (List γ) α} {k : Nat} {fa : Addr} {fd : FuncData} {ps : List Str} {x : Str} {p : Pos} (Fn : FnOk X.prog X.w X.K X.mg X.base CX0 k fa fd ps (PrC1 X.K f)) (hr : Room k X.A) (hm : X.mg x = some (.ref fa))
    (hk : PySem.W.keepIn X.K (.ref fa) = true) (hb : Binds X.K fd ps []) (ha : EvA X (e :: es) σ F H y) (h : f y = some r) (hg : Gl X x := by rfl) (hdb : (x == ("__debug__" : Str)) = false := by decide)
    (he : starEach (e :: es) X.env = (false, eval e X.env) :: starEach es X.env := by rfl) (hpl : (backTo pos (starEach es X.env)).any (·.1) = false := by rfl) : EvC1 X (.Call (.Name x p) (e :: es) [] pos) σ F H r.a r.b := fun F1 H1 g Q q =>
  GoE.of (pe_call Fn hr hg hm hk hb .nil pass0 pa_go hdb he hpl) (ha F1 H1 g _ fun vs F2 H2 g2 r2 => ⟨F2, y, r, (g.trans g2).sm, by rw [List.append_nil]; exact r2, h, fun u l o F3 H3 g3 n3 f3 h3 b3 c3 => q u l o F3 H3 (g2.trans g3) (g2.hh.free n3) f3 h3 b3 c3⟩)
theorem fn_okC1 {P : Program} {w : World} {mg : Str → Option Value} {base : Heap} {τ : Type} [Ra τ] [RaN τ] {f : τ → Option (T2 (List γ) α)} {x qual : Str} {s0 : Stmt} {fa : Addr} {fd : FuncData} {N ps : List Str} {k : Nat} (Fn : FunD K x qual (defArgs s0) (defBody s0) (defScope s0) [] [] fa fd) (S : FnScope N ps (defScope s0)) (hn : RaN.n τ = ps.length)
    (hbody : ∀ (cdv : Value) (A : Around) (outer : List Env) (s : Shared) (F H : Hp) (vs : List V) (a : τ) (r : T2 (List γ) α) (D : Ends) (E : XK), Room k (A.deeper (envOfC qual (defScope s0) s.heap.objs.size fa cdv)) → SmX K F H → ra K F vs a → f a = some r → (∀ u l o F' H', GrX K F H F' H' → H l = none → F' l = none → H' l = some o → ob K F' o r.a → C1 K F' u l r.b → D.rt u H') →
      True → GoS (cxOf CX0 P w K mg base N qual (defScope s0) fa cdv A outer s H E).nox (defBody s0) D (start N vs) H) :
    FnOk P w K mg base CX0 (k + 1) fa fd ps (PrC1 K f) := by
  refine Fn.ok S (fun vs H Q E ⟨F, a, r, _, ra', _⟩ => by rw [RaN.len ra', hn]) fun cdv A outer s H vs Q E hr ⟨F, a, r, sm, ra', hf, k⟩ => ?_
  exact ⟨_, PSs.nox pss_go, hbody cdv A outer s F H vs a r { nx := fun _ H' => Q .non H', rt := Q } E hr sm ra' hf (fun u l o F' H' g n f h r c => k u l o F' H' g.toGr n f h r c) trivial⟩
/-- return (xs, b), xs private -/
theorem go_retC1 {l : Addr} {n : Str} {p1 p2 : Pos} {k : Nat} (i : Nat) (s : SmX X.K F H) (o : Own X.K H0 F H l ys) (hσ : σ[i]? = some (some (.ref l))) (hb : Ev X b σ F H x) (kk : ∀ u ob' F' H', Gr F H F' H' → H0 l = none → F' l = none → H' l = some ob' → ob X.K F' ob' ys → C1 X.K F' u l x → D.rt u H')
    (hN : X.N[i]? = some n := by rfl) (hv : Vis X.env.scope n := by first | exact Or.inl rfl | exact Or.inr (Or.inl rfl) | exact Or.inr (Or.inr rfl)) (hd : (n == ("__debug__" : Str)) = false := by decide) (hcd : (n == ("__classdict__" : Str)) = false := by decide)
    (hs : starEach [.Name n p1, b] X.env = (false, eval (.Name n p1) X.env) :: starEach [b] X.env := by rfl) (hs2 : starEach [b] X.env = (false, eval b X.env) :: starEach [] X.env := by rfl) :
    GoS X (.Return (some (.Tuple [.Name n p1, b] k p2)) pos :: rest) D σ H :=
  GoS.cons (ps_ret (pe_tup (pa_cons (pe_var hN hv hd hcd) (pa_cons pe_go pa_nil hs2) hs))) ⟨_, hσ, hb F H (.refl s) _ fun v F2 H2 g2 r2 => ⟨by show 2 ≤ sizeLine; decide, fun p hp => by
    have o2 := o.up g2
    obtain ⟨u, h2, b2⟩ := o2.h
    have hl : l ≠ p := ne_of_none h2 hp
    have g4 : Gr F2 H2 (upd F2 p (.tup [.ref l, v])) (upd H2 p (.tup [.ref l, v])) := Gr.new g2.fh hp trivial
    exact kk (.ref p) u _ _ (g2.trans g4) o2.n (by rw [upd_ne hl]; exact o2.f) (by rw [upd_ne hl]; exact h2) (Ob.mono g4.ff b2) ⟨p, v, rfl, upd_same, Rp.mono g4.ff r2⟩⟩⟩
theorem go_setC1 {n : Str} {p : Pos} (i : Nat) (s : SmX X.K F H) (he : EvC1 X e σ F H ys x) (k : ∀ u l o F' H', Gr F H F' H' → H l = none → F' l = none → H' l = some o → ob X.K F' o ys → C1 X.K F' u l x → GoS X rest D (σ.set i (some u)) H') (hN : X.N.Nodup) (hi : X.N[i]? = some n := by rfl)
    (hx : Loc X.env.scope n := by first | exact Or.inl rfl | exact Or.inr rfl) (hs : swapsWith e (some (.Name n p)) pos.line X.env = pure false := by rfl) (hf : X.fn n = true ∨ X.env.scope.names.lookup n = some .local := by first | exact .inl rfl | exact .inr rfl) :
    GoS X (.Assign [.Name n p] e pos :: rest) D σ H :=
  GoS.cons (ps_set hN hi hx pe_go hs hf) (he F H (.refl s) _ fun u l o F2 H2 g n f h r c => k u l o F2 H2 g n f h r c)
theorem EvC1.ev (h : EvC1 X e σ F H ys x) : Ev X e σ F H (T2.mk ys x) := fun F1 H1 g Q q =>
  GoE.lock (Q' := fun v H2 => ∃ l o F2, C1 X.K F2 v l x ∧ Gr F1 H1 F2 H2 ∧ H1 l = none ∧ F2 l = none ∧ H2 l = some o ∧ ob X.K F2 o ys) (h F1 H1 g _ fun u l o F2 H2 g2 n2 f2 h2 r2 c2 => ⟨l, o, F2, c2, g2, n2, f2, h2, r2⟩)
    fun v H2 ⟨l, o, F2, c2, g2, n2, f2, h2, r2⟩ => ⟨l, o, h2, Ob.mu r2, fun od =>
      q _ (upd F2 l (.frz od o)) _ (g2.freeze n2 f2 ⟨_, h2, Ob.pl r2⟩ trivial) ((c2.mono (same_upd f2)).rp (Ob.fz upd_same (Ob.mono (same_upd f2) r2)))⟩
theorem EvC1.evT {t : T2 (List γ) α} (h : EvC1 X e σ F H t.a t.b) : Ev X e σ F H t := h.ev
/-- t[0].append(e) -/
theorem go_appendC1 {y : γ} {zs r : List γ} {l : Addr} {v : V} {n : Str} {j : Nat} {p1 p2 p3 p4 p5 : Pos} (i : Nat) (s : SmX X.K F H) (o : Own X.K H0 F H l zs) (ct : C1 X.K F v l x) (hσ : σ[i]? = some (some v)) (he : Ev X e σ F H y) (h : app zs y = some r)
    (k : ∀ u F' H', Gr F H F' H' → PlAt H' l → F' l = none → Own X.K H0 F' (upd H' l u) l r → GoS X rest D σ (upd H' l u)) (hN : X.N[i]? = some n := by rfl) (hv : Vis X.env.scope n := by first | exact Or.inl rfl | exact Or.inr (Or.inl rfl) | exact Or.inr (Or.inr rfl))
    (hd : (n == ("__debug__" : Str)) = false := by decide) (hcd : (n == ("__classdict__" : Str)) = false := by decide) 
    (hbase : attributeBase (.Subscript (.Name n p1) (.Constant (.int 0) j p4) p5) "append" X.env (eval (.Subscript (.Name n p1) (.Constant (.int 0) j p4) p5) X.env) = eval (.Subscript (.Name n p1) (.Constant (.int 0) j p4) p5) X.env := by rfl)
    (hfew : ((backTo p3 (starEach [e] X.env)).all (fun x => !x.1) && (backToKw p3 (keywordEach [] X.env)).all (fun x => x.1.isSome) && decide ([e].length + ([] : List Keyword).length + (if ([] : List Keyword).isEmpty then 0 else 1) < 30)) = true := by rfl)
    (hline : (p2.endLine == p3.line) = true := by rfl) (hs : starEach [e] X.env = (false, eval e X.env) :: starEach [] X.env := by rfl) (hplain : (backTo p3 (starEach [] X.env)).any (·.1) = false := by rfl) (hsw : swapsWith (.Call (.Attribute (.Subscript (.Name n p1) (.Constant (.int 0) j p4) p5) "append" p2) [e] [] p3) none pos.line X.env = pure false := by rfl) :
    GoS X (.Expr (.Call (.Attribute (.Subscript (.Name n p1) (.Constant (.int 0) j p4) p5) "append" p2) [e] [] p3) pos :: rest) D σ H := by
  obtain ⟨_, hl, vs, rfl, rs⟩ := o.h
  obtain ⟨hz, rfl⟩ := app_of h
  obtain ⟨a, w, ev, tf, rw'⟩ := ct
  refine GoS.cons (ps_expr (pe_bm PySem.F.plainAttrs_list PySem.F.slot_list_append PySem.F.type_list_append mt_append (pe_ix ix_tup (pe_var hN hv hd hcd) pe_int (fun _ _ => rfl)) (pa_cons pe_go pa_nil hs) hbase hfew hline hs hplain) hsw) ?_
  refine ⟨v, hσ, a, [.ref l, w], 0, .ref l, ev, rfl, seqT_mono s.s tf, rfl, .inl ⟨rfl, _, SqL.of hl⟩, he F H (.refl s) _ fun v F2 H2 g r => ?_⟩
  have o2 := o.up g
  have hl2 := g.hh.k _ _ hl trivial
  obtain ⟨_, hl3, vs2, rfl, rs2⟩ := o2.h
  rw [hl2] at hl3; cases hl3
  exact ⟨l, vs, v, rfl, rfl, hl2, by rw [rs2.length]; exact hz, k _ F2 H2 g o2.pl o2.f (Own.set o2.n o2.f (ob_lst (Rps.append rs2 (.cons r .nil))))⟩
end
end Gx

namespace Law
open PySem PySem.Spec PyProof.Rows L2 Gx
open Rp (rp)
open Ra (ra)

/-! ### the text -/
def top (i : Nat) : Stmt := PySem.Challenge.pw_furrow_k80_woven.main.body.getD i (.Pass ⟨0, 0, 0, 0⟩)
abbrev s_at : Stmt := top 3
abbrev s_thing : Stmt := top 5
abbrev s_lists : Stmt := top 6
abbrev s_picks : Stmt := top 7
abbrev s_due : Stmt := top 8
abbrev s_woven : Stmt := top 1
abbrev s_law : Stmt := top 9
namespace Run
def D_at : He.DefD := ⟨("_law_at", none), "_law_at", "_law_at", defArgs s_at, defBody s_at, defScope s_at, [], []⟩
def D_thing : He.DefD := ⟨("_law_thing", none), "_law_thing", "_law_thing", defArgs s_thing, defBody s_thing, defScope s_thing, [], []⟩
def D_lists : He.DefD := ⟨("_law_lists", none), "_law_lists", "_law_lists", defArgs s_lists, defBody s_lists, defScope s_lists, [], []⟩
def D_picks : He.DefD := ⟨("_law_picks", none), "_law_picks", "_law_picks", defArgs s_picks, defBody s_picks, defScope s_picks, [], []⟩
def D_due : He.DefD := ⟨("_law_due", none), "_law_due", "_law_due", defArgs s_due, defBody s_due, defScope s_due, [], []⟩
def D_woven : He.DefD := ⟨("woven", none), "woven", "woven", defArgs s_woven, defBody s_woven, defScope s_woven, [], []⟩
def D_law : He.DefD := ⟨("law", none), "law", "law", defArgs s_law, defBody s_law, defScope s_law, [], []⟩
def fn : List He.DefD := [D_at, D_thing, D_lists, D_picks, D_due, D_woven, D_law]
def fa : List He.Fa := [.glo "_law_at", .glo "_law_thing", .glo "_law_lists", .glo "_law_picks", .glo "_law_due", .glo "woven", .glo "law", .free "isinstance", .free "len", .free "list", .free "range", .free "repr", .free "str", .free "tuple"]
abbrev R : PySem.W.OpenRow := PySem.W.OpenLaw.row PySem.Challenge.rw_furrow_k80_woven
def ex (K : PySem.W.Frag) : Bool := true
abbrev hk : PySem.W.Hook := hookE 4 fa fn ex
def ob (s : PySem.W.SharedT) : AlE := obsE 4 fa fn ex (HandSHeadRun.getT s)
theorem ob_eq (s : PySem.W.SharedT) : ob s = hk.obs s.abs := obsE_eq (HandSHeadRun.getT_eq s)
def loose : List Str := ["__name__", "woven", "_law_at", "_law_digits", "_law_thing", "_law_lists", "_law_picks", "_law_due"]
theorem run (w : World) : HandSHeadRun.RunEq R (PySem.W.view R.prog [9]) hk ob 4000 loose w := by
  intro os
  kernel_rfl
end Run
/-! ### mirrors -/
def m_at (x_script : (List Int)) (x_k : Int) : Option Int :=
  (some (((7919 : Int) * x_k) + (1 : Int))).bind fun x_number => (if (decide (x_k < (x_script.length : Int))) = true then (L2.atI x_script x_k).bind fun t3 => (some (x_number + t3)).bind fun x_number => some x_number else if (decide ((0 : Int) < (x_script.length : Int))) = true then (modG (x_k * (7 : Int)) (x_script.length : Int)).bind fun t4 => (L2.atI x_script t4).bind fun t5 => (some (((31 : Int) * x_number) + t5)).bind fun x_number => some x_number else some x_number).bind fun (b1 : Int) => (some ((b1 * (48271 : Int)) % (2147483647 : Int))).bind fun x_number => (mulG x_number x_number).bind fun t6 => some (t6 % (2147483629 : Int))
def m_thing (x_cell : Int) (x_n : Int) : Option Dy :=
  (sOfI ((x_cell / (5 : Int)) % (7 : Int))).bind fun t1 => (some [(Dy.mk (Pd.toD ((x_cell / (5 : Int)) % (3 : Int)))), (Dy.mk (Pd.toD t1)), (Dy.mk (Pd.toD (T2.mk x_n ((x_cell / (5 : Int)) % (2 : Int))))), (Dy.mk (Pd.toD ())), (Dy.mk (Pd.toD (decide (((x_cell / (5 : Int)) % (2 : Int)) = (1 : Int)))))]).bind fun x_some => (L2.atI x_some (x_cell % (5 : Int))).bind fun t2 => some t2
def m_lists (x_script : (List Int)) : Option (List (List Dy)) :=
  (some ([] : List (List Dy))).bind fun x_found => (m_at x_script (0 : Int)).bind fun t1 => (rngG (t1 % (8 : Int))).bind fun t2 => (loopN (fun (b3 : (List (List Dy))) (x_n : Int) => (m_at x_script ((1 : Int) + x_n)).bind fun t7 => (some t7).bind fun x_cell => (some (x_cell % (5 : Int))).bind fun x_many => (m_at x_script (0 : Int)).bind fun t8 => (if (decide (((t8 / (8 : Int)) % (4 : Int)) = (1 : Int))) = true then (m_at x_script (0 : Int)).bind fun t9 => some (decide (x_n = ((t9 / (32 : Int)) % (7 : Int)))) else some false).bind fun t10 => (if t10 = true then (some (x_cell % (61 : Int))).bind fun x_many => some x_many else some x_many).bind fun (b11 : Int) => (rngG b11).bind fun t13 => (compG (fun (x_j : Int) => (mulG (x_cell + ((7919 : Int) * x_j)) ((48271 : Int) + ((2 : Int) * x_j))).bind fun t14 => (m_thing (t14 % (1000003 : Int)) x_j).bind fun t15 => some (some t15)) t13).bind fun t16 => (app b3 t16).bind fun t17 => some t17) x_found t2).bind fun (b18 : (List (List Dy))) => some b18
def m_picks (x_script : (List Int)) : Option (List Int) :=
  (compG (fun (x_cell : Int) => some (some (x_cell % (100000000000000000000 : Int)))) (cut x_script (some (13 : Int)) none)).bind fun t1 => (some t1).bind fun x_found => (m_at x_script (9 : Int)).bind fun t2 => (if (decide ((t2 % (3 : Int)) = (1 : Int))) = true then (compG (fun (x_cell : Int) => some (some (x_cell % (4 : Int)))) x_found).bind fun t5 => (some t5).bind fun x_found => some x_found else some x_found).bind fun (b3 : (List Int)) => (m_at x_script (9 : Int)).bind fun t6 => (if (decide (((t6 / (3 : Int)) % (3 : Int)) = (1 : Int))) = true then (m_at x_script (10 : Int)).bind fun t9 => (some (cut b3 none (some (t9 % (9 : Int))))).bind fun x_found => some x_found else some b3).bind fun (b7 : (List Int)) => some b7
def m_due (x_lists_here : (List (List Dy))) (x_picks_here : (List Int)) : Option (T2 (List Dy) Int) :=
  (compG (fun (x_one : (List Dy)) => some (some (0 : Int))) x_lists_here).bind fun t1 => (some t1).bind fun x_at_here => (some ([] : List Dy)).bind fun x_found => (some (0 : Int)).bind fun x_used => (rngG (x_lists_here.length : Int)).bind fun t2 => (compG (fun (x_n : Int) => (L2.atI x_at_here x_n).bind fun t3 => (L2.atI x_lists_here x_n).bind fun t4 => if (decide (t3 < (t4.length : Int))) = true then some (some x_n) else some none) t2).bind fun t5 => (some t5).bind fun x_left => (whileN (fun (b6 : (Int × (List Dy) × (List Int) × (List Int))) => some (decide ((1 : Int) < (b6.2.2.2.length : Int)))) (fun (b6 : (Int × (List Dy) × (List Int) × (List Int))) => (some (0 : Int)).bind fun x_pick => (if (decide (b6.1 < (x_picks_here.length : Int))) = true then (L2.atI x_picks_here b6.1).bind fun t11 => (some t11).bind fun x_pick => (some (b6.1 + (1 : Int))).bind fun x_used => some (x_pick, x_used) else some (x_pick, b6.1)).bind fun (b9 : (Int × Int)) => (modG b9.1 (b6.2.2.2.length : Int)).bind fun t12 => (L2.atI b6.2.2.2 t12).bind fun t13 => (some t13).bind fun x_n => (L2.atI x_lists_here x_n).bind fun t14 => (L2.atI b6.2.2.1 x_n).bind fun t15 => (L2.atI t14 t15).bind fun t16 => (app b6.2.1 t16).bind fun t17 => (L2.atI b6.2.2.1 x_n).bind fun t18 => (setG b6.2.2.1 x_n (t18 + (1 : Int))).bind fun t19 => (compG (fun (x_n : Int) => (L2.atI t19 x_n).bind fun t20 => (L2.atI x_lists_here x_n).bind fun t21 => if (decide (t20 < (t21.length : Int))) = true then some (some x_n) else some none) b6.2.2.2).bind fun t22 => (some t22).bind fun x_left => some (b9.2, t17, t19, x_left)) 100000 (x_used, x_found, x_at_here, x_left)).bind fun (b23 : (Int × (List Dy) × (List Int) × (List Int))) => (loopN (fun (b24 : (List Dy)) (x_n : Int) => (L2.atI x_lists_here x_n).bind fun t28 => (L2.atI b23.2.2.1 x_n).bind fun t29 => (catG b24 (cut t28 (some t29) none)).bind fun t30 => some t30) b23.2.1 b23.2.2.2).bind fun (b31 : (List Dy)) => some (T2.mk b31 b23.1)
def m_woven (x_lists : (List (List Dy))) (x_picks : (List Int)) : Option (T2 (List Dy) Int) :=
  (compG (fun (x_one : (List Dy)) => if (!x_one.isEmpty) = true then some (some x_one) else some none) x_lists).bind fun t1 => (some t1).bind fun x_left => (some ([] : List Dy)).bind fun x_found => (some (0 : Int)).bind fun x_used => (whileN (fun (b2 : (Int × (List Dy) × (List (List Dy)))) => some (decide ((1 : Int) < (b2.2.2.length : Int)))) (fun (b2 : (Int × (List Dy) × (List (List Dy)))) => (some (0 : Int)).bind fun x_at => (if (decide (b2.1 < (x_picks.length : Int))) = true then (L2.atI x_picks b2.1).bind fun t7 => (modG t7 (b2.2.2.length : Int)).bind fun t8 => (some t8).bind fun x_at => (some (b2.1 + (1 : Int))).bind fun x_used => some (x_at, x_used) else some (x_at, b2.1)).bind fun (b5 : (Int × Int)) => (popG2 b2.2.2 b5.1 (0 : Int)).bind fun t10 => (app b2.2.1 t10.1).bind fun t11 => (L2.atI t10.2 b5.1).bind fun t12 => if t12.isEmpty = true then (popG t10.2 b5.1).bind fun t13 => some (b5.2, t11, t13.2) else some (b5.2, t11, t10.2)) 100000 (x_used, x_found, x_left)).bind fun (b14 : (Int × (List Dy) × (List (List Dy)))) => (loopN (fun (b15 : (List Dy)) (x_rest : (List Dy)) => (catG b15 x_rest).bind fun t19 => some t19) b14.2.1 b14.2.2).bind fun (b20 : (List Dy)) => some (T2.mk b20 b14.1)
def m_law (x_script : (List Int)) : Option Bool :=
  (m_lists x_script).bind fun t1 => (some t1).bind fun x_lists_here => (m_picks x_script).bind fun t2 => (some t2).bind fun x_picks_here => (m_due x_lists_here x_picks_here).bind fun t3 => (showG (PdD.toD t3)).bind fun t4 => (some t4).bind fun x_due_here => (compG (fun (x_one : (List Dy)) => some (some x_one)) x_lists_here).bind fun t5 => (some t5).bind fun x_handed => (some x_picks_here).bind fun x_given => (m_woven x_handed x_given).bind fun t6 => (if (!true) = true then some true else (showG (PdD.toD (T2.mk t6.a t6.b))).bind fun t7 => some (!decide (t7 = x_due_here))).bind fun t8 => if t8 = true then some false else (showG (PdD.toD x_handed)).bind fun t9 => (showG (PdD.toD x_lists_here)).bind fun t10 => (if (!decide (t9 = t10)) = true then some true else (eqG x_given x_picks_here).bind fun t11 => some (!t11)).bind fun t12 => if t12 = true then some false else (app t6.a (Dy.mk (Pd.toD (7 : Int)))).bind fun t13 => (m_woven x_handed x_given).bind fun t14 => (showG (PdD.toD t14)).bind fun t15 => (if (decide (t15 = x_due_here)) = true then (m_woven ([] : List (List Dy)) x_given).bind fun t16 => (showG (PdD.toD t16)).bind fun t17 => some (decide (t17 = ("([], 0)" : Str))) else some false).bind fun t18 => some t18

/-! ### the mathematics -/
theorem emod_in (c : Int) {n : Int} (h : 0 < n) : 0 ≤ c % n ∧ c % n < n := ⟨Int.emod_nonneg _ (by omega), Int.emod_lt_of_pos _ h⟩
theorem at_ok (ns : List Int) {k : Int} (h0 : 0 ≤ k) : Ok (m_at ns k) fun v => 0 ≤ v ∧ v < 2147483629 := by
  unfold m_at
  refine .bindE rfl (.bind (P := fun _ => True) (Ok.dite (fun h => ?_) fun _ => Ok.dite (fun h => ?_) fun _ => .ret trivial) fun b _ => .bindE rfl ?_)
  · obtain ⟨v, e, _⟩ := atI_mem h0 h
    exact .bindE e (.bindE rfl (.ret trivial))
  · rw [modG_p h]
    exact .bindE rfl (.bind (atI_mem (emod_in _ h).1 (emod_in _ h).2) fun v _ => .bindE rfl (.ret trivial))
  · have h2 := emod_in (b * 48271) (show (0 : Int) < 2147483647 by decide)
    generalize b * 48271 % 2147483647 = x at *
    rw [mulG_l (by omega)]
    exact .bindE rfl (.ret (emod_in _ (by decide)))
/-- data that repr can show -/
def OkN (n w : Nat) (d : PyData) : Prop := d.leavesShort 13 = true ∧ d.showable = true ∧ d.hasDict = false ∧ d.depth ≤ n ∧ d.weight ≤ w
def OkT (x : Dy) : Prop := OkN 1 50 x.d
theorem okN_le {n w n' w' : Nat} {d : PyData} (h : OkN n w d) (h1 : n ≤ n') (h2 : w ≤ w') : OkN n' w' d := ⟨h.1, h.2.1, h.2.2.1, Nat.le_trans h.2.2.2.1 h1, Nat.le_trans h.2.2.2.2 h2⟩
theorem int_okN {i : Int} (h0 : 0 ≤ i) (h1 : i < 1000000) : OkN 0 20 (.int i) := by
  have hz : i.natAbs < 2 ^ 20 := by omega
  have hl : i.natAbs.log2 < 20 := by
    by_cases e : i.natAbs = 0
    · rw [e]; decide
    · exact (Nat.log2_lt e).mpr hz
  refine ⟨?_, ?_, ?_, ?_, ?_⟩
  · rw [PyData.leavesShort]
    exact decide_eq_true (PyData.shown_int_le (by omega))
  · rw [PyData.showable]
    exact decide_eq_true (by omega)
  · rw [PyData.hasDict]
  · rw [PyData.depth]; exact Nat.le_refl _
  · rw [PyData.weight]
    split <;> omega
theorem all_okN {n w : Nat} : ∀ {ds : List PyData}, (∀ d ∈ ds, OkN n w d) → PyData.leavesShortAll 13 ds = true ∧ PyData.showableAll ds = true ∧ PyData.hasDictAll ds = false ∧ PyData.depthAll ds ≤ n ∧ PyData.weightAll ds ≤ (w + 1) * ds.length
  | [], _ => ⟨by rw [PyData.leavesShortAll], by rw [PyData.showableAll], by rw [PyData.hasDictAll], by rw [PyData.depthAll]; exact Nat.zero_le _, by rw [PyData.weightAll]; exact Nat.zero_le _⟩
  | d :: ds, h => by
    obtain ⟨a1, a2, a3, a4, a5⟩ := h d List.mem_cons_self
    obtain ⟨b1, b2, b3, b4, b5⟩ := all_okN (ds := ds) fun x hx => h x (List.mem_cons_of_mem _ hx)
    refine ⟨by rw [PyData.leavesShortAll, a1, b1]; rfl, by rw [PyData.showableAll, a2, b2]; rfl, by rw [PyData.hasDictAll, a3, b3]; rfl, ?_, ?_⟩
    · rw [PyData.depthAll]; exact Nat.max_le.mpr ⟨a4, b4⟩
    · rw [PyData.weightAll, List.length_cons, Nat.mul_add]; omega
theorem list_okN {n w : Nat} {ds : List PyData} (h : ∀ d ∈ ds, OkN n w d) : OkN (n + 1) ((w + 1) * ds.length) (.list ds) := by
  obtain ⟨b1, b2, b3, b4, b5⟩ := all_okN h
  refine ⟨by rw [PyData.leavesShort]; exact b1, by rw [PyData.showable]; exact b2, by rw [PyData.hasDict]; exact b3, by rw [PyData.depth]; omega, by rw [PyData.weight]; exact b5⟩
theorem tup_okN {n w : Nat} {ds : List PyData} (h : ∀ d ∈ ds, OkN n w d) : OkN (n + 1) ((w + 1) * ds.length) (.tuple ds) := by
  obtain ⟨b1, b2, b3, b4, b5⟩ := all_okN h
  refine ⟨by rw [PyData.leavesShort]; exact b1, by rw [PyData.showable]; exact b2, by rw [PyData.hasDict]; exact b3, by rw [PyData.depth]; omega, by rw [PyData.weight]; exact b5⟩
theorem show_okN {n w : Nat} {d : PyData} (h : OkN n w d) (h1 : n ≤ 60) (h2 : w ≤ 1000000) : showG d = some d.shown :=
  if_pos ⟨h.2.1, h.2.2.1, Nat.le_trans h.2.2.2.1 h1, PyData.shown_fits (B := 13) (by decide) (by decide) h.1 (Nat.le_trans h.2.2.2.2 (Nat.le_trans h2 (by decide)))⟩
theorem str_okN {k : Int} (h0 : 0 ≤ k) (h1 : k < 7) : Ok (sOfI k) fun r => OkN 1 50 (.str r) := by
  have e : k = 0 ∨ k = 1 ∨ k = 2 ∨ k = 3 ∨ k = 4 ∨ k = 5 ∨ k = 6 := by omega
  obtain ⟨r, hr, hc, hl⟩ := sOfI_cl h0 (Int.lt_trans h1 (by decide))
  refine ⟨r, hr, ?_, by rw [PyData.showable], by rw [PyData.hasDict], by rw [PyData.depth]; decide, ?_⟩
  · rw [PyData.leavesShort]
    show (cl r).all _ = true
    rw [hc]
    rcases e with h | h | h | h | h | h | h <;> subst h <;> decide +kernel
  · rw [PyData.weight]
    have : r.cps.size = (cl r).length := rfl
    omega
theorem thing_ok {c n : Int} (hn : 0 ≤ n) (hn1 : n ≤ 60) : Ok (m_thing c n) OkT := by
  unfold m_thing
  have m7 := emod_in (c / 5) (show (0 : Int) < 7 by decide)
  have m3 := emod_in (c / 5) (show (0 : Int) < 3 by decide)
  have m2 := emod_in (c / 5) (show (0 : Int) < 2 by decide)
  have m5 := emod_in c (show (0 : Int) < 5 by decide)
  refine .bind (str_okN m7.1 m7.2) fun r hr => .bindE rfl (.bind (atI_mem m5.1 (by exact m5.2)) fun v hv => .ret ?_)
  have hv := hv.1
  simp only [List.mem_cons, List.not_mem_nil, or_false] at hv
  rcases hv with h | h | h | h | h <;> subst h
  · exact okN_le (int_okN m3.1 (by omega)) (by decide) (by decide)
  · exact hr
  · refine okN_le (n := 1) (w := (20 + 1) * 2) (tup_okN (n := 0) (w := 20) (ds := [.int n, .int (c / 5 % 2)]) fun d hd => ?_) (by decide) (by decide)
    simp only [List.mem_cons, List.not_mem_nil, or_false] at hd
    rcases hd with h | h <;> subst h
    · exact int_okN hn (by omega)
    · exact int_okN m2.1 (by omega)
  · exact ⟨by show PyData.leavesShort 13 .none = true; rw [PyData.leavesShort], by show PyData.showable .none = true; rw [PyData.showable], by show PyData.hasDict .none = false; rw [PyData.hasDict], by show PyData.depth .none ≤ 1; rw [PyData.depth]; decide, by show PyData.weight .none ≤ 50; rw [PyData.weight]; decide⟩
  · exact ⟨by show PyData.leavesShort 13 (.bool _) = true; rw [PyData.leavesShort], by show PyData.showable (.bool _) = true; rw [PyData.showable], by show PyData.hasDict (.bool _) = false; rw [PyData.hasDict], by show PyData.depth (.bool _) ≤ 1; rw [PyData.depth]; decide, by show PyData.weight (.bool _) ≤ 50; rw [PyData.weight]; decide⟩
/-- the lists that are drawn -/
structure Ls80 (ls : List (List Dy)) : Prop where
  n : ls.length ≤ 7
  l : ∀ l ∈ ls, l.length ≤ 60 ∧ ∀ x ∈ l, OkT x
theorem lists_ok80 (ns : List Int) : Ok (m_lists ns) Ls80 := by
  unfold m_lists
  refine .bindE rfl (.bind (at_ok ns (Int.le_refl _)) fun v0 hv0 => ?_)
  have m8 := emod_in v0 (show (0 : Int) < 8 by decide)
  obtain ⟨nn, hnn⟩ := Int.eq_ofNat_of_zero_le m8.1
  rw [hnn, rngG_n (by omega)]
  refine .bindE rfl (.bind (Ok.range (J := fun k (b : List (List Dy)) => b.length = k ∧ ∀ l ∈ b, l.length ≤ 60 ∧ ∀ x ∈ l, OkT x) ⟨rfl, fun _ h => (nomatch h)⟩ (fun k b hk ⟨hl, hb⟩ => ?_) fun b ⟨hl, hb⟩ => (⟨by omega, hb⟩ : Ls80 b)) fun b hb => .ret hb)
  refine .bind (at_ok ns (by omega)) fun c hc => .bindE rfl (.bindE rfl (.bind (at_ok ns (Int.le_refl _)) fun v hv => ?_))
  refine .bind (P := fun _ => True) (Ok.dite (fun _ => .bind (at_ok ns (Int.le_refl _)) fun _ _ => .ret trivial) fun _ => .ret trivial) fun t _ => ?_
  refine .bind (P := fun m : Int => 0 ≤ m ∧ m ≤ 60) ?_ fun m hm => ?_
  · have m5 := emod_in c (show (0 : Int) < 5 by decide)
    have m61 := emod_in c (show (0 : Int) < 61 by decide)
    refine Ok.ite (fun _ => .bindE rfl (.ret (by omega))) fun _ => .ret (by omega)
  obtain ⟨mm, hmm⟩ := Int.eq_ofNat_of_zero_le hm.1
  rw [hmm, rngG_n (by omega)]
  refine .bindE rfl (.bind (Ok.compR (fun _ y => OkT y) (P := fun l => l.length ≤ 60 ∧ ∀ x ∈ l, OkT x) (by simp [intsF]; omega) (fun j hj => ?_) fun ys hys => ?_) fun l hl2 => ?_)
  · obtain ⟨h0, h1⟩ := intsF_mem hj
    rw [mulG_r (by omega)]
    refine .bindE rfl (.bind (thing_ok (by omega) (by omega)) fun y hy => .ret ⟨y, rfl, hy⟩)
  · refine ⟨by rw [← hys.length]; simp [intsF]; omega, fun x hx => ?_⟩
    obtain ⟨_, _, h⟩ := Paired.mem hys hx
    exact h
  · refine .bindE (app_p (by omega)) (.ret ⟨by rw [List.length_append, hl]; rfl, fun l' hl' => ?_⟩)
    rcases List.mem_append.mp hl' with h | h
    · exact hb _ h
    · rw [List.mem_singleton.mp h]; exact hl2
/-- two loops that go alike -/
theorem whileN_two {β γ : Type} {c1 : β → Option Bool} {st1 : β → Option β} {c2 : γ → Option Bool} {st2 : γ → Option γ} (R : β → γ → Prop) (Dn : β → γ → Prop) (m : γ → Nat)
    (h : ∀ b g, R b g → (c1 b = some false ∧ c2 g = some false ∧ Dn b g) ∨ (c1 b = some true ∧ c2 g = some true ∧ ∃ b' g', st1 b = some b' ∧ st2 g = some g' ∧ R b' g' ∧ m g' < m g)) :
    ∀ (n : Nat) (b : β) (g : γ), R b g → m g < n → ∃ b' g', whileN c1 st1 n b = some b' ∧ whileN c2 st2 n g = some g' ∧ Dn b' g'
  | 0, _, _, _, hm => absurd hm (Nat.not_lt_zero _)
  | n + 1, b, g, r, hm => by
    rcases h b g r with ⟨h1, h2, h3⟩ | ⟨h1, h2, b', g', h3, h4, h5, h6⟩
    · exact ⟨b, g, by rw [whileN, h1], by rw [whileN, h2], h3⟩
    · obtain ⟨b2, g2, e1, e2, d⟩ := whileN_two R Dn m h n b' g' h5 (by omega)
      exact ⟨b2, g2, by rw [whileN, h1]; simp only [h3]; exact e1, by rw [whileN, h2]; simp only [h4]; exact e2, d⟩
/-- what is left of the i-th list -/
def rst (ls : List (List Dy)) (as : List Nat) (i : Nat) : List Dy := (ls[i]?.getD []).drop (as[i]?.getD 0)
def tot (t : List (List Dy)) : Nat := (t.map List.length).sum
theorem tot_set : ∀ {t : List (List Dy)} {k : Nat} {x : Dy} {r : List Dy}, t[k]? = some (x :: r) → tot (t.set k r) + 1 = tot t
  | [], _, _, _, h => nomatch h
  | y :: t, 0, x, r, h => by
    have h : some y = some _ := h
    cases h
    show r.length + tot t + 1 = (r.length + 1) + tot t
    omega
  | y :: t, k + 1, x, r, h => by
    have := tot_set (t := t) (k := k) h
    show y.length + tot (t.set k r) + 1 = y.length + tot t
    omega
theorem tot_erase : ∀ {t : List (List Dy)} {k : Nat}, t[k]? = some [] → tot (t.eraseIdx k) = tot t
  | [], _, h => nomatch h
  | y :: t, 0, h => by
    have h : some y = some _ := h
    cases h
    show tot t = 0 + tot t
    omega
  | y :: t, k + 1, h => by
    show y.length + tot (t.eraseIdx k) = y.length + tot t
    rw [tot_erase (t := t) h]
theorem popG_0 {x : Dy} {r : List Dy} : popG (x :: r) 0 = some (x, r) := by
  have : seqIndex? 0 (x :: r).length = some 0 := seqIndex_nat (Int.le_refl _) (by simp)
  unfold popG
  rw [if_pos ⟨by decide, by decide⟩, this]
  rfl
theorem popG_k {t : List (List Dy)} {k : Nat} {y : List Dy} (h : t[k]? = some y) (hs : t.length < 1000000) : popG t (k : Int) = some (y, t.eraseIdx k) := popG_p (Int.natCast_nonneg _) hs h
theorem ixN_n {n k : Nat} (h : k < n) : ixN n (k : Int) = some k := by
  unfold ixN
  rw [if_pos (Int.natCast_nonneg _), if_pos (by omega)]
  rfl
theorem popG2_k {t : List (List Dy)} {k : Nat} {x : Dy} {r : List Dy} (h : t[k]? = some (x :: r)) : popG2 t (k : Int) 0 = some (x, t.set k r) := by
  have hk := (List.getElem?_eq_some_iff.mp h).1
  unfold popG2
  rw [ixN_n hk]
  simp only [h, popG_0, Option.map_some]
theorem setG_k {xs : List Int} {k : Nat} {y : Int} (h : k < xs.length) : setG xs (k : Int) y = some (xs.set k y) := by
  unfold setG
  rw [ixN_n h]; rfl
theorem erase_ix : ∀ {is : List Nat} {k i : Nat}, is.Nodup → is[k]? = some i → is.eraseIdx k = is.erase i
  | [], _, _, _, h => nomatch h
  | x :: is, 0, i, _, h => by
    have h : some x = some i := h
    cases h
    simp
  | x :: is, k + 1, i, nd, h => by
    obtain ⟨n1, n2⟩ := List.nodup_cons.mp nd
    have h : is[k]? = some i := h
    have hne : x ≠ i := fun e => n1 (e ▸ List.mem_of_getElem? h)
    rw [List.erase_cons_tail (by simpa using hne)]
    show x :: is.eraseIdx k = _
    rw [erase_ix n2 h]
theorem ix_inj : ∀ {is : List Nat} {j k i : Nat}, is.Nodup → is[j]? = some i → is[k]? = some i → j = k
  | [], _, _, _, _, h, _ => nomatch h
  | x :: is, 0, 0, i, _, _, _ => rfl
  | x :: is, 0, k + 1, i, nd, h, h2 => by
    have h : some x = some i := h
    cases h
    exact absurd (List.mem_of_getElem? (show is[k]? = some x from h2)) (List.nodup_cons.mp nd).1
  | x :: is, j + 1, 0, i, nd, h, h2 => by
    have h2 : some x = some i := h2
    cases h2
    exact absurd (List.mem_of_getElem? (show is[j]? = some x from h)) (List.nodup_cons.mp nd).1
  | x :: is, j + 1, k + 1, i, nd, h, h2 => by
    rw [ix_inj (List.nodup_cons.mp nd).2 (show is[j]? = some i from h) (show is[k]? = some i from h2)]
/-- how far both are -/
structure Rw80 (ls : List (List Dy)) (as is : List Nat) (left : List (List Dy)) : Prop where
  al : as.length = ls.length
  nd : is.Nodup
  lt : ∀ i ∈ is, ∃ l a, ls[i]? = some l ∧ as[i]? = some a ∧ a < l.length
  le : left = is.map (rst ls as)
theorem Rw80.rst {ls : List (List Dy)} {as is : List Nat} {left : List (List Dy)} (h : Rw80 ls as is left) {k : Nat} {i : Nat} (hk : is[k]? = some i) : ∃ (l : List Dy) (a : Nat) (x : Dy), ls[i]? = some l ∧ as[i]? = some a ∧ a < l.length ∧ l[a]? = some x ∧ left[k]? = some (x :: l.drop (a + 1)) := by
  obtain ⟨l, a, h1, h2, h3⟩ := h.lt i (List.mem_of_getElem? hk)
  refine ⟨l, a, l[a], h1, h2, h3, List.getElem?_eq_getElem h3, ?_⟩
  rw [h.le, List.getElem?_map, hk]
  show some (Law.rst ls as i) = _
  unfold Law.rst
  rw [h1, h2]
  show some (l.drop a) = _
  rw [List.drop_eq_getElem_cons h3]
/-- one taken from the k-th -/
theorem Rw80.step {ls : List (List Dy)} {as is : List Nat} {left : List (List Dy)} (h : Rw80 ls as is left) {k i a : Nat} {l : List Dy} (hk : is[k]? = some i) (hl : ls[i]? = some l) (ha : as[i]? = some a) (hlt : a < l.length) :
    Rw80 ls (as.set i (a + 1)) (if a + 1 < l.length then is else is.eraseIdx k) (if a + 1 < l.length then left.set k (l.drop (a + 1)) else (left.set k (l.drop (a + 1))).eraseIdx k) := by
  have hi : i < as.length := (List.getElem?_eq_some_iff.mp ha).1
  have hkl : k < is.length := (List.getElem?_eq_some_iff.mp hk).1
  have oth : ∀ j, j ≠ i → (as.set i (a + 1))[j]? = as[j]? := fun j hj => List.getElem?_set_ne (Ne.symm hj)
  have self : (as.set i (a + 1))[i]? = some (a + 1) := by rw [List.getElem?_set_self hi]
  have mem : ∀ {j}, j ∈ is.eraseIdx k → j ∈ is ∧ j ≠ i := fun {j} hj => by
    have e : is.eraseIdx k = is.erase i := by
      exact erase_ix h.nd hk
    rw [e] at hj
    exact ⟨List.mem_of_mem_erase hj, (h.nd.mem_erase_iff.mp hj).1⟩
  have lst : left.set k (l.drop (a + 1)) = is.map (Law.rst ls (as.set i (a + 1))) := by
    apply List.ext_getElem?
    intro j
    by_cases hj : j = k
    · subst hj
      rw [List.getElem?_set_self (by rw [h.le, List.length_map]; exact hkl), List.getElem?_map, hk]
      show _ = some (Law.rst ls _ i)
      unfold Law.rst
      rw [hl, self]; rfl
    · rw [List.getElem?_set_ne (Ne.symm hj), h.le, List.getElem?_map, List.getElem?_map]
      cases hx : is[j]? with
      | none => rfl
      | some i2 =>
        have hne : i2 ≠ i := fun e => by
          subst e
          exact hj (ix_inj h.nd hx hk)
        show some (Law.rst ls as i2) = some (Law.rst ls _ i2)
        unfold Law.rst
        rw [oth i2 hne]
  by_cases c : a + 1 < l.length
  · rw [if_pos c, if_pos c]
    refine ⟨by rw [List.length_set]; exact h.al, h.nd, fun j hj => ?_, lst⟩
    by_cases e : j = i
    · subst e; exact ⟨l, a + 1, hl, self, c⟩
    · obtain ⟨l2, a2, x1, x2, x3⟩ := h.lt j hj
      exact ⟨l2, a2, x1, (oth j e).trans x2, x3⟩
  · rw [if_neg c, if_neg c]
    refine ⟨by rw [List.length_set]; exact h.al, h.nd.sublist (List.eraseIdx_sublist ..), fun j hj => ?_, ?_⟩
    · obtain ⟨hj, e⟩ := mem hj
      obtain ⟨l2, a2, x1, x2, x3⟩ := h.lt j hj
      exact ⟨l2, a2, x1, (oth j e).trans x2, x3⟩
    · rw [lst, erase_map]
/-- those with something left -/
theorem Rw80.filt {ls : List (List Dy)} {as is : List Nat} {left : List (List Dy)} (h : Rw80 ls as is left) {k i a : Nat} {l : List Dy} (hk : is[k]? = some i) (hl : ls[i]? = some l) (p : Nat → Bool) (hp : ∀ j, j ≠ i → j ∈ is → p j = true) (hi : p i = decide (a + 1 < l.length)) :
    is.filter p = if a + 1 < l.length then is else is.eraseIdx k := by
  have hkl : k < is.length := (List.getElem?_eq_some_iff.mp hk).1
  by_cases c : a + 1 < l.length
  · rw [if_pos c]
    refine List.filter_eq_self.mpr fun j hj => ?_
    by_cases e : j = i
    · rw [e, hi, decide_eq_true c]
    · exact hp j e hj
  · rw [if_neg c]
    have e : is.eraseIdx k = is.erase i := by
      exact erase_ix h.nd hk
    rw [e, h.nd.erase_eq_filter]
    refine List.filter_congr fun j hj => ?_
    by_cases e : j = i
    · rw [e, hi, decide_eq_false c]; simp
    · rw [hp j e hj]; simp [e]
/-- the steps of both loops, as the mirrors have them -/
def dueC : (Int × (List Dy) × (List Int) × (List Int)) → Option Bool := fun (b6 : (Int × (List Dy) × (List Int) × (List Int))) => some (decide ((1 : Int) < (b6.2.2.2.length : Int)))
def dueS (x_lists_here : List (List Dy)) (x_picks_here : List Int) : (Int × (List Dy) × (List Int) × (List Int)) → Option (Int × (List Dy) × (List Int) × (List Int)) := fun (b6 : (Int × (List Dy) × (List Int) × (List Int))) => (some (0 : Int)).bind fun x_pick => (if (decide (b6.1 < (x_picks_here.length : Int))) = true then (L2.atI x_picks_here b6.1).bind fun t11 => (some t11).bind fun x_pick => (some (b6.1 + (1 : Int))).bind fun x_used => some (x_pick, x_used) else some (x_pick, b6.1)).bind fun (b9 : (Int × Int)) => (modG b9.1 (b6.2.2.2.length : Int)).bind fun t12 => (L2.atI b6.2.2.2 t12).bind fun t13 => (some t13).bind fun x_n => (L2.atI x_lists_here x_n).bind fun t14 => (L2.atI b6.2.2.1 x_n).bind fun t15 => (L2.atI t14 t15).bind fun t16 => (app b6.2.1 t16).bind fun t17 => (L2.atI b6.2.2.1 x_n).bind fun t18 => (setG b6.2.2.1 x_n (t18 + (1 : Int))).bind fun t19 => (compG (fun (x_n : Int) => (L2.atI t19 x_n).bind fun t20 => (L2.atI x_lists_here x_n).bind fun t21 => if (decide (t20 < (t21.length : Int))) = true then some (some x_n) else some none) b6.2.2.2).bind fun t22 => (some t22).bind fun x_left => some (b9.2, t17, t19, x_left)
def wovC : (Int × (List Dy) × (List (List Dy))) → Option Bool := fun (b2 : (Int × (List Dy) × (List (List Dy)))) => some (decide ((1 : Int) < (b2.2.2.length : Int)))
def wovS (x_picks : List Int) : (Int × (List Dy) × (List (List Dy))) → Option (Int × (List Dy) × (List (List Dy))) := fun (b2 : (Int × (List Dy) × (List (List Dy)))) => (some (0 : Int)).bind fun x_at => (if (decide (b2.1 < (x_picks.length : Int))) = true then (L2.atI x_picks b2.1).bind fun t7 => (modG t7 (b2.2.2.length : Int)).bind fun t8 => (some t8).bind fun x_at => (some (b2.1 + (1 : Int))).bind fun x_used => some (x_at, x_used) else some (x_at, b2.1)).bind fun (b5 : (Int × Int)) => (popG2 b2.2.2 b5.1 (0 : Int)).bind fun t10 => (app b2.2.1 t10.1).bind fun t11 => (L2.atI t10.2 b5.1).bind fun t12 => if t12.isEmpty = true then (popG t10.2 b5.1).bind fun t13 => some (b5.2, t11, t13.2) else some (b5.2, t11, t10.2)
def NI (l : List Nat) : List Int := l.map fun (j : Nat) => (j : Int)
theorem NI_len (l : List Nat) : (NI l).length = l.length := List.length_map _
theorem comp_idx {f : Int → Option (Option Int)} {is : List Nat} (p : Nat → Bool) (hl : is.length ≤ 16777216) (h : ∀ j ∈ is, f (j : Int) = some (if p j then some (j : Int) else none)) : compG f (NI is) = some (NI (is.filter p)) := by
  refine (compG_filter (p := fun x => p x.toNat) (g := id) (by rw [NI_len, szl]; exact hl) fun x hx => ?_).trans ?_
  · obtain ⟨j, hj, rfl⟩ := List.mem_map.mp hx
    exact h j hj
  · unfold NI; rw [List.map_id, List.filter_map]; rfl
theorem atI_NI {l : List Nat} {k j : Nat} (h : l[k]? = some j) : L2.atI (NI l) (k : Int) = some (j : Int) := atI_at (by unfold NI; rw [List.getElem?_map, h]; rfl)
/-- both loops are as far -/
structure R80 (ls : List (List Dy)) (b : Int × (List Dy) × (List Int) × (List Int)) (g : Int × (List Dy) × (List (List Dy))) : Prop where
  u : b.1 = g.1
  f : b.2.1 = g.2.1
  u0 : 0 ≤ g.1
  u1 : g.1 + (tot g.2.2 : Int) ≤ 420
  f1 : g.2.1.length + tot g.2.2 ≤ 420
  ok : ∀ x ∈ g.2.1, OkT x
  w : ∃ as is, b.2.2.1 = NI as ∧ b.2.2.2 = NI is ∧ Rw80 ls as is g.2.2 ∧ is.length ≤ 7
theorem step80 {ls : List (List Dy)} (H : Ls80 ls) (ps : List Int) {b : Int × (List Dy) × (List Int) × (List Int)} {g : Int × (List Dy) × (List (List Dy))} (r : R80 ls b g) (hlen : 1 < g.2.2.length) :
    ∃ b' g', dueS ls ps b = some b' ∧ wovS ps g = some g' ∧ R80 ls b' g' ∧ tot g'.2.2 < tot g.2.2 := by
  obtain ⟨u, found, at_, idx⟩ := b
  obtain ⟨u2, found2, left⟩ := g
  obtain ⟨hu, hf, u0, u1, f1, ok, as, is, ha, hi, R, hs⟩ := r
  dsimp only at hu hf u0 u1 f1 ok ha hi R hlen
  subst hu; subst hf; subst ha; subst hi
  have nl : left.length = is.length := by rw [R.le, List.length_map]
  have pk : ∃ (raw : Int) (k : Nat) (u' : Int), (if decide (u < (ps.length : Int)) = true then (L2.atI ps u).bind fun t11 => (some t11).bind fun x_pick => (some (u + (1 : Int))).bind fun x_used => some (x_pick, x_used) else some ((0 : Int), u)) = some (raw, u') ∧
      (if decide (u < (ps.length : Int)) = true then (L2.atI ps u).bind fun t7 => (modG t7 (left.length : Int)).bind fun t8 => (some t8).bind fun x_at => (some (u + (1 : Int))).bind fun x_used => some (x_at, x_used) else some ((0 : Int), u)) = some ((k : Int), u') ∧ raw % (left.length : Int) = k ∧ k < left.length ∧ 0 ≤ u' ∧ u' ≤ u + 1 := by
    by_cases c : u < (ps.length : Int)
    · obtain ⟨v, e, _⟩ := atI_mem u0 c
      have hm := emod_in v (show (0 : Int) < (left.length : Int) by omega)
      obtain ⟨k, hk⟩ := Int.eq_ofNat_of_zero_le hm.1
      rw [if_pos (decide_eq_true c), if_pos (decide_eq_true c), e]
      refine ⟨v, k, u + 1, rfl, ?_, hk, by omega, by omega, by omega⟩
      show (modG v (left.length : Int)).bind _ = _
      rw [modG_p (by omega), hk]; rfl
    · rw [if_neg (by simpa using c), if_neg (by simpa using c)]
      exact ⟨0, 0, u, rfl, rfl, by simp, by omega, u0, by omega⟩
  obtain ⟨raw, k, u', e1, e2, hk, hkl, v0, v1⟩ := pk
  obtain ⟨i, hik⟩ : ∃ i, is[k]? = some i := ⟨is[k]'(by omega), List.getElem?_eq_getElem (by omega)⟩
  obtain ⟨l, a, x, hl, hai, hlt, hx, hleft⟩ := R.rst hik
  have S := R.step hik hl hai hlt
  have hi2 : i < as.length := (List.getElem?_eq_some_iff.mp hai).1
  have okx : OkT x := (H.l l (List.mem_of_getElem? hl)).2 x (List.mem_of_getElem? hx)
  have tset := tot_set hleft
  have tpos : 0 < tot left := by omega
  refine ⟨(u', found ++ [x], NI (as.set i (a + 1)), NI (if a + 1 < l.length then is else is.eraseIdx k)), (u', found ++ [x], if a + 1 < l.length then left.set k (l.drop (a + 1)) else (left.set k (l.drop (a + 1))).eraseIdx k), ?_, ?_, ⟨rfl, rfl, v0, ?_, ?_, ?_, _, _, rfl, rfl, S, ?_⟩, ?_⟩
  · unfold dueS
    refine Ok.eq (Ok.bindE rfl (.bindE e1 (.bindE (x := (k : Int)) ?_ (.bindE (atI_NI hik) (.bindE rfl (.bindE (atI_at hl) (.bindE (atI_NI hai) (.bindE (atI_at hx) (.bindE (app_p (by show found.length < _; omega)) (.bindE (atI_NI hai) (.bindE (x := NI (as.set i (a + 1))) ?_ ?_)))))))))))
    · show modG raw ((NI is).length : Int) = _
      rw [modG_p (by rw [NI_len]; omega), NI_len, ← nl, hk]
    · show setG (NI as) (i : Int) ((a : Int) + 1) = _
      rw [setG_k (by rw [NI_len]; exact hi2)]
      refine congrArg some ?_
      unfold NI
      rw [List.map_set]; rfl
    refine Ok.bindE (x := NI (if a + 1 < l.length then is else is.eraseIdx k)) ?_ (Ok.bindE rfl (Ok.ret rfl))
    have hp := R.filt hik hl (fun j => decide (((as.set i (a + 1))[j]?.getD 0) < (ls[j]?.getD []).length)) (fun j hj hm => by
      obtain ⟨l2, a2, x1, x2, x3⟩ := R.lt j hm
      rw [List.getElem?_set_ne (Ne.symm hj), x1, x2]
      exact decide_eq_true x3) (by
      rw [List.getElem?_set_self hi2, hl]; rfl)
    rw [← hp]
    refine comp_idx _ (by omega) fun j hj => ?_
    obtain ⟨l2, a2, x1, x2, x3⟩ := R.lt j hj
    obtain ⟨a3, x4⟩ : ∃ a3, (as.set i (a + 1))[j]? = some a3 := ⟨(as.set i (a + 1))[j]'(by rw [List.length_set]; exact (List.getElem?_eq_some_iff.mp x2).1), List.getElem?_eq_getElem _⟩
    rw [atI_NI x4, x4]
    show (L2.atI ls (j : Int)).bind _ = _
    rw [atI_at x1, x1]
    show (if decide ((a3 : Int) < (l2.length : Int)) = true then some (some (j : Int)) else some none) = some (if decide (a3 < l2.length) = true then some (j : Int) else none)
    by_cases c : a3 < l2.length
    · rw [if_pos (decide_eq_true (by omega)), if_pos (decide_eq_true c)]
    · rw [if_neg (by simpa using c), if_neg (by simpa using c)]
  · unfold wovS
    have hk2 : (left.set k (l.drop (a + 1)))[k]? = some (l.drop (a + 1)) := List.getElem?_set_self hkl
    refine (Ok.bindE rfl (.bindE e2 (.bindE (popG2_k hleft) (.bindE (app_p (by show found.length < _; omega)) (.bindE (atI_at hk2) ?_))))).eq
    by_cases c : a + 1 < l.length
    · rw [if_pos c]
      refine Ok.ite (fun h => ?_) fun _ => .ret rfl
      rw [List.isEmpty_iff, List.drop_eq_nil_iff] at h
      omega
    · rw [if_neg c]
      refine Ok.ite (fun _ => ?_) fun h => ?_
      · exact .bindE (popG_k hk2 (by rw [List.length_set]; omega)) (.ret rfl)
      · exact absurd (List.isEmpty_iff.mpr (List.drop_eq_nil_iff.mpr (by omega))) h
  · have te : tot (if a + 1 < l.length then left.set k (l.drop (a + 1)) else (left.set k (l.drop (a + 1))).eraseIdx k) = tot (left.set k (l.drop (a + 1))) := by
      split
      · rfl
      · exact tot_erase (by rw [List.getElem?_set_self hkl, List.drop_eq_nil_iff.mpr (by omega)])
    show u' + ((tot (if a + 1 < l.length then left.set k (l.drop (a + 1)) else (left.set k (l.drop (a + 1))).eraseIdx k) : Nat) : Int) ≤ 420
    rw [te]; omega
  · have te : tot (if a + 1 < l.length then left.set k (l.drop (a + 1)) else (left.set k (l.drop (a + 1))).eraseIdx k) = tot (left.set k (l.drop (a + 1))) := by
      split
      · rfl
      · exact tot_erase (by rw [List.getElem?_set_self hkl, List.drop_eq_nil_iff.mpr (by omega)])
    show (found ++ [x]).length + tot (if a + 1 < l.length then left.set k (l.drop (a + 1)) else (left.set k (l.drop (a + 1))).eraseIdx k) ≤ 420
    rw [te, List.length_append]
    show found.length + 1 + _ ≤ 420
    omega
  · intro y hy
    rcases List.mem_append.mp hy with h | h
    · exact ok y h
    · rw [List.mem_singleton.mp h]; exact okx
  · split
    · exact hs
    · rw [List.length_eraseIdx]; split <;> omega
  · have te : tot (if a + 1 < l.length then left.set k (l.drop (a + 1)) else (left.set k (l.drop (a + 1))).eraseIdx k) = tot (left.set k (l.drop (a + 1))) := by
      split
      · rfl
      · exact tot_erase (by rw [List.getElem?_set_self hkl, List.drop_eq_nil_iff.mpr (by omega)])
    show tot (if a + 1 < l.length then left.set k (l.drop (a + 1)) else (left.set k (l.drop (a + 1))).eraseIdx k) < tot left
    rw [te]; omega
theorem tot_le : ∀ {t : List (List Dy)}, (∀ l ∈ t, l.length ≤ 60) → tot t ≤ 60 * t.length
  | [], _ => Nat.le_refl _
  | y :: t, h => by
    have h1 := h y List.mem_cons_self
    have h2 := tot_le (t := t) fun l hl => h l (List.mem_cons_of_mem _ hl)
    show y.length + tot t ≤ 60 * (t.length + 1)
    omega
theorem intsF_NI (n : Nat) : intsF 0 n = NI (List.range n) := by
  unfold intsF NI
  exact List.map_congr_left fun i _ => Int.zero_add _
theorem getD_0 {α : Type} (ls : List α) (i : Nat) : ((ls.map fun _ => (0 : Nat))[i]?.getD 0) = 0 := by
  rw [List.getElem?_map]
  cases ls[i]? <;> rfl
theorem rst_0 (ls : List (List Dy)) (i : Nat) : rst ls (ls.map fun _ => 0) i = ls[i]?.getD [] := by
  unfold rst; rw [getD_0]; rfl
def is0 (ls : List (List Dy)) : List Nat := (List.range ls.length).filter fun i => decide (0 < (ls[i]?.getD []).length)
theorem left_0 (ls : List (List Dy)) : (ls.filter fun l => !l.isEmpty) = (is0 ls).map (rst ls (ls.map fun _ => 0)) := by
  have e : ls = (List.range ls.length).map fun i => ls[i]?.getD [] := by
    apply List.ext_getElem?
    intro i
    rw [List.getElem?_map]
    by_cases h : i < ls.length
    · rw [List.getElem?_range h, List.getElem?_eq_getElem h]; simp [h]
    · rw [List.getElem?_eq_none (by omega), List.getElem?_eq_none (by simp; omega)]; rfl
  have e2 : (ls.filter fun l => !l.isEmpty) = ((List.range ls.length).map fun i => ls[i]?.getD []).filter fun l => !l.isEmpty := congrArg (List.filter fun l => !l.isEmpty) e
  rw [e2, List.filter_map]
  unfold is0
  have e3 : (fun (i : Nat) => decide (0 < (ls[i]?.getD []).length)) = (fun l : List Dy => !l.isEmpty) ∘ fun (i : Nat) => ls[i]?.getD [] := by
    funext i
    show decide (0 < (ls[i]?.getD []).length) = !(ls[i]?.getD []).isEmpty
    cases ls[i]?.getD [] <;> rfl
  rw [e3]
  exact List.map_congr_left fun i _ => (rst_0 ls i).symm
theorem start80 {ls : List (List Dy)} (H : Ls80 ls) : R80 ls ((0 : Int), ([] : List Dy), NI (ls.map fun _ => 0), NI (is0 ls)) ((0 : Int), ([] : List Dy), ls.filter fun l => !l.isEmpty) := by
  have hn := H.n
  have ht : tot (ls.filter fun l => !l.isEmpty) ≤ 420 := by
    have h1 := tot_le (t := ls.filter fun l => !l.isEmpty) fun l hl => (H.l l (List.mem_filter.mp hl).1).1
    have h2 := List.length_filter_le (fun l : List Dy => !l.isEmpty) ls
    omega
  refine ⟨rfl, rfl, Int.le_refl _, by show (0 : Int) + ((tot (ls.filter fun l => !l.isEmpty) : Nat) : Int) ≤ 420; omega, by show 0 + tot (ls.filter fun l => !l.isEmpty) ≤ 420; omega, fun _ h => (nomatch h), _, _, rfl, rfl, ⟨List.length_map _, List.nodup_range.filter _, fun i hi => ?_, left_0 ls⟩, ?_⟩
  · obtain ⟨h1, h2⟩ := List.mem_filter.mp hi
    have hl := List.mem_range.mp h1
    have h2 := of_decide_eq_true h2
    rw [List.getElem?_eq_getElem hl] at h2
    exact ⟨ls[i], 0, List.getElem?_eq_getElem hl, by rw [List.getElem?_map, List.getElem?_eq_getElem hl]; rfl, h2⟩
  · have := List.length_filter_le (fun i => decide (0 < (ls[i]?.getD []).length)) (List.range ls.length)
    rw [List.length_range] at this
    show (is0 ls).length ≤ 7
    unfold is0
    omega
theorem loop_maps {α : Type} {st1 : List Dy → Int → Option (List Dy)} {st2 : List Dy → α → Option (List Dy)} {F : Nat → α} : ∀ (is : List Nat) (b : List Dy), (∀ i ∈ is, ∀ b, st1 b (i : Int) = st2 b (F i)) → loopN st1 b (NI is) = loopN st2 b (is.map F)
  | [], _, _ => rfl
  | i :: is, b, h => by
    show loopN st1 b ((i : Int) :: NI is) = loopN st2 b (F i :: is.map F)
    unfold loopN
    rw [h i List.mem_cons_self b]
    cases st2 b (F i) with
    | none => rfl
    | some b' => exact loop_maps is b' fun j hj => h j (List.mem_cons_of_mem _ hj)
theorem loop_cat : ∀ (t : List (List Dy)) (b : List Dy), b.length + tot t ≤ 420 → loopN (fun (b15 : List Dy) (x_rest : List Dy) => (catG b15 x_rest).bind fun t19 => some t19) b t = some (b ++ t.flatten)
  | [], b, _ => by rw [List.flatten_nil, List.append_nil]; rfl
  | r :: t, b, h => by
    have h : b.length + (r.length + tot t) ≤ 420 := h
    rw [loopN_cons (b' := b ++ r) (by show (catG b r).bind _ = _; rw [catG_p (by omega)]; rfl), loop_cat t (b ++ r) (by rw [List.length_append]; omega), List.flatten_cons, List.append_assoc]
theorem tot_flat (t : List (List Dy)) : t.flatten.length = tot t := List.length_flatten
theorem both80 {ls : List (List Dy)} (H : Ls80 ls) (ps : List Int) : ∃ out u, m_due ls ps = some (T2.mk out u) ∧ m_woven ls ps = some (T2.mk out u) ∧ out.length ≤ 420 ∧ (∀ x ∈ out, OkT x) ∧ 0 ≤ u ∧ u ≤ 420 := by
  have hn := H.n
  have S := start80 H
  obtain ⟨b, g, w1, w2, hR⟩ := whileN_two (c1 := dueC) (st1 := dueS ls ps) (c2 := wovC) (st2 := wovS ps) (R80 ls) (R80 ls) (fun g => tot g.2.2) (fun b g r => by
    obtain ⟨as, is, ha, hi, R, hs⟩ := r.w
    have nl : g.2.2.length = is.length := by rw [R.le, List.length_map]
    have c1 : dueC b = some (decide ((1 : Int) < (g.2.2.length : Int))) := by
      unfold dueC
      show some (decide ((1 : Int) < (b.2.2.2.length : Int))) = _
      rw [hi, NI_len, nl]
    have c2 : wovC g = some (decide ((1 : Int) < (g.2.2.length : Int))) := rfl
    by_cases c : 1 < g.2.2.length
    · refine .inr ⟨by rw [c1, decide_eq_true (by omega)], by rw [c2, decide_eq_true (by omega)], step80 H ps r c⟩
    · exact .inl ⟨by rw [c1, decide_eq_false (by omega)], by rw [c2, decide_eq_false (by omega)], r⟩) 100000 _ _ S (by have := S.u1; have := S.u0; show tot _ < 100000; have e : ((0 : Int), ([] : List Dy), ls.filter fun l => !l.isEmpty).1 = 0 := rfl; omega)
  obtain ⟨u, found, at_, idx⟩ := b
  obtain ⟨u2, found2, left⟩ := g
  obtain ⟨hu, hf, u0, u1, f1, ok, as, is, ha, hi, R, hs⟩ := hR
  dsimp only at hu hf u0 u1 f1 ok ha hi R
  subst hu; subst hf; subst ha; subst hi
  have fin2 := loop_cat left found f1
  refine ⟨found ++ left.flatten, u, ?_, ?_, by rw [List.length_append, tot_flat]; exact f1, fun x hx => ?_, u0, by omega⟩
  · unfold m_due
    refine Ok.eq (.bindE (x := NI (ls.map fun _ => 0)) ?_ (.bindE rfl (.bindE rfl (.bindE rfl (.bindE (rngG_n (by omega)) (.bindE (x := NI (is0 ls)) ?_ (.bindE rfl (.bindE (x := (u, found, NI as, NI is)) w1 (.bindE (x := found ++ left.flatten) ?_ (.ret rfl))))))))))
    · rw [compG_map (g := fun _ => (0 : Int)) (by rw [szl]; omega) fun _ _ => rfl]
      refine congrArg some ?_
      unfold NI
      rw [List.map_map]; rfl
    · rw [intsF_NI]
      refine comp_idx _ (by rw [List.length_range]; omega) fun j hj => ?_
      have hj := List.mem_range.mp hj
      have e0 : (ls.map fun _ => (0 : Nat))[j]? = some 0 := by rw [List.getElem?_map, List.getElem?_eq_getElem hj]; rfl
      rw [atI_NI e0]
      show (L2.atI ls (j : Int)).bind _ = _
      rw [atI_at (List.getElem?_eq_getElem hj), List.getElem?_eq_getElem hj]
      show (if decide (((0 : Nat) : Int) < (ls[j].length : Int)) = true then some (some (j : Int)) else some none) = some (if decide (0 < ls[j].length) = true then some (j : Int) else none)
      by_cases c : 0 < ls[j].length
      · rw [if_pos (decide_eq_true (by omega)), if_pos (decide_eq_true c)]
      · rw [if_neg (by simpa using c), if_neg (by simpa using c)]
    · refine (loop_maps is found (st2 := fun (b15 : List Dy) (x_rest : List Dy) => (catG b15 x_rest).bind fun t19 => some t19) (F := rst ls as) fun i hi b => ?_).trans ?_
      · obtain ⟨l, a, h1, h2, h3⟩ := R.lt i hi
        show (L2.atI ls (i : Int)).bind _ = _
        rw [atI_at h1]
        show (L2.atI (NI as) (i : Int)).bind _ = _
        rw [atI_NI h2]
        show (catG b (cut l (some (a : Int)) none)).bind _ = _
        rw [cut_from (Int.natCast_nonneg _)]
        unfold rst
        rw [h1, h2]; rfl
      · rw [← R.le]; exact fin2
  · unfold m_woven
    refine Ok.eq (.bindE (x := ls.filter fun l => !l.isEmpty) ?_ (.bindE rfl (.bindE rfl (.bindE rfl (.bindE (x := (u, found, left)) ?_ (.bindE fin2 (.ret rfl)))))))
    rotate_left
    · unfold wovC wovS at w2
      exact w2
    refine (compG_filter (p := fun l : List Dy => !l.isEmpty) (g := id) (by rw [szl]; omega) fun l _ => ?_).trans (by rw [List.map_id])
    show (if (!l.isEmpty) = true then some (some l) else some none) = some (if (!l.isEmpty) = true then some l else none)
    split <;> rfl
  · rcases List.mem_append.mp hx with h | h
    · exact ok x h
    · obtain ⟨r, hr, hx⟩ := List.mem_flatten.mp h
      rw [R.le] at hr
      obtain ⟨i, hi, rfl⟩ := List.mem_map.mp hr
      obtain ⟨l, a, h1, h2, h3⟩ := R.lt i hi
      unfold rst at hx
      rw [h1] at hx
      exact (H.l l (List.mem_of_getElem? h1)).2 x (List.mem_of_mem_drop hx)
theorem woven_nil (ps : List Int) : m_woven [] ps = some (T2.mk ([] : List Dy) 0) := by
  obtain ⟨out, u, _, h2, hl, _⟩ := both80 (ls := []) ⟨by decide, fun _ h => (nomatch h)⟩ ps
  have e : m_woven [] ps = (whileN (fun (b2 : (Int × (List Dy) × (List (List Dy)))) => some (decide ((1 : Int) < (b2.2.2.length : Int)))) (wovS ps) 100000 ((0 : Int), ([] : List Dy), ([] : List (List Dy)))).bind fun (b14 : (Int × (List Dy) × (List (List Dy)))) => (loopN (fun (b15 : (List Dy)) (x_rest : (List Dy)) => (catG b15 x_rest).bind fun t19 => some t19) b14.2.1 b14.2.2).bind fun (b20 : (List Dy)) => some (T2.mk b20 b14.1) := by
    unfold m_woven wovS
    rfl
  rw [e]
  have w : whileN (fun (b2 : (Int × (List Dy) × (List (List Dy)))) => some (decide ((1 : Int) < (b2.2.2.length : Int)))) (wovS ps) 100000 ((0 : Int), ([] : List Dy), ([] : List (List Dy))) = some ((0 : Int), ([] : List Dy), ([] : List (List Dy))) := by
    rw [show (100000 : Nat) = 99999 + 1 from rfl, whileN]
    rfl
  rw [w]
  rfl
theorem out_okN {out : List Dy} {u : Int} (hl : out.length ≤ 420) (ho : ∀ x ∈ out, OkT x) (h0 : 0 ≤ u) (h1 : u ≤ 420) : ∃ r, showG (PdD.toD (T2.mk out u)) = some r := by
  have h : OkN 2 21420 (.list (out.map PdD.toD)) := by
    refine okN_le (list_okN (n := 1) (w := 50) fun d hd => ?_) (Nat.le_refl _) ?_
    · obtain ⟨x, hx, rfl⟩ := List.mem_map.mp hd
      exact ho x hx
    · rw [List.length_map]; omega
  refine ⟨_, show_okN (n := 3) (w := 42842) (okN_le (tup_okN (n := 2) (w := 21420) (ds := [.list (out.map PdD.toD), .int u]) fun d hd => ?_) (Nat.le_refl _) (by show (21420 + 1) * 2 ≤ 42842; decide)) (by decide) (by decide)⟩
  simp only [List.mem_cons, List.not_mem_nil, or_false] at hd
  rcases hd with e | e <;> subst e
  · exact h
  · exact okN_le (int_okN h0 (by omega)) (by decide) (by decide)
theorem lists_okN {ls : List (List Dy)} (H : Ls80 ls) : ∃ r, showG (PdD.toD ls) = some r := by
  refine ⟨_, show_okN (n := 3) (w := 21427) (d := .list (ls.map PdD.toD)) (okN_le (list_okN (n := 2) (w := 3060) fun d hd => ?_) (Nat.le_refl _) ?_) (by decide) (by decide)⟩
  · obtain ⟨l, hl, rfl⟩ := List.mem_map.mp hd
    obtain ⟨h1, h2⟩ := H.l l hl
    refine okN_le (list_okN (n := 1) (w := 50) (ds := l.map PdD.toD) fun d hd => ?_) (Nat.le_refl _) ?_
    · obtain ⟨x, hx, rfl⟩ := List.mem_map.mp hd
      exact h2 x hx
    · rw [List.length_map]; omega
  · have := H.n
    rw [List.length_map]; omega
theorem picks_ok80 (ns : List Int) (hn : ns.length ≤ 63) : Ok (m_picks ns) fun _ => True := by
  unfold m_picks
  have hc := cut_len ns (some (13 : Int)) none
  refine .bind (P := fun l : List Int => l.length ≤ 63) (Ok.comp (fun x => x % 100000000000000000000) (by omega) (fun _ _ => rfl) (by rw [List.length_map]; omega)) fun l hl => .bindE rfl (.bind (at_ok ns (by decide)) fun v _ => ?_)
  refine .bind (P := fun l : List Int => l.length ≤ 63) (Ok.dite (fun _ => .bind (P := fun l : List Int => l.length ≤ 63) (Ok.comp (fun x => x % 4) (by omega) (fun _ _ => rfl) (by rw [List.length_map]; omega)) fun l2 h2 => .bindE rfl (.ret h2)) fun _ => .ret hl) fun l2 _ => .bind (at_ok ns (by decide)) fun _ _ => ?_
  exact .bind (P := fun _ => True) (Ok.dite (fun _ => .bind (at_ok ns (by decide)) fun _ _ => .bindE rfl (.ret trivial)) fun _ => .ret trivial) fun _ _ => .ret trivial
theorem show_nil : showG (PdD.toD (T2.mk ([] : List Dy) (0 : Int))) = some ("([], 0)" : Str) := by
  have e : showG (PyData.tuple [.list [], .int 0]) = some (PyData.tuple [.list [], .int 0]).shown := by
    refine show_okN (n := 3) (w := 100) (okN_le (tup_okN (n := 1) (w := 20) fun d hd => ?_) (by decide) (by decide)) (by decide) (by decide)
    simp only [List.mem_cons, List.not_mem_nil, or_false] at hd
    rcases hd with e | e <;> subst e
    · exact okN_le (list_okN (n := 0) (w := 0) (ds := []) fun _ h => (nomatch h)) (by decide) (by decide)
    · exact okN_le (int_okN (Int.le_refl _) (by decide)) (by decide) (by decide)
  refine e.trans (congrArg some ?_)
  rw [PyData.shown_tuple, PyData.shownAll_cons, PyData.shownAll_cons, PyData.shownAll_nil, PyData.shown_list, PyData.shownAll_nil, PyData.shown_int]
  decide +kernel
theorem law_true (ns : List Int) (hn : ns.length ≤ 63) : m_law ns = some true := by
  obtain ⟨ls, e1, H⟩ := lists_ok80 ns
  obtain ⟨ps, e2, _⟩ := picks_ok80 ns hn
  obtain ⟨out, u, e3, e4, hl, ho, h0, h1⟩ := both80 H ps
  obtain ⟨s1, hs1⟩ := out_okN hl ho h0 h1
  obtain ⟨s2, hs2⟩ := lists_okN H
  have hn7 := H.n
  have e5 : compG (fun (x_one : (List Dy)) => some (some x_one)) ls = some ls := (compG_map (g := id) (by rw [szl]; omega) fun _ _ => rfl).trans (by rw [List.map_id])
  have e6 : eqG ps ps = some true := (eqG_F ps ps).trans (by rw [decide_eq_true rfl])
  unfold m_law
  refine Ok.eq (.bindE e1 (.bindE rfl (.bindE e2 (.bindE rfl (.bindE e3 (.bindE hs1 (.bindE rfl (.bindE e5 (.bindE rfl (.bindE rfl (.bindE e4 (.bindE (x := false) ?_ ?_))))))))))))
  · show (showG (PdD.toD (T2.mk out u))).bind _ = _
    rw [hs1]
    show some (!decide (s1 = s1)) = some false
    rw [decide_eq_true rfl]; rfl
  · rw [if_neg (by decide)]
    refine .bindE hs2 (.bindE hs2 (.bindE (x := false) ?_ ?_))
    · rw [decide_eq_true rfl]
      show (eqG ps ps).bind _ = _
      rw [e6]; rfl
    · rw [if_neg (by decide)]
      refine .bindE (app_p (by show out.length < _; omega)) (.bindE e4 (.bindE hs1 (.bindE (x := true) ?_ (.ret rfl))))
      rw [if_pos (decide_eq_true rfl), woven_nil]
      exact Ok.eq (.bindE rfl (.bindE show_nil (.ret (decide_eq_true rfl))))

/-! ### what the top has left -/
structure Txt (K : PySem.W.Frag) (mg : Str → Option Value) where
  d_at : FuncData
  F_at : FunD K "_law_at" "_law_at" (defArgs s_at) (defBody s_at) (defScope s_at) [] [] (He.fAd K ("_law_at", none)) d_at
  g_at : mg "_law_at" = some (.ref (He.fAd K ("_law_at", none)))
  d_thing : FuncData
  F_thing : FunD K "_law_thing" "_law_thing" (defArgs s_thing) (defBody s_thing) (defScope s_thing) [] [] (He.fAd K ("_law_thing", none)) d_thing
  g_thing : mg "_law_thing" = some (.ref (He.fAd K ("_law_thing", none)))
  d_lists : FuncData
  F_lists : FunD K "_law_lists" "_law_lists" (defArgs s_lists) (defBody s_lists) (defScope s_lists) [] [] (He.fAd K ("_law_lists", none)) d_lists
  g_lists : mg "_law_lists" = some (.ref (He.fAd K ("_law_lists", none)))
  d_picks : FuncData
  F_picks : FunD K "_law_picks" "_law_picks" (defArgs s_picks) (defBody s_picks) (defScope s_picks) [] [] (He.fAd K ("_law_picks", none)) d_picks
  g_picks : mg "_law_picks" = some (.ref (He.fAd K ("_law_picks", none)))
  d_due : FuncData
  F_due : FunD K "_law_due" "_law_due" (defArgs s_due) (defBody s_due) (defScope s_due) [] [] (He.fAd K ("_law_due", none)) d_due
  g_due : mg "_law_due" = some (.ref (He.fAd K ("_law_due", none)))
  d_woven : FuncData
  F_woven : FunD K "woven" "woven" (defArgs s_woven) (defBody s_woven) (defScope s_woven) [] [] (He.fAd K ("woven", none)) d_woven
  g_woven : mg "woven" = some (.ref (He.fAd K ("woven", none)))
  d_law : FuncData
  F_law : FunD K "law" "law" (defArgs s_law) (defBody s_law) (defScope s_law) [] [] (He.fAd K ("law", none)) d_law
  g_law : mg "law" = some (.ref (He.fAd K ("law", none)))
  n_isinstance : mg "isinstance" = none
  n_len : mg "len" = none
  n_list : mg "list" = none
  n_range : mg "range" = none
  n_repr : mg "repr" = none
  n_str : mg "str" = none
  n_tuple : mg "tuple" = none
section
variable {P : Program} {w : World} {K : PySem.W.Frag} {mg : Str → Option Value} {base : Heap}
/-! at -/
theorem sc_at : FnScope ["_law_script", "_law_k", "_law_number"] ["_law_script", "_law_k"] (defScope s_at) := ⟨rfl, rfl, rfl, by decide +kernel, rfl, by decide +kernel, by decide +kernel⟩
theorem b_at (T : Txt K mg) : Binds K T.d_at ["_law_script", "_law_k"] [] := T.F_at.bindsN fun _ _ _ _ _ _ us hl => match us, hl with | [_, _], _ => rfl
theorem kv_at_0 : VKn (defScope s_at) "_law_script" := ⟨by first | exact Or.inl (by decide +kernel) | exact Or.inr (Or.inl (by decide +kernel)) | exact Or.inr (Or.inr (by decide +kernel)), by decide, by decide⟩
theorem kv_at_1 : VKn (defScope s_at) "_law_k" := ⟨by first | exact Or.inl (by decide +kernel) | exact Or.inr (Or.inl (by decide +kernel)) | exact Or.inr (Or.inr (by decide +kernel)), by decide, by decide⟩
theorem kv_at_2 : VKn (defScope s_at) "_law_number" := ⟨by first | exact Or.inl (by decide +kernel) | exact Or.inr (Or.inl (by decide +kernel)) | exact Or.inr (Or.inr (by decide +kernel)), by decide, by decide⟩
theorem ok_at (T : Txt K mg) : FnOk P w K mg base CX0 1 (He.fAd K ("_law_at", none)) T.d_at ["_law_script", "_law_k"] (Pr K fun (a_ : (List Int) × Int × Unit) => m_at a_.1 a_.2.1) := by
  refine fn_ok T.F_at sc_at rfl fun cdv A outer s_ F0 H0 vs a_ r D_ E_ hr sm_ ra_ hm kr kn => ?_
  obtain ⟨v_script, _, rfl, r_script, v_k, _, rfl, r_k, rfl⟩ := ra_
  obtain ⟨x_script, x_k, _u⟩ := a_
  have G : GrX K F0 H0 F0 H0 := .refl sm_
  replace hm : m_at x_script x_k = some r := hm
  unfold m_at at hm
  have r_script : rp (α := (List Int)) K F0 v_script x_script := r_script
  have r_k : rp (α := Int) K F0 v_k x_k := r_k
  change GoS _ _ _ [some v_script, some v_k, none] _
  obtain ⟨x_number, he, hm⟩ := Option.bind_eq_some_iff.mp hm
  refine go_setA (Int) 2 G.sm (ev_add (ev_mul ev_int (ev_varK 1 rfl r_k kv_at_1) (CMul.l (by decide))) ev_int) (fun v_number F H g rn_ => ?_) sc_at.nd
  have G := G.trans g
  have r_script := Rp.mono g.ff r_script
  have r_k := Rp.mono g.ff r_k
  have r_number := cg (Option.some.inj he) rn_
  change GoS _ _ _ [some v_script, some v_k, some v_number] _
  obtain ⟨b1, hj, hm⟩ := Option.bind_eq_some_iff.mp hm
  refine go_ifjA ((decide (x_k < (x_script.length : Int)))) (fun σ_ H_ => ∃ (F_ : Hp) (v_number : V), L2.Same F F_ ∧ σ_ = [some v_script, some v_k, some v_number] ∧ GrX K F0 H0 F_ H_ ∧ rp (α := Int) K F_ v_number b1) G.sm (et_cmp op_lt o2_lt (ev_varK 1 rfl r_k kv_at_1) (ev_callB call_len_seq oc_lenL T.n_len PySem.boot_len (ea_cons (ev_varK 0 rfl r_script kv_at_0) ea_nil)) (nomark _)) (fun hc F H g => ?_) (fun hc F H g => ?_) (fun σ_ H hP_ => ?_)
  · replace hj := ipos hc hj
    clear hm
    have hm := hj
    clear hj
    have G := G.trans g
    have r_script := Rp.mono g.ff r_script
    have r_k := Rp.mono g.ff r_k
    have r_number := Rp.mono g.ff r_number
    have sj2 := g.ff
    obtain ⟨t3, h_t3, hm⟩ := Option.bind_eq_some_iff.mp hm
    obtain ⟨x_number, he, hm⟩ := Option.bind_eq_some_iff.mp hm
    refine go_setA (Int) 2 G.sm (ev_add (ev_varK 2 rfl r_number kv_at_2) (ev_ixL (ev_varK 0 rfl r_script kv_at_0) (ev_varK 1 rfl r_k kv_at_1) h_t3)) (fun v_number F H g rn_ => ?_) sc_at.nd
    have G := G.trans g
    have r_script := Rp.mono g.ff r_script
    have r_k := Rp.mono g.ff r_k
    have sj2 := sj2.trans g.ff
    have r_number := cg (Option.some.inj he) rn_
    have hm := Option.some.inj hm
    subst hm
    exact GoS.nil ⟨_, _, sj2, rfl, G, r_number⟩
  · replace hj := ineg (nt hc) hj
    clear hm
    have hm := hj
    clear hj
    have G := G.trans g
    have r_script := Rp.mono g.ff r_script
    have r_k := Rp.mono g.ff r_k
    have r_number := Rp.mono g.ff r_number
    have sj2 := g.ff
    refine go_ifA ((decide ((0 : Int) < (x_script.length : Int)))) G.sm (et_cmp op_gt o2_gt (ev_callB call_len_seq oc_lenL T.n_len PySem.boot_len (ea_cons (ev_varK 0 rfl r_script kv_at_0) ea_nil)) ev_int (nomark _)) (fun hc F H g => ?_) (fun hc F H g => ?_)
    · replace hm := ipos hc hm
      have G := G.trans g
      have r_script := Rp.mono g.ff r_script
      have r_k := Rp.mono g.ff r_k
      have r_number := Rp.mono g.ff r_number
      have sj2 := sj2.trans g.ff
      obtain ⟨t4, h_t4, hm⟩ := Option.bind_eq_some_iff.mp hm
      obtain ⟨t5, h_t5, hm⟩ := Option.bind_eq_some_iff.mp hm
      obtain ⟨x_number, he, hm⟩ := Option.bind_eq_some_iff.mp hm
      refine go_setA (Int) 2 G.sm (ev_add (ev_mul ev_int (ev_varK 2 rfl r_number kv_at_2) (CMul.l (by decide))) (ev_ixL (ev_varK 0 rfl r_script kv_at_0) (ev_modG (ev_mul (ev_varK 1 rfl r_k kv_at_1) ev_int (CMul.r (by decide))) (ev_callB call_len_seq oc_lenL T.n_len PySem.boot_len (ea_cons (ev_varK 0 rfl r_script kv_at_0) ea_nil)) h_t4) h_t5)) (fun v_number F H g rn_ => ?_) sc_at.nd
      have G := G.trans g
      have r_script := Rp.mono g.ff r_script
      have r_k := Rp.mono g.ff r_k
      have sj2 := sj2.trans g.ff
      have r_number := cg (Option.some.inj he) rn_
      refine GoS.nil ?_
      have hm := Option.some.inj hm
      subst hm
      exact GoS.nil ⟨_, _, sj2, rfl, G, r_number⟩
    · replace hm := ineg (nt hc) hm
      have G := G.trans g
      have r_script := Rp.mono g.ff r_script
      have r_k := Rp.mono g.ff r_k
      have r_number := Rp.mono g.ff r_number
      have sj2 := sj2.trans g.ff
      refine GoS.nil ?_
      have hm := Option.some.inj hm
      subst hm
      exact GoS.nil ⟨_, _, sj2, rfl, G, r_number⟩
  obtain ⟨F, v_number, sj_, rfl, G, r_number⟩ := hP_
  obtain ⟨x_number, he, hm⟩ := Option.bind_eq_some_iff.mp hm
  refine go_setA (Int) 2 G.sm (ev_mod (ev_mul (ev_varK 2 rfl r_number kv_at_2) ev_int (CMul.r (by decide))) ev_int (by decide)) (fun v_number F H g rn_ => ?_) sc_at.nd
  have G := G.trans g
  have r_number := cg (Option.some.inj he) rn_
  obtain ⟨t6, h_t6, hm⟩ := Option.bind_eq_some_iff.mp hm
  exact go_ret G.sm (ev_mod (ev_mulG (ev_varK 2 rfl r_number kv_at_2) (ev_varK 2 rfl r_number kv_at_2) h_t6) ev_int (by decide)) fun v_ F_ H_ g_ rv_ => kr _ _ _ (G.trans g_) (cg (Option.some.inj hm) rv_)
/-! thing -/
theorem sc_thing : FnScope ["_law_cell", "_law_n", "_law_some"] ["_law_cell", "_law_n"] (defScope s_thing) := ⟨rfl, rfl, rfl, by decide +kernel, rfl, by decide +kernel, by decide +kernel⟩
theorem b_thing (T : Txt K mg) : Binds K T.d_thing ["_law_cell", "_law_n"] [] := T.F_thing.bindsN fun _ _ _ _ _ _ us hl => match us, hl with | [_, _], _ => rfl
theorem kv_thing_0 : VKn (defScope s_thing) "_law_cell" := ⟨by first | exact Or.inl (by decide +kernel) | exact Or.inr (Or.inl (by decide +kernel)) | exact Or.inr (Or.inr (by decide +kernel)), by decide, by decide⟩
theorem kv_thing_1 : VKn (defScope s_thing) "_law_n" := ⟨by first | exact Or.inl (by decide +kernel) | exact Or.inr (Or.inl (by decide +kernel)) | exact Or.inr (Or.inr (by decide +kernel)), by decide, by decide⟩
theorem kv_thing_2 : VKn (defScope s_thing) "_law_some" := ⟨by first | exact Or.inl (by decide +kernel) | exact Or.inr (Or.inl (by decide +kernel)) | exact Or.inr (Or.inr (by decide +kernel)), by decide, by decide⟩
theorem ok_thing (T : Txt K mg) : FnOk P w K mg base CX0 1 (He.fAd K ("_law_thing", none)) T.d_thing ["_law_cell", "_law_n"] (Pr K fun (a_ : Int × Int × Unit) => m_thing a_.1 a_.2.1) := by
  refine fn_ok T.F_thing sc_thing rfl fun cdv A outer s_ F0 H0 vs a_ r D_ E_ hr sm_ ra_ hm kr kn => ?_
  obtain ⟨v_cell, _, rfl, r_cell, v_n, _, rfl, r_n, rfl⟩ := ra_
  obtain ⟨x_cell, x_n, _u⟩ := a_
  have G : GrX K F0 H0 F0 H0 := .refl sm_
  replace hm : m_thing x_cell x_n = some r := hm
  unfold m_thing at hm
  have r_cell : rp (α := Int) K F0 v_cell x_cell := r_cell
  have r_n : rp (α := Int) K F0 v_n x_n := r_n
  change GoS _ _ _ [some v_cell, some v_n, none] _
  obtain ⟨t1, h_t1, hm⟩ := Option.bind_eq_some_iff.mp hm
  obtain ⟨x_some, he, hm⟩ := Option.bind_eq_some_iff.mp hm
  refine go_setA ((List Dy)) 2 G.sm (EvN.evA ((List Dy)) (en_list (el_cons (ev_dy (ev_mod (ev_div (ev_varK 0 rfl r_cell kv_thing_0) ev_int ⟨by decide, by decide⟩) ev_int (by decide))) (el_cons (ev_dy (ev_callTy call_str_int (oc_strI h_t1) T.n_str (by decide +kernel) (ea_cons (ev_mod (ev_div (ev_varK 0 rfl r_cell kv_thing_0) ev_int ⟨by decide, by decide⟩) ev_int (by decide)) ea_nil))) (el_cons (ev_dy (ev_tup2 (ea_cons (ev_varK 1 rfl r_n kv_thing_1) (ea_cons (ev_mod (ev_div (ev_varK 0 rfl r_cell kv_thing_0) ev_int ⟨by decide, by decide⟩) ev_int (by decide)) ea_nil)))) (el_cons (ev_dy ev_unit) (el_cons (ev_dy (ev_cmp op_eq o2_eq (ev_mod (ev_div (ev_varK 0 rfl r_cell kv_thing_0) ev_int ⟨by decide, by decide⟩) ev_int (by decide)) ev_int (nomark _))) el_nil))))) (by show 5 ≤ sizeLine; decide))) (fun v_some F H g rn_ => ?_) sc_thing.nd
  have G := G.trans g
  have r_cell := Rp.mono g.ff r_cell
  have r_n := Rp.mono g.ff r_n
  have r_some := cg (Option.some.inj he) rn_
  change GoS _ _ _ [some v_cell, some v_n, some v_some] _
  obtain ⟨t2, h_t2, hm⟩ := Option.bind_eq_some_iff.mp hm
  exact go_ret G.sm (ev_ixL (ev_varK 2 rfl r_some kv_thing_2) (ev_mod (ev_varK 0 rfl r_cell kv_thing_0) ev_int (by decide)) h_t2) fun v_ F_ H_ g_ rv_ => kr _ _ _ (G.trans g_) (cg (Option.some.inj hm) rv_)
/-! lists -/
theorem sc_lists : FnScope ["_law_script", "_law_found", "_law_n", "_law_cell", "_law_many", "_law_j"] ["_law_script"] (defScope s_lists) := ⟨rfl, rfl, rfl, by decide +kernel, rfl, by decide +kernel, by decide +kernel⟩
theorem b_lists (T : Txt K mg) : Binds K T.d_lists ["_law_script"] [] := T.F_lists.bindsN fun _ _ _ _ _ _ us hl => match us, hl with | [_], _ => rfl
theorem kv_lists_0 : VKn (defScope s_lists) "_law_script" := ⟨by first | exact Or.inl (by decide +kernel) | exact Or.inr (Or.inl (by decide +kernel)) | exact Or.inr (Or.inr (by decide +kernel)), by decide, by decide⟩
theorem kv_lists_1 : VKn (defScope s_lists) "_law_found" := ⟨by first | exact Or.inl (by decide +kernel) | exact Or.inr (Or.inl (by decide +kernel)) | exact Or.inr (Or.inr (by decide +kernel)), by decide, by decide⟩
theorem kv_lists_2 : VKn (defScope s_lists) "_law_n" := ⟨by first | exact Or.inl (by decide +kernel) | exact Or.inr (Or.inl (by decide +kernel)) | exact Or.inr (Or.inr (by decide +kernel)), by decide, by decide⟩
theorem kv_lists_3 : VKn (defScope s_lists) "_law_cell" := ⟨by first | exact Or.inl (by decide +kernel) | exact Or.inr (Or.inl (by decide +kernel)) | exact Or.inr (Or.inr (by decide +kernel)), by decide, by decide⟩
theorem kv_lists_4 : VKn (defScope s_lists) "_law_many" := ⟨by first | exact Or.inl (by decide +kernel) | exact Or.inr (Or.inl (by decide +kernel)) | exact Or.inr (Or.inr (by decide +kernel)), by decide, by decide⟩
theorem gl_lists_at : (defScope s_lists).names.lookup ("_law_at" : Str) = some NameKind.globalImplicit := by decide +kernel
theorem ok_lists (T : Txt K mg) : FnOk P w K mg base CX0 2 (He.fAd K ("_law_lists", none)) T.d_lists ["_law_script"] (Pr K fun (a_ : (List Int) × Unit) => m_lists a_.1) := by
  refine fn_ok T.F_lists sc_lists rfl fun cdv A outer s_ F0 H0 vs a_ r D_ E_ hr sm_ ra_ hm kr kn => ?_
  obtain ⟨v_script, _, rfl, r_script, rfl⟩ := ra_
  obtain ⟨x_script, _u⟩ := a_
  have G : GrX K F0 H0 F0 H0 := .refl sm_
  replace hm : m_lists x_script = some r := hm
  unfold m_lists at hm
  have r_script : rp (α := (List Int)) K F0 v_script x_script := r_script
  change GoS _ _ _ [some v_script, none, none, none, none, none] _
  obtain ⟨x_found, he, hm⟩ := Option.bind_eq_some_iff.mp hm
  refine go_setNA ((List (List Dy))) 1 G.sm (en_list el_nil (Nat.zero_le _)) (fun l_found vs_ F H g nl_ fl_ hl_ rs_ => ?_) sc_lists.nd
  have n0_ := G.hh.free nl_
  have G := G.trans g
  have r_script := Rp.mono g.ff r_script
  have o_found : Own K _ F H l_found _ := Own.cg (Option.some.inj he) ⟨n0_, fl_, vs_, hl_, rs_⟩
  change GoS _ _ _ [some v_script, some (.ref l_found), none, none, none, none] _
  obtain ⟨t1, h_t1, hm⟩ := Option.bind_eq_some_iff.mp hm
  obtain ⟨t2, h_t2, hm⟩ := Option.bind_eq_some_iff.mp hm
  obtain ⟨b18, ho_, hm⟩ := Option.bind_eq_some_iff.mp hm
  refine go_forN G.sm (ei_range1 (ev_mod (ev_call (ok_at T) (hr.mono (by omega)) T.g_at T.F_at.kp (b_at T) (ea_cons (ev_varK 0 rfl r_script kv_lists_0) (ea_cons ev_int ea_nil)) h_t1 gl_lists_at) ev_int (by decide)) h_t2 T.n_range) (pg_name (i := 2) sc_lists.nd rfl (by first | exact Or.inl rfl | exact Or.inr rfl)) ho_ (fun F H g => ?_) PassesOwn.never
  have G := G.trans g
  have r_script := Rp.mono g.ff r_script
  have o_found := o_found.up g
  refine ⟨fun (b3 : (List (List Dy))) σ_ F_ H_ => ∃ (u_cell : Option V) (u_many : Option V) (u_n : Option V), σ_ = [some v_script, some (.ref l_found), u_n, u_cell, u_many, none] ∧ GrX K F0 H0 F_ H_ ∧ Own K H0 F_ H_ l_found b3, ⟨_, _, _, rfl, G, o_found⟩, ?_, ?_⟩
  ·
    intro b3 x_n o_ hm σ_ F H v_n s1_ s2_ iv_ F H g r_n Q_ hQ_
    obtain ⟨u_cell, u_many, u_n, rfl, G, o_found⟩ := iv_
    have sb6 := g.ff
    have r_script := Rp.mono s1_ r_script
    have G := G.trans g
    have r_script := Rp.mono g.ff r_script
    have o_found := o_found.up g
    refine hQ_ _ _ ?_
    change GoS _ _ _ [some v_script, some (.ref l_found), some v_n, u_cell, u_many, none] _
    obtain ⟨t7, h_t7, hm⟩ := Option.bind_eq_some_iff.mp hm
    obtain ⟨x_cell, he, hm⟩ := Option.bind_eq_some_iff.mp hm
    refine go_setA (Int) 3 G.sm (ev_call (ok_at T) (hr.mono (by omega)) T.g_at T.F_at.kp (b_at T) (ea_cons (ev_varK 0 rfl r_script kv_lists_0) (ea_cons (ev_add ev_int (ev_varK 2 rfl r_n kv_lists_2)) ea_nil)) h_t7 gl_lists_at) (fun v_cell F H g rn_ => ?_) sc_lists.nd
    have G := G.trans g
    have r_script := Rp.mono g.ff r_script
    have o_found := o_found.up g
    have r_n := Rp.mono g.ff r_n
    have sb6 := sb6.trans g.ff
    have r_cell := cg (Option.some.inj he) rn_
    change GoS _ _ _ [some v_script, some (.ref l_found), some v_n, some v_cell, u_many, none] _
    obtain ⟨x_many, he, hm⟩ := Option.bind_eq_some_iff.mp hm
    refine go_setA (Int) 4 G.sm (ev_mod (ev_varK 3 rfl r_cell kv_lists_3) ev_int (by decide)) (fun v_many F H g rn_ => ?_) sc_lists.nd
    have G := G.trans g
    have r_script := Rp.mono g.ff r_script
    have o_found := o_found.up g
    have r_n := Rp.mono g.ff r_n
    have r_cell := Rp.mono g.ff r_cell
    have sb6 := sb6.trans g.ff
    have r_many := cg (Option.some.inj he) rn_
    change GoS _ _ _ [some v_script, some (.ref l_found), some v_n, some v_cell, some v_many, none] _
    obtain ⟨t8, h_t8, hm⟩ := Option.bind_eq_some_iff.mp hm
    obtain ⟨t10, h_t10, hm⟩ := Option.bind_eq_some_iff.mp hm
    obtain ⟨b11, hj, hm⟩ := Option.bind_eq_some_iff.mp hm
    refine go_ifjA (t10) (fun σ_ H_ => ∃ (F_ : Hp) (v_many : V), L2.Same F F_ ∧ σ_ = [some v_script, some (.ref l_found), some v_n, some v_cell, some v_many, none] ∧ GrX K F0 H0 F_ H_ ∧ rp (α := Int) K F_ v_many b11 ∧ Own K H0 F_ H_ l_found b3) G.sm (EvW.t (ew_andA ((decide (((t8 / (8 : Int)) % (4 : Int)) = (1 : Int)))) (et_cmp op_eq o2_eq (ev_mod (ev_div (ev_call (ok_at T) (hr.mono (by omega)) T.g_at T.F_at.kp (b_at T) (ea_cons (ev_varK 0 rfl r_script kv_lists_0) (ea_cons ev_int ea_nil)) h_t8 gl_lists_at) ev_int ⟨by decide, by decide⟩) ev_int (by decide)) ev_int (nomark _)) (fun hc => by
            replace h_t10 := ipos hc h_t10
            obtain ⟨t9, h_t9, h_t10⟩ := Option.bind_eq_some_iff.mp h_t10
            exact EvW.cg (Option.some.inj h_t10) (ew_and1 (et_cmp op_eq o2_eq (ev_varK 2 rfl r_n kv_lists_2) (ev_mod (ev_div (ev_call (ok_at T) (hr.mono (by omega)) T.g_at T.F_at.kp (b_at T) (ea_cons (ev_varK 0 rfl r_script kv_lists_0) (ea_cons ev_int ea_nil)) h_t9 gl_lists_at) ev_int ⟨by decide, by decide⟩) ev_int (by decide)) (nomark _)))) (fun hc => by replace h_t10 := ineg (nt hc) h_t10; exact (Option.some.inj h_t10).symm))) (fun hc F H g => ?_) (fun hc F H g => ?_) (fun σ_ H hP_ => ?_)
    · replace hj := ipos hc hj
      clear hm
      have hm := hj
      clear hj
      have G := G.trans g
      have r_script := Rp.mono g.ff r_script
      have o_found := o_found.up g
      have r_n := Rp.mono g.ff r_n
      have r_cell := Rp.mono g.ff r_cell
      have r_many := Rp.mono g.ff r_many
      have sb6 := sb6.trans g.ff
      have sj12 := g.ff
      obtain ⟨x_many, he, hm⟩ := Option.bind_eq_some_iff.mp hm
      refine go_setA (Int) 4 G.sm (ev_mod (ev_varK 3 rfl r_cell kv_lists_3) ev_int (by decide)) (fun v_many F H g rn_ => ?_) sc_lists.nd
      have G := G.trans g
      have o_found := o_found.up g
      have r_cell := Rp.mono g.ff r_cell
      have sb6 := sb6.trans g.ff
      have sj12 := sj12.trans g.ff
      have r_many := cg (Option.some.inj he) rn_
      have hm := Option.some.inj hm
      subst hm
      exact GoS.nil ⟨_, _, sj12, rfl, G, r_many, o_found⟩
    · replace hj := ineg (nt hc) hj
      clear hm
      have hm := hj
      clear hj
      have G := G.trans g
      have r_script := Rp.mono g.ff r_script
      have o_found := o_found.up g
      have r_n := Rp.mono g.ff r_n
      have r_cell := Rp.mono g.ff r_cell
      have r_many := Rp.mono g.ff r_many
      have sb6 := sb6.trans g.ff
      have sj12 := g.ff
      have hm := Option.some.inj hm
      subst hm
      exact GoS.nil ⟨_, _, sj12, rfl, G, r_many, o_found⟩
    obtain ⟨F, v_many, sj_, rfl, G, r_many, o_found⟩ := hP_
    have r_cell := Rp.mono sj_ r_cell
    have sb6 := sb6.trans sj_
    obtain ⟨t13, h_t13, hm⟩ := Option.bind_eq_some_iff.mp hm
    obtain ⟨t16, h_t16, hm⟩ := Option.bind_eq_some_iff.mp hm
    obtain ⟨t17, he, hm⟩ := Option.bind_eq_some_iff.mp hm
    refine go_append 1 G.sm o_found rfl (EvN.evA ((List Dy)) (en_comp (own := [("_law_j", 5)]) sc_lists.nd (ei_range1 (ev_varK 4 rfl r_many kv_lists_4) h_t13 T.n_range) h_t16 (blkOk_by (N := ["_law_script", "_law_found", "_law_n", "_law_cell", "_law_many", "_law_j"]) (sc := defScope s_lists) (by decide +kernel)) (fun _ _ _ _ _ => (pg_name (i := 5) sc_lists.nd rfl (by first | exact Or.inl rfl | exact Or.inr rfl))) (fun x_j o_ hm F H v_j g r_j Q hQ => by
            have r_cell := Rp.mono g.ff r_cell
            have r_many := Rp.mono g.ff r_many
            refine hQ _ rfl ?_
            obtain ⟨t14, h_t14, hm⟩ := Option.bind_eq_some_iff.mp hm
            obtain ⟨t15, h_t15, hm⟩ := Option.bind_eq_some_iff.mp hm
            exact ⟨_, (Option.some.inj hm).symm, fun s_ H_ C_ cl_ fp_ => (ev_call (ok_thing T) (hr.mono (by omega)) T.g_thing T.F_thing.kp (b_thing T) (ea_cons (ev_mod (ev_mulG (ev_add (ev_var 3 rfl r_cell) (ev_mul ev_int (ev_var 5 rfl r_j) (CMul.l (by decide)))) (ev_add ev_int (ev_mul ev_int (ev_var 5 rfl r_j) (CMul.l (by decide)))) h_t14) ev_int (by decide)) (ea_cons (ev_var 5 rfl r_j) ea_nil)) h_t15)⟩))) he (fun w_ F H g nz_ fz_ on_ => ?_)
    have G := G.trans g
    have r_cell := Rp.mono g.ff r_cell
    have r_many := Rp.mono g.ff r_many
    have sb6 := sb6.trans g.ff
    have G := G.poke (u := w_) on_.n fz_ nz_ on_.pl
    have o_found := on_
    have hm := Option.some.inj hm
    subst hm
    exact GoS.nil ⟨_, sb6, G.fh, ⟨_, _, _, rfl, G, o_found⟩⟩
  · intro σ_ F H s1_ s2_ iv_
    obtain ⟨u_cell, u_many, u_n, rfl, G, o_found⟩ := iv_
    refine o_found.freeze G (fun F H s_ s2_ G r_found k_ => ?_)
    exact go_ret G.sm (ev_varK 1 rfl r_found kv_lists_1) fun v_ F_ H_ g_ rv_ => kr _ _ _ (G.trans g_) (cg (Option.some.inj hm) rv_)
/-! picks -/
theorem sc_picks : FnScope ["_law_script", "_law_found", "_law_cell"] ["_law_script"] (defScope s_picks) := ⟨rfl, rfl, rfl, by decide +kernel, rfl, by decide +kernel, by decide +kernel⟩
theorem b_picks (T : Txt K mg) : Binds K T.d_picks ["_law_script"] [] := T.F_picks.bindsN fun _ _ _ _ _ _ us hl => match us, hl with | [_], _ => rfl
theorem kv_picks_0 : VKn (defScope s_picks) "_law_script" := ⟨by first | exact Or.inl (by decide +kernel) | exact Or.inr (Or.inl (by decide +kernel)) | exact Or.inr (Or.inr (by decide +kernel)), by decide, by decide⟩
theorem kv_picks_1 : VKn (defScope s_picks) "_law_found" := ⟨by first | exact Or.inl (by decide +kernel) | exact Or.inr (Or.inl (by decide +kernel)) | exact Or.inr (Or.inr (by decide +kernel)), by decide, by decide⟩
theorem gl_picks_at : (defScope s_picks).names.lookup ("_law_at" : Str) = some NameKind.globalImplicit := by decide +kernel
theorem ok_picks (T : Txt K mg) : FnOk P w K mg base CX0 2 (He.fAd K ("_law_picks", none)) T.d_picks ["_law_script"] (Pr K fun (a_ : (List Int) × Unit) => m_picks a_.1) := by
  refine fn_ok T.F_picks sc_picks rfl fun cdv A outer s_ F0 H0 vs a_ r D_ E_ hr sm_ ra_ hm kr kn => ?_
  obtain ⟨v_script, _, rfl, r_script, rfl⟩ := ra_
  obtain ⟨x_script, _u⟩ := a_
  have G : GrX K F0 H0 F0 H0 := .refl sm_
  replace hm : m_picks x_script = some r := hm
  unfold m_picks at hm
  have r_script : rp (α := (List Int)) K F0 v_script x_script := r_script
  change GoS _ _ _ [some v_script, none, none] _
  obtain ⟨t1, h_t1, hm⟩ := Option.bind_eq_some_iff.mp hm
  obtain ⟨x_found, he, hm⟩ := Option.bind_eq_some_iff.mp hm
  first
    | refine go_setLc (own := [("_law_cell", 2)]) 1 G.sm sc_picks.nd (ei_list (EvN.evA ((List Int)) (en_slice (ev_varK 0 rfl r_script kv_picks_0) (eo_some ev_int) eo_none))) h_t1 (blkOk_by (N := ["_law_script", "_law_found", "_law_cell"]) (sc := defScope s_picks) (by decide +kernel)) (fun _ _ _ _ _ => (pg_name (i := 2) sc_picks.nd rfl (by first | exact Or.inl rfl | exact Or.inr rfl))) (fun x_cell o_ hm F H v_cell g r_cell Q hQ => by
          have r_script := Rp.mono g.ff r_script
          refine hQ _ rfl ?_
          exact ⟨_, (Option.some.inj hm).symm, fun s_ H_ C_ cl_ fp_ => (ev_mod (ev_var 2 rfl r_cell) (ev_powcA (100000000000000000000) ev_int ev_int (by decide) (by decide +kernel)) (by decide))⟩) (fun l_found vs_ F H g nl_ fl_ hl_ rs_ => ?_)
    | refine go_setN 1 G.sm (en_comp (own := [("_law_cell", 2)]) sc_picks.nd (ei_list (EvN.evA ((List Int)) (en_slice (ev_varK 0 rfl r_script kv_picks_0) (eo_some ev_int) eo_none))) h_t1 (blkOk_by (N := ["_law_script", "_law_found", "_law_cell"]) (sc := defScope s_picks) (by decide +kernel)) (fun _ _ _ _ _ => (pg_name (i := 2) sc_picks.nd rfl (by first | exact Or.inl rfl | exact Or.inr rfl))) (fun x_cell o_ hm F H v_cell g r_cell Q hQ => by
          have r_script := Rp.mono g.ff r_script
          refine hQ _ rfl ?_
          exact ⟨_, (Option.some.inj hm).symm, fun s_ H_ C_ cl_ fp_ => (ev_mod (ev_var 2 rfl r_cell) (ev_powcA (100000000000000000000) ev_int ev_int (by decide) (by decide +kernel)) (by decide))⟩)) (fun l_found vs_ F H g nl_ fl_ hl_ rs_ => ?_) sc_picks.nd
  have n0_ := G.hh.free nl_
  have G := G.trans g
  have r_script := Rp.mono g.ff r_script
  have o_found : Own K _ F H l_found _ := Own.cg (Option.some.inj he) ⟨n0_, fl_, vs_, hl_, rs_⟩
  refine o_found.freeze G (fun F H s_ s2_ G r_found k_ => ?_)
  have r_script := Rp.mono s_ r_script
  change GoS _ _ _ [some v_script, some (.ref l_found), none] _
  obtain ⟨t2, h_t2, hm⟩ := Option.bind_eq_some_iff.mp hm
  obtain ⟨b3, hj, hm⟩ := Option.bind_eq_some_iff.mp hm
  refine go_ifjA ((decide ((t2 % (3 : Int)) = (1 : Int)))) (fun σ_ H_ => ∃ (F_ : Hp) (v_found : V), L2.Same F F_ ∧ σ_ = [some v_script, some v_found, none] ∧ GrX K F0 H0 F_ H_ ∧ rp (α := (List Int)) K F_ v_found b3) G.sm (et_cmp op_eq o2_eq (ev_mod (ev_call (ok_at T) (hr.mono (by omega)) T.g_at T.F_at.kp (b_at T) (ea_cons (ev_varK 0 rfl r_script kv_picks_0) (ea_cons ev_int ea_nil)) h_t2 gl_picks_at) ev_int (by decide)) ev_int (nomark _)) (fun hc F H g => ?_) (fun hc F H g => ?_) (fun σ_ H hP_ => ?_)
  · replace hj := ipos hc hj
    clear hm
    have hm := hj
    clear hj
    have G := G.trans g
    have r_script := Rp.mono g.ff r_script
    have r_found := Rp.mono g.ff r_found
    have sj4 := g.ff
    obtain ⟨t5, h_t5, hm⟩ := Option.bind_eq_some_iff.mp hm
    obtain ⟨x_found, he, hm⟩ := Option.bind_eq_some_iff.mp hm
    first
      | refine go_setLc (own := [("_law_cell", 2)]) 1 G.sm sc_picks.nd (ei_list (ev_varK 1 rfl r_found kv_picks_1)) h_t5 (blkOk_by (N := ["_law_script", "_law_found", "_law_cell"]) (sc := defScope s_picks) (by decide +kernel)) (fun _ _ _ _ _ => (pg_name (i := 2) sc_picks.nd rfl (by first | exact Or.inl rfl | exact Or.inr rfl))) (fun x_cell o_ hm F H v_cell g r_cell Q hQ => by
            have r_found := Rp.mono g.ff r_found
            refine hQ _ rfl ?_
            exact ⟨_, (Option.some.inj hm).symm, fun s_ H_ C_ cl_ fp_ => (ev_mod (ev_var 2 rfl r_cell) ev_int (by decide))⟩) (fun l_found vs_ F H g nl_ fl_ hl_ rs_ => ?_)
      | refine go_setN 1 G.sm (en_comp (own := [("_law_cell", 2)]) sc_picks.nd (ei_list (ev_varK 1 rfl r_found kv_picks_1)) h_t5 (blkOk_by (N := ["_law_script", "_law_found", "_law_cell"]) (sc := defScope s_picks) (by decide +kernel)) (fun _ _ _ _ _ => (pg_name (i := 2) sc_picks.nd rfl (by first | exact Or.inl rfl | exact Or.inr rfl))) (fun x_cell o_ hm F H v_cell g r_cell Q hQ => by
            have r_found := Rp.mono g.ff r_found
            refine hQ _ rfl ?_
            exact ⟨_, (Option.some.inj hm).symm, fun s_ H_ C_ cl_ fp_ => (ev_mod (ev_var 2 rfl r_cell) ev_int (by decide))⟩)) (fun l_found vs_ F H g nl_ fl_ hl_ rs_ => ?_) sc_picks.nd
    have n0_ := G.hh.free nl_
    have G := G.trans g
    have r_script := Rp.mono g.ff r_script
    have sj4 := sj4.trans g.ff
    have o_found : Own K _ F H l_found _ := Own.cg (Option.some.inj he) ⟨n0_, fl_, vs_, hl_, rs_⟩
    refine o_found.freeze G (fun F H s_ s2_ G r_found k_ => ?_)
    have r_script := Rp.mono s_ r_script
    have sj4 := sj4.trans s_
    have hm := Option.some.inj hm
    subst hm
    exact GoS.nil ⟨_, _, sj4, rfl, G, r_found⟩
  · replace hj := ineg (nt hc) hj
    clear hm
    have hm := hj
    clear hj
    have G := G.trans g
    have r_script := Rp.mono g.ff r_script
    have r_found := Rp.mono g.ff r_found
    have sj4 := g.ff
    have hm := Option.some.inj hm
    subst hm
    exact GoS.nil ⟨_, _, sj4, rfl, G, r_found⟩
  obtain ⟨F, v_found, sj_, rfl, G, r_found⟩ := hP_
  have r_script := Rp.mono sj_ r_script
  change GoS _ _ _ [some v_script, some v_found, none] _
  obtain ⟨t6, h_t6, hm⟩ := Option.bind_eq_some_iff.mp hm
  obtain ⟨b7, hj, hm⟩ := Option.bind_eq_some_iff.mp hm
  refine go_ifjA ((decide (((t6 / (3 : Int)) % (3 : Int)) = (1 : Int)))) (fun σ_ H_ => ∃ (F_ : Hp) (v_found : V), L2.Same F F_ ∧ σ_ = [some v_script, some v_found, none] ∧ GrX K F0 H0 F_ H_ ∧ rp (α := (List Int)) K F_ v_found b7) G.sm (et_cmp op_eq o2_eq (ev_mod (ev_div (ev_call (ok_at T) (hr.mono (by omega)) T.g_at T.F_at.kp (b_at T) (ea_cons (ev_varK 0 rfl r_script kv_picks_0) (ea_cons ev_int ea_nil)) h_t6 gl_picks_at) ev_int ⟨by decide, by decide⟩) ev_int (by decide)) ev_int (nomark _)) (fun hc F H g => ?_) (fun hc F H g => ?_) (fun σ_ H hP_ => ?_)
  · replace hj := ipos hc hj
    clear hm
    have hm := hj
    clear hj
    have G := G.trans g
    have r_script := Rp.mono g.ff r_script
    have r_found := Rp.mono g.ff r_found
    have sj8 := g.ff
    obtain ⟨t9, h_t9, hm⟩ := Option.bind_eq_some_iff.mp hm
    obtain ⟨x_found, he, hm⟩ := Option.bind_eq_some_iff.mp hm
    refine go_setA ((List Int)) 1 G.sm (EvN.evA ((List Int)) (en_slice (ev_varK 1 rfl r_found kv_picks_1) eo_none (eo_some (ev_mod (ev_call (ok_at T) (hr.mono (by omega)) T.g_at T.F_at.kp (b_at T) (ea_cons (ev_varK 0 rfl r_script kv_picks_0) (ea_cons ev_int ea_nil)) h_t9 gl_picks_at) ev_int (by decide))))) (fun v_found F H g rn_ => ?_) sc_picks.nd
    have G := G.trans g
    have r_script := Rp.mono g.ff r_script
    have sj8 := sj8.trans g.ff
    have r_found := cg (Option.some.inj he) rn_
    have hm := Option.some.inj hm
    subst hm
    exact GoS.nil ⟨_, _, sj8, rfl, G, r_found⟩
  · replace hj := ineg (nt hc) hj
    clear hm
    have hm := hj
    clear hj
    have G := G.trans g
    have r_script := Rp.mono g.ff r_script
    have r_found := Rp.mono g.ff r_found
    have sj8 := g.ff
    have hm := Option.some.inj hm
    subst hm
    exact GoS.nil ⟨_, _, sj8, rfl, G, r_found⟩
  obtain ⟨F, v_found, sj_, rfl, G, r_found⟩ := hP_
  exact go_ret G.sm (ev_varK 1 rfl r_found kv_picks_1) fun v_ F_ H_ g_ rv_ => kr _ _ _ (G.trans g_) (cg (Option.some.inj hm) rv_)
/-! due -/
theorem sc_due : FnScope ["_law_lists_here", "_law_picks_here", "_law_at_here", "_law_one", "_law_found", "_law_used", "_law_left", "_law_n", "_law_pick"] ["_law_lists_here", "_law_picks_here"] (defScope s_due) := ⟨rfl, rfl, rfl, by decide +kernel, rfl, by decide +kernel, by decide +kernel⟩
theorem b_due (T : Txt K mg) : Binds K T.d_due ["_law_lists_here", "_law_picks_here"] [] := T.F_due.bindsN fun _ _ _ _ _ _ us hl => match us, hl with | [_, _], _ => rfl
theorem kv_due_0 : VKn (defScope s_due) "_law_lists_here" := ⟨by first | exact Or.inl (by decide +kernel) | exact Or.inr (Or.inl (by decide +kernel)) | exact Or.inr (Or.inr (by decide +kernel)), by decide, by decide⟩
theorem kv_due_1 : VKn (defScope s_due) "_law_picks_here" := ⟨by first | exact Or.inl (by decide +kernel) | exact Or.inr (Or.inl (by decide +kernel)) | exact Or.inr (Or.inr (by decide +kernel)), by decide, by decide⟩
theorem kv_due_4 : VKn (defScope s_due) "_law_found" := ⟨by first | exact Or.inl (by decide +kernel) | exact Or.inr (Or.inl (by decide +kernel)) | exact Or.inr (Or.inr (by decide +kernel)), by decide, by decide⟩
theorem kv_due_5 : VKn (defScope s_due) "_law_used" := ⟨by first | exact Or.inl (by decide +kernel) | exact Or.inr (Or.inl (by decide +kernel)) | exact Or.inr (Or.inr (by decide +kernel)), by decide, by decide⟩
theorem kv_due_6 : VKn (defScope s_due) "_law_left" := ⟨by first | exact Or.inl (by decide +kernel) | exact Or.inr (Or.inl (by decide +kernel)) | exact Or.inr (Or.inr (by decide +kernel)), by decide, by decide⟩
theorem kv_due_7 : VKn (defScope s_due) "_law_n" := ⟨by first | exact Or.inl (by decide +kernel) | exact Or.inr (Or.inl (by decide +kernel)) | exact Or.inr (Or.inr (by decide +kernel)), by decide, by decide⟩
theorem kv_due_8 : VKn (defScope s_due) "_law_pick" := ⟨by first | exact Or.inl (by decide +kernel) | exact Or.inr (Or.inl (by decide +kernel)) | exact Or.inr (Or.inr (by decide +kernel)), by decide, by decide⟩
theorem ok_due (T : Txt K mg) : FnOk P w K mg base CX0 1 (He.fAd K ("_law_due", none)) T.d_due ["_law_lists_here", "_law_picks_here"] (Pr K fun (a_ : (List (List Dy)) × (List Int) × Unit) => m_due a_.1 a_.2.1) := by
  refine fn_ok T.F_due sc_due rfl fun cdv A outer s_ F0 H0 vs a_ r D_ E_ hr sm_ ra_ hm kr kn => ?_
  obtain ⟨v_lists_here, _, rfl, r_lists_here, v_picks_here, _, rfl, r_picks_here, rfl⟩ := ra_
  obtain ⟨x_lists_here, x_picks_here, _u⟩ := a_
  have G : GrX K F0 H0 F0 H0 := .refl sm_
  replace hm : m_due x_lists_here x_picks_here = some r := hm
  unfold m_due at hm
  have r_lists_here : rp (α := (List (List Dy))) K F0 v_lists_here x_lists_here := r_lists_here
  have r_picks_here : rp (α := (List Int)) K F0 v_picks_here x_picks_here := r_picks_here
  change GoS _ _ _ [some v_lists_here, some v_picks_here, none, none, none, none, none, none, none] _
  obtain ⟨t1, h_t1, hm⟩ := Option.bind_eq_some_iff.mp hm
  obtain ⟨x_at_here, he, hm⟩ := Option.bind_eq_some_iff.mp hm
  first
    | refine go_setLc (own := [("_law_one", 3)]) 2 G.sm sc_due.nd (ei_list (ev_varK 0 rfl r_lists_here kv_due_0)) h_t1 (blkOk_by (N := ["_law_lists_here", "_law_picks_here", "_law_at_here", "_law_one", "_law_found", "_law_used", "_law_left", "_law_n", "_law_pick"]) (sc := defScope s_due) (by decide +kernel)) (fun _ _ _ _ _ => (pg_name (i := 3) sc_due.nd rfl (by first | exact Or.inl rfl | exact Or.inr rfl))) (fun x_one o_ hm F H v_one g r_one Q hQ => by
          have r_lists_here := Rp.mono g.ff r_lists_here
          refine hQ _ rfl ?_
          exact ⟨_, (Option.some.inj hm).symm, fun s_ H_ C_ cl_ fp_ => ev_int⟩) (fun l_at_here vs_ F H g nl_ fl_ hl_ rs_ => ?_)
    | refine go_setN 2 G.sm (en_comp (own := [("_law_one", 3)]) sc_due.nd (ei_list (ev_varK 0 rfl r_lists_here kv_due_0)) h_t1 (blkOk_by (N := ["_law_lists_here", "_law_picks_here", "_law_at_here", "_law_one", "_law_found", "_law_used", "_law_left", "_law_n", "_law_pick"]) (sc := defScope s_due) (by decide +kernel)) (fun _ _ _ _ _ => (pg_name (i := 3) sc_due.nd rfl (by first | exact Or.inl rfl | exact Or.inr rfl))) (fun x_one o_ hm F H v_one g r_one Q hQ => by
          have r_lists_here := Rp.mono g.ff r_lists_here
          refine hQ _ rfl ?_
          exact ⟨_, (Option.some.inj hm).symm, fun s_ H_ C_ cl_ fp_ => ev_int⟩)) (fun l_at_here vs_ F H g nl_ fl_ hl_ rs_ => ?_) sc_due.nd
  have n0_ := G.hh.free nl_
  have G := G.trans g
  have r_lists_here := Rp.mono g.ff r_lists_here
  have r_picks_here := Rp.mono g.ff r_picks_here
  have o_at_here : Own K _ F H l_at_here _ := Own.cg (Option.some.inj he) ⟨n0_, fl_, vs_, hl_, rs_⟩
  change GoS _ _ _ [some v_lists_here, some v_picks_here, some (.ref l_at_here), none, none, none, none, none, none] _
  obtain ⟨x_found, he, hm⟩ := Option.bind_eq_some_iff.mp hm
  refine go_setNA ((List Dy)) 4 G.sm (en_list el_nil (Nat.zero_le _)) (fun l_found vs_ F H g nl_ fl_ hl_ rs_ => ?_) sc_due.nd
  have d_at_here_found : l_at_here ≠ l_found := fun e_ => o_at_here.ne0 (e_.symm ▸ nl_)
  have n0_ := G.hh.free nl_
  have G := G.trans g
  have r_lists_here := Rp.mono g.ff r_lists_here
  have r_picks_here := Rp.mono g.ff r_picks_here
  have o_at_here := o_at_here.up g
  have o_found : Own K _ F H l_found _ := Own.cg (Option.some.inj he) ⟨n0_, fl_, vs_, hl_, rs_⟩
  change GoS _ _ _ [some v_lists_here, some v_picks_here, some (.ref l_at_here), none, some (.ref l_found), none, none, none, none] _
  obtain ⟨x_used, he, hm⟩ := Option.bind_eq_some_iff.mp hm
  refine go_setA (Int) 5 G.sm ev_int (fun v_used F H g rn_ => ?_) sc_due.nd
  have G := G.trans g
  have r_lists_here := Rp.mono g.ff r_lists_here
  have r_picks_here := Rp.mono g.ff r_picks_here
  have o_at_here := o_at_here.up g
  have o_found := o_found.up g
  have r_used := cg (Option.some.inj he) rn_
  change GoS _ _ _ [some v_lists_here, some v_picks_here, some (.ref l_at_here), none, some (.ref l_found), some v_used, none, none, none] _
  obtain ⟨t2, h_t2, hm⟩ := Option.bind_eq_some_iff.mp hm
  obtain ⟨t5, h_t5, hm⟩ := Option.bind_eq_some_iff.mp hm
  obtain ⟨x_left, he, hm⟩ := Option.bind_eq_some_iff.mp hm
  refine go_thawN (α := (List Int)) (xs := t5) (τ := fun l_ => List.set [some v_lists_here, some v_picks_here, some (.ref l_at_here), none, some (.ref l_found), some v_used, none, none, none] 6 (some (V.ref l_))) o_at_here G.sm (fun F H s_ s2_ rf_ k_ kk0_ => ?_) (fun l_left vs_ F H g nl_ fl_ hl_ rs_ => ?_)
  · skip
    have r_lists_here := Rp.mono s_ r_lists_here
    have r_picks_here := Rp.mono s_ r_picks_here
    have r_used := Rp.mono s_ r_used
    have rf_at_here := rf_
    first
      | refine go_setLci (own := [("_law_n", 7)]) 6 s2_ sc_due.nd (ei_range1 (ev_callB call_len_seq oc_lenL T.n_len PySem.boot_len (ea_cons (ev_varK 0 rfl r_lists_here kv_due_0) ea_nil)) h_t2 T.n_range) h_t5 (blkOk_by (N := ["_law_lists_here", "_law_picks_here", "_law_at_here", "_law_one", "_law_found", "_law_used", "_law_left", "_law_n", "_law_pick"]) (sc := defScope s_due) (by decide +kernel)) (fun _ _ _ _ _ => (pg_name (i := 7) sc_due.nd rfl (by first | exact Or.inl rfl | exact Or.inr rfl))) (fun x_n o_ hm F H v_n g r_n Q hQ => by
          have r_lists_here := Rp.mono g.ff r_lists_here
          have rf_at_here := Rp.mono g.ff rf_at_here
          refine hQ _ rfl ?_
          obtain ⟨t3, h_t3, hm⟩ := Option.bind_eq_some_iff.mp hm
          obtain ⟨t4, h_t4, hm⟩ := Option.bind_eq_some_iff.mp hm
          refine ⟨_, fun s_ H_ C_ cl_ fp_ => (et_cmp op_lt o2_lt (ev_ixL (ev_var 2 rfl rf_at_here) (ev_var 7 rfl r_n) h_t3) (ev_callB call_len_seq oc_lenL T.n_len PySem.boot_len (ea_cons (ev_ixL (ev_var 0 rfl r_lists_here) (ev_var 7 rfl r_n) h_t4) ea_nil)) (nomark _)), fun hc => ?_, fun hc => ?_⟩
          · replace hm := ipos hc hm
            exact ⟨_, (Option.some.inj hm).symm, fun s_ H_ C_ cl_ fp_ => (ev_var 7 rfl r_n)⟩
          · replace hm := ineg (nt hc) hm
            exact (Option.some.inj hm).symm) kk0_
      | refine go_setN 6 s2_ (en_compi (own := [("_law_n", 7)]) sc_due.nd (ei_range1 (ev_callB call_len_seq oc_lenL T.n_len PySem.boot_len (ea_cons (ev_varK 0 rfl r_lists_here kv_due_0) ea_nil)) h_t2 T.n_range) h_t5 (blkOk_by (N := ["_law_lists_here", "_law_picks_here", "_law_at_here", "_law_one", "_law_found", "_law_used", "_law_left", "_law_n", "_law_pick"]) (sc := defScope s_due) (by decide +kernel)) (fun _ _ _ _ _ => (pg_name (i := 7) sc_due.nd rfl (by first | exact Or.inl rfl | exact Or.inr rfl))) (fun x_n o_ hm F H v_n g r_n Q hQ => by
          have r_lists_here := Rp.mono g.ff r_lists_here
          have rf_at_here := Rp.mono g.ff rf_at_here
          refine hQ _ rfl ?_
          obtain ⟨t3, h_t3, hm⟩ := Option.bind_eq_some_iff.mp hm
          obtain ⟨t4, h_t4, hm⟩ := Option.bind_eq_some_iff.mp hm
          refine ⟨_, fun s_ H_ C_ cl_ fp_ => (et_cmp op_lt o2_lt (ev_ixL (ev_var 2 rfl rf_at_here) (ev_var 7 rfl r_n) h_t3) (ev_callB call_len_seq oc_lenL T.n_len PySem.boot_len (ea_cons (ev_ixL (ev_var 0 rfl r_lists_here) (ev_var 7 rfl r_n) h_t4) ea_nil)) (nomark _)), fun hc => ?_, fun hc => ?_⟩
          · replace hm := ipos hc hm
            exact ⟨_, (Option.some.inj hm).symm, fun s_ H_ C_ cl_ fp_ => (ev_var 7 rfl r_n)⟩
          · replace hm := ineg (nt hc) hm
            exact (Option.some.inj hm).symm)) kk0_ sc_due.nd
  have d_at_here_left : l_at_here ≠ l_left := fun e_ => o_at_here.ne0 (e_.symm ▸ nl_)
  have d_found_left : l_found ≠ l_left := fun e_ => o_found.ne0 (e_.symm ▸ nl_)
  have n0_ := G.hh.free nl_
  have G := G.trans g
  have r_lists_here := Rp.mono g.ff r_lists_here
  have r_picks_here := Rp.mono g.ff r_picks_here
  have o_at_here := o_at_here.up g
  have o_found := o_found.up g
  have r_used := Rp.mono g.ff r_used
  have o_left : Own K _ F H l_left _ := Own.cg (Option.some.inj he) ⟨n0_, fl_, vs_, hl_, rs_⟩
  refine o_left.freeze G (fun F H s_ s2_ G r_left k_ => ?_)
  have r_lists_here := Rp.mono s_ r_lists_here
  have r_picks_here := Rp.mono s_ r_picks_here
  have o_at_here := o_at_here.keepF (d_at_here_left) s_ k_
  have o_found := o_found.keepF (d_found_left) s_ k_
  have r_used := Rp.mono s_ r_used
  change GoS _ _ _ [some v_lists_here, some v_picks_here, some (.ref l_at_here), none, some (.ref l_found), some v_used, some (.ref l_left), none, none] _
  obtain ⟨b23, ho_, hm⟩ := Option.bind_eq_some_iff.mp hm
  refine go_whileN (b0 := (x_used, x_found, x_at_here, x_left)) (fun (b6 : (Int × (List Dy) × (List Int) × (List Int))) σ_ F_ H_ => ∃ (u_pick : Option V) (u_n : Option V) (v_used : V) (v_left : V), σ_ = [some v_lists_here, some v_picks_here, some (.ref l_at_here), none, some (.ref l_found), some v_used, some v_left, u_n, u_pick] ∧ GrX K F0 H0 F_ H_ ∧ rp (α := Int) K F_ v_used b6.1 ∧ Own K H0 F_ H_ l_found b6.2.1 ∧ Own K H0 F_ H_ l_at_here b6.2.2.1 ∧ rp (α := (List Int)) K F_ v_left b6.2.2.2) G.sm ⟨_, _, _, _, rfl, G, r_used, o_found, o_at_here, r_left⟩ ho_ ?_ ?_ ?_ PassesOwn.never
  ·
    intro b6 t_ hm σ_ F H s1_ s2_ iv_
    obtain ⟨u_pick, u_n, v_used, v_left, rfl, G, r_used, o_found, o_at_here, r_left⟩ := iv_
    have r_lists_here := Rp.mono s1_ r_lists_here
    have r_picks_here := Rp.mono s1_ r_picks_here
    refine ⟨G.sm, EvT.cg (Option.some.inj hm) (et_cmp op_gt o2_gt (ev_callB call_len_seq oc_lenL T.n_len PySem.boot_len (ea_cons (ev_varK 6 rfl r_left kv_due_6) ea_nil)) ev_int (nomark _)), fun F H g => ?_⟩
    have G := G.trans g
    have r_used := Rp.mono g.ff r_used
    have o_found := o_found.up g
    have o_at_here := o_at_here.up g
    have r_left := Rp.mono g.ff r_left
    exact ⟨_, _, _, _, rfl, G, r_used, o_found, o_at_here, r_left⟩
  ·
    intro b6 o_ hm σ_ F H s1_ s2_ iv_
    obtain ⟨u_pick, u_n, v_used, v_left, rfl, G, r_used, o_found, o_at_here, r_left⟩ := iv_
    have sb8 := L2.Same.refl F
    have r_lists_here := Rp.mono s1_ r_lists_here
    have r_picks_here := Rp.mono s1_ r_picks_here
    change GoS _ _ _ [some v_lists_here, some v_picks_here, some (.ref l_at_here), none, some (.ref l_found), some v_used, some v_left, u_n, u_pick] _
    obtain ⟨x_pick, he, hm⟩ := Option.bind_eq_some_iff.mp hm
    refine go_setA (Int) 8 G.sm ev_int (fun v_pick F H g rn_ => ?_) sc_due.nd
    have G := G.trans g
    have r_lists_here := Rp.mono g.ff r_lists_here
    have r_picks_here := Rp.mono g.ff r_picks_here
    have o_at_here := o_at_here.up g
    have o_found := o_found.up g
    have r_used := Rp.mono g.ff r_used
    have r_left := Rp.mono g.ff r_left
    have sb8 := sb8.trans g.ff
    have r_pick := cg (Option.some.inj he) rn_
    change GoS _ _ _ [some v_lists_here, some v_picks_here, some (.ref l_at_here), none, some (.ref l_found), some v_used, some v_left, u_n, some v_pick] _
    obtain ⟨b9, hj, hm⟩ := Option.bind_eq_some_iff.mp hm
    refine go_ifjA ((decide (b6.1 < (x_picks_here.length : Int)))) (fun σ_ H_ => ∃ (F_ : Hp) (v_pick : V) (v_used : V), L2.Same F F_ ∧ σ_ = [some v_lists_here, some v_picks_here, some (.ref l_at_here), none, some (.ref l_found), some v_used, some v_left, u_n, some v_pick] ∧ GrX K F0 H0 F_ H_ ∧ rp (α := Int) K F_ v_pick b9.1 ∧ rp (α := Int) K F_ v_used b9.2 ∧ Own K H0 F_ H_ l_at_here b6.2.2.1 ∧ Own K H0 F_ H_ l_found b6.2.1) G.sm (et_cmp op_lt o2_lt (ev_varK 5 rfl r_used kv_due_5) (ev_callB call_len_seq oc_lenL T.n_len PySem.boot_len (ea_cons (ev_varK 1 rfl r_picks_here kv_due_1) ea_nil)) (nomark _)) (fun hc F H g => ?_) (fun hc F H g => ?_) (fun σ_ H hP_ => ?_)
    · replace hj := ipos hc hj
      clear hm
      have hm := hj
      clear hj
      have G := G.trans g
      have r_lists_here := Rp.mono g.ff r_lists_here
      have r_picks_here := Rp.mono g.ff r_picks_here
      have o_at_here := o_at_here.up g
      have o_found := o_found.up g
      have r_used := Rp.mono g.ff r_used
      have r_left := Rp.mono g.ff r_left
      have r_pick := Rp.mono g.ff r_pick
      have sb8 := sb8.trans g.ff
      have sj10 := g.ff
      obtain ⟨t11, h_t11, hm⟩ := Option.bind_eq_some_iff.mp hm
      obtain ⟨x_pick, he, hm⟩ := Option.bind_eq_some_iff.mp hm
      refine go_setA (Int) 8 G.sm (ev_ixL (ev_varK 1 rfl r_picks_here kv_due_1) (ev_varK 5 rfl r_used kv_due_5) h_t11) (fun v_pick F H g rn_ => ?_) sc_due.nd
      have G := G.trans g
      have r_lists_here := Rp.mono g.ff r_lists_here
      have r_picks_here := Rp.mono g.ff r_picks_here
      have o_at_here := o_at_here.up g
      have o_found := o_found.up g
      have r_used := Rp.mono g.ff r_used
      have r_left := Rp.mono g.ff r_left
      have sb8 := sb8.trans g.ff
      have sj10 := sj10.trans g.ff
      have r_pick := cg (Option.some.inj he) rn_
      obtain ⟨x_used, he, hm⟩ := Option.bind_eq_some_iff.mp hm
      refine go_setA (Int) 5 G.sm (ev_add (ev_varK 5 rfl r_used kv_due_5) ev_int) (fun v_used F H g rn_ => ?_) sc_due.nd
      have G := G.trans g
      have r_lists_here := Rp.mono g.ff r_lists_here
      have o_at_here := o_at_here.up g
      have o_found := o_found.up g
      have r_left := Rp.mono g.ff r_left
      have r_pick := Rp.mono g.ff r_pick
      have sb8 := sb8.trans g.ff
      have sj10 := sj10.trans g.ff
      have r_used := cg (Option.some.inj he) rn_
      have hm := Option.some.inj hm
      subst hm
      exact GoS.nil ⟨_, _, _, sj10, rfl, G, r_pick, r_used, o_at_here, o_found⟩
    · replace hj := ineg (nt hc) hj
      clear hm
      have hm := hj
      clear hj
      have G := G.trans g
      have r_lists_here := Rp.mono g.ff r_lists_here
      have r_picks_here := Rp.mono g.ff r_picks_here
      have o_at_here := o_at_here.up g
      have o_found := o_found.up g
      have r_used := Rp.mono g.ff r_used
      have r_left := Rp.mono g.ff r_left
      have r_pick := Rp.mono g.ff r_pick
      have sb8 := sb8.trans g.ff
      have sj10 := g.ff
      have hm := Option.some.inj hm
      subst hm
      exact GoS.nil ⟨_, _, _, sj10, rfl, G, r_pick, r_used, o_at_here, o_found⟩
    obtain ⟨F, v_pick, v_used, sj_, rfl, G, r_pick, r_used, o_at_here, o_found⟩ := hP_
    have r_lists_here := Rp.mono sj_ r_lists_here
    have r_left := Rp.mono sj_ r_left
    have sb8 := sb8.trans sj_
    obtain ⟨t12, h_t12, hm⟩ := Option.bind_eq_some_iff.mp hm
    obtain ⟨t13, h_t13, hm⟩ := Option.bind_eq_some_iff.mp hm
    obtain ⟨x_n, he, hm⟩ := Option.bind_eq_some_iff.mp hm
    refine go_setA (Int) 7 G.sm (ev_ixL (ev_varK 6 rfl r_left kv_due_6) (ev_modG (ev_varK 8 rfl r_pick kv_due_8) (ev_callB call_len_seq oc_lenL T.n_len PySem.boot_len (ea_cons (ev_varK 6 rfl r_left kv_due_6) ea_nil)) h_t12) h_t13) (fun v_n F H g rn_ => ?_) sc_due.nd
    have G := G.trans g
    have r_lists_here := Rp.mono g.ff r_lists_here
    have o_at_here := o_at_here.up g
    have o_found := o_found.up g
    have r_used := Rp.mono g.ff r_used
    have r_left := Rp.mono g.ff r_left
    have r_pick := Rp.mono g.ff r_pick
    have sb8 := sb8.trans g.ff
    have r_n := cg (Option.some.inj he) rn_
    change GoS _ _ _ [some v_lists_here, some v_picks_here, some (.ref l_at_here), none, some (.ref l_found), some v_used, some v_left, some v_n, some v_pick] _
    obtain ⟨t14, h_t14, hm⟩ := Option.bind_eq_some_iff.mp hm
    obtain ⟨t15, h_t15, hm⟩ := Option.bind_eq_some_iff.mp hm
    obtain ⟨t16, h_t16, hm⟩ := Option.bind_eq_some_iff.mp hm
    obtain ⟨t17, he, hm⟩ := Option.bind_eq_some_iff.mp hm
    refine go_append 4 G.sm o_found rfl (ev_ixL (ev_ixL (ev_varK 0 rfl r_lists_here kv_due_0) (ev_varK 7 rfl r_n kv_due_7) h_t14) (ev_ixOwn 2 o_at_here rfl (ev_varK 7 rfl r_n kv_due_7) h_t15) h_t16) he (fun w_ F H g nz_ fz_ on_ => ?_)
    have G := G.trans g
    have r_lists_here := Rp.mono g.ff r_lists_here
    have o_at_here := o_at_here.up g
    have r_used := Rp.mono g.ff r_used
    have r_left := Rp.mono g.ff r_left
    have r_n := Rp.mono g.ff r_n
    have sb8 := sb8.trans g.ff
    have G := G.poke (u := w_) on_.n fz_ nz_ on_.pl
    have o_found := on_
    have o_at_here := o_at_here.other (u := w_) (d_at_here_found)
    obtain ⟨t18, h_t18, hm⟩ := Option.bind_eq_some_iff.mp hm
    obtain ⟨t19, he, hm⟩ := Option.bind_eq_some_iff.mp hm
    refine go_setL 2 G.sm o_at_here rfl (ev_add (ev_ixOwn 2 o_at_here rfl (ev_varK 7 rfl r_n kv_due_7) h_t18) ev_int) (ev_varK 7 rfl r_n kv_due_7) he (fun w_ F H g nz_ fz_ on_ => ?_)
    have G := G.trans g
    have r_lists_here := Rp.mono g.ff r_lists_here
    have o_found := o_found.up g
    have r_used := Rp.mono g.ff r_used
    have r_left := Rp.mono g.ff r_left
    have r_n := Rp.mono g.ff r_n
    have sb8 := sb8.trans g.ff
    have G := G.poke (u := w_) on_.n fz_ nz_ on_.pl
    have o_at_here := on_
    have o_found := o_found.other (u := w_) (d_at_here_found.symm)
    obtain ⟨t22, h_t22, hm⟩ := Option.bind_eq_some_iff.mp hm
    obtain ⟨x_left, he, hm⟩ := Option.bind_eq_some_iff.mp hm
    refine go_thawN (α := (List Int)) (xs := t22) (τ := fun l_ => List.set [some v_lists_here, some v_picks_here, some (.ref l_at_here), none, some (.ref l_found), some v_used, some v_left, some v_n, some v_pick] 6 (some (V.ref l_))) o_at_here G.sm (fun F H s_ s2_ rf_ k_ kk0_ => ?_) (fun l_left vs_ F H g nl_ fl_ hl_ rs_ => ?_)
    · skip
      have r_lists_here := Rp.mono s_ r_lists_here
      have r_used := Rp.mono s_ r_used
      have r_left := Rp.mono s_ r_left
      have r_n := Rp.mono s_ r_n
      have rf_at_here := rf_
      first
        | refine go_setLci (own := [("_law_n", 7)]) 6 s2_ sc_due.nd (ei_list (ev_varK 6 rfl r_left kv_due_6)) h_t22 (blkOk_by (N := ["_law_lists_here", "_law_picks_here", "_law_at_here", "_law_one", "_law_found", "_law_used", "_law_left", "_law_n", "_law_pick"]) (sc := defScope s_due) (by decide +kernel)) (fun _ _ _ _ _ => (pg_name (i := 7) sc_due.nd rfl (by first | exact Or.inl rfl | exact Or.inr rfl))) (fun x_n o_ hm F H v_n g r_n Q hQ => by
            have r_lists_here := Rp.mono g.ff r_lists_here
            have r_left := Rp.mono g.ff r_left
            have rf_at_here := Rp.mono g.ff rf_at_here
            refine hQ _ rfl ?_
            obtain ⟨t20, h_t20, hm⟩ := Option.bind_eq_some_iff.mp hm
            obtain ⟨t21, h_t21, hm⟩ := Option.bind_eq_some_iff.mp hm
            refine ⟨_, fun s_ H_ C_ cl_ fp_ => (et_cmp op_lt o2_lt (ev_ixL (ev_var 2 rfl rf_at_here) (ev_var 7 rfl r_n) h_t20) (ev_callB call_len_seq oc_lenL T.n_len PySem.boot_len (ea_cons (ev_ixL (ev_var 0 rfl r_lists_here) (ev_var 7 rfl r_n) h_t21) ea_nil)) (nomark _)), fun hc => ?_, fun hc => ?_⟩
            · replace hm := ipos hc hm
              exact ⟨_, (Option.some.inj hm).symm, fun s_ H_ C_ cl_ fp_ => (ev_var 7 rfl r_n)⟩
            · replace hm := ineg (nt hc) hm
              exact (Option.some.inj hm).symm) kk0_
        | refine go_setN 6 s2_ (en_compi (own := [("_law_n", 7)]) sc_due.nd (ei_list (ev_varK 6 rfl r_left kv_due_6)) h_t22 (blkOk_by (N := ["_law_lists_here", "_law_picks_here", "_law_at_here", "_law_one", "_law_found", "_law_used", "_law_left", "_law_n", "_law_pick"]) (sc := defScope s_due) (by decide +kernel)) (fun _ _ _ _ _ => (pg_name (i := 7) sc_due.nd rfl (by first | exact Or.inl rfl | exact Or.inr rfl))) (fun x_n o_ hm F H v_n g r_n Q hQ => by
            have r_lists_here := Rp.mono g.ff r_lists_here
            have r_left := Rp.mono g.ff r_left
            have rf_at_here := Rp.mono g.ff rf_at_here
            refine hQ _ rfl ?_
            obtain ⟨t20, h_t20, hm⟩ := Option.bind_eq_some_iff.mp hm
            obtain ⟨t21, h_t21, hm⟩ := Option.bind_eq_some_iff.mp hm
            refine ⟨_, fun s_ H_ C_ cl_ fp_ => (et_cmp op_lt o2_lt (ev_ixL (ev_var 2 rfl rf_at_here) (ev_var 7 rfl r_n) h_t20) (ev_callB call_len_seq oc_lenL T.n_len PySem.boot_len (ea_cons (ev_ixL (ev_var 0 rfl r_lists_here) (ev_var 7 rfl r_n) h_t21) ea_nil)) (nomark _)), fun hc => ?_, fun hc => ?_⟩
            · replace hm := ipos hc hm
              exact ⟨_, (Option.some.inj hm).symm, fun s_ H_ C_ cl_ fp_ => (ev_var 7 rfl r_n)⟩
            · replace hm := ineg (nt hc) hm
              exact (Option.some.inj hm).symm)) kk0_ sc_due.nd
    have d_at_here_left : l_at_here ≠ l_left := fun e_ => o_at_here.ne0 (e_.symm ▸ nl_)
    have d_found_left : l_found ≠ l_left := fun e_ => o_found.ne0 (e_.symm ▸ nl_)
    have n0_ := G.hh.free nl_
    have G := G.trans g
    have r_lists_here := Rp.mono g.ff r_lists_here
    have o_at_here := o_at_here.up g
    have o_found := o_found.up g
    have r_used := Rp.mono g.ff r_used
    have r_n := Rp.mono g.ff r_n
    have sb8 := sb8.trans g.ff
    have o_left : Own K _ F H l_left _ := Own.cg (Option.some.inj he) ⟨n0_, fl_, vs_, hl_, rs_⟩
    refine o_left.freeze G (fun F H s_ s2_ G r_left k_ => ?_)
    have r_lists_here := Rp.mono s_ r_lists_here
    have o_at_here := o_at_here.keepF (d_at_here_left) s_ k_
    have o_found := o_found.keepF (d_found_left) s_ k_
    have r_used := Rp.mono s_ r_used
    have r_n := Rp.mono s_ r_n
    have sb8 := sb8.trans s_
    have hm := Option.some.inj hm
    subst hm
    exact GoS.nil ⟨_, sb8, G.fh, ⟨_, _, _, _, rfl, G, r_used, o_found, o_at_here, r_left⟩⟩
  · intro σ_ F H s1_ s2_ iv_
    obtain ⟨u_pick, u_n, v_used, v_left, rfl, G, r_used, o_found, o_at_here, r_left⟩ := iv_
    have r_lists_here := Rp.mono s1_ r_lists_here
    change GoS _ _ _ [some v_lists_here, some v_picks_here, some (.ref l_at_here), none, some (.ref l_found), some v_used, some v_left, u_n, u_pick] _
    obtain ⟨b31, ho_, hm⟩ := Option.bind_eq_some_iff.mp hm
    refine go_forN G.sm (ei_list (ev_varK 6 rfl r_left kv_due_6)) (pg_name (i := 7) sc_due.nd rfl (by first | exact Or.inl rfl | exact Or.inr rfl)) ho_ (fun F H g => ?_) PassesOwn.never
    have G := G.trans g
    have r_lists_here := Rp.mono g.ff r_lists_here
    have o_at_here := o_at_here.up g
    have o_found := o_found.up g
    have r_used := Rp.mono g.ff r_used
    refine ⟨fun (b24 : (List Dy)) σ_ F_ H_ => ∃ (u_n : Option V), σ_ = [some v_lists_here, some v_picks_here, some (.ref l_at_here), none, some (.ref l_found), some v_used, some v_left, u_n, u_pick] ∧ GrX K F0 H0 F_ H_ ∧ Own K H0 F_ H_ l_found b24 ∧ Own K H0 F_ H_ l_at_here b23.2.2.1, ⟨_, rfl, G, o_found, o_at_here⟩, ?_, ?_⟩
    ·
      intro b24 x_n o_ hm σ_ F H v_n s1_ s2_ iv_ F H g r_n Q_ hQ_
      obtain ⟨u_n, rfl, G, o_found, o_at_here⟩ := iv_
      have sb27 := g.ff
      have r_lists_here := Rp.mono s1_ r_lists_here
      have G := G.trans g
      have r_lists_here := Rp.mono g.ff r_lists_here
      have o_at_here := o_at_here.up g
      have o_found := o_found.up g
      refine hQ_ _ _ ?_
      change GoS _ _ _ [some v_lists_here, some v_picks_here, some (.ref l_at_here), none, some (.ref l_found), some v_used, some v_left, some v_n, u_pick] _
      obtain ⟨t28, h_t28, hm⟩ := Option.bind_eq_some_iff.mp hm
      obtain ⟨t29, h_t29, hm⟩ := Option.bind_eq_some_iff.mp hm
      obtain ⟨t30, h_t30, hm⟩ := Option.bind_eq_some_iff.mp hm
      refine go_exprM (ρ := Unit) (β := (List Dy)) G.sm (em_extend 4 o_found rfl (EvN.evA ((List Dy)) (en_slice (ev_ixL (ev_varK 0 rfl r_lists_here kv_due_0) (ev_varK 7 rfl r_n kv_due_7) h_t28) (eo_some (ev_ixOwn 2 o_at_here rfl (ev_varK 7 rfl r_n kv_due_7) h_t29)) eo_none)) h_t30) (fun F H ob_ g fl_ hl_ rb_ => ?_)
      have Gm_ := G.over o_found.n g o_found.pl
      have r_lists_here := Rp.mono g.ff r_lists_here
      have o_at_here := o_at_here.over (d_at_here_found) g
      have r_n := Rp.mono g.ff r_n
      have sb27 := sb27.trans g.ff
      have G := Gm_
      have o_found := Own.mk' o_found.n fl_ hl_ rb_
      have hm := Option.some.inj hm
      subst hm
      exact GoS.nil ⟨_, sb27, G.fh, ⟨_, rfl, G, o_found, o_at_here⟩⟩
    · intro σ_ F H s1_ s2_ iv_
      obtain ⟨u_n, rfl, G, o_found, o_at_here⟩ := iv_
      have r_used := Rp.mono s1_ r_used
      refine o_found.freeze G (fun F H s_ s2_ G r_found k_ => ?_)
      have o_at_here := o_at_here.keepF (d_at_here_found) s_ k_
      have r_used := Rp.mono s_ r_used
      exact go_ret G.sm (ev_tup2 (ea_cons (ev_varK 4 rfl r_found kv_due_4) (ea_cons (ev_varK 5 rfl r_used kv_due_5) ea_nil))) fun v_ F_ H_ g_ rv_ => kr _ _ _ (G.trans g_) (cg (Option.some.inj hm) rv_)
/-! woven -/
theorem sc_woven : FnScope ["lists", "picks", "left", "one", "found", "used", "at", "rest"] ["lists", "picks"] (defScope s_woven) := ⟨rfl, rfl, rfl, by decide +kernel, rfl, by decide +kernel, by decide +kernel⟩
theorem b_woven (T : Txt K mg) : Binds K T.d_woven ["lists", "picks"] [] := T.F_woven.bindsN fun _ _ _ _ _ _ us hl => match us, hl with | [_, _], _ => rfl
theorem kv_woven_0 : VKn (defScope s_woven) "lists" := ⟨by first | exact Or.inl (by decide +kernel) | exact Or.inr (Or.inl (by decide +kernel)) | exact Or.inr (Or.inr (by decide +kernel)), by decide, by decide⟩
theorem kv_woven_1 : VKn (defScope s_woven) "picks" := ⟨by first | exact Or.inl (by decide +kernel) | exact Or.inr (Or.inl (by decide +kernel)) | exact Or.inr (Or.inr (by decide +kernel)), by decide, by decide⟩
theorem kv_woven_2 : VKn (defScope s_woven) "left" := ⟨by first | exact Or.inl (by decide +kernel) | exact Or.inr (Or.inl (by decide +kernel)) | exact Or.inr (Or.inr (by decide +kernel)), by decide, by decide⟩
theorem kv_woven_5 : VKn (defScope s_woven) "used" := ⟨by first | exact Or.inl (by decide +kernel) | exact Or.inr (Or.inl (by decide +kernel)) | exact Or.inr (Or.inr (by decide +kernel)), by decide, by decide⟩
theorem kv_woven_6 : VKn (defScope s_woven) "at" := ⟨by first | exact Or.inl (by decide +kernel) | exact Or.inr (Or.inl (by decide +kernel)) | exact Or.inr (Or.inr (by decide +kernel)), by decide, by decide⟩
theorem kv_woven_7 : VKn (defScope s_woven) "rest" := ⟨by first | exact Or.inl (by decide +kernel) | exact Or.inr (Or.inl (by decide +kernel)) | exact Or.inr (Or.inr (by decide +kernel)), by decide, by decide⟩
theorem ok_woven (T : Txt K mg) : FnOk P w K mg base CX0 1 (He.fAd K ("woven", none)) T.d_woven ["lists", "picks"] (PrC1 K fun (a_ : (List (List Dy)) × (List Int) × Unit) => m_woven a_.1 a_.2.1) := by
  refine fn_okC1 T.F_woven sc_woven rfl fun cdv A outer s_ F0 H0 vs a_ r D_ E_ hr sm_ ra_ hm kr _ => ?_
  obtain ⟨v_lists, _, rfl, r_lists, v_picks, _, rfl, r_picks, rfl⟩ := ra_
  obtain ⟨x_lists, x_picks, _u⟩ := a_
  have G : GrX K F0 H0 F0 H0 := .refl sm_
  replace hm : m_woven x_lists x_picks = some r := hm
  unfold m_woven at hm
  have r_lists : rp (α := (List (List Dy))) K F0 v_lists x_lists := r_lists
  have r_picks : rp (α := (List Int)) K F0 v_picks x_picks := r_picks
  change GoS _ _ _ [some v_lists, some v_picks, none, none, none, none, none, none] _
  obtain ⟨t1, h_t1, hm⟩ := Option.bind_eq_some_iff.mp hm
  obtain ⟨x_left, he, hm⟩ := Option.bind_eq_some_iff.mp hm
  first
    | refine go_setLc2i (own := [("one", 3)]) 2 G.sm sc_woven.nd (ei_list (ev_varK 0 rfl r_lists kv_woven_0)) h_t1 (blkOk_by (N := ["lists", "picks", "left", "one", "found", "used", "at", "rest"]) (sc := defScope s_woven) (by decide +kernel)) (fun _ _ _ _ _ => (pg_name (i := 3) sc_woven.nd rfl (by first | exact Or.inl rfl | exact Or.inr rfl))) (fun x_one o_ hm F H v_one g r_one Q hQ => by
          have r_lists := Rp.mono g.ff r_lists
          refine hQ _ rfl ?_
          refine ⟨_, fun s_ H_ C_ cl_ fp_ => (et_cmp (op_neE hr.units0) o2_neEL (ev_var 3 rfl r_one) (EvN.evA ((List Dy)) (en_list el_nil (Nat.zero_le _))) (nomark _)), fun hc => ?_, fun hc => ?_⟩
          · replace hm := ipos hc hm
            exact ⟨_, (Option.some.inj hm).symm, fun s_ H_ C_ cl_ fp_ => (en_list_of T.n_list (ev_var 3 rfl r_one))⟩
          · replace hm := ineg (nt hc) hm
            exact (Option.some.inj hm).symm) (fun l_left F H g on_ => ?_)
    | refine go_setN2 2 G.sm (en_comp2i (own := [("one", 3)]) sc_woven.nd (ei_list (ev_varK 0 rfl r_lists kv_woven_0)) h_t1 (blkOk_by (N := ["lists", "picks", "left", "one", "found", "used", "at", "rest"]) (sc := defScope s_woven) (by decide +kernel)) (fun _ _ _ _ _ => (pg_name (i := 3) sc_woven.nd rfl (by first | exact Or.inl rfl | exact Or.inr rfl))) (fun x_one o_ hm F H v_one g r_one Q hQ => by
          have r_lists := Rp.mono g.ff r_lists
          refine hQ _ rfl ?_
          refine ⟨_, fun s_ H_ C_ cl_ fp_ => (et_cmp (op_neE hr.units0) o2_neEL (ev_var 3 rfl r_one) (EvN.evA ((List Dy)) (en_list el_nil (Nat.zero_le _))) (nomark _)), fun hc => ?_, fun hc => ?_⟩
          · replace hm := ipos hc hm
            exact ⟨_, (Option.some.inj hm).symm, fun s_ H_ C_ cl_ fp_ => (en_list_of T.n_list (ev_var 3 rfl r_one))⟩
          · replace hm := ineg (nt hc) hm
            exact (Option.some.inj hm).symm)) (fun l_left F H g on_ => ?_) sc_woven.nd
  have o_left := Own2.cg (Option.some.inj he) (on_.base fun _ => G.hh.free)
  have G := G.trans g
  have r_lists := Rp.mono g.ff r_lists
  have r_picks := Rp.mono g.ff r_picks
  change GoS _ _ _ [some v_lists, some v_picks, some (.ref l_left), none, none, none, none, none] _
  obtain ⟨x_found, he, hm⟩ := Option.bind_eq_some_iff.mp hm
  refine go_setNA ((List Dy)) 4 G.sm (en_list el_nil (Nat.zero_le _)) (fun l_found vs_ F H g nl_ fl_ hl_ rs_ => ?_) sc_woven.nd
  have d_found_left : l_found ≠ l_left := fun e_ => o_left.ne0 (e_ ▸ nl_)
  have n0_ := G.hh.free nl_
  have o_left := o_left.ext nl_
  have G := G.trans g
  have r_picks := Rp.mono g.ff r_picks
  have o_left := o_left.up g
  have o_found : Own K _ F H l_found _ := Own.cg (Option.some.inj he) ⟨n0_, fl_, vs_, hl_, rs_⟩
  change GoS _ _ _ [some v_lists, some v_picks, some (.ref l_left), none, some (.ref l_found), none, none, none] _
  obtain ⟨x_used, he, hm⟩ := Option.bind_eq_some_iff.mp hm
  refine go_setA (Int) 5 G.sm ev_int (fun v_used F H g rn_ => ?_) sc_woven.nd
  have G := G.trans g
  have r_picks := Rp.mono g.ff r_picks
  have o_left := o_left.up g
  have o_found := o_found.up g
  have r_used := cg (Option.some.inj he) rn_
  change GoS _ _ _ [some v_lists, some v_picks, some (.ref l_left), none, some (.ref l_found), some v_used, none, none] _
  obtain ⟨b14, ho_, hm⟩ := Option.bind_eq_some_iff.mp hm
  refine go_whileN (b0 := (x_used, x_found, x_left)) (fun (b2 : (Int × (List Dy) × (List (List Dy)))) σ_ F_ H_ => ∃ (u_at : Option V) (v_used : V), σ_ = [some v_lists, some v_picks, some (.ref l_left), none, some (.ref l_found), some v_used, u_at, none] ∧ GrX K F0 H0 F_ H_ ∧ rp (α := Int) K F_ v_used b2.1 ∧ Own K H0 F_ H_ l_found b2.2.1 ∧ Own2 K H0 F_ H_ l_left [l_found] b2.2.2) G.sm ⟨_, _, rfl, G, r_used, o_found, o_left⟩ ho_ ?_ ?_ ?_ PassesOwn.never
  ·
    intro b2 t_ hm σ_ F H s1_ s2_ iv_
    obtain ⟨u_at, v_used, rfl, G, r_used, o_found, o_left⟩ := iv_
    have r_picks := Rp.mono s1_ r_picks
    refine ⟨G.sm, EvT.cg (Option.some.inj hm) (et_thaw2 o_left G.fh (fun F H s_ s2_ rf_ k_ => by
            have r_picks := Rp.mono s_ r_picks
            have r_used := Rp.mono s_ r_used
            have rf_left := rf_
            exact (et_cmp op_gt o2_gt (ev_callB call_len_seq oc_lenL T.n_len PySem.boot_len (ea_cons (ev_var 2 rfl rf_left) ea_nil)) ev_int (nomark _)))), fun F H g => ?_⟩
    have G := G.trans g
    have r_used := Rp.mono g.ff r_used
    have o_found := o_found.up g
    have o_left := o_left.up g
    exact ⟨_, _, rfl, G, r_used, o_found, o_left⟩
  ·
    intro b2 o_ hm σ_ F H s1_ s2_ iv_
    obtain ⟨u_at, v_used, rfl, G, r_used, o_found, o_left⟩ := iv_
    have sb4 := L2.Same.refl F
    have r_picks := Rp.mono s1_ r_picks
    change GoS _ _ _ [some v_lists, some v_picks, some (.ref l_left), none, some (.ref l_found), some v_used, u_at, none] _
    obtain ⟨x_at, he, hm⟩ := Option.bind_eq_some_iff.mp hm
    refine go_setA (Int) 6 G.sm ev_int (fun v_at F H g rn_ => ?_) sc_woven.nd
    have G := G.trans g
    have r_picks := Rp.mono g.ff r_picks
    have o_left := o_left.up g
    have o_found := o_found.up g
    have r_used := Rp.mono g.ff r_used
    have sb4 := sb4.trans g.ff
    have r_at := cg (Option.some.inj he) rn_
    change GoS _ _ _ [some v_lists, some v_picks, some (.ref l_left), none, some (.ref l_found), some v_used, some v_at, none] _
    obtain ⟨b5, hj, hm⟩ := Option.bind_eq_some_iff.mp hm
    refine go_ifjA ((decide (b2.1 < (x_picks.length : Int)))) (fun σ_ H_ => ∃ (F_ : Hp) (v_at : V) (v_used : V), L2.Same F F_ ∧ σ_ = [some v_lists, some v_picks, some (.ref l_left), none, some (.ref l_found), some v_used, some v_at, none] ∧ GrX K F0 H0 F_ H_ ∧ rp (α := Int) K F_ v_at b5.1 ∧ rp (α := Int) K F_ v_used b5.2 ∧ Own2 K H0 F_ H_ l_left [l_found] b2.2.2 ∧ Own K H0 F_ H_ l_found b2.2.1) G.sm (et_cmp op_lt o2_lt (ev_varK 5 rfl r_used kv_woven_5) (ev_callB call_len_seq oc_lenL T.n_len PySem.boot_len (ea_cons (ev_varK 1 rfl r_picks kv_woven_1) ea_nil)) (nomark _)) (fun hc F H g => ?_) (fun hc F H g => ?_) (fun σ_ H hP_ => ?_)
    · replace hj := ipos hc hj
      clear hm
      have hm := hj
      clear hj
      have G := G.trans g
      have r_picks := Rp.mono g.ff r_picks
      have o_left := o_left.up g
      have o_found := o_found.up g
      have r_used := Rp.mono g.ff r_used
      have r_at := Rp.mono g.ff r_at
      have sb4 := sb4.trans g.ff
      have sj6 := g.ff
      obtain ⟨t7, h_t7, hm⟩ := Option.bind_eq_some_iff.mp hm
      obtain ⟨t8, h_t8, hm⟩ := Option.bind_eq_some_iff.mp hm
      obtain ⟨x_at, he, hm⟩ := Option.bind_eq_some_iff.mp hm
      refine go_setA (Int) 6 G.sm (ev_thaw2 o_left G.fh (fun F H s_ s2_ rf_ k_ => by
              have r_picks := Rp.mono s_ r_picks
              have r_used := Rp.mono s_ r_used
              have r_at := Rp.mono s_ r_at
              have rf_left := rf_
              exact (ev_modG (ev_ixL (ev_varK 1 rfl r_picks kv_woven_1) (ev_varK 5 rfl r_used kv_woven_5) h_t7) (ev_callB call_len_seq oc_lenL T.n_len PySem.boot_len (ea_cons (ev_var 2 rfl rf_left) ea_nil)) h_t8))) (fun v_at F H g rn_ => ?_) sc_woven.nd
      have G := G.trans g
      have r_picks := Rp.mono g.ff r_picks
      have o_left := o_left.up g
      have o_found := o_found.up g
      have r_used := Rp.mono g.ff r_used
      have sb4 := sb4.trans g.ff
      have sj6 := sj6.trans g.ff
      have r_at := cg (Option.some.inj he) rn_
      obtain ⟨t9, he, hm⟩ := Option.bind_eq_some_iff.mp hm
      refine go_augA (i := 5) G.sm rfl r_used ev_int (fun v_used F H g rn_ => ?_) sc_woven.nd
      have G := G.trans g
      have o_left := o_left.up g
      have o_found := o_found.up g
      have r_at := Rp.mono g.ff r_at
      have sb4 := sb4.trans g.ff
      have sj6 := sj6.trans g.ff
      have r_used := cg (Option.some.inj he) rn_
      have hm := Option.some.inj hm
      subst hm
      exact GoS.nil ⟨_, _, _, sj6, rfl, G, r_at, r_used, o_left, o_found⟩
    · replace hj := ineg (nt hc) hj
      clear hm
      have hm := hj
      clear hj
      have G := G.trans g
      have r_picks := Rp.mono g.ff r_picks
      have o_left := o_left.up g
      have o_found := o_found.up g
      have r_used := Rp.mono g.ff r_used
      have r_at := Rp.mono g.ff r_at
      have sb4 := sb4.trans g.ff
      have sj6 := g.ff
      have hm := Option.some.inj hm
      subst hm
      exact GoS.nil ⟨_, _, _, sj6, rfl, G, r_at, r_used, o_left, o_found⟩
    obtain ⟨F, v_at, v_used, sj_, rfl, G, r_at, r_used, o_left, o_found⟩ := hP_
    have sb4 := sb4.trans sj_
    obtain ⟨t10, h_t10, hm⟩ := Option.bind_eq_some_iff.mp hm
    obtain ⟨t11, he, hm⟩ := Option.bind_eq_some_iff.mp hm
    refine go_appPop2 2 4 G.sm o_left o_found (.head _) rfl rfl (ev_varK 6 rfl r_at kv_woven_6) ev_int h_t10 he (fun p_ w1_ w2_ F H g n0_ pl_ f0_ pl2_ ne_ plA_ f2_ on_ on2_ => ?_)
    have G := G.trans g
    have r_used := Rp.mono g.ff r_used
    have r_at := Rp.mono g.ff r_at
    have sb4 := sb4.trans g.ff
    have G := (G.poke (u := w1_) n0_ f0_ pl_ pl2_).poke (u := w2_) on2_.n f2_ plA_ on2_.pl
    have o_left := on_
    have o_found := on2_
    obtain ⟨t12, h_t12, hm⟩ := Option.bind_eq_some_iff.mp hm
    refine go_ifA (t12.isEmpty) G.sm (et_thaw2 o_left G.fh (fun F H s_ s2_ rf_ k_ => by
            have r_used := Rp.mono s_ r_used
            have r_at := Rp.mono s_ r_at
            have rf_left := rf_
            exact (et_cmp (op_eqE hr.units0) o2_eqEL (ev_ixL (ev_var 2 rfl rf_left) (ev_varK 6 rfl r_at kv_woven_6) h_t12) (EvN.evA ((List Dy)) (en_list el_nil (Nat.zero_le _))) (nomark _)))) (fun hc F H g => ?_) (fun hc F H g => ?_)
    · replace hm := ipos hc hm
      have G := G.trans g
      have o_left := o_left.up g
      have o_found := o_found.up g
      have r_used := Rp.mono g.ff r_used
      have r_at := Rp.mono g.ff r_at
      have sb4 := sb4.trans g.ff
      obtain ⟨t13, h_t13, hm⟩ := Option.bind_eq_some_iff.mp hm
      refine go_pop22 2 G.sm o_left rfl (ev_varK 6 rfl r_at kv_woven_6) h_t13 (fun w_ F H g n0_ pl_ f0_ pl2_ ne_ on_ => ?_)
      have G := G.trans g
      have o_found := o_found.up g
      have r_used := Rp.mono g.ff r_used
      have r_at := Rp.mono g.ff r_at
      have sb4 := sb4.trans g.ff
      have G := G.poke (u := w_) n0_ f0_ pl_ pl2_
      have o_left := on_
      have o_found := o_found.other (u := w_) (ne_ _ (.head _))
      refine GoS.nil ?_
      have hm := Option.some.inj hm
      subst hm
      exact GoS.nil ⟨_, sb4, G.fh, ⟨_, _, rfl, G, r_used, o_found, o_left⟩⟩
    · replace hm := ineg (nt hc) hm
      have G := G.trans g
      have o_left := o_left.up g
      have o_found := o_found.up g
      have r_used := Rp.mono g.ff r_used
      have r_at := Rp.mono g.ff r_at
      have sb4 := sb4.trans g.ff
      refine GoS.nil ?_
      have hm := Option.some.inj hm
      subst hm
      exact GoS.nil ⟨_, sb4, G.fh, ⟨_, _, rfl, G, r_used, o_found, o_left⟩⟩
  · intro σ_ F H s1_ s2_ iv_
    obtain ⟨u_at, v_used, rfl, G, r_used, o_found, o_left⟩ := iv_
    refine o_left.freeze G (fun F H s_ s2_ G r_left k_ => ?_)
    have o_found := o_found.keepX s_ (k_ _ (.head _))
    have r_used := Rp.mono s_ r_used
    obtain ⟨b20, ho_, hm⟩ := Option.bind_eq_some_iff.mp hm
    refine go_forN G.sm (ei_list (ev_varK 2 rfl r_left kv_woven_2)) (pg_name (i := 7) sc_woven.nd rfl (by first | exact Or.inl rfl | exact Or.inr rfl)) ho_ (fun F H g => ?_) PassesOwn.never
    have G := G.trans g
    have o_found := o_found.up g
    have r_used := Rp.mono g.ff r_used
    refine ⟨fun (b15 : (List Dy)) σ_ F_ H_ => ∃ (u_rest : Option V), σ_ = [some v_lists, some v_picks, some (.ref l_left), none, some (.ref l_found), some v_used, u_at, u_rest] ∧ GrX K F0 H0 F_ H_ ∧ Own K H0 F_ H_ l_found b15, ⟨_, rfl, G, o_found⟩, ?_, ?_⟩
    ·
      intro b15 x_rest o_ hm σ_ F H v_rest s1_ s2_ iv_ F H g r_rest Q_ hQ_
      obtain ⟨u_rest, rfl, G, o_found⟩ := iv_
      have sb18 := g.ff
      have G := G.trans g
      have o_found := o_found.up g
      refine hQ_ _ _ ?_
      change GoS _ _ _ [some v_lists, some v_picks, some (.ref l_left), none, some (.ref l_found), some v_used, u_at, some v_rest] _
      obtain ⟨t19, h_t19, hm⟩ := Option.bind_eq_some_iff.mp hm
      refine go_exprM (ρ := Unit) (β := (List Dy)) G.sm (em_extend 4 o_found rfl (ev_varK 7 rfl r_rest kv_woven_7) h_t19) (fun F H ob_ g fl_ hl_ rb_ => ?_)
      have Gm_ := G.over o_found.n g o_found.pl
      have r_rest := Rp.mono g.ff r_rest
      have sb18 := sb18.trans g.ff
      have G := Gm_
      have o_found := Own.mk' o_found.n fl_ hl_ rb_
      have hm := Option.some.inj hm
      subst hm
      exact GoS.nil ⟨_, sb18, G.fh, ⟨_, rfl, G, o_found⟩⟩
    · intro σ_ F H s1_ s2_ iv_
      obtain ⟨u_rest, rfl, G, o_found⟩ := iv_
      have r_used := Rp.mono s1_ r_used
      change GoS _ _ _ [some v_lists, some v_picks, some (.ref l_left), none, some (.ref l_found), some v_used, u_at, u_rest] _
      obtain rfl := Option.some.inj hm
      exact go_retC1 (α := Int) (γ := Dy) 4 G.sm o_found rfl (ev_varK 5 rfl r_used kv_woven_5) fun u_ ob_ F_ H_ g_ n_ f_ h_ b_ c_ => kr _ _ _ _ _ (G.trans g_) n_ f_ h_ b_ c_
/-! law -/
theorem sc_law : FnScope ["_law_script", "_law_lists_here", "_law_picks_here", "_law_due_here", "_law_handed", "_law_one", "_law_given", "_law_found"] ["_law_script"] (defScope s_law) := ⟨rfl, rfl, rfl, by decide +kernel, rfl, by decide +kernel, by decide +kernel⟩
theorem b_law (T : Txt K mg) : Binds K T.d_law ["_law_script"] [] := T.F_law.bindsN fun _ _ _ _ _ _ us hl => match us, hl with | [_], _ => rfl
theorem kv_law_0 : VKn (defScope s_law) "_law_script" := ⟨by first | exact Or.inl (by decide +kernel) | exact Or.inr (Or.inl (by decide +kernel)) | exact Or.inr (Or.inr (by decide +kernel)), by decide, by decide⟩
theorem kv_law_1 : VKn (defScope s_law) "_law_lists_here" := ⟨by first | exact Or.inl (by decide +kernel) | exact Or.inr (Or.inl (by decide +kernel)) | exact Or.inr (Or.inr (by decide +kernel)), by decide, by decide⟩
theorem kv_law_2 : VKn (defScope s_law) "_law_picks_here" := ⟨by first | exact Or.inl (by decide +kernel) | exact Or.inr (Or.inl (by decide +kernel)) | exact Or.inr (Or.inr (by decide +kernel)), by decide, by decide⟩
theorem kv_law_3 : VKn (defScope s_law) "_law_due_here" := ⟨by first | exact Or.inl (by decide +kernel) | exact Or.inr (Or.inl (by decide +kernel)) | exact Or.inr (Or.inr (by decide +kernel)), by decide, by decide⟩
theorem kv_law_4 : VKn (defScope s_law) "_law_handed" := ⟨by first | exact Or.inl (by decide +kernel) | exact Or.inr (Or.inl (by decide +kernel)) | exact Or.inr (Or.inr (by decide +kernel)), by decide, by decide⟩
theorem kv_law_6 : VKn (defScope s_law) "_law_given" := ⟨by first | exact Or.inl (by decide +kernel) | exact Or.inr (Or.inl (by decide +kernel)) | exact Or.inr (Or.inr (by decide +kernel)), by decide, by decide⟩
theorem kv_law_7 : VKn (defScope s_law) "_law_found" := ⟨by first | exact Or.inl (by decide +kernel) | exact Or.inr (Or.inl (by decide +kernel)) | exact Or.inr (Or.inr (by decide +kernel)), by decide, by decide⟩
theorem gl_law_due : (defScope s_law).names.lookup ("_law_due" : Str) = some NameKind.globalImplicit := by decide +kernel
theorem gl_law_lists : (defScope s_law).names.lookup ("_law_lists" : Str) = some NameKind.globalImplicit := by decide +kernel
theorem gl_law_picks : (defScope s_law).names.lookup ("_law_picks" : Str) = some NameKind.globalImplicit := by decide +kernel
theorem gl_law_woven : (defScope s_law).names.lookup ("woven" : Str) = some NameKind.globalImplicit := by decide +kernel
theorem ok_law (T : Txt K mg) : TopOk P w K mg base (He.fAd K ("law", none)) T.d_law ["_law_script"] (Pr K fun (a_ : (List Int) × Unit) => m_law a_.1) := by
  refine top_ok (k := 2) T.F_law sc_law rfl ⟨rfl, by decide, by decide⟩ fun cdv A outer s_ F0 H0 vs a_ r D_ E_ hr hgd_ sm_ ra_ hm kr kn => ?_
  obtain ⟨v_script, _, rfl, r_script, rfl⟩ := ra_
  obtain ⟨x_script, _u⟩ := a_
  have G : GrX K F0 H0 F0 H0 := .refl sm_
  replace hm : m_law x_script = some r := hm
  unfold m_law at hm
  have r_script : rp (α := (List Int)) K F0 v_script x_script := r_script
  change GoS _ _ _ [some v_script, none, none, none, none, none, none, none] _
  obtain ⟨t1, h_t1, hm⟩ := Option.bind_eq_some_iff.mp hm
  obtain ⟨x_lists_here, he, hm⟩ := Option.bind_eq_some_iff.mp hm
  refine go_setA ((List (List Dy))) 1 G.sm (ev_call (ok_lists T) (hr.mono (by omega)) T.g_lists T.F_lists.kp (b_lists T) (ea_cons (ev_varK 0 rfl r_script kv_law_0) ea_nil) h_t1 gl_law_lists) (fun v_lists_here F H g rn_ => ?_) sc_law.nd
  have G := G.trans g
  have r_script := Rp.mono g.ff r_script
  have r_lists_here := cg (Option.some.inj he) rn_
  change GoS _ _ _ [some v_script, some v_lists_here, none, none, none, none, none, none] _
  obtain ⟨t2, h_t2, hm⟩ := Option.bind_eq_some_iff.mp hm
  obtain ⟨x_picks_here, he, hm⟩ := Option.bind_eq_some_iff.mp hm
  refine go_setA ((List Int)) 2 G.sm (ev_call (ok_picks T) (hr.mono (by omega)) T.g_picks T.F_picks.kp (b_picks T) (ea_cons (ev_varK 0 rfl r_script kv_law_0) ea_nil) h_t2 gl_law_picks) (fun v_picks_here F H g rn_ => ?_) sc_law.nd
  have G := G.trans g
  have r_script := Rp.mono g.ff r_script
  have r_lists_here := Rp.mono g.ff r_lists_here
  have r_picks_here := cg (Option.some.inj he) rn_
  change GoS _ _ _ [some v_script, some v_lists_here, some v_picks_here, none, none, none, none, none] _
  obtain ⟨t3, h_t3, hm⟩ := Option.bind_eq_some_iff.mp hm
  obtain ⟨t4, h_t4, hm⟩ := Option.bind_eq_some_iff.mp hm
  obtain ⟨x_due_here, he, hm⟩ := Option.bind_eq_some_iff.mp hm
  refine go_setA (Str) 3 G.sm (ev_callB (call_repr hgd_ hr) (oc_repr h_t4) T.n_repr (by decide +kernel) (ea_cons (ev_call (ok_due T) (hr.mono (by omega)) T.g_due T.F_due.kp (b_due T) (ea_cons (ev_varK 1 rfl r_lists_here kv_law_1) (ea_cons (ev_varK 2 rfl r_picks_here kv_law_2) ea_nil)) h_t3 gl_law_due) ea_nil)) (fun v_due_here F H g rn_ => ?_) sc_law.nd
  have G := G.trans g
  have r_lists_here := Rp.mono g.ff r_lists_here
  have r_picks_here := Rp.mono g.ff r_picks_here
  have r_due_here := cg (Option.some.inj he) rn_
  change GoS _ _ _ [some v_script, some v_lists_here, some v_picks_here, some v_due_here, none, none, none, none] _
  obtain ⟨t5, h_t5, hm⟩ := Option.bind_eq_some_iff.mp hm
  obtain ⟨x_handed, he, hm⟩ := Option.bind_eq_some_iff.mp hm
  first
    | refine go_setLc (own := [("_law_one", 5)]) 4 G.sm sc_law.nd (ei_list (ev_varK 1 rfl r_lists_here kv_law_1)) h_t5 (blkOk_by (N := ["_law_script", "_law_lists_here", "_law_picks_here", "_law_due_here", "_law_handed", "_law_one", "_law_given", "_law_found"]) (sc := defScope s_law) (by decide +kernel)) (fun _ _ _ _ _ => (pg_name (i := 5) sc_law.nd rfl (by first | exact Or.inl rfl | exact Or.inr rfl))) (fun x_one o_ hm F H v_one g r_one Q hQ => by
          have r_lists_here := Rp.mono g.ff r_lists_here
          refine hQ _ rfl ?_
          exact ⟨_, (Option.some.inj hm).symm, fun s_ H_ C_ cl_ fp_ => (EvN.evA ((List Dy)) (en_list_of T.n_list (ev_var 5 rfl r_one)))⟩) (fun l_handed vs_ F H g nl_ fl_ hl_ rs_ => ?_)
    | refine go_setN 4 G.sm (en_comp (own := [("_law_one", 5)]) sc_law.nd (ei_list (ev_varK 1 rfl r_lists_here kv_law_1)) h_t5 (blkOk_by (N := ["_law_script", "_law_lists_here", "_law_picks_here", "_law_due_here", "_law_handed", "_law_one", "_law_given", "_law_found"]) (sc := defScope s_law) (by decide +kernel)) (fun _ _ _ _ _ => (pg_name (i := 5) sc_law.nd rfl (by first | exact Or.inl rfl | exact Or.inr rfl))) (fun x_one o_ hm F H v_one g r_one Q hQ => by
          have r_lists_here := Rp.mono g.ff r_lists_here
          refine hQ _ rfl ?_
          exact ⟨_, (Option.some.inj hm).symm, fun s_ H_ C_ cl_ fp_ => (EvN.evA ((List Dy)) (en_list_of T.n_list (ev_var 5 rfl r_one)))⟩)) (fun l_handed vs_ F H g nl_ fl_ hl_ rs_ => ?_) sc_law.nd
  have n0_ := G.hh.free nl_
  have G := G.trans g
  have r_lists_here := Rp.mono g.ff r_lists_here
  have r_picks_here := Rp.mono g.ff r_picks_here
  have r_due_here := Rp.mono g.ff r_due_here
  have o_handed : Own K _ F H l_handed _ := Own.cg (Option.some.inj he) ⟨n0_, fl_, vs_, hl_, rs_⟩
  refine o_handed.freeze G (fun F H s_ s2_ G r_handed k_ => ?_)
  have r_lists_here := Rp.mono s_ r_lists_here
  have r_picks_here := Rp.mono s_ r_picks_here
  have r_due_here := Rp.mono s_ r_due_here
  change GoS _ _ _ [some v_script, some v_lists_here, some v_picks_here, some v_due_here, some (.ref l_handed), none, none, none] _
  obtain ⟨x_given, he, hm⟩ := Option.bind_eq_some_iff.mp hm
  refine go_setA ((List Int)) 6 G.sm (EvN.evA ((List Int)) (en_list_of T.n_list (ev_varK 2 rfl r_picks_here kv_law_2))) (fun v_given F H g rn_ => ?_) sc_law.nd
  have G := G.trans g
  have r_lists_here := Rp.mono g.ff r_lists_here
  have r_picks_here := Rp.mono g.ff r_picks_here
  have r_due_here := Rp.mono g.ff r_due_here
  have r_handed := Rp.mono g.ff r_handed
  have r_given := cg (Option.some.inj he) rn_
  change GoS _ _ _ [some v_script, some v_lists_here, some v_picks_here, some v_due_here, some (.ref l_handed), none, some v_given, none] _
  obtain ⟨t6, h_t6, hm⟩ := Option.bind_eq_some_iff.mp hm
  refine go_setC1 (α := Int) (γ := Dy) 7 G.sm (ec1_call (ok_woven T) (hr.mono (by omega)) T.g_woven T.F_woven.kp (b_woven T) (ea_cons (ev_varK 4 rfl r_handed kv_law_4) (ea_cons (ev_varK 6 rfl r_given kv_law_6) ea_nil)) h_t6 gl_law_woven) (fun v_found l_found ob_ F H g nl_ fl_ hl_ rb_ p_found => ?_) sc_law.nd
  have n0_ := G.hh.free nl_
  have G := G.trans g
  have r_lists_here := Rp.mono g.ff r_lists_here
  have r_picks_here := Rp.mono g.ff r_picks_here
  have r_due_here := Rp.mono g.ff r_due_here
  have r_handed := Rp.mono g.ff r_handed
  have r_given := Rp.mono g.ff r_given
  have o_found : Own K _ F H l_found _ := ⟨n0_, fl_, ob_, hl_, rb_⟩
  change GoS _ _ _ [some v_script, some v_lists_here, some v_picks_here, some v_due_here, some (.ref l_handed), none, some v_given, some v_found] _
  obtain ⟨t8, h_t8, hm⟩ := Option.bind_eq_some_iff.mp hm
  refine go_ifA (t8) G.sm (et_thaw o_found G.fh (fun F H s_ s2_ rf_ k_ => by
          have r_lists_here := Rp.mono s_ r_lists_here
          have r_picks_here := Rp.mono s_ r_picks_here
          have r_due_here := Rp.mono s_ r_due_here
          have r_handed := Rp.mono s_ r_handed
          have r_given := Rp.mono s_ r_given
          have rf_found := rf_
          have p_found := p_found.mono s_
          have rq_found := p_found.rp rf_found
          exact (EvW.t (ew_orA ((!true)) (et_not (et_val (ev_isi (T := "tuple") (r := true) (by decide +kernel) T.n_isinstance T.n_tuple (by decide +kernel) (ev_varK 7 rfl rq_found kv_law_7)))) (fun hc => by
          replace h_t8 := ineg (nt hc) h_t8
          obtain ⟨t7, h_t7, h_t8⟩ := Option.bind_eq_some_iff.mp h_t8
          exact EvW.cg (Option.some.inj h_t8) (ew_or1 (et_cmp op_ne o2_ne (ev_callB (call_repr hgd_ hr) (oc_repr h_t7) T.n_repr (by decide +kernel) (ea_cons (ev_varK 7 rfl rq_found kv_law_7) ea_nil)) (ev_varK 3 rfl r_due_here kv_law_3) (nomark _)))) (fun hc => by replace h_t8 := ipos hc h_t8; exact (Option.some.inj h_t8).symm))))) (fun hc F H g => ?_) (fun hc F H g => ?_)
  · replace hm := ipos hc hm
    have G := G.trans g
    have r_lists_here := Rp.mono g.ff r_lists_here
    have r_picks_here := Rp.mono g.ff r_picks_here
    have r_due_here := Rp.mono g.ff r_due_here
    have r_handed := Rp.mono g.ff r_handed
    have r_given := Rp.mono g.ff r_given
    have o_found := o_found.up g
    have p_found := p_found.mono g.ff
    exact go_ret G.sm ev_bl fun v_ F_ H_ g_ rv_ => kr _ _ _ (G.trans g_) (cg (Option.some.inj hm) rv_)
  · replace hm := ineg (nt hc) hm
    have G := G.trans g
    have r_lists_here := Rp.mono g.ff r_lists_here
    have r_picks_here := Rp.mono g.ff r_picks_here
    have r_due_here := Rp.mono g.ff r_due_here
    have r_handed := Rp.mono g.ff r_handed
    have r_given := Rp.mono g.ff r_given
    have o_found := o_found.up g
    have p_found := p_found.mono g.ff
    refine GoS.nil ?_
    obtain ⟨t9, h_t9, hm⟩ := Option.bind_eq_some_iff.mp hm
    obtain ⟨t10, h_t10, hm⟩ := Option.bind_eq_some_iff.mp hm
    obtain ⟨t12, h_t12, hm⟩ := Option.bind_eq_some_iff.mp hm
    refine go_ifA (t12) G.sm (EvW.t (ew_orA ((!decide (t9 = t10))) (et_cmp op_ne o2_ne (ev_callB (call_repr hgd_ hr) (oc_repr h_t9) T.n_repr (by decide +kernel) (ea_cons (ev_varK 4 rfl r_handed kv_law_4) ea_nil)) (ev_callB (call_repr hgd_ hr) (oc_repr h_t10) T.n_repr (by decide +kernel) (ea_cons (ev_varK 1 rfl r_lists_here kv_law_1) ea_nil)) (nomark _)) (fun hc => by
            replace h_t12 := ineg (nt hc) h_t12
            obtain ⟨t11, h_t11, h_t12⟩ := Option.bind_eq_some_iff.mp h_t12
            exact EvW.cg (Option.some.inj h_t12) (ew_or1 (et_neD (ev_varK 6 rfl r_given kv_law_6) (ev_varK 2 rfl r_picks_here kv_law_2) h_t11 hr.units))) (fun hc => by replace h_t12 := ipos hc h_t12; exact (Option.some.inj h_t12).symm))) (fun hc F H g => ?_) (fun hc F H g => ?_)
    · replace hm := ipos hc hm
      have G := G.trans g
      have r_lists_here := Rp.mono g.ff r_lists_here
      have r_picks_here := Rp.mono g.ff r_picks_here
      have r_due_here := Rp.mono g.ff r_due_here
      have r_handed := Rp.mono g.ff r_handed
      have r_given := Rp.mono g.ff r_given
      have o_found := o_found.up g
      have p_found := p_found.mono g.ff
      exact go_ret G.sm ev_bl fun v_ F_ H_ g_ rv_ => kr _ _ _ (G.trans g_) (cg (Option.some.inj hm) rv_)
    · replace hm := ineg (nt hc) hm
      have G := G.trans g
      have r_lists_here := Rp.mono g.ff r_lists_here
      have r_picks_here := Rp.mono g.ff r_picks_here
      have r_due_here := Rp.mono g.ff r_due_here
      have r_handed := Rp.mono g.ff r_handed
      have r_given := Rp.mono g.ff r_given
      have o_found := o_found.up g
      have p_found := p_found.mono g.ff
      refine GoS.nil ?_
      obtain ⟨t13, he, hm⟩ := Option.bind_eq_some_iff.mp hm
      refine go_appendC1 (α := Int) (γ := Dy) 7 G.sm o_found p_found rfl (ev_dy ev_int) he (fun w_ F H g nz_ fz_ on_ => ?_)
      have G := G.trans g
      have r_due_here := Rp.mono g.ff r_due_here
      have r_handed := Rp.mono g.ff r_handed
      have r_given := Rp.mono g.ff r_given
      have G := G.poke (u := w_) on_.n fz_ nz_ on_.pl
      have o_found := on_
      have p_found := p_found.mono g.ff
      obtain ⟨t14, h_t14, hm⟩ := Option.bind_eq_some_iff.mp hm
      obtain ⟨t15, h_t15, hm⟩ := Option.bind_eq_some_iff.mp hm
      obtain ⟨t18, h_t18, hm⟩ := Option.bind_eq_some_iff.mp hm
      exact go_ret G.sm (ev_andA ((decide (t15 = x_due_here))) (ev_cmp op_eq o2_eq (ev_callB (call_repr hgd_ hr) (oc_repr h_t15) T.n_repr (by decide +kernel) (ea_cons (EvC1.evT (ec1_call (ok_woven T) (hr.mono (by omega)) T.g_woven T.F_woven.kp (b_woven T) (ea_cons (ev_varK 4 rfl r_handed kv_law_4) (ea_cons (ev_varK 6 rfl r_given kv_law_6) ea_nil)) h_t14 gl_law_woven)) ea_nil)) (ev_varK 3 rfl r_due_here kv_law_3) (nomark _)) (fun hc => by
              replace h_t18 := ipos hc h_t18
              obtain ⟨t16, h_t16, h_t18⟩ := Option.bind_eq_some_iff.mp h_t18
              obtain ⟨t17, h_t17, h_t18⟩ := Option.bind_eq_some_iff.mp h_t18
              exact Ev.cg (Option.some.inj h_t18) (ev_one (ev_cmp op_eq o2_eq (ev_callB (call_repr hgd_ hr) (oc_repr h_t17) T.n_repr (by decide +kernel) (ea_cons (EvC1.evT (ec1_call (ok_woven T) (hr.mono (by omega)) T.g_woven T.F_woven.kp (b_woven T) (ea_cons (EvN.evA ((List (List Dy))) (en_list el_nil (Nat.zero_le _))) (ea_cons (ev_varK 6 rfl r_given kv_law_6) ea_nil)) h_t16 gl_law_woven)) ea_nil)) ev_str (nomark _)))) (fun hc => by replace h_t18 := ineg (nt hc) h_t18; exact (Option.some.inj h_t18).symm)) fun v_ F_ H_ g_ rv_ => kr _ _ _ (G.trans g_) (cg (Option.some.inj hm) rv_)
end

open Run
theorem facts {K : PySem.W.Frag} {h : Heap} {mg : Str → Option Value} (X : K.In h) (G : h.Ns mainGlobals mg) (c : He.SaysD fa fn K) (cx : ex K = true) : ∃ T : Txt K mg, ∀ (s : Shared) (v : Value), BindsTo s T.d_law ⟨[v], []⟩ [("_law_script", v)] := by
  obtain ⟨d_at, F_at⟩ := c.def_ 0 (d := D_at) rfl
  obtain ⟨d_thing, F_thing⟩ := c.def_ 1 (d := D_thing) rfl
  obtain ⟨d_lists, F_lists⟩ := c.def_ 2 (d := D_lists) rfl
  obtain ⟨d_picks, F_picks⟩ := c.def_ 3 (d := D_picks) rfl
  obtain ⟨d_due, F_due⟩ := c.def_ 4 (d := D_due) rfl
  obtain ⟨d_woven, F_woven⟩ := c.def_ 5 (d := D_woven) rfl
  obtain ⟨d_law, F_law⟩ := c.def_ 6 (d := D_law) rfl
  have b := FunD.bindsA (ps := ["_law_script"]) F_law fun _ _ _ _ _ _ us hl => match us, hl with | [_], _ => rfl
  exact ⟨⟨d_at, F_at, He.glo_ok X G (c.fact 0 (f := .glo "_law_at") rfl),
    d_thing, F_thing, He.glo_ok X G (c.fact 1 (f := .glo "_law_thing") rfl),
    d_lists, F_lists, He.glo_ok X G (c.fact 2 (f := .glo "_law_lists") rfl),
    d_picks, F_picks, He.glo_ok X G (c.fact 3 (f := .glo "_law_picks") rfl),
    d_due, F_due, He.glo_ok X G (c.fact 4 (f := .glo "_law_due") rfl),
    d_woven, F_woven, He.glo_ok X G (c.fact 5 (f := .glo "woven") rfl),
    d_law, F_law, He.glo_ok X G (c.fact 6 (f := .glo "law") rfl),
    He.free_ok X G (c.fact 7 (f := .free "isinstance") rfl),
    He.free_ok X G (c.fact 8 (f := .free "len") rfl),
    He.free_ok X G (c.fact 9 (f := .free "list") rfl),
    He.free_ok X G (c.fact 10 (f := .free "range") rfl),
    He.free_ok X G (c.fact 11 (f := .free "repr") rfl),
    He.free_ok X G (c.fact 12 (f := .free "str") rfl),
    He.free_ok X G (c.fact 13 (f := .free "tuple") rfl)⟩, fun s v => b s [v] rfl⟩
def spLaw (K : PySem.W.Frag) : Sp := Pr K fun (a_ : List Int × Unit) => m_law a_.1
theorem sp_true {K : PySem.W.Frag} (H : Hp) (a : Addr) (ns : List Int) (hS : SqL K H a (ns.map V.int)) (ht : m_law ns = some true) : spLaw K [.ref a] H (fun v _ => v = .bl true) fun _ _ _ => False :=
  ⟨H, (ns, ()), true, ⟨L2.Same.refl H, ⟨fun P hP => (List.not_mem_nil hP).elim⟩⟩, ⟨.ref a, [], rfl, ⟨a, _, rfl, hS, Rps.of_ints ns⟩, rfl⟩, ht, fun _ _ _ _ r => r⟩

end Law
open PySem PySem.W PySem.Calls PyProof.Rows
theorem PySem.Challenge.cw_furrow_k80_woven_holds : PySem.Challenge.rw_furrow_k80_woven.Holds := by
  w_on; o_law
  refine HandSHeadRun.head_any (r := OpenLaw.row PySem.Challenge.rw_furrow_k80_woven) (q := view (OpenLaw.row PySem.Challenge.rw_furrow_k80_woven).prog [9]) (H := Law.Run.hk) (ob := Law.Run.ob) (M := 4000) (loose := Law.Run.loose) (d := HandSHeadRun.topDef (OpenLaw.row PySem.Challenge.rw_furrow_k80_woven).prog 9) (kwd := []) Law.Run.ob_eq
    (by kernel_rfl) (fun s => by kernel_rfl) Law.Run.run (by kernel_rfl) (by kernel_rfl) (by kernel_rfl) (by rfl) (by first | assumption | decide +kernel) (by decide +kernel) ⟨rfl, rfl, rfl, rfl, rfl, by decide +kernel⟩ ?hw ?hc
  case hw => w_witness2
  case hc =>
    refine Gx.walk_top (l := PySem.Challenge.rw_furrow_k80_woven) (n := 63) (x := "_law_script") rfl (by decide) (by kernel_rfl) ?F
    intro w mg fa h Y G hmg0
    obtain ⟨K, KX, c, cx⟩ := Y
    have hmg : mg ("law" : PySem.Str) = some (.ref fa) := by
      have e : (HandSHeadRun.topDef (OpenLaw.row PySem.Challenge.rw_furrow_k80_woven).prog 9).name = ("law" : PySem.Str) := by kernel_rfl
      rw [← e]
      exact hmg0
    obtain ⟨T, hb⟩ := Law.facts KX G c cx
    have e := hmg.symm.trans T.g_law
    cases e
    exact ⟨K, T.d_law, Law.spLaw K, KX, hb, fun H a ns hl hS => Law.sp_true H a ns hS (Law.law_true ns hl), fun base _ _ => Law.ok_law T⟩

