import PyProof.Rows.All
import HandS.Nested
import HandS.HeadHook4
import Wide.All
import OpenK.AllK
import Wide.FinOn
import HandS.ForMost
import HandS.ForExc
import HandS.IsInst
import HandS.Iter
import HandS.Wide
import PyProof.StrBlock2
import HandS.Defaults
import HandS.TupAny
import HandS.Codes
import HandS.Zip
import HandS.Rev
import HandS.RevRange
import HandS.Deep
import HandS.Strs
import HandS.More
import HandS.TupLen
import HandS.DictComp
import HandS.Words
import HandS.WordsExc
import HandS.Head0
import HandS.Head1
import HandS.Head2
import HandS.HeadEnd
import HandS.HeadHook1
import HandS.HeadHook2
import HandS.TupMul
import KE.KDictList
import HandS.Conv
import HandS.TryOnly
import HandS.DictTup
import PyProof.NeKinds
import KE.GoesEnum
import PyProof.EnumMake
import HandS.SortInts
import HandS.Exc
import HandS.ExcInit
import HandS.ExcField
import HandS.ExcOwn
import HandS.TryMany
import HandS.NestedK
import HandS.HeadWalk
import HandS.ExcIs
import KE.KStateDown
import PySem.Challenge.RW_furrow_k90_freed_and_no_turning
set_option Elab.async false
set_option linter.all false
set_option maxRecDepth 100000
set_option maxHeartbeats 40000000
/-! G0: the code objects of the law's text that are made within defs. -/
namespace Gx
open PySem
/-- the name that the code object of a place bears -/
def nmG : Nat → Nat → Str := fun l c => if l = 53 ∧ c = 4 then ("swapped.<locals>.change" : Str) else if l = 83 ∧ c = 4 then ("moved.<locals>.change" : Str) else if l = 94 ∧ c = 4 then ("cut.<locals>.change" : Str) else if l = 279 ∧ c = 4 then ("law.<locals>._law_change" : Str) else ""
/-- the defs that make others -/
def tfG : List He.Defn := [("swapped", none), ("moved", none), ("cut", none), ("law", none)]
/-- their tables -/
def tabsG : PySem.W.Frag → List Addr := fun K => tfG.map fun p => (He.cT K p).2
end Gx

/-! Gx: a functional reading over the hand layer. -/
namespace Gx
open PySem PySem.Spec PyProof.Rows L2

/-! ### representation -/
class Rp (α : Type) where
  rp : PySem.W.Frag → Hp → V → α → Prop
  mono : ∀ {K : PySem.W.Frag} {F F' : Hp} {v : V} {x : α}, L2.Same F F' → rp K F v x → rp K F' v x
open Rp (rp)
instance : Rp Int := ⟨fun _ _ v x => v = .int x, fun _ h => h⟩
instance : Rp Bool := ⟨fun _ _ v x => v = .bl x, fun _ h => h⟩
instance : Rp Str := ⟨fun _ _ v x => v = .str x, fun _ h => h⟩
instance : Rp Unit := ⟨fun _ _ v _ => v = .non, fun _ h => h⟩
abbrev Rps {α : Type} [Rp α] (K : PySem.W.Frag) (F : Hp) : List V → List α → Prop := Paired (fun v x => rp K F v x)
theorem Rps.mono {α : Type} [Rp α] {K : PySem.W.Frag} {F F' : Hp} {vs : List V} {xs : List α} (s : L2.Same F F') (h : Rps K F vs xs) : Rps K F' vs xs := L2.Paired.mapP h fun _ _ => Rp.mono s
/-- a tracked tuple -/
def TupF (F : Hp) (a : Addr) (xs : List V) : Prop := F a = some (.tup xs)
theorem tupF_mono {H H' : Hp} {a : Addr} {xs : List V} (e : L2.Same H H') (h : TupF H a xs) : TupF H' a xs := e _ _ h
theorem seqT_mono {K : PySem.W.Frag} {H H' : Hp} {a : Addr} {xs : List V} (e : L2.Same H H') (h : TupF H a xs) : SqT K H' a xs := SqT.of (e _ _ h)
theorem sqT_mono {K : PySem.W.Frag} {H H' : Hp} {a : Addr} {xs : List V} (e : L2.Same H H') (h : SqT K H a xs) : SqT K H' a xs := by
  rcases h with (h | ⟨o, h⟩) | h
  · exact .inl (.inl (e _ _ h))
  · exact .inl (.inr ⟨o, e _ _ h⟩)
  · exact .inr h
instance {α : Type} [Rp α] : Rp (List α) := ⟨fun K F v xs => ∃ a vs, v = .ref a ∧ SqL K F a vs ∧ Rps K F vs xs, fun s ⟨a, vs, e, q, r⟩ => ⟨a, vs, e, s.seq q, r.mono s⟩⟩
/-- a tuple of things of one kind -/
structure Tp (α : Type) where
  l : List α
  deriving DecidableEq
instance {α : Type} [Rp α] : Rp (Tp α) := ⟨fun K F v xs => ∃ a vs, v = .ref a ∧ TupF F a vs ∧ Rps K F vs xs.l, fun s ⟨a, vs, e, q, r⟩ => ⟨a, vs, e, tupF_mono s q, r.mono s⟩⟩
/-- a constant tuple of things of one kind -/
structure Ct (α : Type) where
  l : List α
  deriving DecidableEq
instance {α : Type} [Rp α] : Rp (Ct α) := ⟨fun K F v xs => ∃ a vs, v = .ref a ∧ SqT K F a vs ∧ Rps K F vs xs.l, fun s ⟨a, vs, e, q, r⟩ => ⟨a, vs, e, sqT_mono s q, r.mono s⟩⟩
/-- a tuple of things of one kind whose object has no dict of its own -/
structure Tn (α : Type) where
  l : List α
  deriving DecidableEq
instance {α : Type} [Rp α] : Rp (Tn α) := ⟨fun K F v xs => ∃ a vs o, v = .ref a ∧ F a = some (.frz o (.tup vs)) ∧ o.dict = none ∧ o.cls = .type "tuple" ∧ Rps K F vs xs.l, fun s ⟨a, vs, o, e, q, d, c, r⟩ => ⟨a, vs, o, e, s _ _ q, d, c, r.mono s⟩⟩
/-- what stands as a tuple of things of one kind -/
class TL (θ : Type) (α : outParam Type) [Rp θ] [Rp α] where
  l : θ → List α
  sq : ∀ {K : PySem.W.Frag} {F : Hp} {v : V} {x : θ}, rp K F v x → ∃ a vs, v = .ref a ∧ SqT K F a vs ∧ Rps K F vs (l x)
instance {α : Type} [Rp α] : TL (Tp α) α := ⟨Tp.l, fun ⟨a, vs, e, q, r⟩ => ⟨a, vs, e, SqT.of q, r⟩⟩
instance {α : Type} [Rp α] : TL (Ct α) α := ⟨Ct.l, fun ⟨a, vs, e, q, r⟩ => ⟨a, vs, e, q, r⟩⟩
instance {α : Type} [Rp α] : TL (Tn α) α := ⟨Tn.l, fun ⟨a, vs, o, e, q, _, _, r⟩ => ⟨a, vs, e, .inl (.inr ⟨o, q⟩), r⟩⟩
/-- a row of values of unlike kinds: (x, (y, ())) -/
class Ra (τ : Type) where
  ra : PySem.W.Frag → Hp → List V → τ → Prop
  mono : ∀ {K : PySem.W.Frag} {F F' : Hp} {v : List V} {x : τ}, L2.Same F F' → ra K F v x → ra K F' v x
open Ra (ra)
instance : Ra Unit := ⟨fun _ _ vs _ => vs = [], fun _ h => h⟩
instance {α τ : Type} [Rp α] [Ra τ] : Ra (α × τ) := ⟨fun K F vs x => ∃ v r, vs = v :: r ∧ rp K F v x.1 ∧ ra K F r x.2, fun s ⟨v, r, e, p, q⟩ => ⟨v, r, e, Rp.mono s p, Ra.mono s q⟩⟩
/-- tuples of 2, 3, .. things -/
structure T1 (α : Type) where
  a : α
  deriving DecidableEq
structure T2 (α β : Type) where
  a : α
  b : β
  deriving DecidableEq
structure T3 (α β γ : Type) where
  a : α
  b : β
  c : γ
  deriving DecidableEq
structure T4 (α β γ δ : Type) where
  a : α
  b : β
  c : γ
  d : δ
  deriving DecidableEq
structure T5 (α β γ δ ε : Type) where
  a : α
  b : β
  c : γ
  d : δ
  e : ε
  deriving DecidableEq
/-- a kind that stands as a tuple: its row -/
class Tpl (θ : Type) (τ : outParam Type) where
  row : θ → τ
abbrev T1.row {α : Type} (x : T1 α) : α × Unit := (x.a, ())
abbrev T2.row {α β : Type} (x : T2 α β) : α × β × Unit := (x.a, x.b, ())
abbrev T3.row {α β γ : Type} (x : T3 α β γ) : α × β × γ × Unit := (x.a, x.b, x.c, ())
abbrev T4.row {α β γ δ : Type} (x : T4 α β γ δ) : α × β × γ × δ × Unit := (x.a, x.b, x.c, x.d, ())
abbrev T5.row {α β γ δ ε : Type} (x : T5 α β γ δ ε) : α × β × γ × δ × ε × Unit := (x.a, x.b, x.c, x.d, x.e, ())
def rpT {θ τ : Type} [Ra τ] (row : θ → τ) (K : PySem.W.Frag) (F : Hp) (v : V) (x : θ) : Prop := ∃ a vs, v = .ref a ∧ TupF F a vs ∧ ra K F vs (row x)
theorem rpT.mono {θ τ : Type} [Ra τ] {row : θ → τ} {K : PySem.W.Frag} {F F' : Hp} {v : V} {x : θ} (s : L2.Same F F') : rpT row K F v x → rpT row K F' v x := fun ⟨a, vs, e, q, r⟩ => ⟨a, vs, e, tupF_mono s q, Ra.mono s r⟩
instance {α : Type} [Rp α] : Rp (T1 α) := ⟨rpT T1.row, rpT.mono⟩
instance {α β : Type} [Rp α] [Rp β] : Rp (T2 α β) := ⟨rpT T2.row, rpT.mono⟩
instance {α β γ : Type} [Rp α] [Rp β] [Rp γ] : Rp (T3 α β γ) := ⟨rpT T3.row, rpT.mono⟩
instance {α β γ δ : Type} [Rp α] [Rp β] [Rp γ] [Rp δ] : Rp (T4 α β γ δ) := ⟨rpT T4.row, rpT.mono⟩
instance {α β γ δ ε : Type} [Rp α] [Rp β] [Rp γ] [Rp δ] [Rp ε] : Rp (T5 α β γ δ ε) := ⟨rpT T5.row, rpT.mono⟩
/-- None or a thing that is never None -/
class NN (α : Type) [Rp α] : Prop where
  nn : ∀ {K : PySem.W.Frag} {F : Hp} {x : α}, ¬ rp K F V.non x
instance : NN Int := ⟨fun h => nomatch h⟩
instance : NN Bool := ⟨fun h => nomatch h⟩
instance : NN Str := ⟨fun h => nomatch h⟩
instance {α : Type} [Rp α] : NN (List α) := ⟨fun ⟨_, _, e, _⟩ => nomatch e⟩
instance {α : Type} [Rp α] : NN (Tp α) := ⟨fun ⟨_, _, e, _⟩ => nomatch e⟩
instance {α : Type} [Rp α] : NN (Tn α) := ⟨fun ⟨_, _, _, e, _⟩ => nomatch e⟩
theorem rpT.nn {θ τ : Type} [Ra τ] {row : θ → τ} {K : PySem.W.Frag} {F : Hp} {x : θ} : ¬ rpT row K F .non x := fun ⟨_, _, e, _⟩ => nomatch e
instance {α : Type} [Rp α] : NN (T1 α) := ⟨rpT.nn⟩
instance {α β : Type} [Rp α] [Rp β] : NN (T2 α β) := ⟨rpT.nn⟩
instance {α β γ : Type} [Rp α] [Rp β] [Rp γ] : NN (T3 α β γ) := ⟨rpT.nn⟩
instance {α β γ δ : Type} [Rp α] [Rp β] [Rp γ] [Rp δ] : NN (T4 α β γ δ) := ⟨rpT.nn⟩
instance {α β γ δ ε : Type} [Rp α] [Rp β] [Rp γ] [Rp δ] [Rp ε] : NN (T5 α β γ δ ε) := ⟨rpT.nn⟩
def rpO {α : Type} [Rp α] (K : PySem.W.Frag) (F : Hp) (v : V) : Option α → Prop
  | none => v = .non
  | some x => rp K F v x
instance {α : Type} [Rp α] [NN α] : Rp (Option α) := ⟨rpO, fun {K F F' v x} s h => by
  cases x with
  | none => exact h
  | some x => exact Rp.mono (α := α) s h⟩
theorem rp_some {α : Type} [Rp α] [NN α] {K : PySem.W.Frag} {F : Hp} {v : V} {x : α} (h : rp K F v x) : rp K F v (some x) := h
theorem rp_none {α : Type} [Rp α] [NN α] {K : PySem.W.Frag} {F : Hp} : rp K F V.non (none : Option α) := rfl
theorem rp_isNone {α : Type} [Rp α] [NN α] {K : PySem.W.Frag} {F : Hp} {v : V} : ∀ {x : Option α}, rp K F v x → decide (v = .non) = x.isNone
  | none, h => by
    have e : v = .non := h
    rw [e]; rfl
  | some x, h => by
    have e : ¬ v = .non := fun e => by
      subst e
      exact NN.nn (α := α) h
    rw [decide_eq_false e]; rfl

/-! ### shared part and heap -/
/-- no tuple, nothing described by a wish -/
def lstish : HO → Prop
  | .tup _ => False
  | .frz _ (.tup _) => False
  | .ext _ => False
  | _ => True
/-- no table of code objects -/
def ntb : HO → Prop
  | .tbl _ => False
  | _ => True
/-- neither a table nor a code object -/
def pln : HO → Prop
  | .tbl _ => False
  | .ext _ => False
  | _ => True
theorem pln.ntb {o : HO} (h : pln o) : ntb o := by cases o <;> first | trivial | exact h
/-- a table stands at P that tells code objects of the names that their places have -/
def GdT (H : Hp) (P : Addr) : Prop := ∃ ps : Array Value, H P = some (.tbl ps) ∧ TriplesOk ps.toList ∧ ∀ (pos : Pos) (cv : Value), codeAmong pos ps.toList = some cv → ∃ c, cv = .ref c ∧ H c = some (LamX.CodeO c (nmG pos.line pos.col))
/-- what stands stays, but that tables grow -/
structure Xt (H H' : Hp) : Prop where
  k : ∀ b o, H b = some o → ntb o → H' b = some o
  t : ∀ b ps, H b = some (.tbl ps) → ∃ qs, H' b = some (.tbl qs)
  w : ∀ P, GdT H P → GdT H' P
theorem Xt.refl (H : Hp) : Xt H H := ⟨fun _ _ h _ => h, fun _ _ h => ⟨_, h⟩, fun _ h => h⟩
theorem Xt.trans {H H1 H2 : Hp} (a : Xt H H1) (b : Xt H1 H2) : Xt H H2 := ⟨fun c o h n => b.k c o (a.k c o h n) n, fun c ps h => by
  obtain ⟨qs, h⟩ := a.t c ps h
  exact b.t c qs h, fun P h => b.w P (a.w P h)⟩
theorem Xt.free {H H' : Hp} (a : Xt H H') {p : Addr} (h : H' p = none) : H p = none := by
  cases e : H p with
  | none => rfl
  | some o =>
    cases o with
    | tbl ps =>
      obtain ⟨qs, z⟩ := a.t p ps e
      rw [h] at z; cases z
    | _ => have z := a.k p _ e trivial; rw [h] at z; cases z
theorem Xt.same {H H' : Hp} (s : L2.Same H H') : Xt H H' := ⟨fun b o h _ => s b o h, fun b ps h => ⟨ps, s b _ h⟩, fun P ⟨ps, e, h1, h2⟩ =>
  ⟨ps, s _ _ e, h1, fun pos cv hc => let ⟨c, e1, e2⟩ := h2 pos cv hc; ⟨c, e1, s _ _ e2⟩⟩⟩
theorem Xt.upd {H : Hp} {p : Addr} {o : HO} (hp : H p = none) (_ : ntb o) : Xt H (upd H p o) := .same fun b u e => by rw [upd_ne (ne_of_none e hp)]; exact e
/-- a list or the like stands at l -/
def PlAt (H : Hp) (l : Addr) : Prop := ∃ o, H l = some o ∧ pln o
theorem codeO_pl {c : Addr} {q : Str} {o : HO} (h : o = LamX.CodeO c q) : ¬ pln o := by rw [h]; exact id
theorem GdT.ne {H : Hp} {l P : Addr} (a : GdT H P) (h : PlAt H l) : P ≠ l := fun z => by
  obtain ⟨o, ho, po⟩ := h
  obtain ⟨ps, e, _⟩ := a
  rw [z, ho] at e; cases e; exact po
/-- what is done at l alone -/
theorem GdT.but {H H' : Hp} {l P : Addr} (a : GdT H P) (h : PlAt H l) (k : ∀ b, b ≠ l → H' b = H b) : GdT H' P := by
  have hP := a.ne h
  obtain ⟨o, ho, po⟩ := h
  obtain ⟨ps, e, h1, h2⟩ := a
  refine ⟨ps, (k P hP).trans e, h1, fun pos cv hc => ?_⟩
  obtain ⟨c, e1, e2⟩ := h2 pos cv hc
  refine ⟨c, e1, (k c fun z => ?_).trans e2⟩
  subst z; rw [ho] at e2; exact codeO_pl (Option.some.inj e2) po
theorem GdT.upd {H : Hp} {l P : Addr} {u : HO} (a : GdT H P) (h : PlAt H l) (_ : ntb u) : GdT (upd H l u) P := a.but h fun _ hb => upd_ne hb
theorem Xt.poke {H0 H : Hp} {l : Addr} {u : HO} (x : Xt H0 H) (n : H0 l = none) (h : PlAt H l) (no : ntb u) : Xt H0 (L2.upd H l u) := ⟨fun b o e ns => by
  rw [upd_ne (ne_of_none e n)]; exact x.k b o e ns, fun b ps e => by
  rw [upd_ne (ne_of_none e n)]; exact x.t b ps e, fun P a => (x.w P a).upd h no⟩
structure Gr (F H F' H' : Hp) : Prop where
  ff : L2.Same F F'
  fh : L2.Same F' H'
  hh : Xt H H'
  fr : ∀ a o, H a = some o → lstish o → F' a = F a
theorem Gr.refl {F H : Hp} (s : L2.Same F H) : Gr F H F H := ⟨.refl _, s, .refl _, fun _ _ _ _ => rfl⟩
theorem Gr.trans {F H F1 H1 F2 H2 : Hp} (a : Gr F H F1 H1) (b : Gr F1 H1 F2 H2) : Gr F H F2 H2 :=
  ⟨a.ff.trans b.ff, b.fh, a.hh.trans b.hh, fun c o h n => by
    cases o with
    | tbl ps =>
      obtain ⟨qs, h2⟩ := a.hh.t c ps h
      rw [b.fr c _ h2 trivial, a.fr c _ h trivial]
    | _ => rw [b.fr c _ (a.hh.k c _ h trivial) n, a.fr c _ h n]⟩
theorem Gr.new {F H : Hp} {p : Addr} {o : HO} (s : L2.Same F H) (hp : H p = none) (no : ntb o := by trivial) : Gr F H (upd F p o) (upd H p o) := by
  have fp : F p = none := s.free hp
  refine ⟨fun b u e => ?_, fun b u e => ?_, .upd hp no, fun a o h _ => ?_⟩
  · rw [upd_ne (ne_of_none e fp)]; exact e
  · by_cases hb : b = p
    · subst hb; rw [upd_same] at e ⊢; exact e
    · rw [upd_ne hb] at e ⊢; exact s _ _ e
  · by_cases hb : a = p
    · subst hb; rw [hp] at h; cases h
    · rw [upd_ne hb]
/-- a new object that stays private -/
theorem Gr.newP {F H : Hp} {p : Addr} {o : HO} (s : L2.Same F H) (hp : H p = none) (no : ntb o := by trivial) : Gr F H F (upd H p o) := by
  refine ⟨.refl _, fun b u e => ?_, .upd hp no, fun a o h _ => rfl⟩
  rw [upd_ne (ne_of_none (s _ _ e) hp)]; exact s _ _ e
/-- the tables of the text stand, private -/
structure HasT (K : PySem.W.Frag) (F H : Hp) : Prop where
  t : ∀ P ∈ tabsG K, GdT H P ∧ F P = none
theorem HasT.up {K : PySem.W.Frag} {F H F' H' : Hp} (h : HasT K F H) (g : Gr F H F' H') : HasT K F' H' := ⟨fun P hP => by
  obtain ⟨a, f⟩ := h.t P hP
  obtain ⟨ps, e, _⟩ := id a
  exact ⟨g.hh.w P a, (g.fr P _ e trivial).trans f⟩⟩
/-- the state at a call -/
structure SmX (K : PySem.W.Frag) (F H : Hp) : Prop where
  s : L2.Same F H
  h : HasT K F H
structure GrX (K : PySem.W.Frag) (F H F' H' : Hp) : Prop extends Gr F H F' H' where
  h : HasT K F' H'
section
variable {K : PySem.W.Frag} {F H F1 H1 F2 H2 : Hp}
instance : CoeOut (GrX K F H F1 H1) (Gr F H F1 H1) := ⟨GrX.toGr⟩
theorem GrX.refl (s : SmX K F H) : GrX K F H F H := ⟨.refl s.s, s.h⟩
theorem GrX.sm (g : GrX K F H F1 H1) : SmX K F1 H1 := ⟨g.fh, g.h⟩
theorem GrX.trans (g : GrX K F H F1 H1) (g2 : Gr F1 H1 F2 H2) : GrX K F H F2 H2 := ⟨g.toGr.trans g2, g.h.up g2⟩
theorem GrX.pre (g : Gr F H F1 H1) (g2 : GrX K F1 H1 F2 H2) : GrX K F H F2 H2 := ⟨g.trans g2.toGr, g2.h⟩
theorem SmX.gx (s : SmX K F H) (g : Gr F H F1 H1) : GrX K F H F1 H1 := ⟨g, s.h.up g⟩
theorem HasT.upd {l : Addr} {u v : HO} (h : HasT K F H) (pl : PlAt H l) (no : ntb u) : HasT K F (L2.upd H l u) ∧ HasT K (L2.upd F l v) (L2.upd H l u) :=
  ⟨⟨fun P hP => ⟨(h.t P hP).1.upd pl no, (h.t P hP).2⟩⟩, ⟨fun P hP => ⟨(h.t P hP).1.upd pl no, by rw [upd_ne ((h.t P hP).1.ne pl)]; exact (h.t P hP).2⟩⟩⟩
theorem SmX.up (s : SmX K F H) (g : Gr F H F1 H1) : SmX K F1 H1 := ⟨g.fh, s.h.up g⟩
end

/-! ### runs -/
/-- a wall: who reads a type looks no farther -/
structure Bx (p : Prop) : Prop where
  o : p
def GoE (X : Cx) (e : Expr) : TE := fun σ H Q => Bx (∀ pins s, Inv X pins σ H s → wpAny (model X.prog X.w) X.A (eval e X.env) (EP X pins σ Q) X.xe s)
def GoT (X : Cx) (e : Expr) : TT := fun σ H Q => Bx (∀ pins s, Inv X pins σ H s → wpAny (model X.prog X.w) X.A (isTrue e X.env (eval e X.env)) (TP X pins σ Q) X.xe s)
def GoA (X : Cx) (es : List Expr) : TA := fun σ H Q => Bx (∀ pos pins s, Inv X pins σ H s → wpAny (model X.prog X.w) X.A (spliced (backTo pos (starEach es X.env))) (AP X pins σ Q) X.xe s)
def GoS (X : Cx) (st : List Stmt) : TS := fun D σ H => Bx (∀ pins s, Inv X pins σ H s → wpAny (model X.prog X.w) X.A (execs st X.env) (SP X pins D) X.xe s)
def GoI (X : Cx) (tg iter : Expr) : TI := fun σ H R => Bx (∀ pins s, Inv X pins σ H s → wpAny (model X.prog X.w) X.A (eval iter X.env) (fun v s1 => wpAny (model X.prog X.w) X.A (pyIter v) (PIE X pins σ tg R) X.xe s1) X.xe s)
section
variable {X : Cx} {e : Expr} {es : List Expr} {st : Stmt} {sts rest : List Stmt} {σ : L2.St} {F H : Hp} {D : Ends}
theorem pe_go : PE X e (GoE X e) := ⟨fun pins s σ H Q I h => h.o pins s I⟩
theorem pt_go : PT X e (GoT X e) := ⟨fun pins s σ H Q I h => h.o pins s I⟩
theorem pa_go : PA X es (GoA X es) := ⟨fun pos pins s σ H Q I h => h.o pos pins s I⟩
theorem pss_go : PSs X sts (GoS X sts) := ⟨fun pins s σ H D I h => h.o pins s I⟩
theorem pi_go {tg iter : Expr} : PI X tg iter (GoI X tg iter) := ⟨fun pins s σ H R I h => h.o pins s I⟩
theorem GoE.of {t : TE} {Q : VK} (p : PE X e t) (h : t σ H Q) : GoE X e σ H Q := ⟨fun pins s I => p.run pins s σ H Q I h⟩
theorem GoT.of {t : TT} {Q : Bool → Hp → Prop} (p : PT X e t) (h : t σ H Q) : GoT X e σ H Q := ⟨fun pins s I => p.run pins s σ H Q I h⟩
theorem GoA.of {t : TA} {Q : List V → Hp → Prop} (p : PA X es t) (h : t σ H Q) : GoA X es σ H Q := ⟨fun pos pins s I => p.run pos pins s σ H Q I h⟩
theorem GoI.of {tg iter : Expr} {t : TI} {R : It → Hp → Prop} (p : PI X tg iter t) (h : t σ H R) : GoI X tg iter σ H R := ⟨fun pins s I => p.run pins s σ H R I h⟩
theorem GoS.of {t : TS} (p : PSs X sts t) (h : t D σ H) : GoS X sts D σ H := ⟨fun pins s I => p.run pins s σ H D I h⟩
theorem GoS.cons {t : TS} (p : PS X st t) (h : t { D with nx := GoS X rest D } σ H) : GoS X (st :: rest) D σ H := GoS.of (pss_cons p pss_go) h
theorem GoS.nil (h : D.nx σ H) : GoS X [] D σ H := GoS.of pss_nil h
theorem GoS.mono {D' : Ends} (h : GoS X sts D σ H) (n : ∀ σ H, D.nx σ H → D'.nx σ H) (r : ∀ v H, D.rt v H → D'.rt v H) (b : ∀ σ H, D.bk σ H → D'.bk σ H) (c : ∀ σ H, D.ct σ H → D'.ct σ H) : GoS X sts D' σ H := .mk fun pins s I =>
  thn (h.o pins s I) fun f s' q => by
    cases f with
    | next => obtain ⟨σ', H', I, q⟩ := q; exact ⟨σ', H', I, n _ _ q⟩
    | brk => obtain ⟨σ', H', I, q⟩ := q; exact ⟨σ', H', I, b _ _ q⟩
    | cont => obtain ⟨σ', H', I, q⟩ := q; exact ⟨σ', H', I, c _ _ q⟩
    | ret u => obtain ⟨v, σ', H', I, r', q⟩ := q; exact ⟨v, σ', H', I, r', r _ _ q⟩

/-! ### e is worth x -/
def Ev {α : Type} [Rp α] (X : Cx) (e : Expr) (σ : L2.St) (F H : Hp) (x : α) : Prop := ∀ F1 H1, GrX X.K F H F1 H1 → ∀ Q : VK, (∀ v F2 H2, Gr F1 H1 F2 H2 → rp X.K F2 v x → Q v H2) → GoE X e σ H1 Q
def EvT (X : Cx) (e : Expr) (σ : L2.St) (F H : Hp) (b : Bool) : Prop := ∀ F1 H1, GrX X.K F H F1 H1 → ∀ Q : Bool → Hp → Prop, (∀ F2 H2, Gr F1 H1 F2 H2 → Q b H2) → GoT X e σ H1 Q
def EvA {τ : Type} [Ra τ] (X : Cx) (es : List Expr) (σ : L2.St) (F H : Hp) (x : τ) : Prop := ∀ F1 H1, GrX X.K F H F1 H1 → ∀ Q : List V → Hp → Prop, (∀ vs F2 H2, Gr F1 H1 F2 H2 → ra X.K F2 vs x → Q vs H2) → GoA X es σ H1 Q
theorem Ev.up {α : Type} [Rp α] {x : α} {F' H' : Hp} (h : Ev X e σ F H x) (g : Gr F H F' H') : Ev X e σ F' H' x := fun F1 H1 g1 => h F1 H1 (.pre g g1)
theorem EvT.up {b : Bool} {F' H' : Hp} (h : EvT X e σ F H b) (g : Gr F H F' H') : EvT X e σ F' H' b := fun F1 H1 g1 => h F1 H1 (.pre g g1)

theorem ev_var {α : Type} [Rp α] {x : α} {v : V} (i : Nat) {n : Str} {pos : Pos} (hs : σ[i]? = some (some v)) (h : rp X.K F v x) (hN : X.N[i]? = some n := by rfl) (hv : Vis X.env.scope n := by first | exact Or.inl rfl | exact Or.inr (Or.inl rfl) | exact Or.inr (Or.inr rfl))
    (hd : (n == ("__debug__" : Str)) = false := by decide) (hcd : (n == ("__classdict__" : Str)) = false := by decide) : Ev X (.Name n pos) σ F H x := fun F1 H1 g Q q =>
  GoE.of (pe_var hN hv hd hcd) ⟨v, hs, q v F1 H1 (.refl g.fh) (Rp.mono g.ff h)⟩
theorem ev_int {i : Int} {j : Nat} {pos : Pos} : Ev X (.Constant (.int i) j pos) σ F H i := fun F1 H1 g Q q => GoE.of pe_int (q (.int i) F1 H1 (.refl g.fh) rfl)
theorem ev_bl {i : Bool} {j : Nat} {pos : Pos} : Ev X (.Constant (.bool i) j pos) σ F H i := fun F1 H1 g Q q => GoE.of pe_bl (q (.bl i) F1 H1 (.refl g.fh) rfl)
theorem ev_str {i : Str} {j : Nat} {pos : Pos} : Ev X (.Constant (.str i) j pos) σ F H i := fun F1 H1 g Q q => GoE.of pe_str (q (.str i) F1 H1 (.refl g.fh) rfl)
theorem ev_unit {j : Nat} {pos : Pos} : Ev X (.Constant .none j pos) σ F H () := fun F1 H1 g Q q => GoE.of pe_non (q .non F1 H1 (.refl g.fh) rfl)
theorem ev_none {α : Type} [Rp α] [NN α] {j : Nat} {pos : Pos} : Ev X (.Constant .none j pos) σ F H (none : Option α) := fun F1 H1 g Q q => GoE.of pe_non (q .non F1 H1 (.refl g.fh) rfl)
theorem Ev.some {α : Type} [Rp α] [NN α] {x : α} (h : Ev X e σ F H x) : Ev X e σ F H (some x) := fun F1 H1 g Q q => h F1 H1 g Q q
/-- a module's constant -/
theorem ev_glob {α : Type} [Rp α] {c : α} {x : Str} {v : V} {u : Value} {pos : Pos} (hm : X.mg x = some u) (r : RelV v u) (h : ∀ F, rp X.K F v c) (hg : Gl X x := by rfl) (hd : (x == ("__debug__" : Str)) = false := by decide) : Ev X (.Name x pos) σ F H c := fun F1 H1 g Q q =>
  GoE.of (pe_glob hg hm r hd) (q v F1 H1 (.refl g.fh) (h F1))

/-! ### args -/
theorem ea_nil : EvA X [] σ F H () := fun F1 H1 g Q q => GoA.of pa_nil (q [] F1 H1 (.refl g.fh) rfl)
theorem ea_cons {α τ : Type} [Rp α] [Ra τ] {x : α} {y : τ} (ha : Ev X e σ F H x) (hr : EvA X es σ F H y) (hs : starEach (e :: es) X.env = (false, eval e X.env) :: starEach es X.env := by rfl) : EvA X (e :: es) σ F H (x, y) := fun F1 H1 g Q q =>
  GoA.of (pa_cons pe_go pa_go hs) (ha F1 H1 g _ fun v F2 H2 g2 r2 => hr F2 H2 (g.trans g2) _ fun vs F3 H3 g3 r3 => q _ F3 H3 (g2.trans g3) ⟨v, vs, rfl, Rp.mono g3.ff r2, r3⟩)

/-! ### two operands, by values -/
/-- the rule r gives z for x and y -/
def Op2 {α β γ : Type} [Rp α] [Rp β] [Rp γ] (K : PySem.W.Frag) (r : R2) (x : α) (y : β) (z : γ) : Prop := ∀ (F H : Hp) (v w : V) (Q : VK), L2.Same F H → rp K F v x → rp K F w y → (∀ u F' H', Gr F H F' H' → rp K F' u z → Q u H') → r v w H Q
theorem ev_bin {α β γ : Type} [Rp α] [Rp β] [Rp γ] {x : α} {y : β} {z : γ} {a b : Expr} {op : Operator} {pos : Pos} {r : R2} (ho : OpR X (binaryOp op) r) (hr : Op2 X.K r x y z) (ha : Ev X a σ F H x) (hb : Ev X b σ F H y) : Ev X (.BinOp a op b pos) σ F H z := fun F1 H1 g Q q =>
  GoE.of (pe_op ho pe_go pe_go) (ha F1 H1 g _ fun v F2 H2 g2 r2 => hb F2 H2 (g.trans g2) _ fun w F3 H3 g3 r3 => hr F3 H3 v w Q g3.fh (Rp.mono g3.ff r2) r3 fun u F4 H4 g4 r4 => q u F4 H4 ((g2.trans g3).trans g4) r4)
theorem ev_cmp {α β : Type} [Rp α] [Rp β] {x : α} {y : β} {z : Bool} {a b : Expr} {op : CmpOp} {pos : Pos} {r : R2} (ho : OpR X (compareOp op) r) (hr : Op2 X.K r x y z) (ha : Ev X a σ F H x) (hb : Ev X b σ F H y) (hm : behindInMarks op b = false) : Ev X (.Compare a [op] [b] pos) σ F H z := fun F1 H1 g Q q =>
  GoE.of (pe_cmpR ho pe_go pe_go hm) (ha F1 H1 g _ fun v F2 H2 g2 r2 => hb F2 H2 (g.trans g2) _ fun w F3 H3 g3 r3 => hr F3 H3 v w Q g3.fh (Rp.mono g3.ff r2) r3 fun u F4 H4 g4 r4 => q u F4 H4 ((g2.trans g3).trans g4) r4)
theorem et_cmp {α β : Type} [Rp α] [Rp β] {x : α} {y : β} {z : Bool} {a b : Expr} {op : CmpOp} {pos : Pos} {r : R2} (ho : OpR X (compareOp op) r) (hr : Op2 X.K r x y z) (ha : Ev X a σ F H x) (hb : Ev X b σ F H y) (hm : behindInMarks op b = false) : EvT X (.Compare a [op] [b] pos) σ F H z := fun F1 H1 g Q q =>
  GoT.of (pt_cmpR ho pe_go pe_go hm) (ha F1 H1 g _ fun v F2 H2 g2 r2 => hb F2 H2 (g.trans g2) _ fun w F3 H3 g3 r3 => hr F3 H3 v w _ g3.fh (Rp.mono g3.ff r2) r3 fun u F4 H4 g4 r4 => by
    have r4 : u = .bl z := r4
    subst r4
    exact ⟨z, rfl, q F4 H4 ((g2.trans g3).trans g4)⟩)
theorem ev_chain {α β γ : Type} [Rp α] [Rp β] [Rp γ] {x : α} {y : β} {z : γ} {p q : Bool} {a b c : Expr} {op op' : CmpOp} {pos : Pos} {r r' : R2} (ho : OpR X (compareOp op) r) (ho' : OpR X (compareOp op') r') (hr : Op2 X.K r x y p) (hr' : Op2 X.K r' y z q)
    (ha : Ev X a σ F H x) (hb : Ev X b σ F H y) (hc : Ev X c σ F H z) (hm : lastMarks [op, op'] [b, c] = false := by with_unfolding_all rfl) : Ev X (.Compare a [op, op'] [b, c] pos) σ F H (p && q) := fun F1 H1 g Q k =>
  GoE.of (pe_chain ho ho' pe_go pe_go pe_go hm) (ha F1 H1 g _ fun v F2 H2 g2 r2 => hb F2 H2 (g.trans g2) _ fun w F3 H3 g3 r3 => hr F3 H3 v w _ g3.fh (Rp.mono g3.ff r2) r3 fun u F4 H4 g4 r4 => by
    have r4 : u = .bl p := r4
    subst r4
    refine ⟨p, rfl, ?_⟩
    cases p with
    | true =>
      rw [if_pos rfl]
      exact hc F4 H4 (((g.trans g2).trans g3).trans g4) _ fun w' F5 H5 g5 r5 => hr' F5 H5 w w' _ g5.fh (Rp.mono (g4.ff.trans g5.ff) r3) r5 fun u' F6 H6 g6 r6 => k u' F6 H6 ((((g2.trans g3).trans g4).trans g5).trans g6) r6
    | false =>
      rw [if_neg Bool.false_ne_true]
      exact k _ F4 H4 ((g2.trans g3).trans g4) rfl)
end
end Gx

/-! Gy: operations. -/
namespace Gx
open PySem PySem.Spec PyProof.Rows L2
open Rp (rp)
open Ra (ra)
section
variable {X : Cx} {K : PySem.W.Frag} {e a b c d : Expr} {es : List Expr} {σ : L2.St} {F H : Hp} {pos : Pos}
/-! ### ints -/
theorem o2_I0 {γ : Type} [Rp γ] {g : Int → Int → V} {x y : Int} {z : γ} (h : ∀ F, rp K F (g x y) z) : Op2 K (rI0 g) x y z := fun F H v w Q s rv rw k => ⟨x, y, rv, rw, k _ F H (.refl s) (h F)⟩
theorem o2_I {γ : Type} [Rp γ] {C : Int → Int → Prop} {g : Int → Int → V} {x y : Int} {z : γ} (hc : C x y) (h : ∀ F, rp K F (g x y) z) : Op2 K (rI C g) x y z := fun F H v w Q s rv rw k => ⟨x, y, rv, rw, hc, k _ F H (.refl s) (h F)⟩
theorem ev_add {x y : Int} (ha : Ev X a σ F H x) (hb : Ev X b σ F H y) : Ev X (.BinOp a .Add b pos) σ F H (x + y) := ev_bin op_add (o2_I0 fun _ => rfl) ha hb
theorem ev_sub {x y : Int} (ha : Ev X a σ F H x) (hb : Ev X b σ F H y) : Ev X (.BinOp a .Sub b pos) σ F H (x - y) := ev_bin op_sub (o2_I0 fun _ => rfl) ha hb
theorem ev_mul {x y : Int} (ha : Ev X a σ F H x) (hb : Ev X b σ F H y) (h : CMul x y) : Ev X (.BinOp a .Mult b pos) σ F H (x * y) := ev_bin op_mul (o2_I h fun _ => rfl) ha hb
theorem ev_div {x y : Int} (ha : Ev X a σ F H x) (hb : Ev X b σ F H y) (h : CDiv x y) : Ev X (.BinOp a .FloorDiv b pos) σ F H (x / y) := ev_bin op_fdiv (o2_I h fun _ => rfl) ha hb
theorem ev_mod {x y : Int} (ha : Ev X a σ F H x) (hb : Ev X b σ F H y) (h : 0 < y) : Ev X (.BinOp a .Mod b pos) σ F H (x % y) := ev_bin op_mod (o2_I h fun _ => rfl) ha hb
theorem ev_powc {x y z : Int} (ha : Ev X a σ F H x) (hb : Ev X b σ F H y) (h : CPow x y) (hz : x ^ y.toNat = z) : Ev X (.BinOp a .Pow b pos) σ F H z := ev_bin op_pow (o2_I h fun _ => congrArg V.int hz) ha hb
theorem ev_neg {x : Int} (ha : Ev X a σ F H x) : Ev X (.UnaryOp .USub a pos) σ F H (-x) := fun F1 H1 g Q q => GoE.of (pe_un un_neg pe_go) (ha F1 H1 g _ fun v F2 H2 g2 r2 => ⟨x, r2, q _ F2 H2 g2 rfl⟩)
theorem CMul.l {i j : Int} (h : -(2 ^ 64) < i ∧ i < 2 ^ 64) : CMul i j := .inl h
theorem CMul.r {i j : Int} (h : -(2 ^ 64) < j ∧ j < 2 ^ 64) : CMul i j := .inr h
/-- a guarded product, quotient, rest -/
instance (i j : Int) : Decidable (CMul i j) := inferInstanceAs (Decidable (_ ∨ _))
instance (i j : Int) : Decidable (CDiv i j) := inferInstanceAs (Decidable (_ ∧ _))
instance (i j : Int) : Decidable (CPow i j) := inferInstanceAs (Decidable (_ ∧ _ ∧ _))
instance (i j : Int) : Decidable (CMulW i j) := inferInstanceAs (Decidable (_ < _))
instance (i j : Int) : Decidable (CDivW i j) := inferInstanceAs (Decidable (_ ∧ _))
def mulG (i j : Int) : Option Int := if CMul i j ∨ CMulW i j then some (i * j) else none
def divG (i j : Int) : Option Int := if CDiv i j ∨ CDivW i j then some (i / j) else none
def modG (i j : Int) : Option Int := if 0 < j then some (i % j) else none
theorem mulG_of {i j r : Int} (h : mulG i j = some r) : (CMul i j ∨ CMulW i j) ∧ i * j = r := by
  unfold mulG at h; split at h
  · exact ⟨by assumption, Option.some.inj h⟩
  · cases h
theorem divG_of {i j r : Int} (h : divG i j = some r) : (CDiv i j ∨ CDivW i j) ∧ i / j = r := by
  unfold divG at h; split at h
  · exact ⟨by assumption, Option.some.inj h⟩
  · cases h
theorem modG_of {i j r : Int} (h : modG i j = some r) : 0 < j ∧ i % j = r := by
  unfold modG at h; split at h
  · exact ⟨by assumption, Option.some.inj h⟩
  · cases h
theorem ev_mulG {x y r : Int} (ha : Ev X a σ F H x) (hb : Ev X b σ F H y) (h : mulG x y = some r) : Ev X (.BinOp a .Mult b pos) σ F H r := by
  obtain ⟨c | c, rfl⟩ := mulG_of h
  · exact ev_mul ha hb c
  · exact ev_bin op_mulW (o2_I c fun _ => rfl) ha hb
theorem ev_divG {x y r : Int} (ha : Ev X a σ F H x) (hb : Ev X b σ F H y) (h : divG x y = some r) : Ev X (.BinOp a .FloorDiv b pos) σ F H r := by
  obtain ⟨c | c, rfl⟩ := divG_of h
  · exact ev_div ha hb c
  · exact ev_bin op_fdivW (o2_I c fun _ => rfl) ha hb
theorem ev_modG {x y r : Int} (ha : Ev X a σ F H x) (hb : Ev X b σ F H y) (h : modG x y = some r) : Ev X (.BinOp a .Mod b pos) σ F H r := by
  obtain ⟨c, rfl⟩ := modG_of h; exact ev_mod ha hb c
/-! ### comparisons -/
theorem o2_lt {x y : Int} : Op2 K (rI0 fun i j => .bl (decide (i < j))) x y (decide (x < y)) := o2_I0 fun _ => rfl
theorem o2_le {x y : Int} : Op2 K (rI0 fun i j => .bl (decide (i ≤ j))) x y (decide (x ≤ y)) := o2_I0 fun _ => rfl
theorem o2_gt {x y : Int} : Op2 K (rI0 fun i j => .bl (decide (j < i))) x y (decide (y < x)) := o2_I0 fun _ => rfl
theorem o2_ge {x y : Int} : Op2 K (rI0 fun i j => .bl (decide (j ≤ i))) x y (decide (y ≤ x)) := o2_I0 fun _ => rfl
/-- scalars that == tells apart -/
class Sc (α : Type) [Rp α] [DecidableEq α] : Prop where
  sc : ∀ {K : PySem.W.Frag} {F : Hp} {v w : V} {x y : α}, rp K F v x → rp K F w y → scal v w = true ∧ decide (v = w) = decide (x = y)
instance : Sc Int := ⟨fun {K F v w x y} h1 h2 => by
  have h1 : v = .int x := h1
  have h2 : w = .int y := h2
  subst h1; subst h2
  exact ⟨rfl, by simp⟩⟩
instance : Sc Str := ⟨fun {K F v w x y} h1 h2 => by
  have h1 : v = .str x := h1
  have h2 : w = .str y := h2
  subst h1; subst h2
  exact ⟨rfl, by simp⟩⟩
instance : Sc Bool := ⟨fun {K F v w x y} h1 h2 => by
  have h1 : v = .bl x := h1
  have h2 : w = .bl y := h2
  subst h1; subst h2
  exact ⟨rfl, by simp⟩⟩
theorem o2_eq {α : Type} [Rp α] [DecidableEq α] [Sc α] {x y : α} : Op2 K rEq x y (decide (x = y)) := fun F H v w Q s rv rw k => by
  obtain ⟨h1, h2⟩ := Sc.sc rv rw
  exact ⟨h1, k _ F H (.refl s) (congrArg V.bl h2)⟩
theorem o2_ne {α : Type} [Rp α] [DecidableEq α] [Sc α] {x y : α} : Op2 K rNe x y (!decide (x = y)) := fun F H v w Q s rv rw k => by
  obtain ⟨h1, h2⟩ := Sc.sc rv rw
  exact ⟨h1, k _ F H (.refl s) (congrArg (fun t => V.bl (!t)) h2)⟩
theorem ev_isNone {α : Type} [Rp α] [NN α] {x : Option α} {j : Nat} {pos' : Pos} (ha : Ev X a σ F H x) : Ev X (.Compare a [.Is] [.Constant .none j pos'] pos) σ F H x.isNone := fun F1 H1 g Q q =>
  GoE.of (pe_cmp (pc_isN pe_go) rfl) (ha F1 H1 g _ fun v F2 H2 g2 r2 => q _ F2 H2 g2 (congrArg V.bl (rp_isNone r2)))
theorem ev_notNone {α : Type} [Rp α] [NN α] {x : Option α} {j : Nat} {pos' : Pos} (ha : Ev X a σ F H x) : Ev X (.Compare a [.IsNot] [.Constant .none j pos'] pos) σ F H (!x.isNone) := fun F1 H1 g Q q =>
  GoE.of (pe_cmp (pc_notN pe_go) rfl) (ha F1 H1 g _ fun v F2 H2 g2 r2 => q _ F2 H2 g2 (congrArg (fun t => V.bl (!t)) (rp_isNone r2)))
theorem et_isNone {α : Type} [Rp α] [NN α] {x : Option α} {j : Nat} {pos' : Pos} (ha : Ev X a σ F H x) : EvT X (.Compare a [.Is] [.Constant .none j pos'] pos) σ F H x.isNone := fun F1 H1 g Q q =>
  GoT.of (pt_cmp (pc_isN pe_go) rfl) (ha F1 H1 g _ fun v F2 H2 g2 r2 => ⟨x.isNone, congrArg V.bl (rp_isNone r2), q F2 H2 g2⟩)
theorem et_notNone {α : Type} [Rp α] [NN α] {x : Option α} {j : Nat} {pos' : Pos} (ha : Ev X a σ F H x) : EvT X (.Compare a [.IsNot] [.Constant .none j pos'] pos) σ F H (!x.isNone) := fun F1 H1 g Q q =>
  GoT.of (pt_cmp (pc_notN pe_go) rfl) (ha F1 H1 g _ fun v F2 H2 g2 r2 => ⟨!x.isNone, congrArg (fun t => V.bl (!t)) (rp_isNone r2), q F2 H2 g2⟩)
/-! ### tests -/
theorem et_val {x : Bool} (h : Ev X e σ F H x) (he : ∀ whole, isTrue e X.env whole = (do let v ← whole; standAt e.pos; holding [v] (truthy v)) := by intro _; rfl) : EvT X e σ F H x := fun F1 H1 g Q q =>
  GoT.of (pt_val pe_go he) (h F1 H1 g _ fun v F2 H2 g2 r2 => ⟨x, r2, q F2 H2 g2⟩)
theorem et_not {x : Bool} (h : EvT X a σ F H x) : EvT X (.UnaryOp .Not a pos) σ F H (!x) := fun F1 H1 g Q q => GoT.of (pt_not pt_go) (h F1 H1 g _ fun F2 H2 g2 => q F2 H2 g2)
theorem ev_not {x : Bool} (h : Ev X a σ F H x) : Ev X (.UnaryOp .Not a pos) σ F H (!x) := fun F1 H1 g Q q => GoE.of (pe_not pe_go) (h F1 H1 g _ fun v F2 H2 g2 r2 => ⟨x, r2, q _ F2 H2 g2 rfl⟩)
def GoW (X : Cx) (e : Expr) : TT := fun σ H Q => Bx (∀ whole pins s, Inv X pins σ H s → wpAny (model X.prog X.w) X.A (isTrue e X.env whole) (TP X pins σ Q) X.xe s)
theorem pw_go : PW X e (GoW X e) := ⟨fun wh pins s σ H Q I h => h.o wh pins s I⟩
theorem GoW.of {t : TT} {Q : Bool → Hp → Prop} (p : PW X e t) (h : t σ H Q) : GoW X e σ H Q := ⟨fun wh pins s I => p.run wh pins s σ H Q I h⟩
def EvW (X : Cx) (e : Expr) (σ : L2.St) (F H : Hp) (b : Bool) : Prop := ∀ F1 H1, GrX X.K F H F1 H1 → ∀ Q : Bool → Hp → Prop, (∀ F2 H2, Gr F1 H1 F2 H2 → Q b H2) → GoW X e σ H1 Q
theorem EvW.t {x : Bool} (h : EvW X e σ F H x) : EvT X e σ F H x := fun F1 H1 g Q q => GoT.of (PW.pt pw_go) (h F1 H1 g Q q)
theorem EvW.cg {x y : Bool} (h : x = y) (r : EvW X e σ F H x) : EvW X e σ F H y := h ▸ r
theorem EvT.cg {x y : Bool} (h : x = y) (r : EvT X e σ F H x) : EvT X e σ F H y := h ▸ r
theorem Ev.cg {α : Type} [Rp α] {x y : α} (h : x = y) (r : Ev X e σ F H x) : Ev X e σ F H y := h ▸ r
theorem ew_and1 {x : Bool} (h : EvT X a σ F H x) : EvW X (.BoolOp .And [a] pos) σ F H x := fun F1 H1 g Q q => GoW.of (pw_and1 pt_go) (h F1 H1 g Q q)
theorem ew_or1 {x : Bool} (h : EvT X a σ F H x) : EvW X (.BoolOp .Or [a] pos) σ F H x := fun F1 H1 g Q q => GoW.of (pw_or1 pt_go) (h F1 H1 g Q q)
theorem ew_and {x r : Bool} {rest : List Expr} (ha : EvT X a σ F H x) (hb : x = true → EvW X (.BoolOp .And (b :: rest) pos) σ F H r) (hn : x = false → r = false) : EvW X (.BoolOp .And (a :: b :: rest) pos) σ F H r := fun F1 H1 g Q q =>
  GoW.of (pw_and pt_go pw_go) (ha F1 H1 g _ fun F2 H2 g2 => by
    cases x with
    | true => rw [if_pos rfl]; exact hb rfl F2 H2 (g.trans g2) Q fun F3 H3 g3 => q F3 H3 (g2.trans g3)
    | false =>
      rw [if_neg Bool.false_ne_true]
      have e := hn rfl
      subst e
      exact q F2 H2 g2)
theorem ew_or {x r : Bool} {rest : List Expr} (ha : EvT X a σ F H x) (hb : x = false → EvW X (.BoolOp .Or (b :: rest) pos) σ F H r) (hn : x = true → r = true) : EvW X (.BoolOp .Or (a :: b :: rest) pos) σ F H r := fun F1 H1 g Q q =>
  GoW.of (pw_or pt_go pw_go) (ha F1 H1 g _ fun F2 H2 g2 => by
    cases x with
    | false => rw [if_neg Bool.false_ne_true]; exact hb rfl F2 H2 (g.trans g2) Q fun F3 H3 g3 => q F3 H3 (g2.trans g3)
    | true =>
      rw [if_pos rfl]
      have e := hn rfl
      subst e
      exact q F2 H2 g2)
theorem ew_andP {x y : Bool} {rest : List Expr} (ha : EvT X a σ F H x) (hb : EvW X (.BoolOp .And (b :: rest) pos) σ F H y) : EvW X (.BoolOp .And (a :: b :: rest) pos) σ F H (x && y) :=
  ew_and ha (fun h => by subst h; exact hb) (fun h => by subst h; rfl)
theorem ew_orP {x y : Bool} {rest : List Expr} (ha : EvT X a σ F H x) (hb : EvW X (.BoolOp .Or (b :: rest) pos) σ F H y) : EvW X (.BoolOp .Or (a :: b :: rest) pos) σ F H (x || y) :=
  ew_or ha (fun h => by subst h; exact hb) (fun h => by subst h; rfl)
theorem ev_one {α : Type} [Rp α] {x : α} {op : BoolOp} (h : Ev X a σ F H x) : Ev X (.BoolOp op [a] pos) σ F H x := fun F1 H1 g Q q => GoE.of (pe_one pe_go) (h F1 H1 g Q q)
theorem ev_and {x r : Bool} {rest : List Expr} (ha : Ev X a σ F H x) (hb : x = true → Ev X (.BoolOp .And (b :: rest) pos) σ F H r) (hn : x = false → r = false) : Ev X (.BoolOp .And (a :: b :: rest) pos) σ F H r := fun F1 H1 g Q q =>
  GoE.of (pe_and pe_go pe_go) (ha F1 H1 g _ fun v F2 H2 g2 r2 => ⟨x, r2, by
    cases x with
    | true => rw [if_pos rfl]; exact hb rfl F2 H2 (g.trans g2) Q fun v F3 H3 g3 => q v F3 H3 (g2.trans g3)
    | false =>
      rw [if_neg Bool.false_ne_true]
      have e := hn rfl
      subst e
      exact q _ F2 H2 g2 rfl⟩)
theorem ev_or {x r : Bool} {rest : List Expr} (ha : Ev X a σ F H x) (hb : x = false → Ev X (.BoolOp .Or (b :: rest) pos) σ F H r) (hn : x = true → r = true) : Ev X (.BoolOp .Or (a :: b :: rest) pos) σ F H r := fun F1 H1 g Q q =>
  GoE.of (pe_or pe_go pe_go) (ha F1 H1 g _ fun v F2 H2 g2 r2 => ⟨x, r2, by
    cases x with
    | false => rw [if_neg Bool.false_ne_true]; exact hb rfl F2 H2 (g.trans g2) Q fun v F3 H3 g3 => q v F3 H3 (g2.trans g3)
    | true =>
      rw [if_pos rfl]
      have e := hn rfl
      subst e
      exact q _ F2 H2 g2 rfl⟩)
theorem ev_andP {x y : Bool} {rest : List Expr} (ha : Ev X a σ F H x) (hb : Ev X (.BoolOp .And (b :: rest) pos) σ F H y) : Ev X (.BoolOp .And (a :: b :: rest) pos) σ F H (x && y) :=
  ev_and ha (fun h => by subst h; exact hb) (fun h => by subst h; rfl)
theorem ev_orP {x y : Bool} {rest : List Expr} (ha : Ev X a σ F H x) (hb : Ev X (.BoolOp .Or (b :: rest) pos) σ F H y) : Ev X (.BoolOp .Or (a :: b :: rest) pos) σ F H (x || y) :=
  ev_or ha (fun h => by subst h; exact hb) (fun h => by subst h; rfl)
theorem ev_if {α : Type} [Rp α] {x : α} {t : Bool} (hc : EvT X c σ F H t) (ha : t = true → Ev X a σ F H x) (hb : t = false → Ev X b σ F H x) : Ev X (.IfExp c a b pos) σ F H x := fun F1 H1 g Q q =>
  GoE.of (pe_ifExp pt_go pe_go pe_go) (hc F1 H1 g _ fun F2 H2 g2 => by
    cases t with
    | true => rw [if_pos rfl]; exact ha rfl F2 H2 (g.trans g2) Q fun v F3 H3 g3 => q v F3 H3 (g2.trans g3)
    | false => rw [if_neg Bool.false_ne_true]; exact hb rfl F2 H2 (g.trans g2) Q fun v F3 H3 g3 => q v F3 H3 (g2.trans g3))
theorem ev_ifP {α : Type} [Rp α] {x y : α} {t : Bool} (hc : EvT X c σ F H t) (ha : Ev X a σ F H x) (hb : Ev X b σ F H y) : Ev X (.IfExp c a b pos) σ F H (if t then x else y) :=
  ev_if hc (fun h => by subst h; exact ha) (fun h => by subst h; exact hb)

/-! ### items -/
theorem Rps.get {α : Type} [Rp α] : ∀ {vs : List V} {xs : List α} {i : Nat} {x : α}, Rps K F vs xs → xs[i]? = some x → ∃ v, vs[i]? = some v ∧ rp K F v x
  | _, _, _, _, .nil, e => by simp at e
  | _, _, 0, _, .cons r _, e => by simp at e; subst e; exact ⟨_, rfl, r⟩
  | _, _, i + 1, x, .cons _ t, e => by
    obtain ⟨u, h1, h2⟩ := Rps.get (i := i) (x := x) t (by simpa using e)
    exact ⟨u, by simpa using h1, h2⟩
theorem Rps.atI {α : Type} [Rp α] {vs : List V} {xs : List α} {i : Int} {x : α} (h : Rps K F vs xs) (e : atI xs i = some x) : ∃ v, L2.atI vs i = some v ∧ rp K F v x := by
  unfold L2.atI at e ⊢
  rw [h.length]
  cases q : ixN xs.length i with
  | none => rw [q] at e; cases e
  | some j =>
    rw [q] at e
    exact h.get e
theorem ev_ixL {α : Type} [Rp α] {xs : List α} {i : Int} {x : α} (ha : Ev X a σ F H xs) (hb : Ev X b σ F H i) (h : L2.atI xs i = some x) (hs : PlainIx b := by exact fun _ _ => rfl) : Ev X (.Subscript a b pos) σ F H x := fun F1 H1 g Q q =>
  GoE.of (pe_ix ix_list pe_go pe_go hs) (ha F1 H1 g _ fun v F2 H2 g2 r2 => hb F2 H2 (g.trans g2) _ fun w F3 H3 g3 r3 => by
    obtain ⟨p, vs, rfl, sq, rs⟩ := Rp.mono g3.ff r2
    obtain ⟨y, hy, ry⟩ := rs.atI h
    exact ⟨p, vs, i, y, rfl, r3, g3.fh.seq sq, hy, q y F3 H3 (g2.trans g3) ry⟩)
theorem ev_ixTp {α θ : Type} [Rp α] [Rp θ] [TL θ α] {xs : θ} {i : Int} {x : α} (ha : Ev X a σ F H xs) (hb : Ev X b σ F H i) (h : L2.atI (TL.l xs) i = some x) (hs : PlainIx b := by exact fun _ _ => rfl) : Ev X (.Subscript a b pos) σ F H x := fun F1 H1 g Q q =>
  GoE.of (pe_ix ix_tup pe_go pe_go hs) (ha F1 H1 g _ fun v F2 H2 g2 r2 => hb F2 H2 (g.trans g2) _ fun w F3 H3 g3 r3 => by
    obtain ⟨p, vs, rfl, sq, rs⟩ := TL.sq (Rp.mono g3.ff r2)
    obtain ⟨y, hy, ry⟩ := rs.atI h
    exact ⟨p, vs, i, y, rfl, r3, sqT_mono g3.fh sq, hy, q y F3 H3 (g2.trans g3) ry⟩)
/-- the i-th of a row -/
def Proj {τ α : Type} [Ra τ] [Rp α] (i : Int) (y : τ) (x : α) : Prop := ∀ (K : PySem.W.Frag) (F : Hp) (vs : List V), ra K F vs y → ∃ v, L2.atI vs i = some v ∧ rp K F v x
theorem pj0 {α τ : Type} [Rp α] [Ra τ] {x : α} {y : τ} : Proj 0 (x, y) x := fun K F vs ⟨v, r, e, p, q⟩ => ⟨v, by subst e; show (ixN (r.length + 1) 0).bind _ = _; unfold ixN; rw [if_pos (by decide), if_pos (by omega)]; rfl, p⟩
theorem pj1 {α β τ : Type} [Rp α] [Rp β] [Ra τ] {x : α} {z : β} {y : τ} : Proj 1 (x, z, y) z := fun K F vs ⟨v, r, e, p, v', r', e', p', q⟩ => ⟨v', by subst e; subst e'; show (ixN (r'.length + 1 + 1) 1).bind _ = _; unfold ixN; rw [if_pos (by decide), if_pos (by omega)]; rfl, p'⟩
theorem pj2 {α β γ τ : Type} [Rp α] [Rp β] [Rp γ] [Ra τ] {x : α} {z : β} {u : γ} {y : τ} : Proj 2 (x, z, u, y) u := fun K F vs ⟨v, r, e, p, v', r', e', p', v2, r2, e2, p2, q⟩ => ⟨v2, by subst e; subst e'; subst e2; show (ixN (r2.length + 1 + 1 + 1) 2).bind _ = _; unfold ixN; rw [if_pos (by decide), if_pos (by omega)]; rfl, p2⟩
theorem pj3 {α β γ δ τ : Type} [Rp α] [Rp β] [Rp γ] [Rp δ] [Ra τ] {x : α} {z : β} {u : γ} {t : δ} {y : τ} : Proj 3 (x, z, u, t, y) t := fun K F vs ⟨v, r, e, p, v', r', e', p', v2, r2, e2, p2, v3, r3, e3, p3, q⟩ => ⟨v3, by subst e; subst e'; subst e2; subst e3; show (ixN (r3.length + 1 + 1 + 1 + 1) 3).bind _ = _; unfold ixN; rw [if_pos (by decide), if_pos (by omega)]; rfl, p3⟩
theorem pj4 {α β γ δ ε τ : Type} [Rp α] [Rp β] [Rp γ] [Rp δ] [Rp ε] [Ra τ] {x : α} {z : β} {u : γ} {t : δ} {t2 : ε} {y : τ} : Proj 4 (x, z, u, t, t2, y) t2 := fun K F vs ⟨v, r, e, p, v', r', e', p', v2, r2, e2, p2, v3, r3, e3, p3, v4, r4, e4, p4, q⟩ => ⟨v4, by subst e; subst e'; subst e2; subst e3; subst e4; show (ixN (r4.length + 1 + 1 + 1 + 1 + 1) 4).bind _ = _; unfold ixN; rw [if_pos (by decide), if_pos (by omega)]; rfl, p4⟩
/-- what stands as a tuple -/
class Tup (θ : Type) (τ : outParam Type) [Ra τ] [Rp θ] where
  row : θ → τ
  eq : ∀ {K : PySem.W.Frag} {F : Hp} {v : V} {x : θ}, rp K F v x ↔ rpT row K F v x
instance {α : Type} [Rp α] : Tup (T1 α) (α × Unit) := ⟨T1.row, Iff.rfl⟩
instance {α β : Type} [Rp α] [Rp β] : Tup (T2 α β) (α × β × Unit) := ⟨T2.row, Iff.rfl⟩
instance {α β γ : Type} [Rp α] [Rp β] [Rp γ] : Tup (T3 α β γ) (α × β × γ × Unit) := ⟨T3.row, Iff.rfl⟩
instance {α β γ δ : Type} [Rp α] [Rp β] [Rp γ] [Rp δ] : Tup (T4 α β γ δ) (α × β × γ × δ × Unit) := ⟨T4.row, Iff.rfl⟩
instance {α β γ δ ε : Type} [Rp α] [Rp β] [Rp γ] [Rp δ] [Rp ε] : Tup (T5 α β γ δ ε) (α × β × γ × δ × ε × Unit) := ⟨T5.row, Iff.rfl⟩
theorem ev_ixT {θ τ α : Type} [Ra τ] [Rp θ] [Tup θ τ] [Rp α] {t : θ} {i : Int} {x : α} (ha : Ev X a σ F H t) (hb : Ev X b σ F H i) (h : Proj i (Tup.row t) x) (hs : PlainIx b := by exact fun _ _ => rfl) : Ev X (.Subscript a b pos) σ F H x := fun F1 H1 g Q q =>
  GoE.of (pe_ix ix_tup pe_go pe_go hs) (ha F1 H1 g _ fun v F2 H2 g2 r2 => hb F2 H2 (g.trans g2) _ fun w F3 H3 g3 r3 => by
    obtain ⟨p, vs, rfl, sq, rs⟩ := Tup.eq.mp (Rp.mono g3.ff r2)
    obtain ⟨y, hy, ry⟩ := h _ _ _ rs
    exact ⟨p, vs, i, y, rfl, r3, seqT_mono g3.fh sq, hy, q y F3 H3 (g2.trans g3) ry⟩)
/-- a sign of a text -/
def sAt (z : Str) (i : Int) : Option Str := if z.length ≤ sizeLine then (L2.atI z.cps.toList i).map fun c => ⟨#[c]⟩ else none
theorem ev_ixS {z : Str} {i : Int} {x : Str} (ha : Ev X a σ F H z) (hb : Ev X b σ F H i) (h : sAt z i = some x) (hs : PlainIx b := by exact fun _ _ => rfl) : Ev X (.Subscript a b pos) σ F H x := fun F1 H1 g Q q =>
  GoE.of (pe_ix ix_str pe_go pe_go hs) (ha F1 H1 g _ fun v F2 H2 g2 r2 => hb F2 H2 (g.trans g2) _ fun w F3 H3 g3 r3 => by
    unfold sAt at h
    split at h
    · rename_i hz
      obtain ⟨c, hc, rfl⟩ := Option.map_eq_some_iff.mp h
      exact ⟨z, i, c, r2, r3, hz, hc, q _ F3 H3 (g2.trans g3) rfl⟩
    · cases h)
/-! ### slices -/
def GoO (X : Cx) (o : Option Expr) : TO := fun σ H Q => Bx (∀ pins s, Inv X pins σ H s → wpAny (model X.prog X.w) X.A (evalPart o X.env) (fun u s' => ∃ o H', Inv X pins σ H' s' ∧ IsPart u o ∧ Q o H') X.xe s)
theorem po_go {o : Option Expr} : PO X o (GoO X o) := ⟨fun pins s σ H Q I h => h.o pins s I⟩
theorem GoO.of {o : Option Expr} {t : TO} {Q : Option Int → Hp → Prop} (p : PO X o t) (h : t σ H Q) : GoO X o σ H Q := ⟨fun pins s I => p.run pins s σ H Q I h⟩
def EvO (X : Cx) (o : Option Expr) (σ : L2.St) (F H : Hp) (i : Option Int) : Prop := ∀ F1 H1, GrX X.K F H F1 H1 → ∀ Q : Option Int → Hp → Prop, (∀ F2 H2, Gr F1 H1 F2 H2 → Q i H2) → GoO X o σ H1 Q
theorem eo_none : EvO X none σ F H none := fun F1 H1 g Q q => GoO.of po_none (q F1 H1 (.refl g.fh))
theorem eo_some {i : Int} (h : Ev X e σ F H i) : EvO X (some e) σ F H (some i) := fun F1 H1 g Q q => GoO.of (po_some pe_go) (h F1 H1 g _ fun v F2 H2 g2 r2 => ⟨i, r2, q F2 H2 g2⟩)
/-- a part of a list -/
def cut {α : Type} (xs : List α) (lo hi : Option Int) : List α := (xs.drop (HT.sIx xs.length 0 lo)).take (HT.sIx xs.length xs.length hi - HT.sIx xs.length 0 lo)
theorem Rps.drop {α : Type} [Rp α] : ∀ {vs : List V} {xs : List α} (n : Nat), Rps K F vs xs → Rps K F (vs.drop n) (xs.drop n)
  | _, _, 0, h => h
  | _, _, _ + 1, .nil => .nil
  | _, _, n + 1, .cons _ t => Rps.drop n t
theorem Rps.take {α : Type} [Rp α] : ∀ {vs : List V} {xs : List α} (n : Nat), Rps K F vs xs → Rps K F (vs.take n) (xs.take n)
  | _, _, 0, _ => .nil
  | _, _, _ + 1, .nil => .nil
  | _, _, n + 1, .cons r t => .cons r (Rps.take n t)
theorem Rps.append {α : Type} [Rp α] : ∀ {vs ws : List V} {xs ys : List α}, Rps K F vs xs → Rps K F ws ys → Rps K F (vs ++ ws) (xs ++ ys)
  | _, _, _, _, .nil, s => s
  | _, _, _, _, .cons r t, s => .cons r (Rps.append t s)
theorem Rps.cut {α : Type} [Rp α] {vs : List V} {xs : List α} (h : Rps K F vs xs) (lo hi : Option Int) : Rps K F (cutV vs lo hi) (Gx.cut xs lo hi) := by
  unfold cutV Gx.cut
  rw [h.length]
  exact (h.drop _).take _

/-! ### a new list that is private so far -/
/-- a thing that is changed where it stands -/
class Ob (α : Type) [Rp α] where
  ob : PySem.W.Frag → Hp → HO → α → Prop
  mono : ∀ {K : PySem.W.Frag} {F F' : Hp} {o : HO} {x : α}, L2.Same F F' → ob K F o x → ob K F' o x
  mu : ∀ {K : PySem.W.Frag} {F : Hp} {o : HO} {x : α}, ob K F o x → Mut (some o)
  ls : ∀ {K : PySem.W.Frag} {F : Hp} {o : HO} {x : α}, ob K F o x → lstish o
  fz : ∀ {K : PySem.W.Frag} {F : Hp} {o : HO} {x : α} {l : Addr} {od : Obj}, F l = some (.frz od o) → ob K F o x → rp K F (.ref l) x
open Ob (ob)
instance {α : Type} [Rp α] : Ob (List α) := ⟨fun K F o xs => ∃ vs, o = .lst vs ∧ Rps K F vs xs, fun s ⟨vs, e, r⟩ => ⟨vs, e, r.mono s⟩, fun ⟨vs, e, r⟩ => e ▸ trivial, fun ⟨vs, e, r⟩ => e ▸ trivial,
  fun {K F o x l od} h ⟨vs, e, r⟩ => ⟨l, vs, rfl, .inl (.inr ⟨od, e ▸ h⟩), r⟩⟩
theorem Ob.pl {α : Type} [Rp α] [Ob α] {o : HO} {x : α} (h : ob K F o x) : pln o := by
  have m := Ob.mu h
  have l := Ob.ls h
  cases o <;> first | trivial | exact m | exact l
theorem ob_lst {α : Type} [Rp α] {vs : List V} {xs : List α} (r : Rps K F vs xs) : ob K F (.lst vs) xs := ⟨vs, rfl, r⟩
/-- e gives a new thing x; nothing else knows it -/
def EvN {α : Type} [Rp α] [Ob α] (X : Cx) (e : Expr) (σ : L2.St) (F H : Hp) (x : α) : Prop := ∀ F1 H1, GrX X.K F H F1 H1 → ∀ Q : VK, (∀ l o F2 H2, Gr F1 H1 F2 H2 → H1 l = none → F2 l = none → H2 l = some o → ob X.K F2 o x → Q (.ref l) H2) → GoE X e σ H1 Q
theorem Gr.freeze {F H : Hp} {F0 H0 : Hp} {l : Addr} {o : HO} (g : Gr F0 H0 F H) (n : H0 l = none) (hf : F l = none) (pl : PlAt H l) (no : ntb o := by trivial) : Gr F0 H0 (upd F l o) (upd H l o) := by
  refine ⟨fun b u e => ?_, fun b u e => ?_, g.hh.poke n pl no, fun a o h ns => ?_⟩
  · have e1 := g.ff b u e
    rw [upd_ne (ne_of_none e1 hf)]; exact e1
  · by_cases hb : b = l
    · subst hb; rw [upd_same] at e ⊢; exact e
    · rw [upd_ne hb] at e ⊢; exact g.fh _ _ e
  · by_cases hb : a = l
    · subst hb; rw [n] at h; cases h
    · rw [upd_ne hb]; exact g.fr a o h ns
theorem GrX.freeze {F H : Hp} {F0 H0 : Hp} {l : Addr} {o : HO} (g : GrX K F0 H0 F H) (n : H0 l = none) (hf : F l = none) (pl : PlAt H l) (no : ntb o := by trivial) : GrX K F0 H0 (upd F l o) (upd H l o) := ⟨g.toGr.freeze n hf pl no, (g.h.upd pl no).2⟩
theorem GoE.lock {Q Q' : VK} (h : GoE X e σ H Q') (k : ∀ v H2, Q' v H2 → ∃ l o, H2 l = some o ∧ Mut (some o) ∧ ∀ od, Q v (upd H2 l (.frz od o))) : GoE X e σ H Q := .mk fun pins s I => thn (h.o pins s I) fun v s' ⟨x, H', I', r, q⟩ => by
  obtain ⟨l, o, hl, mu, q'⟩ := k _ _ q
  obtain ⟨od, I2⟩ := I'.lock hl mu
  exact ⟨x, _, I2, r, q' od⟩
theorem GoE.locked {Q : VK} {l : Addr} {o : HO} (hl : H l = some o) (mu : Mut (some o)) (h : ∀ od, GoE X e σ (upd H l (.frz od o)) fun v H2 => H2 l = some (.frz od o) ∧ Q v (upd H2 l o)) : GoE X e σ H Q := .mk fun pins s I => by
  obtain ⟨od, I1⟩ := I.lock hl mu
  exact thn ((h od).o pins s I1) fun v s' ⟨x, H', I2, r, e2, q⟩ => ⟨x, _, I2.unlock e2 (I.nofrz hl mu), r, q⟩
theorem GoT.locked {Q : Bool → Hp → Prop} {l : Addr} {o : HO} (hl : H l = some o) (mu : Mut (some o)) (h : ∀ od, GoT X e σ (upd H l (.frz od o)) fun v H2 => H2 l = some (.frz od o) ∧ Q v (upd H2 l o)) : GoT X e σ H Q := .mk fun pins s I => by
  obtain ⟨od, I1⟩ := I.lock hl mu
  exact thn ((h od).o pins s I1) fun v s' q0 => by
    obtain ⟨H', I2, e2, q⟩ := q0
    exact ⟨_, I2.unlock e2 (I.nofrz hl mu), q⟩
theorem GoS.locked {sts : List Stmt} {D : Ends} {l : Addr} {o : HO} (hl : H l = some o) (mu : Mut (some o)) (h : ∀ od, GoS X sts D σ (upd H l (.frz od o))) : GoS X sts D σ H := .mk fun pins s I => by
  obtain ⟨od, I1⟩ := I.lock hl mu
  exact (h od).o pins s I1
theorem same_upd {F : Hp} {l : Addr} {o : HO} (hf : F l = none) : L2.Same F (upd F l o) := fun b u e => by
  rw [upd_ne (ne_of_none e hf)]; exact e
theorem rp_lst {α : Type} [Rp α] {l : Addr} {vs : List V} {xs : List α} (hf : F l = none) (r : Rps K F vs xs) : rp K (upd F l (.lst vs)) (.ref l) xs := ⟨l, vs, rfl, SqL.of upd_same, r.mono (same_upd hf)⟩
theorem EvN.ev {α : Type} [Rp α] [Ob α] {x : α} (h : EvN X e σ F H x) : Ev X e σ F H x := fun F1 H1 g Q q =>
  GoE.lock (Q' := fun v H2 => ∃ l o F2, v = .ref l ∧ Gr F1 H1 F2 H2 ∧ H1 l = none ∧ F2 l = none ∧ H2 l = some o ∧ ob X.K F2 o x) (h F1 H1 g _ fun l o F2 H2 g2 n2 f2 h2 r2 => ⟨l, o, F2, rfl, g2, n2, f2, h2, r2⟩)
    fun v H2 ⟨l, o, F2, e, g2, n2, f2, h2, r2⟩ => ⟨l, o, h2, Ob.mu r2, fun od => by
      subst e
      exact q _ (upd F2 l (.frz od o)) _ (g2.freeze n2 f2 ⟨o, h2, Ob.pl r2⟩) (Ob.fz upd_same (Ob.mono (same_upd f2) r2))⟩
theorem EvN.newO {α : Type} [Rp α] [Ob α] {x : α} {F1 H1 : Hp} {Q : VK} {F2 H2 : Hp} {o : HO} {p : Addr} (q : ∀ l o F2 H2, Gr F1 H1 F2 H2 → H1 l = none → F2 l = none → H2 l = some o → ob X.K F2 o x → Q (.ref l) H2)
    (g : Gr F1 H1 F2 H2) (hp : H2 p = none) (r : ob X.K F2 o x) : Q (.ref p) (upd H2 p o) :=
  q p o F2 _ (g.trans (Gr.newP g.fh hp (Ob.pl r).ntb)) (g.hh.free hp) (g.fh.free hp) upd_same r
theorem EvN.new {α : Type} [Rp α] {xs : List α} {F1 H1 : Hp} {Q : VK} {F2 H2 : Hp} {vs : List V} {p : Addr} (q : ∀ l o F2 H2, Gr F1 H1 F2 H2 → H1 l = none → F2 l = none → H2 l = some o → ob X.K F2 o xs → Q (.ref l) H2)
    (g : Gr F1 H1 F2 H2) (hp : H2 p = none) (r : Rps X.K F2 vs xs) : Q (.ref p) (upd H2 p (.lst vs)) := EvN.newO q g hp (ob_lst r)
theorem en_slice {α : Type} [Rp α] {xs : List α} {lo hi : Option Expr} {i j : Option Int} {p2 : Pos} (ha : Ev X a σ F H xs) (hl : EvO X lo σ F H i) (hh : EvO X hi σ F H j) : EvN X (.Subscript a (.Slice lo hi none p2) pos) σ F H (cut xs i j) := fun F1 H1 g Q q =>
  GoE.of (pe_slice sl_list pe_go po_go po_go) (ha F1 H1 g _ fun v F2 H2 g2 r2 => hl F2 H2 (g.trans g2) _ fun F3 H3 g3 => hh F3 H3 ((g.trans g2).trans g3) _ fun F4 H4 g4 => by
    obtain ⟨p, vs, rfl, sq, rs⟩ := Rp.mono (g3.ff.trans g4.ff) r2
    exact ⟨p, vs, rfl, g4.fh.seq sq, fun p hp => EvN.new q ((g2.trans g3).trans g4) hp (rs.cut i j)⟩)
/-- a part of a text -/
def sCut (z : Str) (lo hi : Option Int) : Option Str := if z.length ≤ sizeLine then some (cutS z lo hi) else none
theorem ev_sliceS {z : Str} {lo hi : Option Expr} {i j : Option Int} {p2 : Pos} {r : Str} (ha : Ev X a σ F H z) (hl : EvO X lo σ F H i) (hh : EvO X hi σ F H j) (h : sCut z i j = some r) : Ev X (.Subscript a (.Slice lo hi none p2) pos) σ F H r := fun F1 H1 g Q q =>
  GoE.of (pe_slice sl_str pe_go po_go po_go) (ha F1 H1 g _ fun v F2 H2 g2 r2 => hl F2 H2 (g.trans g2) _ fun F3 H3 g3 => hh F3 H3 ((g.trans g2).trans g3) _ fun F4 H4 g4 => by
    unfold sCut at h
    split at h
    · rename_i hz
      exact ⟨z, r2, hz, q _ F4 H4 ((g2.trans g3).trans g4) (congrArg V.str (Option.some.inj h))⟩
    · cases h)
/-! ### displays -/
def EvL {α : Type} [Rp α] (X : Cx) (es : List Expr) (σ : L2.St) (F H : Hp) (xs : List α) : Prop := ∀ F1 H1, GrX X.K F H F1 H1 → ∀ Q : List V → Hp → Prop, (∀ vs F2 H2, Gr F1 H1 F2 H2 → Rps X.K F2 vs xs → Q vs H2) → GoA X es σ H1 Q
theorem el_nil {α : Type} [Rp α] : EvL X [] σ F H ([] : List α) := fun F1 H1 g Q q => GoA.of pa_nil (q [] F1 H1 (.refl g.fh) .nil)
theorem el_cons {α : Type} [Rp α] {x : α} {xs : List α} (ha : Ev X e σ F H x) (hr : EvL X es σ F H xs) (hs : starEach (e :: es) X.env = (false, eval e X.env) :: starEach es X.env := by rfl) : EvL X (e :: es) σ F H (x :: xs) := fun F1 H1 g Q q =>
  GoA.of (pa_cons pe_go pa_go hs) (ha F1 H1 g _ fun v F2 H2 g2 r2 => hr F2 H2 (g.trans g2) _ fun vs F3 H3 g3 r3 => q _ F3 H3 (g2.trans g3) (.cons (Rp.mono g3.ff r2) r3))
theorem en_list {α : Type} [Rp α] {xs : List α} (h : EvL X es σ F H xs) (hz : xs.length ≤ sizeLine) : EvN X (.List es pos) σ F H xs := fun F1 H1 g Q q =>
  GoE.of (pe_lst pa_go) (h F1 H1 g _ fun vs F2 H2 g2 r2 => ⟨by rw [r2.length]; exact hz, fun p hp => EvN.new q g2 hp r2⟩)
theorem ev_tp {α : Type} [Rp α] {xs : List α} {k : Nat} (h : EvL X es σ F H xs) (hz : xs.length ≤ sizeLine) : Ev X (.Tuple es k pos) σ F H (Tp.mk xs) := fun F1 H1 g Q q =>
  GoE.of (pe_tup pa_go) (h F1 H1 g _ fun vs F2 H2 g2 r2 => ⟨by rw [r2.length]; exact hz, fun p hp => q _ (upd F2 p (.tup vs)) _ (g2.trans (Gr.new g2.fh hp)) ⟨p, vs, rfl, upd_same, r2.mono (same_upd (g2.fh.free hp))⟩⟩)
class RaN (τ : Type) [Ra τ] where
  n : Nat
  len : ∀ {K : PySem.W.Frag} {F : Hp} {vs : List V} {x : τ}, ra K F vs x → vs.length = n
instance : RaN Unit := ⟨0, fun {K F vs x} h => by
  have e : vs = [] := h
  rw [e]; rfl⟩
instance {α τ : Type} [Rp α] [Ra τ] [RaN τ] : RaN (α × τ) := ⟨RaN.n τ + 1, fun ⟨v, r, e, p, q⟩ => by rw [e, List.length_cons, RaN.len q]⟩
theorem ev_tup {θ τ : Type} [Ra τ] [RaN τ] [Rp θ] [Tup θ τ] {x : θ} {k : Nat} (h : EvA X es σ F H (Tup.row x)) (hz : RaN.n τ ≤ sizeLine) : Ev X (.Tuple es k pos) σ F H x := fun F1 H1 g Q q =>
  GoE.of (pe_tup pa_go) (h F1 H1 g _ fun vs F2 H2 g2 r2 => ⟨by rw [RaN.len r2]; exact hz, fun p hp => q _ (upd F2 p (.tup vs)) _ (g2.trans (Gr.new g2.fh hp)) (Tup.eq.mpr ⟨p, vs, rfl, upd_same, Ra.mono (same_upd (g2.fh.free hp)) r2⟩)⟩)
theorem ev_tup2 {α β : Type} [Rp α] [Rp β] {x : α} {y : β} {k : Nat} (h : EvA X es σ F H (x, y, ())) : Ev X (.Tuple es k pos) σ F H (T2.mk x y) := ev_tup (θ := T2 α β) h (by show 2 ≤ sizeLine; decide)
theorem ev_tup3 {α β γ : Type} [Rp α] [Rp β] [Rp γ] {x : α} {y : β} {z : γ} {k : Nat} (h : EvA X es σ F H (x, y, z, ())) : Ev X (.Tuple es k pos) σ F H (T3.mk x y z) := ev_tup (θ := T3 α β γ) h (by show 3 ≤ sizeLine; decide)
theorem ev_tup4 {α β γ δ : Type} [Rp α] [Rp β] [Rp γ] [Rp δ] {x : α} {y : β} {z : γ} {u : δ} {k : Nat} (h : EvA X es σ F H (x, y, z, u, ())) : Ev X (.Tuple es k pos) σ F H (T4.mk x y z u) := ev_tup (θ := T4 α β γ δ) h (by show 4 ≤ sizeLine; decide)
theorem ev_tup1 {α : Type} [Rp α] {x : α} {k : Nat} (h : EvA X es σ F H (x, ())) : Ev X (.Tuple es k pos) σ F H (T1.mk x) := ev_tup (θ := T1 α) h (by show 1 ≤ sizeLine; decide)

/-! ### calls -/
/-- the promise: from arguments a with f a = some r a value of r; new things alone are made -/
def Pr (K : PySem.W.Frag) {τ ρ : Type} [Ra τ] [Rp ρ] (f : τ → Option ρ) : Sp := fun vs H Q _ => ∃ F a r, SmX K F H ∧ ra K F vs a ∧ f a = some r ∧ ∀ F' H' u, Gr F H F' H' → rp K F' u r → Q u H'
theorem ev_call {τ ρ : Type} [Ra τ] [Rp ρ] {f : τ → Option ρ} {y : τ} {r : ρ} {k : Nat} {fa : Addr} {fd : FuncData} {ps : List Str} {x : Str} {p : Pos} (Fn : FnOk X.prog X.w X.K X.mg X.base CX0 k fa fd ps (Pr X.K f)) (hr : Room k X.A) (hm : X.mg x = some (.ref fa))
    (hk : PySem.W.keepIn X.K (.ref fa) = true) (hb : Binds X.K fd ps []) (ha : EvA X (e :: es) σ F H y) (h : f y = some r) (hg : Gl X x := by rfl) (hdb : (x == ("__debug__" : Str)) = false := by decide)
    (he : starEach (e :: es) X.env = (false, eval e X.env) :: starEach es X.env := by rfl) (hpl : (backTo pos (starEach es X.env)).any (·.1) = false := by rfl) : Ev X (.Call (.Name x p) (e :: es) [] pos) σ F H r := fun F1 H1 g Q q =>
  GoE.of (pe_call Fn hr hg hm hk hb .nil pass0 pa_go hdb he hpl) (ha F1 H1 g _ fun vs F2 H2 g2 r2 => ⟨F2, y, r, (g.trans g2).sm, by rw [List.append_nil]; exact r2, h, fun F3 H3 u g3 r3 => q u F3 H3 (g2.trans g3) r3⟩)
theorem ev_call0 {ρ : Type} [Rp ρ] {f : Unit → Option ρ} {r : ρ} {k : Nat} {fa : Addr} {fd : FuncData} {ps : List Str} {x : Str} {p : Pos} (Fn : FnOk X.prog X.w X.K X.mg X.base CX0 k fa fd ps (Pr X.K f)) (hr : Room k X.A) (hm : X.mg x = some (.ref fa))
    (hk : PySem.W.keepIn X.K (.ref fa) = true) (hb : Binds X.K fd ps []) (h : f () = some r) (hg : Gl X x := by rfl) (hdb : (x == ("__debug__" : Str)) = false := by decide) : Ev X (.Call (.Name x p) [] [] pos) σ F H r := fun F1 H1 g Q q =>
  GoE.of (pe_call0 Fn hr hg hm hk hb .nil pass0 hdb) ⟨F1, (), r, g.sm, rfl, h, fun F3 H3 u g3 r3 => q u F3 H3 g3 r3⟩
/-- a built-in by its rule -/
def OpC {τ ρ : Type} [Ra τ] [Rp ρ] (K : PySem.W.Frag) (r : List V → Hp → VK → Prop) (y : τ) (z : ρ) : Prop := ∀ (F H : Hp) (vs : List V) (Q : VK), L2.Same F H → ra K F vs y → (∀ u F' H', Gr F H F' H' → rp K F' u z → Q u H') → r vs H Q
theorem ev_callB {τ ρ : Type} [Ra τ] [Rp ρ] {y : τ} {z : ρ} {id : String} {x : Str} {p : Pos} {r : List V → Hp → VK → Prop} (hc : CallR X (.builtin id) r) (ho : OpC X.K r y z) (hm : X.mg x = none) (hv : bootBuiltins x = some (.builtin id)) (ha : EvA X (e :: es) σ F H y) (hg : Gl X x := by rfl)
    (hn : x ≠ "__name__" := by decide) (hdb : (x == ("__debug__" : Str)) = false := by decide)
    (he : starEach (e :: es) X.env = (false, eval e X.env) :: starEach es X.env := by rfl) (hpl : (backTo pos (starEach es X.env)).any (·.1) = false := by rfl) : Ev X (.Call (.Name x p) (e :: es) [] pos) σ F H z := fun F1 H1 g Q q =>
  GoE.of (pe_callB hc hg hm hv pa_go hn hdb he hpl) (ha F1 H1 g _ fun vs F2 H2 g2 r2 => ho F2 H2 vs Q g2.fh r2 fun u F3 H3 g3 r3 => q u F3 H3 (g2.trans g3) r3)
theorem ev_callTy {τ ρ : Type} [Ra τ] [Rp ρ] {y : τ} {z : ρ} {T : String} {x : Str} {p : Pos} {r : List V → Hp → VK → Prop} (hc : CallR X (.type T) r) (ho : OpC X.K r y z) (hm : X.mg x = none) (hv : bootBuiltins x = some (.type T)) (ha : EvA X (e :: es) σ F H y) (hg : Gl X x := by rfl)
    (hn : x ≠ "__name__" := by decide) (hdb : (x == ("__debug__" : Str)) = false := by decide)
    (he : starEach (e :: es) X.env = (false, eval e X.env) :: starEach es X.env := by rfl) (hpl : (backTo pos (starEach es X.env)).any (·.1) = false := by rfl) : Ev X (.Call (.Name x p) (e :: es) [] pos) σ F H z := fun F1 H1 g Q q =>
  GoE.of (pe_callTy hc hg hm hv pa_go hn hdb he hpl) (ha F1 H1 g _ fun vs F2 H2 g2 r2 => ho F2 H2 vs Q g2.fh r2 fun u F3 H3 g3 r3 => q u F3 H3 (g2.trans g3) r3)
theorem oc1 {α ρ : Type} [Rp α] [Rp ρ] {r : List V → Hp → VK → Prop} {y : α} {z : ρ} (h : ∀ (F H : Hp) (v : V) (Q : VK), L2.Same F H → rp K F v y → (∀ u F' H', Gr F H F' H' → rp K F' u z → Q u H') → r [v] H Q) : OpC K r (y, ()) z :=
  fun F H vs Q s ⟨v, w, e, rv, rw'⟩ k => by
    have e2 : w = [] := rw'
    subst e2; subst e
    exact h F H v Q s rv k
theorem oc2 {α β ρ : Type} [Rp α] [Rp β] [Rp ρ] {r : List V → Hp → VK → Prop} {y : α} {y' : β} {z : ρ} (h : ∀ (F H : Hp) (v w : V) (Q : VK), L2.Same F H → rp K F v y → rp K F w y' → (∀ u F' H', Gr F H F' H' → rp K F' u z → Q u H') → r [v, w] H Q) : OpC K r (y, y', ()) z :=
  fun F H vs Q s ⟨v, w, e, rv, v2, w2, e3, rv2, rw'⟩ k => by
    have e2 : w2 = [] := rw'
    subst e2; subst e3; subst e
    exact h F H v v2 Q s rv rv2 k
theorem oc_lenL {α : Type} [Rp α] {xs : List α} : OpC K (fun vs H Q => ∃ p ys, vs = [.ref p] ∧ (SqL K H p ys ∨ SqT K H p ys) ∧ Q (.int ys.length) H) (xs, ()) (xs.length : Int) :=
  oc1 fun F H v Q s ⟨p, vs, e, sq, rs⟩ k => ⟨p, vs, by rw [e], .inl (s.seq sq), k _ F H (.refl s) (congrArg (fun n : Nat => V.int n) rs.length)⟩
theorem oc_lenTp {α θ : Type} [Rp α] [Rp θ] [TL θ α] {xs : θ} : OpC K (fun vs H Q => ∃ p ys, vs = [.ref p] ∧ (SqL K H p ys ∨ SqT K H p ys) ∧ Q (.int ys.length) H) (xs, ()) ((TL.l xs).length : Int) :=
  oc1 fun F H v Q s r k => let ⟨p, vs, e, sq, rs⟩ := TL.sq r; ⟨p, vs, by rw [e], .inr (sqT_mono s sq), k _ F H (.refl s) (congrArg (fun n : Nat => V.int n) rs.length)⟩
theorem oc_lenT {θ τ : Type} [Ra τ] [RaN τ] [Rp θ] [Tup θ τ] {x : θ} : OpC K (fun vs H Q => ∃ p ys, vs = [.ref p] ∧ (SqL K H p ys ∨ SqT K H p ys) ∧ Q (.int ys.length) H) (x, ()) ((RaN.n τ : Nat) : Int) :=
  oc1 fun F H v Q s r k => by
    obtain ⟨p, vs, e, sq, rs⟩ := Tup.eq.mp r
    exact ⟨p, vs, by rw [e], .inr (seqT_mono s sq), k _ F H (.refl s) (congrArg (fun n : Nat => V.int n) (RaN.len rs))⟩
/-- the length of a text -/
def sLen (z : Str) : Option Int := if z.length ≤ sizeLine then some (z.length : Int) else none
theorem oc_lenS {z : Str} {r : Int} (h : sLen z = some r) : OpC K (fun xs H Q => ∃ z, xs = [.str z] ∧ z.length ≤ sizeLine ∧ Q (.int z.length) H) (z, ()) r :=
  oc1 fun F H v Q s e k => by
    have e : v = .str z := e
    unfold sLen at h
    split at h
    · rename_i hz
      exact ⟨z, by rw [e], hz, k _ F H (.refl s) (congrArg V.int (Option.some.inj h))⟩
    · cases h
theorem oc_list {α : Type} [Rp α] {xs : List α} : OpC K (fun vs H Q => ∃ p ys, vs = [.ref p] ∧ (SqL K H p ys ∨ SqT K H p ys) ∧ ∀ l, H l = none → Q (.ref l) (upd H l (.lst ys))) (xs, ()) xs :=
  oc1 fun F H v Q s ⟨p, vs, e, sq, rs⟩ k => ⟨p, vs, by rw [e], .inl (s.seq sq), fun l hl => k _ (upd F l (.lst vs)) _ (Gr.new s hl) (rp_lst (s.free hl) rs)⟩
/-! ### kinds -/
theorem isi_const {α : Type} [Rp α] {x : α} {T U : String} {r : Bool} (hx : ∀ {F H : Hp} {v : V}, L2.Same F H → rp K F v x → TyX K H v (.type U)) (h : kitB U T = some r) : ∀ (F H : Hp) (v : V) (Q : VK), L2.Same F H → rp K F v x → (∀ u F' H', Gr F H F' H' → rp K F' u r → Q u H') → rIsi K [v, .ty T] H Q :=
  fun F H v Q s rv k => ⟨v, .ty T, _, _, r, rfl, .ty T, hx s rv, kit_ty h, k _ F H (.refl s) rfl⟩
end
end Gx

/-! Gz: statements, loops, texts. -/
namespace Gx
open PySem PySem.Spec PyProof.Rows L2
open Rp (rp)
open Ra (ra)
open Ob (ob)
section
variable {X : Cx} {K : PySem.W.Frag} {e a b c d : Expr} {es : List Expr} {σ : L2.St} {F H F0 H0 : Hp} {pos : Pos} {D : Ends} {st : Stmt} {rest body : List Stmt}
/-! ### statements -/
theorem go_set {α : Type} [Rp α] {x : α} {n : Str} {p : Pos} (i : Nat) (s : SmX X.K F H) (he : Ev X e σ F H x) (k : ∀ v F' H', Gr F H F' H' → rp X.K F' v x → GoS X rest D (σ.set i (some v)) H') (hN : X.N.Nodup) (hi : X.N[i]? = some n := by rfl)
    (hx : Loc X.env.scope n := by first | exact Or.inl rfl | exact Or.inr rfl) (hs : swapsWith e (some (.Name n p)) pos.line X.env = pure false := by rfl) (hf : X.fn n = true ∨ X.env.scope.names.lookup n = some .local := by first | exact .inl rfl | exact .inr rfl) :
    GoS X (.Assign [.Name n p] e pos :: rest) D σ H :=
  GoS.cons (ps_set hN hi hx pe_go hs hf) (he F H (.refl s) _ fun v F2 H2 g r => k v F2 H2 g r)
theorem go_setN {α : Type} [Rp α] [Ob α] {x : α} {n : Str} {p : Pos} (i : Nat) (s : SmX X.K F H) (he : EvN X e σ F H x) (k : ∀ l o F' H', Gr F H F' H' → H l = none → F' l = none → H' l = some o → ob X.K F' o x → GoS X rest D (σ.set i (some (.ref l))) H') (hN : X.N.Nodup) (hi : X.N[i]? = some n := by rfl)
    (hx : Loc X.env.scope n := by first | exact Or.inl rfl | exact Or.inr rfl) (hs : swapsWith e (some (.Name n p)) pos.line X.env = pure false := by rfl) (hf : X.fn n = true ∨ X.env.scope.names.lookup n = some .local := by first | exact .inl rfl | exact .inr rfl) :
    GoS X (.Assign [.Name n p] e pos :: rest) D σ H :=
  GoS.cons (ps_set hN hi hx pe_go hs hf) (he F H (.refl s) _ fun l o F2 H2 g n f h r => k l o F2 H2 g n f h r)
theorem go_ret {α : Type} [Rp α] {x : α} (s : SmX X.K F H) (he : Ev X e σ F H x) (k : ∀ v F' H', Gr F H F' H' → rp X.K F' v x → D.rt v H') : GoS X (.Return (some e) pos :: rest) D σ H :=
  GoS.cons (ps_ret pe_go) (he F H (.refl s) _ fun v F2 H2 g r => k v F2 H2 g r)
theorem go_retN (k : D.rt .non H) : GoS X (.Return none pos :: rest) D σ H := GoS.cons ps_retN k
theorem go_brk (k : D.bk σ H) : GoS X (.Break pos :: rest) D σ H := GoS.cons ps_break k
theorem go_cont (k : D.ct σ H) : GoS X (.Continue pos :: rest) D σ H := GoS.cons ps_continue k
theorem go_pass (k : GoS X rest D σ H) : GoS X (.Pass pos :: rest) D σ H := GoS.cons ps_pass k
theorem go_expr {α : Type} [Rp α] {x : α} (s : SmX X.K F H) (he : Ev X e σ F H x) (k : ∀ F' H', Gr F H F' H' → GoS X rest D σ H') (hs : swapsWith e none pos.line X.env = pure false := by rfl) : GoS X (.Expr e pos :: rest) D σ H :=
  GoS.cons (ps_expr pe_go hs) (he F H (.refl s) _ fun v F2 H2 g r => k F2 H2 g)
theorem go_if {t : Bool} {as bs : List Stmt} (s : SmX X.K F H) (hc : EvT X c σ F H t) (ka : t = true → ∀ F' H', Gr F H F' H' → GoS X as { D with nx := GoS X rest D } σ H') (kb : t = false → ∀ F' H', Gr F H F' H' → GoS X bs { D with nx := GoS X rest D } σ H') :
    GoS X (.If c as bs pos :: rest) D σ H :=
  GoS.cons (ps_if pt_go pss_go pss_go) (hc F H (.refl s) _ fun F2 H2 g => by
    cases t with
    | true => rw [if_pos rfl]; exact ka rfl F2 H2 g
    | false => rw [if_neg Bool.false_ne_true]; exact kb rfl F2 H2 g)
/-- the ways meet behind: P -/
theorem go_ifj {t : Bool} {as bs : List Stmt} (P : L2.St → Hp → Prop) (s : SmX X.K F H) (hc : EvT X c σ F H t) (ka : t = true → ∀ F' H', Gr F H F' H' → GoS X as { D with nx := P } σ H') (kb : t = false → ∀ F' H', Gr F H F' H' → GoS X bs { D with nx := P } σ H')
    (k : ∀ σ' H', P σ' H' → GoS X rest D σ' H') : GoS X (.If c as bs pos :: rest) D σ H :=
  go_if s hc (fun e F' H' g => (ka e F' H' g).mono k (fun _ _ h => h) (fun _ _ h => h) fun _ _ h => h) (fun e F' H' g => (kb e F' H' g).mono k (fun _ _ h => h) (fun _ _ h => h) fun _ _ h => h)
/-! ### a private thing -/
structure Own {α : Type} [Rp α] [Ob α] (K : PySem.W.Frag) (H0 F H : Hp) (l : Addr) (x : α) : Prop where
  n : H0 l = none
  f : F l = none
  h : ∃ o, H l = some o ∧ ob K F o x
section
variable {α β : Type} [Rp α] [Ob α] [Rp β] [Ob β] {x y : α} {l l' : Addr}
theorem Own.ne0 (o : Own K H0 F H l x) : H l ≠ none := by
  obtain ⟨u, h, _⟩ := o.h
  rw [h]; exact fun e => nomatch e
theorem Own.up {F' H' : Hp} (o : Own K H0 F H l x) (g : Gr F H F' H') : Own K H0 F' H' l x := by
  obtain ⟨u, h, r⟩ := o.h
  exact ⟨o.n, (g.fr l _ h (Ob.ls r)).trans o.f, u, g.hh.k _ _ h (Ob.pl r).ntb, Ob.mono g.ff r⟩
theorem Own.pl (o : Own K H0 F H l x) : PlAt H l := by
  obtain ⟨u, h, r⟩ := o.h
  exact ⟨u, h, Ob.pl r⟩
theorem Own.other {u : HO} (o : Own K H0 F H l x) (h : l ≠ l') : Own K H0 F (upd H l' u) l x := by
  obtain ⟨v, e, r⟩ := o.h
  exact ⟨o.n, o.f, v, by rw [upd_ne h]; exact e, r⟩
/-- it becomes shared -/
theorem Own.freeze {st : List Stmt} (o : Own X.K H0 F H l x) (g : GrX X.K F0 H0 F H) (k : ∀ F' H', L2.Same F F' → L2.Same F' H' → GrX X.K F0 H0 F' H' → rp X.K F' (.ref l) x → (∀ a, a ≠ l → F' a = F a ∧ H' a = H a) → GoS X st D σ H') : GoS X st D σ H := by
  obtain ⟨u, h, r⟩ := o.h
  refine GoS.locked h (Ob.mu r) fun od => ?_
  have g2 := g.freeze (o := .frz od u) o.n o.f o.pl
  exact k _ _ (same_upd o.f) g2.fh g2 (Ob.fz upd_same (Ob.mono (same_upd o.f) r)) fun a ha => ⟨upd_ne ha, upd_ne ha⟩
theorem Own.keepF {F' H' : Hp} (o : Own K H0 F H l x) (hl : l ≠ l') (s : L2.Same F F') (k : ∀ a, a ≠ l' → F' a = F a ∧ H' a = H a) : Own K H0 F' H' l x := by
  obtain ⟨u, h, r⟩ := o.h
  exact ⟨o.n, (k l hl).1.trans o.f, u, (k l hl).2.trans h, Ob.mono s r⟩
theorem Own.ne {H1 : Hp} (o : Own K H0 F H l x) (h : H l' = none) : l ≠ l' := fun e => o.ne0 (e ▸ h)
theorem Own.set {u : HO} {z : β} (n : H0 l = none) (f : F l = none) (r : ob K F u z) : Own K H0 F (upd H l u) l z := ⟨n, f, u, upd_same, r⟩
end
theorem Gr.poke {F H : Hp} {l : Addr} {u : HO} (g : Gr F0 H0 F H) (n : H0 l = none) (f : F l = none) (pl : PlAt H l) (no : ntb u := by trivial) : Gr F0 H0 F (upd H l u) := by
  refine ⟨g.ff, fun b o e => ?_, g.hh.poke n pl no, g.fr⟩
  rw [upd_ne (ne_of_none e f)]; exact g.fh _ _ e
theorem GrX.poke {F H : Hp} {l : Addr} {u : HO} (g : GrX K F0 H0 F H) (n : H0 l = none) (f : F l = none) (pl : PlAt H l) (no : PlAt (upd H l u) l) : GrX K F0 H0 F (upd H l u) := by
  have no : ntb u := by
    obtain ⟨o, e, p⟩ := no
    rw [upd_same] at e; cases e; exact p.ntb
  exact ⟨g.toGr.poke n f pl no, (g.h.upd (v := u) pl no).1⟩
/-- appending within the bound -/
def app {α : Type} (xs : List α) (y : α) : Option (List α) := if xs.length < sizeLine then some (xs ++ [y]) else none
theorem app_of {α : Type} {xs : List α} {y : α} {r : List α} (h : app xs y = some r) : xs.length < sizeLine ∧ xs ++ [y] = r := by
  unfold app at h; split at h
  · exact ⟨by assumption, Option.some.inj h⟩
  · cases h
theorem go_append {α : Type} [Rp α] {xs : List α} {y : α} {r : List α} {l : Addr} {n : Str} {p1 p2 p3 : Pos} (i : Nat) (s : SmX X.K F H) (o : Own X.K H0 F H l xs) (hσ : σ[i]? = some (some (.ref l))) (he : Ev X e σ F H y) (h : app xs y = some r)
    (k : ∀ u F' H', Gr F H F' H' → PlAt H' l → F' l = none → Own X.K H0 F' (upd H' l u) l r → GoS X rest D σ (upd H' l u)) (hN : X.N[i]? = some n := by rfl) (hv : Vis X.env.scope n := by first | exact Or.inl rfl | exact Or.inr (Or.inl rfl) | exact Or.inr (Or.inr rfl))
    (hd : (n == ("__debug__" : Str)) = false := by decide) (hcd : (n == ("__classdict__" : Str)) = false := by decide) 
    (hbase : attributeBase (.Name n p1) "append" X.env (eval (.Name n p1) X.env) = eval (.Name n p1) X.env := by rfl)
    (hfew : ((backTo p3 (starEach [e] X.env)).all (fun x => !x.1) && (backToKw p3 (keywordEach [] X.env)).all (fun x => x.1.isSome) && decide ([e].length + ([] : List Keyword).length + (if ([] : List Keyword).isEmpty then 0 else 1) < 30)) = true := by rfl)
    (hline : (p2.endLine == p3.line) = true := by rfl) (hs : starEach [e] X.env = (false, eval e X.env) :: starEach [] X.env := by rfl) (hplain : (backTo p3 (starEach [] X.env)).any (·.1) = false := by rfl) (hsw : swapsWith (.Call (.Attribute (.Name n p1) "append" p2) [e] [] p3) none pos.line X.env = pure false := by rfl) :
    GoS X (.Expr (.Call (.Attribute (.Name n p1) "append" p2) [e] [] p3) pos :: rest) D σ H := by
  obtain ⟨_, hl, vs, rfl, rs⟩ := o.h
  obtain ⟨hz, rfl⟩ := app_of h
  refine GoS.cons (ps_expr (pe_bm PySem.F.plainAttrs_list PySem.F.slot_list_append PySem.F.type_list_append mt_append (pe_var hN hv hd hcd) (pa_cons pe_go pa_nil hs) hbase hfew hline hs hplain) hsw) ?_
  refine ⟨_, hσ, .inl ⟨rfl, _, SqL.of hl⟩, he F H (.refl s) _ fun v F2 H2 g r => ?_⟩
  have o2 := o.up g
  have hl2 := g.hh.k _ _ hl trivial
  exact ⟨l, vs, v, rfl, rfl, hl2, by rw [rs.length]; exact hz, k _ F2 H2 g o2.pl o2.f (Own.set o2.n o2.f (ob_lst (Rps.append (rs.mono g.ff) (.cons r .nil))))⟩

/-! ### what is walked -/
def Wk {α : Type} [Rp α] (K : PySem.W.Frag) (J : It) (F H : Hp) (xs : List α) : Prop := ∀ i Fi Hi, L2.Same F Fi → L2.Same Fi Hi → (∀ x, xs[i]? = some x → J.go i Hi ∧ ∀ v H', J.yld i Hi v H' → ∃ F', Gr Fi Hi F' H' ∧ rp K F' v x) ∧ (i = xs.length → J.stop i Hi)
def EvI {α : Type} [Rp α] (X : Cx) (tg iter : Expr) (σ : L2.St) (F H : Hp) (xs : List α) : Prop := ∀ F1 H1, GrX X.K F H F1 H1 → ∀ R : It → Hp → Prop, (∀ J F2 H2, Gr F1 H1 F2 H2 → Wk X.K J F2 H2 xs → R J H2) → GoI X tg iter σ H1 R
theorem ei_list {α : Type} [Rp α] {xs : List α} {tg : Expr} (h : Ev X e σ F H xs) : EvI X tg e σ F H xs := fun F1 H1 g R q =>
  GoI.of (pi_list pe_go) (h F1 H1 g _ fun v F2 H2 g2 ⟨a, vs, e, sq, rs⟩ => ⟨a, e, ⟨vs, g2.fh.seq sq⟩, q _ F2 H2 g2 fun i Fi Hi s1 s2 => by
    have sq' := s2.seq (s1.seq sq)
    refine ⟨fun x hx => ?_, fun e => ⟨vs, sq', by rw [e, rs.length]; exact Nat.le_refl _⟩⟩
    obtain ⟨y, hy, ry⟩ := rs.get hx
    refine ⟨⟨vs, y, sq', hy⟩, fun v H' ⟨e1, e2⟩ => ?_⟩
    subst e1
    have e3 := e2 vs sq'
    rw [hy] at e3
    cases e3
    exact ⟨Fi, .refl s2, Rp.mono s1 ry⟩⟩)
theorem ei_tp {α θ : Type} [Rp α] [Rp θ] [TL θ α] {xs : θ} {tg : Expr} (h : Ev X e σ F H xs) : EvI X tg e σ F H (TL.l xs) := fun F1 H1 g R q =>
  GoI.of (pi_tup pe_go) (h F1 H1 g _ fun v F2 H2 g2 r2 => let ⟨a, vs, e, sq, rs⟩ := TL.sq r2; ⟨a, e, ⟨vs, sqT_mono g2.fh sq⟩, q _ F2 H2 g2 fun i Fi Hi s1 s2 => by
    have sq' := sqT_mono (K := X.K) s2 (sqT_mono s1 sq)
    refine ⟨fun x hx => ?_, fun e => ⟨vs, sq', by rw [e, rs.length]; exact Nat.le_refl _⟩⟩
    obtain ⟨y, hy, ry⟩ := rs.get hx
    refine ⟨⟨vs, y, sq', hy⟩, fun v H' ⟨e1, e2⟩ => ?_⟩
    subst e1
    have e3 := e2 vs sq'
    rw [hy] at e3
    cases e3
    exact ⟨Fi, .refl s2, Rp.mono s1 ry⟩⟩)
/-- the intsF from lo on, n of them -/
def intsF (lo : Int) (n : Nat) : List Int := (List.range n).map fun (i : Nat) => lo + (i : Int)
theorem ints_get {lo : Int} {n i : Nat} {x : Int} (h : (intsF lo n)[i]? = some x) : i < n ∧ x = lo + i := by
  unfold intsF at h
  rw [List.getElem?_map] at h
  obtain ⟨j, hj, e⟩ := Option.map_eq_some_iff.mp h
  rw [List.getElem?_range] at hj
  · have e1 : i = j := Option.some.inj hj
    subst e1
    refine ⟨?_, e.symm⟩
    rcases Nat.lt_or_ge i n with h1 | h1
    · exact h1
    · rw [List.getElem?_eq_none (by simpa using h1)] at h; cases h
  · rcases Nat.lt_or_ge i n with h1 | h1
    · exact h1
    · rw [List.getElem?_eq_none (by simpa using h1)] at hj; cases hj
theorem ints_len {lo : Int} {n : Nat} : (intsF lo n).length = n := by unfold intsF; simp
theorem wk_range {lo : Int} {n : Nat} : Wk K (Itr lo n) F H (intsF lo n) := fun i Fi Hi s1 s2 => by
  refine ⟨fun x hx => ?_, fun e => by rw [ints_len] at e; exact Nat.le_of_eq e.symm⟩
  obtain ⟨h1, rfl⟩ := ints_get hx
  refine ⟨h1, fun v H' ⟨e1, e2⟩ => ?_⟩
  subst e1
  exact ⟨Fi, .refl s2, e2⟩
def rngG (j : Int) : Option (List Int) := if -(2 ^ 62) ≤ j ∧ j < 2 ^ 62 then some (intsF 0 j.toNat) else none
def rngG2 (i j : Int) : Option (List Int) := if -(2 ^ 62) ≤ i ∧ i < 2 ^ 62 ∧ -(2 ^ 62) ≤ j ∧ j < 2 ^ 62 then some (intsF i (j - i).toNat) else none
theorem ei_range1 {j : Int} {r : List Int} {tg : Expr} {p : Pos} (h : Ev X a σ F H j) (hr : rngG j = some r) (hm : X.mg "range" = none) (hg : Gl X "range" := by rfl) (hs : starEach [a] X.env = [(false, eval a X.env)] := by rfl) : EvI X tg (.Call (.Name "range" p) [a] [] pos) σ F H r := fun F1 H1 g R q =>
  GoI.of (pi_range1 hg hm (pa_cons pe_go pa_nil (by rw [hs]; rfl)) hs) (h F1 H1 g _ fun v F2 H2 g2 r2 => by
    unfold rngG at hr
    split at hr
    · rename_i hj
      cases hr
      have r2 : v = .int j := r2
      exact ⟨j, by rw [r2], hj.1, hj.2, q _ F2 H2 g2 wk_range⟩
    · cases hr)
theorem ei_range2 {i j : Int} {r : List Int} {tg : Expr} {p : Pos} (h : Ev X a σ F H i) (h' : Ev X b σ F H j) (hr : rngG2 i j = some r) (hm : X.mg "range" = none) (hg : Gl X "range" := by rfl) (hs : starEach [a, b] X.env = [(false, eval a X.env), (false, eval b X.env)] := by rfl) (hs2 : starEach [b] X.env = [(false, eval b X.env)] := by rfl) :
    EvI X tg (.Call (.Name "range" p) [a, b] [] pos) σ F H r := fun F1 H1 g R q =>
  GoI.of (pi_range2 hg hm (pa_cons pe_go (pa_cons pe_go pa_nil (by rw [hs2]; rfl)) (by rw [hs, hs2])) hs hs2) (h F1 H1 g _ fun v F2 H2 g2 r2 => h' F2 H2 (g.trans g2) _ fun v' F3 H3 g3 r3 => by
    unfold rngG2 at hr
    split at hr
    · rename_i hj
      cases hr
      have r2 : v = .int i := r2
      have r3 : v' = .int j := r3
      exact ⟨i, j, by rw [r2, r3], hj, q _ F3 H3 (g2.trans g3) wk_range⟩
    · cases hr)
/-- a text's sgns -/
def sgns (x : Str) : List Str := x.cps.toList.map fun c => ⟨#[c]⟩
theorem ei_str {x : Str} {tg : Expr} (h : Ev X e σ F H x) : EvI X tg e σ F H (sgns x) := fun F1 H1 g R q =>
  GoI.of (pi_str pe_go) (h F1 H1 g _ fun v F2 H2 g2 r2 => ⟨x, r2, q _ F2 H2 g2 fun i Fi Hi s1 s2 => by
    unfold sgns
    refine ⟨fun y hy => ?_, fun e => by rw [e]; simp [Its]⟩
    rw [List.getElem?_map] at hy
    obtain ⟨c, hc, rfl⟩ := Option.map_eq_some_iff.mp hy
    have hc' : x.cps[i]? = some c := by simpa using hc
    refine ⟨?_, fun v H' ⟨e1, c', e2, e3⟩ => ?_⟩
    · show i < x.cps.size
      exact (Array.getElem?_eq_some_iff.mp hc').1
    · subst e1
      rw [hc'] at e2
      cases e2
      exact ⟨Fi, .refl s2, e3⟩⟩)

/-! ### loops -/
inductive Lp (β ρ : Type) where
  | nx (b : β) | bk (b : β) | rt (r : ρ)
def loopM {α β ρ : Type} (st : β → α → Option (Lp β ρ)) : β → List α → Option (Lp β ρ)
  | b, [] => some (.nx b)
  | b, x :: xs => match st b x with
    | none => none
    | some (.nx b') => loopM st b' xs
    | some (.bk b') => some (.bk b')
    | some (.rt r) => some (.rt r)
/-- what a turn with the outcome o is to reach -/
abbrev LE {β ρ : Type} (Iv : β → L2.St → Hp → Hp → Prop) (Rt : ρ → V → Hp → Prop) (F : Hp) (o : Lp β ρ) : Ends :=
  { nx := fun σ' H' => ∃ b' F', o = .nx b' ∧ L2.Same F F' ∧ L2.Same F' H' ∧ Iv b' σ' F' H', ct := fun σ' H' => ∃ b' F', o = .nx b' ∧ L2.Same F F' ∧ L2.Same F' H' ∧ Iv b' σ' F' H',
    bk := fun σ' H' => ∃ b' F', o = .bk b' ∧ L2.Same F F' ∧ L2.Same F' H' ∧ Iv b' σ' F' H', rt := fun v H' => ∃ r, o = .rt r ∧ Rt r v H' }
theorem go_for {α β ρ : Type} [Rp α] {tg iter : Expr} {g : TG} (xs : List α) (stp : β → α → Option (Lp β ρ)) (b0 : β) {o : Lp β ρ} (s : SmX X.K F H) (hi : EvI X tg iter σ F H xs) (hg : PG X tg g) (ho : loopM stp b0 xs = some o)
    (k : ∀ F2 H2, Gr F H F2 H2 → ∃ (Iv : β → L2.St → Hp → Hp → Prop) (Rt : ρ → V → Hp → Prop), Iv b0 σ F2 H2 ∧
      (∀ b x o', stp b x = some o' → ∀ σ F H v, L2.Same F2 F → L2.Same F H → Iv b σ F H → ∀ F' H', Gr F H F' H' → rp X.K F' v x → ∀ Q : L2.St → Hp → Prop, (∀ σ' H'', GoS X body (LE Iv Rt F o') σ' H'' → Q σ' H'') → g v σ H' Q) ∧
      (match o with | .nx b => ∀ σ F H, L2.Same F H → Iv b σ F H → GoS X rest D σ H | .bk b => ∀ σ F H, L2.Same F H → Iv b σ F H → GoS X rest D σ H | .rt r => ∀ v H, Rt r v H → D.rt v H))
    (hp : PassesOwn (model X.prog X.w) X.A X.env X.xe) (hc : X.calm = true := by rfl) (hs : ∀ x, foldedSetIterable iter X.env x = pure x := by intro _; rfl) : GoS X (.For tg iter body [] pos :: rest) D σ H := by
  refine GoS.cons (ps_for hp hc pi_go hg pss_go hs) (hi F H (.refl s) _ fun J F2 H2 g2 wk => ?_)
  obtain ⟨Iv, Rt, init, step, done⟩ := k F2 H2 g2
  refine ⟨fun i m σ H => m = xs.length - i ∧ i ≤ xs.length ∧ ∃ b F, L2.Same F2 F ∧ L2.Same F H ∧ Iv b σ F H ∧ loopM stp b (xs.drop i) = some o, ⟨_, rfl, Nat.zero_le _, b0, F2, .refl _, g2.fh, init, ho⟩, ?_⟩
  rintro i m σ' H' ⟨rfl, hle, b, Fi, s1, s2, iv, hl⟩
  obtain ⟨w1, w2⟩ := wk i Fi H' s1 s2
  rcases Nat.lt_or_ge i xs.length with hlt | hge
  · obtain ⟨x, hx⟩ : ∃ x, xs[i]? = some x := ⟨xs[i], List.getElem?_eq_getElem hlt⟩
    obtain ⟨hgo, hy⟩ := w1 x hx
    have ed : xs.drop i = x :: xs.drop (i + 1) := by
      rw [List.drop_eq_getElem_cons hlt]
      rw [List.getElem?_eq_getElem hlt] at hx
      rw [Option.some.inj hx]
    rw [ed] at hl
    unfold loopM at hl
    cases hst : stp b x with
    | none => rw [hst] at hl; cases hl
    | some o' =>
      rw [hst] at hl
      refine .inr ⟨hgo, fun σ3 H3 => ∃ b' F', o' = .nx b' ∧ L2.Same Fi F' ∧ L2.Same F' H3 ∧ Iv b' σ3 F' H3, fun σ3 H3 ⟨b', F', e, f1, f2, iv'⟩ => ?_, fun v H3 hv => ?_⟩
      · subst e
        exact ⟨xs.length - (i + 1), by omega, rfl, hlt, b', F', s1.trans f1, f2, iv', hl⟩
      · obtain ⟨F', gr, rv⟩ := hy v H3 hv
        refine step b x o' hst σ' Fi H' v s1 s2 iv F' H3 gr rv _ fun σ4 H4 q => q.mono (fun _ _ h => h) (fun v' H5 ⟨r, e, hr⟩ => ?_) (fun σ5 H5 ⟨b', F5, e, f1, f2, iv'⟩ => ?_) fun _ _ h => h
        · subst e
          cases (Option.some.inj hl)
          exact done v' H5 hr
        · subst e
          cases (Option.some.inj hl)
          exact done σ5 F5 H5 f2 iv'
  · have e : i = xs.length := by omega
    subst e
    rw [List.drop_length] at hl
    cases (Option.some.inj hl)
    exact .inl ⟨w2 rfl, done σ' Fi H' s2 iv⟩
/-- while, with fuel -/
def whileM {β ρ : Type} (c : β → Option Bool) (st : β → Option (Lp β ρ)) : Nat → β → Option (Lp β ρ)
  | 0, _ => none
  | n + 1, b => match c b with
    | none => none
    | some false => some (.nx b)
    | some true => match st b with
      | none => none
      | some (.nx b') => whileM c st n b'
      | some (.bk b') => some (.bk b')
      | some (.rt r) => some (.rt r)
theorem go_while {β ρ : Type} (cn : β → Option Bool) (stp : β → Option (Lp β ρ)) (N : Nat) (b0 : β) {o : Lp β ρ} (Iv : β → L2.St → Hp → Hp → Prop) (Rt : ρ → V → Hp → Prop) (s : SmX X.K F H) (init : Iv b0 σ F H) (ho : whileM cn stp N b0 = some o)
    (kc : ∀ b t, cn b = some t → ∀ σ F H, L2.Same F H → Iv b σ F H → SmX X.K F H ∧ EvT X c σ F H t ∧ ∀ F' H', Gr F H F' H' → Iv b σ F' H')
    (kb : ∀ b o', cn b = some true → stp b = some o' → ∀ σ F H, L2.Same F H → Iv b σ F H → GoS X body (LE Iv Rt F o') σ H)
    (done : match o with | .nx b => ∀ σ F H, L2.Same F H → Iv b σ F H → GoS X rest D σ H | .bk b => ∀ σ F H, L2.Same F H → Iv b σ F H → GoS X rest D σ H | .rt r => ∀ v H, Rt r v H → D.rt v H)
    (hp : PassesOwn (model X.prog X.w) X.A X.env X.xe) : GoS X (.While c body [] pos :: rest) D σ H := by
  refine GoS.cons (ps_while hp pt_go pss_go) ?_
  refine ⟨fun m σ H => ∃ b F, L2.Same F H ∧ Iv b σ F H ∧ whileM cn stp m b = some o, ⟨N, b0, F, s.s, init, ho⟩, ?_⟩
  rintro m σ' H' ⟨b, Fi, s2, iv, hl⟩
  cases m with
  | zero => cases hl
  | succ m =>
    unfold whileM at hl
    cases hc : cn b with
    | none => rw [hc] at hl; cases hl
    | some t =>
      rw [hc] at hl
      obtain ⟨sx, ev, up⟩ := kc b t hc σ' Fi H' s2 iv
      refine ev Fi H' (.refl sx) _ fun F2 H2 g2 => ?_
      cases t with
      | false =>
        rw [if_neg Bool.false_ne_true]
        cases (Option.some.inj hl)
        exact done σ' F2 H2 g2.fh (up F2 H2 g2)
      | true =>
        rw [if_pos rfl]
        cases hst : stp b with
        | none => rw [hst] at hl; cases hl
        | some o' =>
          rw [hst] at hl
          refine ⟨fun σ3 H3 => ∃ b' F', o' = .nx b' ∧ L2.Same F2 F' ∧ L2.Same F' H3 ∧ Iv b' σ3 F' H3, fun σ3 H3 ⟨b', F', e, f1, f2, iv'⟩ => ?_, ?_⟩
          · subst e
            exact ⟨m, Nat.lt_succ_self _, b', F', f2, iv', hl⟩
          · refine (kb b o' hc hst σ' F2 H2 g2.fh (up F2 H2 g2)).mono (fun _ _ h => h) (fun v' H5 ⟨r, e, hr⟩ => ?_) (fun σ5 H5 ⟨b', F5, e, f1, f2, iv'⟩ => ?_) fun _ _ h => h
            · subst e
              cases (Option.some.inj hl)
              exact done v' H5 hr
            · subst e
              cases (Option.some.inj hl)
              exact done σ5 F5 H5 f2 iv'
/-! ### targets -/
theorem gn {i : Nat} {v : V} {Q : L2.St → Hp → Prop} {P : L2.St → Hp → Prop} (h : ∀ σ' H', P σ' H' → Q σ' H') (p : P (σ.set i (some v)) H) : gName i v σ H Q := h _ _ p

/-! ### texts -/
def sAdd (x y : Str) : Option Str := if x.length + y.length ≤ sizeLine then some (x ++ y) else none
theorem ev_addS {x y r : Str} (ha : Ev X a σ F H x) (hb : Ev X b σ F H y) (h : sAdd x y = some r) : Ev X (.BinOp a .Add b pos) σ F H r := ev_bin op_add_str (fun F H v w Q s rv rw' k => by
  unfold sAdd at h
  split at h
  · rename_i hz
    exact ⟨x, y, rv, rw', hz, k _ F H (.refl s) (congrArg V.str (Option.some.inj h))⟩
  · cases h) ha hb
/-- is the one sign x in z -/
def sIn (x z : Str) : Option Bool := match x.cps.toList with
  | [c] => some (decide (c ∈ z.cps.toList))
  | _ => none
theorem sIn_of {x z : Str} {r : Bool} (h : sIn x z = some r) : ∃ c, x = ⟨#[c]⟩ ∧ decide (c ∈ z.cps.toList) = r := by
  unfold sIn at h
  split at h
  · rename_i c hc
    refine ⟨c, ?_, Option.some.inj h⟩
    cases x with
    | mk cps => rw [← Array.toArray_toList (xs := cps), hc]
  · cases h
theorem o2_inS {x z : Str} {r : Bool} (h : sIn x z = some r) : Op2 K (fun x y H Q => ∃ (c : Nat) (z : Str), x = .str ⟨#[c]⟩ ∧ y = .str z ∧ Q (.bl (decide (c ∈ z.cps.toList))) H) x z r := fun F H v w Q s rv rw' k => by
  obtain ⟨c, rfl, e⟩ := sIn_of h
  exact ⟨c, z, rv, rw', k _ F H (.refl s) (congrArg V.bl e)⟩
theorem o2_notInS {x z : Str} {r : Bool} (h : sIn x z = some r) : Op2 K (fun x y H Q => ∃ (c : Nat) (z : Str), x = .str ⟨#[c]⟩ ∧ y = .str z ∧ Q (.bl (!decide (c ∈ z.cps.toList))) H) x z (!r) := fun F H v w Q s rv rw' k => by
  obtain ⟨c, rfl, e⟩ := sIn_of h
  exact ⟨c, z, rv, rw', k _ F H (.refl s) (congrArg (fun t => V.bl (!t)) e)⟩
/-- a text's method of one text -/
theorem ev_m1 {α : Type} [Rp α] {x y : Str} {z : α} {id : String} {name : Str} {apos : Pos} {r : V → List V → Hp → VK → Prop} (slot : Slot "str" name id) (ty : typeOf (.builtin id) = pure (.type "method_descriptor")) (rule : MtR X id r)
    (hr : ∀ (F H : Hp) (Q : VK), L2.Same F H → (∀ u F' H', Gr F H F' H' → rp X.K F' u z → Q u H') → r (.str x) [.str y] H Q) (ho : Ev X a σ F H x) (he : Ev X e σ F H y)
    (hs : starEach [e] X.env = [(false, eval e X.env)] := by rfl) (hbase : attributeBase a name X.env (eval a X.env) = eval a X.env := by rfl) (hline : (apos.endLine == pos.line) = true := by rfl) : Ev X (.Call (.Attribute a name apos) [e] [] pos) σ F H z := fun F1 H1 g Q q =>
  GoE.of (pe_m1 slot ty rule pe_go pe_go hs hbase hline) (ho F1 H1 g _ fun v F2 H2 g2 r2 => ⟨⟨x, r2⟩, he F2 H2 (g.trans g2) _ fun w F3 H3 g3 r3 => by
    have r2 : v = .str x := r2
    have r3 : w = .str y := r3
    subst r2; subst r3
    exact hr F3 H3 Q g3.fh fun u F4 H4 g4 r4 => q u F4 H4 ((g2.trans g3).trans g4) r4⟩)
theorem ev_m0 {α : Type} [Rp α] {x : Str} {z : α} {id : String} {name : Str} {apos : Pos} {r : V → List V → Hp → VK → Prop} (slot : Slot "str" name id) (ty : typeOf (.builtin id) = pure (.type "method_descriptor")) (rule : MtR X id r)
    (hr : ∀ (F H : Hp) (Q : VK), L2.Same F H → (∀ u F' H', Gr F H F' H' → rp X.K F' u z → Q u H') → r (.str x) [] H Q) (ho : Ev X a σ F H x)
    (hbase : attributeBase a name X.env (eval a X.env) = eval a X.env := by rfl) (hline : (apos.endLine == pos.line) = true := by rfl) : Ev X (.Call (.Attribute a name apos) [] [] pos) σ F H z := fun F1 H1 g Q q =>
  GoE.of (pe_m0 slot ty rule pe_go hbase hline) (ho F1 H1 g _ fun v F2 H2 g2 r2 => ⟨⟨x, r2⟩, by
    have r2 : v = .str x := r2
    subst r2
    exact hr F2 H2 Q g2.fh fun u F4 H4 g4 r4 => q u F4 H4 (g2.trans g4) r4⟩)
theorem ev_find {x y : Str} {apos : Pos} (ho : Ev X a σ F H x) (he : Ev X e σ F H y)
    (hs : starEach [e] X.env = [(false, eval e X.env)] := by rfl) (hbase : attributeBase a "find" X.env (eval a X.env) = eval a X.env := by rfl) (hline : (apos.endLine == pos.line) = true := by rfl) : Ev X (.Call (.Attribute a "find" apos) [e] [] pos) σ F H (Txt.find x y) :=
  ev_m1 PySem.F.slot_str_find PySem.F.type_str_find mt_find (fun F H Q s k => ⟨x, y, rfl, rfl, k _ F H (.refl s) rfl⟩) ho he hs hbase hline
def sJoin (a : Str) (ys : List Str) : Option Str := if (ys.map (·.length)).sum + ys.length * a.length ≤ 16777216 then some (Txt.join a ys) else none
theorem Rps.strs : ∀ {vs : List V} {ys : List Str}, Rps K F vs ys → vs = ys.map V.str
  | _, _, .nil => rfl
  | _, _, .cons r t => by
    rw [List.map_cons, ← Rps.strs t]
    exact congrArg (· :: _) r
theorem ev_join {x r : Str} {ys : List Str} {apos : Pos} (ho : Ev X a σ F H x) (he : Ev X e σ F H ys) (h : sJoin x ys = some r)
    (hs : starEach [e] X.env = [(false, eval e X.env)] := by rfl) (hbase : attributeBase a "join" X.env (eval a X.env) = eval a X.env := by rfl) (hline : (apos.endLine == pos.line) = true := by rfl) : Ev X (.Call (.Attribute a "join" apos) [e] [] pos) σ F H r := fun F1 H1 g Q q =>
  GoE.of (pe_join pe_go pe_go hs hbase hline) (ho F1 H1 g _ fun v F2 H2 g2 r2 => ⟨⟨x, r2⟩, he F2 H2 (g.trans g2) _ fun w F3 H3 g3 ⟨p, vs, e, sq, rs⟩ => by
    unfold sJoin at h
    split at h
    · rename_i hz
      have e3 := rs.strs
      subst e3
      exact ⟨x, p, ys, r2, by rw [e], .inl (g3.fh.seq sq), hz, q _ F3 H3 (g2.trans g3) (congrArg V.str (Option.some.inj h))⟩
    · cases h⟩)
def sOfI (i : Int) : Option Str := if i.natAbs.log2 < 1920 then some (toString i : String) else none
theorem oc_strI {i : Int} {r : Str} (h : sOfI i = some r) : OpC K (fun xs H Q => ∃ i : Int, xs = [.int i] ∧ i.natAbs.log2 < 1920 ∧ Q (.str (toString i : String)) H) (i, ()) r := oc1 fun F H v Q s rv k => by
  unfold sOfI at h
  split at h
  · rename_i hz
    have rv : v = .int i := rv
    exact ⟨i, by rw [rv], hz, k _ F H (.refl s) (congrArg V.str (Option.some.inj h))⟩
  · cases h
def iOfS (x : Str) : Option Int := if x.length ≤ 640 then PySem.intText? x else none
theorem oc_intS {x : Str} {r : Int} (h : iOfS x = some r) : OpC K (fun xs H Q => ∃ a n, xs = [.str a] ∧ PySem.intText? a = some n ∧ a.length ≤ 640 ∧ Q (.int n) H) (x, ()) r := oc1 fun F H v Q s rv k => by
  unfold iOfS at h
  split at h
  · rename_i hz
    have rv : v = .str x := rv
    exact ⟨x, r, by rw [rv], h, hz, k _ F H (.refl s) rfl⟩
  · cases h
/-- n times a text -/
def sMul (x : Str) (n : Int) : Option Str := if -(2 ^ 62) < n ∧ n < 2 ^ 62 ∧ x.length * n.toNat ≤ 16777216 then some (Txt.mul x n) else none
theorem op_mulS : OpR X (binaryOp .Mult) (fun x y H Q => ∃ (z : Str) (n : Int), x = .str z ∧ y = .int n ∧ MulOk z n ∧ Q (.str (Txt.mul z n)) H) := by
  intro pins s σ H x y v u Q I rx ry h
  obtain ⟨z, n, rfl, rfl, ok, q⟩ := h
  obtain ⟨t, rfl⟩ := rx
  obtain ⟨t', rfl⟩ := ry
  exact SB.mul ok fun t' k => ⟨.str _, H, I.tok k, ⟨t', rfl⟩, q⟩
theorem ev_mulS {x r : Str} {n : Int} (ha : Ev X a σ F H x) (hb : Ev X b σ F H n) (h : sMul x n = some r) : Ev X (.BinOp a .Mult b pos) σ F H r := ev_bin op_mulS (fun F H v w Q s rv rw' k => by
  unfold sMul at h
  split at h
  · rename_i hz
    obtain ⟨z1, z2, z3⟩ := hz
    refine ⟨x, n, rv, rw', ⟨?_, fun hn _ => ?_, fun _ _ => ?_⟩, k _ F H (.refl s) (congrArg V.str (Option.some.inj h))⟩
    · rw [Bool.or_eq_false_iff]
      exact ⟨decide_eq_false (by omega), decide_eq_false (by omega)⟩
    · have h1 : ((x.length * n.toNat : Nat) : Int) = (x.length : Int) * n := by rw [Int.natCast_mul, Int.toNat_of_nonneg (by omega)]
      have h2 : (x.length : Int) ≤ (2 ^ 63 - 1) / n := Int.le_ediv_of_mul_le (by omega) (by rw [← h1]; omega)
      omega
    · show decide (x.length * n.toNat > sizeLine) = false
      rw [sizeLine_eq]
      exact decide_eq_false (by omega)
  · cases h) ha hb
end
end Gx

/-! Gc: comprehensions, a def's own rule. -/
namespace Gx
open PySem PySem.Spec PyProof.Rows L2
open Rp (rp)
open Ra (ra)
open Ob (ob)
section
variable {X : Cx} {K : PySem.W.Frag} {e a b c d : Expr} {es : List Expr} {σ : L2.St} {F H F0 H0 : Hp} {pos : Pos} {D : Ends} {st : Stmt} {rest body : List Stmt}
def compM {α γ : Type} (f : α → Option (Option γ)) : List α → Option (List γ)
  | [] => some []
  | x :: xs => match f x with
    | none => none
    | some none => compM f xs
    | some (some y) => (compM f xs).map (y :: ·)
def compG {α γ : Type} (f : α → Option (Option γ)) (xs : List α) : Option (List γ) := if xs.length ≤ sizeLine then compM f xs else none
abbrev blkX (X : Cx) (scope : Scope) (s : Shared) (H : Hp) (C : Addr) (cl : List (Str × Addr)) (fp : List Addr) : Cx := X.blk s H scope (compEnvC scope cl C X.env) fp
def GoEB (X : Cx) (scope : Scope) (e : Expr) : TE := fun σ H Q => ∀ s H' C cl fp, GoE (blkX X scope s H' C cl fp) e σ H Q
def GoTB (X : Cx) (scope : Scope) (e : Expr) : TT := fun σ H Q => ∀ s H' C cl fp, GoT (blkX X scope s H' C cl fp) e σ H Q
theorem pe_goB {scope : Scope} (s : Shared) (H : Hp) (C : Addr) (cl : List (Str × Addr)) (fp : List Addr) : PE (blkX X scope s H C cl fp) e (GoEB X scope e) := ⟨fun pins s σ H Q I h => (h _ _ _ _ _).o pins s I⟩
theorem pt_goB {scope : Scope} (s : Shared) (H : Hp) (C : Addr) (cl : List (Str × Addr)) (fp : List Addr) : PT (blkX X scope s H C cl fp) e (GoTB X scope e) := ⟨fun pins s σ H Q I h => (h _ _ _ _ _).o pins s I⟩
/-- what one item gives -/
def CB {γ : Type} [Rp γ] (X : Cx) (scope : Scope) (elt : Expr) (σ2 : L2.St) (F H : Hp) (o : Option γ) : Prop := ∃ y, o = some y ∧ ∀ s H' C cl fp, Ev (blkX X scope s H' C cl fp) elt σ2 F H y
def CBi {γ : Type} [Rp γ] (X : Cx) (scope : Scope) (tst elt : Expr) (σ2 : L2.St) (F H : Hp) (o : Option γ) : Prop := ∃ b, (∀ s H' C cl fp, EvT (blkX X scope s H' C cl fp) tst σ2 F H b) ∧ (b = true → CB X scope elt σ2 F H o) ∧ (b = false → o = none)
theorem comp_core {α γ : Type} [Rp α] [Rp γ] {tg iter elt : Expr} {scope : Scope} {g : TG} {tt : TT} {vs : List Nat} {xs : List α} {ys : List γ} {f : α → Option (Option γ)} (hi : EvI X tg iter σ F H xs) (hr : compG f xs = some ys)
    (step : ∀ x o, f x = some o → ∀ F' H' v, GrX X.K F H F' H' → rp X.K F' v x → ∀ Q : L2.St → Hp → Prop, (∀ σ2, wipe σ2 vs = wipe σ vs → (∀ R : Bool → Hp → Prop, (∀ F2 H2, Gr F' H' F2 H2 → o = none → R false H2) → (∀ F2 H2, Gr F' H' F2 H2 → CB X scope elt σ2 F2 H2 o → R true H2) → tt σ2 H' R) → Q σ2 H') → g v (wipe σ vs) H' Q)
    {F1 H1 : Hp} (g1 : GrX X.K F H F1 H1) {Q : VK} (q : ∀ l o F2 H2, Gr F1 H1 F2 H2 → H1 l = none → F2 l = none → H2 l = some o → ob X.K F2 o ys → Q (.ref l) H2) : tLc (GoI X tg iter) g tt (GoEB X scope elt) vs σ H1 Q := by
  unfold compG at hr
  split at hr
  case isFalse => cases hr
  rename_i hz
  refine hi F1 H1 g1 _ fun J F2 H2 g2 wk L hL => ?_
  refine ⟨fun i m H => m = xs.length - i ∧ i ≤ xs.length ∧ ∃ Fi acc zs ws, Gr F2 H2 Fi H ∧ Fi L = none ∧ H L = some (.lst acc) ∧ Rps X.K Fi acc zs ∧ acc.length ≤ i ∧ compM f (xs.drop i) = some ws ∧ zs ++ ws = ys,
    ⟨_, rfl, Nat.zero_le _, F2, [], [], ys, Gr.newP g2.fh hL trivial, g2.fh.free hL, upd_same, .nil, Nat.le_refl _, hr, rfl⟩, ?_⟩
  rintro i m Hi ⟨rfl, hle, Fi, acc, zs, ws, gi, fL, hLi, rs, hacc, hcm, hys⟩
  obtain ⟨w1, w2⟩ := wk i Fi Hi gi.ff gi.fh
  rcases Nat.lt_or_ge i xs.length with hlt | hge
  · obtain ⟨x, hx⟩ : ∃ x, xs[i]? = some x := ⟨xs[i], List.getElem?_eq_getElem hlt⟩
    obtain ⟨hgo, hy⟩ := w1 x hx
    have ed : xs.drop i = x :: xs.drop (i + 1) := by
      rw [List.drop_eq_getElem_cons hlt]
      rw [List.getElem?_eq_getElem hlt] at hx
      rw [Option.some.inj hx]
    rw [ed] at hcm
    unfold compM at hcm
    cases hf : f x with
    | none => rw [hf] at hcm; cases hcm
    | some o =>
      rw [hf] at hcm
      refine .inr ⟨hgo, fun H' => ∃ F' acc' zs' ws', Gr F2 H2 F' H' ∧ F' L = none ∧ H' L = some (.lst acc') ∧ Rps X.K F' acc' zs' ∧ acc'.length ≤ i + 1 ∧ compM f (xs.drop (i + 1)) = some ws' ∧ zs' ++ ws' = ys,
        fun H' ⟨F', acc', zs', ws', h1, h2, h3, h4, h5, h6, h7⟩ => ⟨xs.length - (i + 1), by omega, rfl, hlt, F', acc', zs', ws', h1, h2, h3, h4, h5, h6, h7⟩, fun v H3 hv => ?_⟩
      obtain ⟨F3, g3, rv⟩ := hy v H3 hv
      refine step x o hf F3 H3 v ((g1.trans g2).trans (gi.trans g3)) rv _ fun σ2 ew ht => ⟨ew, ht _ (fun F4 H4 g4 eo => ?_) fun F4 H4 g4 ⟨y, eo, hev⟩ => ?_⟩
      · rw [if_neg Bool.false_ne_true]
        subst eo
        exact ⟨F4, acc, zs, ws, gi.trans (g3.trans g4), (g4.fr L _ (g3.hh.k _ _ hLi trivial) trivial).trans ((g3.fr L _ hLi trivial).trans fL), g4.hh.k _ _ (g3.hh.k _ _ hLi trivial) trivial, rs.mono (g3.ff.trans g4.ff), Nat.le_succ_of_le hacc, hcm, hys⟩
      · rw [if_pos rfl]
        subst eo
        obtain ⟨ws', hw, ew'⟩ := Option.map_eq_some_iff.mp hcm
        refine fun s H' C cl fp => hev s H' C cl fp F4 H4 (.refl (((g1.trans g2).trans (gi.trans g3)).trans g4).sm) _ fun u F5 H5 g5 ru => ?_
        have gg : Gr Fi Hi F5 H5 := (g3.trans g4).trans g5
        have f5 : F5 L = none := (gg.fr L _ hLi trivial).trans fL
        have h5 : H5 L = some (.lst acc) := gg.hh.k _ _ hLi trivial
        refine ⟨acc, h5, by omega, F5, acc ++ [u], zs ++ [y], ws', (gi.trans gg).poke hL f5 ⟨_, h5, trivial⟩ trivial, f5, upd_same, Rps.append (rs.mono gg.ff) (.cons ru .nil), by rw [List.length_append]; simp; omega, hw, ?_⟩
        rw [List.append_assoc]
        show zs ++ (y :: ws') = ys
        rw [ew']; exact hys
  · have e : i = xs.length := by omega
    subst e
    rw [List.drop_length] at hcm
    have ew : ws = [] := (Option.some.inj hcm).symm
    subst ew
    rw [List.append_nil] at hys
    subst hys
    refine .inl ⟨w2 rfl, q L (.lst acc) Fi Hi (g2.trans gi) (g2.hh.free hL) fL hLi (ob_lst rs)⟩
theorem en_comp {α γ : Type} [Rp α] [Rp γ] {tg iter elt : Expr} {scope : Scope} {g : TG} {own : List (Str × Nat)} {xs : List α} {ys : List γ} {f : α → Option (Option γ)} (hN : X.N.Nodup) (hi : EvI X tg iter σ F H xs) (hr : compG f xs = some ys) (ok : BlkOk X.N X.env.scope scope own)
    (hg : ∀ (s : Shared) (H : Hp) (C : Addr) (cl : List (Str × Addr)) (fp : List Addr), PG (blkX X scope s H C cl fp) tg g)
    (step : ∀ x o, f x = some o → ∀ F' H' v, GrX X.K F H F' H' → rp X.K F' v x → ∀ Q : L2.St → Hp → Prop, (∀ σ2, wipe σ2 (own.map (·.2)) = wipe σ (own.map (·.2)) → CB X scope elt σ2 F' H' o → Q σ2 H') → g v (wipe σ (own.map (·.2))) H' Q)
    (hc : X.calm = true := by rfl) (hs : ∀ x, foldedSetIterable iter X.env x = pure x := by intro _; rfl) : EvN X (.ListComp elt [⟨tg, iter, [], 0⟩] scope pos) σ F H ys := fun F1 H1 g1 Q q =>
  GoE.of (pe_lc hc hN pi_go ok hg (fun _ _ _ _ _ => pts_nil) pe_goB hs) (comp_core hi hr (fun x o hf F' H' v gr rv Q' k => step x o hf F' H' v gr rv Q' fun σ2 ew cb => k σ2 ew fun R _ r1 => r1 F' H' (.refl gr.fh) cb) g1 q)
theorem CB.up {γ : Type} [Rp γ] {scope : Scope} {elt : Expr} {σ2 : L2.St} {F' H' : Hp} {o : Option γ} (h : CB X scope elt σ2 F H o) (g : Gr F H F' H') : CB X scope elt σ2 F' H' o := by
  obtain ⟨y, e, h⟩ := h
  exact ⟨y, e, fun s H' C cl fp => (h s H' C cl fp).up g⟩
theorem en_compi {α γ : Type} [Rp α] [Rp γ] {tg iter elt tst : Expr} {scope : Scope} {g : TG} {own : List (Str × Nat)} {xs : List α} {ys : List γ} {f : α → Option (Option γ)} (hN : X.N.Nodup) (hi : EvI X tg iter σ F H xs) (hr : compG f xs = some ys) (ok : BlkOk X.N X.env.scope scope own)
    (hg : ∀ (s : Shared) (H : Hp) (C : Addr) (cl : List (Str × Addr)) (fp : List Addr), PG (blkX X scope s H C cl fp) tg g)
    (step : ∀ x o, f x = some o → ∀ F' H' v, GrX X.K F H F' H' → rp X.K F' v x → ∀ Q : L2.St → Hp → Prop, (∀ σ2, wipe σ2 (own.map (·.2)) = wipe σ (own.map (·.2)) → CBi X scope tst elt σ2 F' H' o → Q σ2 H') → g v (wipe σ (own.map (·.2))) H' Q)
    (hc : X.calm = true := by rfl) (hs : ∀ x, foldedSetIterable iter X.env x = pure x := by intro _; rfl) : EvN X (.ListComp elt [⟨tg, iter, [tst], 0⟩] scope pos) σ F H ys := fun F1 H1 g1 Q q =>
  GoE.of (pe_lc hc hN pi_go ok hg (fun s H C cl fp => pts_one (pt_goB s H C cl fp)) pe_goB hs) (comp_core hi hr (fun x o hf F' H' v gr rv Q' k => step x o hf F' H' v gr rv Q' fun σ2 ew ⟨b, ht, h1, h2⟩ => k σ2 ew fun R r0 r1 s Hb C cl fp => ht s Hb C cl fp F' H' (.refl gr.sm) R fun F2 H2 g2 => by
    cases b with
    | true => exact r1 F2 H2 g2 ((h1 rfl).up g2)
    | false => exact r0 F2 H2 g2 (h2 rfl)) g1 q)
/-- y = [..] on one line, y a local -/
theorem go_setLc {α γ : Type} [Rp α] [Rp γ] {tg iter elt : Expr} {scope : Scope} {g : TG} {own : List (Str × Nat)} {xs : List α} {ys : List γ} {f : α → Option (Option γ)} {y : Str} {py cpos : Pos} (i : Nat) (s : SmX X.K F H) (hN : X.N.Nodup) (hi : EvI X tg iter σ F H xs) (hr : compG f xs = some ys) (ok : BlkOk X.N X.env.scope scope own)
    (hg : ∀ (s : Shared) (H : Hp) (C : Addr) (cl : List (Str × Addr)) (fp : List Addr), PG (blkX X scope s H C cl fp) tg g)
    (step : ∀ x o, f x = some o → ∀ F' H' v, GrX X.K F H F' H' → rp X.K F' v x → ∀ Q : L2.St → Hp → Prop, (∀ σ2, wipe σ2 (own.map (·.2)) = wipe σ (own.map (·.2)) → CB X scope elt σ2 F' H' o → Q σ2 H') → g v (wipe σ (own.map (·.2))) H' Q)
    (k : ∀ l o F' H', Gr F H F' H' → H l = none → F' l = none → H' l = some o → ob X.K F' o ys → GoS X rest D (σ.set i (some (.ref l))) H')
    (hy : X.N[i]? = some y := by rfl) (hyl : X.env.scope.names.lookup y = some .local := by rfl) (hsw : swapsWith (.ListComp elt [⟨tg, iter, [], 0⟩] scope cpos) (some (.Name y py)) pos.line X.env = pure true := by exact sw_true rfl rfl rfl (by decide +kernel))
    (hc : X.calm = true := by rfl) (hs : ∀ x, foldedSetIterable iter X.env x = pure x := by intro _; rfl) : GoS X (.Assign [.Name y py] (.ListComp elt [⟨tg, iter, [], 0⟩] scope cpos) pos :: rest) D σ H :=
  GoS.cons (ps_setLc hc hN hy hyl hsw pi_go ok hg (fun _ _ _ _ _ => pts_nil) pe_goB hs) (comp_core hi hr (fun x o hf F' H' v gr rv Q' k => step x o hf F' H' v gr rv Q' fun σ2 ew cb => k σ2 ew fun R _ r1 => r1 F' H' (.refl gr.fh) cb) (.refl s) k)
theorem go_setLci {α γ : Type} [Rp α] [Rp γ] {tg iter elt tst : Expr} {scope : Scope} {g : TG} {own : List (Str × Nat)} {xs : List α} {ys : List γ} {f : α → Option (Option γ)} {y : Str} {py cpos : Pos} (i : Nat) (s : SmX X.K F H) (hN : X.N.Nodup) (hi : EvI X tg iter σ F H xs) (hr : compG f xs = some ys) (ok : BlkOk X.N X.env.scope scope own)
    (hg : ∀ (s : Shared) (H : Hp) (C : Addr) (cl : List (Str × Addr)) (fp : List Addr), PG (blkX X scope s H C cl fp) tg g)
    (step : ∀ x o, f x = some o → ∀ F' H' v, GrX X.K F H F' H' → rp X.K F' v x → ∀ Q : L2.St → Hp → Prop, (∀ σ2, wipe σ2 (own.map (·.2)) = wipe σ (own.map (·.2)) → CBi X scope tst elt σ2 F' H' o → Q σ2 H') → g v (wipe σ (own.map (·.2))) H' Q)
    (k : ∀ l o F' H', Gr F H F' H' → H l = none → F' l = none → H' l = some o → ob X.K F' o ys → GoS X rest D (σ.set i (some (.ref l))) H')
    (hy : X.N[i]? = some y := by rfl) (hyl : X.env.scope.names.lookup y = some .local := by rfl) (hsw : swapsWith (.ListComp elt [⟨tg, iter, [tst], 0⟩] scope cpos) (some (.Name y py)) pos.line X.env = pure true := by exact sw_true rfl rfl rfl (by decide +kernel))
    (hc : X.calm = true := by rfl) (hs : ∀ x, foldedSetIterable iter X.env x = pure x := by intro _; rfl) : GoS X (.Assign [.Name y py] (.ListComp elt [⟨tg, iter, [tst], 0⟩] scope cpos) pos :: rest) D σ H :=
  GoS.cons (ps_setLc hc hN hy hyl hsw pi_go ok hg (fun s H C cl fp => pts_one (pt_goB s H C cl fp)) pe_goB hs) (comp_core hi hr (fun x o hf F' H' v gr rv Q' k => step x o hf F' H' v gr rv Q' fun σ2 ew ⟨b, ht, h1, h2⟩ => k σ2 ew fun R r0 r1 s Hb C cl fp => ht s Hb C cl fp F' H' (.refl gr.sm) R fun F2 H2 g2 => by
    cases b with
    | true => exact r1 F2 H2 g2 ((h1 rfl).up g2)
    | false => exact r0 F2 H2 g2 (h2 rfl)) (.refl s) k)

/-! ### a def by its mirror -/
theorem fn_ok {P : Program} {w : World} {mg : Str → Option Value} {base : Heap} {τ ρ : Type} [Ra τ] [RaN τ] [Rp ρ] {f : τ → Option ρ} {x qual : Str} {s0 : Stmt} {fa : Addr} {fd : FuncData} {N ps : List Str} {k : Nat} (Fn : FunD K x qual (defArgs s0) (defBody s0) (defScope s0) [] [] fa fd) (S : FnScope N ps (defScope s0)) (hn : RaN.n τ = ps.length)
    (hbody : ∀ (cdv : Value) (A : Around) (outer : List Env) (s : Shared) (F H : Hp) (vs : List V) (a : τ) (r : ρ) (D : Ends) (E : XK), Room k (A.deeper (envOfC qual (defScope s0) s.heap.objs.size fa cdv)) → SmX K F H → ra K F vs a → f a = some r → (∀ F' H' u, GrX K F H F' H' → rp K F' u r → D.rt u H') →
      (∀ σ' F' H', GrX K F H F' H' → rp K F' .non r → D.nx σ' H') → GoS (cxOf CX0 P w K mg base N qual (defScope s0) fa cdv A outer s H E).nox (defBody s0) D (start N vs) H) :
    FnOk P w K mg base CX0 (k + 1) fa fd ps (Pr K f) := by
  refine Fn.ok S (fun vs H Q E ⟨F, a, r, _, ra', _⟩ => by rw [RaN.len ra', hn]) fun cdv A outer s H vs Q E hr ⟨F, a, r, sm, ra', hf, k⟩ => ?_
  refine ⟨_, PSs.nox pss_go, hbody cdv A outer s F H vs a r { nx := fun _ H' => Q .non H', rt := Q } E hr sm ra' hf (fun F' H' u g q => k F' H' u g.toGr q) fun σ' F' H' g q => k F' H' .non g.toGr q⟩
end
end Gx
namespace Gx
open PySem PySem.Spec PyProof.Rows L2
open Rp (rp)
open Ra (ra)
open Ob (ob)
theorem cg {α : Type} [Rp α] {K : PySem.W.Frag} {F : Hp} {v : V} {x y : α} (e : x = y) (h : rp K F v x) : rp K F v y := e ▸ h
theorem nt {b : Bool} (h : b = false) : ¬ b = true := by rw [h]; exact Bool.false_ne_true
def Lp.thn {β ρ γ : Type} (o : Lp β ρ) (f : β → Option γ) (g : ρ → Option γ) : Option γ := match o with
  | .nx b => f b
  | .bk b => f b
  | .rt r => g r
/-- a loop that neither breaks nor returns -/
def loopN {α β : Type} (st : β → α → Option β) : β → List α → Option β
  | b, [] => some b
  | b, x :: xs => match st b x with
    | none => none
    | some b' => loopN st b' xs
theorem loopN_M {α β : Type} (st : β → α → Option β) : ∀ (xs : List α) (b : β), loopM (ρ := Unit) (fun b x => (st b x).map Lp.nx) b xs = (loopN st b xs).map Lp.nx
  | [], b => rfl
  | x :: xs, b => by
    unfold loopM loopN
    cases st b x with
    | none => rfl
    | some b' => exact loopN_M st xs b'
def whileN {β : Type} (c : β → Option Bool) (st : β → Option β) : Nat → β → Option β
  | 0, _ => none
  | n + 1, b => match c b with
    | none => none
    | some false => some b
    | some true => match st b with
      | none => none
      | some b' => whileN c st n b'
theorem whileN_M {β : Type} (c : β → Option Bool) (st : β → Option β) : ∀ (n : Nat) (b : β), whileM (ρ := Unit) c (fun b => (st b).map Lp.nx) n b = (whileN c st n b).map Lp.nx
  | 0, b => rfl
  | n + 1, b => by
    unfold whileM whileN
    cases c b with
    | none => rfl
    | some t =>
      cases t with
      | false => rfl
      | true =>
        dsimp only
        cases st b with
        | none => rfl
        | some b' => exact whileN_M c st n b'
section
variable {X : Cx} {K : PySem.W.Frag} {e a b c d : Expr} {es : List Expr} {σ : L2.St} {F H F0 H0 : Hp} {pos : Pos} {D : Ends} {st : Stmt} {rest body : List Stmt}
theorem go_forM {α β ρ γ : Type} [Rp α] {tg iter : Expr} {g : TG} {xs : List α} {stp : β → α → Option (Lp β ρ)} {b0 : β} {o : Lp β ρ} {f1 : β → Option γ} {f2 : ρ → Option γ} {r : γ} (s : SmX X.K F H) (hi : EvI X tg iter σ F H xs) (hg : PG X tg g) (ho : loopM stp b0 xs = some o) (hm : o.thn f1 f2 = some r)
    (k : ∀ F2 H2, Gr F H F2 H2 → ∃ (Iv : β → L2.St → Hp → Hp → Prop) (Rt : ρ → V → Hp → Prop), Iv b0 σ F2 H2 ∧
      (∀ b x o', stp b x = some o' → ∀ σ F H v, L2.Same F2 F → L2.Same F H → Iv b σ F H → ∀ F' H', Gr F H F' H' → rp X.K F' v x → ∀ Q : L2.St → Hp → Prop, (∀ σ' H'', GoS X body (LE Iv Rt F o') σ' H'' → Q σ' H'') → g v σ H' Q) ∧
      (∀ b, f1 b = some r → ∀ σ F H, L2.Same F2 F → L2.Same F H → Iv b σ F H → GoS X rest D σ H) ∧ (∀ x, f2 x = some r → ∀ v H, Rt x v H → D.rt v H))
    (hp : PassesOwn (model X.prog X.w) X.A X.env X.xe) (hc : X.calm = true := by rfl) (hs : ∀ x, foldedSetIterable iter X.env x = pure x := by intro _; rfl) : GoS X (.For tg iter body [] pos :: rest) D σ H :=
  go_for xs stp b0 s hi hg ho (fun F2 H2 g2 => by
    obtain ⟨Iv, Rt, i0, st, d1, d2⟩ := k F2 H2 g2
    refine ⟨fun b σ F H => L2.Same F2 F ∧ Iv b σ F H, Rt, ⟨.refl _, i0⟩, fun b x o' e σ F H v s1 s2 ⟨_, iv⟩ F' H' gr rv Q q => st b x o' e σ F H v s1 s2 iv F' H' gr rv Q fun σ' H'' go => q σ' H'' (go.mono ?_ (fun _ _ h => h) ?_ ?_), ?_⟩
    · exact fun σ3 H3 ⟨b', F3, e, f1, f2, iv⟩ => ⟨b', F3, e, f1, f2, s1.trans f1, iv⟩
    · exact fun σ3 H3 ⟨b', F3, e, f1, f2, iv⟩ => ⟨b', F3, e, f1, f2, s1.trans f1, iv⟩
    · exact fun σ3 H3 ⟨b', F3, e, f1, f2, iv⟩ => ⟨b', F3, e, f1, f2, s1.trans f1, iv⟩
    · cases o with
      | nx b => exact fun σ F H s1 ⟨s0, iv⟩ => d1 b hm σ F H s0 s1 iv
      | bk b => exact fun σ F H s1 ⟨s0, iv⟩ => d1 b hm σ F H s0 s1 iv
      | rt x => exact d2 x hm) hp hc hs
theorem go_forN {α β : Type} [Rp α] {tg iter : Expr} {g : TG} {xs : List α} {stp : β → α → Option β} {b0 b1 : β} (s : SmX X.K F H) (hi : EvI X tg iter σ F H xs) (hg : PG X tg g) (ho : loopN stp b0 xs = some b1)
    (k : ∀ F2 H2, Gr F H F2 H2 → ∃ (Iv : β → L2.St → Hp → Hp → Prop), Iv b0 σ F2 H2 ∧
      (∀ b x b', stp b x = some b' → ∀ σ F H v, L2.Same F2 F → L2.Same F H → Iv b σ F H → ∀ F' H', Gr F H F' H' → rp X.K F' v x → ∀ Q : L2.St → Hp → Prop, (∀ σ' H'', GoS X body { nx := fun σ3 H3 => ∃ F3, L2.Same F F3 ∧ L2.Same F3 H3 ∧ Iv b' σ3 F3 H3, ct := fun σ3 H3 => ∃ F3, L2.Same F F3 ∧ L2.Same F3 H3 ∧ Iv b' σ3 F3 H3, bk := fun _ _ => False, rt := fun _ _ => False } σ' H'' → Q σ' H'') → g v σ H' Q) ∧
      (∀ σ F H, L2.Same F2 F → L2.Same F H → Iv b1 σ F H → GoS X rest D σ H))
    (hp : PassesOwn (model X.prog X.w) X.A X.env X.xe) (hc : X.calm = true := by rfl) (hs : ∀ x, foldedSetIterable iter X.env x = pure x := by intro _; rfl) : GoS X (.For tg iter body [] pos :: rest) D σ H := by
  have ho' : loopM (ρ := Unit) (fun b x => (stp b x).map Lp.nx) b0 xs = some (.nx b1) := by rw [loopN_M, ho]; rfl
  refine go_forM (f1 := fun b => some b) (f2 := fun _ => none) (r := b1) s hi hg ho' rfl (fun F2 H2 g2 => ?_) hp hc hs
  obtain ⟨Iv, i0, st, d1⟩ := k F2 H2 g2
  refine ⟨Iv, fun _ _ _ => False, i0, fun b x o' e σ F H v s1 s2 iv F' H' gr rv Q q => ?_, fun b e => by cases (Option.some.inj e); exact d1, fun _ e => nomatch e⟩
  obtain ⟨b', eb, rfl⟩ := Option.map_eq_some_iff.mp e
  exact st b x b' eb σ F H v s1 s2 iv F' H' gr rv Q fun σ' H'' go => q σ' H'' (go.mono (fun σ3 H3 ⟨F3, f1, f2, iv⟩ => ⟨b', F3, rfl, f1, f2, iv⟩) (fun _ _ h => h.elim) (fun _ _ h => h.elim) fun σ3 H3 ⟨F3, f1, f2, iv⟩ => ⟨b', F3, rfl, f1, f2, iv⟩)
theorem go_whileM {β ρ γ : Type} {cn : β → Option Bool} {stp : β → Option (Lp β ρ)} {N : Nat} {b0 : β} {o : Lp β ρ} {f1 : β → Option γ} {f2 : ρ → Option γ} {r : γ} (Iv : β → L2.St → Hp → Hp → Prop) (Rt : ρ → V → Hp → Prop) (s : SmX X.K F H) (init : Iv b0 σ F H) (ho : whileM cn stp N b0 = some o) (hm : o.thn f1 f2 = some r)
    (kc : ∀ b t, cn b = some t → ∀ σ F1 H, L2.Same F F1 → L2.Same F1 H → Iv b σ F1 H → SmX X.K F1 H ∧ EvT X c σ F1 H t ∧ ∀ F' H', Gr F1 H F' H' → Iv b σ F' H')
    (kb : ∀ b o', stp b = some o' → ∀ σ F1 H, L2.Same F F1 → L2.Same F1 H → Iv b σ F1 H → GoS X body (LE Iv Rt F1 o') σ H)
    (d1 : ∀ b, f1 b = some r → ∀ σ F1 H, L2.Same F F1 → L2.Same F1 H → Iv b σ F1 H → GoS X rest D σ H) (d2 : ∀ x, f2 x = some r → ∀ v H, Rt x v H → D.rt v H)
    (hp : PassesOwn (model X.prog X.w) X.A X.env X.xe) : GoS X (.While c body [] pos :: rest) D σ H := by
  refine go_while cn stp N b0 (fun b σ F1 H => L2.Same F F1 ∧ Iv b σ F1 H) Rt s ⟨.refl _, init⟩ ho (fun b t e σ F1 H s2 ⟨s1, iv⟩ => ?_) (fun b o' _ e σ F1 H s2 ⟨s1, iv⟩ => (kb b o' e σ F1 H s1 s2 iv).mono ?_ (fun _ _ h => h) ?_ ?_) ?_ hp
  · obtain ⟨h0, h1, h2⟩ := kc b t e σ F1 H s1 s2 iv
    exact ⟨h0, h1, fun F' H' g => ⟨s1.trans g.ff, h2 F' H' g⟩⟩
  · exact fun σ3 H3 ⟨b', F3, e, f1, f2, iv⟩ => ⟨b', F3, e, f1, f2, s1.trans f1, iv⟩
  · exact fun σ3 H3 ⟨b', F3, e, f1, f2, iv⟩ => ⟨b', F3, e, f1, f2, s1.trans f1, iv⟩
  · exact fun σ3 H3 ⟨b', F3, e, f1, f2, iv⟩ => ⟨b', F3, e, f1, f2, s1.trans f1, iv⟩
  · cases o with
    | nx b => exact fun σ F H s1 ⟨s0, iv⟩ => d1 b hm σ F H s0 s1 iv
    | bk b => exact fun σ F H s1 ⟨s0, iv⟩ => d1 b hm σ F H s0 s1 iv
    | rt x => exact d2 x hm
theorem go_whileN {β : Type} {cn : β → Option Bool} {stp : β → Option β} {N : Nat} {b0 b1 : β} (Iv : β → L2.St → Hp → Hp → Prop) (s : SmX X.K F H) (init : Iv b0 σ F H) (ho : whileN cn stp N b0 = some b1)
    (kc : ∀ b t, cn b = some t → ∀ σ F1 H, L2.Same F F1 → L2.Same F1 H → Iv b σ F1 H → SmX X.K F1 H ∧ EvT X c σ F1 H t ∧ ∀ F' H', Gr F1 H F' H' → Iv b σ F' H')
    (kb : ∀ b b', stp b = some b' → ∀ σ F1 H, L2.Same F F1 → L2.Same F1 H → Iv b σ F1 H → GoS X body { nx := fun σ3 H3 => ∃ F3, L2.Same F1 F3 ∧ L2.Same F3 H3 ∧ Iv b' σ3 F3 H3, ct := fun σ3 H3 => ∃ F3, L2.Same F1 F3 ∧ L2.Same F3 H3 ∧ Iv b' σ3 F3 H3, bk := fun _ _ => False, rt := fun _ _ => False } σ H)
    (d1 : ∀ σ F1 H, L2.Same F F1 → L2.Same F1 H → Iv b1 σ F1 H → GoS X rest D σ H) (hp : PassesOwn (model X.prog X.w) X.A X.env X.xe) : GoS X (.While c body [] pos :: rest) D σ H := by
  have ho' : whileM (ρ := Unit) cn (fun b => (stp b).map Lp.nx) N b0 = some (.nx b1) := by rw [whileN_M, ho]; rfl
  refine go_whileM (f1 := fun b => some b) (f2 := fun _ => none) (r := b1) Iv (fun _ _ _ => False) s init ho' rfl kc (fun b o' e σ F1 H s1 s2 iv => ?_) (fun b e => by cases (Option.some.inj e); exact d1) (fun _ e => nomatch e) hp
  obtain ⟨b', eb, rfl⟩ := Option.map_eq_some_iff.mp e
  exact (kb b b' eb σ F1 H s1 s2 iv).mono (fun σ3 H3 ⟨F3, f1, f2, iv⟩ => ⟨b', F3, rfl, f1, f2, iv⟩) (fun _ _ h => h.elim) (fun _ _ h => h.elim) fun σ3 H3 ⟨F3, f1, f2, iv⟩ => ⟨b', F3, rfl, f1, f2, iv⟩
/-! ### reading a private list -/
def er (F : Hp) (l : Addr) : Hp := fun a => if a = l then none else F a
class Flat (α : Type) [Rp α] : Prop where
  fl : ∀ {K : PySem.W.Frag} {F : Hp} {l : Addr} {v : V} {x : α}, (∀ xs, ¬ F l = some (.tup xs)) → (∀ o xs, ¬ F l = some (.frz o (.tup xs))) → rp K F v x → rp K (er F l) v x
instance : Flat Int := ⟨fun _ _ h => h⟩
instance : Flat Bool := ⟨fun _ _ h => h⟩
instance : Flat Str := ⟨fun _ _ h => h⟩
instance : Flat Unit := ⟨fun _ _ h => h⟩
theorem er_seqT {F : Hp} {l a : Addr} {xs : List V} (h1 : ∀ xs, ¬ F l = some (.tup xs)) (h2 : ∀ o xs, ¬ F l = some (.frz o (.tup xs))) (h : TupF F a xs) : TupF (er F l) a xs := by
  unfold TupF er
  rw [if_neg (show ¬ a = l from fun e => h1 xs (e ▸ h))]; exact h
instance {α : Type} [Rp α] [NN α] [Flat α] : Flat (Option α) := ⟨fun {K F l v x} h1 h2 h => by
  cases x with
  | none => exact h
  | some x => exact Flat.fl (α := α) h1 h2 h⟩
theorem Rps.fl {α : Type} [Rp α] [Flat α] {F : Hp} {l : Addr} {vs : List V} {xs : List α} (h1 : ∀ xs, ¬ F l = some (.tup xs)) (h2 : ∀ o xs, ¬ F l = some (.frz o (.tup xs))) (h : Rps K F vs xs) : Rps K (er F l) vs xs := L2.Paired.mapP h fun _ _ => Flat.fl h1 h2
instance {α : Type} [Rp α] [Flat α] : Flat (Tp α) := ⟨fun h1 h2 ⟨a, vs, e, q, r⟩ => ⟨a, vs, e, er_seqT h1 h2 q, Rps.fl h1 h2 r⟩⟩
class FlatR (τ : Type) [Ra τ] : Prop where
  fl : ∀ {K : PySem.W.Frag} {F : Hp} {l : Addr} {v : List V} {x : τ}, (∀ xs, ¬ F l = some (.tup xs)) → (∀ o xs, ¬ F l = some (.frz o (.tup xs))) → ra K F v x → ra K (er F l) v x
instance : FlatR Unit := ⟨fun _ _ h => h⟩
instance {α τ : Type} [Rp α] [Ra τ] [Flat α] [FlatR τ] : FlatR (α × τ) := ⟨fun h1 h2 ⟨v, r, e, p, q⟩ => ⟨v, r, e, Flat.fl h1 h2 p, FlatR.fl h1 h2 q⟩⟩
theorem rpT.fl {θ τ : Type} [Ra τ] [FlatR τ] {row : θ → τ} {F : Hp} {l : Addr} {v : V} {x : θ} (h1 : ∀ xs, ¬ F l = some (.tup xs)) (h2 : ∀ o xs, ¬ F l = some (.frz o (.tup xs))) : rpT row K F v x → rpT row K (er F l) v x := fun ⟨a, vs, e, q, r⟩ => ⟨a, vs, e, er_seqT h1 h2 q, FlatR.fl h1 h2 r⟩
instance {α : Type} [Rp α] [Flat α] : Flat (T1 α) := ⟨rpT.fl⟩
instance {α β : Type} [Rp α] [Rp β] [Flat α] [Flat β] : Flat (T2 α β) := ⟨rpT.fl⟩
instance {α β γ : Type} [Rp α] [Rp β] [Rp γ] [Flat α] [Flat β] [Flat γ] : Flat (T3 α β γ) := ⟨rpT.fl⟩
instance {α β γ δ : Type} [Rp α] [Rp β] [Rp γ] [Rp δ] [Flat α] [Flat β] [Flat γ] [Flat δ] : Flat (T4 α β γ δ) := ⟨rpT.fl⟩
instance {α β γ δ ε : Type} [Rp α] [Rp β] [Rp γ] [Rp δ] [Rp ε] [Flat α] [Flat β] [Flat γ] [Flat δ] [Flat ε] : Flat (T5 α β γ δ ε) := ⟨rpT.fl⟩
/-- the private thing at l shown for a while -/
theorem GdT.back {l P : Addr} {u : HO} (a : GdT (L2.upd H l u) P) (h : PlAt H l) (pu : pln u) : GdT H P := by
  obtain ⟨o, ho, po⟩ := h
  have e : L2.upd (L2.upd H l u) l o = H := by
    rw [upd_upd]; funext b
    by_cases hb : b = l
    · rw [hb, upd_same, ho]
    · exact upd_ne hb
  rw [← e]
  exact a.upd ⟨u, upd_same, pu⟩ po.ntb
theorem Gr.show_ {F H F1 H1 : Hp} {l : Addr} {o u : HO} (hl : H l = some o) (fl : F l = none) (no : lstish o) (po : pln o) (g : Gr F H F1 H1) (pu : pln u := by trivial) : Gr (upd F l u) (L2.upd H l u) (upd F1 l u) (upd H1 l u) ∧ F1 l = none ∧ H1 l = some o := by
  have f1 : F1 l = none := (g.fr l _ hl no).trans fl
  have hl1 := g.hh.k _ _ hl po.ntb
  refine ⟨⟨fun b v e => ?_, fun b v e => ?_, ⟨fun b v e n => ?_, fun b ps e => ?_, fun P a => (g.hh.w P (a.back ⟨o, hl, po⟩ pu)).upd ⟨o, hl1, po⟩ pu.ntb⟩, fun a v h n => ?_⟩, f1, hl1⟩
  · by_cases hb : b = l
    · subst hb; rw [upd_same] at e ⊢; exact e
    · rw [upd_ne hb] at e ⊢; exact g.ff _ _ e
  · by_cases hb : b = l
    · subst hb; rw [upd_same] at e ⊢; exact e
    · rw [upd_ne hb] at e ⊢; exact g.fh _ _ e
  · by_cases hb : b = l
    · subst hb; rw [upd_same] at e ⊢; exact e
    · rw [upd_ne hb] at e ⊢; exact g.hh.k _ _ e n
  · by_cases hb : b = l
    · subst hb; rw [upd_same] at e ⊢; exact ⟨_, e⟩
    · rw [upd_ne hb] at e ⊢; exact g.hh.t _ _ e
  · by_cases hb : a = l
    · subst hb; rw [upd_same, upd_same]
    · rw [upd_ne hb] at h ⊢; rw [upd_ne hb]; exact g.fr a v h n
theorem GrX.show_ {F H F1 H1 : Hp} {l : Addr} {o u : HO} (hl : H l = some o) (fl : F l = none) (no : lstish o) (po : pln o) (g : GrX K F H F1 H1) (pu : pln u := by trivial) : GrX K (upd F l u) (upd H l u) (upd F1 l u) (upd H1 l u) ∧ F1 l = none ∧ H1 l = some o := by
  obtain ⟨g1, f1, h1⟩ := g.toGr.show_ (u := u) hl fl no po pu
  exact ⟨⟨g1, (g.h.upd ⟨o, h1, po⟩ pu.ntb).2⟩, f1, h1⟩
theorem Gr.hide {F1 H1 F2 H2 : Hp} {l : Addr} {o u : HO} (hl : H1 l = some o) (f1 : F1 l = none) (po : pln o) (g : Gr (upd F1 l u) (upd H1 l u) F2 H2) (pu : pln u := by trivial) : Gr F1 H1 (er F2 l) (upd H2 l o) := by
  have h2 : H2 l = some u := g.hh.k _ _ upd_same pu.ntb
  refine ⟨fun b v e => ?_, fun b v e => ?_, ⟨fun b v e n => ?_, fun b ps e => ?_, fun P a => (g.hh.w P (a.upd ⟨o, hl, po⟩ pu.ntb)).upd ⟨u, h2, pu⟩ po.ntb⟩, fun a v h n => ?_⟩
  · have hb : b ≠ l := ne_of_none e f1
    unfold er
    rw [if_neg hb]
    exact g.ff b v (by rw [upd_ne hb]; exact e)
  · unfold er at e
    split at e
    · cases e
    · rename_i hb
      rw [upd_ne hb]; exact g.fh b v e
  · by_cases hb : b = l
    · subst hb; rw [upd_same, ← hl]; exact e
    · rw [upd_ne hb]; exact g.hh.k b v (by rw [upd_ne hb]; exact e) n
  · by_cases hb : b = l
    · subst hb; rw [hl] at e; cases e; exact po.elim
    · rw [upd_ne hb]; exact g.hh.t b ps (by rw [upd_ne hb]; exact e)
  · unfold er
    by_cases hb : a = l
    · rw [if_pos hb, hb, f1]
    · rw [if_neg hb, g.fr a v (by rw [upd_ne hb]; exact h) n, upd_ne hb]
theorem frz_no {F : Hp} {l : Addr} {od : Obj} {o : HO} (e : F l = some (.frz od o)) (no : lstish o) : (∀ xs, ¬ F l = some (.tup xs)) ∧ (∀ (o' : Obj) (xs : List V), ¬ F l = some (.frz o' (.tup xs))) :=
  ⟨fun xs h => (by rw [e] at h; cases h), fun o' xs h => (by rw [e] at h; cases h; exact no)⟩
theorem shown {F H : Hp} {l : Addr} {u : HO} (s : L2.Same F H) : L2.Same (upd F l u) (upd H l u) := fun b v e => by
  by_cases hb : b = l
  · subst hb; rw [upd_same] at e ⊢; exact e
  · rw [upd_ne hb] at e ⊢; exact s _ _ e
theorem ev_thaw {α β : Type} [Rp α] [Flat α] [Rp β] [Ob β] {x : α} {y : β} {l : Addr} (o : Own X.K H0 F H l y) (s : L2.Same F H) (h : ∀ F' H', L2.Same F F' → L2.Same F' H' → rp X.K F' (.ref l) y → (∀ a, a ≠ l → F' a = F a ∧ H' a = H a) → Ev X e σ F' H' x) : Ev X e σ F H x := fun F1 H1 g Q q => by
  obtain ⟨u, hl, r⟩ := o.h
  have hl1 := g.hh.k _ _ hl (Ob.pl r).ntb
  refine GoE.locked hl1 (Ob.mu r) fun od => ?_
  obtain ⟨g1, f1, h1⟩ := GrX.show_ (u := .frz od u) hl o.f (Ob.ls r) (Ob.pl r) g
  refine h _ _ (same_upd o.f) (shown s) (Ob.fz upd_same (Ob.mono (same_upd o.f) r)) (fun a ha => ⟨upd_ne ha, upd_ne ha⟩) _ _ g1 _ fun v F2 H2 g2 r2 => ?_
  have e2 : F2 l = some (.frz od u) := g2.ff _ _ upd_same
  obtain ⟨n1, n2⟩ := frz_no e2 (Ob.ls r)
  exact ⟨g2.fh _ _ e2, q v (er F2 l) _ (Gr.hide h1 f1 (Ob.pl r) g2) (Flat.fl n1 n2 r2)⟩
theorem et_thaw {β : Type} [Rp β] [Ob β] {x : Bool} {y : β} {l : Addr} (o : Own X.K H0 F H l y) (s : L2.Same F H) (h : ∀ F' H', L2.Same F F' → L2.Same F' H' → rp X.K F' (.ref l) y → (∀ a, a ≠ l → F' a = F a ∧ H' a = H a) → EvT X e σ F' H' x) : EvT X e σ F H x := fun F1 H1 g Q q => by
  obtain ⟨u, hl, r⟩ := o.h
  have hl1 := g.hh.k _ _ hl (Ob.pl r).ntb
  refine GoT.locked hl1 (Ob.mu r) fun od => ?_
  obtain ⟨g1, f1, h1⟩ := GrX.show_ (u := .frz od u) hl o.f (Ob.ls r) (Ob.pl r) g
  refine h _ _ (same_upd o.f) (shown s) (Ob.fz upd_same (Ob.mono (same_upd o.f) r)) (fun a ha => ⟨upd_ne ha, upd_ne ha⟩) _ _ g1 _ fun F2 H2 g2 => ?_
  have e2 : F2 l = some (.frz od u) := g2.ff _ _ upd_same
  exact ⟨g2.fh _ _ e2, q (er F2 l) _ (Gr.hide h1 f1 (Ob.pl r) g2)⟩
class FlatO (α : Type) [Rp α] [Ob α] : Prop where
  fl : ∀ {K : PySem.W.Frag} {F : Hp} {l : Addr} {o : HO} {x : α}, (∀ xs, ¬ F l = some (.tup xs)) → (∀ o xs, ¬ F l = some (.frz o (.tup xs))) → ob K F o x → ob K (er F l) o x
instance {α : Type} [Rp α] [Flat α] : FlatO (List α) := ⟨fun h1 h2 ⟨vs, e, r⟩ => ⟨vs, e, Rps.fl h1 h2 r⟩⟩
theorem en_thaw {α β : Type} [Rp α] [Ob α] [FlatO α] [Rp β] [Ob β] {x : α} {y : β} {l : Addr} (o : Own X.K H0 F H l y) (s : L2.Same F H) (h : ∀ F' H', L2.Same F F' → L2.Same F' H' → rp X.K F' (.ref l) y → (∀ a, a ≠ l → F' a = F a ∧ H' a = H a) → EvN X e σ F' H' x) : EvN X e σ F H x := fun F1 H1 g Q q => by
  obtain ⟨u, hl, r⟩ := o.h
  have hl1 := g.hh.k _ _ hl (Ob.pl r).ntb
  refine GoE.locked hl1 (Ob.mu r) fun od => ?_
  obtain ⟨g1, f1, h1⟩ := GrX.show_ (u := .frz od u) hl o.f (Ob.ls r) (Ob.pl r) g
  refine h _ _ (same_upd o.f) (shown s) (Ob.fz upd_same (Ob.mono (same_upd o.f) r)) (fun a ha => ⟨upd_ne ha, upd_ne ha⟩) _ _ g1 _ fun l2 u2 F2 H2 g2 n2 f2 h2 r2 => ?_
  have e2 : F2 l = some (.frz od u) := g2.ff _ _ upd_same
  obtain ⟨n1, n2'⟩ := frz_no e2 (Ob.ls r)
  have hne : l2 ≠ l := fun e => by rw [e, upd_same] at n2; cases n2
  refine ⟨g2.fh _ _ e2, q l2 u2 (er F2 l) _ (Gr.hide h1 f1 (Ob.pl r) g2) (by rw [upd_ne hne] at n2; exact n2) ?_ (by rw [upd_ne hne]; exact h2) (FlatO.fl n1 n2' r2)⟩
  unfold er
  rw [if_neg hne]; exact f2
end
end Gx
namespace Gx
open PySem PySem.Spec PyProof.Rows L2
open Rp (rp)
open Ra (ra)
open Ob (ob)
section
variable {X : Cx} {K : PySem.W.Frag} {e a b c d : Expr} {es : List Expr} {σ : L2.St} {F H F0 H0 : Hp} {pos : Pos} {D : Ends} {st : Stmt} {rest body : List Stmt}
theorem Own.cg {α : Type} [Rp α] [Ob α] {xs ys : α} {l : Addr} (e : xs = ys) (o : Own K H0 F H l xs) : Own K H0 F H l ys := e ▸ o
theorem ob_cg {α : Type} [Rp α] [Ob α] {xs ys : α} {o : HO} (e : xs = ys) (r : Ob.ob K F o xs) : Ob.ob K F o ys := e ▸ r
theorem go_augA {i : Nat} {x y : Int} {v : V} {n : Str} {p : Pos} (s : SmX X.K F H) (hσ : σ[i]? = some (some v)) (r : rp X.K F v x) (he : Ev X e σ F H y) (k : ∀ v F' H', Gr F H F' H' → rp X.K F' v (x + y) → GoS X rest D (σ.set i (some v)) H') (hN : X.N.Nodup) (hi : X.N[i]? = some n := by rfl)
    (hx : Loc X.env.scope n := by first | exact Or.inl rfl | exact Or.inr rfl) (hf : X.fn n = true ∨ X.env.scope.names.lookup n = some .local := by first | exact .inl rfl | exact .inr rfl) : GoS X (.AugAssign (.Name n p) .Add e pos :: rest) D σ H :=
  GoS.cons (ps_aug hN hi hx pe_go ip_add hf) ⟨v, hσ, he F H (.refl s) _ fun w F2 H2 g r2 => ⟨x, y, r, r2, k _ F2 H2 g rfl⟩⟩
theorem go_augS {i : Nat} {x y : Int} {v : V} {n : Str} {p : Pos} (s : SmX X.K F H) (hσ : σ[i]? = some (some v)) (r : rp X.K F v x) (he : Ev X e σ F H y) (k : ∀ v F' H', Gr F H F' H' → rp X.K F' v (x - y) → GoS X rest D (σ.set i (some v)) H') (hN : X.N.Nodup) (hi : X.N[i]? = some n := by rfl)
    (hx : Loc X.env.scope n := by first | exact Or.inl rfl | exact Or.inr rfl) (hf : X.fn n = true ∨ X.env.scope.names.lookup n = some .local := by first | exact .inl rfl | exact .inr rfl) : GoS X (.AugAssign (.Name n p) .Sub e pos :: rest) D σ H :=
  GoS.cons (ps_aug hN hi hx pe_go ip_sub hf) ⟨v, hσ, he F H (.refl s) _ fun w F2 H2 g r2 => ⟨x, y, r, r2, k _ F2 H2 g rfl⟩⟩
/-- a, b, .. = e -/
theorem go_unpack {α : Type} [Rp α] {x : α} {tg : Expr} {g : TG} (s : SmX X.K F H) (he : Ev X e σ F H x) (hg : PG X tg g) (k : ∀ v F' H', Gr F H F' H' → rp X.K F' v x → ∀ Q : L2.St → Hp → Prop, (∀ σ' H'', GoS X rest D σ' H'' → Q σ' H'') → g v σ H' Q)
    (hs : swapsWithSole [tg] e pos.line X.env = pure false := by rfl) (hw : swappedStores [tg] e X.env = pure none := by rfl) (h1 : (assignEach [tg] X.env).map (·.2) = [assign tg X.env] := by rfl) : GoS X (.Assign [tg] e pos :: rest) D σ H :=
  GoS.cons (ps_asg pe_go hg hs hw h1) (he F H (.refl s) _ fun v F2 H2 g2 r => k v F2 H2 g2 r _ fun _ _ h => h)
end
end Gx

/-! Gd: more operations. -/
namespace Gx
open PySem PySem.Spec PyProof.Rows L2
open Rp (rp)
open Ra (ra)
open Ob (ob)
section
variable {X : Cx} {K : PySem.W.Frag} {e a b c d : Expr} {es : List Expr} {σ : L2.St} {F H F0 H0 : Hp} {pos : Pos} {D : Ends} {st : Stmt} {rest body : List Stmt}
theorem Rps.of_ints : ∀ ns : List Int, Rps K F (ns.map V.int) ns
  | [] => .nil
  | n :: ns => .cons rfl (Rps.of_ints ns)
theorem Rps.of_strs : ∀ ns : List Str, Rps K F (ns.map V.str) ns
  | [] => .nil
  | n :: ns => .cons rfl (Rps.of_strs ns)
class SN (α : Type) [Rp α] : Prop where
  sn : ∀ {K : PySem.W.Frag} {F : Hp} {v : V} {x : α}, rp K F v x → scal .non v = true ∧ scal v .non = true ∧ v ≠ .non
instance : SN Int := ⟨fun {K F v x} h => by
  have h : v = .int x := h
  subst h; exact ⟨rfl, rfl, fun e => nomatch e⟩⟩
instance : SN Str := ⟨fun {K F v x} h => by
  have h : v = .str x := h
  subst h; exact ⟨rfl, rfl, fun e => nomatch e⟩⟩
instance : SN Bool := ⟨fun {K F v x} h => by
  have h : v = .bl x := h
  subst h; exact ⟨rfl, rfl, fun e => nomatch e⟩⟩
instance {α : Type} [Rp α] [NN α] [DecidableEq α] [Sc α] [SN α] : Sc (Option α) := ⟨fun {K F v w x y} h1 h2 => by
  cases x with
  | none =>
    have h1 : v = .non := h1
    subst h1
    cases y with
    | none =>
      have h2 : w = .non := h2
      subst h2; exact ⟨rfl, rfl⟩
    | some y =>
      obtain ⟨s1, _, n1⟩ := SN.sn (α := α) h2
      exact ⟨s1, by rw [decide_eq_false (fun e => n1 e.symm)]; rfl⟩
  | some x =>
    cases y with
    | none =>
      have h2 : w = .non := h2
      subst h2
      obtain ⟨_, s2, n1⟩ := SN.sn (α := α) h1
      exact ⟨s2, by rw [decide_eq_false n1]; rfl⟩
    | some y =>
      obtain ⟨s1, s2⟩ := Sc.sc (α := α) h1 h2
      exact ⟨s1, by rw [s2]; simp⟩⟩
/-! ### kinds -/
inductive Kn (K : PySem.W.Frag) (H : Hp) : V → String → Prop
  | non : Kn K H .non "NoneType"
  | bl (b : Bool) : Kn K H (.bl b) "bool"
  | int (i : Int) : Kn K H (.int i) "int"
  | str (x : Str) : Kn K H (.str x) "str"
  | lst {a : Addr} {xs : List V} : SqL K H a xs → Kn K H (.ref a) "list"
  | tup {a : Addr} {xs : List V} : SqT K H a xs → Kn K H (.ref a) "tuple"
  | dK {a : Addr} {xs : List (Key × V)} : Rd H a (.dK xs) → Kn K H (.ref a) "dict"
  | dT {a : Addr} {xs : List (List Key × V)} : Rd H a (.dT xs) → Kn K H (.ref a) "dict"
def rIsK (K : PySem.W.Frag) : List V → Hp → VK → Prop := fun xs H Q => ∃ (x : V) (U T : String) (b : Bool), xs = [x, .ty T] ∧ Kn K H x U ∧ kitB U T = some b ∧ Q (.bl b) H
theorem call_isk : CallR X (.builtin "isinstance") (rIsK X.K) := by
  intro pins s σ H xs us Q I r h
  obtain ⟨x, U, T, b, rfl, k, e, q⟩ := h
  obtain ⟨u1, u2, rfl, r1, r2⟩ := vals2 r
  have e2 : u2 = .type T := r2
  subst e2
  have fin : ∀ {P : Heap → Prop}, PySem.W.KitX X.K u1 (.type U) P → P s.heap → u1 ≠ .builtin "__main__.__loader__#opaque" → wpAny (model X.prog X.w) X.A (call (.builtin "isinstance") [u1, .type T]) (EP X pins σ Q) X.xe s :=
    fun Z p hx => PySem.W.kia_one Z I.kIn p (kit_ty e) hx fun tk => ⟨.bl b, H, I.tok tk, rfl, q⟩
  cases k with
  | non => cases (show u1 = Value.none from r1); exact fin PySem.W.kitx_none True.intro (fun z => nomatch z)
  | bl y => cases (show u1 = Value.bool y from r1); exact fin PySem.W.kitx_bool True.intro (fun z => nomatch z)
  | int i => obtain ⟨t, q⟩ := (show ∃ t, u1 = Value.int i t from r1); cases q; exact fin PySem.W.kitx_int True.intro (fun z => nomatch z)
  | str i => obtain ⟨t, q⟩ := (show ∃ t, u1 = Value.str i t from r1); cases q; exact fin PySem.W.kitx_str True.intro (fun z => nomatch z)
  | lst sq =>
    rename_i a xs
    cases (show u1 = Value.ref a from r1)
    obtain ⟨its, rv, ⟨o, n, h1, h2, _⟩, _⟩ := I.list sq
    exact fin PySem.W.kitx_list ⟨o, h1, h2⟩ (fun z => nomatch z)
  | tup sq =>
    rename_i a xs
    cases (show u1 = Value.ref a from r1)
    obtain ⟨its, rv, ⟨o, h1, h2, _⟩, _⟩ := I.tuple sq
    exact fin PySem.W.kitx_tuple ⟨o, h1, h2⟩ (fun z => nomatch z)
  | dK ea =>
    rename_i a xs
    cases (show u1 = Value.ref a from r1)
    obtain ⟨_, _, vs, _, o, es, ep, h1, h2, _⟩ := (show ObjOk X.prog X.w H s.heap a (.dK xs) from ea.ok I.hok)
    exact fin PySem.W.kitx_dict ⟨o, h1, h2.1⟩ (fun z => nomatch z)
  | dT ea =>
    rename_i a xs
    cases (show u1 = Value.ref a from r1)
    obtain ⟨_, _, vs, _, o, es, ep, h1, h2, _⟩ := (show ObjOk X.prog X.w H s.heap a (.dT xs) from ea.ok I.hok)
    exact fin PySem.W.kitx_dict ⟨o, h1, h2.1⟩ (fun z => nomatch z)
class Kd (α : Type) [Rp α] where
  nm : String
  kd : ∀ {K : PySem.W.Frag} {F H : Hp} {v : V} {x : α}, L2.Same F H → rp K F v x → Kn K H v nm
instance : Kd Int := ⟨"int", fun {K F H v x} _ h => by
  have h : v = .int x := h
  subst h; exact .int _⟩
instance : Kd Bool := ⟨"bool", fun {K F H v x} _ h => by
  have h : v = .bl x := h
  subst h; exact .bl _⟩
instance : Kd Str := ⟨"str", fun {K F H v x} _ h => by
  have h : v = .str x := h
  subst h; exact .str _⟩
instance : Kd Unit := ⟨"NoneType", fun {K F H v x} _ h => by
  have h : v = .non := h
  subst h; exact .non⟩
instance {α : Type} [Rp α] : Kd (List α) := ⟨"list", fun s ⟨a, vs, e, sq, _⟩ => e ▸ .lst (s.seq sq)⟩
instance {α : Type} [Rp α] : Kd (Tp α) := ⟨"tuple", fun s ⟨a, vs, e, sq, _⟩ => e ▸ .tup (seqT_mono s sq)⟩
instance {α : Type} [Rp α] : Kd (Tn α) := ⟨"tuple", fun s ⟨a, vs, o, e, q, _, _, _⟩ => e ▸ .tup (.inl (.inr ⟨o, s _ _ q⟩))⟩
theorem rpT.kd {θ τ : Type} [Ra τ] {row : θ → τ} {F H : Hp} {v : V} {x : θ} (s : L2.Same F H) (h : rpT row K F v x) : Kn K H v "tuple" := by
  obtain ⟨a, vs, e, sq, _⟩ := h
  exact e ▸ .tup (seqT_mono s sq)
instance {α : Type} [Rp α] : Kd (T1 α) := ⟨"tuple", rpT.kd⟩
instance {α β : Type} [Rp α] [Rp β] : Kd (T2 α β) := ⟨"tuple", rpT.kd⟩
instance {α β γ : Type} [Rp α] [Rp β] [Rp γ] : Kd (T3 α β γ) := ⟨"tuple", rpT.kd⟩
instance {α β γ δ : Type} [Rp α] [Rp β] [Rp γ] [Rp δ] : Kd (T4 α β γ δ) := ⟨"tuple", rpT.kd⟩
instance {α β γ δ ε : Type} [Rp α] [Rp β] [Rp γ] [Rp δ] [Rp ε] : Kd (T5 α β γ δ ε) := ⟨"tuple", rpT.kd⟩
theorem goa2 {t1 t2 : TE} {Q : List V → Hp → Prop} (h1 : PE X a t1) (h2 : PE X b t2) (hs : starEach [a, b] X.env = (false, eval a X.env) :: starEach [b] X.env) (hs2 : starEach [b] X.env = (false, eval b X.env) :: starEach [] X.env) (q : t1 σ H fun v H1 => t2 σ H1 fun w H2 => Q [v, w] H2) : GoA X [a, b] σ H Q :=
  GoA.of (pa_cons h1 (pa_cons h2 pa_nil hs2) hs) q
theorem ev_isi {α : Type} [Rp α] [Kd α] {x : α} {T : String} {r : Bool} {p1 p2 : Pos} (h : kitB (Kd.nm α) T = some r) (hm : X.mg "isinstance" = none) (hT : X.mg (Str.ofString T) = none) (hv : bootBuiltins (Str.ofString T) = some (.type T)) (ha : Ev X a σ F H x)
    (hg : Gl X "isinstance" := by rfl) (hgT : Gl X (Str.ofString T) := by rfl) (hn : (Str.ofString T) ≠ "__name__" := by decide) (hd : ((Str.ofString T) == ("__debug__" : Str)) = false := by decide)
    (hs : starEach [a, .Name (Str.ofString T) p2] X.env = (false, eval a X.env) :: starEach [.Name (Str.ofString T) p2] X.env := by rfl) (hs2 : starEach [.Name (Str.ofString T) p2] X.env = (false, eval (.Name (Str.ofString T) p2) X.env) :: starEach [] X.env := by rfl)
    (hpl : (backTo pos (starEach [.Name (Str.ofString T) p2] X.env)).any (·.1) = false := by rfl) : Ev X (.Call (.Name "isinstance" p1) [a, .Name (Str.ofString T) p2] [] pos) σ F H r := fun F1 H1 g Q q =>
  GoE.of (pe_callB call_isk hg hm (by decide +kernel) (pa_cons pe_go (pa_cons (pe_bltn hgT hT hv (v := .ty T) rfl hn hd) pa_nil hs2) hs) (by decide) (by decide) hs hpl)
    (ha F1 H1 g _ fun v F2 H2 g2 r2 => ⟨v, _, T, r, rfl, Kd.kd g2.fh r2, h, q _ F2 H2 g2 rfl⟩)
theorem ev_isiO {α : Type} [Rp α] [NN α] [Kd α] {x : Option α} {T : String} {r : Bool} {p1 p2 : Pos} (h : kitB (Kd.nm α) T = some r) (h0 : kitB "NoneType" T = some false) (hm : X.mg "isinstance" = none) (hT : X.mg (Str.ofString T) = none) (hv : bootBuiltins (Str.ofString T) = some (.type T)) (ha : Ev X a σ F H x)
    (hg : Gl X "isinstance" := by rfl) (hgT : Gl X (Str.ofString T) := by rfl) (hn : (Str.ofString T) ≠ "__name__" := by decide) (hd : ((Str.ofString T) == ("__debug__" : Str)) = false := by decide)
    (hs : starEach [a, .Name (Str.ofString T) p2] X.env = (false, eval a X.env) :: starEach [.Name (Str.ofString T) p2] X.env := by rfl) (hs2 : starEach [.Name (Str.ofString T) p2] X.env = (false, eval (.Name (Str.ofString T) p2) X.env) :: starEach [] X.env := by rfl)
    (hpl : (backTo pos (starEach [.Name (Str.ofString T) p2] X.env)).any (·.1) = false := by rfl) : Ev X (.Call (.Name "isinstance" p1) [a, .Name (Str.ofString T) p2] [] pos) σ F H (x.isSome && r) := fun F1 H1 g Q q =>
  GoE.of (pe_callB call_isk hg hm (by decide +kernel) (pa_cons pe_go (pa_cons (pe_bltn hgT hT hv (v := .ty T) rfl hn hd) pa_nil hs2) hs) (by decide) (by decide) hs hpl)
    (ha F1 H1 g _ fun v F2 H2 g2 r2 => by
      cases x with
      | none =>
        have r2 : v = .non := r2
        subst r2
        exact ⟨_, _, T, false, rfl, .non, h0, q _ F2 H2 g2 rfl⟩
      | some x => exact ⟨v, _, T, r, rfl, Kd.kd (α := α) g2.fh r2, h, q _ F2 H2 g2 (by cases r <;> rfl)⟩)
/-! ### in -/
class Fv (α : Type) [Rp α] [DecidableEq α] : Prop where
  fv : ∀ {K : PySem.W.Frag} {F : Hp} {v : V} {x : α}, rp K F v x → flatV v = true
  ev : ∀ {K : PySem.W.Frag} {F : Hp} {v w : V} {x y : α}, rp K F v x → rp K F w y → eqV v w = decide (x = y)
instance : Fv Int := ⟨fun {K F v x} h => by
  have h : v = .int x := h
  subst h; rfl, fun {K F v w x y} h1 h2 => by
  have h1 : v = .int x := h1
  have h2 : w = .int y := h2
  subst h1; subst h2
  show (x == y) = _
  rw [Bool.beq_eq_decide_eq]⟩
instance : Fv Str := ⟨fun {K F v x} h => by
  have h : v = .str x := h
  subst h; rfl, fun {K F v w x y} h1 h2 => by
  have h1 : v = .str x := h1
  have h2 : w = .str y := h2
  subst h1; subst h2
  show (x == y) = _
  rw [Bool.beq_eq_decide_eq]⟩
theorem inV_eq {α : Type} [Rp α] [DecidableEq α] [Fv α] {v : V} {x : α} (h : rp K F v x) : ∀ {vs : List V} {xs : List α}, Rps K F vs xs → vs.all flatV = true ∧ inV v vs = decide (x ∈ xs)
  | _, _, .nil => ⟨rfl, by simp [inV]⟩
  | _, _, .cons (a := w) (b := y) (l₁ := vs) (l₂ := ys) r t => by
    obtain ⟨h1, h2⟩ := inV_eq h t
    refine ⟨by rw [List.all_cons, Fv.fv r, h1]; rfl, ?_⟩
    unfold inV at h2 ⊢
    rw [List.any_cons, h2, Fv.ev r h]
    by_cases e : x = y
    · subst e; simp
    · have e' : ¬ y = x := fun z => e z.symm
      simp [e, e']
theorem o2_inL {α : Type} [Rp α] [DecidableEq α] [Fv α] {x : α} {xs : List α} : Op2 K (rIn K false) x xs (decide (x ∈ xs)) := fun F H v w Q s rv ⟨p, vs, e, sq, rs⟩ k => by
  obtain ⟨h1, h2⟩ := inV_eq rv rs
  exact ⟨p, vs, e, .inl (s.seq sq), Fv.fv rv, h1, k _ F H (.refl s) (congrArg V.bl h2)⟩
theorem o2_notInL {α : Type} [Rp α] [DecidableEq α] [Fv α] {x : α} {xs : List α} : Op2 K (rIn K true) x xs (!decide (x ∈ xs)) := fun F H v w Q s rv ⟨p, vs, e, sq, rs⟩ k => by
  obtain ⟨h1, h2⟩ := inV_eq rv rs
  exact ⟨p, vs, e, .inl (s.seq sq), Fv.fv rv, h1, k _ F H (.refl s) (congrArg (fun t => V.bl (!t)) h2)⟩
theorem o2_inT {α θ : Type} [Rp α] [Rp θ] [TL θ α] [DecidableEq α] [Fv α] {x : α} {xs : θ} : Op2 K (rIn K false) x xs (decide (x ∈ TL.l xs)) := fun F H v w Q s rv r2 k => by
  obtain ⟨p, vs, e, sq, rs⟩ := TL.sq r2
  obtain ⟨h1, h2⟩ := inV_eq rv rs
  exact ⟨p, vs, e, .inr (sqT_mono s sq), Fv.fv rv, h1, k _ F H (.refl s) (congrArg V.bl h2)⟩
theorem o2_notInT {α θ : Type} [Rp α] [Rp θ] [TL θ α] [DecidableEq α] [Fv α] {x : α} {xs : θ} : Op2 K (rIn K true) x xs (!decide (x ∈ TL.l xs)) := fun F H v w Q s rv r2 k => by
  obtain ⟨p, vs, e, sq, rs⟩ := TL.sq r2
  obtain ⟨h1, h2⟩ := inV_eq rv rs
  exact ⟨p, vs, e, .inr (sqT_mono s sq), Fv.fv rv, h1, k _ F H (.refl s) (congrArg (fun t => V.bl (!t)) h2)⟩
/-! ### equal data -/
class Pd (α : Type) [Rp α] where
  toD : α → PyData
  dp : ∀ {K : PySem.W.Frag} {F : Hp} {v : V} {x : α}, rp K F v x → Dp K F v (toD x)
  eq : ∀ x y, PyData.eqv (toD x) (toD y) = true ↔ x = y
/-- all texts within are texts of signs that Python can have, and it is no deeper than 64 -/
def okD {α : Type} [Rp α] [Pd α] (x : α) : Bool := SeqAt.shaped (Pd.toD x)
class PdS (α : Type) [Rp α] [Pd α] where
  dep : Nat
  de : ∀ x : α, (Pd.toD x).depth ≤ dep
instance : Pd Int := ⟨.int, fun {K F v x} h => by
  have h : v = .int x := h
  subst h; exact .int x, fun x y => by simp [PyData.eqv]⟩
instance : Pd Str := ⟨.str, fun {K F v x} h => by
  have h : v = .str x := h
  subst h; exact .str x, fun x y => by simp [PyData.eqv]⟩
instance : Pd Bool := ⟨.bool, fun {K F v x} h => by
  have h : v = .bl x := h
  subst h; exact .bl x, fun x y => by simp [PyData.eqv]⟩
end
end Gx
namespace Gx
open PySem PySem.Spec PyProof.Rows L2
open Rp (rp)
open Ra (ra)
open Ob (ob)
section
variable {X : Cx} {K : PySem.W.Frag} {e a b c d : Expr} {es : List Expr} {σ : L2.St} {F H F0 H0 : Hp} {pos : Pos} {D : Ends} {st : Stmt} {rest body : List Stmt}
theorem et_chain {α β γ : Type} [Rp α] [Rp β] [Rp γ] {x : α} {y : β} {z : γ} {p q : Bool} {op op' : CmpOp} {r r' : R2} (ho : OpR X (compareOp op) r) (ho' : OpR X (compareOp op') r') (hr : Op2 X.K r x y p) (hr' : Op2 X.K r' y z q)
    (ha : Ev X a σ F H x) (hb : Ev X b σ F H y) (hc : Ev X c σ F H z) (hm : lastMarks [op, op'] [b, c] = false := by with_unfolding_all rfl) : EvT X (.Compare a [op, op'] [b, c] pos) σ F H (p && q) := fun F1 H1 g Q k =>
  GoT.of (pt_chain ho ho' pe_go pe_go pe_go hm) (ha F1 H1 g _ fun v F2 H2 g2 r2 => hb F2 H2 (g.trans g2) _ fun w F3 H3 g3 r3 => hr F3 H3 v w _ g3.fh (Rp.mono g3.ff r2) r3 fun u F4 H4 g4 r4 => by
    have r4 : u = .bl p := r4
    subst r4
    refine ⟨p, rfl, ?_⟩
    cases p with
    | true =>
      rw [if_pos rfl]
      exact hc F4 H4 (((g.trans g2).trans g3).trans g4) _ fun w' F5 H5 g5 r5 => hr' F5 H5 w w' _ g5.fh (Rp.mono (g4.ff.trans g5.ff) r3) r5 fun u' F6 H6 g6 r6 => by
        have r6 : u' = .bl q := r6
        subst r6
        exact ⟨q, rfl, k F6 H6 ((((g2.trans g3).trans g4).trans g5).trans g6)⟩
    | false =>
      rw [if_neg Bool.false_ne_true]
      exact ⟨false, rfl, k F4 H4 ((g2.trans g3).trans g4)⟩)
/-! ### copies, joins -/
theorem en_list_of {α : Type} [Rp α] {xs : List α} {p : Pos} (hm : X.mg "list" = none) (ha : Ev X a σ F H xs) (hg : Gl X "list" := by rfl) (hs : starEach [a] X.env = (false, eval a X.env) :: starEach [] X.env := by rfl) (hpl : (backTo pos (starEach [] X.env)).any (·.1) = false := by rfl) :
    EvN X (.Call (.Name "list" p) [a] [] pos) σ F H xs := fun F1 H1 g Q q =>
  GoE.of (pe_callTy call_list_of hg hm (by decide +kernel) (pa_cons pe_go pa_nil hs) (by decide) (by decide) hs hpl) (ha F1 H1 g _ fun v F2 H2 g2 ⟨p, vs, e, sq, rs⟩ => ⟨p, vs, by rw [e], .inl (g2.fh.seq sq), fun l hl => EvN.new q g2 hl rs⟩)
theorem en_list_tp {α θ : Type} [Rp α] [Rp θ] [TL θ α] {xs : θ} {p : Pos} (hm : X.mg "list" = none) (ha : Ev X a σ F H xs) (hg : Gl X "list" := by rfl) (hs : starEach [a] X.env = (false, eval a X.env) :: starEach [] X.env := by rfl) (hpl : (backTo pos (starEach [] X.env)).any (·.1) = false := by rfl) :
    EvN X (.Call (.Name "list" p) [a] [] pos) σ F H (TL.l xs) := fun F1 H1 g Q q =>
  GoE.of (pe_callTy call_list_of hg hm (by decide +kernel) (pa_cons pe_go pa_nil hs) (by decide) (by decide) hs hpl) (ha F1 H1 g _ fun v F2 H2 g2 r2 => let ⟨p, vs, e, sq, rs⟩ := TL.sq r2; ⟨p, vs, by rw [e], .inr (sqT_mono g2.fh sq), fun l hl => EvN.new q g2 hl rs⟩)
theorem oc_tuple {α : Type} [Rp α] {xs : List α} : OpC K (fun vs H Q => ∃ p ys, vs = [.ref p] ∧ ((SqL K H p ys ∧ ∀ l, H l = none → Q (.ref l) (upd H l (.tup ys))) ∨ (SqT K H p ys ∧ Q (.ref p) H))) (xs, ()) (Tp.mk xs) :=
  oc1 fun F H v Q s ⟨p, vs, e, sq, rs⟩ k => ⟨p, vs, by rw [e], .inl ⟨s.seq sq, fun l hl => k _ (upd F l (.tup vs)) _ (Gr.new s hl) ⟨l, vs, rfl, upd_same, rs.mono (same_upd (s.free hl))⟩⟩⟩
theorem oc_tupleT {α : Type} [Rp α] {xs : Tp α} : OpC K (fun vs H Q => ∃ p ys, vs = [.ref p] ∧ ((SqL K H p ys ∧ ∀ l, H l = none → Q (.ref l) (upd H l (.tup ys))) ∨ (SqT K H p ys ∧ Q (.ref p) H))) (xs, ()) xs :=
  oc1 fun F H v Q s ⟨p, vs, e, sq, rs⟩ k => ⟨p, vs, by rw [e], .inr ⟨seqT_mono s sq, k _ F H (.refl s) ⟨p, vs, rfl, sq, rs⟩⟩⟩
theorem oc_abs {i : Int} : OpC K (fun xs H Q => ∃ i, xs = [.int i] ∧ Q (.int (if i < 0 then -i else i)) H) (i, ()) (if i < 0 then -i else i) :=
  oc1 fun F H v Q s rv k => ⟨i, by rw [show v = .int i from rv], k _ F H (.refl s) rfl⟩
theorem oc_max2 {i j : Int} : OpC K (fun xs H Q => ∃ i j, xs = [.int i, .int j] ∧ Q (.int (if j > i then j else i)) H) (i, j, ()) (if j > i then j else i) :=
  oc2 fun F H v w Q s rv rw' k => ⟨i, j, by rw [show v = .int i from rv, show w = .int j from rw'], k _ F H (.refl s) rfl⟩
theorem oc_min2 {i j : Int} : OpC K (fun xs H Q => ∃ i j, xs = [.int i, .int j] ∧ Q (.int (if j < i then j else i)) H) (i, j, ()) (if j < i then j else i) :=
  oc2 fun F H v w Q s rv rw' k => ⟨i, j, by rw [show v = .int i from rv, show w = .int j from rw'], k _ F H (.refl s) rfl⟩
def rCatL (K : PySem.W.Frag) : R2 := fun x y H Q => ∃ a b xs ys, x = .ref a ∧ y = .ref b ∧ SqL K H a xs ∧ SqL K H b ys ∧ xs.length + ys.length ≤ sizeLine ∧ ∀ p, H p = none → Q (.ref p) (upd H p (.lst (xs ++ ys)))
theorem op_catL : OpR X (binaryOp .Add) (rCatL X.K) := by
  intro pins s σ H x y v u Q I rx ry h
  obtain ⟨a, b, xs, ys, rfl, rfl, ha, hb, hz, q⟩ := h
  cases rx
  cases ry
  obtain ⟨its, r, ⟨⟨cls, dd, data, sl⟩, n, ho, hc, _, hd⟩, _⟩ := I.list ha
  obtain ⟨its2, r2, ⟨⟨cls2, dd2, data2, sl2⟩, n2, ho2, hc2, _, hd2⟩, _⟩ := I.list hb
  simp only at hc hd hc2 hd2
  subst hc hd hc2 hd2
  have e : its.toArray ++ its2.toArray = (its ++ its2).toArray := by simp
  refine concat_meets ⟨_, ho, rfl⟩ ⟨_, ho2, rfl⟩ noFill_list_add seq_list_add PySem.F.slot_list_add PySem.F.entry_list_add (PySem.F.args_list_add_2 _ _) (list_addW a b its.toArray its2.toArray n n2 dd dd2 sl sl2 (by rw [List.size_toArray, List.size_toArray, ← r.length, ← r2.length]; exact hz)) ⟨ho, ho2, ?_⟩
  rw [e]
  exact ⟨.ref _, _, I.lnew (t' := s.toks) (r.append r2) (by rw [List.length_append]; exact hz), rfl, q _ I.fresh⟩
def catG {α : Type} (xs ys : List α) : Option (List α) := if xs.length + ys.length ≤ sizeLine then some (xs ++ ys) else none
theorem en_cat {α : Type} [Rp α] {xs ys r : List α} (ha : Ev X a σ F H xs) (hb : Ev X b σ F H ys) (h : catG xs ys = some r) : EvN X (.BinOp a .Add b pos) σ F H r := fun F1 H1 g Q q =>
  GoE.of (pe_op op_catL pe_go pe_go) (ha F1 H1 g _ fun v F2 H2 g2 r2 => hb F2 H2 (g.trans g2) _ fun w F3 H3 g3 ⟨p', vs', e', sq', rs'⟩ => by
    obtain ⟨p, vs, e, sq, rs⟩ := Rp.mono g3.ff r2
    unfold catG at h
    split at h
    · rename_i hz
      cases (Option.some.inj h)
      exact ⟨p, p', vs, vs', e, e', g3.fh.seq sq, g3.fh.seq sq', by rw [rs.length, rs'.length]; exact hz, fun l hl => EvN.new q (g2.trans g3) hl (Rps.append rs rs')⟩
    · cases h)
def catT {α : Type} (xs ys : Tp α) : Option (Tp α) := if xs.l.length + ys.l.length ≤ sizeLine then some ⟨xs.l ++ ys.l⟩ else none
theorem Rps.nil_r {α : Type} [Rp α] : ∀ {vs : List V} {xs : List α}, Rps K F vs xs → (vs = [] ↔ xs = [])
  | _, _, .nil => by simp
  | _, _, .cons _ _ => by simp
theorem o2_catT {α : Type} [Rp α] {xs ys r : Tp α} (h : catT xs ys = some r) : Op2 K (rCatA K) xs ys r := fun F H v w Q s ⟨p, vs, e, sq, rs⟩ ⟨p', vs', e', sq', rs'⟩ k => by
  unfold catT at h
  split at h
  · rename_i hz
    cases (Option.some.inj h)
    refine ⟨p, p', vs, vs', e, e', seqT_mono s sq, seqT_mono s sq', by rw [rs.length, rs'.length]; exact hz, fun e0 => ?_, fun _ e0 => ?_, fun _ _ l hl => ?_⟩
    · refine k _ F H (.refl s) ⟨p', vs', rfl, sq', ?_⟩
      rw [rs.nil_r.mp e0]; exact rs'
    · refine k _ F H (.refl s) ⟨p, vs, rfl, sq, ?_⟩
      rw [rs'.nil_r.mp e0, List.append_nil]; exact rs
    · exact k _ (upd F l (.tup (vs ++ vs'))) _ (Gr.new s hl) ⟨l, _, rfl, upd_same, (Rps.append rs rs').mono (same_upd (s.free hl))⟩
  · cases h
theorem ev_catT {α : Type} [Rp α] {xs ys r : Tp α} (ha : Ev X a σ F H xs) (hb : Ev X b σ F H ys) (h : catT xs ys = some r) : Ev X (.BinOp a .Add b pos) σ F H r := ev_bin op_catA (o2_catT h) ha hb
theorem ev_sliceT {α : Type} [Rp α] {xs : Tp α} {lo hi : Option Expr} {i j : Option Int} {p2 : Pos} (ha : Ev X a σ F H xs) (hl : EvO X lo σ F H i) (hh : EvO X hi σ F H j) : Ev X (.Subscript a (.Slice lo hi none p2) pos) σ F H (Tp.mk (cut xs.l i j)) := fun F1 H1 g Q q =>
  GoE.of (pe_slice sl_tupA pe_go po_go po_go) (ha F1 H1 g _ fun v F2 H2 g2 r2 => hl F2 H2 (g.trans g2) _ fun F3 H3 g3 => hh F3 H3 ((g.trans g2).trans g3) _ fun F4 H4 g4 => by
    obtain ⟨p, vs, rfl, sq, rs⟩ := Rp.mono (g3.ff.trans g4.ff) r2
    refine ⟨p, vs, rfl, seqT_mono g4.fh sq, fun hw => ?_, fun _ l hl => ?_⟩
    · refine q _ F4 H4 ((g2.trans g3).trans g4) ⟨p, vs, rfl, sq, ?_⟩
      have hw' : HT.sIx xs.l.length 0 i = 0 ∧ HT.sIx xs.l.length xs.l.length j = xs.l.length := by rw [← rs.length]; exact hw
      show Rps _ _ vs (cut xs.l i j)
      unfold cut
      rw [hw'.1, hw'.2]
      simpa using rs
    · exact q _ (upd F4 l (.tup _)) _ (((g2.trans g3).trans g4).trans (Gr.new g4.fh hl)) ⟨l, _, rfl, upd_same, (rs.cut i j).mono (same_upd (g4.fh.free hl))⟩)
end
end Gx

/-! Gm: facts of the mirrors' operations. -/
namespace Gx
open PySem PySem.Spec PyProof.Rows L2
/-- a text of signs -/
abbrev S (l : List Nat) : Str := ⟨l.toArray⟩
theorem S_tl (x : Str) : S x.cps.toList = x := TL.mk_tl x
theorem S_len (a : List Nat) : (S a).length = a.length := by simp [S, Str.length]
theorem szl : sizeLine = 16777216 := PySem.sizeLine_eq
theorem len_cl (z : Str) : z.length = z.cps.toList.length := by simp [Str.length]
theorem atI_ok {α : Type} {xs : List α} {i : Int} (h0 : 0 ≤ i) (h1 : i < xs.length) : ∃ v, L2.atI xs i = some v ∧ xs[i.toNat]? = some v := by
  have hl : i.toNat < xs.length := by omega
  refine ⟨xs[i.toNat], ?_, List.getElem?_eq_getElem hl⟩
  unfold L2.atI ixN
  rw [if_pos h0, if_pos h1]
  exact List.getElem?_eq_getElem hl
theorem atI_nn {α : Type} {xs : List α} {i : Int} (h0 : 0 ≤ i) : L2.atI xs i = xs[i.toNat]? := by
  unfold L2.atI ixN
  rw [if_pos h0]
  by_cases h1 : i < xs.length
  · rw [if_pos h1]; rfl
  · rw [if_neg h1, List.getElem?_eq_none (by omega)]; rfl
theorem cut_len {α : Type} (xs : List α) (i j : Option Int) : (cut xs i j).length ≤ xs.length := by
  unfold cut
  rw [List.length_take, List.length_drop]; omega
theorem sCut_ok {z : Str} (h : z.length ≤ sizeLine) (i j : Option Int) : ∃ r, sCut z i j = some r ∧ r.length ≤ z.length ∧ r.cps.toList = cut z.cps.toList i j := by
  refine ⟨cutS z i j, if_pos h, ?_, ?_⟩
  · unfold cutS
    rw [len_cl, len_cl]
    simp only [List.length_take, List.length_drop]
    omega
  · unfold cutS cut
    rw [len_cl]
theorem sLen_ok {z : Str} (h : z.length ≤ sizeLine) : sLen z = some (z.length : Int) := if_pos h
theorem app_len (a b : Str) : (a ++ b).length = a.length + b.length := by
  have e := TL.tl_append a b
  have e2 : (a ++ b).cps.toList = a.cps.toList ++ b.cps.toList := e
  rw [len_cl, e2, List.length_append, ← len_cl, ← len_cl]
theorem app_cl (a b : Str) : (a ++ b).cps.toList = a.cps.toList ++ b.cps.toList := TL.tl_append a b
theorem sAdd_ok {a b : Str} (h : a.length + b.length ≤ sizeLine) : sAdd a b = some (a ++ b) := if_pos h
theorem sOfI_ok {n : Int} (h0 : 0 ≤ n) (h1 : n < 10 ^ 18) : ∃ r, sOfI n = some r ∧ r.length ≤ 18 ∧ r.cps.toList = TL.numL n.toNat := by
  have e : (n.toNat : Int) = n := Int.toNat_of_nonneg h0
  refine ⟨Str.ofString (toString n), if_pos ?_, ?_, ?_⟩
  · have h2 : n.natAbs < 2 ^ 1920 := by
      have : (10 : Nat) ^ 18 ≤ 2 ^ 1920 := by decide +kernel
      omega
    by_cases hz : n.natAbs = 0
    · rw [hz]; decide
    · exact (Nat.log2_lt hz).mpr h2
  · rw [len_cl]
    have e2 : (Str.ofString (toString n)).cps.toList = TL.numL n.toNat := by rw [← e]; exact TL.tl_num _
    rw [e2]
    exact TL.numL_len (by decide) (by omega)
  · rw [← e]; exact TL.tl_num _
theorem rep_fold (xs : Array Nat) : ∀ (n : Nat) (acc : Array Nat), ((List.replicate n xs).foldl (· ++ ·) acc).size = acc.size + n * xs.size
  | 0, acc => by simp
  | n + 1, acc => by
    rw [List.replicate_succ, List.foldl_cons, rep_fold xs n, Array.size_append, Nat.succ_mul]; omega
theorem sMul_ok {z : Str} {n : Int} (h0 : 0 ≤ n) (h1 : n ≤ 1000) (h2 : z.length ≤ 1000) : ∃ r, sMul z n = some r ∧ r.length ≤ z.length * n.toNat := by
  have hb : z.length * n.toNat ≤ 1000 * 1000 := Nat.mul_le_mul h2 (by omega)
  refine ⟨Txt.mul z n, if_pos ⟨by omega, by omega, by omega⟩, ?_⟩
  · unfold Txt.mul
    split
    · exact Nat.zero_le _
    · split
      · rename_i hh
        rcases Bool.or_eq_true_iff.mp hh with h | h
        · have : n = 1 := by simpa using h
          subst this; simp
        · have : z.length = 0 := by simpa using h
          rw [this]; exact Nat.zero_le _
      · show (Array.size _) ≤ _
        rw [rep_fold]
        show 0 + n.toNat * z.cps.size ≤ z.length * n.toNat
        rw [Nat.zero_add, Nat.mul_comm]
        exact Nat.le_refl _
/-! ### loops -/
theorem loopN_inv {α β : Type} {st : β → α → Option β} (J : β → List α → Prop) : ∀ (xs : List α) (b : β), J b xs → (∀ b x ys, J b (x :: ys) → ∃ b', st b x = some b' ∧ J b' ys) → ∃ b', loopN st b xs = some b' ∧ J b' []
  | [], b, h, _ => ⟨b, rfl, h⟩
  | x :: xs, b, h, hs => by
    obtain ⟨b', e, h'⟩ := hs b x xs h
    obtain ⟨b2, e2, h2⟩ := loopN_inv J xs b' h' hs
    exact ⟨b2, by unfold loopN; rw [e]; exact e2, h2⟩
theorem loopN_cons {α β : Type} {st : β → α → Option β} {b b' : β} {x : α} {xs : List α} (h : st b x = some b') : loopN st b (x :: xs) = loopN st b' xs := by
  unfold loopN; rw [h]
  cases xs <;> rfl
theorem loopM_nx {α β ρ : Type} {st : β → α → Option (Lp β ρ)} {b b' : β} {x : α} {xs : List α} (h : st b x = some (.nx b')) : loopM st b (x :: xs) = loopM st b' xs := by
  rw [loopM, h]
theorem loopM_rt {α β ρ : Type} {st : β → α → Option (Lp β ρ)} {b : β} {r : ρ} {x : α} {xs : List α} (h : st b x = some (.rt r)) : loopM st b (x :: xs) = some (.rt r) := by
  rw [loopM, h]
theorem compM_map {α γ : Type} {f : α → Option (Option γ)} {g : α → γ} : ∀ {xs : List α}, (∀ x ∈ xs, f x = some (some (g x))) → compM f xs = some (xs.map g)
  | [], _ => rfl
  | x :: xs, h => by
    rw [compM, h x List.mem_cons_self, compM_map fun y hy => h y (List.mem_cons_of_mem _ hy)]
    rfl
theorem compM_filter {α γ : Type} {f : α → Option (Option γ)} {p : α → Bool} {g : α → γ} : ∀ {xs : List α}, (∀ x ∈ xs, f x = some (if p x then some (g x) else none)) → compM f xs = some ((xs.filter p).map g)
  | [], _ => rfl
  | x :: xs, h => by
    rw [compM, h x List.mem_cons_self, compM_filter fun y hy => h y (List.mem_cons_of_mem _ hy)]
    cases e : p x with
    | true => simp [e]
    | false => simp [e]
theorem compG_map {α γ : Type} {f : α → Option (Option γ)} {g : α → γ} {xs : List α} (hl : xs.length ≤ sizeLine) (h : ∀ x ∈ xs, f x = some (some (g x))) : compG f xs = some (xs.map g) := by
  unfold compG; rw [if_pos hl]; exact compM_map h
theorem compG_filter {α γ : Type} {f : α → Option (Option γ)} {p : α → Bool} {g : α → γ} {xs : List α} (hl : xs.length ≤ sizeLine) (h : ∀ x ∈ xs, f x = some (if p x then some (g x) else none)) : compG f xs = some ((xs.filter p).map g) := by
  unfold compG; rw [if_pos hl]; exact compM_filter h
theorem int_S {a : List Nat} (h : ∀ c ∈ a, 48 ≤ c ∧ c ≤ 57) (hne : a ≠ []) (hl : a.length ≤ 4300) : PySem.intText? (S a) = some ((NumText.digitsVal a : Nat) : Int) :=
  SX.int_S (List.all_eq_true.mpr fun c hc => by rw [decide_eq_true (h c hc).1, decide_eq_true (h c hc).2]; rfl) hne hl
end Gx

/-! Ge: data compared, walks over pairs, places. -/
namespace Gx
open PySem PySem.Spec PyProof.Rows L2 RZ RT
open Rp (rp)
open Ra (ra)
open Ob (ob)
section
variable {X : Cx} {K : PySem.W.Frag} {e a b c d : Expr} {es : List Expr} {σ : L2.St} {F H F0 H0 : Hp} {pos : Pos} {D : Ends} {st : Stmt} {rest body : List Stmt}
theorem Dp.all {α : Type} [Rp α] [Pd α] : ∀ {vs : List V} {xs : List α}, Rps K F vs xs → DpAll K F vs (xs.map Pd.toD)
  | _, _, .nil => .nil
  | _, _, .cons r t => .cons (Pd.dp r) (Dp.all t)
theorem eqvAll_iff {α : Type} [Rp α] [Pd α] : ∀ xs ys : List α, PyData.eqvAll (xs.map Pd.toD) (ys.map Pd.toD) = true ↔ xs = ys
  | [], [] => by simp [PyData.eqvAll]
  | [], _ :: _ => by simp [PyData.eqvAll]
  | _ :: _, [] => by simp [PyData.eqvAll]
  | x :: xs, y :: ys => by
    rw [List.map_cons, List.map_cons, PyData.eqvAll, Bool.and_eq_true, Pd.eq, eqvAll_iff xs ys, List.cons.injEq]
instance {α : Type} [Rp α] [Pd α] : Pd (List α) := ⟨fun xs => .list (xs.map Pd.toD), fun ⟨a, vs, e, sq, rs⟩ => e ▸ .lst sq (Dp.all rs), fun x y => by rw [PyData.eqv]; exact eqvAll_iff x y⟩
instance {α : Type} [Rp α] [Pd α] : Pd (Tp α) := ⟨fun xs => .tuple (xs.l.map Pd.toD), fun ⟨a, vs, e, sq, rs⟩ => e ▸ .tup (SqT.of sq) (Dp.all rs), fun x y => by
  rw [PyData.eqv]
  cases x; cases y
  rw [eqvAll_iff, Tp.mk.injEq]⟩
class PdR (τ : Type) [Ra τ] where
  toR : τ → List PyData
  dp : ∀ {K : PySem.W.Frag} {F : Hp} {vs : List V} {x : τ}, ra K F vs x → DpAll K F vs (toR x)
  eq : ∀ x y, PyData.eqvAll (toR x) (toR y) = true ↔ x = y
instance : PdR Unit := ⟨fun _ => [], fun {K F vs x} h => by
  have h : vs = [] := h
  subst h; exact .nil, fun x y => by simp [PyData.eqvAll]⟩
instance {α τ : Type} [Rp α] [Ra τ] [Pd α] [PdR τ] : PdR (α × τ) := ⟨fun x => Pd.toD x.1 :: PdR.toR x.2, fun ⟨v, r, e, p, q⟩ => e ▸ .cons (Pd.dp p) (PdR.dp q), fun x y => by
  rw [PyData.eqvAll, Bool.and_eq_true, Pd.eq, PdR.eq, Prod.ext_iff]⟩
theorem rpT.dp {θ τ : Type} [Ra τ] [PdR τ] {row : θ → τ} {F : Hp} {v : V} {x : θ} : rpT row K F v x → Dp K F v (.tuple (PdR.toR (row x))) := fun ⟨a, vs, e, sq, rs⟩ => e ▸ .tup (SqT.of sq) (PdR.dp rs)
theorem rowEq {θ τ : Type} [Ra τ] [PdR τ] {row : θ → τ} (inj : ∀ x y, row x = row y ↔ x = y) (x y : θ) : PyData.eqv (.tuple (PdR.toR (row x))) (.tuple (PdR.toR (row y))) = true ↔ x = y := by
  rw [PyData.eqv, PdR.eq]; exact inj x y
instance {α : Type} [Rp α] [Pd α] : Pd (T1 α) := ⟨fun x => .tuple (PdR.toR x.row), rpT.dp, rowEq fun x y => by cases x; cases y; simp [T1.row]⟩
instance {α β : Type} [Rp α] [Rp β] [Pd α] [Pd β] : Pd (T2 α β) := ⟨fun x => .tuple (PdR.toR x.row), rpT.dp, rowEq fun x y => by cases x; cases y; simp [T2.row]⟩
instance {α β γ : Type} [Rp α] [Rp β] [Rp γ] [Pd α] [Pd β] [Pd γ] : Pd (T3 α β γ) := ⟨fun x => .tuple (PdR.toR x.row), rpT.dp, rowEq fun x y => by cases x; cases y; simp [T3.row]⟩
instance {α β γ δ : Type} [Rp α] [Rp β] [Rp γ] [Rp δ] [Pd α] [Pd β] [Pd γ] [Pd δ] : Pd (T4 α β γ δ) := ⟨fun x => .tuple (PdR.toR x.row), rpT.dp, rowEq fun x y => by cases x; cases y; simp [T4.row]⟩
instance {α β γ δ ε : Type} [Rp α] [Rp β] [Rp γ] [Rp δ] [Rp ε] [Pd α] [Pd β] [Pd γ] [Pd δ] [Pd ε] : Pd (T5 α β γ δ ε) := ⟨fun x => .tuple (PdR.toR x.row), rpT.dp, rowEq fun x y => by cases x; cases y; simp [T5.row]⟩
class PdO (α : Type) [Rp α] [Pd α] : Prop where
  nn : ∀ x : α, Pd.toD x ≠ .none
instance : PdO Int := ⟨fun _ h => nomatch h⟩
instance : PdO Str := ⟨fun _ h => nomatch h⟩
instance : PdO Bool := ⟨fun _ h => nomatch h⟩
instance {α : Type} [Rp α] [Pd α] : PdO (List α) := ⟨fun _ h => nomatch h⟩
instance {α : Type} [Rp α] [Pd α] : PdO (Tp α) := ⟨fun _ h => nomatch h⟩
instance {α β : Type} [Rp α] [Rp β] [Pd α] [Pd β] : PdO (T2 α β) := ⟨fun _ h => nomatch h⟩
instance {α β γ : Type} [Rp α] [Rp β] [Rp γ] [Pd α] [Pd β] [Pd γ] : PdO (T3 α β γ) := ⟨fun _ h => nomatch h⟩
theorem eqv_nl {d : PyData} : PyData.eqv .none d = true → d = .none := by cases d <;> simp [PyData.eqv]
theorem eqv_nr {d : PyData} : PyData.eqv d .none = true → d = .none := by cases d <;> simp [PyData.eqv]
def optD {α : Type} [Rp α] [Pd α] : Option α → PyData
  | none => .none
  | some x => Pd.toD x
instance {α : Type} [Rp α] [NN α] [Pd α] [PdO α] : Pd (Option α) := ⟨optD, fun {K F v x} h => by
  cases x with
  | none =>
    have h : v = .non := h
    subst h; exact .non
  | some x => exact Pd.dp (α := α) h, fun x y => by
  cases x with
  | none =>
    cases y with
    | none => simp [optD, PyData.eqv]
    | some y =>
      constructor
      · intro h; exact absurd (eqv_nl h) (PdO.nn y)
      · intro h; cases h
  | some x =>
    cases y with
    | none =>
      constructor
      · intro h; exact absurd (eqv_nr h) (PdO.nn x)
      · intro h; cases h
    | some y => simp [optD, Pd.eq]⟩
/-- static depth, no texts -/
class PdF (α : Type) [Rp α] [Pd α] : Prop where
  ok : ∀ x : α, (Pd.toD x).canLay0 = true
instance : PdS Int := ⟨0, fun _ => by simp [Pd.toD, PyData.depth]⟩
instance : PdS Str := ⟨0, fun _ => by simp [Pd.toD, PyData.depth]⟩
instance : PdS Bool := ⟨0, fun _ => by simp [Pd.toD, PyData.depth]⟩
theorem dpAll_le {α : Type} [Rp α] [Pd α] [PdS α] : ∀ xs : List α, PyData.depthAll (xs.map Pd.toD) ≤ PdS.dep α
  | [] => by simp [PyData.depthAll]
  | x :: xs => by
    rw [List.map_cons, PyData.depthAll]
    exact Nat.max_le.mpr ⟨PdS.de x, dpAll_le xs⟩
instance {α : Type} [Rp α] [Pd α] [PdS α] : PdS (List α) := ⟨PdS.dep α + 1, fun x => by
  show (PyData.depthAll (x.map Pd.toD)) + 1 ≤ _
  exact Nat.succ_le_succ (dpAll_le x)⟩
instance {α : Type} [Rp α] [Pd α] [PdS α] : PdS (Tp α) := ⟨PdS.dep α + 1, fun x => by
  show (PyData.depthAll (x.l.map Pd.toD)) + 1 ≤ _
  exact Nat.succ_le_succ (dpAll_le x.l)⟩
class PdRS (τ : Type) [Ra τ] [PdR τ] where
  dep : Nat
  de : ∀ x : τ, PyData.depthAll (PdR.toR x) ≤ dep
instance : PdRS Unit := ⟨0, fun _ => by simp [PdR.toR, PyData.depthAll]⟩
instance {α τ : Type} [Rp α] [Ra τ] [Pd α] [PdR τ] [PdS α] [PdRS τ] : PdRS (α × τ) := ⟨max (PdS.dep α) (PdRS.dep τ), fun x => by
  show max (PyData.depth _) (PyData.depthAll _) ≤ _
  have h1 := PdS.de x.1
  have h2 := PdRS.de x.2
  omega⟩
instance {α : Type} [Rp α] [Pd α] [PdS α] : PdS (T1 α) := ⟨PdRS.dep (α × Unit) + 1, fun x => Nat.succ_le_succ (PdRS.de x.row)⟩
instance {α β : Type} [Rp α] [Rp β] [Pd α] [Pd β] [PdS α] [PdS β] : PdS (T2 α β) := ⟨PdRS.dep (α × β × Unit) + 1, fun x => Nat.succ_le_succ (PdRS.de x.row)⟩
instance {α β γ : Type} [Rp α] [Rp β] [Rp γ] [Pd α] [Pd β] [Pd γ] [PdS α] [PdS β] [PdS γ] : PdS (T3 α β γ) := ⟨PdRS.dep (α × β × γ × Unit) + 1, fun x => Nat.succ_le_succ (PdRS.de x.row)⟩
instance {α β γ δ : Type} [Rp α] [Rp β] [Rp γ] [Rp δ] [Pd α] [Pd β] [Pd γ] [Pd δ] [PdS α] [PdS β] [PdS γ] [PdS δ] : PdS (T4 α β γ δ) := ⟨PdRS.dep (α × β × γ × δ × Unit) + 1, fun x => Nat.succ_le_succ (PdRS.de x.row)⟩
instance {α β γ δ ε : Type} [Rp α] [Rp β] [Rp γ] [Rp δ] [Rp ε] [Pd α] [Pd β] [Pd γ] [Pd δ] [Pd ε] [PdS α] [PdS β] [PdS γ] [PdS δ] [PdS ε] : PdS (T5 α β γ δ ε) := ⟨PdRS.dep (α × β × γ × δ × ε × Unit) + 1, fun x => Nat.succ_le_succ (PdRS.de x.row)⟩
instance {α : Type} [Rp α] [NN α] [Pd α] [PdO α] [PdS α] : PdS (Option α) := ⟨PdS.dep α, fun x => by
  cases x with
  | none => exact Nat.zero_le _
  | some x => exact PdS.de x⟩
instance : PdF Int := ⟨fun _ => by simp [Pd.toD, PyData.canLay0]⟩
instance : PdF Bool := ⟨fun _ => by simp [Pd.toD, PyData.canLay0]⟩
theorem layAll {α : Type} [Rp α] [Pd α] : ∀ {xs : List α}, (∀ x ∈ xs, (Pd.toD x).canLay0 = true) → PyData.canLayAll0 (xs.map Pd.toD) = true
  | [], _ => by simp [PyData.canLayAll0]
  | x :: xs, h => by
    rw [List.map_cons, PyData.canLayAll0, h x List.mem_cons_self, layAll fun y hy => h y (List.mem_cons_of_mem _ hy)]; rfl
instance {α : Type} [Rp α] [Pd α] [PdF α] : PdF (List α) := ⟨fun x => layAll fun y _ => PdF.ok y⟩
instance {α : Type} [Rp α] [Pd α] [PdF α] : PdF (Tp α) := ⟨fun x => layAll fun y _ => PdF.ok y⟩
class PdRF (τ : Type) [Ra τ] [PdR τ] : Prop where
  ok : ∀ x : τ, PyData.canLayAll0 (PdR.toR x) = true
instance : PdRF Unit := ⟨fun _ => by simp [PdR.toR, PyData.canLayAll0]⟩
instance {α τ : Type} [Rp α] [Ra τ] [Pd α] [PdR τ] [PdF α] [PdRF τ] : PdRF (α × τ) := ⟨fun x => by
  show (PyData.canLay0 _ && PyData.canLayAll0 _) = true
  rw [PdF.ok, PdRF.ok]; rfl⟩
instance {α : Type} [Rp α] [Pd α] [PdF α] : PdF (T1 α) := ⟨fun x => PdRF.ok x.row⟩
instance {α β : Type} [Rp α] [Rp β] [Pd α] [Pd β] [PdF α] [PdF β] : PdF (T2 α β) := ⟨fun x => PdRF.ok x.row⟩
instance {α β γ : Type} [Rp α] [Rp β] [Rp γ] [Pd α] [Pd β] [Pd γ] [PdF α] [PdF β] [PdF γ] : PdF (T3 α β γ) := ⟨fun x => PdRF.ok x.row⟩
instance {α β γ δ : Type} [Rp α] [Rp β] [Rp γ] [Rp δ] [Pd α] [Pd β] [Pd γ] [Pd δ] [PdF α] [PdF β] [PdF γ] [PdF δ] : PdF (T4 α β γ δ) := ⟨fun x => PdRF.ok x.row⟩
instance {α β γ δ ε : Type} [Rp α] [Rp β] [Rp γ] [Rp δ] [Rp ε] [Pd α] [Pd β] [Pd γ] [Pd δ] [Pd ε] [PdF α] [PdF β] [PdF γ] [PdF δ] [PdF ε] : PdF (T5 α β γ δ ε) := ⟨fun x => PdRF.ok x.row⟩
instance {α : Type} [Rp α] [NN α] [Pd α] [PdO α] [PdF α] : PdF (Option α) := ⟨fun x => by
  cases x with
  | none => rfl
  | some x => exact PdF.ok x⟩
theorem okD_of {α : Type} [Rp α] [Pd α] [PdS α] (hd : PdS.dep α ≤ 64) {x : α} (h : (Pd.toD x).canLay0 = true) : okD x = true := by
  unfold okD SeqAt.shaped
  rw [h, decide_eq_true (Nat.le_trans (PdS.de x) hd)]; rfl
theorem okD_F {α : Type} [Rp α] [Pd α] [PdS α] [PdF α] (x : α) (hd : PdS.dep α ≤ 64 := by decide) : okD x = true := okD_of hd (PdF.ok x)
/-- x == y of data -/
def eqG {α : Type} [Rp α] [Pd α] [DecidableEq α] (x y : α) : Option Bool := if (okD x && okD y) = true then some (decide (x = y)) else none
theorem eqG_ok {α : Type} [Rp α] [Pd α] [DecidableEq α] {x y : α} (h1 : okD x = true) (h2 : okD y = true) : eqG x y = some (decide (x = y)) := by
  unfold eqG; rw [h1, h2]; rfl
theorem eqG_F {α : Type} [Rp α] [Pd α] [PdS α] [PdF α] [DecidableEq α] (x y : α) (hd : PdS.dep α ≤ 64 := by decide) : eqG x y = some (decide (x = y)) := eqG_ok (okD_F x hd) (okD_F y hd)
theorem eqG_of {α : Type} [Rp α] [Pd α] [DecidableEq α] {x y : α} {r : Bool} (h : eqG x y = some r) : okD x = true ∧ okD y = true ∧ decide (x = y) = r := by
  unfold eqG at h; split at h
  · rename_i h1
    obtain ⟨h1, h2⟩ := Bool.and_eq_true_iff.mp h1
    exact ⟨h1, h2, Option.some.inj h⟩
  · cases h
theorem eqv_dec {α : Type} [Rp α] [Pd α] [DecidableEq α] (x y : α) : PyData.eqv (Pd.toD x) (Pd.toD y) = decide (x = y) := by
  have h := Pd.eq x y
  cases q : PyData.eqv (Pd.toD x) (Pd.toD y) with
  | true => exact (decide_eq_true (h.mp q)).symm
  | false => exact (decide_eq_false fun e => by rw [h.mpr e] at q; cases q).symm
theorem dp_mono {v : V} {d : PyData} (s : L2.Same F H) : ∀ {d : PyData} {v : V}, Dp K F v d → Dp K H v d := by
  intro d v h
  exact Dp.rec (motive_1 := fun v d _ => Dp K H v d) (motive_2 := fun vs ds _ => DpAll K H vs ds) .non .bl .int .str (fun q _ ih => .lst (s.seq q) ih) (fun q _ ih => .tup (sqT_mono s q) ih) .nil (fun _ _ i1 i2 => .cons i1 i2) h
theorem o2_eqD {α : Type} [Rp α] [Pd α] [DecidableEq α] {x y : α} {r : Bool} (h : eqG x y = some r) : Op2 K (rEqD K) x y r := fun F H v w Q s rv rw' k => by
  obtain ⟨h1, h2, h3⟩ := eqG_of h
  exact ⟨_, _, Pd.dp (Rp.mono s rv), Pd.dp (Rp.mono s rw'), h1, h2, k _ F H (.refl s) (congrArg V.bl ((eqv_dec x y).trans h3))⟩
theorem o2_neD {α : Type} [Rp α] [Pd α] [DecidableEq α] {x y : α} {r : Bool} (h : eqG x y = some r) : Op2 K (rNeD K) x y (!r) := fun F H v w Q s rv rw' k => by
  obtain ⟨h1, h2, h3⟩ := eqG_of h
  exact ⟨_, _, Pd.dp (Rp.mono s rv), Pd.dp (Rp.mono s rw'), h1, h2, k _ F H (.refl s) (congrArg (fun t => V.bl (!t)) ((eqv_dec x y).trans h3))⟩
/-- x in a list or tuple of data -/
def inG {α : Type} [Rp α] [Pd α] [DecidableEq α] (x : α) (xs : List α) : Option Bool := if (okD x && okD xs) = true then some (decide (x ∈ xs)) else none
theorem inG_of {α : Type} [Rp α] [Pd α] [DecidableEq α] {x : α} {xs : List α} {r : Bool} (h : inG x xs = some r) : okD x = true ∧ okD xs = true ∧ decide (x ∈ xs) = r := by
  unfold inG at h; split at h
  · rename_i h1
    obtain ⟨h1, h2⟩ := Bool.and_eq_true_iff.mp h1
    exact ⟨h1, h2, Option.some.inj h⟩
  · cases h
theorem any_in {α : Type} [Rp α] [Pd α] [DecidableEq α] (x : α) (xs : List α) : ((xs.map Pd.toD).any fun z => PyData.eqv z (Pd.toD x)) = decide (x ∈ xs) := by
  induction xs with
  | nil => simp
  | cons y ys ih =>
    rw [List.map_cons, List.any_cons, ih, eqv_dec]
    by_cases e : x = y
    · subst e; simp
    · have e' : ¬ y = x := fun z => e z.symm
      simp [e, e']
theorem o2_inD {α : Type} [Rp α] [Pd α] [DecidableEq α] {x : α} {xs : List α} {r : Bool} (h : inG x xs = some r) : Op2 K (rInD K) x xs r := fun F H v w Q s rv rw' k => by
  obtain ⟨h1, h2, h3⟩ := inG_of h
  exact ⟨_, _, Pd.dp (Rp.mono s rv), Pd.dp (Rp.mono s rw'), h1, h2, k _ F H (.refl s) (congrArg V.bl ((any_in x xs).trans h3))⟩
theorem o2_notInD {α : Type} [Rp α] [Pd α] [DecidableEq α] {x : α} {xs : List α} {r : Bool} (h : inG x xs = some r) : Op2 K (rNotInD K) x xs (!r) := fun F H v w Q s rv rw' k => by
  obtain ⟨h1, h2, h3⟩ := inG_of h
  exact ⟨_, _, Pd.dp (Rp.mono s rv), Pd.dp (Rp.mono s rw'), h1, h2, k _ F H (.refl s) (congrArg (fun t => V.bl (!t)) ((any_in x xs).trans h3))⟩
/-! ### pairs walked -/
def enumF {α : Type} : Int → List α → List (T2 Int α)
  | _, [] => []
  | i, x :: xs => ⟨i, x⟩ :: enumF (i + 1) xs
abbrev enumL {α : Type} (xs : List α) : List (T2 Int α) := enumF 0 xs
theorem enumF_get {α : Type} : ∀ {xs : List α} {j : Int} {i : Nat} {x : T2 Int α}, (enumF j xs)[i]? = some x → x.a = j + i ∧ xs[i]? = some x.b
  | [], _, _, _, h => by simp [enumF] at h
  | y :: ys, j, 0, x, h => by
    simp [enumF] at h; subst h; simp
  | y :: ys, j, i + 1, x, h => by
    have h' : (enumF (j + 1) ys)[i]? = some x := by simpa [enumF] using h
    obtain ⟨h1, h2⟩ := enumF_get h'
    exact ⟨by rw [h1]; omega, by simpa using h2⟩
theorem enumF_len {α : Type} : ∀ {xs : List α} {j : Int}, (enumF j xs).length = xs.length
  | [], _ => rfl
  | x :: xs, j => by rw [enumF, List.length_cons, enumF_len, List.length_cons]
def zipL {α β : Type} : List α → List β → List (T2 α β)
  | x :: xs, y :: ys => ⟨x, y⟩ :: zipL xs ys
  | _, _ => []
theorem zipL_get {α β : Type} : ∀ {xs : List α} {ys : List β} {i : Nat} {z : T2 α β}, (zipL xs ys)[i]? = some z → xs[i]? = some z.a ∧ ys[i]? = some z.b
  | [], _, _, _, h => by simp [zipL] at h
  | _ :: _, [], _, _, h => by simp [zipL] at h
  | x :: xs, y :: ys, 0, z, h => by
    simp [zipL] at h; subst h; simp
  | x :: xs, y :: ys, i + 1, z, h => by
    have h' : (zipL xs ys)[i]? = some z := by simpa [zipL] using h
    obtain ⟨h1, h2⟩ := zipL_get h'
    exact ⟨by simpa using h1, by simpa using h2⟩
theorem zipL_len {α β : Type} : ∀ {xs : List α} {ys : List β}, (zipL xs ys).length = min xs.length ys.length
  | [], _ => by simp [zipL]
  | _ :: _, [] => by simp [zipL]
  | x :: xs, y :: ys => by rw [zipL, List.length_cons, zipL_len, List.length_cons, List.length_cons]; omega
theorem pair_new {α β : Type} [Rp α] [Rp β] {T : Addr} {v w : V} {x : α} {y : β} (s : L2.Same F H) (hT : H T = none) (rv : rp K F v x) (rw' : rp K F w y) : ∃ F', Gr F H F' (upd H T (.tup [v, w])) ∧ rp K F' (.ref T) (T2.mk x y) :=
  ⟨_, Gr.new s hT, T, [v, w], rfl, upd_same, v, [w], rfl, Rp.mono (same_upd (s.free hT)) rv, w, [], rfl, Rp.mono (same_upd (s.free hT)) rw', rfl⟩
theorem ei_enum {α : Type} [Rp α] {xs : List α} {p tpos : Pos} {elts : List Expr} {kk : Nat} (h : Ev X e σ F H xs) (hm : X.mg "enumerate" = none) (hg : Gl X "enumerate" := by rfl) (hs : starEach [e] X.env = [(false, eval e X.env)] := by rfl) :
    EvI X (.Tuple elts kk tpos) (.Call (.Name "enumerate" p) [e] [] pos) σ F H (enumL xs) := fun F1 H1 g R q =>
  GoI.of (pi_enum hg hm (pa_cons pe_go pa_nil (by rw [hs]; rfl)) hs) (h F1 H1 g _ fun v F2 H2 g2 ⟨a, vs, e, sq, rs⟩ => ⟨a, vs, by rw [e], g2.fh.seq sq, q _ F2 H2 g2 fun i Fi Hi s1 s2 => by
    have sq' := s2.seq (s1.seq sq)
    refine ⟨fun x hx => ?_, fun e => ⟨vs, sq', by rw [e, rs.length, enumF_len]; exact Nat.le_refl _⟩⟩
    obtain ⟨h1, h2⟩ := enumF_get hx
    obtain ⟨y, hy, ry⟩ := rs.get h2
    refine ⟨⟨vs, y, sq', hy⟩, fun v H' ⟨T, x', e1, e2, e3, e4⟩ => ?_⟩
    subst e1; subst e3
    have e5 := e4 vs sq'
    rw [hy] at e5
    cases e5
    have hi : x.a = (i : Int) := by rw [h1]; omega
    have := pair_new (K := X.K) (x := x.a) (y := x.b) s2 e2 (v := .int (i : Nat)) (congrArg V.int hi.symm) (Rp.mono s1 ry)
    exact this⟩)
theorem ei_zip {α β : Type} [Rp α] [Rp β] {xs : List α} {ys : List β} {p tpos : Pos} {elts : List Expr} {kk : Nat} (ha : Ev X a σ F H xs) (hb : Ev X b σ F H ys) (hm : X.mg "zip" = none) (hg : Gl X "zip" := by rfl) (hs : starEach [a, b] X.env = (false, eval a X.env) :: starEach [b] X.env := by rfl) (hs2 : starEach [b] X.env = (false, eval b X.env) :: starEach [] X.env := by rfl)
    (hpl : (backTo pos (starEach [b] X.env)).any (·.1) = false := by rfl) : EvI X (.Tuple elts kk tpos) (.Call (.Name "zip" p) [a, b] [] pos) σ F H (zipL xs ys) := fun F1 H1 g R q =>
  GoI.of (pi_zipA hg hm (pa_cons pe_go (pa_cons pe_go pa_nil hs2) hs) hs hpl) (ha F1 H1 g _ fun v F2 H2 g2 r2 => hb F2 H2 (g.trans g2) _ fun w F3 H3 g3 ⟨p', vs', e', sq', rs'⟩ => by
    obtain ⟨p, vs, e, sq, rs⟩ := Rp.mono g3.ff r2
    refine ⟨p, p', vs, vs', by rw [e, e'], .inl ⟨g3.fh.seq sq, g3.fh.seq sq', q _ F3 H3 (g2.trans g3) fun i Fi Hi s1 s2 => ?_⟩⟩
    have q1 := s2.seq (s1.seq sq)
    have q2 := s2.seq (s1.seq sq')
    refine ⟨fun x hx => ?_, fun e => ⟨vs, vs', q1, q2, by rw [e, zipL_len, rs.length, rs'.length]; omega⟩⟩
    obtain ⟨h1, h2⟩ := zipL_get hx
    obtain ⟨y, hy, ry⟩ := rs.get h1
    obtain ⟨z, hz, rz⟩ := rs'.get h2
    refine ⟨⟨vs, vs', y, z, q1, q2, hy, hz⟩, fun v H' ⟨T, x1, y1, e1, e2, e3, e4, e5⟩ => ?_⟩
    subst e1; subst e3
    have e6 := e4 vs q1
    have e7 := e5 vs' q2
    rw [hy] at e6; rw [hz] at e7
    cases e6; cases e7
    exact pair_new s2 e2 (Rp.mono s1 ry) (Rp.mono s1 rz))
theorem ei_zipT {α β θ θ' : Type} [Rp α] [Rp β] [Rp θ] [Rp θ'] [TL θ α] [TL θ' β] {xs : θ} {ys : θ'} {p tpos : Pos} {elts : List Expr} {kk : Nat} (ha : Ev X a σ F H xs) (hb : Ev X b σ F H ys) (hm : X.mg "zip" = none) (hg : Gl X "zip" := by rfl) (hs : starEach [a, b] X.env = (false, eval a X.env) :: starEach [b] X.env := by rfl) (hs2 : starEach [b] X.env = (false, eval b X.env) :: starEach [] X.env := by rfl)
    (hpl : (backTo pos (starEach [b] X.env)).any (·.1) = false := by rfl) : EvI X (.Tuple elts kk tpos) (.Call (.Name "zip" p) [a, b] [] pos) σ F H (zipL (TL.l xs) (TL.l ys)) := fun F1 H1 g R q =>
  GoI.of (pi_zipA hg hm (pa_cons pe_go (pa_cons pe_go pa_nil hs2) hs) hs hpl) (ha F1 H1 g _ fun v F2 H2 g2 r2 => hb F2 H2 (g.trans g2) _ fun w F3 H3 g3 r3 => by
    obtain ⟨p', vs', e', sq', rs'⟩ := TL.sq r3
    obtain ⟨p, vs, e, sq, rs⟩ := TL.sq (Rp.mono g3.ff r2)
    refine ⟨p, p', vs, vs', by rw [e, e'], .inr ⟨sqT_mono g3.fh sq, sqT_mono g3.fh sq', q _ F3 H3 (g2.trans g3) fun i Fi Hi s1 s2 => ?_⟩⟩
    have q1 : SqT X.K Hi p vs := sqT_mono s2 (sqT_mono s1 sq)
    have q2 : SqT X.K Hi p' vs' := sqT_mono s2 (sqT_mono s1 sq')
    refine ⟨fun x hx => ?_, fun e => ⟨vs, vs', q1, q2, by rw [e, zipL_len, rs.length, rs'.length]; omega⟩⟩
    obtain ⟨h1, h2⟩ := zipL_get hx
    obtain ⟨y, hy, ry⟩ := rs.get h1
    obtain ⟨z, hz, rz⟩ := rs'.get h2
    refine ⟨⟨vs, vs', y, z, q1, q2, hy, hz⟩, fun v H' ⟨T, x1, y1, e1, e2, e3, e4, e5⟩ => ?_⟩
    subst e1; subst e3
    have e6 := e4 vs q1
    have e7 := e5 vs' q2
    rw [hy] at e6; rw [hz] at e7
    cases e6; cases e7
    exact pair_new s2 e2 (Rp.mono s1 ry) (Rp.mono s1 rz))
theorem rev_get {α : Type} {xs : List α} {i : Nat} {x : α} (h : xs.reverse[i]? = some x) : i < xs.length ∧ xs[xs.length - 1 - i]? = some x := by
  have hi : i < xs.length := by
    rcases Nat.lt_or_ge i xs.length with h1 | h1
    · exact h1
    · rw [List.getElem?_eq_none (by simpa using h1)] at h; cases h
  rw [List.getElem?_reverse hi] at h
  exact ⟨hi, h⟩
theorem ei_rev {α : Type} [Rp α] {xs : List α} {p : Pos} {tg : Expr} (h : Ev X e σ F H xs) (hm : X.mg "reversed" = none) (hg : Gl X "reversed" := by rfl) (hs : starEach [e] X.env = (false, eval e X.env) :: starEach [] X.env := by rfl) :
    EvI X tg (.Call (.Name "reversed" p) [e] [] pos) σ F H xs.reverse := fun F1 H1 g R q =>
  GoI.of (pi_revA hg hm pe_go hs) (h F1 H1 g _ fun v F2 H2 g2 ⟨a, vs, e, sq, rs⟩ => ⟨a, vs, e, .inl ⟨g2.fh.seq sq, q _ F2 H2 g2 fun i Fi Hi s1 s2 => by
    have sq' := s2.seq (s1.seq sq)
    refine ⟨fun x hx => ?_, fun e => by rw [e, List.length_reverse, ← rs.length]; exact Nat.le_refl _⟩
    obtain ⟨h1, h2⟩ := rev_get hx
    obtain ⟨y, hy, ry⟩ := rs.get h2
    rw [← rs.length] at h1 hy
    refine ⟨⟨h1, vs, y, sq', hy⟩, fun v H' ⟨e1, e2⟩ => ?_⟩
    subst e1
    have e3 := e2 vs sq'
    rw [hy] at e3
    cases e3
    exact ⟨Fi, .refl s2, Rp.mono s1 ry⟩⟩⟩)
theorem ei_revT {α θ : Type} [Rp α] [Rp θ] [TL θ α] {xs : θ} {p : Pos} {tg : Expr} (h : Ev X e σ F H xs) (hm : X.mg "reversed" = none) (hg : Gl X "reversed" := by rfl) (hs : starEach [e] X.env = (false, eval e X.env) :: starEach [] X.env := by rfl) :
    EvI X tg (.Call (.Name "reversed" p) [e] [] pos) σ F H (TL.l xs).reverse := fun F1 H1 g R q =>
  GoI.of (pi_revA hg hm pe_go hs) (h F1 H1 g _ fun v F2 H2 g2 r2 => let ⟨a, vs, e, sq, rs⟩ := TL.sq r2; ⟨a, vs, e, .inr ⟨sqT_mono g2.fh sq, q _ F2 H2 g2 fun i Fi Hi s1 s2 => by
    have sq' : SqT X.K Hi a vs := sqT_mono s2 (sqT_mono s1 sq)
    refine ⟨fun x hx => ?_, fun e => by rw [e, List.length_reverse, ← rs.length]; exact Nat.le_refl _⟩
    obtain ⟨h1, h2⟩ := rev_get hx
    obtain ⟨y, hy, ry⟩ := rs.get h2
    rw [← rs.length] at h1 hy
    refine ⟨⟨h1, vs, y, sq', hy⟩, fun v H' ⟨e1, e2⟩ => ?_⟩
    subst e1
    have e3 := e2 vs sq'
    rw [hy] at e3
    cases e3
    exact ⟨Fi, .refl s2, Rp.mono s1 ry⟩⟩⟩)
/-! ### the place of an item -/
def idxG {α : Type} [Rp α] [Pd α] [DecidableEq α] (xs : List α) (x : α) : Option Int := if (okD x && okD xs) = true ∧ x ∈ xs then some ((xs.idxOf x : Nat) : Int) else none
theorem idxG_of {α : Type} [Rp α] [Pd α] [DecidableEq α] {x : α} {xs : List α} {r : Int} (h : idxG xs x = some r) : okD x = true ∧ okD xs = true ∧ x ∈ xs ∧ r = ((xs.idxOf x : Nat) : Int) := by
  unfold idxG at h; split at h
  · rename_i h1
    obtain ⟨h0, h3⟩ := h1
    obtain ⟨h1, h2⟩ := Bool.and_eq_true_iff.mp h0
    exact ⟨h1, h2, h3, (Option.some.inj h).symm⟩
  · cases h
theorem idx_at {α : Type} [DecidableEq α] {x : α} : ∀ {xs : List α}, x ∈ xs → xs[xs.idxOf x]? = some x ∧ ∀ m, m < xs.idxOf x → xs[m]? ≠ some x
  | y :: ys, h => by
    by_cases e : y = x
    · subst e; simp
    · have hx : x ∈ ys := by
        rcases List.mem_cons.mp h with h | h
        · exact absurd h.symm e
        · exact h
      obtain ⟨h1, h2⟩ := idx_at hx
      have hi : (y :: ys).idxOf x = ys.idxOf x + 1 := by
        rw [List.idxOf_cons, beq_eq_false_iff_ne.mpr e]; rfl
      rw [hi]
      refine ⟨by simpa using h1, fun m hm => ?_⟩
      cases m with
      | zero => simpa using e
      | succ m => simpa using h2 m (by omega)
theorem ev_indexL {α : Type} [Rp α] [Pd α] [DecidableEq α] {xs : List α} {x : α} {r : Int} {apos : Pos} (ho : Ev X a σ F H xs) (he : Ev X e σ F H x) (h : idxG xs x = some r) (hu : X.A.units + 65 < cLine)
    (hbase : attributeBase a "index" X.env (eval a X.env) = eval a X.env := by rfl)
    (hfew : ((backTo pos (starEach [e] X.env)).all (fun x => !x.1) && (backToKw pos (keywordEach [] X.env)).all (fun x => x.1.isSome) && decide ([e].length + ([] : List Keyword).length + (if ([] : List Keyword).isEmpty then 0 else 1) < 30)) = true := by rfl)
    (hline : (apos.endLine == pos.line) = true := by rfl) (hs : starEach [e] X.env = (false, eval e X.env) :: starEach [] X.env := by rfl) (hplain : (backTo pos (starEach [] X.env)).any (·.1) = false := by rfl) :
    Ev X (.Call (.Attribute a "index" apos) [e] [] pos) σ F H r := fun F1 H1 g Q q => by
  obtain ⟨k1, k2, k3, rfl⟩ := idxG_of h
  refine GoE.of (pe_bm PySem.F.plainAttrs_list PySem.F.slot_list_index PySem.F.type_list_index (mt_indexD hu) pe_go (pa_cons pe_go pa_nil hs) hbase hfew hline hs hplain) (ho F1 H1 g _ fun v F2 H2 g2 r2 => ?_)
  obtain ⟨p, vs, rfl, sq, rs⟩ := id r2
  refine ⟨.inl ⟨rfl, vs, g2.fh.seq sq⟩, he F2 H2 (g.trans g2) _ fun w F3 H3 g3 r3 => ?_⟩
  obtain ⟨h1, h2⟩ := idx_at k3
  refine ⟨p, w, Pd.toD x, xs.map Pd.toD, xs.idxOf x, Pd.toD x, rfl, rfl, Pd.dp (Rp.mono (g3.ff.trans g3.fh) r2), Pd.dp (Rp.mono g3.fh r3), k2, k1, by rw [List.getElem?_map, h1]; rfl, (eqv_dec x x).trans (decide_eq_true rfl), fun m z' hm hz => ?_, q _ F3 H3 (g2.trans g3) rfl⟩
  rw [List.getElem?_map] at hz
  obtain ⟨y, hy, rfl⟩ := Option.map_eq_some_iff.mp hz
  rw [eqv_dec]
  exact decide_eq_false fun e => h2 m hm (e ▸ hy)
/-! ### tuples without a dict of their own -/
def rTupN (K : PySem.W.Frag) : List V → Hp → VK → Prop := fun xs H Q => ∃ p ys, xs = [.ref p] ∧ SqL K H p ys ∧ ∀ l o, H l = none → o.dict = none → o.cls = .type "tuple" → Q (.ref l) (upd H l (.frz o (.tup ys)))
theorem call_tupN : CallR X (.type "tuple") (rTupN X.K) := by
  intro pins s σ H xs us Q I r ⟨p, ys, e, hq, q⟩
  subst e
  obtain ⟨u, rfl, rx⟩ := vals1 r
  cases rx
  obtain ⟨its, r', pl, hz⟩ := I.list hq
  have hlen := r'.length
  refine call_tuple_list pl.isList (fun h' kp => ?_) (by simp only [List.size_toArray] <;> omega)
  have I1 : Inv X pins σ H { s with heap := h' } := I.kept (t' := s.toks) kp
  have new : ObjOk X.prog X.w (upd H h'.objs.size (.frz { cls := .type "tuple", data := .seq its.toArray } (.tup ys))) (h'.push { cls := .type "tuple", data := .seq its.toArray }) h'.objs.size (.frz { cls := .type "tuple", data := .seq its.toArray } (.tup ys)) :=
    ⟨Heap.get?_push_size _ rfl, hz, its, r', IsTup.new _ _⟩
  exact ⟨.ref h'.objs.size, _, I1.laid (t' := s.toks) (fun b o e => Heap.get?_push_of_some _ e) (Nat.le_refl _) new, rfl, q _ _ (I1.hok.fresh (Nat.le_refl _)) rfl rfl⟩
theorem oc_tupleN {α : Type} [Rp α] {xs : List α} : OpC K (rTupN K) (xs, ()) (Tn.mk xs) :=
  oc1 fun F H v Q s ⟨p, vs, e, sq, rs⟩ k => ⟨p, vs, by rw [e], s.seq sq, fun l o hl h1 h2 => k _ (upd F l (.frz o (.tup vs))) _ (Gr.new s hl) ⟨l, vs, o, rfl, upd_same, h1, h2, rs.mono (same_upd (s.free hl))⟩⟩
def tBMn (r : V → List V → Hp → VK → Prop) (to : TE) (t : TA) : TE := fun σ H Q => to σ H fun x H1 => (∃ p o xs, x = .ref p ∧ H1 p = some (.frz o (.tup xs)) ∧ o.dict = none ∧ o.cls = .type "tuple") ∧ t σ H1 fun xs H2 => r x xs H2 Q
theorem pe_bmn {o : Expr} {to : TE} {t : TA} {name : Str} {apos cpos : Pos} {id : String} {r : V → List V → Hp → VK → Prop} (pa : PlainAttrs "tuple") (slot : Slot "tuple" name id) (hty : typeOf (.builtin id) = pure (.type "method_descriptor")) (hm : MtR X id r) (ho : PE X o to) (ha : PA X (e :: es) t)
    (hbase : attributeBase o name X.env (eval o X.env) = eval o X.env)
    (hfew : ((backTo cpos (starEach (e :: es) X.env)).all (fun x => !x.1) && (backToKw cpos (keywordEach [] X.env)).all (fun x => x.1.isSome) && decide ((e :: es).length + ([] : List Keyword).length + (if ([] : List Keyword).isEmpty then 0 else 1) < 30)) = true)
    (hline : (apos.endLine == cpos.line) = true) (hs : starEach (e :: es) X.env = (false, eval e X.env) :: starEach es X.env) (hplain : (backTo cpos (starEach es X.env)).any (·.1) = false) :
    PE X (.Call (.Attribute o name apos) (e :: es) [] cpos) (tBMn r to t) := ⟨fun pins s σ H Q I h => by
  refine wpAny_Call_method_late hbase hfew hline rfl (thn (ho.run pins s σ H _ I h) fun v s1 ⟨x, H1, I1, r1, ⟨p, ob, ys, ex, hp, hd, hc⟩, q1⟩ => ?_)
  subst ex
  cases r1
  obtain ⟨hg, _⟩ := I1.hok p _ hp
  refine ⟨"tuple", id, pa, slot, hty, ⟨ob, hg, hc⟩, fun a' e' => by cases e'; exact ⟨ob, hg, hd⟩, ?_⟩
  have hA := ha.run cpos pins s1 σ H1 _ I1 q1
  rw [hs] at hA ⊢
  refine Calls.callWith_builtin (by show (false || (backTo cpos (starEach es X.env)).any (·.1)) = false; rw [hplain]; rfl) (Calls.evalArgs_plain ?_)
  exact thn hA fun us s2 ⟨vs, H2, I2, r2, q2⟩ => hm pins s2 σ H2 (.ref p) vs _ us Q I2 rfl r2 q2⟩
def idxT (xs : List Str) (x : Str) : Option Int := if x ∈ xs then some ((xs.idxOf x : Nat) : Int) else none
theorem ev_indexT {xs : Tn Str} {x : Str} {r : Int} {apos : Pos} (ho : Ev X a σ F H xs) (he : Ev X e σ F H x) (h : idxT xs.l x = some r)
    (hbase : attributeBase a "index" X.env (eval a X.env) = eval a X.env := by rfl)
    (hfew : ((backTo pos (starEach [e] X.env)).all (fun x => !x.1) && (backToKw pos (keywordEach [] X.env)).all (fun x => x.1.isSome) && decide ([e].length + ([] : List Keyword).length + (if ([] : List Keyword).isEmpty then 0 else 1) < 30)) = true := by rfl)
    (hline : (apos.endLine == pos.line) = true := by rfl) (hs : starEach [e] X.env = (false, eval e X.env) :: starEach [] X.env := by rfl) (hplain : (backTo pos (starEach [] X.env)).any (·.1) = false := by rfl) :
    Ev X (.Call (.Attribute a "index" apos) [e] [] pos) σ F H r := fun F1 H1 g Q q => by
  unfold idxT at h
  split at h
  case isFalse => cases h
  rename_i k3
  cases (Option.some.inj h)
  refine GoE.of (pe_bmn PySem.F.plainAttrs_tuple PySem.F.slot_tuple_index PySem.F.type_tuple_index mt_tup_index pe_go (pa_cons pe_go pa_nil hs) hbase hfew hline hs hplain) (ho F1 H1 g _ fun v F2 H2 g2 r2 => ?_)
  obtain ⟨p, vs, o, rfl, hp, hd, hc, rs⟩ := r2
  refine ⟨⟨p, o, vs, rfl, g2.fh _ _ hp, hd, hc⟩, he F2 H2 (g.trans g2) _ fun w F3 H3 g3 r3 => ?_⟩
  obtain ⟨h1, h2⟩ := idx_at k3
  have e4 := rs.strs
  subst e4
  exact ⟨p, xs.l, x, xs.l.idxOf x, rfl, by rw [show w = .str x from r3], .inl (.inr ⟨o, g3.fh _ _ (g3.ff _ _ hp)⟩), h1, h2, q _ F3 H3 (g2.trans g3) rfl⟩
/-! ### texts -/
theorem ev_partition {x y : Str} {apos : Pos} (hx : x.length ≤ sizeLine ∧ (y.length == 0) = false) (ho : Ev X a σ F H x) (he : Ev X e σ F H y)
    (hs : starEach [e] X.env = [(false, eval e X.env)] := by rfl) (hbase : attributeBase a "partition" X.env (eval a X.env) = eval a X.env := by rfl) (hline : (apos.endLine == pos.line) = true := by rfl) : Ev X (.Call (.Attribute a "partition" apos) [e] [] pos) σ F H (T3.mk (Txt.partition x y).1 (Txt.partition x y).2.1 (Txt.partition x y).2.2) :=
  ev_m1 PySem.F.slot_str_partition PySem.F.type_str_partition mt_partition (fun F H Q s k => ⟨x, y, rfl, rfl, hx.2, hx.1, fun p hp => k _ (upd F p _) _ (Gr.new s hp) ⟨p, _, rfl, upd_same, _, _, rfl, rfl, _, _, rfl, rfl, _, _, rfl, rfl, rfl⟩⟩) ho he hs hbase hline
def sPart (x y : Str) : Option (T3 Str Str Str) := if x.length ≤ sizeLine ∧ (y.length == 0) = false then some ⟨(Txt.partition x y).1, (Txt.partition x y).2.1, (Txt.partition x y).2.2⟩ else none
theorem ev_part {x y : Str} {r : T3 Str Str Str} {apos : Pos} (ho : Ev X a σ F H x) (he : Ev X e σ F H y) (h : sPart x y = some r)
    (hs : starEach [e] X.env = [(false, eval e X.env)] := by rfl) (hbase : attributeBase a "partition" X.env (eval a X.env) = eval a X.env := by rfl) (hline : (apos.endLine == pos.line) = true := by rfl) : Ev X (.Call (.Attribute a "partition" apos) [e] [] pos) σ F H r := by
  unfold sPart at h
  split at h
  · rename_i hz
    cases (Option.some.inj h)
    exact ev_partition hz ho he hs hbase hline
  · cases h
theorem oc_intB {b : Bool} : OpC K (fun xs H Q => (∃ i, xs = [.int i] ∧ Q (.int i) H) ∨ ∃ k, xs = [.bl k] ∧ Q (.int (if k then 1 else 0)) H) (b, ()) (if b = true then (1 : Int) else 0) :=
  oc1 fun F H v Q s rv k => .inr ⟨b, by rw [show v = .bl b from rv], k _ F H (.refl s) rfl⟩
end
end Gx

/-! Gf: dicts. -/
namespace Gx
open PySem PySem.Spec PyProof.Rows L2
open Rp (rp)
open Ra (ra)
open Ob (ob)
section
variable {κ α β : Type} [DecidableEq κ]
def kvLook : List (κ × α) → κ → Option α
  | [], _ => none
  | p :: r, k => if p.1 = k then some p.2 else kvLook r k
def kvPut (l : List (κ × α)) (k : κ) (v : α) : List (κ × α) := if (l.any fun p => decide (p.1 = k)) = true then l.map (fun p => if p.1 = k then (p.1, v) else p) else l ++ [(k, v)]
def kvDrop (l : List (κ × α)) (k : κ) : List (κ × α) := l.filter fun p => decide (p.1 ≠ k)
variable {κ' : Type} [DecidableEq κ'] {g : κ → κ'}
abbrev kvm (g : κ → κ') (l : List (κ × α)) : List (κ' × α) := l.map fun p => (g p.1, p.2)
theorem kvm_val (hg : ∀ x y, g x = g y → x = y) (k : κ) : ∀ l : List (κ × V), valV (kvm g l) (g k) = kvLook l k
  | [] => rfl
  | p :: r => by
    by_cases e : p.1 = k
    · subst e; simp [valV, kvLook]
    · have e' : ¬ g p.1 = g k := fun z => e (hg _ _ z)
      have ih := kvm_val hg k r
      unfold valV at ih ⊢
      rw [kvm, List.map_cons, List.find?_cons, decide_eq_false e', kvLook, if_neg e]
      exact ih
theorem kvm_any (hg : ∀ x y, g x = g y → x = y) (k : κ) (l : List (κ × α)) : ((kvm g l).any fun p => decide (p.1 = g k)) = l.any fun p => decide (p.1 = k) := by
  induction l with
  | nil => rfl
  | cons p r ih =>
    rw [kvm, List.map_cons, List.any_cons, List.any_cons, ← ih]
    congr 1
    rw [decide_eq_decide]
    exact ⟨hg _ _, fun e => e ▸ rfl⟩
theorem kvm_put (hg : ∀ x y, g x = g y → x = y) (k : κ) (v : V) (l : List (κ × V)) : putK (kvm g l) (g k) v = kvm g (kvPut l k v) := by
  unfold putK kvPut
  rw [kvm_any hg]
  split
  · rw [kvm, kvm, List.map_map, List.map_map]
    refine List.map_congr_left fun p _ => ?_
    show (if g p.1 = g k then (g p.1, v) else (g p.1, p.2)) = _
    by_cases e : p.1 = k
    · subst e; simp
    · rw [if_neg (fun z => e (hg _ _ z))]; simp [e]
  · simp [kvm]
theorem kvm_drop (hg : ∀ x y, g x = g y → x = y) (k : κ) (l : List (κ × V)) : dropK (kvm g l) (g k) = kvm g (kvDrop l k) := by
  unfold dropK kvDrop
  induction l with
  | nil => rfl
  | cons p r ih =>
    rw [kvm, List.map_cons]
    by_cases e : p.1 = k
    · rw [List.filter_cons_of_neg (by simp [e]), List.filter_cons_of_neg (by simp [e])]; exact ih
    · have e' : ¬ g p.1 = g k := fun z => e (hg _ _ z)
      rw [List.filter_cons_of_pos (by simp [e']), List.filter_cons_of_pos (by simp [e]), kvm, List.map_cons]
      exact congrArg _ ih
theorem kvPut_len (l : List (κ × α)) (k : κ) (v : α) : (kvPut l k v).length ≤ l.length + 1 := by
  unfold kvPut; split
  · rw [List.length_map]; omega
  · rw [List.length_append]; simp
theorem kvLook_put (l : List (κ × α)) (k k' : κ) (v : α) : kvLook (kvPut l k v) k' = if k = k' then some v else kvLook l k' := by
  unfold kvPut
  split
  · rename_i h
    induction l with
    | nil => cases h
    | cons p r ih =>
      rw [List.map_cons]
      by_cases e : p.1 = k
      · rw [if_pos e, kvLook]
        by_cases e2 : k = k'
        · rw [if_pos e2, if_pos (e.trans e2)]
        · rw [if_neg e2, if_neg (fun z => e2 (e.symm.trans z)), kvLook, if_neg (fun z => e2 (e.symm.trans z))]
          clear ih h
          induction r with
          | nil => rfl
          | cons q s ih =>
            rw [List.map_cons]
            by_cases e3 : q.1 = k
            · rw [if_pos e3, kvLook, if_neg (fun z => e2 (e3.symm.trans z)), ih, kvLook, if_neg (fun z => e2 (e3.symm.trans z))]
            · rw [if_neg e3, kvLook, ih, kvLook]
      · rw [if_neg e, kvLook]
        have h' : (r.any fun p => decide (p.1 = k)) = true := by
          rw [List.any_cons, decide_eq_false e, Bool.false_or] at h; exact h
        rw [ih h', kvLook]
        by_cases e2 : k = k'
        · rw [if_pos e2, if_neg (fun z => e (z.trans e2.symm)), if_pos e2]
        · rw [if_neg e2, if_neg e2]
  · rename_i h
    induction l with
    | nil => simp [kvLook]
    | cons p r ih =>
      have h1 : ¬ p.1 = k ∧ ¬ (r.any fun p => decide (p.1 = k)) = true := by
        constructor
        · intro e; exact h (by rw [List.any_cons, decide_eq_true e]; rfl)
        · intro e; exact h (by rw [List.any_cons, e, Bool.or_true])
      rw [List.cons_append, kvLook, ih h1.2, kvLook]
      by_cases e2 : k = k'
      · rw [if_pos e2, if_neg (fun z => h1.1 (z.trans e2.symm)), if_pos e2]
      · rw [if_neg e2, if_neg e2]
end
/-- a dict -/
structure Dct (κ ν : Type) where
  l : List (κ × ν)
  deriving DecidableEq
abbrev KR {κ ν : Type} [Rp ν] (K : PySem.W.Frag) (F : Hp) : List (κ × V) → List (κ × ν) → Prop := Paired fun p q => p.1 = q.1 ∧ rp K F p.2 q.2
section
variable {κ ν : Type} [Rp ν] {K : PySem.W.Frag} {F F' : Hp}
theorem KR.mono {kvs : List (κ × V)} {l : List (κ × ν)} (s : L2.Same F F') (h : KR K F kvs l) : KR K F' kvs l := Paired.mapP h fun _ _ ⟨e, r⟩ => ⟨e, Rp.mono s r⟩
variable [DecidableEq κ]
theorem KR.look (k : κ) : ∀ {kvs : List (κ × V)} {l : List (κ × ν)}, KR K F kvs l → (kvLook kvs k = none ∧ kvLook l k = none) ∨ ∃ v x, kvLook kvs k = some v ∧ kvLook l k = some x ∧ rp K F v x
  | _, _, .nil => .inl ⟨rfl, rfl⟩
  | _, _, .cons (a := p) (b := q) ⟨e, r⟩ t => by
    by_cases h : p.1 = k
    · exact .inr ⟨p.2, q.2, by rw [kvLook, if_pos h], by rw [kvLook, if_pos (e ▸ h)], r⟩
    · rw [kvLook, if_neg h, kvLook, if_neg (fun z => h (e.trans z))]
      exact KR.look k t
theorem KR.any (k : κ) : ∀ {kvs : List (κ × V)} {l : List (κ × ν)}, KR K F kvs l → (kvs.any fun p => decide (p.1 = k)) = l.any fun p => decide (p.1 = k)
  | _, _, .nil => rfl
  | _, _, .cons ⟨e, _⟩ t => by rw [List.any_cons, List.any_cons, KR.any k t, e]
theorem KR.map (k : κ) {v : V} {x : ν} (r : rp K F v x) : ∀ {kvs : List (κ × V)} {l : List (κ × ν)}, KR K F kvs l → KR K F (kvs.map fun p => if p.1 = k then (p.1, v) else p) (l.map fun p => if p.1 = k then (p.1, x) else p)
  | _, _, .nil => .nil
  | _, _, .cons (a := p) (b := q) ⟨e, r'⟩ t => by
    rw [List.map_cons, List.map_cons]
    refine .cons ?_ (KR.map k r t)
    by_cases h : p.1 = k
    · rw [if_pos h, if_pos (e ▸ h)]; exact ⟨e, r⟩
    · rw [if_neg h, if_neg (fun z => h (e.trans z))]; exact ⟨e, r'⟩
theorem KR.app {kvs ws : List (κ × V)} {l m : List (κ × ν)} (h : KR K F kvs l) (h' : KR K F ws m) : KR K F (kvs ++ ws) (l ++ m) := by
  induction h with
  | nil => exact h'
  | cons r t ih => exact .cons r ih
theorem KR.put {k : κ} {v : V} {x : ν} {kvs : List (κ × V)} {l : List (κ × ν)} (h : KR K F kvs l) (r : rp K F v x) : KR K F (kvPut kvs k v) (kvPut l k x) := by
  unfold kvPut
  rw [h.any k]
  split
  · exact KR.map k r h
  · exact h.app (.cons ⟨rfl, r⟩ .nil)
theorem KR.drop {k : κ} : ∀ {kvs : List (κ × V)} {l : List (κ × ν)}, KR K F kvs l → KR K F (kvDrop kvs k) (kvDrop l k)
  | _, _, .nil => .nil
  | _, _, .cons (a := p) (b := q) ⟨e, r'⟩ t => by
    unfold kvDrop
    by_cases h : p.1 = k
    · rw [List.filter_cons_of_neg (by simp [h]), List.filter_cons_of_neg (by simp [← e, h])]; exact KR.drop t
    · rw [List.filter_cons_of_pos (by simp [h]), List.filter_cons_of_pos (by simp [← e, h])]; exact .cons ⟨e, r'⟩ (KR.drop t)
end
/-! ### keys -/
class KeyS (κ : Type) [Rp κ] where
  g : κ → Key
  inj : ∀ x y, g x = g y → x = y
  rpg : ∀ {K : PySem.W.Frag} {F : Hp} {v : V} {k : κ}, rp K F v k ↔ v = kV (g k)
instance : KeyS Int := ⟨.inl, fun _ _ h => Sum.inl.inj h, Iff.rfl⟩
instance : KeyS Str := ⟨.inr, fun _ _ h => Sum.inr.inj h, Iff.rfl⟩
class KeyT (κ : Type) [Rp κ] where
  g : κ → List Key
  inj : ∀ x y, g x = g y → x = y
  rpg : ∀ {K : PySem.W.Frag} {F : Hp} {v : V} {k : κ}, rp K F v k ↔ ∃ b, v = .ref b ∧ F b = some (.tup ((g k).map kV))
class DKey (κ : Type) [Rp κ] [DecidableEq κ] where
  hob : List (κ × V) → HO
  inj : ∀ {a b}, hob a = hob b → a = b
  mu : ∀ kvs, Mut (some (hob kvs))
  ls : ∀ kvs, lstish (hob kvs)
  isD : ∀ {H : Hp} {a : Addr} {kvs}, Rd H a (hob kvs) → IsD H a
  get : ∀ {K : PySem.W.Frag} {F H : Hp} {a : Addr} {v : V} {k : κ} {kvs}, L2.Same F H → rp K F v k → Rd H a (hob kvs) → DGet H a v (kvLook kvs k)
  put : ∀ {K : PySem.W.Frag} {F H : Hp} {a : Addr} {v x : V} {k : κ} {kvs}, L2.Same F H → rp K F v k → H a = some (hob kvs) → kvs.length < sizeLine → DPut H a v x (upd H a (hob (kvPut kvs k x)))
  new : ∀ {X : Cx} {pos : Pos}, PE X (.Dict [] [] pos) fun _ H Q => ∀ p, H p = none → Q (.ref p) (upd H p (hob []))
  kd : ∀ {K : PySem.W.Frag} {H : Hp} {a : Addr} {kvs}, Rd H a (hob kvs) → Kn K H (.ref a) "dict"
  le : ∀ {P : Program} {w : World} {H : Hp} {h : Heap} {a : Addr} {kvs}, ObjOk P w H h a (hob kvs) → kvs.length ≤ sizeLine
theorem kvm_inj {κ κ' α : Type} {g : κ → κ'} (hg : ∀ x y, g x = g y → x = y) : ∀ {a b : List (κ × α)}, kvm g a = kvm g b → a = b
  | [], [], _ => rfl
  | [], _ :: _, h => by cases h
  | _ :: _, [], h => by cases h
  | p :: r, q :: s, h => by
    rw [kvm, kvm, List.map_cons, List.map_cons, List.cons.injEq] at h
    obtain ⟨h1, h2⟩ := h
    rw [kvm_inj hg h2]
    rw [Prod.mk.injEq] at h1
    congr 1
    exact Prod.ext (hg _ _ h1.1) h1.2
theorem kvm_len {κ κ' α : Type} {g : κ → κ'} (l : List (κ × α)) : (kvm g l).length = l.length := by rw [kvm, List.length_map]
instance {κ : Type} [Rp κ] [DecidableEq κ] [KeyS κ] : DKey κ where
  hob kvs := .dK (kvm KeyS.g kvs)
  inj h := kvm_inj KeyS.inj (HO.dK.inj h)
  mu _ := trivial
  ls _ := trivial
  isD h := .inl ⟨_, h⟩
  get s r h := .inl ⟨_, _, h, KeyS.rpg.mp r, (kvm_val KeyS.inj _ _).symm⟩
  put s r h hl := .inl ⟨_, _, h, KeyS.rpg.mp r, by rw [kvm_len]; exact hl, by rw [kvm_put KeyS.inj]⟩
  new := pe_dnewK
  kd h := .dK h
  le h := by obtain ⟨z, _⟩ := (show ObjOk _ _ _ _ _ (.dK _) from h); rw [kvm_len] at z; exact z
instance {κ : Type} [Rp κ] [DecidableEq κ] [KeyT κ] : DKey κ where
  hob kvs := .dT (kvm KeyT.g kvs)
  inj h := kvm_inj KeyT.inj (HO.dT.inj h)
  mu _ := trivial
  ls _ := trivial
  isD h := .inr ⟨_, h⟩
  get s r h := by
    obtain ⟨b, e, hb⟩ := KeyT.rpg.mp r
    exact .inr ⟨_, _, b, h, e, s _ _ hb, (kvm_val KeyT.inj _ _).symm⟩
  put s r h hl := by
    obtain ⟨b, e, hb⟩ := KeyT.rpg.mp r
    exact .inr ⟨_, _, b, h, e, s _ _ hb, by rw [kvm_len]; exact hl, by rw [kvm_put KeyT.inj]⟩
  new := pe_dnewT
  kd h := .dT h
  le h := by obtain ⟨z, _⟩ := (show ObjOk _ _ _ _ _ (.dT _) from h); rw [kvm_len] at z; exact z
/-- keys that are tuples of scalars -/
class KeyR (τ : Type) [Ra τ] where
  g : τ → List Key
  inj : ∀ x y, g x = g y → x = y
  rpg : ∀ {K : PySem.W.Frag} {F : Hp} {vs : List V} {k : τ}, ra K F vs k ↔ vs = (g k).map kV
instance : KeyR Unit := ⟨fun _ => [], fun _ _ _ => rfl, Iff.rfl⟩
instance {α τ : Type} [Rp α] [Ra τ] [KeyS α] [KeyR τ] : KeyR (α × τ) := ⟨fun x => KeyS.g x.1 :: KeyR.g x.2, fun x y h => by
  rw [List.cons.injEq] at h
  exact Prod.ext (KeyS.inj _ _ h.1) (KeyR.inj _ _ h.2), by
  intro K F vs k
  constructor
  · rintro ⟨v, r, e, p, q⟩
    rw [e, KeyS.rpg.mp p, KeyR.rpg.mp q]; rfl
  · intro h
    exact ⟨_, _, h, KeyS.rpg.mpr rfl, KeyR.rpg.mpr rfl⟩⟩
theorem keyR_rp {θ τ : Type} [Ra τ] [KeyR τ] {row : θ → τ} {K : PySem.W.Frag} {F : Hp} {v : V} {k : θ} : rpT row K F v k ↔ ∃ b, v = .ref b ∧ F b = some (.tup ((KeyR.g (row k)).map kV)) := by
  constructor
  · rintro ⟨b, vs, e, q, r⟩
    exact ⟨b, e, by rw [← KeyR.rpg.mp r]; exact q⟩
  · rintro ⟨b, e, q⟩
    exact ⟨b, _, e, q, KeyR.rpg.mpr rfl⟩
instance {α : Type} [Rp α] [KeyS α] : KeyT (T1 α) := ⟨fun x => KeyR.g x.row, fun x y h => by cases x; cases y; simpa [T1.row] using KeyR.inj _ _ h, keyR_rp⟩
instance {α β : Type} [Rp α] [Rp β] [KeyS α] [KeyS β] : KeyT (T2 α β) := ⟨fun x => KeyR.g x.row, fun x y h => by cases x; cases y; simpa [T2.row] using KeyR.inj _ _ h, keyR_rp⟩
instance {α β γ : Type} [Rp α] [Rp β] [Rp γ] [KeyS α] [KeyS β] [KeyS γ] : KeyT (T3 α β γ) := ⟨fun x => KeyR.g x.row, fun x y h => by cases x; cases y; simpa [T3.row] using KeyR.inj _ _ h, keyR_rp⟩
theorem keys_rps {α : Type} [Rp α] [KeyS α] {K : PySem.W.Frag} {F : Hp} : ∀ {vs : List V} {xs : List α}, Rps K F vs xs ↔ vs = (xs.map KeyS.g).map kV
  | [], [] => ⟨fun _ => rfl, fun _ => .nil⟩
  | [], _ :: _ => ⟨fun h => (by cases h), fun h => (by cases h)⟩
  | _ :: _, [] => ⟨fun h => (by cases h), fun h => (by cases h)⟩
  | v :: vs, x :: xs => by
    rw [List.map_cons, List.map_cons]
    constructor
    · intro h
      cases h with
      | cons r t => rw [KeyS.rpg.mp r, keys_rps.mp t]
    · intro h
      rw [List.cons.injEq] at h
      exact .cons (KeyS.rpg.mpr h.1) (keys_rps.mpr h.2)
instance {α : Type} [Rp α] [KeyS α] : KeyT (Tp α) := ⟨fun x => x.l.map KeyS.g, fun x y h => by
  cases x; cases y
  congr 1
  rename_i a b
  have : ∀ a b : List α, a.map KeyS.g = b.map KeyS.g → a = b := by
    intro a
    induction a with
    | nil => intro b h; cases b with
      | nil => rfl
      | cons _ _ => cases h
    | cons x r ih => intro b h; cases b with
      | nil => cases h
      | cons y s =>
        rw [List.map_cons, List.map_cons, List.cons.injEq] at h
        rw [KeyS.inj _ _ h.1, ih _ h.2]
  exact this a b h, by
  intro K F v k
  constructor
  · rintro ⟨b, vs, e, q, r⟩
    exact ⟨b, e, by rw [← keys_rps.mp r]; exact q⟩
  · rintro ⟨b, e, q⟩
    exact ⟨b, _, e, q, keys_rps.mpr rfl⟩⟩
/-! ### dicts as things -/
instance {κ ν : Type} [Rp κ] [DecidableEq κ] [DKey κ] [Rp ν] : Rp (Dct κ ν) := ⟨fun K F v d => ∃ a o kvs, v = .ref a ∧ F a = some (.frz o (DKey.hob kvs)) ∧ KR K F kvs d.l, fun s ⟨a, o, kvs, e, q, r⟩ => ⟨a, o, kvs, e, s _ _ q, r.mono s⟩⟩
instance {κ ν : Type} [Rp κ] [DecidableEq κ] [DKey κ] [Rp ν] : Ob (Dct κ ν) := ⟨fun K F o d => ∃ kvs, o = DKey.hob kvs ∧ KR K F kvs d.l, fun s ⟨kvs, e, r⟩ => ⟨kvs, e, r.mono s⟩, fun ⟨kvs, e, r⟩ => e ▸ DKey.mu kvs, fun ⟨kvs, e, r⟩ => e ▸ DKey.ls kvs,
  fun {K F o x l od} h ⟨kvs, e, r⟩ => ⟨l, od, kvs, rfl, e ▸ h, r⟩⟩
instance {κ ν : Type} [Rp κ] [DecidableEq κ] [DKey κ] [Rp ν] : NN (Dct κ ν) := ⟨fun ⟨_, _, _, e, _⟩ => nomatch e⟩
instance {κ ν : Type} [Rp κ] [DecidableEq κ] [DKey κ] [Rp ν] : Kd (Dct κ ν) := ⟨"dict", fun s ⟨a, o, kvs, e, q, r⟩ => e ▸ DKey.kd (.inr ⟨o, s _ _ q⟩)⟩
section
variable {κ ν : Type} [Rp κ] [DecidableEq κ] [DKey κ] [Rp ν]
variable {X : Cx} {K : PySem.W.Frag} {e a b c d : Expr} {es : List Expr} {σ : L2.St} {F H F0 H0 : Hp} {pos : Pos} {D : Ends} {st : Stmt} {rest body : List Stmt}
abbrev Dct.look (d : Dct κ ν) (k : κ) : Option ν := kvLook d.l k
abbrev Dct.put (d : Dct κ ν) (k : κ) (v : ν) : Dct κ ν := ⟨kvPut d.l k v⟩
abbrev Dct.drop (d : Dct κ ν) (k : κ) : Dct κ ν := ⟨kvDrop d.l k⟩
theorem en_dict : EvN X (.Dict [] [] pos) σ F H (Dct.mk ([] : List (κ × ν))) := fun F1 H1 g Q q =>
  GoE.of DKey.new fun p hp => EvN.newO q (.refl g.fh) hp ⟨[], rfl, .nil⟩
theorem ev_dget {m : Dct κ ν} {k : κ} {r : ν} (hu : X.A.units + 1 < cLine) (ha : Ev X a σ F H m) (hb : Ev X b σ F H k) (h : m.look k = some r) (hs : NoSl b := by exact fun _ _ => rfl) : Ev X (.Subscript a b pos) σ F H r := fun F1 H1 g Q q =>
  GoE.of (pe_dget hu pe_go pe_go hs) (ha F1 H1 g _ fun v F2 H2 g2 r2 => hb F2 H2 (g.trans g2) _ fun w F3 H3 g3 r3 => by
    obtain ⟨p, o, kvs, e, hq, kr⟩ := Rp.mono g3.ff r2
    rcases kr.look k with ⟨_, h2⟩ | ⟨v', x, h1, h2, h3⟩
    · rw [Dct.look, h2] at h; cases h
    · rw [Dct.look, h2] at h
      cases h
      exact ⟨p, v', e, h1 ▸ DKey.get g3.fh r3 (.inr ⟨o, g3.fh _ _ hq⟩), q v' F3 H3 (g2.trans g3) h3⟩)
theorem ev_din {m : Dct κ ν} {k : κ} (hu : X.A.units + 1 < cLine) (ha : Ev X a σ F H k) (hb : Ev X b σ F H m) (hmk : behindInMarks .In b = false := by rfl) : Ev X (.Compare a [.In] [b] pos) σ F H (m.look k).isSome := fun F1 H1 g Q q =>
  GoE.of (pe_cmp (pc_din hu pe_go pe_go) hmk) (ha F1 H1 g _ fun v F2 H2 g2 r2 => hb F2 H2 (g.trans g2) _ fun w F3 H3 g3 r3 => by
    obtain ⟨p, o, kvs, e, hq, kr⟩ := r3
    refine ⟨p, kvLook kvs k, e, DKey.get g3.fh (Rp.mono g3.ff r2) (.inr ⟨o, g3.fh _ _ hq⟩), q _ F3 H3 (g2.trans g3) ?_⟩
    rcases kr.look k with ⟨h1, h2⟩ | ⟨v', x, h1, h2, h3⟩ <;> (show V.bl _ = V.bl _) <;> rw [Dct.look, h1, h2] <;> rfl)
theorem et_din {m : Dct κ ν} {k : κ} (hu : X.A.units + 1 < cLine) (ha : Ev X a σ F H k) (hb : Ev X b σ F H m) (hmk : behindInMarks .In b = false := by rfl) : EvT X (.Compare a [.In] [b] pos) σ F H (m.look k).isSome := fun F1 H1 g Q q =>
  GoT.of (pt_cmp (pc_din hu pe_go pe_go) hmk) (ha F1 H1 g _ fun v F2 H2 g2 r2 => hb F2 H2 (g.trans g2) _ fun w F3 H3 g3 r3 => by
    obtain ⟨p, o, kvs, e, hq, kr⟩ := r3
    refine ⟨p, kvLook kvs k, e, DKey.get g3.fh (Rp.mono g3.ff r2) (.inr ⟨o, g3.fh _ _ hq⟩), (m.look k).isSome, ?_, q F3 H3 (g2.trans g3)⟩
    rcases kr.look k with ⟨h1, h2⟩ | ⟨v', x, h1, h2, h3⟩ <;> (show V.bl _ = V.bl _) <;> rw [Dct.look, h1, h2] <;> rfl)
theorem ev_dnotin {m : Dct κ ν} {k : κ} (hu : X.A.units + 1 < cLine) (ha : Ev X a σ F H k) (hb : Ev X b σ F H m) (hmk : behindInMarks .NotIn b = false := by rfl) : Ev X (.Compare a [.NotIn] [b] pos) σ F H (!(m.look k).isSome) := fun F1 H1 g Q q =>
  GoE.of (pe_cmp (pc_dnotin hu pe_go pe_go) hmk) (ha F1 H1 g _ fun v F2 H2 g2 r2 => hb F2 H2 (g.trans g2) _ fun w F3 H3 g3 r3 => by
    obtain ⟨p, o, kvs, e, hq, kr⟩ := r3
    refine ⟨p, kvLook kvs k, e, DKey.get g3.fh (Rp.mono g3.ff r2) (.inr ⟨o, g3.fh _ _ hq⟩), q _ F3 H3 (g2.trans g3) ?_⟩
    rcases kr.look k with ⟨h1, h2⟩ | ⟨v', x, h1, h2, h3⟩ <;> (show V.bl _ = V.bl _) <;> rw [Dct.look, h1, h2] <;> rfl)
theorem et_dnotin {m : Dct κ ν} {k : κ} (hu : X.A.units + 1 < cLine) (ha : Ev X a σ F H k) (hb : Ev X b σ F H m) (hmk : behindInMarks .NotIn b = false := by rfl) : EvT X (.Compare a [.NotIn] [b] pos) σ F H (!(m.look k).isSome) := fun F1 H1 g Q q =>
  GoT.of (pt_cmp (pc_dnotin hu pe_go pe_go) hmk) (ha F1 H1 g _ fun v F2 H2 g2 r2 => hb F2 H2 (g.trans g2) _ fun w F3 H3 g3 r3 => by
    obtain ⟨p, o, kvs, e, hq, kr⟩ := r3
    refine ⟨p, kvLook kvs k, e, DKey.get g3.fh (Rp.mono g3.ff r2) (.inr ⟨o, g3.fh _ _ hq⟩), !(m.look k).isSome, ?_, q F3 H3 (g2.trans g3)⟩
    rcases kr.look k with ⟨h1, h2⟩ | ⟨v', x, h1, h2, h3⟩ <;> (show V.bl _ = V.bl _) <;> rw [Dct.look, h1, h2] <;> rfl)
theorem ev_dget1 [NN ν] {m : Dct κ ν} {k : κ} {apos : Pos} (hu : X.A.units + 1 < cLine) (ha : Ev X a σ F H m) (hb : Ev X b σ F H k) (hm : M1 X a "get" apos b pos := by exact ⟨rfl, rfl, rfl, rfl⟩) : Ev X (.Call (.Attribute a "get" apos) [b] [] pos) σ F H (m.look k) := fun F1 H1 g Q q =>
  GoE.of (pe_dget1 hu pe_go pe_go hm) (ha F1 H1 g _ fun v F2 H2 g2 r2 => by
    obtain ⟨p, o, kvs, e, hq, kr⟩ := id r2
    refine ⟨p, e, DKey.isD (.inr ⟨o, g2.fh _ _ hq⟩), hb F2 H2 (g.trans g2) _ fun w F3 H3 g3 r3 => ⟨kvLook kvs k, DKey.get g3.fh r3 (.inr ⟨o, g3.fh _ _ (g3.ff _ _ hq)⟩), q _ F3 H3 (g2.trans g3) ?_⟩⟩
    rcases kr.look k with ⟨h1, h2⟩ | ⟨v', x, h1, h2, h3⟩
    · rw [Dct.look, h1, h2]; rfl
    · rw [Dct.look, h1, h2]; exact Rp.mono (α := ν) g3.ff h3)
theorem ev_dget2 {m : Dct κ ν} {k : κ} {z : ν} {apos : Pos} (hu : X.A.units + 1 < cLine) (ha : Ev X a σ F H m) (hb : Ev X b σ F H k) (hc : Ev X c σ F H z) (hm : M2 X a "get" apos b c pos := by exact ⟨rfl, rfl, rfl, rfl⟩) : Ev X (.Call (.Attribute a "get" apos) [b, c] [] pos) σ F H ((m.look k).getD z) := fun F1 H1 g Q q =>
  GoE.of (pe_dget2 hu pe_go pe_go pe_go hm) (ha F1 H1 g _ fun v F2 H2 g2 r2 => by
    obtain ⟨p, o, kvs, e, hq, kr⟩ := id r2
    refine ⟨p, e, DKey.isD (.inr ⟨o, g2.fh _ _ hq⟩), hb F2 H2 (g.trans g2) _ fun w F3 H3 g3 r3 => hc F3 H3 ((g.trans g2).trans g3) _ fun u F4 H4 g4 r4 => ⟨kvLook kvs k, DKey.get g4.fh (Rp.mono g4.ff r3) (.inr ⟨o, g4.fh _ _ (g4.ff _ _ (g3.ff _ _ hq))⟩), q _ F4 H4 ((g2.trans g3).trans g4) ?_⟩⟩
    rcases kr.look k with ⟨h1, h2⟩ | ⟨v', x, h1, h2, h3⟩
    · rw [Dct.look, h1, h2]; exact r4
    · rw [Dct.look, h1, h2]; exact Rp.mono (α := ν) (g3.ff.trans g4.ff) h3)
/-- d[k] = v, d a private dict -/
def dputG (m : Dct κ ν) (k : κ) (v : ν) : Option (Dct κ ν) := if m.l.length < sizeLine then some (m.put k v) else none
theorem dputG_of {m r : Dct κ ν} {k : κ} {v : ν} (h : dputG m k v = some r) : m.l.length < sizeLine ∧ m.put k v = r := by
  unfold dputG at h; split at h
  · exact ⟨by assumption, Option.some.inj h⟩
  · cases h
theorem go_dput {m r : Dct κ ν} {k : κ} {x : ν} {l : Addr} {n : Str} {p1 p2 : Pos} (i : Nat) (s : SmX X.K F H) (hu : X.A.units + 1 < cLine) (o : Own X.K H0 F H l m) (hσ : σ[i]? = some (some (.ref l))) (hv : Ev X e σ F H x) (hk : Ev X b σ F H k) (h : dputG m k x = some r)
    (q : ∀ u F' H', Gr F H F' H' → PlAt H' l → F' l = none → Own X.K H0 F' (upd H' l u) l r → GoS X rest D σ (upd H' l u)) (hN : X.N[i]? = some n := by rfl) (hvis : Vis X.env.scope n := by first | exact Or.inl rfl | exact Or.inr (Or.inl rfl) | exact Or.inr (Or.inr rfl))
    (hd : (n == ("__debug__" : Str)) = false := by decide) (hcd : (n == ("__classdict__" : Str)) = false := by decide) (hs : NoSl b := by exact fun _ _ => rfl) (hsw : swapsWith e (some (.Subscript (.Name n p1) b p2)) pos.line X.env = pure false := by rfl) :
    GoS X (.Assign [.Subscript (.Name n p1) b p2] e pos :: rest) D σ H := by
  obtain ⟨hl, rfl⟩ := dputG_of h
  refine GoS.cons (ps_dput hu (pe_var hN hvis hd hcd) pe_go pe_go hsw) (hv F H (.refl s) _ fun v F2 H2 g2 r2 => ⟨_, hσ, hk F2 H2 (s.gx g2) _ fun w F3 H3 g3 r3 => ?_⟩)
  have o3 := (o.up g2).up g3
  obtain ⟨_, h3, kvs, rfl, kr⟩ := o3.h
  have hlen : kvs.length = m.l.length := Paired.length kr
  exact ⟨l, _, rfl, DKey.put g3.fh r3 h3 (by rw [hlen]; exact hl), q _ F3 H3 (g2.trans g3) o3.pl o3.f (Own.set o3.n o3.f ⟨_, rfl, kr.put (Rp.mono g3.ff r2)⟩)⟩
end
end Gx

/-! Gg: dicts, further. -/
namespace Gx
open PySem PySem.Spec PyProof.Rows L2
open Rp (rp)
open Ra (ra)
open Ob (ob)
theorem KR.fl {κ ν : Type} [Rp ν] [Flat ν] {K : PySem.W.Frag} {F : Hp} {l : Addr} {kvs : List (κ × V)} {m : List (κ × ν)} (h1 : ∀ xs, ¬ F l = some (.tup xs)) (h2 : ∀ o xs, ¬ F l = some (.frz o (.tup xs))) (h : KR K F kvs m) : KR K (er F l) kvs m := Paired.mapP h fun _ _ ⟨e, r⟩ => ⟨e, Flat.fl h1 h2 r⟩
instance {κ ν : Type} [Rp κ] [DecidableEq κ] [DKey κ] [Rp ν] [Flat ν] : FlatO (Dct κ ν) := ⟨fun h1 h2 ⟨kvs, e, r⟩ => ⟨kvs, e, KR.fl h1 h2 r⟩⟩
instance {α : Type} [Rp α] [Flat α] : Flat (Tn α) := ⟨fun {K F l v x} h1 h2 ⟨a, vs, o, e, q, d, c, r⟩ => ⟨a, vs, o, e, by unfold er; rw [if_neg (show ¬ a = l from fun z => h2 o vs (z ▸ q))]; exact q, d, c, Rps.fl h1 h2 r⟩⟩
instance {α : Type} [Rp α] [Pd α] : Pd (Tn α) := ⟨fun xs => .tuple (xs.l.map Pd.toD), fun ⟨a, vs, o, e, sq, _, _, rs⟩ => e ▸ .tup (.inl (.inr ⟨o, sq⟩)) (Dp.all rs), fun x y => by
  rw [PyData.eqv]
  cases x; cases y
  rw [eqvAll_iff, Tn.mk.injEq]⟩
instance {α : Type} [Rp α] [Pd α] [PdS α] : PdS (Tn α) := ⟨PdS.dep α + 1, fun x => by
  show (PyData.depthAll (x.l.map Pd.toD)) + 1 ≤ _
  exact Nat.succ_le_succ (dpAll_le x.l)⟩
instance {α : Type} [Rp α] [Pd α] [PdF α] : PdF (Tn α) := ⟨fun x => layAll fun y _ => PdF.ok y⟩
section
variable {κ ν : Type} [Rp κ] [DecidableEq κ] [Rp ν]
variable {X : Cx} {K : PySem.W.Frag} {e a b c d : Expr} {es : List Expr} {σ : L2.St} {F H F0 H0 : Hp} {pos : Pos} {D : Ends} {st : Stmt} {rest body : List Stmt}
def Dct.keys (m : Dct κ ν) : List κ := m.l.map (·.1)
def Dct.vals (m : Dct κ ν) : List ν := m.l.map (·.2)
def Dct.items (m : Dct κ ν) : List (T2 κ ν) := m.l.map fun p => ⟨p.1, p.2⟩
theorem KR.get : ∀ {kvs : List (κ × V)} {l : List (κ × ν)} {i : Nat} {p : κ × ν}, KR K F kvs l → l[i]? = some p → ∃ v, kvs[i]? = some (p.1, v) ∧ rp K F v p.2
  | _, _, _, _, .nil, h => by simp at h
  | _, _, 0, p, .cons (a := q) ⟨e, r⟩ _, h => by
    simp at h; subst h
    exact ⟨q.2, by rw [← e]; simp, r⟩
  | _, _, i + 1, p, .cons _ t, h => by
    obtain ⟨v, h1, h2⟩ := KR.get t (by simpa using h)
    exact ⟨v, by simpa using h1, h2⟩
theorem same_tup {q : Addr} {xs : List V} (s : L2.Same F H) (h : H q = some (.tup xs)) : ∃ F', Gr F H F' H ∧ F' q = some (.tup xs) := by
  cases e : F q with
  | some u =>
    have := s _ _ e
    rw [h] at this; cases this
    exact ⟨F, .refl s, e⟩
  | none =>
    refine ⟨upd F q (.tup xs), ⟨same_upd e, fun b u z => ?_, .refl _, fun x o hx n => ?_⟩, upd_same⟩
    · by_cases hb : b = q
      · subst hb; rw [upd_same] at z; cases z; exact h
      · rw [upd_ne hb] at z; exact s _ _ z
    · by_cases hb : x = q
      · subst hb; rw [h] at hx; cases hx; exact n.elim
      · rw [upd_ne hb]
theorem ei_keysS [KeyS κ] {m : Dct κ ν} {tg : Expr} (h : Ev X e σ F H m) : EvI X tg e σ F H m.keys := fun F1 H1 g R q =>
  GoI.of (pi_keys pe_go) (h F1 H1 g _ fun v F2 H2 g2 r2 => by
    obtain ⟨p, o, kvs, e, hq, kr⟩ := r2
    refine ⟨p, o, e, .inl ⟨_, g2.fh _ _ hq, q _ F2 H2 g2 fun i Fi Hi s1 s2 => ?_⟩⟩
    have hd := s2 _ _ (s1 _ _ hq)
    have hl : kvs.length = m.l.length := Paired.length kr
    refine ⟨fun x hx => ?_, fun e => ⟨hd, by rw [e, kvm_len, hl, Dct.keys, List.length_map]; exact Nat.le_refl _⟩⟩
    rw [Dct.keys, List.getElem?_map] at hx
    obtain ⟨pr, hpr, rfl⟩ := Option.map_eq_some_iff.mp hx
    obtain ⟨w, hw, _⟩ := kr.get hpr
    have hk : (kvm KeyS.g kvs)[i]? = some (KeyS.g pr.1, w) := by rw [kvm, List.getElem?_map, hw]; rfl
    refine ⟨⟨hd, (List.getElem?_eq_some_iff.mp hk).1⟩, fun v H' ⟨e1, k, v', e2, e3⟩ => ?_⟩
    subst e1
    rw [hk] at e2; cases e2
    exact ⟨Fi, .refl s2, KeyS.rpg.mpr e3⟩)
theorem ei_keysT [KeyT κ] {m : Dct κ ν} {tg : Expr} (h : Ev X e σ F H m) : EvI X tg e σ F H m.keys := fun F1 H1 g R q =>
  GoI.of (pi_keys pe_go) (h F1 H1 g _ fun v F2 H2 g2 r2 => by
    obtain ⟨p, o, kvs, e, hq, kr⟩ := r2
    refine ⟨p, o, e, .inr ⟨_, g2.fh _ _ hq, q _ F2 H2 g2 fun i Fi Hi s1 s2 => ?_⟩⟩
    have hd := s2 _ _ (s1 _ _ hq)
    have hl : kvs.length = m.l.length := Paired.length kr
    refine ⟨fun x hx => ?_, fun e => ⟨hd, by rw [e, kvm_len, hl, Dct.keys, List.length_map]; exact Nat.le_refl _⟩⟩
    rw [Dct.keys, List.getElem?_map] at hx
    obtain ⟨pr, hpr, rfl⟩ := Option.map_eq_some_iff.mp hx
    obtain ⟨w, hw, _⟩ := kr.get hpr
    have hk : (kvm KeyT.g kvs)[i]? = some (KeyT.g pr.1, w) := by rw [kvm, List.getElem?_map, hw]; rfl
    refine ⟨⟨hd, (List.getElem?_eq_some_iff.mp hk).1⟩, fun v H' ⟨e1, k, v', qa, e2, e3, e4⟩ => ?_⟩
    subst e1
    rw [hk] at e2; cases e2
    obtain ⟨F', g', hF⟩ := same_tup s2 e4
    exact ⟨F', g', KeyT.rpg.mpr ⟨qa, e3, hF⟩⟩)
theorem ei_vals [KeyS κ] {m : Dct κ ν} {tg : Expr} {apos : Pos} (h : Ev X e σ F H m) (hbase : attributeBase e "values" X.env (eval e X.env) = eval e X.env := by rfl) (hline : (apos.endLine == pos.line) = true := by rfl) : EvI X tg (.Call (.Attribute e "values" apos) [] [] pos) σ F H m.vals := fun F1 H1 g R q =>
  GoI.of (pi_values pe_go hbase hline) (h F1 H1 g _ fun v F2 H2 g2 r2 => by
    obtain ⟨p, o, kvs, e, hq, kr⟩ := r2
    refine ⟨p, o, _, e, g2.fh _ _ hq, q _ F2 H2 g2 fun i Fi Hi s1 s2 => ?_⟩
    have hd := s2 _ _ (s1 _ _ hq)
    have hl : kvs.length = m.l.length := Paired.length kr
    refine ⟨fun x hx => ?_, fun e => ⟨hd, by rw [e, kvm_len, hl, Dct.vals, List.length_map]; exact Nat.le_refl _⟩⟩
    rw [Dct.vals, List.getElem?_map] at hx
    obtain ⟨pr, hpr, rfl⟩ := Option.map_eq_some_iff.mp hx
    obtain ⟨w, hw, rw'⟩ := kr.get hpr
    have hk : (kvm KeyS.g kvs)[i]? = some (KeyS.g pr.1, w) := by rw [kvm, List.getElem?_map, hw]; rfl
    refine ⟨⟨hd, (List.getElem?_eq_some_iff.mp hk).1⟩, fun v H' ⟨e1, k, e2⟩ => ?_⟩
    subst e1
    rw [hk] at e2; cases e2
    exact ⟨Fi, .refl s2, Rp.mono s1 rw'⟩)
theorem ei_items [KeyS κ] {m : Dct κ ν} {apos tpos : Pos} {elts : List Expr} {kk : Nat} (h : Ev X e σ F H m) (hbase : attributeBase e "items" X.env (eval e X.env) = eval e X.env := by rfl) (hline : (apos.endLine == pos.line) = true := by rfl) : EvI X (.Tuple elts kk tpos) (.Call (.Attribute e "items" apos) [] [] pos) σ F H m.items := fun F1 H1 g R q =>
  GoI.of (pi_items pe_go hbase hline) (h F1 H1 g _ fun v F2 H2 g2 r2 => by
    obtain ⟨p, o, kvs, e, hq, kr⟩ := r2
    refine ⟨p, o, _, e, g2.fh _ _ hq, q _ F2 H2 g2 fun i Fi Hi s1 s2 => ?_⟩
    have hd := s2 _ _ (s1 _ _ hq)
    have hl : kvs.length = m.l.length := Paired.length kr
    refine ⟨fun x hx => ?_, fun e => ⟨hd, by rw [e, kvm_len, hl, Dct.items, List.length_map]; exact Nat.le_refl _⟩⟩
    rw [Dct.items, List.getElem?_map] at hx
    obtain ⟨pr, hpr, rfl⟩ := Option.map_eq_some_iff.mp hx
    obtain ⟨w, hw, rw'⟩ := kr.get hpr
    have hk : (kvm KeyS.g kvs)[i]? = some (KeyS.g pr.1, w) := by rw [kvm, List.getElem?_map, hw]; rfl
    refine ⟨⟨hd, (List.getElem?_eq_some_iff.mp hk).1⟩, fun v H' ⟨T, k, v', e2, e3, e4, e5⟩ => ?_⟩
    subst e3; subst e5
    rw [hk] at e2; cases e2
    exact pair_new s2 e4 (KeyS.rpg.mpr rfl) (Rp.mono s1 rw'))
theorem en_dictOf [KeyS κ] {m : Dct κ ν} {p : Pos} (hm : X.mg "dict" = none) (ha : Ev X a σ F H m) (hg : Gl X "dict" := by rfl) (hs : starEach [a] X.env = (false, eval a X.env) :: starEach [] X.env := by rfl) (hpl : (backTo pos (starEach [] X.env)).any (·.1) = false := by rfl) :
    EvN X (.Call (.Name "dict" p) [a] [] pos) σ F H m := fun F1 H1 g Q q =>
  GoE.of (pe_callTy call_dictD hg hm (by decide +kernel) (pa_cons pe_go pa_nil hs) (by decide) (by decide) hs hpl) (ha F1 H1 g _ fun v F2 H2 g2 r2 => by
    obtain ⟨p, o, kvs, e, hq, kr⟩ := r2
    exact ⟨p, _, by rw [e], .inr ⟨o, g2.fh _ _ hq⟩, fun p' hp => EvN.newO q g2 hp ⟨kvs, rfl, kr⟩⟩)
/-! ### dicts that are equal -/
def rEqR : R2 := fun x y H Q => ∃ a b ks ls, x = .ref a ∧ y = .ref b ∧ Rd H a (.dK ks) ∧ Rd H b (.dK ls) ∧ ks.length = ls.length ∧ (∀ p ∈ ks, valV ls p.1 = some p.2 ∧ flatB p.2 = true) ∧ Q (.bl true) H
def rNeR : R2 := fun x y H Q => ∃ a b ks ls, x = .ref a ∧ y = .ref b ∧ Rd H a (.dK ks) ∧ Rd H b (.dK ls) ∧ ks.length = ls.length ∧ (∀ p ∈ ks, valV ls p.1 = some p.2 ∧ flatB p.2 = true) ∧ Q (.bl false) H
theorem op_eqR (hu : X.A.units < cLine) : OpR X (compareOp .Eq) rEqR := fun pins s σ H x y v u Q I rx ry h => by
  obtain ⟨a, b, ks, ls, rfl, rfl, ea, eb, hlen, hp, q⟩ := h
  cases rx; cases ry
  obtain ⟨_, n1, m1, r1, d1⟩ := ea.ok I.hok
  obtain ⟨_, n2, m2, r2, d2⟩ := eb.ok I.hok
  have e : m1.length = m2.length := by rw [← Paired.length r1, ← Paired.length r2]; exact hlen
  exact PySem.W.keq_eq (knd := mixKind X.prog X.w) (r := true) n1 n2 d1 d2 hu (fun _ => hits_all r2 r1 hp) (fin_bl I q (by simp [e]))
theorem op_neR (hu : X.A.units < cLine) : OpR X (compareOp .NotEq) rNeR := fun pins s σ H x y v u Q I rx ry h => by
  obtain ⟨a, b, ks, ls, rfl, rfl, ea, eb, hlen, hp, q⟩ := h
  cases rx; cases ry
  obtain ⟨_, n1, m1, r1, d1⟩ := ea.ok I.hok
  obtain ⟨_, n2, m2, r2, d2⟩ := eb.ok I.hok
  have e : m1.length = m2.length := by rw [← Paired.length r1, ← Paired.length r2]; exact hlen
  exact PySem.W.keq_ne (knd := mixKind X.prog X.w) (r := true) n1 n2 d1 d2 hu (fun _ => hits_all r2 r1 hp) (fin_bl I q (by simp [e]))
theorem flat_kV (k : Key) : flatB (kV k) = true := by cases k <;> rfl
variable [KeyS κ] [KeyS ν] [DecidableEq ν]
def Dct.alike (m n : Dct κ ν) : Prop := m.l.length = n.l.length ∧ ∀ p ∈ m.l, kvLook n.l p.1 = some p.2
instance (m n : Dct κ ν) : Decidable (m.alike n) := inferInstanceAs (Decidable (_ ∧ _))
def deqG (m n : Dct κ ν) : Option Bool := if m.alike n then some true else none
theorem KR.mem {kvs : List (κ × V)} {l : List (κ × ν)} {q : κ × V} (h : KR K F kvs l) (hq : q ∈ kvs) : ∃ p ∈ l, p.1 = q.1 ∧ rp K F q.2 p.2 := by
  induction h with
  | nil => cases hq
  | cons r t ih =>
    rcases List.mem_cons.mp hq with e | hq
    · subst e; exact ⟨_, List.mem_cons_self, r.1.symm, r.2⟩
    · obtain ⟨p, h1, h2⟩ := ih hq
      exact ⟨p, List.mem_cons_of_mem _ h1, h2⟩
theorem alike_vals {m n : Dct κ ν} {ks ls : List (κ × V)} (h : m.alike n) (h1 : KR K F ks m.l) (h2 : KR K F ls n.l) : ∀ p ∈ kvm KeyS.g ks, valV (kvm KeyS.g ls) p.1 = some p.2 ∧ flatB p.2 = true := fun p hp => by
  obtain ⟨q, hq, rfl⟩ := List.mem_map.mp hp
  obtain ⟨r, hr, e, hv⟩ := h1.mem hq
  have h3 := h.2 r hr
  rw [kvm_val KeyS.inj]
  rcases h2.look q.1 with ⟨_, h5⟩ | ⟨v, x, h4, h5, h6⟩
  · rw [e] at h3; rw [h5] at h3; cases h3
  · rw [e] at h3; rw [h5] at h3; cases h3
    rw [h4]
    have e1 := KeyS.rpg.mp h6
    have e2 := KeyS.rpg.mp hv
    refine ⟨?_, ?_⟩
    · show some v = some q.2
      rw [e1, e2]
    · show flatB q.2 = true
      rw [e2]; exact flat_kV _
theorem o2_eqR {m n : Dct κ ν} {r : Bool} (h : deqG m n = some r) : Op2 K rEqR m n r := fun F H v w Q s rv rw' k => by
  unfold deqG at h
  split at h
  case isFalse => cases h
  rename_i ha
  obtain ⟨a, o, ks, e, hq, kr⟩ := rv
  obtain ⟨a', o', ls, e', hq', kr'⟩ := rw'
  have l1 : ks.length = m.l.length := Paired.length kr
  have l2 : ls.length = n.l.length := Paired.length kr'
  exact ⟨a, a', _, _, e, e', .inr ⟨o, s _ _ hq⟩, .inr ⟨o', s _ _ hq'⟩, by rw [kvm_len, kvm_len, l1, l2]; exact ha.1, alike_vals ha kr kr', k _ F H (.refl s) (congrArg V.bl (Option.some.inj h))⟩
theorem o2_neR {m n : Dct κ ν} {r : Bool} (h : deqG m n = some r) : Op2 K rNeR m n (!r) := fun F H v w Q s rv rw' k => by
  unfold deqG at h
  split at h
  case isFalse => cases h
  rename_i ha
  obtain ⟨a, o, ks, e, hq, kr⟩ := rv
  obtain ⟨a', o', ls, e', hq', kr'⟩ := rw'
  have l1 : ks.length = m.l.length := Paired.length kr
  have l2 : ls.length = n.l.length := Paired.length kr'
  exact ⟨a, a', _, _, e, e', .inr ⟨o, s _ _ hq⟩, .inr ⟨o', s _ _ hq'⟩, by rw [kvm_len, kvm_len, l1, l2]; exact ha.1, alike_vals ha kr kr', k _ F H (.refl s) (congrArg (fun t => V.bl (!t)) (Option.some.inj h))⟩
end
section
theorem room1 {k : Nat} {A : Around} (r : Room k A) : A.units + 1 < cLine := by have := r.un; omega
theorem room65 {k : Nat} {A : Around} (r : Room k A) : A.units + 65 < cLine := by have := r.un; omega
variable {α : Type} [Rp α] {X : Cx} {K : PySem.W.Frag} {e a b c d : Expr} {es : List Expr} {σ : L2.St} {F H F0 H0 : Hp} {pos : Pos}
theorem Ev.re {β : Type} [Rp β] {x : α} {y : β} (h : Ev X e σ F H x) (f : ∀ (F : Hp) (v : V), rp X.K F v x → rp X.K F v y) : Ev X e σ F H y := fun F1 H1 g Q q => h F1 H1 g Q fun v F2 H2 g2 r => q v F2 H2 g2 (f _ _ r)
theorem tp1 {F : Hp} {v : V} {x : T1 α} (h : rp K F v x) : rp K F v (Tp.mk [x.a]) := by
  obtain ⟨p, vs, e, q, v1, w1, e1, r1, e2⟩ := h
  have e2 : w1 = [] := e2
  subst e2; subst e1
  exact ⟨p, _, e, q, .cons r1 .nil⟩
theorem tp2 {F : Hp} {v : V} {x : T2 α α} (h : rp K F v x) : rp K F v (Tp.mk [x.a, x.b]) := by
  obtain ⟨p, vs, e, q, v1, w1, e1, r1, v2, w2, e2, r2, e3⟩ := h
  have e3 : w2 = [] := e3
  subst e3; subst e2; subst e1
  exact ⟨p, _, e, q, .cons r1 (.cons r2 .nil)⟩
theorem tp3 {F : Hp} {v : V} {x : T3 α α α} (h : rp K F v x) : rp K F v (Tp.mk [x.a, x.b, x.c]) := by
  obtain ⟨p, vs, e, q, v1, w1, e1, r1, v2, w2, e2, r2, v3, w3, e3, r3, e4⟩ := h
  have e4 : w3 = [] := e4
  subst e4; subst e3; subst e2; subst e1
  exact ⟨p, _, e, q, .cons r1 (.cons r2 (.cons r3 .nil))⟩
theorem tp4 {F : Hp} {v : V} {x : T4 α α α α} (h : rp K F v x) : rp K F v (Tp.mk [x.a, x.b, x.c, x.d]) := by
  obtain ⟨p, vs, e, q, v1, w1, e1, r1, v2, w2, e2, r2, v3, w3, e3, r3, v4, w4, e4, r4, e5⟩ := h
  have e5 : w4 = [] := e5
  subst e5; subst e4; subst e3; subst e2; subst e1
  exact ⟨p, _, e, q, .cons r1 (.cons r2 (.cons r3 (.cons r4 .nil)))⟩
theorem tp5 {F : Hp} {v : V} {x : T5 α α α α α} (h : rp K F v x) : rp K F v (Tp.mk [x.a, x.b, x.c, x.d, x.e]) := by
  obtain ⟨p, vs, e, q, v1, w1, e1, r1, v2, w2, e2, r2, v3, w3, e3, r3, v4, w4, e4, r4, v5, w5, e5, r5, e6⟩ := h
  have e6 : w5 = [] := e6
  subst e6; subst e5; subst e4; subst e3; subst e2; subst e1
  exact ⟨p, _, e, q, .cons r1 (.cons r2 (.cons r3 (.cons r4 (.cons r5 .nil))))⟩
theorem Ev.tp1 {x : T1 α} (h : Ev X e σ F H x) : Ev X e σ F H (Tp.mk [x.a]) := h.re fun _ _ => Gx.tp1
theorem Ev.tp2 {x : T2 α α} (h : Ev X e σ F H x) : Ev X e σ F H (Tp.mk [x.a, x.b]) := h.re fun _ _ => Gx.tp2
theorem Ev.tp3 {x : T3 α α α} (h : Ev X e σ F H x) : Ev X e σ F H (Tp.mk [x.a, x.b, x.c]) := h.re fun _ _ => Gx.tp3
theorem Ev.tp4 {x : T4 α α α α} (h : Ev X e σ F H x) : Ev X e σ F H (Tp.mk [x.a, x.b, x.c, x.d]) := h.re fun _ _ => Gx.tp4
theorem Ev.tp5 {x : T5 α α α α α} (h : Ev X e σ F H x) : Ev X e σ F H (Tp.mk [x.a, x.b, x.c, x.d, x.e]) := h.re fun _ _ => Gx.tp5
end
end Gx
namespace Gx
open PySem PySem.Spec PyProof.Rows L2
open Rp (rp)
open Ra (ra)
open Ob (ob)
section
variable {κ ν : Type} [Rp κ] [DecidableEq κ] [KeyS κ] [Rp ν]
variable {X : Cx} {K : PySem.W.Frag} {e a b c d : Expr} {σ : L2.St} {F H F0 H0 : Hp} {pos : Pos} {ks : List (Option Expr)} {vs : List Expr}
/-! ### displays of dicts -/
abbrev PR (K : PySem.W.Frag) (F : Hp) : List (V × V) → List (κ × ν) → Prop := Paired fun p q => rp K F p.1 q.1 ∧ rp K F p.2 q.2
theorem PR.mono {F' : Hp} {ps : List (V × V)} {l : List (κ × ν)} (s : L2.Same F F') (h : PR K F ps l) : PR K F' ps l := Paired.mapP h fun _ _ ⟨e, r⟩ => ⟨Rp.mono s e, Rp.mono s r⟩
def EvP (X : Cx) (pos : Pos) (ks : List (Option Expr)) (vs : List Expr) (σ : L2.St) (F H : Hp) (l : List (κ × ν)) : Prop := ∃ trs, PPs X pos ks vs trs ∧ ∀ F1 H1, GrX X.K F H F1 H1 → ∀ Q : List (V × V) → Hp → Prop, (∀ ps F2 H2, Gr F1 H1 F2 H2 → PR X.K F2 ps l → Q ps H2) → tPairs trs σ H1 Q
theorem ep_nil : EvP X pos [] [] σ F H ([] : List (κ × ν)) := ⟨[], pps_nil, fun F1 H1 g Q q => q [] F1 H1 (.refl g.fh) .nil⟩
theorem ep_cons {k : κ} {x : ν} {l : List (κ × ν)} (ha : Ev X a σ F H k) (hb : Ev X b σ F H x) (hr : EvP X pos ks vs σ F H l) : EvP X pos (some a :: ks) (b :: vs) σ F H ((k, x) :: l) := by
  obtain ⟨trs, h1, h2⟩ := hr
  exact ⟨_, pps_cons pe_go pe_go h1, fun F1 H1 g Q q => ha F1 H1 g _ fun v F2 H2 g2 r2 => hb F2 H2 (g.trans g2) _ fun w F3 H3 g3 r3 => h2 F3 H3 ((g.trans g2).trans g3) _ fun ps F4 H4 g4 r4 =>
    q _ F4 H4 ((g2.trans g3).trans g4) (.cons ⟨Rp.mono (g3.ff.trans g4.ff) r2, Rp.mono g4.ff r3⟩ r4)⟩
def kvMerge (l : List (κ × ν)) : List (κ × ν) := l.foldl (fun acc p => kvPut acc p.1 p.2) []
theorem pr_kv {ps : List (V × V)} {l : List (κ × ν)} (h : PR K F ps l) : ∃ ws : List (κ × V), KR K F ws l ∧ ps = (kvm KeyS.g ws).map fun kv => (kV kv.1, kv.2) := by
  induction h with
  | nil => exact ⟨[], .nil, rfl⟩
  | @cons p q ps l r t ih =>
    obtain ⟨ws, h1, h2⟩ := ih
    refine ⟨(q.1, p.2) :: ws, .cons ⟨rfl, r.2⟩ h1, ?_⟩
    rw [h2]
    show p :: _ = (kV (KeyS.g q.1), p.2) :: _
    rw [← KeyS.rpg.mp r.1]
theorem mergeK_kvm : ∀ (ws acc : List (κ × V)), mergeK (kvm KeyS.g acc) (kvm KeyS.g ws) = kvm KeyS.g (ws.foldl (fun acc p => kvPut acc p.1 p.2) acc)
  | [], acc => rfl
  | p :: r, acc => by
    rw [List.foldl_cons, ← mergeK_kvm r, ← kvm_put KeyS.inj]; rfl
theorem KR.merge : ∀ {ws : List (κ × V)} {l : List (κ × ν)} {acc : List (κ × V)} {acc' : List (κ × ν)}, KR K F ws l → KR K F acc acc' → KR K F (ws.foldl (fun acc p => kvPut acc p.1 p.2) acc) (l.foldl (fun acc p => kvPut acc p.1 p.2) acc')
  | _, _, _, _, .nil, h => h
  | _, _, _, _, .cons (a := p) (b := q) ⟨e, r⟩ t, h => by
    rw [List.foldl_cons, List.foldl_cons, e]
    exact KR.merge t (h.put r)
theorem en_disp {l : List (κ × ν)} (h : EvP X pos ks vs σ F H l) (h15 : l.length ≤ 15) (hall : ks.all (·.isSome) = true := by rfl) (hl : ks.length = vs.length := by rfl) (h0 : ks ≠ [] := by exact fun h => nomatch h) (hk : ks.length ≤ 15 := by decide) : EvN X (.Dict ks vs pos) σ F H (Dct.mk (kvMerge l)) := fun F1 H1 g Q q => by
  obtain ⟨trs, h1, h2⟩ := h
  refine GoE.of (pe_disp h1 hall hl h0 hk) fun p hp => ?_
  have gp := Gr.newP (o := .dK []) g.fh hp trivial
  refine h2 F1 _ (g.trans gp) _ fun ps F2 H2 g2 r2 => ?_
  obtain ⟨ws, k1, k2⟩ := pr_kv r2
  have hlen : ws.length = l.length := Paired.length k1
  have hp2 : H2 p = some (.dK []) := g2.hh.k _ _ upd_same trivial
  refine ⟨hp2, kvm KeyS.g ws, k2, by rw [kvm_len, hlen]; exact h15, ?_⟩
  have f2 : F2 p = none := (g2.fr p _ upd_same trivial).trans (g.fh.free hp)
  refine q p _ F2 _ ((gp.trans g2).poke hp f2 ⟨_, hp2, trivial⟩ (by unfold ntb; trivial)) hp f2 upd_same ⟨_, congrArg HO.dK (mergeK_kvm ws []), KR.merge k1 .nil⟩
end
end Gx
namespace Gx
open PySem PySem.Spec PyProof.Rows L2
open Rp (rp)
section
variable {X : Cx} {K : PySem.W.Frag} {a b : Expr} {σ : L2.St} {F H : Hp} {pos : Pos} {α : Type} [Rp α]
theorem ipos {α : Type} {c : Prop} [Decidable c] {x y r : α} (h : c) (e : (if c then x else y) = r) : x = r := by rw [if_pos h] at e; exact e
theorem ineg {α : Type} {c : Prop} [Decidable c] {x y r : α} (h : ¬ c) (e : (if c then x else y) = r) : y = r := by rw [if_neg h] at e; exact e
theorem btf {b : Bool} (h1 : b = true) (h2 : b = false) : False := by rw [h1] at h2; cases h2
theorem rp_of_some [NN α] {v : V} {x : α} (h : rp (α := Option α) K F v (some x)) : rp K F v x := h
variable [Pd α] [DecidableEq α]
theorem ev_eqD {x y : α} {r : Bool} (ha : Ev X a σ F H x) (hb : Ev X b σ F H y) (h : eqG x y = some r) (hu : X.A.units + 64 < cLine) : Ev X (.Compare a [.Eq] [b] pos) σ F H r := ev_cmp (op_eqD hu) (o2_eqD h) ha hb (nomark _)
theorem ev_neD {x y : α} {r : Bool} (ha : Ev X a σ F H x) (hb : Ev X b σ F H y) (h : eqG x y = some r) (hu : X.A.units + 64 < cLine) : Ev X (.Compare a [.NotEq] [b] pos) σ F H (!r) := ev_cmp (op_neD hu) (o2_neD h) ha hb (nomark _)
theorem et_eqD {x y : α} {r : Bool} (ha : Ev X a σ F H x) (hb : Ev X b σ F H y) (h : eqG x y = some r) (hu : X.A.units + 64 < cLine) : EvT X (.Compare a [.Eq] [b] pos) σ F H r := et_cmp (op_eqD hu) (o2_eqD h) ha hb (nomark _)
theorem et_neD {x y : α} {r : Bool} (ha : Ev X a σ F H x) (hb : Ev X b σ F H y) (h : eqG x y = some r) (hu : X.A.units + 64 < cLine) : EvT X (.Compare a [.NotEq] [b] pos) σ F H (!r) := et_cmp (op_neD hu) (o2_neD h) ha hb (nomark _)
theorem ev_inD {x : α} {y : List α} {r : Bool} (ha : Ev X a σ F H x) (hb : Ev X b σ F H y) (h : inG x y = some r) (hu : X.A.units + 65 < cLine) (hm : behindInMarks .In b = false := by rfl) : Ev X (.Compare a [.In] [b] pos) σ F H r := ev_cmp (op_inD hu) (o2_inD h) ha hb hm
theorem ev_notInD {x : α} {y : List α} {r : Bool} (ha : Ev X a σ F H x) (hb : Ev X b σ F H y) (h : inG x y = some r) (hu : X.A.units + 65 < cLine) (hm : behindInMarks .NotIn b = false := by rfl) : Ev X (.Compare a [.NotIn] [b] pos) σ F H (!r) := ev_cmp (op_notInD hu) (o2_notInD h) ha hb hm
theorem et_inD {x : α} {y : List α} {r : Bool} (ha : Ev X a σ F H x) (hb : Ev X b σ F H y) (h : inG x y = some r) (hu : X.A.units + 65 < cLine) (hm : behindInMarks .In b = false := by rfl) : EvT X (.Compare a [.In] [b] pos) σ F H r := et_cmp (op_inD hu) (o2_inD h) ha hb hm
theorem et_notInD {x : α} {y : List α} {r : Bool} (ha : Ev X a σ F H x) (hb : Ev X b σ F H y) (h : inG x y = some r) (hu : X.A.units + 65 < cLine) (hm : behindInMarks .NotIn b = false := by rfl) : EvT X (.Compare a [.NotIn] [b] pos) σ F H (!r) := et_cmp (op_notInD hu) (o2_notInD h) ha hb hm
end
section
variable {X : Cx} {a b : Expr} {σ : L2.St} {F H : Hp} {pos : Pos} {κ ν : Type} [Rp κ] [Rp ν] [DecidableEq κ] [DecidableEq ν] [KeyS κ] [KeyS ν]
theorem ev_eqR {x y : Dct κ ν} {r : Bool} (ha : Ev X a σ F H x) (hb : Ev X b σ F H y) (h : deqG x y = some r) (hu : X.A.units < cLine) : Ev X (.Compare a [.Eq] [b] pos) σ F H r := ev_cmp (op_eqR hu) (o2_eqR h) ha hb (nomark _)
theorem ev_neR {x y : Dct κ ν} {r : Bool} (ha : Ev X a σ F H x) (hb : Ev X b σ F H y) (h : deqG x y = some r) (hu : X.A.units < cLine) : Ev X (.Compare a [.NotEq] [b] pos) σ F H (!r) := ev_cmp (op_neR hu) (o2_neR h) ha hb (nomark _)
theorem et_eqR {x y : Dct κ ν} {r : Bool} (ha : Ev X a σ F H x) (hb : Ev X b σ F H y) (h : deqG x y = some r) (hu : X.A.units < cLine) : EvT X (.Compare a [.Eq] [b] pos) σ F H r := et_cmp (op_eqR hu) (o2_eqR h) ha hb (nomark _)
theorem et_neR {x y : Dct κ ν} {r : Bool} (ha : Ev X a σ F H x) (hb : Ev X b σ F H y) (h : deqG x y = some r) (hu : X.A.units < cLine) : EvT X (.Compare a [.NotEq] [b] pos) σ F H (!r) := et_cmp (op_neR hu) (o2_neR h) ha hb (nomark _)
end
end Gx

/-! Gh: the head's facts, and one more test. -/
namespace Gx
open PySem PySem.Spec PyProof.Rows L2
abbrev AlE : Type := He.AlD × Bool
abbrev frE (n : Nat) (g : Addr → Option Obj) : PySem.W.Frag := He.frG g (He.asD g n)
def obsE (n : Nat) (fa : List He.Fa) (fn : List He.DefD) (ex : PySem.W.Frag → Bool) (g : Addr → Option Obj) : AlE := (He.obsD fa fn (frE n g), ex (frE n g))
def hookE (n : Nat) (fa : List He.Fa) (fn : List He.DefD) (ex : PySem.W.Frag → Bool) : PySem.W.Hook where
  α := AlE
  obs s := obsE n fa fn ex s.heap.get?
  val _ := (He.valD fn, true)
  says _ h := ∃ K : PySem.W.Frag, K.In h ∧ He.SaysD fa fn K ∧ ex K = true
  of _ _ e := ⟨_, He.frG_in, congrArg (fun z : AlE => z.1) e, congrArg (fun z : AlE => z.2) e⟩
  keeps := fun _ _ _ ⟨K, hK, c⟩ k => ⟨K, PySem.W.Frag.In.keeps hK k, c⟩
theorem obsE_eq {n : Nat} {fa : List He.Fa} {fn : List He.DefD} {ex : PySem.W.Frag → Bool} {g : Addr → Option Obj} {s : Shared} (h : ∀ a, g a = s.heap.get? a) : obsE n fa fn ex g = (hookE n fa fn ex).obs s := by
  cases (funext h : g = s.heap.get?)
  rfl
end Gx

/-! Gi: what a mirror comes to: Ok. -/
namespace Gx
open PySem PySem.Spec PyProof.Rows L2
/-- m comes to an x of which P holds -/
def Ok {α : Type} (m : Option α) (P : α → Prop) : Prop := ∃ x, m = some x ∧ P x
section
variable {α β γ ρ : Type}
theorem Ok.ret {P : α → Prop} {x : α} (h : P x) : Ok (some x) P := ⟨x, rfl, h⟩
theorem Ok.of {P : α → Prop} {m : Option α} {x : α} (e : m = some x) (h : P x) : Ok m P := ⟨x, e, h⟩
theorem Ok.bind {m : Option α} {f : α → Option β} {P : α → Prop} {Q : β → Prop} (h : Ok m P) (k : ∀ x, P x → Ok (f x) Q) : Ok (m.bind f) Q := by
  obtain ⟨x, rfl, p⟩ := h
  exact k x p
theorem Ok.bindE {m : Option α} {f : α → Option β} {x : α} {Q : β → Prop} (h : m = some x) (k : Ok (f x) Q) : Ok (m.bind f) Q := by
  subst h; exact k
theorem Ok.mono {m : Option α} {P Q : α → Prop} (h : Ok m P) (k : ∀ x, P x → Q x) : Ok m Q := by
  obtain ⟨x, e, p⟩ := h
  exact ⟨x, e, k x p⟩
theorem Ok.ite {c : Prop} [Decidable c] {a b : Option α} {P : α → Prop} (h1 : c → Ok a P) (h2 : ¬ c → Ok b P) : Ok (if c then a else b) P := by
  by_cases h : c
  · rw [if_pos h]; exact h1 h
  · rw [if_neg h]; exact h2 h
theorem Ok.dite {p : Prop} [Decidable p] {a b : Option α} {P : α → Prop} (h1 : p → Ok a P) (h2 : ¬ p → Ok b P) : Ok (if decide p = true then a else b) P :=
  Ok.ite (fun h => h1 (of_decide_eq_true h)) (fun h => h2 fun z => h (decide_eq_true z))
theorem Ok.true_ {m : Option Bool} (h : Ok m (· = true)) : m = some true := by
  obtain ⟨x, e, p⟩ := h
  rw [e, p]
theorem Ok.eq {m : Option α} {y : α} (h : Ok m (· = y)) : m = some y := by
  obtain ⟨x, e, p⟩ := h
  rw [e, p]
/-- a loop, by an invariant over what is left -/
theorem Ok.loopN {st : β → α → Option β} {b : β} {xs : List α} {Q : β → Prop} (J : β → List α → Prop) (h0 : J b xs) (hs : ∀ b x ys, J b (x :: ys) → Ok (st b x) fun b' => J b' ys) (hq : ∀ b, J b [] → Q b) : Ok (loopN st b xs) Q := by
  induction xs generalizing b with
  | nil => exact ⟨b, rfl, hq b h0⟩
  | cons x ys ih =>
    obtain ⟨b', e, h'⟩ := hs b x ys h0
    rw [loopN_cons e]
    exact ih h'
theorem Ok.loopM {st : β → α → Option (Lp β ρ)} {b : β} {xs : List α} {Q : Lp β ρ → Prop} (J : β → List α → Prop) (h0 : J b xs) (hs : ∀ b x ys, J b (x :: ys) → Ok (st b x) fun o => match o with | .nx b' => J b' ys | .bk b' => Q (.bk b') | .rt r => Q (.rt r)) (hq : ∀ b, J b [] → Q (.nx b)) : Ok (loopM st b xs) Q := by
  induction xs generalizing b with
  | nil => exact ⟨.nx b, rfl, hq b h0⟩
  | cons x ys ih =>
    obtain ⟨o, e, h'⟩ := hs b x ys h0
    cases o with
    | nx b' => rw [loopM_nx e]; exact ih h'
    | bk b' => exact ⟨.bk b', by rw [Gx.loopM, e], h'⟩
    | rt r => exact ⟨.rt r, by rw [Gx.loopM, e], h'⟩
theorem Ok.whileN {c : β → Option Bool} {st : β → Option β} {n : Nat} {b : β} {Q : β → Prop} (J : β → Prop) (m : β → Nat) (h0 : J b) (hm : m b < n) (hs : ∀ b, J b → Ok (c b) fun t => (t = true → Ok (st b) fun b' => J b' ∧ m b' < m b) ∧ (t = false → Q b)) : Ok (whileN c st n b) Q := by
  induction n generalizing b with
  | zero => omega
  | succ n ih =>
    obtain ⟨t, e, h1, h2⟩ := hs b h0
    cases t with
    | false => exact ⟨b, by rw [Gx.whileN, e], h2 rfl⟩
    | true =>
      obtain ⟨b', e', j, l⟩ := h1 rfl
      rw [Gx.whileN, e]
      dsimp only
      rw [e']
      exact ih j (by omega)
theorem Ok.thn {o : Option (Lp β ρ)} {f : β → Option γ} {g : ρ → Option γ} {Q : γ → Prop} (P : Lp β ρ → Prop) (h : Ok o P) (k1 : ∀ b, P (.nx b) → Ok (f b) Q) (k2 : ∀ b, P (.bk b) → Ok (f b) Q) (k3 : ∀ r, P (.rt r) → Ok (g r) Q) : Ok (o.bind fun o => o.thn f g) Q := by
  obtain ⟨x, rfl, p⟩ := h
  cases x with
  | nx b => exact k1 b p
  | bk b => exact k2 b p
  | rt r => exact k3 r p
/-- a comprehension -/
theorem Ok.comp {f : α → Option (Option γ)} {xs : List α} {P : List γ → Prop} (g : α → γ) (hl : xs.length ≤ 16777216) (h : ∀ x ∈ xs, f x = some (some (g x))) (hp : P (xs.map g)) : Ok (compG f xs) P := ⟨_, compG_map (by rw [szl]; exact hl) h, hp⟩
theorem Ok.compf {f : α → Option (Option γ)} {xs : List α} {P : List γ → Prop} (p : α → Bool) (g : α → γ) (hl : xs.length ≤ 16777216) (h : ∀ x ∈ xs, f x = some (if p x then some (g x) else none)) (hp : P ((xs.filter p).map g)) : Ok (compG f xs) P := ⟨_, compG_filter (by rw [szl]; exact hl) h, hp⟩
/-- .. of which only a relation is known -/
theorem compM_rel {f : α → Option (Option γ)} {R : α → γ → Prop} : ∀ {xs : List α}, (∀ x ∈ xs, Ok (f x) fun o => ∃ y, o = some y ∧ R x y) → Ok (compM f xs) fun ys => Paired R xs ys
  | [], _ => ⟨[], rfl, .nil⟩
  | x :: xs, h => by
    obtain ⟨o, e, y, rfl, r⟩ := h x List.mem_cons_self
    obtain ⟨ys, e2, r2⟩ := compM_rel fun z hz => h z (List.mem_cons_of_mem _ hz)
    exact ⟨y :: ys, by rw [compM, e, e2]; rfl, .cons r r2⟩
theorem Ok.compR {f : α → Option (Option γ)} {xs : List α} (R : α → γ → Prop) {P : List γ → Prop} (hl : xs.length ≤ 16777216) (h : ∀ x ∈ xs, Ok (f x) fun o => ∃ y, o = some y ∧ R x y) (hp : ∀ ys, Paired R xs ys → P ys) : Ok (compG f xs) P := by
  unfold compG; rw [if_pos (by rw [szl]; exact hl)]
  exact (compM_rel h).mono hp
theorem Paired.mem {R : α → γ → Prop} {xs : List α} {ys : List γ} (h : Paired R xs ys) {y : γ} (hy : y ∈ ys) : ∃ x ∈ xs, R x y := by
  induction h with
  | nil => cases hy
  | cons r t ih =>
    rcases List.mem_cons.mp hy with e | hy
    · subst e; exact ⟨_, List.mem_cons_self, r⟩
    · obtain ⟨x, h1, h2⟩ := ih hy
      exact ⟨x, List.mem_cons_of_mem _ h1, h2⟩
theorem Paired.get {R : α → γ → Prop} {xs : List α} {ys : List γ} (h : Paired R xs ys) {i : Nat} {y : γ} (hy : ys[i]? = some y) : ∃ x, xs[i]? = some x ∧ R x y := by
  induction h generalizing i with
  | nil => simp at hy
  | cons r t ih =>
    cases i with
    | zero => simp at hy; subst hy; exact ⟨_, by simp, r⟩
    | succ i => obtain ⟨x, h1, h2⟩ := ih (by simpa using hy); exact ⟨x, by simpa using h1, h2⟩
/-! ### guards -/
theorem mulG_l {i j : Int} (h : -(2 ^ 64) < i ∧ i < 2 ^ 64) : mulG i j = some (i * j) := if_pos (.inl (CMul.l h))
theorem mulG_r {i j : Int} (h : -(2 ^ 64) < j ∧ j < 2 ^ 64) : mulG i j = some (i * j) := if_pos (.inl (CMul.r h))
theorem mulG_w {i j : Int} (h : CMulW i j) : mulG i j = some (i * j) := if_pos (.inr h)
theorem divG_w {i j : Int} (h : CDivW i j) : divG i j = some (i / j) := if_pos (.inr h)
theorem modG_p {i j : Int} (h : 0 < j) : modG i j = some (i % j) := if_pos h
theorem divG_p {i j : Int} (h : CDiv i j) : divG i j = some (i / j) := if_pos (.inl h)
theorem app_p {xs : List α} {y : α} (h : xs.length < 16777216) : app xs y = some (xs ++ [y]) := if_pos (by rw [szl]; exact h)
theorem catG_p {xs ys : List α} (h : xs.length + ys.length ≤ 16777216) : catG xs ys = some (xs ++ ys) := if_pos (by rw [szl]; exact h)
theorem catT_p {xs ys : Tp α} (h : xs.l.length + ys.l.length ≤ 16777216) : catT xs ys = some ⟨xs.l ++ ys.l⟩ := if_pos (by rw [szl]; exact h)
theorem rngG_p {j : Int} (h : -(2 ^ 62) ≤ j ∧ j < 2 ^ 62) : rngG j = some (intsF 0 j.toNat) := if_pos h
theorem rngG_n {n : Nat} (h : n ≤ 16777216) : rngG (n : Int) = some (intsF 0 n) := by
  have h1 : (n : Int) ≤ 16777216 := by omega
  have h2 : (0 : Int) ≤ n := Int.natCast_nonneg n
  have e := rngG_p (j := (n : Int)) ⟨Int.le_trans (by decide) h2, Int.lt_of_le_of_lt h1 (by decide)⟩
  rw [Int.toNat_natCast] at e
  exact e
theorem rngG_s {j : Int} (h : -1000000000 ≤ j ∧ j ≤ 1000000000) : rngG j = some (intsF 0 j.toNat) := rngG_p ⟨Int.le_trans (by decide) h.1, Int.lt_of_le_of_lt h.2 (by decide)⟩
theorem rngG2_s {i j : Int} (hi : -1000000000 ≤ i ∧ i ≤ 1000000000) (h : -1000000000 ≤ j ∧ j ≤ 1000000000) : rngG2 i j = some (intsF i (j - i).toNat) := if_pos ⟨Int.le_trans (by decide) hi.1, Int.lt_of_le_of_lt hi.2 (by decide), Int.le_trans (by decide) h.1, Int.lt_of_le_of_lt h.2 (by decide)⟩
theorem rngG2_p {i j : Int} (h : -(2 ^ 62) ≤ i ∧ i < 2 ^ 62 ∧ -(2 ^ 62) ≤ j ∧ j < 2 ^ 62) : rngG2 i j = some (intsF i (j - i).toNat) := if_pos h
theorem dputG_p {κ ν : Type} [Rp κ] [DecidableEq κ] [DKey κ] [Rp ν] {m : Dct κ ν} {k : κ} {v : ν} (h : m.l.length < 16777216) : dputG m k v = some ⟨kvPut m.l k v⟩ := if_pos (by rw [szl]; exact h)
theorem intsF_mem {lo : Int} {n : Nat} {x : Int} (h : x ∈ intsF lo n) : lo ≤ x ∧ x < lo + n := by
  obtain ⟨i, hi⟩ := List.mem_iff_getElem?.mp h
  obtain ⟨h1, h2⟩ := ints_get hi
  omega
theorem intsF_succ (lo : Int) (n : Nat) : intsF lo (n + 1) = lo :: intsF (lo + 1) n := by
  unfold intsF
  rw [List.range_succ_eq_map, List.map_cons, List.map_map]
  congr 1
  · simp
  · refine List.map_congr_left fun i _ => ?_
    show lo + ((i + 1 : Nat) : Int) = _
    omega
theorem intsF_zero (lo : Int) : intsF lo 0 = [] := rfl
theorem atI_mem {xs : List α} {i : Int} (h0 : 0 ≤ i) (h1 : i < xs.length) : Ok (L2.atI xs i) fun v => v ∈ xs ∧ xs[i.toNat]? = some v := by
  obtain ⟨v, h2, h3⟩ := atI_ok h0 h1
  exact ⟨v, h2, List.mem_of_getElem? h3, h3⟩
theorem atI_last {xs : List α} (h : xs ≠ []) : L2.atI xs (-1) = some (xs.getLast h) := by
  unfold L2.atI ixN
  have hl : 0 < xs.length := List.length_pos_iff.mpr h
  rw [if_neg (by omega), if_pos (by omega)]
  show xs[((-1 : Int) + xs.length).toNat]? = _
  have e : ((-1 : Int) + xs.length).toNat = xs.length - 1 := by omega
  rw [e, List.getLast_eq_getElem]
  exact List.getElem?_eq_getElem (by omega)
theorem atI_ints {f : Int → α} {n : Nat} {k : Int} (h0 : 0 ≤ k) (h1 : k < n) : L2.atI ((intsF 0 n).map f) k = some (f k) := by
  rw [atI_nn h0, List.getElem?_map]
  have e : (intsF 0 n)[k.toNat]? = some k := by
    unfold intsF
    rw [List.getElem?_map, List.getElem?_range (by omega)]
    show some ((0 : Int) + (k.toNat : Int)) = _
    congr 1; omega
  rw [e]; rfl
/-! ### loops that append -/
theorem loopN_app {st : List γ → α → Option (List γ)} (f : α → γ) : ∀ (xs : List α) (b : List γ), b.length + xs.length ≤ 16777216 → (∀ x ∈ xs, ∀ b : List γ, b.length < 16777216 → st b x = some (b ++ [f x])) → loopN st b xs = some (b ++ xs.map f)
  | [], b, _, _ => by rw [loopN]; simp
  | x :: xs, b, hl, h => by
    rw [List.length_cons] at hl
    rw [loopN_cons (h x List.mem_cons_self b (by omega)), loopN_app f xs (b ++ [f x]) (by rw [List.length_append]; simp; omega) fun y hy => h y (List.mem_cons_of_mem _ hy)]
    simp
theorem loopN_map {st : List γ → α → Option (List γ)} (f : α → γ) (xs : List α) (hl : xs.length ≤ 16777216) (h : ∀ x ∈ xs, ∀ b : List γ, b.length < 16777216 → st b x = some (b ++ [f x])) : loopN st [] xs = some (xs.map f) :=
  loopN_app f xs [] (by simpa using hl) h
/-! ### dicts -/
section
variable {κ ν : Type} [DecidableEq κ]
def Dct.nd (d : Dct κ ν) : Prop := (d.l.map (·.1)).Nodup
theorem kvPut_keys (l : List (κ × ν)) (k : κ) (v : ν) : (kvPut l k v).map (·.1) = if k ∈ l.map (·.1) then l.map (·.1) else l.map (·.1) ++ [k] := by
  unfold kvPut
  by_cases h : k ∈ l.map (·.1)
  · rw [if_pos h, if_pos (by
      obtain ⟨p, hp, e⟩ := List.mem_map.mp h
      exact List.any_eq_true.mpr ⟨p, hp, decide_eq_true e⟩), List.map_map]
    refine List.map_congr_left fun p _ => ?_
    show (if p.1 = k then (p.1, v) else p).1 = p.1
    split <;> rfl
  · rw [if_neg h, if_neg (fun z => by
      obtain ⟨p, hp, e⟩ := List.any_eq_true.mp z
      exact h (List.mem_map.mpr ⟨p, hp, of_decide_eq_true e⟩)), List.map_append]
    rfl
theorem kvPut_nd {l : List (κ × ν)} {k : κ} {v : ν} (h : (l.map (·.1)).Nodup) : ((kvPut l k v).map (·.1)).Nodup := by
  rw [kvPut_keys]
  split
  · exact h
  · rename_i hk
    rw [List.nodup_append]
    refine ⟨h, by simp, fun a ha b hb => ?_⟩
    have : b = k := by simpa using hb
    subst this
    intro e; subst e; exact hk ha
theorem kvLook_mem {l : List (κ × ν)} {k : κ} : k ∈ l.map (·.1) ↔ ∃ v, kvLook l k = some v := by
  induction l with
  | nil => simp [kvLook]
  | cons p r ih =>
    rw [List.map_cons, List.mem_cons, kvLook]
    by_cases e : p.1 = k
    · rw [if_pos e]; exact ⟨fun _ => ⟨_, rfl⟩, fun _ => .inl e.symm⟩
    · rw [if_neg e, ← ih]
      exact ⟨fun h => h.resolve_left fun z => e z.symm, .inr⟩
theorem kvLook_self {l : List (κ × ν)} (h : (l.map (·.1)).Nodup) {p : κ × ν} (hp : p ∈ l) : kvLook l p.1 = some p.2 := by
  induction l with
  | nil => cases hp
  | cons q r ih =>
    rw [List.map_cons, List.nodup_cons] at h
    rw [kvLook]
    rcases List.mem_cons.mp hp with e | hp
    · subst e; rw [if_pos rfl]
    · rw [if_neg (show ¬ q.1 = p.1 from fun e => h.1 (by rw [e]; exact List.mem_map.mpr ⟨p, hp, rfl⟩))]
      exact ih h.2 hp
end
theorem deqG_self {κ ν : Type} [Rp κ] [DecidableEq κ] [Rp ν] [KeyS κ] [KeyS ν] [DecidableEq ν] {d : Dct κ ν} (h : (d.l.map (·.1)).Nodup) : deqG d d = some true := if_pos ⟨rfl, fun _ hp => kvLook_self h hp⟩
/-! ### texts by their signs -/
def cl (z : Str) : List Nat := z.cps.toList
theorem len_c (z : Str) : z.length = (cl z).length := len_cl z
theorem S_cl (x : Str) : S (cl x) = x := S_tl x
theorem cl_S (l : List Nat) : cl (S l) = l := rfl
theorem cl_inj {a b : Str} (h : cl a = cl b) : a = b := by
  rw [← S_tl a, ← S_tl b]; exact congrArg S h
theorem sAt_ok {z : Str} (hz : (cl z).length ≤ 16777216) {i : Int} (h0 : 0 ≤ i) (h1 : i < (cl z).length) : Ok (sAt z i) fun s => ∃ c, s = ⟨#[c]⟩ ∧ (cl z)[i.toNat]? = some c ∧ c ∈ cl z := by
  obtain ⟨c, h2, h3⟩ := atI_ok h0 h1
  refine ⟨⟨#[c]⟩, ?_, c, rfl, h3, List.mem_of_getElem? h3⟩
  unfold sAt
  rw [if_pos (by rw [len_c, szl]; exact hz), show L2.atI z.cps.toList i = some c from h2]; rfl
theorem sAdd_cl {a b : Str} (h : (cl a).length + (cl b).length ≤ 16777216) : Ok (sAdd a b) fun r => cl r = cl a ++ cl b := ⟨a ++ b, sAdd_ok (by rw [len_c, len_c, szl]; exact h), app_cl a b⟩
theorem sCut_cl {z : Str} (hz : (cl z).length ≤ 16777216) (i j : Option Int) : Ok (sCut z i j) fun r => cl r = cut (cl z) i j := by
  obtain ⟨r, h1, _, h3⟩ := sCut_ok (z := z) (by rw [len_c, szl]; exact hz) i j
  exact ⟨r, h1, h3⟩
theorem sLen_cl {z : Str} (hz : (cl z).length ≤ 16777216) : sLen z = some ((cl z).length : Int) := by
  rw [sLen_ok (by rw [len_c, szl]; exact hz), len_c]
theorem sOfI_cl {n : Int} (h0 : 0 ≤ n) (h1 : n < 10 ^ 18) : Ok (sOfI n) fun r => cl r = TL.numL n.toNat ∧ (cl r).length ≤ 18 := by
  obtain ⟨r, e, l, c⟩ := sOfI_ok h0 h1
  exact ⟨r, e, c, by rw [← len_c]; exact l⟩
theorem take_drop_min {xs : List α} (a b : Nat) : (xs.drop (min a xs.length)).take (min b xs.length - min a xs.length) = (xs.drop a).take (b - a) := by
  rcases Nat.lt_or_ge a xs.length with h | h
  · rw [Nat.min_eq_left (Nat.le_of_lt h)]
    rcases Nat.lt_or_ge b xs.length with h2 | h2
    · rw [Nat.min_eq_left (Nat.le_of_lt h2)]
    · rw [Nat.min_eq_right h2, List.take_of_length_le (by rw [List.length_drop]; exact Nat.le_refl _), List.take_of_length_le (by rw [List.length_drop]; omega)]
  · rw [Nat.min_eq_right h, List.drop_of_length_le (Nat.le_refl _), List.drop_of_length_le h]; simp
theorem cut_mid {xs : List α} {i j : Int} (h0 : 0 ≤ i) (h1 : 0 ≤ j) : cut xs (some i) (some j) = (xs.drop i.toNat).take (j.toNat - i.toNat) := by
  obtain ⟨a, rfl⟩ : ∃ m : Nat, i = (m : Int) := ⟨i.toNat, by omega⟩
  obtain ⟨b, rfl⟩ : ∃ m : Nat, j = (m : Int) := ⟨j.toNat, by omega⟩
  unfold cut
  rw [HT.sIx_nat, HT.sIx_nat]
  exact take_drop_min a b
theorem cut_to {xs : List α} {n : Int} (h0 : 0 ≤ n) : cut xs none (some n) = xs.take n.toNat := by
  obtain ⟨m, rfl⟩ : ∃ m : Nat, n = (m : Int) := ⟨n.toNat, by omega⟩
  unfold cut
  rw [HT.sIx_nat, HT.sIx_none]
  have := take_drop_min (xs := xs) 0 m
  rw [Nat.min_eq_left (Nat.zero_le _)] at this
  exact this
theorem cut_from {xs : List α} {n : Int} (h0 : 0 ≤ n) : cut xs (some n) none = xs.drop n.toNat := by
  obtain ⟨m, rfl⟩ : ∃ m : Nat, n = (m : Int) := ⟨n.toNat, by omega⟩
  unfold cut
  rw [HT.sIx_nat, HT.sIx_none]
  have := take_drop_min (xs := xs) m xs.length
  rw [Nat.min_eq_left (Nat.le_refl _), List.take_of_length_le (l := xs.drop m) (by rw [List.length_drop]; exact Nat.le_refl _)] at this
  exact this
theorem cut_init {xs : List α} : cut xs none (some (-1 : Int)) = xs.take (xs.length - 1) := by
  unfold cut
  have e : HT.sIx xs.length xs.length (some (-1)) = xs.length - 1 := by
    show (if (-1 : Int) < 0 then ((-1 : Int) + (xs.length : Int)).toNat else min (-1 : Int).toNat xs.length) = xs.length - 1
    rw [if_pos (by decide)]; omega
  rw [HT.sIx_none, e]; simp
theorem map_cl_S (ys : List Str) : (ys.map cl).map S = ys := by
  rw [List.map_map]
  exact (List.map_congr_left fun y _ => S_tl y).trans (List.map_id _)
theorem sJoin_cl {x : Str} {ys : List Str} (h : (ys.map (·.length)).sum + ys.length * x.length ≤ 16777216) : Ok (sJoin x ys) fun r => cl r = TL.joinL (cl x) (ys.map cl) := by
  refine ⟨Txt.join x ys, if_pos h, ?_⟩
  have e := SX.join_S (cl x) (ys.map cl)
  have hx : SX.S (cl x) = x := S_tl x
  rw [map_cl_S, hx] at e
  rw [e]; rfl
theorem joinL_nil : ∀ ls : List (List Nat), TL.joinL [] ls = ls.flatten
  | [] => rfl
  | [p] => by simp [TL.joinL]
  | p :: q :: r => by
    rw [TL.joinL, joinL_nil (q :: r)]; simp
theorem len_sum {n : Nat} : ∀ {ys : List Str}, (∀ y ∈ ys, (cl y).length ≤ n) → (ys.map (·.length)).sum ≤ ys.length * n
  | [], _ => by simp
  | y :: ys, h => by
    rw [List.map_cons, List.sum_cons, List.length_cons, Nat.succ_mul, len_c]
    have h1 := h y List.mem_cons_self
    have h2 := len_sum fun z hz => h z (List.mem_cons_of_mem _ hz)
    omega
/-- texts of one sign joined by nothing -/
theorem sJoin_signs {ys : List Str} {cs : List Nat} (h : ys = cs.map fun c => ⟨#[c]⟩) (hl : cs.length ≤ 1000000) : Ok (sJoin ("" : Str) ys) fun r => cl r = cs := by
  have h1 : ∀ y ∈ ys, (cl y).length ≤ 1 := fun y hy => by
    subst h
    obtain ⟨c, _, rfl⟩ := List.mem_map.mp hy
    exact Nat.le_refl _
  have h2 := len_sum h1
  have h3 : ys.length = cs.length := by rw [h, List.length_map]
  refine (sJoin_cl ?_).mono fun r hr => ?_
  · rw [show ("" : Str).length = 0 from by decide]; omega
  · rw [hr, show cl ("" : Str) = [] from by decide, joinL_nil, h, List.map_map]
    clear h h1 h2 h3 hr hl
    induction cs with
    | nil => rfl
    | cons c cs ih => rw [List.map_cons, List.flatten_cons, ih]; rfl
theorem nodup_map_on {α β : Type} {f : α → β} {l : List α} (inj : ∀ x ∈ l, ∀ y ∈ l, f x = f y → x = y) (h : l.Nodup) : (l.map f).Nodup := by
  unfold List.Nodup
  rw [List.pairwise_map]
  exact List.Pairwise.imp_of_mem (fun ha hb hne e => hne (inj _ ha _ hb e)) h
theorem ints_nodup (lo : Int) (n : Nat) : (intsF lo n).Nodup := by
  unfold intsF
  exact nodup_map_on (fun x _ y _ e => by omega) List.nodup_range
/-! ### texts within data -/
def sok (z : Str) : Prop := ∀ c ∈ cl z, c < 1114112
theorem lay_str {z : Str} (h : sok z) : (Pd.toD z).canLay0 = true := by
  show PySem.PyData.canLay0 (.str z) = true
  rw [PyData.canLay0]
  show z.cps.all (· < 0x110000) = true
  rw [← Array.all_toList, List.all_eq_true]
  intro c hc
  exact decide_eq_true (h c hc)
/-- the texts in a thing are texts that Python can have -/
class PdL (α : Type) [Rp α] [Pd α] where
  tx : α → Prop
  ok : ∀ {x : α}, tx x → (Pd.toD x).canLay0 = true
instance : PdL Int := ⟨fun _ => True, fun _ => PdF.ok _⟩
instance : PdL Bool := ⟨fun _ => True, fun _ => PdF.ok _⟩
instance : PdL Str := ⟨sok, lay_str⟩
instance {α : Type} [Rp α] [Pd α] [PdL α] : PdL (List α) := ⟨fun l => ∀ x ∈ l, PdL.tx x, fun h => layAll fun x hx => PdL.ok (h x hx)⟩
instance {α : Type} [Rp α] [Pd α] [PdL α] : PdL (Tp α) := ⟨fun l => ∀ x ∈ l.l, PdL.tx x, fun h => layAll fun x hx => PdL.ok (h x hx)⟩
instance {α : Type} [Rp α] [Pd α] [PdL α] : PdL (Tn α) := ⟨fun l => ∀ x ∈ l.l, PdL.tx x, fun h => layAll fun x hx => PdL.ok (h x hx)⟩
class PdRL (τ : Type) [Ra τ] [PdR τ] where
  tx : τ → Prop
  ok : ∀ {x : τ}, tx x → PyData.canLayAll0 (PdR.toR x) = true
instance : PdRL Unit := ⟨fun _ => True, fun _ => PdRF.ok _⟩
instance {α τ : Type} [Rp α] [Ra τ] [Pd α] [PdR τ] [PdL α] [PdRL τ] : PdRL (α × τ) := ⟨fun x => PdL.tx x.1 ∧ PdRL.tx x.2, fun {x} h => by
  show (PyData.canLay0 _ && PyData.canLayAll0 _) = true
  rw [PdL.ok h.1, PdRL.ok h.2]; rfl⟩
instance {α : Type} [Rp α] [Pd α] [PdL α] : PdL (T1 α) := ⟨fun x => PdRL.tx x.row, fun h => PdRL.ok h⟩
instance {α β : Type} [Rp α] [Rp β] [Pd α] [Pd β] [PdL α] [PdL β] : PdL (T2 α β) := ⟨fun x => PdRL.tx x.row, fun h => PdRL.ok h⟩
instance {α β γ : Type} [Rp α] [Rp β] [Rp γ] [Pd α] [Pd β] [Pd γ] [PdL α] [PdL β] [PdL γ] : PdL (T3 α β γ) := ⟨fun x => PdRL.tx x.row, fun h => PdRL.ok h⟩
instance {α β γ δ : Type} [Rp α] [Rp β] [Rp γ] [Rp δ] [Pd α] [Pd β] [Pd γ] [Pd δ] [PdL α] [PdL β] [PdL γ] [PdL δ] : PdL (T4 α β γ δ) := ⟨fun x => PdRL.tx x.row, fun h => PdRL.ok h⟩
instance {α β γ δ ε : Type} [Rp α] [Rp β] [Rp γ] [Rp δ] [Rp ε] [Pd α] [Pd β] [Pd γ] [Pd δ] [Pd ε] [PdL α] [PdL β] [PdL γ] [PdL δ] [PdL ε] : PdL (T5 α β γ δ ε) := ⟨fun x => PdRL.tx x.row, fun h => PdRL.ok h⟩
theorem okD_L {α : Type} [Rp α] [Pd α] [PdS α] [PdL α] {x : α} (h : PdL.tx x) (hd : PdS.dep α ≤ 64 := by decide) : okD x = true := okD_of hd (PdL.ok h)
theorem eqG_L {α : Type} [Rp α] [Pd α] [PdS α] [PdL α] [DecidableEq α] {x y : α} (h1 : PdL.tx x) (h2 : PdL.tx y) (hd : PdS.dep α ≤ 64 := by decide) : eqG x y = some (decide (x = y)) := eqG_ok (okD_L h1 hd) (okD_L h2 hd)
end
end Gx

/-! Gj: records (instances that do not change once they are made). -/
namespace Gx
open PySem PySem.Spec PyProof.Rows L2
open Rp (rp)
open Ra (ra)
open Ob (ob)
section
variable {X : Cx} {K : PySem.W.Frag} {e a b c d : Expr} {es : List Expr} {σ : L2.St} {F H F0 H0 : Hp} {pos : Pos} {D : Ends} {st : Stmt} {rest body : List Stmt}
/-! ### leaving one address out -/
theorem GdT.er {l P : Addr} (a : GdT H P) (h : PlAt H l) : GdT (er H l) P := a.but h fun _ hb => if_neg hb
theorem Gr.over {F' H' : Hp} {l : Addr} (g : Gr F0 H0 F H) (n : H0 l = none) (g' : Gr F (er H l) F' H') (pl : PlAt H l) : Gr F0 H0 F' H' := by
  have lift : ∀ a o, H0 a = some o → ∀ u, H a = some u → er H l a = some u := fun a o h u e => by
    unfold er; rw [if_neg fun z => by rw [z, n] at h; cases h]; exact e
  refine ⟨g.ff.trans g'.ff, g'.fh, ⟨fun a o h ns => g'.hh.k a o (lift a o h _ (g.hh.k a o h ns)) ns, fun a ps h => ?_, fun P a => g'.hh.w P ((g.hh.w P a).er pl)⟩, fun a o h ns => ?_⟩
  · obtain ⟨qs, e⟩ := g.hh.t a ps h
    exact g'.hh.t a qs (lift a _ h _ e)
  · cases o with
    | tbl ps =>
      obtain ⟨qs, e⟩ := g.hh.t a ps h
      rw [g'.fr a _ (lift a _ h _ e) trivial, g.fr a _ h trivial]
    | _ => rw [g'.fr a _ (lift a _ h _ (g.hh.k a _ h trivial)) ns, g.fr a _ h ns]
theorem HasT.er {l : Addr} (h : HasT K F H) (pl : PlAt H l) : HasT K F (er H l) := ⟨fun P hP => ⟨(h.t P hP).1.er pl, (h.t P hP).2⟩⟩
theorem GrX.over {F' H' : Hp} {l : Addr} (g : GrX K F0 H0 F H) (n : H0 l = none) (g' : Gr F (er H l) F' H') (pl : PlAt H l) : GrX K F0 H0 F' H' := ⟨g.toGr.over n g' pl, (g.h.er pl).up g'⟩
theorem Own.over {α : Type} [Rp α] [Ob α] {x : α} {F' H' : Hp} {l l2 : Addr} (o : Own K H0 F H l2 x) (h : l2 ≠ l) (g : Gr F (er H l) F' H') : Own K H0 F' H' l2 x := by
  obtain ⟨u, hl, r⟩ := o.h
  have e : er H l l2 = some u := by unfold er; rw [if_neg h]; exact hl
  exact ⟨o.n, (g.fr l2 u e (Ob.ls r)).trans o.f, u, g.hh.k _ _ e (Ob.pl r).ntb, Ob.mono g.ff r⟩
theorem er_same {l : Addr} : er H l l = none := if_pos rfl
theorem er_ne {l a : Addr} (h : a ≠ l) : er H l a = H a := if_neg h
theorem same_er {l : Addr} (s : L2.Same F H) (f : F l = none) : L2.Same F (er H l) := fun a o h => by
  rw [er_ne (ne_of_none h f)]; exact s a o h
theorem SmX.er {l : Addr} (s : SmX K F H) (f : F l = none) (pl : PlAt H l) : SmX K F (er H l) := ⟨same_er s.s f, s.h.er pl⟩
theorem Xt.start {l : Addr} (_ : PlAt H l) : Xt (er H l) H := .same fun a o h => by
  unfold er at h; split at h
  · cases h
  · exact h
theorem Gr.start {l : Addr} (s : L2.Same F H) (f : F l = none) (pl : PlAt H l) : Gr F (er H l) F H := ⟨.refl _, s, .start pl, fun _ _ _ _ => rfl⟩
/-! ### attributes by places -/
theorem zlook {names : List Str} {vs : List V} {i : Nat} {f : Str} {v : V} (h : names.idxOf f = i) (hi : i < names.length) (hv : vs[i]? = some v) : (names.zip vs).lookup f = some v := by
  induction names generalizing vs i with
  | nil => simp at hi
  | cons n ns ih =>
    cases vs with
    | nil => simp at hv
    | cons w ws =>
      rw [List.zip_cons_cons, List.lookup_cons]
      by_cases e : n = f
      · subst e
        have : i = 0 := by rw [← h, List.idxOf_cons_self]
        subst this
        simp at hv; subst hv; simp
      · have e' : (f == n) = false := beq_eq_false_iff_ne.mpr fun z => e z.symm
        rw [e']
        have hi2 : i = ns.idxOf f + 1 := by
          rw [← h, List.idxOf_cons, beq_eq_false_iff_ne.mpr e]; rfl
        subst hi2
        exact ih rfl (by simpa using hi) (by simpa using hv)
theorem putF_new {f : Str} {v : V} : ∀ {fs : List (Str × V)}, f ∉ fs.map (·.1) → putF f v fs = fs ++ [(f, v)]
  | [], _ => rfl
  | (g, x) :: r, h => by
    rw [List.map_cons, List.mem_cons] at h
    show (if g = f then _ else _) = _
    rw [if_neg (fun e => h (.inl e.symm)), putF_new fun z => h (.inr z)]; rfl
theorem zip_snoc {names : List Str} {vs : List V} {f : Str} {v : V} (h : names.length = vs.length) : names.zip vs ++ [(f, v)] = (names ++ [f]).zip (vs ++ [v]) := by
  rw [List.zip_append h]; rfl
theorem zip_names {names : List Str} {vs : List V} (h : names.length = vs.length) : (names.zip vs).map (·.1) = names := by
  rw [← List.unzip_fst, List.unzip_zip h]
/-- a record at its address -/
def rpI (cn : Str) (names : List Str) {τ : Type} [Ra τ] (K : PySem.W.Frag) (F : Hp) (v : V) (x : τ) : Prop := ∃ a dx vs, v = .ref a ∧ F a = some (.ins (He.ga K cn) dx (names.zip vs)) ∧ ra K F vs x
theorem rpI.mono {cn : Str} {names : List Str} {τ : Type} [Ra τ] {F F' : Hp} {v : V} {x : τ} (s : L2.Same F F') : rpI cn names K F v x → rpI cn names K F' v x := fun ⟨a, dx, vs, e, q, r⟩ => ⟨a, dx, vs, e, s _ _ q, Ra.mono s r⟩
theorem rpI.nn {cn : Str} {names : List Str} {τ : Type} [Ra τ] {F : Hp} {x : τ} : ¬ rpI cn names K F .non x := fun ⟨_, _, _, e, _⟩ => nomatch e
/-- the field fn of a thing θ is g of it -/
def FldOf (K : PySem.W.Frag) {θ α : Type} [Rp θ] [Rp α] (fn : Str) (g : θ → α) : Prop := ∀ F v (d : θ), rp K F v d → ∃ a C dx fs u, v = .ref a ∧ F a = some (.ins C dx fs) ∧ Cls K C ∧ NoAttr K C fn ∧ fs.lookup fn = some u ∧ rp K F u (g d)
theorem ev_attr {θ α : Type} [Rp θ] [Rp α] {fn : Str} {g : θ → α} {x : θ} (f : FldOf X.K fn g) (h : Ev X e σ F H x) (hb : attributeBase e fn X.env (eval e X.env) = eval e X.env := by rfl) : Ev X (.Attribute e fn pos) σ F H (g x) := fun F1 H1 gr Q q =>
  GoE.of (pe_fld pe_go hb) (h F1 H1 gr _ fun v F2 H2 g2 r2 => by
    obtain ⟨a, C, dx, fs, u, e, hF, c, na, l, r⟩ := f F2 v x r2
    exact ⟨a, C, dx, fs, u, e, g2.fh _ _ hF, c, na, l, q u F2 H2 g2 r⟩)
/-! ### making -/
/-- the promise of an __init__ that stores its fields in order -/
def PrI (K : PySem.W.Frag) (C : Addr) (names : List Str) {τ ρ : Type} [Ra τ] [Ra ρ] (f : τ → Option ρ) : Sp := fun vs H Q _ => ∃ F x dx args a r, vs = .ref x :: args ∧ SmX K F H ∧ F x = none ∧ H x = some (.ins C dx []) ∧ ra K F args a ∧ f a = some r ∧
  ∀ F' H' ws, Gr F (er H x) F' H' → F' x = none → H' x = some (.ins C dx (names.zip ws)) → ra K F' ws r → Q .non H'
/-- a store to a field of the new instance -/
theorem go_fld {α : Type} [Rp α] {x : Addr} {y : α} {C dx : Addr} {names : List Str} {vs : List V} {fn n : Str} {p1 p2 : Pos} (i : Nat) (s : SmX X.K F H) (fx : F x = none) (hx : H x = some (.ins C dx (names.zip vs))) (hl : names.length = vs.length) (hn : names.length < 1000) (hf : fn ∉ names) (c : Cls X.K C) (na : NoAttr X.K C fn)
    (hσ : σ[i]? = some (some (.ref x))) (he : Ev X e σ F H y) (k : ∀ v F' H', Gr F H F' H' → rp X.K F' v y → F' x = none → H' x = some (.ins C dx (names.zip vs)) → GoS X rest D σ (upd H' x (.ins C dx ((names ++ [fn]).zip (vs ++ [v]))))) (hN : X.N[i]? = some n := by rfl) (hv : Vis X.env.scope n := by first | exact Or.inl rfl | exact Or.inr (Or.inl rfl) | exact Or.inr (Or.inr rfl))
    (hd : (n == ("__debug__" : Str)) = false := by decide) (hcd : (n == ("__classdict__" : Str)) = false := by decide) (hs : swapsWith e (some (.Attribute (.Name n p1) fn p2)) pos.line X.env = pure false := by rfl) : GoS X (.Assign [.Attribute (.Name n p1) fn p2] e pos :: rest) D σ H :=
  GoS.cons (ps_fld (pe_var hN hv hd hcd) pe_go hs) (he F H (.refl s) _ fun v F2 H2 g2 r2 => by
    have h2 := g2.hh.k _ _ hx trivial
    refine ⟨_, hσ, x, C, dx, _, rfl, h2, c, na, ?_, ?_⟩
    · rw [List.length_zip]; omega
    · rw [putF_new (by rw [zip_names hl]; exact hf), zip_snoc hl]
      exact k v F2 H2 g2 r2 ((g2.fr x _ hx trivial).trans fx) h2)
/-- .. over the whole def -/
theorem fn_init {P : Program} {w : World} {mg : Str → Option Value} {base : Heap} {τ ρ : Type} [Ra τ] [RaN τ] [Ra ρ] {f : τ → Option ρ} {C : Addr} {names : List Str} {x qual : Str} {s0 : Stmt} {fa : Addr} {fd : FuncData} {N ps : List Str} {k : Nat} (Fn : FunD K x qual (defArgs s0) (defBody s0) (defScope s0) [] [] fa fd) (S : FnScope N ps (defScope s0)) (hn : RaN.n τ + 1 = ps.length)
    (hbody : ∀ (cdv : Value) (A : Around) (outer : List Env) (s : Shared) (F H : Hp) (y dx : Addr) (vs : List V) (a : τ) (r : ρ) (D : Ends) (E : XK), Room k (A.deeper (envOfC qual (defScope s0) s.heap.objs.size fa cdv)) → GrX K F (er H y) F H → F y = none → H y = some (.ins C dx []) → ra K F vs a → f a = some r →
      (∀ σ' F' H' ws, GrX K F (er H y) F' H' → F' y = none → H' y = some (.ins C dx (names.zip ws)) → ra K F' ws r → D.nx σ' H') → GoS (cxOf CX0 P w K mg base N qual (defScope s0) fa cdv A outer s H E).nox (defBody s0) D (start N (.ref y :: vs)) H) :
    FnOk P w K mg base CX0 (k + 1) fa fd ps (PrI K C names f) := by
  refine Fn.ok S (fun vs H Q E ⟨F, y, dx, args, a, r, e, _, _, _, ra', _⟩ => by rw [e, List.length_cons, RaN.len ra', hn]) fun cdv A outer s H vs Q E hr ⟨F, y, dx, args, a, r, e, sm, fy, hy, ra', hf, k⟩ => ?_
  subst e
  exact ⟨_, PSs.nox pss_go, hbody cdv A outer s F H y dx args a r { nx := fun _ H' => Q .non H', rt := Q } E hr ⟨Gr.start sm.s fy ⟨_, hy, trivial⟩, sm.h⟩ fy hy ra' hf fun σ' F' H' ws g f' h' r' => k F' H' ws g.toGr f' h' r'⟩
theorem ev_make {θ τ ρ : Type} [Rp θ] [Ra τ] [Ra ρ] {f : τ → Option ρ} {names : List Str} {y : τ} {r : ρ} {z : θ} {k : Nat} {fa : Addr} {fd : FuncData} {ps : List Str} {x cn : Str} {p : Pos} (rep : ∀ F v, rpI cn names X.K F v r → rp X.K F v z) (M : Mk X.K (He.ga X.K cn) fa) (Fn : FnOk X.prog X.w X.K X.mg X.base CX0 k fa fd ps (PrI X.K (He.ga X.K cn) names f)) (hr : Room (k + 1) X.A)
    (hm : X.mg x = some (.ref (He.ga X.K cn))) (hb : Binds X.K fd ps []) (ha : EvA X (e :: es) σ F H y) (h : f y = some r) (hg : Gl X x := by rfl) (hdb : (x == ("__debug__" : Str)) = false := by decide)
    (he : starEach (e :: es) X.env = (false, eval e X.env) :: starEach es X.env := by rfl) (hpl : (backTo pos (starEach es X.env)).any (·.1) = false := by rfl) : Ev X (.Call (.Name x p) (e :: es) [] pos) σ F H z := fun F1 H1 g Q q =>
  GoE.of (pe_make M Fn hr hg hm hb .nil pass0 pa_go hdb he hpl) (ha F1 H1 g _ fun vs F2 H2 g2 r2 => by
    intro o dx ho hdx hne
    have so : H2 dx = none := hdx
    have g3 : Gr F2 H2 (upd F2 dx (.own o)) (upd H2 dx (.own o)) := Gr.new g2.fh hdx trivial
    have ho3 : upd H2 dx (.own o) o = none := by rw [upd_ne (fun z => hne z.symm)]; exact ho
    have fo3 : upd F2 dx (.own o) o = none := by rw [upd_ne (fun z => hne z.symm)]; exact g2.fh.free ho
    have g4 := Gr.newP (o := .ins (He.ga X.K cn) dx []) g3.fh ho3 trivial
    refine ⟨upd F2 dx (.own o), o, dx, vs, y, r, by rw [List.append_nil], (g.trans g2).sm.up (g3.trans g4), fo3, upd_same, Ra.mono g3.ff r2, h, fun F' H' ws g5 f5 h5 r5 => ⟨rfl, ?_⟩⟩
    have g6 : Gr F1 H1 F' H' := (((g2.trans g3).trans g4)).over (g2.hh.free ho) g5 ⟨_, upd_same, trivial⟩
    have g7 := g6.freeze (o := .ins (He.ga X.K cn) dx (names.zip ws)) (g2.hh.free ho) f5 ⟨_, h5, trivial⟩ trivial
    have e7 : upd H' o (.ins (He.ga X.K cn) dx (names.zip ws)) = H' := by
      funext b
      by_cases hb : b = o
      · rw [hb, upd_same, h5]
      · rw [upd_ne hb]
    rw [e7] at g7
    exact q (.ref o) _ H' g7 (rep _ _ ⟨o, dx, ws, rfl, upd_same, Ra.mono (same_upd f5) r5⟩))
end
end Gx

/-! Gk: a private thing read while a new one is made by a statement; products of lists and tuples. -/
namespace Gx
open PySem PySem.Spec PyProof.Rows L2
open Rp (rp)
open Ra (ra)
open Ob (ob)
section
variable {X : Cx} {K : PySem.W.Frag} {e a b c d : Expr} {es : List Expr} {σ : L2.St} {F H F0 H0 : Hp} {pos : Pos} {D : Ends} {st : Stmt} {rest body : List Stmt}
theorem GoS.lockedU {sts : List Stmt} {l : Addr} {o : HO} (hl : H l = some o) (mu : Mut (some o)) (h : ∀ od, (∀ o' u', X.H_0 l ≠ some (.frz o' u')) → GoS X sts D σ (upd H l (.frz od o))) : GoS X sts D σ H := .mk fun pins s I => by
  obtain ⟨od, I1⟩ := I.lock hl mu
  exact (h od (I.nofrz hl mu)).o pins s I1
theorem GoS.unlocked {sts : List Stmt} {l : Addr} {od : Obj} {o : HO} (hl : H l = some (.frz od o)) (hn : ∀ o' u', X.H_0 l ≠ some (.frz o' u')) (h : GoS X sts D σ (upd H l o)) : GoS X sts D σ H := .mk fun pins s I => h.o pins s (I.unlock hl hn)
/-- a statement that makes a new thing and reads a private one -/
theorem go_thawN {α β : Type} [Rp α] [Ob α] [FlatO α] [Rp β] [Ob β] {xs : α} {y : β} {l : Addr} {stm : Stmt} {τ : Addr → L2.St} (o : Own X.K H0 F H l y) (s : SmX X.K F H)
    (run : ∀ F' H', L2.Same F F' → SmX X.K F' H' → rp X.K F' (.ref l) y → (∀ a, a ≠ l → F' a = F a ∧ H' a = H a) →
      (∀ l2 o2 F2 H2, Gr F' H' F2 H2 → H' l2 = none → F2 l2 = none → H2 l2 = some o2 → ob X.K F2 o2 xs → GoS X rest D (τ l2) H2) → GoS X (stm :: rest) D σ H')
    (k : ∀ l2 o2 F2 H2, Gr F H F2 H2 → H l2 = none → F2 l2 = none → H2 l2 = some o2 → ob X.K F2 o2 xs → GoS X rest D (τ l2) H2) : GoS X (stm :: rest) D σ H := by
  obtain ⟨u, hl, r⟩ := o.h
  refine GoS.lockedU hl (Ob.mu r) fun od hn => ?_
  refine run _ _ (same_upd o.f) ⟨shown s.s, (s.h.upd (u := .frz od u) o.pl trivial).2⟩ (Ob.fz upd_same (Ob.mono (same_upd o.f) r)) (fun a ha => ⟨upd_ne ha, upd_ne ha⟩) fun l2 o2 F2 H2 g2 n2 f2 h2 r2 => ?_
  have e2 : F2 l = some (.frz od u) := g2.ff _ _ upd_same
  obtain ⟨n1, n2'⟩ := frz_no e2 (Ob.ls r)
  have hne : l2 ≠ l := fun e => by rw [e, upd_same] at n2; cases n2
  refine GoS.unlocked (g2.fh _ _ e2) hn (k l2 o2 (er F2 l) _ (Gr.hide hl o.f (Ob.pl r) g2) (by rw [upd_ne hne] at n2; exact n2) ?_ (by rw [upd_ne hne]; exact h2) (FlatO.fl n1 n2' r2))
  rw [er_ne hne]; exact f2
/-! ### products -/
theorem Rps.rep {α : Type} [Rp α] {vs : List V} {xs : List α} (r : Rps K F vs xs) : ∀ n : Nat, Rps K F (List.replicate n vs).flatten (List.replicate n xs).flatten
  | 0 => .nil
  | n + 1 => by
    rw [List.replicate_succ, List.replicate_succ, List.flatten_cons, List.flatten_cons]
    exact Rps.append r (Rps.rep r n)
def mulL {α : Type} (xs : List α) (n : Int) : Option (List α) := if -1000000 ≤ n ∧ n ≤ 1000000 ∧ xs.length * n.toNat ≤ 16777216 then some (List.replicate n.toNat xs).flatten else none
def mulT {α : Type} (xs : Tp α) (n : Int) : Option (Tp α) := if 1 ≤ n ∧ n ≤ 1000 ∧ xs.l.length ≤ 1000 ∧ xs.l ≠ [] then some ⟨(List.replicate n.toNat xs.l).flatten⟩ else none
theorem tuple_mul1 (l : Addr) (items : Array Value) (n : Nat) (dd : Option Addr) (sl : Array (Option Value)) (u : Tok) :
    Meets (Builtin.«tuple.__mul__» ⟨[.ref l, .int 1 u], []⟩) (fun _ R s => s.heap.get? l = some { cls := .type "tuple", dict := dd, data := .seq items n, slots := sl } ∧ R (.ok (.ret (Value.ref l))) s) :=
  .of_wp fun prog w A R s h => by
    obtain ⟨hp, g, d, tk, os⟩ := s
    obtain ⟨hl, h⟩ := h
    have f1 := AutoSeq1.idx_int
    have c1 : (items.isEmpty || (1 : Int) == 1) = true := by simp
    wp_walk using wpAny_loadPart' hl
    repeat (first
      | (refine wpAny_ite_true (decide_eq_true c1) ?_; wp_walk using wpAny_loadPart' hl)
      | (refine wpAny_ite_true c1 ?_; wp_walk using wpAny_loadPart' hl)
      | (refine wpAny_ite_false (by decide) ?_; wp_walk using wpAny_loadPart' hl))
    exact ⟨_, rfl, h⟩
def rMulT (K : PySem.W.Frag) : R2 := fun x y H Q => ∃ l k xs, x = .ref l ∧ y = .int k ∧ SqT K H l xs ∧ xs ≠ [] ∧ 1 ≤ k ∧ k ≤ 1000 ∧ xs.length ≤ 1000 ∧ (k = 1 → Q (.ref l) H) ∧ (2 ≤ k → ∀ p, H p = none → Q (.ref p) (upd H p (.tup (List.replicate k.toNat xs).flatten)))
theorem op_mulT : OpR X (binaryOp .Mult) (rMulT X.K) := fun pins s σ H x y v u Q I rx ry ⟨l, k, xs, e1, e2, hT, hne, k1, k2, hz, q1, q2⟩ => by
  by_cases h1 : k = 1
  · subst h1; subst e1; subst e2
    have q := q1 rfl
    cases rx
    obtain ⟨t, rfl⟩ := ry
    obtain ⟨its, r, ⟨⟨cls, dd, data, sl⟩, ho, hc, n, hd⟩, hs⟩ := I.tuple hT
    simp only at hc hd
    subst hc hd
    exact wpAny_binaryOp_repeat_ref (T := "tuple") (U := "int") (by decide) ⟨_, ho, rfl⟩ (fun s' => typeIs_int s' 1 t) noFill_tuple_mul F.fills_int_mul F.slot_int_rmul repeat_tuple F.slot_int_index.lookup
      (call_meets F.slot_int_rmul (typeIs_int s 1 t) F.entry_int_rmul (F.args_int_rmul_2 _ _) (int_rmul_tuple 1 t l its.toArray n dd sl)
        ⟨ho, rfl, ⟨_, ho, rfl⟩, call_meets F.slot_tuple_mul ⟨_, ho, rfl⟩ F.entry_tuple_mul (F.args_tuple_mul_2 _ _) (tuple_mul1 l its.toArray n dd sl t) ⟨ho, ⟨.ref l, H, I.tok _, rfl, q⟩⟩⟩)
  · exact op_repT pins s σ H x y v u Q I rx ry ⟨l, k, xs, e1, e2, hT, hne, by omega, k2, hz, q2 (by omega)⟩
theorem ev_mulT {α : Type} [Rp α] {xs r : Tp α} {n : Int} (ha : Ev X a σ F H xs) (hb : Ev X b σ F H n) (h : mulT xs n = some r) : Ev X (.BinOp a .Mult b pos) σ F H r := ev_bin (α := Tp α) (β := Int) (γ := Tp α) op_mulT (fun F H v w Q s rv rw' k => by
  obtain ⟨p, vs, e, sq, rs⟩ := rv
  unfold mulT at h
  split at h
  case isFalse => cases h
  rename_i hz
  cases (Option.some.inj h)
  refine ⟨p, n, vs, e, rw', seqT_mono s sq, fun z => hz.2.2.2 (rs.nil_r.mp z), hz.1, hz.2.1, by rw [rs.length]; exact hz.2.2.1, fun h1 => ?_, fun h2 l hl => ?_⟩
  · subst h1
    refine k _ F H (.refl s) ⟨p, vs, rfl, sq, ?_⟩
    show Rps X.K F vs (List.replicate 1 xs.l).flatten
    rw [show (List.replicate 1 xs.l).flatten = xs.l by simp]; exact rs
  · exact k _ (upd F l (.tup _)) _ (Gr.new s hl) ⟨l, _, rfl, upd_same, (rs.rep _).mono (same_upd (s.free hl))⟩) ha hb
theorem en_mulL {α : Type} [Rp α] {xs r : List α} {n : Int} (ha : EvN X a σ F H xs) (hb : Ev X b σ F H n) (h : mulL xs n = some r) : EvN X (.BinOp a .Mult b pos) σ F H r := fun F1 H1 g Q q =>
  GoE.of (pe_op op_rep pe_go pe_go) (ha F1 H1 g _ fun l o F2 H2 g2 n2 f2 h2 ⟨vs, e, rs⟩ => hb F2 H2 (g.trans g2) _ fun w F3 H3 g3 r3 => by
    unfold mulL at h
    split at h
    case isFalse => cases h
    rename_i hz
    cases (Option.some.inj h)
    subst e
    refine ⟨l, n, vs, rfl, r3, g3.hh.k _ _ h2 (Ob.pl ‹_›).ntb, Int.le_trans (by decide) hz.1, Int.lt_of_le_of_lt hz.2.1 (by decide), by rw [rs.length, sizeLine_eq]; exact hz.2.2, fun p hp => EvN.new q (g2.trans g3) hp ((rs.mono g3.ff).rep _)⟩)
theorem mulT_p {α : Type} {xs : Tp α} {n : Int} (h : 1 ≤ n ∧ n ≤ 1000 ∧ xs.l.length ≤ 1000 ∧ xs.l ≠ []) : mulT xs n = some ⟨(List.replicate n.toNat xs.l).flatten⟩ := if_pos h
theorem mulL_p {α : Type} {xs : List α} {n : Int} (h : -1000000 ≤ n ∧ n ≤ 1000000 ∧ xs.length * n.toNat ≤ 16777216) : mulL xs n = some (List.replicate n.toNat xs).flatten := if_pos h
end
end Gx

/-! Gl: lists of dicts, rows taken apart. -/
namespace Gx
open PySem PySem.Spec PyProof.Rows L2
open Rp (rp)
open Ra (ra)
open Ob (ob)
section
variable {X : Cx} {K : PySem.W.Frag} {e a b c d : Expr} {es : List Expr} {σ : L2.St} {F H F0 H0 : Hp} {pos : Pos} {D : Ends} {st : Stmt} {rest body : List Stmt}
def tListVals (te : TE) : TE := fun σ H Q => te σ H fun x H1 => ∃ d kvs, x = .ref d ∧ Rd H1 d (.dK kvs) ∧ ∀ p, H1 p = none → Q (.ref p) (upd H1 p (.lst (kvs.map (·.2))))
theorem vals_snd : ∀ {kvs : List (Key × V)} {vs : List (Key × Value)}, KV kvs vs → Vals (kvs.map (·.2)) (vs.map (·.2))
  | _, _, .nil => .nil
  | _, _, .cons h t => .cons h.2 (vals_snd t)
theorem pe_listVals {te : TE} {p apos cpos : Pos} (hc : X.calm = true) (he : PE X e te) (hg : Gl X "list") (hm : X.mg "list" = none) (hv : bootBuiltins "list" = some (.type "list")) (hbase : attributeBase e "values" X.env (eval e X.env) = eval e X.env := by rfl) (hline : (apos.endLine == cpos.line) = true := by rfl)
    (hs : starEach [.Call (.Attribute e "values" apos) [] [] cpos] X.env = (false, eval (.Call (.Attribute e "values" apos) [] [] cpos) X.env) :: starEach [] X.env := by rfl) :
    PE X (.Call (.Name "list" p) [.Call (.Attribute e "values" apos) [] [] cpos] [] pos) (tListVals te) := by
  refine ⟨fun pins s σ H Q I hq => ?_⟩
  refine wpAny_Call_Name_kw (ld_blt I hg hm hv ?_)
  refine PyProof.Rows.callWith_type1 ?_ hs rfl
  rw [hs]
  show wpAny _ _ (spliced ((false, eval (.Call (.Attribute e "values" apos) [] [] cpos) X.env) :: backTo pos (starEach [] X.env))) _ _ s
  refine Calls.spliced_cons ?_
  refine wpAny_Call_method (T := "dict") (id := "dict.values") hbase rfl hline F.plainAttrs_dict F.slot_dict_values F.type_dict_values (thn (he.run pins s σ H _ I hq) fun u s1 ⟨x, H1, I1, rx, d, kvs, ex, hd, q⟩ => ?_)
  subst ex
  obtain rfl : u = Value.ref d := rx
  obtain ⟨hz, hs0, vs, kv, hdo⟩ := dk_rd I1.hok hd
  obtain ⟨ep, hat⟩ := hdo.dictAt
  have lk : kvs.length = vs.length := Paired.length kv
  have I2 : Inv X pins σ H1 { s1 with heap := s1.heap.push { cls := .type "dict_values", data := .fields #[.ref d] } } := I1.kept (t' := s1.toks) fun b ob q => Heap.get?_push_of_some _ q
  refine ⟨hdo.typeIs, hdo.mapOf.noDict, ?_⟩
  show wpAny _ _ (callWith cpos (.builtin "dict.values") [.ref d] [] []) _ X.xe s1
  refine method_meetsIn F.slot_dict_values F.entry_dict_values rfl (PySem.evalArgs_none ⟨rfl, hdo.typeIs, F.args_dict_values_1 _, _, meets_dict_values (mixKind X.prog X.w) d hs0, ⟨vs, hdo⟩, ?_⟩)
  refine Calls.spliced_nil ?_
  refine PySem.W.kdl_call (PySem.W.kdl_values (knd := mixKind X.prog X.w) (kvs := vs) (ep := ep)) (I1.ok.hd hc) ⟨⟨_, Heap.get?_push_size _ rfl, rfl, rfl⟩, hat.push _⟩ (by omega) fun h' tk acc c' hk hD hacc => ?_
  have ev : acc.toList = vs.map (·.2) := PySem.W.kdl_vals_eq _ (by rw [Array.length_toList]; exact hacc.1) fun j v e => hacc.2 j v (by rw [← Array.getElem?_toList]; exact e)
  refine ⟨.ref _, _, I2.laid (t' := tk) hk (Nat.le_refl _) (show ObjOk X.prog X.w _ _ _ (.lst (kvs.map (·.2))) from ⟨by rw [List.length_map]; exact hz, acc.toList, c', by rw [ev]; exact vals_snd kv, by rw [Array.toArray_toList]; exact hD⟩), rfl, q _ (I2.hok.fresh (Nat.le_refl _))⟩
theorem KR.vals {κ ν : Type} [Rp ν] : ∀ {kvs : List (κ × V)} {l : List (κ × ν)}, KR K F kvs l → Rps K F (kvs.map (·.2)) (l.map (·.2))
  | _, _, .nil => .nil
  | _, _, .cons h t => .cons h.2 (KR.vals t)
theorem KR.keysS {κ ν : Type} [Rp κ] [KeyS κ] [Rp ν] : ∀ {kvs : List (κ × V)} {l : List (κ × ν)}, KR K F kvs l → Rps K F ((kvm KeyS.g kvs).map fun kv => kV kv.1) (l.map (·.1))
  | _, _, .nil => .nil
  | _, _, .cons (a := p) (b := q) h t => .cons (KeyS.rpg.mpr (by show kV (KeyS.g p.1) = kV (KeyS.g q.1); rw [h.1])) (KR.keysS t)
section
variable {κ ν : Type} [Rp κ] [DecidableEq κ] [KeyS κ] [Rp ν]
theorem kvm_vals (kvs : List (κ × V)) : (kvm KeyS.g kvs).map (·.2) = kvs.map (·.2) := by unfold kvm; rw [List.map_map]; rfl
theorem en_listVals {m : Dct κ ν} {p apos cpos : Pos} (hm : X.mg "list" = none) (ha : Ev X a σ F H m) (hc : X.calm = true := by rfl) (hg : Gl X "list" := by rfl) (hbase : attributeBase a "values" X.env (eval a X.env) = eval a X.env := by rfl) (hline : (apos.endLine == cpos.line) = true := by rfl)
    (hs : starEach [.Call (.Attribute a "values" apos) [] [] cpos] X.env = (false, eval (.Call (.Attribute a "values" apos) [] [] cpos) X.env) :: starEach [] X.env := by rfl) : EvN X (.Call (.Name "list" p) [.Call (.Attribute a "values" apos) [] [] cpos] [] pos) σ F H m.vals := fun F1 H1 g Q q =>
  GoE.of (pe_listVals hc pe_go hg hm (by decide +kernel) hbase hline hs) (ha F1 H1 g _ fun v F2 H2 g2 r2 => by
    obtain ⟨p, o, kvs, e, hq, kr⟩ := r2
    refine ⟨p, _, e, .inr ⟨o, g2.fh _ _ hq⟩, fun l hl => ?_⟩
    rw [kvm_vals]
    exact EvN.new q g2 hl kr.vals)
theorem en_listKeys {m : Dct κ ν} {p : Pos} (hm : X.mg "list" = none) (ha : Ev X a σ F H m) (hc : X.calm = true := by rfl) (hg : Gl X "list" := by rfl) (hs : starEach [a] X.env = (false, eval a X.env) :: starEach [] X.env := by rfl) (hpl : (backTo pos (starEach [] X.env)).any (·.1) = false := by rfl) :
    EvN X (.Call (.Name "list" p) [a] [] pos) σ F H m.keys := fun F1 H1 g Q q =>
  GoE.of (pe_callTy (call_listD hc) hg hm (by decide +kernel) (pa_cons pe_go pa_nil hs) (by decide) (by decide) hs hpl) (ha F1 H1 g _ fun v F2 H2 g2 r2 => by
    obtain ⟨p, o, kvs, e, hq, kr⟩ := r2
    exact ⟨p, _, by rw [e], .inr ⟨o, g2.fh _ _ hq⟩, fun l hl => EvN.new q g2 hl kr.keysS⟩)
end
theorem ev_tup5 {α β γ δ ε : Type} [Rp α] [Rp β] [Rp γ] [Rp δ] [Rp ε] {x : α} {y : β} {z : γ} {u : δ} {w : ε} {k : Nat} (h : EvA X es σ F H (x, y, z, u, w, ())) : Ev X (.Tuple es k pos) σ F H (T5.mk x y z u w) := ev_tup (θ := T5 α β γ δ ε) h (by show 5 ≤ sizeLine; decide)
/-! ### rows of a known length -/
def to2 {α : Type} : List α → Option (T2 α α)
  | [x, y] => some ⟨x, y⟩
  | _ => none
def to3 {α : Type} : List α → Option (T3 α α α)
  | [x, y, z] => some ⟨x, y, z⟩
  | _ => none
theorem ev_to2 {α : Type} [Rp α] {xs : Tp α} {r : T2 α α} (h : Ev X e σ F H xs) (hr : Gx.to2 xs.l = some r) : Ev X e σ F H r := h.re fun F v r2 => by
  obtain ⟨xs⟩ := xs
  match xs, hr, r2 with
  | [x, y], hr, ⟨a, vs, e, q, rs⟩ =>
    cases hr
    cases rs with
    | cons r1 t => cases t with
      | cons r2 t => cases t; exact ⟨a, _, e, q, _, _, rfl, r1, _, _, rfl, r2, rfl⟩
theorem ev_to3 {α : Type} [Rp α] {xs : Tp α} {r : T3 α α α} (h : Ev X e σ F H xs) (hr : Gx.to3 xs.l = some r) : Ev X e σ F H r := h.re fun F v r2 => by
  obtain ⟨xs⟩ := xs
  match xs, hr, r2 with
  | [x, y, z], hr, ⟨a, vs, e, q, rs⟩ =>
    cases hr
    cases rs with
    | cons r1 t => cases t with
      | cons r2 t => cases t with
        | cons r3 t => cases t; exact ⟨a, _, e, q, _, _, rfl, r1, _, _, rfl, r2, _, _, rfl, r3, rfl⟩
end
end Gx

/-! Gp: loops over ranges, plainly. -/
namespace Gx
open PySem PySem.Spec PyProof.Rows L2
section
variable {α β γ ρ : Type}
theorem intsF_cons (k n : Nat) : intsF (k : Int) (n + 1) = (k : Int) :: intsF ((k + 1 : Nat) : Int) n := by rw [intsF_succ]; rfl
theorem Ok.range_aux {st : β → Int → Option β} {Q : β → Prop} (J : Nat → β → Prop) (n : Nat) (hs : ∀ k b, k < n → J k b → Ok (st b (k : Int)) fun b' => J (k + 1) b') (hq : ∀ b, J n b → Q b) : ∀ (m k : Nat) (b : β), k + m = n → J k b → Ok (Gx.loopN st b (intsF (k : Int) m)) Q
  | 0, k, b, e, h => ⟨b, rfl, hq b (by have : k = n := by omega
                                       exact this ▸ h)⟩
  | m + 1, k, b, e, h => by
    obtain ⟨b', e1, h1⟩ := hs k b (by omega) h
    rw [intsF_cons, loopN_cons e1]
    exact Ok.range_aux J n hs hq m (k + 1) b' (by omega) h1
/-- a loop over range(n) -/
theorem Ok.range {st : β → Int → Option β} {n : Nat} {b : β} {Q : β → Prop} (J : Nat → β → Prop) (h0 : J 0 b) (hs : ∀ k b, k < n → J k b → Ok (st b (k : Int)) fun b' => J (k + 1) b') (hq : ∀ b, J n b → Q b) : Ok (Gx.loopN st b (intsF 0 n)) Q :=
  Ok.range_aux J n hs hq n 0 b (by omega) h0
theorem Ok.rangeM_aux {st : β → Int → Option (Lp β ρ)} {Q : Lp β ρ → Prop} (J : Nat → β → Prop) (n : Nat) (hs : ∀ k b, k < n → J k b → Ok (st b (k : Int)) fun o => match o with | .nx b' => J (k + 1) b' | .bk b' => Q (.bk b') | .rt r => Q (.rt r)) (hq : ∀ b, J n b → Q (.nx b)) : ∀ (m k : Nat) (b : β), k + m = n → J k b → Ok (Gx.loopM st b (intsF (k : Int) m)) Q
  | 0, k, b, e, h => ⟨.nx b, rfl, hq b (by have : k = n := by omega
                                           exact this ▸ h)⟩
  | m + 1, k, b, e, h => by
    obtain ⟨o, e1, h1⟩ := hs k b (by omega) h
    rw [intsF_cons]
    cases o with
    | nx b' => rw [loopM_nx e1]; exact Ok.rangeM_aux J n hs hq m (k + 1) b' (by omega) h1
    | bk b' => exact ⟨.bk b', by rw [Gx.loopM, e1], h1⟩
    | rt r => exact ⟨.rt r, by rw [Gx.loopM, e1], h1⟩
theorem Ok.rangeM {st : β → Int → Option (Lp β ρ)} {n : Nat} {b : β} {Q : Lp β ρ → Prop} (J : Nat → β → Prop) (h0 : J 0 b) (hs : ∀ k b, k < n → J k b → Ok (st b (k : Int)) fun o => match o with | .nx b' => J (k + 1) b' | .bk b' => Q (.bk b') | .rt r => Q (.rt r)) (hq : ∀ b, J n b → Q (.nx b)) : Ok (Gx.loopM st b (intsF 0 n)) Q :=
  Ok.rangeM_aux J n hs hq n 0 b (by omega) h0
/-- a loop over range(n) that appends a few things each time -/
theorem loopN_flat {st : List γ → Int → Option (List γ)} (g : Nat → List γ) (n : Nat) (h : ∀ k < n, st ((List.range k).flatMap g) (k : Int) = some ((List.range k).flatMap g ++ g k)) : Gx.loopN st [] (intsF 0 n) = some ((List.range n).flatMap g) := by
  refine Ok.eq (Ok.range (fun k b => b = (List.range k).flatMap g) rfl (fun k b hk e => ?_) fun b e => e)
  subst e
  refine .of (h k hk) ?_
  rw [List.range_succ, List.flatMap_append, List.flatMap_cons, List.flatMap_nil, List.append_nil]
theorem flat_len {g : Nat → List γ} {m : Nat} (h : ∀ k, (g k).length = m) : ∀ n, ((List.range n).flatMap g).length = n * m
  | 0 => by simp
  | n + 1 => by rw [List.range_succ, List.flatMap_append, List.length_append, flat_len h n, List.flatMap_cons, List.flatMap_nil, List.append_nil, h, Nat.succ_mul]
theorem atI_at {xs : List α} {k : Nat} {x : α} (h : xs[k]? = some x) : L2.atI xs (k : Int) = some x := by
  rw [atI_nn (by omega), Int.toNat_natCast]; exact h
theorem Ok.andOr {a : Option Bool} {P : Bool → Prop} {b : Bool} (h1 : b = true → Ok a P) (h2 : b = false → P false) : Ok (if b = true then a else some false) P := by
  cases b with
  | true => rw [if_pos rfl]; exact h1 rfl
  | false => rw [if_neg Bool.false_ne_true]; exact .ret (h2 rfl)
end
end Gx

/-! Gq: calls that give a new thing; calls and methods that change a private thing. -/
namespace Gx
open PySem PySem.Spec PyProof.Rows L2
open Rp (rp)
open Ra (ra)
open Ob (ob)
section
variable {X : Cx} {K : PySem.W.Frag} {e a b c d : Expr} {es : List Expr} {σ : L2.St} {F H F0 H0 : Hp} {pos : Pos} {D : Ends} {st : Stmt} {rest body : List Stmt}
theorem go_retO {i : Nat} {v : V} {n : Str} {p : Pos} (hσ : σ[i]? = some (some v)) (k : D.rt v H) (hN : X.N[i]? = some n := by rfl) (hv : Vis X.env.scope n := by first | exact Or.inl rfl | exact Or.inr (Or.inl rfl) | exact Or.inr (Or.inr rfl))
    (hd : (n == ("__debug__" : Str)) = false := by decide) (hcd : (n == ("__classdict__" : Str)) = false := by decide) : GoS X (.Return (some (.Name n p)) pos :: rest) D σ H :=
  GoS.cons (ps_ret (pe_var hN hv hd hcd)) ⟨v, hσ, k⟩
theorem go_retE {α : Type} [Rp α] [Ob α] {x : α} (s : SmX X.K F H) (he : EvN X e σ F H x) (k : ∀ l o F' H', Gr F H F' H' → H l = none → F' l = none → H' l = some o → ob X.K F' o x → D.rt (.ref l) H') : GoS X (.Return (some e) pos :: rest) D σ H :=
  GoS.cons (ps_ret pe_go) (he F H (.refl s) _ fun l o F2 H2 g n f h r => k l o F2 H2 g n f h r)
/-! ### a new thing from a call -/
def PrN (K : PySem.W.Frag) {τ ρ : Type} [Ra τ] [Rp ρ] [Ob ρ] (f : τ → Option ρ) : Sp := fun vs H Q _ => ∃ F a r, SmX K F H ∧ ra K F vs a ∧ f a = some r ∧ ∀ l o F' H', Gr F H F' H' → H l = none → F' l = none → H' l = some o → ob K F' o r → Q (.ref l) H'
theorem en_call {τ ρ : Type} [Ra τ] [Rp ρ] [Ob ρ] {f : τ → Option ρ} {y : τ} {r : ρ} {k : Nat} {fa : Addr} {fd : FuncData} {ps : List Str} {x : Str} {p : Pos} (Fn : FnOk X.prog X.w X.K X.mg X.base CX0 k fa fd ps (PrN X.K f)) (hr : Room k X.A) (hm : X.mg x = some (.ref fa))
    (hk : PySem.W.keepIn X.K (.ref fa) = true) (hb : Binds X.K fd ps []) (ha : EvA X (e :: es) σ F H y) (h : f y = some r) (hg : Gl X x := by rfl) (hdb : (x == ("__debug__" : Str)) = false := by decide)
    (he : starEach (e :: es) X.env = (false, eval e X.env) :: starEach es X.env := by rfl) (hpl : (backTo pos (starEach es X.env)).any (·.1) = false := by rfl) : EvN X (.Call (.Name x p) (e :: es) [] pos) σ F H r := fun F1 H1 g Q q =>
  GoE.of (pe_call Fn hr hg hm hk hb .nil pass0 pa_go hdb he hpl) (ha F1 H1 g _ fun vs F2 H2 g2 r2 => ⟨F2, y, r, (g.trans g2).sm, by rw [List.append_nil]; exact r2, h, fun l o F3 H3 g3 n3 f3 h3 r3 => q l o F3 H3 (g2.trans g3) (g2.hh.free n3) f3 h3 r3⟩)
theorem fn_okN {P : Program} {w : World} {mg : Str → Option Value} {base : Heap} {τ ρ : Type} [Ra τ] [RaN τ] [Rp ρ] [Ob ρ] {f : τ → Option ρ} {x qual : Str} {s0 : Stmt} {fa : Addr} {fd : FuncData} {N ps : List Str} {k : Nat} (Fn : FunD K x qual (defArgs s0) (defBody s0) (defScope s0) [] [] fa fd) (S : FnScope N ps (defScope s0)) (hn : RaN.n τ = ps.length)
    (hbody : ∀ (cdv : Value) (A : Around) (outer : List Env) (s : Shared) (F H : Hp) (vs : List V) (a : τ) (r : ρ) (D : Ends) (E : XK), Room k (A.deeper (envOfC qual (defScope s0) s.heap.objs.size fa cdv)) → SmX K F H → ra K F vs a → f a = some r → (∀ l o F' H', GrX K F H F' H' → H l = none → F' l = none → H' l = some o → ob K F' o r → D.rt (.ref l) H') →
      True → GoS (cxOf CX0 P w K mg base N qual (defScope s0) fa cdv A outer s H E).nox (defBody s0) D (start N vs) H) :
    FnOk P w K mg base CX0 (k + 1) fa fd ps (PrN K f) := by
  refine Fn.ok S (fun vs H Q E ⟨F, a, r, _, ra', _⟩ => by rw [RaN.len ra', hn]) fun cdv A outer s H vs Q E hr ⟨F, a, r, sm, ra', hf, k⟩ => ?_
  exact ⟨_, PSs.nox pss_go, hbody cdv A outer s F H vs a r { nx := fun _ H' => Q .non H', rt := Q } E hr sm ra' hf (fun l o F' H' g n f h r => k l o F' H' g.toGr n f h r) trivial⟩
/-! ### a private thing that is changed -/
theorem Gr.erl {F1 H1 F2 H2 H3 : Hp} {l : Addr} {o : HO} (g : Gr F1 H1 F2 H2) (f : F1 l = none) (h : H1 l = some o) (ls : lstish o) (po : pln o) (k : ∀ b, b ≠ l → H3 b = H2 b) (no : ∀ ps, H3 l ≠ some (.tbl ps)) : Gr F1 (er H1 l) F2 H3 := by
  have f2 : F2 l = none := (g.fr l o h ls).trans f
  have h2 := g.hh.k l o h po.ntb
  have un : ∀ b u, er H1 l b = some u → b ≠ l ∧ H1 b = some u := fun b u e => by
    unfold er at e; split at e
    · cases e
    · exact ⟨by assumption, e⟩
  refine ⟨g.ff, fun b u e => ?_, ⟨fun b u e ns => ?_, fun b ps e => ?_, fun P a => ?_⟩, fun b u e n => ?_⟩
  · rw [k b (ne_of_none e f2)]; exact g.fh _ _ e
  · obtain ⟨hb, e⟩ := un b u e
    rw [k b hb]; exact g.hh.k _ _ e ns
  · obtain ⟨hb, e⟩ := un b _ e
    rw [k b hb]; exact g.hh.t _ _ e
  · exact (g.hh.w P ((Xt.start ⟨o, h, po⟩).w P a)).but ⟨o, h2, po⟩ k
  · exact g.fr b u (un b u e).2 n
theorem Own.erl {α : Type} [Rp α] [Ob α] {x : α} {l : Addr} {F2 H2 H3 : Hp} (o : Own K H0 F H l x) (g : Gr F H F2 H2) (k : ∀ b, b ≠ l → H3 b = H2 b) (no : ∀ ps, H3 l ≠ some (.tbl ps)) : Gr F (er H l) F2 H3 := by
  obtain ⟨u, h, r⟩ := o.h
  exact g.erl o.f h (Ob.ls r) (Ob.pl r) k no
theorem no_er {l : Addr} : ∀ ps, er H l l ≠ some (.tbl ps) := fun ps e => by rw [er_same] at e; cases e
theorem no_upd {l : Addr} {u : HO} (h : ntb u) : ∀ ps, upd H l u l ≠ some (.tbl ps) := fun ps e => by rw [upd_same] at e; cases e; exact h
theorem Own.ere {α : Type} [Rp α] [Ob α] {x : α} {l : Addr} {F2 H2 : Hp} (o : Own K H0 F H l x) (g : Gr F H F2 H2) : Gr F (er H l) F2 (er H2 l) := o.erl g (fun b hb => er_ne hb) no_er
/-- e is worth r and turns the thing at l to y -/
def EvM {ρ β : Type} [Rp ρ] [Rp β] [Ob β] (X : Cx) (e : Expr) (σ : L2.St) (F H : Hp) (l : Addr) (r : ρ) (y : β) : Prop := ∀ F1 H1, GrX X.K F H F1 H1 → ∀ Q : VK, (∀ u F2 H2 o, Gr F1 (er H1 l) F2 H2 → F2 l = none → H2 l = some o → ob X.K F2 o y → rp X.K F2 u r → Q u H2) → GoE X e σ H1 Q
def EvAM {τ1 τ2 : Type} [Ra τ1] [Ra τ2] (X : Cx) (es : List Expr) (σ : L2.St) (F H : Hp) (y : τ1) (l : Addr) (z : τ2) : Prop := ∀ F1 H1, GrX X.K F H F1 H1 → ∀ Q : List V → Hp → Prop, (∀ vs1 vs2 F2 H2, Gr F1 H1 F2 H2 → ra X.K F2 vs1 y → ra X.K F2 vs2 z → Q (vs1 ++ .ref l :: vs2) H2) → GoA X es σ H1 Q
theorem eam_here {τ2 : Type} [Ra τ2] {z : τ2} {l : Addr} {n : Str} {p : Pos} (i : Nat) (hσ : σ[i]? = some (some (.ref l))) (hr : EvA X es σ F H z) (hN : X.N[i]? = some n := by rfl) (hv : Vis X.env.scope n := by first | exact Or.inl rfl | exact Or.inr (Or.inl rfl) | exact Or.inr (Or.inr rfl))
    (hd : (n == ("__debug__" : Str)) = false := by decide) (hcd : (n == ("__classdict__" : Str)) = false := by decide) (hs : starEach (.Name n p :: es) X.env = (false, eval (.Name n p) X.env) :: starEach es X.env := by rfl) : EvAM X (.Name n p :: es) σ F H () l z := fun F1 H1 g Q q =>
  GoA.of (pa_cons (pe_var hN hv hd hcd) pa_go hs) ⟨_, hσ, hr F1 H1 g _ fun vs F2 H2 g2 r2 => q [] vs F2 H2 g2 rfl r2⟩
theorem eam_cons {α τ1 τ2 : Type} [Rp α] [Ra τ1] [Ra τ2] {x : α} {y : τ1} {z : τ2} {l : Addr} (ha : Ev X e σ F H x) (hr : EvAM X es σ F H y l z) (hs : starEach (e :: es) X.env = (false, eval e X.env) :: starEach es X.env := by rfl) : EvAM X (e :: es) σ F H (x, y) l z := fun F1 H1 g Q q =>
  GoA.of (pa_cons pe_go pa_go hs) (ha F1 H1 g _ fun v F2 H2 g2 r2 => hr F2 H2 (g.trans g2) _ fun vs1 vs2 F3 H3 g3 r3 r4 => q (v :: vs1) vs2 F3 H3 (g2.trans g3) ⟨v, vs1, rfl, Rp.mono g3.ff r2, r3⟩ r4)
/-- the promise of a def that changes the thing that is handed in at one place -/
def PrM (K : PySem.W.Frag) {τ1 τ2 β ρ : Type} [Ra τ1] [Ra τ2] [Rp β] [Ob β] [Rp ρ] (f : τ1 → β → τ2 → Option (ρ × β)) : Sp := fun vs H Q _ => ∃ F ws1 l ws2 o a1 x a2 r, vs = ws1 ++ .ref l :: ws2 ∧ SmX K F H ∧ ra K F ws1 a1 ∧ ra K F ws2 a2 ∧ F l = none ∧ H l = some o ∧ ob K F o x ∧ f a1 x a2 = some r ∧
  ∀ F' H' u o', Gr F (er H l) F' H' → F' l = none → H' l = some o' → ob K F' o' r.2 → rp K F' u r.1 → Q u H'
theorem em_call {τ1 τ2 β ρ : Type} [Ra τ1] [Ra τ2] [Rp β] [Ob β] [Rp ρ] {f : τ1 → β → τ2 → Option (ρ × β)} {y : τ1} {z : τ2} {xx : β} {r : ρ × β} {l : Addr} {k : Nat} {fa : Addr} {fd : FuncData} {ps : List Str} {x : Str} {p : Pos} (Fn : FnOk X.prog X.w X.K X.mg X.base CX0 k fa fd ps (PrM X.K f)) (hr : Room k X.A) (hm : X.mg x = some (.ref fa))
    (hk : PySem.W.keepIn X.K (.ref fa) = true) (hb : Binds X.K fd ps []) (o : Own X.K H0 F H l xx) (ha : EvAM X (e :: es) σ F H y l z) (h : f y xx z = some r) (hg : Gl X x := by rfl) (hdb : (x == ("__debug__" : Str)) = false := by decide)
    (he : starEach (e :: es) X.env = (false, eval e X.env) :: starEach es X.env := by rfl) (hpl : (backTo pos (starEach es X.env)).any (·.1) = false := by rfl) : EvM X (.Call (.Name x p) (e :: es) [] pos) σ F H l r.1 r.2 := fun F1 H1 g Q q =>
  GoE.of (pe_call Fn hr hg hm hk hb .nil pass0 pa_go hdb he hpl) (ha F1 H1 g _ fun vs1 vs2 F2 H2 g2 r2 r3 => by
    have o1 := o.up g.toGr
    have o2 := o1.up g2
    obtain ⟨u, hu, ru⟩ := o2.h
    exact ⟨F2, vs1, l, vs2, u, y, xx, z, r, by rw [List.append_nil], (g.trans g2).sm, r2, r3, o2.f, hu, ru, h, fun F3 H3 v o' g3 f3 h3 b3 r3 => q v F3 H3 o' ((o1.ere g2).trans g3) f3 h3 b3 r3⟩)
theorem fn_okM {P : Program} {w : World} {mg : Str → Option Value} {base : Heap} {τ1 τ2 β ρ : Type} [Ra τ1] [RaN τ1] [Ra τ2] [RaN τ2] [Rp β] [Ob β] [Rp ρ] {f : τ1 → β → τ2 → Option (ρ × β)} {x qual : Str} {s0 : Stmt} {fa : Addr} {fd : FuncData} {N ps : List Str} {k : Nat} (Fn : FunD K x qual (defArgs s0) (defBody s0) (defScope s0) [] [] fa fd) (S : FnScope N ps (defScope s0)) (hn : RaN.n τ1 + (RaN.n τ2 + 1) = ps.length)
    (hbody : ∀ (cdv : Value) (A : Around) (outer : List Env) (s : Shared) (F H0 H : Hp) (l : Addr) (vs1 vs2 : List V) (a1 : τ1) (x : β) (a2 : τ2) (r : ρ × β) (D : Ends) (E : XK), Room k (A.deeper (envOfC qual (defScope s0) s.heap.objs.size fa cdv)) → GrX K F H0 F H → Own K H0 F H l x → ra K F vs1 a1 → ra K F vs2 a2 → f a1 x a2 = some r →
      (∀ F' H' u o', GrX K F H0 F' H' → F' l = none → H' l = some o' → ob K F' o' r.2 → rp K F' u r.1 → D.rt u H') → (∀ σ' F' H' o', GrX K F H0 F' H' → F' l = none → H' l = some o' → ob K F' o' r.2 → rp K F' .non r.1 → D.nx σ' H') → GoS (cxOf CX0 P w K mg base N qual (defScope s0) fa cdv A outer s H E).nox (defBody s0) D (start N (vs1 ++ .ref l :: vs2)) H) :
    FnOk P w K mg base CX0 (k + 1) fa fd ps (PrM K f) := by
  refine Fn.ok S (fun vs H Q E ⟨F, ws1, l, ws2, o, a1, x, a2, r, e, _, r1, r2, _⟩ => by rw [e, List.length_append, List.length_cons, RaN.len r1, RaN.len r2, hn]) fun cdv A outer s H vs Q E hr ⟨F, ws1, l, ws2, o, a1, x, a2, r, e, sm, r1, r2, fl, hl, bo, hf, k⟩ => ?_
  subst e
  exact ⟨_, PSs.nox pss_go, hbody cdv A outer s F (er H l) H l ws1 ws2 a1 x a2 r { nx := fun _ H' => Q .non H', rt := Q } E hr ⟨Gr.start sm.s fl ⟨o, hl, Ob.pl bo⟩, sm.h⟩ ⟨er_same, fl, o, hl, bo⟩ r1 r2 hf (fun F' H' u o' g f h b r => k F' H' u o' g.toGr f h b r) fun σ' F' H' o' g f h b r => k F' H' .non o' g.toGr f h b r⟩
/-! ### statements by such expressions -/
theorem go_exprM {ρ β : Type} [Rp ρ] [Rp β] [Ob β] {r : ρ} {y : β} {l : Addr} (s : SmX X.K F H) (he : EvM X e σ F H l r y) (k : ∀ F' H' o, Gr F (er H l) F' H' → F' l = none → H' l = some o → ob X.K F' o y → GoS X rest D σ H') (hs : swapsWith e none pos.line X.env = pure false := by rfl) : GoS X (.Expr e pos :: rest) D σ H :=
  GoS.cons (ps_expr pe_go hs) (he F H (.refl s) _ fun v F2 H2 o g f h b r => k F2 H2 o g f h b)
theorem go_setM {ρ β : Type} [Rp ρ] [Rp β] [Ob β] {r : ρ} {y : β} {l : Addr} {n : Str} {p : Pos} (i : Nat) (s : SmX X.K F H) (he : EvM X e σ F H l r y) (k : ∀ v F' H' o, Gr F (er H l) F' H' → F' l = none → H' l = some o → ob X.K F' o y → rp X.K F' v r → GoS X rest D (σ.set i (some v)) H') (hN : X.N.Nodup) (hi : X.N[i]? = some n := by rfl)
    (hx : Loc X.env.scope n := by first | exact Or.inl rfl | exact Or.inr rfl) (hs : swapsWith e (some (.Name n p)) pos.line X.env = pure false := by rfl) (hf : X.fn n = true ∨ X.env.scope.names.lookup n = some .local := by first | exact .inl rfl | exact .inr rfl) :
    GoS X (.Assign [.Name n p] e pos :: rest) D σ H :=
  GoS.cons (ps_set hN hi hx pe_go hs hf) (he F H (.refl s) _ fun v F2 H2 o g f h b r => k v F2 H2 o g f h b r)
theorem go_retM {ρ β : Type} [Rp ρ] [Rp β] [Ob β] {r : ρ} {y : β} {l : Addr} (s : SmX X.K F H) (he : EvM X e σ F H l r y) (k : ∀ v F' H' o, Gr F (er H l) F' H' → F' l = none → H' l = some o → ob X.K F' o y → rp X.K F' v r → D.rt v H') : GoS X (.Return (some e) pos :: rest) D σ H :=
  GoS.cons (ps_ret pe_go) (he F H (.refl s) _ fun v F2 H2 o g f h b r => k v F2 H2 o g f h b r)
theorem go_appendM {ρ β : Type} [Rp ρ] [Rp β] [Ob β] {y : β} {l : Addr} {xs : List ρ} {w : ρ} {r : List ρ} {l2 : Addr} {n : Str} {p1 p2 p3 : Pos} (i : Nat) (s : SmX X.K F H) (o : Own X.K H0 F H l2 xs) (hne : l2 ≠ l) (hσ : σ[i]? = some (some (.ref l2))) (he : EvM X e σ F H l w y) (h : app xs w = some r)
    (k : ∀ u F' H' o', Gr F (er H l) F' H' → F' l = none → H' l = some o' → ob X.K F' o' y → PlAt H' l2 → F' l2 = none → Own X.K H0 F' (upd H' l2 u) l2 r → GoS X rest D σ (upd H' l2 u)) (hN : X.N[i]? = some n := by rfl) (hv : Vis X.env.scope n := by first | exact Or.inl rfl | exact Or.inr (Or.inl rfl) | exact Or.inr (Or.inr rfl))
    (hd : (n == ("__debug__" : Str)) = false := by decide) (hcd : (n == ("__classdict__" : Str)) = false := by decide) 
    (hbase : attributeBase (.Name n p1) "append" X.env (eval (.Name n p1) X.env) = eval (.Name n p1) X.env := by rfl)
    (hfew : ((backTo p3 (starEach [e] X.env)).all (fun x => !x.1) && (backToKw p3 (keywordEach [] X.env)).all (fun x => x.1.isSome) && decide ([e].length + ([] : List Keyword).length + (if ([] : List Keyword).isEmpty then 0 else 1) < 30)) = true := by rfl)
    (hline : (p2.endLine == p3.line) = true := by rfl) (hs : starEach [e] X.env = (false, eval e X.env) :: starEach [] X.env := by rfl) (hplain : (backTo p3 (starEach [] X.env)).any (·.1) = false := by rfl) (hsw : swapsWith (.Call (.Attribute (.Name n p1) "append" p2) [e] [] p3) none pos.line X.env = pure false := by rfl) :
    GoS X (.Expr (.Call (.Attribute (.Name n p1) "append" p2) [e] [] p3) pos :: rest) D σ H := by
  obtain ⟨_, hl, vs, rfl, rs⟩ := o.h
  obtain ⟨hz, rfl⟩ := app_of h
  refine GoS.cons (ps_expr (pe_bm PySem.F.plainAttrs_list PySem.F.slot_list_append PySem.F.type_list_append mt_append (pe_var hN hv hd hcd) (pa_cons pe_go pa_nil hs) hbase hfew hline hs hplain) hsw) ?_
  refine ⟨_, hσ, .inl ⟨rfl, _, SqL.of hl⟩, he F H (.refl s) _ fun v F2 H2 o' g f2 h2 b2 r => ?_⟩
  have o2 := o.over hne g
  obtain ⟨_, hl2, vs2, rfl, rs2⟩ := o2.h
  have hl3 : H2 l2 = some (.lst vs) := g.hh.k _ _ (by rw [er_ne hne]; exact hl) trivial
  rw [hl2] at hl3; cases hl3
  exact ⟨l2, vs, v, rfl, rfl, hl2, by rw [rs2.length]; exact hz, k _ F2 H2 o' g f2 h2 b2 o2.pl o2.f (Own.set o2.n o2.f (ob_lst (Rps.append rs2 (.cons r .nil))))⟩
/-! ### pop -/
theorem Rps.erase {α : Type} [Rp α] : ∀ {vs : List V} {xs : List α} (n : Nat), Rps K F vs xs → Rps K F (vs.eraseIdx n) (xs.eraseIdx n)
  | _, _, _, .nil => by simp; exact .nil
  | _, _, 0, .cons _ t => t
  | _, _, n + 1, .cons r t => .cons r (Rps.erase n t)
def popG {α : Type} (xs : List α) (i : Int) : Option (α × List α) := if -(2 ^ 62) ≤ i ∧ i < 2 ^ 62 then match seqIndex? i xs.length with
    | some k => (xs[k]?).map fun y => (y, xs.eraseIdx k)
    | none => none
  else none
theorem popG_of {α : Type} {xs : List α} {i : Int} {r : α × List α} (h : popG xs i = some r) : ∃ k, -(2 ^ 62) ≤ i ∧ i < 2 ^ 62 ∧ seqIndex? i xs.length = some k ∧ xs[k]? = some r.1 ∧ r.2 = xs.eraseIdx k := by
  unfold popG at h
  split at h
  case isFalse => cases h
  rename_i hi
  cases e : seqIndex? i xs.length with
  | none => rw [e] at h; cases h
  | some k =>
    rw [e] at h
    obtain ⟨y, h1, h2⟩ := Option.map_eq_some_iff.mp h
    subst h2
    exact ⟨k, hi.1, hi.2, rfl, h1, rfl⟩
theorem em_pop1 {α : Type} [Rp α] {xs : List α} {k : Int} {r : α × List α} {l : Addr} {n : Str} {p1 p2 p3 : Pos} (i : Nat) (o : Own X.K H0 F H l xs) (hσ : σ[i]? = some (some (.ref l))) (he : Ev X e σ F H k) (h : popG xs k = some r)
    (hN : X.N[i]? = some n := by rfl) (hv : Vis X.env.scope n := by first | exact Or.inl rfl | exact Or.inr (Or.inl rfl) | exact Or.inr (Or.inr rfl))
    (hd : (n == ("__debug__" : Str)) = false := by decide) (hcd : (n == ("__classdict__" : Str)) = false := by decide) 
    (hbase : attributeBase (.Name n p1) "pop" X.env (eval (.Name n p1) X.env) = eval (.Name n p1) X.env := by rfl)
    (hfew : ((backTo p3 (starEach [e] X.env)).all (fun x => !x.1) && (backToKw p3 (keywordEach [] X.env)).all (fun x => x.1.isSome) && decide ([e].length + ([] : List Keyword).length + (if ([] : List Keyword).isEmpty then 0 else 1) < 30)) = true := by rfl)
    (hline : (p2.endLine == p3.line) = true := by rfl) (hs : starEach [e] X.env = (false, eval e X.env) :: starEach [] X.env := by rfl) (hplain : (backTo p3 (starEach [] X.env)).any (·.1) = false := by rfl) :
    EvM X (.Call (.Attribute (.Name n p1) "pop" p2) [e] [] p3) σ F H l r.1 r.2 := fun F1 H1 g Q q => by
  have o1 := o.up g.toGr
  obtain ⟨_, hl, vs, rfl, rs⟩ := o1.h
  obtain ⟨j, b1, b2, hj, hy, e2⟩ := popG_of h
  refine GoE.of (pe_bm PySem.F.plainAttrs_list PySem.F.slot_list_pop PySem.F.type_list_pop mt_popAt (pe_var hN hv hd hcd) (pa_cons pe_go pa_nil hs) hbase hfew hline hs hplain) ?_
  refine ⟨_, hσ, .inl ⟨rfl, _, SqL.of hl⟩, he F1 H1 g _ fun v F2 H2 g2 r2 => ?_⟩
  have hl2 := g2.hh.k _ _ hl trivial
  have rs2 := rs.mono g2.ff
  obtain ⟨y, hy1, ry⟩ := rs2.get hy
  refine ⟨l, vs, k, j, y, rfl, by rw [show v = .int k from r2], hl2, Int.le_trans (by decide) b1, Int.lt_trans b2 (by decide), by rw [rs.length]; exact hj, hy1, ?_⟩
  exact q y F2 _ _ (o1.erl g2 (fun b hb => upd_ne hb) (no_upd trivial)) (o1.up g2).f upd_same (by rw [e2]; exact ob_lst (rs2.erase j)) ry
theorem seqIndex_nat {i : Int} {n : Nat} (h0 : 0 ≤ i) (h1 : i < n) : seqIndex? i n = some i.toNat := by
  have e1 : (if i < 0 then i + (n : Int) else i) = i := if_neg (by omega)
  unfold seqIndex?
  simp only [e1]
  rw [if_pos (by rw [decide_eq_true h0, decide_eq_true h1]; rfl)]
theorem popG_p {α : Type} {xs : List α} {i : Int} {y : α} (h0 : 0 ≤ i) (hs : xs.length < 1000000) (h : xs[i.toNat]? = some y) : popG xs i = some (y, xs.eraseIdx i.toNat) := by
  have := (List.getElem?_eq_some_iff.mp h).1
  unfold popG
  rw [if_pos ⟨by omega, by omega⟩, seqIndex_nat h0 (by omega)]
  simp only [h, Option.map_some]
/-! ### more than one part -/
theorem em_tup2a {α ρ β : Type} [Rp α] [Rp ρ] [Rp β] [Ob β] {r : ρ} {y xx : β} {z : α} {l : Addr} {k : Nat} (o : Own X.K H0 F H l xx) (ha : EvM X a σ F H l r y) (hb : Ev X b σ F (er H l) z) (hs : starEach [a, b] X.env = (false, eval a X.env) :: starEach [b] X.env := by rfl) (hs2 : starEach [b] X.env = (false, eval b X.env) :: starEach [] X.env := by rfl) : EvM X (.Tuple [a, b] k pos) σ F H l (T2.mk r z) y := fun F1 H1 g Q q =>
  GoE.of (pe_tup (pa_cons pe_go (pa_cons pe_go pa_nil hs2) hs)) (ha F1 H1 g _ fun u F2 H2 o' g2 f2 h2 b2 r2 => hb F2 H2 (.pre (o.ere g.toGr) ⟨g2, (g.h.er (o.up g.toGr).pl).up g2⟩) _ fun v F3 H3 g3 r3 => ⟨by show 2 ≤ sizeLine; decide, fun p hp => by
    have f3 : F3 l = none := (g3.fr l _ h2 (Ob.ls b2)).trans f2
    have h3 := g3.hh.k _ _ h2 (Ob.pl b2).ntb
    have g4 : Gr F3 H3 (upd F3 p (.tup [u, v])) (upd H3 p (.tup [u, v])) := Gr.new g3.fh hp trivial
    have hlp : l ≠ p := ne_of_none h3 hp
    exact q (.ref p) _ _ o' ((g2.trans g3).trans g4) (by rw [upd_ne hlp]; exact f3) (by rw [upd_ne hlp]; exact h3) (Ob.mono (g3.ff.trans g4.ff) b2) ⟨p, _, rfl, upd_same, u, _, rfl, Rp.mono (g3.ff.trans g4.ff) r2, v, _, rfl, Rp.mono g4.ff r3, rfl⟩⟩)
theorem em_thaw {ρ β γ : Type} [Rp ρ] [Flat ρ] [Rp β] [Ob β] [FlatO β] [Rp γ] [Ob γ] {x : ρ} {z : β} {y : γ} {l l2 : Addr} (o : Own X.K H0 F H l y) (hne : l2 ≠ l) (s : L2.Same F H) (h : ∀ F' H', L2.Same F F' → L2.Same F' H' → rp X.K F' (.ref l) y → (∀ a, a ≠ l → F' a = F a ∧ H' a = H a) → EvM X e σ F' H' l2 x z) : EvM X e σ F H l2 x z := fun F1 H1 g Q q => by
  obtain ⟨u, hl, r⟩ := o.h
  have hl1 := g.hh.k _ _ hl (Ob.pl r).ntb
  refine GoE.locked hl1 (Ob.mu r) fun od => ?_
  obtain ⟨g1, f1, h1⟩ := GrX.show_ (u := .frz od u) hl o.f (Ob.ls r) (Ob.pl r) g
  refine h _ _ (same_upd o.f) (shown s) (Ob.fz upd_same (Ob.mono (same_upd o.f) r)) (fun a ha => ⟨upd_ne ha, upd_ne ha⟩) _ _ g1 _ fun v F2 H2 o2 g2 f2 h2 b2 r2 => ?_
  have e1 : er (upd H1 l (.frz od u)) l2 = upd (er H1 l2) l (.frz od u) := by
    funext b
    unfold er upd
    by_cases hb : b = l
    · subst hb; rw [if_neg (fun z => hne z.symm), if_pos rfl, if_pos rfl]
    · rw [if_neg hb, if_neg hb]
  rw [e1] at g2
  have e2 : F2 l = some (.frz od u) := g2.ff _ _ upd_same
  obtain ⟨n1, n2⟩ := frz_no e2 (Ob.ls r)
  have g3 := Gr.hide (F1 := F1) (H1 := er H1 l2) (l := l) (o := u) (by rw [er_ne (fun z => hne z.symm)]; exact h1) f1 (Ob.pl r) g2
  refine ⟨g2.fh _ _ e2, q v (er F2 l) _ o2 g3 ?_ ?_ (FlatO.fl n1 n2 b2) (Flat.fl n1 n2 r2)⟩
  · rw [er_ne hne]; exact f2
  · rw [upd_ne hne]; exact h2
end
end Gx

/-! Gs: defs that give a new thing or change one; more methods of lists and dicts. -/
namespace Gx
open PySem PySem.Spec PyProof.Rows L2
open Rp (rp)
open Ra (ra)
open Ob (ob)
section
variable {X : Cx} {K : PySem.W.Frag} {e a b c d : Expr} {es : List Expr} {σ : L2.St} {F H F0 H0 : Hp} {pos : Pos} {D : Ends} {st : Stmt} {rest body : List Stmt}
theorem Own.own {α : Type} [Rp α] [Ob α] {x : α} {l : Addr} {o : HO} {H1 : Hp} (g : Gr H1 H0 F H) : True := trivial
/-- a def that gives a new thing -/
theorem fn_okN' {P : Program} {w : World} {mg : Str → Option Value} {base : Heap} {τ ρ : Type} [Ra τ] [RaN τ] [Rp ρ] [Ob ρ] {f : τ → Option ρ} {x qual : Str} {s0 : Stmt} {fa : Addr} {fd : FuncData} {N ps : List Str} {k : Nat} (Fn : FunD K x qual (defArgs s0) (defBody s0) (defScope s0) [] [] fa fd) (S : FnScope N ps (defScope s0)) (hn : RaN.n τ = ps.length)
    (hbody : ∀ (cdv : Value) (A : Around) (outer : List Env) (s : Shared) (F H : Hp) (vs : List V) (a : τ) (r : ρ) (D : Ends) (E : XK), Room k (A.deeper (envOfC qual (defScope s0) s.heap.objs.size fa cdv)) → SmX K F H → ra K F vs a → f a = some r → (∀ l F' H', GrX K F H F' H' → Own K H F' H' l r → D.rt (.ref l) H') →
      True → GoS (cxOf CX0 P w K mg base N qual (defScope s0) fa cdv A outer s H E).nox (defBody s0) D (start N vs) H) :
    FnOk P w K mg base CX0 (k + 1) fa fd ps (PrN K f) :=
  fn_okN Fn S hn fun cdv A outer s F H vs a r D E hr sm ra' hf kr _ => hbody cdv A outer s F H vs a r D E hr sm ra' hf (fun l F' H' g o => by
    obtain ⟨u, h, b⟩ := o.h
    exact kr l u F' H' g o.n o.f h b) trivial
theorem go_retO' {α : Type} [Rp α] [Ob α] {x : α} {l : Addr} {n : Str} {p : Pos} (i : Nat) (hσ : σ[i]? = some (some (.ref l))) (k : D.rt (.ref l) H) (hN : X.N[i]? = some n := by rfl) (hv : Vis X.env.scope n := by first | exact Or.inl rfl | exact Or.inr (Or.inl rfl) | exact Or.inr (Or.inr rfl))
    (hd : (n == ("__debug__" : Str)) = false := by decide) (hcd : (n == ("__classdict__" : Str)) = false := by decide) : GoS X (.Return (some (.Name n p)) pos :: rest) D σ H := go_retO hσ k hN hv hd hcd
/-- a def that changes the thing handed in at one place -/
theorem fn_okM' {P : Program} {w : World} {mg : Str → Option Value} {base : Heap} {τ1 τ2 β ρ : Type} [Ra τ1] [RaN τ1] [Ra τ2] [RaN τ2] [Rp β] [Ob β] [Rp ρ] {f : τ1 → β → τ2 → Option (ρ × β)} {x qual : Str} {s0 : Stmt} {fa : Addr} {fd : FuncData} {N ps : List Str} {k : Nat} (Fn : FunD K x qual (defArgs s0) (defBody s0) (defScope s0) [] [] fa fd) (S : FnScope N ps (defScope s0)) (hn : RaN.n τ1 + (RaN.n τ2 + 1) = ps.length)
    (hbody : ∀ (cdv : Value) (A : Around) (outer : List Env) (s : Shared) (F H0 H : Hp) (l : Addr) (vs1 vs2 : List V) (a1 : τ1) (x : β) (a2 : τ2) (r : ρ × β) (D : Ends) (E : XK), Room k (A.deeper (envOfC qual (defScope s0) s.heap.objs.size fa cdv)) → GrX K F H0 F H → Own K H0 F H l x → ra K F vs1 a1 → ra K F vs2 a2 → f a1 x a2 = some r →
      (∀ F' H' u, GrX K F H0 F' H' → Own K H0 F' H' l r.2 → rp K F' u r.1 → D.rt u H') → (∀ σ' F' H', GrX K F H0 F' H' → Own K H0 F' H' l r.2 → rp K F' .non r.1 → D.nx σ' H') → GoS (cxOf CX0 P w K mg base N qual (defScope s0) fa cdv A outer s H E).nox (defBody s0) D (start N (vs1 ++ .ref l :: vs2)) H) :
    FnOk P w K mg base CX0 (k + 1) fa fd ps (PrM K f) :=
  fn_okM Fn S hn fun cdv A outer s F H0 H l vs1 vs2 a1 x a2 r D E hr g o r1 r2 hf kr kn => hbody cdv A outer s F H0 H l vs1 vs2 a1 x a2 r D E hr g o r1 r2 hf
    (fun F' H' u g o r => by
      obtain ⟨v, h, b⟩ := o.h
      exact kr F' H' u v g o.f h b r)
    (fun σ' F' H' g o r => by
      obtain ⟨v, h, b⟩ := o.h
      exact kn σ' F' H' v g o.f h b r)
theorem Own.mk' {α : Type} [Rp α] [Ob α] {y : α} {l : Addr} {o : HO} (n : H0 l = none) (f : F l = none) (h : H l = some o) (b : ob K F o y) : Own K H0 F H l y := ⟨n, f, o, h, b⟩
/-! ### pop, extend, insert, reverse, clear -/
def popE {α : Type} (xs : List α) : Option (α × List α) := match xs.getLast? with
  | some y => some (y, xs.dropLast)
  | none => none
theorem popE_of {α : Type} {xs : List α} {r : α × List α} (h : popE xs = some r) : xs[xs.length - 1]? = some r.1 ∧ r.2 = xs.dropLast := by
  unfold popE at h
  rw [List.getLast?_eq_getElem?] at h
  cases e : xs[xs.length - 1]? with
  | none => rw [e] at h; cases h
  | some y => rw [e] at h; cases h; exact ⟨rfl, rfl⟩
theorem popE_p {α : Type} {xs : List α} {y : α} : popE (xs ++ [y]) = some (y, xs) := by unfold popE; simp
theorem Rps.dropLast {α : Type} [Rp α] {vs : List V} {xs : List α} (h : Rps K F vs xs) : Rps K F vs.dropLast xs.dropLast := by
  rw [List.dropLast_eq_take, List.dropLast_eq_take, h.length]; exact Rps.take _ h
theorem Rps.reverse {α : Type} [Rp α] : ∀ {vs : List V} {xs : List α}, Rps K F vs xs → Rps K F vs.reverse xs.reverse
  | _, _, .nil => .nil
  | _, _, .cons r t => by rw [List.reverse_cons, List.reverse_cons]; exact Rps.append (Rps.reverse t) (.cons r .nil)
section
variable {α : Type} [Rp α] {xs : List α} {l : Addr} {n : Str} {p1 p2 p3 : Pos}
theorem em_pop0 {r : α × List α} (i : Nat) (o : Own X.K H0 F H l xs) (hσ : σ[i]? = some (some (.ref l))) (h : popE xs = some r) (hN : X.N[i]? = some n := by rfl) (hv : Vis X.env.scope n := by first | exact Or.inl rfl | exact Or.inr (Or.inl rfl) | exact Or.inr (Or.inr rfl))
    (hd : (n == ("__debug__" : Str)) = false := by decide) (hcd : (n == ("__classdict__" : Str)) = false := by decide) (hbase : attributeBase (.Name n p1) "pop" X.env (eval (.Name n p1) X.env) = eval (.Name n p1) X.env := by rfl) (hline : (p2.endLine == p3.line) = true := by rfl) :
    EvM X (.Call (.Attribute (.Name n p1) "pop" p2) [] [] p3) σ F H l r.1 r.2 := fun F1 H1 g Q q => by
  have o1 := o.up g.toGr
  obtain ⟨_, hl, vs, rfl, rs⟩ := o1.h
  obtain ⟨hy, e2⟩ := popE_of h
  refine GoE.of (pe_bm0 PySem.F.plainAttrs_list PySem.F.slot_list_pop PySem.F.type_list_pop mt_pop (pe_var hN hv hd hcd) hbase hline) ?_
  obtain ⟨y, hy1, ry⟩ := rs.get hy
  refine ⟨_, hσ, .inl ⟨rfl, _, SqL.of hl⟩, l, vs, y, rfl, rfl, hl, by rw [rs.length]; exact hy1, ?_⟩
  exact q y F1 _ _ (o1.erl (.refl g.fh) (fun b hb => upd_ne hb) (no_upd trivial)) o1.f upd_same (by rw [e2]; exact ob_lst rs.dropLast) ry
theorem em_reverse (i : Nat) (o : Own X.K H0 F H l xs) (hσ : σ[i]? = some (some (.ref l))) (hN : X.N[i]? = some n := by rfl) (hv : Vis X.env.scope n := by first | exact Or.inl rfl | exact Or.inr (Or.inl rfl) | exact Or.inr (Or.inr rfl))
    (hd : (n == ("__debug__" : Str)) = false := by decide) (hcd : (n == ("__classdict__" : Str)) = false := by decide) (hbase : attributeBase (.Name n p1) "reverse" X.env (eval (.Name n p1) X.env) = eval (.Name n p1) X.env := by rfl) (hline : (p2.endLine == p3.line) = true := by rfl) :
    EvM X (.Call (.Attribute (.Name n p1) "reverse" p2) [] [] p3) σ F H l () xs.reverse := fun F1 H1 g Q q => by
  have o1 := o.up g.toGr
  obtain ⟨_, hl, vs, rfl, rs⟩ := o1.h
  refine GoE.of (pe_bm0 PySem.F.plainAttrs_list PySem.F.slot_list_reverse PySem.F.type_list_reverse mt_reverse (pe_var hN hv hd hcd) hbase hline) ?_
  exact ⟨_, hσ, .inl ⟨rfl, _, SqL.of hl⟩, l, vs, rfl, rfl, hl, q .non F1 _ _ (o1.erl (.refl g.fh) (fun b hb => upd_ne hb) (no_upd trivial)) o1.f upd_same (ob_lst rs.reverse) rfl⟩
theorem em_clear (i : Nat) (o : Own X.K H0 F H l xs) (hσ : σ[i]? = some (some (.ref l))) (hN : X.N[i]? = some n := by rfl) (hv : Vis X.env.scope n := by first | exact Or.inl rfl | exact Or.inr (Or.inl rfl) | exact Or.inr (Or.inr rfl))
    (hd : (n == ("__debug__" : Str)) = false := by decide) (hcd : (n == ("__classdict__" : Str)) = false := by decide) (hbase : attributeBase (.Name n p1) "clear" X.env (eval (.Name n p1) X.env) = eval (.Name n p1) X.env := by rfl) (hline : (p2.endLine == p3.line) = true := by rfl) :
    EvM X (.Call (.Attribute (.Name n p1) "clear" p2) [] [] p3) σ F H l () ([] : List α) := fun F1 H1 g Q q => by
  have o1 := o.up g.toGr
  obtain ⟨_, hl, vs, rfl, rs⟩ := o1.h
  refine GoE.of (pe_bm0 PySem.F.plainAttrs_list PySem.F.slot_list_clear PySem.F.type_list_clear mt_clear (pe_var hN hv hd hcd) hbase hline) ?_
  exact ⟨_, hσ, .inl ⟨rfl, _, SqL.of hl⟩, l, vs, rfl, rfl, hl, q .non F1 _ _ (o1.erl (.refl g.fh) (fun b hb => upd_ne hb) (no_upd trivial)) o1.f upd_same (ob_lst .nil) rfl⟩
theorem list_extendW (l : Addr) (items : Array Value) (n : Nat) (b : Addr) (items2 : Array Value) (n2 : Nat) (dd2 : Option Addr) (sl2 : Array (Option Value)) (hc0 : ¬(!items.isEmpty && Builtin.List.listTooLong (items.size + items2.size)) = true) (hc1 : items.size ≤ sizeLine) (hs2 : items.size + items2.size ≤ sizeLine + 1) :
    Meets (Builtin.«list.extend» ⟨[.ref l, .ref b], []⟩) (fun _ R s => s.heap.get? l = some { cls := .type "list", dict := none, data := .seq items n, slots := #[] } ∧ s.heap.get? b = some { cls := .type "list", dict := dd2, data := .seq items2 n2, slots := sl2 } ∧ R (.ok (.ret Value.none)) { s with heap := s.heap.update l (Obj.mapSeq fun x => x ++ items2), toks := s.toks }) :=
  .of_wp fun prog w A R s h => by
    obtain ⟨hp, g, d, tk, os⟩ := s; obtain ⟨hl, hb, h⟩ := h; have f1 := AutoSeq1.idx_int; have f2 := AutoSeq1.sub_tuple_tuple; have f3 := AutoSeq1.sub_list_list; have f4 := AutoSeq1.sub_tuple_list; have f5 := AutoSeq1.sub_list_tuple;
    have hz' : (items ++ items2).size ≤ sizeLine + 1 := by rw [Array.size_append]; exact hs2
    wp_walk using (wpAny_updateSeq hl rfl (hz := hc1) (_hz' := hz')), wpAny_loadPart' hl, wpAny_loadPart' hb; exact ⟨_, rfl, h⟩
def rExtendF (K : PySem.W.Frag) : V → List V → Hp → VK → Prop := fun x vs H Q => ∃ l b xs zs, x = .ref l ∧ vs = [.ref b] ∧ H l = some (.lst xs) ∧ SqL K H b zs ∧ xs.length + zs.length ≤ sizeLine ∧ Q .non (upd H l (.lst (xs ++ zs)))
theorem mt_extendF : MtR X "list.extend" (rExtendF X.K) := by
  intro pins s σ H x vs v us Q I rx rv h
  obtain ⟨l, b, xs, zs, rfl, rfl, hH, hB, hz, q⟩ := h
  cases rx
  obtain ⟨u, rfl, ru⟩ := rv.one
  cases ru
  obtain ⟨z, its, n, r, hl, e⟩ := I.lstM hH
  obtain ⟨its2, r2, ⟨⟨cls2, dd2, data2, sl2⟩, n2, ho2, hc2, _, hd2⟩, _⟩ := I.list hB
  simp only at hc2 hd2
  subst hc2 hd2
  have l2 := r2.length
  have hsz : its.toArray.size + its2.toArray.size ≤ sizeLine := by rw [List.size_toArray, List.size_toArray]; omega
  have hlong : ¬ (!its.toArray.isEmpty && Builtin.List.listTooLong (its.toArray.size + its2.toArray.size)) = true := by
    rw [notLongL hsz, Bool.and_false]
    exact Bool.false_ne_true
  refine call_meets F.slot_list_extend ⟨_, e, rfl⟩ F.entry_list_extend (F.args_list_extend_2 _ _)
    (list_extendW l its.toArray n b its2.toArray n2 dd2 sl2 hlong (by rw [List.size_toArray]; omega) (by omega)) ⟨e, ho2, ?_⟩
  refine ⟨.non, _, I.lset (its' := its ++ its2) hH e (by simp) (r.append r2) ?_, rfl, q⟩
  rw [List.length_append]
  omega
theorem em_extend {ys r : List α} (i : Nat) (o : Own X.K H0 F H l xs) (hσ : σ[i]? = some (some (.ref l))) (he : Ev X e σ F H ys) (h : catG xs ys = some r)
    (hN : X.N[i]? = some n := by rfl) (hv : Vis X.env.scope n := by first | exact Or.inl rfl | exact Or.inr (Or.inl rfl) | exact Or.inr (Or.inr rfl))
    (hd : (n == ("__debug__" : Str)) = false := by decide) (hcd : (n == ("__classdict__" : Str)) = false := by decide) 
    (hbase : attributeBase (.Name n p1) "extend" X.env (eval (.Name n p1) X.env) = eval (.Name n p1) X.env := by rfl)
    (hfew : ((backTo p3 (starEach [e] X.env)).all (fun x => !x.1) && (backToKw p3 (keywordEach [] X.env)).all (fun x => x.1.isSome) && decide ([e].length + ([] : List Keyword).length + (if ([] : List Keyword).isEmpty then 0 else 1) < 30)) = true := by rfl)
    (hline : (p2.endLine == p3.line) = true := by rfl) (hs : starEach [e] X.env = (false, eval e X.env) :: starEach [] X.env := by rfl) (hplain : (backTo p3 (starEach [] X.env)).any (·.1) = false := by rfl) :
    EvM X (.Call (.Attribute (.Name n p1) "extend" p2) [e] [] p3) σ F H l () r := fun F1 H1 g Q q => by
  have o1 := o.up g.toGr
  obtain ⟨_, hl, vs, rfl, rs⟩ := o1.h
  unfold catG at h
  split at h
  case isFalse => cases h
  rename_i hz
  cases (Option.some.inj h)
  refine GoE.of (pe_bm PySem.F.plainAttrs_list PySem.F.slot_list_extend PySem.F.type_list_extend mt_extendF (pe_var hN hv hd hcd) (pa_cons pe_go pa_nil hs) hbase hfew hline hs hplain) ?_
  refine ⟨_, hσ, .inl ⟨rfl, _, SqL.of hl⟩, he F1 H1 g _ fun v F2 H2 g2 r2 => ?_⟩
  obtain ⟨b, zs, rfl, sq, rz⟩ := r2
  have hl2 := g2.hh.k _ _ hl trivial
  exact ⟨l, b, vs, zs, rfl, rfl, hl2, g2.fh.seq sq, by rw [rs.length, rz.length]; exact hz, q .non F2 _ _ (o1.erl g2 (fun b hb => upd_ne hb) (no_upd trivial)) (o1.up g2).f upd_same (ob_lst (Rps.append (rs.mono g2.ff) rz)) rfl⟩
def insG {α : Type} (xs : List α) (i : Int) (y : α) : Option (List α) := if 0 ≤ i ∧ i < 2 ^ 62 ∧ xs.length < sizeLine then some (xs.take i.toNat ++ [y] ++ xs.drop i.toNat) else none
theorem insG_of {α : Type} {xs : List α} {i : Int} {y : α} {r : List α} (h : insG xs i y = some r) : 0 ≤ i ∧ i < 2 ^ 63 ∧ xs.length < sizeLine ∧ r = xs.take i.toNat ++ [y] ++ xs.drop i.toNat := by
  unfold insG at h
  split at h
  · rename_i h1
    exact ⟨h1.1, Int.lt_trans h1.2.1 (by decide), h1.2.2, (Option.some.inj h).symm⟩
  · cases h
theorem insG_p {α : Type} {xs : List α} {i : Int} {y : α} (h0 : 0 ≤ i) (h1 : i < 1000000) (h2 : xs.length < 16777216) : insG xs i y = some (xs.take i.toNat ++ [y] ++ xs.drop i.toNat) := if_pos ⟨h0, Int.lt_trans h1 (by decide), by rw [szl]; exact h2⟩
theorem em_insert {k : Int} {y : α} {r : List α} (i : Nat) (o : Own X.K H0 F H l xs) (hσ : σ[i]? = some (some (.ref l))) (ha : Ev X a σ F H k) (he : Ev X e σ F H y) (h : insG xs k y = some r)
    (hN : X.N[i]? = some n := by rfl) (hv : Vis X.env.scope n := by first | exact Or.inl rfl | exact Or.inr (Or.inl rfl) | exact Or.inr (Or.inr rfl))
    (hd : (n == ("__debug__" : Str)) = false := by decide) (hcd : (n == ("__classdict__" : Str)) = false := by decide) 
    (hbase : attributeBase (.Name n p1) "insert" X.env (eval (.Name n p1) X.env) = eval (.Name n p1) X.env := by rfl)
    (hfew : ((backTo p3 (starEach [a, e] X.env)).all (fun x => !x.1) && (backToKw p3 (keywordEach [] X.env)).all (fun x => x.1.isSome) && decide ([a, e].length + ([] : List Keyword).length + (if ([] : List Keyword).isEmpty then 0 else 1) < 30)) = true := by rfl)
    (hline : (p2.endLine == p3.line) = true := by rfl) (hs : starEach [a, e] X.env = (false, eval a X.env) :: starEach [e] X.env := by rfl) (hs2 : starEach [e] X.env = (false, eval e X.env) :: starEach [] X.env := by rfl) (hplain : (backTo p3 (starEach [e] X.env)).any (·.1) = false := by rfl) :
    EvM X (.Call (.Attribute (.Name n p1) "insert" p2) [a, e] [] p3) σ F H l () r := fun F1 H1 g Q q => by
  have o1 := o.up g.toGr
  obtain ⟨_, hl, vs, rfl, rs⟩ := o1.h
  obtain ⟨k0, k1, hz, rfl⟩ := insG_of h
  refine GoE.of (pe_bm PySem.F.plainAttrs_list PySem.F.slot_list_insert PySem.F.type_list_insert mt_insert (pe_var hN hv hd hcd) (pa_cons pe_go (pa_cons pe_go pa_nil hs2) hs) hbase hfew hline hs hplain) ?_
  refine ⟨_, hσ, .inl ⟨rfl, _, SqL.of hl⟩, ha F1 H1 g _ fun v F2 H2 g2 r2 => he F2 H2 (g.trans g2) _ fun u F3 H3 g3 r3 => ?_⟩
  have g4 := g2.trans g3
  have hl2 := g4.hh.k _ _ hl trivial
  have rs2 := rs.mono g4.ff
  refine ⟨l, vs, k, u, rfl, by rw [show v = .int k from r2], hl2, by rw [rs.length]; exact hz, k0, k1, q .non F3 _ _ (o1.erl g4 (fun b hb => upd_ne hb) (no_upd trivial)) (o1.up g4).f upd_same (ob_lst (Rps.append (Rps.append (Rps.take _ rs2) (.cons r3 .nil)) (Rps.drop _ rs2))) rfl⟩
/-- .. the item coming out of the list itself -/
theorem em_insertM {k : Int} {y : α} {ys r : List α} (i : Nat) (o : Own X.K H0 F H l xs) (hσ : σ[i]? = some (some (.ref l))) (ha : Ev X a σ F H k) (he : EvM X e σ F H l y ys) (h : insG ys k y = some r)
    (hN : X.N[i]? = some n := by rfl) (hv : Vis X.env.scope n := by first | exact Or.inl rfl | exact Or.inr (Or.inl rfl) | exact Or.inr (Or.inr rfl))
    (hd : (n == ("__debug__" : Str)) = false := by decide) (hcd : (n == ("__classdict__" : Str)) = false := by decide) 
    (hbase : attributeBase (.Name n p1) "insert" X.env (eval (.Name n p1) X.env) = eval (.Name n p1) X.env := by rfl)
    (hfew : ((backTo p3 (starEach [a, e] X.env)).all (fun x => !x.1) && (backToKw p3 (keywordEach [] X.env)).all (fun x => x.1.isSome) && decide ([a, e].length + ([] : List Keyword).length + (if ([] : List Keyword).isEmpty then 0 else 1) < 30)) = true := by rfl)
    (hline : (p2.endLine == p3.line) = true := by rfl) (hs : starEach [a, e] X.env = (false, eval a X.env) :: starEach [e] X.env := by rfl) (hs2 : starEach [e] X.env = (false, eval e X.env) :: starEach [] X.env := by rfl) (hplain : (backTo p3 (starEach [e] X.env)).any (·.1) = false := by rfl) :
    EvM X (.Call (.Attribute (.Name n p1) "insert" p2) [a, e] [] p3) σ F H l () r := fun F1 H1 g Q q => by
  have o1 := o.up g.toGr
  obtain ⟨_, hl, vs, rfl, rs⟩ := o1.h
  obtain ⟨k0, k1, hz, rfl⟩ := insG_of h
  refine GoE.of (pe_bm PySem.F.plainAttrs_list PySem.F.slot_list_insert PySem.F.type_list_insert mt_insert (pe_var hN hv hd hcd) (pa_cons pe_go (pa_cons pe_go pa_nil hs2) hs) hbase hfew hline hs hplain) ?_
  refine ⟨_, hσ, .inl ⟨rfl, _, SqL.of hl⟩, ha F1 H1 g _ fun v F2 H2 g2 r2 => he F2 H2 (g.trans g2) _ fun u F3 H3 o' g3 f3 h3 b3 r3 => ?_⟩
  obtain ⟨ws, rfl, rw3⟩ := b3
  have g4 : Gr F1 (er H1 l) F3 H3 := ((o1.ere g2)).trans g3
  have e4 : ∀ b, b ≠ l → upd H3 l (.lst (ws.take k.toNat ++ [u] ++ ws.drop k.toNat)) b = H3 b := fun b hb => upd_ne hb
  refine ⟨l, ws, k, u, rfl, by rw [show v = .int k from r2], h3, by rw [rw3.length]; exact hz, k0, k1, q .non F3 _ _ (g4.poke er_same f3 ⟨_, h3, trivial⟩ trivial) f3 upd_same (ob_lst (Rps.append (Rps.append (Rps.take _ rw3) (.cons r3 .nil)) (Rps.drop _ rw3))) rfl⟩
/-! ### xs[i] = e -/
def setG {α : Type} (xs : List α) (i : Int) (y : α) : Option (List α) := (ixN xs.length i).map fun j => xs.set j y
theorem Rps.set {α : Type} [Rp α] {v : V} {x : α} (r : rp K F v x) : ∀ {vs : List V} {xs : List α} (n : Nat), Rps K F vs xs → Rps K F (vs.set n v) (xs.set n x)
  | _, _, _, .nil => .nil
  | _, _, 0, .cons _ t => .cons r t
  | _, _, n + 1, .cons r' t => .cons r' (Rps.set r n t)
theorem go_setL {k : Int} {y : α} {r : List α} (i : Nat) (s : SmX X.K F H) (o : Own X.K H0 F H l xs) (hσ : σ[i]? = some (some (.ref l))) (he : Ev X e σ F H y) (hk : Ev X a σ F H k) (h : setG xs k y = some r)
    (kk : ∀ u F' H', Gr F H F' H' → PlAt H' l → F' l = none → Own X.K H0 F' (upd H' l u) l r → GoS X rest D σ (upd H' l u)) (hN : X.N[i]? = some n := by rfl) (hv : Vis X.env.scope n := by first | exact Or.inl rfl | exact Or.inr (Or.inl rfl) | exact Or.inr (Or.inr rfl))
    (hd : (n == ("__debug__" : Str)) = false := by decide) (hcd : (n == ("__classdict__" : Str)) = false := by decide)
    (ha : ∀ v, assign (.Subscript (.Name n p1) a p2) X.env v = (do
      let ov ← holding [v] (eval (.Name n p1) X.env)
      let iv ← holding [v, ov] (eval a X.env)
      standAt p2
      holding [v, ov, iv] (setItem ov iv v)
      release [v, ov, iv] []) := by intro _; rfl)
    (hs : swapsWithSole [.Subscript (.Name n p1) a p2] e pos.line X.env = pure false := by rfl) (hw : swappedStores [.Subscript (.Name n p1) a p2] e X.env = pure none := by rfl) (h1 : (assignEach [.Subscript (.Name n p1) a p2] X.env).map (·.2) = [assign (.Subscript (.Name n p1) a p2) X.env] := by rfl) :
    GoS X (.Assign [.Subscript (.Name n p1) a p2] e pos :: rest) D σ H := by
  obtain ⟨j, hj, rfl⟩ := Option.map_eq_some_iff.mp h
  obtain ⟨_, hl, vs, rfl, rs⟩ := o.h
  refine GoS.cons (ps_asg pe_go (pg_sub (pe_var hN hv hd hcd) pe_go set_list ha) hs hw h1) (he F H (.refl s) _ fun v F2 H2 g r => ?_)
  refine ⟨_, hσ, hk F2 H2 (s.gx g) _ fun w F3 H3 g3 r3 => ?_⟩
  have g4 := g.trans g3
  have o2 := o.up g4
  have hl2 := g4.hh.k _ _ hl trivial
  exact ⟨l, vs, k, j, rfl, r3, hl2, by rw [rs.length]; exact hj, kk _ F3 H3 g4 o2.pl o2.f (Own.set o2.n o2.f (ob_lst (Rps.set (Rp.mono g3.ff r) j (rs.mono g4.ff))))⟩
end
end
end Gx

/-! Gt: lists of ranges, items of private lists, comparing with nothing in it. -/
namespace Gx
open PySem PySem.Spec PyProof.Rows L2
open Rp (rp)
open Ra (ra)
open Ob (ob)
section
variable {X : Cx} {K : PySem.W.Frag} {e a b c d : Expr} {es : List Expr} {σ : L2.St} {F H F0 H0 : Hp} {pos : Pos} {D : Ends} {st : Stmt} {rest body : List Stmt}
theorem rps_rg {i j : Int} : Rps K F (rgV i j) (intsF i (j - i).toNat) := by
  unfold rgV intsF
  have : ∀ l : List Nat, Rps K F (l.map fun (n : Nat) => V.int (i + (n : Int))) (l.map fun (n : Nat) => i + (n : Int)) := by
    intro l
    induction l with
    | nil => exact .nil
    | cons n r ih => exact .cons rfl ih
  exact this _
def lRg (i j : Int) : Option (List Int) := if -(2 ^ 62) ≤ i ∧ i < 2 ^ 62 ∧ -(2 ^ 62) ≤ j ∧ j < 2 ^ 62 ∧ (j - i).toNat ≤ 2 ^ 24 then some (intsF i (j - i).toNat) else none
theorem lRg_of {i j : Int} {r : List Int} (h : lRg i j = some r) : RgOk i j ∧ intsF i (j - i).toNat = r := by
  unfold lRg at h
  split at h
  · rename_i h1; exact ⟨h1, Option.some.inj h⟩
  · cases h
theorem lRg_n {n : Nat} (h : n ≤ 1000000) : lRg 0 (n : Int) = some (intsF 0 n) := by
  have e : ((n : Int) - 0).toNat = n := by omega
  unfold lRg
  rw [if_pos (by rw [e]; exact ⟨by decide, by decide, by omega, by omega, by omega⟩), e]
theorem lRg_p {i j : Int} (h1 : -1000000 ≤ i) (h2 : i ≤ 1000000) (h3 : -1000000 ≤ j) (h4 : j ≤ 1000000) : lRg i j = some (intsF i (j - i).toNat) := if_pos ⟨by omega, by omega, by omega, by omega, by omega⟩
theorem en_listRg1 {n : Int} {r : List Int} {p p2 : Pos} {pos2 : Pos} (hm : X.mg "list" = none) (hr : X.mg "range" = none) (ha : Ev X a σ F H n) (h : lRg 0 n = some r) (hc : X.calm = true := by rfl) (hg : Gl X "list" := by rfl) (hg2 : Gl X "range" := by rfl)
    (na : starEach [a] X.env = (false, eval a X.env) :: starEach [] X.env := by rfl) (na2 : starEach [.Call (.Name "range" p2) [a] [] pos2] X.env = (false, eval (.Call (.Name "range" p2) [a] [] pos2) X.env) :: starEach [] X.env := by rfl) :
    EvN X (.Call (.Name "list" p) [.Call (.Name "range" p2) [a] [] pos2] [] pos) σ F H r := fun F1 H1 g Q q => by
  obtain ⟨h1, rfl⟩ := lRg_of h
  exact GoE.of (pe_listRg hc hg hm (prg_1 hg2 hr pe_go na) na2) (ha F1 H1 g _ fun v F2 H2 g2 r2 => ⟨n, r2, h1, fun l hl => EvN.new q g2 hl rps_rg⟩)
theorem en_listRg2 {i j : Int} {r : List Int} {p p2 : Pos} {pos2 : Pos} (hm : X.mg "list" = none) (hr : X.mg "range" = none) (ha : Ev X a σ F H i) (hb : Ev X b σ F H j) (h : lRg i j = some r) (hc : X.calm = true := by rfl) (hg : Gl X "list" := by rfl) (hg2 : Gl X "range" := by rfl)
    (na : starEach [a, b] X.env = (false, eval a X.env) :: starEach [b] X.env := by rfl) (nb : starEach [b] X.env = (false, eval b X.env) :: starEach [] X.env := by rfl) (hp : (backTo pos2 (starEach [b] X.env)).any (·.1) = false := by rfl) (na2 : starEach [.Call (.Name "range" p2) [a, b] [] pos2] X.env = (false, eval (.Call (.Name "range" p2) [a, b] [] pos2) X.env) :: starEach [] X.env := by rfl) :
    EvN X (.Call (.Name "list" p) [.Call (.Name "range" p2) [a, b] [] pos2] [] pos) σ F H r := fun F1 H1 g Q q => by
  obtain ⟨h1, rfl⟩ := lRg_of h
  exact GoE.of (pe_listRg hc hg hm (prg_2 hg2 hr pe_go pe_go na nb hp) na2) (ha F1 H1 g _ fun v F2 H2 g2 r2 => hb F2 H2 (g.trans g2) _ fun w F3 H3 g3 r3 => ⟨i, j, r2, r3, h1, fun l hl => EvN.new q (g2.trans g3) hl rps_rg⟩)
/-- an item of a private list -/
theorem ev_ixOwn {α : Type} [Rp α] {xs : List α} {x : α} {k : Int} {l : Addr} {n : Str} {p1 : Pos} (i : Nat) (o : Own X.K H0 F H l xs) (hσ : σ[i]? = some (some (.ref l))) (hb : Ev X b σ F H k) (h : L2.atI xs k = some x) (hs : NoSl b := by exact fun _ _ => rfl)
    (hN : X.N[i]? = some n := by rfl) (hv : Vis X.env.scope n := by first | exact Or.inl rfl | exact Or.inr (Or.inl rfl) | exact Or.inr (Or.inr rfl)) (hd : (n == ("__debug__" : Str)) = false := by decide) (hcd : (n == ("__classdict__" : Str)) = false := by decide) :
    Ev X (.Subscript (.Name n p1) b pos) σ F H x := fun F1 H1 g Q q => by
  have o1 := o.up g.toGr
  obtain ⟨_, hl, vs, rfl, rs⟩ := o1.h
  refine GoE.of (pe_ix ix_list (pe_var hN hv hd hcd) pe_go hs) ⟨_, hσ, hb F1 H1 g _ fun w F2 H2 g2 r2 => ?_⟩
  have rs2 := rs.mono g2.ff
  obtain ⟨v, hv2, rv⟩ := rs2.atI h
  exact ⟨l, vs, k, v, rfl, r2, SqL.of (g2.hh.k _ _ hl trivial), hv2, q v F2 H2 g2 rv⟩
theorem Ev.get {α : Type} [Rp α] [NN α] {o : Option α} {x : α} (h : Ev X e σ F H o) (he : o = Option.some x) : Ev X e σ F H x := by
  subst he
  exact h.re fun _ _ r => r
/-! ### x == [], x != () -/
def rEqE (K : PySem.W.Frag) : R2 := fun x y H Q => ∃ a b xs, x = .ref a ∧ y = .ref b ∧ ((SqL K H a xs ∧ SqL K H b []) ∨ (SqT K H a xs ∧ SqT K H b [])) ∧ Q (.bl xs.isEmpty) H
def rNeE (K : PySem.W.Frag) : R2 := fun x y H Q => ∃ a b xs, x = .ref a ∧ y = .ref b ∧ ((SqL K H a xs ∧ SqL K H b []) ∨ (SqT K H a xs ∧ SqT K H b [])) ∧ Q (.bl (!xs.isEmpty)) H
theorem op_eqE (hu : X.A.units < cLine) : OpR X (compareOp .Eq) (rEqE X.K) := fun pins s σ H x y v u Q I rx ry ⟨a, b, xs, e1, e2, h, q⟩ => by
  subst e1; subst e2
  cases rx; cases ry
  rcases h with ⟨h1, h2⟩ | ⟨h1, h2⟩
  · obtain ⟨its, r, pl, _⟩ := I.list h1
    obtain ⟨its2, r2, pl2, _⟩ := I.list h2
    cases r2
    cases r with
    | nil => exact SeqAt.RcAt.lists (e := fun _ => true) pl.isList pl2.isList rfl hu (fun j h1 _ => absurd h1 (Nat.not_lt_zero _)) _ _ _ _ ⟨.bl true, H, I, rfl, q⟩
    | cons _ _ => exact SeqAt.RcAt.lists_lengths pl.isList pl2.isList (by simp) hu _ _ _ _ ⟨.bl false, H, I, rfl, q⟩
  · obtain ⟨its, r, ⟨o, ho, hc, n, hd⟩, _⟩ := I.tuple h1
    obtain ⟨its2, r2, ⟨o2, ho2, hc2, n2, hd2⟩, _⟩ := I.tuple h2
    cases r2
    cases r with
    | nil => exact SeqAt.RcAt.tuples (e := fun _ => true) ⟨o, ho, hc, n, hd⟩ ⟨o2, ho2, hc2, n2, hd2⟩ hu (fun j h1 _ => absurd h1 (Nat.not_lt_zero _)) _ _ _ _ ⟨.bl true, H, I, rfl, q⟩
    | cons _ _ => exact SeqAt.RcAt.tuples (e := fun _ => true) ⟨o, ho, hc, n, hd⟩ ⟨o2, ho2, hc2, n2, hd2⟩ hu (fun j _ h2 => absurd h2 (Nat.not_lt_zero _)) _ _ _ _ ⟨.bl false, H, I, by simp [L2.RelV], q⟩
theorem op_neE (hu : X.A.units < cLine) : OpR X (compareOp .NotEq) (rNeE X.K) := fun pins s σ H x y v u Q I rx ry ⟨a, b, xs, e1, e2, h, q⟩ => by
  subst e1; subst e2
  cases rx; cases ry
  rcases h with ⟨h1, h2⟩ | ⟨h1, h2⟩
  · obtain ⟨its, r, pl, _⟩ := I.list h1
    obtain ⟨its2, r2, pl2, _⟩ := I.list h2
    cases r2
    cases r with
    | nil => exact SeqAt.RcNeAt.lists (e := fun _ => true) pl.isList pl2.isList rfl hu (fun j h1 _ => absurd h1 (Nat.not_lt_zero _)) _ _ _ _ ⟨.bl false, H, I, rfl, q⟩
    | cons _ _ => exact SeqAt.RcNeAt.lists_lengths pl.isList pl2.isList (by simp) hu _ _ _ _ ⟨.bl true, H, I, rfl, q⟩
  · obtain ⟨its, r, ⟨o, ho, hc, n, hd⟩, _⟩ := I.tuple h1
    obtain ⟨its2, r2, ⟨o2, ho2, hc2, n2, hd2⟩, _⟩ := I.tuple h2
    cases r2
    cases r with
    | nil => exact SeqAt.RcNeAt.tuples (e := fun _ => true) ⟨o, ho, hc, n, hd⟩ ⟨o2, ho2, hc2, n2, hd2⟩ hu (fun j h1 _ => absurd h1 (Nat.not_lt_zero _)) _ _ _ _ ⟨.bl false, H, I, rfl, q⟩
    | cons _ _ => exact SeqAt.RcNeAt.tuples (e := fun _ => true) ⟨o, ho, hc, n, hd⟩ ⟨o2, ho2, hc2, n2, hd2⟩ hu (fun j _ h2 => absurd h2 (Nat.not_lt_zero _)) _ _ _ _ ⟨.bl true, H, I, by simp [L2.RelV], q⟩
section
variable {α : Type} [Rp α]
theorem isE {vs : List V} {xs : List α} (r : Rps K F vs xs) : vs.isEmpty = xs.isEmpty := by cases r <;> rfl
theorem o2_eqEL {xs : List α} : Op2 K (rEqE K) xs ([] : List α) xs.isEmpty := fun F H v w Q s ⟨a, vs, e, sq, rs⟩ ⟨b, ws, e2, sq2, rs2⟩ k => by
  cases rs2
  exact ⟨a, b, vs, e, e2, .inl ⟨s.seq sq, s.seq sq2⟩, k _ F H (.refl s) (congrArg V.bl (isE rs))⟩
theorem o2_neEL {xs : List α} : Op2 K (rNeE K) xs ([] : List α) (!xs.isEmpty) := fun F H v w Q s ⟨a, vs, e, sq, rs⟩ ⟨b, ws, e2, sq2, rs2⟩ k => by
  cases rs2
  exact ⟨a, b, vs, e, e2, .inl ⟨s.seq sq, s.seq sq2⟩, k _ F H (.refl s) (congrArg (fun t => V.bl (!t)) (isE rs))⟩
theorem o2_eqET {xs : Tp α} : Op2 K (rEqE K) xs (Tp.mk ([] : List α)) xs.l.isEmpty := fun F H v w Q s ⟨a, vs, e, sq, rs⟩ ⟨b, ws, e2, sq2, rs2⟩ k => by
  cases rs2
  exact ⟨a, b, vs, e, e2, .inr ⟨seqT_mono s sq, seqT_mono s sq2⟩, k _ F H (.refl s) (congrArg V.bl (isE rs))⟩
theorem o2_neET {xs : Tp α} : Op2 K (rNeE K) xs (Tp.mk ([] : List α)) (!xs.l.isEmpty) := fun F H v w Q s ⟨a, vs, e, sq, rs⟩ ⟨b, ws, e2, sq2, rs2⟩ k => by
  cases rs2
  exact ⟨a, b, vs, e, e2, .inr ⟨seqT_mono s sq, seqT_mono s sq2⟩, k _ F H (.refl s) (congrArg (fun t => V.bl (!t)) (isE rs))⟩
end
end
end Gx

/-! Gv: enumerate of a tuple; min, max, sum, all, sorted. -/
namespace Gx
open PySem PySem.Spec PyProof.Rows
open AutoSeq1 (wpAny_loadPart')
/-- what iterates over a tuple -/
abbrev itO (l : Addr) : Obj := { cls := .type "tuple_iterator", data := .fields #[.ref l, .int 0 0] }
abbrev enO (i : Addr) : Obj := { cls := .type "enumerate", data := .fields #[.none, .bool false, .ref i, rawInt 0, .none, .none] }
theorem enumT_made (l : Addr) (xs : Array Value) (k : Nat) (dd : Option Addr) (ss : Array (Option Value)) :
    Meets (Builtin.«enumerate.__new__» ⟨[.type "enumerate", .ref l], []⟩) (fun _ R s => s.heap.get? l = some { cls := .type "tuple", dict := dd, data := .seq xs k, slots := ss } ∧
      R (.ok (.ret (.ref (s.heap.push (itO l)).objs.size))) { s with heap := (s.heap.push (itO l)).push (enO s.heap.objs.size) }) :=
  .of_wp fun P W A R s ⟨at_, R1⟩ => by
    cases s with
    | mk hp gs ds ts os =>
      have sub_ := sub_enumerate
      have tup_ : Heap.IsTuple (Shared.heap ⟨hp, gs, ds, ts, os⟩) l xs := ⟨_, at_, rfl, k, rfl⟩
      wp_walk using wpAny_loadPart' at_
      refine wpAny_stack_any fun _ => wpAny_pure ?_
      split
      · rename_i cl _ _ _ _ _
        cases (cl == Value.type "enumerate") <;> (wp_walk using wpAny_loadPart' at_, wpAny_pyIter_tuple tup_; exact ⟨_, rfl, R1⟩)
      · wp_walk using wpAny_loadPart' at_, wpAny_pyIter_tuple tup_
        exact ⟨_, rfl, R1⟩
theorem call_enumT {P : Program} {W : World} {A : Around} {E : Value → Shared → Prop} {s : Shared} {l : Addr} {xs : Array Value} {Q : Value → Shared → Prop} (tup_ : s.heap.IsTuple l xs)
    (q : ∀ h', IsEnum h' (s.heap.objs.size + 1) s.heap.objs.size 0 .none → h'.IsTupleIter s.heap.objs.size l 0 → (∀ b o, s.heap.get? b = some o → h'.get? b = some o) → Q (.ref (s.heap.objs.size + 1)) { s with heap := h' }) :
    wpAny (model P W) A (call (.type "enumerate") [.ref l]) Q E s := by
  obtain ⟨⟨cls, dd, dat, ss⟩, at_, e1, k, e2⟩ := tup_
  have e1 : cls = .type "tuple" := e1
  have e2 : dat = .seq xs k := e2
  subst e1; subst e2
  have sz : (s.heap.push (itO l)).objs.size = s.heap.objs.size + 1 := Heap.size_push ..
  refine callType_new F.called_enumerate (by decide) (F.typeCall_enumerate_1 _) (F.newCall_enumerate_1 _) (fun o => F.args_object_init_2 o _) F.entry_enumerate_new (enumT_made l xs k dd ss) ⟨at_, ?_⟩
  show _ ∧ _
  rw [sz]
  have en_ : IsEnum ((s.heap.push (itO l)).push (enO s.heap.objs.size)) (s.heap.objs.size + 1) s.heap.objs.size 0 .none := by
    have z := Heap.get?_push_size (s.heap.push (itO l)) (o := enO s.heap.objs.size) rfl
    rwa [sz] at z
  exact ⟨⟨_, en_, rfl⟩, q _ en_ ⟨_, Heap.get?_push_of_some _ (Heap.get?_push_size _ rfl), rfl, rfl⟩ fun b o z => Heap.get?_push_of_some _ (Heap.get?_push_of_some _ z)⟩
end Gx
namespace Gx
open PySem PySem.Spec PyProof.Rows L2
open Rp (rp)
open Ra (ra)
open Ob (ob)
theorem enumT_end {P : Program} {W : World} {A : Around} {E : Value → Shared → Prop} {s : Shared} {e it l : Addr} {i : Nat} {xs : Array Value} {old : Value} {Q : Option Value → Shared → Prop} (hh : A.handled = none)
    (en_ : IsEnum s.heap e it i old) (hit : s.heap.IsTupleIter it l i) (tup_ : s.heap.IsTuple l xs) (none_ : xs[i]? = none) (q : ∀ h', Heap.ExtBut it s.heap h' → Q none { s with heap := h' }) : wpAny (model P W) A (pyNext (.ref e)) Q E s := by
  have ty_ : s.TypeIs (.ref e) "enumerate" := ⟨_, en_, rfl⟩
  unfold pyNext
  refine wpAny_bind (wpAny_attempt (wpAny_callSpecial?_slot (name := Str.ofString "__next__") ty_ F.slot_enumerate_next (wpAny_call_entry F.slot_enumerate_next ty_ F.entry_enumerate_next ?_ (F.args_enumerate_next_1 _))))
  show wpAny _ _ (field (.ref e) 2 >>= _) _ _ _
  refine wpAny_bind (wpAny_field en_ rfl (x := .ref it) rfl (wpAny_bind (wpAny_nextOf_tuple_end hh hit tup_ none_ fun h' x ext ⟨o, ho, hc⟩ => ?_)))
  exact wpAny_bind (wpAny_isInstance (T := "StopIteration") (b := true) ⟨o, ho, hc⟩ isSubtype_stop (wpAny_pure (q _ ext)))
def IteT (K : PySem.W.Frag) (a : Addr) : It :=
  ⟨fun i H => ∃ (xs : List V) (x : V), SqT K H a xs ∧ xs[i]? = some x, fun i H v H' => ∃ T x, v = .ref T ∧ H T = none ∧ H' = upd H T (.tup [.int (i : Nat), x]) ∧ ∀ xs, SqT K H a xs → xs[i]? = some x, fun i H => ∃ xs : List V, SqT K H a xs ∧ xs.length ≤ i⟩
theorem turn_enumT {P : Program} {w : World} {K : PySem.W.Frag} {elts : List Expr} {kk : Nat} {tpos : Pos} (a e it : Addr) :
    Turn P w K (.Tuple elts kk tpos) (IteT K a) [e, it] e (fun i h => (∃ old, IsEnum h e it ((i : Nat) : Int) old) ∧ h.IsTupleIter it a i ∧ e ≠ it) where
  mem := by simp
  obj := fun i h st b hb => by
    obtain ⟨⟨old, he⟩, ⟨o, ho, hc, hd⟩, _⟩ := st
    have e' : b = e ∨ b = it := by simpa using hb
    rcases e' with z | z
    · rw [z]; exact ⟨_, he, fun v q => nomatch q⟩
    · rw [z]; exact ⟨o, ho, fun v q => by rw [hd] at q; cases q⟩
  keep := fun i h h' st k => let ⟨⟨old, he⟩, hi, hne⟩ := st; ⟨⟨old, k e (by simp) _ he⟩, hi.at fun o q => k it (by simp) o q, hne⟩
  item := by
    intro X hP hw hK hc i pins s σ H E I hf st hg
    subst hP hw hK
    obtain ⟨⟨old, he⟩, hit, hne⟩ := st
    obtain ⟨xs, x, hq, hx⟩ := hg
    obtain ⟨its, rv, p, hz⟩ := I.tuple hq
    obtain ⟨u, hu, ru⟩ := rv.get hx
    have hel : e < s.heap.objs.size := Heap.lt_size he
    have hil : it < s.heap.objs.size := by obtain ⟨_, q, _⟩ := hit; exact Heap.lt_size q
    have tup_ : s.heap.IsTuple a its.toArray := p
    have hne2 : a ≠ it := fun z => by
      obtain ⟨o1, q1, c1, _⟩ := hit
      obtain ⟨o2, q2, c2, _⟩ := tup_
      rw [z] at q2; rw [q1] at q2; cases q2; rw [c1] at c2; exact absurd c2 (by decide)
    have hea : e ≠ a := fun z => by
      obtain ⟨o2, q2, c2, _⟩ := tup_
      rw [← z] at q2; rw [show s.heap.get? e = _ from he] at q2; cases q2; exact absurd (show Value.type "enumerate" = Value.type "tuple" from c2) (by decide)
    refine wpAny_pyNext_enum_itemC (Draws.tuple (A := X.A.in1) (I.ok.hd hc) it a hne2 its.toArray) he ⟨hit, tup_⟩ (by
      have h1 := (List.getElem?_eq_some_iff.mp hu).1
      simpa using h1) hne (by simp [hne, hea]) fun u' h' tk hP ho hst' hT hsz hk => ?_
    obtain rfl : u = u' := by
      have h2 : its.toArray[i]? = some u' := hP
      have h1 : its.toArray[i]? = some u := by simpa using hu
      rw [h1] at h2; exact Option.some.inj h2
    obtain ⟨hit', _⟩ := hst'
    refine ⟨_, rfl, wpAny_letOwnedTupleGo_enum (s := { s with heap := h', toks := tk + 1 }) ho fun h'' he' sb => ?_⟩
    have hT2 : h''.get? s.heap.objs.size = some { cls := .type "tuple", data := .seq #[.int i tk, u] } := (sb.2 _ (Nat.ne_of_gt hel)).trans hT
    have new : ObjOk X.prog X.w (upd H s.heap.objs.size (.tup [.int (i : Nat), x])) h'' s.heap.objs.size (.tup [.int (i : Nat), x]) :=
      ⟨by show 2 ≤ sizeLine; decide, [.int i tk, u], .cons ⟨_, rfl⟩ (.cons ru .nil), ⟨_, hT2, rfl, _, rfl⟩⟩
    have I1 : Inv X pins σ (upd H s.heap.objs.size (.tup [.int (i : Nat), x])) { s with heap := h'', toks := tk + 1 } :=
      I.turnedNew (ch := [e, it]) (fun b ob hb q => (sb.2 b (fun z => hb (by simp [z]))).trans (hk b ob (fun z => hb (by simp [z])) (fun z => hb (by simp [z])) q)) hf (Nat.le_refl _) new
    refine ⟨.ref s.heap.objs.size, _, I1, rfl, ⟨_, x, rfl, I.hok.fresh (Nat.le_refl _), rfl, fun ys hy => by rw [I.tuple_inj hy hq]; exact hx⟩, ⟨⟨u, ?_⟩, hit'.at fun o q => (sb.2 it (Ne.symm hne)).trans q, hne⟩, fun b hb => ?_⟩
    · have e1 : ((i + 1 : Nat) : Int) = (i : Int) + 1 := by omega
      rw [e1]; exact he'
    · have hb' : b < s.heap.objs.size := by
        have e' : b = e ∨ b = it := by simpa using hb
        rcases e' with z | z
        · rw [z]; exact hel
        · rw [z]; exact hil
      rw [upd_ne (Nat.ne_of_lt hb')]
      exact (hf b hb).1
  done := by
    intro X hP hw hK hc i pins s σ H E I hf st hg
    subst hP hw hK
    obtain ⟨⟨old, he⟩, hit, hne⟩ := st
    obtain ⟨xs, hq, hx⟩ := hg
    obtain ⟨its, rv, p, hz⟩ := I.tuple hq
    obtain ⟨f0, f1, f2, f3, f4, f5⟩ := hf it (by simp)
    have hl := rv.length
    have tup_ : s.heap.IsTuple a its.toArray := p
    have hne2 : a ≠ it := fun z => by
      obtain ⟨o1, q1, c1, _⟩ := hit
      obtain ⟨o2, q2, c2, _⟩ := tup_
      rw [z] at q2; rw [q1] at q2; cases q2; rw [c1] at c2; exact absurd c2 (by decide)
    exact enumT_end (I.ok.hd hc) he hit tup_ (by simp; omega) fun h' eb => ⟨rfl, I.turned (t' := s.toks) (fun b o hb q => eb b o hb q) f0 f1 f3 f4 f5⟩
  self := fun A i s Q E st h => let ⟨⟨_, he⟩, _⟩ := st; wpAny_pyIter_enum he h
def iEnumT (K : PySem.W.Frag) (ta : TA) : TI := fun σ H R => ta σ H fun vs H1 => ∃ a xs, vs = [.ref a] ∧ SqT K H1 a xs ∧ R (IteT K a) H1
theorem pi_enumT {X : Cx} {e : Expr} {ta : TA} {p pos tpos : Pos} {elts : List Expr} {kk : Nat} (hg : Gl X "enumerate") (hm : X.mg "enumerate" = none) (ha : PA X [e] ta) (hs : starEach [e] X.env = [(false, eval e X.env)] := by rfl) :
    PI X (.Tuple elts kk tpos) (.Call (.Name "enumerate" p) [e] [] pos) (iEnumT X.K ta) := by
  refine ⟨fun pins s σ H R I h => ?_⟩
  refine Call_ (ld_blt I hg hm boot_enumerate (PyProof.Rows.callWith_type1 (thn (ha.run pos pins s σ H _ I h) fun us s1 ⟨vs, H1, I1, r1, q1⟩ => ?_) hs rfl))
  obtain ⟨a, xs, ex, hq, q⟩ := q1
  subst ex
  cases r1 with
  | cons r rr =>
    cases rr
    cases r
    obtain ⟨its, rv, p', hz⟩ := I1.tuple hq
    refine call_enumT (show s1.heap.IsTuple a its.toArray from p') fun h' he hit hk => wpAny_pyIter_enum he ?_
    have I2 : Inv X pins σ H1 { s1 with heap := h' } := I1.kept (t' := s1.toks) hk
    refine ⟨s1.heap.objs.size + 1, [s1.heap.objs.size + 1, s1.heap.objs.size], _, _, H1, rfl, I2, turn_enumT a (s1.heap.objs.size + 1) s1.heap.objs.size, ⟨⟨.none, he⟩, hit, Nat.succ_ne_self _⟩, fun b hb => ?_, q⟩
    have e' : b = s1.heap.objs.size + 1 ∨ b = s1.heap.objs.size := by simpa using hb
    have hle : s1.heap.objs.size ≤ b := by
      rcases e' with z | z
      · rw [z]; exact Nat.le_add_right _ _
      · rw [z]; exact Nat.le_refl _
    exact I1.fpOk hle (I1.hok.fresh hle)
section
variable {X : Cx} {K : PySem.W.Frag} {e a b c d : Expr} {es : List Expr} {σ : L2.St} {F H F0 H0 : Hp} {pos : Pos} {D : Ends} {st : Stmt} {rest body : List Stmt}
theorem ei_enumT {α θ : Type} [Rp α] [Rp θ] [TL θ α] {xs : θ} {p tpos : Pos} {elts : List Expr} {kk : Nat} (h : Ev X e σ F H xs) (hm : X.mg "enumerate" = none) (hg : Gl X "enumerate" := by rfl) (hs : starEach [e] X.env = [(false, eval e X.env)] := by rfl) : EvI X (.Tuple elts kk tpos) (.Call (.Name "enumerate" p) [e] [] pos) σ F H (enumL (TL.l xs)) := fun F1 H1 g R q =>
  GoI.of (pi_enumT hg hm (pa_cons pe_go pa_nil (by rw [hs]; rfl)) hs) (h F1 H1 g _ fun v F2 H2 g2 r2 => let ⟨a, vs, e, sq, rs⟩ := TL.sq r2; ⟨a, vs, by rw [e], sqT_mono g2.fh sq, q _ F2 H2 g2 fun i Fi Hi s1 s2 => by
    have sq' : SqT X.K Hi a vs := sqT_mono s2 (sqT_mono s1 sq)
    refine ⟨fun x hx => ?_, fun e => ⟨vs, sq', by rw [e, enumF_len, rs.length]; exact Nat.le_refl _⟩⟩
    obtain ⟨hi, hx2⟩ := enumF_get hx
    obtain ⟨y, hy, ry⟩ := rs.get hx2
    refine ⟨⟨vs, y, sq', hy⟩, fun v H' ⟨T, x', e1, e2, e3, e4⟩ => ?_⟩
    subst e1; subst e3
    have e5 := e4 vs sq'
    rw [hy] at e5
    cases e5
    rw [Int.zero_add] at hi
    have := pair_new (α := Int) s2 e2 (v := .int (i : Nat)) (congrArg V.int hi.symm) (Rp.mono s1 ry)
    exact this⟩)
/-! ### min, max, sum, all, sorted -/
theorem rps_ints {vs : List V} {xs : List Int} (h : Rps K F vs xs) : vs = xs.map V.int := by
  induction h with
  | nil => rfl
  | cons r t ih => rw [ih, show _ = V.int _ from r]; rfl
theorem rps_bls {vs : List V} {xs : List Bool} (h : Rps K F vs xs) : vs = xs.map V.bl := by
  induction h with
  | nil => rfl
  | cons r t ih => rw [ih, show _ = V.bl _ from r]; rfl
theorem o2_ltT {xs ys : Tp Int} : Op2 K (rLtT K) xs ys (HT.lexLt xs.l ys.l) := fun F H v w Q s ⟨a, vs, e, sq, rs⟩ ⟨b, ws, e2, sq2, rs2⟩ k => by
  have h1 := rps_ints rs
  have h2 := rps_ints rs2
  subst h1; subst h2
  exact ⟨a, b, xs.l, ys.l, e, e2, seqT_mono s sq, seqT_mono s sq2, k _ F H (.refl s) rfl⟩
theorem oc_min {xs : List Int} {m : Int} (h : xs.min? = some m) : OpC K (rMin K) (xs, ()) m :=
  oc1 fun F H v Q s ⟨a, vs, e, sq, rs⟩ k => ⟨a, xs, by rw [e], by rw [← rps_ints rs]; exact s.seq sq, by
    cases xs with
    | nil => cases h
    | cons _ _ => exact Nat.succ_pos _, fun m' h1 h2 => k _ F H (.refl s) (by
      have := List.min?_eq_some_iff.mp h
      have e : m = m' := Int.le_antisymm (this.2 _ h1) (h2 _ this.1)
      exact e ▸ rfl)⟩
theorem oc_max {xs : List Int} {m : Int} (h : xs.max? = some m) : OpC K (rMax K) (xs, ()) m :=
  oc1 fun F H v Q s ⟨a, vs, e, sq, rs⟩ k => ⟨a, xs, by rw [e], by rw [← rps_ints rs]; exact s.seq sq, by
    cases xs with
    | nil => cases h
    | cons _ _ => exact Nat.succ_pos _, fun m' h1 h2 => k _ F H (.refl s) (by
      have := List.max?_eq_some_iff.mp h
      have e : m = m' := Int.le_antisymm (h2 _ this.1) (this.2 _ h1)
      exact e ▸ rfl)⟩
theorem oc_sum {xs : List Int} : OpC K (rSum K) (xs, ()) xs.sum :=
  oc1 fun F H v Q s ⟨a, vs, e, sq, rs⟩ k => ⟨a, xs, by rw [e], by rw [← rps_ints rs]; exact s.seq sq, k _ F H (.refl s) rfl⟩
theorem oc_all {xs : List Bool} : OpC K (rAll K) (xs, ()) (xs.all id) :=
  oc1 fun F H v Q s ⟨a, vs, e, sq, rs⟩ k => ⟨a, xs, by rw [e], by rw [← rps_bls rs]; exact s.seq sq, k _ F H (.refl s) rfl⟩
theorem oc_any {xs : List Bool} : OpC K (rAny K) (xs, ()) (xs.any id) :=
  oc1 fun F H v Q s ⟨a, vs, e, sq, rs⟩ k => ⟨a, xs, by rw [e], by rw [← rps_bls rs]; exact s.seq sq, k _ F H (.refl s) rfl⟩
end
end Gx

/-! Gw: what is read from a private dict may be a list. -/
namespace Gx
open PySem PySem.Spec PyProof.Rows L2
open Rp (rp)
open Ra (ra)
open Ob (ob)
theorem isD_tup {F : Hp} {l : Addr} (d : IsD F l) : (∀ xs, ¬ F l = some (.tup xs)) ∧ (∀ (o' : Obj) (xs : List V), ¬ F l = some (.frz o' (.tup xs))) := by
  rcases d with ⟨ks, d | ⟨o, d⟩⟩ | ⟨ks, d | ⟨o, d⟩⟩ <;> exact ⟨fun xs h => (by rw [d] at h; cases h), fun o' xs h => (by rw [d] at h; cases h)⟩
theorem isD_lst {F : Hp} {l : Addr} {xs : List V} (d : IsD F l) : ¬ Rd F l (.lst xs) := by
  rcases d with ⟨ks, d | ⟨o, d⟩⟩ | ⟨ks, d | ⟨o, d⟩⟩ <;> rintro (h | ⟨o, h⟩) <;> (rw [d] at h; cases h)
theorem er_neD {F : Hp} {l a : Addr} (h : ¬ a = l) : er F l a = F a := if_neg h
/-- a thing that is no dict and has none in it -/
class FlatD (α : Type) [Rp α] : Prop where
  fl : ∀ {K : PySem.W.Frag} {F : Hp} {l : Addr} {v : V} {x : α}, IsD F l → rp K F v x → rp K (er F l) v x
instance : FlatD Int := ⟨fun _ h => h⟩
instance : FlatD Bool := ⟨fun _ h => h⟩
instance : FlatD Str := ⟨fun _ h => h⟩
instance : FlatD Unit := ⟨fun _ h => h⟩
instance {α : Type} [Rp α] [NN α] [FlatD α] : FlatD (Option α) := ⟨fun {K F l v x} h1 h => by
  cases x with
  | none => exact h
  | some x => exact FlatD.fl (α := α) h1 h⟩
theorem Rps.fd {α : Type} [Rp α] [FlatD α] {K : PySem.W.Frag} {F : Hp} {l : Addr} {vs : List V} {xs : List α} (h1 : IsD F l) (h : Rps K F vs xs) : Rps K (er F l) vs xs := L2.Paired.mapP h fun _ _ => FlatD.fl h1
instance {α : Type} [Rp α] [FlatD α] : FlatD (Tp α) := ⟨fun h1 ⟨a, vs, e, q, r⟩ => ⟨a, vs, e, er_seqT (isD_tup h1).1 (isD_tup h1).2 q, Rps.fd h1 r⟩⟩
instance {α : Type} [Rp α] [FlatD α] : FlatD (List α) := ⟨fun {K F l v x} h1 ⟨a, vs, e, q, r⟩ => ⟨a, vs, e, by
  rcases q with q | q
  · refine .inl ?_
    have : ¬ a = l := fun z => isD_lst h1 (z ▸ q)
    unfold Rd
    rw [er_neD this]; exact q
  · exact .inr q, Rps.fd h1 r⟩⟩
class FlatDR (τ : Type) [Ra τ] : Prop where
  fl : ∀ {K : PySem.W.Frag} {F : Hp} {l : Addr} {v : List V} {x : τ}, IsD F l → ra K F v x → ra K (er F l) v x
instance : FlatDR Unit := ⟨fun _ h => h⟩
instance {α τ : Type} [Rp α] [Ra τ] [FlatD α] [FlatDR τ] : FlatDR (α × τ) := ⟨fun h1 ⟨v, r, e, p, q⟩ => ⟨v, r, e, FlatD.fl h1 p, FlatDR.fl h1 q⟩⟩
theorem rpT.fd {θ τ : Type} [Ra τ] [FlatDR τ] {row : θ → τ} {K : PySem.W.Frag} {F : Hp} {l : Addr} {v : V} {x : θ} (h1 : IsD F l) : rpT row K F v x → rpT row K (er F l) v x := fun ⟨a, vs, e, q, r⟩ => ⟨a, vs, e, er_seqT (isD_tup h1).1 (isD_tup h1).2 q, FlatDR.fl h1 r⟩
instance {α : Type} [Rp α] [FlatD α] : FlatD (T1 α) := ⟨rpT.fd⟩
instance {α β : Type} [Rp α] [Rp β] [FlatD α] [FlatD β] : FlatD (T2 α β) := ⟨rpT.fd⟩
instance {α β γ : Type} [Rp α] [Rp β] [Rp γ] [FlatD α] [FlatD β] [FlatD γ] : FlatD (T3 α β γ) := ⟨rpT.fd⟩
instance {α β γ δ : Type} [Rp α] [Rp β] [Rp γ] [Rp δ] [FlatD α] [FlatD β] [FlatD γ] [FlatD δ] : FlatD (T4 α β γ δ) := ⟨rpT.fd⟩
instance {α β γ δ ε : Type} [Rp α] [Rp β] [Rp γ] [Rp δ] [Rp ε] [FlatD α] [FlatD β] [FlatD γ] [FlatD δ] [FlatD ε] : FlatD (T5 α β γ δ ε) := ⟨rpT.fd⟩
section
variable {X : Cx} {K : PySem.W.Frag} {e a b c d : Expr} {es : List Expr} {σ : L2.St} {F H F0 H0 : Hp} {pos : Pos} {D : Ends} {st : Stmt} {rest body : List Stmt}
theorem ev_thawD {α κ ν : Type} [Rp α] [FlatD α] [Rp κ] [DecidableEq κ] [DKey κ] [Rp ν] {x : α} {y : Dct κ ν} {l : Addr} (o : Own X.K H0 F H l y) (s : L2.Same F H) (h : ∀ F' H', L2.Same F F' → L2.Same F' H' → rp X.K F' (.ref l) y → (∀ a, a ≠ l → F' a = F a ∧ H' a = H a) → Ev X e σ F' H' x) : Ev X e σ F H x := fun F1 H1 g Q q => by
  obtain ⟨u, hl, r⟩ := o.h
  have hl1 := g.hh.k _ _ hl (Ob.pl r).ntb
  refine GoE.locked hl1 (Ob.mu r) fun od => ?_
  obtain ⟨g1, f1, h1⟩ := GrX.show_ (u := .frz od u) hl o.f (Ob.ls r) (Ob.pl r) g
  refine h _ _ (same_upd o.f) (shown s) (Ob.fz upd_same (Ob.mono (same_upd o.f) r)) (fun a ha => ⟨upd_ne ha, upd_ne ha⟩) _ _ g1 _ fun v F2 H2 g2 r2 => ?_
  have e2 : F2 l = some (.frz od u) := g2.ff _ _ upd_same
  have hd : IsD F2 l := by
    obtain ⟨kvs, e, _⟩ := r
    exact DKey.isD (.inr ⟨od, e ▸ e2⟩)
  exact ⟨g2.fh _ _ e2, q v (er F2 l) _ (Gr.hide h1 f1 (Ob.pl r) g2) (FlatD.fl hd r2)⟩
theorem call_lenDR : CallR X (.builtin "len") (fun xs H Q => ∃ (a : Addr) (kvs : List (Key × V)), xs = [V.ref a] ∧ Rd H a (.dK kvs) ∧ Q (.int (kvs.length : Nat)) H) := by
  intro pins s σ H xs us Q I r h
  obtain ⟨a, kvs, rfl, ha, q⟩ := h
  obtain ⟨u, rfl, ru⟩ := vals1 r
  cases ru
  exact d_len I ha fun t s' I' => ⟨.int kvs.length, H, I', ⟨t, rfl⟩, q⟩
theorem oc_lenD {κ ν : Type} [Rp κ] [DecidableEq κ] [KeyS κ] [Rp ν] {m : Dct κ ν} : OpC K (fun xs H Q => ∃ (a : Addr) (kvs : List (Key × V)), xs = [V.ref a] ∧ Rd H a (.dK kvs) ∧ Q (.int (kvs.length : Nat)) H) (m, ()) (m.l.length : Int) :=
  oc1 fun F H v Q s ⟨a, o, kvs, e, hF, kr⟩ k => ⟨a, kvm KeyS.g kvs, by rw [e], .inr ⟨o, s _ _ hF⟩, k _ F H (.refl s) (by rw [kvm_len]; exact congrArg (fun n : Nat => V.int n) (Paired.length kr))⟩
end
/-- an item of a list that is a number -/
theorem el_int {es : List Expr} {i : Int} {j : Nat} {pos : Pos} {xs : List Int} (hr : EvL X es σ F H xs) : EvL X (.Constant (.int i) j pos :: es) σ F H (i :: xs) := el_cons ev_int hr
/-! ### a list taken apart -/
def unlist2 {α : Type} : List α → Option (T2 α α)
  | [a, b] => some ⟨a, b⟩
  | _ => none
def unlist3 {α : Type} : List α → Option (T3 α α α)
  | [a, b, c] => some ⟨a, b, c⟩
  | _ => none
def unlist4 {α : Type} : List α → Option (T4 α α α α)
  | [a, b, c, d] => some ⟨a, b, c, d⟩
  | _ => none
theorem unl2 {K : PySem.W.Frag} {F : Hp} {v : V} {α : Type} [Rp α] {xs : List α} {t : T2 α α} (h : unlist2 xs = some t) (r : rp K F v xs) : ∃ a vs, v = .ref a ∧ SqL K F a vs ∧ ra K F vs t.row := by
  obtain ⟨a, vs, e, q, rs⟩ := r
  match xs, h with
  | [x, y], h =>
    cases h
    cases rs with
    | cons r1 rs => cases rs with
      | cons r2 rs => cases rs; exact ⟨a, _, e, q, _, _, rfl, r1, _, _, rfl, r2, rfl⟩
theorem unl3 {K : PySem.W.Frag} {F : Hp} {v : V} {α : Type} [Rp α] {xs : List α} {t : T3 α α α} (h : unlist3 xs = some t) (r : rp K F v xs) : ∃ a vs, v = .ref a ∧ SqL K F a vs ∧ ra K F vs t.row := by
  obtain ⟨a, vs, e, q, rs⟩ := r
  match xs, h with
  | [x, y, z], h =>
    cases h
    cases rs with
    | cons r1 rs => cases rs with
      | cons r2 rs => cases rs with
        | cons r3 rs => cases rs; exact ⟨a, _, e, q, _, _, rfl, r1, _, _, rfl, r2, _, _, rfl, r3, rfl⟩
theorem unl4 {K : PySem.W.Frag} {F : Hp} {v : V} {α : Type} [Rp α] {xs : List α} {t : T4 α α α α} (h : unlist4 xs = some t) (r : rp K F v xs) : ∃ a vs, v = .ref a ∧ SqL K F a vs ∧ ra K F vs t.row := by
  obtain ⟨a, vs, e, q, rs⟩ := r
  match xs, h with
  | [x, y, z, u], h =>
    cases h
    cases rs with
    | cons r1 rs => cases rs with
      | cons r2 rs => cases rs with
        | cons r3 rs => cases rs with
          | cons r4 rs => cases rs; exact ⟨a, _, e, q, _, _, rfl, r1, _, _, rfl, r2, _, _, rfl, r3, _, _, rfl, r4, rfl⟩
theorem seqL_mono {K : PySem.W.Frag} {F H : Hp} {a : Addr} {vs : List V} (s : L2.Same F H) (q : SqL K F a vs) : SqL K H a vs := s.seq q
/-! ### a thing of which no more is known than that it is there -/
structure Blur : Type where
instance : Rp Blur := ⟨fun _ _ v _ => v ≠ .non, fun _ h => h⟩
instance : NN Blur := ⟨fun h => h rfl⟩
instance : Flat Blur := ⟨fun _ _ h => h⟩
instance : FlatD Blur := ⟨fun _ h => h⟩
theorem ev_blur {X : Cx} {e : Expr} {σ : L2.St} {F H : Hp} {α : Type} [Rp α] [NN α] {o : Option α} (h : Ev X e σ F H o) : Ev X e σ F H (o.map fun _ => Blur.mk) := fun F1 H1 g Q q => h F1 H1 g Q fun v F2 H2 g2 r2 => q v F2 H2 g2 (by
  cases o with
  | none => exact r2
  | some x => exact fun z => NN.nn (α := α) (z ▸ r2))
/-! ### the same with what is told ahead: a named argument makes the reader of the text look through the whole type -/
section
variable {X : Cx} {e a b c : Expr} {σ : L2.St} {F H : Hp} {pos : Pos} {D : Ends} {rest : List Stmt}
theorem go_setA (α : Type) [Rp α] {x : α} {n : Str} {p : Pos} (i : Nat) (s : SmX X.K F H) (he : Ev X e σ F H x) (k : ∀ v F' H', Gr F H F' H' → rp X.K F' v x → GoS X rest D (σ.set i (some v)) H') (hN : X.N.Nodup) (hi : X.N[i]? = some n := by rfl)
    (hx : Loc X.env.scope n := by first | exact Or.inl rfl | exact Or.inr rfl) (hs : swapsWith e (some (.Name n p)) pos.line X.env = pure false := by rfl) (hf : X.fn n = true ∨ X.env.scope.names.lookup n = some .local := by first | exact .inl rfl | exact .inr rfl) :
    GoS X (.Assign [.Name n p] e pos :: rest) D σ H := go_set i s he k hN hi hx hs hf
theorem go_setNA (α : Type) [Rp α] [Ob α] {x : α} {n : Str} {p : Pos} (i : Nat) (s : SmX X.K F H) (he : EvN X e σ F H x) (k : ∀ l o F' H', Gr F H F' H' → H l = none → F' l = none → H' l = some o → ob X.K F' o x → GoS X rest D (σ.set i (some (.ref l))) H') (hN : X.N.Nodup) (hi : X.N[i]? = some n := by rfl)
    (hx : Loc X.env.scope n := by first | exact Or.inl rfl | exact Or.inr rfl) (hs : swapsWith e (some (.Name n p)) pos.line X.env = pure false := by rfl) (hf : X.fn n = true ∨ X.env.scope.names.lookup n = some .local := by first | exact .inl rfl | exact .inr rfl) :
    GoS X (.Assign [.Name n p] e pos :: rest) D σ H := go_setN i s he k hN hi hx hs hf
theorem go_retA (α : Type) [Rp α] {x : α} (s : SmX X.K F H) (he : Ev X e σ F H x) (k : ∀ v F' H', Gr F H F' H' → rp X.K F' v x → D.rt v H') : GoS X (.Return (some e) pos :: rest) D σ H := go_ret s he k
theorem go_ifA (t : Bool) {as bs : List Stmt} (s : SmX X.K F H) (hc : EvT X c σ F H t) (ka : t = true → ∀ F' H', Gr F H F' H' → GoS X as { D with nx := GoS X rest D } σ H') (kb : t = false → ∀ F' H', Gr F H F' H' → GoS X bs { D with nx := GoS X rest D } σ H') :
    GoS X (.If c as bs pos :: rest) D σ H := go_if s hc ka kb
theorem go_ifjA (t : Bool) {as bs : List Stmt} (P : L2.St → Hp → Prop) (s : SmX X.K F H) (hc : EvT X c σ F H t) (ka : t = true → ∀ F' H', Gr F H F' H' → GoS X as { D with nx := P } σ H') (kb : t = false → ∀ F' H', Gr F H F' H' → GoS X bs { D with nx := P } σ H')
    (k : ∀ σ' H', P σ' H' → GoS X rest D σ' H') : GoS X (.If c as bs pos :: rest) D σ H := go_ifj P s hc ka kb k
theorem EvN.evA (α : Type) [Rp α] [Ob α] {x : α} (h : EvN X e σ F H x) : Ev X e σ F H x := h.ev
theorem ew_orA (x : Bool) {r : Bool} {rest : List Expr} (ha : EvT X a σ F H x) (hb : x = false → EvW X (.BoolOp .Or (b :: rest) pos) σ F H r) (hn : x = true → r = true) : EvW X (.BoolOp .Or (a :: b :: rest) pos) σ F H r := ew_or ha hb hn
theorem ew_andA (x : Bool) {r : Bool} {rest : List Expr} (ha : EvT X a σ F H x) (hb : x = true → EvW X (.BoolOp .And (b :: rest) pos) σ F H r) (hn : x = false → r = false) : EvW X (.BoolOp .And (a :: b :: rest) pos) σ F H r := ew_and ha hb hn
theorem ev_andA (x : Bool) {r : Bool} {rest : List Expr} (ha : Ev X a σ F H x) (hb : x = true → Ev X (.BoolOp .And (b :: rest) pos) σ F H r) (hn : x = false → r = false) : Ev X (.BoolOp .And (a :: b :: rest) pos) σ F H r := ev_and ha hb hn
theorem ev_powcA (z : Int) {x y : Int} (ha : Ev X a σ F H x) (hb : Ev X b σ F H y) (h : CPow x y) (hz : x ^ y.toNat = z) : Ev X (.BinOp a .Pow b pos) σ F H z := ev_powc ha hb h hz
end
end Gx

/-! Gr: isinstance of own classes. -/
namespace Gx
open PySem PySem.Spec PyProof.Rows L2
open Rp (rp)
open Ra (ra)
open Ob (ob)
/-- what isinstance asks of a class cn, and its answer for dn -/
structure IsaF (K : PySem.W.Frag) (cn dn : Str) (b : Bool) : Prop where
  ha : PySem.W.findIn K (.ref (He.ga K cn)) "__class__" = some (some (.builtin "object.__class__"))
  hn : PySem.W.specialIn K (.builtin "object.__class__") "__get__" = some (some (.builtin "getset_descriptor.__get__"))
  ht : PySem.W.takesIn K (.builtin "object.__class__") = some true
  hm : PySem.W.mroIn K (He.ga K cn) (.type "object") = some true
  kit : PySem.W.kitOne K (.ref (He.ga K cn)) (.ref (He.ga K dn)) = some b
def isaB (K : PySem.W.Frag) (cn dn : Str) (b : Bool) : Bool := decide (PySem.W.findIn K (.ref (He.ga K cn)) "__class__" = some (some (.builtin "object.__class__"))) && (decide (PySem.W.specialIn K (.builtin "object.__class__") "__get__" = some (some (.builtin "getset_descriptor.__get__"))) && (decide (PySem.W.takesIn K (.builtin "object.__class__") = some true) && (decide (PySem.W.mroIn K (He.ga K cn) (.type "object") = some true) && decide (PySem.W.kitOne K (.ref (He.ga K cn)) (.ref (He.ga K dn)) = some b))))
theorem isaB_ok {K : PySem.W.Frag} {cn dn : Str} {b : Bool} (h : isaB K cn dn b = true) : IsaF K cn dn b := by
  obtain ⟨h1, h⟩ := Bool.and_eq_true_iff.mp h
  obtain ⟨h2, h⟩ := Bool.and_eq_true_iff.mp h
  obtain ⟨h3, h⟩ := Bool.and_eq_true_iff.mp h
  obtain ⟨h4, h5⟩ := Bool.and_eq_true_iff.mp h
  exact ⟨of_decide_eq_true h1, of_decide_eq_true h2, of_decide_eq_true h3, of_decide_eq_true h4, of_decide_eq_true h5⟩
section
variable {X : Cx} {K : PySem.W.Frag} {e a b c d : Expr} {es : List Expr} {σ : L2.St} {F H F0 H0 : Hp} {pos : Pos} {D : Ends} {st : Stmt} {rest body : List Stmt}
theorem ev_isc {α : Type} [Rp α] {x : α} {cn dn : Str} {r : Bool} {p1 p2 : Pos} (hx : ∀ F v, rp X.K F v x → ∃ a dx fs, v = .ref a ∧ F a = some (.ins (He.ga X.K cn) dx fs)) (I : IsaF X.K cn dn r) (cl : Cls X.K (He.ga X.K cn)) (hm : X.mg "isinstance" = none) (hD : X.mg dn = some (.ref (He.ga X.K dn))) (ha : Ev X a σ F H x)
    (hg : Gl X "isinstance" := by rfl) (hgD : Gl X dn := by rfl) (hd : (dn == ("__debug__" : Str)) = false := by decide)
    (hs : starEach [a, .Name dn p2] X.env = (false, eval a X.env) :: starEach [.Name dn p2] X.env := by rfl) (hs2 : starEach [.Name dn p2] X.env = (false, eval (.Name dn p2) X.env) :: starEach [] X.env := by rfl)
    (hpl : (backTo pos (starEach [.Name dn p2] X.env)).any (·.1) = false := by rfl) : Ev X (.Call (.Name "isinstance" p1) [a, .Name dn p2] [] pos) σ F H r := fun F1 H1 g Q q =>
  GoE.of (pe_callB call_isi hg hm (by decide +kernel) (pa_cons pe_go (pa_cons (pe_glob (v := .ref (He.ga X.K dn)) hgD hD rfl hd) pa_nil hs2) hs) (by decide) (by decide) hs hpl)
    (ha F1 H1 g _ fun v F2 H2 g2 r2 => by
      obtain ⟨z, dx, fs, e, hF⟩ := hx F2 v r2
      exact ⟨v, .ref (He.ga X.K dn), .ref (He.ga X.K cn), .ref (He.ga X.K dn), r, rfl, .own _, e ▸ .base (.ins (g2.fh _ _ hF) cl I.ha I.hn I.ht I.hm), I.kit, q _ F2 H2 g2 rfl⟩)
theorem rpI.ins {cn : Str} {names : List Str} {τ : Type} [Ra τ] {F : Hp} {v : V} {x : τ} (h : rpI cn names K F v x) : ∃ a dx fs, v = .ref a ∧ F a = some (.ins (He.ga K cn) dx fs) := by
  obtain ⟨a, dx, vs, e, q, _⟩ := h
  exact ⟨a, dx, _, e, q⟩
structure T6 (α β γ δ ε ζ : Type) where
  a : α
  b : β
  c : γ
  d : δ
  e : ε
  f : ζ
  deriving DecidableEq
abbrev T6.row {α β γ δ ε ζ : Type} (x : T6 α β γ δ ε ζ) : α × β × γ × δ × ε × ζ × Unit := (x.a, x.b, x.c, x.d, x.e, x.f, ())
instance {α β γ δ ε ζ : Type} [Rp α] [Rp β] [Rp γ] [Rp δ] [Rp ε] [Rp ζ] : Rp (T6 α β γ δ ε ζ) := ⟨rpT T6.row, rpT.mono⟩
instance {α β γ δ ε ζ : Type} [Rp α] [Rp β] [Rp γ] [Rp δ] [Rp ε] [Rp ζ] : NN (T6 α β γ δ ε ζ) := ⟨rpT.nn⟩
instance {α β γ δ ε ζ : Type} [Rp α] [Rp β] [Rp γ] [Rp δ] [Rp ε] [Rp ζ] : Tup (T6 α β γ δ ε ζ) (α × β × γ × δ × ε × ζ × Unit) := ⟨T6.row, Iff.rfl⟩
instance {α β γ δ ε ζ : Type} [Rp α] [Rp β] [Rp γ] [Rp δ] [Rp ε] [Rp ζ] [Flat α] [Flat β] [Flat γ] [Flat δ] [Flat ε] [Flat ζ] : Flat (T6 α β γ δ ε ζ) := ⟨rpT.fl⟩
instance {α β γ δ ε ζ : Type} [Rp α] [Rp β] [Rp γ] [Rp δ] [Rp ε] [Rp ζ] [FlatD α] [FlatD β] [FlatD γ] [FlatD δ] [FlatD ε] [FlatD ζ] : FlatD (T6 α β γ δ ε ζ) := ⟨rpT.fd⟩
instance {α β γ δ ε ζ : Type} [Rp α] [Rp β] [Rp γ] [Rp δ] [Rp ε] [Rp ζ] : Kd (T6 α β γ δ ε ζ) := ⟨"tuple", rpT.kd⟩
instance {α β γ δ ε ζ : Type} [Rp α] [Rp β] [Rp γ] [Rp δ] [Rp ε] [Rp ζ] [Pd α] [Pd β] [Pd γ] [Pd δ] [Pd ε] [Pd ζ] : Pd (T6 α β γ δ ε ζ) := ⟨fun x => .tuple (PdR.toR x.row), rpT.dp, rowEq fun x y => by cases x; cases y; simp [T6.row]⟩
instance {α β γ δ ε ζ : Type} [Rp α] [Rp β] [Rp γ] [Rp δ] [Rp ε] [Rp ζ] [Pd α] [Pd β] [Pd γ] [Pd δ] [Pd ε] [Pd ζ] [PdS α] [PdS β] [PdS γ] [PdS δ] [PdS ε] [PdS ζ] : PdS (T6 α β γ δ ε ζ) := ⟨PdRS.dep (α × β × γ × δ × ε × ζ × Unit) + 1, fun x => Nat.succ_le_succ (PdRS.de x.row)⟩
instance {α β γ δ ε ζ : Type} [Rp α] [Rp β] [Rp γ] [Rp δ] [Rp ε] [Rp ζ] [Pd α] [Pd β] [Pd γ] [Pd δ] [Pd ε] [Pd ζ] [PdF α] [PdF β] [PdF γ] [PdF δ] [PdF ε] [PdF ζ] : PdF (T6 α β γ δ ε ζ) := ⟨fun x => PdRF.ok x.row⟩
instance {α β γ δ ε ζ : Type} [Rp α] [Rp β] [Rp γ] [Rp δ] [Rp ε] [Rp ζ] [Pd α] [Pd β] [Pd γ] [Pd δ] [Pd ε] [Pd ζ] [PdL α] [PdL β] [PdL γ] [PdL δ] [PdL ε] [PdL ζ] : PdL (T6 α β γ δ ε ζ) := ⟨fun x => PdRL.tx x.row, fun h => PdRL.ok h⟩
theorem ev_tup6 {α β γ δ ε ζ : Type} [Rp α] [Rp β] [Rp γ] [Rp δ] [Rp ε] [Rp ζ] {x : α} {y : β} {z : γ} {u : δ} {w : ε} {p : ζ} {k : Nat} (h : EvA X es σ F H (x, y, z, u, w, p, ())) : Ev X (.Tuple es k pos) σ F H (T6.mk x y z u w p) := ev_tup (θ := T6 α β γ δ ε ζ) h (by show 6 ≤ sizeLine; decide)
structure T7 (α β γ δ ε ζ η : Type) where
  a : α
  b : β
  c : γ
  d : δ
  e : ε
  f : ζ
  g : η
  deriving DecidableEq
abbrev T7.row {α β γ δ ε ζ η : Type} (x : T7 α β γ δ ε ζ η) : α × β × γ × δ × ε × ζ × η × Unit := (x.a, x.b, x.c, x.d, x.e, x.f, x.g, ())
instance {α β γ δ ε ζ η : Type} [Rp α] [Rp β] [Rp γ] [Rp δ] [Rp ε] [Rp ζ] [Rp η] : Rp (T7 α β γ δ ε ζ η) := ⟨rpT T7.row, rpT.mono⟩
instance {α β γ δ ε ζ η : Type} [Rp α] [Rp β] [Rp γ] [Rp δ] [Rp ε] [Rp ζ] [Rp η] : NN (T7 α β γ δ ε ζ η) := ⟨rpT.nn⟩
instance {α β γ δ ε ζ η : Type} [Rp α] [Rp β] [Rp γ] [Rp δ] [Rp ε] [Rp ζ] [Rp η] : Tup (T7 α β γ δ ε ζ η) (α × β × γ × δ × ε × ζ × η × Unit) := ⟨T7.row, Iff.rfl⟩
instance {α β γ δ ε ζ η : Type} [Rp α] [Rp β] [Rp γ] [Rp δ] [Rp ε] [Rp ζ] [Rp η] [Flat α] [Flat β] [Flat γ] [Flat δ] [Flat ε] [Flat ζ] [Flat η] : Flat (T7 α β γ δ ε ζ η) := ⟨rpT.fl⟩
instance {α β γ δ ε ζ η : Type} [Rp α] [Rp β] [Rp γ] [Rp δ] [Rp ε] [Rp ζ] [Rp η] [FlatD α] [FlatD β] [FlatD γ] [FlatD δ] [FlatD ε] [FlatD ζ] [FlatD η] : FlatD (T7 α β γ δ ε ζ η) := ⟨rpT.fd⟩
instance {α β γ δ ε ζ η : Type} [Rp α] [Rp β] [Rp γ] [Rp δ] [Rp ε] [Rp ζ] [Rp η] : Kd (T7 α β γ δ ε ζ η) := ⟨"tuple", rpT.kd⟩
instance {α β γ δ ε ζ η : Type} [Rp α] [Rp β] [Rp γ] [Rp δ] [Rp ε] [Rp ζ] [Rp η] [Pd α] [Pd β] [Pd γ] [Pd δ] [Pd ε] [Pd ζ] [Pd η] : Pd (T7 α β γ δ ε ζ η) := ⟨fun x => .tuple (PdR.toR x.row), rpT.dp, rowEq fun x y => by cases x; cases y; simp [T7.row]⟩
instance {α β γ δ ε ζ η : Type} [Rp α] [Rp β] [Rp γ] [Rp δ] [Rp ε] [Rp ζ] [Rp η] [Pd α] [Pd β] [Pd γ] [Pd δ] [Pd ε] [Pd ζ] [Pd η] [PdS α] [PdS β] [PdS γ] [PdS δ] [PdS ε] [PdS ζ] [PdS η] : PdS (T7 α β γ δ ε ζ η) := ⟨PdRS.dep (α × β × γ × δ × ε × ζ × η × Unit) + 1, fun x => Nat.succ_le_succ (PdRS.de x.row)⟩
instance {α β γ δ ε ζ η : Type} [Rp α] [Rp β] [Rp γ] [Rp δ] [Rp ε] [Rp ζ] [Rp η] [Pd α] [Pd β] [Pd γ] [Pd δ] [Pd ε] [Pd ζ] [Pd η] [PdF α] [PdF β] [PdF γ] [PdF δ] [PdF ε] [PdF ζ] [PdF η] : PdF (T7 α β γ δ ε ζ η) := ⟨fun x => PdRF.ok x.row⟩
instance {α β γ δ ε ζ η : Type} [Rp α] [Rp β] [Rp γ] [Rp δ] [Rp ε] [Rp ζ] [Rp η] [Pd α] [Pd β] [Pd γ] [Pd δ] [Pd ε] [Pd ζ] [Pd η] [PdL α] [PdL β] [PdL γ] [PdL δ] [PdL ε] [PdL ζ] [PdL η] : PdL (T7 α β γ δ ε ζ η) := ⟨fun x => PdRL.tx x.row, fun h => PdRL.ok h⟩
theorem ev_tup7 {α β γ δ ε ζ η : Type} [Rp α] [Rp β] [Rp γ] [Rp δ] [Rp ε] [Rp ζ] [Rp η] {x : α} {y : β} {z : γ} {u : δ} {w : ε} {p : ζ} {q : η} {k : Nat} (h : EvA X es σ F H (x, y, z, u, w, p, q, ())) : Ev X (.Tuple es k pos) σ F H (T7.mk x y z u w p q) := ev_tup (θ := T7 α β γ δ ε ζ η) h (by show 7 ≤ sizeLine; decide)
theorem pj5 {α β γ δ ε ζ τ : Type} [Rp α] [Rp β] [Rp γ] [Rp δ] [Rp ε] [Rp ζ] [Ra τ] {x0 : α} {x1 : β} {x2 : γ} {x3 : δ} {x4 : ε} {x5 : ζ} {y : τ} : Proj 5 (x0, x1, x2, x3, x4, x5, y) x5 := fun K F vs ⟨v0, r0, e0, p0, v1, r1, e1, p1, v2, r2, e2, p2, v3, r3, e3, p3, v4, r4, e4, p4, v5, r5, e5, p5, q⟩ => ⟨v5, by subst e0; subst e1; subst e2; subst e3; subst e4; subst e5; show (ixN (r5.length + 1 + 1 + 1 + 1 + 1 + 1) 5).bind _ = _; unfold ixN; rw [if_pos (by decide), if_pos (by omega)]; rfl, p5⟩
theorem pj6 {α β γ δ ε ζ η τ : Type} [Rp α] [Rp β] [Rp γ] [Rp δ] [Rp ε] [Rp ζ] [Rp η] [Ra τ] {x0 : α} {x1 : β} {x2 : γ} {x3 : δ} {x4 : ε} {x5 : ζ} {x6 : η} {y : τ} : Proj 6 (x0, x1, x2, x3, x4, x5, x6, y) x6 := fun K F vs ⟨v0, r0, e0, p0, v1, r1, e1, p1, v2, r2, e2, p2, v3, r3, e3, p3, v4, r4, e4, p4, v5, r5, e5, p5, v6, r6, e6, p6, q⟩ => ⟨v6, by subst e0; subst e1; subst e2; subst e3; subst e4; subst e5; subst e6; show (ixN (r6.length + 1 + 1 + 1 + 1 + 1 + 1 + 1) 6).bind _ = _; unfold ixN; rw [if_pos (by decide), if_pos (by omega)]; rfl, p6⟩
theorem zip_none {m : Str} : ∀ {names : List Str} {vs : List V}, m ∉ names → (names.zip vs).lookup m = none
  | [], _, _ => rfl
  | _ :: _, [], _ => rfl
  | n :: ns, v :: vs, h => by
    show (match m == n with | true => some v | false => (ns.zip vs).lookup m) = none
    have h1 : (m == n) = false := beq_eq_false_iff_ne.mpr fun e => h (e ▸ List.mem_cons_self)
    rw [h1]
    exact zip_none fun z => h (List.mem_cons_of_mem _ z)
/-- o.m() of a thing of one class -/
theorem ev_meth0 {α ρ : Type} [Rp α] [Rp ρ] {x : α} {f : α × Unit → Option ρ} {r : ρ} {cn m : Str} {names : List Str} {k : Nat} {fa : Addr} {fd : FuncData} {ps : List Str} {apos : Pos} {pl : Sem Bool} (hx : ∀ F v, rp X.K F v x → ∃ a dx vs, v = .ref a ∧ F a = some (.ins (He.ga X.K cn) dx (names.zip vs))) (hn : m ∉ names) (cl : Cls X.K (He.ga X.K cn)) (me : Meth X.K (He.ga X.K cn) m fa)
    (Fn : FnOk X.prog X.w X.K X.mg X.base CX0 k fa fd ps (Pr X.K f)) (hr : Room k X.A) (hb : Binds X.K fd ps []) (ha : Ev X a σ F H x) (h : f (x, ()) = some r)
    (ht : eval (.Call (.Attribute a m apos) [] [] pos) X.env = (do
      let ov ← eval a X.env
      standAt apos.atName
      let (f, first) ← holding [ov] (getMethod ov m pl)
      callWith pos f first (backTo pos (starEach [] X.env)) (backToKw pos (keywordEach [] X.env))) := by rfl) : Ev X (.Call (.Attribute a m apos) [] [] pos) σ F H r := fun F1 H1 g Q q =>
  GoE.of (pe_meth0 pe_go cl me Fn hr hb .nil pass0 ht) (ha F1 H1 g _ fun v F2 H2 g2 r2 => by
    obtain ⟨z, dx, vs, e, hF⟩ := hx F2 v r2
    subst e
    exact ⟨z, dx, _, rfl, g2.fh _ _ hF, zip_none hn, F2, (x, ()), r, (g.trans g2).sm, ⟨_, [], rfl, r2, rfl⟩, h, fun F3 H3 u g3 r3 => q u F3 H3 (g2.trans g3) r3⟩)
theorem rpI.insN {cn : Str} {names : List Str} {τ : Type} [Ra τ] {F : Hp} {v : V} {x : τ} (h : rpI cn names K F v x) : ∃ a dx vs, v = .ref a ∧ F a = some (.ins (He.ga K cn) dx (names.zip vs)) := by
  obtain ⟨a, dx, vs, e, q, _⟩ := h
  exact ⟨a, dx, vs, e, q⟩
end
end Gx

/-! Gn: exceptions: defs that may raise, try with one clause. -/
namespace Gx
open PySem PySem.Spec PyProof.Rows L2
open Rp (rp)
open Ra (ra)
open Ob (ob)
/-- an outcome: a value, or an exception -/
inductive Rs (ε ρ : Type) where
  | v (r : ρ)
  | x (e : ε)
/-- what stands for an exception of a class, with a dict -/
class Xk (ε : Type) where
  xr : PySem.W.Frag → Hp → Hp → Value → Option Addr → ε → Prop
open Xk (xr)
/-- with one field -/
def xr1 (cn fn : Str) {α : Type} [Rp α] (K : PySem.W.Frag) (F H : Hp) (cls : Value) (dd : Option Addr) (x : α) : Prop := cls = .ref (He.ga K cn) ∧ ∃ d v, dd = some d ∧ H d = some (.xd [(fn, v)]) ∧ rp K F v x
/-- without one -/
def xr0 (cn : Str) (K : PySem.W.Frag) (cls : Value) (dd : Option Addr) : Prop := cls = .ref (He.ga K cn) ∧ dd = none
/-- the promise of a def that may raise -/
def PrE (K : PySem.W.Frag) {τ ε ρ : Type} [Ra τ] [Xk ε] [Rp ρ] (f : τ → Option (Rs ε ρ)) : Sp := fun vs H Q E => ∃ F a o, SmX K F H ∧ ra K F vs a ∧ f a = some o ∧
  (∀ r, o = .v r → ∀ F' H' u, Gr F H F' H' → rp K F' u r → Q u H') ∧ (∀ e, o = .x e → ∀ F' H' cls dd, Gr F H F' H' → xr K F' H' cls dd e → E cls dd H')
/-! ### classes -/
def oexB (K : PySem.W.Frag) (C : Addr) : Bool := match K.lookup C with
  | some ⟨.type "type", _, .cls cd, sl⟩ => (match cd.mro, sl.toList with
    | .ref C' :: bm, [_, _, _, _, some (.builtin n), _] => C' == C && n == "ValueError.__new__" && !cd.hasDel && cd.hasDict && PySem.HandSPX.refsVE bm
    | _, _ => false)
  | _ => false
theorem oexB_ok {K : PySem.W.Frag} {C : Addr} (q : oexB K C = true) : ∃ nm q N bs bm sn sub ab col dd k0 k1 k2 k3 k5, K.lookup C = some (excClassObj nm q C N bs bm true sn sub ab col dd k0 k1 k2 k3 k5 "ValueError.__new__") ∧ PySem.HandSPX.refsVE bm = true := by
  unfold oexB at q
  split at q
  · rename_i dd cd sl ho
    split at q
    · rename_i C' bm k0 k1 k2 k3 n k5 hm hs
      simp only [Bool.and_eq_true, beq_iff_eq, Bool.not_eq_true'] at q
      obtain ⟨⟨⟨⟨rfl, rfl⟩, hdel⟩, hdd⟩, hv⟩ := q
      obtain ⟨nm, bs, mro, ns, qn, hd, sn, sub, ab, col, del⟩ := cd
      dsimp only at hm hdel hdd
      subst hm hdel hdd
      have hsl : sl = #[k0, k1, k2, k3, some (.builtin "ValueError.__new__"), k5] := by
        obtain ⟨l⟩ := sl
        simp only at hs
        rw [hs]
      subst hsl
      exact ⟨nm, qn, ns, bs, bm, sn, sub, ab, col, dd, k0, k1, k2, k3, k5, ho, hv⟩
    · cases q
  · cases q
structure XoF (K : PySem.W.Frag) (cn fn : Str) : Prop where
  T : OexC K (He.ga K cn)
  iC : PySem.W.findIn K (.ref (He.ga K cn)) "__init__" = some (some (.ref (He.ma K (He.ga K cn) "__init__")))
  tI : PySem.W.typeIn K (.ref (He.ma K (He.ga K cn) "__init__")) = some (.type "function")
  no : PySem.W.findIn K (.ref (He.ga K cn)) fn = some none
  xf : XfC K (He.ga K cn)
def xoB (K : PySem.W.Frag) (cn fn : Str) : Bool := (((((((oexB K (He.ga K cn) && decide (PySem.W.findIn K (.ref (He.ga K cn)) "__setattr__" = some (some (.builtin "object.__setattr__")))) && decide (PySem.W.subIn K (.ref (He.ga K cn)) (.type "BaseException") = some true)) && decide (PySem.W.typeIn K (.ref (He.ga K cn)) = some (.type "type"))) && PySem.W.keepIn K (.ref (He.ga K cn))) &&
  decide (PySem.W.findIn K (.ref (He.ga K cn)) "__init__" = some (some (.ref (He.ma K (He.ga K cn) "__init__"))))) && decide (PySem.W.typeIn K (.ref (He.ma K (He.ga K cn) "__init__")) = some (.type "function"))) && decide (PySem.W.findIn K (.ref (He.ga K cn)) fn = some none)) && xfB K (He.ga K cn)
theorem xoB_ok {K : PySem.W.Frag} {cn fn : Str} (h : xoB K cn fn = true) : XoF K cn fn := by
  obtain ⟨h, h9⟩ := Bool.and_eq_true_iff.mp h
  obtain ⟨h, h8⟩ := Bool.and_eq_true_iff.mp h
  obtain ⟨h, h7⟩ := Bool.and_eq_true_iff.mp h
  obtain ⟨h, h6⟩ := Bool.and_eq_true_iff.mp h
  obtain ⟨h, h5⟩ := Bool.and_eq_true_iff.mp h
  obtain ⟨h, h4⟩ := Bool.and_eq_true_iff.mp h
  obtain ⟨h, h3⟩ := Bool.and_eq_true_iff.mp h
  obtain ⟨h1, h2⟩ := Bool.and_eq_true_iff.mp h
  exact ⟨⟨oexB_ok h1, of_decide_eq_true h2, of_decide_eq_true h3, of_decide_eq_true h4, h5⟩, of_decide_eq_true h6, of_decide_eq_true h7, of_decide_eq_true h8, xfB_ok h9⟩
/-- what is asked of a class without own __init__ -/
abbrev XnF (K : PySem.W.Frag) (cn : Str) : Prop := PySem.W.excIn K (He.ga K cn) He.veBase "ValueError.__new__" = true ∧ PySem.W.keepIn K (.ref (He.ga K cn)) = true ∧ PySem.W.subIn K (.ref (He.ga K cn)) (.type "BaseException") = some true ∧ PySem.W.typeIn K (.ref (He.ga K cn)) = some (.type "type")
/-- the promise of such an __init__ -/
def PrXI (K : PySem.W.Frag) (C : Addr) (fn : Str) : Sp := fun vs H Q _ => ∃ a v, vs = [.ref a, v] ∧ H a = some (exo a C none) ∧ ∀ d, H d = none → d ≠ a → Q .non (upd (upd H d (exd d [(fn, v)])) a (exo a C (some d)))
section
variable {X : Cx} {K : PySem.W.Frag} {e a b c d : Expr} {es : List Expr} {σ : L2.St} {F H F0 H0 : Hp} {pos : Pos} {D : Ends} {st : Stmt} {rest body : List Stmt} {ε : Type} [Xk ε] {W : WX}
theorem fn_okXI {P : Program} {w : World} {mg : Str → Option Value} {base : Heap} {x qual : Str} {s0 : Stmt} {fa : Addr} {fd : FuncData} {N ps : List Str} {k : Nat} {cn fn : Str} (Fn : FunD K x qual (defArgs s0) (defBody s0) (defScope s0) [] [] fa fd) (S : FnScope N ps (defScope s0)) (hn : 2 = ps.length) (X1 : XoF K cn fn)
    {p1 p2 p3 p4 : Pos} {n0 n1 : Str} (hb : defBody s0 = [.Assign [.Attribute (.Name n0 p1) fn p2] (.Name n1 p3) p4]) (hN : N = [n0, n1])
    (hk0 : ∀ m f cd, Vis (envOfC qual (defScope s0) m f cd).scope n0) (hk1 : ∀ m f cd, Vis (envOfC qual (defScope s0) m f cd).scope n1) (hs : ∀ m f cd, swapsWith (.Name n1 p3) (some (.Attribute (.Name n0 p1) fn p2)) p4.line (envOfC qual (defScope s0) m f cd) = pure false)
    (d0 : (n0 == ("__debug__" : Str)) = false := by decide) (d1 : (n1 == ("__debug__" : Str)) = false := by decide) (c0 : (n0 == ("__classdict__" : Str)) = false := by decide) (c1 : (n1 == ("__classdict__" : Str)) = false := by decide) :
    FnOk P w K mg base CX0 (k + 1) fa fd ps (PrXI K (He.ga K cn) fn) := by
  refine Fn.ok S (fun vs H Q E ⟨a, v, e, _⟩ => by rw [e, ← hn]; rfl) fun cdv A outer s H vs Q E hr ⟨a, v, e, ha, k⟩ => ?_
  subst e
  rw [hb]
  subst hN
  refine ⟨_, pss_cons (ps_ost (pe_var (i := 0) rfl (hk0 _ _ _) d0 c0) (pe_var (i := 1) rfl (hk1 _ _ _) d1 c1) (hs _ _ _)) pss_nil, ?_⟩
  exact ⟨v, rfl, .ref a, rfl, a, _, rfl, X1.T, X1.no, .inl ⟨ha, fun dx n1 n2 => k dx n1 n2⟩⟩
theorem fn_okX {P : Program} {w : World} {mg : Str → Option Value} {base : Heap} {τ ρ : Type} [Ra τ] [RaN τ] [Rp ρ] {f : τ → Option (Rs ε ρ)} {x qual : Str} {s0 : Stmt} {fa : Addr} {fd : FuncData} {N ps : List Str} {k : Nat} (Fn : FunD K x qual (defArgs s0) (defBody s0) (defScope s0) [] [] fa fd) (S : FnScope N ps (defScope s0)) (hn : RaN.n τ = ps.length)
    (hbody : ∀ (cdv : Value) (A : Around) (outer : List Env) (s : Shared) (F H : Hp) (vs : List V) (a : τ) (r : Rs ε ρ) (D : Ends) (E : XK), Room k (A.deeper (envOfC qual (defScope s0) s.heap.objs.size fa cdv)) → SmX K F H → ra K F vs a → f a = some r →
      (∀ F' H' u y, Rs.v y = r → GrX K F H F' H' → rp K F' u y → D.rt u H') → (∀ σ' F' H' y, Rs.v y = r → GrX K F H F' H' → rp K F' .non y → D.nx σ' H') →
      (∀ y, Rs.x y = r → ∀ F' H' cls dd, GrX K F H F' H' → xr K F' H' cls dd y → E cls dd H') →
      Takes (cxOf (L2.CX P w) P w K mg base N qual (defScope s0) fa cdv A outer s H E) (fun cls d _ H => E cls d H) →
      PassesOwn (model P w) (A.deeper (envOfC qual (defScope s0) s.heap.objs.size fa cdv)) (envOfC qual (defScope s0) s.heap.objs.size fa cdv) (cxOf (L2.CX P w) P w K mg base N qual (defScope s0) fa cdv A outer s H E).xe →
      GoS (cxOf (L2.CX P w) P w K mg base N qual (defScope s0) fa cdv A outer s H E) (defBody s0) D (start N vs) H) :
    FnOk P w K mg base (L2.CX P w) (k + 1) fa fd ps (PrE K f) := by
  refine Fn.ok S (fun vs H Q E ⟨F, a, r, _, ra', _⟩ => by rw [RaN.len ra', hn]) fun cdv A outer s H vs Q E hr ⟨F, a, r, sm, ra', hf, k, kx⟩ => ?_
  refine ⟨_, pss_go, hbody cdv A outer s F H vs a r { nx := fun _ H' => Q .non H', rt := Q } E hr sm ra' hf (fun F' H' u y q g r => k y q.symm F' H' u g.toGr r) (fun σ' F' H' y q g r => k y q.symm F' H' .non g.toGr r) (fun y q F' H' cls dd g r => kx y q.symm F' H' cls dd g.toGr r) (takes_of rfl rfl rfl rfl) (passes_of rfl)⟩
/-! ### an expression that may raise -/
def EvX {ρ : Type} [Rp ρ] (X : Cx) (W : WX) (e : Expr) (σ : L2.St) (F H : Hp) (o : Rs ε ρ) : Prop := ∀ F1 H1, GrX X.K F H F1 H1 → ∀ Q : VK, (∀ r, o = .v r → ∀ v F2 H2, Gr F1 H1 F2 H2 → rp X.K F2 v r → Q v H2) → (∀ y, o = .x y → ∀ F2 H2 cls dd, Gr F1 H1 F2 H2 → xr X.K F2 H2 cls dd y → W cls dd σ H2) → GoE X e σ H1 Q
theorem EvX.ok {ρ : Type} [Rp ρ] {r : ρ} (h : EvX (ε := ε) X W e σ F H (.v r)) : Ev X e σ F H r := fun F1 H1 g Q q => h F1 H1 g Q (fun r' e => by cases e; exact q) fun y e => nomatch e
/-- e raises -/
def Rz (X : Cx) (e : Expr) (σ : L2.St) (F H : Hp) : Prop := ∀ F1 H1, GrX X.K F H F1 H1 → ∀ Q : VK, GoE X e σ H1 Q
theorem EvX.rz {ρ : Type} [Rp ρ] {y : ε} (h : EvX (ρ := ρ) X W e σ F H (.x y)) (k : ∀ F2 H2 cls dd, Gr F H F2 H2 → xr X.K F2 H2 cls dd y → W cls dd σ H2) : Rz X e σ F H := fun F1 H1 g Q => h F1 H1 g Q (fun r e => nomatch e) fun y' e => by
  cases e; exact fun F2 H2 cls dd g2 r => k F2 H2 cls dd (g.toGr.trans g2) r
theorem ex_call {τ ρ : Type} [Ra τ] [Rp ρ] {f : τ → Option (Rs ε ρ)} {y : τ} {r : Rs ε ρ} {k : Nat} {fa : Addr} {fd : FuncData} {ps : List Str} {x : Str} {p : Pos} (tk : Takes X W) (Fn : FnOk X.prog X.w X.K X.mg X.base (L2.CX X.prog X.w) k fa fd ps (PrE X.K f)) (hr : Room k X.A) (hm : X.mg x = some (.ref fa))
    (hk : PySem.W.keepIn X.K (.ref fa) = true) (hb : Binds X.K fd ps []) (ha : EvA X (e :: es) σ F H y) (h : f y = some r) (hg : Gl X x := by rfl) (hdb : (x == ("__debug__" : Str)) = false := by decide)
    (he : starEach (e :: es) X.env = (false, eval e X.env) :: starEach es X.env := by rfl) (hpl : (backTo pos (starEach es X.env)).any (·.1) = false := by rfl) : EvX X W (.Call (.Name x p) (e :: es) [] pos) σ F H r := fun F1 H1 g Q q qx =>
  GoE.of (pe_callS (E := WE W) Fn hr hg hm hk hb (passAt tk) pa_go hdb he hpl) (ha F1 H1 g _ fun vs F2 H2 g2 r2 => ⟨F2, y, r, (g.trans g2).sm, r2, h, fun r' e F3 H3 u g3 r3 => q r' e u F3 H3 (g2.trans g3) r3, fun y' e F3 H3 cls dd g3 r3 => qx y' e F3 H3 cls dd (g2.trans g3) r3⟩)
theorem rz_tup2 {α : Type} [Rp α] {x : α} {k : Nat} (ha : Ev X a σ F H x) (hb : Rz X b σ F H) (hs : starEach [a, b] X.env = (false, eval a X.env) :: starEach [b] X.env := by rfl) (hs2 : starEach [b] X.env = (false, eval b X.env) :: starEach [] X.env := by rfl) : Rz X (.Tuple [a, b] k pos) σ F H := fun F1 H1 g Q =>
  GoE.of (pe_tup (pa_cons pe_go (pa_cons pe_go pa_nil hs2) hs)) (ha F1 H1 g _ fun v F2 H2 g2 r2 => hb F2 H2 (g.trans g2) _)
theorem go_setZ {n : Str} {p : Pos} (i : Nat) (s : SmX X.K F H) (he : Rz X e σ F H) (hN : X.N.Nodup) (hi : X.N[i]? = some n := by rfl)
    (hx : Loc X.env.scope n := by first | exact Or.inl rfl | exact Or.inr rfl) (hs : swapsWith e (some (.Name n p)) pos.line X.env = pure false := by rfl) (hf : X.fn n = true ∨ X.env.scope.names.lookup n = some .local := by first | exact .inl rfl | exact .inr rfl) :
    GoS X (.Assign [.Name n p] e pos :: rest) D σ H :=
  GoS.cons (ps_set hN hi hx pe_go hs hf) (he F H (.refl s) _)
theorem go_unpackZ {tg : Expr} {g : TG} (s : SmX X.K F H) (he : Rz X e σ F H) (hg : PG X tg g)
    (hs : swapsWithSole [tg] e pos.line X.env = pure false := by rfl) (hw : swappedStores [tg] e X.env = pure none := by rfl) (h1 : (assignEach [tg] X.env).map (·.2) = [assign tg X.env] := by rfl) : GoS X (.Assign [tg] e pos :: rest) D σ H :=
  GoS.cons (ps_asg pe_go hg hs hw h1) (he F H (.refl s) _)
theorem go_retZ (s : SmX X.K F H) (he : Rz X e σ F H) : GoS X (.Return (some e) pos :: rest) D σ H := GoS.cons (ps_ret pe_go) (he F H (.refl s) _)
theorem go_exprZ (s : SmX X.K F H) (he : Rz X e σ F H) (hs : swapsWith e none pos.line X.env = pure false := by rfl) : GoS X (.Expr e pos :: rest) D σ H := GoS.cons (ps_expr pe_go hs) (he F H (.refl s) _)
/-! ### raise -/
theorem go_raise0 {m : Str} {cn : Str} {j : Nat} {p p2 pos2 : Pos} (s : SmX X.K F H) (tk : Takes X W) (N1 : XnF X.K cn) (hm : X.mg cn = some (.ref (He.ga X.K cn))) (k : W (.ref (He.ga X.K cn)) none σ H) (hg : Gl X cn := by rfl) (hdb : (cn == ("__debug__" : Str)) = false := by decide) (hc : X.calm = true := by rfl) :
    GoS X (.Raise (some (.Call (.Name cn p) [.Constant (.str m) j p2] [] pos)) none pos2 :: rest) D σ H :=
  GoS.cons (ps_raise hc tk (pmk_own PySem.F.excBase_ValueError N1.1 hm N1.2.1 (raises_own N1.2.2.1 N1.2.2.2) hg hdb)) k
theorem go_raise1 {α : Type} [Rp α] {x : α} {cn fn : Str} {p pos2 : Pos} {kk : Nat} {fd : FuncData} {ps : List Str} (s : SmX X.K F H) (tk : Takes X W) (X1 : XoF X.K cn fn) (hm : X.mg cn = some (.ref (He.ga X.K cn))) (Fn : FnOk X.prog X.w X.K X.mg X.base CX0 kk (He.ma X.K (He.ga X.K cn) "__init__") fd ps (PrXI X.K (He.ga X.K cn) fn)) (hr : Room (kk + 1) X.A) (hb : Binds X.K fd ps [])
    (he : Ev X e σ F H x) (k : ∀ F' H' cls dd, Gr F H F' H' → xr1 cn fn X.K F' H' cls dd x → W cls dd σ H') (hg : Gl X cn := by rfl) (hdb : (cn == ("__debug__" : Str)) = false := by decide) (hc : X.calm = true := by rfl)
    (hs : starEach [e] X.env = (false, eval e X.env) :: starEach [] X.env := by rfl) (hpl : (backTo pos (starEach [] X.env)).any (·.1) = false := by rfl) :
    GoS X (.Raise (some (.Call (.Name cn p) [e] [] pos)) none pos2 :: rest) D σ H :=
  GoS.cons (ps_raise hc tk (pmk_oex X1.T X1.iC X1.tI Fn hr hb .nil pass0 hg hm (pa_cons pe_go pa_nil hs) hdb hs hpl)) (he F H (.refl s) _ fun v F2 H2 g2 r2 => by
    refine ⟨by show 1 ≤ 1000; decide, fun a ha => ⟨a, v, rfl, upd_same, fun d hd hda => ⟨rfl, d, [(fn, v)], upd_same, ?_, ?_, ?_⟩⟩⟩
    · rw [upd_ne hda, upd_same]
    · rw [upd_ne hda] at hd; exact hd
    · rw [upd_ne hda] at hd
      have e1 : upd (del (upd (upd (upd H2 a (exo a (He.ga X.K cn) none)) d (exd d [(fn, v)])) a (exo a (He.ga X.K cn) (some d))) a) d (.xd [(fn, v)]) = upd H2 d (.xd [(fn, v)]) := by
        funext b
        by_cases h1 : b = d
        · subst h1; rw [upd_same, upd_same]
        · rw [upd_ne h1, upd_ne h1]
          by_cases h2 : b = a
          · subst h2; rw [del_same, ha]
          · rw [del_ne h2, upd_ne h2, upd_ne h1, upd_ne h2]
      rw [e1]
      exact k F2 _ _ _ (g2.trans (Gr.newP g2.fh hd)) ⟨rfl, d, v, rfl, upd_same, r2⟩)
/-! ### try -/
/-- what the one clause's suite is to do -/
def Hnd (X : Cx) (c : Value) (cls : Value) (dd : Option Addr) (H : Hp) (k : Addr → Cx → Prop) : Prop := PySem.W.exmOne X.K cls c = some true ∧ ∀ a, H a = none → ∀ oe pn, Zc cls dd oe → (∃ vs, oe.data = .fields vs) → k a (X.suite a ((a, oe) :: pn))
theorem go_tryN {x n : Str} {c : Value} (i : Nat) {suite : List Stmt} {b₀ : Stmt} {np pos' : Pos} (hN : X.N.Nodup) (hc : Names X x c)
    (h : ∀ pn xe (W : WX), Takes (X.tr pn xe) W → PassesOwn (model X.prog X.w) X.A X.env xe →
      (∀ cls dd σ' H', Hnd X c cls dd H' (fun a X' => GoS X' (b₀ :: suite) { nx := fun σ' H' => GoS X rest D (σ'.set i none) H', rt := D.rt, bk := fun σ' H' => D.bk (σ'.set i none) H', ct := fun σ' H' => D.ct (σ'.set i none) H' } (σ'.set i (some (.ref a))) H') → W cls dd σ' H') →
      GoS (X.tr pn xe) body { D with nx := GoS X rest D } σ H)
    (hs : X.stack = X.env :: X.outer := by rfl) (hf : X.env.frame = some X.env.locals := by rfl) (hi : X.N[i]? = some n := by rfl) (hln : X.env.kindOf n = some .local := by rfl) (tk : Takes X (fun _ _ _ _ => False) := by exact takes_none5) :
    GoS X (.Try body [.ExceptHandler (some (.Name x np)) (some n) (b₀ :: suite) pos'] [] [] pos :: rest) D σ H :=
  GoS.cons (ps_try_as (tb := fun W D σ H => ∀ pn xe, Takes (X.tr pn xe) W → PassesOwn (model X.prog X.w) X.A X.env xe → GoS (X.tr pn xe) body D σ H) (ts := fun a cls d D σ H => ∀ oe pn, Zc cls d oe → (∃ vs, oe.data = .fields vs) → GoS (X.suite a ((a, oe) :: pn)) (b₀ :: suite) D σ H) (Wout := fun _ _ _ _ => False) hs hf hN hi hln hc tk
    (fun W pn xe t1 t2 => ⟨fun pins s σ H D I h => (h pn xe t1 t2).o pins s I⟩) (fun a oe cls d pn z1 z2 => ⟨fun pins s σ H D I h => (h oe pn z1 z2).o pins s I⟩))
    fun pn xe t1 t2 => h pn xe _ t1 t2 fun cls dd σ' H' ⟨q1, q2⟩ => ⟨true, q1, fun _ a ha oe pn z1 z2 => q2 a ha oe pn z1 z2, fun z => nomatch z⟩
theorem go_try {x : Str} {c : Value} {suite : List Stmt} {b₀ : Stmt} {np pos' : Pos} (hc : Names X x c)
    (h : ∀ pn xe (W : WX), Takes (X.tr pn xe) W → PassesOwn (model X.prog X.w) X.A X.env xe →
      (∀ cls dd σ' H', Hnd X c cls dd H' (fun a X' => GoS X' (b₀ :: suite) { D with nx := GoS X rest D } σ' H') → W cls dd σ' H') →
      GoS (X.tr pn xe) body { D with nx := GoS X rest D } σ H)
    (hs : X.stack = X.env :: X.outer := by rfl) (hf : X.env.frame = some X.env.locals := by rfl) (tk : Takes X (fun _ _ _ _ => False) := by exact takes_none5) :
    GoS X (.Try body [.ExceptHandler (some (.Name x np)) none (b₀ :: suite) pos'] [] [] pos :: rest) D σ H :=
  GoS.cons (ps_try_only (tb := fun W D σ H => ∀ pn xe, Takes (X.tr pn xe) W → PassesOwn (model X.prog X.w) X.A X.env xe → GoS (X.tr pn xe) body D σ H) (ts := fun a cls d D σ H => ∀ oe pn, Zc cls d oe → (∃ vs, oe.data = .fields vs) → GoS (X.suite a ((a, oe) :: pn)) (b₀ :: suite) D σ H) (Wout := fun _ _ _ _ => False) hs hf hc tk
    (fun W pn xe t1 t2 => ⟨fun pins s σ H D I h => (h pn xe t1 t2).o pins s I⟩) (fun a oe cls d pn z1 z2 => ⟨fun pins s σ H D I h => (h oe pn z1 z2).o pins s I⟩))
    fun pn xe t1 t2 => h pn xe _ t1 t2 fun cls dd σ' H' ⟨q1, q2⟩ => ⟨true, q1, fun _ a ha oe pn z1 z2 => q2 a ha oe pn z1 z2, fun z => nomatch z⟩
/-- e.f in the suite -/
theorem ev_xf {α : Type} [Rp α] {x : α} {a : Addr} {cn fn n : Str} {oe : Obj} {cls : Value} {dd : Option Addr} {pn : List (Addr × Obj)} {p2 : Pos} (i : Nat) (X1 : XoF X.K cn fn) (hz : Zc cls dd oe) (hf : ∃ vs, oe.data = .fields vs) (hσ : σ[i]? = some (some (.ref a))) (r : xr1 cn fn X.K F H cls dd x)
    (hi : X.N[i]? = some n := by rfl) (hv : Vis X.env.scope n := by first | exact Or.inl rfl | exact Or.inr (Or.inl rfl) | exact Or.inr (Or.inr rfl)) (hd : (n == ("__debug__" : Str)) = false := by decide) (hcd : (n == ("__classdict__" : Str)) = false := by decide)
    (hb : attributeBase (.Name n p2) fn X.env (eval (.Name n p2) X.env) = eval (.Name n p2) X.env := by rfl) : Ev (X.suite a ((a, oe) :: pn)) (.Attribute (.Name n p2) fn pos) σ F H x := fun F1 H1 g Q q => by
  obtain ⟨e1, d, v, e2, hd1, rv⟩ := r
  exact GoE.of (pe_xf X1.xf X1.no hz hf (pe_var (X := X.suite a ((a, oe) :: pn)) hi hv hd hcd) hb) ⟨_, hσ, rfl, e1, d, _, v, e2, g.hh.k _ _ hd1 trivial, by simp [List.lookup], q v F1 H1 (.refl g.fh) (Rp.mono g.ff rv)⟩
end
end Gx
namespace Gx
open PySem PySem.Spec PyProof.Rows L2
open Rp (rp)
theorem rp_cast {α : Type} [Rp α] {K : PySem.W.Frag} {F : Hp} {v : V} {x z : α} (e : z = x) (r : rp K F v x) : rp K F v z := e ▸ r
theorem xm_of {K : PySem.W.Frag} {cls c c2 : Value} (e : cls = c) (h : PySem.W.exmOne K c c2 = some true) : PySem.W.exmOne K cls c2 = some true := e ▸ h
theorem xr1.up {cn fn : Str} {α : Type} [Rp α] {K : PySem.W.Frag} {F H F' H' : Hp} {cls : Value} {dd : Option Addr} {x : α} (h : xr1 cn fn K F H cls dd x) (g : Gr F H F' H') : xr1 cn fn K F' H' cls dd x := by
  obtain ⟨e, d, v, e2, h3, r⟩ := h
  exact ⟨e, d, v, e2, g.hh.k _ _ h3 trivial, Rp.mono g.ff r⟩
end Gx

/-! Gb: a private thing changed within an expression. -/
namespace Gx
open PySem PySem.Spec PyProof.Rows L2
open Rp (rp)
open Ra (ra)
open Ob (ob)
theorem Gr.wide {F Hl F1 H1 : Hp} {l : Addr} (g : Gr F Hl F1 (er H1 l)) (pl : PlAt H1 l) : Gr F Hl F1 H1 := by
  have er_s : ∀ b u, er H1 l b = some u → H1 b = some u := fun b u e => by
    unfold er at e; split at e
    · cases e
    · exact e
  exact ⟨g.ff, fun b u e => er_s b u (g.fh b u e), g.hh.trans (.start pl), g.fr⟩
theorem GrX.wide {K : PySem.W.Frag} {F Hl F1 H1 : Hp} {l : Addr} (g : GrX K F Hl F1 (er H1 l)) (pl : PlAt H1 l) : GrX K F Hl F1 H1 := ⟨g.toGr.wide pl, ⟨fun P hP => by
  obtain ⟨a, f⟩ := g.h.t P hP
  exact ⟨(Xt.start pl).w P a, f⟩⟩⟩
theorem Gr.both {F1 H1 F2 H2 : Hp} {l : Addr} {o : HO} (f : F1 l = none) (h : H1 l = some o) (ls : lstish o) (po : pln o) (g : Gr F1 H1 F2 H2) : Gr F1 (er H1 l) F2 (er H2 l) :=
  g.erl f h ls po (fun b hb => er_ne hb) no_er
theorem Gr.ere0 {F2 H2 F3 H3 : Hp} {l : Addr} (g : Gr F2 (er H2 l) F3 H3) (f3 : F3 l = none) (_ : er H2 l l = none) (pl : PlAt H3 l) : Gr F2 (er H2 l) F3 (er H3 l) :=
  ⟨g.ff, fun b u e => by rw [er_ne (ne_of_none e f3)]; exact g.fh _ _ e, ⟨fun b u e n => by
    rw [er_ne (ne_of_none e er_same)]; exact g.hh.k _ _ e n, fun b ps e => by
    rw [er_ne (ne_of_none e er_same)]; exact g.hh.t _ _ e, fun P a => (g.hh.w P a).er pl⟩, g.fr⟩
theorem Own.erS {α : Type} [Rp α] [Ob α] {x : α} {K : PySem.W.Frag} {H0 F H : Hp} {l : Addr} (o : Own K H0 F H l x) (s : L2.Same F H) : L2.Same F (er H l) := fun b u e => by
  rw [er_ne (ne_of_none e o.f)]; exact s _ _ e
section
variable {X : Cx} {K : PySem.W.Frag} {e a b c d : Expr} {es : List Expr} {σ : L2.St} {F H Hl F0 H0 : Hp} {pos : Pos} {D : Ends} {st : Stmt} {rest body : List Stmt} {l : Addr} {β : Type} [Rp β] [Ob β] {c0 c1 c2 : β}
/-- e is worth r and turns the thing at l from x to y; Hl: the heap without it -/
def EvU {ρ : Type} [Rp ρ] (X : Cx) (e : Expr) (σ : L2.St) (F Hl : Hp) (l : Addr) (x : β) (r : ρ) (y : β) : Prop := ∀ F1 H1 o, GrX X.K F Hl F1 (er H1 l) → F1 l = none → H1 l = some o → ob X.K F1 o x → ∀ Q : VK, (∀ u F2 H2 o2, Gr F1 (er H1 l) F2 (er H2 l) → F2 l = none → H2 l = some o2 → ob X.K F2 o2 y → rp X.K F2 u r → Q u H2) → GoE X e σ H1 Q
def EvUA {τ : Type} [Ra τ] (X : Cx) (es : List Expr) (σ : L2.St) (F Hl : Hp) (l : Addr) (x : β) (r : τ) (y : β) : Prop := ∀ F1 H1 o, GrX X.K F Hl F1 (er H1 l) → F1 l = none → H1 l = some o → ob X.K F1 o x → ∀ Q : List V → Hp → Prop, (∀ u F2 H2 o2, Gr F1 (er H1 l) F2 (er H2 l) → F2 l = none → H2 l = some o2 → ob X.K F2 o2 y → ra X.K F2 u r → Q u H2) → GoA X es σ H1 Q
def EvUL {α : Type} [Rp α] (X : Cx) (es : List Expr) (σ : L2.St) (F Hl : Hp) (l : Addr) (x : β) (r : List α) (y : β) : Prop := ∀ F1 H1 o, GrX X.K F Hl F1 (er H1 l) → F1 l = none → H1 l = some o → ob X.K F1 o x → ∀ Q : List V → Hp → Prop, (∀ u F2 H2 o2, Gr F1 (er H1 l) F2 (er H2 l) → F2 l = none → H2 l = some o2 → ob X.K F2 o2 y → Rps X.K F2 u r → Q u H2) → GoA X es σ H1 Q
def EvUT (X : Cx) (e : Expr) (σ : L2.St) (F Hl : Hp) (l : Addr) (x : β) (r : Bool) (y : β) : Prop := ∀ F1 H1 o, GrX X.K F Hl F1 (er H1 l) → F1 l = none → H1 l = some o → ob X.K F1 o x → ∀ Q : Bool → Hp → Prop, (∀ F2 H2 o2, Gr F1 (er H1 l) F2 (er H2 l) → F2 l = none → H2 l = some o2 → ob X.K F2 o2 y → Q r H2) → GoT X e σ H1 Q
def EvUW (X : Cx) (e : Expr) (σ : L2.St) (F Hl : Hp) (l : Addr) (x : β) (r : Bool) (y : β) : Prop := ∀ F1 H1 o, GrX X.K F Hl F1 (er H1 l) → F1 l = none → H1 l = some o → ob X.K F1 o x → ∀ Q : Bool → Hp → Prop, (∀ F2 H2 o2, Gr F1 (er H1 l) F2 (er H2 l) → F2 l = none → H2 l = some o2 → ob X.K F2 o2 y → Q r H2) → GoW X e σ H1 Q
theorem eu_pure {ρ : Type} [Rp ρ] {r : ρ} (h : Ev X e σ F Hl r) : EvU X e σ F Hl l c0 r c0 := fun F1 H1 o g f h1 bo Q q => h F1 H1 (g.wide ⟨_, h1, Ob.pl bo⟩) Q fun v F2 H2 g2 r2 =>
  q v F2 H2 o (g2.both f h1 (Ob.ls bo) (Ob.pl bo)) ((g2.fr l o h1 (Ob.ls bo)).trans f) (g2.hh.k _ _ h1 (Ob.pl bo).ntb) (Ob.mono g2.ff bo) r2
theorem eut_pure {r : Bool} (h : EvT X e σ F Hl r) : EvUT X e σ F Hl l c0 r c0 := fun F1 H1 o g f h1 bo Q q => h F1 H1 (g.wide ⟨_, h1, Ob.pl bo⟩) Q fun F2 H2 g2 =>
  q F2 H2 o (g2.both f h1 (Ob.ls bo) (Ob.pl bo)) ((g2.fr l o h1 (Ob.ls bo)).trans f) (g2.hh.k _ _ h1 (Ob.pl bo).ntb) (Ob.mono g2.ff bo)
theorem EvU.up {ρ : Type} [Rp ρ] {r : ρ} {F' H' : Hp} (h : EvU X e σ F Hl l c0 r c1) (g : Gr F Hl F' H') : EvU X e σ F' H' l c0 r c1 := fun F1 H1 o g1 => h F1 H1 o (.pre g g1)
/-- as a change of what is owned -/
theorem EvU.m {ρ : Type} [Rp ρ] {r : ρ} (o : Own X.K H0 F H l c0) (h : EvU X e σ F (er H l) l c0 r c1) : EvM X e σ F H l r c1 := fun F1 H1 g Q q => by
  have o1 := o.up g.toGr
  obtain ⟨u, hu, ru⟩ := o1.h
  exact h F1 H1 u ⟨o.ere g.toGr, g.h.er o1.pl⟩ o1.f hu ru Q fun v F2 H2 o2 g2 f2 h2 b2 r2 => q v F2 H2 o2 (g2.wide ⟨_, h2, Ob.pl b2⟩) f2 h2 b2 r2
theorem eu_op {α γ ρ : Type} [Rp α] [Rp γ] [Rp ρ] {x : α} {y : γ} {z : ρ} {op : Operator} {r : R2} (ho : OpR X (binaryOp op) r) (hr : Op2 X.K r x y z) (ha : EvU X a σ F Hl l c0 x c1) (hb : EvU X b σ F Hl l c1 y c2) : EvU X (.BinOp a op b pos) σ F Hl l c0 z c2 := fun F1 H1 o g f h1 bo Q q =>
  GoE.of (pe_op ho pe_go pe_go) (ha F1 H1 o g f h1 bo _ fun v F2 H2 o2 g2 f2 h2 b2 r2 => hb F2 H2 o2 (g.trans g2) f2 h2 b2 _ fun w F3 H3 o3 g3 f3 h3 b3 r3 => hr F3 H3 v w Q (Gr.wide g3 ⟨_, h3, Ob.pl b3⟩).fh (Rp.mono g3.ff r2) r3 fun u F4 H4 g4 r4 =>
    q u F4 H4 o3 ((g2.trans g3).trans (g4.both f3 h3 (Ob.ls b3) (Ob.pl b3))) ((g4.fr l o3 h3 (Ob.ls b3)).trans f3) (g4.hh.k _ _ h3 (Ob.pl b3).ntb) (Ob.mono g4.ff b3) r4)
theorem eu_add {x y : Int} (ha : EvU X a σ F Hl l c0 x c1) (hb : EvU X b σ F Hl l c1 y c2) : EvU X (.BinOp a .Add b pos) σ F Hl l c0 (x + y) c2 := eu_op op_add (o2_I0 fun _ => rfl) ha hb
theorem eu_sub {x y : Int} (ha : EvU X a σ F Hl l c0 x c1) (hb : EvU X b σ F Hl l c1 y c2) : EvU X (.BinOp a .Sub b pos) σ F Hl l c0 (x - y) c2 := eu_op op_sub (o2_I0 fun _ => rfl) ha hb
theorem eu_mulG {x y r : Int} (ha : EvU X a σ F Hl l c0 x c1) (hb : EvU X b σ F Hl l c1 y c2) (h : mulG x y = some r) : EvU X (.BinOp a .Mult b pos) σ F Hl l c0 r c2 := by
  obtain ⟨c | c, rfl⟩ := mulG_of h
  · exact eu_op op_mul (o2_I c fun _ => rfl) ha hb
  · exact eu_op op_mulW (o2_I c fun _ => rfl) ha hb
theorem eut_cmp {α γ : Type} [Rp α] [Rp γ] {x : α} {y : γ} {z : Bool} {op : CmpOp} {r : R2} (ho : OpR X (compareOp op) r) (hr : Op2 X.K r x y z) (ha : EvU X a σ F Hl l c0 x c1) (hb : EvU X b σ F Hl l c1 y c2) (hm : behindInMarks op b = false) : EvUT X (.Compare a [op] [b] pos) σ F Hl l c0 z c2 := fun F1 H1 o g f h1 bo Q q =>
  GoT.of (pt_cmpR ho pe_go pe_go hm) (ha F1 H1 o g f h1 bo _ fun v F2 H2 o2 g2 f2 h2 b2 r2 => hb F2 H2 o2 (g.trans g2) f2 h2 b2 _ fun w F3 H3 o3 g3 f3 h3 b3 r3 => hr F3 H3 v w _ (Gr.wide g3 ⟨_, h3, Ob.pl b3⟩).fh (Rp.mono g3.ff r2) r3 fun u F4 H4 g4 r4 => by
    have r4 : u = .bl z := r4
    subst r4
    exact ⟨z, rfl, q F4 H4 o3 ((g2.trans g3).trans (g4.both f3 h3 (Ob.ls b3) (Ob.pl b3))) ((g4.fr l o3 h3 (Ob.ls b3)).trans f3) (g4.hh.k _ _ h3 (Ob.pl b3).ntb) (Ob.mono g4.ff b3)⟩)
theorem euw_and1 {r : Bool} (h : EvUT X a σ F Hl l c0 r c1) : EvUW X (.BoolOp .And [a] pos) σ F Hl l c0 r c1 := fun F1 H1 o g f h1 bo Q q => GoW.of (pw_and1 pt_go) (h F1 H1 o g f h1 bo Q q)
theorem euw_and {r : Bool} {rs : List Expr} (ha : EvUT X a σ F Hl l c0 true c1) (hb : EvUW X (.BoolOp .And (b :: rs) pos) σ F Hl l c1 r c2) : EvUW X (.BoolOp .And (a :: b :: rs) pos) σ F Hl l c0 r c2 := fun F1 H1 o g f h1 bo Q q =>
  GoW.of (pw_and pt_go pw_go) (ha F1 H1 o g f h1 bo _ fun F2 H2 o2 g2 f2 h2 b2 => by
    rw [if_pos rfl]; exact hb F2 H2 o2 (g.trans g2) f2 h2 b2 Q fun F3 H3 o3 g3 f3 h3 b3 => q F3 H3 o3 (g2.trans g3) f3 h3 b3)
theorem EvUW.t {r : Bool} (h : EvUW X e σ F Hl l c0 r c1) : EvUT X e σ F Hl l c0 r c1 := fun F1 H1 o g f h1 bo Q q => GoT.of (PW.pt pw_go) (h F1 H1 o g f h1 bo Q q)
/-! ### args -/
theorem eua_nil : EvUA X [] σ F Hl l c0 () c0 := fun F1 H1 o g f h1 bo Q q => GoA.of pa_nil (q [] F1 H1 o (.refl (g.fh)) f h1 bo rfl)
theorem eua_cons {α τ : Type} [Rp α] [Ra τ] {x : α} {y : τ} (ha : EvU X e σ F Hl l c0 x c1) (hr : EvUA X es σ F Hl l c1 y c2) (hs : starEach (e :: es) X.env = (false, eval e X.env) :: starEach es X.env := by rfl) : EvUA X (e :: es) σ F Hl l c0 (x, y) c2 := fun F1 H1 o g f h1 bo Q q =>
  GoA.of (pa_cons pe_go pa_go hs) (ha F1 H1 o g f h1 bo _ fun v F2 H2 o2 g2 f2 h2 b2 r2 => hr F2 H2 o2 (g.trans g2) f2 h2 b2 _ fun vs F3 H3 o3 g3 f3 h3 b3 r3 => q _ F3 H3 o3 (g2.trans g3) f3 h3 b3 ⟨v, vs, rfl, Rp.mono g3.ff r2, r3⟩)
theorem eul_nil {α : Type} [Rp α] : EvUL X [] σ F Hl l c0 ([] : List α) c0 := fun F1 H1 o g f h1 bo Q q => GoA.of pa_nil (q [] F1 H1 o (.refl (g.fh)) f h1 bo .nil)
theorem eul_cons {α : Type} [Rp α] {x : α} {xs : List α} (ha : EvU X e σ F Hl l c0 x c1) (hr : EvUL X es σ F Hl l c1 xs c2) (hs : starEach (e :: es) X.env = (false, eval e X.env) :: starEach es X.env := by rfl) : EvUL X (e :: es) σ F Hl l c0 (x :: xs) c2 := fun F1 H1 o g f h1 bo Q q =>
  GoA.of (pa_cons pe_go pa_go hs) (ha F1 H1 o g f h1 bo _ fun v F2 H2 o2 g2 f2 h2 b2 r2 => hr F2 H2 o2 (g.trans g2) f2 h2 b2 _ fun vs F3 H3 o3 g3 f3 h3 b3 r3 => q _ F3 H3 o3 (g2.trans g3) f3 h3 b3 (.cons (Rp.mono g3.ff r2) r3))
theorem Gr.new_er {F3 H3 : Hp} {l p : Addr} {o o3 : HO} (fh : L2.Same F3 (er H3 l)) (hp : H3 p = none) (h3 : H3 l = some o3) (no : ntb o := by trivial) : Gr F3 (er H3 l) (upd F3 p o) (er (upd H3 p o) l) ∧ p ≠ l := by
  have hn : p ≠ l := fun e => by rw [e, h3] at hp; cases hp
  have e1 : er (upd H3 p o) l = upd (er H3 l) p o := by
    funext b
    by_cases h : b = l
    · rw [h, er_same, upd_ne (fun z => hn z.symm), er_same]
    · rw [er_ne h]
      by_cases h2 : b = p
      · rw [h2, upd_same, upd_same]
      · rw [upd_ne h2, upd_ne h2, er_ne h]
  rw [e1]
  exact ⟨Gr.new fh (by rw [er_ne hn]; exact hp) no, hn⟩
theorem eu_list {α : Type} [Rp α] {xs : List α} (h : EvUL X es σ F Hl l c0 xs c1) (hz : xs.length ≤ sizeLine) : EvU X (.List es pos) σ F Hl l c0 xs c1 := fun F1 H1 o g f h1 bo Q q =>
  GoE.of (pe_lst pa_go) (h F1 H1 o g f h1 bo _ fun vs F2 H2 o2 g2 f2 h2 b2 r2 => ⟨by rw [r2.length]; exact hz, fun p hp => by
    obtain ⟨g3, hn⟩ := Gr.new_er (o := .lst vs) g2.fh hp h2
    have s3 : L2.Same F2 (upd F2 p (.lst vs)) := g3.ff
    exact q (.ref p) _ _ o2 (g2.trans g3) (by rw [upd_ne (fun z => hn z.symm)]; exact f2) (by rw [upd_ne (fun z => hn z.symm)]; exact h2) (Ob.mono s3 b2) ⟨p, vs, rfl, SqL.of upd_same, r2.mono s3⟩⟩)
theorem eu_ixL {α : Type} [Rp α] {xs : List α} {i : Int} {x : α} (ha : EvU X a σ F Hl l c0 xs c1) (hb : EvU X b σ F Hl l c1 i c2) (h : L2.atI xs i = some x) (hs : PlainIx b := by exact fun _ _ => rfl) : EvU X (.Subscript a b pos) σ F Hl l c0 x c2 := fun F1 H1 o g f h1 bo Q q =>
  GoE.of (pe_ix ix_list pe_go pe_go hs) (ha F1 H1 o g f h1 bo _ fun v F2 H2 o2 g2 f2 h2 b2 r2 => hb F2 H2 o2 (g.trans g2) f2 h2 b2 _ fun w F3 H3 o3 g3 f3 h3 b3 r3 => by
    obtain ⟨p, vs, rfl, sq, rs⟩ := Rp.mono g3.ff r2
    obtain ⟨y, hy, ry⟩ := rs.atI h
    exact ⟨p, vs, i, y, rfl, r3, (Gr.wide g3 ⟨_, h3, Ob.pl b3⟩).fh.seq sq, hy, q y F3 H3 o3 (g2.trans g3) f3 h3 b3 ry⟩)
theorem eu_tup {θ τ : Type} [Ra τ] [RaN τ] [Rp θ] [Tup θ τ] {x : θ} {k : Nat} (h : EvUA X es σ F Hl l c0 (Tup.row x) c1) (hz : RaN.n τ ≤ sizeLine) : EvU X (.Tuple es k pos) σ F Hl l c0 x c1 := fun F1 H1 o g f h1 bo Q q =>
  GoE.of (pe_tup pa_go) (h F1 H1 o g f h1 bo _ fun vs F2 H2 o2 g2 f2 h2 b2 r2 => ⟨by rw [RaN.len r2]; exact hz, fun p hp => by
    obtain ⟨g3, hn⟩ := Gr.new_er (o := .tup vs) g2.fh hp h2
    have s3 : L2.Same F2 (upd F2 p (.tup vs)) := g3.ff
    exact q (.ref p) _ _ o2 (g2.trans g3) (by rw [upd_ne (fun z => hn z.symm)]; exact f2) (by rw [upd_ne (fun z => hn z.symm)]; exact h2) (Ob.mono s3 b2) (Tup.eq.mpr ⟨p, vs, rfl, upd_same, Ra.mono s3 r2⟩)⟩)
theorem eu_tup2 {α γ : Type} [Rp α] [Rp γ] {x : α} {y : γ} {k : Nat} (h : EvUA X es σ F Hl l c0 (x, y, ()) c1) : EvU X (.Tuple es k pos) σ F Hl l c0 (T2.mk x y) c1 := eu_tup (θ := T2 α γ) h (by show 2 ≤ sizeLine; decide)
theorem eu_tup3 {α γ δ : Type} [Rp α] [Rp γ] [Rp δ] {x : α} {y : γ} {z : δ} {k : Nat} (h : EvUA X es σ F Hl l c0 (x, y, z, ()) c1) : EvU X (.Tuple es k pos) σ F Hl l c0 (T3.mk x y z) c1 := eu_tup (θ := T3 α γ δ) h (by show 3 ≤ sizeLine; decide)
/-- f(.., e, ..) where an argument changes it -/
theorem eu_call {τ ρ : Type} [Ra τ] [Rp ρ] {f : τ → Option ρ} {y : τ} {r : ρ} {k : Nat} {fa : Addr} {fd : FuncData} {ps : List Str} {x : Str} {p : Pos} (Fn : FnOk X.prog X.w X.K X.mg X.base CX0 k fa fd ps (Pr X.K f)) (hr : Room k X.A) (hm : X.mg x = some (.ref fa))
    (hk : PySem.W.keepIn X.K (.ref fa) = true) (hb : Binds X.K fd ps []) (ha : EvUA X (e :: es) σ F Hl l c0 y c1) (h : f y = some r) (hg : Gl X x := by rfl) (hdb : (x == ("__debug__" : Str)) = false := by decide)
    (he : starEach (e :: es) X.env = (false, eval e X.env) :: starEach es X.env := by rfl) (hpl : (backTo pos (starEach es X.env)).any (·.1) = false := by rfl) : EvU X (.Call (.Name x p) (e :: es) [] pos) σ F Hl l c0 r c1 := fun F1 H1 o g f1 h1 bo Q q =>
  GoE.of (pe_call Fn hr hg hm hk hb .nil pass0 pa_go hdb he hpl) (ha F1 H1 o g f1 h1 bo _ fun vs F2 H2 o2 g2 f2 h2 b2 r2 => ⟨F2, y, r, ((g.trans g2).wide ⟨_, h2, Ob.pl b2⟩).sm, by rw [List.append_nil]; exact r2, h, fun F3 H3 u g3 r3 =>
    q u F3 H3 o2 (g2.trans (g3.both f2 h2 (Ob.ls b2) (Ob.pl b2))) ((g3.fr l o2 h2 (Ob.ls b2)).trans f2) (g3.hh.k _ _ h2 (Ob.pl b2).ntb) (Ob.mono g3.ff b2) r3⟩)
/-- f(.., l, ..) that changes it -/
theorem eu_mut {τ1 τ2 ρ : Type} [Ra τ1] [Ra τ2] [Rp ρ] {f : τ1 → β → τ2 → Option (ρ × β)} {y : τ1} {z : τ2} {r : ρ × β} {k : Nat} {fa : Addr} {fd : FuncData} {ps : List Str} {x : Str} {p : Pos} (Fn : FnOk X.prog X.w X.K X.mg X.base CX0 k fa fd ps (PrM X.K f)) (hr : Room k X.A) (hm : X.mg x = some (.ref fa))
    (hk : PySem.W.keepIn X.K (.ref fa) = true) (hb : Binds X.K fd ps []) (ha : EvAM X (e :: es) σ F Hl y l z) (h : f y c0 z = some r) (hg : Gl X x := by rfl) (hdb : (x == ("__debug__" : Str)) = false := by decide)
    (he : starEach (e :: es) X.env = (false, eval e X.env) :: starEach es X.env := by rfl) (hpl : (backTo pos (starEach es X.env)).any (·.1) = false := by rfl) : EvU X (.Call (.Name x p) (e :: es) [] pos) σ F Hl l c0 r.1 r.2 := fun F1 H1 o g f1 h1 bo Q q =>
  GoE.of (pe_call Fn hr hg hm hk hb .nil pass0 pa_go hdb he hpl) (ha F1 H1 (g.wide ⟨_, h1, Ob.pl bo⟩) _ fun vs1 vs2 F2 H2 g2 r2 r3 =>
    ⟨F2, vs1, l, vs2, o, y, c0, z, r, by rw [List.append_nil], ((g.wide ⟨_, h1, Ob.pl bo⟩).trans g2).sm, r2, r3, (g2.fr l o h1 (Ob.ls bo)).trans f1, g2.hh.k _ _ h1 (Ob.pl bo).ntb, Ob.mono g2.ff bo, h, fun F3 H3 v o' g3 f3 h3 b3 r3 => q v F3 H3 o' ((g2.both f1 h1 (Ob.ls bo) (Ob.pl bo)).trans (g3.ere0 f3 (er_same) ⟨_, h3, Ob.pl b3⟩)) f3 h3 b3 r3⟩)
/-- f(new, ..): what is handed in is dropped -/
theorem ev_callNM {τ2 ρ : Type} [Ra τ2] [Rp ρ] {f : Unit → β → τ2 → Option (ρ × β)} {z : τ2} {r : ρ × β} {k : Nat} {fa : Addr} {fd : FuncData} {ps : List Str} {x : Str} {p : Pos} (Fn : FnOk X.prog X.w X.K X.mg X.base CX0 k fa fd ps (PrM X.K f)) (hr : Room k X.A) (hm : X.mg x = some (.ref fa))
    (hk : PySem.W.keepIn X.K (.ref fa) = true) (hb : Binds X.K fd ps []) (hn : EvN X e σ F H c0) (ha : EvA X es σ F H z) (h : f () c0 z = some r) (hg : Gl X x := by rfl) (hdb : (x == ("__debug__" : Str)) = false := by decide)
    (he : starEach (e :: es) X.env = (false, eval e X.env) :: starEach es X.env := by rfl) (hpl : (backTo pos (starEach es X.env)).any (·.1) = false := by rfl) : Ev X (.Call (.Name x p) (e :: es) [] pos) σ F H r.1 := fun F1 H1 g Q q =>
  GoE.of (pe_call Fn hr hg hm hk hb .nil pass0 (pa_cons pe_go pa_go he) hdb he hpl) (hn F1 H1 g _ fun l o F2 H2 g2 n2 f2 h2 b2 => ha F2 H2 (g.trans g2) _ fun vs F3 H3 g3 r3 => by
    have f3 : F3 l = none := (g3.fr l o h2 (Ob.ls b2)).trans f2
    have gA : Gr F1 H1 F3 (er H3 l) := by
      have g23 := g2.trans g3
      have pl3 : PlAt H3 l := ⟨_, g3.hh.k _ _ h2 (Ob.pl b2).ntb, Ob.pl b2⟩
      refine ⟨g23.ff, fun b u q => ?_, ⟨fun b u q n => ?_, fun b ps q => ?_, fun P a => (g23.hh.w P a).er pl3⟩, g23.fr⟩
      · rw [er_ne (ne_of_none q f3)]; exact g3.fh _ _ q
      · rw [er_ne (ne_of_none q n2)]; exact g23.hh.k _ _ q n
      · rw [er_ne (ne_of_none q n2)]; exact g23.hh.t _ _ q
    exact ⟨F3, [], l, vs, o, (), c0, z, r, by rw [List.append_nil]; rfl, ((g.trans g2).trans g3).sm, rfl, r3, f3, g3.hh.k _ _ h2 (Ob.pl b2).ntb, Ob.mono g3.ff b2, h, fun F4 H4 v o' g4 f4 h4 b4 r4 => q v F4 H4 (gA.trans g4) r4⟩)
/-! ### an if whose test changes it -/
theorem go_ifU {x : β} (t : Bool) {as bs : List Stmt} (o : Own X.K H0 F H l x) (s : SmX X.K F H) (hc : EvUT X c σ F (er H l) l x t c1) (ka : t = true → ∀ F' H' o', Gr F (er H l) F' H' → F' l = none → H' l = some o' → ob X.K F' o' c1 → GoS X as { D with nx := GoS X rest D } σ H') (kb : t = false → ∀ F' H' o', Gr F (er H l) F' H' → F' l = none → H' l = some o' → ob X.K F' o' c1 → GoS X bs { D with nx := GoS X rest D } σ H') :
    GoS X (.If c as bs pos :: rest) D σ H := by
  obtain ⟨u, hu, ru⟩ := o.h
  refine GoS.cons (ps_if pt_go pss_go pss_go) (hc F H u (.refl (s.er o.f o.pl)) o.f hu ru _ fun F2 H2 o2 g2 f2 h2 b2 => ?_)
  cases t with
  | true => rw [if_pos rfl]; exact ka rfl F2 H2 o2 (g2.wide ⟨_, h2, Ob.pl b2⟩) f2 h2 b2
  | false => rw [if_neg Bool.false_ne_true]; exact kb rfl F2 H2 o2 (g2.wide ⟨_, h2, Ob.pl b2⟩) f2 h2 b2
end
end Gx
namespace Gx
open PySem PySem.Spec PyProof.Rows L2
open Rp (rp)
open Ra (ra)
open Ob (ob)
section
variable {X : Cx} {e : Expr} {es : List Expr} {σ : L2.St} {F Hl : Hp} {l : Addr} {β : Type} [Rp β] [Ob β] {c0 c1 c2 : β}
/-- a name that is seen -/
structure VKn (sc : Scope) (n : Str) : Prop where
  v : Vis sc n
  d : (n == ("__debug__" : Str)) = false
  c : (n == ("__classdict__" : Str)) = false
theorem ev_varK {α : Type} [Rp α] {x : α} {v : V} {H : Hp} (i : Nat) {n : Str} {pos : Pos} (hs : σ[i]? = some (some v)) (h : rp X.K F v x) (k : VKn X.env.scope n) (hN : X.N[i]? = some n := by rfl) : Ev X (.Name n pos) σ F H x := ev_var i hs h hN k.v k.d k.c
theorem Ev.getA {α : Type} [Rp α] [NN α] {x : α} {H : Hp} (o : Option α) (h : Ev X e σ F H o) (he : o = Option.some x) : Ev X e σ F H x := h.get he
theorem eul_int {i : Int} {j : Nat} {pos : Pos} {xs : List Int} (hr : EvUL X es σ F Hl l c0 xs c2) : EvUL X (.Constant (.int i) j pos :: es) σ F Hl l c0 (i :: xs) c2 := eul_cons (eu_pure ev_int) hr
theorem eu_listI {xs : List Int} {pos : Pos} (h : EvUL X es σ F Hl l c0 xs c1) (hz : xs.length ≤ sizeLine) : EvU X (.List es pos) σ F Hl l c0 xs c1 := eu_list h hz
theorem eu_ixLI {xs : List Int} {i x : Int} {a b : Expr} {pos : Pos} (ha : EvU X a σ F Hl l c0 xs c1) (hb : EvU X b σ F Hl l c1 i c2) (h : L2.atI xs i = some x) (hs : PlainIx b := by exact fun _ _ => rfl) : EvU X (.Subscript a b pos) σ F Hl l c0 x c2 := eu_ixL ha hb h hs
/-- a list that is pure -/
theorem eu_pureL {xs : List Int} (h : Ev X e σ F Hl xs) : EvU X e σ F Hl l c0 xs c0 := eu_pure h
end
end Gx

/-! Ga: a tuple with a private list in it. -/
namespace Gx
open PySem PySem.Spec PyProof.Rows L2
open Rp (rp)
open Ra (ra)
open Ob (ob)
/-- v is the tuple of x and the thing at l -/
def C2 {α : Type} [Rp α] (K : PySem.W.Frag) (F : Hp) (v : V) (l : Addr) (x : α) : Prop := ∃ a w, v = .ref a ∧ TupF F a [w, .ref l] ∧ rp K F w x
theorem C2.mono {α : Type} [Rp α] {K : PySem.W.Frag} {F F' : Hp} {v : V} {l : Addr} {x : α} (h : C2 K F v l x) (s : L2.Same F F') : C2 K F' v l x := by
  obtain ⟨a, w, e, t, r⟩ := h
  exact ⟨a, w, e, tupF_mono s t, Rp.mono s r⟩
theorem C2.rp {α γ : Type} [Rp α] [Rp γ] {K : PySem.W.Frag} {F : Hp} {v : V} {l : Addr} {x : α} {y : γ} (h : C2 K F v l x) (r : Rp.rp K F (.ref l) y) : Rp.rp K F v (T2.mk x y) := by
  obtain ⟨a, w, e, t, rw'⟩ := h
  exact ⟨a, _, e, t, w, _, rfl, rw', .ref l, _, rfl, r, rfl⟩
theorem C2.of {α γ : Type} [Rp α] [Rp γ] {K : PySem.W.Frag} {F : Hp} {v : V} {l : Addr} {t : T2 α γ} (h : C2 K F v l t.a) (r : Rp.rp K F (.ref l) t.b) : Rp.rp K F v t := h.rp r
theorem C2.er {α : Type} [Rp α] [Flat α] {K : PySem.W.Frag} {F : Hp} {v : V} {l l0 : Addr} {x : α} (h : C2 K F v l x) (h1 : ∀ xs, ¬ F l0 = some (.tup xs)) (h2 : ∀ o xs, ¬ F l0 = some (.frz o (.tup xs))) : C2 K (er F l0) v l x := by
  obtain ⟨a, w, e, t, r⟩ := h
  exact ⟨a, w, e, er_seqT h1 h2 t, Flat.fl h1 h2 r⟩
section
variable {X : Cx} {K : PySem.W.Frag} {e a b c d : Expr} {es : List Expr} {σ : L2.St} {F H F0 H0 : Hp} {pos : Pos} {D : Ends} {st : Stmt} {rest body : List Stmt} {α γ : Type} [Rp α] [Rp γ] {x : α} {ys : List γ}
/-- e gives a new tuple of x and a new list -/
def EvCP (X : Cx) (e : Expr) (σ : L2.St) (F H : Hp) (x : α) (ys : List γ) : Prop := ∀ F1 H1, GrX X.K F H F1 H1 → ∀ Q : VK, (∀ u l o F2 H2, Gr F1 H1 F2 H2 → H1 l = none → F2 l = none → H2 l = some o → ob X.K F2 o ys → C2 X.K F2 u l x → Q u H2) → GoE X e σ H1 Q
theorem ecp_tup2 {k : Nat} (ha : Ev X a σ F H x) (hb : EvN X b σ F H ys) (hs : starEach [a, b] X.env = (false, eval a X.env) :: starEach [b] X.env := by rfl) (hs2 : starEach [b] X.env = (false, eval b X.env) :: starEach [] X.env := by rfl) : EvCP X (.Tuple [a, b] k pos) σ F H x ys := fun F1 H1 g Q q =>
  GoE.of (pe_tup (pa_cons pe_go (pa_cons pe_go pa_nil hs2) hs)) (ha F1 H1 g _ fun v F2 H2 g2 r2 => hb F2 H2 (g.trans g2) _ fun l o F3 H3 g3 n3 f3 h3 b3 => ⟨by show 2 ≤ sizeLine; decide, fun p hp => by
    have hl : l ≠ p := ne_of_none h3 hp
    have g4 : Gr F3 H3 (upd F3 p (.tup [v, .ref l])) (upd H3 p (.tup [v, .ref l])) := Gr.new g3.fh hp trivial
    exact q (.ref p) l o _ _ ((g2.trans g3).trans g4) (g2.hh.free n3) (by rw [upd_ne hl]; exact f3) (by rw [upd_ne hl]; exact h3) (Ob.mono g4.ff b3) ⟨p, v, rfl, upd_same, Rp.mono (g3.ff.trans g4.ff) r2⟩⟩)
def PrCP (K : PySem.W.Frag) {τ : Type} [Ra τ] (f : τ → Option (T2 α (List γ))) : Sp := fun vs H Q _ => ∃ F a r, SmX K F H ∧ ra K F vs a ∧ f a = some r ∧ ∀ u l o F' H', Gr F H F' H' → H l = none → F' l = none → H' l = some o → ob K F' o r.b → C2 K F' u l r.a → Q u H'
theorem ecp_call {τ : Type} [Ra τ] {f : τ → Option (T2 α (List γ))} {y : τ} {r : T2 α (List γ)} {k : Nat} {fa : Addr} {fd : FuncData} {ps : List Str} {x : Str} {p : Pos} (Fn : FnOk X.prog X.w X.K X.mg X.base CX0 k fa fd ps (PrCP X.K f)) (hr : Room k X.A) (hm : X.mg x = some (.ref fa))
    (hk : PySem.W.keepIn X.K (.ref fa) = true) (hb : Binds X.K fd ps []) (ha : EvA X (e :: es) σ F H y) (h : f y = some r) (hg : Gl X x := by rfl) (hdb : (x == ("__debug__" : Str)) = false := by decide)
    (he : starEach (e :: es) X.env = (false, eval e X.env) :: starEach es X.env := by rfl) (hpl : (backTo pos (starEach es X.env)).any (·.1) = false := by rfl) : EvCP X (.Call (.Name x p) (e :: es) [] pos) σ F H r.a r.b := fun F1 H1 g Q q =>
  GoE.of (pe_call Fn hr hg hm hk hb .nil pass0 pa_go hdb he hpl) (ha F1 H1 g _ fun vs F2 H2 g2 r2 => ⟨F2, y, r, (g.trans g2).sm, by rw [List.append_nil]; exact r2, h, fun u l o F3 H3 g3 n3 f3 h3 b3 c3 => q u l o F3 H3 (g2.trans g3) (g2.hh.free n3) f3 h3 b3 c3⟩)
theorem fn_okCP {P : Program} {w : World} {mg : Str → Option Value} {base : Heap} {τ : Type} [Ra τ] [RaN τ] {f : τ → Option (T2 α (List γ))} {x qual : Str} {s0 : Stmt} {fa : Addr} {fd : FuncData} {N ps : List Str} {k : Nat} (Fn : FunD K x qual (defArgs s0) (defBody s0) (defScope s0) [] [] fa fd) (S : FnScope N ps (defScope s0)) (hn : RaN.n τ = ps.length)
    (hbody : ∀ (cdv : Value) (A : Around) (outer : List Env) (s : Shared) (F H : Hp) (vs : List V) (a : τ) (r : T2 α (List γ)) (D : Ends) (E : XK), Room k (A.deeper (envOfC qual (defScope s0) s.heap.objs.size fa cdv)) → SmX K F H → ra K F vs a → f a = some r → (∀ u l o F' H', GrX K F H F' H' → H l = none → F' l = none → H' l = some o → ob K F' o r.b → C2 K F' u l r.a → D.rt u H') →
      True → GoS (cxOf CX0 P w K mg base N qual (defScope s0) fa cdv A outer s H E).nox (defBody s0) D (start N vs) H) :
    FnOk P w K mg base CX0 (k + 1) fa fd ps (PrCP K f) := by
  refine Fn.ok S (fun vs H Q E ⟨F, a, r, _, ra', _⟩ => by rw [RaN.len ra', hn]) fun cdv A outer s H vs Q E hr ⟨F, a, r, sm, ra', hf, k⟩ => ?_
  exact ⟨_, PSs.nox pss_go, hbody cdv A outer s F H vs a r { nx := fun _ H' => Q .non H', rt := Q } E hr sm ra' hf (fun u l o F' H' g n f h r c => k u l o F' H' g.toGr n f h r c) trivial⟩
theorem go_retCP (s : SmX X.K F H) (he : EvCP X e σ F H x ys) (k : ∀ u l o F' H', Gr F H F' H' → H l = none → F' l = none → H' l = some o → ob X.K F' o ys → C2 X.K F' u l x → D.rt u H') : GoS X (.Return (some e) pos :: rest) D σ H :=
  GoS.cons (ps_ret pe_go) (he F H (.refl s) _ fun u l o F2 H2 g n f h r c => k u l o F2 H2 g n f h r c)
theorem go_setCP {n : Str} {p : Pos} (i : Nat) (s : SmX X.K F H) (he : EvCP X e σ F H x ys) (k : ∀ u l o F' H', Gr F H F' H' → H l = none → F' l = none → H' l = some o → ob X.K F' o ys → C2 X.K F' u l x → GoS X rest D (σ.set i (some u)) H') (hN : X.N.Nodup) (hi : X.N[i]? = some n := by rfl)
    (hx : Loc X.env.scope n := by first | exact Or.inl rfl | exact Or.inr rfl) (hs : swapsWith e (some (.Name n p)) pos.line X.env = pure false := by rfl) (hf : X.fn n = true ∨ X.env.scope.names.lookup n = some .local := by first | exact .inl rfl | exact .inr rfl) :
    GoS X (.Assign [.Name n p] e pos :: rest) D σ H :=
  GoS.cons (ps_set hN hi hx pe_go hs hf) (he F H (.refl s) _ fun u l o F2 H2 g n f h r c => k u l o F2 H2 g n f h r c)
theorem EvCP.ev (h : EvCP X e σ F H x ys) : Ev X e σ F H (T2.mk x ys) := fun F1 H1 g Q q =>
  GoE.lock (Q' := fun v H2 => ∃ l o F2, C2 X.K F2 v l x ∧ Gr F1 H1 F2 H2 ∧ H1 l = none ∧ F2 l = none ∧ H2 l = some o ∧ ob X.K F2 o ys) (h F1 H1 g _ fun u l o F2 H2 g2 n2 f2 h2 r2 c2 => ⟨l, o, F2, c2, g2, n2, f2, h2, r2⟩)
    fun v H2 ⟨l, o, F2, c2, g2, n2, f2, h2, r2⟩ => ⟨l, o, h2, Ob.mu r2, fun od =>
      q _ (upd F2 l (.frz od o)) _ (g2.freeze n2 f2 ⟨_, h2, Ob.pl r2⟩ trivial) ((c2.mono (same_upd f2)).rp (Ob.fz upd_same (Ob.mono (same_upd f2) r2)))⟩
theorem EvCP.evT {t : T2 α (List γ)} (h : EvCP X e σ F H t.a t.b) : Ev X e σ F H t := h.ev
theorem ecp_thaw {β : Type} [Flat α] [Flat γ] [Rp β] [Ob β] {y : β} {l : Addr} (o : Own X.K H0 F H l y) (s : L2.Same F H) (h : ∀ F' H', L2.Same F F' → L2.Same F' H' → rp X.K F' (.ref l) y → (∀ a, a ≠ l → F' a = F a ∧ H' a = H a) → EvCP X e σ F' H' x ys) : EvCP X e σ F H x ys := fun F1 H1 g Q q => by
  obtain ⟨u, hl, r⟩ := o.h
  have hl1 := g.hh.k _ _ hl (Ob.pl r).ntb
  refine GoE.locked hl1 (Ob.mu r) fun od => ?_
  obtain ⟨g1, f1, h1⟩ := GrX.show_ (u := .frz od u) hl o.f (Ob.ls r) (Ob.pl r) g
  refine h _ _ (same_upd o.f) (shown s) (Ob.fz upd_same (Ob.mono (same_upd o.f) r)) (fun a ha => ⟨upd_ne ha, upd_ne ha⟩) _ _ g1 _ fun v2 l2 u2 F2 H2 g2 n2 f2 h2 r2 c2 => ?_
  have e2 : F2 l = some (.frz od u) := g2.ff _ _ upd_same
  obtain ⟨n1, n2'⟩ := frz_no e2 (Ob.ls r)
  have hne : l2 ≠ l := fun e => by rw [e, upd_same] at n2; cases n2
  refine ⟨g2.fh _ _ e2, q v2 l2 u2 (er F2 l) _ (Gr.hide h1 f1 (Ob.pl r) g2) (by rw [upd_ne hne] at n2; exact n2) ?_ (by rw [upd_ne hne]; exact h2) (FlatO.fl n1 n2' r2) (c2.er n1 n2')⟩
  unfold er
  rw [if_neg hne]; exact f2
/-- t[1].append(e) -/
theorem go_appendCP {y : γ} {zs r : List γ} {l : Addr} {v : V} {n : Str} {j : Nat} {p1 p2 p3 p4 p5 : Pos} (i : Nat) (s : SmX X.K F H) (o : Own X.K H0 F H l zs) (ct : C2 X.K F v l x) (hσ : σ[i]? = some (some v)) (he : Ev X e σ F H y) (h : app zs y = some r)
    (k : ∀ u F' H', Gr F H F' H' → PlAt H' l → F' l = none → Own X.K H0 F' (upd H' l u) l r → GoS X rest D σ (upd H' l u)) (hN : X.N[i]? = some n := by rfl) (hv : Vis X.env.scope n := by first | exact Or.inl rfl | exact Or.inr (Or.inl rfl) | exact Or.inr (Or.inr rfl))
    (hd : (n == ("__debug__" : Str)) = false := by decide) (hcd : (n == ("__classdict__" : Str)) = false := by decide) 
    (hbase : attributeBase (.Subscript (.Name n p1) (.Constant (.int 1) j p4) p5) "append" X.env (eval (.Subscript (.Name n p1) (.Constant (.int 1) j p4) p5) X.env) = eval (.Subscript (.Name n p1) (.Constant (.int 1) j p4) p5) X.env := by rfl)
    (hfew : ((backTo p3 (starEach [e] X.env)).all (fun x => !x.1) && (backToKw p3 (keywordEach [] X.env)).all (fun x => x.1.isSome) && decide ([e].length + ([] : List Keyword).length + (if ([] : List Keyword).isEmpty then 0 else 1) < 30)) = true := by rfl)
    (hline : (p2.endLine == p3.line) = true := by rfl) (hs : starEach [e] X.env = (false, eval e X.env) :: starEach [] X.env := by rfl) (hplain : (backTo p3 (starEach [] X.env)).any (·.1) = false := by rfl) (hsw : swapsWith (.Call (.Attribute (.Subscript (.Name n p1) (.Constant (.int 1) j p4) p5) "append" p2) [e] [] p3) none pos.line X.env = pure false := by rfl) :
    GoS X (.Expr (.Call (.Attribute (.Subscript (.Name n p1) (.Constant (.int 1) j p4) p5) "append" p2) [e] [] p3) pos :: rest) D σ H := by
  obtain ⟨_, hl, vs, rfl, rs⟩ := o.h
  obtain ⟨hz, rfl⟩ := app_of h
  obtain ⟨a, w, ev, tf, rw'⟩ := ct
  refine GoS.cons (ps_expr (pe_bm PySem.F.plainAttrs_list PySem.F.slot_list_append PySem.F.type_list_append mt_append (pe_ix ix_tup (pe_var hN hv hd hcd) pe_int (fun _ _ => rfl)) (pa_cons pe_go pa_nil hs) hbase hfew hline hs hplain) hsw) ?_
  refine ⟨v, hσ, a, [w, .ref l], 1, .ref l, ev, rfl, seqT_mono s.s tf, rfl, .inl ⟨rfl, _, SqL.of hl⟩, he F H (.refl s) _ fun v F2 H2 g r => ?_⟩
  have o2 := o.up g
  have hl2 := g.hh.k _ _ hl trivial
  obtain ⟨_, hl3, vs2, rfl, rs2⟩ := o2.h
  rw [hl2] at hl3; cases hl3
  exact ⟨l, vs, v, rfl, rfl, hl2, by rw [rs2.length]; exact hz, k _ F2 H2 g o2.pl o2.f (Own.set o2.n o2.f (ob_lst (Rps.append rs2 (.cons r .nil))))⟩
end
end Gx

/-! Gu: defs made within defs, handed on and called. -/
namespace Gx
open PySem PySem.Spec PyProof.Rows L2
open Rp (rp)
open Ra (ra)
open Ob (ob)
/-! ### a def made within a def, as a thing -/
structure Fnv (τ ρ : Type) where
  f : Addr
  g : NdefX.NF
  fr : List Str
  ws : List (Option V)
  R : PySem.W.Frag → Hp → Prop
  mono : ∀ {K : PySem.W.Frag} {F F' : Hp}, L2.Same F F' → R K F → R K F'
  fn : τ → Option ρ
/-- the one value of a known thing -/
structure One {τ ρ : Type} (x : Fnv τ ρ) : Type where
section
variable {τ ρ : Type} {x : Fnv τ ρ} {X : Cx} {K : PySem.W.Frag} {e a b c d : Expr} {es : List Expr} {σ : L2.St} {F H F0 H0 : Hp} {pos : Pos} {D : Ends} {st : Stmt} {rest body : List Stmt}
instance : Rp (One x) := ⟨fun K F v _ => v = .ref x.f ∧ x.R K F, fun s h => ⟨h.1, x.mono s h.2⟩⟩
instance : NN (One x) := ⟨fun h => nomatch h.1⟩
/-- its objects stand -/
structure Mkf (x : Fnv τ ρ) (H : Hp) : Prop where
  f : H x.f = some (NdefX.FnO x.f x.g)
  c : H x.g.c = some (LamX.CodeO x.g.c x.g.qual)
theorem ntb_fnO {f : Addr} {g : NdefX.NF} : ntb (NdefX.FnO f g) := by show True; trivial
theorem ntb_codeO {c : Addr} {q : Str} : ntb (LamX.CodeO c q) := by show True; trivial
theorem Mkf.ext {H' : Hp} (m : Mkf x H) (h : Xt H H') : Mkf x H' := ⟨h.k _ _ m.f ntb_fnO, h.k _ _ m.c ntb_codeO⟩
/-- a name holds it -/
structure ClF (x : Fnv τ ρ) (K : PySem.W.Frag) (F H : Hp) (v : V) : Prop where
  r : rp K F v (One.mk : One x)
  m : Mkf x H
theorem ClF.ex {v : V} (h : ClF x K F H v) : ∃ z : Fnv τ ρ, z = x ∧ ClF z K F H v := ⟨x, rfl, h⟩
theorem ClF.up {v : V} {F' H' : Hp} (h : ClF x K F H v) (g : Gr F H F' H') : ClF x K F' H' v := ⟨Rp.mono g.ff h.r, h.m.ext g.hh⟩
/-- what stands of it ahead of a call -/
structure ZC (x : Fnv τ ρ) (outer : List Env) (s : Shared) (H : Hp) : Prop where
  m : Mkf x H
  c : NdefX.CellsAt x.g.cl x.fr x.ws s.heap H
  n : ∀ y a, x.g.cl.lookup y = some a → a ∉ frs outer
/-- its cells, at each state with the slots σ -/
def ClA (X : Cx) (σ : L2.St) (x : Fnv τ ρ) : Prop := ∀ pins H s, Inv X pins σ H s → NdefX.CellsAt x.g.cl x.fr x.ws s.heap H ∧ ∀ y a, x.g.cl.lookup y = some a → a ∉ frs X.stack
theorem clA_recv (z : ZC x X.outer X.s_0 X.H_0) (hx : X.ex = [] := by rfl) : ClA X σ x := fun pins H s I => by
  have no : ∀ q : Addr, q ∉ X.ex := fun q hq => by rw [hx] at hq; cases hq
  refine ⟨z.c.later z.n (fun _ q _ => no q) I, fun y q e hq => ?_⟩
  rcases List.mem_cons.mp (I.stkSub q hq) with z1 | z1
  · obtain ⟨_, v, o, ho, _⟩ := z.c.all y q e
    have h1 := Heap.lt_size ho
    have h2 := I.ok.above
    rw [← z1] at h2
    exact Nat.lt_irrefl _ (Nat.lt_of_lt_of_le h1 h2)
  · exact z.n y q e z1
theorem clA_made {sc : Scope} {js : List Nat} (hcl : x.g.cl = cloFrom X.env.cells sc.names []) (hfree : ∀ y ∈ sc.names, y.2 = .free → X.env.scope.names.lookup y.1 = some .cell ∨ X.env.scope.names.lookup y.1 = some .free)
    (hfr : ∀ y ∈ x.fr, (y, NameKind.free) ∈ sc.names) (hjs : js.map (fun j => X.N[j]?) = x.fr.map some) (hw : js.map (NdefX.slotAt σ) = x.ws) (hfn : X.fn = (fun _ => true) := by rfl) : ClA X σ x := fun pins H s I => by
  have cp := NdefX.Caps.made I.ok hfree hfr hjs
  rw [← hcl] at cp
  have C := NdefX.cells_of I cp
  rw [hw] at C
  refine ⟨C, fun y q e hq => ?_⟩
  have e1 := cp.sub y q e
  rcases List.mem_cons.mp (I.stkSub q hq) with z1 | z1
  · exact I.cne y q e1 z1
  · obtain ⟨_, o, ho, _⟩ := I.ok.funs.mem z1
    have h1 := Heap.lt_size ho
    have h2 := I.ok.cab y q (by rw [hfn]) e1
    exact Nat.lt_irrefl _ (Nat.lt_of_lt_of_le h1 h2)
/-! ### what it promises -/
def PrF (K : PySem.W.Frag) [Ra τ] [Rp ρ] (x : Fnv τ ρ) : List (Option V) → Sp := fun ws vs H Q _ => ws = x.ws ∧ ∃ F a r, SmX K F H ∧ x.R K F ∧ ra K F vs a ∧ x.fn a = some r ∧ ∀ F' H' u, Gr F H F' H' → rp K F' u r → Q u H'
def NokF (P : Program) (w : World) (K : PySem.W.Frag) (mg : Str → Option Value) (base : Heap) [Ra τ] [Rp ρ] (k : Nat) (x : Fnv τ ρ) : Prop := ∃ ps : List Str, NdefX.NOk P w K mg base CX0 k x.f x.g ps x.fr (PrF K x)
theorem nokF {P : Program} {w : World} {mg : Str → Option Value} {base : Heap} [Ra τ] [RaN τ] [Rp ρ] {N ps : List Str} {k : Nat} (S : NdefX.NScope N ps x.fr x.g.scope) (hn : RaN.n τ = ps.length)
    (hb : ∀ (doc pm ctv : Value) (us : List Value), us.length = ps.length → bindArgs (x.g.fd doc pm ctv) ⟨us, []⟩ = pure (ps.zip us))
    (hbody : ∀ (A : Around) (outer : List Env) (s : Shared) (F H : Hp) (vs : List V) (a : τ) (r : ρ) (D : Ends) (E : XK), Room k (A.deeper (NdefX.envF x.g x.f s.heap.objs.size)) → SmX K F H → x.R K F → ra K F vs a → x.fn a = some r → (∀ F' H' u, GrX K F H F' H' → rp K F' u r → D.rt u H') →
      (∀ σ' F' H', GrX K F H F' H' → rp K F' .non r → D.nx σ' H') → GoS (NdefX.ncx CX0 P w K mg base N x.g x.f A outer s H E).nox x.g.body D (NdefX.startF N vs x.ws) H) : NokF P w K mg base (k + 1) x :=
  ⟨ps, NdefX.nok_of S hb (fun ws vs H Q E ⟨_, F, a, r, _, _, ra', _⟩ => by rw [RaN.len ra', hn]) fun A outer s H vs ws Q E hr _ _ _ ⟨ew, F, a, r, sm, hR, ra', hf, k⟩ => by
    subst ew
    exact ⟨_, PSs.nox pss_go, hbody A outer s F H vs a r { nx := fun _ H' => Q .non H', rt := Q } E hr sm hR ra' hf (fun F' H' u g q => k F' H' u g.toGr q) fun σ' F' H' g q => k F' H' .non g.toGr q⟩⟩
theorem NokF.mono {P : Program} {w : World} {mg : Str → Option Value} {base : Heap} [Ra τ] [Rp ρ] {j k : Nat} (o : NokF P w K mg base j x) (h : j ≤ k) : NokF P w K mg base k x := let ⟨ps, o⟩ := o; ⟨ps, NdefX.NOk.mono o h⟩
/-! ### it is called by a name -/
theorem GoE.callG {S : List (Option V) → Sp} {P1 : List V → Hp → Prop} {Q : VK} {i j k : Nat} {n : Str} {p : Pos} {v : V} (Fn : ∃ ps : List Str, NdefX.NOk X.prog X.w X.K X.mg X.base CX0 k x.f x.g ps x.fr S) (hr : Room j X.A) (hk : k ≤ j) (hσ : σ[i]? = some (some v)) (hv : v = .ref x.f) (m : Mkf x H) (hc : ClA X σ x) (ga : GoA X (e :: es) σ H P1)
    (h : ∀ vs H1, P1 vs H1 → Mkf x H1 ∧ S x.ws vs H1 Q fun _ _ _ => False) (hN : X.N[i]? = some n) (hvis : Vis X.env.scope n) (hd : (n == ("__debug__" : Str)) = false) (hcd : (n == ("__classdict__" : Str)) = false)
    (he : starEach (e :: es) X.env = (false, eval e X.env) :: starEach es X.env) (hpl : (backTo pos (starEach es X.env)).any (·.1) = false) : GoE X (.Call (.Name n p) (e :: es) [] pos) σ H Q := .mk fun pins s I => by
  subst hv
  refine wpAny_Call_Name_kw (thn ((pe_var (pos := p) hN hvis hd hcd).run pins s σ H (fun u H1 => u = .ref x.f ∧ H1 = H) I ⟨_, hσ, rfl, rfl⟩) fun u s1 ⟨u', H1, I1, r1, e1, e2⟩ => ?_)
  subst e1; subst e2
  cases r1
  have at1 := NdefX.fnAt_of I1 m.f
  refine PySem.W.callWith_F (first := []) at1 (thn (ga.o pos pins s1 I1) fun us s2 ⟨vs, H2, I2, r2, q⟩ => ?_) he hpl
  obtain ⟨m2, q2⟩ := h vs H2 q
  refine ⟨NdefX.fnAt_of I2 m2.f, ?_⟩
  obtain ⟨ps, Fn⟩ := Fn
  refine wpAny_call (codeAny_mono (Fn.run X.A X.stack s2 H2 us vs x.ws Q (fun _ _ _ => False) (hr.mono hk) I2.env0 m2.f m2.c (hc _ _ _ I2).1 r2 q2) fun o s3 ho => ?_)
  cases o with
  | error _ => exact ho.elim
  | ok fl => cases fl <;> first | exact False.elim ho | exact I2.after ho
theorem GoE.callC {P1 : List V → Hp → Prop} {Q : VK} {i j k : Nat} {n : Str} {p : Pos} {v : V} [Ra τ] [Rp ρ] (Fn : NokF X.prog X.w X.K X.mg X.base k x) (hr : Room j X.A) (hk : k ≤ j) (hσ : σ[i]? = some (some v)) (hv : v = .ref x.f) (m : Mkf x H) (hc : ClA X σ x) (ga : GoA X (e :: es) σ H P1)
    (h : ∀ vs H1, P1 vs H1 → Mkf x H1 ∧ PrF X.K x x.ws vs H1 Q fun _ _ _ => False) (hN : X.N[i]? = some n) (hvis : Vis X.env.scope n) (hd : (n == ("__debug__" : Str)) = false) (hcd : (n == ("__classdict__" : Str)) = false)
    (he : starEach (e :: es) X.env = (false, eval e X.env) :: starEach es X.env) (hpl : (backTo pos (starEach es X.env)).any (·.1) = false) : GoE X (.Call (.Name n p) (e :: es) [] pos) σ H Q := GoE.callG (S := PrF X.K x) Fn hr hk hσ hv m hc ga h hN hvis hd hcd he hpl
theorem ev_callC {j k : Nat} {n : Str} {p : Pos} {v : V} {y : τ} {r : ρ} [Ra τ] [Rp ρ] (i : Nat) (Fn : NokF X.prog X.w X.K X.mg X.base k x) (hr : Room j X.A) (hk : k ≤ j) (hσ : σ[i]? = some (some v)) (hv : ClF x X.K F H v) (hc : ClA X σ x) (ha : EvA X (e :: es) σ F H y) (h : x.fn y = some r) (hN : X.N[i]? = some n := by rfl)
    (hvis : Vis X.env.scope n := by first | exact Or.inl rfl | exact Or.inr (Or.inl rfl) | exact Or.inr (Or.inr rfl)) (hd : (n == ("__debug__" : Str)) = false := by decide) (hcd : (n == ("__classdict__" : Str)) = false := by decide)
    (he : starEach (e :: es) X.env = (false, eval e X.env) :: starEach es X.env := by rfl) (hpl : (backTo pos (starEach es X.env)).any (·.1) = false := by rfl) : Ev X (.Call (.Name n p) (e :: es) [] pos) σ F H r := fun F1 H1 g Q q => by
  have hv1 := hv.up g.toGr
  refine GoE.callC (P1 := fun vs H2 => Mkf x H2 ∧ PrF X.K x x.ws vs H2 Q fun _ _ _ => False) Fn hr hk hσ hv1.r.1 hv1.m hc (ha F1 H1 g _ fun vs F2 H2 g2 r2 => ?_) (fun _ _ z => z) hN hvis hd hcd he hpl
  have hv2 := hv1.up g2
  exact ⟨hv2.m, rfl, F2, y, r, (g.trans g2).sm, hv2.r.2, r2, h, fun F3 H3 u g3 r3 => q u F3 H3 (g2.trans g3) r3⟩
end
/-- the statements in a loop or under a condition -/
def inBody : Stmt → List Stmt
  | .For _ _ b _ _ => b
  | .While _ b _ _ => b
  | .If _ b _ _ => b
  | _ => []
/-! ### it takes two new things for its own -/
section
variable {α β ρ : Type} [Rp α] [Ob α] [Rp β] [Ob β] [Rp ρ] {x : Fnv (α × β × Unit) ρ} {X : Cx} {e a b : Expr} {σ : L2.St} {F H : Hp} {pos : Pos}
def PrT (K : PySem.W.Frag) (x : Fnv (α × β × Unit) ρ) : List (Option V) → Sp := fun ws vs H Q _ => ws = x.ws ∧ ∃ F0 H0 F l1 l2 y1 y2 r, vs = [.ref l1, .ref l2] ∧ GrX K F0 H0 F H ∧ x.R K F ∧ Own K H0 F H l1 y1 ∧ Own K H0 F H l2 y2 ∧ l1 ≠ l2 ∧ x.fn (y1, y2, ()) = some r ∧ ∀ F' H' u, Gr F0 H0 F' H' → rp K F' u r → Q u H'
def NokT (P : Program) (w : World) (K : PySem.W.Frag) (mg : Str → Option Value) (base : Heap) (k : Nat) (x : Fnv (α × β × Unit) ρ) : Prop := ∃ ps : List Str, NdefX.NOk P w K mg base CX0 k x.f x.g ps x.fr (PrT K x)
theorem nokT {K : PySem.W.Frag} {P : Program} {w : World} {mg : Str → Option Value} {base : Heap} {N ps : List Str} {k : Nat} (S : NdefX.NScope N ps x.fr x.g.scope) (hn : ps.length = 2)
    (hb : ∀ (doc pm ctv : Value) (us : List Value), us.length = ps.length → bindArgs (x.g.fd doc pm ctv) ⟨us, []⟩ = pure (ps.zip us))
    (hbody : ∀ (A : Around) (outer : List Env) (s : Shared) (F0 H0 F H : Hp) (l1 l2 : Addr) (y1 : α) (y2 : β) (r : ρ) (D : Ends) (E : XK), Room k (A.deeper (NdefX.envF x.g x.f s.heap.objs.size)) → GrX K F0 H0 F H → x.R K F → Own K H0 F H l1 y1 → Own K H0 F H l2 y2 → l1 ≠ l2 → x.fn (y1, y2, ()) = some r → (∀ F' H' u, GrX K F0 H0 F' H' → rp K F' u r → D.rt u H') →
      (∀ σ' F' H', GrX K F0 H0 F' H' → rp K F' .non r → D.nx σ' H') → GoS (NdefX.ncx CX0 P w K mg base N x.g x.f A outer s H E).nox x.g.body D (NdefX.startF N [.ref l1, .ref l2] x.ws) H) : NokT P w K mg base (k + 1) x :=
  ⟨ps, NdefX.nok_of S hb (fun ws vs H Q E ⟨_, F0, H0, F, l1, l2, y1, y2, r, ev, _⟩ => by rw [ev, hn]; rfl) fun A outer s H vs ws Q E hr _ _ _ ⟨ew, F0, H0, F, l1, l2, y1, y2, r, ev, g, hR, o1, o2, ne, hf, k⟩ => by
    subst ew; subst ev
    exact ⟨_, PSs.nox pss_go, hbody A outer s F0 H0 F H l1 l2 y1 y2 r { nx := fun _ H' => Q .non H', rt := Q } E hr g hR o1 o2 ne hf (fun F' H' u g q => k F' H' u g.toGr q) fun σ' F' H' g q => k F' H' .non g.toGr q⟩⟩
theorem NokT.mono {K : PySem.W.Frag} {P : Program} {w : World} {mg : Str → Option Value} {base : Heap} {j k : Nat} (o : NokT P w K mg base j x) (h : j ≤ k) : NokT P w K mg base k x := let ⟨ps, o⟩ := o; ⟨ps, NdefX.NOk.mono o h⟩
theorem ev_callT {j k : Nat} {n : Str} {p : Pos} {v : V} {y1 : α} {y2 : β} {r : ρ} (i : Nat) (Fn : NokT X.prog X.w X.K X.mg X.base k x) (hr : Room j X.A) (hk : k ≤ j) (hσ : σ[i]? = some (some v)) (hv : ClF x X.K F H v) (hc : ClA X σ x) (ha : EvN X a σ F H y1) (hb : EvN X b σ F H y2) (h : x.fn (y1, y2, ()) = some r) (hN : X.N[i]? = some n := by rfl)
    (hvis : Vis X.env.scope n := by first | exact Or.inl rfl | exact Or.inr (Or.inl rfl) | exact Or.inr (Or.inr rfl)) (hd : (n == ("__debug__" : Str)) = false := by decide) (hcd : (n == ("__classdict__" : Str)) = false := by decide)
    (hs : starEach [a, b] X.env = (false, eval a X.env) :: starEach [b] X.env := by rfl) (hs2 : starEach [b] X.env = (false, eval b X.env) :: starEach [] X.env := by rfl) (hpl : (backTo pos (starEach [b] X.env)).any (·.1) = false := by rfl) : Ev X (.Call (.Name n p) [a, b] [] pos) σ F H r := fun F1 H1 g Q q => by
  have hv1 := hv.up g.toGr
  refine GoE.callG (S := PrT X.K x) (P1 := fun vs H2 => Mkf x H2 ∧ PrT X.K x x.ws vs H2 Q fun _ _ _ => False) Fn hr hk hσ hv1.r.1 hv1.m hc (GoA.of (pa_cons pe_go (pa_cons pe_go pa_nil hs2) hs) (ha F1 H1 g _ fun l1 o1 F2 H2 g2 n1 f1 h1 b1 => hb F2 H2 (g.trans g2) _ fun l2 o2 F3 H3 g3 n2 f2 h2 b2 => ?_)) (fun _ _ z => z) hN hvis hd hcd hs hpl
  have w1 : Own X.K H1 F3 H3 l1 y1 := (Own.mk' n1 f1 h1 b1).up g3
  have nl2 : H1 l2 = none := g2.hh.free n2
  exact ⟨(hv1.up (g2.trans g3)).m, rfl, F1, H1, F3, l1, l2, y1, y2, r, rfl, .pre (.refl g.fh) (g.sm.gx (g2.trans g3)), (hv1.up (g2.trans g3)).r.2, w1, Own.mk' nl2 f2 h2 b2, (fun z => by
    subst z
    rw [h1] at n2; cases n2), h, fun F4 H4 u g4 r4 => q u F4 H4 g4 r4⟩
end
/-! ### a def to which it is handed -/
structure FnOkZ (Z : List Env → Shared → Hp → Prop) (P : Program) (w : World) (K : PySem.W.Frag) (mg : Str → Option Value) (base : Heap) (CX : CXT) (k : Nat) (f : Addr) (fd : FuncData) (ps : List Str) (sp : Sp) : Prop where
  len : ∀ vs H Q E, sp vs H Q E → vs.length = ps.length
  run : ∀ (A : Around) (outer : List Env) (s : Shared) (H : Hp) (args : Args) (us : List Value) (vs : List V) (Q : VK) (E : XK), Room k A → Env0 P w K mg base A outer s H → BindsTo s fd args (ps.zip us) → Vals vs us → Z outer s H →
    sp vs H Q E → codeAny (model P w) A (.call (.ref f) args) (CR CX outer P w H s Q E) s
section
variable {X : Cx} {K : PySem.W.Frag} {e a b c d : Expr} {es : List Expr} {σ : L2.St} {F H F0 H0 : Hp} {pos : Pos} {D : Ends} {st : Stmt} {rest body : List Stmt} {P : Program} {w : World} {mg : Str → Option Value} {base : Heap} {Z : List Env → Shared → Hp → Prop}
theorem FnOkZ.plain {CX : CXT} {k : Nat} {f : Addr} {fd : FuncData} {ps : List Str} {sp : Sp} (o : FnOkZ (fun _ _ _ => True) P w K mg base CX k f fd ps sp) : FnOk P w K mg base CX k f fd ps sp :=
  ⟨o.len, fun A outer s H args us vs Q E hr e0 hb r h => o.run A outer s H args us vs Q E hr e0 hb r trivial h⟩
theorem FnOkZ.mono {CX : CXT} {k j : Nat} {f : Addr} {fd : FuncData} {ps : List Str} {sp : Sp} (o : FnOkZ Z P w K mg base CX j f fd ps sp) (h : j ≤ k) : FnOkZ Z P w K mg base CX k f fd ps sp :=
  ⟨o.len, fun A outer s H args us vs Q E hr => o.run A outer s H args us vs Q E (hr.mono h)⟩
/-- a def by its body; the body may know what Z tells, and the def's code object -/
theorem okZ {N ps : List Str} {k : Nat} {sp : Sp} {x qual : Str} {s0 : Stmt} {pp : Str × Option Str} {fd : FuncData} {CX : CXT} (Fn : FunD K x qual (defArgs s0) (defBody s0) (defScope s0) [] [] (He.fAd K pp) fd) (S : FnScope N ps (defScope s0)) (len : ∀ vs H Q E, sp vs H Q E → vs.length = ps.length)
    (hbody : ∀ (cdv : Value) (A : Around) (outer : List Env) (s : Shared) (H : Hp) (vs : List V) (Q : VK) (E : XK), cdv = .ref (He.codeOf K pp) → Room k (A.deeper (envOfC qual (defScope s0) s.heap.objs.size (He.fAd K pp) cdv)) → Z outer s H → sp vs H Q E →
      GoS (cxOf CX P w K mg base N qual (defScope s0) (He.fAd K pp) cdv A outer s H E) (defBody s0) { nx := fun _ H' => Q .non H', rt := Q } (start N vs) H) : FnOkZ Z P w K mg base CX (k + 1) (He.fAd K pp) fd ps sp := by
  obtain ⟨oc, od, dV, kV, doc, pm, an, cdv, ct, osl, rfl, lk, hcd, _, _⟩ := Fn.ex
  have ecd : cdv = .ref (He.codeOf K pp) := by
    obtain ⟨c0, e0⟩ := He.codeIn_ref hcd
    rw [He.codeOf_eq lk e0]; exact e0
  refine ⟨len, fun A outer s H args us vs Q E hr env0 bnd rv z hsp => ?_⟩
  have keep0 : ∀ q o, base.get? q = some o → s.heap.get? q = some o := fun q o h => (env0.bs q o h).1
  have inK := env0.mod.kin.keeps keep0
  have noLim : s.heap.NoLimit := env0.mod.nolimit.keeps keep0
  have kinds : ∀ y ∈ ps.zip us, (defScope s0).names.lookup y.1 = some .local ∨ ((defScope s0).names.lookup y.1 = some .cell ∧ ((cellsFrom (s.heap.objs.size + 1) (defScope s0).names []).lookup y.1).isSome = true) := by
    rintro ⟨n, v⟩ hy
    exact (S.par n (List.of_mem_zip hy).1).imp id fun q => ⟨q, PySem.W.cellsFrom_some _ _ _ (.inl q)⟩
  refine codeAny_call_function hr.depth (inK _ _ lk) rfl S.co S.gen rfl (PySem.W.codeRec_of inK hcd) (bnd _ _ _ _ (wpAny_newFunctionEnv_cells S.kind kinds fun env1 he1 s1 made => ?_))
  subst he1
  refine ⟨noLim.keeps made.toInCall.keep, codeAny_func ?_⟩
  have I := inv_start (CX := CX) (P := P) (w := w) (K := K) (mg := mg) (base := base) (E := E) (cd := cdv) S hr.hd env0 (len _ _ _ _ hsp) rv made
  have body := (hbody cdv A outer s H vs Q E ecd (hr.deeper _) z hsp).o [] s1 I
  have done : ∀ {σ1 : L2.St} {H1 : Hp} {v1 : V} {u1 : Value} {s2 : Shared}, Inv (cxOf CX P w K mg base N qual (defScope s0) (He.fAd K pp) cdv A outer s H E) [] σ1 H1 s2 → RelV v1 u1 → Q v1 H1 → CE outer P w H s Q u1 s2 := by
    intro σ1 H1 v1 u1 s2 J r1 q1
    exact ⟨v1, H1, J.os, J.bare, J.base, J.hok, r1, q1⟩
  refine wpAny_mono body (fun fl s2 h2 => ?_) fun _ _ h2 => h2
  match fl, h2 with
  | .ret _, ⟨_, _, _, J, r1, q1⟩ => exact done J r1 q1
  | .next, ⟨_, _, J, q1⟩ => exact done (v1 := .non) (u1 := .none) J rfl q1
  | .brk, ⟨_, _, _, q1⟩ => exact q1.elim
  | .cont, ⟨_, _, _, q1⟩ => exact q1.elim
theorem GoS.nox {σ : L2.St} (h : GoS X.nox body D σ H) : GoS X body D σ H := GoS.of (PSs.nox pss_go) h
theorem fn_okZ {τ ρ : Type} [Ra τ] [RaN τ] [Rp ρ] {f : τ → Option ρ} {x qual : Str} {s0 : Stmt} {pp : Str × Option Str} {fd : FuncData} {N ps : List Str} {k : Nat} (Fn : FunD K x qual (defArgs s0) (defBody s0) (defScope s0) [] [] (He.fAd K pp) fd) (S : FnScope N ps (defScope s0)) (hn : RaN.n τ = ps.length)
    (hbody : ∀ (cdv : Value) (A : Around) (outer : List Env) (s : Shared) (F H : Hp) (vs : List V) (a : τ) (r : ρ) (D : Ends) (E : XK), cdv = .ref (He.codeOf K pp) → Room k (A.deeper (envOfC qual (defScope s0) s.heap.objs.size (He.fAd K pp) cdv)) → Z outer s H → SmX K F H → ra K F vs a → f a = some r →
      (∀ F' H' u, GrX K F H F' H' → rp K F' u r → D.rt u H') → (∀ σ' F' H', GrX K F H F' H' → rp K F' .non r → D.nx σ' H') → GoS (cxOf CX0 P w K mg base N qual (defScope s0) (He.fAd K pp) cdv A outer s H E).nox (defBody s0) D (start N vs) H) :
    FnOkZ Z P w K mg base CX0 (k + 1) (He.fAd K pp) fd ps (Pr K f) :=
  okZ Fn S (fun vs H Q E ⟨F, a, r, _, ra', _⟩ => by rw [RaN.len ra', hn]) fun cdv A outer s H vs Q E hcd hr z ⟨F, a, r, sm, ra', hf, k⟩ =>
    (hbody cdv A outer s F H vs a r _ E hcd hr z sm ra' hf (fun F' H' u g q => k F' H' u g.toGr q) fun σ' F' H' g q => k F' H' .non g.toGr q).nox
theorem GoE.callZ {P1 : List V → Hp → Prop} {Q : VK} {k : Nat} {fa : Addr} {fd : FuncData} {ps : List Str} {sp : Sp} {x : Str} {p : Pos} (Fn : FnOkZ Z X.prog X.w X.K X.mg X.base CX0 k fa fd ps sp) (hr : Room k X.A) (hm : X.mg x = some (.ref fa))
    (hk : PySem.W.keepIn X.K (.ref fa) = true) (hb : Binds X.K fd ps []) (ga : GoA X (e :: es) σ H P1) (h : ∀ vs H1, P1 vs H1 → sp vs H1 Q (fun _ _ _ => False) ∧ ∀ pins s, Inv X pins σ H1 s → Z X.stack s H1) (hg : Gl X x) (hdb : (x == ("__debug__" : Str)) = false)
    (he : starEach (e :: es) X.env = (false, eval e X.env) :: starEach es X.env) (hpl : (backTo pos (starEach es X.env)).any (·.1) = false) : GoE X (.Call (.Name x p) (e :: es) [] pos) σ H Q := .mk fun pins s I => by
  refine wpAny_Call_Name_kw (ld_glob I hg hm ?_ hdb)
  refine PySem.W.callWith_K (h₀ := X.base) I.ok.mod.kin hk (thn (ga.o pos pins s I) fun us s1 ⟨vs, H1, I1, r1, q⟩ => ?_) he hpl
  obtain ⟨q1, q2⟩ := h vs H1 q
  refine ⟨I1.kIn, ?_⟩
  have hl : us.length = ps.length := r1.length.symm.trans (Fn.len _ _ _ _ q1)
  have bnd := hb s1 us I1.kIn (by rw [List.append_nil]; exact hl)
  rw [List.append_nil] at bnd
  refine wpAny_call (codeAny_mono (Fn.run X.A X.stack s1 H1 ⟨us, []⟩ us vs Q (fun _ _ _ => False) hr I1.env0 bnd r1 (q2 _ _ I1) q1) fun o s2 ho => ?_)
  cases o with
  | error _ => exact ho.elim
  | ok fl => cases fl <;> first | exact False.elim ho | exact I1.after ho
/-- f(.., change, ..) -/
theorem ev_callZ {τ ρ τ1 ρ1 : Type} [Ra τ] [Rp ρ] {fv : Fnv τ1 ρ1} {f : τ → Option ρ} {y : τ} {r : ρ} {k : Nat} {fa : Addr} {fd : FuncData} {ps : List Str} {x : Str} {p : Pos} {v : V} (Fn : FnOkZ (ZC fv) X.prog X.w X.K X.mg X.base CX0 k fa fd ps (Pr X.K f)) (hr : Room k X.A) (hm : X.mg x = some (.ref fa))
    (hk : PySem.W.keepIn X.K (.ref fa) = true) (hb : Binds X.K fd ps []) (hv : ClF fv X.K F H v) (hc : ClA X σ fv) (ha : EvA X (e :: es) σ F H y) (h : f y = some r) (hg : Gl X x := by rfl) (hdb : (x == ("__debug__" : Str)) = false := by decide)
    (he : starEach (e :: es) X.env = (false, eval e X.env) :: starEach es X.env := by rfl) (hpl : (backTo pos (starEach es X.env)).any (·.1) = false := by rfl) : Ev X (.Call (.Name x p) (e :: es) [] pos) σ F H r := fun F1 H1 g Q q =>
  GoE.callZ (P1 := fun vs H2 => Pr X.K f vs H2 Q (fun _ _ _ => False) ∧ ∀ pins s, Inv X pins σ H2 s → ZC fv X.stack s H2) Fn hr hm hk hb (ha F1 H1 g _ fun vs F2 H2 g2 r2 => ⟨⟨F2, y, r, (g.trans g2).sm, r2, h, fun F3 H3 u g3 r3 => q u F3 H3 (g2.trans g3) r3⟩, fun pins s I =>
    ⟨(hv.up (g.trans g2).toGr).m, (hc pins H2 s I).1, (hc pins H2 s I).2⟩⟩) (fun _ _ z => z) hg hdb he hpl
/-! ### it is made -/
theorem tab_more {ps : Array Value} {more : List Value} : (ps ++ more.toArray).toList = ps.toList ++ more := by simp
theorem ndefG {pins : List (Addr × Obj)} {s : Shared} {c P : Addr} {name : Str} {params : Arguments} {nb : List Stmt} {scope : Scope} {E Q : Value → Shared → Prop} (I : Inv X pins σ H s) (TB : LamX.TabB X.base X.mg c P) (hcode : X.env.code = .ref c) (hT : GdT H P) (hq : nmG pos.line pos.col = X.env.qual ++ name)
    (hfree : ∀ y ∈ scope.names, y.2 = .free → ∃ q, X.env.cells.lookup y.1 = some q)
    (h : ∀ f c' H1 s', Inv X pins σ H1 s' → Xt H H1 → (∀ b o, H b = some o → b ≠ P → H1 b = some o) → H1 f = some (NdefX.FnO f ⟨name, X.env.qual ++ name, params, nb, scope, cloFrom X.env.cells scope.names [], c'⟩) → H1 c' = some (LamX.CodeO c' (X.env.qual ++ name)) → Q (.ref f) s') :
    wpAny (model X.prog X.w) X.A (makeFunction name (X.env.qual ++ name) params (.stmts nb) scope X.env [] [] [] pos pos.line) Q E s := by
  have hG := hT
  obtain ⟨ps, tP, tri, all⟩ := hT
  have g1 := I.mod.glob.keeps I.bk
  have cd := TB.code.keeps I.bk
  have bt : s.heap.BuiltinsAt X.mg P := TB.bm.keeps I.bk
  have oP : s.heap.get? P = some { cls := .none, data := .fields ps } := I.hok P _ tP
  cases among : codeAmong pos ps.toList with
  | some cv =>
    obtain ⟨c', rfl, cO⟩ := all pos cv among
    rw [hq] at cO
    refine PySem.W.makeFunction_hit (c := c) (closure_ok hfree) I.ok.glob g1 hcode cd oP tri among bt fun ctv doc h' tk kp _ => ?_
    have I1 := I.kept (t' := tk) kp
    have nf : H h'.objs.size = none := I1.hok.fresh (Nat.le_refl _)
    have I2 := NdefX.inv_fn (F := ⟨name, X.env.qual ++ name, params, nb, scope, cloFrom X.env.cells scope.names [], c'⟩) (t' := tk) (doc := doc) (pm := (X.mg "__name__").getD .none) (ctv := ctv) I1 rfl
    exact h _ c' _ _ I2 (.upd nf ntb_fnO) (fun b o hb _ => by rw [upd_ne (ne_of_none hb nf)]; exact hb) upd_same (by rw [upd_ne (ne_of_none cO nf)]; exact cO)
  | none =>
    refine PySem.W.makeFunction_K (c := c) (closure_ok hfree) I.ok.glob g1 hcode cd oP tri among TB.gP bt fun c' ctv doc h' tk hx hge hlt hrec htb => ?_
    obtain ⟨c2, oc, vs, t, e2, hoc, hd, hv⟩ := hrec
    cases e2
    have nC : H c' = none := I.hok.fresh hge
    have I1 := LamX.inv_table (t' := tk) (more := [rawInt pos.line, rawInt pos.col, .ref c'].toArray) (h' := h') I tP (fun b o hb => hx b o hb) htb hge ⟨oc, vs, t, hoc, hd, hv⟩
    have nF := I1.hok.fresh (Nat.le_refl h'.objs.size)
    have I2 := NdefX.inv_fn (F := ⟨name, X.env.qual ++ name, params, nb, scope, cloFrom X.env.cells scope.names [], c'⟩) (t' := tk) (doc := doc) (pm := (X.mg "__name__").getD .none) (ctv := ctv) I1 rfl
    have nF0 : H h'.objs.size = none := NdefX.upd_none (NdefX.upd_none nF)
    generalize hH1 : upd (upd (upd H P (.tbl (ps ++ [rawInt pos.line, rawInt pos.col, .ref c'].toArray))) c' (LamX.CodeO c' (X.env.qual ++ name))) h'.objs.size (NdefX.FnO h'.objs.size ⟨name, X.env.qual ++ name, params, nb, scope, cloFrom X.env.cells scope.names [], c'⟩) = H1 at I2
    have kp : ∀ b o, H b = some o → b ≠ P → H1 b = some o := fun b o hb hP => by
      rw [← hH1, upd_ne (ne_of_none hb nF0), upd_ne (ne_of_none hb nC), upd_ne hP]; exact hb
    have cO : H1 c' = some (LamX.CodeO c' (X.env.qual ++ name)) := by rw [← hH1, upd_ne (Nat.ne_of_lt hlt)]; exact upd_same
    have pO : H1 P = some (.tbl (ps ++ [rawInt pos.line, rawInt pos.col, .ref c'].toArray)) := by rw [← hH1, upd_ne (ne_of_none tP nF0), upd_ne (ne_of_none tP nC)]; exact upd_same
    have code : ∀ q nm, H q = some (LamX.CodeO q nm) → H1 q = some (LamX.CodeO q nm) := fun q nm hb => kp q _ hb fun z => by
      rw [z, tP] at hb; exact LamX.codeO_ne ps (Option.some.inj hb).symm
    refine h _ c' H1 _ I2 ⟨fun b o hb n => kp b o hb fun z => ?_, fun b qs hb => ?_, fun P' hP' => ?_⟩ kp (by rw [← hH1]; exact upd_same) cO
    · subst z; rw [tP] at hb; cases hb; exact n
    · by_cases z : b = P
      · subst z; exact ⟨_, pO⟩
      · exact ⟨qs, kp b _ hb z⟩
    · by_cases z : P' = P
      · subst z
        refine ⟨_, pO, by rw [tab_more]; exact PySem.TriplesOk_snoc _ _ _ _ tri, fun p' cv hcv => ?_⟩
        rw [tab_more] at hcv
        rcases NdefX.among_app2 _ tri hcv with y | ⟨y, y1, y2⟩
        · obtain ⟨q, e1, e2⟩ := all p' cv y
          exact ⟨q, e1, code _ _ e2⟩
        · refine ⟨c', y, ?_⟩
          rw [← y1, ← y2, hq]; exact cO
      · obtain ⟨qs, e1, e2, e3⟩ := hP'
        exact ⟨qs, kp _ _ e1 z, e2, fun p' cv hcv => let ⟨q, y1, y2⟩ := e3 p' cv hcv; ⟨q, y1, code _ _ y2⟩⟩
/-- def name(..): .. in a def's body -/
theorem go_ndef {name : Str} {params : Arguments} {nb : List Stmt} {scope : Scope} {c P : Addr} (i : Nat) (s : SmX X.K F H) (TB : LamX.TabB X.base X.mg c P) (hcode : X.env.code = .ref c) (hP : P ∈ tabsG X.K) (hq : nmG pos.line pos.col = X.env.qual ++ name)
    (hfree : ∀ y ∈ scope.names, y.2 = .free → X.env.scope.names.lookup y.1 = some .cell ∨ X.env.scope.names.lookup y.1 = some .free)
    (k : ∀ f c' H', Gr F H F H' → H' f = some (NdefX.FnO f ⟨name, X.env.qual ++ name, params, nb, scope, cloFrom X.env.cells scope.names [], c'⟩) → H' c' = some (LamX.CodeO c' (X.env.qual ++ name)) → GoS X rest D (σ.set i (some (.ref f))) H')
    (hN : X.N.Nodup) (hd0 : params.defaults = [] := by rfl) (hk0 : params.kw_defaults = [] := by rfl) (ha : annTrees params none X.env = [] := by rfl) (hi : X.N[i]? = some name := by rfl)
    (hx : Loc X.env.scope name := by first | exact Or.inl rfl | exact Or.inr rfl) (hf : X.fn name = true ∨ X.env.scope.names.lookup name = some .local := by first | exact .inl rfl | exact .inr rfl) : GoS X (.FunctionDef name params nb [] none [] scope none name pos :: rest) D σ H := by
  have run : PS X (.FunctionDef name params nb [] none [] scope none name pos) (fun D1 σ1 H1 => H1 = H ∧ σ1 = σ ∧ ∀ f c' H', Gr F H F H' → H' f = some (NdefX.FnO f ⟨name, X.env.qual ++ name, params, nb, scope, cloFrom X.env.cells scope.names [], c'⟩) → H' c' = some (LamX.CodeO c' (X.env.qual ++ name)) → D1.nx (σ.set i (some (.ref f))) H') := by
    refine ⟨fun pins s1 σ1 H1 D1 I ⟨eH, eσ, h⟩ => ?_⟩
    subst eH; subst eσ
    have eqn : qualnameIn X.env name name = X.env.qual ++ name := by
      have hk : X.env.kindOf name = some .local ∨ X.env.kindOf name = some .cell := hx
      unfold qualnameIn
      rcases hk with hk | hk <;> rw [hk] <;> first | rfl | exact if_neg (by decide)
    refine PySem.W.nestDef_K hd0 hk0 ha ?_
    rw [eqn]
    refine ndefG I TB hcode (s.h.t P hP).1 hq (fun y hy e => I.ok.has _ (hfree y hy e)) fun f c' H2 s2 I2 xt kp f0 c0 => ?_
    refine store_ok I2 hN hi hx (v := .ref f) rfl (fun s3 J => ⟨_, H2, J, h f c' H2 ⟨.refl _, fun b o e => kp b o (s.s b o e) fun z => ?_, xt, fun _ _ _ _ => rfl⟩ f0 c0⟩) hf
    rw [z, (s.h.t P hP).2] at e; cases e
  exact GoS.cons run ⟨rfl, rfl, k⟩
/-! ### a def that may raise and makes another -/
theorem fn_okXZ {τ ε ρ : Type} [Ra τ] [RaN τ] [Xk ε] [Rp ρ] {f : τ → Option (Rs ε ρ)} {x qual : Str} {s0 : Stmt} {pp : Str × Option Str} {fd : FuncData} {N ps : List Str} {k : Nat} (Fn : FunD K x qual (defArgs s0) (defBody s0) (defScope s0) [] [] (He.fAd K pp) fd) (S : FnScope N ps (defScope s0)) (hn : RaN.n τ = ps.length)
    (hbody : ∀ (cdv : Value) (A : Around) (outer : List Env) (s : Shared) (F H : Hp) (vs : List V) (a : τ) (r : Rs ε ρ) (D : Ends) (E : XK), cdv = .ref (He.codeOf K pp) → Room k (A.deeper (envOfC qual (defScope s0) s.heap.objs.size (He.fAd K pp) cdv)) → SmX K F H → ra K F vs a → f a = some r →
      (∀ F' H' u y, Rs.v y = r → GrX K F H F' H' → rp K F' u y → D.rt u H') → (∀ σ' F' H' y, Rs.v y = r → GrX K F H F' H' → rp K F' .non y → D.nx σ' H') →
      (∀ y, Rs.x y = r → ∀ F' H' cls dd, GrX K F H F' H' → Xk.xr K F' H' cls dd y → E cls dd H') →
      Takes (cxOf (L2.CX P w) P w K mg base N qual (defScope s0) (He.fAd K pp) cdv A outer s H E) (fun cls d _ H => E cls d H) →
      PassesOwn (model P w) (A.deeper (envOfC qual (defScope s0) s.heap.objs.size (He.fAd K pp) cdv)) (envOfC qual (defScope s0) s.heap.objs.size (He.fAd K pp) cdv) (cxOf (L2.CX P w) P w K mg base N qual (defScope s0) (He.fAd K pp) cdv A outer s H E).xe →
      GoS (cxOf (L2.CX P w) P w K mg base N qual (defScope s0) (He.fAd K pp) cdv A outer s H E) (defBody s0) D (start N vs) H) :
    FnOk P w K mg base (L2.CX P w) (k + 1) (He.fAd K pp) fd ps (PrE K f) :=
  FnOkZ.plain (okZ (sp := PrE K f) Fn S (fun vs H Q E ⟨F, a, r, _, ra', _⟩ => by rw [RaN.len ra', hn]) fun cdv A outer s H vs Q E hcd hr _ ⟨F, a, r, sm, ra', hf, k, kx⟩ =>
    hbody cdv A outer s F H vs a r _ E hcd hr sm ra' hf (fun F' H' u y q g r => k y q.symm F' H' u g.toGr r) (fun σ' F' H' y q g r => k y q.symm F' H' .non g.toGr r) (fun y q F' H' cls dd g r => kx y q.symm F' H' cls dd g.toGr r) (takes_of rfl rfl rfl rfl) (passes_of rfl))
/-! ### isinstance of a caught exception -/
def excCB (K : PySem.W.Frag) (C : Addr) : Bool := decide (PySem.W.findIn K (.ref C) "__getattribute__" = some (some (.builtin "BaseException.__getattribute__"))) && (decide (PySem.W.findIn K (.ref C) "__getattr__" = some none) && (decide (PySem.W.subIn K (.ref C) (.type "BaseException") = some true) && (PySem.W.hasDictIn K C &&
  (decide (PySem.W.findIn K (.ref C) "__class__" = some (some (.builtin "object.__class__"))) && (decide (PySem.W.specialIn K (.builtin "object.__class__") "__get__" = some (some (.builtin "getset_descriptor.__get__"))) && (decide (PySem.W.takesIn K (.builtin "object.__class__") = some true) && decide (PySem.W.mroIn K C (.type "object") = some true)))))))
theorem excCB_ok {C : Addr} (h : excCB K C = true) : ExcC K C := by
  obtain ⟨h1, h⟩ := Bool.and_eq_true_iff.mp h
  obtain ⟨h2, h⟩ := Bool.and_eq_true_iff.mp h
  obtain ⟨h3, h⟩ := Bool.and_eq_true_iff.mp h
  obtain ⟨h4, h⟩ := Bool.and_eq_true_iff.mp h
  obtain ⟨h5, h⟩ := Bool.and_eq_true_iff.mp h
  obtain ⟨h6, h⟩ := Bool.and_eq_true_iff.mp h
  obtain ⟨h7, h8⟩ := Bool.and_eq_true_iff.mp h
  exact ⟨of_decide_eq_true h1, of_decide_eq_true h2, of_decide_eq_true h3, h4, of_decide_eq_true h5, of_decide_eq_true h6, of_decide_eq_true h7, of_decide_eq_true h8⟩
theorem ev_isE {a : Addr} {cn dn n : Str} {oe : Obj} {cls : Value} {dd : Option Addr} {pn : List (Addr × Obj)} {b : Bool} {p1 p2 p3 : Pos} (i : Nat) (C : ExcC X.K (He.ga X.K cn)) (hk : PySem.W.kitOne X.K (.ref (He.ga X.K cn)) (.ref (He.ga X.K dn)) = some b) (hz : Zc cls dd oe) (hf : ∃ vs, oe.data = .fields vs) (hσ : σ[i]? = some (some (.ref a))) (r : xr0 cn X.K cls dd)
    (hm : X.mg "isinstance" = none) (hD : X.mg dn = some (.ref (He.ga X.K dn)))
    (hi : X.N[i]? = some n := by rfl) (hv : Vis X.env.scope n := by first | exact Or.inl rfl | exact Or.inr (Or.inl rfl) | exact Or.inr (Or.inr rfl)) (hdn : (n == ("__debug__" : Str)) = false := by decide) (hcd : (n == ("__classdict__" : Str)) = false := by decide)
    (hg : Gl X "isinstance" := by rfl) (hgD : Gl X dn := by rfl) (hd : (dn == ("__debug__" : Str)) = false := by decide)
    (hs : starEach [.Name n p3, .Name dn p2] X.env = (false, eval (.Name n p3) X.env) :: starEach [.Name dn p2] X.env := by rfl) (hs2 : starEach [.Name dn p2] X.env = (false, eval (.Name dn p2) X.env) :: starEach [] X.env := by rfl)
    (hpl : (backTo pos (starEach [.Name dn p2] X.env)).any (·.1) = false := by rfl) : Ev (X.suite a ((a, oe) :: pn)) (.Call (.Name "isinstance" p1) [.Name n p3, .Name dn p2] [] pos) σ F H b := fun F1 H1 g Q q => by
  obtain ⟨e1, e2⟩ := r
  subst e1; subst e2
  exact GoE.of (pe_callB (X := X.suite a ((a, oe) :: pn)) (call_isE C hz hf) hg hm (by decide +kernel) (pa_cons (pe_var hi hv hdn hcd) (pa_cons (pe_glob (v := .ref (He.ga X.K dn)) hgD hD rfl hd) pa_nil hs2) hs) (by decide) (by decide) hs hpl)
    ⟨_, hσ, _, _, b, rfl, fun u z => z, hk, q _ F1 H1 (.refl g.fh) rfl⟩
theorem ev_isEB {a : Addr} {cn n : Str} {oe : Obj} {cls : Value} {dd : Option Addr} {pn : List (Addr × Obj)} {b : Bool} {T : String} {p1 p2 p3 : Pos} (i : Nat) (C : ExcC X.K (He.ga X.K cn)) (hk : PySem.W.kitOne X.K (.ref (He.ga X.K cn)) (.type T) = some b) (hz : Zc cls dd oe) (hf : ∃ vs, oe.data = .fields vs) (hσ : σ[i]? = some (some (.ref a))) (r : xr0 cn X.K cls dd)
    (hm : X.mg "isinstance" = none) (hT : X.mg (Str.ofString T) = none) (hbT : bootBuiltins (Str.ofString T) = some (.type T))
    (hi : X.N[i]? = some n := by rfl) (hv : Vis X.env.scope n := by first | exact Or.inl rfl | exact Or.inr (Or.inl rfl) | exact Or.inr (Or.inr rfl)) (hdn : (n == ("__debug__" : Str)) = false := by decide) (hcd : (n == ("__classdict__" : Str)) = false := by decide)
    (hg : Gl X "isinstance" := by rfl) (hgT : Gl X (Str.ofString T) := by rfl) (hn : (Str.ofString T) ≠ "__name__" := by decide) (hd : ((Str.ofString T) == ("__debug__" : Str)) = false := by decide)
    (hs : starEach [.Name n p3, .Name (Str.ofString T) p2] X.env = (false, eval (.Name n p3) X.env) :: starEach [.Name (Str.ofString T) p2] X.env := by rfl) (hs2 : starEach [.Name (Str.ofString T) p2] X.env = (false, eval (.Name (Str.ofString T) p2) X.env) :: starEach [] X.env := by rfl)
    (hpl : (backTo pos (starEach [.Name (Str.ofString T) p2] X.env)).any (·.1) = false := by rfl) : Ev (X.suite a ((a, oe) :: pn)) (.Call (.Name "isinstance" p1) [.Name n p3, .Name (Str.ofString T) p2] [] pos) σ F H b := fun F1 H1 g Q q => by
  obtain ⟨e1, e2⟩ := r
  subst e1; subst e2
  exact GoE.of (pe_callB (X := X.suite a ((a, oe) :: pn)) (call_isE C hz hf) hg hm (by decide +kernel) (pa_cons (pe_var hi hv hdn hcd) (pa_cons (pe_bltn hgT hT hbT (v := .ty T) rfl hn hd) pa_nil hs2) hs) (by decide) (by decide) hs hpl)
    ⟨_, hσ, _, _, b, rfl, fun u z => z, hk, q _ F1 H1 (.refl g.fh) rfl⟩
def Rs.get {ε ρ : Type} : Rs ε ρ → Option ρ
  | .v r => some r
  | .x _ => none
/-- a def that may raise, where it does not -/
theorem ev_callV {τ ε ρ : Type} [Ra τ] [Xk ε] [Rp ρ] {f : τ → Option (Rs ε ρ)} {y : τ} {o : Rs ε ρ} {r : ρ} {k : Nat} {fa : Addr} {fd : FuncData} {ps : List Str} {x : Str} {p : Pos} (Fn : FnOk X.prog X.w X.K X.mg X.base (L2.CX X.prog X.w) k fa fd ps (PrE X.K f)) (hr : Room k X.A) (hm : X.mg x = some (.ref fa))
    (hk : PySem.W.keepIn X.K (.ref fa) = true) (hb : Binds X.K fd ps []) (ha : EvA X (e :: es) σ F H y) (h : f y = some o) (h2 : Rs.get o = some r) (hg : Gl X x := by rfl) (hdb : (x == ("__debug__" : Str)) = false := by decide)
    (he : starEach (e :: es) X.env = (false, eval e X.env) :: starEach es X.env := by rfl) (hpl : (backTo pos (starEach es X.env)).any (·.1) = false := by rfl) (tk : Takes X (fun _ _ _ _ => False) := by exact takes_none5) : Ev X (.Call (.Name x p) (e :: es) [] pos) σ F H r := by
  cases o with
  | v r' => cases h2; exact EvX.ok (ex_call tk Fn hr hm hk hb ha h hg hdb he hpl)
  | x e => cases h2
/-! ### the beginning -/
theorem xr0.up {cn : Str} {F' H' : Hp} {cls : Value} {dd : Option Addr} (h : xr0 cn K cls dd) (_ : Gr F H F' H') : xr0 cn K cls dd := h
def unT (H : Hp) : Hp := fun b => match H b with
  | some (.tbl _) => none
  | o => o
theorem unT_of {b : Addr} {o : HO} (h : H b = some o) (n : ntb o) : unT H b = some o := by
  unfold unT; rw [h]; cases o <;> first | rfl | exact n.elim
theorem unT_same : L2.Same (unT H) H := fun b o h => by
  unfold unT at h
  split at h
  · cases h
  · exact h
theorem unT_seq {a : Addr} {xs : List V} (h : SqL K H a xs) : SqL K (unT H) a xs := by
  rcases h with (h | ⟨o, h⟩) | h
  · exact .inl (.inl (unT_of h trivial))
  · exact .inl (.inr ⟨o, unT_of h trivial⟩)
  · exact .inr h
theorem sm_start (h : ∀ P ∈ tabsG K, H P = some (.tbl #[])) : SmX K (unT H) H := ⟨unT_same, ⟨fun P hP => ⟨⟨#[], h P hP, True.intro, fun pos cv hc => by
  have z : codeAmong pos [] = some cv := hc
  simp [codeAmong] at z⟩, by unfold unT; rw [h P hP]⟩⟩⟩
end
end Gx

namespace Law
open PySem PySem.Spec PyProof.Rows L2 Gx
open Rp (rp)
open Ra (ra)

/-! ### the text -/
def top (i : Nat) : Stmt := PySem.Challenge.pw_furrow_k90_freed_and_no_turning.main.body.getD i (.Pass ⟨0, 0, 0, 0⟩)
abbrev s_cell_at : Stmt := top 19
abbrev s_stream : Stmt := top 21
abbrev s_steps : Stmt := top 23
abbrev s_number : Stmt := top 22
abbrev s_places : Stmt := top 24
abbrev s_leaves : Stmt := top 25
abbrev s_items : Stmt := top 26
abbrev s_groups : Stmt := top 27
abbrev s_path : Stmt := top 30
abbrev s_at : Stmt := top 28
abbrev s_item_at : Stmt := top 6
abbrev s_sweep_at : Stmt := top 7
abbrev s_swapped_change : Stmt := (defBody (top 11)).getD 3 (.Pass ⟨0, 0, 0, 0⟩)
abbrev s_each_deed : Stmt := top 9
abbrev s_put : Stmt := top 8
abbrev s_swapped : Stmt := top 11
abbrev s_joined : Stmt := top 12
abbrev s_parted : Stmt := top 13
abbrev s_turned : Stmt := top 14
abbrev s_deeds_in : Stmt := top 10
abbrev s_moved_change : Stmt := (defBody (top 15)).getD 4 (.Pass ⟨0, 0, 0, 0⟩)
abbrev s_moved : Stmt := top 15
abbrev s_cut_change : Stmt := (defBody (top 16)).getD 3 (.Pass ⟨0, 0, 0, 0⟩)
abbrev s_cut : Stmt := top 16
abbrev s_freed : Stmt := top 17
abbrev s_done : Stmt := top 33
abbrev s_refused : Stmt := top 34
abbrev s_law_change : Stmt := (defBody (top 35)).getD 7 (.Pass ⟨0, 0, 0, 0⟩)
abbrev s_changed : Stmt := top 32
abbrev s_whole : Stmt := top 20
abbrev s_kinds : Stmt := top 31
abbrev s_law : Stmt := top 35
/-! ### union Item -/
inductive UItem where
  | v_deed (b : Int) (c : (Tp (T2 Int Int)))
  | v_sweep (b : Bool) (c : Str) (d : (List UItem))
mutual
def UItem.R (K : PySem.W.Frag) (F : Hp) : UItem → V → Prop
  | .v_deed b c, v => ∃ p w0 w1 w2, v = .ref p ∧ TupF F p [w0, w1, w2] ∧ w0 = .str "deed" ∧ rp (α := Int) K F w1 b ∧ rp (α := (Tp (T2 Int Int))) K F w2 c
  | .v_sweep b c d, v => ∃ p w0 w1 w2 w3, v = .ref p ∧ TupF F p [w0, w1, w2, w3] ∧ w0 = .str "sweep" ∧ rp (α := Bool) K F w1 b ∧ rp (α := Str) K F w2 c ∧ (∃ q vs, w3 = .ref q ∧ TupF F q vs ∧ UItem.Rs K F d vs)
def UItem.Rs (K : PySem.W.Frag) (F : Hp) : List UItem → List V → Prop
  | [], vs => vs = []
  | x :: xs, vs => ∃ v r, vs = v :: r ∧ UItem.R K F x v ∧ UItem.Rs K F xs r
end
mutual
theorem UItem.R_mono {K : PySem.W.Frag} {F F2 : Hp} (s_ : L2.Same F F2) : ∀ (x : UItem) (v : V), UItem.R K F x v → UItem.R K F2 x v
  | .v_deed b c, v, h => by
    rw [UItem.R] at h ⊢
    obtain ⟨p, w0, w1, w2, e, t, h0, h1, h2⟩ := h
    exact ⟨p, w0, w1, w2, e, tupF_mono s_ t, h0, Rp.mono s_ h1, Rp.mono s_ h2⟩
  | .v_sweep b c d, v, h => by
    rw [UItem.R] at h ⊢
    obtain ⟨p, w0, w1, w2, w3, e, t, h0, h1, h2, ⟨q2, vs2, e2, t2, h3⟩⟩ := h
    exact ⟨p, w0, w1, w2, w3, e, tupF_mono s_ t, h0, Rp.mono s_ h1, Rp.mono s_ h2, ⟨q2, vs2, e2, tupF_mono s_ t2, UItem.Rs_mono s_ d _ h3⟩⟩
theorem UItem.Rs_mono {K : PySem.W.Frag} {F F2 : Hp} (s_ : L2.Same F F2) : ∀ (x : List UItem) (v : List V), UItem.Rs K F x v → UItem.Rs K F2 x v
  | [], vs, h => by rw [UItem.Rs] at h ⊢; exact h
  | x :: xs, vs, h => by
    rw [UItem.Rs] at h ⊢
    obtain ⟨v, r, e, h1, h2⟩ := h
    exact ⟨v, r, e, UItem.R_mono s_ x v h1, UItem.Rs_mono s_ xs r h2⟩
end
instance : Rp UItem := ⟨fun K F v x => UItem.R K F x v, fun s h => UItem.R_mono s _ _ h⟩
theorem UItem.Rs_iff {K : PySem.W.Frag} {F : Hp} : ∀ {xs : List UItem} {vs : List V}, UItem.Rs K F xs vs ↔ Rps K F vs xs
  | [], vs => by
    rw [UItem.Rs]
    exact ⟨fun h => h ▸ .nil, fun h => by cases h; rfl⟩
  | x :: xs, vs => by
    rw [UItem.Rs]
    constructor
    · rintro ⟨v, r, rfl, h1, h2⟩
      exact .cons h1 (UItem.Rs_iff.mp h2)
    · intro h
      cases h with
      | cons h1 h2 => exact ⟨_, _, rfl, h1, UItem.Rs_iff.mpr h2⟩
def UItem.tag : UItem → Str
  | .v_deed _ _ => "deed"
  | .v_sweep _ _ _ => "sweep"
def UItem.asv_deed : UItem → Option (T3 Str Int (Tp (T2 Int Int)))
  | .v_deed b c => some ⟨("deed" : Str), b, c⟩
  | _ => none
theorem UItem.ofv_deed {K : PySem.W.Frag} {F : Hp} {v : V} {b : Int} {c : (Tp (T2 Int Int))} : rp (α := (T3 Str Int (Tp (T2 Int Int)))) K F v ⟨("deed" : Str), b, c⟩ ↔ rp K F v (UItem.v_deed b c) := by
  show _ ↔ UItem.R K F _ v
  rw [UItem.R]
  constructor
  · rintro ⟨p, vs, e, t, w0, _, rfl, h0, w1, _, rfl, h1, w2, _, rfl, h2, rfl⟩
    exact ⟨p, w0, w1, w2, e, t, h0, h1, h2⟩
  · rintro ⟨p, w0, w1, w2, e, t, h0, h1, h2⟩
    exact ⟨p, _, e, t, w0, _, rfl, h0, w1, _, rfl, h1, w2, _, rfl, h2, rfl⟩
def UItem.asv_sweep : UItem → Option (T4 Str Bool Str (Tp UItem))
  | .v_sweep b c d => some ⟨("sweep" : Str), b, c, ⟨d⟩⟩
  | _ => none
theorem UItem.ofv_sweep {K : PySem.W.Frag} {F : Hp} {v : V} {b : Bool} {c : Str} {d : (Tp UItem)} : rp (α := (T4 Str Bool Str (Tp UItem))) K F v ⟨("sweep" : Str), b, c, d⟩ ↔ rp K F v (UItem.v_sweep b c d.l) := by
  show _ ↔ UItem.R K F _ v
  rw [UItem.R]
  constructor
  · rintro ⟨p, vs, e, t, w0, _, rfl, h0, w1, _, rfl, h1, w2, _, rfl, h2, w3, _, rfl, ⟨q3, vs3, e3, t3, h3⟩, rfl⟩
    exact ⟨p, w0, w1, w2, w3, e, t, h0, h1, h2, ⟨q3, vs3, e3, t3, UItem.Rs_iff.mpr h3⟩⟩
  · rintro ⟨p, w0, w1, w2, w3, e, t, h0, h1, h2, ⟨q3, vs3, e3, t3, h3⟩⟩
    exact ⟨p, _, e, t, w0, _, rfl, h0, w1, _, rfl, h1, w2, _, rfl, h2, w3, _, rfl, ⟨q3, vs3, e3, t3, UItem.Rs_iff.mp h3⟩, rfl⟩
section
variable {X : Cx} {e : Expr} {σ : L2.St} {F H : Hp} {x : UItem}
theorem UItem.evv_deed {t : (T3 Str Int (Tp (T2 Int Int)))} (h : Ev X e σ F H x) (he : x.asv_deed = some t) : Ev X e σ F H t := by
  cases x with
  | v_deed b c => cases he; exact h.re fun _ _ r => (UItem.ofv_deed).mpr r
  | v_sweep b c d => cases he
theorem UItem.mkv_deed {b : Int} {c : (Tp (T2 Int Int))} (h : Ev X e σ F H (T3.mk ("deed" : Str) b c)) : Ev X e σ F H (UItem.v_deed b c) := h.re fun _ _ r => UItem.ofv_deed.mp r
def UItem.inv_deed (t : (T3 Str Int (Tp (T2 Int Int)))) : Option UItem := if t.a = "deed" then some (UItem.v_deed t.b t.c) else none
theorem UItem.evinv_deed {t : (T3 Str Int (Tp (T2 Int Int)))} (h : Ev X e σ F H t) (he : UItem.inv_deed t = some x) : Ev X e σ F H x := by
  unfold UItem.inv_deed at he
  split at he
  · rename_i ha
    cases he
    obtain ⟨a, b, c⟩ := t
    have ha : a = "deed" := ha
    subst ha
    exact UItem.mkv_deed h
  · cases he
theorem UItem.evv_sweep {t : (T4 Str Bool Str (Tp UItem))} (h : Ev X e σ F H x) (he : x.asv_sweep = some t) : Ev X e σ F H t := by
  cases x with
  | v_deed b c => cases he
  | v_sweep b c d => cases he; exact h.re fun _ _ r => (UItem.ofv_sweep (d := ⟨d⟩)).mpr r
theorem UItem.mkv_sweep {b : Bool} {c : Str} {d : (Tp UItem)} (h : Ev X e σ F H (T4.mk ("sweep" : Str) b c d)) : Ev X e σ F H (UItem.v_sweep b c d.l) := h.re fun _ _ r => UItem.ofv_sweep.mp r
def UItem.inv_sweep (t : (T4 Str Bool Str (Tp UItem))) : Option UItem := if t.a = "sweep" then some (UItem.v_sweep t.b t.c t.d.l) else none
theorem UItem.evinv_sweep {t : (T4 Str Bool Str (Tp UItem))} (h : Ev X e σ F H t) (he : UItem.inv_sweep t = some x) : Ev X e σ F H x := by
  unfold UItem.inv_sweep at he
  split at he
  · rename_i ha
    cases he
    obtain ⟨a, b, c, d⟩ := t
    have ha : a = "sweep" := ha
    subst ha
    exact UItem.mkv_sweep h
  · cases he
theorem UItem.ev_tag {j : Nat} {p1 pos : Pos} (h : Ev X e σ F H x) : Ev X (.Subscript e (.Constant (.int 0) j p1) pos) σ F H x.tag := by
  cases x with
  | v_deed b c => exact ev_ixT (h.re fun _ _ r => (UItem.ofv_deed).mpr r) ev_int pj0
  | v_sweep b c d => exact ev_ixT (h.re fun _ _ r => (UItem.ofv_sweep (d := ⟨d⟩)).mpr r) ev_int pj0
end
instance : NN UItem := ⟨fun {K F x} h => by
  cases x with
  | v_deed b c => exact NN.nn (α := (T3 Str Int (Tp (T2 Int Int)))) ((UItem.ofv_deed).mpr h)
  | v_sweep b c d => exact NN.nn (α := (T4 Str Bool Str (Tp UItem))) ((UItem.ofv_sweep (d := ⟨d⟩)).mpr h)⟩
instance : Kd UItem := ⟨"tuple", fun {K F H v x} s h => by
  cases x with
  | v_deed b c => exact Kd.kd (α := (T3 Str Int (Tp (T2 Int Int)))) s ((UItem.ofv_deed).mpr h)
  | v_sweep b c d => exact Kd.kd (α := (T4 Str Bool Str (Tp UItem))) s ((UItem.ofv_sweep (d := ⟨d⟩)).mpr h)⟩
mutual
def UItem.D : UItem → PyData
  | .v_deed b c => .tuple [.str "deed", Pd.toD b, Pd.toD c]
  | .v_sweep b c d => .tuple [.str "sweep", Pd.toD b, Pd.toD c, .tuple (UItem.Ds d)]
def UItem.Ds : List UItem → List PyData
  | [] => []
  | x :: xs => UItem.D x :: UItem.Ds xs
end
mutual
theorem UItem.dp {K : PySem.W.Frag} {F : Hp} : ∀ (x : UItem) (v : V), UItem.R K F x v → Dp K F v (UItem.D x)
  | .v_deed b c, v, h => by
    rw [UItem.R] at h
    obtain ⟨p, w0, w1, w2, e, t, h0, h1, h2⟩ := h
    subst e; subst h0
    rw [UItem.D]
    exact .tup (SqT.of t) (.cons (.str _) (.cons (Pd.dp h1) (.cons (Pd.dp h2) .nil)))
  | .v_sweep b c d, v, h => by
    rw [UItem.R] at h
    obtain ⟨p, w0, w1, w2, w3, e, t, h0, h1, h2, ⟨q2, vs2, e2, t2, h3⟩⟩ := h
    subst e; subst h0; subst e2
    rw [UItem.D]
    exact .tup (SqT.of t) (.cons (.str _) (.cons (Pd.dp h1) (.cons (Pd.dp h2) (.cons (.tup (SqT.of t2) (UItem.dps d _ h3)) .nil))))
theorem UItem.dps {K : PySem.W.Frag} {F : Hp} : ∀ (x : List UItem) (v : List V), UItem.Rs K F x v → DpAll K F v (UItem.Ds x)
  | [], vs, h => by rw [UItem.Rs] at h; subst h; rw [UItem.Ds]; exact .nil
  | x :: xs, vs, h => by
    rw [UItem.Rs] at h
    obtain ⟨v, r, e, h1, h2⟩ := h
    subst e
    rw [UItem.Ds]
    exact .cons (UItem.dp x v h1) (UItem.dps xs r h2)
end
mutual
theorem UItem.eqv : ∀ x y : UItem, PyData.eqv (UItem.D x) (UItem.D y) = true ↔ x = y
  | .v_deed b1 c1, .v_deed b2 c2 => by
    simp [UItem.D, PyData.eqv, PyData.eqvAll, Pd.eq]
  | .v_deed b1 c1, .v_sweep b2 c2 d2 => by
    have h_ : ¬ (("deed" : Str) = "sweep") := by decide
    simp [UItem.D, PyData.eqv, PyData.eqvAll, h_]
  | .v_sweep b1 c1 d1, .v_deed b2 c2 => by
    have h_ : ¬ (("sweep" : Str) = "deed") := by decide
    simp [UItem.D, PyData.eqv, PyData.eqvAll, h_]
  | .v_sweep b1 c1 d1, .v_sweep b2 c2 d2 => by
    simp [UItem.D, PyData.eqv, PyData.eqvAll, Pd.eq, UItem.eqvs d1 d2]
theorem UItem.eqvs : ∀ x y : List UItem, PyData.eqvAll (UItem.Ds x) (UItem.Ds y) = true ↔ x = y
  | [], [] => by simp [UItem.Ds, PyData.eqvAll]
  | [], _ :: _ => by simp [UItem.Ds, PyData.eqvAll]
  | _ :: _, [] => by simp [UItem.Ds, PyData.eqvAll]
  | x :: xs, y :: ys => by
    rw [UItem.Ds, UItem.Ds, PyData.eqvAll, Bool.and_eq_true, UItem.eqv x y, UItem.eqvs xs ys, List.cons.injEq]
end
instance : Pd UItem := ⟨UItem.D, fun {K F v x} h => UItem.dp x v h, UItem.eqv⟩
instance : PdO UItem := ⟨fun x h => by cases x <;> (simp only [Pd.toD, UItem.D] at h; cases h)⟩
instance : DecidableEq UItem := fun x y => if h : PyData.eqv (UItem.D x) (UItem.D y) = true then isTrue ((UItem.eqv x y).mp h) else isFalse fun e => h ((UItem.eqv x y).mpr e)
mutual
theorem UItem.R_flat {K : PySem.W.Frag} {F : Hp} {l : Addr} (s_ : (∀ xs, ¬ F l = some (.tup xs)) ∧ (∀ o xs, ¬ F l = some (.frz o (.tup xs)))) : ∀ (x : UItem) (v : V), UItem.R K F x v → UItem.R K (er F l) x v
  | .v_deed b c, v, h => by
    rw [UItem.R] at h ⊢
    obtain ⟨p, w0, w1, w2, e, t, h0, h1, h2⟩ := h
    exact ⟨p, w0, w1, w2, e, er_seqT s_.1 s_.2 t, h0, Flat.fl (α := Int) s_.1 s_.2 h1, Flat.fl (α := (Tp (T2 Int Int))) s_.1 s_.2 h2⟩
  | .v_sweep b c d, v, h => by
    rw [UItem.R] at h ⊢
    obtain ⟨p, w0, w1, w2, w3, e, t, h0, h1, h2, ⟨q2, vs2, e2, t2, h3⟩⟩ := h
    exact ⟨p, w0, w1, w2, w3, e, er_seqT s_.1 s_.2 t, h0, Flat.fl (α := Bool) s_.1 s_.2 h1, Flat.fl (α := Str) s_.1 s_.2 h2, ⟨q2, vs2, e2, er_seqT s_.1 s_.2 t2, UItem.Rs_flat s_ d _ h3⟩⟩
theorem UItem.Rs_flat {K : PySem.W.Frag} {F : Hp} {l : Addr} (s_ : (∀ xs, ¬ F l = some (.tup xs)) ∧ (∀ o xs, ¬ F l = some (.frz o (.tup xs)))) : ∀ (x : List UItem) (v : List V), UItem.Rs K F x v → UItem.Rs K (er F l) x v
  | [], vs, h => by rw [UItem.Rs] at h ⊢; exact h
  | x :: xs, vs, h => by
    rw [UItem.Rs] at h ⊢
    obtain ⟨v, r, e, h1, h2⟩ := h
    exact ⟨v, r, e, UItem.R_flat s_ x v h1, UItem.Rs_flat s_ xs r h2⟩
end
instance : Flat UItem := ⟨fun {K F l v x} h1 h2 h => UItem.R_flat ⟨h1, h2⟩ x v h⟩
/-! ### what is raised -/
inductive Xn where
  | NoTurning
def Xn.R (K : PySem.W.Frag) (F H : Hp) (cls : Value) (dd : Option Addr) : Xn → Prop
  | .NoTurning => xr0 "NoTurning" K cls dd
instance : Xk Xn := ⟨Xn.R⟩
/-! ### mirrors -/
def m_cell_at (x_script : (List Int)) (x_k : Int) : Option Int :=
  if (decide (x_k < (x_script.length : Int))) = true then (L2.atI x_script x_k).bind fun t1 => some t1 else some (0 : Int)
def m_stream (x_cell : Int) (x_many : Int) : Option (List Int) :=
  (some ([] : List Int)).bind fun x_found => (some ((x_cell % (2147483647 : Int)) + (48271 : Int))).bind fun x_number_here => (rngG (x_many + (1 : Int))).bind fun t1 => (loopN (fun (b2 : (Int × (List Int))) (x_k : Int) => (mulG b2.1 b2.1).bind fun t6 => (some (((t6 + ((48271 : Int) * b2.1)) + x_k) % (2147483647 : Int))).bind fun x_number_here => (app b2.2 x_number_here).bind fun t7 => some (x_number_here, t7)) (x_number_here, x_found) t1).bind fun (b8 : (Int × (List Int))) => some (cut b8.2 (some (1 : Int)) none)
def m_steps (x_cells : (List Int)) : Option (List (T3 (List (T2 Str Bool)) (List Int) Int)) :=
  (some ([] : List (T2 Str Bool))).bind fun x_opened => (some [(0 : Int)]).bind fun x_path_here => (some ([] : List (T3 (List (T2 Str Bool)) (List Int) Int))).bind fun x_found => (catG x_cells [((4 : Int) + ((5 : Int) * (x_cells.length : Int)))]).bind fun t1 => (loopM (ρ := (List (T3 (List (T2 Str Bool)) (List Int) Int))) (fun (b2 : ((List (T2 Str Bool)) × (List Int) × (List (T3 (List (T2 Str Bool)) (List Int) Int)))) (x_cell : Int) => if (decide ((b2.2.2.length : Int) = (6 : Int))) = true then some (Lp.bk (b2.1, b2.2.1, b2.2.2)) else (compG (fun (x_one : (T2 Str Bool)) => if (!x_one.b) = true then some (some x_one) else some none) b2.1).bind fun t6 => (some (t6.length : Int)).bind fun x_whole_here => (m_stream x_cell (1 : Int)).bind fun t7 => (L2.atI t7 (0 : Int)).bind fun t8 => (some t8).bind fun x_x => (L2.atI [("up" : Str), ("down" : Str), ("any" : Str)] (x_x % (3 : Int))).bind fun t9 => (some t9).bind fun x_way => if ((decide ((x_cell % (5 : Int)) < (2 : Int))) && (decide ((b2.1.length : Int) < (6 : Int)))) = true then (some ((decide (x_whole_here = (3 : Int))) || ((decide (((x_x / (3 : Int)) % (3 : Int)) = (0 : Int))) && ((decide ((0 : Int) < x_whole_here)) || (decide ((b2.1.length : Int) < (5 : Int))))))).bind fun x_is_cut => (catG b2.1 [(T2.mk x_way x_is_cut)]).bind fun t10 => (some t10).bind fun x_opened => (catG b2.2.1 [(0 : Int)]).bind fun t11 => (some t11).bind fun x_path_here => some (Lp.nx (x_opened, x_path_here, b2.2.2)) else (if (decide ((x_cell % (5 : Int)) = (2 : Int))) = true then (if (!b2.1.isEmpty) = true then (L2.atI b2.2.1 (-(1 : Int))).bind fun t12 => some (decide ((0 : Int) < t12)) else some false).bind fun t13 => some t13 else some false).bind fun t14 => if t14 = true then (some (cut b2.1 none (some (-(1 : Int))))).bind fun x_opened => (L2.atI b2.2.1 (-(2 : Int))).bind fun t15 => (catG (cut b2.2.1 none (some (-(2 : Int)))) [(t15 + (1 : Int))]).bind fun t16 => (some t16).bind fun x_path_here => some (Lp.nx (x_opened, x_path_here, b2.2.2)) else (if ((!b2.1.isEmpty) && (decide (x_whole_here = (0 : Int)))) = true then (catG b2.1 [(T2.mk x_way false)]).bind fun t19 => (some t19).bind fun x_opened => (catG b2.2.1 [(0 : Int)]).bind fun t20 => (some t20).bind fun x_path_here => some (x_opened, x_path_here) else some (b2.1, b2.2.1)).bind fun (b17 : ((List (T2 Str Bool)) × (List Int))) => (app b2.2.2 (T3.mk b17.1 (cut b17.2 none (some (-(1 : Int)))) x_x)).bind fun t21 => (L2.atI b17.2 (-(1 : Int))).bind fun t22 => (catG (cut b17.2 none (some (-(1 : Int)))) [(t22 + (1 : Int))]).bind fun t23 => (some t23).bind fun x_path_here => some (Lp.nx (b17.1, x_path_here, t21))) (x_opened, x_path_here, x_found) t1).bind fun o4 => o4.thn (fun (b24 : ((List (T2 Str Bool)) × (List Int) × (List (T3 (List (T2 Str Bool)) (List Int) Int)))) => some b24.2.2) (fun (r_ : (List (T3 (List (T2 Str Bool)) (List Int) Int))) => some r_)
def m_number (x_cell : Int) (x_far : Int) : Option Int :=
  if (decide ((x_cell % (3 : Int)) = (0 : Int))) = true then some (((x_cell / (3 : Int)) % (7 : Int)) - (3 : Int)) else (modG (x_cell / (3 : Int)) (((2 : Int) * x_far) + (1 : Int))).bind fun t1 => some (t1 - x_far)
def m_places (x_opened : (List (T2 Str Bool))) (x_cell : Int) : Option (List (T2 Int Int)) :=
  (m_stream x_cell (14 : Int)).bind fun t1 => (some t1).bind fun x_xs => (compG (fun (x_one : (T2 Str Bool)) => if (!x_one.b) = true then some (some x_one) else some none) x_opened).bind fun t2 => (some (t2.length : Int)).bind fun x_whole_here => (some (0 : Int)).bind fun x_seen => (some ([] : List (T2 Int Int))).bind fun x_found => (rngG (x_opened.length : Int)).bind fun t3 => (loopN (fun (b4 : (Int × (List (T2 Int Int)))) (x_k : Int) => (L2.atI x_xs x_k).bind fun t8 => (modG t8 (if x_whole_here > (1 : Int) then x_whole_here else (1 : Int))).bind fun t9 => (some t9).bind fun x_at_here => (L2.atI x_opened x_k).bind fun t10 => (if (!t10.b) = true then (L2.atI x_xs (13 : Int)).bind fun t13 => (modG (t13 + b4.1) x_whole_here).bind fun t14 => (some t14).bind fun x_at_here => (some (b4.1 + (1 : Int))).bind fun x_seen => some (x_at_here, x_seen) else some (x_at_here, b4.1)).bind fun (b11 : (Int × Int)) => (L2.atI x_xs (12 : Int)).bind fun t15 => (if (decide ((t15 % (2 : Int)) = (0 : Int))) = true then (some ((x_whole_here - (1 : Int)) - b11.1)).bind fun x_at_here => some x_at_here else some b11.1).bind fun (b16 : Int) => (L2.atI x_xs (x_k + (6 : Int))).bind fun t18 => (L2.atI x_xs x_k).bind fun t19 => (mulG t18 t19).bind fun t20 => (m_number t20 (1000000000000000000 : Int)).bind fun t21 => (app b4.2 (T2.mk b16 t21)).bind fun t22 => some (b11.2, t22)) (x_seen, x_found) t3).bind fun (b23 : (Int × (List (T2 Int Int)))) => some b23.2
def m_leaves (x_cells : (List Int)) (x_turn : Int) : Option (List (T4 Int Int (List (T2 Bool Str)) (List (T2 Int Int)))) :=
  (m_steps x_cells).bind fun t1 => (some t1).bind fun x_steps_here => (some ([] : List (T4 Int Int (List (T2 Bool Str)) (List (T2 Int Int))))).bind fun x_found => (some ([] : List Int)).bind fun x_last => (rngG (x_steps_here.length : Int)).bind fun t2 => (loopN (fun (b3 : ((List (T4 Int Int (List (T2 Bool Str)) (List (T2 Int Int)))) × (List Int))) (x_k : Int) => (modG (x_k + (x_turn / (2 : Int))) (x_steps_here.length : Int)).bind fun t7 => (some t7).bind fun x_number_here => (if (decide ((x_turn % (2 : Int)) = (1 : Int))) = true then (some (((x_steps_here.length : Int) - (1 : Int)) - x_number_here)).bind fun x_number_here => some x_number_here else some x_number_here).bind fun (b8 : Int) => (L2.atI x_steps_here x_k).bind fun t10 => (some t10).bind fun i11 => (some (0 : Int)).bind fun x_share => (whileN (fun (b14 : Int) => (if (decide (b14 < (if (b3.2.length : Int) < (i11.b.length : Int) then (b3.2.length : Int) else (i11.b.length : Int)))) = true then (L2.atI i11.b b14).bind fun t17 => (L2.atI b3.2 b14).bind fun t18 => some (decide (t17 = t18)) else some false).bind fun t19 => some t19) (fun (b14 : Int) => (some (b14 + (1 : Int))).bind fun x_share => some x_share) 100000 x_share).bind fun (b20 : Int) => (compG (fun (i21 : (T2 Str Bool)) => some (some (T2.mk i21.b i21.a))) i11.a).bind fun t25 => (some t25).bind fun x_ways => (m_places i11.a i11.c).bind fun t26 => (app b3.1 (T4.mk b8 b20 x_ways t26)).bind fun t27 => (some i11.b).bind fun x_last => some (t27, x_last)) (x_found, x_last) t2).bind fun (b28 : ((List (T4 Int Int (List (T2 Bool Str)) (List (T2 Int Int)))) × (List Int))) => some b28.1
def m_items : Nat → (List (T4 Int Int (List (T2 Bool Str)) (List (T2 Int Int)))) → Int → Option (Tp UItem)
  | 0, _, _ => none
  | n_ + 1, x_leaves_here, x_depth =>
    (some ([] : List UItem)).bind fun x_items_here => (some (0 : Int)).bind fun x_at_here => (whileN (fun (b1 : ((List UItem) × Int)) => some (decide (b1.2 < (x_leaves_here.length : Int)))) (fun (b1 : ((List UItem) × Int)) => (some (b1.2 + (1 : Int))).bind fun x_upto => (L2.atI x_leaves_here b1.2).bind fun t4 => (some t4).bind fun i5 => (if (decide ((i5.c.length : Int) = x_depth)) = true then (app b1.1 (UItem.v_deed i5.a (Tp.mk i5.d))).bind fun t10 => some (t10, x_upto) else (whileN (fun (b11 : Int) => (if (decide (b11 < (x_leaves_here.length : Int))) = true then (L2.atI x_leaves_here b11).bind fun t14 => some (decide (x_depth < t14.b)) else some false).bind fun t15 => some t15) (fun (b11 : Int) => (some (b11 + (1 : Int))).bind fun x_upto => some x_upto) 100000 x_upto).bind fun (b16 : Int) => (m_items n_ (cut x_leaves_here (some b1.2) (some b16)) (x_depth + (1 : Int))).bind fun t17 => (some t17).bind fun x_inner => (L2.atI i5.c x_depth).bind fun t18 => (L2.atI i5.c x_depth).bind fun t19 => (app b1.1 (UItem.v_sweep t18.a t19.b x_inner.l)).bind fun t20 => some (t20, b16)).bind fun (b8 : ((List UItem) × Int)) => (some b8.2).bind fun x_at_here => some (b8.1, x_at_here)) 100000 (x_items_here, x_at_here)).bind fun (b21 : ((List UItem) × Int)) => some (Tp.mk b21.1)
def m_groups : Nat → (List (T4 Int Int (List (T2 Bool Str)) (List (T2 Int Int)))) → (Tp Int) → Int → Option (List (T4 (Tp Int) Int Int Bool))
  | 0, _, _, _ => none
  | n_ + 1, x_leaves_here, x_path_here, x_first =>
    (some ([] : List (T4 (Tp Int) Int Int Bool))).bind fun x_found => (some (0 : Int)).bind fun x_at_here => (some (0 : Int)).bind fun x_many => (whileN (fun (b1 : ((List (T4 (Tp Int) Int Int Bool)) × Int × Int)) => some (decide (b1.2.2 < (x_leaves_here.length : Int)))) (fun (b1 : ((List (T4 (Tp Int) Int Int Bool)) × Int × Int)) => (some (b1.2.2 + (1 : Int))).bind fun x_upto => (catT x_path_here (Tp.mk ([b1.2.1] : List Int))).bind fun t4 => (some t4).bind fun x_here => (L2.atI x_leaves_here b1.2.2).bind fun t5 => (if (decide ((t5.c.length : Int) = (x_path_here.l.length : Int))) = true then (app b1.1 (T4.mk x_here (x_first + b1.2.2) (x_first + x_upto) false)).bind fun t8 => some (t8, x_upto) else (whileN (fun (b9 : Int) => (if (decide (b9 < (x_leaves_here.length : Int))) = true then (L2.atI x_leaves_here b9).bind fun t12 => some (decide ((x_path_here.l.length : Int) < t12.b)) else some false).bind fun t13 => some t13) (fun (b9 : Int) => (some (b9 + (1 : Int))).bind fun x_upto => some x_upto) 100000 x_upto).bind fun (b14 : Int) => (app b1.1 (T4.mk x_here (x_first + b1.2.2) (x_first + b14) true)).bind fun t15 => (m_groups n_ (cut x_leaves_here (some b1.2.2) (some b14)) x_here (x_first + b1.2.2)).bind fun t16 => (catG t15 t16).bind fun t17 => some (t17, b14)).bind fun (b6 : ((List (T4 (Tp Int) Int Int Bool)) × Int)) => (some (b1.2.1 + (1 : Int))).bind fun x_many => (some b6.2).bind fun x_at_here => some (b6.1, x_many, x_at_here)) 100000 (x_found, x_many, x_at_here)).bind fun (b18 : ((List (T4 (Tp Int) Int Int Bool)) × Int × Int)) => some b18.1
def m_path (x_groups_here : (List (T4 (Tp Int) Int Int Bool))) (x_fit : (List (T4 (Tp Int) Int Int Bool))) (x_cell : Int) (x_way : Int) : Option (Tp Int) :=
  (modG x_cell (x_groups_here.length : Int)).bind fun t1 => (L2.atI x_groups_here t1).bind fun t2 => (some t2.a).bind fun x_path_here => (if ((decide ((x_way % (8 : Int)) ∈ (Tp.mk ([(0 : Int), (2 : Int), (4 : Int)] : List Int)).l)) && (!x_fit.isEmpty)) = true then (modG x_cell (x_fit.length : Int)).bind fun t5 => (L2.atI x_fit t5).bind fun t6 => (some t6.a).bind fun x_path_here => some x_path_here else some x_path_here).bind fun (b3 : (Tp Int)) => (modG (x_cell / (2 : Int)) (b3.l.length : Int)).bind fun t7 => (some t7).bind fun x_at_here => if (decide ((x_way % (8 : Int)) = (1 : Int))) = true then (L2.atI b3.l (-(1 : Int))).bind fun t8 => (catT (Tp.mk (cut b3.l none (some (-(1 : Int))))) (Tp.mk ([(t8 + (1 : Int))] : List Int))).bind fun t9 => some t9 else if (decide ((x_way % (8 : Int)) = (3 : Int))) = true then (catT (Tp.mk (cut b3.l none (some x_at_here))) (Tp.mk ([(((0 : Int) - (1 : Int)) - (x_cell % (2 : Int)))] : List Int))).bind fun t10 => (catT t10 (Tp.mk (cut b3.l (some (x_at_here + (1 : Int))) none))).bind fun t11 => some t11 else if (decide ((x_way % (8 : Int)) = (5 : Int))) = true then (catT b3 (Tp.mk ([(x_cell % (3 : Int))] : List Int))).bind fun t12 => some t12 else if (decide ((x_way % (8 : Int)) = (7 : Int))) = true then (L2.atI b3.l x_at_here).bind fun t13 => (catT (Tp.mk (cut b3.l none (some x_at_here))) (Tp.mk ([(t13 + (6 : Int))] : List Int))).bind fun t14 => (catT t14 (Tp.mk (cut b3.l (some (x_at_here + (1 : Int))) none))).bind fun t15 => some t15 else some b3
def m_at (x_groups_here : (List (T4 (Tp Int) Int Int Bool))) (x_path_here : (Tp Int)) : Option (T4 (Tp Int) Int Int Bool) :=
  (loopM (ρ := (T4 (Tp Int) Int Int Bool)) (fun (b1 : Unit) (x_one : (T4 (Tp Int) Int Int Bool)) => (eqG x_one.a x_path_here).bind fun t5 => if t5 = true then some (Lp.rt x_one) else some (Lp.nx ())) () x_groups_here).bind fun o3 => o3.thn (fun (b6 : Unit) => some (T4.mk x_path_here (0 : Int) (0 : Int) false)) (fun (r_ : (T4 (Tp Int) Int Int Bool)) => some r_)
def m_item_at (x_plan : (Tp UItem)) (x_path : (Tp Int)) : Option (Option UItem) :=
  (some x_plan).bind fun x_items => (some (none : (Option UItem))).bind fun x_found => (loopM (ρ := (Option UItem)) (fun (b1 : ((Option UItem) × (Tp UItem))) (x_at : Int) => if (!((decide ((0 : Int) ≤ x_at)) && (decide (x_at < (b1.2.l.length : Int))))) = true then some (Lp.rt (none : (Option UItem))) else (L2.atI b1.2.l x_at).bind fun t5 => (some (some t5)).bind fun x_found => (some (Tp.mk ([] : List UItem))).bind fun x_items => (x_found).bind fun t6 => if (decide (t6.tag = ("sweep" : Str))) = true then (x_found).bind fun t7 => (t7.asv_sweep).bind fun t8 => (some t8.d).bind fun x_items => some (Lp.nx (x_found, x_items)) else some (Lp.nx (x_found, x_items))) (x_found, x_items) x_path.l).bind fun o3 => o3.thn (fun (b9 : ((Option UItem) × (Tp UItem))) => some b9.1) (fun (r_ : (Option UItem)) => some r_)
def m_sweep_at (x_plan : (Tp UItem)) (x_path : (Tp Int)) : Option (Rs Xn UItem) :=
  (m_item_at x_plan x_path).bind fun t1 => (some t1).bind fun x_found => (match x_found with | none => some (Rs.x Xn.NoTurning) | some x_found => if (!decide (x_found.tag = ("sweep" : Str))) = true then some (Rs.x Xn.NoTurning) else some (Rs.v x_found))
def m_swapped_change (x_level : Int) (x_k : Int) (x_places : (Tp (T2 Int Int))) : Option (Tp (T2 Int Int)) :=
  (L2.atI x_places.l (x_level + (1 : Int))).bind fun t1 => (L2.atI x_places.l x_level).bind fun t2 => (catT (Tp.mk (cut x_places.l none (some x_level))) (Tp.mk ([t1, t2] : List (T2 Int Int)))).bind fun t3 => (catT t3 (Tp.mk (cut x_places.l (some (x_level + (2 : Int))) none))).bind fun t4 => some t4
def m_each_deed : Nat → (Tp UItem) → (Int × (Tp (T2 Int Int)) × Unit → Option (Tp (T2 Int Int))) → Option (Tp UItem)
  | 0, _, _ => none
  | n_ + 1, x_items, x_change =>
    (some ([] : List UItem)).bind fun x_found => (loopN (fun (b1 : (List UItem)) (x_item : UItem) => if (decide (x_item.tag = ("deed" : Str))) = true then (x_item.asv_deed).bind fun t5 => (x_item.asv_deed).bind fun t6 => (x_item.asv_deed).bind fun t7 => (x_change (t6.b, t7.c, ())).bind fun t8 => (app b1 (UItem.v_deed t5.b t8)).bind fun t9 => some t9 else (x_item.asv_sweep).bind fun t10 => (x_item.asv_sweep).bind fun t11 => (x_item.asv_sweep).bind fun t12 => (m_each_deed n_ t12.d x_change).bind fun t13 => (app b1 (UItem.v_sweep t10.b t11.c t13.l)).bind fun t14 => some t14) x_found x_items.l).bind fun (b15 : (List UItem)) => some (Tp.mk b15)
def m_put : Nat → (Tp UItem) → (Tp Int) → Int → (Tp UItem) → Option (Tp UItem)
  | 0, _, _, _, _ => none
  | n_ + 1, x_items, x_path, x_many, x_made =>
    (L2.atI x_path.l (0 : Int)).bind fun t1 => (some t1).bind fun x_at => if (decide ((x_path.l.length : Int) = (1 : Int))) = true then (catT (Tp.mk (cut x_items.l none (some x_at))) x_made).bind fun t2 => (catT t2 (Tp.mk (cut x_items.l (some (x_at + x_many)) none))).bind fun t3 => some t3 else (L2.atI x_items.l x_at).bind fun t4 => (t4.asv_sweep).bind fun t5 => (some t5).bind fun i6 => (m_put n_ i6.d (Tp.mk (cut x_path.l (some (1 : Int)) none)) x_many x_made).bind fun t9 => (UItem.inv_sweep (T4.mk i6.a i6.b i6.c t9)).bind fun t10 => (catT (Tp.mk (cut x_items.l none (some x_at))) (Tp.mk ([t10] : List UItem))).bind fun t11 => (catT t11 (Tp.mk (cut x_items.l (some (x_at + (1 : Int))) none))).bind fun t12 => some t12
def m_swapped (x_plan : (Tp UItem)) (x_path : (Tp Int)) : Option (Rs Xn (Tp UItem)) :=
  (m_sweep_at x_plan x_path).bind fun t1 => (match t1 with | Rs.v t2 => (t2.asv_sweep).bind fun t4 => (some t4).bind fun i5 => (if (!decide ((i5.d.l.length : Int) = (1 : Int))) = true then some true else (L2.atI i5.d.l (0 : Int)).bind fun t8 => some (!decide (t8.tag = ("sweep" : Str)))).bind fun t9 => if t9 = true then some (Rs.x Xn.NoTurning) else (some ((x_path.l.length : Int) - (1 : Int))).bind fun x_level => (L2.atI i5.d.l (0 : Int)).bind fun t10 => (some t10).bind fun x_inner => (x_inner.asv_sweep).bind fun t11 => (m_each_deed 10 t11.d (fun a_ => m_swapped_change x_level a_.1 a_.2.1)).bind fun t12 => (UItem.inv_sweep (T4.mk i5.a i5.b i5.c t12)).bind fun t13 => (some (Tp.mk ([t13] : List UItem))).bind fun x_within => (x_inner.asv_sweep).bind fun t14 => (x_inner.asv_sweep).bind fun t15 => (m_put 10 x_plan x_path (1 : Int) (Tp.mk ([(UItem.v_sweep t14.b t15.c x_within.l)] : List UItem))).bind fun t16 => some (Rs.v t16) | Rs.x e3 => some (Rs.x e3))
def m_joined (x_plan : (Tp UItem)) (x_path : (Tp Int)) : Option (Rs Xn (Tp UItem)) :=
  (m_sweep_at x_plan x_path).bind fun t1 => (match t1 with | Rs.v t2 => (some t2).bind fun x_one => (L2.atI x_path.l (-(1 : Int))).bind fun t4 => (catT (Tp.mk (cut x_path.l none (some (-(1 : Int))))) (Tp.mk ([(t4 + (1 : Int))] : List Int))).bind fun t5 => (m_sweep_at x_plan t5).bind fun t6 => (match t6 with | Rs.v t7 => (some t7).bind fun x_other => (x_one.asv_sweep).bind fun t9 => (x_other.asv_sweep).bind fun t10 => (if (!decide (t9.b = t10.b)) = true then some true else (x_one.asv_sweep).bind fun t11 => (x_other.asv_sweep).bind fun t12 => some (!decide (t11.c = t12.c))).bind fun t13 => if t13 = true then some (Rs.x Xn.NoTurning) else (x_one.asv_sweep).bind fun t14 => (x_one.asv_sweep).bind fun t15 => (x_one.asv_sweep).bind fun t16 => (x_other.asv_sweep).bind fun t17 => (catT t16.d t17.d).bind fun t18 => (m_put 10 x_plan x_path (2 : Int) (Tp.mk ([(UItem.v_sweep t14.b t15.c t18.l)] : List UItem))).bind fun t19 => some (Rs.v t19) | Rs.x e8 => some (Rs.x e8)) | Rs.x e3 => some (Rs.x e3))
def m_parted (x_plan : (Tp UItem)) (x_path : (Tp Int)) (x_n : Int) : Option (Rs Xn (Tp UItem)) :=
  (m_sweep_at x_plan x_path).bind fun t1 => (match t1 with | Rs.v t2 => (t2.asv_sweep).bind fun t4 => (some t4).bind fun i5 => if (!((decide ((1 : Int) ≤ x_n)) && (decide (x_n < (i5.d.l.length : Int))))) = true then some (Rs.x Xn.NoTurning) else (UItem.inv_sweep (T4.mk i5.a i5.b i5.c (Tp.mk (cut i5.d.l none (some x_n))))).bind fun t8 => (UItem.inv_sweep (T4.mk i5.a i5.b i5.c (Tp.mk (cut i5.d.l (some x_n) none)))).bind fun t9 => (m_put 10 x_plan x_path (1 : Int) (Tp.mk ([t8, t9] : List UItem))).bind fun t10 => some (Rs.v t10) | Rs.x e3 => some (Rs.x e3))
def m_turned (x_plan : (Tp UItem)) (x_path : (Tp Int)) : Option (Rs Xn (Tp UItem)) :=
  (m_sweep_at x_plan x_path).bind fun t1 => (match t1 with | Rs.v t2 => (t2.asv_sweep).bind fun t4 => (some t4).bind fun i5 => if (decide (i5.c = ("any" : Str))) = true then some (Rs.x Xn.NoTurning) else if (decide (i5.c = ("up" : Str))) = true then (UItem.inv_sweep (T4.mk i5.a i5.b ("down" : Str) i5.d)).bind fun t8 => (m_put 10 x_plan x_path (1 : Int) (Tp.mk ([t8] : List UItem))).bind fun t9 => some (Rs.v t9) else (UItem.inv_sweep (T4.mk i5.a i5.b ("up" : Str) i5.d)).bind fun t10 => (m_put 10 x_plan x_path (1 : Int) (Tp.mk ([t10] : List UItem))).bind fun t11 => some (Rs.v t11) | Rs.x e3 => some (Rs.x e3))
def m_deeds_in : Nat → (Tp UItem) → Option (List (T2 Int (Tp (T2 Int Int))))
  | 0, _ => none
  | n_ + 1, x_items =>
    (some ([] : List (T2 Int (Tp (T2 Int Int))))).bind fun x_found => (loopN (fun (b1 : (List (T2 Int (Tp (T2 Int Int))))) (x_item : UItem) => if (decide (x_item.tag = ("deed" : Str))) = true then (x_item.asv_deed).bind fun t5 => (x_item.asv_deed).bind fun t6 => (app b1 (T2.mk t5.b t6.c)).bind fun t7 => some t7 else (x_item.asv_sweep).bind fun t8 => (m_deeds_in n_ t8.d).bind fun t9 => (catG b1 t9).bind fun t10 => some t10) x_found x_items.l).bind fun (b11 : (List (T2 Int (Tp (T2 Int Int))))) => some b11
def m_moved_change (x_k : Int) (x_level : Int) (x_shifts : (List Int)) (x_number : Int) (x_places : (Tp (T2 Int Int))) : Option (Tp (T2 Int Int)) :=
  if (!decide (x_number = x_k)) = true then some x_places else (L2.atI x_places.l x_level).bind fun t1 => (L2.atI x_shifts (0 : Int)).bind fun t2 => (catT (Tp.mk (cut x_places.l none (some x_level))) (Tp.mk ([(T2.mk t1.a t2)] : List (T2 Int Int)))).bind fun t3 => (catT t3 (Tp.mk (cut x_places.l (some (x_level + (1 : Int))) none))).bind fun t4 => some t4
def m_moved (x_plan : (Tp UItem)) (x_path : (Tp Int)) (x_k : Int) (x_n : Int) : Option (Rs Xn (Tp UItem)) :=
  (m_sweep_at x_plan x_path).bind fun t1 => (match t1 with | Rs.v t2 => (t2.asv_sweep).bind fun t4 => (some t4).bind fun i5 => (some ((x_path.l.length : Int) - (1 : Int))).bind fun x_level => (m_deeds_in 10 i5.d).bind fun t8 => (compG (fun (i9 : (T2 Int (Tp (T2 Int Int)))) => if (decide (i9.a = x_k)) = true then (L2.atI i9.b.l x_level).bind fun t12 => some (some (t12.b + x_n)) else some none) t8).bind fun t14 => (some t14).bind fun x_shifts => (if x_shifts.isEmpty = true then some true else (L2.atI x_shifts (0 : Int)).bind fun t15 => some (decide ((1000000000000000000 : Int) < (if t15 < 0 then -t15 else t15)))).bind fun t16 => if t16 = true then some (Rs.x Xn.NoTurning) else (m_each_deed 10 i5.d (fun a_ => m_moved_change x_k x_level x_shifts a_.1 a_.2.1)).bind fun t17 => (UItem.inv_sweep (T4.mk i5.a i5.b i5.c t17)).bind fun t18 => (m_put 10 x_plan x_path (1 : Int) (Tp.mk ([t18] : List UItem))).bind fun t19 => some (Rs.v t19) | Rs.x e3 => some (Rs.x e3))
def m_cut_change (x_level : Int) (x_k : Int) (x_places : (Tp (T2 Int Int))) : Option (Tp (T2 Int Int)) :=
  (L2.atI x_places.l x_level).bind fun t1 => (catT (Tp.mk (cut x_places.l none (some x_level))) (Tp.mk ([t1] : List (T2 Int Int)))).bind fun t2 => (catT t2 (Tp.mk (cut x_places.l (some x_level) none))).bind fun t3 => some t3
def m_cut (x_plan : (Tp UItem)) (x_path : (Tp Int)) : Option (Rs Xn (Tp UItem)) :=
  (m_sweep_at x_plan x_path).bind fun t1 => (match t1 with | Rs.v t2 => (t2.asv_sweep).bind fun t4 => (some t4).bind fun i5 => (if i5.b = true then some true else (m_deeds_in 10 i5.d).bind fun t8 => (compG (fun (i9 : (T2 Int (Tp (T2 Int Int)))) => some (some (i9.b.l.length : Int))) t8).bind fun t13 => (t13.max?).bind fun t14 => some (decide ((6 : Int) ≤ t14))).bind fun t15 => if t15 = true then some (Rs.x Xn.NoTurning) else (some ((x_path.l.length : Int) - (1 : Int))).bind fun x_level => (m_each_deed 10 i5.d (fun a_ => m_cut_change x_level a_.1 a_.2.1)).bind fun t16 => (UItem.inv_sweep (T4.mk i5.a false i5.c t16)).bind fun t17 => (UItem.inv_sweep (T4.mk i5.a true i5.c (Tp.mk ([t17] : List UItem)))).bind fun t18 => (m_put 10 x_plan x_path (1 : Int) (Tp.mk ([t18] : List UItem))).bind fun t19 => some (Rs.v t19) | Rs.x e3 => some (Rs.x e3))
def m_freed (x_plan : (Tp UItem)) (x_path : (Tp Int)) : Option (Rs Xn (Tp UItem)) :=
  (m_sweep_at x_plan x_path).bind fun t1 => (match t1 with | Rs.v t2 => (t2.asv_sweep).bind fun t4 => (some t4).bind fun i5 => (UItem.inv_sweep (T4.mk i5.a i5.b ("any" : Str) i5.d)).bind fun t8 => (m_put 10 x_plan x_path (1 : Int) (Tp.mk ([t8] : List UItem))).bind fun t9 => some (Rs.v t9) | Rs.x e3 => some (Rs.x e3))
def m_done (x_way : Int) (x_plan : (Tp UItem)) (x_path_here : (Tp Int)) (x_k : Int) : Option (Rs Xn (Tp UItem)) :=
  if (decide (x_way = (0 : Int))) = true then (m_swapped x_plan x_path_here).bind fun t1 => (match t1 with | Rs.v t2 => some (Rs.v t2) | Rs.x e3 => some (Rs.x e3)) else if (decide (x_way = (1 : Int))) = true then (m_joined x_plan x_path_here).bind fun t4 => (match t4 with | Rs.v t5 => some (Rs.v t5) | Rs.x e6 => some (Rs.x e6)) else if (decide (x_way = (2 : Int))) = true then (m_parted x_plan x_path_here (1 : Int)).bind fun t7 => (match t7 with | Rs.v t8 => some (Rs.v t8) | Rs.x e9 => some (Rs.x e9)) else if (decide (x_way = (3 : Int))) = true then (m_turned x_plan x_path_here).bind fun t10 => (match t10 with | Rs.v t11 => some (Rs.v t11) | Rs.x e12 => some (Rs.x e12)) else if (decide (x_way = (4 : Int))) = true then (m_moved x_plan x_path_here x_k (0 : Int)).bind fun t13 => (match t13 with | Rs.v t14 => some (Rs.v t14) | Rs.x e15 => some (Rs.x e15)) else if (decide (x_way = (5 : Int))) = true then (m_cut x_plan x_path_here).bind fun t16 => (match t16 with | Rs.v t17 => some (Rs.v t17) | Rs.x e18 => some (Rs.x e18)) else (m_freed x_plan x_path_here).bind fun t19 => (match t19 with | Rs.v t20 => some (Rs.v t20) | Rs.x e21 => some (Rs.x e21))
def m_refused (x_way : Int) (x_plan : (Tp UItem)) (x_path_here : (Tp Int)) (x_k : Int) : Option Bool :=
  (some false).bind fun x_own => (some false).bind fun x_base => (m_done x_way x_plan x_path_here x_k).bind fun t1 => (match t1 with | Rs.v t2 => (m_done x_way x_plan x_path_here x_k).bind fun t4 => (match t4 with | Rs.v t5 => some (x_own && x_base) | Rs.x e6 => (match e6 with | Xn.NoTurning => (some (true && true)).bind fun x_base => some (x_own && x_base))) | Rs.x e3 => (match e3 with | Xn.NoTurning => (some true).bind fun x_own => (m_done x_way x_plan x_path_here x_k).bind fun t7 => (match t7 with | Rs.v t8 => some (x_own && x_base) | Rs.x e9 => (match e9 with | Xn.NoTurning => (some (true && true)).bind fun x_base => some (x_own && x_base)))))
def m_law_change (x_path_here : (Tp Int)) (x_ways : (List (T2 Bool Str))) (x_places_here : (List (T2 Int Int))) : Option (T2 (List (T2 Bool Str)) (List (T2 Int Int))) :=
  (L2.atI x_ways ((x_path_here.l.length : Int) - (1 : Int))).bind fun t1 => (setG x_ways ((x_path_here.l.length : Int) - (1 : Int)) (T2.mk t1.a ("any" : Str))).bind fun t2 => some (T2.mk t2 x_places_here)
def m_changed (x_leaves_here : (List (T4 Int Int (List (T2 Bool Str)) (List (T2 Int Int))))) (x_one : (T4 (Tp Int) Int Int Bool)) (x_change : ((List (T2 Bool Str)) × (List (T2 Int Int)) × Unit → Option (T2 (List (T2 Bool Str)) (List (T2 Int Int))))) : Option (List (T4 Int Int (List (T2 Bool Str)) (List (T2 Int Int)))) :=
  (some x_leaves_here).bind fun x_found => (rngG2 x_one.b x_one.c).bind fun t1 => (loopN (fun (b2 : (List (T4 Int Int (List (T2 Bool Str)) (List (T2 Int Int))))) (x_k : Int) => (L2.atI x_leaves_here x_k).bind fun t6 => (some t6).bind fun i7 => (x_change (i7.c, i7.d, ())).bind fun t10 => (some t10).bind fun i11 => (setG b2 x_k (T4.mk i7.a i7.b i11.a i11.b)).bind fun t14 => some t14) x_found t1).bind fun (b15 : (List (T4 Int Int (List (T2 Bool Str)) (List (T2 Int Int))))) => some b15
def m_whole (x_found : Int) : Option Bool :=
  some (true && (!false))
def m_kinds : Nat → (Tp UItem) → Option Bool
  | 0, _ => none
  | n_ + 1, x_items_here =>
    (loopM (ρ := Bool) (fun (b1 : Unit) (x_item : UItem) => if (decide (x_item.tag = ("deed" : Str))) = true then (x_item.asv_deed).bind fun t5 => (loopM (ρ := Bool) (fun (b6 : Unit) (i7 : (T2 Int Int)) => (m_whole i7.a).bind fun t12 => (if (!t12) = true then some true else (m_whole i7.b).bind fun t13 => some (!t13)).bind fun t14 => if t14 = true then some (Lp.rt false) else some (Lp.nx ())) () t5.c.l).bind fun o8 => o8.thn (fun (b15 : Unit) => (if (decide (x_item.tag = ("deed" : Str))) = true then (x_item.asv_deed).bind fun t16 => (m_whole t16.b).bind fun t17 => some (!t17) else some false).bind fun t18 => if t18 = true then some (Lp.rt false) else (if (decide (x_item.tag = ("sweep" : Str))) = true then (x_item.asv_sweep).bind fun t19 => (if (!true) = true then some true else (x_item.asv_sweep).bind fun t20 => (m_kinds n_ t20.d).bind fun t21 => some (!t21)).bind fun t22 => some t22 else some false).bind fun t23 => if t23 = true then some (Lp.rt false) else some (Lp.nx ())) (fun (r_ : Bool) => some (Lp.rt r_)) else (if (decide (x_item.tag = ("deed" : Str))) = true then (x_item.asv_deed).bind fun t24 => (m_whole t24.b).bind fun t25 => some (!t25) else some false).bind fun t26 => if t26 = true then some (Lp.rt false) else (if (decide (x_item.tag = ("sweep" : Str))) = true then (x_item.asv_sweep).bind fun t27 => (if (!true) = true then some true else (x_item.asv_sweep).bind fun t28 => (m_kinds n_ t28.d).bind fun t29 => some (!t29)).bind fun t30 => some t30 else some false).bind fun t31 => if t31 = true then some (Lp.rt false) else some (Lp.nx ())) () x_items_here.l).bind fun o3 => o3.thn (fun (b32 : Unit) => some true) (fun (r_ : Bool) => some r_)
def m_law (x_script : (List Int)) : Option Bool :=
  (m_cell_at x_script (0 : Int)).bind fun t1 => (m_leaves (cut x_script (some (4 : Int)) (some (61 : Int))) t1).bind fun t2 => (some t2).bind fun x_leaves_here => (m_items 10 x_leaves_here (0 : Int)).bind fun t3 => (some t3).bind fun x_plan => (m_groups 10 x_leaves_here (Tp.mk ([] : List Int)) (0 : Int)).bind fun t4 => (some t4).bind fun x_groups_here => (compG (fun (x_one : (T4 (Tp Int) Int Int Bool)) => if x_one.d = true then some (some x_one) else some none) x_groups_here).bind fun t5 => (m_cell_at x_script (1 : Int)).bind fun t6 => (m_cell_at x_script (2 : Int)).bind fun t7 => (m_path x_groups_here t5 t6 t7).bind fun t8 => (some t8).bind fun x_path_here => (m_at x_groups_here x_path_here).bind fun t9 => (some t9).bind fun x_one => (m_cell_at x_script (3 : Int)).bind fun t10 => (some t10).bind fun x_cell => if (!x_one.d) = true then (modG (x_cell / (7 : Int)) (x_leaves_here.length : Int)).bind fun t11 => (L2.atI x_leaves_here t11).bind fun t12 => (m_refused (x_cell % (7 : Int)) x_plan x_path_here t12.a).bind fun t13 => some t13 else (m_changed x_leaves_here x_one (fun a_ => m_law_change x_path_here a_.1 a_.2.1)).bind fun t14 => (m_items 10 t14 (0 : Int)).bind fun t15 => (some t15).bind fun x_due => (m_freed x_plan x_path_here).bind fun t16 => (Rs.get t16).bind fun t17 => (some t17).bind fun x_found => (if (!true) = true then some true else (eqG x_found x_due).bind fun t18 => (if (!t18) = true then some true else (m_kinds 10 x_found).bind fun t19 => some (!t19)).bind fun t20 => some t20).bind fun t21 => if t21 = true then some false else (m_freed x_found x_path_here).bind fun t22 => (Rs.get t22).bind fun t23 => (eqG t23 x_due).bind fun t24 => some t24

/-! ### the mathematics -/
theorem stream_ok (c many : Int) (h0 : 0 ≤ many) (h1 : many ≤ 1000) : Ok (m_stream c many) fun l => (l.length : Int) = many ∧ ∀ v ∈ l, 0 ≤ v ∧ v < 2147483647 := by
  unfold m_stream
  simp only [Option.bind_some]
  rw [rngG_p (by omega)]
  simp only [Option.bind_some]
  refine .bind (Ok.loopN (fun (b : Int × List Int) (xs : List Int) => -1 < b.1 ∧ b.1 < 2147700000 ∧ (b.2.length : Int) + xs.length = many + 1 ∧ (∀ v ∈ b.2, 0 ≤ v ∧ v < 2147483647)) ?_ ?_ (fun b h => h)) fun b ⟨_, _, h2, h3⟩ => .ret ?_
  · refine ⟨by omega, by omega, ?_, fun v hv => by cases hv⟩
    rw [ints_len]; simp; omega
  · intro b x ys ⟨a1, a2, a3, a4⟩
    rw [List.length_cons] at a3
    rw [mulG_l (by omega)]
    simp only [Option.bind_some]
    rw [app_p (by omega)]
    have hx : 0 ≤ (b.1 * b.1 + 48271 * b.1 + x) % 2147483647 ∧ (b.1 * b.1 + 48271 * b.1 + x) % 2147483647 < 2147483647 := ⟨Int.emod_nonneg _ (by decide), Int.emod_lt_of_pos _ (by decide)⟩
    refine .ret ⟨?_, ?_, ?_, ?_⟩
    · exact Int.lt_of_lt_of_le (by decide) hx.1
    · exact Int.lt_trans hx.2 (by decide)
    · rw [List.length_append]; simp; omega
    · intro v hv
      rcases List.mem_append.mp hv with h | h
      · exact a4 v h
      · have e : v = (b.1 * b.1 + 48271 * b.1 + x) % 2147483647 := by simpa using h
        rw [e]; exact hx
  · rw [cut_from (by decide)]
    refine ⟨?_, fun v hv => h3 v (List.mem_of_mem_drop hv)⟩
    rw [List.length_drop]
    simp at h2 ⊢
    omega
theorem number_ok (c far : Int) (h0 : 0 ≤ far) : Ok (m_number c far) fun v => -(max far 3) ≤ v ∧ v ≤ max far 3 := by
  unfold m_number
  refine Ok.dite (fun h => .ret ?_) fun _ => ?_
  · have := Int.emod_nonneg (c / 3) (show (7 : Int) ≠ 0 by decide)
    have := Int.emod_lt_of_pos (c / 3) (show (0 : Int) < 7 by decide)
    omega
  · rw [modG_p (by omega)]
    refine .ret ?_
    have := Int.emod_nonneg (c / 3) (show (2 * far + 1) ≠ 0 by omega)
    have := Int.emod_lt_of_pos (c / 3) (show (0 : Int) < 2 * far + 1 by omega)
    omega
abbrev WayT := T2 Bool Str
abbrev LfT := T4 Int Int (List WayT) (List (T2 Int Int))
/-- no leaf ahead goes on with a sweep of the depth d -/
def Hd (d : Nat) (r : List LfT) : Prop := ∀ y, r.head? = some y → ¬ (d : Int) < y.b
inductive Tr : Nat → List LfT → List UItem → Prop
  | nil (d : Nat) : Tr d [] []
  | deed {d : Nat} {x : LfT} {r : List LfT} {its : List UItem} : x.c.length = d → Hd d r → Tr d r its → Tr d (x :: r) (.v_deed x.a ⟨x.d⟩ :: its)
  | sweep {d : Nat} {x : LfT} {g r : List LfT} {w : WayT} {sub its : List UItem} : (∀ y ∈ x :: g, y.c[d]? = some w) → (∀ y ∈ g, (d : Int) < y.b) → Hd d r → Tr (d + 1) (x :: g) sub → Tr d r its → Tr d (x :: (g ++ r)) (.v_sweep w.a w.b sub :: its)
theorem span_uniq {α : Type} {P : α → Prop} : ∀ {g g' r r' : List α}, (∀ y ∈ g, P y) → (∀ y ∈ g', P y) → (∀ y, r.head? = some y → ¬ P y) → (∀ y, r'.head? = some y → ¬ P y) → g ++ r = g' ++ r' → g = g' ∧ r = r'
  | [], [], r, r', _, _, _, _, e => ⟨rfl, e⟩
  | [], y :: g', r, r', _, h2, h3, _, e => by
    have e : r = y :: (g' ++ r') := e
    exact absurd (h2 y List.mem_cons_self) (h3 y (by rw [e]; rfl))
  | y :: g, [], r, r', h1, _, _, h4, e => by
    have e : y :: (g ++ r) = r' := e
    exact absurd (h1 y List.mem_cons_self) (h4 y (by rw [← e]; rfl))
  | y :: g, y' :: g', r, r', h1, h2, h3, h4, e => by
    have e : y :: (g ++ r) = y' :: (g' ++ r') := e
    obtain ⟨rfl, e2⟩ := List.cons.inj e
    obtain ⟨a, b⟩ := span_uniq (fun z m => h1 z (List.mem_cons_of_mem _ m)) (fun z m => h2 z (List.mem_cons_of_mem _ m)) h3 h4 e2
    exact ⟨by rw [a], b⟩
theorem Tr.uniq {d : Nat} {bs : List LfT} {its : List UItem} (h : Tr d bs its) : ∀ {its' : List UItem}, Tr d bs its' → its = its' := by
  induction h with
  | nil d => intro its' h; cases h; rfl
  | @deed d x r its hx _ _ ih =>
    intro its' h
    cases h with
    | deed _ _ h => rw [ih h]
    | @sweep _ _ g r' w sub its hw _ _ _ _ =>
      have := hw x List.mem_cons_self
      rw [List.getElem?_eq_none (by omega)] at this
      cases this
  | @sweep d x g r w sub its hw hg hr _ _ ih1 ih2 =>
    intro its' h
    generalize he : x :: (g ++ r) = bs at h
    cases h with
    | nil => cases he
    | @deed _ x' r' its hx _ h =>
      obtain ⟨rfl, _⟩ := List.cons.inj he
      have := hw x List.mem_cons_self
      rw [List.getElem?_eq_none (by omega)] at this
      cases this
    | @sweep _ x' g' r' w' sub' its' hw' hg' hr' h1 h2 =>
      obtain ⟨rfl, e⟩ := List.cons.inj he
      obtain ⟨rfl, rfl⟩ := span_uniq hg hg' hr hr' e
      have a := hw x List.mem_cons_self
      have b := hw' x List.mem_cons_self
      rw [a] at b
      cases b
      rw [ih1 h1, ih2 h2]
theorem Hd.app {d : Nat} {r s : List LfT} (h1 : Hd d r) (h2 : Hd d s) : Hd d (r ++ s) := by
  cases r with
  | nil => exact h2
  | cons y r => exact fun z e => h1 z e
theorem Tr.app {d : Nat} {a b : List LfT} {i j : List UItem} (h1 : Tr d a i) (h2 : Tr d b j) (hb : Hd d b) : Tr d (a ++ b) (i ++ j) := by
  induction h1 with
  | nil d => exact h2
  | deed hx hr _ ih => exact .deed hx (hr.app hb) (ih h2 hb)
  | @sweep d x g r w sub its hw hg hr h1 _ _ ih2 =>
    show Tr d (x :: ((g ++ r) ++ b)) _
    rw [List.append_assoc]
    exact .sweep hw hg (hr.app hb) h1 (ih2 h2 hb)
theorem Tr.split {d : Nat} : ∀ {i j : List UItem} {bs : List LfT}, Tr d bs (i ++ j) → ∃ a b, bs = a ++ b ∧ Tr d a i ∧ Tr d b j ∧ (i ≠ [] → Hd d b)
  | [], j, bs, h => ⟨[], bs, rfl, .nil d, h, fun z => absurd rfl z⟩
  | it :: i, j, bs, h => by
    generalize he : it :: i ++ j = t at h
    cases h with
    | nil => cases he
    | @deed _ x r its hx hr h =>
      obtain ⟨rfl, e⟩ := List.cons.inj (show it :: (i ++ j) = _ from he)
      subst e
      obtain ⟨a, b, rfl, h1, h2, h3⟩ := Tr.split h
      refine ⟨x :: a, b, rfl, .deed hx (fun y e => ?_) h1, h2, fun _ => ?_⟩
      · cases a with
        | nil => cases e
        | cons z a => exact hr y e
      · cases i with
        | nil => cases h1; exact hr
        | cons _ _ => exact h3 (by simp)
    | @sweep _ x g r w sub its hw hg hr hs h =>
      obtain ⟨rfl, e⟩ := List.cons.inj (show it :: (i ++ j) = _ from he)
      subst e
      obtain ⟨a, b, rfl, h1, h2, h3⟩ := Tr.split h
      refine ⟨x :: (g ++ a), b, by simp, .sweep hw hg (fun y e => ?_) hs h1, h2, fun _ => ?_⟩
      · cases a with
        | nil => cases e
        | cons z a => exact hr y e
      · cases i with
        | nil => cases h1; exact hr
        | cons _ _ => exact h3 (by simp)
/-- how many deeds are in an item -/
def cnt : UItem → Nat
  | .v_deed _ _ => 1
  | .v_sweep _ _ ds => cnts ds
where cnts : List UItem → Nat
  | [] => 0
  | x :: xs => cnt x + cnts xs
theorem cnts_app : ∀ i j : List UItem, cnt.cnts (i ++ j) = cnt.cnts i + cnt.cnts j
  | [], j => by rw [List.nil_append, cnt.cnts, Nat.zero_add]
  | x :: i, j => by rw [List.cons_append, cnt.cnts, cnt.cnts, cnts_app i j, Nat.add_assoc]
theorem Tr.len {d : Nat} {bs : List LfT} {its : List UItem} (h : Tr d bs its) : bs.length = cnt.cnts its := by
  induction h with
  | nil d => rfl
  | deed _ _ _ ih => rw [List.length_cons, cnt.cnts, cnt, ih, Nat.add_comm]
  | sweep _ _ _ _ _ ih1 ih2 =>
    rw [cnt.cnts, cnt, ← ih1, ← ih2, List.length_cons, List.length_cons, List.length_append]; omega
theorem Tr.ne {d : Nat} {bs : List LfT} {its : List UItem} (h : Tr d bs its) : its ≠ [] → bs ≠ [] := by
  intro hn
  cases h with
  | nil => exact absurd rfl hn
  | deed _ _ _ => simp
  | sweep _ _ _ _ _ => simp
/-- a leaf's share told anew -/
def shr (v : Int) (x : LfT) : LfT := ⟨x.a, v, x.c, x.d⟩
def upS (bs : List LfT) (q : Nat) (v : Int) : List LfT := bs.modify q (shr v)
theorem upS_app_r {a b : List LfT} {q : Nat} {v : Int} : upS (a ++ b) (a.length + q) v = a ++ upS b q v := by
  induction a with
  | nil => simp [upS]
  | cons x a ih =>
    show (x :: (a ++ b)).modify _ _ = _
    rw [List.length_cons, show a.length + 1 + q = (a.length + q) + 1 by omega, List.modify_succ_cons]
    exact congrArg _ ih
theorem upS_app_l {a b : List LfT} {q : Nat} {v : Int} (h : q < a.length) : upS (a ++ b) q v = upS a q v ++ b := by
  unfold upS
  induction a generalizing q with
  | nil => cases h
  | cons x a ih =>
    cases q with
    | zero => rfl
    | succ q =>
      show (x :: (a ++ b)).modify _ _ = _
      rw [List.modify_succ_cons, List.modify_succ_cons, ih (by simpa using h)]
      rfl
/-- the first leaf's share is nobody's business within -/
theorem Tr.head {d : Nat} {bs : List LfT} {its : List UItem} (h : Tr d bs its) : ∀ {x : LfT} {r : List LfT} {v : Int}, bs = x :: r → Tr d (shr v x :: r) its := by
  induction h with
  | nil d => intro x r v e; cases e
  | deed hx hr h _ =>
    intro x r v e
    obtain ⟨rfl, rfl⟩ := List.cons.inj e
    exact .deed (x := shr v _) hx hr h
  | @sweep d x g r w sub its hw hg hr _ h ih1 _ =>
    intro y s v e
    obtain ⟨rfl, rfl⟩ := List.cons.inj e
    exact .sweep (x := shr v _) (fun y m => (List.mem_cons.mp m).elim (fun e => by rw [e]; exact hw x List.mem_cons_self) fun m => hw y (List.mem_cons_of_mem _ m)) hg hr (ih1 rfl) h
/-- a sweep put apart: the leaves of its parts, the second one's first leaf with the share d -/
theorem Tr.part {d : Nat} {x : LfT} {g : List LfT} {w : WayT} {s1 s2 : List UItem} (hw : ∀ y ∈ x :: g, y.c[d]? = some w) (hg : ∀ y ∈ g, (d : Int) < y.b) (h : Tr (d + 1) (x :: g) (s1 ++ s2)) (h1 : s1 ≠ []) (h2 : s2 ≠ []) :
    Tr d (upS (x :: g) (cnt.cnts s1) (d : Int)) [.v_sweep w.a w.b s1, .v_sweep w.a w.b s2] := by
  obtain ⟨a, b, e, ha, hb, hh⟩ := h.split
  have na := ha.ne h1
  have nb := hb.ne h2
  cases a with
  | nil => exact absurd rfl na
  | cons y a =>
    cases b with
    | nil => exact absurd rfl nb
    | cons z b =>
      obtain ⟨rfl, e2⟩ := List.cons.inj e
      have e2 : g = a ++ z :: b := e2
      subst e2
      have el : cnt.cnts s1 = (x :: a).length + 0 := by rw [← ha.len]; rfl
      have eu : upS (x :: (a ++ z :: b)) (cnt.cnts s1) (d : Int) = x :: (a ++ (shr d z :: (b ++ []))) := by
        rw [el, List.append_nil]
        exact upS_app_r (a := x :: a) (b := z :: b) (q := 0)
      rw [eu]
      have hz : Tr (d + 1) (shr d z :: b) s2 := hb.head rfl
      refine .sweep (fun y m => hw y ?_) (fun y m => hg y (List.mem_append_left _ m)) (fun y e => ?_) ha (.sweep (x := shr d z) (g := b) (r := []) (fun y m => ?_) (fun y m => hg y (List.mem_append_right _ (List.mem_cons_of_mem _ m))) (fun y e => by cases e) hz (.nil d))
      · rcases List.mem_cons.mp m with e | m
        · exact e ▸ List.mem_cons_self
        · exact List.mem_cons_of_mem _ (List.mem_append_left _ m)
      · have e : shr d z = y := Option.some.inj e
        rw [← e]; show ¬ (d : Int) < d; omega
      · rcases List.mem_cons.mp m with e | m
        · rw [e]; exact hw z (List.mem_cons_of_mem _ (List.mem_append_right _ List.mem_cons_self))
        · exact hw y (List.mem_cons_of_mem _ (List.mem_append_right _ (List.mem_cons_of_mem _ m)))
theorem upS_mem {v : Int} : ∀ {g : List LfT} {q : Nat} {y : LfT}, y ∈ upS g q v → ∃ z ∈ g, y = z ∨ y = shr v z
  | [], q, y, h => by cases q <;> cases h
  | z :: g, 0, y, h => by
    rcases List.mem_cons.mp (show y ∈ shr v z :: g from h) with e | m
    · exact ⟨z, List.mem_cons_self, .inr e⟩
    · exact ⟨y, List.mem_cons_of_mem _ m, .inl rfl⟩
  | z :: g, q + 1, y, h => by
    have h : y ∈ z :: upS g q v := h
    rcases List.mem_cons.mp h with e | m
    · exact ⟨z, List.mem_cons_self, .inl e⟩
    · obtain ⟨u, hu, e⟩ := upS_mem m
      exact ⟨u, List.mem_cons_of_mem _ hu, e⟩
theorem upS_len {g : List LfT} {q : Nat} {v : Int} : (upS g q v).length = g.length := by unfold upS; rw [List.length_modify]
theorem Tr.of_nil {d : Nat} {a : List LfT} (h : Tr d a []) : a = [] := by cases h; rfl
theorem Tr.app' {d : Nat} {a b : List LfT} {i j : List UItem} (h1 : Tr d a i) (h2 : Tr d b j) (hb : i ≠ [] → Hd d b) : Tr d (a ++ b) (i ++ j) := by
  cases i with
  | nil => rw [h1.of_nil]; exact h2
  | cons x i => exact h1.app h2 (hb (by simp))
/-- two sweeps of one kind as one -/
theorem Tr.join {d : Nat} {G : List LfT} {c : Bool} {w : Str} {s1 s2 : List UItem} (h : Tr d G [.v_sweep c w s1, .v_sweep c w s2]) : Tr d (upS G (cnt.cnts s1) ((d : Int) + 1)) [.v_sweep c w (s1 ++ s2)] := by
  generalize e1 : [UItem.v_sweep c w s1, UItem.v_sweep c w s2] = its at h
  cases h with
  | nil => cases e1
  | deed _ _ _ => cases e1
  | @sweep _ x g r w1 sub its hw hg hr hs h =>
    obtain ⟨e2, e3⟩ := List.cons.inj e1
    cases e2
    subst e3
    generalize e4 : [UItem.v_sweep w1.a w1.b s2] = its at h
    cases h with
    | nil => cases e4
    | deed _ _ _ => cases e4
    | @sweep _ z b r w2 sub its hw2 hg2 hr2 hs2 h =>
      obtain ⟨e5, e6⟩ := List.cons.inj e4
      subst e6
      have e7 := UItem.v_sweep.inj e5
      obtain ⟨e7, e8, e9⟩ := e7
      subst e9
      have ew : w2 = w1 := by
        cases w1; cases w2
        cases e7; cases e8; rfl
      subst ew
      rw [h.of_nil, List.append_nil]
      have el : cnt.cnts s1 = (x :: g).length + 0 := by rw [← hs.len]; rfl
      have eu : upS (x :: (g ++ z :: b)) (cnt.cnts s1) ((d : Int) + 1) = x :: (g ++ (shr ((d : Int) + 1) z :: b)) := by
        rw [el]
        exact upS_app_r (a := x :: g) (b := z :: b) (q := 0)
      rw [eu]
      have := Tr.sweep (d := d) (x := x) (g := g ++ (shr ((d : Int) + 1) z :: b)) (r := []) (w := w2) (sub := s1 ++ s2) (its := []) (fun y m => ?_) (fun y m => ?_) (fun y e => by cases e) ?_ (.nil d)
      · rwa [List.append_nil] at this
      · rcases List.mem_cons.mp m with e | m
        · exact e ▸ hw x List.mem_cons_self
        · rcases List.mem_append.mp m with m | m
          · exact hw y (List.mem_cons_of_mem _ m)
          · rcases List.mem_cons.mp m with e | m
            · rw [e]; exact hw2 z List.mem_cons_self
            · exact hw2 y (List.mem_cons_of_mem _ m)
      · rcases List.mem_append.mp m with m | m
        · exact hg y m
        · rcases List.mem_cons.mp m with e | m
          · rw [e]; show (d : Int) < (d : Int) + 1; omega
          · exact hg2 y m
      · refine hs.app (hs2.head (v := (d : Int) + 1) rfl) fun y e => ?_
        have e : shr ((d : Int) + 1) z = y := Option.some.inj e
        rw [← e]; show ¬ ((d + 1 : Nat) : Int) < (d : Int) + 1; omega
/-! ### places -/
def putL : List UItem → List Nat → Nat → List UItem → List UItem
  | its, [], _, _ => its
  | its, [p], m, J => its.take p ++ (J ++ its.drop (p + m))
  | its, p :: q :: P, m, J => match its[p]? with
    | some (.v_sweep c w sub) => its.take p ++ (.v_sweep c w (putL sub (q :: P) m J) :: its.drop (p + 1))
    | _ => its
def offL : List UItem → List Nat → Nat
  | _, [] => 0
  | its, [p] => cnt.cnts (its.take p)
  | its, p :: q :: P => match its[p]? with
    | some (.v_sweep _ _ sub) => cnt.cnts (its.take p) + offL sub (q :: P)
    | _ => 0
/-- the items from a place on -/
def fromL : List UItem → List Nat → List UItem
  | _, [] => []
  | its, [p] => its.drop p
  | its, p :: q :: P => match its[p]? with
    | some (.v_sweep _ _ sub) => fromL sub (q :: P)
    | _ => []
theorem at_split {its : List UItem} {p : Nat} {it : UItem} (h : its[p]? = some it) : its = its.take p ++ (it :: its.drop (p + 1)) := by
  obtain ⟨hp, rfl⟩ := List.getElem?_eq_some_iff.mp h
  rw [← List.drop_eq_getElem_cons hp, List.take_append_drop]
theorem Tr.put {v : Int} {δ : Nat} (hδ : 1 ≤ δ) {J J' r : List UItem} : ∀ (P : List Nat) (d : Nat) (bs : List LfT) (its : List UItem), Tr d bs its → P ≠ [] → fromL its P = J ++ r → J ≠ [] →
    (∀ G, Tr (d + P.length - 1) G J → δ < G.length ∧ Tr (d + P.length - 1) (upS G δ v) J') → ((d + P.length - 1 : Nat) : Int) ≤ v → J' ≠ [] → offL its P + δ < bs.length ∧ Tr d (upS bs (offL its P + δ) v) (putL its P J.length J')
  | [], _, _, _, _, hP, _, _, _, _, _ => absurd rfl hP
  | [p], d, bs, its, h, _, hf, hJ, st, hv, hJ' => by
    have hf : its.drop p = J ++ r := hf
    have e : its = its.take p ++ (J ++ r) := by rw [← hf, List.take_append_drop]
    have er : its.drop (p + J.length) = r := by rw [← List.drop_drop, hf, List.drop_left]
    rw [e] at h
    obtain ⟨a, b, rfl, ha, hb, hh⟩ := h.split
    obtain ⟨G, c, rfl, hG, hc, hh2⟩ := hb.split
    obtain ⟨s1, s2⟩ := st G hG
    have el : cnt.cnts (its.take p) = a.length := ha.len.symm
    show cnt.cnts (its.take p) + δ < _ ∧ Tr d (upS (a ++ (G ++ c)) (cnt.cnts (its.take p) + δ) v) (its.take p ++ (J' ++ its.drop (p + J.length)))
    rw [el, upS_app_r, upS_app_l s1, er]
    refine ⟨by rw [List.length_append, List.length_append]; omega, ha.app' (s2.app' hc fun _ => hh2 hJ) fun hi => ?_⟩
    have := hh hi
    cases G with
    | nil => simp at s1
    | cons y G =>
      obtain ⟨δ', rfl⟩ : ∃ k, δ = k + 1 := ⟨δ - 1, by omega⟩
      exact fun z e => this z e
  | p :: q :: P, d, bs, its, h, _, hf, hJ, st, hv, hJ' => by
    unfold fromL at hf
    split at hf
    case h_2 => exact absurd (List.append_eq_nil_iff.mp hf.symm).1 hJ
    rename_i c w sub hi
    have e := at_split hi
    have h2 := h
    rw [e] at h2
    obtain ⟨a, b, rfl, ha, hb, hh⟩ := h2.split
    obtain ⟨G, cc, rfl, hG, hc, hh2⟩ := Tr.split (i := [.v_sweep c w sub]) (j := its.drop (p + 1)) hb
    have el : cnt.cnts (its.take p) = a.length := ha.len.symm
    have eo : offL its (p :: q :: P) = a.length + offL sub (q :: P) := by
      rw [offL, hi]; show cnt.cnts (its.take p) + offL sub (q :: P) = _; rw [el]
    have ep : putL its (p :: q :: P) J.length J' = its.take p ++ (.v_sweep c w (putL sub (q :: P) J.length J') :: its.drop (p + 1)) := by
      rw [putL, hi]
    generalize e1 : [UItem.v_sweep c w sub] = its1 at hG
    cases hG with
    | nil => cases e1
    | deed _ _ _ => cases e1
    | @sweep _ x g r2 w1 sub1 its1 hw hg hr hs hrest =>
      obtain ⟨e2, e3⟩ := List.cons.inj e1
      cases e2
      subst e3
      rw [hrest.of_nil, List.append_nil]
      obtain ⟨i1, i2⟩ := Tr.put hδ (q :: P) (d + 1) (x :: g) sub hs (by simp) hf hJ (fun G hG => by
        have e5 : d + 1 + (q :: P).length - 1 = d + (p :: q :: P).length - 1 := by simp only [List.length_cons]; omega
        rw [e5] at hG ⊢
        exact st G hG) (by simp only [List.length_cons] at hv ⊢; omega) hJ'
      rw [eo, ep]
      obtain ⟨k, hk⟩ : ∃ k, offL sub (q :: P) + δ = k + 1 := ⟨offL sub (q :: P) + δ - 1, by omega⟩
      have eG : upS (x :: g) (offL sub (q :: P) + δ) v = x :: upS g k v := by rw [hk]; rfl
      rw [eG] at i2
      have ee : upS (a ++ (x :: g ++ cc)) (a.length + offL sub (q :: P) + δ) v = a ++ ((x :: upS g k v) ++ cc) := by
        rw [Nat.add_assoc, upS_app_r, upS_app_l i1, eG]
      rw [ee]
      refine ⟨by rw [List.length_append, List.length_append]; omega, ha.app' (Tr.app' (i := [.v_sweep w1.a w1.b (putL sub (q :: P) J.length J')]) ?_ hc fun _ => hh2 (by simp)) fun hi2 => ?_⟩
      · have := Tr.sweep (d := d) (x := x) (g := upS g k v) (r := []) (w := w1) (its := []) (fun y m => ?_) (fun y m => ?_) (fun y e => by cases e) i2 (.nil d)
        · rwa [List.append_nil] at this
        · rcases List.mem_cons.mp m with e | m
          · exact e ▸ hw x List.mem_cons_self
          · obtain ⟨z, hz, e⟩ := upS_mem m
            have := hw z (List.mem_cons_of_mem _ hz)
            rcases e with e | e <;> (subst e; exact this)
        · obtain ⟨z, hz, e⟩ := upS_mem m
          rcases e with e | e
          · subst e; exact hg _ hz
          · subst e
            show (d : Int) < v
            simp only [List.length_cons] at hv
            omega
      · have := hh hi2
        exact fun z e => this z e
/-- each leaf's first ways are those of the one ahead -/
def Cn : List LfT → Prop
  | [] => True
  | [_] => True
  | x :: y :: r => (y.b ≤ x.c.length ∧ y.c.take y.b.toNat = x.c.take y.b.toNat) ∧ Cn (y :: r)
theorem Cn.tail : ∀ {x : LfT} {r : List LfT}, Cn (x :: r) → Cn r
  | _, [], _ => trivial
  | _, _ :: _, h => h.2
theorem Cn.drop : ∀ {r : List LfT} (k : Nat), Cn r → Cn (r.drop k)
  | _, 0, h => h
  | [], k + 1, _ => trivial
  | x :: r, k + 1, h => Cn.drop (r := r) k h.tail
theorem Cn.take : ∀ {r : List LfT} (k : Nat), Cn r → Cn (r.take k)
  | _, 0, _ => trivial
  | [], k + 1, _ => trivial
  | [x], k + 1, _ => by cases k <;> trivial
  | x :: y :: r, 1, _ => trivial
  | x :: y :: r, k + 2, h => ⟨h.1, Cn.take (r := y :: r) (k + 1) h.2⟩
theorem Cn.same {d : Nat} {w : WayT} : ∀ {x : LfT} {g : List LfT}, Cn (x :: g) → (∀ y ∈ g, (d : Int) < y.b) → x.c[d]? = some w → ∀ y ∈ x :: g, y.c[d]? = some w
  | x, [], _, _, hx, y, m => by rw [List.mem_singleton.mp m]; exact hx
  | x, z :: g, h, hg, hx, y, m => by
    rcases List.mem_cons.mp m with e | m
    · rw [e]; exact hx
    · have hz := hg z List.mem_cons_self
      refine Cn.same h.2 (fun y m => hg y (List.mem_cons_of_mem _ m)) ?_ y m
      have e := congrArg (·[d]?) h.1.2
      have e : (z.c.take z.b.toNat)[d]? = (x.c.take z.b.toNat)[d]? := e
      rw [List.getElem?_take_of_lt (by omega), List.getElem?_take_of_lt (by omega), hx] at e
      exact e
theorem drop_at {α : Type} {l : List α} {k : Nat} {x : α} (h : l[k]? = some x) : l.drop k = x :: l.drop (k + 1) := by
  obtain ⟨hk, rfl⟩ := List.getElem?_eq_some_iff.mp h
  exact List.drop_eq_getElem_cons hk
theorem take_at {α : Type} {l : List α} {k k' : Nat} (h : k ≤ k') : l.take k' = l.take k ++ (l.drop k).take (k' - k) := by
  rw [← List.take_add]; congr 1; omega
/-- how far a run of leaves with a share above d goes -/
theorem run_ok {bs : List LfT} (hl : bs.length ≤ 1000) {d : Int} {k : Nat} (hk : k ≤ bs.length) : Ok (whileN (fun (b11 : Int) => (if (decide (b11 < (bs.length : Int))) = true then (L2.atI bs b11).bind fun t14 => some (decide (d < t14.b)) else some false).bind fun t15 => some t15) (fun (b11 : Int) => (some (b11 + (1 : Int))).bind fun x_upto => some x_upto) 100000 (k : Int)) fun u => ∃ k' : Nat, u = (k' : Int) ∧ k ≤ k' ∧ k' ≤ bs.length ∧ (∀ y ∈ (bs.drop k).take (k' - k), d < y.b) ∧ ∀ y, bs[k']? = some y → ¬ d < y.b := by
  refine Ok.whileN (Q := fun u : Int => ∃ k' : Nat, u = (k' : Int) ∧ k ≤ k' ∧ k' ≤ bs.length ∧ (∀ y ∈ (bs.drop k).take (k' - k), d < y.b) ∧ ∀ y, bs[k']? = some y → ¬ d < y.b) (fun u : Int => ∃ k' : Nat, u = (k' : Int) ∧ k ≤ k' ∧ k' ≤ bs.length ∧ ∀ y ∈ (bs.drop k).take (k' - k), d < y.b) (fun u => bs.length - u.toNat) ⟨k, rfl, Nat.le_refl _, hk, fun y hy => by rw [Nat.sub_self, List.take_zero] at hy; cases hy⟩ (by show bs.length - (k : Int).toNat < 100000; omega) ?_
  intro u ⟨k', e', g1, g2, g3⟩
  rw [e']
  refine .bind (P := fun t : Bool => t = true ↔ ∃ y, bs[k']? = some y ∧ d < y.b) (Ok.dite (fun h => ?_) fun h => .ret ⟨fun z => (by cases z), fun ⟨y, hy, _⟩ => absurd (List.getElem?_eq_some_iff.mp hy).1 (by omega)⟩) fun t ht => .ret ⟨fun z => ?_, fun z => ?_⟩
  · have hy := List.getElem?_eq_getElem (show k' < bs.length by omega)
    refine .bindE (atI_at hy) (.ret ?_)
    rw [decide_eq_true_iff]
    exact ⟨fun z => ⟨_, hy, z⟩, fun ⟨y, hy', z⟩ => by rw [hy] at hy'; cases hy'; exact z⟩
  · obtain ⟨y, hy, z⟩ := ht.mp z
    have hlt2 := (List.getElem?_eq_some_iff.mp hy).1
    refine .bindE rfl (.ret ⟨⟨k' + 1, rfl, by omega, hlt2, fun w hw => ?_⟩, by show bs.length - ((k' : Int) + 1).toNat < bs.length - (k' : Int).toNat; omega⟩)
    have e3 : k' + 1 - k = (k' - k) + 1 := by omega
    rw [e3, List.take_succ] at hw
    rcases List.mem_append.mp hw with h | h
    · exact g3 w h
    · rw [List.getElem?_drop, show k + (k' - k) = k' by omega, hy] at h
      have : w = y := by simpa using h
      rw [this]; exact z
  · exact ⟨k', rfl, g1, g2, g3, fun y hy w => by rw [ht.mpr ⟨y, hy, w⟩] at z; cases z⟩
theorem items_ok : ∀ (n d : Nat) (bs : List LfT), 7 ≤ n + d → d ≤ 6 → bs.length ≤ 1000 → Cn bs → (∀ x ∈ bs, d ≤ x.c.length ∧ x.c.length ≤ 6 ∧ x.b ≤ x.c.length) → Ok (m_items n bs (d : Int)) fun t => Tr d bs t.l
  | 0, d, bs, h1, h2, _, _, _ => absurd h1 (by omega)
  | n + 1, d, bs, h1, h2, hl, hc, hb => by
    rw [m_items]
    refine .bindE rfl (.bindE rfl (.bind (Ok.whileN (Q := fun b : List UItem × Int => Tr d bs b.1) (fun b : List UItem × Int => ∃ k : Nat, b.2 = (k : Int) ∧ k ≤ bs.length ∧ b.1.length ≤ k ∧ Tr d (bs.take k) b.1 ∧ (b.1 ≠ [] → Hd d (bs.drop k))) (fun b => bs.length - b.2.toNat) ⟨0, rfl, Nat.zero_le _, Nat.le_refl _, .nil d, fun z => absurd rfl z⟩ (by show bs.length - 0 < 100000; omega) ?_) fun b hb => .ret hb))
    intro b ⟨k, e, hk, hi, ht, hh⟩
    rw [e]
    refine .ret ⟨fun hlt => ?_, fun hge => ?_⟩
    · have hlt := of_decide_eq_true hlt
      have hk : k < bs.length := by omega
      have hx := List.getElem?_eq_getElem hk
      generalize bs[k] = x at hx
      obtain ⟨x1, x2, x3⟩ := hb x (List.mem_of_getElem? hx)
      have hd := drop_at hx
      have hcd := hc.drop k
      rw [hd] at hcd
      refine .bindE rfl (.bindE (atI_at hx) (.bindE rfl ?_))
      refine .bind (P := fun c : List UItem × Int => ∃ (k' : Nat) (it : UItem), c = (b.1 ++ [it], (k' : Int)) ∧ k < k' ∧ k' ≤ bs.length ∧ Tr d ((bs.drop k).take (k' - k)) [it] ∧ Hd d (bs.drop k')) ?_ fun c ⟨k', it, hc, g1, g2, g3, g4⟩ => ?_
      · refine Ok.dite (fun hz => ?_) fun hz => ?_
        · refine .bindE (app_p (by omega)) (.ret ⟨k + 1, _, rfl, Nat.lt_succ_self _, hk, ?_, fun y hy => ?_⟩)
          · rw [hd, show k + 1 - k = 1 by omega]
            exact .deed (by omega) (fun y e => by cases e) (.nil d)
          · cases hr : bs.drop (k + 1) with
            | nil => rw [hr] at hy; cases hy
            | cons z r =>
              rw [hr] at hy hcd
              cases hy
              have := hcd.1.1
              omega
        · have hz : d < x.c.length := by omega
          refine .bind (run_ok hl (k := k + 1) hk) fun u ⟨k', e', g1, g2, g3, g4⟩ => ?_
          subst e'
          have hw := List.getElem?_eq_getElem hz
          generalize x.c[d] = w at hw
          have ec : cut bs (some (k : Int)) (some (k' : Int)) = x :: (bs.drop (k + 1)).take (k' - (k + 1)) := by
            rw [cut_mid (by omega) (by omega), Int.toNat_natCast, Int.toNat_natCast, hd, show k' - k = (k' - (k + 1)) + 1 by omega, List.take_succ_cons]
          have cg : Cn (x :: (bs.drop (k + 1)).take (k' - (k + 1))) := by
            have := hcd.take (k' - (k + 1) + 1)
            rwa [List.take_succ_cons] at this
          rw [ec]
          refine .bind (items_ok n (d + 1) _ (by omega) (by omega) (by simp; omega) cg fun y hy => ?_) fun t ht => .bindE rfl (.bindE (atI_at hw) (.bindE (atI_at hw) (.bindE (app_p (by omega)) (.ret ⟨k', _, rfl, by omega, g2, ?_, fun y hy => g4 y (by rw [List.head?_drop] at hy; exact hy)⟩))))
          · rcases List.mem_cons.mp hy with h | h
            · subst h; exact ⟨hz, x2, x3⟩
            · have m := hb y (List.mem_of_mem_drop (List.mem_of_mem_take h))
              have := g3 y h
              omega
          · have es : (bs.drop k).take (k' - k) = x :: ((bs.drop (k + 1)).take (k' - (k + 1)) ++ []) := by
              rw [hd, show k' - k = (k' - (k + 1)) + 1 by omega, List.take_succ_cons, List.append_nil]
            rw [es]
            exact .sweep (cg.same g3 hw) g3 (fun y e => by cases e) ht (.nil d)
      · subst hc
        refine .bindE rfl (.ret ⟨⟨k', rfl, g2, by rw [List.length_append]; simp; omega, ?_, fun _ => g4⟩, by show bs.length - (k' : Int).toNat < bs.length - (k : Int).toNat; omega⟩)
        show Tr d (bs.take k') (b.1 ++ [it])
        rw [take_at (Nat.le_of_lt g1)]
        refine ht.app' g3 fun z => ?_
        have := hh z
        rw [hd] at this ⊢
        rw [show k' - k = (k' - k - 1) + 1 by omega, List.take_succ_cons]
        exact fun y e => this y e
    · have hge : ¬ (k : Int) < bs.length := of_decide_eq_false hge
      have : k = bs.length := by omega
      subst this
      rwa [List.take_length] at ht
abbrev GrT := T4 (Tp Int) Int Int Bool
def swp : UItem → Bool
  | .v_deed _ _ => false
  | .v_sweep _ _ _ => true
def ent (path : List Int) (f m : Nat) (it : UItem) : GrT := ⟨⟨path ++ [(m : Int)]⟩, (f : Int), ((f + cnt it : Nat) : Int), swp it⟩
mutual
def grpI (path : List Int) (f m : Nat) : UItem → List GrT
  | .v_deed a b => [ent path f m (.v_deed a b)]
  | .v_sweep c w sub => ent path f m (.v_sweep c w sub) :: grpL (path ++ [(m : Int)]) f 0 sub
def grpL (path : List Int) (f m : Nat) : List UItem → List GrT
  | [] => []
  | x :: xs => grpI path f m x ++ grpL path (f + cnt x) (m + 1) xs
end
theorem grpL_app (path : List Int) : ∀ (i j : List UItem) (f m : Nat), grpL path f m (i ++ j) = grpL path f m i ++ grpL path (f + cnt.cnts i) (m + i.length) j
  | [], j, f, m => by rw [grpL]; rfl
  | x :: i, j, f, m => by
    rw [List.cons_append, grpL, grpL, grpL_app path i j, List.append_assoc, cnt.cnts, List.length_cons]
    congr 3 <;> omega
theorem Tr.glen {d : Nat} {bs : List LfT} {its : List UItem} (h : Tr d bs its) : (∀ x ∈ bs, x.c.length ≤ 6) → ∀ (path : List Int) (f m : Nat), (grpL path f m its).length ≤ (7 - d) * bs.length := by
  induction h with
  | nil d => intro _ path f m; rw [grpL]; exact Nat.zero_le _
  | @deed d x r its hx _ _ ih =>
    intro hb path f m
    have := ih (fun y h => hb y (List.mem_cons_of_mem _ h)) path (f + 1) (m + 1)
    have := hb x List.mem_cons_self
    rw [grpL, grpI, List.length_append, List.length_cons, List.length_cons, List.length_nil]
    show 0 + 1 + (grpL path (f + 1) (m + 1) its).length ≤ _
    have e : (7 - d) * (r.length + 1) = (7 - d) * r.length + (7 - d) := Nat.mul_succ _ _
    omega
  | @sweep d x g r w sub its hw hg _ _ _ ih1 ih2 =>
    intro hb path f m
    have h1 := ih1 (fun y h => hb y (by
      rcases List.mem_cons.mp h with e | h
      · exact e ▸ List.mem_cons_self
      · exact List.mem_cons_of_mem _ (List.mem_append_left _ h))) (path ++ [(m : Int)]) f 0
    have h2 := ih2 (fun y h => hb y (List.mem_cons_of_mem _ (List.mem_append_right _ h))) path (f + cnt (.v_sweep w.a w.b sub)) (m + 1)
    have hx := hb x List.mem_cons_self
    have hd := (List.getElem?_eq_some_iff.mp (hw x List.mem_cons_self)).1
    rw [grpL, grpI, List.length_append, List.length_cons, List.length_cons, List.length_append]
    rw [List.length_cons] at h1
    have e1 : (7 - d) * (g.length + r.length + 1) = (7 - d) * (g.length + 1) + (7 - d) * r.length := by rw [← Nat.mul_add]; congr 1; omega
    have e2 : (7 - d) * (g.length + 1) = (7 - (d + 1)) * (g.length + 1) + (g.length + 1) := by
      rw [show 7 - d = (7 - (d + 1)) + 1 by omega, Nat.succ_mul]
    rw [e1, e2]
    omega
theorem groups_ok : ∀ (n d : Nat) (bs : List LfT) (its : List UItem) (path : List Int) (f : Nat), 7 ≤ n + d → d ≤ 6 → bs.length ≤ 1000 → path.length = d → Tr d bs its → (∀ x ∈ bs, x.c.length ≤ 6) → Ok (m_groups n bs ⟨path⟩ (f : Int)) (· = grpL path f 0 its)
  | 0, d, bs, its, path, f, h1, h2, _, _, _, _ => absurd h1 (by omega)
  | n + 1, d, bs, its, path, f, h1, h2, hl, hp, ht, hb => by
    rw [m_groups]
    have gl := ht.glen hb
    have g7 : (7 - d) * bs.length ≤ 7000 := Nat.le_trans (Nat.mul_le_mul (show 7 - d ≤ 7 by omega) hl) (by decide)
    refine .bindE rfl (.bindE rfl (.bindE rfl (.bind (Ok.whileN (Q := fun b : List GrT × Int × Int => b.1 = grpL path f 0 its) (fun b : List GrT × Int × Int => ∃ i j a c, its = i ++ j ∧ bs = a ++ c ∧ Tr d a i ∧ Tr d c j ∧ b.2.2 = (a.length : Int) ∧ b.2.1 = (i.length : Int) ∧ b.1 = grpL path f 0 i) (fun b => bs.length - b.2.2.toNat) ⟨[], its, [], bs, rfl, rfl, .nil d, ht, rfl, rfl, by rw [grpL]⟩ (by show bs.length - 0 < 100000; omega) ?_) fun b hb => .ret hb)))
    intro b ⟨i, j, a, c, e1, e2, ha, hc, e3, e4, e5⟩
    have fl := gl path f 0
    rw [e1, grpL_app, List.length_append, Nat.zero_add] at fl
    have al := ha.len
    have bl : bs.length = a.length + c.length := by rw [e2, List.length_append]
    rw [e3, e4, e5]
    refine .ret ⟨fun hlt => ?_, fun hge => ?_⟩
    · have hlt := of_decide_eq_true hlt
      have hk : a.length < bs.length := by omega
      refine .bindE rfl ?_
      rw [catT_p (by show path.length + 1 ≤ _; omega)]
      refine .bindE rfl (.bindE rfl ?_)
      cases hc with
      | nil => rw [List.length_nil] at bl; omega
      | @deed _ x r its2 hx hr h =>
        have hx1 : bs[a.length]? = some x := by rw [e2, List.getElem?_append_right (Nat.le_refl _), Nat.sub_self]; rfl
        refine .bindE (atI_at hx1) (.bind (P := fun q : List GrT × Int => q = (grpL path f 0 (i ++ [.v_deed x.a ⟨x.d⟩]), ((a ++ [x]).length : Int))) ?_ fun q hq => ?_)
        · rw [if_pos (by show decide ((x.c.length : Int) = (path.length : Int)) = true; exact decide_eq_true (by omega)), app_p (by omega)]
          refine .bindE rfl (.ret ?_)
          rw [grpL_app, Nat.zero_add, grpL, grpL, grpI, List.append_nil, ← al, List.length_append]
          show (_ ++ [(⟨⟨path ++ [(i.length : Int)]⟩, (f : Int) + (a.length : Int), (f : Int) + ((a.length : Int) + 1), false⟩ : GrT)], (a.length : Int) + 1) = (_ ++ [(⟨⟨path ++ [(i.length : Int)]⟩, ((f + a.length : Nat) : Int), ((f + a.length + 1 : Nat) : Int), false⟩ : GrT)], _)
          congr 1
        · subst hq
          refine .bindE rfl (.bindE rfl (.ret ⟨⟨i ++ [.v_deed x.a ⟨x.d⟩], its2, a ++ [x], r, by rw [e1, List.append_assoc]; rfl, by rw [e2, List.append_assoc]; rfl, ha.app' (.deed hx (fun y e => by cases e) (.nil d)) fun hi => ?_, h, rfl, by show (i.length : Int) + 1 = _; rw [List.length_append]; rfl, rfl⟩, ?_⟩))
          · rw [e1, e2] at ht
            obtain ⟨a', b', e6, t1, t2, t3⟩ := ht.split
            have el : a'.length = a.length := by rw [t1.len, ha.len]
            obtain ⟨rfl, rfl⟩ := List.append_inj e6.symm el
            exact fun z e => t3 hi z e
          · show bs.length - ((a ++ [x]).length : Int).toNat < bs.length - (a.length : Int).toNat
            rw [List.length_append, List.length_cons, List.length_nil]; omega
      | @sweep _ x g r w sub its2 hw hg hr hs h =>
        have hx1 : bs[a.length]? = some x := by rw [e2, List.getElem?_append_right (Nat.le_refl _), Nat.sub_self]; rfl
        have hd := (List.getElem?_eq_some_iff.mp (hw x List.mem_cons_self)).1
        have x6 := hb x (List.mem_of_getElem? hx1)
        have sl := hs.len
        have ex : bs.drop (a.length + 1) = g ++ r := by rw [e2, ← List.drop_drop, List.drop_left]; rfl
        refine .bindE (atI_at hx1) (.bind (P := fun q : List GrT × Int => q = (grpL path f 0 (i ++ [.v_sweep w.a w.b sub]), ((a ++ (x :: g)).length : Int))) ?_ fun q hq => ?_)
        · rw [if_neg (by show ¬ decide ((x.c.length : Int) = (path.length : Int)) = true; exact fun z => absurd (of_decide_eq_true z) (by omega))]
          have er := run_ok hl (d := (path.length : Int)) (k := a.length + 1) hk
          refine .bind er fun u ⟨k', e', g1, g2, g3, g4⟩ => ?_
          subst e'
          rw [hp] at g3 g4
          have eg : (bs.drop (a.length + 1)).take (k' - (a.length + 1)) = g ∧ bs.drop k' = r := by
            have e6 : (bs.drop (a.length + 1)).take (k' - (a.length + 1)) ++ bs.drop k' = g ++ r := by
              have e7 : bs.drop k' = (bs.drop (a.length + 1)).drop (k' - (a.length + 1)) := by rw [List.drop_drop]; congr 1; omega
              rw [e7, List.take_append_drop, ex]
            exact span_uniq (P := fun y : LfT => (d : Int) < y.b) g3 hg (fun y hy => g4 y (by rw [List.head?_drop] at hy; exact hy)) hr e6
          have kl : k' = a.length + 1 + g.length := by
            have := congrArg List.length eg.1
            rw [List.length_take, List.length_drop] at this
            omega
          have ec : cut bs (some (a.length : Int)) (some (k' : Int)) = x :: g := by
            rw [cut_mid (by omega) (by omega), Int.toNat_natCast, Int.toNat_natCast, drop_at hx1, show k' - a.length = (k' - (a.length + 1)) + 1 by omega, List.take_succ_cons, eg.1]
          rw [app_p (by omega)]
          refine .bindE rfl ?_
          rw [ec, show (f : Int) + (a.length : Int) = ((f + a.length : Nat) : Int) by omega]
          refine .bind (groups_ok n (d + 1) (x :: g) sub (path ++ [(i.length : Int)]) (f + a.length) (by omega) (by omega) (by rw [e2, List.length_append] at hl; rw [List.length_cons] at hl ⊢; rw [List.length_append] at hl; omega) (by rw [List.length_append]; simp; omega) hs fun y m => hb y (by
            rw [e2]; refine List.mem_append_right _ ?_
            rcases List.mem_cons.mp m with e | m
            · exact e ▸ List.mem_cons_self
            · exact List.mem_cons_of_mem _ (List.mem_append_left _ m))) fun t e7 => ?_
          subst e7
          have gl3 : (grpL path (f + cnt.cnts i) i.length (.v_sweep w.a w.b sub :: its2)).length = 1 + (grpL (path ++ [(i.length : Int)]) (f + cnt.cnts i) 0 sub).length + (grpL path (f + cnt.cnts i + cnt (.v_sweep w.a w.b sub)) (i.length + 1) its2).length := by
            rw [grpL, grpI, List.length_append, List.length_cons]; omega
          rw [gl3, ← al] at fl
          rw [catG_p (by rw [List.length_append]; simp only [List.length_cons, List.length_nil]; omega)]
          refine .bindE rfl (.ret ?_)
          rw [grpL_app, Nat.zero_add, grpL, grpL, grpI, List.append_nil, ← al, List.length_append, List.append_assoc]
          show (_ ++ ((⟨⟨path ++ [(i.length : Int)]⟩, ((f + a.length : Nat) : Int), (f : Int) + (k' : Int), true⟩ : GrT) :: _), (k' : Int)) = (_ ++ ((⟨⟨path ++ [(i.length : Int)]⟩, ((f + a.length : Nat) : Int), ((f + a.length + cnt (.v_sweep w.a w.b sub) : Nat) : Int), true⟩ : GrT) :: _), _)
          have e8 : cnt (.v_sweep w.a w.b sub) = g.length + 1 := by rw [cnt, ← sl]; rfl
          congr 1
          · congr 2
            congr 1
            rw [e8]; omega
          all_goals (rw [List.length_cons]; omega)
        · subst hq
          refine .bindE rfl (.bindE rfl (.ret ⟨⟨i ++ [.v_sweep w.a w.b sub], its2, a ++ (x :: g), r, by rw [e1, List.append_assoc]; rfl, by rw [e2, List.append_assoc]; rfl, ha.app' ?_ fun hi => ?_, h, rfl, by show (i.length : Int) + 1 = _; rw [List.length_append]; rfl, rfl⟩, ?_⟩))
          · have := Tr.sweep (r := []) hw hg (fun y e => by cases e) hs (.nil d)
            rwa [List.append_nil] at this
          · rw [e1, e2] at ht
            obtain ⟨a', b', e6, t1, t2, t3⟩ := ht.split
            have el : a'.length = a.length := by rw [t1.len, ha.len]
            obtain ⟨rfl, rfl⟩ := List.append_inj e6.symm el
            exact fun z e => t3 hi z e
          · show bs.length - ((a ++ (x :: g)).length : Int).toNat < bs.length - (a.length : Int).toNat
            rw [List.length_append, List.length_cons]; omega
    · have hge : ¬ (a.length : Int) < bs.length := of_decide_eq_false hge
      have : c = [] := by
        cases c with
        | nil => rfl
        | cons _ _ => rw [List.length_cons] at bl; omega
      subst this
      have := hc.uniq (.nil d)
      subst this
      rw [e1, List.append_nil]
/-- what stands at a path: the number of its first leaf, the item -/
def lookI : List UItem → Nat → List Int → Option (Nat × UItem)
  | _, _, [] => none
  | its, f, [q] => if q < 0 then none else (its[q.toNat]?).map fun it => (f + cnt.cnts (its.take q.toNat), it)
  | its, f, q :: q2 :: Q => if q < 0 then none else match its[q.toNat]? with
    | some (.v_sweep _ _ sub) => lookI sub (f + cnt.cnts (its.take q.toNat)) (q2 :: Q)
    | _ => none
def entP (P : List Int) (r : Nat × UItem) : GrT := ⟨⟨P⟩, (r.1 : Int), ((r.1 + cnt r.2 : Nat) : Int), swp r.2⟩
theorem lookI_neg {its : List UItem} {f : Nat} {q : Int} {Q : List Int} (h : q < 0) : lookI its f (q :: Q) = none := by
  cases Q with
  | nil => rw [lookI, if_pos h]
  | cons q2 Q => rw [lookI, if_pos h]
theorem lookI_zero {x : UItem} {its : List UItem} {f : Nat} {Q : List Int} : lookI (x :: its) f (0 :: Q) = match Q with
    | [] => some (f, x)
    | q2 :: Q => match x with
      | .v_sweep _ _ sub => lookI sub f (q2 :: Q)
      | .v_deed _ _ => none := by
  cases Q with
  | nil => rw [lookI, if_neg (by decide)]; rfl
  | cons q2 Q =>
    rw [lookI, if_neg (by decide)]
    cases x <;> rfl
theorem lookI_succ {x : UItem} {its : List UItem} {f : Nat} {q : Int} {Q : List Int} (h : 0 ≤ q) : lookI (x :: its) f ((q + 1) :: Q) = lookI its (f + cnt x) (q :: Q) := by
  have e : (q + 1).toNat = q.toNat + 1 := by omega
  have e2 : cnt.cnts ((x :: its).take (q.toNat + 1)) = cnt x + cnt.cnts (its.take q.toNat) := by rw [List.take_succ_cons, cnt.cnts]
  cases Q with
  | nil =>
    rw [lookI, lookI, if_neg (by omega), if_neg (by omega), e, List.getElem?_cons_succ, e2, Nat.add_assoc]
  | cons q2 Q =>
    rw [lookI, lookI, if_neg (by omega), if_neg (by omega), e, List.getElem?_cons_succ, e2, Nat.add_assoc]
theorem path_ne {path : List Int} {m : Int} {Q : List Int} (h : ¬ Q = [m]) : ¬ path ++ [m] = path ++ Q := fun e => h (List.append_cancel_left e).symm
def subF (it : UItem) (f : Nat) (Q P : List Int) : Option GrT := match it with
  | .v_sweep _ _ sub => (lookI sub f Q).map (entP P)
  | .v_deed _ _ => none
mutual
theorem findI : ∀ (it : UItem) (path : List Int) (f m : Nat) (q : Int) (Q : List Int), (grpI path f m it).find? (fun x => decide (x.a.l = path ++ q :: Q)) = if q = (m : Int) then (match Q with
    | [] => some (entP (path ++ [q]) (f, it))
    | q2 :: Q2 => subF it f (q2 :: Q2) (path ++ q :: q2 :: Q2)) else none
  | .v_deed a b, path, f, m, q, Q => by
    rw [grpI]
    by_cases h : q = (m : Int)
    · subst h
      rw [if_pos rfl]
      cases Q with
      | nil => rw [List.find?_cons_of_pos (by show decide (path ++ [(m : Int)] = path ++ [(m : Int)]) = true; exact decide_eq_true rfl)]; rfl
      | cons q2 Q2 =>
        rw [List.find?_cons_of_neg (by show ¬ decide (path ++ [(m : Int)] = path ++ (m : Int) :: q2 :: Q2) = true; exact fun z => path_ne (fun e => by cases e) (of_decide_eq_true z))]
        rfl
    · rw [if_neg h, List.find?_cons_of_neg (by show ¬ decide (path ++ [(m : Int)] = path ++ q :: Q) = true; exact fun z => path_ne (fun e => h (List.cons.inj e).1) (of_decide_eq_true z))]
      rfl
  | .v_sweep c w sub, path, f, m, q, Q => by
    rw [grpI]
    by_cases h : q = (m : Int)
    · subst h
      rw [if_pos rfl]
      cases Q with
      | nil => rw [List.find?_cons_of_pos (by show decide (path ++ [(m : Int)] = path ++ [(m : Int)]) = true; exact decide_eq_true rfl)]; rfl
      | cons q2 Q2 =>
        rw [List.find?_cons_of_neg (by show ¬ decide (path ++ [(m : Int)] = path ++ (m : Int) :: q2 :: Q2) = true; exact fun z => path_ne (fun e => by cases e) (of_decide_eq_true z))]
        have := findL sub (path ++ [(m : Int)]) f 0 q2 Q2
        rw [List.append_assoc] at this
        refine Eq.trans this ?_
        have e0 : q2 - ((0 : Nat) : Int) = q2 := by omega
        rw [e0]
        by_cases h : q2 < ((0 : Nat) : Int)
        · rw [if_pos h]; show none = (lookI sub f (q2 :: Q2)).map _; rw [lookI_neg (by omega)]; rfl
        · rw [if_neg h]; rfl
    · rw [if_neg h, List.find?_cons_of_neg (by show ¬ decide (path ++ [(m : Int)] = path ++ q :: Q) = true; exact fun z => path_ne (fun e => h (List.cons.inj e).1) (of_decide_eq_true z))]
      refine List.find?_eq_none.mpr fun x hx z => ?_
      have z := of_decide_eq_true z
      have := grpL_pre sub (path ++ [(m : Int)]) f 0 x hx
      obtain ⟨s, hs⟩ := this
      rw [← hs, List.append_assoc] at z
      have := List.append_cancel_left z
      exact h (List.cons.inj this).1.symm
theorem findL : ∀ (its : List UItem) (path : List Int) (f m : Nat) (q : Int) (Q : List Int), (grpL path f m its).find? (fun x => decide (x.a.l = path ++ q :: Q)) = if q < (m : Int) then none else (lookI its f ((q - m) :: Q)).map (entP (path ++ q :: Q))
  | [], path, f, m, q, Q => by
    rw [grpL]
    split
    · rfl
    · have : lookI [] f ((q - m) :: Q) = none := by
        cases Q with
        | nil => rw [lookI]; split <;> rfl
        | cons q2 Q => rw [lookI]; split <;> rfl
      rw [this]; rfl
  | x :: xs, path, f, m, q, Q => by
    rw [grpL, List.find?_append, findI x path f m q Q, findL xs path (f + cnt x) (m + 1) q Q]
    by_cases h : q = (m : Int)
    · subst h
      rw [if_pos rfl, if_pos (by omega), if_neg (by omega), Int.sub_self, lookI_zero]
      cases Q with
      | nil => rfl
      | cons q2 Q2 => cases x <;> simp [subF]
    · rw [if_neg h]
      by_cases h2 : q < (m : Int)
      · rw [if_pos h2, if_pos (by omega)]; rfl
      · rw [if_neg h2, if_neg (by omega)]
        have e : q - (m : Int) = (q - ((m + 1 : Nat) : Int)) + 1 := by omega
        rw [e, lookI_succ (by omega)]
        rfl
theorem grpI_pre : ∀ (it : UItem) (path : List Int) (f m : Nat) (x : GrT), x ∈ grpI path f m it → ∃ s, path ++ s = x.a.l
  | .v_deed a b, path, f, m, x, h => by
    rw [grpI] at h
    rw [List.mem_singleton.mp h]
    exact ⟨_, rfl⟩
  | .v_sweep c w sub, path, f, m, x, h => by
    rw [grpI] at h
    rcases List.mem_cons.mp h with e | h
    · rw [e]; exact ⟨_, rfl⟩
    · obtain ⟨s, hs⟩ := grpL_pre sub _ _ _ x h
      exact ⟨(m : Int) :: s, by rw [← hs, List.append_assoc]; rfl⟩
theorem grpL_pre : ∀ (its : List UItem) (path : List Int) (f m : Nat) (x : GrT), x ∈ grpL path f m its → ∃ s, path ++ s = x.a.l
  | [], path, f, m, x, h => by rw [grpL] at h; cases h
  | y :: ys, path, f, m, x, h => by
    rw [grpL] at h
    rcases List.mem_append.mp h with h | h
    · exact grpI_pre y _ _ _ x h
    · exact grpL_pre ys _ _ _ x h
end
def topsL (path : List Int) (f m : Nat) : List UItem → List GrT
  | [] => []
  | x :: xs => ent path f m x :: topsL path (f + cnt x) (m + 1) xs
theorem topsL_len (path : List Int) : ∀ (its : List UItem) (f m : Nat), (topsL path f m its).length = its.length
  | [], _, _ => rfl
  | x :: xs, f, m => by rw [topsL, List.length_cons, topsL_len path xs, List.length_cons]
theorem topsL_at (path : List Int) : ∀ (its : List UItem) (f m j : Nat) (it : UItem), its[j]? = some it → (topsL path f m its)[j]? = some (ent path (f + cnt.cnts (its.take j)) (m + j) it)
  | [], _, _, j, _, h => by simp at h
  | x :: xs, f, m, 0, it, h => by
    have : x = it := by simpa using h
    subst this
    rw [topsL]; rfl
  | x :: xs, f, m, j + 1, it, h => by
    rw [topsL, List.getElem?_cons_succ, topsL_at path xs _ _ j it (by simpa using h), List.take_succ_cons, cnt.cnts]
    congr 2 <;> omega
mutual
theorem grpI_sfx : ∀ (it : UItem) (path : List Int) (f m : Nat) (x : GrT), x ∈ grpI path f m it → ∃ s, x.a.l = path ++ (m : Int) :: s
  | .v_deed a b, path, f, m, x, h => by
    rw [grpI] at h
    rw [List.mem_singleton.mp h]
    exact ⟨[], rfl⟩
  | .v_sweep c w sub, path, f, m, x, h => by
    rw [grpI] at h
    rcases List.mem_cons.mp h with e | h
    · rw [e]; exact ⟨[], rfl⟩
    · obtain ⟨q, s, hs, _⟩ := grpL_sfx sub _ _ _ x h
      exact ⟨q :: s, by rw [hs, List.append_assoc]; rfl⟩
theorem grpL_sfx : ∀ (its : List UItem) (path : List Int) (f m : Nat) (x : GrT), x ∈ grpL path f m its → ∃ (q : Int) (s : List Int), x.a.l = path ++ q :: s ∧ (m : Int) ≤ q
  | [], path, f, m, x, h => by rw [grpL] at h; cases h
  | y :: ys, path, f, m, x, h => by
    rw [grpL] at h
    rcases List.mem_append.mp h with h | h
    · obtain ⟨s, hs⟩ := grpI_sfx y _ _ _ x h
      exact ⟨_, s, hs, Int.le_refl _⟩
    · obtain ⟨q, s, hs, hq⟩ := grpL_sfx ys _ _ _ x h
      exact ⟨q, s, hs, by omega⟩
end
def parP (P : List Int) (x : GrT) : Bool := decide (x.a.l.take (x.a.l.length - 1) = P)
theorem parP_of {P path : List Int} {q : Int} {s : List Int} {x : GrT} (h : x.a.l = path ++ q :: s) : parP P x = decide (path ++ (q :: s).dropLast = P) := by
  unfold parP
  rw [← List.dropLast_eq_take, h, List.dropLast_append_of_ne_nil (by simp)]
theorem wth0 : ∀ (its : List UItem) (path : List Int) (f m : Nat), (grpL path f m its).filter (parP path) = topsL path f m its
  | [], _, _, _ => by rw [grpL, topsL]; rfl
  | x :: xs, path, f, m => by
    rw [grpL, topsL, List.filter_append, wth0 xs]
    have deep : ∀ sub : List UItem, (grpL (path ++ [(m : Int)]) f 0 sub).filter (parP path) = [] := fun sub => List.filter_eq_nil_iff.mpr fun y hy z => by
      obtain ⟨q, s, hs, _⟩ := grpL_sfx sub _ _ _ y hy
      rw [List.append_assoc] at hs
      rw [parP_of (path := path) (q := (m : Int)) (s := q :: s) hs] at z
      have z := of_decide_eq_true z
      have : path ++ ((m : Int) :: q :: s).dropLast = path ++ [] := by rw [z, List.append_nil]
      have := List.append_cancel_left this
      cases this
    have e1 : parP path (ent path f m x) = true := by
      rw [parP_of (path := path) (q := (m : Int)) (s := []) rfl]
      exact decide_eq_true (List.append_nil _)
    cases x with
    | v_deed a b => rw [grpI, List.filter_cons_of_pos e1]; rfl
    | v_sweep c w sub => rw [grpI, List.filter_cons_of_pos e1, deep]; rfl
theorem wth_no {its : List UItem} {path : List Int} {f m : Nat} {q : Int} {Q : List Int} (h : q < (m : Int)) : (grpL path f m its).filter (parP (path ++ q :: Q)) = [] := List.filter_eq_nil_iff.mpr fun y hy z => by
  obtain ⟨q2, s, hs, hq⟩ := grpL_sfx its _ _ _ y hy
  rw [parP_of hs] at z
  have z := List.append_cancel_left (of_decide_eq_true z)
  cases s with
  | nil => cases z
  | cons a s => rw [List.dropLast_cons₂] at z; have := (List.cons.inj z).1; omega
theorem wthI_no {it : UItem} {path : List Int} {f m : Nat} {q : Int} {Q : List Int} (h : q ≠ (m : Int)) : (grpI path f m it).filter (parP (path ++ q :: Q)) = [] := List.filter_eq_nil_iff.mpr fun y hy z => by
  obtain ⟨s, hs⟩ := grpI_sfx it _ _ _ y hy
  rw [parP_of hs] at z
  have z := List.append_cancel_left (of_decide_eq_true z)
  cases s with
  | nil => cases z
  | cons a s => rw [List.dropLast_cons₂] at z; exact h (List.cons.inj z).1.symm
theorem wthL : ∀ (Q : List Int) (its : List UItem) (path : List Int) (f m : Nat) (q : Int) (f' : Nat) (c : Bool) (w : Str) (sub : List UItem), (m : Int) ≤ q → lookI its f ((q - m) :: Q) = some (f', .v_sweep c w sub) → (grpL path f m its).filter (parP (path ++ q :: Q)) = topsL (path ++ q :: Q) f' 0 sub
  | Q, [], path, f, m, q, f', c, w, sub, hm, h => by
    have : lookI [] f ((q - m) :: Q) = none := by
      cases Q with
      | nil => rw [lookI]; split <;> rfl
      | cons q2 Q => rw [lookI]; split <;> rfl
    rw [this] at h; cases h
  | Q, x :: xs, path, f, m, q, f', c, w, sub, hm, h => by
    rw [grpL, List.filter_append]
    by_cases e : q = (m : Int)
    · subst e
      rw [wth_no (by omega), List.append_nil]
      rw [Int.sub_self, lookI_zero] at h
      have e0 : parP (path ++ (m : Int) :: Q) (ent path f m x) = false := by
        rw [parP_of (path := path) (q := (m : Int)) (s := []) rfl]
        refine decide_eq_false fun z => ?_
        have z : path ++ [] = path ++ (m : Int) :: Q := z
        have := List.append_cancel_left z
        cases this
      cases x with
      | v_deed a b =>
        cases Q with
        | nil => cases h
        | cons _ _ => cases h
      | v_sweep c2 w2 sub2 =>
        rw [grpI, List.filter_cons_of_neg (by rw [e0]; decide)]
        cases Q with
        | nil =>
          cases h
          exact wth0 sub _ f 0
        | cons q2 Q2 =>
          have h : lookI sub2 f (q2 :: Q2) = some (f', .v_sweep c w sub) := h
          have hq : 0 ≤ q2 := Int.not_lt.mp fun z => by rw [lookI_neg z] at h; cases h
          have := wthL Q2 sub2 (path ++ [(m : Int)]) f 0 q2 f' c w sub hq (by rw [show q2 - ((0 : Nat) : Int) = q2 by omega]; exact h)
          rw [List.append_assoc] at this
          exact this
    · rw [wthI_no e, List.nil_append]
      have e1 : q - (m : Int) = (q - ((m + 1 : Nat) : Int)) + 1 := by omega
      rw [e1, lookI_succ (by omega)] at h
      exact wthL Q xs path (f + cnt x) (m + 1) q f' c w sub (by omega) h
termination_by Q its => (Q.length, its.length)
theorem at_ok {its : List UItem} {P : List Int} (hP : P ≠ []) : Ok (m_at (grpL [] 0 0 its) ⟨P⟩) (· = match lookI its 0 P with
    | some r => entP P r
    | none => ⟨⟨P⟩, 0, 0, false⟩) := by
  cases P with
  | nil => exact absurd rfl hP
  | cons q Q =>
    have hf : (grpL [] 0 0 its).find? (fun x => decide (x.a.l = q :: Q)) = (lookI its 0 (q :: Q)).map (entP (q :: Q)) := by
      have := findL its [] 0 0 q Q
      rw [List.nil_append] at this
      refine this.trans ?_
      split
      · rename_i h; rw [lookI_neg (by omega)]; rfl
      · rw [show q - ((0 : Nat) : Int) = q by omega]
    have main : ∀ gs : List GrT, Ok ((loopM (ρ := GrT) (fun (b1 : Unit) (x_one : GrT) => (eqG x_one.a (⟨q :: Q⟩ : Tp Int)).bind fun t5 => if t5 = true then some (Lp.rt x_one) else some (Lp.nx ())) () gs).bind fun o3 => o3.thn (fun (b6 : Unit) => some (⟨⟨q :: Q⟩, 0, 0, false⟩ : GrT)) (fun (r_ : GrT) => some r_)) (· = match gs.find? (fun x => decide (x.a.l = q :: Q)) with
        | some x => x
        | none => ⟨⟨q :: Q⟩, 0, 0, false⟩) := fun gs => by
      induction gs with
      | nil => exact .ret rfl
      | cons x gs ih =>
        have ex : eqG x.a (⟨q :: Q⟩ : Tp Int) = some (decide (x.a.l = q :: Q)) := by
          rw [eqG_F]
          congr 1
          rw [decide_eq_decide]
          obtain ⟨l⟩ := x.a
          exact ⟨fun e => congrArg Tp.l e, fun e => congrArg Tp.mk e⟩
        by_cases h : x.a.l = q :: Q
        · rw [loopM_rt (r := x) (by rw [ex, decide_eq_true h]; rfl), List.find?_cons_of_pos (p := fun x : GrT => decide (x.a.l = q :: Q)) (decide_eq_true h)]
          exact .ret rfl
        · rw [loopM_nx (b' := ()) (by rw [ex, decide_eq_false h]; rfl), List.find?_cons_of_neg (p := fun x : GrT => decide (x.a.l = q :: Q)) (by rw [decide_eq_false h]; decide)]
          exact ih
    have := main (grpL [] 0 0 its)
    rw [hf] at this
    unfold m_at
    refine this.mono fun r e => ?_
    rw [e]
    cases lookI its 0 (q :: Q) <;> rfl
theorem lookI_nil {f : Nat} : ∀ {Q : List Int}, lookI [] f Q = none
  | [] => rfl
  | [q] => by rw [lookI]; split <;> rfl
  | q :: q2 :: Q => by rw [lookI]; split <;> rfl
def istep : (Option UItem × Tp UItem) → Int → Option (Lp (Option UItem × Tp UItem) (Option UItem)) := fun (b1 : ((Option UItem) × (Tp UItem))) (x_at : Int) => if (!((decide ((0 : Int) ≤ x_at)) && (decide (x_at < (b1.2.l.length : Int))))) = true then some (Lp.rt (none : (Option UItem))) else (L2.atI b1.2.l x_at).bind fun t5 => (some (some t5)).bind fun x_found => (some (Tp.mk ([] : List UItem))).bind fun x_items => (x_found).bind fun t6 => if (decide (t6.tag = ("sweep" : Str))) = true then (x_found).bind fun t7 => (t7.asv_sweep).bind fun t8 => (some t8.d).bind fun x_items => some (Lp.nx (x_found, x_items)) else some (Lp.nx (x_found, x_items))
def subs : UItem → List UItem
  | .v_sweep _ _ sub => sub
  | .v_deed _ _ => []
theorem istep_in {fo : Option UItem} {L : List UItem} {q : Int} {it : UItem} (h : 0 ≤ q ∧ q < (L.length : Int)) (ha : L2.atI L q = some it) : istep (fo, ⟨L⟩) q = some (.nx (some it, ⟨subs it⟩)) := by
  have e : (decide ((0 : Int) ≤ q) && decide (q < (((⟨L⟩ : Tp UItem).l.length : Nat) : Int))) = true := by
    rw [decide_eq_true h.1, decide_eq_true (show q < (((⟨L⟩ : Tp UItem).l.length : Nat) : Int) from h.2)]; rfl
  unfold istep
  show (if (!(decide ((0 : Int) ≤ q) && decide (q < (((⟨L⟩ : Tp UItem).l.length : Nat) : Int)))) = true then _ else (L2.atI L q).bind _) = _
  rw [if_neg (by rw [e]; decide), ha]
  cases it with
  | v_deed a b => exact (if_neg (t := none) (show ¬ decide (("deed" : Str) = "sweep") = true by decide)).trans rfl
  | v_sweep c w sub => exact (if_pos (e := some (.nx (some (.v_sweep c w sub), ⟨[]⟩))) (show decide (("sweep" : Str) = "sweep") = true by decide)).trans rfl
theorem istep_out {fo : Option UItem} {L : List UItem} {q : Int} (h : ¬ (0 ≤ q ∧ q < (L.length : Int))) : istep (fo, ⟨L⟩) q = some (.rt none) := by
  have hb : (decide ((0 : Int) ≤ q) && decide (q < (((⟨L⟩ : Tp UItem).l.length : Nat) : Int))) = false := by
    rw [Bool.and_eq_false_iff]
    by_cases h0 : 0 ≤ q
    · exact .inr (decide_eq_false fun z => h ⟨h0, z⟩)
    · exact .inl (decide_eq_false h0)
  unfold istep
  show (if (!(decide ((0 : Int) ≤ q) && decide (q < (((⟨L⟩ : Tp UItem).l.length : Nat) : Int)))) = true then _ else _) = _
  rw [if_pos (by rw [hb]; rfl)]
theorem item_at_ok (its : List UItem) (f : Nat) {P : List Int} (hP : P ≠ []) : Ok (m_item_at ⟨its⟩ ⟨P⟩) (· = (lookI its f P).map (·.2)) := by
  have main : ∀ (Q : List Int) (L : List UItem) (f : Nat) (fo : Option UItem), Ok ((loopM (ρ := (Option UItem)) istep (fo, ⟨L⟩) Q).bind fun o3 => o3.thn (fun (b9 : ((Option UItem) × (Tp UItem))) => some b9.1) (fun (r_ : (Option UItem)) => some r_)) (· = if Q = [] then fo else (lookI L f Q).map (·.2)) := by
    intro Q
    induction Q with
    | nil => intro L f fo; exact .ret rfl
    | cons q Q ih =>
      intro L f fo
      rw [if_neg (by simp)]
      by_cases h : 0 ≤ q ∧ q < (L.length : Int)
      · obtain ⟨it, hi⟩ : ∃ it, L[q.toNat]? = some it := ⟨_, List.getElem?_eq_getElem (by omega)⟩
        have ha : L2.atI L q = some it := by rw [atI_nn h.1]; exact hi
        have st : ((lookI L f (q :: Q)).map (·.2) = if Q = [] then some it else (lookI (subs it) (f + cnt.cnts (L.take q.toNat)) Q).map (·.2)) := by
          cases Q with
          | nil => rw [if_pos rfl, lookI, if_neg (by omega), hi]; rfl
          | cons q2 Q2 =>
            rw [if_neg (by simp), lookI, if_neg (by omega), hi]
            cases it with
            | v_deed a b => show none = (lookI [] _ _).map _; rw [lookI_nil]; rfl
            | v_sweep c w sub => rfl
        rw [loopM_nx (istep_in h ha), st]
        exact ih _ _ _
      · rw [loopM_rt (istep_out h)]
        refine .ret ?_
        by_cases h0 : q < 0
        · rw [lookI_neg h0]; rfl
        · have hn : L[q.toNat]? = none := List.getElem?_eq_none (by omega)
          cases Q with
          | nil => rw [lookI, if_neg h0, hn]; rfl
          | cons q2 Q2 => rw [lookI, if_neg h0, hn]; rfl
  unfold m_item_at
  refine .bindE rfl (.bindE rfl ?_)
  have := main P its f none
  rwa [if_neg hP] at this
theorem sweep_at_ok (its : List UItem) (f : Nat) {P : List Int} (hP : P ≠ []) : Ok (m_sweep_at ⟨its⟩ ⟨P⟩) (· = match lookI its f P with
    | some (_, .v_sweep c w sub) => Rs.v (.v_sweep c w sub)
    | _ => Rs.x Xn.NoTurning) := by
  unfold m_sweep_at
  refine .bind (item_at_ok its f hP) fun t e => .bindE rfl ?_
  subst e
  cases h : lookI its f P with
  | none => exact .ret rfl
  | some r =>
    obtain ⟨k, it⟩ := r
    cases it with
    | v_deed a b =>
      show Ok (if (!decide (("deed" : Str) = "sweep")) = true then _ else _) _
      rw [if_pos (by decide)]; exact .ret rfl
    | v_sweep c w sub =>
      show Ok (if (!decide (("sweep" : Str) = "sweep")) = true then _ else _) _
      rw [if_neg (by decide)]; exact .ret rfl
theorem Tr.ilen {d : Nat} {bs : List LfT} {its : List UItem} (h : Tr d bs its) : its.length ≤ bs.length := by
  induction h with
  | nil => exact Nat.le_refl _
  | deed _ _ _ ih => simpa using ih
  | sweep _ _ _ _ _ _ ih2 =>
    simp only [List.length_cons, List.length_append] at ih2 ⊢
    omega
theorem Tr.sub {d : Nat} {bs : List LfT} {its : List UItem} (h : Tr d bs its) {p : Nat} {c : Bool} {w : Str} {sub : List UItem} (hi : its[p]? = some (.v_sweep c w sub)) : ∃ G, Tr (d + 1) G sub ∧ G.length ≤ bs.length ∧ sub ≠ [] := by
  rw [at_split hi] at h
  obtain ⟨a, b, rfl, ha, hb, _⟩ := h.split
  generalize e1 : UItem.v_sweep c w sub :: its.drop (p + 1) = its1 at hb
  cases hb with
  | nil => cases e1
  | deed _ _ _ => cases e1
  | @sweep _ x g r w1 sub1 its1 hw hg hr hs hrest =>
    obtain ⟨e2, e3⟩ := List.cons.inj e1
    cases e2
    refine ⟨x :: g, hs, by simp only [List.length_append, List.length_cons]; omega, fun e => ?_⟩
    subst e
    cases hs
theorem put_ok {J : List UItem} (hJ : J.length ≤ 1000) {m : Nat} : ∀ (Q : List Int) (n d f : Nat) (bs : List LfT) (its : List UItem) (r : Nat × UItem), Q.length ≤ n → Tr d bs its → bs.length ≤ 1000 → lookI its f Q = some r → Ok (m_put n ⟨its⟩ ⟨Q⟩ (m : Int) ⟨J⟩) (· = ⟨putL its (Q.map Int.toNat) m J⟩)
  | [], n, d, f, bs, its, r, _, _, _, h => by cases h
  | [q], 0, d, f, bs, its, r, hn, _, _, _ => absurd hn (by simp)
  | [q], n + 1, d, f, bs, its, r, hn, ht, hl, h => by
    have il := ht.ilen
    have hq : 0 ≤ q := Int.not_lt.mp fun z => by rw [lookI_neg z] at h; cases h
    rw [m_put]
    refine .bindE (show L2.atI [q] (0 : Int) = some q from rfl) (.bindE rfl ?_)
    rw [if_pos (by rfl), cut_to hq, cut_from (by omega), catT_p (by show (its.take q.toNat).length + J.length ≤ _; rw [List.length_take]; omega)]
    refine .bindE rfl ?_
    rw [catT_p (by show (its.take q.toNat ++ J).length + (its.drop (q + (m : Int)).toNat).length ≤ _; rw [List.length_append, List.length_take, List.length_drop]; omega)]
    refine .bindE rfl (.ret ?_)
    show (⟨its.take q.toNat ++ J ++ its.drop (q + (m : Int)).toNat⟩ : Tp UItem) = ⟨its.take q.toNat ++ (J ++ its.drop (q.toNat + m))⟩
    rw [List.append_assoc, show (q + (m : Int)).toNat = q.toNat + m by omega]
  | q :: q2 :: Q, 0, d, f, bs, its, r, hn, _, _, _ => absurd hn (by simp)
  | q :: q2 :: Q, n + 1, d, f, bs, its, r, hn, ht, hl, h => by
    have il := ht.ilen
    have hq : 0 ≤ q := Int.not_lt.mp fun z => by rw [lookI_neg z] at h; cases h
    rw [lookI, if_neg (by omega)] at h
    cases hi : its[q.toNat]? with
    | none => rw [hi] at h; cases h
    | some it =>
      rw [hi] at h
      cases it with
      | v_deed a b => cases h
      | v_sweep c w sub =>
        obtain ⟨G, hG, gl, _⟩ := ht.sub hi
        rw [m_put]
        refine .bindE (atI_at (xs := q :: q2 :: Q) (k := 0) rfl) (.bindE rfl ?_)
        rw [if_neg (fun z => by
          have z := of_decide_eq_true z
          have z : ((q :: q2 :: Q).length : Int) = 1 := z
          simp only [List.length_cons] at z
          omega)]
        refine .bindE (by rw [atI_nn hq]; exact hi) (.bindE (x := ⟨"sweep", c, w, ⟨sub⟩⟩) rfl (.bindE rfl ?_))
        have ec : cut (q :: q2 :: Q) (some (1 : Int)) none = q2 :: Q := by rw [cut_from (by decide)]; rfl
        rw [ec]
        refine .bind (put_ok hJ (q2 :: Q) n (d + 1) _ G sub r (by simpa using hn) hG (by omega) h) fun t e => ?_
        subst e
        refine .bindE (x := .v_sweep c w (putL sub ((q2 :: Q).map Int.toNat) m J)) (by show (if (("sweep" : Str) = "sweep") then some _ else none) = _; rw [if_pos rfl]) ?_
        rw [cut_to hq, cut_from (by omega), catT_p (by show (its.take q.toNat).length + 1 ≤ _; rw [List.length_take]; omega)]
        refine .bindE rfl ?_
        rw [catT_p (by show (its.take q.toNat ++ [_]).length + (its.drop (q + 1).toNat).length ≤ _; rw [List.length_append, List.length_take, List.length_drop]; simp only [List.length_cons, List.length_nil]; omega)]
        refine .bindE rfl (.ret ?_)
        show (⟨its.take q.toNat ++ [.v_sweep c w (putL sub ((q2 :: Q).map Int.toNat) m J)] ++ its.drop (q + 1).toNat⟩ : Tp UItem) = ⟨putL its (q.toNat :: q2.toNat :: Q.map Int.toNat) m J⟩
        rw [putL, hi, List.append_assoc, show (q + 1).toNat = q.toNat + 1 by omega]
        rfl
/-- the plan of leaves is told by their tree -/
theorem items_tr : ∀ (n d : Nat) (bs : List LfT) (its : List UItem), 7 ≤ n + d → d ≤ 6 → bs.length ≤ 1000 → Tr d bs its → (∀ x ∈ bs, x.c.length ≤ 6) → Ok (m_items n bs (d : Int)) (· = ⟨its⟩)
  | 0, d, bs, its, h1, h2, _, _, _ => absurd h1 (by omega)
  | n + 1, d, bs, its, h1, h2, hl, ht, hb => by
    rw [m_items]
    have il := ht.ilen
    refine .bindE rfl (.bindE rfl (.bind (Ok.whileN (Q := fun b : List UItem × Int => b.1 = its) (fun b : List UItem × Int => ∃ i j a c, its = i ++ j ∧ bs = a ++ c ∧ Tr d a i ∧ Tr d c j ∧ b.2 = (a.length : Int) ∧ b.1 = i) (fun b => bs.length - b.2.toNat) ⟨[], its, [], bs, rfl, rfl, .nil d, ht, rfl, rfl⟩ (by show bs.length - 0 < 100000; omega) ?_) fun b hb => .ret (by rw [hb])))
    intro b ⟨i, j, a, c, e1, e2, ha, hc, e3, e5⟩
    have bl : bs.length = a.length + c.length := by rw [e2, List.length_append]
    have ijl : its.length = i.length + j.length := by rw [e1, List.length_append]
    rw [e3, e5]
    refine .ret ⟨fun hlt => ?_, fun hge => ?_⟩
    · have hlt := of_decide_eq_true hlt
      have hk : a.length < bs.length := by omega
      refine .bindE rfl ?_
      cases hc with
      | nil => rw [List.length_nil] at bl; omega
      | @deed _ x r its2 hx hr h =>
        have hx1 : bs[a.length]? = some x := by rw [e2, List.getElem?_append_right (Nat.le_refl _), Nat.sub_self]; rfl
        refine .bindE (atI_at hx1) (.bindE rfl (.bind (P := fun q : List UItem × Int => q = (i ++ [.v_deed x.a ⟨x.d⟩], ((a ++ [x]).length : Int))) ?_ fun q hq => ?_))
        · rw [if_pos (by show decide ((x.c.length : Int) = (d : Int)) = true; exact decide_eq_true (by omega)), app_p (by omega)]
          refine .bindE rfl (.ret ?_)
          rw [List.length_append]
          rfl
        · subst hq
          refine .bindE rfl (.ret ⟨⟨i ++ [.v_deed x.a ⟨x.d⟩], its2, a ++ [x], r, by rw [e1, List.append_assoc]; rfl, by rw [e2, List.append_assoc]; rfl, ha.app' (.deed hx (fun y e => by cases e) (.nil d)) fun hi => ?_, h, rfl, rfl⟩, ?_⟩)
          · rw [e1, e2] at ht
            obtain ⟨a', b', e6, t1, t2, t3⟩ := ht.split
            have el : a'.length = a.length := by rw [t1.len, ha.len]
            obtain ⟨rfl, rfl⟩ := List.append_inj e6.symm el
            exact fun z e => t3 hi z e
          · show bs.length - ((a ++ [x]).length : Int).toNat < bs.length - (a.length : Int).toNat
            rw [List.length_append, List.length_cons, List.length_nil]; omega
      | @sweep _ x g r w sub its2 hw hg hr hs h =>
        have hx1 : bs[a.length]? = some x := by rw [e2, List.getElem?_append_right (Nat.le_refl _), Nat.sub_self]; rfl
        have hw1 := hw x List.mem_cons_self
        have hd := (List.getElem?_eq_some_iff.mp hw1).1
        have x6 := hb x (List.mem_of_getElem? hx1)
        have ex : bs.drop (a.length + 1) = g ++ r := by rw [e2, ← List.drop_drop, List.drop_left]; rfl
        refine .bindE (atI_at hx1) (.bindE rfl (.bind (P := fun q : List UItem × Int => q = (i ++ [.v_sweep w.a w.b sub], ((a ++ (x :: g)).length : Int))) ?_ fun q hq => ?_))
        · rw [if_neg (by show ¬ decide ((x.c.length : Int) = (d : Int)) = true; exact fun z => absurd (of_decide_eq_true z) (by omega))]
          refine .bind (run_ok hl (d := (d : Int)) (k := a.length + 1) hk) fun u ⟨k', e', g1, g2, g3, g4⟩ => ?_
          subst e'
          have eg : (bs.drop (a.length + 1)).take (k' - (a.length + 1)) = g ∧ bs.drop k' = r := by
            have e6 : (bs.drop (a.length + 1)).take (k' - (a.length + 1)) ++ bs.drop k' = g ++ r := by
              have e7 : bs.drop k' = (bs.drop (a.length + 1)).drop (k' - (a.length + 1)) := by rw [List.drop_drop]; congr 1; omega
              rw [e7, List.take_append_drop, ex]
            exact span_uniq (P := fun y : LfT => (d : Int) < y.b) g3 hg (fun y hy => g4 y (by rw [List.head?_drop] at hy; exact hy)) hr e6
          have kl : k' = a.length + 1 + g.length := by
            have := congrArg List.length eg.1
            rw [List.length_take, List.length_drop] at this
            omega
          have ec : cut bs (some (a.length : Int)) (some (k' : Int)) = x :: g := by
            rw [cut_mid (by omega) (by omega), Int.toNat_natCast, Int.toNat_natCast, drop_at hx1, show k' - a.length = (k' - (a.length + 1)) + 1 by omega, List.take_succ_cons, eg.1]
          rw [ec]
          refine .bind (items_tr n (d + 1) (x :: g) sub (by omega) (by omega) (by rw [e2, List.length_append] at hl; rw [List.length_cons] at hl ⊢; rw [List.length_append] at hl; omega) hs fun y m => hb y (by
            rw [e2]; refine List.mem_append_right _ ?_
            rcases List.mem_cons.mp m with e | m
            · exact e ▸ List.mem_cons_self
            · exact List.mem_cons_of_mem _ (List.mem_append_left _ m))) fun t e7 => ?_
          subst e7
          refine .bindE rfl (.bindE (atI_at hw1) (.bindE (atI_at hw1) ?_))
          rw [app_p (by omega)]
          refine .bindE rfl (.ret ?_)
          show (i ++ [.v_sweep w.a w.b sub], (k' : Int)) = _
          congr 1
          rw [List.length_append, List.length_cons]; omega
        · subst hq
          refine .bindE rfl (.ret ⟨⟨i ++ [.v_sweep w.a w.b sub], its2, a ++ (x :: g), r, by rw [e1, List.append_assoc]; rfl, by rw [e2, List.append_assoc]; rfl, ha.app' ?_ fun hi => ?_, h, rfl, rfl⟩, ?_⟩)
          · have := Tr.sweep (r := []) hw hg (fun y e => by cases e) hs (.nil d)
            rwa [List.append_nil] at this
          · rw [e1, e2] at ht
            obtain ⟨a', b', e6, t1, t2, t3⟩ := ht.split
            have el : a'.length = a.length := by rw [t1.len, ha.len]
            obtain ⟨rfl, rfl⟩ := List.append_inj e6.symm el
            exact fun z e => t3 hi z e
          · show bs.length - ((a ++ (x :: g)).length : Int).toNat < bs.length - (a.length : Int).toNat
            rw [List.length_append, List.length_cons]; omega
    · have hge : ¬ (a.length : Int) < bs.length := of_decide_eq_false hge
      have : c = [] := List.eq_nil_of_length_eq_zero (by omega)
      subst this
      cases hc
      rw [e1, List.append_nil]
/-! ### kinds, texts, depth -/
theorem kinds_ok : ∀ (n d : Nat) (bs : List LfT) (its : List UItem), 7 ≤ n + d → d ≤ 6 → Tr d bs its → (∀ x ∈ bs, x.c.length ≤ 6) → m_kinds n ⟨its⟩ = some true
  | 0, d, bs, its, h1, h2, _, _ => absurd h1 (by omega)
  | n + 1, d, bs, its, h1, h2, ht, hb => by
    rw [m_kinds]
    refine Ok.eq (Ok.thn (fun o => o = .nx ()) ?_ (fun b _ => .ret rfl) (fun b e => nomatch e) fun r e => nomatch e)
    refine Ok.loopM (J := fun _ ys => ∃ c, Tr d c ys ∧ ∀ x ∈ c, x.c.length ≤ 6) ⟨bs, ht, hb⟩ (fun b x ys ⟨c, hc, hcb⟩ => ?_) fun _ _ => rfl
    cases hc with
    | @deed _ y r _ hx hr h =>
      refine .of (x := .nx ()) ?_ ⟨r, h, fun z m => hcb z (List.mem_cons_of_mem _ m)⟩
      show (if decide (("deed" : Str) = "deed") = true then _ else _) = _
      rw [if_pos (by decide)]
      refine Ok.eq (.bindE rfl ?_)
      refine Ok.thn (fun o => o = .nx ()) (Ok.loopM (J := fun _ _ => True) trivial (fun _ _ _ _ => .ret trivial) fun _ _ => rfl) (fun b _ => ?_) (fun b e => nomatch e) fun r e => nomatch e
      exact .ret rfl
    | @sweep _ y g r w sub _ hw hg hr hs h =>
      have hd := (List.getElem?_eq_some_iff.mp (hw y List.mem_cons_self)).1
      have y6 := hcb y List.mem_cons_self
      have hk := kinds_ok n (d + 1) (y :: g) sub (by omega) (by omega) hs fun z m => hcb z (by
        rcases List.mem_cons.mp m with e | m
        · exact e ▸ List.mem_cons_self
        · exact List.mem_cons_of_mem _ (List.mem_append_left _ m))
      refine .of (x := .nx ()) ?_ ⟨r, h, fun z m => hcb z (List.mem_cons_of_mem _ (List.mem_append_right _ m))⟩
      show (if decide (("sweep" : Str) = "deed") = true then _ else _) = _
      rw [if_neg (by decide)]
      refine Ok.eq (.bindE (x := false) rfl ?_)
      refine .bind (P := (· = false)) ?_ fun t e => by subst e; exact .ret rfl
      show Ok (if decide (("sweep" : Str) = "sweep") = true then _ else _) _
      rw [if_pos (by decide)]
      refine .bindE rfl (.bind (P := (· = false)) ?_ fun t e => by subst e; exact .ret rfl)
      rw [if_neg (by decide)]
      exact .bindE rfl (.bindE hk (.ret rfl))
theorem Ds_map : ∀ l : List UItem, UItem.Ds l = l.map UItem.D
  | [] => by rw [UItem.Ds]; rfl
  | x :: xs => by rw [UItem.Ds, Ds_map xs]; rfl
theorem sok_deed : sok ("deed" : Str) := by unfold sok; decide +kernel
theorem sok_sweep : sok ("sweep" : Str) := by unfold sok; decide +kernel
def TxL (x : LfT) : Prop := ∀ w ∈ x.c, sok w.b
theorem Tr.shape {d : Nat} {bs : List LfT} {its : List UItem} (h : Tr d bs its) : (∀ x ∈ bs, x.c.length ≤ 6 ∧ TxL x) → PyData.depthAll (UItem.Ds its) ≤ 4 + 2 * (6 - d) ∧ PyData.canLayAll0 (UItem.Ds its) = true := by
  induction h with
  | nil d => intro _; rw [UItem.Ds]; exact ⟨by rw [PyData.depthAll]; exact Nat.zero_le _, by rw [PyData.canLayAll0]⟩
  | @deed d x r its hx _ _ ih =>
    intro hb
    obtain ⟨i1, i2⟩ := ih fun y m => hb y (List.mem_cons_of_mem _ m)
    have h0 : (Pd.toD (T3.mk ("deed" : Str) x.a (Tp.mk x.d))).depth ≤ 4 := Nat.le_trans (PdS.de _) (by decide)
    have h1 : (Pd.toD (T3.mk ("deed" : Str) x.a (Tp.mk x.d))).canLay0 = true := PdL.ok (show sok "deed" ∧ True ∧ (∀ y ∈ x.d, True ∧ True ∧ True) ∧ True from ⟨sok_deed, trivial, fun _ _ => ⟨trivial, trivial, trivial⟩, trivial⟩)
    have e : UItem.D (.v_deed x.a ⟨x.d⟩) = Pd.toD (T3.mk ("deed" : Str) x.a (Tp.mk x.d)) := by rw [UItem.D]; rfl
    rw [UItem.Ds, PyData.depthAll, PyData.canLayAll0, e, h1, i2]
    exact ⟨by omega, rfl⟩
  | @sweep d x g r w sub its hw hg _ _ _ ih1 ih2 =>
    intro hb
    have hd := (List.getElem?_eq_some_iff.mp (hw x List.mem_cons_self)).1
    obtain ⟨b1, b2⟩ := hb x List.mem_cons_self
    have hs : sok w.b := b2 w (List.mem_of_getElem? (hw x List.mem_cons_self))
    obtain ⟨i1, i2⟩ := ih2 fun y m => hb y (List.mem_cons_of_mem _ (List.mem_append_right _ m))
    obtain ⟨j1, j2⟩ := ih1 fun y m => hb y (by
        rcases List.mem_cons.mp m with e | m
        · exact e ▸ List.mem_cons_self
        · exact List.mem_cons_of_mem _ (List.mem_append_left _ m))
    have l1 : (Pd.toD w.b).canLay0 = true := lay_str hs
    have l0 : PyData.strOk ("sweep" : Str) = true := by
      have := lay_str sok_sweep
      have : (PyData.str "sweep").canLay0 = true := this
      rwa [PyData.canLay0] at this
    have l2 : (Pd.toD w.a).canLay0 = true := PdF.ok w.a
    have d1 : (Pd.toD w.b).depth ≤ 0 := PdS.de w.b
    have d2 : (Pd.toD w.a).depth ≤ 0 := PdS.de w.a
    have d0 : (PyData.str "sweep").depth ≤ 0 := PdS.de ("sweep" : Str)
    rw [UItem.Ds, UItem.D]
    refine ⟨?_, ?_⟩
    · rw [PyData.depthAll, PyData.depth, PyData.depthAll, PyData.depthAll, PyData.depthAll, PyData.depthAll, PyData.depthAll]
      rw [show (PyData.tuple (UItem.Ds sub)).depth = PyData.depthAll (UItem.Ds sub) + 1 by rw [PyData.depth]]
      omega
    · simp only [PyData.canLayAll0, PyData.canLay0, l0, l1, l2, i2, j2, Bool.and_self]
theorem Tr.okD {bs : List LfT} {its : List UItem} (h : Tr 0 bs its) (hb : ∀ x ∈ bs, x.c.length ≤ 6 ∧ TxL x) : Gx.okD (⟨its⟩ : Tp UItem) = true := by
  obtain ⟨h1, h2⟩ := h.shape hb
  have e : Pd.toD (⟨its⟩ : Tp UItem) = .tuple (UItem.Ds its) := by rw [Ds_map]; rfl
  unfold Gx.okD SeqAt.shaped
  rw [e, PyData.canLay0, h2, PyData.depth]
  exact decide_eq_true (by omega)
theorem mid_at {α : Type} {l : List α} {p : Nat} (hp : p ≤ l.length) {X : α} {R : List α} : (l.take p ++ X :: R)[p]? = some X ∧ (l.take p ++ X :: R).take p = l.take p ∧ (l.take p ++ X :: R).drop (p + 1) = R := by
  have e : (l.take p).length = p := by rw [List.length_take]; omega
  refine ⟨?_, ?_, ?_⟩
  · rw [List.getElem?_append_right (by omega), e, Nat.sub_self]; rfl
  · rw [List.take_append_of_le_length (by omega), List.take_of_length_le (by omega)]
  · have := List.drop_append (l₁ := l.take p) (l₂ := X :: R) (i := p + 1)
    rw [this, List.drop_eq_nil_of_le (by omega), e, show p + 1 - p = 1 by omega]; rfl
/-- the path of the item beside -/
def sib : List Int → List Int
  | [] => [1]
  | [q] => [q + 1]
  | q :: q2 :: Q => q :: sib (q2 :: Q)
theorem sib_ok : ∀ {P : List Int}, P ≠ [] → ∃ a, L2.atI P (-1) = some a ∧ cut P none (some (-1 : Int)) ++ [a + 1] = sib P ∧ sib P ≠ [] ∧ (sib P).length = P.length
  | [], h => absurd rfl h
  | [q], _ => ⟨q, rfl, rfl, by simp [sib], rfl⟩
  | q :: q2 :: Q, _ => by
    obtain ⟨a, e1, e2, e3, e4⟩ := sib_ok (P := q2 :: Q) (by simp)
    refine ⟨a, ?_, ?_, by simp [sib], by rw [sib, List.length_cons, e4]; rfl⟩
    · rw [atI_last (by simp)] at e1 ⊢
      rw [List.getLast_cons (by simp)]; exact e1
    · rw [sib, ← e2, cut_init, cut_init]
      simp
theorem look1 {its : List UItem} {f : Nat} {q : Int} {r : Nat × UItem} (h : lookI its f [q] = some r) : 0 ≤ q ∧ its[q.toNat]? = some r.2 ∧ r.1 = f + cnt.cnts (its.take q.toNat) := by
  have hq : 0 ≤ q := Int.not_lt.mp fun z => by rw [lookI_neg z] at h; cases h
  rw [lookI, if_neg (by omega)] at h
  cases hi : its[q.toNat]? with
  | none => rw [hi] at h; cases h
  | some it => rw [hi] at h; cases h; exact ⟨hq, rfl, rfl⟩
theorem look2 {its : List UItem} {f : Nat} {q q2 : Int} {Q : List Int} {r : Nat × UItem} (h : lookI its f (q :: q2 :: Q) = some r) : 0 ≤ q ∧ ∃ c w sub, its[q.toNat]? = some (.v_sweep c w sub) ∧ lookI sub (f + cnt.cnts (its.take q.toNat)) (q2 :: Q) = some r := by
  have hq : 0 ≤ q := Int.not_lt.mp fun z => by rw [lookI_neg z] at h; cases h
  rw [lookI, if_neg (by omega)] at h
  cases hi : its[q.toNat]? with
  | none => rw [hi] at h; cases h
  | some it =>
    rw [hi] at h
    cases it with
    | v_deed a b => cases h
    | v_sweep c w sub => exact ⟨hq, c, w, sub, rfl, h⟩
theorem look_off : ∀ (P : List Int) (its : List UItem) (f : Nat) (r : Nat × UItem), lookI its f P = some r → (∃ t, fromL its (P.map Int.toNat) = r.2 :: t) ∧ r.1 = f + offL its (P.map Int.toNat)
  | [], its, f, r, h => by cases h
  | [q], its, f, r, h => by
    obtain ⟨_, h2, h3⟩ := look1 h
    exact ⟨⟨_, drop_at h2⟩, h3⟩
  | q :: q2 :: Q, its, f, r, h => by
    obtain ⟨_, c, w, sub, h2, h3⟩ := look2 h
    obtain ⟨⟨t, e1⟩, e2⟩ := look_off (q2 :: Q) sub _ r h3
    refine ⟨⟨t, ?_⟩, ?_⟩
    · show fromL its (q.toNat :: q2.toNat :: Q.map Int.toNat) = _
      rw [fromL, h2]; exact e1
    · show r.1 = f + offL its (q.toNat :: q2.toNat :: Q.map Int.toNat)
      rw [offL, h2, e2, Nat.add_assoc]; rfl
theorem look_two : ∀ (P : List Int) (its : List UItem) (f : Nat) (r r2 : Nat × UItem), lookI its f P = some r → lookI its f (sib P) = some r2 → (∃ t, fromL its (P.map Int.toNat) = r.2 :: r2.2 :: t) ∧ r2.1 = r.1 + cnt r.2
  | [], its, f, r, _, h, _ => by cases h
  | [q], its, f, r, r2, h, hs => by
    obtain ⟨h1, h2, h3⟩ := look1 h
    obtain ⟨_, g2, g3⟩ := look1 hs
    rw [show (q + 1).toNat = q.toNat + 1 by omega] at g2 g3
    refine ⟨⟨_, by show its.drop q.toNat = _; rw [drop_at h2, drop_at g2]⟩, ?_⟩
    rw [g3, h3, List.take_succ, h2, cnts_app]
    show _ = f + cnt.cnts _ + cnt r.2
    have : cnt.cnts (some r.2).toList = cnt r.2 := by show cnt r.2 + 0 = _; rfl
    rw [this]; omega
  | q :: q2 :: Q, its, f, r, r2, h, hs => by
    obtain ⟨_, c, w, sub, h2, h3⟩ := look2 h
    have e : ∃ b B, sib (q2 :: Q) = b :: B := by cases Q <;> exact ⟨_, _, rfl⟩
    obtain ⟨b, B, e⟩ := e
    have hs : lookI its f (q :: sib (q2 :: Q)) = some r2 := hs
    rw [e] at hs
    obtain ⟨_, c', w', sub', g2, g3⟩ := look2 hs
    rw [h2] at g2; cases g2
    rw [← e] at g3
    obtain ⟨⟨t, e1⟩, e2⟩ := look_two (q2 :: Q) sub _ r r2 h3 g3
    refine ⟨⟨t, ?_⟩, e2⟩
    show fromL its (q.toNat :: q2.toNat :: Q.map Int.toNat) = _
    rw [fromL, h2]; exact e1
theorem Tr.sub2 {d : Nat} {bs : List LfT} {its : List UItem} (h : Tr d bs its) {p : Nat} {c : Bool} {w : Str} {sub : List UItem} (hi : its[p]? = some (.v_sweep c w sub)) : ∃ a x g r, bs = a ++ (x :: (g ++ r)) ∧ a.length = cnt.cnts (its.take p) ∧ Tr (d + 1) (x :: g) sub ∧ (∀ y ∈ x :: g, y.c[d]? = some ⟨c, w⟩) ∧ (∀ y ∈ g, (d : Int) < y.b) := by
  rw [at_split hi] at h
  obtain ⟨a, b, rfl, ha, hb, _⟩ := h.split
  generalize e1 : UItem.v_sweep c w sub :: its.drop (p + 1) = its1 at hb
  cases hb with
  | nil => cases e1
  | deed _ _ _ => cases e1
  | @sweep _ x g r w1 sub1 its1 hw hg hr hs hrest =>
    obtain ⟨e2, e3⟩ := List.cons.inj e1
    cases e2
    exact ⟨a, x, g, r, rfl, ha.len, hs, hw, hg⟩
theorem Tr.lk : ∀ (P : List Int) (d : Nat) (bs : List LfT) (its : List UItem) (f k : Nat) (c : Bool) (w : Str) (sub : List UItem), Tr d bs its → lookI its f P = some (k, .v_sweep c w sub) → ∃ o y, k = f + o ∧ bs[o]? = some y ∧ y.c[d + P.length - 1]? = some ⟨c, w⟩
  | [], d, bs, its, f, k, c, w, sub, _, h => by cases h
  | [q], d, bs, its, f, k, c, w, sub, ht, h => by
    obtain ⟨_, h2, h3⟩ := look1 h
    obtain ⟨a, x, g, r, rfl, e, _, hw, _⟩ := ht.sub2 h2
    refine ⟨a.length, x, by rw [e]; exact h3, ?_, hw x List.mem_cons_self⟩
    rw [List.getElem?_append_right (Nat.le_refl _), Nat.sub_self]; rfl
  | q :: q2 :: Q, d, bs, its, f, k, c, w, sub, ht, h => by
    obtain ⟨_, c', w', sub', h2, h3⟩ := look2 h
    obtain ⟨a, x, g, r, rfl, e, hs, hw, _⟩ := ht.sub2 h2
    obtain ⟨o, y, e1, e2, e3⟩ := Tr.lk (q2 :: Q) (d + 1) (x :: g) sub' _ k c w sub hs h3
    have ol := (List.getElem?_eq_some_iff.mp e2).1
    refine ⟨a.length + o, y, by rw [e1, e]; omega, ?_, ?_⟩
    · rw [List.getElem?_append_right (by omega), Nat.add_sub_cancel_left]
      have : x :: (g ++ r) = (x :: g) ++ r := rfl
      rw [this, List.getElem?_append_left ol]; exact e2
    · rw [← e3]; congr 1
      simp only [List.length_cons]; omega
theorem Tr.deep : ∀ (P : List Int) (d : Nat) (bs : List LfT) (its : List UItem) (f : Nat) (r : Nat × UItem), Tr d bs its → d ≤ 6 → (∀ x ∈ bs, x.c.length ≤ 6) → lookI its f P = some r → P.length + d ≤ 7
  | [], d, bs, its, f, r, _, _, _, h => by cases h
  | [q], d, bs, its, f, r, ht, hd, _, h => by simp only [List.length_cons, List.length_nil]; omega
  | q :: q2 :: Q, d, bs, its, f, r, ht, hd, hb, h => by
    obtain ⟨_, c', w', sub', h2, h3⟩ := look2 h
    obtain ⟨a, x, g, t, rfl, e, hs, hw, _⟩ := ht.sub2 h2
    have h6 := hb x (List.mem_append_right _ List.mem_cons_self)
    have hd2 := (List.getElem?_eq_some_iff.mp (hw x List.mem_cons_self)).1
    have := Tr.deep (q2 :: Q) (d + 1) (x :: g) sub' _ r hs (by omega) (fun y m => hb y (by
      refine List.mem_append_right _ ?_
      rcases List.mem_cons.mp m with e | m
      · exact e ▸ List.mem_cons_self
      · exact List.mem_cons_of_mem _ (List.mem_append_left _ m))) h3
    simp only [List.length_cons] at this ⊢; omega
theorem Tr.cpos {d : Nat} {bs : List LfT} {its : List UItem} (h : Tr d bs its) : ∀ it ∈ its, 1 ≤ cnt it := by
  induction h with
  | nil d => intro it m; cases m
  | deed _ _ _ ih =>
    intro it m
    rcases List.mem_cons.mp m with e | m
    · rw [e]; exact Nat.le_refl 1
    · exact ih it m
  | sweep _ _ _ hs _ ih1 ih2 =>
    intro it m
    rcases List.mem_cons.mp m with e | m
    · rw [e, cnt, ← hs.len, List.length_cons]; omega
    · exact ih2 it m
theorem cnts_pos {its : List UItem} (h : ∀ it ∈ its, 1 ≤ cnt it) : its.length ≤ cnt.cnts its := by
  induction its with
  | nil => exact Nat.zero_le _
  | cons x xs ih =>
    have := h x List.mem_cons_self
    have := ih fun it m => h it (List.mem_cons_of_mem _ m)
    rw [cnt.cnts, List.length_cons]; omega
theorem look_pos : ∀ (P : List Int) (d : Nat) (bs : List LfT) (its : List UItem) (f k : Nat) (c : Bool) (w : Str) (sub : List UItem), Tr d bs its → lookI its f P = some (k, .v_sweep c w sub) → ∀ it ∈ sub, 1 ≤ cnt it
  | [], d, bs, its, f, k, c, w, sub, _, h => by cases h
  | [q], d, bs, its, f, k, c, w, sub, ht, h => by
    obtain ⟨_, h2, h3⟩ := look1 h
    obtain ⟨a, x, g, r, rfl, e, hs, hw, _⟩ := ht.sub2 h2
    exact hs.cpos
  | q :: q2 :: Q, d, bs, its, f, k, c, w, sub, ht, h => by
    obtain ⟨_, c', w', sub', h2, h3⟩ := look2 h
    obtain ⟨a, x, g, r, rfl, e, hs, hw, _⟩ := ht.sub2 h2
    exact look_pos (q2 :: Q) (d + 1) (x :: g) sub' _ k c w sub hs h3
/-- leaves with their plan -/
structure Gd (L : List LfT) (its : List UItem) : Prop where
  tr : Tr 0 L its
  len : L.length ≤ 1000
  ne : L ≠ []
  lf : ∀ x ∈ L, x.c.length ≤ 6 ∧ TxL x
theorem Gd.lf6 {L : List LfT} {its : List UItem} (h : Gd L its) : ∀ x ∈ L, x.c.length ≤ 6 := fun x m => (h.lf x m).1
theorem Gd.up {L : List LfT} {its its2 : List UItem} (h : Gd L its) {q : Nat} {v : Int} (h2 : Tr 0 (upS L q v) its2) : Gd (upS L q v) its2 := by
  refine ⟨h2, by rw [upS_len]; exact h.len, fun e => h.ne (List.eq_nil_of_length_eq_zero (by rw [← upS_len (g := L) (q := q) (v := v), e]; rfl)), fun x m => ?_⟩
  obtain ⟨z, hz, e⟩ := upS_mem m
  rcases e with e | e
  · rw [e]; exact h.lf z hz
  · rw [e]; exact h.lf z hz
theorem Gd.glen {L : List LfT} {its : List UItem} (h : Gd L its) : (grpL [] 0 0 its).length ≤ 16777216 := by
  have := h.tr.glen h.lf6 [] 0 0
  have h2 := Nat.mul_le_mul (show 7 - 0 ≤ 7 by omega) h.len
  omega
theorem look_ne : ∀ (P : List Int) (d : Nat) (bs : List LfT) (its : List UItem) (f k : Nat) (c : Bool) (w : Str) (sub : List UItem), Tr d bs its → lookI its f P = some (k, .v_sweep c w sub) → sub ≠ []
  | [], d, bs, its, f, k, c, w, sub, _, h => by cases h
  | [q], d, bs, its, f, k, c, w, sub, ht, h => by
    obtain ⟨_, h2, h3⟩ := look1 h
    obtain ⟨a, x, g, r, rfl, e, hs, hw, _⟩ := ht.sub2 h2
    exact fun e => by subst e; cases hs
  | q :: q2 :: Q, d, bs, its, f, k, c, w, sub, ht, h => by
    obtain ⟨_, c', w', sub', h2, h3⟩ := look2 h
    obtain ⟨a, x, g, r, rfl, e, hs, hw, _⟩ := ht.sub2 h2
    exact look_ne (q2 :: Q) (d + 1) (x :: g) sub' _ k c w sub hs h3
theorem look_len : ∀ (P : List Int) (d : Nat) (bs : List LfT) (its : List UItem) (f k : Nat) (c : Bool) (w : Str) (sub : List UItem), Tr d bs its → bs.length ≤ 1000 → lookI its f P = some (k, .v_sweep c w sub) → sub.length ≤ 1000
  | [], d, bs, its, f, k, c, w, sub, _, _, h => by cases h
  | [q], d, bs, its, f, k, c, w, sub, ht, hl, h => by
    obtain ⟨_, h2, h3⟩ := look1 h
    obtain ⟨a, x, g, r, rfl, e, hs, hw, _⟩ := ht.sub2 h2
    have := hs.ilen; simp only [List.length_append, List.length_cons] at this hl; omega
  | q :: q2 :: Q, d, bs, its, f, k, c, w, sub, ht, hl, h => by
    obtain ⟨_, c', w', sub', h2, h3⟩ := look2 h
    obtain ⟨a, x, g, r, rfl, e, hs, hw, _⟩ := ht.sub2 h2
    exact look_len (q2 :: Q) (d + 1) (x :: g) sub' _ k c w sub hs (by simp only [List.length_append, List.length_cons] at hl ⊢; omega) h3
def oneP (its : List UItem) (P : List Int) : GrT := match lookI its 0 P with
  | some r => entP P r
  | none => ⟨⟨P⟩, 0, 0, false⟩
theorem atI_last1 {α : Type} {l : List α} {a : α} : L2.atI (l ++ [a]) (-1) = some a := by
  rw [atI_last (by simp)]; simp
theorem atI_last2 {α : Type} {l : List α} {a b : α} : L2.atI (l ++ [a, b]) (-2) = some a := by
  unfold L2.atI ixN
  rw [if_neg (by omega), if_pos (by simp; omega)]
  show (l ++ [a, b])[((-2 : Int) + (l ++ [a, b]).length).toNat]? = _
  have e : ((-2 : Int) + (l ++ [a, b]).length).toNat = l.length := by simp; omega
  rw [e, List.getElem?_append_right (Nat.le_refl _)]; simp
theorem cut_init1 {α : Type} {l : List α} {a : α} : cut (l ++ [a]) none (some (-(1 : Int))) = l := by
  show cut (l ++ [a]) none (some (-1 : Int)) = l
  rw [cut_init]; simp
theorem cut_init2 {α : Type} {l : List α} {a b : α} : cut (l ++ [a, b]) none (some (-(2 : Int))) = l := by
  show cut (l ++ [a, b]) none (some (-2 : Int)) = l
  unfold cut
  have e : HT.sIx (l ++ [a, b]).length (l ++ [a, b]).length (some (-2)) = l.length := by
    show (if (-2 : Int) < 0 then ((-2 : Int) + ((l ++ [a, b]).length : Int)).toNat else min (-2 : Int).toNat (l ++ [a, b]).length) = l.length
    rw [if_pos (by decide)]; simp; omega
  rw [HT.sIx_none, e]; simp
abbrev WyT := T2 Str Bool
abbrev StT := T3 (List WyT) (List Int) Int
structure Nx (a : List WyT) (b : List Int) (op : List WyT) (pa : List Int) : Prop where
  pre : ∀ s, s ≤ op.length → s ≤ b.length → b.take s = pa.take s → a.take s = op.take s
  less : ∀ s, s ≤ op.length → s < b.length → b.take s = pa.take s → ∃ u v, b[s]? = some u ∧ pa[s]? = some v ∧ u ≤ v ∧ (s = op.length → u < v)
theorem Nx.deny {a : List WyT} {b : List Int} {op : List WyT} {p0 : List Int} {z : Int} (h : Nx a b op (p0 ++ [z])) (hl : p0.length = op.length) {q : List Int} (hb : op.length + 1 ≤ b.length) (he : b.take (op.length + 1) = (p0 ++ [z] ++ q).take (op.length + 1)) : False := by
  have e0 : (p0 ++ [z] ++ q).take (op.length + 1) = p0 ++ [z] := by rw [List.take_left' (by rw [List.length_append, hl]; rfl)]
  rw [e0] at he
  have e1 : b.take op.length = (p0 ++ [z]).take op.length := by
    have := congrArg (List.take op.length) he
    rwa [List.take_take, Nat.min_eq_left (by omega)] at this
  obtain ⟨u, v, h1, h2, _, h4⟩ := h.less op.length (Nat.le_refl _) (by omega) e1
  have := h4 rfl
  have e2 := congrArg (·[op.length]?) he
  have e2 : (b.take (op.length + 1))[op.length]? = (p0 ++ [z])[op.length]? := e2
  rw [List.getElem?_take_of_lt (by omega), h1, h2] at e2
  cases e2
  omega
theorem Nx.push {a : List WyT} {b : List Int} {op : List WyT} {p0 : List Int} {z : Int} (h : Nx a b op (p0 ++ [z])) (hl : p0.length = op.length) (w : WyT) (y : Int) : Nx a b (op ++ [w]) (p0 ++ [z] ++ [y]) := by
  have hL : (op ++ [w]).length = op.length + 1 := by rw [List.length_append]; rfl
  have hP : (p0 ++ [z]).length = op.length + 1 := by rw [List.length_append, hl]; rfl
  refine ⟨fun s h1 h2 h3 => ?_, fun s h1 h2 h3 => ?_⟩
  · rcases Nat.lt_or_ge op.length s with g | g
    · have : s = op.length + 1 := by omega
      subst this
      exact (h.deny hl h2 h3).elim
    · rw [List.take_append_of_le_length (by omega)] at h3
      rw [List.take_append_of_le_length g]
      exact h.pre s g h2 h3
  · rcases Nat.lt_or_ge op.length s with g | g
    · have : s = op.length + 1 := by omega
      subst this
      exact (h.deny hl (by omega) h3).elim
    · rw [List.take_append_of_le_length (by omega)] at h3
      obtain ⟨u, v, g1, g2, g3, _⟩ := h.less s g h2 h3
      exact ⟨u, v, g1, by rw [List.getElem?_append_left (by omega)]; exact g2, g3, fun e => by omega⟩
theorem Nx.pop {a : List WyT} {b : List Int} {op : List WyT} {p1 : List Int} {w : WyT} {y z : Int} (h : Nx a b (op ++ [w]) (p1 ++ [y, z])) (hl : p1.length = op.length) : Nx a b op (p1 ++ [y + 1]) := by
  have hL : (op ++ [w]).length = op.length + 1 := by rw [List.length_append]; rfl
  have et : ∀ s, s ≤ op.length → (p1 ++ [y, z]).take s = (p1 ++ [y + 1]).take s := fun s hs => by
    rw [List.take_append_of_le_length (by omega), List.take_append_of_le_length (by omega)]
  refine ⟨fun s h1 h2 h3 => ?_, fun s h1 h2 h3 => ?_⟩
  · have := h.pre s (by omega) h2 (by rw [et s h1]; exact h3)
    rwa [List.take_append_of_le_length h1] at this
  · obtain ⟨u, v, g1, g2, g3, _⟩ := h.less s (by omega) h2 (by rw [et s h1]; exact h3)
    rcases Nat.lt_or_ge s op.length with g | g
    · refine ⟨u, v, g1, ?_, g3, fun e => by omega⟩
      rw [List.getElem?_append_left (by omega)] at g2 ⊢; exact g2
    · have : s = op.length := by omega
      subst this
      rw [List.getElem?_append_right (by omega), hl, Nat.sub_self] at g2
      cases g2
      refine ⟨u, y + 1, g1, ?_, by omega, fun _ => by omega⟩
      rw [List.getElem?_append_right (by omega), hl, Nat.sub_self]; rfl
theorem Nx.fresh {op : List WyT} {p0 : List Int} (hl : p0.length = op.length) (z : Int) : Nx op p0 op (p0 ++ [z]) := by
  refine ⟨fun s _ _ _ => rfl, fun s h1 h2 h3 => ⟨p0[s], p0[s], List.getElem?_eq_getElem h2, ?_, Int.le_refl _, fun e => by omega⟩⟩
  rw [List.getElem?_append_left h2, List.getElem?_eq_getElem h2]
def StOk (t : StT) : Prop := t.a.length ≤ 6 ∧ t.b.length = t.a.length ∧ ∀ w ∈ t.a, sok w.a
def PreOk (t u : StT) : Prop := ∀ s, s ≤ t.b.length → s ≤ u.b.length → t.b.take s = u.b.take s → t.a.take s = u.a.take s
def ChS (l : List StT) : Prop := ∀ i t u, l[i]? = some t → l[i + 1]? = some u → PreOk t u
theorem ChS.snoc {l : List StT} (h : ChS l) {u : StT} (hu : ∀ t, l.getLast? = some t → PreOk t u) : ChS (l ++ [u]) := by
  intro i t v h1 h2
  rcases Nat.lt_or_ge (i + 1) l.length with g | g
  · rw [List.getElem?_append_left (by omega)] at h1 h2
    exact h i t v h1 h2
  · have hi := (List.getElem?_eq_some_iff.mp h2).1
    rw [List.length_append, List.length_cons, List.length_nil] at hi
    have e : i + 1 = l.length := by omega
    rw [List.getElem?_append_left (by omega)] at h1
    rw [List.getElem?_append_right (by omega), e, Nat.sub_self] at h2
    cases h2
    refine hu t ?_
    rw [List.getLast?_eq_getElem?, ← e, Nat.add_sub_cancel]; exact h1
structure SI (op : List WyT) (pa : List Int) (found : List StT) : Prop where
  ha : ∃ p0 z, pa = p0 ++ [z] ∧ p0.length = op.length
  ho : op.length ≤ 6
  wh : op.length = 6 → ∃ w ∈ op, w.b = false
  tx : ∀ w ∈ op, sok w.a
  fl : found.length ≤ 6
  fo : ∀ t ∈ found, StOk t
  ch : ChS found
  nx : ∀ t, found.getLast? = some t → Nx t.a t.b op pa
theorem sok_ways : ∀ w ∈ [("up" : Str), ("down" : Str), ("any" : Str)], sok w := fun w h => by
  simp only [List.mem_cons, List.not_mem_nil, or_false] at h
  rcases h with e | e | e <;> (rw [e]; unfold sok; decide +kernel)
theorem SI.push {op : List WyT} {pa : List Int} {found : List StT} (h : SI op pa found) {w : WyT} (hl : op.length < 6) (hw : sok w.a) (hc : op.length = 5 → (∃ w ∈ op, w.b = false) ∨ w.b = false) : SI (op ++ [w]) (pa ++ [0]) found := by
  obtain ⟨p0, z, rfl, hp⟩ := h.ha
  refine ⟨⟨p0 ++ [z], 0, rfl, by rw [List.length_append, List.length_append, hp]; rfl⟩, by rw [List.length_append]; simp; omega, fun e => ?_, fun v m => ?_, h.fl, h.fo, h.ch, fun t e => (h.nx t e).push hp w 0⟩
  · rw [List.length_append, List.length_cons, List.length_nil] at e
    rcases hc (by omega) with ⟨v, m, q⟩ | q
    · exact ⟨v, List.mem_append_left _ m, q⟩
    · exact ⟨w, List.mem_append_right _ (List.mem_singleton.mpr rfl), q⟩
  · rcases List.mem_append.mp m with m | m
    · exact h.tx v m
    · rw [List.mem_singleton.mp m]; exact hw
theorem SI.deed {op : List WyT} {pa : List Int} {found : List StT} (h : SI op pa found) (hl : found.length < 6) (x : Int) : ∃ p0 z, pa = p0 ++ [z] ∧ SI op (p0 ++ [z + 1]) (found ++ [⟨op, p0, x⟩]) := by
  obtain ⟨p0, z, rfl, hp⟩ := h.ha
  refine ⟨p0, z, rfl, ⟨p0, z + 1, rfl, hp⟩, h.ho, h.wh, h.tx, by rw [List.length_append]; simp; omega, fun t m => ?_, h.ch.snoc fun t e s h1 h2 h3 => ?_, fun t e => ?_⟩
  · rcases List.mem_append.mp m with m | m
    · exact h.fo t m
    · rw [List.mem_singleton.mp m]; exact ⟨h.ho, hp, h.tx⟩
  · have h2 : s ≤ p0.length := h2
    exact (h.nx t e).pre s (by omega) h1 (by rw [List.take_append_of_le_length h2]; exact h3)
  · have : (⟨op, p0, x⟩ : StT) = t := by simpa using e
    rw [← this]; exact Nx.fresh hp _
theorem SI.nil : SI [] [0] [] := ⟨⟨[], 0, rfl, rfl⟩, Nat.zero_le _, fun e => (by cases e), fun w m => (by cases m), Nat.zero_le _, fun t m => (by cases m), fun i t u e => (by simp at e), fun t e => (by cases e)⟩
theorem wholes_none {op : List WyT} (h : op.filter (fun w => !w.b) = []) : ∀ w ∈ op, w.b = true := fun w m => by
  have := List.filter_eq_nil_iff.mp h w m
  simpa using this
theorem wholes_ok (op : List WyT) (hl : op.length ≤ 1000) : compG (fun (x_one : WyT) => if (!x_one.b) = true then some (some x_one) else some none) op = some (op.filter fun w => !w.b) :=
  (Ok.compf (P := fun t => t = op.filter fun w => !w.b) (fun w => !w.b) id (by omega) (fun x _ => by cases h : x.b <;> rfl) (by rw [List.map_id])).eq
theorem steps_ok (cells : List Int) (hc : cells.length ≤ 1000) : Ok (m_steps cells) fun l => l ≠ [] ∧ l.length ≤ 6 ∧ (∀ t ∈ l, StOk t) ∧ ChS l := by
  unfold m_steps
  have el : (((4 : Int) + 5 * (cells.length : Int)) % 5) = 4 := by omega
  refine .bindE rfl (.bindE rfl (.bindE rfl ?_))
  rw [catG_p (by simp only [List.length_cons, List.length_nil]; omega)]
  refine .bindE rfl ?_
  generalize (4 : Int) + 5 * (cells.length : Int) = lst at el
  refine Ok.thn (fun o => ∃ b, (o = .nx b ∨ o = .bk b) ∧ SI b.1 b.2.1 b.2.2 ∧ b.2.2 ≠ []) ?_ (fun b ⟨c, e, h, hn⟩ => ?_) (fun b ⟨c, e, h, hn⟩ => ?_) fun r ⟨c, e, _⟩ => by rcases e with e | e <;> cases e
  · refine Ok.loopM (J := fun (b : List WyT × List Int × List StT) ys => SI b.1 b.2.1 b.2.2 ∧ (b.2.2 = [] → lst ∈ ys)) ⟨SI.nil, fun _ => List.mem_append_right _ (List.mem_singleton.mpr rfl)⟩ ?_ (fun b ⟨h, hn⟩ => ⟨b, .inl rfl, h, fun e => by have := hn e; cases this⟩)
    intro ⟨op, pa, found⟩ x ys ⟨h, hn⟩
    replace h : SI op pa found := h
    replace hn : found = [] → lst ∈ x :: ys := hn
    show Ok (if decide ((found.length : Int) = 6) = true then _ else _) _
    refine Ok.dite (fun h6 => .ret ⟨_, .inr rfl, h, fun e => ?_⟩) fun h6 => ?_
    · have e : found = [] := e
      rw [e] at h6; cases h6
    have h6 : found.length < 6 := by have := h.fl; have : found.length ≤ 6 := this; omega
    have hop : op.length ≤ 6 := h.ho
    refine .bindE (wholes_ok op (by omega)) (.bindE rfl (.bind (stream_ok x 1 (by decide) (by decide)) fun t7 ⟨l7, _⟩ => ?_))
    obtain ⟨t8, e8, _⟩ := atI_ok (xs := t7) (i := 0) (Int.le_refl _) (by omega)
    refine .bindE e8 (.bindE rfl ?_)
    have m0 := Int.emod_nonneg t8 (show (3 : Int) ≠ 0 by decide)
    have m1 := Int.emod_lt_of_pos t8 (show (0 : Int) < 3 by decide)
    refine .bind (atI_mem (xs := [("up" : Str), ("down" : Str), ("any" : Str)]) m0 m1) fun way ⟨hm, _⟩ => .bindE rfl ?_
    have hw := sok_ways way hm
    have h' := h
    obtain ⟨p0, z, hpa, hp0⟩ := h'.ha
    have hpl : pa.length = op.length + 1 := by rw [hpa, List.length_append, hp0]; rfl
    by_cases c1 : x % 5 < 2 ∧ op.length < 6
    · show Ok (if (decide (x % 5 < 2) && decide ((op.length : Int) < 6)) = true then _ else _) _
      rw [if_pos (by rw [decide_eq_true c1.1, decide_eq_true (show (op.length : Int) < 6 by omega)]; rfl)]
      refine .bindE rfl ?_
      show Ok ((catG op [_]).bind _) _
      rw [catG_p (by simp only [List.length_cons, List.length_nil]; omega)]
      refine .bindE rfl (.bindE rfl ?_)
      show Ok ((catG pa [_]).bind _) _
      rw [catG_p (by simp only [List.length_cons, List.length_nil]; omega)]
      refine .bindE rfl (.bindE rfl (.ret ⟨h.push c1.2 hw fun e5 => ?_, fun e => ?_⟩))
      · cases hf : op.filter (fun w => !w.b) with
        | nil =>
          right
          show (decide (((([] : List WyT).length : Nat) : Int) = 3) || (decide (t8 / 3 % 3 = 0) && (decide ((0 : Int) < (([] : List WyT).length : Nat)) || decide ((op.length : Int) < 5)))) = false
          rw [decide_eq_false (show ¬ (op.length : Int) < 5 by omega), decide_eq_false (show ¬ (0 : Int) < (([] : List WyT).length : Nat) by decide), decide_eq_false (show ¬ ((([] : List WyT).length : Nat) : Int) = 3 by decide)]
          simp
        | cons v r =>
          left
          have : v ∈ op.filter fun w => !w.b := by rw [hf]; exact List.mem_cons_self
          obtain ⟨m, q⟩ := List.mem_filter.mp this
          exact ⟨v, m, by simpa using q⟩
      · rcases List.mem_cons.mp (hn e) with e2 | m
        · rw [← e2, el] at c1; omega
        · exact m
    · show Ok (if (decide (x % 5 < 2) && decide ((op.length : Int) < 6)) = true then _ else _) _
      rw [if_neg (fun z => c1 (by
        rw [Bool.and_eq_true] at z
        have z1 := of_decide_eq_true z.1
        have z2 := of_decide_eq_true z.2
        exact ⟨z1, by omega⟩))]
      refine .bind (P := fun t : Bool => t = true → x % 5 = 2 ∧ op ≠ []) (Ok.dite (fun h2 => ?_) fun _ => .ret fun e => by cases e) fun t14 h14 => ?_
      · refine .bind (P := fun t : Bool => t = true → op ≠ []) (Ok.ite (fun hne => ?_) fun _ => .ret fun e => by cases e) fun t h => .ret fun e => ⟨h2, h e⟩
        refine .bindE (x := z) (by show L2.atI pa (-1) = _; rw [hpa]; exact atI_last1) (.ret fun _ e => ?_)
        have e : op = [] := e
        have hne : (!op.isEmpty) = true := hne
        rw [e] at hne; cases hne
      · by_cases ht : t14 = true
        · rw [if_pos ht]
          obtain ⟨h2, hne⟩ := h14 ht
          refine .bindE rfl ?_
          obtain ⟨op1, w, rfl⟩ : ∃ a b, op = a ++ [b] := ⟨op.dropLast, op.getLast hne, (List.dropLast_concat_getLast hne).symm⟩
          have hp0' : p0 ≠ [] := fun e => by rw [e, List.length_append] at hp0; simp at hp0
          obtain ⟨p1, y, rfl⟩ : ∃ a b, p0 = a ++ [b] := ⟨p0.dropLast, p0.getLast hp0', (List.dropLast_concat_getLast hp0').symm⟩
          have epa : pa = p1 ++ [y, z] := by rw [hpa, List.append_assoc]; rfl
          have hp1 : p1.length = op1.length := by simpa using hp0
          subst epa
          refine .bindE (x := y) atI_last2 ?_
          show Ok ((catG (cut (p1 ++ [y, z]) none (some (-(2 : Int)))) [y + 1]).bind _) _
          rw [cut_init2, catG_p (by rw [List.length_append] at hop; simp only [List.length_cons, List.length_nil] at hop ⊢; omega)]
          refine .bindE rfl (.bindE rfl ?_)
          refine .of (x := .nx (op1, p1 ++ [y + 1], found)) ?_ ⟨?_, fun e => ?_⟩
          · show some (Lp.nx (cut (op1 ++ [w]) none (some (-(1 : Int))), p1 ++ [y + 1], found)) = _
            rw [cut_init1]
          · exact ⟨⟨p1, y + 1, rfl, hp1⟩, (by have := h.ho; rw [List.length_append, List.length_cons, List.length_nil] at this; show op1.length ≤ 6; omega), fun e => (by have := h.ho; rw [List.length_append, List.length_cons, List.length_nil] at this; have e : op1.length = 6 := e; omega), fun v m => h.tx v (List.mem_append_left _ m), h.fl, h.fo, h.ch, fun t e => (h.nx t e).pop hp1⟩
          · rcases List.mem_cons.mp (hn e) with e2 | m
            · rw [← e2, el] at h2; omega
            · exact m
        · rw [if_neg ht]
          refine .bind (P := fun (b : List WyT × List Int) => SI b.1 b.2 found) (Ok.ite (fun hne => ?_) fun _ => .ret h) fun b17 hb => ?_
          · show Ok ((catG op [_]).bind _) _
            rw [Bool.and_eq_true] at hne
            have hz0 : (((op.filter fun w => !w.b).length : Nat) : Int) = 0 := of_decide_eq_true hne.2
            have hz : (op.filter fun w => !w.b) = [] := List.eq_nil_of_length_eq_zero (by omega)
            have hall := wholes_none hz
            have ho5 : op.length < 6 := by
              rcases Nat.lt_or_ge op.length 6 with g | g
              · exact g
              · obtain ⟨w, m, q⟩ := h.wh (by show op.length = 6; omega)
                rw [hall w m] at q; cases q
            rw [catG_p (by simp only [List.length_cons, List.length_nil]; omega)]
            refine .bindE rfl (.bindE rfl ?_)
            show Ok ((catG pa [_]).bind _) _
            rw [catG_p (by simp only [List.length_cons, List.length_nil]; omega)]
            exact .bindE rfl (.bindE rfl (.ret (h.push ho5 hw fun _ => .inr rfl)))
          · obtain ⟨op2, pa2⟩ := b17
            obtain ⟨q0, z2, epa2, hS⟩ := SI.deed hb h6 t8
            have epa2 : pa2 = q0 ++ [z2] := epa2
            subst epa2
            have hq : q0.length + 1 = op2.length + 1 := by
              obtain ⟨a, b, e, hl⟩ := hb.ha
              have e : q0 ++ [z2] = a ++ [b] := e
              have := congrArg List.length e
              rw [List.length_append, List.length_append] at this
              have hl : a.length = op2.length := hl
              simp only [List.length_cons, List.length_nil] at this
              omega
            have ho2 : op2.length ≤ 6 := hb.ho
            show Ok ((app found (T3.mk op2 (cut (q0 ++ [z2]) none (some (-(1 : Int)))) t8)).bind _) _
            rw [cut_init1, app_p (by omega)]
            refine .bindE rfl (.bindE (x := z2) atI_last1 ?_)
            rw [catG_p (by simp only [List.length_cons, List.length_nil]; omega)]
            exact .bindE rfl (.bindE rfl (.ret ⟨hS, fun e => by simp at e⟩))
  · rcases e with e | e <;> cases e
    exact .ret ⟨hn, h.fl, h.fo, h.ch⟩
  · rcases e with e | e <;> cases e
    exact .ret ⟨hn, h.fl, h.fo, h.ch⟩
theorem places_ok {op : List WyT} (ho : op.length ≤ 6) (c : Int) : Ok (m_places op c) fun l => l.length = op.length := by
  unfold m_places
  refine .bind (stream_ok c 14 (by decide) (by decide)) fun xs ⟨xl, xb⟩ => .bindE rfl (.bindE (wholes_ok op (by omega)) (.bindE rfl (.bindE rfl (.bindE rfl ?_))))
  refine .bindE (rngG_n (by omega)) ?_
  refine .bind (Ok.range (Q := fun b : Int × List (T2 Int Int) => b.2.length = op.length) (fun k (b : Int × List (T2 Int Int)) => b.2.length = k) rfl (fun k b hk hb => ?_) fun _ h => h) fun b h => .ret h
  have gx : ∀ i : Int, 0 ≤ i → i < 14 → Ok (L2.atI xs i) fun v => 0 ≤ v ∧ v < 2147483647 := fun i h0 h1 => (atI_mem h0 (by omega)).mono fun v h => xb v h.1
  refine .bind (gx k (by omega) (by omega)) fun t8 _ => ?_
  rw [modG_p (by split <;> omega)]
  refine .bindE rfl (.bindE rfl (.bind (atI_mem (xs := op) (i := (k : Int)) (by omega) (by omega)) fun t10 ⟨hm, _⟩ => ?_))
  refine .bind (P := fun _ => True) (Ok.ite (fun hw => ?_) fun _ => .ret trivial) fun b11 _ => ?_
  · refine .bind (gx 13 (by decide) (by decide)) fun t13 _ => ?_
    have : t10 ∈ op.filter fun w => !w.b := List.mem_filter.mpr ⟨hm, hw⟩
    have := List.length_pos_of_mem this
    rw [modG_p (by omega)]
    exact .bindE rfl (.bindE rfl (.bindE rfl (.ret trivial)))
  · refine .bind (gx 12 (by decide) (by decide)) fun t15 _ => ?_
    refine .bind (P := fun _ => True) (Ok.ite (fun _ => .bindE rfl (.ret trivial)) fun _ => .ret trivial) fun b16 _ => ?_
    refine .bind (gx (k + 6) (by omega) (by omega)) fun t18 ⟨p1, p2⟩ => .bind (gx k (by omega) (by omega)) fun t19 _ => ?_
    rw [mulG_l (by omega)]
    refine .bindE rfl (.bind (number_ok _ 1000000000000000000 (by decide)) fun t21 _ => ?_)
    rw [app_p (by omega)]
    refine .bindE rfl (.ret ?_)
    show (b.2 ++ [_]).length = k + 1
    rw [List.length_append, hb]; rfl
theorem take_succ_eq {α : Type} {a b : List α} {s : Nat} {x : α} (h : a.take s = b.take s) (ha : a[s]? = some x) (hb : b[s]? = some x) : a.take (s + 1) = b.take (s + 1) := by
  rw [List.take_succ, List.take_succ, h, ha, hb]
theorem share_ok {a b : List Int} (ha : a.length ≤ 1000) : Ok (whileN (fun (b14 : Int) => (if (decide (b14 < (if (a.length : Int) < (b.length : Int) then (a.length : Int) else (b.length : Int)))) = true then (L2.atI b b14).bind fun t17 => (L2.atI a b14).bind fun t18 => some (decide (t17 = t18)) else some false).bind fun t19 => some t19) (fun (b14 : Int) => (some (b14 + (1 : Int))).bind fun x_share => some x_share) 100000 (0 : Int)) fun u => ∃ s : Nat, u = (s : Int) ∧ s ≤ a.length ∧ s ≤ b.length ∧ a.take s = b.take s := by
  refine Ok.whileN (Q := fun u : Int => ∃ s : Nat, u = (s : Int) ∧ s ≤ a.length ∧ s ≤ b.length ∧ a.take s = b.take s) (fun u : Int => ∃ s : Nat, u = (s : Int) ∧ s ≤ a.length ∧ s ≤ b.length ∧ a.take s = b.take s) (fun u => a.length - u.toNat) ⟨0, rfl, Nat.zero_le _, Nat.zero_le _, by rw [List.take_zero, List.take_zero]⟩ (by show a.length - (0 : Int).toNat < 100000; omega) ?_
  intro u ⟨s, e, h1, h2, h3⟩
  subst e
  refine .bind (P := fun t : Bool => t = true → ∃ x, a[s]? = some x ∧ b[s]? = some x) (Ok.dite (fun h => ?_) fun _ => .ret fun e => by cases e) fun t ht => .ret ⟨fun e => ?_, fun _ => ⟨s, rfl, h1, h2, h3⟩⟩
  · have h4 : s < a.length ∧ s < b.length := by split at h <;> omega
    have ga := List.getElem?_eq_getElem h4.1
    have gb := List.getElem?_eq_getElem h4.2
    refine .bindE (atI_at gb) (.bindE (atI_at ga) (.ret fun e => ?_))
    have e := of_decide_eq_true e
    exact ⟨a[s], ga, by rw [gb, e]⟩
  · obtain ⟨x, ga, gb⟩ := ht e
    have := (List.getElem?_eq_some_iff.mp ga).1
    have := (List.getElem?_eq_some_iff.mp gb).1
    exact .bindE rfl (.ret ⟨⟨s + 1, rfl, by omega, by omega, take_succ_eq h3 ga gb⟩, by show a.length - ((s : Int) + 1).toNat < a.length - (s : Int).toNat; omega⟩)
theorem Cn.snoc : ∀ {l : List LfT} {y : LfT}, Cn l → (∀ x, l.getLast? = some x → y.b ≤ x.c.length ∧ y.c.take y.b.toNat = x.c.take y.b.toNat) → Cn (l ++ [y])
  | [], y, _, _ => trivial
  | [x], y, _, h => ⟨h x rfl, trivial⟩
  | x :: z :: r, y, h, hl => ⟨h.1, Cn.snoc (l := z :: r) h.2 fun u e => hl u (by rw [List.getLast?_cons_cons]; exact e)⟩
def swW (w : WyT) : WayT := ⟨w.b, w.a⟩
/-- leaves as the law draws them -/
structure Lv (L : List LfT) : Prop where
  ne : L ≠ []
  len : L.length ≤ 6
  cn : Cn L
  lf : ∀ x ∈ L, x.c.length ≤ 6 ∧ x.b ≤ x.c.length ∧ TxL x
  ld : ∀ x ∈ L, x.d.length = x.c.length
theorem leaves_ok (cells : List Int) (hc : cells.length ≤ 1000) (turn : Int) : Ok (m_leaves cells turn) Lv := by
  unfold m_leaves
  refine .bind (steps_ok cells hc) fun st ⟨hne, hl, ho, hch⟩ => .bindE rfl (.bindE rfl (.bindE rfl (.bindE (rngG_n (by omega)) ?_)))
  have hp : 0 < st.length := List.length_pos_iff.mpr hne
  refine .bind (Ok.range (Q := fun b : List LfT × List Int => Lv b.1) (fun k (b : List LfT × List Int) => b.1.length = k ∧ Cn b.1 ∧ (∀ x ∈ b.1, x.c.length ≤ 6 ∧ x.b ≤ x.c.length ∧ TxL x ∧ x.d.length = x.c.length) ∧ (k = 0 → b.2 = []) ∧ ∀ i, k = i + 1 → ∃ t y, st[i]? = some t ∧ b.1.getLast? = some y ∧ b.2 = t.b ∧ y.c = t.a.map swW) ⟨rfl, trivial, fun x m => (by cases m), fun _ => rfl, fun i e => by omega⟩ (fun k b hk ⟨h1, h2, h3, h4, h5⟩ => ?_) fun b ⟨h1, h2, h3, _, _⟩ => ⟨fun e => by rw [e] at h1; simp only [List.length_nil] at h1; omega, by omega, h2, fun x m => ⟨(h3 x m).1, (h3 x m).2.1, (h3 x m).2.2.1⟩, fun x m => (h3 x m).2.2.2⟩) fun b hb => .ret hb
  rw [modG_p (by omega)]
  refine .bindE rfl (.bindE rfl (.bind (P := fun _ => True) (Ok.ite (fun _ => .bindE rfl (.ret trivial)) fun _ => .ret trivial) fun b8 _ => ?_))
  have hu := List.getElem?_eq_getElem hk
  generalize st[k] = u at hu
  obtain ⟨u1, u2, u3⟩ := ho u (List.mem_of_getElem? hu)
  refine .bindE (atI_at hu) (.bindE rfl (.bindE rfl ?_))
  have hlast : b.2.length ≤ 1000 := by
    cases k with
    | zero => rw [h4 rfl]; simp
    | succ i =>
      obtain ⟨t, y, g1, _, g3, _⟩ := h5 i rfl
      obtain ⟨t1, t2, _⟩ := ho t (List.mem_of_getElem? g1)
      rw [g3]; omega
  refine .bind (share_ok (a := b.2) (b := u.b) hlast) fun sv ⟨s, es, s1, s2, s3⟩ => ?_
  subst es
  refine .bindE (x := u.a.map swW) (Ok.comp (P := (· = u.a.map swW)) swW (by omega) (fun x _ => rfl) rfl).eq (.bindE rfl (.bind (places_ok u1 u.c) fun pl hpl => ?_))
  rw [app_p (by omega)]
  refine .bindE rfl (.bindE rfl (.ret ⟨?_, h2.snoc fun x hx => ?_, fun x m => ?_, fun e => by omega, fun i e => ?_⟩))
  · show (b.1 ++ [_]).length = k + 1
    rw [List.length_append, h1]; rfl
  · cases k with
    | zero =>
      have : b.1 = [] := List.eq_nil_of_length_eq_zero h1
      rw [this] at hx; cases hx
    | succ i =>
      obtain ⟨t, y, g1, g2, g3, g4⟩ := h5 i rfl
      rw [hx] at g2; cases g2
      obtain ⟨t1, t2, _⟩ := ho t (List.mem_of_getElem? g1)
      rw [g3] at s1 s3
      refine ⟨by show (s : Int) ≤ _; rw [g4, List.length_map]; omega, ?_⟩
      show (u.a.map swW).take (s : Int).toNat = _
      rw [Int.toNat_natCast, g4, ← List.map_take, ← List.map_take, hch i t u g1 hu s s1 s2 s3]
  · rcases List.mem_append.mp m with m | m
    · exact h3 x m
    · rw [List.mem_singleton.mp m]
      refine ⟨by show (u.a.map swW).length ≤ 6; rw [List.length_map]; exact u1, by show (s : Int) ≤ ((u.a.map swW).length : Int); rw [List.length_map]; omega, fun w hw => ?_, by show pl.length = (u.a.map swW).length; rw [hpl, List.length_map]⟩
      obtain ⟨v, hv, rfl⟩ := List.mem_map.mp (show w ∈ u.a.map swW from hw)
      exact u3 v hv
  · have : i = k := by omega
    subst this
    exact ⟨u, _, hu, List.getLast?_concat, rfl, rfl⟩
/-! ### a path -/
theorem Tr.pathlen {d : Nat} {bs : List LfT} {its : List UItem} (h : Tr d bs its) : (∀ x ∈ bs, x.c.length ≤ 6) → d ≤ 6 → ∀ (path : List Int) (f m : Nat) (x : GrT), x ∈ grpL path f m its → path.length < x.a.l.length ∧ x.a.l.length + d ≤ path.length + 7 := by
  induction h with
  | nil d => intro _ _ path f m x hx; rw [grpL] at hx; cases hx
  | @deed d y r its hy _ _ ih =>
    intro hb hd path f m x hx
    rw [grpL, grpI] at hx
    rcases List.mem_append.mp hx with hx | hx
    · rw [List.mem_singleton.mp hx]
      show path.length < (path ++ [(m : Int)]).length ∧ (path ++ [(m : Int)]).length + d ≤ _
      rw [List.length_append, List.length_cons, List.length_nil]; omega
    · exact ih (fun z hz => hb z (List.mem_cons_of_mem _ hz)) hd _ _ _ _ hx
  | @sweep d y g r w sub its hw hg _ _ _ ih1 ih2 =>
    intro hb hd path f m x hx
    have hd2 := (List.getElem?_eq_some_iff.mp (hw y List.mem_cons_self)).1
    have h6 := hb y List.mem_cons_self
    rw [grpL, grpI] at hx
    rcases List.mem_append.mp hx with hx | hx
    · rcases List.mem_cons.mp hx with hx | hx
      · rw [hx]
        show path.length < (path ++ [(m : Int)]).length ∧ (path ++ [(m : Int)]).length + d ≤ _
        rw [List.length_append, List.length_cons, List.length_nil]; omega
      · have := ih1 (fun z hz => hb z (by
          rcases List.mem_cons.mp hz with e | hz
          · exact e ▸ List.mem_cons_self
          · exact List.mem_cons_of_mem _ (List.mem_append_left _ hz))) (by omega) _ _ _ _ hx
        rw [List.length_append, List.length_cons, List.length_nil] at this
        omega
    · exact ih2 (fun z hz => hb z (List.mem_cons_of_mem _ (List.mem_append_right _ hz))) hd _ _ _ _ hx
theorem Gd.pl {L : List LfT} {its : List UItem} (h : Gd L its) {x : GrT} (hx : x ∈ grpL [] 0 0 its) : x.a.l ≠ [] ∧ x.a.l.length ≤ 7 := by
  obtain ⟨h1, h2⟩ := h.tr.pathlen h.lf6 (by omega) [] 0 0 x hx
  simp only [List.length_nil] at h1 h2
  exact ⟨fun e => by rw [e] at h1; simp at h1, by omega⟩
theorem Gd.gne {L : List LfT} {its : List UItem} (h : Gd L its) : 0 < (grpL [] 0 0 its).length := by
  cases its with
  | nil => exact absurd h.tr.of_nil h.ne
  | cons x xs => cases x <;> (rw [grpL, grpI, List.length_append, List.length_cons]; omega)
theorem path_ok {gs fit : List GrT} (hg : 0 < gs.length) (h1 : ∀ x ∈ gs, x.a.l ≠ [] ∧ x.a.l.length ≤ 7) (h2 : ∀ x ∈ fit, x.a.l ≠ [] ∧ x.a.l.length ≤ 7) (c w : Int) : Ok (m_path gs fit c w) fun p => p.l ≠ [] ∧ p.l.length ≤ 1000 := by
  unfold m_path
  rw [modG_p (by omega)]
  refine .bindE rfl (.bind (atI_mem (Int.emod_nonneg _ (by omega)) (Int.emod_lt_of_pos _ (by omega))) fun t2 ⟨m2, _⟩ => .bindE rfl ?_)
  refine .bind (P := fun p : Tp Int => p.l ≠ [] ∧ p.l.length ≤ 7) (Ok.ite (fun hf => ?_) fun _ => .ret (h1 t2 m2)) fun p ⟨p1, p2⟩ => ?_
  · rw [Bool.and_eq_true] at hf
    have hf2 : 0 < fit.length := by
      cases fit with
      | nil => exact absurd hf.2 (by decide)
      | cons _ _ => simp
    rw [modG_p (by omega)]
    exact .bindE rfl (.bind (atI_mem (Int.emod_nonneg _ (by omega)) (Int.emod_lt_of_pos _ (by omega))) fun t6 ⟨m6, _⟩ => .bindE rfl (.ret (h2 t6 m6)))
  · have hp : 0 < p.l.length := List.length_pos_iff.mpr p1
    have ne : ∀ (a b : List Int) (z : Int), a ++ z :: b ≠ [] := fun a b z => by simp
    have cl := cut_len p.l
    rw [modG_p (by omega)]
    refine .bindE rfl (.bindE rfl ?_)
    have a0 := Int.emod_nonneg (c / 2) (show (p.l.length : Int) ≠ 0 by omega)
    have a1 := Int.emod_lt_of_pos (c / 2) (show (0 : Int) < p.l.length by omega)
    generalize c / 2 % (p.l.length : Int) = k at a0 a1
    refine .ite (fun _ => .bindE (atI_last p1) ?_) fun _ => .ite (fun _ => ?_) fun _ => .ite (fun _ => ?_) fun _ => .ite (fun _ => ?_) fun _ => .ret ⟨p1, by omega⟩
    · have := cl none (some (-(1 : Int)))
      rw [catT_p (by show (cut p.l _ _).length + 1 ≤ _; omega)]
      refine .bindE rfl (.ret ⟨ne _ _ _, ?_⟩)
      show (cut p.l _ _ ++ [_]).length ≤ _
      rw [List.length_append, List.length_cons, List.length_nil]; omega
    · have c1 := cl none (some k)
      have c2 := cl (some (k + 1)) none
      rw [catT_p (by show (cut p.l _ _).length + 1 ≤ _; omega)]
      refine .bindE rfl ?_
      rw [catT_p (by show (cut p.l _ _ ++ [_]).length + (cut p.l _ _).length ≤ _; rw [List.length_append, List.length_cons, List.length_nil]; omega)]
      refine .bindE rfl (.ret ⟨?_, ?_⟩)
      · show cut p.l _ _ ++ [_] ++ cut p.l _ _ ≠ []
        rw [List.append_assoc]; exact ne _ _ _
      · show (cut p.l _ _ ++ [_] ++ cut p.l _ _).length ≤ _
        rw [List.length_append, List.length_append, List.length_cons, List.length_nil]; omega
    · rw [catT_p (by show p.l.length + 1 ≤ _; omega)]
      refine .bindE rfl (.ret ⟨ne _ _ _, ?_⟩)
      show (p.l ++ [_]).length ≤ _
      rw [List.length_append, List.length_cons, List.length_nil]; omega
    · have c1 := cl none (some k)
      have c2 := cl (some (k + 1)) none
      refine .bind (atI_mem a0 a1) fun t13 _ => ?_
      rw [catT_p (by show (cut p.l _ _).length + 1 ≤ _; omega)]
      refine .bindE rfl ?_
      rw [catT_p (by show (cut p.l _ _ ++ [_]).length + (cut p.l _ _).length ≤ _; rw [List.length_append, List.length_cons, List.length_nil]; omega)]
      refine .bindE rfl (.ret ⟨?_, ?_⟩)
      · show cut p.l _ _ ++ [_] ++ cut p.l _ _ ≠ []
        rw [List.append_assoc]; exact ne _ _ _
      · show (cut p.l _ _ ++ [_] ++ cut p.l _ _).length ≤ _
        rw [List.length_append, List.length_append, List.length_cons, List.length_nil]; omega
theorem cell_at_ok (ns : List Int) {k : Int} (h0 : 0 ≤ k) : Ok (m_cell_at ns k) fun _ => True := by
  unfold m_cell_at
  refine Ok.dite (fun h => ?_) fun _ => .ret trivial
  exact .bind (atI_mem h0 h) fun _ _ => .ret trivial
theorem Lv.gd {L : List LfT} (h : Lv L) : Ok (m_items 10 L (0 : Int)) fun t => Gd L t.l :=
  (items_ok 10 0 L (by omega) (by omega) (by have := h.len; omega) h.cn fun x m => ⟨Nat.zero_le _, (h.lf x m).1, (h.lf x m).2.1⟩).mono fun t ht => ⟨ht, by have := h.len; omega, h.ne, fun x m => ⟨(h.lf x m).1, (h.lf x m).2.2⟩⟩
theorem Gd.groups {L : List LfT} {its : List UItem} (h : Gd L its) : m_groups 10 L ⟨[]⟩ (0 : Int) = some (grpL [] 0 0 its) :=
  (groups_ok 10 0 L its [] 0 (by omega) (by omega) h.len rfl h.tr h.lf6).eq
/-! ### an item put for another, its leaves told anew -/
/-- above the level e nothing is told anew -/
structure Pv (e : Nat) (y y' : LfT) : Prop where
  c : ∀ j, j < e → y'.c[j]? = y.c[j]?
  b : ∀ j : Int, j < (e : Int) → (j < y'.b ↔ j < y.b)
/-- leaves told anew, one by one: the first for the first -/
inductive Cor (e : Nat) : List LfT → List LfT → Prop
  | mk {z z' : LfT} {G G' : List LfT} : Pv e z z' → (∀ y' ∈ G', ∃ y ∈ G, Pv e y y') → Cor e (z :: G) (z' :: G')
theorem Cor.map {e : Nat} {G : List LfT} {ψ : LfT → LfT} (hn : G ≠ []) (hp : ∀ y ∈ G, Pv e y (ψ y)) : Cor e G (G.map ψ) := by
  cases G with
  | nil => exact absurd rfl hn
  | cons z G =>
    refine .mk (hp z List.mem_cons_self) fun y' m => ?_
    obtain ⟨u, hu, rfl⟩ := List.mem_map.mp m
    exact ⟨u, hu, hp u (List.mem_cons_of_mem _ hu)⟩
theorem Hd.rep {d e : Nat} {G G' C : List LfT} (hp : Cor e G G') (hd : d < e) (h : Hd d (G ++ C)) : Hd d (G' ++ C) := by
  cases hp with
  | mk hz _ =>
    intro y e2
    have e2 : _ = y := Option.some.inj e2
    rw [← e2]
    exact fun z2 => h _ rfl ((hz.b _ (by omega)).mp z2)
theorem Cor.mem {e : Nat} {G G' : List LfT} (h : Cor e G G') {y' : LfT} (m : y' ∈ G') : ∃ y ∈ G, Pv e y y' := by
  cases h with
  | mk hz hg =>
    rcases List.mem_cons.mp m with rfl | m
    · exact ⟨_, List.mem_cons_self, hz⟩
    · obtain ⟨y, hy, p⟩ := hg _ m
      exact ⟨y, List.mem_cons_of_mem _ hy, p⟩
theorem Tr.rep : ∀ (P : List Int) (d : Nat) (bs : List LfT) (its : List UItem) (f : Nat) (r : Nat × UItem), Tr d bs its → lookI its f P = some r →
    ∃ A G C, bs = A ++ (G ++ C) ∧ r.1 = f + A.length ∧ Tr (d + P.length - 1) G [r.2] ∧ (d < d + P.length - 1 → ∀ (x : Nat), d ≤ x → x < d + P.length - 1 → ∃ w, ∀ y ∈ G, y.c[x]? = some w) ∧
      ∀ (G' : List LfT) (J' : List UItem), Tr (d + P.length - 1) G' J' → J' ≠ [] → Cor (d + P.length - 1) G G' → (Hd (d + P.length - 1) G → Hd (d + P.length - 1) G') →
        Tr d (A ++ (G' ++ C)) (putL its (P.map Int.toNat) 1 J')
  | [], d, bs, its, f, r, _, h => by cases h
  | [q], d, bs, its, f, r, ht, h => by
    obtain ⟨hq, h2, h3⟩ := look1 h
    have e := at_split h2
    rw [e] at ht
    obtain ⟨A, b, rfl, ha, hb, hh⟩ := ht.split
    obtain ⟨G, C, rfl, hG, hC, hh2⟩ := Tr.split (i := [r.2]) (j := its.drop (q.toNat + 1)) hb
    have el : cnt.cnts (its.take q.toNat) = A.length := ha.len.symm
    refine ⟨A, G, C, rfl, by rw [h3, el], hG, fun z => absurd z (by simp only [List.length_cons, List.length_nil]; omega), fun G' J' hJ hne hp hd => ?_⟩
    show Tr d _ (its.take q.toNat ++ (J' ++ its.drop (q.toNat + 1)))
    refine ha.app' (Tr.app' hJ hC fun _ => hh2 (by simp)) fun hi => ?_
    have h4 := hh hi
    cases hp with
    | mk hz hg =>
      have h6 := hd fun y e => h4 y e
      exact fun y e => h6 y e
  | q :: q2 :: Q, d, bs, its, f, r, ht, h => by
    obtain ⟨hq, c, w, sub, h2, h3⟩ := look2 h
    have e := at_split h2
    rw [e] at ht
    obtain ⟨a, b, rfl, ha, hb, hh⟩ := ht.split
    obtain ⟨G0, cc, rfl, hG, hc, hh2⟩ := Tr.split (i := [.v_sweep c w sub]) (j := its.drop (q.toNat + 1)) hb
    have el : cnt.cnts (its.take q.toNat) = a.length := ha.len.symm
    generalize e1 : [UItem.v_sweep c w sub] = its1 at hG
    cases hG with
    | nil => cases e1
    | deed _ _ _ => cases e1
    | @sweep _ x g r2 w1 sub1 its1 hw hg hr hs hrest =>
      obtain ⟨e2, e3⟩ := List.cons.inj e1
      cases e2
      subst e3
      rw [hrest.of_nil, List.append_nil] at hh ⊢
      obtain ⟨A, G, C, i1, i2, i3, i5, i4⟩ := Tr.rep (q2 :: Q) (d + 1) (x :: g) sub _ r hs h3
      have e5 : d + 1 + (q2 :: Q).length - 1 = d + (q :: q2 :: Q).length - 1 := by simp only [List.length_cons]; omega
      rw [e5] at i3 i4 i5
      have hde : d < d + (q :: q2 :: Q).length - 1 := by simp only [List.length_cons]; omega
      refine ⟨a ++ A, G, C ++ cc, by rw [i1]; simp only [List.append_assoc], by rw [i2, el, List.length_append]; omega, i3, fun _ j h1 h2 => ?_, fun G' J' hJ hne hp hd => ?_⟩
      · by_cases hj : j = d
        · subst hj
          exact ⟨w1, fun y m => hw y (by rw [i1]; exact List.mem_append_right _ (List.mem_append_left _ m))⟩
        · exact i5 (by omega) j (by omega) h2
      have ep : putL its ((q :: q2 :: Q).map Int.toNat) 1 J' = its.take q.toNat ++ (.v_sweep w1.a w1.b (putL sub ((q2 :: Q).map Int.toNat) 1 J') :: its.drop (q.toNat + 1)) := by
        show putL its (q.toNat :: q2.toNat :: Q.map Int.toNat) 1 J' = _
        rw [putL, h2]; rfl
      rw [ep]
      have i6 := i4 G' J' hJ hne hp hd
      have key : Tr d (A ++ (G' ++ C)) [.v_sweep w1.a w1.b (putL sub ((q2 :: Q).map Int.toNat) 1 J')] ∧ (Hd d (x :: (g ++ cc)) → Hd d (A ++ (G' ++ C) ++ cc)) := by
        cases A with
        | nil =>
          have hr := Hd.rep (C := C ++ cc) hp hde
          cases hp with
          | @mk z z' G G' hz hgp =>
            obtain ⟨rfl, rfl⟩ := List.cons.inj (show x :: g = z :: (G ++ C) from i1)
            refine ⟨?_, fun h => ?_⟩
            · have := Tr.sweep (d := d) (x := z') (g := G' ++ C) (r := []) (w := w1) (its := []) (fun y m => ?_) (fun y m => ?_) (fun y e => by cases e) i6 (.nil d)
              · rwa [List.append_nil] at this
              · rcases List.mem_cons.mp m with e | m
                · rw [e, hz.c d hde]; exact hw x List.mem_cons_self
                · rcases List.mem_append.mp m with m | m
                  · obtain ⟨u, hu, hpu⟩ := hgp y m
                    rw [hpu.c d hde]; exact hw u (List.mem_cons_of_mem _ (List.mem_append_left _ hu))
                  · exact hw y (List.mem_cons_of_mem _ (List.mem_append_right _ m))
              · rcases List.mem_append.mp m with m | m
                · obtain ⟨u, hu, hpu⟩ := hgp y m
                  exact (hpu.b d (by omega)).mpr (hg u (List.mem_append_left _ hu))
                · exact hg y (List.mem_append_right _ m)
            · have := hr (fun y e => h y e)
              rw [List.append_assoc]; exact fun y e => this y e
        | cons z A =>
          obtain ⟨rfl, rfl⟩ := List.cons.inj (show x :: g = z :: (A ++ (G ++ C)) from i1)
          refine ⟨?_, fun h y e => h y e⟩
          have := Tr.sweep (d := d) (x := x) (g := A ++ (G' ++ C)) (r := []) (w := w1) (its := []) (fun y m => ?_) (fun y m => ?_) (fun y e => by cases e) i6 (.nil d)
          · rwa [List.append_nil] at this
          · rcases List.mem_cons.mp m with e | m
            · rw [e]; exact hw x List.mem_cons_self
            · rcases List.mem_append.mp m with m | m
              · exact hw y (List.mem_cons_of_mem _ (List.mem_append_left _ m))
              · rcases List.mem_append.mp m with m | m
                · obtain ⟨u, hu, hpu⟩ := hp.mem m
                  rw [hpu.c d hde]; exact hw u (List.mem_cons_of_mem _ (List.mem_append_right _ (List.mem_append_left _ hu)))
                · exact hw y (List.mem_cons_of_mem _ (List.mem_append_right _ (List.mem_append_right _ m)))
          · rcases List.mem_append.mp m with m | m
            · exact hg y (List.mem_append_left _ m)
            · rcases List.mem_append.mp m with m | m
              · obtain ⟨u, hu, hpu⟩ := hp.mem m
                exact (hpu.b d (by omega)).mpr (hg u (List.mem_append_right _ (List.mem_append_left _ hu)))
              · exact hg y (List.mem_append_right _ (List.mem_append_right _ m))
      have e7 : a ++ A ++ (G' ++ (C ++ cc)) = a ++ ((A ++ (G' ++ C)) ++ cc) := by simp only [List.append_assoc]
      rw [e7]
      refine ha.app' (Tr.app' (i := [.v_sweep w1.a w1.b (putL sub ((q2 :: Q).map Int.toNat) 1 J')]) key.1 hc fun _ => hh2 (by simp)) fun hi => ?_
      exact key.2 fun y e => hh hi y e
/-- what stands where one item was put for another -/
theorem put_one : ∀ (P : List Int) (its : List UItem) (f k : Nat) (it A : UItem), lookI its f P = some (k, it) → lookI (putL its (P.map Int.toNat) 1 [A]) f P = some (k, A)
  | [], its, f, k, it, A, h => by cases h
  | [q], its, f, k, it, A, h => by
    obtain ⟨hq, h2, h3⟩ := look1 h
    have hp := (List.getElem?_eq_some_iff.mp h2).1
    obtain ⟨m1, m2, m3⟩ := mid_at (l := its) (p := q.toNat) (Nat.le_of_lt hp) (X := A) (R := its.drop (q.toNat + 1))
    have e : putL its ([q].map Int.toNat) 1 [A] = its.take q.toNat ++ A :: its.drop (q.toNat + 1) := rfl
    rw [e, lookI, if_neg (by omega), m1, m2]
    have h3 : k = f + cnt.cnts (its.take q.toNat) := h3
    rw [h3]; rfl
  | q :: q2 :: Q, its, f, k, it, A, h => by
    obtain ⟨hq, c, w, sub, h2, h3⟩ := look2 h
    have hp := (List.getElem?_eq_some_iff.mp h2).1
    have i1 := put_one (q2 :: Q) sub _ k it A h3
    have e : putL its ((q :: q2 :: Q).map Int.toNat) 1 [A] = its.take q.toNat ++ (.v_sweep c w (putL sub ((q2 :: Q).map Int.toNat) 1 [A]) :: its.drop (q.toNat + 1)) := by
      show putL its (q.toNat :: q2.toNat :: Q.map Int.toNat) 1 [A] = _
      rw [putL, h2]; rfl
    obtain ⟨m1, m2, m3⟩ := mid_at (l := its) (p := q.toNat) (Nat.le_of_lt hp) (X := .v_sweep c w (putL sub ((q2 :: Q).map Int.toNat) 1 [A])) (R := its.drop (q.toNat + 1))
    rw [e, lookI, if_neg (by omega), m1, m2]; exact i1
mutual
/-- deeds told anew, each by itself -/
def mapD (φ : Int → List (T2 Int Int) → List (T2 Int Int)) : UItem → UItem
  | .v_deed a p => .v_deed a ⟨φ a p.l⟩
  | .v_sweep c w sub => .v_sweep c w (mapDs φ sub)
def mapDs (φ : Int → List (T2 Int Int) → List (T2 Int Int)) : List UItem → List UItem
  | [] => []
  | x :: xs => mapD φ x :: mapDs φ xs
end
theorem mapDs_app (φ : Int → List (T2 Int Int) → List (T2 Int Int)) : ∀ i j : List UItem, mapDs φ (i ++ j) = mapDs φ i ++ mapDs φ j
  | [], j => by rw [mapDs]; rfl
  | x :: i, j => by rw [List.cons_append, mapDs, mapDs, mapDs_app φ i j]; rfl
theorem mapDs_len (φ : Int → List (T2 Int Int) → List (T2 Int Int)) : ∀ i : List UItem, (mapDs φ i).length = i.length
  | [] => by rw [mapDs]
  | x :: i => by rw [mapDs, List.length_cons, List.length_cons, mapDs_len φ i]
theorem Tr.mapd (s : Nat) {φ : Int → List (T2 Int Int) → List (T2 Int Int)} {ψ : LfT → LfT} {d : Nat} {bs : List LfT} {its : List UItem} (h : Tr d bs its) : (∀ y ∈ bs, (ψ y).a = y.a ∧ (ψ y).b = y.b + (s : Int) ∧ (ψ y).c.length = y.c.length + s ∧ (ψ y).d = φ y.a y.d ∧ ∀ j, d ≤ j → (ψ y).c[j + s]? = y.c[j]?) → Tr (d + s) (bs.map ψ) (mapDs φ its) := by
  have hd : ∀ {d : Nat} {r : List LfT}, Hd d r → (∀ y ∈ r, (ψ y).b = y.b + (s : Int)) → Hd (d + s) (r.map ψ) := fun {d r} h hb => by
    cases r with
    | nil => exact fun y e => by cases e
    | cons z r =>
      intro y e
      have e : ψ z = y := Option.some.inj e
      rw [← e, hb z List.mem_cons_self]
      have := h z rfl
      omega
  induction h with
  | nil d => intro _; rw [mapDs]; exact .nil _
  | @deed d x r its hx hr _ ih =>
    intro hb
    obtain ⟨h1, h2, h3, h4, h5⟩ := hb x List.mem_cons_self
    have hb' := fun y m => hb y (List.mem_cons_of_mem _ m)
    rw [mapDs, mapD]
    have := Tr.deed (x := ψ x) (by rw [h3, hx]) (hd hr fun y m => (hb' y m).2.1) (ih hb')
    rw [h1, h4] at this
    exact this
  | @sweep d x g r w sub its hw hg hr _ _ ih1 ih2 =>
    intro hb
    have b1 := fun y (m : y ∈ x :: g) => hb y (by
        rcases List.mem_cons.mp m with e | m
        · exact e ▸ List.mem_cons_self
        · exact List.mem_cons_of_mem _ (List.mem_append_left _ m))
    have b2 := fun y (m : y ∈ r) => hb y (List.mem_cons_of_mem _ (List.mem_append_right _ m))
    rw [mapDs, mapD, List.map_cons, List.map_append]
    have i1 := ih1 fun y m => by
      obtain ⟨h1, h2, h3, h4, h5⟩ := b1 y m
      exact ⟨h1, h2, h3, h4, fun j hj => h5 j (by omega)⟩
    rw [Nat.add_right_comm] at i1
    refine .sweep (x := ψ x) (g := g.map ψ) (fun y m => ?_) (fun y m => ?_) (hd hr fun y m => (b2 y m).2.1) i1 (ih2 b2)
    · rw [← List.map_cons] at m
      obtain ⟨u, hu, rfl⟩ := List.mem_map.mp m
      rw [(b1 u hu).2.2.2.2 d (Nat.le_refl _)]; exact hw u hu
    · obtain ⟨u, hu, rfl⟩ := List.mem_map.mp m
      rw [(b1 u (List.mem_cons_of_mem _ hu)).2.1]
      have := hg u hu
      omega
theorem each_deed_ok {φ : Int → List (T2 Int Int) → List (T2 Int Int)} {chg : Int × Tp (T2 Int Int) × Unit → Option (Tp (T2 Int Int))} : ∀ (n d : Nat) (bs : List LfT) (its : List UItem), 7 ≤ n + d → d ≤ 6 → bs.length ≤ 1000 → Tr d bs its → (∀ x ∈ bs, x.c.length ≤ 6) → (∀ y ∈ bs, chg (y.a, ⟨y.d⟩, ()) = some ⟨φ y.a y.d⟩) → Ok (m_each_deed n ⟨its⟩ chg) (· = ⟨mapDs φ its⟩)
  | 0, d, bs, its, h1, h2, _, _, _, _ => absurd h1 (by omega)
  | n + 1, d, bs, its, h1, h2, hl, ht, hb, hc => by
    rw [m_each_deed]
    have il := ht.ilen
    refine .bindE rfl (.bind (Ok.loopN (Q := fun b : List UItem => b = mapDs φ its) (fun (b : List UItem) ys => ∃ i c, its = i ++ ys ∧ b = mapDs φ i ∧ Tr d c ys ∧ c.length ≤ 1000 ∧ ∀ y ∈ c, y ∈ bs) ⟨[], bs, rfl, by rw [mapDs], ht, hl, fun _ m => m⟩ (fun b x ys ⟨i, c, e1, e2, t, cl, hm⟩ => ?_) fun b ⟨i, c, e1, e2, _, _, _⟩ => by rw [e2, e1, List.append_nil]) fun b e => .ret (by rw [e]))
    have bl : b.length < 1000 := by
      rw [e2, mapDs_len]
      have := congrArg List.length e1
      rw [List.length_append, List.length_cons] at this
      omega
    have hx : ∀ z, mapDs φ (i ++ [z]) = b ++ [mapD φ z] := fun z => by rw [mapDs_app, e2, mapDs, mapDs]
    cases t with
    | @deed _ y r _ hy hr h =>
      show Ok (if decide (("deed" : Str) = "deed") = true then _ else _) _
      rw [if_pos (by decide)]
      refine .bindE (x := ⟨"deed", y.a, ⟨y.d⟩⟩) rfl (.bindE (x := ⟨"deed", y.a, ⟨y.d⟩⟩) rfl (.bindE (x := ⟨"deed", y.a, ⟨y.d⟩⟩) rfl (.bindE (hc y (hm y List.mem_cons_self)) ?_)))
      rw [app_p (by omega)]
      refine .bindE rfl (.ret ⟨i ++ [.v_deed y.a ⟨y.d⟩], r, by rw [e1, List.append_assoc]; rfl, ?_, h, by rw [List.length_cons] at cl; omega, fun z m => hm z (List.mem_cons_of_mem _ m)⟩)
      rw [hx, mapD]
    | @sweep _ y g r w sub _ hw hg hr hs h =>
      have hd := (List.getElem?_eq_some_iff.mp (hw y List.mem_cons_self)).1
      have y6 := hb y (hm y List.mem_cons_self)
      have hm1 : ∀ z ∈ y :: g, z ∈ bs := fun z m => hm z (by
        rcases List.mem_cons.mp m with e | m
        · exact e ▸ List.mem_cons_self
        · exact List.mem_cons_of_mem _ (List.mem_append_left _ m))
      simp only [List.length_cons, List.length_append] at cl
      show Ok (if decide (("sweep" : Str) = "deed") = true then _ else _) _
      rw [if_neg (by decide)]
      refine .bindE (x := ⟨"sweep", w.a, w.b, ⟨sub⟩⟩) rfl (.bindE (x := ⟨"sweep", w.a, w.b, ⟨sub⟩⟩) rfl (.bindE (x := ⟨"sweep", w.a, w.b, ⟨sub⟩⟩) rfl ?_))
      refine .bind (each_deed_ok n (d + 1) (y :: g) sub (by omega) (by omega) (by rw [List.length_cons]; omega) hs (fun z m => hb z (hm1 z m)) fun z m => hc z (hm1 z m)) fun t e => ?_
      subst e
      rw [app_p (by omega)]
      refine .bindE rfl (.ret ⟨i ++ [.v_sweep w.a w.b sub], r, by rw [e1, List.append_assoc]; rfl, ?_, h, by omega, fun z m => hm z (List.mem_cons_of_mem _ (List.mem_append_right _ m))⟩)
      rw [hx, mapD]
/-- the leaves from k on, n of them, told anew -/
def chL (ψ : LfT → LfT) (k n : Nat) (L : List LfT) : List LfT := L.take k ++ (((L.drop k).take n).map ψ ++ L.drop (k + n))
theorem chL_app {ψ : LfT → LfT} {A G C : List LfT} : chL ψ A.length G.length (A ++ (G ++ C)) = A ++ (G.map ψ ++ C) := by
  unfold chL
  rw [List.take_left, List.drop_left, List.take_left, ← List.drop_drop, List.drop_left, List.drop_left]
theorem chL_mem {ψ : LfT → LfT} {k n : Nat} {L : List LfT} {y : LfT} (h : y ∈ chL ψ k n L) : y ∈ L ∨ ∃ z ∈ (L.drop k).take n, y = ψ z := by
  rcases List.mem_append.mp h with m | m
  · exact .inl (List.mem_of_mem_take m)
  · rcases List.mem_append.mp m with m | m
    · obtain ⟨z, hz, e⟩ := List.mem_map.mp m
      exact .inr ⟨z, hz, e.symm⟩
    · exact .inl (List.mem_of_mem_drop m)
theorem changed_ok {L : List LfT} (hl : L.length ≤ 1000) {ψ : LfT → LfT} {chg : List WayT × List (T2 Int Int) × Unit → Option (T2 (List WayT) (List (T2 Int Int)))} {k n : Nat} (hk : k + n ≤ L.length) (hc : ∀ y ∈ (L.drop k).take n, ∃ c d, chg (y.c, y.d, ()) = some ⟨c, d⟩ ∧ ψ y = ⟨y.a, y.b, c, d⟩) {one : GrT} (e1 : one.b = (k : Int)) (e2 : one.c = ((k + n : Nat) : Int)) : m_changed L one chg = some (chL ψ k n L) := by
  unfold m_changed
  rw [e1, e2, rngG2_p (by omega)]
  refine Ok.eq (.bindE rfl (.bindE rfl ?_))
  rw [show (((k + n : Nat) : Int) - (k : Int)).toNat = n by omega]
  refine .bind (Ok.range_aux (Q := fun b : List LfT => b = chL ψ k n L) (fun j (b : List LfT) => k ≤ j ∧ j ≤ k + n ∧ b = chL ψ k (j - k) L) (k + n) (fun j b hj ⟨h1, h2, h3⟩ => ?_) (fun b ⟨_, _, h⟩ => by rw [h, Nat.add_sub_cancel_left]) n k L rfl ⟨Nat.le_refl _, by omega, by unfold chL; rw [Nat.sub_self, List.take_zero, List.map_nil, List.nil_append, Nat.add_zero, List.take_append_drop]⟩) fun b e => .ret e
  have hx := List.getElem?_eq_getElem (show j < L.length by omega)
  generalize L[j] = y at hx
  have hym : y ∈ (L.drop k).take n := by
    refine List.mem_of_getElem? (i := j - k) ?_
    rw [List.getElem?_take_of_lt (by omega), List.getElem?_drop, show k + (j - k) = j by omega]; exact hx
  obtain ⟨c, d, h4, h5⟩ := hc y hym
  refine .bindE (atI_at hx) (.bindE rfl (.bindE h4 (.bindE rfl ?_)))
  have bl : b.length = L.length := by
    rw [h3]; unfold chL
    simp only [List.length_append, List.length_take, List.length_map, List.length_drop]; omega
  refine .bindE (x := b.set j ⟨y.a, y.b, c, d⟩) ?_ (.ret ⟨by omega, by omega, ?_⟩)
  · unfold setG ixN
    rw [if_pos (by omega), if_pos (by omega)]
    rfl
  · rw [← h5, h3, show j + 1 - k = (j - k) + 1 by omega]
    unfold chL
    have e3 : (L.drop k).take (j - k + 1) = (L.drop k).take (j - k) ++ [y] := by
      rw [List.take_succ, List.getElem?_drop, show k + (j - k) = j by omega, hx]; rfl
    have e4 : L.drop (k + (j - k)) = y :: L.drop (k + (j - k + 1)) := by
      rw [show k + (j - k) = j by omega, drop_at hx, show k + (j - k + 1) = j + 1 by omega]
    have el : (L.take k ++ ((L.drop k).take (j - k)).map ψ).length = j := by
      simp only [List.length_append, List.length_take, List.length_map, List.length_drop]; omega
    rw [e3, e4, List.map_append, ← List.append_assoc, List.set_append_right _ _ (by omega), el, Nat.sub_self]
    simp
theorem Tr.one {d : Nat} {G : List LfT} {c : Bool} {w : Str} {sub : List UItem} (h : Tr d G [.v_sweep c w sub]) : ∃ x g, G = x :: g ∧ Tr (d + 1) (x :: g) sub ∧ (∀ y ∈ x :: g, y.c[d]? = some ⟨c, w⟩) ∧ ∀ y ∈ g, (d : Int) < y.b := by
  generalize e1 : [UItem.v_sweep c w sub] = its at h
  cases h with
  | nil => cases e1
  | deed _ _ _ => cases e1
  | @sweep _ x g r w1 sub1 its1 hw hg hr hs hrest =>
    obtain ⟨e2, e3⟩ := List.cons.inj e1
    cases e2
    subst e3
    rw [hrest.of_nil, List.append_nil]
    exact ⟨x, g, rfl, hs, hw, hg⟩
theorem Tr.mk1 {d : Nat} {x : LfT} {g : List LfT} {c : Bool} {w : Str} {sub : List UItem} (hs : Tr (d + 1) (x :: g) sub) (hw : ∀ y ∈ x :: g, y.c[d]? = some ⟨c, w⟩) (hg : ∀ y ∈ g, (d : Int) < y.b) : Tr d (x :: g) [.v_sweep c w sub] := by
  have := Tr.sweep (d := d) (x := x) (g := g) (r := []) (w := ⟨c, w⟩) (its := []) hw hg (fun y e => by cases e) hs (.nil d)
  rwa [List.append_nil] at this
/-- the pairs of places as many as the ways -/
def Ld (L : List LfT) : Prop := ∀ x ∈ L, x.d.length = x.c.length
mutual
theorem grpI_look : ∀ (it : UItem) (path : List Int) (f m : Nat) (x : GrT), x ∈ grpI path f m it → ∃ Q r, x.a.l = path ++ (m : Int) :: Q ∧ x = entP x.a.l r ∧ lookI [it] f (0 :: Q) = some r
  | .v_deed a b, path, f, m, x, h => by
    rw [grpI] at h
    rw [List.mem_singleton.mp h]
    exact ⟨[], (f, .v_deed a b), rfl, rfl, rfl⟩
  | .v_sweep c w sub, path, f, m, x, h => by
    rw [grpI] at h
    rcases List.mem_cons.mp h with e | h
    · rw [e]; exact ⟨[], (f, .v_sweep c w sub), rfl, rfl, rfl⟩
    · obtain ⟨q, Q, r, h1, h2, h3, h4⟩ := grpL_look sub _ _ _ x h
      refine ⟨q :: Q, r, by rw [h1, List.append_assoc]; rfl, h3, ?_⟩
      rw [lookI_zero]
      rw [show q - ((0 : Nat) : Int) = q by omega] at h4
      exact h4
theorem grpL_look : ∀ (its : List UItem) (path : List Int) (f m : Nat) (x : GrT), x ∈ grpL path f m its → ∃ q Q r, x.a.l = path ++ q :: Q ∧ (m : Int) ≤ q ∧ x = entP x.a.l r ∧ lookI its f ((q - (m : Int)) :: Q) = some r
  | [], path, f, m, x, h => by rw [grpL] at h; cases h
  | y :: ys, path, f, m, x, h => by
    rw [grpL] at h
    rcases List.mem_append.mp h with h | h
    · obtain ⟨Q, r, h1, h2, h3⟩ := grpI_look y _ _ _ x h
      refine ⟨(m : Int), Q, r, h1, Int.le_refl _, h2, ?_⟩
      rw [Int.sub_self, lookI_zero, ← h3, lookI_zero]
    · obtain ⟨q, Q, r, h1, h2, h3, h4⟩ := grpL_look ys _ _ _ x h
      refine ⟨q, Q, r, h1, by omega, h3, ?_⟩
      rw [show q - (m : Int) = (q - ((m + 1 : Nat) : Int)) + 1 by omega, lookI_succ (by omega)]
      exact h4
end
theorem Gd.look {L : List LfT} {its : List UItem} (_ : Gd L its) {x : GrT} (hx : x ∈ grpL [] 0 0 its) : ∃ r, x = entP x.a.l r ∧ lookI its 0 x.a.l = some r := by
  obtain ⟨q, Q, r, h1, _, h3, h4⟩ := grpL_look its [] 0 0 x hx
  rw [show q - ((0 : Nat) : Int) = q by omega] at h4
  exact ⟨r, h3, by rw [h1]; exact h4⟩
/-- leaves put one by one in the place of others -/
theorem set_loop {L : List LfT} {st : List LfT → Int → Option (List LfT)} {k n : Nat} (R : List LfT) (hR : R.length = n) (hk : k + n ≤ L.length) (hs : ∀ (j : Nat) (b : List LfT), k ≤ j → j < k + n → b.length = L.length → ∃ y, R[j - k]? = some y ∧ st b (j : Int) = some (b.set j y)) : loopN st L (intsF (k : Int) n) = some (L.take k ++ (R ++ L.drop (k + n))) := by
  refine Ok.eq (Ok.range_aux (Q := fun b : List LfT => b = L.take k ++ (R ++ L.drop (k + n))) (fun j (b : List LfT) => k ≤ j ∧ j ≤ k + n ∧ b = L.take k ++ (R.take (j - k) ++ L.drop j)) (k + n) (fun j b hj ⟨h1, h2, h3⟩ => ?_) (fun b ⟨_, _, h⟩ => by rw [h, Nat.add_sub_cancel_left, List.take_of_length_le (l := R) (by omega)]) n k L rfl ⟨Nat.le_refl _, by omega, by rw [Nat.sub_self, List.take_zero, List.nil_append, List.take_append_drop]⟩)
  have bl : b.length = L.length := by
    rw [h3]
    simp only [List.length_append, List.length_take, List.length_drop]; omega
  obtain ⟨y, h4, h5⟩ := hs j b h1 hj bl
  refine .of h5 ⟨by omega, by omega, ?_⟩
  have hx := List.getElem?_eq_getElem (show j < L.length by omega)
  have e3 : R.take (j + 1 - k) = R.take (j - k) ++ [y] := by
    rw [show j + 1 - k = (j - k) + 1 by omega, List.take_succ, h4]; rfl
  have el : (L.take k ++ R.take (j - k)).length = j := by
    simp only [List.length_append, List.length_take]; omega
  rw [h3, e3, drop_at hx, ← List.append_assoc, List.set_append_right _ _ (by omega), el, Nat.sub_self, List.set_cons_zero]
  simp only [List.append_assoc, List.cons_append, List.nil_append]
theorem setG_n {α : Type} {b : List α} {j : Nat} (h : j < b.length) (y : α) : setG b (j : Int) y = some (b.set j y) := by
  unfold setG ixN
  rw [if_pos (by omega), if_pos (by omega)]
  rfl
theorem look_snoc : ∀ (P : List Int) (its : List UItem) (f k : Nat) (c : Bool) (w : Str) (sub : List UItem) (it : UItem), lookI its f P = some (k, .v_sweep c w sub) → sub[0]? = some it → lookI its f (P ++ [0]) = some (k, it)
  | [], its, f, k, c, w, sub, it, h, _ => by cases h
  | [q], its, f, k, c, w, sub, it, h, h0 => by
    obtain ⟨hq, h2, h3⟩ := look1 h
    have h3 : k = f + cnt.cnts (its.take q.toNat) := h3
    show lookI its f [q, 0] = _
    rw [lookI, if_neg (by omega), h2]
    show lookI sub _ [0] = _
    rw [lookI, if_neg (by decide)]
    show (sub[0]?).map _ = _
    rw [h0, h3]; rfl
  | q :: q2 :: Q, its, f, k, c, w, sub, it, h, h0 => by
    obtain ⟨hq, c2, w2, sub2, h2, h3⟩ := look2 h
    have := look_snoc (q2 :: Q) sub2 _ k c w sub it h3 h0
    show lookI its f (q :: q2 :: (Q ++ [0])) = _
    rw [lookI, if_neg (by omega), h2]; exact this
/-! ### a sweep goes another way -/
theorem put_same : ∀ (P : List Int) (its : List UItem) (f k : Nat) (it : UItem), lookI its f P = some (k, it) → putL its (P.map Int.toNat) 1 [it] = its
  | [], its, f, k, it, h => by cases h
  | [q], its, f, k, it, h => by
    obtain ⟨hq, h2, h3⟩ := look1 h
    exact (at_split h2).symm
  | q :: q2 :: Q, its, f, k, it, h => by
    obtain ⟨hq, c, w, sub, h2, h3⟩ := look2 h
    have i1 := put_same (q2 :: Q) sub _ k it h3
    show putL its (q.toNat :: q2.toNat :: Q.map Int.toNat) 1 [it] = its
    rw [putL, h2]
    have i1 : putL sub (q2.toNat :: Q.map Int.toNat) 1 [it] = sub := i1
    show its.take q.toNat ++ (.v_sweep c w (putL sub (q2.toNat :: Q.map Int.toNat) 1 [it]) :: its.drop (q.toNat + 1)) = its
    rw [i1]
    exact (at_split h2).symm
mutual
theorem mapD_id : ∀ x : UItem, mapD (fun _ p => p) x = x
  | .v_deed a p => by rw [mapD]
  | .v_sweep c w sub => by rw [mapD, mapDs_id sub]
theorem mapDs_id : ∀ x : List UItem, mapDs (fun _ p => p) x = x
  | [] => by rw [mapDs]
  | x :: xs => by rw [mapDs, mapD_id x, mapDs_id xs]
end
def setW (lv : Nat) (v : WayT) (y : LfT) : LfT := ⟨y.a, y.b, y.c.set lv v, y.d⟩
theorem way_ok {L : List LfT} {its : List UItem} (h : Gd L its) {P : List Int} (hP : P ≠ []) {k : Nat} {c : Bool} {w : Str} {sub : List UItem} (hl : lookI its 0 P = some (k, .v_sweep c w sub)) {w' : Str} (sw : sok w')
    {chg : List WayT × List (T2 Int Int) × Unit → Option (T2 (List WayT) (List (T2 Int Int)))} (hc : ∀ y : LfT, y.c[P.length - 1]? = some ⟨c, w⟩ → y.c.length ≤ 6 → chg (y.c, y.d, ()) = some ⟨y.c.set (P.length - 1) ⟨c, w'⟩, y.d⟩) :
    ∃ L2, L2 = chL (setW (P.length - 1) ⟨c, w'⟩) k (cnt (.v_sweep c w sub)) L ∧ Gd L2 (putL its (P.map Int.toNat) 1 [.v_sweep c w' sub]) ∧ m_changed L (entP P (k, .v_sweep c w sub)) chg = some L2 ∧
      m_put 10 ⟨its⟩ ⟨P⟩ (1 : Int) ⟨[.v_sweep c w' sub]⟩ = some ⟨putL its (P.map Int.toNat) 1 [.v_sweep c w' sub]⟩ := by
  obtain ⟨A, G, C, e1, e0, hG, _, hrep⟩ := Tr.rep P 0 L its 0 _ h.tr hl
  have hdp := Tr.deep P 0 L its 0 _ h.tr (by omega) h.lf6 hl
  have hp : 1 ≤ P.length := by cases P with
    | nil => exact absurd rfl hP
    | cons _ _ => simp
  rw [show 0 + P.length - 1 = P.length - 1 by omega] at hG hrep
  generalize elv : P.length - 1 = lv at hG hrep hc ⊢
  have e2 : k = 0 + A.length := e0
  clear e0
  rw [Nat.zero_add] at e2
  have hGl : G.length = cnt (.v_sweep c w sub) + 0 := hG.len
  rw [Nat.add_zero] at hGl
  obtain ⟨x, g, rfl, t1, w1, g1⟩ := hG.one
  have hGL : ∀ y ∈ x :: g, y ∈ L := fun y m => by rw [e1]; exact List.mem_append_right _ (List.mem_append_left _ m)
  have hdt : (L.drop k).take (x :: g).length = x :: g := by rw [e2, e1, List.drop_left, List.take_left]
  have hlen : ∀ y ∈ x :: g, lv < y.c.length := fun y m => (List.getElem?_eq_some_iff.mp (w1 y m)).1
  have hkl : k + (x :: g).length ≤ L.length := by rw [e1, e2]; simp only [List.length_append]; omega
  have u1 := t1.mapd 0 (φ := fun _ p => p) (ψ := setW lv ⟨c, w'⟩) fun y m => ⟨rfl, (Int.add_zero _).symm, List.length_set, rfl, fun j hj => List.getElem?_set_ne (by omega)⟩
  rw [mapDs_id] at u1
  have u0 : Tr lv ((x :: g).map (setW lv ⟨c, w'⟩)) [.v_sweep c w' sub] := Tr.mk1 u1 (fun y m => by
    obtain ⟨u, hu, rfl⟩ := List.mem_map.mp (show y ∈ (x :: g).map (setW lv ⟨c, w'⟩) from m)
    show (u.c.set lv ⟨c, w'⟩)[lv]? = _
    rw [List.getElem?_set_self (hlen u hu)]) fun y m => by
    obtain ⟨u, hu, rfl⟩ := List.mem_map.mp m
    exact g1 u hu
  have tr2 := hrep _ _ u0 (by simp) (Cor.map (by simp) fun y m => ⟨fun j hj => List.getElem?_set_ne (by omega), fun j _ => Iff.rfl⟩) fun hh y e => by
    have e : setW lv ⟨c, w'⟩ x = y := Option.some.inj e
    rw [← e]; exact hh x rfl
  have eL2 : chL (setW lv ⟨c, w'⟩) k (cnt (.v_sweep c w sub)) L = A ++ ((x :: g).map (setW lv ⟨c, w'⟩) ++ C) := by rw [← hGl, e2, e1, chL_app]
  refine ⟨_, rfl, ⟨by rw [eL2]; exact tr2, ?_, by rw [eL2]; simp, ?_⟩, ?_, ?_⟩
  · rw [eL2]
    have := h.len
    rw [e1] at this
    simpa using this
  · intro y m
    rcases chL_mem m with m | ⟨z, hz, rfl⟩
    · exact h.lf y m
    · rw [← hGl, hdt] at hz
      obtain ⟨z1, z2⟩ := h.lf z (hGL z hz)
      refine ⟨by show (z.c.set lv ⟨c, w'⟩).length ≤ 6; rw [List.length_set]; exact z1, fun v hv => ?_⟩
      rcases List.mem_or_eq_of_mem_set (show v ∈ z.c.set lv ⟨c, w'⟩ from hv) with hv | rfl
      · exact z2 v hv
      · exact sw
  · refine changed_ok (ψ := setW lv ⟨c, w'⟩) h.len (k := k) (n := cnt (.v_sweep c w sub)) (by rw [← hGl]; exact hkl) (fun y m => ?_) rfl rfl
    rw [← hGl, hdt] at m
    exact ⟨_, _, hc y (w1 y m) (h.lf6 y (hGL y m)), rfl⟩
  · exact (put_ok (m := 1) (J := [.v_sweep c w' sub]) (by simp) P 10 0 0 L its _ (by omega) h.tr h.len hl).eq
theorem sok_any : sok ("any" : Str) := by unfold sok; decide +kernel
/-- no sweep stands there -/
def NoSw (its : List UItem) (P : List Int) : Prop := ∀ k c w sub, lookI its 0 P ≠ some (k, .v_sweep c w sub)
theorem no_sweep {its : List UItem} {P : List Int} (hP : P ≠ []) (h : NoSw its P) : m_sweep_at ⟨its⟩ ⟨P⟩ = some (Rs.x Xn.NoTurning) := by
  have hs := (sweep_at_ok its 0 hP).eq
  rw [hs]
  cases hl : lookI its 0 P with
  | none => rfl
  | some r =>
    obtain ⟨k, it⟩ := r
    cases it with
    | v_deed a b => rfl
    | v_sweep c w sub => exact absurd hl (h k c w sub)
theorem done_no {its : List UItem} {P : List Int} (hP : P ≠ []) (h : NoSw its P) (way k : Int) : m_done way ⟨its⟩ ⟨P⟩ k = some (Rs.x Xn.NoTurning) := by
  have hs := no_sweep hP h
  have z1 : m_swapped ⟨its⟩ ⟨P⟩ = some (Rs.x Xn.NoTurning) := by unfold m_swapped; exact Ok.eq (.bindE hs (.ret rfl))
  have z2 : m_joined ⟨its⟩ ⟨P⟩ = some (Rs.x Xn.NoTurning) := by unfold m_joined; exact Ok.eq (.bindE hs (.ret rfl))
  have z3 : m_parted ⟨its⟩ ⟨P⟩ 1 = some (Rs.x Xn.NoTurning) := by unfold m_parted; exact Ok.eq (.bindE hs (.ret rfl))
  have z4 : m_turned ⟨its⟩ ⟨P⟩ = some (Rs.x Xn.NoTurning) := by unfold m_turned; exact Ok.eq (.bindE hs (.ret rfl))
  have z5 : m_moved ⟨its⟩ ⟨P⟩ k 0 = some (Rs.x Xn.NoTurning) := by unfold m_moved; exact Ok.eq (.bindE hs (.ret rfl))
  have z6 : m_cut ⟨its⟩ ⟨P⟩ = some (Rs.x Xn.NoTurning) := by unfold m_cut; exact Ok.eq (.bindE hs (.ret rfl))
  have z7 : m_freed ⟨its⟩ ⟨P⟩ = some (Rs.x Xn.NoTurning) := by unfold m_freed; exact Ok.eq (.bindE hs (.ret rfl))
  unfold m_done
  simp only [z1, z2, z3, z4, z5, z6, z7, Option.bind_some, ite_self]
theorem refused_ok {its : List UItem} {P : List Int} (hP : P ≠ []) (h : NoSw its P) (way k : Int) : m_refused way ⟨its⟩ ⟨P⟩ k = some true := by
  have hs := done_no hP h way k
  unfold m_refused
  exact Ok.eq (.bindE rfl (.bindE rfl (.bindE hs (.bindE rfl (.bindE hs (.bindE rfl (.ret rfl)))))))
theorem law_change_ok {P : List Int} (hP : P ≠ []) {c : Bool} {w : Str} {y : LfT} (h : y.c[P.length - 1]? = some ⟨c, w⟩) : m_law_change ⟨P⟩ y.c y.d = some ⟨y.c.set (P.length - 1) ⟨c, "any"⟩, y.d⟩ := by
  have hp : 1 ≤ P.length := List.length_pos_iff.mpr hP
  have el : (P.length : Int) - 1 = ((P.length - 1 : Nat) : Int) := by omega
  unfold m_law_change
  show Option.bind (L2.atI y.c ((P.length : Int) - 1)) _ = _
  rw [el]
  refine Ok.eq (.bindE (atI_at h) ?_)
  exact .bindE (setG_n (List.getElem?_eq_some_iff.mp h).1 _) (.ret rfl)
theorem freed_ok {L : List LfT} {its : List UItem} (h : Gd L its) {P : List Int} (hP : P ≠ []) {k : Nat} {c : Bool} {w : Str} {sub : List UItem} (hl : lookI its 0 P = some (k, .v_sweep c w sub)) {z : List UItem} (hp : m_put 10 ⟨its⟩ ⟨P⟩ (1 : Int) ⟨[.v_sweep c "any" sub]⟩ = some ⟨z⟩) : m_freed ⟨its⟩ ⟨P⟩ = some (Rs.v ⟨z⟩) := by
  have hs := (sweep_at_ok its 0 hP).eq
  rw [hl] at hs
  unfold m_freed
  refine Ok.eq (.bindE hs ?_)
  refine .bindE (x := ⟨"sweep", c, w, ⟨sub⟩⟩) rfl (.bindE rfl ?_)
  have e : UItem.inv_sweep (T4.mk ("sweep" : Str) c ("any" : Str) (⟨sub⟩ : Tp UItem)) = some (.v_sweep c "any" sub) := by
    unfold UItem.inv_sweep
    rw [if_pos rfl]
  refine .bindE e ?_
  exact .bindE hp (.ret rfl)
theorem law_true (ns : List Int) (h : ns.length ≤ 63) : m_law ns = some true := by
  unfold m_law
  refine Ok.true_ ?_
  refine .bind (cell_at_ok ns (by decide)) fun turn _ => .bind (leaves_ok _ (by have := cut_len ns (some (4 : Int)) (some (61 : Int)); omega) turn) fun L hL => .bindE rfl (.bind hL.gd fun ⟨its⟩ hG => .bindE rfl ?_)
  have hG : Gd L its := hG
  refine .bindE hG.groups (.bindE rfl ?_)
  refine .bind (Ok.compf (P := fun fit : List GrT => ∀ x ∈ fit, x ∈ grpL [] 0 0 its) (fun x => x.d) id hG.glen (fun x _ => by cases e : x.d <;> rfl) (by rw [List.map_id]; exact fun x m => (List.mem_filter.mp m).1)) fun fit hfit => ?_
  refine .bind (cell_at_ok ns (by decide)) fun c1 _ => .bind (cell_at_ok ns (by decide)) fun c2 _ => .bind (path_ok hG.gne (fun x m => hG.pl m) (fun x m => hG.pl (hfit x m)) c1 c2) fun ⟨P⟩ ⟨hP, hPl⟩ => .bindE rfl ?_
  have hP : P ≠ [] := hP
  have hat : m_at (grpL [] 0 0 its) ⟨P⟩ = some (oneP its P) := (at_ok hP).eq
  refine .bindE hat (.bindE rfl (.bind (cell_at_ok ns (by decide)) fun c3 _ => .bindE rfl ?_))
  have hno : NoSw its P → (oneP its P).d = false := fun hn => by
    unfold oneP
    cases hl : lookI its 0 P with
    | none => rfl
    | some r =>
      obtain ⟨k, it⟩ := r
      cases it with
      | v_deed a b => rfl
      | v_sweep c w sub => exact absurd hl (hn k c w sub)
  by_cases hn : NoSw its P
  · rw [hno hn, if_pos (by decide)]
    have hL0 : 0 < L.length := List.length_pos_iff.mpr hG.ne
    rw [modG_p (by omega)]
    refine .bindE rfl (.bind (atI_mem (Int.emod_nonneg _ (by omega)) (Int.emod_lt_of_pos _ (by omega))) fun t _ => ?_)
    exact .bindE (refused_ok hP hn _ _) (.ret rfl)
  · obtain ⟨k, c, w, sub, hl⟩ : ∃ k c w sub, lookI its 0 P = some (k, .v_sweep c w sub) := Classical.byContradiction fun z => hn fun k c w sub e => z ⟨k, c, w, sub, e⟩
    have e5 : oneP its P = entP P (k, .v_sweep c w sub) := by unfold oneP; rw [hl]
    rw [e5, if_neg (fun z => by cases z)]
    obtain ⟨L2, eL2, g2, s1, s2⟩ := way_ok hG hP hl sok_any (chg := fun a_ => m_law_change ⟨P⟩ a_.1 a_.2.1) fun y hy _ => law_change_ok hP hy
    generalize ei : putL its (P.map Int.toNat) 1 [.v_sweep c "any" sub] = its2 at g2 s2
    have hl2 : lookI its2 0 P = some (k, .v_sweep c "any" sub) := by rw [← ei]; exact put_one P its 0 k _ _ hl
    obtain ⟨_, _, _, _, s3⟩ := way_ok g2 hP hl2 sok_any (chg := fun a_ => m_law_change ⟨P⟩ a_.1 a_.2.1) fun y hy _ => law_change_ok hP hy
    rw [put_same P its2 0 k _ hl2] at s3
    have ho2 := g2.tr.okD g2.lf
    refine .bindE s1 (.bindE (items_tr 10 0 _ _ (by omega) (by omega) g2.len g2.tr g2.lf6).eq (.bindE rfl (.bindE (freed_ok hG hP hl s2) (.bindE rfl (.bindE rfl (.bindE (x := false) ?_ ?_))))))
    · rw [if_neg (by decide)]
      refine Ok.eq (.bindE (eqG_ok ho2 ho2) ?_)
      rw [decide_eq_true rfl]
      refine .bindE (x := false) ?_ (.ret rfl)
      rw [if_neg (by decide)]
      exact Ok.eq (.bindE (kinds_ok 10 0 L2 its2 (by omega) (by omega) g2.tr g2.lf6) (.ret rfl))
    · rw [if_neg (by decide)]
      refine .bindE (freed_ok g2 hP hl2 s3) (.bindE rfl (.bindE (eqG_ok ho2 ho2) ?_))
      rw [decide_eq_true rfl]
      exact .ret rfl

abbrev cf_swapped_change (f_ c_ : Addr) (q_ : Str) (cl_ : List (Str × Addr)) (v_level : V) (x_level : Int) : Fnv (Int × (Tp (T2 Int Int)) × Unit) (Tp (T2 Int Int)) := ⟨f_, ⟨"change", q_, defArgs s_swapped_change, defBody s_swapped_change, defScope s_swapped_change, cl_, c_⟩, ["level"], [some v_level], fun K F => rp (α := Int) K F v_level x_level ∧ True, fun s_ h_ => ⟨Rp.mono s_ h_.1, trivial⟩, fun a_ => m_swapped_change x_level a_.1 a_.2.1⟩
abbrev cf_moved_change (f_ c_ : Addr) (q_ : Str) (cl_ : List (Str × Addr)) (v_k : V) (v_level : V) (v_shifts : V) (x_k : Int) (x_level : Int) (x_shifts : (List Int)) : Fnv (Int × (Tp (T2 Int Int)) × Unit) (Tp (T2 Int Int)) := ⟨f_, ⟨"change", q_, defArgs s_moved_change, defBody s_moved_change, defScope s_moved_change, cl_, c_⟩, ["k", "level", "shifts"], [some v_k, some v_level, some v_shifts], fun K F => rp (α := Int) K F v_k x_k ∧ rp (α := Int) K F v_level x_level ∧ rp (α := (List Int)) K F v_shifts x_shifts ∧ True, fun s_ h_ => ⟨Rp.mono s_ h_.1, Rp.mono s_ h_.2.1, Rp.mono s_ h_.2.2.1, trivial⟩, fun a_ => m_moved_change x_k x_level x_shifts a_.1 a_.2.1⟩
abbrev cf_cut_change (f_ c_ : Addr) (q_ : Str) (cl_ : List (Str × Addr)) (v_level : V) (x_level : Int) : Fnv (Int × (Tp (T2 Int Int)) × Unit) (Tp (T2 Int Int)) := ⟨f_, ⟨"change", q_, defArgs s_cut_change, defBody s_cut_change, defScope s_cut_change, cl_, c_⟩, ["level"], [some v_level], fun K F => rp (α := Int) K F v_level x_level ∧ True, fun s_ h_ => ⟨Rp.mono s_ h_.1, trivial⟩, fun a_ => m_cut_change x_level a_.1 a_.2.1⟩
abbrev cf_law_change (f_ c_ : Addr) (q_ : Str) (cl_ : List (Str × Addr)) (v_path_here : V) (x_path_here : (Tp Int)) : Fnv ((List (T2 Bool Str)) × (List (T2 Int Int)) × Unit) (T2 (List (T2 Bool Str)) (List (T2 Int Int))) := ⟨f_, ⟨"_law_change", q_, defArgs s_law_change, defBody s_law_change, defScope s_law_change, cl_, c_⟩, ["_law_path_here"], [some v_path_here], fun K F => rp (α := (Tp Int)) K F v_path_here x_path_here ∧ True, fun s_ h_ => ⟨Rp.mono s_ h_.1, trivial⟩, fun a_ => m_law_change x_path_here a_.1 a_.2.1⟩
/-! ### what the top has left -/
structure Txt (K : PySem.W.Frag) (mg : Str → Option Value) where
  d_cell_at : FuncData
  F_cell_at : FunD K "_law_cell_at" "_law_cell_at" (defArgs s_cell_at) (defBody s_cell_at) (defScope s_cell_at) [] [] (He.fAd K ("_law_cell_at", none)) d_cell_at
  g_cell_at : mg "_law_cell_at" = some (.ref (He.fAd K ("_law_cell_at", none)))
  d_stream : FuncData
  F_stream : FunD K "_law_stream" "_law_stream" (defArgs s_stream) (defBody s_stream) (defScope s_stream) [] [] (He.fAd K ("_law_stream", none)) d_stream
  g_stream : mg "_law_stream" = some (.ref (He.fAd K ("_law_stream", none)))
  d_steps : FuncData
  F_steps : FunD K "_law_steps" "_law_steps" (defArgs s_steps) (defBody s_steps) (defScope s_steps) [] [] (He.fAd K ("_law_steps", none)) d_steps
  g_steps : mg "_law_steps" = some (.ref (He.fAd K ("_law_steps", none)))
  d_number : FuncData
  F_number : FunD K "_law_number" "_law_number" (defArgs s_number) (defBody s_number) (defScope s_number) [] [] (He.fAd K ("_law_number", none)) d_number
  g_number : mg "_law_number" = some (.ref (He.fAd K ("_law_number", none)))
  d_places : FuncData
  F_places : FunD K "_law_places" "_law_places" (defArgs s_places) (defBody s_places) (defScope s_places) [] [] (He.fAd K ("_law_places", none)) d_places
  g_places : mg "_law_places" = some (.ref (He.fAd K ("_law_places", none)))
  d_leaves : FuncData
  F_leaves : FunD K "_law_leaves" "_law_leaves" (defArgs s_leaves) (defBody s_leaves) (defScope s_leaves) [] [] (He.fAd K ("_law_leaves", none)) d_leaves
  g_leaves : mg "_law_leaves" = some (.ref (He.fAd K ("_law_leaves", none)))
  d_items : FuncData
  F_items : FunD K "_law_items" "_law_items" (defArgs s_items) (defBody s_items) (defScope s_items) [] [] (He.fAd K ("_law_items", none)) d_items
  g_items : mg "_law_items" = some (.ref (He.fAd K ("_law_items", none)))
  d_groups : FuncData
  F_groups : FunD K "_law_groups" "_law_groups" (defArgs s_groups) (defBody s_groups) (defScope s_groups) [] [] (He.fAd K ("_law_groups", none)) d_groups
  g_groups : mg "_law_groups" = some (.ref (He.fAd K ("_law_groups", none)))
  d_path : FuncData
  F_path : FunD K "_law_path" "_law_path" (defArgs s_path) (defBody s_path) (defScope s_path) [] [] (He.fAd K ("_law_path", none)) d_path
  g_path : mg "_law_path" = some (.ref (He.fAd K ("_law_path", none)))
  d_at : FuncData
  F_at : FunD K "_law_at" "_law_at" (defArgs s_at) (defBody s_at) (defScope s_at) [] [] (He.fAd K ("_law_at", none)) d_at
  g_at : mg "_law_at" = some (.ref (He.fAd K ("_law_at", none)))
  d_item_at : FuncData
  F_item_at : FunD K "item_at" "item_at" (defArgs s_item_at) (defBody s_item_at) (defScope s_item_at) [] [] (He.fAd K ("item_at", none)) d_item_at
  g_item_at : mg "item_at" = some (.ref (He.fAd K ("item_at", none)))
  d_sweep_at : FuncData
  F_sweep_at : FunD K "sweep_at" "sweep_at" (defArgs s_sweep_at) (defBody s_sweep_at) (defScope s_sweep_at) [] [] (He.fAd K ("sweep_at", none)) d_sweep_at
  g_sweep_at : mg "sweep_at" = some (.ref (He.fAd K ("sweep_at", none)))
  d_each_deed : FuncData
  F_each_deed : FunD K "each_deed" "each_deed" (defArgs s_each_deed) (defBody s_each_deed) (defScope s_each_deed) [] [] (He.fAd K ("each_deed", none)) d_each_deed
  g_each_deed : mg "each_deed" = some (.ref (He.fAd K ("each_deed", none)))
  d_put : FuncData
  F_put : FunD K "put" "put" (defArgs s_put) (defBody s_put) (defScope s_put) [] [] (He.fAd K ("put", none)) d_put
  g_put : mg "put" = some (.ref (He.fAd K ("put", none)))
  d_swapped : FuncData
  F_swapped : FunD K "swapped" "swapped" (defArgs s_swapped) (defBody s_swapped) (defScope s_swapped) [] [] (He.fAd K ("swapped", none)) d_swapped
  g_swapped : mg "swapped" = some (.ref (He.fAd K ("swapped", none)))
  d_joined : FuncData
  F_joined : FunD K "joined" "joined" (defArgs s_joined) (defBody s_joined) (defScope s_joined) [] [] (He.fAd K ("joined", none)) d_joined
  g_joined : mg "joined" = some (.ref (He.fAd K ("joined", none)))
  d_parted : FuncData
  F_parted : FunD K "parted" "parted" (defArgs s_parted) (defBody s_parted) (defScope s_parted) [] [] (He.fAd K ("parted", none)) d_parted
  g_parted : mg "parted" = some (.ref (He.fAd K ("parted", none)))
  d_turned : FuncData
  F_turned : FunD K "turned" "turned" (defArgs s_turned) (defBody s_turned) (defScope s_turned) [] [] (He.fAd K ("turned", none)) d_turned
  g_turned : mg "turned" = some (.ref (He.fAd K ("turned", none)))
  d_deeds_in : FuncData
  F_deeds_in : FunD K "deeds_in" "deeds_in" (defArgs s_deeds_in) (defBody s_deeds_in) (defScope s_deeds_in) [] [] (He.fAd K ("deeds_in", none)) d_deeds_in
  g_deeds_in : mg "deeds_in" = some (.ref (He.fAd K ("deeds_in", none)))
  d_moved : FuncData
  F_moved : FunD K "moved" "moved" (defArgs s_moved) (defBody s_moved) (defScope s_moved) [] [] (He.fAd K ("moved", none)) d_moved
  g_moved : mg "moved" = some (.ref (He.fAd K ("moved", none)))
  d_cut : FuncData
  F_cut : FunD K "cut" "cut" (defArgs s_cut) (defBody s_cut) (defScope s_cut) [] [] (He.fAd K ("cut", none)) d_cut
  g_cut : mg "cut" = some (.ref (He.fAd K ("cut", none)))
  d_freed : FuncData
  F_freed : FunD K "freed" "freed" (defArgs s_freed) (defBody s_freed) (defScope s_freed) [] [] (He.fAd K ("freed", none)) d_freed
  g_freed : mg "freed" = some (.ref (He.fAd K ("freed", none)))
  d_done : FuncData
  F_done : FunD K "_law_done" "_law_done" (defArgs s_done) (defBody s_done) (defScope s_done) [] [] (He.fAd K ("_law_done", none)) d_done
  g_done : mg "_law_done" = some (.ref (He.fAd K ("_law_done", none)))
  d_refused : FuncData
  F_refused : FunD K "_law_refused" "_law_refused" (defArgs s_refused) (defBody s_refused) (defScope s_refused) [] [] (He.fAd K ("_law_refused", none)) d_refused
  g_refused : mg "_law_refused" = some (.ref (He.fAd K ("_law_refused", none)))
  d_changed : FuncData
  F_changed : FunD K "_law_changed" "_law_changed" (defArgs s_changed) (defBody s_changed) (defScope s_changed) [] [] (He.fAd K ("_law_changed", none)) d_changed
  g_changed : mg "_law_changed" = some (.ref (He.fAd K ("_law_changed", none)))
  d_whole : FuncData
  F_whole : FunD K "_law_whole" "_law_whole" (defArgs s_whole) (defBody s_whole) (defScope s_whole) [] [] (He.fAd K ("_law_whole", none)) d_whole
  g_whole : mg "_law_whole" = some (.ref (He.fAd K ("_law_whole", none)))
  d_kinds : FuncData
  F_kinds : FunD K "_law_kinds" "_law_kinds" (defArgs s_kinds) (defBody s_kinds) (defScope s_kinds) [] [] (He.fAd K ("_law_kinds", none)) d_kinds
  g_kinds : mg "_law_kinds" = some (.ref (He.fAd K ("_law_kinds", none)))
  d_law : FuncData
  F_law : FunD K "law" "law" (defArgs s_law) (defBody s_law) (defScope s_law) [] [] (He.fAd K ("law", none)) d_law
  g_law : mg "law" = some (.ref (He.fAd K ("law", none)))
  g_NoTurning : mg "NoTurning" = some (.ref (He.ga K "NoTurning"))
  xn_NoTurning : XnF K "NoTurning"
  xm_NoTurning_FurrowError : PySem.W.exmOne K (.ref (He.ga K "NoTurning")) (.ref (He.ga K "FurrowError")) = some true
  xm_NoTurning_NoTurning : PySem.W.exmOne K (.ref (He.ga K "NoTurning")) (.ref (He.ga K "NoTurning")) = some true
  xc_NoTurning : ExcC K (He.ga K "NoTurning")
  xk_NoTurning_NoTurning : PySem.W.kitOne K (.ref (He.ga K "NoTurning")) (.ref (He.ga K "NoTurning")) = some true
  xk_NoTurning_ValueError : PySem.W.kitOne K (.ref (He.ga K "NoTurning")) (.type "ValueError") = some true
  g_FurrowError : mg "FurrowError" = some (.ref (He.ga K "FurrowError"))
  n_ValueError : mg "ValueError" = none
  n_abs : mg "abs" = none
  n_bool : mg "bool" = none
  n_int : mg "int" = none
  n_isinstance : mg "isinstance" = none
  n_len : mg "len" = none
  n_list : mg "list" = none
  n_max : mg "max" = none
  n_min : mg "min" = none
  n_range : mg "range" = none
  n_tuple : mg "tuple" = none
  c_MOST_PAIRS : ∃ t, mg "MOST_PAIRS" = some (.int 6 t)
  c_MOST_SHIFT : ∃ t, mg "MOST_SHIFT" = some (.int 1000000000000000000 t)
structure TxB (K : PySem.W.Frag) (mg : Str → Option Value) (base : Heap) extends Txt K mg where
  tb : ∀ p ∈ tfG, LamX.TabB base mg (He.cT K p).1 (He.cT K p).2
theorem TxB.tb_swapped {K : PySem.W.Frag} {mg : Str → Option Value} {base : Heap} (T : TxB K mg base) : LamX.TabB base mg (He.codeOf K ("swapped", none)) (He.tabOf K (He.codeOf K ("swapped", none))) := T.tb ("swapped", none) (.head _)
theorem TxB.tb_moved {K : PySem.W.Frag} {mg : Str → Option Value} {base : Heap} (T : TxB K mg base) : LamX.TabB base mg (He.codeOf K ("moved", none)) (He.tabOf K (He.codeOf K ("moved", none))) := T.tb ("moved", none) (.tail _ (.head _))
theorem TxB.tb_cut {K : PySem.W.Frag} {mg : Str → Option Value} {base : Heap} (T : TxB K mg base) : LamX.TabB base mg (He.codeOf K ("cut", none)) (He.tabOf K (He.codeOf K ("cut", none))) := T.tb ("cut", none) (.tail _ (.tail _ (.head _)))
theorem TxB.tb_law {K : PySem.W.Frag} {mg : Str → Option Value} {base : Heap} (T : TxB K mg base) : LamX.TabB base mg (He.codeOf K ("law", none)) (He.tabOf K (He.codeOf K ("law", none))) := T.tb ("law", none) (.tail _ (.tail _ (.tail _ (.head _))))
section
variable {P : Program} {w : World} {K : PySem.W.Frag} {mg : Str → Option Value} {base : Heap}
theorem Txt.e_MOST_PAIRS (T : Txt K mg) {X : Cx} {σ : L2.St} {F H : Hp} {pos : Pos} (hm : X.mg = mg := by rfl) (hg : Gl X "MOST_PAIRS" := by rfl) : Ev X (.Name "MOST_PAIRS" pos) σ F H ((6 : Int) : Int) := by
  subst hm
  obtain ⟨t, h⟩ := T.c_MOST_PAIRS
  exact ev_glob (v := .int (6 : Int)) h ⟨t, rfl⟩ (fun _ => rfl) hg
theorem Txt.e_MOST_SHIFT (T : Txt K mg) {X : Cx} {σ : L2.St} {F H : Hp} {pos : Pos} (hm : X.mg = mg := by rfl) (hg : Gl X "MOST_SHIFT" := by rfl) : Ev X (.Name "MOST_SHIFT" pos) σ F H ((1000000000000000000 : Int) : Int) := by
  subst hm
  obtain ⟨t, h⟩ := T.c_MOST_SHIFT
  exact ev_glob (v := .int (1000000000000000000 : Int)) h ⟨t, rfl⟩ (fun _ => rfl) hg
/-! cell_at -/
theorem sc_cell_at : FnScope ["_law_script", "_law_k"] ["_law_script", "_law_k"] (defScope s_cell_at) := ⟨rfl, rfl, rfl, by decide +kernel, rfl, by decide +kernel, by decide +kernel⟩
theorem b_cell_at (T : TxB K mg base) : Binds K T.d_cell_at ["_law_script", "_law_k"] [] := T.F_cell_at.bindsN fun _ _ _ _ _ _ us hl => match us, hl with | [_, _], _ => rfl
theorem kv_cell_at_0 : VKn (defScope s_cell_at) "_law_script" := ⟨by first | exact Or.inl (by decide +kernel) | exact Or.inr (Or.inl (by decide +kernel)) | exact Or.inr (Or.inr (by decide +kernel)), by decide, by decide⟩
theorem kv_cell_at_1 : VKn (defScope s_cell_at) "_law_k" := ⟨by first | exact Or.inl (by decide +kernel) | exact Or.inr (Or.inl (by decide +kernel)) | exact Or.inr (Or.inr (by decide +kernel)), by decide, by decide⟩
theorem ok_cell_at (T : TxB K mg base) : FnOk P w K mg base CX0 1 (He.fAd K ("_law_cell_at", none)) T.d_cell_at ["_law_script", "_law_k"] (Pr K fun (a_ : (List Int) × Int × Unit) => m_cell_at a_.1 a_.2.1) := by
  refine fn_ok T.F_cell_at sc_cell_at rfl fun cdv A outer s_ F0 H0 vs a_ r D_ E_ hr sm_ ra_ hm kr kn => ?_
  obtain ⟨v_script, _, rfl, r_script, v_k, _, rfl, r_k, rfl⟩ := ra_
  obtain ⟨x_script, x_k, _u⟩ := a_
  have G : GrX K F0 H0 F0 H0 := .refl sm_
  replace hm : m_cell_at x_script x_k = some r := hm
  unfold m_cell_at at hm
  have r_script : rp (α := (List Int)) K F0 v_script x_script := r_script
  have r_k : rp (α := Int) K F0 v_k x_k := r_k
  change GoS _ _ _ [some v_script, some v_k] _
  refine go_ifA ((decide (x_k < (x_script.length : Int)))) G.sm (et_cmp op_lt o2_lt (ev_varK 1 rfl r_k kv_cell_at_1) (ev_callB call_len_seq oc_lenL T.n_len PySem.boot_len (ea_cons (ev_varK 0 rfl r_script kv_cell_at_0) ea_nil)) (nomark _)) (fun hc F H g => ?_) (fun hc F H g => ?_)
  · replace hm := ipos hc hm
    have G := G.trans g
    have r_script := Rp.mono g.ff r_script
    have r_k := Rp.mono g.ff r_k
    obtain ⟨t1, h_t1, hm⟩ := Option.bind_eq_some_iff.mp hm
    exact go_ret G.sm (ev_ixL (ev_varK 0 rfl r_script kv_cell_at_0) (ev_varK 1 rfl r_k kv_cell_at_1) h_t1) fun v_ F_ H_ g_ rv_ => kr _ _ _ (G.trans g_) (cg (Option.some.inj hm) rv_)
  · replace hm := ineg (nt hc) hm
    have G := G.trans g
    have r_script := Rp.mono g.ff r_script
    have r_k := Rp.mono g.ff r_k
    refine GoS.nil ?_
    exact go_ret G.sm ev_int fun v_ F_ H_ g_ rv_ => kr _ _ _ (G.trans g_) (cg (Option.some.inj hm) rv_)
/-! stream -/
theorem sc_stream : FnScope ["_law_cell", "_law_many", "_law_found", "_law_number_here", "_law_k"] ["_law_cell", "_law_many"] (defScope s_stream) := ⟨rfl, rfl, rfl, by decide +kernel, rfl, by decide +kernel, by decide +kernel⟩
theorem b_stream (T : TxB K mg base) : Binds K T.d_stream ["_law_cell", "_law_many"] [] := T.F_stream.bindsN fun _ _ _ _ _ _ us hl => match us, hl with | [_, _], _ => rfl
theorem kv_stream_0 : VKn (defScope s_stream) "_law_cell" := ⟨by first | exact Or.inl (by decide +kernel) | exact Or.inr (Or.inl (by decide +kernel)) | exact Or.inr (Or.inr (by decide +kernel)), by decide, by decide⟩
theorem kv_stream_1 : VKn (defScope s_stream) "_law_many" := ⟨by first | exact Or.inl (by decide +kernel) | exact Or.inr (Or.inl (by decide +kernel)) | exact Or.inr (Or.inr (by decide +kernel)), by decide, by decide⟩
theorem kv_stream_2 : VKn (defScope s_stream) "_law_found" := ⟨by first | exact Or.inl (by decide +kernel) | exact Or.inr (Or.inl (by decide +kernel)) | exact Or.inr (Or.inr (by decide +kernel)), by decide, by decide⟩
theorem kv_stream_3 : VKn (defScope s_stream) "_law_number_here" := ⟨by first | exact Or.inl (by decide +kernel) | exact Or.inr (Or.inl (by decide +kernel)) | exact Or.inr (Or.inr (by decide +kernel)), by decide, by decide⟩
theorem kv_stream_4 : VKn (defScope s_stream) "_law_k" := ⟨by first | exact Or.inl (by decide +kernel) | exact Or.inr (Or.inl (by decide +kernel)) | exact Or.inr (Or.inr (by decide +kernel)), by decide, by decide⟩
theorem ok_stream (T : TxB K mg base) : FnOk P w K mg base CX0 1 (He.fAd K ("_law_stream", none)) T.d_stream ["_law_cell", "_law_many"] (Pr K fun (a_ : Int × Int × Unit) => m_stream a_.1 a_.2.1) := by
  refine fn_ok T.F_stream sc_stream rfl fun cdv A outer s_ F0 H0 vs a_ r D_ E_ hr sm_ ra_ hm kr kn => ?_
  obtain ⟨v_cell, _, rfl, r_cell, v_many, _, rfl, r_many, rfl⟩ := ra_
  obtain ⟨x_cell, x_many, _u⟩ := a_
  have G : GrX K F0 H0 F0 H0 := .refl sm_
  replace hm : m_stream x_cell x_many = some r := hm
  unfold m_stream at hm
  have r_cell : rp (α := Int) K F0 v_cell x_cell := r_cell
  have r_many : rp (α := Int) K F0 v_many x_many := r_many
  change GoS _ _ _ [some v_cell, some v_many, none, none, none] _
  obtain ⟨x_found, he, hm⟩ := Option.bind_eq_some_iff.mp hm
  refine go_setNA ((List Int)) 2 G.sm (en_list el_nil (Nat.zero_le _)) (fun l_found vs_ F H g nl_ fl_ hl_ rs_ => ?_) sc_stream.nd
  have n0_ := G.hh.free nl_
  have G := G.trans g
  have r_cell := Rp.mono g.ff r_cell
  have r_many := Rp.mono g.ff r_many
  have o_found : Own K _ F H l_found _ := Own.cg (Option.some.inj he) ⟨n0_, fl_, vs_, hl_, rs_⟩
  change GoS _ _ _ [some v_cell, some v_many, some (.ref l_found), none, none] _
  obtain ⟨x_number_here, he, hm⟩ := Option.bind_eq_some_iff.mp hm
  refine go_setA (Int) 3 G.sm (ev_add (ev_mod (ev_varK 0 rfl r_cell kv_stream_0) ev_int (by decide)) ev_int) (fun v_number_here F H g rn_ => ?_) sc_stream.nd
  have G := G.trans g
  have r_cell := Rp.mono g.ff r_cell
  have r_many := Rp.mono g.ff r_many
  have o_found := o_found.up g
  have r_number_here := cg (Option.some.inj he) rn_
  change GoS _ _ _ [some v_cell, some v_many, some (.ref l_found), some v_number_here, none] _
  obtain ⟨t1, h_t1, hm⟩ := Option.bind_eq_some_iff.mp hm
  obtain ⟨b8, ho_, hm⟩ := Option.bind_eq_some_iff.mp hm
  refine go_forN G.sm (ei_range1 (ev_add (ev_varK 1 rfl r_many kv_stream_1) ev_int) h_t1 T.n_range) (pg_name (i := 4) sc_stream.nd rfl (by first | exact Or.inl rfl | exact Or.inr rfl)) ho_ (fun F H g => ?_) PassesOwn.never
  have G := G.trans g
  have o_found := o_found.up g
  have r_number_here := Rp.mono g.ff r_number_here
  refine ⟨fun (b2 : (Int × (List Int))) σ_ F_ H_ => ∃ (u_k : Option V) (v_number_here : V), σ_ = [some v_cell, some v_many, some (.ref l_found), some v_number_here, u_k] ∧ GrX K F0 H0 F_ H_ ∧ rp (α := Int) K F_ v_number_here b2.1 ∧ Own K H0 F_ H_ l_found b2.2, ⟨_, _, rfl, G, r_number_here, o_found⟩, ?_, ?_⟩
  ·
    intro b2 x_k o_ hm σ_ F H v_k s1_ s2_ iv_ F H g r_k Q_ hQ_
    obtain ⟨u_k, v_number_here, rfl, G, r_number_here, o_found⟩ := iv_
    have sb5 := g.ff
    have G := G.trans g
    have o_found := o_found.up g
    have r_number_here := Rp.mono g.ff r_number_here
    refine hQ_ _ _ ?_
    change GoS _ _ _ [some v_cell, some v_many, some (.ref l_found), some v_number_here, some v_k] _
    obtain ⟨t6, h_t6, hm⟩ := Option.bind_eq_some_iff.mp hm
    obtain ⟨x_number_here, he, hm⟩ := Option.bind_eq_some_iff.mp hm
    refine go_setA (Int) 3 G.sm (ev_mod (ev_add (ev_add (ev_mulG (ev_varK 3 rfl r_number_here kv_stream_3) (ev_varK 3 rfl r_number_here kv_stream_3) h_t6) (ev_mul ev_int (ev_varK 3 rfl r_number_here kv_stream_3) (CMul.l (by decide)))) (ev_varK 4 rfl r_k kv_stream_4)) ev_int (by decide)) (fun v_number_here F H g rn_ => ?_) sc_stream.nd
    have G := G.trans g
    have o_found := o_found.up g
    have r_k := Rp.mono g.ff r_k
    have sb5 := sb5.trans g.ff
    have r_number_here := cg (Option.some.inj he) rn_
    obtain ⟨t7, he, hm⟩ := Option.bind_eq_some_iff.mp hm
    refine go_append 2 G.sm o_found rfl (ev_varK 3 rfl r_number_here kv_stream_3) he (fun w_ F H g nz_ fz_ on_ => ?_)
    have G := G.trans g
    have r_number_here := Rp.mono g.ff r_number_here
    have sb5 := sb5.trans g.ff
    have G := G.poke (u := w_) on_.n fz_ nz_ on_.pl
    have o_found := on_
    have hm := Option.some.inj hm
    subst hm
    exact GoS.nil ⟨_, sb5, G.fh, ⟨_, _, rfl, G, r_number_here, o_found⟩⟩
  · intro σ_ F H s1_ s2_ iv_
    obtain ⟨u_k, v_number_here, rfl, G, r_number_here, o_found⟩ := iv_
    refine o_found.freeze G (fun F H s_ s2_ G r_found k_ => ?_)
    exact go_ret G.sm (EvN.evA ((List Int)) (en_slice (ev_varK 2 rfl r_found kv_stream_2) (eo_some ev_int) eo_none)) fun v_ F_ H_ g_ rv_ => kr _ _ _ (G.trans g_) (cg (Option.some.inj hm) rv_)
/-! steps -/
theorem sc_steps : FnScope ["_law_cells", "_law_opened", "_law_path_here", "_law_found", "_law_cell", "_law_whole_here", "_law_one", "_law_x", "_law_way", "_law_is_cut"] ["_law_cells"] (defScope s_steps) := ⟨rfl, rfl, rfl, by decide +kernel, rfl, by decide +kernel, by decide +kernel⟩
theorem b_steps (T : TxB K mg base) : Binds K T.d_steps ["_law_cells"] [] := T.F_steps.bindsN fun _ _ _ _ _ _ us hl => match us, hl with | [_], _ => rfl
theorem kv_steps_0 : VKn (defScope s_steps) "_law_cells" := ⟨by first | exact Or.inl (by decide +kernel) | exact Or.inr (Or.inl (by decide +kernel)) | exact Or.inr (Or.inr (by decide +kernel)), by decide, by decide⟩
theorem kv_steps_1 : VKn (defScope s_steps) "_law_opened" := ⟨by first | exact Or.inl (by decide +kernel) | exact Or.inr (Or.inl (by decide +kernel)) | exact Or.inr (Or.inr (by decide +kernel)), by decide, by decide⟩
theorem kv_steps_2 : VKn (defScope s_steps) "_law_path_here" := ⟨by first | exact Or.inl (by decide +kernel) | exact Or.inr (Or.inl (by decide +kernel)) | exact Or.inr (Or.inr (by decide +kernel)), by decide, by decide⟩
theorem kv_steps_3 : VKn (defScope s_steps) "_law_found" := ⟨by first | exact Or.inl (by decide +kernel) | exact Or.inr (Or.inl (by decide +kernel)) | exact Or.inr (Or.inr (by decide +kernel)), by decide, by decide⟩
theorem kv_steps_4 : VKn (defScope s_steps) "_law_cell" := ⟨by first | exact Or.inl (by decide +kernel) | exact Or.inr (Or.inl (by decide +kernel)) | exact Or.inr (Or.inr (by decide +kernel)), by decide, by decide⟩
theorem kv_steps_5 : VKn (defScope s_steps) "_law_whole_here" := ⟨by first | exact Or.inl (by decide +kernel) | exact Or.inr (Or.inl (by decide +kernel)) | exact Or.inr (Or.inr (by decide +kernel)), by decide, by decide⟩
theorem kv_steps_7 : VKn (defScope s_steps) "_law_x" := ⟨by first | exact Or.inl (by decide +kernel) | exact Or.inr (Or.inl (by decide +kernel)) | exact Or.inr (Or.inr (by decide +kernel)), by decide, by decide⟩
theorem kv_steps_8 : VKn (defScope s_steps) "_law_way" := ⟨by first | exact Or.inl (by decide +kernel) | exact Or.inr (Or.inl (by decide +kernel)) | exact Or.inr (Or.inr (by decide +kernel)), by decide, by decide⟩
theorem kv_steps_9 : VKn (defScope s_steps) "_law_is_cut" := ⟨by first | exact Or.inl (by decide +kernel) | exact Or.inr (Or.inl (by decide +kernel)) | exact Or.inr (Or.inr (by decide +kernel)), by decide, by decide⟩
theorem gl_steps_stream : (defScope s_steps).names.lookup ("_law_stream" : Str) = some NameKind.globalImplicit := by decide +kernel
theorem ok_steps (T : TxB K mg base) : FnOk P w K mg base CX0 2 (He.fAd K ("_law_steps", none)) T.d_steps ["_law_cells"] (Pr K fun (a_ : (List Int) × Unit) => m_steps a_.1) := by
  refine fn_ok T.F_steps sc_steps rfl fun cdv A outer s_ F0 H0 vs a_ r D_ E_ hr sm_ ra_ hm kr kn => ?_
  obtain ⟨v_cells, _, rfl, r_cells, rfl⟩ := ra_
  obtain ⟨x_cells, _u⟩ := a_
  have G : GrX K F0 H0 F0 H0 := .refl sm_
  replace hm : m_steps x_cells = some r := hm
  unfold m_steps at hm
  have r_cells : rp (α := (List Int)) K F0 v_cells x_cells := r_cells
  change GoS _ _ _ [some v_cells, none, none, none, none, none, none, none, none, none] _
  obtain ⟨x_opened, he, hm⟩ := Option.bind_eq_some_iff.mp hm
  refine go_setA ((List (T2 Str Bool))) 1 G.sm (EvN.evA ((List (T2 Str Bool))) (en_list el_nil (Nat.zero_le _))) (fun v_opened F H g rn_ => ?_) sc_steps.nd
  have G := G.trans g
  have r_cells := Rp.mono g.ff r_cells
  have r_opened := cg (Option.some.inj he) rn_
  change GoS _ _ _ [some v_cells, some v_opened, none, none, none, none, none, none, none, none] _
  obtain ⟨x_path_here, he, hm⟩ := Option.bind_eq_some_iff.mp hm
  refine go_setA ((List Int)) 2 G.sm (EvN.evA ((List Int)) (en_list (el_int el_nil) (by show 1 ≤ sizeLine; decide))) (fun v_path_here F H g rn_ => ?_) sc_steps.nd
  have G := G.trans g
  have r_cells := Rp.mono g.ff r_cells
  have r_opened := Rp.mono g.ff r_opened
  have r_path_here := cg (Option.some.inj he) rn_
  change GoS _ _ _ [some v_cells, some v_opened, some v_path_here, none, none, none, none, none, none, none] _
  obtain ⟨x_found, he, hm⟩ := Option.bind_eq_some_iff.mp hm
  refine go_setNA ((List (T3 (List (T2 Str Bool)) (List Int) Int))) 3 G.sm (en_list el_nil (Nat.zero_le _)) (fun l_found vs_ F H g nl_ fl_ hl_ rs_ => ?_) sc_steps.nd
  have n0_ := G.hh.free nl_
  have G := G.trans g
  have r_cells := Rp.mono g.ff r_cells
  have r_opened := Rp.mono g.ff r_opened
  have r_path_here := Rp.mono g.ff r_path_here
  have o_found : Own K _ F H l_found _ := Own.cg (Option.some.inj he) ⟨n0_, fl_, vs_, hl_, rs_⟩
  change GoS _ _ _ [some v_cells, some v_opened, some v_path_here, some (.ref l_found), none, none, none, none, none, none] _
  obtain ⟨t1, h_t1, hm⟩ := Option.bind_eq_some_iff.mp hm
  obtain ⟨o4, ho_, hm⟩ := Option.bind_eq_some_iff.mp hm
  refine go_forM G.sm (ei_list (EvN.evA ((List Int)) (en_cat (ev_varK 0 rfl r_cells kv_steps_0) (EvN.evA ((List Int)) (en_list (el_cons (ev_add ev_int (ev_mul ev_int (ev_callB call_len_seq oc_lenL T.n_len PySem.boot_len (ea_cons (ev_varK 0 rfl r_cells kv_steps_0) ea_nil)) (CMul.l (by decide)))) el_nil) (by show 1 ≤ sizeLine; decide))) h_t1))) (pg_name (i := 4) sc_steps.nd rfl (by first | exact Or.inl rfl | exact Or.inr rfl)) ho_ hm (fun F H g => ?_) PassesOwn.never
  have G := G.trans g
  have r_opened := Rp.mono g.ff r_opened
  have r_path_here := Rp.mono g.ff r_path_here
  have o_found := o_found.up g
  refine ⟨fun (b2 : ((List (T2 Str Bool)) × (List Int) × (List (T3 (List (T2 Str Bool)) (List Int) Int)))) σ_ F_ H_ => ∃ (u_whole_here : Option V) (u_x : Option V) (u_way : Option V) (u_is_cut : Option V) (u_cell : Option V) (v_opened : V) (v_path_here : V), σ_ = [some v_cells, some v_opened, some v_path_here, some (.ref l_found), u_cell, u_whole_here, none, u_x, u_way, u_is_cut] ∧ GrX K F0 H0 F_ H_ ∧ rp (α := (List (T2 Str Bool))) K F_ v_opened b2.1 ∧ rp (α := (List Int)) K F_ v_path_here b2.2.1 ∧ Own K H0 F_ H_ l_found b2.2.2, fun r_ v_ H_ => ∃ F_, GrX K F0 H0 F_ H_ ∧ rp K F_ v_ r_, ⟨_, _, _, _, _, _, _, rfl, G, r_opened, r_path_here, o_found⟩, ?_, ?_, ?_⟩
  ·
    intro b2 x_cell o_ hm σ_ F H v_cell s1_ s2_ iv_ F H g r_cell Q_ hQ_
    obtain ⟨u_whole_here, u_x, u_way, u_is_cut, u_cell, v_opened, v_path_here, rfl, G, r_opened, r_path_here, o_found⟩ := iv_
    have sb5 := g.ff
    have G := G.trans g
    have r_opened := Rp.mono g.ff r_opened
    have r_path_here := Rp.mono g.ff r_path_here
    have o_found := o_found.up g
    refine hQ_ _ _ ?_
    change GoS _ _ _ [some v_cells, some v_opened, some v_path_here, some (.ref l_found), some v_cell, u_whole_here, none, u_x, u_way, u_is_cut] _
    refine go_ifA ((decide ((b2.2.2.length : Int) = (6 : Int)))) G.sm (et_thaw o_found G.fh (fun F H s_ s2_ rf_ k_ => by
            have r_opened := Rp.mono s_ r_opened
            have r_path_here := Rp.mono s_ r_path_here
            have r_cell := Rp.mono s_ r_cell
            have rf_found := rf_
            exact (et_cmp op_eq o2_eq (ev_callB call_len_seq oc_lenL T.n_len PySem.boot_len (ea_cons (ev_var 3 rfl rf_found) ea_nil)) ev_int (nomark _)))) (fun hc F H g => ?_) (fun hc F H g => ?_)
    · replace hm := ipos hc hm
      have G := G.trans g
      have r_opened := Rp.mono g.ff r_opened
      have r_path_here := Rp.mono g.ff r_path_here
      have o_found := o_found.up g
      have r_cell := Rp.mono g.ff r_cell
      have sb5 := sb5.trans g.ff
      exact go_brk ⟨_, _, (Option.some.inj hm).symm, sb5, G.fh, ⟨_, _, _, _, _, _, _, rfl, G, r_opened, r_path_here, o_found⟩⟩
    · replace hm := ineg (nt hc) hm
      have G := G.trans g
      have r_opened := Rp.mono g.ff r_opened
      have r_path_here := Rp.mono g.ff r_path_here
      have o_found := o_found.up g
      have r_cell := Rp.mono g.ff r_cell
      have sb5 := sb5.trans g.ff
      refine GoS.nil ?_
      obtain ⟨t6, h_t6, hm⟩ := Option.bind_eq_some_iff.mp hm
      obtain ⟨x_whole_here, he, hm⟩ := Option.bind_eq_some_iff.mp hm
      refine go_setA (Int) 5 G.sm (ev_callB call_len_seq oc_lenL T.n_len PySem.boot_len (ea_cons (EvN.evA ((List (T2 Str Bool))) (en_compi (own := [("_law_one", 6)]) sc_steps.nd (ei_list (ev_varK 1 rfl r_opened kv_steps_1)) h_t6 (blkOk_by (N := ["_law_cells", "_law_opened", "_law_path_here", "_law_found", "_law_cell", "_law_whole_here", "_law_one", "_law_x", "_law_way", "_law_is_cut"]) (sc := defScope s_steps) (by decide +kernel)) (fun _ _ _ _ _ => (pg_name (i := 6) sc_steps.nd rfl (by first | exact Or.inl rfl | exact Or.inr rfl))) (fun x_one o_ hm F H v_one g r_one Q hQ => by
              have r_opened := Rp.mono g.ff r_opened
              refine hQ _ rfl ?_
              refine ⟨_, fun s_ H_ C_ cl_ fp_ => (et_not (et_val (ev_ixT (ev_var 6 rfl r_one) ev_int pj1))), fun hc => ?_, fun hc => ?_⟩
              · replace hm := ipos hc hm
                exact ⟨_, (Option.some.inj hm).symm, fun s_ H_ C_ cl_ fp_ => (ev_var 6 rfl r_one)⟩
              · replace hm := ineg (nt hc) hm
                exact (Option.some.inj hm).symm))) ea_nil)) (fun v_whole_here F H g rn_ => ?_) sc_steps.nd
      have G := G.trans g
      have r_opened := Rp.mono g.ff r_opened
      have r_path_here := Rp.mono g.ff r_path_here
      have o_found := o_found.up g
      have r_cell := Rp.mono g.ff r_cell
      have sb5 := sb5.trans g.ff
      have r_whole_here := cg (Option.some.inj he) rn_
      change GoS _ _ _ [some v_cells, some v_opened, some v_path_here, some (.ref l_found), some v_cell, some v_whole_here, none, u_x, u_way, u_is_cut] _
      obtain ⟨t7, h_t7, hm⟩ := Option.bind_eq_some_iff.mp hm
      obtain ⟨t8, h_t8, hm⟩ := Option.bind_eq_some_iff.mp hm
      obtain ⟨x_x, he, hm⟩ := Option.bind_eq_some_iff.mp hm
      refine go_setA (Int) 7 G.sm (ev_ixL (ev_call (ok_stream T) (hr.mono (by omega)) T.g_stream T.F_stream.kp (b_stream T) (ea_cons (ev_varK 4 rfl r_cell kv_steps_4) (ea_cons ev_int ea_nil)) h_t7 gl_steps_stream) ev_int h_t8) (fun v_x F H g rn_ => ?_) sc_steps.nd
      have G := G.trans g
      have r_opened := Rp.mono g.ff r_opened
      have r_path_here := Rp.mono g.ff r_path_here
      have o_found := o_found.up g
      have r_cell := Rp.mono g.ff r_cell
      have r_whole_here := Rp.mono g.ff r_whole_here
      have sb5 := sb5.trans g.ff
      have r_x := cg (Option.some.inj he) rn_
      change GoS _ _ _ [some v_cells, some v_opened, some v_path_here, some (.ref l_found), some v_cell, some v_whole_here, none, some v_x, u_way, u_is_cut] _
      obtain ⟨t9, h_t9, hm⟩ := Option.bind_eq_some_iff.mp hm
      obtain ⟨x_way, he, hm⟩ := Option.bind_eq_some_iff.mp hm
      refine go_setA (Str) 8 G.sm (ev_ixL (EvN.evA ((List Str)) (en_list (el_cons ev_str (el_cons ev_str (el_cons ev_str el_nil))) (by show 3 ≤ sizeLine; decide))) (ev_mod (ev_varK 7 rfl r_x kv_steps_7) ev_int (by decide)) h_t9) (fun v_way F H g rn_ => ?_) sc_steps.nd
      have G := G.trans g
      have r_opened := Rp.mono g.ff r_opened
      have r_path_here := Rp.mono g.ff r_path_here
      have o_found := o_found.up g
      have r_cell := Rp.mono g.ff r_cell
      have r_whole_here := Rp.mono g.ff r_whole_here
      have r_x := Rp.mono g.ff r_x
      have sb5 := sb5.trans g.ff
      have r_way := cg (Option.some.inj he) rn_
      change GoS _ _ _ [some v_cells, some v_opened, some v_path_here, some (.ref l_found), some v_cell, some v_whole_here, none, some v_x, some v_way, u_is_cut] _
      refine go_ifA (((decide ((x_cell % (5 : Int)) < (2 : Int))) && (decide ((b2.1.length : Int) < (6 : Int))))) G.sm (EvW.t (ew_andP (et_cmp op_lt o2_lt (ev_mod (ev_varK 4 rfl r_cell kv_steps_4) ev_int (by decide)) ev_int (nomark _)) (ew_and1 (et_cmp op_lt o2_lt (ev_callB call_len_seq oc_lenL T.n_len PySem.boot_len (ea_cons (ev_varK 1 rfl r_opened kv_steps_1) ea_nil)) ev_int (nomark _))))) (fun hc F H g => ?_) (fun hc F H g => ?_)
      · replace hm := ipos hc hm
        have G := G.trans g
        have r_opened := Rp.mono g.ff r_opened
        have r_path_here := Rp.mono g.ff r_path_here
        have o_found := o_found.up g
        have r_cell := Rp.mono g.ff r_cell
        have r_whole_here := Rp.mono g.ff r_whole_here
        have r_x := Rp.mono g.ff r_x
        have r_way := Rp.mono g.ff r_way
        have sb5 := sb5.trans g.ff
        obtain ⟨x_is_cut, he, hm⟩ := Option.bind_eq_some_iff.mp hm
        refine go_setA (Bool) 9 G.sm (ev_orP (ev_cmp op_eq o2_eq (ev_varK 5 rfl r_whole_here kv_steps_5) ev_int (nomark _)) (ev_one (ev_andP (ev_cmp op_eq o2_eq (ev_mod (ev_div (ev_varK 7 rfl r_x kv_steps_7) ev_int ⟨by decide, by decide⟩) ev_int (by decide)) ev_int (nomark _)) (ev_one (ev_orP (ev_cmp op_gt o2_gt (ev_varK 5 rfl r_whole_here kv_steps_5) ev_int (nomark _)) (ev_one (ev_cmp op_lt o2_lt (ev_callB call_len_seq oc_lenL T.n_len PySem.boot_len (ea_cons (ev_varK 1 rfl r_opened kv_steps_1) ea_nil)) ev_int (nomark _)))))))) (fun v_is_cut F H g rn_ => ?_) sc_steps.nd
        have G := G.trans g
        have r_opened := Rp.mono g.ff r_opened
        have r_path_here := Rp.mono g.ff r_path_here
        have o_found := o_found.up g
        have r_whole_here := Rp.mono g.ff r_whole_here
        have r_x := Rp.mono g.ff r_x
        have r_way := Rp.mono g.ff r_way
        have sb5 := sb5.trans g.ff
        have r_is_cut := cg (Option.some.inj he) rn_
        change GoS _ _ _ [some v_cells, some v_opened, some v_path_here, some (.ref l_found), some v_cell, some v_whole_here, none, some v_x, some v_way, some v_is_cut] _
        obtain ⟨t10, h_t10, hm⟩ := Option.bind_eq_some_iff.mp hm
        obtain ⟨x_opened, he, hm⟩ := Option.bind_eq_some_iff.mp hm
        refine go_setA ((List (T2 Str Bool))) 1 G.sm (EvN.evA ((List (T2 Str Bool))) (en_cat (ev_varK 1 rfl r_opened kv_steps_1) (EvN.evA ((List (T2 Str Bool))) (en_list (el_cons (ev_tup2 (ea_cons (ev_varK 8 rfl r_way kv_steps_8) (ea_cons (ev_varK 9 rfl r_is_cut kv_steps_9) ea_nil))) el_nil) (by show 1 ≤ sizeLine; decide))) h_t10)) (fun v_opened F H g rn_ => ?_) sc_steps.nd
        have G := G.trans g
        have r_path_here := Rp.mono g.ff r_path_here
        have o_found := o_found.up g
        have r_way := Rp.mono g.ff r_way
        have r_is_cut := Rp.mono g.ff r_is_cut
        have sb5 := sb5.trans g.ff
        have r_opened := cg (Option.some.inj he) rn_
        obtain ⟨t11, h_t11, hm⟩ := Option.bind_eq_some_iff.mp hm
        obtain ⟨x_path_here, he, hm⟩ := Option.bind_eq_some_iff.mp hm
        refine go_setA ((List Int)) 2 G.sm (EvN.evA ((List Int)) (en_cat (ev_varK 2 rfl r_path_here kv_steps_2) (EvN.evA ((List Int)) (en_list (el_int el_nil) (by show 1 ≤ sizeLine; decide))) h_t11)) (fun v_path_here F H g rn_ => ?_) sc_steps.nd
        have G := G.trans g
        have r_opened := Rp.mono g.ff r_opened
        have o_found := o_found.up g
        have sb5 := sb5.trans g.ff
        have r_path_here := cg (Option.some.inj he) rn_
        refine GoS.nil ?_
        exact GoS.nil ⟨_, _, (Option.some.inj hm).symm, sb5, G.fh, ⟨_, _, _, _, _, _, _, rfl, G, r_opened, r_path_here, o_found⟩⟩
      · replace hm := ineg (nt hc) hm
        have G := G.trans g
        have r_opened := Rp.mono g.ff r_opened
        have r_path_here := Rp.mono g.ff r_path_here
        have o_found := o_found.up g
        have r_cell := Rp.mono g.ff r_cell
        have r_whole_here := Rp.mono g.ff r_whole_here
        have r_x := Rp.mono g.ff r_x
        have r_way := Rp.mono g.ff r_way
        have sb5 := sb5.trans g.ff
        obtain ⟨t14, h_t14, hm⟩ := Option.bind_eq_some_iff.mp hm
        refine go_ifA (t14) G.sm (EvW.t (ew_andA ((decide ((x_cell % (5 : Int)) = (2 : Int)))) (et_cmp op_eq o2_eq (ev_mod (ev_varK 4 rfl r_cell kv_steps_4) ev_int (by decide)) ev_int (nomark _)) (fun hc => by
                replace h_t14 := ipos hc h_t14
                obtain ⟨t13, h_t13, h_t14⟩ := Option.bind_eq_some_iff.mp h_t14
                exact EvW.cg (Option.some.inj h_t14) (ew_andA ((!b2.1.isEmpty)) (et_cmp (op_neE hr.units0) o2_neEL (ev_varK 1 rfl r_opened kv_steps_1) (EvN.evA ((List (T2 Str Bool))) (en_list el_nil (Nat.zero_le _))) (nomark _)) (fun hc => by
                replace h_t13 := ipos hc h_t13
                obtain ⟨t12, h_t12, h_t13⟩ := Option.bind_eq_some_iff.mp h_t13
                exact EvW.cg (Option.some.inj h_t13) (ew_and1 (et_cmp op_gt o2_gt (ev_ixL (ev_varK 2 rfl r_path_here kv_steps_2) (ev_neg ev_int) h_t12) ev_int (nomark _)))) (fun hc => by replace h_t13 := ineg (nt hc) h_t13; exact (Option.some.inj h_t13).symm))) (fun hc => by replace h_t14 := ineg (nt hc) h_t14; exact (Option.some.inj h_t14).symm))) (fun hc F H g => ?_) (fun hc F H g => ?_)
        · replace hm := ipos hc hm
          have G := G.trans g
          have r_opened := Rp.mono g.ff r_opened
          have r_path_here := Rp.mono g.ff r_path_here
          have o_found := o_found.up g
          have r_cell := Rp.mono g.ff r_cell
          have r_whole_here := Rp.mono g.ff r_whole_here
          have r_x := Rp.mono g.ff r_x
          have r_way := Rp.mono g.ff r_way
          have sb5 := sb5.trans g.ff
          obtain ⟨x_opened, he, hm⟩ := Option.bind_eq_some_iff.mp hm
          refine go_setA ((List (T2 Str Bool))) 1 G.sm (EvN.evA ((List (T2 Str Bool))) (en_slice (ev_varK 1 rfl r_opened kv_steps_1) eo_none (eo_some (ev_neg ev_int)))) (fun v_opened F H g rn_ => ?_) sc_steps.nd
          have G := G.trans g
          have r_path_here := Rp.mono g.ff r_path_here
          have o_found := o_found.up g
          have sb5 := sb5.trans g.ff
          have r_opened := cg (Option.some.inj he) rn_
          obtain ⟨t15, h_t15, hm⟩ := Option.bind_eq_some_iff.mp hm
          obtain ⟨t16, h_t16, hm⟩ := Option.bind_eq_some_iff.mp hm
          obtain ⟨x_path_here, he, hm⟩ := Option.bind_eq_some_iff.mp hm
          refine go_setA ((List Int)) 2 G.sm (EvN.evA ((List Int)) (en_cat (EvN.evA ((List Int)) (en_slice (ev_varK 2 rfl r_path_here kv_steps_2) eo_none (eo_some (ev_neg ev_int)))) (EvN.evA ((List Int)) (en_list (el_cons (ev_add (ev_ixL (ev_varK 2 rfl r_path_here kv_steps_2) (ev_neg ev_int) h_t15) ev_int) el_nil) (by show 1 ≤ sizeLine; decide))) h_t16)) (fun v_path_here F H g rn_ => ?_) sc_steps.nd
          have G := G.trans g
          have r_opened := Rp.mono g.ff r_opened
          have o_found := o_found.up g
          have sb5 := sb5.trans g.ff
          have r_path_here := cg (Option.some.inj he) rn_
          refine GoS.nil ?_
          refine GoS.nil ?_
          exact GoS.nil ⟨_, _, (Option.some.inj hm).symm, sb5, G.fh, ⟨_, _, _, _, _, _, _, rfl, G, r_opened, r_path_here, o_found⟩⟩
        · replace hm := ineg (nt hc) hm
          have G := G.trans g
          have r_opened := Rp.mono g.ff r_opened
          have r_path_here := Rp.mono g.ff r_path_here
          have o_found := o_found.up g
          have r_cell := Rp.mono g.ff r_cell
          have r_whole_here := Rp.mono g.ff r_whole_here
          have r_x := Rp.mono g.ff r_x
          have r_way := Rp.mono g.ff r_way
          have sb5 := sb5.trans g.ff
          obtain ⟨b17, hj, hm⟩ := Option.bind_eq_some_iff.mp hm
          refine go_ifjA (((!b2.1.isEmpty) && (decide (x_whole_here = (0 : Int))))) (fun σ_ H_ => ∃ (F_ : Hp) (v_opened : V) (v_path_here : V), L2.Same F F_ ∧ σ_ = [some v_cells, some v_opened, some v_path_here, some (.ref l_found), some v_cell, some v_whole_here, none, some v_x, some v_way, u_is_cut] ∧ GrX K F0 H0 F_ H_ ∧ rp (α := (List (T2 Str Bool))) K F_ v_opened b17.1 ∧ rp (α := (List Int)) K F_ v_path_here b17.2 ∧ Own K H0 F_ H_ l_found b2.2.2) G.sm (EvW.t (ew_andP (et_cmp (op_neE hr.units0) o2_neEL (ev_varK 1 rfl r_opened kv_steps_1) (EvN.evA ((List (T2 Str Bool))) (en_list el_nil (Nat.zero_le _))) (nomark _)) (ew_and1 (et_cmp op_eq o2_eq (ev_varK 5 rfl r_whole_here kv_steps_5) ev_int (nomark _))))) (fun hc F H g => ?_) (fun hc F H g => ?_) (fun σ_ H hP_ => ?_)
          · replace hj := ipos hc hj
            clear hm
            have hm := hj
            clear hj
            have G := G.trans g
            have r_opened := Rp.mono g.ff r_opened
            have r_path_here := Rp.mono g.ff r_path_here
            have o_found := o_found.up g
            have r_whole_here := Rp.mono g.ff r_whole_here
            have r_x := Rp.mono g.ff r_x
            have r_way := Rp.mono g.ff r_way
            have sb5 := sb5.trans g.ff
            have sj18 := g.ff
            obtain ⟨t19, h_t19, hm⟩ := Option.bind_eq_some_iff.mp hm
            obtain ⟨x_opened, he, hm⟩ := Option.bind_eq_some_iff.mp hm
            refine go_setA ((List (T2 Str Bool))) 1 G.sm (EvN.evA ((List (T2 Str Bool))) (en_cat (ev_varK 1 rfl r_opened kv_steps_1) (EvN.evA ((List (T2 Str Bool))) (en_list (el_cons (ev_tup2 (ea_cons (ev_varK 8 rfl r_way kv_steps_8) (ea_cons ev_bl ea_nil))) el_nil) (by show 1 ≤ sizeLine; decide))) h_t19)) (fun v_opened F H g rn_ => ?_) sc_steps.nd
            have G := G.trans g
            have r_path_here := Rp.mono g.ff r_path_here
            have o_found := o_found.up g
            have r_x := Rp.mono g.ff r_x
            have r_way := Rp.mono g.ff r_way
            have sb5 := sb5.trans g.ff
            have sj18 := sj18.trans g.ff
            have r_opened := cg (Option.some.inj he) rn_
            obtain ⟨t20, h_t20, hm⟩ := Option.bind_eq_some_iff.mp hm
            obtain ⟨x_path_here, he, hm⟩ := Option.bind_eq_some_iff.mp hm
            refine go_setA ((List Int)) 2 G.sm (EvN.evA ((List Int)) (en_cat (ev_varK 2 rfl r_path_here kv_steps_2) (EvN.evA ((List Int)) (en_list (el_int el_nil) (by show 1 ≤ sizeLine; decide))) h_t20)) (fun v_path_here F H g rn_ => ?_) sc_steps.nd
            have G := G.trans g
            have r_opened := Rp.mono g.ff r_opened
            have o_found := o_found.up g
            have r_x := Rp.mono g.ff r_x
            have sb5 := sb5.trans g.ff
            have sj18 := sj18.trans g.ff
            have r_path_here := cg (Option.some.inj he) rn_
            have hm := Option.some.inj hm
            subst hm
            exact GoS.nil ⟨_, _, _, sj18, rfl, G, r_opened, r_path_here, o_found⟩
          · replace hj := ineg (nt hc) hj
            clear hm
            have hm := hj
            clear hj
            have G := G.trans g
            have r_opened := Rp.mono g.ff r_opened
            have r_path_here := Rp.mono g.ff r_path_here
            have o_found := o_found.up g
            have r_whole_here := Rp.mono g.ff r_whole_here
            have r_x := Rp.mono g.ff r_x
            have r_way := Rp.mono g.ff r_way
            have sb5 := sb5.trans g.ff
            have sj18 := g.ff
            have hm := Option.some.inj hm
            subst hm
            exact GoS.nil ⟨_, _, _, sj18, rfl, G, r_opened, r_path_here, o_found⟩
          obtain ⟨F, v_opened, v_path_here, sj_, rfl, G, r_opened, r_path_here, o_found⟩ := hP_
          have r_x := Rp.mono sj_ r_x
          have sb5 := sb5.trans sj_
          obtain ⟨t21, he, hm⟩ := Option.bind_eq_some_iff.mp hm
          refine go_append 3 G.sm o_found rfl (ev_tup3 (ea_cons (ev_varK 1 rfl r_opened kv_steps_1) (ea_cons (EvN.evA ((List Int)) (en_slice (ev_varK 2 rfl r_path_here kv_steps_2) eo_none (eo_some (ev_neg ev_int)))) (ea_cons (ev_varK 7 rfl r_x kv_steps_7) ea_nil)))) he (fun w_ F H g nz_ fz_ on_ => ?_)
          have G := G.trans g
          have r_opened := Rp.mono g.ff r_opened
          have r_path_here := Rp.mono g.ff r_path_here
          have r_x := Rp.mono g.ff r_x
          have sb5 := sb5.trans g.ff
          have G := G.poke (u := w_) on_.n fz_ nz_ on_.pl
          have o_found := on_
          obtain ⟨t22, h_t22, hm⟩ := Option.bind_eq_some_iff.mp hm
          obtain ⟨t23, h_t23, hm⟩ := Option.bind_eq_some_iff.mp hm
          obtain ⟨x_path_here, he, hm⟩ := Option.bind_eq_some_iff.mp hm
          refine go_setA ((List Int)) 2 G.sm (EvN.evA ((List Int)) (en_cat (EvN.evA ((List Int)) (en_slice (ev_varK 2 rfl r_path_here kv_steps_2) eo_none (eo_some (ev_neg ev_int)))) (EvN.evA ((List Int)) (en_list (el_cons (ev_add (ev_ixL (ev_varK 2 rfl r_path_here kv_steps_2) (ev_neg ev_int) h_t22) ev_int) el_nil) (by show 1 ≤ sizeLine; decide))) h_t23)) (fun v_path_here F H g rn_ => ?_) sc_steps.nd
          have G := G.trans g
          have r_opened := Rp.mono g.ff r_opened
          have o_found := o_found.up g
          have sb5 := sb5.trans g.ff
          have r_path_here := cg (Option.some.inj he) rn_
          refine GoS.nil ?_
          refine GoS.nil ?_
          exact GoS.nil ⟨_, _, (Option.some.inj hm).symm, sb5, G.fh, ⟨_, _, _, _, _, _, _, rfl, G, r_opened, r_path_here, o_found⟩⟩
  · intro b24 hm σ_ F H s1_ s2_ iv_
    obtain ⟨u_whole_here, u_x, u_way, u_is_cut, u_cell, v_opened, v_path_here, rfl, G, r_opened, r_path_here, o_found⟩ := iv_
    refine o_found.freeze G (fun F H s_ s2_ G r_found k_ => ?_)
    exact go_ret G.sm (ev_varK 3 rfl r_found kv_steps_3) fun v_ F_ H_ g_ rv_ => kr _ _ _ (G.trans g_) (cg (Option.some.inj hm) rv_)
  · intro r_ he v_ H_ hv_
    obtain ⟨F_, g_, rv_⟩ := hv_
    exact kr _ _ _ g_ (cg (Option.some.inj he) rv_)
/-! number -/
theorem sc_number : FnScope ["_law_cell", "_law_far"] ["_law_cell", "_law_far"] (defScope s_number) := ⟨rfl, rfl, rfl, by decide +kernel, rfl, by decide +kernel, by decide +kernel⟩
theorem b_number (T : TxB K mg base) : Binds K T.d_number ["_law_cell", "_law_far"] [] := T.F_number.bindsN fun _ _ _ _ _ _ us hl => match us, hl with | [_, _], _ => rfl
theorem kv_number_0 : VKn (defScope s_number) "_law_cell" := ⟨by first | exact Or.inl (by decide +kernel) | exact Or.inr (Or.inl (by decide +kernel)) | exact Or.inr (Or.inr (by decide +kernel)), by decide, by decide⟩
theorem kv_number_1 : VKn (defScope s_number) "_law_far" := ⟨by first | exact Or.inl (by decide +kernel) | exact Or.inr (Or.inl (by decide +kernel)) | exact Or.inr (Or.inr (by decide +kernel)), by decide, by decide⟩
theorem ok_number (T : TxB K mg base) : FnOk P w K mg base CX0 1 (He.fAd K ("_law_number", none)) T.d_number ["_law_cell", "_law_far"] (Pr K fun (a_ : Int × Int × Unit) => m_number a_.1 a_.2.1) := by
  refine fn_ok T.F_number sc_number rfl fun cdv A outer s_ F0 H0 vs a_ r D_ E_ hr sm_ ra_ hm kr kn => ?_
  obtain ⟨v_cell, _, rfl, r_cell, v_far, _, rfl, r_far, rfl⟩ := ra_
  obtain ⟨x_cell, x_far, _u⟩ := a_
  have G : GrX K F0 H0 F0 H0 := .refl sm_
  replace hm : m_number x_cell x_far = some r := hm
  unfold m_number at hm
  have r_cell : rp (α := Int) K F0 v_cell x_cell := r_cell
  have r_far : rp (α := Int) K F0 v_far x_far := r_far
  change GoS _ _ _ [some v_cell, some v_far] _
  refine go_ifA ((decide ((x_cell % (3 : Int)) = (0 : Int)))) G.sm (et_cmp op_eq o2_eq (ev_mod (ev_varK 0 rfl r_cell kv_number_0) ev_int (by decide)) ev_int (nomark _)) (fun hc F H g => ?_) (fun hc F H g => ?_)
  · replace hm := ipos hc hm
    have G := G.trans g
    have r_cell := Rp.mono g.ff r_cell
    have r_far := Rp.mono g.ff r_far
    exact go_ret G.sm (ev_sub (ev_mod (ev_div (ev_varK 0 rfl r_cell kv_number_0) ev_int ⟨by decide, by decide⟩) ev_int (by decide)) ev_int) fun v_ F_ H_ g_ rv_ => kr _ _ _ (G.trans g_) (cg (Option.some.inj hm) rv_)
  · replace hm := ineg (nt hc) hm
    have G := G.trans g
    have r_cell := Rp.mono g.ff r_cell
    have r_far := Rp.mono g.ff r_far
    refine GoS.nil ?_
    obtain ⟨t1, h_t1, hm⟩ := Option.bind_eq_some_iff.mp hm
    exact go_ret G.sm (ev_sub (ev_modG (ev_div (ev_varK 0 rfl r_cell kv_number_0) ev_int ⟨by decide, by decide⟩) (ev_add (ev_mul ev_int (ev_varK 1 rfl r_far kv_number_1) (CMul.l (by decide))) ev_int) h_t1) (ev_varK 1 rfl r_far kv_number_1)) fun v_ F_ H_ g_ rv_ => kr _ _ _ (G.trans g_) (cg (Option.some.inj hm) rv_)
/-! places -/
theorem sc_places : FnScope ["_law_opened", "_law_cell", "_law_xs", "_law_whole_here", "_law_one", "_law_seen", "_law_found", "_law_k", "_law_at_here"] ["_law_opened", "_law_cell"] (defScope s_places) := ⟨rfl, rfl, rfl, by decide +kernel, rfl, by decide +kernel, by decide +kernel⟩
theorem b_places (T : TxB K mg base) : Binds K T.d_places ["_law_opened", "_law_cell"] [] := T.F_places.bindsN fun _ _ _ _ _ _ us hl => match us, hl with | [_, _], _ => rfl
theorem kv_places_0 : VKn (defScope s_places) "_law_opened" := ⟨by first | exact Or.inl (by decide +kernel) | exact Or.inr (Or.inl (by decide +kernel)) | exact Or.inr (Or.inr (by decide +kernel)), by decide, by decide⟩
theorem kv_places_1 : VKn (defScope s_places) "_law_cell" := ⟨by first | exact Or.inl (by decide +kernel) | exact Or.inr (Or.inl (by decide +kernel)) | exact Or.inr (Or.inr (by decide +kernel)), by decide, by decide⟩
theorem kv_places_2 : VKn (defScope s_places) "_law_xs" := ⟨by first | exact Or.inl (by decide +kernel) | exact Or.inr (Or.inl (by decide +kernel)) | exact Or.inr (Or.inr (by decide +kernel)), by decide, by decide⟩
theorem kv_places_3 : VKn (defScope s_places) "_law_whole_here" := ⟨by first | exact Or.inl (by decide +kernel) | exact Or.inr (Or.inl (by decide +kernel)) | exact Or.inr (Or.inr (by decide +kernel)), by decide, by decide⟩
theorem kv_places_5 : VKn (defScope s_places) "_law_seen" := ⟨by first | exact Or.inl (by decide +kernel) | exact Or.inr (Or.inl (by decide +kernel)) | exact Or.inr (Or.inr (by decide +kernel)), by decide, by decide⟩
theorem kv_places_6 : VKn (defScope s_places) "_law_found" := ⟨by first | exact Or.inl (by decide +kernel) | exact Or.inr (Or.inl (by decide +kernel)) | exact Or.inr (Or.inr (by decide +kernel)), by decide, by decide⟩
theorem kv_places_7 : VKn (defScope s_places) "_law_k" := ⟨by first | exact Or.inl (by decide +kernel) | exact Or.inr (Or.inl (by decide +kernel)) | exact Or.inr (Or.inr (by decide +kernel)), by decide, by decide⟩
theorem kv_places_8 : VKn (defScope s_places) "_law_at_here" := ⟨by first | exact Or.inl (by decide +kernel) | exact Or.inr (Or.inl (by decide +kernel)) | exact Or.inr (Or.inr (by decide +kernel)), by decide, by decide⟩
theorem gl_places_number : (defScope s_places).names.lookup ("_law_number" : Str) = some NameKind.globalImplicit := by decide +kernel
theorem gl_places_stream : (defScope s_places).names.lookup ("_law_stream" : Str) = some NameKind.globalImplicit := by decide +kernel
theorem ok_places (T : TxB K mg base) : FnOk P w K mg base CX0 2 (He.fAd K ("_law_places", none)) T.d_places ["_law_opened", "_law_cell"] (Pr K fun (a_ : (List (T2 Str Bool)) × Int × Unit) => m_places a_.1 a_.2.1) := by
  refine fn_ok T.F_places sc_places rfl fun cdv A outer s_ F0 H0 vs a_ r D_ E_ hr sm_ ra_ hm kr kn => ?_
  obtain ⟨v_opened, _, rfl, r_opened, v_cell, _, rfl, r_cell, rfl⟩ := ra_
  obtain ⟨x_opened, x_cell, _u⟩ := a_
  have G : GrX K F0 H0 F0 H0 := .refl sm_
  replace hm : m_places x_opened x_cell = some r := hm
  unfold m_places at hm
  have r_opened : rp (α := (List (T2 Str Bool))) K F0 v_opened x_opened := r_opened
  have r_cell : rp (α := Int) K F0 v_cell x_cell := r_cell
  change GoS _ _ _ [some v_opened, some v_cell, none, none, none, none, none, none, none] _
  obtain ⟨t1, h_t1, hm⟩ := Option.bind_eq_some_iff.mp hm
  obtain ⟨x_xs, he, hm⟩ := Option.bind_eq_some_iff.mp hm
  refine go_setA ((List Int)) 2 G.sm (ev_call (ok_stream T) (hr.mono (by omega)) T.g_stream T.F_stream.kp (b_stream T) (ea_cons (ev_varK 1 rfl r_cell kv_places_1) (ea_cons ev_int ea_nil)) h_t1 gl_places_stream) (fun v_xs F H g rn_ => ?_) sc_places.nd
  have G := G.trans g
  have r_opened := Rp.mono g.ff r_opened
  have r_cell := Rp.mono g.ff r_cell
  have r_xs := cg (Option.some.inj he) rn_
  change GoS _ _ _ [some v_opened, some v_cell, some v_xs, none, none, none, none, none, none] _
  obtain ⟨t2, h_t2, hm⟩ := Option.bind_eq_some_iff.mp hm
  obtain ⟨x_whole_here, he, hm⟩ := Option.bind_eq_some_iff.mp hm
  refine go_setA (Int) 3 G.sm (ev_callB call_len_seq oc_lenL T.n_len PySem.boot_len (ea_cons (EvN.evA ((List (T2 Str Bool))) (en_compi (own := [("_law_one", 4)]) sc_places.nd (ei_list (ev_varK 0 rfl r_opened kv_places_0)) h_t2 (blkOk_by (N := ["_law_opened", "_law_cell", "_law_xs", "_law_whole_here", "_law_one", "_law_seen", "_law_found", "_law_k", "_law_at_here"]) (sc := defScope s_places) (by decide +kernel)) (fun _ _ _ _ _ => (pg_name (i := 4) sc_places.nd rfl (by first | exact Or.inl rfl | exact Or.inr rfl))) (fun x_one o_ hm F H v_one g r_one Q hQ => by
          have r_opened := Rp.mono g.ff r_opened
          refine hQ _ rfl ?_
          refine ⟨_, fun s_ H_ C_ cl_ fp_ => (et_not (et_val (ev_ixT (ev_var 4 rfl r_one) ev_int pj1))), fun hc => ?_, fun hc => ?_⟩
          · replace hm := ipos hc hm
            exact ⟨_, (Option.some.inj hm).symm, fun s_ H_ C_ cl_ fp_ => (ev_var 4 rfl r_one)⟩
          · replace hm := ineg (nt hc) hm
            exact (Option.some.inj hm).symm))) ea_nil)) (fun v_whole_here F H g rn_ => ?_) sc_places.nd
  have G := G.trans g
  have r_opened := Rp.mono g.ff r_opened
  have r_xs := Rp.mono g.ff r_xs
  have r_whole_here := cg (Option.some.inj he) rn_
  change GoS _ _ _ [some v_opened, some v_cell, some v_xs, some v_whole_here, none, none, none, none, none] _
  obtain ⟨x_seen, he, hm⟩ := Option.bind_eq_some_iff.mp hm
  refine go_setA (Int) 5 G.sm ev_int (fun v_seen F H g rn_ => ?_) sc_places.nd
  have G := G.trans g
  have r_opened := Rp.mono g.ff r_opened
  have r_xs := Rp.mono g.ff r_xs
  have r_whole_here := Rp.mono g.ff r_whole_here
  have r_seen := cg (Option.some.inj he) rn_
  change GoS _ _ _ [some v_opened, some v_cell, some v_xs, some v_whole_here, none, some v_seen, none, none, none] _
  obtain ⟨x_found, he, hm⟩ := Option.bind_eq_some_iff.mp hm
  refine go_setNA ((List (T2 Int Int))) 6 G.sm (en_list el_nil (Nat.zero_le _)) (fun l_found vs_ F H g nl_ fl_ hl_ rs_ => ?_) sc_places.nd
  have n0_ := G.hh.free nl_
  have G := G.trans g
  have r_opened := Rp.mono g.ff r_opened
  have r_xs := Rp.mono g.ff r_xs
  have r_whole_here := Rp.mono g.ff r_whole_here
  have r_seen := Rp.mono g.ff r_seen
  have o_found : Own K _ F H l_found _ := Own.cg (Option.some.inj he) ⟨n0_, fl_, vs_, hl_, rs_⟩
  change GoS _ _ _ [some v_opened, some v_cell, some v_xs, some v_whole_here, none, some v_seen, some (.ref l_found), none, none] _
  obtain ⟨t3, h_t3, hm⟩ := Option.bind_eq_some_iff.mp hm
  obtain ⟨b23, ho_, hm⟩ := Option.bind_eq_some_iff.mp hm
  refine go_forN G.sm (ei_range1 (ev_callB call_len_seq oc_lenL T.n_len PySem.boot_len (ea_cons (ev_varK 0 rfl r_opened kv_places_0) ea_nil)) h_t3 T.n_range) (pg_name (i := 7) sc_places.nd rfl (by first | exact Or.inl rfl | exact Or.inr rfl)) ho_ (fun F H g => ?_) PassesOwn.never
  have G := G.trans g
  have r_opened := Rp.mono g.ff r_opened
  have r_xs := Rp.mono g.ff r_xs
  have r_whole_here := Rp.mono g.ff r_whole_here
  have r_seen := Rp.mono g.ff r_seen
  have o_found := o_found.up g
  refine ⟨fun (b4 : (Int × (List (T2 Int Int)))) σ_ F_ H_ => ∃ (u_at_here : Option V) (u_k : Option V) (v_seen : V), σ_ = [some v_opened, some v_cell, some v_xs, some v_whole_here, none, some v_seen, some (.ref l_found), u_k, u_at_here] ∧ GrX K F0 H0 F_ H_ ∧ rp (α := Int) K F_ v_seen b4.1 ∧ Own K H0 F_ H_ l_found b4.2, ⟨_, _, _, rfl, G, r_seen, o_found⟩, ?_, ?_⟩
  ·
    intro b4 x_k o_ hm σ_ F H v_k s1_ s2_ iv_ F H g r_k Q_ hQ_
    obtain ⟨u_at_here, u_k, v_seen, rfl, G, r_seen, o_found⟩ := iv_
    have sb7 := g.ff
    have r_opened := Rp.mono s1_ r_opened
    have r_xs := Rp.mono s1_ r_xs
    have r_whole_here := Rp.mono s1_ r_whole_here
    have G := G.trans g
    have r_opened := Rp.mono g.ff r_opened
    have r_xs := Rp.mono g.ff r_xs
    have r_whole_here := Rp.mono g.ff r_whole_here
    have r_seen := Rp.mono g.ff r_seen
    have o_found := o_found.up g
    refine hQ_ _ _ ?_
    change GoS _ _ _ [some v_opened, some v_cell, some v_xs, some v_whole_here, none, some v_seen, some (.ref l_found), some v_k, u_at_here] _
    obtain ⟨t8, h_t8, hm⟩ := Option.bind_eq_some_iff.mp hm
    obtain ⟨t9, h_t9, hm⟩ := Option.bind_eq_some_iff.mp hm
    obtain ⟨x_at_here, he, hm⟩ := Option.bind_eq_some_iff.mp hm
    refine go_setA (Int) 8 G.sm (ev_modG (ev_ixL (ev_varK 2 rfl r_xs kv_places_2) (ev_varK 7 rfl r_k kv_places_7) h_t8) (ev_callB (call_max2 rfl) oc_max2 T.n_max (by decide +kernel) (ea_cons ev_int (ea_cons (ev_varK 3 rfl r_whole_here kv_places_3) ea_nil))) h_t9) (fun v_at_here F H g rn_ => ?_) sc_places.nd
    have G := G.trans g
    have r_opened := Rp.mono g.ff r_opened
    have r_xs := Rp.mono g.ff r_xs
    have r_whole_here := Rp.mono g.ff r_whole_here
    have r_seen := Rp.mono g.ff r_seen
    have o_found := o_found.up g
    have r_k := Rp.mono g.ff r_k
    have sb7 := sb7.trans g.ff
    have r_at_here := cg (Option.some.inj he) rn_
    change GoS _ _ _ [some v_opened, some v_cell, some v_xs, some v_whole_here, none, some v_seen, some (.ref l_found), some v_k, some v_at_here] _
    obtain ⟨t10, h_t10, hm⟩ := Option.bind_eq_some_iff.mp hm
    obtain ⟨b11, hj, hm⟩ := Option.bind_eq_some_iff.mp hm
    refine go_ifjA ((!t10.b)) (fun σ_ H_ => ∃ (F_ : Hp) (v_at_here : V) (v_seen : V), L2.Same F F_ ∧ σ_ = [some v_opened, some v_cell, some v_xs, some v_whole_here, none, some v_seen, some (.ref l_found), some v_k, some v_at_here] ∧ GrX K F0 H0 F_ H_ ∧ rp (α := Int) K F_ v_at_here b11.1 ∧ rp (α := Int) K F_ v_seen b11.2 ∧ Own K H0 F_ H_ l_found b4.2) G.sm (et_not (et_val (ev_ixT (ev_ixL (ev_varK 0 rfl r_opened kv_places_0) (ev_varK 7 rfl r_k kv_places_7) h_t10) ev_int pj1))) (fun hc F H g => ?_) (fun hc F H g => ?_) (fun σ_ H hP_ => ?_)
    · replace hj := ipos hc hj
      clear hm
      have hm := hj
      clear hj
      have G := G.trans g
      have r_opened := Rp.mono g.ff r_opened
      have r_xs := Rp.mono g.ff r_xs
      have r_whole_here := Rp.mono g.ff r_whole_here
      have r_seen := Rp.mono g.ff r_seen
      have o_found := o_found.up g
      have r_k := Rp.mono g.ff r_k
      have r_at_here := Rp.mono g.ff r_at_here
      have sb7 := sb7.trans g.ff
      have sj12 := g.ff
      obtain ⟨t13, h_t13, hm⟩ := Option.bind_eq_some_iff.mp hm
      obtain ⟨t14, h_t14, hm⟩ := Option.bind_eq_some_iff.mp hm
      obtain ⟨x_at_here, he, hm⟩ := Option.bind_eq_some_iff.mp hm
      refine go_setA (Int) 8 G.sm (ev_modG (ev_add (ev_ixL (ev_varK 2 rfl r_xs kv_places_2) ev_int h_t13) (ev_varK 5 rfl r_seen kv_places_5)) (ev_varK 3 rfl r_whole_here kv_places_3) h_t14) (fun v_at_here F H g rn_ => ?_) sc_places.nd
      have G := G.trans g
      have r_xs := Rp.mono g.ff r_xs
      have r_whole_here := Rp.mono g.ff r_whole_here
      have r_seen := Rp.mono g.ff r_seen
      have o_found := o_found.up g
      have r_k := Rp.mono g.ff r_k
      have sb7 := sb7.trans g.ff
      have sj12 := sj12.trans g.ff
      have r_at_here := cg (Option.some.inj he) rn_
      obtain ⟨x_seen, he, hm⟩ := Option.bind_eq_some_iff.mp hm
      refine go_setA (Int) 5 G.sm (ev_add (ev_varK 5 rfl r_seen kv_places_5) ev_int) (fun v_seen F H g rn_ => ?_) sc_places.nd
      have G := G.trans g
      have r_xs := Rp.mono g.ff r_xs
      have r_whole_here := Rp.mono g.ff r_whole_here
      have o_found := o_found.up g
      have r_k := Rp.mono g.ff r_k
      have r_at_here := Rp.mono g.ff r_at_here
      have sb7 := sb7.trans g.ff
      have sj12 := sj12.trans g.ff
      have r_seen := cg (Option.some.inj he) rn_
      have hm := Option.some.inj hm
      subst hm
      exact GoS.nil ⟨_, _, _, sj12, rfl, G, r_at_here, r_seen, o_found⟩
    · replace hj := ineg (nt hc) hj
      clear hm
      have hm := hj
      clear hj
      have G := G.trans g
      have r_opened := Rp.mono g.ff r_opened
      have r_xs := Rp.mono g.ff r_xs
      have r_whole_here := Rp.mono g.ff r_whole_here
      have r_seen := Rp.mono g.ff r_seen
      have o_found := o_found.up g
      have r_k := Rp.mono g.ff r_k
      have r_at_here := Rp.mono g.ff r_at_here
      have sb7 := sb7.trans g.ff
      have sj12 := g.ff
      have hm := Option.some.inj hm
      subst hm
      exact GoS.nil ⟨_, _, _, sj12, rfl, G, r_at_here, r_seen, o_found⟩
    obtain ⟨F, v_at_here, v_seen, sj_, rfl, G, r_at_here, r_seen, o_found⟩ := hP_
    have r_xs := Rp.mono sj_ r_xs
    have r_whole_here := Rp.mono sj_ r_whole_here
    have r_k := Rp.mono sj_ r_k
    have sb7 := sb7.trans sj_
    obtain ⟨t15, h_t15, hm⟩ := Option.bind_eq_some_iff.mp hm
    obtain ⟨b16, hj, hm⟩ := Option.bind_eq_some_iff.mp hm
    refine go_ifjA ((decide ((t15 % (2 : Int)) = (0 : Int)))) (fun σ_ H_ => ∃ (F_ : Hp) (v_at_here : V), L2.Same F F_ ∧ σ_ = [some v_opened, some v_cell, some v_xs, some v_whole_here, none, some v_seen, some (.ref l_found), some v_k, some v_at_here] ∧ GrX K F0 H0 F_ H_ ∧ rp (α := Int) K F_ v_at_here b16 ∧ Own K H0 F_ H_ l_found b4.2) G.sm (et_cmp op_eq o2_eq (ev_mod (ev_ixL (ev_varK 2 rfl r_xs kv_places_2) ev_int h_t15) ev_int (by decide)) ev_int (nomark _)) (fun hc F H g => ?_) (fun hc F H g => ?_) (fun σ_ H hP_ => ?_)
    · replace hj := ipos hc hj
      clear hm
      have hm := hj
      clear hj
      have G := G.trans g
      have r_xs := Rp.mono g.ff r_xs
      have r_whole_here := Rp.mono g.ff r_whole_here
      have r_seen := Rp.mono g.ff r_seen
      have o_found := o_found.up g
      have r_k := Rp.mono g.ff r_k
      have r_at_here := Rp.mono g.ff r_at_here
      have sb7 := sb7.trans g.ff
      have sj17 := g.ff
      obtain ⟨x_at_here, he, hm⟩ := Option.bind_eq_some_iff.mp hm
      refine go_setA (Int) 8 G.sm (ev_sub (ev_sub (ev_varK 3 rfl r_whole_here kv_places_3) ev_int) (ev_varK 8 rfl r_at_here kv_places_8)) (fun v_at_here F H g rn_ => ?_) sc_places.nd
      have G := G.trans g
      have r_xs := Rp.mono g.ff r_xs
      have r_whole_here := Rp.mono g.ff r_whole_here
      have r_seen := Rp.mono g.ff r_seen
      have o_found := o_found.up g
      have r_k := Rp.mono g.ff r_k
      have sb7 := sb7.trans g.ff
      have sj17 := sj17.trans g.ff
      have r_at_here := cg (Option.some.inj he) rn_
      have hm := Option.some.inj hm
      subst hm
      exact GoS.nil ⟨_, _, sj17, rfl, G, r_at_here, o_found⟩
    · replace hj := ineg (nt hc) hj
      clear hm
      have hm := hj
      clear hj
      have G := G.trans g
      have r_xs := Rp.mono g.ff r_xs
      have r_whole_here := Rp.mono g.ff r_whole_here
      have r_seen := Rp.mono g.ff r_seen
      have o_found := o_found.up g
      have r_k := Rp.mono g.ff r_k
      have r_at_here := Rp.mono g.ff r_at_here
      have sb7 := sb7.trans g.ff
      have sj17 := g.ff
      have hm := Option.some.inj hm
      subst hm
      exact GoS.nil ⟨_, _, sj17, rfl, G, r_at_here, o_found⟩
    obtain ⟨F, v_at_here, sj_, rfl, G, r_at_here, o_found⟩ := hP_
    have r_xs := Rp.mono sj_ r_xs
    have r_seen := Rp.mono sj_ r_seen
    have r_k := Rp.mono sj_ r_k
    have sb7 := sb7.trans sj_
    obtain ⟨t18, h_t18, hm⟩ := Option.bind_eq_some_iff.mp hm
    obtain ⟨t19, h_t19, hm⟩ := Option.bind_eq_some_iff.mp hm
    obtain ⟨t20, h_t20, hm⟩ := Option.bind_eq_some_iff.mp hm
    obtain ⟨t21, h_t21, hm⟩ := Option.bind_eq_some_iff.mp hm
    obtain ⟨t22, he, hm⟩ := Option.bind_eq_some_iff.mp hm
    refine go_append 6 G.sm o_found rfl (ev_tup2 (ea_cons (ev_varK 8 rfl r_at_here kv_places_8) (ea_cons (ev_call (ok_number T) (hr.mono (by omega)) T.g_number T.F_number.kp (b_number T) (ea_cons (ev_mulG (ev_ixL (ev_varK 2 rfl r_xs kv_places_2) (ev_add (ev_varK 7 rfl r_k kv_places_7) ev_int) h_t18) (ev_ixL (ev_varK 2 rfl r_xs kv_places_2) (ev_varK 7 rfl r_k kv_places_7) h_t19) h_t20) (ea_cons (ev_powcA (1000000000000000000) ev_int ev_int (by decide) (by decide +kernel)) ea_nil)) h_t21 gl_places_number) ea_nil))) he (fun w_ F H g nz_ fz_ on_ => ?_)
    have G := G.trans g
    have r_xs := Rp.mono g.ff r_xs
    have r_seen := Rp.mono g.ff r_seen
    have r_k := Rp.mono g.ff r_k
    have r_at_here := Rp.mono g.ff r_at_here
    have sb7 := sb7.trans g.ff
    have G := G.poke (u := w_) on_.n fz_ nz_ on_.pl
    have o_found := on_
    have hm := Option.some.inj hm
    subst hm
    exact GoS.nil ⟨_, sb7, G.fh, ⟨_, _, _, rfl, G, r_seen, o_found⟩⟩
  · intro σ_ F H s1_ s2_ iv_
    obtain ⟨u_at_here, u_k, v_seen, rfl, G, r_seen, o_found⟩ := iv_
    refine o_found.freeze G (fun F H s_ s2_ G r_found k_ => ?_)
    exact go_ret G.sm (ev_varK 6 rfl r_found kv_places_6) fun v_ F_ H_ g_ rv_ => kr _ _ _ (G.trans g_) (cg (Option.some.inj hm) rv_)
/-! leaves -/
theorem sc_leaves : FnScope ["_law_cells", "_law_turn", "_law_steps_here", "_law_found", "_law_last", "_law_k", "_law_number_here", "_law_opened", "_law_path_here", "_law_cell", "_law_share", "_law_ways", "_law_way", "_law_is_cut"] ["_law_cells", "_law_turn"] (defScope s_leaves) := ⟨rfl, rfl, rfl, by decide +kernel, rfl, by decide +kernel, by decide +kernel⟩
theorem b_leaves (T : TxB K mg base) : Binds K T.d_leaves ["_law_cells", "_law_turn"] [] := T.F_leaves.bindsN fun _ _ _ _ _ _ us hl => match us, hl with | [_, _], _ => rfl
theorem kv_leaves_0 : VKn (defScope s_leaves) "_law_cells" := ⟨by first | exact Or.inl (by decide +kernel) | exact Or.inr (Or.inl (by decide +kernel)) | exact Or.inr (Or.inr (by decide +kernel)), by decide, by decide⟩
theorem kv_leaves_1 : VKn (defScope s_leaves) "_law_turn" := ⟨by first | exact Or.inl (by decide +kernel) | exact Or.inr (Or.inl (by decide +kernel)) | exact Or.inr (Or.inr (by decide +kernel)), by decide, by decide⟩
theorem kv_leaves_2 : VKn (defScope s_leaves) "_law_steps_here" := ⟨by first | exact Or.inl (by decide +kernel) | exact Or.inr (Or.inl (by decide +kernel)) | exact Or.inr (Or.inr (by decide +kernel)), by decide, by decide⟩
theorem kv_leaves_3 : VKn (defScope s_leaves) "_law_found" := ⟨by first | exact Or.inl (by decide +kernel) | exact Or.inr (Or.inl (by decide +kernel)) | exact Or.inr (Or.inr (by decide +kernel)), by decide, by decide⟩
theorem kv_leaves_4 : VKn (defScope s_leaves) "_law_last" := ⟨by first | exact Or.inl (by decide +kernel) | exact Or.inr (Or.inl (by decide +kernel)) | exact Or.inr (Or.inr (by decide +kernel)), by decide, by decide⟩
theorem kv_leaves_5 : VKn (defScope s_leaves) "_law_k" := ⟨by first | exact Or.inl (by decide +kernel) | exact Or.inr (Or.inl (by decide +kernel)) | exact Or.inr (Or.inr (by decide +kernel)), by decide, by decide⟩
theorem kv_leaves_6 : VKn (defScope s_leaves) "_law_number_here" := ⟨by first | exact Or.inl (by decide +kernel) | exact Or.inr (Or.inl (by decide +kernel)) | exact Or.inr (Or.inr (by decide +kernel)), by decide, by decide⟩
theorem kv_leaves_7 : VKn (defScope s_leaves) "_law_opened" := ⟨by first | exact Or.inl (by decide +kernel) | exact Or.inr (Or.inl (by decide +kernel)) | exact Or.inr (Or.inr (by decide +kernel)), by decide, by decide⟩
theorem kv_leaves_8 : VKn (defScope s_leaves) "_law_path_here" := ⟨by first | exact Or.inl (by decide +kernel) | exact Or.inr (Or.inl (by decide +kernel)) | exact Or.inr (Or.inr (by decide +kernel)), by decide, by decide⟩
theorem kv_leaves_9 : VKn (defScope s_leaves) "_law_cell" := ⟨by first | exact Or.inl (by decide +kernel) | exact Or.inr (Or.inl (by decide +kernel)) | exact Or.inr (Or.inr (by decide +kernel)), by decide, by decide⟩
theorem kv_leaves_10 : VKn (defScope s_leaves) "_law_share" := ⟨by first | exact Or.inl (by decide +kernel) | exact Or.inr (Or.inl (by decide +kernel)) | exact Or.inr (Or.inr (by decide +kernel)), by decide, by decide⟩
theorem kv_leaves_11 : VKn (defScope s_leaves) "_law_ways" := ⟨by first | exact Or.inl (by decide +kernel) | exact Or.inr (Or.inl (by decide +kernel)) | exact Or.inr (Or.inr (by decide +kernel)), by decide, by decide⟩
theorem gl_leaves_places : (defScope s_leaves).names.lookup ("_law_places" : Str) = some NameKind.globalImplicit := by decide +kernel
theorem gl_leaves_steps : (defScope s_leaves).names.lookup ("_law_steps" : Str) = some NameKind.globalImplicit := by decide +kernel
theorem ok_leaves (T : TxB K mg base) : FnOk P w K mg base CX0 3 (He.fAd K ("_law_leaves", none)) T.d_leaves ["_law_cells", "_law_turn"] (Pr K fun (a_ : (List Int) × Int × Unit) => m_leaves a_.1 a_.2.1) := by
  refine fn_ok T.F_leaves sc_leaves rfl fun cdv A outer s_ F0 H0 vs a_ r D_ E_ hr sm_ ra_ hm kr kn => ?_
  obtain ⟨v_cells, _, rfl, r_cells, v_turn, _, rfl, r_turn, rfl⟩ := ra_
  obtain ⟨x_cells, x_turn, _u⟩ := a_
  have G : GrX K F0 H0 F0 H0 := .refl sm_
  replace hm : m_leaves x_cells x_turn = some r := hm
  unfold m_leaves at hm
  have r_cells : rp (α := (List Int)) K F0 v_cells x_cells := r_cells
  have r_turn : rp (α := Int) K F0 v_turn x_turn := r_turn
  change GoS _ _ _ [some v_cells, some v_turn, none, none, none, none, none, none, none, none, none, none, none, none] _
  obtain ⟨t1, h_t1, hm⟩ := Option.bind_eq_some_iff.mp hm
  obtain ⟨x_steps_here, he, hm⟩ := Option.bind_eq_some_iff.mp hm
  refine go_setA ((List (T3 (List (T2 Str Bool)) (List Int) Int))) 2 G.sm (ev_call (ok_steps T) (hr.mono (by omega)) T.g_steps T.F_steps.kp (b_steps T) (ea_cons (ev_varK 0 rfl r_cells kv_leaves_0) ea_nil) h_t1 gl_leaves_steps) (fun v_steps_here F H g rn_ => ?_) sc_leaves.nd
  have G := G.trans g
  have r_cells := Rp.mono g.ff r_cells
  have r_turn := Rp.mono g.ff r_turn
  have r_steps_here := cg (Option.some.inj he) rn_
  change GoS _ _ _ [some v_cells, some v_turn, some v_steps_here, none, none, none, none, none, none, none, none, none, none, none] _
  obtain ⟨x_found, he, hm⟩ := Option.bind_eq_some_iff.mp hm
  refine go_setNA ((List (T4 Int Int (List (T2 Bool Str)) (List (T2 Int Int))))) 3 G.sm (en_list el_nil (Nat.zero_le _)) (fun l_found vs_ F H g nl_ fl_ hl_ rs_ => ?_) sc_leaves.nd
  have n0_ := G.hh.free nl_
  have G := G.trans g
  have r_turn := Rp.mono g.ff r_turn
  have r_steps_here := Rp.mono g.ff r_steps_here
  have o_found : Own K _ F H l_found _ := Own.cg (Option.some.inj he) ⟨n0_, fl_, vs_, hl_, rs_⟩
  change GoS _ _ _ [some v_cells, some v_turn, some v_steps_here, some (.ref l_found), none, none, none, none, none, none, none, none, none, none] _
  obtain ⟨x_last, he, hm⟩ := Option.bind_eq_some_iff.mp hm
  refine go_setA ((List Int)) 4 G.sm (EvN.evA ((List Int)) (en_list el_nil (Nat.zero_le _))) (fun v_last F H g rn_ => ?_) sc_leaves.nd
  have G := G.trans g
  have r_turn := Rp.mono g.ff r_turn
  have r_steps_here := Rp.mono g.ff r_steps_here
  have o_found := o_found.up g
  have r_last := cg (Option.some.inj he) rn_
  change GoS _ _ _ [some v_cells, some v_turn, some v_steps_here, some (.ref l_found), some v_last, none, none, none, none, none, none, none, none, none] _
  obtain ⟨t2, h_t2, hm⟩ := Option.bind_eq_some_iff.mp hm
  obtain ⟨b28, ho_, hm⟩ := Option.bind_eq_some_iff.mp hm
  refine go_forN G.sm (ei_range1 (ev_callB call_len_seq oc_lenL T.n_len PySem.boot_len (ea_cons (ev_varK 2 rfl r_steps_here kv_leaves_2) ea_nil)) h_t2 T.n_range) (pg_name (i := 5) sc_leaves.nd rfl (by first | exact Or.inl rfl | exact Or.inr rfl)) ho_ (fun F H g => ?_) PassesOwn.never
  have G := G.trans g
  have r_turn := Rp.mono g.ff r_turn
  have r_steps_here := Rp.mono g.ff r_steps_here
  have o_found := o_found.up g
  have r_last := Rp.mono g.ff r_last
  refine ⟨fun (b3 : ((List (T4 Int Int (List (T2 Bool Str)) (List (T2 Int Int)))) × (List Int))) σ_ F_ H_ => ∃ (u_number_here : Option V) (u_opened : Option V) (u_path_here : Option V) (u_cell : Option V) (u_share : Option V) (u_ways : Option V) (u_k : Option V) (v_last : V), σ_ = [some v_cells, some v_turn, some v_steps_here, some (.ref l_found), some v_last, u_k, u_number_here, u_opened, u_path_here, u_cell, u_share, u_ways, none, none] ∧ GrX K F0 H0 F_ H_ ∧ Own K H0 F_ H_ l_found b3.1 ∧ rp (α := (List Int)) K F_ v_last b3.2, ⟨_, _, _, _, _, _, _, _, rfl, G, o_found, r_last⟩, ?_, ?_⟩
  ·
    intro b3 x_k o_ hm σ_ F H v_k s1_ s2_ iv_ F H g r_k Q_ hQ_
    obtain ⟨u_number_here, u_opened, u_path_here, u_cell, u_share, u_ways, u_k, v_last, rfl, G, o_found, r_last⟩ := iv_
    have sb6 := g.ff
    have r_turn := Rp.mono s1_ r_turn
    have r_steps_here := Rp.mono s1_ r_steps_here
    have G := G.trans g
    have r_turn := Rp.mono g.ff r_turn
    have r_steps_here := Rp.mono g.ff r_steps_here
    have o_found := o_found.up g
    have r_last := Rp.mono g.ff r_last
    refine hQ_ _ _ ?_
    change GoS _ _ _ [some v_cells, some v_turn, some v_steps_here, some (.ref l_found), some v_last, some v_k, u_number_here, u_opened, u_path_here, u_cell, u_share, u_ways, none, none] _
    obtain ⟨t7, h_t7, hm⟩ := Option.bind_eq_some_iff.mp hm
    obtain ⟨x_number_here, he, hm⟩ := Option.bind_eq_some_iff.mp hm
    refine go_setA (Int) 6 G.sm (ev_modG (ev_add (ev_varK 5 rfl r_k kv_leaves_5) (ev_div (ev_varK 1 rfl r_turn kv_leaves_1) ev_int ⟨by decide, by decide⟩)) (ev_callB call_len_seq oc_lenL T.n_len PySem.boot_len (ea_cons (ev_varK 2 rfl r_steps_here kv_leaves_2) ea_nil)) h_t7) (fun v_number_here F H g rn_ => ?_) sc_leaves.nd
    have G := G.trans g
    have r_turn := Rp.mono g.ff r_turn
    have r_steps_here := Rp.mono g.ff r_steps_here
    have o_found := o_found.up g
    have r_last := Rp.mono g.ff r_last
    have r_k := Rp.mono g.ff r_k
    have sb6 := sb6.trans g.ff
    have r_number_here := cg (Option.some.inj he) rn_
    change GoS _ _ _ [some v_cells, some v_turn, some v_steps_here, some (.ref l_found), some v_last, some v_k, some v_number_here, u_opened, u_path_here, u_cell, u_share, u_ways, none, none] _
    obtain ⟨b8, hj, hm⟩ := Option.bind_eq_some_iff.mp hm
    refine go_ifjA ((decide ((x_turn % (2 : Int)) = (1 : Int)))) (fun σ_ H_ => ∃ (F_ : Hp) (v_number_here : V), L2.Same F F_ ∧ σ_ = [some v_cells, some v_turn, some v_steps_here, some (.ref l_found), some v_last, some v_k, some v_number_here, u_opened, u_path_here, u_cell, u_share, u_ways, none, none] ∧ GrX K F0 H0 F_ H_ ∧ rp (α := Int) K F_ v_number_here b8 ∧ Own K H0 F_ H_ l_found b3.1) G.sm (et_cmp op_eq o2_eq (ev_mod (ev_varK 1 rfl r_turn kv_leaves_1) ev_int (by decide)) ev_int (nomark _)) (fun hc F H g => ?_) (fun hc F H g => ?_) (fun σ_ H hP_ => ?_)
    · replace hj := ipos hc hj
      clear hm
      have hm := hj
      clear hj
      have G := G.trans g
      have r_turn := Rp.mono g.ff r_turn
      have r_steps_here := Rp.mono g.ff r_steps_here
      have o_found := o_found.up g
      have r_last := Rp.mono g.ff r_last
      have r_k := Rp.mono g.ff r_k
      have r_number_here := Rp.mono g.ff r_number_here
      have sb6 := sb6.trans g.ff
      have sj9 := g.ff
      obtain ⟨x_number_here, he, hm⟩ := Option.bind_eq_some_iff.mp hm
      refine go_setA (Int) 6 G.sm (ev_sub (ev_sub (ev_callB call_len_seq oc_lenL T.n_len PySem.boot_len (ea_cons (ev_varK 2 rfl r_steps_here kv_leaves_2) ea_nil)) ev_int) (ev_varK 6 rfl r_number_here kv_leaves_6)) (fun v_number_here F H g rn_ => ?_) sc_leaves.nd
      have G := G.trans g
      have r_steps_here := Rp.mono g.ff r_steps_here
      have o_found := o_found.up g
      have r_last := Rp.mono g.ff r_last
      have r_k := Rp.mono g.ff r_k
      have sb6 := sb6.trans g.ff
      have sj9 := sj9.trans g.ff
      have r_number_here := cg (Option.some.inj he) rn_
      have hm := Option.some.inj hm
      subst hm
      exact GoS.nil ⟨_, _, sj9, rfl, G, r_number_here, o_found⟩
    · replace hj := ineg (nt hc) hj
      clear hm
      have hm := hj
      clear hj
      have G := G.trans g
      have r_turn := Rp.mono g.ff r_turn
      have r_steps_here := Rp.mono g.ff r_steps_here
      have o_found := o_found.up g
      have r_last := Rp.mono g.ff r_last
      have r_k := Rp.mono g.ff r_k
      have r_number_here := Rp.mono g.ff r_number_here
      have sb6 := sb6.trans g.ff
      have sj9 := g.ff
      have hm := Option.some.inj hm
      subst hm
      exact GoS.nil ⟨_, _, sj9, rfl, G, r_number_here, o_found⟩
    obtain ⟨F, v_number_here, sj_, rfl, G, r_number_here, o_found⟩ := hP_
    have r_steps_here := Rp.mono sj_ r_steps_here
    have r_last := Rp.mono sj_ r_last
    have r_k := Rp.mono sj_ r_k
    have sb6 := sb6.trans sj_
    obtain ⟨t10, h_t10, hm⟩ := Option.bind_eq_some_iff.mp hm
    obtain ⟨i11, he, hm⟩ := Option.bind_eq_some_iff.mp hm
    refine go_unpack G.sm (ev_ixL (ev_varK 2 rfl r_steps_here kv_leaves_2) (ev_varK 5 rfl r_k kv_leaves_5) h_t10) (pg_tup rfl (pgs_cons (pg_name (i := 7) sc_leaves.nd rfl (by first | exact Or.inl rfl | exact Or.inr rfl)) (pgs_cons (pg_name (i := 8) sc_leaves.nd rfl (by first | exact Or.inl rfl | exact Or.inr rfl)) (pgs_cons (pg_name (i := 9) sc_leaves.nd rfl (by first | exact Or.inl rfl | exact Or.inr rfl)) pgs_nil)))) (fun w_ F H g ri_ Q_ hQ_ => ?_)
    have ri_ := cg (Option.some.inj he) ri_
    have G := G.trans g
    have r_steps_here := Rp.mono g.ff r_steps_here
    have o_found := o_found.up g
    have r_last := Rp.mono g.ff r_last
    have r_k := Rp.mono g.ff r_k
    have r_number_here := Rp.mono g.ff r_number_here
    have sb6 := sb6.trans g.ff
    obtain ⟨pa12, _, rfl, sq13, v_opened, _, rfl, r_opened, v_path_here, _, rfl, r_path_here, v_cell, _, rfl, r_cell, rfl⟩ := ri_
    refine ⟨pa12, _, rfl, seqT_mono G.fh sq13, rfl, _, _, rfl, _, _, rfl, _, _, rfl, rfl, hQ_ _ _ ?_⟩
    change GoS _ _ _ [some v_cells, some v_turn, some v_steps_here, some (.ref l_found), some v_last, some v_k, some v_number_here, some v_opened, some v_path_here, some v_cell, u_share, u_ways, none, none] _
    obtain ⟨x_share, he, hm⟩ := Option.bind_eq_some_iff.mp hm
    refine go_setA (Int) 10 G.sm ev_int (fun v_share F H g rn_ => ?_) sc_leaves.nd
    have G := G.trans g
    have o_found := o_found.up g
    have r_last := Rp.mono g.ff r_last
    have r_number_here := Rp.mono g.ff r_number_here
    have r_opened := Rp.mono g.ff r_opened
    have r_path_here := Rp.mono g.ff r_path_here
    have r_cell := Rp.mono g.ff r_cell
    have sb6 := sb6.trans g.ff
    have r_share := cg (Option.some.inj he) rn_
    change GoS _ _ _ [some v_cells, some v_turn, some v_steps_here, some (.ref l_found), some v_last, some v_k, some v_number_here, some v_opened, some v_path_here, some v_cell, some v_share, u_ways, none, none] _
    obtain ⟨b20, ho_, hm⟩ := Option.bind_eq_some_iff.mp hm
    refine go_whileN (b0 := x_share) (fun (b14 : Int) σ_ F_ H_ => ∃ (v_share : V), σ_ = [some v_cells, some v_turn, some v_steps_here, some (.ref l_found), some v_last, some v_k, some v_number_here, some v_opened, some v_path_here, some v_cell, some v_share, u_ways, none, none] ∧ GrX K F0 H0 F_ H_ ∧ rp (α := Int) K F_ v_share b14 ∧ Own K H0 F_ H_ l_found b3.1) G.sm ⟨_, rfl, G, r_share, o_found⟩ ho_ ?_ ?_ ?_ PassesOwn.never
    ·
      intro b14 t_ hm σ_ F H s1_ s2_ iv_
      obtain ⟨v_share, rfl, G, r_share, o_found⟩ := iv_
      have r_last := Rp.mono s1_ r_last
      have r_path_here := Rp.mono s1_ r_path_here
      obtain ⟨t19, h_t19, hm⟩ := Option.bind_eq_some_iff.mp hm
      refine ⟨G.sm, EvT.cg (Option.some.inj hm) (EvW.t (ew_andA ((decide (b14 < (if (b3.2.length : Int) < (i11.b.length : Int) then (b3.2.length : Int) else (i11.b.length : Int))))) (et_cmp op_lt o2_lt (ev_varK 10 rfl r_share kv_leaves_10) (ev_callB (call_min2 rfl) oc_min2 T.n_min (by decide +kernel) (ea_cons (ev_callB call_len_seq oc_lenL T.n_len PySem.boot_len (ea_cons (ev_varK 8 rfl r_path_here kv_leaves_8) ea_nil)) (ea_cons (ev_callB call_len_seq oc_lenL T.n_len PySem.boot_len (ea_cons (ev_varK 4 rfl r_last kv_leaves_4) ea_nil)) ea_nil))) (nomark _)) (fun hc => by
              replace h_t19 := ipos hc h_t19
              obtain ⟨t17, h_t17, h_t19⟩ := Option.bind_eq_some_iff.mp h_t19
              obtain ⟨t18, h_t18, h_t19⟩ := Option.bind_eq_some_iff.mp h_t19
              exact EvW.cg (Option.some.inj h_t19) (ew_and1 (et_cmp op_eq o2_eq (ev_ixL (ev_varK 8 rfl r_path_here kv_leaves_8) (ev_varK 10 rfl r_share kv_leaves_10) h_t17) (ev_ixL (ev_varK 4 rfl r_last kv_leaves_4) (ev_varK 10 rfl r_share kv_leaves_10) h_t18) (nomark _)))) (fun hc => by replace h_t19 := ineg (nt hc) h_t19; exact (Option.some.inj h_t19).symm))), fun F H g => ?_⟩
      have G := G.trans g
      have r_share := Rp.mono g.ff r_share
      have o_found := o_found.up g
      exact ⟨_, rfl, G, r_share, o_found⟩
    ·
      intro b14 o_ hm σ_ F H s1_ s2_ iv_
      obtain ⟨v_share, rfl, G, r_share, o_found⟩ := iv_
      have sb16 := L2.Same.refl F
      have r_last := Rp.mono s1_ r_last
      have r_path_here := Rp.mono s1_ r_path_here
      obtain ⟨x_share, he, hm⟩ := Option.bind_eq_some_iff.mp hm
      refine go_setA (Int) 10 G.sm (ev_add (ev_varK 10 rfl r_share kv_leaves_10) ev_int) (fun v_share F H g rn_ => ?_) sc_leaves.nd
      have G := G.trans g
      have o_found := o_found.up g
      have r_last := Rp.mono g.ff r_last
      have r_path_here := Rp.mono g.ff r_path_here
      have sb16 := sb16.trans g.ff
      have r_share := cg (Option.some.inj he) rn_
      have hm := Option.some.inj hm
      subst hm
      exact GoS.nil ⟨_, sb16, G.fh, ⟨_, rfl, G, r_share, o_found⟩⟩
    · intro σ_ F H s1_ s2_ iv_
      obtain ⟨v_share, rfl, G, r_share, o_found⟩ := iv_
      have sb6 := sb6.trans s1_
      have r_last := Rp.mono s1_ r_last
      have r_number_here := Rp.mono s1_ r_number_here
      have r_opened := Rp.mono s1_ r_opened
      have r_path_here := Rp.mono s1_ r_path_here
      have r_cell := Rp.mono s1_ r_cell
      obtain ⟨t25, h_t25, hm⟩ := Option.bind_eq_some_iff.mp hm
      obtain ⟨x_ways, he, hm⟩ := Option.bind_eq_some_iff.mp hm
      first
        | refine go_setLc (own := [("_law_way", 12), ("_law_is_cut", 13)]) (g := gTup K 2 (gCons (gName 12) (gCons (gName 13) gNil))) 11 G.sm sc_leaves.nd (ei_list (ev_varK 7 rfl r_opened kv_leaves_7)) h_t25 (blkOk_by (N := ["_law_cells", "_law_turn", "_law_steps_here", "_law_found", "_law_last", "_law_k", "_law_number_here", "_law_opened", "_law_path_here", "_law_cell", "_law_share", "_law_ways", "_law_way", "_law_is_cut"]) (sc := defScope s_leaves) (by decide +kernel)) (fun _ _ _ _ _ => (pg_tup rfl (pgs_cons (pg_name (i := 12) sc_leaves.nd rfl (by first | exact Or.inl rfl | exact Or.inr rfl)) (pgs_cons (pg_name (i := 13) sc_leaves.nd rfl (by first | exact Or.inl rfl | exact Or.inr rfl)) pgs_nil)))) (fun i21 o_ hm F H w24 g ri_ Q hQ => by
              have r_opened := Rp.mono g.ff r_opened
              obtain ⟨pa22, _, rfl, sq23, v_way, _, rfl, r_way, v_is_cut, _, rfl, r_is_cut, rfl⟩ := ri_
              refine ⟨pa22, _, rfl, seqT_mono g.fh sq23, rfl, _, _, rfl, _, _, rfl, rfl, hQ _ rfl ?_⟩
              exact ⟨_, (Option.some.inj hm).symm, fun s_ H_ C_ cl_ fp_ => (ev_tup2 (ea_cons (ev_var 13 rfl r_is_cut) (ea_cons (ev_var 12 rfl r_way) ea_nil)))⟩) (fun l_ways vs_ F H g nl_ fl_ hl_ rs_ => ?_)
        | refine go_setN 11 G.sm (en_comp (own := [("_law_way", 12), ("_law_is_cut", 13)]) (g := gTup K 2 (gCons (gName 12) (gCons (gName 13) gNil))) sc_leaves.nd (ei_list (ev_varK 7 rfl r_opened kv_leaves_7)) h_t25 (blkOk_by (N := ["_law_cells", "_law_turn", "_law_steps_here", "_law_found", "_law_last", "_law_k", "_law_number_here", "_law_opened", "_law_path_here", "_law_cell", "_law_share", "_law_ways", "_law_way", "_law_is_cut"]) (sc := defScope s_leaves) (by decide +kernel)) (fun _ _ _ _ _ => (pg_tup rfl (pgs_cons (pg_name (i := 12) sc_leaves.nd rfl (by first | exact Or.inl rfl | exact Or.inr rfl)) (pgs_cons (pg_name (i := 13) sc_leaves.nd rfl (by first | exact Or.inl rfl | exact Or.inr rfl)) pgs_nil)))) (fun i21 o_ hm F H w24 g ri_ Q hQ => by
              have r_opened := Rp.mono g.ff r_opened
              obtain ⟨pa22, _, rfl, sq23, v_way, _, rfl, r_way, v_is_cut, _, rfl, r_is_cut, rfl⟩ := ri_
              refine ⟨pa22, _, rfl, seqT_mono g.fh sq23, rfl, _, _, rfl, _, _, rfl, rfl, hQ _ rfl ?_⟩
              exact ⟨_, (Option.some.inj hm).symm, fun s_ H_ C_ cl_ fp_ => (ev_tup2 (ea_cons (ev_var 13 rfl r_is_cut) (ea_cons (ev_var 12 rfl r_way) ea_nil)))⟩)) (fun l_ways vs_ F H g nl_ fl_ hl_ rs_ => ?_) sc_leaves.nd
      have d_found_ways : l_found ≠ l_ways := fun e_ => o_found.ne0 (e_.symm ▸ nl_)
      have n0_ := G.hh.free nl_
      have G := G.trans g
      have o_found := o_found.up g
      have r_last := Rp.mono g.ff r_last
      have r_number_here := Rp.mono g.ff r_number_here
      have r_opened := Rp.mono g.ff r_opened
      have r_path_here := Rp.mono g.ff r_path_here
      have r_cell := Rp.mono g.ff r_cell
      have r_share := Rp.mono g.ff r_share
      have sb6 := sb6.trans g.ff
      have o_ways : Own K _ F H l_ways _ := Own.cg (Option.some.inj he) ⟨n0_, fl_, vs_, hl_, rs_⟩
      refine o_ways.freeze G (fun F H s_ s2_ G r_ways k_ => ?_)
      have o_found := o_found.keepF (d_found_ways) s_ k_
      have r_last := Rp.mono s_ r_last
      have r_number_here := Rp.mono s_ r_number_here
      have r_opened := Rp.mono s_ r_opened
      have r_path_here := Rp.mono s_ r_path_here
      have r_cell := Rp.mono s_ r_cell
      have r_share := Rp.mono s_ r_share
      have sb6 := sb6.trans s_
      change GoS _ _ _ [some v_cells, some v_turn, some v_steps_here, some (.ref l_found), some v_last, some v_k, some v_number_here, some v_opened, some v_path_here, some v_cell, some v_share, some (.ref l_ways), none, none] _
      obtain ⟨t26, h_t26, hm⟩ := Option.bind_eq_some_iff.mp hm
      obtain ⟨t27, he, hm⟩ := Option.bind_eq_some_iff.mp hm
      refine go_append 3 G.sm o_found rfl (ev_tup4 (ea_cons (ev_varK 6 rfl r_number_here kv_leaves_6) (ea_cons (ev_varK 10 rfl r_share kv_leaves_10) (ea_cons (ev_varK 11 rfl r_ways kv_leaves_11) (ea_cons (ev_call (ok_places T) (hr.mono (by omega)) T.g_places T.F_places.kp (b_places T) (ea_cons (ev_varK 7 rfl r_opened kv_leaves_7) (ea_cons (ev_varK 9 rfl r_cell kv_leaves_9) ea_nil)) h_t26 gl_leaves_places) ea_nil))))) he (fun w_ F H g nz_ fz_ on_ => ?_)
      have G := G.trans g
      have r_last := Rp.mono g.ff r_last
      have r_number_here := Rp.mono g.ff r_number_here
      have r_opened := Rp.mono g.ff r_opened
      have r_path_here := Rp.mono g.ff r_path_here
      have r_cell := Rp.mono g.ff r_cell
      have r_share := Rp.mono g.ff r_share
      have r_ways := Rp.mono g.ff r_ways
      have sb6 := sb6.trans g.ff
      have G := G.poke (u := w_) on_.n fz_ nz_ on_.pl
      have o_found := on_
      obtain ⟨x_last, he, hm⟩ := Option.bind_eq_some_iff.mp hm
      refine go_setA ((List Int)) 4 G.sm (ev_varK 8 rfl r_path_here kv_leaves_8) (fun v_last F H g rn_ => ?_) sc_leaves.nd
      have G := G.trans g
      have o_found := o_found.up g
      have r_path_here := Rp.mono g.ff r_path_here
      have sb6 := sb6.trans g.ff
      have r_last := cg (Option.some.inj he) rn_
      have hm := Option.some.inj hm
      subst hm
      exact GoS.nil ⟨_, sb6, G.fh, ⟨_, _, _, _, _, _, _, _, rfl, G, o_found, r_last⟩⟩
  · intro σ_ F H s1_ s2_ iv_
    obtain ⟨u_number_here, u_opened, u_path_here, u_cell, u_share, u_ways, u_k, v_last, rfl, G, o_found, r_last⟩ := iv_
    refine o_found.freeze G (fun F H s_ s2_ G r_found k_ => ?_)
    exact go_ret G.sm (ev_varK 3 rfl r_found kv_leaves_3) fun v_ F_ H_ g_ rv_ => kr _ _ _ (G.trans g_) (cg (Option.some.inj hm) rv_)
/-! items -/
theorem sc_items : FnScope ["_law_leaves_here", "_law_depth", "_law_items_here", "_law_at_here", "_law_upto", "_law_number_here", "_law_share", "_law_ways", "_law_places_here", "_law_inner"] ["_law_leaves_here", "_law_depth"] (defScope s_items) := ⟨rfl, rfl, rfl, by decide +kernel, rfl, by decide +kernel, by decide +kernel⟩
theorem b_items (T : TxB K mg base) : Binds K T.d_items ["_law_leaves_here", "_law_depth"] [] := T.F_items.bindsN fun _ _ _ _ _ _ us hl => match us, hl with | [_, _], _ => rfl
theorem kv_items_0 : VKn (defScope s_items) "_law_leaves_here" := ⟨by first | exact Or.inl (by decide +kernel) | exact Or.inr (Or.inl (by decide +kernel)) | exact Or.inr (Or.inr (by decide +kernel)), by decide, by decide⟩
theorem kv_items_1 : VKn (defScope s_items) "_law_depth" := ⟨by first | exact Or.inl (by decide +kernel) | exact Or.inr (Or.inl (by decide +kernel)) | exact Or.inr (Or.inr (by decide +kernel)), by decide, by decide⟩
theorem kv_items_3 : VKn (defScope s_items) "_law_at_here" := ⟨by first | exact Or.inl (by decide +kernel) | exact Or.inr (Or.inl (by decide +kernel)) | exact Or.inr (Or.inr (by decide +kernel)), by decide, by decide⟩
theorem kv_items_4 : VKn (defScope s_items) "_law_upto" := ⟨by first | exact Or.inl (by decide +kernel) | exact Or.inr (Or.inl (by decide +kernel)) | exact Or.inr (Or.inr (by decide +kernel)), by decide, by decide⟩
theorem kv_items_5 : VKn (defScope s_items) "_law_number_here" := ⟨by first | exact Or.inl (by decide +kernel) | exact Or.inr (Or.inl (by decide +kernel)) | exact Or.inr (Or.inr (by decide +kernel)), by decide, by decide⟩
theorem kv_items_7 : VKn (defScope s_items) "_law_ways" := ⟨by first | exact Or.inl (by decide +kernel) | exact Or.inr (Or.inl (by decide +kernel)) | exact Or.inr (Or.inr (by decide +kernel)), by decide, by decide⟩
theorem kv_items_8 : VKn (defScope s_items) "_law_places_here" := ⟨by first | exact Or.inl (by decide +kernel) | exact Or.inr (Or.inl (by decide +kernel)) | exact Or.inr (Or.inr (by decide +kernel)), by decide, by decide⟩
theorem kv_items_9 : VKn (defScope s_items) "_law_inner" := ⟨by first | exact Or.inl (by decide +kernel) | exact Or.inr (Or.inl (by decide +kernel)) | exact Or.inr (Or.inr (by decide +kernel)), by decide, by decide⟩
theorem gl_items_items : (defScope s_items).names.lookup ("_law_items" : Str) = some NameKind.globalImplicit := by decide +kernel
theorem ok_items (T : TxB K mg base) : ∀ n_ : Nat, FnOk P w K mg base CX0 (0 + n_ + 1) (He.fAd K ("_law_items", none)) T.d_items ["_law_leaves_here", "_law_depth"] (Pr K fun (a_ : (List (T4 Int Int (List (T2 Bool Str)) (List (T2 Int Int)))) × Int × Unit) => m_items n_ a_.1 a_.2.1)
  | 0 => by
    refine fn_ok T.F_items sc_items rfl fun cdv A outer s_ F0 H0 vs a_ r D_ E_ hr sm_ ra_ hm kr kn => ?_
    exact nomatch (show none = some r from hm)
  | n_ + 1 => by
    have ih_ := ok_items T n_
    refine fn_ok T.F_items sc_items rfl fun cdv A outer s_ F0 H0 vs a_ r D_ E_ hr sm_ ra_ hm kr kn => ?_
    obtain ⟨v_leaves_here, _, rfl, r_leaves_here, v_depth, _, rfl, r_depth, rfl⟩ := ra_
    obtain ⟨x_leaves_here, x_depth, _u⟩ := a_
    have G : GrX K F0 H0 F0 H0 := .refl sm_
    replace hm : m_items (n_ + 1) x_leaves_here x_depth = some r := hm
    rw [m_items] at hm
    have r_leaves_here : rp (α := (List (T4 Int Int (List (T2 Bool Str)) (List (T2 Int Int))))) K F0 v_leaves_here x_leaves_here := r_leaves_here
    have r_depth : rp (α := Int) K F0 v_depth x_depth := r_depth
    change GoS _ _ _ [some v_leaves_here, some v_depth, none, none, none, none, none, none, none, none] _
    obtain ⟨x_items_here, he, hm⟩ := Option.bind_eq_some_iff.mp hm
    refine go_setNA ((List UItem)) 2 G.sm (en_list el_nil (Nat.zero_le _)) (fun l_items_here vs_ F H g nl_ fl_ hl_ rs_ => ?_) sc_items.nd
    have n0_ := G.hh.free nl_
    have G := G.trans g
    have r_leaves_here := Rp.mono g.ff r_leaves_here
    have r_depth := Rp.mono g.ff r_depth
    have o_items_here : Own K _ F H l_items_here _ := Own.cg (Option.some.inj he) ⟨n0_, fl_, vs_, hl_, rs_⟩
    change GoS _ _ _ [some v_leaves_here, some v_depth, some (.ref l_items_here), none, none, none, none, none, none, none] _
    obtain ⟨x_at_here, he, hm⟩ := Option.bind_eq_some_iff.mp hm
    refine go_setA (Int) 3 G.sm ev_int (fun v_at_here F H g rn_ => ?_) sc_items.nd
    have G := G.trans g
    have r_leaves_here := Rp.mono g.ff r_leaves_here
    have r_depth := Rp.mono g.ff r_depth
    have o_items_here := o_items_here.up g
    have r_at_here := cg (Option.some.inj he) rn_
    change GoS _ _ _ [some v_leaves_here, some v_depth, some (.ref l_items_here), some v_at_here, none, none, none, none, none, none] _
    obtain ⟨b21, ho_, hm⟩ := Option.bind_eq_some_iff.mp hm
    refine go_whileN (b0 := (x_items_here, x_at_here)) (fun (b1 : ((List UItem) × Int)) σ_ F_ H_ => ∃ (u_upto : Option V) (u_number_here : Option V) (u_share : Option V) (u_ways : Option V) (u_places_here : Option V) (u_inner : Option V) (v_at_here : V), σ_ = [some v_leaves_here, some v_depth, some (.ref l_items_here), some v_at_here, u_upto, u_number_here, u_share, u_ways, u_places_here, u_inner] ∧ GrX K F0 H0 F_ H_ ∧ Own K H0 F_ H_ l_items_here b1.1 ∧ rp (α := Int) K F_ v_at_here b1.2) G.sm ⟨_, _, _, _, _, _, _, rfl, G, o_items_here, r_at_here⟩ ho_ ?_ ?_ ?_ PassesOwn.never
    ·
      intro b1 t_ hm σ_ F H s1_ s2_ iv_
      obtain ⟨u_upto, u_number_here, u_share, u_ways, u_places_here, u_inner, v_at_here, rfl, G, o_items_here, r_at_here⟩ := iv_
      have r_leaves_here := Rp.mono s1_ r_leaves_here
      have r_depth := Rp.mono s1_ r_depth
      refine ⟨G.sm, EvT.cg (Option.some.inj hm) (et_cmp op_lt o2_lt (ev_varK 3 rfl r_at_here kv_items_3) (ev_callB call_len_seq oc_lenL T.n_len PySem.boot_len (ea_cons (ev_varK 0 rfl r_leaves_here kv_items_0) ea_nil)) (nomark _)), fun F H g => ?_⟩
      have G := G.trans g
      have o_items_here := o_items_here.up g
      have r_at_here := Rp.mono g.ff r_at_here
      exact ⟨_, _, _, _, _, _, _, rfl, G, o_items_here, r_at_here⟩
    ·
      intro b1 o_ hm σ_ F H s1_ s2_ iv_
      obtain ⟨u_upto, u_number_here, u_share, u_ways, u_places_here, u_inner, v_at_here, rfl, G, o_items_here, r_at_here⟩ := iv_
      have sb3 := L2.Same.refl F
      have r_leaves_here := Rp.mono s1_ r_leaves_here
      have r_depth := Rp.mono s1_ r_depth
      change GoS _ _ _ [some v_leaves_here, some v_depth, some (.ref l_items_here), some v_at_here, u_upto, u_number_here, u_share, u_ways, u_places_here, u_inner] _
      obtain ⟨x_upto, he, hm⟩ := Option.bind_eq_some_iff.mp hm
      refine go_setA (Int) 4 G.sm (ev_add (ev_varK 3 rfl r_at_here kv_items_3) ev_int) (fun v_upto F H g rn_ => ?_) sc_items.nd
      have G := G.trans g
      have r_leaves_here := Rp.mono g.ff r_leaves_here
      have r_depth := Rp.mono g.ff r_depth
      have o_items_here := o_items_here.up g
      have r_at_here := Rp.mono g.ff r_at_here
      have sb3 := sb3.trans g.ff
      have r_upto := cg (Option.some.inj he) rn_
      change GoS _ _ _ [some v_leaves_here, some v_depth, some (.ref l_items_here), some v_at_here, some v_upto, u_number_here, u_share, u_ways, u_places_here, u_inner] _
      obtain ⟨t4, h_t4, hm⟩ := Option.bind_eq_some_iff.mp hm
      obtain ⟨i5, he, hm⟩ := Option.bind_eq_some_iff.mp hm
      refine go_unpack G.sm (ev_ixL (ev_varK 0 rfl r_leaves_here kv_items_0) (ev_varK 3 rfl r_at_here kv_items_3) h_t4) (pg_tup rfl (pgs_cons (pg_name (i := 5) sc_items.nd rfl (by first | exact Or.inl rfl | exact Or.inr rfl)) (pgs_cons (pg_name (i := 6) sc_items.nd rfl (by first | exact Or.inl rfl | exact Or.inr rfl)) (pgs_cons (pg_name (i := 7) sc_items.nd rfl (by first | exact Or.inl rfl | exact Or.inr rfl)) (pgs_cons (pg_name (i := 8) sc_items.nd rfl (by first | exact Or.inl rfl | exact Or.inr rfl)) pgs_nil))))) (fun w_ F H g ri_ Q_ hQ_ => ?_)
      have ri_ := cg (Option.some.inj he) ri_
      have G := G.trans g
      have r_leaves_here := Rp.mono g.ff r_leaves_here
      have r_depth := Rp.mono g.ff r_depth
      have o_items_here := o_items_here.up g
      have r_at_here := Rp.mono g.ff r_at_here
      have r_upto := Rp.mono g.ff r_upto
      have sb3 := sb3.trans g.ff
      obtain ⟨pa6, _, rfl, sq7, v_number_here, _, rfl, r_number_here, v_share, _, rfl, r_share, v_ways, _, rfl, r_ways, v_places_here, _, rfl, r_places_here, rfl⟩ := ri_
      refine ⟨pa6, _, rfl, seqT_mono G.fh sq7, rfl, _, _, rfl, _, _, rfl, _, _, rfl, _, _, rfl, rfl, hQ_ _ _ ?_⟩
      change GoS _ _ _ [some v_leaves_here, some v_depth, some (.ref l_items_here), some v_at_here, some v_upto, some v_number_here, some v_share, some v_ways, some v_places_here, u_inner] _
      obtain ⟨b8, hj, hm⟩ := Option.bind_eq_some_iff.mp hm
      refine go_ifjA ((decide ((i5.c.length : Int) = x_depth))) (fun σ_ H_ => ∃ (F_ : Hp) (u_inner : Option V) (v_upto : V), L2.Same F F_ ∧ σ_ = [some v_leaves_here, some v_depth, some (.ref l_items_here), some v_at_here, some v_upto, some v_number_here, some v_share, some v_ways, some v_places_here, u_inner] ∧ GrX K F0 H0 F_ H_ ∧ Own K H0 F_ H_ l_items_here b8.1 ∧ rp (α := Int) K F_ v_upto b8.2) G.sm (et_cmp op_eq o2_eq (ev_callB call_len_seq oc_lenL T.n_len PySem.boot_len (ea_cons (ev_varK 7 rfl r_ways kv_items_7) ea_nil)) (ev_varK 1 rfl r_depth kv_items_1) (nomark _)) (fun hc F H g => ?_) (fun hc F H g => ?_) (fun σ_ H hP_ => ?_)
      · replace hj := ipos hc hj
        clear hm
        have hm := hj
        clear hj
        have G := G.trans g
        have r_leaves_here := Rp.mono g.ff r_leaves_here
        have r_depth := Rp.mono g.ff r_depth
        have o_items_here := o_items_here.up g
        have r_at_here := Rp.mono g.ff r_at_here
        have r_upto := Rp.mono g.ff r_upto
        have r_number_here := Rp.mono g.ff r_number_here
        have r_ways := Rp.mono g.ff r_ways
        have r_places_here := Rp.mono g.ff r_places_here
        have sb3 := sb3.trans g.ff
        have sj9 := g.ff
        obtain ⟨t10, he, hm⟩ := Option.bind_eq_some_iff.mp hm
        refine go_append 2 G.sm o_items_here rfl (UItem.mkv_deed (ev_tup3 (ea_cons ev_str (ea_cons (ev_varK 5 rfl r_number_here kv_items_5) (ea_cons (ev_callTy call_tuple_of oc_tuple T.n_tuple (by decide +kernel) (ea_cons (ev_varK 8 rfl r_places_here kv_items_8) ea_nil)) ea_nil))))) he (fun w_ F H g nz_ fz_ on_ => ?_)
        have G := G.trans g
        have r_leaves_here := Rp.mono g.ff r_leaves_here
        have r_at_here := Rp.mono g.ff r_at_here
        have r_upto := Rp.mono g.ff r_upto
        have r_number_here := Rp.mono g.ff r_number_here
        have r_places_here := Rp.mono g.ff r_places_here
        have sb3 := sb3.trans g.ff
        have sj9 := sj9.trans g.ff
        have G := G.poke (u := w_) on_.n fz_ nz_ on_.pl
        have o_items_here := on_
        have hm := Option.some.inj hm
        subst hm
        exact GoS.nil ⟨_, _, _, sj9, rfl, G, o_items_here, r_upto⟩
      · replace hj := ineg (nt hc) hj
        clear hm
        have hm := hj
        clear hj
        have G := G.trans g
        have r_leaves_here := Rp.mono g.ff r_leaves_here
        have r_depth := Rp.mono g.ff r_depth
        have o_items_here := o_items_here.up g
        have r_at_here := Rp.mono g.ff r_at_here
        have r_upto := Rp.mono g.ff r_upto
        have r_number_here := Rp.mono g.ff r_number_here
        have r_ways := Rp.mono g.ff r_ways
        have r_places_here := Rp.mono g.ff r_places_here
        have sb3 := sb3.trans g.ff
        have sj9 := g.ff
        obtain ⟨b16, ho_, hm⟩ := Option.bind_eq_some_iff.mp hm
        refine go_whileN (b0 := x_upto) (fun (b11 : Int) σ_ F_ H_ => ∃ (v_upto : V), σ_ = [some v_leaves_here, some v_depth, some (.ref l_items_here), some v_at_here, some v_upto, some v_number_here, some v_share, some v_ways, some v_places_here, u_inner] ∧ GrX K F0 H0 F_ H_ ∧ rp (α := Int) K F_ v_upto b11 ∧ Own K H0 F_ H_ l_items_here b1.1) G.sm ⟨_, rfl, G, r_upto, o_items_here⟩ ho_ ?_ ?_ ?_ PassesOwn.never
        ·
          intro b11 t_ hm σ_ F H s1_ s2_ iv_
          obtain ⟨v_upto, rfl, G, r_upto, o_items_here⟩ := iv_
          have r_leaves_here := Rp.mono s1_ r_leaves_here
          have r_depth := Rp.mono s1_ r_depth
          obtain ⟨t15, h_t15, hm⟩ := Option.bind_eq_some_iff.mp hm
          refine ⟨G.sm, EvT.cg (Option.some.inj hm) (EvW.t (ew_andA ((decide (b11 < (x_leaves_here.length : Int)))) (et_cmp op_lt o2_lt (ev_varK 4 rfl r_upto kv_items_4) (ev_callB call_len_seq oc_lenL T.n_len PySem.boot_len (ea_cons (ev_varK 0 rfl r_leaves_here kv_items_0) ea_nil)) (nomark _)) (fun hc => by
                  replace h_t15 := ipos hc h_t15
                  obtain ⟨t14, h_t14, h_t15⟩ := Option.bind_eq_some_iff.mp h_t15
                  exact EvW.cg (Option.some.inj h_t15) (ew_and1 (et_cmp op_gt o2_gt (ev_ixT (ev_ixL (ev_varK 0 rfl r_leaves_here kv_items_0) (ev_varK 4 rfl r_upto kv_items_4) h_t14) ev_int pj1) (ev_varK 1 rfl r_depth kv_items_1) (nomark _)))) (fun hc => by replace h_t15 := ineg (nt hc) h_t15; exact (Option.some.inj h_t15).symm))), fun F H g => ?_⟩
          have G := G.trans g
          have r_upto := Rp.mono g.ff r_upto
          have o_items_here := o_items_here.up g
          exact ⟨_, rfl, G, r_upto, o_items_here⟩
        ·
          intro b11 o_ hm σ_ F H s1_ s2_ iv_
          obtain ⟨v_upto, rfl, G, r_upto, o_items_here⟩ := iv_
          have sb13 := L2.Same.refl F
          have r_leaves_here := Rp.mono s1_ r_leaves_here
          have r_depth := Rp.mono s1_ r_depth
          obtain ⟨x_upto, he, hm⟩ := Option.bind_eq_some_iff.mp hm
          refine go_setA (Int) 4 G.sm (ev_add (ev_varK 4 rfl r_upto kv_items_4) ev_int) (fun v_upto F H g rn_ => ?_) sc_items.nd
          have G := G.trans g
          have r_leaves_here := Rp.mono g.ff r_leaves_here
          have r_depth := Rp.mono g.ff r_depth
          have o_items_here := o_items_here.up g
          have sb13 := sb13.trans g.ff
          have r_upto := cg (Option.some.inj he) rn_
          have hm := Option.some.inj hm
          subst hm
          exact GoS.nil ⟨_, sb13, G.fh, ⟨_, rfl, G, r_upto, o_items_here⟩⟩
        · intro σ_ F H s1_ s2_ iv_
          obtain ⟨v_upto, rfl, G, r_upto, o_items_here⟩ := iv_
          have sb3 := sb3.trans s1_
          have sj9 := sj9.trans s1_
          have r_leaves_here := Rp.mono s1_ r_leaves_here
          have r_depth := Rp.mono s1_ r_depth
          have r_at_here := Rp.mono s1_ r_at_here
          have r_ways := Rp.mono s1_ r_ways
          obtain ⟨t17, h_t17, hm⟩ := Option.bind_eq_some_iff.mp hm
          obtain ⟨x_inner, he, hm⟩ := Option.bind_eq_some_iff.mp hm
          refine go_setA ((Tp UItem)) 9 G.sm (ev_call ih_ (hr.mono (by omega)) T.g_items T.F_items.kp (b_items T) (ea_cons (EvN.evA ((List (T4 Int Int (List (T2 Bool Str)) (List (T2 Int Int))))) (en_slice (ev_varK 0 rfl r_leaves_here kv_items_0) (eo_some (ev_varK 3 rfl r_at_here kv_items_3)) (eo_some (ev_varK 4 rfl r_upto kv_items_4)))) (ea_cons (ev_add (ev_varK 1 rfl r_depth kv_items_1) ev_int) ea_nil)) h_t17 gl_items_items) (fun v_inner F H g rn_ => ?_) sc_items.nd
          have G := G.trans g
          have r_leaves_here := Rp.mono g.ff r_leaves_here
          have r_depth := Rp.mono g.ff r_depth
          have o_items_here := o_items_here.up g
          have r_at_here := Rp.mono g.ff r_at_here
          have r_upto := Rp.mono g.ff r_upto
          have r_ways := Rp.mono g.ff r_ways
          have sb3 := sb3.trans g.ff
          have sj9 := sj9.trans g.ff
          have r_inner := cg (Option.some.inj he) rn_
          change GoS _ _ _ [some v_leaves_here, some v_depth, some (.ref l_items_here), some v_at_here, some v_upto, some v_number_here, some v_share, some v_ways, some v_places_here, some v_inner] _
          obtain ⟨t18, h_t18, hm⟩ := Option.bind_eq_some_iff.mp hm
          obtain ⟨t19, h_t19, hm⟩ := Option.bind_eq_some_iff.mp hm
          obtain ⟨t20, he, hm⟩ := Option.bind_eq_some_iff.mp hm
          refine go_append 2 G.sm o_items_here rfl (UItem.mkv_sweep (ev_tup4 (ea_cons ev_str (ea_cons (ev_ixT (ev_ixL (ev_varK 7 rfl r_ways kv_items_7) (ev_varK 1 rfl r_depth kv_items_1) h_t18) ev_int pj0) (ea_cons (ev_ixT (ev_ixL (ev_varK 7 rfl r_ways kv_items_7) (ev_varK 1 rfl r_depth kv_items_1) h_t19) ev_int pj1) (ea_cons (ev_varK 9 rfl r_inner kv_items_9) ea_nil)))))) he (fun w_ F H g nz_ fz_ on_ => ?_)
          have G := G.trans g
          have r_leaves_here := Rp.mono g.ff r_leaves_here
          have r_depth := Rp.mono g.ff r_depth
          have r_at_here := Rp.mono g.ff r_at_here
          have r_upto := Rp.mono g.ff r_upto
          have r_ways := Rp.mono g.ff r_ways
          have r_inner := Rp.mono g.ff r_inner
          have sb3 := sb3.trans g.ff
          have sj9 := sj9.trans g.ff
          have G := G.poke (u := w_) on_.n fz_ nz_ on_.pl
          have o_items_here := on_
          have hm := Option.some.inj hm
          subst hm
          exact GoS.nil ⟨_, _, _, sj9, rfl, G, o_items_here, r_upto⟩
      obtain ⟨F, u_inner, v_upto, sj_, rfl, G, o_items_here, r_upto⟩ := hP_
      have r_leaves_here := Rp.mono sj_ r_leaves_here
      have r_at_here := Rp.mono sj_ r_at_here
      have sb3 := sb3.trans sj_
      obtain ⟨x_at_here, he, hm⟩ := Option.bind_eq_some_iff.mp hm
      refine go_setA (Int) 3 G.sm (ev_varK 4 rfl r_upto kv_items_4) (fun v_at_here F H g rn_ => ?_) sc_items.nd
      have G := G.trans g
      have r_leaves_here := Rp.mono g.ff r_leaves_here
      have o_items_here := o_items_here.up g
      have r_upto := Rp.mono g.ff r_upto
      have sb3 := sb3.trans g.ff
      have r_at_here := cg (Option.some.inj he) rn_
      have hm := Option.some.inj hm
      subst hm
      exact GoS.nil ⟨_, sb3, G.fh, ⟨_, _, _, _, _, _, _, rfl, G, o_items_here, r_at_here⟩⟩
    · intro σ_ F H s1_ s2_ iv_
      obtain ⟨u_upto, u_number_here, u_share, u_ways, u_places_here, u_inner, v_at_here, rfl, G, o_items_here, r_at_here⟩ := iv_
      change GoS _ _ _ [some v_leaves_here, some v_depth, some (.ref l_items_here), some v_at_here, u_upto, u_number_here, u_share, u_ways, u_places_here, u_inner] _
      exact go_ret G.sm (ev_thaw o_items_here G.fh (fun F H s_ s2_ rf_ k_ => by
              have rf_items_here := rf_
              exact (ev_callTy call_tuple_of oc_tuple T.n_tuple (by decide +kernel) (ea_cons (ev_var 2 rfl rf_items_here) ea_nil)))) fun v_ F_ H_ g_ rv_ => kr _ _ _ (G.trans g_) (cg (Option.some.inj hm) rv_)
/-! groups -/
theorem sc_groups : FnScope ["_law_leaves_here", "_law_path_here", "_law_first", "_law_found", "_law_at_here", "_law_many", "_law_upto", "_law_here"] ["_law_leaves_here", "_law_path_here", "_law_first"] (defScope s_groups) := ⟨rfl, rfl, rfl, by decide +kernel, rfl, by decide +kernel, by decide +kernel⟩
theorem b_groups (T : TxB K mg base) : Binds K T.d_groups ["_law_leaves_here", "_law_path_here", "_law_first"] [] := T.F_groups.bindsN fun _ _ _ _ _ _ us hl => match us, hl with | [_, _, _], _ => rfl
theorem kv_groups_0 : VKn (defScope s_groups) "_law_leaves_here" := ⟨by first | exact Or.inl (by decide +kernel) | exact Or.inr (Or.inl (by decide +kernel)) | exact Or.inr (Or.inr (by decide +kernel)), by decide, by decide⟩
theorem kv_groups_1 : VKn (defScope s_groups) "_law_path_here" := ⟨by first | exact Or.inl (by decide +kernel) | exact Or.inr (Or.inl (by decide +kernel)) | exact Or.inr (Or.inr (by decide +kernel)), by decide, by decide⟩
theorem kv_groups_2 : VKn (defScope s_groups) "_law_first" := ⟨by first | exact Or.inl (by decide +kernel) | exact Or.inr (Or.inl (by decide +kernel)) | exact Or.inr (Or.inr (by decide +kernel)), by decide, by decide⟩
theorem kv_groups_3 : VKn (defScope s_groups) "_law_found" := ⟨by first | exact Or.inl (by decide +kernel) | exact Or.inr (Or.inl (by decide +kernel)) | exact Or.inr (Or.inr (by decide +kernel)), by decide, by decide⟩
theorem kv_groups_4 : VKn (defScope s_groups) "_law_at_here" := ⟨by first | exact Or.inl (by decide +kernel) | exact Or.inr (Or.inl (by decide +kernel)) | exact Or.inr (Or.inr (by decide +kernel)), by decide, by decide⟩
theorem kv_groups_5 : VKn (defScope s_groups) "_law_many" := ⟨by first | exact Or.inl (by decide +kernel) | exact Or.inr (Or.inl (by decide +kernel)) | exact Or.inr (Or.inr (by decide +kernel)), by decide, by decide⟩
theorem kv_groups_6 : VKn (defScope s_groups) "_law_upto" := ⟨by first | exact Or.inl (by decide +kernel) | exact Or.inr (Or.inl (by decide +kernel)) | exact Or.inr (Or.inr (by decide +kernel)), by decide, by decide⟩
theorem kv_groups_7 : VKn (defScope s_groups) "_law_here" := ⟨by first | exact Or.inl (by decide +kernel) | exact Or.inr (Or.inl (by decide +kernel)) | exact Or.inr (Or.inr (by decide +kernel)), by decide, by decide⟩
theorem gl_groups_groups : (defScope s_groups).names.lookup ("_law_groups" : Str) = some NameKind.globalImplicit := by decide +kernel
theorem ok_groups (T : TxB K mg base) : ∀ n_ : Nat, FnOk P w K mg base CX0 (0 + n_ + 1) (He.fAd K ("_law_groups", none)) T.d_groups ["_law_leaves_here", "_law_path_here", "_law_first"] (Pr K fun (a_ : (List (T4 Int Int (List (T2 Bool Str)) (List (T2 Int Int)))) × (Tp Int) × Int × Unit) => m_groups n_ a_.1 a_.2.1 a_.2.2.1)
  | 0 => by
    refine fn_ok T.F_groups sc_groups rfl fun cdv A outer s_ F0 H0 vs a_ r D_ E_ hr sm_ ra_ hm kr kn => ?_
    exact nomatch (show none = some r from hm)
  | n_ + 1 => by
    have ih_ := ok_groups T n_
    refine fn_ok T.F_groups sc_groups rfl fun cdv A outer s_ F0 H0 vs a_ r D_ E_ hr sm_ ra_ hm kr kn => ?_
    obtain ⟨v_leaves_here, _, rfl, r_leaves_here, v_path_here, _, rfl, r_path_here, v_first, _, rfl, r_first, rfl⟩ := ra_
    obtain ⟨x_leaves_here, x_path_here, x_first, _u⟩ := a_
    have G : GrX K F0 H0 F0 H0 := .refl sm_
    replace hm : m_groups (n_ + 1) x_leaves_here x_path_here x_first = some r := hm
    rw [m_groups] at hm
    have r_leaves_here : rp (α := (List (T4 Int Int (List (T2 Bool Str)) (List (T2 Int Int))))) K F0 v_leaves_here x_leaves_here := r_leaves_here
    have r_path_here : rp (α := (Tp Int)) K F0 v_path_here x_path_here := r_path_here
    have r_first : rp (α := Int) K F0 v_first x_first := r_first
    change GoS _ _ _ [some v_leaves_here, some v_path_here, some v_first, none, none, none, none, none] _
    obtain ⟨x_found, he, hm⟩ := Option.bind_eq_some_iff.mp hm
    refine go_setNA ((List (T4 (Tp Int) Int Int Bool))) 3 G.sm (en_list el_nil (Nat.zero_le _)) (fun l_found vs_ F H g nl_ fl_ hl_ rs_ => ?_) sc_groups.nd
    have n0_ := G.hh.free nl_
    have G := G.trans g
    have r_leaves_here := Rp.mono g.ff r_leaves_here
    have r_path_here := Rp.mono g.ff r_path_here
    have r_first := Rp.mono g.ff r_first
    have o_found : Own K _ F H l_found _ := Own.cg (Option.some.inj he) ⟨n0_, fl_, vs_, hl_, rs_⟩
    change GoS _ _ _ [some v_leaves_here, some v_path_here, some v_first, some (.ref l_found), none, none, none, none] _
    obtain ⟨x_at_here, he, hm⟩ := Option.bind_eq_some_iff.mp hm
    refine go_setA (Int) 4 G.sm ev_int (fun v_at_here F H g rn_ => ?_) sc_groups.nd
    have G := G.trans g
    have r_leaves_here := Rp.mono g.ff r_leaves_here
    have r_path_here := Rp.mono g.ff r_path_here
    have r_first := Rp.mono g.ff r_first
    have o_found := o_found.up g
    have r_at_here := cg (Option.some.inj he) rn_
    change GoS _ _ _ [some v_leaves_here, some v_path_here, some v_first, some (.ref l_found), some v_at_here, none, none, none] _
    obtain ⟨x_many, he, hm⟩ := Option.bind_eq_some_iff.mp hm
    refine go_setA (Int) 5 G.sm ev_int (fun v_many F H g rn_ => ?_) sc_groups.nd
    have G := G.trans g
    have r_leaves_here := Rp.mono g.ff r_leaves_here
    have r_path_here := Rp.mono g.ff r_path_here
    have r_first := Rp.mono g.ff r_first
    have o_found := o_found.up g
    have r_at_here := Rp.mono g.ff r_at_here
    have r_many := cg (Option.some.inj he) rn_
    change GoS _ _ _ [some v_leaves_here, some v_path_here, some v_first, some (.ref l_found), some v_at_here, some v_many, none, none] _
    obtain ⟨b18, ho_, hm⟩ := Option.bind_eq_some_iff.mp hm
    refine go_whileN (b0 := (x_found, x_many, x_at_here)) (fun (b1 : ((List (T4 (Tp Int) Int Int Bool)) × Int × Int)) σ_ F_ H_ => ∃ (u_upto : Option V) (u_here : Option V) (v_many : V) (v_at_here : V), σ_ = [some v_leaves_here, some v_path_here, some v_first, some (.ref l_found), some v_at_here, some v_many, u_upto, u_here] ∧ GrX K F0 H0 F_ H_ ∧ Own K H0 F_ H_ l_found b1.1 ∧ rp (α := Int) K F_ v_many b1.2.1 ∧ rp (α := Int) K F_ v_at_here b1.2.2) G.sm ⟨_, _, _, _, rfl, G, o_found, r_many, r_at_here⟩ ho_ ?_ ?_ ?_ PassesOwn.never
    ·
      intro b1 t_ hm σ_ F H s1_ s2_ iv_
      obtain ⟨u_upto, u_here, v_many, v_at_here, rfl, G, o_found, r_many, r_at_here⟩ := iv_
      have r_leaves_here := Rp.mono s1_ r_leaves_here
      have r_path_here := Rp.mono s1_ r_path_here
      have r_first := Rp.mono s1_ r_first
      refine ⟨G.sm, EvT.cg (Option.some.inj hm) (et_cmp op_lt o2_lt (ev_varK 4 rfl r_at_here kv_groups_4) (ev_callB call_len_seq oc_lenL T.n_len PySem.boot_len (ea_cons (ev_varK 0 rfl r_leaves_here kv_groups_0) ea_nil)) (nomark _)), fun F H g => ?_⟩
      have G := G.trans g
      have o_found := o_found.up g
      have r_many := Rp.mono g.ff r_many
      have r_at_here := Rp.mono g.ff r_at_here
      exact ⟨_, _, _, _, rfl, G, o_found, r_many, r_at_here⟩
    ·
      intro b1 o_ hm σ_ F H s1_ s2_ iv_
      obtain ⟨u_upto, u_here, v_many, v_at_here, rfl, G, o_found, r_many, r_at_here⟩ := iv_
      have sb3 := L2.Same.refl F
      have r_leaves_here := Rp.mono s1_ r_leaves_here
      have r_path_here := Rp.mono s1_ r_path_here
      have r_first := Rp.mono s1_ r_first
      change GoS _ _ _ [some v_leaves_here, some v_path_here, some v_first, some (.ref l_found), some v_at_here, some v_many, u_upto, u_here] _
      obtain ⟨x_upto, he, hm⟩ := Option.bind_eq_some_iff.mp hm
      refine go_setA (Int) 6 G.sm (ev_add (ev_varK 4 rfl r_at_here kv_groups_4) ev_int) (fun v_upto F H g rn_ => ?_) sc_groups.nd
      have G := G.trans g
      have r_leaves_here := Rp.mono g.ff r_leaves_here
      have r_path_here := Rp.mono g.ff r_path_here
      have r_first := Rp.mono g.ff r_first
      have o_found := o_found.up g
      have r_at_here := Rp.mono g.ff r_at_here
      have r_many := Rp.mono g.ff r_many
      have sb3 := sb3.trans g.ff
      have r_upto := cg (Option.some.inj he) rn_
      change GoS _ _ _ [some v_leaves_here, some v_path_here, some v_first, some (.ref l_found), some v_at_here, some v_many, some v_upto, u_here] _
      obtain ⟨t4, h_t4, hm⟩ := Option.bind_eq_some_iff.mp hm
      obtain ⟨x_here, he, hm⟩ := Option.bind_eq_some_iff.mp hm
      refine go_setA ((Tp Int)) 7 G.sm (ev_catT (ev_varK 1 rfl r_path_here kv_groups_1) (ev_tp (el_cons (ev_varK 5 rfl r_many kv_groups_5) el_nil) (by show 1 ≤ sizeLine; decide)) h_t4) (fun v_here F H g rn_ => ?_) sc_groups.nd
      have G := G.trans g
      have r_leaves_here := Rp.mono g.ff r_leaves_here
      have r_path_here := Rp.mono g.ff r_path_here
      have r_first := Rp.mono g.ff r_first
      have o_found := o_found.up g
      have r_at_here := Rp.mono g.ff r_at_here
      have r_many := Rp.mono g.ff r_many
      have r_upto := Rp.mono g.ff r_upto
      have sb3 := sb3.trans g.ff
      have r_here := cg (Option.some.inj he) rn_
      change GoS _ _ _ [some v_leaves_here, some v_path_here, some v_first, some (.ref l_found), some v_at_here, some v_many, some v_upto, some v_here] _
      obtain ⟨t5, h_t5, hm⟩ := Option.bind_eq_some_iff.mp hm
      obtain ⟨b6, hj, hm⟩ := Option.bind_eq_some_iff.mp hm
      refine go_ifjA ((decide ((t5.c.length : Int) = (x_path_here.l.length : Int)))) (fun σ_ H_ => ∃ (F_ : Hp) (v_upto : V), L2.Same F F_ ∧ σ_ = [some v_leaves_here, some v_path_here, some v_first, some (.ref l_found), some v_at_here, some v_many, some v_upto, some v_here] ∧ GrX K F0 H0 F_ H_ ∧ Own K H0 F_ H_ l_found b6.1 ∧ rp (α := Int) K F_ v_upto b6.2) G.sm (et_cmp op_eq o2_eq (ev_callB call_len_seq oc_lenL T.n_len PySem.boot_len (ea_cons (ev_ixT (ev_ixL (ev_varK 0 rfl r_leaves_here kv_groups_0) (ev_varK 4 rfl r_at_here kv_groups_4) h_t5) ev_int pj2) ea_nil)) (ev_callB call_len_seq oc_lenTp T.n_len PySem.boot_len (ea_cons (ev_varK 1 rfl r_path_here kv_groups_1) ea_nil)) (nomark _)) (fun hc F H g => ?_) (fun hc F H g => ?_) (fun σ_ H hP_ => ?_)
      · replace hj := ipos hc hj
        clear hm
        have hm := hj
        clear hj
        have G := G.trans g
        have r_leaves_here := Rp.mono g.ff r_leaves_here
        have r_path_here := Rp.mono g.ff r_path_here
        have r_first := Rp.mono g.ff r_first
        have o_found := o_found.up g
        have r_at_here := Rp.mono g.ff r_at_here
        have r_many := Rp.mono g.ff r_many
        have r_upto := Rp.mono g.ff r_upto
        have r_here := Rp.mono g.ff r_here
        have sb3 := sb3.trans g.ff
        have sj7 := g.ff
        obtain ⟨t8, he, hm⟩ := Option.bind_eq_some_iff.mp hm
        refine go_append 3 G.sm o_found rfl (ev_tup4 (ea_cons (ev_varK 7 rfl r_here kv_groups_7) (ea_cons (ev_add (ev_varK 2 rfl r_first kv_groups_2) (ev_varK 4 rfl r_at_here kv_groups_4)) (ea_cons (ev_add (ev_varK 2 rfl r_first kv_groups_2) (ev_varK 6 rfl r_upto kv_groups_6)) (ea_cons ev_bl ea_nil))))) he (fun w_ F H g nz_ fz_ on_ => ?_)
        have G := G.trans g
        have r_leaves_here := Rp.mono g.ff r_leaves_here
        have r_first := Rp.mono g.ff r_first
        have r_at_here := Rp.mono g.ff r_at_here
        have r_many := Rp.mono g.ff r_many
        have r_upto := Rp.mono g.ff r_upto
        have r_here := Rp.mono g.ff r_here
        have sb3 := sb3.trans g.ff
        have sj7 := sj7.trans g.ff
        have G := G.poke (u := w_) on_.n fz_ nz_ on_.pl
        have o_found := on_
        have hm := Option.some.inj hm
        subst hm
        exact GoS.nil ⟨_, _, sj7, rfl, G, o_found, r_upto⟩
      · replace hj := ineg (nt hc) hj
        clear hm
        have hm := hj
        clear hj
        have G := G.trans g
        have r_leaves_here := Rp.mono g.ff r_leaves_here
        have r_path_here := Rp.mono g.ff r_path_here
        have r_first := Rp.mono g.ff r_first
        have o_found := o_found.up g
        have r_at_here := Rp.mono g.ff r_at_here
        have r_many := Rp.mono g.ff r_many
        have r_upto := Rp.mono g.ff r_upto
        have r_here := Rp.mono g.ff r_here
        have sb3 := sb3.trans g.ff
        have sj7 := g.ff
        obtain ⟨b14, ho_, hm⟩ := Option.bind_eq_some_iff.mp hm
        refine go_whileN (b0 := x_upto) (fun (b9 : Int) σ_ F_ H_ => ∃ (v_upto : V), σ_ = [some v_leaves_here, some v_path_here, some v_first, some (.ref l_found), some v_at_here, some v_many, some v_upto, some v_here] ∧ GrX K F0 H0 F_ H_ ∧ rp (α := Int) K F_ v_upto b9 ∧ Own K H0 F_ H_ l_found b1.1) G.sm ⟨_, rfl, G, r_upto, o_found⟩ ho_ ?_ ?_ ?_ PassesOwn.never
        ·
          intro b9 t_ hm σ_ F H s1_ s2_ iv_
          obtain ⟨v_upto, rfl, G, r_upto, o_found⟩ := iv_
          have r_leaves_here := Rp.mono s1_ r_leaves_here
          have r_path_here := Rp.mono s1_ r_path_here
          obtain ⟨t13, h_t13, hm⟩ := Option.bind_eq_some_iff.mp hm
          refine ⟨G.sm, EvT.cg (Option.some.inj hm) (EvW.t (ew_andA ((decide (b9 < (x_leaves_here.length : Int)))) (et_cmp op_lt o2_lt (ev_varK 6 rfl r_upto kv_groups_6) (ev_callB call_len_seq oc_lenL T.n_len PySem.boot_len (ea_cons (ev_varK 0 rfl r_leaves_here kv_groups_0) ea_nil)) (nomark _)) (fun hc => by
                  replace h_t13 := ipos hc h_t13
                  obtain ⟨t12, h_t12, h_t13⟩ := Option.bind_eq_some_iff.mp h_t13
                  exact EvW.cg (Option.some.inj h_t13) (ew_and1 (et_cmp op_gt o2_gt (ev_ixT (ev_ixL (ev_varK 0 rfl r_leaves_here kv_groups_0) (ev_varK 6 rfl r_upto kv_groups_6) h_t12) ev_int pj1) (ev_callB call_len_seq oc_lenTp T.n_len PySem.boot_len (ea_cons (ev_varK 1 rfl r_path_here kv_groups_1) ea_nil)) (nomark _)))) (fun hc => by replace h_t13 := ineg (nt hc) h_t13; exact (Option.some.inj h_t13).symm))), fun F H g => ?_⟩
          have G := G.trans g
          have r_upto := Rp.mono g.ff r_upto
          have o_found := o_found.up g
          exact ⟨_, rfl, G, r_upto, o_found⟩
        ·
          intro b9 o_ hm σ_ F H s1_ s2_ iv_
          obtain ⟨v_upto, rfl, G, r_upto, o_found⟩ := iv_
          have sb11 := L2.Same.refl F
          have r_leaves_here := Rp.mono s1_ r_leaves_here
          have r_path_here := Rp.mono s1_ r_path_here
          obtain ⟨x_upto, he, hm⟩ := Option.bind_eq_some_iff.mp hm
          refine go_setA (Int) 6 G.sm (ev_add (ev_varK 6 rfl r_upto kv_groups_6) ev_int) (fun v_upto F H g rn_ => ?_) sc_groups.nd
          have G := G.trans g
          have r_leaves_here := Rp.mono g.ff r_leaves_here
          have r_path_here := Rp.mono g.ff r_path_here
          have o_found := o_found.up g
          have sb11 := sb11.trans g.ff
          have r_upto := cg (Option.some.inj he) rn_
          have hm := Option.some.inj hm
          subst hm
          exact GoS.nil ⟨_, sb11, G.fh, ⟨_, rfl, G, r_upto, o_found⟩⟩
        · intro σ_ F H s1_ s2_ iv_
          obtain ⟨v_upto, rfl, G, r_upto, o_found⟩ := iv_
          have sb3 := sb3.trans s1_
          have sj7 := sj7.trans s1_
          have r_leaves_here := Rp.mono s1_ r_leaves_here
          have r_first := Rp.mono s1_ r_first
          have r_at_here := Rp.mono s1_ r_at_here
          have r_many := Rp.mono s1_ r_many
          have r_here := Rp.mono s1_ r_here
          obtain ⟨t15, he, hm⟩ := Option.bind_eq_some_iff.mp hm
          refine go_append 3 G.sm o_found rfl (ev_tup4 (ea_cons (ev_varK 7 rfl r_here kv_groups_7) (ea_cons (ev_add (ev_varK 2 rfl r_first kv_groups_2) (ev_varK 4 rfl r_at_here kv_groups_4)) (ea_cons (ev_add (ev_varK 2 rfl r_first kv_groups_2) (ev_varK 6 rfl r_upto kv_groups_6)) (ea_cons ev_bl ea_nil))))) he (fun w_ F H g nz_ fz_ on_ => ?_)
          have G := G.trans g
          have r_leaves_here := Rp.mono g.ff r_leaves_here
          have r_first := Rp.mono g.ff r_first
          have r_at_here := Rp.mono g.ff r_at_here
          have r_many := Rp.mono g.ff r_many
          have r_upto := Rp.mono g.ff r_upto
          have r_here := Rp.mono g.ff r_here
          have sb3 := sb3.trans g.ff
          have sj7 := sj7.trans g.ff
          have G := G.poke (u := w_) on_.n fz_ nz_ on_.pl
          have o_found := on_
          obtain ⟨t16, h_t16, hm⟩ := Option.bind_eq_some_iff.mp hm
          obtain ⟨t17, h_t17, hm⟩ := Option.bind_eq_some_iff.mp hm
          refine go_exprM (ρ := Unit) (β := (List (T4 (Tp Int) Int Int Bool))) G.sm (em_extend 3 o_found rfl (ev_call ih_ (hr.mono (by omega)) T.g_groups T.F_groups.kp (b_groups T) (ea_cons (EvN.evA ((List (T4 Int Int (List (T2 Bool Str)) (List (T2 Int Int))))) (en_slice (ev_varK 0 rfl r_leaves_here kv_groups_0) (eo_some (ev_varK 4 rfl r_at_here kv_groups_4)) (eo_some (ev_varK 6 rfl r_upto kv_groups_6)))) (ea_cons (ev_varK 7 rfl r_here kv_groups_7) (ea_cons (ev_add (ev_varK 2 rfl r_first kv_groups_2) (ev_varK 4 rfl r_at_here kv_groups_4)) ea_nil))) h_t16 gl_groups_groups) h_t17) (fun F H ob_ g fl_ hl_ rb_ => ?_)
          have Gm_ := G.over o_found.n g o_found.pl
          have r_leaves_here := Rp.mono g.ff r_leaves_here
          have r_first := Rp.mono g.ff r_first
          have r_at_here := Rp.mono g.ff r_at_here
          have r_many := Rp.mono g.ff r_many
          have r_upto := Rp.mono g.ff r_upto
          have r_here := Rp.mono g.ff r_here
          have sb3 := sb3.trans g.ff
          have sj7 := sj7.trans g.ff
          have G := Gm_
          have o_found := Own.mk' o_found.n fl_ hl_ rb_
          have hm := Option.some.inj hm
          subst hm
          exact GoS.nil ⟨_, _, sj7, rfl, G, o_found, r_upto⟩
      obtain ⟨F, v_upto, sj_, rfl, G, o_found, r_upto⟩ := hP_
      have r_leaves_here := Rp.mono sj_ r_leaves_here
      have r_at_here := Rp.mono sj_ r_at_here
      have r_many := Rp.mono sj_ r_many
      have sb3 := sb3.trans sj_
      obtain ⟨x_many, he, hm⟩ := Option.bind_eq_some_iff.mp hm
      refine go_setA (Int) 5 G.sm (ev_add (ev_varK 5 rfl r_many kv_groups_5) ev_int) (fun v_many F H g rn_ => ?_) sc_groups.nd
      have G := G.trans g
      have r_leaves_here := Rp.mono g.ff r_leaves_here
      have o_found := o_found.up g
      have r_at_here := Rp.mono g.ff r_at_here
      have r_upto := Rp.mono g.ff r_upto
      have sb3 := sb3.trans g.ff
      have r_many := cg (Option.some.inj he) rn_
      obtain ⟨x_at_here, he, hm⟩ := Option.bind_eq_some_iff.mp hm
      refine go_setA (Int) 4 G.sm (ev_varK 6 rfl r_upto kv_groups_6) (fun v_at_here F H g rn_ => ?_) sc_groups.nd
      have G := G.trans g
      have r_leaves_here := Rp.mono g.ff r_leaves_here
      have o_found := o_found.up g
      have r_many := Rp.mono g.ff r_many
      have r_upto := Rp.mono g.ff r_upto
      have sb3 := sb3.trans g.ff
      have r_at_here := cg (Option.some.inj he) rn_
      have hm := Option.some.inj hm
      subst hm
      exact GoS.nil ⟨_, sb3, G.fh, ⟨_, _, _, _, rfl, G, o_found, r_many, r_at_here⟩⟩
    · intro σ_ F H s1_ s2_ iv_
      obtain ⟨u_upto, u_here, v_many, v_at_here, rfl, G, o_found, r_many, r_at_here⟩ := iv_
      refine o_found.freeze G (fun F H s_ s2_ G r_found k_ => ?_)
      exact go_ret G.sm (ev_varK 3 rfl r_found kv_groups_3) fun v_ F_ H_ g_ rv_ => kr _ _ _ (G.trans g_) (cg (Option.some.inj hm) rv_)
/-! path -/
theorem sc_path : FnScope ["_law_groups_here", "_law_fit", "_law_cell", "_law_way", "_law_path_here", "_law_at_here"] ["_law_groups_here", "_law_fit", "_law_cell", "_law_way"] (defScope s_path) := ⟨rfl, rfl, rfl, by decide +kernel, rfl, by decide +kernel, by decide +kernel⟩
theorem b_path (T : TxB K mg base) : Binds K T.d_path ["_law_groups_here", "_law_fit", "_law_cell", "_law_way"] [] := T.F_path.bindsN fun _ _ _ _ _ _ us hl => match us, hl with | [_, _, _, _], _ => rfl
theorem kv_path_0 : VKn (defScope s_path) "_law_groups_here" := ⟨by first | exact Or.inl (by decide +kernel) | exact Or.inr (Or.inl (by decide +kernel)) | exact Or.inr (Or.inr (by decide +kernel)), by decide, by decide⟩
theorem kv_path_1 : VKn (defScope s_path) "_law_fit" := ⟨by first | exact Or.inl (by decide +kernel) | exact Or.inr (Or.inl (by decide +kernel)) | exact Or.inr (Or.inr (by decide +kernel)), by decide, by decide⟩
theorem kv_path_2 : VKn (defScope s_path) "_law_cell" := ⟨by first | exact Or.inl (by decide +kernel) | exact Or.inr (Or.inl (by decide +kernel)) | exact Or.inr (Or.inr (by decide +kernel)), by decide, by decide⟩
theorem kv_path_3 : VKn (defScope s_path) "_law_way" := ⟨by first | exact Or.inl (by decide +kernel) | exact Or.inr (Or.inl (by decide +kernel)) | exact Or.inr (Or.inr (by decide +kernel)), by decide, by decide⟩
theorem kv_path_4 : VKn (defScope s_path) "_law_path_here" := ⟨by first | exact Or.inl (by decide +kernel) | exact Or.inr (Or.inl (by decide +kernel)) | exact Or.inr (Or.inr (by decide +kernel)), by decide, by decide⟩
theorem kv_path_5 : VKn (defScope s_path) "_law_at_here" := ⟨by first | exact Or.inl (by decide +kernel) | exact Or.inr (Or.inl (by decide +kernel)) | exact Or.inr (Or.inr (by decide +kernel)), by decide, by decide⟩
theorem ok_path (T : TxB K mg base) : FnOk P w K mg base CX0 1 (He.fAd K ("_law_path", none)) T.d_path ["_law_groups_here", "_law_fit", "_law_cell", "_law_way"] (Pr K fun (a_ : (List (T4 (Tp Int) Int Int Bool)) × (List (T4 (Tp Int) Int Int Bool)) × Int × Int × Unit) => m_path a_.1 a_.2.1 a_.2.2.1 a_.2.2.2.1) := by
  refine fn_ok T.F_path sc_path rfl fun cdv A outer s_ F0 H0 vs a_ r D_ E_ hr sm_ ra_ hm kr kn => ?_
  obtain ⟨v_groups_here, _, rfl, r_groups_here, v_fit, _, rfl, r_fit, v_cell, _, rfl, r_cell, v_way, _, rfl, r_way, rfl⟩ := ra_
  obtain ⟨x_groups_here, x_fit, x_cell, x_way, _u⟩ := a_
  have G : GrX K F0 H0 F0 H0 := .refl sm_
  replace hm : m_path x_groups_here x_fit x_cell x_way = some r := hm
  unfold m_path at hm
  have r_groups_here : rp (α := (List (T4 (Tp Int) Int Int Bool))) K F0 v_groups_here x_groups_here := r_groups_here
  have r_fit : rp (α := (List (T4 (Tp Int) Int Int Bool))) K F0 v_fit x_fit := r_fit
  have r_cell : rp (α := Int) K F0 v_cell x_cell := r_cell
  have r_way : rp (α := Int) K F0 v_way x_way := r_way
  change GoS _ _ _ [some v_groups_here, some v_fit, some v_cell, some v_way, none, none] _
  obtain ⟨t1, h_t1, hm⟩ := Option.bind_eq_some_iff.mp hm
  obtain ⟨t2, h_t2, hm⟩ := Option.bind_eq_some_iff.mp hm
  obtain ⟨x_path_here, he, hm⟩ := Option.bind_eq_some_iff.mp hm
  refine go_setA ((Tp Int)) 4 G.sm (ev_ixT (ev_ixL (ev_varK 0 rfl r_groups_here kv_path_0) (ev_modG (ev_varK 2 rfl r_cell kv_path_2) (ev_callB call_len_seq oc_lenL T.n_len PySem.boot_len (ea_cons (ev_varK 0 rfl r_groups_here kv_path_0) ea_nil)) h_t1) h_t2) ev_int pj0) (fun v_path_here F H g rn_ => ?_) sc_path.nd
  have G := G.trans g
  have r_groups_here := Rp.mono g.ff r_groups_here
  have r_fit := Rp.mono g.ff r_fit
  have r_cell := Rp.mono g.ff r_cell
  have r_way := Rp.mono g.ff r_way
  have r_path_here := cg (Option.some.inj he) rn_
  change GoS _ _ _ [some v_groups_here, some v_fit, some v_cell, some v_way, some v_path_here, none] _
  obtain ⟨b3, hj, hm⟩ := Option.bind_eq_some_iff.mp hm
  refine go_ifjA (((decide ((x_way % (8 : Int)) ∈ (Tp.mk ([(0 : Int), (2 : Int), (4 : Int)] : List Int)).l)) && (!x_fit.isEmpty))) (fun σ_ H_ => ∃ (F_ : Hp) (v_path_here : V), L2.Same F F_ ∧ σ_ = [some v_groups_here, some v_fit, some v_cell, some v_way, some v_path_here, none] ∧ GrX K F0 H0 F_ H_ ∧ rp (α := (Tp Int)) K F_ v_path_here b3) G.sm (EvW.t (ew_andP (et_cmp op_in_seq o2_inT (ev_mod (ev_varK 3 rfl r_way kv_path_3) ev_int (by decide)) (ev_tp (el_int (el_int (el_int el_nil))) (by show 3 ≤ sizeLine; decide)) rfl) (ew_and1 (et_cmp (op_neE hr.units0) o2_neEL (ev_varK 1 rfl r_fit kv_path_1) (EvN.evA ((List (T4 (Tp Int) Int Int Bool))) (en_list el_nil (Nat.zero_le _))) (nomark _))))) (fun hc F H g => ?_) (fun hc F H g => ?_) (fun σ_ H hP_ => ?_)
  · replace hj := ipos hc hj
    clear hm
    have hm := hj
    clear hj
    have G := G.trans g
    have r_fit := Rp.mono g.ff r_fit
    have r_cell := Rp.mono g.ff r_cell
    have r_way := Rp.mono g.ff r_way
    have r_path_here := Rp.mono g.ff r_path_here
    have sj4 := g.ff
    obtain ⟨t5, h_t5, hm⟩ := Option.bind_eq_some_iff.mp hm
    obtain ⟨t6, h_t6, hm⟩ := Option.bind_eq_some_iff.mp hm
    obtain ⟨x_path_here, he, hm⟩ := Option.bind_eq_some_iff.mp hm
    refine go_setA ((Tp Int)) 4 G.sm (ev_ixT (ev_ixL (ev_varK 1 rfl r_fit kv_path_1) (ev_modG (ev_varK 2 rfl r_cell kv_path_2) (ev_callB call_len_seq oc_lenL T.n_len PySem.boot_len (ea_cons (ev_varK 1 rfl r_fit kv_path_1) ea_nil)) h_t5) h_t6) ev_int pj0) (fun v_path_here F H g rn_ => ?_) sc_path.nd
    have G := G.trans g
    have r_fit := Rp.mono g.ff r_fit
    have r_cell := Rp.mono g.ff r_cell
    have r_way := Rp.mono g.ff r_way
    have sj4 := sj4.trans g.ff
    have r_path_here := cg (Option.some.inj he) rn_
    have hm := Option.some.inj hm
    subst hm
    exact GoS.nil ⟨_, _, sj4, rfl, G, r_path_here⟩
  · replace hj := ineg (nt hc) hj
    clear hm
    have hm := hj
    clear hj
    have G := G.trans g
    have r_fit := Rp.mono g.ff r_fit
    have r_cell := Rp.mono g.ff r_cell
    have r_way := Rp.mono g.ff r_way
    have r_path_here := Rp.mono g.ff r_path_here
    have sj4 := g.ff
    have hm := Option.some.inj hm
    subst hm
    exact GoS.nil ⟨_, _, sj4, rfl, G, r_path_here⟩
  obtain ⟨F, v_path_here, sj_, rfl, G, r_path_here⟩ := hP_
  have r_cell := Rp.mono sj_ r_cell
  have r_way := Rp.mono sj_ r_way
  obtain ⟨t7, h_t7, hm⟩ := Option.bind_eq_some_iff.mp hm
  obtain ⟨x_at_here, he, hm⟩ := Option.bind_eq_some_iff.mp hm
  refine go_setA (Int) 5 G.sm (ev_modG (ev_div (ev_varK 2 rfl r_cell kv_path_2) ev_int ⟨by decide, by decide⟩) (ev_callB call_len_seq oc_lenTp T.n_len PySem.boot_len (ea_cons (ev_varK 4 rfl r_path_here kv_path_4) ea_nil)) h_t7) (fun v_at_here F H g rn_ => ?_) sc_path.nd
  have G := G.trans g
  have r_cell := Rp.mono g.ff r_cell
  have r_way := Rp.mono g.ff r_way
  have r_path_here := Rp.mono g.ff r_path_here
  have r_at_here := cg (Option.some.inj he) rn_
  change GoS _ _ _ [some v_groups_here, some v_fit, some v_cell, some v_way, some v_path_here, some v_at_here] _
  refine go_ifA ((decide ((x_way % (8 : Int)) = (1 : Int)))) G.sm (et_cmp op_eq o2_eq (ev_mod (ev_varK 3 rfl r_way kv_path_3) ev_int (by decide)) ev_int (nomark _)) (fun hc F H g => ?_) (fun hc F H g => ?_)
  · replace hm := ipos hc hm
    have G := G.trans g
    have r_cell := Rp.mono g.ff r_cell
    have r_way := Rp.mono g.ff r_way
    have r_path_here := Rp.mono g.ff r_path_here
    have r_at_here := Rp.mono g.ff r_at_here
    obtain ⟨t8, h_t8, hm⟩ := Option.bind_eq_some_iff.mp hm
    obtain ⟨t9, h_t9, hm⟩ := Option.bind_eq_some_iff.mp hm
    exact go_ret G.sm (ev_catT (ev_sliceT (ev_varK 4 rfl r_path_here kv_path_4) eo_none (eo_some (ev_neg ev_int))) (ev_tp (el_cons (ev_add (ev_ixTp (ev_varK 4 rfl r_path_here kv_path_4) (ev_neg ev_int) h_t8) ev_int) el_nil) (by show 1 ≤ sizeLine; decide)) h_t9) fun v_ F_ H_ g_ rv_ => kr _ _ _ (G.trans g_) (cg (Option.some.inj hm) rv_)
  · replace hm := ineg (nt hc) hm
    have G := G.trans g
    have r_cell := Rp.mono g.ff r_cell
    have r_way := Rp.mono g.ff r_way
    have r_path_here := Rp.mono g.ff r_path_here
    have r_at_here := Rp.mono g.ff r_at_here
    refine GoS.nil ?_
    refine go_ifA ((decide ((x_way % (8 : Int)) = (3 : Int)))) G.sm (et_cmp op_eq o2_eq (ev_mod (ev_varK 3 rfl r_way kv_path_3) ev_int (by decide)) ev_int (nomark _)) (fun hc F H g => ?_) (fun hc F H g => ?_)
    · replace hm := ipos hc hm
      have G := G.trans g
      have r_cell := Rp.mono g.ff r_cell
      have r_way := Rp.mono g.ff r_way
      have r_path_here := Rp.mono g.ff r_path_here
      have r_at_here := Rp.mono g.ff r_at_here
      obtain ⟨t10, h_t10, hm⟩ := Option.bind_eq_some_iff.mp hm
      obtain ⟨t11, h_t11, hm⟩ := Option.bind_eq_some_iff.mp hm
      exact go_ret G.sm (ev_catT (ev_catT (ev_sliceT (ev_varK 4 rfl r_path_here kv_path_4) eo_none (eo_some (ev_varK 5 rfl r_at_here kv_path_5))) (ev_tp (el_cons (ev_sub (ev_sub ev_int ev_int) (ev_mod (ev_varK 2 rfl r_cell kv_path_2) ev_int (by decide))) el_nil) (by show 1 ≤ sizeLine; decide)) h_t10) (ev_sliceT (ev_varK 4 rfl r_path_here kv_path_4) (eo_some (ev_add (ev_varK 5 rfl r_at_here kv_path_5) ev_int)) eo_none) h_t11) fun v_ F_ H_ g_ rv_ => kr _ _ _ (G.trans g_) (cg (Option.some.inj hm) rv_)
    · replace hm := ineg (nt hc) hm
      have G := G.trans g
      have r_cell := Rp.mono g.ff r_cell
      have r_way := Rp.mono g.ff r_way
      have r_path_here := Rp.mono g.ff r_path_here
      have r_at_here := Rp.mono g.ff r_at_here
      refine GoS.nil ?_
      refine go_ifA ((decide ((x_way % (8 : Int)) = (5 : Int)))) G.sm (et_cmp op_eq o2_eq (ev_mod (ev_varK 3 rfl r_way kv_path_3) ev_int (by decide)) ev_int (nomark _)) (fun hc F H g => ?_) (fun hc F H g => ?_)
      · replace hm := ipos hc hm
        have G := G.trans g
        have r_cell := Rp.mono g.ff r_cell
        have r_way := Rp.mono g.ff r_way
        have r_path_here := Rp.mono g.ff r_path_here
        have r_at_here := Rp.mono g.ff r_at_here
        obtain ⟨t12, h_t12, hm⟩ := Option.bind_eq_some_iff.mp hm
        exact go_ret G.sm (ev_catT (ev_varK 4 rfl r_path_here kv_path_4) (ev_tp (el_cons (ev_mod (ev_varK 2 rfl r_cell kv_path_2) ev_int (by decide)) el_nil) (by show 1 ≤ sizeLine; decide)) h_t12) fun v_ F_ H_ g_ rv_ => kr _ _ _ (G.trans g_) (cg (Option.some.inj hm) rv_)
      · replace hm := ineg (nt hc) hm
        have G := G.trans g
        have r_cell := Rp.mono g.ff r_cell
        have r_way := Rp.mono g.ff r_way
        have r_path_here := Rp.mono g.ff r_path_here
        have r_at_here := Rp.mono g.ff r_at_here
        refine GoS.nil ?_
        refine go_ifA ((decide ((x_way % (8 : Int)) = (7 : Int)))) G.sm (et_cmp op_eq o2_eq (ev_mod (ev_varK 3 rfl r_way kv_path_3) ev_int (by decide)) ev_int (nomark _)) (fun hc F H g => ?_) (fun hc F H g => ?_)
        · replace hm := ipos hc hm
          have G := G.trans g
          have r_way := Rp.mono g.ff r_way
          have r_path_here := Rp.mono g.ff r_path_here
          have r_at_here := Rp.mono g.ff r_at_here
          obtain ⟨t13, h_t13, hm⟩ := Option.bind_eq_some_iff.mp hm
          obtain ⟨t14, h_t14, hm⟩ := Option.bind_eq_some_iff.mp hm
          obtain ⟨t15, h_t15, hm⟩ := Option.bind_eq_some_iff.mp hm
          exact go_ret G.sm (ev_catT (ev_catT (ev_sliceT (ev_varK 4 rfl r_path_here kv_path_4) eo_none (eo_some (ev_varK 5 rfl r_at_here kv_path_5))) (ev_tp (el_cons (ev_add (ev_ixTp (ev_varK 4 rfl r_path_here kv_path_4) (ev_varK 5 rfl r_at_here kv_path_5) h_t13) ev_int) el_nil) (by show 1 ≤ sizeLine; decide)) h_t14) (ev_sliceT (ev_varK 4 rfl r_path_here kv_path_4) (eo_some (ev_add (ev_varK 5 rfl r_at_here kv_path_5) ev_int)) eo_none) h_t15) fun v_ F_ H_ g_ rv_ => kr _ _ _ (G.trans g_) (cg (Option.some.inj hm) rv_)
        · replace hm := ineg (nt hc) hm
          have G := G.trans g
          have r_way := Rp.mono g.ff r_way
          have r_path_here := Rp.mono g.ff r_path_here
          have r_at_here := Rp.mono g.ff r_at_here
          refine GoS.nil ?_
          exact go_ret G.sm (ev_varK 4 rfl r_path_here kv_path_4) fun v_ F_ H_ g_ rv_ => kr _ _ _ (G.trans g_) (cg (Option.some.inj hm) rv_)
/-! at -/
theorem sc_at : FnScope ["_law_groups_here", "_law_path_here", "_law_one"] ["_law_groups_here", "_law_path_here"] (defScope s_at) := ⟨rfl, rfl, rfl, by decide +kernel, rfl, by decide +kernel, by decide +kernel⟩
theorem b_at (T : TxB K mg base) : Binds K T.d_at ["_law_groups_here", "_law_path_here"] [] := T.F_at.bindsN fun _ _ _ _ _ _ us hl => match us, hl with | [_, _], _ => rfl
theorem kv_at_0 : VKn (defScope s_at) "_law_groups_here" := ⟨by first | exact Or.inl (by decide +kernel) | exact Or.inr (Or.inl (by decide +kernel)) | exact Or.inr (Or.inr (by decide +kernel)), by decide, by decide⟩
theorem kv_at_1 : VKn (defScope s_at) "_law_path_here" := ⟨by first | exact Or.inl (by decide +kernel) | exact Or.inr (Or.inl (by decide +kernel)) | exact Or.inr (Or.inr (by decide +kernel)), by decide, by decide⟩
theorem kv_at_2 : VKn (defScope s_at) "_law_one" := ⟨by first | exact Or.inl (by decide +kernel) | exact Or.inr (Or.inl (by decide +kernel)) | exact Or.inr (Or.inr (by decide +kernel)), by decide, by decide⟩
theorem ok_at (T : TxB K mg base) : FnOk P w K mg base CX0 1 (He.fAd K ("_law_at", none)) T.d_at ["_law_groups_here", "_law_path_here"] (Pr K fun (a_ : (List (T4 (Tp Int) Int Int Bool)) × (Tp Int) × Unit) => m_at a_.1 a_.2.1) := by
  refine fn_ok T.F_at sc_at rfl fun cdv A outer s_ F0 H0 vs a_ r D_ E_ hr sm_ ra_ hm kr kn => ?_
  obtain ⟨v_groups_here, _, rfl, r_groups_here, v_path_here, _, rfl, r_path_here, rfl⟩ := ra_
  obtain ⟨x_groups_here, x_path_here, _u⟩ := a_
  have G : GrX K F0 H0 F0 H0 := .refl sm_
  replace hm : m_at x_groups_here x_path_here = some r := hm
  unfold m_at at hm
  have r_groups_here : rp (α := (List (T4 (Tp Int) Int Int Bool))) K F0 v_groups_here x_groups_here := r_groups_here
  have r_path_here : rp (α := (Tp Int)) K F0 v_path_here x_path_here := r_path_here
  change GoS _ _ _ [some v_groups_here, some v_path_here, none] _
  obtain ⟨o3, ho_, hm⟩ := Option.bind_eq_some_iff.mp hm
  refine go_forM G.sm (ei_list (ev_varK 0 rfl r_groups_here kv_at_0)) (pg_name (i := 2) sc_at.nd rfl (by first | exact Or.inl rfl | exact Or.inr rfl)) ho_ hm (fun F H g => ?_) PassesOwn.never
  have G := G.trans g
  have r_path_here := Rp.mono g.ff r_path_here
  refine ⟨fun (b1 : Unit) σ_ F_ H_ => ∃ (u_one : Option V), σ_ = [some v_groups_here, some v_path_here, u_one] ∧ GrX K F0 H0 F_ H_, fun r_ v_ H_ => ∃ F_, GrX K F0 H0 F_ H_ ∧ rp K F_ v_ r_, ⟨_, rfl, G⟩, ?_, ?_, ?_⟩
  ·
    intro b1 x_one o_ hm σ_ F H v_one s1_ s2_ iv_ F H g r_one Q_ hQ_
    obtain ⟨u_one, rfl, G⟩ := iv_
    have sb4 := g.ff
    have r_path_here := Rp.mono s1_ r_path_here
    have G := G.trans g
    have r_path_here := Rp.mono g.ff r_path_here
    refine hQ_ _ _ ?_
    change GoS _ _ _ [some v_groups_here, some v_path_here, some v_one] _
    obtain ⟨t5, h_t5, hm⟩ := Option.bind_eq_some_iff.mp hm
    refine go_ifA (t5) G.sm (et_eqD (ev_ixT (ev_varK 2 rfl r_one kv_at_2) ev_int pj0) (ev_varK 1 rfl r_path_here kv_at_1) h_t5 hr.units) (fun hc F H g => ?_) (fun hc F H g => ?_)
    · replace hm := ipos hc hm
      have G := G.trans g
      have r_path_here := Rp.mono g.ff r_path_here
      have r_one := Rp.mono g.ff r_one
      have sb4 := sb4.trans g.ff
      exact go_ret G.sm (ev_varK 2 rfl r_one kv_at_2) fun v_ F_ H_ g_ rv_ => ⟨_, (Option.some.inj hm).symm, F_, G.trans g_, rv_⟩
    · replace hm := ineg (nt hc) hm
      have G := G.trans g
      have r_path_here := Rp.mono g.ff r_path_here
      have r_one := Rp.mono g.ff r_one
      have sb4 := sb4.trans g.ff
      refine GoS.nil ?_
      exact GoS.nil ⟨_, _, (Option.some.inj hm).symm, sb4, G.fh, ⟨_, rfl, G⟩⟩
  · intro b6 hm σ_ F H s1_ s2_ iv_
    obtain ⟨u_one, rfl, G⟩ := iv_
    have r_path_here := Rp.mono s1_ r_path_here
    change GoS _ _ _ [some v_groups_here, some v_path_here, u_one] _
    exact go_ret G.sm (ev_tup4 (ea_cons (ev_varK 1 rfl r_path_here kv_at_1) (ea_cons ev_int (ea_cons ev_int (ea_cons ev_bl ea_nil))))) fun v_ F_ H_ g_ rv_ => kr _ _ _ (G.trans g_) (cg (Option.some.inj hm) rv_)
  · intro r_ he v_ H_ hv_
    obtain ⟨F_, g_, rv_⟩ := hv_
    exact kr _ _ _ g_ (cg (Option.some.inj he) rv_)
/-! item_at -/
theorem sc_item_at : FnScope ["plan", "path", "items", "found", "at"] ["plan", "path"] (defScope s_item_at) := ⟨rfl, rfl, rfl, by decide +kernel, rfl, by decide +kernel, by decide +kernel⟩
theorem b_item_at (T : TxB K mg base) : Binds K T.d_item_at ["plan", "path"] [] := T.F_item_at.bindsN fun _ _ _ _ _ _ us hl => match us, hl with | [_, _], _ => rfl
theorem kv_item_at_0 : VKn (defScope s_item_at) "plan" := ⟨by first | exact Or.inl (by decide +kernel) | exact Or.inr (Or.inl (by decide +kernel)) | exact Or.inr (Or.inr (by decide +kernel)), by decide, by decide⟩
theorem kv_item_at_1 : VKn (defScope s_item_at) "path" := ⟨by first | exact Or.inl (by decide +kernel) | exact Or.inr (Or.inl (by decide +kernel)) | exact Or.inr (Or.inr (by decide +kernel)), by decide, by decide⟩
theorem kv_item_at_2 : VKn (defScope s_item_at) "items" := ⟨by first | exact Or.inl (by decide +kernel) | exact Or.inr (Or.inl (by decide +kernel)) | exact Or.inr (Or.inr (by decide +kernel)), by decide, by decide⟩
theorem kv_item_at_3 : VKn (defScope s_item_at) "found" := ⟨by first | exact Or.inl (by decide +kernel) | exact Or.inr (Or.inl (by decide +kernel)) | exact Or.inr (Or.inr (by decide +kernel)), by decide, by decide⟩
theorem kv_item_at_4 : VKn (defScope s_item_at) "at" := ⟨by first | exact Or.inl (by decide +kernel) | exact Or.inr (Or.inl (by decide +kernel)) | exact Or.inr (Or.inr (by decide +kernel)), by decide, by decide⟩
theorem ok_item_at (T : TxB K mg base) : FnOk P w K mg base CX0 1 (He.fAd K ("item_at", none)) T.d_item_at ["plan", "path"] (Pr K fun (a_ : (Tp UItem) × (Tp Int) × Unit) => m_item_at a_.1 a_.2.1) := by
  refine fn_ok T.F_item_at sc_item_at rfl fun cdv A outer s_ F0 H0 vs a_ r D_ E_ hr sm_ ra_ hm kr kn => ?_
  obtain ⟨v_plan, _, rfl, r_plan, v_path, _, rfl, r_path, rfl⟩ := ra_
  obtain ⟨x_plan, x_path, _u⟩ := a_
  have G : GrX K F0 H0 F0 H0 := .refl sm_
  replace hm : m_item_at x_plan x_path = some r := hm
  unfold m_item_at at hm
  have r_plan : rp (α := (Tp UItem)) K F0 v_plan x_plan := r_plan
  have r_path : rp (α := (Tp Int)) K F0 v_path x_path := r_path
  change GoS _ _ _ [some v_plan, some v_path, none, none, none] _
  obtain ⟨x_items, he, hm⟩ := Option.bind_eq_some_iff.mp hm
  refine go_setA ((Tp UItem)) 2 G.sm (ev_varK 0 rfl r_plan kv_item_at_0) (fun v_items F H g rn_ => ?_) sc_item_at.nd
  have G := G.trans g
  have r_plan := Rp.mono g.ff r_plan
  have r_path := Rp.mono g.ff r_path
  have r_items := cg (Option.some.inj he) rn_
  change GoS _ _ _ [some v_plan, some v_path, some v_items, none, none] _
  obtain ⟨x_found, he, hm⟩ := Option.bind_eq_some_iff.mp hm
  refine go_setA ((Option UItem)) 3 G.sm ev_none (fun v_found F H g rn_ => ?_) sc_item_at.nd
  have G := G.trans g
  have r_path := Rp.mono g.ff r_path
  have r_items := Rp.mono g.ff r_items
  have r_found := cg (Option.some.inj he) rn_
  change GoS _ _ _ [some v_plan, some v_path, some v_items, some v_found, none] _
  obtain ⟨o3, ho_, hm⟩ := Option.bind_eq_some_iff.mp hm
  refine go_forM G.sm (ei_tp (ev_varK 1 rfl r_path kv_item_at_1)) (pg_name (i := 4) sc_item_at.nd rfl (by first | exact Or.inl rfl | exact Or.inr rfl)) ho_ hm (fun F H g => ?_) PassesOwn.never
  have G := G.trans g
  have r_items := Rp.mono g.ff r_items
  have r_found := Rp.mono g.ff r_found
  refine ⟨fun (b1 : ((Option UItem) × (Tp UItem))) σ_ F_ H_ => ∃ (u_at : Option V) (v_found : V) (v_items : V), σ_ = [some v_plan, some v_path, some v_items, some v_found, u_at] ∧ GrX K F0 H0 F_ H_ ∧ rp (α := (Option UItem)) K F_ v_found b1.1 ∧ rp (α := (Tp UItem)) K F_ v_items b1.2, fun r_ v_ H_ => ∃ F_, GrX K F0 H0 F_ H_ ∧ rp K F_ v_ r_, ⟨_, _, _, rfl, G, r_found, r_items⟩, ?_, ?_, ?_⟩
  ·
    intro b1 x_at o_ hm σ_ F H v_at s1_ s2_ iv_ F H g r_at Q_ hQ_
    obtain ⟨u_at, v_found, v_items, rfl, G, r_found, r_items⟩ := iv_
    have sb4 := g.ff
    have G := G.trans g
    have r_items := Rp.mono g.ff r_items
    have r_found := Rp.mono g.ff r_found
    refine hQ_ _ _ ?_
    change GoS _ _ _ [some v_plan, some v_path, some v_items, some v_found, some v_at] _
    refine go_ifA ((!((decide ((0 : Int) ≤ x_at)) && (decide (x_at < (b1.2.l.length : Int)))))) G.sm (et_not (et_chain op_le op_lt o2_le o2_lt ev_int (ev_varK 4 rfl r_at kv_item_at_4) (ev_callB call_len_seq oc_lenTp T.n_len PySem.boot_len (ea_cons (ev_varK 2 rfl r_items kv_item_at_2) ea_nil)))) (fun hc F H g => ?_) (fun hc F H g => ?_)
    · replace hm := ipos hc hm
      have G := G.trans g
      have r_items := Rp.mono g.ff r_items
      have r_found := Rp.mono g.ff r_found
      have r_at := Rp.mono g.ff r_at
      have sb4 := sb4.trans g.ff
      exact go_ret G.sm ev_none fun v_ F_ H_ g_ rv_ => ⟨_, (Option.some.inj hm).symm, F_, G.trans g_, rv_⟩
    · replace hm := ineg (nt hc) hm
      have G := G.trans g
      have r_items := Rp.mono g.ff r_items
      have r_found := Rp.mono g.ff r_found
      have r_at := Rp.mono g.ff r_at
      have sb4 := sb4.trans g.ff
      refine GoS.nil ?_
      obtain ⟨t5, h_t5, hm⟩ := Option.bind_eq_some_iff.mp hm
      obtain ⟨x_found, he, hm⟩ := Option.bind_eq_some_iff.mp hm
      refine go_setA ((Option UItem)) 3 G.sm (Ev.some (ev_ixTp (ev_varK 2 rfl r_items kv_item_at_2) (ev_varK 4 rfl r_at kv_item_at_4) h_t5)) (fun v_found F H g rn_ => ?_) sc_item_at.nd
      have G := G.trans g
      have r_items := Rp.mono g.ff r_items
      have r_at := Rp.mono g.ff r_at
      have sb4 := sb4.trans g.ff
      have r_found := cg (Option.some.inj he) rn_
      obtain ⟨x_items, he, hm⟩ := Option.bind_eq_some_iff.mp hm
      refine go_setA ((Tp UItem)) 2 G.sm (ev_tp el_nil (by show 0 ≤ sizeLine; decide)) (fun v_items F H g rn_ => ?_) sc_item_at.nd
      have G := G.trans g
      have r_found := Rp.mono g.ff r_found
      have sb4 := sb4.trans g.ff
      have r_items := cg (Option.some.inj he) rn_
      obtain ⟨t6, h_t6, hm⟩ := Option.bind_eq_some_iff.mp hm
      refine go_ifA ((decide (t6.tag = ("sweep" : Str)))) G.sm (et_cmp op_eq o2_eq (UItem.ev_tag (Ev.get (ev_varK 3 rfl r_found kv_item_at_3) h_t6)) ev_str (nomark _)) (fun hc F H g => ?_) (fun hc F H g => ?_)
      · replace hm := ipos hc hm
        have G := G.trans g
        have r_items := Rp.mono g.ff r_items
        have r_found := Rp.mono g.ff r_found
        have sb4 := sb4.trans g.ff
        obtain ⟨t7, h_t7, hm⟩ := Option.bind_eq_some_iff.mp hm
        obtain ⟨t8, h_t8, hm⟩ := Option.bind_eq_some_iff.mp hm
        obtain ⟨x_items, he, hm⟩ := Option.bind_eq_some_iff.mp hm
        refine go_setA ((Tp UItem)) 2 G.sm (ev_ixT (UItem.evv_sweep (Ev.get (ev_varK 3 rfl r_found kv_item_at_3) h_t7) h_t8) ev_int pj3) (fun v_items F H g rn_ => ?_) sc_item_at.nd
        have G := G.trans g
        have r_found := Rp.mono g.ff r_found
        have sb4 := sb4.trans g.ff
        have r_items := cg (Option.some.inj he) rn_
        refine GoS.nil ?_
        exact GoS.nil ⟨_, _, (Option.some.inj hm).symm, sb4, G.fh, ⟨_, _, _, rfl, G, r_found, r_items⟩⟩
      · replace hm := ineg (nt hc) hm
        have G := G.trans g
        have r_items := Rp.mono g.ff r_items
        have r_found := Rp.mono g.ff r_found
        have sb4 := sb4.trans g.ff
        refine GoS.nil ?_
        exact GoS.nil ⟨_, _, (Option.some.inj hm).symm, sb4, G.fh, ⟨_, _, _, rfl, G, r_found, r_items⟩⟩
  · intro b9 hm σ_ F H s1_ s2_ iv_
    obtain ⟨u_at, v_found, v_items, rfl, G, r_found, r_items⟩ := iv_
    change GoS _ _ _ [some v_plan, some v_path, some v_items, some v_found, u_at] _
    exact go_ret G.sm (ev_varK 3 rfl r_found kv_item_at_3) fun v_ F_ H_ g_ rv_ => kr _ _ _ (G.trans g_) (cg (Option.some.inj hm) rv_)
  · intro r_ he v_ H_ hv_
    obtain ⟨F_, g_, rv_⟩ := hv_
    exact kr _ _ _ g_ (cg (Option.some.inj he) rv_)
/-! sweep_at -/
theorem sc_sweep_at : FnScope ["plan", "path", "found"] ["plan", "path"] (defScope s_sweep_at) := ⟨rfl, rfl, rfl, by decide +kernel, rfl, by decide +kernel, by decide +kernel⟩
theorem b_sweep_at (T : TxB K mg base) : Binds K T.d_sweep_at ["plan", "path"] [] := T.F_sweep_at.bindsN fun _ _ _ _ _ _ us hl => match us, hl with | [_, _], _ => rfl
theorem kv_sweep_at_0 : VKn (defScope s_sweep_at) "plan" := ⟨by first | exact Or.inl (by decide +kernel) | exact Or.inr (Or.inl (by decide +kernel)) | exact Or.inr (Or.inr (by decide +kernel)), by decide, by decide⟩
theorem kv_sweep_at_1 : VKn (defScope s_sweep_at) "path" := ⟨by first | exact Or.inl (by decide +kernel) | exact Or.inr (Or.inl (by decide +kernel)) | exact Or.inr (Or.inr (by decide +kernel)), by decide, by decide⟩
theorem kv_sweep_at_2 : VKn (defScope s_sweep_at) "found" := ⟨by first | exact Or.inl (by decide +kernel) | exact Or.inr (Or.inl (by decide +kernel)) | exact Or.inr (Or.inr (by decide +kernel)), by decide, by decide⟩
theorem gl_sweep_at_item_at : (defScope s_sweep_at).names.lookup ("item_at" : Str) = some NameKind.globalImplicit := by decide +kernel
theorem ok_sweep_at (T : TxB K mg base) : FnOk P w K mg base (L2.CX P w) 2 (He.fAd K ("sweep_at", none)) T.d_sweep_at ["plan", "path"] (PrE K fun (a_ : (Tp UItem) × (Tp Int) × Unit) => m_sweep_at a_.1 a_.2.1) := by
  refine fn_okX T.F_sweep_at sc_sweep_at rfl fun cdv A outer s_ F0 H0 vs a_ r D_ E_ hr sm_ ra_ hm kr kn kx tk_ po_ => ?_
  obtain ⟨v_plan, _, rfl, r_plan, v_path, _, rfl, r_path, rfl⟩ := ra_
  obtain ⟨x_plan, x_path, _u⟩ := a_
  have G : GrX K F0 H0 F0 H0 := .refl sm_
  replace hm : m_sweep_at x_plan x_path = some r := hm
  unfold m_sweep_at at hm
  have r_plan : rp (α := (Tp UItem)) K F0 v_plan x_plan := r_plan
  have r_path : rp (α := (Tp Int)) K F0 v_path x_path := r_path
  change GoS _ _ _ [some v_plan, some v_path, none] _
  obtain ⟨t1, h_t1, hm⟩ := Option.bind_eq_some_iff.mp hm
  obtain ⟨x_found, he, hm⟩ := Option.bind_eq_some_iff.mp hm
  refine go_setA ((Option UItem)) 2 G.sm (ev_call (ok_item_at T) (hr.mono (by omega)) T.g_item_at T.F_item_at.kp (b_item_at T) (ea_cons (ev_varK 0 rfl r_plan kv_sweep_at_0) (ea_cons (ev_varK 1 rfl r_path kv_sweep_at_1) ea_nil)) h_t1 gl_sweep_at_item_at) (fun v_found F H g rn_ => ?_) sc_sweep_at.nd
  have G := G.trans g
  have r_plan := Rp.mono g.ff r_plan
  have r_path := Rp.mono g.ff r_path
  have r_found := cg (Option.some.inj he) rn_
  change GoS _ _ _ [some v_plan, some v_path, some v_found] _
  obtain ⟨z_, hz_⟩ : ∃ z_, z_ = x_found := ⟨_, rfl⟩
  change rp (α := (Option UItem)) _ _ _ (x_found) at r_found
  rw [← hz_] at hm r_found
  clear hz_
  cases z_ with
  | none =>
    refine go_ifA (true) G.sm (EvW.t (ew_or (et_isNone (ev_varK 2 rfl r_found kv_sweep_at_2)) (fun h_ => (btf (rfl : (none : (Option UItem)).isNone = true) h_).elim) (fun _ => rfl))) (fun _ F H g => ?_) (fun h_ => absurd h_ (by decide))
    have G := G.trans g
    have r_found := Rp.mono g.ff r_found
    exact go_raise0 G.sm tk_ T.xn_NoTurning T.g_NoTurning (kx _ (Option.some.inj hm) _ _ _ _ G ⟨rfl, rfl⟩)
  | some x_found =>
    have qq2_found := r_found
    have r_found := rp_of_some r_found
    by_cases q21 : (!decide (x_found.tag = ("sweep" : Str))) = true
    · replace hm := ipos q21 hm
      refine go_ifA (true) G.sm (EvW.t (ew_or (et_isNone (ev_varK 2 rfl qq2_found kv_sweep_at_2)) (fun _ => (EvW.cg q21 (ew_or1 (et_cmp op_ne o2_ne (UItem.ev_tag (ev_varK 2 rfl r_found kv_sweep_at_2)) ev_str (nomark _))))) (fun _ => rfl))) (fun _ F H g => ?_) (fun h_ => absurd h_ (by decide))
      have G := G.trans g
      have r_found := Rp.mono g.ff r_found
      exact go_raise0 G.sm tk_ T.xn_NoTurning T.g_NoTurning (kx _ (Option.some.inj hm) _ _ _ _ G ⟨rfl, rfl⟩)
    · replace hm := ineg q21 hm
      have q21 := eq_false_of_ne_true q21
      refine go_ifA (false) G.sm (EvW.t (ew_or (et_isNone (ev_varK 2 rfl qq2_found kv_sweep_at_2)) (fun _ => (EvW.cg q21 (ew_or1 (et_cmp op_ne o2_ne (UItem.ev_tag (ev_varK 2 rfl r_found kv_sweep_at_2)) ev_str (nomark _))))) (fun h_ => (btf h_ (rfl : (some x_found : (Option UItem)).isNone = false)).elim))) (fun h_ => absurd h_ (by decide)) (fun _ F H g => ?_)
      have G := G.trans g
      have r_found := Rp.mono g.ff r_found
      refine GoS.nil ?_
      exact go_retA (UItem) G.sm (ev_varK 2 rfl r_found kv_sweep_at_2) fun v_ F_ H_ g_ rv_ => kr _ _ _ _ (Option.some.inj hm) (G.trans g_) rv_
/-! swapped_change -/
theorem sc_swapped_change : NdefX.NScope ["k", "places", "level"] ["k", "places"] ["level"] (defScope s_swapped_change) := NdefX.nscope_by (by decide +kernel)
theorem nd_swapped_change : NdefX.ndefB (defScope s_swapped) (defScope s_swapped_change) ["level"] = true := by decide +kernel
theorem kv_swapped_change_1 : VKn (defScope s_swapped_change) "places" := ⟨by first | exact Or.inl (by decide +kernel) | exact Or.inr (Or.inl (by decide +kernel)) | exact Or.inr (Or.inr (by decide +kernel)), by decide, by decide⟩
theorem kv_swapped_change_2 : VKn (defScope s_swapped_change) "level" := ⟨by first | exact Or.inl (by decide +kernel) | exact Or.inr (Or.inl (by decide +kernel)) | exact Or.inr (Or.inr (by decide +kernel)), by decide, by decide⟩
theorem nok_swapped_change (T : TxB K mg base) (f_ c_ : Addr) (q_ : Str) (cl_ : List (Str × Addr)) (v_level : V) (x_level : Int) : NokF P w K mg base 1 (cf_swapped_change f_ c_ q_ cl_ v_level x_level) := by
  refine nokF sc_swapped_change rfl (fun doc pm ctv us hl => match us, hl with | [_, _], _ => rfl) fun A outer s_ F0 H0 vs a_ r D_ E_ hr sm_ hR_ ra_ hm kr kn => ?_
  obtain ⟨r_level, _⟩ := hR_
  obtain ⟨v_k, _, rfl, r_k, v_places, _, rfl, r_places, rfl⟩ := ra_
  obtain ⟨x_k, x_places, _u⟩ := a_
  have G : GrX K F0 H0 F0 H0 := .refl sm_
  replace hm : m_swapped_change x_level x_k x_places = some r := hm
  unfold m_swapped_change at hm
  have r_level : rp (α := Int) K F0 v_level x_level := r_level
  have r_k : rp (α := Int) K F0 v_k x_k := r_k
  have r_places : rp (α := (Tp (T2 Int Int))) K F0 v_places x_places := r_places
  change GoS _ _ _ [some v_k, some v_places, some v_level] _
  obtain ⟨t1, h_t1, hm⟩ := Option.bind_eq_some_iff.mp hm
  obtain ⟨t2, h_t2, hm⟩ := Option.bind_eq_some_iff.mp hm
  obtain ⟨t3, h_t3, hm⟩ := Option.bind_eq_some_iff.mp hm
  obtain ⟨t4, h_t4, hm⟩ := Option.bind_eq_some_iff.mp hm
  exact go_ret G.sm (ev_catT (ev_catT (ev_sliceT (ev_varK 1 rfl r_places kv_swapped_change_1) eo_none (eo_some (ev_varK 2 rfl r_level kv_swapped_change_2))) (ev_tp (el_cons (ev_ixTp (ev_varK 1 rfl r_places kv_swapped_change_1) (ev_add (ev_varK 2 rfl r_level kv_swapped_change_2) ev_int) h_t1) (el_cons (ev_ixTp (ev_varK 1 rfl r_places kv_swapped_change_1) (ev_varK 2 rfl r_level kv_swapped_change_2) h_t2) el_nil)) (by show 2 ≤ sizeLine; decide)) h_t3) (ev_sliceT (ev_varK 1 rfl r_places kv_swapped_change_1) (eo_some (ev_add (ev_varK 2 rfl r_level kv_swapped_change_2) ev_int)) eo_none) h_t4) fun v_ F_ H_ g_ rv_ => kr _ _ _ (G.trans g_) (cg (Option.some.inj hm) rv_)
/-! each_deed -/
theorem sc_each_deed : FnScope ["items", "change", "found", "item"] ["items", "change"] (defScope s_each_deed) := ⟨rfl, rfl, rfl, by decide +kernel, rfl, by decide +kernel, by decide +kernel⟩
theorem b_each_deed (T : TxB K mg base) : Binds K T.d_each_deed ["items", "change"] [] := T.F_each_deed.bindsN fun _ _ _ _ _ _ us hl => match us, hl with | [_, _], _ => rfl
theorem kv_each_deed_0 : VKn (defScope s_each_deed) "items" := ⟨by first | exact Or.inl (by decide +kernel) | exact Or.inr (Or.inl (by decide +kernel)) | exact Or.inr (Or.inr (by decide +kernel)), by decide, by decide⟩
theorem kv_each_deed_1 : VKn (defScope s_each_deed) "change" := ⟨by first | exact Or.inl (by decide +kernel) | exact Or.inr (Or.inl (by decide +kernel)) | exact Or.inr (Or.inr (by decide +kernel)), by decide, by decide⟩
theorem kv_each_deed_3 : VKn (defScope s_each_deed) "item" := ⟨by first | exact Or.inl (by decide +kernel) | exact Or.inr (Or.inl (by decide +kernel)) | exact Or.inr (Or.inr (by decide +kernel)), by decide, by decide⟩
theorem gl_each_deed_each_deed : (defScope s_each_deed).names.lookup ("each_deed" : Str) = some NameKind.globalImplicit := by decide +kernel
theorem ok_each_deed (T : TxB K mg base) (fv_change : Fnv (Int × (Tp (T2 Int Int)) × Unit) (Tp (T2 Int Int))) (fk_change : NokF P w K mg base 8 fv_change) : ∀ n_ : Nat, FnOkZ (ZC fv_change) P w K mg base CX0 (8 + n_ + 1) (He.fAd K ("each_deed", none)) T.d_each_deed ["items", "change"] (Pr K fun (a_ : (Tp UItem) × One fv_change × Unit) => m_each_deed n_ a_.1 fv_change.fn)
  | 0 => by
    refine fn_okZ T.F_each_deed sc_each_deed rfl fun cdv A outer s_ F0 H0 vs a_ r D_ E_ hcd_ hr z_ sm_ ra_ hm kr kn => ?_
    exact nomatch (show none = some r from hm)
  | n_ + 1 => by
    have ih_ := ok_each_deed T fv_change fk_change n_
    refine fn_okZ T.F_each_deed sc_each_deed rfl fun cdv A outer s_ F0 H0 vs a_ r D_ E_ hcd_ hr z_ sm_ ra_ hm kr kn => ?_
    obtain ⟨v_items, _, rfl, r_items, v_change, _, rfl, r_change, rfl⟩ := ra_
    obtain ⟨x_items, x_change, _u⟩ := a_
    have G : GrX K F0 H0 F0 H0 := .refl sm_
    replace hm : m_each_deed (n_ + 1) x_items fv_change.fn = some r := hm
    rw [m_each_deed] at hm
    have r_items : rp (α := (Tp UItem)) K F0 v_items x_items := r_items
    obtain ⟨x_change, fe_change⟩ : ∃ z1_, fv_change.fn = z1_ := ⟨_, rfl⟩
    rw [fe_change] at hm
    have r_change : ClF fv_change K F0 H0 v_change := ⟨r_change, z_.m⟩
    change GoS _ _ _ [some v_items, some v_change, none, none] _
    obtain ⟨x_found, he, hm⟩ := Option.bind_eq_some_iff.mp hm
    refine go_setNA ((List UItem)) 2 G.sm (en_list el_nil (Nat.zero_le _)) (fun l_found vs_ F H g nl_ fl_ hl_ rs_ => ?_) sc_each_deed.nd
    have n0_ := G.hh.free nl_
    have G := G.trans g
    have r_items := Rp.mono g.ff r_items
    have r_change := r_change.up g
    have o_found : Own K _ F H l_found _ := Own.cg (Option.some.inj he) ⟨n0_, fl_, vs_, hl_, rs_⟩
    change GoS _ _ _ [some v_items, some v_change, some (.ref l_found), none] _
    obtain ⟨b15, ho_, hm⟩ := Option.bind_eq_some_iff.mp hm
    refine go_forN G.sm (ei_tp (ev_varK 0 rfl r_items kv_each_deed_0)) (pg_name (i := 3) sc_each_deed.nd rfl (by first | exact Or.inl rfl | exact Or.inr rfl)) ho_ (fun F H g => ?_) PassesOwn.never
    have G := G.trans g
    have r_change := r_change.up g
    have o_found := o_found.up g
    refine ⟨fun (b1 : (List UItem)) σ_ F_ H_ => ∃ (u_item : Option V), σ_ = [some v_items, some v_change, some (.ref l_found), u_item] ∧ GrX K F0 H0 F_ H_ ∧ Own K H0 F_ H_ l_found b1, ⟨_, rfl, G, o_found⟩, ?_, ?_⟩
    ·
      intro b1 x_item o_ hm σ_ F H v_item s1_ s2_ iv_ F H g r_item Q_ hQ_
      obtain ⟨u_item, rfl, G, o_found⟩ := iv_
      have sb4 := g.ff
      have r_change := ClF.mk (Rp.mono s1_ r_change.r) (z_.m.ext G.hh)
      have G := G.trans g
      have r_change := r_change.up g
      have o_found := o_found.up g
      refine hQ_ _ _ ?_
      change GoS _ _ _ [some v_items, some v_change, some (.ref l_found), some v_item] _
      refine go_ifA ((decide (x_item.tag = ("deed" : Str)))) G.sm (et_cmp op_eq o2_eq (UItem.ev_tag (ev_varK 3 rfl r_item kv_each_deed_3)) ev_str (nomark _)) (fun hc F H g => ?_) (fun hc F H g => ?_)
      · replace hm := ipos hc hm
        have G := G.trans g
        have r_change := r_change.up g
        have o_found := o_found.up g
        have r_item := Rp.mono g.ff r_item
        have sb4 := sb4.trans g.ff
        obtain ⟨t5, h_t5, hm⟩ := Option.bind_eq_some_iff.mp hm
        obtain ⟨t6, h_t6, hm⟩ := Option.bind_eq_some_iff.mp hm
        obtain ⟨t7, h_t7, hm⟩ := Option.bind_eq_some_iff.mp hm
        obtain ⟨t8, h_t8, hm⟩ := Option.bind_eq_some_iff.mp hm
        obtain ⟨t9, he, hm⟩ := Option.bind_eq_some_iff.mp hm
        refine go_append 2 G.sm o_found rfl (UItem.mkv_deed (ev_tup3 (ea_cons ev_str (ea_cons (ev_ixT (UItem.evv_deed (ev_varK 3 rfl r_item kv_each_deed_3) h_t5) ev_int pj1) (ea_cons (ev_callC 1 fk_change hr (by omega) rfl r_change (clA_recv z_) (ea_cons (ev_ixT (UItem.evv_deed (ev_varK 3 rfl r_item kv_each_deed_3) h_t6) ev_int pj1) (ea_cons (ev_ixT (UItem.evv_deed (ev_varK 3 rfl r_item kv_each_deed_3) h_t7) ev_int pj2) ea_nil)) (by rw [fe_change]; exact h_t8)) ea_nil))))) he (fun w_ F H g nz_ fz_ on_ => ?_)
        have G := G.trans g
        have r_change := r_change.up g
        have r_item := Rp.mono g.ff r_item
        have sb4 := sb4.trans g.ff
        have G := G.poke (u := w_) on_.n fz_ nz_ on_.pl
        have o_found := on_
        refine GoS.nil ?_
        have hm := Option.some.inj hm
        subst hm
        exact GoS.nil ⟨_, sb4, G.fh, ⟨_, rfl, G, o_found⟩⟩
      · replace hm := ineg (nt hc) hm
        have G := G.trans g
        have r_change := r_change.up g
        have o_found := o_found.up g
        have r_item := Rp.mono g.ff r_item
        have sb4 := sb4.trans g.ff
        obtain ⟨t10, h_t10, hm⟩ := Option.bind_eq_some_iff.mp hm
        obtain ⟨t11, h_t11, hm⟩ := Option.bind_eq_some_iff.mp hm
        obtain ⟨t12, h_t12, hm⟩ := Option.bind_eq_some_iff.mp hm
        obtain ⟨t13, h_t13, hm⟩ := Option.bind_eq_some_iff.mp hm
        obtain ⟨t14, he, hm⟩ := Option.bind_eq_some_iff.mp hm
        refine go_append 2 G.sm o_found rfl (UItem.mkv_sweep (ev_tup4 (ea_cons ev_str (ea_cons (ev_ixT (UItem.evv_sweep (ev_varK 3 rfl r_item kv_each_deed_3) h_t10) ev_int pj1) (ea_cons (ev_ixT (UItem.evv_sweep (ev_varK 3 rfl r_item kv_each_deed_3) h_t11) ev_int pj2) (ea_cons (ev_callZ (fv := fv_change) ih_ (hr.mono (by omega)) T.g_each_deed T.F_each_deed.kp (b_each_deed T) r_change (clA_recv z_) (ea_cons (ev_ixT (UItem.evv_sweep (ev_varK 3 rfl r_item kv_each_deed_3) h_t12) ev_int pj3) (ea_cons (ev_varK 1 rfl r_change.r kv_each_deed_1) ea_nil)) (by show m_each_deed n_ t12.d fv_change.fn = some _; rw [fe_change]; exact h_t13) gl_each_deed_each_deed) ea_nil)))))) he (fun w_ F H g nz_ fz_ on_ => ?_)
        have G := G.trans g
        have r_change := r_change.up g
        have r_item := Rp.mono g.ff r_item
        have sb4 := sb4.trans g.ff
        have G := G.poke (u := w_) on_.n fz_ nz_ on_.pl
        have o_found := on_
        refine GoS.nil ?_
        have hm := Option.some.inj hm
        subst hm
        exact GoS.nil ⟨_, sb4, G.fh, ⟨_, rfl, G, o_found⟩⟩
    · intro σ_ F H s1_ s2_ iv_
      obtain ⟨u_item, rfl, G, o_found⟩ := iv_
      have r_change := ClF.mk (Rp.mono s1_ r_change.r) (z_.m.ext G.hh)
      change GoS _ _ _ [some v_items, some v_change, some (.ref l_found), u_item] _
      exact go_ret G.sm (ev_thaw o_found G.fh (fun F H s_ s2_ rf_ k_ => by
              have rf_found := rf_
              exact (ev_callTy call_tuple_of oc_tuple T.n_tuple (by decide +kernel) (ea_cons (ev_var 2 rfl rf_found) ea_nil)))) fun v_ F_ H_ g_ rv_ => kr _ _ _ (G.trans g_) (cg (Option.some.inj hm) rv_)
/-! put -/
theorem sc_put : FnScope ["items", "path", "many", "made", "at", "word", "is_cut", "way", "inner"] ["items", "path", "many", "made"] (defScope s_put) := ⟨rfl, rfl, rfl, by decide +kernel, rfl, by decide +kernel, by decide +kernel⟩
theorem b_put (T : TxB K mg base) : Binds K T.d_put ["items", "path", "many", "made"] [] := T.F_put.bindsN fun _ _ _ _ _ _ us hl => match us, hl with | [_, _, _, _], _ => rfl
theorem kv_put_0 : VKn (defScope s_put) "items" := ⟨by first | exact Or.inl (by decide +kernel) | exact Or.inr (Or.inl (by decide +kernel)) | exact Or.inr (Or.inr (by decide +kernel)), by decide, by decide⟩
theorem kv_put_1 : VKn (defScope s_put) "path" := ⟨by first | exact Or.inl (by decide +kernel) | exact Or.inr (Or.inl (by decide +kernel)) | exact Or.inr (Or.inr (by decide +kernel)), by decide, by decide⟩
theorem kv_put_2 : VKn (defScope s_put) "many" := ⟨by first | exact Or.inl (by decide +kernel) | exact Or.inr (Or.inl (by decide +kernel)) | exact Or.inr (Or.inr (by decide +kernel)), by decide, by decide⟩
theorem kv_put_3 : VKn (defScope s_put) "made" := ⟨by first | exact Or.inl (by decide +kernel) | exact Or.inr (Or.inl (by decide +kernel)) | exact Or.inr (Or.inr (by decide +kernel)), by decide, by decide⟩
theorem kv_put_4 : VKn (defScope s_put) "at" := ⟨by first | exact Or.inl (by decide +kernel) | exact Or.inr (Or.inl (by decide +kernel)) | exact Or.inr (Or.inr (by decide +kernel)), by decide, by decide⟩
theorem kv_put_5 : VKn (defScope s_put) "word" := ⟨by first | exact Or.inl (by decide +kernel) | exact Or.inr (Or.inl (by decide +kernel)) | exact Or.inr (Or.inr (by decide +kernel)), by decide, by decide⟩
theorem kv_put_6 : VKn (defScope s_put) "is_cut" := ⟨by first | exact Or.inl (by decide +kernel) | exact Or.inr (Or.inl (by decide +kernel)) | exact Or.inr (Or.inr (by decide +kernel)), by decide, by decide⟩
theorem kv_put_7 : VKn (defScope s_put) "way" := ⟨by first | exact Or.inl (by decide +kernel) | exact Or.inr (Or.inl (by decide +kernel)) | exact Or.inr (Or.inr (by decide +kernel)), by decide, by decide⟩
theorem kv_put_8 : VKn (defScope s_put) "inner" := ⟨by first | exact Or.inl (by decide +kernel) | exact Or.inr (Or.inl (by decide +kernel)) | exact Or.inr (Or.inr (by decide +kernel)), by decide, by decide⟩
theorem gl_put_put : (defScope s_put).names.lookup ("put" : Str) = some NameKind.globalImplicit := by decide +kernel
theorem ok_put (T : TxB K mg base) : ∀ n_ : Nat, FnOk P w K mg base CX0 (0 + n_ + 1) (He.fAd K ("put", none)) T.d_put ["items", "path", "many", "made"] (Pr K fun (a_ : (Tp UItem) × (Tp Int) × Int × (Tp UItem) × Unit) => m_put n_ a_.1 a_.2.1 a_.2.2.1 a_.2.2.2.1)
  | 0 => by
    refine fn_ok T.F_put sc_put rfl fun cdv A outer s_ F0 H0 vs a_ r D_ E_ hr sm_ ra_ hm kr kn => ?_
    exact nomatch (show none = some r from hm)
  | n_ + 1 => by
    have ih_ := ok_put T n_
    refine fn_ok T.F_put sc_put rfl fun cdv A outer s_ F0 H0 vs a_ r D_ E_ hr sm_ ra_ hm kr kn => ?_
    obtain ⟨v_items, _, rfl, r_items, v_path, _, rfl, r_path, v_many, _, rfl, r_many, v_made, _, rfl, r_made, rfl⟩ := ra_
    obtain ⟨x_items, x_path, x_many, x_made, _u⟩ := a_
    have G : GrX K F0 H0 F0 H0 := .refl sm_
    replace hm : m_put (n_ + 1) x_items x_path x_many x_made = some r := hm
    rw [m_put] at hm
    have r_items : rp (α := (Tp UItem)) K F0 v_items x_items := r_items
    have r_path : rp (α := (Tp Int)) K F0 v_path x_path := r_path
    have r_many : rp (α := Int) K F0 v_many x_many := r_many
    have r_made : rp (α := (Tp UItem)) K F0 v_made x_made := r_made
    change GoS _ _ _ [some v_items, some v_path, some v_many, some v_made, none, none, none, none, none] _
    obtain ⟨t1, h_t1, hm⟩ := Option.bind_eq_some_iff.mp hm
    obtain ⟨x_at, he, hm⟩ := Option.bind_eq_some_iff.mp hm
    refine go_setA (Int) 4 G.sm (ev_ixTp (ev_varK 1 rfl r_path kv_put_1) ev_int h_t1) (fun v_at F H g rn_ => ?_) sc_put.nd
    have G := G.trans g
    have r_items := Rp.mono g.ff r_items
    have r_path := Rp.mono g.ff r_path
    have r_many := Rp.mono g.ff r_many
    have r_made := Rp.mono g.ff r_made
    have r_at := cg (Option.some.inj he) rn_
    change GoS _ _ _ [some v_items, some v_path, some v_many, some v_made, some v_at, none, none, none, none] _
    refine go_ifA ((decide ((x_path.l.length : Int) = (1 : Int)))) G.sm (et_cmp op_eq o2_eq (ev_callB call_len_seq oc_lenTp T.n_len PySem.boot_len (ea_cons (ev_varK 1 rfl r_path kv_put_1) ea_nil)) ev_int (nomark _)) (fun hc F H g => ?_) (fun hc F H g => ?_)
    · replace hm := ipos hc hm
      have G := G.trans g
      have r_items := Rp.mono g.ff r_items
      have r_path := Rp.mono g.ff r_path
      have r_many := Rp.mono g.ff r_many
      have r_made := Rp.mono g.ff r_made
      have r_at := Rp.mono g.ff r_at
      obtain ⟨t2, h_t2, hm⟩ := Option.bind_eq_some_iff.mp hm
      obtain ⟨t3, h_t3, hm⟩ := Option.bind_eq_some_iff.mp hm
      exact go_ret G.sm (ev_catT (ev_catT (ev_sliceT (ev_varK 0 rfl r_items kv_put_0) eo_none (eo_some (ev_varK 4 rfl r_at kv_put_4))) (ev_varK 3 rfl r_made kv_put_3) h_t2) (ev_sliceT (ev_varK 0 rfl r_items kv_put_0) (eo_some (ev_add (ev_varK 4 rfl r_at kv_put_4) (ev_varK 2 rfl r_many kv_put_2))) eo_none) h_t3) fun v_ F_ H_ g_ rv_ => kr _ _ _ (G.trans g_) (cg (Option.some.inj hm) rv_)
    · replace hm := ineg (nt hc) hm
      have G := G.trans g
      have r_items := Rp.mono g.ff r_items
      have r_path := Rp.mono g.ff r_path
      have r_many := Rp.mono g.ff r_many
      have r_made := Rp.mono g.ff r_made
      have r_at := Rp.mono g.ff r_at
      refine GoS.nil ?_
      obtain ⟨t4, h_t4, hm⟩ := Option.bind_eq_some_iff.mp hm
      obtain ⟨t5, h_t5, hm⟩ := Option.bind_eq_some_iff.mp hm
      obtain ⟨i6, he, hm⟩ := Option.bind_eq_some_iff.mp hm
      refine go_unpack G.sm (UItem.evv_sweep (ev_ixTp (ev_varK 0 rfl r_items kv_put_0) (ev_varK 4 rfl r_at kv_put_4) h_t4) h_t5) (pg_tup rfl (pgs_cons (pg_name (i := 5) sc_put.nd rfl (by first | exact Or.inl rfl | exact Or.inr rfl)) (pgs_cons (pg_name (i := 6) sc_put.nd rfl (by first | exact Or.inl rfl | exact Or.inr rfl)) (pgs_cons (pg_name (i := 7) sc_put.nd rfl (by first | exact Or.inl rfl | exact Or.inr rfl)) (pgs_cons (pg_name (i := 8) sc_put.nd rfl (by first | exact Or.inl rfl | exact Or.inr rfl)) pgs_nil))))) (fun w_ F H g ri_ Q_ hQ_ => ?_)
      have ri_ := cg (Option.some.inj he) ri_
      have G := G.trans g
      have r_items := Rp.mono g.ff r_items
      have r_path := Rp.mono g.ff r_path
      have r_many := Rp.mono g.ff r_many
      have r_made := Rp.mono g.ff r_made
      have r_at := Rp.mono g.ff r_at
      obtain ⟨pa7, _, rfl, sq8, v_word, _, rfl, r_word, v_is_cut, _, rfl, r_is_cut, v_way, _, rfl, r_way, v_inner, _, rfl, r_inner, rfl⟩ := ri_
      refine ⟨pa7, _, rfl, seqT_mono G.fh sq8, rfl, _, _, rfl, _, _, rfl, _, _, rfl, _, _, rfl, rfl, hQ_ _ _ ?_⟩
      change GoS _ _ _ [some v_items, some v_path, some v_many, some v_made, some v_at, some v_word, some v_is_cut, some v_way, some v_inner] _
      obtain ⟨t9, h_t9, hm⟩ := Option.bind_eq_some_iff.mp hm
      obtain ⟨t10, h_t10, hm⟩ := Option.bind_eq_some_iff.mp hm
      obtain ⟨t11, h_t11, hm⟩ := Option.bind_eq_some_iff.mp hm
      obtain ⟨t12, h_t12, hm⟩ := Option.bind_eq_some_iff.mp hm
      exact go_ret G.sm (ev_catT (ev_catT (ev_sliceT (ev_varK 0 rfl r_items kv_put_0) eo_none (eo_some (ev_varK 4 rfl r_at kv_put_4))) (ev_tp (el_cons (UItem.evinv_sweep (ev_tup4 (ea_cons (ev_varK 5 rfl r_word kv_put_5) (ea_cons (ev_varK 6 rfl r_is_cut kv_put_6) (ea_cons (ev_varK 7 rfl r_way kv_put_7) (ea_cons (ev_call ih_ (hr.mono (by omega)) T.g_put T.F_put.kp (b_put T) (ea_cons (ev_varK 8 rfl r_inner kv_put_8) (ea_cons (ev_sliceT (ev_varK 1 rfl r_path kv_put_1) (eo_some ev_int) eo_none) (ea_cons (ev_varK 2 rfl r_many kv_put_2) (ea_cons (ev_varK 3 rfl r_made kv_put_3) ea_nil)))) h_t9 gl_put_put) ea_nil))))) h_t10) el_nil) (by show 1 ≤ sizeLine; decide)) h_t11) (ev_sliceT (ev_varK 0 rfl r_items kv_put_0) (eo_some (ev_add (ev_varK 4 rfl r_at kv_put_4) ev_int)) eo_none) h_t12) fun v_ F_ H_ g_ rv_ => kr _ _ _ (G.trans g_) (cg (Option.some.inj hm) rv_)
/-! swapped -/
theorem sc_swapped : FnScope ["plan", "path", "word", "is_cut", "way", "items", "level", "change", "inner", "within"] ["plan", "path"] (defScope s_swapped) := ⟨rfl, rfl, rfl, by decide +kernel, rfl, by decide +kernel, by decide +kernel⟩
theorem b_swapped (T : TxB K mg base) : Binds K T.d_swapped ["plan", "path"] [] := T.F_swapped.bindsN fun _ _ _ _ _ _ us hl => match us, hl with | [_, _], _ => rfl
theorem kv_swapped_0 : VKn (defScope s_swapped) "plan" := ⟨by first | exact Or.inl (by decide +kernel) | exact Or.inr (Or.inl (by decide +kernel)) | exact Or.inr (Or.inr (by decide +kernel)), by decide, by decide⟩
theorem kv_swapped_1 : VKn (defScope s_swapped) "path" := ⟨by first | exact Or.inl (by decide +kernel) | exact Or.inr (Or.inl (by decide +kernel)) | exact Or.inr (Or.inr (by decide +kernel)), by decide, by decide⟩
theorem kv_swapped_2 : VKn (defScope s_swapped) "word" := ⟨by first | exact Or.inl (by decide +kernel) | exact Or.inr (Or.inl (by decide +kernel)) | exact Or.inr (Or.inr (by decide +kernel)), by decide, by decide⟩
theorem kv_swapped_3 : VKn (defScope s_swapped) "is_cut" := ⟨by first | exact Or.inl (by decide +kernel) | exact Or.inr (Or.inl (by decide +kernel)) | exact Or.inr (Or.inr (by decide +kernel)), by decide, by decide⟩
theorem kv_swapped_4 : VKn (defScope s_swapped) "way" := ⟨by first | exact Or.inl (by decide +kernel) | exact Or.inr (Or.inl (by decide +kernel)) | exact Or.inr (Or.inr (by decide +kernel)), by decide, by decide⟩
theorem kv_swapped_5 : VKn (defScope s_swapped) "items" := ⟨by first | exact Or.inl (by decide +kernel) | exact Or.inr (Or.inl (by decide +kernel)) | exact Or.inr (Or.inr (by decide +kernel)), by decide, by decide⟩
theorem kv_swapped_7 : VKn (defScope s_swapped) "change" := ⟨by first | exact Or.inl (by decide +kernel) | exact Or.inr (Or.inl (by decide +kernel)) | exact Or.inr (Or.inr (by decide +kernel)), by decide, by decide⟩
theorem kv_swapped_8 : VKn (defScope s_swapped) "inner" := ⟨by first | exact Or.inl (by decide +kernel) | exact Or.inr (Or.inl (by decide +kernel)) | exact Or.inr (Or.inr (by decide +kernel)), by decide, by decide⟩
theorem kv_swapped_9 : VKn (defScope s_swapped) "within" := ⟨by first | exact Or.inl (by decide +kernel) | exact Or.inr (Or.inl (by decide +kernel)) | exact Or.inr (Or.inr (by decide +kernel)), by decide, by decide⟩
theorem gl_swapped_each_deed : (defScope s_swapped).names.lookup ("each_deed" : Str) = some NameKind.globalImplicit := by decide +kernel
theorem gl_swapped_put : (defScope s_swapped).names.lookup ("put" : Str) = some NameKind.globalImplicit := by decide +kernel
theorem gl_swapped_sweep_at : (defScope s_swapped).names.lookup ("sweep_at" : Str) = some NameKind.globalImplicit := by decide +kernel
theorem ok_swapped (T : TxB K mg base) : FnOk P w K mg base (L2.CX P w) 20 (He.fAd K ("swapped", none)) T.d_swapped ["plan", "path"] (PrE K fun (a_ : (Tp UItem) × (Tp Int) × Unit) => m_swapped a_.1 a_.2.1) := by
  refine fn_okXZ T.F_swapped sc_swapped rfl fun cdv A outer s_ F0 H0 vs a_ r D_ E_ hcd_ hr sm_ ra_ hm kr kn kx tk_ po_ => ?_
  obtain ⟨v_plan, _, rfl, r_plan, v_path, _, rfl, r_path, rfl⟩ := ra_
  obtain ⟨x_plan, x_path, _u⟩ := a_
  have G : GrX K F0 H0 F0 H0 := .refl sm_
  replace hm : m_swapped x_plan x_path = some r := hm
  unfold m_swapped at hm
  have r_plan : rp (α := (Tp UItem)) K F0 v_plan x_plan := r_plan
  have r_path : rp (α := (Tp Int)) K F0 v_path x_path := r_path
  change GoS _ _ _ [some v_plan, some v_path, none, none, none, none, none, none, none, none] _
  obtain ⟨t1, h_t1, hm⟩ := Option.bind_eq_some_iff.mp hm
  cases t1 with
  | v t2 =>
    obtain ⟨t4, h_t4, hm⟩ := Option.bind_eq_some_iff.mp hm
    obtain ⟨i5, he, hm⟩ := Option.bind_eq_some_iff.mp hm
    refine go_unpack G.sm (UItem.evv_sweep (EvX.ok (ex_call tk_ (ok_sweep_at T) (hr.mono (by omega)) T.g_sweep_at T.F_sweep_at.kp (b_sweep_at T) (ea_cons (ev_varK 0 rfl r_plan kv_swapped_0) (ea_cons (ev_varK 1 rfl r_path kv_swapped_1) ea_nil)) h_t1 gl_swapped_sweep_at)) h_t4) (pg_tup rfl (pgs_cons (pg_name (i := 2) sc_swapped.nd rfl (by first | exact Or.inl rfl | exact Or.inr rfl)) (pgs_cons (pg_name (i := 3) sc_swapped.nd rfl (by first | exact Or.inl rfl | exact Or.inr rfl)) (pgs_cons (pg_name (i := 4) sc_swapped.nd rfl (by first | exact Or.inl rfl | exact Or.inr rfl)) (pgs_cons (pg_name (i := 5) sc_swapped.nd rfl (by first | exact Or.inl rfl | exact Or.inr rfl)) pgs_nil))))) (fun w_ F H g ri_ Q_ hQ_ => ?_)
    have ri_ := cg (Option.some.inj he) ri_
    have G := G.trans g
    have r_plan := Rp.mono g.ff r_plan
    have r_path := Rp.mono g.ff r_path
    obtain ⟨pa6, _, rfl, sq7, v_word, _, rfl, r_word, v_is_cut, _, rfl, r_is_cut, v_way, _, rfl, r_way, v_items, _, rfl, r_items, rfl⟩ := ri_
    refine ⟨pa6, _, rfl, seqT_mono G.fh sq7, rfl, _, _, rfl, _, _, rfl, _, _, rfl, _, _, rfl, rfl, hQ_ _ _ ?_⟩
    change GoS _ _ _ [some v_plan, some v_path, some v_word, some v_is_cut, some v_way, some v_items, none, none, none, none] _
    obtain ⟨t9, h_t9, hm⟩ := Option.bind_eq_some_iff.mp hm
    refine go_ifA (t9) G.sm (EvW.t (ew_orA ((!decide ((i5.d.l.length : Int) = (1 : Int)))) (et_cmp op_ne o2_ne (ev_callB call_len_seq oc_lenTp T.n_len PySem.boot_len (ea_cons (ev_varK 5 rfl r_items kv_swapped_5) ea_nil)) ev_int (nomark _)) (fun hc => by
            replace h_t9 := ineg (nt hc) h_t9
            obtain ⟨t8, h_t8, h_t9⟩ := Option.bind_eq_some_iff.mp h_t9
            exact EvW.cg (Option.some.inj h_t9) (ew_or1 (et_cmp op_ne o2_ne (UItem.ev_tag (ev_ixTp (ev_varK 5 rfl r_items kv_swapped_5) ev_int h_t8)) ev_str (nomark _)))) (fun hc => by replace h_t9 := ipos hc h_t9; exact (Option.some.inj h_t9).symm))) (fun hc F H g => ?_) (fun hc F H g => ?_)
    · replace hm := ipos hc hm
      have G := G.trans g
      have r_plan := Rp.mono g.ff r_plan
      have r_path := Rp.mono g.ff r_path
      have r_word := Rp.mono g.ff r_word
      have r_is_cut := Rp.mono g.ff r_is_cut
      have r_way := Rp.mono g.ff r_way
      have r_items := Rp.mono g.ff r_items
      exact go_raise0 G.sm tk_ T.xn_NoTurning T.g_NoTurning (kx _ (Option.some.inj hm) _ _ _ _ G ⟨rfl, rfl⟩)
    · replace hm := ineg (nt hc) hm
      have G := G.trans g
      have r_plan := Rp.mono g.ff r_plan
      have r_path := Rp.mono g.ff r_path
      have r_word := Rp.mono g.ff r_word
      have r_is_cut := Rp.mono g.ff r_is_cut
      have r_way := Rp.mono g.ff r_way
      have r_items := Rp.mono g.ff r_items
      refine GoS.nil ?_
      obtain ⟨x_level, he, hm⟩ := Option.bind_eq_some_iff.mp hm
      refine go_setA (Int) 6 G.sm (ev_sub (ev_callB call_len_seq oc_lenTp T.n_len PySem.boot_len (ea_cons (ev_varK 1 rfl r_path kv_swapped_1) ea_nil)) ev_int) (fun v_level F H g rn_ => ?_) sc_swapped.nd
      have G := G.trans g
      have r_plan := Rp.mono g.ff r_plan
      have r_path := Rp.mono g.ff r_path
      have r_word := Rp.mono g.ff r_word
      have r_is_cut := Rp.mono g.ff r_is_cut
      have r_way := Rp.mono g.ff r_way
      have r_items := Rp.mono g.ff r_items
      have r_level := cg (Option.some.inj he) rn_
      change GoS _ _ _ [some v_plan, some v_path, some v_word, some v_is_cut, some v_way, some v_items, some v_level, none, none, none] _
      refine go_ndef 7 G.sm T.tb_swapped hcd_ (List.mem_map.mpr ⟨_, .head _, rfl⟩) (by show nmG 53 4 = ("swapped" : Str) ++ ".<locals>." ++ "change"; decide +kernel) (NdefX.ndef_free nd_swapped_change) (fun lf_change c_ H g n1_ n2_ => ?_) sc_swapped.nd
      have G := G.trans g
      have r_plan := Rp.mono g.ff r_plan
      have r_path := Rp.mono g.ff r_path
      have r_word := Rp.mono g.ff r_word
      have r_is_cut := Rp.mono g.ff r_is_cut
      have r_way := Rp.mono g.ff r_way
      have r_items := Rp.mono g.ff r_items
      have r_level := Rp.mono g.ff r_level
      obtain ⟨fv_change, fq_change, r_change⟩ := ClF.ex (show ClF (cf_swapped_change lf_change c_ _ _ (v_level) x_level) K _ _ (.ref lf_change) from ⟨⟨rfl, ⟨r_level, trivial⟩⟩, ⟨n1_, n2_⟩⟩)
      have fk_change : NokF P w K mg base 8 fv_change := by rw [fq_change]; exact (nok_swapped_change T _ _ _ _ _ _).mono (by omega)
      have fe_change : fv_change.fn = (fun a_ => m_swapped_change x_level a_.1 a_.2.1) := by rw [fq_change]
      change GoS _ _ _ [some v_plan, some v_path, some v_word, some v_is_cut, some v_way, some v_items, some v_level, some (.ref lf_change), none, none] _
      obtain ⟨t10, h_t10, hm⟩ := Option.bind_eq_some_iff.mp hm
      obtain ⟨x_inner, he, hm⟩ := Option.bind_eq_some_iff.mp hm
      refine go_setA (UItem) 8 G.sm (ev_ixTp (ev_varK 5 rfl r_items kv_swapped_5) ev_int h_t10) (fun v_inner F H g rn_ => ?_) sc_swapped.nd
      have G := G.trans g
      have r_plan := Rp.mono g.ff r_plan
      have r_path := Rp.mono g.ff r_path
      have r_word := Rp.mono g.ff r_word
      have r_is_cut := Rp.mono g.ff r_is_cut
      have r_way := Rp.mono g.ff r_way
      have r_items := Rp.mono g.ff r_items
      have r_change := r_change.up g
      have r_inner := cg (Option.some.inj he) rn_
      change GoS _ _ _ [some v_plan, some v_path, some v_word, some v_is_cut, some v_way, some v_items, some v_level, some (.ref lf_change), some v_inner, none] _
      obtain ⟨t11, h_t11, hm⟩ := Option.bind_eq_some_iff.mp hm
      obtain ⟨t12, h_t12, hm⟩ := Option.bind_eq_some_iff.mp hm
      obtain ⟨t13, h_t13, hm⟩ := Option.bind_eq_some_iff.mp hm
      obtain ⟨x_within, he, hm⟩ := Option.bind_eq_some_iff.mp hm
      refine go_setA ((Tp UItem)) 9 G.sm (ev_tp (el_cons (UItem.evinv_sweep (ev_tup4 (ea_cons (ev_varK 2 rfl r_word kv_swapped_2) (ea_cons (ev_varK 3 rfl r_is_cut kv_swapped_3) (ea_cons (ev_varK 4 rfl r_way kv_swapped_4) (ea_cons (ev_callZ (fv := fv_change) (ok_each_deed T fv_change fk_change 10) (hr.mono (by omega)) T.g_each_deed T.F_each_deed.kp (b_each_deed T) r_change (by rw [fq_change]; exact clA_made (sc := defScope s_swapped_change) (js := [6]) rfl (NdefX.ndef_free nd_swapped_change) (NdefX.ndef_fr nd_swapped_change) rfl rfl) (ea_cons (ev_ixT (UItem.evv_sweep (ev_varK 8 rfl r_inner kv_swapped_8) h_t11) ev_int pj3) (ea_cons (ev_varK 7 rfl r_change.r kv_swapped_7) ea_nil)) (by show m_each_deed 10 t11.d fv_change.fn = some _; rw [fe_change]; exact h_t12) gl_swapped_each_deed) ea_nil))))) h_t13) el_nil) (by show 1 ≤ sizeLine; decide)) (fun v_within F H g rn_ => ?_) sc_swapped.nd
      have G := G.trans g
      have r_plan := Rp.mono g.ff r_plan
      have r_path := Rp.mono g.ff r_path
      have r_word := Rp.mono g.ff r_word
      have r_is_cut := Rp.mono g.ff r_is_cut
      have r_way := Rp.mono g.ff r_way
      have r_change := r_change.up g
      have r_inner := Rp.mono g.ff r_inner
      have r_within := cg (Option.some.inj he) rn_
      change GoS _ _ _ [some v_plan, some v_path, some v_word, some v_is_cut, some v_way, some v_items, some v_level, some (.ref lf_change), some v_inner, some v_within] _
      obtain ⟨t14, h_t14, hm⟩ := Option.bind_eq_some_iff.mp hm
      obtain ⟨t15, h_t15, hm⟩ := Option.bind_eq_some_iff.mp hm
      obtain ⟨t16, h_t16, hm⟩ := Option.bind_eq_some_iff.mp hm
      exact go_retA ((Tp UItem)) G.sm (ev_call (ok_put T 10) (hr.mono (by omega)) T.g_put T.F_put.kp (b_put T) (ea_cons (ev_varK 0 rfl r_plan kv_swapped_0) (ea_cons (ev_varK 1 rfl r_path kv_swapped_1) (ea_cons ev_int (ea_cons (ev_tp (el_cons (UItem.mkv_sweep (ev_tup4 (ea_cons ev_str (ea_cons (ev_ixT (UItem.evv_sweep (ev_varK 8 rfl r_inner kv_swapped_8) h_t14) ev_int pj1) (ea_cons (ev_ixT (UItem.evv_sweep (ev_varK 8 rfl r_inner kv_swapped_8) h_t15) ev_int pj2) (ea_cons (ev_varK 9 rfl r_within kv_swapped_9) ea_nil)))))) el_nil) (by show 1 ≤ sizeLine; decide)) ea_nil)))) h_t16 gl_swapped_put) fun v_ F_ H_ g_ rv_ => kr _ _ _ _ (Option.some.inj hm) (G.trans g_) rv_
  | x e3 =>
    refine go_unpackZ (g := gTup K 4 (gCons (gName 2) (gCons (gName 3) (gCons (gName 4) (gCons (gName 5) gNil))))) G.sm (EvX.rz (ex_call tk_ (ok_sweep_at T) (hr.mono (by omega)) T.g_sweep_at T.F_sweep_at.kp (b_sweep_at T) (ea_cons (ev_varK 0 rfl r_plan kv_swapped_0) (ea_cons (ev_varK 1 rfl r_path kv_swapped_1) ea_nil)) h_t1 gl_swapped_sweep_at) (fun F H cls_ dd_ g xr_ => ?_)) (pg_tup rfl (pgs_cons (pg_name (i := 2) sc_swapped.nd rfl (by first | exact Or.inl rfl | exact Or.inr rfl)) (pgs_cons (pg_name (i := 3) sc_swapped.nd rfl (by first | exact Or.inl rfl | exact Or.inr rfl)) (pgs_cons (pg_name (i := 4) sc_swapped.nd rfl (by first | exact Or.inl rfl | exact Or.inr rfl)) (pgs_cons (pg_name (i := 5) sc_swapped.nd rfl (by first | exact Or.inl rfl | exact Or.inr rfl)) pgs_nil)))))
    exact kx _ (Option.some.inj hm) _ _ _ _ (G.trans g) xr_
/-! joined -/
theorem sc_joined : FnScope ["plan", "path", "one", "other"] ["plan", "path"] (defScope s_joined) := ⟨rfl, rfl, rfl, by decide +kernel, rfl, by decide +kernel, by decide +kernel⟩
theorem b_joined (T : TxB K mg base) : Binds K T.d_joined ["plan", "path"] [] := T.F_joined.bindsN fun _ _ _ _ _ _ us hl => match us, hl with | [_, _], _ => rfl
theorem kv_joined_0 : VKn (defScope s_joined) "plan" := ⟨by first | exact Or.inl (by decide +kernel) | exact Or.inr (Or.inl (by decide +kernel)) | exact Or.inr (Or.inr (by decide +kernel)), by decide, by decide⟩
theorem kv_joined_1 : VKn (defScope s_joined) "path" := ⟨by first | exact Or.inl (by decide +kernel) | exact Or.inr (Or.inl (by decide +kernel)) | exact Or.inr (Or.inr (by decide +kernel)), by decide, by decide⟩
theorem kv_joined_2 : VKn (defScope s_joined) "one" := ⟨by first | exact Or.inl (by decide +kernel) | exact Or.inr (Or.inl (by decide +kernel)) | exact Or.inr (Or.inr (by decide +kernel)), by decide, by decide⟩
theorem kv_joined_3 : VKn (defScope s_joined) "other" := ⟨by first | exact Or.inl (by decide +kernel) | exact Or.inr (Or.inl (by decide +kernel)) | exact Or.inr (Or.inr (by decide +kernel)), by decide, by decide⟩
theorem gl_joined_put : (defScope s_joined).names.lookup ("put" : Str) = some NameKind.globalImplicit := by decide +kernel
theorem gl_joined_sweep_at : (defScope s_joined).names.lookup ("sweep_at" : Str) = some NameKind.globalImplicit := by decide +kernel
theorem ok_joined (T : TxB K mg base) : FnOk P w K mg base (L2.CX P w) 12 (He.fAd K ("joined", none)) T.d_joined ["plan", "path"] (PrE K fun (a_ : (Tp UItem) × (Tp Int) × Unit) => m_joined a_.1 a_.2.1) := by
  refine fn_okX T.F_joined sc_joined rfl fun cdv A outer s_ F0 H0 vs a_ r D_ E_ hr sm_ ra_ hm kr kn kx tk_ po_ => ?_
  obtain ⟨v_plan, _, rfl, r_plan, v_path, _, rfl, r_path, rfl⟩ := ra_
  obtain ⟨x_plan, x_path, _u⟩ := a_
  have G : GrX K F0 H0 F0 H0 := .refl sm_
  replace hm : m_joined x_plan x_path = some r := hm
  unfold m_joined at hm
  have r_plan : rp (α := (Tp UItem)) K F0 v_plan x_plan := r_plan
  have r_path : rp (α := (Tp Int)) K F0 v_path x_path := r_path
  change GoS _ _ _ [some v_plan, some v_path, none, none] _
  obtain ⟨t1, h_t1, hm⟩ := Option.bind_eq_some_iff.mp hm
  cases t1 with
  | v t2 =>
    obtain ⟨x_one, he, hm⟩ := Option.bind_eq_some_iff.mp hm
    refine go_setA (UItem) 2 G.sm (EvX.ok (ex_call tk_ (ok_sweep_at T) (hr.mono (by omega)) T.g_sweep_at T.F_sweep_at.kp (b_sweep_at T) (ea_cons (ev_varK 0 rfl r_plan kv_joined_0) (ea_cons (ev_varK 1 rfl r_path kv_joined_1) ea_nil)) h_t1 gl_joined_sweep_at)) (fun v_one F H g rn_ => ?_) sc_joined.nd
    have G := G.trans g
    have r_plan := Rp.mono g.ff r_plan
    have r_path := Rp.mono g.ff r_path
    have r_one := cg (Option.some.inj he) rn_
    change GoS _ _ _ [some v_plan, some v_path, some v_one, none] _
    obtain ⟨t4, h_t4, hm⟩ := Option.bind_eq_some_iff.mp hm
    obtain ⟨t5, h_t5, hm⟩ := Option.bind_eq_some_iff.mp hm
    obtain ⟨t6, h_t6, hm⟩ := Option.bind_eq_some_iff.mp hm
    cases t6 with
    | v t7 =>
      obtain ⟨x_other, he, hm⟩ := Option.bind_eq_some_iff.mp hm
      refine go_setA (UItem) 3 G.sm (EvX.ok (ex_call tk_ (ok_sweep_at T) (hr.mono (by omega)) T.g_sweep_at T.F_sweep_at.kp (b_sweep_at T) (ea_cons (ev_varK 0 rfl r_plan kv_joined_0) (ea_cons (ev_catT (ev_sliceT (ev_varK 1 rfl r_path kv_joined_1) eo_none (eo_some (ev_neg ev_int))) (ev_tp (el_cons (ev_add (ev_ixTp (ev_varK 1 rfl r_path kv_joined_1) (ev_neg ev_int) h_t4) ev_int) el_nil) (by show 1 ≤ sizeLine; decide)) h_t5) ea_nil)) h_t6 gl_joined_sweep_at)) (fun v_other F H g rn_ => ?_) sc_joined.nd
      have G := G.trans g
      have r_plan := Rp.mono g.ff r_plan
      have r_path := Rp.mono g.ff r_path
      have r_one := Rp.mono g.ff r_one
      have r_other := cg (Option.some.inj he) rn_
      change GoS _ _ _ [some v_plan, some v_path, some v_one, some v_other] _
      obtain ⟨t9, h_t9, hm⟩ := Option.bind_eq_some_iff.mp hm
      obtain ⟨t10, h_t10, hm⟩ := Option.bind_eq_some_iff.mp hm
      obtain ⟨t13, h_t13, hm⟩ := Option.bind_eq_some_iff.mp hm
      refine go_ifA (t13) G.sm (EvW.t (ew_orA ((!decide (t9.b = t10.b))) (et_cmp op_ne o2_ne (ev_ixT (UItem.evv_sweep (ev_varK 2 rfl r_one kv_joined_2) h_t9) ev_int pj1) (ev_ixT (UItem.evv_sweep (ev_varK 3 rfl r_other kv_joined_3) h_t10) ev_int pj1) (nomark _)) (fun hc => by
              replace h_t13 := ineg (nt hc) h_t13
              obtain ⟨t11, h_t11, h_t13⟩ := Option.bind_eq_some_iff.mp h_t13
              obtain ⟨t12, h_t12, h_t13⟩ := Option.bind_eq_some_iff.mp h_t13
              exact EvW.cg (Option.some.inj h_t13) (ew_or1 (et_cmp op_ne o2_ne (ev_ixT (UItem.evv_sweep (ev_varK 2 rfl r_one kv_joined_2) h_t11) ev_int pj2) (ev_ixT (UItem.evv_sweep (ev_varK 3 rfl r_other kv_joined_3) h_t12) ev_int pj2) (nomark _)))) (fun hc => by replace h_t13 := ipos hc h_t13; exact (Option.some.inj h_t13).symm))) (fun hc F H g => ?_) (fun hc F H g => ?_)
      · replace hm := ipos hc hm
        have G := G.trans g
        have r_plan := Rp.mono g.ff r_plan
        have r_path := Rp.mono g.ff r_path
        have r_one := Rp.mono g.ff r_one
        have r_other := Rp.mono g.ff r_other
        exact go_raise0 G.sm tk_ T.xn_NoTurning T.g_NoTurning (kx _ (Option.some.inj hm) _ _ _ _ G ⟨rfl, rfl⟩)
      · replace hm := ineg (nt hc) hm
        have G := G.trans g
        have r_plan := Rp.mono g.ff r_plan
        have r_path := Rp.mono g.ff r_path
        have r_one := Rp.mono g.ff r_one
        have r_other := Rp.mono g.ff r_other
        refine GoS.nil ?_
        obtain ⟨t14, h_t14, hm⟩ := Option.bind_eq_some_iff.mp hm
        obtain ⟨t15, h_t15, hm⟩ := Option.bind_eq_some_iff.mp hm
        obtain ⟨t16, h_t16, hm⟩ := Option.bind_eq_some_iff.mp hm
        obtain ⟨t17, h_t17, hm⟩ := Option.bind_eq_some_iff.mp hm
        obtain ⟨t18, h_t18, hm⟩ := Option.bind_eq_some_iff.mp hm
        obtain ⟨t19, h_t19, hm⟩ := Option.bind_eq_some_iff.mp hm
        exact go_retA ((Tp UItem)) G.sm (ev_call (ok_put T 10) (hr.mono (by omega)) T.g_put T.F_put.kp (b_put T) (ea_cons (ev_varK 0 rfl r_plan kv_joined_0) (ea_cons (ev_varK 1 rfl r_path kv_joined_1) (ea_cons ev_int (ea_cons (ev_tp (el_cons (UItem.mkv_sweep (ev_tup4 (ea_cons ev_str (ea_cons (ev_ixT (UItem.evv_sweep (ev_varK 2 rfl r_one kv_joined_2) h_t14) ev_int pj1) (ea_cons (ev_ixT (UItem.evv_sweep (ev_varK 2 rfl r_one kv_joined_2) h_t15) ev_int pj2) (ea_cons (ev_catT (ev_ixT (UItem.evv_sweep (ev_varK 2 rfl r_one kv_joined_2) h_t16) ev_int pj3) (ev_ixT (UItem.evv_sweep (ev_varK 3 rfl r_other kv_joined_3) h_t17) ev_int pj3) h_t18) ea_nil)))))) el_nil) (by show 1 ≤ sizeLine; decide)) ea_nil)))) h_t19 gl_joined_put) fun v_ F_ H_ g_ rv_ => kr _ _ _ _ (Option.some.inj hm) (G.trans g_) rv_
    | x e8 =>
      refine go_setZ 3 G.sm (EvX.rz (ex_call tk_ (ok_sweep_at T) (hr.mono (by omega)) T.g_sweep_at T.F_sweep_at.kp (b_sweep_at T) (ea_cons (ev_varK 0 rfl r_plan kv_joined_0) (ea_cons (ev_catT (ev_sliceT (ev_varK 1 rfl r_path kv_joined_1) eo_none (eo_some (ev_neg ev_int))) (ev_tp (el_cons (ev_add (ev_ixTp (ev_varK 1 rfl r_path kv_joined_1) (ev_neg ev_int) h_t4) ev_int) el_nil) (by show 1 ≤ sizeLine; decide)) h_t5) ea_nil)) h_t6 gl_joined_sweep_at) (fun F H cls_ dd_ g xr_ => ?_)) sc_joined.nd
      exact kx _ (Option.some.inj hm) _ _ _ _ (G.trans g) xr_
  | x e3 =>
    refine go_setZ 2 G.sm (EvX.rz (ex_call tk_ (ok_sweep_at T) (hr.mono (by omega)) T.g_sweep_at T.F_sweep_at.kp (b_sweep_at T) (ea_cons (ev_varK 0 rfl r_plan kv_joined_0) (ea_cons (ev_varK 1 rfl r_path kv_joined_1) ea_nil)) h_t1 gl_joined_sweep_at) (fun F H cls_ dd_ g xr_ => ?_)) sc_joined.nd
    exact kx _ (Option.some.inj hm) _ _ _ _ (G.trans g) xr_
/-! parted -/
theorem sc_parted : FnScope ["plan", "path", "n", "word", "is_cut", "way", "items"] ["plan", "path", "n"] (defScope s_parted) := ⟨rfl, rfl, rfl, by decide +kernel, rfl, by decide +kernel, by decide +kernel⟩
theorem b_parted (T : TxB K mg base) : Binds K T.d_parted ["plan", "path", "n"] [] := T.F_parted.bindsN fun _ _ _ _ _ _ us hl => match us, hl with | [_, _, _], _ => rfl
theorem kv_parted_0 : VKn (defScope s_parted) "plan" := ⟨by first | exact Or.inl (by decide +kernel) | exact Or.inr (Or.inl (by decide +kernel)) | exact Or.inr (Or.inr (by decide +kernel)), by decide, by decide⟩
theorem kv_parted_1 : VKn (defScope s_parted) "path" := ⟨by first | exact Or.inl (by decide +kernel) | exact Or.inr (Or.inl (by decide +kernel)) | exact Or.inr (Or.inr (by decide +kernel)), by decide, by decide⟩
theorem kv_parted_2 : VKn (defScope s_parted) "n" := ⟨by first | exact Or.inl (by decide +kernel) | exact Or.inr (Or.inl (by decide +kernel)) | exact Or.inr (Or.inr (by decide +kernel)), by decide, by decide⟩
theorem kv_parted_3 : VKn (defScope s_parted) "word" := ⟨by first | exact Or.inl (by decide +kernel) | exact Or.inr (Or.inl (by decide +kernel)) | exact Or.inr (Or.inr (by decide +kernel)), by decide, by decide⟩
theorem kv_parted_4 : VKn (defScope s_parted) "is_cut" := ⟨by first | exact Or.inl (by decide +kernel) | exact Or.inr (Or.inl (by decide +kernel)) | exact Or.inr (Or.inr (by decide +kernel)), by decide, by decide⟩
theorem kv_parted_5 : VKn (defScope s_parted) "way" := ⟨by first | exact Or.inl (by decide +kernel) | exact Or.inr (Or.inl (by decide +kernel)) | exact Or.inr (Or.inr (by decide +kernel)), by decide, by decide⟩
theorem kv_parted_6 : VKn (defScope s_parted) "items" := ⟨by first | exact Or.inl (by decide +kernel) | exact Or.inr (Or.inl (by decide +kernel)) | exact Or.inr (Or.inr (by decide +kernel)), by decide, by decide⟩
theorem gl_parted_put : (defScope s_parted).names.lookup ("put" : Str) = some NameKind.globalImplicit := by decide +kernel
theorem gl_parted_sweep_at : (defScope s_parted).names.lookup ("sweep_at" : Str) = some NameKind.globalImplicit := by decide +kernel
theorem ok_parted (T : TxB K mg base) : FnOk P w K mg base (L2.CX P w) 12 (He.fAd K ("parted", none)) T.d_parted ["plan", "path", "n"] (PrE K fun (a_ : (Tp UItem) × (Tp Int) × Int × Unit) => m_parted a_.1 a_.2.1 a_.2.2.1) := by
  refine fn_okX T.F_parted sc_parted rfl fun cdv A outer s_ F0 H0 vs a_ r D_ E_ hr sm_ ra_ hm kr kn kx tk_ po_ => ?_
  obtain ⟨v_plan, _, rfl, r_plan, v_path, _, rfl, r_path, v_n, _, rfl, r_n, rfl⟩ := ra_
  obtain ⟨x_plan, x_path, x_n, _u⟩ := a_
  have G : GrX K F0 H0 F0 H0 := .refl sm_
  replace hm : m_parted x_plan x_path x_n = some r := hm
  unfold m_parted at hm
  have r_plan : rp (α := (Tp UItem)) K F0 v_plan x_plan := r_plan
  have r_path : rp (α := (Tp Int)) K F0 v_path x_path := r_path
  have r_n : rp (α := Int) K F0 v_n x_n := r_n
  change GoS _ _ _ [some v_plan, some v_path, some v_n, none, none, none, none] _
  obtain ⟨t1, h_t1, hm⟩ := Option.bind_eq_some_iff.mp hm
  cases t1 with
  | v t2 =>
    obtain ⟨t4, h_t4, hm⟩ := Option.bind_eq_some_iff.mp hm
    obtain ⟨i5, he, hm⟩ := Option.bind_eq_some_iff.mp hm
    refine go_unpack G.sm (UItem.evv_sweep (EvX.ok (ex_call tk_ (ok_sweep_at T) (hr.mono (by omega)) T.g_sweep_at T.F_sweep_at.kp (b_sweep_at T) (ea_cons (ev_varK 0 rfl r_plan kv_parted_0) (ea_cons (ev_varK 1 rfl r_path kv_parted_1) ea_nil)) h_t1 gl_parted_sweep_at)) h_t4) (pg_tup rfl (pgs_cons (pg_name (i := 3) sc_parted.nd rfl (by first | exact Or.inl rfl | exact Or.inr rfl)) (pgs_cons (pg_name (i := 4) sc_parted.nd rfl (by first | exact Or.inl rfl | exact Or.inr rfl)) (pgs_cons (pg_name (i := 5) sc_parted.nd rfl (by first | exact Or.inl rfl | exact Or.inr rfl)) (pgs_cons (pg_name (i := 6) sc_parted.nd rfl (by first | exact Or.inl rfl | exact Or.inr rfl)) pgs_nil))))) (fun w_ F H g ri_ Q_ hQ_ => ?_)
    have ri_ := cg (Option.some.inj he) ri_
    have G := G.trans g
    have r_plan := Rp.mono g.ff r_plan
    have r_path := Rp.mono g.ff r_path
    have r_n := Rp.mono g.ff r_n
    obtain ⟨pa6, _, rfl, sq7, v_word, _, rfl, r_word, v_is_cut, _, rfl, r_is_cut, v_way, _, rfl, r_way, v_items, _, rfl, r_items, rfl⟩ := ri_
    refine ⟨pa6, _, rfl, seqT_mono G.fh sq7, rfl, _, _, rfl, _, _, rfl, _, _, rfl, _, _, rfl, rfl, hQ_ _ _ ?_⟩
    change GoS _ _ _ [some v_plan, some v_path, some v_n, some v_word, some v_is_cut, some v_way, some v_items] _
    refine go_ifA ((!((decide ((1 : Int) ≤ x_n)) && (decide (x_n < (i5.d.l.length : Int)))))) G.sm (et_not (et_chain op_le op_lt o2_le o2_lt ev_int (ev_varK 2 rfl r_n kv_parted_2) (ev_callB call_len_seq oc_lenTp T.n_len PySem.boot_len (ea_cons (ev_varK 6 rfl r_items kv_parted_6) ea_nil)))) (fun hc F H g => ?_) (fun hc F H g => ?_)
    · replace hm := ipos hc hm
      have G := G.trans g
      have r_plan := Rp.mono g.ff r_plan
      have r_path := Rp.mono g.ff r_path
      have r_n := Rp.mono g.ff r_n
      have r_word := Rp.mono g.ff r_word
      have r_is_cut := Rp.mono g.ff r_is_cut
      have r_way := Rp.mono g.ff r_way
      have r_items := Rp.mono g.ff r_items
      exact go_raise0 G.sm tk_ T.xn_NoTurning T.g_NoTurning (kx _ (Option.some.inj hm) _ _ _ _ G ⟨rfl, rfl⟩)
    · replace hm := ineg (nt hc) hm
      have G := G.trans g
      have r_plan := Rp.mono g.ff r_plan
      have r_path := Rp.mono g.ff r_path
      have r_n := Rp.mono g.ff r_n
      have r_word := Rp.mono g.ff r_word
      have r_is_cut := Rp.mono g.ff r_is_cut
      have r_way := Rp.mono g.ff r_way
      have r_items := Rp.mono g.ff r_items
      refine GoS.nil ?_
      obtain ⟨t8, h_t8, hm⟩ := Option.bind_eq_some_iff.mp hm
      obtain ⟨t9, h_t9, hm⟩ := Option.bind_eq_some_iff.mp hm
      obtain ⟨t10, h_t10, hm⟩ := Option.bind_eq_some_iff.mp hm
      exact go_retA ((Tp UItem)) G.sm (ev_call (ok_put T 10) (hr.mono (by omega)) T.g_put T.F_put.kp (b_put T) (ea_cons (ev_varK 0 rfl r_plan kv_parted_0) (ea_cons (ev_varK 1 rfl r_path kv_parted_1) (ea_cons ev_int (ea_cons (ev_tp (el_cons (UItem.evinv_sweep (ev_tup4 (ea_cons (ev_varK 3 rfl r_word kv_parted_3) (ea_cons (ev_varK 4 rfl r_is_cut kv_parted_4) (ea_cons (ev_varK 5 rfl r_way kv_parted_5) (ea_cons (ev_sliceT (ev_varK 6 rfl r_items kv_parted_6) eo_none (eo_some (ev_varK 2 rfl r_n kv_parted_2))) ea_nil))))) h_t8) (el_cons (UItem.evinv_sweep (ev_tup4 (ea_cons (ev_varK 3 rfl r_word kv_parted_3) (ea_cons (ev_varK 4 rfl r_is_cut kv_parted_4) (ea_cons (ev_varK 5 rfl r_way kv_parted_5) (ea_cons (ev_sliceT (ev_varK 6 rfl r_items kv_parted_6) (eo_some (ev_varK 2 rfl r_n kv_parted_2)) eo_none) ea_nil))))) h_t9) el_nil)) (by show 2 ≤ sizeLine; decide)) ea_nil)))) h_t10 gl_parted_put) fun v_ F_ H_ g_ rv_ => kr _ _ _ _ (Option.some.inj hm) (G.trans g_) rv_
  | x e3 =>
    refine go_unpackZ (g := gTup K 4 (gCons (gName 3) (gCons (gName 4) (gCons (gName 5) (gCons (gName 6) gNil))))) G.sm (EvX.rz (ex_call tk_ (ok_sweep_at T) (hr.mono (by omega)) T.g_sweep_at T.F_sweep_at.kp (b_sweep_at T) (ea_cons (ev_varK 0 rfl r_plan kv_parted_0) (ea_cons (ev_varK 1 rfl r_path kv_parted_1) ea_nil)) h_t1 gl_parted_sweep_at) (fun F H cls_ dd_ g xr_ => ?_)) (pg_tup rfl (pgs_cons (pg_name (i := 3) sc_parted.nd rfl (by first | exact Or.inl rfl | exact Or.inr rfl)) (pgs_cons (pg_name (i := 4) sc_parted.nd rfl (by first | exact Or.inl rfl | exact Or.inr rfl)) (pgs_cons (pg_name (i := 5) sc_parted.nd rfl (by first | exact Or.inl rfl | exact Or.inr rfl)) (pgs_cons (pg_name (i := 6) sc_parted.nd rfl (by first | exact Or.inl rfl | exact Or.inr rfl)) pgs_nil)))))
    exact kx _ (Option.some.inj hm) _ _ _ _ (G.trans g) xr_
/-! turned -/
theorem sc_turned : FnScope ["plan", "path", "word", "is_cut", "way", "items"] ["plan", "path"] (defScope s_turned) := ⟨rfl, rfl, rfl, by decide +kernel, rfl, by decide +kernel, by decide +kernel⟩
theorem b_turned (T : TxB K mg base) : Binds K T.d_turned ["plan", "path"] [] := T.F_turned.bindsN fun _ _ _ _ _ _ us hl => match us, hl with | [_, _], _ => rfl
theorem kv_turned_0 : VKn (defScope s_turned) "plan" := ⟨by first | exact Or.inl (by decide +kernel) | exact Or.inr (Or.inl (by decide +kernel)) | exact Or.inr (Or.inr (by decide +kernel)), by decide, by decide⟩
theorem kv_turned_1 : VKn (defScope s_turned) "path" := ⟨by first | exact Or.inl (by decide +kernel) | exact Or.inr (Or.inl (by decide +kernel)) | exact Or.inr (Or.inr (by decide +kernel)), by decide, by decide⟩
theorem kv_turned_2 : VKn (defScope s_turned) "word" := ⟨by first | exact Or.inl (by decide +kernel) | exact Or.inr (Or.inl (by decide +kernel)) | exact Or.inr (Or.inr (by decide +kernel)), by decide, by decide⟩
theorem kv_turned_3 : VKn (defScope s_turned) "is_cut" := ⟨by first | exact Or.inl (by decide +kernel) | exact Or.inr (Or.inl (by decide +kernel)) | exact Or.inr (Or.inr (by decide +kernel)), by decide, by decide⟩
theorem kv_turned_4 : VKn (defScope s_turned) "way" := ⟨by first | exact Or.inl (by decide +kernel) | exact Or.inr (Or.inl (by decide +kernel)) | exact Or.inr (Or.inr (by decide +kernel)), by decide, by decide⟩
theorem kv_turned_5 : VKn (defScope s_turned) "items" := ⟨by first | exact Or.inl (by decide +kernel) | exact Or.inr (Or.inl (by decide +kernel)) | exact Or.inr (Or.inr (by decide +kernel)), by decide, by decide⟩
theorem gl_turned_put : (defScope s_turned).names.lookup ("put" : Str) = some NameKind.globalImplicit := by decide +kernel
theorem gl_turned_sweep_at : (defScope s_turned).names.lookup ("sweep_at" : Str) = some NameKind.globalImplicit := by decide +kernel
theorem ok_turned (T : TxB K mg base) : FnOk P w K mg base (L2.CX P w) 12 (He.fAd K ("turned", none)) T.d_turned ["plan", "path"] (PrE K fun (a_ : (Tp UItem) × (Tp Int) × Unit) => m_turned a_.1 a_.2.1) := by
  refine fn_okX T.F_turned sc_turned rfl fun cdv A outer s_ F0 H0 vs a_ r D_ E_ hr sm_ ra_ hm kr kn kx tk_ po_ => ?_
  obtain ⟨v_plan, _, rfl, r_plan, v_path, _, rfl, r_path, rfl⟩ := ra_
  obtain ⟨x_plan, x_path, _u⟩ := a_
  have G : GrX K F0 H0 F0 H0 := .refl sm_
  replace hm : m_turned x_plan x_path = some r := hm
  unfold m_turned at hm
  have r_plan : rp (α := (Tp UItem)) K F0 v_plan x_plan := r_plan
  have r_path : rp (α := (Tp Int)) K F0 v_path x_path := r_path
  change GoS _ _ _ [some v_plan, some v_path, none, none, none, none] _
  obtain ⟨t1, h_t1, hm⟩ := Option.bind_eq_some_iff.mp hm
  cases t1 with
  | v t2 =>
    obtain ⟨t4, h_t4, hm⟩ := Option.bind_eq_some_iff.mp hm
    obtain ⟨i5, he, hm⟩ := Option.bind_eq_some_iff.mp hm
    refine go_unpack G.sm (UItem.evv_sweep (EvX.ok (ex_call tk_ (ok_sweep_at T) (hr.mono (by omega)) T.g_sweep_at T.F_sweep_at.kp (b_sweep_at T) (ea_cons (ev_varK 0 rfl r_plan kv_turned_0) (ea_cons (ev_varK 1 rfl r_path kv_turned_1) ea_nil)) h_t1 gl_turned_sweep_at)) h_t4) (pg_tup rfl (pgs_cons (pg_name (i := 2) sc_turned.nd rfl (by first | exact Or.inl rfl | exact Or.inr rfl)) (pgs_cons (pg_name (i := 3) sc_turned.nd rfl (by first | exact Or.inl rfl | exact Or.inr rfl)) (pgs_cons (pg_name (i := 4) sc_turned.nd rfl (by first | exact Or.inl rfl | exact Or.inr rfl)) (pgs_cons (pg_name (i := 5) sc_turned.nd rfl (by first | exact Or.inl rfl | exact Or.inr rfl)) pgs_nil))))) (fun w_ F H g ri_ Q_ hQ_ => ?_)
    have ri_ := cg (Option.some.inj he) ri_
    have G := G.trans g
    have r_plan := Rp.mono g.ff r_plan
    have r_path := Rp.mono g.ff r_path
    obtain ⟨pa6, _, rfl, sq7, v_word, _, rfl, r_word, v_is_cut, _, rfl, r_is_cut, v_way, _, rfl, r_way, v_items, _, rfl, r_items, rfl⟩ := ri_
    refine ⟨pa6, _, rfl, seqT_mono G.fh sq7, rfl, _, _, rfl, _, _, rfl, _, _, rfl, _, _, rfl, rfl, hQ_ _ _ ?_⟩
    change GoS _ _ _ [some v_plan, some v_path, some v_word, some v_is_cut, some v_way, some v_items] _
    refine go_ifA ((decide (i5.c = ("any" : Str)))) G.sm (et_cmp op_eq o2_eq (ev_varK 4 rfl r_way kv_turned_4) ev_str (nomark _)) (fun hc F H g => ?_) (fun hc F H g => ?_)
    · replace hm := ipos hc hm
      have G := G.trans g
      have r_plan := Rp.mono g.ff r_plan
      have r_path := Rp.mono g.ff r_path
      have r_word := Rp.mono g.ff r_word
      have r_is_cut := Rp.mono g.ff r_is_cut
      have r_way := Rp.mono g.ff r_way
      have r_items := Rp.mono g.ff r_items
      exact go_raise0 G.sm tk_ T.xn_NoTurning T.g_NoTurning (kx _ (Option.some.inj hm) _ _ _ _ G ⟨rfl, rfl⟩)
    · replace hm := ineg (nt hc) hm
      have G := G.trans g
      have r_plan := Rp.mono g.ff r_plan
      have r_path := Rp.mono g.ff r_path
      have r_word := Rp.mono g.ff r_word
      have r_is_cut := Rp.mono g.ff r_is_cut
      have r_way := Rp.mono g.ff r_way
      have r_items := Rp.mono g.ff r_items
      refine GoS.nil ?_
      refine go_ifA ((decide (i5.c = ("up" : Str)))) G.sm (et_cmp op_eq o2_eq (ev_varK 4 rfl r_way kv_turned_4) ev_str (nomark _)) (fun hc F H g => ?_) (fun hc F H g => ?_)
      · replace hm := ipos hc hm
        have G := G.trans g
        have r_plan := Rp.mono g.ff r_plan
        have r_path := Rp.mono g.ff r_path
        have r_word := Rp.mono g.ff r_word
        have r_is_cut := Rp.mono g.ff r_is_cut
        have r_way := Rp.mono g.ff r_way
        have r_items := Rp.mono g.ff r_items
        obtain ⟨t8, h_t8, hm⟩ := Option.bind_eq_some_iff.mp hm
        obtain ⟨t9, h_t9, hm⟩ := Option.bind_eq_some_iff.mp hm
        exact go_retA ((Tp UItem)) G.sm (ev_call (ok_put T 10) (hr.mono (by omega)) T.g_put T.F_put.kp (b_put T) (ea_cons (ev_varK 0 rfl r_plan kv_turned_0) (ea_cons (ev_varK 1 rfl r_path kv_turned_1) (ea_cons ev_int (ea_cons (ev_tp (el_cons (UItem.evinv_sweep (ev_tup4 (ea_cons (ev_varK 2 rfl r_word kv_turned_2) (ea_cons (ev_varK 3 rfl r_is_cut kv_turned_3) (ea_cons ev_str (ea_cons (ev_varK 5 rfl r_items kv_turned_5) ea_nil))))) h_t8) el_nil) (by show 1 ≤ sizeLine; decide)) ea_nil)))) h_t9 gl_turned_put) fun v_ F_ H_ g_ rv_ => kr _ _ _ _ (Option.some.inj hm) (G.trans g_) rv_
      · replace hm := ineg (nt hc) hm
        have G := G.trans g
        have r_plan := Rp.mono g.ff r_plan
        have r_path := Rp.mono g.ff r_path
        have r_word := Rp.mono g.ff r_word
        have r_is_cut := Rp.mono g.ff r_is_cut
        have r_way := Rp.mono g.ff r_way
        have r_items := Rp.mono g.ff r_items
        refine GoS.nil ?_
        obtain ⟨t10, h_t10, hm⟩ := Option.bind_eq_some_iff.mp hm
        obtain ⟨t11, h_t11, hm⟩ := Option.bind_eq_some_iff.mp hm
        exact go_retA ((Tp UItem)) G.sm (ev_call (ok_put T 10) (hr.mono (by omega)) T.g_put T.F_put.kp (b_put T) (ea_cons (ev_varK 0 rfl r_plan kv_turned_0) (ea_cons (ev_varK 1 rfl r_path kv_turned_1) (ea_cons ev_int (ea_cons (ev_tp (el_cons (UItem.evinv_sweep (ev_tup4 (ea_cons (ev_varK 2 rfl r_word kv_turned_2) (ea_cons (ev_varK 3 rfl r_is_cut kv_turned_3) (ea_cons ev_str (ea_cons (ev_varK 5 rfl r_items kv_turned_5) ea_nil))))) h_t10) el_nil) (by show 1 ≤ sizeLine; decide)) ea_nil)))) h_t11 gl_turned_put) fun v_ F_ H_ g_ rv_ => kr _ _ _ _ (Option.some.inj hm) (G.trans g_) rv_
  | x e3 =>
    refine go_unpackZ (g := gTup K 4 (gCons (gName 2) (gCons (gName 3) (gCons (gName 4) (gCons (gName 5) gNil))))) G.sm (EvX.rz (ex_call tk_ (ok_sweep_at T) (hr.mono (by omega)) T.g_sweep_at T.F_sweep_at.kp (b_sweep_at T) (ea_cons (ev_varK 0 rfl r_plan kv_turned_0) (ea_cons (ev_varK 1 rfl r_path kv_turned_1) ea_nil)) h_t1 gl_turned_sweep_at) (fun F H cls_ dd_ g xr_ => ?_)) (pg_tup rfl (pgs_cons (pg_name (i := 2) sc_turned.nd rfl (by first | exact Or.inl rfl | exact Or.inr rfl)) (pgs_cons (pg_name (i := 3) sc_turned.nd rfl (by first | exact Or.inl rfl | exact Or.inr rfl)) (pgs_cons (pg_name (i := 4) sc_turned.nd rfl (by first | exact Or.inl rfl | exact Or.inr rfl)) (pgs_cons (pg_name (i := 5) sc_turned.nd rfl (by first | exact Or.inl rfl | exact Or.inr rfl)) pgs_nil)))))
    exact kx _ (Option.some.inj hm) _ _ _ _ (G.trans g) xr_
/-! deeds_in -/
theorem sc_deeds_in : FnScope ["items", "found", "item"] ["items"] (defScope s_deeds_in) := ⟨rfl, rfl, rfl, by decide +kernel, rfl, by decide +kernel, by decide +kernel⟩
theorem b_deeds_in (T : TxB K mg base) : Binds K T.d_deeds_in ["items"] [] := T.F_deeds_in.bindsN fun _ _ _ _ _ _ us hl => match us, hl with | [_], _ => rfl
theorem kv_deeds_in_0 : VKn (defScope s_deeds_in) "items" := ⟨by first | exact Or.inl (by decide +kernel) | exact Or.inr (Or.inl (by decide +kernel)) | exact Or.inr (Or.inr (by decide +kernel)), by decide, by decide⟩
theorem kv_deeds_in_1 : VKn (defScope s_deeds_in) "found" := ⟨by first | exact Or.inl (by decide +kernel) | exact Or.inr (Or.inl (by decide +kernel)) | exact Or.inr (Or.inr (by decide +kernel)), by decide, by decide⟩
theorem kv_deeds_in_2 : VKn (defScope s_deeds_in) "item" := ⟨by first | exact Or.inl (by decide +kernel) | exact Or.inr (Or.inl (by decide +kernel)) | exact Or.inr (Or.inr (by decide +kernel)), by decide, by decide⟩
theorem gl_deeds_in_deeds_in : (defScope s_deeds_in).names.lookup ("deeds_in" : Str) = some NameKind.globalImplicit := by decide +kernel
theorem ok_deeds_in (T : TxB K mg base) : ∀ n_ : Nat, FnOk P w K mg base CX0 (0 + n_ + 1) (He.fAd K ("deeds_in", none)) T.d_deeds_in ["items"] (Pr K fun (a_ : (Tp UItem) × Unit) => m_deeds_in n_ a_.1)
  | 0 => by
    refine fn_ok T.F_deeds_in sc_deeds_in rfl fun cdv A outer s_ F0 H0 vs a_ r D_ E_ hr sm_ ra_ hm kr kn => ?_
    exact nomatch (show none = some r from hm)
  | n_ + 1 => by
    have ih_ := ok_deeds_in T n_
    refine fn_ok T.F_deeds_in sc_deeds_in rfl fun cdv A outer s_ F0 H0 vs a_ r D_ E_ hr sm_ ra_ hm kr kn => ?_
    obtain ⟨v_items, _, rfl, r_items, rfl⟩ := ra_
    obtain ⟨x_items, _u⟩ := a_
    have G : GrX K F0 H0 F0 H0 := .refl sm_
    replace hm : m_deeds_in (n_ + 1) x_items = some r := hm
    rw [m_deeds_in] at hm
    have r_items : rp (α := (Tp UItem)) K F0 v_items x_items := r_items
    change GoS _ _ _ [some v_items, none, none] _
    obtain ⟨x_found, he, hm⟩ := Option.bind_eq_some_iff.mp hm
    refine go_setNA ((List (T2 Int (Tp (T2 Int Int))))) 1 G.sm (en_list el_nil (Nat.zero_le _)) (fun l_found vs_ F H g nl_ fl_ hl_ rs_ => ?_) sc_deeds_in.nd
    have n0_ := G.hh.free nl_
    have G := G.trans g
    have r_items := Rp.mono g.ff r_items
    have o_found : Own K _ F H l_found _ := Own.cg (Option.some.inj he) ⟨n0_, fl_, vs_, hl_, rs_⟩
    change GoS _ _ _ [some v_items, some (.ref l_found), none] _
    obtain ⟨b11, ho_, hm⟩ := Option.bind_eq_some_iff.mp hm
    refine go_forN G.sm (ei_tp (ev_varK 0 rfl r_items kv_deeds_in_0)) (pg_name (i := 2) sc_deeds_in.nd rfl (by first | exact Or.inl rfl | exact Or.inr rfl)) ho_ (fun F H g => ?_) PassesOwn.never
    have G := G.trans g
    have o_found := o_found.up g
    refine ⟨fun (b1 : (List (T2 Int (Tp (T2 Int Int))))) σ_ F_ H_ => ∃ (u_item : Option V), σ_ = [some v_items, some (.ref l_found), u_item] ∧ GrX K F0 H0 F_ H_ ∧ Own K H0 F_ H_ l_found b1, ⟨_, rfl, G, o_found⟩, ?_, ?_⟩
    ·
      intro b1 x_item o_ hm σ_ F H v_item s1_ s2_ iv_ F H g r_item Q_ hQ_
      obtain ⟨u_item, rfl, G, o_found⟩ := iv_
      have sb4 := g.ff
      have G := G.trans g
      have o_found := o_found.up g
      refine hQ_ _ _ ?_
      change GoS _ _ _ [some v_items, some (.ref l_found), some v_item] _
      refine go_ifA ((decide (x_item.tag = ("deed" : Str)))) G.sm (et_cmp op_eq o2_eq (UItem.ev_tag (ev_varK 2 rfl r_item kv_deeds_in_2)) ev_str (nomark _)) (fun hc F H g => ?_) (fun hc F H g => ?_)
      · replace hm := ipos hc hm
        have G := G.trans g
        have o_found := o_found.up g
        have r_item := Rp.mono g.ff r_item
        have sb4 := sb4.trans g.ff
        obtain ⟨t5, h_t5, hm⟩ := Option.bind_eq_some_iff.mp hm
        obtain ⟨t6, h_t6, hm⟩ := Option.bind_eq_some_iff.mp hm
        obtain ⟨t7, he, hm⟩ := Option.bind_eq_some_iff.mp hm
        refine go_append 1 G.sm o_found rfl (ev_tup2 (ea_cons (ev_ixT (UItem.evv_deed (ev_varK 2 rfl r_item kv_deeds_in_2) h_t5) ev_int pj1) (ea_cons (ev_ixT (UItem.evv_deed (ev_varK 2 rfl r_item kv_deeds_in_2) h_t6) ev_int pj2) ea_nil))) he (fun w_ F H g nz_ fz_ on_ => ?_)
        have G := G.trans g
        have r_item := Rp.mono g.ff r_item
        have sb4 := sb4.trans g.ff
        have G := G.poke (u := w_) on_.n fz_ nz_ on_.pl
        have o_found := on_
        refine GoS.nil ?_
        have hm := Option.some.inj hm
        subst hm
        exact GoS.nil ⟨_, sb4, G.fh, ⟨_, rfl, G, o_found⟩⟩
      · replace hm := ineg (nt hc) hm
        have G := G.trans g
        have o_found := o_found.up g
        have r_item := Rp.mono g.ff r_item
        have sb4 := sb4.trans g.ff
        obtain ⟨t8, h_t8, hm⟩ := Option.bind_eq_some_iff.mp hm
        obtain ⟨t9, h_t9, hm⟩ := Option.bind_eq_some_iff.mp hm
        obtain ⟨t10, h_t10, hm⟩ := Option.bind_eq_some_iff.mp hm
        refine go_exprM (ρ := Unit) (β := (List (T2 Int (Tp (T2 Int Int))))) G.sm (em_extend 1 o_found rfl (ev_call ih_ (hr.mono (by omega)) T.g_deeds_in T.F_deeds_in.kp (b_deeds_in T) (ea_cons (ev_ixT (UItem.evv_sweep (ev_varK 2 rfl r_item kv_deeds_in_2) h_t8) ev_int pj3) ea_nil) h_t9 gl_deeds_in_deeds_in) h_t10) (fun F H ob_ g fl_ hl_ rb_ => ?_)
        have Gm_ := G.over o_found.n g o_found.pl
        have r_item := Rp.mono g.ff r_item
        have sb4 := sb4.trans g.ff
        have G := Gm_
        have o_found := Own.mk' o_found.n fl_ hl_ rb_
        refine GoS.nil ?_
        have hm := Option.some.inj hm
        subst hm
        exact GoS.nil ⟨_, sb4, G.fh, ⟨_, rfl, G, o_found⟩⟩
    · intro σ_ F H s1_ s2_ iv_
      obtain ⟨u_item, rfl, G, o_found⟩ := iv_
      refine o_found.freeze G (fun F H s_ s2_ G r_found k_ => ?_)
      exact go_ret G.sm (ev_varK 1 rfl r_found kv_deeds_in_1) fun v_ F_ H_ g_ rv_ => kr _ _ _ (G.trans g_) (cg (Option.some.inj hm) rv_)
/-! moved_change -/
theorem sc_moved_change : NdefX.NScope ["number", "places", "k", "level", "shifts"] ["number", "places"] ["k", "level", "shifts"] (defScope s_moved_change) := NdefX.nscope_by (by decide +kernel)
theorem nd_moved_change : NdefX.ndefB (defScope s_moved) (defScope s_moved_change) ["k", "level", "shifts"] = true := by decide +kernel
theorem kv_moved_change_0 : VKn (defScope s_moved_change) "number" := ⟨by first | exact Or.inl (by decide +kernel) | exact Or.inr (Or.inl (by decide +kernel)) | exact Or.inr (Or.inr (by decide +kernel)), by decide, by decide⟩
theorem kv_moved_change_1 : VKn (defScope s_moved_change) "places" := ⟨by first | exact Or.inl (by decide +kernel) | exact Or.inr (Or.inl (by decide +kernel)) | exact Or.inr (Or.inr (by decide +kernel)), by decide, by decide⟩
theorem kv_moved_change_2 : VKn (defScope s_moved_change) "k" := ⟨by first | exact Or.inl (by decide +kernel) | exact Or.inr (Or.inl (by decide +kernel)) | exact Or.inr (Or.inr (by decide +kernel)), by decide, by decide⟩
theorem kv_moved_change_3 : VKn (defScope s_moved_change) "level" := ⟨by first | exact Or.inl (by decide +kernel) | exact Or.inr (Or.inl (by decide +kernel)) | exact Or.inr (Or.inr (by decide +kernel)), by decide, by decide⟩
theorem kv_moved_change_4 : VKn (defScope s_moved_change) "shifts" := ⟨by first | exact Or.inl (by decide +kernel) | exact Or.inr (Or.inl (by decide +kernel)) | exact Or.inr (Or.inr (by decide +kernel)), by decide, by decide⟩
theorem nok_moved_change (T : TxB K mg base) (f_ c_ : Addr) (q_ : Str) (cl_ : List (Str × Addr)) (v_k : V) (v_level : V) (v_shifts : V) (x_k : Int) (x_level : Int) (x_shifts : (List Int)) : NokF P w K mg base 1 (cf_moved_change f_ c_ q_ cl_ v_k v_level v_shifts x_k x_level x_shifts) := by
  refine nokF sc_moved_change rfl (fun doc pm ctv us hl => match us, hl with | [_, _], _ => rfl) fun A outer s_ F0 H0 vs a_ r D_ E_ hr sm_ hR_ ra_ hm kr kn => ?_
  obtain ⟨r_k, r_level, r_shifts, _⟩ := hR_
  obtain ⟨v_number, _, rfl, r_number, v_places, _, rfl, r_places, rfl⟩ := ra_
  obtain ⟨x_number, x_places, _u⟩ := a_
  have G : GrX K F0 H0 F0 H0 := .refl sm_
  replace hm : m_moved_change x_k x_level x_shifts x_number x_places = some r := hm
  unfold m_moved_change at hm
  have r_k : rp (α := Int) K F0 v_k x_k := r_k
  have r_level : rp (α := Int) K F0 v_level x_level := r_level
  have r_shifts : rp (α := (List Int)) K F0 v_shifts x_shifts := r_shifts
  have r_number : rp (α := Int) K F0 v_number x_number := r_number
  have r_places : rp (α := (Tp (T2 Int Int))) K F0 v_places x_places := r_places
  change GoS _ _ _ [some v_number, some v_places, some v_k, some v_level, some v_shifts] _
  refine go_ifA ((!decide (x_number = x_k))) G.sm (et_cmp op_ne o2_ne (ev_varK 0 rfl r_number kv_moved_change_0) (ev_varK 2 rfl r_k kv_moved_change_2) (nomark _)) (fun hc F H g => ?_) (fun hc F H g => ?_)
  · replace hm := ipos hc hm
    have G := G.trans g
    have r_number := Rp.mono g.ff r_number
    have r_places := Rp.mono g.ff r_places
    have r_k := Rp.mono g.ff r_k
    have r_level := Rp.mono g.ff r_level
    have r_shifts := Rp.mono g.ff r_shifts
    exact go_ret G.sm (ev_varK 1 rfl r_places kv_moved_change_1) fun v_ F_ H_ g_ rv_ => kr _ _ _ (G.trans g_) (cg (Option.some.inj hm) rv_)
  · replace hm := ineg (nt hc) hm
    have G := G.trans g
    have r_number := Rp.mono g.ff r_number
    have r_places := Rp.mono g.ff r_places
    have r_k := Rp.mono g.ff r_k
    have r_level := Rp.mono g.ff r_level
    have r_shifts := Rp.mono g.ff r_shifts
    refine GoS.nil ?_
    obtain ⟨t1, h_t1, hm⟩ := Option.bind_eq_some_iff.mp hm
    obtain ⟨t2, h_t2, hm⟩ := Option.bind_eq_some_iff.mp hm
    obtain ⟨t3, h_t3, hm⟩ := Option.bind_eq_some_iff.mp hm
    obtain ⟨t4, h_t4, hm⟩ := Option.bind_eq_some_iff.mp hm
    exact go_ret G.sm (ev_catT (ev_catT (ev_sliceT (ev_varK 1 rfl r_places kv_moved_change_1) eo_none (eo_some (ev_varK 3 rfl r_level kv_moved_change_3))) (ev_tp (el_cons (ev_tup2 (ea_cons (ev_ixT (ev_ixTp (ev_varK 1 rfl r_places kv_moved_change_1) (ev_varK 3 rfl r_level kv_moved_change_3) h_t1) ev_int pj0) (ea_cons (ev_ixL (ev_varK 4 rfl r_shifts kv_moved_change_4) ev_int h_t2) ea_nil))) el_nil) (by show 1 ≤ sizeLine; decide)) h_t3) (ev_sliceT (ev_varK 1 rfl r_places kv_moved_change_1) (eo_some (ev_add (ev_varK 3 rfl r_level kv_moved_change_3) ev_int)) eo_none) h_t4) fun v_ F_ H_ g_ rv_ => kr _ _ _ (G.trans g_) (cg (Option.some.inj hm) rv_)
/-! moved -/
theorem sc_moved : FnScope ["plan", "path", "k", "n", "word", "is_cut", "way", "items", "level", "shifts", "number", "places", "change"] ["plan", "path", "k", "n"] (defScope s_moved) := ⟨rfl, rfl, rfl, by decide +kernel, rfl, by decide +kernel, by decide +kernel⟩
theorem b_moved (T : TxB K mg base) : Binds K T.d_moved ["plan", "path", "k", "n"] [] := T.F_moved.bindsN fun _ _ _ _ _ _ us hl => match us, hl with | [_, _, _, _], _ => rfl
theorem kv_moved_0 : VKn (defScope s_moved) "plan" := ⟨by first | exact Or.inl (by decide +kernel) | exact Or.inr (Or.inl (by decide +kernel)) | exact Or.inr (Or.inr (by decide +kernel)), by decide, by decide⟩
theorem kv_moved_1 : VKn (defScope s_moved) "path" := ⟨by first | exact Or.inl (by decide +kernel) | exact Or.inr (Or.inl (by decide +kernel)) | exact Or.inr (Or.inr (by decide +kernel)), by decide, by decide⟩
theorem kv_moved_4 : VKn (defScope s_moved) "word" := ⟨by first | exact Or.inl (by decide +kernel) | exact Or.inr (Or.inl (by decide +kernel)) | exact Or.inr (Or.inr (by decide +kernel)), by decide, by decide⟩
theorem kv_moved_5 : VKn (defScope s_moved) "is_cut" := ⟨by first | exact Or.inl (by decide +kernel) | exact Or.inr (Or.inl (by decide +kernel)) | exact Or.inr (Or.inr (by decide +kernel)), by decide, by decide⟩
theorem kv_moved_6 : VKn (defScope s_moved) "way" := ⟨by first | exact Or.inl (by decide +kernel) | exact Or.inr (Or.inl (by decide +kernel)) | exact Or.inr (Or.inr (by decide +kernel)), by decide, by decide⟩
theorem kv_moved_7 : VKn (defScope s_moved) "items" := ⟨by first | exact Or.inl (by decide +kernel) | exact Or.inr (Or.inl (by decide +kernel)) | exact Or.inr (Or.inr (by decide +kernel)), by decide, by decide⟩
theorem kv_moved_9 : VKn (defScope s_moved) "shifts" := ⟨by first | exact Or.inl (by decide +kernel) | exact Or.inr (Or.inl (by decide +kernel)) | exact Or.inr (Or.inr (by decide +kernel)), by decide, by decide⟩
theorem kv_moved_12 : VKn (defScope s_moved) "change" := ⟨by first | exact Or.inl (by decide +kernel) | exact Or.inr (Or.inl (by decide +kernel)) | exact Or.inr (Or.inr (by decide +kernel)), by decide, by decide⟩
theorem gl_moved_deeds_in : (defScope s_moved).names.lookup ("deeds_in" : Str) = some NameKind.globalImplicit := by decide +kernel
theorem gl_moved_each_deed : (defScope s_moved).names.lookup ("each_deed" : Str) = some NameKind.globalImplicit := by decide +kernel
theorem gl_moved_put : (defScope s_moved).names.lookup ("put" : Str) = some NameKind.globalImplicit := by decide +kernel
theorem gl_moved_sweep_at : (defScope s_moved).names.lookup ("sweep_at" : Str) = some NameKind.globalImplicit := by decide +kernel
theorem ok_moved (T : TxB K mg base) : FnOk P w K mg base (L2.CX P w) 20 (He.fAd K ("moved", none)) T.d_moved ["plan", "path", "k", "n"] (PrE K fun (a_ : (Tp UItem) × (Tp Int) × Int × Int × Unit) => m_moved a_.1 a_.2.1 a_.2.2.1 a_.2.2.2.1) := by
  refine fn_okXZ T.F_moved sc_moved rfl fun cdv A outer s_ F0 H0 vs a_ r D_ E_ hcd_ hr sm_ ra_ hm kr kn kx tk_ po_ => ?_
  obtain ⟨v_plan, _, rfl, r_plan, v_path, _, rfl, r_path, v_k, _, rfl, r_k, v_n, _, rfl, r_n, rfl⟩ := ra_
  obtain ⟨x_plan, x_path, x_k, x_n, _u⟩ := a_
  have G : GrX K F0 H0 F0 H0 := .refl sm_
  replace hm : m_moved x_plan x_path x_k x_n = some r := hm
  unfold m_moved at hm
  have r_plan : rp (α := (Tp UItem)) K F0 v_plan x_plan := r_plan
  have r_path : rp (α := (Tp Int)) K F0 v_path x_path := r_path
  have r_k : rp (α := Int) K F0 v_k x_k := r_k
  have r_n : rp (α := Int) K F0 v_n x_n := r_n
  change GoS _ _ _ [some v_plan, some v_path, some v_k, some v_n, none, none, none, none, none, none, none, none, none] _
  obtain ⟨t1, h_t1, hm⟩ := Option.bind_eq_some_iff.mp hm
  cases t1 with
  | v t2 =>
    obtain ⟨t4, h_t4, hm⟩ := Option.bind_eq_some_iff.mp hm
    obtain ⟨i5, he, hm⟩ := Option.bind_eq_some_iff.mp hm
    refine go_unpack G.sm (UItem.evv_sweep (EvX.ok (ex_call tk_ (ok_sweep_at T) (hr.mono (by omega)) T.g_sweep_at T.F_sweep_at.kp (b_sweep_at T) (ea_cons (ev_varK 0 rfl r_plan kv_moved_0) (ea_cons (ev_varK 1 rfl r_path kv_moved_1) ea_nil)) h_t1 gl_moved_sweep_at)) h_t4) (pg_tup rfl (pgs_cons (pg_name (i := 4) sc_moved.nd rfl (by first | exact Or.inl rfl | exact Or.inr rfl)) (pgs_cons (pg_name (i := 5) sc_moved.nd rfl (by first | exact Or.inl rfl | exact Or.inr rfl)) (pgs_cons (pg_name (i := 6) sc_moved.nd rfl (by first | exact Or.inl rfl | exact Or.inr rfl)) (pgs_cons (pg_name (i := 7) sc_moved.nd rfl (by first | exact Or.inl rfl | exact Or.inr rfl)) pgs_nil))))) (fun w_ F H g ri_ Q_ hQ_ => ?_)
    have ri_ := cg (Option.some.inj he) ri_
    have G := G.trans g
    have r_plan := Rp.mono g.ff r_plan
    have r_path := Rp.mono g.ff r_path
    have r_k := Rp.mono g.ff r_k
    have r_n := Rp.mono g.ff r_n
    obtain ⟨pa6, _, rfl, sq7, v_word, _, rfl, r_word, v_is_cut, _, rfl, r_is_cut, v_way, _, rfl, r_way, v_items, _, rfl, r_items, rfl⟩ := ri_
    refine ⟨pa6, _, rfl, seqT_mono G.fh sq7, rfl, _, _, rfl, _, _, rfl, _, _, rfl, _, _, rfl, rfl, hQ_ _ _ ?_⟩
    change GoS _ _ _ [some v_plan, some v_path, some v_k, some v_n, some v_word, some v_is_cut, some v_way, some v_items, none, none, none, none, none] _
    obtain ⟨x_level, he, hm⟩ := Option.bind_eq_some_iff.mp hm
    refine go_setA (Int) 8 G.sm (ev_sub (ev_callB call_len_seq oc_lenTp T.n_len PySem.boot_len (ea_cons (ev_varK 1 rfl r_path kv_moved_1) ea_nil)) ev_int) (fun v_level F H g rn_ => ?_) sc_moved.nd
    have G := G.trans g
    have r_plan := Rp.mono g.ff r_plan
    have r_path := Rp.mono g.ff r_path
    have r_k := Rp.mono g.ff r_k
    have r_n := Rp.mono g.ff r_n
    have r_word := Rp.mono g.ff r_word
    have r_is_cut := Rp.mono g.ff r_is_cut
    have r_way := Rp.mono g.ff r_way
    have r_items := Rp.mono g.ff r_items
    have r_level := cg (Option.some.inj he) rn_
    change GoS _ _ _ [some v_plan, some v_path, some v_k, some v_n, some v_word, some v_is_cut, some v_way, some v_items, some v_level, none, none, none, none] _
    obtain ⟨t8, h_t8, hm⟩ := Option.bind_eq_some_iff.mp hm
    obtain ⟨t14, h_t14, hm⟩ := Option.bind_eq_some_iff.mp hm
    obtain ⟨x_shifts, he, hm⟩ := Option.bind_eq_some_iff.mp hm
    first
      | refine go_setLci (own := [("number", 10), ("places", 11)]) (g := gTup K 2 (gCons (gName 10) (gCons (gName 11) gNil))) 9 G.sm sc_moved.nd (ei_list (ev_call (ok_deeds_in T 10) (hr.mono (by omega)) T.g_deeds_in T.F_deeds_in.kp (b_deeds_in T) (ea_cons (ev_varK 7 rfl r_items kv_moved_7) ea_nil) h_t8 gl_moved_deeds_in)) h_t14 (blkOk_by (N := ["plan", "path", "k", "n", "word", "is_cut", "way", "items", "level", "shifts", "number", "places", "change"]) (sc := defScope s_moved) (by decide +kernel)) (fun _ _ _ _ _ => (pg_tup rfl (pgs_cons (pg_name (i := 10) sc_moved.nd rfl (by first | exact Or.inl rfl | exact Or.inr rfl)) (pgs_cons (pg_name (i := 11) sc_moved.nd rfl (by first | exact Or.inl rfl | exact Or.inr rfl)) pgs_nil)))) (fun i9 o_ hm F H w13 g ri_ Q hQ => by
            have r_k := Rp.mono g.ff r_k
            have r_n := Rp.mono g.ff r_n
            have r_items := Rp.mono g.ff r_items
            have r_level := Rp.mono g.ff r_level
            obtain ⟨pa10, _, rfl, sq11, v_number, _, rfl, r_number, v_places, _, rfl, r_places, rfl⟩ := ri_
            refine ⟨pa10, _, rfl, seqT_mono g.fh sq11, rfl, _, _, rfl, _, _, rfl, rfl, hQ _ rfl ?_⟩
            refine ⟨_, fun s_ H_ C_ cl_ fp_ => (et_cmp op_eq o2_eq (ev_var 10 rfl r_number) (ev_var 2 rfl r_k) (nomark _)), fun hc => ?_, fun hc => ?_⟩
            · replace hm := ipos hc hm
              obtain ⟨t12, h_t12, hm⟩ := Option.bind_eq_some_iff.mp hm
              exact ⟨_, (Option.some.inj hm).symm, fun s_ H_ C_ cl_ fp_ => (ev_add (ev_ixT (ev_ixTp (ev_var 11 rfl r_places) (ev_var 8 rfl r_level) h_t12) ev_int pj1) (ev_var 3 rfl r_n))⟩
            · replace hm := ineg (nt hc) hm
              exact (Option.some.inj hm).symm) (fun l_shifts vs_ F H g nl_ fl_ hl_ rs_ => ?_)
      | refine go_setN 9 G.sm (en_compi (own := [("number", 10), ("places", 11)]) (g := gTup K 2 (gCons (gName 10) (gCons (gName 11) gNil))) sc_moved.nd (ei_list (ev_call (ok_deeds_in T 10) (hr.mono (by omega)) T.g_deeds_in T.F_deeds_in.kp (b_deeds_in T) (ea_cons (ev_varK 7 rfl r_items kv_moved_7) ea_nil) h_t8 gl_moved_deeds_in)) h_t14 (blkOk_by (N := ["plan", "path", "k", "n", "word", "is_cut", "way", "items", "level", "shifts", "number", "places", "change"]) (sc := defScope s_moved) (by decide +kernel)) (fun _ _ _ _ _ => (pg_tup rfl (pgs_cons (pg_name (i := 10) sc_moved.nd rfl (by first | exact Or.inl rfl | exact Or.inr rfl)) (pgs_cons (pg_name (i := 11) sc_moved.nd rfl (by first | exact Or.inl rfl | exact Or.inr rfl)) pgs_nil)))) (fun i9 o_ hm F H w13 g ri_ Q hQ => by
            have r_k := Rp.mono g.ff r_k
            have r_n := Rp.mono g.ff r_n
            have r_items := Rp.mono g.ff r_items
            have r_level := Rp.mono g.ff r_level
            obtain ⟨pa10, _, rfl, sq11, v_number, _, rfl, r_number, v_places, _, rfl, r_places, rfl⟩ := ri_
            refine ⟨pa10, _, rfl, seqT_mono g.fh sq11, rfl, _, _, rfl, _, _, rfl, rfl, hQ _ rfl ?_⟩
            refine ⟨_, fun s_ H_ C_ cl_ fp_ => (et_cmp op_eq o2_eq (ev_var 10 rfl r_number) (ev_var 2 rfl r_k) (nomark _)), fun hc => ?_, fun hc => ?_⟩
            · replace hm := ipos hc hm
              obtain ⟨t12, h_t12, hm⟩ := Option.bind_eq_some_iff.mp hm
              exact ⟨_, (Option.some.inj hm).symm, fun s_ H_ C_ cl_ fp_ => (ev_add (ev_ixT (ev_ixTp (ev_var 11 rfl r_places) (ev_var 8 rfl r_level) h_t12) ev_int pj1) (ev_var 3 rfl r_n))⟩
            · replace hm := ineg (nt hc) hm
              exact (Option.some.inj hm).symm)) (fun l_shifts vs_ F H g nl_ fl_ hl_ rs_ => ?_) sc_moved.nd
    have n0_ := G.hh.free nl_
    have G := G.trans g
    have r_plan := Rp.mono g.ff r_plan
    have r_path := Rp.mono g.ff r_path
    have r_k := Rp.mono g.ff r_k
    have r_n := Rp.mono g.ff r_n
    have r_word := Rp.mono g.ff r_word
    have r_is_cut := Rp.mono g.ff r_is_cut
    have r_way := Rp.mono g.ff r_way
    have r_items := Rp.mono g.ff r_items
    have r_level := Rp.mono g.ff r_level
    have o_shifts : Own K _ F H l_shifts _ := Own.cg (Option.some.inj he) ⟨n0_, fl_, vs_, hl_, rs_⟩
    refine o_shifts.freeze G (fun F H s_ s2_ G r_shifts k_ => ?_)
    have r_plan := Rp.mono s_ r_plan
    have r_path := Rp.mono s_ r_path
    have r_k := Rp.mono s_ r_k
    have r_n := Rp.mono s_ r_n
    have r_word := Rp.mono s_ r_word
    have r_is_cut := Rp.mono s_ r_is_cut
    have r_way := Rp.mono s_ r_way
    have r_items := Rp.mono s_ r_items
    have r_level := Rp.mono s_ r_level
    change GoS _ _ _ [some v_plan, some v_path, some v_k, some v_n, some v_word, some v_is_cut, some v_way, some v_items, some v_level, some (.ref l_shifts), none, none, none] _
    obtain ⟨t16, h_t16, hm⟩ := Option.bind_eq_some_iff.mp hm
    refine go_ifA (t16) G.sm (EvW.t (ew_orA (x_shifts.isEmpty) (et_cmp (op_eqE hr.units0) o2_eqEL (ev_varK 9 rfl r_shifts kv_moved_9) (EvN.evA ((List Int)) (en_list el_nil (Nat.zero_le _))) (nomark _)) (fun hc => by
            replace h_t16 := ineg (nt hc) h_t16
            obtain ⟨t15, h_t15, h_t16⟩ := Option.bind_eq_some_iff.mp h_t16
            exact EvW.cg (Option.some.inj h_t16) (ew_or1 (et_cmp op_gt o2_gt (ev_callB call_abs oc_abs T.n_abs (by decide +kernel) (ea_cons (ev_ixL (ev_varK 9 rfl r_shifts kv_moved_9) ev_int h_t15) ea_nil)) T.e_MOST_SHIFT (nomark _)))) (fun hc => by replace h_t16 := ipos hc h_t16; exact (Option.some.inj h_t16).symm))) (fun hc F H g => ?_) (fun hc F H g => ?_)
    · replace hm := ipos hc hm
      have G := G.trans g
      have r_plan := Rp.mono g.ff r_plan
      have r_path := Rp.mono g.ff r_path
      have r_k := Rp.mono g.ff r_k
      have r_word := Rp.mono g.ff r_word
      have r_is_cut := Rp.mono g.ff r_is_cut
      have r_way := Rp.mono g.ff r_way
      have r_items := Rp.mono g.ff r_items
      have r_level := Rp.mono g.ff r_level
      have r_shifts := Rp.mono g.ff r_shifts
      exact go_raise0 G.sm tk_ T.xn_NoTurning T.g_NoTurning (kx _ (Option.some.inj hm) _ _ _ _ G ⟨rfl, rfl⟩)
    · replace hm := ineg (nt hc) hm
      have G := G.trans g
      have r_plan := Rp.mono g.ff r_plan
      have r_path := Rp.mono g.ff r_path
      have r_k := Rp.mono g.ff r_k
      have r_word := Rp.mono g.ff r_word
      have r_is_cut := Rp.mono g.ff r_is_cut
      have r_way := Rp.mono g.ff r_way
      have r_items := Rp.mono g.ff r_items
      have r_level := Rp.mono g.ff r_level
      have r_shifts := Rp.mono g.ff r_shifts
      refine GoS.nil ?_
      refine go_ndef 12 G.sm T.tb_moved hcd_ (List.mem_map.mpr ⟨_, .tail _ (.head _), rfl⟩) (by show nmG 83 4 = ("moved" : Str) ++ ".<locals>." ++ "change"; decide +kernel) (NdefX.ndef_free nd_moved_change) (fun lf_change c_ H g n1_ n2_ => ?_) sc_moved.nd
      have G := G.trans g
      have r_plan := Rp.mono g.ff r_plan
      have r_path := Rp.mono g.ff r_path
      have r_k := Rp.mono g.ff r_k
      have r_word := Rp.mono g.ff r_word
      have r_is_cut := Rp.mono g.ff r_is_cut
      have r_way := Rp.mono g.ff r_way
      have r_items := Rp.mono g.ff r_items
      have r_level := Rp.mono g.ff r_level
      have r_shifts := Rp.mono g.ff r_shifts
      obtain ⟨fv_change, fq_change, r_change⟩ := ClF.ex (show ClF (cf_moved_change lf_change c_ _ _ (v_k) (v_level) ((.ref l_shifts)) x_k x_level x_shifts) K _ _ (.ref lf_change) from ⟨⟨rfl, ⟨r_k, r_level, r_shifts, trivial⟩⟩, ⟨n1_, n2_⟩⟩)
      have fk_change : NokF P w K mg base 8 fv_change := by rw [fq_change]; exact (nok_moved_change T _ _ _ _ _ _ _ _ _ _).mono (by omega)
      have fe_change : fv_change.fn = (fun a_ => m_moved_change x_k x_level x_shifts a_.1 a_.2.1) := by rw [fq_change]
      change GoS _ _ _ [some v_plan, some v_path, some v_k, some v_n, some v_word, some v_is_cut, some v_way, some v_items, some v_level, some (.ref l_shifts), none, none, some (.ref lf_change)] _
      obtain ⟨t17, h_t17, hm⟩ := Option.bind_eq_some_iff.mp hm
      obtain ⟨t18, h_t18, hm⟩ := Option.bind_eq_some_iff.mp hm
      obtain ⟨t19, h_t19, hm⟩ := Option.bind_eq_some_iff.mp hm
      exact go_retA ((Tp UItem)) G.sm (ev_call (ok_put T 10) (hr.mono (by omega)) T.g_put T.F_put.kp (b_put T) (ea_cons (ev_varK 0 rfl r_plan kv_moved_0) (ea_cons (ev_varK 1 rfl r_path kv_moved_1) (ea_cons ev_int (ea_cons (ev_tp (el_cons (UItem.evinv_sweep (ev_tup4 (ea_cons (ev_varK 4 rfl r_word kv_moved_4) (ea_cons (ev_varK 5 rfl r_is_cut kv_moved_5) (ea_cons (ev_varK 6 rfl r_way kv_moved_6) (ea_cons (ev_callZ (fv := fv_change) (ok_each_deed T fv_change fk_change 10) (hr.mono (by omega)) T.g_each_deed T.F_each_deed.kp (b_each_deed T) r_change (by rw [fq_change]; exact clA_made (sc := defScope s_moved_change) (js := [2, 8, 9]) rfl (NdefX.ndef_free nd_moved_change) (NdefX.ndef_fr nd_moved_change) rfl rfl) (ea_cons (ev_varK 7 rfl r_items kv_moved_7) (ea_cons (ev_varK 12 rfl r_change.r kv_moved_12) ea_nil)) (by show m_each_deed 10 i5.d fv_change.fn = some _; rw [fe_change]; exact h_t17) gl_moved_each_deed) ea_nil))))) h_t18) el_nil) (by show 1 ≤ sizeLine; decide)) ea_nil)))) h_t19 gl_moved_put) fun v_ F_ H_ g_ rv_ => kr _ _ _ _ (Option.some.inj hm) (G.trans g_) rv_
  | x e3 =>
    refine go_unpackZ (g := gTup K 4 (gCons (gName 4) (gCons (gName 5) (gCons (gName 6) (gCons (gName 7) gNil))))) G.sm (EvX.rz (ex_call tk_ (ok_sweep_at T) (hr.mono (by omega)) T.g_sweep_at T.F_sweep_at.kp (b_sweep_at T) (ea_cons (ev_varK 0 rfl r_plan kv_moved_0) (ea_cons (ev_varK 1 rfl r_path kv_moved_1) ea_nil)) h_t1 gl_moved_sweep_at) (fun F H cls_ dd_ g xr_ => ?_)) (pg_tup rfl (pgs_cons (pg_name (i := 4) sc_moved.nd rfl (by first | exact Or.inl rfl | exact Or.inr rfl)) (pgs_cons (pg_name (i := 5) sc_moved.nd rfl (by first | exact Or.inl rfl | exact Or.inr rfl)) (pgs_cons (pg_name (i := 6) sc_moved.nd rfl (by first | exact Or.inl rfl | exact Or.inr rfl)) (pgs_cons (pg_name (i := 7) sc_moved.nd rfl (by first | exact Or.inl rfl | exact Or.inr rfl)) pgs_nil)))))
    exact kx _ (Option.some.inj hm) _ _ _ _ (G.trans g) xr_
/-! cut_change -/
theorem sc_cut_change : NdefX.NScope ["k", "places", "level"] ["k", "places"] ["level"] (defScope s_cut_change) := NdefX.nscope_by (by decide +kernel)
theorem nd_cut_change : NdefX.ndefB (defScope s_cut) (defScope s_cut_change) ["level"] = true := by decide +kernel
theorem kv_cut_change_1 : VKn (defScope s_cut_change) "places" := ⟨by first | exact Or.inl (by decide +kernel) | exact Or.inr (Or.inl (by decide +kernel)) | exact Or.inr (Or.inr (by decide +kernel)), by decide, by decide⟩
theorem kv_cut_change_2 : VKn (defScope s_cut_change) "level" := ⟨by first | exact Or.inl (by decide +kernel) | exact Or.inr (Or.inl (by decide +kernel)) | exact Or.inr (Or.inr (by decide +kernel)), by decide, by decide⟩
theorem nok_cut_change (T : TxB K mg base) (f_ c_ : Addr) (q_ : Str) (cl_ : List (Str × Addr)) (v_level : V) (x_level : Int) : NokF P w K mg base 1 (cf_cut_change f_ c_ q_ cl_ v_level x_level) := by
  refine nokF sc_cut_change rfl (fun doc pm ctv us hl => match us, hl with | [_, _], _ => rfl) fun A outer s_ F0 H0 vs a_ r D_ E_ hr sm_ hR_ ra_ hm kr kn => ?_
  obtain ⟨r_level, _⟩ := hR_
  obtain ⟨v_k, _, rfl, r_k, v_places, _, rfl, r_places, rfl⟩ := ra_
  obtain ⟨x_k, x_places, _u⟩ := a_
  have G : GrX K F0 H0 F0 H0 := .refl sm_
  replace hm : m_cut_change x_level x_k x_places = some r := hm
  unfold m_cut_change at hm
  have r_level : rp (α := Int) K F0 v_level x_level := r_level
  have r_k : rp (α := Int) K F0 v_k x_k := r_k
  have r_places : rp (α := (Tp (T2 Int Int))) K F0 v_places x_places := r_places
  change GoS _ _ _ [some v_k, some v_places, some v_level] _
  obtain ⟨t1, h_t1, hm⟩ := Option.bind_eq_some_iff.mp hm
  obtain ⟨t2, h_t2, hm⟩ := Option.bind_eq_some_iff.mp hm
  obtain ⟨t3, h_t3, hm⟩ := Option.bind_eq_some_iff.mp hm
  exact go_ret G.sm (ev_catT (ev_catT (ev_sliceT (ev_varK 1 rfl r_places kv_cut_change_1) eo_none (eo_some (ev_varK 2 rfl r_level kv_cut_change_2))) (ev_tp (el_cons (ev_ixTp (ev_varK 1 rfl r_places kv_cut_change_1) (ev_varK 2 rfl r_level kv_cut_change_2) h_t1) el_nil) (by show 1 ≤ sizeLine; decide)) h_t2) (ev_sliceT (ev_varK 1 rfl r_places kv_cut_change_1) (eo_some (ev_varK 2 rfl r_level kv_cut_change_2)) eo_none) h_t3) fun v_ F_ H_ g_ rv_ => kr _ _ _ (G.trans g_) (cg (Option.some.inj hm) rv_)
/-! cut -/
theorem sc_cut : FnScope ["plan", "path", "word", "is_cut", "way", "items", "k", "places", "level", "change"] ["plan", "path"] (defScope s_cut) := ⟨rfl, rfl, rfl, by decide +kernel, rfl, by decide +kernel, by decide +kernel⟩
theorem b_cut (T : TxB K mg base) : Binds K T.d_cut ["plan", "path"] [] := T.F_cut.bindsN fun _ _ _ _ _ _ us hl => match us, hl with | [_, _], _ => rfl
theorem kv_cut_0 : VKn (defScope s_cut) "plan" := ⟨by first | exact Or.inl (by decide +kernel) | exact Or.inr (Or.inl (by decide +kernel)) | exact Or.inr (Or.inr (by decide +kernel)), by decide, by decide⟩
theorem kv_cut_1 : VKn (defScope s_cut) "path" := ⟨by first | exact Or.inl (by decide +kernel) | exact Or.inr (Or.inl (by decide +kernel)) | exact Or.inr (Or.inr (by decide +kernel)), by decide, by decide⟩
theorem kv_cut_2 : VKn (defScope s_cut) "word" := ⟨by first | exact Or.inl (by decide +kernel) | exact Or.inr (Or.inl (by decide +kernel)) | exact Or.inr (Or.inr (by decide +kernel)), by decide, by decide⟩
theorem kv_cut_3 : VKn (defScope s_cut) "is_cut" := ⟨by first | exact Or.inl (by decide +kernel) | exact Or.inr (Or.inl (by decide +kernel)) | exact Or.inr (Or.inr (by decide +kernel)), by decide, by decide⟩
theorem kv_cut_4 : VKn (defScope s_cut) "way" := ⟨by first | exact Or.inl (by decide +kernel) | exact Or.inr (Or.inl (by decide +kernel)) | exact Or.inr (Or.inr (by decide +kernel)), by decide, by decide⟩
theorem kv_cut_5 : VKn (defScope s_cut) "items" := ⟨by first | exact Or.inl (by decide +kernel) | exact Or.inr (Or.inl (by decide +kernel)) | exact Or.inr (Or.inr (by decide +kernel)), by decide, by decide⟩
theorem kv_cut_9 : VKn (defScope s_cut) "change" := ⟨by first | exact Or.inl (by decide +kernel) | exact Or.inr (Or.inl (by decide +kernel)) | exact Or.inr (Or.inr (by decide +kernel)), by decide, by decide⟩
theorem gl_cut_deeds_in : (defScope s_cut).names.lookup ("deeds_in" : Str) = some NameKind.globalImplicit := by decide +kernel
theorem gl_cut_each_deed : (defScope s_cut).names.lookup ("each_deed" : Str) = some NameKind.globalImplicit := by decide +kernel
theorem gl_cut_put : (defScope s_cut).names.lookup ("put" : Str) = some NameKind.globalImplicit := by decide +kernel
theorem gl_cut_sweep_at : (defScope s_cut).names.lookup ("sweep_at" : Str) = some NameKind.globalImplicit := by decide +kernel
theorem ok_cut (T : TxB K mg base) : FnOk P w K mg base (L2.CX P w) 20 (He.fAd K ("cut", none)) T.d_cut ["plan", "path"] (PrE K fun (a_ : (Tp UItem) × (Tp Int) × Unit) => m_cut a_.1 a_.2.1) := by
  refine fn_okXZ T.F_cut sc_cut rfl fun cdv A outer s_ F0 H0 vs a_ r D_ E_ hcd_ hr sm_ ra_ hm kr kn kx tk_ po_ => ?_
  obtain ⟨v_plan, _, rfl, r_plan, v_path, _, rfl, r_path, rfl⟩ := ra_
  obtain ⟨x_plan, x_path, _u⟩ := a_
  have G : GrX K F0 H0 F0 H0 := .refl sm_
  replace hm : m_cut x_plan x_path = some r := hm
  unfold m_cut at hm
  have r_plan : rp (α := (Tp UItem)) K F0 v_plan x_plan := r_plan
  have r_path : rp (α := (Tp Int)) K F0 v_path x_path := r_path
  change GoS _ _ _ [some v_plan, some v_path, none, none, none, none, none, none, none, none] _
  obtain ⟨t1, h_t1, hm⟩ := Option.bind_eq_some_iff.mp hm
  cases t1 with
  | v t2 =>
    obtain ⟨t4, h_t4, hm⟩ := Option.bind_eq_some_iff.mp hm
    obtain ⟨i5, he, hm⟩ := Option.bind_eq_some_iff.mp hm
    refine go_unpack G.sm (UItem.evv_sweep (EvX.ok (ex_call tk_ (ok_sweep_at T) (hr.mono (by omega)) T.g_sweep_at T.F_sweep_at.kp (b_sweep_at T) (ea_cons (ev_varK 0 rfl r_plan kv_cut_0) (ea_cons (ev_varK 1 rfl r_path kv_cut_1) ea_nil)) h_t1 gl_cut_sweep_at)) h_t4) (pg_tup rfl (pgs_cons (pg_name (i := 2) sc_cut.nd rfl (by first | exact Or.inl rfl | exact Or.inr rfl)) (pgs_cons (pg_name (i := 3) sc_cut.nd rfl (by first | exact Or.inl rfl | exact Or.inr rfl)) (pgs_cons (pg_name (i := 4) sc_cut.nd rfl (by first | exact Or.inl rfl | exact Or.inr rfl)) (pgs_cons (pg_name (i := 5) sc_cut.nd rfl (by first | exact Or.inl rfl | exact Or.inr rfl)) pgs_nil))))) (fun w_ F H g ri_ Q_ hQ_ => ?_)
    have ri_ := cg (Option.some.inj he) ri_
    have G := G.trans g
    have r_plan := Rp.mono g.ff r_plan
    have r_path := Rp.mono g.ff r_path
    obtain ⟨pa6, _, rfl, sq7, v_word, _, rfl, r_word, v_is_cut, _, rfl, r_is_cut, v_way, _, rfl, r_way, v_items, _, rfl, r_items, rfl⟩ := ri_
    refine ⟨pa6, _, rfl, seqT_mono G.fh sq7, rfl, _, _, rfl, _, _, rfl, _, _, rfl, _, _, rfl, rfl, hQ_ _ _ ?_⟩
    change GoS _ _ _ [some v_plan, some v_path, some v_word, some v_is_cut, some v_way, some v_items, none, none, none, none] _
    obtain ⟨t15, h_t15, hm⟩ := Option.bind_eq_some_iff.mp hm
    refine go_ifA (t15) G.sm (EvW.t (ew_orA (i5.b) (et_val (ev_varK 3 rfl r_is_cut kv_cut_3)) (fun hc => by
            replace h_t15 := ineg (nt hc) h_t15
            obtain ⟨t8, h_t8, h_t15⟩ := Option.bind_eq_some_iff.mp h_t15
            obtain ⟨t13, h_t13, h_t15⟩ := Option.bind_eq_some_iff.mp h_t15
            obtain ⟨t14, h_t14, h_t15⟩ := Option.bind_eq_some_iff.mp h_t15
            exact EvW.cg (Option.some.inj h_t15) (ew_or1 (et_cmp op_ge o2_ge (ev_callB (cr_max rfl) (oc_max h_t14) T.n_max (by decide +kernel) (ea_cons (EvN.evA ((List Int)) (en_comp (own := [("k", 6), ("places", 7)]) (g := gTup K 2 (gCons (gName 6) (gCons (gName 7) gNil))) sc_cut.nd (ei_list (ev_call (ok_deeds_in T 10) (hr.mono (by omega)) T.g_deeds_in T.F_deeds_in.kp (b_deeds_in T) (ea_cons (ev_varK 5 rfl r_items kv_cut_5) ea_nil) h_t8 gl_cut_deeds_in)) h_t13 (blkOk_by (N := ["plan", "path", "word", "is_cut", "way", "items", "k", "places", "level", "change"]) (sc := defScope s_cut) (by decide +kernel)) (fun _ _ _ _ _ => (pg_tup rfl (pgs_cons (pg_name (i := 6) sc_cut.nd rfl (by first | exact Or.inl rfl | exact Or.inr rfl)) (pgs_cons (pg_name (i := 7) sc_cut.nd rfl (by first | exact Or.inl rfl | exact Or.inr rfl)) pgs_nil)))) (fun i9 o_ hm F H w12 g ri_ Q hQ => by
            have r_items := Rp.mono g.ff r_items
            obtain ⟨pa10, _, rfl, sq11, v_k, _, rfl, r_k, v_places, _, rfl, r_places, rfl⟩ := ri_
            refine ⟨pa10, _, rfl, seqT_mono g.fh sq11, rfl, _, _, rfl, _, _, rfl, rfl, hQ _ rfl ?_⟩
            exact ⟨_, (Option.some.inj hm).symm, fun s_ H_ C_ cl_ fp_ => (ev_callB call_len_seq oc_lenTp T.n_len PySem.boot_len (ea_cons (ev_var 7 rfl r_places) ea_nil))⟩))) ea_nil)) T.e_MOST_PAIRS (nomark _)))) (fun hc => by replace h_t15 := ipos hc h_t15; exact (Option.some.inj h_t15).symm))) (fun hc F H g => ?_) (fun hc F H g => ?_)
    · replace hm := ipos hc hm
      have G := G.trans g
      have r_plan := Rp.mono g.ff r_plan
      have r_path := Rp.mono g.ff r_path
      have r_word := Rp.mono g.ff r_word
      have r_is_cut := Rp.mono g.ff r_is_cut
      have r_way := Rp.mono g.ff r_way
      have r_items := Rp.mono g.ff r_items
      exact go_raise0 G.sm tk_ T.xn_NoTurning T.g_NoTurning (kx _ (Option.some.inj hm) _ _ _ _ G ⟨rfl, rfl⟩)
    · replace hm := ineg (nt hc) hm
      have G := G.trans g
      have r_plan := Rp.mono g.ff r_plan
      have r_path := Rp.mono g.ff r_path
      have r_word := Rp.mono g.ff r_word
      have r_is_cut := Rp.mono g.ff r_is_cut
      have r_way := Rp.mono g.ff r_way
      have r_items := Rp.mono g.ff r_items
      refine GoS.nil ?_
      obtain ⟨x_level, he, hm⟩ := Option.bind_eq_some_iff.mp hm
      refine go_setA (Int) 8 G.sm (ev_sub (ev_callB call_len_seq oc_lenTp T.n_len PySem.boot_len (ea_cons (ev_varK 1 rfl r_path kv_cut_1) ea_nil)) ev_int) (fun v_level F H g rn_ => ?_) sc_cut.nd
      have G := G.trans g
      have r_plan := Rp.mono g.ff r_plan
      have r_path := Rp.mono g.ff r_path
      have r_word := Rp.mono g.ff r_word
      have r_way := Rp.mono g.ff r_way
      have r_items := Rp.mono g.ff r_items
      have r_level := cg (Option.some.inj he) rn_
      change GoS _ _ _ [some v_plan, some v_path, some v_word, some v_is_cut, some v_way, some v_items, none, none, some v_level, none] _
      refine go_ndef 9 G.sm T.tb_cut hcd_ (List.mem_map.mpr ⟨_, .tail _ (.tail _ (.head _)), rfl⟩) (by show nmG 94 4 = ("cut" : Str) ++ ".<locals>." ++ "change"; decide +kernel) (NdefX.ndef_free nd_cut_change) (fun lf_change c_ H g n1_ n2_ => ?_) sc_cut.nd
      have G := G.trans g
      have r_plan := Rp.mono g.ff r_plan
      have r_path := Rp.mono g.ff r_path
      have r_word := Rp.mono g.ff r_word
      have r_way := Rp.mono g.ff r_way
      have r_items := Rp.mono g.ff r_items
      have r_level := Rp.mono g.ff r_level
      obtain ⟨fv_change, fq_change, r_change⟩ := ClF.ex (show ClF (cf_cut_change lf_change c_ _ _ (v_level) x_level) K _ _ (.ref lf_change) from ⟨⟨rfl, ⟨r_level, trivial⟩⟩, ⟨n1_, n2_⟩⟩)
      have fk_change : NokF P w K mg base 8 fv_change := by rw [fq_change]; exact (nok_cut_change T _ _ _ _ _ _).mono (by omega)
      have fe_change : fv_change.fn = (fun a_ => m_cut_change x_level a_.1 a_.2.1) := by rw [fq_change]
      change GoS _ _ _ [some v_plan, some v_path, some v_word, some v_is_cut, some v_way, some v_items, none, none, some v_level, some (.ref lf_change)] _
      obtain ⟨t16, h_t16, hm⟩ := Option.bind_eq_some_iff.mp hm
      obtain ⟨t17, h_t17, hm⟩ := Option.bind_eq_some_iff.mp hm
      obtain ⟨t18, h_t18, hm⟩ := Option.bind_eq_some_iff.mp hm
      obtain ⟨t19, h_t19, hm⟩ := Option.bind_eq_some_iff.mp hm
      exact go_retA ((Tp UItem)) G.sm (ev_call (ok_put T 10) (hr.mono (by omega)) T.g_put T.F_put.kp (b_put T) (ea_cons (ev_varK 0 rfl r_plan kv_cut_0) (ea_cons (ev_varK 1 rfl r_path kv_cut_1) (ea_cons ev_int (ea_cons (ev_tp (el_cons (UItem.evinv_sweep (ev_tup4 (ea_cons (ev_varK 2 rfl r_word kv_cut_2) (ea_cons ev_bl (ea_cons (ev_varK 4 rfl r_way kv_cut_4) (ea_cons (ev_tp (el_cons (UItem.evinv_sweep (ev_tup4 (ea_cons (ev_varK 2 rfl r_word kv_cut_2) (ea_cons ev_bl (ea_cons (ev_varK 4 rfl r_way kv_cut_4) (ea_cons (ev_callZ (fv := fv_change) (ok_each_deed T fv_change fk_change 10) (hr.mono (by omega)) T.g_each_deed T.F_each_deed.kp (b_each_deed T) r_change (by rw [fq_change]; exact clA_made (sc := defScope s_cut_change) (js := [8]) rfl (NdefX.ndef_free nd_cut_change) (NdefX.ndef_fr nd_cut_change) rfl rfl) (ea_cons (ev_varK 5 rfl r_items kv_cut_5) (ea_cons (ev_varK 9 rfl r_change.r kv_cut_9) ea_nil)) (by show m_each_deed 10 i5.d fv_change.fn = some _; rw [fe_change]; exact h_t16) gl_cut_each_deed) ea_nil))))) h_t17) el_nil) (by show 1 ≤ sizeLine; decide)) ea_nil))))) h_t18) el_nil) (by show 1 ≤ sizeLine; decide)) ea_nil)))) h_t19 gl_cut_put) fun v_ F_ H_ g_ rv_ => kr _ _ _ _ (Option.some.inj hm) (G.trans g_) rv_
  | x e3 =>
    refine go_unpackZ (g := gTup K 4 (gCons (gName 2) (gCons (gName 3) (gCons (gName 4) (gCons (gName 5) gNil))))) G.sm (EvX.rz (ex_call tk_ (ok_sweep_at T) (hr.mono (by omega)) T.g_sweep_at T.F_sweep_at.kp (b_sweep_at T) (ea_cons (ev_varK 0 rfl r_plan kv_cut_0) (ea_cons (ev_varK 1 rfl r_path kv_cut_1) ea_nil)) h_t1 gl_cut_sweep_at) (fun F H cls_ dd_ g xr_ => ?_)) (pg_tup rfl (pgs_cons (pg_name (i := 2) sc_cut.nd rfl (by first | exact Or.inl rfl | exact Or.inr rfl)) (pgs_cons (pg_name (i := 3) sc_cut.nd rfl (by first | exact Or.inl rfl | exact Or.inr rfl)) (pgs_cons (pg_name (i := 4) sc_cut.nd rfl (by first | exact Or.inl rfl | exact Or.inr rfl)) (pgs_cons (pg_name (i := 5) sc_cut.nd rfl (by first | exact Or.inl rfl | exact Or.inr rfl)) pgs_nil)))))
    exact kx _ (Option.some.inj hm) _ _ _ _ (G.trans g) xr_
/-! freed -/
theorem sc_freed : FnScope ["plan", "path", "word", "is_cut", "way", "items"] ["plan", "path"] (defScope s_freed) := ⟨rfl, rfl, rfl, by decide +kernel, rfl, by decide +kernel, by decide +kernel⟩
theorem b_freed (T : TxB K mg base) : Binds K T.d_freed ["plan", "path"] [] := T.F_freed.bindsN fun _ _ _ _ _ _ us hl => match us, hl with | [_, _], _ => rfl
theorem kv_freed_0 : VKn (defScope s_freed) "plan" := ⟨by first | exact Or.inl (by decide +kernel) | exact Or.inr (Or.inl (by decide +kernel)) | exact Or.inr (Or.inr (by decide +kernel)), by decide, by decide⟩
theorem kv_freed_1 : VKn (defScope s_freed) "path" := ⟨by first | exact Or.inl (by decide +kernel) | exact Or.inr (Or.inl (by decide +kernel)) | exact Or.inr (Or.inr (by decide +kernel)), by decide, by decide⟩
theorem kv_freed_2 : VKn (defScope s_freed) "word" := ⟨by first | exact Or.inl (by decide +kernel) | exact Or.inr (Or.inl (by decide +kernel)) | exact Or.inr (Or.inr (by decide +kernel)), by decide, by decide⟩
theorem kv_freed_3 : VKn (defScope s_freed) "is_cut" := ⟨by first | exact Or.inl (by decide +kernel) | exact Or.inr (Or.inl (by decide +kernel)) | exact Or.inr (Or.inr (by decide +kernel)), by decide, by decide⟩
theorem kv_freed_5 : VKn (defScope s_freed) "items" := ⟨by first | exact Or.inl (by decide +kernel) | exact Or.inr (Or.inl (by decide +kernel)) | exact Or.inr (Or.inr (by decide +kernel)), by decide, by decide⟩
theorem gl_freed_put : (defScope s_freed).names.lookup ("put" : Str) = some NameKind.globalImplicit := by decide +kernel
theorem gl_freed_sweep_at : (defScope s_freed).names.lookup ("sweep_at" : Str) = some NameKind.globalImplicit := by decide +kernel
theorem ok_freed (T : TxB K mg base) : FnOk P w K mg base (L2.CX P w) 12 (He.fAd K ("freed", none)) T.d_freed ["plan", "path"] (PrE K fun (a_ : (Tp UItem) × (Tp Int) × Unit) => m_freed a_.1 a_.2.1) := by
  refine fn_okX T.F_freed sc_freed rfl fun cdv A outer s_ F0 H0 vs a_ r D_ E_ hr sm_ ra_ hm kr kn kx tk_ po_ => ?_
  obtain ⟨v_plan, _, rfl, r_plan, v_path, _, rfl, r_path, rfl⟩ := ra_
  obtain ⟨x_plan, x_path, _u⟩ := a_
  have G : GrX K F0 H0 F0 H0 := .refl sm_
  replace hm : m_freed x_plan x_path = some r := hm
  unfold m_freed at hm
  have r_plan : rp (α := (Tp UItem)) K F0 v_plan x_plan := r_plan
  have r_path : rp (α := (Tp Int)) K F0 v_path x_path := r_path
  change GoS _ _ _ [some v_plan, some v_path, none, none, none, none] _
  obtain ⟨t1, h_t1, hm⟩ := Option.bind_eq_some_iff.mp hm
  cases t1 with
  | v t2 =>
    obtain ⟨t4, h_t4, hm⟩ := Option.bind_eq_some_iff.mp hm
    obtain ⟨i5, he, hm⟩ := Option.bind_eq_some_iff.mp hm
    refine go_unpack G.sm (UItem.evv_sweep (EvX.ok (ex_call tk_ (ok_sweep_at T) (hr.mono (by omega)) T.g_sweep_at T.F_sweep_at.kp (b_sweep_at T) (ea_cons (ev_varK 0 rfl r_plan kv_freed_0) (ea_cons (ev_varK 1 rfl r_path kv_freed_1) ea_nil)) h_t1 gl_freed_sweep_at)) h_t4) (pg_tup rfl (pgs_cons (pg_name (i := 2) sc_freed.nd rfl (by first | exact Or.inl rfl | exact Or.inr rfl)) (pgs_cons (pg_name (i := 3) sc_freed.nd rfl (by first | exact Or.inl rfl | exact Or.inr rfl)) (pgs_cons (pg_name (i := 4) sc_freed.nd rfl (by first | exact Or.inl rfl | exact Or.inr rfl)) (pgs_cons (pg_name (i := 5) sc_freed.nd rfl (by first | exact Or.inl rfl | exact Or.inr rfl)) pgs_nil))))) (fun w_ F H g ri_ Q_ hQ_ => ?_)
    have ri_ := cg (Option.some.inj he) ri_
    have G := G.trans g
    have r_plan := Rp.mono g.ff r_plan
    have r_path := Rp.mono g.ff r_path
    obtain ⟨pa6, _, rfl, sq7, v_word, _, rfl, r_word, v_is_cut, _, rfl, r_is_cut, v_way, _, rfl, r_way, v_items, _, rfl, r_items, rfl⟩ := ri_
    refine ⟨pa6, _, rfl, seqT_mono G.fh sq7, rfl, _, _, rfl, _, _, rfl, _, _, rfl, _, _, rfl, rfl, hQ_ _ _ ?_⟩
    change GoS _ _ _ [some v_plan, some v_path, some v_word, some v_is_cut, some v_way, some v_items] _
    obtain ⟨t8, h_t8, hm⟩ := Option.bind_eq_some_iff.mp hm
    obtain ⟨t9, h_t9, hm⟩ := Option.bind_eq_some_iff.mp hm
    exact go_retA ((Tp UItem)) G.sm (ev_call (ok_put T 10) (hr.mono (by omega)) T.g_put T.F_put.kp (b_put T) (ea_cons (ev_varK 0 rfl r_plan kv_freed_0) (ea_cons (ev_varK 1 rfl r_path kv_freed_1) (ea_cons ev_int (ea_cons (ev_tp (el_cons (UItem.evinv_sweep (ev_tup4 (ea_cons (ev_varK 2 rfl r_word kv_freed_2) (ea_cons (ev_varK 3 rfl r_is_cut kv_freed_3) (ea_cons ev_str (ea_cons (ev_varK 5 rfl r_items kv_freed_5) ea_nil))))) h_t8) el_nil) (by show 1 ≤ sizeLine; decide)) ea_nil)))) h_t9 gl_freed_put) fun v_ F_ H_ g_ rv_ => kr _ _ _ _ (Option.some.inj hm) (G.trans g_) rv_
  | x e3 =>
    refine go_unpackZ (g := gTup K 4 (gCons (gName 2) (gCons (gName 3) (gCons (gName 4) (gCons (gName 5) gNil))))) G.sm (EvX.rz (ex_call tk_ (ok_sweep_at T) (hr.mono (by omega)) T.g_sweep_at T.F_sweep_at.kp (b_sweep_at T) (ea_cons (ev_varK 0 rfl r_plan kv_freed_0) (ea_cons (ev_varK 1 rfl r_path kv_freed_1) ea_nil)) h_t1 gl_freed_sweep_at) (fun F H cls_ dd_ g xr_ => ?_)) (pg_tup rfl (pgs_cons (pg_name (i := 2) sc_freed.nd rfl (by first | exact Or.inl rfl | exact Or.inr rfl)) (pgs_cons (pg_name (i := 3) sc_freed.nd rfl (by first | exact Or.inl rfl | exact Or.inr rfl)) (pgs_cons (pg_name (i := 4) sc_freed.nd rfl (by first | exact Or.inl rfl | exact Or.inr rfl)) (pgs_cons (pg_name (i := 5) sc_freed.nd rfl (by first | exact Or.inl rfl | exact Or.inr rfl)) pgs_nil)))))
    exact kx _ (Option.some.inj hm) _ _ _ _ (G.trans g) xr_
/-! done -/
theorem sc_done : FnScope ["_law_way", "_law_plan", "_law_path_here", "_law_k"] ["_law_way", "_law_plan", "_law_path_here", "_law_k"] (defScope s_done) := ⟨rfl, rfl, rfl, by decide +kernel, rfl, by decide +kernel, by decide +kernel⟩
theorem b_done (T : TxB K mg base) : Binds K T.d_done ["_law_way", "_law_plan", "_law_path_here", "_law_k"] [] := T.F_done.bindsN fun _ _ _ _ _ _ us hl => match us, hl with | [_, _, _, _], _ => rfl
theorem kv_done_0 : VKn (defScope s_done) "_law_way" := ⟨by first | exact Or.inl (by decide +kernel) | exact Or.inr (Or.inl (by decide +kernel)) | exact Or.inr (Or.inr (by decide +kernel)), by decide, by decide⟩
theorem kv_done_1 : VKn (defScope s_done) "_law_plan" := ⟨by first | exact Or.inl (by decide +kernel) | exact Or.inr (Or.inl (by decide +kernel)) | exact Or.inr (Or.inr (by decide +kernel)), by decide, by decide⟩
theorem kv_done_2 : VKn (defScope s_done) "_law_path_here" := ⟨by first | exact Or.inl (by decide +kernel) | exact Or.inr (Or.inl (by decide +kernel)) | exact Or.inr (Or.inr (by decide +kernel)), by decide, by decide⟩
theorem kv_done_3 : VKn (defScope s_done) "_law_k" := ⟨by first | exact Or.inl (by decide +kernel) | exact Or.inr (Or.inl (by decide +kernel)) | exact Or.inr (Or.inr (by decide +kernel)), by decide, by decide⟩
theorem gl_done_cut : (defScope s_done).names.lookup ("cut" : Str) = some NameKind.globalImplicit := by decide +kernel
theorem gl_done_freed : (defScope s_done).names.lookup ("freed" : Str) = some NameKind.globalImplicit := by decide +kernel
theorem gl_done_joined : (defScope s_done).names.lookup ("joined" : Str) = some NameKind.globalImplicit := by decide +kernel
theorem gl_done_moved : (defScope s_done).names.lookup ("moved" : Str) = some NameKind.globalImplicit := by decide +kernel
theorem gl_done_parted : (defScope s_done).names.lookup ("parted" : Str) = some NameKind.globalImplicit := by decide +kernel
theorem gl_done_swapped : (defScope s_done).names.lookup ("swapped" : Str) = some NameKind.globalImplicit := by decide +kernel
theorem gl_done_turned : (defScope s_done).names.lookup ("turned" : Str) = some NameKind.globalImplicit := by decide +kernel
theorem ok_done (T : TxB K mg base) : FnOk P w K mg base (L2.CX P w) 21 (He.fAd K ("_law_done", none)) T.d_done ["_law_way", "_law_plan", "_law_path_here", "_law_k"] (PrE K fun (a_ : Int × (Tp UItem) × (Tp Int) × Int × Unit) => m_done a_.1 a_.2.1 a_.2.2.1 a_.2.2.2.1) := by
  refine fn_okX T.F_done sc_done rfl fun cdv A outer s_ F0 H0 vs a_ r D_ E_ hr sm_ ra_ hm kr kn kx tk_ po_ => ?_
  obtain ⟨v_way, _, rfl, r_way, v_plan, _, rfl, r_plan, v_path_here, _, rfl, r_path_here, v_k, _, rfl, r_k, rfl⟩ := ra_
  obtain ⟨x_way, x_plan, x_path_here, x_k, _u⟩ := a_
  have G : GrX K F0 H0 F0 H0 := .refl sm_
  replace hm : m_done x_way x_plan x_path_here x_k = some r := hm
  unfold m_done at hm
  have r_way : rp (α := Int) K F0 v_way x_way := r_way
  have r_plan : rp (α := (Tp UItem)) K F0 v_plan x_plan := r_plan
  have r_path_here : rp (α := (Tp Int)) K F0 v_path_here x_path_here := r_path_here
  have r_k : rp (α := Int) K F0 v_k x_k := r_k
  change GoS _ _ _ [some v_way, some v_plan, some v_path_here, some v_k] _
  refine go_ifA ((decide (x_way = (0 : Int)))) G.sm (et_cmp op_eq o2_eq (ev_varK 0 rfl r_way kv_done_0) ev_int (nomark _)) (fun hc F H g => ?_) (fun hc F H g => ?_)
  · replace hm := ipos hc hm
    have G := G.trans g
    have r_way := Rp.mono g.ff r_way
    have r_plan := Rp.mono g.ff r_plan
    have r_path_here := Rp.mono g.ff r_path_here
    have r_k := Rp.mono g.ff r_k
    obtain ⟨t1, h_t1, hm⟩ := Option.bind_eq_some_iff.mp hm
    cases t1 with
    | v t2 =>
      exact go_retA ((Tp UItem)) G.sm (EvX.ok (ex_call tk_ (ok_swapped T) (hr.mono (by omega)) T.g_swapped T.F_swapped.kp (b_swapped T) (ea_cons (ev_varK 1 rfl r_plan kv_done_1) (ea_cons (ev_varK 2 rfl r_path_here kv_done_2) ea_nil)) h_t1 gl_done_swapped)) fun v_ F_ H_ g_ rv_ => kr _ _ _ _ (Option.some.inj hm) (G.trans g_) rv_
    | x e3 =>
      refine go_retZ G.sm (EvX.rz (ex_call tk_ (ok_swapped T) (hr.mono (by omega)) T.g_swapped T.F_swapped.kp (b_swapped T) (ea_cons (ev_varK 1 rfl r_plan kv_done_1) (ea_cons (ev_varK 2 rfl r_path_here kv_done_2) ea_nil)) h_t1 gl_done_swapped) (fun F H cls_ dd_ g xr_ => ?_))
      exact kx _ (Option.some.inj hm) _ _ _ _ (G.trans g) xr_
  · replace hm := ineg (nt hc) hm
    have G := G.trans g
    have r_way := Rp.mono g.ff r_way
    have r_plan := Rp.mono g.ff r_plan
    have r_path_here := Rp.mono g.ff r_path_here
    have r_k := Rp.mono g.ff r_k
    refine GoS.nil ?_
    refine go_ifA ((decide (x_way = (1 : Int)))) G.sm (et_cmp op_eq o2_eq (ev_varK 0 rfl r_way kv_done_0) ev_int (nomark _)) (fun hc F H g => ?_) (fun hc F H g => ?_)
    · replace hm := ipos hc hm
      have G := G.trans g
      have r_way := Rp.mono g.ff r_way
      have r_plan := Rp.mono g.ff r_plan
      have r_path_here := Rp.mono g.ff r_path_here
      have r_k := Rp.mono g.ff r_k
      obtain ⟨t4, h_t4, hm⟩ := Option.bind_eq_some_iff.mp hm
      cases t4 with
      | v t5 =>
        exact go_retA ((Tp UItem)) G.sm (EvX.ok (ex_call tk_ (ok_joined T) (hr.mono (by omega)) T.g_joined T.F_joined.kp (b_joined T) (ea_cons (ev_varK 1 rfl r_plan kv_done_1) (ea_cons (ev_varK 2 rfl r_path_here kv_done_2) ea_nil)) h_t4 gl_done_joined)) fun v_ F_ H_ g_ rv_ => kr _ _ _ _ (Option.some.inj hm) (G.trans g_) rv_
      | x e6 =>
        refine go_retZ G.sm (EvX.rz (ex_call tk_ (ok_joined T) (hr.mono (by omega)) T.g_joined T.F_joined.kp (b_joined T) (ea_cons (ev_varK 1 rfl r_plan kv_done_1) (ea_cons (ev_varK 2 rfl r_path_here kv_done_2) ea_nil)) h_t4 gl_done_joined) (fun F H cls_ dd_ g xr_ => ?_))
        exact kx _ (Option.some.inj hm) _ _ _ _ (G.trans g) xr_
    · replace hm := ineg (nt hc) hm
      have G := G.trans g
      have r_way := Rp.mono g.ff r_way
      have r_plan := Rp.mono g.ff r_plan
      have r_path_here := Rp.mono g.ff r_path_here
      have r_k := Rp.mono g.ff r_k
      refine GoS.nil ?_
      refine go_ifA ((decide (x_way = (2 : Int)))) G.sm (et_cmp op_eq o2_eq (ev_varK 0 rfl r_way kv_done_0) ev_int (nomark _)) (fun hc F H g => ?_) (fun hc F H g => ?_)
      · replace hm := ipos hc hm
        have G := G.trans g
        have r_way := Rp.mono g.ff r_way
        have r_plan := Rp.mono g.ff r_plan
        have r_path_here := Rp.mono g.ff r_path_here
        have r_k := Rp.mono g.ff r_k
        obtain ⟨t7, h_t7, hm⟩ := Option.bind_eq_some_iff.mp hm
        cases t7 with
        | v t8 =>
          exact go_retA ((Tp UItem)) G.sm (EvX.ok (ex_call tk_ (ok_parted T) (hr.mono (by omega)) T.g_parted T.F_parted.kp (b_parted T) (ea_cons (ev_varK 1 rfl r_plan kv_done_1) (ea_cons (ev_varK 2 rfl r_path_here kv_done_2) (ea_cons ev_int ea_nil))) h_t7 gl_done_parted)) fun v_ F_ H_ g_ rv_ => kr _ _ _ _ (Option.some.inj hm) (G.trans g_) rv_
        | x e9 =>
          refine go_retZ G.sm (EvX.rz (ex_call tk_ (ok_parted T) (hr.mono (by omega)) T.g_parted T.F_parted.kp (b_parted T) (ea_cons (ev_varK 1 rfl r_plan kv_done_1) (ea_cons (ev_varK 2 rfl r_path_here kv_done_2) (ea_cons ev_int ea_nil))) h_t7 gl_done_parted) (fun F H cls_ dd_ g xr_ => ?_))
          exact kx _ (Option.some.inj hm) _ _ _ _ (G.trans g) xr_
      · replace hm := ineg (nt hc) hm
        have G := G.trans g
        have r_way := Rp.mono g.ff r_way
        have r_plan := Rp.mono g.ff r_plan
        have r_path_here := Rp.mono g.ff r_path_here
        have r_k := Rp.mono g.ff r_k
        refine GoS.nil ?_
        refine go_ifA ((decide (x_way = (3 : Int)))) G.sm (et_cmp op_eq o2_eq (ev_varK 0 rfl r_way kv_done_0) ev_int (nomark _)) (fun hc F H g => ?_) (fun hc F H g => ?_)
        · replace hm := ipos hc hm
          have G := G.trans g
          have r_way := Rp.mono g.ff r_way
          have r_plan := Rp.mono g.ff r_plan
          have r_path_here := Rp.mono g.ff r_path_here
          have r_k := Rp.mono g.ff r_k
          obtain ⟨t10, h_t10, hm⟩ := Option.bind_eq_some_iff.mp hm
          cases t10 with
          | v t11 =>
            exact go_retA ((Tp UItem)) G.sm (EvX.ok (ex_call tk_ (ok_turned T) (hr.mono (by omega)) T.g_turned T.F_turned.kp (b_turned T) (ea_cons (ev_varK 1 rfl r_plan kv_done_1) (ea_cons (ev_varK 2 rfl r_path_here kv_done_2) ea_nil)) h_t10 gl_done_turned)) fun v_ F_ H_ g_ rv_ => kr _ _ _ _ (Option.some.inj hm) (G.trans g_) rv_
          | x e12 =>
            refine go_retZ G.sm (EvX.rz (ex_call tk_ (ok_turned T) (hr.mono (by omega)) T.g_turned T.F_turned.kp (b_turned T) (ea_cons (ev_varK 1 rfl r_plan kv_done_1) (ea_cons (ev_varK 2 rfl r_path_here kv_done_2) ea_nil)) h_t10 gl_done_turned) (fun F H cls_ dd_ g xr_ => ?_))
            exact kx _ (Option.some.inj hm) _ _ _ _ (G.trans g) xr_
        · replace hm := ineg (nt hc) hm
          have G := G.trans g
          have r_way := Rp.mono g.ff r_way
          have r_plan := Rp.mono g.ff r_plan
          have r_path_here := Rp.mono g.ff r_path_here
          have r_k := Rp.mono g.ff r_k
          refine GoS.nil ?_
          refine go_ifA ((decide (x_way = (4 : Int)))) G.sm (et_cmp op_eq o2_eq (ev_varK 0 rfl r_way kv_done_0) ev_int (nomark _)) (fun hc F H g => ?_) (fun hc F H g => ?_)
          · replace hm := ipos hc hm
            have G := G.trans g
            have r_way := Rp.mono g.ff r_way
            have r_plan := Rp.mono g.ff r_plan
            have r_path_here := Rp.mono g.ff r_path_here
            have r_k := Rp.mono g.ff r_k
            obtain ⟨t13, h_t13, hm⟩ := Option.bind_eq_some_iff.mp hm
            cases t13 with
            | v t14 =>
              exact go_retA ((Tp UItem)) G.sm (EvX.ok (ex_call tk_ (ok_moved T) (hr.mono (by omega)) T.g_moved T.F_moved.kp (b_moved T) (ea_cons (ev_varK 1 rfl r_plan kv_done_1) (ea_cons (ev_varK 2 rfl r_path_here kv_done_2) (ea_cons (ev_varK 3 rfl r_k kv_done_3) (ea_cons ev_int ea_nil)))) h_t13 gl_done_moved)) fun v_ F_ H_ g_ rv_ => kr _ _ _ _ (Option.some.inj hm) (G.trans g_) rv_
            | x e15 =>
              refine go_retZ G.sm (EvX.rz (ex_call tk_ (ok_moved T) (hr.mono (by omega)) T.g_moved T.F_moved.kp (b_moved T) (ea_cons (ev_varK 1 rfl r_plan kv_done_1) (ea_cons (ev_varK 2 rfl r_path_here kv_done_2) (ea_cons (ev_varK 3 rfl r_k kv_done_3) (ea_cons ev_int ea_nil)))) h_t13 gl_done_moved) (fun F H cls_ dd_ g xr_ => ?_))
              exact kx _ (Option.some.inj hm) _ _ _ _ (G.trans g) xr_
          · replace hm := ineg (nt hc) hm
            have G := G.trans g
            have r_way := Rp.mono g.ff r_way
            have r_plan := Rp.mono g.ff r_plan
            have r_path_here := Rp.mono g.ff r_path_here
            have r_k := Rp.mono g.ff r_k
            refine GoS.nil ?_
            refine go_ifA ((decide (x_way = (5 : Int)))) G.sm (et_cmp op_eq o2_eq (ev_varK 0 rfl r_way kv_done_0) ev_int (nomark _)) (fun hc F H g => ?_) (fun hc F H g => ?_)
            · replace hm := ipos hc hm
              have G := G.trans g
              have r_way := Rp.mono g.ff r_way
              have r_plan := Rp.mono g.ff r_plan
              have r_path_here := Rp.mono g.ff r_path_here
              obtain ⟨t16, h_t16, hm⟩ := Option.bind_eq_some_iff.mp hm
              cases t16 with
              | v t17 =>
                exact go_retA ((Tp UItem)) G.sm (EvX.ok (ex_call tk_ (ok_cut T) (hr.mono (by omega)) T.g_cut T.F_cut.kp (b_cut T) (ea_cons (ev_varK 1 rfl r_plan kv_done_1) (ea_cons (ev_varK 2 rfl r_path_here kv_done_2) ea_nil)) h_t16 gl_done_cut)) fun v_ F_ H_ g_ rv_ => kr _ _ _ _ (Option.some.inj hm) (G.trans g_) rv_
              | x e18 =>
                refine go_retZ G.sm (EvX.rz (ex_call tk_ (ok_cut T) (hr.mono (by omega)) T.g_cut T.F_cut.kp (b_cut T) (ea_cons (ev_varK 1 rfl r_plan kv_done_1) (ea_cons (ev_varK 2 rfl r_path_here kv_done_2) ea_nil)) h_t16 gl_done_cut) (fun F H cls_ dd_ g xr_ => ?_))
                exact kx _ (Option.some.inj hm) _ _ _ _ (G.trans g) xr_
            · replace hm := ineg (nt hc) hm
              have G := G.trans g
              have r_way := Rp.mono g.ff r_way
              have r_plan := Rp.mono g.ff r_plan
              have r_path_here := Rp.mono g.ff r_path_here
              refine GoS.nil ?_
              obtain ⟨t19, h_t19, hm⟩ := Option.bind_eq_some_iff.mp hm
              cases t19 with
              | v t20 =>
                exact go_retA ((Tp UItem)) G.sm (EvX.ok (ex_call tk_ (ok_freed T) (hr.mono (by omega)) T.g_freed T.F_freed.kp (b_freed T) (ea_cons (ev_varK 1 rfl r_plan kv_done_1) (ea_cons (ev_varK 2 rfl r_path_here kv_done_2) ea_nil)) h_t19 gl_done_freed)) fun v_ F_ H_ g_ rv_ => kr _ _ _ _ (Option.some.inj hm) (G.trans g_) rv_
              | x e21 =>
                refine go_retZ G.sm (EvX.rz (ex_call tk_ (ok_freed T) (hr.mono (by omega)) T.g_freed T.F_freed.kp (b_freed T) (ea_cons (ev_varK 1 rfl r_plan kv_done_1) (ea_cons (ev_varK 2 rfl r_path_here kv_done_2) ea_nil)) h_t19 gl_done_freed) (fun F H cls_ dd_ g xr_ => ?_))
                exact kx _ (Option.some.inj hm) _ _ _ _ (G.trans g) xr_
/-! refused -/
theorem sc_refused : FnScope ["_law_way", "_law_plan", "_law_path_here", "_law_k", "_law_own", "_law_base", "e"] ["_law_way", "_law_plan", "_law_path_here", "_law_k"] (defScope s_refused) := ⟨rfl, rfl, rfl, by decide +kernel, rfl, by decide +kernel, by decide +kernel⟩
theorem b_refused (T : TxB K mg base) : Binds K T.d_refused ["_law_way", "_law_plan", "_law_path_here", "_law_k"] [] := T.F_refused.bindsN fun _ _ _ _ _ _ us hl => match us, hl with | [_, _, _, _], _ => rfl
theorem kv_refused_0 : VKn (defScope s_refused) "_law_way" := ⟨by first | exact Or.inl (by decide +kernel) | exact Or.inr (Or.inl (by decide +kernel)) | exact Or.inr (Or.inr (by decide +kernel)), by decide, by decide⟩
theorem kv_refused_1 : VKn (defScope s_refused) "_law_plan" := ⟨by first | exact Or.inl (by decide +kernel) | exact Or.inr (Or.inl (by decide +kernel)) | exact Or.inr (Or.inr (by decide +kernel)), by decide, by decide⟩
theorem kv_refused_2 : VKn (defScope s_refused) "_law_path_here" := ⟨by first | exact Or.inl (by decide +kernel) | exact Or.inr (Or.inl (by decide +kernel)) | exact Or.inr (Or.inr (by decide +kernel)), by decide, by decide⟩
theorem kv_refused_3 : VKn (defScope s_refused) "_law_k" := ⟨by first | exact Or.inl (by decide +kernel) | exact Or.inr (Or.inl (by decide +kernel)) | exact Or.inr (Or.inr (by decide +kernel)), by decide, by decide⟩
theorem kv_refused_4 : VKn (defScope s_refused) "_law_own" := ⟨by first | exact Or.inl (by decide +kernel) | exact Or.inr (Or.inl (by decide +kernel)) | exact Or.inr (Or.inr (by decide +kernel)), by decide, by decide⟩
theorem kv_refused_5 : VKn (defScope s_refused) "_law_base" := ⟨by first | exact Or.inl (by decide +kernel) | exact Or.inr (Or.inl (by decide +kernel)) | exact Or.inr (Or.inr (by decide +kernel)), by decide, by decide⟩
theorem gl_refused_done : (defScope s_refused).names.lookup ("_law_done" : Str) = some NameKind.globalImplicit := by decide +kernel
theorem ok_refused (T : TxB K mg base) : FnOk P w K mg base CX0 22 (He.fAd K ("_law_refused", none)) T.d_refused ["_law_way", "_law_plan", "_law_path_here", "_law_k"] (Pr K fun (a_ : Int × (Tp UItem) × (Tp Int) × Int × Unit) => m_refused a_.1 a_.2.1 a_.2.2.1 a_.2.2.2.1) := by
  refine fn_ok T.F_refused sc_refused rfl fun cdv A outer s_ F0 H0 vs a_ r D_ E_ hr sm_ ra_ hm kr kn => ?_
  obtain ⟨v_way, _, rfl, r_way, v_plan, _, rfl, r_plan, v_path_here, _, rfl, r_path_here, v_k, _, rfl, r_k, rfl⟩ := ra_
  obtain ⟨x_way, x_plan, x_path_here, x_k, _u⟩ := a_
  have G : GrX K F0 H0 F0 H0 := .refl sm_
  replace hm : m_refused x_way x_plan x_path_here x_k = some r := hm
  unfold m_refused at hm
  have r_way : rp (α := Int) K F0 v_way x_way := r_way
  have r_plan : rp (α := (Tp UItem)) K F0 v_plan x_plan := r_plan
  have r_path_here : rp (α := (Tp Int)) K F0 v_path_here x_path_here := r_path_here
  have r_k : rp (α := Int) K F0 v_k x_k := r_k
  change GoS _ _ _ [some v_way, some v_plan, some v_path_here, some v_k, none, none, none] _
  obtain ⟨x_own, he, hm⟩ := Option.bind_eq_some_iff.mp hm
  refine go_setA (Bool) 4 G.sm ev_bl (fun v_own F H g rn_ => ?_) sc_refused.nd
  have G := G.trans g
  have r_way := Rp.mono g.ff r_way
  have r_plan := Rp.mono g.ff r_plan
  have r_path_here := Rp.mono g.ff r_path_here
  have r_k := Rp.mono g.ff r_k
  have r_own := cg (Option.some.inj he) rn_
  change GoS _ _ _ [some v_way, some v_plan, some v_path_here, some v_k, some v_own, none, none] _
  obtain ⟨x_base, he, hm⟩ := Option.bind_eq_some_iff.mp hm
  refine go_setA (Bool) 5 G.sm ev_bl (fun v_base F H g rn_ => ?_) sc_refused.nd
  have G := G.trans g
  have r_way := Rp.mono g.ff r_way
  have r_plan := Rp.mono g.ff r_plan
  have r_path_here := Rp.mono g.ff r_path_here
  have r_k := Rp.mono g.ff r_k
  have r_own := Rp.mono g.ff r_own
  have r_base := cg (Option.some.inj he) rn_
  change GoS _ _ _ [some v_way, some v_plan, some v_path_here, some v_k, some v_own, some v_base, none] _
  refine go_try (c := .ref (He.ga K "NoTurning")) ⟨rfl, by decide, Or.inl T.g_NoTurning⟩ (fun pn_ xe_ W_ tk_ po_ hw_ => ?_)
  obtain ⟨t1, h_t1, hm⟩ := Option.bind_eq_some_iff.mp hm
  cases t1 with
  | v t2 =>
    refine go_expr G.sm (EvX.ok (ex_call tk_ (ok_done T) (hr.mono (by omega)) T.g_done T.F_done.kp (b_done T) (ea_cons (ev_varK 0 rfl r_way kv_refused_0) (ea_cons (ev_varK 1 rfl r_plan kv_refused_1) (ea_cons (ev_varK 2 rfl r_path_here kv_refused_2) (ea_cons (ev_varK 3 rfl r_k kv_refused_3) ea_nil)))) h_t1 gl_refused_done)) (fun F H g => ?_)
    have G := G.trans g
    have r_way := Rp.mono g.ff r_way
    have r_plan := Rp.mono g.ff r_plan
    have r_path_here := Rp.mono g.ff r_path_here
    have r_k := Rp.mono g.ff r_k
    have r_own := Rp.mono g.ff r_own
    have r_base := Rp.mono g.ff r_base
    refine GoS.nil ?_
    refine go_tryN (c := .ref (He.ga K "FurrowError")) 6 sc_refused.nd ⟨rfl, by decide, Or.inl T.g_FurrowError⟩ (fun pn_ xe_ W_ tk_ po_ hw_ => ?_)
    obtain ⟨t4, h_t4, hm⟩ := Option.bind_eq_some_iff.mp hm
    cases t4 with
    | v t5 =>
      refine go_expr G.sm (EvX.ok (ex_call tk_ (ok_done T) (hr.mono (by omega)) T.g_done T.F_done.kp (b_done T) (ea_cons (ev_varK 0 rfl r_way kv_refused_0) (ea_cons (ev_varK 1 rfl r_plan kv_refused_1) (ea_cons (ev_varK 2 rfl r_path_here kv_refused_2) (ea_cons (ev_varK 3 rfl r_k kv_refused_3) ea_nil)))) h_t4 gl_refused_done)) (fun F H g => ?_)
      have G := G.trans g
      have r_way := Rp.mono g.ff r_way
      have r_plan := Rp.mono g.ff r_plan
      have r_path_here := Rp.mono g.ff r_path_here
      have r_k := Rp.mono g.ff r_k
      have r_own := Rp.mono g.ff r_own
      have r_base := Rp.mono g.ff r_base
      refine GoS.nil ?_
      exact go_ret G.sm (ev_andP (ev_varK 4 rfl r_own kv_refused_4) (ev_one (ev_varK 5 rfl r_base kv_refused_5))) fun v_ F_ H_ g_ rv_ => kr _ _ _ (G.trans g_) (cg (Option.some.inj hm) rv_)
    | x e6 =>
      cases e6 with
      | NoTurning =>
        refine go_exprZ G.sm (EvX.rz (ex_call tk_ (ok_done T) (hr.mono (by omega)) T.g_done T.F_done.kp (b_done T) (ea_cons (ev_varK 0 rfl r_way kv_refused_0) (ea_cons (ev_varK 1 rfl r_plan kv_refused_1) (ea_cons (ev_varK 2 rfl r_path_here kv_refused_2) (ea_cons (ev_varK 3 rfl r_k kv_refused_3) ea_nil)))) h_t4 gl_refused_done) (fun F H cls_ dd_ g xr_ => hw_ _ _ _ _ ⟨?_, fun a_ ha_ oe_ pn_ z1_ z2_ => ?_⟩))
        · exact xm_of xr_.1 T.xm_NoTurning_FurrowError
        ·
          have G := G.trans g
          have r_way := Rp.mono g.ff r_way
          have r_plan := Rp.mono g.ff r_plan
          have r_path_here := Rp.mono g.ff r_path_here
          have r_k := Rp.mono g.ff r_k
          have r_own := Rp.mono g.ff r_own
          have r_base := Rp.mono g.ff r_base
          have r_e : xr0 "NoTurning" K cls_ dd_ := xr_
          change GoS _ _ _ [some v_way, some v_plan, some v_path_here, some v_k, some v_own, some v_base, some (.ref a_)] _
          obtain ⟨x_base, he, hm⟩ := Option.bind_eq_some_iff.mp hm
          refine go_setA (Bool) 5 G.sm (ev_andP (ev_isE (b := true) 6 T.xc_NoTurning T.xk_NoTurning_NoTurning z1_ z2_ rfl r_e T.n_isinstance T.g_NoTurning) (ev_one (ev_isEB (T := "ValueError") (b := true) 6 T.xc_NoTurning T.xk_NoTurning_ValueError z1_ z2_ rfl r_e T.n_isinstance T.n_ValueError (by decide +kernel)))) (fun v_base F H g rn_ => ?_) sc_refused.nd
          have G := G.trans g
          have r_own := Rp.mono g.ff r_own
          have r_e := r_e.up g
          have r_base := cg (Option.some.inj he) rn_
          refine GoS.nil ?_
          change GoS _ _ _ [some v_way, some v_plan, some v_path_here, some v_k, some v_own, some v_base, none] _
          exact go_ret G.sm (ev_andP (ev_varK 4 rfl r_own kv_refused_4) (ev_one (ev_varK 5 rfl r_base kv_refused_5))) fun v_ F_ H_ g_ rv_ => kr _ _ _ (G.trans g_) (cg (Option.some.inj hm) rv_)
  | x e3 =>
    cases e3 with
    | NoTurning =>
      refine go_exprZ G.sm (EvX.rz (ex_call tk_ (ok_done T) (hr.mono (by omega)) T.g_done T.F_done.kp (b_done T) (ea_cons (ev_varK 0 rfl r_way kv_refused_0) (ea_cons (ev_varK 1 rfl r_plan kv_refused_1) (ea_cons (ev_varK 2 rfl r_path_here kv_refused_2) (ea_cons (ev_varK 3 rfl r_k kv_refused_3) ea_nil)))) h_t1 gl_refused_done) (fun F H cls_ dd_ g xr_ => hw_ _ _ _ _ ⟨?_, fun a_ ha_ oe_ pn_ z1_ z2_ => ?_⟩))
      · exact xm_of xr_.1 T.xm_NoTurning_NoTurning
      ·
        have G := G.trans g
        have r_way := Rp.mono g.ff r_way
        have r_plan := Rp.mono g.ff r_plan
        have r_path_here := Rp.mono g.ff r_path_here
        have r_k := Rp.mono g.ff r_k
        have r_own := Rp.mono g.ff r_own
        have r_base := Rp.mono g.ff r_base
        obtain ⟨x_own, he, hm⟩ := Option.bind_eq_some_iff.mp hm
        refine go_setA (Bool) 4 G.sm ev_bl (fun v_own F H g rn_ => ?_) sc_refused.nd
        have G := G.trans g
        have r_way := Rp.mono g.ff r_way
        have r_plan := Rp.mono g.ff r_plan
        have r_path_here := Rp.mono g.ff r_path_here
        have r_k := Rp.mono g.ff r_k
        have r_base := Rp.mono g.ff r_base
        have r_own := cg (Option.some.inj he) rn_
        refine GoS.nil ?_
        refine go_tryN (c := .ref (He.ga K "FurrowError")) 6 sc_refused.nd ⟨rfl, by decide, Or.inl T.g_FurrowError⟩ (fun pn_ xe_ W_ tk_ po_ hw_ => ?_)
        obtain ⟨t7, h_t7, hm⟩ := Option.bind_eq_some_iff.mp hm
        cases t7 with
        | v t8 =>
          refine go_expr G.sm (EvX.ok (ex_call tk_ (ok_done T) (hr.mono (by omega)) T.g_done T.F_done.kp (b_done T) (ea_cons (ev_varK 0 rfl r_way kv_refused_0) (ea_cons (ev_varK 1 rfl r_plan kv_refused_1) (ea_cons (ev_varK 2 rfl r_path_here kv_refused_2) (ea_cons (ev_varK 3 rfl r_k kv_refused_3) ea_nil)))) h_t7 gl_refused_done)) (fun F H g => ?_)
          have G := G.trans g
          have r_way := Rp.mono g.ff r_way
          have r_plan := Rp.mono g.ff r_plan
          have r_path_here := Rp.mono g.ff r_path_here
          have r_k := Rp.mono g.ff r_k
          have r_own := Rp.mono g.ff r_own
          have r_base := Rp.mono g.ff r_base
          refine GoS.nil ?_
          exact go_ret G.sm (ev_andP (ev_varK 4 rfl r_own kv_refused_4) (ev_one (ev_varK 5 rfl r_base kv_refused_5))) fun v_ F_ H_ g_ rv_ => kr _ _ _ (G.trans g_) (cg (Option.some.inj hm) rv_)
        | x e9 =>
          cases e9 with
          | NoTurning =>
            refine go_exprZ G.sm (EvX.rz (ex_call tk_ (ok_done T) (hr.mono (by omega)) T.g_done T.F_done.kp (b_done T) (ea_cons (ev_varK 0 rfl r_way kv_refused_0) (ea_cons (ev_varK 1 rfl r_plan kv_refused_1) (ea_cons (ev_varK 2 rfl r_path_here kv_refused_2) (ea_cons (ev_varK 3 rfl r_k kv_refused_3) ea_nil)))) h_t7 gl_refused_done) (fun F H cls_ dd_ g xr_ => hw_ _ _ _ _ ⟨?_, fun a_ ha_ oe_ pn_ z1_ z2_ => ?_⟩))
            · exact xm_of xr_.1 T.xm_NoTurning_FurrowError
            ·
              have G := G.trans g
              have r_way := Rp.mono g.ff r_way
              have r_plan := Rp.mono g.ff r_plan
              have r_path_here := Rp.mono g.ff r_path_here
              have r_k := Rp.mono g.ff r_k
              have r_own := Rp.mono g.ff r_own
              have r_base := Rp.mono g.ff r_base
              have r_e : xr0 "NoTurning" K cls_ dd_ := xr_
              change GoS _ _ _ [some v_way, some v_plan, some v_path_here, some v_k, some v_own, some v_base, some (.ref a_)] _
              obtain ⟨x_base, he, hm⟩ := Option.bind_eq_some_iff.mp hm
              refine go_setA (Bool) 5 G.sm (ev_andP (ev_isE (b := true) 6 T.xc_NoTurning T.xk_NoTurning_NoTurning z1_ z2_ rfl r_e T.n_isinstance T.g_NoTurning) (ev_one (ev_isEB (T := "ValueError") (b := true) 6 T.xc_NoTurning T.xk_NoTurning_ValueError z1_ z2_ rfl r_e T.n_isinstance T.n_ValueError (by decide +kernel)))) (fun v_base F H g rn_ => ?_) sc_refused.nd
              have G := G.trans g
              have r_own := Rp.mono g.ff r_own
              have r_e := r_e.up g
              have r_base := cg (Option.some.inj he) rn_
              refine GoS.nil ?_
              change GoS _ _ _ [some v_way, some v_plan, some v_path_here, some v_k, some v_own, some v_base, none] _
              exact go_ret G.sm (ev_andP (ev_varK 4 rfl r_own kv_refused_4) (ev_one (ev_varK 5 rfl r_base kv_refused_5))) fun v_ F_ H_ g_ rv_ => kr _ _ _ (G.trans g_) (cg (Option.some.inj hm) rv_)
/-! law_change -/
theorem sc_law_change : NdefX.NScope ["_law_ways", "_law_places_here", "_law_path_here"] ["_law_ways", "_law_places_here"] ["_law_path_here"] (defScope s_law_change) := NdefX.nscope_by (by decide +kernel)
theorem nd_law_change : NdefX.ndefB (defScope s_law) (defScope s_law_change) ["_law_path_here"] = true := by decide +kernel
theorem kv_law_change_0 : VKn (defScope s_law_change) "_law_ways" := ⟨by first | exact Or.inl (by decide +kernel) | exact Or.inr (Or.inl (by decide +kernel)) | exact Or.inr (Or.inr (by decide +kernel)), by decide, by decide⟩
theorem kv_law_change_1 : VKn (defScope s_law_change) "_law_places_here" := ⟨by first | exact Or.inl (by decide +kernel) | exact Or.inr (Or.inl (by decide +kernel)) | exact Or.inr (Or.inr (by decide +kernel)), by decide, by decide⟩
theorem kv_law_change_2 : VKn (defScope s_law_change) "_law_path_here" := ⟨by first | exact Or.inl (by decide +kernel) | exact Or.inr (Or.inl (by decide +kernel)) | exact Or.inr (Or.inr (by decide +kernel)), by decide, by decide⟩
theorem nok_law_change (T : TxB K mg base) (f_ c_ : Addr) (q_ : Str) (cl_ : List (Str × Addr)) (v_path_here : V) (x_path_here : (Tp Int)) : NokT P w K mg base 1 (cf_law_change f_ c_ q_ cl_ v_path_here x_path_here) := by
  refine nokT sc_law_change rfl (fun doc pm ctv us hl => match us, hl with | [_, _], _ => rfl) fun A outer s_ F0 H0 Fc_ Hc_ l_ways l_places_here x_ways x_places_here r D_ E_ hr G hR_ o_ways o_places_here ne_ hm kr kn => ?_
  obtain ⟨r_path_here, _⟩ := hR_
  have d_ways_places_here : l_ways ≠ l_places_here := ne_
  have d_places_here_ways : l_places_here ≠ l_ways := ne_.symm
  replace hm : m_law_change x_path_here x_ways x_places_here = some r := hm
  unfold m_law_change at hm
  have r_path_here : rp (α := (Tp Int)) K Fc_ v_path_here x_path_here := r_path_here
  change GoS _ _ _ [some (.ref l_ways), some (.ref l_places_here), some v_path_here] _
  obtain ⟨t1, h_t1, hm⟩ := Option.bind_eq_some_iff.mp hm
  obtain ⟨t2, he, hm⟩ := Option.bind_eq_some_iff.mp hm
  refine go_setL 0 G.sm o_ways rfl (ev_tup2 (ea_cons (ev_ixT (ev_ixOwn 0 o_ways rfl (ev_sub (ev_callB call_len_seq oc_lenTp T.n_len PySem.boot_len (ea_cons (ev_varK 2 rfl r_path_here kv_law_change_2) ea_nil)) ev_int) h_t1) ev_int pj0) (ea_cons ev_str ea_nil))) (ev_sub (ev_callB call_len_seq oc_lenTp T.n_len PySem.boot_len (ea_cons (ev_varK 2 rfl r_path_here kv_law_change_2) ea_nil)) ev_int) he (fun w_ F H g nz_ fz_ on_ => ?_)
  have G := G.trans g
  have o_places_here := o_places_here.up g
  have r_path_here := Rp.mono g.ff r_path_here
  have G := G.poke (u := w_) on_.n fz_ nz_ on_.pl
  have o_ways := on_
  have o_places_here := o_places_here.other (u := w_) (d_places_here_ways)
  refine o_places_here.freeze G (fun F H s_ s2_ G r_places_here k_ => ?_)
  have o_ways := o_ways.keepF (d_places_here_ways.symm) s_ k_
  refine o_ways.freeze G (fun F H s_ s2_ G r_ways k_ => ?_)
  have r_places_here := Rp.mono s_ r_places_here
  exact go_ret G.sm (ev_tup2 (ea_cons (ev_varK 0 rfl r_ways kv_law_change_0) (ea_cons (ev_varK 1 rfl r_places_here kv_law_change_1) ea_nil))) fun v_ F_ H_ g_ rv_ => kr _ _ _ (G.trans g_) (cg (Option.some.inj hm) rv_)
/-! changed -/
theorem sc_changed : FnScope ["_law_leaves_here", "_law_one", "_law_change", "_law_found", "_law_k", "_law_number_here", "_law_share", "_law_ways", "_law_places_here"] ["_law_leaves_here", "_law_one", "_law_change"] (defScope s_changed) := ⟨rfl, rfl, rfl, by decide +kernel, rfl, by decide +kernel, by decide +kernel⟩
theorem b_changed (T : TxB K mg base) : Binds K T.d_changed ["_law_leaves_here", "_law_one", "_law_change"] [] := T.F_changed.bindsN fun _ _ _ _ _ _ us hl => match us, hl with | [_, _, _], _ => rfl
theorem kv_changed_0 : VKn (defScope s_changed) "_law_leaves_here" := ⟨by first | exact Or.inl (by decide +kernel) | exact Or.inr (Or.inl (by decide +kernel)) | exact Or.inr (Or.inr (by decide +kernel)), by decide, by decide⟩
theorem kv_changed_1 : VKn (defScope s_changed) "_law_one" := ⟨by first | exact Or.inl (by decide +kernel) | exact Or.inr (Or.inl (by decide +kernel)) | exact Or.inr (Or.inr (by decide +kernel)), by decide, by decide⟩
theorem kv_changed_3 : VKn (defScope s_changed) "_law_found" := ⟨by first | exact Or.inl (by decide +kernel) | exact Or.inr (Or.inl (by decide +kernel)) | exact Or.inr (Or.inr (by decide +kernel)), by decide, by decide⟩
theorem kv_changed_4 : VKn (defScope s_changed) "_law_k" := ⟨by first | exact Or.inl (by decide +kernel) | exact Or.inr (Or.inl (by decide +kernel)) | exact Or.inr (Or.inr (by decide +kernel)), by decide, by decide⟩
theorem kv_changed_5 : VKn (defScope s_changed) "_law_number_here" := ⟨by first | exact Or.inl (by decide +kernel) | exact Or.inr (Or.inl (by decide +kernel)) | exact Or.inr (Or.inr (by decide +kernel)), by decide, by decide⟩
theorem kv_changed_6 : VKn (defScope s_changed) "_law_share" := ⟨by first | exact Or.inl (by decide +kernel) | exact Or.inr (Or.inl (by decide +kernel)) | exact Or.inr (Or.inr (by decide +kernel)), by decide, by decide⟩
theorem kv_changed_7 : VKn (defScope s_changed) "_law_ways" := ⟨by first | exact Or.inl (by decide +kernel) | exact Or.inr (Or.inl (by decide +kernel)) | exact Or.inr (Or.inr (by decide +kernel)), by decide, by decide⟩
theorem kv_changed_8 : VKn (defScope s_changed) "_law_places_here" := ⟨by first | exact Or.inl (by decide +kernel) | exact Or.inr (Or.inl (by decide +kernel)) | exact Or.inr (Or.inr (by decide +kernel)), by decide, by decide⟩
theorem ok_changed (T : TxB K mg base) (fv_change : Fnv ((List (T2 Bool Str)) × (List (T2 Int Int)) × Unit) (T2 (List (T2 Bool Str)) (List (T2 Int Int)))) (fk_change : NokT P w K mg base 8 fv_change) : FnOkZ (ZC fv_change) P w K mg base CX0 9 (He.fAd K ("_law_changed", none)) T.d_changed ["_law_leaves_here", "_law_one", "_law_change"] (Pr K fun (a_ : (List (T4 Int Int (List (T2 Bool Str)) (List (T2 Int Int)))) × (T4 (Tp Int) Int Int Bool) × One fv_change × Unit) => m_changed a_.1 a_.2.1 fv_change.fn) := by
  refine fn_okZ T.F_changed sc_changed rfl fun cdv A outer s_ F0 H0 vs a_ r D_ E_ hcd_ hr z_ sm_ ra_ hm kr kn => ?_
  obtain ⟨v_leaves_here, _, rfl, r_leaves_here, v_one, _, rfl, r_one, v_change, _, rfl, r_change, rfl⟩ := ra_
  obtain ⟨x_leaves_here, x_one, x_change, _u⟩ := a_
  have G : GrX K F0 H0 F0 H0 := .refl sm_
  replace hm : m_changed x_leaves_here x_one fv_change.fn = some r := hm
  unfold m_changed at hm
  have r_leaves_here : rp (α := (List (T4 Int Int (List (T2 Bool Str)) (List (T2 Int Int))))) K F0 v_leaves_here x_leaves_here := r_leaves_here
  have r_one : rp (α := (T4 (Tp Int) Int Int Bool)) K F0 v_one x_one := r_one
  obtain ⟨x_change, fe_change⟩ : ∃ z1_, fv_change.fn = z1_ := ⟨_, rfl⟩
  rw [fe_change] at hm
  have r_change : ClF fv_change K F0 H0 v_change := ⟨r_change, z_.m⟩
  change GoS _ _ _ [some v_leaves_here, some v_one, some v_change, none, none, none, none, none, none] _
  obtain ⟨x_found, he, hm⟩ := Option.bind_eq_some_iff.mp hm
  refine go_setNA ((List (T4 Int Int (List (T2 Bool Str)) (List (T2 Int Int))))) 3 G.sm (en_list_of T.n_list (ev_varK 0 rfl r_leaves_here kv_changed_0)) (fun l_found vs_ F H g nl_ fl_ hl_ rs_ => ?_) sc_changed.nd
  have n0_ := G.hh.free nl_
  have G := G.trans g
  have r_leaves_here := Rp.mono g.ff r_leaves_here
  have r_one := Rp.mono g.ff r_one
  have r_change := r_change.up g
  have o_found : Own K _ F H l_found _ := Own.cg (Option.some.inj he) ⟨n0_, fl_, vs_, hl_, rs_⟩
  change GoS _ _ _ [some v_leaves_here, some v_one, some v_change, some (.ref l_found), none, none, none, none, none] _
  obtain ⟨t1, h_t1, hm⟩ := Option.bind_eq_some_iff.mp hm
  obtain ⟨b15, ho_, hm⟩ := Option.bind_eq_some_iff.mp hm
  refine go_forN G.sm (ei_range2 (ev_ixT (ev_varK 1 rfl r_one kv_changed_1) ev_int pj1) (ev_ixT (ev_varK 1 rfl r_one kv_changed_1) ev_int pj2) h_t1 T.n_range) (pg_name (i := 4) sc_changed.nd rfl (by first | exact Or.inl rfl | exact Or.inr rfl)) ho_ (fun F H g => ?_) PassesOwn.never
  have G := G.trans g
  have r_leaves_here := Rp.mono g.ff r_leaves_here
  have r_change := r_change.up g
  have o_found := o_found.up g
  refine ⟨fun (b2 : (List (T4 Int Int (List (T2 Bool Str)) (List (T2 Int Int))))) σ_ F_ H_ => ∃ (u_number_here : Option V) (u_share : Option V) (u_ways : Option V) (u_places_here : Option V) (u_k : Option V), σ_ = [some v_leaves_here, some v_one, some v_change, some (.ref l_found), u_k, u_number_here, u_share, u_ways, u_places_here] ∧ GrX K F0 H0 F_ H_ ∧ Own K H0 F_ H_ l_found b2, ⟨_, _, _, _, _, rfl, G, o_found⟩, ?_, ?_⟩
  ·
    intro b2 x_k o_ hm σ_ F H v_k s1_ s2_ iv_ F H g r_k Q_ hQ_
    obtain ⟨u_number_here, u_share, u_ways, u_places_here, u_k, rfl, G, o_found⟩ := iv_
    have sb5 := g.ff
    have r_leaves_here := Rp.mono s1_ r_leaves_here
    have r_change := ClF.mk (Rp.mono s1_ r_change.r) (z_.m.ext G.hh)
    have G := G.trans g
    have r_leaves_here := Rp.mono g.ff r_leaves_here
    have r_change := r_change.up g
    have o_found := o_found.up g
    refine hQ_ _ _ ?_
    change GoS _ _ _ [some v_leaves_here, some v_one, some v_change, some (.ref l_found), some v_k, u_number_here, u_share, u_ways, u_places_here] _
    obtain ⟨t6, h_t6, hm⟩ := Option.bind_eq_some_iff.mp hm
    obtain ⟨i7, he, hm⟩ := Option.bind_eq_some_iff.mp hm
    refine go_unpack G.sm (ev_ixL (ev_varK 0 rfl r_leaves_here kv_changed_0) (ev_varK 4 rfl r_k kv_changed_4) h_t6) (pg_tup rfl (pgs_cons (pg_name (i := 5) sc_changed.nd rfl (by first | exact Or.inl rfl | exact Or.inr rfl)) (pgs_cons (pg_name (i := 6) sc_changed.nd rfl (by first | exact Or.inl rfl | exact Or.inr rfl)) (pgs_cons (pg_name (i := 7) sc_changed.nd rfl (by first | exact Or.inl rfl | exact Or.inr rfl)) (pgs_cons (pg_name (i := 8) sc_changed.nd rfl (by first | exact Or.inl rfl | exact Or.inr rfl)) pgs_nil))))) (fun w_ F H g ri_ Q_ hQ_ => ?_)
    have ri_ := cg (Option.some.inj he) ri_
    have G := G.trans g
    have r_leaves_here := Rp.mono g.ff r_leaves_here
    have r_change := r_change.up g
    have o_found := o_found.up g
    have r_k := Rp.mono g.ff r_k
    have sb5 := sb5.trans g.ff
    obtain ⟨pa8, _, rfl, sq9, v_number_here, _, rfl, r_number_here, v_share, _, rfl, r_share, v_ways, _, rfl, r_ways, v_places_here, _, rfl, r_places_here, rfl⟩ := ri_
    refine ⟨pa8, _, rfl, seqT_mono G.fh sq9, rfl, _, _, rfl, _, _, rfl, _, _, rfl, _, _, rfl, rfl, hQ_ _ _ ?_⟩
    change GoS _ _ _ [some v_leaves_here, some v_one, some v_change, some (.ref l_found), some v_k, some v_number_here, some v_share, some v_ways, some v_places_here] _
    obtain ⟨t10, h_t10, hm⟩ := Option.bind_eq_some_iff.mp hm
    obtain ⟨i11, he, hm⟩ := Option.bind_eq_some_iff.mp hm
    refine go_unpack G.sm (ev_callT 2 fk_change hr (by omega) rfl r_change (clA_recv z_) (en_list_of T.n_list (ev_varK 7 rfl r_ways kv_changed_7)) (en_list_of T.n_list (ev_varK 8 rfl r_places_here kv_changed_8)) (by rw [fe_change]; exact h_t10)) (pg_tup rfl (pgs_cons (pg_name (i := 7) sc_changed.nd rfl (by first | exact Or.inl rfl | exact Or.inr rfl)) (pgs_cons (pg_name (i := 8) sc_changed.nd rfl (by first | exact Or.inl rfl | exact Or.inr rfl)) pgs_nil))) (fun w_ F H g ri_ Q_ hQ_ => ?_)
    have ri_ := cg (Option.some.inj he) ri_
    have G := G.trans g
    have r_change := r_change.up g
    have o_found := o_found.up g
    have r_k := Rp.mono g.ff r_k
    have r_number_here := Rp.mono g.ff r_number_here
    have r_share := Rp.mono g.ff r_share
    have sb5 := sb5.trans g.ff
    obtain ⟨pa12, _, rfl, sq13, v_ways, _, rfl, r_ways, v_places_here, _, rfl, r_places_here, rfl⟩ := ri_
    refine ⟨pa12, _, rfl, seqT_mono G.fh sq13, rfl, _, _, rfl, _, _, rfl, rfl, hQ_ _ _ ?_⟩
    obtain ⟨t14, he, hm⟩ := Option.bind_eq_some_iff.mp hm
    refine go_setL 3 G.sm o_found rfl (ev_tup4 (ea_cons (ev_varK 5 rfl r_number_here kv_changed_5) (ea_cons (ev_varK 6 rfl r_share kv_changed_6) (ea_cons (ev_varK 7 rfl r_ways kv_changed_7) (ea_cons (ev_varK 8 rfl r_places_here kv_changed_8) ea_nil))))) (ev_varK 4 rfl r_k kv_changed_4) he (fun w_ F H g nz_ fz_ on_ => ?_)
    have G := G.trans g
    have r_change := r_change.up g
    have r_k := Rp.mono g.ff r_k
    have r_number_here := Rp.mono g.ff r_number_here
    have r_share := Rp.mono g.ff r_share
    have r_ways := Rp.mono g.ff r_ways
    have r_places_here := Rp.mono g.ff r_places_here
    have sb5 := sb5.trans g.ff
    have G := G.poke (u := w_) on_.n fz_ nz_ on_.pl
    have o_found := on_
    have hm := Option.some.inj hm
    subst hm
    exact GoS.nil ⟨_, sb5, G.fh, ⟨_, _, _, _, _, rfl, G, o_found⟩⟩
  · intro σ_ F H s1_ s2_ iv_
    obtain ⟨u_number_here, u_share, u_ways, u_places_here, u_k, rfl, G, o_found⟩ := iv_
    have r_change := ClF.mk (Rp.mono s1_ r_change.r) (z_.m.ext G.hh)
    refine o_found.freeze G (fun F H s_ s2_ G r_found k_ => ?_)
    exact go_ret G.sm (ev_varK 3 rfl r_found kv_changed_3) fun v_ F_ H_ g_ rv_ => kr _ _ _ (G.trans g_) (cg (Option.some.inj hm) rv_)
/-! whole -/
theorem sc_whole : FnScope ["_law_found"] ["_law_found"] (defScope s_whole) := ⟨rfl, rfl, rfl, by decide +kernel, rfl, by decide +kernel, by decide +kernel⟩
theorem b_whole (T : TxB K mg base) : Binds K T.d_whole ["_law_found"] [] := T.F_whole.bindsN fun _ _ _ _ _ _ us hl => match us, hl with | [_], _ => rfl
theorem kv_whole_0 : VKn (defScope s_whole) "_law_found" := ⟨by first | exact Or.inl (by decide +kernel) | exact Or.inr (Or.inl (by decide +kernel)) | exact Or.inr (Or.inr (by decide +kernel)), by decide, by decide⟩
theorem ok_whole (T : TxB K mg base) : FnOk P w K mg base CX0 1 (He.fAd K ("_law_whole", none)) T.d_whole ["_law_found"] (Pr K fun (a_ : Int × Unit) => m_whole a_.1) := by
  refine fn_ok T.F_whole sc_whole rfl fun cdv A outer s_ F0 H0 vs a_ r D_ E_ hr sm_ ra_ hm kr kn => ?_
  obtain ⟨v_found, _, rfl, r_found, rfl⟩ := ra_
  obtain ⟨x_found, _u⟩ := a_
  have G : GrX K F0 H0 F0 H0 := .refl sm_
  replace hm : m_whole x_found = some r := hm
  unfold m_whole at hm
  have r_found : rp (α := Int) K F0 v_found x_found := r_found
  change GoS _ _ _ [some v_found] _
  exact go_ret G.sm (ev_andP (ev_isi (T := "int") (r := true) (by decide +kernel) T.n_isinstance T.n_int (by decide +kernel) (ev_varK 0 rfl r_found kv_whole_0)) (ev_one (ev_not (ev_isi (T := "bool") (r := false) (by decide +kernel) T.n_isinstance T.n_bool (by decide +kernel) (ev_varK 0 rfl r_found kv_whole_0))))) fun v_ F_ H_ g_ rv_ => kr _ _ _ (G.trans g_) (cg (Option.some.inj hm) rv_)
/-! kinds -/
theorem sc_kinds : FnScope ["_law_items_here", "_law_item", "_law_loop", "_law_shift"] ["_law_items_here"] (defScope s_kinds) := ⟨rfl, rfl, rfl, by decide +kernel, rfl, by decide +kernel, by decide +kernel⟩
theorem b_kinds (T : TxB K mg base) : Binds K T.d_kinds ["_law_items_here"] [] := T.F_kinds.bindsN fun _ _ _ _ _ _ us hl => match us, hl with | [_], _ => rfl
theorem kv_kinds_0 : VKn (defScope s_kinds) "_law_items_here" := ⟨by first | exact Or.inl (by decide +kernel) | exact Or.inr (Or.inl (by decide +kernel)) | exact Or.inr (Or.inr (by decide +kernel)), by decide, by decide⟩
theorem kv_kinds_1 : VKn (defScope s_kinds) "_law_item" := ⟨by first | exact Or.inl (by decide +kernel) | exact Or.inr (Or.inl (by decide +kernel)) | exact Or.inr (Or.inr (by decide +kernel)), by decide, by decide⟩
theorem kv_kinds_2 : VKn (defScope s_kinds) "_law_loop" := ⟨by first | exact Or.inl (by decide +kernel) | exact Or.inr (Or.inl (by decide +kernel)) | exact Or.inr (Or.inr (by decide +kernel)), by decide, by decide⟩
theorem kv_kinds_3 : VKn (defScope s_kinds) "_law_shift" := ⟨by first | exact Or.inl (by decide +kernel) | exact Or.inr (Or.inl (by decide +kernel)) | exact Or.inr (Or.inr (by decide +kernel)), by decide, by decide⟩
theorem gl_kinds_kinds : (defScope s_kinds).names.lookup ("_law_kinds" : Str) = some NameKind.globalImplicit := by decide +kernel
theorem gl_kinds_whole : (defScope s_kinds).names.lookup ("_law_whole" : Str) = some NameKind.globalImplicit := by decide +kernel
theorem ok_kinds (T : TxB K mg base) : ∀ n_ : Nat, FnOk P w K mg base CX0 (1 + n_ + 1) (He.fAd K ("_law_kinds", none)) T.d_kinds ["_law_items_here"] (Pr K fun (a_ : (Tp UItem) × Unit) => m_kinds n_ a_.1)
  | 0 => by
    refine fn_ok T.F_kinds sc_kinds rfl fun cdv A outer s_ F0 H0 vs a_ r D_ E_ hr sm_ ra_ hm kr kn => ?_
    exact nomatch (show none = some r from hm)
  | n_ + 1 => by
    have ih_ := ok_kinds T n_
    refine fn_ok T.F_kinds sc_kinds rfl fun cdv A outer s_ F0 H0 vs a_ r D_ E_ hr sm_ ra_ hm kr kn => ?_
    obtain ⟨v_items_here, _, rfl, r_items_here, rfl⟩ := ra_
    obtain ⟨x_items_here, _u⟩ := a_
    have G : GrX K F0 H0 F0 H0 := .refl sm_
    replace hm : m_kinds (n_ + 1) x_items_here = some r := hm
    rw [m_kinds] at hm
    have r_items_here : rp (α := (Tp UItem)) K F0 v_items_here x_items_here := r_items_here
    change GoS _ _ _ [some v_items_here, none, none, none] _
    obtain ⟨o3, ho_, hm⟩ := Option.bind_eq_some_iff.mp hm
    refine go_forM G.sm (ei_tp (ev_varK 0 rfl r_items_here kv_kinds_0)) (pg_name (i := 1) sc_kinds.nd rfl (by first | exact Or.inl rfl | exact Or.inr rfl)) ho_ hm (fun F H g => ?_) PassesOwn.never
    have G := G.trans g
    refine ⟨fun (b1 : Unit) σ_ F_ H_ => ∃ (u_loop : Option V) (u_shift : Option V) (u_item : Option V), σ_ = [some v_items_here, u_item, u_loop, u_shift] ∧ GrX K F0 H0 F_ H_, fun r_ v_ H_ => ∃ F_, GrX K F0 H0 F_ H_ ∧ rp K F_ v_ r_, ⟨_, _, _, rfl, G⟩, ?_, ?_, ?_⟩
    ·
      intro b1 x_item o_ hm σ_ F H v_item s1_ s2_ iv_ F H g r_item Q_ hQ_
      obtain ⟨u_loop, u_shift, u_item, rfl, G⟩ := iv_
      have sb4 := g.ff
      have G := G.trans g
      refine hQ_ _ _ ?_
      change GoS _ _ _ [some v_items_here, some v_item, u_loop, u_shift] _
      refine go_ifA ((decide (x_item.tag = ("deed" : Str)))) G.sm (et_cmp op_eq o2_eq (UItem.ev_tag (ev_varK 1 rfl r_item kv_kinds_1)) ev_str (nomark _)) (fun hc F H g => ?_) (fun hc F H g => ?_)
      · replace hm := ipos hc hm
        have G := G.trans g
        have r_item := Rp.mono g.ff r_item
        have sb4 := sb4.trans g.ff
        obtain ⟨t5, h_t5, hm⟩ := Option.bind_eq_some_iff.mp hm
        obtain ⟨o8, ho_, hm⟩ := Option.bind_eq_some_iff.mp hm
        refine go_forM G.sm (ei_tp (ev_ixT (UItem.evv_deed (ev_varK 1 rfl r_item kv_kinds_1) h_t5) ev_int pj2)) (pg_tup rfl (pgs_cons (pg_name (i := 2) sc_kinds.nd rfl (by first | exact Or.inl rfl | exact Or.inr rfl)) (pgs_cons (pg_name (i := 3) sc_kinds.nd rfl (by first | exact Or.inl rfl | exact Or.inr rfl)) pgs_nil))) ho_ hm (fun F H g => ?_) PassesOwn.never
        have G := G.trans g
        have r_item := Rp.mono g.ff r_item
        have sb4 := sb4.trans g.ff
        refine ⟨fun (b6 : Unit) σ_ F_ H_ => ∃ (u_loop : Option V) (u_shift : Option V), σ_ = [some v_items_here, some v_item, u_loop, u_shift] ∧ GrX K F0 H0 F_ H_, fun r_ v_ H_ => ∃ F_, GrX K F0 H0 F_ H_ ∧ rp K F_ v_ r_, ⟨_, _, rfl, G⟩, ?_, ?_, ?_⟩
        ·
          intro b6 i7 o_ hm σ_ F H w_ s1_ s2_ iv_ F H g ri_ Q_ hQ_
          obtain ⟨u_loop, u_shift, rfl, G⟩ := iv_
          have sb11 := g.ff
          have G := G.trans g
          obtain ⟨pa9, _, rfl, sq10, v_loop, _, rfl, r_loop, v_shift, _, rfl, r_shift, rfl⟩ := ri_
          refine ⟨pa9, _, rfl, seqT_mono g.fh sq10, rfl, _, _, rfl, _, _, rfl, rfl, hQ_ _ _ ?_⟩
          change GoS _ _ _ [some v_items_here, some v_item, some v_loop, some v_shift] _
          obtain ⟨t12, h_t12, hm⟩ := Option.bind_eq_some_iff.mp hm
          obtain ⟨t14, h_t14, hm⟩ := Option.bind_eq_some_iff.mp hm
          refine go_ifA (t14) G.sm (EvW.t (ew_orA ((!t12)) (et_not (et_val (ev_call (ok_whole T) (hr.mono (by omega)) T.g_whole T.F_whole.kp (b_whole T) (ea_cons (ev_varK 2 rfl r_loop kv_kinds_2) ea_nil) h_t12 gl_kinds_whole))) (fun hc => by
                  replace h_t14 := ineg (nt hc) h_t14
                  obtain ⟨t13, h_t13, h_t14⟩ := Option.bind_eq_some_iff.mp h_t14
                  exact EvW.cg (Option.some.inj h_t14) (ew_or1 (et_not (et_val (ev_call (ok_whole T) (hr.mono (by omega)) T.g_whole T.F_whole.kp (b_whole T) (ea_cons (ev_varK 3 rfl r_shift kv_kinds_3) ea_nil) h_t13 gl_kinds_whole))))) (fun hc => by replace h_t14 := ipos hc h_t14; exact (Option.some.inj h_t14).symm))) (fun hc F H g => ?_) (fun hc F H g => ?_)
          · replace hm := ipos hc hm
            have G := G.trans g
            have r_loop := Rp.mono g.ff r_loop
            have r_shift := Rp.mono g.ff r_shift
            have sb11 := sb11.trans g.ff
            exact go_ret G.sm ev_bl fun v_ F_ H_ g_ rv_ => ⟨_, (Option.some.inj hm).symm, F_, G.trans g_, rv_⟩
          · replace hm := ineg (nt hc) hm
            have G := G.trans g
            have r_loop := Rp.mono g.ff r_loop
            have r_shift := Rp.mono g.ff r_shift
            have sb11 := sb11.trans g.ff
            refine GoS.nil ?_
            exact GoS.nil ⟨_, _, (Option.some.inj hm).symm, sb11, G.fh, ⟨_, _, rfl, G⟩⟩
        · intro b15 hm σ_ F H s1_ s2_ iv_
          obtain ⟨u_loop, u_shift, rfl, G⟩ := iv_
          have sb4 := sb4.trans s1_
          have r_item := Rp.mono s1_ r_item
          refine GoS.nil ?_
          obtain ⟨t18, h_t18, hm⟩ := Option.bind_eq_some_iff.mp hm
          refine go_ifA (t18) G.sm (EvW.t (ew_andA ((decide (x_item.tag = ("deed" : Str)))) (et_cmp op_eq o2_eq (UItem.ev_tag (ev_varK 1 rfl r_item kv_kinds_1)) ev_str (nomark _)) (fun hc => by
                  replace h_t18 := ipos hc h_t18
                  obtain ⟨t16, h_t16, h_t18⟩ := Option.bind_eq_some_iff.mp h_t18
                  obtain ⟨t17, h_t17, h_t18⟩ := Option.bind_eq_some_iff.mp h_t18
                  exact EvW.cg (Option.some.inj h_t18) (ew_and1 (et_not (et_val (ev_call (ok_whole T) (hr.mono (by omega)) T.g_whole T.F_whole.kp (b_whole T) (ea_cons (ev_ixT (UItem.evv_deed (ev_varK 1 rfl r_item kv_kinds_1) h_t16) ev_int pj1) ea_nil) h_t17 gl_kinds_whole))))) (fun hc => by replace h_t18 := ineg (nt hc) h_t18; exact (Option.some.inj h_t18).symm))) (fun hc F H g => ?_) (fun hc F H g => ?_)
          · replace hm := ipos hc hm
            have G := G.trans g
            have r_item := Rp.mono g.ff r_item
            have sb4 := sb4.trans g.ff
            exact go_ret G.sm ev_bl fun v_ F_ H_ g_ rv_ => ⟨_, (Option.some.inj hm).symm, F_, G.trans g_, rv_⟩
          · replace hm := ineg (nt hc) hm
            have G := G.trans g
            have r_item := Rp.mono g.ff r_item
            have sb4 := sb4.trans g.ff
            refine GoS.nil ?_
            obtain ⟨t23, h_t23, hm⟩ := Option.bind_eq_some_iff.mp hm
            refine go_ifA (t23) G.sm (EvW.t (ew_andA ((decide (x_item.tag = ("sweep" : Str)))) (et_cmp op_eq o2_eq (UItem.ev_tag (ev_varK 1 rfl r_item kv_kinds_1)) ev_str (nomark _)) (fun hc => by
                    replace h_t23 := ipos hc h_t23
                    obtain ⟨t19, h_t19, h_t23⟩ := Option.bind_eq_some_iff.mp h_t23
                    obtain ⟨t22, h_t22, h_t23⟩ := Option.bind_eq_some_iff.mp h_t23
                    exact EvW.cg (Option.some.inj h_t23) (ew_and1 (EvW.t (ew_orA ((!true)) (et_not (et_val (ev_isi (T := "bool") (r := true) (by decide +kernel) T.n_isinstance T.n_bool (by decide +kernel) (ev_ixT (UItem.evv_sweep (ev_varK 1 rfl r_item kv_kinds_1) h_t19) ev_int pj1)))) (fun hc => by
                    replace h_t22 := ineg (nt hc) h_t22
                    obtain ⟨t20, h_t20, h_t22⟩ := Option.bind_eq_some_iff.mp h_t22
                    obtain ⟨t21, h_t21, h_t22⟩ := Option.bind_eq_some_iff.mp h_t22
                    exact EvW.cg (Option.some.inj h_t22) (ew_or1 (et_not (et_val (ev_call ih_ (hr.mono (by omega)) T.g_kinds T.F_kinds.kp (b_kinds T) (ea_cons (ev_ixT (UItem.evv_sweep (ev_varK 1 rfl r_item kv_kinds_1) h_t20) ev_int pj3) ea_nil) h_t21 gl_kinds_kinds))))) (fun hc => by replace h_t22 := ipos hc h_t22; exact (Option.some.inj h_t22).symm))))) (fun hc => by replace h_t23 := ineg (nt hc) h_t23; exact (Option.some.inj h_t23).symm))) (fun hc F H g => ?_) (fun hc F H g => ?_)
            · replace hm := ipos hc hm
              have G := G.trans g
              have r_item := Rp.mono g.ff r_item
              have sb4 := sb4.trans g.ff
              exact go_ret G.sm ev_bl fun v_ F_ H_ g_ rv_ => ⟨_, (Option.some.inj hm).symm, F_, G.trans g_, rv_⟩
            · replace hm := ineg (nt hc) hm
              have G := G.trans g
              have r_item := Rp.mono g.ff r_item
              have sb4 := sb4.trans g.ff
              refine GoS.nil ?_
              exact GoS.nil ⟨_, _, (Option.some.inj hm).symm, sb4, G.fh, ⟨_, _, _, rfl, G⟩⟩
        · intro r_ he v_ H_ hv_
          exact ⟨_, (Option.some.inj he).symm, hv_⟩
      · replace hm := ineg (nt hc) hm
        have G := G.trans g
        have r_item := Rp.mono g.ff r_item
        have sb4 := sb4.trans g.ff
        refine GoS.nil ?_
        obtain ⟨t26, h_t26, hm⟩ := Option.bind_eq_some_iff.mp hm
        refine go_ifA (t26) G.sm (EvW.t (ew_andA ((decide (x_item.tag = ("deed" : Str)))) (et_cmp op_eq o2_eq (UItem.ev_tag (ev_varK 1 rfl r_item kv_kinds_1)) ev_str (nomark _)) (fun hc => by
                replace h_t26 := ipos hc h_t26
                obtain ⟨t24, h_t24, h_t26⟩ := Option.bind_eq_some_iff.mp h_t26
                obtain ⟨t25, h_t25, h_t26⟩ := Option.bind_eq_some_iff.mp h_t26
                exact EvW.cg (Option.some.inj h_t26) (ew_and1 (et_not (et_val (ev_call (ok_whole T) (hr.mono (by omega)) T.g_whole T.F_whole.kp (b_whole T) (ea_cons (ev_ixT (UItem.evv_deed (ev_varK 1 rfl r_item kv_kinds_1) h_t24) ev_int pj1) ea_nil) h_t25 gl_kinds_whole))))) (fun hc => by replace h_t26 := ineg (nt hc) h_t26; exact (Option.some.inj h_t26).symm))) (fun hc F H g => ?_) (fun hc F H g => ?_)
        · replace hm := ipos hc hm
          have G := G.trans g
          have r_item := Rp.mono g.ff r_item
          have sb4 := sb4.trans g.ff
          exact go_ret G.sm ev_bl fun v_ F_ H_ g_ rv_ => ⟨_, (Option.some.inj hm).symm, F_, G.trans g_, rv_⟩
        · replace hm := ineg (nt hc) hm
          have G := G.trans g
          have r_item := Rp.mono g.ff r_item
          have sb4 := sb4.trans g.ff
          refine GoS.nil ?_
          obtain ⟨t31, h_t31, hm⟩ := Option.bind_eq_some_iff.mp hm
          refine go_ifA (t31) G.sm (EvW.t (ew_andA ((decide (x_item.tag = ("sweep" : Str)))) (et_cmp op_eq o2_eq (UItem.ev_tag (ev_varK 1 rfl r_item kv_kinds_1)) ev_str (nomark _)) (fun hc => by
                  replace h_t31 := ipos hc h_t31
                  obtain ⟨t27, h_t27, h_t31⟩ := Option.bind_eq_some_iff.mp h_t31
                  obtain ⟨t30, h_t30, h_t31⟩ := Option.bind_eq_some_iff.mp h_t31
                  exact EvW.cg (Option.some.inj h_t31) (ew_and1 (EvW.t (ew_orA ((!true)) (et_not (et_val (ev_isi (T := "bool") (r := true) (by decide +kernel) T.n_isinstance T.n_bool (by decide +kernel) (ev_ixT (UItem.evv_sweep (ev_varK 1 rfl r_item kv_kinds_1) h_t27) ev_int pj1)))) (fun hc => by
                  replace h_t30 := ineg (nt hc) h_t30
                  obtain ⟨t28, h_t28, h_t30⟩ := Option.bind_eq_some_iff.mp h_t30
                  obtain ⟨t29, h_t29, h_t30⟩ := Option.bind_eq_some_iff.mp h_t30
                  exact EvW.cg (Option.some.inj h_t30) (ew_or1 (et_not (et_val (ev_call ih_ (hr.mono (by omega)) T.g_kinds T.F_kinds.kp (b_kinds T) (ea_cons (ev_ixT (UItem.evv_sweep (ev_varK 1 rfl r_item kv_kinds_1) h_t28) ev_int pj3) ea_nil) h_t29 gl_kinds_kinds))))) (fun hc => by replace h_t30 := ipos hc h_t30; exact (Option.some.inj h_t30).symm))))) (fun hc => by replace h_t31 := ineg (nt hc) h_t31; exact (Option.some.inj h_t31).symm))) (fun hc F H g => ?_) (fun hc F H g => ?_)
          · replace hm := ipos hc hm
            have G := G.trans g
            have r_item := Rp.mono g.ff r_item
            have sb4 := sb4.trans g.ff
            exact go_ret G.sm ev_bl fun v_ F_ H_ g_ rv_ => ⟨_, (Option.some.inj hm).symm, F_, G.trans g_, rv_⟩
          · replace hm := ineg (nt hc) hm
            have G := G.trans g
            have r_item := Rp.mono g.ff r_item
            have sb4 := sb4.trans g.ff
            refine GoS.nil ?_
            exact GoS.nil ⟨_, _, (Option.some.inj hm).symm, sb4, G.fh, ⟨_, _, _, rfl, G⟩⟩
    · intro b32 hm σ_ F H s1_ s2_ iv_
      obtain ⟨u_loop, u_shift, u_item, rfl, G⟩ := iv_
      change GoS _ _ _ [some v_items_here, u_item, u_loop, u_shift] _
      exact go_ret G.sm ev_bl fun v_ F_ H_ g_ rv_ => kr _ _ _ (G.trans g_) (cg (Option.some.inj hm) rv_)
    · intro r_ he v_ H_ hv_
      obtain ⟨F_, g_, rv_⟩ := hv_
      exact kr _ _ _ g_ (cg (Option.some.inj he) rv_)
/-! law -/
theorem sc_law : FnScope ["_law_script", "_law_leaves_here", "_law_plan", "_law_groups_here", "_law_path_here", "_law_one", "_law_cell", "_law_change", "_law_due", "_law_found"] ["_law_script"] (defScope s_law) := ⟨rfl, rfl, rfl, by decide +kernel, rfl, by decide +kernel, by decide +kernel⟩
theorem b_law (T : TxB K mg base) : Binds K T.d_law ["_law_script"] [] := T.F_law.bindsN fun _ _ _ _ _ _ us hl => match us, hl with | [_], _ => rfl
theorem kv_law_0 : VKn (defScope s_law) "_law_script" := ⟨by first | exact Or.inl (by decide +kernel) | exact Or.inr (Or.inl (by decide +kernel)) | exact Or.inr (Or.inr (by decide +kernel)), by decide, by decide⟩
theorem kv_law_1 : VKn (defScope s_law) "_law_leaves_here" := ⟨by first | exact Or.inl (by decide +kernel) | exact Or.inr (Or.inl (by decide +kernel)) | exact Or.inr (Or.inr (by decide +kernel)), by decide, by decide⟩
theorem kv_law_2 : VKn (defScope s_law) "_law_plan" := ⟨by first | exact Or.inl (by decide +kernel) | exact Or.inr (Or.inl (by decide +kernel)) | exact Or.inr (Or.inr (by decide +kernel)), by decide, by decide⟩
theorem kv_law_3 : VKn (defScope s_law) "_law_groups_here" := ⟨by first | exact Or.inl (by decide +kernel) | exact Or.inr (Or.inl (by decide +kernel)) | exact Or.inr (Or.inr (by decide +kernel)), by decide, by decide⟩
theorem kv_law_4 : VKn (defScope s_law) "_law_path_here" := ⟨by first | exact Or.inl (by decide +kernel) | exact Or.inr (Or.inl (by decide +kernel)) | exact Or.inr (Or.inr (by decide +kernel)), by decide, by decide⟩
theorem kv_law_5 : VKn (defScope s_law) "_law_one" := ⟨by first | exact Or.inl (by decide +kernel) | exact Or.inr (Or.inl (by decide +kernel)) | exact Or.inr (Or.inr (by decide +kernel)), by decide, by decide⟩
theorem kv_law_6 : VKn (defScope s_law) "_law_cell" := ⟨by first | exact Or.inl (by decide +kernel) | exact Or.inr (Or.inl (by decide +kernel)) | exact Or.inr (Or.inr (by decide +kernel)), by decide, by decide⟩
theorem kv_law_7 : VKn (defScope s_law) "_law_change" := ⟨by first | exact Or.inl (by decide +kernel) | exact Or.inr (Or.inl (by decide +kernel)) | exact Or.inr (Or.inr (by decide +kernel)), by decide, by decide⟩
theorem kv_law_8 : VKn (defScope s_law) "_law_due" := ⟨by first | exact Or.inl (by decide +kernel) | exact Or.inr (Or.inl (by decide +kernel)) | exact Or.inr (Or.inr (by decide +kernel)), by decide, by decide⟩
theorem kv_law_9 : VKn (defScope s_law) "_law_found" := ⟨by first | exact Or.inl (by decide +kernel) | exact Or.inr (Or.inl (by decide +kernel)) | exact Or.inr (Or.inr (by decide +kernel)), by decide, by decide⟩
theorem gl_law_at : (defScope s_law).names.lookup ("_law_at" : Str) = some NameKind.globalImplicit := by decide +kernel
theorem gl_law_cell_at : (defScope s_law).names.lookup ("_law_cell_at" : Str) = some NameKind.globalImplicit := by decide +kernel
theorem gl_law_changed : (defScope s_law).names.lookup ("_law_changed" : Str) = some NameKind.globalImplicit := by decide +kernel
theorem gl_law_freed : (defScope s_law).names.lookup ("freed" : Str) = some NameKind.globalImplicit := by decide +kernel
theorem gl_law_groups : (defScope s_law).names.lookup ("_law_groups" : Str) = some NameKind.globalImplicit := by decide +kernel
theorem gl_law_items : (defScope s_law).names.lookup ("_law_items" : Str) = some NameKind.globalImplicit := by decide +kernel
theorem gl_law_kinds : (defScope s_law).names.lookup ("_law_kinds" : Str) = some NameKind.globalImplicit := by decide +kernel
theorem gl_law_leaves : (defScope s_law).names.lookup ("_law_leaves" : Str) = some NameKind.globalImplicit := by decide +kernel
theorem gl_law_path : (defScope s_law).names.lookup ("_law_path" : Str) = some NameKind.globalImplicit := by decide +kernel
theorem gl_law_refused : (defScope s_law).names.lookup ("_law_refused" : Str) = some NameKind.globalImplicit := by decide +kernel
theorem ok_law (T : TxB K mg base) : FnOk P w K mg base CX0 23 (He.fAd K ("law", none)) T.d_law ["_law_script"] (Pr K fun (a_ : (List Int) × Unit) => m_law a_.1) := by
  refine FnOkZ.plain (fn_okZ T.F_law sc_law rfl fun cdv A outer s_ F0 H0 vs a_ r D_ E_ hcd_ hr _ sm_ ra_ hm kr kn => ?_)
  obtain ⟨v_script, _, rfl, r_script, rfl⟩ := ra_
  obtain ⟨x_script, _u⟩ := a_
  have G : GrX K F0 H0 F0 H0 := .refl sm_
  replace hm : m_law x_script = some r := hm
  unfold m_law at hm
  have r_script : rp (α := (List Int)) K F0 v_script x_script := r_script
  change GoS _ _ _ [some v_script, none, none, none, none, none, none, none, none, none] _
  obtain ⟨t1, h_t1, hm⟩ := Option.bind_eq_some_iff.mp hm
  obtain ⟨t2, h_t2, hm⟩ := Option.bind_eq_some_iff.mp hm
  obtain ⟨x_leaves_here, he, hm⟩ := Option.bind_eq_some_iff.mp hm
  refine go_setA ((List (T4 Int Int (List (T2 Bool Str)) (List (T2 Int Int))))) 1 G.sm (ev_call (ok_leaves T) (hr.mono (by omega)) T.g_leaves T.F_leaves.kp (b_leaves T) (ea_cons (EvN.evA ((List Int)) (en_slice (ev_varK 0 rfl r_script kv_law_0) (eo_some ev_int) (eo_some ev_int))) (ea_cons (ev_call (ok_cell_at T) (hr.mono (by omega)) T.g_cell_at T.F_cell_at.kp (b_cell_at T) (ea_cons (ev_varK 0 rfl r_script kv_law_0) (ea_cons ev_int ea_nil)) h_t1 gl_law_cell_at) ea_nil)) h_t2 gl_law_leaves) (fun v_leaves_here F H g rn_ => ?_) sc_law.nd
  have G := G.trans g
  have r_script := Rp.mono g.ff r_script
  have r_leaves_here := cg (Option.some.inj he) rn_
  change GoS _ _ _ [some v_script, some v_leaves_here, none, none, none, none, none, none, none, none] _
  obtain ⟨t3, h_t3, hm⟩ := Option.bind_eq_some_iff.mp hm
  obtain ⟨x_plan, he, hm⟩ := Option.bind_eq_some_iff.mp hm
  refine go_setA ((Tp UItem)) 2 G.sm (ev_call (ok_items T 10) (hr.mono (by omega)) T.g_items T.F_items.kp (b_items T) (ea_cons (ev_varK 1 rfl r_leaves_here kv_law_1) (ea_cons ev_int ea_nil)) h_t3 gl_law_items) (fun v_plan F H g rn_ => ?_) sc_law.nd
  have G := G.trans g
  have r_script := Rp.mono g.ff r_script
  have r_leaves_here := Rp.mono g.ff r_leaves_here
  have r_plan := cg (Option.some.inj he) rn_
  change GoS _ _ _ [some v_script, some v_leaves_here, some v_plan, none, none, none, none, none, none, none] _
  obtain ⟨t4, h_t4, hm⟩ := Option.bind_eq_some_iff.mp hm
  obtain ⟨x_groups_here, he, hm⟩ := Option.bind_eq_some_iff.mp hm
  refine go_setA ((List (T4 (Tp Int) Int Int Bool))) 3 G.sm (ev_call (ok_groups T 10) (hr.mono (by omega)) T.g_groups T.F_groups.kp (b_groups T) (ea_cons (ev_varK 1 rfl r_leaves_here kv_law_1) (ea_cons (ev_tp el_nil (by show 0 ≤ sizeLine; decide)) (ea_cons ev_int ea_nil))) h_t4 gl_law_groups) (fun v_groups_here F H g rn_ => ?_) sc_law.nd
  have G := G.trans g
  have r_script := Rp.mono g.ff r_script
  have r_leaves_here := Rp.mono g.ff r_leaves_here
  have r_plan := Rp.mono g.ff r_plan
  have r_groups_here := cg (Option.some.inj he) rn_
  change GoS _ _ _ [some v_script, some v_leaves_here, some v_plan, some v_groups_here, none, none, none, none, none, none] _
  obtain ⟨t5, h_t5, hm⟩ := Option.bind_eq_some_iff.mp hm
  obtain ⟨t6, h_t6, hm⟩ := Option.bind_eq_some_iff.mp hm
  obtain ⟨t7, h_t7, hm⟩ := Option.bind_eq_some_iff.mp hm
  obtain ⟨t8, h_t8, hm⟩ := Option.bind_eq_some_iff.mp hm
  obtain ⟨x_path_here, he, hm⟩ := Option.bind_eq_some_iff.mp hm
  refine go_setA ((Tp Int)) 4 G.sm (ev_call (ok_path T) (hr.mono (by omega)) T.g_path T.F_path.kp (b_path T) (ea_cons (ev_varK 3 rfl r_groups_here kv_law_3) (ea_cons (EvN.evA ((List (T4 (Tp Int) Int Int Bool))) (en_compi (own := [("_law_one", 5)]) sc_law.nd (ei_list (ev_varK 3 rfl r_groups_here kv_law_3)) h_t5 (blkOk_by (N := ["_law_script", "_law_leaves_here", "_law_plan", "_law_groups_here", "_law_path_here", "_law_one", "_law_cell", "_law_change", "_law_due", "_law_found"]) (sc := defScope s_law) (by decide +kernel)) (fun _ _ _ _ _ => (pg_name (i := 5) sc_law.nd rfl (by first | exact Or.inl rfl | exact Or.inr rfl))) (fun x_one o_ hm F H v_one g r_one Q hQ => by
          have r_groups_here := Rp.mono g.ff r_groups_here
          refine hQ _ rfl ?_
          refine ⟨_, fun s_ H_ C_ cl_ fp_ => (et_val (ev_ixT (ev_var 5 rfl r_one) ev_int pj3)), fun hc => ?_, fun hc => ?_⟩
          · replace hm := ipos hc hm
            exact ⟨_, (Option.some.inj hm).symm, fun s_ H_ C_ cl_ fp_ => (ev_var 5 rfl r_one)⟩
          · replace hm := ineg (nt hc) hm
            exact (Option.some.inj hm).symm))) (ea_cons (ev_call (ok_cell_at T) (hr.mono (by omega)) T.g_cell_at T.F_cell_at.kp (b_cell_at T) (ea_cons (ev_varK 0 rfl r_script kv_law_0) (ea_cons ev_int ea_nil)) h_t6 gl_law_cell_at) (ea_cons (ev_call (ok_cell_at T) (hr.mono (by omega)) T.g_cell_at T.F_cell_at.kp (b_cell_at T) (ea_cons (ev_varK 0 rfl r_script kv_law_0) (ea_cons ev_int ea_nil)) h_t7 gl_law_cell_at) ea_nil)))) h_t8 gl_law_path) (fun v_path_here F H g rn_ => ?_) sc_law.nd
  have G := G.trans g
  have r_script := Rp.mono g.ff r_script
  have r_leaves_here := Rp.mono g.ff r_leaves_here
  have r_plan := Rp.mono g.ff r_plan
  have r_groups_here := Rp.mono g.ff r_groups_here
  have r_path_here := cg (Option.some.inj he) rn_
  change GoS _ _ _ [some v_script, some v_leaves_here, some v_plan, some v_groups_here, some v_path_here, none, none, none, none, none] _
  obtain ⟨t9, h_t9, hm⟩ := Option.bind_eq_some_iff.mp hm
  obtain ⟨x_one, he, hm⟩ := Option.bind_eq_some_iff.mp hm
  refine go_setA ((T4 (Tp Int) Int Int Bool)) 5 G.sm (ev_call (ok_at T) (hr.mono (by omega)) T.g_at T.F_at.kp (b_at T) (ea_cons (ev_varK 3 rfl r_groups_here kv_law_3) (ea_cons (ev_varK 4 rfl r_path_here kv_law_4) ea_nil)) h_t9 gl_law_at) (fun v_one F H g rn_ => ?_) sc_law.nd
  have G := G.trans g
  have r_script := Rp.mono g.ff r_script
  have r_leaves_here := Rp.mono g.ff r_leaves_here
  have r_plan := Rp.mono g.ff r_plan
  have r_groups_here := Rp.mono g.ff r_groups_here
  have r_path_here := Rp.mono g.ff r_path_here
  have r_one := cg (Option.some.inj he) rn_
  change GoS _ _ _ [some v_script, some v_leaves_here, some v_plan, some v_groups_here, some v_path_here, some v_one, none, none, none, none] _
  obtain ⟨t10, h_t10, hm⟩ := Option.bind_eq_some_iff.mp hm
  obtain ⟨x_cell, he, hm⟩ := Option.bind_eq_some_iff.mp hm
  refine go_setA (Int) 6 G.sm (ev_call (ok_cell_at T) (hr.mono (by omega)) T.g_cell_at T.F_cell_at.kp (b_cell_at T) (ea_cons (ev_varK 0 rfl r_script kv_law_0) (ea_cons ev_int ea_nil)) h_t10 gl_law_cell_at) (fun v_cell F H g rn_ => ?_) sc_law.nd
  have G := G.trans g
  have r_script := Rp.mono g.ff r_script
  have r_leaves_here := Rp.mono g.ff r_leaves_here
  have r_plan := Rp.mono g.ff r_plan
  have r_path_here := Rp.mono g.ff r_path_here
  have r_one := Rp.mono g.ff r_one
  have r_cell := cg (Option.some.inj he) rn_
  change GoS _ _ _ [some v_script, some v_leaves_here, some v_plan, some v_groups_here, some v_path_here, some v_one, some v_cell, none, none, none] _
  refine go_ifA ((!x_one.d)) G.sm (et_not (et_val (ev_ixT (ev_varK 5 rfl r_one kv_law_5) ev_int pj3))) (fun hc F H g => ?_) (fun hc F H g => ?_)
  · replace hm := ipos hc hm
    have G := G.trans g
    have r_leaves_here := Rp.mono g.ff r_leaves_here
    have r_plan := Rp.mono g.ff r_plan
    have r_path_here := Rp.mono g.ff r_path_here
    have r_one := Rp.mono g.ff r_one
    have r_cell := Rp.mono g.ff r_cell
    obtain ⟨t11, h_t11, hm⟩ := Option.bind_eq_some_iff.mp hm
    obtain ⟨t12, h_t12, hm⟩ := Option.bind_eq_some_iff.mp hm
    obtain ⟨t13, h_t13, hm⟩ := Option.bind_eq_some_iff.mp hm
    exact go_ret G.sm (ev_call (ok_refused T) (hr.mono (by omega)) T.g_refused T.F_refused.kp (b_refused T) (ea_cons (ev_mod (ev_varK 6 rfl r_cell kv_law_6) ev_int (by decide)) (ea_cons (ev_varK 2 rfl r_plan kv_law_2) (ea_cons (ev_varK 4 rfl r_path_here kv_law_4) (ea_cons (ev_ixT (ev_ixL (ev_varK 1 rfl r_leaves_here kv_law_1) (ev_modG (ev_div (ev_varK 6 rfl r_cell kv_law_6) ev_int ⟨by decide, by decide⟩) (ev_callB call_len_seq oc_lenL T.n_len PySem.boot_len (ea_cons (ev_varK 1 rfl r_leaves_here kv_law_1) ea_nil)) h_t11) h_t12) ev_int pj0) ea_nil)))) h_t13 gl_law_refused) fun v_ F_ H_ g_ rv_ => kr _ _ _ (G.trans g_) (cg (Option.some.inj hm) rv_)
  · replace hm := ineg (nt hc) hm
    have G := G.trans g
    have r_leaves_here := Rp.mono g.ff r_leaves_here
    have r_plan := Rp.mono g.ff r_plan
    have r_path_here := Rp.mono g.ff r_path_here
    have r_one := Rp.mono g.ff r_one
    have r_cell := Rp.mono g.ff r_cell
    refine GoS.nil ?_
    refine go_ndef 7 G.sm T.tb_law hcd_ (List.mem_map.mpr ⟨_, .tail _ (.tail _ (.tail _ (.head _))), rfl⟩) (by show nmG 279 4 = ("law" : Str) ++ ".<locals>." ++ "_law_change"; decide +kernel) (NdefX.ndef_free nd_law_change) (fun lf_change c_ H g n1_ n2_ => ?_) sc_law.nd
    have G := G.trans g
    have r_leaves_here := Rp.mono g.ff r_leaves_here
    have r_plan := Rp.mono g.ff r_plan
    have r_path_here := Rp.mono g.ff r_path_here
    have r_one := Rp.mono g.ff r_one
    obtain ⟨fv_change, fq_change, r_change⟩ := ClF.ex (show ClF (cf_law_change lf_change c_ _ _ (v_path_here) x_path_here) K _ _ (.ref lf_change) from ⟨⟨rfl, ⟨r_path_here, trivial⟩⟩, ⟨n1_, n2_⟩⟩)
    have fk_change : NokT P w K mg base 8 fv_change := by rw [fq_change]; exact (nok_law_change T _ _ _ _ _ _).mono (by omega)
    have fe_change : fv_change.fn = (fun a_ => m_law_change x_path_here a_.1 a_.2.1) := by rw [fq_change]
    change GoS _ _ _ [some v_script, some v_leaves_here, some v_plan, some v_groups_here, some v_path_here, some v_one, some v_cell, some (.ref lf_change), none, none] _
    obtain ⟨t14, h_t14, hm⟩ := Option.bind_eq_some_iff.mp hm
    obtain ⟨t15, h_t15, hm⟩ := Option.bind_eq_some_iff.mp hm
    obtain ⟨x_due, he, hm⟩ := Option.bind_eq_some_iff.mp hm
    refine go_setA ((Tp UItem)) 8 G.sm (ev_call (ok_items T 10) (hr.mono (by omega)) T.g_items T.F_items.kp (b_items T) (ea_cons (ev_callZ (fv := fv_change) (ok_changed T fv_change fk_change) (hr.mono (by omega)) T.g_changed T.F_changed.kp (b_changed T) r_change (by rw [fq_change]; exact clA_made (sc := defScope s_law_change) (js := [4]) rfl (NdefX.ndef_free nd_law_change) (NdefX.ndef_fr nd_law_change) rfl rfl) (ea_cons (ev_varK 1 rfl r_leaves_here kv_law_1) (ea_cons (ev_varK 5 rfl r_one kv_law_5) (ea_cons (ev_varK 7 rfl r_change.r kv_law_7) ea_nil))) (by show m_changed x_leaves_here x_one fv_change.fn = some _; rw [fe_change]; exact h_t14) gl_law_changed) (ea_cons ev_int ea_nil)) h_t15 gl_law_items) (fun v_due F H g rn_ => ?_) sc_law.nd
    have G := G.trans g
    have r_leaves_here := Rp.mono g.ff r_leaves_here
    have r_plan := Rp.mono g.ff r_plan
    have r_path_here := Rp.mono g.ff r_path_here
    have r_one := Rp.mono g.ff r_one
    have r_change := r_change.up g
    have r_due := cg (Option.some.inj he) rn_
    change GoS _ _ _ [some v_script, some v_leaves_here, some v_plan, some v_groups_here, some v_path_here, some v_one, some v_cell, some (.ref lf_change), some v_due, none] _
    obtain ⟨t16, h_t16, hm⟩ := Option.bind_eq_some_iff.mp hm
    obtain ⟨t17, h_t17, hm⟩ := Option.bind_eq_some_iff.mp hm
    obtain ⟨x_found, he, hm⟩ := Option.bind_eq_some_iff.mp hm
    refine go_setA ((Tp UItem)) 9 G.sm (ev_callV (ok_freed T) (hr.mono (by omega)) T.g_freed T.F_freed.kp (b_freed T) (ea_cons (ev_varK 2 rfl r_plan kv_law_2) (ea_cons (ev_varK 4 rfl r_path_here kv_law_4) ea_nil)) h_t16 h_t17 gl_law_freed) (fun v_found F H g rn_ => ?_) sc_law.nd
    have G := G.trans g
    have r_plan := Rp.mono g.ff r_plan
    have r_path_here := Rp.mono g.ff r_path_here
    have r_change := r_change.up g
    have r_due := Rp.mono g.ff r_due
    have r_found := cg (Option.some.inj he) rn_
    change GoS _ _ _ [some v_script, some v_leaves_here, some v_plan, some v_groups_here, some v_path_here, some v_one, some v_cell, some (.ref lf_change), some v_due, some v_found] _
    obtain ⟨t21, h_t21, hm⟩ := Option.bind_eq_some_iff.mp hm
    refine go_ifA (t21) G.sm (EvW.t (ew_orA ((!true)) (et_not (et_val (ev_isi (T := "tuple") (r := true) (by decide +kernel) T.n_isinstance T.n_tuple (by decide +kernel) (ev_varK 9 rfl r_found kv_law_9)))) (fun hc => by
            replace h_t21 := ineg (nt hc) h_t21
            obtain ⟨t18, h_t18, h_t21⟩ := Option.bind_eq_some_iff.mp h_t21
            obtain ⟨t20, h_t20, h_t21⟩ := Option.bind_eq_some_iff.mp h_t21
            exact EvW.cg (Option.some.inj h_t21) (ew_orA ((!t18)) (et_neD (ev_varK 9 rfl r_found kv_law_9) (ev_varK 8 rfl r_due kv_law_8) h_t18 hr.units) (fun hc => by
            replace h_t20 := ineg (nt hc) h_t20
            obtain ⟨t19, h_t19, h_t20⟩ := Option.bind_eq_some_iff.mp h_t20
            exact EvW.cg (Option.some.inj h_t20) (ew_or1 (et_not (et_val (ev_call (ok_kinds T 10) (hr.mono (by omega)) T.g_kinds T.F_kinds.kp (b_kinds T) (ea_cons (ev_varK 9 rfl r_found kv_law_9) ea_nil) h_t19 gl_law_kinds))))) (fun hc => by replace h_t20 := ipos hc h_t20; exact (Option.some.inj h_t20).symm))) (fun hc => by replace h_t21 := ipos hc h_t21; exact (Option.some.inj h_t21).symm))) (fun hc F H g => ?_) (fun hc F H g => ?_)
    · replace hm := ipos hc hm
      have G := G.trans g
      have r_path_here := Rp.mono g.ff r_path_here
      have r_change := r_change.up g
      have r_due := Rp.mono g.ff r_due
      have r_found := Rp.mono g.ff r_found
      exact go_ret G.sm ev_bl fun v_ F_ H_ g_ rv_ => kr _ _ _ (G.trans g_) (cg (Option.some.inj hm) rv_)
    · replace hm := ineg (nt hc) hm
      have G := G.trans g
      have r_path_here := Rp.mono g.ff r_path_here
      have r_change := r_change.up g
      have r_due := Rp.mono g.ff r_due
      have r_found := Rp.mono g.ff r_found
      refine GoS.nil ?_
      obtain ⟨t22, h_t22, hm⟩ := Option.bind_eq_some_iff.mp hm
      obtain ⟨t23, h_t23, hm⟩ := Option.bind_eq_some_iff.mp hm
      obtain ⟨t24, h_t24, hm⟩ := Option.bind_eq_some_iff.mp hm
      exact go_ret G.sm (ev_eqD (ev_callV (ok_freed T) (hr.mono (by omega)) T.g_freed T.F_freed.kp (b_freed T) (ea_cons (ev_varK 9 rfl r_found kv_law_9) (ea_cons (ev_varK 4 rfl r_path_here kv_law_4) ea_nil)) h_t22 h_t23 gl_law_freed) (ev_varK 8 rfl r_due kv_law_8) h_t24 hr.units) fun v_ F_ H_ g_ rv_ => kr _ _ _ (G.trans g_) (cg (Option.some.inj hm) rv_)
end

def D_cell_at : He.DefD := ⟨("_law_cell_at", none), "_law_cell_at", "_law_cell_at", defArgs s_cell_at, defBody s_cell_at, defScope s_cell_at, [], []⟩
def D_stream : He.DefD := ⟨("_law_stream", none), "_law_stream", "_law_stream", defArgs s_stream, defBody s_stream, defScope s_stream, [], []⟩
def D_steps : He.DefD := ⟨("_law_steps", none), "_law_steps", "_law_steps", defArgs s_steps, defBody s_steps, defScope s_steps, [], []⟩
def D_number : He.DefD := ⟨("_law_number", none), "_law_number", "_law_number", defArgs s_number, defBody s_number, defScope s_number, [], []⟩
def D_places : He.DefD := ⟨("_law_places", none), "_law_places", "_law_places", defArgs s_places, defBody s_places, defScope s_places, [], []⟩
def D_leaves : He.DefD := ⟨("_law_leaves", none), "_law_leaves", "_law_leaves", defArgs s_leaves, defBody s_leaves, defScope s_leaves, [], []⟩
def D_items : He.DefD := ⟨("_law_items", none), "_law_items", "_law_items", defArgs s_items, defBody s_items, defScope s_items, [], []⟩
def D_groups : He.DefD := ⟨("_law_groups", none), "_law_groups", "_law_groups", defArgs s_groups, defBody s_groups, defScope s_groups, [], []⟩
def D_path : He.DefD := ⟨("_law_path", none), "_law_path", "_law_path", defArgs s_path, defBody s_path, defScope s_path, [], []⟩
def D_at : He.DefD := ⟨("_law_at", none), "_law_at", "_law_at", defArgs s_at, defBody s_at, defScope s_at, [], []⟩
def D_item_at : He.DefD := ⟨("item_at", none), "item_at", "item_at", defArgs s_item_at, defBody s_item_at, defScope s_item_at, [], []⟩
def D_sweep_at : He.DefD := ⟨("sweep_at", none), "sweep_at", "sweep_at", defArgs s_sweep_at, defBody s_sweep_at, defScope s_sweep_at, [], []⟩
def D_each_deed : He.DefD := ⟨("each_deed", none), "each_deed", "each_deed", defArgs s_each_deed, defBody s_each_deed, defScope s_each_deed, [], []⟩
def D_put : He.DefD := ⟨("put", none), "put", "put", defArgs s_put, defBody s_put, defScope s_put, [], []⟩
def D_swapped : He.DefD := ⟨("swapped", none), "swapped", "swapped", defArgs s_swapped, defBody s_swapped, defScope s_swapped, [], []⟩
def D_joined : He.DefD := ⟨("joined", none), "joined", "joined", defArgs s_joined, defBody s_joined, defScope s_joined, [], []⟩
def D_parted : He.DefD := ⟨("parted", none), "parted", "parted", defArgs s_parted, defBody s_parted, defScope s_parted, [], []⟩
def D_turned : He.DefD := ⟨("turned", none), "turned", "turned", defArgs s_turned, defBody s_turned, defScope s_turned, [], []⟩
def D_deeds_in : He.DefD := ⟨("deeds_in", none), "deeds_in", "deeds_in", defArgs s_deeds_in, defBody s_deeds_in, defScope s_deeds_in, [], []⟩
def D_moved : He.DefD := ⟨("moved", none), "moved", "moved", defArgs s_moved, defBody s_moved, defScope s_moved, [], []⟩
def D_cut : He.DefD := ⟨("cut", none), "cut", "cut", defArgs s_cut, defBody s_cut, defScope s_cut, [], []⟩
def D_freed : He.DefD := ⟨("freed", none), "freed", "freed", defArgs s_freed, defBody s_freed, defScope s_freed, [], []⟩
def D_done : He.DefD := ⟨("_law_done", none), "_law_done", "_law_done", defArgs s_done, defBody s_done, defScope s_done, [], []⟩
def D_refused : He.DefD := ⟨("_law_refused", none), "_law_refused", "_law_refused", defArgs s_refused, defBody s_refused, defScope s_refused, [], []⟩
def D_changed : He.DefD := ⟨("_law_changed", none), "_law_changed", "_law_changed", defArgs s_changed, defBody s_changed, defScope s_changed, [], []⟩
def D_whole : He.DefD := ⟨("_law_whole", none), "_law_whole", "_law_whole", defArgs s_whole, defBody s_whole, defScope s_whole, [], []⟩
def D_kinds : He.DefD := ⟨("_law_kinds", none), "_law_kinds", "_law_kinds", defArgs s_kinds, defBody s_kinds, defScope s_kinds, [], []⟩
def D_law : He.DefD := ⟨("law", none), "law", "law", defArgs s_law, defBody s_law, defScope s_law, [], []⟩
def fn : List He.DefD := [D_cell_at, D_stream, D_steps, D_number, D_places, D_leaves, D_items, D_groups, D_path, D_at, D_item_at, D_sweep_at, D_each_deed, D_put, D_swapped, D_joined, D_parted, D_turned, D_deeds_in, D_moved, D_cut, D_freed, D_done, D_refused, D_changed, D_whole, D_kinds, D_law]
def fa : List He.Fa := [.glo "_law_cell_at", .glo "_law_stream", .glo "_law_steps", .glo "_law_number", .glo "_law_places", .glo "_law_leaves", .glo "_law_items", .glo "_law_groups", .glo "_law_path", .glo "_law_at", .glo "item_at", .glo "sweep_at", .glo "each_deed", .glo "put", .glo "swapped", .glo "joined", .glo "parted", .glo "turned", .glo "deeds_in", .glo "moved", .glo "cut", .glo "freed", .glo "_law_done", .glo "_law_refused", .glo "_law_changed", .glo "_law_whole", .glo "_law_kinds", .glo "law", .glo "NoTurning", .exc "NoTurning", .exm "NoTurning" "FurrowError" true, .exm "NoTurning" "NoTurning" true, .glo "FurrowError", .free "ValueError", .free "abs", .free "bool", .free "int", .free "isinstance", .free "len", .free "list", .free "max", .free "min", .free "range", .free "tuple", .int "MOST_PAIRS" 6, .int "MOST_SHIFT" 1000000000000000000]
abbrev R : PySem.W.OpenRow := PySem.W.OpenLaw.row PySem.Challenge.rw_furrow_k90_freed_and_no_turning
def ex (K : PySem.W.Frag) : Bool := (excCB K (He.ga K "NoTurning")) && (decide (PySem.W.kitOne K (.ref (He.ga K "NoTurning")) (.ref (He.ga K "NoTurning")) = some true)) && (decide (PySem.W.kitOne K (.ref (He.ga K "NoTurning")) (.type "ValueError") = some true))
abbrev hk : PySem.W.Hook := He.hookX 4 fa fn [] tfG ex
def ob (s : PySem.W.SharedT) : He.AlX := He.obsX 4 fa fn [] tfG ex (HandSHeadRun.getT s)
theorem ob_eq (s : PySem.W.SharedT) : ob s = hk.obs s.abs := He.obsX_eq (HandSHeadRun.getT_eq s)
def loose : List Str := "__name__" :: "FurrowError" :: "NoTurning" :: "MOST_PAIRS" :: "MOST_SHIFT" :: "item_at" :: "sweep_at" :: "put" :: "each_deed" :: "deeds_in" :: "swapped" :: "joined" :: "parted" :: "turned" :: "moved" :: "cut" :: "freed" :: "_law_cell_at" :: "_law_whole" :: "_law_stream" :: "_law_number" :: "_law_steps" :: "_law_places" :: "_law_leaves" :: "_law_items" :: "_law_groups" :: "_law_at" :: "_law_within" :: "_law_path" :: "_law_kinds" :: "_law_changed" :: "_law_done" :: "_law_refused" :: []
theorem run (w : World) : HandSHeadRun.RunEq R (PySem.W.view R.prog [35]) hk ob 6600 loose w := by
  intro os
  kernel_rfl
theorem facts {K : PySem.W.Frag} {h : Heap} {mg : Str → Option Value} (X : K.In h) (G : h.Ns mainGlobals mg) (c : He.SaysD fa fn K) (cx : ex K = true) : ∃ T : Txt K mg, ∀ (s : Shared) (v : Value), BindsTo s T.d_law ⟨[v], []⟩ [("_law_script", v)] := by
  obtain ⟨d_cell_at, F_cell_at⟩ := c.def_ 0 (d := D_cell_at) rfl
  obtain ⟨d_stream, F_stream⟩ := c.def_ 1 (d := D_stream) rfl
  obtain ⟨d_steps, F_steps⟩ := c.def_ 2 (d := D_steps) rfl
  obtain ⟨d_number, F_number⟩ := c.def_ 3 (d := D_number) rfl
  obtain ⟨d_places, F_places⟩ := c.def_ 4 (d := D_places) rfl
  obtain ⟨d_leaves, F_leaves⟩ := c.def_ 5 (d := D_leaves) rfl
  obtain ⟨d_items, F_items⟩ := c.def_ 6 (d := D_items) rfl
  obtain ⟨d_groups, F_groups⟩ := c.def_ 7 (d := D_groups) rfl
  obtain ⟨d_path, F_path⟩ := c.def_ 8 (d := D_path) rfl
  obtain ⟨d_at, F_at⟩ := c.def_ 9 (d := D_at) rfl
  obtain ⟨d_item_at, F_item_at⟩ := c.def_ 10 (d := D_item_at) rfl
  obtain ⟨d_sweep_at, F_sweep_at⟩ := c.def_ 11 (d := D_sweep_at) rfl
  obtain ⟨d_each_deed, F_each_deed⟩ := c.def_ 12 (d := D_each_deed) rfl
  obtain ⟨d_put, F_put⟩ := c.def_ 13 (d := D_put) rfl
  obtain ⟨d_swapped, F_swapped⟩ := c.def_ 14 (d := D_swapped) rfl
  obtain ⟨d_joined, F_joined⟩ := c.def_ 15 (d := D_joined) rfl
  obtain ⟨d_parted, F_parted⟩ := c.def_ 16 (d := D_parted) rfl
  obtain ⟨d_turned, F_turned⟩ := c.def_ 17 (d := D_turned) rfl
  obtain ⟨d_deeds_in, F_deeds_in⟩ := c.def_ 18 (d := D_deeds_in) rfl
  obtain ⟨d_moved, F_moved⟩ := c.def_ 19 (d := D_moved) rfl
  obtain ⟨d_cut, F_cut⟩ := c.def_ 20 (d := D_cut) rfl
  obtain ⟨d_freed, F_freed⟩ := c.def_ 21 (d := D_freed) rfl
  obtain ⟨d_done, F_done⟩ := c.def_ 22 (d := D_done) rfl
  obtain ⟨d_refused, F_refused⟩ := c.def_ 23 (d := D_refused) rfl
  obtain ⟨d_changed, F_changed⟩ := c.def_ 24 (d := D_changed) rfl
  obtain ⟨d_whole, F_whole⟩ := c.def_ 25 (d := D_whole) rfl
  obtain ⟨d_kinds, F_kinds⟩ := c.def_ 26 (d := D_kinds) rfl
  obtain ⟨d_law, F_law⟩ := c.def_ 27 (d := D_law) rfl
  have b := FunD.bindsA (ps := ["_law_script"]) F_law fun _ _ _ _ _ _ us hl => match us, hl with | [_], _ => rfl
  exact ⟨⟨d_cell_at, F_cell_at, He.glo_ok X G (c.fact 0 (f := .glo "_law_cell_at") rfl),
    d_stream, F_stream, He.glo_ok X G (c.fact 1 (f := .glo "_law_stream") rfl),
    d_steps, F_steps, He.glo_ok X G (c.fact 2 (f := .glo "_law_steps") rfl),
    d_number, F_number, He.glo_ok X G (c.fact 3 (f := .glo "_law_number") rfl),
    d_places, F_places, He.glo_ok X G (c.fact 4 (f := .glo "_law_places") rfl),
    d_leaves, F_leaves, He.glo_ok X G (c.fact 5 (f := .glo "_law_leaves") rfl),
    d_items, F_items, He.glo_ok X G (c.fact 6 (f := .glo "_law_items") rfl),
    d_groups, F_groups, He.glo_ok X G (c.fact 7 (f := .glo "_law_groups") rfl),
    d_path, F_path, He.glo_ok X G (c.fact 8 (f := .glo "_law_path") rfl),
    d_at, F_at, He.glo_ok X G (c.fact 9 (f := .glo "_law_at") rfl),
    d_item_at, F_item_at, He.glo_ok X G (c.fact 10 (f := .glo "item_at") rfl),
    d_sweep_at, F_sweep_at, He.glo_ok X G (c.fact 11 (f := .glo "sweep_at") rfl),
    d_each_deed, F_each_deed, He.glo_ok X G (c.fact 12 (f := .glo "each_deed") rfl),
    d_put, F_put, He.glo_ok X G (c.fact 13 (f := .glo "put") rfl),
    d_swapped, F_swapped, He.glo_ok X G (c.fact 14 (f := .glo "swapped") rfl),
    d_joined, F_joined, He.glo_ok X G (c.fact 15 (f := .glo "joined") rfl),
    d_parted, F_parted, He.glo_ok X G (c.fact 16 (f := .glo "parted") rfl),
    d_turned, F_turned, He.glo_ok X G (c.fact 17 (f := .glo "turned") rfl),
    d_deeds_in, F_deeds_in, He.glo_ok X G (c.fact 18 (f := .glo "deeds_in") rfl),
    d_moved, F_moved, He.glo_ok X G (c.fact 19 (f := .glo "moved") rfl),
    d_cut, F_cut, He.glo_ok X G (c.fact 20 (f := .glo "cut") rfl),
    d_freed, F_freed, He.glo_ok X G (c.fact 21 (f := .glo "freed") rfl),
    d_done, F_done, He.glo_ok X G (c.fact 22 (f := .glo "_law_done") rfl),
    d_refused, F_refused, He.glo_ok X G (c.fact 23 (f := .glo "_law_refused") rfl),
    d_changed, F_changed, He.glo_ok X G (c.fact 24 (f := .glo "_law_changed") rfl),
    d_whole, F_whole, He.glo_ok X G (c.fact 25 (f := .glo "_law_whole") rfl),
    d_kinds, F_kinds, He.glo_ok X G (c.fact 26 (f := .glo "_law_kinds") rfl),
    d_law, F_law, He.glo_ok X G (c.fact 27 (f := .glo "law") rfl),
    He.glo_ok X G (c.fact 28 (f := .glo "NoTurning") rfl), He.exc_ok (c.fact 29 (f := .exc "NoTurning") rfl),
    He.exm_ok (c.fact 30 (f := .exm "NoTurning" "FurrowError" true) rfl),
    He.exm_ok (c.fact 31 (f := .exm "NoTurning" "NoTurning" true) rfl),
    excCB_ok (Bool.and_eq_true_iff.mp (Bool.and_eq_true_iff.mp cx).1).1,
    of_decide_eq_true (Bool.and_eq_true_iff.mp (Bool.and_eq_true_iff.mp cx).1).2,
    of_decide_eq_true (Bool.and_eq_true_iff.mp cx).2,
    He.glo_ok X G (c.fact 32 (f := .glo "FurrowError") rfl),
    He.free_ok X G (c.fact 33 (f := .free "ValueError") rfl),
    He.free_ok X G (c.fact 34 (f := .free "abs") rfl),
    He.free_ok X G (c.fact 35 (f := .free "bool") rfl),
    He.free_ok X G (c.fact 36 (f := .free "int") rfl),
    He.free_ok X G (c.fact 37 (f := .free "isinstance") rfl),
    He.free_ok X G (c.fact 38 (f := .free "len") rfl),
    He.free_ok X G (c.fact 39 (f := .free "list") rfl),
    He.free_ok X G (c.fact 40 (f := .free "max") rfl),
    He.free_ok X G (c.fact 41 (f := .free "min") rfl),
    He.free_ok X G (c.fact 42 (f := .free "range") rfl),
    He.free_ok X G (c.fact 43 (f := .free "tuple") rfl),
    He.int_ok X G (c.fact 44 rfl),
    He.int_ok X G (c.fact 45 rfl)⟩, fun s v => b s [v] rfl⟩
def spLaw (K : PySem.W.Frag) : Sp := Pr K fun (a_ : List Int × Unit) => m_law a_.1
theorem sp_true {K : PySem.W.Frag} (H : Hp) (a : Addr) (ns : List Int) (hS : SqL K H a (ns.map V.int)) (hT : ∀ P ∈ tabsG K, H P = some (.tbl #[])) (ht : m_law ns = some true) : spLaw K [.ref a] H (fun v _ => v = .bl true) fun _ _ _ => False :=
  ⟨unT H, (ns, ()), true, sm_start hT, ⟨.ref a, [], rfl, ⟨a, _, rfl, unT_seq hS, Rps.of_ints ns⟩, rfl⟩, ht, fun _ _ _ _ r => r⟩

end Law
open PySem PySem.W PySem.Calls PyProof.Rows
theorem PySem.Challenge.cw_furrow_k90_freed_and_no_turning_holds : PySem.Challenge.rw_furrow_k90_freed_and_no_turning.Holds := by
  w_on; o_law
  refine HandSHeadRun.head_any (r := OpenLaw.row PySem.Challenge.rw_furrow_k90_freed_and_no_turning) (q := view (OpenLaw.row PySem.Challenge.rw_furrow_k90_freed_and_no_turning).prog [35]) (H := Law.hk) (ob := Law.ob) (M := 6600) (loose := Law.loose) (d := HandSHeadRun.topDef (OpenLaw.row PySem.Challenge.rw_furrow_k90_freed_and_no_turning).prog 35) (kwd := []) Law.ob_eq
    (by kernel_rfl) (fun s => by kernel_rfl) Law.run (by kernel_rfl) (by kernel_rfl) (by kernel_rfl) (by rfl) (by first | assumption | decide +kernel) (by decide +kernel) ⟨rfl, rfl, rfl, rfl, rfl, by decide +kernel⟩ ?hw ?hc
  case hw => w_witness2
  case hc =>
    refine LamX.walk_ofTsE (l := PySem.Challenge.rw_furrow_k90_freed_and_no_turning) (n := 63) (k := 23) (x := "_law_script") (CX := fun _ => L2.CX0) rfl (by decide) (by kernel_rfl) ⟨rfl, by decide, by decide⟩ ?F (fun _ _ _ _ _ z => z)
    intro w mg fa h Y G hmg0
    obtain ⟨K, KX, c⟩ := Y
    have hmg : mg ("law" : PySem.Str) = some (.ref fa) := by
      have e : (HandSHeadRun.topDef (OpenLaw.row PySem.Challenge.rw_furrow_k90_freed_and_no_turning).prog 35).name = ("law" : PySem.Str) := by kernel_rfl
      rw [← e]
      exact hmg0
    obtain ⟨T, hb⟩ := Law.facts KX G c.t.d c.more
    have e := hmg.symm.trans T.g_law
    cases e
    refine ⟨K, KX, T.d_law, Gx.tfG.map (He.cT K), Law.spLaw K, ?_, ?_, ?_, hb, ?_, ?_⟩
    · intro p hp
      obtain ⟨q, hq, rfl⟩ := List.mem_map.mp hp
      exact c.empty q hq
    · intro p hp
      obtain ⟨q, hq, rfl⟩ := List.mem_map.mp hp
      exact c.out q hq
    · intro p hp
      obtain ⟨q, hq, rfl⟩ := List.mem_map.mp hp
      exact PySem.W.codeHd_of_K KX (c.hd q hq)
    · intro H a ns hl _ hT hS
      exact Law.sp_true H a ns hS (fun P hP => by
        obtain ⟨q, hq, rfl⟩ := List.mem_map.mp hP
        exact hT _ (List.mem_map.mpr ⟨q, hq, rfl⟩)) (Law.law_true ns hl)
    · intro base _ _ tb
      exact Law.ok_law ⟨T, fun p hp => tb _ (List.mem_map.mpr ⟨p, hp, rfl⟩)⟩

