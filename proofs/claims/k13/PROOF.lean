import PyProof.Rows.All
import HandS.Nested
import HandS.HeadHook4
import Wide.All
import OpenK.AllK
import Wide.FinOn
import HandS.ForMost
import HandS.ForExc
import HandS.IsInst
import HandS.Iter
import HandS.Wide
import PyProof.StrBlock2
import HandS.Defaults
import HandS.TupAny
import HandS.Codes
import HandS.Zip
import HandS.Rev
import HandS.RevRange
import HandS.Deep
import HandS.Strs
import HandS.More
import HandS.TupLen
import HandS.DictComp
import HandS.Words
import HandS.WordsExc
import HandS.Head0
import HandS.Head1
import HandS.Head2
import HandS.HeadEnd
import HandS.HeadHook1
import HandS.HeadHook2
import HandS.TupMul
import KE.KDictList
import HandS.Conv
import HandS.TryOnly
import HandS.DictTup
import PyProof.NeKinds
import KE.GoesEnum
import PyProof.EnumMake
import HandS.SortInts
import HandS.Exc
import HandS.ExcInit
import HandS.ExcField
import HandS.ExcOwn
import HandS.TryMany
import HandS.NestedK
import HandS.HeadWalk
import HandS.ExcIs
import HandS.Flt
import KE.SortKeyHeap
import HandS.HotCalls
import KE.GoesMore
import HandS.TupLe
import KE.DataMinMax
import HandS.ListItems
import KE.KDictCopyH
import HandS.StrMore
import HandS.ReplaceLit
import HandS.ReplaceList
import HandS.SetKeys
import PyProof.StrReplace2
import KE.KStateDown
import PySem.Challenge.RW_furrow_k13_cells_from_left_to_right
set_option Elab.async false
set_option linter.all false
set_option maxRecDepth 100000
set_option maxHeartbeats 40000000
namespace Gx
open PySem
def nmG : Nat → Nat → Str := fun l c => if l = 172 ∧ c = 4 then ("law.<locals>._law_held_here" : Str) else ""
def tfG : List He.Defn := [("law", none)]
def tabsG : PySem.W.Frag → List Addr := fun K => tfG.map fun p => (He.cT K p).2
end Gx
namespace Gx
open PySem PySem.Spec PyProof.Rows L2
class Rp (α : Type) where
  rp : PySem.W.Frag → Hp → V → α → Prop
  mono : ∀ {K : PySem.W.Frag} {F F' : Hp} {v : V} {x : α}, L2.Same F F' → rp K F v x → rp K F' v x
open Rp (rp)
instance : Rp Int := ⟨fun _ _ v x => v = .int x, fun _ h => h⟩
instance : Rp Bool := ⟨fun _ _ v x => v = .bl x, fun _ h => h⟩
instance : Rp Str := ⟨fun _ _ v x => v = .str x, fun _ h => h⟩
instance : Rp Unit := ⟨fun _ _ v _ => v = .non, fun _ h => h⟩
abbrev Rps {α : Type} [Rp α] (K : PySem.W.Frag) (F : Hp) : List V → List α → Prop := Paired (fun v x => rp K F v x)
theorem Rps.mono {α : Type} [Rp α] {K : PySem.W.Frag} {F F' : Hp} {vs : List V} {xs : List α} (s : L2.Same F F') (h : Rps K F vs xs) : Rps K F' vs xs := L2.Paired.mapP h fun _ _ => Rp.mono s
def TupF (F : Hp) (a : Addr) (xs : List V) : Prop := F a = some (.tup xs)
theorem tupF_mono {H H' : Hp} {a : Addr} {xs : List V} (e : L2.Same H H') (h : TupF H a xs) : TupF H' a xs := e _ _ h
theorem seqT_mono {K : PySem.W.Frag} {H H' : Hp} {a : Addr} {xs : List V} (e : L2.Same H H') (h : TupF H a xs) : SqT K H' a xs := SqT.of (e _ _ h)
theorem sqT_mono {K : PySem.W.Frag} {H H' : Hp} {a : Addr} {xs : List V} (e : L2.Same H H') (h : SqT K H a xs) : SqT K H' a xs := by
  rcases h with (h | ⟨o, h⟩) | h
  · exact .inl (.inl (e _ _ h))
  · exact .inl (.inr ⟨o, e _ _ h⟩)
  · exact .inr h
instance {α : Type} [Rp α] : Rp (List α) := ⟨fun K F v xs => ∃ a vs, v = .ref a ∧ SqL K F a vs ∧ Rps K F vs xs, fun s ⟨a, vs, e, q, r⟩ => ⟨a, vs, e, s.seq q, r.mono s⟩⟩
structure Tp (α : Type) where
  l : List α
  deriving DecidableEq
instance {α : Type} [Rp α] : Rp (Tp α) := ⟨fun K F v xs => ∃ a vs, v = .ref a ∧ TupF F a vs ∧ Rps K F vs xs.l, fun s ⟨a, vs, e, q, r⟩ => ⟨a, vs, e, tupF_mono s q, r.mono s⟩⟩
structure Ct (α : Type) where
  l : List α
  deriving DecidableEq
instance {α : Type} [Rp α] : Rp (Ct α) := ⟨fun K F v xs => ∃ a vs, v = .ref a ∧ SqT K F a vs ∧ Rps K F vs xs.l, fun s ⟨a, vs, e, q, r⟩ => ⟨a, vs, e, sqT_mono s q, r.mono s⟩⟩
structure Tn (α : Type) where
  l : List α
  deriving DecidableEq
instance {α : Type} [Rp α] : Rp (Tn α) := ⟨fun K F v xs => ∃ a vs o, v = .ref a ∧ F a = some (.frz o (.tup vs)) ∧ o.dict = none ∧ o.cls = .type "tuple" ∧ Rps K F vs xs.l, fun s ⟨a, vs, o, e, q, d, c, r⟩ => ⟨a, vs, o, e, s _ _ q, d, c, r.mono s⟩⟩
class TL (θ : Type) (α : outParam Type) [Rp θ] [Rp α] where
  l : θ → List α
  sq : ∀ {K : PySem.W.Frag} {F : Hp} {v : V} {x : θ}, rp K F v x → ∃ a vs, v = .ref a ∧ SqT K F a vs ∧ Rps K F vs (l x)
instance {α : Type} [Rp α] : TL (Tp α) α := ⟨Tp.l, fun ⟨a, vs, e, q, r⟩ => ⟨a, vs, e, SqT.of q, r⟩⟩
instance {α : Type} [Rp α] : TL (Ct α) α := ⟨Ct.l, fun ⟨a, vs, e, q, r⟩ => ⟨a, vs, e, q, r⟩⟩
instance {α : Type} [Rp α] : TL (Tn α) α := ⟨Tn.l, fun ⟨a, vs, o, e, q, _, _, r⟩ => ⟨a, vs, e, .inl (.inr ⟨o, q⟩), r⟩⟩
class Ra (τ : Type) where
  ra : PySem.W.Frag → Hp → List V → τ → Prop
  mono : ∀ {K : PySem.W.Frag} {F F' : Hp} {v : List V} {x : τ}, L2.Same F F' → ra K F v x → ra K F' v x
open Ra (ra)
instance : Ra Unit := ⟨fun _ _ vs _ => vs = [], fun _ h => h⟩
instance {α τ : Type} [Rp α] [Ra τ] : Ra (α × τ) := ⟨fun K F vs x => ∃ v r, vs = v :: r ∧ rp K F v x.1 ∧ ra K F r x.2, fun s ⟨v, r, e, p, q⟩ => ⟨v, r, e, Rp.mono s p, Ra.mono s q⟩⟩
structure T1 (α : Type) where
  a : α
  deriving DecidableEq
structure T2 (α β : Type) where
  a : α
  b : β
  deriving DecidableEq
structure T3 (α β γ : Type) where
  a : α
  b : β
  c : γ
  deriving DecidableEq
structure T4 (α β γ δ : Type) where
  a : α
  b : β
  c : γ
  d : δ
  deriving DecidableEq
structure T5 (α β γ δ ε : Type) where
  a : α
  b : β
  c : γ
  d : δ
  e : ε
  deriving DecidableEq
class Tpl (θ : Type) (τ : outParam Type) where
  row : θ → τ
abbrev T1.row {α : Type} (x : T1 α) : α × Unit := (x.a, ())
abbrev T2.row {α β : Type} (x : T2 α β) : α × β × Unit := (x.a, x.b, ())
abbrev T3.row {α β γ : Type} (x : T3 α β γ) : α × β × γ × Unit := (x.a, x.b, x.c, ())
abbrev T4.row {α β γ δ : Type} (x : T4 α β γ δ) : α × β × γ × δ × Unit := (x.a, x.b, x.c, x.d, ())
abbrev T5.row {α β γ δ ε : Type} (x : T5 α β γ δ ε) : α × β × γ × δ × ε × Unit := (x.a, x.b, x.c, x.d, x.e, ())
def rpT {θ τ : Type} [Ra τ] (row : θ → τ) (K : PySem.W.Frag) (F : Hp) (v : V) (x : θ) : Prop := ∃ a vs, v = .ref a ∧ TupF F a vs ∧ ra K F vs (row x)
theorem rpT.mono {θ τ : Type} [Ra τ] {row : θ → τ} {K : PySem.W.Frag} {F F' : Hp} {v : V} {x : θ} (s : L2.Same F F') : rpT row K F v x → rpT row K F' v x := fun ⟨a, vs, e, q, r⟩ => ⟨a, vs, e, tupF_mono s q, Ra.mono s r⟩
instance {α : Type} [Rp α] : Rp (T1 α) := ⟨rpT T1.row, rpT.mono⟩
instance {α β : Type} [Rp α] [Rp β] : Rp (T2 α β) := ⟨rpT T2.row, rpT.mono⟩
instance {α β γ : Type} [Rp α] [Rp β] [Rp γ] : Rp (T3 α β γ) := ⟨rpT T3.row, rpT.mono⟩
instance {α β γ δ : Type} [Rp α] [Rp β] [Rp γ] [Rp δ] : Rp (T4 α β γ δ) := ⟨rpT T4.row, rpT.mono⟩
instance {α β γ δ ε : Type} [Rp α] [Rp β] [Rp γ] [Rp δ] [Rp ε] : Rp (T5 α β γ δ ε) := ⟨rpT T5.row, rpT.mono⟩
class NN (α : Type) [Rp α] : Prop where
  nn : ∀ {K : PySem.W.Frag} {F : Hp} {x : α}, ¬ rp K F V.non x
instance : NN Int := ⟨fun h => nomatch h⟩
instance : NN Bool := ⟨fun h => nomatch h⟩
instance : NN Str := ⟨fun h => nomatch h⟩
instance {α : Type} [Rp α] : NN (List α) := ⟨fun ⟨_, _, e, _⟩ => nomatch e⟩
instance {α : Type} [Rp α] : NN (Tp α) := ⟨fun ⟨_, _, e, _⟩ => nomatch e⟩
instance {α : Type} [Rp α] : NN (Tn α) := ⟨fun ⟨_, _, _, e, _⟩ => nomatch e⟩
theorem rpT.nn {θ τ : Type} [Ra τ] {row : θ → τ} {K : PySem.W.Frag} {F : Hp} {x : θ} : ¬ rpT row K F .non x := fun ⟨_, _, e, _⟩ => nomatch e
instance {α : Type} [Rp α] : NN (T1 α) := ⟨rpT.nn⟩
instance {α β : Type} [Rp α] [Rp β] : NN (T2 α β) := ⟨rpT.nn⟩
instance {α β γ : Type} [Rp α] [Rp β] [Rp γ] : NN (T3 α β γ) := ⟨rpT.nn⟩
instance {α β γ δ : Type} [Rp α] [Rp β] [Rp γ] [Rp δ] : NN (T4 α β γ δ) := ⟨rpT.nn⟩
instance {α β γ δ ε : Type} [Rp α] [Rp β] [Rp γ] [Rp δ] [Rp ε] : NN (T5 α β γ δ ε) := ⟨rpT.nn⟩
def rpO {α : Type} [Rp α] (K : PySem.W.Frag) (F : Hp) (v : V) : Option α → Prop
  | none => v = .non
  | some x => rp K F v x
instance {α : Type} [Rp α] [NN α] : Rp (Option α) := ⟨rpO, fun {K F F' v x} s h => by
  cases x with
  | none => exact h
  | some x => exact Rp.mono (α := α) s h⟩
def lstish : HO → Prop
  | .tup _ => False
  | .frz _ (.tup _) => False
  | .ext _ => False
  | _ => True
def ntb : HO → Prop
  | .tbl _ => False
  | _ => True
def pln : HO → Prop
  | .tbl _ => False
  | .ext _ => False
  | _ => True
theorem pln.ntb {o : HO} (h : pln o) : ntb o := by cases o <;> first | trivial | exact h
def GdT (H : Hp) (P : Addr) : Prop := ∃ ps : Array Value, H P = some (.tbl ps) ∧ TriplesOk ps.toList ∧ ∀ (pos : Pos) (cv : Value), codeAmong pos ps.toList = some cv → ∃ c, cv = .ref c ∧ H c = some (LamX.CodeO c (nmG pos.line pos.col))
structure Xt (H H' : Hp) : Prop where
  k : ∀ b o, H b = some o → ntb o → H' b = some o
  t : ∀ b ps, H b = some (.tbl ps) → ∃ qs, H' b = some (.tbl qs)
  w : ∀ P, GdT H P → GdT H' P
theorem Xt.refl (H : Hp) : Xt H H := ⟨fun _ _ h _ => h, fun _ _ h => ⟨_, h⟩, fun _ h => h⟩
theorem Xt.trans {H H1 H2 : Hp} (a : Xt H H1) (b : Xt H1 H2) : Xt H H2 := ⟨fun c o h n => b.k c o (a.k c o h n) n, fun c ps h => by
  obtain ⟨qs, h⟩ := a.t c ps h
  exact b.t c qs h, fun P h => b.w P (a.w P h)⟩
theorem Xt.free {H H' : Hp} (a : Xt H H') {p : Addr} (h : H' p = none) : H p = none := by
  cases e : H p with
  | none => rfl
  | some o =>
    cases o with
    | tbl ps =>
      obtain ⟨qs, z⟩ := a.t p ps e
      rw [h] at z; cases z
    | _ => have z := a.k p _ e trivial; rw [h] at z; cases z
theorem Xt.same {H H' : Hp} (s : L2.Same H H') : Xt H H' := ⟨fun b o h _ => s b o h, fun b ps h => ⟨ps, s b _ h⟩, fun P ⟨ps, e, h1, h2⟩ =>
  ⟨ps, s _ _ e, h1, fun pos cv hc => let ⟨c, e1, e2⟩ := h2 pos cv hc; ⟨c, e1, s _ _ e2⟩⟩⟩
theorem Xt.upd {H : Hp} {p : Addr} {o : HO} (hp : H p = none) (_ : ntb o) : Xt H (upd H p o) := .same fun b u e => by rw [upd_ne (ne_of_none e hp)]; exact e
def PlAt (H : Hp) (l : Addr) : Prop := ∃ o, H l = some o ∧ pln o
theorem codeO_pl {c : Addr} {q : Str} {o : HO} (h : o = LamX.CodeO c q) : ¬ pln o := by rw [h]; exact id
theorem GdT.ne {H : Hp} {l P : Addr} (a : GdT H P) (h : PlAt H l) : P ≠ l := fun z => by
  obtain ⟨o, ho, po⟩ := h
  obtain ⟨ps, e, _⟩ := a
  rw [z, ho] at e; cases e; exact po
theorem GdT.but {H H' : Hp} {l P : Addr} (a : GdT H P) (h : PlAt H l) (k : ∀ b, b ≠ l → H' b = H b) : GdT H' P := by
  have hP := a.ne h
  obtain ⟨o, ho, po⟩ := h
  obtain ⟨ps, e, h1, h2⟩ := a
  refine ⟨ps, (k P hP).trans e, h1, fun pos cv hc => ?_⟩
  obtain ⟨c, e1, e2⟩ := h2 pos cv hc
  refine ⟨c, e1, (k c fun z => ?_).trans e2⟩
  subst z; rw [ho] at e2; exact codeO_pl (Option.some.inj e2) po
theorem GdT.upd {H : Hp} {l P : Addr} {u : HO} (a : GdT H P) (h : PlAt H l) (_ : ntb u) : GdT (upd H l u) P := a.but h fun _ hb => upd_ne hb
theorem Xt.poke {H0 H : Hp} {l : Addr} {u : HO} (x : Xt H0 H) (n : H0 l = none) (h : PlAt H l) (no : ntb u) : Xt H0 (L2.upd H l u) := ⟨fun b o e ns => by
  rw [upd_ne (ne_of_none e n)]; exact x.k b o e ns, fun b ps e => by
  rw [upd_ne (ne_of_none e n)]; exact x.t b ps e, fun P a => (x.w P a).upd h no⟩
structure Gr (F H F' H' : Hp) : Prop where
  ff : L2.Same F F'
  fh : L2.Same F' H'
  hh : Xt H H'
  fr : ∀ a o, H a = some o → lstish o → F' a = F a
theorem Gr.refl {F H : Hp} (s : L2.Same F H) : Gr F H F H := ⟨.refl _, s, .refl _, fun _ _ _ _ => rfl⟩
theorem Gr.trans {F H F1 H1 F2 H2 : Hp} (a : Gr F H F1 H1) (b : Gr F1 H1 F2 H2) : Gr F H F2 H2 :=
  ⟨a.ff.trans b.ff, b.fh, a.hh.trans b.hh, fun c o h n => by
    cases o with
    | tbl ps =>
      obtain ⟨qs, h2⟩ := a.hh.t c ps h
      rw [b.fr c _ h2 trivial, a.fr c _ h trivial]
    | _ => rw [b.fr c _ (a.hh.k c _ h trivial) n, a.fr c _ h n]⟩
theorem Gr.new {F H : Hp} {p : Addr} {o : HO} (s : L2.Same F H) (hp : H p = none) (no : ntb o := by trivial) : Gr F H (upd F p o) (upd H p o) := by
  have fp : F p = none := s.free hp
  refine ⟨fun b u e => ?_, fun b u e => ?_, .upd hp no, fun a o h _ => ?_⟩
  · rw [upd_ne (ne_of_none e fp)]; exact e
  · by_cases hb : b = p
    · subst hb; rw [upd_same] at e ⊢; exact e
    · rw [upd_ne hb] at e ⊢; exact s _ _ e
  · by_cases hb : a = p
    · subst hb; rw [hp] at h; cases h
    · rw [upd_ne hb]
theorem Gr.newP {F H : Hp} {p : Addr} {o : HO} (s : L2.Same F H) (hp : H p = none) (no : ntb o := by trivial) : Gr F H F (upd H p o) := by
  refine ⟨.refl _, fun b u e => ?_, .upd hp no, fun a o h _ => rfl⟩
  rw [upd_ne (ne_of_none (s _ _ e) hp)]; exact s _ _ e
structure HasT (K : PySem.W.Frag) (F H : Hp) : Prop where
  t : ∀ P ∈ tabsG K, GdT H P ∧ F P = none
theorem HasT.up {K : PySem.W.Frag} {F H F' H' : Hp} (h : HasT K F H) (g : Gr F H F' H') : HasT K F' H' := ⟨fun P hP => by
  obtain ⟨a, f⟩ := h.t P hP
  obtain ⟨ps, e, _⟩ := id a
  exact ⟨g.hh.w P a, (g.fr P _ e trivial).trans f⟩⟩
structure SmX (K : PySem.W.Frag) (F H : Hp) : Prop where
  s : L2.Same F H
  h : HasT K F H
structure GrX (K : PySem.W.Frag) (F H F' H' : Hp) : Prop extends Gr F H F' H' where
  h : HasT K F' H'
section
variable {K : PySem.W.Frag} {F H F1 H1 F2 H2 : Hp}
instance : CoeOut (GrX K F H F1 H1) (Gr F H F1 H1) := ⟨GrX.toGr⟩
theorem GrX.refl (s : SmX K F H) : GrX K F H F H := ⟨.refl s.s, s.h⟩
theorem GrX.sm (g : GrX K F H F1 H1) : SmX K F1 H1 := ⟨g.fh, g.h⟩
theorem GrX.trans (g : GrX K F H F1 H1) (g2 : Gr F1 H1 F2 H2) : GrX K F H F2 H2 := ⟨g.toGr.trans g2, g.h.up g2⟩
theorem GrX.pre (g : Gr F H F1 H1) (g2 : GrX K F1 H1 F2 H2) : GrX K F H F2 H2 := ⟨g.trans g2.toGr, g2.h⟩
theorem SmX.gx (s : SmX K F H) (g : Gr F H F1 H1) : GrX K F H F1 H1 := ⟨g, s.h.up g⟩
theorem HasT.upd {l : Addr} {u v : HO} (h : HasT K F H) (pl : PlAt H l) (no : ntb u) : HasT K F (L2.upd H l u) ∧ HasT K (L2.upd F l v) (L2.upd H l u) :=
  ⟨⟨fun P hP => ⟨(h.t P hP).1.upd pl no, (h.t P hP).2⟩⟩, ⟨fun P hP => ⟨(h.t P hP).1.upd pl no, by rw [upd_ne ((h.t P hP).1.ne pl)]; exact (h.t P hP).2⟩⟩⟩
theorem SmX.up (s : SmX K F H) (g : Gr F H F1 H1) : SmX K F1 H1 := ⟨g.fh, s.h.up g⟩
end
structure Bx (p : Prop) : Prop where
  o : p
def GoE (X : Cx) (e : Expr) : TE := fun σ H Q => Bx (∀ pins s, Inv X pins σ H s → wpAny (model X.prog X.w) X.A (eval e X.env) (EP X pins σ Q) X.xe s)
def GoT (X : Cx) (e : Expr) : TT := fun σ H Q => Bx (∀ pins s, Inv X pins σ H s → wpAny (model X.prog X.w) X.A (isTrue e X.env (eval e X.env)) (TP X pins σ Q) X.xe s)
def GoA (X : Cx) (es : List Expr) : TA := fun σ H Q => Bx (∀ pos pins s, Inv X pins σ H s → wpAny (model X.prog X.w) X.A (spliced (backTo pos (starEach es X.env))) (AP X pins σ Q) X.xe s)
def GoS (X : Cx) (st : List Stmt) : TS := fun D σ H => Bx (∀ pins s, Inv X pins σ H s → wpAny (model X.prog X.w) X.A (execs st X.env) (SP X pins D) X.xe s)
def GoI (X : Cx) (tg iter : Expr) : TI := fun σ H R => Bx (∀ pins s, Inv X pins σ H s → wpAny (model X.prog X.w) X.A (eval iter X.env) (fun v s1 => wpAny (model X.prog X.w) X.A (pyIter v) (PIE X pins σ tg R) X.xe s1) X.xe s)
section
variable {X : Cx} {e : Expr} {es : List Expr} {st : Stmt} {sts rest : List Stmt} {σ : L2.St} {F H : Hp} {D : Ends}
theorem pe_go : PE X e (GoE X e) := ⟨fun pins s σ H Q I h => h.o pins s I⟩
theorem pt_go : PT X e (GoT X e) := ⟨fun pins s σ H Q I h => h.o pins s I⟩
theorem pa_go : PA X es (GoA X es) := ⟨fun pos pins s σ H Q I h => h.o pos pins s I⟩
theorem pss_go : PSs X sts (GoS X sts) := ⟨fun pins s σ H D I h => h.o pins s I⟩
theorem pi_go {tg iter : Expr} : PI X tg iter (GoI X tg iter) := ⟨fun pins s σ H R I h => h.o pins s I⟩
theorem GoE.of {t : TE} {Q : VK} (p : PE X e t) (h : t σ H Q) : GoE X e σ H Q := ⟨fun pins s I => p.run pins s σ H Q I h⟩
theorem GoT.of {t : TT} {Q : Bool → Hp → Prop} (p : PT X e t) (h : t σ H Q) : GoT X e σ H Q := ⟨fun pins s I => p.run pins s σ H Q I h⟩
theorem GoA.of {t : TA} {Q : List V → Hp → Prop} (p : PA X es t) (h : t σ H Q) : GoA X es σ H Q := ⟨fun pos pins s I => p.run pos pins s σ H Q I h⟩
theorem GoI.of {tg iter : Expr} {t : TI} {R : It → Hp → Prop} (p : PI X tg iter t) (h : t σ H R) : GoI X tg iter σ H R := ⟨fun pins s I => p.run pins s σ H R I h⟩
theorem GoS.of {t : TS} (p : PSs X sts t) (h : t D σ H) : GoS X sts D σ H := ⟨fun pins s I => p.run pins s σ H D I h⟩
theorem GoS.cons {t : TS} (p : PS X st t) (h : t { D with nx := GoS X rest D } σ H) : GoS X (st :: rest) D σ H := GoS.of (pss_cons p pss_go) h
theorem GoS.nil (h : D.nx σ H) : GoS X [] D σ H := GoS.of pss_nil h
theorem GoS.mono {D' : Ends} (h : GoS X sts D σ H) (n : ∀ σ H, D.nx σ H → D'.nx σ H) (r : ∀ v H, D.rt v H → D'.rt v H) (b : ∀ σ H, D.bk σ H → D'.bk σ H) (c : ∀ σ H, D.ct σ H → D'.ct σ H) : GoS X sts D' σ H := .mk fun pins s I =>
  thn (h.o pins s I) fun f s' q => by
    cases f with
    | next => obtain ⟨σ', H', I, q⟩ := q; exact ⟨σ', H', I, n _ _ q⟩
    | brk => obtain ⟨σ', H', I, q⟩ := q; exact ⟨σ', H', I, b _ _ q⟩
    | cont => obtain ⟨σ', H', I, q⟩ := q; exact ⟨σ', H', I, c _ _ q⟩
    | ret u => obtain ⟨v, σ', H', I, r', q⟩ := q; exact ⟨v, σ', H', I, r', r _ _ q⟩
def Ev {α : Type} [Rp α] (X : Cx) (e : Expr) (σ : L2.St) (F H : Hp) (x : α) : Prop := ∀ F1 H1, GrX X.K F H F1 H1 → ∀ Q : VK, (∀ v F2 H2, Gr F1 H1 F2 H2 → rp X.K F2 v x → Q v H2) → GoE X e σ H1 Q
def EvT (X : Cx) (e : Expr) (σ : L2.St) (F H : Hp) (b : Bool) : Prop := ∀ F1 H1, GrX X.K F H F1 H1 → ∀ Q : Bool → Hp → Prop, (∀ F2 H2, Gr F1 H1 F2 H2 → Q b H2) → GoT X e σ H1 Q
def EvA {τ : Type} [Ra τ] (X : Cx) (es : List Expr) (σ : L2.St) (F H : Hp) (x : τ) : Prop := ∀ F1 H1, GrX X.K F H F1 H1 → ∀ Q : List V → Hp → Prop, (∀ vs F2 H2, Gr F1 H1 F2 H2 → ra X.K F2 vs x → Q vs H2) → GoA X es σ H1 Q
theorem Ev.up {α : Type} [Rp α] {x : α} {F' H' : Hp} (h : Ev X e σ F H x) (g : Gr F H F' H') : Ev X e σ F' H' x := fun F1 H1 g1 => h F1 H1 (.pre g g1)
theorem EvT.up {b : Bool} {F' H' : Hp} (h : EvT X e σ F H b) (g : Gr F H F' H') : EvT X e σ F' H' b := fun F1 H1 g1 => h F1 H1 (.pre g g1)
theorem ev_var {α : Type} [Rp α] {x : α} {v : V} (i : Nat) {n : Str} {pos : Pos} (hs : σ[i]? = some (some v)) (h : rp X.K F v x) (hN : X.N[i]? = some n := by rfl) (hv : Vis X.env.scope n := by first | exact Or.inl rfl | exact Or.inr (Or.inl rfl) | exact Or.inr (Or.inr rfl))
    (hd : (n == ("__debug__" : Str)) = false := by decide) (hcd : (n == ("__classdict__" : Str)) = false := by decide) : Ev X (.Name n pos) σ F H x := fun F1 H1 g Q q =>
  GoE.of (pe_var hN hv hd hcd) ⟨v, hs, q v F1 H1 (.refl g.fh) (Rp.mono g.ff h)⟩
theorem ev_int {i : Int} {j : Nat} {pos : Pos} : Ev X (.Constant (.int i) j pos) σ F H i := fun F1 H1 g Q q => GoE.of pe_int (q (.int i) F1 H1 (.refl g.fh) rfl)
theorem ev_bl {i : Bool} {j : Nat} {pos : Pos} : Ev X (.Constant (.bool i) j pos) σ F H i := fun F1 H1 g Q q => GoE.of pe_bl (q (.bl i) F1 H1 (.refl g.fh) rfl)
theorem ev_str {i : Str} {j : Nat} {pos : Pos} : Ev X (.Constant (.str i) j pos) σ F H i := fun F1 H1 g Q q => GoE.of pe_str (q (.str i) F1 H1 (.refl g.fh) rfl)
theorem Ev.some {α : Type} [Rp α] [NN α] {x : α} (h : Ev X e σ F H x) : Ev X e σ F H (some x) := fun F1 H1 g Q q => h F1 H1 g Q q
theorem ea_nil : EvA X [] σ F H () := fun F1 H1 g Q q => GoA.of pa_nil (q [] F1 H1 (.refl g.fh) rfl)
theorem ea_cons {α τ : Type} [Rp α] [Ra τ] {x : α} {y : τ} (ha : Ev X e σ F H x) (hr : EvA X es σ F H y) (hs : starEach (e :: es) X.env = (false, eval e X.env) :: starEach es X.env := by rfl) : EvA X (e :: es) σ F H (x, y) := fun F1 H1 g Q q =>
  GoA.of (pa_cons pe_go pa_go hs) (ha F1 H1 g _ fun v F2 H2 g2 r2 => hr F2 H2 (g.trans g2) _ fun vs F3 H3 g3 r3 => q _ F3 H3 (g2.trans g3) ⟨v, vs, rfl, Rp.mono g3.ff r2, r3⟩)
def Op2 {α β γ : Type} [Rp α] [Rp β] [Rp γ] (K : PySem.W.Frag) (r : R2) (x : α) (y : β) (z : γ) : Prop := ∀ (F H : Hp) (v w : V) (Q : VK), L2.Same F H → rp K F v x → rp K F w y → (∀ u F' H', Gr F H F' H' → rp K F' u z → Q u H') → r v w H Q
theorem ev_bin {α β γ : Type} [Rp α] [Rp β] [Rp γ] {x : α} {y : β} {z : γ} {a b : Expr} {op : Operator} {pos : Pos} {r : R2} (ho : OpR X (binaryOp op) r) (hr : Op2 X.K r x y z) (ha : Ev X a σ F H x) (hb : Ev X b σ F H y) : Ev X (.BinOp a op b pos) σ F H z := fun F1 H1 g Q q =>
  GoE.of (pe_op ho pe_go pe_go) (ha F1 H1 g _ fun v F2 H2 g2 r2 => hb F2 H2 (g.trans g2) _ fun w F3 H3 g3 r3 => hr F3 H3 v w Q g3.fh (Rp.mono g3.ff r2) r3 fun u F4 H4 g4 r4 => q u F4 H4 ((g2.trans g3).trans g4) r4)
theorem et_cmp {α β : Type} [Rp α] [Rp β] {x : α} {y : β} {z : Bool} {a b : Expr} {op : CmpOp} {pos : Pos} {r : R2} (ho : OpR X (compareOp op) r) (hr : Op2 X.K r x y z) (ha : Ev X a σ F H x) (hb : Ev X b σ F H y) (hm : behindInMarks op b = false) : EvT X (.Compare a [op] [b] pos) σ F H z := fun F1 H1 g Q q =>
  GoT.of (pt_cmpR ho pe_go pe_go hm) (ha F1 H1 g _ fun v F2 H2 g2 r2 => hb F2 H2 (g.trans g2) _ fun w F3 H3 g3 r3 => hr F3 H3 v w _ g3.fh (Rp.mono g3.ff r2) r3 fun u F4 H4 g4 r4 => by
    have r4 : u = .bl z := r4
    subst r4
    exact ⟨z, rfl, q F4 H4 ((g2.trans g3).trans g4)⟩)
end
end Gx
namespace Gx
open PySem PySem.Spec PyProof.Rows L2
open Rp (rp)
open Ra (ra)
section
variable {X : Cx} {K : PySem.W.Frag} {e a b c d : Expr} {es : List Expr} {σ : L2.St} {F H : Hp} {pos : Pos}
theorem o2_I0 {γ : Type} [Rp γ] {g : Int → Int → V} {x y : Int} {z : γ} (h : ∀ F, rp K F (g x y) z) : Op2 K (rI0 g) x y z := fun F H v w Q s rv rw k => ⟨x, y, rv, rw, k _ F H (.refl s) (h F)⟩
theorem o2_I {γ : Type} [Rp γ] {C : Int → Int → Prop} {g : Int → Int → V} {x y : Int} {z : γ} (hc : C x y) (h : ∀ F, rp K F (g x y) z) : Op2 K (rI C g) x y z := fun F H v w Q s rv rw k => ⟨x, y, rv, rw, hc, k _ F H (.refl s) (h F)⟩
theorem ev_add {x y : Int} (ha : Ev X a σ F H x) (hb : Ev X b σ F H y) : Ev X (.BinOp a .Add b pos) σ F H (x + y) := ev_bin op_add (o2_I0 fun _ => rfl) ha hb
theorem ev_sub {x y : Int} (ha : Ev X a σ F H x) (hb : Ev X b σ F H y) : Ev X (.BinOp a .Sub b pos) σ F H (x - y) := ev_bin op_sub (o2_I0 fun _ => rfl) ha hb
theorem ev_mul {x y : Int} (ha : Ev X a σ F H x) (hb : Ev X b σ F H y) (h : CMul x y) : Ev X (.BinOp a .Mult b pos) σ F H (x * y) := ev_bin op_mul (o2_I h fun _ => rfl) ha hb
theorem ev_div {x y : Int} (ha : Ev X a σ F H x) (hb : Ev X b σ F H y) (h : CDiv x y) : Ev X (.BinOp a .FloorDiv b pos) σ F H (x / y) := ev_bin op_fdiv (o2_I h fun _ => rfl) ha hb
theorem ev_mod {x y : Int} (ha : Ev X a σ F H x) (hb : Ev X b σ F H y) (h : 0 < y) : Ev X (.BinOp a .Mod b pos) σ F H (x % y) := ev_bin op_mod (o2_I h fun _ => rfl) ha hb
theorem ev_powc {x y z : Int} (ha : Ev X a σ F H x) (hb : Ev X b σ F H y) (h : CPow x y) (hz : x ^ y.toNat = z) : Ev X (.BinOp a .Pow b pos) σ F H z := ev_bin op_pow (o2_I h fun _ => congrArg V.int hz) ha hb
theorem CMul.l {i j : Int} (h : -(2 ^ 64) < i ∧ i < 2 ^ 64) : CMul i j := .inl h
theorem CMul.r {i j : Int} (h : -(2 ^ 64) < j ∧ j < 2 ^ 64) : CMul i j := .inr h
instance (i j : Int) : Decidable (CMul i j) := inferInstanceAs (Decidable (_ ∨ _))
instance (i j : Int) : Decidable (CDiv i j) := inferInstanceAs (Decidable (_ ∧ _))
instance (i j : Int) : Decidable (CPow i j) := inferInstanceAs (Decidable (_ ∧ _ ∧ _))
instance (i j : Int) : Decidable (CMulW i j) := inferInstanceAs (Decidable (_ < _))
instance (i j : Int) : Decidable (CDivW i j) := inferInstanceAs (Decidable (_ ∧ _))
def mulG (i j : Int) : Option Int := if CMul i j ∨ CMulW i j then some (i * j) else none
def divG (i j : Int) : Option Int := if CDiv i j ∨ CDivW i j then some (i / j) else none
def modG (i j : Int) : Option Int := if 0 < j then some (i % j) else none
theorem mulG_of {i j r : Int} (h : mulG i j = some r) : (CMul i j ∨ CMulW i j) ∧ i * j = r := by
  unfold mulG at h; split at h
  · exact ⟨by assumption, Option.some.inj h⟩
  · cases h
theorem modG_of {i j r : Int} (h : modG i j = some r) : 0 < j ∧ i % j = r := by
  unfold modG at h; split at h
  · exact ⟨by assumption, Option.some.inj h⟩
  · cases h
theorem ev_mulG {x y r : Int} (ha : Ev X a σ F H x) (hb : Ev X b σ F H y) (h : mulG x y = some r) : Ev X (.BinOp a .Mult b pos) σ F H r := by
  obtain ⟨c | c, rfl⟩ := mulG_of h
  · exact ev_mul ha hb c
  · exact ev_bin op_mulW (o2_I c fun _ => rfl) ha hb
theorem ev_modG {x y r : Int} (ha : Ev X a σ F H x) (hb : Ev X b σ F H y) (h : modG x y = some r) : Ev X (.BinOp a .Mod b pos) σ F H r := by
  obtain ⟨c, rfl⟩ := modG_of h; exact ev_mod ha hb c
theorem o2_lt {x y : Int} : Op2 K (rI0 fun i j => .bl (decide (i < j))) x y (decide (x < y)) := o2_I0 fun _ => rfl
theorem o2_gt {x y : Int} : Op2 K (rI0 fun i j => .bl (decide (j < i))) x y (decide (y < x)) := o2_I0 fun _ => rfl
class Sc (α : Type) [Rp α] [DecidableEq α] : Prop where
  sc : ∀ {K : PySem.W.Frag} {F : Hp} {v w : V} {x y : α}, rp K F v x → rp K F w y → scal v w = true ∧ decide (v = w) = decide (x = y)
instance : Sc Int := ⟨fun {K F v w x y} h1 h2 => by
  have h1 : v = .int x := h1
  have h2 : w = .int y := h2
  subst h1; subst h2
  exact ⟨rfl, by simp⟩⟩
instance : Sc Str := ⟨fun {K F v w x y} h1 h2 => by
  have h1 : v = .str x := h1
  have h2 : w = .str y := h2
  subst h1; subst h2
  exact ⟨rfl, by simp⟩⟩
instance : Sc Bool := ⟨fun {K F v w x y} h1 h2 => by
  have h1 : v = .bl x := h1
  have h2 : w = .bl y := h2
  subst h1; subst h2
  exact ⟨rfl, by simp⟩⟩
theorem o2_eq {α : Type} [Rp α] [DecidableEq α] [Sc α] {x y : α} : Op2 K rEq x y (decide (x = y)) := fun F H v w Q s rv rw k => by
  obtain ⟨h1, h2⟩ := Sc.sc rv rw
  exact ⟨h1, k _ F H (.refl s) (congrArg V.bl h2)⟩
theorem o2_ne {α : Type} [Rp α] [DecidableEq α] [Sc α] {x y : α} : Op2 K rNe x y (!decide (x = y)) := fun F H v w Q s rv rw k => by
  obtain ⟨h1, h2⟩ := Sc.sc rv rw
  exact ⟨h1, k _ F H (.refl s) (congrArg (fun t => V.bl (!t)) h2)⟩
theorem et_val {x : Bool} (h : Ev X e σ F H x) (he : ∀ whole, isTrue e X.env whole = (do let v ← whole; standAt e.pos; holding [v] (truthy v)) := by intro _; rfl) : EvT X e σ F H x := fun F1 H1 g Q q =>
  GoT.of (pt_val pe_go he) (h F1 H1 g _ fun v F2 H2 g2 r2 => ⟨x, r2, q F2 H2 g2⟩)
theorem et_not {x : Bool} (h : EvT X a σ F H x) : EvT X (.UnaryOp .Not a pos) σ F H (!x) := fun F1 H1 g Q q => GoT.of (pt_not pt_go) (h F1 H1 g _ fun F2 H2 g2 => q F2 H2 g2)
theorem ev_not {x : Bool} (h : Ev X a σ F H x) : Ev X (.UnaryOp .Not a pos) σ F H (!x) := fun F1 H1 g Q q => GoE.of (pe_not pe_go) (h F1 H1 g _ fun v F2 H2 g2 r2 => ⟨x, r2, q _ F2 H2 g2 rfl⟩)
def GoW (X : Cx) (e : Expr) : TT := fun σ H Q => Bx (∀ whole pins s, Inv X pins σ H s → wpAny (model X.prog X.w) X.A (isTrue e X.env whole) (TP X pins σ Q) X.xe s)
theorem pw_go : PW X e (GoW X e) := ⟨fun wh pins s σ H Q I h => h.o wh pins s I⟩
theorem GoW.of {t : TT} {Q : Bool → Hp → Prop} (p : PW X e t) (h : t σ H Q) : GoW X e σ H Q := ⟨fun wh pins s I => p.run wh pins s σ H Q I h⟩
def EvW (X : Cx) (e : Expr) (σ : L2.St) (F H : Hp) (b : Bool) : Prop := ∀ F1 H1, GrX X.K F H F1 H1 → ∀ Q : Bool → Hp → Prop, (∀ F2 H2, Gr F1 H1 F2 H2 → Q b H2) → GoW X e σ H1 Q
theorem EvW.t {x : Bool} (h : EvW X e σ F H x) : EvT X e σ F H x := fun F1 H1 g Q q => GoT.of (PW.pt pw_go) (h F1 H1 g Q q)
theorem EvW.cg {x y : Bool} (h : x = y) (r : EvW X e σ F H x) : EvW X e σ F H y := h ▸ r
theorem EvT.cg {x y : Bool} (h : x = y) (r : EvT X e σ F H x) : EvT X e σ F H y := h ▸ r
theorem Ev.cg {α : Type} [Rp α] {x y : α} (h : x = y) (r : Ev X e σ F H x) : Ev X e σ F H y := h ▸ r
theorem ew_and1 {x : Bool} (h : EvT X a σ F H x) : EvW X (.BoolOp .And [a] pos) σ F H x := fun F1 H1 g Q q => GoW.of (pw_and1 pt_go) (h F1 H1 g Q q)
theorem ew_or1 {x : Bool} (h : EvT X a σ F H x) : EvW X (.BoolOp .Or [a] pos) σ F H x := fun F1 H1 g Q q => GoW.of (pw_or1 pt_go) (h F1 H1 g Q q)
theorem ew_and {x r : Bool} {rest : List Expr} (ha : EvT X a σ F H x) (hb : x = true → EvW X (.BoolOp .And (b :: rest) pos) σ F H r) (hn : x = false → r = false) : EvW X (.BoolOp .And (a :: b :: rest) pos) σ F H r := fun F1 H1 g Q q =>
  GoW.of (pw_and pt_go pw_go) (ha F1 H1 g _ fun F2 H2 g2 => by
    cases x with
    | true => rw [if_pos rfl]; exact hb rfl F2 H2 (g.trans g2) Q fun F3 H3 g3 => q F3 H3 (g2.trans g3)
    | false =>
      rw [if_neg Bool.false_ne_true]
      have e := hn rfl
      subst e
      exact q F2 H2 g2)
theorem ew_or {x r : Bool} {rest : List Expr} (ha : EvT X a σ F H x) (hb : x = false → EvW X (.BoolOp .Or (b :: rest) pos) σ F H r) (hn : x = true → r = true) : EvW X (.BoolOp .Or (a :: b :: rest) pos) σ F H r := fun F1 H1 g Q q =>
  GoW.of (pw_or pt_go pw_go) (ha F1 H1 g _ fun F2 H2 g2 => by
    cases x with
    | false => rw [if_neg Bool.false_ne_true]; exact hb rfl F2 H2 (g.trans g2) Q fun F3 H3 g3 => q F3 H3 (g2.trans g3)
    | true =>
      rw [if_pos rfl]
      have e := hn rfl
      subst e
      exact q F2 H2 g2)
theorem ew_andP {x y : Bool} {rest : List Expr} (ha : EvT X a σ F H x) (hb : EvW X (.BoolOp .And (b :: rest) pos) σ F H y) : EvW X (.BoolOp .And (a :: b :: rest) pos) σ F H (x && y) :=
  ew_and ha (fun h => by subst h; exact hb) (fun h => by subst h; rfl)
theorem ew_orP {x y : Bool} {rest : List Expr} (ha : EvT X a σ F H x) (hb : EvW X (.BoolOp .Or (b :: rest) pos) σ F H y) : EvW X (.BoolOp .Or (a :: b :: rest) pos) σ F H (x || y) :=
  ew_or ha (fun h => by subst h; exact hb) (fun h => by subst h; rfl)
theorem ev_one {α : Type} [Rp α] {x : α} {op : BoolOp} (h : Ev X a σ F H x) : Ev X (.BoolOp op [a] pos) σ F H x := fun F1 H1 g Q q => GoE.of (pe_one pe_go) (h F1 H1 g Q q)
theorem ev_and {x r : Bool} {rest : List Expr} (ha : Ev X a σ F H x) (hb : x = true → Ev X (.BoolOp .And (b :: rest) pos) σ F H r) (hn : x = false → r = false) : Ev X (.BoolOp .And (a :: b :: rest) pos) σ F H r := fun F1 H1 g Q q =>
  GoE.of (pe_and pe_go pe_go) (ha F1 H1 g _ fun v F2 H2 g2 r2 => ⟨x, r2, by
    cases x with
    | true => rw [if_pos rfl]; exact hb rfl F2 H2 (g.trans g2) Q fun v F3 H3 g3 => q v F3 H3 (g2.trans g3)
    | false =>
      rw [if_neg Bool.false_ne_true]
      have e := hn rfl
      subst e
      exact q _ F2 H2 g2 rfl⟩)
theorem ev_andP {x y : Bool} {rest : List Expr} (ha : Ev X a σ F H x) (hb : Ev X (.BoolOp .And (b :: rest) pos) σ F H y) : Ev X (.BoolOp .And (a :: b :: rest) pos) σ F H (x && y) :=
  ev_and ha (fun h => by subst h; exact hb) (fun h => by subst h; rfl)
theorem Rps.get {α : Type} [Rp α] : ∀ {vs : List V} {xs : List α} {i : Nat} {x : α}, Rps K F vs xs → xs[i]? = some x → ∃ v, vs[i]? = some v ∧ rp K F v x
  | _, _, _, _, .nil, e => by simp at e
  | _, _, 0, _, .cons r _, e => by simp at e; subst e; exact ⟨_, rfl, r⟩
  | _, _, i + 1, x, .cons _ t, e => by
    obtain ⟨u, h1, h2⟩ := Rps.get (i := i) (x := x) t (by simpa using e)
    exact ⟨u, by simpa using h1, h2⟩
theorem Rps.atI {α : Type} [Rp α] {vs : List V} {xs : List α} {i : Int} {x : α} (h : Rps K F vs xs) (e : atI xs i = some x) : ∃ v, L2.atI vs i = some v ∧ rp K F v x := by
  unfold L2.atI at e ⊢
  rw [h.length]
  cases q : ixN xs.length i with
  | none => rw [q] at e; cases e
  | some j =>
    rw [q] at e
    exact h.get e
theorem ev_ixL {α : Type} [Rp α] {xs : List α} {i : Int} {x : α} (ha : Ev X a σ F H xs) (hb : Ev X b σ F H i) (h : L2.atI xs i = some x) (hs : PlainIx b := by exact fun _ _ => rfl) : Ev X (.Subscript a b pos) σ F H x := fun F1 H1 g Q q =>
  GoE.of (pe_ix ix_list pe_go pe_go hs) (ha F1 H1 g _ fun v F2 H2 g2 r2 => hb F2 H2 (g.trans g2) _ fun w F3 H3 g3 r3 => by
    obtain ⟨p, vs, rfl, sq, rs⟩ := Rp.mono g3.ff r2
    obtain ⟨y, hy, ry⟩ := rs.atI h
    exact ⟨p, vs, i, y, rfl, r3, g3.fh.seq sq, hy, q y F3 H3 (g2.trans g3) ry⟩)
def Proj {τ α : Type} [Ra τ] [Rp α] (i : Int) (y : τ) (x : α) : Prop := ∀ (K : PySem.W.Frag) (F : Hp) (vs : List V), ra K F vs y → ∃ v, L2.atI vs i = some v ∧ rp K F v x
theorem pj0 {α τ : Type} [Rp α] [Ra τ] {x : α} {y : τ} : Proj 0 (x, y) x := fun K F vs ⟨v, r, e, p, q⟩ => ⟨v, by subst e; show (ixN (r.length + 1) 0).bind _ = _; unfold ixN; rw [if_pos (by decide), if_pos (by omega)]; rfl, p⟩
theorem pj1 {α β τ : Type} [Rp α] [Rp β] [Ra τ] {x : α} {z : β} {y : τ} : Proj 1 (x, z, y) z := fun K F vs ⟨v, r, e, p, v', r', e', p', q⟩ => ⟨v', by subst e; subst e'; show (ixN (r'.length + 1 + 1) 1).bind _ = _; unfold ixN; rw [if_pos (by decide), if_pos (by omega)]; rfl, p'⟩
theorem pj2 {α β γ τ : Type} [Rp α] [Rp β] [Rp γ] [Ra τ] {x : α} {z : β} {u : γ} {y : τ} : Proj 2 (x, z, u, y) u := fun K F vs ⟨v, r, e, p, v', r', e', p', v2, r2, e2, p2, q⟩ => ⟨v2, by subst e; subst e'; subst e2; show (ixN (r2.length + 1 + 1 + 1) 2).bind _ = _; unfold ixN; rw [if_pos (by decide), if_pos (by omega)]; rfl, p2⟩
theorem pj3 {α β γ δ τ : Type} [Rp α] [Rp β] [Rp γ] [Rp δ] [Ra τ] {x : α} {z : β} {u : γ} {t : δ} {y : τ} : Proj 3 (x, z, u, t, y) t := fun K F vs ⟨v, r, e, p, v', r', e', p', v2, r2, e2, p2, v3, r3, e3, p3, q⟩ => ⟨v3, by subst e; subst e'; subst e2; subst e3; show (ixN (r3.length + 1 + 1 + 1 + 1) 3).bind _ = _; unfold ixN; rw [if_pos (by decide), if_pos (by omega)]; rfl, p3⟩
class Tup (θ : Type) (τ : outParam Type) [Ra τ] [Rp θ] where
  row : θ → τ
  eq : ∀ {K : PySem.W.Frag} {F : Hp} {v : V} {x : θ}, rp K F v x ↔ rpT row K F v x
instance {α : Type} [Rp α] : Tup (T1 α) (α × Unit) := ⟨T1.row, Iff.rfl⟩
instance {α β : Type} [Rp α] [Rp β] : Tup (T2 α β) (α × β × Unit) := ⟨T2.row, Iff.rfl⟩
instance {α β γ : Type} [Rp α] [Rp β] [Rp γ] : Tup (T3 α β γ) (α × β × γ × Unit) := ⟨T3.row, Iff.rfl⟩
instance {α β γ δ : Type} [Rp α] [Rp β] [Rp γ] [Rp δ] : Tup (T4 α β γ δ) (α × β × γ × δ × Unit) := ⟨T4.row, Iff.rfl⟩
instance {α β γ δ ε : Type} [Rp α] [Rp β] [Rp γ] [Rp δ] [Rp ε] : Tup (T5 α β γ δ ε) (α × β × γ × δ × ε × Unit) := ⟨T5.row, Iff.rfl⟩
theorem ev_ixT {θ τ α : Type} [Ra τ] [Rp θ] [Tup θ τ] [Rp α] {t : θ} {i : Int} {x : α} (ha : Ev X a σ F H t) (hb : Ev X b σ F H i) (h : Proj i (Tup.row t) x) (hs : PlainIx b := by exact fun _ _ => rfl) : Ev X (.Subscript a b pos) σ F H x := fun F1 H1 g Q q =>
  GoE.of (pe_ix ix_tup pe_go pe_go hs) (ha F1 H1 g _ fun v F2 H2 g2 r2 => hb F2 H2 (g.trans g2) _ fun w F3 H3 g3 r3 => by
    obtain ⟨p, vs, rfl, sq, rs⟩ := Tup.eq.mp (Rp.mono g3.ff r2)
    obtain ⟨y, hy, ry⟩ := h _ _ _ rs
    exact ⟨p, vs, i, y, rfl, r3, seqT_mono g3.fh sq, hy, q y F3 H3 (g2.trans g3) ry⟩)
def sAt (z : Str) (i : Int) : Option Str := if z.length ≤ sizeLine then (L2.atI z.cps.toList i).map fun c => ⟨#[c]⟩ else none
theorem ev_ixS {z : Str} {i : Int} {x : Str} (ha : Ev X a σ F H z) (hb : Ev X b σ F H i) (h : sAt z i = some x) (hs : PlainIx b := by exact fun _ _ => rfl) : Ev X (.Subscript a b pos) σ F H x := fun F1 H1 g Q q =>
  GoE.of (pe_ix ix_str pe_go pe_go hs) (ha F1 H1 g _ fun v F2 H2 g2 r2 => hb F2 H2 (g.trans g2) _ fun w F3 H3 g3 r3 => by
    unfold sAt at h
    split at h
    · rename_i hz
      obtain ⟨c, hc, rfl⟩ := Option.map_eq_some_iff.mp h
      exact ⟨z, i, c, r2, r3, hz, hc, q _ F3 H3 (g2.trans g3) rfl⟩
    · cases h)
def GoO (X : Cx) (o : Option Expr) : TO := fun σ H Q => Bx (∀ pins s, Inv X pins σ H s → wpAny (model X.prog X.w) X.A (evalPart o X.env) (fun u s' => ∃ o H', Inv X pins σ H' s' ∧ IsPart u o ∧ Q o H') X.xe s)
theorem po_go {o : Option Expr} : PO X o (GoO X o) := ⟨fun pins s σ H Q I h => h.o pins s I⟩
theorem GoO.of {o : Option Expr} {t : TO} {Q : Option Int → Hp → Prop} (p : PO X o t) (h : t σ H Q) : GoO X o σ H Q := ⟨fun pins s I => p.run pins s σ H Q I h⟩
def EvO (X : Cx) (o : Option Expr) (σ : L2.St) (F H : Hp) (i : Option Int) : Prop := ∀ F1 H1, GrX X.K F H F1 H1 → ∀ Q : Option Int → Hp → Prop, (∀ F2 H2, Gr F1 H1 F2 H2 → Q i H2) → GoO X o σ H1 Q
theorem eo_none : EvO X none σ F H none := fun F1 H1 g Q q => GoO.of po_none (q F1 H1 (.refl g.fh))
theorem eo_some {i : Int} (h : Ev X e σ F H i) : EvO X (some e) σ F H (some i) := fun F1 H1 g Q q => GoO.of (po_some pe_go) (h F1 H1 g _ fun v F2 H2 g2 r2 => ⟨i, r2, q F2 H2 g2⟩)
def cut {α : Type} (xs : List α) (lo hi : Option Int) : List α := (xs.drop (HT.sIx xs.length 0 lo)).take (HT.sIx xs.length xs.length hi - HT.sIx xs.length 0 lo)
theorem Rps.drop {α : Type} [Rp α] : ∀ {vs : List V} {xs : List α} (n : Nat), Rps K F vs xs → Rps K F (vs.drop n) (xs.drop n)
  | _, _, 0, h => h
  | _, _, _ + 1, .nil => .nil
  | _, _, n + 1, .cons _ t => Rps.drop n t
theorem Rps.take {α : Type} [Rp α] : ∀ {vs : List V} {xs : List α} (n : Nat), Rps K F vs xs → Rps K F (vs.take n) (xs.take n)
  | _, _, 0, _ => .nil
  | _, _, _ + 1, .nil => .nil
  | _, _, n + 1, .cons r t => .cons r (Rps.take n t)
theorem Rps.append {α : Type} [Rp α] : ∀ {vs ws : List V} {xs ys : List α}, Rps K F vs xs → Rps K F ws ys → Rps K F (vs ++ ws) (xs ++ ys)
  | _, _, _, _, .nil, s => s
  | _, _, _, _, .cons r t, s => .cons r (Rps.append t s)
theorem Rps.cut {α : Type} [Rp α] {vs : List V} {xs : List α} (h : Rps K F vs xs) (lo hi : Option Int) : Rps K F (cutV vs lo hi) (Gx.cut xs lo hi) := by
  unfold cutV Gx.cut
  rw [h.length]
  exact (h.drop _).take _
class Ob (α : Type) [Rp α] where
  ob : PySem.W.Frag → Hp → HO → α → Prop
  mono : ∀ {K : PySem.W.Frag} {F F' : Hp} {o : HO} {x : α}, L2.Same F F' → ob K F o x → ob K F' o x
  mu : ∀ {K : PySem.W.Frag} {F : Hp} {o : HO} {x : α}, ob K F o x → Mut (some o)
  ls : ∀ {K : PySem.W.Frag} {F : Hp} {o : HO} {x : α}, ob K F o x → lstish o
  fz : ∀ {K : PySem.W.Frag} {F : Hp} {o : HO} {x : α} {l : Addr} {od : Obj}, F l = some (.frz od o) → ob K F o x → rp K F (.ref l) x
open Ob (ob)
instance {α : Type} [Rp α] : Ob (List α) := ⟨fun K F o xs => ∃ vs, o = .lst vs ∧ Rps K F vs xs, fun s ⟨vs, e, r⟩ => ⟨vs, e, r.mono s⟩, fun ⟨vs, e, r⟩ => e ▸ trivial, fun ⟨vs, e, r⟩ => e ▸ trivial,
  fun {K F o x l od} h ⟨vs, e, r⟩ => ⟨l, vs, rfl, .inl (.inr ⟨od, e ▸ h⟩), r⟩⟩
theorem Ob.pl {α : Type} [Rp α] [Ob α] {o : HO} {x : α} (h : ob K F o x) : pln o := by
  have m := Ob.mu h
  have l := Ob.ls h
  cases o <;> first | trivial | exact m | exact l
theorem ob_lst {α : Type} [Rp α] {vs : List V} {xs : List α} (r : Rps K F vs xs) : ob K F (.lst vs) xs := ⟨vs, rfl, r⟩
def EvN {α : Type} [Rp α] [Ob α] (X : Cx) (e : Expr) (σ : L2.St) (F H : Hp) (x : α) : Prop := ∀ F1 H1, GrX X.K F H F1 H1 → ∀ Q : VK, (∀ l o F2 H2, Gr F1 H1 F2 H2 → H1 l = none → F2 l = none → H2 l = some o → ob X.K F2 o x → Q (.ref l) H2) → GoE X e σ H1 Q
theorem Gr.freeze {F H : Hp} {F0 H0 : Hp} {l : Addr} {o : HO} (g : Gr F0 H0 F H) (n : H0 l = none) (hf : F l = none) (pl : PlAt H l) (no : ntb o := by trivial) : Gr F0 H0 (upd F l o) (upd H l o) := by
  refine ⟨fun b u e => ?_, fun b u e => ?_, g.hh.poke n pl no, fun a o h ns => ?_⟩
  · have e1 := g.ff b u e
    rw [upd_ne (ne_of_none e1 hf)]; exact e1
  · by_cases hb : b = l
    · subst hb; rw [upd_same] at e ⊢; exact e
    · rw [upd_ne hb] at e ⊢; exact g.fh _ _ e
  · by_cases hb : a = l
    · subst hb; rw [n] at h; cases h
    · rw [upd_ne hb]; exact g.fr a o h ns
theorem GrX.freeze {F H : Hp} {F0 H0 : Hp} {l : Addr} {o : HO} (g : GrX K F0 H0 F H) (n : H0 l = none) (hf : F l = none) (pl : PlAt H l) (no : ntb o := by trivial) : GrX K F0 H0 (upd F l o) (upd H l o) := ⟨g.toGr.freeze n hf pl no, (g.h.upd pl no).2⟩
theorem GoE.lock {Q Q' : VK} (h : GoE X e σ H Q') (k : ∀ v H2, Q' v H2 → ∃ l o, H2 l = some o ∧ Mut (some o) ∧ ∀ od, Q v (upd H2 l (.frz od o))) : GoE X e σ H Q := .mk fun pins s I => thn (h.o pins s I) fun v s' ⟨x, H', I', r, q⟩ => by
  obtain ⟨l, o, hl, mu, q'⟩ := k _ _ q
  obtain ⟨od, I2⟩ := I'.lock hl mu
  exact ⟨x, _, I2, r, q' od⟩
theorem GoE.locked {Q : VK} {l : Addr} {o : HO} (hl : H l = some o) (mu : Mut (some o)) (h : ∀ od, GoE X e σ (upd H l (.frz od o)) fun v H2 => H2 l = some (.frz od o) ∧ Q v (upd H2 l o)) : GoE X e σ H Q := .mk fun pins s I => by
  obtain ⟨od, I1⟩ := I.lock hl mu
  exact thn ((h od).o pins s I1) fun v s' ⟨x, H', I2, r, e2, q⟩ => ⟨x, _, I2.unlock e2 (I.nofrz hl mu), r, q⟩
theorem GoT.locked {Q : Bool → Hp → Prop} {l : Addr} {o : HO} (hl : H l = some o) (mu : Mut (some o)) (h : ∀ od, GoT X e σ (upd H l (.frz od o)) fun v H2 => H2 l = some (.frz od o) ∧ Q v (upd H2 l o)) : GoT X e σ H Q := .mk fun pins s I => by
  obtain ⟨od, I1⟩ := I.lock hl mu
  exact thn ((h od).o pins s I1) fun v s' q0 => by
    obtain ⟨H', I2, e2, q⟩ := q0
    exact ⟨_, I2.unlock e2 (I.nofrz hl mu), q⟩
theorem GoS.locked {sts : List Stmt} {D : Ends} {l : Addr} {o : HO} (hl : H l = some o) (mu : Mut (some o)) (h : ∀ od, GoS X sts D σ (upd H l (.frz od o))) : GoS X sts D σ H := .mk fun pins s I => by
  obtain ⟨od, I1⟩ := I.lock hl mu
  exact (h od).o pins s I1
theorem same_upd {F : Hp} {l : Addr} {o : HO} (hf : F l = none) : L2.Same F (upd F l o) := fun b u e => by
  rw [upd_ne (ne_of_none e hf)]; exact e
theorem EvN.ev {α : Type} [Rp α] [Ob α] {x : α} (h : EvN X e σ F H x) : Ev X e σ F H x := fun F1 H1 g Q q =>
  GoE.lock (Q' := fun v H2 => ∃ l o F2, v = .ref l ∧ Gr F1 H1 F2 H2 ∧ H1 l = none ∧ F2 l = none ∧ H2 l = some o ∧ ob X.K F2 o x) (h F1 H1 g _ fun l o F2 H2 g2 n2 f2 h2 r2 => ⟨l, o, F2, rfl, g2, n2, f2, h2, r2⟩)
    fun v H2 ⟨l, o, F2, e, g2, n2, f2, h2, r2⟩ => ⟨l, o, h2, Ob.mu r2, fun od => by
      subst e
      exact q _ (upd F2 l (.frz od o)) _ (g2.freeze n2 f2 ⟨o, h2, Ob.pl r2⟩) (Ob.fz upd_same (Ob.mono (same_upd f2) r2))⟩
theorem EvN.newO {α : Type} [Rp α] [Ob α] {x : α} {F1 H1 : Hp} {Q : VK} {F2 H2 : Hp} {o : HO} {p : Addr} (q : ∀ l o F2 H2, Gr F1 H1 F2 H2 → H1 l = none → F2 l = none → H2 l = some o → ob X.K F2 o x → Q (.ref l) H2)
    (g : Gr F1 H1 F2 H2) (hp : H2 p = none) (r : ob X.K F2 o x) : Q (.ref p) (upd H2 p o) :=
  q p o F2 _ (g.trans (Gr.newP g.fh hp (Ob.pl r).ntb)) (g.hh.free hp) (g.fh.free hp) upd_same r
theorem EvN.new {α : Type} [Rp α] {xs : List α} {F1 H1 : Hp} {Q : VK} {F2 H2 : Hp} {vs : List V} {p : Addr} (q : ∀ l o F2 H2, Gr F1 H1 F2 H2 → H1 l = none → F2 l = none → H2 l = some o → ob X.K F2 o xs → Q (.ref l) H2)
    (g : Gr F1 H1 F2 H2) (hp : H2 p = none) (r : Rps X.K F2 vs xs) : Q (.ref p) (upd H2 p (.lst vs)) := EvN.newO q g hp (ob_lst r)
theorem en_slice {α : Type} [Rp α] {xs : List α} {lo hi : Option Expr} {i j : Option Int} {p2 : Pos} (ha : Ev X a σ F H xs) (hl : EvO X lo σ F H i) (hh : EvO X hi σ F H j) : EvN X (.Subscript a (.Slice lo hi none p2) pos) σ F H (cut xs i j) := fun F1 H1 g Q q =>
  GoE.of (pe_slice sl_list pe_go po_go po_go) (ha F1 H1 g _ fun v F2 H2 g2 r2 => hl F2 H2 (g.trans g2) _ fun F3 H3 g3 => hh F3 H3 ((g.trans g2).trans g3) _ fun F4 H4 g4 => by
    obtain ⟨p, vs, rfl, sq, rs⟩ := Rp.mono (g3.ff.trans g4.ff) r2
    exact ⟨p, vs, rfl, g4.fh.seq sq, fun p hp => EvN.new q ((g2.trans g3).trans g4) hp (rs.cut i j)⟩)
def sCut (z : Str) (lo hi : Option Int) : Option Str := if z.length ≤ sizeLine then some (cutS z lo hi) else none
theorem ev_sliceS {z : Str} {lo hi : Option Expr} {i j : Option Int} {p2 : Pos} {r : Str} (ha : Ev X a σ F H z) (hl : EvO X lo σ F H i) (hh : EvO X hi σ F H j) (h : sCut z i j = some r) : Ev X (.Subscript a (.Slice lo hi none p2) pos) σ F H r := fun F1 H1 g Q q =>
  GoE.of (pe_slice sl_str pe_go po_go po_go) (ha F1 H1 g _ fun v F2 H2 g2 r2 => hl F2 H2 (g.trans g2) _ fun F3 H3 g3 => hh F3 H3 ((g.trans g2).trans g3) _ fun F4 H4 g4 => by
    unfold sCut at h
    split at h
    · rename_i hz
      exact ⟨z, r2, hz, q _ F4 H4 ((g2.trans g3).trans g4) (congrArg V.str (Option.some.inj h))⟩
    · cases h)
def EvL {α : Type} [Rp α] (X : Cx) (es : List Expr) (σ : L2.St) (F H : Hp) (xs : List α) : Prop := ∀ F1 H1, GrX X.K F H F1 H1 → ∀ Q : List V → Hp → Prop, (∀ vs F2 H2, Gr F1 H1 F2 H2 → Rps X.K F2 vs xs → Q vs H2) → GoA X es σ H1 Q
theorem el_nil {α : Type} [Rp α] : EvL X [] σ F H ([] : List α) := fun F1 H1 g Q q => GoA.of pa_nil (q [] F1 H1 (.refl g.fh) .nil)
theorem el_cons {α : Type} [Rp α] {x : α} {xs : List α} (ha : Ev X e σ F H x) (hr : EvL X es σ F H xs) (hs : starEach (e :: es) X.env = (false, eval e X.env) :: starEach es X.env := by rfl) : EvL X (e :: es) σ F H (x :: xs) := fun F1 H1 g Q q =>
  GoA.of (pa_cons pe_go pa_go hs) (ha F1 H1 g _ fun v F2 H2 g2 r2 => hr F2 H2 (g.trans g2) _ fun vs F3 H3 g3 r3 => q _ F3 H3 (g2.trans g3) (.cons (Rp.mono g3.ff r2) r3))
theorem en_list {α : Type} [Rp α] {xs : List α} (h : EvL X es σ F H xs) (hz : xs.length ≤ sizeLine) : EvN X (.List es pos) σ F H xs := fun F1 H1 g Q q =>
  GoE.of (pe_lst pa_go) (h F1 H1 g _ fun vs F2 H2 g2 r2 => ⟨by rw [r2.length]; exact hz, fun p hp => EvN.new q g2 hp r2⟩)
theorem ev_tp {α : Type} [Rp α] {xs : List α} {k : Nat} (h : EvL X es σ F H xs) (hz : xs.length ≤ sizeLine) : Ev X (.Tuple es k pos) σ F H (Tp.mk xs) := fun F1 H1 g Q q =>
  GoE.of (pe_tup pa_go) (h F1 H1 g _ fun vs F2 H2 g2 r2 => ⟨by rw [r2.length]; exact hz, fun p hp => q _ (upd F2 p (.tup vs)) _ (g2.trans (Gr.new g2.fh hp)) ⟨p, vs, rfl, upd_same, r2.mono (same_upd (g2.fh.free hp))⟩⟩)
class RaN (τ : Type) [Ra τ] where
  n : Nat
  len : ∀ {K : PySem.W.Frag} {F : Hp} {vs : List V} {x : τ}, ra K F vs x → vs.length = n
instance : RaN Unit := ⟨0, fun {K F vs x} h => by
  have e : vs = [] := h
  rw [e]; rfl⟩
instance {α τ : Type} [Rp α] [Ra τ] [RaN τ] : RaN (α × τ) := ⟨RaN.n τ + 1, fun ⟨v, r, e, p, q⟩ => by rw [e, List.length_cons, RaN.len q]⟩
theorem ev_tup {θ τ : Type} [Ra τ] [RaN τ] [Rp θ] [Tup θ τ] {x : θ} {k : Nat} (h : EvA X es σ F H (Tup.row x)) (hz : RaN.n τ ≤ sizeLine) : Ev X (.Tuple es k pos) σ F H x := fun F1 H1 g Q q =>
  GoE.of (pe_tup pa_go) (h F1 H1 g _ fun vs F2 H2 g2 r2 => ⟨by rw [RaN.len r2]; exact hz, fun p hp => q _ (upd F2 p (.tup vs)) _ (g2.trans (Gr.new g2.fh hp)) (Tup.eq.mpr ⟨p, vs, rfl, upd_same, Ra.mono (same_upd (g2.fh.free hp)) r2⟩)⟩)
theorem ev_tup2 {α β : Type} [Rp α] [Rp β] {x : α} {y : β} {k : Nat} (h : EvA X es σ F H (x, y, ())) : Ev X (.Tuple es k pos) σ F H (T2.mk x y) := ev_tup (θ := T2 α β) h (by show 2 ≤ sizeLine; decide)
theorem ev_tup4 {α β γ δ : Type} [Rp α] [Rp β] [Rp γ] [Rp δ] {x : α} {y : β} {z : γ} {u : δ} {k : Nat} (h : EvA X es σ F H (x, y, z, u, ())) : Ev X (.Tuple es k pos) σ F H (T4.mk x y z u) := ev_tup (θ := T4 α β γ δ) h (by show 4 ≤ sizeLine; decide)
def Pr (K : PySem.W.Frag) {τ ρ : Type} [Ra τ] [Rp ρ] (f : τ → Option ρ) : Sp := fun vs H Q _ => ∃ F a r, SmX K F H ∧ ra K F vs a ∧ f a = some r ∧ ∀ F' H' u, Gr F H F' H' → rp K F' u r → Q u H'
theorem ev_call {τ ρ : Type} [Ra τ] [Rp ρ] {f : τ → Option ρ} {y : τ} {r : ρ} {k : Nat} {fa : Addr} {fd : FuncData} {ps : List Str} {x : Str} {p : Pos} (Fn : FnOk X.prog X.w X.K X.mg X.base CX0 k fa fd ps (Pr X.K f)) (hr : Room k X.A) (hm : X.mg x = some (.ref fa))
    (hk : PySem.W.keepIn X.K (.ref fa) = true) (hb : Binds X.K fd ps []) (ha : EvA X (e :: es) σ F H y) (h : f y = some r) (hg : Gl X x := by rfl) (hdb : (x == ("__debug__" : Str)) = false := by decide)
    (he : starEach (e :: es) X.env = (false, eval e X.env) :: starEach es X.env := by rfl) (hpl : (backTo pos (starEach es X.env)).any (·.1) = false := by rfl) : Ev X (.Call (.Name x p) (e :: es) [] pos) σ F H r := fun F1 H1 g Q q =>
  GoE.of (pe_call Fn hr hg hm hk hb .nil pass0 pa_go hdb he hpl) (ha F1 H1 g _ fun vs F2 H2 g2 r2 => ⟨F2, y, r, (g.trans g2).sm, by rw [List.append_nil]; exact r2, h, fun F3 H3 u g3 r3 => q u F3 H3 (g2.trans g3) r3⟩)
def OpC {τ ρ : Type} [Ra τ] [Rp ρ] (K : PySem.W.Frag) (r : List V → Hp → VK → Prop) (y : τ) (z : ρ) : Prop := ∀ (F H : Hp) (vs : List V) (Q : VK), L2.Same F H → ra K F vs y → (∀ u F' H', Gr F H F' H' → rp K F' u z → Q u H') → r vs H Q
theorem ev_callB {τ ρ : Type} [Ra τ] [Rp ρ] {y : τ} {z : ρ} {id : String} {x : Str} {p : Pos} {r : List V → Hp → VK → Prop} (hc : CallR X (.builtin id) r) (ho : OpC X.K r y z) (hm : X.mg x = none) (hv : bootBuiltins x = some (.builtin id)) (ha : EvA X (e :: es) σ F H y) (hg : Gl X x := by rfl)
    (hn : x ≠ "__name__" := by decide) (hdb : (x == ("__debug__" : Str)) = false := by decide)
    (he : starEach (e :: es) X.env = (false, eval e X.env) :: starEach es X.env := by rfl) (hpl : (backTo pos (starEach es X.env)).any (·.1) = false := by rfl) : Ev X (.Call (.Name x p) (e :: es) [] pos) σ F H z := fun F1 H1 g Q q =>
  GoE.of (pe_callB hc hg hm hv pa_go hn hdb he hpl) (ha F1 H1 g _ fun vs F2 H2 g2 r2 => ho F2 H2 vs Q g2.fh r2 fun u F3 H3 g3 r3 => q u F3 H3 (g2.trans g3) r3)
theorem ev_callTy {τ ρ : Type} [Ra τ] [Rp ρ] {y : τ} {z : ρ} {T : String} {x : Str} {p : Pos} {r : List V → Hp → VK → Prop} (hc : CallR X (.type T) r) (ho : OpC X.K r y z) (hm : X.mg x = none) (hv : bootBuiltins x = some (.type T)) (ha : EvA X (e :: es) σ F H y) (hg : Gl X x := by rfl)
    (hn : x ≠ "__name__" := by decide) (hdb : (x == ("__debug__" : Str)) = false := by decide)
    (he : starEach (e :: es) X.env = (false, eval e X.env) :: starEach es X.env := by rfl) (hpl : (backTo pos (starEach es X.env)).any (·.1) = false := by rfl) : Ev X (.Call (.Name x p) (e :: es) [] pos) σ F H z := fun F1 H1 g Q q =>
  GoE.of (pe_callTy hc hg hm hv pa_go hn hdb he hpl) (ha F1 H1 g _ fun vs F2 H2 g2 r2 => ho F2 H2 vs Q g2.fh r2 fun u F3 H3 g3 r3 => q u F3 H3 (g2.trans g3) r3)
theorem oc1 {α ρ : Type} [Rp α] [Rp ρ] {r : List V → Hp → VK → Prop} {y : α} {z : ρ} (h : ∀ (F H : Hp) (v : V) (Q : VK), L2.Same F H → rp K F v y → (∀ u F' H', Gr F H F' H' → rp K F' u z → Q u H') → r [v] H Q) : OpC K r (y, ()) z :=
  fun F H vs Q s ⟨v, w, e, rv, rw'⟩ k => by
    have e2 : w = [] := rw'
    subst e2; subst e
    exact h F H v Q s rv k
theorem oc_lenL {α : Type} [Rp α] {xs : List α} : OpC K (fun vs H Q => ∃ p ys, vs = [.ref p] ∧ (SqL K H p ys ∨ SqT K H p ys) ∧ Q (.int ys.length) H) (xs, ()) (xs.length : Int) :=
  oc1 fun F H v Q s ⟨p, vs, e, sq, rs⟩ k => ⟨p, vs, by rw [e], .inl (s.seq sq), k _ F H (.refl s) (congrArg (fun n : Nat => V.int n) rs.length)⟩
theorem oc_lenTp {α θ : Type} [Rp α] [Rp θ] [TL θ α] {xs : θ} : OpC K (fun vs H Q => ∃ p ys, vs = [.ref p] ∧ (SqL K H p ys ∨ SqT K H p ys) ∧ Q (.int ys.length) H) (xs, ()) ((TL.l xs).length : Int) :=
  oc1 fun F H v Q s r k => let ⟨p, vs, e, sq, rs⟩ := TL.sq r; ⟨p, vs, by rw [e], .inr (sqT_mono s sq), k _ F H (.refl s) (congrArg (fun n : Nat => V.int n) rs.length)⟩
def sLen (z : Str) : Option Int := if z.length ≤ sizeLine then some (z.length : Int) else none
end
end Gx
namespace Gx
open PySem PySem.Spec PyProof.Rows L2
open Rp (rp)
open Ra (ra)
open Ob (ob)
section
variable {X : Cx} {K : PySem.W.Frag} {e a b c d : Expr} {es : List Expr} {σ : L2.St} {F H F0 H0 : Hp} {pos : Pos} {D : Ends} {st : Stmt} {rest body : List Stmt}
theorem go_set {α : Type} [Rp α] {x : α} {n : Str} {p : Pos} (i : Nat) (s : SmX X.K F H) (he : Ev X e σ F H x) (k : ∀ v F' H', Gr F H F' H' → rp X.K F' v x → GoS X rest D (σ.set i (some v)) H') (hN : X.N.Nodup) (hi : X.N[i]? = some n := by rfl)
    (hx : Loc X.env.scope n := by first | exact Or.inl rfl | exact Or.inr rfl) (hs : swapsWith e (some (.Name n p)) pos.line X.env = pure false := by rfl) (hf : X.fn n = true ∨ X.env.scope.names.lookup n = some .local := by first | exact .inl rfl | exact .inr rfl) :
    GoS X (.Assign [.Name n p] e pos :: rest) D σ H :=
  GoS.cons (ps_set hN hi hx pe_go hs hf) (he F H (.refl s) _ fun v F2 H2 g r => k v F2 H2 g r)
theorem go_setN {α : Type} [Rp α] [Ob α] {x : α} {n : Str} {p : Pos} (i : Nat) (s : SmX X.K F H) (he : EvN X e σ F H x) (k : ∀ l o F' H', Gr F H F' H' → H l = none → F' l = none → H' l = some o → ob X.K F' o x → GoS X rest D (σ.set i (some (.ref l))) H') (hN : X.N.Nodup) (hi : X.N[i]? = some n := by rfl)
    (hx : Loc X.env.scope n := by first | exact Or.inl rfl | exact Or.inr rfl) (hs : swapsWith e (some (.Name n p)) pos.line X.env = pure false := by rfl) (hf : X.fn n = true ∨ X.env.scope.names.lookup n = some .local := by first | exact .inl rfl | exact .inr rfl) :
    GoS X (.Assign [.Name n p] e pos :: rest) D σ H :=
  GoS.cons (ps_set hN hi hx pe_go hs hf) (he F H (.refl s) _ fun l o F2 H2 g n f h r => k l o F2 H2 g n f h r)
theorem go_ret {α : Type} [Rp α] {x : α} (s : SmX X.K F H) (he : Ev X e σ F H x) (k : ∀ v F' H', Gr F H F' H' → rp X.K F' v x → D.rt v H') : GoS X (.Return (some e) pos :: rest) D σ H :=
  GoS.cons (ps_ret pe_go) (he F H (.refl s) _ fun v F2 H2 g r => k v F2 H2 g r)
theorem go_if {t : Bool} {as bs : List Stmt} (s : SmX X.K F H) (hc : EvT X c σ F H t) (ka : t = true → ∀ F' H', Gr F H F' H' → GoS X as { D with nx := GoS X rest D } σ H') (kb : t = false → ∀ F' H', Gr F H F' H' → GoS X bs { D with nx := GoS X rest D } σ H') :
    GoS X (.If c as bs pos :: rest) D σ H :=
  GoS.cons (ps_if pt_go pss_go pss_go) (hc F H (.refl s) _ fun F2 H2 g => by
    cases t with
    | true => rw [if_pos rfl]; exact ka rfl F2 H2 g
    | false => rw [if_neg Bool.false_ne_true]; exact kb rfl F2 H2 g)
theorem go_ifj {t : Bool} {as bs : List Stmt} (P : L2.St → Hp → Prop) (s : SmX X.K F H) (hc : EvT X c σ F H t) (ka : t = true → ∀ F' H', Gr F H F' H' → GoS X as { D with nx := P } σ H') (kb : t = false → ∀ F' H', Gr F H F' H' → GoS X bs { D with nx := P } σ H')
    (k : ∀ σ' H', P σ' H' → GoS X rest D σ' H') : GoS X (.If c as bs pos :: rest) D σ H :=
  go_if s hc (fun e F' H' g => (ka e F' H' g).mono k (fun _ _ h => h) (fun _ _ h => h) fun _ _ h => h) (fun e F' H' g => (kb e F' H' g).mono k (fun _ _ h => h) (fun _ _ h => h) fun _ _ h => h)
structure Own {α : Type} [Rp α] [Ob α] (K : PySem.W.Frag) (H0 F H : Hp) (l : Addr) (x : α) : Prop where
  n : H0 l = none
  f : F l = none
  h : ∃ o, H l = some o ∧ ob K F o x
section
variable {α β : Type} [Rp α] [Ob α] [Rp β] [Ob β] {x y : α} {l l' : Addr}
theorem Own.ne0 (o : Own K H0 F H l x) : H l ≠ none := by
  obtain ⟨u, h, _⟩ := o.h
  rw [h]; exact fun e => nomatch e
theorem Own.up {F' H' : Hp} (o : Own K H0 F H l x) (g : Gr F H F' H') : Own K H0 F' H' l x := by
  obtain ⟨u, h, r⟩ := o.h
  exact ⟨o.n, (g.fr l _ h (Ob.ls r)).trans o.f, u, g.hh.k _ _ h (Ob.pl r).ntb, Ob.mono g.ff r⟩
theorem Own.pl (o : Own K H0 F H l x) : PlAt H l := by
  obtain ⟨u, h, r⟩ := o.h
  exact ⟨u, h, Ob.pl r⟩
theorem Own.other {u : HO} (o : Own K H0 F H l x) (h : l ≠ l') : Own K H0 F (upd H l' u) l x := by
  obtain ⟨v, e, r⟩ := o.h
  exact ⟨o.n, o.f, v, by rw [upd_ne h]; exact e, r⟩
theorem Own.freeze {st : List Stmt} (o : Own X.K H0 F H l x) (g : GrX X.K F0 H0 F H) (k : ∀ F' H', L2.Same F F' → L2.Same F' H' → GrX X.K F0 H0 F' H' → rp X.K F' (.ref l) x → (∀ a, a ≠ l → F' a = F a ∧ H' a = H a) → GoS X st D σ H') : GoS X st D σ H := by
  obtain ⟨u, h, r⟩ := o.h
  refine GoS.locked h (Ob.mu r) fun od => ?_
  have g2 := g.freeze (o := .frz od u) o.n o.f o.pl
  exact k _ _ (same_upd o.f) g2.fh g2 (Ob.fz upd_same (Ob.mono (same_upd o.f) r)) fun a ha => ⟨upd_ne ha, upd_ne ha⟩
theorem Own.keepF {F' H' : Hp} (o : Own K H0 F H l x) (hl : l ≠ l') (s : L2.Same F F') (k : ∀ a, a ≠ l' → F' a = F a ∧ H' a = H a) : Own K H0 F' H' l x := by
  obtain ⟨u, h, r⟩ := o.h
  exact ⟨o.n, (k l hl).1.trans o.f, u, (k l hl).2.trans h, Ob.mono s r⟩
theorem Own.ne {H1 : Hp} (o : Own K H0 F H l x) (h : H l' = none) : l ≠ l' := fun e => o.ne0 (e ▸ h)
theorem Own.set {u : HO} {z : β} (n : H0 l = none) (f : F l = none) (r : ob K F u z) : Own K H0 F (upd H l u) l z := ⟨n, f, u, upd_same, r⟩
end
theorem Gr.poke {F H : Hp} {l : Addr} {u : HO} (g : Gr F0 H0 F H) (n : H0 l = none) (f : F l = none) (pl : PlAt H l) (no : ntb u := by trivial) : Gr F0 H0 F (upd H l u) := by
  refine ⟨g.ff, fun b o e => ?_, g.hh.poke n pl no, g.fr⟩
  rw [upd_ne (ne_of_none e f)]; exact g.fh _ _ e
theorem GrX.poke {F H : Hp} {l : Addr} {u : HO} (g : GrX K F0 H0 F H) (n : H0 l = none) (f : F l = none) (pl : PlAt H l) (no : PlAt (upd H l u) l) : GrX K F0 H0 F (upd H l u) := by
  have no : ntb u := by
    obtain ⟨o, e, p⟩ := no
    rw [upd_same] at e; cases e; exact p.ntb
  exact ⟨g.toGr.poke n f pl no, (g.h.upd (v := u) pl no).1⟩
def app {α : Type} (xs : List α) (y : α) : Option (List α) := if xs.length < sizeLine then some (xs ++ [y]) else none
theorem app_of {α : Type} {xs : List α} {y : α} {r : List α} (h : app xs y = some r) : xs.length < sizeLine ∧ xs ++ [y] = r := by
  unfold app at h; split at h
  · exact ⟨by assumption, Option.some.inj h⟩
  · cases h
theorem go_append {α : Type} [Rp α] {xs : List α} {y : α} {r : List α} {l : Addr} {n : Str} {p1 p2 p3 : Pos} (i : Nat) (s : SmX X.K F H) (o : Own X.K H0 F H l xs) (hσ : σ[i]? = some (some (.ref l))) (he : Ev X e σ F H y) (h : app xs y = some r)
    (k : ∀ u F' H', Gr F H F' H' → PlAt H' l → F' l = none → Own X.K H0 F' (upd H' l u) l r → GoS X rest D σ (upd H' l u)) (hN : X.N[i]? = some n := by rfl) (hv : Vis X.env.scope n := by first | exact Or.inl rfl | exact Or.inr (Or.inl rfl) | exact Or.inr (Or.inr rfl))
    (hd : (n == ("__debug__" : Str)) = false := by decide) (hcd : (n == ("__classdict__" : Str)) = false := by decide) 
    (hbase : attributeBase (.Name n p1) "append" X.env (eval (.Name n p1) X.env) = eval (.Name n p1) X.env := by rfl)
    (hfew : ((backTo p3 (starEach [e] X.env)).all (fun x => !x.1) && (backToKw p3 (keywordEach [] X.env)).all (fun x => x.1.isSome) && decide ([e].length + ([] : List Keyword).length + (if ([] : List Keyword).isEmpty then 0 else 1) < 30)) = true := by rfl)
    (hline : (p2.endLine == p3.line) = true := by rfl) (hs : starEach [e] X.env = (false, eval e X.env) :: starEach [] X.env := by rfl) (hplain : (backTo p3 (starEach [] X.env)).any (·.1) = false := by rfl) (hsw : swapsWith (.Call (.Attribute (.Name n p1) "append" p2) [e] [] p3) none pos.line X.env = pure false := by rfl) :
    GoS X (.Expr (.Call (.Attribute (.Name n p1) "append" p2) [e] [] p3) pos :: rest) D σ H := by
  obtain ⟨_, hl, vs, rfl, rs⟩ := o.h
  obtain ⟨hz, rfl⟩ := app_of h
  refine GoS.cons (ps_expr (pe_bm PySem.F.plainAttrs_list PySem.F.slot_list_append PySem.F.type_list_append mt_append (pe_var hN hv hd hcd) (pa_cons pe_go pa_nil hs) hbase hfew hline hs hplain) hsw) ?_
  refine ⟨_, hσ, .inl ⟨rfl, _, SqL.of hl⟩, he F H (.refl s) _ fun v F2 H2 g r => ?_⟩
  have o2 := o.up g
  have hl2 := g.hh.k _ _ hl trivial
  exact ⟨l, vs, v, rfl, rfl, hl2, by rw [rs.length]; exact hz, k _ F2 H2 g o2.pl o2.f (Own.set o2.n o2.f (ob_lst (Rps.append (rs.mono g.ff) (.cons r .nil))))⟩
def Wk {α : Type} [Rp α] (K : PySem.W.Frag) (J : It) (F H : Hp) (xs : List α) : Prop := ∀ i Fi Hi, L2.Same F Fi → L2.Same Fi Hi → (∀ x, xs[i]? = some x → J.go i Hi ∧ ∀ v H', J.yld i Hi v H' → ∃ F', Gr Fi Hi F' H' ∧ rp K F' v x) ∧ (i = xs.length → J.stop i Hi)
def EvI {α : Type} [Rp α] (X : Cx) (tg iter : Expr) (σ : L2.St) (F H : Hp) (xs : List α) : Prop := ∀ F1 H1, GrX X.K F H F1 H1 → ∀ R : It → Hp → Prop, (∀ J F2 H2, Gr F1 H1 F2 H2 → Wk X.K J F2 H2 xs → R J H2) → GoI X tg iter σ H1 R
theorem ei_list {α : Type} [Rp α] {xs : List α} {tg : Expr} (h : Ev X e σ F H xs) : EvI X tg e σ F H xs := fun F1 H1 g R q =>
  GoI.of (pi_list pe_go) (h F1 H1 g _ fun v F2 H2 g2 ⟨a, vs, e, sq, rs⟩ => ⟨a, e, ⟨vs, g2.fh.seq sq⟩, q _ F2 H2 g2 fun i Fi Hi s1 s2 => by
    have sq' := s2.seq (s1.seq sq)
    refine ⟨fun x hx => ?_, fun e => ⟨vs, sq', by rw [e, rs.length]; exact Nat.le_refl _⟩⟩
    obtain ⟨y, hy, ry⟩ := rs.get hx
    refine ⟨⟨vs, y, sq', hy⟩, fun v H' ⟨e1, e2⟩ => ?_⟩
    subst e1
    have e3 := e2 vs sq'
    rw [hy] at e3
    cases e3
    exact ⟨Fi, .refl s2, Rp.mono s1 ry⟩⟩)
theorem ei_tp {α θ : Type} [Rp α] [Rp θ] [TL θ α] {xs : θ} {tg : Expr} (h : Ev X e σ F H xs) : EvI X tg e σ F H (TL.l xs) := fun F1 H1 g R q =>
  GoI.of (pi_tup pe_go) (h F1 H1 g _ fun v F2 H2 g2 r2 => let ⟨a, vs, e, sq, rs⟩ := TL.sq r2; ⟨a, e, ⟨vs, sqT_mono g2.fh sq⟩, q _ F2 H2 g2 fun i Fi Hi s1 s2 => by
    have sq' := sqT_mono (K := X.K) s2 (sqT_mono s1 sq)
    refine ⟨fun x hx => ?_, fun e => ⟨vs, sq', by rw [e, rs.length]; exact Nat.le_refl _⟩⟩
    obtain ⟨y, hy, ry⟩ := rs.get hx
    refine ⟨⟨vs, y, sq', hy⟩, fun v H' ⟨e1, e2⟩ => ?_⟩
    subst e1
    have e3 := e2 vs sq'
    rw [hy] at e3
    cases e3
    exact ⟨Fi, .refl s2, Rp.mono s1 ry⟩⟩)
def intsF (lo : Int) (n : Nat) : List Int := (List.range n).map fun (i : Nat) => lo + (i : Int)
theorem ints_get {lo : Int} {n i : Nat} {x : Int} (h : (intsF lo n)[i]? = some x) : i < n ∧ x = lo + i := by
  unfold intsF at h
  rw [List.getElem?_map] at h
  obtain ⟨j, hj, e⟩ := Option.map_eq_some_iff.mp h
  rw [List.getElem?_range] at hj
  · have e1 : i = j := Option.some.inj hj
    subst e1
    refine ⟨?_, e.symm⟩
    rcases Nat.lt_or_ge i n with h1 | h1
    · exact h1
    · rw [List.getElem?_eq_none (by simpa using h1)] at h; cases h
  · rcases Nat.lt_or_ge i n with h1 | h1
    · exact h1
    · rw [List.getElem?_eq_none (by simpa using h1)] at hj; cases hj
theorem ints_len {lo : Int} {n : Nat} : (intsF lo n).length = n := by unfold intsF; simp
theorem wk_range {lo : Int} {n : Nat} : Wk K (Itr lo n) F H (intsF lo n) := fun i Fi Hi s1 s2 => by
  refine ⟨fun x hx => ?_, fun e => by rw [ints_len] at e; exact Nat.le_of_eq e.symm⟩
  obtain ⟨h1, rfl⟩ := ints_get hx
  refine ⟨h1, fun v H' ⟨e1, e2⟩ => ?_⟩
  subst e1
  exact ⟨Fi, .refl s2, e2⟩
def rngG (j : Int) : Option (List Int) := if -(2 ^ 62) ≤ j ∧ j < 2 ^ 62 then some (intsF 0 j.toNat) else none
def rngG2 (i j : Int) : Option (List Int) := if -(2 ^ 62) ≤ i ∧ i < 2 ^ 62 ∧ -(2 ^ 62) ≤ j ∧ j < 2 ^ 62 then some (intsF i (j - i).toNat) else none
theorem ei_range1 {j : Int} {r : List Int} {tg : Expr} {p : Pos} (h : Ev X a σ F H j) (hr : rngG j = some r) (hm : X.mg "range" = none) (hg : Gl X "range" := by rfl) (hs : starEach [a] X.env = [(false, eval a X.env)] := by rfl) : EvI X tg (.Call (.Name "range" p) [a] [] pos) σ F H r := fun F1 H1 g R q =>
  GoI.of (pi_range1 hg hm (pa_cons pe_go pa_nil (by rw [hs]; rfl)) hs) (h F1 H1 g _ fun v F2 H2 g2 r2 => by
    unfold rngG at hr
    split at hr
    · rename_i hj
      cases hr
      have r2 : v = .int j := r2
      exact ⟨j, by rw [r2], hj.1, hj.2, q _ F2 H2 g2 wk_range⟩
    · cases hr)
def sgns (x : Str) : List Str := x.cps.toList.map fun c => ⟨#[c]⟩
theorem ei_str {x : Str} {tg : Expr} (h : Ev X e σ F H x) : EvI X tg e σ F H (sgns x) := fun F1 H1 g R q =>
  GoI.of (pi_str pe_go) (h F1 H1 g _ fun v F2 H2 g2 r2 => ⟨x, r2, q _ F2 H2 g2 fun i Fi Hi s1 s2 => by
    unfold sgns
    refine ⟨fun y hy => ?_, fun e => by rw [e]; simp [Its]⟩
    rw [List.getElem?_map] at hy
    obtain ⟨c, hc, rfl⟩ := Option.map_eq_some_iff.mp hy
    have hc' : x.cps[i]? = some c := by simpa using hc
    refine ⟨?_, fun v H' ⟨e1, c', e2, e3⟩ => ?_⟩
    · show i < x.cps.size
      exact (Array.getElem?_eq_some_iff.mp hc').1
    · subst e1
      rw [hc'] at e2
      cases e2
      exact ⟨Fi, .refl s2, e3⟩⟩)
inductive Lp (β ρ : Type) where
  | nx (b : β) | bk (b : β) | rt (r : ρ)
def loopM {α β ρ : Type} (st : β → α → Option (Lp β ρ)) : β → List α → Option (Lp β ρ)
  | b, [] => some (.nx b)
  | b, x :: xs => match st b x with
    | none => none
    | some (.nx b') => loopM st b' xs
    | some (.bk b') => some (.bk b')
    | some (.rt r) => some (.rt r)
abbrev LE {β ρ : Type} (Iv : β → L2.St → Hp → Hp → Prop) (Rt : ρ → V → Hp → Prop) (F : Hp) (o : Lp β ρ) : Ends :=
  { nx := fun σ' H' => ∃ b' F', o = .nx b' ∧ L2.Same F F' ∧ L2.Same F' H' ∧ Iv b' σ' F' H', ct := fun σ' H' => ∃ b' F', o = .nx b' ∧ L2.Same F F' ∧ L2.Same F' H' ∧ Iv b' σ' F' H',
    bk := fun σ' H' => ∃ b' F', o = .bk b' ∧ L2.Same F F' ∧ L2.Same F' H' ∧ Iv b' σ' F' H', rt := fun v H' => ∃ r, o = .rt r ∧ Rt r v H' }
theorem go_for {α β ρ : Type} [Rp α] {tg iter : Expr} {g : TG} (xs : List α) (stp : β → α → Option (Lp β ρ)) (b0 : β) {o : Lp β ρ} (s : SmX X.K F H) (hi : EvI X tg iter σ F H xs) (hg : PG X tg g) (ho : loopM stp b0 xs = some o)
    (k : ∀ F2 H2, Gr F H F2 H2 → ∃ (Iv : β → L2.St → Hp → Hp → Prop) (Rt : ρ → V → Hp → Prop), Iv b0 σ F2 H2 ∧
      (∀ b x o', stp b x = some o' → ∀ σ F H v, L2.Same F2 F → L2.Same F H → Iv b σ F H → ∀ F' H', Gr F H F' H' → rp X.K F' v x → ∀ Q : L2.St → Hp → Prop, (∀ σ' H'', GoS X body (LE Iv Rt F o') σ' H'' → Q σ' H'') → g v σ H' Q) ∧
      (match o with | .nx b => ∀ σ F H, L2.Same F H → Iv b σ F H → GoS X rest D σ H | .bk b => ∀ σ F H, L2.Same F H → Iv b σ F H → GoS X rest D σ H | .rt r => ∀ v H, Rt r v H → D.rt v H))
    (hp : PassesOwn (model X.prog X.w) X.A X.env X.xe) (hc : X.calm = true := by rfl) (hs : ∀ x, foldedSetIterable iter X.env x = pure x := by intro _; rfl) : GoS X (.For tg iter body [] pos :: rest) D σ H := by
  refine GoS.cons (ps_for hp hc pi_go hg pss_go hs) (hi F H (.refl s) _ fun J F2 H2 g2 wk => ?_)
  obtain ⟨Iv, Rt, init, step, done⟩ := k F2 H2 g2
  refine ⟨fun i m σ H => m = xs.length - i ∧ i ≤ xs.length ∧ ∃ b F, L2.Same F2 F ∧ L2.Same F H ∧ Iv b σ F H ∧ loopM stp b (xs.drop i) = some o, ⟨_, rfl, Nat.zero_le _, b0, F2, .refl _, g2.fh, init, ho⟩, ?_⟩
  rintro i m σ' H' ⟨rfl, hle, b, Fi, s1, s2, iv, hl⟩
  obtain ⟨w1, w2⟩ := wk i Fi H' s1 s2
  rcases Nat.lt_or_ge i xs.length with hlt | hge
  · obtain ⟨x, hx⟩ : ∃ x, xs[i]? = some x := ⟨xs[i], List.getElem?_eq_getElem hlt⟩
    obtain ⟨hgo, hy⟩ := w1 x hx
    have ed : xs.drop i = x :: xs.drop (i + 1) := by
      rw [List.drop_eq_getElem_cons hlt]
      rw [List.getElem?_eq_getElem hlt] at hx
      rw [Option.some.inj hx]
    rw [ed] at hl
    unfold loopM at hl
    cases hst : stp b x with
    | none => rw [hst] at hl; cases hl
    | some o' =>
      rw [hst] at hl
      refine .inr ⟨hgo, fun σ3 H3 => ∃ b' F', o' = .nx b' ∧ L2.Same Fi F' ∧ L2.Same F' H3 ∧ Iv b' σ3 F' H3, fun σ3 H3 ⟨b', F', e, f1, f2, iv'⟩ => ?_, fun v H3 hv => ?_⟩
      · subst e
        exact ⟨xs.length - (i + 1), by omega, rfl, hlt, b', F', s1.trans f1, f2, iv', hl⟩
      · obtain ⟨F', gr, rv⟩ := hy v H3 hv
        refine step b x o' hst σ' Fi H' v s1 s2 iv F' H3 gr rv _ fun σ4 H4 q => q.mono (fun _ _ h => h) (fun v' H5 ⟨r, e, hr⟩ => ?_) (fun σ5 H5 ⟨b', F5, e, f1, f2, iv'⟩ => ?_) fun _ _ h => h
        · subst e
          cases (Option.some.inj hl)
          exact done v' H5 hr
        · subst e
          cases (Option.some.inj hl)
          exact done σ5 F5 H5 f2 iv'
  · have e : i = xs.length := by omega
    subst e
    rw [List.drop_length] at hl
    cases (Option.some.inj hl)
    exact .inl ⟨w2 rfl, done σ' Fi H' s2 iv⟩
def whileM {β ρ : Type} (c : β → Option Bool) (st : β → Option (Lp β ρ)) : Nat → β → Option (Lp β ρ)
  | 0, _ => none
  | n + 1, b => match c b with
    | none => none
    | some false => some (.nx b)
    | some true => match st b with
      | none => none
      | some (.nx b') => whileM c st n b'
      | some (.bk b') => some (.bk b')
      | some (.rt r) => some (.rt r)
theorem go_while {β ρ : Type} (cn : β → Option Bool) (stp : β → Option (Lp β ρ)) (N : Nat) (b0 : β) {o : Lp β ρ} (Iv : β → L2.St → Hp → Hp → Prop) (Rt : ρ → V → Hp → Prop) (s : SmX X.K F H) (init : Iv b0 σ F H) (ho : whileM cn stp N b0 = some o)
    (kc : ∀ b t, cn b = some t → ∀ σ F H, L2.Same F H → Iv b σ F H → SmX X.K F H ∧ EvT X c σ F H t ∧ ∀ F' H', Gr F H F' H' → Iv b σ F' H')
    (kb : ∀ b o', cn b = some true → stp b = some o' → ∀ σ F H, L2.Same F H → Iv b σ F H → GoS X body (LE Iv Rt F o') σ H)
    (done : match o with | .nx b => ∀ σ F H, L2.Same F H → Iv b σ F H → GoS X rest D σ H | .bk b => ∀ σ F H, L2.Same F H → Iv b σ F H → GoS X rest D σ H | .rt r => ∀ v H, Rt r v H → D.rt v H)
    (hp : PassesOwn (model X.prog X.w) X.A X.env X.xe) : GoS X (.While c body [] pos :: rest) D σ H := by
  refine GoS.cons (ps_while hp pt_go pss_go) ?_
  refine ⟨fun m σ H => ∃ b F, L2.Same F H ∧ Iv b σ F H ∧ whileM cn stp m b = some o, ⟨N, b0, F, s.s, init, ho⟩, ?_⟩
  rintro m σ' H' ⟨b, Fi, s2, iv, hl⟩
  cases m with
  | zero => cases hl
  | succ m =>
    unfold whileM at hl
    cases hc : cn b with
    | none => rw [hc] at hl; cases hl
    | some t =>
      rw [hc] at hl
      obtain ⟨sx, ev, up⟩ := kc b t hc σ' Fi H' s2 iv
      refine ev Fi H' (.refl sx) _ fun F2 H2 g2 => ?_
      cases t with
      | false =>
        rw [if_neg Bool.false_ne_true]
        cases (Option.some.inj hl)
        exact done σ' F2 H2 g2.fh (up F2 H2 g2)
      | true =>
        rw [if_pos rfl]
        cases hst : stp b with
        | none => rw [hst] at hl; cases hl
        | some o' =>
          rw [hst] at hl
          refine ⟨fun σ3 H3 => ∃ b' F', o' = .nx b' ∧ L2.Same F2 F' ∧ L2.Same F' H3 ∧ Iv b' σ3 F' H3, fun σ3 H3 ⟨b', F', e, f1, f2, iv'⟩ => ?_, ?_⟩
          · subst e
            exact ⟨m, Nat.lt_succ_self _, b', F', f2, iv', hl⟩
          · refine (kb b o' hc hst σ' F2 H2 g2.fh (up F2 H2 g2)).mono (fun _ _ h => h) (fun v' H5 ⟨r, e, hr⟩ => ?_) (fun σ5 H5 ⟨b', F5, e, f1, f2, iv'⟩ => ?_) fun _ _ h => h
            · subst e
              cases (Option.some.inj hl)
              exact done v' H5 hr
            · subst e
              cases (Option.some.inj hl)
              exact done σ5 F5 H5 f2 iv'
def sAdd (x y : Str) : Option Str := if x.length + y.length ≤ sizeLine then some (x ++ y) else none
theorem ev_addS {x y r : Str} (ha : Ev X a σ F H x) (hb : Ev X b σ F H y) (h : sAdd x y = some r) : Ev X (.BinOp a .Add b pos) σ F H r := ev_bin op_add_str (fun F H v w Q s rv rw' k => by
  unfold sAdd at h
  split at h
  · rename_i hz
    exact ⟨x, y, rv, rw', hz, k _ F H (.refl s) (congrArg V.str (Option.some.inj h))⟩
  · cases h) ha hb
def sIn (x z : Str) : Option Bool := match x.cps.toList with
  | [c] => some (decide (c ∈ z.cps.toList))
  | _ => none
def sJoin (a : Str) (ys : List Str) : Option Str := if (ys.map (·.length)).sum + ys.length * a.length ≤ 16777216 then some (Txt.join a ys) else none
theorem Rps.strs : ∀ {vs : List V} {ys : List Str}, Rps K F vs ys → vs = ys.map V.str
  | _, _, .nil => rfl
  | _, _, .cons r t => by
    rw [List.map_cons, ← Rps.strs t]
    exact congrArg (· :: _) r
theorem ev_join {x r : Str} {ys : List Str} {apos : Pos} (ho : Ev X a σ F H x) (he : Ev X e σ F H ys) (h : sJoin x ys = some r)
    (hs : starEach [e] X.env = [(false, eval e X.env)] := by rfl) (hbase : attributeBase a "join" X.env (eval a X.env) = eval a X.env := by rfl) (hline : (apos.endLine == pos.line) = true := by rfl) : Ev X (.Call (.Attribute a "join" apos) [e] [] pos) σ F H r := fun F1 H1 g Q q =>
  GoE.of (pe_join pe_go pe_go hs hbase hline) (ho F1 H1 g _ fun v F2 H2 g2 r2 => ⟨⟨x, r2⟩, he F2 H2 (g.trans g2) _ fun w F3 H3 g3 ⟨p, vs, e, sq, rs⟩ => by
    unfold sJoin at h
    split at h
    · rename_i hz
      have e3 := rs.strs
      subst e3
      exact ⟨x, p, ys, r2, by rw [e], .inl (g3.fh.seq sq), hz, q _ F3 H3 (g2.trans g3) (congrArg V.str (Option.some.inj h))⟩
    · cases h⟩)
def sOfI (i : Int) : Option Str := if i.natAbs.log2 < 1920 then some (toString i : String) else none
def iOfS (x : Str) : Option Int := if x.length ≤ 640 then PySem.intText? x else none
def sMul (x : Str) (n : Int) : Option Str := if -(2 ^ 62) < n ∧ n < 2 ^ 62 ∧ x.length * n.toNat ≤ 16777216 then some (Txt.mul x n) else none
end
end Gx
namespace Gx
open PySem PySem.Spec PyProof.Rows L2
open Rp (rp)
open Ra (ra)
open Ob (ob)
section
variable {X : Cx} {K : PySem.W.Frag} {e a b c d : Expr} {es : List Expr} {σ : L2.St} {F H F0 H0 : Hp} {pos : Pos} {D : Ends} {st : Stmt} {rest body : List Stmt}
def compM {α γ : Type} (f : α → Option (Option γ)) : List α → Option (List γ)
  | [] => some []
  | x :: xs => match f x with
    | none => none
    | some none => compM f xs
    | some (some y) => (compM f xs).map (y :: ·)
def compG {α γ : Type} (f : α → Option (Option γ)) (xs : List α) : Option (List γ) := if xs.length ≤ sizeLine then compM f xs else none
abbrev blkX (X : Cx) (scope : Scope) (s : Shared) (H : Hp) (C : Addr) (cl : List (Str × Addr)) (fp : List Addr) : Cx := X.blk s H scope (compEnvC scope cl C X.env) fp
def GoEB (X : Cx) (scope : Scope) (e : Expr) : TE := fun σ H Q => ∀ s H' C cl fp, GoE (blkX X scope s H' C cl fp) e σ H Q
def GoTB (X : Cx) (scope : Scope) (e : Expr) : TT := fun σ H Q => ∀ s H' C cl fp, GoT (blkX X scope s H' C cl fp) e σ H Q
theorem pe_goB {scope : Scope} (s : Shared) (H : Hp) (C : Addr) (cl : List (Str × Addr)) (fp : List Addr) : PE (blkX X scope s H C cl fp) e (GoEB X scope e) := ⟨fun pins s σ H Q I h => (h _ _ _ _ _).o pins s I⟩
theorem pt_goB {scope : Scope} (s : Shared) (H : Hp) (C : Addr) (cl : List (Str × Addr)) (fp : List Addr) : PT (blkX X scope s H C cl fp) e (GoTB X scope e) := ⟨fun pins s σ H Q I h => (h _ _ _ _ _).o pins s I⟩
def CB {γ : Type} [Rp γ] (X : Cx) (scope : Scope) (elt : Expr) (σ2 : L2.St) (F H : Hp) (o : Option γ) : Prop := ∃ y, o = some y ∧ ∀ s H' C cl fp, Ev (blkX X scope s H' C cl fp) elt σ2 F H y
def CBi {γ : Type} [Rp γ] (X : Cx) (scope : Scope) (tst elt : Expr) (σ2 : L2.St) (F H : Hp) (o : Option γ) : Prop := ∃ b, (∀ s H' C cl fp, EvT (blkX X scope s H' C cl fp) tst σ2 F H b) ∧ (b = true → CB X scope elt σ2 F H o) ∧ (b = false → o = none)
theorem comp_core {α γ : Type} [Rp α] [Rp γ] {tg iter elt : Expr} {scope : Scope} {g : TG} {tt : TT} {vs : List Nat} {xs : List α} {ys : List γ} {f : α → Option (Option γ)} (hi : EvI X tg iter σ F H xs) (hr : compG f xs = some ys)
    (step : ∀ x o, f x = some o → ∀ F' H' v, GrX X.K F H F' H' → rp X.K F' v x → ∀ Q : L2.St → Hp → Prop, (∀ σ2, wipe σ2 vs = wipe σ vs → (∀ R : Bool → Hp → Prop, (∀ F2 H2, Gr F' H' F2 H2 → o = none → R false H2) → (∀ F2 H2, Gr F' H' F2 H2 → CB X scope elt σ2 F2 H2 o → R true H2) → tt σ2 H' R) → Q σ2 H') → g v (wipe σ vs) H' Q)
    {F1 H1 : Hp} (g1 : GrX X.K F H F1 H1) {Q : VK} (q : ∀ l o F2 H2, Gr F1 H1 F2 H2 → H1 l = none → F2 l = none → H2 l = some o → ob X.K F2 o ys → Q (.ref l) H2) : tLc (GoI X tg iter) g tt (GoEB X scope elt) vs σ H1 Q := by
  unfold compG at hr
  split at hr
  case isFalse => cases hr
  rename_i hz
  refine hi F1 H1 g1 _ fun J F2 H2 g2 wk L hL => ?_
  refine ⟨fun i m H => m = xs.length - i ∧ i ≤ xs.length ∧ ∃ Fi acc zs ws, Gr F2 H2 Fi H ∧ Fi L = none ∧ H L = some (.lst acc) ∧ Rps X.K Fi acc zs ∧ acc.length ≤ i ∧ compM f (xs.drop i) = some ws ∧ zs ++ ws = ys,
    ⟨_, rfl, Nat.zero_le _, F2, [], [], ys, Gr.newP g2.fh hL trivial, g2.fh.free hL, upd_same, .nil, Nat.le_refl _, hr, rfl⟩, ?_⟩
  rintro i m Hi ⟨rfl, hle, Fi, acc, zs, ws, gi, fL, hLi, rs, hacc, hcm, hys⟩
  obtain ⟨w1, w2⟩ := wk i Fi Hi gi.ff gi.fh
  rcases Nat.lt_or_ge i xs.length with hlt | hge
  · obtain ⟨x, hx⟩ : ∃ x, xs[i]? = some x := ⟨xs[i], List.getElem?_eq_getElem hlt⟩
    obtain ⟨hgo, hy⟩ := w1 x hx
    have ed : xs.drop i = x :: xs.drop (i + 1) := by
      rw [List.drop_eq_getElem_cons hlt]
      rw [List.getElem?_eq_getElem hlt] at hx
      rw [Option.some.inj hx]
    rw [ed] at hcm
    unfold compM at hcm
    cases hf : f x with
    | none => rw [hf] at hcm; cases hcm
    | some o =>
      rw [hf] at hcm
      refine .inr ⟨hgo, fun H' => ∃ F' acc' zs' ws', Gr F2 H2 F' H' ∧ F' L = none ∧ H' L = some (.lst acc') ∧ Rps X.K F' acc' zs' ∧ acc'.length ≤ i + 1 ∧ compM f (xs.drop (i + 1)) = some ws' ∧ zs' ++ ws' = ys,
        fun H' ⟨F', acc', zs', ws', h1, h2, h3, h4, h5, h6, h7⟩ => ⟨xs.length - (i + 1), by omega, rfl, hlt, F', acc', zs', ws', h1, h2, h3, h4, h5, h6, h7⟩, fun v H3 hv => ?_⟩
      obtain ⟨F3, g3, rv⟩ := hy v H3 hv
      refine step x o hf F3 H3 v ((g1.trans g2).trans (gi.trans g3)) rv _ fun σ2 ew ht => ⟨ew, ht _ (fun F4 H4 g4 eo => ?_) fun F4 H4 g4 ⟨y, eo, hev⟩ => ?_⟩
      · rw [if_neg Bool.false_ne_true]
        subst eo
        exact ⟨F4, acc, zs, ws, gi.trans (g3.trans g4), (g4.fr L _ (g3.hh.k _ _ hLi trivial) trivial).trans ((g3.fr L _ hLi trivial).trans fL), g4.hh.k _ _ (g3.hh.k _ _ hLi trivial) trivial, rs.mono (g3.ff.trans g4.ff), Nat.le_succ_of_le hacc, hcm, hys⟩
      · rw [if_pos rfl]
        subst eo
        obtain ⟨ws', hw, ew'⟩ := Option.map_eq_some_iff.mp hcm
        refine fun s H' C cl fp => hev s H' C cl fp F4 H4 (.refl (((g1.trans g2).trans (gi.trans g3)).trans g4).sm) _ fun u F5 H5 g5 ru => ?_
        have gg : Gr Fi Hi F5 H5 := (g3.trans g4).trans g5
        have f5 : F5 L = none := (gg.fr L _ hLi trivial).trans fL
        have h5 : H5 L = some (.lst acc) := gg.hh.k _ _ hLi trivial
        refine ⟨acc, h5, by omega, F5, acc ++ [u], zs ++ [y], ws', (gi.trans gg).poke hL f5 ⟨_, h5, trivial⟩ trivial, f5, upd_same, Rps.append (rs.mono gg.ff) (.cons ru .nil), by rw [List.length_append]; simp; omega, hw, ?_⟩
        rw [List.append_assoc]
        show zs ++ (y :: ws') = ys
        rw [ew']; exact hys
  · have e : i = xs.length := by omega
    subst e
    rw [List.drop_length] at hcm
    have ew : ws = [] := (Option.some.inj hcm).symm
    subst ew
    rw [List.append_nil] at hys
    subst hys
    refine .inl ⟨w2 rfl, q L (.lst acc) Fi Hi (g2.trans gi) (g2.hh.free hL) fL hLi (ob_lst rs)⟩
theorem en_comp {α γ : Type} [Rp α] [Rp γ] {tg iter elt : Expr} {scope : Scope} {g : TG} {own : List (Str × Nat)} {xs : List α} {ys : List γ} {f : α → Option (Option γ)} (hN : X.N.Nodup) (hi : EvI X tg iter σ F H xs) (hr : compG f xs = some ys) (ok : BlkOk X.N X.env.scope scope own)
    (hg : ∀ (s : Shared) (H : Hp) (C : Addr) (cl : List (Str × Addr)) (fp : List Addr), PG (blkX X scope s H C cl fp) tg g)
    (step : ∀ x o, f x = some o → ∀ F' H' v, GrX X.K F H F' H' → rp X.K F' v x → ∀ Q : L2.St → Hp → Prop, (∀ σ2, wipe σ2 (own.map (·.2)) = wipe σ (own.map (·.2)) → CB X scope elt σ2 F' H' o → Q σ2 H') → g v (wipe σ (own.map (·.2))) H' Q)
    (hc : X.calm = true := by rfl) (hs : ∀ x, foldedSetIterable iter X.env x = pure x := by intro _; rfl) : EvN X (.ListComp elt [⟨tg, iter, [], 0⟩] scope pos) σ F H ys := fun F1 H1 g1 Q q =>
  GoE.of (pe_lc hc hN pi_go ok hg (fun _ _ _ _ _ => pts_nil) pe_goB hs) (comp_core hi hr (fun x o hf F' H' v gr rv Q' k => step x o hf F' H' v gr rv Q' fun σ2 ew cb => k σ2 ew fun R _ r1 => r1 F' H' (.refl gr.fh) cb) g1 q)
theorem CB.up {γ : Type} [Rp γ] {scope : Scope} {elt : Expr} {σ2 : L2.St} {F' H' : Hp} {o : Option γ} (h : CB X scope elt σ2 F H o) (g : Gr F H F' H') : CB X scope elt σ2 F' H' o := by
  obtain ⟨y, e, h⟩ := h
  exact ⟨y, e, fun s H' C cl fp => (h s H' C cl fp).up g⟩
theorem en_compi {α γ : Type} [Rp α] [Rp γ] {tg iter elt tst : Expr} {scope : Scope} {g : TG} {own : List (Str × Nat)} {xs : List α} {ys : List γ} {f : α → Option (Option γ)} (hN : X.N.Nodup) (hi : EvI X tg iter σ F H xs) (hr : compG f xs = some ys) (ok : BlkOk X.N X.env.scope scope own)
    (hg : ∀ (s : Shared) (H : Hp) (C : Addr) (cl : List (Str × Addr)) (fp : List Addr), PG (blkX X scope s H C cl fp) tg g)
    (step : ∀ x o, f x = some o → ∀ F' H' v, GrX X.K F H F' H' → rp X.K F' v x → ∀ Q : L2.St → Hp → Prop, (∀ σ2, wipe σ2 (own.map (·.2)) = wipe σ (own.map (·.2)) → CBi X scope tst elt σ2 F' H' o → Q σ2 H') → g v (wipe σ (own.map (·.2))) H' Q)
    (hc : X.calm = true := by rfl) (hs : ∀ x, foldedSetIterable iter X.env x = pure x := by intro _; rfl) : EvN X (.ListComp elt [⟨tg, iter, [tst], 0⟩] scope pos) σ F H ys := fun F1 H1 g1 Q q =>
  GoE.of (pe_lc hc hN pi_go ok hg (fun s H C cl fp => pts_one (pt_goB s H C cl fp)) pe_goB hs) (comp_core hi hr (fun x o hf F' H' v gr rv Q' k => step x o hf F' H' v gr rv Q' fun σ2 ew ⟨b, ht, h1, h2⟩ => k σ2 ew fun R r0 r1 s Hb C cl fp => ht s Hb C cl fp F' H' (.refl gr.sm) R fun F2 H2 g2 => by
    cases b with
    | true => exact r1 F2 H2 g2 ((h1 rfl).up g2)
    | false => exact r0 F2 H2 g2 (h2 rfl)) g1 q)
theorem fn_ok {P : Program} {w : World} {mg : Str → Option Value} {base : Heap} {τ ρ : Type} [Ra τ] [RaN τ] [Rp ρ] {f : τ → Option ρ} {x qual : Str} {s0 : Stmt} {fa : Addr} {fd : FuncData} {N ps : List Str} {k : Nat} (Fn : FunD K x qual (defArgs s0) (defBody s0) (defScope s0) [] [] fa fd) (S : FnScope N ps (defScope s0)) (hn : RaN.n τ = ps.length)
    (hbody : ∀ (cdv : Value) (A : Around) (outer : List Env) (s : Shared) (F H : Hp) (vs : List V) (a : τ) (r : ρ) (D : Ends) (E : XK), Room k (A.deeper (envOfC qual (defScope s0) s.heap.objs.size fa cdv)) → SmX K F H → ra K F vs a → f a = some r → (∀ F' H' u, GrX K F H F' H' → rp K F' u r → D.rt u H') →
      (∀ σ' F' H', GrX K F H F' H' → rp K F' .non r → D.nx σ' H') → GoS (cxOf CX0 P w K mg base N qual (defScope s0) fa cdv A outer s H E).nox (defBody s0) D (start N vs) H) :
    FnOk P w K mg base CX0 (k + 1) fa fd ps (Pr K f) := by
  refine Fn.ok S (fun vs H Q E ⟨F, a, r, _, ra', _⟩ => by rw [RaN.len ra', hn]) fun cdv A outer s H vs Q E hr ⟨F, a, r, sm, ra', hf, k⟩ => ?_
  refine ⟨_, PSs.nox pss_go, hbody cdv A outer s F H vs a r { nx := fun _ H' => Q .non H', rt := Q } E hr sm ra' hf (fun F' H' u g q => k F' H' u g.toGr q) fun σ' F' H' g q => k F' H' .non g.toGr q⟩
end
end Gx
namespace Gx
open PySem PySem.Spec PyProof.Rows L2
open Rp (rp)
open Ra (ra)
open Ob (ob)
theorem cg {α : Type} [Rp α] {K : PySem.W.Frag} {F : Hp} {v : V} {x y : α} (e : x = y) (h : rp K F v x) : rp K F v y := e ▸ h
theorem nt {b : Bool} (h : b = false) : ¬ b = true := by rw [h]; exact Bool.false_ne_true
def Lp.thn {β ρ γ : Type} (o : Lp β ρ) (f : β → Option γ) (g : ρ → Option γ) : Option γ := match o with
  | .nx b => f b
  | .bk b => f b
  | .rt r => g r
def loopN {α β : Type} (st : β → α → Option β) : β → List α → Option β
  | b, [] => some b
  | b, x :: xs => match st b x with
    | none => none
    | some b' => loopN st b' xs
theorem loopN_M {α β : Type} (st : β → α → Option β) : ∀ (xs : List α) (b : β), loopM (ρ := Unit) (fun b x => (st b x).map Lp.nx) b xs = (loopN st b xs).map Lp.nx
  | [], b => rfl
  | x :: xs, b => by
    unfold loopM loopN
    cases st b x with
    | none => rfl
    | some b' => exact loopN_M st xs b'
def whileN {β : Type} (c : β → Option Bool) (st : β → Option β) : Nat → β → Option β
  | 0, _ => none
  | n + 1, b => match c b with
    | none => none
    | some false => some b
    | some true => match st b with
      | none => none
      | some b' => whileN c st n b'
theorem whileN_M {β : Type} (c : β → Option Bool) (st : β → Option β) : ∀ (n : Nat) (b : β), whileM (ρ := Unit) c (fun b => (st b).map Lp.nx) n b = (whileN c st n b).map Lp.nx
  | 0, b => rfl
  | n + 1, b => by
    unfold whileM whileN
    cases c b with
    | none => rfl
    | some t =>
      cases t with
      | false => rfl
      | true =>
        dsimp only
        cases st b with
        | none => rfl
        | some b' => exact whileN_M c st n b'
section
variable {X : Cx} {K : PySem.W.Frag} {e a b c d : Expr} {es : List Expr} {σ : L2.St} {F H F0 H0 : Hp} {pos : Pos} {D : Ends} {st : Stmt} {rest body : List Stmt}
theorem go_forM {α β ρ γ : Type} [Rp α] {tg iter : Expr} {g : TG} {xs : List α} {stp : β → α → Option (Lp β ρ)} {b0 : β} {o : Lp β ρ} {f1 : β → Option γ} {f2 : ρ → Option γ} {r : γ} (s : SmX X.K F H) (hi : EvI X tg iter σ F H xs) (hg : PG X tg g) (ho : loopM stp b0 xs = some o) (hm : o.thn f1 f2 = some r)
    (k : ∀ F2 H2, Gr F H F2 H2 → ∃ (Iv : β → L2.St → Hp → Hp → Prop) (Rt : ρ → V → Hp → Prop), Iv b0 σ F2 H2 ∧
      (∀ b x o', stp b x = some o' → ∀ σ F H v, L2.Same F2 F → L2.Same F H → Iv b σ F H → ∀ F' H', Gr F H F' H' → rp X.K F' v x → ∀ Q : L2.St → Hp → Prop, (∀ σ' H'', GoS X body (LE Iv Rt F o') σ' H'' → Q σ' H'') → g v σ H' Q) ∧
      (∀ b, f1 b = some r → ∀ σ F H, L2.Same F2 F → L2.Same F H → Iv b σ F H → GoS X rest D σ H) ∧ (∀ x, f2 x = some r → ∀ v H, Rt x v H → D.rt v H))
    (hp : PassesOwn (model X.prog X.w) X.A X.env X.xe) (hc : X.calm = true := by rfl) (hs : ∀ x, foldedSetIterable iter X.env x = pure x := by intro _; rfl) : GoS X (.For tg iter body [] pos :: rest) D σ H :=
  go_for xs stp b0 s hi hg ho (fun F2 H2 g2 => by
    obtain ⟨Iv, Rt, i0, st, d1, d2⟩ := k F2 H2 g2
    refine ⟨fun b σ F H => L2.Same F2 F ∧ Iv b σ F H, Rt, ⟨.refl _, i0⟩, fun b x o' e σ F H v s1 s2 ⟨_, iv⟩ F' H' gr rv Q q => st b x o' e σ F H v s1 s2 iv F' H' gr rv Q fun σ' H'' go => q σ' H'' (go.mono ?_ (fun _ _ h => h) ?_ ?_), ?_⟩
    · exact fun σ3 H3 ⟨b', F3, e, f1, f2, iv⟩ => ⟨b', F3, e, f1, f2, s1.trans f1, iv⟩
    · exact fun σ3 H3 ⟨b', F3, e, f1, f2, iv⟩ => ⟨b', F3, e, f1, f2, s1.trans f1, iv⟩
    · exact fun σ3 H3 ⟨b', F3, e, f1, f2, iv⟩ => ⟨b', F3, e, f1, f2, s1.trans f1, iv⟩
    · cases o with
      | nx b => exact fun σ F H s1 ⟨s0, iv⟩ => d1 b hm σ F H s0 s1 iv
      | bk b => exact fun σ F H s1 ⟨s0, iv⟩ => d1 b hm σ F H s0 s1 iv
      | rt x => exact d2 x hm) hp hc hs
theorem go_forN {α β : Type} [Rp α] {tg iter : Expr} {g : TG} {xs : List α} {stp : β → α → Option β} {b0 b1 : β} (s : SmX X.K F H) (hi : EvI X tg iter σ F H xs) (hg : PG X tg g) (ho : loopN stp b0 xs = some b1)
    (k : ∀ F2 H2, Gr F H F2 H2 → ∃ (Iv : β → L2.St → Hp → Hp → Prop), Iv b0 σ F2 H2 ∧
      (∀ b x b', stp b x = some b' → ∀ σ F H v, L2.Same F2 F → L2.Same F H → Iv b σ F H → ∀ F' H', Gr F H F' H' → rp X.K F' v x → ∀ Q : L2.St → Hp → Prop, (∀ σ' H'', GoS X body { nx := fun σ3 H3 => ∃ F3, L2.Same F F3 ∧ L2.Same F3 H3 ∧ Iv b' σ3 F3 H3, ct := fun σ3 H3 => ∃ F3, L2.Same F F3 ∧ L2.Same F3 H3 ∧ Iv b' σ3 F3 H3, bk := fun _ _ => False, rt := fun _ _ => False } σ' H'' → Q σ' H'') → g v σ H' Q) ∧
      (∀ σ F H, L2.Same F2 F → L2.Same F H → Iv b1 σ F H → GoS X rest D σ H))
    (hp : PassesOwn (model X.prog X.w) X.A X.env X.xe) (hc : X.calm = true := by rfl) (hs : ∀ x, foldedSetIterable iter X.env x = pure x := by intro _; rfl) : GoS X (.For tg iter body [] pos :: rest) D σ H := by
  have ho' : loopM (ρ := Unit) (fun b x => (stp b x).map Lp.nx) b0 xs = some (.nx b1) := by rw [loopN_M, ho]; rfl
  refine go_forM (f1 := fun b => some b) (f2 := fun _ => none) (r := b1) s hi hg ho' rfl (fun F2 H2 g2 => ?_) hp hc hs
  obtain ⟨Iv, i0, st, d1⟩ := k F2 H2 g2
  refine ⟨Iv, fun _ _ _ => False, i0, fun b x o' e σ F H v s1 s2 iv F' H' gr rv Q q => ?_, fun b e => by cases (Option.some.inj e); exact d1, fun _ e => nomatch e⟩
  obtain ⟨b', eb, rfl⟩ := Option.map_eq_some_iff.mp e
  exact st b x b' eb σ F H v s1 s2 iv F' H' gr rv Q fun σ' H'' go => q σ' H'' (go.mono (fun σ3 H3 ⟨F3, f1, f2, iv⟩ => ⟨b', F3, rfl, f1, f2, iv⟩) (fun _ _ h => h.elim) (fun _ _ h => h.elim) fun σ3 H3 ⟨F3, f1, f2, iv⟩ => ⟨b', F3, rfl, f1, f2, iv⟩)
theorem go_whileM {β ρ γ : Type} {cn : β → Option Bool} {stp : β → Option (Lp β ρ)} {N : Nat} {b0 : β} {o : Lp β ρ} {f1 : β → Option γ} {f2 : ρ → Option γ} {r : γ} (Iv : β → L2.St → Hp → Hp → Prop) (Rt : ρ → V → Hp → Prop) (s : SmX X.K F H) (init : Iv b0 σ F H) (ho : whileM cn stp N b0 = some o) (hm : o.thn f1 f2 = some r)
    (kc : ∀ b t, cn b = some t → ∀ σ F1 H, L2.Same F F1 → L2.Same F1 H → Iv b σ F1 H → SmX X.K F1 H ∧ EvT X c σ F1 H t ∧ ∀ F' H', Gr F1 H F' H' → Iv b σ F' H')
    (kb : ∀ b o', stp b = some o' → ∀ σ F1 H, L2.Same F F1 → L2.Same F1 H → Iv b σ F1 H → GoS X body (LE Iv Rt F1 o') σ H)
    (d1 : ∀ b, f1 b = some r → ∀ σ F1 H, L2.Same F F1 → L2.Same F1 H → Iv b σ F1 H → GoS X rest D σ H) (d2 : ∀ x, f2 x = some r → ∀ v H, Rt x v H → D.rt v H)
    (hp : PassesOwn (model X.prog X.w) X.A X.env X.xe) : GoS X (.While c body [] pos :: rest) D σ H := by
  refine go_while cn stp N b0 (fun b σ F1 H => L2.Same F F1 ∧ Iv b σ F1 H) Rt s ⟨.refl _, init⟩ ho (fun b t e σ F1 H s2 ⟨s1, iv⟩ => ?_) (fun b o' _ e σ F1 H s2 ⟨s1, iv⟩ => (kb b o' e σ F1 H s1 s2 iv).mono ?_ (fun _ _ h => h) ?_ ?_) ?_ hp
  · obtain ⟨h0, h1, h2⟩ := kc b t e σ F1 H s1 s2 iv
    exact ⟨h0, h1, fun F' H' g => ⟨s1.trans g.ff, h2 F' H' g⟩⟩
  · exact fun σ3 H3 ⟨b', F3, e, f1, f2, iv⟩ => ⟨b', F3, e, f1, f2, s1.trans f1, iv⟩
  · exact fun σ3 H3 ⟨b', F3, e, f1, f2, iv⟩ => ⟨b', F3, e, f1, f2, s1.trans f1, iv⟩
  · exact fun σ3 H3 ⟨b', F3, e, f1, f2, iv⟩ => ⟨b', F3, e, f1, f2, s1.trans f1, iv⟩
  · cases o with
    | nx b => exact fun σ F H s1 ⟨s0, iv⟩ => d1 b hm σ F H s0 s1 iv
    | bk b => exact fun σ F H s1 ⟨s0, iv⟩ => d1 b hm σ F H s0 s1 iv
    | rt x => exact d2 x hm
theorem go_whileN {β : Type} {cn : β → Option Bool} {stp : β → Option β} {N : Nat} {b0 b1 : β} (Iv : β → L2.St → Hp → Hp → Prop) (s : SmX X.K F H) (init : Iv b0 σ F H) (ho : whileN cn stp N b0 = some b1)
    (kc : ∀ b t, cn b = some t → ∀ σ F1 H, L2.Same F F1 → L2.Same F1 H → Iv b σ F1 H → SmX X.K F1 H ∧ EvT X c σ F1 H t ∧ ∀ F' H', Gr F1 H F' H' → Iv b σ F' H')
    (kb : ∀ b b', stp b = some b' → ∀ σ F1 H, L2.Same F F1 → L2.Same F1 H → Iv b σ F1 H → GoS X body { nx := fun σ3 H3 => ∃ F3, L2.Same F1 F3 ∧ L2.Same F3 H3 ∧ Iv b' σ3 F3 H3, ct := fun σ3 H3 => ∃ F3, L2.Same F1 F3 ∧ L2.Same F3 H3 ∧ Iv b' σ3 F3 H3, bk := fun _ _ => False, rt := fun _ _ => False } σ H)
    (d1 : ∀ σ F1 H, L2.Same F F1 → L2.Same F1 H → Iv b1 σ F1 H → GoS X rest D σ H) (hp : PassesOwn (model X.prog X.w) X.A X.env X.xe) : GoS X (.While c body [] pos :: rest) D σ H := by
  have ho' : whileM (ρ := Unit) cn (fun b => (stp b).map Lp.nx) N b0 = some (.nx b1) := by rw [whileN_M, ho]; rfl
  refine go_whileM (f1 := fun b => some b) (f2 := fun _ => none) (r := b1) Iv (fun _ _ _ => False) s init ho' rfl kc (fun b o' e σ F1 H s1 s2 iv => ?_) (fun b e => by cases (Option.some.inj e); exact d1) (fun _ e => nomatch e) hp
  obtain ⟨b', eb, rfl⟩ := Option.map_eq_some_iff.mp e
  exact (kb b b' eb σ F1 H s1 s2 iv).mono (fun σ3 H3 ⟨F3, f1, f2, iv⟩ => ⟨b', F3, rfl, f1, f2, iv⟩) (fun _ _ h => h.elim) (fun _ _ h => h.elim) fun σ3 H3 ⟨F3, f1, f2, iv⟩ => ⟨b', F3, rfl, f1, f2, iv⟩
def er (F : Hp) (l : Addr) : Hp := fun a => if a = l then none else F a
class Flat (α : Type) [Rp α] : Prop where
  fl : ∀ {K : PySem.W.Frag} {F : Hp} {l : Addr} {v : V} {x : α}, (∀ xs, ¬ F l = some (.tup xs)) → (∀ o xs, ¬ F l = some (.frz o (.tup xs))) → rp K F v x → rp K (er F l) v x
instance : Flat Int := ⟨fun _ _ h => h⟩
instance : Flat Bool := ⟨fun _ _ h => h⟩
instance : Flat Str := ⟨fun _ _ h => h⟩
instance : Flat Unit := ⟨fun _ _ h => h⟩
theorem er_seqT {F : Hp} {l a : Addr} {xs : List V} (h1 : ∀ xs, ¬ F l = some (.tup xs)) (h2 : ∀ o xs, ¬ F l = some (.frz o (.tup xs))) (h : TupF F a xs) : TupF (er F l) a xs := by
  unfold TupF er
  rw [if_neg (show ¬ a = l from fun e => h1 xs (e ▸ h))]; exact h
instance {α : Type} [Rp α] [NN α] [Flat α] : Flat (Option α) := ⟨fun {K F l v x} h1 h2 h => by
  cases x with
  | none => exact h
  | some x => exact Flat.fl (α := α) h1 h2 h⟩
theorem Rps.fl {α : Type} [Rp α] [Flat α] {F : Hp} {l : Addr} {vs : List V} {xs : List α} (h1 : ∀ xs, ¬ F l = some (.tup xs)) (h2 : ∀ o xs, ¬ F l = some (.frz o (.tup xs))) (h : Rps K F vs xs) : Rps K (er F l) vs xs := L2.Paired.mapP h fun _ _ => Flat.fl h1 h2
instance {α : Type} [Rp α] [Flat α] : Flat (Tp α) := ⟨fun h1 h2 ⟨a, vs, e, q, r⟩ => ⟨a, vs, e, er_seqT h1 h2 q, Rps.fl h1 h2 r⟩⟩
class FlatR (τ : Type) [Ra τ] : Prop where
  fl : ∀ {K : PySem.W.Frag} {F : Hp} {l : Addr} {v : List V} {x : τ}, (∀ xs, ¬ F l = some (.tup xs)) → (∀ o xs, ¬ F l = some (.frz o (.tup xs))) → ra K F v x → ra K (er F l) v x
instance : FlatR Unit := ⟨fun _ _ h => h⟩
instance {α τ : Type} [Rp α] [Ra τ] [Flat α] [FlatR τ] : FlatR (α × τ) := ⟨fun h1 h2 ⟨v, r, e, p, q⟩ => ⟨v, r, e, Flat.fl h1 h2 p, FlatR.fl h1 h2 q⟩⟩
theorem rpT.fl {θ τ : Type} [Ra τ] [FlatR τ] {row : θ → τ} {F : Hp} {l : Addr} {v : V} {x : θ} (h1 : ∀ xs, ¬ F l = some (.tup xs)) (h2 : ∀ o xs, ¬ F l = some (.frz o (.tup xs))) : rpT row K F v x → rpT row K (er F l) v x := fun ⟨a, vs, e, q, r⟩ => ⟨a, vs, e, er_seqT h1 h2 q, FlatR.fl h1 h2 r⟩
instance {α : Type} [Rp α] [Flat α] : Flat (T1 α) := ⟨rpT.fl⟩
instance {α β : Type} [Rp α] [Rp β] [Flat α] [Flat β] : Flat (T2 α β) := ⟨rpT.fl⟩
instance {α β γ : Type} [Rp α] [Rp β] [Rp γ] [Flat α] [Flat β] [Flat γ] : Flat (T3 α β γ) := ⟨rpT.fl⟩
instance {α β γ δ : Type} [Rp α] [Rp β] [Rp γ] [Rp δ] [Flat α] [Flat β] [Flat γ] [Flat δ] : Flat (T4 α β γ δ) := ⟨rpT.fl⟩
instance {α β γ δ ε : Type} [Rp α] [Rp β] [Rp γ] [Rp δ] [Rp ε] [Flat α] [Flat β] [Flat γ] [Flat δ] [Flat ε] : Flat (T5 α β γ δ ε) := ⟨rpT.fl⟩
theorem GdT.back {l P : Addr} {u : HO} (a : GdT (L2.upd H l u) P) (h : PlAt H l) (pu : pln u) : GdT H P := by
  obtain ⟨o, ho, po⟩ := h
  have e : L2.upd (L2.upd H l u) l o = H := by
    rw [upd_upd]; funext b
    by_cases hb : b = l
    · rw [hb, upd_same, ho]
    · exact upd_ne hb
  rw [← e]
  exact a.upd ⟨u, upd_same, pu⟩ po.ntb
theorem Gr.show_ {F H F1 H1 : Hp} {l : Addr} {o u : HO} (hl : H l = some o) (fl : F l = none) (no : lstish o) (po : pln o) (g : Gr F H F1 H1) (pu : pln u := by trivial) : Gr (upd F l u) (L2.upd H l u) (upd F1 l u) (upd H1 l u) ∧ F1 l = none ∧ H1 l = some o := by
  have f1 : F1 l = none := (g.fr l _ hl no).trans fl
  have hl1 := g.hh.k _ _ hl po.ntb
  refine ⟨⟨fun b v e => ?_, fun b v e => ?_, ⟨fun b v e n => ?_, fun b ps e => ?_, fun P a => (g.hh.w P (a.back ⟨o, hl, po⟩ pu)).upd ⟨o, hl1, po⟩ pu.ntb⟩, fun a v h n => ?_⟩, f1, hl1⟩
  · by_cases hb : b = l
    · subst hb; rw [upd_same] at e ⊢; exact e
    · rw [upd_ne hb] at e ⊢; exact g.ff _ _ e
  · by_cases hb : b = l
    · subst hb; rw [upd_same] at e ⊢; exact e
    · rw [upd_ne hb] at e ⊢; exact g.fh _ _ e
  · by_cases hb : b = l
    · subst hb; rw [upd_same] at e ⊢; exact e
    · rw [upd_ne hb] at e ⊢; exact g.hh.k _ _ e n
  · by_cases hb : b = l
    · subst hb; rw [upd_same] at e ⊢; exact ⟨_, e⟩
    · rw [upd_ne hb] at e ⊢; exact g.hh.t _ _ e
  · by_cases hb : a = l
    · subst hb; rw [upd_same, upd_same]
    · rw [upd_ne hb] at h ⊢; rw [upd_ne hb]; exact g.fr a v h n
theorem GrX.show_ {F H F1 H1 : Hp} {l : Addr} {o u : HO} (hl : H l = some o) (fl : F l = none) (no : lstish o) (po : pln o) (g : GrX K F H F1 H1) (pu : pln u := by trivial) : GrX K (upd F l u) (upd H l u) (upd F1 l u) (upd H1 l u) ∧ F1 l = none ∧ H1 l = some o := by
  obtain ⟨g1, f1, h1⟩ := g.toGr.show_ (u := u) hl fl no po pu
  exact ⟨⟨g1, (g.h.upd ⟨o, h1, po⟩ pu.ntb).2⟩, f1, h1⟩
theorem Gr.hide {F1 H1 F2 H2 : Hp} {l : Addr} {o u : HO} (hl : H1 l = some o) (f1 : F1 l = none) (po : pln o) (g : Gr (upd F1 l u) (upd H1 l u) F2 H2) (pu : pln u := by trivial) : Gr F1 H1 (er F2 l) (upd H2 l o) := by
  have h2 : H2 l = some u := g.hh.k _ _ upd_same pu.ntb
  refine ⟨fun b v e => ?_, fun b v e => ?_, ⟨fun b v e n => ?_, fun b ps e => ?_, fun P a => (g.hh.w P (a.upd ⟨o, hl, po⟩ pu.ntb)).upd ⟨u, h2, pu⟩ po.ntb⟩, fun a v h n => ?_⟩
  · have hb : b ≠ l := ne_of_none e f1
    unfold er
    rw [if_neg hb]
    exact g.ff b v (by rw [upd_ne hb]; exact e)
  · unfold er at e
    split at e
    · cases e
    · rename_i hb
      rw [upd_ne hb]; exact g.fh b v e
  · by_cases hb : b = l
    · subst hb; rw [upd_same, ← hl]; exact e
    · rw [upd_ne hb]; exact g.hh.k b v (by rw [upd_ne hb]; exact e) n
  · by_cases hb : b = l
    · subst hb; rw [hl] at e; cases e; exact po.elim
    · rw [upd_ne hb]; exact g.hh.t b ps (by rw [upd_ne hb]; exact e)
  · unfold er
    by_cases hb : a = l
    · rw [if_pos hb, hb, f1]
    · rw [if_neg hb, g.fr a v (by rw [upd_ne hb]; exact h) n, upd_ne hb]
theorem frz_no {F : Hp} {l : Addr} {od : Obj} {o : HO} (e : F l = some (.frz od o)) (no : lstish o) : (∀ xs, ¬ F l = some (.tup xs)) ∧ (∀ (o' : Obj) (xs : List V), ¬ F l = some (.frz o' (.tup xs))) :=
  ⟨fun xs h => (by rw [e] at h; cases h), fun o' xs h => (by rw [e] at h; cases h; exact no)⟩
theorem shown {F H : Hp} {l : Addr} {u : HO} (s : L2.Same F H) : L2.Same (upd F l u) (upd H l u) := fun b v e => by
  by_cases hb : b = l
  · subst hb; rw [upd_same] at e ⊢; exact e
  · rw [upd_ne hb] at e ⊢; exact s _ _ e
theorem ev_thaw {α β : Type} [Rp α] [Flat α] [Rp β] [Ob β] {x : α} {y : β} {l : Addr} (o : Own X.K H0 F H l y) (s : L2.Same F H) (h : ∀ F' H', L2.Same F F' → L2.Same F' H' → rp X.K F' (.ref l) y → (∀ a, a ≠ l → F' a = F a ∧ H' a = H a) → Ev X e σ F' H' x) : Ev X e σ F H x := fun F1 H1 g Q q => by
  obtain ⟨u, hl, r⟩ := o.h
  have hl1 := g.hh.k _ _ hl (Ob.pl r).ntb
  refine GoE.locked hl1 (Ob.mu r) fun od => ?_
  obtain ⟨g1, f1, h1⟩ := GrX.show_ (u := .frz od u) hl o.f (Ob.ls r) (Ob.pl r) g
  refine h _ _ (same_upd o.f) (shown s) (Ob.fz upd_same (Ob.mono (same_upd o.f) r)) (fun a ha => ⟨upd_ne ha, upd_ne ha⟩) _ _ g1 _ fun v F2 H2 g2 r2 => ?_
  have e2 : F2 l = some (.frz od u) := g2.ff _ _ upd_same
  obtain ⟨n1, n2⟩ := frz_no e2 (Ob.ls r)
  exact ⟨g2.fh _ _ e2, q v (er F2 l) _ (Gr.hide h1 f1 (Ob.pl r) g2) (Flat.fl n1 n2 r2)⟩
theorem et_thaw {β : Type} [Rp β] [Ob β] {x : Bool} {y : β} {l : Addr} (o : Own X.K H0 F H l y) (s : L2.Same F H) (h : ∀ F' H', L2.Same F F' → L2.Same F' H' → rp X.K F' (.ref l) y → (∀ a, a ≠ l → F' a = F a ∧ H' a = H a) → EvT X e σ F' H' x) : EvT X e σ F H x := fun F1 H1 g Q q => by
  obtain ⟨u, hl, r⟩ := o.h
  have hl1 := g.hh.k _ _ hl (Ob.pl r).ntb
  refine GoT.locked hl1 (Ob.mu r) fun od => ?_
  obtain ⟨g1, f1, h1⟩ := GrX.show_ (u := .frz od u) hl o.f (Ob.ls r) (Ob.pl r) g
  refine h _ _ (same_upd o.f) (shown s) (Ob.fz upd_same (Ob.mono (same_upd o.f) r)) (fun a ha => ⟨upd_ne ha, upd_ne ha⟩) _ _ g1 _ fun F2 H2 g2 => ?_
  have e2 : F2 l = some (.frz od u) := g2.ff _ _ upd_same
  exact ⟨g2.fh _ _ e2, q (er F2 l) _ (Gr.hide h1 f1 (Ob.pl r) g2)⟩
class FlatO (α : Type) [Rp α] [Ob α] : Prop where
  fl : ∀ {K : PySem.W.Frag} {F : Hp} {l : Addr} {o : HO} {x : α}, (∀ xs, ¬ F l = some (.tup xs)) → (∀ o xs, ¬ F l = some (.frz o (.tup xs))) → ob K F o x → ob K (er F l) o x
instance {α : Type} [Rp α] [Flat α] : FlatO (List α) := ⟨fun h1 h2 ⟨vs, e, r⟩ => ⟨vs, e, Rps.fl h1 h2 r⟩⟩
end
end Gx
namespace Gx
open PySem PySem.Spec PyProof.Rows L2
open Rp (rp)
open Ra (ra)
open Ob (ob)
section
variable {X : Cx} {K : PySem.W.Frag} {e a b c d : Expr} {es : List Expr} {σ : L2.St} {F H F0 H0 : Hp} {pos : Pos} {D : Ends} {st : Stmt} {rest body : List Stmt}
theorem Own.cg {α : Type} [Rp α] [Ob α] {xs ys : α} {l : Addr} (e : xs = ys) (o : Own K H0 F H l xs) : Own K H0 F H l ys := e ▸ o
theorem go_unpack {α : Type} [Rp α] {x : α} {tg : Expr} {g : TG} (s : SmX X.K F H) (he : Ev X e σ F H x) (hg : PG X tg g) (k : ∀ v F' H', Gr F H F' H' → rp X.K F' v x → ∀ Q : L2.St → Hp → Prop, (∀ σ' H'', GoS X rest D σ' H'' → Q σ' H'') → g v σ H' Q)
    (hs : swapsWithSole [tg] e pos.line X.env = pure false := by rfl) (hw : swappedStores [tg] e X.env = pure none := by rfl) (h1 : (assignEach [tg] X.env).map (·.2) = [assign tg X.env] := by rfl) : GoS X (.Assign [tg] e pos :: rest) D σ H :=
  GoS.cons (ps_asg pe_go hg hs hw h1) (he F H (.refl s) _ fun v F2 H2 g2 r => k v F2 H2 g2 r _ fun _ _ h => h)
end
end Gx
namespace Gx
open PySem PySem.Spec PyProof.Rows L2
open Rp (rp)
open Ra (ra)
open Ob (ob)
section
variable {X : Cx} {K : PySem.W.Frag} {e a b c d : Expr} {es : List Expr} {σ : L2.St} {F H F0 H0 : Hp} {pos : Pos} {D : Ends} {st : Stmt} {rest body : List Stmt}
theorem Rps.of_ints : ∀ ns : List Int, Rps K F (ns.map V.int) ns
  | [] => .nil
  | n :: ns => .cons rfl (Rps.of_ints ns)
class SN (α : Type) [Rp α] : Prop where
  sn : ∀ {K : PySem.W.Frag} {F : Hp} {v : V} {x : α}, rp K F v x → scal .non v = true ∧ scal v .non = true ∧ v ≠ .non
instance : SN Int := ⟨fun {K F v x} h => by
  have h : v = .int x := h
  subst h; exact ⟨rfl, rfl, fun e => nomatch e⟩⟩
instance : SN Str := ⟨fun {K F v x} h => by
  have h : v = .str x := h
  subst h; exact ⟨rfl, rfl, fun e => nomatch e⟩⟩
instance : SN Bool := ⟨fun {K F v x} h => by
  have h : v = .bl x := h
  subst h; exact ⟨rfl, rfl, fun e => nomatch e⟩⟩
instance {α : Type} [Rp α] [NN α] [DecidableEq α] [Sc α] [SN α] : Sc (Option α) := ⟨fun {K F v w x y} h1 h2 => by
  cases x with
  | none =>
    have h1 : v = .non := h1
    subst h1
    cases y with
    | none =>
      have h2 : w = .non := h2
      subst h2; exact ⟨rfl, rfl⟩
    | some y =>
      obtain ⟨s1, _, n1⟩ := SN.sn (α := α) h2
      exact ⟨s1, by rw [decide_eq_false (fun e => n1 e.symm)]; rfl⟩
  | some x =>
    cases y with
    | none =>
      have h2 : w = .non := h2
      subst h2
      obtain ⟨_, s2, n1⟩ := SN.sn (α := α) h1
      exact ⟨s2, by rw [decide_eq_false n1]; rfl⟩
    | some y =>
      obtain ⟨s1, s2⟩ := Sc.sc (α := α) h1 h2
      exact ⟨s1, by rw [s2]; simp⟩⟩
inductive Kn (K : PySem.W.Frag) (H : Hp) : V → String → Prop
  | non : Kn K H .non "NoneType"
  | bl (b : Bool) : Kn K H (.bl b) "bool"
  | int (i : Int) : Kn K H (.int i) "int"
  | str (x : Str) : Kn K H (.str x) "str"
  | lst {a : Addr} {xs : List V} : SqL K H a xs → Kn K H (.ref a) "list"
  | tup {a : Addr} {xs : List V} : SqT K H a xs → Kn K H (.ref a) "tuple"
  | dK {a : Addr} {xs : List (Key × V)} : Rd H a (.dK xs) → Kn K H (.ref a) "dict"
  | dT {a : Addr} {xs : List (List Key × V)} : Rd H a (.dT xs) → Kn K H (.ref a) "dict"
def rIsK (K : PySem.W.Frag) : List V → Hp → VK → Prop := fun xs H Q => ∃ (x : V) (U T : String) (b : Bool), xs = [x, .ty T] ∧ Kn K H x U ∧ kitB U T = some b ∧ Q (.bl b) H
theorem call_isk : CallR X (.builtin "isinstance") (rIsK X.K) := by
  intro pins s σ H xs us Q I r h
  obtain ⟨x, U, T, b, rfl, k, e, q⟩ := h
  obtain ⟨u1, u2, rfl, r1, r2⟩ := vals2 r
  have e2 : u2 = .type T := r2
  subst e2
  have fin : ∀ {P : Heap → Prop}, PySem.W.KitX X.K u1 (.type U) P → P s.heap → u1 ≠ .builtin "__main__.__loader__#opaque" → wpAny (model X.prog X.w) X.A (call (.builtin "isinstance") [u1, .type T]) (EP X pins σ Q) X.xe s :=
    fun Z p hx => PySem.W.kia_one Z I.kIn p (kit_ty e) hx fun tk => ⟨.bl b, H, I.tok tk, rfl, q⟩
  cases k with
  | non => cases (show u1 = Value.none from r1); exact fin PySem.W.kitx_none True.intro (fun z => nomatch z)
  | bl y => cases (show u1 = Value.bool y from r1); exact fin PySem.W.kitx_bool True.intro (fun z => nomatch z)
  | int i => obtain ⟨t, q⟩ := (show ∃ t, u1 = Value.int i t from r1); cases q; exact fin PySem.W.kitx_int True.intro (fun z => nomatch z)
  | str i => obtain ⟨t, q⟩ := (show ∃ t, u1 = Value.str i t from r1); cases q; exact fin PySem.W.kitx_str True.intro (fun z => nomatch z)
  | lst sq =>
    rename_i a xs
    cases (show u1 = Value.ref a from r1)
    obtain ⟨its, rv, ⟨o, n, h1, h2, _⟩, _⟩ := I.list sq
    exact fin PySem.W.kitx_list ⟨o, h1, h2⟩ (fun z => nomatch z)
  | tup sq =>
    rename_i a xs
    cases (show u1 = Value.ref a from r1)
    obtain ⟨its, rv, ⟨o, h1, h2, _⟩, _⟩ := I.tuple sq
    exact fin PySem.W.kitx_tuple ⟨o, h1, h2⟩ (fun z => nomatch z)
  | dK ea =>
    rename_i a xs
    cases (show u1 = Value.ref a from r1)
    obtain ⟨_, _, vs, _, o, es, ep, h1, h2, _⟩ := (show ObjOk X.prog X.w H s.heap a (.dK xs) from ea.ok I.hok)
    exact fin PySem.W.kitx_dict ⟨o, h1, h2.1⟩ (fun z => nomatch z)
  | dT ea =>
    rename_i a xs
    cases (show u1 = Value.ref a from r1)
    obtain ⟨_, _, vs, _, o, es, ep, h1, h2, _⟩ := (show ObjOk X.prog X.w H s.heap a (.dT xs) from ea.ok I.hok)
    exact fin PySem.W.kitx_dict ⟨o, h1, h2.1⟩ (fun z => nomatch z)
class Kd (α : Type) [Rp α] where
  nm : String
  kd : ∀ {K : PySem.W.Frag} {F H : Hp} {v : V} {x : α}, L2.Same F H → rp K F v x → Kn K H v nm
instance : Kd Int := ⟨"int", fun {K F H v x} _ h => by
  have h : v = .int x := h
  subst h; exact .int _⟩
instance : Kd Bool := ⟨"bool", fun {K F H v x} _ h => by
  have h : v = .bl x := h
  subst h; exact .bl _⟩
instance : Kd Str := ⟨"str", fun {K F H v x} _ h => by
  have h : v = .str x := h
  subst h; exact .str _⟩
instance : Kd Unit := ⟨"NoneType", fun {K F H v x} _ h => by
  have h : v = .non := h
  subst h; exact .non⟩
instance {α : Type} [Rp α] : Kd (List α) := ⟨"list", fun s ⟨a, vs, e, sq, _⟩ => e ▸ .lst (s.seq sq)⟩
instance {α : Type} [Rp α] : Kd (Tp α) := ⟨"tuple", fun s ⟨a, vs, e, sq, _⟩ => e ▸ .tup (seqT_mono s sq)⟩
instance {α : Type} [Rp α] : Kd (Tn α) := ⟨"tuple", fun s ⟨a, vs, o, e, q, _, _, _⟩ => e ▸ .tup (.inl (.inr ⟨o, s _ _ q⟩))⟩
theorem rpT.kd {θ τ : Type} [Ra τ] {row : θ → τ} {F H : Hp} {v : V} {x : θ} (s : L2.Same F H) (h : rpT row K F v x) : Kn K H v "tuple" := by
  obtain ⟨a, vs, e, sq, _⟩ := h
  exact e ▸ .tup (seqT_mono s sq)
instance {α : Type} [Rp α] : Kd (T1 α) := ⟨"tuple", rpT.kd⟩
instance {α β : Type} [Rp α] [Rp β] : Kd (T2 α β) := ⟨"tuple", rpT.kd⟩
instance {α β γ : Type} [Rp α] [Rp β] [Rp γ] : Kd (T3 α β γ) := ⟨"tuple", rpT.kd⟩
instance {α β γ δ : Type} [Rp α] [Rp β] [Rp γ] [Rp δ] : Kd (T4 α β γ δ) := ⟨"tuple", rpT.kd⟩
instance {α β γ δ ε : Type} [Rp α] [Rp β] [Rp γ] [Rp δ] [Rp ε] : Kd (T5 α β γ δ ε) := ⟨"tuple", rpT.kd⟩
theorem ev_isi {α : Type} [Rp α] [Kd α] {x : α} {T : String} {r : Bool} {p1 p2 : Pos} (h : kitB (Kd.nm α) T = some r) (hm : X.mg "isinstance" = none) (hT : X.mg (Str.ofString T) = none) (hv : bootBuiltins (Str.ofString T) = some (.type T)) (ha : Ev X a σ F H x)
    (hg : Gl X "isinstance" := by rfl) (hgT : Gl X (Str.ofString T) := by rfl) (hn : (Str.ofString T) ≠ "__name__" := by decide) (hd : ((Str.ofString T) == ("__debug__" : Str)) = false := by decide)
    (hs : starEach [a, .Name (Str.ofString T) p2] X.env = (false, eval a X.env) :: starEach [.Name (Str.ofString T) p2] X.env := by rfl) (hs2 : starEach [.Name (Str.ofString T) p2] X.env = (false, eval (.Name (Str.ofString T) p2) X.env) :: starEach [] X.env := by rfl)
    (hpl : (backTo pos (starEach [.Name (Str.ofString T) p2] X.env)).any (·.1) = false := by rfl) : Ev X (.Call (.Name "isinstance" p1) [a, .Name (Str.ofString T) p2] [] pos) σ F H r := fun F1 H1 g Q q =>
  GoE.of (pe_callB call_isk hg hm (by decide +kernel) (pa_cons pe_go (pa_cons (pe_bltn hgT hT hv (v := .ty T) rfl hn hd) pa_nil hs2) hs) (by decide) (by decide) hs hpl)
    (ha F1 H1 g _ fun v F2 H2 g2 r2 => ⟨v, _, T, r, rfl, Kd.kd g2.fh r2, h, q _ F2 H2 g2 rfl⟩)
class Fv (α : Type) [Rp α] [DecidableEq α] : Prop where
  fv : ∀ {K : PySem.W.Frag} {F : Hp} {v : V} {x : α}, rp K F v x → flatV v = true
  ev : ∀ {K : PySem.W.Frag} {F : Hp} {v w : V} {x y : α}, rp K F v x → rp K F w y → eqV v w = decide (x = y)
instance : Fv Int := ⟨fun {K F v x} h => by
  have h : v = .int x := h
  subst h; rfl, fun {K F v w x y} h1 h2 => by
  have h1 : v = .int x := h1
  have h2 : w = .int y := h2
  subst h1; subst h2
  show (x == y) = _
  rw [Bool.beq_eq_decide_eq]⟩
instance : Fv Str := ⟨fun {K F v x} h => by
  have h : v = .str x := h
  subst h; rfl, fun {K F v w x y} h1 h2 => by
  have h1 : v = .str x := h1
  have h2 : w = .str y := h2
  subst h1; subst h2
  show (x == y) = _
  rw [Bool.beq_eq_decide_eq]⟩
theorem inV_eq {α : Type} [Rp α] [DecidableEq α] [Fv α] {v : V} {x : α} (h : rp K F v x) : ∀ {vs : List V} {xs : List α}, Rps K F vs xs → vs.all flatV = true ∧ inV v vs = decide (x ∈ xs)
  | _, _, .nil => ⟨rfl, by simp [inV]⟩
  | _, _, .cons (a := w) (b := y) (l₁ := vs) (l₂ := ys) r t => by
    obtain ⟨h1, h2⟩ := inV_eq h t
    refine ⟨by rw [List.all_cons, Fv.fv r, h1]; rfl, ?_⟩
    unfold inV at h2 ⊢
    rw [List.any_cons, h2, Fv.ev r h]
    by_cases e : x = y
    · subst e; simp
    · have e' : ¬ y = x := fun z => e z.symm
      simp [e, e']
theorem o2_inT {α θ : Type} [Rp α] [Rp θ] [TL θ α] [DecidableEq α] [Fv α] {x : α} {xs : θ} : Op2 K (rIn K false) x xs (decide (x ∈ TL.l xs)) := fun F H v w Q s rv r2 k => by
  obtain ⟨p, vs, e, sq, rs⟩ := TL.sq r2
  obtain ⟨h1, h2⟩ := inV_eq rv rs
  exact ⟨p, vs, e, .inr (sqT_mono s sq), Fv.fv rv, h1, k _ F H (.refl s) (congrArg V.bl h2)⟩
class Pd (α : Type) [Rp α] where
  toD : α → PyData
  dp : ∀ {K : PySem.W.Frag} {F : Hp} {v : V} {x : α}, rp K F v x → Dp K F v (toD x)
  eq : ∀ x y, PyData.eqv (toD x) (toD y) = true ↔ x = y
def okD {α : Type} [Rp α] [Pd α] (x : α) : Bool := SeqAt.shaped (Pd.toD x)
class PdS (α : Type) [Rp α] [Pd α] where
  dep : Nat
  de : ∀ x : α, (Pd.toD x).depth ≤ dep
instance : Pd Int := ⟨.int, fun {K F v x} h => by
  have h : v = .int x := h
  subst h; exact .int x, fun x y => by simp [PyData.eqv]⟩
instance : Pd Str := ⟨.str, fun {K F v x} h => by
  have h : v = .str x := h
  subst h; exact .str x, fun x y => by simp [PyData.eqv]⟩
instance : Pd Bool := ⟨.bool, fun {K F v x} h => by
  have h : v = .bl x := h
  subst h; exact .bl x, fun x y => by simp [PyData.eqv]⟩
end
end Gx
namespace Gx
open PySem PySem.Spec PyProof.Rows L2
open Rp (rp)
open Ra (ra)
open Ob (ob)
section
variable {X : Cx} {K : PySem.W.Frag} {e a b c d : Expr} {es : List Expr} {σ : L2.St} {F H F0 H0 : Hp} {pos : Pos} {D : Ends} {st : Stmt} {rest body : List Stmt}
theorem oc_tuple {α : Type} [Rp α] {xs : List α} : OpC K (fun vs H Q => ∃ p ys, vs = [.ref p] ∧ ((SqL K H p ys ∧ ∀ l, H l = none → Q (.ref l) (upd H l (.tup ys))) ∨ (SqT K H p ys ∧ Q (.ref p) H))) (xs, ()) (Tp.mk xs) :=
  oc1 fun F H v Q s ⟨p, vs, e, sq, rs⟩ k => ⟨p, vs, by rw [e], .inl ⟨s.seq sq, fun l hl => k _ (upd F l (.tup vs)) _ (Gr.new s hl) ⟨l, vs, rfl, upd_same, rs.mono (same_upd (s.free hl))⟩⟩⟩
theorem oc_abs {i : Int} : OpC K (fun xs H Q => ∃ i, xs = [.int i] ∧ Q (.int (if i < 0 then -i else i)) H) (i, ()) (if i < 0 then -i else i) :=
  oc1 fun F H v Q s rv k => ⟨i, by rw [show v = .int i from rv], k _ F H (.refl s) rfl⟩
def rCatL (K : PySem.W.Frag) : R2 := fun x y H Q => ∃ a b xs ys, x = .ref a ∧ y = .ref b ∧ SqL K H a xs ∧ SqL K H b ys ∧ xs.length + ys.length ≤ sizeLine ∧ ∀ p, H p = none → Q (.ref p) (upd H p (.lst (xs ++ ys)))
theorem op_catL : OpR X (binaryOp .Add) (rCatL X.K) := by
  intro pins s σ H x y v u Q I rx ry h
  obtain ⟨a, b, xs, ys, rfl, rfl, ha, hb, hz, q⟩ := h
  cases rx
  cases ry
  obtain ⟨its, r, ⟨⟨cls, dd, data, sl⟩, n, ho, hc, _, hd⟩, _⟩ := I.list ha
  obtain ⟨its2, r2, ⟨⟨cls2, dd2, data2, sl2⟩, n2, ho2, hc2, _, hd2⟩, _⟩ := I.list hb
  simp only at hc hd hc2 hd2
  subst hc hd hc2 hd2
  have e : its.toArray ++ its2.toArray = (its ++ its2).toArray := by simp
  refine concat_meets ⟨_, ho, rfl⟩ ⟨_, ho2, rfl⟩ noFill_list_add seq_list_add PySem.F.slot_list_add PySem.F.entry_list_add (PySem.F.args_list_add_2 _ _) (list_addW a b its.toArray its2.toArray n n2 dd dd2 sl sl2 (by rw [List.size_toArray, List.size_toArray, ← r.length, ← r2.length]; exact hz)) ⟨ho, ho2, ?_⟩
  rw [e]
  exact ⟨.ref _, _, I.lnew (t' := s.toks) (r.append r2) (by rw [List.length_append]; exact hz), rfl, q _ I.fresh⟩
def catG {α : Type} (xs ys : List α) : Option (List α) := if xs.length + ys.length ≤ sizeLine then some (xs ++ ys) else none
theorem en_cat {α : Type} [Rp α] {xs ys r : List α} (ha : Ev X a σ F H xs) (hb : Ev X b σ F H ys) (h : catG xs ys = some r) : EvN X (.BinOp a .Add b pos) σ F H r := fun F1 H1 g Q q =>
  GoE.of (pe_op op_catL pe_go pe_go) (ha F1 H1 g _ fun v F2 H2 g2 r2 => hb F2 H2 (g.trans g2) _ fun w F3 H3 g3 ⟨p', vs', e', sq', rs'⟩ => by
    obtain ⟨p, vs, e, sq, rs⟩ := Rp.mono g3.ff r2
    unfold catG at h
    split at h
    · rename_i hz
      cases (Option.some.inj h)
      exact ⟨p, p', vs, vs', e, e', g3.fh.seq sq, g3.fh.seq sq', by rw [rs.length, rs'.length]; exact hz, fun l hl => EvN.new q (g2.trans g3) hl (Rps.append rs rs')⟩
    · cases h)
def catT {α : Type} (xs ys : Tp α) : Option (Tp α) := if xs.l.length + ys.l.length ≤ sizeLine then some ⟨xs.l ++ ys.l⟩ else none
end
end Gx
namespace Gx
open PySem PySem.Spec PyProof.Rows L2
abbrev S (l : List Nat) : Str := ⟨l.toArray⟩
theorem S_tl (x : Str) : S x.cps.toList = x := TL.mk_tl x
theorem szl : sizeLine = 16777216 := PySem.sizeLine_eq
theorem len_cl (z : Str) : z.length = z.cps.toList.length := by simp [Str.length]
theorem atI_ok {α : Type} {xs : List α} {i : Int} (h0 : 0 ≤ i) (h1 : i < xs.length) : ∃ v, L2.atI xs i = some v ∧ xs[i.toNat]? = some v := by
  have hl : i.toNat < xs.length := by omega
  refine ⟨xs[i.toNat], ?_, List.getElem?_eq_getElem hl⟩
  unfold L2.atI ixN
  rw [if_pos h0, if_pos h1]
  exact List.getElem?_eq_getElem hl
theorem atI_nn {α : Type} {xs : List α} {i : Int} (h0 : 0 ≤ i) : L2.atI xs i = xs[i.toNat]? := by
  unfold L2.atI ixN
  rw [if_pos h0]
  by_cases h1 : i < xs.length
  · rw [if_pos h1]; rfl
  · rw [if_neg h1, List.getElem?_eq_none (by omega)]; rfl
theorem sCut_ok {z : Str} (h : z.length ≤ sizeLine) (i j : Option Int) : ∃ r, sCut z i j = some r ∧ r.length ≤ z.length ∧ r.cps.toList = cut z.cps.toList i j := by
  refine ⟨cutS z i j, if_pos h, ?_, ?_⟩
  · unfold cutS
    rw [len_cl, len_cl]
    simp only [List.length_take, List.length_drop]
    omega
  · unfold cutS cut
    rw [len_cl]
theorem app_cl (a b : Str) : (a ++ b).cps.toList = a.cps.toList ++ b.cps.toList := TL.tl_append a b
theorem sAdd_ok {a b : Str} (h : a.length + b.length ≤ sizeLine) : sAdd a b = some (a ++ b) := if_pos h
theorem loopN_cons {α β : Type} {st : β → α → Option β} {b b' : β} {x : α} {xs : List α} (h : st b x = some b') : loopN st b (x :: xs) = loopN st b' xs := by
  unfold loopN; rw [h]
  cases xs <;> rfl
theorem loopM_nx {α β ρ : Type} {st : β → α → Option (Lp β ρ)} {b b' : β} {x : α} {xs : List α} (h : st b x = some (.nx b')) : loopM st b (x :: xs) = loopM st b' xs := by
  rw [loopM, h]
theorem compM_map {α γ : Type} {f : α → Option (Option γ)} {g : α → γ} : ∀ {xs : List α}, (∀ x ∈ xs, f x = some (some (g x))) → compM f xs = some (xs.map g)
  | [], _ => rfl
  | x :: xs, h => by
    rw [compM, h x List.mem_cons_self, compM_map fun y hy => h y (List.mem_cons_of_mem _ hy)]
    rfl
theorem compM_filter {α γ : Type} {f : α → Option (Option γ)} {p : α → Bool} {g : α → γ} : ∀ {xs : List α}, (∀ x ∈ xs, f x = some (if p x then some (g x) else none)) → compM f xs = some ((xs.filter p).map g)
  | [], _ => rfl
  | x :: xs, h => by
    rw [compM, h x List.mem_cons_self, compM_filter fun y hy => h y (List.mem_cons_of_mem _ hy)]
    cases e : p x with
    | true => simp [e]
    | false => simp [e]
theorem compG_map {α γ : Type} {f : α → Option (Option γ)} {g : α → γ} {xs : List α} (hl : xs.length ≤ sizeLine) (h : ∀ x ∈ xs, f x = some (some (g x))) : compG f xs = some (xs.map g) := by
  unfold compG; rw [if_pos hl]; exact compM_map h
theorem compG_filter {α γ : Type} {f : α → Option (Option γ)} {p : α → Bool} {g : α → γ} {xs : List α} (hl : xs.length ≤ sizeLine) (h : ∀ x ∈ xs, f x = some (if p x then some (g x) else none)) : compG f xs = some ((xs.filter p).map g) := by
  unfold compG; rw [if_pos hl]; exact compM_filter h
end Gx
namespace Gx
open PySem PySem.Spec PyProof.Rows L2 RZ RT
open Rp (rp)
open Ra (ra)
open Ob (ob)
section
variable {X : Cx} {K : PySem.W.Frag} {e a b c d : Expr} {es : List Expr} {σ : L2.St} {F H F0 H0 : Hp} {pos : Pos} {D : Ends} {st : Stmt} {rest body : List Stmt}
theorem Dp.all {α : Type} [Rp α] [Pd α] : ∀ {vs : List V} {xs : List α}, Rps K F vs xs → DpAll K F vs (xs.map Pd.toD)
  | _, _, .nil => .nil
  | _, _, .cons r t => .cons (Pd.dp r) (Dp.all t)
theorem eqvAll_iff {α : Type} [Rp α] [Pd α] : ∀ xs ys : List α, PyData.eqvAll (xs.map Pd.toD) (ys.map Pd.toD) = true ↔ xs = ys
  | [], [] => by simp [PyData.eqvAll]
  | [], _ :: _ => by simp [PyData.eqvAll]
  | _ :: _, [] => by simp [PyData.eqvAll]
  | x :: xs, y :: ys => by
    rw [List.map_cons, List.map_cons, PyData.eqvAll, Bool.and_eq_true, Pd.eq, eqvAll_iff xs ys, List.cons.injEq]
instance {α : Type} [Rp α] [Pd α] : Pd (List α) := ⟨fun xs => .list (xs.map Pd.toD), fun ⟨a, vs, e, sq, rs⟩ => e ▸ .lst sq (Dp.all rs), fun x y => by rw [PyData.eqv]; exact eqvAll_iff x y⟩
instance {α : Type} [Rp α] [Pd α] : Pd (Tp α) := ⟨fun xs => .tuple (xs.l.map Pd.toD), fun ⟨a, vs, e, sq, rs⟩ => e ▸ .tup (SqT.of sq) (Dp.all rs), fun x y => by
  rw [PyData.eqv]
  cases x; cases y
  rw [eqvAll_iff, Tp.mk.injEq]⟩
class PdR (τ : Type) [Ra τ] where
  toR : τ → List PyData
  dp : ∀ {K : PySem.W.Frag} {F : Hp} {vs : List V} {x : τ}, ra K F vs x → DpAll K F vs (toR x)
  eq : ∀ x y, PyData.eqvAll (toR x) (toR y) = true ↔ x = y
instance : PdR Unit := ⟨fun _ => [], fun {K F vs x} h => by
  have h : vs = [] := h
  subst h; exact .nil, fun x y => by simp [PyData.eqvAll]⟩
instance {α τ : Type} [Rp α] [Ra τ] [Pd α] [PdR τ] : PdR (α × τ) := ⟨fun x => Pd.toD x.1 :: PdR.toR x.2, fun ⟨v, r, e, p, q⟩ => e ▸ .cons (Pd.dp p) (PdR.dp q), fun x y => by
  rw [PyData.eqvAll, Bool.and_eq_true, Pd.eq, PdR.eq, Prod.ext_iff]⟩
theorem rpT.dp {θ τ : Type} [Ra τ] [PdR τ] {row : θ → τ} {F : Hp} {v : V} {x : θ} : rpT row K F v x → Dp K F v (.tuple (PdR.toR (row x))) := fun ⟨a, vs, e, sq, rs⟩ => e ▸ .tup (SqT.of sq) (PdR.dp rs)
theorem rowEq {θ τ : Type} [Ra τ] [PdR τ] {row : θ → τ} (inj : ∀ x y, row x = row y ↔ x = y) (x y : θ) : PyData.eqv (.tuple (PdR.toR (row x))) (.tuple (PdR.toR (row y))) = true ↔ x = y := by
  rw [PyData.eqv, PdR.eq]; exact inj x y
instance {α : Type} [Rp α] [Pd α] : Pd (T1 α) := ⟨fun x => .tuple (PdR.toR x.row), rpT.dp, rowEq fun x y => by cases x; cases y; simp [T1.row]⟩
instance {α β : Type} [Rp α] [Rp β] [Pd α] [Pd β] : Pd (T2 α β) := ⟨fun x => .tuple (PdR.toR x.row), rpT.dp, rowEq fun x y => by cases x; cases y; simp [T2.row]⟩
instance {α β γ : Type} [Rp α] [Rp β] [Rp γ] [Pd α] [Pd β] [Pd γ] : Pd (T3 α β γ) := ⟨fun x => .tuple (PdR.toR x.row), rpT.dp, rowEq fun x y => by cases x; cases y; simp [T3.row]⟩
instance {α β γ δ : Type} [Rp α] [Rp β] [Rp γ] [Rp δ] [Pd α] [Pd β] [Pd γ] [Pd δ] : Pd (T4 α β γ δ) := ⟨fun x => .tuple (PdR.toR x.row), rpT.dp, rowEq fun x y => by cases x; cases y; simp [T4.row]⟩
instance {α β γ δ ε : Type} [Rp α] [Rp β] [Rp γ] [Rp δ] [Rp ε] [Pd α] [Pd β] [Pd γ] [Pd δ] [Pd ε] : Pd (T5 α β γ δ ε) := ⟨fun x => .tuple (PdR.toR x.row), rpT.dp, rowEq fun x y => by cases x; cases y; simp [T5.row]⟩
class PdO (α : Type) [Rp α] [Pd α] : Prop where
  nn : ∀ x : α, Pd.toD x ≠ .none
instance : PdO Int := ⟨fun _ h => nomatch h⟩
instance : PdO Str := ⟨fun _ h => nomatch h⟩
instance : PdO Bool := ⟨fun _ h => nomatch h⟩
instance {α : Type} [Rp α] [Pd α] : PdO (List α) := ⟨fun _ h => nomatch h⟩
instance {α : Type} [Rp α] [Pd α] : PdO (Tp α) := ⟨fun _ h => nomatch h⟩
instance {α β : Type} [Rp α] [Rp β] [Pd α] [Pd β] : PdO (T2 α β) := ⟨fun _ h => nomatch h⟩
instance {α β γ : Type} [Rp α] [Rp β] [Rp γ] [Pd α] [Pd β] [Pd γ] : PdO (T3 α β γ) := ⟨fun _ h => nomatch h⟩
theorem eqv_nl {d : PyData} : PyData.eqv .none d = true → d = .none := by cases d <;> simp [PyData.eqv]
theorem eqv_nr {d : PyData} : PyData.eqv d .none = true → d = .none := by cases d <;> simp [PyData.eqv]
def optD {α : Type} [Rp α] [Pd α] : Option α → PyData
  | none => .none
  | some x => Pd.toD x
instance {α : Type} [Rp α] [NN α] [Pd α] [PdO α] : Pd (Option α) := ⟨optD, fun {K F v x} h => by
  cases x with
  | none =>
    have h : v = .non := h
    subst h; exact .non
  | some x => exact Pd.dp (α := α) h, fun x y => by
  cases x with
  | none =>
    cases y with
    | none => simp [optD, PyData.eqv]
    | some y =>
      constructor
      · intro h; exact absurd (eqv_nl h) (PdO.nn y)
      · intro h; cases h
  | some x =>
    cases y with
    | none =>
      constructor
      · intro h; exact absurd (eqv_nr h) (PdO.nn x)
      · intro h; cases h
    | some y => simp [optD, Pd.eq]⟩
class PdF (α : Type) [Rp α] [Pd α] : Prop where
  ok : ∀ x : α, (Pd.toD x).canLay0 = true
instance : PdS Int := ⟨0, fun _ => by simp [Pd.toD, PyData.depth]⟩
instance : PdS Str := ⟨0, fun _ => by simp [Pd.toD, PyData.depth]⟩
instance : PdS Bool := ⟨0, fun _ => by simp [Pd.toD, PyData.depth]⟩
theorem dpAll_le {α : Type} [Rp α] [Pd α] [PdS α] : ∀ xs : List α, PyData.depthAll (xs.map Pd.toD) ≤ PdS.dep α
  | [] => by simp [PyData.depthAll]
  | x :: xs => by
    rw [List.map_cons, PyData.depthAll]
    exact Nat.max_le.mpr ⟨PdS.de x, dpAll_le xs⟩
instance {α : Type} [Rp α] [Pd α] [PdS α] : PdS (List α) := ⟨PdS.dep α + 1, fun x => by
  show (PyData.depthAll (x.map Pd.toD)) + 1 ≤ _
  exact Nat.succ_le_succ (dpAll_le x)⟩
instance {α : Type} [Rp α] [Pd α] [PdS α] : PdS (Tp α) := ⟨PdS.dep α + 1, fun x => by
  show (PyData.depthAll (x.l.map Pd.toD)) + 1 ≤ _
  exact Nat.succ_le_succ (dpAll_le x.l)⟩
class PdRS (τ : Type) [Ra τ] [PdR τ] where
  dep : Nat
  de : ∀ x : τ, PyData.depthAll (PdR.toR x) ≤ dep
instance : PdRS Unit := ⟨0, fun _ => by simp [PdR.toR, PyData.depthAll]⟩
instance {α τ : Type} [Rp α] [Ra τ] [Pd α] [PdR τ] [PdS α] [PdRS τ] : PdRS (α × τ) := ⟨max (PdS.dep α) (PdRS.dep τ), fun x => by
  show max (PyData.depth _) (PyData.depthAll _) ≤ _
  have h1 := PdS.de x.1
  have h2 := PdRS.de x.2
  omega⟩
instance {α : Type} [Rp α] [Pd α] [PdS α] : PdS (T1 α) := ⟨PdRS.dep (α × Unit) + 1, fun x => Nat.succ_le_succ (PdRS.de x.row)⟩
instance {α β : Type} [Rp α] [Rp β] [Pd α] [Pd β] [PdS α] [PdS β] : PdS (T2 α β) := ⟨PdRS.dep (α × β × Unit) + 1, fun x => Nat.succ_le_succ (PdRS.de x.row)⟩
instance {α β γ : Type} [Rp α] [Rp β] [Rp γ] [Pd α] [Pd β] [Pd γ] [PdS α] [PdS β] [PdS γ] : PdS (T3 α β γ) := ⟨PdRS.dep (α × β × γ × Unit) + 1, fun x => Nat.succ_le_succ (PdRS.de x.row)⟩
instance {α β γ δ : Type} [Rp α] [Rp β] [Rp γ] [Rp δ] [Pd α] [Pd β] [Pd γ] [Pd δ] [PdS α] [PdS β] [PdS γ] [PdS δ] : PdS (T4 α β γ δ) := ⟨PdRS.dep (α × β × γ × δ × Unit) + 1, fun x => Nat.succ_le_succ (PdRS.de x.row)⟩
instance {α β γ δ ε : Type} [Rp α] [Rp β] [Rp γ] [Rp δ] [Rp ε] [Pd α] [Pd β] [Pd γ] [Pd δ] [Pd ε] [PdS α] [PdS β] [PdS γ] [PdS δ] [PdS ε] : PdS (T5 α β γ δ ε) := ⟨PdRS.dep (α × β × γ × δ × ε × Unit) + 1, fun x => Nat.succ_le_succ (PdRS.de x.row)⟩
instance {α : Type} [Rp α] [NN α] [Pd α] [PdO α] [PdS α] : PdS (Option α) := ⟨PdS.dep α, fun x => by
  cases x with
  | none => exact Nat.zero_le _
  | some x => exact PdS.de x⟩
instance : PdF Int := ⟨fun _ => by simp [Pd.toD, PyData.canLay0]⟩
instance : PdF Bool := ⟨fun _ => by simp [Pd.toD, PyData.canLay0]⟩
theorem layAll {α : Type} [Rp α] [Pd α] : ∀ {xs : List α}, (∀ x ∈ xs, (Pd.toD x).canLay0 = true) → PyData.canLayAll0 (xs.map Pd.toD) = true
  | [], _ => by simp [PyData.canLayAll0]
  | x :: xs, h => by
    rw [List.map_cons, PyData.canLayAll0, h x List.mem_cons_self, layAll fun y hy => h y (List.mem_cons_of_mem _ hy)]; rfl
instance {α : Type} [Rp α] [Pd α] [PdF α] : PdF (List α) := ⟨fun x => layAll fun y _ => PdF.ok y⟩
instance {α : Type} [Rp α] [Pd α] [PdF α] : PdF (Tp α) := ⟨fun x => layAll fun y _ => PdF.ok y⟩
class PdRF (τ : Type) [Ra τ] [PdR τ] : Prop where
  ok : ∀ x : τ, PyData.canLayAll0 (PdR.toR x) = true
instance : PdRF Unit := ⟨fun _ => by simp [PdR.toR, PyData.canLayAll0]⟩
instance {α τ : Type} [Rp α] [Ra τ] [Pd α] [PdR τ] [PdF α] [PdRF τ] : PdRF (α × τ) := ⟨fun x => by
  show (PyData.canLay0 _ && PyData.canLayAll0 _) = true
  rw [PdF.ok, PdRF.ok]; rfl⟩
instance {α : Type} [Rp α] [Pd α] [PdF α] : PdF (T1 α) := ⟨fun x => PdRF.ok x.row⟩
instance {α β : Type} [Rp α] [Rp β] [Pd α] [Pd β] [PdF α] [PdF β] : PdF (T2 α β) := ⟨fun x => PdRF.ok x.row⟩
instance {α β γ : Type} [Rp α] [Rp β] [Rp γ] [Pd α] [Pd β] [Pd γ] [PdF α] [PdF β] [PdF γ] : PdF (T3 α β γ) := ⟨fun x => PdRF.ok x.row⟩
instance {α β γ δ : Type} [Rp α] [Rp β] [Rp γ] [Rp δ] [Pd α] [Pd β] [Pd γ] [Pd δ] [PdF α] [PdF β] [PdF γ] [PdF δ] : PdF (T4 α β γ δ) := ⟨fun x => PdRF.ok x.row⟩
instance {α β γ δ ε : Type} [Rp α] [Rp β] [Rp γ] [Rp δ] [Rp ε] [Pd α] [Pd β] [Pd γ] [Pd δ] [Pd ε] [PdF α] [PdF β] [PdF γ] [PdF δ] [PdF ε] : PdF (T5 α β γ δ ε) := ⟨fun x => PdRF.ok x.row⟩
instance {α : Type} [Rp α] [NN α] [Pd α] [PdO α] [PdF α] : PdF (Option α) := ⟨fun x => by
  cases x with
  | none => rfl
  | some x => exact PdF.ok x⟩
theorem okD_of {α : Type} [Rp α] [Pd α] [PdS α] (hd : PdS.dep α ≤ 64) {x : α} (h : (Pd.toD x).canLay0 = true) : okD x = true := by
  unfold okD SeqAt.shaped
  rw [h, decide_eq_true (Nat.le_trans (PdS.de x) hd)]; rfl
def eqG {α : Type} [Rp α] [Pd α] [DecidableEq α] (x y : α) : Option Bool := if (okD x && okD y) = true then some (decide (x = y)) else none
theorem eqG_ok {α : Type} [Rp α] [Pd α] [DecidableEq α] {x y : α} (h1 : okD x = true) (h2 : okD y = true) : eqG x y = some (decide (x = y)) := by
  unfold eqG; rw [h1, h2]; rfl
theorem eqG_of {α : Type} [Rp α] [Pd α] [DecidableEq α] {x y : α} {r : Bool} (h : eqG x y = some r) : okD x = true ∧ okD y = true ∧ decide (x = y) = r := by
  unfold eqG at h; split at h
  · rename_i h1
    obtain ⟨h1, h2⟩ := Bool.and_eq_true_iff.mp h1
    exact ⟨h1, h2, Option.some.inj h⟩
  · cases h
theorem eqv_dec {α : Type} [Rp α] [Pd α] [DecidableEq α] (x y : α) : PyData.eqv (Pd.toD x) (Pd.toD y) = decide (x = y) := by
  have h := Pd.eq x y
  cases q : PyData.eqv (Pd.toD x) (Pd.toD y) with
  | true => exact (decide_eq_true (h.mp q)).symm
  | false => exact (decide_eq_false fun e => by rw [h.mpr e] at q; cases q).symm
theorem o2_neD {α : Type} [Rp α] [Pd α] [DecidableEq α] {x y : α} {r : Bool} (h : eqG x y = some r) : Op2 K (rNeD K) x y (!r) := fun F H v w Q s rv rw' k => by
  obtain ⟨h1, h2, h3⟩ := eqG_of h
  exact ⟨_, _, Pd.dp (Rp.mono s rv), Pd.dp (Rp.mono s rw'), h1, h2, k _ F H (.refl s) (congrArg (fun t => V.bl (!t)) ((eqv_dec x y).trans h3))⟩
def inG {α : Type} [Rp α] [Pd α] [DecidableEq α] (x : α) (xs : List α) : Option Bool := if (okD x && okD xs) = true then some (decide (x ∈ xs)) else none
def enumF {α : Type} : Int → List α → List (T2 Int α)
  | _, [] => []
  | i, x :: xs => ⟨i, x⟩ :: enumF (i + 1) xs
abbrev enumL {α : Type} (xs : List α) : List (T2 Int α) := enumF 0 xs
def zipL {α β : Type} : List α → List β → List (T2 α β)
  | x :: xs, y :: ys => ⟨x, y⟩ :: zipL xs ys
  | _, _ => []
theorem zipL_get {α β : Type} : ∀ {xs : List α} {ys : List β} {i : Nat} {z : T2 α β}, (zipL xs ys)[i]? = some z → xs[i]? = some z.a ∧ ys[i]? = some z.b
  | [], _, _, _, h => by simp [zipL] at h
  | _ :: _, [], _, _, h => by simp [zipL] at h
  | x :: xs, y :: ys, 0, z, h => by
    simp [zipL] at h; subst h; simp
  | x :: xs, y :: ys, i + 1, z, h => by
    have h' : (zipL xs ys)[i]? = some z := by simpa [zipL] using h
    obtain ⟨h1, h2⟩ := zipL_get h'
    exact ⟨by simpa using h1, by simpa using h2⟩
theorem zipL_len {α β : Type} : ∀ {xs : List α} {ys : List β}, (zipL xs ys).length = min xs.length ys.length
  | [], _ => by simp [zipL]
  | _ :: _, [] => by simp [zipL]
  | x :: xs, y :: ys => by rw [zipL, List.length_cons, zipL_len, List.length_cons, List.length_cons]; omega
theorem pair_new {α β : Type} [Rp α] [Rp β] {T : Addr} {v w : V} {x : α} {y : β} (s : L2.Same F H) (hT : H T = none) (rv : rp K F v x) (rw' : rp K F w y) : ∃ F', Gr F H F' (upd H T (.tup [v, w])) ∧ rp K F' (.ref T) (T2.mk x y) :=
  ⟨_, Gr.new s hT, T, [v, w], rfl, upd_same, v, [w], rfl, Rp.mono (same_upd (s.free hT)) rv, w, [], rfl, Rp.mono (same_upd (s.free hT)) rw', rfl⟩
theorem ei_zip {α β : Type} [Rp α] [Rp β] {xs : List α} {ys : List β} {p tpos : Pos} {elts : List Expr} {kk : Nat} (ha : Ev X a σ F H xs) (hb : Ev X b σ F H ys) (hm : X.mg "zip" = none) (hg : Gl X "zip" := by rfl) (hs : starEach [a, b] X.env = (false, eval a X.env) :: starEach [b] X.env := by rfl) (hs2 : starEach [b] X.env = (false, eval b X.env) :: starEach [] X.env := by rfl)
    (hpl : (backTo pos (starEach [b] X.env)).any (·.1) = false := by rfl) : EvI X (.Tuple elts kk tpos) (.Call (.Name "zip" p) [a, b] [] pos) σ F H (zipL xs ys) := fun F1 H1 g R q =>
  GoI.of (pi_zipA hg hm (pa_cons pe_go (pa_cons pe_go pa_nil hs2) hs) hs hpl) (ha F1 H1 g _ fun v F2 H2 g2 r2 => hb F2 H2 (g.trans g2) _ fun w F3 H3 g3 ⟨p', vs', e', sq', rs'⟩ => by
    obtain ⟨p, vs, e, sq, rs⟩ := Rp.mono g3.ff r2
    refine ⟨p, p', vs, vs', by rw [e, e'], .inl ⟨g3.fh.seq sq, g3.fh.seq sq', q _ F3 H3 (g2.trans g3) fun i Fi Hi s1 s2 => ?_⟩⟩
    have q1 := s2.seq (s1.seq sq)
    have q2 := s2.seq (s1.seq sq')
    refine ⟨fun x hx => ?_, fun e => ⟨vs, vs', q1, q2, by rw [e, zipL_len, rs.length, rs'.length]; omega⟩⟩
    obtain ⟨h1, h2⟩ := zipL_get hx
    obtain ⟨y, hy, ry⟩ := rs.get h1
    obtain ⟨z, hz, rz⟩ := rs'.get h2
    refine ⟨⟨vs, vs', y, z, q1, q2, hy, hz⟩, fun v H' ⟨T, x1, y1, e1, e2, e3, e4, e5⟩ => ?_⟩
    subst e1; subst e3
    have e6 := e4 vs q1
    have e7 := e5 vs' q2
    rw [hy] at e6; rw [hz] at e7
    cases e6; cases e7
    exact pair_new s2 e2 (Rp.mono s1 ry) (Rp.mono s1 rz))
def idxG {α : Type} [Rp α] [Pd α] [DecidableEq α] (xs : List α) (x : α) : Option Int := if (okD x && okD xs) = true ∧ x ∈ xs then some ((xs.idxOf x : Nat) : Int) else none
def rTupN (K : PySem.W.Frag) : List V → Hp → VK → Prop := fun xs H Q => ∃ p ys, xs = [.ref p] ∧ SqL K H p ys ∧ ∀ l o, H l = none → o.dict = none → o.cls = .type "tuple" → Q (.ref l) (upd H l (.frz o (.tup ys)))
def tBMn (r : V → List V → Hp → VK → Prop) (to : TE) (t : TA) : TE := fun σ H Q => to σ H fun x H1 => (∃ p o xs, x = .ref p ∧ H1 p = some (.frz o (.tup xs)) ∧ o.dict = none ∧ o.cls = .type "tuple") ∧ t σ H1 fun xs H2 => r x xs H2 Q
def idxT (xs : List Str) (x : Str) : Option Int := if x ∈ xs then some ((xs.idxOf x : Nat) : Int) else none
def sPart (x y : Str) : Option (T3 Str Str Str) := if x.length ≤ sizeLine ∧ (y.length == 0) = false then some ⟨(Txt.partition x y).1, (Txt.partition x y).2.1, (Txt.partition x y).2.2⟩ else none
end
end Gx
namespace Gx
open PySem PySem.Spec PyProof.Rows L2
open Rp (rp)
open Ra (ra)
open Ob (ob)
section
variable {κ α β : Type} [DecidableEq κ]
def kvLook : List (κ × α) → κ → Option α
  | [], _ => none
  | p :: r, k => if p.1 = k then some p.2 else kvLook r k
def kvPut (l : List (κ × α)) (k : κ) (v : α) : List (κ × α) := if (l.any fun p => decide (p.1 = k)) = true then l.map (fun p => if p.1 = k then (p.1, v) else p) else l ++ [(k, v)]
def kvDrop (l : List (κ × α)) (k : κ) : List (κ × α) := l.filter fun p => decide (p.1 ≠ k)
variable {κ' : Type} [DecidableEq κ'] {g : κ → κ'}
abbrev kvm (g : κ → κ') (l : List (κ × α)) : List (κ' × α) := l.map fun p => (g p.1, p.2)
theorem kvm_val (hg : ∀ x y, g x = g y → x = y) (k : κ) : ∀ l : List (κ × V), valV (kvm g l) (g k) = kvLook l k
  | [] => rfl
  | p :: r => by
    by_cases e : p.1 = k
    · subst e; simp [valV, kvLook]
    · have e' : ¬ g p.1 = g k := fun z => e (hg _ _ z)
      have ih := kvm_val hg k r
      unfold valV at ih ⊢
      rw [kvm, List.map_cons, List.find?_cons, decide_eq_false e', kvLook, if_neg e]
      exact ih
theorem kvm_any (hg : ∀ x y, g x = g y → x = y) (k : κ) (l : List (κ × α)) : ((kvm g l).any fun p => decide (p.1 = g k)) = l.any fun p => decide (p.1 = k) := by
  induction l with
  | nil => rfl
  | cons p r ih =>
    rw [kvm, List.map_cons, List.any_cons, List.any_cons, ← ih]
    congr 1
    rw [decide_eq_decide]
    exact ⟨hg _ _, fun e => e ▸ rfl⟩
theorem kvm_put (hg : ∀ x y, g x = g y → x = y) (k : κ) (v : V) (l : List (κ × V)) : putK (kvm g l) (g k) v = kvm g (kvPut l k v) := by
  unfold putK kvPut
  rw [kvm_any hg]
  split
  · rw [kvm, kvm, List.map_map, List.map_map]
    refine List.map_congr_left fun p _ => ?_
    show (if g p.1 = g k then (g p.1, v) else (g p.1, p.2)) = _
    by_cases e : p.1 = k
    · subst e; simp
    · rw [if_neg (fun z => e (hg _ _ z))]; simp [e]
  · simp [kvm]
theorem kvPut_len (l : List (κ × α)) (k : κ) (v : α) : (kvPut l k v).length ≤ l.length + 1 := by
  unfold kvPut; split
  · rw [List.length_map]; omega
  · rw [List.length_append]; simp
theorem kvLook_put (l : List (κ × α)) (k k' : κ) (v : α) : kvLook (kvPut l k v) k' = if k = k' then some v else kvLook l k' := by
  unfold kvPut
  split
  · rename_i h
    induction l with
    | nil => cases h
    | cons p r ih =>
      rw [List.map_cons]
      by_cases e : p.1 = k
      · rw [if_pos e, kvLook]
        by_cases e2 : k = k'
        · rw [if_pos e2, if_pos (e.trans e2)]
        · rw [if_neg e2, if_neg (fun z => e2 (e.symm.trans z)), kvLook, if_neg (fun z => e2 (e.symm.trans z))]
          clear ih h
          induction r with
          | nil => rfl
          | cons q s ih =>
            rw [List.map_cons]
            by_cases e3 : q.1 = k
            · rw [if_pos e3, kvLook, if_neg (fun z => e2 (e3.symm.trans z)), ih, kvLook, if_neg (fun z => e2 (e3.symm.trans z))]
            · rw [if_neg e3, kvLook, ih, kvLook]
      · rw [if_neg e, kvLook]
        have h' : (r.any fun p => decide (p.1 = k)) = true := by
          rw [List.any_cons, decide_eq_false e, Bool.false_or] at h; exact h
        rw [ih h', kvLook]
        by_cases e2 : k = k'
        · rw [if_pos e2, if_neg (fun z => e (z.trans e2.symm)), if_pos e2]
        · rw [if_neg e2, if_neg e2]
  · rename_i h
    induction l with
    | nil => simp [kvLook]
    | cons p r ih =>
      have h1 : ¬ p.1 = k ∧ ¬ (r.any fun p => decide (p.1 = k)) = true := by
        constructor
        · intro e; exact h (by rw [List.any_cons, decide_eq_true e]; rfl)
        · intro e; exact h (by rw [List.any_cons, e, Bool.or_true])
      rw [List.cons_append, kvLook, ih h1.2, kvLook]
      by_cases e2 : k = k'
      · rw [if_pos e2, if_neg (fun z => h1.1 (z.trans e2.symm)), if_pos e2]
      · rw [if_neg e2, if_neg e2]
end
structure Dct (κ ν : Type) where
  l : List (κ × ν)
  deriving DecidableEq
abbrev KR {κ ν : Type} [Rp ν] (K : PySem.W.Frag) (F : Hp) : List (κ × V) → List (κ × ν) → Prop := Paired fun p q => p.1 = q.1 ∧ rp K F p.2 q.2
section
variable {κ ν : Type} [Rp ν] {K : PySem.W.Frag} {F F' : Hp}
theorem KR.mono {kvs : List (κ × V)} {l : List (κ × ν)} (s : L2.Same F F') (h : KR K F kvs l) : KR K F' kvs l := Paired.mapP h fun _ _ ⟨e, r⟩ => ⟨e, Rp.mono s r⟩
variable [DecidableEq κ]
theorem KR.look (k : κ) : ∀ {kvs : List (κ × V)} {l : List (κ × ν)}, KR K F kvs l → (kvLook kvs k = none ∧ kvLook l k = none) ∨ ∃ v x, kvLook kvs k = some v ∧ kvLook l k = some x ∧ rp K F v x
  | _, _, .nil => .inl ⟨rfl, rfl⟩
  | _, _, .cons (a := p) (b := q) ⟨e, r⟩ t => by
    by_cases h : p.1 = k
    · exact .inr ⟨p.2, q.2, by rw [kvLook, if_pos h], by rw [kvLook, if_pos (e ▸ h)], r⟩
    · rw [kvLook, if_neg h, kvLook, if_neg (fun z => h (e.trans z))]
      exact KR.look k t
theorem KR.any (k : κ) : ∀ {kvs : List (κ × V)} {l : List (κ × ν)}, KR K F kvs l → (kvs.any fun p => decide (p.1 = k)) = l.any fun p => decide (p.1 = k)
  | _, _, .nil => rfl
  | _, _, .cons ⟨e, _⟩ t => by rw [List.any_cons, List.any_cons, KR.any k t, e]
theorem KR.map (k : κ) {v : V} {x : ν} (r : rp K F v x) : ∀ {kvs : List (κ × V)} {l : List (κ × ν)}, KR K F kvs l → KR K F (kvs.map fun p => if p.1 = k then (p.1, v) else p) (l.map fun p => if p.1 = k then (p.1, x) else p)
  | _, _, .nil => .nil
  | _, _, .cons (a := p) (b := q) ⟨e, r'⟩ t => by
    rw [List.map_cons, List.map_cons]
    refine .cons ?_ (KR.map k r t)
    by_cases h : p.1 = k
    · rw [if_pos h, if_pos (e ▸ h)]; exact ⟨e, r⟩
    · rw [if_neg h, if_neg (fun z => h (e.trans z))]; exact ⟨e, r'⟩
theorem KR.app {kvs ws : List (κ × V)} {l m : List (κ × ν)} (h : KR K F kvs l) (h' : KR K F ws m) : KR K F (kvs ++ ws) (l ++ m) := by
  induction h with
  | nil => exact h'
  | cons r t ih => exact .cons r ih
theorem KR.put {k : κ} {v : V} {x : ν} {kvs : List (κ × V)} {l : List (κ × ν)} (h : KR K F kvs l) (r : rp K F v x) : KR K F (kvPut kvs k v) (kvPut l k x) := by
  unfold kvPut
  rw [h.any k]
  split
  · exact KR.map k r h
  · exact h.app (.cons ⟨rfl, r⟩ .nil)
theorem KR.drop {k : κ} : ∀ {kvs : List (κ × V)} {l : List (κ × ν)}, KR K F kvs l → KR K F (kvDrop kvs k) (kvDrop l k)
  | _, _, .nil => .nil
  | _, _, .cons (a := p) (b := q) ⟨e, r'⟩ t => by
    unfold kvDrop
    by_cases h : p.1 = k
    · rw [List.filter_cons_of_neg (by simp [h]), List.filter_cons_of_neg (by simp [← e, h])]; exact KR.drop t
    · rw [List.filter_cons_of_pos (by simp [h]), List.filter_cons_of_pos (by simp [← e, h])]; exact .cons ⟨e, r'⟩ (KR.drop t)
end
class KeyS (κ : Type) [Rp κ] where
  g : κ → Key
  inj : ∀ x y, g x = g y → x = y
  rpg : ∀ {K : PySem.W.Frag} {F : Hp} {v : V} {k : κ}, rp K F v k ↔ v = kV (g k)
instance : KeyS Int := ⟨.inl, fun _ _ h => Sum.inl.inj h, Iff.rfl⟩
instance : KeyS Str := ⟨.inr, fun _ _ h => Sum.inr.inj h, Iff.rfl⟩
class KeyT (κ : Type) [Rp κ] where
  g : κ → List Key
  inj : ∀ x y, g x = g y → x = y
  rpg : ∀ {K : PySem.W.Frag} {F : Hp} {v : V} {k : κ}, rp K F v k ↔ ∃ b, v = .ref b ∧ F b = some (.tup ((g k).map kV))
class DKey (κ : Type) [Rp κ] [DecidableEq κ] where
  hob : List (κ × V) → HO
  inj : ∀ {a b}, hob a = hob b → a = b
  mu : ∀ kvs, Mut (some (hob kvs))
  ls : ∀ kvs, lstish (hob kvs)
  isD : ∀ {H : Hp} {a : Addr} {kvs}, Rd H a (hob kvs) → IsD H a
  get : ∀ {K : PySem.W.Frag} {F H : Hp} {a : Addr} {v : V} {k : κ} {kvs}, L2.Same F H → rp K F v k → Rd H a (hob kvs) → DGet H a v (kvLook kvs k)
  put : ∀ {K : PySem.W.Frag} {F H : Hp} {a : Addr} {v x : V} {k : κ} {kvs}, L2.Same F H → rp K F v k → H a = some (hob kvs) → kvs.length < sizeLine → DPut H a v x (upd H a (hob (kvPut kvs k x)))
  new : ∀ {X : Cx} {pos : Pos}, PE X (.Dict [] [] pos) fun _ H Q => ∀ p, H p = none → Q (.ref p) (upd H p (hob []))
  kd : ∀ {K : PySem.W.Frag} {H : Hp} {a : Addr} {kvs}, Rd H a (hob kvs) → Kn K H (.ref a) "dict"
  le : ∀ {P : Program} {w : World} {H : Hp} {h : Heap} {a : Addr} {kvs}, ObjOk P w H h a (hob kvs) → kvs.length ≤ sizeLine
theorem kvm_inj {κ κ' α : Type} {g : κ → κ'} (hg : ∀ x y, g x = g y → x = y) : ∀ {a b : List (κ × α)}, kvm g a = kvm g b → a = b
  | [], [], _ => rfl
  | [], _ :: _, h => by cases h
  | _ :: _, [], h => by cases h
  | p :: r, q :: s, h => by
    rw [kvm, kvm, List.map_cons, List.map_cons, List.cons.injEq] at h
    obtain ⟨h1, h2⟩ := h
    rw [kvm_inj hg h2]
    rw [Prod.mk.injEq] at h1
    congr 1
    exact Prod.ext (hg _ _ h1.1) h1.2
theorem kvm_len {κ κ' α : Type} {g : κ → κ'} (l : List (κ × α)) : (kvm g l).length = l.length := by rw [kvm, List.length_map]
instance {κ : Type} [Rp κ] [DecidableEq κ] [KeyS κ] : DKey κ where
  hob kvs := .dK (kvm KeyS.g kvs)
  inj h := kvm_inj KeyS.inj (HO.dK.inj h)
  mu _ := trivial
  ls _ := trivial
  isD h := .inl ⟨_, h⟩
  get s r h := .inl ⟨_, _, h, KeyS.rpg.mp r, (kvm_val KeyS.inj _ _).symm⟩
  put s r h hl := .inl ⟨_, _, h, KeyS.rpg.mp r, by rw [kvm_len]; exact hl, by rw [kvm_put KeyS.inj]⟩
  new := pe_dnewK
  kd h := .dK h
  le h := by obtain ⟨z, _⟩ := (show ObjOk _ _ _ _ _ (.dK _) from h); rw [kvm_len] at z; exact z
instance {κ : Type} [Rp κ] [DecidableEq κ] [KeyT κ] : DKey κ where
  hob kvs := .dT (kvm KeyT.g kvs)
  inj h := kvm_inj KeyT.inj (HO.dT.inj h)
  mu _ := trivial
  ls _ := trivial
  isD h := .inr ⟨_, h⟩
  get s r h := by
    obtain ⟨b, e, hb⟩ := KeyT.rpg.mp r
    exact .inr ⟨_, _, b, h, e, s _ _ hb, (kvm_val KeyT.inj _ _).symm⟩
  put s r h hl := by
    obtain ⟨b, e, hb⟩ := KeyT.rpg.mp r
    exact .inr ⟨_, _, b, h, e, s _ _ hb, by rw [kvm_len]; exact hl, by rw [kvm_put KeyT.inj]⟩
  new := pe_dnewT
  kd h := .dT h
  le h := by obtain ⟨z, _⟩ := (show ObjOk _ _ _ _ _ (.dT _) from h); rw [kvm_len] at z; exact z
class KeyR (τ : Type) [Ra τ] where
  g : τ → List Key
  inj : ∀ x y, g x = g y → x = y
  rpg : ∀ {K : PySem.W.Frag} {F : Hp} {vs : List V} {k : τ}, ra K F vs k ↔ vs = (g k).map kV
instance : KeyR Unit := ⟨fun _ => [], fun _ _ _ => rfl, Iff.rfl⟩
instance {α τ : Type} [Rp α] [Ra τ] [KeyS α] [KeyR τ] : KeyR (α × τ) := ⟨fun x => KeyS.g x.1 :: KeyR.g x.2, fun x y h => by
  rw [List.cons.injEq] at h
  exact Prod.ext (KeyS.inj _ _ h.1) (KeyR.inj _ _ h.2), by
  intro K F vs k
  constructor
  · rintro ⟨v, r, e, p, q⟩
    rw [e, KeyS.rpg.mp p, KeyR.rpg.mp q]; rfl
  · intro h
    exact ⟨_, _, h, KeyS.rpg.mpr rfl, KeyR.rpg.mpr rfl⟩⟩
theorem keyR_rp {θ τ : Type} [Ra τ] [KeyR τ] {row : θ → τ} {K : PySem.W.Frag} {F : Hp} {v : V} {k : θ} : rpT row K F v k ↔ ∃ b, v = .ref b ∧ F b = some (.tup ((KeyR.g (row k)).map kV)) := by
  constructor
  · rintro ⟨b, vs, e, q, r⟩
    exact ⟨b, e, by rw [← KeyR.rpg.mp r]; exact q⟩
  · rintro ⟨b, e, q⟩
    exact ⟨b, _, e, q, KeyR.rpg.mpr rfl⟩
instance {α : Type} [Rp α] [KeyS α] : KeyT (T1 α) := ⟨fun x => KeyR.g x.row, fun x y h => by cases x; cases y; simpa [T1.row] using KeyR.inj _ _ h, keyR_rp⟩
instance {α β : Type} [Rp α] [Rp β] [KeyS α] [KeyS β] : KeyT (T2 α β) := ⟨fun x => KeyR.g x.row, fun x y h => by cases x; cases y; simpa [T2.row] using KeyR.inj _ _ h, keyR_rp⟩
instance {α β γ : Type} [Rp α] [Rp β] [Rp γ] [KeyS α] [KeyS β] [KeyS γ] : KeyT (T3 α β γ) := ⟨fun x => KeyR.g x.row, fun x y h => by cases x; cases y; simpa [T3.row] using KeyR.inj _ _ h, keyR_rp⟩
theorem keys_rps {α : Type} [Rp α] [KeyS α] {K : PySem.W.Frag} {F : Hp} : ∀ {vs : List V} {xs : List α}, Rps K F vs xs ↔ vs = (xs.map KeyS.g).map kV
  | [], [] => ⟨fun _ => rfl, fun _ => .nil⟩
  | [], _ :: _ => ⟨fun h => (by cases h), fun h => (by cases h)⟩
  | _ :: _, [] => ⟨fun h => (by cases h), fun h => (by cases h)⟩
  | v :: vs, x :: xs => by
    rw [List.map_cons, List.map_cons]
    constructor
    · intro h
      cases h with
      | cons r t => rw [KeyS.rpg.mp r, keys_rps.mp t]
    · intro h
      rw [List.cons.injEq] at h
      exact .cons (KeyS.rpg.mpr h.1) (keys_rps.mpr h.2)
instance {α : Type} [Rp α] [KeyS α] : KeyT (Tp α) := ⟨fun x => x.l.map KeyS.g, fun x y h => by
  cases x; cases y
  congr 1
  rename_i a b
  have : ∀ a b : List α, a.map KeyS.g = b.map KeyS.g → a = b := by
    intro a
    induction a with
    | nil => intro b h; cases b with
      | nil => rfl
      | cons _ _ => cases h
    | cons x r ih => intro b h; cases b with
      | nil => cases h
      | cons y s =>
        rw [List.map_cons, List.map_cons, List.cons.injEq] at h
        rw [KeyS.inj _ _ h.1, ih _ h.2]
  exact this a b h, by
  intro K F v k
  constructor
  · rintro ⟨b, vs, e, q, r⟩
    exact ⟨b, e, by rw [← keys_rps.mp r]; exact q⟩
  · rintro ⟨b, e, q⟩
    exact ⟨b, _, e, q, keys_rps.mpr rfl⟩⟩
instance {κ ν : Type} [Rp κ] [DecidableEq κ] [DKey κ] [Rp ν] : Rp (Dct κ ν) := ⟨fun K F v d => ∃ a o kvs, v = .ref a ∧ F a = some (.frz o (DKey.hob kvs)) ∧ KR K F kvs d.l, fun s ⟨a, o, kvs, e, q, r⟩ => ⟨a, o, kvs, e, s _ _ q, r.mono s⟩⟩
instance {κ ν : Type} [Rp κ] [DecidableEq κ] [DKey κ] [Rp ν] : Ob (Dct κ ν) := ⟨fun K F o d => ∃ kvs, o = DKey.hob kvs ∧ KR K F kvs d.l, fun s ⟨kvs, e, r⟩ => ⟨kvs, e, r.mono s⟩, fun ⟨kvs, e, r⟩ => e ▸ DKey.mu kvs, fun ⟨kvs, e, r⟩ => e ▸ DKey.ls kvs,
  fun {K F o x l od} h ⟨kvs, e, r⟩ => ⟨l, od, kvs, rfl, e ▸ h, r⟩⟩
instance {κ ν : Type} [Rp κ] [DecidableEq κ] [DKey κ] [Rp ν] : NN (Dct κ ν) := ⟨fun ⟨_, _, _, e, _⟩ => nomatch e⟩
instance {κ ν : Type} [Rp κ] [DecidableEq κ] [DKey κ] [Rp ν] : Kd (Dct κ ν) := ⟨"dict", fun s ⟨a, o, kvs, e, q, r⟩ => e ▸ DKey.kd (.inr ⟨o, s _ _ q⟩)⟩
section
variable {κ ν : Type} [Rp κ] [DecidableEq κ] [DKey κ] [Rp ν]
variable {X : Cx} {K : PySem.W.Frag} {e a b c d : Expr} {es : List Expr} {σ : L2.St} {F H F0 H0 : Hp} {pos : Pos} {D : Ends} {st : Stmt} {rest body : List Stmt}
abbrev Dct.look (d : Dct κ ν) (k : κ) : Option ν := kvLook d.l k
abbrev Dct.put (d : Dct κ ν) (k : κ) (v : ν) : Dct κ ν := ⟨kvPut d.l k v⟩
abbrev Dct.drop (d : Dct κ ν) (k : κ) : Dct κ ν := ⟨kvDrop d.l k⟩
theorem en_dict : EvN X (.Dict [] [] pos) σ F H (Dct.mk ([] : List (κ × ν))) := fun F1 H1 g Q q =>
  GoE.of DKey.new fun p hp => EvN.newO q (.refl g.fh) hp ⟨[], rfl, .nil⟩
theorem ev_dget {m : Dct κ ν} {k : κ} {r : ν} (hu : X.A.units + 1 < cLine) (ha : Ev X a σ F H m) (hb : Ev X b σ F H k) (h : m.look k = some r) (hs : NoSl b := by exact fun _ _ => rfl) : Ev X (.Subscript a b pos) σ F H r := fun F1 H1 g Q q =>
  GoE.of (pe_dget hu pe_go pe_go hs) (ha F1 H1 g _ fun v F2 H2 g2 r2 => hb F2 H2 (g.trans g2) _ fun w F3 H3 g3 r3 => by
    obtain ⟨p, o, kvs, e, hq, kr⟩ := Rp.mono g3.ff r2
    rcases kr.look k with ⟨_, h2⟩ | ⟨v', x, h1, h2, h3⟩
    · rw [Dct.look, h2] at h; cases h
    · rw [Dct.look, h2] at h
      cases h
      exact ⟨p, v', e, h1 ▸ DKey.get g3.fh r3 (.inr ⟨o, g3.fh _ _ hq⟩), q v' F3 H3 (g2.trans g3) h3⟩)
def dputG (m : Dct κ ν) (k : κ) (v : ν) : Option (Dct κ ν) := if m.l.length < sizeLine then some (m.put k v) else none
theorem dputG_of {m r : Dct κ ν} {k : κ} {v : ν} (h : dputG m k v = some r) : m.l.length < sizeLine ∧ m.put k v = r := by
  unfold dputG at h; split at h
  · exact ⟨by assumption, Option.some.inj h⟩
  · cases h
theorem go_dput {m r : Dct κ ν} {k : κ} {x : ν} {l : Addr} {n : Str} {p1 p2 : Pos} (i : Nat) (s : SmX X.K F H) (hu : X.A.units + 1 < cLine) (o : Own X.K H0 F H l m) (hσ : σ[i]? = some (some (.ref l))) (hv : Ev X e σ F H x) (hk : Ev X b σ F H k) (h : dputG m k x = some r)
    (q : ∀ u F' H', Gr F H F' H' → PlAt H' l → F' l = none → Own X.K H0 F' (upd H' l u) l r → GoS X rest D σ (upd H' l u)) (hN : X.N[i]? = some n := by rfl) (hvis : Vis X.env.scope n := by first | exact Or.inl rfl | exact Or.inr (Or.inl rfl) | exact Or.inr (Or.inr rfl))
    (hd : (n == ("__debug__" : Str)) = false := by decide) (hcd : (n == ("__classdict__" : Str)) = false := by decide) (hs : NoSl b := by exact fun _ _ => rfl) (hsw : swapsWith e (some (.Subscript (.Name n p1) b p2)) pos.line X.env = pure false := by rfl) :
    GoS X (.Assign [.Subscript (.Name n p1) b p2] e pos :: rest) D σ H := by
  obtain ⟨hl, rfl⟩ := dputG_of h
  refine GoS.cons (ps_dput hu (pe_var hN hvis hd hcd) pe_go pe_go hsw) (hv F H (.refl s) _ fun v F2 H2 g2 r2 => ⟨_, hσ, hk F2 H2 (s.gx g2) _ fun w F3 H3 g3 r3 => ?_⟩)
  have o3 := (o.up g2).up g3
  obtain ⟨_, h3, kvs, rfl, kr⟩ := o3.h
  have hlen : kvs.length = m.l.length := Paired.length kr
  exact ⟨l, _, rfl, DKey.put g3.fh r3 h3 (by rw [hlen]; exact hl), q _ F3 H3 (g2.trans g3) o3.pl o3.f (Own.set o3.n o3.f ⟨_, rfl, kr.put (Rp.mono g3.ff r2)⟩)⟩
end
end Gx
namespace Gx
open PySem PySem.Spec PyProof.Rows L2
open Rp (rp)
open Ra (ra)
open Ob (ob)
theorem KR.fl {κ ν : Type} [Rp ν] [Flat ν] {K : PySem.W.Frag} {F : Hp} {l : Addr} {kvs : List (κ × V)} {m : List (κ × ν)} (h1 : ∀ xs, ¬ F l = some (.tup xs)) (h2 : ∀ o xs, ¬ F l = some (.frz o (.tup xs))) (h : KR K F kvs m) : KR K (er F l) kvs m := Paired.mapP h fun _ _ ⟨e, r⟩ => ⟨e, Flat.fl h1 h2 r⟩
instance {κ ν : Type} [Rp κ] [DecidableEq κ] [DKey κ] [Rp ν] [Flat ν] : FlatO (Dct κ ν) := ⟨fun h1 h2 ⟨kvs, e, r⟩ => ⟨kvs, e, KR.fl h1 h2 r⟩⟩
instance {α : Type} [Rp α] [Flat α] : Flat (Tn α) := ⟨fun {K F l v x} h1 h2 ⟨a, vs, o, e, q, d, c, r⟩ => ⟨a, vs, o, e, by unfold er; rw [if_neg (show ¬ a = l from fun z => h2 o vs (z ▸ q))]; exact q, d, c, Rps.fl h1 h2 r⟩⟩
instance {α : Type} [Rp α] [Pd α] : Pd (Tn α) := ⟨fun xs => .tuple (xs.l.map Pd.toD), fun ⟨a, vs, o, e, sq, _, _, rs⟩ => e ▸ .tup (.inl (.inr ⟨o, sq⟩)) (Dp.all rs), fun x y => by
  rw [PyData.eqv]
  cases x; cases y
  rw [eqvAll_iff, Tn.mk.injEq]⟩
instance {α : Type} [Rp α] [Pd α] [PdS α] : PdS (Tn α) := ⟨PdS.dep α + 1, fun x => by
  show (PyData.depthAll (x.l.map Pd.toD)) + 1 ≤ _
  exact Nat.succ_le_succ (dpAll_le x.l)⟩
instance {α : Type} [Rp α] [Pd α] [PdF α] : PdF (Tn α) := ⟨fun x => layAll fun y _ => PdF.ok y⟩
section
variable {κ ν : Type} [Rp κ] [DecidableEq κ] [Rp ν]
variable {X : Cx} {K : PySem.W.Frag} {e a b c d : Expr} {es : List Expr} {σ : L2.St} {F H F0 H0 : Hp} {pos : Pos} {D : Ends} {st : Stmt} {rest body : List Stmt}
def Dct.keys (m : Dct κ ν) : List κ := m.l.map (·.1)
def Dct.vals (m : Dct κ ν) : List ν := m.l.map (·.2)
def Dct.items (m : Dct κ ν) : List (T2 κ ν) := m.l.map fun p => ⟨p.1, p.2⟩
theorem KR.get : ∀ {kvs : List (κ × V)} {l : List (κ × ν)} {i : Nat} {p : κ × ν}, KR K F kvs l → l[i]? = some p → ∃ v, kvs[i]? = some (p.1, v) ∧ rp K F v p.2
  | _, _, _, _, .nil, h => by simp at h
  | _, _, 0, p, .cons (a := q) ⟨e, r⟩ _, h => by
    simp at h; subst h
    exact ⟨q.2, by rw [← e]; simp, r⟩
  | _, _, i + 1, p, .cons _ t, h => by
    obtain ⟨v, h1, h2⟩ := KR.get t (by simpa using h)
    exact ⟨v, by simpa using h1, h2⟩
theorem en_dictOf [KeyS κ] {m : Dct κ ν} {p : Pos} (hm : X.mg "dict" = none) (ha : Ev X a σ F H m) (hg : Gl X "dict" := by rfl) (hs : starEach [a] X.env = (false, eval a X.env) :: starEach [] X.env := by rfl) (hpl : (backTo pos (starEach [] X.env)).any (·.1) = false := by rfl) :
    EvN X (.Call (.Name "dict" p) [a] [] pos) σ F H m := fun F1 H1 g Q q =>
  GoE.of (pe_callTy call_dictD hg hm (by decide +kernel) (pa_cons pe_go pa_nil hs) (by decide) (by decide) hs hpl) (ha F1 H1 g _ fun v F2 H2 g2 r2 => by
    obtain ⟨p, o, kvs, e, hq, kr⟩ := r2
    exact ⟨p, _, by rw [e], .inr ⟨o, g2.fh _ _ hq⟩, fun p' hp => EvN.newO q g2 hp ⟨kvs, rfl, kr⟩⟩)
def rEqR : R2 := fun x y H Q => ∃ a b ks ls, x = .ref a ∧ y = .ref b ∧ Rd H a (.dK ks) ∧ Rd H b (.dK ls) ∧ ks.length = ls.length ∧ (∀ p ∈ ks, valV ls p.1 = some p.2 ∧ flatB p.2 = true) ∧ Q (.bl true) H
def rNeR : R2 := fun x y H Q => ∃ a b ks ls, x = .ref a ∧ y = .ref b ∧ Rd H a (.dK ks) ∧ Rd H b (.dK ls) ∧ ks.length = ls.length ∧ (∀ p ∈ ks, valV ls p.1 = some p.2 ∧ flatB p.2 = true) ∧ Q (.bl false) H
variable [KeyS κ] [KeyS ν] [DecidableEq ν]
def Dct.alike (m n : Dct κ ν) : Prop := m.l.length = n.l.length ∧ ∀ p ∈ m.l, kvLook n.l p.1 = some p.2
instance (m n : Dct κ ν) : Decidable (m.alike n) := inferInstanceAs (Decidable (_ ∧ _))
def deqG (m n : Dct κ ν) : Option Bool := if m.alike n then some true else none
theorem KR.mem {kvs : List (κ × V)} {l : List (κ × ν)} {q : κ × V} (h : KR K F kvs l) (hq : q ∈ kvs) : ∃ p ∈ l, p.1 = q.1 ∧ rp K F q.2 p.2 := by
  induction h with
  | nil => cases hq
  | cons r t ih =>
    rcases List.mem_cons.mp hq with e | hq
    · subst e; exact ⟨_, List.mem_cons_self, r.1.symm, r.2⟩
    · obtain ⟨p, h1, h2⟩ := ih hq
      exact ⟨p, List.mem_cons_of_mem _ h1, h2⟩
end
section
theorem room1 {k : Nat} {A : Around} (r : Room k A) : A.units + 1 < cLine := by have := r.un; omega
variable {α : Type} [Rp α] {X : Cx} {K : PySem.W.Frag} {e a b c d : Expr} {es : List Expr} {σ : L2.St} {F H F0 H0 : Hp} {pos : Pos}
theorem Ev.re {β : Type} [Rp β] {x : α} {y : β} (h : Ev X e σ F H x) (f : ∀ (F : Hp) (v : V), rp X.K F v x → rp X.K F v y) : Ev X e σ F H y := fun F1 H1 g Q q => h F1 H1 g Q fun v F2 H2 g2 r => q v F2 H2 g2 (f _ _ r)
theorem tp1 {F : Hp} {v : V} {x : T1 α} (h : rp K F v x) : rp K F v (Tp.mk [x.a]) := by
  obtain ⟨p, vs, e, q, v1, w1, e1, r1, e2⟩ := h
  have e2 : w1 = [] := e2
  subst e2; subst e1
  exact ⟨p, _, e, q, .cons r1 .nil⟩
theorem tp2 {F : Hp} {v : V} {x : T2 α α} (h : rp K F v x) : rp K F v (Tp.mk [x.a, x.b]) := by
  obtain ⟨p, vs, e, q, v1, w1, e1, r1, v2, w2, e2, r2, e3⟩ := h
  have e3 : w2 = [] := e3
  subst e3; subst e2; subst e1
  exact ⟨p, _, e, q, .cons r1 (.cons r2 .nil)⟩
theorem tp3 {F : Hp} {v : V} {x : T3 α α α} (h : rp K F v x) : rp K F v (Tp.mk [x.a, x.b, x.c]) := by
  obtain ⟨p, vs, e, q, v1, w1, e1, r1, v2, w2, e2, r2, v3, w3, e3, r3, e4⟩ := h
  have e4 : w3 = [] := e4
  subst e4; subst e3; subst e2; subst e1
  exact ⟨p, _, e, q, .cons r1 (.cons r2 (.cons r3 .nil))⟩
theorem tp4 {F : Hp} {v : V} {x : T4 α α α α} (h : rp K F v x) : rp K F v (Tp.mk [x.a, x.b, x.c, x.d]) := by
  obtain ⟨p, vs, e, q, v1, w1, e1, r1, v2, w2, e2, r2, v3, w3, e3, r3, v4, w4, e4, r4, e5⟩ := h
  have e5 : w4 = [] := e5
  subst e5; subst e4; subst e3; subst e2; subst e1
  exact ⟨p, _, e, q, .cons r1 (.cons r2 (.cons r3 (.cons r4 .nil)))⟩
theorem tp5 {F : Hp} {v : V} {x : T5 α α α α α} (h : rp K F v x) : rp K F v (Tp.mk [x.a, x.b, x.c, x.d, x.e]) := by
  obtain ⟨p, vs, e, q, v1, w1, e1, r1, v2, w2, e2, r2, v3, w3, e3, r3, v4, w4, e4, r4, v5, w5, e5, r5, e6⟩ := h
  have e6 : w5 = [] := e6
  subst e6; subst e5; subst e4; subst e3; subst e2; subst e1
  exact ⟨p, _, e, q, .cons r1 (.cons r2 (.cons r3 (.cons r4 (.cons r5 .nil))))⟩
theorem Ev.tp1 {x : T1 α} (h : Ev X e σ F H x) : Ev X e σ F H (Tp.mk [x.a]) := h.re fun _ _ => Gx.tp1
theorem Ev.tp2 {x : T2 α α} (h : Ev X e σ F H x) : Ev X e σ F H (Tp.mk [x.a, x.b]) := h.re fun _ _ => Gx.tp2
theorem Ev.tp3 {x : T3 α α α} (h : Ev X e σ F H x) : Ev X e σ F H (Tp.mk [x.a, x.b, x.c]) := h.re fun _ _ => Gx.tp3
theorem Ev.tp4 {x : T4 α α α α} (h : Ev X e σ F H x) : Ev X e σ F H (Tp.mk [x.a, x.b, x.c, x.d]) := h.re fun _ _ => Gx.tp4
theorem Ev.tp5 {x : T5 α α α α α} (h : Ev X e σ F H x) : Ev X e σ F H (Tp.mk [x.a, x.b, x.c, x.d, x.e]) := h.re fun _ _ => Gx.tp5
end
end Gx
namespace Gx
open PySem PySem.Spec PyProof.Rows L2
open Rp (rp)
open Ra (ra)
open Ob (ob)
section
variable {κ ν : Type} [Rp κ] [DecidableEq κ] [KeyS κ] [Rp ν]
variable {X : Cx} {K : PySem.W.Frag} {e a b c d : Expr} {σ : L2.St} {F H F0 H0 : Hp} {pos : Pos} {ks : List (Option Expr)} {vs : List Expr}
abbrev PR (K : PySem.W.Frag) (F : Hp) : List (V × V) → List (κ × ν) → Prop := Paired fun p q => rp K F p.1 q.1 ∧ rp K F p.2 q.2
theorem PR.mono {F' : Hp} {ps : List (V × V)} {l : List (κ × ν)} (s : L2.Same F F') (h : PR K F ps l) : PR K F' ps l := Paired.mapP h fun _ _ ⟨e, r⟩ => ⟨Rp.mono s e, Rp.mono s r⟩
def EvP (X : Cx) (pos : Pos) (ks : List (Option Expr)) (vs : List Expr) (σ : L2.St) (F H : Hp) (l : List (κ × ν)) : Prop := ∃ trs, PPs X pos ks vs trs ∧ ∀ F1 H1, GrX X.K F H F1 H1 → ∀ Q : List (V × V) → Hp → Prop, (∀ ps F2 H2, Gr F1 H1 F2 H2 → PR X.K F2 ps l → Q ps H2) → tPairs trs σ H1 Q
def kvMerge (l : List (κ × ν)) : List (κ × ν) := l.foldl (fun acc p => kvPut acc p.1 p.2) []
end
end Gx
namespace Gx
open PySem PySem.Spec PyProof.Rows L2
open Rp (rp)
section
variable {X : Cx} {K : PySem.W.Frag} {a b : Expr} {σ : L2.St} {F H : Hp} {pos : Pos} {α : Type} [Rp α]
theorem ipos {α : Type} {c : Prop} [Decidable c] {x y r : α} (h : c) (e : (if c then x else y) = r) : x = r := by rw [if_pos h] at e; exact e
theorem ineg {α : Type} {c : Prop} [Decidable c] {x y r : α} (h : ¬ c) (e : (if c then x else y) = r) : y = r := by rw [if_neg h] at e; exact e
variable [Pd α] [DecidableEq α]
theorem et_neD {x y : α} {r : Bool} (ha : Ev X a σ F H x) (hb : Ev X b σ F H y) (h : eqG x y = some r) (hu : X.A.units + 64 < cLine) : EvT X (.Compare a [.NotEq] [b] pos) σ F H (!r) := et_cmp (op_neD hu) (o2_neD h) ha hb (nomark _)
end
section
variable {X : Cx} {a b : Expr} {σ : L2.St} {F H : Hp} {pos : Pos} {κ ν : Type} [Rp κ] [Rp ν] [DecidableEq κ] [DecidableEq ν] [KeyS κ] [KeyS ν]
end
end Gx
namespace Gx
open PySem PySem.Spec PyProof.Rows L2
abbrev AlE : Type := He.AlD × Bool
abbrev frE (n : Nat) (g : Addr → Option Obj) : PySem.W.Frag := He.frG g (He.asD g n)
def obsE (n : Nat) (fa : List He.Fa) (fn : List He.DefD) (ex : PySem.W.Frag → Bool) (g : Addr → Option Obj) : AlE := (He.obsD fa fn (frE n g), ex (frE n g))
def hookE (n : Nat) (fa : List He.Fa) (fn : List He.DefD) (ex : PySem.W.Frag → Bool) : PySem.W.Hook where
  α := AlE
  obs s := obsE n fa fn ex s.heap.get?
  val _ := (He.valD fn, true)
  says _ h := ∃ K : PySem.W.Frag, K.In h ∧ He.SaysD fa fn K ∧ ex K = true
  of _ _ e := ⟨_, He.frG_in, congrArg (fun z : AlE => z.1) e, congrArg (fun z : AlE => z.2) e⟩
  keeps := fun _ _ _ ⟨K, hK, c⟩ k => ⟨K, PySem.W.Frag.In.keeps hK k, c⟩
end Gx
namespace Gx
open PySem PySem.Spec PyProof.Rows L2
def Ok {α : Type} (m : Option α) (P : α → Prop) : Prop := ∃ x, m = some x ∧ P x
section
variable {α β γ ρ : Type}
theorem Ok.ret {P : α → Prop} {x : α} (h : P x) : Ok (some x) P := ⟨x, rfl, h⟩
theorem Ok.of {P : α → Prop} {m : Option α} {x : α} (e : m = some x) (h : P x) : Ok m P := ⟨x, e, h⟩
theorem Ok.bind {m : Option α} {f : α → Option β} {P : α → Prop} {Q : β → Prop} (h : Ok m P) (k : ∀ x, P x → Ok (f x) Q) : Ok (m.bind f) Q := by
  obtain ⟨x, rfl, p⟩ := h
  exact k x p
theorem Ok.bindE {m : Option α} {f : α → Option β} {x : α} {Q : β → Prop} (h : m = some x) (k : Ok (f x) Q) : Ok (m.bind f) Q := by
  subst h; exact k
theorem Ok.mono {m : Option α} {P Q : α → Prop} (h : Ok m P) (k : ∀ x, P x → Q x) : Ok m Q := by
  obtain ⟨x, e, p⟩ := h
  exact ⟨x, e, k x p⟩
theorem Ok.ite {c : Prop} [Decidable c] {a b : Option α} {P : α → Prop} (h1 : c → Ok a P) (h2 : ¬ c → Ok b P) : Ok (if c then a else b) P := by
  by_cases h : c
  · rw [if_pos h]; exact h1 h
  · rw [if_neg h]; exact h2 h
theorem Ok.dite {p : Prop} [Decidable p] {a b : Option α} {P : α → Prop} (h1 : p → Ok a P) (h2 : ¬ p → Ok b P) : Ok (if decide p = true then a else b) P :=
  Ok.ite (fun h => h1 (of_decide_eq_true h)) (fun h => h2 fun z => h (decide_eq_true z))
theorem Ok.true_ {m : Option Bool} (h : Ok m (· = true)) : m = some true := by
  obtain ⟨x, e, p⟩ := h
  rw [e, p]
theorem Ok.eq {m : Option α} {y : α} (h : Ok m (· = y)) : m = some y := by
  obtain ⟨x, e, p⟩ := h
  rw [e, p]
theorem Ok.loopN {st : β → α → Option β} {b : β} {xs : List α} {Q : β → Prop} (J : β → List α → Prop) (h0 : J b xs) (hs : ∀ b x ys, J b (x :: ys) → Ok (st b x) fun b' => J b' ys) (hq : ∀ b, J b [] → Q b) : Ok (loopN st b xs) Q := by
  induction xs generalizing b with
  | nil => exact ⟨b, rfl, hq b h0⟩
  | cons x ys ih =>
    obtain ⟨b', e, h'⟩ := hs b x ys h0
    rw [loopN_cons e]
    exact ih h'
theorem Ok.loopM {st : β → α → Option (Lp β ρ)} {b : β} {xs : List α} {Q : Lp β ρ → Prop} (J : β → List α → Prop) (h0 : J b xs) (hs : ∀ b x ys, J b (x :: ys) → Ok (st b x) fun o => match o with | .nx b' => J b' ys | .bk b' => Q (.bk b') | .rt r => Q (.rt r)) (hq : ∀ b, J b [] → Q (.nx b)) : Ok (loopM st b xs) Q := by
  induction xs generalizing b with
  | nil => exact ⟨.nx b, rfl, hq b h0⟩
  | cons x ys ih =>
    obtain ⟨o, e, h'⟩ := hs b x ys h0
    cases o with
    | nx b' => rw [loopM_nx e]; exact ih h'
    | bk b' => exact ⟨.bk b', by rw [Gx.loopM, e], h'⟩
    | rt r => exact ⟨.rt r, by rw [Gx.loopM, e], h'⟩
theorem Ok.whileN {c : β → Option Bool} {st : β → Option β} {n : Nat} {b : β} {Q : β → Prop} (J : β → Prop) (m : β → Nat) (h0 : J b) (hm : m b < n) (hs : ∀ b, J b → Ok (c b) fun t => (t = true → Ok (st b) fun b' => J b' ∧ m b' < m b) ∧ (t = false → Q b)) : Ok (whileN c st n b) Q := by
  induction n generalizing b with
  | zero => omega
  | succ n ih =>
    obtain ⟨t, e, h1, h2⟩ := hs b h0
    cases t with
    | false => exact ⟨b, by rw [Gx.whileN, e], h2 rfl⟩
    | true =>
      obtain ⟨b', e', j, l⟩ := h1 rfl
      rw [Gx.whileN, e]
      dsimp only
      rw [e']
      exact ih j (by omega)
theorem Ok.thn {o : Option (Lp β ρ)} {f : β → Option γ} {g : ρ → Option γ} {Q : γ → Prop} (P : Lp β ρ → Prop) (h : Ok o P) (k1 : ∀ b, P (.nx b) → Ok (f b) Q) (k2 : ∀ b, P (.bk b) → Ok (f b) Q) (k3 : ∀ r, P (.rt r) → Ok (g r) Q) : Ok (o.bind fun o => o.thn f g) Q := by
  obtain ⟨x, rfl, p⟩ := h
  cases x with
  | nx b => exact k1 b p
  | bk b => exact k2 b p
  | rt r => exact k3 r p
theorem Ok.comp {f : α → Option (Option γ)} {xs : List α} {P : List γ → Prop} (g : α → γ) (hl : xs.length ≤ 16777216) (h : ∀ x ∈ xs, f x = some (some (g x))) (hp : P (xs.map g)) : Ok (compG f xs) P := ⟨_, compG_map (by rw [szl]; exact hl) h, hp⟩
theorem Ok.compf {f : α → Option (Option γ)} {xs : List α} {P : List γ → Prop} (p : α → Bool) (g : α → γ) (hl : xs.length ≤ 16777216) (h : ∀ x ∈ xs, f x = some (if p x then some (g x) else none)) (hp : P ((xs.filter p).map g)) : Ok (compG f xs) P := ⟨_, compG_filter (by rw [szl]; exact hl) h, hp⟩
theorem Paired.mem {R : α → γ → Prop} {xs : List α} {ys : List γ} (h : Paired R xs ys) {y : γ} (hy : y ∈ ys) : ∃ x ∈ xs, R x y := by
  induction h with
  | nil => cases hy
  | cons r t ih =>
    rcases List.mem_cons.mp hy with e | hy
    · subst e; exact ⟨_, List.mem_cons_self, r⟩
    · obtain ⟨x, h1, h2⟩ := ih hy
      exact ⟨x, List.mem_cons_of_mem _ h1, h2⟩
theorem Paired.get {R : α → γ → Prop} {xs : List α} {ys : List γ} (h : Paired R xs ys) {i : Nat} {y : γ} (hy : ys[i]? = some y) : ∃ x, xs[i]? = some x ∧ R x y := by
  induction h generalizing i with
  | nil => simp at hy
  | cons r t ih =>
    cases i with
    | zero => simp at hy; subst hy; exact ⟨_, by simp, r⟩
    | succ i => obtain ⟨x, h1, h2⟩ := ih (by simpa using hy); exact ⟨x, by simpa using h1, h2⟩
theorem mulG_l {i j : Int} (h : -(2 ^ 64) < i ∧ i < 2 ^ 64) : mulG i j = some (i * j) := if_pos (.inl (CMul.l h))
theorem mulG_w {i j : Int} (h : CMulW i j) : mulG i j = some (i * j) := if_pos (.inr h)
theorem modG_p {i j : Int} (h : 0 < j) : modG i j = some (i % j) := if_pos h
theorem app_p {xs : List α} {y : α} (h : xs.length < 16777216) : app xs y = some (xs ++ [y]) := if_pos (by rw [szl]; exact h)
theorem catG_p {xs ys : List α} (h : xs.length + ys.length ≤ 16777216) : catG xs ys = some (xs ++ ys) := if_pos (by rw [szl]; exact h)
theorem rngG_p {j : Int} (h : -(2 ^ 62) ≤ j ∧ j < 2 ^ 62) : rngG j = some (intsF 0 j.toNat) := if_pos h
theorem rngG_n {n : Nat} (h : n ≤ 16777216) : rngG (n : Int) = some (intsF 0 n) := by
  have h1 : (n : Int) ≤ 16777216 := by omega
  have h2 : (0 : Int) ≤ n := Int.natCast_nonneg n
  have e := rngG_p (j := (n : Int)) ⟨Int.le_trans (by decide) h2, Int.lt_of_le_of_lt h1 (by decide)⟩
  rw [Int.toNat_natCast] at e
  exact e
theorem dputG_p {κ ν : Type} [Rp κ] [DecidableEq κ] [DKey κ] [Rp ν] {m : Dct κ ν} {k : κ} {v : ν} (h : m.l.length < 16777216) : dputG m k v = some ⟨kvPut m.l k v⟩ := if_pos (by rw [szl]; exact h)
theorem intsF_mem {lo : Int} {n : Nat} {x : Int} (h : x ∈ intsF lo n) : lo ≤ x ∧ x < lo + n := by
  obtain ⟨i, hi⟩ := List.mem_iff_getElem?.mp h
  obtain ⟨h1, h2⟩ := ints_get hi
  omega
theorem intsF_succ (lo : Int) (n : Nat) : intsF lo (n + 1) = lo :: intsF (lo + 1) n := by
  unfold intsF
  rw [List.range_succ_eq_map, List.map_cons, List.map_map]
  congr 1
  · simp
  · refine List.map_congr_left fun i _ => ?_
    show lo + ((i + 1 : Nat) : Int) = _
    omega
theorem atI_mem {xs : List α} {i : Int} (h0 : 0 ≤ i) (h1 : i < xs.length) : Ok (L2.atI xs i) fun v => v ∈ xs ∧ xs[i.toNat]? = some v := by
  obtain ⟨v, h2, h3⟩ := atI_ok h0 h1
  exact ⟨v, h2, List.mem_of_getElem? h3, h3⟩
theorem loopN_app {st : List γ → α → Option (List γ)} (f : α → γ) : ∀ (xs : List α) (b : List γ), b.length + xs.length ≤ 16777216 → (∀ x ∈ xs, ∀ b : List γ, b.length < 16777216 → st b x = some (b ++ [f x])) → loopN st b xs = some (b ++ xs.map f)
  | [], b, _, _ => by rw [loopN]; simp
  | x :: xs, b, hl, h => by
    rw [List.length_cons] at hl
    rw [loopN_cons (h x List.mem_cons_self b (by omega)), loopN_app f xs (b ++ [f x]) (by rw [List.length_append]; simp; omega) fun y hy => h y (List.mem_cons_of_mem _ hy)]
    simp
theorem loopN_map {st : List γ → α → Option (List γ)} (f : α → γ) (xs : List α) (hl : xs.length ≤ 16777216) (h : ∀ x ∈ xs, ∀ b : List γ, b.length < 16777216 → st b x = some (b ++ [f x])) : loopN st [] xs = some (xs.map f) :=
  loopN_app f xs [] (by simpa using hl) h
section
variable {κ ν : Type} [DecidableEq κ]
def Dct.nd (d : Dct κ ν) : Prop := (d.l.map (·.1)).Nodup
theorem kvPut_keys (l : List (κ × ν)) (k : κ) (v : ν) : (kvPut l k v).map (·.1) = if k ∈ l.map (·.1) then l.map (·.1) else l.map (·.1) ++ [k] := by
  unfold kvPut
  by_cases h : k ∈ l.map (·.1)
  · rw [if_pos h, if_pos (by
      obtain ⟨p, hp, e⟩ := List.mem_map.mp h
      exact List.any_eq_true.mpr ⟨p, hp, decide_eq_true e⟩), List.map_map]
    refine List.map_congr_left fun p _ => ?_
    show (if p.1 = k then (p.1, v) else p).1 = p.1
    split <;> rfl
  · rw [if_neg h, if_neg (fun z => by
      obtain ⟨p, hp, e⟩ := List.any_eq_true.mp z
      exact h (List.mem_map.mpr ⟨p, hp, of_decide_eq_true e⟩)), List.map_append]
    rfl
theorem kvPut_nd {l : List (κ × ν)} {k : κ} {v : ν} (h : (l.map (·.1)).Nodup) : ((kvPut l k v).map (·.1)).Nodup := by
  rw [kvPut_keys]
  split
  · exact h
  · rename_i hk
    rw [List.nodup_append]
    refine ⟨h, by simp, fun a ha b hb => ?_⟩
    have : b = k := by simpa using hb
    subst this
    intro e; subst e; exact hk ha
end
def cl (z : Str) : List Nat := z.cps.toList
theorem len_c (z : Str) : z.length = (cl z).length := len_cl z
theorem S_cl (x : Str) : S (cl x) = x := S_tl x
theorem cl_S (l : List Nat) : cl (S l) = l := rfl
theorem cl_inj {a b : Str} (h : cl a = cl b) : a = b := by
  rw [← S_tl a, ← S_tl b]; exact congrArg S h
theorem sAdd_cl {a b : Str} (h : (cl a).length + (cl b).length ≤ 16777216) : Ok (sAdd a b) fun r => cl r = cl a ++ cl b := ⟨a ++ b, sAdd_ok (by rw [len_c, len_c, szl]; exact h), app_cl a b⟩
theorem sCut_cl {z : Str} (hz : (cl z).length ≤ 16777216) (i j : Option Int) : Ok (sCut z i j) fun r => cl r = cut (cl z) i j := by
  obtain ⟨r, h1, _, h3⟩ := sCut_ok (z := z) (by rw [len_c, szl]; exact hz) i j
  exact ⟨r, h1, h3⟩
theorem take_drop_min {xs : List α} (a b : Nat) : (xs.drop (min a xs.length)).take (min b xs.length - min a xs.length) = (xs.drop a).take (b - a) := by
  rcases Nat.lt_or_ge a xs.length with h | h
  · rw [Nat.min_eq_left (Nat.le_of_lt h)]
    rcases Nat.lt_or_ge b xs.length with h2 | h2
    · rw [Nat.min_eq_left (Nat.le_of_lt h2)]
    · rw [Nat.min_eq_right h2, List.take_of_length_le (by rw [List.length_drop]; exact Nat.le_refl _), List.take_of_length_le (by rw [List.length_drop]; omega)]
  · rw [Nat.min_eq_right h, List.drop_of_length_le (Nat.le_refl _), List.drop_of_length_le h]; simp
theorem cut_mid {xs : List α} {i j : Int} (h0 : 0 ≤ i) (h1 : 0 ≤ j) : cut xs (some i) (some j) = (xs.drop i.toNat).take (j.toNat - i.toNat) := by
  obtain ⟨a, rfl⟩ : ∃ m : Nat, i = (m : Int) := ⟨i.toNat, by omega⟩
  obtain ⟨b, rfl⟩ : ∃ m : Nat, j = (m : Int) := ⟨j.toNat, by omega⟩
  unfold cut
  rw [HT.sIx_nat, HT.sIx_nat]
  exact take_drop_min a b
theorem cut_to {xs : List α} {n : Int} (h0 : 0 ≤ n) : cut xs none (some n) = xs.take n.toNat := by
  obtain ⟨m, rfl⟩ : ∃ m : Nat, n = (m : Int) := ⟨n.toNat, by omega⟩
  unfold cut
  rw [HT.sIx_nat, HT.sIx_none]
  have := take_drop_min (xs := xs) 0 m
  rw [Nat.min_eq_left (Nat.zero_le _)] at this
  exact this
theorem cut_from {xs : List α} {n : Int} (h0 : 0 ≤ n) : cut xs (some n) none = xs.drop n.toNat := by
  obtain ⟨m, rfl⟩ : ∃ m : Nat, n = (m : Int) := ⟨n.toNat, by omega⟩
  unfold cut
  rw [HT.sIx_nat, HT.sIx_none]
  have := take_drop_min (xs := xs) m xs.length
  rw [Nat.min_eq_left (Nat.le_refl _), List.take_of_length_le (l := xs.drop m) (by rw [List.length_drop]; exact Nat.le_refl _)] at this
  exact this
theorem map_cl_S (ys : List Str) : (ys.map cl).map S = ys := by
  rw [List.map_map]
  exact (List.map_congr_left fun y _ => S_tl y).trans (List.map_id _)
theorem sJoin_cl {x : Str} {ys : List Str} (h : (ys.map (·.length)).sum + ys.length * x.length ≤ 16777216) : Ok (sJoin x ys) fun r => cl r = TL.joinL (cl x) (ys.map cl) := by
  refine ⟨Txt.join x ys, if_pos h, ?_⟩
  have e := SX.join_S (cl x) (ys.map cl)
  have hx : SX.S (cl x) = x := S_tl x
  rw [map_cl_S, hx] at e
  rw [e]; rfl
theorem joinL_nil : ∀ ls : List (List Nat), TL.joinL [] ls = ls.flatten
  | [] => rfl
  | [p] => by simp [TL.joinL]
  | p :: q :: r => by
    rw [TL.joinL, joinL_nil (q :: r)]; simp
theorem len_sum {n : Nat} : ∀ {ys : List Str}, (∀ y ∈ ys, (cl y).length ≤ n) → (ys.map (·.length)).sum ≤ ys.length * n
  | [], _ => by simp
  | y :: ys, h => by
    rw [List.map_cons, List.sum_cons, List.length_cons, Nat.succ_mul, len_c]
    have h1 := h y List.mem_cons_self
    have h2 := len_sum fun z hz => h z (List.mem_cons_of_mem _ hz)
    omega
theorem sJoin_signs {ys : List Str} {cs : List Nat} (h : ys = cs.map fun c => ⟨#[c]⟩) (hl : cs.length ≤ 1000000) : Ok (sJoin ("" : Str) ys) fun r => cl r = cs := by
  have h1 : ∀ y ∈ ys, (cl y).length ≤ 1 := fun y hy => by
    subst h
    obtain ⟨c, _, rfl⟩ := List.mem_map.mp hy
    exact Nat.le_refl _
  have h2 := len_sum h1
  have h3 : ys.length = cs.length := by rw [h, List.length_map]
  refine (sJoin_cl ?_).mono fun r hr => ?_
  · rw [show ("" : Str).length = 0 from by decide]; omega
  · rw [hr, show cl ("" : Str) = [] from by decide, joinL_nil, h, List.map_map]
    clear h h1 h2 h3 hr hl
    induction cs with
    | nil => rfl
    | cons c cs ih => rw [List.map_cons, List.flatten_cons, ih]; rfl
def sok (z : Str) : Prop := ∀ c ∈ cl z, c < 1114112
theorem lay_str {z : Str} (h : sok z) : (Pd.toD z).canLay0 = true := by
  show PySem.PyData.canLay0 (.str z) = true
  rw [PyData.canLay0]
  show z.cps.all (· < 0x110000) = true
  rw [← Array.all_toList, List.all_eq_true]
  intro c hc
  exact decide_eq_true (h c hc)
class PdL (α : Type) [Rp α] [Pd α] where
  tx : α → Prop
  ok : ∀ {x : α}, tx x → (Pd.toD x).canLay0 = true
instance : PdL Int := ⟨fun _ => True, fun _ => PdF.ok _⟩
instance : PdL Bool := ⟨fun _ => True, fun _ => PdF.ok _⟩
instance : PdL Str := ⟨sok, lay_str⟩
instance {α : Type} [Rp α] [Pd α] [PdL α] : PdL (List α) := ⟨fun l => ∀ x ∈ l, PdL.tx x, fun h => layAll fun x hx => PdL.ok (h x hx)⟩
instance {α : Type} [Rp α] [Pd α] [PdL α] : PdL (Tp α) := ⟨fun l => ∀ x ∈ l.l, PdL.tx x, fun h => layAll fun x hx => PdL.ok (h x hx)⟩
instance {α : Type} [Rp α] [Pd α] [PdL α] : PdL (Tn α) := ⟨fun l => ∀ x ∈ l.l, PdL.tx x, fun h => layAll fun x hx => PdL.ok (h x hx)⟩
class PdRL (τ : Type) [Ra τ] [PdR τ] where
  tx : τ → Prop
  ok : ∀ {x : τ}, tx x → PyData.canLayAll0 (PdR.toR x) = true
instance : PdRL Unit := ⟨fun _ => True, fun _ => PdRF.ok _⟩
instance {α τ : Type} [Rp α] [Ra τ] [Pd α] [PdR τ] [PdL α] [PdRL τ] : PdRL (α × τ) := ⟨fun x => PdL.tx x.1 ∧ PdRL.tx x.2, fun {x} h => by
  show (PyData.canLay0 _ && PyData.canLayAll0 _) = true
  rw [PdL.ok h.1, PdRL.ok h.2]; rfl⟩
instance {α : Type} [Rp α] [Pd α] [PdL α] : PdL (T1 α) := ⟨fun x => PdRL.tx x.row, fun h => PdRL.ok h⟩
instance {α β : Type} [Rp α] [Rp β] [Pd α] [Pd β] [PdL α] [PdL β] : PdL (T2 α β) := ⟨fun x => PdRL.tx x.row, fun h => PdRL.ok h⟩
instance {α β γ : Type} [Rp α] [Rp β] [Rp γ] [Pd α] [Pd β] [Pd γ] [PdL α] [PdL β] [PdL γ] : PdL (T3 α β γ) := ⟨fun x => PdRL.tx x.row, fun h => PdRL.ok h⟩
instance {α β γ δ : Type} [Rp α] [Rp β] [Rp γ] [Rp δ] [Pd α] [Pd β] [Pd γ] [Pd δ] [PdL α] [PdL β] [PdL γ] [PdL δ] : PdL (T4 α β γ δ) := ⟨fun x => PdRL.tx x.row, fun h => PdRL.ok h⟩
instance {α β γ δ ε : Type} [Rp α] [Rp β] [Rp γ] [Rp δ] [Rp ε] [Pd α] [Pd β] [Pd γ] [Pd δ] [Pd ε] [PdL α] [PdL β] [PdL γ] [PdL δ] [PdL ε] : PdL (T5 α β γ δ ε) := ⟨fun x => PdRL.tx x.row, fun h => PdRL.ok h⟩
theorem okD_L {α : Type} [Rp α] [Pd α] [PdS α] [PdL α] {x : α} (h : PdL.tx x) (hd : PdS.dep α ≤ 64 := by decide) : okD x = true := okD_of hd (PdL.ok h)
theorem eqG_L {α : Type} [Rp α] [Pd α] [PdS α] [PdL α] [DecidableEq α] {x y : α} (h1 : PdL.tx x) (h2 : PdL.tx y) (hd : PdS.dep α ≤ 64 := by decide) : eqG x y = some (decide (x = y)) := eqG_ok (okD_L h1 hd) (okD_L h2 hd)
end
end Gx
namespace Gx
open PySem PySem.Spec PyProof.Rows L2
open Rp (rp)
open Ra (ra)
open Ob (ob)
section
variable {X : Cx} {K : PySem.W.Frag} {e a b c d : Expr} {es : List Expr} {σ : L2.St} {F H F0 H0 : Hp} {pos : Pos} {D : Ends} {st : Stmt} {rest body : List Stmt}
theorem GdT.er {l P : Addr} (a : GdT H P) (h : PlAt H l) : GdT (er H l) P := a.but h fun _ hb => if_neg hb
theorem Gr.over {F' H' : Hp} {l : Addr} (g : Gr F0 H0 F H) (n : H0 l = none) (g' : Gr F (er H l) F' H') (pl : PlAt H l) : Gr F0 H0 F' H' := by
  have lift : ∀ a o, H0 a = some o → ∀ u, H a = some u → er H l a = some u := fun a o h u e => by
    unfold er; rw [if_neg fun z => by rw [z, n] at h; cases h]; exact e
  refine ⟨g.ff.trans g'.ff, g'.fh, ⟨fun a o h ns => g'.hh.k a o (lift a o h _ (g.hh.k a o h ns)) ns, fun a ps h => ?_, fun P a => g'.hh.w P ((g.hh.w P a).er pl)⟩, fun a o h ns => ?_⟩
  · obtain ⟨qs, e⟩ := g.hh.t a ps h
    exact g'.hh.t a qs (lift a _ h _ e)
  · cases o with
    | tbl ps =>
      obtain ⟨qs, e⟩ := g.hh.t a ps h
      rw [g'.fr a _ (lift a _ h _ e) trivial, g.fr a _ h trivial]
    | _ => rw [g'.fr a _ (lift a _ h _ (g.hh.k a _ h trivial)) ns, g.fr a _ h ns]
theorem HasT.er {l : Addr} (h : HasT K F H) (pl : PlAt H l) : HasT K F (er H l) := ⟨fun P hP => ⟨(h.t P hP).1.er pl, (h.t P hP).2⟩⟩
theorem GrX.over {F' H' : Hp} {l : Addr} (g : GrX K F0 H0 F H) (n : H0 l = none) (g' : Gr F (er H l) F' H') (pl : PlAt H l) : GrX K F0 H0 F' H' := ⟨g.toGr.over n g' pl, (g.h.er pl).up g'⟩
theorem Own.over {α : Type} [Rp α] [Ob α] {x : α} {F' H' : Hp} {l l2 : Addr} (o : Own K H0 F H l2 x) (h : l2 ≠ l) (g : Gr F (er H l) F' H') : Own K H0 F' H' l2 x := by
  obtain ⟨u, hl, r⟩ := o.h
  have e : er H l l2 = some u := by unfold er; rw [if_neg h]; exact hl
  exact ⟨o.n, (g.fr l2 u e (Ob.ls r)).trans o.f, u, g.hh.k _ _ e (Ob.pl r).ntb, Ob.mono g.ff r⟩
theorem er_same {l : Addr} : er H l l = none := if_pos rfl
theorem er_ne {l a : Addr} (h : a ≠ l) : er H l a = H a := if_neg h
theorem same_er {l : Addr} (s : L2.Same F H) (f : F l = none) : L2.Same F (er H l) := fun a o h => by
  rw [er_ne (ne_of_none h f)]; exact s a o h
theorem SmX.er {l : Addr} (s : SmX K F H) (f : F l = none) (pl : PlAt H l) : SmX K F (er H l) := ⟨same_er s.s f, s.h.er pl⟩
theorem Xt.start {l : Addr} (_ : PlAt H l) : Xt (er H l) H := .same fun a o h => by
  unfold er at h; split at h
  · cases h
  · exact h
theorem Gr.start {l : Addr} (s : L2.Same F H) (f : F l = none) (pl : PlAt H l) : Gr F (er H l) F H := ⟨.refl _, s, .start pl, fun _ _ _ _ => rfl⟩
theorem zlook {names : List Str} {vs : List V} {i : Nat} {f : Str} {v : V} (h : names.idxOf f = i) (hi : i < names.length) (hv : vs[i]? = some v) : (names.zip vs).lookup f = some v := by
  induction names generalizing vs i with
  | nil => simp at hi
  | cons n ns ih =>
    cases vs with
    | nil => simp at hv
    | cons w ws =>
      rw [List.zip_cons_cons, List.lookup_cons]
      by_cases e : n = f
      · subst e
        have : i = 0 := by rw [← h, List.idxOf_cons_self]
        subst this
        simp at hv; subst hv; simp
      · have e' : (f == n) = false := beq_eq_false_iff_ne.mpr fun z => e z.symm
        rw [e']
        have hi2 : i = ns.idxOf f + 1 := by
          rw [← h, List.idxOf_cons, beq_eq_false_iff_ne.mpr e]; rfl
        subst hi2
        exact ih rfl (by simpa using hi) (by simpa using hv)
theorem putF_new {f : Str} {v : V} : ∀ {fs : List (Str × V)}, f ∉ fs.map (·.1) → putF f v fs = fs ++ [(f, v)]
  | [], _ => rfl
  | (g, x) :: r, h => by
    rw [List.map_cons, List.mem_cons] at h
    show (if g = f then _ else _) = _
    rw [if_neg (fun e => h (.inl e.symm)), putF_new fun z => h (.inr z)]; rfl
theorem zip_snoc {names : List Str} {vs : List V} {f : Str} {v : V} (h : names.length = vs.length) : names.zip vs ++ [(f, v)] = (names ++ [f]).zip (vs ++ [v]) := by
  rw [List.zip_append h]; rfl
theorem zip_names {names : List Str} {vs : List V} (h : names.length = vs.length) : (names.zip vs).map (·.1) = names := by
  rw [← List.unzip_fst, List.unzip_zip h]
def rpI (cn : Str) (names : List Str) {τ : Type} [Ra τ] (K : PySem.W.Frag) (F : Hp) (v : V) (x : τ) : Prop := ∃ a dx vs, v = .ref a ∧ F a = some (.ins (He.ga K cn) dx (names.zip vs)) ∧ ra K F vs x
theorem rpI.mono {cn : Str} {names : List Str} {τ : Type} [Ra τ] {F F' : Hp} {v : V} {x : τ} (s : L2.Same F F') : rpI cn names K F v x → rpI cn names K F' v x := fun ⟨a, dx, vs, e, q, r⟩ => ⟨a, dx, vs, e, s _ _ q, Ra.mono s r⟩
theorem rpI.nn {cn : Str} {names : List Str} {τ : Type} [Ra τ] {F : Hp} {x : τ} : ¬ rpI cn names K F .non x := fun ⟨_, _, _, e, _⟩ => nomatch e
def FldOf (K : PySem.W.Frag) {θ α : Type} [Rp θ] [Rp α] (fn : Str) (g : θ → α) : Prop := ∀ F v (d : θ), rp K F v d → ∃ a C dx fs u, v = .ref a ∧ F a = some (.ins C dx fs) ∧ Cls K C ∧ NoAttr K C fn ∧ fs.lookup fn = some u ∧ rp K F u (g d)
theorem ev_attr {θ α : Type} [Rp θ] [Rp α] {fn : Str} {g : θ → α} {x : θ} (f : FldOf X.K fn g) (h : Ev X e σ F H x) (hb : attributeBase e fn X.env (eval e X.env) = eval e X.env := by rfl) : Ev X (.Attribute e fn pos) σ F H (g x) := fun F1 H1 gr Q q =>
  GoE.of (pe_fld pe_go hb) (h F1 H1 gr _ fun v F2 H2 g2 r2 => by
    obtain ⟨a, C, dx, fs, u, e, hF, c, na, l, r⟩ := f F2 v x r2
    exact ⟨a, C, dx, fs, u, e, g2.fh _ _ hF, c, na, l, q u F2 H2 g2 r⟩)
def PrI (K : PySem.W.Frag) (C : Addr) (names : List Str) {τ ρ : Type} [Ra τ] [Ra ρ] (f : τ → Option ρ) : Sp := fun vs H Q _ => ∃ F x dx args a r, vs = .ref x :: args ∧ SmX K F H ∧ F x = none ∧ H x = some (.ins C dx []) ∧ ra K F args a ∧ f a = some r ∧
  ∀ F' H' ws, Gr F (er H x) F' H' → F' x = none → H' x = some (.ins C dx (names.zip ws)) → ra K F' ws r → Q .non H'
theorem go_fld {α : Type} [Rp α] {x : Addr} {y : α} {C dx : Addr} {names : List Str} {vs : List V} {fn n : Str} {p1 p2 : Pos} (i : Nat) (s : SmX X.K F H) (fx : F x = none) (hx : H x = some (.ins C dx (names.zip vs))) (hl : names.length = vs.length) (hn : names.length < 1000) (hf : fn ∉ names) (c : Cls X.K C) (na : NoAttr X.K C fn)
    (hσ : σ[i]? = some (some (.ref x))) (he : Ev X e σ F H y) (k : ∀ v F' H', Gr F H F' H' → rp X.K F' v y → F' x = none → H' x = some (.ins C dx (names.zip vs)) → GoS X rest D σ (upd H' x (.ins C dx ((names ++ [fn]).zip (vs ++ [v]))))) (hN : X.N[i]? = some n := by rfl) (hv : Vis X.env.scope n := by first | exact Or.inl rfl | exact Or.inr (Or.inl rfl) | exact Or.inr (Or.inr rfl))
    (hd : (n == ("__debug__" : Str)) = false := by decide) (hcd : (n == ("__classdict__" : Str)) = false := by decide) (hs : swapsWith e (some (.Attribute (.Name n p1) fn p2)) pos.line X.env = pure false := by rfl) : GoS X (.Assign [.Attribute (.Name n p1) fn p2] e pos :: rest) D σ H :=
  GoS.cons (ps_fld (pe_var hN hv hd hcd) pe_go hs) (he F H (.refl s) _ fun v F2 H2 g2 r2 => by
    have h2 := g2.hh.k _ _ hx trivial
    refine ⟨_, hσ, x, C, dx, _, rfl, h2, c, na, ?_, ?_⟩
    · rw [List.length_zip]; omega
    · rw [putF_new (by rw [zip_names hl]; exact hf), zip_snoc hl]
      exact k v F2 H2 g2 r2 ((g2.fr x _ hx trivial).trans fx) h2)
theorem fn_init {P : Program} {w : World} {mg : Str → Option Value} {base : Heap} {τ ρ : Type} [Ra τ] [RaN τ] [Ra ρ] {f : τ → Option ρ} {C : Addr} {names : List Str} {x qual : Str} {s0 : Stmt} {fa : Addr} {fd : FuncData} {N ps : List Str} {k : Nat} (Fn : FunD K x qual (defArgs s0) (defBody s0) (defScope s0) [] [] fa fd) (S : FnScope N ps (defScope s0)) (hn : RaN.n τ + 1 = ps.length)
    (hbody : ∀ (cdv : Value) (A : Around) (outer : List Env) (s : Shared) (F H : Hp) (y dx : Addr) (vs : List V) (a : τ) (r : ρ) (D : Ends) (E : XK), Room k (A.deeper (envOfC qual (defScope s0) s.heap.objs.size fa cdv)) → GrX K F (er H y) F H → F y = none → H y = some (.ins C dx []) → ra K F vs a → f a = some r →
      (∀ σ' F' H' ws, GrX K F (er H y) F' H' → F' y = none → H' y = some (.ins C dx (names.zip ws)) → ra K F' ws r → D.nx σ' H') → GoS (cxOf CX0 P w K mg base N qual (defScope s0) fa cdv A outer s H E).nox (defBody s0) D (start N (.ref y :: vs)) H) :
    FnOk P w K mg base CX0 (k + 1) fa fd ps (PrI K C names f) := by
  refine Fn.ok S (fun vs H Q E ⟨F, y, dx, args, a, r, e, _, _, _, ra', _⟩ => by rw [e, List.length_cons, RaN.len ra', hn]) fun cdv A outer s H vs Q E hr ⟨F, y, dx, args, a, r, e, sm, fy, hy, ra', hf, k⟩ => ?_
  subst e
  exact ⟨_, PSs.nox pss_go, hbody cdv A outer s F H y dx args a r { nx := fun _ H' => Q .non H', rt := Q } E hr ⟨Gr.start sm.s fy ⟨_, hy, trivial⟩, sm.h⟩ fy hy ra' hf fun σ' F' H' ws g f' h' r' => k F' H' ws g.toGr f' h' r'⟩
theorem ev_make {θ τ ρ : Type} [Rp θ] [Ra τ] [Ra ρ] {f : τ → Option ρ} {names : List Str} {y : τ} {r : ρ} {z : θ} {k : Nat} {fa : Addr} {fd : FuncData} {ps : List Str} {x cn : Str} {p : Pos} (rep : ∀ F v, rpI cn names X.K F v r → rp X.K F v z) (M : Mk X.K (He.ga X.K cn) fa) (Fn : FnOk X.prog X.w X.K X.mg X.base CX0 k fa fd ps (PrI X.K (He.ga X.K cn) names f)) (hr : Room (k + 1) X.A)
    (hm : X.mg x = some (.ref (He.ga X.K cn))) (hb : Binds X.K fd ps []) (ha : EvA X (e :: es) σ F H y) (h : f y = some r) (hg : Gl X x := by rfl) (hdb : (x == ("__debug__" : Str)) = false := by decide)
    (he : starEach (e :: es) X.env = (false, eval e X.env) :: starEach es X.env := by rfl) (hpl : (backTo pos (starEach es X.env)).any (·.1) = false := by rfl) : Ev X (.Call (.Name x p) (e :: es) [] pos) σ F H z := fun F1 H1 g Q q =>
  GoE.of (pe_make M Fn hr hg hm hb .nil pass0 pa_go hdb he hpl) (ha F1 H1 g _ fun vs F2 H2 g2 r2 => by
    intro o dx ho hdx hne
    have so : H2 dx = none := hdx
    have g3 : Gr F2 H2 (upd F2 dx (.own o)) (upd H2 dx (.own o)) := Gr.new g2.fh hdx trivial
    have ho3 : upd H2 dx (.own o) o = none := by rw [upd_ne (fun z => hne z.symm)]; exact ho
    have fo3 : upd F2 dx (.own o) o = none := by rw [upd_ne (fun z => hne z.symm)]; exact g2.fh.free ho
    have g4 := Gr.newP (o := .ins (He.ga X.K cn) dx []) g3.fh ho3 trivial
    refine ⟨upd F2 dx (.own o), o, dx, vs, y, r, by rw [List.append_nil], (g.trans g2).sm.up (g3.trans g4), fo3, upd_same, Ra.mono g3.ff r2, h, fun F' H' ws g5 f5 h5 r5 => ⟨rfl, ?_⟩⟩
    have g6 : Gr F1 H1 F' H' := (((g2.trans g3).trans g4)).over (g2.hh.free ho) g5 ⟨_, upd_same, trivial⟩
    have g7 := g6.freeze (o := .ins (He.ga X.K cn) dx (names.zip ws)) (g2.hh.free ho) f5 ⟨_, h5, trivial⟩ trivial
    have e7 : upd H' o (.ins (He.ga X.K cn) dx (names.zip ws)) = H' := by
      funext b
      by_cases hb : b = o
      · rw [hb, upd_same, h5]
      · rw [upd_ne hb]
    rw [e7] at g7
    exact q (.ref o) _ H' g7 (rep _ _ ⟨o, dx, ws, rfl, upd_same, Ra.mono (same_upd f5) r5⟩))
end
end Gx
namespace Gx
open PySem PySem.Spec PyProof.Rows L2
open Rp (rp)
open Ra (ra)
open Ob (ob)
section
variable {X : Cx} {K : PySem.W.Frag} {e a b c d : Expr} {es : List Expr} {σ : L2.St} {F H F0 H0 : Hp} {pos : Pos} {D : Ends} {st : Stmt} {rest body : List Stmt}
theorem Rps.rep {α : Type} [Rp α] {vs : List V} {xs : List α} (r : Rps K F vs xs) : ∀ n : Nat, Rps K F (List.replicate n vs).flatten (List.replicate n xs).flatten
  | 0 => .nil
  | n + 1 => by
    rw [List.replicate_succ, List.replicate_succ, List.flatten_cons, List.flatten_cons]
    exact Rps.append r (Rps.rep r n)
def mulL {α : Type} (xs : List α) (n : Int) : Option (List α) := if -1000000 ≤ n ∧ n ≤ 1000000 ∧ xs.length * n.toNat ≤ 16777216 then some (List.replicate n.toNat xs).flatten else none
def mulT {α : Type} (xs : Tp α) (n : Int) : Option (Tp α) := if -1000 ≤ n ∧ n ≤ 1000 ∧ xs.l.length ≤ 1000 ∧ xs.l ≠ [] then some ⟨(List.replicate n.toNat xs.l).flatten⟩ else none
def rMulT (K : PySem.W.Frag) : R2 := fun x y H Q => ∃ l k xs, x = .ref l ∧ y = .int k ∧ SqT K H l xs ∧ xs ≠ [] ∧ -1000 ≤ k ∧ k ≤ 1000 ∧ xs.length ≤ 1000 ∧ (k = 1 → Q (.ref l) H) ∧ (k ≠ 1 → ∀ p, H p = none → Q (.ref p) (upd H p (.tup (List.replicate k.toNat xs).flatten)))
end
end Gx
namespace Gx
open PySem PySem.Spec PyProof.Rows L2
open Rp (rp)
open Ra (ra)
open Ob (ob)
section
variable {X : Cx} {K : PySem.W.Frag} {e a b c d : Expr} {es : List Expr} {σ : L2.St} {F H F0 H0 : Hp} {pos : Pos} {D : Ends} {st : Stmt} {rest body : List Stmt}
def tListVals (te : TE) : TE := fun σ H Q => te σ H fun x H1 => ∃ d kvs, x = .ref d ∧ Rd H1 d (.dK kvs) ∧ ∀ p, H1 p = none → Q (.ref p) (upd H1 p (.lst (kvs.map (·.2))))
theorem KR.vals {κ ν : Type} [Rp ν] : ∀ {kvs : List (κ × V)} {l : List (κ × ν)}, KR K F kvs l → Rps K F (kvs.map (·.2)) (l.map (·.2))
  | _, _, .nil => .nil
  | _, _, .cons h t => .cons h.2 (KR.vals t)
section
variable {κ ν : Type} [Rp κ] [DecidableEq κ] [KeyS κ] [Rp ν]
end
def to2 {α : Type} : List α → Option (T2 α α)
  | [x, y] => some ⟨x, y⟩
  | _ => none
def to3 {α : Type} : List α → Option (T3 α α α)
  | [x, y, z] => some ⟨x, y, z⟩
  | _ => none
end
end Gx
namespace Gx
open PySem PySem.Spec PyProof.Rows L2
section
variable {α β γ ρ : Type}
theorem intsF_cons (k n : Nat) : intsF (k : Int) (n + 1) = (k : Int) :: intsF ((k + 1 : Nat) : Int) n := by rw [intsF_succ]; rfl
theorem Ok.range_aux {st : β → Int → Option β} {Q : β → Prop} (J : Nat → β → Prop) (n : Nat) (hs : ∀ k b, k < n → J k b → Ok (st b (k : Int)) fun b' => J (k + 1) b') (hq : ∀ b, J n b → Q b) : ∀ (m k : Nat) (b : β), k + m = n → J k b → Ok (Gx.loopN st b (intsF (k : Int) m)) Q
  | 0, k, b, e, h => ⟨b, rfl, hq b (by have : k = n := by omega
                                       exact this ▸ h)⟩
  | m + 1, k, b, e, h => by
    obtain ⟨b', e1, h1⟩ := hs k b (by omega) h
    rw [intsF_cons, loopN_cons e1]
    exact Ok.range_aux J n hs hq m (k + 1) b' (by omega) h1
theorem Ok.range {st : β → Int → Option β} {n : Nat} {b : β} {Q : β → Prop} (J : Nat → β → Prop) (h0 : J 0 b) (hs : ∀ k b, k < n → J k b → Ok (st b (k : Int)) fun b' => J (k + 1) b') (hq : ∀ b, J n b → Q b) : Ok (Gx.loopN st b (intsF 0 n)) Q :=
  Ok.range_aux J n hs hq n 0 b (by omega) h0
end
end Gx
namespace Gx
open PySem PySem.Spec PyProof.Rows L2
open Rp (rp)
open Ra (ra)
open Ob (ob)
section
variable {X : Cx} {K : PySem.W.Frag} {e a b c d : Expr} {es : List Expr} {σ : L2.St} {F H F0 H0 : Hp} {pos : Pos} {D : Ends} {st : Stmt} {rest body : List Stmt}
theorem go_retE {α : Type} [Rp α] [Ob α] {x : α} (s : SmX X.K F H) (he : EvN X e σ F H x) (k : ∀ l o F' H', Gr F H F' H' → H l = none → F' l = none → H' l = some o → ob X.K F' o x → D.rt (.ref l) H') : GoS X (.Return (some e) pos :: rest) D σ H :=
  GoS.cons (ps_ret pe_go) (he F H (.refl s) _ fun l o F2 H2 g n f h r => k l o F2 H2 g n f h r)
def PrN (K : PySem.W.Frag) {τ ρ : Type} [Ra τ] [Rp ρ] [Ob ρ] (f : τ → Option ρ) : Sp := fun vs H Q _ => ∃ F a r, SmX K F H ∧ ra K F vs a ∧ f a = some r ∧ ∀ l o F' H', Gr F H F' H' → H l = none → F' l = none → H' l = some o → ob K F' o r → Q (.ref l) H'
theorem fn_okN {P : Program} {w : World} {mg : Str → Option Value} {base : Heap} {τ ρ : Type} [Ra τ] [RaN τ] [Rp ρ] [Ob ρ] {f : τ → Option ρ} {x qual : Str} {s0 : Stmt} {fa : Addr} {fd : FuncData} {N ps : List Str} {k : Nat} (Fn : FunD K x qual (defArgs s0) (defBody s0) (defScope s0) [] [] fa fd) (S : FnScope N ps (defScope s0)) (hn : RaN.n τ = ps.length)
    (hbody : ∀ (cdv : Value) (A : Around) (outer : List Env) (s : Shared) (F H : Hp) (vs : List V) (a : τ) (r : ρ) (D : Ends) (E : XK), Room k (A.deeper (envOfC qual (defScope s0) s.heap.objs.size fa cdv)) → SmX K F H → ra K F vs a → f a = some r → (∀ l o F' H', GrX K F H F' H' → H l = none → F' l = none → H' l = some o → ob K F' o r → D.rt (.ref l) H') →
      True → GoS (cxOf CX0 P w K mg base N qual (defScope s0) fa cdv A outer s H E).nox (defBody s0) D (start N vs) H) :
    FnOk P w K mg base CX0 (k + 1) fa fd ps (PrN K f) := by
  refine Fn.ok S (fun vs H Q E ⟨F, a, r, _, ra', _⟩ => by rw [RaN.len ra', hn]) fun cdv A outer s H vs Q E hr ⟨F, a, r, sm, ra', hf, k⟩ => ?_
  exact ⟨_, PSs.nox pss_go, hbody cdv A outer s F H vs a r { nx := fun _ H' => Q .non H', rt := Q } E hr sm ra' hf (fun l o F' H' g n f h r => k l o F' H' g.toGr n f h r) trivial⟩
theorem Gr.erl {F1 H1 F2 H2 H3 : Hp} {l : Addr} {o : HO} (g : Gr F1 H1 F2 H2) (f : F1 l = none) (h : H1 l = some o) (ls : lstish o) (po : pln o) (k : ∀ b, b ≠ l → H3 b = H2 b) (no : ∀ ps, H3 l ≠ some (.tbl ps)) : Gr F1 (er H1 l) F2 H3 := by
  have f2 : F2 l = none := (g.fr l o h ls).trans f
  have h2 := g.hh.k l o h po.ntb
  have un : ∀ b u, er H1 l b = some u → b ≠ l ∧ H1 b = some u := fun b u e => by
    unfold er at e; split at e
    · cases e
    · exact ⟨by assumption, e⟩
  refine ⟨g.ff, fun b u e => ?_, ⟨fun b u e ns => ?_, fun b ps e => ?_, fun P a => ?_⟩, fun b u e n => ?_⟩
  · rw [k b (ne_of_none e f2)]; exact g.fh _ _ e
  · obtain ⟨hb, e⟩ := un b u e
    rw [k b hb]; exact g.hh.k _ _ e ns
  · obtain ⟨hb, e⟩ := un b _ e
    rw [k b hb]; exact g.hh.t _ _ e
  · exact (g.hh.w P ((Xt.start ⟨o, h, po⟩).w P a)).but ⟨o, h2, po⟩ k
  · exact g.fr b u (un b u e).2 n
theorem Own.erl {α : Type} [Rp α] [Ob α] {x : α} {l : Addr} {F2 H2 H3 : Hp} (o : Own K H0 F H l x) (g : Gr F H F2 H2) (k : ∀ b, b ≠ l → H3 b = H2 b) (no : ∀ ps, H3 l ≠ some (.tbl ps)) : Gr F (er H l) F2 H3 := by
  obtain ⟨u, h, r⟩ := o.h
  exact g.erl o.f h (Ob.ls r) (Ob.pl r) k no
theorem no_er {l : Addr} : ∀ ps, er H l l ≠ some (.tbl ps) := fun ps e => by rw [er_same] at e; cases e
theorem no_upd {l : Addr} {u : HO} (h : ntb u) : ∀ ps, upd H l u l ≠ some (.tbl ps) := fun ps e => by rw [upd_same] at e; cases e; exact h
theorem Own.ere {α : Type} [Rp α] [Ob α] {x : α} {l : Addr} {F2 H2 : Hp} (o : Own K H0 F H l x) (g : Gr F H F2 H2) : Gr F (er H l) F2 (er H2 l) := o.erl g (fun b hb => er_ne hb) no_er
def EvM {ρ β : Type} [Rp ρ] [Rp β] [Ob β] (X : Cx) (e : Expr) (σ : L2.St) (F H : Hp) (l : Addr) (r : ρ) (y : β) : Prop := ∀ F1 H1, GrX X.K F H F1 H1 → ∀ Q : VK, (∀ u F2 H2 o, Gr F1 (er H1 l) F2 H2 → F2 l = none → H2 l = some o → ob X.K F2 o y → rp X.K F2 u r → Q u H2) → GoE X e σ H1 Q
def EvAM {τ1 τ2 : Type} [Ra τ1] [Ra τ2] (X : Cx) (es : List Expr) (σ : L2.St) (F H : Hp) (y : τ1) (l : Addr) (z : τ2) : Prop := ∀ F1 H1, GrX X.K F H F1 H1 → ∀ Q : List V → Hp → Prop, (∀ vs1 vs2 F2 H2, Gr F1 H1 F2 H2 → ra X.K F2 vs1 y → ra X.K F2 vs2 z → Q (vs1 ++ .ref l :: vs2) H2) → GoA X es σ H1 Q
def PrM (K : PySem.W.Frag) {τ1 τ2 β ρ : Type} [Ra τ1] [Ra τ2] [Rp β] [Ob β] [Rp ρ] (f : τ1 → β → τ2 → Option (ρ × β)) : Sp := fun vs H Q _ => ∃ F ws1 l ws2 o a1 x a2 r, vs = ws1 ++ .ref l :: ws2 ∧ SmX K F H ∧ ra K F ws1 a1 ∧ ra K F ws2 a2 ∧ F l = none ∧ H l = some o ∧ ob K F o x ∧ f a1 x a2 = some r ∧
  ∀ F' H' u o', Gr F (er H l) F' H' → F' l = none → H' l = some o' → ob K F' o' r.2 → rp K F' u r.1 → Q u H'
theorem go_exprM {ρ β : Type} [Rp ρ] [Rp β] [Ob β] {r : ρ} {y : β} {l : Addr} (s : SmX X.K F H) (he : EvM X e σ F H l r y) (k : ∀ F' H' o, Gr F (er H l) F' H' → F' l = none → H' l = some o → ob X.K F' o y → GoS X rest D σ H') (hs : swapsWith e none pos.line X.env = pure false := by rfl) : GoS X (.Expr e pos :: rest) D σ H :=
  GoS.cons (ps_expr pe_go hs) (he F H (.refl s) _ fun v F2 H2 o g f h b r => k F2 H2 o g f h b)
theorem go_setM {ρ β : Type} [Rp ρ] [Rp β] [Ob β] {r : ρ} {y : β} {l : Addr} {n : Str} {p : Pos} (i : Nat) (s : SmX X.K F H) (he : EvM X e σ F H l r y) (k : ∀ v F' H' o, Gr F (er H l) F' H' → F' l = none → H' l = some o → ob X.K F' o y → rp X.K F' v r → GoS X rest D (σ.set i (some v)) H') (hN : X.N.Nodup) (hi : X.N[i]? = some n := by rfl)
    (hx : Loc X.env.scope n := by first | exact Or.inl rfl | exact Or.inr rfl) (hs : swapsWith e (some (.Name n p)) pos.line X.env = pure false := by rfl) (hf : X.fn n = true ∨ X.env.scope.names.lookup n = some .local := by first | exact .inl rfl | exact .inr rfl) :
    GoS X (.Assign [.Name n p] e pos :: rest) D σ H :=
  GoS.cons (ps_set hN hi hx pe_go hs hf) (he F H (.refl s) _ fun v F2 H2 o g f h b r => k v F2 H2 o g f h b r)
theorem go_retM {ρ β : Type} [Rp ρ] [Rp β] [Ob β] {r : ρ} {y : β} {l : Addr} (s : SmX X.K F H) (he : EvM X e σ F H l r y) (k : ∀ v F' H' o, Gr F (er H l) F' H' → F' l = none → H' l = some o → ob X.K F' o y → rp X.K F' v r → D.rt v H') : GoS X (.Return (some e) pos :: rest) D σ H :=
  GoS.cons (ps_ret pe_go) (he F H (.refl s) _ fun v F2 H2 o g f h b r => k v F2 H2 o g f h b r)
def popG {α : Type} (xs : List α) (i : Int) : Option (α × List α) := if -(2 ^ 62) ≤ i ∧ i < 2 ^ 62 then match seqIndex? i xs.length with
    | some k => (xs[k]?).map fun y => (y, xs.eraseIdx k)
    | none => none
  else none
end
end Gx
namespace Gx
open PySem PySem.Spec PyProof.Rows L2
open Rp (rp)
open Ra (ra)
open Ob (ob)
section
variable {X : Cx} {K : PySem.W.Frag} {e a b c d : Expr} {es : List Expr} {σ : L2.St} {F H F0 H0 : Hp} {pos : Pos} {D : Ends} {st : Stmt} {rest body : List Stmt}
theorem Own.own {α : Type} [Rp α] [Ob α] {x : α} {l : Addr} {o : HO} {H1 : Hp} (g : Gr H1 H0 F H) : True := trivial
theorem Own.mk' {α : Type} [Rp α] [Ob α] {y : α} {l : Addr} {o : HO} (n : H0 l = none) (f : F l = none) (h : H l = some o) (b : ob K F o y) : Own K H0 F H l y := ⟨n, f, o, h, b⟩
def popE {α : Type} (xs : List α) : Option (α × List α) := match xs.getLast? with
  | some y => some (y, xs.dropLast)
  | none => none
theorem popE_of {α : Type} {xs : List α} {r : α × List α} (h : popE xs = some r) : xs[xs.length - 1]? = some r.1 ∧ r.2 = xs.dropLast := by
  unfold popE at h
  rw [List.getLast?_eq_getElem?] at h
  cases e : xs[xs.length - 1]? with
  | none => rw [e] at h; cases h
  | some y => rw [e] at h; cases h; exact ⟨rfl, rfl⟩
theorem Rps.dropLast {α : Type} [Rp α] {vs : List V} {xs : List α} (h : Rps K F vs xs) : Rps K F vs.dropLast xs.dropLast := by
  rw [List.dropLast_eq_take, List.dropLast_eq_take, h.length]; exact Rps.take _ h
section
variable {α : Type} [Rp α] {xs : List α} {l : Addr} {n : Str} {p1 p2 p3 : Pos}
theorem em_pop0 {r : α × List α} (i : Nat) (o : Own X.K H0 F H l xs) (hσ : σ[i]? = some (some (.ref l))) (h : popE xs = some r) (hN : X.N[i]? = some n := by rfl) (hv : Vis X.env.scope n := by first | exact Or.inl rfl | exact Or.inr (Or.inl rfl) | exact Or.inr (Or.inr rfl))
    (hd : (n == ("__debug__" : Str)) = false := by decide) (hcd : (n == ("__classdict__" : Str)) = false := by decide) (hbase : attributeBase (.Name n p1) "pop" X.env (eval (.Name n p1) X.env) = eval (.Name n p1) X.env := by rfl) (hline : (p2.endLine == p3.line) = true := by rfl) :
    EvM X (.Call (.Attribute (.Name n p1) "pop" p2) [] [] p3) σ F H l r.1 r.2 := fun F1 H1 g Q q => by
  have o1 := o.up g.toGr
  obtain ⟨_, hl, vs, rfl, rs⟩ := o1.h
  obtain ⟨hy, e2⟩ := popE_of h
  refine GoE.of (pe_bm0 PySem.F.plainAttrs_list PySem.F.slot_list_pop PySem.F.type_list_pop mt_pop (pe_var hN hv hd hcd) hbase hline) ?_
  obtain ⟨y, hy1, ry⟩ := rs.get hy
  refine ⟨_, hσ, .inl ⟨rfl, _, SqL.of hl⟩, l, vs, y, rfl, rfl, hl, by rw [rs.length]; exact hy1, ?_⟩
  exact q y F1 _ _ (o1.erl (.refl g.fh) (fun b hb => upd_ne hb) (no_upd trivial)) o1.f upd_same (by rw [e2]; exact ob_lst rs.dropLast) ry
theorem em_clear (i : Nat) (o : Own X.K H0 F H l xs) (hσ : σ[i]? = some (some (.ref l))) (hN : X.N[i]? = some n := by rfl) (hv : Vis X.env.scope n := by first | exact Or.inl rfl | exact Or.inr (Or.inl rfl) | exact Or.inr (Or.inr rfl))
    (hd : (n == ("__debug__" : Str)) = false := by decide) (hcd : (n == ("__classdict__" : Str)) = false := by decide) (hbase : attributeBase (.Name n p1) "clear" X.env (eval (.Name n p1) X.env) = eval (.Name n p1) X.env := by rfl) (hline : (p2.endLine == p3.line) = true := by rfl) :
    EvM X (.Call (.Attribute (.Name n p1) "clear" p2) [] [] p3) σ F H l () ([] : List α) := fun F1 H1 g Q q => by
  have o1 := o.up g.toGr
  obtain ⟨_, hl, vs, rfl, rs⟩ := o1.h
  refine GoE.of (pe_bm0 PySem.F.plainAttrs_list PySem.F.slot_list_clear PySem.F.type_list_clear mt_clear (pe_var hN hv hd hcd) hbase hline) ?_
  exact ⟨_, hσ, .inl ⟨rfl, _, SqL.of hl⟩, l, vs, rfl, rfl, hl, q .non F1 _ _ (o1.erl (.refl g.fh) (fun b hb => upd_ne hb) (no_upd trivial)) o1.f upd_same (ob_lst .nil) rfl⟩
def rExtendF (K : PySem.W.Frag) : V → List V → Hp → VK → Prop := fun x vs H Q => ∃ l b xs zs, x = .ref l ∧ vs = [.ref b] ∧ H l = some (.lst xs) ∧ SqL K H b zs ∧ xs.length + zs.length ≤ sizeLine ∧ Q .non (upd H l (.lst (xs ++ zs)))
def insG {α : Type} (xs : List α) (i : Int) (y : α) : Option (List α) := if 0 ≤ i ∧ i < 2 ^ 62 ∧ xs.length < sizeLine then some (xs.take i.toNat ++ [y] ++ xs.drop i.toNat) else none
def setG {α : Type} (xs : List α) (i : Int) (y : α) : Option (List α) := (ixN xs.length i).map fun j => xs.set j y
theorem Rps.set {α : Type} [Rp α] {v : V} {x : α} (r : rp K F v x) : ∀ {vs : List V} {xs : List α} (n : Nat), Rps K F vs xs → Rps K F (vs.set n v) (xs.set n x)
  | _, _, _, .nil => .nil
  | _, _, 0, .cons _ t => .cons r t
  | _, _, n + 1, .cons r' t => .cons r' (Rps.set r n t)
end
end
end Gx
namespace Gx
open PySem PySem.Spec PyProof.Rows L2
open Rp (rp)
open Ra (ra)
open Ob (ob)
section
variable {X : Cx} {K : PySem.W.Frag} {e a b c d : Expr} {es : List Expr} {σ : L2.St} {F H F0 H0 : Hp} {pos : Pos} {D : Ends} {st : Stmt} {rest body : List Stmt}
def lRg (i j : Int) : Option (List Int) := if -(2 ^ 62) ≤ i ∧ i < 2 ^ 62 ∧ -(2 ^ 62) ≤ j ∧ j < 2 ^ 62 ∧ (j - i).toNat ≤ 2 ^ 24 then some (intsF i (j - i).toNat) else none
theorem ev_ixOwn {α : Type} [Rp α] {xs : List α} {x : α} {k : Int} {l : Addr} {n : Str} {p1 : Pos} (i : Nat) (o : Own X.K H0 F H l xs) (hσ : σ[i]? = some (some (.ref l))) (hb : Ev X b σ F H k) (h : L2.atI xs k = some x) (hs : NoSl b := by exact fun _ _ => rfl)
    (hN : X.N[i]? = some n := by rfl) (hv : Vis X.env.scope n := by first | exact Or.inl rfl | exact Or.inr (Or.inl rfl) | exact Or.inr (Or.inr rfl)) (hd : (n == ("__debug__" : Str)) = false := by decide) (hcd : (n == ("__classdict__" : Str)) = false := by decide) :
    Ev X (.Subscript (.Name n p1) b pos) σ F H x := fun F1 H1 g Q q => by
  have o1 := o.up g.toGr
  obtain ⟨_, hl, vs, rfl, rs⟩ := o1.h
  refine GoE.of (pe_ix ix_list (pe_var hN hv hd hcd) pe_go hs) ⟨_, hσ, hb F1 H1 g _ fun w F2 H2 g2 r2 => ?_⟩
  have rs2 := rs.mono g2.ff
  obtain ⟨v, hv2, rv⟩ := rs2.atI h
  exact ⟨l, vs, k, v, rfl, r2, SqL.of (g2.hh.k _ _ hl trivial), hv2, q v F2 H2 g2 rv⟩
theorem Ev.get {α : Type} [Rp α] [NN α] {o : Option α} {x : α} (h : Ev X e σ F H o) (he : o = Option.some x) : Ev X e σ F H x := by
  subst he
  exact h.re fun _ _ r => r
def rEqE (K : PySem.W.Frag) : R2 := fun x y H Q => ∃ a b xs, x = .ref a ∧ y = .ref b ∧ ((SqL K H a xs ∧ SqL K H b []) ∨ (SqT K H a xs ∧ SqT K H b [])) ∧ Q (.bl xs.isEmpty) H
def rNeE (K : PySem.W.Frag) : R2 := fun x y H Q => ∃ a b xs, x = .ref a ∧ y = .ref b ∧ ((SqL K H a xs ∧ SqL K H b []) ∨ (SqT K H a xs ∧ SqT K H b [])) ∧ Q (.bl (!xs.isEmpty)) H
theorem op_neE (hu : X.A.units < cLine) : OpR X (compareOp .NotEq) (rNeE X.K) := fun pins s σ H x y v u Q I rx ry ⟨a, b, xs, e1, e2, h, q⟩ => by
  subst e1; subst e2
  cases rx; cases ry
  rcases h with ⟨h1, h2⟩ | ⟨h1, h2⟩
  · obtain ⟨its, r, pl, _⟩ := I.list h1
    obtain ⟨its2, r2, pl2, _⟩ := I.list h2
    cases r2
    cases r with
    | nil => exact SeqAt.RcNeAt.lists (e := fun _ => true) pl.isList pl2.isList rfl hu (fun j h1 _ => absurd h1 (Nat.not_lt_zero _)) _ _ _ _ ⟨.bl false, H, I, rfl, q⟩
    | cons _ _ => exact SeqAt.RcNeAt.lists_lengths pl.isList pl2.isList (by simp) hu _ _ _ _ ⟨.bl true, H, I, rfl, q⟩
  · obtain ⟨its, r, ⟨o, ho, hc, n, hd⟩, _⟩ := I.tuple h1
    obtain ⟨its2, r2, ⟨o2, ho2, hc2, n2, hd2⟩, _⟩ := I.tuple h2
    cases r2
    cases r with
    | nil => exact SeqAt.RcNeAt.tuples (e := fun _ => true) ⟨o, ho, hc, n, hd⟩ ⟨o2, ho2, hc2, n2, hd2⟩ hu (fun j h1 _ => absurd h1 (Nat.not_lt_zero _)) _ _ _ _ ⟨.bl false, H, I, rfl, q⟩
    | cons _ _ => exact SeqAt.RcNeAt.tuples (e := fun _ => true) ⟨o, ho, hc, n, hd⟩ ⟨o2, ho2, hc2, n2, hd2⟩ hu (fun j _ h2 => absurd h2 (Nat.not_lt_zero _)) _ _ _ _ ⟨.bl true, H, I, by simp [L2.RelV], q⟩
section
variable {α : Type} [Rp α]
theorem isE {vs : List V} {xs : List α} (r : Rps K F vs xs) : vs.isEmpty = xs.isEmpty := by cases r <;> rfl
theorem o2_neEL {xs : List α} : Op2 K (rNeE K) xs ([] : List α) (!xs.isEmpty) := fun F H v w Q s ⟨a, vs, e, sq, rs⟩ ⟨b, ws, e2, sq2, rs2⟩ k => by
  cases rs2
  exact ⟨a, b, vs, e, e2, .inl ⟨s.seq sq, s.seq sq2⟩, k _ F H (.refl s) (congrArg (fun t => V.bl (!t)) (isE rs))⟩
end
end
end Gx
namespace Gx
open PySem PySem.Spec PyProof.Rows
open AutoSeq1 (wpAny_loadPart')
abbrev itO (l : Addr) : Obj := { cls := .type "tuple_iterator", data := .fields #[.ref l, .int 0 0] }
abbrev enO (i : Addr) : Obj := { cls := .type "enumerate", data := .fields #[.none, .bool false, .ref i, rawInt 0, .none, .none] }
end Gx
namespace Gx
open PySem PySem.Spec PyProof.Rows L2
open Rp (rp)
open Ra (ra)
open Ob (ob)
def IteT (K : PySem.W.Frag) (a : Addr) : It :=
  ⟨fun i H => ∃ (xs : List V) (x : V), SqT K H a xs ∧ xs[i]? = some x, fun i H v H' => ∃ T x, v = .ref T ∧ H T = none ∧ H' = upd H T (.tup [.int (i : Nat), x]) ∧ ∀ xs, SqT K H a xs → xs[i]? = some x, fun i H => ∃ xs : List V, SqT K H a xs ∧ xs.length ≤ i⟩
def iEnumT (K : PySem.W.Frag) (ta : TA) : TI := fun σ H R => ta σ H fun vs H1 => ∃ a xs, vs = [.ref a] ∧ SqT K H1 a xs ∧ R (IteT K a) H1
section
variable {X : Cx} {K : PySem.W.Frag} {e a b c d : Expr} {es : List Expr} {σ : L2.St} {F H F0 H0 : Hp} {pos : Pos} {D : Ends} {st : Stmt} {rest body : List Stmt}
end
end Gx
namespace Gx
open PySem PySem.Spec PyProof.Rows L2
open Rp (rp)
open Ra (ra)
open Ob (ob)
theorem isD_tup {F : Hp} {l : Addr} (d : IsD F l) : (∀ xs, ¬ F l = some (.tup xs)) ∧ (∀ (o' : Obj) (xs : List V), ¬ F l = some (.frz o' (.tup xs))) := by
  rcases d with ⟨ks, d | ⟨o, d⟩⟩ | ⟨ks, d | ⟨o, d⟩⟩ <;> exact ⟨fun xs h => (by rw [d] at h; cases h), fun o' xs h => (by rw [d] at h; cases h)⟩
theorem isD_lst {F : Hp} {l : Addr} {xs : List V} (d : IsD F l) : ¬ Rd F l (.lst xs) := by
  rcases d with ⟨ks, d | ⟨o, d⟩⟩ | ⟨ks, d | ⟨o, d⟩⟩ <;> rintro (h | ⟨o, h⟩) <;> (rw [d] at h; cases h)
theorem er_neD {F : Hp} {l a : Addr} (h : ¬ a = l) : er F l a = F a := if_neg h
class FlatD (α : Type) [Rp α] : Prop where
  fl : ∀ {K : PySem.W.Frag} {F : Hp} {l : Addr} {v : V} {x : α}, IsD F l → rp K F v x → rp K (er F l) v x
instance : FlatD Int := ⟨fun _ h => h⟩
instance : FlatD Bool := ⟨fun _ h => h⟩
instance : FlatD Str := ⟨fun _ h => h⟩
instance : FlatD Unit := ⟨fun _ h => h⟩
instance {α : Type} [Rp α] [NN α] [FlatD α] : FlatD (Option α) := ⟨fun {K F l v x} h1 h => by
  cases x with
  | none => exact h
  | some x => exact FlatD.fl (α := α) h1 h⟩
theorem Rps.fd {α : Type} [Rp α] [FlatD α] {K : PySem.W.Frag} {F : Hp} {l : Addr} {vs : List V} {xs : List α} (h1 : IsD F l) (h : Rps K F vs xs) : Rps K (er F l) vs xs := L2.Paired.mapP h fun _ _ => FlatD.fl h1
instance {α : Type} [Rp α] [FlatD α] : FlatD (Tp α) := ⟨fun h1 ⟨a, vs, e, q, r⟩ => ⟨a, vs, e, er_seqT (isD_tup h1).1 (isD_tup h1).2 q, Rps.fd h1 r⟩⟩
instance {α : Type} [Rp α] [FlatD α] : FlatD (List α) := ⟨fun {K F l v x} h1 ⟨a, vs, e, q, r⟩ => ⟨a, vs, e, by
  rcases q with q | q
  · refine .inl ?_
    have : ¬ a = l := fun z => isD_lst h1 (z ▸ q)
    unfold Rd
    rw [er_neD this]; exact q
  · exact .inr q, Rps.fd h1 r⟩⟩
class FlatDR (τ : Type) [Ra τ] : Prop where
  fl : ∀ {K : PySem.W.Frag} {F : Hp} {l : Addr} {v : List V} {x : τ}, IsD F l → ra K F v x → ra K (er F l) v x
instance : FlatDR Unit := ⟨fun _ h => h⟩
instance {α τ : Type} [Rp α] [Ra τ] [FlatD α] [FlatDR τ] : FlatDR (α × τ) := ⟨fun h1 ⟨v, r, e, p, q⟩ => ⟨v, r, e, FlatD.fl h1 p, FlatDR.fl h1 q⟩⟩
theorem rpT.fd {θ τ : Type} [Ra τ] [FlatDR τ] {row : θ → τ} {K : PySem.W.Frag} {F : Hp} {l : Addr} {v : V} {x : θ} (h1 : IsD F l) : rpT row K F v x → rpT row K (er F l) v x := fun ⟨a, vs, e, q, r⟩ => ⟨a, vs, e, er_seqT (isD_tup h1).1 (isD_tup h1).2 q, FlatDR.fl h1 r⟩
instance {α : Type} [Rp α] [FlatD α] : FlatD (T1 α) := ⟨rpT.fd⟩
instance {α β : Type} [Rp α] [Rp β] [FlatD α] [FlatD β] : FlatD (T2 α β) := ⟨rpT.fd⟩
instance {α β γ : Type} [Rp α] [Rp β] [Rp γ] [FlatD α] [FlatD β] [FlatD γ] : FlatD (T3 α β γ) := ⟨rpT.fd⟩
instance {α β γ δ : Type} [Rp α] [Rp β] [Rp γ] [Rp δ] [FlatD α] [FlatD β] [FlatD γ] [FlatD δ] : FlatD (T4 α β γ δ) := ⟨rpT.fd⟩
instance {α β γ δ ε : Type} [Rp α] [Rp β] [Rp γ] [Rp δ] [Rp ε] [FlatD α] [FlatD β] [FlatD γ] [FlatD δ] [FlatD ε] : FlatD (T5 α β γ δ ε) := ⟨rpT.fd⟩
section
variable {X : Cx} {K : PySem.W.Frag} {e a b c d : Expr} {es : List Expr} {σ : L2.St} {F H F0 H0 : Hp} {pos : Pos} {D : Ends} {st : Stmt} {rest body : List Stmt}
end
def unlist2 {α : Type} : List α → Option (T2 α α)
  | [a, b] => some ⟨a, b⟩
  | _ => none
def unlist3 {α : Type} : List α → Option (T3 α α α)
  | [a, b, c] => some ⟨a, b, c⟩
  | _ => none
def unlist4 {α : Type} : List α → Option (T4 α α α α)
  | [a, b, c, d] => some ⟨a, b, c, d⟩
  | _ => none
theorem seqL_mono {K : PySem.W.Frag} {F H : Hp} {a : Addr} {vs : List V} (s : L2.Same F H) (q : SqL K F a vs) : SqL K H a vs := s.seq q
structure Blur : Type where
instance : Rp Blur := ⟨fun _ _ v _ => v ≠ .non, fun _ h => h⟩
instance : NN Blur := ⟨fun h => h rfl⟩
instance : Flat Blur := ⟨fun _ _ h => h⟩
instance : FlatD Blur := ⟨fun _ h => h⟩
section
variable {X : Cx} {e a b c : Expr} {σ : L2.St} {F H : Hp} {pos : Pos} {D : Ends} {rest : List Stmt}
theorem go_setA (α : Type) [Rp α] {x : α} {n : Str} {p : Pos} (i : Nat) (s : SmX X.K F H) (he : Ev X e σ F H x) (k : ∀ v F' H', Gr F H F' H' → rp X.K F' v x → GoS X rest D (σ.set i (some v)) H') (hN : X.N.Nodup) (hi : X.N[i]? = some n := by rfl)
    (hx : Loc X.env.scope n := by first | exact Or.inl rfl | exact Or.inr rfl) (hs : swapsWith e (some (.Name n p)) pos.line X.env = pure false := by rfl) (hf : X.fn n = true ∨ X.env.scope.names.lookup n = some .local := by first | exact .inl rfl | exact .inr rfl) :
    GoS X (.Assign [.Name n p] e pos :: rest) D σ H := go_set i s he k hN hi hx hs hf
theorem go_setNA (α : Type) [Rp α] [Ob α] {x : α} {n : Str} {p : Pos} (i : Nat) (s : SmX X.K F H) (he : EvN X e σ F H x) (k : ∀ l o F' H', Gr F H F' H' → H l = none → F' l = none → H' l = some o → ob X.K F' o x → GoS X rest D (σ.set i (some (.ref l))) H') (hN : X.N.Nodup) (hi : X.N[i]? = some n := by rfl)
    (hx : Loc X.env.scope n := by first | exact Or.inl rfl | exact Or.inr rfl) (hs : swapsWith e (some (.Name n p)) pos.line X.env = pure false := by rfl) (hf : X.fn n = true ∨ X.env.scope.names.lookup n = some .local := by first | exact .inl rfl | exact .inr rfl) :
    GoS X (.Assign [.Name n p] e pos :: rest) D σ H := go_setN i s he k hN hi hx hs hf
theorem go_ifA (t : Bool) {as bs : List Stmt} (s : SmX X.K F H) (hc : EvT X c σ F H t) (ka : t = true → ∀ F' H', Gr F H F' H' → GoS X as { D with nx := GoS X rest D } σ H') (kb : t = false → ∀ F' H', Gr F H F' H' → GoS X bs { D with nx := GoS X rest D } σ H') :
    GoS X (.If c as bs pos :: rest) D σ H := go_if s hc ka kb
theorem go_ifjA (t : Bool) {as bs : List Stmt} (P : L2.St → Hp → Prop) (s : SmX X.K F H) (hc : EvT X c σ F H t) (ka : t = true → ∀ F' H', Gr F H F' H' → GoS X as { D with nx := P } σ H') (kb : t = false → ∀ F' H', Gr F H F' H' → GoS X bs { D with nx := P } σ H')
    (k : ∀ σ' H', P σ' H' → GoS X rest D σ' H') : GoS X (.If c as bs pos :: rest) D σ H := go_ifj P s hc ka kb k
theorem EvN.evA (α : Type) [Rp α] [Ob α] {x : α} (h : EvN X e σ F H x) : Ev X e σ F H x := h.ev
theorem ew_orA (x : Bool) {r : Bool} {rest : List Expr} (ha : EvT X a σ F H x) (hb : x = false → EvW X (.BoolOp .Or (b :: rest) pos) σ F H r) (hn : x = true → r = true) : EvW X (.BoolOp .Or (a :: b :: rest) pos) σ F H r := ew_or ha hb hn
theorem ev_andA (x : Bool) {r : Bool} {rest : List Expr} (ha : Ev X a σ F H x) (hb : x = true → Ev X (.BoolOp .And (b :: rest) pos) σ F H r) (hn : x = false → r = false) : Ev X (.BoolOp .And (a :: b :: rest) pos) σ F H r := ev_and ha hb hn
theorem ev_powcA (z : Int) {x y : Int} (ha : Ev X a σ F H x) (hb : Ev X b σ F H y) (h : CPow x y) (hz : x ^ y.toNat = z) : Ev X (.BinOp a .Pow b pos) σ F H z := ev_powc ha hb h hz
end
end Gx
namespace Gx
open PySem PySem.Spec PyProof.Rows L2
open Rp (rp)
open Ra (ra)
open Ob (ob)
structure IsaF (K : PySem.W.Frag) (cn dn : Str) (b : Bool) : Prop where
  ha : PySem.W.findIn K (.ref (He.ga K cn)) "__class__" = some (some (.builtin "object.__class__"))
  hn : PySem.W.specialIn K (.builtin "object.__class__") "__get__" = some (some (.builtin "getset_descriptor.__get__"))
  ht : PySem.W.takesIn K (.builtin "object.__class__") = some true
  hm : PySem.W.mroIn K (He.ga K cn) (.type "object") = some true
  kit : PySem.W.kitOne K (.ref (He.ga K cn)) (.ref (He.ga K dn)) = some b
def isaB (K : PySem.W.Frag) (cn dn : Str) (b : Bool) : Bool := decide (PySem.W.findIn K (.ref (He.ga K cn)) "__class__" = some (some (.builtin "object.__class__"))) && (decide (PySem.W.specialIn K (.builtin "object.__class__") "__get__" = some (some (.builtin "getset_descriptor.__get__"))) && (decide (PySem.W.takesIn K (.builtin "object.__class__") = some true) && (decide (PySem.W.mroIn K (He.ga K cn) (.type "object") = some true) && decide (PySem.W.kitOne K (.ref (He.ga K cn)) (.ref (He.ga K dn)) = some b))))
section
variable {X : Cx} {K : PySem.W.Frag} {e a b c d : Expr} {es : List Expr} {σ : L2.St} {F H F0 H0 : Hp} {pos : Pos} {D : Ends} {st : Stmt} {rest body : List Stmt}
theorem rpI.ins {cn : Str} {names : List Str} {τ : Type} [Ra τ] {F : Hp} {v : V} {x : τ} (h : rpI cn names K F v x) : ∃ a dx fs, v = .ref a ∧ F a = some (.ins (He.ga K cn) dx fs) := by
  obtain ⟨a, dx, vs, e, q, _⟩ := h
  exact ⟨a, dx, _, e, q⟩
structure T6 (α β γ δ ε ζ : Type) where
  a : α
  b : β
  c : γ
  d : δ
  e : ε
  f : ζ
  deriving DecidableEq
abbrev T6.row {α β γ δ ε ζ : Type} (x : T6 α β γ δ ε ζ) : α × β × γ × δ × ε × ζ × Unit := (x.a, x.b, x.c, x.d, x.e, x.f, ())
instance {α β γ δ ε ζ : Type} [Rp α] [Rp β] [Rp γ] [Rp δ] [Rp ε] [Rp ζ] : Rp (T6 α β γ δ ε ζ) := ⟨rpT T6.row, rpT.mono⟩
instance {α β γ δ ε ζ : Type} [Rp α] [Rp β] [Rp γ] [Rp δ] [Rp ε] [Rp ζ] : NN (T6 α β γ δ ε ζ) := ⟨rpT.nn⟩
instance {α β γ δ ε ζ : Type} [Rp α] [Rp β] [Rp γ] [Rp δ] [Rp ε] [Rp ζ] : Tup (T6 α β γ δ ε ζ) (α × β × γ × δ × ε × ζ × Unit) := ⟨T6.row, Iff.rfl⟩
instance {α β γ δ ε ζ : Type} [Rp α] [Rp β] [Rp γ] [Rp δ] [Rp ε] [Rp ζ] [Flat α] [Flat β] [Flat γ] [Flat δ] [Flat ε] [Flat ζ] : Flat (T6 α β γ δ ε ζ) := ⟨rpT.fl⟩
instance {α β γ δ ε ζ : Type} [Rp α] [Rp β] [Rp γ] [Rp δ] [Rp ε] [Rp ζ] [FlatD α] [FlatD β] [FlatD γ] [FlatD δ] [FlatD ε] [FlatD ζ] : FlatD (T6 α β γ δ ε ζ) := ⟨rpT.fd⟩
instance {α β γ δ ε ζ : Type} [Rp α] [Rp β] [Rp γ] [Rp δ] [Rp ε] [Rp ζ] : Kd (T6 α β γ δ ε ζ) := ⟨"tuple", rpT.kd⟩
instance {α β γ δ ε ζ : Type} [Rp α] [Rp β] [Rp γ] [Rp δ] [Rp ε] [Rp ζ] [Pd α] [Pd β] [Pd γ] [Pd δ] [Pd ε] [Pd ζ] : Pd (T6 α β γ δ ε ζ) := ⟨fun x => .tuple (PdR.toR x.row), rpT.dp, rowEq fun x y => by cases x; cases y; simp [T6.row]⟩
instance {α β γ δ ε ζ : Type} [Rp α] [Rp β] [Rp γ] [Rp δ] [Rp ε] [Rp ζ] [Pd α] [Pd β] [Pd γ] [Pd δ] [Pd ε] [Pd ζ] [PdS α] [PdS β] [PdS γ] [PdS δ] [PdS ε] [PdS ζ] : PdS (T6 α β γ δ ε ζ) := ⟨PdRS.dep (α × β × γ × δ × ε × ζ × Unit) + 1, fun x => Nat.succ_le_succ (PdRS.de x.row)⟩
instance {α β γ δ ε ζ : Type} [Rp α] [Rp β] [Rp γ] [Rp δ] [Rp ε] [Rp ζ] [Pd α] [Pd β] [Pd γ] [Pd δ] [Pd ε] [Pd ζ] [PdF α] [PdF β] [PdF γ] [PdF δ] [PdF ε] [PdF ζ] : PdF (T6 α β γ δ ε ζ) := ⟨fun x => PdRF.ok x.row⟩
instance {α β γ δ ε ζ : Type} [Rp α] [Rp β] [Rp γ] [Rp δ] [Rp ε] [Rp ζ] [Pd α] [Pd β] [Pd γ] [Pd δ] [Pd ε] [Pd ζ] [PdL α] [PdL β] [PdL γ] [PdL δ] [PdL ε] [PdL ζ] : PdL (T6 α β γ δ ε ζ) := ⟨fun x => PdRL.tx x.row, fun h => PdRL.ok h⟩
structure T7 (α β γ δ ε ζ η : Type) where
  a : α
  b : β
  c : γ
  d : δ
  e : ε
  f : ζ
  g : η
  deriving DecidableEq
abbrev T7.row {α β γ δ ε ζ η : Type} (x : T7 α β γ δ ε ζ η) : α × β × γ × δ × ε × ζ × η × Unit := (x.a, x.b, x.c, x.d, x.e, x.f, x.g, ())
instance {α β γ δ ε ζ η : Type} [Rp α] [Rp β] [Rp γ] [Rp δ] [Rp ε] [Rp ζ] [Rp η] : Rp (T7 α β γ δ ε ζ η) := ⟨rpT T7.row, rpT.mono⟩
instance {α β γ δ ε ζ η : Type} [Rp α] [Rp β] [Rp γ] [Rp δ] [Rp ε] [Rp ζ] [Rp η] : NN (T7 α β γ δ ε ζ η) := ⟨rpT.nn⟩
instance {α β γ δ ε ζ η : Type} [Rp α] [Rp β] [Rp γ] [Rp δ] [Rp ε] [Rp ζ] [Rp η] : Tup (T7 α β γ δ ε ζ η) (α × β × γ × δ × ε × ζ × η × Unit) := ⟨T7.row, Iff.rfl⟩
instance {α β γ δ ε ζ η : Type} [Rp α] [Rp β] [Rp γ] [Rp δ] [Rp ε] [Rp ζ] [Rp η] [Flat α] [Flat β] [Flat γ] [Flat δ] [Flat ε] [Flat ζ] [Flat η] : Flat (T7 α β γ δ ε ζ η) := ⟨rpT.fl⟩
instance {α β γ δ ε ζ η : Type} [Rp α] [Rp β] [Rp γ] [Rp δ] [Rp ε] [Rp ζ] [Rp η] [FlatD α] [FlatD β] [FlatD γ] [FlatD δ] [FlatD ε] [FlatD ζ] [FlatD η] : FlatD (T7 α β γ δ ε ζ η) := ⟨rpT.fd⟩
instance {α β γ δ ε ζ η : Type} [Rp α] [Rp β] [Rp γ] [Rp δ] [Rp ε] [Rp ζ] [Rp η] : Kd (T7 α β γ δ ε ζ η) := ⟨"tuple", rpT.kd⟩
instance {α β γ δ ε ζ η : Type} [Rp α] [Rp β] [Rp γ] [Rp δ] [Rp ε] [Rp ζ] [Rp η] [Pd α] [Pd β] [Pd γ] [Pd δ] [Pd ε] [Pd ζ] [Pd η] : Pd (T7 α β γ δ ε ζ η) := ⟨fun x => .tuple (PdR.toR x.row), rpT.dp, rowEq fun x y => by cases x; cases y; simp [T7.row]⟩
instance {α β γ δ ε ζ η : Type} [Rp α] [Rp β] [Rp γ] [Rp δ] [Rp ε] [Rp ζ] [Rp η] [Pd α] [Pd β] [Pd γ] [Pd δ] [Pd ε] [Pd ζ] [Pd η] [PdS α] [PdS β] [PdS γ] [PdS δ] [PdS ε] [PdS ζ] [PdS η] : PdS (T7 α β γ δ ε ζ η) := ⟨PdRS.dep (α × β × γ × δ × ε × ζ × η × Unit) + 1, fun x => Nat.succ_le_succ (PdRS.de x.row)⟩
instance {α β γ δ ε ζ η : Type} [Rp α] [Rp β] [Rp γ] [Rp δ] [Rp ε] [Rp ζ] [Rp η] [Pd α] [Pd β] [Pd γ] [Pd δ] [Pd ε] [Pd ζ] [Pd η] [PdF α] [PdF β] [PdF γ] [PdF δ] [PdF ε] [PdF ζ] [PdF η] : PdF (T7 α β γ δ ε ζ η) := ⟨fun x => PdRF.ok x.row⟩
instance {α β γ δ ε ζ η : Type} [Rp α] [Rp β] [Rp γ] [Rp δ] [Rp ε] [Rp ζ] [Rp η] [Pd α] [Pd β] [Pd γ] [Pd δ] [Pd ε] [Pd ζ] [Pd η] [PdL α] [PdL β] [PdL γ] [PdL δ] [PdL ε] [PdL ζ] [PdL η] : PdL (T7 α β γ δ ε ζ η) := ⟨fun x => PdRL.tx x.row, fun h => PdRL.ok h⟩
theorem zip_none {m : Str} : ∀ {names : List Str} {vs : List V}, m ∉ names → (names.zip vs).lookup m = none
  | [], _, _ => rfl
  | _ :: _, [], _ => rfl
  | n :: ns, v :: vs, h => by
    show (match m == n with | true => some v | false => (ns.zip vs).lookup m) = none
    have h1 : (m == n) = false := beq_eq_false_iff_ne.mpr fun e => h (e ▸ List.mem_cons_self)
    rw [h1]
    exact zip_none fun z => h (List.mem_cons_of_mem _ z)
theorem rpI.insN {cn : Str} {names : List Str} {τ : Type} [Ra τ] {F : Hp} {v : V} {x : τ} (h : rpI cn names K F v x) : ∃ a dx vs, v = .ref a ∧ F a = some (.ins (He.ga K cn) dx (names.zip vs)) := by
  obtain ⟨a, dx, vs, e, q, _⟩ := h
  exact ⟨a, dx, vs, e, q⟩
end
end Gx
namespace Gx
open PySem PySem.Spec PyProof.Rows L2
open Rp (rp)
open Ra (ra)
open Ob (ob)
inductive Rs (ε ρ : Type) where
  | v (r : ρ)
  | x (e : ε)
class Xk (ε : Type) where
  xr : PySem.W.Frag → Hp → Hp → Value → Option Addr → ε → Prop
open Xk (xr)
def xr1 (cn fn : Str) {α : Type} [Rp α] (K : PySem.W.Frag) (F H : Hp) (cls : Value) (dd : Option Addr) (x : α) : Prop := cls = .ref (He.ga K cn) ∧ ∃ d v, dd = some d ∧ H d = some (.xd [(fn, v)]) ∧ rp K F v x
def xr0 (cn : Str) (K : PySem.W.Frag) (cls : Value) (dd : Option Addr) : Prop := cls = .ref (He.ga K cn) ∧ dd = none
def PrE (K : PySem.W.Frag) {τ ε ρ : Type} [Ra τ] [Xk ε] [Rp ρ] (f : τ → Option (Rs ε ρ)) : Sp := fun vs H Q E => ∃ F a o, SmX K F H ∧ ra K F vs a ∧ f a = some o ∧
  (∀ r, o = .v r → ∀ F' H' u, Gr F H F' H' → rp K F' u r → Q u H') ∧ (∀ e, o = .x e → ∀ F' H' cls dd, Gr F H F' H' → xr K F' H' cls dd e → E cls dd H')
def oexB (K : PySem.W.Frag) (C : Addr) : Bool := match K.lookup C with
  | some ⟨.type "type", _, .cls cd, sl⟩ => (match cd.mro, sl.toList with
    | .ref C' :: bm, [_, _, _, _, some (.builtin n), _] => C' == C && n == "ValueError.__new__" && !cd.hasDel && cd.hasDict && PySem.HandSPX.refsVE bm
    | _, _ => false)
  | _ => false
structure XoF (K : PySem.W.Frag) (cn fn : Str) : Prop where
  T : OexC K (He.ga K cn)
  iC : PySem.W.findIn K (.ref (He.ga K cn)) "__init__" = some (some (.ref (He.ma K (He.ga K cn) "__init__")))
  tI : PySem.W.typeIn K (.ref (He.ma K (He.ga K cn) "__init__")) = some (.type "function")
  no : PySem.W.findIn K (.ref (He.ga K cn)) fn = some none
  xf : XfC K (He.ga K cn)
def xoB (K : PySem.W.Frag) (cn fn : Str) : Bool := (((((((oexB K (He.ga K cn) && decide (PySem.W.findIn K (.ref (He.ga K cn)) "__setattr__" = some (some (.builtin "object.__setattr__")))) && decide (PySem.W.subIn K (.ref (He.ga K cn)) (.type "BaseException") = some true)) && decide (PySem.W.typeIn K (.ref (He.ga K cn)) = some (.type "type"))) && PySem.W.keepIn K (.ref (He.ga K cn))) &&
  decide (PySem.W.findIn K (.ref (He.ga K cn)) "__init__" = some (some (.ref (He.ma K (He.ga K cn) "__init__"))))) && decide (PySem.W.typeIn K (.ref (He.ma K (He.ga K cn) "__init__")) = some (.type "function"))) && decide (PySem.W.findIn K (.ref (He.ga K cn)) fn = some none)) && xfB K (He.ga K cn)
abbrev XnF (K : PySem.W.Frag) (cn : Str) : Prop := PySem.W.excIn K (He.ga K cn) He.veBase "ValueError.__new__" = true ∧ PySem.W.keepIn K (.ref (He.ga K cn)) = true ∧ PySem.W.subIn K (.ref (He.ga K cn)) (.type "BaseException") = some true ∧ PySem.W.typeIn K (.ref (He.ga K cn)) = some (.type "type")
def PrXI (K : PySem.W.Frag) (C : Addr) (fn : Str) : Sp := fun vs H Q _ => ∃ a v, vs = [.ref a, v] ∧ H a = some (exo a C none) ∧ ∀ d, H d = none → d ≠ a → Q .non (upd (upd H d (exd d [(fn, v)])) a (exo a C (some d)))
section
variable {X : Cx} {K : PySem.W.Frag} {e a b c d : Expr} {es : List Expr} {σ : L2.St} {F H F0 H0 : Hp} {pos : Pos} {D : Ends} {st : Stmt} {rest body : List Stmt} {ε : Type} [Xk ε] {W : WX}
def EvX {ρ : Type} [Rp ρ] (X : Cx) (W : WX) (e : Expr) (σ : L2.St) (F H : Hp) (o : Rs ε ρ) : Prop := ∀ F1 H1, GrX X.K F H F1 H1 → ∀ Q : VK, (∀ r, o = .v r → ∀ v F2 H2, Gr F1 H1 F2 H2 → rp X.K F2 v r → Q v H2) → (∀ y, o = .x y → ∀ F2 H2 cls dd, Gr F1 H1 F2 H2 → xr X.K F2 H2 cls dd y → W cls dd σ H2) → GoE X e σ H1 Q
theorem EvX.ok {ρ : Type} [Rp ρ] {r : ρ} (h : EvX (ε := ε) X W e σ F H (.v r)) : Ev X e σ F H r := fun F1 H1 g Q q => h F1 H1 g Q (fun r' e => by cases e; exact q) fun y e => nomatch e
def Rz (X : Cx) (e : Expr) (σ : L2.St) (F H : Hp) : Prop := ∀ F1 H1, GrX X.K F H F1 H1 → ∀ Q : VK, GoE X e σ H1 Q
theorem EvX.rz {ρ : Type} [Rp ρ] {y : ε} (h : EvX (ρ := ρ) X W e σ F H (.x y)) (k : ∀ F2 H2 cls dd, Gr F H F2 H2 → xr X.K F2 H2 cls dd y → W cls dd σ H2) : Rz X e σ F H := fun F1 H1 g Q => h F1 H1 g Q (fun r e => nomatch e) fun y' e => by
  cases e; exact fun F2 H2 cls dd g2 r => k F2 H2 cls dd (g.toGr.trans g2) r
def Hnd (X : Cx) (c : Value) (cls : Value) (dd : Option Addr) (H : Hp) (k : Addr → Cx → Prop) : Prop := PySem.W.exmOne X.K cls c = some true ∧ ∀ a, H a = none → ∀ oe pn, Zc cls dd oe → (∃ vs, oe.data = .fields vs) → k a (X.suite a ((a, oe) :: pn))
end
end Gx
namespace Gx
open PySem PySem.Spec PyProof.Rows L2
open Rp (rp)
theorem xr1.up {cn fn : Str} {α : Type} [Rp α] {K : PySem.W.Frag} {F H F' H' : Hp} {cls : Value} {dd : Option Addr} {x : α} (h : xr1 cn fn K F H cls dd x) (g : Gr F H F' H') : xr1 cn fn K F' H' cls dd x := by
  obtain ⟨e, d, v, e2, h3, r⟩ := h
  exact ⟨e, d, v, e2, g.hh.k _ _ h3 trivial, Rp.mono g.ff r⟩
end Gx
namespace Gx
open PySem PySem.Spec PyProof.Rows L2
open Rp (rp)
open Ra (ra)
open Ob (ob)
theorem Gr.wide {F Hl F1 H1 : Hp} {l : Addr} (g : Gr F Hl F1 (er H1 l)) (pl : PlAt H1 l) : Gr F Hl F1 H1 := by
  have er_s : ∀ b u, er H1 l b = some u → H1 b = some u := fun b u e => by
    unfold er at e; split at e
    · cases e
    · exact e
  exact ⟨g.ff, fun b u e => er_s b u (g.fh b u e), g.hh.trans (.start pl), g.fr⟩
theorem GrX.wide {K : PySem.W.Frag} {F Hl F1 H1 : Hp} {l : Addr} (g : GrX K F Hl F1 (er H1 l)) (pl : PlAt H1 l) : GrX K F Hl F1 H1 := ⟨g.toGr.wide pl, ⟨fun P hP => by
  obtain ⟨a, f⟩ := g.h.t P hP
  exact ⟨(Xt.start pl).w P a, f⟩⟩⟩
theorem Gr.both {F1 H1 F2 H2 : Hp} {l : Addr} {o : HO} (f : F1 l = none) (h : H1 l = some o) (ls : lstish o) (po : pln o) (g : Gr F1 H1 F2 H2) : Gr F1 (er H1 l) F2 (er H2 l) :=
  g.erl f h ls po (fun b hb => er_ne hb) no_er
theorem Gr.ere0 {F2 H2 F3 H3 : Hp} {l : Addr} (g : Gr F2 (er H2 l) F3 H3) (f3 : F3 l = none) (_ : er H2 l l = none) (pl : PlAt H3 l) : Gr F2 (er H2 l) F3 (er H3 l) :=
  ⟨g.ff, fun b u e => by rw [er_ne (ne_of_none e f3)]; exact g.fh _ _ e, ⟨fun b u e n => by
    rw [er_ne (ne_of_none e er_same)]; exact g.hh.k _ _ e n, fun b ps e => by
    rw [er_ne (ne_of_none e er_same)]; exact g.hh.t _ _ e, fun P a => (g.hh.w P a).er pl⟩, g.fr⟩
theorem Own.erS {α : Type} [Rp α] [Ob α] {x : α} {K : PySem.W.Frag} {H0 F H : Hp} {l : Addr} (o : Own K H0 F H l x) (s : L2.Same F H) : L2.Same F (er H l) := fun b u e => by
  rw [er_ne (ne_of_none e o.f)]; exact s _ _ e
section
variable {X : Cx} {K : PySem.W.Frag} {e a b c d : Expr} {es : List Expr} {σ : L2.St} {F H Hl F0 H0 : Hp} {pos : Pos} {D : Ends} {st : Stmt} {rest body : List Stmt} {l : Addr} {β : Type} [Rp β] [Ob β] {c0 c1 c2 : β}
def EvU {ρ : Type} [Rp ρ] (X : Cx) (e : Expr) (σ : L2.St) (F Hl : Hp) (l : Addr) (x : β) (r : ρ) (y : β) : Prop := ∀ F1 H1 o, GrX X.K F Hl F1 (er H1 l) → F1 l = none → H1 l = some o → ob X.K F1 o x → ∀ Q : VK, (∀ u F2 H2 o2, Gr F1 (er H1 l) F2 (er H2 l) → F2 l = none → H2 l = some o2 → ob X.K F2 o2 y → rp X.K F2 u r → Q u H2) → GoE X e σ H1 Q
def EvUA {τ : Type} [Ra τ] (X : Cx) (es : List Expr) (σ : L2.St) (F Hl : Hp) (l : Addr) (x : β) (r : τ) (y : β) : Prop := ∀ F1 H1 o, GrX X.K F Hl F1 (er H1 l) → F1 l = none → H1 l = some o → ob X.K F1 o x → ∀ Q : List V → Hp → Prop, (∀ u F2 H2 o2, Gr F1 (er H1 l) F2 (er H2 l) → F2 l = none → H2 l = some o2 → ob X.K F2 o2 y → ra X.K F2 u r → Q u H2) → GoA X es σ H1 Q
def EvUL {α : Type} [Rp α] (X : Cx) (es : List Expr) (σ : L2.St) (F Hl : Hp) (l : Addr) (x : β) (r : List α) (y : β) : Prop := ∀ F1 H1 o, GrX X.K F Hl F1 (er H1 l) → F1 l = none → H1 l = some o → ob X.K F1 o x → ∀ Q : List V → Hp → Prop, (∀ u F2 H2 o2, Gr F1 (er H1 l) F2 (er H2 l) → F2 l = none → H2 l = some o2 → ob X.K F2 o2 y → Rps X.K F2 u r → Q u H2) → GoA X es σ H1 Q
def EvUT (X : Cx) (e : Expr) (σ : L2.St) (F Hl : Hp) (l : Addr) (x : β) (r : Bool) (y : β) : Prop := ∀ F1 H1 o, GrX X.K F Hl F1 (er H1 l) → F1 l = none → H1 l = some o → ob X.K F1 o x → ∀ Q : Bool → Hp → Prop, (∀ F2 H2 o2, Gr F1 (er H1 l) F2 (er H2 l) → F2 l = none → H2 l = some o2 → ob X.K F2 o2 y → Q r H2) → GoT X e σ H1 Q
def EvUW (X : Cx) (e : Expr) (σ : L2.St) (F Hl : Hp) (l : Addr) (x : β) (r : Bool) (y : β) : Prop := ∀ F1 H1 o, GrX X.K F Hl F1 (er H1 l) → F1 l = none → H1 l = some o → ob X.K F1 o x → ∀ Q : Bool → Hp → Prop, (∀ F2 H2 o2, Gr F1 (er H1 l) F2 (er H2 l) → F2 l = none → H2 l = some o2 → ob X.K F2 o2 y → Q r H2) → GoW X e σ H1 Q
theorem EvU.up {ρ : Type} [Rp ρ] {r : ρ} {F' H' : Hp} (h : EvU X e σ F Hl l c0 r c1) (g : Gr F Hl F' H') : EvU X e σ F' H' l c0 r c1 := fun F1 H1 o g1 => h F1 H1 o (.pre g g1)
theorem EvU.m {ρ : Type} [Rp ρ] {r : ρ} (o : Own X.K H0 F H l c0) (h : EvU X e σ F (er H l) l c0 r c1) : EvM X e σ F H l r c1 := fun F1 H1 g Q q => by
  have o1 := o.up g.toGr
  obtain ⟨u, hu, ru⟩ := o1.h
  exact h F1 H1 u ⟨o.ere g.toGr, g.h.er o1.pl⟩ o1.f hu ru Q fun v F2 H2 o2 g2 f2 h2 b2 r2 => q v F2 H2 o2 (g2.wide ⟨_, h2, Ob.pl b2⟩) f2 h2 b2 r2
theorem EvUW.t {r : Bool} (h : EvUW X e σ F Hl l c0 r c1) : EvUT X e σ F Hl l c0 r c1 := fun F1 H1 o g f h1 bo Q q => GoT.of (PW.pt pw_go) (h F1 H1 o g f h1 bo Q q)
end
end Gx
namespace Gx
open PySem PySem.Spec PyProof.Rows L2
open Rp (rp)
open Ra (ra)
open Ob (ob)
section
variable {X : Cx} {e : Expr} {es : List Expr} {σ : L2.St} {F Hl : Hp} {l : Addr} {β : Type} [Rp β] [Ob β] {c0 c1 c2 : β}
structure VKn (sc : Scope) (n : Str) : Prop where
  v : Vis sc n
  d : (n == ("__debug__" : Str)) = false
  c : (n == ("__classdict__" : Str)) = false
theorem ev_varK {α : Type} [Rp α] {x : α} {v : V} {H : Hp} (i : Nat) {n : Str} {pos : Pos} (hs : σ[i]? = some (some v)) (h : rp X.K F v x) (k : VKn X.env.scope n) (hN : X.N[i]? = some n := by rfl) : Ev X (.Name n pos) σ F H x := ev_var i hs h hN k.v k.d k.c
end
end Gx
namespace Gx
open PySem PySem.Spec PyProof.Rows L2
open Rp (rp)
open Ra (ra)
open Ob (ob)
def C2 {α : Type} [Rp α] (K : PySem.W.Frag) (F : Hp) (v : V) (l : Addr) (x : α) : Prop := ∃ a w, v = .ref a ∧ TupF F a [w, .ref l] ∧ rp K F w x
theorem C2.mono {α : Type} [Rp α] {K : PySem.W.Frag} {F F' : Hp} {v : V} {l : Addr} {x : α} (h : C2 K F v l x) (s : L2.Same F F') : C2 K F' v l x := by
  obtain ⟨a, w, e, t, r⟩ := h
  exact ⟨a, w, e, tupF_mono s t, Rp.mono s r⟩
theorem C2.rp {α γ : Type} [Rp α] [Rp γ] {K : PySem.W.Frag} {F : Hp} {v : V} {l : Addr} {x : α} {y : γ} (h : C2 K F v l x) (r : Rp.rp K F (.ref l) y) : Rp.rp K F v (T2.mk x y) := by
  obtain ⟨a, w, e, t, rw'⟩ := h
  exact ⟨a, _, e, t, w, _, rfl, rw', .ref l, _, rfl, r, rfl⟩
theorem C2.of {α γ : Type} [Rp α] [Rp γ] {K : PySem.W.Frag} {F : Hp} {v : V} {l : Addr} {t : T2 α γ} (h : C2 K F v l t.a) (r : Rp.rp K F (.ref l) t.b) : Rp.rp K F v t := h.rp r
theorem C2.er {α : Type} [Rp α] [Flat α] {K : PySem.W.Frag} {F : Hp} {v : V} {l l0 : Addr} {x : α} (h : C2 K F v l x) (h1 : ∀ xs, ¬ F l0 = some (.tup xs)) (h2 : ∀ o xs, ¬ F l0 = some (.frz o (.tup xs))) : C2 K (er F l0) v l x := by
  obtain ⟨a, w, e, t, r⟩ := h
  exact ⟨a, w, e, er_seqT h1 h2 t, Flat.fl h1 h2 r⟩
section
variable {X : Cx} {K : PySem.W.Frag} {e a b c d : Expr} {es : List Expr} {σ : L2.St} {F H F0 H0 : Hp} {pos : Pos} {D : Ends} {st : Stmt} {rest body : List Stmt} {α γ : Type} [Rp α] [Rp γ] {x : α} {ys : List γ}
def EvCP (X : Cx) (e : Expr) (σ : L2.St) (F H : Hp) (x : α) (ys : List γ) : Prop := ∀ F1 H1, GrX X.K F H F1 H1 → ∀ Q : VK, (∀ u l o F2 H2, Gr F1 H1 F2 H2 → H1 l = none → F2 l = none → H2 l = some o → ob X.K F2 o ys → C2 X.K F2 u l x → Q u H2) → GoE X e σ H1 Q
def PrCP (K : PySem.W.Frag) {τ : Type} [Ra τ] (f : τ → Option (T2 α (List γ))) : Sp := fun vs H Q _ => ∃ F a r, SmX K F H ∧ ra K F vs a ∧ f a = some r ∧ ∀ u l o F' H', Gr F H F' H' → H l = none → F' l = none → H' l = some o → ob K F' o r.b → C2 K F' u l r.a → Q u H'
theorem EvCP.ev (h : EvCP X e σ F H x ys) : Ev X e σ F H (T2.mk x ys) := fun F1 H1 g Q q =>
  GoE.lock (Q' := fun v H2 => ∃ l o F2, C2 X.K F2 v l x ∧ Gr F1 H1 F2 H2 ∧ H1 l = none ∧ F2 l = none ∧ H2 l = some o ∧ ob X.K F2 o ys) (h F1 H1 g _ fun u l o F2 H2 g2 n2 f2 h2 r2 c2 => ⟨l, o, F2, c2, g2, n2, f2, h2, r2⟩)
    fun v H2 ⟨l, o, F2, c2, g2, n2, f2, h2, r2⟩ => ⟨l, o, h2, Ob.mu r2, fun od =>
      q _ (upd F2 l (.frz od o)) _ (g2.freeze n2 f2 ⟨_, h2, Ob.pl r2⟩ trivial) ((c2.mono (same_upd f2)).rp (Ob.fz upd_same (Ob.mono (same_upd f2) r2)))⟩
theorem EvCP.evT {t : T2 α (List γ)} (h : EvCP X e σ F H t.a t.b) : Ev X e σ F H t := h.ev
end
end Gx
namespace Gx
open PySem PySem.Spec PyProof.Rows L2
open Rp (rp)
open Ra (ra)
open Ob (ob)
structure Fnv (τ ρ : Type) where
  f : Addr
  g : NdefX.NF
  fr : List Str
  ws : List (Option V)
  R : PySem.W.Frag → Hp → Prop
  mono : ∀ {K : PySem.W.Frag} {F F' : Hp}, L2.Same F F' → R K F → R K F'
  fn : τ → Option ρ
structure One {τ ρ : Type} (x : Fnv τ ρ) : Type where
section
variable {τ ρ : Type} {x : Fnv τ ρ} {X : Cx} {K : PySem.W.Frag} {e a b c d : Expr} {es : List Expr} {σ : L2.St} {F H F0 H0 : Hp} {pos : Pos} {D : Ends} {st : Stmt} {rest body : List Stmt}
instance : Rp (One x) := ⟨fun K F v _ => v = .ref x.f ∧ x.R K F, fun s h => ⟨h.1, x.mono s h.2⟩⟩
instance : NN (One x) := ⟨fun h => nomatch h.1⟩
structure Mkf (x : Fnv τ ρ) (H : Hp) : Prop where
  f : H x.f = some (NdefX.FnO x.f x.g)
  c : H x.g.c = some (LamX.CodeO x.g.c x.g.qual)
theorem ntb_fnO {f : Addr} {g : NdefX.NF} : ntb (NdefX.FnO f g) := by show True; trivial
theorem ntb_codeO {c : Addr} {q : Str} : ntb (LamX.CodeO c q) := by show True; trivial
theorem Mkf.ext {H' : Hp} (m : Mkf x H) (h : Xt H H') : Mkf x H' := ⟨h.k _ _ m.f ntb_fnO, h.k _ _ m.c ntb_codeO⟩
structure ClF (x : Fnv τ ρ) (K : PySem.W.Frag) (F H : Hp) (v : V) : Prop where
  r : rp K F v (One.mk : One x)
  m : Mkf x H
theorem ClF.ex {v : V} (h : ClF x K F H v) : ∃ z : Fnv τ ρ, z = x ∧ ClF z K F H v := ⟨x, rfl, h⟩
theorem ClF.up {v : V} {F' H' : Hp} (h : ClF x K F H v) (g : Gr F H F' H') : ClF x K F' H' v := ⟨Rp.mono g.ff h.r, h.m.ext g.hh⟩
structure ZC (x : Fnv τ ρ) (outer : List Env) (s : Shared) (H : Hp) : Prop where
  m : Mkf x H
  c : NdefX.CellsAt x.g.cl x.fr x.ws s.heap H
  n : ∀ y a, x.g.cl.lookup y = some a → a ∉ frs outer
def ClA (X : Cx) (σ : L2.St) (x : Fnv τ ρ) : Prop := ∀ pins H s, Inv X pins σ H s → NdefX.CellsAt x.g.cl x.fr x.ws s.heap H ∧ ∀ y a, x.g.cl.lookup y = some a → a ∉ frs X.stack
theorem clA_recv (z : ZC x X.outer X.s_0 X.H_0) (hx : X.ex = [] := by rfl) : ClA X σ x := fun pins H s I => by
  have no : ∀ q : Addr, q ∉ X.ex := fun q hq => by rw [hx] at hq; cases hq
  refine ⟨z.c.later z.n (fun _ q _ => no q) I, fun y q e hq => ?_⟩
  rcases List.mem_cons.mp (I.stkSub q hq) with z1 | z1
  · obtain ⟨_, v, o, ho, _⟩ := z.c.all y q e
    have h1 := Heap.lt_size ho
    have h2 := I.ok.above
    rw [← z1] at h2
    exact Nat.lt_irrefl _ (Nat.lt_of_lt_of_le h1 h2)
  · exact z.n y q e z1
theorem clA_made {sc : Scope} {js : List Nat} (hcl : x.g.cl = cloFrom X.env.cells sc.names []) (hfree : ∀ y ∈ sc.names, y.2 = .free → X.env.scope.names.lookup y.1 = some .cell ∨ X.env.scope.names.lookup y.1 = some .free)
    (hfr : ∀ y ∈ x.fr, (y, NameKind.free) ∈ sc.names) (hjs : js.map (fun j => X.N[j]?) = x.fr.map some) (hw : js.map (NdefX.slotAt σ) = x.ws) (hfn : X.fn = (fun _ => true) := by rfl) : ClA X σ x := fun pins H s I => by
  have cp := NdefX.Caps.made I.ok hfree hfr hjs
  rw [← hcl] at cp
  have C := NdefX.cells_of I cp
  rw [hw] at C
  refine ⟨C, fun y q e hq => ?_⟩
  have e1 := cp.sub y q e
  rcases List.mem_cons.mp (I.stkSub q hq) with z1 | z1
  · exact I.cne y q e1 z1
  · obtain ⟨_, o, ho, _⟩ := I.ok.funs.mem z1
    have h1 := Heap.lt_size ho
    have h2 := I.ok.cab y q (by rw [hfn]) e1
    exact Nat.lt_irrefl _ (Nat.lt_of_lt_of_le h1 h2)
def PrF (K : PySem.W.Frag) [Ra τ] [Rp ρ] (x : Fnv τ ρ) : List (Option V) → Sp := fun ws vs H Q _ => ws = x.ws ∧ ∃ F a r, SmX K F H ∧ x.R K F ∧ ra K F vs a ∧ x.fn a = some r ∧ ∀ F' H' u, Gr F H F' H' → rp K F' u r → Q u H'
def NokF (P : Program) (w : World) (K : PySem.W.Frag) (mg : Str → Option Value) (base : Heap) [Ra τ] [Rp ρ] (k : Nat) (x : Fnv τ ρ) : Prop := ∃ ps : List Str, NdefX.NOk P w K mg base CX0 k x.f x.g ps x.fr (PrF K x)
theorem NokF.mono {P : Program} {w : World} {mg : Str → Option Value} {base : Heap} [Ra τ] [Rp ρ] {j k : Nat} (o : NokF P w K mg base j x) (h : j ≤ k) : NokF P w K mg base k x := let ⟨ps, o⟩ := o; ⟨ps, NdefX.NOk.mono o h⟩
theorem GoE.callG {S : List (Option V) → Sp} {P1 : List V → Hp → Prop} {Q : VK} {i j k : Nat} {n : Str} {p : Pos} {v : V} (Fn : ∃ ps : List Str, NdefX.NOk X.prog X.w X.K X.mg X.base CX0 k x.f x.g ps x.fr S) (hr : Room j X.A) (hk : k ≤ j) (hσ : σ[i]? = some (some v)) (hv : v = .ref x.f) (m : Mkf x H) (hc : ClA X σ x) (ga : GoA X (e :: es) σ H P1)
    (h : ∀ vs H1, P1 vs H1 → Mkf x H1 ∧ S x.ws vs H1 Q fun _ _ _ => False) (hN : X.N[i]? = some n) (hvis : Vis X.env.scope n) (hd : (n == ("__debug__" : Str)) = false) (hcd : (n == ("__classdict__" : Str)) = false)
    (he : starEach (e :: es) X.env = (false, eval e X.env) :: starEach es X.env) (hpl : (backTo pos (starEach es X.env)).any (·.1) = false) : GoE X (.Call (.Name n p) (e :: es) [] pos) σ H Q := .mk fun pins s I => by
  subst hv
  refine wpAny_Call_Name_kw (thn ((pe_var (pos := p) hN hvis hd hcd).run pins s σ H (fun u H1 => u = .ref x.f ∧ H1 = H) I ⟨_, hσ, rfl, rfl⟩) fun u s1 ⟨u', H1, I1, r1, e1, e2⟩ => ?_)
  subst e1; subst e2
  cases r1
  have at1 := NdefX.fnAt_of I1 m.f
  refine PySem.W.callWith_F (first := []) at1 (thn (ga.o pos pins s1 I1) fun us s2 ⟨vs, H2, I2, r2, q⟩ => ?_) he hpl
  obtain ⟨m2, q2⟩ := h vs H2 q
  refine ⟨NdefX.fnAt_of I2 m2.f, ?_⟩
  obtain ⟨ps, Fn⟩ := Fn
  refine wpAny_call (codeAny_mono (Fn.run X.A X.stack s2 H2 us vs x.ws Q (fun _ _ _ => False) (hr.mono hk) I2.env0 m2.f m2.c (hc _ _ _ I2).1 r2 q2) fun o s3 ho => ?_)
  cases o with
  | error _ => exact ho.elim
  | ok fl => cases fl <;> first | exact False.elim ho | exact I2.after ho
end
def inBody : Stmt → List Stmt
  | .For _ _ b _ _ => b
  | .While _ b _ _ => b
  | .If _ b _ _ => b
  | _ => []
section
variable {α β ρ : Type} [Rp α] [Ob α] [Rp β] [Ob β] [Rp ρ] {x : Fnv (α × β × Unit) ρ} {X : Cx} {e a b : Expr} {σ : L2.St} {F H : Hp} {pos : Pos}
def PrT (K : PySem.W.Frag) (x : Fnv (α × β × Unit) ρ) : List (Option V) → Sp := fun ws vs H Q _ => ws = x.ws ∧ ∃ F0 H0 F l1 l2 y1 y2 r, vs = [.ref l1, .ref l2] ∧ GrX K F0 H0 F H ∧ x.R K F ∧ Own K H0 F H l1 y1 ∧ Own K H0 F H l2 y2 ∧ l1 ≠ l2 ∧ x.fn (y1, y2, ()) = some r ∧ ∀ F' H' u, Gr F0 H0 F' H' → rp K F' u r → Q u H'
def NokT (P : Program) (w : World) (K : PySem.W.Frag) (mg : Str → Option Value) (base : Heap) (k : Nat) (x : Fnv (α × β × Unit) ρ) : Prop := ∃ ps : List Str, NdefX.NOk P w K mg base CX0 k x.f x.g ps x.fr (PrT K x)
theorem NokT.mono {K : PySem.W.Frag} {P : Program} {w : World} {mg : Str → Option Value} {base : Heap} {j k : Nat} (o : NokT P w K mg base j x) (h : j ≤ k) : NokT P w K mg base k x := let ⟨ps, o⟩ := o; ⟨ps, NdefX.NOk.mono o h⟩
end
structure FnOkZ (Z : List Env → Shared → Hp → Prop) (P : Program) (w : World) (K : PySem.W.Frag) (mg : Str → Option Value) (base : Heap) (CX : CXT) (k : Nat) (f : Addr) (fd : FuncData) (ps : List Str) (sp : Sp) : Prop where
  len : ∀ vs H Q E, sp vs H Q E → vs.length = ps.length
  run : ∀ (A : Around) (outer : List Env) (s : Shared) (H : Hp) (args : Args) (us : List Value) (vs : List V) (Q : VK) (E : XK), Room k A → Env0 P w K mg base A outer s H → BindsTo s fd args (ps.zip us) → Vals vs us → Z outer s H →
    sp vs H Q E → codeAny (model P w) A (.call (.ref f) args) (CR CX outer P w H s Q E) s
section
variable {X : Cx} {K : PySem.W.Frag} {e a b c d : Expr} {es : List Expr} {σ : L2.St} {F H F0 H0 : Hp} {pos : Pos} {D : Ends} {st : Stmt} {rest body : List Stmt} {P : Program} {w : World} {mg : Str → Option Value} {base : Heap} {Z : List Env → Shared → Hp → Prop}
theorem FnOkZ.plain {CX : CXT} {k : Nat} {f : Addr} {fd : FuncData} {ps : List Str} {sp : Sp} (o : FnOkZ (fun _ _ _ => True) P w K mg base CX k f fd ps sp) : FnOk P w K mg base CX k f fd ps sp :=
  ⟨o.len, fun A outer s H args us vs Q E hr e0 hb r h => o.run A outer s H args us vs Q E hr e0 hb r trivial h⟩
theorem FnOkZ.mono {CX : CXT} {k j : Nat} {f : Addr} {fd : FuncData} {ps : List Str} {sp : Sp} (o : FnOkZ Z P w K mg base CX j f fd ps sp) (h : j ≤ k) : FnOkZ Z P w K mg base CX k f fd ps sp :=
  ⟨o.len, fun A outer s H args us vs Q E hr => o.run A outer s H args us vs Q E (hr.mono h)⟩
theorem okZ {N ps : List Str} {k : Nat} {sp : Sp} {x qual : Str} {s0 : Stmt} {pp : Str × Option Str} {fd : FuncData} {CX : CXT} (Fn : FunD K x qual (defArgs s0) (defBody s0) (defScope s0) [] [] (He.fAd K pp) fd) (S : FnScope N ps (defScope s0)) (len : ∀ vs H Q E, sp vs H Q E → vs.length = ps.length)
    (hbody : ∀ (cdv : Value) (A : Around) (outer : List Env) (s : Shared) (H : Hp) (vs : List V) (Q : VK) (E : XK), cdv = .ref (He.codeOf K pp) → Room k (A.deeper (envOfC qual (defScope s0) s.heap.objs.size (He.fAd K pp) cdv)) → Z outer s H → sp vs H Q E →
      GoS (cxOf CX P w K mg base N qual (defScope s0) (He.fAd K pp) cdv A outer s H E) (defBody s0) { nx := fun _ H' => Q .non H', rt := Q } (start N vs) H) : FnOkZ Z P w K mg base CX (k + 1) (He.fAd K pp) fd ps sp := by
  obtain ⟨oc, od, dV, kV, doc, pm, an, cdv, ct, osl, rfl, lk, hcd, _, _⟩ := Fn.ex
  have ecd : cdv = .ref (He.codeOf K pp) := by
    obtain ⟨c0, e0⟩ := He.codeIn_ref hcd
    rw [He.codeOf_eq lk e0]; exact e0
  refine ⟨len, fun A outer s H args us vs Q E hr env0 bnd rv z hsp => ?_⟩
  have keep0 : ∀ q o, base.get? q = some o → s.heap.get? q = some o := fun q o h => (env0.bs q o h).1
  have inK := env0.mod.kin.keeps keep0
  have noLim : s.heap.NoLimit := env0.mod.nolimit.keeps keep0
  have kinds : ∀ y ∈ ps.zip us, (defScope s0).names.lookup y.1 = some .local ∨ ((defScope s0).names.lookup y.1 = some .cell ∧ ((cellsFrom (s.heap.objs.size + 1) (defScope s0).names []).lookup y.1).isSome = true) := by
    rintro ⟨n, v⟩ hy
    exact (S.par n (List.of_mem_zip hy).1).imp id fun q => ⟨q, PySem.W.cellsFrom_some _ _ _ (.inl q)⟩
  refine codeAny_call_function hr.depth (inK _ _ lk) rfl S.co S.gen rfl (PySem.W.codeRec_of inK hcd) (bnd _ _ _ _ (wpAny_newFunctionEnv_cells S.kind kinds fun env1 he1 s1 made => ?_))
  subst he1
  refine ⟨noLim.keeps made.toInCall.keep, codeAny_func ?_⟩
  have I := inv_start (CX := CX) (P := P) (w := w) (K := K) (mg := mg) (base := base) (E := E) (cd := cdv) S hr.hd env0 (len _ _ _ _ hsp) rv made
  have body := (hbody cdv A outer s H vs Q E ecd (hr.deeper _) z hsp).o [] s1 I
  have done : ∀ {σ1 : L2.St} {H1 : Hp} {v1 : V} {u1 : Value} {s2 : Shared}, Inv (cxOf CX P w K mg base N qual (defScope s0) (He.fAd K pp) cdv A outer s H E) [] σ1 H1 s2 → RelV v1 u1 → Q v1 H1 → CE outer P w H s Q u1 s2 := by
    intro σ1 H1 v1 u1 s2 J r1 q1
    exact ⟨v1, H1, J.os, J.bare, J.base, J.hok, r1, q1⟩
  refine wpAny_mono body (fun fl s2 h2 => ?_) fun _ _ h2 => h2
  match fl, h2 with
  | .ret _, ⟨_, _, _, J, r1, q1⟩ => exact done J r1 q1
  | .next, ⟨_, _, J, q1⟩ => exact done (v1 := .non) (u1 := .none) J rfl q1
  | .brk, ⟨_, _, _, q1⟩ => exact q1.elim
  | .cont, ⟨_, _, _, q1⟩ => exact q1.elim
theorem GoS.nox {σ : L2.St} (h : GoS X.nox body D σ H) : GoS X body D σ H := GoS.of (PSs.nox pss_go) h
theorem fn_okZ {τ ρ : Type} [Ra τ] [RaN τ] [Rp ρ] {f : τ → Option ρ} {x qual : Str} {s0 : Stmt} {pp : Str × Option Str} {fd : FuncData} {N ps : List Str} {k : Nat} (Fn : FunD K x qual (defArgs s0) (defBody s0) (defScope s0) [] [] (He.fAd K pp) fd) (S : FnScope N ps (defScope s0)) (hn : RaN.n τ = ps.length)
    (hbody : ∀ (cdv : Value) (A : Around) (outer : List Env) (s : Shared) (F H : Hp) (vs : List V) (a : τ) (r : ρ) (D : Ends) (E : XK), cdv = .ref (He.codeOf K pp) → Room k (A.deeper (envOfC qual (defScope s0) s.heap.objs.size (He.fAd K pp) cdv)) → Z outer s H → SmX K F H → ra K F vs a → f a = some r →
      (∀ F' H' u, GrX K F H F' H' → rp K F' u r → D.rt u H') → (∀ σ' F' H', GrX K F H F' H' → rp K F' .non r → D.nx σ' H') → GoS (cxOf CX0 P w K mg base N qual (defScope s0) (He.fAd K pp) cdv A outer s H E).nox (defBody s0) D (start N vs) H) :
    FnOkZ Z P w K mg base CX0 (k + 1) (He.fAd K pp) fd ps (Pr K f) :=
  okZ Fn S (fun vs H Q E ⟨F, a, r, _, ra', _⟩ => by rw [RaN.len ra', hn]) fun cdv A outer s H vs Q E hcd hr z ⟨F, a, r, sm, ra', hf, k⟩ =>
    (hbody cdv A outer s F H vs a r _ E hcd hr z sm ra' hf (fun F' H' u g q => k F' H' u g.toGr q) fun σ' F' H' g q => k F' H' .non g.toGr q).nox
end
def ordG (z : Str) : Option Int := if z.length = 1 then some ((z.cps.getD 0 0 : Nat) : Int) else none
theorem oc_ord {K : PySem.W.Frag} {z : Str} {r : Int} (h : ordG z = some r) : OpC K (fun xs H Q => ∃ x : Str, xs = [.str x] ∧ x.length = 1 ∧ Q (.int (x.cps.getD 0 0 : Nat)) H) (z, ()) r := oc1 fun F H v Q s rv k => by
  unfold ordG at h
  split at h
  · rename_i hz
    have rv : v = .str z := rv
    exact ⟨z, by rw [rv], hz, k _ F H (.refl s) (congrArg V.int (Option.some.inj h))⟩
  · cases h
theorem ev_lenOwn {α : Type} [Rp α] {X : Cx} {σ : L2.St} {F H H0 : Hp} {pos : Pos} {xs : List α} {l : Addr} {n : Str} {p1 p2 : Pos} (i : Nat) (o : Own X.K H0 F H l xs) (hσ : σ[i]? = some (some (.ref l))) (hm : X.mg "len" = none)
    (hN : X.N[i]? = some n := by rfl) (hv : Vis X.env.scope n := by first | exact Or.inl rfl | exact Or.inr (Or.inl rfl) | exact Or.inr (Or.inr rfl)) (hd : (n == ("__debug__" : Str)) = false := by decide) (hcd : (n == ("__classdict__" : Str)) = false := by decide)
    (hg : Gl X "len" := by rfl) (hs : starEach [.Name n p1] X.env = (false, eval (.Name n p1) X.env) :: starEach [] X.env := by rfl) (hpl : (backTo pos (starEach [] X.env)).any (·.1) = false := by rfl) : Ev X (.Call (.Name "len" p2) [.Name n p1] [] pos) σ F H (xs.length : Int) := fun F1 H1 g Q q => by
  have o1 := o.up g.toGr
  obtain ⟨_, hl, vs, rfl, rs⟩ := o1.h
  have q1 := q (.int vs.length) F1 H1 (.refl g.fh) (by show V.int _ = V.int _; rw [rs.length])
  exact GoE.of (pe_callB call_len_seq hg hm PySem.boot_len (pa_cons (pe_var hN hv hd hcd) pa_nil hs) (by decide) (by decide) hs hpl) ⟨_, hσ, _, vs, rfl, .inl (SqL.of hl), q1⟩
section
variable {X : Cx} {a e : Expr} {es : List Expr} {σ : L2.St} {F H : Hp} {pos : Pos} {Z : List Env → Shared → Hp → Prop}
theorem run_fnZ {k : Nat} {fa : Addr} {fd : FuncData} {ps : List Str} {sp : Sp} {pins : List (Addr × Obj)} {s : Shared} {Q : VK} {us : List Value} {vs : List V} (Fn : FnOkZ Z X.prog X.w X.K X.mg X.base CX0 k fa fd ps sp) (hr : Room k X.A) (hb : Binds X.K fd ps [])
    (I : Inv X pins σ H s) (r : Vals vs us) (h : sp vs H Q (fun _ _ _ => False)) (z : Z X.stack s H) : wpAny (model X.prog X.w) X.A (call (.ref fa) us) (EP X pins σ Q) X.xe s := by
  have hl : us.length = ps.length := r.length.symm.trans (Fn.len _ _ _ _ h)
  have bnd := hb s us I.kIn (by rw [List.append_nil]; exact hl)
  rw [List.append_nil] at bnd
  refine wpAny_call (codeAny_mono (Fn.run X.A X.stack s H ⟨us, []⟩ us vs Q (fun _ _ _ => False) hr I.env0 bnd r z h) fun o s2 ho => ?_)
  cases o with
  | error _ => exact ho.elim
  | ok fl => cases fl <;> first | exact False.elim ho | exact I.after ho
end
section
variable {X : Cx} {K : PySem.W.Frag} {e a b c d : Expr} {es : List Expr} {σ : L2.St} {F H F0 H0 : Hp} {pos : Pos} {D : Ends} {st : Stmt} {rest body : List Stmt} {P : Program} {w : World} {mg : Str → Option Value} {base : Heap} {Z : List Env → Shared → Hp → Prop}
theorem tab_more {ps : Array Value} {more : List Value} : (ps ++ more.toArray).toList = ps.toList ++ more := by simp
theorem ndefG {pins : List (Addr × Obj)} {s : Shared} {c P : Addr} {name : Str} {params : Arguments} {nb : List Stmt} {scope : Scope} {E Q : Value → Shared → Prop} (I : Inv X pins σ H s) (TB : LamX.TabB X.base X.mg c P) (hcode : X.env.code = .ref c) (hT : GdT H P) (hq : nmG pos.line pos.col = X.env.qual ++ name)
    (hfree : ∀ y ∈ scope.names, y.2 = .free → ∃ q, X.env.cells.lookup y.1 = some q)
    (h : ∀ f c' H1 s', Inv X pins σ H1 s' → Xt H H1 → (∀ b o, H b = some o → b ≠ P → H1 b = some o) → H1 f = some (NdefX.FnO f ⟨name, X.env.qual ++ name, params, nb, scope, cloFrom X.env.cells scope.names [], c'⟩) → H1 c' = some (LamX.CodeO c' (X.env.qual ++ name)) → Q (.ref f) s') :
    wpAny (model X.prog X.w) X.A (makeFunction name (X.env.qual ++ name) params (.stmts nb) scope X.env [] [] [] pos pos.line) Q E s := by
  have hG := hT
  obtain ⟨ps, tP, tri, all⟩ := hT
  have g1 := I.mod.glob.keeps I.bk
  have cd := TB.code.keeps I.bk
  have bt : s.heap.BuiltinsAt X.mg P := TB.bm.keeps I.bk
  have oP : s.heap.get? P = some { cls := .none, data := .fields ps } := I.hok P _ tP
  cases among : codeAmong pos ps.toList with
  | some cv =>
    obtain ⟨c', rfl, cO⟩ := all pos cv among
    rw [hq] at cO
    refine PySem.W.makeFunction_hit (c := c) (closure_ok hfree) I.ok.glob g1 hcode cd oP tri among bt fun ctv doc h' tk kp _ => ?_
    have I1 := I.kept (t' := tk) kp
    have nf : H h'.objs.size = none := I1.hok.fresh (Nat.le_refl _)
    have I2 := NdefX.inv_fn (F := ⟨name, X.env.qual ++ name, params, nb, scope, cloFrom X.env.cells scope.names [], c'⟩) (t' := tk) (doc := doc) (pm := (X.mg "__name__").getD .none) (ctv := ctv) I1 rfl
    exact h _ c' _ _ I2 (.upd nf ntb_fnO) (fun b o hb _ => by rw [upd_ne (ne_of_none hb nf)]; exact hb) upd_same (by rw [upd_ne (ne_of_none cO nf)]; exact cO)
  | none =>
    refine PySem.W.makeFunction_K (c := c) (closure_ok hfree) I.ok.glob g1 hcode cd oP tri among TB.gP bt fun c' ctv doc h' tk hx hge hlt hrec htb => ?_
    obtain ⟨c2, oc, vs, t, e2, hoc, hd, hv⟩ := hrec
    cases e2
    have nC : H c' = none := I.hok.fresh hge
    have I1 := LamX.inv_table (t' := tk) (more := [rawInt pos.line, rawInt pos.col, .ref c'].toArray) (h' := h') I tP (fun b o hb => hx b o hb) htb hge ⟨oc, vs, t, hoc, hd, hv⟩
    have nF := I1.hok.fresh (Nat.le_refl h'.objs.size)
    have I2 := NdefX.inv_fn (F := ⟨name, X.env.qual ++ name, params, nb, scope, cloFrom X.env.cells scope.names [], c'⟩) (t' := tk) (doc := doc) (pm := (X.mg "__name__").getD .none) (ctv := ctv) I1 rfl
    have nF0 : H h'.objs.size = none := NdefX.upd_none (NdefX.upd_none nF)
    generalize hH1 : upd (upd (upd H P (.tbl (ps ++ [rawInt pos.line, rawInt pos.col, .ref c'].toArray))) c' (LamX.CodeO c' (X.env.qual ++ name))) h'.objs.size (NdefX.FnO h'.objs.size ⟨name, X.env.qual ++ name, params, nb, scope, cloFrom X.env.cells scope.names [], c'⟩) = H1 at I2
    have kp : ∀ b o, H b = some o → b ≠ P → H1 b = some o := fun b o hb hP => by
      rw [← hH1, upd_ne (ne_of_none hb nF0), upd_ne (ne_of_none hb nC), upd_ne hP]; exact hb
    have cO : H1 c' = some (LamX.CodeO c' (X.env.qual ++ name)) := by rw [← hH1, upd_ne (Nat.ne_of_lt hlt)]; exact upd_same
    have pO : H1 P = some (.tbl (ps ++ [rawInt pos.line, rawInt pos.col, .ref c'].toArray)) := by rw [← hH1, upd_ne (ne_of_none tP nF0), upd_ne (ne_of_none tP nC)]; exact upd_same
    have code : ∀ q nm, H q = some (LamX.CodeO q nm) → H1 q = some (LamX.CodeO q nm) := fun q nm hb => kp q _ hb fun z => by
      rw [z, tP] at hb; exact LamX.codeO_ne ps (Option.some.inj hb).symm
    refine h _ c' H1 _ I2 ⟨fun b o hb n => kp b o hb fun z => ?_, fun b qs hb => ?_, fun P' hP' => ?_⟩ kp (by rw [← hH1]; exact upd_same) cO
    · subst z; rw [tP] at hb; cases hb; exact n
    · by_cases z : b = P
      · subst z; exact ⟨_, pO⟩
      · exact ⟨qs, kp b _ hb z⟩
    · by_cases z : P' = P
      · subst z
        refine ⟨_, pO, by rw [tab_more]; exact PySem.TriplesOk_snoc _ _ _ _ tri, fun p' cv hcv => ?_⟩
        rw [tab_more] at hcv
        rcases NdefX.among_app2 _ tri hcv with y | ⟨y, y1, y2⟩
        · obtain ⟨q, e1, e2⟩ := all p' cv y
          exact ⟨q, e1, code _ _ e2⟩
        · refine ⟨c', y, ?_⟩
          rw [← y1, ← y2, hq]; exact cO
      · obtain ⟨qs, e1, e2, e3⟩ := hP'
        exact ⟨qs, kp _ _ e1 z, e2, fun p' cv hcv => let ⟨q, y1, y2⟩ := e3 p' cv hcv; ⟨q, y1, code _ _ y2⟩⟩
theorem go_ndef {name : Str} {params : Arguments} {nb : List Stmt} {scope : Scope} {c P : Addr} (i : Nat) (s : SmX X.K F H) (TB : LamX.TabB X.base X.mg c P) (hcode : X.env.code = .ref c) (hP : P ∈ tabsG X.K) (hq : nmG pos.line pos.col = X.env.qual ++ name)
    (hfree : ∀ y ∈ scope.names, y.2 = .free → X.env.scope.names.lookup y.1 = some .cell ∨ X.env.scope.names.lookup y.1 = some .free)
    (k : ∀ f c' H', Gr F H F H' → H' f = some (NdefX.FnO f ⟨name, X.env.qual ++ name, params, nb, scope, cloFrom X.env.cells scope.names [], c'⟩) → H' c' = some (LamX.CodeO c' (X.env.qual ++ name)) → GoS X rest D (σ.set i (some (.ref f))) H')
    (hN : X.N.Nodup) (hd0 : params.defaults = [] := by rfl) (hk0 : params.kw_defaults = [] := by rfl) (ha : annTrees params none X.env = [] := by rfl) (hi : X.N[i]? = some name := by rfl)
    (hx : Loc X.env.scope name := by first | exact Or.inl rfl | exact Or.inr rfl) (hf : X.fn name = true ∨ X.env.scope.names.lookup name = some .local := by first | exact .inl rfl | exact .inr rfl) : GoS X (.FunctionDef name params nb [] none [] scope none name pos :: rest) D σ H := by
  have run : PS X (.FunctionDef name params nb [] none [] scope none name pos) (fun D1 σ1 H1 => H1 = H ∧ σ1 = σ ∧ ∀ f c' H', Gr F H F H' → H' f = some (NdefX.FnO f ⟨name, X.env.qual ++ name, params, nb, scope, cloFrom X.env.cells scope.names [], c'⟩) → H' c' = some (LamX.CodeO c' (X.env.qual ++ name)) → D1.nx (σ.set i (some (.ref f))) H') := by
    refine ⟨fun pins s1 σ1 H1 D1 I ⟨eH, eσ, h⟩ => ?_⟩
    subst eH; subst eσ
    have eqn : qualnameIn X.env name name = X.env.qual ++ name := by
      have hk : X.env.kindOf name = some .local ∨ X.env.kindOf name = some .cell := hx
      unfold qualnameIn
      rcases hk with hk | hk <;> rw [hk] <;> first | rfl | exact if_neg (by decide)
    refine PySem.W.nestDef_K hd0 hk0 ha ?_
    rw [eqn]
    refine ndefG I TB hcode (s.h.t P hP).1 hq (fun y hy e => I.ok.has _ (hfree y hy e)) fun f c' H2 s2 I2 xt kp f0 c0 => ?_
    refine store_ok I2 hN hi hx (v := .ref f) rfl (fun s3 J => ⟨_, H2, J, h f c' H2 ⟨.refl _, fun b o e => kp b o (s.s b o e) fun z => ?_, xt, fun _ _ _ _ => rfl⟩ f0 c0⟩) hf
    rw [z, (s.h.t P hP).2] at e; cases e
  exact GoS.cons run ⟨rfl, rfl, k⟩
def excCB (K : PySem.W.Frag) (C : Addr) : Bool := decide (PySem.W.findIn K (.ref C) "__getattribute__" = some (some (.builtin "BaseException.__getattribute__"))) && (decide (PySem.W.findIn K (.ref C) "__getattr__" = some none) && (decide (PySem.W.subIn K (.ref C) (.type "BaseException") = some true) && (PySem.W.hasDictIn K C &&
  (decide (PySem.W.findIn K (.ref C) "__class__" = some (some (.builtin "object.__class__"))) && (decide (PySem.W.specialIn K (.builtin "object.__class__") "__get__" = some (some (.builtin "getset_descriptor.__get__"))) && (decide (PySem.W.takesIn K (.builtin "object.__class__") = some true) && decide (PySem.W.mroIn K C (.type "object") = some true)))))))
def Rs.get {ε ρ : Type} : Rs ε ρ → Option ρ
  | .v r => some r
  | .x _ => none
theorem xr0.up {cn : Str} {F' H' : Hp} {cls : Value} {dd : Option Addr} (h : xr0 cn K cls dd) (_ : Gr F H F' H') : xr0 cn K cls dd := h
def unT (H : Hp) : Hp := fun b => match H b with
  | some (.tbl _) => none
  | o => o
theorem unT_of {b : Addr} {o : HO} (h : H b = some o) (n : ntb o) : unT H b = some o := by
  unfold unT; rw [h]; cases o <;> first | rfl | exact n.elim
theorem unT_same : L2.Same (unT H) H := fun b o h => by
  unfold unT at h
  split at h
  · cases h
  · exact h
theorem unT_seq {a : Addr} {xs : List V} (h : SqL K H a xs) : SqL K (unT H) a xs := by
  rcases h with (h | ⟨o, h⟩) | h
  · exact .inl (.inl (unT_of h trivial))
  · exact .inl (.inr ⟨o, unT_of h trivial⟩)
  · exact .inr h
theorem sm_start (h : ∀ P ∈ tabsG K, H P = some (.tbl #[])) : SmX K (unT H) H := ⟨unT_same, ⟨fun P hP => ⟨⟨#[], h P hP, True.intro, fun pos cv hc => by
  have z : codeAmong pos [] = some cv := hc
  simp [codeAmong] at z⟩, by unfold unT; rw [h P hP]⟩⟩⟩
end
end Gx
namespace Gx
open PySem PySem.Spec PyProof.Rows L2
open Rp (rp)
open Ra (ra)
mutual
theorem Dp.sm {K : PySem.W.Frag} {F F' : Hp} (s : L2.Same F F') : ∀ (d : PyData) (v : V), Dp K F v d → Dp K F' v d
  | .none, _, h => by cases h; exact .non
  | .bool b, _, h => by cases h; exact .bl b
  | .int i, _, h => by cases h; exact .int i
  | .str x, _, h => by cases h; exact .str x
  | .list ds, _, h => by
    cases h with
    | lst q r => exact .lst (seqL_mono s q) (DpAll.sm s ds _ r)
  | .tuple ds, _, h => by
    cases h with
    | tup q r => exact .tup (sqT_mono s q) (DpAll.sm s ds _ r)
  | .dict kvs, _, h => by cases h
theorem DpAll.sm {K : PySem.W.Frag} {F F' : Hp} (s : L2.Same F F') : ∀ (ds : List PyData) (vs : List V), DpAll K F vs ds → DpAll K F' vs ds
  | [], _, h => by cases h; exact .nil
  | d :: ds, _, h => by
    cases h with
    | cons a b => exact .cons (Dp.sm s d _ a) (DpAll.sm s ds _ b)
end
def min3I (i j k : Int) : Int := if k < (if j < i then j else i) then k else (if j < i then j else i)
def unlist5 {α : Type} : List α → Option (T5 α α α α α)
  | [x0, x1, x2, x3, x4] => some ⟨x0, x1, x2, x3, x4⟩
  | _ => none
def unlist6 {α : Type} : List α → Option (T6 α α α α α α)
  | [x0, x1, x2, x3, x4, x5] => some ⟨x0, x1, x2, x3, x4, x5⟩
  | _ => none
def unlist7 {α : Type} : List α → Option (T7 α α α α α α α)
  | [x0, x1, x2, x3, x4, x5, x6] => some ⟨x0, x1, x2, x3, x4, x5, x6⟩
  | _ => none
structure Dy where
  d : PyData
instance : Rp Dy := ⟨fun K F v x => Dp K F v x.d, fun s h => Dp.sm s _ _ h⟩
def kindD : PyData → String
  | .none => "NoneType"
  | .bool _ => "bool"
  | .int _ => "int"
  | .str _ => "str"
  | .list _ => "list"
  | .tuple _ => "tuple"
  | .dict _ => "dict"
def Dy.tup : Dy → Option (Ct Dy)
  | ⟨.tuple ds⟩ => some ⟨ds.map Dy.mk⟩
  | _ => none
def eqDy (x y : Dy) : Option Bool := if (SeqAt.shaped x.d && SeqAt.shaped y.d) = true then some (PyData.eqv x.d y.d) else none
section
variable {X : Cx} {e a : Expr} {σ : L2.St} {F H : Hp} {pos : Pos}
def isIS : PyData → Option Bool
  | .none => some false
  | .bool _ => some true
  | .int _ => some true
  | .str _ => some true
  | _ => none
end
end Gx
namespace Gx
open PySem PySem.Spec PyProof.Rows L2
open Rp (rp)
open Ra (ra)
open Ob (ob)
section
variable {prog : Program} {w : World} {A : Around} {E : Value → Shared → Prop} {s : Shared}
abbrev Kp (h h' : Heap) : Prop := ∀ b o, h.get? b = some o → h'.get? b = some o
def byKey (ks : List Int) (i : Int) : PyData := .int (ks.getD i.toNat 0)
def byLe (ks : List Int) : Int → Int → Bool := PySem.W.dataLe false (byKey ks)
end
end Gx
namespace Gx
open PySem PySem.Spec PyProof.Rows L2
open Rp (rp)
open Ra (ra)
open Ob (ob)
section
variable {X : Cx} {K : PySem.W.Frag} {e a b d : Expr} {es : List Expr} {σ : L2.St} {F H F0 H0 : Hp} {pos : Pos}
structure LamN (sc scope : Scope) (on vn : Str) : Prop where
  kind : scope.kind = .function
  co : scope.isCoroutine = false
  gen : scope.isGenerator = false
  cell : ∀ y ∈ scope.names, y.2 ≠ .cell
  v : scope.names.lookup vn = some .local
  o : scope.names.lookup on = some .free
  fr : ∀ y ∈ scope.names, y.2 = .free → sc.names.lookup y.1 = some .cell ∨ sc.names.lookup y.1 = some .free
def lamNB (sc scope : Scope) (on vn : Str) : Bool :=
  decide (scope.kind = .function) && !scope.isCoroutine && !scope.isGenerator && scope.names.all (fun y => !decide (y.2 = .cell)) && decide (scope.names.lookup vn = some .local) && decide (scope.names.lookup on = some .free) && scope.names.all fun y => !decide (y.2 = .free) || decide (sc.names.lookup y.1 = some .cell) || decide (sc.names.lookup y.1 = some .free)
def srtG (ks : List Int) (m : Int) : Option (List Int) := if 0 ≤ m ∧ m ≤ 16777216 ∧ m ≤ ks.length then some ((intsF 0 m.toNat).mergeSort (byLe ks)) else none
end
end Gx
namespace Gx
open PySem PySem.Spec PyProof.Rows L2
open Rp (rp)
open Ra (ra)
open Ob (ob)
def enc3 (x : T3 Int Int Int) : PyData := .tuple [.int x.a, .int x.b, .int x.c]
def srt3 (xs : List (T3 Int Int Int)) : List (T3 Int Int Int) := xs.mergeSort (PySem.W.dataLe false enc3)
def is3 (H : Hp) (v : V) (x : T3 Int Int Int) : Prop := ∃ p, v = .ref p ∧ H p = some (.tup [.int x.a, .int x.b, .int x.c])
def rSorted3 (K : PySem.W.Frag) : List V → Hp → VK → Prop := fun vs H Q => ∃ (F : Hp) (a : Addr) (xs : List V) (ns : List (T3 Int Int Int)), L2.Same F H ∧ vs = [V.ref a] ∧ SqL K H a xs ∧ Paired (is3 F) xs ns ∧ ∀ ys p, Paired (is3 F) ys (srt3 ns) → H p = none → Q (.ref p) (upd H p (.lst ys))
section
variable {X : Cx} {K : PySem.W.Frag} {e a b d : Expr} {es : List Expr} {σ : L2.St} {F H F0 H0 : Hp} {pos : Pos}
end
end Gx
namespace Gx
open PySem PySem.Spec PySem.Calls PyProof.Rows L2
section
variable {prog : Program} {w : World} {A : Around} {E : Value → Shared → Prop} {s : Shared} {K : PySem.W.Frag} {x D : Addr} {ox : Obj} {od : Option Obj}
end
end Gx
namespace Gx
open PySem PySem.Spec PySem.Calls PyProof.Rows L2
open Rp (rp)
open Ra (ra)
open Ob (ob)
structure Exv where
  a : Addr
  oe : Obj
  cn : Str
  dd : Option Addr
structure OneE (x : Exv) : Type where
structure ExG (K : PySem.W.Frag) (x : Exv) : Prop where
  z : Zc (.ref (He.ga K x.cn)) x.dd x.oe
  f : ∃ vs, x.oe.data = .fields vs
def ExD (x : Exv) (H : Hp) : Prop := x.dd = none ∨ ∃ d fs, x.dd = some d ∧ H d = some (.xd fs)
structure ExF (x : Exv) (K : PySem.W.Frag) (H : Hp) (v : V) : Prop where
  r : v = .ref x.a
  g : ExG K x
  d : ExD x H
section
variable {x : Exv} {X : Cx} {K : PySem.W.Frag} {e a b c d : Expr} {es : List Expr} {σ : L2.St} {F H F0 H0 : Hp} {pos : Pos}
instance : Rp (OneE x) := ⟨fun K F v _ => v = .ref x.a, fun s h => h⟩
instance : NN (OneE x) := ⟨fun h => nomatch h⟩
def ExA (X : Cx) (x : Exv) : Prop := ∀ pins σ H s, Inv X pins σ H s → s.heap.get? x.a = some x.oe ∧ H x.a = none ∧ x.a ∉ frs X.stack
theorem ExD.up {F' H' : Hp} (h : ExD x H) (g : Gr F H F' H') : ExD x H' := h.imp id fun ⟨d, fs, e, hd⟩ => ⟨d, fs, e, g.hh.k _ _ hd trivial⟩
theorem ExF.up {v : V} {F' H' : Hp} (h : ExF x K H v) (g : Gr F H F' H') : ExF x K H' v := ⟨h.r, h.g, h.d.up g⟩
structure FnOkE (x : Exv) (P : Program) (w : World) (K : PySem.W.Frag) (mg : Str → Option Value) (base : Heap) (CX : CXT) (k : Nat) (f : Addr) (fd : FuncData) (ps : List Str) (sp : Sp) : Prop where
  len : ∀ vs H Q E, sp vs H Q E → vs.length = ps.length
  run : ∀ (A : Around) (outer : List Env) (s : Shared) (H : Hp) (args : Args) (us : List Value) (vs : List V) (Q : VK) (E : XK), L2H.RoomH k A → L2H.PinOk outer H s (x.a, x.oe) → ExG K x → ExD x H → Env0 P w K mg base A outer s H → BindsTo s fd args (ps.zip us) → Vals vs us →
    sp vs H Q E → codeAny (model P w) A (.call (.ref f) args) (CR CX outer P w H s Q E) s
def rIsX (K : PySem.W.Frag) (x : Exv) : List V → Hp → VK → Prop := fun xs H Q => ∃ (c : V) (cv : Value) (b : Bool), xs = [.ref x.a, c] ∧ (∀ u, RelV c u → u = cv) ∧ PySem.W.kitOne K (.ref (He.ga K x.cn)) cv = some b ∧ ExD x H ∧ Q (.bl b) H
def isaG (kn subs : List Str) (c : Str) : Option Bool := if c ∈ kn then some (decide (c ∈ subs)) else none
end
end Gx
namespace Gx
open PySem PySem.Spec PyProof.Rows L2
open Rp (rp)
open Ra (ra)
open Ob (ob)
section
variable {X : Cx} {K : PySem.W.Frag} {e a b c d : Expr} {es : List Expr} {σ : L2.St} {F H F0 H0 : Hp} {pos : Pos} {D : Ends} {st : Stmt} {rest body : List Stmt} {W : WX}
def hdT (X : Cx) (b : List Stmt) : Addr → Value → Option Addr → TS := fun a cls d D σ H => ∀ oe pn, Zc cls d oe → (∃ vs, oe.data = .fields vs) → GoS (X.suite a ((a, oe) :: pn)) b D σ H
structure Xq (cn fn : Str) (α : Type) where
  v : α
instance {cn fn : Str} {α : Type} [Rp α] : Rp (Xq cn fn α) := ⟨fun K F v x => ∃ q d w, v = .ref q ∧ F q = some (exo q (He.ga K cn) (some d)) ∧ F d = some (exd d [(fn, w)]) ∧ rp K F w x.v, fun s ⟨q, d, w, e, h1, h2, r⟩ => ⟨q, d, w, e, s _ _ h1, s _ _ h2, Rp.mono s r⟩⟩
end
end Gx
namespace Gx
open PySem PySem.Spec PyProof.Rows L2
open Rp (rp)
open Ra (ra)
open Ob (ob)
def CR {α : Type} [Rp α] (cn n1 n2 : Str) (K : PySem.W.Frag) (F : Hp) (v : V) (l : Addr) (x : α) : Prop := ∃ a dx w, v = .ref a ∧ F a = some (.ins (He.ga K cn) dx (List.zip [n1, n2] [w, .ref l])) ∧ rp K F w x
theorem CR.mono {α : Type} [Rp α] {cn n1 n2 : Str} {K : PySem.W.Frag} {F F' : Hp} {v : V} {l : Addr} {x : α} (h : CR cn n1 n2 K F v l x) (s : L2.Same F F') : CR cn n1 n2 K F' v l x := by
  obtain ⟨a, dx, w, e, t, r⟩ := h
  exact ⟨a, dx, w, e, s _ _ t, Rp.mono s r⟩
theorem CR.rp {α γ : Type} [Rp α] [Rp γ] {cn n1 n2 : Str} {K : PySem.W.Frag} {F : Hp} {v : V} {l : Addr} {x : α} {y : γ} (h : CR cn n1 n2 K F v l x) (r : Rp.rp K F (.ref l) y) : rpI cn [n1, n2] K F v ((x, y, ()) : α × γ × Unit) := by
  obtain ⟨a, dx, w, e, t, rw'⟩ := h
  exact ⟨a, dx, [w, .ref l], e, t, w, _, rfl, rw', .ref l, _, rfl, r, rfl⟩
section
variable {X : Cx} {K : PySem.W.Frag} {e a b c d : Expr} {es : List Expr} {σ : L2.St} {F H F0 H0 : Hp} {pos : Pos} {D : Ends} {st : Stmt} {rest body : List Stmt} {α γ : Type} [Rp α] [Rp γ] {x : α} {ys : List γ} {cn n1 n2 : Str}
def EvRN (cn n1 n2 : Str) (X : Cx) (e : Expr) (σ : L2.St) (F H : Hp) (x : α) (ys : List γ) : Prop := ∀ F1 H1, GrX X.K F H F1 H1 → ∀ Q : VK, (∀ u l o F2 H2, Gr F1 H1 F2 H2 → H1 l = none → F2 l = none → H2 l = some o → ob X.K F2 o ys → CR cn n1 n2 X.K F2 u l x → Q u H2) → GoE X e σ H1 Q
def PrIN (n1 n2 : Str) (K : PySem.W.Frag) (C : Addr) {τ : Type} [Ra τ] (f : τ → Option (T2 α (List γ))) : Sp := fun vs H Q _ => ∃ F x dx args a r, vs = .ref x :: args ∧ SmX K F H ∧ F x = none ∧ H x = some (.ins C dx []) ∧ ra K F args a ∧ f a = some r ∧
  ∀ F' H' w l o, Gr F (er H x) F' H' → F' x = none → H' x = some (.ins C dx (List.zip [n1, n2] [w, .ref l])) → rp K F' w r.a → er H x l = none → F' l = none → H' l = some o → ob K F' o r.b → Q .non H'
section
variable {zs : List γ} {l : Addr} {v : V} {n : Str} {p1 p2 p3 p4 : Pos}
end
end
end Gx
namespace Gx
open PySem PySem.Spec PyProof.Rows L2
open Rp (rp)
open Ra (ra)
open Ob (ob)
def srtI (xs : List Int) : Option (List Int) := if xs.length < 64 then some (xs.mergeSort fun a b => decide (a ≤ b)) else none
end Gx
namespace Gx
open PySem PySem.Spec PyProof.Rows L2
open Rp (rp)
open Ra (ra)
open Ob (ob)
def ItzM (K : PySem.W.Frag) (a b : Addr) : It :=
  ⟨fun i H => ∃ (xs ys : List V) (x y : V), SqT K H a xs ∧ SqL K H b ys ∧ xs[i]? = some x ∧ ys[i]? = some y,
    fun i H v H' => ∃ T x y, v = .ref T ∧ H T = none ∧ H' = upd H T (.tup [x, y]) ∧ (∀ xs, SqT K H a xs → xs[i]? = some x) ∧ ∀ ys, SqL K H b ys → ys[i]? = some y,
    fun i H => ∃ xs ys : List V, SqT K H a xs ∧ SqL K H b ys ∧ i ≤ xs.length ∧ i ≤ ys.length ∧ (i = xs.length ∨ i = ys.length)⟩
def stM (z TI TO i1 i2 a b : Addr) (i : Nat) (h : Heap) : Prop := IsZip h z TI TO .none ∧ IsTupOf2 h TI (.ref i1) (.ref i2) ∧ (∃ x y, IsTupOf2 h TO x y) ∧ h.IsTupleIter i1 a i ∧ h.IsListIter i2 b i
def iZipM (K : PySem.W.Frag) (ta : TA) : TI := fun σ H R => ta σ H fun vs H1 => ∃ a b xs ys, vs = [.ref a, .ref b] ∧ SqT K H1 a xs ∧ SqL K H1 b ys ∧ R (ItzM K a b) H1
section
variable {X : Cx} {a b : Expr} {σ : L2.St} {F H : Hp} {pos : Pos}
end
end Gx
namespace Gx
open PySem PySem.Spec PyProof.Rows L2
open Rp (rp)
open Ra (ra)
open Ob (ob)
def augG (xs : List Int) (k d : Int) : Option (List Int) := if 0 ≤ k then (xs[k.toNat]?).map fun x => xs.set k.toNat (x + d) else none
def rGet0 (K : PySem.W.Frag) : V → V → Hp → VK → Prop := fun x y H Q => ∃ p xs k v, x = .ref p ∧ y = .int k ∧ SqL K H p xs ∧ 0 ≤ k ∧ xs[k.toNat]? = some v ∧ Q v H
section
variable {X : Cx} {a e : Expr} {σ : L2.St} {F H H0 : Hp} {pos : Pos} {D : Ends} {rest : List Stmt}
end
end Gx
namespace Gx
open PySem PySem.Spec PyProof.Rows L2
end Gx
namespace Gx
open PySem PySem.Spec PyProof.Rows L2
open Rp (rp)
open Ra (ra)
open Ob (ob)
def IsL (F : Hp) (l : Addr) : Prop := ∃ od xs, F l = some (.frz od (.lst xs))
theorem IsL.tup {F : Hp} {l : Addr} (h : IsL F l) : (∀ xs, ¬ F l = some (.tup xs)) ∧ (∀ (o : Obj) (xs : List V), ¬ F l = some (.frz o (.tup xs))) := by
  obtain ⟨od, ys, h⟩ := h
  exact ⟨fun xs e => (by rw [h] at e; cases e), fun o xs e => (by rw [h] at e; cases e)⟩
theorem IsL.ins {F : Hp} {l a : Addr} {c d : Addr} {fs : List (Str × V)} (h : IsL F l) (e : F a = some (.ins c d fs)) : er F l a = some (.ins c d fs) := by
  obtain ⟨od, ys, h⟩ := h
  unfold er
  rw [if_neg (show ¬ a = l from fun z => by rw [z, h] at e; cases e)]; exact e
class FlatL (α : Type) [Rp α] : Prop where
  fl : ∀ {K : PySem.W.Frag} {F : Hp} {l : Addr} {v : V} {x : α}, IsL F l → rp K F v x → rp K (er F l) v x
class FlatLR (τ : Type) [Ra τ] : Prop where
  fl : ∀ {K : PySem.W.Frag} {F : Hp} {l : Addr} {v : List V} {x : τ}, IsL F l → ra K F v x → ra K (er F l) v x
instance (priority := low) {α : Type} [Rp α] [Flat α] : FlatL α := ⟨fun h r => Flat.fl h.tup.1 h.tup.2 r⟩
instance : FlatLR Unit := ⟨fun _ h => h⟩
instance {α τ : Type} [Rp α] [Ra τ] [FlatL α] [FlatLR τ] : FlatLR (α × τ) := ⟨fun h1 ⟨v, r, e, p, q⟩ => ⟨v, r, e, FlatL.fl h1 p, FlatLR.fl h1 q⟩⟩
theorem rpI.fl {cn : Str} {names : List Str} {τ : Type} [Ra τ] [FlatLR τ] {K : PySem.W.Frag} {F : Hp} {l : Addr} {v : V} {x : τ} (h : IsL F l) : rpI cn names K F v x → rpI cn names K (er F l) v x := fun ⟨a, dx, vs, e, q, r⟩ => ⟨a, dx, vs, e, h.ins q, FlatLR.fl h r⟩
theorem CR.er {α : Type} [Rp α] [FlatL α] {cn n1 n2 : Str} {K : PySem.W.Frag} {F : Hp} {v : V} {l l0 : Addr} {x : α} (h : CR cn n1 n2 K F v l x) (h1 : IsL F l0) : CR cn n1 n2 K (er F l0) v l x := by
  obtain ⟨a, dx, w, e, t, r⟩ := h
  exact ⟨a, dx, w, e, h1.ins t, FlatL.fl h1 r⟩
end Gx
namespace Gx
open PySem PySem.Spec PyProof.Rows L2
open Rp (rp)
open Ra (ra)
open Ob (ob)
def ItzN (K : PySem.W.Frag) (a b : Addr) : It :=
  ⟨fun i H => ∃ (xs ys : List V) (x y : V), SqL K H a xs ∧ SqT K H b ys ∧ xs[i]? = some x ∧ ys[i]? = some y,
    fun i H v H' => ∃ T x y, v = .ref T ∧ H T = none ∧ H' = upd H T (.tup [x, y]) ∧ (∀ xs, SqL K H a xs → xs[i]? = some x) ∧ ∀ ys, SqT K H b ys → ys[i]? = some y,
    fun i H => ∃ xs ys : List V, SqL K H a xs ∧ SqT K H b ys ∧ i ≤ xs.length ∧ i ≤ ys.length ∧ (i = xs.length ∨ i = ys.length)⟩
def stN (z TI TO i1 i2 a b : Addr) (i : Nat) (h : Heap) : Prop := IsZip h z TI TO .none ∧ IsTupOf2 h TI (.ref i1) (.ref i2) ∧ (∃ x y, IsTupOf2 h TO x y) ∧ h.IsListIter i1 a i ∧ h.IsTupleIter i2 b i
def iZipN (K : PySem.W.Frag) (ta : TA) : TI := fun σ H R => ta σ H fun vs H1 => ∃ a b xs ys, vs = [.ref a, .ref b] ∧ SqL K H1 a xs ∧ SqT K H1 b ys ∧ R (ItzN K a b) H1
section
variable {X : Cx} {a b : Expr} {σ : L2.St} {F H : Hp} {pos : Pos}
end
end Gx
namespace Gx
open PySem PySem.Spec PyProof.Rows L2
open Rp (rp)
open Ra (ra)
open Ob (ob)
section
variable {X : Cx} {K : PySem.W.Frag} {e : Expr} {es : List Expr} {σ : L2.St} {F H F0 H0 : Hp} {pos : Pos} {D : Ends} {rest : List Stmt} {α γ : Type} [Rp α] [Rp γ] {x : α} {ys : List γ} {cn n1 n2 : Str}
def PrRN (cn n1 n2 : Str) (K : PySem.W.Frag) {τ : Type} [Ra τ] (f : τ → Option (T2 α (List γ))) : Sp := fun vs H Q _ => ∃ F a r, SmX K F H ∧ ra K F vs a ∧ f a = some r ∧ ∀ u l o F' H', Gr F H F' H' → H l = none → F' l = none → H' l = some o → ob K F' o r.b → CR cn n1 n2 K F' u l r.a → Q u H'
end
end Gx
namespace Gx
open PySem PySem.Spec PyProof.Rows L2
open Rp (rp)
open Ra (ra)
open Ob (ob)
structure Ad where
  a : Addr
instance : Rp Ad := ⟨fun _ _ v x => v = .ref x.a, fun _ h => h⟩
section
variable {X : Cx} {K : PySem.W.Frag} {e a b c d : Expr} {es : List Expr} {σ : L2.St} {F H F0 H0 : Hp} {pos : Pos} {D : Ends} {st : Stmt} {rest body : List Stmt}
theorem Own.keepX {α : Type} [Rp α] [Ob α] {x : α} {l : Addr} {F' H' : Hp} (o : Own K H0 F H l x) (s : L2.Same F F') (k : F' l = F l ∧ H' l = H l) : Own K H0 F' H' l x := by
  obtain ⟨u, h, r⟩ := o.h
  exact ⟨o.n, k.1.trans o.f, u, k.2.trans h, Ob.mono s r⟩
theorem Own.base {α : Type} [Rp α] [Ob α] {x : α} {l : Addr} {H1 : Hp} (o : Own K H1 F H l x) (h : ∀ p, H1 p = none → H0 p = none) : Own K H0 F H l x := ⟨h l o.n, o.f, o.h⟩
structure Own2 {α : Type} [Rp α] (K : PySem.W.Frag) (H0 F H : Hp) (l : Addr) (ex : List Addr) (x : List (List α)) : Prop where
  w : ∃ as : List Addr, Own K H0 F H l (as.map Ad.mk) ∧ Paired (fun a r => Own K H0 F H a r) as x ∧ (l :: as).Nodup ∧ ∀ b ∈ ex, b ∉ l :: as
section
variable {α : Type} [Rp α] {x : List (List α)} {l : Addr} {ex : List Addr}
theorem Own2.cg {y : List (List α)} (e : x = y) (o : Own2 K H0 F H l ex x) : Own2 K H0 F H l ex y := e ▸ o
theorem Own2.up {F' H' : Hp} (o : Own2 K H0 F H l ex x) (g : Gr F H F' H') : Own2 K H0 F' H' l ex x := by
  obtain ⟨as, o, p, nd, hx⟩ := o.w
  exact ⟨as, o.up g, L2.Paired.mapP p fun _ _ h => h.up g, nd, hx⟩
theorem paired_mapM {β γ : Type} {R S : β → γ → Prop} : ∀ {as : List β} {bs : List γ}, Paired R as bs → (∀ a ∈ as, ∀ b, R a b → S a b) → Paired S as bs
  | _, _, .nil, _ => .nil
  | _, _, .cons r t, h => .cons (h _ List.mem_cons_self _ r) (paired_mapM t fun a m => h a (List.mem_cons_of_mem _ m))
theorem Own2.mapA {F' H' : Hp} {ex' : List Addr} (o : Own2 K H0 F H l ex x) (h : ∀ {β : Type} [Rp β] [Ob β] {y : β} {a : Addr}, (∀ b ∈ ex, b ≠ a) → Own K H0 F H a y → Own K H0 F' H' a y) : Own2 K H0 F' H' l ex x := by
  obtain ⟨as, o, p, nd, hx⟩ := o.w
  exact ⟨as, h (fun b hb e => hx b hb (e ▸ List.mem_cons_self)) o, paired_mapM p fun a m _ r => h (fun b hb e => hx b hb (e ▸ List.mem_cons_of_mem _ m)) r, nd, hx⟩
theorem Own2.other {u : HO} {b : Addr} (o : Own2 K H0 F H l ex x) (h : b ∈ ex) : Own2 K H0 F (upd H b u) l ex x := o.mapA (ex' := ex) fun h2 o => o.other fun e => h2 b h e.symm
theorem Own2.keepF {F' H' : Hp} {b : Addr} (o : Own2 K H0 F H l ex x) (h : b ∈ ex) (s : L2.Same F F') (k : ∀ a, a ≠ b → F' a = F a ∧ H' a = H a) : Own2 K H0 F' H' l ex x := o.mapA (ex' := ex) fun h2 o => o.keepF (fun e => h2 b h e.symm) s k
theorem Own2.over {F' H' : Hp} {b : Addr} (o : Own2 K H0 F H l ex x) (h : b ∈ ex) (g : Gr F (er H b) F' H') : Own2 K H0 F' H' l ex x := o.mapA (ex' := ex) fun h2 o => o.over (fun e => h2 b h e.symm) g
theorem Own2.base {H1 : Hp} (o : Own2 K H1 F H l ex x) (h : ∀ p, H1 p = none → H0 p = none) : Own2 K H0 F H l ex x := by
  obtain ⟨as, o, p, nd, hx⟩ := o.w
  exact ⟨as, o.base h, L2.Paired.mapP p fun _ _ z => z.base h, nd, hx⟩
theorem Own2.ne0 (o : Own2 K H0 F H l ex x) : H l ≠ none := by
  obtain ⟨as, o, p, nd, hx⟩ := o.w
  exact o.ne0
theorem paired_l {β γ : Type} {R : β → γ → Prop} : ∀ {as : List β} {bs : List γ} {a : β}, Paired R as bs → a ∈ as → ∃ b ∈ bs, R a b
  | _, _, _, .nil, h => nomatch h
  | _, _, a, .cons r t, h => by
    rcases List.mem_cons.mp h with e | e
    · subst e; exact ⟨_, List.mem_cons_self, r⟩
    · obtain ⟨b, m, z⟩ := paired_l t e
      exact ⟨b, List.mem_cons_of_mem _ m, z⟩
theorem Own2.ext {p : Addr} (o : Own2 K H0 F H l ex x) (h : H p = none) : Own2 K H0 F H l (p :: ex) x := by
  obtain ⟨as, o, q, nd, hx⟩ := o.w
  refine ⟨as, o, q, nd, fun b hb => ?_⟩
  rcases List.mem_cons.mp hb with e | e
  · subst e
    intro m
    rcases List.mem_cons.mp m with e | e
    · subst e; exact o.ne0 h
    · obtain ⟨r, _, z⟩ := paired_l q e
      exact z.ne0 h
  · exact hx b e
theorem Own2.exO {H1 : Hp} {p : Addr} (o : Own2 K H1 F H l ex x) (h : H1 p ≠ none) : Own2 K H1 F H l (p :: ex) x := by
  obtain ⟨as, o, q, nd, hx⟩ := o.w
  refine ⟨as, o, q, nd, fun b hb => ?_⟩
  rcases List.mem_cons.mp hb with e | e
  · subst e
    intro m
    rcases List.mem_cons.mp m with e | e
    · subst e; exact h o.n
    · obtain ⟨r, _, z⟩ := paired_l q e
      exact h z.n
  · exact hx b e
theorem Own2.ne {b : Addr} (o : Own2 K H0 F H l ex x) (h : b ∈ ex) : b ≠ l := by
  obtain ⟨as, o, q, nd, hx⟩ := o.w
  exact fun e => hx b h (e ▸ List.mem_cons_self)
theorem thaw_in {J : Hp → Hp → Prop} (T : ∀ {γ : Type} [Rp γ] [Ob γ] {y : γ} {F H : Hp} {l : Addr}, Own K H0 F H l y → L2.Same F H → (∀ F' H', L2.Same F F' → L2.Same F' H' → rp K F' (.ref l) y → (∀ a, a ≠ l → F' a = F a ∧ H' a = H a) → J F' H') → J F H) :
    ∀ {as : List Addr} {xs : List (List α)} {F H : Hp}, Paired (fun a r => Own K H0 F H a r) as xs → as.Nodup → L2.Same F H → (∀ F' H', L2.Same F F' → L2.Same F' H' → Paired (fun a (r : List α) => rp K F' (.ref a) r) as xs → (∀ a, a ∉ as → F' a = F a ∧ H' a = H a) → J F' H') → J F H
  | _, _, F, H, .nil, _, s, k => k F H (.refl _) s .nil fun _ _ => ⟨rfl, rfl⟩
  | a :: as, r :: xs, F, H, .cons o p, nd, s, k => T o s fun F1 H1 s1 s2 r1 k1 => by
    obtain ⟨na, nd⟩ := List.nodup_cons.mp nd
    refine thaw_in T (as := as) (xs := xs) (paired_mapM p fun b m _ z => z.keepF (fun (e : b = a) => na (e ▸ m)) s1 k1) nd s2 fun F2 H2 s3 s4 rs k2 => ?_
    refine k F2 H2 (s1.trans s3) s4 (.cons (Rp.mono s3 r1) rs) fun b hb => ?_
    have h1 := k1 b fun e => hb (e ▸ List.mem_cons_self)
    have h2 := k2 b fun m => hb (List.mem_cons_of_mem _ m)
    exact ⟨h2.1.trans h1.1, h2.2.trans h1.2⟩
theorem rps_ads : ∀ {vs : List V} {as : List Addr} {xs : List (List α)}, Rps K F vs (as.map Ad.mk) → Paired (fun a (r : List α) => rp K F (.ref a) r) as xs → Rps K F vs xs
  | _, [], _, .nil, .nil => .nil
  | _, a :: as, _, .cons r t, .cons r2 t2 => .cons (by
    have e : _ = V.ref a := r
    rw [e]; exact r2) (rps_ads t t2)
theorem thaw_2 {J : Hp → Hp → Prop} (T : ∀ {γ : Type} [Rp γ] [Ob γ] {y : γ} {F H : Hp} {l : Addr}, Own K H0 F H l y → L2.Same F H → (∀ F' H', L2.Same F F' → L2.Same F' H' → rp K F' (.ref l) y → (∀ a, a ≠ l → F' a = F a ∧ H' a = H a) → J F' H') → J F H)
    (o : Own2 K H0 F H l ex x) (s : L2.Same F H) (k : ∀ F' H', L2.Same F F' → L2.Same F' H' → rp K F' (.ref l) x → (∀ a ∈ ex, F' a = F a ∧ H' a = H a) → J F' H') : J F H := by
  obtain ⟨as, o, p, nd, hx⟩ := o.w
  obtain ⟨nl, nd⟩ := List.nodup_cons.mp nd
  refine thaw_in T p nd s fun F1 H1 s1 s2 r1 k1 => T (o.keepX s1 (k1 l nl)) s2 fun F2 H2 s3 s4 r2 k2 => ?_
  refine k F2 H2 (s1.trans s3) s4 ?_ fun b hb => ?_
  · obtain ⟨q, vs, e, sq, rs⟩ := r2
    exact ⟨q, vs, e, sq, rps_ads rs (L2.Paired.mapP r1 fun _ _ z => Rp.mono s3 z)⟩
  · have h1 := k1 b fun m => hx b hb (List.mem_cons_of_mem _ m)
    have h2 := k2 b fun e => hx b hb (e ▸ List.mem_cons_self)
    exact ⟨h2.1.trans h1.1, h2.2.trans h1.2⟩
theorem Own2.freeze {st : List Stmt} (o : Own2 X.K H0 F H l ex x) (g : GrX X.K F0 H0 F H) (k : ∀ F' H', L2.Same F F' → L2.Same F' H' → GrX X.K F0 H0 F' H' → rp X.K F' (.ref l) x → (∀ a ∈ ex, F' a = F a ∧ H' a = H a) → GoS X st D σ H') : GoS X st D σ H :=
  thaw_2 (J := fun F H => GrX X.K F0 H0 F H → GoS X st D σ H) (fun o s k g => o.freeze g fun F' H' s1 s2 g' r kk => k F' H' s1 s2 r kk g') o g.fh (fun F' H' s1 s2 r kk g' => k F' H' s1 s2 g' r kk) g
end
def EvN2 {α : Type} [Rp α] (X : Cx) (e : Expr) (σ : L2.St) (F H : Hp) (x : List (List α)) : Prop := ∀ F1 H1, GrX X.K F H F1 H1 → ∀ Q : VK, (∀ l F2 H2, Gr F1 H1 F2 H2 → Own2 X.K H1 F2 H2 l [] x → Q (.ref l) H2) → GoE X e σ H1 Q
def CBn {γ : Type} [Rp γ] (X : Cx) (scope : Scope) (elt : Expr) (σ2 : L2.St) (F H : Hp) (o : Option (List γ)) : Prop := ∃ y, o = some y ∧ ∀ s H' C cl fp, EvN (blkX X scope s H' C cl fp) elt σ2 F H y
def CBni {γ : Type} [Rp γ] (X : Cx) (scope : Scope) (tst elt : Expr) (σ2 : L2.St) (F H : Hp) (o : Option (List γ)) : Prop := ∃ b, (∀ s H' C cl fp, EvT (blkX X scope s H' C cl fp) tst σ2 F H b) ∧ (b = true → CBn X scope elt σ2 F H o) ∧ (b = false → o = none)
theorem CBn.up {γ : Type} [Rp γ] {scope : Scope} {elt : Expr} {σ2 : L2.St} {F' H' : Hp} {o : Option (List γ)} (h : CBn X scope elt σ2 F H o) (g : Gr F H F' H') : CBn X scope elt σ2 F' H' o := by
  obtain ⟨y, e, h⟩ := h
  exact ⟨y, e, fun s H' C cl fp F1 H1 g1 => h s H' C cl fp F1 H1 (.pre g g1)⟩
def setG2 {α : Type} (t : List (List α)) (i j : Int) (v : α) : Option (List (List α)) := match ixN t.length i with
  | none => none
  | some n => match t[n]? with
    | none => none
    | some r => (setG r j v).map fun r2 => t.set n r2
end
end Gx
namespace Gx
open PySem PySem.Spec PyProof.Rows L2
open Rp (rp)
open Ra (ra)
open Ob (ob)
def minDf (xs : List Int) (d : Int) : Int := xs.min?.getD d
def maxDf (xs : List Int) (d : Int) : Int := xs.max?.getD d
section
variable {X : Cx} {K : PySem.W.Frag} {e a b c d : Expr} {es : List Expr} {σ : L2.St} {F H F0 H0 : Hp} {pos : Pos}
end
end Gx
namespace Gx
open PySem PySem.Spec PyProof.Rows L2
open Rp (rp)
open Ra (ra)
open Ob (ob)
def Itz3 (K : PySem.W.Frag) (a b c : Addr) : It :=
  ⟨fun i H => ∃ (xs ys zs : List V) (x y z : V), SqL K H a xs ∧ SqT K H b ys ∧ SqL K H c zs ∧ xs[i]? = some x ∧ ys[i]? = some y ∧ zs[i]? = some z,
    fun i H v H' => ∃ T x y z, v = .ref T ∧ H T = none ∧ H' = upd H T (.tup [x, y, z]) ∧ (∀ xs, SqL K H a xs → xs[i]? = some x) ∧ (∀ ys, SqT K H b ys → ys[i]? = some y) ∧ ∀ zs, SqL K H c zs → zs[i]? = some z,
    fun i H => ∃ xs ys zs : List V, SqL K H a xs ∧ SqT K H b ys ∧ SqL K H c zs ∧ i ≤ xs.length ∧ i ≤ ys.length ∧ i ≤ zs.length ∧ (i = xs.length ∨ i = ys.length ∨ i = zs.length)⟩
def st3 (z TI TO i1 i2 i3 a b c : Addr) (i : Nat) (h : Heap) : Prop := IsZip h z TI TO .none ∧ IsTupOf3 h TI (.ref i1) (.ref i2) (.ref i3) ∧ (∃ x y u, IsTupOf3 h TO x y u) ∧ h.IsListIter i1 a i ∧ h.IsTupleIter i2 b i ∧ h.IsListIter i3 c i
def iZip3 (K : PySem.W.Frag) (ta : TA) : TI := fun σ H R => ta σ H fun vs H1 => ∃ a b c xs ys zs, vs = [.ref a, .ref b, .ref c] ∧ SqL K H1 a xs ∧ SqT K H1 b ys ∧ SqL K H1 c zs ∧ R (Itz3 K a b c) H1
def zipL3 {α β γ : Type} : List α → List β → List γ → List (T3 α β γ)
  | x :: xs, y :: ys, z :: zs => ⟨x, y, z⟩ :: zipL3 xs ys zs
  | _, _, _ => []
section
variable {X : Cx} {K : PySem.W.Frag} {a b c : Expr} {σ : L2.St} {F H : Hp} {pos : Pos}
end
end Gx
namespace Gx
open PySem PySem.Spec PyProof.Rows L2
open Rp (rp)
open Ra (ra)
open Ob (ob)
inductive Sm (α β : Type) where
  | l (x : α)
  | r (y : β)
  deriving DecidableEq
def Sm.asl {α β : Type} : Sm α β → Option α
  | .l x => some x
  | .r _ => none
def Sm.asr {α β : Type} : Sm α β → Option β
  | .l _ => none
  | .r y => some y
section
variable {α β : Type} [Rp α] [Rp β]
def rpSm (K : PySem.W.Frag) (F : Hp) (v : V) : Sm α β → Prop
  | .l x => rp K F v x
  | .r y => rp K F v y
instance : Rp (Sm α β) := ⟨rpSm, fun {K F F' v x} s h => by
  cases x with
  | l x => exact Rp.mono (α := α) s h
  | r y => exact Rp.mono (α := β) s h⟩
instance [NN α] [NN β] : NN (Sm α β) := ⟨fun {K F x} h => by
  cases x with
  | l x => exact NN.nn (α := α) h
  | r y => exact NN.nn (α := β) h⟩
instance [FlatD α] [FlatD β] : FlatD (Sm α β) := ⟨fun {K F l v x} h1 h => by
  cases x with
  | l x => exact FlatD.fl (α := α) h1 h
  | r y => exact FlatD.fl (α := β) h1 h⟩
variable {X : Cx} {e : Expr} {σ : L2.St} {F H : Hp}
def smAll {κ : Type} : List (κ × Sm α β) → Option (List (κ × β))
  | [] => some []
  | p :: l => match p.2 with
    | .r y => (smAll l).map ((p.1, y) :: ·)
    | .l _ => none
def Dct.allr {κ : Type} (m : Dct κ (Sm α β)) : Option (Dct κ β) := (smAll m.l).map Dct.mk
end
def tListValsT (te : TE) : TE := fun σ H Q => te σ H fun x H1 => ∃ d kvs, x = .ref d ∧ Rd H1 d (.dT kvs) ∧ ∀ p, H1 p = none → Q (.ref p) (upd H1 p (.lst (kvs.map (·.2))))
section
variable {X : Cx} {a e : Expr} {σ : L2.St} {F H : Hp} {pos : Pos} {κ ν : Type} [Rp κ] [DecidableEq κ] [KeyT κ] [Rp ν]
end
end Gx
namespace Gx
open PySem PySem.Spec PyProof.Rows L2
open Rp (rp)
open Ra (ra)
open Ob (ob)
section
variable {prog : Program} {w : World} {A : Around} {E : Value → Shared → Prop} {s : Shared} {r d : Addr} {es : Array DictEntry} {ep : Nat}
end
def ftup (F H : Hp) : Hp := fun b => match H b with
  | some (.tup xs) => some (.tup xs)
  | _ => F b
def tListItemsT (te : TE) : TE := fun σ H Q => te σ H fun x H1 => ∃ d kvs, x = .ref d ∧ Rd H1 d (.dT kvs) ∧ ∀ H' p ts, L2.Same H1 H' → H1 p = none → H' p = some (.lst (ts.map V.ref)) →
  Paired (fun (t : Addr) (q : List Key × V) => ∃ key, H' t = some (.tup [.ref key, q.2]) ∧ H' key = some (.tup (q.1.map kV))) ts kvs → Q (.ref p) H'
section
variable {X : Cx} {a e : Expr} {σ : L2.St} {F H : Hp} {pos : Pos} {κ ν : Type} [Rp κ] [DecidableEq κ] [KeyT κ] [Rp ν]
end
end Gx
namespace Gx
open PySem PySem.Spec PyProof.Rows L2
open Rp (rp)
open Ra (ra)
open Ob (ob)
section
variable {prog : Program} {w : World} {A : Around} {E : Value → Shared → Prop} {s : Shared}
end
set_option maxHeartbeats 4000000 in
def ItekT (d : Addr) (o : Obj) (kvs : List (List Key × V)) : It :=
  ⟨fun i H => H d = some (.frz o (.dT kvs)) ∧ i < kvs.length, fun i H x H' => ∃ T k v q, kvs[i]? = some (k, v) ∧ x = .ref T ∧ H T = none ∧ H' = upd H T (.tup [.int (i : Nat), .ref q]) ∧ H q = some (.tup (k.map kV)), fun i H => H d = some (.frz o (.dT kvs)) ∧ i = kvs.length⟩
def iEnumD (ta : TA) : TI := fun σ H R => ta σ H fun vs H1 => ∃ d o kvs, vs = [.ref d] ∧ H1 d = some (.frz o (.dT kvs)) ∧ R (ItekT d o kvs) H1
section
variable {X : Cx} {a e : Expr} {σ : L2.St} {F H : Hp} {pos : Pos} {κ ν : Type} [Rp κ] [DecidableEq κ] [KeyT κ] [Rp ν]
end
end Gx
namespace Gx
open PySem PySem.Spec PyProof.Rows L2
open Rp (rp)
open Ra (ra)
open Ob (ob)
structure T8 (α β γ δ ε ζ η θ : Type) where
  a : α
  b : β
  c : γ
  d : δ
  e : ε
  f : ζ
  g : η
  h : θ
  deriving DecidableEq
section
variable {α β γ δ ε ζ η θ : Type}
abbrev T8.row (x : T8 α β γ δ ε ζ η θ) : α × β × γ × δ × ε × ζ × η × θ × Unit := (x.a, x.b, x.c, x.d, x.e, x.f, x.g, x.h, ())
variable [Rp α] [Rp β] [Rp γ] [Rp δ] [Rp ε] [Rp ζ] [Rp η] [Rp θ]
instance : Rp (T8 α β γ δ ε ζ η θ) := ⟨rpT T8.row, rpT.mono⟩
instance : NN (T8 α β γ δ ε ζ η θ) := ⟨rpT.nn⟩
instance : Tup (T8 α β γ δ ε ζ η θ) (α × β × γ × δ × ε × ζ × η × θ × Unit) := ⟨T8.row, Iff.rfl⟩
instance [Flat α] [Flat β] [Flat γ] [Flat δ] [Flat ε] [Flat ζ] [Flat η] [Flat θ] : Flat (T8 α β γ δ ε ζ η θ) := ⟨rpT.fl⟩
instance [FlatD α] [FlatD β] [FlatD γ] [FlatD δ] [FlatD ε] [FlatD ζ] [FlatD η] [FlatD θ] : FlatD (T8 α β γ δ ε ζ η θ) := ⟨rpT.fd⟩
instance : Kd (T8 α β γ δ ε ζ η θ) := ⟨"tuple", rpT.kd⟩
instance [Pd α] [Pd β] [Pd γ] [Pd δ] [Pd ε] [Pd ζ] [Pd η] [Pd θ] : Pd (T8 α β γ δ ε ζ η θ) := ⟨fun x => .tuple (PdR.toR x.row), rpT.dp, rowEq fun x y => by cases x; cases y; simp [T8.row]⟩
instance [Pd α] [Pd β] [Pd γ] [Pd δ] [Pd ε] [Pd ζ] [Pd η] [Pd θ] [PdS α] [PdS β] [PdS γ] [PdS δ] [PdS ε] [PdS ζ] [PdS η] [PdS θ] : PdS (T8 α β γ δ ε ζ η θ) := ⟨PdRS.dep (α × β × γ × δ × ε × ζ × η × θ × Unit) + 1, fun x => Nat.succ_le_succ (PdRS.de x.row)⟩
instance [Pd α] [Pd β] [Pd γ] [Pd δ] [Pd ε] [Pd ζ] [Pd η] [Pd θ] [PdF α] [PdF β] [PdF γ] [PdF δ] [PdF ε] [PdF ζ] [PdF η] [PdF θ] : PdF (T8 α β γ δ ε ζ η θ) := ⟨fun x => PdRF.ok x.row⟩
instance [Pd α] [Pd β] [Pd γ] [Pd δ] [Pd ε] [Pd ζ] [Pd η] [Pd θ] [PdL α] [PdL β] [PdL γ] [PdL δ] [PdL ε] [PdL ζ] [PdL η] [PdL θ] : PdL (T8 α β γ δ ε ζ η θ) := ⟨fun x => PdRL.tx x.row, fun h => PdRL.ok h⟩
end
section
variable {X : Cx} {K : PySem.W.Frag} {e a b c d : Expr} {es : List Expr} {σ : L2.St} {F H F0 H0 : Hp} {pos : Pos}
def RC {τ1 τ2 τ3 : Type} [Ra τ1] [Ra τ2] [Ra τ3] (x : τ1) (y : τ2) (z : τ3) : Prop := ∀ (K : PySem.W.Frag) (F : Hp) (vs ws : List V), ra K F vs x → ra K F ws y → ra K F (vs ++ ws) z
structure H4 (α β γ δ : Type) where
  a : α
  b : β
  c : γ
  d : δ
  deriving DecidableEq
section
variable {α β γ δ : Type}
abbrev H4.row (x : H4 α β γ δ) : α × β × γ × δ × Unit := (x.a, x.b, x.c, x.d, ())
variable [Rp α] [Rp β] [Rp γ] [Rp δ]
instance : Rp (H4 α β γ δ) := ⟨fun K F v x => ∃ a vs, v = .ref a ∧ SqL K F a vs ∧ ra K F vs x.row, fun s ⟨a, vs, e, q, r⟩ => ⟨a, vs, e, s.seq q, Ra.mono s r⟩⟩
instance : NN (H4 α β γ δ) := ⟨fun ⟨_, _, e, _⟩ => nomatch e⟩
instance : Ob (H4 α β γ δ) := ⟨fun K F o x => ∃ vs, o = .lst vs ∧ ra K F vs x.row, fun s ⟨vs, e, r⟩ => ⟨vs, e, Ra.mono s r⟩, fun ⟨vs, e, r⟩ => e ▸ trivial, fun ⟨vs, e, r⟩ => e ▸ trivial,
  fun {K F o x l od} h ⟨vs, e, r⟩ => ⟨l, vs, rfl, .inl (.inr ⟨od, e ▸ h⟩), r⟩⟩
end
def tTupN (t : TA) : TE := fun σ H Q => t σ H fun xs H1 => xs.length ≤ sizeLine ∧ ∀ l o, H1 l = none → o.dict = none → o.cls = .type "tuple" → Q (.ref l) (upd H1 l (.frz o (.tup xs)))
def RzT (X : Cx) (e : Expr) (σ : L2.St) (F H : Hp) : Prop := ∀ F1 H1, GrX X.K F H F1 H1 → ∀ Q : Bool → Hp → Prop, GoT X e σ H1 Q
end
end Gx
namespace Gx
open PySem PySem.Spec PyProof.Rows L2
open Rp (rp)
open Ra (ra)
open Ob (ob)
section
variable {X : Cx} {K : PySem.W.Frag} {F H : Hp} {σ : L2.St} {a b : Expr} {pos : Pos}
end
end Gx
namespace Gx
open PySem PySem.Spec PyProof.Rows L2
open Rp (rp)
open Ra (ra)
open Ob (ob)
structure Pv (β : Type) where
  v : β
def Thw (K : PySem.W.Frag) (H0 : Hp) (J : Hp → Hp → Prop) : Prop := ∀ {γ : Type} [Rp γ] [Ob γ] {y : γ} {F H : Hp} {l : Addr}, Own K H0 F H l y → L2.Same F H → (∀ F' H', L2.Same F F' → L2.Same F' H' → rp K F' (.ref l) y → (∀ a, a ≠ l → F' a = F a ∧ H' a = H a) → J F' H') → J F H
def PlL (H : Hp) (l : Addr) : Prop := ∃ o, H l = some o ∧ lstish o ∧ pln o
theorem PlL.pl {H : Hp} {l : Addr} (h : PlL H l) : PlAt H l := let ⟨o, e, _, p⟩ := h; ⟨o, e, p⟩
theorem Own.pll {α : Type} [Rp α] [Ob α] {K : PySem.W.Frag} {H0 F H : Hp} {x : α} {l : Addr} (o : Own K H0 F H l x) : PlL H l := by
  obtain ⟨u, h, r⟩ := o.h
  exact ⟨u, h, Ob.ls r, Ob.pl r⟩
class Rw (τ : Type) (φ : outParam Type) [Ra φ] where
  rw : PySem.W.Frag → Hp → Hp → Hp → List Addr → List V → τ → Prop
  fz : τ → φ
  map : ∀ {K : PySem.W.Frag} {H0 F H H0' F' H' : Hp} {fp : List Addr} {vs : List V} {x : τ}, L2.Same F F' → (∀ {β : Type} [Rp β] [Ob β] {y : β} {a : Addr}, a ∈ fp → Own K H0 F H a y → Own K H0' F' H' a y) → rw K H0 F H fp vs x → rw K H0' F' H' fp vs x
  th : ∀ {K : PySem.W.Frag} {H0 : Hp} {J : Hp → Hp → Prop}, Thw K H0 J → ∀ {F H : Hp} {fp : List Addr} {vs : List V} {x : τ}, rw K H0 F H fp vs x → fp.Nodup → L2.Same F H → (∀ F' H', L2.Same F F' → L2.Same F' H' → ra K F' vs (fz x) → (∀ a, a ∉ fp → F' a = F a ∧ H' a = H a) → J F' H') → J F H
  ne : ∀ {K : PySem.W.Frag} {H0 F H : Hp} {fp : List Addr} {vs : List V} {x : τ}, rw K H0 F H fp vs x → ∀ a ∈ fp, H0 a = none ∧ F a = none ∧ PlL H a
instance : Rw Unit Unit := ⟨fun _ _ _ _ fp vs _ => fp = [] ∧ vs = [], id, fun _ _ h => h, fun T F H fp vs x h _ s k => by
  obtain ⟨e1, e2⟩ := h
  subst e1; subst e2
  exact k F H (.refl _) s rfl fun _ _ => ⟨rfl, rfl⟩, fun ⟨e, _⟩ a h => by rw [e] at h; cases h⟩
instance {α τ φ : Type} [Rp α] [Ra φ] [Rw τ φ] : Rw (α × τ) (α × φ) := ⟨fun K H0 F H fp vs x => ∃ v r, vs = v :: r ∧ rp K F v x.1 ∧ Rw.rw K H0 F H fp r x.2, fun x => (x.1, Rw.fz x.2),
  fun s m ⟨v, r, e, p, q⟩ => ⟨v, r, e, Rp.mono s p, Rw.map s m q⟩,
  fun T F H fp vs x h nd s k => by
    obtain ⟨v, r, e, p, q⟩ := h
    refine Rw.th T q nd s fun F' H' s1 s2 r' kk => k F' H' s1 s2 ⟨v, r, e, Rp.mono s1 p, r'⟩ kk,
  fun ⟨v, r, e, p, q⟩ => Rw.ne q⟩
instance {β τ φ : Type} [Rp β] [Ob β] [Ra φ] [Rw τ φ] : Rw (Pv β × τ) (β × φ) := ⟨fun K H0 F H fp vs x => ∃ p q r, fp = p :: q ∧ vs = .ref p :: r ∧ Own K H0 F H p x.1.v ∧ Rw.rw K H0 F H q r x.2, fun x => (x.1.v, Rw.fz x.2),
  fun s m ⟨p, q, r, e1, e2, o, w⟩ => ⟨p, q, r, e1, e2, m (by rw [e1]; exact List.mem_cons_self) o, Rw.map s (fun h o => m (by rw [e1]; exact List.mem_cons_of_mem _ h) o) w⟩,
  fun {K H0 J} T F H fp vs x h nd s k => by
    obtain ⟨p, q, r, e1, e2, o, w⟩ := h
    subst e1; subst e2
    obtain ⟨np, nd⟩ := List.nodup_cons.mp nd
    refine T o s fun F1 H1 s1 s2 r1 k1 => ?_
    refine Rw.th T (H0 := H0) (x := x.2) (vs := r) (fp := q) (Rw.map s1 (fun {β} _ _ {y a} ha o => o.keepF (fun z => np (by rw [← z]; exact ha)) s1 k1) w) nd s2 fun F2 H2 s3 s4 r2 k2 => ?_
    refine k F2 H2 (s1.trans s3) s4 ⟨.ref p, r, rfl, Rp.mono s3 r1, r2⟩ fun b hb => ?_
    have h1 := k1 b fun e => hb (e ▸ List.mem_cons_self)
    have h2 := k2 b fun m => hb (List.mem_cons_of_mem _ m)
    exact ⟨h2.1.trans h1.1, h2.2.trans h1.2⟩,
  fun ⟨p, q, r, e1, e2, o, w⟩ a h => by
    rw [e1] at h
    rcases List.mem_cons.mp h with e | m
    · subst e; exact ⟨o.n, o.f, o.pll⟩
    · exact Rw.ne w a m⟩
section
variable {X : Cx} {K : PySem.W.Frag} {e a b c d : Expr} {es : List Expr} {σ : L2.St} {F H F0 H0 : Hp} {pos : Pos} {D : Ends} {st : Stmt} {rest body : List Stmt} {τ φ : Type} [Ra φ] [Rw τ φ] {cn : Str} {ns : List Str} {x : τ} {l : Addr} {fp ex : List Addr}
structure OwnR (cn : Str) (ns : List Str) (K : PySem.W.Frag) (H0 F H : Hp) (l : Addr) (fp ex : List Addr) (x : τ) : Prop where
  n : H0 l = none
  f : F l = none
  w : ∃ dx vs, H l = some (.ins (He.ga K cn) dx (ns.zip vs)) ∧ ns.length = vs.length ∧ Rw.rw K H0 F H fp vs x
  nd : (l :: fp).Nodup
  ex : ∀ b ∈ ex, b ∉ l :: fp
theorem OwnR.mapA {H0' F' H' : Hp} {ex' : List Addr} (o : OwnR cn ns K H0 F H l fp ex x) (n : H0' l = none) (f : F' l = none) (h : H' l = H l) (s : L2.Same F F') (m : ∀ {β : Type} [Rp β] [Ob β] {y : β} {a : Addr}, a ∈ fp → Own K H0 F H a y → Own K H0' F' H' a y) (he : ∀ b ∈ ex', b ∉ l :: fp) : OwnR cn ns K H0' F' H' l fp ex' x := by
  obtain ⟨dx, vs, e, z, w⟩ := o.w
  exact ⟨n, f, ⟨dx, vs, h.trans e, z, Rw.map s m w⟩, o.nd, he⟩
theorem OwnR.up {F' H' : Hp} (o : OwnR cn ns K H0 F H l fp ex x) (g : Gr F H F' H') : OwnR cn ns K H0 F' H' l fp ex x := by
  obtain ⟨dx, vs, e, z, w⟩ := o.w
  exact ⟨o.n, (g.fr l _ e trivial).trans o.f, ⟨dx, vs, g.hh.k _ _ e trivial, z, Rw.map g.ff (fun _ o => o.up g) w⟩, o.nd, o.ex⟩
theorem OwnR.plA (o : OwnR cn ns K H0 F H l fp ex x) : ∀ a ∈ l :: fp, H0 a = none ∧ F a = none ∧ PlL H a := fun a ha => by
  obtain ⟨dx, vs, e, z, w⟩ := o.w
  rcases List.mem_cons.mp ha with m | m
  · subst m; exact ⟨o.n, o.f, _, e, trivial, trivial⟩
  · exact Rw.ne w a m
theorem OwnR.ne0 (o : OwnR cn ns K H0 F H l fp ex x) {p : Addr} (h : p ∈ l :: fp) : H p ≠ none := by
  obtain ⟨_, _, u, e, _⟩ := o.plA p h
  rw [e]; exact fun z => nomatch z
theorem OwnR.other {u : HO} {b : Addr} (o : OwnR cn ns K H0 F H l fp ex x) (h : b ∈ ex) : OwnR cn ns K H0 F (upd H b u) l fp ex x := by
  have hb := o.ex b h
  exact o.mapA o.n o.f (upd_ne fun e => hb (e ▸ List.mem_cons_self)) (.refl _) (fun m p => p.other fun z => hb (by rw [← z]; exact List.mem_cons_of_mem _ m)) o.ex
theorem OwnR.keepF {F' H' : Hp} {b : Addr} (o : OwnR cn ns K H0 F H l fp ex x) (h : b ∈ ex) (s : L2.Same F F') (k : ∀ a, a ≠ b → F' a = F a ∧ H' a = H a) : OwnR cn ns K H0 F' H' l fp ex x := by
  have hb := o.ex b h
  have hl := k l fun e => hb (e ▸ List.mem_cons_self)
  exact o.mapA o.n (hl.1.trans o.f) hl.2 s (fun m p => p.keepF (fun z => hb (by rw [← z]; exact List.mem_cons_of_mem _ m)) s k) o.ex
theorem OwnR.over {F' H' : Hp} {b : Addr} (o : OwnR cn ns K H0 F H l fp ex x) (h : b ∈ ex) (g : Gr F (er H b) F' H') : OwnR cn ns K H0 F' H' l fp ex x := by
  have hb := o.ex b h
  have hl : l ≠ b := fun e => hb (e ▸ List.mem_cons_self)
  obtain ⟨dx, vs, e, z, w⟩ := o.w
  have e2 : er H b l = some (.ins (He.ga K cn) dx (ns.zip vs)) := by rw [er_ne hl]; exact e
  exact o.mapA o.n ((g.fr l _ e2 trivial).trans o.f) ((g.hh.k _ _ e2 trivial).trans e.symm) g.ff (fun m p => p.over (fun z => hb (by rw [← z]; exact List.mem_cons_of_mem _ m)) g) o.ex
theorem OwnR.ext {p : Addr} (o : OwnR cn ns K H0 F H l fp ex x) (h : H p = none) : OwnR cn ns K H0 F H l fp (p :: ex) x := ⟨o.n, o.f, o.w, o.nd, fun b hb => by
  rcases List.mem_cons.mp hb with e | e
  · subst e; exact fun m => o.ne0 m h
  · exact o.ex b e⟩
theorem OwnR.exO {p : Addr} (o : OwnR cn ns K H0 F H l fp ex x) (h : H0 p ≠ none) : OwnR cn ns K H0 F H l fp (p :: ex) x := ⟨o.n, o.f, o.w, o.nd, fun b hb => by
  rcases List.mem_cons.mp hb with e | e
  · subst e; exact fun m => h (o.plA b m).1
  · exact o.ex b e⟩
theorem OwnR.base {H1 : Hp} (o : OwnR cn ns K H1 F H l fp ex x) (h : ∀ p, H1 p = none → H0 p = none) : OwnR cn ns K H0 F H l fp ex x := o.mapA (h l o.n) o.f rfl (.refl _) (fun _ p => p.base h) o.ex
theorem OwnR.cg {y : τ} (e : x = y) (o : OwnR cn ns K H0 F H l fp ex x) : OwnR cn ns K H0 F H l fp ex y := e ▸ o
def ThI (K : PySem.W.Frag) (J : Hp → Hp → Prop) : Prop := ∀ {F H : Hp} {l C dx : Addr} {fs : List (Str × V)}, H l = some (.ins C dx fs) → F l = none → L2.Same F H → (L2.Same F (upd F l (.ins C dx fs)) → L2.Same (upd F l (.ins C dx fs)) H → J (upd F l (.ins C dx fs)) H) → J F H
theorem upd_id {H : Hp} {l : Addr} {o : HO} (h : H l = some o) : upd H l o = H := by
  funext b
  by_cases hb : b = l
  · rw [hb, upd_same, h]
  · rw [upd_ne hb]
end
section
variable {X : Cx} {K : PySem.W.Frag} {e a b c d : Expr} {es : List Expr} {σ : L2.St} {F H F0 H0 : Hp} {pos : Pos} {D : Ends} {st : Stmt} {rest body : List Stmt} {τ φ : Type} [Ra φ] [Rw τ φ] {cn : Str} {ns : List Str} {x : τ} {l : Addr} {ex : List Addr}
structure OwR (cn : Str) (ns : List Str) (K : PySem.W.Frag) (H0 F H : Hp) (l : Addr) (ex : List Addr) (x : τ) : Prop where
  o : ∃ fp, OwnR cn ns K H0 F H l fp ex x
theorem OwR.cg {y : τ} (e : x = y) (o : OwR cn ns K H0 F H l ex x) : OwR cn ns K H0 F H l ex y := e ▸ o
theorem OwR.up {F' H' : Hp} (o : OwR cn ns K H0 F H l ex x) (g : Gr F H F' H') : OwR cn ns K H0 F' H' l ex x := let ⟨fp, o⟩ := o.o; ⟨fp, o.up g⟩
theorem OwR.n (o : OwR cn ns K H0 F H l ex x) : H0 l = none := let ⟨_, o⟩ := o.o; o.n
theorem OwR.ne0 (o : OwR cn ns K H0 F H l ex x) : H l ≠ none := let ⟨_, o⟩ := o.o; o.ne0 List.mem_cons_self
theorem OwR.other {u : HO} {b : Addr} (o : OwR cn ns K H0 F H l ex x) (h : b ∈ ex) : OwR cn ns K H0 F (upd H b u) l ex x := let ⟨fp, o⟩ := o.o; ⟨fp, o.other h⟩
theorem OwR.keepF {F' H' : Hp} {b : Addr} (o : OwR cn ns K H0 F H l ex x) (h : b ∈ ex) (s : L2.Same F F') (k : ∀ a, a ≠ b → F' a = F a ∧ H' a = H a) : OwR cn ns K H0 F' H' l ex x := let ⟨fp, o⟩ := o.o; ⟨fp, o.keepF h s k⟩
theorem OwR.over {F' H' : Hp} {b : Addr} (o : OwR cn ns K H0 F H l ex x) (h : b ∈ ex) (g : Gr F (er H b) F' H') : OwR cn ns K H0 F' H' l ex x := let ⟨fp, o⟩ := o.o; ⟨fp, o.over h g⟩
theorem OwR.ext {p : Addr} (o : OwR cn ns K H0 F H l ex x) (h : H p = none) : OwR cn ns K H0 F H l (p :: ex) x := let ⟨fp, o⟩ := o.o; ⟨fp, o.ext h⟩
theorem OwR.exO {p : Addr} (o : OwR cn ns K H0 F H l ex x) (h : H0 p ≠ none) : OwR cn ns K H0 F H l (p :: ex) x := let ⟨fp, o⟩ := o.o; ⟨fp, o.exO h⟩
theorem OwR.base {H1 : Hp} (o : OwR cn ns K H1 F H l ex x) (h : ∀ p, H1 p = none → H0 p = none) : OwR cn ns K H0 F H l ex x := let ⟨fp, o⟩ := o.o; ⟨fp, o.base h⟩
theorem OwR.nil (o : OwR cn ns K H0 F H l ex x) : OwR cn ns K H0 F H l [] x := let ⟨fp, o⟩ := o.o; ⟨fp, ⟨o.n, o.f, o.w, o.nd, fun b h => nomatch h⟩⟩
end
def ers (H : Hp) (S : List Addr) : Hp := fun a => if a ∈ S then none else H a
section
variable {X : Cx} {K : PySem.W.Frag} {F H F0 H0 F' H' : Hp} {S : List Addr}
theorem ers_in {a : Addr} (h : a ∈ S) : ers H S a = none := if_pos h
theorem ers_out {a : Addr} (h : a ∉ S) : ers H S a = H a := if_neg h
theorem ers_some {a : Addr} {o : HO} (h : ers H S a = some o) : a ∉ S ∧ H a = some o := by
  unfold ers at h; split at h
  · cases h
  · exact ⟨by assumption, h⟩
theorem GdT.ers {P : Addr} (a : GdT H P) (h : ∀ l ∈ S, PlAt H l) : GdT (ers H S) P := by
  have hP : P ∉ S := fun m => a.ne (h P m) rfl
  obtain ⟨ps, e, h1, h2⟩ := a
  refine ⟨ps, (ers_out hP).trans e, h1, fun pos cv hc => ?_⟩
  obtain ⟨c, e1, e2⟩ := h2 pos cv hc
  refine ⟨c, e1, (ers_out fun m => ?_).trans e2⟩
  obtain ⟨o, ho, po⟩ := h c m
  rw [ho] at e2; exact codeO_pl (Option.some.inj e2) po
theorem HasT.ers (h : HasT K F H) (pl : ∀ l ∈ S, PlAt H l) : HasT K F (ers H S) := ⟨fun P hP => ⟨(h.t P hP).1.ers pl, (h.t P hP).2⟩⟩
theorem same_ers (s : L2.Same F H) (f : ∀ l ∈ S, F l = none) : L2.Same F (ers H S) := fun a o h => by
  rw [ers_out fun m => by rw [f a m] at h; cases h]; exact s a o h
theorem SmX.ers (s : SmX K F H) (f : ∀ l ∈ S, F l = none) (pl : ∀ l ∈ S, PlAt H l) : SmX K F (ers H S) := ⟨same_ers s.s f, s.h.ers pl⟩
theorem Gr.startS (s : L2.Same F H) : Gr F (ers H S) F H := ⟨.refl _, s, .same fun a o h => (ers_some h).2, fun _ _ _ _ => rfl⟩
theorem Gr.overS (g : Gr F0 H0 F H) (n : ∀ l ∈ S, H0 l = none) (g' : Gr F (ers H S) F' H') (pl : ∀ l ∈ S, PlAt H l) : Gr F0 H0 F' H' := by
  have lift : ∀ a o, H0 a = some o → ∀ u, H a = some u → ers H S a = some u := fun a o h u e => by
    rw [ers_out fun m => by rw [n a m] at h; cases h]; exact e
  refine ⟨g.ff.trans g'.ff, g'.fh, ⟨fun a o h ns => g'.hh.k a o (lift a o h _ (g.hh.k a o h ns)) ns, fun a ps h => ?_, fun P a => g'.hh.w P ((g.hh.w P a).ers pl)⟩, fun a o h ns => ?_⟩
  · obtain ⟨qs, e⟩ := g.hh.t a ps h
    exact g'.hh.t a qs (lift a _ h _ e)
  · cases o with
    | tbl ps =>
      obtain ⟨qs, e⟩ := g.hh.t a ps h
      rw [g'.fr a _ (lift a _ h _ e) trivial, g.fr a _ h trivial]
    | _ => rw [g'.fr a _ (lift a _ h _ (g.hh.k a _ h trivial)) ns, g.fr a _ h ns]
theorem GrX.overS (g : GrX K F0 H0 F H) (n : ∀ l ∈ S, H0 l = none) (g' : Gr F (ers H S) F' H') (pl : ∀ l ∈ S, PlAt H l) : GrX K F0 H0 F' H' := ⟨g.toGr.overS n g' pl, (g.h.ers pl).up g'⟩
theorem Own.overS {α : Type} [Rp α] [Ob α] {x : α} {l2 : Addr} (o : Own K H0 F H l2 x) (h : l2 ∉ S) (g : Gr F (ers H S) F' H') : Own K H0 F' H' l2 x := by
  obtain ⟨u, hl, r⟩ := o.h
  have e : ers H S l2 = some u := by rw [ers_out h]; exact hl
  exact ⟨o.n, (g.fr l2 u e (Ob.ls r)).trans o.f, u, g.hh.k _ _ e (Ob.pl r).ntb, Ob.mono g.ff r⟩
theorem Gr.erS {F1 H1 F2 H2 : Hp} (g : Gr F1 H1 F2 H2) (h : ∀ l ∈ S, F1 l = none ∧ ∃ o, H1 l = some o ∧ lstish o ∧ pln o) : Gr F1 (ers H1 S) F2 (ers H2 S) := by
  have hS : ∀ l ∈ S, F2 l = none ∧ PlAt H2 l := fun l m => by
    obtain ⟨f, o, e, ls, po⟩ := h l m
    exact ⟨(g.fr l o e ls).trans f, o, g.hh.k l o e po.ntb, po⟩
  refine ⟨g.ff, same_ers g.fh fun l m => (hS l m).1, ⟨fun b u e n => ?_, fun b ps e => ?_, fun P a => ?_⟩, fun b u e n => g.fr b u (ers_some e).2 n⟩
  · obtain ⟨hb, e⟩ := ers_some e
    rw [ers_out hb]; exact g.hh.k b u e n
  · obtain ⟨hb, e⟩ := ers_some e
    rw [ers_out hb]; exact g.hh.t b ps e
  · exact (g.hh.w P (Xt.w (.same fun a o h => (ers_some h).2) P a)).ers fun l m => (hS l m).2
end
inductive AllNe (H : Hp) : List Addr → Prop
  | nil : AllNe H []
  | cons {b : Addr} {ex : List Addr} : H b ≠ none → AllNe H ex → AllNe H (b :: ex)
theorem AllNe.mem {H : Hp} {ex : List Addr} (h : AllNe H ex) : ∀ b ∈ ex, H b ≠ none := by
  induction h with
  | nil => exact fun b m => nomatch m
  | cons h _ ih =>
    intro b m
    rcases List.mem_cons.mp m with e | e
    · subst e; exact h
    · exact ih b e
theorem AllNe.up {H H' : Hp} {ex : List Addr} (h : AllNe H ex) (k : ∀ p, H' p = none → H p = none) : AllNe H' ex := by
  induction h with
  | nil => exact .nil
  | cons h _ ih => exact .cons (fun z => h (k _ z)) ih
section
variable {X : Cx} {K : PySem.W.Frag} {e a b c d : Expr} {es : List Expr} {σ : L2.St} {F H F0 H0 : Hp} {pos : Pos} {D : Ends} {st : Stmt} {rest body : List Stmt} {τ φ θ : Type} [Ra φ] [Rw τ φ] {cn : Str} {ns : List Str} {P : θ → τ} {l : Addr} {ex : List Addr}
structure AftR (cn : Str) (ns : List Str) (P : θ → τ) (K : PySem.W.Frag) (H0 F H : Hp) (l : Addr) (ex : List Addr) (y : θ) (F' H' : Hp) : Prop where
  s : ∃ S : List Addr, (∀ p ∈ S, H0 p = none ∧ F p = none ∧ PlL H p) ∧ (∀ b ∈ ex, b ∉ S) ∧ Gr F (ers H S) F' H'
  o : OwR cn ns K H0 F' H' l ex (P y)
theorem AftR.g {F' H' : Hp} {y : θ} (a : AftR cn ns P K H0 F H l ex y F' H') (g : GrX K F0 H0 F H) : GrX K F0 H0 F' H' := by
  obtain ⟨S, h1, _, h3⟩ := a.s
  exact g.overS (fun p m => (h1 p m).1) h3 fun p m => (h1 p m).2.2.pl
theorem AftR.ff {F' H' : Hp} {y : θ} (a : AftR cn ns P K H0 F H l ex y F' H') : L2.Same F F' := let ⟨_, _, _, h⟩ := a.s; h.ff
theorem AftR.own {α : Type} [Rp α] [Ob α] {x : α} {F' H' : Hp} {y : θ} {q : Addr} (a : AftR cn ns P K H0 F H l ex y F' H') (o : Own K H0 F H q x) (h : q ∈ ex) : Own K H0 F' H' q x := by
  obtain ⟨S, _, h2, h3⟩ := a.s
  exact o.overS (h2 q h) h3
def EvMR {ρ : Type} [Rp ρ] (cn : Str) (ns : List Str) (P : θ → τ) (X : Cx) (e : Expr) (σ : L2.St) (H0 F H : Hp) (l : Addr) (ex : List Addr) (r : ρ) (y : θ) : Prop := ∀ Q : VK, (∀ u F2 H2, AftR cn ns P X.K H0 F H l ex y F2 H2 → rp X.K F2 u r → Q u H2) → GoE X e σ H Q
def PrR (cn : Str) (ns : List Str) (P : θ → τ) (K : PySem.W.Frag) {τ1 τ2 ρ : Type} [Ra τ1] [Ra τ2] [Rp ρ] (f : τ1 → θ → τ2 → Option (ρ × θ)) : Sp := fun vs H Q _ => ∃ F ws1 l ws2 fp a1 x a2 r, vs = ws1 ++ .ref l :: ws2 ∧ SmX K F H ∧ ra K F ws1 a1 ∧ ra K F ws2 a2 ∧ OwnR cn ns K (ers H (l :: fp)) F H l fp [] (P x) ∧ f a1 x a2 = some r ∧
  ∀ F' H' u, Gr F (ers H (l :: fp)) F' H' → OwR cn ns K (ers H (l :: fp)) F' H' l [] (P r.2) → rp K F' u r.1 → Q u H'
theorem OwnR.aft {fp : List Addr} {x : τ} {y : θ} {F' H' : Hp} (o : OwnR cn ns K H0 F H l fp ex x) (ne : AllNe H ex) (hb : ∀ p, H p = none → H0 p = none) (g : Gr F (ers H (l :: fp)) F' H') (o' : OwR cn ns K (ers H (l :: fp)) F' H' l [] (P y)) : AftR cn ns P K H0 F H l ex y F' H' := by
  have pl := o.plA
  refine ⟨⟨l :: fp, pl, o.ex, g⟩, ?_⟩
  obtain ⟨fp', o'⟩ := o'.o
  refine ⟨fp', ?_⟩
  have o2 : OwnR cn ns K H0 F' H' l fp' [] (P y) := o'.base fun p hp => by
    by_cases m : p ∈ l :: fp
    · exact (pl p m).1
    · rw [ers_out m] at hp; exact hb p hp
  refine ⟨o2.n, o2.f, o2.w, o2.nd, fun b hbx m => ?_⟩
  have h1 := (o'.plA b m).1
  rw [ers_out (o.ex b hbx)] at h1
  exact ne.mem b hbx h1
end
class RwV (i : Nat) (τ : Type) {φ : Type} [Ra φ] [Rw τ φ] (α : outParam Type) [Rp α] where
  set : τ → α → τ
  put : ∀ {K : PySem.W.Frag} {H0 F H : Hp} {fp : List Addr} {vs : List V} {x : τ} {v : V} {y : α}, Rw.rw K H0 F H fp vs x → rp K F v y → Rw.rw K H0 F H fp (vs.set i v) (set x y)
class RwP (i : Nat) (τ : Type) {φ : Type} [Ra φ] [Rw τ φ] (β : outParam Type) [Rp β] [Ob β] where
  get : τ → β
  set : τ → β → τ
  own : ∀ {K : PySem.W.Frag} {H0 F H : Hp} {fp : List Addr} {vs : List V} {x : τ}, Rw.rw K H0 F H fp vs x → ∃ p, p ∈ fp ∧ vs[i]? = some (.ref p) ∧ Own K H0 F H p (get x) ∧
    ∀ {F' H' : Hp} {y : β}, fp.Nodup → L2.Same F F' → (∀ {γ : Type} [Rp γ] [Ob γ] {z : γ} {a : Addr}, a ∈ fp → a ≠ p → Own K H0 F H a z → Own K H0 F' H' a z) → Own K H0 F' H' p y → Rw.rw K H0 F' H' fp vs (set x y)
instance {α τ φ : Type} [Rp α] [Ra φ] [Rw τ φ] : RwV 0 (α × τ) α := ⟨fun x y => (y, x.2), fun ⟨v, r, e, p, q⟩ h => by subst e; exact ⟨_, r, rfl, h, q⟩⟩
instance {i : Nat} {α β τ φ : Type} [Rp α] [Rp β] [Ra φ] [Rw τ φ] [RwV i τ α] : RwV (i + 1) (β × τ) α := ⟨fun x y => (x.1, RwV.set i φ x.2 y), fun ⟨v, r, e, p, q⟩ h => by subst e; exact ⟨v, _, rfl, p, RwV.put q h⟩⟩
instance {i : Nat} {α β τ φ : Type} [Rp α] [Rp β] [Ob β] [Ra φ] [Rw τ φ] [RwV i τ α] : RwV (i + 1) (Pv β × τ) α := ⟨fun x y => (x.1, RwV.set i φ x.2 y), fun ⟨p, q, r, e1, e2, o, w⟩ h => by subst e1; subst e2; exact ⟨p, q, _, rfl, rfl, o, RwV.put w h⟩⟩
instance {β τ φ : Type} [Rp β] [Ob β] [Ra φ] [Rw τ φ] : RwP 0 (Pv β × τ) β := ⟨fun x => x.1.v, fun x y => (⟨y⟩, x.2), fun {K H0 F H fp vs x} ⟨p, q, r, e1, e2, o, w⟩ => by
  subst e1; subst e2
  refine ⟨p, List.mem_cons_self, rfl, o, fun nd s m oy => ⟨p, q, r, rfl, rfl, oy, Rw.map s (fun {γ} _ _ {z a} ha o => m (List.mem_cons_of_mem _ ha) (fun e => (List.nodup_cons.mp nd).1 (by rw [← e]; exact ha)) o) w⟩⟩⟩
instance {i : Nat} {α β τ φ : Type} [Rp α] [Rp β] [Ob β] [Ra φ] [Rw τ φ] [RwP i τ β] : RwP (i + 1) (α × τ) β := ⟨fun x => RwP.get i φ x.2, fun x y => (x.1, RwP.set i φ x.2 y), fun {K H0 F H fp vs x} ⟨v, r, e, h, w⟩ => by
  subst e
  obtain ⟨p, h1, h2, h3, h4⟩ := RwP.own (i := i) w
  exact ⟨p, h1, h2, h3, fun nd s m oy => ⟨v, r, rfl, Rp.mono s h, h4 nd s m oy⟩⟩⟩
instance {i : Nat} {γ β τ φ : Type} [Rp γ] [Ob γ] [Rp β] [Ob β] [Ra φ] [Rw τ φ] [RwP i τ β] : RwP (i + 1) (Pv γ × τ) β := ⟨fun x => RwP.get i φ x.2, fun x y => (x.1, RwP.set i φ x.2 y), fun {K H0 F H fp vs x} ⟨p0, q, r, e1, e2, o, w⟩ => by
  subst e1; subst e2
  obtain ⟨p, h1, h2, h3, h4⟩ := RwP.own (i := i) w
  refine ⟨p, List.mem_cons_of_mem _ h1, h2, h3, fun nd s m oy => ?_⟩
  obtain ⟨n0, nd⟩ := List.nodup_cons.mp nd
  exact ⟨p0, q, r, rfl, rfl, m List.mem_cons_self (fun e => n0 (by rw [e]; exact h1)) o, h4 nd s (fun ha hne o => m (List.mem_cons_of_mem _ ha) hne o) oy⟩⟩
section
variable {X : Cx} {K : PySem.W.Frag} {e a b c d : Expr} {es : List Expr} {σ : L2.St} {F H F0 H0 : Hp} {pos : Pos} {D : Ends} {st : Stmt} {rest body : List Stmt} {τ φ θ : Type} [Ra φ] [Rw τ φ] {cn : Str} {ns : List Str} {P : θ → τ} {l : Addr} {ex : List Addr} {w w' : θ}
structure PkR (H0 F H : Hp) (ex : List Addr) (p : Addr) (u : HO) : Prop where
  n : H0 p = none
  f : F p = none
  pl : PlAt H p
  no : PlAt (upd H p u) p
  hx : ∀ b ∈ ex, b ≠ p
theorem PkR.g {p : Addr} {u : HO} (k : PkR H0 F H ex p u) (g : GrX K F0 H0 F H) : GrX K F0 H0 F (upd H p u) := g.poke k.n k.f k.pl k.no
end
section
variable {X : Cx} {K : PySem.W.Frag} {e a b c d : Expr} {es : List Expr} {σ : L2.St} {F H F0 H0 : Hp} {pos : Pos} {D : Ends} {st : Stmt} {rest body : List Stmt} {τ φ θ : Type} [Ra φ] [Rw τ φ] {cn : Str} {ns : List Str} {W : θ → τ} {l : Addr} {ex : List Addr} {w w' : θ}
theorem OwR.aft {x : θ} {y : θ} (o : OwR cn ns K H0 F H l ex (W x)) (ne : AllNe H ex) (hb : ∀ p, H p = none → H0 p = none) {Q : List V → Hp → Prop} : True := trivial
def EvRec (cn : Str) (ns : List Str) (W : θ → τ) (X : Cx) (e : Expr) (σ : L2.St) (F H : Hp) (y : θ) : Prop := ∀ F1 H1, GrX X.K F H F1 H1 → ∀ Q : VK, (∀ l F2 H2, Gr F1 H1 F2 H2 → OwR cn ns X.K H1 F2 H2 l [] (W y) → Q (.ref l) H2) → GoE X e σ H1 Q
def PrIR (cn : Str) (ns : List Str) (W : θ → τ) (K : PySem.W.Frag) {τ1 : Type} [Ra τ1] (f : τ1 → Option θ) : Sp := fun vs H Q _ => ∃ F x dx args a r, vs = .ref x :: args ∧ SmX K F H ∧ F x = none ∧ H x = some (.ins (He.ga K cn) dx []) ∧ ra K F args a ∧ f a = some r ∧
  ∀ F' H', Gr F (er H x) F' H' → OwR cn ns K (er H x) F' H' x [] (W r) → Q .non H'
end
end Gx
namespace Gx
open PySem PySem.Spec PyProof.Rows L2
open Rp (rp)
open Ra (ra)
open Ob (ob)
def TopOk (P : Program) (w : World) (K : PySem.W.Frag) (mg : Str → Option Value) (base : Heap) (f : Addr) (fd : FuncData) (ps : List Str) (sp : Sp) : Prop :=
  ∀ (s : Shared) (H : Hp) (args : Args) (us : List Value) (vs : List V) (Q : VK) (E : XK), Env0 P w K mg base callerA [] s H → BindsTo s fd args (ps.zip us) → Vals vs us → sp vs H Q E →
    codeAny (model P w) callerA (.call (.ref f) args) (L2.CR CX0 [] P w H s Q E) s
instance : Pd Unit := ⟨fun _ => .none, fun {K F v x} h => by
  have h : v = .non := h
  subst h; exact .non, fun x y => by simp [PyData.eqv]⟩
class PdD (α : Type) [Rp α] where
  toD : α → PyData
  dp : ∀ {K : PySem.W.Frag} {F : Hp} {v : V} {x : α}, rp K F v x → Dp K F v (toD x)
theorem dpd_all {α : Type} [Rp α] [PdD α] {K : PySem.W.Frag} {F : Hp} : ∀ {vs : List V} {xs : List α}, Rps K F vs xs → DpAll K F vs (xs.map PdD.toD)
  | _, _, .nil => .nil
  | _, _, .cons r t => .cons (PdD.dp r) (dpd_all t)
instance : PdD Dy := ⟨Dy.d, fun h => h⟩
instance : PdD Int := ⟨.int, fun h => Pd.dp (α := Int) h⟩
instance {α : Type} [Rp α] [PdD α] : PdD (List α) := ⟨fun xs => .list (xs.map PdD.toD), fun {K F v x} ⟨a, vs, e, sq, rs⟩ => by
  subst e
  exact .lst sq (dpd_all rs)⟩
instance {α β : Type} [Rp α] [Rp β] [PdD α] [PdD β] : PdD (T2 α β) := ⟨fun x => .tuple [PdD.toD x.a, PdD.toD x.b], fun {K F v x} ⟨a, vs, e, sq, v1, r1, e1, h1, v2, r2, e2, h2, e3⟩ => by
  have e3 : r2 = [] := e3
  subst e3; subst e2; subst e1; subst e
  exact .tup (SqT.of sq) (.cons (PdD.dp h1) (.cons (PdD.dp h2) .nil))⟩
class PdRef (α : Type) [Rp α] : Prop where
  ref : ∀ {K : PySem.W.Frag} {F : Hp} {v : V} {x : α}, rp K F v x → ∃ a, v = .ref a
instance {α : Type} [Rp α] : PdRef (List α) := ⟨fun ⟨a, _, e, _⟩ => ⟨a, e⟩⟩
instance {α β : Type} [Rp α] [Rp β] : PdRef (T2 α β) := ⟨fun ⟨a, _, e, _⟩ => ⟨a, e⟩⟩
def showG (d : PyData) : Option Str := if d.showable = true ∧ d.hasDict = false ∧ d.depth ≤ 60 ∧ d.shown.length ≤ sizeLine then some d.shown else none
def rRepr (K : PySem.W.Frag) : List V → Hp → VK → Prop := fun vs H Q => ∃ a d r, vs = [.ref a] ∧ Dp K H (.ref a) d ∧ showG d = some r ∧ Q (.str r) H
section
variable {X : Cx} {K : PySem.W.Frag} {e a b c d : Expr} {es : List Expr} {σ : L2.St} {F H F0 H0 : Hp} {pos : Pos} {D : Ends} {st : Stmt} {rest body : List Stmt}
def popG2 {α : Type} (t : List (List α)) (i j : Int) : Option (α × List (List α)) := match ixN t.length i with
  | none => none
  | some n => match t[n]? with
    | none => none
    | some r => (popG r j).map fun w => (w.1, t.set n w.2)
section
variable {α : Type} [Rp α] {t : List (List α)} {l l2 : Addr} {ex : List Addr}
end
end
def C1 {α : Type} [Rp α] (K : PySem.W.Frag) (F : Hp) (v : V) (l : Addr) (x : α) : Prop := ∃ a w, v = .ref a ∧ TupF F a [.ref l, w] ∧ rp K F w x
theorem C1.mono {α : Type} [Rp α] {K : PySem.W.Frag} {F F' : Hp} {v : V} {l : Addr} {x : α} (h : C1 K F v l x) (s : L2.Same F F') : C1 K F' v l x := by
  obtain ⟨a, w, e, t, r⟩ := h
  exact ⟨a, w, e, tupF_mono s t, Rp.mono s r⟩
theorem C1.rp {α γ : Type} [Rp α] [Rp γ] {K : PySem.W.Frag} {F : Hp} {v : V} {l : Addr} {x : α} {y : γ} (h : C1 K F v l x) (r : Rp.rp K F (.ref l) y) : Rp.rp K F v (T2.mk y x) := by
  obtain ⟨a, w, e, t, rw'⟩ := h
  exact ⟨a, _, e, t, .ref l, _, rfl, r, w, _, rfl, rw', rfl⟩
theorem C1.of {α γ : Type} [Rp α] [Rp γ] {K : PySem.W.Frag} {F : Hp} {v : V} {l : Addr} {t : T2 γ α} (h : C1 K F v l t.b) (r : Rp.rp K F (.ref l) t.a) : Rp.rp K F v t := h.rp r
section
variable {X : Cx} {K : PySem.W.Frag} {e a b c d : Expr} {es : List Expr} {σ : L2.St} {F H F0 H0 : Hp} {pos : Pos} {D : Ends} {st : Stmt} {rest body : List Stmt} {α γ : Type} [Rp α] [Rp γ] {x : α} {ys : List γ}
def EvC1 (X : Cx) (e : Expr) (σ : L2.St) (F H : Hp) (ys : List γ) (x : α) : Prop := ∀ F1 H1, GrX X.K F H F1 H1 → ∀ Q : VK, (∀ u l o F2 H2, Gr F1 H1 F2 H2 → H1 l = none → F2 l = none → H2 l = some o → ob X.K F2 o ys → C1 X.K F2 u l x → Q u H2) → GoE X e σ H1 Q
def PrC1 (K : PySem.W.Frag) {τ : Type} [Ra τ] (f : τ → Option (T2 (List γ) α)) : Sp := fun vs H Q _ => ∃ F a r, SmX K F H ∧ ra K F vs a ∧ f a = some r ∧ ∀ u l o F' H', Gr F H F' H' → H l = none → F' l = none → H' l = some o → ob K F' o r.a → C1 K F' u l r.b → Q u H'
theorem EvC1.ev (h : EvC1 X e σ F H ys x) : Ev X e σ F H (T2.mk ys x) := fun F1 H1 g Q q =>
  GoE.lock (Q' := fun v H2 => ∃ l o F2, C1 X.K F2 v l x ∧ Gr F1 H1 F2 H2 ∧ H1 l = none ∧ F2 l = none ∧ H2 l = some o ∧ ob X.K F2 o ys) (h F1 H1 g _ fun u l o F2 H2 g2 n2 f2 h2 r2 c2 => ⟨l, o, F2, c2, g2, n2, f2, h2, r2⟩)
    fun v H2 ⟨l, o, F2, c2, g2, n2, f2, h2, r2⟩ => ⟨l, o, h2, Ob.mu r2, fun od =>
      q _ (upd F2 l (.frz od o)) _ (g2.freeze n2 f2 ⟨_, h2, Ob.pl r2⟩ trivial) ((c2.mono (same_upd f2)).rp (Ob.fz upd_same (Ob.mono (same_upd f2) r2)))⟩
theorem EvC1.evT {t : T2 (List γ) α} (h : EvC1 X e σ F H t.a t.b) : Ev X e σ F H t := h.ev
end
end Gx
namespace Gx
open PySem PySem.Spec PyProof.Rows L2
open Rp (rp)
open Ra (ra)
open Ob (ob)
section
variable {X : Cx} {K : PySem.W.Frag} {e a b c d : Expr} {es : List Expr} {σ : L2.St} {F H Hl F0 H0 : Hp} {pos : Pos} {D : Ends} {st : Stmt} {rest body : List Stmt} {l : Addr} {β : Type} [Rp β] [Ob β] {c0 c1 c2 : β}
theorem EvU.re {ρ ρ' : Type} [Rp ρ] [Rp ρ'] {r : ρ} {r' : ρ'} (h : EvU X e σ F Hl l c0 r c1) (k : ∀ F v, rp X.K F v r → rp X.K F v r') : EvU X e σ F Hl l c0 r' c1 := fun F1 H1 o g f h1 bo Q q =>
  h F1 H1 o g f h1 bo Q fun u F2 H2 o2 g2 f2 h2 b2 r2 => q u F2 H2 o2 g2 f2 h2 b2 (k _ _ r2)
def EvIU {α : Type} [Rp α] (X : Cx) (tg iter : Expr) (σ : L2.St) (F Hl : Hp) (l : Addr) (x : β) (xs : List α) (y : β) : Prop := ∀ F1 H1 o, GrX X.K F Hl F1 (er H1 l) → F1 l = none → H1 l = some o → ob X.K F1 o x → ∀ R : It → Hp → Prop, (∀ J F2 H2 o2, Gr F1 (er H1 l) F2 (er H2 l) → F2 l = none → H2 l = some o2 → ob X.K F2 o2 y → Wk X.K J F2 H2 xs → R J H2) → GoI X tg iter σ H1 R
def compSM {α γ β : Type} (f : β → α → Option (γ × β)) : β → List α → Option (List γ × β)
  | b, [] => some ([], b)
  | b, x :: xs => match f b x with
    | none => none
    | some p => (compSM f p.2 xs).map fun q => (p.1 :: q.1, q.2)
def compS {α γ β : Type} (f : β → α → Option (γ × β)) (b : β) (xs : List α) : Option (List γ × β) := if xs.length ≤ sizeLine then compSM f b xs else none
def CBU {γ : Type} [Rp γ] (X : Cx) (scope : Scope) (elt : Expr) (σ2 : L2.St) (F Hl : Hp) (l : Addr) (c : β) (p : γ × β) : Prop := ∀ s H' C cl fp, EvU (blkX X scope s H' C cl fp) elt σ2 F Hl l c p.1 p.2
end
structure Any where
instance : Rp Any := ⟨fun _ _ _ _ => True, fun _ h => h⟩
def CL {τ : Type} [Ra τ] (K : PySem.W.Frag) (F : Hp) (v : V) (l : Addr) (x : τ) : Prop := ∃ a ws, v = .ref a ∧ TupF F a (ws ++ [.ref l]) ∧ ra K F ws x
theorem CL.mono {τ : Type} [Ra τ] {K : PySem.W.Frag} {F F' : Hp} {v : V} {l : Addr} {x : τ} (h : CL K F v l x) (s : L2.Same F F') : CL K F' v l x := by
  obtain ⟨a, w, e, t, r⟩ := h
  exact ⟨a, w, e, tupF_mono s t, Ra.mono s r⟩
section
variable {α1 α2 α3 α4 α5 α6 γ : Type} [Rp α1] [Rp α2] [Rp α3] [Rp α4] [Rp α5] [Rp α6] [Rp γ]
theorem CL.rp {K : PySem.W.Frag} {F : Hp} {v : V} {l : Addr} {x1 : α1} {x2 : α2} {x3 : α3} {x4 : α4} {x5 : α5} {x6 : α6} {y : γ} (h : CL K F v l (x1, x2, x3, x4, x5, x6, ())) (r : Rp.rp K F (.ref l) y) : Rp.rp K F v (T7.mk x1 x2 x3 x4 x5 x6 y) := by
  obtain ⟨a, ws, e, t, v1, r1, e1, p1, v2, r2, e2, p2, v3, r3, e3, p3, v4, r4, e4, p4, v5, r5, e5, p5, v6, r6, e6, p6, e7⟩ := h
  have e7 : r6 = [] := e7
  subst e7; subst e6; subst e5; subst e4; subst e3; subst e2; subst e1
  exact ⟨a, _, e, t, v1, _, rfl, p1, v2, _, rfl, p2, v3, _, rfl, p3, v4, _, rfl, p4, v5, _, rfl, p5, v6, _, rfl, p6, .ref l, _, rfl, r, rfl⟩
end
theorem CL.any {α1 α2 α3 α4 α5 α6 : Type} [Rp α1] [Rp α2] [Rp α3] [Rp α4] [Rp α5] [Rp α6] {K : PySem.W.Frag} {F : Hp} {v : V} {l : Addr} {r : α1 × α2 × α3 × α4 × α5 × α6 × Unit} (h : CL K F v l r) : Rp.rp K F v (T7.mk r.1 r.2.1 r.2.2.1 r.2.2.2.1 r.2.2.2.2.1 r.2.2.2.2.2.1 Any.mk) := CL.rp (x1 := r.1) (x2 := r.2.1) (x3 := r.2.2.1) (x4 := r.2.2.2.1) (x5 := r.2.2.2.2.1) (x6 := r.2.2.2.2.2.1) (y := Any.mk) h trivial
section
variable {X : Cx} {K : PySem.W.Frag} {e a b c d : Expr} {es : List Expr} {σ : L2.St} {F H F0 H0 : Hp} {pos : Pos} {D : Ends} {st : Stmt} {rest body : List Stmt} {τ1 γ : Type} [Ra τ1] [RaN τ1] [Rp γ] {x : τ1} {ys : List γ}
def EvCL (X : Cx) (e : Expr) (σ : L2.St) (F H : Hp) (x : τ1) (ys : List γ) : Prop := ∀ F1 H1, GrX X.K F H F1 H1 → ∀ Q : VK, (∀ u l o F2 H2, Gr F1 H1 F2 H2 → H1 l = none → F2 l = none → H2 l = some o → ob X.K F2 o ys → CL X.K F2 u l x → Q u H2) → GoE X e σ H1 Q
def PrCL (K : PySem.W.Frag) {τ : Type} [Ra τ] (f : τ → Option (τ1 × List γ)) : Sp := fun vs H Q _ => ∃ F a r, SmX K F H ∧ ra K F vs a ∧ f a = some r ∧ ∀ u l o F' H', Gr F H F' H' → H l = none → F' l = none → H' l = some o → ob K F' o r.2 → CL K F' u l r.1 → Q u H'
end
section
variable {X : Cx} {K : PySem.W.Frag} {e : Expr} {σ : L2.St} {F H : Hp} {pos : Pos} {D : Ends} {rest : List Stmt} {β : Type} [Rp β] [Ob β] {c1 : β} {l : Addr}
end
section
variable {X : Cx} {K : PySem.W.Frag} {a b e : Expr} {σ : L2.St} {F H : Hp} {pos : Pos} {α β δ ε : Type} [Rp α] [Rp β] [Rp δ] [Rp ε]
def ix3S (t : T5 α β β δ ε) (j : Int) : Option (Sm α β) := if j = 0 then some (.l t.a) else if j = 1 then some (.r t.b) else if j = 2 then some (.r t.c) else none
def allL : List (Sm α β) → Option (List α)
  | [] => some []
  | .l x :: r => (allL r).map (x :: ·)
  | .r _ :: _ => none
def allR : List (Sm α β) → Option (List β)
  | [] => some []
  | .r x :: r => (allR r).map (x :: ·)
  | .l _ :: _ => none
def Tn.alll (t : Tn (Sm α β)) : Option (Tn α) := (allL t.l).map Tn.mk
def Tn.allr (t : Tn (Sm α β)) : Option (Tn β) := (allR t.l).map Tn.mk
end
section
variable {X : Cx} {a : Expr} {σ : L2.St} {F H : Hp} {pos : Pos} {α1 α2 α3 α4 α5 α6 : Type} [Rp α1] [Rp α2] [Rp α3] [Rp α4] [Rp α5] [Rp α6]
end
structure Fzn {β : Type} [Rp β] [Ob β] (X : Cx) (H0 F : Hp) (l : Addr) (Fa : Hp) (x : β) : Prop where
  hn : ∀ o' u', X.H_0 l ≠ some (.frz o' u')
  n : H0 l = none
  f : Fa l = none
  s : L2.Same Fa F
  e : ∃ od u, F l = some (.frz od u) ∧ ob X.K Fa u x
section
variable {X : Cx} {e : Expr} {σ : L2.St} {F H F0 H0 Fa : Hp} {pos : Pos} {D : Ends} {β : Type} [Rp β] [Ob β] {x : β} {l : Addr}
theorem Fzn.up {F' : Hp} (z : Fzn X H0 F l Fa x) (s : L2.Same F F') : Fzn X H0 F' l Fa x := ⟨z.hn, z.n, z.f, z.s.trans s, let ⟨od, u, e, r⟩ := z.e; ⟨od, u, s _ _ e, r⟩⟩
end
end Gx
namespace Gx.EnL
open PySem PySem.Spec PyProof.Rows L2
open Sem (wp)
open SeqAt
section
variable {prog : Program} {w : World} {A : Around} {E : Value → Shared → Prop} {s : Shared}
abbrev KEn (h : Heap) (e it : Addr) (c : Int) (x : Value) (a : Addr) (f : Bool) : Prop := h.get? e = some { cls := .type "enumerate", dict := none, data := .fields #[rawInt a, .bool f, .ref it, rawInt c, .none, x], slots := #[] }
def KSt (h : Heap) (e it S : Addr) (i : Nat) : Prop := (i = 0 ∧ IsEnum h e it 0 .none) ∨ ∃ a f oa x, KEn h e it i x a f ∧ h.get? a = some oa ∧ a ≠ e ∧ a ≠ it ∧ a ≠ S
theorem KSt.keep {h h' : Heap} {e it S : Addr} {i : Nat} (x : KSt h e it S i) (k : ∀ b o, b ≠ S → h.get? b = some o → h'.get? b = some o) (he : e ≠ S) : KSt h' e it S i := by
  rcases x with ⟨h0, h1⟩ | ⟨a, f, oa, y, h1, h2, h3, h4, h5⟩
  · exact .inl ⟨h0, k _ _ he h1⟩
  · exact .inr ⟨a, f, oa, y, k _ _ he h1, k _ _ h5 h2, h3, h4, h5⟩
theorem fin {e it S : Addr} {fp : List Addr} {n i : Nat} {P : Nat → Value → Prop} {St : Nat → Heap → Prop} {Q : Option Value → Shared → Prop}
    (D : Draws prog w A.in1 it fp n P St) (he : KSt s.heap e it S i) (hst : St n s.heap)
    (hQ : ∀ h', Heap.ExtBut it s.heap h' → Q none { s with heap := h' }) : wpAny (model prog w) A (pyNext (.ref e)) Q E s := by
  have h2 : ∃ f0 f1 f3 f5, s.heap.get? e = some { cls := .type "enumerate", dict := none, data := .fields #[f0, f1, .ref it, f3, .none, f5], slots := #[] } := by
    rcases he with ⟨_, he⟩ | ⟨a, f, oa, y, he, _⟩
    · exact ⟨_, _, _, _, he⟩
    · exact ⟨_, _, _, _, he⟩
  obtain ⟨f0, f1, f3, f5, he⟩ := h2
  have hT : s.TypeIs (.ref e) "enumerate" := ⟨_, he, rfl⟩
  unfold pyNext
  refine wpAny_bind (wpAny_attempt (wpAny_callSpecial?_slot (name := Str.ofString "__next__") hT F.slot_enumerate_next
    (wpAny_call_entry F.slot_enumerate_next hT F.entry_enumerate_next ?_ (F.args_enumerate_next_1 _))))
  show wpAny _ _ (field (.ref e) 2 >>= _) _ _ _
  refine wpAny_bind (wpAny_field he rfl (x := .ref it) rfl ?_)
  refine wpAny_bind (D.done _ _ _ hst fun h' x he' hx' => ?_)
  obtain ⟨o, ho, hc⟩ := hx'
  refine wpAny_bind (wpAny_isInstance (T := "StopIteration") (b := true) ⟨o, ho, hc⟩ isSubtype_stop ?_)
  exact wpAny_pure (hQ _ he')
end
structure Made (its : Array Value) (lo : Addr) (h : Heap) (as : List Addr) : Prop where
  rise : as.Pairwise (· < ·)
  above : ∀ a ∈ as, lo < a
  pairs : ∀ (j : Nat) (a : Addr), as[j]? = some a → ∃ u t, its[j]? = some u ∧ h.get? a = some { cls := .type "tuple", data := .seq #[.int (j : Nat) t, u] }
theorem Made.low {its : Array Value} {lo lo' : Addr} {h : Heap} {as : List Addr} (g : Made its lo h as) (hl : lo' ≤ lo) : Made its lo' h as := ⟨g.rise, fun a ha => Nat.lt_of_le_of_lt hl (g.above a ha), g.pairs⟩
section
variable {prog : Program} {w : World} {A : Around} {s : Shared} {R : Result → Shared → Prop} {its : Array Value}
end
section
variable {prog : Program} {w : World} {A : Around} {E : Value → Shared → Prop} {s : Shared} {I it l : Addr} {its : Array Value}
end
end Gx.EnL
namespace Gx
open PySem PySem.Spec PyProof.Rows L2
open Rp (rp)
open Ra (ra)
open Ob (ob)
def tListEnum (X : Cx) (ta : TA) : TE := fun σ H Q => ta σ H fun vs H1 => ∃ a xs, vs = [.ref a] ∧ SqL X.K H1 a xs ∧ ∀ (H' : Hp) (p : Addr) (ts : List Addr), L2.Same H1 H' → H1 p = none → H' p = some (.lst (ts.map V.ref)) →
  ts.length = xs.length → (∀ (j : Nat) (t : Addr) (x : V), ts[j]? = some t → xs[j]? = some x → H' t = some (.tup [.int (j : Nat), x])) → Q (.ref p) H'
section
variable {X : Cx} {a e : Expr} {σ : L2.St} {F H : Hp} {pos : Pos} {α : Type} [Rp α]
end
end Gx
namespace Gx
open PySem PySem.Spec PyProof.Rows L2
open Rp (rp)
open Ra (ra)
open Ob (ob)
section
variable {X : Cx} {K : PySem.W.Frag} {e a b c d : Expr} {es : List Expr} {σ : L2.St} {F H F0 H0 : Hp} {pos : Pos} {D : Ends} {st : Stmt} {rest body : List Stmt} {α : Type} [Rp α] {t t' : List (List α)} {l l2 : Addr} {ex : List Addr}
def appG2 (t : List (List α)) (i : Int) (v : α) : Option (List (List α)) := match ixN t.length i with
  | none => none
  | some n => match t[n]? with
    | none => none
    | some r => (app r v).map fun w => t.set n w
end
end Gx
namespace Gx
open PySem PySem.Spec PyProof.Rows L2
open Rp (rp)
open Ra (ra)
open Ob (ob)
structure FznS {β : Type} [Rp β] [Ob β] (X : Cx) (H0 Fo Ho : Hp) (l : Addr) (Fs Hs : Hp) (x : β) : Prop where
  hn : ∀ o' u', X.H_0 l ≠ some (.frz o' u')
  n : H0 l = none
  f : Fo l = none
  e : ∃ od u, Ho l = some u ∧ Fs = upd Fo l (.frz od u) ∧ Hs = upd Ho l (.frz od u) ∧ ob X.K Fo u x
section
variable {X : Cx} {σ : L2.St} {F H F0 H0 Fo Ho Fs Hs : Hp} {D : Ends} {β : Type} [Rp β] [Ob β] {x : β} {l : Addr} {st : List Stmt}
end
end Gx
namespace Gx
open PySem PySem.Spec PyProof.Rows L2
open Rp (rp)
open Ra (ra)
open Ob (ob)
section
variable {X : Cx} {K : PySem.W.Frag} {e a b c d : Expr} {es : List Expr} {σ : L2.St} {F H F0 H0 : Hp} {pos : Pos} {D : Ends} {st : Stmt} {rest body : List Stmt}
def sSplit (x y : Str) : Option (List Str) := if x.length + 2 ≤ sizeLine ∧ (y.length == 0) = false then some (Txt.split x y) else none
def sWords (x : Str) : Option (List Str) := if x.length + 2 ≤ sizeLine then some (Txt.words x) else none
def sStripC (x y : Str) : Option Str := if x.length ≤ sizeLine then some (Txt.stripChars x y) else none
def sStrip (x : Str) : Option Str := if x.length ≤ sizeLine then some (Txt.strip x) else none
end
structure KdI (K : PySem.W.Frag) (w : World) (nm : Str) (kvs : List (Str × Int)) : Prop where
  d : ∃ es n, K.lookup (He.ga K nm) = some ⟨.type "dict", none, .dict es n, #[]⟩ ∧ PySem.W.KeysLit w.params es.toList ∧ (He.ga K nm == sysModules) = false
  ix : ∀ z, ∃ r : Option Value, PySem.W.nsIn K (He.ga K nm) z = some r ∧ (match kvLook kvs z with | none => r = none | some i => ∃ u, r = some u ∧ RelV (.int i) u)
inductive Kdt (nm : Str) | mk
instance {nm : Str} : Rp (Kdt nm) := ⟨fun K F v _ => v = .ref (He.ga K nm), fun _ h => h⟩
def kdGet (kvs : List (Str × Int)) (k : Str) : Option Int := kvLook kvs k
section
variable {X : Cx} {K : PySem.W.Frag} {e a b c d : Expr} {es : List Expr} {σ : L2.St} {F H F0 H0 : Hp} {pos : Pos} {D : Ends} {nm : Str} {kvs : List (Str × Int)}
theorem KdI.kd (k : KdI X.K X.w nm kvs) : ∃ es n, L2.KDict X.K X.w (He.ga X.K nm) es n := let ⟨es, n, h1, h2, h3⟩ := k.d; ⟨es, n, h1, h2, h3⟩
end
section
variable {X : Cx} {K : PySem.W.Frag} {e a b c d : Expr} {es : List Expr} {σ : L2.St} {F H F0 H0 : Hp} {pos : Pos} {D : Ends} {st : Stmt} {rest body : List Stmt} {τ φ θ : Type} [Ra φ] [Rw τ φ] {cn : Str} {ns : List Str} {P : θ → τ} {l : Addr} {ex : List Addr} {w w' w1 : θ}
theorem ers_upd {p : Addr} {u : HO} {S : List Addr} (h : p ∈ S) : ers (upd H p u) S = ers H S := by
  funext b
  by_cases m : b ∈ S
  · rw [ers_in m, ers_in m]
  · rw [ers_out m, ers_out m, upd_ne fun z => m (by rw [z]; exact h)]
theorem Gr.pokeS {S : List Addr} {F2 H2 : Hp} {p : Addr} {u : HO} (g : Gr F H F2 H2) (h : ∀ q ∈ S, F q = none ∧ PlL H q) (hp : p ∈ S) : Gr F (ers H S) F2 (ers (upd H2 p u) S) := by
  rw [ers_upd hp]
  exact g.erS fun q m => ⟨(h q m).1, (h q m).2⟩
theorem same_poke {F2 H2 : Hp} {p : Addr} {u : HO} (s : L2.Same F2 H2) (f : F2 p = none) : L2.Same F2 (upd H2 p u) := fun b o h => by
  rw [upd_ne fun z => by rw [z, f] at h; cases h]; exact s b o h
theorem AftR.at {y : θ} {F2 H2 : Hp} {p : Addr} {u : HO} (g : Gr F H F2 H2) (hp : H0 p = none ∧ F p = none ∧ PlL H p) (f2 : F2 p = none) (hx : ∀ b ∈ ex, b ≠ p) (o : OwR cn ns K H0 F2 (upd H2 p u) l ex (P y)) : AftR cn ns P K H0 F H l ex y F2 (upd H2 p u) :=
  ⟨⟨[p], fun q m => by rw [List.mem_singleton.mp m]; exact hp, fun b hb m => hx b hb (List.mem_singleton.mp m),
    (g.pokeS (u := u) (fun q m => by rw [List.mem_singleton.mp m]; exact hp.2) (.head _)).trans (Gr.startS (same_poke g.fh f2))⟩, o⟩
theorem AftR.rfl {y : θ} {F2 H2 : Hp} (o : OwR cn ns K H0 F H l ex (P y)) (g : Gr F H F2 H2) : AftR cn ns P K H0 F H l ex y F2 H2 := by
  refine ⟨⟨[], fun p m => (nomatch m), fun b _ m => (nomatch m), ?_⟩, o.up g⟩
  have : ers H [] = H := by
    funext b
    exact ers_out fun m => nomatch m
  rw [this]; exact g
theorem AftR.pre {y : θ} {F1 H1 F2 H2 : Hp} (g : Gr F H F1 H1) (a : AftR cn ns P K H0 F1 H1 l ex y F2 H2) : AftR cn ns P K H0 F H l ex y F2 H2 := by
  obtain ⟨S, h1, h2, h3⟩ := a.s
  refine ⟨⟨S.filter fun p => (H p).isSome, fun p m => ?_, fun b hb m => h2 b hb (List.mem_filter.mp m).1, ?_⟩, a.o⟩
  · obtain ⟨m1, m2⟩ := List.mem_filter.mp m
    obtain ⟨n1, n2, u, e1, e2, e3⟩ := h1 p m1
    obtain ⟨v, hv⟩ := Option.isSome_iff_exists.mp m2
    refine ⟨n1, ?_, ?_⟩
    · cases hf : F p with
      | none => exact Eq.refl _
      | some z => rw [g.ff _ _ hf] at n2; cases n2
    · cases v with
      | tbl ps =>
        obtain ⟨qs, hq⟩ := g.hh.t p ps hv
        rw [hq] at e1
        cases (Option.some.inj e1)
        exact (e3.ntb).elim
      | _ =>
        have := g.hh.k _ _ hv trivial
        rw [this] at e1
        cases (Option.some.inj e1)
        exact ⟨_, hv, e2, e3⟩
  · have e0 : ∀ q, q ∈ S → q ∉ S.filter (fun p => (H p).isSome) → H q = none := fun q m m' => by
      cases hq : H q with
      | none => exact Eq.refl _
      | some u => exact absurd (List.mem_filter.mpr ⟨m, by rw [hq]; rfl⟩) m'
    have e1 : ers H (S.filter fun p => (H p).isSome) = ers H S := by
      funext q
      by_cases m : q ∈ S
      · rw [ers_in m]
        by_cases m' : q ∈ S.filter (fun p => (H p).isSome)
        · exact ers_in m'
        · rw [ers_out m']; exact e0 q m m'
      · rw [ers_out m, ers_out fun m' => m (List.mem_filter.mp m').1]
    rw [e1]
    have g1 : Gr F (ers H S) F1 (ers H1 S) := by
      refine ⟨g.ff, same_ers g.fh fun q m => (h1 q m).2.1, ⟨fun b u e n => ?_, fun b ps e => ?_, fun Q q => ?_⟩, fun b u e n => ?_⟩
      · obtain ⟨m, e⟩ := ers_some e
        rw [ers_out m]; exact g.hh.k _ _ e n
      · obtain ⟨m, e⟩ := ers_some e
        rw [ers_out m]; exact g.hh.t _ _ e
      · exact (g.hh.w Q (Xt.w (.same fun a o h => (ers_some h).2) Q q)).ers fun q m => (h1 q m).2.2.pl
      · exact g.fr _ _ (ers_some e).2 n
    exact g1.trans h3
end
def setdG {κ ν : Type} [DecidableEq κ] (m : Dct κ ν) (k : κ) (v : ν) : Option (ν × Dct κ ν) := if m.l.length < sizeLine then some (match kvLook m.l k with | some x => (x, m) | none => (v, ⟨kvPut m.l k v⟩)) else none
section
variable {X : Cx} {K : PySem.W.Frag} {e f a b c d : Expr} {es : List Expr} {σ : L2.St} {F H F0 H0 : Hp} {pos : Pos} {D : Ends} {st : Stmt} {rest body : List Stmt} {τ φ θ : Type} [Ra φ] [Rw τ φ] {cn : Str} {ns : List Str} {P : θ → τ} {l : Addr} {ex : List Addr} {w w' w1 : θ}
def EtMR (cn : Str) (ns : List Str) (P : θ → τ) (X : Cx) (e : Expr) (σ : L2.St) (H0 F H : Hp) (l : Addr) (ex : List Addr) (r : Bool) (y : θ) : Prop := ∀ Q : Bool → Hp → Prop, (∀ F2 H2, AftR cn ns P X.K H0 F H l ex y F2 H2 → Q r H2) → GoT X e σ H Q
def EwMR (cn : Str) (ns : List Str) (P : θ → τ) (X : Cx) (e : Expr) (σ : L2.St) (H0 F H : Hp) (l : Addr) (ex : List Addr) (r : Bool) (y : θ) : Prop := ∀ Q : Bool → Hp → Prop, (∀ F2 H2, AftR cn ns P X.K H0 F H l ex y F2 H2 → Q r H2) → GoW X e σ H Q
theorem EwMR.cg {t r : Bool} {v y : θ} (e1 : t = r) (e2 : v = y) (h : EwMR cn ns P X e σ H0 F H l ex t v) : EwMR cn ns P X e σ H0 F H l ex r y := e1 ▸ e2 ▸ h
theorem EtMR.cg {t r : Bool} {v y : θ} (e1 : t = r) (e2 : v = y) (h : EtMR cn ns P X e σ H0 F H l ex t v) : EtMR cn ns P X e σ H0 F H l ex r y := e1 ▸ e2 ▸ h
theorem OwR.freeze {x : τ} {st : List Stmt} (o : OwR cn ns X.K H0 F H l ex x) (g : GrX X.K F0 H0 F H) (k : ∀ F' H', L2.Same F F' → L2.Same F' H' → GrX X.K F0 H0 F' H' → rpI cn ns X.K F' (.ref l) (Rw.fz x) → (∀ a ∈ ex, F' a = F a ∧ H' a = H a) → GoS X st D σ H') : GoS X st D σ H := by
  obtain ⟨fp, o⟩ := o.o
  obtain ⟨dx, vs, e, z, w⟩ := o.w
  obtain ⟨nl, nd⟩ := List.nodup_cons.mp o.nd
  refine Rw.th (J := fun F H => GrX X.K F0 H0 F H → GoS X st D σ H) (fun o s k g => o.freeze g fun F' H' s1 s2 g' r kk => k F' H' s1 s2 r kk g') w nd g.fh (fun F1 H1 s1 s2 r1 k1 g1 => ?_) g
  have kl := k1 l nl
  have h1 : H1 l = some (.ins (He.ga X.K cn) dx (ns.zip vs)) := kl.2.trans e
  have f1 : F1 l = none := kl.1.trans o.f
  have g2 := g1.freeze (o := .ins (He.ga X.K cn) dx (ns.zip vs)) o.n f1 ⟨_, h1, trivial⟩ trivial
  rw [upd_id h1] at g2
  refine k _ H1 (s1.trans (same_upd f1)) g2.fh g2 ⟨l, dx, vs, rfl, upd_same, Ra.mono (same_upd f1) r1⟩ fun b hb => ?_
  have hb := o.ex b hb
  have h1 := k1 b fun m => hb (List.mem_cons_of_mem _ m)
  have bl : b ≠ l := fun z => hb (by rw [z]; exact List.mem_cons_self)
  exact ⟨by rw [upd_ne bl]; exact h1.1, h1.2⟩
end
class RwNe (i j : Nat) (τ : Type) {φ : Type} [Ra φ] [Rw τ φ] : Prop where
  ne : ∀ {K : PySem.W.Frag} {H0 F H : Hp} {fp : List Addr} {vs : List V} {x : τ} {p q : Addr}, Rw.rw K H0 F H fp vs x → fp.Nodup → vs[i]? = some (.ref p) → vs[j]? = some (.ref q) → p ≠ q
theorem RwP.mem {i : Nat} {τ β φ : Type} [Rp β] [Ob β] [Ra φ] [Rw τ φ] [RwP i τ β] {K : PySem.W.Frag} {H0 F H : Hp} {fp : List Addr} {vs : List V} {x : τ} {p : Addr} (h : Rw.rw K H0 F H fp vs x) (hp : vs[i]? = some (.ref p)) : p ∈ fp := by
  obtain ⟨q, m, e, _⟩ := RwP.own (i := i) h
  rw [hp] at e
  injection (Option.some.inj e) with e
  rw [e]; exact m
instance {i : Nat} {α β τ φ : Type} [Rp α] [Ob α] [Rp β] [Ob β] [Ra φ] [Rw τ φ] [RwP i τ β] : RwNe 0 (i + 1) (Pv α × τ) := ⟨fun {K H0 F H fp vs x p q} ⟨p0, q0, r, e1, e2, o, w⟩ nd hp hq e => by
  subst e1; subst e2
  have h0 : p0 = p := by injection (Option.some.inj (show some (V.ref p0) = some (V.ref p) from hp))
  have h1 : q ∈ q0 := RwP.mem (i := i) w hq
  exact (List.nodup_cons.mp nd).1 (by rw [h0, e]; exact h1)⟩
instance {i : Nat} {α β τ φ : Type} [Rp α] [Ob α] [Rp β] [Ob β] [Ra φ] [Rw τ φ] [RwP i τ β] : RwNe (i + 1) 0 (Pv α × τ) := ⟨fun h nd hp hq e => RwNe.ne (i := 0) (j := i + 1) h nd hq hp e.symm⟩
instance {i j : Nat} {α τ φ : Type} [Rp α] [Ra φ] [Rw τ φ] [RwNe i j τ] : RwNe (i + 1) (j + 1) (α × τ) := ⟨fun ⟨v, r, e, h, w⟩ nd hp hq => by
  subst e
  exact RwNe.ne (i := i) (j := j) w nd hp hq⟩
instance {i j : Nat} {α τ φ : Type} [Rp α] [Ob α] [Ra φ] [Rw τ φ] [RwNe i j τ] : RwNe (i + 1) (j + 1) (Pv α × τ) := ⟨fun ⟨p0, q0, r, e1, e2, o, w⟩ nd hp hq => by
  subst e1; subst e2
  exact RwNe.ne (i := i) (j := j) w (List.nodup_cons.mp nd).2 hp hq⟩
section
variable {X : Cx} {K : PySem.W.Frag} {e f a b c d : Expr} {es : List Expr} {σ : L2.St} {F H F0 H0 : Hp} {pos : Pos} {D : Ends} {st : Stmt} {rest body : List Stmt} {τ φ θ : Type} [Ra φ] [Rw τ φ] {cn : Str} {ns : List Str} {P : θ → τ} {l : Addr} {ex : List Addr} {w w' w1 : θ}
end
section
variable {X : Cx} {K : PySem.W.Frag} {e a b c d : Expr} {es : List Expr} {σ : L2.St} {F H F0 H0 : Hp} {pos : Pos} {D : Ends} {st : Stmt} {rest body : List Stmt}
end
def GoE1 (X : Cx) (e : Expr) : TE := fun σ H Q => Bx (∀ pins s, 1 ≤ s.toks → Inv X pins σ H s → wpAny (model X.prog X.w) X.A (eval e X.env) (EP X pins σ Q) X.xe s)
def GoS1 (X : Cx) (st : List Stmt) : TS := fun D σ H => Bx (∀ pins s, 1 ≤ s.toks → Inv X pins σ H s → wpAny (model X.prog X.w) X.A (execs st X.env) (SP X pins D) X.xe s)
def sRepl (x y z : Str) : Option Str := if (y == z) = false ∧ x.length + (x.length + 1) * z.length ≤ 16777216 then some (Txt.replace x y z) else none
section
variable {X : Cx} {K : PySem.W.Frag} {e f a b c d : Expr} {es : List Expr} {σ : L2.St} {F H F0 H0 : Hp} {pos : Pos} {D : Ends} {st : Stmt} {rest body : List Stmt} {τ φ θ : Type} [Ra φ] [Rw τ φ] {cn : Str} {ns : List Str} {P : θ → τ} {l : Addr} {ex : List Addr} {w w' w1 : θ}
end
def wPut (w : World) (f : String → Bool) : World := { w with params := { w.params with followText := f } }
def fTx (f : String → Bool) (b : Bool) : String → Bool := fun s => if s = "special-get-raises" then b else f s
def wSet (w : World) (b : Bool) : World := wPut w (fTx w.params.followText b)
section
variable {X : Cx} {K : PySem.W.Frag} {e a b c d : Expr} {es : List Expr} {σ : L2.St} {F H F0 H0 : Hp} {pos : Pos} {D : Ends} {st : Stmt} {rest body : List Stmt}
end
end Gx
namespace Gx
open PySem PySem.Spec PyProof.Rows L2
open Rp (rp)
open Ra (ra)
open Ob (ob)
def bkB (K : PySem.W.Frag) : Bool := match PySem.W.nsIn K cStatics sharingNotToldKey with
  | some none => true
  | _ => false
def Bkd (K : PySem.W.Frag) : Prop := PySem.W.nsIn K cStatics sharingNotToldKey = some none
theorem Bkd.none {X : Cx} {pins : List (Addr × Obj)} {σ : L2.St} {H : Hp} {s : Shared} (b : Bkd X.K) (I : Inv X pins σ H s) : NoneBooked s.heap := by
  obtain ⟨mc, hn, _⟩ := I.nolimit
  exact ⟨mc, hn, PySem.W.ns_none_of I.kIn hn b⟩
def asB (g : Addr → Option Obj) (n : Nat) : List Addr := He.asD g n ++ [cStatics]
def obsB (n : Nat) (fa : List He.Fa) (fn : List He.DefD) (ts : List He.Tab) (ex : PySem.W.Frag → Bool) (g : Addr → Option Obj) : He.AlX := (He.obsT fa fn ts (He.frT g (asB g n)), ex (He.frT g (asB g n)))
theorem saysB_of {n : Nat} {fa : List He.Fa} {fn : List He.DefD} {ts : List He.Tab} {ex : PySem.W.Frag → Bool} {w : World} {h : Heap} (e : obsB n fa fn ts ex h.get? = He.valX fn ts w) : He.SaysX fa fn ts [] ex w h (He.frT h.get? (asB h.get? n)) :=
  ⟨congrArg (fun z : He.AlX => z.1) e, congrArg (fun z : He.AlX => z.2) e, fun p hp => (List.not_mem_nil hp).elim, fun p hp => (List.not_mem_nil hp).elim, fun p hp => (List.not_mem_nil hp).elim⟩
def hookB (n : Nat) (fa : List He.Fa) (fn : List He.DefD) (ts : List He.Tab) (ex : PySem.W.Frag → Bool) : PySem.W.Hook where
  α := He.AlX
  obs := fun s => obsB n fa fn ts ex s.heap.get?
  val := fun w => He.valX fn ts w
  says := fun w h => ∃ K : PySem.W.Frag, K.In h ∧ He.SaysX fa fn ts [] ex w h K
  of := fun _ _ e => ⟨_, He.frT_in, saysB_of e⟩
  keeps := fun _ _ _ ⟨K, hK, c⟩ k => ⟨K, PySem.W.Frag.In.keeps hK k, ⟨c.t, c.more, c.hd, c.out, fun p hp => k _ _ (c.empty p hp)⟩⟩
def sReplM (x y z : Str) (n : Int) : Option Str := if 1 ≤ n ∧ n ≤ 1000 ∧ z.length ≤ 1000 ∧ x.length + (x.length + 1) * (Txt.mul z n).length ≤ 16777216 then some (Txt.replace x y (Txt.mul z n)) else none
section
variable {X : Cx} {K : PySem.W.Frag} {e f a b c d : Expr} {es : List Expr} {σ : L2.St} {F H F0 H0 : Hp} {pos : Pos} {D : Ends} {st : Stmt} {rest body : List Stmt}
end
section
variable {X : Cx} {e : Expr} {σ : L2.St} {F H : Hp} {α γ : Type} [Rp α] [Rp γ] {x : α} {ys : List γ} {cn n1 n2 : Str}
theorem EvRN.ev {β : Type} [Rp β] {z : β} (h : EvRN cn n1 n2 X e σ F H x ys) (full : ∀ F' u, rpI cn [n1, n2] X.K F' u ((x, ys, ()) : α × List γ × Unit) → rp X.K F' u z) : Ev X e σ F H z := fun F1 H1 g Q q =>
  GoE.lock (Q' := fun v H2 => ∃ l o F2, CR cn n1 n2 X.K F2 v l x ∧ Gr F1 H1 F2 H2 ∧ H1 l = none ∧ F2 l = none ∧ H2 l = some o ∧ ob X.K F2 o ys) (h F1 H1 g _ fun u l o F2 H2 g2 n2 f2 h2 r2 c2 => ⟨l, o, F2, c2, g2, n2, f2, h2, r2⟩)
    fun v H2 ⟨l, o, F2, c2, g2, n2, f2, h2, r2⟩ => ⟨l, o, h2, Ob.mu r2, fun od =>
      q _ (upd F2 l (.frz od o)) _ (g2.freeze n2 f2 ⟨o, h2, Ob.pl r2⟩) (full _ _ ((c2.mono (same_upd f2)).rp (Ob.fz upd_same (Ob.mono (same_upd f2) r2))))⟩
end
open Builtin in
section
variable {X : Cx} {K : PySem.W.Frag} {e f a b c d : Expr} {es : List Expr} {σ : L2.St} {F H F0 H0 : Hp} {pos : Pos} {D : Ends} {st : Stmt} {rest body : List Stmt}
end
end Gx
namespace Gx
open PySem PySem.Spec PyProof.Rows L2
open Rp (rp)
open Ra (ra)
open Ob (ob)
open Xk (xr)
section
variable {X : Cx} {K : PySem.W.Frag} {e a b c d : Expr} {es : List Expr} {σ : L2.St} {F H F0 H0 : Hp} {pos : Pos} {D : Ends} {st : Stmt} {rest body : List Stmt} {τ φ θ ε : Type} [Ra φ] [Rw τ φ] [Xk ε] {cn : Str} {ns : List Str} {P : θ → τ} {l : Addr} {ex : List Addr} {w w' : θ} {W : WX}
def PrRE (cn : Str) (ns : List Str) (P : θ → τ) (K : PySem.W.Frag) {τ1 τ2 ρ : Type} [Ra τ1] [Ra τ2] [Rp ρ] (f : τ1 → θ → τ2 → Option (Rs ε ρ × θ)) : Sp := fun vs H Q E => ∃ F ws1 l ws2 fp a1 x a2 r, vs = ws1 ++ .ref l :: ws2 ∧ SmX K F H ∧ ra K F ws1 a1 ∧ ra K F ws2 a2 ∧ OwnR cn ns K (ers H (l :: fp)) F H l fp [] (P x) ∧ f a1 x a2 = some r ∧
  (∀ z, r.1 = .v z → ∀ F' H' u, Gr F (ers H (l :: fp)) F' H' → OwR cn ns K (ers H (l :: fp)) F' H' l [] (P r.2) → rp K F' u z → Q u H') ∧
  (∀ y, r.1 = .x y → ∀ F' H' cls dd, Gr F (ers H (l :: fp)) F' H' → OwR cn ns K (ers H (l :: fp)) F' H' l [] (P r.2) → xr K F' H' cls dd y → E cls dd H')
def EvXR {ρ : Type} [Rp ρ] (cn : Str) (ns : List Str) (P : θ → τ) (X : Cx) (W : WX) (e : Expr) (σ : L2.St) (H0 F H : Hp) (l : Addr) (ex : List Addr) (o : Rs ε ρ) (y : θ) : Prop := ∀ Q : VK, (∀ z, o = .v z → ∀ u F2 H2, AftR cn ns P X.K H0 F H l ex y F2 H2 → rp X.K F2 u z → Q u H2) →
  (∀ z, o = .x z → ∀ F2 H2 cls dd, AftR cn ns P X.K H0 F H l ex y F2 H2 → xr X.K F2 H2 cls dd z → W cls dd σ H2) → GoE X e σ H Q
theorem EvXR.ok {ρ : Type} [Rp ρ] {r : ρ} {y : θ} (h : EvXR (ε := ε) cn ns P X W e σ H0 F H l ex (.v r) y) : EvMR cn ns P X e σ H0 F H l ex r y := fun Q q => h Q (fun z e => by cases e; exact q) fun z e => nomatch e
def RzR (X : Cx) (e : Expr) (σ : L2.St) (H : Hp) : Prop := ∀ Q : VK, GoE X e σ H Q
theorem EvXR.rz {ρ : Type} [Rp ρ] {z : ε} {y : θ} (h : EvXR (ρ := ρ) cn ns P X W e σ H0 F H l ex (.x z) y) (k : ∀ F2 H2 cls dd, AftR cn ns P X.K H0 F H l ex y F2 H2 → xr X.K F2 H2 cls dd z → W cls dd σ H2) : RzR X e σ H := fun Q => h Q (fun r e => nomatch e) fun z' e => by cases e; exact k
end
end Gx
namespace Gx
open PySem PySem.Spec PyProof.Rows L2
open Rp (rp)
open Ra (ra)
open Ob (ob)
section
variable {X : Cx} {K : PySem.W.Frag} {e a b c d : Expr} {es : List Expr} {σ : L2.St} {F H F0 H0 Hl : Hp} {pos : Pos} {D : Ends} {st : Stmt} {rest body : List Stmt} {P : Program} {w : World} {mg : Str → Option Value} {base : Heap} {Z : List Env → Shared → Hp → Prop} {l : Addr}
theorem en_meth0 {α ρ : Type} [Rp α] [Rp ρ] [Ob ρ] {x : α} {f : α × Unit → Option ρ} {r : ρ} {cn m : Str} {names : List Str} {k : Nat} {fa : Addr} {fd : FuncData} {ps : List Str} {apos : Pos} {pl : Sem Bool} (hx : ∀ F v, rp X.K F v x → ∃ a dx vs, v = .ref a ∧ F a = some (.ins (He.ga X.K cn) dx (names.zip vs))) (hn : m ∉ names) (cl : Cls X.K (He.ga X.K cn)) (me : Meth X.K (He.ga X.K cn) m fa)
    (Fn : FnOk X.prog X.w X.K X.mg X.base CX0 k fa fd ps (PrN X.K f)) (hr : Room k X.A) (hb : Binds X.K fd ps []) (ha : Ev X a σ F H x) (h : f (x, ()) = some r)
    (ht : eval (.Call (.Attribute a m apos) [] [] pos) X.env = (do
      let ov ← eval a X.env
      standAt apos.atName
      let (f, first) ← holding [ov] (getMethod ov m pl)
      callWith pos f first (backTo pos (starEach [] X.env)) (backToKw pos (keywordEach [] X.env))) := by rfl) : EvN X (.Call (.Attribute a m apos) [] [] pos) σ F H r := fun F1 H1 g Q q =>
  GoE.of (pe_meth0 pe_go cl me Fn hr hb .nil pass0 ht) (ha F1 H1 g _ fun v F2 H2 g2 r2 => by
    obtain ⟨z, dx, vs, e, hF⟩ := hx F2 v r2
    subst e
    exact ⟨z, dx, _, rfl, g2.fh _ _ hF, zip_none hn, F2, (x, ()), r, (g.trans g2).sm, ⟨_, [], rfl, r2, rfl⟩, h, fun l o F3 H3 g3 n3 f3 h3 r3 => q l o F3 H3 (g2.trans g3) (g2.hh.free n3) f3 h3 r3⟩)
def PrL (K : PySem.W.Frag) (l : Addr) {τ β ρ : Type} [Ra τ] [Rp β] [Ob β] [Rp ρ] (f : τ → β → Option (ρ × β)) : Sp := fun vs H Q _ => ∃ F o a x r, SmX K F H ∧ ra K F vs a ∧ F l = none ∧ H l = some o ∧ ob K F o x ∧ f a x = some r ∧
  ∀ F' H' u o', Gr F (er H l) F' H' → F' l = none → H' l = some o' → ob K F' o' r.2 → rp K F' u r.1 → Q u H'
theorem fn_okZL {τ β ρ : Type} [Ra τ] [RaN τ] [Rp β] [Ob β] [Rp ρ] {f : τ → β → Option (ρ × β)} {x qual : Str} {s0 : Stmt} {pp : Str × Option Str} {fd : FuncData} {N ps : List Str} {k : Nat} (Fn : FunD K x qual (defArgs s0) (defBody s0) (defScope s0) [] [] (He.fAd K pp) fd) (S : FnScope N ps (defScope s0)) (hn : RaN.n τ = ps.length)
    (hbody : ∀ (cdv : Value) (A : Around) (outer : List Env) (s : Shared) (F H0 H : Hp) (vs : List V) (a : τ) (x : β) (r : ρ × β) (D : Ends) (E : XK), cdv = .ref (He.codeOf K pp) → Room k (A.deeper (envOfC qual (defScope s0) s.heap.objs.size (He.fAd K pp) cdv)) → Z outer s H → GrX K F H0 F H → Own K H0 F H l x → ra K F vs a → f a x = some r →
      (∀ F' H' u o', GrX K F H0 F' H' → F' l = none → H' l = some o' → ob K F' o' r.2 → rp K F' u r.1 → D.rt u H') → (∀ σ' F' H' o', GrX K F H0 F' H' → F' l = none → H' l = some o' → ob K F' o' r.2 → rp K F' .non r.1 → D.nx σ' H') → GoS (cxOf CX0 P w K mg base N qual (defScope s0) (He.fAd K pp) cdv A outer s H E).nox (defBody s0) D (start N vs) H) :
    FnOkZ Z P w K mg base CX0 (k + 1) (He.fAd K pp) fd ps (PrL K l f) :=
  okZ Fn S (fun vs H Q E ⟨F, o, a, x, r, _, ra', _⟩ => by rw [RaN.len ra', hn]) fun cdv A outer s H vs Q E hcd hr z ⟨F, o, a, x, r, sm, ra', fl, hl, bo, hf, k⟩ =>
    (hbody cdv A outer s F (er H l) H vs a x r _ E hcd hr z ⟨Gr.start sm.s fl ⟨o, hl, Ob.pl bo⟩, sm.h⟩ ⟨er_same, fl, o, hl, bo⟩ ra' hf (fun F' H' u o' g f h b q => k F' H' u o' g.toGr f h b q) fun σ' F' H' o' g f h b q => k F' H' .non o' g.toGr f h b q).nox
variable {τ β ρ : Type} [Ra τ] [Rp β] [Ob β] [Rp ρ] {x : Fnv (τ × β) (ρ × β)}
def PrFL (K : PySem.W.Frag) (l : Addr) (x : Fnv (τ × β) (ρ × β)) : List (Option V) → Sp := fun ws vs H Q _ => ws = x.ws ∧ ∃ F o a st r, SmX K F H ∧ x.R K F ∧ ra K F vs a ∧ F l = none ∧ H l = some o ∧ ob K F o st ∧ x.fn (a, st) = some r ∧
  ∀ F' H' u o', Gr F (er H l) F' H' → F' l = none → H' l = some o' → ob K F' o' r.2 → rp K F' u r.1 → Q u H'
def NokFL (P : Program) (w : World) (K : PySem.W.Frag) (mg : Str → Option Value) (base : Heap) (l : Addr) (k : Nat) (x : Fnv (τ × β) (ρ × β)) : Prop := ∃ ps : List Str, NdefX.NOk P w K mg base CX0 k x.f x.g ps x.fr (PrFL K l x)
theorem nokFL [RaN τ] {N ps : List Str} {k : Nat} (S : NdefX.NScope N ps x.fr x.g.scope) (hn : RaN.n τ = ps.length)
    (hb : ∀ (doc pm ctv : Value) (us : List Value), us.length = ps.length → bindArgs (x.g.fd doc pm ctv) ⟨us, []⟩ = pure (ps.zip us))
    (hbody : ∀ (A : Around) (outer : List Env) (s : Shared) (F H0 H : Hp) (vs : List V) (a : τ) (st : β) (r : ρ × β) (D : Ends) (E : XK), Room k (A.deeper (NdefX.envF x.g x.f s.heap.objs.size)) → GrX K F H0 F H → Own K H0 F H l st → x.R K F → ra K F vs a → x.fn (a, st) = some r → (∀ F' H' u o', GrX K F H0 F' H' → F' l = none → H' l = some o' → ob K F' o' r.2 → rp K F' u r.1 → D.rt u H') →
      (∀ σ' F' H' o', GrX K F H0 F' H' → F' l = none → H' l = some o' → ob K F' o' r.2 → rp K F' .non r.1 → D.nx σ' H') → GoS (NdefX.ncx CX0 P w K mg base N x.g x.f A outer s H E).nox x.g.body D (NdefX.startF N vs x.ws) H) : NokFL P w K mg base l (k + 1) x :=
  ⟨ps, NdefX.nok_of S hb (fun ws vs H Q E ⟨_, F, o, a, st, r, _, _, ra', _⟩ => by rw [RaN.len ra', hn]) fun A outer s H vs ws Q E hr _ _ _ ⟨ew, F, o, a, st, r, sm, hR, ra', fl, hl, bo, hf, k⟩ => by
    subst ew
    exact ⟨_, PSs.nox pss_go, hbody A outer s F (er H l) H vs a st r { nx := fun _ H' => Q .non H', rt := Q } E hr ⟨Gr.start sm.s fl ⟨o, hl, Ob.pl bo⟩, sm.h⟩ ⟨er_same, fl, o, hl, bo⟩ hR ra' hf (fun F' H' u o' g f h b q => k F' H' u o' g.toGr f h b q) fun σ' F' H' o' g f h b q => k F' H' .non o' g.toGr f h b q⟩⟩
theorem NokFL.mono {j k : Nat} (o : NokFL P w K mg base l j x) (h : j ≤ k) : NokFL P w K mg base l k x := let ⟨ps, o⟩ := o; ⟨ps, NdefX.NOk.mono o h⟩
theorem Mkf.er {τ1 ρ1 : Type} {x : Fnv τ1 ρ1} {H : Hp} (m : Mkf x H) (pl : PlAt H l) : Mkf x (er H l) := by
  obtain ⟨o, ho, po⟩ := pl
  refine ⟨?_, ?_⟩
  · rw [er_ne fun z => ?_]; exact m.f
    have := m.f
    rw [z, ho] at this
    have e := Option.some.inj this
    rw [e] at po; exact po
  · rw [er_ne fun z => ?_]; exact m.c
    have := m.c
    rw [z, ho] at this
    have e := Option.some.inj this
    rw [e] at po; exact po
theorem ClF.er {τ1 ρ1 : Type} {x : Fnv τ1 ρ1} {v : V} (h : ClF x K F H v) (pl : PlAt H l) : ClF x K F (er H l) v := ⟨h.r, h.m.er pl⟩
theorem Mkf.poke {τ1 ρ1 : Type} {x : Fnv τ1 ρ1} {H : Hp} {u : HO} (m : Mkf x H) (pl : PlAt H l) : Mkf x (upd H l u) := by
  have m2 := m.er pl
  have key : ∀ b o, Gx.er H l b = some o → upd H l u b = some o := fun b o h => by
    by_cases z : b = l
    · rw [z, er_same] at h; cases h
    · rw [er_ne z] at h
      unfold upd; rw [if_neg z]; exact h
  exact ⟨key _ _ m2.f, key _ _ m2.c⟩
theorem ClF.poke {τ1 ρ1 : Type} {x : Fnv τ1 ρ1} {v : V} {u : HO} (h : ClF x K F H v) (pl : PlAt H l) : ClF x K F (upd H l u) v := ⟨h.r, h.m.poke pl⟩
theorem eu_callCL {j k : Nat} {n : Str} {p : Pos} {v : V} {y : τ} {st : β} {r : ρ × β} (i : Nat) (Fn : NokFL X.prog X.w X.K X.mg X.base l k x) (hr : Room j X.A) (hk : k ≤ j) (hσ : σ[i]? = some (some v)) (hv : ClF x X.K F Hl v) (hc : ClA X σ x) (ha : EvA X (e :: es) σ F Hl y) (h : x.fn (y, st) = some r) (hN : X.N[i]? = some n := by rfl)
    (hvis : Vis X.env.scope n := by first | exact Or.inl rfl | exact Or.inr (Or.inl rfl) | exact Or.inr (Or.inr rfl)) (hd : (n == ("__debug__" : Str)) = false := by decide) (hcd : (n == ("__classdict__" : Str)) = false := by decide)
    (he : starEach (e :: es) X.env = (false, eval e X.env) :: starEach es X.env := by rfl) (hpl : (backTo pos (starEach es X.env)).any (·.1) = false := by rfl) : EvU X (.Call (.Name n p) (e :: es) [] pos) σ F Hl l st r.1 r.2 := fun F1 H1 o g f1 h1 bo Q q => by
  have gw := g.wide ⟨_, h1, Ob.pl bo⟩
  have hv1 := hv.up gw.toGr
  refine GoE.callG (S := PrFL X.K l x) (P1 := fun vs H2 => Mkf x H2 ∧ PrFL X.K l x x.ws vs H2 Q fun _ _ _ => False) Fn hr hk hσ hv1.r.1 hv1.m hc (ha F1 H1 gw _ fun vs F2 H2 g2 r2 => ?_) (fun _ _ z => z) hN hvis hd hcd he hpl
  have hv2 := hv1.up g2
  have gb := g2.both f1 h1 (Ob.ls bo) (Ob.pl bo)
  have f2 : F2 l = none := (g2.fr l o h1 (Ob.ls bo)).trans f1
  have h2 : H2 l = some o := g2.hh.k _ _ h1 (Ob.pl bo).ntb
  exact ⟨hv2.m, rfl, F2, o, y, st, r, (gw.trans g2).sm, hv2.r.2, r2, f2, h2, Ob.mono g2.ff bo, h, fun F3 H3 u o3 g3 f3 h3 b3 r3 => q u F3 H3 o3 (gb.trans (g3.ere0 f3 er_same ⟨_, h3, Ob.pl b3⟩)) f3 h3 b3 r3⟩
theorem eu_methZL {α τ2 β2 ρ2 τ1 ρ1 : Type} [Rp α] [Ra τ2] [Rp β2] [Ob β2] [Rp ρ2] {fv : Fnv τ1 ρ1} {x : α} {y : τ2} {st : β2} {f : α × τ2 → β2 → Option (ρ2 × β2)} {r : ρ2 × β2} {cn m : Str} {names : List Str} {k : Nat} {fa : Addr} {fd : FuncData} {ps : List Str} {apos : Pos} {pl : Sem Bool} {v : V} (hx : ∀ F v, rp X.K F v x → ∃ a dx vs, v = .ref a ∧ F a = some (.ins (He.ga X.K cn) dx (names.zip vs))) (hn : m ∉ names) (cl : Cls X.K (He.ga X.K cn)) (me : Meth X.K (He.ga X.K cn) m fa)
    (Fn : FnOkZ (ZC fv) X.prog X.w X.K X.mg X.base CX0 k fa fd ps (PrL X.K l f)) (hr : Room k X.A) (hb : Binds X.K fd ps []) (hv : ClF fv X.K F Hl v) (hc : ClA X σ fv) (ha : Ev X a σ F Hl x) (hy : EvA X (e :: es) σ F Hl y) (h : f (x, y) st = some r)
    (hs : starEach (e :: es) X.env = (false, eval e X.env) :: starEach es X.env) (hpl : (backTo pos (starEach es X.env)).any (·.1) = false)
    (ht : eval (.Call (.Attribute a m apos) (e :: es) [] pos) X.env = (do
      let ov ← eval a X.env
      standAt apos.atName
      let (f, first) ← holding [ov] (getMethod ov m pl)
      callWith pos f first (backTo pos (starEach (e :: es) X.env)) (backToKw pos (keywordEach [] X.env)))) : EvU X (.Call (.Attribute a m apos) (e :: es) [] pos) σ F Hl l st r.1 r.2 := fun F1 H1 o g f1 h1 bo Q q => .mk fun pins s I => by
  have gw := g.wide ⟨_, h1, Ob.pl bo⟩
  refine PySem.W.methodCall_KW (pl := pl) (thn ((ha F1 H1 gw (fun w H2 => ∃ z dx ws, w = .ref z ∧ H2 z = some (.ins (He.ga X.K cn) dx (names.zip ws)) ∧ GoA X (e :: es) σ H2 (fun vs H3 => PrL X.K l f (.ref z :: vs) H3 Q (fun _ _ _ => False) ∧ ∀ pins s, Inv X pins σ H3 s → ZC fv X.stack s H3)) fun w F2 H2 g2 r2 => ?_).o pins s I) fun u s1 ⟨w, H2, I1, rx, z, dx, ws, ew, ez, q1⟩ => ?_) ht
  · obtain ⟨z, dx, ws, e1, hF⟩ := hx F2 w r2
    subst e1
    refine ⟨z, dx, ws, rfl, g2.fh _ _ hF, hy F2 H2 (gw.trans g2) _ fun vs F3 H3 g3 r3 => ?_⟩
    have g23 := g2.trans g3
    have gb := g23.both f1 h1 (Ob.ls bo) (Ob.pl bo)
    refine ⟨⟨F3, o, (x, y), st, r, (gw.trans g23).sm, ⟨_, vs, rfl, Rp.mono g3.ff r2, r3⟩, (g23.fr l o h1 (Ob.ls bo)).trans f1, g23.hh.k _ _ h1 (Ob.pl bo).ntb, Ob.mono g23.ff bo, h, fun F4 H4 u o4 g4 f4 h4 b4 r4 => q u F4 H4 o4 (gb.trans (g4.ere0 f4 er_same ⟨_, h4, Ob.pl b4⟩)) f4 h4 b4 r4⟩, fun pins s I => ?_⟩
    exact ⟨(hv.up (gw.trans g23).toGr).m, (hc pins H3 s I).1, (hc pins H3 s I).2⟩
  · subst ew
    obtain rfl : u = Value.ref z := rx
    refine getmeth_ok I1 ez cl me (zip_none hn) ?_
    refine PySem.W.callWith_K (first := [.ref z]) (h₀ := X.base) I.ok.mod.kin me.kp (thn (q1.o pos pins s1 I1) fun us s2 ⟨vs, H3, I3, r3, q2, qz⟩ => ⟨I3.kIn, ?_⟩) hs hpl
    exact run_fnZ (us := .ref z :: us) (vs := .ref z :: vs) Fn hr hb I3 (.cons rfl r3) q2 (qz _ _ I3)
end
end Gx
namespace Law
open PySem PySem.Spec PyProof.Rows L2 Gx
open Rp (rp)
open Ra (ra)
def top (i : Nat) : Stmt := PySem.Challenge.pw_furrow_k13_cells_from_left_to_right.main.body.getD i (.Pass ⟨0, 0, 0, 0⟩)
abbrev s_cell_at : Stmt := top 8
abbrev s_stream : Stmt := top 10
abbrev s_names : Stmt := top 11
abbrev s_number : Stmt := top 12
abbrev s_values : Stmt := top 17
abbrev s_held : Stmt := top 13
abbrev s_law_held_here : Stmt := (defBody (top 20)).getD 5 (.Pass ⟨0, 0, 0, 0⟩)
abbrev s_Number_init : Stmt := inClass (top 3) 0
abbrev s_Value_init : Stmt := inClass (top 4) 0
abbrev s_Cell_init : Stmt := inClass (top 5) 0
abbrev s_leaf : Stmt := top 14
abbrev s_Joined_init : Stmt := inClass (top 6) 0
abbrev s_both : Stmt := top 15
abbrev s_tree : Stmt := top 16
abbrev s_alike : Stmt := top 18
abbrev s_placed : Stmt := top 1
abbrev s_Number_worth : Stmt := inClass (top 3) 1
abbrev s_Value_worth : Stmt := inClass (top 4) 1
abbrev s_Cell_worth : Stmt := inClass (top 5) 1
abbrev s_Joined_worth : Stmt := inClass (top 6) 1
abbrev s_whole : Stmt := top 9
abbrev s_places : Stmt := top 19
abbrev s_Number_reads : Stmt := inClass (top 2) 1
abbrev s_Value_reads : Stmt := inClass (top 2) 1
abbrev s_Cell_reads : Stmt := inClass (top 5) 2
abbrev s_Joined_reads : Stmt := inClass (top 6) 2
abbrev s_law : Stmt := top 20
namespace Run
def D_cell_at : He.DefD := ⟨("_law_cell_at", none), "_law_cell_at", "_law_cell_at", defArgs s_cell_at, defBody s_cell_at, defScope s_cell_at, [], []⟩
def D_stream : He.DefD := ⟨("_law_stream", none), "_law_stream", "_law_stream", defArgs s_stream, defBody s_stream, defScope s_stream, [], []⟩
def D_names : He.DefD := ⟨("_law_names", none), "_law_names", "_law_names", defArgs s_names, defBody s_names, defScope s_names, [], []⟩
def D_number : He.DefD := ⟨("_law_number", none), "_law_number", "_law_number", defArgs s_number, defBody s_number, defScope s_number, [], []⟩
def D_values : He.DefD := ⟨("_law_values", none), "_law_values", "_law_values", defArgs s_values, defBody s_values, defScope s_values, [], []⟩
def D_held : He.DefD := ⟨("_law_held", none), "_law_held", "_law_held", defArgs s_held, defBody s_held, defScope s_held, [], []⟩
def D_Number_init : He.DefD := ⟨("Number", some "__init__"), "__init__", "Number.__init__", defArgs s_Number_init, defBody s_Number_init, defScope s_Number_init, [], []⟩
def D_Value_init : He.DefD := ⟨("Value", some "__init__"), "__init__", "Value.__init__", defArgs s_Value_init, defBody s_Value_init, defScope s_Value_init, [], []⟩
def D_Cell_init : He.DefD := ⟨("Cell", some "__init__"), "__init__", "Cell.__init__", defArgs s_Cell_init, defBody s_Cell_init, defScope s_Cell_init, [], []⟩
def D_leaf : He.DefD := ⟨("_law_leaf", none), "_law_leaf", "_law_leaf", defArgs s_leaf, defBody s_leaf, defScope s_leaf, [], []⟩
def D_Joined_init : He.DefD := ⟨("Joined", some "__init__"), "__init__", "Joined.__init__", defArgs s_Joined_init, defBody s_Joined_init, defScope s_Joined_init, [], []⟩
def D_both : He.DefD := ⟨("_law_both", none), "_law_both", "_law_both", defArgs s_both, defBody s_both, defScope s_both, [], []⟩
def D_tree : He.DefD := ⟨("_law_tree", none), "_law_tree", "_law_tree", defArgs s_tree, defBody s_tree, defScope s_tree, [], []⟩
def D_alike : He.DefD := ⟨("_law_alike", none), "_law_alike", "_law_alike", defArgs s_alike, defBody s_alike, defScope s_alike, [], []⟩
def D_placed : He.DefD := ⟨("placed", none), "placed", "placed", defArgs s_placed, defBody s_placed, defScope s_placed, [], []⟩
def D_Number_worth : He.DefD := ⟨("Number", some "worth"), "worth", "Number.worth", defArgs s_Number_worth, defBody s_Number_worth, defScope s_Number_worth, [], []⟩
def D_Value_worth : He.DefD := ⟨("Value", some "worth"), "worth", "Value.worth", defArgs s_Value_worth, defBody s_Value_worth, defScope s_Value_worth, [], []⟩
def D_Cell_worth : He.DefD := ⟨("Cell", some "worth"), "worth", "Cell.worth", defArgs s_Cell_worth, defBody s_Cell_worth, defScope s_Cell_worth, [], []⟩
def D_Joined_worth : He.DefD := ⟨("Joined", some "worth"), "worth", "Joined.worth", defArgs s_Joined_worth, defBody s_Joined_worth, defScope s_Joined_worth, [], []⟩
def D_whole : He.DefD := ⟨("_law_whole", none), "_law_whole", "_law_whole", defArgs s_whole, defBody s_whole, defScope s_whole, [], []⟩
def D_places : He.DefD := ⟨("_law_places", none), "_law_places", "_law_places", defArgs s_places, defBody s_places, defScope s_places, [], []⟩
def D_Number_reads : He.DefD := ⟨("Number", some "reads"), "reads", "Term.reads", defArgs s_Number_reads, defBody s_Number_reads, defScope s_Number_reads, [], []⟩
def D_Value_reads : He.DefD := ⟨("Value", some "reads"), "reads", "Term.reads", defArgs s_Value_reads, defBody s_Value_reads, defScope s_Value_reads, [], []⟩
def D_Cell_reads : He.DefD := ⟨("Cell", some "reads"), "reads", "Cell.reads", defArgs s_Cell_reads, defBody s_Cell_reads, defScope s_Cell_reads, [], []⟩
def D_Joined_reads : He.DefD := ⟨("Joined", some "reads"), "reads", "Joined.reads", defArgs s_Joined_reads, defBody s_Joined_reads, defScope s_Joined_reads, [], []⟩
def D_law : He.DefD := ⟨("law", none), "law", "law", defArgs s_law, defBody s_law, defScope s_law, [], []⟩
def fn : List He.DefD := [D_cell_at, D_stream, D_names, D_number, D_values, D_held, D_Number_init, D_Value_init, D_Cell_init, D_leaf, D_Joined_init, D_both, D_tree, D_alike, D_placed, D_Number_worth, D_Value_worth, D_Cell_worth, D_Joined_worth, D_whole, D_places, D_Number_reads, D_Value_reads, D_Cell_reads, D_Joined_reads, D_law]
def fa : List He.Fa := [.glo "_law_cell_at", .glo "_law_stream", .glo "_law_names", .glo "_law_number", .glo "_law_values", .glo "_law_held", .glo "_law_leaf", .glo "_law_both", .glo "_law_tree", .glo "_law_alike", .glo "placed", .meth "Number" "worth", .meth "Value" "worth", .meth "Cell" "worth", .meth "Joined" "worth", .glo "_law_whole", .glo "_law_places", .meth "Number" "reads", .meth "Value" "reads", .meth "Cell" "reads", .meth "Joined" "reads", .glo "law", .glo "Number", .cls "Number", .mkr "Number", .noat "Number" "n", .glo "Value", .cls "Value", .mkr "Value", .noat "Value" "name", .glo "Cell", .cls "Cell", .mkr "Cell", .noat "Cell" "table", .noat "Cell" "spots", .glo "Joined", .cls "Joined", .mkr "Joined", .noat "Joined" "sign", .noat "Joined" "left", .noat "Joined" "right", .free "abs", .free "bool", .free "dict", .free "int", .free "isinstance", .free "len", .free "list", .free "ord", .free "range", .free "str", .free "tuple", .free "zip"]
abbrev R : PySem.W.OpenRow := PySem.W.OpenLaw.row PySem.Challenge.rw_furrow_k13_cells_from_left_to_right
def ex (K : PySem.W.Frag) : Bool := true
abbrev hk : PySem.W.Hook := He.hookX 4 fa fn [] tfG ex
def ob (s : PySem.W.SharedT) : He.AlX := He.obsX 4 fa fn [] tfG ex (HandSHeadRun.getT s)
theorem ob_eq (s : PySem.W.SharedT) : ob s = hk.obs s.abs := He.obsX_eq (HandSHeadRun.getT_eq s)
def loose : List Str := ["__name__", "placed", "Term", "Number", "Value", "Cell", "Joined", "_law_cell_at", "_law_whole", "_law_stream", "_law_names", "_law_number", "_law_held", "_law_leaf", "_law_both", "_law_tree", "_law_values", "_law_alike", "_law_places"]
theorem run (w : World) : HandSHeadRun.RunEq R (PySem.W.view R.prog [20]) hk ob 5100 loose w := by
  intro os
  kernel_rfl
end Run
def fs_Number : List Str := ["n"]
def fs_Value : List Str := ["name"]
def fs_Cell : List Str := ["table", "spots"]
def fs_Joined : List Str := ["sign", "left", "right"]
inductive UTerm where
  | c_Number (a0 : Int)
  | c_Value (a0 : Str)
  | c_Cell (a0 : Str) (a1 : (Tp (T2 Str Int)))
  | c_Joined (a0 : Str) (a1 : UTerm) (a2 : UTerm)
def UTerm.R (K : PySem.W.Frag) (F : Hp) : UTerm → V → Prop
  | .c_Number a0, v => ∃ a dx w0, v = .ref a ∧ F a = some (.ins (He.ga K "Number") dx (fs_Number.zip [w0])) ∧ rp (α := Int) K F w0 a0
  | .c_Value a0, v => ∃ a dx w0, v = .ref a ∧ F a = some (.ins (He.ga K "Value") dx (fs_Value.zip [w0])) ∧ rp (α := Str) K F w0 a0
  | .c_Cell a0 a1, v => ∃ a dx w0 w1, v = .ref a ∧ F a = some (.ins (He.ga K "Cell") dx (fs_Cell.zip [w0, w1])) ∧ rp (α := Str) K F w0 a0 ∧ rp (α := (Tp (T2 Str Int))) K F w1 a1
  | .c_Joined a0 a1 a2, v => ∃ a dx w0 w1 w2, v = .ref a ∧ F a = some (.ins (He.ga K "Joined") dx (fs_Joined.zip [w0, w1, w2])) ∧ rp (α := Str) K F w0 a0 ∧ UTerm.R K F a1 w1 ∧ UTerm.R K F a2 w2
theorem UTerm.R_mono {K : PySem.W.Frag} {F F2 : Hp} (s_ : L2.Same F F2) : ∀ (x : UTerm) (v : V), UTerm.R K F x v → UTerm.R K F2 x v
  | .c_Number a0, v, h => by
    rw [UTerm.R] at h ⊢
    obtain ⟨a, dx, w0, e, q, h0⟩ := h
    exact ⟨a, dx, w0, e, s_ _ _ q, Rp.mono s_ h0⟩
  | .c_Value a0, v, h => by
    rw [UTerm.R] at h ⊢
    obtain ⟨a, dx, w0, e, q, h0⟩ := h
    exact ⟨a, dx, w0, e, s_ _ _ q, Rp.mono s_ h0⟩
  | .c_Cell a0 a1, v, h => by
    rw [UTerm.R] at h ⊢
    obtain ⟨a, dx, w0, w1, e, q, h0, h1⟩ := h
    exact ⟨a, dx, w0, w1, e, s_ _ _ q, Rp.mono s_ h0, Rp.mono s_ h1⟩
  | .c_Joined a0 a1 a2, v, h => by
    rw [UTerm.R] at h ⊢
    obtain ⟨a, dx, w0, w1, w2, e, q, h0, h1, h2⟩ := h
    exact ⟨a, dx, w0, w1, w2, e, s_ _ _ q, Rp.mono s_ h0, UTerm.R_mono s_ a1 _ h1, UTerm.R_mono s_ a2 _ h2⟩
instance : Rp UTerm := ⟨fun K F v x => UTerm.R K F x v, fun s h => UTerm.R_mono s _ _ h⟩
instance : NN UTerm := ⟨fun {K F x} h => by
  have h : UTerm.R K F x .non := h
  cases x with
  | c_Number a0 => rw [UTerm.R] at h; obtain ⟨a, dx, w0, e, _⟩ := h; cases e
  | c_Value a0 => rw [UTerm.R] at h; obtain ⟨a, dx, w0, e, _⟩ := h; cases e
  | c_Cell a0 a1 => rw [UTerm.R] at h; obtain ⟨a, dx, w0, w1, e, _⟩ := h; cases e
  | c_Joined a0 a1 a2 => rw [UTerm.R] at h; obtain ⟨a, dx, w0, w1, w2, e, _⟩ := h; cases e⟩
structure QNumber where
  n : Int
  deriving DecidableEq
abbrev QNumber.row (x : QNumber) := (x.n, ())
instance : Rp QNumber := ⟨fun K F v x => rpI "Number" fs_Number K F v x.row, rpI.mono⟩
instance : NN QNumber := ⟨rpI.nn⟩
structure QValue where
  name : Str
  deriving DecidableEq
abbrev QValue.row (x : QValue) := (x.name, ())
instance : Rp QValue := ⟨fun K F v x => rpI "Value" fs_Value K F v x.row, rpI.mono⟩
instance : NN QValue := ⟨rpI.nn⟩
structure QCell where
  table : Str
  spots : (Tp (T2 Str Int))
  deriving DecidableEq
abbrev QCell.row (x : QCell) := (x.table, x.spots, ())
instance : Rp QCell := ⟨fun K F v x => rpI "Cell" fs_Cell K F v x.row, rpI.mono⟩
instance : NN QCell := ⟨rpI.nn⟩
structure QJoined where
  sign : Str
  left : UTerm
  right : UTerm
abbrev QJoined.row (x : QJoined) := (x.sign, x.left, x.right, ())
instance : Rp QJoined := ⟨fun K F v x => rpI "Joined" fs_Joined K F v x.row, rpI.mono⟩
instance : NN QJoined := ⟨rpI.nn⟩
theorem UTerm.of_Number {K : PySem.W.Frag} {F : Hp} {v : V} {a0 : Int} : rp (α := QNumber) K F v ⟨a0⟩ ↔ rp K F v (UTerm.c_Number a0) := by
  show _ ↔ UTerm.R K F _ v
  rw [UTerm.R]
  constructor
  · rintro ⟨a, dx, vs, e, q, w0, _, rfl, h0, rfl⟩
    exact ⟨a, dx, w0, e, q, h0⟩
  · rintro ⟨a, dx, w0, e, q, h0⟩
    exact ⟨a, dx, _, e, q, w0, _, rfl, h0, rfl⟩
def UTerm.as_Number : UTerm → Option QNumber
  | .c_Number a0 => some ⟨a0⟩
  | _ => none
def UTerm.is_Number : UTerm → Bool
  | .c_Number _ => true
  | _ => false
abbrev QNumber.to_Term (t : QNumber) : UTerm := .c_Number t.n
theorem UTerm.of_Value {K : PySem.W.Frag} {F : Hp} {v : V} {a0 : Str} : rp (α := QValue) K F v ⟨a0⟩ ↔ rp K F v (UTerm.c_Value a0) := by
  show _ ↔ UTerm.R K F _ v
  rw [UTerm.R]
  constructor
  · rintro ⟨a, dx, vs, e, q, w0, _, rfl, h0, rfl⟩
    exact ⟨a, dx, w0, e, q, h0⟩
  · rintro ⟨a, dx, w0, e, q, h0⟩
    exact ⟨a, dx, _, e, q, w0, _, rfl, h0, rfl⟩
def UTerm.as_Value : UTerm → Option QValue
  | .c_Value a0 => some ⟨a0⟩
  | _ => none
def UTerm.is_Value : UTerm → Bool
  | .c_Value _ => true
  | _ => false
abbrev QValue.to_Term (t : QValue) : UTerm := .c_Value t.name
theorem UTerm.of_Cell {K : PySem.W.Frag} {F : Hp} {v : V} {a0 : Str} {a1 : (Tp (T2 Str Int))} : rp (α := QCell) K F v ⟨a0, a1⟩ ↔ rp K F v (UTerm.c_Cell a0 a1) := by
  show _ ↔ UTerm.R K F _ v
  rw [UTerm.R]
  constructor
  · rintro ⟨a, dx, vs, e, q, w0, _, rfl, h0, w1, _, rfl, h1, rfl⟩
    exact ⟨a, dx, w0, w1, e, q, h0, h1⟩
  · rintro ⟨a, dx, w0, w1, e, q, h0, h1⟩
    exact ⟨a, dx, _, e, q, w0, _, rfl, h0, w1, _, rfl, h1, rfl⟩
def UTerm.as_Cell : UTerm → Option QCell
  | .c_Cell a0 a1 => some ⟨a0, a1⟩
  | _ => none
def UTerm.is_Cell : UTerm → Bool
  | .c_Cell _ _ => true
  | _ => false
abbrev QCell.to_Term (t : QCell) : UTerm := .c_Cell t.table t.spots
theorem UTerm.of_Joined {K : PySem.W.Frag} {F : Hp} {v : V} {a0 : Str} {a1 : UTerm} {a2 : UTerm} : rp (α := QJoined) K F v ⟨a0, a1, a2⟩ ↔ rp K F v (UTerm.c_Joined a0 a1 a2) := by
  show _ ↔ UTerm.R K F _ v
  rw [UTerm.R]
  constructor
  · rintro ⟨a, dx, vs, e, q, w0, _, rfl, h0, w1, _, rfl, h1, w2, _, rfl, h2, rfl⟩
    exact ⟨a, dx, w0, w1, w2, e, q, h0, h1, h2⟩
  · rintro ⟨a, dx, w0, w1, w2, e, q, h0, h1, h2⟩
    exact ⟨a, dx, _, e, q, w0, _, rfl, h0, w1, _, rfl, h1, w2, _, rfl, h2, rfl⟩
def UTerm.as_Joined : UTerm → Option QJoined
  | .c_Joined a0 a1 a2 => some ⟨a0, a1, a2⟩
  | _ => none
def UTerm.is_Joined : UTerm → Bool
  | .c_Joined _ _ _ => true
  | _ => false
abbrev QJoined.to_Term (t : QJoined) : UTerm := .c_Joined t.sign t.left t.right
section
variable {X : Cx} {e : Expr} {σ : L2.St} {F H : Hp} {x : UTerm}
theorem UTerm.mk_Number {t : QNumber} (h : Ev X e σ F H t) : Ev X e σ F H t.to_Term := h.re fun _ _ r => UTerm.of_Number.mp r
theorem UTerm.mk_Value {t : QValue} (h : Ev X e σ F H t) : Ev X e σ F H t.to_Term := h.re fun _ _ r => UTerm.of_Value.mp r
theorem UTerm.mk_Cell {t : QCell} (h : Ev X e σ F H t) : Ev X e σ F H t.to_Term := h.re fun _ _ r => UTerm.of_Cell.mp r
theorem UTerm.mk_Joined {t : QJoined} (h : Ev X e σ F H t) : Ev X e σ F H t.to_Term := h.re fun _ _ r => UTerm.of_Joined.mp r
end
def m_cell_at (x_script : (List Int)) (x_k : Int) : Option Int :=
  if (decide (x_k < (x_script.length : Int))) = true then (L2.atI x_script x_k).bind fun t1 => some t1 else some (0 : Int)
def m_stream (x_cell : Int) (x_many : Int) : Option (List Int) :=
  (some ([] : List Int)).bind fun x_found => (some ((x_cell % (2147483647 : Int)) + (48271 : Int))).bind fun x_number_here => (rngG (x_many + (1 : Int))).bind fun t1 => (loopN (fun (b2 : (Int × (List Int))) (x_k : Int) => (mulG b2.1 b2.1).bind fun t6 => (some (((t6 + ((48271 : Int) * b2.1)) + x_k) % (2147483647 : Int))).bind fun x_number_here => (app b2.2 x_number_here).bind fun t7 => some (x_number_here, t7)) (x_number_here, x_found) t1).bind fun (b8 : (Int × (List Int))) => some (cut b8.2 (some (1 : Int)) none)
def m_names (x_cell : Int) (x_many : Int) : Option (List Str) :=
  (some ("abcdefghijklmnopqrstuvwxyz" : Str)).bind fun x_letters => (m_stream x_cell (10 : Int)).bind fun t1 => (some t1).bind fun x_xs => (compG (fun (x_x : Int) => (sAt x_letters (x_x % (26 : Int))).bind fun t2 => some (some t2)) (cut x_xs (some (2 : Int)) none)).bind fun t3 => (sJoin ("" : Str) t3).bind fun t4 => (some t4).bind fun x_word => (L2.atI x_xs (1 : Int)).bind fun t5 => (some ((1 : Int) + (t5 % (8 : Int)))).bind fun x_long => (L2.atI x_xs (1 : Int)).bind fun t6 => (modG (t6 / (8 : Int)) x_long).bind fun t7 => (some t7).bind fun x_at => (some ([] : List Str)).bind fun x_found => (rngG x_many).bind fun t8 => (loopN (fun (b9 : (List Str)) (x_k : Int) => (L2.atI x_xs ((2 : Int) + x_at)).bind fun t13 => (sAt x_letters ((t13 + x_k) % (26 : Int))).bind fun t14 => (some t14).bind fun x_sign => (sCut x_word none (some x_at)).bind fun t15 => (sAdd t15 x_sign).bind fun t16 => (sCut x_word (some (x_at + (1 : Int))) (some x_long)).bind fun t17 => (sAdd t16 t17).bind fun t18 => (some t18).bind fun x_name => (L2.atI x_xs (0 : Int)).bind fun t19 => (if (decide ((t19 % (2 : Int)) = (0 : Int))) = true then (sCut x_word none (some ((1 : Int) + ((x_long + ((3 : Int) * x_k)) % (8 : Int))))).bind fun t22 => (some t22).bind fun x_name => some x_name else some x_name).bind fun (b20 : Str) => (if (decide (b20 ∈ (Tp.mk ([("for" : Str), ("end" : Str), ("size" : Str)] : List Str)).l)) = true then (sAdd ("zz" : Str) b20).bind fun t25 => (some t25).bind fun x_name => some x_name else some b20).bind fun (b23 : Str) => (app b9 b23).bind fun t26 => some t26) x_found t8).bind fun (b27 : (List Str)) => some b27
def m_number (x_cell : Int) (x_far : Int) : Option Int :=
  if (decide ((x_cell % (3 : Int)) = (0 : Int))) = true then some (((x_cell / (3 : Int)) % (7 : Int)) - (3 : Int)) else (modG (x_cell / (3 : Int)) (((2 : Int) * x_far) + (1 : Int))).bind fun t1 => some (t1 - x_far)
def m_values (x_script : (List Int)) (x_names_here : (List Str)) (x_more : Int) : Option (Dct Str Int) :=
  (some (Dct.mk [] : (Dct Str Int))).bind fun x_values_here => (loopN (fun (b1 : (Dct Str Int)) (x_k : Int) => (m_cell_at x_script ((1 : Int) + x_k)).bind fun t5 => (m_number (t5 + x_more) ((2 : Int) * (1000000000000000000 : Int))).bind fun t6 => (L2.atI x_names_here x_k).bind fun t7 => (dputG b1 t7 t6).bind fun t8 => some t8) x_values_here (intsF 0 3)).bind fun (b9 : (Dct Str Int)) => some b9
def m_held (x_table : Str) (x_place : (Tp Int)) (x_salt : Int) : Option Int :=
  (some x_salt).bind fun x_number_here => (loopN (fun (b1 : Int) (x_sign : Str) => (ordG x_sign).bind fun t5 => (some (((b1 * (131 : Int)) + t5) % (1000000000000000003 : Int))).bind fun x_number_here => some x_number_here) x_number_here (sgns x_table)).bind fun (b6 : Int) => (loopN (fun (b7 : Int) (x_n : Int) => (some (((b7 * (1009 : Int)) + x_n) % (1000000000000000003 : Int))).bind fun x_number_here => some x_number_here) b6 x_place.l).bind fun (b11 : Int) => some (b11 - (100000000000000000 : Int))
def m_law_held_here (x_salt : Int) (x_asked : (List (T2 Str (Tp Int)))) (x_table : Str) (x_place : (Tp Int)) : Option (Int × (List (T2 Str (Tp Int)))) :=
  (app x_asked (T2.mk x_table x_place)).bind fun t1 => (m_held x_table x_place x_salt).bind fun t2 => some (t2, t1)
def m_Number_init (x_n : Int) : Option (Int × Unit) :=
  some (x_n, ())
def m_Value_init (x_name : Str) : Option (Str × Unit) :=
  some (x_name, ())
def m_Cell_init (x_table : Str) (x_spots : (Tp (T2 Str Int))) : Option (Str × (Tp (T2 Str Int)) × Unit) :=
  some (x_table, x_spots, ())
def m_leaf (x_cell : Int) (x_names_here : (List Str)) (x_values_here : (Dct Str Int)) (x_salt : Int) : Option (T4 UTerm Int (List (T2 Str (Tp (T2 Str Int)))) (List (T2 Str (Tp Int)))) :=
  (m_stream (x_cell / (3 : Int)) (8 : Int)).bind fun t1 => (some t1).bind fun x_xs => if (decide ((x_cell % (3 : Int)) = (0 : Int))) = true then (L2.atI x_xs (0 : Int)).bind fun t2 => (L2.atI x_xs (1 : Int)).bind fun t3 => (mulG t2 t3).bind fun t4 => (m_number t4 ((1000000000000000000 : Int) - (1 : Int))).bind fun t5 => (some t5).bind fun x_number_here => some (T4.mk (QNumber.to_Term (QNumber.mk (if x_number_here < 0 then -x_number_here else x_number_here))) (if x_number_here < 0 then -x_number_here else x_number_here) ([] : List (T2 Str (Tp (T2 Str Int)))) ([] : List (T2 Str (Tp Int)))) else (L2.atI x_xs (0 : Int)).bind fun t6 => (L2.atI x_names_here (t6 % (3 : Int))).bind fun t7 => (some t7).bind fun x_name => if (decide ((x_cell % (3 : Int)) = (1 : Int))) = true then (x_values_here.look x_name).bind fun t8 => some (T4.mk (QValue.to_Term (QValue.mk x_name)) t8 ([] : List (T2 Str (Tp (T2 Str Int)))) ([] : List (T2 Str (Tp Int)))) else (some ([] : List (T2 Str Int))).bind fun x_spots => (some ([] : List Int)).bind fun x_place => (L2.atI x_xs (0 : Int)).bind fun t9 => (rngG ((1 : Int) + ((t9 / (3 : Int)) % (3 : Int)))).bind fun t10 => (loopN (fun (b11 : ((List (T2 Str Int)) × (List Int))) (x_k : Int) => (catG (cut x_names_here none (some (3 : Int))) [("" : Str)]).bind fun t15 => (L2.atI x_xs ((2 : Int) + x_k)).bind fun t16 => (L2.atI t15 (t16 % (4 : Int))).bind fun t17 => (some t17).bind fun x_name => (L2.atI x_xs ((2 : Int) + x_k)).bind fun t18 => (L2.atI x_xs ((5 : Int) + x_k)).bind fun t19 => (mulG t18 t19).bind fun t20 => (m_number t20 ((1000000000000000000 : Int) - (1 : Int))).bind fun t21 => (some t21).bind fun x_n => (app b11.1 (T2.mk x_name x_n)).bind fun t22 => (if (!decide (x_name = ("" : Str))) = true then (x_values_here.look x_name).bind fun t25 => (some (x_n + t25)).bind fun x_n => some x_n else some x_n).bind fun (b23 : Int) => (app b11.2 b23).bind fun t26 => some (t22, t26)) (x_spots, x_place) t10).bind fun (b27 : ((List (T2 Str Int)) × (List Int))) => (L2.atI x_xs (1 : Int)).bind fun t28 => (L2.atI x_names_here (((t28 % (2 : Int)) + ((2 : Int) * (b27.1.length : Int))) - (1 : Int))).bind fun t29 => (some t29).bind fun x_table => (m_held x_table (Tp.mk b27.2) x_salt).bind fun t30 => (some t30).bind fun x_held_here => some (T4.mk (QCell.to_Term (QCell.mk x_table (Tp.mk b27.1))) x_held_here [(T2.mk x_table (Tp.mk b27.1))] [(T2.mk x_table (Tp.mk b27.2))])
def m_Joined_init (x_sign : Str) (x_left : UTerm) (x_right : UTerm) : Option (Str × UTerm × UTerm × Unit) :=
  some (x_sign, x_left, x_right, ())
def m_both (x_sign : Str) (x_left : (T4 UTerm Int (List (T2 Str (Tp (T2 Str Int)))) (List (T2 Str (Tp Int))))) (x_right : (T4 UTerm Int (List (T2 Str (Tp (T2 Str Int)))) (List (T2 Str (Tp Int))))) : Option (T4 UTerm Int (List (T2 Str (Tp (T2 Str Int)))) (List (T2 Str (Tp Int)))) :=
  (some (x_left.b + x_right.b)).bind fun x_found => (if (decide (x_sign = ("-" : Str))) = true then (some (x_left.b - x_right.b)).bind fun x_found => some x_found else some x_found).bind fun (b1 : Int) => (if (decide (x_sign = ("*" : Str))) = true then (mulG x_left.b x_right.b).bind fun t5 => (some t5).bind fun x_found => some x_found else some b1).bind fun (b3 : Int) => (catG x_left.c x_right.c).bind fun t6 => (catG x_left.d x_right.d).bind fun t7 => some (T4.mk (QJoined.to_Term (QJoined.mk x_sign x_left.a x_right.a)) b3 t6 t7)
def m_tree (x_cells : (List Int)) (x_names_here : (List Str)) (x_values_here : (Dct Str Int)) (x_seed : Int) (x_salt : Int) : Option (T4 UTerm Int (List (T2 Str (Tp (T2 Str Int)))) (List (T2 Str (Tp Int)))) :=
  (m_leaf x_seed x_names_here x_values_here x_salt).bind fun t1 => (some [t1]).bind fun x_stack => (loopN (fun (b2 : (List (T4 UTerm Int (List (T2 Str (Tp (T2 Str Int)))) (List (T2 Str (Tp Int)))))) (x_cell : Int) => if ((decide ((x_cell % (5 : Int)) < (2 : Int))) && (decide ((1 : Int) < (b2.length : Int)))) = true then (popE b2).bind fun t6 => (some t6.1).bind fun x_right => (popE t6.2).bind fun t7 => (some t7.1).bind fun x_left => (sAt ("+-*" : Str) ((x_cell / (5 : Int)) % (3 : Int))).bind fun t8 => (m_both t8 x_left x_right).bind fun t9 => (app t7.2 t9).bind fun t10 => some t10 else (L2.atI [(x_cell / (5 : Int)), x_seed] (((x_cell / (5 : Int)) % (4 : Int)) / (3 : Int))).bind fun t11 => (m_leaf t11 x_names_here x_values_here x_salt).bind fun t12 => (app b2 t12).bind fun t13 => some t13) x_stack x_cells).bind fun (b14 : (List (T4 UTerm Int (List (T2 Str (Tp (T2 Str Int)))) (List (T2 Str (Tp Int)))))) => (whileN (fun (b15 : (List (T4 UTerm Int (List (T2 Str (Tp (T2 Str Int)))) (List (T2 Str (Tp Int)))))) => some (decide ((1 : Int) < (b15.length : Int)))) (fun (b15 : (List (T4 UTerm Int (List (T2 Str (Tp (T2 Str Int)))) (List (T2 Str (Tp Int)))))) => (popE b15).bind fun t18 => (some t18.1).bind fun x_right => (popE t18.2).bind fun t19 => (some t19.1).bind fun x_left => (sAt ("+-*" : Str) (((t19.2.length : Int) + x_seed) % (3 : Int))).bind fun t20 => (m_both t20 x_left x_right).bind fun t21 => (app t19.2 t21).bind fun t22 => some t22) 100000 b14).bind fun (b23 : (List (T4 UTerm Int (List (T2 Str (Tp (T2 Str Int)))) (List (T2 Str (Tp Int)))))) => (L2.atI b23 (0 : Int)).bind fun t24 => some t24
def m_alike (x_found : (List (T2 Str (Tp (T2 Str Int))))) (x_due : (List (T2 Str (Tp (T2 Str Int))))) : Option Bool :=
  if ((!true) || (!decide ((x_found.length : Int) = (x_due.length : Int)))) = true then some false else (loopM (ρ := Bool) (fun (b1 : Unit) (i2 : (T2 (T2 Str (Tp (T2 Str Int))) (T2 Str (Tp (T2 Str Int))))) => (if (!true) = true then some true else (eqG i2.a i2.b).bind fun t7 => some (!t7)).bind fun t8 => if t8 = true then some (Lp.rt false) else if ((!true) || (!true)) = true then some (Lp.rt false) else some (Lp.nx ())) () (zipL x_found x_due)).bind fun o3 => o3.thn (fun (b9 : Unit) => some true) (fun (r_ : Bool) => some r_)
def m_placed (x_spots : (Tp (T2 Str Int))) (x_values : (Dct Str Int)) : Option (Tp Int) :=
  (some ([] : List Int)).bind fun x_found => (loopN (fun (b1 : (List Int)) (i2 : (T2 Str Int)) => if (decide (i2.a = ("" : Str))) = true then (app b1 i2.b).bind fun t7 => some t7 else (x_values.look i2.a).bind fun t8 => (app b1 (t8 + i2.b)).bind fun t9 => some t9) x_found x_spots.l).bind fun (b10 : (List Int)) => some (Tp.mk b10)
def m_Number_worth (x_self : QNumber) (x_values : (Dct Str Int)) (x_cells : ((Str × (Tp Int) × Unit) × (List (T2 Str (Tp Int))) → Option (Int × (List (T2 Str (Tp Int)))))) (s_ : (List (T2 Str (Tp Int)))) : Option (Int × (List (T2 Str (Tp Int)))) :=
  some (x_self.n, s_)
def m_Value_worth (x_self : QValue) (x_values : (Dct Str Int)) (x_cells : ((Str × (Tp Int) × Unit) × (List (T2 Str (Tp Int))) → Option (Int × (List (T2 Str (Tp Int)))))) (s_ : (List (T2 Str (Tp Int)))) : Option (Int × (List (T2 Str (Tp Int)))) :=
  (x_values.look x_self.name).bind fun t1 => some (t1, s_)
def m_Cell_worth (x_self : QCell) (x_values : (Dct Str Int)) (x_cells : ((Str × (Tp Int) × Unit) × (List (T2 Str (Tp Int))) → Option (Int × (List (T2 Str (Tp Int)))))) (s_ : (List (T2 Str (Tp Int)))) : Option (Int × (List (T2 Str (Tp Int)))) :=
  (m_placed x_self.spots x_values).bind fun t1 => (x_cells ((x_self.table, t1, ()), s_)).bind fun t2 => some t2
def m_Joined_worth (rec_ : UTerm → (Dct Str Int) → ((Str × (Tp Int) × Unit) × (List (T2 Str (Tp Int))) → Option (Int × (List (T2 Str (Tp Int))))) → (List (T2 Str (Tp Int))) → Option (Int × (List (T2 Str (Tp Int))))) (x_self : QJoined) (x_values : (Dct Str Int)) (x_cells : ((Str × (Tp Int) × Unit) × (List (T2 Str (Tp Int))) → Option (Int × (List (T2 Str (Tp Int)))))) (s_ : (List (T2 Str (Tp Int)))) : Option (Int × (List (T2 Str (Tp Int)))) :=
  (rec_ x_self.left x_values x_cells s_).bind fun t1 => (rec_ x_self.right x_values x_cells t1.2).bind fun t2 => if (decide (x_self.sign = ("+" : Str))) = true then some (t1.1 + t2.1, t2.2) else if (decide (x_self.sign = ("-" : Str))) = true then some (t1.1 - t2.1, t2.2) else (mulG t1.1 t2.1).bind fun t3 => some (t3, t2.2)
def m_Term_worth : Nat → UTerm → (Dct Str Int) → ((Str × (Tp Int) × Unit) × (List (T2 Str (Tp Int))) → Option (Int × (List (T2 Str (Tp Int))))) → (List (T2 Str (Tp Int))) → Option (Int × (List (T2 Str (Tp Int))))
  | 0, _, _, _, _ => none
  | n_ + 1, .c_Number a0, y0, y1, s_ => m_Number_worth (QNumber.mk a0) y0 y1 s_
  | n_ + 1, .c_Value a0, y0, y1, s_ => m_Value_worth (QValue.mk a0) y0 y1 s_
  | n_ + 1, .c_Cell a0 a1, y0, y1, s_ => m_Cell_worth (QCell.mk a0 a1) y0 y1 s_
  | n_ + 1, .c_Joined a0 a1 a2, y0, y1, s_ => m_Joined_worth (m_Term_worth n_) (QJoined.mk a0 a1 a2) y0 y1 s_
def m_whole (x_found : Int) : Option Bool :=
  some (true && (!false))
def m_places (x_found : (List (T2 Str (Tp Int)))) (x_due : (List (T2 Str (Tp Int)))) : Option Bool :=
  (eqG x_found x_due).bind fun t1 => if (!t1) = true then some false else (loopM (ρ := Bool) (fun (b2 : Unit) (i3 : (T2 Str (Tp Int))) => if ((!true) || (!true)) = true then some (Lp.rt false) else (compG (fun (x_n : Int) => (m_whole x_n).bind fun t8 => if t8 = true then some (some x_n) else some none) i3.b.l).bind fun t9 => if (!decide ((t9.length : Int) = (i3.b.l.length : Int))) = true then some (Lp.rt false) else some (Lp.nx ())) () x_found).bind fun o4 => o4.thn (fun (b10 : Unit) => some true) (fun (r_ : Bool) => some r_)
def m_Number_reads (x_self : QNumber) : Option (List (T2 Str (Tp (T2 Str Int)))) :=
  some ([] : List (T2 Str (Tp (T2 Str Int))))
def m_Value_reads (x_self : QValue) : Option (List (T2 Str (Tp (T2 Str Int)))) :=
  some ([] : List (T2 Str (Tp (T2 Str Int))))
def m_Cell_reads (x_self : QCell) : Option (List (T2 Str (Tp (T2 Str Int)))) :=
  some [(T2.mk x_self.table x_self.spots)]
def m_Joined_reads (rec_ : UTerm → Option (List (T2 Str (Tp (T2 Str Int))))) (x_self : QJoined) : Option (List (T2 Str (Tp (T2 Str Int)))) :=
  (rec_ x_self.left).bind fun t1 => (rec_ x_self.right).bind fun t2 => (catG t1 t2).bind fun t3 => some t3
def m_Term_reads : Nat → UTerm → Option (List (T2 Str (Tp (T2 Str Int))))
  | 0, _ => none
  | n_ + 1, .c_Number a0 => m_Number_reads (QNumber.mk a0)
  | n_ + 1, .c_Value a0 => m_Value_reads (QValue.mk a0)
  | n_ + 1, .c_Cell a0 a1 => m_Cell_reads (QCell.mk a0 a1)
  | n_ + 1, .c_Joined a0 a1 a2 => m_Joined_reads (m_Term_reads n_) (QJoined.mk a0 a1 a2)
def m_law (x_script : (List Int)) : Option Bool :=
  (m_cell_at x_script (0 : Int)).bind fun t1 => (m_names t1 (8 : Int)).bind fun t2 => (some t2).bind fun x_names_here => (m_cell_at x_script (4 : Int)).bind fun t3 => (some t3).bind fun x_seed => (some (x_seed % (1000003 : Int))).bind fun x_salt => (m_values x_script x_names_here (0 : Int)).bind fun t4 => (some t4).bind fun x_values_here => (some ([] : List (T2 Str (Tp Int)))).bind fun x_asked => (m_tree (cut x_script (some (5 : Int)) (some (44 : Int))) x_names_here x_values_here x_seed x_salt).bind fun t5 => (some t5).bind fun i6 => (m_Term_reads 60 i6.a).bind fun t99 => (some t99).bind fun x_told => (m_alike x_told i6.c).bind fun t9 => if ((!t9) || (!x_asked.isEmpty)) = true then some false else (m_Term_worth 60 i6.a x_values_here (fun a_ => m_law_held_here x_salt a_.2 a_.1.1 a_.1.2.1) x_asked).bind fun t10 => (m_places t10.2 i6.d).bind fun t11 => if (!t11) = true then some false else (app x_told (T2.mk ("x" : Str) (Tp.mk ([] : List (T2 Str Int))))).bind fun t12 => (m_Term_reads 60 i6.a).bind fun t13 => (m_alike t13 i6.c).bind fun t14 => if ((!t14) || (!decide ((t12.length : Int) = ((i6.c.length : Int) + (1 : Int))))) = true then some false else (m_Term_worth 60 i6.a x_values_here (fun a_ => m_law_held_here x_salt a_.2 a_.1.1 a_.1.2.1) ([] : (List (T2 Str (Tp Int))))).bind fun t15 => (m_places t15.2 i6.d).bind fun t16 => (if t16 = true then (m_Term_reads 60 i6.a).bind fun t17 => (m_alike t17 i6.c).bind fun t18 => some t18 else some false).bind fun t19 => some t19
theorem cell_at_ok (ns : List Int) {k : Int} (h0 : 0 ≤ k) : Ok (m_cell_at ns k) fun _ => True := by
  unfold m_cell_at
  refine Ok.dite (fun h => ?_) fun _ => .ret trivial
  obtain ⟨v, e, _⟩ := atI_mem h0 h
  exact .of (by rw [e]; rfl) trivial
theorem stream_ok (c many : Int) (h0 : 0 ≤ many) (h1 : many ≤ 1000) : Ok (m_stream c many) fun l => (l.length : Int) = many ∧ ∀ v ∈ l, 0 ≤ v ∧ v < 2147483647 := by
  unfold m_stream
  simp only [Option.bind_some]
  rw [rngG_p (by omega)]
  simp only [Option.bind_some]
  refine .bind (Ok.loopN (fun (b : Int × List Int) (xs : List Int) => -1 < b.1 ∧ b.1 < 2147700000 ∧ (b.2.length : Int) + xs.length = many + 1 ∧ (∀ v ∈ b.2, 0 ≤ v ∧ v < 2147483647)) ?_ ?_ (fun b h => h)) fun b ⟨_, _, h2, h3⟩ => .ret ?_
  · refine ⟨by omega, by omega, ?_, fun v hv => by cases hv⟩
    rw [ints_len]; simp; omega
  · intro b x ys ⟨a1, a2, a3, a4⟩
    rw [List.length_cons] at a3
    rw [mulG_l (by omega)]
    simp only [Option.bind_some]
    rw [app_p (by omega)]
    have hx : 0 ≤ (b.1 * b.1 + 48271 * b.1 + x) % 2147483647 ∧ (b.1 * b.1 + 48271 * b.1 + x) % 2147483647 < 2147483647 := ⟨Int.emod_nonneg _ (by decide), Int.emod_lt_of_pos _ (by decide)⟩
    refine .ret ⟨?_, ?_, ?_, ?_⟩
    · exact Int.lt_of_lt_of_le (by decide) hx.1
    · exact Int.lt_trans hx.2 (by decide)
    · rw [List.length_append]; simp; omega
    · intro v hv
      rcases List.mem_append.mp hv with h | h
      · exact a4 v h
      · have e : v = (b.1 * b.1 + 48271 * b.1 + x) % 2147483647 := by simpa using h
        rw [e]; exact hx
  · rw [cut_from (by decide)]
    refine ⟨?_, fun v hv => h3 v (List.mem_of_mem_drop hv)⟩
    rw [List.length_drop]
    simp at h2 ⊢
    omega
theorem number_ok (c far : Int) (h0 : 0 ≤ far) : Ok (m_number c far) fun v => -(max far 3) ≤ v ∧ v ≤ max far 3 := by
  unfold m_number
  refine Ok.dite (fun h => .ret ?_) fun _ => ?_
  · have := Int.emod_nonneg (c / 3) (show (7 : Int) ≠ 0 by decide)
    have := Int.emod_lt_of_pos (c / 3) (show (0 : Int) < 7 by decide)
    omega
  · rw [modG_p (by omega)]
    refine .ret ?_
    have := Int.emod_nonneg (c / 3) (show (2 * far + 1) ≠ 0 by omega)
    have := Int.emod_lt_of_pos (c / 3) (show (0 : Int) < 2 * far + 1 by omega)
    omega
theorem az : cl ("abcdefghijklmnopqrstuvwxyz" : Str) = [97,98,99,100,101,102,103,104,105,106,107,108,109,110,111,112,113,114,115,116,117,118,119,120,121,122] := by decide +kernel
theorem az_at {i : Int} (h0 : 0 ≤ i) (h1 : i < 26) : sAt ("abcdefghijklmnopqrstuvwxyz" : Str) i = some ⟨#[97 + i.toNat]⟩ := by
  unfold sAt
  rw [if_pos (by rw [len_c, az, szl]; decide), atI_nn h0]
  show Option.map _ ((cl ("abcdefghijklmnopqrstuvwxyz" : Str))[i.toNat]?) = _
  rw [az]
  have : i = 0 ∨ i = 1 ∨ i = 2 ∨ i = 3 ∨ i = 4 ∨ i = 5 ∨ i = 6 ∨ i = 7 ∨ i = 8 ∨ i = 9 ∨ i = 10 ∨ i = 11 ∨ i = 12 ∨ i = 13 ∨ i = 14 ∨ i = 15 ∨ i = 16 ∨ i = 17 ∨ i = 18 ∨ i = 19 ∨ i = 20 ∨ i = 21 ∨ i = 22 ∨ i = 23 ∨ i = 24 ∨ i = 25 := by omega
  rcases this with h | h | h | h | h | h | h | h | h | h | h | h | h | h | h | h | h | h | h | h | h | h | h | h | h | h <;> subst h <;> rfl
theorem az_mod (i : Int) : sAt ("abcdefghijklmnopqrstuvwxyz" : Str) (i % 26) = some ⟨#[97 + (i % 26).toNat]⟩ := az_at (Int.emod_nonneg _ (by decide)) (Int.emod_lt_of_pos _ (by decide))
def small (l : List Nat) : Prop := ∀ c ∈ l, 97 ≤ c ∧ c ≤ 122
theorem small_app {a b : List Nat} (h1 : small a) (h2 : small b) : small (a ++ b) := fun c hc => (List.mem_append.mp hc).elim (h1 c) (h2 c)
theorem small_take {a : List Nat} (h1 : small a) (n : Nat) : small (a.take n) := fun c hc => h1 c (List.mem_of_mem_take hc)
theorem small_drop {a : List Nat} (h1 : small a) (n : Nat) : small (a.drop n) := fun c hc => h1 c (List.mem_of_mem_drop hc)
def wordsL : List (List Nat) := [[102, 111, 114], [101, 110, 100], [115, 105, 122, 101]]
def ren (z : List Nat) : List Nat := if z ∈ wordsL then 122 :: 122 :: z else z
theorem in_words (z : Str) : decide (z ∈ [("for" : Str), ("end" : Str), ("size" : Str)]) = decide (cl z ∈ wordsL) := by
  rw [decide_eq_decide]
  unfold wordsL
  simp only [List.mem_cons, List.not_mem_nil, or_false]
  have e1 : cl ("for" : Str) = [102, 111, 114] := by decide +kernel
  have e2 : cl ("end" : Str) = [101, 110, 100] := by decide +kernel
  have e3 : cl ("size" : Str) = [115, 105, 122, 101] := by decide +kernel
  constructor
  · rintro (h | h | h) <;> subst h
    · exact .inl e1
    · exact .inr (.inl e2)
    · exact .inr (.inr e3)
  · rintro (h | h | h)
    · exact .inl (cl_inj (h.trans e1.symm))
    · exact .inr (.inl (cl_inj (h.trans e2.symm)))
    · exact .inr (.inr (cl_inj (h.trans e3.symm)))
def nmA (w : List Nat) (at_ long x k : Nat) : List Nat := w.take at_ ++ (97 + (x + k) % 26) :: (w.drop (at_ + 1)).take (long - (at_ + 1))
def nmB (w : List Nat) (long k : Nat) : List Nat := w.take (1 + (long + 3 * k) % 8)
theorem word_ok {xs : List Int} (hx : (xs.length : Int) = 10) : Ok (compG (fun (x_x : Int) => (sAt ("abcdefghijklmnopqrstuvwxyz" : Str) (x_x % (26 : Int))).bind fun t2 => some (some t2)) (cut xs (some (2 : Int)) none)) fun t => Ok (sJoin ("" : Str) t) fun r => (cl r).length = 8 ∧ small (cl r) := by
  rw [cut_from (by decide)]
  refine Ok.comp (fun x => ⟨#[97 + (x % 26).toNat]⟩) (by rw [List.length_drop]; omega) (fun x _ => by rw [az_mod]; rfl) ?_
  refine (sJoin_signs (cs := (xs.drop 2).map fun x => 97 + (x % 26).toNat) (by rw [List.map_map]; rfl) (by rw [List.length_map, List.length_drop]; omega)).mono fun r hr => ?_
  rw [hr]
  refine ⟨by rw [List.length_map, List.length_drop]; omega, fun c hc => ?_⟩
  obtain ⟨x, _, rfl⟩ := List.mem_map.mp hc
  have := Int.emod_nonneg x (show (26 : Int) ≠ 0 by decide)
  have := Int.emod_lt_of_pos x (show (0 : Int) < 26 by decide)
  omega
def nmK (w : List Nat) (at_ long x : Nat) (mode : Bool) (k : Int) : List Nat := ren (if mode = true then nmB w long k.toNat else nmA w at_ long x k.toNat)
theorem names_ok (c many : Int) (h0 : 0 ≤ many) (h1 : many ≤ 1000) : ∃ w at_ long x mode, w.length = 8 ∧ small w ∧ at_ < long ∧ long ≤ 8 ∧ m_names c many = some ((intsF 0 many.toNat).map fun k => S (nmK w at_ long x mode k)) := by
  obtain ⟨xs, e1, hl, hr⟩ := stream_ok c 10 (by decide) (by decide)
  obtain ⟨ls, e2, r, e3, hw, hs⟩ := word_ok hl
  obtain ⟨x0, f0, m0, _⟩ := atI_mem (xs := xs) (i := 0) (by decide) (by omega)
  obtain ⟨x1, f1, m1, _⟩ := atI_mem (xs := xs) (i := 1) (by decide) (by omega)
  have b1 := hr x1 m1
  have g1 : 0 ≤ x1 % 8 ∧ x1 % 8 < 8 := ⟨Int.emod_nonneg _ (by decide), Int.emod_lt_of_pos _ (by decide)⟩
  have g2 : 0 ≤ x1 / 8 % (1 + x1 % 8) ∧ x1 / 8 % (1 + x1 % 8) < 1 + x1 % 8 := ⟨Int.emod_nonneg _ (by omega), Int.emod_lt_of_pos _ (by omega)⟩
  obtain ⟨x2, f2, m2, _⟩ := atI_mem (xs := xs) (i := 2 + x1 / 8 % (1 + x1 % 8)) (by omega) (by omega)
  have b2 := hr x2 m2
  refine ⟨cl r, (x1 / 8 % (1 + x1 % 8)).toNat, (1 + x1 % 8).toNat, x2.toNat, decide (x0 % 2 = 0), hw, hs, by omega, by omega, ?_⟩
  unfold m_names
  simp only [Option.bind_some, e1, e2, e3, f0, f1, f2]
  rw [modG_p (by omega)]
  simp only [Option.bind_some]
  rw [rngG_p (by omega)]
  simp only [Option.bind_some, f2]
  generalize ha : x1 / 8 % (1 + x1 % 8) = a at *
  generalize hb : 1 + x1 % 8 = lg at *
  rw [loopN_map (fun k => S (nmK (cl r) a.toNat lg.toNat x2.toNat (decide (x0 % 2 = 0)) k)) (intsF 0 many.toNat) (by rw [ints_len]; omega) ?_]
  · rfl
  · intro k hk b hb2
    have hk := intsF_mem hk
    rw [az_mod]
    simp only [Option.bind_some]
    obtain ⟨t1, k1, k2⟩ := sCut_cl (z := r) (by omega) none (some a)
    obtain ⟨t2, k3, k4⟩ := sCut_cl (z := r) (by omega) (some (a + 1)) (some lg)
    obtain ⟨t3, k5, k6⟩ := sCut_cl (z := r) (by omega) none (some (1 + (lg + 3 * k) % 8))
    rw [cut_to (by omega)] at k2
    rw [cut_mid (by omega) (by omega)] at k4
    have h8 : 0 ≤ (lg + 3 * k) % 8 ∧ (lg + 3 * k) % 8 < 8 := ⟨Int.emod_nonneg _ (by decide), Int.emod_lt_of_pos _ (by decide)⟩
    rw [cut_to (by omega)] at k6
    have l1 : (cl t1).length ≤ 8 := by rw [k2, List.length_take]; omega
    have l2 : (cl t2).length ≤ 8 := by rw [k4, List.length_take, List.length_drop]; omega
    have l3 : (cl t3).length ≤ 8 := by rw [k6, List.length_take]; omega
    obtain ⟨u1, k7, k8⟩ := sAdd_cl (a := t1) (b := ⟨#[97 + ((x2 + k) % 26).toNat]⟩) (by show _ + 1 ≤ _; omega)
    have k8' : cl u1 = cl t1 ++ [97 + ((x2 + k) % 26).toNat] := k8
    obtain ⟨u2, k9, k10⟩ := sAdd_cl (a := u1) (b := t2) (by rw [k8']; simp; omega)
    simp only [k1, k3, k5, k7, k9, Option.bind_some]
    have key : ∀ z : Str, (cl z).length ≤ 20 → cl z = (if decide (x0 % 2 = 0) = true then nmB (cl r) lg.toNat k.toNat else nmA (cl r) a.toNat lg.toNat x2.toNat k.toNat) →
        ((if decide (z ∈ [("for" : Str), ("end" : Str), ("size" : Str)]) = true then (sAdd ("zz" : Str) z).bind fun t25 => some t25 else some z).bind fun b32 => (app b b32).bind fun t37 => some t37) = some (b ++ [S (nmK (cl r) a.toNat lg.toNat x2.toNat (decide (x0 % 2 = 0)) k)]) := by
      intro z hz e
      rw [in_words]
      have hA : ∀ y, (app b y).bind (fun t37 => some t37) = some (b ++ [y]) := fun y => by rw [app_p hb2]; rfl
      unfold nmK
      rw [← e]
      unfold ren
      by_cases hw' : cl z ∈ wordsL
      · rw [if_pos (decide_eq_true hw'), if_pos hw']
        obtain ⟨v, v1, v2⟩ := sAdd_cl (a := ("zz" : Str)) (b := z) (by rw [show cl ("zz" : Str) = [122, 122] from by decide +kernel]; simp; omega)
        rw [v1]
        simp only [Option.bind_some]
        rw [hA]
        have : v = S (122 :: 122 :: cl z) := cl_inj (by rw [v2, show cl ("zz" : Str) = [122, 122] from by decide +kernel]; rfl)
        rw [this]
      · rw [if_neg (by rw [decide_eq_false hw']; exact Bool.false_ne_true), if_neg hw']
        simp only [Option.bind_some]
        rw [hA, S_cl]
    by_cases hm : x0 % 2 = 0
    · rw [if_pos (decide_eq_true hm)]
      refine key t3 (by omega) ?_
      rw [if_pos (decide_eq_true hm), k6]
      unfold nmB
      congr 1
      omega
    · rw [if_neg (by rw [decide_eq_false hm]; exact Bool.false_ne_true)]
      refine key u2 ?_ ?_
      · rw [k10, k8']; simp; omega
      · rw [if_neg (by rw [decide_eq_false hm]; exact Bool.false_ne_true), k10, k8', k2, k4]
        unfold nmA
        have e1 : (a + 1).toNat = a.toNat + 1 := by omega
        have e2 : ((x2 + k) % 26).toNat = (x2.toNat + k.toNat) % 26 := by omega
        rw [e1, e2]; simp
theorem ren_small {z : List Nat} (h : small z) : small (ren z) := by
  unfold ren; split
  · intro c hc
    rcases List.mem_cons.mp hc with e | hc
    · subst e; decide
    · rcases List.mem_cons.mp hc with e | hc
      · subst e; decide
      · exact h c hc
  · exact h
theorem nmK_good {w : List Nat} {at_ long x : Nat} {mode : Bool} {k : Int} (hw : w.length = 8) (hs : small w) (h1 : at_ < long) (h2 : long ≤ 8) : 1 ≤ (nmK w at_ long x mode k).length ∧ (nmK w at_ long x mode k).length ≤ 8 ∧ small (nmK w at_ long x mode k) ∧ nmK w at_ long x mode k ∉ wordsL := by
  have h8 : (long + 3 * k.toNat) % 8 < 8 := Nat.mod_lt _ (by decide)
  have key : ∀ z : List Nat, 1 ≤ z.length → z.length ≤ 8 → small z → 1 ≤ (ren z).length ∧ (ren z).length ≤ 8 ∧ small (ren z) ∧ ren z ∉ wordsL := by
    intro z a b s
    refine ⟨?_, ?_, ren_small s, ?_⟩
    · unfold ren; split
      · simp
      · exact a
    · unfold ren; split
      · rename_i hz
        unfold wordsL at hz
        simp only [List.mem_cons, List.not_mem_nil, or_false] at hz
        rcases hz with h | h | h <;> subst h <;> decide
      · exact b
    · unfold ren; split
      · rename_i hz
        unfold wordsL at hz ⊢
        simp only [List.mem_cons, List.not_mem_nil, or_false] at hz ⊢
        rcases hz with h | h | h <;> subst h <;> decide
      · assumption
  unfold nmK
  split
  · unfold nmB
    exact key _ (by rw [List.length_take]; omega) (by rw [List.length_take]; omega) (small_take hs _)
  · unfold nmA
    refine key _ ?_ ?_ ?_
    · simp; omega
    · simp only [List.length_append, List.length_take, List.length_cons, List.length_drop]; omega
    · refine small_app (small_take hs _) fun c hc => ?_
      rcases List.mem_cons.mp hc with e | hc
      · subst e
        have := Nat.mod_lt (x + k.toNat) (show 0 < 26 by decide)
        omega
      · exact small_take (small_drop hs _) _ c hc
abbrev TreeT := T4 UTerm Int (List (T2 Str (Tp (T2 Str Int)))) (List (T2 Str (Tp Int)))
abbrev AskT := List (T2 Str (Tp Int))
def hc (s : Int) : (Str × Tp Int × Unit) × AskT → Option (Int × AskT) := fun a_ => m_law_held_here s a_.2 a_.1.1 a_.1.2.1
def val (d : Dct Str Int) (s : T2 Str Int) : Int := if s.a = ("" : Str) then s.b else s.b + (kvLook d.l s.a).getD 0
def fits (d : Dct Str Int) (sp : List (T2 Str Int)) : Prop := sp.length ≤ 3 ∧ ∀ s ∈ sp, s.a = ("" : Str) ∨ ∃ v, kvLook d.l s.a = some v
theorem placed_ok {d : Dct Str Int} {sp : List (T2 Str Int)} (h : fits d sp) : m_placed (Tp.mk sp) d = some (Tp.mk (sp.map (val d))) := by
  unfold m_placed
  simp only [Option.bind_some]
  rw [loopN_map (val d) sp (by have := h.1; omega) ?_]
  · rfl
  · intro s hs b hb
    unfold val
    by_cases e : s.a = ("" : Str)
    · rw [if_pos (decide_eq_true e), if_pos e, app_p hb]; rfl
    · rw [if_neg (by rw [decide_eq_false e]; exact Bool.false_ne_true), if_neg e]
      obtain ⟨v, hv⟩ := (h.2 s hs).resolve_left e
      rw [show Dct.look d s.a = some v from hv, hv]
      simp only [Option.bind_some]
      rw [app_p hb, Int.add_comm]; rfl
structure En (v : Dct Str Int) (s : Int) (t : UTerm) (k : Nat) (b : TreeT) : Prop where
  a : b.a = t
  k1 : 1 ≤ k
  sz : b.b.natAbs < 2 ^ (62 * k)
  w : ∀ n, k ≤ n → ∀ l : AskT, l.length + k ≤ 1000 → m_Term_worth n t v (hc s) l = some (b.b, l ++ b.d)
  r : ∀ n, k ≤ n → m_Term_reads n t = some b.c
  c : b.c.length ≤ k
  d : b.d.length ≤ k
  dp : ∀ q ∈ b.d, q.b.l.length ≤ 3
  tc : PdL.tx b.c
  td : PdL.tx b.d
structure Good (v : Dct Str Int) (nm : List Str) : Prop where
  nd : (v.l.map (·.1)).Nodup
  ok : ∀ (i : Nat) (z : Str), i < 3 → nm[i]? = some z → ∃ x, kvLook v.l z = some x ∧ x.natAbs < 2 ^ 62
def SOk (s : Int) : Prop := 0 ≤ s ∧ s < 1000000000000000003
theorem ord1 (c : Nat) : ordG (⟨#[c]⟩ : Str) = some (c : Int) := by
  unfold ordG
  rw [if_pos (show (⟨#[c]⟩ : Str).length = 1 from rfl)]; rfl
theorem held_ok (z : Str) (p : Tp Int) {s : Int} (h : SOk s) : Ok (m_held z p s) fun r => r.natAbs < 2 ^ 62 := by
  unfold m_held
  refine .bindE rfl (.bind (P := SOk) ?_ fun b hb => .bind (P := SOk) ?_ fun b2 hb2 => .ret ?_)
  · refine Ok.loopN (fun (b : Int) ys => SOk b ∧ ∀ x ∈ ys, ∃ c, x = (⟨#[c]⟩ : Str)) ⟨h, fun x m => ?_⟩ (fun b x ys ⟨h1, h2⟩ => ?_) fun b h => h.1
    · obtain ⟨c, _, rfl⟩ := List.mem_map.mp (show x ∈ (cl z).map fun c => (⟨#[c]⟩ : Str) from m)
      exact ⟨c, rfl⟩
    · obtain ⟨c, rfl⟩ := h2 x List.mem_cons_self
      refine .bindE (ord1 c) (.bindE rfl (.ret ⟨⟨Int.emod_nonneg _ (by decide), Int.emod_lt_of_pos _ (by decide)⟩, fun y m => h2 y (List.mem_cons_of_mem _ m)⟩))
  · refine Ok.loopN (fun (b : Int) _ => SOk b) hb (fun b x ys h1 => ?_) fun b h => h
    exact .bindE rfl (.ret ⟨Int.emod_nonneg _ (by decide), Int.emod_lt_of_pos _ (by decide)⟩)
  · obtain ⟨h1, h2⟩ := hb2
    show (b2 - 100000000000000000).natAbs < 2 ^ 62
    omega
theorem leaf_ok (cell : Int) {nm : List Str} (hn : nm.length = 8 ∧ ∀ z ∈ nm, sok z) : ∃ T : UTerm, ∀ v s, Good v nm → SOk s → ∃ b, m_leaf cell nm v s = some b ∧ En v s T 1 b := by
  obtain ⟨hn, hq_⟩ := hn
  obtain ⟨xs, e1, hl, hr⟩ := stream_ok (cell / 3) 8 (by decide) (by decide)
  have gx : ∀ i : Int, 0 ≤ i → i < 8 → ∃ a, L2.atI xs i = some a ∧ 0 ≤ a ∧ a < 2147483647 := fun i h0 h1 => by
    obtain ⟨a, ea, m, _⟩ := atI_mem (xs := xs) (i := i) h0 (by omega)
    exact ⟨a, ea, hr a m⟩
  obtain ⟨x0, g0, r0⟩ := gx 0 (by decide) (by decide)
  obtain ⟨x1, g1, r1⟩ := gx 1 (by decide) (by decide)
  by_cases c0 : cell % 3 = 0
  · obtain ⟨q, eq, q1, q2⟩ := number_ok (x0 * x1) (1000000000000000000 - 1) (by decide)
    refine ⟨.c_Number (if q < 0 then -q else q), fun v s gv gs => ⟨⟨.c_Number (if q < 0 then -q else q), (if q < 0 then -q else q), [], []⟩, ?_, rfl, Nat.le_refl 1, ?_, fun n hn l hl => ?_, fun n hn => ?_, Nat.zero_le _, Nat.zero_le _, (fun q hq => nomatch hq), (fun q hq => nomatch hq), (fun q hq => nomatch hq)⟩⟩
    · unfold m_leaf
      refine Ok.eq (.bindE e1 (.bindE rfl ?_))
      rw [if_pos (decide_eq_true c0)]
      refine .bindE g0 (.bindE g1 ?_)
      rw [mulG_l (by omega)]
      exact .bindE rfl (.bindE eq (.bindE rfl (.ret rfl)))
    · show (if q < 0 then -q else q).natAbs < 2 ^ (62 * 1)
      split <;> omega
    · obtain ⟨m, rfl⟩ : ∃ m, n = m + 1 := ⟨n - 1, by omega⟩
      show some (_, l) = some (_, l ++ [])
      rw [List.append_nil]
    · obtain ⟨m, rfl⟩ : ∃ m, n = m + 1 := ⟨n - 1, by omega⟩
      rfl
  · obtain ⟨na, ena, na2⟩ := atI_ok (xs := nm) (i := x0 % 3) (by omega) (by omega)
    by_cases c1 : cell % 3 = 1
    · refine ⟨.c_Value na, fun v s gv gs => ?_⟩
      obtain ⟨x, hx, hb⟩ := gv.ok (x0 % 3).toNat na (by omega) na2
      refine ⟨⟨.c_Value na, x, [], []⟩, ?_, rfl, Nat.le_refl 1, hb, fun n hn l hl => ?_, fun n hn => ?_, Nat.zero_le _, Nat.zero_le _, (fun q hq => nomatch hq), (fun q hq => nomatch hq), (fun q hq => nomatch hq)⟩
      · unfold m_leaf
        refine Ok.eq (.bindE e1 (.bindE rfl ?_))
        rw [if_neg (by rw [decide_eq_false c0]; decide)]
        refine .bindE g0 (.bindE ena (.bindE rfl ?_))
        rw [if_pos (decide_eq_true c1)]
        exact .bindE (show Dct.look v na = some x from hx) (.ret rfl)
      · obtain ⟨m, rfl⟩ : ∃ m, n = m + 1 := ⟨n - 1, by omega⟩
        show (Dct.look v na).bind _ = _
        rw [show Dct.look v na = some x from hx]
        show some (x, l) = some (x, l ++ [])
        rw [List.append_nil]
      · obtain ⟨m, rfl⟩ : ∃ m, n = m + 1 := ⟨n - 1, by omega⟩
        rfl
    · obtain ⟨M, hM, M1, M3⟩ : ∃ M : Nat, (1 : Int) + x0 / 3 % 3 = (M : Int) ∧ 1 ≤ M ∧ M ≤ 3 := ⟨(1 + x0 / 3 % 3).toNat, by omega, by omega, by omega⟩
      obtain ⟨tb, etb, htb⟩ := atI_ok (xs := nm) (i := x1 % 2 + 2 * (M : Int) - 1) (by omega) (by omega)
      have hcat : catG (cut nm none (some (3 : Int))) [("" : Str)] = some (nm.take 3 ++ [("" : Str)]) := by
        rw [cut_to (by decide), catG_p (by rw [List.length_take]; simp only [List.length_cons, List.length_nil]; omega)]; rfl
      have hf : ∀ j : Nat, ∃ p : T2 Str Int, j < 3 → (p.a = ("" : Str) ∨ ∃ i, i < 3 ∧ nm[i]? = some p.a) ∧ ∃ a b, L2.atI xs ((2 : Int) + (j : Int)) = some a ∧ L2.atI (nm.take 3 ++ [("" : Str)]) (a % 4) = some p.a ∧ L2.atI xs ((5 : Int) + (j : Int)) = some b ∧ mulG a b = some (a * b) ∧ m_number (a * b) ((1000000000000000000 : Int) - (1 : Int)) = some p.b := fun j => by
        by_cases hj : j < 3
        · obtain ⟨a, ea, ra⟩ := gx (2 + (j : Int)) (by omega) (by omega)
          obtain ⟨b, eb, rb⟩ := gx (5 + (j : Int)) (by omega) (by omega)
          obtain ⟨z, ez, z2⟩ := atI_ok (xs := nm.take 3 ++ [("" : Str)]) (i := a % 4) (by omega) (by rw [List.length_append, List.length_take]; simp only [List.length_cons, List.length_nil]; omega)
          obtain ⟨q, eq, _⟩ := number_ok (a * b) (1000000000000000000 - 1) (by decide)
          refine ⟨⟨z, q⟩, fun _ => ⟨?_, a, b, ea, ez, eb, mulG_l (by omega), eq⟩⟩
          by_cases h3 : (a % 4).toNat < 3
          · right
            rw [List.getElem?_append_left (by rw [List.length_take]; omega), List.getElem?_take_of_lt h3] at z2
            exact ⟨_, h3, z2⟩
          · left
            rw [List.getElem?_append_right (by rw [List.length_take]; omega), List.length_take, show (a % 4).toNat - min 3 nm.length = 0 by omega] at z2
            exact (Option.some.inj z2).symm
        · exact ⟨⟨"", 0⟩, fun z => absurd z hj⟩
      obtain ⟨f, hf⟩ := Classical.skolem.mp hf
      refine ⟨.c_Cell tb ⟨(List.range M).map f⟩, fun v s gv gs => ?_⟩
      have hfit : fits v ((List.range M).map f) := ⟨by rw [List.length_map, List.length_range]; exact M3, fun p hp => by
        obtain ⟨j, hj, rfl⟩ := List.mem_map.mp hp
        have hj := List.mem_range.mp hj
        rcases (hf j (by omega)).1 with h | ⟨i, hi, hz⟩
        · exact .inl h
        · obtain ⟨x, hx, _⟩ := gv.ok i _ hi hz
          exact .inr ⟨x, hx⟩⟩
      obtain ⟨hd, ehd, hdb⟩ := held_ok tb ⟨((List.range M).map f).map (val v)⟩ gs
      refine ⟨⟨.c_Cell tb ⟨(List.range M).map f⟩, hd, [⟨tb, ⟨(List.range M).map f⟩⟩], [⟨tb, ⟨((List.range M).map f).map (val v)⟩⟩]⟩, ?_, rfl, Nat.le_refl 1, hdb, fun n hn l hl => ?_, fun n hn => ?_, Nat.le_refl 1, Nat.le_refl 1, fun q hq => ?_, fun q hq => ?_, fun q hq => ?_⟩
      · unfold m_leaf
        refine Ok.eq (.bindE e1 (.bindE rfl ?_))
        rw [if_neg (by rw [decide_eq_false c0]; decide)]
        refine .bindE g0 (.bindE ena (.bindE rfl ?_))
        rw [if_neg (by rw [decide_eq_false c1]; decide)]
        refine .bindE rfl (.bindE rfl (.bindE g0 ?_))
        rw [hM, rngG_n (by omega)]
        refine .bindE rfl (.bind (Ok.range (Q := fun b : List (T2 Str Int) × List Int => b = ((List.range M).map f, ((List.range M).map f).map (val v))) (fun k (b : List (T2 Str Int) × List Int) => b = ((List.range k).map f, ((List.range k).map f).map (val v))) rfl (fun k b hk hb => ?_) fun b hb => hb) fun b hb => ?_)
        · subst hb
          obtain ⟨hz, a, b, ea, ez, eb, em, eq⟩ := hf k (by omega)
          refine .bindE hcat (.bindE ea (.bindE ez (.bindE rfl (.bindE ea (.bindE eb (.bindE em (.bindE eq (.bindE rfl ?_))))))))
          rw [app_p (by show ((List.range k).map f).length < _; rw [List.length_map, List.length_range]; omega)]
          refine .bindE rfl (.bind (P := (· = val v (f k))) ?_ fun t et => ?_)
          · unfold val
            by_cases e : (f k).a = ("" : Str)
            · rw [if_neg (by rw [decide_eq_true e]; decide), if_pos e]
              exact .ret rfl
            · rw [if_pos (by rw [decide_eq_false e]; rfl), if_neg e]
              obtain ⟨i, hi, hz⟩ := hz.resolve_left e
              obtain ⟨x, hx, _⟩ := gv.ok i _ hi hz
              refine .bindE (show Dct.look v (f k).a = some x from hx) (.bindE rfl (.ret ?_))
              rw [hx]; rfl
          · subst et
            rw [app_p (by show (((List.range k).map f).map (val v)).length < _; rw [List.length_map, List.length_map, List.length_range]; omega)]
            refine .bindE rfl (.ret ?_)
            rw [List.range_succ, List.map_append, List.map_append]; rfl
        · subst hb
          refine .bindE g1 ?_
          show Ok ((L2.atI nm (x1 % 2 + 2 * (((List.range M).map f).length : Int) - 1)).bind _) _
          rw [List.length_map, List.length_range]
          exact .bindE etb (.bindE rfl (.bindE ehd (.bindE rfl (.ret rfl))))
      · obtain ⟨m, rfl⟩ : ∃ m, n = m + 1 := ⟨n - 1, by omega⟩
        show (m_placed ⟨(List.range M).map f⟩ v).bind _ = _
        rw [placed_ok hfit]
        show (hc s ((tb, ⟨((List.range M).map f).map (val v)⟩, ()), l)).bind _ = _
        have : hc s ((tb, ⟨((List.range M).map f).map (val v)⟩, ()), l) = some (hd, l ++ [⟨tb, ⟨((List.range M).map f).map (val v)⟩⟩]) := by
          show (app l _).bind _ = _
          rw [app_p (by have : (1000 : Nat) ≤ sizeLine := by decide
                        omega)]
          show (m_held tb ⟨((List.range M).map f).map (val v)⟩ s).bind _ = _
          rw [ehd]; rfl
        rw [this]; rfl
      · obtain ⟨m, rfl⟩ : ∃ m, n = m + 1 := ⟨n - 1, by omega⟩
        rfl
      · rw [List.mem_singleton.mp hq]
        show (((List.range M).map f).map (val v)).length ≤ 3
        rw [List.length_map, List.length_map, List.length_range]; exact M3
      · rw [List.mem_singleton.mp hq]
        refine ⟨hq_ tb (List.mem_of_getElem? htb), fun p hp => ?_, trivial⟩
        obtain ⟨j, hj, rfl⟩ := List.mem_map.mp (show p ∈ (List.range M).map f from hp)
        have hj := List.mem_range.mp hj
        refine ⟨?_, trivial, trivial⟩
        rcases (hf j (by omega)).1 with h | ⟨i, hi, hz⟩
        · show sok (f j).a
          rw [h]; unfold sok; decide +kernel
        · exact hq_ _ (List.mem_of_getElem? hz)
      · rw [List.mem_singleton.mp hq]
        exact ⟨hq_ tb (List.mem_of_getElem? htb), fun p hp => trivial, trivial⟩
def Sgn (z : Str) : Prop := z = "+" ∨ z = "-" ∨ z = "*"
theorem sgn_at {i : Int} : Ok (sAt ("+-*" : Str) (i % 3)) Sgn := by
  have h1 := Int.emod_nonneg i (show (3 : Int) ≠ 0 by decide)
  have h2 := Int.emod_lt_of_pos i (show (0 : Int) < 3 by decide)
  generalize i % 3 = j at h1 h2
  have : j = 0 ∨ j = 1 ∨ j = 2 := by omega
  rcases this with rfl | rfl | rfl
  · exact .of (show sAt ("+-*" : Str) 0 = some ("+" : Str) by decide +kernel) (.inl rfl)
  · exact .of (show sAt ("+-*" : Str) 1 = some ("-" : Str) by decide +kernel) (.inr (.inl rfl))
  · exact .of (show sAt ("+-*" : Str) 2 = some ("*" : Str) by decide +kernel) (.inr (.inr rfl))
theorem two_pow_add {p q : Nat} (hp : 1 ≤ p) (hq : 1 ≤ q) : 2 ^ p + 2 ^ q ≤ 2 ^ (p + q) := by
  obtain ⟨p, rfl⟩ : ∃ m, p = m + 1 := ⟨p - 1, by omega⟩
  obtain ⟨q, rfl⟩ : ∃ m, q = m + 1 := ⟨q - 1, by omega⟩
  have h1 : 1 ≤ 2 ^ p := Nat.one_le_two_pow
  have h2 : 1 ≤ 2 ^ q := Nat.one_le_two_pow
  obtain ⟨a, ha⟩ : ∃ a, 2 ^ p = a + 1 := ⟨2 ^ p - 1, by omega⟩
  obtain ⟨b, hb⟩ : ∃ b, 2 ^ q = b + 1 := ⟨2 ^ q - 1, by omega⟩
  have : (a + 1) * 2 * ((b + 1) * 2) = 4 * (a * b) + 4 * a + 4 * b + 4 := by
    rw [Nat.mul_mul_mul_comm, Nat.add_mul, Nat.mul_add]; omega
  have e1 : 2 ^ (p + 1) = 2 ^ p * 2 := Nat.pow_succ _ _
  have e2 : 2 ^ (q + 1) = 2 ^ q * 2 := Nat.pow_succ _ _
  have e3 : 2 ^ (p + 1 + (q + 1)) = 2 ^ (p + 1) * 2 ^ (q + 1) := Nat.pow_add _ _ _
  rw [e3, e1, e2, ha, hb, this]; omega
theorem log2_le {n k : Nat} (h : n < 2 ^ k) : n.log2 ≤ k := by
  by_cases h0 : n = 0
  · subst h0; exact Nat.zero_le _
  · exact Nat.le_of_lt ((Nat.log2_lt h0).mpr h)
theorem both_ok {v : Dct Str Int} {s : Int} {sg : Str} (hs : Sgn sg) {t1 t2 : UTerm} {k1 k2 : Nat} {b1 b2 : TreeT} (h1 : En v s t1 k1 b1) (h2 : En v s t2 k2 b2) (hk : k1 + k2 ≤ 1000) : ∃ b, m_both sg b1 b2 = some b ∧ En v s (.c_Joined sg t1 t2) (k1 + k2) b := by
  have p1 := h1.k1
  have p2 := h2.k1
  have s1 := h1.sz
  have s2 := h2.sz
  have hpow := two_pow_add (p := 62 * k1) (q := 62 * k2) (by omega) (by omega)
  have hmul : mulG b1.b b2.b = some (b1.b * b2.b) := mulG_w (by
    have := log2_le s1
    have := log2_le s2
    show b1.b.natAbs.log2 + b2.b.natAbs.log2 < 1000000
    omega)
  have c1 : catG b1.c b2.c = some (b1.c ++ b2.c) := catG_p (by have := h1.c; have := h2.c; omega)
  have c2 : catG b1.d b2.d = some (b1.d ++ b2.d) := catG_p (by have := h1.d; have := h2.d; omega)
  have key : ∀ r : Int, m_both sg b1 b2 = some ⟨.c_Joined sg b1.a b2.a, r, b1.c ++ b2.c, b1.d ++ b2.d⟩ → r.natAbs < 2 ^ (62 * k1 + 62 * k2) → (∀ m l l1 l2, m_Term_worth m t1 v (hc s) l = some (b1.b, l1) → m_Term_worth m t2 v (hc s) l1 = some (b2.b, l2) → m_Term_worth (m + 1) (.c_Joined sg t1 t2) v (hc s) l = some (r, l2)) → ∃ b, m_both sg b1 b2 = some b ∧ En v s (.c_Joined sg t1 t2) (k1 + k2) b := fun r e hb hw => by
    refine ⟨_, e, by rw [h1.a, h2.a], by omega, by rw [Nat.mul_add]; exact hb, fun n hn l hl => ?_, fun n hn => ?_, ?_, ?_, fun q hq => ?_, fun q hq => ?_, fun q hq => ?_⟩
    · obtain ⟨m, rfl⟩ : ∃ m, n = m + 1 := ⟨n - 1, by omega⟩
      have := hw m l _ _ (h1.w m (by omega) l (by omega)) (h2.w m (by omega) (l ++ b1.d) (by have := h1.d; rw [List.length_append]; omega))
      rw [List.append_assoc] at this
      exact this
    · obtain ⟨m, rfl⟩ : ∃ m, n = m + 1 := ⟨n - 1, by omega⟩
      show (m_Term_reads m t1).bind _ = _
      rw [h1.r m (by omega)]
      show (m_Term_reads m t2).bind _ = _
      rw [h2.r m (by omega)]
      show (catG b1.c b2.c).bind _ = _
      rw [c1]; rfl
    · show (b1.c ++ b2.c).length ≤ _
      have := h1.c; have := h2.c
      rw [List.length_append]; omega
    · show (b1.d ++ b2.d).length ≤ _
      have := h1.d; have := h2.d
      rw [List.length_append]; omega
    · rcases List.mem_append.mp (show q ∈ b1.d ++ b2.d from hq) with h | h
      · exact h1.dp q h
      · exact h2.dp q h
    · rcases List.mem_append.mp (show q ∈ b1.c ++ b2.c from hq) with h | h
      · exact h1.tc q h
      · exact h2.tc q h
    · rcases List.mem_append.mp (show q ∈ b1.d ++ b2.d from hq) with h | h
      · exact h1.td q h
      · exact h2.td q h
  rcases hs with rfl | rfl | rfl
  · refine key (b1.b + b2.b) ?_ (by have := Int.natAbs_add_le b1.b b2.b; rw [Nat.pow_add] at hpow ⊢; omega) fun m l l1 l2 e1 e2 => ?_
    · unfold m_both
      refine Ok.eq (.bindE rfl (.bindE (x := b1.b + b2.b) (by rw [if_neg (by decide)]) (.bindE (x := b1.b + b2.b) (by rw [if_neg (by decide)]) (.bindE c1 (.bindE c2 (.ret rfl))))))
    · show (m_Term_worth m t1 v (hc s) l).bind _ = _
      rw [e1]
      show (m_Term_worth m t2 v (hc s) l1).bind _ = _
      rw [e2]
      show (if decide (("+" : Str) = "+") = true then some (b1.b + b2.b, l2) else if decide (("+" : Str) = "-") = true then some (b1.b - b2.b, l2) else (mulG b1.b b2.b).bind fun t3 => some (t3, l2)) = _
      rw [if_pos (by decide)]
  · refine key (b1.b - b2.b) ?_ (by have := Int.natAbs_sub_le b1.b b2.b; rw [Nat.pow_add] at hpow ⊢; omega) fun m l l1 l2 e1 e2 => ?_
    · unfold m_both
      refine Ok.eq (.bindE rfl (.bindE (x := b1.b - b2.b) (by rw [if_pos (by decide)]; rfl) (.bindE (x := b1.b - b2.b) (by rw [if_neg (by decide)]) (.bindE c1 (.bindE c2 (.ret rfl))))))
    · show (m_Term_worth m t1 v (hc s) l).bind _ = _
      rw [e1]
      show (m_Term_worth m t2 v (hc s) l1).bind _ = _
      rw [e2]
      show (if decide (("-" : Str) = "+") = true then some (b1.b + b2.b, l2) else if decide (("-" : Str) = "-") = true then some (b1.b - b2.b, l2) else (mulG b1.b b2.b).bind fun t3 => some (t3, l2)) = _
      rw [if_neg (by decide), if_pos (by decide)]
  · refine key (b1.b * b2.b) ?_ (by rw [Int.natAbs_mul, Nat.pow_add]; exact Nat.mul_lt_mul'' s1 s2) fun m l l1 l2 e1 e2 => ?_
    · unfold m_both
      refine Ok.eq (.bindE rfl (.bindE (x := b1.b + b2.b) (by rw [if_neg (by decide)]) (.bindE (x := b1.b * b2.b) (by rw [if_pos (by decide), hmul]; rfl) (.bindE c1 (.bindE c2 (.ret rfl))))))
    · show (m_Term_worth m t1 v (hc s) l).bind _ = _
      rw [e1]
      show (m_Term_worth m t2 v (hc s) l1).bind _ = _
      rw [e2]
      show (if decide (("*" : Str) = "+") = true then some (b1.b + b2.b, l2) else if decide (("*" : Str) = "-") = true then some (b1.b - b2.b, l2) else (mulG b1.b b2.b).bind fun t3 => some (t3, l2)) = _
      rw [if_neg (by decide), if_neg (by decide), hmul]; rfl
def Rs (v : Dct Str Int) (s : Int) (Ts : List (UTerm × Nat)) (bs : List TreeT) : Prop := bs.length = Ts.length ∧ ∀ (i : Nat) (p : UTerm × Nat) (b : TreeT), Ts[i]? = some p → bs[i]? = some b → En v s p.1 p.2 b
def sumK : List (UTerm × Nat) → Nat
  | [] => 0
  | x :: xs => x.2 + sumK xs
theorem sumK_app : ∀ a b : List (UTerm × Nat), sumK (a ++ b) = sumK a + sumK b
  | [], b => by rw [List.nil_append, sumK, Nat.zero_add]
  | x :: a, b => by rw [List.cons_append, sumK, sumK, sumK_app a b, Nat.add_assoc]
theorem snoc_of {α : Type} {l : List α} (h : l ≠ []) : ∃ a x, l = a ++ [x] := ⟨l.dropLast, l.getLast h, (List.dropLast_concat_getLast h).symm⟩
theorem pop_snoc {α : Type} {a : List α} {x : α} : popE (a ++ [x]) = some (x, a) := by
  unfold popE
  rw [List.getLast?_concat, List.dropLast_concat]
theorem Rs.snoc {v : Dct Str Int} {s : Int} {Ts : List (UTerm × Nat)} {p : UTerm × Nat} {bs : List TreeT} (h : Rs v s (Ts ++ [p]) bs) : ∃ bs0 b, bs = bs0 ++ [b] ∧ Rs v s Ts bs0 ∧ En v s p.1 p.2 b := by
  obtain ⟨h1, h2⟩ := h
  rw [List.length_append, List.length_cons, List.length_nil] at h1
  obtain ⟨bs0, b, rfl⟩ := snoc_of (l := bs) (fun e => by rw [e] at h1; simp at h1)
  rw [List.length_append, List.length_cons, List.length_nil] at h1
  refine ⟨bs0, b, rfl, ⟨by omega, fun i q c e1 e2 => ?_⟩, ?_⟩
  · have l1 := (List.getElem?_eq_some_iff.mp e1).1
    exact h2 i q c (by rw [List.getElem?_append_left l1]; exact e1) (by rw [List.getElem?_append_left (by omega)]; exact e2)
  · refine h2 Ts.length p b ?_ ?_
    · rw [List.getElem?_append_right (Nat.le_refl _), Nat.sub_self]; rfl
    · rw [List.getElem?_append_right (by omega), show Ts.length - bs0.length = 0 by omega]; rfl
theorem Rs.push {v : Dct Str Int} {s : Int} {Ts : List (UTerm × Nat)} {t : UTerm} {k : Nat} {bs : List TreeT} {b : TreeT} (h : Rs v s Ts bs) (e : En v s t k b) : Rs v s (Ts ++ [(t, k)]) (bs ++ [b]) := by
  obtain ⟨h1, h2⟩ := h
  refine ⟨by rw [List.length_append, List.length_append, h1]; rfl, fun i q c e1 e2 => ?_⟩
  have l1 := (List.getElem?_eq_some_iff.mp e1).1
  rw [List.length_append, List.length_cons, List.length_nil] at l1
  by_cases hi : i < Ts.length
  · rw [List.getElem?_append_left hi] at e1
    rw [List.getElem?_append_left (by omega)] at e2
    exact h2 i q c e1 e2
  · rw [List.getElem?_append_right (by omega), show i - Ts.length = 0 by omega] at e1
    rw [List.getElem?_append_right (by omega), show i - bs.length = 0 by omega] at e2
    cases e1; cases e2
    exact e
theorem join_ok {nm : List Str} {sg : Str} (hs : Sgn sg) {Ts0 : List (UTerm × Nat)} {p1 p2 : UTerm × Nat} (hk : sumK (Ts0 ++ [p1] ++ [p2]) ≤ 60) : ∀ v s bs, Rs v s (Ts0 ++ [p1] ++ [p2]) bs → ∃ bs0 b1 b2 b, bs = bs0 ++ [b1] ++ [b2] ∧ m_both sg b1 b2 = some b ∧ bs0.length = Ts0.length ∧ Rs v s (Ts0 ++ [(.c_Joined sg p1.1 p2.1, p1.2 + p2.2)]) (bs0 ++ [b]) := fun v s bs h => by
  obtain ⟨bs1, b2, rfl, r1, e2⟩ := h.snoc
  obtain ⟨bs0, b1, rfl, r0, e1⟩ := r1.snoc
  rw [sumK_app, sumK_app, sumK, sumK, sumK, sumK] at hk
  obtain ⟨b, hb, eb⟩ := both_ok hs e1 e2 (by omega)
  exact ⟨bs0, b1, b2, b, rfl, hb, r0.1, r0.push eb⟩
theorem two_of {Ts : List (UTerm × Nat)} (h : 1 < Ts.length) : ∃ Ts0 p1 p2, Ts = Ts0 ++ [p1] ++ [p2] := by
  obtain ⟨a, y, rfl⟩ := snoc_of (l := Ts) (fun e => by rw [e] at h; simp at h)
  obtain ⟨c, x, rfl⟩ := snoc_of (l := a) (fun e => by rw [e] at h; simp at h)
  exact ⟨c, x, y, rfl⟩
def stepT (nm : List Str) (v : Dct Str Int) (seed salt : Int) : List TreeT → Int → Option (List TreeT) := fun b2 x_cell => if ((decide ((x_cell % (5 : Int)) < (2 : Int))) && (decide ((1 : Int) < (b2.length : Int)))) = true then (popE b2).bind fun t6 => (some t6.1).bind fun x_right => (popE t6.2).bind fun t7 => (some t7.1).bind fun x_left => (sAt ("+-*" : Str) ((x_cell / (5 : Int)) % (3 : Int))).bind fun t8 => (m_both t8 x_left x_right).bind fun t9 => (app t7.2 t9).bind fun t10 => some t10 else (L2.atI [(x_cell / (5 : Int)), seed] (((x_cell / (5 : Int)) % (4 : Int)) / (3 : Int))).bind fun t11 => (m_leaf t11 nm v salt).bind fun t12 => (app b2 t12).bind fun t13 => some t13
theorem step_ok {nm : List Str} (hn : nm.length = 8 ∧ ∀ z ∈ nm, sok z) (seed cell : Int) {Ts : List (UTerm × Nat)} (hT : Ts ≠ []) (hK : sumK Ts ≤ 59) (hl : Ts.length ≤ 1000) : ∃ Ts', Ts' ≠ [] ∧ sumK Ts' ≤ sumK Ts + 1 ∧ Ts'.length ≤ Ts.length + 1 ∧ ∀ v s bs, Good v nm → SOk s → Rs v s Ts bs → ∃ bs', stepT nm v seed s bs cell = some bs' ∧ Rs v s Ts' bs' := by
  by_cases hc : cell % 5 < 2 ∧ 1 < Ts.length
  · obtain ⟨Ts0, p1, p2, rfl⟩ := two_of hc.2
    obtain ⟨sg, es, hs⟩ := sgn_at (i := cell / 5)
    have hK2 := hK
    rw [sumK_app, sumK_app, sumK, sumK, sumK, sumK] at hK2
    refine ⟨Ts0 ++ [(.c_Joined sg p1.1 p2.1, p1.2 + p2.2)], by simp, ?_, by simp, fun v s bs gv gs h => ?_⟩
    · rw [sumK_app, sumK_app, sumK_app, sumK, sumK, sumK, sumK, sumK, sumK]; omega
    · have hbl := h.1
      obtain ⟨bs0, b1, b2, b, rfl, hb, hl0, hr⟩ := join_ok (nm := nm) hs (by omega) v s bs h
      refine ⟨bs0 ++ [b], ?_, hr⟩
      unfold stepT
      rw [if_pos (by rw [decide_eq_true hc.1, decide_eq_true (by rw [hbl]; have := hc.2; omega)]; rfl)]
      refine Ok.eq (.bindE pop_snoc (.bindE rfl (.bindE pop_snoc (.bindE rfl (.bindE es (.bindE hb ?_))))))
      rw [app_p (by show bs0.length < _; simp at hl; omega)]
      exact .bindE rfl (.ret rfl)
  · obtain ⟨c2, ec2, _⟩ := atI_ok (xs := [cell / 5, seed]) (i := cell / 5 % 4 / 3) (by omega) (by simp only [List.length_cons, List.length_nil]; omega)
    obtain ⟨T, hT2⟩ := leaf_ok c2 hn
    refine ⟨Ts ++ [(T, 1)], by simp, by rw [sumK_app, sumK, sumK]; omega, by simp, fun v s bs gv gs h => ?_⟩
    have hbl := h.1
    obtain ⟨b, hb, eb⟩ := hT2 v s gv gs
    refine ⟨bs ++ [b], ?_, h.push eb⟩
    unfold stepT
    rw [if_neg (fun z => hc (by
      rw [Bool.and_eq_true] at z
      have z1 := of_decide_eq_true z.1
      have z2 := of_decide_eq_true z.2
      exact ⟨z1, by omega⟩))]
    refine Ok.eq (.bindE ec2 (.bindE hb ?_))
    rw [app_p (by omega)]
    exact .bindE rfl (.ret rfl)
theorem loop_ok {nm : List Str} (hn : nm.length = 8 ∧ ∀ z ∈ nm, sok z) (seed : Int) : ∀ (cells : List Int) (Ts : List (UTerm × Nat)), Ts ≠ [] → sumK Ts + cells.length ≤ 60 → Ts.length + cells.length ≤ 60 → ∃ Ts', Ts' ≠ [] ∧ sumK Ts' ≤ 60 ∧ Ts'.length ≤ 60 ∧ ∀ v s bs, Good v nm → SOk s → Rs v s Ts bs → ∃ bs', loopN (stepT nm v seed s) bs cells = some bs' ∧ Rs v s Ts' bs'
  | [], Ts, h1, h2, h3 => ⟨Ts, h1, by rw [List.length_nil] at h2; omega, by rw [List.length_nil] at h3; omega, fun v s bs _ _ h => ⟨bs, by rw [loopN], h⟩⟩
  | c :: cs, Ts, h1, h2, h3 => by
    rw [List.length_cons] at h2 h3
    obtain ⟨T1, a1, a2, a3, a4⟩ := step_ok hn seed c h1 (by omega) (by omega)
    obtain ⟨T2, b1, b2, b3, b4⟩ := loop_ok hn seed cs T1 a1 (by omega) (by omega)
    refine ⟨T2, b1, b2, b3, fun v s bs gv gs h => ?_⟩
    obtain ⟨bs1, e1, r1⟩ := a4 v s bs gv gs h
    obtain ⟨bs2, e2, r2⟩ := b4 v s bs1 gv gs r1
    exact ⟨bs2, by rw [loopN, e1]; exact e2, r2⟩
def condT : List TreeT → Option Bool := fun b15 => some (decide ((1 : Int) < (b15.length : Int)))
def endT (seed : Int) : List TreeT → Option (List TreeT) := fun b15 => (popE b15).bind fun t18 => (some t18.1).bind fun x_right => (popE t18.2).bind fun t19 => (some t19.1).bind fun x_left => (sAt ("+-*" : Str) (((t19.2.length : Int) + seed) % (3 : Int))).bind fun t20 => (m_both t20 x_left x_right).bind fun t21 => (app t19.2 t21).bind fun t22 => some t22
theorem while_ok (seed : Int) : ∀ (m : Nat) (Ts : List (UTerm × Nat)), Ts.length = m + 1 → sumK Ts ≤ 60 → Ts.length ≤ 60 → ∃ T k, k ≤ 60 ∧ ∀ v s bs, Rs v s Ts bs → ∀ n, m < n → ∃ b, whileN condT (endT seed) n bs = some [b] ∧ En v s T k b
  | 0, Ts, h1, h2, _ => by
    obtain ⟨p, rfl⟩ : ∃ p, Ts = [p] := by
      match Ts, h1 with
      | [p], _ => exact ⟨p, rfl⟩
    refine ⟨p.1, p.2, by rw [sumK, sumK] at h2; omega, fun v s bs h n hn => ?_⟩
    obtain ⟨bs0, b, rfl, r0, eb⟩ := Rs.snoc (Ts := []) h
    have := List.eq_nil_of_length_eq_zero r0.1
    subst this
    obtain ⟨m, rfl⟩ : ∃ m, n = m + 1 := ⟨n - 1, by omega⟩
    exact ⟨b, by rw [whileN]; rfl, eb⟩
  | m + 1, Ts, h1, h2, h3 => by
    obtain ⟨Ts0, p1, p2, rfl⟩ := two_of (Ts := Ts) (by omega)
    have hl0 : Ts0.length = m := by simp at h1; omega
    obtain ⟨sg, es, hs⟩ := sgn_at (i := (m : Int) + seed)
    have hK2 := h2
    rw [sumK_app, sumK_app, sumK, sumK, sumK, sumK] at hK2
    obtain ⟨T, k, hk, hw⟩ := while_ok seed m (Ts0 ++ [(.c_Joined sg p1.1 p2.1, p1.2 + p2.2)]) (by rw [List.length_append, hl0]; rfl) (by rw [sumK_app, sumK, sumK]; omega) (by rw [List.length_append]; simp only [List.length_cons, List.length_nil]; omega)
    refine ⟨T, k, hk, fun v s bs h n hn => ?_⟩
    obtain ⟨n, rfl⟩ : ∃ m, n = m + 1 := ⟨n - 1, by omega⟩
    have hbl := h.1
    obtain ⟨bs0, b1, b2, b, rfl, hb, hl1, hr⟩ := join_ok (nm := []) hs h2 v s bs h
    obtain ⟨c, ec, hc⟩ := hw v s _ hr n (by omega)
    refine ⟨c, ?_, hc⟩
    have e1 : condT (bs0 ++ [b1] ++ [b2]) = some true := by
      unfold condT
      rw [decide_eq_true (by rw [hbl, h1]; omega)]
    have e2 : endT seed (bs0 ++ [b1] ++ [b2]) = some (bs0 ++ [b]) := by
      unfold endT
      refine Ok.eq (.bindE pop_snoc (.bindE rfl (.bindE pop_snoc (.bindE rfl (.bindE (x := sg) (by show sAt ("+-*" : Str) (((bs0.length : Int) + seed) % 3) = _; rw [hl1, hl0]; exact es) (.bindE hb ?_))))))
      rw [app_p (by show bs0.length < _; omega)]
      exact .bindE rfl (.ret rfl)
    rw [whileN]
    simp only [e1, e2]
    exact ec
theorem tree_ok {nm : List Str} (hn : nm.length = 8 ∧ ∀ z ∈ nm, sok z) (seed : Int) {cells : List Int} (hc : cells.length ≤ 50) : ∃ T k, k ≤ 60 ∧ ∀ v s, Good v nm → SOk s → ∃ b, m_tree cells nm v seed s = some b ∧ En v s T k b := by
  obtain ⟨T0, h0⟩ := leaf_ok seed hn
  obtain ⟨Ts, a1, a2, a3, a4⟩ := loop_ok hn seed cells [(T0, 1)] (by simp) (by rw [sumK, sumK]; omega) (by simp only [List.length_cons, List.length_nil]; omega)
  have hl := List.length_pos_iff.mpr a1
  obtain ⟨T, k, hk, hw⟩ := while_ok seed (Ts.length - 1) Ts (by omega) a2 a3
  refine ⟨T, k, hk, fun v s gv gs => ?_⟩
  obtain ⟨b0, e0, r0⟩ := h0 v s gv gs
  obtain ⟨bs, e1, r1⟩ := a4 v s [b0] gv gs (by
    have := Rs.push (Ts := []) (bs := []) (v := v) (s := s) ⟨rfl, fun i p b e => by simp at e⟩ r0
    exact this)
  obtain ⟨b, e2, hb⟩ := hw v s bs r1 100000 (by omega)
  refine ⟨b, ?_, hb⟩
  unfold m_tree
  refine Ok.eq (.bindE e0 (.bindE rfl (.bindE (show loopN (stepT nm v seed s) [b0] cells = some bs from e1) (.bindE (show whileN condT (endT seed) 100000 bs = some [b] from e2) (.bindE (x := b) rfl (.ret rfl))))))
theorem values_ok (ns : List Int) {nm : List Str} (hn : nm.length = 8) (more : Int) : Ok (m_values ns nm more) fun d => Good d nm := by
  unfold m_values
  refine .bindE rfl (.bind (P := fun d : Dct Str Int => Good d nm) (Ok.range (n := 3) (Q := fun d : Dct Str Int => Good d nm) (fun k (d : Dct Str Int) => (d.l.map (·.1)).Nodup ∧ d.l.length ≤ k ∧ (∀ z x, kvLook d.l z = some x → x.natAbs < 2 ^ 62) ∧ ∀ (i : Nat) (z : Str), i < k → nm[i]? = some z → ∃ x, kvLook d.l z = some x) ⟨List.nodup_nil, Nat.le_refl 0, (fun z x e => by cases e), fun i z hi => by omega⟩ (fun k d hk ⟨h1, h2, h3, h4⟩ => ?_) fun d ⟨h1, _, h3, h4⟩ => ⟨h1, fun i z hi e => ?_⟩) fun d hd => .ret hd)
  · refine .bind (cell_at_ok ns (by omega)) fun c _ => .bind (number_ok _ (2 * 1000000000000000000) (by decide)) fun q ⟨q1, q2⟩ => ?_
    obtain ⟨z, ez, ez2⟩ := atI_ok (xs := nm) (i := (k : Int)) (by omega) (by omega)
    rw [Int.toNat_natCast] at ez2
    refine .bindE ez ?_
    rw [dputG_p (by omega)]
    refine .bindE rfl (.ret ⟨kvPut_nd h1, ?_, fun y x e => ?_, fun i y hi e => ?_⟩)
    · have := kvPut_len d.l z q
      show (kvPut d.l z q).length ≤ _
      omega
    · have e : kvLook (kvPut d.l z q) y = some x := e
      rw [kvLook_put] at e
      split at e
      · cases e; omega
      · exact h3 y x e
    · show ∃ x, kvLook (kvPut d.l z q) y = some x
      rw [kvLook_put]
      by_cases hz : z = y
      · exact ⟨q, if_pos hz⟩
      · rw [if_neg hz]
        refine h4 i y ?_ e
        rcases Nat.lt_or_ge i k with g | g
        · exact g
        · have : i = k := by omega
          subst this
          rw [ez2] at e
          exact absurd (Option.some.inj e) hz
  · obtain ⟨x, hx⟩ := h4 i z hi e
    exact ⟨x, hx, h3 z x hx⟩
theorem zip_self {α : Type} : ∀ {l : List α} {x : T2 α α}, x ∈ zipL l l → x.a ∈ l ∧ x.a = x.b
  | a :: l, x, h => by
    rcases List.mem_cons.mp (show x ∈ T2.mk a a :: zipL l l from h) with e | e
    · rw [e]; exact ⟨List.mem_cons_self, rfl⟩
    · exact ⟨List.mem_cons_of_mem _ (zip_self e).1, (zip_self e).2⟩
theorem alike_self {l : List (T2 Str (Tp (T2 Str Int)))} (h : PdL.tx l) : m_alike l l = some true := by
  refine Ok.eq ?_
  unfold m_alike
  rw [if_neg (by rw [decide_eq_true rfl]; decide)]
  refine .bindE (x := Lp.nx ()) (Ok.eq (Ok.loopM (J := fun _ ys => ∀ y ∈ ys, y ∈ zipL l l) (fun _ h => h) (fun b x ys hy => ?_) fun b _ => rfl)) (.ret rfl)
  obtain ⟨h1, h2⟩ := zip_self (hy x List.mem_cons_self)
  refine .bindE (x := false) ?_ ?_
  · rw [if_neg (by decide)]
    refine Ok.eq (.bindE (eqG_L (h _ h1) (by rw [← h2]; exact h _ h1)) (.ret ?_))
    rw [decide_eq_true h2]; rfl
  · rw [if_neg Bool.false_ne_true, if_neg (by decide)]
    exact .ret fun y hy2 => hy y (List.mem_cons_of_mem _ hy2)
theorem places_self {l : List (T2 Str (Tp Int))} (h : PdL.tx l) (hp : ∀ q ∈ l, q.b.l.length ≤ 3) : m_places l l = some true := by
  refine Ok.eq ?_
  unfold m_places
  refine .bindE (eqG_L h h) ?_
  rw [if_neg (by rw [decide_eq_true rfl]; decide)]
  refine .bindE (x := Lp.nx ()) (Ok.eq (Ok.loopM (J := fun _ ys => ∀ y ∈ ys, y ∈ l) (fun _ h => h) (fun b x ys hy => ?_) fun b _ => rfl)) (.ret rfl)
  have h3 := hp x (hy x List.mem_cons_self)
  rw [if_neg (by decide)]
  refine .bind (Ok.compf (P := fun t => t = x.b.l) (fun _ => true) id (by omega) (fun y _ => rfl) (by rw [List.map_id]; exact List.filter_eq_self.mpr fun _ _ => rfl)) fun t ht => ?_
  subst ht
  rw [if_neg (by rw [decide_eq_true rfl]; decide)]
  exact .ret fun y hy2 => hy y (List.mem_cons_of_mem _ hy2)
theorem law_true (ns : List Int) (h : ns.length ≤ 63) : m_law ns = some true := by
  refine Ok.true_ ?_
  unfold m_law
  refine .bind (cell_at_ok ns (by decide)) fun c0 _ => ?_
  obtain ⟨w, at_, long, x, mode, hw, hs, h1, h2, e⟩ := names_ok c0 8 (by decide) (by decide)
  have hn : ((intsF 0 (8 : Int).toNat).map fun k => S (nmK w at_ long x mode k)).length = 8 := by rw [List.length_map, ints_len]; rfl
  have hq : ∀ z ∈ ((intsF 0 (8 : Int).toNat).map fun k => S (nmK w at_ long x mode k)), sok z := fun z hz => by
    obtain ⟨k, _, rfl⟩ := List.mem_map.mp hz
    intro c hc
    have e : cl (S (nmK w at_ long x mode k)) = nmK w at_ long x mode k := cl_S _
    rw [e] at hc
    have := ((nmK_good (k := k) (x := x) (mode := mode) hw hs h1 h2).2.2.1 c hc).2
    omega
  generalize ((intsF 0 (8 : Int).toNat).map fun k => S (nmK w at_ long x mode k)) = nm at e hn hq
  refine .bindE e (.bindE rfl (.bind (cell_at_ok ns (by decide)) fun seed _ => .bindE rfl (.bindE rfl ?_)))
  have g1 := Int.emod_nonneg seed (show (1000003 : Int) ≠ 0 by decide)
  have g2 := Int.emod_lt_of_pos seed (show (0 : Int) < 1000003 by decide)
  generalize seed % 1000003 = salt at g1 g2
  have s1 : SOk salt := ⟨g1, by omega⟩
  refine .bind (values_ok ns hn _) fun ones G1 => .bindE rfl (.bindE rfl ?_)
  obtain ⟨T, k, hk, ht⟩ := tree_ok ⟨hn, hq⟩ seed (cells := cut ns (some (5 : Int)) (some (44 : Int))) (by rw [cut_mid (by decide) (by decide), List.length_take]; show min (44 - 5) _ ≤ 50; omega)
  obtain ⟨b1, e1, t1⟩ := ht ones salt G1 s1
  have ea := t1.a
  have w1 : m_Term_worth 60 b1.a ones (fun a_ => m_law_held_here salt a_.2 a_.1.1 a_.1.2.1) [] = some (b1.b, b1.d) := by rw [ea]; exact t1.w 60 hk [] (by show 0 + k ≤ 1000; omega)
  have r1 : m_Term_reads 60 b1.a = some b1.c := by rw [ea]; exact t1.r 60 hk
  have al := alike_self t1.tc
  have pl := places_self t1.td t1.dp
  have cl_ := t1.c
  refine .bindE e1 (.bindE rfl (.bindE r1 (.bindE rfl (.bindE al ?_))))
  rw [if_neg (by decide)]
  refine .bindE w1 (.bindE pl ?_)
  rw [if_neg (by decide), app_p (by have : (1000 : Nat) ≤ sizeLine := by decide
                                    omega)]
  refine .bindE rfl (.bindE r1 (.bindE al ?_))
  rw [if_neg (by rw [List.length_append, List.length_singleton, Int.natCast_add, decide_eq_true (by rfl)]; decide)]
  refine .bindE w1 (.bindE pl (.bindE (x := true) ?_ (.ret rfl)))
  rw [if_pos rfl]
  exact Ok.eq (.bindE r1 (.bindE al (.ret rfl)))
abbrev cf_law_held_here (f_ c_ : Addr) (q_ : Str) (cl_ : List (Str × Addr)) (l_ : Addr) (v_salt : V) (x_salt : Int) : Fnv ((Str × (Tp Int) × Unit) × (List (T2 Str (Tp Int)))) (Int × (List (T2 Str (Tp Int)))) := ⟨f_, ⟨"_law_held_here", q_, defArgs s_law_held_here, defBody s_law_held_here, defScope s_law_held_here, cl_, c_⟩, ["_law_asked", "_law_salt"], [some (.ref l_), some v_salt], fun K F => rp (α := Int) K F v_salt x_salt ∧ True, fun s_ h_ => ⟨Rp.mono s_ h_.1, trivial⟩, fun a_ => m_law_held_here x_salt a_.2 a_.1.1 a_.1.2.1⟩
structure Txt (K : PySem.W.Frag) (mg : Str → Option Value) where
  d_cell_at : FuncData
  F_cell_at : FunD K "_law_cell_at" "_law_cell_at" (defArgs s_cell_at) (defBody s_cell_at) (defScope s_cell_at) [] [] (He.fAd K ("_law_cell_at", none)) d_cell_at
  g_cell_at : mg "_law_cell_at" = some (.ref (He.fAd K ("_law_cell_at", none)))
  d_stream : FuncData
  F_stream : FunD K "_law_stream" "_law_stream" (defArgs s_stream) (defBody s_stream) (defScope s_stream) [] [] (He.fAd K ("_law_stream", none)) d_stream
  g_stream : mg "_law_stream" = some (.ref (He.fAd K ("_law_stream", none)))
  d_names : FuncData
  F_names : FunD K "_law_names" "_law_names" (defArgs s_names) (defBody s_names) (defScope s_names) [] [] (He.fAd K ("_law_names", none)) d_names
  g_names : mg "_law_names" = some (.ref (He.fAd K ("_law_names", none)))
  d_number : FuncData
  F_number : FunD K "_law_number" "_law_number" (defArgs s_number) (defBody s_number) (defScope s_number) [] [] (He.fAd K ("_law_number", none)) d_number
  g_number : mg "_law_number" = some (.ref (He.fAd K ("_law_number", none)))
  d_values : FuncData
  F_values : FunD K "_law_values" "_law_values" (defArgs s_values) (defBody s_values) (defScope s_values) [] [] (He.fAd K ("_law_values", none)) d_values
  g_values : mg "_law_values" = some (.ref (He.fAd K ("_law_values", none)))
  d_held : FuncData
  F_held : FunD K "_law_held" "_law_held" (defArgs s_held) (defBody s_held) (defScope s_held) [] [] (He.fAd K ("_law_held", none)) d_held
  g_held : mg "_law_held" = some (.ref (He.fAd K ("_law_held", none)))
  d_Number_init : FuncData
  F_Number_init : FunD K "__init__" "Number.__init__" (defArgs s_Number_init) (defBody s_Number_init) (defScope s_Number_init) [] [] (He.fAd K ("Number", some "__init__")) d_Number_init
  d_Value_init : FuncData
  F_Value_init : FunD K "__init__" "Value.__init__" (defArgs s_Value_init) (defBody s_Value_init) (defScope s_Value_init) [] [] (He.fAd K ("Value", some "__init__")) d_Value_init
  d_Cell_init : FuncData
  F_Cell_init : FunD K "__init__" "Cell.__init__" (defArgs s_Cell_init) (defBody s_Cell_init) (defScope s_Cell_init) [] [] (He.fAd K ("Cell", some "__init__")) d_Cell_init
  d_leaf : FuncData
  F_leaf : FunD K "_law_leaf" "_law_leaf" (defArgs s_leaf) (defBody s_leaf) (defScope s_leaf) [] [] (He.fAd K ("_law_leaf", none)) d_leaf
  g_leaf : mg "_law_leaf" = some (.ref (He.fAd K ("_law_leaf", none)))
  d_Joined_init : FuncData
  F_Joined_init : FunD K "__init__" "Joined.__init__" (defArgs s_Joined_init) (defBody s_Joined_init) (defScope s_Joined_init) [] [] (He.fAd K ("Joined", some "__init__")) d_Joined_init
  d_both : FuncData
  F_both : FunD K "_law_both" "_law_both" (defArgs s_both) (defBody s_both) (defScope s_both) [] [] (He.fAd K ("_law_both", none)) d_both
  g_both : mg "_law_both" = some (.ref (He.fAd K ("_law_both", none)))
  d_tree : FuncData
  F_tree : FunD K "_law_tree" "_law_tree" (defArgs s_tree) (defBody s_tree) (defScope s_tree) [] [] (He.fAd K ("_law_tree", none)) d_tree
  g_tree : mg "_law_tree" = some (.ref (He.fAd K ("_law_tree", none)))
  d_alike : FuncData
  F_alike : FunD K "_law_alike" "_law_alike" (defArgs s_alike) (defBody s_alike) (defScope s_alike) [] [] (He.fAd K ("_law_alike", none)) d_alike
  g_alike : mg "_law_alike" = some (.ref (He.fAd K ("_law_alike", none)))
  d_placed : FuncData
  F_placed : FunD K "placed" "placed" (defArgs s_placed) (defBody s_placed) (defScope s_placed) [] [] (He.fAd K ("placed", none)) d_placed
  g_placed : mg "placed" = some (.ref (He.fAd K ("placed", none)))
  d_Number_worth : FuncData
  F_Number_worth : FunD K "worth" "Number.worth" (defArgs s_Number_worth) (defBody s_Number_worth) (defScope s_Number_worth) [] [] (He.fAd K ("Number", some "worth")) d_Number_worth
  me_Number_worth : Meth K (He.ga K "Number") "worth" (He.fAd K ("Number", some "worth"))
  d_Value_worth : FuncData
  F_Value_worth : FunD K "worth" "Value.worth" (defArgs s_Value_worth) (defBody s_Value_worth) (defScope s_Value_worth) [] [] (He.fAd K ("Value", some "worth")) d_Value_worth
  me_Value_worth : Meth K (He.ga K "Value") "worth" (He.fAd K ("Value", some "worth"))
  d_Cell_worth : FuncData
  F_Cell_worth : FunD K "worth" "Cell.worth" (defArgs s_Cell_worth) (defBody s_Cell_worth) (defScope s_Cell_worth) [] [] (He.fAd K ("Cell", some "worth")) d_Cell_worth
  me_Cell_worth : Meth K (He.ga K "Cell") "worth" (He.fAd K ("Cell", some "worth"))
  d_Joined_worth : FuncData
  F_Joined_worth : FunD K "worth" "Joined.worth" (defArgs s_Joined_worth) (defBody s_Joined_worth) (defScope s_Joined_worth) [] [] (He.fAd K ("Joined", some "worth")) d_Joined_worth
  me_Joined_worth : Meth K (He.ga K "Joined") "worth" (He.fAd K ("Joined", some "worth"))
  d_whole : FuncData
  F_whole : FunD K "_law_whole" "_law_whole" (defArgs s_whole) (defBody s_whole) (defScope s_whole) [] [] (He.fAd K ("_law_whole", none)) d_whole
  g_whole : mg "_law_whole" = some (.ref (He.fAd K ("_law_whole", none)))
  d_places : FuncData
  F_places : FunD K "_law_places" "_law_places" (defArgs s_places) (defBody s_places) (defScope s_places) [] [] (He.fAd K ("_law_places", none)) d_places
  g_places : mg "_law_places" = some (.ref (He.fAd K ("_law_places", none)))
  d_Number_reads : FuncData
  F_Number_reads : FunD K "reads" "Term.reads" (defArgs s_Number_reads) (defBody s_Number_reads) (defScope s_Number_reads) [] [] (He.fAd K ("Number", some "reads")) d_Number_reads
  me_Number_reads : Meth K (He.ga K "Number") "reads" (He.fAd K ("Number", some "reads"))
  d_Value_reads : FuncData
  F_Value_reads : FunD K "reads" "Term.reads" (defArgs s_Value_reads) (defBody s_Value_reads) (defScope s_Value_reads) [] [] (He.fAd K ("Value", some "reads")) d_Value_reads
  me_Value_reads : Meth K (He.ga K "Value") "reads" (He.fAd K ("Value", some "reads"))
  d_Cell_reads : FuncData
  F_Cell_reads : FunD K "reads" "Cell.reads" (defArgs s_Cell_reads) (defBody s_Cell_reads) (defScope s_Cell_reads) [] [] (He.fAd K ("Cell", some "reads")) d_Cell_reads
  me_Cell_reads : Meth K (He.ga K "Cell") "reads" (He.fAd K ("Cell", some "reads"))
  d_Joined_reads : FuncData
  F_Joined_reads : FunD K "reads" "Joined.reads" (defArgs s_Joined_reads) (defBody s_Joined_reads) (defScope s_Joined_reads) [] [] (He.fAd K ("Joined", some "reads")) d_Joined_reads
  me_Joined_reads : Meth K (He.ga K "Joined") "reads" (He.fAd K ("Joined", some "reads"))
  d_law : FuncData
  F_law : FunD K "law" "law" (defArgs s_law) (defBody s_law) (defScope s_law) [] [] (He.fAd K ("law", none)) d_law
  g_law : mg "law" = some (.ref (He.fAd K ("law", none)))
  g_Number : mg "Number" = some (.ref (He.ga K "Number"))
  cl_Number : Cls K (He.ga K "Number")
  mk_Number : Mk K (He.ga K "Number") (He.fAd K ("Number", some "__init__"))
  na_Number_n : NoAttr K (He.ga K "Number") "n"
  g_Value : mg "Value" = some (.ref (He.ga K "Value"))
  cl_Value : Cls K (He.ga K "Value")
  mk_Value : Mk K (He.ga K "Value") (He.fAd K ("Value", some "__init__"))
  na_Value_name : NoAttr K (He.ga K "Value") "name"
  g_Cell : mg "Cell" = some (.ref (He.ga K "Cell"))
  cl_Cell : Cls K (He.ga K "Cell")
  mk_Cell : Mk K (He.ga K "Cell") (He.fAd K ("Cell", some "__init__"))
  na_Cell_table : NoAttr K (He.ga K "Cell") "table"
  na_Cell_spots : NoAttr K (He.ga K "Cell") "spots"
  g_Joined : mg "Joined" = some (.ref (He.ga K "Joined"))
  cl_Joined : Cls K (He.ga K "Joined")
  mk_Joined : Mk K (He.ga K "Joined") (He.fAd K ("Joined", some "__init__"))
  na_Joined_sign : NoAttr K (He.ga K "Joined") "sign"
  na_Joined_left : NoAttr K (He.ga K "Joined") "left"
  na_Joined_right : NoAttr K (He.ga K "Joined") "right"
  n_abs : mg "abs" = none
  n_bool : mg "bool" = none
  n_dict : mg "dict" = none
  n_int : mg "int" = none
  n_isinstance : mg "isinstance" = none
  n_len : mg "len" = none
  n_list : mg "list" = none
  n_ord : mg "ord" = none
  n_range : mg "range" = none
  n_str : mg "str" = none
  n_tuple : mg "tuple" = none
  n_zip : mg "zip" = none
structure TxB (K : PySem.W.Frag) (mg : Str → Option Value) (base : Heap) extends Txt K mg where
  tb : ∀ p ∈ tfG, LamX.TabB base mg (He.cT K p).1 (He.cT K p).2
theorem TxB.tb_law {K : PySem.W.Frag} {mg : Str → Option Value} {base : Heap} (T : TxB K mg base) : LamX.TabB base mg (He.codeOf K ("law", none)) (He.tabOf K (He.codeOf K ("law", none))) := T.tb ("law", none) (.head _)
section
variable {P : Program} {w : World} {K : PySem.W.Frag} {mg : Str → Option Value} {base : Heap}
theorem Txt.f_Number_n (T : Txt K mg) : FldOf K "n" (fun d : QNumber => d.n) := fun F v d ⟨a, dx, vs, e, hF, ra_⟩ => by
  obtain ⟨v0, _, rfl, r0, rfl⟩ := ra_
  exact ⟨a, _, dx, _, v0, e, hF, T.cl_Number, T.na_Number_n, zlook (i := 0) (by decide +kernel) (by decide) rfl, r0⟩
theorem Txt.f_Value_name (T : Txt K mg) : FldOf K "name" (fun d : QValue => d.name) := fun F v d ⟨a, dx, vs, e, hF, ra_⟩ => by
  obtain ⟨v0, _, rfl, r0, rfl⟩ := ra_
  exact ⟨a, _, dx, _, v0, e, hF, T.cl_Value, T.na_Value_name, zlook (i := 0) (by decide +kernel) (by decide) rfl, r0⟩
theorem Txt.f_Cell_table (T : Txt K mg) : FldOf K "table" (fun d : QCell => d.table) := fun F v d ⟨a, dx, vs, e, hF, ra_⟩ => by
  obtain ⟨v0, _, rfl, r0, ⟨v1, _, rfl, r1, rfl⟩⟩ := ra_
  exact ⟨a, _, dx, _, v0, e, hF, T.cl_Cell, T.na_Cell_table, zlook (i := 0) (by decide +kernel) (by decide) rfl, r0⟩
theorem Txt.f_Cell_spots (T : Txt K mg) : FldOf K "spots" (fun d : QCell => d.spots) := fun F v d ⟨a, dx, vs, e, hF, ra_⟩ => by
  obtain ⟨v0, _, rfl, r0, ⟨v1, _, rfl, r1, rfl⟩⟩ := ra_
  exact ⟨a, _, dx, _, v1, e, hF, T.cl_Cell, T.na_Cell_spots, zlook (i := 1) (by decide +kernel) (by decide) rfl, r1⟩
theorem Txt.f_Joined_sign (T : Txt K mg) : FldOf K "sign" (fun d : QJoined => d.sign) := fun F v d ⟨a, dx, vs, e, hF, ra_⟩ => by
  obtain ⟨v0, _, rfl, r0, ⟨v1, _, rfl, r1, ⟨v2, _, rfl, r2, rfl⟩⟩⟩ := ra_
  exact ⟨a, _, dx, _, v0, e, hF, T.cl_Joined, T.na_Joined_sign, zlook (i := 0) (by decide +kernel) (by decide) rfl, r0⟩
theorem Txt.f_Joined_left (T : Txt K mg) : FldOf K "left" (fun d : QJoined => d.left) := fun F v d ⟨a, dx, vs, e, hF, ra_⟩ => by
  obtain ⟨v0, _, rfl, r0, ⟨v1, _, rfl, r1, ⟨v2, _, rfl, r2, rfl⟩⟩⟩ := ra_
  exact ⟨a, _, dx, _, v1, e, hF, T.cl_Joined, T.na_Joined_left, zlook (i := 1) (by decide +kernel) (by decide) rfl, r1⟩
theorem Txt.f_Joined_right (T : Txt K mg) : FldOf K "right" (fun d : QJoined => d.right) := fun F v d ⟨a, dx, vs, e, hF, ra_⟩ => by
  obtain ⟨v0, _, rfl, r0, ⟨v1, _, rfl, r1, ⟨v2, _, rfl, r2, rfl⟩⟩⟩ := ra_
  exact ⟨a, _, dx, _, v2, e, hF, T.cl_Joined, T.na_Joined_right, zlook (i := 2) (by decide +kernel) (by decide) rfl, r2⟩
theorem sc_cell_at : FnScope ["_law_script", "_law_k"] ["_law_script", "_law_k"] (defScope s_cell_at) := ⟨rfl, rfl, rfl, by decide +kernel, rfl, by decide +kernel, by decide +kernel⟩
theorem b_cell_at (T : TxB K mg base) : Binds K T.d_cell_at ["_law_script", "_law_k"] [] := T.F_cell_at.bindsN fun _ _ _ _ _ _ us hl => match us, hl with | [_, _], _ => rfl
theorem kv_cell_at_0 : VKn (defScope s_cell_at) "_law_script" := ⟨by first | exact Or.inl (by decide +kernel) | exact Or.inr (Or.inl (by decide +kernel)) | exact Or.inr (Or.inr (by decide +kernel)), by decide, by decide⟩
theorem kv_cell_at_1 : VKn (defScope s_cell_at) "_law_k" := ⟨by first | exact Or.inl (by decide +kernel) | exact Or.inr (Or.inl (by decide +kernel)) | exact Or.inr (Or.inr (by decide +kernel)), by decide, by decide⟩
theorem ok_cell_at (T : TxB K mg base) : FnOk P w K mg base CX0 1 (He.fAd K ("_law_cell_at", none)) T.d_cell_at ["_law_script", "_law_k"] (Pr K fun (a_ : (List Int) × Int × Unit) => m_cell_at a_.1 a_.2.1) := by
  refine fn_ok T.F_cell_at sc_cell_at rfl fun cdv A outer s_ F0 H0 vs a_ r D_ E_ hr sm_ ra_ hm kr kn => ?_
  obtain ⟨v_script, _, rfl, r_script, v_k, _, rfl, r_k, rfl⟩ := ra_
  obtain ⟨x_script, x_k, _u⟩ := a_
  have G : GrX K F0 H0 F0 H0 := .refl sm_
  replace hm : m_cell_at x_script x_k = some r := hm
  unfold m_cell_at at hm
  have r_script : rp (α := (List Int)) K F0 v_script x_script := r_script
  have r_k : rp (α := Int) K F0 v_k x_k := r_k
  change GoS _ _ _ [some v_script, some v_k] _
  refine go_ifA ((decide (x_k < (x_script.length : Int)))) G.sm (et_cmp op_lt o2_lt (ev_varK 1 rfl r_k kv_cell_at_1) (ev_callB call_len_seq oc_lenL T.n_len PySem.boot_len (ea_cons (ev_varK 0 rfl r_script kv_cell_at_0) ea_nil)) (nomark _)) (fun hc F H g => ?_) (fun hc F H g => ?_)
  · replace hm := ipos hc hm
    have G := G.trans g
    have r_script := Rp.mono g.ff r_script
    have r_k := Rp.mono g.ff r_k
    obtain ⟨t1, h_t1, hm⟩ := Option.bind_eq_some_iff.mp hm
    exact go_ret G.sm (ev_ixL (ev_varK 0 rfl r_script kv_cell_at_0) (ev_varK 1 rfl r_k kv_cell_at_1) h_t1) fun v_ F_ H_ g_ rv_ => kr _ _ _ (G.trans g_) (cg (Option.some.inj hm) rv_)
  · replace hm := ineg (nt hc) hm
    have G := G.trans g
    have r_script := Rp.mono g.ff r_script
    have r_k := Rp.mono g.ff r_k
    refine GoS.nil ?_
    exact go_ret G.sm ev_int fun v_ F_ H_ g_ rv_ => kr _ _ _ (G.trans g_) (cg (Option.some.inj hm) rv_)
theorem sc_stream : FnScope ["_law_cell", "_law_many", "_law_found", "_law_number_here", "_law_k"] ["_law_cell", "_law_many"] (defScope s_stream) := ⟨rfl, rfl, rfl, by decide +kernel, rfl, by decide +kernel, by decide +kernel⟩
theorem b_stream (T : TxB K mg base) : Binds K T.d_stream ["_law_cell", "_law_many"] [] := T.F_stream.bindsN fun _ _ _ _ _ _ us hl => match us, hl with | [_, _], _ => rfl
theorem kv_stream_0 : VKn (defScope s_stream) "_law_cell" := ⟨by first | exact Or.inl (by decide +kernel) | exact Or.inr (Or.inl (by decide +kernel)) | exact Or.inr (Or.inr (by decide +kernel)), by decide, by decide⟩
theorem kv_stream_1 : VKn (defScope s_stream) "_law_many" := ⟨by first | exact Or.inl (by decide +kernel) | exact Or.inr (Or.inl (by decide +kernel)) | exact Or.inr (Or.inr (by decide +kernel)), by decide, by decide⟩
theorem kv_stream_2 : VKn (defScope s_stream) "_law_found" := ⟨by first | exact Or.inl (by decide +kernel) | exact Or.inr (Or.inl (by decide +kernel)) | exact Or.inr (Or.inr (by decide +kernel)), by decide, by decide⟩
theorem kv_stream_3 : VKn (defScope s_stream) "_law_number_here" := ⟨by first | exact Or.inl (by decide +kernel) | exact Or.inr (Or.inl (by decide +kernel)) | exact Or.inr (Or.inr (by decide +kernel)), by decide, by decide⟩
theorem kv_stream_4 : VKn (defScope s_stream) "_law_k" := ⟨by first | exact Or.inl (by decide +kernel) | exact Or.inr (Or.inl (by decide +kernel)) | exact Or.inr (Or.inr (by decide +kernel)), by decide, by decide⟩
theorem ok_stream (T : TxB K mg base) : FnOk P w K mg base CX0 1 (He.fAd K ("_law_stream", none)) T.d_stream ["_law_cell", "_law_many"] (Pr K fun (a_ : Int × Int × Unit) => m_stream a_.1 a_.2.1) := by
  refine fn_ok T.F_stream sc_stream rfl fun cdv A outer s_ F0 H0 vs a_ r D_ E_ hr sm_ ra_ hm kr kn => ?_
  obtain ⟨v_cell, _, rfl, r_cell, v_many, _, rfl, r_many, rfl⟩ := ra_
  obtain ⟨x_cell, x_many, _u⟩ := a_
  have G : GrX K F0 H0 F0 H0 := .refl sm_
  replace hm : m_stream x_cell x_many = some r := hm
  unfold m_stream at hm
  have r_cell : rp (α := Int) K F0 v_cell x_cell := r_cell
  have r_many : rp (α := Int) K F0 v_many x_many := r_many
  change GoS _ _ _ [some v_cell, some v_many, none, none, none] _
  obtain ⟨x_found, he, hm⟩ := Option.bind_eq_some_iff.mp hm
  refine go_setNA ((List Int)) 2 G.sm (en_list el_nil (Nat.zero_le _)) (fun l_found vs_ F H g nl_ fl_ hl_ rs_ => ?_) sc_stream.nd
  have n0_ := G.hh.free nl_
  have G := G.trans g
  have r_cell := Rp.mono g.ff r_cell
  have r_many := Rp.mono g.ff r_many
  have o_found : Own K _ F H l_found _ := Own.cg (Option.some.inj he) ⟨n0_, fl_, vs_, hl_, rs_⟩
  change GoS _ _ _ [some v_cell, some v_many, some (.ref l_found), none, none] _
  obtain ⟨x_number_here, he, hm⟩ := Option.bind_eq_some_iff.mp hm
  refine go_setA (Int) 3 G.sm (ev_add (ev_mod (ev_varK 0 rfl r_cell kv_stream_0) ev_int (by decide)) ev_int) (fun v_number_here F H g rn_ => ?_) sc_stream.nd
  have G := G.trans g
  have r_cell := Rp.mono g.ff r_cell
  have r_many := Rp.mono g.ff r_many
  have o_found := o_found.up g
  have r_number_here := cg (Option.some.inj he) rn_
  change GoS _ _ _ [some v_cell, some v_many, some (.ref l_found), some v_number_here, none] _
  obtain ⟨t1, h_t1, hm⟩ := Option.bind_eq_some_iff.mp hm
  obtain ⟨b8, ho_, hm⟩ := Option.bind_eq_some_iff.mp hm
  refine go_forN G.sm (ei_range1 (ev_add (ev_varK 1 rfl r_many kv_stream_1) ev_int) h_t1 T.n_range) (pg_name (i := 4) sc_stream.nd rfl (by first | exact Or.inl rfl | exact Or.inr rfl)) ho_ (fun F H g => ?_) PassesOwn.never
  have G := G.trans g
  have o_found := o_found.up g
  have r_number_here := Rp.mono g.ff r_number_here
  refine ⟨fun (b2 : (Int × (List Int))) σ_ F_ H_ => ∃ (u_k : Option V) (v_number_here : V), σ_ = [some v_cell, some v_many, some (.ref l_found), some v_number_here, u_k] ∧ GrX K F0 H0 F_ H_ ∧ rp (α := Int) K F_ v_number_here b2.1 ∧ Own K H0 F_ H_ l_found b2.2, ⟨_, _, rfl, G, r_number_here, o_found⟩, ?_, ?_⟩
  ·
    intro b2 x_k o_ hm σ_ F H v_k s1_ s2_ iv_ F H g r_k Q_ hQ_
    obtain ⟨u_k, v_number_here, rfl, G, r_number_here, o_found⟩ := iv_
    have sb5 := g.ff
    have G := G.trans g
    have o_found := o_found.up g
    have r_number_here := Rp.mono g.ff r_number_here
    refine hQ_ _ _ ?_
    change GoS _ _ _ [some v_cell, some v_many, some (.ref l_found), some v_number_here, some v_k] _
    obtain ⟨t6, h_t6, hm⟩ := Option.bind_eq_some_iff.mp hm
    obtain ⟨x_number_here, he, hm⟩ := Option.bind_eq_some_iff.mp hm
    refine go_setA (Int) 3 G.sm (ev_mod (ev_add (ev_add (ev_mulG (ev_varK 3 rfl r_number_here kv_stream_3) (ev_varK 3 rfl r_number_here kv_stream_3) h_t6) (ev_mul ev_int (ev_varK 3 rfl r_number_here kv_stream_3) (CMul.l (by decide)))) (ev_varK 4 rfl r_k kv_stream_4)) ev_int (by decide)) (fun v_number_here F H g rn_ => ?_) sc_stream.nd
    have G := G.trans g
    have o_found := o_found.up g
    have r_k := Rp.mono g.ff r_k
    have sb5 := sb5.trans g.ff
    have r_number_here := cg (Option.some.inj he) rn_
    obtain ⟨t7, he, hm⟩ := Option.bind_eq_some_iff.mp hm
    refine go_append 2 G.sm o_found rfl (ev_varK 3 rfl r_number_here kv_stream_3) he (fun w_ F H g nz_ fz_ on_ => ?_)
    have G := G.trans g
    have r_number_here := Rp.mono g.ff r_number_here
    have sb5 := sb5.trans g.ff
    have G := G.poke (u := w_) on_.n fz_ nz_ on_.pl
    have o_found := on_
    have hm := Option.some.inj hm
    subst hm
    exact GoS.nil ⟨_, sb5, G.fh, ⟨_, _, rfl, G, r_number_here, o_found⟩⟩
  · intro σ_ F H s1_ s2_ iv_
    obtain ⟨u_k, v_number_here, rfl, G, r_number_here, o_found⟩ := iv_
    refine o_found.freeze G (fun F H s_ s2_ G r_found k_ => ?_)
    exact go_ret G.sm (EvN.evA ((List Int)) (en_slice (ev_varK 2 rfl r_found kv_stream_2) (eo_some ev_int) eo_none)) fun v_ F_ H_ g_ rv_ => kr _ _ _ (G.trans g_) (cg (Option.some.inj hm) rv_)
theorem sc_names : FnScope ["_law_cell", "_law_many", "_law_letters", "_law_xs", "_law_word", "_law_x", "_law_long", "_law_at", "_law_found", "_law_k", "_law_sign", "_law_name"] ["_law_cell", "_law_many"] (defScope s_names) := ⟨rfl, rfl, rfl, by decide +kernel, rfl, by decide +kernel, by decide +kernel⟩
theorem b_names (T : TxB K mg base) : Binds K T.d_names ["_law_cell", "_law_many"] [] := T.F_names.bindsN fun _ _ _ _ _ _ us hl => match us, hl with | [_, _], _ => rfl
theorem kv_names_0 : VKn (defScope s_names) "_law_cell" := ⟨by first | exact Or.inl (by decide +kernel) | exact Or.inr (Or.inl (by decide +kernel)) | exact Or.inr (Or.inr (by decide +kernel)), by decide, by decide⟩
theorem kv_names_1 : VKn (defScope s_names) "_law_many" := ⟨by first | exact Or.inl (by decide +kernel) | exact Or.inr (Or.inl (by decide +kernel)) | exact Or.inr (Or.inr (by decide +kernel)), by decide, by decide⟩
theorem kv_names_2 : VKn (defScope s_names) "_law_letters" := ⟨by first | exact Or.inl (by decide +kernel) | exact Or.inr (Or.inl (by decide +kernel)) | exact Or.inr (Or.inr (by decide +kernel)), by decide, by decide⟩
theorem kv_names_3 : VKn (defScope s_names) "_law_xs" := ⟨by first | exact Or.inl (by decide +kernel) | exact Or.inr (Or.inl (by decide +kernel)) | exact Or.inr (Or.inr (by decide +kernel)), by decide, by decide⟩
theorem kv_names_4 : VKn (defScope s_names) "_law_word" := ⟨by first | exact Or.inl (by decide +kernel) | exact Or.inr (Or.inl (by decide +kernel)) | exact Or.inr (Or.inr (by decide +kernel)), by decide, by decide⟩
theorem kv_names_6 : VKn (defScope s_names) "_law_long" := ⟨by first | exact Or.inl (by decide +kernel) | exact Or.inr (Or.inl (by decide +kernel)) | exact Or.inr (Or.inr (by decide +kernel)), by decide, by decide⟩
theorem kv_names_7 : VKn (defScope s_names) "_law_at" := ⟨by first | exact Or.inl (by decide +kernel) | exact Or.inr (Or.inl (by decide +kernel)) | exact Or.inr (Or.inr (by decide +kernel)), by decide, by decide⟩
theorem kv_names_8 : VKn (defScope s_names) "_law_found" := ⟨by first | exact Or.inl (by decide +kernel) | exact Or.inr (Or.inl (by decide +kernel)) | exact Or.inr (Or.inr (by decide +kernel)), by decide, by decide⟩
theorem kv_names_9 : VKn (defScope s_names) "_law_k" := ⟨by first | exact Or.inl (by decide +kernel) | exact Or.inr (Or.inl (by decide +kernel)) | exact Or.inr (Or.inr (by decide +kernel)), by decide, by decide⟩
theorem kv_names_10 : VKn (defScope s_names) "_law_sign" := ⟨by first | exact Or.inl (by decide +kernel) | exact Or.inr (Or.inl (by decide +kernel)) | exact Or.inr (Or.inr (by decide +kernel)), by decide, by decide⟩
theorem kv_names_11 : VKn (defScope s_names) "_law_name" := ⟨by first | exact Or.inl (by decide +kernel) | exact Or.inr (Or.inl (by decide +kernel)) | exact Or.inr (Or.inr (by decide +kernel)), by decide, by decide⟩
theorem gl_names_stream : (defScope s_names).names.lookup ("_law_stream" : Str) = some NameKind.globalImplicit := by decide +kernel
theorem ok_names (T : TxB K mg base) : FnOk P w K mg base CX0 2 (He.fAd K ("_law_names", none)) T.d_names ["_law_cell", "_law_many"] (Pr K fun (a_ : Int × Int × Unit) => m_names a_.1 a_.2.1) := by
  refine fn_ok T.F_names sc_names rfl fun cdv A outer s_ F0 H0 vs a_ r D_ E_ hr sm_ ra_ hm kr kn => ?_
  obtain ⟨v_cell, _, rfl, r_cell, v_many, _, rfl, r_many, rfl⟩ := ra_
  obtain ⟨x_cell, x_many, _u⟩ := a_
  have G : GrX K F0 H0 F0 H0 := .refl sm_
  replace hm : m_names x_cell x_many = some r := hm
  unfold m_names at hm
  have r_cell : rp (α := Int) K F0 v_cell x_cell := r_cell
  have r_many : rp (α := Int) K F0 v_many x_many := r_many
  change GoS _ _ _ [some v_cell, some v_many, none, none, none, none, none, none, none, none, none, none] _
  obtain ⟨x_letters, he, hm⟩ := Option.bind_eq_some_iff.mp hm
  refine go_setA (Str) 2 G.sm ev_str (fun v_letters F H g rn_ => ?_) sc_names.nd
  have G := G.trans g
  have r_cell := Rp.mono g.ff r_cell
  have r_many := Rp.mono g.ff r_many
  have r_letters := cg (Option.some.inj he) rn_
  change GoS _ _ _ [some v_cell, some v_many, some v_letters, none, none, none, none, none, none, none, none, none] _
  obtain ⟨t1, h_t1, hm⟩ := Option.bind_eq_some_iff.mp hm
  obtain ⟨x_xs, he, hm⟩ := Option.bind_eq_some_iff.mp hm
  refine go_setA ((List Int)) 3 G.sm (ev_call (ok_stream T) (hr.mono (by omega)) T.g_stream T.F_stream.kp (b_stream T) (ea_cons (ev_varK 0 rfl r_cell kv_names_0) (ea_cons ev_int ea_nil)) h_t1 gl_names_stream) (fun v_xs F H g rn_ => ?_) sc_names.nd
  have G := G.trans g
  have r_cell := Rp.mono g.ff r_cell
  have r_many := Rp.mono g.ff r_many
  have r_letters := Rp.mono g.ff r_letters
  have r_xs := cg (Option.some.inj he) rn_
  change GoS _ _ _ [some v_cell, some v_many, some v_letters, some v_xs, none, none, none, none, none, none, none, none] _
  obtain ⟨t3, h_t3, hm⟩ := Option.bind_eq_some_iff.mp hm
  obtain ⟨t4, h_t4, hm⟩ := Option.bind_eq_some_iff.mp hm
  obtain ⟨x_word, he, hm⟩ := Option.bind_eq_some_iff.mp hm
  refine go_setA (Str) 4 G.sm (ev_join ev_str (EvN.evA ((List Str)) (en_comp (own := [("_law_x", 5)]) sc_names.nd (ei_list (EvN.evA ((List Int)) (en_slice (ev_varK 3 rfl r_xs kv_names_3) (eo_some ev_int) eo_none))) h_t3 (blkOk_by (N := ["_law_cell", "_law_many", "_law_letters", "_law_xs", "_law_word", "_law_x", "_law_long", "_law_at", "_law_found", "_law_k", "_law_sign", "_law_name"]) (sc := defScope s_names) (by decide +kernel)) (fun _ _ _ _ _ => (pg_name (i := 5) sc_names.nd rfl (by first | exact Or.inl rfl | exact Or.inr rfl))) (fun x_x o_ hm F H v_x g r_x Q hQ => by
          have r_letters := Rp.mono g.ff r_letters
          have r_xs := Rp.mono g.ff r_xs
          refine hQ _ rfl ?_
          obtain ⟨t2, h_t2, hm⟩ := Option.bind_eq_some_iff.mp hm
          exact ⟨_, (Option.some.inj hm).symm, fun s_ H_ C_ cl_ fp_ => (ev_ixS (ev_var 2 rfl r_letters) (ev_mod (ev_var 5 rfl r_x) ev_int (by decide)) h_t2)⟩))) h_t4) (fun v_word F H g rn_ => ?_) sc_names.nd
  have G := G.trans g
  have r_many := Rp.mono g.ff r_many
  have r_letters := Rp.mono g.ff r_letters
  have r_xs := Rp.mono g.ff r_xs
  have r_word := cg (Option.some.inj he) rn_
  change GoS _ _ _ [some v_cell, some v_many, some v_letters, some v_xs, some v_word, none, none, none, none, none, none, none] _
  obtain ⟨t5, h_t5, hm⟩ := Option.bind_eq_some_iff.mp hm
  obtain ⟨x_long, he, hm⟩ := Option.bind_eq_some_iff.mp hm
  refine go_setA (Int) 6 G.sm (ev_add ev_int (ev_mod (ev_ixL (ev_varK 3 rfl r_xs kv_names_3) ev_int h_t5) ev_int (by decide))) (fun v_long F H g rn_ => ?_) sc_names.nd
  have G := G.trans g
  have r_many := Rp.mono g.ff r_many
  have r_letters := Rp.mono g.ff r_letters
  have r_xs := Rp.mono g.ff r_xs
  have r_word := Rp.mono g.ff r_word
  have r_long := cg (Option.some.inj he) rn_
  change GoS _ _ _ [some v_cell, some v_many, some v_letters, some v_xs, some v_word, none, some v_long, none, none, none, none, none] _
  obtain ⟨t6, h_t6, hm⟩ := Option.bind_eq_some_iff.mp hm
  obtain ⟨t7, h_t7, hm⟩ := Option.bind_eq_some_iff.mp hm
  obtain ⟨x_at, he, hm⟩ := Option.bind_eq_some_iff.mp hm
  refine go_setA (Int) 7 G.sm (ev_modG (ev_div (ev_ixL (ev_varK 3 rfl r_xs kv_names_3) ev_int h_t6) ev_int ⟨by decide, by decide⟩) (ev_varK 6 rfl r_long kv_names_6) h_t7) (fun v_at F H g rn_ => ?_) sc_names.nd
  have G := G.trans g
  have r_many := Rp.mono g.ff r_many
  have r_letters := Rp.mono g.ff r_letters
  have r_xs := Rp.mono g.ff r_xs
  have r_word := Rp.mono g.ff r_word
  have r_long := Rp.mono g.ff r_long
  have r_at := cg (Option.some.inj he) rn_
  change GoS _ _ _ [some v_cell, some v_many, some v_letters, some v_xs, some v_word, none, some v_long, some v_at, none, none, none, none] _
  obtain ⟨x_found, he, hm⟩ := Option.bind_eq_some_iff.mp hm
  refine go_setNA ((List Str)) 8 G.sm (en_list el_nil (Nat.zero_le _)) (fun l_found vs_ F H g nl_ fl_ hl_ rs_ => ?_) sc_names.nd
  have n0_ := G.hh.free nl_
  have G := G.trans g
  have r_many := Rp.mono g.ff r_many
  have r_letters := Rp.mono g.ff r_letters
  have r_xs := Rp.mono g.ff r_xs
  have r_word := Rp.mono g.ff r_word
  have r_long := Rp.mono g.ff r_long
  have r_at := Rp.mono g.ff r_at
  have o_found : Own K _ F H l_found _ := Own.cg (Option.some.inj he) ⟨n0_, fl_, vs_, hl_, rs_⟩
  change GoS _ _ _ [some v_cell, some v_many, some v_letters, some v_xs, some v_word, none, some v_long, some v_at, some (.ref l_found), none, none, none] _
  obtain ⟨t8, h_t8, hm⟩ := Option.bind_eq_some_iff.mp hm
  obtain ⟨b27, ho_, hm⟩ := Option.bind_eq_some_iff.mp hm
  refine go_forN G.sm (ei_range1 (ev_varK 1 rfl r_many kv_names_1) h_t8 T.n_range) (pg_name (i := 9) sc_names.nd rfl (by first | exact Or.inl rfl | exact Or.inr rfl)) ho_ (fun F H g => ?_) PassesOwn.never
  have G := G.trans g
  have r_letters := Rp.mono g.ff r_letters
  have r_xs := Rp.mono g.ff r_xs
  have r_word := Rp.mono g.ff r_word
  have r_long := Rp.mono g.ff r_long
  have r_at := Rp.mono g.ff r_at
  have o_found := o_found.up g
  refine ⟨fun (b9 : (List Str)) σ_ F_ H_ => ∃ (u_sign : Option V) (u_name : Option V) (u_k : Option V), σ_ = [some v_cell, some v_many, some v_letters, some v_xs, some v_word, none, some v_long, some v_at, some (.ref l_found), u_k, u_sign, u_name] ∧ GrX K F0 H0 F_ H_ ∧ Own K H0 F_ H_ l_found b9, ⟨_, _, _, rfl, G, o_found⟩, ?_, ?_⟩
  ·
    intro b9 x_k o_ hm σ_ F H v_k s1_ s2_ iv_ F H g r_k Q_ hQ_
    obtain ⟨u_sign, u_name, u_k, rfl, G, o_found⟩ := iv_
    have sb12 := g.ff
    have r_letters := Rp.mono s1_ r_letters
    have r_xs := Rp.mono s1_ r_xs
    have r_word := Rp.mono s1_ r_word
    have r_long := Rp.mono s1_ r_long
    have r_at := Rp.mono s1_ r_at
    have G := G.trans g
    have r_letters := Rp.mono g.ff r_letters
    have r_xs := Rp.mono g.ff r_xs
    have r_word := Rp.mono g.ff r_word
    have r_long := Rp.mono g.ff r_long
    have r_at := Rp.mono g.ff r_at
    have o_found := o_found.up g
    refine hQ_ _ _ ?_
    change GoS _ _ _ [some v_cell, some v_many, some v_letters, some v_xs, some v_word, none, some v_long, some v_at, some (.ref l_found), some v_k, u_sign, u_name] _
    obtain ⟨t13, h_t13, hm⟩ := Option.bind_eq_some_iff.mp hm
    obtain ⟨t14, h_t14, hm⟩ := Option.bind_eq_some_iff.mp hm
    obtain ⟨x_sign, he, hm⟩ := Option.bind_eq_some_iff.mp hm
    refine go_setA (Str) 10 G.sm (ev_ixS (ev_varK 2 rfl r_letters kv_names_2) (ev_mod (ev_add (ev_ixL (ev_varK 3 rfl r_xs kv_names_3) (ev_add ev_int (ev_varK 7 rfl r_at kv_names_7)) h_t13) (ev_varK 9 rfl r_k kv_names_9)) ev_int (by decide)) h_t14) (fun v_sign F H g rn_ => ?_) sc_names.nd
    have G := G.trans g
    have r_letters := Rp.mono g.ff r_letters
    have r_xs := Rp.mono g.ff r_xs
    have r_word := Rp.mono g.ff r_word
    have r_long := Rp.mono g.ff r_long
    have r_at := Rp.mono g.ff r_at
    have o_found := o_found.up g
    have r_k := Rp.mono g.ff r_k
    have sb12 := sb12.trans g.ff
    have r_sign := cg (Option.some.inj he) rn_
    change GoS _ _ _ [some v_cell, some v_many, some v_letters, some v_xs, some v_word, none, some v_long, some v_at, some (.ref l_found), some v_k, some v_sign, u_name] _
    obtain ⟨t15, h_t15, hm⟩ := Option.bind_eq_some_iff.mp hm
    obtain ⟨t16, h_t16, hm⟩ := Option.bind_eq_some_iff.mp hm
    obtain ⟨t17, h_t17, hm⟩ := Option.bind_eq_some_iff.mp hm
    obtain ⟨t18, h_t18, hm⟩ := Option.bind_eq_some_iff.mp hm
    obtain ⟨x_name, he, hm⟩ := Option.bind_eq_some_iff.mp hm
    refine go_setA (Str) 11 G.sm (ev_addS (ev_addS (ev_sliceS (ev_varK 4 rfl r_word kv_names_4) eo_none (eo_some (ev_varK 7 rfl r_at kv_names_7)) h_t15) (ev_varK 10 rfl r_sign kv_names_10) h_t16) (ev_sliceS (ev_varK 4 rfl r_word kv_names_4) (eo_some (ev_add (ev_varK 7 rfl r_at kv_names_7) ev_int)) (eo_some (ev_varK 6 rfl r_long kv_names_6)) h_t17) h_t18) (fun v_name F H g rn_ => ?_) sc_names.nd
    have G := G.trans g
    have r_xs := Rp.mono g.ff r_xs
    have r_word := Rp.mono g.ff r_word
    have r_long := Rp.mono g.ff r_long
    have r_at := Rp.mono g.ff r_at
    have o_found := o_found.up g
    have r_k := Rp.mono g.ff r_k
    have r_sign := Rp.mono g.ff r_sign
    have sb12 := sb12.trans g.ff
    have r_name := cg (Option.some.inj he) rn_
    change GoS _ _ _ [some v_cell, some v_many, some v_letters, some v_xs, some v_word, none, some v_long, some v_at, some (.ref l_found), some v_k, some v_sign, some v_name] _
    obtain ⟨t19, h_t19, hm⟩ := Option.bind_eq_some_iff.mp hm
    obtain ⟨b20, hj, hm⟩ := Option.bind_eq_some_iff.mp hm
    refine go_ifjA ((decide ((t19 % (2 : Int)) = (0 : Int)))) (fun σ_ H_ => ∃ (F_ : Hp) (v_name : V), L2.Same F F_ ∧ σ_ = [some v_cell, some v_many, some v_letters, some v_xs, some v_word, none, some v_long, some v_at, some (.ref l_found), some v_k, some v_sign, some v_name] ∧ GrX K F0 H0 F_ H_ ∧ rp (α := Str) K F_ v_name b20 ∧ Own K H0 F_ H_ l_found b9) G.sm (et_cmp op_eq o2_eq (ev_mod (ev_ixL (ev_varK 3 rfl r_xs kv_names_3) ev_int h_t19) ev_int (by decide)) ev_int (nomark _)) (fun hc F H g => ?_) (fun hc F H g => ?_) (fun σ_ H hP_ => ?_)
    · replace hj := ipos hc hj
      clear hm
      have hm := hj
      clear hj
      have G := G.trans g
      have r_xs := Rp.mono g.ff r_xs
      have r_word := Rp.mono g.ff r_word
      have r_long := Rp.mono g.ff r_long
      have o_found := o_found.up g
      have r_k := Rp.mono g.ff r_k
      have r_name := Rp.mono g.ff r_name
      have sb12 := sb12.trans g.ff
      have sj21 := g.ff
      obtain ⟨t22, h_t22, hm⟩ := Option.bind_eq_some_iff.mp hm
      obtain ⟨x_name, he, hm⟩ := Option.bind_eq_some_iff.mp hm
      refine go_setA (Str) 11 G.sm (ev_sliceS (ev_varK 4 rfl r_word kv_names_4) eo_none (eo_some (ev_add ev_int (ev_mod (ev_add (ev_varK 6 rfl r_long kv_names_6) (ev_mul ev_int (ev_varK 9 rfl r_k kv_names_9) (CMul.l (by decide)))) ev_int (by decide)))) h_t22) (fun v_name F H g rn_ => ?_) sc_names.nd
      have G := G.trans g
      have r_word := Rp.mono g.ff r_word
      have r_long := Rp.mono g.ff r_long
      have o_found := o_found.up g
      have r_k := Rp.mono g.ff r_k
      have sb12 := sb12.trans g.ff
      have sj21 := sj21.trans g.ff
      have r_name := cg (Option.some.inj he) rn_
      have hm := Option.some.inj hm
      subst hm
      exact GoS.nil ⟨_, _, sj21, rfl, G, r_name, o_found⟩
    · replace hj := ineg (nt hc) hj
      clear hm
      have hm := hj
      clear hj
      have G := G.trans g
      have r_xs := Rp.mono g.ff r_xs
      have r_word := Rp.mono g.ff r_word
      have r_long := Rp.mono g.ff r_long
      have o_found := o_found.up g
      have r_k := Rp.mono g.ff r_k
      have r_name := Rp.mono g.ff r_name
      have sb12 := sb12.trans g.ff
      have sj21 := g.ff
      have hm := Option.some.inj hm
      subst hm
      exact GoS.nil ⟨_, _, sj21, rfl, G, r_name, o_found⟩
    obtain ⟨F, v_name, sj_, rfl, G, r_name, o_found⟩ := hP_
    have sb12 := sb12.trans sj_
    obtain ⟨b23, hj, hm⟩ := Option.bind_eq_some_iff.mp hm
    refine go_ifjA ((decide (b20 ∈ (Tp.mk ([("for" : Str), ("end" : Str), ("size" : Str)] : List Str)).l))) (fun σ_ H_ => ∃ (F_ : Hp) (v_name : V), L2.Same F F_ ∧ σ_ = [some v_cell, some v_many, some v_letters, some v_xs, some v_word, none, some v_long, some v_at, some (.ref l_found), some v_k, some v_sign, some v_name] ∧ GrX K F0 H0 F_ H_ ∧ rp (α := Str) K F_ v_name b23 ∧ Own K H0 F_ H_ l_found b9) G.sm (et_cmp op_in_seq o2_inT (ev_varK 11 rfl r_name kv_names_11) (ev_tp (el_cons ev_str (el_cons ev_str (el_cons ev_str el_nil))) (by show 3 ≤ sizeLine; decide)) rfl) (fun hc F H g => ?_) (fun hc F H g => ?_) (fun σ_ H hP_ => ?_)
    · replace hj := ipos hc hj
      clear hm
      have hm := hj
      clear hj
      have G := G.trans g
      have o_found := o_found.up g
      have r_name := Rp.mono g.ff r_name
      have sb12 := sb12.trans g.ff
      have sj24 := g.ff
      obtain ⟨t25, h_t25, hm⟩ := Option.bind_eq_some_iff.mp hm
      obtain ⟨x_name, he, hm⟩ := Option.bind_eq_some_iff.mp hm
      refine go_setA (Str) 11 G.sm (ev_addS ev_str (ev_varK 11 rfl r_name kv_names_11) h_t25) (fun v_name F H g rn_ => ?_) sc_names.nd
      have G := G.trans g
      have o_found := o_found.up g
      have sb12 := sb12.trans g.ff
      have sj24 := sj24.trans g.ff
      have r_name := cg (Option.some.inj he) rn_
      have hm := Option.some.inj hm
      subst hm
      exact GoS.nil ⟨_, _, sj24, rfl, G, r_name, o_found⟩
    · replace hj := ineg (nt hc) hj
      clear hm
      have hm := hj
      clear hj
      have G := G.trans g
      have o_found := o_found.up g
      have r_name := Rp.mono g.ff r_name
      have sb12 := sb12.trans g.ff
      have sj24 := g.ff
      have hm := Option.some.inj hm
      subst hm
      exact GoS.nil ⟨_, _, sj24, rfl, G, r_name, o_found⟩
    obtain ⟨F, v_name, sj_, rfl, G, r_name, o_found⟩ := hP_
    have sb12 := sb12.trans sj_
    obtain ⟨t26, he, hm⟩ := Option.bind_eq_some_iff.mp hm
    refine go_append 8 G.sm o_found rfl (ev_varK 11 rfl r_name kv_names_11) he (fun w_ F H g nz_ fz_ on_ => ?_)
    have G := G.trans g
    have r_name := Rp.mono g.ff r_name
    have sb12 := sb12.trans g.ff
    have G := G.poke (u := w_) on_.n fz_ nz_ on_.pl
    have o_found := on_
    have hm := Option.some.inj hm
    subst hm
    exact GoS.nil ⟨_, sb12, G.fh, ⟨_, _, _, rfl, G, o_found⟩⟩
  · intro σ_ F H s1_ s2_ iv_
    obtain ⟨u_sign, u_name, u_k, rfl, G, o_found⟩ := iv_
    refine o_found.freeze G (fun F H s_ s2_ G r_found k_ => ?_)
    exact go_ret G.sm (ev_varK 8 rfl r_found kv_names_8) fun v_ F_ H_ g_ rv_ => kr _ _ _ (G.trans g_) (cg (Option.some.inj hm) rv_)
theorem sc_number : FnScope ["_law_cell", "_law_far"] ["_law_cell", "_law_far"] (defScope s_number) := ⟨rfl, rfl, rfl, by decide +kernel, rfl, by decide +kernel, by decide +kernel⟩
theorem b_number (T : TxB K mg base) : Binds K T.d_number ["_law_cell", "_law_far"] [] := T.F_number.bindsN fun _ _ _ _ _ _ us hl => match us, hl with | [_, _], _ => rfl
theorem kv_number_0 : VKn (defScope s_number) "_law_cell" := ⟨by first | exact Or.inl (by decide +kernel) | exact Or.inr (Or.inl (by decide +kernel)) | exact Or.inr (Or.inr (by decide +kernel)), by decide, by decide⟩
theorem kv_number_1 : VKn (defScope s_number) "_law_far" := ⟨by first | exact Or.inl (by decide +kernel) | exact Or.inr (Or.inl (by decide +kernel)) | exact Or.inr (Or.inr (by decide +kernel)), by decide, by decide⟩
theorem ok_number (T : TxB K mg base) : FnOk P w K mg base CX0 1 (He.fAd K ("_law_number", none)) T.d_number ["_law_cell", "_law_far"] (Pr K fun (a_ : Int × Int × Unit) => m_number a_.1 a_.2.1) := by
  refine fn_ok T.F_number sc_number rfl fun cdv A outer s_ F0 H0 vs a_ r D_ E_ hr sm_ ra_ hm kr kn => ?_
  obtain ⟨v_cell, _, rfl, r_cell, v_far, _, rfl, r_far, rfl⟩ := ra_
  obtain ⟨x_cell, x_far, _u⟩ := a_
  have G : GrX K F0 H0 F0 H0 := .refl sm_
  replace hm : m_number x_cell x_far = some r := hm
  unfold m_number at hm
  have r_cell : rp (α := Int) K F0 v_cell x_cell := r_cell
  have r_far : rp (α := Int) K F0 v_far x_far := r_far
  change GoS _ _ _ [some v_cell, some v_far] _
  refine go_ifA ((decide ((x_cell % (3 : Int)) = (0 : Int)))) G.sm (et_cmp op_eq o2_eq (ev_mod (ev_varK 0 rfl r_cell kv_number_0) ev_int (by decide)) ev_int (nomark _)) (fun hc F H g => ?_) (fun hc F H g => ?_)
  · replace hm := ipos hc hm
    have G := G.trans g
    have r_cell := Rp.mono g.ff r_cell
    have r_far := Rp.mono g.ff r_far
    exact go_ret G.sm (ev_sub (ev_mod (ev_div (ev_varK 0 rfl r_cell kv_number_0) ev_int ⟨by decide, by decide⟩) ev_int (by decide)) ev_int) fun v_ F_ H_ g_ rv_ => kr _ _ _ (G.trans g_) (cg (Option.some.inj hm) rv_)
  · replace hm := ineg (nt hc) hm
    have G := G.trans g
    have r_cell := Rp.mono g.ff r_cell
    have r_far := Rp.mono g.ff r_far
    refine GoS.nil ?_
    obtain ⟨t1, h_t1, hm⟩ := Option.bind_eq_some_iff.mp hm
    exact go_ret G.sm (ev_sub (ev_modG (ev_div (ev_varK 0 rfl r_cell kv_number_0) ev_int ⟨by decide, by decide⟩) (ev_add (ev_mul ev_int (ev_varK 1 rfl r_far kv_number_1) (CMul.l (by decide))) ev_int) h_t1) (ev_varK 1 rfl r_far kv_number_1)) fun v_ F_ H_ g_ rv_ => kr _ _ _ (G.trans g_) (cg (Option.some.inj hm) rv_)
theorem sc_values : FnScope ["_law_script", "_law_names_here", "_law_more", "_law_values_here", "_law_k"] ["_law_script", "_law_names_here", "_law_more"] (defScope s_values) := ⟨rfl, rfl, rfl, by decide +kernel, rfl, by decide +kernel, by decide +kernel⟩
theorem b_values (T : TxB K mg base) : Binds K T.d_values ["_law_script", "_law_names_here", "_law_more"] [] := T.F_values.bindsN fun _ _ _ _ _ _ us hl => match us, hl with | [_, _, _], _ => rfl
theorem kv_values_0 : VKn (defScope s_values) "_law_script" := ⟨by first | exact Or.inl (by decide +kernel) | exact Or.inr (Or.inl (by decide +kernel)) | exact Or.inr (Or.inr (by decide +kernel)), by decide, by decide⟩
theorem kv_values_1 : VKn (defScope s_values) "_law_names_here" := ⟨by first | exact Or.inl (by decide +kernel) | exact Or.inr (Or.inl (by decide +kernel)) | exact Or.inr (Or.inr (by decide +kernel)), by decide, by decide⟩
theorem kv_values_2 : VKn (defScope s_values) "_law_more" := ⟨by first | exact Or.inl (by decide +kernel) | exact Or.inr (Or.inl (by decide +kernel)) | exact Or.inr (Or.inr (by decide +kernel)), by decide, by decide⟩
theorem kv_values_3 : VKn (defScope s_values) "_law_values_here" := ⟨by first | exact Or.inl (by decide +kernel) | exact Or.inr (Or.inl (by decide +kernel)) | exact Or.inr (Or.inr (by decide +kernel)), by decide, by decide⟩
theorem kv_values_4 : VKn (defScope s_values) "_law_k" := ⟨by first | exact Or.inl (by decide +kernel) | exact Or.inr (Or.inl (by decide +kernel)) | exact Or.inr (Or.inr (by decide +kernel)), by decide, by decide⟩
theorem gl_values_cell_at : (defScope s_values).names.lookup ("_law_cell_at" : Str) = some NameKind.globalImplicit := by decide +kernel
theorem gl_values_number : (defScope s_values).names.lookup ("_law_number" : Str) = some NameKind.globalImplicit := by decide +kernel
theorem ok_values (T : TxB K mg base) : FnOk P w K mg base CX0 2 (He.fAd K ("_law_values", none)) T.d_values ["_law_script", "_law_names_here", "_law_more"] (Pr K fun (a_ : (List Int) × (List Str) × Int × Unit) => m_values a_.1 a_.2.1 a_.2.2.1) := by
  refine fn_ok T.F_values sc_values rfl fun cdv A outer s_ F0 H0 vs a_ r D_ E_ hr sm_ ra_ hm kr kn => ?_
  obtain ⟨v_script, _, rfl, r_script, v_names_here, _, rfl, r_names_here, v_more, _, rfl, r_more, rfl⟩ := ra_
  obtain ⟨x_script, x_names_here, x_more, _u⟩ := a_
  have G : GrX K F0 H0 F0 H0 := .refl sm_
  replace hm : m_values x_script x_names_here x_more = some r := hm
  unfold m_values at hm
  have r_script : rp (α := (List Int)) K F0 v_script x_script := r_script
  have r_names_here : rp (α := (List Str)) K F0 v_names_here x_names_here := r_names_here
  have r_more : rp (α := Int) K F0 v_more x_more := r_more
  change GoS _ _ _ [some v_script, some v_names_here, some v_more, none, none] _
  obtain ⟨x_values_here, he, hm⟩ := Option.bind_eq_some_iff.mp hm
  refine go_setNA ((Dct Str Int)) 3 G.sm en_dict (fun l_values_here vs_ F H g nl_ fl_ hl_ rs_ => ?_) sc_values.nd
  have n0_ := G.hh.free nl_
  have G := G.trans g
  have r_script := Rp.mono g.ff r_script
  have r_names_here := Rp.mono g.ff r_names_here
  have r_more := Rp.mono g.ff r_more
  have o_values_here : Own K _ F H l_values_here _ := Own.cg (Option.some.inj he) ⟨n0_, fl_, vs_, hl_, rs_⟩
  change GoS _ _ _ [some v_script, some v_names_here, some v_more, some (.ref l_values_here), none] _
  obtain ⟨b9, ho_, hm⟩ := Option.bind_eq_some_iff.mp hm
  refine go_forN G.sm (ei_range1 ev_int (by rfl) T.n_range) (pg_name (i := 4) sc_values.nd rfl (by first | exact Or.inl rfl | exact Or.inr rfl)) ho_ (fun F H g => ?_) PassesOwn.never
  have G := G.trans g
  have r_script := Rp.mono g.ff r_script
  have r_names_here := Rp.mono g.ff r_names_here
  have r_more := Rp.mono g.ff r_more
  have o_values_here := o_values_here.up g
  refine ⟨fun (b1 : (Dct Str Int)) σ_ F_ H_ => ∃ (u_k : Option V), σ_ = [some v_script, some v_names_here, some v_more, some (.ref l_values_here), u_k] ∧ GrX K F0 H0 F_ H_ ∧ Own K H0 F_ H_ l_values_here b1, ⟨_, rfl, G, o_values_here⟩, ?_, ?_⟩
  ·
    intro b1 x_k o_ hm σ_ F H v_k s1_ s2_ iv_ F H g r_k Q_ hQ_
    obtain ⟨u_k, rfl, G, o_values_here⟩ := iv_
    have sb4 := g.ff
    have r_script := Rp.mono s1_ r_script
    have r_names_here := Rp.mono s1_ r_names_here
    have r_more := Rp.mono s1_ r_more
    have G := G.trans g
    have r_script := Rp.mono g.ff r_script
    have r_names_here := Rp.mono g.ff r_names_here
    have r_more := Rp.mono g.ff r_more
    have o_values_here := o_values_here.up g
    refine hQ_ _ _ ?_
    change GoS _ _ _ [some v_script, some v_names_here, some v_more, some (.ref l_values_here), some v_k] _
    obtain ⟨t5, h_t5, hm⟩ := Option.bind_eq_some_iff.mp hm
    obtain ⟨t6, h_t6, hm⟩ := Option.bind_eq_some_iff.mp hm
    obtain ⟨t7, h_t7, hm⟩ := Option.bind_eq_some_iff.mp hm
    obtain ⟨t8, he, hm⟩ := Option.bind_eq_some_iff.mp hm
    refine go_dput 3 G.sm (room1 hr) o_values_here rfl (ev_call (ok_number T) (hr.mono (by omega)) T.g_number T.F_number.kp (b_number T) (ea_cons (ev_add (ev_call (ok_cell_at T) (hr.mono (by omega)) T.g_cell_at T.F_cell_at.kp (b_cell_at T) (ea_cons (ev_varK 0 rfl r_script kv_values_0) (ea_cons (ev_add ev_int (ev_varK 4 rfl r_k kv_values_4)) ea_nil)) h_t5 gl_values_cell_at) (ev_varK 2 rfl r_more kv_values_2)) (ea_cons (ev_mul ev_int (ev_powcA (1000000000000000000) ev_int ev_int (by decide) (by decide +kernel)) (CMul.l (by decide))) ea_nil)) h_t6 gl_values_number) (ev_ixL (ev_varK 1 rfl r_names_here kv_values_1) (ev_varK 4 rfl r_k kv_values_4) h_t7) he (fun w_ F H g nz_ fz_ on_ => ?_)
    have G := G.trans g
    have r_script := Rp.mono g.ff r_script
    have r_names_here := Rp.mono g.ff r_names_here
    have r_more := Rp.mono g.ff r_more
    have r_k := Rp.mono g.ff r_k
    have sb4 := sb4.trans g.ff
    have G := G.poke (u := w_) on_.n fz_ nz_ on_.pl
    have o_values_here := on_
    have hm := Option.some.inj hm
    subst hm
    exact GoS.nil ⟨_, sb4, G.fh, ⟨_, rfl, G, o_values_here⟩⟩
  · intro σ_ F H s1_ s2_ iv_
    obtain ⟨u_k, rfl, G, o_values_here⟩ := iv_
    refine o_values_here.freeze G (fun F H s_ s2_ G r_values_here k_ => ?_)
    exact go_ret G.sm (ev_varK 3 rfl r_values_here kv_values_3) fun v_ F_ H_ g_ rv_ => kr _ _ _ (G.trans g_) (cg (Option.some.inj hm) rv_)
theorem sc_held : FnScope ["_law_table", "_law_place", "_law_salt", "_law_number_here", "_law_sign", "_law_n"] ["_law_table", "_law_place", "_law_salt"] (defScope s_held) := ⟨rfl, rfl, rfl, by decide +kernel, rfl, by decide +kernel, by decide +kernel⟩
theorem b_held (T : TxB K mg base) : Binds K T.d_held ["_law_table", "_law_place", "_law_salt"] [] := T.F_held.bindsN fun _ _ _ _ _ _ us hl => match us, hl with | [_, _, _], _ => rfl
theorem kv_held_0 : VKn (defScope s_held) "_law_table" := ⟨by first | exact Or.inl (by decide +kernel) | exact Or.inr (Or.inl (by decide +kernel)) | exact Or.inr (Or.inr (by decide +kernel)), by decide, by decide⟩
theorem kv_held_1 : VKn (defScope s_held) "_law_place" := ⟨by first | exact Or.inl (by decide +kernel) | exact Or.inr (Or.inl (by decide +kernel)) | exact Or.inr (Or.inr (by decide +kernel)), by decide, by decide⟩
theorem kv_held_2 : VKn (defScope s_held) "_law_salt" := ⟨by first | exact Or.inl (by decide +kernel) | exact Or.inr (Or.inl (by decide +kernel)) | exact Or.inr (Or.inr (by decide +kernel)), by decide, by decide⟩
theorem kv_held_3 : VKn (defScope s_held) "_law_number_here" := ⟨by first | exact Or.inl (by decide +kernel) | exact Or.inr (Or.inl (by decide +kernel)) | exact Or.inr (Or.inr (by decide +kernel)), by decide, by decide⟩
theorem kv_held_4 : VKn (defScope s_held) "_law_sign" := ⟨by first | exact Or.inl (by decide +kernel) | exact Or.inr (Or.inl (by decide +kernel)) | exact Or.inr (Or.inr (by decide +kernel)), by decide, by decide⟩
theorem kv_held_5 : VKn (defScope s_held) "_law_n" := ⟨by first | exact Or.inl (by decide +kernel) | exact Or.inr (Or.inl (by decide +kernel)) | exact Or.inr (Or.inr (by decide +kernel)), by decide, by decide⟩
theorem ok_held (T : TxB K mg base) : FnOk P w K mg base CX0 1 (He.fAd K ("_law_held", none)) T.d_held ["_law_table", "_law_place", "_law_salt"] (Pr K fun (a_ : Str × (Tp Int) × Int × Unit) => m_held a_.1 a_.2.1 a_.2.2.1) := by
  refine fn_ok T.F_held sc_held rfl fun cdv A outer s_ F0 H0 vs a_ r D_ E_ hr sm_ ra_ hm kr kn => ?_
  obtain ⟨v_table, _, rfl, r_table, v_place, _, rfl, r_place, v_salt, _, rfl, r_salt, rfl⟩ := ra_
  obtain ⟨x_table, x_place, x_salt, _u⟩ := a_
  have G : GrX K F0 H0 F0 H0 := .refl sm_
  replace hm : m_held x_table x_place x_salt = some r := hm
  unfold m_held at hm
  have r_table : rp (α := Str) K F0 v_table x_table := r_table
  have r_place : rp (α := (Tp Int)) K F0 v_place x_place := r_place
  have r_salt : rp (α := Int) K F0 v_salt x_salt := r_salt
  change GoS _ _ _ [some v_table, some v_place, some v_salt, none, none, none] _
  obtain ⟨x_number_here, he, hm⟩ := Option.bind_eq_some_iff.mp hm
  refine go_setA (Int) 3 G.sm (ev_varK 2 rfl r_salt kv_held_2) (fun v_number_here F H g rn_ => ?_) sc_held.nd
  have G := G.trans g
  have r_table := Rp.mono g.ff r_table
  have r_place := Rp.mono g.ff r_place
  have r_salt := Rp.mono g.ff r_salt
  have r_number_here := cg (Option.some.inj he) rn_
  change GoS _ _ _ [some v_table, some v_place, some v_salt, some v_number_here, none, none] _
  obtain ⟨b6, ho_, hm⟩ := Option.bind_eq_some_iff.mp hm
  refine go_forN G.sm (ei_str (ev_varK 0 rfl r_table kv_held_0)) (pg_name (i := 4) sc_held.nd rfl (by first | exact Or.inl rfl | exact Or.inr rfl)) ho_ (fun F H g => ?_) PassesOwn.never
  have G := G.trans g
  have r_place := Rp.mono g.ff r_place
  have r_number_here := Rp.mono g.ff r_number_here
  refine ⟨fun (b1 : Int) σ_ F_ H_ => ∃ (u_sign : Option V) (v_number_here : V), σ_ = [some v_table, some v_place, some v_salt, some v_number_here, u_sign, none] ∧ GrX K F0 H0 F_ H_ ∧ rp (α := Int) K F_ v_number_here b1, ⟨_, _, rfl, G, r_number_here⟩, ?_, ?_⟩
  ·
    intro b1 x_sign o_ hm σ_ F H v_sign s1_ s2_ iv_ F H g r_sign Q_ hQ_
    obtain ⟨u_sign, v_number_here, rfl, G, r_number_here⟩ := iv_
    have sb4 := g.ff
    have G := G.trans g
    have r_number_here := Rp.mono g.ff r_number_here
    refine hQ_ _ _ ?_
    change GoS _ _ _ [some v_table, some v_place, some v_salt, some v_number_here, some v_sign, none] _
    obtain ⟨t5, h_t5, hm⟩ := Option.bind_eq_some_iff.mp hm
    obtain ⟨x_number_here, he, hm⟩ := Option.bind_eq_some_iff.mp hm
    refine go_setA (Int) 3 G.sm (ev_mod (ev_add (ev_mul (ev_varK 3 rfl r_number_here kv_held_3) ev_int (CMul.r (by decide))) (ev_callB call_ord (oc_ord h_t5) T.n_ord (by decide +kernel) (ea_cons (ev_varK 4 rfl r_sign kv_held_4) ea_nil))) ev_int (by decide)) (fun v_number_here F H g rn_ => ?_) sc_held.nd
    have G := G.trans g
    have r_sign := Rp.mono g.ff r_sign
    have sb4 := sb4.trans g.ff
    have r_number_here := cg (Option.some.inj he) rn_
    have hm := Option.some.inj hm
    subst hm
    exact GoS.nil ⟨_, sb4, G.fh, ⟨_, _, rfl, G, r_number_here⟩⟩
  · intro σ_ F H s1_ s2_ iv_
    obtain ⟨u_sign, v_number_here, rfl, G, r_number_here⟩ := iv_
    have r_place := Rp.mono s1_ r_place
    change GoS _ _ _ [some v_table, some v_place, some v_salt, some v_number_here, u_sign, none] _
    obtain ⟨b11, ho_, hm⟩ := Option.bind_eq_some_iff.mp hm
    refine go_forN G.sm (ei_tp (ev_varK 1 rfl r_place kv_held_1)) (pg_name (i := 5) sc_held.nd rfl (by first | exact Or.inl rfl | exact Or.inr rfl)) ho_ (fun F H g => ?_) PassesOwn.never
    have G := G.trans g
    have r_number_here := Rp.mono g.ff r_number_here
    refine ⟨fun (b7 : Int) σ_ F_ H_ => ∃ (u_n : Option V) (v_number_here : V), σ_ = [some v_table, some v_place, some v_salt, some v_number_here, u_sign, u_n] ∧ GrX K F0 H0 F_ H_ ∧ rp (α := Int) K F_ v_number_here b7, ⟨_, _, rfl, G, r_number_here⟩, ?_, ?_⟩
    ·
      intro b7 x_n o_ hm σ_ F H v_n s1_ s2_ iv_ F H g r_n Q_ hQ_
      obtain ⟨u_n, v_number_here, rfl, G, r_number_here⟩ := iv_
      have sb10 := g.ff
      have G := G.trans g
      have r_number_here := Rp.mono g.ff r_number_here
      refine hQ_ _ _ ?_
      change GoS _ _ _ [some v_table, some v_place, some v_salt, some v_number_here, u_sign, some v_n] _
      obtain ⟨x_number_here, he, hm⟩ := Option.bind_eq_some_iff.mp hm
      refine go_setA (Int) 3 G.sm (ev_mod (ev_add (ev_mul (ev_varK 3 rfl r_number_here kv_held_3) ev_int (CMul.r (by decide))) (ev_varK 5 rfl r_n kv_held_5)) ev_int (by decide)) (fun v_number_here F H g rn_ => ?_) sc_held.nd
      have G := G.trans g
      have r_n := Rp.mono g.ff r_n
      have sb10 := sb10.trans g.ff
      have r_number_here := cg (Option.some.inj he) rn_
      have hm := Option.some.inj hm
      subst hm
      exact GoS.nil ⟨_, sb10, G.fh, ⟨_, _, rfl, G, r_number_here⟩⟩
    · intro σ_ F H s1_ s2_ iv_
      obtain ⟨u_n, v_number_here, rfl, G, r_number_here⟩ := iv_
      change GoS _ _ _ [some v_table, some v_place, some v_salt, some v_number_here, u_sign, u_n] _
      exact go_ret G.sm (ev_sub (ev_varK 3 rfl r_number_here kv_held_3) (ev_powcA (100000000000000000) ev_int ev_int (by decide) (by decide +kernel))) fun v_ F_ H_ g_ rv_ => kr _ _ _ (G.trans g_) (cg (Option.some.inj hm) rv_)
theorem sc_law_held_here : NdefX.NScope ["_law_table", "_law_place", "_law_asked", "_law_salt"] ["_law_table", "_law_place"] ["_law_asked", "_law_salt"] (defScope s_law_held_here) := NdefX.nscope_by (by decide +kernel)
theorem nd_law_held_here : NdefX.ndefB (defScope s_law) (defScope s_law_held_here) ["_law_asked", "_law_salt"] = true := by decide +kernel
theorem kv_law_held_here_0 : VKn (defScope s_law_held_here) "_law_table" := ⟨by first | exact Or.inl (by decide +kernel) | exact Or.inr (Or.inl (by decide +kernel)) | exact Or.inr (Or.inr (by decide +kernel)), by decide, by decide⟩
theorem kv_law_held_here_1 : VKn (defScope s_law_held_here) "_law_place" := ⟨by first | exact Or.inl (by decide +kernel) | exact Or.inr (Or.inl (by decide +kernel)) | exact Or.inr (Or.inr (by decide +kernel)), by decide, by decide⟩
theorem kv_law_held_here_2 : VKn (defScope s_law_held_here) "_law_salt" := ⟨by first | exact Or.inl (by decide +kernel) | exact Or.inr (Or.inl (by decide +kernel)) | exact Or.inr (Or.inr (by decide +kernel)), by decide, by decide⟩
theorem gl_law_held_here_held : (defScope s_law_held_here).names.lookup ("_law_held" : Str) = some NameKind.globalImplicit := by decide +kernel
theorem nok_law_held_here (T : TxB K mg base) (f_ c_ : Addr) (q_ : Str) (cl_ : List (Str × Addr)) (l_ : Addr) (v_salt : V) (x_salt : Int) : NokFL P w K mg base l_ 2 (cf_law_held_here f_ c_ q_ cl_ l_ v_salt x_salt) := by
  refine nokFL sc_law_held_here rfl (fun doc pm ctv us hl => match us, hl with | [_, _], _ => rfl) fun A outer s_ F0 H00 H0 vs a_ st_ r D_ E_ hr G o_ hR_ ra_ hm kr kn => ?_
  obtain ⟨r_salt, _⟩ := hR_
  obtain ⟨v_table, _, rfl, r_table, v_place, _, rfl, r_place, rfl⟩ := ra_
  obtain ⟨x_table, x_place, _u⟩ := a_
  replace hm : m_law_held_here x_salt st_ x_table x_place = some r := hm
  unfold m_law_held_here at hm
  have r_salt : rp (α := Int) K F0 v_salt x_salt := r_salt
  have r_table : rp (α := Str) K F0 v_table x_table := r_table
  have r_place : rp (α := (Tp Int)) K F0 v_place x_place := r_place
  change GoS _ _ _ [some v_table, some v_place, some (.ref l_), some v_salt] _
  obtain ⟨t1, he, hm⟩ := Option.bind_eq_some_iff.mp hm
  refine go_append 2 G.sm o_ rfl (ev_tup2 (ea_cons (ev_varK 0 rfl r_table kv_law_held_here_0) (ea_cons (ev_varK 1 rfl r_place kv_law_held_here_1) ea_nil))) he (fun w_ F H g nz_ fz_ on_ => ?_)
  have G := G.trans g
  have r_salt := Rp.mono g.ff r_salt
  have r_table := Rp.mono g.ff r_table
  have r_place := Rp.mono g.ff r_place
  have G := G.poke (u := w_) on_.n fz_ nz_ on_.pl
  have o_ := on_
  obtain ⟨t2, h_t2, hm⟩ := Option.bind_eq_some_iff.mp hm
  exact go_ret G.sm (ev_call (ok_held T) (hr.mono (by omega)) T.g_held T.F_held.kp (b_held T) (ea_cons (ev_varK 0 rfl r_table kv_law_held_here_0) (ea_cons (ev_varK 1 rfl r_place kv_law_held_here_1) (ea_cons (ev_varK 3 rfl r_salt kv_law_held_here_2) ea_nil))) h_t2 gl_law_held_here_held) fun v_ F_ H_ g_ rv_ => (by have o2_ := o_.up g_; obtain ⟨u_, hu_, ru_⟩ := o2_.h; have er_ := Option.some.inj hm; subst er_; exact kr _ _ _ _ (G.trans g_) o2_.f hu_ ru_ rv_)
theorem sc_Number_init : FnScope ["self", "n"] ["self", "n"] (defScope s_Number_init) := ⟨rfl, rfl, rfl, by decide +kernel, rfl, by decide +kernel, by decide +kernel⟩
theorem b_Number_init (T : TxB K mg base) : Binds K T.d_Number_init ["self", "n"] [] := T.F_Number_init.bindsN fun _ _ _ _ _ _ us hl => match us, hl with | [_, _], _ => rfl
theorem kv_Number_init_1 : VKn (defScope s_Number_init) "n" := ⟨by first | exact Or.inl (by decide +kernel) | exact Or.inr (Or.inl (by decide +kernel)) | exact Or.inr (Or.inr (by decide +kernel)), by decide, by decide⟩
theorem ok_Number_init (T : TxB K mg base) : FnOk P w K mg base CX0 1 (He.fAd K ("Number", some "__init__")) T.d_Number_init ["self", "n"] (PrI K (He.ga K "Number") fs_Number fun (a_ : Int × Unit) => m_Number_init a_.1) := by
  refine fn_init T.F_Number_init sc_Number_init rfl fun cdv A outer s_ F0 H0 y_ dx_ vs a_ r D_ E_ hr G fy_ hy_ ra_ hm kn => ?_
  obtain ⟨v_n, _, rfl, r_n, rfl⟩ := ra_
  obtain ⟨x_n, _u⟩ := a_
  replace hm : m_Number_init x_n = some r := hm
  unfold m_Number_init at hm
  have r_n : rp (α := Int) K F0 v_n x_n := r_n
  refine go_fld (names := []) (vs := []) 0 G.sm fy_ hy_ rfl (by decide) (by decide +kernel) T.cl_Number T.na_Number_n rfl (ev_varK 1 rfl r_n kv_Number_init_1) (fun w0 F H g rw0 fy_ hy_ => ?_)
  have G := (G.trans g).poke (u := .ins (He.ga K "Number") dx_ (List.zip ["n"] [w0])) er_same fy_ ⟨_, hy_, trivial⟩ ⟨_, upd_same, trivial⟩
  have r_n := Rp.mono g.ff r_n
  have hy_ : upd H y_ (.ins (He.ga K "Number") dx_ (List.zip ["n"] [w0])) y_ = some (.ins (He.ga K "Number") dx_ (List.zip ["n"] [w0])) := upd_same
  cases (Option.some.inj hm)
  exact GoS.nil (kn _ _ _ [w0] G fy_ hy_ ⟨_, _, rfl, rw0, rfl⟩)
theorem sc_Value_init : FnScope ["self", "name"] ["self", "name"] (defScope s_Value_init) := ⟨rfl, rfl, rfl, by decide +kernel, rfl, by decide +kernel, by decide +kernel⟩
theorem b_Value_init (T : TxB K mg base) : Binds K T.d_Value_init ["self", "name"] [] := T.F_Value_init.bindsN fun _ _ _ _ _ _ us hl => match us, hl with | [_, _], _ => rfl
theorem kv_Value_init_1 : VKn (defScope s_Value_init) "name" := ⟨by first | exact Or.inl (by decide +kernel) | exact Or.inr (Or.inl (by decide +kernel)) | exact Or.inr (Or.inr (by decide +kernel)), by decide, by decide⟩
theorem ok_Value_init (T : TxB K mg base) : FnOk P w K mg base CX0 1 (He.fAd K ("Value", some "__init__")) T.d_Value_init ["self", "name"] (PrI K (He.ga K "Value") fs_Value fun (a_ : Str × Unit) => m_Value_init a_.1) := by
  refine fn_init T.F_Value_init sc_Value_init rfl fun cdv A outer s_ F0 H0 y_ dx_ vs a_ r D_ E_ hr G fy_ hy_ ra_ hm kn => ?_
  obtain ⟨v_name, _, rfl, r_name, rfl⟩ := ra_
  obtain ⟨x_name, _u⟩ := a_
  replace hm : m_Value_init x_name = some r := hm
  unfold m_Value_init at hm
  have r_name : rp (α := Str) K F0 v_name x_name := r_name
  refine go_fld (names := []) (vs := []) 0 G.sm fy_ hy_ rfl (by decide) (by decide +kernel) T.cl_Value T.na_Value_name rfl (ev_varK 1 rfl r_name kv_Value_init_1) (fun w0 F H g rw0 fy_ hy_ => ?_)
  have G := (G.trans g).poke (u := .ins (He.ga K "Value") dx_ (List.zip ["name"] [w0])) er_same fy_ ⟨_, hy_, trivial⟩ ⟨_, upd_same, trivial⟩
  have r_name := Rp.mono g.ff r_name
  have hy_ : upd H y_ (.ins (He.ga K "Value") dx_ (List.zip ["name"] [w0])) y_ = some (.ins (He.ga K "Value") dx_ (List.zip ["name"] [w0])) := upd_same
  cases (Option.some.inj hm)
  exact GoS.nil (kn _ _ _ [w0] G fy_ hy_ ⟨_, _, rfl, rw0, rfl⟩)
theorem sc_Cell_init : FnScope ["self", "table", "spots"] ["self", "table", "spots"] (defScope s_Cell_init) := ⟨rfl, rfl, rfl, by decide +kernel, rfl, by decide +kernel, by decide +kernel⟩
theorem b_Cell_init (T : TxB K mg base) : Binds K T.d_Cell_init ["self", "table", "spots"] [] := T.F_Cell_init.bindsN fun _ _ _ _ _ _ us hl => match us, hl with | [_, _, _], _ => rfl
theorem kv_Cell_init_1 : VKn (defScope s_Cell_init) "table" := ⟨by first | exact Or.inl (by decide +kernel) | exact Or.inr (Or.inl (by decide +kernel)) | exact Or.inr (Or.inr (by decide +kernel)), by decide, by decide⟩
theorem kv_Cell_init_2 : VKn (defScope s_Cell_init) "spots" := ⟨by first | exact Or.inl (by decide +kernel) | exact Or.inr (Or.inl (by decide +kernel)) | exact Or.inr (Or.inr (by decide +kernel)), by decide, by decide⟩
theorem ok_Cell_init (T : TxB K mg base) : FnOk P w K mg base CX0 1 (He.fAd K ("Cell", some "__init__")) T.d_Cell_init ["self", "table", "spots"] (PrI K (He.ga K "Cell") fs_Cell fun (a_ : Str × (Tp (T2 Str Int)) × Unit) => m_Cell_init a_.1 a_.2.1) := by
  refine fn_init T.F_Cell_init sc_Cell_init rfl fun cdv A outer s_ F0 H0 y_ dx_ vs a_ r D_ E_ hr G fy_ hy_ ra_ hm kn => ?_
  obtain ⟨v_table, _, rfl, r_table, v_spots, _, rfl, r_spots, rfl⟩ := ra_
  obtain ⟨x_table, x_spots, _u⟩ := a_
  replace hm : m_Cell_init x_table x_spots = some r := hm
  unfold m_Cell_init at hm
  have r_table : rp (α := Str) K F0 v_table x_table := r_table
  have r_spots : rp (α := (Tp (T2 Str Int))) K F0 v_spots x_spots := r_spots
  refine go_fld (names := []) (vs := []) 0 G.sm fy_ hy_ rfl (by decide) (by decide +kernel) T.cl_Cell T.na_Cell_table rfl (ev_varK 1 rfl r_table kv_Cell_init_1) (fun w0 F H g rw0 fy_ hy_ => ?_)
  have G := (G.trans g).poke (u := .ins (He.ga K "Cell") dx_ (List.zip ["table"] [w0])) er_same fy_ ⟨_, hy_, trivial⟩ ⟨_, upd_same, trivial⟩
  have r_table := Rp.mono g.ff r_table
  have r_spots := Rp.mono g.ff r_spots
  have hy_ : upd H y_ (.ins (He.ga K "Cell") dx_ (List.zip ["table"] [w0])) y_ = some (.ins (He.ga K "Cell") dx_ (List.zip ["table"] [w0])) := upd_same
  refine go_fld (names := ["table"]) (vs := [w0]) 0 G.sm fy_ hy_ rfl (by decide) (by decide +kernel) T.cl_Cell T.na_Cell_spots rfl (ev_varK 2 rfl r_spots kv_Cell_init_2) (fun w1 F H g rw1 fy_ hy_ => ?_)
  have G := (G.trans g).poke (u := .ins (He.ga K "Cell") dx_ (List.zip ["table", "spots"] [w0, w1])) er_same fy_ ⟨_, hy_, trivial⟩ ⟨_, upd_same, trivial⟩
  have rw0 := Rp.mono g.ff rw0
  have r_table := Rp.mono g.ff r_table
  have r_spots := Rp.mono g.ff r_spots
  have hy_ : upd H y_ (.ins (He.ga K "Cell") dx_ (List.zip ["table", "spots"] [w0, w1])) y_ = some (.ins (He.ga K "Cell") dx_ (List.zip ["table", "spots"] [w0, w1])) := upd_same
  cases (Option.some.inj hm)
  exact GoS.nil (kn _ _ _ [w0, w1] G fy_ hy_ ⟨_, _, rfl, rw0, ⟨_, _, rfl, rw1, rfl⟩⟩)
theorem sc_leaf : FnScope ["_law_cell", "_law_names_here", "_law_values_here", "_law_salt", "_law_xs", "_law_number_here", "_law_name", "_law_spots", "_law_place", "_law_k", "_law_n", "_law_table", "_law_held_here"] ["_law_cell", "_law_names_here", "_law_values_here", "_law_salt"] (defScope s_leaf) := ⟨rfl, rfl, rfl, by decide +kernel, rfl, by decide +kernel, by decide +kernel⟩
theorem b_leaf (T : TxB K mg base) : Binds K T.d_leaf ["_law_cell", "_law_names_here", "_law_values_here", "_law_salt"] [] := T.F_leaf.bindsN fun _ _ _ _ _ _ us hl => match us, hl with | [_, _, _, _], _ => rfl
theorem kv_leaf_0 : VKn (defScope s_leaf) "_law_cell" := ⟨by first | exact Or.inl (by decide +kernel) | exact Or.inr (Or.inl (by decide +kernel)) | exact Or.inr (Or.inr (by decide +kernel)), by decide, by decide⟩
theorem kv_leaf_1 : VKn (defScope s_leaf) "_law_names_here" := ⟨by first | exact Or.inl (by decide +kernel) | exact Or.inr (Or.inl (by decide +kernel)) | exact Or.inr (Or.inr (by decide +kernel)), by decide, by decide⟩
theorem kv_leaf_2 : VKn (defScope s_leaf) "_law_values_here" := ⟨by first | exact Or.inl (by decide +kernel) | exact Or.inr (Or.inl (by decide +kernel)) | exact Or.inr (Or.inr (by decide +kernel)), by decide, by decide⟩
theorem kv_leaf_3 : VKn (defScope s_leaf) "_law_salt" := ⟨by first | exact Or.inl (by decide +kernel) | exact Or.inr (Or.inl (by decide +kernel)) | exact Or.inr (Or.inr (by decide +kernel)), by decide, by decide⟩
theorem kv_leaf_4 : VKn (defScope s_leaf) "_law_xs" := ⟨by first | exact Or.inl (by decide +kernel) | exact Or.inr (Or.inl (by decide +kernel)) | exact Or.inr (Or.inr (by decide +kernel)), by decide, by decide⟩
theorem kv_leaf_5 : VKn (defScope s_leaf) "_law_number_here" := ⟨by first | exact Or.inl (by decide +kernel) | exact Or.inr (Or.inl (by decide +kernel)) | exact Or.inr (Or.inr (by decide +kernel)), by decide, by decide⟩
theorem kv_leaf_6 : VKn (defScope s_leaf) "_law_name" := ⟨by first | exact Or.inl (by decide +kernel) | exact Or.inr (Or.inl (by decide +kernel)) | exact Or.inr (Or.inr (by decide +kernel)), by decide, by decide⟩
theorem kv_leaf_7 : VKn (defScope s_leaf) "_law_spots" := ⟨by first | exact Or.inl (by decide +kernel) | exact Or.inr (Or.inl (by decide +kernel)) | exact Or.inr (Or.inr (by decide +kernel)), by decide, by decide⟩
theorem kv_leaf_8 : VKn (defScope s_leaf) "_law_place" := ⟨by first | exact Or.inl (by decide +kernel) | exact Or.inr (Or.inl (by decide +kernel)) | exact Or.inr (Or.inr (by decide +kernel)), by decide, by decide⟩
theorem kv_leaf_9 : VKn (defScope s_leaf) "_law_k" := ⟨by first | exact Or.inl (by decide +kernel) | exact Or.inr (Or.inl (by decide +kernel)) | exact Or.inr (Or.inr (by decide +kernel)), by decide, by decide⟩
theorem kv_leaf_10 : VKn (defScope s_leaf) "_law_n" := ⟨by first | exact Or.inl (by decide +kernel) | exact Or.inr (Or.inl (by decide +kernel)) | exact Or.inr (Or.inr (by decide +kernel)), by decide, by decide⟩
theorem kv_leaf_11 : VKn (defScope s_leaf) "_law_table" := ⟨by first | exact Or.inl (by decide +kernel) | exact Or.inr (Or.inl (by decide +kernel)) | exact Or.inr (Or.inr (by decide +kernel)), by decide, by decide⟩
theorem kv_leaf_12 : VKn (defScope s_leaf) "_law_held_here" := ⟨by first | exact Or.inl (by decide +kernel) | exact Or.inr (Or.inl (by decide +kernel)) | exact Or.inr (Or.inr (by decide +kernel)), by decide, by decide⟩
theorem gl_leaf_held : (defScope s_leaf).names.lookup ("_law_held" : Str) = some NameKind.globalImplicit := by decide +kernel
theorem gl_leaf_number : (defScope s_leaf).names.lookup ("_law_number" : Str) = some NameKind.globalImplicit := by decide +kernel
theorem gl_leaf_stream : (defScope s_leaf).names.lookup ("_law_stream" : Str) = some NameKind.globalImplicit := by decide +kernel
theorem ok_leaf (T : TxB K mg base) : FnOk P w K mg base CX0 3 (He.fAd K ("_law_leaf", none)) T.d_leaf ["_law_cell", "_law_names_here", "_law_values_here", "_law_salt"] (Pr K fun (a_ : Int × (List Str) × (Dct Str Int) × Int × Unit) => m_leaf a_.1 a_.2.1 a_.2.2.1 a_.2.2.2.1) := by
  refine fn_ok T.F_leaf sc_leaf rfl fun cdv A outer s_ F0 H0 vs a_ r D_ E_ hr sm_ ra_ hm kr kn => ?_
  obtain ⟨v_cell, _, rfl, r_cell, v_names_here, _, rfl, r_names_here, v_values_here, _, rfl, r_values_here, v_salt, _, rfl, r_salt, rfl⟩ := ra_
  obtain ⟨x_cell, x_names_here, x_values_here, x_salt, _u⟩ := a_
  have G : GrX K F0 H0 F0 H0 := .refl sm_
  replace hm : m_leaf x_cell x_names_here x_values_here x_salt = some r := hm
  unfold m_leaf at hm
  have r_cell : rp (α := Int) K F0 v_cell x_cell := r_cell
  have r_names_here : rp (α := (List Str)) K F0 v_names_here x_names_here := r_names_here
  have r_values_here : rp (α := (Dct Str Int)) K F0 v_values_here x_values_here := r_values_here
  have r_salt : rp (α := Int) K F0 v_salt x_salt := r_salt
  change GoS _ _ _ [some v_cell, some v_names_here, some v_values_here, some v_salt, none, none, none, none, none, none, none, none, none] _
  obtain ⟨t1, h_t1, hm⟩ := Option.bind_eq_some_iff.mp hm
  obtain ⟨x_xs, he, hm⟩ := Option.bind_eq_some_iff.mp hm
  refine go_setA ((List Int)) 4 G.sm (ev_call (ok_stream T) (hr.mono (by omega)) T.g_stream T.F_stream.kp (b_stream T) (ea_cons (ev_div (ev_varK 0 rfl r_cell kv_leaf_0) ev_int ⟨by decide, by decide⟩) (ea_cons ev_int ea_nil)) h_t1 gl_leaf_stream) (fun v_xs F H g rn_ => ?_) sc_leaf.nd
  have G := G.trans g
  have r_cell := Rp.mono g.ff r_cell
  have r_names_here := Rp.mono g.ff r_names_here
  have r_values_here := Rp.mono g.ff r_values_here
  have r_salt := Rp.mono g.ff r_salt
  have r_xs := cg (Option.some.inj he) rn_
  change GoS _ _ _ [some v_cell, some v_names_here, some v_values_here, some v_salt, some v_xs, none, none, none, none, none, none, none, none] _
  refine go_ifA ((decide ((x_cell % (3 : Int)) = (0 : Int)))) G.sm (et_cmp op_eq o2_eq (ev_mod (ev_varK 0 rfl r_cell kv_leaf_0) ev_int (by decide)) ev_int (nomark _)) (fun hc F H g => ?_) (fun hc F H g => ?_)
  · replace hm := ipos hc hm
    have G := G.trans g
    have r_cell := Rp.mono g.ff r_cell
    have r_names_here := Rp.mono g.ff r_names_here
    have r_values_here := Rp.mono g.ff r_values_here
    have r_salt := Rp.mono g.ff r_salt
    have r_xs := Rp.mono g.ff r_xs
    obtain ⟨t2, h_t2, hm⟩ := Option.bind_eq_some_iff.mp hm
    obtain ⟨t3, h_t3, hm⟩ := Option.bind_eq_some_iff.mp hm
    obtain ⟨t4, h_t4, hm⟩ := Option.bind_eq_some_iff.mp hm
    obtain ⟨t5, h_t5, hm⟩ := Option.bind_eq_some_iff.mp hm
    obtain ⟨x_number_here, he, hm⟩ := Option.bind_eq_some_iff.mp hm
    refine go_setA (Int) 5 G.sm (ev_call (ok_number T) (hr.mono (by omega)) T.g_number T.F_number.kp (b_number T) (ea_cons (ev_mulG (ev_ixL (ev_varK 4 rfl r_xs kv_leaf_4) ev_int h_t2) (ev_ixL (ev_varK 4 rfl r_xs kv_leaf_4) ev_int h_t3) h_t4) (ea_cons (ev_sub (ev_powcA (1000000000000000000) ev_int ev_int (by decide) (by decide +kernel)) ev_int) ea_nil)) h_t5 gl_leaf_number) (fun v_number_here F H g rn_ => ?_) sc_leaf.nd
    have G := G.trans g
    have r_xs := Rp.mono g.ff r_xs
    have r_number_here := cg (Option.some.inj he) rn_
    change GoS _ _ _ [some v_cell, some v_names_here, some v_values_here, some v_salt, some v_xs, some v_number_here, none, none, none, none, none, none, none] _
    exact go_ret G.sm (ev_tup4 (ea_cons (UTerm.mk_Number (ev_make (z := QNumber.mk (if x_number_here < 0 then -x_number_here else x_number_here)) (names := fs_Number) (cn := "Number") (fun _ _ h => h) T.mk_Number (ok_Number_init T) (hr.mono (by omega)) T.g_Number (b_Number_init T) (ea_cons (ev_callB call_abs oc_abs T.n_abs (by decide +kernel) (ea_cons (ev_varK 5 rfl r_number_here kv_leaf_5) ea_nil)) ea_nil) rfl)) (ea_cons (ev_callB call_abs oc_abs T.n_abs (by decide +kernel) (ea_cons (ev_varK 5 rfl r_number_here kv_leaf_5) ea_nil)) (ea_cons (EvN.evA ((List (T2 Str (Tp (T2 Str Int))))) (en_list el_nil (Nat.zero_le _))) (ea_cons (EvN.evA ((List (T2 Str (Tp Int)))) (en_list el_nil (Nat.zero_le _))) ea_nil))))) fun v_ F_ H_ g_ rv_ => kr _ _ _ (G.trans g_) (cg (Option.some.inj hm) rv_)
  · replace hm := ineg (nt hc) hm
    have G := G.trans g
    have r_cell := Rp.mono g.ff r_cell
    have r_names_here := Rp.mono g.ff r_names_here
    have r_values_here := Rp.mono g.ff r_values_here
    have r_salt := Rp.mono g.ff r_salt
    have r_xs := Rp.mono g.ff r_xs
    refine GoS.nil ?_
    obtain ⟨t6, h_t6, hm⟩ := Option.bind_eq_some_iff.mp hm
    obtain ⟨t7, h_t7, hm⟩ := Option.bind_eq_some_iff.mp hm
    obtain ⟨x_name, he, hm⟩ := Option.bind_eq_some_iff.mp hm
    refine go_setA (Str) 6 G.sm (ev_ixL (ev_varK 1 rfl r_names_here kv_leaf_1) (ev_mod (ev_ixL (ev_varK 4 rfl r_xs kv_leaf_4) ev_int h_t6) ev_int (by decide)) h_t7) (fun v_name F H g rn_ => ?_) sc_leaf.nd
    have G := G.trans g
    have r_cell := Rp.mono g.ff r_cell
    have r_names_here := Rp.mono g.ff r_names_here
    have r_values_here := Rp.mono g.ff r_values_here
    have r_salt := Rp.mono g.ff r_salt
    have r_xs := Rp.mono g.ff r_xs
    have r_name := cg (Option.some.inj he) rn_
    change GoS _ _ _ [some v_cell, some v_names_here, some v_values_here, some v_salt, some v_xs, none, some v_name, none, none, none, none, none, none] _
    refine go_ifA ((decide ((x_cell % (3 : Int)) = (1 : Int)))) G.sm (et_cmp op_eq o2_eq (ev_mod (ev_varK 0 rfl r_cell kv_leaf_0) ev_int (by decide)) ev_int (nomark _)) (fun hc F H g => ?_) (fun hc F H g => ?_)
    · replace hm := ipos hc hm
      have G := G.trans g
      have r_cell := Rp.mono g.ff r_cell
      have r_names_here := Rp.mono g.ff r_names_here
      have r_values_here := Rp.mono g.ff r_values_here
      have r_salt := Rp.mono g.ff r_salt
      have r_xs := Rp.mono g.ff r_xs
      have r_name := Rp.mono g.ff r_name
      obtain ⟨t8, h_t8, hm⟩ := Option.bind_eq_some_iff.mp hm
      exact go_ret G.sm (ev_tup4 (ea_cons (UTerm.mk_Value (ev_make (z := QValue.mk x_name) (names := fs_Value) (cn := "Value") (fun _ _ h => h) T.mk_Value (ok_Value_init T) (hr.mono (by omega)) T.g_Value (b_Value_init T) (ea_cons (ev_varK 6 rfl r_name kv_leaf_6) ea_nil) rfl)) (ea_cons (ev_dget (room1 hr) (ev_varK 2 rfl r_values_here kv_leaf_2) (ev_varK 6 rfl r_name kv_leaf_6) h_t8) (ea_cons (EvN.evA ((List (T2 Str (Tp (T2 Str Int))))) (en_list el_nil (Nat.zero_le _))) (ea_cons (EvN.evA ((List (T2 Str (Tp Int)))) (en_list el_nil (Nat.zero_le _))) ea_nil))))) fun v_ F_ H_ g_ rv_ => kr _ _ _ (G.trans g_) (cg (Option.some.inj hm) rv_)
    · replace hm := ineg (nt hc) hm
      have G := G.trans g
      have r_cell := Rp.mono g.ff r_cell
      have r_names_here := Rp.mono g.ff r_names_here
      have r_values_here := Rp.mono g.ff r_values_here
      have r_salt := Rp.mono g.ff r_salt
      have r_xs := Rp.mono g.ff r_xs
      have r_name := Rp.mono g.ff r_name
      refine GoS.nil ?_
      obtain ⟨x_spots, he, hm⟩ := Option.bind_eq_some_iff.mp hm
      refine go_setNA ((List (T2 Str Int))) 7 G.sm (en_list el_nil (Nat.zero_le _)) (fun l_spots vs_ F H g nl_ fl_ hl_ rs_ => ?_) sc_leaf.nd
      have n0_ := G.hh.free nl_
      have G := G.trans g
      have r_names_here := Rp.mono g.ff r_names_here
      have r_values_here := Rp.mono g.ff r_values_here
      have r_salt := Rp.mono g.ff r_salt
      have r_xs := Rp.mono g.ff r_xs
      have r_name := Rp.mono g.ff r_name
      have o_spots : Own K _ F H l_spots _ := Own.cg (Option.some.inj he) ⟨n0_, fl_, vs_, hl_, rs_⟩
      change GoS _ _ _ [some v_cell, some v_names_here, some v_values_here, some v_salt, some v_xs, none, some v_name, some (.ref l_spots), none, none, none, none, none] _
      obtain ⟨x_place, he, hm⟩ := Option.bind_eq_some_iff.mp hm
      refine go_setNA ((List Int)) 8 G.sm (en_list el_nil (Nat.zero_le _)) (fun l_place vs_ F H g nl_ fl_ hl_ rs_ => ?_) sc_leaf.nd
      have d_place_spots : l_place ≠ l_spots := fun e_ => o_spots.ne0 (e_ ▸ nl_)
      have n0_ := G.hh.free nl_
      have G := G.trans g
      have r_names_here := Rp.mono g.ff r_names_here
      have r_values_here := Rp.mono g.ff r_values_here
      have r_salt := Rp.mono g.ff r_salt
      have r_xs := Rp.mono g.ff r_xs
      have r_name := Rp.mono g.ff r_name
      have o_spots := o_spots.up g
      have o_place : Own K _ F H l_place _ := Own.cg (Option.some.inj he) ⟨n0_, fl_, vs_, hl_, rs_⟩
      change GoS _ _ _ [some v_cell, some v_names_here, some v_values_here, some v_salt, some v_xs, none, some v_name, some (.ref l_spots), some (.ref l_place), none, none, none, none] _
      obtain ⟨t9, h_t9, hm⟩ := Option.bind_eq_some_iff.mp hm
      obtain ⟨t10, h_t10, hm⟩ := Option.bind_eq_some_iff.mp hm
      obtain ⟨b27, ho_, hm⟩ := Option.bind_eq_some_iff.mp hm
      refine go_forN G.sm (ei_range1 (ev_add ev_int (ev_mod (ev_div (ev_ixL (ev_varK 4 rfl r_xs kv_leaf_4) ev_int h_t9) ev_int ⟨by decide, by decide⟩) ev_int (by decide))) h_t10 T.n_range) (pg_name (i := 9) sc_leaf.nd rfl (by first | exact Or.inl rfl | exact Or.inr rfl)) ho_ (fun F H g => ?_) PassesOwn.never
      have G := G.trans g
      have r_names_here := Rp.mono g.ff r_names_here
      have r_values_here := Rp.mono g.ff r_values_here
      have r_salt := Rp.mono g.ff r_salt
      have r_xs := Rp.mono g.ff r_xs
      have r_name := Rp.mono g.ff r_name
      have o_spots := o_spots.up g
      have o_place := o_place.up g
      refine ⟨fun (b11 : ((List (T2 Str Int)) × (List Int))) σ_ F_ H_ => ∃ (u_name : Option V) (u_n : Option V) (u_k : Option V), σ_ = [some v_cell, some v_names_here, some v_values_here, some v_salt, some v_xs, none, u_name, some (.ref l_spots), some (.ref l_place), u_k, u_n, none, none] ∧ GrX K F0 H0 F_ H_ ∧ Own K H0 F_ H_ l_spots b11.1 ∧ Own K H0 F_ H_ l_place b11.2, ⟨_, _, _, rfl, G, o_spots, o_place⟩, ?_, ?_⟩
      ·
        intro b11 x_k o_ hm σ_ F H v_k s1_ s2_ iv_ F H g r_k Q_ hQ_
        obtain ⟨u_name, u_n, u_k, rfl, G, o_spots, o_place⟩ := iv_
        have sb14 := g.ff
        have r_names_here := Rp.mono s1_ r_names_here
        have r_values_here := Rp.mono s1_ r_values_here
        have r_xs := Rp.mono s1_ r_xs
        have G := G.trans g
        have r_names_here := Rp.mono g.ff r_names_here
        have r_values_here := Rp.mono g.ff r_values_here
        have r_xs := Rp.mono g.ff r_xs
        have o_spots := o_spots.up g
        have o_place := o_place.up g
        refine hQ_ _ _ ?_
        change GoS _ _ _ [some v_cell, some v_names_here, some v_values_here, some v_salt, some v_xs, none, u_name, some (.ref l_spots), some (.ref l_place), some v_k, u_n, none, none] _
        obtain ⟨t15, h_t15, hm⟩ := Option.bind_eq_some_iff.mp hm
        obtain ⟨t16, h_t16, hm⟩ := Option.bind_eq_some_iff.mp hm
        obtain ⟨t17, h_t17, hm⟩ := Option.bind_eq_some_iff.mp hm
        obtain ⟨x_name, he, hm⟩ := Option.bind_eq_some_iff.mp hm
        refine go_setA (Str) 6 G.sm (ev_ixL (EvN.evA ((List Str)) (en_cat (EvN.evA ((List Str)) (en_slice (ev_varK 1 rfl r_names_here kv_leaf_1) eo_none (eo_some ev_int))) (EvN.evA ((List Str)) (en_list (el_cons ev_str el_nil) (by show 1 ≤ sizeLine; decide))) h_t15)) (ev_mod (ev_ixL (ev_varK 4 rfl r_xs kv_leaf_4) (ev_add ev_int (ev_varK 9 rfl r_k kv_leaf_9)) h_t16) ev_int (by decide)) h_t17) (fun v_name F H g rn_ => ?_) sc_leaf.nd
        have G := G.trans g
        have r_names_here := Rp.mono g.ff r_names_here
        have r_values_here := Rp.mono g.ff r_values_here
        have r_xs := Rp.mono g.ff r_xs
        have o_spots := o_spots.up g
        have o_place := o_place.up g
        have r_k := Rp.mono g.ff r_k
        have sb14 := sb14.trans g.ff
        have r_name := cg (Option.some.inj he) rn_
        change GoS _ _ _ [some v_cell, some v_names_here, some v_values_here, some v_salt, some v_xs, none, some v_name, some (.ref l_spots), some (.ref l_place), some v_k, u_n, none, none] _
        obtain ⟨t18, h_t18, hm⟩ := Option.bind_eq_some_iff.mp hm
        obtain ⟨t19, h_t19, hm⟩ := Option.bind_eq_some_iff.mp hm
        obtain ⟨t20, h_t20, hm⟩ := Option.bind_eq_some_iff.mp hm
        obtain ⟨t21, h_t21, hm⟩ := Option.bind_eq_some_iff.mp hm
        obtain ⟨x_n, he, hm⟩ := Option.bind_eq_some_iff.mp hm
        refine go_setA (Int) 10 G.sm (ev_call (ok_number T) (hr.mono (by omega)) T.g_number T.F_number.kp (b_number T) (ea_cons (ev_mulG (ev_ixL (ev_varK 4 rfl r_xs kv_leaf_4) (ev_add ev_int (ev_varK 9 rfl r_k kv_leaf_9)) h_t18) (ev_ixL (ev_varK 4 rfl r_xs kv_leaf_4) (ev_add ev_int (ev_varK 9 rfl r_k kv_leaf_9)) h_t19) h_t20) (ea_cons (ev_sub (ev_powcA (1000000000000000000) ev_int ev_int (by decide) (by decide +kernel)) ev_int) ea_nil)) h_t21 gl_leaf_number) (fun v_n F H g rn_ => ?_) sc_leaf.nd
        have G := G.trans g
        have r_values_here := Rp.mono g.ff r_values_here
        have r_xs := Rp.mono g.ff r_xs
        have o_spots := o_spots.up g
        have o_place := o_place.up g
        have r_k := Rp.mono g.ff r_k
        have r_name := Rp.mono g.ff r_name
        have sb14 := sb14.trans g.ff
        have r_n := cg (Option.some.inj he) rn_
        change GoS _ _ _ [some v_cell, some v_names_here, some v_values_here, some v_salt, some v_xs, none, some v_name, some (.ref l_spots), some (.ref l_place), some v_k, some v_n, none, none] _
        obtain ⟨t22, he, hm⟩ := Option.bind_eq_some_iff.mp hm
        refine go_append 7 G.sm o_spots rfl (ev_tup2 (ea_cons (ev_varK 6 rfl r_name kv_leaf_6) (ea_cons (ev_varK 10 rfl r_n kv_leaf_10) ea_nil))) he (fun w_ F H g nz_ fz_ on_ => ?_)
        have G := G.trans g
        have r_values_here := Rp.mono g.ff r_values_here
        have o_place := o_place.up g
        have r_name := Rp.mono g.ff r_name
        have r_n := Rp.mono g.ff r_n
        have sb14 := sb14.trans g.ff
        have G := G.poke (u := w_) on_.n fz_ nz_ on_.pl
        have o_spots := on_
        have o_place := o_place.other (u := w_) (d_place_spots)
        obtain ⟨b23, hj, hm⟩ := Option.bind_eq_some_iff.mp hm
        refine go_ifjA ((!decide (x_name = ("" : Str)))) (fun σ_ H_ => ∃ (F_ : Hp) (v_n : V), L2.Same F F_ ∧ σ_ = [some v_cell, some v_names_here, some v_values_here, some v_salt, some v_xs, none, some v_name, some (.ref l_spots), some (.ref l_place), some v_k, some v_n, none, none] ∧ GrX K F0 H0 F_ H_ ∧ rp (α := Int) K F_ v_n b23 ∧ Own K H0 F_ H_ l_spots t22 ∧ Own K H0 F_ H_ l_place b11.2) G.sm (et_cmp op_ne o2_ne (ev_varK 6 rfl r_name kv_leaf_6) ev_str (nomark _)) (fun hc F H g => ?_) (fun hc F H g => ?_) (fun σ_ H hP_ => ?_)
        · replace hj := ipos hc hj
          clear hm
          have hm := hj
          clear hj
          have G := G.trans g
          have r_values_here := Rp.mono g.ff r_values_here
          have o_spots := o_spots.up g
          have o_place := o_place.up g
          have r_name := Rp.mono g.ff r_name
          have r_n := Rp.mono g.ff r_n
          have sb14 := sb14.trans g.ff
          have sj24 := g.ff
          obtain ⟨t25, h_t25, hm⟩ := Option.bind_eq_some_iff.mp hm
          obtain ⟨x_n, he, hm⟩ := Option.bind_eq_some_iff.mp hm
          refine go_setA (Int) 10 G.sm (ev_add (ev_varK 10 rfl r_n kv_leaf_10) (ev_dget (room1 hr) (ev_varK 2 rfl r_values_here kv_leaf_2) (ev_varK 6 rfl r_name kv_leaf_6) h_t25)) (fun v_n F H g rn_ => ?_) sc_leaf.nd
          have G := G.trans g
          have r_values_here := Rp.mono g.ff r_values_here
          have o_spots := o_spots.up g
          have o_place := o_place.up g
          have r_name := Rp.mono g.ff r_name
          have sb14 := sb14.trans g.ff
          have sj24 := sj24.trans g.ff
          have r_n := cg (Option.some.inj he) rn_
          have hm := Option.some.inj hm
          subst hm
          exact GoS.nil ⟨_, _, sj24, rfl, G, r_n, o_spots, o_place⟩
        · replace hj := ineg (nt hc) hj
          clear hm
          have hm := hj
          clear hj
          have G := G.trans g
          have r_values_here := Rp.mono g.ff r_values_here
          have o_spots := o_spots.up g
          have o_place := o_place.up g
          have r_name := Rp.mono g.ff r_name
          have r_n := Rp.mono g.ff r_n
          have sb14 := sb14.trans g.ff
          have sj24 := g.ff
          have hm := Option.some.inj hm
          subst hm
          exact GoS.nil ⟨_, _, sj24, rfl, G, r_n, o_spots, o_place⟩
        obtain ⟨F, v_n, sj_, rfl, G, r_n, o_spots, o_place⟩ := hP_
        have sb14 := sb14.trans sj_
        obtain ⟨t26, he, hm⟩ := Option.bind_eq_some_iff.mp hm
        refine go_append 8 G.sm o_place rfl (ev_varK 10 rfl r_n kv_leaf_10) he (fun w_ F H g nz_ fz_ on_ => ?_)
        have G := G.trans g
        have o_spots := o_spots.up g
        have r_n := Rp.mono g.ff r_n
        have sb14 := sb14.trans g.ff
        have G := G.poke (u := w_) on_.n fz_ nz_ on_.pl
        have o_place := on_
        have o_spots := o_spots.other (u := w_) (d_place_spots.symm)
        have hm := Option.some.inj hm
        subst hm
        exact GoS.nil ⟨_, sb14, G.fh, ⟨_, _, _, rfl, G, o_spots, o_place⟩⟩
      · intro σ_ F H s1_ s2_ iv_
        obtain ⟨u_name, u_n, u_k, rfl, G, o_spots, o_place⟩ := iv_
        have r_names_here := Rp.mono s1_ r_names_here
        have r_salt := Rp.mono s1_ r_salt
        have r_xs := Rp.mono s1_ r_xs
        change GoS _ _ _ [some v_cell, some v_names_here, some v_values_here, some v_salt, some v_xs, none, u_name, some (.ref l_spots), some (.ref l_place), u_k, u_n, none, none] _
        obtain ⟨t28, h_t28, hm⟩ := Option.bind_eq_some_iff.mp hm
        obtain ⟨t29, h_t29, hm⟩ := Option.bind_eq_some_iff.mp hm
        obtain ⟨x_table, he, hm⟩ := Option.bind_eq_some_iff.mp hm
        refine go_setA (Str) 11 G.sm (ev_ixL (ev_varK 1 rfl r_names_here kv_leaf_1) (ev_sub (ev_add (ev_mod (ev_ixL (ev_varK 4 rfl r_xs kv_leaf_4) ev_int h_t28) ev_int (by decide)) (ev_mul ev_int (ev_lenOwn 7 o_spots rfl T.n_len) (CMul.l (by decide)))) ev_int) h_t29) (fun v_table F H g rn_ => ?_) sc_leaf.nd
        have G := G.trans g
        have r_names_here := Rp.mono g.ff r_names_here
        have r_salt := Rp.mono g.ff r_salt
        have r_xs := Rp.mono g.ff r_xs
        have o_spots := o_spots.up g
        have o_place := o_place.up g
        have r_table := cg (Option.some.inj he) rn_
        change GoS _ _ _ [some v_cell, some v_names_here, some v_values_here, some v_salt, some v_xs, none, u_name, some (.ref l_spots), some (.ref l_place), u_k, u_n, some v_table, none] _
        obtain ⟨t30, h_t30, hm⟩ := Option.bind_eq_some_iff.mp hm
        obtain ⟨x_held_here, he, hm⟩ := Option.bind_eq_some_iff.mp hm
        refine go_setA (Int) 12 G.sm (ev_thaw o_place G.fh (fun F H s_ s2_ rf_ k_ => by
                have r_salt := Rp.mono s_ r_salt
                have r_table := Rp.mono s_ r_table
                have rf_place := rf_
                exact (ev_call (ok_held T) (hr.mono (by omega)) T.g_held T.F_held.kp (b_held T) (ea_cons (ev_varK 11 rfl r_table kv_leaf_11) (ea_cons (ev_callTy call_tuple_of oc_tuple T.n_tuple (by decide +kernel) (ea_cons (ev_var 8 rfl rf_place) ea_nil)) (ea_cons (ev_varK 3 rfl r_salt kv_leaf_3) ea_nil))) h_t30 gl_leaf_held))) (fun v_held_here F H g rn_ => ?_) sc_leaf.nd
        have G := G.trans g
        have r_salt := Rp.mono g.ff r_salt
        have o_spots := o_spots.up g
        have o_place := o_place.up g
        have r_table := Rp.mono g.ff r_table
        have r_held_here := cg (Option.some.inj he) rn_
        refine o_place.freeze G (fun F H s_ s2_ G r_place k_ => ?_)
        have o_spots := o_spots.keepF (d_place_spots.symm) s_ k_
        have r_table := Rp.mono s_ r_table
        have r_held_here := Rp.mono s_ r_held_here
        refine o_spots.freeze G (fun F H s_ s2_ G r_spots k_ => ?_)
        have r_place := Rp.mono s_ r_place
        have r_table := Rp.mono s_ r_table
        have r_held_here := Rp.mono s_ r_held_here
        exact go_ret G.sm (ev_tup4 (ea_cons (UTerm.mk_Cell (ev_make (z := QCell.mk x_table (Tp.mk b27.1)) (names := fs_Cell) (cn := "Cell") (fun _ _ h => h) T.mk_Cell (ok_Cell_init T) (hr.mono (by omega)) T.g_Cell (b_Cell_init T) (ea_cons (ev_varK 11 rfl r_table kv_leaf_11) (ea_cons (ev_callTy call_tuple_of oc_tuple T.n_tuple (by decide +kernel) (ea_cons (ev_varK 7 rfl r_spots kv_leaf_7) ea_nil)) ea_nil)) rfl)) (ea_cons (ev_varK 12 rfl r_held_here kv_leaf_12) (ea_cons (EvN.evA ((List (T2 Str (Tp (T2 Str Int))))) (en_list (el_cons (ev_tup2 (ea_cons (ev_varK 11 rfl r_table kv_leaf_11) (ea_cons (ev_callTy call_tuple_of oc_tuple T.n_tuple (by decide +kernel) (ea_cons (ev_varK 7 rfl r_spots kv_leaf_7) ea_nil)) ea_nil))) el_nil) (by show 1 ≤ sizeLine; decide))) (ea_cons (EvN.evA ((List (T2 Str (Tp Int)))) (en_list (el_cons (ev_tup2 (ea_cons (ev_varK 11 rfl r_table kv_leaf_11) (ea_cons (ev_callTy call_tuple_of oc_tuple T.n_tuple (by decide +kernel) (ea_cons (ev_varK 8 rfl r_place kv_leaf_8) ea_nil)) ea_nil))) el_nil) (by show 1 ≤ sizeLine; decide))) ea_nil))))) fun v_ F_ H_ g_ rv_ => kr _ _ _ (G.trans g_) (cg (Option.some.inj hm) rv_)
theorem sc_Joined_init : FnScope ["self", "sign", "left", "right"] ["self", "sign", "left", "right"] (defScope s_Joined_init) := ⟨rfl, rfl, rfl, by decide +kernel, rfl, by decide +kernel, by decide +kernel⟩
theorem b_Joined_init (T : TxB K mg base) : Binds K T.d_Joined_init ["self", "sign", "left", "right"] [] := T.F_Joined_init.bindsN fun _ _ _ _ _ _ us hl => match us, hl with | [_, _, _, _], _ => rfl
theorem kv_Joined_init_1 : VKn (defScope s_Joined_init) "sign" := ⟨by first | exact Or.inl (by decide +kernel) | exact Or.inr (Or.inl (by decide +kernel)) | exact Or.inr (Or.inr (by decide +kernel)), by decide, by decide⟩
theorem kv_Joined_init_2 : VKn (defScope s_Joined_init) "left" := ⟨by first | exact Or.inl (by decide +kernel) | exact Or.inr (Or.inl (by decide +kernel)) | exact Or.inr (Or.inr (by decide +kernel)), by decide, by decide⟩
theorem kv_Joined_init_3 : VKn (defScope s_Joined_init) "right" := ⟨by first | exact Or.inl (by decide +kernel) | exact Or.inr (Or.inl (by decide +kernel)) | exact Or.inr (Or.inr (by decide +kernel)), by decide, by decide⟩
theorem ok_Joined_init (T : TxB K mg base) : FnOk P w K mg base CX0 1 (He.fAd K ("Joined", some "__init__")) T.d_Joined_init ["self", "sign", "left", "right"] (PrI K (He.ga K "Joined") fs_Joined fun (a_ : Str × UTerm × UTerm × Unit) => m_Joined_init a_.1 a_.2.1 a_.2.2.1) := by
  refine fn_init T.F_Joined_init sc_Joined_init rfl fun cdv A outer s_ F0 H0 y_ dx_ vs a_ r D_ E_ hr G fy_ hy_ ra_ hm kn => ?_
  obtain ⟨v_sign, _, rfl, r_sign, v_left, _, rfl, r_left, v_right, _, rfl, r_right, rfl⟩ := ra_
  obtain ⟨x_sign, x_left, x_right, _u⟩ := a_
  replace hm : m_Joined_init x_sign x_left x_right = some r := hm
  unfold m_Joined_init at hm
  have r_sign : rp (α := Str) K F0 v_sign x_sign := r_sign
  have r_left : rp (α := UTerm) K F0 v_left x_left := r_left
  have r_right : rp (α := UTerm) K F0 v_right x_right := r_right
  refine go_fld (names := []) (vs := []) 0 G.sm fy_ hy_ rfl (by decide) (by decide +kernel) T.cl_Joined T.na_Joined_sign rfl (ev_varK 1 rfl r_sign kv_Joined_init_1) (fun w0 F H g rw0 fy_ hy_ => ?_)
  have G := (G.trans g).poke (u := .ins (He.ga K "Joined") dx_ (List.zip ["sign"] [w0])) er_same fy_ ⟨_, hy_, trivial⟩ ⟨_, upd_same, trivial⟩
  have r_sign := Rp.mono g.ff r_sign
  have r_left := Rp.mono g.ff r_left
  have r_right := Rp.mono g.ff r_right
  have hy_ : upd H y_ (.ins (He.ga K "Joined") dx_ (List.zip ["sign"] [w0])) y_ = some (.ins (He.ga K "Joined") dx_ (List.zip ["sign"] [w0])) := upd_same
  refine go_fld (names := ["sign"]) (vs := [w0]) 0 G.sm fy_ hy_ rfl (by decide) (by decide +kernel) T.cl_Joined T.na_Joined_left rfl (ev_varK 2 rfl r_left kv_Joined_init_2) (fun w1 F H g rw1 fy_ hy_ => ?_)
  have G := (G.trans g).poke (u := .ins (He.ga K "Joined") dx_ (List.zip ["sign", "left"] [w0, w1])) er_same fy_ ⟨_, hy_, trivial⟩ ⟨_, upd_same, trivial⟩
  have rw0 := Rp.mono g.ff rw0
  have r_sign := Rp.mono g.ff r_sign
  have r_left := Rp.mono g.ff r_left
  have r_right := Rp.mono g.ff r_right
  have hy_ : upd H y_ (.ins (He.ga K "Joined") dx_ (List.zip ["sign", "left"] [w0, w1])) y_ = some (.ins (He.ga K "Joined") dx_ (List.zip ["sign", "left"] [w0, w1])) := upd_same
  refine go_fld (names := ["sign", "left"]) (vs := [w0, w1]) 0 G.sm fy_ hy_ rfl (by decide) (by decide +kernel) T.cl_Joined T.na_Joined_right rfl (ev_varK 3 rfl r_right kv_Joined_init_3) (fun w2 F H g rw2 fy_ hy_ => ?_)
  have G := (G.trans g).poke (u := .ins (He.ga K "Joined") dx_ (List.zip ["sign", "left", "right"] [w0, w1, w2])) er_same fy_ ⟨_, hy_, trivial⟩ ⟨_, upd_same, trivial⟩
  have rw0 := Rp.mono g.ff rw0
  have rw1 := Rp.mono g.ff rw1
  have r_sign := Rp.mono g.ff r_sign
  have r_left := Rp.mono g.ff r_left
  have r_right := Rp.mono g.ff r_right
  have hy_ : upd H y_ (.ins (He.ga K "Joined") dx_ (List.zip ["sign", "left", "right"] [w0, w1, w2])) y_ = some (.ins (He.ga K "Joined") dx_ (List.zip ["sign", "left", "right"] [w0, w1, w2])) := upd_same
  cases (Option.some.inj hm)
  exact GoS.nil (kn _ _ _ [w0, w1, w2] G fy_ hy_ ⟨_, _, rfl, rw0, ⟨_, _, rfl, rw1, ⟨_, _, rfl, rw2, rfl⟩⟩⟩)
theorem sc_both : FnScope ["_law_sign", "_law_left", "_law_right", "_law_found"] ["_law_sign", "_law_left", "_law_right"] (defScope s_both) := ⟨rfl, rfl, rfl, by decide +kernel, rfl, by decide +kernel, by decide +kernel⟩
theorem b_both (T : TxB K mg base) : Binds K T.d_both ["_law_sign", "_law_left", "_law_right"] [] := T.F_both.bindsN fun _ _ _ _ _ _ us hl => match us, hl with | [_, _, _], _ => rfl
theorem kv_both_0 : VKn (defScope s_both) "_law_sign" := ⟨by first | exact Or.inl (by decide +kernel) | exact Or.inr (Or.inl (by decide +kernel)) | exact Or.inr (Or.inr (by decide +kernel)), by decide, by decide⟩
theorem kv_both_1 : VKn (defScope s_both) "_law_left" := ⟨by first | exact Or.inl (by decide +kernel) | exact Or.inr (Or.inl (by decide +kernel)) | exact Or.inr (Or.inr (by decide +kernel)), by decide, by decide⟩
theorem kv_both_2 : VKn (defScope s_both) "_law_right" := ⟨by first | exact Or.inl (by decide +kernel) | exact Or.inr (Or.inl (by decide +kernel)) | exact Or.inr (Or.inr (by decide +kernel)), by decide, by decide⟩
theorem kv_both_3 : VKn (defScope s_both) "_law_found" := ⟨by first | exact Or.inl (by decide +kernel) | exact Or.inr (Or.inl (by decide +kernel)) | exact Or.inr (Or.inr (by decide +kernel)), by decide, by decide⟩
theorem ok_both (T : TxB K mg base) : FnOk P w K mg base CX0 3 (He.fAd K ("_law_both", none)) T.d_both ["_law_sign", "_law_left", "_law_right"] (Pr K fun (a_ : Str × (T4 UTerm Int (List (T2 Str (Tp (T2 Str Int)))) (List (T2 Str (Tp Int)))) × (T4 UTerm Int (List (T2 Str (Tp (T2 Str Int)))) (List (T2 Str (Tp Int)))) × Unit) => m_both a_.1 a_.2.1 a_.2.2.1) := by
  refine fn_ok T.F_both sc_both rfl fun cdv A outer s_ F0 H0 vs a_ r D_ E_ hr sm_ ra_ hm kr kn => ?_
  obtain ⟨v_sign, _, rfl, r_sign, v_left, _, rfl, r_left, v_right, _, rfl, r_right, rfl⟩ := ra_
  obtain ⟨x_sign, x_left, x_right, _u⟩ := a_
  have G : GrX K F0 H0 F0 H0 := .refl sm_
  replace hm : m_both x_sign x_left x_right = some r := hm
  unfold m_both at hm
  have r_sign : rp (α := Str) K F0 v_sign x_sign := r_sign
  have r_left : rp (α := (T4 UTerm Int (List (T2 Str (Tp (T2 Str Int)))) (List (T2 Str (Tp Int))))) K F0 v_left x_left := r_left
  have r_right : rp (α := (T4 UTerm Int (List (T2 Str (Tp (T2 Str Int)))) (List (T2 Str (Tp Int))))) K F0 v_right x_right := r_right
  change GoS _ _ _ [some v_sign, some v_left, some v_right, none] _
  obtain ⟨x_found, he, hm⟩ := Option.bind_eq_some_iff.mp hm
  refine go_setA (Int) 3 G.sm (ev_add (ev_ixT (ev_varK 1 rfl r_left kv_both_1) ev_int pj1) (ev_ixT (ev_varK 2 rfl r_right kv_both_2) ev_int pj1)) (fun v_found F H g rn_ => ?_) sc_both.nd
  have G := G.trans g
  have r_sign := Rp.mono g.ff r_sign
  have r_left := Rp.mono g.ff r_left
  have r_right := Rp.mono g.ff r_right
  have r_found := cg (Option.some.inj he) rn_
  change GoS _ _ _ [some v_sign, some v_left, some v_right, some v_found] _
  obtain ⟨b1, hj, hm⟩ := Option.bind_eq_some_iff.mp hm
  refine go_ifjA ((decide (x_sign = ("-" : Str)))) (fun σ_ H_ => ∃ (F_ : Hp) (v_found : V), L2.Same F F_ ∧ σ_ = [some v_sign, some v_left, some v_right, some v_found] ∧ GrX K F0 H0 F_ H_ ∧ rp (α := Int) K F_ v_found b1) G.sm (et_cmp op_eq o2_eq (ev_varK 0 rfl r_sign kv_both_0) ev_str (nomark _)) (fun hc F H g => ?_) (fun hc F H g => ?_) (fun σ_ H hP_ => ?_)
  · replace hj := ipos hc hj
    clear hm
    have hm := hj
    clear hj
    have G := G.trans g
    have r_sign := Rp.mono g.ff r_sign
    have r_left := Rp.mono g.ff r_left
    have r_right := Rp.mono g.ff r_right
    have r_found := Rp.mono g.ff r_found
    have sj2 := g.ff
    obtain ⟨x_found, he, hm⟩ := Option.bind_eq_some_iff.mp hm
    refine go_setA (Int) 3 G.sm (ev_sub (ev_ixT (ev_varK 1 rfl r_left kv_both_1) ev_int pj1) (ev_ixT (ev_varK 2 rfl r_right kv_both_2) ev_int pj1)) (fun v_found F H g rn_ => ?_) sc_both.nd
    have G := G.trans g
    have r_sign := Rp.mono g.ff r_sign
    have r_left := Rp.mono g.ff r_left
    have r_right := Rp.mono g.ff r_right
    have sj2 := sj2.trans g.ff
    have r_found := cg (Option.some.inj he) rn_
    have hm := Option.some.inj hm
    subst hm
    exact GoS.nil ⟨_, _, sj2, rfl, G, r_found⟩
  · replace hj := ineg (nt hc) hj
    clear hm
    have hm := hj
    clear hj
    have G := G.trans g
    have r_sign := Rp.mono g.ff r_sign
    have r_left := Rp.mono g.ff r_left
    have r_right := Rp.mono g.ff r_right
    have r_found := Rp.mono g.ff r_found
    have sj2 := g.ff
    have hm := Option.some.inj hm
    subst hm
    exact GoS.nil ⟨_, _, sj2, rfl, G, r_found⟩
  obtain ⟨F, v_found, sj_, rfl, G, r_found⟩ := hP_
  have r_sign := Rp.mono sj_ r_sign
  have r_left := Rp.mono sj_ r_left
  have r_right := Rp.mono sj_ r_right
  obtain ⟨b3, hj, hm⟩ := Option.bind_eq_some_iff.mp hm
  refine go_ifjA ((decide (x_sign = ("*" : Str)))) (fun σ_ H_ => ∃ (F_ : Hp) (v_found : V), L2.Same F F_ ∧ σ_ = [some v_sign, some v_left, some v_right, some v_found] ∧ GrX K F0 H0 F_ H_ ∧ rp (α := Int) K F_ v_found b3) G.sm (et_cmp op_eq o2_eq (ev_varK 0 rfl r_sign kv_both_0) ev_str (nomark _)) (fun hc F H g => ?_) (fun hc F H g => ?_) (fun σ_ H hP_ => ?_)
  · replace hj := ipos hc hj
    clear hm
    have hm := hj
    clear hj
    have G := G.trans g
    have r_sign := Rp.mono g.ff r_sign
    have r_left := Rp.mono g.ff r_left
    have r_right := Rp.mono g.ff r_right
    have r_found := Rp.mono g.ff r_found
    have sj4 := g.ff
    obtain ⟨t5, h_t5, hm⟩ := Option.bind_eq_some_iff.mp hm
    obtain ⟨x_found, he, hm⟩ := Option.bind_eq_some_iff.mp hm
    refine go_setA (Int) 3 G.sm (ev_mulG (ev_ixT (ev_varK 1 rfl r_left kv_both_1) ev_int pj1) (ev_ixT (ev_varK 2 rfl r_right kv_both_2) ev_int pj1) h_t5) (fun v_found F H g rn_ => ?_) sc_both.nd
    have G := G.trans g
    have r_sign := Rp.mono g.ff r_sign
    have r_left := Rp.mono g.ff r_left
    have r_right := Rp.mono g.ff r_right
    have sj4 := sj4.trans g.ff
    have r_found := cg (Option.some.inj he) rn_
    have hm := Option.some.inj hm
    subst hm
    exact GoS.nil ⟨_, _, sj4, rfl, G, r_found⟩
  · replace hj := ineg (nt hc) hj
    clear hm
    have hm := hj
    clear hj
    have G := G.trans g
    have r_sign := Rp.mono g.ff r_sign
    have r_left := Rp.mono g.ff r_left
    have r_right := Rp.mono g.ff r_right
    have r_found := Rp.mono g.ff r_found
    have sj4 := g.ff
    have hm := Option.some.inj hm
    subst hm
    exact GoS.nil ⟨_, _, sj4, rfl, G, r_found⟩
  obtain ⟨F, v_found, sj_, rfl, G, r_found⟩ := hP_
  have r_sign := Rp.mono sj_ r_sign
  have r_left := Rp.mono sj_ r_left
  have r_right := Rp.mono sj_ r_right
  obtain ⟨t6, h_t6, hm⟩ := Option.bind_eq_some_iff.mp hm
  obtain ⟨t7, h_t7, hm⟩ := Option.bind_eq_some_iff.mp hm
  exact go_ret G.sm (ev_tup4 (ea_cons (UTerm.mk_Joined (ev_make (z := QJoined.mk x_sign x_left.a x_right.a) (names := fs_Joined) (cn := "Joined") (fun _ _ h => h) T.mk_Joined (ok_Joined_init T) (hr.mono (by omega)) T.g_Joined (b_Joined_init T) (ea_cons (ev_varK 0 rfl r_sign kv_both_0) (ea_cons (ev_ixT (ev_varK 1 rfl r_left kv_both_1) ev_int pj0) (ea_cons (ev_ixT (ev_varK 2 rfl r_right kv_both_2) ev_int pj0) ea_nil))) rfl)) (ea_cons (ev_varK 3 rfl r_found kv_both_3) (ea_cons (EvN.evA ((List (T2 Str (Tp (T2 Str Int))))) (en_cat (ev_ixT (ev_varK 1 rfl r_left kv_both_1) ev_int pj2) (ev_ixT (ev_varK 2 rfl r_right kv_both_2) ev_int pj2) h_t6)) (ea_cons (EvN.evA ((List (T2 Str (Tp Int)))) (en_cat (ev_ixT (ev_varK 1 rfl r_left kv_both_1) ev_int pj3) (ev_ixT (ev_varK 2 rfl r_right kv_both_2) ev_int pj3) h_t7)) ea_nil))))) fun v_ F_ H_ g_ rv_ => kr _ _ _ (G.trans g_) (cg (Option.some.inj hm) rv_)
theorem sc_tree : FnScope ["_law_cells", "_law_names_here", "_law_values_here", "_law_seed", "_law_salt", "_law_stack", "_law_cell", "_law_right", "_law_left"] ["_law_cells", "_law_names_here", "_law_values_here", "_law_seed", "_law_salt"] (defScope s_tree) := ⟨rfl, rfl, rfl, by decide +kernel, rfl, by decide +kernel, by decide +kernel⟩
theorem b_tree (T : TxB K mg base) : Binds K T.d_tree ["_law_cells", "_law_names_here", "_law_values_here", "_law_seed", "_law_salt"] [] := T.F_tree.bindsN fun _ _ _ _ _ _ us hl => match us, hl with | [_, _, _, _, _], _ => rfl
theorem kv_tree_0 : VKn (defScope s_tree) "_law_cells" := ⟨by first | exact Or.inl (by decide +kernel) | exact Or.inr (Or.inl (by decide +kernel)) | exact Or.inr (Or.inr (by decide +kernel)), by decide, by decide⟩
theorem kv_tree_1 : VKn (defScope s_tree) "_law_names_here" := ⟨by first | exact Or.inl (by decide +kernel) | exact Or.inr (Or.inl (by decide +kernel)) | exact Or.inr (Or.inr (by decide +kernel)), by decide, by decide⟩
theorem kv_tree_2 : VKn (defScope s_tree) "_law_values_here" := ⟨by first | exact Or.inl (by decide +kernel) | exact Or.inr (Or.inl (by decide +kernel)) | exact Or.inr (Or.inr (by decide +kernel)), by decide, by decide⟩
theorem kv_tree_3 : VKn (defScope s_tree) "_law_seed" := ⟨by first | exact Or.inl (by decide +kernel) | exact Or.inr (Or.inl (by decide +kernel)) | exact Or.inr (Or.inr (by decide +kernel)), by decide, by decide⟩
theorem kv_tree_4 : VKn (defScope s_tree) "_law_salt" := ⟨by first | exact Or.inl (by decide +kernel) | exact Or.inr (Or.inl (by decide +kernel)) | exact Or.inr (Or.inr (by decide +kernel)), by decide, by decide⟩
theorem kv_tree_6 : VKn (defScope s_tree) "_law_cell" := ⟨by first | exact Or.inl (by decide +kernel) | exact Or.inr (Or.inl (by decide +kernel)) | exact Or.inr (Or.inr (by decide +kernel)), by decide, by decide⟩
theorem kv_tree_7 : VKn (defScope s_tree) "_law_right" := ⟨by first | exact Or.inl (by decide +kernel) | exact Or.inr (Or.inl (by decide +kernel)) | exact Or.inr (Or.inr (by decide +kernel)), by decide, by decide⟩
theorem kv_tree_8 : VKn (defScope s_tree) "_law_left" := ⟨by first | exact Or.inl (by decide +kernel) | exact Or.inr (Or.inl (by decide +kernel)) | exact Or.inr (Or.inr (by decide +kernel)), by decide, by decide⟩
theorem gl_tree_both : (defScope s_tree).names.lookup ("_law_both" : Str) = some NameKind.globalImplicit := by decide +kernel
theorem gl_tree_leaf : (defScope s_tree).names.lookup ("_law_leaf" : Str) = some NameKind.globalImplicit := by decide +kernel
theorem ok_tree (T : TxB K mg base) : FnOk P w K mg base CX0 4 (He.fAd K ("_law_tree", none)) T.d_tree ["_law_cells", "_law_names_here", "_law_values_here", "_law_seed", "_law_salt"] (Pr K fun (a_ : (List Int) × (List Str) × (Dct Str Int) × Int × Int × Unit) => m_tree a_.1 a_.2.1 a_.2.2.1 a_.2.2.2.1 a_.2.2.2.2.1) := by
  refine fn_ok T.F_tree sc_tree rfl fun cdv A outer s_ F0 H0 vs a_ r D_ E_ hr sm_ ra_ hm kr kn => ?_
  obtain ⟨v_cells, _, rfl, r_cells, v_names_here, _, rfl, r_names_here, v_values_here, _, rfl, r_values_here, v_seed, _, rfl, r_seed, v_salt, _, rfl, r_salt, rfl⟩ := ra_
  obtain ⟨x_cells, x_names_here, x_values_here, x_seed, x_salt, _u⟩ := a_
  have G : GrX K F0 H0 F0 H0 := .refl sm_
  replace hm : m_tree x_cells x_names_here x_values_here x_seed x_salt = some r := hm
  unfold m_tree at hm
  have r_cells : rp (α := (List Int)) K F0 v_cells x_cells := r_cells
  have r_names_here : rp (α := (List Str)) K F0 v_names_here x_names_here := r_names_here
  have r_values_here : rp (α := (Dct Str Int)) K F0 v_values_here x_values_here := r_values_here
  have r_seed : rp (α := Int) K F0 v_seed x_seed := r_seed
  have r_salt : rp (α := Int) K F0 v_salt x_salt := r_salt
  change GoS _ _ _ [some v_cells, some v_names_here, some v_values_here, some v_seed, some v_salt, none, none, none, none] _
  obtain ⟨t1, h_t1, hm⟩ := Option.bind_eq_some_iff.mp hm
  obtain ⟨x_stack, he, hm⟩ := Option.bind_eq_some_iff.mp hm
  refine go_setNA ((List (T4 UTerm Int (List (T2 Str (Tp (T2 Str Int)))) (List (T2 Str (Tp Int)))))) 5 G.sm (en_list (el_cons (ev_call (ok_leaf T) (hr.mono (by omega)) T.g_leaf T.F_leaf.kp (b_leaf T) (ea_cons (ev_varK 3 rfl r_seed kv_tree_3) (ea_cons (ev_varK 1 rfl r_names_here kv_tree_1) (ea_cons (ev_varK 2 rfl r_values_here kv_tree_2) (ea_cons (ev_varK 4 rfl r_salt kv_tree_4) ea_nil)))) h_t1 gl_tree_leaf) el_nil) (by show 1 ≤ sizeLine; decide)) (fun l_stack vs_ F H g nl_ fl_ hl_ rs_ => ?_) sc_tree.nd
  have n0_ := G.hh.free nl_
  have G := G.trans g
  have r_cells := Rp.mono g.ff r_cells
  have r_names_here := Rp.mono g.ff r_names_here
  have r_values_here := Rp.mono g.ff r_values_here
  have r_seed := Rp.mono g.ff r_seed
  have r_salt := Rp.mono g.ff r_salt
  have o_stack : Own K _ F H l_stack _ := Own.cg (Option.some.inj he) ⟨n0_, fl_, vs_, hl_, rs_⟩
  change GoS _ _ _ [some v_cells, some v_names_here, some v_values_here, some v_seed, some v_salt, some (.ref l_stack), none, none, none] _
  obtain ⟨b14, ho_, hm⟩ := Option.bind_eq_some_iff.mp hm
  refine go_forN G.sm (ei_list (ev_varK 0 rfl r_cells kv_tree_0)) (pg_name (i := 6) sc_tree.nd rfl (by first | exact Or.inl rfl | exact Or.inr rfl)) ho_ (fun F H g => ?_) PassesOwn.never
  have G := G.trans g
  have r_names_here := Rp.mono g.ff r_names_here
  have r_values_here := Rp.mono g.ff r_values_here
  have r_seed := Rp.mono g.ff r_seed
  have r_salt := Rp.mono g.ff r_salt
  have o_stack := o_stack.up g
  refine ⟨fun (b2 : (List (T4 UTerm Int (List (T2 Str (Tp (T2 Str Int)))) (List (T2 Str (Tp Int)))))) σ_ F_ H_ => ∃ (u_right : Option V) (u_left : Option V) (u_cell : Option V), σ_ = [some v_cells, some v_names_here, some v_values_here, some v_seed, some v_salt, some (.ref l_stack), u_cell, u_right, u_left] ∧ GrX K F0 H0 F_ H_ ∧ Own K H0 F_ H_ l_stack b2, ⟨_, _, _, rfl, G, o_stack⟩, ?_, ?_⟩
  ·
    intro b2 x_cell o_ hm σ_ F H v_cell s1_ s2_ iv_ F H g r_cell Q_ hQ_
    obtain ⟨u_right, u_left, u_cell, rfl, G, o_stack⟩ := iv_
    have sb5 := g.ff
    have r_names_here := Rp.mono s1_ r_names_here
    have r_values_here := Rp.mono s1_ r_values_here
    have r_seed := Rp.mono s1_ r_seed
    have r_salt := Rp.mono s1_ r_salt
    have G := G.trans g
    have r_names_here := Rp.mono g.ff r_names_here
    have r_values_here := Rp.mono g.ff r_values_here
    have r_seed := Rp.mono g.ff r_seed
    have r_salt := Rp.mono g.ff r_salt
    have o_stack := o_stack.up g
    refine hQ_ _ _ ?_
    change GoS _ _ _ [some v_cells, some v_names_here, some v_values_here, some v_seed, some v_salt, some (.ref l_stack), some v_cell, u_right, u_left] _
    refine go_ifA (((decide ((x_cell % (5 : Int)) < (2 : Int))) && (decide ((1 : Int) < (b2.length : Int))))) G.sm (EvW.t (ew_andP (et_cmp op_lt o2_lt (ev_mod (ev_varK 6 rfl r_cell kv_tree_6) ev_int (by decide)) ev_int (nomark _)) (ew_and1 (et_cmp op_gt o2_gt (ev_lenOwn 5 o_stack rfl T.n_len) ev_int (nomark _))))) (fun hc F H g => ?_) (fun hc F H g => ?_)
    · replace hm := ipos hc hm
      have G := G.trans g
      have r_names_here := Rp.mono g.ff r_names_here
      have r_values_here := Rp.mono g.ff r_values_here
      have r_seed := Rp.mono g.ff r_seed
      have r_salt := Rp.mono g.ff r_salt
      have o_stack := o_stack.up g
      have r_cell := Rp.mono g.ff r_cell
      have sb5 := sb5.trans g.ff
      obtain ⟨t6, h_t6, hm⟩ := Option.bind_eq_some_iff.mp hm
      obtain ⟨x_right, he, hm⟩ := Option.bind_eq_some_iff.mp hm
      refine go_setM (ρ := (T4 UTerm Int (List (T2 Str (Tp (T2 Str Int)))) (List (T2 Str (Tp Int))))) (β := (List (T4 UTerm Int (List (T2 Str (Tp (T2 Str Int)))) (List (T2 Str (Tp Int)))))) 7 G.sm (em_pop0 5 o_stack rfl h_t6) (fun v_right F H ob_ g fl_ hl_ rb_ rn_ => ?_) sc_tree.nd
      have Gm_ := G.over o_stack.n g o_stack.pl
      have r_cell := Rp.mono g.ff r_cell
      have sb5 := sb5.trans g.ff
      have G := Gm_
      have o_stack := Own.mk' o_stack.n fl_ hl_ rb_
      have r_right := cg (Option.some.inj he) rn_
      change GoS _ _ _ [some v_cells, some v_names_here, some v_values_here, some v_seed, some v_salt, some (.ref l_stack), some v_cell, some v_right, u_left] _
      obtain ⟨t7, h_t7, hm⟩ := Option.bind_eq_some_iff.mp hm
      obtain ⟨x_left, he, hm⟩ := Option.bind_eq_some_iff.mp hm
      refine go_setM (ρ := (T4 UTerm Int (List (T2 Str (Tp (T2 Str Int)))) (List (T2 Str (Tp Int))))) (β := (List (T4 UTerm Int (List (T2 Str (Tp (T2 Str Int)))) (List (T2 Str (Tp Int)))))) 8 G.sm (em_pop0 5 o_stack rfl h_t7) (fun v_left F H ob_ g fl_ hl_ rb_ rn_ => ?_) sc_tree.nd
      have Gm_ := G.over o_stack.n g o_stack.pl
      have r_cell := Rp.mono g.ff r_cell
      have r_right := Rp.mono g.ff r_right
      have sb5 := sb5.trans g.ff
      have G := Gm_
      have o_stack := Own.mk' o_stack.n fl_ hl_ rb_
      have r_left := cg (Option.some.inj he) rn_
      change GoS _ _ _ [some v_cells, some v_names_here, some v_values_here, some v_seed, some v_salt, some (.ref l_stack), some v_cell, some v_right, some v_left] _
      obtain ⟨t8, h_t8, hm⟩ := Option.bind_eq_some_iff.mp hm
      obtain ⟨t9, h_t9, hm⟩ := Option.bind_eq_some_iff.mp hm
      obtain ⟨t10, he, hm⟩ := Option.bind_eq_some_iff.mp hm
      refine go_append 5 G.sm o_stack rfl (ev_call (ok_both T) (hr.mono (by omega)) T.g_both T.F_both.kp (b_both T) (ea_cons (ev_ixS ev_str (ev_mod (ev_div (ev_varK 6 rfl r_cell kv_tree_6) ev_int ⟨by decide, by decide⟩) ev_int (by decide)) h_t8) (ea_cons (ev_varK 8 rfl r_left kv_tree_8) (ea_cons (ev_varK 7 rfl r_right kv_tree_7) ea_nil))) h_t9 gl_tree_both) he (fun w_ F H g nz_ fz_ on_ => ?_)
      have G := G.trans g
      have r_cell := Rp.mono g.ff r_cell
      have r_right := Rp.mono g.ff r_right
      have r_left := Rp.mono g.ff r_left
      have sb5 := sb5.trans g.ff
      have G := G.poke (u := w_) on_.n fz_ nz_ on_.pl
      have o_stack := on_
      refine GoS.nil ?_
      have hm := Option.some.inj hm
      subst hm
      exact GoS.nil ⟨_, sb5, G.fh, ⟨_, _, _, rfl, G, o_stack⟩⟩
    · replace hm := ineg (nt hc) hm
      have G := G.trans g
      have r_names_here := Rp.mono g.ff r_names_here
      have r_values_here := Rp.mono g.ff r_values_here
      have r_seed := Rp.mono g.ff r_seed
      have r_salt := Rp.mono g.ff r_salt
      have o_stack := o_stack.up g
      have r_cell := Rp.mono g.ff r_cell
      have sb5 := sb5.trans g.ff
      obtain ⟨t11, h_t11, hm⟩ := Option.bind_eq_some_iff.mp hm
      obtain ⟨t12, h_t12, hm⟩ := Option.bind_eq_some_iff.mp hm
      obtain ⟨t13, he, hm⟩ := Option.bind_eq_some_iff.mp hm
      refine go_append 5 G.sm o_stack rfl (ev_call (ok_leaf T) (hr.mono (by omega)) T.g_leaf T.F_leaf.kp (b_leaf T) (ea_cons (ev_ixL (EvN.evA ((List Int)) (en_list (el_cons (ev_div (ev_varK 6 rfl r_cell kv_tree_6) ev_int ⟨by decide, by decide⟩) (el_cons (ev_varK 3 rfl r_seed kv_tree_3) el_nil)) (by show 2 ≤ sizeLine; decide))) (ev_div (ev_mod (ev_div (ev_varK 6 rfl r_cell kv_tree_6) ev_int ⟨by decide, by decide⟩) ev_int (by decide)) ev_int ⟨by decide, by decide⟩) h_t11) (ea_cons (ev_varK 1 rfl r_names_here kv_tree_1) (ea_cons (ev_varK 2 rfl r_values_here kv_tree_2) (ea_cons (ev_varK 4 rfl r_salt kv_tree_4) ea_nil)))) h_t12 gl_tree_leaf) he (fun w_ F H g nz_ fz_ on_ => ?_)
      have G := G.trans g
      have r_names_here := Rp.mono g.ff r_names_here
      have r_values_here := Rp.mono g.ff r_values_here
      have r_seed := Rp.mono g.ff r_seed
      have r_salt := Rp.mono g.ff r_salt
      have r_cell := Rp.mono g.ff r_cell
      have sb5 := sb5.trans g.ff
      have G := G.poke (u := w_) on_.n fz_ nz_ on_.pl
      have o_stack := on_
      refine GoS.nil ?_
      have hm := Option.some.inj hm
      subst hm
      exact GoS.nil ⟨_, sb5, G.fh, ⟨_, _, _, rfl, G, o_stack⟩⟩
  · intro σ_ F H s1_ s2_ iv_
    obtain ⟨u_right, u_left, u_cell, rfl, G, o_stack⟩ := iv_
    have r_seed := Rp.mono s1_ r_seed
    change GoS _ _ _ [some v_cells, some v_names_here, some v_values_here, some v_seed, some v_salt, some (.ref l_stack), u_cell, u_right, u_left] _
    obtain ⟨b23, ho_, hm⟩ := Option.bind_eq_some_iff.mp hm
    refine go_whileN (b0 := b14) (fun (b15 : (List (T4 UTerm Int (List (T2 Str (Tp (T2 Str Int)))) (List (T2 Str (Tp Int)))))) σ_ F_ H_ => ∃ (u_right : Option V) (u_left : Option V), σ_ = [some v_cells, some v_names_here, some v_values_here, some v_seed, some v_salt, some (.ref l_stack), u_cell, u_right, u_left] ∧ GrX K F0 H0 F_ H_ ∧ Own K H0 F_ H_ l_stack b15) G.sm ⟨_, _, rfl, G, o_stack⟩ ho_ ?_ ?_ ?_ PassesOwn.never
    ·
      intro b15 t_ hm σ_ F H s1_ s2_ iv_
      obtain ⟨u_right, u_left, rfl, G, o_stack⟩ := iv_
      have r_seed := Rp.mono s1_ r_seed
      refine ⟨G.sm, EvT.cg (Option.some.inj hm) (et_cmp op_gt o2_gt (ev_lenOwn 5 o_stack rfl T.n_len) ev_int (nomark _)), fun F H g => ?_⟩
      have G := G.trans g
      have o_stack := o_stack.up g
      exact ⟨_, _, rfl, G, o_stack⟩
    ·
      intro b15 o_ hm σ_ F H s1_ s2_ iv_
      obtain ⟨u_right, u_left, rfl, G, o_stack⟩ := iv_
      have sb17 := L2.Same.refl F
      have r_seed := Rp.mono s1_ r_seed
      obtain ⟨t18, h_t18, hm⟩ := Option.bind_eq_some_iff.mp hm
      obtain ⟨x_right, he, hm⟩ := Option.bind_eq_some_iff.mp hm
      refine go_setM (ρ := (T4 UTerm Int (List (T2 Str (Tp (T2 Str Int)))) (List (T2 Str (Tp Int))))) (β := (List (T4 UTerm Int (List (T2 Str (Tp (T2 Str Int)))) (List (T2 Str (Tp Int)))))) 7 G.sm (em_pop0 5 o_stack rfl h_t18) (fun v_right F H ob_ g fl_ hl_ rb_ rn_ => ?_) sc_tree.nd
      have Gm_ := G.over o_stack.n g o_stack.pl
      have r_seed := Rp.mono g.ff r_seed
      have sb17 := sb17.trans g.ff
      have G := Gm_
      have o_stack := Own.mk' o_stack.n fl_ hl_ rb_
      have r_right := cg (Option.some.inj he) rn_
      change GoS _ _ _ [some v_cells, some v_names_here, some v_values_here, some v_seed, some v_salt, some (.ref l_stack), u_cell, some v_right, u_left] _
      obtain ⟨t19, h_t19, hm⟩ := Option.bind_eq_some_iff.mp hm
      obtain ⟨x_left, he, hm⟩ := Option.bind_eq_some_iff.mp hm
      refine go_setM (ρ := (T4 UTerm Int (List (T2 Str (Tp (T2 Str Int)))) (List (T2 Str (Tp Int))))) (β := (List (T4 UTerm Int (List (T2 Str (Tp (T2 Str Int)))) (List (T2 Str (Tp Int)))))) 8 G.sm (em_pop0 5 o_stack rfl h_t19) (fun v_left F H ob_ g fl_ hl_ rb_ rn_ => ?_) sc_tree.nd
      have Gm_ := G.over o_stack.n g o_stack.pl
      have r_seed := Rp.mono g.ff r_seed
      have r_right := Rp.mono g.ff r_right
      have sb17 := sb17.trans g.ff
      have G := Gm_
      have o_stack := Own.mk' o_stack.n fl_ hl_ rb_
      have r_left := cg (Option.some.inj he) rn_
      change GoS _ _ _ [some v_cells, some v_names_here, some v_values_here, some v_seed, some v_salt, some (.ref l_stack), u_cell, some v_right, some v_left] _
      obtain ⟨t20, h_t20, hm⟩ := Option.bind_eq_some_iff.mp hm
      obtain ⟨t21, h_t21, hm⟩ := Option.bind_eq_some_iff.mp hm
      obtain ⟨t22, he, hm⟩ := Option.bind_eq_some_iff.mp hm
      refine go_append 5 G.sm o_stack rfl (ev_call (ok_both T) (hr.mono (by omega)) T.g_both T.F_both.kp (b_both T) (ea_cons (ev_ixS ev_str (ev_mod (ev_add (ev_lenOwn 5 o_stack rfl T.n_len) (ev_varK 3 rfl r_seed kv_tree_3)) ev_int (by decide)) h_t20) (ea_cons (ev_varK 8 rfl r_left kv_tree_8) (ea_cons (ev_varK 7 rfl r_right kv_tree_7) ea_nil))) h_t21 gl_tree_both) he (fun w_ F H g nz_ fz_ on_ => ?_)
      have G := G.trans g
      have r_seed := Rp.mono g.ff r_seed
      have r_right := Rp.mono g.ff r_right
      have r_left := Rp.mono g.ff r_left
      have sb17 := sb17.trans g.ff
      have G := G.poke (u := w_) on_.n fz_ nz_ on_.pl
      have o_stack := on_
      have hm := Option.some.inj hm
      subst hm
      exact GoS.nil ⟨_, sb17, G.fh, ⟨_, _, rfl, G, o_stack⟩⟩
    · intro σ_ F H s1_ s2_ iv_
      obtain ⟨u_right, u_left, rfl, G, o_stack⟩ := iv_
      obtain ⟨t24, h_t24, hm⟩ := Option.bind_eq_some_iff.mp hm
      exact go_ret G.sm (ev_ixOwn 5 o_stack rfl ev_int h_t24) fun v_ F_ H_ g_ rv_ => kr _ _ _ (G.trans g_) (cg (Option.some.inj hm) rv_)
theorem sc_alike : FnScope ["_law_found", "_law_due", "_law_one", "_law_other"] ["_law_found", "_law_due"] (defScope s_alike) := ⟨rfl, rfl, rfl, by decide +kernel, rfl, by decide +kernel, by decide +kernel⟩
theorem b_alike (T : TxB K mg base) : Binds K T.d_alike ["_law_found", "_law_due"] [] := T.F_alike.bindsN fun _ _ _ _ _ _ us hl => match us, hl with | [_, _], _ => rfl
theorem kv_alike_0 : VKn (defScope s_alike) "_law_found" := ⟨by first | exact Or.inl (by decide +kernel) | exact Or.inr (Or.inl (by decide +kernel)) | exact Or.inr (Or.inr (by decide +kernel)), by decide, by decide⟩
theorem kv_alike_1 : VKn (defScope s_alike) "_law_due" := ⟨by first | exact Or.inl (by decide +kernel) | exact Or.inr (Or.inl (by decide +kernel)) | exact Or.inr (Or.inr (by decide +kernel)), by decide, by decide⟩
theorem kv_alike_2 : VKn (defScope s_alike) "_law_one" := ⟨by first | exact Or.inl (by decide +kernel) | exact Or.inr (Or.inl (by decide +kernel)) | exact Or.inr (Or.inr (by decide +kernel)), by decide, by decide⟩
theorem kv_alike_3 : VKn (defScope s_alike) "_law_other" := ⟨by first | exact Or.inl (by decide +kernel) | exact Or.inr (Or.inl (by decide +kernel)) | exact Or.inr (Or.inr (by decide +kernel)), by decide, by decide⟩
theorem ok_alike (T : TxB K mg base) : FnOk P w K mg base CX0 1 (He.fAd K ("_law_alike", none)) T.d_alike ["_law_found", "_law_due"] (Pr K fun (a_ : (List (T2 Str (Tp (T2 Str Int)))) × (List (T2 Str (Tp (T2 Str Int)))) × Unit) => m_alike a_.1 a_.2.1) := by
  refine fn_ok T.F_alike sc_alike rfl fun cdv A outer s_ F0 H0 vs a_ r D_ E_ hr sm_ ra_ hm kr kn => ?_
  obtain ⟨v_found, _, rfl, r_found, v_due, _, rfl, r_due, rfl⟩ := ra_
  obtain ⟨x_found, x_due, _u⟩ := a_
  have G : GrX K F0 H0 F0 H0 := .refl sm_
  replace hm : m_alike x_found x_due = some r := hm
  unfold m_alike at hm
  have r_found : rp (α := (List (T2 Str (Tp (T2 Str Int))))) K F0 v_found x_found := r_found
  have r_due : rp (α := (List (T2 Str (Tp (T2 Str Int))))) K F0 v_due x_due := r_due
  change GoS _ _ _ [some v_found, some v_due, none, none] _
  refine go_ifA (((!true) || (!decide ((x_found.length : Int) = (x_due.length : Int))))) G.sm (EvW.t (ew_orP (et_not (et_val (ev_isi (T := "list") (r := true) (by decide +kernel) T.n_isinstance T.n_list (by decide +kernel) (ev_varK 0 rfl r_found kv_alike_0)))) (ew_or1 (et_cmp op_ne o2_ne (ev_callB call_len_seq oc_lenL T.n_len PySem.boot_len (ea_cons (ev_varK 0 rfl r_found kv_alike_0) ea_nil)) (ev_callB call_len_seq oc_lenL T.n_len PySem.boot_len (ea_cons (ev_varK 1 rfl r_due kv_alike_1) ea_nil)) (nomark _))))) (fun hc F H g => ?_) (fun hc F H g => ?_)
  · replace hm := ipos hc hm
    have G := G.trans g
    have r_found := Rp.mono g.ff r_found
    have r_due := Rp.mono g.ff r_due
    exact go_ret G.sm ev_bl fun v_ F_ H_ g_ rv_ => kr _ _ _ (G.trans g_) (cg (Option.some.inj hm) rv_)
  · replace hm := ineg (nt hc) hm
    have G := G.trans g
    have r_found := Rp.mono g.ff r_found
    have r_due := Rp.mono g.ff r_due
    refine GoS.nil ?_
    obtain ⟨o3, ho_, hm⟩ := Option.bind_eq_some_iff.mp hm
    refine go_forM G.sm (ei_zip (ev_varK 0 rfl r_found kv_alike_0) (ev_varK 1 rfl r_due kv_alike_1) T.n_zip) (pg_tup rfl (pgs_cons (pg_name (i := 2) sc_alike.nd rfl (by first | exact Or.inl rfl | exact Or.inr rfl)) (pgs_cons (pg_name (i := 3) sc_alike.nd rfl (by first | exact Or.inl rfl | exact Or.inr rfl)) pgs_nil))) ho_ hm (fun F H g => ?_) PassesOwn.never
    have G := G.trans g
    refine ⟨fun (b1 : Unit) σ_ F_ H_ => ∃ (u_one : Option V) (u_other : Option V), σ_ = [some v_found, some v_due, u_one, u_other] ∧ GrX K F0 H0 F_ H_, fun r_ v_ H_ => ∃ F_, GrX K F0 H0 F_ H_ ∧ rp K F_ v_ r_, ⟨_, _, rfl, G⟩, ?_, ?_, ?_⟩
    ·
      intro b1 i2 o_ hm σ_ F H w_ s1_ s2_ iv_ F H g ri_ Q_ hQ_
      obtain ⟨u_one, u_other, rfl, G⟩ := iv_
      have sb6 := g.ff
      have G := G.trans g
      obtain ⟨pa4, _, rfl, sq5, v_one, _, rfl, r_one, v_other, _, rfl, r_other, rfl⟩ := ri_
      refine ⟨pa4, _, rfl, seqT_mono g.fh sq5, rfl, _, _, rfl, _, _, rfl, rfl, hQ_ _ _ ?_⟩
      change GoS _ _ _ [some v_found, some v_due, some v_one, some v_other] _
      obtain ⟨t8, h_t8, hm⟩ := Option.bind_eq_some_iff.mp hm
      refine go_ifA (t8) G.sm (EvW.t (ew_orA ((!true)) (et_not (et_val (ev_isi (T := "tuple") (r := true) (by decide +kernel) T.n_isinstance T.n_tuple (by decide +kernel) (ev_varK 2 rfl r_one kv_alike_2)))) (fun hc => by
              replace h_t8 := ineg (nt hc) h_t8
              obtain ⟨t7, h_t7, h_t8⟩ := Option.bind_eq_some_iff.mp h_t8
              exact EvW.cg (Option.some.inj h_t8) (ew_or1 (et_neD (ev_varK 2 rfl r_one kv_alike_2) (ev_varK 3 rfl r_other kv_alike_3) h_t7 hr.units))) (fun hc => by replace h_t8 := ipos hc h_t8; exact (Option.some.inj h_t8).symm))) (fun hc F H g => ?_) (fun hc F H g => ?_)
      · replace hm := ipos hc hm
        have G := G.trans g
        have r_one := Rp.mono g.ff r_one
        have r_other := Rp.mono g.ff r_other
        have sb6 := sb6.trans g.ff
        exact go_ret G.sm ev_bl fun v_ F_ H_ g_ rv_ => ⟨_, (Option.some.inj hm).symm, F_, G.trans g_, rv_⟩
      · replace hm := ineg (nt hc) hm
        have G := G.trans g
        have r_one := Rp.mono g.ff r_one
        have r_other := Rp.mono g.ff r_other
        have sb6 := sb6.trans g.ff
        refine GoS.nil ?_
        refine go_ifA (((!true) || (!true))) G.sm (EvW.t (ew_orP (et_not (et_val (ev_isi (T := "str") (r := true) (by decide +kernel) T.n_isinstance T.n_str (by decide +kernel) (ev_ixT (ev_varK 2 rfl r_one kv_alike_2) ev_int pj0)))) (ew_or1 (et_not (et_val (ev_isi (T := "tuple") (r := true) (by decide +kernel) T.n_isinstance T.n_tuple (by decide +kernel) (ev_ixT (ev_varK 2 rfl r_one kv_alike_2) ev_int pj1))))))) (fun hc F H g => ?_) (fun hc F H g => ?_)
        · replace hm := ipos hc hm
          have G := G.trans g
          have r_one := Rp.mono g.ff r_one
          have sb6 := sb6.trans g.ff
          exact go_ret G.sm ev_bl fun v_ F_ H_ g_ rv_ => ⟨_, (Option.some.inj hm).symm, F_, G.trans g_, rv_⟩
        · replace hm := ineg (nt hc) hm
          have G := G.trans g
          have r_one := Rp.mono g.ff r_one
          have sb6 := sb6.trans g.ff
          refine GoS.nil ?_
          exact GoS.nil ⟨_, _, (Option.some.inj hm).symm, sb6, G.fh, ⟨_, _, rfl, G⟩⟩
    · intro b9 hm σ_ F H s1_ s2_ iv_
      obtain ⟨u_one, u_other, rfl, G⟩ := iv_
      change GoS _ _ _ [some v_found, some v_due, u_one, u_other] _
      exact go_ret G.sm ev_bl fun v_ F_ H_ g_ rv_ => kr _ _ _ (G.trans g_) (cg (Option.some.inj hm) rv_)
    · intro r_ he v_ H_ hv_
      obtain ⟨F_, g_, rv_⟩ := hv_
      exact kr _ _ _ g_ (cg (Option.some.inj he) rv_)
theorem sc_placed : FnScope ["spots", "values", "found", "name", "n"] ["spots", "values"] (defScope s_placed) := ⟨rfl, rfl, rfl, by decide +kernel, rfl, by decide +kernel, by decide +kernel⟩
theorem b_placed (T : TxB K mg base) : Binds K T.d_placed ["spots", "values"] [] := T.F_placed.bindsN fun _ _ _ _ _ _ us hl => match us, hl with | [_, _], _ => rfl
theorem kv_placed_0 : VKn (defScope s_placed) "spots" := ⟨by first | exact Or.inl (by decide +kernel) | exact Or.inr (Or.inl (by decide +kernel)) | exact Or.inr (Or.inr (by decide +kernel)), by decide, by decide⟩
theorem kv_placed_1 : VKn (defScope s_placed) "values" := ⟨by first | exact Or.inl (by decide +kernel) | exact Or.inr (Or.inl (by decide +kernel)) | exact Or.inr (Or.inr (by decide +kernel)), by decide, by decide⟩
theorem kv_placed_3 : VKn (defScope s_placed) "name" := ⟨by first | exact Or.inl (by decide +kernel) | exact Or.inr (Or.inl (by decide +kernel)) | exact Or.inr (Or.inr (by decide +kernel)), by decide, by decide⟩
theorem kv_placed_4 : VKn (defScope s_placed) "n" := ⟨by first | exact Or.inl (by decide +kernel) | exact Or.inr (Or.inl (by decide +kernel)) | exact Or.inr (Or.inr (by decide +kernel)), by decide, by decide⟩
theorem ok_placed (T : TxB K mg base) : FnOk P w K mg base CX0 1 (He.fAd K ("placed", none)) T.d_placed ["spots", "values"] (Pr K fun (a_ : (Tp (T2 Str Int)) × (Dct Str Int) × Unit) => m_placed a_.1 a_.2.1) := by
  refine fn_ok T.F_placed sc_placed rfl fun cdv A outer s_ F0 H0 vs a_ r D_ E_ hr sm_ ra_ hm kr kn => ?_
  obtain ⟨v_spots, _, rfl, r_spots, v_values, _, rfl, r_values, rfl⟩ := ra_
  obtain ⟨x_spots, x_values, _u⟩ := a_
  have G : GrX K F0 H0 F0 H0 := .refl sm_
  replace hm : m_placed x_spots x_values = some r := hm
  unfold m_placed at hm
  have r_spots : rp (α := (Tp (T2 Str Int))) K F0 v_spots x_spots := r_spots
  have r_values : rp (α := (Dct Str Int)) K F0 v_values x_values := r_values
  change GoS _ _ _ [some v_spots, some v_values, none, none, none] _
  obtain ⟨x_found, he, hm⟩ := Option.bind_eq_some_iff.mp hm
  refine go_setNA ((List Int)) 2 G.sm (en_list el_nil (Nat.zero_le _)) (fun l_found vs_ F H g nl_ fl_ hl_ rs_ => ?_) sc_placed.nd
  have n0_ := G.hh.free nl_
  have G := G.trans g
  have r_spots := Rp.mono g.ff r_spots
  have r_values := Rp.mono g.ff r_values
  have o_found : Own K _ F H l_found _ := Own.cg (Option.some.inj he) ⟨n0_, fl_, vs_, hl_, rs_⟩
  change GoS _ _ _ [some v_spots, some v_values, some (.ref l_found), none, none] _
  obtain ⟨b10, ho_, hm⟩ := Option.bind_eq_some_iff.mp hm
  refine go_forN G.sm (ei_tp (ev_varK 0 rfl r_spots kv_placed_0)) (pg_tup rfl (pgs_cons (pg_name (i := 3) sc_placed.nd rfl (by first | exact Or.inl rfl | exact Or.inr rfl)) (pgs_cons (pg_name (i := 4) sc_placed.nd rfl (by first | exact Or.inl rfl | exact Or.inr rfl)) pgs_nil))) ho_ (fun F H g => ?_) PassesOwn.never
  have G := G.trans g
  have r_values := Rp.mono g.ff r_values
  have o_found := o_found.up g
  refine ⟨fun (b1 : (List Int)) σ_ F_ H_ => ∃ (u_name : Option V) (u_n : Option V), σ_ = [some v_spots, some v_values, some (.ref l_found), u_name, u_n] ∧ GrX K F0 H0 F_ H_ ∧ Own K H0 F_ H_ l_found b1, ⟨_, _, rfl, G, o_found⟩, ?_, ?_⟩
  ·
    intro b1 i2 o_ hm σ_ F H w_ s1_ s2_ iv_ F H g ri_ Q_ hQ_
    obtain ⟨u_name, u_n, rfl, G, o_found⟩ := iv_
    have sb6 := g.ff
    have r_values := Rp.mono s1_ r_values
    have G := G.trans g
    have r_values := Rp.mono g.ff r_values
    have o_found := o_found.up g
    obtain ⟨pa4, _, rfl, sq5, v_name, _, rfl, r_name, v_n, _, rfl, r_n, rfl⟩ := ri_
    refine ⟨pa4, _, rfl, seqT_mono g.fh sq5, rfl, _, _, rfl, _, _, rfl, rfl, hQ_ _ _ ?_⟩
    change GoS _ _ _ [some v_spots, some v_values, some (.ref l_found), some v_name, some v_n] _
    refine go_ifA ((decide (i2.a = ("" : Str)))) G.sm (et_cmp op_eq o2_eq (ev_varK 3 rfl r_name kv_placed_3) ev_str (nomark _)) (fun hc F H g => ?_) (fun hc F H g => ?_)
    · replace hm := ipos hc hm
      have G := G.trans g
      have r_values := Rp.mono g.ff r_values
      have o_found := o_found.up g
      have r_name := Rp.mono g.ff r_name
      have r_n := Rp.mono g.ff r_n
      have sb6 := sb6.trans g.ff
      obtain ⟨t7, he, hm⟩ := Option.bind_eq_some_iff.mp hm
      refine go_append 2 G.sm o_found rfl (ev_varK 4 rfl r_n kv_placed_4) he (fun w_ F H g nz_ fz_ on_ => ?_)
      have G := G.trans g
      have r_n := Rp.mono g.ff r_n
      have sb6 := sb6.trans g.ff
      have G := G.poke (u := w_) on_.n fz_ nz_ on_.pl
      have o_found := on_
      refine GoS.nil ?_
      have hm := Option.some.inj hm
      subst hm
      exact GoS.nil ⟨_, sb6, G.fh, ⟨_, _, rfl, G, o_found⟩⟩
    · replace hm := ineg (nt hc) hm
      have G := G.trans g
      have r_values := Rp.mono g.ff r_values
      have o_found := o_found.up g
      have r_name := Rp.mono g.ff r_name
      have r_n := Rp.mono g.ff r_n
      have sb6 := sb6.trans g.ff
      obtain ⟨t8, h_t8, hm⟩ := Option.bind_eq_some_iff.mp hm
      obtain ⟨t9, he, hm⟩ := Option.bind_eq_some_iff.mp hm
      refine go_append 2 G.sm o_found rfl (ev_add (ev_dget (room1 hr) (ev_varK 1 rfl r_values kv_placed_1) (ev_varK 3 rfl r_name kv_placed_3) h_t8) (ev_varK 4 rfl r_n kv_placed_4)) he (fun w_ F H g nz_ fz_ on_ => ?_)
      have G := G.trans g
      have r_values := Rp.mono g.ff r_values
      have r_name := Rp.mono g.ff r_name
      have r_n := Rp.mono g.ff r_n
      have sb6 := sb6.trans g.ff
      have G := G.poke (u := w_) on_.n fz_ nz_ on_.pl
      have o_found := on_
      refine GoS.nil ?_
      have hm := Option.some.inj hm
      subst hm
      exact GoS.nil ⟨_, sb6, G.fh, ⟨_, _, rfl, G, o_found⟩⟩
  · intro σ_ F H s1_ s2_ iv_
    obtain ⟨u_name, u_n, rfl, G, o_found⟩ := iv_
    change GoS _ _ _ [some v_spots, some v_values, some (.ref l_found), u_name, u_n] _
    exact go_ret G.sm (ev_thaw o_found G.fh (fun F H s_ s2_ rf_ k_ => by
            have rf_found := rf_
            exact (ev_callTy call_tuple_of oc_tuple T.n_tuple (by decide +kernel) (ea_cons (ev_var 2 rfl rf_found) ea_nil)))) fun v_ F_ H_ g_ rv_ => kr _ _ _ (G.trans g_) (cg (Option.some.inj hm) rv_)
def DispOk_Term_worth (fv : Fnv ((Str × (Tp Int) × Unit) × (List (T2 Str (Tp Int)))) (Int × (List (T2 Str (Tp Int))))) (l : Addr) (P : Program) (w : World) (K : PySem.W.Frag) (mg : Str → Option Value) (base : Heap) (n : Nat) : Prop := ∀ (X : Cx) (a g0 g1 : Expr) (σ : L2.St) (F H : Hp) (x : UTerm) (y0 : (Dct Str Int)) (v : V) (st : (List (T2 Str (Tp Int)))) (r : Int × (List (T2 Str (Tp Int)))) (apos pos : Pos) (pl : Sem Bool), X.prog = P → X.w = w → X.K = K → X.mg = mg → X.base = base → Room (9 + n) X.A → ClF fv X.K F H v → ClA X σ fv → Ev X a σ F H x → EvA X [g0, g1] σ F H (y0, (Gx.One.mk : Gx.One fv), ()) → m_Term_worth n x y0 fv.fn st = some r → starEach [g0, g1] X.env = (false, eval g0 X.env) :: starEach [g1] X.env → (backTo pos (starEach [g1] X.env)).any (·.1) = false → eval (.Call (.Attribute a "worth" apos) [g0, g1] [] pos) X.env = (do
      let ov ← eval a X.env
      standAt apos.atName
      let (f, first) ← holding [ov] (getMethod ov "worth" pl)
      callWith pos f first (backTo pos (starEach [g0, g1] X.env)) (backToKw pos (keywordEach [] X.env))) → EvU X (.Call (.Attribute a "worth" apos) [g0, g1] [] pos) σ F H l st r.1 r.2
theorem sc_Number_worth : FnScope ["self", "values", "cells"] ["self", "values", "cells"] (defScope s_Number_worth) := ⟨rfl, rfl, rfl, by decide +kernel, rfl, by decide +kernel, by decide +kernel⟩
theorem b_Number_worth (T : TxB K mg base) : Binds K T.d_Number_worth ["self", "values", "cells"] [] := T.F_Number_worth.bindsN fun _ _ _ _ _ _ us hl => match us, hl with | [_, _, _], _ => rfl
theorem kv_Number_worth_0 : VKn (defScope s_Number_worth) "self" := ⟨by first | exact Or.inl (by decide +kernel) | exact Or.inr (Or.inl (by decide +kernel)) | exact Or.inr (Or.inr (by decide +kernel)), by decide, by decide⟩
theorem ok_Number_worth (T : TxB K mg base) (fv_cells : Fnv ((Str × (Tp Int) × Unit) × (List (T2 Str (Tp Int)))) (Int × (List (T2 Str (Tp Int))))) (l_ : Addr) (fk_cells : NokFL P w K mg base l_ 8 fv_cells) : FnOkZ (ZC fv_cells) P w K mg base CX0 1 (He.fAd K ("Number", some "worth")) T.d_Number_worth ["self", "values", "cells"] (PrL K l_ fun (a_ : QNumber × (Dct Str Int) × One fv_cells × Unit) (s_ : (List (T2 Str (Tp Int)))) => m_Number_worth a_.1 a_.2.1 fv_cells.fn s_) := by
  refine fn_okZL T.F_Number_worth sc_Number_worth rfl fun cdv A outer s_ F0 H00 H0 vs a_ st_ r D_ E_ hcd_ hr z_ G o_ ra_ hm kr kn => ?_
  obtain ⟨v_self, _, rfl, r_self, v_values, _, rfl, r_values, v_cells, _, rfl, r_cells, rfl⟩ := ra_
  obtain ⟨x_self, x_values, x_cells, _u⟩ := a_
  replace hm : m_Number_worth x_self x_values fv_cells.fn st_ = some r := hm
  unfold m_Number_worth at hm
  have r_self : rp (α := QNumber) K F0 v_self x_self := r_self
  have r_values : rp (α := (Dct Str Int)) K F0 v_values x_values := r_values
  have r_cells : ClF fv_cells K F0 H0 v_cells := ⟨r_cells, z_.m⟩
  change GoS _ _ _ [some v_self, some v_values, some v_cells] _
  exact go_ret G.sm (ev_attr T.f_Number_n (ev_varK 0 rfl r_self kv_Number_worth_0)) fun v_ F_ H_ g_ rv_ => (by have o2_ := o_.up g_; obtain ⟨u_, hu_, ru_⟩ := o2_.h; have er_ := Option.some.inj hm; subst er_; exact kr _ _ _ _ (G.trans g_) o2_.f hu_ ru_ rv_)
theorem sc_Value_worth : FnScope ["self", "values", "cells"] ["self", "values", "cells"] (defScope s_Value_worth) := ⟨rfl, rfl, rfl, by decide +kernel, rfl, by decide +kernel, by decide +kernel⟩
theorem b_Value_worth (T : TxB K mg base) : Binds K T.d_Value_worth ["self", "values", "cells"] [] := T.F_Value_worth.bindsN fun _ _ _ _ _ _ us hl => match us, hl with | [_, _, _], _ => rfl
theorem kv_Value_worth_0 : VKn (defScope s_Value_worth) "self" := ⟨by first | exact Or.inl (by decide +kernel) | exact Or.inr (Or.inl (by decide +kernel)) | exact Or.inr (Or.inr (by decide +kernel)), by decide, by decide⟩
theorem kv_Value_worth_1 : VKn (defScope s_Value_worth) "values" := ⟨by first | exact Or.inl (by decide +kernel) | exact Or.inr (Or.inl (by decide +kernel)) | exact Or.inr (Or.inr (by decide +kernel)), by decide, by decide⟩
theorem ok_Value_worth (T : TxB K mg base) (fv_cells : Fnv ((Str × (Tp Int) × Unit) × (List (T2 Str (Tp Int)))) (Int × (List (T2 Str (Tp Int))))) (l_ : Addr) (fk_cells : NokFL P w K mg base l_ 8 fv_cells) : FnOkZ (ZC fv_cells) P w K mg base CX0 1 (He.fAd K ("Value", some "worth")) T.d_Value_worth ["self", "values", "cells"] (PrL K l_ fun (a_ : QValue × (Dct Str Int) × One fv_cells × Unit) (s_ : (List (T2 Str (Tp Int)))) => m_Value_worth a_.1 a_.2.1 fv_cells.fn s_) := by
  refine fn_okZL T.F_Value_worth sc_Value_worth rfl fun cdv A outer s_ F0 H00 H0 vs a_ st_ r D_ E_ hcd_ hr z_ G o_ ra_ hm kr kn => ?_
  obtain ⟨v_self, _, rfl, r_self, v_values, _, rfl, r_values, v_cells, _, rfl, r_cells, rfl⟩ := ra_
  obtain ⟨x_self, x_values, x_cells, _u⟩ := a_
  replace hm : m_Value_worth x_self x_values fv_cells.fn st_ = some r := hm
  unfold m_Value_worth at hm
  have r_self : rp (α := QValue) K F0 v_self x_self := r_self
  have r_values : rp (α := (Dct Str Int)) K F0 v_values x_values := r_values
  have r_cells : ClF fv_cells K F0 H0 v_cells := ⟨r_cells, z_.m⟩
  change GoS _ _ _ [some v_self, some v_values, some v_cells] _
  obtain ⟨t1, h_t1, hm⟩ := Option.bind_eq_some_iff.mp hm
  exact go_ret G.sm (ev_dget (room1 hr) (ev_varK 1 rfl r_values kv_Value_worth_1) (ev_attr T.f_Value_name (ev_varK 0 rfl r_self kv_Value_worth_0)) h_t1) fun v_ F_ H_ g_ rv_ => (by have o2_ := o_.up g_; obtain ⟨u_, hu_, ru_⟩ := o2_.h; have er_ := Option.some.inj hm; subst er_; exact kr _ _ _ _ (G.trans g_) o2_.f hu_ ru_ rv_)
theorem sc_Cell_worth : FnScope ["self", "values", "cells"] ["self", "values", "cells"] (defScope s_Cell_worth) := ⟨rfl, rfl, rfl, by decide +kernel, rfl, by decide +kernel, by decide +kernel⟩
theorem b_Cell_worth (T : TxB K mg base) : Binds K T.d_Cell_worth ["self", "values", "cells"] [] := T.F_Cell_worth.bindsN fun _ _ _ _ _ _ us hl => match us, hl with | [_, _, _], _ => rfl
theorem kv_Cell_worth_0 : VKn (defScope s_Cell_worth) "self" := ⟨by first | exact Or.inl (by decide +kernel) | exact Or.inr (Or.inl (by decide +kernel)) | exact Or.inr (Or.inr (by decide +kernel)), by decide, by decide⟩
theorem kv_Cell_worth_1 : VKn (defScope s_Cell_worth) "values" := ⟨by first | exact Or.inl (by decide +kernel) | exact Or.inr (Or.inl (by decide +kernel)) | exact Or.inr (Or.inr (by decide +kernel)), by decide, by decide⟩
theorem gl_Cell_worth_placed : (defScope s_Cell_worth).names.lookup ("placed" : Str) = some NameKind.globalImplicit := by decide +kernel
theorem ok_Cell_worth (T : TxB K mg base) (fv_cells : Fnv ((Str × (Tp Int) × Unit) × (List (T2 Str (Tp Int)))) (Int × (List (T2 Str (Tp Int))))) (l_ : Addr) (fk_cells : NokFL P w K mg base l_ 8 fv_cells) : FnOkZ (ZC fv_cells) P w K mg base CX0 9 (He.fAd K ("Cell", some "worth")) T.d_Cell_worth ["self", "values", "cells"] (PrL K l_ fun (a_ : QCell × (Dct Str Int) × One fv_cells × Unit) (s_ : (List (T2 Str (Tp Int)))) => m_Cell_worth a_.1 a_.2.1 fv_cells.fn s_) := by
  refine fn_okZL T.F_Cell_worth sc_Cell_worth rfl fun cdv A outer s_ F0 H00 H0 vs a_ st_ r D_ E_ hcd_ hr z_ G o_ ra_ hm kr kn => ?_
  obtain ⟨v_self, _, rfl, r_self, v_values, _, rfl, r_values, v_cells, _, rfl, r_cells, rfl⟩ := ra_
  obtain ⟨x_self, x_values, x_cells, _u⟩ := a_
  replace hm : m_Cell_worth x_self x_values fv_cells.fn st_ = some r := hm
  unfold m_Cell_worth at hm
  have r_self : rp (α := QCell) K F0 v_self x_self := r_self
  have r_values : rp (α := (Dct Str Int)) K F0 v_values x_values := r_values
  have r_cells : ClF fv_cells K F0 H0 v_cells := ⟨r_cells, z_.m⟩
  change GoS _ _ _ [some v_self, some v_values, some v_cells] _
  obtain ⟨t1, h_t1, hm⟩ := Option.bind_eq_some_iff.mp hm
  obtain ⟨t2, h_t2, hm⟩ := Option.bind_eq_some_iff.mp hm
  have er_ := Option.some.inj hm
  subst er_
  exact go_retM G.sm (EvU.m o_ (eu_callCL 2 fk_cells hr (by omega) rfl (r_cells.er o_.pl) (clA_recv z_) (ea_cons (ev_attr T.f_Cell_table (ev_varK 0 rfl r_self kv_Cell_worth_0)) (ea_cons (ev_call (ok_placed T) (hr.mono (by omega)) T.g_placed T.F_placed.kp (b_placed T) (ea_cons (ev_attr T.f_Cell_spots (ev_varK 0 rfl r_self kv_Cell_worth_0)) (ea_cons (ev_varK 1 rfl r_values kv_Cell_worth_1) ea_nil)) h_t1 gl_Cell_worth_placed) ea_nil)) h_t2)) fun v_ F_ H_ ob_ g_ f_ h_ b_ rv_ => kr _ _ _ _ (G.over o_.n g_ o_.pl) f_ h_ b_ rv_
theorem sc_Joined_worth : FnScope ["self", "values", "cells", "one", "other"] ["self", "values", "cells"] (defScope s_Joined_worth) := ⟨rfl, rfl, rfl, by decide +kernel, rfl, by decide +kernel, by decide +kernel⟩
theorem b_Joined_worth (T : TxB K mg base) : Binds K T.d_Joined_worth ["self", "values", "cells"] [] := T.F_Joined_worth.bindsN fun _ _ _ _ _ _ us hl => match us, hl with | [_, _, _], _ => rfl
theorem kv_Joined_worth_0 : VKn (defScope s_Joined_worth) "self" := ⟨by first | exact Or.inl (by decide +kernel) | exact Or.inr (Or.inl (by decide +kernel)) | exact Or.inr (Or.inr (by decide +kernel)), by decide, by decide⟩
theorem kv_Joined_worth_1 : VKn (defScope s_Joined_worth) "values" := ⟨by first | exact Or.inl (by decide +kernel) | exact Or.inr (Or.inl (by decide +kernel)) | exact Or.inr (Or.inr (by decide +kernel)), by decide, by decide⟩
theorem kv_Joined_worth_2 : VKn (defScope s_Joined_worth) "cells" := ⟨by first | exact Or.inl (by decide +kernel) | exact Or.inr (Or.inl (by decide +kernel)) | exact Or.inr (Or.inr (by decide +kernel)), by decide, by decide⟩
theorem kv_Joined_worth_3 : VKn (defScope s_Joined_worth) "one" := ⟨by first | exact Or.inl (by decide +kernel) | exact Or.inr (Or.inl (by decide +kernel)) | exact Or.inr (Or.inr (by decide +kernel)), by decide, by decide⟩
theorem kv_Joined_worth_4 : VKn (defScope s_Joined_worth) "other" := ⟨by first | exact Or.inl (by decide +kernel) | exact Or.inr (Or.inl (by decide +kernel)) | exact Or.inr (Or.inr (by decide +kernel)), by decide, by decide⟩
theorem ok_Joined_worth (T : TxB K mg base) (fv_cells : Fnv ((Str × (Tp Int) × Unit) × (List (T2 Str (Tp Int)))) (Int × (List (T2 Str (Tp Int))))) (l_ : Addr) (fk_cells : NokFL P w K mg base l_ 8 fv_cells) (n_ : Nat) (ih_ : DispOk_Term_worth fv_cells l_ P w K mg base n_) : FnOkZ (ZC fv_cells) P w K mg base CX0 (9 + n_ + 1) (He.fAd K ("Joined", some "worth")) T.d_Joined_worth ["self", "values", "cells"] (PrL K l_ fun (a_ : QJoined × (Dct Str Int) × One fv_cells × Unit) (s_ : (List (T2 Str (Tp Int)))) => m_Joined_worth (m_Term_worth n_) a_.1 a_.2.1 fv_cells.fn s_) := by
  refine fn_okZL T.F_Joined_worth sc_Joined_worth rfl fun cdv A outer s_ F0 H00 H0 vs a_ st_ r D_ E_ hcd_ hr z_ G o_ ra_ hm kr kn => ?_
  obtain ⟨v_self, _, rfl, r_self, v_values, _, rfl, r_values, v_cells, _, rfl, r_cells, rfl⟩ := ra_
  obtain ⟨x_self, x_values, x_cells, _u⟩ := a_
  replace hm : m_Joined_worth (m_Term_worth n_) x_self x_values fv_cells.fn st_ = some r := hm
  unfold m_Joined_worth at hm
  have r_self : rp (α := QJoined) K F0 v_self x_self := r_self
  have r_values : rp (α := (Dct Str Int)) K F0 v_values x_values := r_values
  have r_cells : ClF fv_cells K F0 H0 v_cells := ⟨r_cells, z_.m⟩
  change GoS _ _ _ [some v_self, some v_values, some v_cells, none, none] _
  obtain ⟨t1, h_t1, hm⟩ := Option.bind_eq_some_iff.mp hm
  refine go_setM (ρ := Int) (β := (List (T2 Str (Tp Int)))) 3 G.sm (EvU.m o_ (ih_ _ _ _ _ _ _ _ _ _ _ _ _ _ _ _ rfl rfl rfl rfl rfl (hr.mono (by omega)) (r_cells.er o_.pl) (clA_recv z_) (ev_attr T.f_Joined_left (ev_varK 0 rfl r_self kv_Joined_worth_0)) (ea_cons (ev_varK 1 rfl r_values kv_Joined_worth_1) (ea_cons (ev_varK 2 rfl r_cells.r kv_Joined_worth_2) ea_nil)) h_t1 (by rfl) (by rfl) (by rfl))) (fun v_one F H ob_ g fl_ hl_ rb_ r_one => ?_) sc_Joined_worth.nd
  have Gm_ := G.over o_.n g o_.pl
  have r_self := Rp.mono g.ff r_self
  have r_values := Rp.mono g.ff r_values
  have r_cells := (r_cells.er o_.pl).up g
  have G := Gm_
  have o_ := Own.mk' o_.n fl_ hl_ rb_
  change GoS _ _ _ [some v_self, some v_values, some v_cells, some v_one, none] _
  obtain ⟨t2, h_t2, hm⟩ := Option.bind_eq_some_iff.mp hm
  refine go_setM (ρ := Int) (β := (List (T2 Str (Tp Int)))) 4 G.sm (EvU.m o_ (ih_ _ _ _ _ _ _ _ _ _ _ _ _ _ _ _ rfl rfl rfl rfl rfl (hr.mono (by omega)) (r_cells.er o_.pl) (clA_recv z_) (ev_attr T.f_Joined_right (ev_varK 0 rfl r_self kv_Joined_worth_0)) (ea_cons (ev_varK 1 rfl r_values kv_Joined_worth_1) (ea_cons (ev_varK 2 rfl r_cells.r kv_Joined_worth_2) ea_nil)) h_t2 (by rfl) (by rfl) (by rfl))) (fun v_other F H ob_ g fl_ hl_ rb_ r_other => ?_) sc_Joined_worth.nd
  have Gm_ := G.over o_.n g o_.pl
  have r_self := Rp.mono g.ff r_self
  have r_one := Rp.mono g.ff r_one
  have G := Gm_
  have o_ := Own.mk' o_.n fl_ hl_ rb_
  change GoS _ _ _ [some v_self, some v_values, some v_cells, some v_one, some v_other] _
  refine go_ifA ((decide (x_self.sign = ("+" : Str)))) G.sm (et_cmp op_eq o2_eq (ev_attr T.f_Joined_sign (ev_varK 0 rfl r_self kv_Joined_worth_0)) ev_str (nomark _)) (fun hc F H g => ?_) (fun hc F H g => ?_)
  · replace hm := ipos hc hm
    have G := G.trans g
    have r_one := Rp.mono g.ff r_one
    have r_other := Rp.mono g.ff r_other
    have o_ := o_.up g
    exact go_ret G.sm (ev_add (ev_varK 3 rfl r_one kv_Joined_worth_3) (ev_varK 4 rfl r_other kv_Joined_worth_4)) fun v_ F_ H_ g_ rv_ => (by have o2_ := o_.up g_; obtain ⟨u_, hu_, ru_⟩ := o2_.h; have er_ := Option.some.inj hm; subst er_; exact kr _ _ _ _ (G.trans g_) o2_.f hu_ ru_ rv_)
  · replace hm := ineg (nt hc) hm
    have G := G.trans g
    have r_self := Rp.mono g.ff r_self
    have r_one := Rp.mono g.ff r_one
    have r_other := Rp.mono g.ff r_other
    have o_ := o_.up g
    refine GoS.nil ?_
    refine go_ifA ((decide (x_self.sign = ("-" : Str)))) G.sm (et_cmp op_eq o2_eq (ev_attr T.f_Joined_sign (ev_varK 0 rfl r_self kv_Joined_worth_0)) ev_str (nomark _)) (fun hc F H g => ?_) (fun hc F H g => ?_)
    · replace hm := ipos hc hm
      have G := G.trans g
      have r_one := Rp.mono g.ff r_one
      have r_other := Rp.mono g.ff r_other
      have o_ := o_.up g
      exact go_ret G.sm (ev_sub (ev_varK 3 rfl r_one kv_Joined_worth_3) (ev_varK 4 rfl r_other kv_Joined_worth_4)) fun v_ F_ H_ g_ rv_ => (by have o2_ := o_.up g_; obtain ⟨u_, hu_, ru_⟩ := o2_.h; have er_ := Option.some.inj hm; subst er_; exact kr _ _ _ _ (G.trans g_) o2_.f hu_ ru_ rv_)
    · replace hm := ineg (nt hc) hm
      have G := G.trans g
      have r_one := Rp.mono g.ff r_one
      have r_other := Rp.mono g.ff r_other
      have o_ := o_.up g
      refine GoS.nil ?_
      obtain ⟨t3, h_t3, hm⟩ := Option.bind_eq_some_iff.mp hm
      exact go_ret G.sm (ev_mulG (ev_varK 3 rfl r_one kv_Joined_worth_3) (ev_varK 4 rfl r_other kv_Joined_worth_4) h_t3) fun v_ F_ H_ g_ rv_ => (by have o2_ := o_.up g_; obtain ⟨u_, hu_, ru_⟩ := o2_.h; have er_ := Option.some.inj hm; subst er_; exact kr _ _ _ _ (G.trans g_) o2_.f hu_ ru_ rv_)
theorem disp_Term_worth (T : TxB K mg base) (fv : Fnv ((Str × (Tp Int) × Unit) × (List (T2 Str (Tp Int)))) (Int × (List (T2 Str (Tp Int))))) (l : Addr) (fk : NokFL P w K mg base l 8 fv) : ∀ n : Nat, DispOk_Term_worth fv l P w K mg base n
  | 0 => fun _ _ _ _ _ _ _ _ _ _ _ _ _ _ _ _ _ _ _ _ _ _ _ _ _ h _ _ _ => nomatch h
  | n_ + 1 => fun X a g0 g1 σ F H x y0 v st r apos pos pl e1 e2 e3 e4 e5 hr hv hc ha hy h hs hp ht => by
    have ih_ : DispOk_Term_worth fv l P w K mg base n_ := disp_Term_worth T fv l fk n_
    subst e1; subst e2; subst e3; subst e4; subst e5
    cases x with
    | c_Number a0 => exact eu_methZL (fv := fv) (x := QNumber.mk a0) (f := fun (a_ : QNumber × (Dct Str Int) × Gx.One fv × Unit) (s_ : (List (T2 Str (Tp Int)))) => m_Number_worth a_.1 a_.2.1 fv.fn s_) (fun F v r => rpI.insN r) (by decide +kernel) T.cl_Number T.me_Number_worth (ok_Number_worth T fv l fk) (hr.mono (by omega)) (b_Number_worth T) hv hc (ha.re fun _ _ r => UTerm.of_Number.mpr r) hy h hs hp ht
    | c_Value a0 => exact eu_methZL (fv := fv) (x := QValue.mk a0) (f := fun (a_ : QValue × (Dct Str Int) × Gx.One fv × Unit) (s_ : (List (T2 Str (Tp Int)))) => m_Value_worth a_.1 a_.2.1 fv.fn s_) (fun F v r => rpI.insN r) (by decide +kernel) T.cl_Value T.me_Value_worth (ok_Value_worth T fv l fk) (hr.mono (by omega)) (b_Value_worth T) hv hc (ha.re fun _ _ r => UTerm.of_Value.mpr r) hy h hs hp ht
    | c_Cell a0 a1 => exact eu_methZL (fv := fv) (x := QCell.mk a0 a1) (f := fun (a_ : QCell × (Dct Str Int) × Gx.One fv × Unit) (s_ : (List (T2 Str (Tp Int)))) => m_Cell_worth a_.1 a_.2.1 fv.fn s_) (fun F v r => rpI.insN r) (by decide +kernel) T.cl_Cell T.me_Cell_worth (ok_Cell_worth T fv l fk) (hr.mono (by omega)) (b_Cell_worth T) hv hc (ha.re fun _ _ r => UTerm.of_Cell.mpr r) hy h hs hp ht
    | c_Joined a0 a1 a2 => exact eu_methZL (fv := fv) (x := QJoined.mk a0 a1 a2) (f := fun (a_ : QJoined × (Dct Str Int) × Gx.One fv × Unit) (s_ : (List (T2 Str (Tp Int)))) => m_Joined_worth (m_Term_worth n_) a_.1 a_.2.1 fv.fn s_) (fun F v r => rpI.insN r) (by decide +kernel) T.cl_Joined T.me_Joined_worth (ok_Joined_worth T fv l fk n_ ih_) (hr.mono (by omega)) (b_Joined_worth T) hv hc (ha.re fun _ _ r => UTerm.of_Joined.mpr r) hy h hs hp ht
theorem sc_whole : FnScope ["_law_found"] ["_law_found"] (defScope s_whole) := ⟨rfl, rfl, rfl, by decide +kernel, rfl, by decide +kernel, by decide +kernel⟩
theorem b_whole (T : TxB K mg base) : Binds K T.d_whole ["_law_found"] [] := T.F_whole.bindsN fun _ _ _ _ _ _ us hl => match us, hl with | [_], _ => rfl
theorem kv_whole_0 : VKn (defScope s_whole) "_law_found" := ⟨by first | exact Or.inl (by decide +kernel) | exact Or.inr (Or.inl (by decide +kernel)) | exact Or.inr (Or.inr (by decide +kernel)), by decide, by decide⟩
theorem ok_whole (T : TxB K mg base) : FnOk P w K mg base CX0 1 (He.fAd K ("_law_whole", none)) T.d_whole ["_law_found"] (Pr K fun (a_ : Int × Unit) => m_whole a_.1) := by
  refine fn_ok T.F_whole sc_whole rfl fun cdv A outer s_ F0 H0 vs a_ r D_ E_ hr sm_ ra_ hm kr kn => ?_
  obtain ⟨v_found, _, rfl, r_found, rfl⟩ := ra_
  obtain ⟨x_found, _u⟩ := a_
  have G : GrX K F0 H0 F0 H0 := .refl sm_
  replace hm : m_whole x_found = some r := hm
  unfold m_whole at hm
  have r_found : rp (α := Int) K F0 v_found x_found := r_found
  change GoS _ _ _ [some v_found] _
  exact go_ret G.sm (ev_andP (ev_isi (T := "int") (r := true) (by decide +kernel) T.n_isinstance T.n_int (by decide +kernel) (ev_varK 0 rfl r_found kv_whole_0)) (ev_one (ev_not (ev_isi (T := "bool") (r := false) (by decide +kernel) T.n_isinstance T.n_bool (by decide +kernel) (ev_varK 0 rfl r_found kv_whole_0))))) fun v_ F_ H_ g_ rv_ => kr _ _ _ (G.trans g_) (cg (Option.some.inj hm) rv_)
theorem sc_places : FnScope ["_law_found", "_law_due", "_law_table", "_law_place", "_law_n"] ["_law_found", "_law_due"] (defScope s_places) := ⟨rfl, rfl, rfl, by decide +kernel, rfl, by decide +kernel, by decide +kernel⟩
theorem b_places (T : TxB K mg base) : Binds K T.d_places ["_law_found", "_law_due"] [] := T.F_places.bindsN fun _ _ _ _ _ _ us hl => match us, hl with | [_, _], _ => rfl
theorem kv_places_0 : VKn (defScope s_places) "_law_found" := ⟨by first | exact Or.inl (by decide +kernel) | exact Or.inr (Or.inl (by decide +kernel)) | exact Or.inr (Or.inr (by decide +kernel)), by decide, by decide⟩
theorem kv_places_1 : VKn (defScope s_places) "_law_due" := ⟨by first | exact Or.inl (by decide +kernel) | exact Or.inr (Or.inl (by decide +kernel)) | exact Or.inr (Or.inr (by decide +kernel)), by decide, by decide⟩
theorem kv_places_2 : VKn (defScope s_places) "_law_table" := ⟨by first | exact Or.inl (by decide +kernel) | exact Or.inr (Or.inl (by decide +kernel)) | exact Or.inr (Or.inr (by decide +kernel)), by decide, by decide⟩
theorem kv_places_3 : VKn (defScope s_places) "_law_place" := ⟨by first | exact Or.inl (by decide +kernel) | exact Or.inr (Or.inl (by decide +kernel)) | exact Or.inr (Or.inr (by decide +kernel)), by decide, by decide⟩
theorem ok_places (T : TxB K mg base) : FnOk P w K mg base CX0 2 (He.fAd K ("_law_places", none)) T.d_places ["_law_found", "_law_due"] (Pr K fun (a_ : (List (T2 Str (Tp Int))) × (List (T2 Str (Tp Int))) × Unit) => m_places a_.1 a_.2.1) := by
  refine fn_ok T.F_places sc_places rfl fun cdv A outer s_ F0 H0 vs a_ r D_ E_ hr sm_ ra_ hm kr kn => ?_
  obtain ⟨v_found, _, rfl, r_found, v_due, _, rfl, r_due, rfl⟩ := ra_
  obtain ⟨x_found, x_due, _u⟩ := a_
  have G : GrX K F0 H0 F0 H0 := .refl sm_
  replace hm : m_places x_found x_due = some r := hm
  unfold m_places at hm
  have r_found : rp (α := (List (T2 Str (Tp Int)))) K F0 v_found x_found := r_found
  have r_due : rp (α := (List (T2 Str (Tp Int)))) K F0 v_due x_due := r_due
  change GoS _ _ _ [some v_found, some v_due, none, none, none] _
  obtain ⟨t1, h_t1, hm⟩ := Option.bind_eq_some_iff.mp hm
  refine go_ifA ((!t1)) G.sm (et_neD (ev_varK 0 rfl r_found kv_places_0) (ev_varK 1 rfl r_due kv_places_1) h_t1 hr.units) (fun hc F H g => ?_) (fun hc F H g => ?_)
  · replace hm := ipos hc hm
    have G := G.trans g
    have r_found := Rp.mono g.ff r_found
    have r_due := Rp.mono g.ff r_due
    exact go_ret G.sm ev_bl fun v_ F_ H_ g_ rv_ => kr _ _ _ (G.trans g_) (cg (Option.some.inj hm) rv_)
  · replace hm := ineg (nt hc) hm
    have G := G.trans g
    have r_found := Rp.mono g.ff r_found
    have r_due := Rp.mono g.ff r_due
    refine GoS.nil ?_
    obtain ⟨o4, ho_, hm⟩ := Option.bind_eq_some_iff.mp hm
    refine go_forM G.sm (ei_list (ev_varK 0 rfl r_found kv_places_0)) (pg_tup rfl (pgs_cons (pg_name (i := 2) sc_places.nd rfl (by first | exact Or.inl rfl | exact Or.inr rfl)) (pgs_cons (pg_name (i := 3) sc_places.nd rfl (by first | exact Or.inl rfl | exact Or.inr rfl)) pgs_nil))) ho_ hm (fun F H g => ?_) PassesOwn.never
    have G := G.trans g
    refine ⟨fun (b2 : Unit) σ_ F_ H_ => ∃ (u_table : Option V) (u_place : Option V), σ_ = [some v_found, some v_due, u_table, u_place, none] ∧ GrX K F0 H0 F_ H_, fun r_ v_ H_ => ∃ F_, GrX K F0 H0 F_ H_ ∧ rp K F_ v_ r_, ⟨_, _, rfl, G⟩, ?_, ?_, ?_⟩
    ·
      intro b2 i3 o_ hm σ_ F H w_ s1_ s2_ iv_ F H g ri_ Q_ hQ_
      obtain ⟨u_table, u_place, rfl, G⟩ := iv_
      have sb7 := g.ff
      have G := G.trans g
      obtain ⟨pa5, _, rfl, sq6, v_table, _, rfl, r_table, v_place, _, rfl, r_place, rfl⟩ := ri_
      refine ⟨pa5, _, rfl, seqT_mono g.fh sq6, rfl, _, _, rfl, _, _, rfl, rfl, hQ_ _ _ ?_⟩
      change GoS _ _ _ [some v_found, some v_due, some v_table, some v_place, none] _
      refine go_ifA (((!true) || (!true))) G.sm (EvW.t (ew_orP (et_not (et_val (ev_isi (T := "str") (r := true) (by decide +kernel) T.n_isinstance T.n_str (by decide +kernel) (ev_varK 2 rfl r_table kv_places_2)))) (ew_or1 (et_not (et_val (ev_isi (T := "tuple") (r := true) (by decide +kernel) T.n_isinstance T.n_tuple (by decide +kernel) (ev_varK 3 rfl r_place kv_places_3))))))) (fun hc F H g => ?_) (fun hc F H g => ?_)
      · replace hm := ipos hc hm
        have G := G.trans g
        have r_table := Rp.mono g.ff r_table
        have r_place := Rp.mono g.ff r_place
        have sb7 := sb7.trans g.ff
        exact go_ret G.sm ev_bl fun v_ F_ H_ g_ rv_ => ⟨_, (Option.some.inj hm).symm, F_, G.trans g_, rv_⟩
      · replace hm := ineg (nt hc) hm
        have G := G.trans g
        have r_table := Rp.mono g.ff r_table
        have r_place := Rp.mono g.ff r_place
        have sb7 := sb7.trans g.ff
        refine GoS.nil ?_
        obtain ⟨t9, h_t9, hm⟩ := Option.bind_eq_some_iff.mp hm
        refine go_ifA ((!decide ((t9.length : Int) = (i3.b.l.length : Int)))) G.sm (et_cmp op_ne o2_ne (ev_callB call_len_seq oc_lenL T.n_len PySem.boot_len (ea_cons (EvN.evA ((List Int)) (en_compi (own := [("_law_n", 4)]) sc_places.nd (ei_tp (ev_varK 3 rfl r_place kv_places_3)) h_t9 (blkOk_by (N := ["_law_found", "_law_due", "_law_table", "_law_place", "_law_n"]) (sc := defScope s_places) (by decide +kernel)) (fun _ _ _ _ _ => (pg_name (i := 4) sc_places.nd rfl (by first | exact Or.inl rfl | exact Or.inr rfl))) (fun x_n o_ hm F H v_n g r_n Q hQ => by
                have r_place := Rp.mono g.ff r_place
                refine hQ _ rfl ?_
                obtain ⟨t8, h_t8, hm⟩ := Option.bind_eq_some_iff.mp hm
                refine ⟨_, fun s_ H_ C_ cl_ fp_ => (et_val (ev_call (ok_whole T) (hr.mono (by omega)) T.g_whole T.F_whole.kp (b_whole T) (ea_cons (ev_var 4 rfl r_n) ea_nil) h_t8)), fun hc => ?_, fun hc => ?_⟩
                · replace hm := ipos hc hm
                  exact ⟨_, (Option.some.inj hm).symm, fun s_ H_ C_ cl_ fp_ => (ev_var 4 rfl r_n)⟩
                · replace hm := ineg (nt hc) hm
                  exact (Option.some.inj hm).symm))) ea_nil)) (ev_callB call_len_seq oc_lenTp T.n_len PySem.boot_len (ea_cons (ev_varK 3 rfl r_place kv_places_3) ea_nil)) (nomark _)) (fun hc F H g => ?_) (fun hc F H g => ?_)
        · replace hm := ipos hc hm
          have G := G.trans g
          have r_place := Rp.mono g.ff r_place
          have sb7 := sb7.trans g.ff
          exact go_ret G.sm ev_bl fun v_ F_ H_ g_ rv_ => ⟨_, (Option.some.inj hm).symm, F_, G.trans g_, rv_⟩
        · replace hm := ineg (nt hc) hm
          have G := G.trans g
          have r_place := Rp.mono g.ff r_place
          have sb7 := sb7.trans g.ff
          refine GoS.nil ?_
          exact GoS.nil ⟨_, _, (Option.some.inj hm).symm, sb7, G.fh, ⟨_, _, rfl, G⟩⟩
    · intro b10 hm σ_ F H s1_ s2_ iv_
      obtain ⟨u_table, u_place, rfl, G⟩ := iv_
      change GoS _ _ _ [some v_found, some v_due, u_table, u_place, none] _
      exact go_ret G.sm ev_bl fun v_ F_ H_ g_ rv_ => kr _ _ _ (G.trans g_) (cg (Option.some.inj hm) rv_)
    · intro r_ he v_ H_ hv_
      obtain ⟨F_, g_, rv_⟩ := hv_
      exact kr _ _ _ g_ (cg (Option.some.inj he) rv_)
def DispOk_Term_reads (P : Program) (w : World) (K : PySem.W.Frag) (mg : Str → Option Value) (base : Heap) (n : Nat) : Prop := ∀ (X : Cx) (a : Expr) (σ : L2.St) (F H : Hp) (x : UTerm) (r : (List (T2 Str (Tp (T2 Str Int))))) (apos pos : Pos) (pl : Sem Bool), X.prog = P → X.w = w → X.K = K → X.mg = mg → X.base = base → Room (1 + n) X.A → Ev X a σ F H x → m_Term_reads n x = some r → eval (.Call (.Attribute a "reads" apos) [] [] pos) X.env = (do
      let ov ← eval a X.env
      standAt apos.atName
      let (f, first) ← holding [ov] (getMethod ov "reads" pl)
      callWith pos f first (backTo pos (starEach [] X.env)) (backToKw pos (keywordEach [] X.env))) → EvN X (.Call (.Attribute a "reads" apos) [] [] pos) σ F H r
theorem sc_Number_reads : FnScope ["self"] ["self"] (defScope s_Number_reads) := ⟨rfl, rfl, rfl, by decide +kernel, rfl, by decide +kernel, by decide +kernel⟩
theorem b_Number_reads (T : TxB K mg base) : Binds K T.d_Number_reads ["self"] [] := T.F_Number_reads.bindsN fun _ _ _ _ _ _ us hl => match us, hl with | [_], _ => rfl
theorem ok_Number_reads (T : TxB K mg base) : FnOk P w K mg base CX0 1 (He.fAd K ("Number", some "reads")) T.d_Number_reads ["self"] (PrN K fun (a_ : QNumber × Unit) => m_Number_reads a_.1) := by
  refine fn_okN T.F_Number_reads sc_Number_reads rfl fun cdv A outer s_ F0 H0 vs a_ r D_ E_ hr sm_ ra_ hm kr kn => ?_
  obtain ⟨v_self, _, rfl, r_self, rfl⟩ := ra_
  obtain ⟨x_self, _u⟩ := a_
  have G : GrX K F0 H0 F0 H0 := .refl sm_
  replace hm : m_Number_reads x_self = some r := hm
  unfold m_Number_reads at hm
  have r_self : rp (α := QNumber) K F0 v_self x_self := r_self
  change GoS _ _ _ [some v_self] _
  exact go_retE G.sm ((en_list el_nil (Nat.zero_le _))) fun l_ ob_ F_ H_ g_ n_n f_ h_ b_ => kr _ _ _ _ (G.trans g_) n_n f_ h_ (by rw [← Option.some.inj hm]; exact b_)
theorem sc_Value_reads : FnScope ["self"] ["self"] (defScope s_Value_reads) := ⟨rfl, rfl, rfl, by decide +kernel, rfl, by decide +kernel, by decide +kernel⟩
theorem b_Value_reads (T : TxB K mg base) : Binds K T.d_Value_reads ["self"] [] := T.F_Value_reads.bindsN fun _ _ _ _ _ _ us hl => match us, hl with | [_], _ => rfl
theorem ok_Value_reads (T : TxB K mg base) : FnOk P w K mg base CX0 1 (He.fAd K ("Value", some "reads")) T.d_Value_reads ["self"] (PrN K fun (a_ : QValue × Unit) => m_Value_reads a_.1) := by
  refine fn_okN T.F_Value_reads sc_Value_reads rfl fun cdv A outer s_ F0 H0 vs a_ r D_ E_ hr sm_ ra_ hm kr kn => ?_
  obtain ⟨v_self, _, rfl, r_self, rfl⟩ := ra_
  obtain ⟨x_self, _u⟩ := a_
  have G : GrX K F0 H0 F0 H0 := .refl sm_
  replace hm : m_Value_reads x_self = some r := hm
  unfold m_Value_reads at hm
  have r_self : rp (α := QValue) K F0 v_self x_self := r_self
  change GoS _ _ _ [some v_self] _
  exact go_retE G.sm ((en_list el_nil (Nat.zero_le _))) fun l_ ob_ F_ H_ g_ n_n f_ h_ b_ => kr _ _ _ _ (G.trans g_) n_n f_ h_ (by rw [← Option.some.inj hm]; exact b_)
theorem sc_Cell_reads : FnScope ["self"] ["self"] (defScope s_Cell_reads) := ⟨rfl, rfl, rfl, by decide +kernel, rfl, by decide +kernel, by decide +kernel⟩
theorem b_Cell_reads (T : TxB K mg base) : Binds K T.d_Cell_reads ["self"] [] := T.F_Cell_reads.bindsN fun _ _ _ _ _ _ us hl => match us, hl with | [_], _ => rfl
theorem kv_Cell_reads_0 : VKn (defScope s_Cell_reads) "self" := ⟨by first | exact Or.inl (by decide +kernel) | exact Or.inr (Or.inl (by decide +kernel)) | exact Or.inr (Or.inr (by decide +kernel)), by decide, by decide⟩
theorem ok_Cell_reads (T : TxB K mg base) : FnOk P w K mg base CX0 1 (He.fAd K ("Cell", some "reads")) T.d_Cell_reads ["self"] (PrN K fun (a_ : QCell × Unit) => m_Cell_reads a_.1) := by
  refine fn_okN T.F_Cell_reads sc_Cell_reads rfl fun cdv A outer s_ F0 H0 vs a_ r D_ E_ hr sm_ ra_ hm kr kn => ?_
  obtain ⟨v_self, _, rfl, r_self, rfl⟩ := ra_
  obtain ⟨x_self, _u⟩ := a_
  have G : GrX K F0 H0 F0 H0 := .refl sm_
  replace hm : m_Cell_reads x_self = some r := hm
  unfold m_Cell_reads at hm
  have r_self : rp (α := QCell) K F0 v_self x_self := r_self
  change GoS _ _ _ [some v_self] _
  exact go_retE G.sm ((en_list (el_cons (ev_tup2 (ea_cons (ev_attr T.f_Cell_table (ev_varK 0 rfl r_self kv_Cell_reads_0)) (ea_cons (ev_attr T.f_Cell_spots (ev_varK 0 rfl r_self kv_Cell_reads_0)) ea_nil))) el_nil) (by show 1 ≤ sizeLine; decide))) fun l_ ob_ F_ H_ g_ n_n f_ h_ b_ => kr _ _ _ _ (G.trans g_) n_n f_ h_ (by rw [← Option.some.inj hm]; exact b_)
theorem sc_Joined_reads : FnScope ["self"] ["self"] (defScope s_Joined_reads) := ⟨rfl, rfl, rfl, by decide +kernel, rfl, by decide +kernel, by decide +kernel⟩
theorem b_Joined_reads (T : TxB K mg base) : Binds K T.d_Joined_reads ["self"] [] := T.F_Joined_reads.bindsN fun _ _ _ _ _ _ us hl => match us, hl with | [_], _ => rfl
theorem kv_Joined_reads_0 : VKn (defScope s_Joined_reads) "self" := ⟨by first | exact Or.inl (by decide +kernel) | exact Or.inr (Or.inl (by decide +kernel)) | exact Or.inr (Or.inr (by decide +kernel)), by decide, by decide⟩
theorem ok_Joined_reads (T : TxB K mg base) (n_ : Nat) (ih_ : DispOk_Term_reads P w K mg base n_) : FnOk P w K mg base CX0 (1 + n_ + 1) (He.fAd K ("Joined", some "reads")) T.d_Joined_reads ["self"] (PrN K fun (a_ : QJoined × Unit) => m_Joined_reads (m_Term_reads n_) a_.1) := by
  refine fn_okN T.F_Joined_reads sc_Joined_reads rfl fun cdv A outer s_ F0 H0 vs a_ r D_ E_ hr sm_ ra_ hm kr kn => ?_
  obtain ⟨v_self, _, rfl, r_self, rfl⟩ := ra_
  obtain ⟨x_self, _u⟩ := a_
  have G : GrX K F0 H0 F0 H0 := .refl sm_
  replace hm : m_Joined_reads (m_Term_reads n_) x_self = some r := hm
  unfold m_Joined_reads at hm
  have r_self : rp (α := QJoined) K F0 v_self x_self := r_self
  change GoS _ _ _ [some v_self] _
  obtain ⟨t1, h_t1, hm⟩ := Option.bind_eq_some_iff.mp hm
  obtain ⟨t2, h_t2, hm⟩ := Option.bind_eq_some_iff.mp hm
  obtain ⟨t3, h_t3, hm⟩ := Option.bind_eq_some_iff.mp hm
  exact go_retE G.sm ((en_cat (EvN.evA ((List (T2 Str (Tp (T2 Str Int))))) (ih_ _ _ _ _ _ _ _ _ _ _ rfl rfl rfl rfl rfl (hr.mono (by omega)) (ev_attr T.f_Joined_left (ev_varK 0 rfl r_self kv_Joined_reads_0)) h_t1 (by rfl))) (EvN.evA ((List (T2 Str (Tp (T2 Str Int))))) (ih_ _ _ _ _ _ _ _ _ _ _ rfl rfl rfl rfl rfl (hr.mono (by omega)) (ev_attr T.f_Joined_right (ev_varK 0 rfl r_self kv_Joined_reads_0)) h_t2 (by rfl))) h_t3)) fun l_ ob_ F_ H_ g_ n_n f_ h_ b_ => kr _ _ _ _ (G.trans g_) n_n f_ h_ (by rw [← Option.some.inj hm]; exact b_)
theorem disp_Term_reads (T : TxB K mg base) : ∀ n : Nat, DispOk_Term_reads P w K mg base n
  | 0 => fun _ _ _ _ _ _ _ _ _ _ _ _ _ _ _ _ _ h _ => nomatch h
  | n_ + 1 => fun X a σ F H x r apos pos pl e1 e2 e3 e4 e5 hr ha h ht => by
    have ih_ : DispOk_Term_reads P w K mg base n_ := disp_Term_reads T n_
    subst e1; subst e2; subst e3; subst e4; subst e5
    cases x with
    | c_Number a0 => exact en_meth0 (x := QNumber.mk a0) (f := fun (a_ : QNumber × Unit) => m_Number_reads a_.1) (fun F v r => rpI.insN r) (by decide +kernel) T.cl_Number T.me_Number_reads (ok_Number_reads T) (hr.mono (by omega)) (b_Number_reads T) (ha.re fun _ _ r => UTerm.of_Number.mpr r) h ht
    | c_Value a0 => exact en_meth0 (x := QValue.mk a0) (f := fun (a_ : QValue × Unit) => m_Value_reads a_.1) (fun F v r => rpI.insN r) (by decide +kernel) T.cl_Value T.me_Value_reads (ok_Value_reads T) (hr.mono (by omega)) (b_Value_reads T) (ha.re fun _ _ r => UTerm.of_Value.mpr r) h ht
    | c_Cell a0 a1 => exact en_meth0 (x := QCell.mk a0 a1) (f := fun (a_ : QCell × Unit) => m_Cell_reads a_.1) (fun F v r => rpI.insN r) (by decide +kernel) T.cl_Cell T.me_Cell_reads (ok_Cell_reads T) (hr.mono (by omega)) (b_Cell_reads T) (ha.re fun _ _ r => UTerm.of_Cell.mpr r) h ht
    | c_Joined a0 a1 a2 => exact en_meth0 (x := QJoined.mk a0 a1 a2) (f := fun (a_ : QJoined × Unit) => m_Joined_reads (m_Term_reads n_) a_.1) (fun F v r => rpI.insN r) (by decide +kernel) T.cl_Joined T.me_Joined_reads (ok_Joined_reads T n_ ih_) (hr.mono (by omega)) (b_Joined_reads T) (ha.re fun _ _ r => UTerm.of_Joined.mpr r) h ht
theorem sc_law : FnScope ["_law_script", "_law_names_here", "_law_seed", "_law_salt", "_law_values_here", "_law_asked", "_law_held_here", "_law_term", "_law_due", "_law_reads", "_law_places_here", "_law_told"] ["_law_script"] (defScope s_law) := ⟨rfl, rfl, rfl, by decide +kernel, rfl, by decide +kernel, by decide +kernel⟩
theorem kv_law_0 : VKn (defScope s_law) "_law_script" := ⟨by first | exact Or.inl (by decide +kernel) | exact Or.inr (Or.inl (by decide +kernel)) | exact Or.inr (Or.inr (by decide +kernel)), by decide, by decide⟩
theorem kv_law_1 : VKn (defScope s_law) "_law_names_here" := ⟨by first | exact Or.inl (by decide +kernel) | exact Or.inr (Or.inl (by decide +kernel)) | exact Or.inr (Or.inr (by decide +kernel)), by decide, by decide⟩
theorem kv_law_2 : VKn (defScope s_law) "_law_seed" := ⟨by first | exact Or.inl (by decide +kernel) | exact Or.inr (Or.inl (by decide +kernel)) | exact Or.inr (Or.inr (by decide +kernel)), by decide, by decide⟩
theorem kv_law_3 : VKn (defScope s_law) "_law_salt" := ⟨by first | exact Or.inl (by decide +kernel) | exact Or.inr (Or.inl (by decide +kernel)) | exact Or.inr (Or.inr (by decide +kernel)), by decide, by decide⟩
theorem kv_law_4 : VKn (defScope s_law) "_law_values_here" := ⟨by first | exact Or.inl (by decide +kernel) | exact Or.inr (Or.inl (by decide +kernel)) | exact Or.inr (Or.inr (by decide +kernel)), by decide, by decide⟩
theorem kv_law_6 : VKn (defScope s_law) "_law_held_here" := ⟨by first | exact Or.inl (by decide +kernel) | exact Or.inr (Or.inl (by decide +kernel)) | exact Or.inr (Or.inr (by decide +kernel)), by decide, by decide⟩
theorem kv_law_7 : VKn (defScope s_law) "_law_term" := ⟨by first | exact Or.inl (by decide +kernel) | exact Or.inr (Or.inl (by decide +kernel)) | exact Or.inr (Or.inr (by decide +kernel)), by decide, by decide⟩
theorem kv_law_9 : VKn (defScope s_law) "_law_reads" := ⟨by first | exact Or.inl (by decide +kernel) | exact Or.inr (Or.inl (by decide +kernel)) | exact Or.inr (Or.inr (by decide +kernel)), by decide, by decide⟩
theorem kv_law_10 : VKn (defScope s_law) "_law_places_here" := ⟨by first | exact Or.inl (by decide +kernel) | exact Or.inr (Or.inl (by decide +kernel)) | exact Or.inr (Or.inr (by decide +kernel)), by decide, by decide⟩
theorem gl_law_alike : (defScope s_law).names.lookup ("_law_alike" : Str) = some NameKind.globalImplicit := by decide +kernel
theorem gl_law_cell_at : (defScope s_law).names.lookup ("_law_cell_at" : Str) = some NameKind.globalImplicit := by decide +kernel
theorem gl_law_names : (defScope s_law).names.lookup ("_law_names" : Str) = some NameKind.globalImplicit := by decide +kernel
theorem gl_law_places : (defScope s_law).names.lookup ("_law_places" : Str) = some NameKind.globalImplicit := by decide +kernel
theorem gl_law_tree : (defScope s_law).names.lookup ("_law_tree" : Str) = some NameKind.globalImplicit := by decide +kernel
theorem gl_law_values : (defScope s_law).names.lookup ("_law_values" : Str) = some NameKind.globalImplicit := by decide +kernel
theorem ok_law (T : TxB K mg base) : FnOk P w K mg base CX0 70 (He.fAd K ("law", none)) T.d_law ["_law_script"] (Pr K fun (a_ : (List Int) × Unit) => m_law a_.1) := by
  refine FnOkZ.plain (fn_okZ T.F_law sc_law rfl fun cdv A outer s_ F0 H0 vs a_ r D_ E_ hcd_ hr _ sm_ ra_ hm kr kn => ?_)
  obtain ⟨v_script, _, rfl, r_script, rfl⟩ := ra_
  obtain ⟨x_script, _u⟩ := a_
  have G : GrX K F0 H0 F0 H0 := .refl sm_
  replace hm : m_law x_script = some r := hm
  unfold m_law at hm
  have r_script : rp (α := (List Int)) K F0 v_script x_script := r_script
  change GoS _ _ _ [some v_script, none, none, none, none, none, none, none, none, none, none, none] _
  obtain ⟨t1, h_t1, hm⟩ := Option.bind_eq_some_iff.mp hm
  obtain ⟨t2, h_t2, hm⟩ := Option.bind_eq_some_iff.mp hm
  obtain ⟨x_names_here, he, hm⟩ := Option.bind_eq_some_iff.mp hm
  refine go_setA ((List Str)) 1 G.sm (ev_call (ok_names T) (hr.mono (by omega)) T.g_names T.F_names.kp (b_names T) (ea_cons (ev_call (ok_cell_at T) (hr.mono (by omega)) T.g_cell_at T.F_cell_at.kp (b_cell_at T) (ea_cons (ev_varK 0 rfl r_script kv_law_0) (ea_cons ev_int ea_nil)) h_t1 gl_law_cell_at) (ea_cons ev_int ea_nil)) h_t2 gl_law_names) (fun v_names_here F H g rn_ => ?_) sc_law.nd
  have G := G.trans g
  have r_script := Rp.mono g.ff r_script
  have r_names_here := cg (Option.some.inj he) rn_
  change GoS _ _ _ [some v_script, some v_names_here, none, none, none, none, none, none, none, none, none, none] _
  obtain ⟨t3, h_t3, hm⟩ := Option.bind_eq_some_iff.mp hm
  obtain ⟨x_seed, he, hm⟩ := Option.bind_eq_some_iff.mp hm
  refine go_setA (Int) 2 G.sm (ev_call (ok_cell_at T) (hr.mono (by omega)) T.g_cell_at T.F_cell_at.kp (b_cell_at T) (ea_cons (ev_varK 0 rfl r_script kv_law_0) (ea_cons ev_int ea_nil)) h_t3 gl_law_cell_at) (fun v_seed F H g rn_ => ?_) sc_law.nd
  have G := G.trans g
  have r_script := Rp.mono g.ff r_script
  have r_names_here := Rp.mono g.ff r_names_here
  have r_seed := cg (Option.some.inj he) rn_
  change GoS _ _ _ [some v_script, some v_names_here, some v_seed, none, none, none, none, none, none, none, none, none] _
  obtain ⟨x_salt, he, hm⟩ := Option.bind_eq_some_iff.mp hm
  refine go_setA (Int) 3 G.sm (ev_mod (ev_varK 2 rfl r_seed kv_law_2) ev_int (by decide)) (fun v_salt F H g rn_ => ?_) sc_law.nd
  have G := G.trans g
  have r_script := Rp.mono g.ff r_script
  have r_names_here := Rp.mono g.ff r_names_here
  have r_seed := Rp.mono g.ff r_seed
  have r_salt := cg (Option.some.inj he) rn_
  change GoS _ _ _ [some v_script, some v_names_here, some v_seed, some v_salt, none, none, none, none, none, none, none, none] _
  obtain ⟨t4, h_t4, hm⟩ := Option.bind_eq_some_iff.mp hm
  obtain ⟨x_values_here, he, hm⟩ := Option.bind_eq_some_iff.mp hm
  refine go_setA ((Dct Str Int)) 4 G.sm (ev_call (ok_values T) (hr.mono (by omega)) T.g_values T.F_values.kp (b_values T) (ea_cons (ev_varK 0 rfl r_script kv_law_0) (ea_cons (ev_varK 1 rfl r_names_here kv_law_1) (ea_cons ev_int ea_nil))) h_t4 gl_law_values) (fun v_values_here F H g rn_ => ?_) sc_law.nd
  have G := G.trans g
  have r_script := Rp.mono g.ff r_script
  have r_names_here := Rp.mono g.ff r_names_here
  have r_seed := Rp.mono g.ff r_seed
  have r_salt := Rp.mono g.ff r_salt
  have r_values_here := cg (Option.some.inj he) rn_
  change GoS _ _ _ [some v_script, some v_names_here, some v_seed, some v_salt, some v_values_here, none, none, none, none, none, none, none] _
  obtain ⟨x_asked, he, hm⟩ := Option.bind_eq_some_iff.mp hm
  refine go_setNA ((List (T2 Str (Tp Int)))) 5 G.sm (en_list el_nil (Nat.zero_le _)) (fun l_asked vs_ F H g nl_ fl_ hl_ rs_ => ?_) sc_law.nd
  have n0_ := G.hh.free nl_
  have G := G.trans g
  have r_script := Rp.mono g.ff r_script
  have r_names_here := Rp.mono g.ff r_names_here
  have r_seed := Rp.mono g.ff r_seed
  have r_salt := Rp.mono g.ff r_salt
  have r_values_here := Rp.mono g.ff r_values_here
  have o_asked : Own K _ F H l_asked _ := Own.cg (Option.some.inj he) ⟨n0_, fl_, vs_, hl_, rs_⟩
  change GoS _ _ _ [some v_script, some v_names_here, some v_seed, some v_salt, some v_values_here, some (.ref l_asked), none, none, none, none, none, none] _
  refine go_ndef 6 G.sm T.tb_law hcd_ (List.mem_map.mpr ⟨_, .head _, rfl⟩) (by show nmG 172 4 = ("law" : Str) ++ ".<locals>." ++ "_law_held_here"; decide +kernel) (NdefX.ndef_free nd_law_held_here) (fun lf_held_here c_ H g n1_ n2_ => ?_) sc_law.nd
  have G := G.trans g
  have r_script := Rp.mono g.ff r_script
  have r_names_here := Rp.mono g.ff r_names_here
  have r_seed := Rp.mono g.ff r_seed
  have r_salt := Rp.mono g.ff r_salt
  have r_values_here := Rp.mono g.ff r_values_here
  have o_asked := o_asked.up g
  obtain ⟨fv_held_here, fq_held_here, r_held_here⟩ := ClF.ex (show ClF (cf_law_held_here lf_held_here c_ _ _ l_asked (v_salt) x_salt) K _ _ (.ref lf_held_here) from ⟨⟨rfl, ⟨r_salt, trivial⟩⟩, ⟨n1_, n2_⟩⟩)
  have fk_held_here : NokFL P w K mg base l_asked 8 fv_held_here := by rw [fq_held_here]; exact (nok_law_held_here T _ _ _ _ _ _ _).mono (by omega)
  have fe_held_here : fv_held_here.fn = (fun a_ => m_law_held_here x_salt a_.2 a_.1.1 a_.1.2.1) := by rw [fq_held_here]
  change GoS _ _ _ [some v_script, some v_names_here, some v_seed, some v_salt, some v_values_here, some (.ref l_asked), some (.ref lf_held_here), none, none, none, none, none] _
  obtain ⟨t5, h_t5, hm⟩ := Option.bind_eq_some_iff.mp hm
  obtain ⟨i6, he, hm⟩ := Option.bind_eq_some_iff.mp hm
  refine go_unpack G.sm (ev_call (ok_tree T) (hr.mono (by omega)) T.g_tree T.F_tree.kp (b_tree T) (ea_cons (EvN.evA ((List Int)) (en_slice (ev_varK 0 rfl r_script kv_law_0) (eo_some ev_int) (eo_some ev_int))) (ea_cons (ev_varK 1 rfl r_names_here kv_law_1) (ea_cons (ev_varK 4 rfl r_values_here kv_law_4) (ea_cons (ev_varK 2 rfl r_seed kv_law_2) (ea_cons (ev_varK 3 rfl r_salt kv_law_3) ea_nil))))) h_t5 gl_law_tree) (pg_tup rfl (pgs_cons (pg_name (i := 7) sc_law.nd rfl (by first | exact Or.inl rfl | exact Or.inr rfl)) (pgs_cons (pg_name (i := 8) sc_law.nd rfl (by first | exact Or.inl rfl | exact Or.inr rfl)) (pgs_cons (pg_name (i := 9) sc_law.nd rfl (by first | exact Or.inl rfl | exact Or.inr rfl)) (pgs_cons (pg_name (i := 10) sc_law.nd rfl (by first | exact Or.inl rfl | exact Or.inr rfl)) pgs_nil))))) (fun w_ F H g ri_ Q_ hQ_ => ?_)
  have ri_ := cg (Option.some.inj he) ri_
  have G := G.trans g
  have r_script := Rp.mono g.ff r_script
  have r_names_here := Rp.mono g.ff r_names_here
  have r_seed := Rp.mono g.ff r_seed
  have r_salt := Rp.mono g.ff r_salt
  have r_values_here := Rp.mono g.ff r_values_here
  have o_asked := o_asked.up g
  have r_held_here := r_held_here.up g
  obtain ⟨pa7, _, rfl, sq8, v_term, _, rfl, r_term, v_due, _, rfl, r_due, v_reads, _, rfl, r_reads, v_places_here, _, rfl, r_places_here, rfl⟩ := ri_
  refine ⟨pa7, _, rfl, seqT_mono G.fh sq8, rfl, _, _, rfl, _, _, rfl, _, _, rfl, _, _, rfl, rfl, hQ_ _ _ ?_⟩
  change GoS _ _ _ [some v_script, some v_names_here, some v_seed, some v_salt, some v_values_here, some (.ref l_asked), some (.ref lf_held_here), some v_term, some v_due, some v_reads, some v_places_here, none] _
  obtain ⟨t99, h_t99, hm⟩ := Option.bind_eq_some_iff.mp hm
  obtain ⟨x_told, he, hm⟩ := Option.bind_eq_some_iff.mp hm
  refine go_setNA ((List (T2 Str (Tp (T2 Str Int))))) 11 G.sm (disp_Term_reads T 60 _ _ _ _ _ _ _ _ _ _ rfl rfl rfl rfl rfl (hr.mono (by omega)) (ev_varK 7 rfl r_term kv_law_7) h_t99 (by rfl)) (fun l_told vs_ F H g nl_ fl_ hl_ rs_ => ?_) sc_law.nd
  have d_asked_told : l_asked ≠ l_told := fun e_ => o_asked.ne0 (e_.symm ▸ nl_)
  have n0_ := G.hh.free nl_
  have G := G.trans g
  have r_values_here := Rp.mono g.ff r_values_here
  have o_asked := o_asked.up g
  have r_held_here := r_held_here.up g
  have r_term := Rp.mono g.ff r_term
  have r_reads := Rp.mono g.ff r_reads
  have r_places_here := Rp.mono g.ff r_places_here
  have o_told : Own K _ F H l_told _ := Own.cg (Option.some.inj he) ⟨n0_, fl_, vs_, hl_, rs_⟩
  change GoS _ _ _ [some v_script, some v_names_here, some v_seed, some v_salt, some v_values_here, some (.ref l_asked), some (.ref lf_held_here), some v_term, some v_due, some v_reads, some v_places_here, some (.ref l_told)] _
  obtain ⟨t9, h_t9, hm⟩ := Option.bind_eq_some_iff.mp hm
  refine go_ifA (((!t9) || (!x_asked.isEmpty))) G.sm (et_thaw o_asked G.fh (fun F H s_ s2_ rf_ k_ => by
          have r_values_here := Rp.mono s_ r_values_here
          have r_term := Rp.mono s_ r_term
          have r_reads := Rp.mono s_ r_reads
          have r_places_here := Rp.mono s_ r_places_here
          have rf_asked := rf_
          have o_told := o_told.keepF (d_asked_told.symm) s_ k_
          exact (et_thaw o_told s2_ (fun F H s_ s2_ rf_ k_ => by
          have r_values_here := Rp.mono s_ r_values_here
          have r_term := Rp.mono s_ r_term
          have r_reads := Rp.mono s_ r_reads
          have r_places_here := Rp.mono s_ r_places_here
          have rf_told := rf_
          have rf_asked := Rp.mono s_ rf_asked
          exact (EvW.t (ew_orP (et_not (et_val (ev_call (ok_alike T) (hr.mono (by omega)) T.g_alike T.F_alike.kp (b_alike T) (ea_cons (ev_var 11 rfl rf_told) (ea_cons (ev_varK 9 rfl r_reads kv_law_9) ea_nil)) h_t9 gl_law_alike))) (ew_or1 (et_cmp (op_neE hr.units0) o2_neEL (ev_var 5 rfl rf_asked) (EvN.evA ((List (T2 Str (Tp Int)))) (en_list el_nil (Nat.zero_le _))) (nomark _))))))))) (fun hc F H g => ?_) (fun hc F H g => ?_)
  · replace hm := ipos hc hm
    have G := G.trans g
    have r_values_here := Rp.mono g.ff r_values_here
    have o_asked := o_asked.up g
    have r_held_here := r_held_here.up g
    have r_term := Rp.mono g.ff r_term
    have r_reads := Rp.mono g.ff r_reads
    have r_places_here := Rp.mono g.ff r_places_here
    have o_told := o_told.up g
    exact go_ret G.sm ev_bl fun v_ F_ H_ g_ rv_ => kr _ _ _ (G.trans g_) (cg (Option.some.inj hm) rv_)
  · replace hm := ineg (nt hc) hm
    have G := G.trans g
    have r_values_here := Rp.mono g.ff r_values_here
    have o_asked := o_asked.up g
    have r_held_here := r_held_here.up g
    have r_term := Rp.mono g.ff r_term
    have r_reads := Rp.mono g.ff r_reads
    have r_places_here := Rp.mono g.ff r_places_here
    have o_told := o_told.up g
    refine GoS.nil ?_
    obtain ⟨t10, h_t10, hm⟩ := Option.bind_eq_some_iff.mp hm
    refine go_exprM (ρ := Int) (β := (List (T2 Str (Tp Int)))) G.sm (EvU.m o_asked (disp_Term_worth T fv_held_here l_asked fk_held_here 60 _ _ _ _ _ _ _ _ _ _ _ _ _ _ _ rfl rfl rfl rfl rfl (hr.mono (by omega)) (r_held_here.er o_asked.pl) (by rw [fq_held_here]; exact clA_made (sc := defScope s_law_held_here) (js := [5, 3]) rfl (NdefX.ndef_free nd_law_held_here) (NdefX.ndef_fr nd_law_held_here) rfl rfl) (ev_varK 7 rfl r_term kv_law_7) (ea_cons (EvN.evA ((Dct Str Int)) (en_dictOf T.n_dict (ev_varK 4 rfl r_values_here kv_law_4))) (ea_cons (ev_varK 6 rfl r_held_here.r kv_law_6) ea_nil)) (by show m_Term_worth 60 i6.a x_values_here fv_held_here.fn x_asked = some _; rw [fe_held_here]; exact h_t10) (by rfl) (by rfl) (by rfl))) (fun F H ob_ g fl_ hl_ rb_ => ?_)
    have Gm_ := G.over o_asked.n g o_asked.pl
    have r_values_here := Rp.mono g.ff r_values_here
    have r_held_here := (r_held_here.er o_asked.pl).up g
    have r_term := Rp.mono g.ff r_term
    have r_reads := Rp.mono g.ff r_reads
    have r_places_here := Rp.mono g.ff r_places_here
    have o_told := o_told.over (d_asked_told.symm) g
    have G := Gm_
    have o_asked := Own.mk' o_asked.n fl_ hl_ rb_
    obtain ⟨t11, h_t11, hm⟩ := Option.bind_eq_some_iff.mp hm
    refine go_ifA ((!t11)) G.sm (et_thaw o_asked G.fh (fun F H s_ s2_ rf_ k_ => by
            have r_values_here := Rp.mono s_ r_values_here
            have r_term := Rp.mono s_ r_term
            have r_reads := Rp.mono s_ r_reads
            have r_places_here := Rp.mono s_ r_places_here
            have rf_asked := rf_
            exact (et_not (et_val (ev_call (ok_places T) (hr.mono (by omega)) T.g_places T.F_places.kp (b_places T) (ea_cons (ev_var 5 rfl rf_asked) (ea_cons (ev_varK 10 rfl r_places_here kv_law_10) ea_nil)) h_t11 gl_law_places))))) (fun hc F H g => ?_) (fun hc F H g => ?_)
    · replace hm := ipos hc hm
      have G := G.trans g
      have r_values_here := Rp.mono g.ff r_values_here
      have o_asked := o_asked.up g
      have r_held_here := r_held_here.up g
      have r_term := Rp.mono g.ff r_term
      have r_reads := Rp.mono g.ff r_reads
      have r_places_here := Rp.mono g.ff r_places_here
      have o_told := o_told.up g
      exact go_ret G.sm ev_bl fun v_ F_ H_ g_ rv_ => kr _ _ _ (G.trans g_) (cg (Option.some.inj hm) rv_)
    · replace hm := ineg (nt hc) hm
      have G := G.trans g
      have r_values_here := Rp.mono g.ff r_values_here
      have o_asked := o_asked.up g
      have r_held_here := r_held_here.up g
      have r_term := Rp.mono g.ff r_term
      have r_reads := Rp.mono g.ff r_reads
      have r_places_here := Rp.mono g.ff r_places_here
      have o_told := o_told.up g
      refine GoS.nil ?_
      obtain ⟨t12, he, hm⟩ := Option.bind_eq_some_iff.mp hm
      refine go_append 11 G.sm o_told rfl (ev_tup2 (ea_cons ev_str (ea_cons (ev_tp el_nil (by show 0 ≤ sizeLine; decide)) ea_nil))) he (fun w_ F H g nz_ fz_ on_ => ?_)
      have G := G.trans g
      have r_values_here := Rp.mono g.ff r_values_here
      have o_asked := o_asked.up g
      have r_held_here := r_held_here.up g
      have r_term := Rp.mono g.ff r_term
      have r_reads := Rp.mono g.ff r_reads
      have r_places_here := Rp.mono g.ff r_places_here
      have G := G.poke (u := w_) on_.n fz_ nz_ on_.pl
      have r_held_here := r_held_here.poke (u := w_) nz_
      have o_told := on_
      have o_asked := o_asked.other (u := w_) (d_asked_told)
      obtain ⟨t13, h_t13, hm⟩ := Option.bind_eq_some_iff.mp hm
      obtain ⟨t14, h_t14, hm⟩ := Option.bind_eq_some_iff.mp hm
      refine go_ifA (((!t14) || (!decide ((t12.length : Int) = ((i6.c.length : Int) + (1 : Int)))))) G.sm (EvW.t (ew_orP (et_not (et_val (ev_call (ok_alike T) (hr.mono (by omega)) T.g_alike T.F_alike.kp (b_alike T) (ea_cons (EvN.evA ((List (T2 Str (Tp (T2 Str Int))))) (disp_Term_reads T 60 _ _ _ _ _ _ _ _ _ _ rfl rfl rfl rfl rfl (hr.mono (by omega)) (ev_varK 7 rfl r_term kv_law_7) h_t13 (by rfl))) (ea_cons (ev_varK 9 rfl r_reads kv_law_9) ea_nil)) h_t14 gl_law_alike))) (ew_or1 (et_cmp op_ne o2_ne (ev_lenOwn 11 o_told rfl T.n_len) (ev_add (ev_callB call_len_seq oc_lenL T.n_len PySem.boot_len (ea_cons (ev_varK 9 rfl r_reads kv_law_9) ea_nil)) ev_int) (nomark _))))) (fun hc F H g => ?_) (fun hc F H g => ?_)
      · replace hm := ipos hc hm
        have G := G.trans g
        have r_values_here := Rp.mono g.ff r_values_here
        have o_asked := o_asked.up g
        have r_held_here := r_held_here.up g
        have r_term := Rp.mono g.ff r_term
        have r_reads := Rp.mono g.ff r_reads
        have r_places_here := Rp.mono g.ff r_places_here
        have o_told := o_told.up g
        exact go_ret G.sm ev_bl fun v_ F_ H_ g_ rv_ => kr _ _ _ (G.trans g_) (cg (Option.some.inj hm) rv_)
      · replace hm := ineg (nt hc) hm
        have G := G.trans g
        have r_values_here := Rp.mono g.ff r_values_here
        have o_asked := o_asked.up g
        have r_held_here := r_held_here.up g
        have r_term := Rp.mono g.ff r_term
        have r_reads := Rp.mono g.ff r_reads
        have r_places_here := Rp.mono g.ff r_places_here
        have o_told := o_told.up g
        refine GoS.nil ?_
        refine go_exprM (ρ := Unit) (β := (List (T2 Str (Tp Int)))) G.sm (em_clear 5 o_asked rfl) (fun F H ob_ g fl_ hl_ rb_ => ?_)
        have Gm_ := G.over o_asked.n g o_asked.pl
        have r_values_here := Rp.mono g.ff r_values_here
        have r_held_here := (r_held_here.er o_asked.pl).up g
        have r_term := Rp.mono g.ff r_term
        have r_reads := Rp.mono g.ff r_reads
        have r_places_here := Rp.mono g.ff r_places_here
        have o_told := o_told.over (d_asked_told.symm) g
        have G := Gm_
        have o_asked := Own.mk' o_asked.n fl_ hl_ rb_
        obtain ⟨t15, h_t15, hm⟩ := Option.bind_eq_some_iff.mp hm
        refine go_exprM (ρ := Int) (β := (List (T2 Str (Tp Int)))) G.sm (EvU.m o_asked (disp_Term_worth T fv_held_here l_asked fk_held_here 60 _ _ _ _ _ _ _ _ _ _ _ _ _ _ _ rfl rfl rfl rfl rfl (hr.mono (by omega)) (r_held_here.er o_asked.pl) (by rw [fq_held_here]; exact clA_made (sc := defScope s_law_held_here) (js := [5, 3]) rfl (NdefX.ndef_free nd_law_held_here) (NdefX.ndef_fr nd_law_held_here) rfl rfl) (ev_varK 7 rfl r_term kv_law_7) (ea_cons (EvN.evA ((Dct Str Int)) (en_dictOf T.n_dict (ev_varK 4 rfl r_values_here kv_law_4))) (ea_cons (ev_varK 6 rfl r_held_here.r kv_law_6) ea_nil)) (by show m_Term_worth 60 i6.a x_values_here fv_held_here.fn ([] : (List (T2 Str (Tp Int)))) = some _; rw [fe_held_here]; exact h_t15) (by rfl) (by rfl) (by rfl))) (fun F H ob_ g fl_ hl_ rb_ => ?_)
        have Gm_ := G.over o_asked.n g o_asked.pl
        have r_values_here := Rp.mono g.ff r_values_here
        have r_held_here := (r_held_here.er o_asked.pl).up g
        have r_term := Rp.mono g.ff r_term
        have r_reads := Rp.mono g.ff r_reads
        have r_places_here := Rp.mono g.ff r_places_here
        have o_told := o_told.over (d_asked_told.symm) g
        have G := Gm_
        have o_asked := Own.mk' o_asked.n fl_ hl_ rb_
        obtain ⟨t16, h_t16, hm⟩ := Option.bind_eq_some_iff.mp hm
        obtain ⟨t19, h_t19, hm⟩ := Option.bind_eq_some_iff.mp hm
        exact go_ret G.sm (ev_thaw o_asked G.fh (fun F H s_ s2_ rf_ k_ => by
                have r_term := Rp.mono s_ r_term
                have r_reads := Rp.mono s_ r_reads
                have r_places_here := Rp.mono s_ r_places_here
                have rf_asked := rf_
                exact (ev_andA (t16) (ev_call (ok_places T) (hr.mono (by omega)) T.g_places T.F_places.kp (b_places T) (ea_cons (ev_var 5 rfl rf_asked) (ea_cons (ev_varK 10 rfl r_places_here kv_law_10) ea_nil)) h_t16 gl_law_places) (fun hc => by
                replace h_t19 := ipos hc h_t19
                obtain ⟨t17, h_t17, h_t19⟩ := Option.bind_eq_some_iff.mp h_t19
                obtain ⟨t18, h_t18, h_t19⟩ := Option.bind_eq_some_iff.mp h_t19
                exact Ev.cg (Option.some.inj h_t19) (ev_one (ev_call (ok_alike T) (hr.mono (by omega)) T.g_alike T.F_alike.kp (b_alike T) (ea_cons (EvN.evA ((List (T2 Str (Tp (T2 Str Int))))) (disp_Term_reads T 60 _ _ _ _ _ _ _ _ _ _ rfl rfl rfl rfl rfl (hr.mono (by omega)) (ev_varK 7 rfl r_term kv_law_7) h_t17 (by rfl))) (ea_cons (ev_varK 9 rfl r_reads kv_law_9) ea_nil)) h_t18 gl_law_alike))) (fun hc => by replace h_t19 := ineg (nt hc) h_t19; exact (Option.some.inj h_t19).symm)))) fun v_ F_ H_ g_ rv_ => kr _ _ _ (G.trans g_) (cg (Option.some.inj hm) rv_)
end
open Run
theorem facts {K : PySem.W.Frag} {h : Heap} {mg : Str → Option Value} (X : K.In h) (G : h.Ns mainGlobals mg) (c : He.SaysD fa fn K) (cx : ex K = true) : ∃ T : Txt K mg, ∀ (s : Shared) (v : Value), BindsTo s T.d_law ⟨[v], []⟩ [("_law_script", v)] := by
  obtain ⟨d_cell_at, F_cell_at⟩ := c.def_ 0 (d := D_cell_at) rfl
  obtain ⟨d_stream, F_stream⟩ := c.def_ 1 (d := D_stream) rfl
  obtain ⟨d_names, F_names⟩ := c.def_ 2 (d := D_names) rfl
  obtain ⟨d_number, F_number⟩ := c.def_ 3 (d := D_number) rfl
  obtain ⟨d_values, F_values⟩ := c.def_ 4 (d := D_values) rfl
  obtain ⟨d_held, F_held⟩ := c.def_ 5 (d := D_held) rfl
  obtain ⟨d_Number_init, F_Number_init⟩ := c.def_ 6 (d := D_Number_init) rfl
  obtain ⟨d_Value_init, F_Value_init⟩ := c.def_ 7 (d := D_Value_init) rfl
  obtain ⟨d_Cell_init, F_Cell_init⟩ := c.def_ 8 (d := D_Cell_init) rfl
  obtain ⟨d_leaf, F_leaf⟩ := c.def_ 9 (d := D_leaf) rfl
  obtain ⟨d_Joined_init, F_Joined_init⟩ := c.def_ 10 (d := D_Joined_init) rfl
  obtain ⟨d_both, F_both⟩ := c.def_ 11 (d := D_both) rfl
  obtain ⟨d_tree, F_tree⟩ := c.def_ 12 (d := D_tree) rfl
  obtain ⟨d_alike, F_alike⟩ := c.def_ 13 (d := D_alike) rfl
  obtain ⟨d_placed, F_placed⟩ := c.def_ 14 (d := D_placed) rfl
  obtain ⟨d_Number_worth, F_Number_worth⟩ := c.def_ 15 (d := D_Number_worth) rfl
  obtain ⟨d_Value_worth, F_Value_worth⟩ := c.def_ 16 (d := D_Value_worth) rfl
  obtain ⟨d_Cell_worth, F_Cell_worth⟩ := c.def_ 17 (d := D_Cell_worth) rfl
  obtain ⟨d_Joined_worth, F_Joined_worth⟩ := c.def_ 18 (d := D_Joined_worth) rfl
  obtain ⟨d_whole, F_whole⟩ := c.def_ 19 (d := D_whole) rfl
  obtain ⟨d_places, F_places⟩ := c.def_ 20 (d := D_places) rfl
  obtain ⟨d_Number_reads, F_Number_reads⟩ := c.def_ 21 (d := D_Number_reads) rfl
  obtain ⟨d_Value_reads, F_Value_reads⟩ := c.def_ 22 (d := D_Value_reads) rfl
  obtain ⟨d_Cell_reads, F_Cell_reads⟩ := c.def_ 23 (d := D_Cell_reads) rfl
  obtain ⟨d_Joined_reads, F_Joined_reads⟩ := c.def_ 24 (d := D_Joined_reads) rfl
  obtain ⟨d_law, F_law⟩ := c.def_ 25 (d := D_law) rfl
  have b := FunD.bindsA (ps := ["_law_script"]) F_law fun _ _ _ _ _ _ us hl => match us, hl with | [_], _ => rfl
  exact ⟨⟨d_cell_at, F_cell_at, He.glo_ok X G (c.fact 0 (f := .glo "_law_cell_at") rfl),
    d_stream, F_stream, He.glo_ok X G (c.fact 1 (f := .glo "_law_stream") rfl),
    d_names, F_names, He.glo_ok X G (c.fact 2 (f := .glo "_law_names") rfl),
    d_number, F_number, He.glo_ok X G (c.fact 3 (f := .glo "_law_number") rfl),
    d_values, F_values, He.glo_ok X G (c.fact 4 (f := .glo "_law_values") rfl),
    d_held, F_held, He.glo_ok X G (c.fact 5 (f := .glo "_law_held") rfl),
    d_Number_init, F_Number_init,
    d_Value_init, F_Value_init,
    d_Cell_init, F_Cell_init,
    d_leaf, F_leaf, He.glo_ok X G (c.fact 6 (f := .glo "_law_leaf") rfl),
    d_Joined_init, F_Joined_init,
    d_both, F_both, He.glo_ok X G (c.fact 7 (f := .glo "_law_both") rfl),
    d_tree, F_tree, He.glo_ok X G (c.fact 8 (f := .glo "_law_tree") rfl),
    d_alike, F_alike, He.glo_ok X G (c.fact 9 (f := .glo "_law_alike") rfl),
    d_placed, F_placed, He.glo_ok X G (c.fact 10 (f := .glo "placed") rfl),
    d_Number_worth, F_Number_worth, He.meth_ok (c.fact 11 (f := .meth "Number" "worth") rfl),
    d_Value_worth, F_Value_worth, He.meth_ok (c.fact 12 (f := .meth "Value" "worth") rfl),
    d_Cell_worth, F_Cell_worth, He.meth_ok (c.fact 13 (f := .meth "Cell" "worth") rfl),
    d_Joined_worth, F_Joined_worth, He.meth_ok (c.fact 14 (f := .meth "Joined" "worth") rfl),
    d_whole, F_whole, He.glo_ok X G (c.fact 15 (f := .glo "_law_whole") rfl),
    d_places, F_places, He.glo_ok X G (c.fact 16 (f := .glo "_law_places") rfl),
    d_Number_reads, F_Number_reads, He.meth_ok (c.fact 17 (f := .meth "Number" "reads") rfl),
    d_Value_reads, F_Value_reads, He.meth_ok (c.fact 18 (f := .meth "Value" "reads") rfl),
    d_Cell_reads, F_Cell_reads, He.meth_ok (c.fact 19 (f := .meth "Cell" "reads") rfl),
    d_Joined_reads, F_Joined_reads, He.meth_ok (c.fact 20 (f := .meth "Joined" "reads") rfl),
    d_law, F_law, He.glo_ok X G (c.fact 21 (f := .glo "law") rfl),
    He.glo_ok X G (c.fact 22 (f := .glo "Number") rfl), He.cls_ok (c.fact 23 (f := .cls "Number") rfl), He.mkr_ok (c.fact 24 (f := .mkr "Number") rfl),
    He.noat_ok (c.fact 25 (f := .noat "Number" "n") rfl),
    He.glo_ok X G (c.fact 26 (f := .glo "Value") rfl), He.cls_ok (c.fact 27 (f := .cls "Value") rfl), He.mkr_ok (c.fact 28 (f := .mkr "Value") rfl),
    He.noat_ok (c.fact 29 (f := .noat "Value" "name") rfl),
    He.glo_ok X G (c.fact 30 (f := .glo "Cell") rfl), He.cls_ok (c.fact 31 (f := .cls "Cell") rfl), He.mkr_ok (c.fact 32 (f := .mkr "Cell") rfl),
    He.noat_ok (c.fact 33 (f := .noat "Cell" "table") rfl),
    He.noat_ok (c.fact 34 (f := .noat "Cell" "spots") rfl),
    He.glo_ok X G (c.fact 35 (f := .glo "Joined") rfl), He.cls_ok (c.fact 36 (f := .cls "Joined") rfl), He.mkr_ok (c.fact 37 (f := .mkr "Joined") rfl),
    He.noat_ok (c.fact 38 (f := .noat "Joined" "sign") rfl),
    He.noat_ok (c.fact 39 (f := .noat "Joined" "left") rfl),
    He.noat_ok (c.fact 40 (f := .noat "Joined" "right") rfl),
    He.free_ok X G (c.fact 41 (f := .free "abs") rfl),
    He.free_ok X G (c.fact 42 (f := .free "bool") rfl),
    He.free_ok X G (c.fact 43 (f := .free "dict") rfl),
    He.free_ok X G (c.fact 44 (f := .free "int") rfl),
    He.free_ok X G (c.fact 45 (f := .free "isinstance") rfl),
    He.free_ok X G (c.fact 46 (f := .free "len") rfl),
    He.free_ok X G (c.fact 47 (f := .free "list") rfl),
    He.free_ok X G (c.fact 48 (f := .free "ord") rfl),
    He.free_ok X G (c.fact 49 (f := .free "range") rfl),
    He.free_ok X G (c.fact 50 (f := .free "str") rfl),
    He.free_ok X G (c.fact 51 (f := .free "tuple") rfl),
    He.free_ok X G (c.fact 52 (f := .free "zip") rfl)⟩, fun s v => b s [v] rfl⟩
def spLaw (K : PySem.W.Frag) : Sp := Pr K fun (a_ : List Int × Unit) => m_law a_.1
theorem sp_true {K : PySem.W.Frag} (H : Hp) (a : Addr) (ns : List Int) (hS : SqL K H a (ns.map V.int)) (hT : ∀ P ∈ tabsG K, H P = some (.tbl #[])) (ht : m_law ns = some true) : spLaw K [.ref a] H (fun v _ => v = .bl true) fun _ _ _ => False :=
  ⟨unT H, (ns, ()), true, sm_start hT, ⟨.ref a, [], rfl, ⟨a, _, rfl, unT_seq hS, Rps.of_ints ns⟩, rfl⟩, ht, fun _ _ _ _ r => r⟩
end Law
open PySem PySem.W PySem.Calls PyProof.Rows
theorem PySem.Challenge.cw_furrow_k13_cells_from_left_to_right_holds : PySem.Challenge.rw_furrow_k13_cells_from_left_to_right.Holds := by
  w_on; o_law
  refine HandSHeadRun.head_any (r := OpenLaw.row PySem.Challenge.rw_furrow_k13_cells_from_left_to_right) (q := view (OpenLaw.row PySem.Challenge.rw_furrow_k13_cells_from_left_to_right).prog [20]) (H := Law.Run.hk) (ob := Law.Run.ob) (M := 5100) (loose := Law.Run.loose) (d := HandSHeadRun.topDef (OpenLaw.row PySem.Challenge.rw_furrow_k13_cells_from_left_to_right).prog 20) (kwd := []) Law.Run.ob_eq
    (by kernel_rfl) (fun s => by kernel_rfl) Law.Run.run (by kernel_rfl) (by kernel_rfl) (by kernel_rfl) (by rfl) (by first | assumption | decide +kernel) (by decide +kernel) ⟨rfl, rfl, rfl, rfl, rfl, by decide +kernel⟩ ?hw ?hc
  case hw => w_witness2
  case hc =>
    refine LamX.walk_ofTsE (l := PySem.Challenge.rw_furrow_k13_cells_from_left_to_right) (n := 63) (k := 70) (x := "_law_script") (CX := fun _ => L2.CX0) rfl (by decide) (by kernel_rfl) ⟨rfl, by decide, by decide⟩ ?F (fun _ _ _ _ _ z => z)
    intro w mg fa h Y G hmg0
    obtain ⟨K, KX, c⟩ := Y
    have hmg : mg ("law" : PySem.Str) = some (.ref fa) := by
      have e : (HandSHeadRun.topDef (OpenLaw.row PySem.Challenge.rw_furrow_k13_cells_from_left_to_right).prog 20).name = ("law" : PySem.Str) := by kernel_rfl
      rw [← e]
      exact hmg0
    obtain ⟨T, hb⟩ := Law.facts KX G c.t.d c.more
    have e := hmg.symm.trans T.g_law
    cases e
    refine ⟨K, KX, T.d_law, Gx.tfG.map (He.cT K), Law.spLaw K, ?_, ?_, ?_, hb, ?_, ?_⟩
    · intro p hp
      obtain ⟨q, hq, rfl⟩ := List.mem_map.mp hp
      exact c.empty q hq
    · intro p hp
      obtain ⟨q, hq, rfl⟩ := List.mem_map.mp hp
      exact c.out q hq
    · intro p hp
      obtain ⟨q, hq, rfl⟩ := List.mem_map.mp hp
      exact PySem.W.codeHd_of_K KX (c.hd q hq)
    · intro H a ns hl _ hT hS
      exact Law.sp_true H a ns hS (fun P hP => by
        obtain ⟨q, hq, rfl⟩ := List.mem_map.mp hP
        exact hT _ (List.mem_map.mpr ⟨q, hq, rfl⟩)) (Law.law_true ns hl)
    · intro base _ _ tb
      exact Law.ok_law ⟨T, fun p hp => tb _ (List.mem_map.mpr ⟨p, hp, rfl⟩)⟩
