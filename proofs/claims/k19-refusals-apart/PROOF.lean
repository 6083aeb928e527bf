import PyProof.Rows.All
import Wide.All
import OpenK.AllK
import Wide.FinOn
import HandS.ForMost
import HandS.Codes
import HandS.Wide
import HandS.SortInts
import HandS.Conv
import HandS.IsInst
import HandS.Defaults
import HandS.Head0
import HandS.Head1
import HandS.Head2
import HandS.HeadEnd
import HandS.HeadHook1
import HandS.HeadHook2
import HandS.Zip
import HandS.Exc
import HandS.TryOnly
import HandS.ExcOwn
import HandS.WordsExc
import HandS.ExcInit
import HandS.ExcIs
import HandS.ExcField
import HandS.Style
import HandS.TupAny
import HandS.More
import HandS.Replace
import HandS.Dict
import HandS.Iter
import HandS.WordsDict
import HandS.Rev
import KE.KDictList
import HandS.Comp
import HandS.TupLen
import PyProof.StrLawsChain
import PyProof.StrLawsTight
import PyProof.Rows.StrSplitJoin
import PyProof.Rows.StrSplitAre
import PyProof.Rows.StrItems
import HandS.Strs
import HandS.SetFor
import HandS.DictComp
import HandS.HotCalls
import PySem.Challenge.RW_deskpairs_k19_refusals_apart
set_option Elab.async false
set_option linter.all false
set_option maxRecDepth 100000
namespace Dy
open PySem PySem.Spec PyProof.Rows L2

structure S where
  F : Hp
  H : Hp
  sub : ∀ a o, F a = some o → H a = some o
abbrev Fle (F F' : Hp) : Prop := ∀ a o, F a = some o → F' a = some o
theorem Fle.refl (F : Hp) : Fle F F := fun _ _ h => h
theorem Fle.trans {F G I : Hp} (a : Fle F G) (b : Fle G I) : Fle F I := fun x o h => b x o (a x o h)
structure Ex (s t : S) : Prop where
  f : Fle s.F t.F
  h : ∀ a o, s.H a = some o → t.H a = some o
  n : ∀ a o, s.H a = some o → s.F a = none → t.F a = none
theorem Ex.refl (s : S) : Ex s s := ⟨fun _ _ h => h, fun _ _ h => h, fun _ _ _ h => h⟩
theorem Ex.trans {s t u : S} (a : Ex s t) (b : Ex t u) : Ex s u :=
  ⟨fun x o h => b.f x o (a.f x o h), fun x o h => b.h x o (a.h x o h), fun x o h n => b.n x o (a.h x o h) (a.n x o h n)⟩
theorem fr_back {s t : S} (e : Ex s t) {p : Addr} (h : t.H p = none) : s.H p = none := by
  cases q : s.H p with
  | none => rfl
  | some o => rw [e.h p o q] at h; cases h
theorem fF {s : S} {p : Addr} (h : s.H p = none) : s.F p = none := by
  cases q : s.F p with
  | none => rfl
  | some o => rw [s.sub p o q] at h; cases h
def S.newF (s : S) (p : Addr) (o : HO) (h : s.H p = none) : S := ⟨upd s.F p o, upd s.H p o, fun a u q => by
  unfold upd at q ⊢
  split
  · rename_i e; rw [if_pos e] at q; exact q
  · rename_i e; rw [if_neg e] at q; exact s.sub a u q⟩
def S.newO (s : S) (p : Addr) (o : HO) (h : s.H p = none) : S := ⟨s.F, upd s.H p o, fun a u q => by
  rw [upd_ne (ne_of_none (s.sub a u q) h)]; exact s.sub a u q⟩
def S.put (s : S) (p : Addr) (o : HO) (h : s.F p = none) : S := ⟨s.F, upd s.H p o, fun a u q => by
  rw [upd_ne (ne_of_none q h)]; exact s.sub a u q⟩
theorem Ex.newF {s : S} {p : Addr} {o : HO} (h : s.H p = none) : Ex s (s.newF p o h) :=
  ⟨fun a u q => by show upd s.F p o a = some u; rw [upd_ne (ne_of_none (s.sub a u q) h)]; exact q,
   fun a u q => by show upd s.H p o a = some u; rw [upd_ne (ne_of_none q h)]; exact q,
   fun a u q n => by show upd s.F p o a = none; rw [upd_ne (ne_of_none q h)]; exact n⟩
theorem Ex.newO {s : S} {p : Addr} {o : HO} (h : s.H p = none) : Ex s (s.newO p o h) :=
  ⟨fun a u q => q, fun a u q => by show upd s.H p o a = some u; rw [upd_ne (ne_of_none q h)]; exact q, fun a u q n => n⟩
structure Mx (P : Addr → Prop) (s t : S) : Prop where
  f : Fle s.F t.F
  h : ∀ a o, s.H a = some o → ¬ P a → t.H a = some o
  n : ∀ a o, s.H a = some o → s.F a = none → t.F a = none
  d : ∀ a o, s.H a = some o → ∃ u, t.H a = some u
theorem Ex.mx {P : Addr → Prop} {s t : S} (e : Ex s t) : Mx P s t := ⟨e.f, fun a o h _ => e.h a o h, e.n, fun a o h => ⟨o, e.h a o h⟩⟩
theorem Mx.trans {P : Addr → Prop} {s t u : S} (a : Mx P s t) (b : Mx P t u) : Mx P s u :=
  ⟨fun x o h => b.f x o (a.f x o h), fun x o h n => b.h x o (a.h x o h n) n,
   fun x o h n => by obtain ⟨v, hv⟩ := a.d x o h; exact b.n x v hv (a.n x o h n),
   fun x o h => by obtain ⟨v, hv⟩ := a.d x o h; exact b.d x v hv⟩
theorem Mx.put {s : S} {p : Addr} {o : HO} (h : s.F p = none) : Mx (· = p) s (s.put p o h) :=
  ⟨fun a u q => q, fun a u q n => by show upd s.H p o a = some u; rw [upd_ne n]; exact q, fun a u q n => n,
   fun a u q => by
    by_cases e : a = p
    · exact ⟨o, by rw [e]; exact upd_same⟩
    · exact ⟨u, by show upd s.H p o a = some u; rw [upd_ne e]; exact q⟩⟩
theorem Mx.fr_back {P : Addr → Prop} {s t : S} (e : Mx P s t) {p : Addr} (h : t.H p = none) : s.H p = none := by
  cases q : s.H p with
  | none => rfl
  | some o => obtain ⟨u, z⟩ := e.d p o q; rw [z] at h; cases h
theorem Ex.mu {s t u : S} {P : Addr → Prop} (a : Ex s t) (b : Mx P t u) (h : ∀ p, P p → s.H p = none) : Ex s u :=
  ⟨fun x o q => b.f x o (a.f x o q), fun x o q => b.h x o (a.h x o q) fun z => (by rw [h x z] at q; cases q), fun x o q n => b.n x o (a.h x o q) (a.n x o q n)⟩
theorem Ex.mu1 {s t u : S} {p : Addr} (a : Ex s t) (b : Mx (· = p) t u) (h : s.H p = none) : Ex s u := a.mu b fun _ e => e ▸ h

class Enc (α : Type) where
  rep : PySem.W.Frag → Hp → V → α → Prop
  mono : ∀ {K : PySem.W.Frag} {F F' : Hp} {v : V} {x : α}, Fle F F' → rep K F v x → rep K F' v x
open Enc (rep)
def Reps {α : Type} [Enc α] (K : PySem.W.Frag) (F : Hp) : List V → List α → Prop
  | [], [] => True
  | v :: vs, x :: xs => rep K F v x ∧ Reps K F vs xs
  | _, _ => False
section
variable {α β : Type} [Enc α] [Enc β] {K : PySem.W.Frag} {F F' : Hp}
theorem Reps.mono (e : Fle F F') : ∀ {vs : List V} {xs : List α}, Reps K F vs xs → Reps K F' vs xs
  | [], [], _ => trivial
  | _ :: _, _ :: _, ⟨h, t⟩ => ⟨Enc.mono e h, Reps.mono e t⟩
  | [], _ :: _, h => h.elim
  | _ :: _, [], h => h.elim
theorem Reps.len : ∀ {vs : List V} {xs : List α}, Reps K F vs xs → vs.length = xs.length
  | [], [], _ => rfl
  | _ :: _, _ :: _, ⟨_, t⟩ => congrArg (· + 1) (Reps.len t)
  | [], _ :: _, h => h.elim
  | _ :: _, [], h => h.elim
theorem Reps.get : ∀ {vs : List V} {xs : List α} {i : Nat} {x : α}, Reps K F vs xs → xs[i]? = some x → ∃ v, vs[i]? = some v ∧ rep K F v x
  | [], [], _, _, _, e => by simp at e
  | v :: _, y :: _, 0, x, ⟨h, _⟩, e => by
    have : y = x := Option.some.inj e
    subst this
    exact ⟨v, rfl, h⟩
  | _ :: vs, _ :: xs, i + 1, x, ⟨_, t⟩, e => by
    obtain ⟨v, h1, h2⟩ := Reps.get (i := i) t (by simpa using e)
    exact ⟨v, by simpa using h1, h2⟩
  | [], _ :: _, _, _, h, _ => h.elim
  | _ :: _, [], _, _, h, _ => h.elim
theorem Reps.app : ∀ {vs ws : List V} {xs ys : List α}, Reps K F vs xs → Reps K F ws ys → Reps K F (vs ++ ws) (xs ++ ys)
  | [], _, [], _, _, t => t
  | _ :: _, _, _ :: _, _, ⟨h, t⟩, u => ⟨h, Reps.app t u⟩
  | [], _, _ :: _, _, h, _ => h.elim
  | _ :: _, _, [], _, h, _ => h.elim
theorem Reps.snoc {vs : List V} {xs : List α} {v : V} {x : α} (h : Reps K F vs xs) (r : rep K F v x) : Reps K F (vs ++ [v]) (xs ++ [x]) := h.app ⟨r, trivial⟩
theorem Reps.take : ∀ {vs : List V} {xs : List α} (n : Nat), Reps K F vs xs → Reps K F (vs.take n) (xs.take n)
  | _, _, 0, _ => by rw [List.take_zero, List.take_zero]; trivial
  | [], [], _ + 1, _ => trivial
  | _ :: _, _ :: _, n + 1, ⟨h, t⟩ => ⟨h, Reps.take n t⟩
  | [], _ :: _, _ + 1, h => h.elim
  | _ :: _, [], _ + 1, h => h.elim
theorem Reps.drop : ∀ {vs : List V} {xs : List α} (n : Nat), Reps K F vs xs → Reps K F (vs.drop n) (xs.drop n)
  | _, _, 0, h => h
  | [], [], _ + 1, _ => trivial
  | _ :: _, _ :: _, n + 1, ⟨_, t⟩ => Reps.drop n t
  | [], _ :: _, _ + 1, h => h.elim
  | _ :: _, [], _ + 1, h => h.elim
theorem Reps.set : ∀ {vs : List V} {xs : List α} {v : V} {x : α} (i : Nat), Reps K F vs xs → rep K F v x → Reps K F (vs.set i v) (xs.set i x)
  | [], [], _, _, _, _, _ => trivial
  | _ :: _, _ :: _, _, _, 0, ⟨_, t⟩, r => ⟨r, t⟩
  | _ :: _, _ :: _, _, _, i + 1, ⟨h, t⟩, r => ⟨h, Reps.set i t r⟩
  | [], _ :: _, _, _, _, h, _ => h.elim
  | _ :: _, [], _, _, _, h, _ => h.elim
theorem Reps.mem : ∀ {vs : List V} {xs : List α} {x : α}, Reps K F vs xs → x ∈ xs → ∃ v, v ∈ vs ∧ rep K F v x
  | v :: _, y :: _, x, ⟨h, t⟩, e => by
    rcases List.mem_cons.mp e with rfl | e
    · exact ⟨v, List.mem_cons_self, h⟩
    · obtain ⟨w, a, b⟩ := Reps.mem t e
      exact ⟨w, List.mem_cons_of_mem _ a, b⟩
  | [], _ :: _, _, h, _ => h.elim
theorem Reps.repl {v : V} {x : α} (r : rep K F v x) : ∀ n : Nat, Reps K F (List.replicate n v) (List.replicate n x)
  | 0 => trivial
  | n + 1 => ⟨r, Reps.repl r n⟩
end
instance : Enc Int := ⟨fun _ _ v x => v = .int x, fun _ h => h⟩
instance : Enc Bool := ⟨fun _ _ v x => v = .bl x, fun _ h => h⟩
instance : Enc Str := ⟨fun _ _ v x => v = .str x, fun _ h => h⟩
instance : Enc Unit := ⟨fun _ _ v _ => v = .non, fun _ h => h⟩
class Opn (α : Type) extends Enc α where
  notNon : ∀ {K : PySem.W.Frag} {F : Hp} {x : α}, ¬ rep K F .non x
instance : Opn Int := ⟨fun {K F x} h => nomatch (show V.non = V.int x from h)⟩
instance : Opn Str := ⟨fun {K F x} h => nomatch (show V.non = V.str x from h)⟩
instance : Opn Bool := ⟨fun {K F x} h => nomatch (show V.non = V.bl x from h)⟩
instance {α : Type} [Enc α] : Enc (Option α) := ⟨fun K F v x => match x with | none => v = .non | some y => rep K F v y, fun {K F F' v x} e h => by
  cases x with
  | none => exact h
  | some y => exact Enc.mono (α := α) e h⟩
theorem sql_mono {K : PySem.W.Frag} {F F' : Hp} {a : Addr} {vs : List V} (e : Fle F F') (h : SqL K F a vs) : SqL K F' a vs := by
  rcases h with (h | ⟨o, h⟩) | h
  · exact .inl (.inl (e _ _ h))
  · exact .inl (.inr ⟨o, e _ _ h⟩)
  · exact .inr h
theorem sqt_mono {K : PySem.W.Frag} {F F' : Hp} {a : Addr} {vs : List V} (e : Fle F F') (h : SqT K F a vs) : SqT K F' a vs := by
  rcases h with (h | ⟨o, h⟩) | h
  · exact .inl (.inl (e _ _ h))
  · exact .inl (.inr ⟨o, e _ _ h⟩)
  · exact .inr h
def RepL {α : Type} [Enc α] (K : PySem.W.Frag) (F : Hp) (v : V) (xs : List α) : Prop := ∃ a vs, v = .ref a ∧ SqL K F a vs ∧ Reps K F vs xs
instance {α : Type} [Enc α] : Enc (List α) := ⟨RepL, fun e h => by
  obtain ⟨a, vs, rfl, h1, h2⟩ := h
  exact ⟨a, vs, rfl, sql_mono e h1, h2.mono e⟩⟩
structure T1 (α : Type) where
  a : α
deriving DecidableEq
structure T3 (α β γ : Type) where
  a : α
  b : β
  c : γ
deriving DecidableEq
structure T4 (α β γ δ : Type) where
  a : α
  b : β
  c : γ
  d : δ
deriving DecidableEq
structure T5 (α β γ δ ε : Type) where
  a : α
  b : β
  c : γ
  d : δ
  e : ε
deriving DecidableEq
structure Tu (α : Type) where
  l : List α
deriving DecidableEq
instance {α β : Type} [Enc α] [Enc β] : Enc (α × β) := ⟨fun K F v x => ∃ p v1 v2, v = .ref p ∧ SqT K F p [v1, v2] ∧ rep K F v1 x.1 ∧ rep K F v2 x.2, fun e h => by
  obtain ⟨p, v1, v2, rfl, h0, h1, h2⟩ := h
  exact ⟨p, v1, v2, rfl, sqt_mono e h0, Enc.mono e h1, Enc.mono e h2⟩⟩
instance {α : Type} [Enc α] : Enc (T1 α) := ⟨fun K F v x => ∃ p v1, v = .ref p ∧ SqT K F p [v1] ∧ rep K F v1 x.a, fun e h => by
  obtain ⟨p, v1, rfl, h0, h1⟩ := h
  exact ⟨p, v1, rfl, sqt_mono e h0, Enc.mono e h1⟩⟩
instance {α β γ : Type} [Enc α] [Enc β] [Enc γ] : Enc (T3 α β γ) := ⟨fun K F v x => ∃ p v1 v2 v3, v = .ref p ∧ SqT K F p [v1, v2, v3] ∧ rep K F v1 x.a ∧ rep K F v2 x.b ∧ rep K F v3 x.c, fun e h => by
  obtain ⟨p, v1, v2, v3, rfl, h0, h1, h2, h3⟩ := h
  exact ⟨p, v1, v2, v3, rfl, sqt_mono e h0, Enc.mono e h1, Enc.mono e h2, Enc.mono e h3⟩⟩
instance {α β γ δ : Type} [Enc α] [Enc β] [Enc γ] [Enc δ] : Enc (T4 α β γ δ) := ⟨fun K F v x => ∃ p v1 v2 v3 v4, v = .ref p ∧ SqT K F p [v1, v2, v3, v4] ∧ rep K F v1 x.a ∧ rep K F v2 x.b ∧ rep K F v3 x.c ∧ rep K F v4 x.d, fun e h => by
  obtain ⟨p, v1, v2, v3, v4, rfl, h0, h1, h2, h3, h4⟩ := h
  exact ⟨p, v1, v2, v3, v4, rfl, sqt_mono e h0, Enc.mono e h1, Enc.mono e h2, Enc.mono e h3, Enc.mono e h4⟩⟩
instance {α β γ δ ε : Type} [Enc α] [Enc β] [Enc γ] [Enc δ] [Enc ε] : Enc (T5 α β γ δ ε) := ⟨fun K F v x => ∃ p v1 v2 v3 v4 v5, v = .ref p ∧ SqT K F p [v1, v2, v3, v4, v5] ∧ rep K F v1 x.a ∧ rep K F v2 x.b ∧ rep K F v3 x.c ∧ rep K F v4 x.d ∧ rep K F v5 x.e, fun e h => by
  obtain ⟨p, v1, v2, v3, v4, v5, rfl, h0, h1, h2, h3, h4, h5⟩ := h
  exact ⟨p, v1, v2, v3, v4, v5, rfl, sqt_mono e h0, Enc.mono e h1, Enc.mono e h2, Enc.mono e h3, Enc.mono e h4, Enc.mono e h5⟩⟩
def RepT {α : Type} [Enc α] (K : PySem.W.Frag) (F : Hp) (v : V) (xs : List α) : Prop := ∃ a vs, v = .ref a ∧ SqT K F a vs ∧ Reps K F vs xs
instance {α : Type} [Enc α] : Enc (Tu α) := ⟨fun K F v x => RepT K F v x.l, fun e h => by
  obtain ⟨a, vs, rfl, h1, h2⟩ := h
  exact ⟨a, vs, rfl, sqt_mono e h1, h2.mono e⟩⟩
instance {α : Type} [Enc α] : Opn (List α) := ⟨fun h => by obtain ⟨_, _, e, _⟩ := h; cases e⟩
instance {α : Type} [Enc α] : Opn (Tu α) := ⟨fun h => by obtain ⟨_, _, e, _⟩ := h; cases e⟩
class Flat (α : Type) extends Enc α where
  toV : α → V
  iff : ∀ {K : PySem.W.Frag} {F : Hp} {v : V} {x : α}, rep K F v x ↔ v = toV x
  flat : ∀ x, flatV (toV x) = true
  inj : ∀ x y, eqV (toV x) (toV y) = true ↔ x = y
open Flat (toV)
instance : Flat Int := ⟨V.int, Iff.rfl, fun _ => rfl, fun x y => by show (x == y) = true ↔ _; simp⟩
instance : Flat Bool := ⟨V.bl, Iff.rfl, fun _ => rfl, fun x y => by show (x == y) = true ↔ _; simp⟩
instance : Flat Str := ⟨V.str, Iff.rfl, fun _ => rfl, fun x y => by show (x == y) = true ↔ _; simp⟩
instance : Flat (Option Int) := ⟨fun x => match x with | none => .non | some i => .int i, fun {K F v x} => by cases x <;> exact Iff.rfl, fun x => by cases x <;> rfl, fun x y => by
  cases x <;> cases y <;> simp [eqV]⟩
instance : Flat (Option Str) := ⟨fun x => match x with | none => .non | some i => .str i, fun {K F v x} => by cases x <;> exact Iff.rfl, fun x => by cases x <;> rfl, fun x y => by
  cases x <;> cases y <;> simp [eqV]⟩
section
variable {α : Type} [Flat α] {K : PySem.W.Frag} {F : Hp}
theorem Reps.flat : ∀ {vs : List V} {xs : List α}, Reps K F vs xs → vs = xs.map toV
  | [], [], _ => rfl
  | _ :: _, _ :: _, ⟨h, t⟩ => by rw [List.map_cons, ← Flat.iff.mp h, ← Reps.flat t]
  | [], _ :: _, h => h.elim
  | _ :: _, [], h => h.elim
theorem Reps.of_flat : ∀ (xs : List α), Reps K F (xs.map toV) xs
  | [] => trivial
  | _ :: xs => ⟨Flat.iff.mpr rfl, Reps.of_flat xs⟩
theorem flat_all (xs : List α) : (xs.map toV).all flatV = true := by
  rw [List.all_eq_true]
  intro v hv
  obtain ⟨x, _, rfl⟩ := List.mem_map.mp hv
  exact Flat.flat x
theorem inV_flat [DecidableEq α] (x : α) (xs : List α) : inV (toV x) (xs.map toV) = decide (x ∈ xs) := by
  rw [Bool.eq_iff_iff, decide_eq_true_eq]
  unfold inV
  rw [List.any_eq_true]
  constructor
  · rintro ⟨v, hv, e⟩
    obtain ⟨y, hy, rfl⟩ := List.mem_map.mp hv
    rw [Flat.inj] at e
    rw [← e]; exact hy
  · intro h
    exact ⟨_, List.mem_map.mpr ⟨x, h, rfl⟩, (Flat.inj x x).mpr rfl⟩
end
def nst : Expr → Bool
  | .Starred _ _ => false
  | _ => true
theorem star_cons {e : Expr} {es : List Expr} {env : Env} (h : nst e = true) : starEach (e :: es) env = (false, eval e env) :: starEach es env := by
  cases e <;> first | rfl | cases h
end Dy

namespace Dy
open PySem PySem.Spec L2
open PyProof.Rows hiding St
open Enc (rep)
open Flat (toV)

@[irreducible] def Hold (p : Prop) : Prop := p
theorem Hold.run {p : Prop} (h : Hold p) : p := by unfold Hold at h; exact h
theorem Hold.mk {p : Prop} (h : p) : Hold p := by unfold Hold; exact h
def WE (X : Cx) (e : Expr) : TE := fun σ H Q => Hold (∀ (pins : List (Addr × Obj)) (s : Shared), Inv X pins σ H s → wpAny (model X.prog X.w) X.A (eval e X.env) (EP X pins σ Q) X.xe s)
def WT (X : Cx) (e : Expr) : TT := fun σ H Q => Hold (∀ (pins : List (Addr × Obj)) (s : Shared), Inv X pins σ H s → wpAny (model X.prog X.w) X.A (isTrue e X.env (eval e X.env)) (TP X pins σ Q) X.xe s)
def WW (X : Cx) (e : Expr) : TT := fun σ H Q => Hold (∀ (whole : Sem Value) (pins : List (Addr × Obj)) (s : Shared), Inv X pins σ H s → wpAny (model X.prog X.w) X.A (isTrue e X.env whole) (TP X pins σ Q) X.xe s)
def WA (X : Cx) (es : List Expr) : TA := fun σ H Q => Hold (∀ (pos : Pos) (pins : List (Addr × Obj)) (s : Shared), Inv X pins σ H s → wpAny (model X.prog X.w) X.A (spliced (backTo pos (starEach es X.env))) (AP X pins σ Q) X.xe s)
def WSs (X : Cx) (ss : List Stmt) : TS := fun D σ H => Hold (∀ (pins : List (Addr × Obj)) (s : Shared), Inv X pins σ H s → wpAny (model X.prog X.w) X.A (execs ss X.env) (SP X pins D) X.xe s)
theorem pe_we {X : Cx} {e : Expr} : PE X e (WE X e) := ⟨fun pins s _ _ _ I h => Hold.run h pins s I⟩
theorem pt_wt {X : Cx} {e : Expr} : PT X e (WT X e) := ⟨fun pins s _ _ _ I h => Hold.run h pins s I⟩
theorem pw_ww {X : Cx} {e : Expr} : PW X e (WW X e) := ⟨fun whole pins s _ _ _ I h => Hold.run h whole pins s I⟩
theorem pa_wa {X : Cx} {es : List Expr} : PA X es (WA X es) := ⟨fun pos pins s _ _ _ I h => Hold.run h pos pins s I⟩
theorem pss_ws {X : Cx} {ss : List Stmt} : PSs X ss (WSs X ss) := ⟨fun pins s _ _ _ I h => Hold.run h pins s I⟩
theorem pe_im {X : Cx} {e : Expr} {t : TE} (h : ∀ σ H Q, t σ H Q → WE X e σ H Q) : PE X e t := ⟨fun pins s σ H Q I q => Hold.run (h σ H Q q) pins s I⟩
theorem pt_im {X : Cx} {e : Expr} {t : TT} (h : ∀ σ H Q, t σ H Q → WT X e σ H Q) : PT X e t := ⟨fun pins s σ H Q I q => Hold.run (h σ H Q q) pins s I⟩
theorem pss_im {X : Cx} {ss : List Stmt} {t : TS} (h : ∀ D σ H, t D σ H → WSs X ss D σ H) : PSs X ss t := ⟨fun pins s σ H D I q => Hold.run (h D σ H q) pins s I⟩
theorem we_of {X : Cx} {e : Expr} {t : TE} {σ : St} {H : Hp} {Q : VK} (h : PE X e t) (q : t σ H Q) : WE X e σ H Q := Hold.mk fun pins s I => h.run pins s σ H Q I q
theorem wt_of {X : Cx} {e : Expr} {t : TT} {σ : St} {H : Hp} {Q : Bool → Hp → Prop} (h : PT X e t) (q : t σ H Q) : WT X e σ H Q := Hold.mk fun pins s I => h.run pins s σ H Q I q
theorem ww_of {X : Cx} {e : Expr} {t : TT} {σ : St} {H : Hp} {Q : Bool → Hp → Prop} (h : PW X e t) (q : t σ H Q) : WW X e σ H Q := Hold.mk fun w pins s I => h.run w pins s σ H Q I q
theorem wa_of {X : Cx} {es : List Expr} {t : TA} {σ : St} {H : Hp} {Q : List V → Hp → Prop} (h : PA X es t) (q : t σ H Q) : WA X es σ H Q := Hold.mk fun pos pins s I => h.run pos pins s σ H Q I q
theorem ws_of {X : Cx} {ss : List Stmt} {t : TS} {D : Ends} {σ : St} {H : Hp} (h : PSs X ss t) (q : t D σ H) : WSs X ss D σ H := Hold.mk fun pins s I => h.run pins s σ H D I q
theorem WSs.imp {X : Cx} {ss : List Stmt} {D D' : Ends} {σ : St} {H : Hp} (h : WSs X ss D σ H) (h1 : ∀ σ H, D.nx σ H → D'.nx σ H) (h2 : ∀ v H, D.rt v H → D'.rt v H) (h3 : ∀ σ H, D.bk σ H → D'.bk σ H) (h4 : ∀ σ H, D.ct σ H → D'.ct σ H) : WSs X ss D' σ H := Hold.mk fun pins s I => thn (Hold.run h pins s I) fun f s1 q => by
  cases f with
  | next => obtain ⟨a, b, c, d⟩ := q; exact ⟨a, b, c, h1 _ _ d⟩
  | brk => obtain ⟨a, b, c, d⟩ := q; exact ⟨a, b, c, h3 _ _ d⟩
  | cont => obtain ⟨a, b, c, d⟩ := q; exact ⟨a, b, c, h4 _ _ d⟩
  | ret u => obtain ⟨a, b, c, d, e, f⟩ := q; exact ⟨a, b, c, d, e, h2 _ _ f⟩

section
variable {α β γ δ : Type} [Enc α] [Enc β] [Enc γ] [Enc δ]
def Ev (X : Cx) (e : Expr) (σ : St) (s : S) (x : α) : Prop := ∀ s1, Ex s s1 → ∀ Q : VK, (∀ v s2, Ex s1 s2 → rep X.K s2.F v x → Q v s2.H) → WE X e σ s1.H Q
def RepR (K : PySem.W.Frag) (s : S) (v : V) (xs : List α) : Prop := ∃ a vs, v = .ref a ∧ SqL K s.H a vs ∧ Reps K s.F vs xs
def EvR (X : Cx) (e : Expr) (σ : St) (s : S) (xs : List α) : Prop := ∀ s1, Ex s s1 → ∀ Q : VK, (∀ v s2, Ex s1 s2 → RepR X.K s2 v xs → Q v s2.H) → WE X e σ s1.H Q
def Own (K : PySem.W.Frag) (s : S) (p : Addr) (xs : List α) : Prop := s.F p = none ∧ ∃ vs, s.H p = some (.lst vs) ∧ Reps K s.F vs xs
def EvN (X : Cx) (e : Expr) (σ : St) (s : S) (xs : List α) : Prop := ∀ s1, Ex s s1 → ∀ Q : VK, (∀ p s2, Ex s1 s2 → s1.H p = none → Own X.K s2 p xs → Q (.ref p) s2.H) → WE X e σ s1.H Q
def EvT (X : Cx) (e : Expr) (σ : St) (s : S) (b : Bool) : Prop := ∀ s1, Ex s s1 → ∀ Q : Bool → Hp → Prop, (∀ s2, Ex s1 s2 → Q b s2.H) → WT X e σ s1.H Q
def EvW (X : Cx) (e : Expr) (σ : St) (s : S) (b : Bool) : Prop := ∀ s1, Ex s s1 → ∀ Q : Bool → Hp → Prop, (∀ s2, Ex s1 s2 → Q b s2.H) → WW X e σ s1.H Q
structure EvB (X : Cx) (e : Expr) (σ : St) (s : S) (b : Bool) : Prop where
  v : Ev X e σ s b
  t : EvT X e σ s b
structure EvC (X : Cx) (e : Expr) (σ : St) (s : S) (b : Bool) : Prop where
  v : Ev X e σ s b
  w : EvW X e σ s b
end
class EncA (A : Type) where
  repA : PySem.W.Frag → Hp → List V → A → Prop
  monoA : ∀ {K : PySem.W.Frag} {F F' : Hp} {vs : List V} {x : A}, Fle F F' → repA K F vs x → repA K F' vs x
open EncA (repA)
instance : EncA Unit := ⟨fun _ _ vs _ => vs = [], fun _ h => h⟩
instance {α A : Type} [Enc α] [EncA A] : EncA (α × A) := ⟨fun K F vs x => ∃ v r, vs = v :: r ∧ rep K F v x.1 ∧ repA K F r x.2, fun e h => by
  obtain ⟨v, r, rfl, h1, h2⟩ := h
  exact ⟨v, r, rfl, Enc.mono e h1, EncA.monoA e h2⟩⟩
def EvA {A : Type} [EncA A] (X : Cx) (es : List Expr) (σ : St) (s : S) (a : A) : Prop := ∀ s1, Ex s s1 → ∀ Q : List V → Hp → Prop, (∀ vs s2, Ex s1 s2 → repA X.K s2.F vs a → Q vs s2.H) → WA X es σ s1.H Q

section
variable {α β γ δ : Type} [Enc α] [Enc β] [Enc γ] [Enc δ] {X : Cx} {σ : St} {s t : S} {e a b c : Expr} {es : List Expr} {pos p0 p1 p2 p3 : Pos}
theorem Own.frz {K : PySem.W.Frag} {p : Addr} {xs : List α} (h : Own K s p xs) : ∃ s' : S, s'.H = s.H ∧ Fle s.F s'.F ∧ (∀ q, q ≠ p → s'.F q = s.F q) ∧ rep K s'.F (.ref p) xs := by
  obtain ⟨hn, vs, hp, r⟩ := h
  have f : Fle s.F (upd s.F p (.lst vs)) := fun a o q => by rw [upd_ne (ne_of_none q hn)]; exact q
  refine ⟨⟨upd s.F p (.lst vs), s.H, fun a o q => ?_⟩, rfl, f, fun q hq => upd_ne hq, p, vs, rfl, .inl (.inl upd_same), r.mono f⟩
  unfold upd at q
  split at q
  · rename_i e; cases q; rw [e]; exact hp
  · exact s.sub a o q
theorem Own.ex {K : PySem.W.Frag} {p : Addr} {xs : List α} (h : Own K s p xs) (e : Ex s t) : Own K t p xs := by
  obtain ⟨hn, vs, hp, r⟩ := h
  exact ⟨e.n _ _ hp hn, vs, e.h _ _ hp, r.mono e.f⟩
theorem Own.mx {K : PySem.W.Frag} {p : Addr} {P : Addr → Prop} {xs : List α} (h : Own K s p xs) (e : Mx P s t) (n : ¬ P p) : Own K t p xs := by
  obtain ⟨hn, vs, hp, r⟩ := h
  exact ⟨e.n _ _ hp hn, vs, e.h _ _ hp n, r.mono e.f⟩
theorem Own.ne {K : PySem.W.Frag} {p q : Addr} {xs : List α} (h : Own K s p xs) (n : s.H q = none) : p ≠ q := by
  obtain ⟨_, vs, hp, _⟩ := h
  exact ne_of_none hp n
theorem Own.r {K : PySem.W.Frag} {p : Addr} {xs : List α} (h : Own K s p xs) : RepR K s (.ref p) xs := by
  obtain ⟨hn, vs, hp, r⟩ := h
  exact ⟨p, vs, rfl, .inl (.inl hp), r⟩
theorem RepR.ex {K : PySem.W.Frag} {v : V} {xs : List α} (h : RepR K s v xs) (e : Ex s t) : RepR K t v xs := by
  obtain ⟨p, vs, rfl, h1, h2⟩ := h
  exact ⟨p, vs, rfl, sql_mono e.h h1, h2.mono e.f⟩
theorem rep_r {K : PySem.W.Frag} {v : V} {xs : List α} (h : rep K s.F v xs) : RepR K s v xs := by
  obtain ⟨p, vs, rfl, h1, h2⟩ := h
  exact ⟨p, vs, rfl, sql_mono s.sub h1, h2⟩
theorem Ev.mono {x : α} (h : Ev X e σ s x) (k : Ex s t) : Ev X e σ t x := fun s1 k1 Q q => h s1 (k.trans k1) Q q
theorem EvT.mono {x : Bool} (h : EvT X e σ s x) (k : Ex s t) : EvT X e σ t x := fun s1 k1 Q q => h s1 (k.trans k1) Q q
theorem Ev.r {xs : List α} (h : Ev X e σ s xs) : EvR X e σ s xs := fun s1 k Q q => h s1 k Q fun v s2 k2 r => q v s2 k2 (rep_r r)
theorem EvN.r {xs : List α} (h : EvN X e σ s xs) : EvR X e σ s xs := fun s1 k Q q => h s1 k Q fun p s2 k2 _ o => q (.ref p) s2 k2 o.r
theorem frz_ex {K : PySem.W.Frag} {p : Addr} {xs : List α} (k : Ex s t) (n : s.H p = none) (o : Own K t p xs) : ∃ t' : S, t'.H = t.H ∧ Ex s t' ∧ rep K t'.F (.ref p) xs := by
  obtain ⟨t', h1, h2, h3, h4⟩ := o.frz
  refine ⟨t', h1, ⟨k.f.trans h2, fun a u q => by rw [h1]; exact k.h a u q, fun a u q m => ?_⟩, h4⟩
  have : a ≠ p := ne_of_none q n
  rw [h3 a this]
  exact k.n a u q m
theorem EvN.ev {xs : List α} (h : EvN X e σ s xs) : Ev X e σ s xs := fun s1 k Q q => h s1 k Q fun p s2 k2 n o => by
  obtain ⟨t', h1, h2, h3⟩ := frz_ex k2 n o
  rw [← h1]
  exact q _ t' h2 h3
theorem ev_var (i : Nat) {v : V} {x : α} {n : Str} (h : σ[i]? = some (some v)) (r : rep X.K s.F v x) (hN : X.N[i]? = some n := by rfl) (hv : Vis X.env.scope n := by first | exact Or.inl rfl | exact Or.inr (Or.inl rfl) | exact Or.inr (Or.inr rfl)) (hd : (n == ("__debug__" : Str)) = false := by decide)
    (hcd : (n == ("__classdict__" : Str)) = false := by decide) : Ev X (.Name n pos) σ s x := fun s1 k Q q => we_of (pe_var hN hv hd hcd) ⟨v, h, q v s1 (Ex.refl _) (Enc.mono k.f r)⟩
theorem ev_int {i : Int} {j} : Ev X (.Constant (.int i) j pos) σ s i := fun s1 k Q q => we_of pe_int (q _ s1 (Ex.refl _) rfl)
theorem ev_bl {i : Bool} {j} : Ev X (.Constant (.bool i) j pos) σ s i := fun s1 k Q q => we_of pe_bl (q _ s1 (Ex.refl _) rfl)
theorem ev_str {i : Str} {j} : Ev X (.Constant (.str i) j pos) σ s i := fun s1 k Q q => we_of pe_str (q _ s1 (Ex.refl _) rfl)
theorem ev_non {j} : Ev X (.Constant .none j pos) σ s () := fun s1 k Q q => we_of pe_non (q _ s1 (Ex.refl _) rfl)
theorem ev_nonO {j} : Ev X (.Constant .none j pos) σ s (none : Option α) := fun s1 k Q q => we_of pe_non (q _ s1 (Ex.refl _) rfl)
theorem ev_some {x : α} (h : Ev X e σ s x) : Ev X e σ s (some x) := h
theorem ev_glob {n : Str} {x : α} (h : ∃ v u, X.mg n = some u ∧ RelV v u ∧ ∀ F, rep X.K F v x) (hg : Gl X n := by rfl) (hd : (n == ("__debug__" : Str)) = false := by decide) : Ev X (.Name n pos) σ s x := fun s1 k Q q => by
  obtain ⟨v, u, h1, h2, h3⟩ := h
  exact we_of (pe_glob hg h1 h2 hd) (q v s1 (Ex.refl _) (h3 _))

theorem ev_op {op : Operator} {r : R2} {x : α} {y : β} {z : γ} (ho : OpR X (binaryOp op) r) (ha : Ev X a σ s x) (hb : Ev X b σ s y)
    (hr : ∀ v u s2, rep X.K s2.F v x → rep X.K s2.F u y → ∀ Q : VK, (∀ v' s3, Ex s2 s3 → rep X.K s3.F v' z → Q v' s3.H) → r v u s2.H Q) : Ev X (.BinOp a op b pos) σ s z := fun s1 k Q q =>
  we_of (pe_op ho pe_we pe_we) (ha s1 k _ fun v s2 k2 r2 => hb s2 (k.trans k2) _ fun u s3 k3 r3 => hr v u s3 (Enc.mono k3.f r2) r3 Q fun w s4 k4 r4 => q w s4 ((k2.trans k3).trans k4) r4)
theorem ev_I0 {op : Operator} {g : Int → Int → V} {x y : Int} {z : γ} (ho : OpR X (binaryOp op) (rI0 g)) (ha : Ev X a σ s x) (hb : Ev X b σ s y) (hz : ∀ K F, rep K F (g x y) z) : Ev X (.BinOp a op b pos) σ s z :=
  ev_op ho ha hb fun v u s2 hv hu Q q => ⟨x, y, hv, hu, q _ s2 (Ex.refl _) (hz _ _)⟩
theorem ev_I {op : Operator} {C : Int → Int → Prop} {g : Int → Int → V} {x y : Int} {z : γ} (ho : OpR X (binaryOp op) (rI C g)) (ha : Ev X a σ s x) (hb : Ev X b σ s y) (hc : C x y) (hz : ∀ K F, rep K F (g x y) z) : Ev X (.BinOp a op b pos) σ s z :=
  ev_op ho ha hb fun v u s2 hv hu Q q => ⟨x, y, hv, hu, hc, q _ s2 (Ex.refl _) (hz _ _)⟩
theorem ev_add {x y : Int} (ha : Ev X a σ s x) (hb : Ev X b σ s y) : Ev X (.BinOp a .Add b pos) σ s (x + y) := ev_I0 op_add ha hb fun _ _ => rfl
theorem ev_sub {x y : Int} (ha : Ev X a σ s x) (hb : Ev X b σ s y) : Ev X (.BinOp a .Sub b pos) σ s (x - y) := ev_I0 op_sub ha hb fun _ _ => rfl
def MulOk (x y : Int) : Prop := CMul x y ∨ CMulW x y
theorem ev_mod {x y : Int} (ha : Ev X a σ s x) (hb : Ev X b σ s y) (hc : 0 < y) : Ev X (.BinOp a .Mod b pos) σ s (x % y) := ev_I op_mod ha hb hc fun _ _ => rfl
def DivOk (y : Int) : Prop := 0 < y ∧ y.natAbs.log2 < 9000
theorem ev_div {x y : Int} (ha : Ev X a σ s x) (hb : Ev X b σ s y) (hc : DivOk y) : Ev X (.BinOp a .FloorDiv b pos) σ s (x / y) := ev_I op_fdivW ha hb hc fun _ _ => rfl
theorem ev_pow {x y : Int} (ha : Ev X a σ s x) (hb : Ev X b σ s y) (hc : CPow x y) : Ev X (.BinOp a .Pow b pos) σ s (x ^ y.toNat) := ev_I op_pow ha hb hc fun _ _ => rfl
theorem ev_neg {x : Int} (ha : Ev X a σ s x) : Ev X (.UnaryOp .USub a pos) σ s (-x) := fun s1 k Q q =>
  we_of (pe_un un_neg pe_we) (ha s1 k _ fun v s2 k2 r2 => ⟨x, r2, q _ s2 k2 rfl⟩)

theorem atI_rep {K : PySem.W.Frag} {F : Hp} {vs : List V} {xs : List α} {i : Int} {x : α} (r : Reps K F vs xs) (h : atI xs i = some x) : ∃ v, atI vs i = some v ∧ rep K F v x := by
  unfold atI at h ⊢
  rw [r.len]
  cases hj : ixN xs.length i with
  | none => rw [hj] at h; cases h
  | some j =>
    rw [hj] at h
    obtain ⟨v, h1, h2⟩ := r.get (i := j) h
    exact ⟨v, h1, h2⟩
theorem ev_ix {xs : List α} {i : Int} {x : α} (ha : EvR X a σ s xs) (hb : Ev X b σ s i) (h : atI xs i = some x) (hp : PlainIx b := by intro _ _; rfl) : Ev X (.Subscript a b pos) σ s x := fun s1 k Q q =>
  we_of (pe_ix ix_list pe_we pe_we hp) (ha s1 k _ fun v s2 k2 r2 => hb s2 (k.trans k2) _ fun u s3 k3 r3 => by
    obtain ⟨p, vs, rfl, h1, h2⟩ := r2.ex k3
    obtain ⟨w, h3, h4⟩ := atI_rep h2 h
    exact ⟨p, vs, i, w, rfl, r3, h1, h3, q w s3 (k2.trans k3) h4⟩)
theorem ev_ixP {x : β} {i : Int} {y : α} (ha : Ev X a σ s x) (hb : Ev X b σ s i) (h : ∀ {F : Hp} {v : V}, rep X.K F v x → ∃ p vs w, v = .ref p ∧ SqT X.K F p vs ∧ atI vs i = some w ∧ rep X.K F w y) (hp : PlainIx b := by intro _ _; rfl) : Ev X (.Subscript a b pos) σ s y := fun s1 k Q q =>
  we_of (pe_ix ix_tup pe_we pe_we hp) (ha s1 k _ fun v s2 k2 r2 => hb s2 (k.trans k2) _ fun u s3 k3 r3 => by
    obtain ⟨p, vs, w, rfl, h1, h2, h3⟩ := h (Enc.mono k3.f r2)
    exact ⟨p, vs, i, w, rfl, r3, sqt_mono s3.sub h1, h2, q w s3 (k2.trans k3) h3⟩)
theorem p3_0 {K : PySem.W.Frag} {x : T3 α β γ} {F : Hp} {v : V} (h : rep K F v x) : ∃ p vs w, v = .ref p ∧ SqT K F p vs ∧ atI vs 0 = some w ∧ rep K F w x.a := by
  obtain ⟨p, v1, v2, v3, rfl, h0, h1, h2, h3⟩ := h
  exact ⟨p, _, v1, rfl, h0, rfl, h1⟩
theorem p3_1 {K : PySem.W.Frag} {x : T3 α β γ} {F : Hp} {v : V} (h : rep K F v x) : ∃ p vs w, v = .ref p ∧ SqT K F p vs ∧ atI vs 1 = some w ∧ rep K F w x.b := by
  obtain ⟨p, v1, v2, v3, rfl, h0, h1, h2, h3⟩ := h
  exact ⟨p, _, v2, rfl, h0, rfl, h2⟩
theorem p3_2 {K : PySem.W.Frag} {x : T3 α β γ} {F : Hp} {v : V} (h : rep K F v x) : ∃ p vs w, v = .ref p ∧ SqT K F p vs ∧ atI vs 2 = some w ∧ rep K F w x.c := by
  obtain ⟨p, v1, v2, v3, rfl, h0, h1, h2, h3⟩ := h
  exact ⟨p, _, v3, rfl, h0, rfl, h3⟩
def sgn (x : Str) (i : Int) : Option Str := if x.length ≤ sizeLine then (atI x.cps.toList i).map fun c => ⟨#[c]⟩ else none
end
end Dy

namespace Dy
open PySem PySem.Spec L2
open PyProof.Rows hiding St
open Enc (rep)
open Flat (toV)
open EncA (repA)

section
variable {α β γ δ : Type} [Enc α] [Enc β] [Enc γ] [Enc δ] {X : Cx} {σ : St} {s t : S} {e a b c : Expr} {es : List Expr} {pos p0 p1 p2 p3 : Pos}

theorem et_v {x : Bool} (h : Ev X e σ s x) (he : ∀ whole, isTrue e X.env whole = (do let v ← whole; standAt e.pos; holding [v] (truthy v)) := by intro _; rfl) : EvT X e σ s x := fun s1 k Q q =>
  wt_of (pt_val pe_we he) (h s1 k _ fun v s2 k2 r => ⟨x, r, q s2 k2⟩)
theorem eb_v {x : Bool} (h : Ev X e σ s x) (he : ∀ whole, isTrue e X.env whole = (do let v ← whole; standAt e.pos; holding [v] (truthy v)) := by intro _; rfl) : EvB X e σ s x := ⟨h, et_v h he⟩
theorem EvW.tt {x : Bool} (h : EvW X e σ s x) : EvT X e σ s x := fun s1 k Q q => wt_of pw_ww.pt (h s1 k Q q)
theorem EvC.bb {x : Bool} (h : EvC X e σ s x) : EvB X e σ s x := ⟨h.v, h.w.tt⟩
theorem ec_or1 {x : Bool} (h : EvB X a σ s x) : EvC X (.BoolOp .Or [a] pos) σ s x :=
  ⟨fun s1 k Q q => we_of (pe_one pe_we) (h.v s1 k Q q), fun s1 k Q q => ww_of (pw_or1 pt_wt) (h.t s1 k Q q)⟩
theorem ec_or {x y : Bool} (h : EvB X a σ s x) (h2 : x = false → EvC X (.BoolOp .Or (b :: es) pos) σ s y) : EvC X (.BoolOp .Or (a :: b :: es) pos) σ s (x || y) :=
  ⟨fun s1 k Q q => we_of (pe_or pe_we pe_we) (h.v s1 k _ fun v s2 k2 r => ⟨x, r, by
    cases x with
    | true => exact iteT (q _ s2 k2 rfl)
    | false => exact iteF ((h2 rfl).v s2 (k.trans k2) Q fun v s3 k3 r3 => q v s3 (k2.trans k3) r3)⟩),
   fun s1 k Q q => ww_of (pw_or pt_wt pw_ww) (h.t s1 k _ fun s2 k2 => by
    cases x with
    | true => exact iteT (q s2 k2)
    | false => exact iteF ((h2 rfl).w s2 (k.trans k2) Q fun s3 k3 => q s3 (k2.trans k3)))⟩
theorem eb_not {x : Bool} (h : EvB X a σ s x) : EvB X (.UnaryOp .Not a pos) σ s (!x) :=
  ⟨fun s1 k Q q => we_of (pe_not pe_we) (h.v s1 k _ fun v s2 k2 r => ⟨x, r, q _ s2 k2 rfl⟩), fun s1 k Q q => wt_of (pt_not pt_wt) (h.t s1 k _ fun s2 k2 => q s2 k2)⟩
theorem eb_cmp {op : CmpOp} {r : R2} {x : α} {y : β} {z : Bool} (ho : OpR X (compareOp op) r) (ha : Ev X a σ s x) (hb : Ev X b σ s y)
    (hr : ∀ (v u : V) (s2 : S), rep X.K s2.F v x → rep X.K s2.F u y → ∀ Q : VK, Q (.bl z) s2.H → r v u s2.H Q) (hm : behindInMarks op b = false) : EvB X (.Compare a [op] [b] pos) σ s z :=
  ⟨fun s1 k Q q => we_of (pe_cmpR ho pe_we pe_we hm) (ha s1 k _ fun v s2 k2 r2 => hb s2 (k.trans k2) _ fun u s3 k3 r3 => hr v u s3 (Enc.mono k3.f r2) r3 Q (q _ s3 (k2.trans k3) rfl)),
   fun s1 k Q q => wt_of (pt_cmpR ho pe_we pe_we hm) (ha s1 k _ fun v s2 k2 r2 => hb s2 (k.trans k2) _ fun u s3 k3 r3 => hr v u s3 (Enc.mono k3.f r2) r3 _ ⟨z, rfl, q s3 (k2.trans k3)⟩)⟩
theorem eb_cmpR {op : CmpOp} {r : R2} {x : α} {ys : List β} {z : Bool} (ho : OpR X (compareOp op) r) (ha : Ev X a σ s x) (hb : EvR X b σ s ys)
    (hr : ∀ (v u : V) (s2 : S), rep X.K s2.F v x → RepR X.K s2 u ys → ∀ Q : VK, Q (.bl z) s2.H → r v u s2.H Q) (hm : behindInMarks op b = false) : EvB X (.Compare a [op] [b] pos) σ s z :=
  ⟨fun s1 k Q q => we_of (pe_cmpR ho pe_we pe_we hm) (ha s1 k _ fun v s2 k2 r2 => hb s2 (k.trans k2) _ fun u s3 k3 r3 => hr v u s3 (Enc.mono k3.f r2) r3 Q (q _ s3 (k2.trans k3) rfl)),
   fun s1 k Q q => wt_of (pt_cmpR ho pe_we pe_we hm) (ha s1 k _ fun v s2 k2 r2 => hb s2 (k.trans k2) _ fun u s3 k3 r3 => hr v u s3 (Enc.mono k3.f r2) r3 _ ⟨z, rfl, q s3 (k2.trans k3)⟩)⟩
theorem eb_cmpRR {op : CmpOp} {r : R2} {xs : List α} {ys : List β} {z : Bool} (ho : OpR X (compareOp op) r) (ha : EvR X a σ s xs) (hb : EvR X b σ s ys)
    (hr : ∀ (v u : V) (s2 : S), RepR X.K s2 v xs → RepR X.K s2 u ys → ∀ Q : VK, Q (.bl z) s2.H → r v u s2.H Q) (hm : behindInMarks op b = false) : EvB X (.Compare a [op] [b] pos) σ s z :=
  ⟨fun s1 k Q q => we_of (pe_cmpR ho pe_we pe_we hm) (ha s1 k _ fun v s2 k2 r2 => hb s2 (k.trans k2) _ fun u s3 k3 r3 => hr v u s3 (r2.ex k3) r3 Q (q _ s3 (k2.trans k3) rfl)),
   fun s1 k Q q => wt_of (pt_cmpR ho pe_we pe_we hm) (ha s1 k _ fun v s2 k2 r2 => hb s2 (k.trans k2) _ fun u s3 k3 r3 => hr v u s3 (r2.ex k3) r3 _ ⟨z, rfl, q s3 (k2.trans k3)⟩)⟩
theorem eb_I0 {op : CmpOp} {g : Int → Int → V} {x y : Int} {z : Bool} (ho : OpR X (compareOp op) (rI0 g)) (hg : g x y = .bl z) (hm : behindInMarks op b = false) (ha : Ev X a σ s x) (hb : Ev X b σ s y) : EvB X (.Compare a [op] [b] pos) σ s z :=
  eb_cmp ho ha hb (fun v u s2 hv hu Q q => ⟨x, y, hv, hu, by rw [hg]; exact q⟩) hm
theorem eb_lt {x y : Int} (ha : Ev X a σ s x) (hb : Ev X b σ s y) : EvB X (.Compare a [.Lt] [b] pos) σ s (decide (x < y)) := eb_I0 op_lt rfl (nomark _) ha hb
theorem eb_gt {x y : Int} (ha : Ev X a σ s x) (hb : Ev X b σ s y) : EvB X (.Compare a [.Gt] [b] pos) σ s (decide (y < x)) := eb_I0 op_gt rfl (nomark _) ha hb
theorem eb_ge {x y : Int} (ha : Ev X a σ s x) (hb : Ev X b σ s y) : EvB X (.Compare a [.GtE] [b] pos) σ s (decide (y ≤ x)) := eb_I0 op_ge rfl (nomark _) ha hb
class Eqs (α : Type) extends Flat α where
  sc : ∀ x y : α, scal (toV x) (toV y) = true
  ij : ∀ x y : α, toV x = toV y ↔ x = y
instance : Eqs Int := { sc := fun _ _ => rfl, ij := fun x y => by show V.int x = V.int y ↔ _; simp }
instance : Eqs Bool := { sc := fun _ _ => rfl, ij := fun x y => by show V.bl x = V.bl y ↔ _; simp }
instance : Eqs Str := { sc := fun _ _ => rfl, ij := fun x y => by show V.str x = V.str y ↔ _; simp }
theorem eb_eq {ε : Type} [Eqs ε] [DecidableEq ε] {x y : ε} (ha : Ev X a σ s x) (hb : Ev X b σ s y) : EvB X (.Compare a [.Eq] [b] pos) σ s (decide (x = y)) :=
  eb_cmp op_eq ha hb (fun v u s2 hv hu Q q => by
    rw [Flat.iff.mp hv, Flat.iff.mp hu]
    refine ⟨Eqs.sc x y, ?_⟩
    rw [show decide (toV x = toV y) = decide (x = y) from decide_eq_decide.mpr (Eqs.ij x y)]
    exact q) (nomark _)
theorem eb_ne {ε : Type} [Eqs ε] [DecidableEq ε] {x y : ε} (ha : Ev X a σ s x) (hb : Ev X b σ s y) : EvB X (.Compare a [.NotEq] [b] pos) σ s (!decide (x = y)) :=
  eb_cmp op_ne ha hb (fun v u s2 hv hu Q q => by
    rw [Flat.iff.mp hv, Flat.iff.mp hu]
    refine ⟨Eqs.sc x y, ?_⟩
    rw [show decide (toV x = toV y) = decide (x = y) from decide_eq_decide.mpr (Eqs.ij x y)]
    exact q) (nomark _)
theorem eb_isN {o : Type} [Opn o] {x : Option o} {j} (ha : Ev X a σ s x) : EvB X (.Compare a [.Is] [.Constant .none j p1] pos) σ s x.isNone :=
  eb_cmp op_isN ha ev_non (fun v u s2 hv hu Q q => by
    refine ⟨hu, ?_⟩
    have : decide (v = V.non) = x.isNone := by
      cases x with
      | none => cases (show v = V.non from hv); rfl
      | some y => exact decide_eq_false fun z => Opn.notNon (z ▸ (show rep X.K s2.F v y from hv))
    rw [this]; exact q) (nomark _)
theorem eb_notN {o : Type} [Opn o] {x : Option o} {j} (ha : Ev X a σ s x) : EvB X (.Compare a [.IsNot] [.Constant .none j p1] pos) σ s x.isSome :=
  eb_cmp op_notN ha ev_non (fun v u s2 hv hu Q q => by
    refine ⟨hu, ?_⟩
    have : (!decide (v = V.non)) = x.isSome := by
      cases x with
      | none => cases (show v = V.non from hv); rfl
      | some y => rw [decide_eq_false fun z => Opn.notNon (z ▸ (show rep X.K s2.F v y from hv))]; rfl
    rw [this]; exact q) (nomark _)
theorem eb_notIn {ε : Type} [Eqs ε] [DecidableEq ε] {x : ε} {xs : List ε} (ha : Ev X a σ s x) (hb : EvR X b σ s xs) (hm : behindInMarks .NotIn b = false := by rfl) : EvB X (.Compare a [.NotIn] [b] pos) σ s (!decide (x ∈ xs)) :=
  eb_cmpR op_notIn_seq ha hb (fun v u s2 hv hu Q q => by
    obtain ⟨p, vs, rfl, h1, h2⟩ := hu
    rw [Flat.iff.mp hv]
    obtain rfl := h2.flat
    refine ⟨p, _, rfl, .inl h1, Flat.flat x, flat_all xs, ?_⟩
    rw [inV_flat]; exact q) hm
def inS (x y : Str) : Bool := !(Builtin.Str.occurrences y x 0 y.length 1).isEmpty
theorem eb_notInS {x y : Str} (ha : Ev X a σ s x) (hb : Ev X b σ s y) (hm : behindInMarks .NotIn b = false := by rfl) : EvB X (.Compare a [.NotIn] [b] pos) σ s (!inS x y) :=
  eb_cmp op_notIn_str ha hb (fun v u s2 hv hu Q q => ⟨x, y, hv, hu, q⟩) hm
theorem ea_nil : EvA X [] σ s () := fun s1 k Q q => wa_of pa_nil (q [] s1 (Ex.refl _) rfl)
theorem ea_cons {A : Type} [EncA A] {x : α} {r : A} (h : Ev X e σ s x) (hr : EvA X es σ s r) (hs : starEach (e :: es) X.env = (false, eval e X.env) :: starEach es X.env := by exact star_cons rfl) : EvA X (e :: es) σ s (x, r) := fun s1 k Q q =>
  wa_of (pa_cons pe_we pa_wa hs) (h s1 k _ fun v s2 k2 r2 => hr s2 (k.trans k2) _ fun vs s3 k3 r3 => q _ s3 (k2.trans k3) ⟨v, vs, rfl, Enc.mono k3.f r2, r3⟩)
theorem ev_B1 {id : String} {n : Str} {r : List V → Hp → VK → Prop} {x : β} {y : α} (hc : CallR X (.builtin id) r) (hg : Gl X n) (hm : X.mg n = none) (hv : bootBuiltins n = some (.builtin id)) (ha : Ev X e σ s x)
    (hr : ∀ (v : V) (s2 : S), rep X.K s2.F v x → ∀ Q : VK, (∀ w s3, Ex s2 s3 → rep X.K s3.F w y → Q w s3.H) → r [v] s2.H Q) (hn : n ≠ "__name__" := by decide) (hdb : (n == ("__debug__" : Str)) = false := by decide)
    (he : starEach [e] X.env = (false, eval e X.env) :: starEach [] X.env := by rfl) (hpl : (backTo pos (starEach [] X.env)).any (·.1) = false := by rfl) : Ev X (.Call (.Name n p0) [e] [] pos) σ s y := fun s1 k Q q =>
  we_of (pe_callB hc hg hm hv (pa_cons pe_we pa_nil he) hn hdb he hpl) (ha s1 k _ fun v s2 k2 r2 => hr v s2 r2 Q fun w s3 k3 r3 => q w s3 (k2.trans k3) r3)
theorem ev_BR {id : String} {n : Str} {r : List V → Hp → VK → Prop} {xs : List β} {y : α} (hc : CallR X (.builtin id) r) (hg : Gl X n) (hm : X.mg n = none) (hv : bootBuiltins n = some (.builtin id)) (ha : EvR X e σ s xs)
    (hr : ∀ (v : V) (s2 : S), RepR X.K s2 v xs → ∀ Q : VK, (∀ w s3, Ex s2 s3 → rep X.K s3.F w y → Q w s3.H) → r [v] s2.H Q) (hn : n ≠ "__name__" := by decide) (hdb : (n == ("__debug__" : Str)) = false := by decide)
    (he : starEach [e] X.env = (false, eval e X.env) :: starEach [] X.env := by rfl) (hpl : (backTo pos (starEach [] X.env)).any (·.1) = false := by rfl) : Ev X (.Call (.Name n p0) [e] [] pos) σ s y := fun s1 k Q q =>
  we_of (pe_callB hc hg hm hv (pa_cons pe_we pa_nil he) hn hdb he hpl) (ha s1 k _ fun v s2 k2 r2 => hr v s2 r2 Q fun w s3 k3 r3 => q w s3 (k2.trans k3) r3)
theorem ev_len {xs : List β} (hm : X.mg "len" = none) (ha : EvR X e σ s xs) (hg : Gl X "len" := by rfl) (he : starEach [e] X.env = (false, eval e X.env) :: starEach [] X.env := by rfl) (hpl : (backTo pos (starEach [] X.env)).any (·.1) = false := by rfl) : Ev X (.Call (.Name "len" p0) [e] [] pos) σ s (xs.length : Int) :=
  ev_BR call_len_seq hg hm boot_len ha (fun v s2 r2 Q q => by
    obtain ⟨p, vs, rfl, h1, h2⟩ := r2
    exact ⟨p, vs, rfl, .inl h1, q _ s2 (Ex.refl _) (by rw [h2.len]; rfl)⟩) (he := he) (hpl := hpl)
theorem ev_lenS {x : Str} (hm : X.mg "len" = none) (hz : x.length ≤ sizeLine) (ha : Ev X e σ s x) (hg : Gl X "len" := by rfl) (he : starEach [e] X.env = (false, eval e X.env) :: starEach [] X.env := by rfl) (hpl : (backTo pos (starEach [] X.env)).any (·.1) = false := by rfl) : Ev X (.Call (.Name "len" p0) [e] [] pos) σ s (x.length : Int) :=
  ev_B1 call_len_str hg hm boot_len ha (fun v s2 r2 Q q => ⟨x, by rw [show v = V.str x from r2], hz, q _ s2 (Ex.refl _) rfl⟩) (he := he) (hpl := hpl)
theorem ev_sum {xs : List Int} (hm : X.mg "sum" = none) (ha : EvR X e σ s xs) (hc : X.calm = true := by rfl) (hg : Gl X "sum" := by rfl) (he : starEach [e] X.env = (false, eval e X.env) :: starEach [] X.env := by rfl) (hpl : (backTo pos (starEach [] X.env)).any (·.1) = false := by rfl) : Ev X (.Call (.Name "sum" p0) [e] [] pos) σ s xs.sum :=
  ev_BR (cr_sum hc) hg hm (by decide +kernel) ha (fun v s2 r2 Q q => by
    obtain ⟨p, vs, rfl, h1, h2⟩ := r2
    rw [h2.flat] at h1
    exact ⟨p, xs, rfl, h1, q _ s2 (Ex.refl _) rfl⟩) (he := he) (hpl := hpl)
theorem ev_all {xs : List Bool} (hm : X.mg "all" = none) (ha : EvR X e σ s xs) (hc : X.calm = true := by rfl) (hg : Gl X "all" := by rfl) (he : starEach [e] X.env = (false, eval e X.env) :: starEach [] X.env := by rfl) (hpl : (backTo pos (starEach [] X.env)).any (·.1) = false := by rfl) : Ev X (.Call (.Name "all" p0) [e] [] pos) σ s (xs.all id) :=
  ev_BR (cr_all hc) hg hm (by decide +kernel) ha (fun v s2 r2 Q q => by
    obtain ⟨p, vs, rfl, h1, h2⟩ := r2
    rw [h2.flat] at h1
    exact ⟨p, xs, rfl, h1, q _ s2 (Ex.refl _) rfl⟩) (he := he) (hpl := hpl)
def minL : List Int → Option Int
  | [] => none
  | x :: xs => some (xs.foldl min x)
def maxL : List Int → Option Int
  | [] => none
  | x :: xs => some (xs.foldl max x)
theorem foldl_min (xs : List Int) : ∀ x : Int, (xs.foldl min x ∈ x :: xs) ∧ ∀ y ∈ x :: xs, xs.foldl min x ≤ y := by
  induction xs with
  | nil => intro x; exact ⟨by simp, fun y hy => by simp at hy; simp [hy]⟩
  | cons a r ih =>
    intro x
    obtain ⟨h1, h2⟩ := ih (min x a)
    refine ⟨?_, fun y hy => ?_⟩
    · rw [List.foldl_cons]
      rcases List.mem_cons.mp h1 with h | h
      · rw [h]
        by_cases hx : x ≤ a
        · rw [Int.min_eq_left hx]; exact List.mem_cons_self
        · rw [Int.min_eq_right (by omega)]; exact List.mem_cons_of_mem _ List.mem_cons_self
      · exact List.mem_cons_of_mem _ (List.mem_cons_of_mem _ h)
    · rw [List.foldl_cons]
      have h3 := h2 (min x a) List.mem_cons_self
      rcases List.mem_cons.mp hy with rfl | hy
      · exact Int.le_trans h3 (Int.min_le_left _ _)
      · rcases List.mem_cons.mp hy with rfl | hy
        · exact Int.le_trans h3 (Int.min_le_right _ _)
        · exact h2 y (List.mem_cons_of_mem _ hy)
theorem minL_of {xs : List Int} {m : Int} (h1 : m ∈ xs) (h2 : ∀ y ∈ xs, m ≤ y) : minL xs = some m := by
  cases xs with
  | nil => simp at h1
  | cons x r =>
    obtain ⟨h3, h4⟩ := foldl_min r x
    exact congrArg some (Int.le_antisymm (h4 m h1) (h2 _ h3))
theorem ev_min {xs : List Int} {m : Int} (hm : X.mg "min" = none) (ha : EvR X e σ s xs) (h : minL xs = some m) (hc : X.calm = true := by rfl) (hg : Gl X "min" := by rfl) (he : starEach [e] X.env = (false, eval e X.env) :: starEach [] X.env := by rfl) (hpl : (backTo pos (starEach [] X.env)).any (·.1) = false := by rfl) : Ev X (.Call (.Name "min" p0) [e] [] pos) σ s m :=
  ev_BR (cr_min hc) hg hm (by decide +kernel) ha (fun v s2 r2 Q q => by
    obtain ⟨p, vs, rfl, h1, h2⟩ := r2
    rw [h2.flat] at h1
    refine ⟨p, xs, rfl, h1, ?_, fun z hz1 hz2 => ?_⟩
    · cases xs with
      | nil => cases h
      | cons _ _ => exact Nat.succ_pos _
    · rw [minL_of hz1 hz2] at h
      cases h
      exact q _ s2 (Ex.refl _) rfl) (he := he) (hpl := hpl)
theorem ev_max2 {x y : Int} (hm : X.mg "max" = none) (ha : Ev X a σ s x) (hb : Ev X b σ s y) (hc : X.calm = true := by rfl) (hg : Gl X "max" := by rfl) (he : starEach [a, b] X.env = (false, eval a X.env) :: starEach [b] X.env := by rfl) (he2 : starEach [b] X.env = (false, eval b X.env) :: starEach [] X.env := by rfl) (hpl : (backTo pos (starEach [b] X.env)).any (·.1) = false := by rfl) : Ev X (.Call (.Name "max" p0) [a, b] [] pos) σ s (max x y) := fun s1 k Q q =>
  we_of (pe_callB (call_max2 hc) hg hm (by decide +kernel) (pa_cons pe_we (pa_cons pe_we pa_nil he2) he) (he := he) (hpl := hpl)) (ha s1 k _ fun v s2 k2 r2 => hb s2 (k.trans k2) _ fun u s3 k3 r3 =>
    ⟨x, y, by rw [show v = V.int x from r2, show u = V.int y from r3], q _ s3 (k2.trans k3) (by
      show V.int _ = V.int _
      by_cases h : y > x
      · rw [if_pos h, Int.max_eq_right (by omega)]
      · rw [if_neg h, Int.max_eq_left (by omega)])⟩)
end
end Dy

namespace Dy
open PySem PySem.Spec L2
open PyProof.Rows hiding St
open Enc (rep)
open Flat (toV)
open EncA (repA)

section
variable {α β γ δ ζ : Type} [Enc α] [Enc β] [Enc γ] [Enc δ] [Enc ζ] {X : Cx} {σ : St} {s t : S} {e a b c : Expr} {es : List Expr} {pos p0 p1 p2 p3 : Pos}

def EvE (X : Cx) (es : List Expr) (σ : St) (s : S) (xs : List α) : Prop := ∀ s1, Ex s s1 → ∀ Q : List V → Hp → Prop, (∀ vs s2, Ex s1 s2 → Reps X.K s2.F vs xs → Q vs s2.H) → WA X es σ s1.H Q
theorem ee_nil : EvE X [] σ s ([] : List α) := fun s1 k Q q => wa_of pa_nil (q [] s1 (Ex.refl _) trivial)
theorem ee_cons {x : α} {xs : List α} (h : Ev X e σ s x) (hr : EvE X es σ s xs) (hs : starEach (e :: es) X.env = (false, eval e X.env) :: starEach es X.env := by exact star_cons rfl) : EvE X (e :: es) σ s (x :: xs) := fun s1 k Q q =>
  wa_of (pa_cons pe_we pa_wa hs) (h s1 k _ fun v s2 k2 r2 => hr s2 (k.trans k2) _ fun vs s3 k3 r3 => q _ s3 (k2.trans k3) ⟨Enc.mono k3.f r2, r3⟩)
theorem own_new {K : PySem.W.Frag} {p : Addr} {vs : List V} {xs : List α} (h : s.H p = none) (r : Reps K s.F vs xs) : Own K (s.newO p (.lst vs) h) p xs := ⟨(fF h : s.F p = none), vs, upd_same, r⟩
theorem en_list {xs : List α} (h : EvE X es σ s xs) (hz : xs.length ≤ sizeLine := by decide) : EvN X (.List es pos) σ s xs := fun s1 k Q q =>
  we_of (pe_lst pa_wa) (h s1 k _ fun vs s2 k2 r2 => ⟨by rw [r2.len]; exact hz, fun p hp => q p (s2.newO p (.lst vs) hp) (k2.trans (Ex.newO hp)) (fr_back k2 hp) (own_new hp r2)⟩)
theorem tup_new {K : PySem.W.Frag} {p : Addr} {vs : List V} (h : s.H p = none) : SqT K (s.newF p (.tup vs) h).F p vs := .inl (.inl upd_same)
theorem ev_tu {xs : List α} (h : EvE X es σ s xs) (hz : xs.length ≤ sizeLine := by decide) {n} : Ev X (.Tuple es n pos) σ s (⟨xs⟩ : Tu α) := fun s1 k Q q =>
  we_of (pe_tup pa_wa) (h s1 k _ fun vs s2 k2 r2 => ⟨by rw [r2.len]; exact hz, fun p hp => q _ (s2.newF p (.tup vs) hp) (k2.trans (Ex.newF hp)) ⟨p, vs, rfl, tup_new hp, r2.mono (Ex.newF hp).f⟩⟩)
theorem ev_t2 {x : α} {y : β} {n} (h : EvA X es σ s (x, y, ())) : Ev X (.Tuple es n pos) σ s (x, y) := fun s1 k Q q =>
  we_of (pe_tup pa_wa) (h s1 k _ fun vs s2 k2 r2 => by
    obtain ⟨v1, _, rfl, r1, v2, _, rfl, r2, rfl⟩ := r2
    refine ⟨show _ ≤ 2 ^ 24 by simp, fun p hp => q _ (s2.newF p _ hp) (k2.trans (Ex.newF hp)) ⟨p, v1, v2, rfl, tup_new hp, Enc.mono (Ex.newF hp).f r1, Enc.mono (Ex.newF hp).f r2⟩⟩)
theorem ev_t3 {x : α} {y : β} {z : γ} {n} (h : EvA X es σ s (x, y, z, ())) : Ev X (.Tuple es n pos) σ s (⟨x, y, z⟩ : T3 α β γ) := fun s1 k Q q =>
  we_of (pe_tup pa_wa) (h s1 k _ fun vs s2 k2 r2 => by
    obtain ⟨v1, _, rfl, r1, v2, _, rfl, r2, v3, _, rfl, r3, rfl⟩ := r2
    refine ⟨show _ ≤ 2 ^ 24 by simp, fun p hp => q _ (s2.newF p _ hp) (k2.trans (Ex.newF hp)) ⟨p, v1, v2, v3, rfl, tup_new hp, Enc.mono (Ex.newF hp).f r1, Enc.mono (Ex.newF hp).f r2, Enc.mono (Ex.newF hp).f r3⟩⟩)
theorem en_T1 {n : Str} {T : String} {r : List V → Hp → VK → Prop} {xs : List β} {ys : List α} (hc : CallR X (.type T) r) (hg : Gl X n) (hm : X.mg n = none) (hv : bootBuiltins n = some (.type T)) (ha : EvR X e σ s xs)
    (hr : ∀ (v : V) (s2 : S), RepR X.K s2 v xs → ∀ Q : VK, (∀ p s3, Ex s2 s3 → s2.H p = none → Own X.K s3 p ys → Q (.ref p) s3.H) → r [v] s2.H Q) (hn : n ≠ "__name__" := by decide) (hdb : (n == ("__debug__" : Str)) = false := by decide)
    (he : starEach [e] X.env = (false, eval e X.env) :: starEach [] X.env := by rfl) (hpl : (backTo pos (starEach [] X.env)).any (·.1) = false := by rfl) : EvN X (.Call (.Name n p0) [e] [] pos) σ s ys := fun s1 k Q q =>
  we_of (pe_callTy hc hg hm hv (pa_cons pe_we pa_nil he) hn hdb he hpl) (ha s1 k _ fun v s2 k2 r2 => hr v s2 r2 Q fun w s3 k3 n3 r3 => q w s3 (k2.trans k3) (fr_back k2 n3) r3)
theorem en_copy {xs : List α} (hm : X.mg "list" = none) (ha : EvR X e σ s xs) (hg : Gl X "list" := by rfl) (he : starEach [e] X.env = (false, eval e X.env) :: starEach [] X.env := by rfl) (hpl : (backTo pos (starEach [] X.env)).any (·.1) = false := by rfl) : EvN X (.Call (.Name "list" p0) [e] [] pos) σ s xs :=
  en_T1 call_list_of hg hm (by decide +kernel) ha (fun v s2 r2 Q q => by
    obtain ⟨p, vs, rfl, h1, h2⟩ := r2
    exact ⟨p, vs, rfl, .inl h1, fun l hl => q l (s2.newO l _ hl) (Ex.newO hl) hl (own_new hl h2)⟩) (he := he) (hpl := hpl)
def rng (a b : Int) : List Int := (List.range (b - a).toNat).map fun i : Nat => a + (i : Int)
theorem rgV_rng (a b : Int) : rgV a b = (rng a b).map V.int := by
  unfold rgV rng
  rw [List.map_map]; rfl
theorem en_listRg1 {n : Int} (hm : X.mg "list" = none) (hr : X.mg "range" = none) (ha : Ev X e σ s n) (hz : RgOk 0 n) (hc : X.calm = true := by rfl) (hg : Gl X "list" := by rfl) (hgr : Gl X "range" := by rfl)
    (he : starEach [e] X.env = (false, eval e X.env) :: starEach [] X.env := by rfl) (he2 : starEach [.Call (.Name "range" p1) [e] [] p2] X.env = (false, eval (.Call (.Name "range" p1) [e] [] p2) X.env) :: starEach [] X.env := by rfl) :
    EvN X (.Call (.Name "list" p0) [.Call (.Name "range" p1) [e] [] p2] [] pos) σ s (rng 0 n) := fun s1 k Q q =>
  we_of (pe_listRg hc hg hm (prg_1 hgr hr pe_we he) he2) (ha s1 k _ fun v s2 k2 r2 => ⟨n, r2, hz, fun l hl => q l (s2.newO l _ hl) (k2.trans (Ex.newO hl)) (fr_back k2 hl) (own_new hl (by rw [rgV_rng]; exact Reps.of_flat _))⟩)
def cut {τ : Type} (xs : List τ) (lo hi : Option Int) : List τ := (xs.drop (HT.sIx xs.length 0 lo)).take (HT.sIx xs.length xs.length hi - HT.sIx xs.length 0 lo)
theorem Reps.cut {K : PySem.W.Frag} {F : Hp} {vs : List V} {xs : List α} (r : Reps K F vs xs) (lo hi : Option Int) : Reps K F (cutV vs lo hi) (Dy.cut xs lo hi) := by
  unfold cutV Dy.cut
  rw [r.len]
  exact (r.drop _).take _
def EvO (X : Cx) (o : Option Expr) (σ : St) (s : S) (x : Option Int) : Prop := match o, x with
  | none, none => True
  | some e, some i => Ev X e σ s i
  | _, _ => False
theorem po_evo {o : Option Expr} {x : Option Int} (h : EvO X o σ s x) : ∃ t, PO X o t ∧ ∀ s1, Ex s s1 → ∀ Q : Option Int → Hp → Prop, (∀ s2, Ex s1 s2 → Q x s2.H) → t σ s1.H Q := by
  cases o with
  | none =>
    cases x with
    | none => exact ⟨_, po_none, fun s1 k Q q => q s1 (Ex.refl _)⟩
    | some i => exact h.elim
  | some e =>
    cases x with
    | none => exact h.elim
    | some i => exact ⟨_, po_some pe_we, fun s1 k Q q => (show Ev X e σ s i from h) s1 k _ fun v s2 k2 r2 => ⟨i, r2, q s2 k2⟩⟩
theorem eo_some {i : Int} (h : Ev X e σ s i) : EvO X (some e) σ s (some i) := h
theorem en_slice {xs : List α} {lo hi : Option Expr} {l h : Option Int} (ha : EvR X a σ s xs) (hl : EvO X lo σ s l) (hh : EvO X hi σ s h) : EvN X (.Subscript a (.Slice lo hi none p2) pos) σ s (cut xs l h) := fun s1 k Q q => by
  obtain ⟨tl, pl, ql⟩ := po_evo hl
  obtain ⟨th, ph, qh⟩ := po_evo hh
  refine we_of (pe_slice sl_list pe_we pl ph) (ha s1 k _ fun v s2 k2 r2 => ql s2 (k.trans k2) _ fun s3 k3 => qh s3 ((k.trans k2).trans k3) _ fun s4 k4 => ?_)
  obtain ⟨p, vs, rfl, h1, h2⟩ := (r2.ex k3).ex k4
  exact ⟨p, vs, rfl, h1, fun l hl => q l (s4.newO l _ hl) (((k2.trans k3).trans k4).trans (Ex.newO hl)) (fr_back ((k2.trans k3).trans k4) hl) (own_new hl (h2.cut _ _))⟩
theorem op_catS : OpR X (binaryOp .Add) (fun x y H Q => ∃ l b xs zs, x = .ref l ∧ y = .ref b ∧ SqL X.K H l xs ∧ SqL X.K H b zs ∧ xs.length + zs.length ≤ sizeLine ∧ ∀ p, H p = none → Q (.ref p) (upd H p (.lst (xs ++ zs)))) := by
  intro pins s σ H x y v u Q I rx ry h
  obtain ⟨l, b, xs, zs, rfl, rfl, hH, hB, hz, q⟩ := h
  cases rx
  cases ry
  obtain ⟨its, r, ⟨⟨cls, dd, data, sl⟩, n, ho, hc, hd0, hd⟩, z1⟩ := I.list hH
  obtain ⟨its2, r2, ⟨⟨cls2, dd2, data2, sl2⟩, n2, ho2, hc2, hd02, hd2⟩, z2⟩ := I.list hB
  simp only at hc hd hc2 hd2 hd0 hd02
  subst hc hd hc2 hd2 hd0 hd02
  have e : its.toArray ++ its2.toArray = (its ++ its2).toArray := by simp
  have h1 := r.length
  have h2 := r2.length
  refine concat_meets ⟨_, ho, rfl⟩ ⟨_, ho2, rfl⟩ noFill_list_add seq_list_add PySem.F.slot_list_add PySem.F.entry_list_add (PySem.F.args_list_add_2 _ _) (list_addW l b its.toArray its2.toArray n n2 none none sl sl2 (by rw [List.size_toArray, List.size_toArray]; omega)) ⟨ho, ho2, ?_⟩
  rw [e]
  exact ⟨.ref _, _, I.lnew (t' := s.toks) (r.append r2) (by rw [List.length_append]; omega), rfl, q _ I.fresh⟩
theorem en_cat {xs ys : List α} (ha : EvR X a σ s xs) (hb : EvR X b σ s ys) (hz : xs.length + ys.length ≤ sizeLine) : EvN X (.BinOp a .Add b pos) σ s (xs ++ ys) := fun s1 k Q q =>
  we_of (pe_op op_catS pe_we pe_we) (ha s1 k _ fun v s2 k2 r2 => hb s2 (k.trans k2) _ fun u s3 k3 r3 => by
    obtain ⟨p, vs, rfl, h1, h2⟩ := r2.ex k3
    obtain ⟨p', ws, rfl, h3, h4⟩ := r3
    exact ⟨p, p', vs, ws, rfl, rfl, h1, h3, by rw [h2.len, h4.len]; exact hz, fun l hl => q l (s3.newO l _ hl) ((k2.trans k3).trans (Ex.newO hl)) (fr_back (k2.trans k3) hl) (own_new hl (h2.app h4))⟩)
def repl {τ : Type} (n : Int) (xs : List τ) : List τ := (List.replicate n.toNat xs).flatten
theorem Reps.repF {K : PySem.W.Frag} {F : Hp} {vs : List V} {xs : List α} (r : Reps K F vs xs) (n : Nat) : Reps K F (List.replicate n vs).flatten (List.replicate n xs).flatten := by
  induction n with
  | zero => exact trivial
  | succ n ih => rw [List.replicate_succ, List.replicate_succ, List.flatten_cons, List.flatten_cons]; exact r.app ih
def RepOk (n : Int) (l : Nat) : Prop := -(2 ^ 63) ≤ n ∧ n < 2 ^ 63 ∧ l * n.toNat ≤ sizeLine
theorem en_rep {xs : List α} {n : Int} (ha : EvN X a σ s xs) (hb : ∀ t, Ex s t → Ev X b σ t n) (hz : RepOk n xs.length) : EvN X (.BinOp a .Mult b pos) σ s (repl n xs) := fun s1 k Q q =>
  we_of (pe_op op_rep pe_we pe_we) (ha s1 k _ fun p s2 k2 n2 o2 => hb s2 (k.trans k2) s2 (Ex.refl _) _ fun u s3 k3 r3 => by
    obtain ⟨_, vs, h1, h2⟩ := o2.ex k3
    exact ⟨p, n, vs, rfl, r3, h1, hz.1, hz.2.1, by rw [h2.len]; exact hz.2.2, fun l hl => q l (s3.newO l _ hl) ((k2.trans k3).trans (Ex.newO hl)) (fr_back (k2.trans k3) hl) (own_new hl (h2.repF _))⟩)
def JnOk (x : Str) (ys : List Str) : Prop := (ys.map (·.length)).sum + ys.length * x.length ≤ 16777216
def ixOf {τ : Type} [DecidableEq τ] (x : τ) : List τ → Option Nat
  | [] => none
  | y :: ys => if y = x then some 0 else (ixOf x ys).map (· + 1)
theorem ixOf_some {τ : Type} [DecidableEq τ] {x : τ} : ∀ {ys : List τ} {j : Nat}, ixOf x ys = some j → ys[j]? = some x ∧ ∀ m z, m < j → ys[m]? = some z → z ≠ x
  | [], _, h => by cases h
  | y :: ys, j, h => by
    unfold ixOf at h
    split at h
    · rename_i e; cases h; exact ⟨by simp [e], fun m z hm => absurd hm (Nat.not_lt_zero _)⟩
    · rename_i e
      obtain ⟨i, h1, rfl⟩ := Option.map_eq_some_iff.mp h
      obtain ⟨h2, h3⟩ := ixOf_some h1
      refine ⟨by simpa using h2, fun m z hm hz => ?_⟩
      cases m with
      | zero => simp at hz; subst hz; exact e
      | succ m => exact h3 m z (by omega) (by simpa using hz)
theorem ev_index {ε : Type} [Eqs ε] [DecidableEq ε] {x : ε} {xs : List ε} {j : Nat} (ha : EvR X a σ s xs) (hb : Ev X b σ s x) (h : ixOf x xs = some j)
    (hbase : attributeBase a "index" X.env (eval a X.env) = eval a X.env := by rfl)
    (hfew : ((backTo pos (starEach [b] X.env)).all (fun x => !x.1) && (backToKw pos (keywordEach [] X.env)).all (fun x => x.1.isSome) && decide (([b] : List Expr).length + ([] : List Keyword).length + (if ([] : List Keyword).isEmpty then 0 else 1) < 30)) = true := by rfl)
    (hline : (p1.endLine == pos.line) = true := by rfl) (hs : starEach [b] X.env = (false, eval b X.env) :: starEach [] X.env := by rfl) (hplain : (backTo pos (starEach [] X.env)).any (·.1) = false := by rfl) :
    Ev X (.Call (.Attribute a "index" p1) [b] [] pos) σ s (j : Int) := fun s1 k Q q =>
  we_of (pe_bm PySem.F.plainAttrs_list PySem.F.slot_list_index PySem.F.type_list_index mt_index pe_we (pa_cons pe_we pa_nil hs) hbase hfew hline hs hplain) (ha s1 k _ fun v s2 k2 r2 => by
    obtain ⟨p, vs, rfl, h1, h2⟩ := r2
    obtain rfl := h2.flat
    refine ⟨.inl ⟨rfl, _, h1⟩, hb s2 (k.trans k2) _ fun u s3 k3 r3 => ?_⟩
    rw [Flat.iff.mp r3]
    obtain ⟨h3, h4⟩ := ixOf_some h
    refine ⟨p, _, toV x, j, toV x, rfl, rfl, sql_mono k3.h h1, Flat.flat x, flat_all xs, by rw [List.getElem?_map, h3]; rfl, (Flat.inj x x).mpr rfl, fun m z hm hz => ?_, q _ s3 (k2.trans k3) rfl⟩
    rw [List.getElem?_map] at hz
    obtain ⟨y, h5, rfl⟩ := Option.map_eq_some_iff.mp hz
    exact Bool.eq_false_iff.mpr fun z => h4 m y hm h5 ((Flat.inj y x).mp z))

structure Cal (P : Program) (w : World) (K : PySem.W.Frag) (mg : Str → Option Value) (base : Heap) (CX : CXT) (k : Nat) (x : Str) (q : Sp) : Prop where
  ex : ∃ (f : Addr) (fd : FuncData) (ps : List Str), FnOk P w K mg base CX k f fd ps q ∧ mg x = some (.ref f) ∧ PySem.W.keepIn K (.ref f) = true ∧ Binds K fd ps []
theorem pe_c0 {n : Str} {k j : Nat} {q : Sp} {ta : TA} (C : Cal X.prog X.w X.K X.mg X.base CX0 k n q) (hr : Room j X.A) (hk : k ≤ j) (hg : Gl X n) (ha : PA X (e :: es) ta) (hdb : (n == ("__debug__" : Str)) = false := by decide)
    (he : starEach (e :: es) X.env = (false, eval e X.env) :: starEach es X.env := by rfl) (hpl : (backTo pos (starEach es X.env)).any (·.1) = false := by rfl) : PE X (.Call (.Name n p0) (e :: es) [] pos) (tCall q [] E0 ta) := by
  obtain ⟨f, fd, ps, F, hm, kp, b⟩ := C.ex
  exact pe_call F (hr.mono hk) hg hm kp b .nil pass0 ha hdb he hpl
def sp {A : Type} [EncA A] {ρ : Type} [Enc ρ] (K : PySem.W.Frag) (m : A → Option ρ) : Sp := fun vs H Q _ => ∃ (s : S) (x : A) (r : ρ), s.H = H ∧ repA K s.F vs x ∧ m x = some r ∧ ∀ v s', Ex s s' → rep K s'.F v r → Q v s'.H
def spN {A : Type} [EncA A] {ρ : Type} [Enc ρ] (K : PySem.W.Frag) (m : A → Option (List ρ)) : Sp := fun vs H Q _ => ∃ (s : S) (x : A) (r : List ρ), s.H = H ∧ repA K s.F vs x ∧ m x = some r ∧ ∀ p s', Ex s s' → s.H p = none → Own K s' p r → Q (.ref p) s'.H
theorem ev_call {A : Type} [EncA A] {m : A → Option α} {n : Str} {k j : Nat} {x : A} {r : α} (C : Cal X.prog X.w X.K X.mg X.base CX0 k n (sp X.K m)) (hr : Room j X.A) (hk : k ≤ j) (ha : EvA X (e :: es) σ s x) (h : m x = some r) (hg : Gl X n := by rfl)
    (hdb : (n == ("__debug__" : Str)) = false := by decide) (he : starEach (e :: es) X.env = (false, eval e X.env) :: starEach es X.env := by rfl) (hpl : (backTo pos (starEach es X.env)).any (·.1) = false := by rfl) : Ev X (.Call (.Name n p0) (e :: es) [] pos) σ s r := fun s1 k1 Q q =>
  we_of (pe_c0 C hr hk hg pa_wa hdb he hpl) (ha s1 k1 _ fun vs s2 k2 r2 => ⟨s2, x, r, rfl, by rw [List.append_nil]; exact r2, h, fun v s3 k3 r3 => q v s3 (k2.trans k3) r3⟩)
end
end Dy

namespace Dy
open PySem PySem.Spec L2
open PyProof.Rows hiding St
open Enc (rep)
open Flat (toV)
open EncA (repA)

noncomputable def chk {α : Type} (c : Prop) (m : Option α) : Option α := open Classical in if c then m else none
theorem chk_pos {α : Type} {c : Prop} {m : Option α} (h : c) : chk c m = m := by unfold chk; exact if_pos h
theorem chkE {α : Type} {c : Prop} {m : Option α} {r : α} (h : chk c m = some r) : c ∧ m = some r := by
  unfold chk at h
  split at h
  · rename_i hc; exact ⟨hc, h⟩
  · cases h
def lt {α β : Type} (x : α) (f : α → Option β) : Option β := f x
theorem ltE {α β : Type} {x : α} {f : α → Option β} {r : β} (h : lt x f = some r) : ∃ y, y = x ∧ f y = some r := ⟨x, rfl, h⟩
abbrev bnd {α β : Type} (m : Option α) (f : α → Option β) : Option β := m.bind f
theorem bndE {α β : Type} {m : Option α} {f : α → Option β} {r : β} (h : bnd m f = some r) : ∃ y, m = some y ∧ f y = some r := by
  cases m with
  | none => cases h
  | some y => exact ⟨y, rfl, h⟩
theorem iteE1 {α : Type} {b : Bool} {m k : Option α} {r : α} (h : (if b = true then m else k) = some r) (e : b = true) : m = some r := by rw [if_pos e] at h; exact h
theorem iteE2 {α : Type} {b : Bool} {m k : Option α} {r : α} (h : (if b = true then m else k) = some r) (e : b = false) : k = some r := by rw [if_neg (by rw [e]; exact Bool.false_ne_true)] at h; exact h
def andO (a : Bool) (m : Option Bool) : Option Bool := if a = true then m else some false
def orO (a : Bool) (m : Option Bool) : Option Bool := if a = true then some true else m
theorem orE {a r : Bool} {m : Option Bool} (h : orO a m = some r) : (a = false → m = some r) ∧ (a = true → r = true) := by
  unfold orO at h
  cases a with
  | false => exact ⟨fun _ => h, fun z => Bool.noConfusion z⟩
  | true => exact ⟨fun z => Bool.noConfusion z, fun _ => (Option.some.inj h).symm⟩
inductive Fl (β ρ : Type) where
  | nx (b : β)
  | rt (r : ρ)
def foldO {α β : Type} (f : β → α → Option β) : β → List α → Option β
  | b, [] => some b
  | b, x :: r => (f b x).bind fun b' => foldO f b' r
def foldF {α β ρ : Type} (f : β → α → Option (Fl β ρ)) : β → List α → Option (Fl β ρ)
  | b, [] => some (.nx b)
  | b, x :: r => (f b x).bind fun o => match o with
    | .nx b' => foldF f b' r
    | .rt v => some (.rt v)
def whileO {β : Type} (c : β → Option Bool) (f : β → Option β) : Nat → β → Option β
  | 0, _ => none
  | n + 1, b => (c b).bind fun t => if t = true then (f b).bind fun b' => whileO c f n b' else some b
def whileF {β ρ : Type} (c : β → Option Bool) (f : β → Option (Fl β ρ)) : Nat → β → Option (Fl β ρ)
  | 0, _ => none
  | n + 1, b => (c b).bind fun t => if t = true then (f b).bind fun o => (match o with
    | .nx b' => whileF c f n b'
    | .rt v => some (.rt v)) else some (.nx b)
def compO {α β : Type} (t : α → Option Bool) (f : α → Option β) : List α → Option (List β)
  | [] => some []
  | x :: r => (t x).bind fun b => if b = true then (f x).bind fun y => (compO t f r).bind fun ys => some (y :: ys) else compO t f r
theorem compO_map {α β : Type} (f : α → β) : ∀ xs : List α, compO (fun _ => some true) (fun x => some (f x)) xs = some (xs.map f)
  | [] => rfl
  | x :: r => by
    unfold compO
    rw [Option.bind_some, compO_map f r]
    rfl
def mapO {α β : Type} (f : α → Option β) (xs : List α) : Option (List β) := compO (fun _ => some true) f xs

def WI (X : Cx) (tg iter : Expr) : TI := fun σ H R => Hold (∀ (pins : List (Addr × Obj)) (s : Shared), Inv X pins σ H s →
  wpAny (model X.prog X.w) X.A (eval iter X.env) (fun v s1 => wpAny (model X.prog X.w) X.A (pyIter v) (PIE X pins σ tg R) X.xe s1) X.xe s)
theorem pi_wi {X : Cx} {tg iter : Expr} : PI X tg iter (WI X tg iter) := ⟨fun pins s _ _ _ I h => Hold.run h pins s I⟩
theorem wi_of {X : Cx} {tg iter : Expr} {t : TI} {σ : St} {H : Hp} {R : It → Hp → Prop} (h : PI X tg iter t) (q : t σ H R) : WI X tg iter σ H R := Hold.mk fun pins s I => h.run pins s σ H R I q
section
variable {α β γ δ : Type} [Enc α] [Enc β] [Enc γ] [Enc δ] {X : Cx} {σ : St} {s t : S} {e a b c tg : Expr} {es : List Expr} {pos p0 p1 p2 p3 : Pos}
structure Walk (K : PySem.W.Frag) (F : Hp) (J : It) (xs : List α) : Prop where
  go : ∀ (i : Nat) (t : S) (x : α), Fle F t.F → xs[i]? = some x → J.go i t.H ∧ ∀ v H', J.yld i t.H v H' → ∃ t' : S, t'.H = H' ∧ Ex t t' ∧ rep K t'.F v x
  stop : ∀ (i : Nat) (t : S), Fle F t.F → xs.length ≤ i → J.stop i t.H
def EvI (X : Cx) (tg e : Expr) (σ : St) (s : S) (xs : List α) : Prop := ∀ s1, Ex s s1 → ∀ R : It → Hp → Prop, (∀ J s2, Ex s1 s2 → Walk X.K s2.F J xs → R J s2.H) → WI X tg e σ s1.H R
theorem ei_list {xs : List α} (h : Ev X e σ s xs) : EvI X tg e σ s xs := fun s1 k R q =>
  wi_of (pi_list pe_we) (h s1 k _ fun v s2 k2 r2 => by
    obtain ⟨p, vs, rfl, h1, h2⟩ := r2
    refine ⟨p, rfl, ⟨vs, sql_mono s2.sub h1⟩, q _ s2 k2 ⟨fun i t x f hx => ?_, fun i t f hi => ⟨vs, sql_mono t.sub (sql_mono f h1), by rw [h2.len]; exact hi⟩⟩⟩
    obtain ⟨v, h3, h4⟩ := h2.get hx
    refine ⟨⟨vs, v, sql_mono t.sub (sql_mono f h1), h3⟩, fun w H' ⟨e1, hy⟩ => ⟨t, e1.symm, Ex.refl _, ?_⟩⟩
    have := hy vs (sql_mono t.sub (sql_mono f h1))
    rw [h3] at this
    cases this
    exact Enc.mono f h4)
theorem ei_tup {xs : Tu α} (h : Ev X e σ s xs) : EvI X tg e σ s xs.l := fun s1 k R q =>
  wi_of (pi_tup pe_we) (h s1 k _ fun v s2 k2 r2 => by
    obtain ⟨p, vs, rfl, h1, h2⟩ := r2
    refine ⟨p, rfl, ⟨vs, sqt_mono s2.sub h1⟩, q _ s2 k2 ⟨fun i t x f hx => ?_, fun i t f hi => ⟨vs, sqt_mono t.sub (sqt_mono f h1), by rw [h2.len]; exact hi⟩⟩⟩
    obtain ⟨v, h3, h4⟩ := h2.get hx
    refine ⟨⟨vs, v, sqt_mono t.sub (sqt_mono f h1), h3⟩, fun w H' ⟨e1, hy⟩ => ⟨t, e1.symm, Ex.refl _, ?_⟩⟩
    have := hy vs (sqt_mono t.sub (sqt_mono f h1))
    rw [h3] at this
    cases this
    exact Enc.mono f h4)
theorem rng_get {a b : Int} {i : Nat} {x : Int} (h : (rng a b)[i]? = some x) : i < (b - a).toNat ∧ x = a + (i : Int) := by
  unfold rng at h
  rw [List.getElem?_map] at h
  obtain ⟨j, h1, rfl⟩ := Option.map_eq_some_iff.mp h
  obtain ⟨h2, h3⟩ := List.getElem?_eq_some_iff.mp h1
  rw [List.length_range] at h2
  rw [List.getElem_range] at h3
  subst h3
  exact ⟨h2, rfl⟩
theorem rng_len (a b : Int) : (rng a b).length = (b - a).toNat := by unfold rng; rw [List.length_map, List.length_range]
theorem walk_rng {K : PySem.W.Frag} {F : Hp} {a b : Int} : Walk K F (Itr a (b - a).toNat) (rng a b) :=
  ⟨fun i t x f hx => ⟨(rng_get hx).1, fun v H' ⟨e1, e2⟩ => ⟨t, e1.symm, Ex.refl _, by rw [e2, (rng_get hx).2]; rfl⟩⟩, fun i t f hi => by rw [rng_len] at hi; exact hi⟩
def RgB (x : Int) : Prop := -(2 ^ 62) ≤ x ∧ x < 2 ^ 62
theorem ei_range1 {n : Int} (hm : X.mg "range" = none) (h : Ev X e σ s n) (hb : RgB n) (hg : Gl X "range" := by rfl) (hs : starEach [e] X.env = [(false, eval e X.env)] := by rfl) (hs2 : starEach [e] X.env = (false, eval e X.env) :: starEach [] X.env := by rfl) :
    EvI X tg (.Call (.Name "range" p0) [e] [] pos) σ s (rng 0 n) := fun s1 k R q =>
  wi_of (pi_range1 hg hm (pa_cons pe_we pa_nil hs2) hs) (h s1 k _ fun v s2 k2 r2 => ⟨n, by rw [show v = V.int n from r2], hb.1, hb.2, q _ s2 k2 (by
    have := walk_rng (K := X.K) (F := s2.F) (a := 0) (b := n)
    rw [Int.sub_zero] at this
    exact this)⟩)
theorem ei_range2 {m n : Int} (hm : X.mg "range" = none) (ha : Ev X a σ s m) (hb : Ev X b σ s n) (h1 : RgB m) (h2 : RgB n) (hg : Gl X "range" := by rfl) (hs : starEach [a, b] X.env = [(false, eval a X.env), (false, eval b X.env)] := by rfl) (hs2 : starEach [b] X.env = [(false, eval b X.env)] := by rfl)
    (hs3 : starEach [a, b] X.env = (false, eval a X.env) :: starEach [b] X.env := by rfl) (hs4 : starEach [b] X.env = (false, eval b X.env) :: starEach [] X.env := by rfl) :
    EvI X tg (.Call (.Name "range" p0) [a, b] [] pos) σ s (rng m n) := fun s1 k R q =>
  wi_of (pi_range2 hg hm (pa_cons pe_we (pa_cons pe_we pa_nil hs4) hs3) hs hs2) (ha s1 k _ fun v s2 k2 r2 => hb s2 (k.trans k2) _ fun u s3 k3 r3 => ⟨m, n, by rw [show v = V.int m from r2, show u = V.int n from r3], ⟨h1.1, h1.2, h2.1, h2.2⟩, q _ s3 (k2.trans k3) walk_rng⟩)
def chars (x : Str) : List Str := x.cps.toList.map fun c => ⟨#[c]⟩
theorem ei_str {x : Str} (h : Ev X e σ s x) : EvI X tg e σ s (chars x) := fun s1 k R q =>
  wi_of (pi_str pe_we) (h s1 k _ fun v s2 k2 r2 => ⟨x, r2, q _ s2 k2 ⟨fun i t y f hy => by
    unfold chars at hy
    rw [List.getElem?_map] at hy
    obtain ⟨c, h1, rfl⟩ := Option.map_eq_some_iff.mp hy
    have h1' : x.cps[i]? = some c := by simpa using h1
    refine ⟨?_, fun v H' ⟨e1, d, h2, h3⟩ => ⟨t, e1.symm, Ex.refl _, ?_⟩⟩
    · obtain ⟨z, _⟩ := Array.getElem?_eq_some_iff.mp h1'
      exact z
    · rw [h1'] at h2
      cases h2
      exact h3, fun i t f hi => by
    unfold chars at hi
    rw [List.length_map, Array.length_toList] at hi
    exact hi⟩⟩)
end

structure Tgt {α : Type} [Enc α] (K : PySem.W.Frag) (g : TG) (B : Hp → α → St → St → Prop) : Prop where
  run : ∀ (t : S) (v : V) (x : α) (σ : St) (Q : St → Hp → Prop), rep K t.F v x → (∀ σ2, B t.F x σ σ2 → Q σ2 t.H) → g v σ t.H Q
def BN {α : Type} [Enc α] (K : PySem.W.Frag) (j : Nat) : Hp → α → St → St → Prop := fun F x σ σ2 => ∃ v, rep K F v x ∧ σ2 = σ.set j (some v)
def B2 {α β : Type} [Enc α] [Enc β] (K : PySem.W.Frag) (i j : Nat) : Hp → α × β → St → St → Prop := fun F x σ σ2 => ∃ v w, rep K F v x.1 ∧ rep K F w x.2 ∧ σ2 = (σ.set i (some v)).set j (some w)
def B3 {α β γ : Type} [Enc α] [Enc β] [Enc γ] (K : PySem.W.Frag) (i j k : Nat) : Hp → T3 α β γ → St → St → Prop := fun F x σ σ2 => ∃ v w u, rep K F v x.a ∧ rep K F w x.b ∧ rep K F u x.c ∧ σ2 = ((σ.set i (some v)).set j (some w)).set k (some u)
theorem tg_n {α : Type} [Enc α] {K : PySem.W.Frag} {j : Nat} : Tgt (α := α) K (gName j) (BN K j) := ⟨fun t v x σ Q r h => h _ ⟨v, r, rfl⟩⟩
section
variable {α β : Type} [Enc α] [Enc β] {X : Cx} {σ : St} {s : S} {elt tg iter c : Expr} {ifs : List Expr} {scope : Scope} {own : List (Str × Nat)} {pos : Pos}
abbrev Blk (X : Cx) (scope : Scope) (s0 : Shared) (H0 : Hp) (C : Addr) (cl : List (Str × Addr)) (fp : List Addr) : Cx := X.blk s0 H0 scope (compEnvC scope cl C X.env) fp
theorem comp_read {xs : List α} {ys : List β} {t : α → Option Bool} {f : α → Option β} {g : TG} {B : Hp → α → St → St → Prop} {tt : TT} (hc : X.calm = true) (hN : X.N.Nodup) (hi : EvI X tg iter σ s xs) (ok : BlkOk X.N X.env.scope scope own)
    (hg : ∀ s0 H0 C cl fp, PG (Blk X scope s0 H0 C cl fp) tg g) (T : Tgt (α := α) X.K g B) (htt : ∀ s0 H0 C cl fp, PTs (Blk X scope s0 H0 C cl fp) ifs tt) (hf : compO t f xs = some ys) (hz : ys.length ≤ sizeLine)
    (hw : ∀ (F : Hp) (x : α) σ2, B F x (wipe σ (own.map (·.2))) σ2 → wipe σ2 (own.map (·.2)) = wipe σ (own.map (·.2)))
    (ht : ∀ (x : α) (b : Bool) (s1 : S) (σ2 : St) (Q : Bool → Hp → Prop), x ∈ xs → Ex s s1 → B s1.F x (wipe σ (own.map (·.2))) σ2 → t x = some b → (∀ s2, Ex s1 s2 → Q b s2.H) → tt σ2 s1.H Q)
    (he : ∀ (x : α) (y : β) (s1 : S) (σ2 : St), x ∈ xs → Ex s s1 → B s1.F x (wipe σ (own.map (·.2))) σ2 → t x = some true → f x = some y → ∀ s0 H0 C cl fp, Ev (Blk X scope s0 H0 C cl fp) elt σ2 s1 y)
    (s1 : S) (k : Ex s s1) (Q : VK) (q : ∀ p s2, Ex s1 s2 → s1.H p = none → Own X.K s2 p ys → Q (.ref p) s2.H) : tLc (WI X tg iter) g tt (fun σ H Q => ∀ s0 H0 C cl fp, WE (Blk X scope s0 H0 C cl fp) elt σ H Q) (own.map (·.2)) σ s1.H Q := by
  refine hi s1 k _ fun J s2 k2 W => ?_
  intro D hD
  refine ⟨fun i m H => ∃ (u : S) (pre : List β) (vs : List V), u.H = H ∧ m = xs.length - i ∧ Ex s2 u ∧ u.F D = none ∧ u.H D = some (.lst vs) ∧ Reps X.K u.F vs pre ∧ (∃ suf, compO t f (xs.drop i) = some suf ∧ pre ++ suf = ys), ⟨xs.length, s2.newO D (.lst []) hD, [], [], rfl, rfl, Ex.newO hD, (fF hD : s2.F D = none), upd_same, trivial, ys, hf, rfl⟩, ?_⟩
  rintro i m H ⟨u, pre, vs, rfl, rfl, ku, n1, n2, n3, suf, h1, h2⟩
  by_cases hi' : i < xs.length
  · right
    have hx : xs[i]? = some xs[i] := List.getElem?_eq_getElem hi'
    obtain ⟨g1, g2⟩ := W.go i u xs[i] ku.f hx
    refine ⟨g1, fun H' => ∃ m', m' < xs.length - i ∧ ∃ (u : S) (pre : List β) (vs : List V), u.H = H' ∧ m' = xs.length - (i + 1) ∧ Ex s2 u ∧ u.F D = none ∧ u.H D = some (.lst vs) ∧ Reps X.K u.F vs pre ∧ (∃ suf, compO t f (xs.drop (i + 1)) = some suf ∧ pre ++ suf = ys), fun H' z => z, fun v H' hy => ?_⟩
    obtain ⟨u', rfl, ku', rv⟩ := g2 v H' hy
    refine T.run u' v xs[i] _ _ rv fun σ2 hB => ⟨hw _ _ _ hB, ?_⟩
    rw [List.drop_eq_getElem_cons hi'] at h1
    unfold compO at h1
    cases hb : t xs[i] with
    | none => rw [hb] at h1; cases h1
    | some b =>
      rw [hb, Option.bind_some] at h1
      have mem : xs[i] ∈ xs := List.getElem_mem hi'
      have base : Ex s u' := (k.trans k2).trans (ku.trans ku')
      refine ht xs[i] b u' σ2 _ mem base hB hb fun u3 k3 => ?_
      have hlt : xs.length - (i + 1) < xs.length - i := by omega
      have kk : Ex u u3 := ku'.trans k3
      cases b with
      | false =>
        rw [if_neg Bool.false_ne_true] at h1 ⊢
        exact ⟨_, hlt, u3, pre, vs, rfl, rfl, ku.trans kk, kk.n _ _ n2 n1, kk.h _ _ n2, n3.mono kk.f, suf, h1, h2⟩
      | true =>
        rw [if_pos rfl] at h1 ⊢
        cases hfx : f xs[i] with
        | none => rw [hfx] at h1; cases h1
        | some y =>
          rw [hfx, Option.bind_some] at h1
          cases hr : compO t f (xs.drop (i + 1)) with
          | none => rw [hr] at h1; cases h1
          | some suf' =>
            rw [hr] at h1
            cases h1
            intro s0 H0 C cl fp
            refine he xs[i] y u' σ2 mem base hB hb hfx s0 H0 C cl fp u3 k3 _ fun w u4 k4 r4 => ?_
            have k5 : Ex u u4 := kk.trans k4
            have hD4 : u4.H D = some (.lst vs) := k5.h _ _ n2
            have hF4 : u4.F D = none := k5.n _ _ n2 n1
            have hlen : vs.length < sizeLine := by
              have e1 := n3.len
              have e2 : ys.length = pre.length + (suf'.length + 1) := by rw [← h2, List.length_append, List.length_cons]
              omega
            refine ⟨vs, hD4, hlen, _, hlt, u4.put D (.lst (vs ++ [w])) hF4, pre ++ [y], vs ++ [w], rfl, rfl, (ku.trans k5).mu1 (Mx.put hF4) hD, hF4, upd_same, (n3.mono k5.f).snoc r4, suf', rfl, by rw [List.append_assoc]; exact h2⟩
  · left
    have hd : xs.drop i = [] := List.drop_eq_nil_of_le (by omega)
    rw [hd] at h1
    cases h1
    refine ⟨W.stop i u ku.f (by omega), q D u (k2.trans ku) (fr_back k2 hD) ⟨n1, vs, n2, ?_⟩⟩
    rw [← h2, List.append_nil]
    exact n3
structure EvL (X : Cx) (elt tg iter : Expr) (ifs : List Expr) (scope : Scope) (σ : St) (s : S) (ys : List β) : Prop where
  calm : X.calm = true
  nd : X.N.Nodup
  fs : ∀ x, foldedSetIterable iter X.env x = pure x
  ex : ∃ (own : List (Str × Nat)) (g : TG) (tt : TT), BlkOk X.N X.env.scope scope own ∧ (∀ s0 H0 C cl fp, PG (Blk X scope s0 H0 C cl fp) tg g) ∧ (∀ s0 H0 C cl fp, PTs (Blk X scope s0 H0 C cl fp) ifs tt) ∧
    ∀ s1, Ex s s1 → ∀ Q : VK, (∀ p s2, Ex s1 s2 → s1.H p = none → Own X.K s2 p ys → Q (.ref p) s2.H) → tLc (WI X tg iter) g tt (fun σ H Q => ∀ s0 H0 C cl fp, WE (Blk X scope s0 H0 C cl fp) elt σ H Q) (own.map (·.2)) σ s1.H Q
theorem EvL.n {ys : List β} (h : EvL X elt tg iter ifs scope σ s ys) : EvN X (.ListComp elt [⟨tg, iter, ifs, 0⟩] scope pos) σ s ys := fun s1 k Q q => by
  obtain ⟨own, g, tt, h1, h2, h3, h4⟩ := h.ex
  exact we_of (pe_lc h.calm h.nd pi_wi h1 h2 h3 (fun s0 H0 C cl fp => pe_im fun _ _ _ h => h s0 H0 C cl fp) h.fs) (h4 s1 k Q q)
theorem wipe_set {τ : St} {j : Nat} {o : Option V} : ∀ {vs : List Nat}, j ∈ vs → wipe (τ.set j o) vs = wipe τ vs
  | v :: vs, h => by
    show (wipe (τ.set j o) vs).set v none = (wipe τ vs).set v none
    by_cases e : j ∈ vs
    · rw [wipe_set e]
    · have : j = v := by
        rcases List.mem_cons.mp h with z | z
        · exact z
        · exact absurd z e
      subst this
      have : ∀ {ws : List Nat} {τ : St}, j ∉ ws → wipe (τ.set j o) ws = (wipe τ ws).set j o := by
        intro ws
        induction ws with
        | nil => intro τ _; rfl
        | cons a r ih =>
          intro τ h
          show (wipe (τ.set j o) r).set a none = ((wipe τ r).set a none).set j o
          rw [ih fun z => h (List.mem_cons_of_mem _ z), List.set_comm _ _ (fun z => h (by rw [z]; exact List.mem_cons_self))]
      rw [this e, List.set_set]
theorem wipe_wipe {τ : St} : ∀ {vs ws : List Nat}, (∀ v ∈ vs, v ∈ ws) → wipe (wipe τ vs) ws = wipe τ ws
  | [], _, _ => rfl
  | v :: vs, ws, h => by
    show wipe ((wipe τ vs).set v none) ws = wipe τ ws
    rw [wipe_set (h v List.mem_cons_self)]
    exact wipe_wipe fun u hu => h u (List.mem_cons_of_mem _ hu)
theorem en_comp0 {xs : List α} {ys : List β} {f : α → Option β} {j : Nat} {n : Str} {py : Pos} (hc : X.calm = true) (hN : X.N.Nodup) (hi : EvI X (.Name n py) iter σ s xs) (ok : BlkOk X.N X.env.scope scope own) (hj : X.N[j]? = some n)
    (hjo : j ∈ own.map (·.2)) (hg : ∀ s0 H0 C cl fp, PG (Blk X scope s0 H0 C cl fp) (.Name n py) (gName j)) (hf : mapO f xs = some ys) (hz : ys.length ≤ sizeLine)
    (he : ∀ (x : α) (y : β) (v : V) (s1 : S), x ∈ xs → Ex s s1 → rep X.K s1.F v x → f x = some y → ∀ s0 H0 C cl fp, Ev (Blk X scope s0 H0 C cl fp) elt ((wipe σ (own.map (·.2))).set j (some v)) s1 y)
    (hs : ∀ x, foldedSetIterable iter X.env x = pure x := by intro _; rfl) : EvL X elt (.Name n py) iter [] scope σ s ys :=
  ⟨hc, hN, hs, own, _, _, ok, hg, fun _ _ _ _ _ => pts_nil, fun s1 k Q q => comp_read (t := fun _ => some true) hc hN hi ok hg tg_n (fun _ _ _ _ _ => pts_nil) hf hz (fun F x σ2 ⟨v, _, e⟩ => by rw [e, wipe_set hjo]; exact wipe_wipe fun _ z => z)
    (fun x b s1 σ2 Q _ _ _ hb q => by cases hb; exact q s1 (Ex.refl _)) (fun x y s1 σ2 hx k ⟨v, r, e⟩ _ hfx => by subst e; exact he x y v s1 hx k r hfx) s1 k Q q⟩
theorem en_comp1 {xs : List α} {ys : List β} {t : α → Option Bool} {f : α → Option β} {j : Nat} {n : Str} {py : Pos} (hc : X.calm = true) (hN : X.N.Nodup) (hi : EvI X (.Name n py) iter σ s xs) (ok : BlkOk X.N X.env.scope scope own) (hj : X.N[j]? = some n)
    (hjo : j ∈ own.map (·.2)) (hg : ∀ s0 H0 C cl fp, PG (Blk X scope s0 H0 C cl fp) (.Name n py) (gName j)) (hf : compO t f xs = some ys) (hz : ys.length ≤ sizeLine)
    (ht : ∀ (x : α) (b : Bool) (v : V) (s1 : S), x ∈ xs → Ex s s1 → rep X.K s1.F v x → t x = some b → ∀ s0 H0 C cl fp, EvT (Blk X scope s0 H0 C cl fp) c ((wipe σ (own.map (·.2))).set j (some v)) s1 b)
    (he : ∀ (x : α) (y : β) (v : V) (s1 : S), x ∈ xs → Ex s s1 → rep X.K s1.F v x → t x = some true → f x = some y → ∀ s0 H0 C cl fp, Ev (Blk X scope s0 H0 C cl fp) elt ((wipe σ (own.map (·.2))).set j (some v)) s1 y)
    (hs : ∀ x, foldedSetIterable iter X.env x = pure x := by intro _; rfl) : EvL X elt (.Name n py) iter [c] scope σ s ys :=
  ⟨hc, hN, hs, own, _, _, ok, hg, fun s0 H0 C cl fp => pts_one (pt_im fun _ _ _ h => h s0 H0 C cl fp), fun s1 k Q q => comp_read (tt := fun σ H Q => ∀ s0 H0 C cl fp, WT (Blk X scope s0 H0 C cl fp) c σ H Q) hc hN hi ok hg tg_n (fun s0 H0 C cl fp => pts_one (pt_im fun _ _ _ h => h s0 H0 C cl fp)) hf hz (fun F x σ2 ⟨v, _, e⟩ => by rw [e, wipe_set hjo]; exact wipe_wipe fun _ z => z)
    (fun x b s1 σ2 Q hx k ⟨v, r, e⟩ hb q => by subst e; intro s0 H0 C cl fp; exact ht x b v s1 hx k r hb s0 H0 C cl fp s1 (Ex.refl _) Q q) (fun x y s1 σ2 hx k ⟨v, r, e⟩ htx hfx => by subst e; exact he x y v s1 hx k r htx hfx) s1 k Q q⟩
end
end Dy

namespace Dy
open PySem PySem.Spec L2
open PyProof.Rows hiding St
open Enc (rep)
open Flat (toV)
open EncA (repA)

abbrev MD (D : Ends) (M : St → S → Prop) : Ends := { D with nx := fun σ H => ∃ s : S, s.H = H ∧ M σ s }
abbrev ND (D : Ends) : Ends := { D with nx := fun _ _ => False }
abbrev LD (D : Ends) (M : St → S → Prop) : Ends := { nx := fun σ H => ∃ s : S, s.H = H ∧ M σ s, rt := D.rt }
abbrev RD (Q : VK) : Ends := { nx := fun _ H' => Q .non H', rt := Q }
section
variable {α β γ δ : Type} [Enc α] [Enc β] [Enc γ] [Enc δ] {X : Cx} {σ : St} {s t : S} {e a b c tg iter : Expr} {es : List Expr} {pos p0 p1 p2 p3 : Pos} {D : Ends} {rest A B : List Stmt}
theorem do_nil (h : D.nx σ s.H) : WSs X [] D σ s.H := ws_of pss_nil h
theorem do_cons {st : Stmt} {ts : TS} (h : PS X st ts) (q : ts { D with nx := fun σ' H' => WSs X rest D σ' H' } σ s.H) : WSs X (st :: rest) D σ s.H := ws_of (pss_cons h pss_ws) q
theorem do_set (i : Nat) {x : α} {n : Str} {py : Pos} (h : Ev X e σ s x) (k : ∀ v s1, Ex s s1 → rep X.K s1.F v x → WSs X rest D (σ.set i (some v)) s1.H) (hN : X.N.Nodup) (hx : Loc X.env.scope n := by first | exact Or.inl rfl | exact Or.inr rfl) (hi : X.N[i]? = some n := by rfl)
    (hs : swapsWith e (some (.Name n py)) pos.line X.env = pure false := by rfl) (hf : X.fn n = true ∨ X.env.scope.names.lookup n = some .local := by first | exact .inl rfl | exact .inr rfl) : WSs X (.Assign [.Name n py] e pos :: rest) D σ s.H :=
  do_cons (ps_set hN hi hx pe_we hs hf) (h s (Ex.refl _) _ fun v s1 k1 r => k v s1 k1 r)
theorem do_setN (i : Nat) {xs : List α} {n : Str} {py : Pos} (h : EvN X e σ s xs) (k : ∀ p s1, Ex s s1 → s.H p = none → Own X.K s1 p xs → WSs X rest D (σ.set i (some (.ref p))) s1.H) (hN : X.N.Nodup) (hx : Loc X.env.scope n := by first | exact Or.inl rfl | exact Or.inr rfl) (hi : X.N[i]? = some n := by rfl)
    (hs : swapsWith e (some (.Name n py)) pos.line X.env = pure false := by rfl) (hf : X.fn n = true ∨ X.env.scope.names.lookup n = some .local := by first | exact .inl rfl | exact .inr rfl) : WSs X (.Assign [.Name n py] e pos :: rest) D σ s.H :=
  do_cons (ps_set hN hi hx pe_we hs hf) (h s (Ex.refl _) _ fun v s1 k1 n1 r => k v s1 k1 n1 r)
theorem do_ret {x : α} (h : Ev X e σ s x) (k : ∀ v s1, Ex s s1 → rep X.K s1.F v x → D.rt v s1.H) : WSs X (.Return (some e) pos :: rest) D σ s.H :=
  do_cons (ps_ret pe_we) (h s (Ex.refl _) _ fun v s1 k1 r => k v s1 k1 r)
theorem do_if {x : Bool} (hc : EvT X c σ s x) (M : St → S → Prop) (h1 : x = true → ∀ s1, Ex s s1 → WSs X A (MD D M) σ s1.H) (h2 : x = false → ∀ s1, Ex s s1 → WSs X B (MD D M) σ s1.H)
    (h3 : ∀ σ' s', M σ' s' → WSs X rest D σ' s'.H) : WSs X (.If c A B pos :: rest) D σ s.H :=
  do_cons (ps_if pt_wt pss_ws pss_ws) (hc s (Ex.refl _) _ fun s1 k => by
    cases x with
    | true => exact iteT ((h1 rfl s1 k).imp (fun σ' H' ⟨s', e, m⟩ => e ▸ h3 σ' s' m) (fun _ _ q => q) (fun _ _ q => q) fun _ _ q => q)
    | false => exact iteF ((h2 rfl s1 k).imp (fun σ' H' ⟨s', e, m⟩ => e ▸ h3 σ' s' m) (fun _ _ q => q) (fun _ _ q => q) fun _ _ q => q))
theorem do_ifR {x : Bool} (hc : EvT X c σ s x) (h1 : x = true → ∀ s1, Ex s s1 → WSs X A (ND D) σ s1.H) (h2 : x = false → ∀ s1, Ex s s1 → WSs X rest D σ s1.H) : WSs X (.If c A [] pos :: rest) D σ s.H :=
  do_cons (ps_if pt_wt pss_ws pss_nil) (hc s (Ex.refl _) _ fun s1 k => by
    cases x with
    | true => exact iteT ((h1 rfl s1 k).imp (fun _ _ z => z.elim) (fun _ _ q => q) (fun _ _ q => q) fun _ _ q => q)
    | false => exact iteF (h2 rfl s1 k))
theorem do_append (i : Nat) {p : Addr} {n : Str} {xs : List α} {x : α} (hσ : σ[i]? = some (some (.ref p))) (o : Own X.K s p xs) (he : Ev X e σ s x) (hz : xs.length < sizeLine)
    (k : ∀ s1, Mx (· = p) s s1 → Own X.K s1 p (xs ++ [x]) → WSs X rest D σ s1.H)
    (hN : X.N[i]? = some n := by rfl) (hv : Vis X.env.scope n := by first | exact Or.inl rfl | exact Or.inr (Or.inl rfl) | exact Or.inr (Or.inr rfl)) (hd : (n == ("__debug__" : Str)) = false := by decide) (hcd : (n == ("__classdict__" : Str)) = false := by decide)
    (hbase : attributeBase (.Name n p0) "append" X.env (eval (.Name n p0) X.env) = eval (.Name n p0) X.env := by rfl)
    (hfew : ((backTo p2 (starEach [e] X.env)).all (fun x => !x.1) && (backToKw p2 (keywordEach [] X.env)).all (fun x => x.1.isSome) && decide (([e] : List Expr).length + ([] : List Keyword).length + (if ([] : List Keyword).isEmpty then 0 else 1) < 30)) = true := by rfl)
    (hline : (p1.endLine == p2.line) = true := by rfl) (hs : starEach [e] X.env = (false, eval e X.env) :: starEach [] X.env := by rfl) (hplain : (backTo p2 (starEach [] X.env)).any (·.1) = false := by rfl)
    (hsw : swapsWith (.Call (.Attribute (.Name n p0) "append" p1) [e] [] p2) none p3.line X.env = pure false := by rfl) :
    WSs X (.Expr (.Call (.Attribute (.Name n p0) "append" p1) [e] [] p2) p3 :: rest) D σ s.H :=
  do_cons (ps_expr (pe_bm PySem.F.plainAttrs_list PySem.F.slot_list_append PySem.F.type_list_append mt_append (pe_var hN hv hd hcd) (pa_cons pe_we pa_nil hs) hbase hfew hline hs hplain) hsw) (by
    obtain ⟨h1, vs, h2, h3⟩ := id o
    refine ⟨_, hσ, .inl ⟨rfl, vs, .inl (.inl h2)⟩, he s (Ex.refl _) _ fun v s1 k1 r1 => ?_⟩
    have f1 := k1.n _ _ h2 h1
    have g1 := k1.h _ _ h2
    refine ⟨p, vs, v, rfl, rfl, g1, by rw [h3.len]; exact hz, ?_⟩
    exact k (s1.put p (.lst (vs ++ [v])) f1) (k1.mx.trans (Mx.put f1)) ⟨f1, _, upd_same, (h3.mono k1.f).snoc r1⟩)
theorem foldO_drop {τ υ : Type} {f : υ → τ → Option υ} {b b1 : υ} {xs : List τ} {i : Nat} (hi : i < xs.length) (h : foldO f b (xs.drop i) = some b1) : ∃ b', f b xs[i] = some b' ∧ foldO f b' (xs.drop (i + 1)) = some b1 := by
  rw [List.drop_eq_getElem_cons hi] at h
  exact bndE h
theorem do_for_core {τ : Type} [Enc τ] {xs : List τ} {body : List Stmt} {g : TG} {B : Hp → τ → St → St → Prop} (hp : PassesOwn (model X.prog X.w) X.A X.env X.xe) (hc : X.calm = true) (hi : EvI X tg iter σ s xs) (hg : PG X tg g) (T : Tgt (α := τ) X.K g B)
    (R : Nat → St → S → Prop) (h0 : ∀ s1, Ex s s1 → R 0 σ s1)
    (hb : ∀ s1, Ex s s1 → ∀ (i : Nat) (x : τ) (σ' σ2 : St) (t t' : S), xs[i]? = some x → Fle s1.F t.F → R i σ' t → Ex t t' → B t'.F x σ' σ2 → WSs X body (LD D fun σ s => Fle t'.F s.F ∧ R (i + 1) σ s) σ2 t'.H)
    (hd : ∀ s1, Ex s s1 → ∀ σ' t, Fle s1.F t.F → R xs.length σ' t → WSs X rest D σ' t.H)
    (hs : ∀ x, foldedSetIterable iter X.env x = pure x := by intro _; rfl) : WSs X (.For tg iter body [] pos :: rest) D σ s.H :=
  do_cons (ps_for hp hc pi_wi hg pss_ws hs) (hi s (Ex.refl _) _ fun J s1 k1 W => by
    refine ⟨fun i m σ' H' => ∃ t : S, t.H = H' ∧ m = xs.length - i ∧ i ≤ xs.length ∧ Fle s1.F t.F ∧ R i σ' t, ⟨xs.length, s1, rfl, rfl, Nat.zero_le _, Fle.refl _, h0 s1 k1⟩, ?_⟩
    rintro i m σ' H' ⟨t, rfl, rfl, hle, f, r⟩
    by_cases hlt : i < xs.length
    · right
      obtain ⟨g1, g2⟩ := W.go i t xs[i] f (List.getElem?_eq_getElem hlt)
      refine ⟨g1, fun σ' H' => ∃ u : S, u.H = H' ∧ Fle s1.F u.F ∧ R (i + 1) σ' u, fun σ' H' ⟨u, e1, f1, r1⟩ => ⟨xs.length - (i + 1), by omega, u, e1, rfl, hlt, f1, r1⟩, fun v H' hy => ?_⟩
      obtain ⟨t', rfl, kt, rv⟩ := g2 v H' hy
      refine T.run t' v xs[i] _ _ rv fun σ2 hB => ?_
      have := hb s1 k1 i xs[i] σ' σ2 t t' (List.getElem?_eq_getElem hlt) f r kt hB
      exact this.imp (fun σ3 H3 ⟨u, e1, f1, r1⟩ => ⟨u, e1, (f.trans kt.f).trans f1, r1⟩) (fun _ _ q => q) (fun _ _ q => q.elim) (fun _ _ q => q.elim)
    · left
      have e : i = xs.length := by omega
      subst e
      exact ⟨W.stop _ t f (Nat.le_refl _), hd s1 k1 σ' t f r⟩)
theorem do_forO {τ υ : Type} [Enc τ] {xs : List τ} {f : υ → τ → Option υ} {b0 b1 : υ} {body : List Stmt} {g : TG} {B : Hp → τ → St → St → Prop} (hp : PassesOwn (model X.prog X.w) X.A X.env X.xe) (hc : X.calm = true) (hi : EvI X tg iter σ s xs) (hg : PG X tg g) (T : Tgt (α := τ) X.K g B)
    (hf : foldO f b0 xs = some b1) (R : υ → St → S → Prop) (h0 : ∀ s1, Ex s s1 → R b0 σ s1)
    (hb : ∀ s1, Ex s s1 → ∀ (x : τ) (b b' : υ) (σ' σ2 : St) (t t' : S), x ∈ xs → f b x = some b' → Fle s1.F t.F → R b σ' t → Ex t t' → B t'.F x σ' σ2 → WSs X body (LD D fun σ s => Fle t'.F s.F ∧ R b' σ s) σ2 t'.H)
    (hd : ∀ s1, Ex s s1 → ∀ σ' t, Fle s1.F t.F → R b1 σ' t → WSs X rest D σ' t.H)
    (hs : ∀ x, foldedSetIterable iter X.env x = pure x := by intro _; rfl) : WSs X (.For tg iter body [] pos :: rest) D σ s.H :=
  do_for_core hp hc hi hg T (fun i σ' t => ∃ b, foldO f b (xs.drop i) = some b1 ∧ R b σ' t) (fun s1 k => ⟨b0, hf, h0 s1 k⟩)
    (fun s1 k i x σ' σ2 t t' hx fl ⟨b, h1, h2⟩ kt hB => by
      obtain ⟨hlt, rfl⟩ := List.getElem?_eq_some_iff.mp hx
      obtain ⟨b', h3, h4⟩ := foldO_drop hlt h1
      exact (hb s1 k xs[i] b b' σ' σ2 t t' (List.getElem_mem hlt) h3 fl h2 kt hB).imp (fun σ3 H3 ⟨u, e1, f1, r1⟩ => ⟨u, e1, f1, b', h4, r1⟩) (fun _ _ q => q) (fun _ _ q => q.elim) (fun _ _ q => q.elim))
    (fun s1 k σ' t fl ⟨b, h1, h2⟩ => by
      rw [List.drop_length] at h1
      cases h1
      exact hd s1 k σ' t fl h2) hs
theorem foldF_drop {τ υ ρ : Type} {f : υ → τ → Option (Fl υ ρ)} {b : υ} {o : Fl υ ρ} {xs : List τ} {i : Nat} (hi : i < xs.length) (h : foldF f b (xs.drop i) = some o) : ∃ q, f b xs[i] = some q ∧ (∀ b', q = .nx b' → foldF f b' (xs.drop (i + 1)) = some o) ∧ ∀ r, q = .rt r → o = .rt r := by
  rw [List.drop_eq_getElem_cons hi] at h
  obtain ⟨q, h1, h2⟩ := bndE h
  refine ⟨q, h1, fun b' e => by subst e; exact h2, fun r e => by subst e; exact (Option.some.inj h2).symm⟩
theorem do_forF {τ υ ρ : Type} [Enc τ] {xs : List τ} {f : υ → τ → Option (Fl υ ρ)} {b0 : υ} {o : Fl υ ρ} {body : List Stmt} {g : TG} {B : Hp → τ → St → St → Prop} (hp : PassesOwn (model X.prog X.w) X.A X.env X.xe) (hc : X.calm = true) (hi : EvI X tg iter σ s xs) (hg : PG X tg g) (T : Tgt (α := τ) X.K g B)
    (hf : foldF f b0 xs = some o) (R : υ → St → S → Prop) (h0 : ∀ s1, Ex s s1 → R b0 σ s1)
    (hb : ∀ s1, Ex s s1 → ∀ (x : τ) (b : υ) (q : Fl υ ρ) (σ' σ2 : St) (t t' : S), x ∈ xs → f b x = some q → (∀ r, q = .rt r → o = .rt r) → Fle s1.F t.F → R b σ' t → Ex t t' → B t'.F x σ' σ2 → WSs X body (LD D fun σ s => ∃ b', q = .nx b' ∧ Fle t'.F s.F ∧ R b' σ s) σ2 t'.H)
    (hd : ∀ s1, Ex s s1 → ∀ b1 σ' t, o = .nx b1 → Fle s1.F t.F → R b1 σ' t → WSs X rest D σ' t.H)
    (hs : ∀ x, foldedSetIterable iter X.env x = pure x := by intro _; rfl) : WSs X (.For tg iter body [] pos :: rest) D σ s.H :=
  do_for_core hp hc hi hg T (fun i σ' t => ∃ b, foldF f b (xs.drop i) = some o ∧ R b σ' t) (fun s1 k => ⟨b0, hf, h0 s1 k⟩)
    (fun s1 k i x σ' σ2 t t' hx fl ⟨b, h1, h2⟩ kt hB => by
      obtain ⟨hlt, rfl⟩ := List.getElem?_eq_some_iff.mp hx
      obtain ⟨q, h3, h4, h5⟩ := foldF_drop hlt h1
      exact (hb s1 k xs[i] b q σ' σ2 t t' (List.getElem_mem hlt) h3 h5 fl h2 kt hB).imp (fun σ3 H3 ⟨u, e1, b', e2, f1, r1⟩ => ⟨u, e1, f1, b', h4 b' e2, r1⟩) (fun _ _ q => q) (fun _ _ q => q.elim) (fun _ _ q => q.elim))
    (fun s1 k σ' t fl ⟨b, h1, h2⟩ => by
      rw [List.drop_length] at h1
      cases h1
      exact hd s1 k b σ' t rfl fl h2) hs
theorem do_whileO {υ : Type} {cf : υ → Option Bool} {f : υ → Option υ} {n : Nat} {b0 b1 : υ} {body : List Stmt} (hp : PassesOwn (model X.prog X.w) X.A X.env X.xe) (hf : whileO cf f n b0 = some b1) (R : υ → St → S → Prop) (h0 : R b0 σ s)
    (hc : ∀ (b : υ) (x : Bool) (σ' : St) (t : S), cf b = some x → Fle s.F t.F → R b σ' t → EvT X c σ' t x)
    (hb : ∀ (b b' : υ) (σ' : St) (t t' : S), cf b = some true → f b = some b' → Fle s.F t.F → R b σ' t → Ex t t' → WSs X body (LD D fun σ s => Fle t'.F s.F ∧ R b' σ s) σ' t'.H)
    (hd : ∀ σ' t t', cf b1 = some false → Fle s.F t.F → R b1 σ' t → Ex t t' → WSs X rest D σ' t'.H) : WSs X (.While c body [] pos :: rest) D σ s.H :=
  do_cons (ps_while hp pt_wt pss_ws) (by
    refine ⟨fun m σ' H' => ∃ (t : S) (b : υ), t.H = H' ∧ Fle s.F t.F ∧ whileO cf f m b = some b1 ∧ R b σ' t, ⟨n, s, b0, rfl, Fle.refl _, hf, h0⟩, ?_⟩
    rintro m σ' H' ⟨t, b, rfl, fl, h1, h2⟩
    cases m with
    | zero => cases h1
    | succ m =>
      obtain ⟨x, h3, h4⟩ := bndE h1
      refine hc b x σ' t h3 fl h2 t (Ex.refl _) _ fun t' kt => ?_
      cases x with
      | true =>
        refine iteT ?_
        rw [if_pos rfl] at h4
        obtain ⟨b', h5, h6⟩ := bndE h4
        refine ⟨fun σ3 H3 => ∃ u : S, u.H = H3 ∧ Fle s.F u.F ∧ R b' σ3 u, fun σ3 H3 ⟨u, e1, f1, r1⟩ => ⟨m, Nat.lt_succ_self _, u, b', e1, f1, h6, r1⟩, ?_⟩
        exact (hb b b' σ' t t' h3 h5 fl h2 kt).imp (fun σ3 H3 ⟨u, e1, f1, r1⟩ => ⟨u, e1, (fl.trans kt.f).trans f1, r1⟩) (fun _ _ q => q) (fun _ _ q => q.elim) (fun _ _ q => q.elim)
      | false =>
        refine iteF ?_
        rw [if_neg Bool.false_ne_true] at h4
        cases h4
        exact hd σ' t t' h3 fl h2 kt)
end
end Dy

namespace Dy
open PySem PySem.Spec L2
open PyProof.Rows hiding St
open Enc (rep)
open Flat (toV)
open EncA (repA)

section
variable {P : Program} {w : World} {K : PySem.W.Frag} {mg : Str → Option Value} {base : Heap}
abbrev FunP (K : PySem.W.Frag) (x : Str) (st : Stmt) (f : Addr) (fd : FuncData) : Prop := FunD K x x (defArgs st) (defBody st) (defScope st) [] [] f fd
theorem mk_fn {A ρ : Type} [EncA A] [Enc ρ] {m : A → Option ρ} {x : Str} {st : Stmt} {f : Addr} {fd : FuncData} {N ps : List Str} {k : Nat} (F : FunP K x st f fd) (Sc : FnScope N ps (defScope st))
    (hl : ∀ (F : Hp) (vs : List V) (a : A), repA K F vs a → vs.length = ps.length)
    (body : ∀ (cdv : Value) (A' : Around) (outer : List Env) (s0 : Shared) (H0 : Hp) (E0 : XK), Room k (A'.deeper (envOfC x (defScope st) s0.heap.objs.size f cdv)) → ∀ (s : S) (vs : List V) (a : A) (r : ρ) (Q : VK), repA K s.F vs a → m a = some r →
      (∀ v s', Ex s s' → rep K s'.F v r → Q v s'.H) → WSs (cxOf CX0 P w K mg base N x (defScope st) f cdv A' outer s0 H0 E0).nox (defBody st) (RD Q) (start N vs) s.H) : FnOk P w K mg base CX0 (k + 1) f fd ps (sp K m) :=
  F.ok Sc (fun vs H Q E ⟨s, a, r, _, h, _⟩ => hl s.F vs a h) (fun cdv A' outer s0 H0 vs Q E hr ⟨s, a, r, e, h1, h2, h3⟩ => ⟨_, pss_ws.nox, by
    have := body cdv A' outer s0 H0 E hr s vs a r Q h1 h2 h3
    rw [e] at this
    exact this⟩)
theorem mk_cal {A ρ : Type} [EncA A] [Enc ρ] {m : A → Option ρ} {x : Str} {st : Stmt} {f : Addr} {fd : FuncData} {N ps : List Str} {k : Nat} (F : FunP K x st f fd) (hm : mg x = some (.ref f)) (b : Binds K fd ps []) (Sc : FnScope N ps (defScope st))
    (hl : ∀ (F : Hp) (vs : List V) (a : A), repA K F vs a → vs.length = ps.length)
    (body : ∀ (cdv : Value) (A' : Around) (outer : List Env) (s0 : Shared) (H0 : Hp) (E0 : XK), Room k (A'.deeper (envOfC x (defScope st) s0.heap.objs.size f cdv)) → ∀ (s : S) (vs : List V) (a : A) (r : ρ) (Q : VK), repA K s.F vs a → m a = some r →
      (∀ v s', Ex s s' → rep K s'.F v r → Q v s'.H) → WSs (cxOf CX0 P w K mg base N x (defScope st) f cdv A' outer s0 H0 E0).nox (defBody st) (RD Q) (start N vs) s.H) : Cal P w K mg base CX0 (k + 1) x (sp K m) :=
  ⟨f, fd, ps, F.ok Sc (fun vs H Q E ⟨s, a, r, _, h, _⟩ => hl s.F vs a h) (fun cdv A' outer s0 H0 vs Q E hr ⟨s, a, r, e, h1, h2, h3⟩ => ⟨_, pss_ws.nox, by
    have := body cdv A' outer s0 H0 E hr s vs a r Q h1 h2 h3
    rw [e] at this
    exact this⟩), hm, F.kp, b⟩
theorem len1 {α : Type} [Enc α] (F : Hp) (vs : List V) (a : α × Unit) (h : repA K F vs a) : vs.length = 1 := by obtain ⟨_, _, rfl, _, rfl⟩ := h; rfl
theorem len2 {α β : Type} [Enc α] [Enc β] (F : Hp) (vs : List V) (a : α × β × Unit) (h : repA K F vs a) : vs.length = 2 := by obtain ⟨_, _, rfl, _, _, _, rfl, _, rfl⟩ := h; rfl
theorem len3 {α β γ : Type} [Enc α] [Enc β] [Enc γ] (F : Hp) (vs : List V) (a : α × β × γ × Unit) (h : repA K F vs a) : vs.length = 3 := by obtain ⟨_, _, rfl, _, _, _, rfl, _, _, _, rfl, _, rfl⟩ := h; rfl
end

class Ty (α : Type) extends Enc α where
  ty : α → String
  is : ∀ {K : PySem.W.Frag} {F H : Hp} {v : V} {x : α}, rep K F v x → Fle F H → TyX K H v (.type (ty x))
theorem sql_ty {K : PySem.W.Frag} {H : Hp} {p : Addr} {vs : List V} (h : SqL K H p vs) : TyX K H (.ref p) (.type "list") := by
  rcases h with (h | ⟨o, h⟩) | ⟨o, its, n, h, hc, _⟩
  · exact .base (.lst h)
  · exact .base (.frz h)
  · exact .kList h hc
theorem sqt_ty {K : PySem.W.Frag} {H : Hp} {p : Addr} {vs : List V} (h : SqT K H p vs) : TyX K H (.ref p) (.type "tuple") := by
  rcases h with (h | ⟨o, h⟩) | ⟨o, its, n, h, hc, _⟩
  · exact .base (.tup h)
  · exact .fTuple h
  · exact .kTuple h hc
instance : Ty Int := ⟨fun _ => "int", fun {K F H v x} h _ => by rw [show v = V.int x from h]; exact .base (.int _)⟩
instance : Ty Bool := ⟨fun _ => "bool", fun {K F H v x} h _ => by rw [show v = V.bl x from h]; exact .base (.bl _)⟩
instance : Ty Str := ⟨fun _ => "str", fun {K F H v x} h _ => by rw [show v = V.str x from h]; exact .base (.str _)⟩
instance {α : Type} [Ty α] : Ty (Option α) := ⟨fun x => match x with | none => "NoneType" | some y => Ty.ty y, fun {K F H v x} h f => by
  cases x with
  | none => rw [show v = V.non from h]; exact .base .non
  | some y => exact Ty.is (α := α) h f⟩
instance {α : Type} [Enc α] : Ty (List α) := ⟨fun _ => "list", fun h f => by
  obtain ⟨p, vs, rfl, h1, _⟩ := h
  exact sql_ty (sql_mono f h1)⟩
instance {α : Type} [Enc α] : Ty (Tu α) := ⟨fun _ => "tuple", fun h f => by
  obtain ⟨p, vs, rfl, h1, _⟩ := h
  exact sqt_ty (sqt_mono f h1)⟩
instance {α β : Type} [Enc α] [Enc β] : Ty (α × β) := ⟨fun _ => "tuple", fun h f => by
  obtain ⟨p, v1, v2, rfl, h1, _⟩ := h
  exact sqt_ty (sqt_mono f h1)⟩
instance {α : Type} [Enc α] : Ty (T1 α) := ⟨fun _ => "tuple", fun h f => by
  obtain ⟨p, v1, rfl, h1, _⟩ := h
  exact sqt_ty (sqt_mono f h1)⟩
instance {α β γ : Type} [Enc α] [Enc β] [Enc γ] : Ty (T3 α β γ) := ⟨fun _ => "tuple", fun h f => by
  obtain ⟨p, v1, v2, v3, rfl, h1, _⟩ := h
  exact sqt_ty (sqt_mono f h1)⟩
instance {α β γ δ : Type} [Enc α] [Enc β] [Enc γ] [Enc δ] : Ty (T4 α β γ δ) := ⟨fun _ => "tuple", fun h f => by
  obtain ⟨p, v1, v2, v3, v4, rfl, h1, _⟩ := h
  exact sqt_ty (sqt_mono f h1)⟩
instance {α β γ δ ε : Type} [Enc α] [Enc β] [Enc γ] [Enc δ] [Enc ε] : Ty (T5 α β γ δ ε) := ⟨fun _ => "tuple", fun h f => by
  obtain ⟨p, v1, v2, v3, v4, v5, rfl, h1, _⟩ := h
  exact sqt_ty (sqt_mono f h1)⟩
section
variable {α β : Type} {X : Cx} {σ : St} {s : S} {a b : Expr} {pos p0 p1 p2 p3 : Pos}
class EqD (α : Type) extends Enc α where
  toD : α → PyData
  dp : ∀ {K : PySem.W.Frag} {F H : Hp} {v : V} {x : α}, rep K F v x → Fle F H → Dp K H v (toD x)
  eqv : ∀ x y : α, PyData.eqv (toD x) (toD y) = true ↔ x = y
def DpR {α : Type} [EqD α] {K : PySem.W.Frag} {F H : Hp} (f : Fle F H) : ∀ {vs : List V} {xs : List α}, Reps K F vs xs → DpAll K H vs (xs.map EqD.toD)
  | [], [], _ => .nil
  | _ :: _, _ :: _, ⟨h, t⟩ => .cons (EqD.dp h f) (DpR f t)
  | [], _ :: _, h => h.elim
  | _ :: _, [], h => h.elim
theorem eqv_all {α : Type} [EqD α] : ∀ xs ys : List α, PyData.eqvAll (xs.map EqD.toD) (ys.map EqD.toD) = true ↔ xs = ys
  | [], [] => by simp [PyData.eqvAll]
  | [], _ :: _ => by simp [PyData.eqvAll]
  | _ :: _, [] => by simp [PyData.eqvAll]
  | x :: xs, y :: ys => by
    show (PyData.eqv (EqD.toD x) (EqD.toD y) && PyData.eqvAll (xs.map EqD.toD) (ys.map EqD.toD)) = true ↔ _
    rw [Bool.and_eq_true, EqD.eqv, eqv_all xs ys]
    simp
instance : EqD Int := ⟨PyData.int, fun {K F H v x} h _ => by rw [show v = V.int x from h]; exact .int _, fun x y => by show (x == y) = true ↔ _; simp⟩
instance : EqD Bool := ⟨PyData.bool, fun {K F H v x} h _ => by rw [show v = V.bl x from h]; exact .bl _, fun x y => by show (x == y) = true ↔ _; simp⟩
instance : EqD Str := ⟨PyData.str, fun {K F H v x} h _ => by rw [show v = V.str x from h]; exact .str _, fun x y => by show (x == y) = true ↔ _; simp⟩
instance : EqD (Option Int) := ⟨fun x => match x with | none => .none | some i => .int i, fun {K F H v x} h _ => by
  cases x with
  | none => rw [show v = V.non from h]; exact .non
  | some i => rw [show v = V.int i from h]; exact .int _, fun x y => by cases x <;> cases y <;> simp [PyData.eqv]⟩
instance : EqD (Option Str) := ⟨fun x => match x with | none => .none | some i => .str i, fun {K F H v x} h _ => by
  cases x with
  | none => rw [show v = V.non from h]; exact .non
  | some i => rw [show v = V.str i from h]; exact .str _, fun x y => by cases x <;> cases y <;> simp [PyData.eqv]⟩
instance {α : Type} [EqD α] : EqD (List α) := ⟨fun xs => .list (xs.map EqD.toD), fun h f => by
  obtain ⟨p, vs, rfl, h1, h2⟩ := h
  exact .lst (sql_mono f h1) (DpR f h2), fun x y => eqv_all x y⟩
instance {α : Type} [EqD α] : EqD (Tu α) := ⟨fun xs => .tuple (xs.l.map EqD.toD), fun h f => by
  obtain ⟨p, vs, rfl, h1, h2⟩ := h
  exact .tup (sqt_mono f h1) (DpR f h2), fun x y => by
    obtain ⟨x⟩ := x
    obtain ⟨y⟩ := y
    show PyData.eqvAll _ _ = true ↔ _
    rw [eqv_all]; simp⟩
instance {α β : Type} [EqD α] [EqD β] : EqD (α × β) := ⟨fun x => .tuple [EqD.toD x.1, EqD.toD x.2], fun h f => by
  obtain ⟨p, v1, v2, rfl, h0, h1, h2⟩ := h
  exact .tup (sqt_mono f h0) (.cons (EqD.dp h1 f) (.cons (EqD.dp h2 f) .nil)), fun x y => by
    obtain ⟨x1, x2⟩ := x
    obtain ⟨y1, y2⟩ := y
    show (PyData.eqv _ _ && (PyData.eqv _ _ && true)) = true ↔ _
    rw [Bool.and_eq_true, Bool.and_eq_true, EqD.eqv, EqD.eqv]; simp⟩
instance {α β γ : Type} [EqD α] [EqD β] [EqD γ] : EqD (T3 α β γ) := ⟨fun x => .tuple [EqD.toD x.a, EqD.toD x.b, EqD.toD x.c], fun h f => by
  obtain ⟨p, v1, v2, v3, rfl, h0, h1, h2, h3⟩ := h
  exact .tup (sqt_mono f h0) (.cons (EqD.dp h1 f) (.cons (EqD.dp h2 f) (.cons (EqD.dp h3 f) .nil))), fun x y => by
    obtain ⟨x1, x2, x3⟩ := x
    obtain ⟨y1, y2, y3⟩ := y
    show (PyData.eqv _ _ && (PyData.eqv _ _ && (PyData.eqv _ _ && true))) = true ↔ _
    rw [Bool.and_eq_true, Bool.and_eq_true, Bool.and_eq_true, EqD.eqv, EqD.eqv, EqD.eqv]; simp⟩
instance {α : Type} [EqD α] : EqD (T1 α) := ⟨fun x => .tuple [EqD.toD x.a], fun h f => by
  obtain ⟨p, v1, rfl, h0, h1⟩ := h
  exact .tup (sqt_mono f h0) (.cons (EqD.dp h1 f) .nil), fun x y => by
    obtain ⟨x1⟩ := x
    obtain ⟨y1⟩ := y
    show (PyData.eqv _ _ && true) = true ↔ _
    rw [Bool.and_eq_true, EqD.eqv]; simp⟩
def shp {α : Type} [EqD α] (x : α) : Prop := SeqAt.shaped (EqD.toD x) = true
theorem eqv_dec {α : Type} [EqD α] [DecidableEq α] (x y : α) : PyData.eqv (EqD.toD x) (EqD.toD y) = decide (x = y) := by
  rw [Bool.eq_iff_iff, EqD.eqv, decide_eq_true_eq]
theorem repR_d {α : Type} [EqD α] {K : PySem.W.Frag} {v : V} {xs : List α} (h : RepR K s v xs) : Dp K s.H v (EqD.toD xs) := by
  obtain ⟨p, vs, rfl, h1, h2⟩ := h
  exact .lst h1 (DpR s.sub h2)
theorem hu64 {j : Nat} (hr : Room j X.A) : X.A.units + 64 < cLine := by
  have := hr.un
  omega
theorem eb_neL [EqD α] [DecidableEq α] {x y : List α} {j : Nat} (hr : Room j X.A) (ha : EvR X a σ s x) (hb : EvR X b σ s y) (h1 : shp x) (h2 : shp y) : EvB X (.Compare a [.NotEq] [b] pos) σ s (!decide (x = y)) :=
  eb_cmpRR (op_neD (hu64 hr)) ha hb (fun v u s2 hv hu Q q => ⟨_, _, repR_d hv, repR_d hu, h1, h2, by rw [eqv_dec]; exact q⟩) (nomark _)
end

class Shp (α : Type) (n : outParam Nat) extends EqD α where
  ok : ∀ x : α, PyData.canLay0 (EqD.toD x) = true ∧ PyData.depth (EqD.toD x) ≤ n
theorem shp_all {α : Type} {n : Nat} [Shp α n] : ∀ xs : List α, PyData.canLayAll0 (xs.map EqD.toD) = true ∧ PyData.depthAll (xs.map EqD.toD) ≤ n
  | [] => ⟨by simp [PyData.canLayAll0], by simp [PyData.depthAll]⟩
  | x :: xs => by
    obtain ⟨h1, h2⟩ := shp_all xs
    obtain ⟨h3, h4⟩ := Shp.ok x
    refine ⟨?_, ?_⟩
    · show PyData.canLayAll0 (EqD.toD x :: xs.map EqD.toD) = true
      unfold PyData.canLayAll0
      rw [h3, h1]; rfl
    · show PyData.depthAll (EqD.toD x :: xs.map EqD.toD) ≤ n
      unfold PyData.depthAll
      omega
instance : Shp Int 0 := ⟨fun x => ⟨by show PyData.canLay0 (.int x) = true; unfold PyData.canLay0; rfl, by show PyData.depth (.int x) ≤ 0; unfold PyData.depth; omega⟩⟩
instance : Shp Bool 0 := ⟨fun x => ⟨by show PyData.canLay0 (.bool x) = true; unfold PyData.canLay0; rfl, by show PyData.depth (.bool x) ≤ 0; unfold PyData.depth; omega⟩⟩
instance : Shp (Option Int) 0 := ⟨fun x => by
  cases x with
  | none => exact ⟨by show PyData.canLay0 .none = true; unfold PyData.canLay0; rfl, by show PyData.depth .none ≤ 0; unfold PyData.depth; omega⟩
  | some i => exact ⟨by show PyData.canLay0 (.int i) = true; unfold PyData.canLay0; rfl, by show PyData.depth (.int i) ≤ 0; unfold PyData.depth; omega⟩⟩
instance {α : Type} {n : Nat} [Shp α n] : Shp (List α) (n + 1) := ⟨fun x => by
  obtain ⟨h1, h2⟩ := shp_all x
  refine ⟨?_, ?_⟩
  · show PyData.canLay0 (.list (x.map EqD.toD)) = true
    unfold PyData.canLay0; exact h1
  · show PyData.depth (.list (x.map EqD.toD)) ≤ n + 1
    unfold PyData.depth; omega⟩
instance {α : Type} {n : Nat} [Shp α n] : Shp (Tu α) (n + 1) := ⟨fun x => by
  obtain ⟨h1, h2⟩ := shp_all x.l
  refine ⟨?_, ?_⟩
  · show PyData.canLay0 (.tuple (x.l.map EqD.toD)) = true
    unfold PyData.canLay0; exact h1
  · show PyData.depth (.tuple (x.l.map EqD.toD)) ≤ n + 1
    unfold PyData.depth; omega⟩
instance {α β : Type} {n m : Nat} [Shp α n] [Shp β m] : Shp (α × β) (n + m + 1) := ⟨fun x => by
  obtain ⟨h1, h2⟩ := Shp.ok x.1
  obtain ⟨h3, h4⟩ := Shp.ok x.2
  refine ⟨?_, ?_⟩
  · show PyData.canLay0 (.tuple [EqD.toD x.1, EqD.toD x.2]) = true
    simp [PyData.canLay0, PyData.canLayAll0, h1, h3]
  · show PyData.depth (.tuple [EqD.toD x.1, EqD.toD x.2]) ≤ n + m + 1
    simp [PyData.depth, PyData.depthAll]
    omega⟩
instance {α : Type} {n : Nat} [Shp α n] : Shp (T1 α) (n + 1) := ⟨fun x => by
  obtain ⟨h1, h2⟩ := Shp.ok x.a
  refine ⟨?_, ?_⟩
  · show PyData.canLay0 (.tuple [EqD.toD x.a]) = true
    simp [PyData.canLay0, PyData.canLayAll0, h1]
  · show PyData.depth (.tuple [EqD.toD x.a]) ≤ n + 1
    simp [PyData.depth, PyData.depthAll]
    omega⟩
theorem shp_of {α : Type} {n : Nat} [Shp α n] (x : α) (h : n ≤ 64 := by decide) : shp x := by
  obtain ⟨h1, h2⟩ := Shp.ok x
  unfold shp SeqAt.shaped
  rw [h1, decide_eq_true (Nat.le_trans h2 h)]; rfl

def spLaw (K : PySem.W.Frag) : Sp := fun vs H Q _ => ∃ (a : Addr) (ns : List Int), vs = [.ref a] ∧ SqL K H a (ns.map V.int) ∧ ns.length ≤ 63 ∧ ∀ H', Q (.bl true) H'
theorem law_of {P : Program} {w : World} {K : PySem.W.Frag} {mg : Str → Option Value} {base : Heap} {CX : CXT} {k : Nat} {f : Addr} {fd : FuncData} {ps : List Str} {m : List Int × Unit → Option Bool} (F : FnOk P w K mg base CX k f fd ps (sp K m)) (h : ∀ ns : List Int, ns.length ≤ 63 → m (ns, ()) = some true) : FnOk P w K mg base CX k f fd ps (spLaw K) :=
  F.imp fun vs H Q E ⟨a, ns, e, hs, hl, q⟩ => by
    subst e
    exact ⟨⟨H, H, fun _ _ h => h⟩, (ns, ()), true, rfl, ⟨.ref a, [], rfl, ⟨a, ns.map V.int, rfl, hs, Reps.of_flat ns⟩, rfl⟩, h ns hl, fun v s' _ r => by rw [show v = V.bl true from r]; exact q _⟩
end Dy

namespace Dy
open PySem PySem.Spec L2
open PyProof.Rows hiding St
open Enc (rep)
open Flat (toV)
open EncA (repA)

def strI (x : Int) : Str := toString x
noncomputable def sortI (xs : List Int) : List Int := xs.mergeSort (fun x y => decide (x ≤ y))
def Fl.go {β ρ γ : Type} (o : Fl β ρ) (k : β → γ) (e : ρ → γ) : γ := match o with
  | .nx b => k b
  | .rt r => e r
@[irreducible] def fuel : Nat := 1000000
theorem rng_mem {a b x : Int} (h : x ∈ rng a b) : a ≤ x ∧ x < b := by
  obtain ⟨i, hi⟩ := List.mem_iff_getElem?.mp h
  obtain ⟨h1, h2⟩ := rng_get hi
  omega
section
variable {α β γ δ ε : Type} [Enc α] [Enc β] [Enc γ] [Enc δ] [Enc ε] {X : Cx} {σ : St} {s t : S} {e a b c tg iter : Expr} {es : List Expr} {pos p0 p1 p2 p3 : Pos} {D : Ends} {rest A B body : List Stmt}
theorem ec_orO {x r : Bool} (h : EvB X a σ s x) (h2 : x = false → EvC X (.BoolOp .Or (b :: es) pos) σ s r) (h3 : x = true → r = true) : EvC X (.BoolOp .Or (a :: b :: es) pos) σ s r := by
  cases x with
  | false => exact (ec_or h h2 : EvC X _ σ s (false || r))
  | true =>
    have := ec_or (y := true) (es := es) (b := b) (pos := pos) h (fun z => Bool.noConfusion z)
    rw [h3 rfl]
    exact this
theorem et_tru {xs : List α} (h : EvR X e σ s xs) (he : ∀ whole, isTrue e X.env whole = (do let v ← whole; standAt e.pos; holding [v] (truthy v)) := by intro _; rfl) : EvT X e σ s (!xs.isEmpty) := fun s1 k Q q =>
  wt_of (pt_truth pe_we he) (h s1 k _ fun v s2 k2 r => by
    obtain ⟨p, vs, rfl, h1, h2⟩ := r
    refine ⟨_, .inl ⟨vs, h1, ?_⟩, q s2 k2⟩
    have := h2.len
    cases vs <;> cases xs <;> simp at this ⊢)
theorem do_drop {x : α} (h : Ev X e σ s x) (k : ∀ s1, Ex s s1 → WSs X rest D σ s1.H) (hs : swapsWith e none pos.line X.env = pure false := by rfl) : WSs X (.Expr e pos :: rest) D σ s.H :=
  do_cons (ps_expr pe_we hs) (h s (Ex.refl _) _ fun v s1 k1 r => k s1 k1)
theorem do_unp2 (i j : Nat) {x : α × β} (h : Ev X e σ s x) (k : ∀ v w s1, Ex s s1 → rep X.K s1.F v x.1 → rep X.K s1.F w x.2 → WSs X rest D ((σ.set i (some v)).set j (some w)) s1.H)
    (hg : PG X tg (gTup X.K 2 (gCons (gName i) (gCons (gName j) gNil)))) (hs : swapsWithSole [tg] e pos.line X.env = pure false := by rfl) (hw : swappedStores [tg] e X.env = pure none := by rfl)
    (h1 : (assignEach [tg] X.env).map (·.2) = [assign tg X.env] := by rfl) : WSs X (.Assign [tg] e pos :: rest) D σ s.H :=
  do_cons (ps_asg pe_we hg hs hw h1) (h s (Ex.refl _) _ fun v s1 k1 r => by
    obtain ⟨p, v1, v2, rfl, h0, h1, h2⟩ := r
    exact ⟨p, _, rfl, sqt_mono s1.sub h0, rfl, v1, _, rfl, v2, _, rfl, rfl, k v1 v2 s1 k1 h1 h2⟩)
theorem do_unp3 (i j l : Nat) {x : T3 α β γ} (h : Ev X e σ s x) (k : ∀ v w u s1, Ex s s1 → rep X.K s1.F v x.a → rep X.K s1.F w x.b → rep X.K s1.F u x.c → WSs X rest D (((σ.set i (some v)).set j (some w)).set l (some u)) s1.H)
    (hg : PG X tg (gTup X.K 3 (gCons (gName i) (gCons (gName j) (gCons (gName l) gNil))))) (hs : swapsWithSole [tg] e pos.line X.env = pure false := by rfl) (hw : swappedStores [tg] e X.env = pure none := by rfl)
    (h1 : (assignEach [tg] X.env).map (·.2) = [assign tg X.env] := by rfl) : WSs X (.Assign [tg] e pos :: rest) D σ s.H :=
  do_cons (ps_asg pe_we hg hs hw h1) (h s (Ex.refl _) _ fun v s1 k1 r => by
    obtain ⟨p, v1, v2, v3, rfl, h0, h1, h2, h3⟩ := r
    exact ⟨p, _, rfl, sqt_mono s1.sub h0, rfl, v1, _, rfl, v2, _, rfl, v3, _, rfl, rfl, k v1 v2 v3 s1 k1 h1 h2 h3⟩)
end
end Dy

namespace Dy
open PySem PySem.Spec L2
open PyProof.Rows hiding St

def Ok {α : Type} (m : Option α) (P : α → Prop) : Prop := ∃ r, m = some r ∧ P r
section
variable {α β γ ρ : Type}
theorem Ok.imp {m : Option α} {P Q : α → Prop} (h : Ok m P) (k : ∀ r, P r → Q r) : Ok m Q := let ⟨r, e, p⟩ := h; ⟨r, e, k r p⟩
theorem Ok.eq {m : Option α} {x : α} (h : Ok m (· = x)) : m = some x := by obtain ⟨r, e, rfl⟩ := h; exact e
theorem ok_some {x : α} {P : α → Prop} (p : P x) : Ok (some x) P := ⟨x, rfl, p⟩
theorem ok_ite {b : Bool} {m k : Option α} {Q : α → Prop} (h1 : b = true → Ok m Q) (h2 : b = false → Ok k Q) : Ok (if b = true then m else k) Q := by
  cases b with
  | true => exact h1 rfl
  | false => exact h2 rfl
theorem atI_get {xs : List α} {i : Int} (h0 : 0 ≤ i) (h1 : i < xs.length) : atI xs i = xs[i.toNat]? := by
  unfold atI ixN
  rw [if_pos h0, if_pos h1]; rfl
theorem ok_atI {xs : List α} {i : Int} {Q : α → Prop} (h0 : 0 ≤ i) (h1 : i < xs.length) (h : ∀ x, xs[i.toNat]? = some x → Q x) : Ok (atI xs i) Q := by
  rw [atI_get h0 h1]
  have hl : i.toNat < xs.length := by omega
  exact ⟨xs[i.toNat], List.getElem?_eq_getElem hl, h _ (List.getElem?_eq_getElem hl)⟩
theorem rng_len_nn {n : Int} (h : 0 ≤ n) : (rng 0 n).length = n.toNat := by rw [rng_len]; congr 1; omega
end
end Dy

namespace Dy
open PySem PySem.Spec L2
open PyProof.Rows hiding St
open Enc (rep)
open Flat (toV)
open EncA (repA)

section
variable {α β γ δ : Type} [Enc α] [Enc β] [Enc γ] [Enc δ] {X : Cx} {σ : St} {s t : S} {e a b c tg iter : Expr} {es : List Expr} {pos p0 p1 p2 p3 : Pos} {D : Ends} {rest A B body : List Stmt}
def RepS (x : Str) (n : Int) : Prop := PySem.MulOk x n
@[irreducible] def replS (x : Str) (n : Int) : Str := Txt.mul x n
def stepN (a b c : Int) : Nat := if a < b then ((b - a - 1) / c + 1).toNat else 0
def rngS (a b c : Int) : List Int := (List.range (stepN a b c)).map fun i : Nat => a + (i : Int) * c
def RgS (a b c : Int) : Prop := (-(2 ^ 61) ≤ a ∧ a < 2 ^ 61) ∧ (-(2 ^ 61) ≤ b ∧ b < 2 ^ 61) ∧ 0 < c ∧ c < 1000000
def popN (n : Nat) (i : Int) : Option Nat := if -(2 ^ 63) ≤ i ∧ i < 2 ^ 63 then seqIndex? i n else none
def InsOk (i : Int) (n : Nat) : Prop := 0 ≤ i ∧ i < 2 ^ 63 ∧ n < sizeLine
def insI {τ : Type} (xs : List τ) (i : Int) (x : τ) : List τ := xs.take i.toNat ++ [x] ++ xs.drop i.toNat
end
def Drawn (sizes ds : List Int) : Prop := ds.length = sizes.length ∧ ∀ (j : Nat) (d n : Int), ds[j]? = some d → sizes[j]? = some n → 0 ≤ d ∧ d < n
theorem bnd_some {α : Type} (m : Option α) : (bnd m fun x => some x) = m := by cases m <;> rfl
theorem ok_ret {α : Type} {m : Option α} {P : α → Prop} (h : Ok m P) : Ok (bnd m fun x => some x) P := by rw [bnd_some]; exact h
def txt (x : Str) : Prop := PyData.strOk x = true
end Dy

namespace Dy
open PySem PySem.Spec L2
open PyProof.Rows hiding St
open Enc (rep)
open Flat (toV)
open EncA (repA)

def S.back (s t : S) (h : Fle s.F t.F) : S := ⟨s.F, t.H, fun a o q => t.sub a o (h a o q)⟩
section
variable {α β γ δ : Type} [Enc α] [Enc β] [Enc γ] [Enc δ] {X : Cx} {σ : St} {s t : S} {e a b c tg iter : Expr} {es : List Expr} {pos p0 p1 p2 p3 p4 p5 : Pos} {D : Ends} {rest A B body : List Stmt}
section
variable {p : Addr} {n : Str} {xs : List α}
end
def popAt {τ : Type} (xs : List τ) (z : Int) : Option (τ × List τ) := (popN xs.length z).bind fun j => (xs[j]?).map fun y => (y, xs.eraseIdx j)
def popAll {σ τ : Type} (f : List τ → σ → Option Int) : List τ → List σ → Option (List τ)
  | _, [] => some []
  | l, x :: r => (f l x).bind fun z => (popAt l z).bind fun y => (popAll f y.2 r).bind fun ys => some (y.1 :: ys)
end
end Dy

namespace Dy
open PySem PySem.Spec L2
open PyProof.Rows hiding St

theorem mem_rng {a b x : Int} : x ∈ rng a b ↔ a ≤ x ∧ x < b := by
  constructor
  · exact rng_mem
  · intro ⟨h1, h2⟩
    unfold rng
    refine List.mem_map.mpr ⟨(x - a).toNat, List.mem_range.mpr (by omega), by omega⟩
theorem rng_nodup (a b : Int) : (rng a b).Nodup := by
  unfold rng
  refine List.Pairwise.map _ (fun x y h e => h (by omega)) List.nodup_range
theorem rng_sorted (a b : Int) : (rng a b).Pairwise (· ≤ ·) := by
  unfold rng
  refine List.Pairwise.map _ (fun x y h => ?_) List.pairwise_lt_range
  omega
theorem sort_perm (xs : List Int) : (sortI xs).Perm xs := List.mergeSort_perm _ _
theorem sort_of_perm {xs ys : List Int} (h : xs.Perm ys) (hs : ys.Pairwise (· ≤ ·)) : sortI xs = ys := by
  refine List.Perm.eq_of_pairwise (le := fun x y : Int => x ≤ y) (fun a b _ _ h h' => Int.le_antisymm h h') ?_ hs ((sort_perm xs).trans h)
  have := List.pairwise_mergeSort (le := fun x y : Int => decide (x ≤ y)) (fun a b c h1 h2 => by simp at *; omega) (fun a b => by simp; omega) xs
  exact this.imp (by simp)
def nxt (o : List Int) (x : Int) : Int := o.getD x.toNat 0
def it (o : List Int) : Nat → Int → Int
  | 0, x => x
  | k + 1, x => nxt o (it o k x)
structure IsOrd (o : List Int) : Prop where
  l1 : 1 ≤ o.length
  l2 : o.length ≤ 40
  pm : o.Perm (rng 0 o.length)
section
variable {o : List Int}
theorem IsOrd.sort (h : IsOrd o) : sortI o = rng 0 o.length := sort_of_perm h.pm (rng_sorted _ _)
theorem IsOrd.nd (h : IsOrd o) : o.Nodup := h.pm.nodup_iff.mpr (rng_nodup _ _)
theorem IsOrd.mem (h : IsOrd o) {x : Int} : x ∈ o ↔ 0 ≤ x ∧ x < o.length := h.pm.mem_iff.trans mem_rng
theorem nxt_get {x : Int} (h0 : 0 ≤ x) (h1 : x < o.length) : o[x.toNat]? = some (nxt o x) := by
  unfold nxt
  have : x.toNat < o.length := by omega
  rw [List.getElem?_eq_getElem this, List.getD_eq_getElem?_getD, List.getElem?_eq_getElem this]; rfl
theorem IsOrd.nxt (h : IsOrd o) {x : Int} (h0 : 0 ≤ x) (h1 : x < o.length) : 0 ≤ Dy.nxt o x ∧ Dy.nxt o x < o.length := h.mem.mp (List.mem_of_getElem? (nxt_get h0 h1))
theorem IsOrd.it (h : IsOrd o) {x : Int} (h0 : 0 ≤ x) (h1 : x < o.length) : ∀ k, 0 ≤ Dy.it o k x ∧ Dy.it o k x < o.length
  | 0 => ⟨h0, h1⟩
  | k + 1 => h.nxt (h.it h0 h1 k).1 (h.it h0 h1 k).2
theorem IsOrd.inj (h : IsOrd o) {x y : Int} (x0 : 0 ≤ x) (x1 : x < o.length) (y0 : 0 ≤ y) (y1 : y < o.length) (e : Dy.nxt o x = Dy.nxt o y) : x = y := by
  have h1 := nxt_get x0 x1
  have h2 := nxt_get y0 y1
  rw [← e] at h2
  obtain ⟨a1, b1⟩ := List.getElem?_eq_some_iff.mp h1
  obtain ⟨a2, b2⟩ := List.getElem?_eq_some_iff.mp h2
  have := (List.getElem_inj h.nd (i := x.toNat) (j := y.toNat) (h₀ := a1) (h₁ := a2)).mp (b1.trans b2.symm)
  omega
def srv (o : List Int) (m : Nat) : List Int := (rng 0 o.length).map (Dy.it o m)
end
end Dy

namespace Dy
open PySem PySem.Spec L2
open PyProof.Rows hiding St
instance {α β : Type} [Enc α] [Enc β] : Opn (α × β) := ⟨fun h => by obtain ⟨_, _, _, e, _⟩ := h; cases e⟩
instance {α β γ : Type} [Enc α] [Enc β] [Enc γ] : Opn (T3 α β γ) := ⟨fun h => by obtain ⟨_, _, _, _, e, _⟩ := h; cases e⟩
instance {α β γ : Type} {n m k : Nat} [Shp α n] [Shp β m] [Shp γ k] : Shp (T3 α β γ) (n + m + k + 1) := ⟨fun x => by
  obtain ⟨h1, h2⟩ := Shp.ok x.a
  obtain ⟨h3, h4⟩ := Shp.ok x.b
  obtain ⟨h5, h6⟩ := Shp.ok x.c
  refine ⟨?_, ?_⟩
  · show PyData.canLay0 (.tuple [EqD.toD x.a, EqD.toD x.b, EqD.toD x.c]) = true
    simp [PyData.canLay0, PyData.canLayAll0, h1, h3, h5]
  · show PyData.depth (.tuple [EqD.toD x.a, EqD.toD x.b, EqD.toD x.c]) ≤ n + m + k + 1
    simp [PyData.depth, PyData.depthAll]
    omega⟩
section
variable {X : Cx} {K : PySem.W.Frag} {a b e : Expr} {σ : St} {s : S} {p0 p1 p2 pos : Pos} {α β : Type} [Enc α] [Enc β]
def ixS (x y : Str) : Option Nat := (Builtin.Str.occurrences y x 0 y.length 1).head?
end
section
variable {α α' α'' β : Type} [Enc α] [Enc α'] [Enc α''] [Enc β] {X : Cx} {σ : St} {s : S} {elt tg iter c : Expr} {ifs : List Expr} {scope : Scope} {own : List (Str × Nat)} {pos : Pos}
theorem ev_some' {e : Expr} {x : Option α} {y : α} (ha : Ev X e σ s x) (h : x = some y) : Ev X e σ s y := fun s1 k Q q => by
  subst h
  exact ha s1 k Q fun v s2 k2 r2 => q v s2 k2 r2
end
end Dy

namespace Dy
open PySem PySem.Spec L2
open PyProof.Rows hiding St
open Enc (rep)
open EncA (repA)

inductive Er where
  | pl (c : Str)
  | pi (c f : Str) (i : Int)
  | ps (c f x : Str)
def Er.c : Er → Str
  | .pl c => c
  | .pi c _ _ => c
  | .ps c _ _ => c
inductive Rz (ρ : Type) where
  | ok (r : ρ)
  | er (e : Er)
def tb {α β : Type} (m : Option (Rz α)) (h : Er → Option β) (k : α → Option β) : Option β := match m with
  | none => none
  | some (.ok r) => k r
  | some (.er e) => h e
theorem tbE {α β : Type} {m : Option (Rz α)} {h : Er → Option β} {k : α → Option β} {o : β} (hm : tb m h k = some o) : (∃ e, m = some (.er e) ∧ h e = some o) ∨ ∃ r, m = some (.ok r) ∧ k r = some o := by
  cases m with
  | none => cases hm
  | some x => cases x with
    | ok r => exact .inr ⟨r, rfl, hm⟩
    | er e => exact .inl ⟨e, rfl, hm⟩
def ExR (K : PySem.W.Frag) (F : Hp) (e : Er) (cls : Value) (d : Option Addr) : Prop := match e with
  | .pl c => cls = .ref (He.ga K c) ∧ d = none
  | .pi c f i => cls = .ref (He.ga K c) ∧ ∃ dd, d = some dd ∧ F dd = some (.xd [(f, V.int i)])
  | .ps c f x => cls = .ref (He.ga K c) ∧ ∃ dd, d = some dd ∧ F dd = some (.xd [(f, V.str x)])
theorem exR_cls {K : PySem.W.Frag} {F : Hp} {e : Er} {cls : Value} {d : Option Addr} (h : ExR K F e cls d) : cls = .ref (He.ga K e.c) := by
  cases e with
  | pl c => exact h.1
  | pi c f i => exact h.1
  | ps c f x => exact h.1
theorem ExR.mono {K : PySem.W.Frag} {F F' : Hp} {e : Er} {cls : Value} {d : Option Addr} (k : Fle F F') (h : ExR K F e cls d) : ExR K F' e cls d := by
  cases e with
  | pl c => exact h
  | pi c f i => obtain ⟨h1, dd, h2, h3⟩ := h; exact ⟨h1, dd, h2, k _ _ h3⟩
  | ps c f x => obtain ⟨h1, dd, h2, h3⟩ := h; exact ⟨h1, dd, h2, k _ _ h3⟩
def RzQ {ρ : Type} [Enc ρ] (K : PySem.W.Frag) (s : S) (o : Rz ρ) (Q : VK) (E : XK) : Prop := match o with
  | .ok r => ∀ v s', Ex s s' → rep K s'.F v r → Q v s'.H
  | .er e => ∀ cls d s', Ex s s' → ExR K s'.F e cls d → E cls d s'.H
def spR {A : Type} [EncA A] {ρ : Type} [Enc ρ] (K : PySem.W.Frag) (m : A → Option (Rz ρ)) : Sp := fun vs H Q E => ∃ (s : S) (x : A) (o : Rz ρ), s.H = H ∧ repA K s.F vs x ∧ m x = some o ∧ RzQ K s o Q E
section
variable {X : Cx} {σ : St} {s : S} {e : Expr} {es : List Expr} {p0 p1 p2 pos : Pos} {α : Type} [Enc α]
theorem ev_callR {A : Type} [EncA A] {m : A → Option (Rz α)} {n : Str} {k j : Nat} {x : A} {r : α} (C : Cal X.prog X.w X.K X.mg X.base (L2.CX X.prog X.w) k n (spR X.K m)) (hr : Room j X.A) (hk : k ≤ j) (ha : EvA X (e :: es) σ s x) (h : m x = some (.ok r)) (hg : Gl X n := by rfl)
    (hdb : (n == ("__debug__" : Str)) = false := by decide) (he : starEach (e :: es) X.env = (false, eval e X.env) :: starEach es X.env := by rfl) (hpl : (backTo pos (starEach es X.env)).any (·.1) = false := by rfl) : Ev X (.Call (.Name n p0) (e :: es) [] pos) σ s r := fun s1 k1 Q q => by
  obtain ⟨f, fd, ps, F, hm, kp, b⟩ := C.ex
  refine we_of (pe_callS (E := fun _ _ _ _ => False) F (hr.mono hk) hg hm kp b (fun σ' pins H sh ev s' I c => ?_) pa_wa hdb he hpl) (ha s1 k1 _ fun vs s2 k2 r2 => ⟨s2, x, .ok r, rfl, r2, h, fun v s3 k3 r3 => q v s3 (k2.trans k3) r3⟩)
  obtain ⟨_, _, _, _, _, _, _, _, _, _, _, _, hf⟩ := c
  exact hf.elim
def EvX (X : Cx) (e : Expr) (σ : St) (s : S) : Prop := ∀ s1, Ex s s1 → ∀ Q, WE X e σ s1.H Q
theorem EvX.ev (h : EvX X e σ s) (x : α) : Ev X e σ s x := fun s1 k Q _ => h s1 k Q
theorem evX_call {A : Type} [EncA A] {ρ : Type} [Enc ρ] {m : A → Option (Rz ρ)} {n : Str} {k j : Nat} {x : A} {er : Er} {W : WX} (C : Cal X.prog X.w X.K X.mg X.base (L2.CX X.prog X.w) k n (spR X.K m)) (tk : Takes X W) (hr : Room j X.A) (hk : k ≤ j) (ha : EvA X (e :: es) σ s x) (h : m x = some (.er er))
    (hw : ∀ cls d s2, Ex s s2 → ExR X.K s2.F er cls d → W cls d σ s2.H) (hg : Gl X n := by rfl)
    (hdb : (n == ("__debug__" : Str)) = false := by decide) (he : starEach (e :: es) X.env = (false, eval e X.env) :: starEach es X.env := by rfl) (hpl : (backTo pos (starEach es X.env)).any (·.1) = false := by rfl) : EvX X (.Call (.Name n p0) (e :: es) [] pos) σ s := fun s1 k1 Q => by
  obtain ⟨f, fd, ps, F, hm, kp, b⟩ := C.ex
  exact we_of (pe_callS (E := L2.WE W) F (hr.mono hk) hg hm kp b (fun σ' => passAt tk σ') pa_wa hdb he hpl) (ha s1 k1 _ fun vs s2 k2 r2 => ⟨s2, x, .er er, rfl, r2, h, fun cls d s3 k3 r3 => hw cls d s3 ((k1.trans k2).trans k3) r3⟩)
inductive Nv where
  | nv
instance : Enc Nv := ⟨fun _ _ _ _ => False, fun _ h => h⟩
end
section
variable {P : Program} {w : World} {K : PySem.W.Frag} {mg : Str → Option Value} {base : Heap}
theorem mk_calR {A ρ : Type} [EncA A] [Enc ρ] {m : A → Option (Rz ρ)} {x : Str} {st : Stmt} {f : Addr} {fd : FuncData} {N ps : List Str} {k : Nat} (F : FunP K x st f fd) (hm : mg x = some (.ref f)) (b : Binds K fd ps []) (Sc : FnScope N ps (defScope st))
    (hl : ∀ (F : Hp) (vs : List V) (a : A), repA K F vs a → vs.length = ps.length)
    (body : ∀ (cdv : Value) (A' : Around) (outer : List Env) (s0 : Shared) (H0 : Hp) (E0 : XK), Room k (A'.deeper (envOfC x (defScope st) s0.heap.objs.size f cdv)) → ∀ (s : S) (vs : List V) (a : A) (o : Rz ρ) (Q : VK), repA K s.F vs a → m a = some o →
      RzQ K s o Q E0 → WSs (cxOf (L2.CX P w) P w K mg base N x (defScope st) f cdv A' outer s0 H0 E0) (defBody st) (RD Q) (start N vs) s.H) : Cal P w K mg base (L2.CX P w) (k + 1) x (spR K m) :=
  ⟨f, fd, ps, F.ok Sc (fun vs H Q E ⟨s, a, r, _, h, _⟩ => hl s.F vs a h) (fun cdv A' outer s0 H0 vs Q E hr ⟨s, a, o, e, h1, h2, h3⟩ => ⟨_, pss_ws, by
    have := body cdv A' outer s0 H0 E hr s vs a o Q h1 h2 h3
    rw [e] at this
    exact this⟩), hm, F.kp, b⟩
end
structure ExcF (K : PySem.W.Frag) (mg : Str → Option Value) (c : Str) : Prop where
  q : PySem.W.excIn K (He.ga K c) He.veBase "ValueError.__new__" = true
  kp : PySem.W.keepIn K (.ref (He.ga K c)) = true
  sb : PySem.W.subIn K (.ref (He.ga K c)) (.type "BaseException") = some true
  ty : PySem.W.typeIn K (.ref (He.ga K c)) = some (.type "type")
  gl : mg c = some (.ref (He.ga K c))
section
variable {X : Cx} {σ : St} {s : S} {D : Ends} {rest : List Stmt} {W : WX}
theorem do_raise0 {c m : Str} {j : Nat} {p p2 pos pos' : Pos} (T : ExcF X.K X.mg c) (tk : Takes X W) (h : W (.ref (He.ga X.K c)) none σ s.H) (hc : X.calm = true := by rfl) (hg : Gl X c := by rfl) (hdb : (c == ("__debug__" : Str)) = false := by decide) :
    WSs X (.Raise (some (.Call (.Name c p) [.Constant (.str m) j p2] [] pos)) none pos' :: rest) D σ s.H :=
  do_cons (ps_raise hc tk (pmk_own F.excBase_ValueError T.q T.gl T.kp (raises_own T.sb T.ty) hg hdb)) h
theorem do_tryAs (i : Nat) {x n : Str} {c : Value} {body suite : List Stmt} {b₀ : Stmt} {np pos pos' : Pos} {Wout : WX} (hN : X.N.Nodup) (hcN : Names X x c) (tk : Takes X Wout)
    (h : ∀ pn xe, Takes (X.tr pn xe) (wAs X.K c i (fun a cls d D σ H => ∀ (oe : Obj) (pn : List (Addr × Obj)), Zc cls d oe → (∃ vs, oe.data = .fields vs) → WSs (X.suite a ((a, oe) :: pn)) (b₀ :: suite) D σ H) Wout { D with nx := fun σ' H' => WSs X rest D σ' H' }) → PassesOwn (model X.prog X.w) X.A X.env xe →
      WSs (X.tr pn xe) body { D with nx := fun σ' H' => WSs X rest D σ' H' } σ s.H)
    (hs : X.stack = X.env :: X.outer := by rfl) (hf : X.env.frame = some X.env.locals := by rfl) (hi : X.N[i]? = some n := by rfl) (hln : X.env.kindOf n = some .local := by rfl) :
    WSs X (.Try body [.ExceptHandler (some (.Name x np)) (some n) (b₀ :: suite) pos'] [] [] pos :: rest) D σ s.H :=
  do_cons (ps_try_as (tb := fun W D σ H => ∀ pn xe, Takes (X.tr pn xe) W → PassesOwn (model X.prog X.w) X.A X.env xe → WSs (X.tr pn xe) body D σ H) (ts := fun a cls d D σ H => ∀ (oe : Obj) (pn : List (Addr × Obj)), Zc cls d oe → (∃ vs, oe.data = .fields vs) → WSs (X.suite a ((a, oe) :: pn)) (b₀ :: suite) D σ H)
    hs hf hN hi hln hcN tk (fun W pn xe t po => pss_im fun D σ H hh => hh pn xe t po) (fun a oe cls d pn hz hv => pss_im fun D σ H hh => hh oe pn hz hv)) h
end
end Dy

namespace Dy
open PySem PySem.Spec L2
open PyProof.Rows hiding St
open Enc (rep)
open EncA (repA)

section
open PySem.W PySem.Calls
variable {prog : Program} {w : World} {A : Around} {E : Value → Shared → Prop} {K : Frag} {x D : Addr} {ox : Obj} {od : Option Obj}
theorem cls_bind (T : ExcC K D) : findObj K D od "__class__" = some (.bind (.builtin "getset_descriptor.__get__") (.builtin "object.__class__")) := by
  obtain ⟨cd, hc⟩ := Option.isSome_iff_exists.mp (show (clsIn K D).isSome = true by obtain ⟨cd, hc, _⟩ := any_some T.hd; rw [hc]; rfl)
  unfold findObj
  rw [hc, Option.bind_some, T.ha, Option.bind_some]
  simp [T.hn, T.ht]
theorem asks_cls {s : Shared} {Q : Option Value → Shared → Prop} (T : ExcC K D) (X : K.In s.heap) (I : PySem.W.InstAt s.heap x ox D od) (h : Q (some (.ref D)) { s with toks := s.toks + 1 }) : wpAny (model prog w) A (getAttr? (.ref x) "__class__") Q E s := by
  obtain ⟨hp, g, d, t, os⟩ := s
  have l0 := I.type (M := model prog w)
  have l1 := looks_findIn (M := model prog w) X T.hg
  have l2 := looks_findIn (M := model prog w) X T.hk
  have l3 := looks_find (M := model prog w) X I (cls_bind T)
  have sub : Looks (model prog w) hp (isInstance (.ref x) (.type "BaseException")) true := l0.andThen (looks_subIn X T.hs)
  unfold getAttr? getAttrBy? getAttrBy
  refine wpAny_bind (wpAny_mkText (wpAny_bind (wpAny_attempt (wpAny_holding (wpAny_bind (l0.at (wpAny_bind (l1.at ?_))))))))
  have no : (onTheHeap (Value.ref D) && Value.builtin "BaseException.__getattribute__" == Value.builtin "object.__getattribute__") = false := by
    rw [show (Value.builtin "BaseException.__getattribute__" == Value.builtin "object.__getattribute__") = false by decide +kernel]; rfl
  show wpAny _ _ (if (onTheHeap (Value.ref D) && Value.builtin "BaseException.__getattribute__" == Value.builtin "object.__getattribute__") = true then _ else _) _ _ _
  rw [no, if_neg Bool.false_ne_true]
  unfold getAttrByItsOwn hookBefore
  refine wpAny_bind ?_
  rw [if_pos (show onTheHeap (Value.ref D) = true from rfl)]
  refine l2.at (wpAny_bind (wpAny_attempt (wpAny_holding ?_)))
  unfold callGetattribute
  rw [show (false && onTheHeap (Value.builtin "BaseException.__getattribute__")) = false from rfl, if_neg Bool.false_ne_true]
  unfold boundAndCalled
  rw [PySem.F.excAttr_ValueError.ga.bind (.ref x)]
  refine wpAny_bind (wpAny_pure ?_)
  show wpAny _ _ (call (.builtin "BaseException.__getattribute__") [.ref x, .str "__class__" t]) _ _ _
  refine wpAny_call (codeAny_call_builtin PySem.F.excAttr_ValueError.ga.plain PySem.F.entry_bexc_ga ?_)
  refine @check_slot (model prog w) _ _ ⟨hp, g, d, t + 1, os⟩ "BaseException.__getattribute__" "BaseException" "__getattribute__" (.ref x) [.str "__class__" t] [] _ (by decide +kernel) (by decide +kernel) sub (PySem.F.args_bexc_ga (.ref x) (.str "__class__" t)) ?_
  unfold Builtin.«object.__getattribute__»
  refine wpAny_bind (wpAny_of_eq (a := ((Value.ref x : Value), [Value.str "__class__" t])) (by first | rfl | (simp only [slotArgs]; rfl)) ?_)
  refine wpAny_bind (wpAny_pure (wpAny_bind (l0.at (wpAny_bind (l3.at ?_)))))
  show wpAny _ _ (holding [Value.builtin "object.__class__"] (call (.builtin "getset_descriptor.__get__") [.builtin "object.__class__", .ref x, .ref D]) >>= ret) _ _ _
  refine wpAny_bind (wpAny_holding (wpAny_call (class_get (s := ⟨hp, g, d, t + 1, os⟩) (ox := ox) (od := od) X I T.hm (wpAny_pure ?_))))
  show wpAny _ _ (handedOut (.ref D)) _ _ _
  rw [handedOut_of (v := .ref D) rfl]
  first
    | exact wpAny_pure (wpAny_pure h)
    | exact wpAny_pure h
    | exact wpAny_pure (wpAny_bind (wpAny_pure (wpAny_pure h)))
theorem cls_at (T : ExcC K D) : ∃ c' d' cd' sl', K.lookup D = some ⟨c', d', .cls cd', sl'⟩ := by
  obtain ⟨cd, hc, _⟩ := any_some T.hd
  unfold clsIn at hc
  split at hc
  · rename_i c' d' cd' sl' ho
    exact ⟨c', d', cd', sl', ho⟩
  · cases hc
def InstE (a D : Addr) (oe : Obj) : Heap → Prop := fun h => ∃ od, PySem.W.InstAt h a oe D od
theorem kit_exc (T : ExcC K D) : KitX K (.ref x) (.ref D) (InstE x D ox) where
  ty := fun _ _ _ ⟨_, I⟩ => I.type
  it := fun _ _ X _ => by
    obtain ⟨_, _, _, _, ho⟩ := cls_at T
    intro A' Q' E' s' k q
    unfold isType loadHead
    exact wpAny_bind (wpAny_loadPart (k _ _ (X _ _ ho)) (wpAny_pure q))
  ne := fun h tp dd its n sl X htp => by
    obtain ⟨_, _, _, _, ho⟩ := cls_at T
    refine Bool.eq_false_iff.mpr fun q => ?_
    obtain rfl : D = tp := Value.ref.inj (beq_iff_eq.mp q)
    cases (X _ _ ho).symm.trans htp
  ca := fun X ⟨_, I⟩ k => asks_cls T X I k
end

structure Rw where
  v : V
instance : Enc Rw := ⟨fun _ _ v x => v = x.v, fun _ h => h⟩
theorem rw_reps {K : PySem.W.Frag} {F : Hp} : ∀ {vs : List V} {xs : List Rw}, Reps K F vs xs → vs = xs.map (·.v)
  | [], [], _ => rfl
  | _ :: _, _ :: _, ⟨h, t⟩ => by rw [List.map_cons, ← rw_reps t, show _ = _ from h]
  | [], _ :: _, h => h.elim
  | _ :: _, [], h => h.elim
def clsR (K : PySem.W.Frag) (c : Str) : V := if c = ("ValueError" : Str) then .ty "ValueError" else .ref (He.ga K c)
def clsV (K : PySem.W.Frag) (c : Str) : Value := if c = ("ValueError" : Str) then .type "ValueError" else .ref (He.ga K c)
theorem cls_cv (K : PySem.W.Frag) (c : Str) : ClsV (clsR K c) (clsV K c) := by
  unfold clsR clsV
  split
  · exact .ty _
  · exact .own _
def excCB (K : PySem.W.Frag) (D : Addr) : Bool := xfB K D && (He.eqO (PySem.W.findIn K (.ref D) "__class__") (some (some (.builtin "object.__class__"))) && (He.eqO (PySem.W.specialIn K (.builtin "object.__class__") "__get__") (some (some (.builtin "getset_descriptor.__get__"))) &&
  (decide (PySem.W.takesIn K (.builtin "object.__class__") = some true) && decide (PySem.W.mroIn K D (.type "object") = some true))))
theorem excCB_ok {K : PySem.W.Frag} {D : Addr} (h : excCB K D = true) : ExcC K D := by
  unfold excCB at h
  obtain ⟨h0, h⟩ := He.ba h
  obtain ⟨h5, h⟩ := He.ba h
  obtain ⟨h6, h⟩ := He.ba h
  obtain ⟨h7, h8⟩ := He.ba h
  unfold xfB at h0
  obtain ⟨h1, h0⟩ := He.ba h0
  obtain ⟨h2, h0⟩ := He.ba h0
  obtain ⟨h3, h4⟩ := He.ba h0
  exact ⟨of_decide_eq_true h1, of_decide_eq_true h2, of_decide_eq_true h3, h4, He.eqO_ok h5, He.eqO_ok h6, of_decide_eq_true h7, of_decide_eq_true h8⟩
structure ETab where
  ds : List Str
  fl : List (Str × Str)
  is : List ((Str × Str) × Bool)
  ex : List ((Str × Str) × Bool)
def lk (d c : Str) : List ((Str × Str) × Bool) → Option Bool
  | [] => none
  | q :: r => if q.1 = (d, c) then some q.2 else lk d c r
theorem lk_mem {d c : Str} {b : Bool} : ∀ {l : List ((Str × Str) × Bool)}, lk d c l = some b → ((d, c), b) ∈ l
  | [], h => by cases h
  | q :: r, h => by
    unfold lk at h
    split at h
    · rename_i e
      cases h
      rw [← e]
      exact List.mem_cons_self
    · exact List.mem_cons_of_mem _ (lk_mem h)
def ETab.ok (t : ETab) (K : PySem.W.Frag) : Bool := ((t.ds.all fun d => excCB K (He.ga K d)) && t.fl.all fun q => He.eqO (PySem.W.findIn K (.ref (He.ga K q.1)) q.2) (some none)) && ((t.is.all fun q => decide (PySem.W.kitOne K (.ref (He.ga K q.1.1)) (clsV K q.1.2) = some q.2)) && t.ex.all fun q => decide (PySem.W.exmOne K (.ref (He.ga K q.1.1)) (clsV K q.1.2) = some q.2))
def isE (t : ETab) (e : Er) (c : Str) : Option Bool := if e.c ∈ t.ds then lk e.c c t.is else none
def isEs (t : ETab) (e : Er) : List Str → Option Bool
  | [] => some false
  | c :: r => (isE t e c).bind fun b => if b = true then some true else isEs t e r
def exE (t : ETab) (e : Er) (c : Str) : Option Bool := lk e.c c t.ex
def erI (t : ETab) (e : Er) (f : Str) : Option Int := match e with
  | .pi c g i => if g = f ∧ (c, g) ∈ t.fl ∧ c ∈ t.ds then some i else none
  | _ => none
def erS (t : ETab) (e : Er) (f : Str) : Option Str := match e with
  | .ps c g x => if g = f ∧ (c, g) ∈ t.fl ∧ c ∈ t.ds then some x else none
  | _ => none
section
variable {K : PySem.W.Frag} {t : ETab}
theorem ETab.ds_ok (h : t.ok K = true) {d : Str} (hd : d ∈ t.ds) : ExcC K (He.ga K d) := by
  unfold ETab.ok at h
  exact excCB_ok (List.all_eq_true.mp (He.ba (He.ba h).1).1 d hd)
theorem ETab.is_ok (h : t.ok K = true) {d c : Str} {b : Bool} (hl : lk d c t.is = some b) : PySem.W.kitOne K (.ref (He.ga K d)) (clsV K c) = some b := by
  unfold ETab.ok at h
  exact of_decide_eq_true (List.all_eq_true.mp (He.ba (He.ba h).2).1 _ (lk_mem hl))
theorem ETab.ex_ok (h : t.ok K = true) {d c : Str} {b : Bool} (hl : lk d c t.ex = some b) : PySem.W.exmOne K (.ref (He.ga K d)) (clsV K c) = some b := by
  unfold ETab.ok at h
  exact of_decide_eq_true (List.all_eq_true.mp (He.ba (He.ba h).2).2 _ (lk_mem hl))
theorem exE_ok (h : t.ok K = true) {e : Er} {c : Str} {b : Bool} {cls : Value} {d : Option Addr} {F : Hp} (he : ExR K F e cls d) (hl : exE t e c = some b) : PySem.W.exmOne K cls (clsV K c) = some b := by
  rw [exR_cls he]
  exact ETab.ex_ok h hl
end
section
variable {X : Cx} {σ : St} {s : S} {e : Expr} {es : List Expr} {p0 p1 p2 p3 pos : Pos} {a : Addr} {oe : Obj} {pn : List (Addr × Obj)}
theorem exc_inst {D : Addr} {d : Option Addr} {pins : List (Addr × Obj)} {σ : St} {H : Hp} {sh : Shared} (hz : Zc (.ref D) d oe) (hf : ∃ vs, oe.data = .fields vs) (hd : ∀ dd, d = some dd → ∃ fs, H dd = some (.xd fs)) (I : Inv (X.suite a ((a, oe) :: pn)) pins σ H sh) : InstE a D oe sh.heap := by
  obtain ⟨hget, _⟩ := I.pin (a, oe) (List.mem_append.mpr (.inl List.mem_cons_self))
  obtain ⟨vs, hv⟩ := hf
  cases d with
  | none =>
    exact ⟨none, hget, hz.1, by unfold PySem.W.notCls; rw [hv], by rw [hz.2]; trivial⟩
  | some dd =>
    obtain ⟨fs, he⟩ := hd dd rfl
    obtain ⟨mA, hns, _⟩ := (show ObjOk X.prog X.w H sh.heap dd (.xd fs) from I.hok dd _ he)
    obtain ⟨od, ho, _⟩ := lookIn_ns hns
    exact ⟨some od, hget, hz.1, by unfold PySem.W.notCls; rw [hv], by rw [hz.2]; exact ho⟩
theorem call_isE1 {D : Addr} {d : Option Addr} (C : ExcC X.K D) (hz : Zc (.ref D) d oe) (hf : ∃ vs, oe.data = .fields vs) : CallR (X.suite a ((a, oe) :: pn)) (.builtin "isinstance") (fun xs H Q => (∀ dd, d = some dd → ∃ fs, H dd = some (.xd fs)) ∧ ∃ (c : V) (cv : Value) (b : Bool), xs = [.ref a, c] ∧ ClsV c cv ∧ PySem.W.kitOne X.K (.ref D) cv = some b ∧ Q (.bl b) H) := by
  intro pins s σ H xs us Q I r h
  obtain ⟨hd, c, cv, b, rfl, k, e, q⟩ := h
  obtain ⟨u1, u2, rfl, r1, r2⟩ := vals2 r
  cases (show u1 = Value.ref a from r1)
  have e2 := k.eq r2
  subst e2
  exact PySem.W.kia_one (kit_exc C) I.kIn (exc_inst hz hf hd I) e (fun z => nomatch z) fun tk => ⟨.bl b, H, I.kept (t' := tk) fun _ _ z => z, rfl, q⟩
theorem exR_xd {K : PySem.W.Frag} {F : Hp} {e : Er} {cls : Value} {d : Option Addr} (h : ExR K F e cls d) : ∀ dd, d = some dd → ∃ fs, F dd = some (.xd fs) := fun dd e1 => by
  cases e with
  | pl c => rw [h.2] at e1; cases e1
  | pi c f i => obtain ⟨_, d2, h2, h3⟩ := h; rw [h2] at e1; cases e1; exact ⟨_, h3⟩
  | ps c f x => obtain ⟨_, d2, h2, h3⟩ := h; rw [h2] at e1; cases e1; exact ⟨_, h3⟩
theorem ev_cls {c : Str} (h : (c ≠ ("ValueError" : Str) ∧ X.mg c = some (.ref (He.ga X.K c))) ∨ (c = ("ValueError" : Str) ∧ X.mg c = none)) (hg : Gl X c := by rfl) (hd : (c == ("__debug__" : Str)) = false := by decide) : Ev X (.Name c pos) σ s (Rw.mk (clsR X.K c)) := by
  rcases h with ⟨h1, h2⟩ | ⟨h1, h2⟩
  · have : clsR X.K c = .ref (He.ga X.K c) := if_neg h1
    rw [this]
    exact ev_glob ⟨.ref (He.ga X.K c), _, h2, rfl, fun _ => rfl⟩ hg hd
  · subst h1
    exact fun s1 k Q q => we_of (pe_bltn (v := .ty "ValueError") hg h2 PyProof.Rows.Boot.«ValueError» rfl (by decide) (by decide)) (q _ s1 (Ex.refl _) rfl)
theorem ev_isE {c : Str} {er : Er} {d : Option Addr} {b : Bool} {t : ETab} (h : t.ok X.K = true) (hl : isE t er c = some b) (hz : Zc (.ref (He.ga X.K er.c)) d oe) (hf : ∃ vs, oe.data = .fields vs) (hx : ExR X.K s.F er (.ref (He.ga X.K er.c)) d) (hm : X.mg "isinstance" = none)
    (ha : Ev (X.suite a ((a, oe) :: pn)) e σ s (Rw.mk (.ref a))) (hb : Ev (X.suite a ((a, oe) :: pn)) (.Name c p1) σ s (Rw.mk (clsR X.K c))) (hg : Gl (X.suite a ((a, oe) :: pn)) "isinstance" := by rfl)
    (he : starEach [e, .Name c p1] X.env = (false, eval e X.env) :: starEach [.Name c p1] X.env := by rfl) (he2 : starEach [.Name c p1] X.env = (false, eval (.Name c p1) X.env) :: starEach [] X.env := by rfl) (hpl : (backTo pos (starEach [.Name c p1] X.env)).any (·.1) = false := by rfl) :
    Ev (X.suite a ((a, oe) :: pn)) (.Call (.Name "isinstance" p0) [e, .Name c p1] [] pos) σ s b := fun s1 k Q q => by
  unfold isE at hl
  by_cases hd : er.c ∈ t.ds
  · rw [if_pos hd] at hl
    refine we_of (pe_callB (call_isE1 (d := d) (ETab.ds_ok h hd) hz hf) hg hm (by decide +kernel) (pa_cons pe_we (pa_cons pe_we pa_nil he2) he) (he := he) (hpl := hpl)) (ha s1 k _ fun v s2 k2 r2 => hb s2 (k.trans k2) _ fun u s3 k3 r3 => ?_)
    cases (show v = .ref a from r2)
    cases (show u = clsR X.K c from r3)
    exact ⟨fun dd e1 => by
      obtain ⟨fs, z⟩ := exR_xd hx dd e1
      exact ⟨fs, s3.sub _ _ (((k.trans k2).trans k3).f _ _ z)⟩, clsR X.K c, clsV X.K c, b, rfl, cls_cv X.K c, ETab.is_ok h hl, q _ s3 (k2.trans k3) rfl⟩
  · rw [if_neg hd] at hl; cases hl
theorem names_of {c : Str} (h : X.mg c = some (.ref (He.ga X.K c))) (hg : Gl X c := by rfl) (hd : (c == ("__debug__" : Str)) = false := by decide) (hv : c ≠ ("ValueError" : Str) := by decide) : Names X c (clsV X.K c) := ⟨hg, hd, .inl (by rw [h]; exact congrArg some (if_neg hv).symm)⟩
theorem takes_false : Takes X (fun _ _ _ _ => False) := fun u s' ⟨_, _, _, _, _, _, _, _, _, _, _, _, _, _, _, _, h⟩ => h.elim
end
section
variable {X : Cx} {σ : St} {s : S} {D : Ends} {rest : List Stmt} {e : Expr} {pos : Pos}
theorem do_dropX (h : EvX X e σ s) (hs : swapsWith e none pos.line X.env = pure false := by rfl) : WSs X (.Expr e pos :: rest) D σ s.H :=
  do_cons (ps_expr pe_we hs) (h s (Ex.refl _) _)
theorem do_retX (h : EvX X e σ s) : WSs X (.Return (some e) pos :: rest) D σ s.H := do_cons (ps_ret pe_we) (h s (Ex.refl _) _)
theorem do_setX (i : Nat) {n : Str} {py : Pos} (h : EvX X e σ s) (hN : X.N.Nodup) (hx : Loc X.env.scope n := by first | exact Or.inl rfl | exact Or.inr rfl) (hi : X.N[i]? = some n := by rfl)
    (hs : swapsWith e (some (.Name n py)) pos.line X.env = pure false := by rfl) (hf : X.fn n = true ∨ X.env.scope.names.lookup n = some .local := by first | exact .inl rfl | exact .inr rfl) : WSs X (.Assign [.Name n py] e pos :: rest) D σ s.H :=
  do_cons (ps_set hN hi hx pe_we hs hf) (h s (Ex.refl _) _)
theorem do_unpX (i j : Nat) {tg : Expr} (h : EvX X e σ s) (hg : PG X tg (gTup X.K 2 (gCons (gName i) (gCons (gName j) gNil)))) (hs : swapsWithSole [tg] e pos.line X.env = pure false := by rfl) (hw : swappedStores [tg] e X.env = pure none := by rfl)
    (h1 : (assignEach [tg] X.env).map (·.2) = [assign tg X.env] := by rfl) : WSs X (.Assign [tg] e pos :: rest) D σ s.H :=
  do_cons (ps_asg pe_we hg hs hw h1) (h s (Ex.refl _) _)
theorem was_of {K : PySem.W.Frag} {c : Value} {i : Nat} {ts : Addr → Value → Option Addr → TS} {Wout : WX} {cls : Value} {d : Option Addr} {σ : St} {H : Hp} (h1 : PySem.W.exmOne K cls c = some true)
    (h2 : ∀ a, H a = none → ts a cls d { nx := fun σ' H' => D.nx (σ'.set i none) H', rt := D.rt, bk := fun σ' H' => D.bk (σ'.set i none) H', ct := fun σ' H' => D.ct (σ'.set i none) H' } (σ.set i (some (.ref a))) H) : wAs K c i ts Wout D cls d σ H := ⟨true, h1, fun _ => h2, fun z => nomatch z⟩
theorem do_ifC {c : Expr} {A B : List Stmt} {x : Bool} (hc : EvT X c σ s x) (h1 : x = true → ∀ s1, Ex s s1 → WSs X A { D with nx := fun σ' H' => WSs X rest D σ' H' } σ s1.H) (h2 : x = false → ∀ s1, Ex s s1 → WSs X B { D with nx := fun σ' H' => WSs X rest D σ' H' } σ s1.H) : WSs X (.If c A B pos :: rest) D σ s.H :=
  do_cons (ps_if pt_wt pss_ws pss_ws) (hc s (Ex.refl _) _ fun s1 k => by
    cases x with
    | true => exact iteT (h1 rfl s1 k)
    | false => exact iteF (h2 rfl s1 k))
end

section
variable {α : Type} [Enc α] {X : Cx} {σ : St} {s : S} {a b : Expr} {pos : Pos}
end
theorem goN {β ρ γ : Type} {b : β} {k : β → γ} {e : ρ → γ} {r : γ} (h : Fl.go (Fl.nx b) k e = r) : k b = r := h
def obsX (n : Nat) (fa : List He.Fa) (fn : List He.DefD) (gs : PySem.W.Frag → Bool) (g : Addr → Option Obj) : Bool × He.AlD := (gs (He.frG g (He.asD g n)), He.obsDG n fa fn g)
def hookX (n : Nat) (fa : List He.Fa) (fn : List He.DefD) (gs : PySem.W.Frag → Bool) : PySem.W.Hook where
  α := Bool × He.AlD
  obs := fun s => obsX n fa fn gs s.heap.get?
  val := fun _ => (true, He.valD fn)
  says := fun _ h => ∃ K : PySem.W.Frag, K.In h ∧ He.SaysD fa fn K ∧ gs K = true
  of := fun _ _ e => ⟨_, He.frG_in, congrArg (fun z : Bool × He.AlD => z.2) e, congrArg (fun z : Bool × He.AlD => z.1) e⟩
  keeps := fun _ _ _ ⟨K, hK, c, d⟩ k => ⟨K, PySem.W.Frag.In.keeps hK k, c, d⟩
theorem obsX_eq {n : Nat} {fa : List He.Fa} {fn : List He.DefD} {gs : PySem.W.Frag → Bool} {g : Addr → Option Obj} {s : Shared} (h : ∀ a, g a = s.heap.get? a) : obsX n fa fn gs g = (hookX n fa fn gs).obs s := by
  have e : g = s.heap.get? := funext h
  rw [e] <;> rfl
end Dy

namespace Dy
open PySem PySem.Spec L2
open PyProof.Rows hiding St
open Enc (rep)
open EncA (repA)

def oexB (K : PySem.W.Frag) (C : Addr) : Bool := match K.lookup C with
  | some ⟨.type "type", _, .cls cd, sl⟩ => (match cd.mro, sl.toList with
    | .ref C' :: bm, [_, _, _, _, some (.builtin n), _] => C' == C && (n == "ValueError.__new__" && (!cd.hasDel && (cd.hasDict && PySem.HandSPX.refsVE bm)))
    | _, _ => false)
  | _ => false
theorem oexB_ok {K : PySem.W.Frag} {C : Addr} (h : oexB K C = true) : ∃ nm q N bs bm sn sub ab col dd k0 k1 k2 k3 k5, K.lookup C = some (excClassObj nm q C N bs bm true sn sub ab col dd k0 k1 k2 k3 k5 "ValueError.__new__") ∧ PySem.HandSPX.refsVE bm = true := by
  unfold oexB at h
  split at h
  · rename_i dd cd sl ho
    split at h
    · rename_i C' bm k0 k1 k2 k3 n k5 hm hs
      simp only [Bool.and_eq_true, beq_iff_eq, Bool.not_eq_true'] at h
      obtain ⟨rfl, rfl, h1, h2, h3⟩ := h
      obtain ⟨nm, bs, mro, ns, qn, hd, sn, sub, ab, col, del⟩ := cd
      dsimp only at hm h1 h2
      subst hm h1 h2
      obtain ⟨l⟩ := sl
      simp only at hs
      subst hs
      exact ⟨nm, qn, ns, bs, bm, sn, sub, ab, col, dd, k0, k1, k2, k3, k5, ho, h3⟩
    · cases h
  · cases h
def payB (K : PySem.W.Frag) (c f : Str) : Bool := oexB K (He.ga K c) && (He.eqO (PySem.W.findIn K (.ref (He.ga K c)) "__setattr__") (some (some (.builtin "object.__setattr__"))) && (decide (PySem.W.subIn K (.ref (He.ga K c)) (.type "BaseException") = some true) && (decide (PySem.W.typeIn K (.ref (He.ga K c)) = some (.type "type")) &&
  (PySem.W.keepIn K (.ref (He.ga K c)) && (He.eqO (PySem.W.findIn K (.ref (He.ga K c)) "__init__") (some (some (.ref (He.fAd K (c, some "__init__"))))) && (decide (PySem.W.typeIn K (.ref (He.fAd K (c, some "__init__"))) = some (.type "function")) && He.eqO (PySem.W.findIn K (.ref (He.ga K c)) f) (some none)))))))
structure PayF (K : PySem.W.Frag) (c f : Str) : Prop where
  o : OexC K (He.ga K c)
  i : PySem.W.findIn K (.ref (He.ga K c)) "__init__" = some (some (.ref (He.fAd K (c, some "__init__"))))
  t : PySem.W.typeIn K (.ref (He.fAd K (c, some "__init__"))) = some (.type "function")
  n : PySem.W.findIn K (.ref (He.ga K c)) f = some none
theorem payB_ok {K : PySem.W.Frag} {c f : Str} (h : payB K c f = true) : PayF K c f := by
  unfold payB at h
  obtain ⟨h1, h⟩ := He.ba h
  obtain ⟨h2, h⟩ := He.ba h
  obtain ⟨h3, h⟩ := He.ba h
  obtain ⟨h4, h⟩ := He.ba h
  obtain ⟨h5, h⟩ := He.ba h
  obtain ⟨h6, h⟩ := He.ba h
  obtain ⟨h7, h8⟩ := He.ba h
  exact ⟨⟨oexB_ok h1, He.eqO_ok h2, of_decide_eq_true h3, of_decide_eq_true h4, h5⟩, He.eqO_ok h6, of_decide_eq_true h7, He.eqO_ok h8⟩
def spInit (K : PySem.W.Frag) (f : Str) : Sp := fun vs H Q _ => ∃ (a C : Addr) (v : V), vs = [.ref a, v] ∧ H a = some (exo a C none) ∧ OexC K C ∧ PySem.W.findIn K (.ref C) f = some none ∧ ∀ dx, H dx = none → dx ≠ a → Q .non (upd (upd H dx (exd dx [(f, v)])) a (exo a C (some dx)))
section
variable {P : Program} {w : World} {K : PySem.W.Frag} {mg : Str → Option Value} {base : Heap}
theorem mk_init {f x : Str} {ar : Arguments} {sc : Scope} {q : Str} {fI : Addr} {fd : FuncData} {k : Nat} {p1 p2 p3 p4 : Pos} (F : FunD K "__init__" q ar [.Assign [.Attribute (.Name "self" p1) f p2] (.Name x p3) p4] sc [] [] fI fd) (Sc : FnScope ["self", x] ["self", x] sc)
    (hv : ∀ (cdv : Value) (A' : Around) (outer : List Env) (s0 : Shared) (H0 : Hp) (E0 : XK), Vis (cxOf CX0 P w K mg base ["self", x] q sc fI cdv A' outer s0 H0 E0).nox.env.scope "self" ∧ Vis (cxOf CX0 P w K mg base ["self", x] q sc fI cdv A' outer s0 H0 E0).nox.env.scope x ∧
      swapsWith (.Name x p3) (some (.Attribute (.Name "self" p1) f p2)) p4.line (cxOf CX0 P w K mg base ["self", x] q sc fI cdv A' outer s0 H0 E0).nox.env = pure false)
    (hx : (x == ("__debug__" : Str)) = false := by decide) (hx2 : (x == ("__classdict__" : Str)) = false := by decide) : FnOk P w K mg base CX0 (k + 1) fI fd ["self", x] (spInit K f) :=
  F.ok Sc (fun vs H Q E ⟨a, C, v, e, _⟩ => by rw [e]; rfl) (fun cdv A' outer s0 H0 vs Q E hr ⟨a, C, v, e, h1, h2, h3, h4⟩ => by
    obtain ⟨v1, v2, v3⟩ := hv cdv A' outer s0 H0 E
    subst e
    exact ⟨_, PSs.nox (pss_cons (ps_ost (pe_var (i := 0) rfl v1 (by decide) (by decide)) (pe_var (i := 1) rfl v2 hx hx2) v3) pss_nil), v, rfl, .ref a, rfl, a, C, rfl, h2, h3, .inl ⟨h1, fun dx n ne => h4 dx n ne⟩⟩)
end
section
variable {X : Cx} {σ : St} {s : S} {D : Ends} {rest : List Stmt} {W : WX} {e : Expr}
theorem do_raiseI {c f : Str} {fd : FuncData} {ps : List Str} {k j : Nat} {i : Int} {p pos pos' : Pos} (T : PayF X.K c f) (gC : X.mg c = some (.ref (He.ga X.K c))) (F1 : FnOk X.prog X.w X.K X.mg X.base CX0 k (He.fAd X.K (c, some "__init__")) fd ps (spInit X.K f)) (hb : Binds X.K fd ps [])
    (tk : Takes X W) (hr : Room j X.A) (hk : k + 1 ≤ j) (ha : Ev X e σ s i) (h : ∀ d s1, Ex s s1 → s1.F d = some (.xd [(f, V.int i)]) → W (.ref (He.ga X.K c)) (some d) σ s1.H)
    (hc : X.calm = true := by rfl) (hg : Gl X c := by rfl) (hdb : (c == ("__debug__" : Str)) = false := by decide) (he : starEach [e] X.env = (false, eval e X.env) :: starEach [] X.env := by rfl) (hpl : (backTo pos (starEach [] X.env)).any (·.1) = false := by rfl) :
    WSs X (.Raise (some (.Call (.Name c p) [e] [] pos)) none pos' :: rest) D σ s.H :=
  do_cons (ps_raise hc tk (pmk_oex T.o T.i T.t F1 (hr.mono hk) hb .nil pass0 hg gC (pa_cons pe_we pa_nil he) hdb he hpl)) (ha s (Ex.refl _) _ fun v s2 k2 r2 => by
    obtain rfl : v = V.int i := r2
    refine ⟨by simp, fun a hna => ⟨a, He.ga X.K c, V.int i, rfl, upd_same, T.o, T.n, fun dx h1 h2 => ?_⟩⟩
    have hdx : s2.H dx = none := by rw [upd_ne h2] at h1; exact h1
    refine ⟨rfl, dx, _, upd_same, by rw [upd_ne h2, upd_same], hdx, ?_⟩
    have eH : upd (del (upd (upd (upd s2.H a (exo a (He.ga X.K c) none)) dx (exd dx [(f, V.int i)])) a (exo a (He.ga X.K c) (some dx))) a) dx (.xd [(f, V.int i)]) = (s2.newF dx (.xd [(f, V.int i)]) hdx).H := by
      funext b
      show _ = upd s2.H dx (.xd [(f, V.int i)]) b
      by_cases hb1 : b = dx
      · subst hb1; rw [upd_same, upd_same]
      · rw [upd_ne hb1, upd_ne hb1]
        by_cases hb2 : b = a
        · subst hb2; rw [del_same, hna]
        · rw [del_ne hb2, upd_ne hb2, upd_ne hb1, upd_ne hb2]
    rw [eH]
    exact h dx _ (k2.trans (Ex.newF hdx)) upd_same)
end
def InitOk (P : Program) (w : World) (K : PySem.W.Frag) (mg : Str → Option Value) (base : Heap) (c f : Str) : Prop := ∃ (fd : FuncData) (ps : List Str), FnOk P w K mg base CX0 1 (He.fAd K (c, some "__init__")) fd ps (spInit K f) ∧ Binds K fd ps []
section
variable {α : Type} [Enc α] {X : Cx} {σ : St} {s : S} {e : Expr}
end
class Arity (α : Type) (n : outParam Nat) extends Enc α where
  ar : ∀ {K : PySem.W.Frag} {F : Hp} {v : V} {x : α}, rep K F v x → ∃ p vs, v = .ref p ∧ SqT K F p vs ∧ vs.length = n
instance {α β : Type} [Enc α] [Enc β] : Arity (α × β) 2 := ⟨fun h => by
  obtain ⟨p, v1, v2, e, h, _⟩ := h
  exact ⟨p, _, e, h, rfl⟩⟩
instance {α β γ : Type} [Enc α] [Enc β] [Enc γ] : Arity (T3 α β γ) 3 := ⟨fun h => by
  obtain ⟨p, v1, v2, v3, e, h, _⟩ := h
  exact ⟨p, _, e, h, rfl⟩⟩
section
variable {α : Type} {X : Cx} {σ : St} {s : S} {e : Expr} {p0 pos : Pos}
end
end Dy

namespace Dy
open PySem PySem.Spec L2
open PyProof.Rows hiding St
open Enc (rep)

def dsz (ns : List Int) : Nat := (PyProof.Rows.firstMet (fun i => ns.getD i 0) ns.length).length
section
variable {X : Cx} {a : Expr} {ta : TE} {p p2 q pos : Pos}
def tDsz (K : PySem.W.Frag) (ta : TE) : TE := fun σ H Q => ta σ H fun x H1 => ∃ (l : Addr) (ns : List Int), x = .ref l ∧ SqL K H1 l (ns.map V.int) ∧ ns.length ≤ 4000 ∧ dsz ns ≤ ns.length ∧ Q (.int (dsz ns : Nat)) H1
variable {σ : St} {s : S}
end
structure HL2 (α β : Type) where
  a : α
  b : β
deriving DecidableEq
instance {α β : Type} [Enc α] [Enc β] : Enc (HL2 α β) := ⟨fun K F v x => ∃ p v1 v2, v = .ref p ∧ SqL K F p [v1, v2] ∧ rep K F v1 x.a ∧ rep K F v2 x.b, fun e h => by
  obtain ⟨p, v1, v2, rfl, h0, h1, h2⟩ := h
  exact ⟨p, v1, v2, rfl, sql_mono e h0, Enc.mono e h1, Enc.mono e h2⟩⟩
instance {α β : Type} [EqD α] [EqD β] : EqD (HL2 α β) := ⟨fun x => .list [EqD.toD x.a, EqD.toD x.b], fun h f => by
  obtain ⟨p, v1, v2, rfl, h0, h1, h2⟩ := h
  exact .lst (sql_mono f h0) (.cons (EqD.dp h1 f) (.cons (EqD.dp h2 f) .nil)), fun x y => by
    obtain ⟨x1, x2⟩ := x
    obtain ⟨y1, y2⟩ := y
    show (PyData.eqv _ _ && (PyData.eqv _ _ && true)) = true ↔ _
    rw [Bool.and_eq_true, Bool.and_eq_true, EqD.eqv, EqD.eqv]; simp⟩
section
variable {α β : Type} [Enc α] [Enc β] {X : Cx} {σ : St} {s : S} {es : List Expr} {pos : Pos}
end
def relS (scope sc : Scope) : Scope := { scope with names := scope.names.map fun (n, k) => if (k == .free && sc.kind == .function && sc.names.lookup n == some .cell) then (n, .cell) else (n, k) }
theorem blkOk_n {N : List Str} {scope1 sc0 scope : Scope} {env : Env} {own : List (Str × Nat)} (e : env.scope = sc0) (h : blkC N (relS scope1 sc0) scope own = true) : BlkOk N (relabel scope1 env) scope own := by
  have : relabel scope1 env = relS scope1 sc0 := by subst e; rfl
  rw [this]
  exact blkOk_by h
end Dy

namespace Dy
open PySem PySem.Spec L2
open PyProof.Rows hiding St
open Enc (rep)

inductive An where
  | b (x : Bool)
  | i (x : Int)
  | o (x : Option Int)
  | s (x : Str)
  | l (xs : List Int)
  | ls (xs : List Str)
  | ts (xs : Tu Str)
instance : Enc An := ⟨fun K F v x => match x with
  | .b x => rep K F v x
  | .i x => rep K F v x
  | .o x => rep K F v x
  | .s x => rep K F v x
  | .l x => rep K F v x
  | .ls x => rep K F v x
  | .ts x => rep K F v x, fun {K F F' v x} e h => by
  cases x with
  | b x => exact Enc.mono (α := Bool) e h
  | i x => exact Enc.mono (α := Int) e h
  | o x => exact Enc.mono (α := Option Int) e h
  | s x => exact Enc.mono (α := Str) e h
  | l x => exact Enc.mono (α := List Int) e h
  | ls x => exact Enc.mono (α := List Str) e h
  | ts x => exact Enc.mono (α := Tu Str) e h⟩
class ToD (α : Type) extends Enc α where
  td : α → PyData
  tdp : ∀ {K : PySem.W.Frag} {F H : Hp} {v : V} {x : α}, rep K F v x → Fle F H → Dp K H v (td x)
instance : ToD An := ⟨fun x => match x with
  | .b x => EqD.toD x
  | .i x => EqD.toD x
  | .o x => EqD.toD x
  | .s x => EqD.toD x
  | .l x => EqD.toD x
  | .ls x => EqD.toD x
  | .ts x => EqD.toD x, fun {K F H v x} h f => by
  cases x with
  | b x => exact EqD.dp (α := Bool) h f
  | i x => exact EqD.dp (α := Int) h f
  | o x => exact EqD.dp (α := Option Int) h f
  | s x => exact EqD.dp (α := Str) h f
  | l x => exact EqD.dp (α := List Int) h f
  | ls x => exact EqD.dp (α := List Str) h f
  | ts x => exact EqD.dp (α := Tu Str) h f⟩
instance {α : Type} [EqD α] : ToD (α × An) := ⟨fun x => .tuple [EqD.toD x.1, ToD.td x.2], fun h f => by
  obtain ⟨p, v1, v2, rfl, h0, h1, h2⟩ := h
  exact .tup (sqt_mono f h0) (.cons (EqD.dp h1 f) (.cons (ToD.tdp h2 f) .nil))⟩
def eqvD {α : Type} [ToD α] (x y : α) : Bool := PyData.eqv (ToD.td x) (ToD.td y)
def shpD {α : Type} [ToD α] (x : α) : Prop := SeqAt.shaped (ToD.td x) = true
section
variable {α : Type} {X : Cx} {σ : St} {s : S} {a b e : Expr} {pos : Pos}
def anB : An → Option Bool
  | .b x => some x
  | _ => none
end
end Dy

namespace Dy
open PySem PySem.Spec L2
open PyProof.Rows hiding St
open Enc (rep)
open Flat (toV)
open EncA (repA)

structure OA where
  p : PySem.W.Frag → Hp → Hp → (Addr → Prop) → Prop
  mono : ∀ {K : PySem.W.Frag} {F F' H : Hp} {P : Addr → Prop}, Fle F F' → p K F H P → p K F' H P
  loc : ∀ {K : PySem.W.Frag} {F H H' : Hp} {P : Addr → Prop}, (∀ a, P a → H' a = H a) → p K F H P → p K F H' P
  dom : ∀ {K : PySem.W.Frag} {F H : Hp} {P : Addr → Prop} {a : Addr}, p K F H P → P a → ∃ o, H a = some o
def top : OA := ⟨fun _ _ _ P => ∀ a, ¬ P a, fun _ h => h, fun _ h => h, fun h q => absurd q (h _)⟩
def fz {α : Type} [Enc α] (v : V) (x : α) : OA := ⟨fun K F _ P => rep K F v x ∧ ∀ a, ¬ P a, fun e h => ⟨Enc.mono e h.1, h.2⟩, fun _ h => h, fun h q => absurd q (h.2 _)⟩
def ol {α : Type} [Enc α] (p : Addr) (xs : List α) : OA := ⟨fun K F H P => (∀ a, P a ↔ a = p) ∧ ∃ vs, H p = some (.lst vs) ∧ Reps K F vs xs, fun e ⟨h0, vs, h1, h2⟩ => ⟨h0, vs, h1, h2.mono e⟩,
  fun e ⟨h0, vs, h1, h2⟩ => ⟨h0, vs, by rw [e p ((h0 p).mpr rfl)]; exact h1, h2⟩, fun ⟨h0, vs, h1, h2⟩ q => ⟨_, (congrArg _ ((h0 _).mp q)).trans h1⟩⟩
class DKey (κ : Type) extends Eqs κ where
  dec : DecidableEq κ
  toK : κ → Key
  kv : ∀ k, kV (toK k) = toV k
  kinj : ∀ a b, toK a = toK b ↔ a = b
instance : DKey Int := { dec := inferInstance, toK := Sum.inl, kv := fun _ => rfl, kinj := fun a b => ⟨fun h => Sum.inl.inj h, fun h => by rw [h]⟩ }
instance : DKey Str := { dec := inferInstance, toK := Sum.inr, kv := fun _ => rfl, kinj := fun a b => ⟨fun h => Sum.inr.inj h, fun h => by rw [h]⟩ }
def KReps {κ α : Type} [DKey κ] [Enc α] (K : PySem.W.Frag) (F : Hp) : List (Key × V) → List (κ × α) → Prop
  | [], [] => True
  | (k, v) :: r, (j, x) :: xs => k = DKey.toK j ∧ rep K F v x ∧ KReps K F r xs
  | _, _ => False
theorem KReps.mono {κ α : Type} [DKey κ] [Enc α] {K : PySem.W.Frag} {F F' : Hp} (e : Fle F F') : ∀ {kv : List (Key × V)} {xs : List (κ × α)}, KReps K F kv xs → KReps K F' kv xs
  | [], [], _ => trivial
  | _ :: _, _ :: _, ⟨h1, h2, t⟩ => ⟨h1, Enc.mono e h2, KReps.mono e t⟩
  | [], _ :: _, h => h.elim
  | _ :: _, [], h => h.elim
theorem KReps.len {κ α : Type} [DKey κ] [Enc α] {K : PySem.W.Frag} {F : Hp} : ∀ {kv : List (Key × V)} {xs : List (κ × α)}, KReps K F kv xs → kv.length = xs.length
  | [], [], _ => rfl
  | _ :: _, _ :: _, ⟨_, _, t⟩ => congrArg (· + 1) (KReps.len t)
  | [], _ :: _, h => h.elim
  | _ :: _, [], h => h.elim
def od {κ α : Type} [DKey κ] [Enc α] (p : Addr) (xs : List (κ × α)) : OA := ⟨fun K F H P => (∀ a, P a ↔ a = p) ∧ ∃ kv, H p = some (.dK kv) ∧ KReps K F kv xs, fun e ⟨h0, vs, h1, h2⟩ => ⟨h0, vs, h1, h2.mono e⟩,
  fun e ⟨h0, vs, h1, h2⟩ => ⟨h0, vs, by rw [e p ((h0 p).mpr rfl)]; exact h1, h2⟩, fun ⟨h0, vs, h1, h2⟩ q => ⟨_, (congrArg _ ((h0 _).mp q)).trans h1⟩⟩
def odl {κ α : Type} [DKey κ] [Enc α] (p : Addr) (o : Obj) (kv : List (Key × V)) (xs : List (κ × α)) : OA := ⟨fun K F H P => (∀ a, P a ↔ a = p) ∧ H p = some (.frz o (.dK kv)) ∧ KReps K F kv xs, fun e ⟨h0, h1, h2⟩ => ⟨h0, h1, h2.mono e⟩,
  fun e ⟨h0, h1, h2⟩ => ⟨h0, by rw [e p ((h0 p).mpr rfl)]; exact h1, h2⟩, fun ⟨h0, h1, h2⟩ q => ⟨_, (congrArg _ ((h0 _).mp q)).trans h1⟩⟩
def cell (p : Addr) (c : Str) (fs : List (Str × V)) : OA := ⟨fun K F H P => ∃ dx, (∀ a, P a ↔ (a = p ∨ a = dx)) ∧ H p = some (.ins (He.ga K c) dx fs) ∧ H dx = some (.own p), fun e h => h,
  fun e ⟨dx, h0, h1, h2⟩ => ⟨dx, h0, by rw [e p ((h0 p).mpr (.inl rfl))]; exact h1, by rw [e dx ((h0 dx).mpr (.inr rfl))]; exact h2⟩, fun ⟨dx, h0, h1, h2⟩ q => by
    rcases (h0 _).mp q with rfl | rfl
    · exact ⟨_, h1⟩
    · exact ⟨_, h2⟩⟩

structure Mz (P : Addr → Prop) (s t : S) : Prop where
  f : Fle s.F t.F
  h : ∀ a o, s.H a = some o → ¬ P a → t.H a = some o
  n : ∀ a o, s.H a = some o → ¬ P a → s.F a = none → t.F a = none
  d : ∀ a o, s.H a = some o → ∃ u, t.H a = some u
theorem Mx.z {P : Addr → Prop} {s t : S} (m : Mx P s t) : Mz P s t := ⟨m.f, m.h, fun a o h _ q => m.n a o h q, m.d⟩
theorem Ex.z {P : Addr → Prop} {s t : S} (e : Ex s t) : Mz P s t := e.mx.z
theorem Mz.trans {P : Addr → Prop} {s t u : S} (a : Mz P s t) (b : Mz P t u) : Mz P s u :=
  ⟨fun x o h => b.f x o (a.f x o h), fun x o h n => b.h x o (a.h x o h n) n,
   fun x o h p n => by obtain ⟨v, hv⟩ := a.d x o h; exact b.n x v hv p (a.n x o h p n),
   fun x o h => by obtain ⟨v, hv⟩ := a.d x o h; exact b.d x v hv⟩
theorem Mz.fr_back {P : Addr → Prop} {s t : S} (e : Mz P s t) {p : Addr} (h : t.H p = none) : s.H p = none := by
  cases q : s.H p with
  | none => rfl
  | some o => obtain ⟨u, z⟩ := e.d p o q; rw [z] at h; cases h
structure Iv (K : PySem.W.Frag) (P0 : Addr → Prop) (s0 s : S) (L : List OA) : Prop where
  m : Mz P0 s0 s
  o : ∃ φ : Nat → Addr → Prop, (∀ (i : Nat) (A : OA), L[i]? = some A → A.p K s.F s.H (φ i)) ∧ (∀ (i j : Nat) (a : Addr), φ i a → φ j a → i = j) ∧ (∀ (i : Nat) (a : Addr), φ i a → s.F a = none ∧ (P0 a ∨ s0.H a = none) ∧ i < L.length)
section
variable {α β κ : Type} [Enc α] [Enc β] [DKey κ] {K : PySem.W.Frag} {P0 : Addr → Prop} {s0 s s1 t : S} {L M : List OA}
theorem Iv.fz (h : Iv K P0 s0 s L) (i : Nat) {v : V} {x : α} (e : L[i]? = some (Dy.fz v x) := by rfl) : rep K s.F v x := by
  obtain ⟨φ, h1, _⟩ := h.o
  exact (h1 i _ e).1
theorem Iv.ol (h : Iv K P0 s0 s L) (i : Nat) {p : Addr} {xs : List α} (e : L[i]? = some (Dy.ol p xs) := by rfl) : Own K s p xs := by
  obtain ⟨φ, h1, h2, h3⟩ := h.o
  obtain ⟨q, vs, hp, r⟩ := h1 i _ e
  exact ⟨(h3 i p ((q p).mpr rfl)).1, vs, hp, r⟩
theorem Iv.at (h : Iv K P0 s0 s L) (i : Nat) {A : OA} (e : L[i]? = some A := by rfl) : ∃ P, A.p K s.F s.H P ∧ ∀ a, P a → s.F a = none := by
  obtain ⟨φ, h1, h2, h3⟩ := h.o
  exact ⟨φ i, h1 i A e, fun a q => (h3 i a q).1⟩
theorem Iv.ex (h : Iv K P0 s0 s L) (e : Ex s s1) : Iv K P0 s0 s1 L := by
  obtain ⟨φ, h1, h2, h3⟩ := h.o
  refine ⟨h.m.trans e.z, φ, fun i A hA => ?_, h2, fun i a q => ?_⟩
  · have h4 := h1 i A hA
    exact A.mono e.f (A.loc (fun a q => by
      obtain ⟨o, ho⟩ := A.dom h4 q
      rw [ho]; exact e.h _ _ ho) h4)
  · obtain ⟨h5, h6, h7⟩ := h3 i a q
    obtain ⟨A, hA⟩ : ∃ A, L[i]? = some A := ⟨L[i], List.getElem?_eq_getElem h7⟩
    obtain ⟨o, ho⟩ := A.dom (h1 i A hA) q
    exact ⟨e.n _ _ ho h5, h6, h7⟩
theorem Iv.upd (h : Iv K P0 s0 s L) (i : Nat) {A A' : OA} (hA : L[i]? = some A) (st : ∀ P, A.p K s.F s.H P → (∀ a, P a → s.F a = none) → ∃ P', A'.p K s1.F s1.H P' ∧ (∀ a, P' a → s1.F a = none ∧ (P a ∨ s.H a = none)) ∧ Mz P s s1) : Iv K P0 s0 s1 (L.set i A') := by
  obtain ⟨φ, h1, h2, h3⟩ := h.o
  obtain ⟨P', g1, g2, g3⟩ := st (φ i) (h1 i A hA) fun a q => (h3 i a q).1
  have hi : i < L.length := (List.getElem?_eq_some_iff.mp hA).1
  have old : ∀ j a, φ j a → ∃ o, s.H a = some o := fun j a q => by
    obtain ⟨_, _, h7⟩ := h3 j a q
    exact (L[j]).dom (h1 j _ (List.getElem?_eq_getElem h7)) q
  have m1 : Mz P0 s0 s1 := by
    refine ⟨h.m.f.trans g3.f, fun a o q n => g3.h _ _ (h.m.h a o q n) fun z => ?_, fun a o q np n => ?_, fun a o q => ?_⟩
    · rcases (h3 i a z).2.1 with w | w
      · exact n w
      · rw [w] at q; cases q
    · obtain ⟨u, hu⟩ := h.m.d a o q
      exact g3.n a u hu (fun z => by
        rcases (h3 i a z).2.1 with w | w
        · exact np w
        · rw [w] at q; cases q) (h.m.n a o q np n)
    · obtain ⟨u, hu⟩ := h.m.d a o q
      exact g3.d a u hu
  refine ⟨m1, fun j a => if j = i then P' a else φ j a, fun j B hB => ?_, fun j k a => ?_, fun j a => ?_⟩
  · by_cases e : j = i
    · subst e
      rw [List.getElem?_set_self hi] at hB
      cases hB
      simpa using g1
    · rw [List.getElem?_set_ne (Ne.symm e)] at hB
      simp only [e, if_false]
      have h4 := h1 j B hB
      exact B.mono g3.f (B.loc (fun a q => by
        obtain ⟨o, ho⟩ := B.dom h4 q
        rw [ho]; exact g3.h _ _ ho fun z => e (h2 _ _ _ q z)) h4)
  · intro q r
    by_cases e : j = i <;> by_cases e2 : k = i
    · rw [e, e2]
    · exfalso
      simp only [e, if_true] at q
      simp only [e2, if_false] at r
      rcases (g2 a q).2 with z | z
      · exact e2 (h2 _ _ _ r z)
      · obtain ⟨o, ho⟩ := old k a r
        rw [z] at ho; cases ho
    · exfalso
      simp only [e, if_false] at q
      simp only [e2, if_true] at r
      rcases (g2 a r).2 with z | z
      · exact e (h2 _ _ _ q z)
      · obtain ⟨o, ho⟩ := old j a q
        rw [z] at ho; cases ho
    · simp only [e, if_false] at q
      simp only [e2, if_false] at r
      exact h2 _ _ _ q r
  · intro q
    rw [List.length_set]
    by_cases e : j = i
    · simp only [e, if_true] at q
      obtain ⟨z1, z2⟩ := g2 a q
      refine ⟨z1, ?_, by rw [e]; exact hi⟩
      rcases z2 with z | z
      · exact (h3 i a z).2.1
      · refine .inr ?_
        exact h.m.fr_back z
    · simp only [e, if_false] at q
      obtain ⟨z1, z2, z3⟩ := h3 j a q
      obtain ⟨o, ho⟩ := old j a q
      exact ⟨g3.n _ _ ho (fun z => e (h2 _ _ _ q z)) z1, z2, z3⟩
theorem Iv.put (h : Iv K P0 s0 s L) (i : Nat) {A' : OA} (e : Ex s s1) (st : ∃ P', A'.p K s1.F s1.H P' ∧ ∀ a, P' a → s1.F a = none ∧ s.H a = none) : Iv K P0 s0 s1 (L.set i A') := by
  by_cases hi : i < L.length
  case neg => rw [List.set_eq_of_length_le (by omega)]; exact h.ex e
  refine h.upd i (List.getElem?_eq_getElem hi) fun P _ _ => ?_
  obtain ⟨P', g1, g2⟩ := st
  exact ⟨P', g1, fun a q => ⟨(g2 a q).1, .inr (g2 a q).2⟩, e.z⟩
theorem Iv.sf (h : Iv K P0 s0 s L) (i : Nat) {v : V} {x y : α} (e : Ex s s1) (r : rep K s1.F v x) (q : y = x) : Iv K P0 s0 s1 (L.set i (Dy.fz v y)) := by
  subst q
  exact h.put i e ⟨fun _ => False, ⟨r, fun _ z => z⟩, fun _ z => z.elim⟩
theorem Iv.sl (h : Iv K P0 s0 s L) (i : Nat) {p : Addr} {xs ys : List α} (e : Ex s s1) (n : s.H p = none) (o : Own K s1 p xs) (q : ys = xs) : Iv K P0 s0 s1 (L.set i (Dy.ol p ys)) := by
  subst q
  obtain ⟨o1, vs, o2, o3⟩ := o
  exact h.put i e ⟨fun a => a = p, ⟨fun _ => Iff.rfl, vs, o2, o3⟩, fun a z => by rw [z]; exact ⟨o1, n⟩⟩
theorem Iv.ml (h : Iv K P0 s0 s L) (i : Nat) {p : Addr} {xs : List α} {ys zs : List β} (m : Mx (· = p) s s1) (o : Own K s1 p ys) (q : zs = ys) (hA : L[i]? = some (Dy.ol p xs) := by rfl) : Iv K P0 s0 s1 (L.set i (Dy.ol p zs)) := by
  subst q
  obtain ⟨o1, vs, o2, o3⟩ := o
  refine h.upd i hA fun P hP _ => ⟨P, ?_, ?_, ?_⟩
  · exact ⟨hP.1, vs, o2, o3⟩
  · intro a z
    rw [(hP.1 a).mp z]
    exact ⟨o1, .inl ((hP.1 p).mpr rfl)⟩
  · exact ⟨m.f, fun a o q n => m.h a o q fun z => n ((hP.1 a).mpr z), fun a o q _ z => m.n a o q z, m.d⟩
def pick (L : List OA) (js : List (Option Nat)) : List OA := js.map fun o => match o with | none => top | some i => L.getD i top
theorem Iv.sel (h : Iv K P0 s0 s L) (js : List (Option Nat)) (hn : (js.filterMap id).Nodup) (hM : pick L js = M) : Iv K P0 s0 s M := by
  subst hM
  obtain ⟨φ, h1, h2, h3⟩ := h.o
  refine ⟨h.m, fun k a => ∃ i, js[k]? = some (some i) ∧ φ i a, fun k A hA => ?_, fun k l a ⟨i, e1, q1⟩ ⟨j, e2, q2⟩ => ?_, fun k a ⟨i, e1, q1⟩ => ?_⟩
  · unfold pick at hA
    rw [List.getElem?_map] at hA
    obtain ⟨o, e1, e2⟩ := Option.map_eq_some_iff.mp hA
    cases o with
    | none =>
      subst e2
      intro a ⟨i, e3, _⟩
      rw [e1] at e3; cases e3
    | some i =>
      dsimp only at e2
      have eφ : (fun a => ∃ j, js[k]? = some (some j) ∧ φ j a) = φ i := by
        funext a
        apply propext
        constructor
        · rintro ⟨j, e3, q⟩
          rw [e1] at e3
          cases e3
          exact q
        · exact fun q => ⟨i, e1, q⟩
      show A.p K s.F s.H (fun a => ∃ j, js[k]? = some (some j) ∧ φ j a)
      rw [eφ]
      cases hg : L[i]? with
      | none =>
        rw [List.getD_eq_getElem?_getD, hg] at e2
        subst e2
        intro a q
        have := (h3 i a q).2.2
        rw [List.getElem?_eq_getElem this] at hg
        cases hg
      | some B =>
        rw [List.getD_eq_getElem?_getD, hg] at e2
        subst e2
        exact h1 i B hg
  · have := h2 _ _ _ q1 q2
    subst this
    have key : ∀ (js : List (Option Nat)) (k l : Nat), (js.filterMap id).Nodup → js[k]? = some (some i) → js[l]? = some (some i) → k = l := by
      intro js
      induction js with
      | nil => intro k l _ e; cases e
      | cons x r ih =>
        intro k l hn e1 e2
        cases x with
        | none =>
          cases k with
          | zero => cases e1
          | succ k =>
            cases l with
            | zero => cases e2
            | succ l => exact congrArg (· + 1) (ih k l (by simpa using hn) (by simpa using e1) (by simpa using e2))
        | some y =>
          have hn' : y ∉ r.filterMap id ∧ (r.filterMap id).Nodup := by simpa using hn
          have mem : ∀ k, r[k]? = some (some i) → i ∈ r.filterMap id := fun k e => List.mem_filterMap.mpr ⟨some i, List.mem_of_getElem? e, rfl⟩
          cases k with
          | zero =>
            cases l with
            | zero => rfl
            | succ l =>
              have : y = i := by simpa using e1
              exact absurd (mem l (by simpa using e2)) (this ▸ hn'.1)
          | succ k =>
            cases l with
            | zero =>
              have : y = i := by simpa using e2
              exact absurd (mem k (by simpa using e1)) (this ▸ hn'.1)
            | succ l => exact congrArg (· + 1) (ih k l hn'.2 (by simpa using e1) (by simpa using e2))
    exact key js k l hn e1 e2
  · obtain ⟨z1, z2, z3⟩ := h3 i a q1
    refine ⟨z1, z2, ?_⟩
    unfold pick
    rw [List.length_map]
    exact (List.getElem?_eq_some_iff.mp e1).1
theorem Iv.tops (n : Nat) (s : S) : Iv K P0 s s (List.replicate n top) := by
  refine ⟨(Ex.refl s).z, fun _ _ => False, fun i A hA => ?_, fun _ _ _ z => z.elim, fun _ _ z => z.elim⟩
  have := List.mem_of_getElem? hA
  rw [List.eq_of_mem_replicate this]
  exact fun _ z => z
theorem Iv.exx (h : Iv K (fun _ => False) s0 s L) : Ex s0 s := ⟨h.m.f, fun a o q => h.m.h a o q fun z => z, fun a o q n => h.m.n a o q (fun z => z) n⟩
theorem Iv.frz (h : Iv K P0 s0 s L) (i : Nat) {p : Addr} {xs : List α} (hA : L[i]? = some (Dy.ol p xs) := by rfl) : ∃ s' : S, s'.H = s.H ∧ Fle s.F s'.F ∧ Iv K P0 s0 s' (L.set i (Dy.fz (.ref p) xs)) := by
  obtain ⟨s', h1, h2, h3, h4⟩ := (h.ol i hA).frz
  refine ⟨s', h1, h2, ?_⟩
  obtain ⟨φ, g1, g2, g3⟩ := h.o
  have hi : i < L.length := (List.getElem?_eq_some_iff.mp hA).1
  have hp : φ i p := ((g1 i _ hA).1 p).mpr rfl
  refine ⟨⟨h.m.f.trans h2, fun a o q n => by rw [h1]; exact h.m.h a o q n, fun a o q np n => ?_, fun a o q => by rw [h1]; exact h.m.d a o q⟩, fun j a => if j = i then False else φ j a, fun j B hB => ?_, fun j k a q r => ?_, fun j a q => ?_⟩
  · have ne : a ≠ p := fun z => by
      subst z
      rcases (g3 i a hp).2.1 with w | w
      · exact np w
      · rw [w] at q; cases q
    rw [h3 a ne]
    exact h.m.n a o q np n
  · by_cases e : j = i
    · subst e
      rw [List.getElem?_set_self hi] at hB
      cases hB
      exact ⟨h4, fun a => by simp⟩
    · rw [List.getElem?_set_ne (Ne.symm e)] at hB
      simp only [e, if_false]
      rw [h1]
      exact B.mono h2 (g1 j B hB)
  · by_cases e : j = i
    · simp only [e, if_true] at q
    · by_cases e2 : k = i
      · simp only [e2, if_true] at r
      · simp only [e, if_false] at q
        simp only [e2, if_false] at r
        exact g2 _ _ _ q r
  · by_cases e : j = i
    · simp only [e, if_true] at q
    · simp only [e, if_false] at q
      obtain ⟨z1, z2, z3⟩ := g3 j a q
      have ne : a ≠ p := fun z => e (g2 _ _ _ q (z ▸ hp))
      exact ⟨by rw [h3 a ne]; exact z1, z2, by rw [List.length_set]; exact z3⟩
structure Ro (K : PySem.W.Frag) (P0 : Addr → Prop) (s0 : S) (R : List OA) : Prop where
  o : ∀ (i : Nat) (A : OA), R[i]? = some A → ∃ P, A.p K s0.F s0.H P ∧ (∀ a, P a → ¬ P0 a) ∧ ∀ a, P a → s0.F a = none
theorem OA.stay {A : OA} {P : Addr → Prop} (h : A.p K s.F s.H P) (m : Mz P0 s t) (n : ∀ a, P a → ¬ P0 a) : A.p K t.F t.H P :=
  A.mono m.f (A.loc (fun a q => by
    obtain ⟨o, ho⟩ := A.dom h q
    rw [ho]; exact m.h _ _ ho (n a q)) h)
theorem Iv.ro (h : Iv K P0 s0 s L) {R : List OA} (r : Ro K P0 s0 R) (i : Nat) {A : OA} (e : R[i]? = some A := by rfl) : ∃ P, A.p K s.F s.H P := by
  obtain ⟨P, h1, h2, _⟩ := r.o i A e
  exact ⟨P, OA.stay h1 h.m h2⟩
def rem (L : List OA) (ks : List Nat) : List OA := L.mapIdx fun i A => if i ∈ ks then top else A
def rsel (L R0 : List OA) (rs : List (Nat ⊕ Nat)) : List OA := rs.map fun z => match z with | .inl i => L.getD i top | .inr j => R0.getD j top
theorem call_in (h : Iv K P0 s0 s L) {R0 : List OA} (ro : Ro K P0 s0 R0) (ks : List Nat) (hn : ks.Nodup) (hk : ∀ k ∈ ks, k < L.length) (Lf : List OA) (hf : ∀ A ∈ Lf, A.p K s.F s.H (fun _ => False)) (rs : List (Nat ⊕ Nat)) (hrs : ∀ i, Sum.inl i ∈ rs → i ∉ ks) :
    ∃ P1, Iv K P1 s s (ks.map (fun k => L.getD k top) ++ Lf) ∧ Ro K P1 s (rsel L R0 rs) ∧ (ks = [] → ∀ a, ¬ P1 a) ∧ ∀ s' L', Iv K P1 s s' L' → Iv K P0 s0 s' (rem L ks ++ L') := by
  obtain ⟨φ, h1, h2, h3⟩ := h.o
  refine ⟨fun a => ∃ k ∈ ks, φ k a, ⟨(Ex.refl s).z, fun i a => ∃ k, ks[i]? = some k ∧ φ k a, fun i A hA => ?_, fun i j a ⟨k, e1, q1⟩ ⟨l, e2, q2⟩ => ?_, fun i a ⟨k, e1, q1⟩ => ?_⟩, ⟨fun i A hA => ?_⟩, fun e a w => (by obtain ⟨k, hk, _⟩ := w; rw [e] at hk; cases hk), fun s' L' iv => ?_⟩
  · by_cases hi : i < ks.length
    · rw [List.getElem?_append_left (by rw [List.length_map]; exact hi), List.getElem?_map, List.getElem?_eq_getElem hi, Option.map_some] at hA
      have hA := Option.some.inj hA
      have hkl := hk ks[i] (List.getElem_mem hi)
      rw [List.getD_eq_getElem?_getD, List.getElem?_eq_getElem hkl, Option.getD_some] at hA
      have eφ : (fun a => ∃ k, ks[i]? = some k ∧ φ k a) = φ ks[i] := by
        funext a
        apply propext
        rw [List.getElem?_eq_getElem hi]
        exact ⟨fun ⟨k, e, q⟩ => by cases e; exact q, fun q => ⟨_, rfl, q⟩⟩
      show A.p K s.F s.H (fun a => ∃ k, ks[i]? = some k ∧ φ k a)
      rw [eφ, ← hA]
      exact h1 _ _ (List.getElem?_eq_getElem hkl)
    · rw [List.getElem?_append_right (by rw [List.length_map]; omega)] at hA
      have eφ : (fun a => ∃ k, ks[i]? = some k ∧ φ k a) = fun _ => False := by
        funext a
        apply propext
        rw [List.getElem?_eq_none (by omega)]
        exact ⟨fun w => (by obtain ⟨k, e, _⟩ := w; cases e), fun z => z.elim⟩
      show A.p K s.F s.H (fun a => ∃ k, ks[i]? = some k ∧ φ k a)
      rw [eφ]
      exact hf A (List.mem_of_getElem? hA)
  · obtain ⟨hi, ei⟩ := List.getElem?_eq_some_iff.mp e1
    obtain ⟨hj, ej⟩ := List.getElem?_eq_some_iff.mp e2
    have e := h2 _ _ _ q1 q2
    rw [← ei, ← ej] at e
    exact (List.getElem_inj hn).mp e
  · exact ⟨(h3 k a q1).1, .inl ⟨k, List.mem_of_getElem? e1, q1⟩, by rw [List.length_append, List.length_map]; have := (List.getElem?_eq_some_iff.mp e1).1; omega⟩
  · unfold rsel at hA
    rw [List.getElem?_map] at hA
    obtain ⟨z, e1, e2⟩ := Option.map_eq_some_iff.mp hA
    have hz := List.mem_of_getElem? e1
    have tp : top.p K s.F s.H (fun _ => False) := fun _ z => z
    cases z with
    | inl i =>
      by_cases hi : i < L.length
      · have e3 : L[i]? = some A := by
          rw [List.getElem?_eq_getElem hi]
          simp only [List.getD_eq_getElem?_getD, List.getElem?_eq_getElem hi, Option.getD_some] at e2
          rw [e2]
        exact ⟨φ i, h1 i A e3, fun a q ⟨k, hk, q2⟩ => hrs i hz (h2 _ _ _ q q2 ▸ hk), fun a q => (h3 i a q).1⟩
      · simp only [List.getD_eq_getElem?_getD, List.getElem?_eq_none (Nat.le_of_not_lt hi), Option.getD_none] at e2
        rw [← e2]
        exact ⟨_, tp, fun _ z => z.elim, fun _ z => z.elim⟩
    | inr j =>
      by_cases hj : j < R0.length
      · have e3 : R0[j]? = some A := by
          rw [List.getElem?_eq_getElem hj]
          simp only [List.getD_eq_getElem?_getD, List.getElem?_eq_getElem hj, Option.getD_some] at e2
          rw [e2]
        obtain ⟨P, g1, g2, g5⟩ := ro.o j A e3
        refine ⟨P, OA.stay g1 h.m g2, fun a q ⟨k, hk, q2⟩ => ?_, fun a q => ?_⟩
        · rcases (h3 k a q2).2.1 with w | w
          · exact g2 a q w
          · obtain ⟨o, ho⟩ := A.dom g1 q
            rw [w] at ho; cases ho
        · obtain ⟨o, ho⟩ := A.dom g1 q
          exact h.m.n a o ho (g2 a q) (g5 a q)
      · simp only [List.getD_eq_getElem?_getD, List.getElem?_eq_none (Nat.le_of_not_lt hj), Option.getD_none] at e2
        rw [← e2]
        exact ⟨_, tp, fun _ z => z.elim, fun _ z => z.elim⟩
  · obtain ⟨φ', g1, g2, g3⟩ := iv.o
    have hP : ∀ a o, s0.H a = some o → ¬ P0 a → ¬ ∃ k ∈ ks, φ k a := fun a o q np ⟨k, _, q2⟩ => by
      rcases (h3 k a q2).2.1 with w | w
      · exact np w
      · rw [w] at q; cases q
    have hlen : (rem L ks).length = L.length := by unfold rem; rw [List.length_mapIdx]
    refine ⟨⟨h.m.f.trans iv.m.f, fun a o q n => iv.m.h a o (h.m.h a o q n) (hP a o q n), fun a o q np n => ?_, fun a o q => ?_⟩, fun i a => if i < L.length then (i ∉ ks ∧ φ i a) else φ' (i - L.length) a, fun i A hA => ?_, fun i j a q r => ?_, fun i a q => ?_⟩
    · obtain ⟨u, hu⟩ := h.m.d a o q
      exact iv.m.n a u hu (hP a o q np) (h.m.n a o q np n)
    · obtain ⟨u, hu⟩ := h.m.d a o q
      exact iv.m.d a u hu
    · by_cases hi : i < L.length
      · rw [List.getElem?_append_left (by omega)] at hA
        unfold rem at hA
        rw [List.getElem?_mapIdx, List.getElem?_eq_getElem hi, Option.map_some] at hA
        have hA := Option.some.inj hA
        simp only [hi, if_true]
        by_cases hik : i ∈ ks
        · rw [if_pos hik] at hA
          rw [← hA]
          exact fun a ⟨z, _⟩ => z hik
        · rw [if_neg hik] at hA
          show A.p K s'.F s'.H (fun a => i ∉ ks ∧ φ i a)
          have eφ : (fun a => i ∉ ks ∧ φ i a) = φ i := by
            funext a
            apply propext
            exact ⟨fun z => z.2, fun z => ⟨hik, z⟩⟩
          rw [eφ, ← hA]
          exact OA.stay (h1 i _ (List.getElem?_eq_getElem hi)) iv.m fun a q ⟨k, hk, q2⟩ => hik (h2 _ _ _ q q2 ▸ hk)
      · rw [List.getElem?_append_right (by omega), hlen] at hA
        simp only [hi, if_false]
        exact g1 _ A hA
    · have apart : ∀ i j a, i < L.length → i ∉ ks → φ i a → φ' j a → False := fun i j a hi hik q r => by
        rcases (g3 j a r).2.1 with ⟨k, hk, q2⟩ | w
        · exact hik (h2 _ _ _ q q2 ▸ hk)
        · obtain ⟨o, ho⟩ := (L[i]).dom (h1 i _ (List.getElem?_eq_getElem hi)) q
          rw [w] at ho; cases ho
      by_cases hi : i < L.length <;> by_cases hj : j < L.length
      · simp only [hi, if_true] at q
        simp only [hj, if_true] at r
        exact h2 _ _ _ q.2 r.2
      · simp only [hi, if_true] at q
        simp only [hj, if_false] at r
        exact (apart _ _ _ hi q.1 q.2 r).elim
      · simp only [hi, if_false] at q
        simp only [hj, if_true] at r
        exact (apart _ _ _ hj r.1 r.2 q).elim
      · simp only [hi, if_false] at q
        simp only [hj, if_false] at r
        have := g2 _ _ _ q r
        omega
    · rw [List.length_append, hlen]
      by_cases hi : i < L.length
      · simp only [hi, if_true] at q
        obtain ⟨z1, z2, z3⟩ := h3 i a q.2
        obtain ⟨o, ho⟩ := (L[i]).dom (h1 i _ (List.getElem?_eq_getElem hi)) q.2
        exact ⟨iv.m.n a o ho (fun ⟨k, hk, q2⟩ => q.1 (h2 _ _ _ q.2 q2 ▸ hk)) z1, z2, by omega⟩
      · simp only [hi, if_false] at q
        obtain ⟨z1, z2, z3⟩ := g3 _ a q
        refine ⟨z1, ?_, by omega⟩
        rcases z2 with ⟨k, hk, q2⟩ | w
        · exact (h3 k a q2).2.1
        · exact .inr (h.m.fr_back w)
theorem Iv.fresh (h : Iv K (fun _ => False) s0 s L) (i : Nat) {p : Addr} {xs : List α} (e : L[i]? = some (Dy.ol p xs) := by rfl) : s0.H p = none := by
  obtain ⟨φ, h1, h2, h3⟩ := h.o
  obtain ⟨q, vs, hp, r⟩ := h1 i _ e
  rcases (h3 i p ((q p).mpr rfl)).2.1 with w | w
  · exact w.elim
  · exact w
end
end Dy

namespace Dy
open PySem PySem.Spec L2
open PyProof.Rows hiding St
open Enc (rep)
open Flat (toV)
open EncA (repA)

section
variable {κ τ : Type} [DecidableEq κ]
def dval (xs : List (κ × τ)) (k : κ) : Option τ := (xs.find? fun z => decide (z.1 = k)).map (·.2)
def dput (xs : List (κ × τ)) (k : κ) (y : τ) : List (κ × τ) := if (xs.any fun z => decide (z.1 = k)) = true then xs.map fun z => if z.1 = k then (z.1, y) else z else xs ++ [(k, y)]
def ddrop (xs : List (κ × τ)) (k : κ) : List (κ × τ) := xs.filter fun z => decide (z.1 ≠ k)
end
section
variable {κ α : Type} [DKey κ] [DecidableEq κ] [Enc α] {K : PySem.W.Frag} {F F' : Hp}
theorem toK_dec (a b : κ) : decide (DKey.toK a = DKey.toK b) = decide (a = b) := decide_eq_decide.mpr (DKey.kinj a b)
theorem KReps.val {k : κ} : ∀ {kv : List (Key × V)} {xs : List (κ × α)}, KReps K F kv xs → match dval xs k with
    | none => valV kv (DKey.toK k) = none
    | some x => ∃ v, valV kv (DKey.toK k) = some v ∧ rep K F v x
  | [], [], _ => rfl
  | (j, v) :: r, (i, x) :: xs, ⟨e, h, t⟩ => by
    subst e
    unfold dval valV
    rw [List.find?_cons, List.find?_cons]
    dsimp only
    rw [toK_dec i k]
    cases decide (i = k) with
    | true => exact ⟨v, rfl, h⟩
    | false => exact KReps.val (k := k) t
  | [], _ :: _, h => h.elim
  | _ :: _, [], h => h.elim
theorem KReps.any {k : κ} : ∀ {kv : List (Key × V)} {xs : List (κ × α)}, KReps K F kv xs → (kv.any fun z => decide (z.1 = DKey.toK k)) = xs.any fun z => decide (z.1 = k)
  | [], [], _ => rfl
  | (j, v) :: r, (i, x) :: xs, ⟨e, h, t⟩ => by
    subst e
    rw [List.any_cons, List.any_cons, KReps.any (k := k) t, toK_dec i k]
  | [], _ :: _, h => h.elim
  | _ :: _, [], h => h.elim
theorem KReps.app : ∀ {kv kw : List (Key × V)} {xs ys : List (κ × α)}, KReps K F kv xs → KReps K F kw ys → KReps K F (kv ++ kw) (xs ++ ys)
  | [], _, [], _, _, h => h
  | _ :: _, _, _ :: _, _, ⟨e, h, t⟩, w => ⟨e, h, KReps.app t w⟩
  | [], _, _ :: _, _, h, _ => h.elim
  | _ :: _, _, [], _, h, _ => h.elim
theorem KReps.repl {k : κ} {v : V} {y : α} (r : rep K F v y) : ∀ {kv : List (Key × V)} {xs : List (κ × α)}, KReps K F kv xs → KReps K F (kv.map fun z => if z.1 = DKey.toK k then (z.1, v) else z) (xs.map fun z => if z.1 = k then (z.1, y) else z)
  | [], [], _ => trivial
  | (j, u) :: kv, (i, x) :: xs, ⟨e, h, t⟩ => by
    subst e
    rw [List.map_cons, List.map_cons]
    dsimp only
    by_cases hh : i = k
    · rw [if_pos hh, if_pos (by rw [hh])]
      exact ⟨rfl, r, KReps.repl r t⟩
    · rw [if_neg hh, if_neg (fun z => hh ((DKey.kinj i k).mp z))]
      exact ⟨rfl, h, KReps.repl r t⟩
  | [], _ :: _, h => h.elim
  | _ :: _, [], h => h.elim
theorem KReps.put {k : κ} {v : V} {y : α} {kv : List (Key × V)} {xs : List (κ × α)} (h : KReps K F kv xs) (r : rep K F v y) : KReps K F (putK kv (DKey.toK k) v) (dput xs k y) := by
  unfold putK dput
  rw [h.any (k := k)]
  split
  · exact h.repl r
  · exact h.app ⟨rfl, r, trivial⟩
theorem KReps.drop {k : κ} : ∀ {kv : List (Key × V)} {xs : List (κ × α)}, KReps K F kv xs → KReps K F (dropK kv (DKey.toK k)) (ddrop xs k)
  | [], [], _ => trivial
  | (j, v) :: r, (i, x) :: xs, ⟨e, h, t⟩ => by
    subst e
    unfold dropK ddrop
    rw [List.filter_cons, List.filter_cons]
    dsimp only
    by_cases hh : i = k
    · rw [if_neg (by simp [hh]), if_neg (by simp [hh])]
      exact KReps.drop t
    · rw [if_pos (by simpa using fun z => hh ((DKey.kinj i k).mp z)), if_pos (by simpa using hh)]
      exact ⟨rfl, h, KReps.drop t⟩
  | [], _ :: _, h => h.elim
  | _ :: _, [], h => h.elim
theorem KReps.get : ∀ {kv : List (Key × V)} {xs : List (κ × α)} {i : Nat} {z : κ × α}, KReps K F kv xs → xs[i]? = some z → ∃ v, kv[i]? = some (DKey.toK z.1, v) ∧ rep K F v z.2
  | [], [], _, _, _, e => by simp at e
  | (j, v) :: _, (i, x) :: _, 0, z, ⟨e, h, _⟩, e2 => by
    have : (i, x) = z := Option.some.inj e2
    subst this
    exact ⟨v, by rw [e]; rfl, h⟩
  | _ :: kv, _ :: xs, i + 1, z, ⟨_, _, t⟩, e => by
    obtain ⟨v, h1, h2⟩ := KReps.get (i := i) t (by simpa using e)
    exact ⟨v, by simpa using h1, h2⟩
  | [], _ :: _, _, _, h, _ => h.elim
  | _ :: _, [], _, _, h, _ => h.elim
theorem KReps.keys : ∀ {kv : List (Key × V)} {xs : List (κ × α)}, KReps K F kv xs → Reps K F (kv.map fun z => kV z.1) (xs.map (·.1))
  | [], [], _ => trivial
  | (j, v) :: _, (i, x) :: _, ⟨e, _, t⟩ => by
    subst e
    exact ⟨Flat.iff.mpr (DKey.kv i), KReps.keys t⟩
  | [], _ :: _, h => h.elim
  | _ :: _, [], h => h.elim
end
def RepD {κ α : Type} [DKey κ] [Enc α] (K : PySem.W.Frag) (s : S) (p : Addr) (xs : List (κ × α)) : Prop := ∃ kv, Rd s.H p (.dK kv) ∧ KReps K s.F kv xs
def OwnD {κ α : Type} [DKey κ] [Enc α] (K : PySem.W.Frag) (s : S) (p : Addr) (xs : List (κ × α)) : Prop := s.F p = none ∧ ∃ kv, s.H p = some (.dK kv) ∧ KReps K s.F kv xs
def CellAt (s : S) (K : PySem.W.Frag) (p : Addr) (c : Str) (fs : List (Str × V)) : Prop := ∃ dx, s.H p = some (.ins (He.ga K c) dx fs)
section
variable {α β κ : Type} [Enc α] [Enc β] [DKey κ] {K : PySem.W.Frag} {P0 : Addr → Prop} {s0 s s1 t : S} {L M R : List OA}
theorem Rd.ex {p : Addr} {u : HO} (h : Rd s.H p u) (e : Ex s t) : Rd t.H p u := h.elim (fun z => .inl (e.h _ _ z)) fun ⟨o, z⟩ => .inr ⟨o, e.h _ _ z⟩
theorem RepD.ex {p : Addr} {xs : List (κ × α)} (h : RepD K s p xs) (e : Ex s t) : RepD K t p xs := by
  obtain ⟨kv, h1, h2⟩ := h
  exact ⟨kv, Rd.ex h1 e, h2.mono e.f⟩
theorem OwnD.r {p : Addr} {xs : List (κ × α)} (h : OwnD K s p xs) : RepD K s p xs := by
  obtain ⟨_, kv, h1, h2⟩ := h
  exact ⟨kv, .inl h1, h2⟩
theorem CellAt.ex {p : Addr} {c : Str} {fs : List (Str × V)} (h : CellAt s K p c fs) (e : Ex s t) : CellAt t K p c fs := by
  obtain ⟨dx, h1⟩ := h
  exact ⟨dx, e.h _ _ h1⟩
theorem OwnD.ex {p : Addr} {xs : List (κ × α)} (h : OwnD K s p xs) (e : Ex s t) : OwnD K t p xs := by
  obtain ⟨h0, kv, h1, h2⟩ := h
  exact ⟨e.n _ _ h1 h0, kv, e.h _ _ h1, h2.mono e.f⟩
theorem Iv.od (h : Iv K P0 s0 s L) (i : Nat) {p : Addr} {xs : List (κ × α)} (e : L[i]? = some (Dy.od p xs) := by rfl) : OwnD K s p xs := by
  obtain ⟨P, ⟨h0, kv, h1, h2⟩, h3⟩ := h.at i e
  exact ⟨h3 p ((h0 p).mpr rfl), kv, h1, h2⟩
theorem Iv.odl (h : Iv K P0 s0 s L) (i : Nat) {p : Addr} {o : Obj} {kv : List (Key × V)} {xs : List (κ × α)} (e : L[i]? = some (Dy.odl p o kv xs) := by rfl) : s.F p = none ∧ s.H p = some (.frz o (.dK kv)) ∧ KReps K s.F kv xs := by
  obtain ⟨P, ⟨h0, h1, h2⟩, h3⟩ := h.at i e
  exact ⟨h3 p ((h0 p).mpr rfl), h1, h2⟩
theorem Iv.odr (h : Iv K P0 s0 s L) (i : Nat) {p : Addr} {o : Obj} {kv : List (Key × V)} {xs : List (κ × α)} (e : L[i]? = some (Dy.odl p o kv xs) := by rfl) : RepD K s p xs := ⟨kv, .inr ⟨o, (h.odl i e).2.1⟩, (h.odl i e).2.2⟩
theorem Iv.cell (h : Iv K P0 s0 s L) (i : Nat) {p : Addr} {c : Str} {fs : List (Str × V)} (e : L[i]? = some (Dy.cell p c fs) := by rfl) : CellAt s K p c fs := by
  obtain ⟨P, ⟨dx, h0, h1, h2⟩, h3⟩ := h.at i e
  exact ⟨dx, h1⟩
theorem Iv.rol (h : Iv K P0 s0 s L) (r : Ro K P0 s0 R) (i : Nat) {p : Addr} {xs : List α} (e : R[i]? = some (Dy.ol p xs) := by rfl) : RepR K s (.ref p) xs := by
  obtain ⟨P, h0, vs, h1, h2⟩ := h.ro r i e
  exact ⟨p, vs, rfl, .inl (.inl h1), h2⟩
theorem Iv.rcell (h : Iv K P0 s0 s L) (r : Ro K P0 s0 R) (i : Nat) {p : Addr} {c : Str} {fs : List (Str × V)} (e : R[i]? = some (Dy.cell p c fs) := by rfl) : CellAt s K p c fs := by
  obtain ⟨P, dx, h0, h1, h2⟩ := h.ro r i e
  exact ⟨dx, h1⟩
theorem Iv.rfz (h : Iv K P0 s0 s L) (r : Ro K P0 s0 R) (i : Nat) {v : V} {x : α} (e : R[i]? = some (Dy.fz v x) := by rfl) : rep K s.F v x := by
  obtain ⟨P, h0, h1⟩ := h.ro r i e
  exact h0
theorem Iv.sd (h : Iv K P0 s0 s L) (i : Nat) {p : Addr} {xs ys : List (κ × α)} (e : Ex s s1) (n : s.H p = none) (o : OwnD K s1 p xs) (q : ys = xs) : Iv K P0 s0 s1 (L.set i (Dy.od p ys)) := by
  subst q
  obtain ⟨o1, vs, o2, o3⟩ := o
  exact h.put i e ⟨fun a => a = p, ⟨fun _ => Iff.rfl, vs, o2, o3⟩, fun a z => by rw [z]; exact ⟨o1, n⟩⟩
theorem Iv.md (h : Iv K P0 s0 s L) (i : Nat) {p : Addr} {xs : List (κ × α)} {ys zs : List (κ × β)} (m : Mx (· = p) s s1) (o : OwnD K s1 p ys) (q : zs = ys) (hA : L[i]? = some (Dy.od p xs) := by rfl) : Iv K P0 s0 s1 (L.set i (Dy.od p zs)) := by
  subst q
  obtain ⟨o1, vs, o2, o3⟩ := o
  refine h.upd i hA fun P hP _ => ⟨P, ?_, ?_, ?_⟩
  · exact ⟨hP.1, vs, o2, o3⟩
  · intro a z
    rw [(hP.1 a).mp z]
    exact ⟨o1, .inl ((hP.1 p).mpr rfl)⟩
  · exact ⟨m.f, fun a o q n => m.h a o q fun z => n ((hP.1 a).mpr z), fun a o q _ z => m.n a o q z, m.d⟩
def lockS (s : S) (p : Addr) (u : HO) (h : s.F p = none) : S := s.put p u h
theorem Iv.lock (h : Iv K P0 s0 s L) (i : Nat) {p : Addr} {kv : List (Key × V)} {xs : List (κ × α)} (o : Obj) (hA : L[i]? = some (Dy.od p xs)) (hf : s.F p = none) (h1 : s.H p = some (.dK kv)) (h2 : KReps K s.F kv xs) : Iv K P0 s0 (s.put p (.frz o (.dK kv)) hf) (L.set i (Dy.odl p o kv xs)) :=
  h.upd i hA fun P hP _ => ⟨P, ⟨hP.1, upd_same, h2⟩, fun a z => by rw [(hP.1 a).mp z]; exact ⟨hf, .inl ((hP.1 p).mpr rfl)⟩, by
    have m : Mx (· = p) s (s.put p (.frz o (.dK kv)) hf) := Mx.put hf
    exact ⟨m.f, fun a o q n => m.h a o q fun z => n ((hP.1 a).mpr z), fun a o q _ z => m.n a o q z, m.d⟩⟩
end
section
variable {α β γ κ : Type} [Enc α] [Enc β] [Enc γ] [DKey κ] [DecidableEq κ] {X : Cx} {σ : L2.St} {P0 : Addr → Prop} {s0 s t : S} {L : List OA} {e a b c o i : Expr} {es : List Expr} {pos p0 p1 p2 p3 : Pos} {D : Ends} {rest : List Stmt} {n : Str} {p : Addr}
theorem ev_raw {v : V} {x : α} (h : Ev X e σ s (Rw.mk v)) (r : rep X.K s.F v x) : Ev X e σ s x := fun s1 k Q q => h s1 k Q fun u s2 k2 e1 => by
  cases (show u = v from e1)
  exact q v s2 k2 (Enc.mono (k.trans k2).f r)
theorem er_raw {p : Addr} {xs : List α} (h : Ev X e σ s (Rw.mk (.ref p))) (r : RepR X.K s (.ref p) xs) : EvR X e σ s xs := fun s1 k Q q => h s1 k Q fun u s2 k2 e1 => by
  cases (show u = V.ref p from e1)
  exact q _ s2 k2 (r.ex (k.trans k2))
theorem raw_var (i : Nat) {v : V} (h : σ[i]? = some (some v)) (hN : X.N[i]? = some n := by rfl) (hv : Vis X.env.scope n := by first | exact Or.inl rfl | exact Or.inr (Or.inl rfl) | exact Or.inr (Or.inr rfl)) (hd : (n == ("__debug__" : Str)) = false := by decide)
    (hcd : (n == ("__classdict__" : Str)) = false := by decide) : Ev X (.Name n pos) σ s (Rw.mk v) := ev_var i h (show rep _ _ v (Rw.mk v) from rfl) hN hv hd hcd
theorem raw_fld {f c : Str} {v : V} {fs : List (Str × V)} (h : Ev X e σ s (Rw.mk (.ref p))) (r : CellAt s X.K p c fs) (hl : fs.lookup f = some v) (hc : Cls X.K (He.ga X.K c)) (hn : NoAttr X.K (He.ga X.K c) f) (hb : attributeBase e f X.env (eval e X.env) = eval e X.env := by rfl) : Ev X (.Attribute e f pos) σ s (Rw.mk v) := fun s1 k Q q =>
  we_of (pe_fld pe_we hb) (h s1 k _ fun u s2 k2 e1 => by
    cases (show u = V.ref p from e1)
    obtain ⟨dx, h1⟩ := r.ex (k.trans k2)
    exact ⟨p, _, dx, fs, v, rfl, h1, hc, hn, hl, q v s2 k2 rfl⟩)
theorem hu1 {j : Nat} (hr : Room j X.A) : X.A.units + 1 < cLine := by have := hu64 hr; omega
theorem dget_of {K : PySem.W.Frag} {k : κ} {xs : List (κ × α)} {w : V} (r : RepD K s p xs) (hw : w = toV k) : ∃ o, DGet s.H p w o ∧ match dval xs k with | none => o = none | some x => ∃ v, o = some v ∧ rep K s.F v x := by
  obtain ⟨kv, h1, h2⟩ := r
  refine ⟨valV kv (DKey.toK k), .inl ⟨kv, DKey.toK k, h1, by rw [hw, DKey.kv], rfl⟩, ?_⟩
  have := h2.val (k := k)
  cases hd : dval xs k with
  | none => rw [hd] at this; exact this
  | some x => rw [hd] at this; exact this
theorem ev_dget {j : Nat} {k : κ} {xs : List (κ × α)} {x : α} (hr : Room j X.A) (ho : Ev X o σ s (Rw.mk (.ref p))) (r : RepD X.K s p xs) (hi : Ev X i σ s k) (h : dval xs k = some x) (hs : NoSl i := by intro _ _; rfl) : Ev X (.Subscript o i pos) σ s x := fun s1 k1 Q q =>
  we_of (pe_dget (hu1 hr) pe_we pe_we hs) (ho s1 k1 _ fun v s2 k2 e2 => hi s2 (k1.trans k2) _ fun u s3 k3 e3 => by
    cases (show v = V.ref p from e2)
    obtain ⟨o', g1, g2⟩ := dget_of (r.ex ((k1.trans k2).trans k3)) (Flat.iff.mp e3)
    rw [h] at g2
    obtain ⟨w, rfl, g3⟩ := g2
    exact ⟨p, w, rfl, g1, q w s3 (k2.trans k3) g3⟩)
theorem dval_some {xs : List (κ × α)} {k : κ} {o : Option V} {K : PySem.W.Frag} {F : Hp} (g : match dval xs k with | none => o = none | some x => ∃ v, o = some v ∧ rep K F v x) : o.isSome = (dval xs k).isSome := by
  cases hd : dval xs k with
  | none => rw [hd] at g; rw [g]; rfl
  | some x => rw [hd] at g; obtain ⟨v, rfl, _⟩ := g; rfl
theorem ev_dnotIn {j : Nat} {k : κ} {xs : List (κ × α)} (hr : Room j X.A) (hi : Ev X i σ s k) (ho : Ev X o σ s (Rw.mk (.ref p))) (r : RepD X.K s p xs) (h1 : behindInMarks .NotIn o = false := by rfl) : EvB X (.Compare i [.NotIn] [o] pos) σ s (!(dval xs k).isSome) :=
  ⟨fun s1 k1 Q q => we_of (pe_cmp (pc_dnotin (hu1 hr) pe_we pe_we) h1) (hi s1 k1 _ fun u s2 k2 e2 => ho s2 (k1.trans k2) _ fun v s3 k3 e3 => by
    cases (show v = V.ref p from e3)
    obtain ⟨o', g1, g2⟩ := dget_of (r.ex ((k1.trans k2).trans k3)) ((Flat.iff.mp (e2 : rep _ _ u k)))
    exact ⟨p, o', rfl, g1, by rw [dval_some g2]; exact q _ s3 (k2.trans k3) rfl⟩),
   fun s1 k1 Q q => wt_of (pt_cmp (pc_dnotin (hu1 hr) pe_we pe_we) h1) (hi s1 k1 _ fun u s2 k2 e2 => ho s2 (k1.trans k2) _ fun v s3 k3 e3 => by
    cases (show v = V.ref p from e3)
    obtain ⟨o', g1, g2⟩ := dget_of (r.ex ((k1.trans k2).trans k3)) ((Flat.iff.mp (e2 : rep _ _ u k)))
    exact ⟨p, o', rfl, g1, _, by rw [dval_some g2], q s3 (k2.trans k3)⟩)⟩
def EvND (X : Cx) (e : Expr) (σ : L2.St) (s : S) (xs : List (κ × α)) : Prop := ∀ s1, Ex s s1 → ∀ Q : VK, (∀ p s2, Ex s1 s2 → s1.H p = none → OwnD X.K s2 p xs → Q (.ref p) s2.H) → WE X e σ s1.H Q
theorem en_dnew : EvND X (.Dict [] [] pos) σ s ([] : List (κ × α)) := fun s1 k1 Q q => we_of pe_dnewK fun p hp => q p (s1.newO p (.dK []) hp) (Ex.newO hp) hp ⟨(fF hp : s1.F p = none), [], upd_same, trivial⟩
theorem do_dput {j : Nat} {k : κ} {xs : List (κ × α)} {y : α} (hr : Room j X.A) (ho : Ev X o σ s (Rw.mk (.ref p))) (r : OwnD X.K s p xs) (hv : Ev X e σ s y) (hi : Ev X i σ s k) (hz : xs.length < sizeLine) (kk : ∀ s1, Mx (· = p) s s1 → OwnD X.K s1 p (dput xs k y) → WSs X rest D σ s1.H)
    (hs : swapsWith e (some (.Subscript o i p1)) pos.line X.env = pure false := by rfl) : WSs X (.Assign [.Subscript o i p1] e pos :: rest) D σ s.H :=
  do_cons (ps_dput (hu1 hr) pe_we pe_we pe_we hs) (hv s (Ex.refl _) _ fun v s1 k1 e1 => ho s1 k1 _ fun u s2 k2 e2 => hi s2 (k1.trans k2) _ fun w s3 k3 e3 => by
    cases (show u = V.ref p from e2)
    have kx := (k1.trans k2).trans k3
    obtain ⟨f0, kv, h1, h2⟩ := r.ex kx
    refine ⟨p, _, rfl, .inl ⟨kv, DKey.toK k, h1, by rw [Flat.iff.mp e3, DKey.kv], by rw [h2.len]; exact hz, rfl⟩, ?_⟩
    exact kk (s3.put p (.dK (putK kv (DKey.toK k) v)) f0) (kx.mx.trans (Mx.put f0)) ⟨f0, _, upd_same, h2.put (Enc.mono (k2.trans k3).f e1)⟩)
end
end Dy

namespace Dy
open PySem PySem.Spec L2
open PyProof.Rows hiding St
open Enc (rep)
open Flat (toV)
open EncA (repA)

section
variable {α β γ κ τ υ ρ : Type} [Enc α] [Enc β] [Enc γ] [Enc τ] [DKey κ] [DecidableEq κ] {X : Cx} {σ : L2.St} {P0 : Addr → Prop} {s0 s t : S} {L : List OA} {e a b c o i tg iter elt : Expr} {ifs : List Expr} {scope : Scope} {own : List (Str × Nat)} {es : List Expr} {pos p0 p1 p2 p3 : Pos} {D : Ends} {rest body : List Stmt} {n : Str} {p : Addr}
structure WalkG (K : PySem.W.Frag) (G : S → Prop) (J : It) (xs : List α) : Prop where
  go : ∀ (i : Nat) (t : S) (x : α), G t → xs[i]? = some x → J.go i t.H ∧ ∀ v H', J.yld i t.H v H' → ∃ t' : S, t'.H = H' ∧ Ex t t' ∧ rep K t'.F v x
  stop : ∀ (i : Nat) (t : S), G t → xs.length ≤ i → J.stop i t.H
def EvIG (X : Cx) (tg e : Expr) (σ : L2.St) (s : S) (G : S → Prop) (xs : List α) : Prop := ∀ s1, Ex s s1 → ∀ R : It → Hp → Prop, (∀ J s2, Ex s1 s2 → WalkG X.K G J xs → R J s2.H) → WI X tg e σ s1.H R
def GL (K : PySem.W.Frag) (p : Addr) (xs : List α) : S → Prop := fun t => RepR K t (.ref p) xs
def GD (K : PySem.W.Frag) (p : Addr) (o : Obj) (kv : List (Key × V)) (xs : List (κ × α)) : S → Prop := fun t => t.H p = some (.frz o (.dK kv)) ∧ KReps K t.F kv xs
theorem GL.ex {K : PySem.W.Frag} {xs : List α} (h : GL K p xs s) (e : Ex s t) : GL K p xs t := RepR.ex h e
theorem GD.ex {K : PySem.W.Frag} {o : Obj} {kv : List (Key × V)} {xs : List (κ × α)} (h : GD K p o kv xs s) (e : Ex s t) : GD K p o kv xs t := ⟨e.h _ _ h.1, h.2.mono e.f⟩
theorem ei_keys {ob : Obj} {kv : List (Key × V)} {xs : List (κ × α)} (h : Ev X e σ s (Rw.mk (.ref p))) (r : GD X.K p ob kv xs s) : EvIG X tg e σ s (GD X.K p ob kv xs) (xs.map (·.1)) := fun s1 k R q =>
  wi_of (pi_keys pe_we) (h s1 k _ fun v s2 k2 e2 => by
    cases (show v = V.ref p from e2)
    exact ⟨p, ob, rfl, .inl ⟨kv, (GD.ex r (k.trans k2)).1, q _ s2 k2 ⟨fun i t x g hx => by
      rw [List.getElem?_map] at hx
      obtain ⟨z, h1, h2⟩ := Option.map_eq_some_iff.mp hx
      obtain ⟨w, h3, h4⟩ := g.2.get h1
      refine ⟨⟨g.1, (List.getElem?_eq_some_iff.mp h3).1⟩, fun y H' ⟨e1, k', v', h5, h6⟩ => ⟨t, e1.symm, Ex.refl _, ?_⟩⟩
      rw [h3] at h5
      cases h5
      rw [h6, ← h2]
      exact Flat.iff.mpr (DKey.kv _), fun i t g hi => ⟨g.1, by rw [g.2.len]; rw [List.length_map] at hi; exact hi⟩⟩⟩⟩)
abbrev LK (D : Ends) (rest : List Stmt) (X : Cx) (p : Addr) (ob : Obj) (kv : List (Key × V)) : Ends :=
  ⟨fun σ' H' => H' p = some (.frz ob (.dK kv)) ∧ WSs X rest D σ' (upd H' p (.dK kv)), fun v H' => H' p = some (.frz ob (.dK kv)) ∧ D.rt v (upd H' p (.dK kv)), fun σ' H' => H' p = some (.frz ob (.dK kv)) ∧ D.bk σ' (upd H' p (.dK kv)), fun σ' H' => H' p = some (.frz ob (.dK kv)) ∧ D.ct σ' (upd H' p (.dK kv))⟩
theorem lk_ex {kv : List (Key × V)} {ob : Obj} {s1 : S} (hf : s.F p = none) (h1 : s.H p = some (.dK kv)) (k : Ex s s1) : ∃ (hf1 : s1.F p = none), Ex (s.put p (.frz ob (.dK kv)) hf) (s1.put p (.frz ob (.dK kv)) hf1) := by
  refine ⟨k.n _ _ h1 hf, k.f, fun a o q => ?_, fun a o q n => ?_⟩
  · by_cases e : a = p
    · subst e
      have q : upd s.H a (.frz ob (.dK kv)) a = some o := q
      rw [upd_same] at q
      show upd s1.H a _ a = _
      rw [upd_same]; exact q
    · have q : upd s.H p (.frz ob (.dK kv)) a = some o := q
      rw [upd_ne e] at q
      show upd s1.H p _ a = _
      rw [upd_ne e]; exact k.h _ _ q
  · by_cases e : a = p
    · subst e; exact k.n _ _ h1 hf
    · have q : upd s.H p (.frz ob (.dK kv)) a = some o := q
      rw [upd_ne e] at q
      exact k.n _ _ q n
theorem lk_back {kv : List (Key × V)} {ob : Obj} {s1 s2 : S} (hf : s1.F p = none) (h1 : s1.H p = some (.dK kv)) (k : Ex (s1.put p (.frz ob (.dK kv)) hf) s2) : ∃ (hf2 : s2.F p = none), s2.H p = some (.frz ob (.dK kv)) ∧ Ex s1 (s2.put p (.dK kv) hf2) := by
  have hf2 : s2.F p = none := k.n p _ (show upd s1.H p _ p = _ from upd_same) hf
  refine ⟨hf2, k.h p _ (show upd s1.H p _ p = _ from upd_same), k.f, fun a o q => ?_, fun a o q n => ?_⟩
  · by_cases e : a = p
    · subst e
      rw [h1] at q
      cases q
      exact upd_same
    · show upd s2.H p _ a = _
      rw [upd_ne e]
      exact k.h _ _ (show upd s1.H p _ a = _ by rw [upd_ne e]; exact q)
  · by_cases e : a = p
    · subst e; exact hf2
    · exact k.n a o (show upd s1.H p _ a = _ by rw [upd_ne e]; exact q) n
theorem comp_readG {xs : List α} {ys : List β} {t : α → Option Bool} {f : α → Option β} {g : TG} {B : Hp → α → St → St → Prop} {tt : TT} {G : S → Prop} (hGx : ∀ s1 s2, Ex s1 s2 → G s1 → G s2) (hG0 : G s) (hi : EvIG X tg iter σ s G xs)
    (T : Tgt (α := α) X.K g B) (hf : compO t f xs = some ys) (hz : ys.length ≤ sizeLine)
    (hw : ∀ (F : Hp) (x : α) σ2, B F x (wipe σ (own.map (·.2))) σ2 → wipe σ2 (own.map (·.2)) = wipe σ (own.map (·.2)))
    (ht : ∀ (x : α) (b : Bool) (s1 : S) (σ2 : St) (Q : Bool → Hp → Prop), x ∈ xs → Ex s s1 → B s1.F x (wipe σ (own.map (·.2))) σ2 → t x = some b → (∀ s2, Ex s1 s2 → Q b s2.H) → tt σ2 s1.H Q)
    (he : ∀ (x : α) (y : β) (s1 : S) (σ2 : St), x ∈ xs → Ex s s1 → B s1.F x (wipe σ (own.map (·.2))) σ2 → t x = some true → f x = some y → ∀ s0 H0 C cl fp, Ev (Blk X scope s0 H0 C cl fp) elt σ2 s1 y)
    (s1 : S) (k : Ex s s1) (Q : VK) (q : ∀ p s2, Ex s1 s2 → s1.H p = none → Own X.K s2 p ys → Q (.ref p) s2.H) : tLc (WI X tg iter) g tt (fun σ H Q => ∀ s0 H0 C cl fp, WE (Blk X scope s0 H0 C cl fp) elt σ H Q) (own.map (·.2)) σ s1.H Q := by
  refine hi s1 k _ fun J s2 k2 W => ?_
  intro D hD
  have hgG : ∀ u, Ex s2 u → G u := fun u ku => hGx _ _ ((k.trans k2).trans ku) hG0
  refine ⟨fun i m H => ∃ (u : S) (pre : List β) (vs : List V), u.H = H ∧ m = xs.length - i ∧ Ex s2 u ∧ u.F D = none ∧ u.H D = some (.lst vs) ∧ Reps X.K u.F vs pre ∧ (∃ suf, compO t f (xs.drop i) = some suf ∧ pre ++ suf = ys), ⟨xs.length, s2.newO D (.lst []) hD, [], [], rfl, rfl, Ex.newO hD, (fF hD : s2.F D = none), upd_same, trivial, ys, by rw [List.drop_zero]; exact hf, rfl⟩, ?_⟩
  rintro i m H ⟨u, pre, vs, rfl, rfl, ku, n1, n2, n3, suf, h1, h2⟩
  by_cases hi' : i < xs.length
  · right
    have hx : xs[i]? = some xs[i] := List.getElem?_eq_getElem hi'
    obtain ⟨g1, g2⟩ := W.go i u xs[i] (hgG u ku) hx
    refine ⟨g1, fun H' => ∃ m', m' < xs.length - i ∧ ∃ (u : S) (pre : List β) (vs : List V), u.H = H' ∧ m' = xs.length - (i + 1) ∧ Ex s2 u ∧ u.F D = none ∧ u.H D = some (.lst vs) ∧ Reps X.K u.F vs pre ∧ (∃ suf, compO t f (xs.drop (i + 1)) = some suf ∧ pre ++ suf = ys), fun H' z => z, fun v H' hy => ?_⟩
    obtain ⟨u', rfl, ku', rv⟩ := g2 v H' hy
    refine T.run u' v xs[i] _ _ rv fun σ2 hB => ⟨hw _ _ _ hB, ?_⟩
    rw [List.drop_eq_getElem_cons hi'] at h1
    unfold compO at h1
    cases hb : t xs[i] with
    | none => rw [hb] at h1; cases h1
    | some b =>
      rw [hb, Option.bind_some] at h1
      have mem : xs[i] ∈ xs := List.getElem_mem hi'
      have base : Ex s u' := (k.trans k2).trans (ku.trans ku')
      refine ht xs[i] b u' σ2 _ mem base hB hb fun u3 k3 => ?_
      have hlt : xs.length - (i + 1) < xs.length - i := by omega
      have kk : Ex u u3 := ku'.trans k3
      cases b with
      | false =>
        rw [if_neg Bool.false_ne_true] at h1 ⊢
        exact ⟨_, hlt, u3, pre, vs, rfl, rfl, ku.trans kk, kk.n _ _ n2 n1, kk.h _ _ n2, n3.mono kk.f, suf, h1, h2⟩
      | true =>
        rw [if_pos rfl] at h1 ⊢
        cases hfx : f xs[i] with
        | none => rw [hfx] at h1; cases h1
        | some y =>
          rw [hfx, Option.bind_some] at h1
          cases hr : compO t f (xs.drop (i + 1)) with
          | none => rw [hr] at h1; cases h1
          | some suf' =>
            rw [hr] at h1
            cases h1
            intro s0 H0 C cl fp
            refine he xs[i] y u' σ2 mem base hB hb hfx s0 H0 C cl fp u3 k3 _ fun w u4 k4 r4 => ?_
            have k5 : Ex u u4 := kk.trans k4
            have hD4 : u4.H D = some (.lst vs) := k5.h _ _ n2
            have hF4 : u4.F D = none := k5.n _ _ n2 n1
            have hlen : vs.length < sizeLine := by
              have e1 := n3.len
              have e2 : ys.length = pre.length + (suf'.length + 1) := by rw [← h2, List.length_append, List.length_cons]
              omega
            refine ⟨vs, hD4, hlen, _, hlt, u4.put D (.lst (vs ++ [w])) hF4, pre ++ [y], vs ++ [w], rfl, rfl, (ku.trans k5).mu1 (Mx.put hF4) hD, hF4, upd_same, (n3.mono k5.f).snoc r4, suf', rfl, by rw [List.append_assoc]; exact h2⟩
  · left
    have hd : xs.drop i = [] := List.drop_eq_nil_of_le (by omega)
    rw [hd] at h1
    cases h1
    refine ⟨W.stop i u (hgG u ku) (by omega), q D u (k2.trans ku) (fr_back k2 hD) ⟨n1, vs, n2, ?_⟩⟩
    rw [← h2, List.append_nil]
    exact n3
theorem en_comp1G {xs : List α} {ys : List β} {t : α → Option Bool} {f : α → Option β} {j : Nat} {n : Str} {py : Pos} {G : S → Prop} (hGx : ∀ s1 s2, Ex s1 s2 → G s1 → G s2) (hG0 : G s) (hc : X.calm = true) (hN : X.N.Nodup) (hi : EvIG X (.Name n py) iter σ s G xs) (ok : BlkOk X.N X.env.scope scope own) (hj : X.N[j]? = some n)
    (hjo : j ∈ own.map (·.2)) (hg : ∀ s0 H0 C cl fp, PG (Blk X scope s0 H0 C cl fp) (.Name n py) (gName j)) (hf : compO t f xs = some ys) (hz : ys.length ≤ sizeLine)
    (ht : ∀ (x : α) (b : Bool) (v : V) (s1 : S), x ∈ xs → Ex s s1 → rep X.K s1.F v x → t x = some b → ∀ s0 H0 C cl fp, EvT (Blk X scope s0 H0 C cl fp) c ((wipe σ (own.map (·.2))).set j (some v)) s1 b)
    (he : ∀ (x : α) (y : β) (v : V) (s1 : S), x ∈ xs → Ex s s1 → rep X.K s1.F v x → t x = some true → f x = some y → ∀ s0 H0 C cl fp, Ev (Blk X scope s0 H0 C cl fp) elt ((wipe σ (own.map (·.2))).set j (some v)) s1 y)
    (hs : ∀ x, foldedSetIterable iter X.env x = pure x := by intro _; rfl) : EvL X elt (.Name n py) iter [c] scope σ s ys :=
  ⟨hc, hN, hs, own, _, _, ok, hg, fun s0 H0 C cl fp => pts_one (pt_im fun _ _ _ h => h s0 H0 C cl fp), fun s1 k Q q => comp_readG (tt := fun σ H Q => ∀ s0 H0 C cl fp, WT (Blk X scope s0 H0 C cl fp) c σ H Q) hGx hG0 hi tg_n hf hz (fun F x σ2 ⟨v, _, e⟩ => by rw [e, wipe_set hjo]; exact wipe_wipe fun _ z => z)
    (fun x b s1 σ2 Q hx k ⟨v, r, e⟩ hb q => by subst e; intro s0 H0 C cl fp; exact ht x b v s1 hx k r hb s0 H0 C cl fp s1 (Ex.refl _) Q q) (fun x y s1 σ2 hx k ⟨v, r, e⟩ htx hfx => by subst e; exact he x y v s1 hx k r htx hfx) s1 k Q q⟩
end
end Dy

namespace Dy
open PySem PySem.Spec L2
open PyProof.Rows hiding St
open Enc (rep)
open Flat (toV)
open EncA (repA)

def tc (p : Addr) (vs : List V) : OA := ⟨fun K F H P => (∀ a, P a ↔ a = p) ∧ H p = some (.tup vs), fun e h => h, fun e ⟨h0, h1⟩ => ⟨h0, by rw [e p ((h0 p).mpr rfl)]; exact h1⟩, fun ⟨h0, h1⟩ q => ⟨_, (congrArg _ ((h0 _).mp q)).trans h1⟩⟩
abbrev No : Addr → Prop := fun _ => False
def spI {A O : Type} (K : PySem.W.Frag) (pre : List V → A → List OA → List OA → Prop) (m : A → Option O) (ok : List V → A → O → V → List OA → Prop) (er : List V → A → O → Er → List OA → Prop) : Sp := fun vs H Q E =>
  ∃ (s : S) (P0 : Addr → Prop) (L R : List OA) (x : A) (o : O), s.H = H ∧ pre vs x L R ∧ Iv K P0 s s L ∧ Ro K P0 s R ∧ m x = some o ∧
    (∀ v s' L', ok vs x o v L' → Iv K P0 s s' L' → Q v s'.H) ∧ (∀ e cls d s' L', er vs x o e L' → Iv K P0 s s' L' → ExR K s'.F e cls d → E cls d s'.H)
def noEr {A O : Type} : List V → A → O → Er → List OA → Prop := fun _ _ _ _ _ => False
abbrev FunM (K : PySem.W.Frag) (x q : Str) (st : Stmt) (f : Addr) (fd : FuncData) : Prop := FunD K x q (defArgs st) (defBody st) (defScope st) [] [] f fd
section
variable {P : Program} {w : World} {K : PySem.W.Frag} {mg : Str → Option Value} {base : Heap} {A O : Type} {pre : List V → A → List OA → List OA → Prop} {m : A → Option O} {ok : List V → A → O → V → List OA → Prop} {er : List V → A → O → Er → List OA → Prop}
theorem mk_I {x q : Str} {st : Stmt} {f : Addr} {fd : FuncData} {N ps : List Str} {k : Nat} (F : FunM K x q st f fd) (Sc : FnScope N ps (defScope st)) (hl : ∀ vs a L R, pre vs a L R → vs.length = ps.length)
    (body : ∀ (cdv : Value) (A' : Around) (outer : List Env) (s0 : Shared) (H0 : Hp) (E0 : XK), Room k (A'.deeper (envOfC q (defScope st) s0.heap.objs.size f cdv)) → ∀ (s : S) (P0 : Addr → Prop) (L R : List OA) (vs : List V) (a : A) (o : O) (Q : VK), pre vs a L R → Iv K P0 s s L → Ro K P0 s R → m a = some o →
      (∀ v s' L', ok vs a o v L' → Iv K P0 s s' L' → Q v s'.H) → WSs (cxOf CX0 P w K mg base N q (defScope st) f cdv A' outer s0 H0 E0).nox (defBody st) (RD Q) (start N vs) s.H) : FnOk P w K mg base CX0 (k + 1) f fd ps (spI K pre m ok noEr) :=
  F.ok Sc (fun vs H Q E ⟨s, P0, L, R, a, o, _, h, _⟩ => hl vs a L R h) (fun cdv A' outer s0 H0 vs Q E hr ⟨s, P0, L, R, a, o, e, h1, h2, h3, h4, h5, _⟩ => ⟨_, pss_ws.nox, by
    have := body cdv A' outer s0 H0 E hr s P0 L R vs a o Q h1 h2 h3 h4 h5
    rw [e] at this
    exact this⟩)
theorem mk_IX {x q : Str} {st : Stmt} {f : Addr} {fd : FuncData} {N ps : List Str} {k : Nat} (F : FunM K x q st f fd) (Sc : FnScope N ps (defScope st)) (hl : ∀ vs a L R, pre vs a L R → vs.length = ps.length)
    (body : ∀ (cdv : Value) (A' : Around) (outer : List Env) (s0 : Shared) (H0 : Hp) (E0 : XK), Room k (A'.deeper (envOfC q (defScope st) s0.heap.objs.size f cdv)) → ∀ (s : S) (P0 : Addr → Prop) (L R : List OA) (vs : List V) (a : A) (o : O) (Q : VK), pre vs a L R → Iv K P0 s s L → Ro K P0 s R → m a = some o →
      (∀ v s' L', ok vs a o v L' → Iv K P0 s s' L' → Q v s'.H) → (∀ e cls d s' L', er vs a o e L' → Iv K P0 s s' L' → ExR K s'.F e cls d → E0 cls d s'.H) → WSs (cxOf (L2.CX P w) P w K mg base N q (defScope st) f cdv A' outer s0 H0 E0) (defBody st) (RD Q) (start N vs) s.H) : FnOk P w K mg base (L2.CX P w) (k + 1) f fd ps (spI K pre m ok er) :=
  F.ok Sc (fun vs H Q E ⟨s, P0, L, R, a, o, _, h, _⟩ => hl vs a L R h) (fun cdv A' outer s0 H0 vs Q E hr ⟨s, P0, L, R, a, o, e, h1, h2, h3, h4, h5, h6⟩ => ⟨_, pss_ws, by
    have := body cdv A' outer s0 H0 E hr s P0 L R vs a o Q h1 h2 h3 h4 h5 h6
    rw [e] at this
    exact this⟩)
theorem cal_of {CX : CXT} {q : Sp} {x : Str} {f : Addr} {fd : FuncData} {ps : List Str} {k : Nat} (h : FnOk P w K mg base CX k f fd ps q) (hm : mg x = some (.ref f)) (kp : PySem.W.keepIn K (.ref f) = true) (b : Binds K fd ps []) : Cal P w K mg base CX k x q := ⟨f, fd, ps, h, hm, kp, b⟩
structure CalM (P : Program) (w : World) (K : PySem.W.Frag) (mg : Str → Option Value) (base : Heap) (CX : CXT) (k : Nat) (c m : Str) (q : Sp) : Prop where
  ex : ∃ (f : Addr) (fd : FuncData) (ps : List Str), FnOk P w K mg base CX k f fd ps q ∧ Meth K (He.ga K c) m f ∧ Binds K fd ps []
structure CalC (P : Program) (w : World) (K : PySem.W.Frag) (mg : Str → Option Value) (base : Heap) (CX : CXT) (k : Nat) (c : Str) (q : Sp) : Prop where
  ex : ∃ (f : Addr) (fd : FuncData) (ps : List Str), FnOk P w K mg base CX k f fd ps q ∧ Mk K (He.ga K c) f ∧ mg c = some (.ref (He.ga K c)) ∧ Binds K fd ps []
end
section
variable {X : Cx} {CX : CXT} {k j : Nat} {f C : Addr} {fd : FuncData} {ps : List Str} {sp : Sp} {o e : Expr} {es : List Expr} {ta : TE} {t : TA} {m n : Str} {pos apos p0 : Pos} {σ : L2.St} {s : S}
def tMethS (C : Addr) (m : Str) (sp : Sp) (E : L2.St → XK) (ta : TE) (t : TA) : TE := fun σ H Q => ta σ H fun x H1 => ∃ a dx fs, x = .ref a ∧ H1 a = some (.ins C dx fs) ∧ fs.lookup m = none ∧ t σ H1 fun vs H2 => sp (x :: vs) H2 Q (E σ)
theorem pe_methX {E : L2.St → XK} {pl : Sem Bool} (he : PE X o ta) (c : Cls X.K C) (hm : Meth X.K C m f) (F : FnOk X.prog X.w X.K X.mg X.base CX k f fd ps sp) (hr : Room k X.A) (hb : Binds X.K fd ps []) (hx : ∀ σ, PassesAt CX X σ (E σ)) (ha : PA X (e :: es) t)
    (hst : starEach (e :: es) X.env = (false, eval e X.env) :: starEach es X.env := by rfl) (hpl : (backTo pos (starEach es X.env)).any (·.1) = false := by rfl)
    (ht : eval (.Call (.Attribute o m apos) (e :: es) [] pos) X.env = (do
      let ov ← eval o X.env
      standAt apos.atName
      let (f, first) ← holding [ov] (getMethod ov m pl)
      callWith pos f first (backTo pos (starEach (e :: es) X.env)) (backToKw pos (keywordEach [] X.env))) := by rfl) :
    PE X (.Call (.Attribute o m apos) (e :: es) [] pos) (tMethS C m sp E ta t) := by
  refine ⟨fun pins s σ H Q I h => ?_⟩
  refine PySem.W.methodCall_KW (pl := pl) (thn (he.run pins s σ H _ I h) fun u s1 ⟨x, H1, I1, rx, a, dx, fs, ex, ea, l, q⟩ => ?_) ht
  subst ex
  obtain rfl : u = Value.ref a := rx
  refine getmeth_ok I1 ea c hm l ?_
  refine PySem.W.callWith_K (first := [.ref a]) (h₀ := X.base) I1.ok.mod.kin hm.kp (thn (ha.run pos pins s1 σ H1 _ I1 q) fun us s2 ⟨vs, H2, I2, r, q2⟩ => ⟨I2.kIn, ?_⟩) hst hpl
  exact run_fnS (us := .ref a :: us) (vs := .ref a :: vs) F hr hb (hx σ) I2 (.cons rfl r) q2
theorem pe_methX0 {E : L2.St → XK} {pl : Sem Bool} (he : PE X o ta) (c : Cls X.K C) (hm : Meth X.K C m f) (F : FnOk X.prog X.w X.K X.mg X.base CX k f fd ps sp) (hr : Room k X.A) (hb : Binds X.K fd ps []) (hx : ∀ σ, PassesAt CX X σ (E σ))
    (ht : eval (.Call (.Attribute o m apos) [] [] pos) X.env = (do
      let ov ← eval o X.env
      standAt apos.atName
      let (f, first) ← holding [ov] (getMethod ov m pl)
      callWith pos f first (backTo pos (starEach [] X.env)) (backToKw pos (keywordEach [] X.env))) := by rfl) :
    PE X (.Call (.Attribute o m apos) [] [] pos) (tMethS C m sp E ta tNil) := by
  refine ⟨fun pins s σ H Q I h => ?_⟩
  refine PySem.W.methodCall_KW (pl := pl) (thn (he.run pins s σ H _ I h) fun u s1 ⟨x, H1, I1, rx, a, dx, fs, ex, ea, l, q⟩ => ?_) ht
  subst ex
  obtain rfl : u = Value.ref a := rx
  refine getmeth_ok I1 ea c hm l ?_
  exact PySem.W.callWith_K0 (first := [.ref a]) I1.kIn hm.kp (run_fnS (us := [.ref a]) (vs := [.ref a]) F hr hb (hx σ) I1 (.cons rfl .nil) q)
theorem run_makeS {E : XK} {pins : List (Addr × Obj)} {σ : L2.St} {H : Hp} {s : Shared} {Q : VK} {us : List Value} {vs : List V} (M : Mk X.K C f) (F : FnOk X.prog X.w X.K X.mg X.base CX k f fd ps sp) (hr : Room (k + 1) X.A) (hb : Binds X.K fd ps [])
    (hx : PassesAt CX X σ E) (I : Inv X pins σ H s) (r : Vals vs us)
    (h : ∀ x dx, H x = none → H dx = none → dx ≠ x → sp (.ref x :: vs) (upd (upd H dx (.own x)) x (.ins C dx [])) (fun v H2 => v = .non ∧ Q (.ref x) H2) E) :
    wpAny (model X.prog X.w) X.A (call (.ref C) us) (EP X pins σ Q) X.xe s := by
  have hq := h (s.heap.objs.size + 1) s.heap.objs.size (I.hok.fresh (Nat.le_succ _)) (I.hok.fresh (Nat.le_refl _)) (Nat.ne_of_lt (Nat.lt_succ_self _))
  have I2 := Inv.made (C := C) I
  have r2 : Vals (V.ref (s.heap.objs.size + 1) :: vs) (Value.ref (s.heap.objs.size + 1) :: us) := .cons rfl r
  have hl : (Value.ref (s.heap.objs.size + 1) :: us).length = ps.length := by
    have e := r2.length
    rw [F.len _ _ _ _ hq] at e
    exact e.symm
  refine wpAny_call (make_map (f := f) I.kIn M.makes M.init (beq_iff_eq.mp M.fn) (codeAny_mono (F.run _ X.stack _ _ ⟨Value.ref (s.heap.objs.size + 1) :: us, []⟩ (Value.ref (s.heap.objs.size + 1) :: us) _ _ E (hr.make C us [])
    (I2.env0.make C us []) (by
      have := hb _ (Value.ref (s.heap.objs.size + 1) :: us) I2.kIn (by rw [List.append_nil]; exact hl)
      rw [List.append_nil] at this
      exact this) r2 hq) fun r s' hq' => ?_))
  cases r with
  | error e => exact hx pins _ _ e s' I2 hq'
  | ok fl =>
    cases fl with
    | ret u =>
      obtain ⟨v, H', I3, rv, ev, q3⟩ := I2.after hq'
      subst ev
      exact ⟨rv, ⟨V.ref (s.heap.objs.size + 1), H', I3, rfl, q3⟩⟩
    | next => exact False.elim hq'
    | brk => exact False.elim hq'
    | cont => exact False.elim hq'
def tMakeS (C : Addr) (sp : Sp) (E : L2.St → XK) (t : TA) : TE := fun σ H Q => t σ H fun vs H1 => ∀ x dx, H1 x = none → H1 dx = none → dx ≠ x → sp (.ref x :: vs) (upd (upd H1 dx (.own x)) x (.ins C dx [])) (fun v H2 => v = .non ∧ Q (.ref x) H2) (E σ)
theorem pe_makeX {E : L2.St → XK} (M : Mk X.K C f) (F : FnOk X.prog X.w X.K X.mg X.base CX k f fd ps sp) (hr : Room (k + 1) X.A) (hg : Gl X n) (hm : X.mg n = some (.ref C)) (hb : Binds X.K fd ps []) (hx : ∀ σ, PassesAt CX X σ (E σ))
    (ha : PA X (e :: es) t) (hdb : (n == ("__debug__" : Str)) = false := by decide) (he : starEach (e :: es) X.env = (false, eval e X.env) :: starEach es X.env := by rfl) (hpl : (backTo pos (starEach es X.env)).any (·.1) = false := by rfl) :
    PE X (.Call (.Name n p0) (e :: es) [] pos) (tMakeS C sp E t) := by
  refine ⟨fun pins s σ H Q I h => ?_⟩
  refine wpAny_Call_Name_kw (ld_glob I hg hm ?_ hdb)
  refine PySem.W.callWith_K (h₀ := X.base) I.ok.mod.kin M.kp (thn (ha.run pos pins s σ H _ I h) fun us s1 ⟨vs, H1, I1, r, q⟩ => ⟨I1.kIn, ?_⟩) he hpl
  exact run_makeS M F hr hb (hx σ) I1 r q
def Calls (X : Cx) (e : Expr) (σ : L2.St) (s : S) (sp : Sp) (E : XK) (Φ : List V → S → Prop) : Prop := ∀ s1, Ex s s1 → ∀ Q : VK, (∀ vs s2, Ex s1 s2 → Φ vs s2 → sp vs s2.H Q E) → WE X e σ s1.H Q
theorem ca_fn {A : Type} [EncA A] {a : A} {E : L2.St → XK} (C : Cal X.prog X.w X.K X.mg X.base CX k n sp) (hx : ∀ σ, PassesAt CX X σ (E σ)) (hr : Room j X.A) (hk : k ≤ j) (ha : EvA X (e :: es) σ s a) (hg : Gl X n := by rfl)
    (hdb : (n == ("__debug__" : Str)) = false := by decide) (he : starEach (e :: es) X.env = (false, eval e X.env) :: starEach es X.env := by rfl) (hpl : (backTo pos (starEach es X.env)).any (·.1) = false := by rfl) : Calls X (.Call (.Name n p0) (e :: es) [] pos) σ s sp (E σ) (fun vs s2 => repA X.K s2.F vs a) := fun s1 k1 Q q => by
  obtain ⟨f, fd, ps, F, hm, kp, b⟩ := C.ex
  exact we_of (pe_callS (E := E) F (hr.mono hk) hg hm kp b hx pa_wa hdb he hpl) (ha s1 k1 _ fun vs s2 k2 r2 => q vs s2 k2 r2)
theorem ca_meth {A : Type} [EncA A] {a : A} {E : L2.St → XK} {c : Str} {p : Addr} {fs : List (Str × V)} (C : CalM X.prog X.w X.K X.mg X.base CX k c m sp) (hc : Cls X.K (He.ga X.K c)) (hx : ∀ σ, PassesAt CX X σ (E σ)) (hr : Room j X.A) (hk : k ≤ j) (ho : Ev X o σ s (Rw.mk (.ref p))) (r : CellAt s X.K p c fs) (hl : fs.lookup m = none) (ha : EvA X (e :: es) σ s a)
    {pl : Sem Bool} (hst : starEach (e :: es) X.env = (false, eval e X.env) :: starEach es X.env := by rfl) (hpl : (backTo pos (starEach es X.env)).any (·.1) = false := by rfl)
    (ht : eval (.Call (.Attribute o m apos) (e :: es) [] pos) X.env = (do
      let ov ← eval o X.env
      standAt apos.atName
      let (f, first) ← holding [ov] (getMethod ov m pl)
      callWith pos f first (backTo pos (starEach (e :: es) X.env)) (backToKw pos (keywordEach [] X.env))) := by rfl) : Calls X (.Call (.Attribute o m apos) (e :: es) [] pos) σ s sp (E σ) (fun vs s2 => ∃ ws, vs = .ref p :: ws ∧ repA X.K s2.F ws a) := fun s1 k1 Q q => by
  obtain ⟨f, fd, ps, F, hm, b⟩ := C.ex
  refine we_of (pe_methX (E := E) (pl := pl) pe_we hc hm F (hr.mono hk) b hx pa_wa hst hpl ht) (ho s1 k1 _ fun v s2 k2 e2 => ?_)
  cases (show v = V.ref p from e2)
  obtain ⟨dx, h1⟩ := r.ex (k1.trans k2)
  exact ⟨p, dx, fs, rfl, h1, hl, ha s2 (k1.trans k2) _ fun ws s3 k3 r3 => q _ s3 (k2.trans k3) ⟨ws, rfl, r3⟩⟩
theorem ca_meth0 {E : L2.St → XK} {c : Str} {p : Addr} {fs : List (Str × V)} (C : CalM X.prog X.w X.K X.mg X.base CX k c m sp) (hc : Cls X.K (He.ga X.K c)) (hx : ∀ σ, PassesAt CX X σ (E σ)) (hr : Room j X.A) (hk : k ≤ j) (ho : Ev X o σ s (Rw.mk (.ref p))) (r : CellAt s X.K p c fs) (hl : fs.lookup m = none)
    {pl : Sem Bool} (ht : eval (.Call (.Attribute o m apos) [] [] pos) X.env = (do
      let ov ← eval o X.env
      standAt apos.atName
      let (f, first) ← holding [ov] (getMethod ov m pl)
      callWith pos f first (backTo pos (starEach [] X.env)) (backToKw pos (keywordEach [] X.env))) := by rfl) : Calls X (.Call (.Attribute o m apos) [] [] pos) σ s sp (E σ) (fun vs s2 => ∃ ws, vs = .ref p :: ws ∧ repA X.K s2.F ws ()) := fun s1 k1 Q q => by
  obtain ⟨f, fd, ps, F, hm, b⟩ := C.ex
  refine we_of (pe_methX0 (E := E) (pl := pl) pe_we hc hm F (hr.mono hk) b hx ht) (ho s1 k1 _ fun v s2 k2 e2 => ?_)
  cases (show v = V.ref p from e2)
  obtain ⟨dx, h1⟩ := r.ex (k1.trans k2)
  exact ⟨p, dx, fs, rfl, h1, hl, q _ s2 k2 ⟨[], rfl, rfl⟩⟩
def CallsN (X : Cx) (e : Expr) (σ : L2.St) (s : S) (c : Str) (sp : Sp) (E : XK) (Φ : List V → S → Prop) : Prop := ∀ s1, Ex s s1 → ∀ Q : VK, (∀ vs s2, Ex s1 s2 → Φ vs s2 → ∀ x dx, s2.H x = none → s2.H dx = none → dx ≠ x → sp (.ref x :: vs) (upd (upd s2.H dx (.own x)) x (.ins (He.ga X.K c) dx [])) (fun v H2 => v = .non ∧ Q (.ref x) H2) E) → WE X e σ s1.H Q
theorem ca_make {A : Type} [EncA A] {a : A} {E : L2.St → XK} (C : CalC X.prog X.w X.K X.mg X.base CX k n sp) (hx : ∀ σ, PassesAt CX X σ (E σ)) (hr : Room j X.A) (hk : k + 1 ≤ j) (ha : EvA X (e :: es) σ s a) (hg : Gl X n := by rfl)
    (hdb : (n == ("__debug__" : Str)) = false := by decide) (he : starEach (e :: es) X.env = (false, eval e X.env) :: starEach es X.env := by rfl) (hpl : (backTo pos (starEach es X.env)).any (·.1) = false := by rfl) : CallsN X (.Call (.Name n p0) (e :: es) [] pos) σ s n sp (E σ) (fun vs s2 => repA X.K s2.F vs a) := fun s1 k1 Q q => by
  obtain ⟨f, fd, ps, F, M, hm, b⟩ := C.ex
  exact we_of (pe_makeX (E := E) M F (hr.mono hk) hg hm b hx pa_wa hdb he hpl) (ha s1 k1 _ fun vs s2 k2 r2 => fun x dx h1 h2 h3 => q vs s2 k2 r2 x dx h1 h2 h3)
theorem pass00 {E : L2.St → XK} : ∀ σ, PassesAt CX0 X σ (E σ) := fun σ pins H s e s' I c => c.elim
theorem passF : ∀ σ, PassesAt (L2.CX X.prog X.w) X σ ((fun _ _ _ _ => False : L2.St → XK) σ) := fun σ pins H s e s' I c => by
  obtain ⟨_, _, _, _, _, _, _, _, _, _, _, _, hf⟩ := c
  exact hf.elim
def EvK (X : Cx) (e : Expr) (σ : L2.St) (s : S) (Φ : V → S → Prop) : Prop := ∀ Q : VK, (∀ v s2, Φ v s2 → Q v s2.H) → WE X e σ s.H Q
def EvG (X : Cx) (e : Expr) (σ : L2.St) (s : S) (ok : V → List OA → Prop) : Prop := ∀ s1, Ex s s1 → ∀ Q : VK, (∀ v s2 L', ok v L' → Iv X.K No s1 s2 L' → Q v s2.H) → WE X e σ s1.H Q
end
section
variable {X : Cx} {P0 : Addr → Prop} {s0 s s1 t : S} {L R0 M : List OA} {K : PySem.W.Frag}
theorem Iv.add (h : Iv K P0 s0 s L) (g : Iv K No s s1 M) : Iv K P0 s0 s1 (L ++ M) := by
  obtain ⟨P1, _, _, h3, h4⟩ := call_in h (R0 := []) ⟨fun i A e => by cases e⟩ [] List.nodup_nil (fun k hk => by cases hk) [] (fun A hA => by cases hA) [] (fun i hi => by cases hi)
  have e0 : P1 = No := by
    funext a
    exact propext ⟨fun z => (h3 rfl a z).elim, fun z => z.elim⟩
  have := h4 s1 M (by rw [e0]; exact g)
  have er : rem L [] = L := by
    unfold rem
    apply List.ext_getElem?
    intro i
    rw [List.getElem?_mapIdx]
    cases L[i]? <;> simp
  rw [er] at this
  exact this
theorem Iv.noex (h : Iv K No s0 s L) : Ex s0 s := h.exx
theorem Iv.nil : Iv K P0 s s [] := Iv.tops 0 s
theorem ev_ivf {α : Type} [Enc α] {v : V} {x : α} (e : Ex s s1) (r : rep K s1.F v x) : Iv K No s s1 [Dy.fz v x] := (Iv.sf (Iv.tops (K := K) (P0 := No) 1 s) 0 e r rfl)
theorem ev_ivl {α : Type} [Enc α] {p : Addr} {x : List α} (e : Ex s s1) (n : s.H p = none) (o : Own K s1 p x) : Iv K No s s1 [Dy.ol p x] := (Iv.sl (Iv.tops (K := K) (P0 := No) 1 s) 0 e n o rfl)
theorem ev_ivd {α κ : Type} [DKey κ] [Enc α] {p : Addr} {x : List (κ × α)} (e : Ex s s1) (n : s.H p = none) (o : OwnD K s1 p x) : Iv K No s s1 [Dy.od p x] := (Iv.sd (Iv.tops (K := K) (P0 := No) 1 s) 0 e n o rfl)
end
section
variable {X : Cx} {CX : CXT} {k j : Nat} {e : Expr} {es : List Expr} {pos p0 p1 : Pos} {σ : L2.St} {P0 : Addr → Prop} {s0 s : S} {L R0 : List OA} {A O : Type} {pre : List V → A → List OA → List OA → Prop} {m : A → Option O} {ok : List V → A → O → V → List OA → Prop} {er : List V → A → O → Er → List OA → Prop} {x : A} {o : O} {E : XK} {Φ : List V → S → Prop} {ok' : V → List OA → Prop}
theorem eg_call (c : Calls X e σ s (spI X.K pre m ok er) E Φ) (iv : Iv X.K P0 s0 s L) (ro : Ro X.K P0 s0 R0) (rs : List (Nat ⊕ Nat))
    (hp : ∀ vs s2, Ex s s2 → Φ vs s2 → ∃ Lf, pre vs x Lf (rsel L R0 rs) ∧ (∀ A ∈ Lf, A.p X.K s2.F s2.H No) ∧ (∀ v L', ok vs x o v L' → ok' v L') ∧ (∀ e L', er vs x o e L' → False)) (hm : m x = some o) : EvG X e σ s ok' := fun s1 k1 Q q =>
  c s1 k1 Q fun vs s2 k2 φ => by
    obtain ⟨Lf, h1, h2, h3, h4⟩ := hp vs s2 (k1.trans k2) φ
    obtain ⟨P1, g1, g2, g3, g4⟩ := call_in (iv.ex (k1.trans k2)) ro [] List.nodup_nil (fun k hk => by cases hk) Lf h2 rs (fun i _ z => by cases z)
    have e0 : P1 = No := by
      funext a
      exact propext ⟨fun z => (g3 rfl a z).elim, fun z => z.elim⟩
    subst e0
    exact ⟨s2, No, Lf, _, x, o, rfl, h1, g1, g2, hm, fun v s' L' hok iv' => q v s' L' (h3 v L' hok) ⟨k2.z.trans iv'.m, by
      obtain ⟨φ, f1, f2, f3⟩ := iv'.o
      exact ⟨φ, f1, f2, fun i a z => ⟨(f3 i a z).1, (f3 i a z).2.1.elim (fun z => z.elim) (fun z => .inr (fr_back k2 z)), (f3 i a z).2.2⟩⟩⟩, fun e cls d s' L' z _ _ => (h4 e L' z).elim⟩
theorem mk_cell {c : Str} {p dx : Addr} (iv : Iv X.K P0 s0 s L) (hx : s.H p = none) (hd : s.H dx = none) (ne : dx ≠ p) : ∃ s1 : S, s1.H = upd (upd s.H dx (.own p)) p (.ins (He.ga X.K c) dx []) ∧ Ex s s1 ∧ Iv X.K P0 s0 s1 (L ++ [Dy.cell p c []]) ∧ Iv X.K No s s1 [Dy.cell p c []] := by
  have e1 : Ex s (s.newO dx (.own p) hd) := Ex.newO hd
  have hx1 : (s.newO dx (.own p) hd).H p = none := by show upd s.H dx _ p = none; rw [upd_ne (Ne.symm ne)]; exact hx
  have e2 := Ex.newO (o := HO.ins (He.ga X.K c) dx []) hx1
  have e3 := e1.trans e2
  have g : Iv X.K No s ((s.newO dx (.own p) hd).newO p (.ins (He.ga X.K c) dx []) hx1) [Dy.cell p c []] := by
    refine Iv.put (L := [top]) (Iv.tops (P0 := No) 1 s) 0 e3 ⟨fun a => a = p ∨ a = dx, ⟨dx, fun _ => Iff.rfl, upd_same, ?_⟩, fun a z => ?_⟩
    · show upd (upd s.H dx (.own p)) p _ dx = _
      rw [upd_ne ne, upd_same]
    · rcases z with rfl | rfl
      · exact ⟨(fF hx : s.F a = none), hx⟩
      · exact ⟨(fF hd : s.F a = none), hd⟩
  exact ⟨_, rfl, e3, iv.add g, g⟩
theorem eg_make {c : Str} (ca : CallsN X e σ s c (spI X.K pre m ok er) E Φ) (iv : Iv X.K P0 s0 s L) (ro : Ro X.K P0 s0 R0) (rs : List (Nat ⊕ Nat))
    (hp : ∀ vs s2 p, Ex s s2 → Φ vs s2 → ∃ Lf, pre (.ref p :: vs) x (Dy.cell p c [] :: Lf) (rsel L R0 rs) ∧ (∀ (A : OA) (s3 : S), Ex s2 s3 → A ∈ Lf → A.p X.K s3.F s3.H No) ∧ (∀ v L', ok (.ref p :: vs) x o v L' → v = .non ∧ ok' (.ref p) L') ∧ (∀ e L', er (.ref p :: vs) x o e L' → False)) (hm : m x = some o) : EvG X e σ s ok' := fun s1 k1 Q q =>
  ca s1 k1 Q fun vs s2 k2 φ p dx n1 n2 ne => by
    obtain ⟨Lf, h1, h2, h3, h4⟩ := hp vs s2 p (k1.trans k2) φ
    obtain ⟨s3, e3, k3, iv3, iv4⟩ := mk_cell (c := c) (iv.ex (k1.trans k2)) n1 n2 ne
    have kk := k2.trans k3
    obtain ⟨P1, g1, g2, g3, g4⟩ := call_in (R0 := rsel L R0 rs) (K := X.K) (s0 := s3) (s := s3) (P0 := fun a => a = p ∨ a = dx) (L := [Dy.cell p c []]) ⟨(Ex.refl s3).z, by
        obtain ⟨φ, f1, f2, f3⟩ := iv4.o
        refine ⟨φ, f1, f2, fun i a z => ⟨(f3 i a z).1, .inl ?_, (f3 i a z).2.2⟩⟩
        have hi : i = 0 := by have := (f3 i a z).2.2; simpa using this
        subst hi
        obtain ⟨dx', w0, w1, w2⟩ := f1 0 _ rfl
        have : dx' = dx := by
          rw [e3, upd_same] at w1
          cases w1; rfl
        subst this
        exact (w0 a).mp z⟩ ⟨fun i A hA => by
        obtain ⟨PP, w1, w2, _, _⟩ := call_in (iv.ex (k1.trans k2)) ro [] List.nodup_nil (fun k hk => by cases hk) [] (fun A hA => by cases hA) rs (fun i _ z => by cases z)
        obtain ⟨Pa, u1, u2, u3⟩ := w2.o i A hA
        refine ⟨Pa, OA.stay (P0 := No) u1 k3.z fun _ _ z => z, fun a ha z => ?_, fun a ha => ?_⟩
        · obtain ⟨o', ho'⟩ := A.dom u1 ha
          rcases z with rfl | rfl
          · rw [n1] at ho'; cases ho'
          · rw [n2] at ho'; cases ho'
        · obtain ⟨o', ho'⟩ := A.dom u1 ha
          exact k3.n a o' ho' (u3 a ha)⟩ [0] (by decide) (by simp) Lf (fun A hA => h2 A s3 k3 hA) ((List.range rs.length).map Sum.inr) (fun i z => by simp at z)
    refine ⟨s3, P1, _, _, x, o, e3, ?_, g1, g2, hm, fun v s' L' hok iv' => ?_, fun e cls d s' L' z _ _ => (h4 e L' z).elim⟩
    · have er : rsel [Dy.cell p c []] (rsel L R0 rs) ((List.range rs.length).map Sum.inr) = rsel L R0 rs := by
        apply List.ext_getElem?
        intro i
        unfold rsel
        rw [List.map_map, List.getElem?_map]
        by_cases hi : i < rs.length
        · rw [List.getElem?_range hi]
          simp only [Option.map_some, Function.comp]
          rw [List.getD_eq_getElem?_getD, List.getElem?_map, List.getElem?_eq_getElem hi]
          rfl
        · rw [List.getElem?_eq_none (by rw [List.length_range]; omega), List.getElem?_map, List.getElem?_eq_none (by omega)]; rfl
      rw [er]
      exact h1
    · obtain ⟨v0, hok'⟩ := h3 v L' hok
      have := g4 s' L' iv'
      refine ⟨v0, q _ s' L' hok' ?_⟩
      have iv5 : Iv X.K (fun a => a = p ∨ a = dx) s3 s' L' := by
        have := this.sel ((List.range L'.length).map fun i => some (i + 1)) (by
          have : (List.map (fun i => some (i + 1)) (List.range L'.length)).filterMap id = (List.range L'.length).map (· + 1) := by
            rw [List.filterMap_map]
            exact (List.filterMap_eq_map (f := fun i : Nat => i + 1)) ▸ rfl
          rw [this]
          exact List.Pairwise.map _ (fun a b h e => h (Nat.succ.inj e)) List.nodup_range) (M := L') (by
          unfold pick rem
          apply List.ext_getElem?
          intro i
          rw [List.map_map, List.getElem?_map]
          by_cases hi : i < L'.length
          · rw [List.getElem?_range hi]
            simp [List.getD_eq_getElem?_getD, List.getElem?_eq_getElem hi]
          · rw [List.getElem?_eq_none (by rw [List.length_range]; omega), List.getElem?_eq_none (by omega)]; rfl)
        exact this
      refine ⟨⟨kk.f.trans iv5.m.f, fun a o h _ => ?_, fun a o h _ n => ?_, fun a o h => ?_⟩, ?_⟩
      · have : ¬ (a = p ∨ a = dx) := fun z => by
          rcases z with rfl | rfl
          · rw [k2.h _ _ h] at n1; cases n1
          · rw [k2.h _ _ h] at n2; cases n2
        exact iv5.m.h _ _ (kk.h _ _ h) this
      · have : ¬ (a = p ∨ a = dx) := fun z => by
          rcases z with rfl | rfl
          · rw [k2.h _ _ h] at n1; cases n1
          · rw [k2.h _ _ h] at n2; cases n2
        exact iv5.m.n _ _ (kk.h _ _ h) this (kk.n _ _ h n)
      · exact iv5.m.d _ _ (kk.h _ _ h)
      · obtain ⟨φ, f1, f2, f3⟩ := iv5.o
        refine ⟨φ, f1, f2, fun i a z => ⟨(f3 i a z).1, .inr ?_, (f3 i a z).2.2⟩⟩
        rcases (f3 i a z).2.1 with (rfl | rfl) | w
        · exact fr_back k2 n1
        · exact fr_back k2 n2
        · exact fr_back kk w
theorem ex_make {c : Str} {er' : Er → Prop} {W : WX} (ca : CallsN X e σ s c (spI X.K pre m ok er) (L2.WE W σ) Φ) (iv : Iv X.K P0 s0 s L) (ro : Ro X.K P0 s0 R0) (rs : List (Nat ⊕ Nat))
    (hp : ∀ vs s2 p, Ex s s2 → Φ vs s2 → ∃ Lf, pre (.ref p :: vs) x (Dy.cell p c [] :: Lf) (rsel L R0 rs) ∧ (∀ (A : OA) (s3 : S), Ex s2 s3 → A ∈ Lf → A.p X.K s3.F s3.H No) ∧ (∀ v L', ok (.ref p :: vs) x o v L' → False) ∧ (∀ e L', er (.ref p :: vs) x o e L' → er' e)) (hm : m x = some o)
    (hw : ∀ e cls d s', er' e → Ex s s' → ExR X.K s'.F e cls d → W cls d σ s'.H) : EvX X e σ s := fun s1 k1 Q =>
  ca s1 k1 Q fun vs s2 k2 φ p dx n1 n2 ne => by
    obtain ⟨Lf, h1, h2, h3, h4⟩ := hp vs s2 p (k1.trans k2) φ
    obtain ⟨s3, e3, k3, iv3, iv4⟩ := mk_cell (c := c) (iv.ex (k1.trans k2)) n1 n2 ne
    have kk := (k1.trans k2).trans k3
    obtain ⟨P1, g1, g2, g3, g4⟩ := call_in (R0 := rsel L R0 rs) (K := X.K) (s0 := s3) (s := s3) (P0 := fun a => a = p ∨ a = dx) (L := [Dy.cell p c []]) ⟨(Ex.refl s3).z, by
        obtain ⟨φ, f1, f2, f3⟩ := iv4.o
        refine ⟨φ, f1, f2, fun i a z => ⟨(f3 i a z).1, .inl ?_, (f3 i a z).2.2⟩⟩
        have hi : i = 0 := by have := (f3 i a z).2.2; simpa using this
        subst hi
        obtain ⟨dx', w0, w1, w2⟩ := f1 0 _ rfl
        have : dx' = dx := by
          rw [e3, upd_same] at w1
          cases w1; rfl
        subst this
        exact (w0 a).mp z⟩ ⟨fun i A hA => by
        obtain ⟨PP, w1, w2, _, _⟩ := call_in (iv.ex (k1.trans k2)) ro [] List.nodup_nil (fun k hk => by cases hk) [] (fun A hA => by cases hA) rs (fun i _ z => by cases z)
        obtain ⟨Pa, u1, u2, u3⟩ := w2.o i A hA
        refine ⟨Pa, OA.stay (P0 := No) u1 k3.z fun _ _ z => z, fun a ha z => ?_, fun a ha => ?_⟩
        · obtain ⟨o', ho'⟩ := A.dom u1 ha
          rcases z with rfl | rfl
          · rw [n1] at ho'; cases ho'
          · rw [n2] at ho'; cases ho'
        · obtain ⟨o', ho'⟩ := A.dom u1 ha
          exact k3.n a o' ho' (u3 a ha)⟩ [0] (by decide) (by simp) Lf (fun A hA => h2 A s3 k3 hA) ((List.range rs.length).map Sum.inr) (fun i z => by simp at z)
    refine ⟨s3, P1, _, _, x, o, e3, ?_, g1, g2, hm, fun v s' L' hok iv' => (h3 v L' hok).elim, fun e cls d s' L' z iv' r => hw e cls d s' (h4 e L' z) ?_ r⟩
    · have er : rsel [Dy.cell p c []] (rsel L R0 rs) ((List.range rs.length).map Sum.inr) = rsel L R0 rs := by
        apply List.ext_getElem?
        intro i
        unfold rsel
        rw [List.map_map, List.getElem?_map]
        by_cases hi : i < rs.length
        · rw [List.getElem?_range hi]
          simp only [Option.map_some, Function.comp]
          rw [List.getD_eq_getElem?_getD, List.getElem?_map, List.getElem?_eq_getElem hi]
          rfl
        · rw [List.getElem?_eq_none (by rw [List.length_range]; omega), List.getElem?_map, List.getElem?_eq_none (by omega)]; rfl
      rw [er]
      exact h1
    · have iv5 := g4 s' L' iv'
      have k0 := k1.trans k2
      refine ⟨kk.f.trans iv5.m.f, fun a o h => ?_, fun a o h n => ?_⟩
      · have : ¬ (a = p ∨ a = dx) := fun z => by
          rcases z with rfl | rfl
          · rw [k0.h _ _ h] at n1; cases n1
          · rw [k0.h _ _ h] at n2; cases n2
        exact iv5.m.h _ _ (kk.h _ _ h) this
      · have : ¬ (a = p ∨ a = dx) := fun z => by
          rcases z with rfl | rfl
          · rw [k0.h _ _ h] at n1; cases n1
          · rw [k0.h _ _ h] at n2; cases n2
        exact iv5.m.n _ _ (kk.h _ _ h) this (kk.n _ _ h n)
end
end Dy

namespace Dy
open PySem PySem.Spec L2
open PyProof.Rows hiding St
open Enc (rep)
open Flat (toV)
open EncA (repA)

structure Dc (κ α : Type) where
  l : List (κ × α)
instance {κ α : Type} [DKey κ] [Enc α] : Enc (Dc κ α) := ⟨fun K F v x => ∃ p o kv, v = .ref p ∧ F p = some (.frz o (.dK kv)) ∧ KReps K F kv x.l, fun e ⟨p, o, kv, h1, h2, h3⟩ => ⟨p, o, kv, h1, e _ _ h2, h3.mono e⟩⟩
section
variable {α β γ κ τ υ ρ : Type} [Enc α] [Enc β] [Enc γ] [Enc τ] [DKey κ] [DecidableEq κ] {X : Cx} {σ : L2.St} {P0 : Addr → Prop} {s0 s s1 t : S} {L M : List OA} {e a b c o i tg iter elt : Expr} {es : List Expr} {pos p0 p1 p2 p3 : Pos} {D : Ends} {rest body : List Stmt} {n : Str} {p : Addr} {K : PySem.W.Frag}
theorem Iv.tc (h : Iv K P0 s0 s L) (i : Nat) {p : Addr} {vs : List V} (e : L[i]? = some (Dy.tc p vs) := by rfl) : s.H p = some (.tup vs) := by
  obtain ⟨P, ⟨h0, h1⟩, h3⟩ := h.at i e
  exact h1
theorem eg_ev {x : α} (h : Ev X e σ s x) : EvG X e σ s (fun v L' => L' = [fz v x]) := fun s1 k Q q => h s1 k Q fun v s2 k2 r => q v s2 _ rfl (ev_ivf k2 r)
theorem eg_new {xs : List α} (h : EvN X e σ s xs) : EvG X e σ s (fun v L' => ∃ p, v = .ref p ∧ L' = [ol p xs]) := fun s1 k Q q => h s1 k Q fun p s2 k2 n2 r => q _ s2 _ ⟨p, rfl, rfl⟩ (ev_ivl k2 n2 r)
theorem eg_newD {xs : List (κ × α)} (h : EvND X e σ s xs) : EvG X e σ s (fun v L' => ∃ p, v = .ref p ∧ L' = [od p xs]) := fun s1 k Q q => h s1 k Q fun p s2 k2 n2 r => q _ s2 _ ⟨p, rfl, rfl⟩ (ev_ivd k2 n2 r)
theorem eg_raw {v0 : V} (h : Ev X e σ s (Rw.mk v0)) : EvG X e σ s (fun v L' => v = v0 ∧ L' = []) := fun s1 k Q q => h s1 k Q fun v s2 k2 r => q v s2 [] ⟨r, rfl⟩ ((Iv.tops (P0 := No) 0 s1).ex k2)
theorem EvG.imp {ok ok' : V → List OA → Prop} (h : EvG X e σ s ok) (k : ∀ v L', ok v L' → ok' v L') : EvG X e σ s ok' := fun s1 k1 Q q => h s1 k1 Q fun v s2 L' z => q v s2 L' (k v L' z)
theorem ev_of_eg {x : α} {ok : V → List OA → Prop} (h : EvG X e σ s ok) (k : ∀ v L', ok v L' → ∃ M, L' = fz v x :: M) : Ev X e σ s x := fun s1 k1 Q q => h s1 k1 Q fun v s2 L' z iv => by
  obtain ⟨M, rfl⟩ := k v L' z
  exact q v s2 iv.exx (iv.fz 0)
theorem en_of_eg {xs : List α} {ok : V → List OA → Prop} (h : EvG X e σ s ok) (k : ∀ v L', ok v L' → ∃ p M, v = .ref p ∧ L' = ol p xs :: M) : EvN X e σ s xs := fun s1 k1 Q q => h s1 k1 Q fun v s2 L' z iv => by
  obtain ⟨p, M, rfl, rfl⟩ := k v L' z
  exact q p s2 iv.exx (iv.fresh 0) (iv.ol 0)
def EvGs (X : Cx) (es : List Expr) (σ : L2.St) (s : S) (ok : List V → List OA → Prop) : Prop := ∀ s1, Ex s s1 → ∀ Q : List V → Hp → Prop, (∀ vs s2 L', ok vs L' → Iv X.K No s1 s2 L' → Q vs s2.H) → WA X es σ s1.H Q
theorem egs_nil : EvGs X [] σ s (fun vs L' => vs = [] ∧ L' = []) := fun s1 k Q q => wa_of pa_nil (q [] s1 [] ⟨rfl, rfl⟩ (Iv.tops (P0 := No) 0 s1))
theorem egs_cons {ok : V → List OA → Prop} {ok2 : List V → List OA → Prop} (h : EvG X e σ s ok) (hr : EvGs X es σ s ok2) (hs : starEach (e :: es) X.env = (false, eval e X.env) :: starEach es X.env := by exact star_cons rfl) :
    EvGs X (e :: es) σ s (fun vs L' => ∃ v L1 ws L2, vs = v :: ws ∧ L' = L1 ++ L2 ∧ ok v L1 ∧ ok2 ws L2) := fun s1 k Q q =>
  wa_of (pa_cons pe_we pa_wa hs) (h s1 k _ fun v s2 L1 z1 iv1 => hr s2 (k.trans iv1.exx) _ fun ws s3 L2 z2 iv2 => q _ s3 _ ⟨v, L1, ws, L2, rfl, rfl, z1, z2⟩ (iv1.add iv2))
theorem eg_tup {ok : List V → List OA → Prop} {k} (h : EvGs X es σ s ok) (hz : ∀ vs L', ok vs L' → vs.length ≤ 1000) : EvG X (.Tuple es k pos) σ s (fun v L' => ∃ p vs L1, v = .ref p ∧ ok vs L1 ∧ L' = tc p vs :: L1) := fun s1 k1 Q q =>
  we_of (pe_tup pa_wa) (h s1 k1 _ fun vs s2 L1 z1 iv1 => ⟨by rw [sizeLine_eq]; have := hz vs L1 z1; omega, fun p hp => by
    have iv2 : Iv X.K No s2 (s2.newO p (.tup vs) hp) [tc p vs] := Iv.put (L := [top]) (Iv.tops (P0 := No) 1 s2) 0 (Ex.newO hp) ⟨fun a => a = p, ⟨fun _ => Iff.rfl, upd_same⟩, fun a z => by rw [z]; exact ⟨(fF hp : s2.F p = none), hp⟩⟩
    have := iv1.add iv2
    have iv3 := this.sel (M := tc p vs :: L1) (some L1.length :: (List.range L1.length).map some) (by
      have e1 : (some L1.length :: (List.range L1.length).map some).filterMap id = L1.length :: List.range L1.length := by simp
      rw [e1]
      exact List.nodup_cons.mpr ⟨by simp, List.nodup_range⟩) (by
      unfold pick
      rw [List.map_cons]
      congr 1
      · simp [List.getD_eq_getElem?_getD]
      · apply List.ext_getElem?
        intro i
        rw [List.map_map, List.getElem?_map]
        by_cases hi : i < L1.length
        · rw [List.getElem?_range hi]
          simp [List.getD_eq_getElem?_getD, List.getElem?_append_left hi, List.getElem?_eq_getElem hi]
        · rw [List.getElem?_eq_none (by rw [List.length_range]; omega), List.getElem?_eq_none (by omega)]; rfl)
    exact q _ _ _ ⟨p, vs, L1, rfl, z1, rfl⟩ iv3⟩)
theorem do_setG (i : Nat) {n : Str} {py : Pos} {ok : V → List OA → Prop} (h : EvG X e σ s ok) (k : ∀ v s1 L', ok v L' → Iv X.K No s s1 L' → WSs X rest D (σ.set i (some v)) s1.H) (hN : X.N.Nodup) (hx : Loc X.env.scope n := by first | exact Or.inl rfl | exact Or.inr rfl) (hi : X.N[i]? = some n := by rfl)
    (hs : swapsWith e (some (.Name n py)) pos.line X.env = pure false := by rfl) (hf : X.fn n = true ∨ X.env.scope.names.lookup n = some .local := by first | exact .inl rfl | exact .inr rfl) : WSs X (.Assign [.Name n py] e pos :: rest) D σ s.H :=
  do_cons (ps_set hN hi hx pe_we hs hf) (h s (Ex.refl _) _ fun v s1 L' z iv => k v s1 L' z iv)
theorem do_retK {Φ : V → S → Prop} (h : EvK X e σ s Φ) (k : ∀ v s1, Φ v s1 → D.rt v s1.H) : WSs X (.Return (some e) pos :: rest) D σ s.H :=
  do_cons (ps_ret pe_we) (h _ fun v s1 z => k v s1 z)
theorem ek_of {ok : V → List OA → Prop} (h : EvG X e σ s ok) (iv : Iv X.K P0 s0 s L) : EvK X e σ s (fun v s' => ∃ L', ok v L' ∧ Fle s.F s'.F ∧ Iv X.K P0 s0 s' (L ++ L')) := fun Q q => h s (Ex.refl _) Q fun v s1 L' z iv' => q v s1 ⟨L', z, iv'.m.f, iv.add iv'⟩
theorem do_exprG {ok : V → List OA → Prop} (h : EvG X e σ s ok) (k : ∀ v s1 L', ok v L' → Iv X.K No s s1 L' → WSs X rest D σ s1.H) (hs : swapsWith e none pos.line X.env = pure false := by rfl) : WSs X (.Expr e pos :: rest) D σ s.H :=
  do_cons (ps_expr pe_we hs) (h s (Ex.refl _) _ fun v s1 L' z iv => k v s1 L' z iv)
theorem do_fldG {f cn : Str} {fs : List (Str × V)} {ok : V → List OA → Prop} (iv : Iv X.K P0 s0 s L) (i : Nat) (hA : L[i]? = some (Dy.cell p cn fs)) (ho : Ev X o σ s (Rw.mk (.ref p))) (h : EvG X e σ s ok) (hc : Cls X.K (He.ga X.K cn)) (hn : NoAttr X.K (He.ga X.K cn) f) (hl : fs.length < 1000)
    (k : ∀ v s1 L', ok v L' → Fle s.F s1.F → Iv X.K P0 s0 s1 (L.set i (Dy.cell p cn (putF f v fs)) ++ L') → WSs X rest D σ s1.H)
    (hs : swapsWith e (some (.Attribute o f p1)) pos.line X.env = pure false := by rfl) : WSs X (.Assign [.Attribute o f p1] e pos :: rest) D σ s.H :=
  do_cons (ps_fld pe_we pe_we hs) (h s (Ex.refl _) _ fun v s1 L' z iv1 => ho s1 iv1.exx _ fun u s2 k2 e2 => by
    cases (show u = V.ref p from e2)
    have ivA := (iv.add iv1).ex k2
    have hA2 : (L ++ L')[i]? = some (Dy.cell p cn fs) := by rw [List.getElem?_append_left (List.getElem?_eq_some_iff.mp hA).1]; exact hA
    obtain ⟨P, ⟨dx, h0, h1, h2⟩, h3⟩ := ivA.at i hA2
    have ne : dx ≠ p := ne_of h2 h1 (by intro z; cases z)
    have hf : s2.F p = none := h3 p ((h0 p).mpr (.inl rfl))
    refine ⟨p, _, dx, fs, rfl, h1, hc, hn, hl, ?_⟩
    have iv3 : Iv X.K P0 s0 (s2.put p (.ins (He.ga X.K cn) dx (putF f v fs)) hf) ((L ++ L').set i (Dy.cell p cn (putF f v fs))) := by
      refine ivA.upd i hA2 fun P hP hPf => ⟨P, ?_, ?_, ?_⟩
      · obtain ⟨dx', g0, g1, g2⟩ := hP
        have : dx' = dx := by rw [h1] at g1; cases g1; rfl
        subst this
        exact ⟨dx', g0, upd_same, (upd_ne ne).trans g2⟩
      · exact fun a z => ⟨hPf a z, .inl z⟩
      · have m : Mx (· = p) s2 (s2.put p (.ins (He.ga X.K cn) dx (putF f v fs)) hf) := Mx.put hf
        obtain ⟨dx', g0, g1, g2⟩ := hP
        exact ⟨m.f, fun a o q n => m.h a o q fun z => n ((g0 a).mpr (.inl z)), fun a o q _ z => m.n a o q z, m.d⟩
    rw [List.set_append_left _ _ (List.getElem?_eq_some_iff.mp hA).1] at iv3
    exact k v (s2.put p (.ins (He.ga X.K cn) dx (putF f v fs)) hf) L' z (iv1.m.f.trans k2.f) iv3)
theorem do_setItemP {xs : List α} {x : α} {z : Int} {j : Nat} (ho : Ev X o σ s (Rw.mk (.ref p))) (r : Own X.K s p xs) (he : Ev X e σ s x) (hi : Ev X a σ s z) (hj : ixN xs.length z = some j)
    (k : ∀ s1, Mx (· = p) s s1 → Own X.K s1 p (xs.set j x) → WSs X rest D σ s1.H)
    (ha : ∀ v, assign (.Subscript o a p1) X.env v = (do
      let ov ← holding [v] (eval o X.env)
      let iv ← holding [v, ov] (eval a X.env)
      standAt p1
      holding [v, ov, iv] (setItem ov iv v)
      release [v, ov, iv] []) := by intro _; rfl)
    (hs : swapsWithSole [.Subscript o a p1] e pos.line X.env = pure false := by rfl) (hw : swappedStores [.Subscript o a p1] e X.env = pure none := by rfl)
    (h1 : (assignEach [.Subscript o a p1] X.env).map (·.2) = [assign (.Subscript o a p1) X.env] := by rfl) :
    WSs X (.Assign [.Subscript o a p1] e pos :: rest) D σ s.H :=
  do_cons (ps_asg pe_we (pg_sub pe_we pe_we set_list ha) hs hw h1) (he s (Ex.refl _) _ fun v s1 k1 r1 => ho s1 k1 _ fun w s2 k2 e2 => by
    cases (show w = V.ref p from e2)
    have k12 := k1.trans k2
    exact hi s2 k12 _ fun u s3 k3 r3 => by
      obtain ⟨f0, vs, h2, h3⟩ := r.ex (k12.trans k3)
      refine ⟨p, vs, z, j, rfl, r3, h2, by rw [h3.len]; exact hj, ?_⟩
      exact k (s3.put p (.lst (vs.set j v)) f0) ((k12.trans k3).mx.trans (Mx.put f0)) ⟨f0, _, upd_same, h3.set j (Enc.mono (k2.trans k3).f r1)⟩)
def memF {ε : Type} [DecidableEq ε] (x : ε) (xs : List ε) : Bool := decide (x ∈ xs)
def S.all (s : S) : S := ⟨s.H, s.H, fun _ _ h => h⟩
def EvV {A : Type} [EncA A] (X : Cx) (es : List Expr) (σ : L2.St) (s : S) (a : A) : Prop := ∀ s1, Ex s s1 → ∀ Q : List V → Hp → Prop, (∀ vs s2, Ex s1 s2 → repA X.K s2.H vs a → Q vs s2.H) → WA X es σ s1.H Q
def S.backH (s t : S) (h : ∀ a o, s.H a = some o → t.H a = some o) : S := ⟨s.F, t.H, fun a o q => h a o (s.sub a o q)⟩
end
section
variable {α β κ ε : Type} [Enc α] [Enc β] [DKey κ] [DecidableEq κ] {X : Cx} {σ : L2.St} {P0 : Addr → Prop} {s0 s : S} {L R : List OA} {e a b : Expr} {pos p0 p1 : Pos} {p : Addr} {K : PySem.W.Frag}
theorem Iv.gd (h : Iv K P0 s0 s L) (i : Nat) {o : Obj} {kv : List (Key × V)} {xs : List (κ × α)} (e : L[i]? = some (Dy.odl p o kv xs) := by rfl) : GD K p o kv xs s := (h.odl i e).2
theorem ro0 : Ro K P0 s [] := ⟨fun i A e => by cases e⟩
def AllF (K : PySem.W.Frag) (s : S) (L : List OA) : Prop := ∀ A ∈ L, A.p K s.F s.H No
theorem all_nil : AllF K s [] := fun A h => by cases h
theorem all_cons {v : V} {x : α} (r : rep K s.F v x) (h : AllF K s L) : AllF K s (fz v x :: L) := fun A hA => by
  rcases List.mem_cons.mp hA with rfl | hA
  · exact ⟨r, fun _ z => z⟩
  · exact h A hA
theorem AllF.ex {t : S} (h : AllF K s L) (e : Ex s t) : AllF K t L := fun A hA => OA.stay (P0 := No) (h A hA) e.z fun _ _ z => z
class EqO (ε : Type) extends Flat ε where
  sc : ∀ x y : ε, scal (toV x) (toV y) = true
  ij : ∀ x y : ε, toV x = toV y ↔ x = y
instance : EqO (Option Int) := { sc := fun x y => by cases x <;> cases y <;> rfl, ij := fun x y => by cases x <;> cases y <;> simp [Flat.toV] }
instance : EqO (Option Str) := { sc := fun x y => by cases x <;> cases y <;> rfl, ij := fun x y => by cases x <;> cases y <;> simp [Flat.toV] }
end
def clsB (K : PySem.W.Frag) (c : Str) (fs ms : List Str) : Bool := PySem.W.plainGet K (He.ga K c) Str.empty && (PySem.W.hasDictIn K (He.ga K c) && (PySem.W.plainOver K (He.ga K c) && (He.eqO (PySem.W.findIn K (.ref (He.ga K c)) "__setattr__") (some (some (.builtin "object.__setattr__"))) &&
  (PySem.W.makesIn K (He.ga K c) && (PySem.W.keepIn K (.ref (He.ga K c)) && ((fs.all fun f => He.eqO (PySem.W.findIn K (.ref (He.ga K c)) f) (some none)) && (ms.all fun m => He.eqO (PySem.W.findIn K (.ref (He.ga K c)) m) (some (some (.ref (He.fAd K (c, some m))))) && (PySem.W.isFn K (.ref (He.fAd K (c, some m))) && PySem.W.keepIn K (.ref (He.fAd K (c, some m)))))))))))
structure ClsF (K : PySem.W.Frag) (c : Str) (fs ms : List Str) : Prop where
  cl : Cls K (He.ga K c)
  ma : PySem.W.makesIn K (He.ga K c) = true
  kp : PySem.W.keepIn K (.ref (He.ga K c)) = true
  na : ∀ f ∈ fs, NoAttr K (He.ga K c) f
  me : ∀ m ∈ ms, Meth K (He.ga K c) m (He.fAd K (c, some m))
theorem clsB_ok {K : PySem.W.Frag} {c : Str} {fs ms : List Str} (h : clsB K c fs ms = true) : ClsF K c fs ms := by
  unfold clsB at h
  obtain ⟨h1, h⟩ := He.ba h
  obtain ⟨h2, h⟩ := He.ba h
  obtain ⟨h3, h⟩ := He.ba h
  obtain ⟨h4, h⟩ := He.ba h
  obtain ⟨h5, h⟩ := He.ba h
  obtain ⟨h6, h⟩ := He.ba h
  obtain ⟨h7, h8⟩ := He.ba h
  refine ⟨⟨h1, h2, h3, He.eqO_ok h4⟩, h5, h6, fun f hf => He.eqO_ok (List.all_eq_true.mp h7 f hf), fun m hm => ?_⟩
  obtain ⟨g1, g⟩ := He.ba (List.all_eq_true.mp h8 m hm)
  obtain ⟨g2, g3⟩ := He.ba g
  exact ⟨He.eqO_ok g1, g2, g3⟩
theorem ClsF.mkOf {K : PySem.W.Frag} {c : Str} {fs ms : List Str} (h : ClsF K c fs ms) (hi : ("__init__" : Str) ∈ ms) : Mk K (He.ga K c) (He.fAd K (c, some "__init__")) := ⟨h.ma, (h.me _ hi).at_, (h.me _ hi).fn, h.kp⟩
end Dy

namespace Dy
open PySem PySem.Spec L2
open PyProof.Rows hiding St
open Enc (rep)
open Flat (toV)
open EncA (repA)
section
variable {X : Cx} {α β γ δ ε κ : Type} [Enc α] [Enc β] [Enc γ] [Enc δ] [Enc ε] [DKey κ] {K : PySem.W.Frag} {σ : L2.St} {s t : S} {a b e o : Expr} {es rest : List Expr} {p : Addr} {v : V} {pos p0 p1 p2 p3 : Pos}
end
section
variable {X : Cx} {D : Ends} {α : Type} [Enc α] {σ : L2.St} {s : S} {o : Expr} {rest : List Stmt} {p : Addr} {p1 p2 p3 : Pos}
end
end Dy

set_option maxHeartbeats 1000000
namespace RT
open PySem PySem.Spec PyProof.Rows PySem.W
section
variable {prog : Program} {w : World} {A : Around} {E : Value → Shared → Prop} {s : Shared}
end
end RT
namespace L2
open PySem PySem.Spec PyProof.Rows RT
section
variable {X : Cx}
def tLstRev (K : PySem.W.Frag) (te : TE) : TE := fun σ H Q => te σ H fun v H1 => ∃ (a : Addr) (xs : List V), v = .ref a ∧ SqL K H1 a xs ∧ ∀ q, H1 q = none → Q (.ref q) (upd H1 q (.lst xs.reverse))
end
end L2
namespace Dy
open PySem PySem.Spec L2
open PyProof.Rows hiding St
section
variable {X : Cx} {α : Type} [Enc α] {σ : L2.St} {s : S} {e : Expr} {p0 p2 pos pos2 : Pos}
end
end Dy

namespace Dy
open PySem PySem.Spec L2
open PyProof.Rows hiding St
open Enc (rep)
open EncA (repA)
section
variable {X : Cx} {σ : L2.St} {s : S} {a b c : Expr} {pos : Pos} {okA okB : V → List OA → Prop} {x : Bool}
end
end Dy

set_option maxHeartbeats 1000000
namespace L2
open PySem PySem.Spec PyProof.Rows
def wAsM (K : PySem.W.Frag) (i : Nat) : List (Value × (Addr → Value → Option Addr → TS)) → WX → Ends → WX
  | [], Wout, _ => Wout
  | (c, ts) :: r, Wout, D => wAs K c i ts (wAsM K i r Wout D) D
inductive HdsAs (X : Cx) (i : Nat) (n : Str) : List ExceptHandler → List (Value × (Addr → Value → Option Addr → TS)) → Prop
  | nil : HdsAs X i n [] []
  | cons {x : Str} {c : Value} {ts : Addr → Value → Option Addr → TS} {b₀ : Stmt} {suite : List Stmt} {np pos' : Pos} {hds : List ExceptHandler} {l : List (Value × (Addr → Value → Option Addr → TS))} (hc : Names X x c)
      (hsu : ∀ (a : Addr) (oe : Obj) (cls : Value) (d : Option Addr) (pn : List (Addr × Obj)), Zc cls d oe → (∃ vs, oe.data = .fields vs) → PSs (X.suite a ((a, oe) :: pn)) (b₀ :: suite) (ts a cls d)) (r : HdsAs X i n hds l) :
      HdsAs X i n (.ExceptHandler (some (.Name x np)) (some n) (b₀ :: suite) pos' :: hds) ((c, ts) :: l)
section
variable {X : Cx} {n : Str} {i : Nat} {body : List Stmt} {h₀ : ExceptHandler} {hds : List ExceptHandler} {l : List (Value × (Addr → Value → Option Addr → TS))} {pos : Pos} {tb : WX → TS} {Wout : WX}
end
end L2
namespace Dy
open PySem PySem.Spec L2
open PyProof.Rows hiding St
section
variable {X : Cx} {σ : L2.St} {s : S} {D : Ends} {rest : List Stmt}
end
end Dy

namespace Dy
open PySem PySem.Spec L2
open PyProof.Rows hiding St
open Enc (rep)
open EncA (repA)
structure HL4 (α β γ δ : Type) where
  a : α
  b : β
  c : γ
  d : δ
deriving DecidableEq
instance {α β γ δ : Type} [Enc α] [Enc β] [Enc γ] [Enc δ] : Enc (HL4 α β γ δ) := ⟨fun K F v x => ∃ p v1 v2 v3 v4, v = .ref p ∧ SqL K F p [v1, v2, v3, v4] ∧ rep K F v1 x.a ∧ rep K F v2 x.b ∧ rep K F v3 x.c ∧ rep K F v4 x.d, fun e h => by
  obtain ⟨p, v1, v2, v3, v4, rfl, h0, h1, h2, h3, h4⟩ := h
  exact ⟨p, v1, v2, v3, v4, rfl, sql_mono e h0, Enc.mono e h1, Enc.mono e h2, Enc.mono e h3, Enc.mono e h4⟩⟩
instance {α β γ δ : Type} [EqD α] [EqD β] [EqD γ] [EqD δ] : EqD (HL4 α β γ δ) := ⟨fun x => .list [EqD.toD x.a, EqD.toD x.b, EqD.toD x.c, EqD.toD x.d], fun h f => by
  obtain ⟨p, v1, v2, v3, v4, rfl, h0, h1, h2, h3, h4⟩ := h
  exact .lst (sql_mono f h0) (.cons (EqD.dp h1 f) (.cons (EqD.dp h2 f) (.cons (EqD.dp h3 f) (.cons (EqD.dp h4 f) .nil)))), fun x y => by
    obtain ⟨x1, x2, x3, x4⟩ := x
    obtain ⟨y1, y2, y3, y4⟩ := y
    show (PyData.eqv _ _ && (PyData.eqv _ _ && (PyData.eqv _ _ && (PyData.eqv _ _ && true)))) = true ↔ _
    rw [Bool.and_eq_true, Bool.and_eq_true, Bool.and_eq_true, Bool.and_eq_true, EqD.eqv, EqD.eqv, EqD.eqv, EqD.eqv]; simp⟩
section
variable {α β γ δ : Type} [Enc α] [Enc β] [Enc γ] [Enc δ] {X : Cx} {σ : L2.St} {s : S} {es : List Expr} {pos : Pos}
end
end Dy
namespace Dy
open PySem PySem.Spec L2
open PyProof.Rows hiding St
open Enc (rep)
open EncA (repA)
section
variable {X : Cx} {σ : L2.St} {s s0 : S} {P0 : Addr → Prop} {L R0 : List OA} {e : Expr} {A O : Type} {pre : List V → A → List OA → List OA → Prop} {m : A → Option O} {ok : List V → A → O → V → List OA → Prop} {er : List V → A → O → Er → List OA → Prop} {Φ : List V → S → Prop} {x : A} {o : O}
theorem ex_callG {er' : Er → Prop} {W : WX} (c : Calls X e σ s (spI X.K pre m ok er) (L2.WE W σ) Φ) (iv : Iv X.K P0 s0 s L) (ro : Ro X.K P0 s0 R0) (rs : List (Nat ⊕ Nat))
    (hp : ∀ vs s2, Ex s s2 → Φ vs s2 → ∃ Lf, pre vs x Lf (rsel L R0 rs) ∧ (∀ A ∈ Lf, A.p X.K s2.F s2.H No) ∧ (∀ v L', ok vs x o v L' → False) ∧ (∀ e L', er vs x o e L' → er' e)) (hm : m x = some o)
    (hw : ∀ e cls d s', er' e → Ex s s' → ExR X.K s'.F e cls d → W cls d σ s'.H) : EvX X e σ s := fun s1 k1 Q =>
  c s1 k1 Q fun vs s2 k2 φ => by
    obtain ⟨Lf, h1, h2, h3, h4⟩ := hp vs s2 (k1.trans k2) φ
    obtain ⟨P1, g1, g2, g3, g4⟩ := call_in (iv.ex (k1.trans k2)) ro [] List.nodup_nil (fun k hk => by simp at hk) Lf h2 rs (fun i _ hk => by simp at hk)
    have hP : ∀ s' L', Iv X.K P1 s2 s' L' → Ex s2 s' := fun s' L' i => by
      have e1 : P1 = fun _ => False := funext fun a => propext ⟨fun z => g3 rfl a z, fun z => z.elim⟩
      subst e1
      exact i.exx
    exact ⟨s2, P1, _, _, x, o, rfl, h1, g1, g2, hm, fun v s' L' hok iv' => (h3 v L' hok).elim, fun e cls d s' L' z iv' r => hw e cls d s' (h4 e L' z) ((k1.trans k2).trans (hP s' L' iv')) r⟩
end
section
def DpRD {α : Type} [ToD α] {K : PySem.W.Frag} {F H : Hp} (f : Fle F H) : ∀ {vs : List V} {xs : List α}, Reps K F vs xs → DpAll K H vs (xs.map ToD.td)
  | [], [], _ => .nil
  | _ :: _, _ :: _, ⟨h, t⟩ => .cons (ToD.tdp h f) (DpRD f t)
  | [], _ :: _, h => h.elim
  | _ :: _, [], h => h.elim
instance {α : Type} [ToD α] : ToD (Tu α) := ⟨fun x => .tuple (x.l.map ToD.td), fun h f => by
  obtain ⟨p, vs, rfl, h1, h2⟩ := h
  exact .tup (sqt_mono f h1) (DpRD f h2)⟩
end
end Dy

namespace Dy
open PySem PySem.Spec L2
open PyProof.Rows hiding St
open Enc (rep)
open EncA (repA)
instance {α β : Type} [Enc α] [Enc β] : Enc (α ⊕ β) := ⟨fun K F v x => match x with
  | .inl y => rep K F v y
  | .inr y => rep K F v y, fun {K F F' v x} e h => by
  cases x with
  | inl y => exact Enc.mono (α := α) e h
  | inr y => exact Enc.mono (α := β) e h⟩
def sm {α β γ : Type} (x : α ⊕ β) (f : α → γ) (g : β → γ) : γ := match x with
  | .inl y => f y
  | .inr y => g y
end Dy

namespace Dy
open PySem PySem.Spec L2
open PyProof.Rows hiding St

section
variable {M : Model} {A : Around} {E : Value → Shared → Prop} {s : Shared} {env : Env}
def cEnd (M : Model) (A : Around) (E : Value → Shared → Prop) (use : Option (Value → Sem Unit)) (Q : Value → Shared → Prop) (acc : Value) (ce : Env) (r : Result) (t : Shared) : Prop := match r, use with
  | .ok _, none => ∃ m, t.heap.Ns ce.locals m ∧ ∀ g, Heap.SameBut ce.locals t.heap g → Q acc { t with heap := g }
  | .ok _, some u => wpAny M A (u acc) (fun _ t' => ∃ m, t'.heap.Ns ce.locals m ∧ ∀ g, Heap.SameBut ce.locals t'.heap g → Q .none { t' with heap := g }) E t
  | .error x, _ => ∃ m, t.heap.Ns ce.locals m ∧ ∀ g, Heap.SameBut ce.locals t.heap g → wpAny M A (passOn "comprehension.variables-let-go" x ce : Sem Value) (fun _ _ => False) E { t with heap := g }
theorem cEnd_err {use : Option (Value → Sem Unit)} {Q : Value → Shared → Prop} {acc : Value} {ce : Env} {x : Value} {t : Shared} (h : ∃ m, t.heap.Ns ce.locals m ∧ ∀ g, Heap.SameBut ce.locals t.heap g → wpAny M A (passOn "comprehension.variables-let-go" x ce : Sem Value) (fun _ _ => False) E { t with heap := g }) : cEnd M A E use Q acc ce (.error x) t := by
  cases use <;> exact h
theorem cEnd_errE {use : Option (Value → Sem Unit)} {Q : Value → Shared → Prop} {acc : Value} {ce : Env} {x : Value} {t : Shared} (h : cEnd M A E use Q acc ce (.error x) t) : ∃ m, t.heap.Ns ce.locals m ∧ ∀ g, Heap.SameBut ce.locals t.heap g → wpAny M A (passOn "comprehension.variables-let-go" x ce : Sem Value) (fun _ _ => False) E { t with heap := g } := by
  cases use <;> exact h
theorem comp_runs {e : Expr} {scope : Scope} {pos : Pos} {newAcc first : Sem Value} {c0 : Comprehension} {cs : List Comprehension} {cl : List (Str × Addr)} {use : Option (Value → Sem Unit)} {Q : Value → Shared → Prop}
    (h1 : clausesOf e = c0 :: cs) (h2 : ∀ x, foldedSetIterable c0.iter env x = pure x) (h3 : closureFor scope env = pure cl) (h4 : scope.kind = .function) (h5 : ∀ x ∈ scope.names, x.2 = .local → scope.names.lookup x.1 = some .local)
    (h : wpAny M A first (fun x t₁ => wpAny M A (pyIter x) (fun it t₂ => wpAny M A newAcc (fun acc t₃ => wpAny M A (newFunctionEnv scope env.globals cl [] env.qual none .none (some env)) (fun ce t₄ =>
      codeAny M A (.compStart e 0 it acc { ce with scope := relabel scope env }) (cEnd M A E use Q acc { ce with scope := relabel scope env }) t₄) E t₃) E t₂) E t₁) E s) :
    wpAny M A (comprehension e scope env pos newAcc false first use) Q E s := by
  unfold comprehension; rw [h3, h1]
  apply wpAny_bind
  apply wpAny_mono h _ (fun _ _ z => z)
  intro x t₁ k₁
  apply wpAny_bind; apply wpAny_standAt; apply wpAny_bind
  apply wpAny_of_eq (h2 x)
  apply wpAny_bind; apply wpAny_holding
  apply wpAny_mono k₁ _ (fun _ _ z => z)
  intro it t₂ k₂
  apply wpAny_standIf; apply wpAny_bind
  apply wpAny_mono k₂ _ (fun _ _ z => z)
  intro acc t₃ k₃
  apply wpAny_bind; apply wpAny_pure; apply wpAny_bind
  apply wpAny_mono k₃ _ (fun _ _ z => z)
  intro ce t₄ k₄
  dsimp only
  generalize hce : ({ ce with scope := relabel scope env } : Env) = ce' at k₄
  have hl : ce'.locals = ce.locals := by subst hce; rfl
  have hk : ce'.scope.kind = .function := by subst hce; exact h4
  have hv : ∀ x ∈ (scope.names.filter fun x => (x.2 == .local || x.2 == .cell) && x.1 != (".0" : Str)).reverse, x.2 = .local → Env.kindOf ce' x.1 = some .local := by
    intro x hx e
    subst hce
    exact lookup_relabel_local (h5 x (List.mem_filter.mp (List.mem_reverse.mp hx)).1 e)
  have hw : ∀ x ∈ (scope.names.filter fun x => (x.2 == .local || x.2 == .cell) && x.1 != (".0" : Str)).reverse.drop 1 ++ (scope.names.filter fun x => (x.2 == .local || x.2 == .cell) && x.1 != (".0" : Str)).reverse.take 1, x.2 = .local → Env.kindOf ce' x.1 = some .local := by
    intro x hx e
    exact (List.mem_append.mp hx).elim (fun z => hv x (List.mem_of_mem_drop z) e) fun z => hv x (List.mem_of_mem_take z) e
  apply wpAny_holding; apply wpAny_bind; apply wpAny_attempt; apply wpAny_holding
  subst hce
  refine wpAny_run (codeAny_mono k₄ ?_)
  intro r t₅ k₅
  rcases r with x | f
  · obtain ⟨m, n, k⟩ := cEnd_errE k₅
    refine wpAny_bind (wpAny_holding (wpAny_comp_letGo hk _ t₅ m hv n ?_))
    intro g m' _ sb
    exact wpAny_mono (k g sb) (fun _ _ z => z.elim) (fun _ _ z => z)
  · cases use with
    | none =>
      obtain ⟨m, n, k⟩ := k₅
      refine wpAny_bind (wpAny_holding (wpAny_comp_letGo hk _ t₅ m hv n ?_))
      intro g m' _ sb
      exact wpAny_pure (k g sb)
    | some u =>
      apply wpAny_bind; apply wpAny_rule; apply wpAny_bind; apply wpAny_holding
      refine wpAny_mono k₅ ?_ (fun _ _ z => z)
      intro _ t₆ k₆
      obtain ⟨m, n, k⟩ := k₆
      refine wpAny_bind (wpAny_comp_letGo hk _ t₆ m hw n ?_)
      intro g m' _ sb
      exact wpAny_pure (k g sb)
end
theorem note_same {x : Value} {e1 e2 : Env} (h : e1.frame = e2.frame) : noteFrame x e1 = noteFrame x e2 := by
  unfold noteFrame PySem.frameOf
  rw [h]
theorem blk_out {X : Cx} {W : WX} {s3 : Shared} {H3 : Hp} {σ : L2.St} {pins : List (Addr × Obj)} {scope : Scope} {ce : Env} {fp : List Addr} {use : Option (Value → Sem Unit)} {Qf : Value → Shared → Prop} {acc : Value} (tk : Takes X W)
    (hs : X.stack = X.env :: X.outer) (hf : X.env.frame = some X.env.locals) (I3 : Inv X pins σ H3 s3) (f3 : ∀ b ∈ fp, FpOk X pins H3 b ∧ b < s3.heap.objs.size) (cL : ce.locals = s3.heap.objs.size) (cf : ce.frame = X.env.frame) (pn : List (Addr × Obj)) (σ' : L2.St) :
    PassesAt (L2.CX X.prog X.w) ((X.blk s3 H3 scope ce fp).tr pn (notedBy (model X.prog X.w) X.A ce fun e t => cEnd (model X.prog X.w) X.A X.xe use Qf acc ce (.error e) t)) σ' (fun cls d H' => W cls d σ H') := by
  intro ps H s5 e s6 I5 c
  obtain ⟨a, B, H', cls, d, rfl, fl, hokB, ub, na, os, ag, w⟩ := c
  have hfr : X.A.frames = some (X.env :: X.outer) := I3.ok.frames.trans (by rw [hs])
  obtain ⟨m, hm, _⟩ := id I5.loc
  have hm : s5.heap.Ns s3.heap.objs.size m := by rw [← cL]; exact hm
  obtain ⟨oC, es, ep, hC, hCd, hCr⟩ := id hm
  have nC : H s3.heap.objs.size = none := by rw [← cL]; exact I5.free
  have fs : ∀ b ∈ frs X.stack, b < s3.heap.objs.size := fun b hb => by
    obtain ⟨_, o, z, _⟩ := I3.stack.mem hb
    exact Heap.lt_size z
  have nfC : s3.heap.objs.size ∉ frs X.stack := fun z => Nat.lt_irrefl _ (fs _ z)
  have BC : B.get? s3.heap.objs.size = some oC := ub.keep _ _ hC nC nfC
  have un : Un (frs X.stack) fp H3 H s3.heap s5.heap := I5.base
  show wpAny _ X.A (noteFrame (.ref a) ce) _ _ s6
  rw [note_same cf]
  have fl' : HandSPX.FlyingZ B (X.env :: X.outer) a (Zc cls d) s6.heap := by rw [← hs]; exact fl
  refine HandSPX.looks_onZ Zc.steady hfr hf fl' ?_
  intro h1 held up1
  refine cEnd_err ?_
  refine ⟨m, ?_, ?_⟩
  · rw [cL]
    exact ⟨oC, es, ep, held.1 _ _ BC, hCd, hCr⟩
  intro h2 sb
  rw [cL] at sb
  obtain ⟨k1, k2, k3, oe, vs, T, oT, ts, t1, t2, t3, t4, t5, t6, t7, t8, t9⟩ := held
  have aC : a ≠ s3.heap.objs.size := fun z => by rw [z, BC] at k2; cases k2
  have TC : T ≠ s3.heap.objs.size := fun z => by rw [z, BC] at t5; cases t5
  obtain ⟨B', b1, b2⟩ := restrict B fun b => decide (b ≠ s3.heap.objs.size)
  have b1' : ∀ b, b ≠ s3.heap.objs.size → B'.get? b = B.get? b := fun b hb => b1 b (by simpa using hb)
  have b2' : B'.get? s3.heap.objs.size = none := b2 _ (by simp)
  have low : ∀ b o, B'.get? b = some o → B.get? b = some o ∧ b ≠ s3.heap.objs.size := fun b o z => by
    by_cases q : b = s3.heap.objs.size
    · rw [q, b2'] at z; cases z
    · exact ⟨(b1' b q).symm.trans z, q⟩
  have gone : ∀ b, B.get? b = none → B'.get? b = none := fun b z => by
    cases q : B'.get? b with
    | none => rfl
    | some o => rw [(low b o q).1] at z; cases z
  have held2 : HandSPX.HeldZ B' (X.env :: X.outer) a (Zc cls d) X.env.locals h2 := by
    refine ⟨fun b o z => ?_, gone a k2, ?_, oe, vs, T, oT, ts, (sb.2 a aC).trans t1, t2, t3, t4, gone T t5, t6, (sb.2 T TC).trans t7, t8, t9⟩
    · obtain ⟨q1, q2⟩ := low b o z
      exact (sb.2 b q2).trans (k1 b o q1)
    · have all : ∀ l : List Env, (∀ b ∈ frs l, b ≠ s3.heap.objs.size) → h1.FunFrames B l → h2.FunFrames B' l := by
        intro l
        induction l with
        | nil => intro _ _; trivial
        | cons x r ih =>
          intro hne hh
          obtain ⟨f1, ⟨L, o, f2, f3, f4, f5⟩, f6⟩ := hh
          have hL : L ∈ frs (x :: r) := List.mem_filterMap.mpr ⟨x, List.mem_cons_self, f2⟩
          refine ⟨f1, ⟨L, o, f2, gone L f3, (sb.2 L (hne L hL)).trans f4, f5⟩, ih (fun b hb => hne b ?_) f6⟩
          obtain ⟨y, hy, q⟩ := List.mem_filterMap.mp hb
          exact List.mem_filterMap.mpr ⟨y, List.mem_cons_of_mem _ hy, q⟩
      exact all _ (fun b hb => Nat.ne_of_lt (fs b (by rw [hs]; exact hb))) k3
  show wpAny _ X.A (passOn "comprehension.variables-let-go" (.ref a) ce : Sem Value) _ X.xe { s6 with heap := h2 }
  unfold PySem.passOn
  refine wpAny_bind (wpAny_field ((sb.2 a aC).trans t1) t3 t4 ?_)
  have nn : (Value.ref T == Value.none) = false := by simp
  rw [nn, if_neg Bool.false_ne_true]
  refine wpAny_bind ?_
  rw [cf, hf]
  refine HandSPX.setFlight_onZ (s := { s6 with heap := h2 }) held2 ?_
  intro h3 held3 up3
  refine wpAny_throw (tk _ _ ?_)
  obtain ⟨G, g1, g2⟩ := restrict h3 fun b => (B'.get? b).isSome || decide (b ∈ frs X.stack)
  have st3 : B'.StaysIn h3 := held3.1
  have gB : ∀ b o, B'.get? b = some o → G.get? b = some o := fun b o z => (g1 b (by simp [z])).trans (st3 b o z)
  have gF : ∀ b, b ∈ frs X.stack → G.get? b = h3.get? b := fun b hb => g1 b (by simp [hb])
  have og : ∀ b o, G.get? b = some o → h3.get? b = some o ∧ ((B'.get? b).isSome = true ∨ b ∈ frs X.stack) := fun b o z => by
    cases q : ((B'.get? b).isSome || decide (b ∈ frs X.stack)) with
    | false => rw [g2 b q] at z; cases z
    | true => exact ⟨(g1 b q).symm.trans z, by simpa [Bool.or_eq_true] using q⟩
  have n3 : ∀ {b o}, s3.heap.get? b = some o → b ≠ s3.heap.objs.size := fun z => Nat.ne_of_lt (Heap.lt_size z)
  have nHC : H' s3.heap.objs.size = none := ub.free _ _ hC nC
  have slots : ∀ b ∈ frs X.stack, ∀ o, s3.heap.get? b = some o → H3 b = none → b ∉ fp → ∃ sl, G.get? b = some { o with slots := sl } := fun b hb o z hn hx => by
    obtain ⟨_, o', z', nf⟩ := I3.stack.mem hb
    rw [z] at z'; cases z'
    obtain ⟨l1, z1⟩ := un.slot b o z hn hb hx
    obtain ⟨l2, z2⟩ := ub.slot b _ z1 hb
    obtain ⟨l3, z3⟩ := up1 b _ z2 nf
    have z4 := (sb.2 b (n3 z)).trans z3
    obtain ⟨l5, z5⟩ := up3 b _ z4 nf
    exact ⟨l5, (gF b hb).trans z5⟩
  have u : Un (frs X.stack) fp H3 H' s3.heap G := by
    refine ⟨fun b o z hn hb hx => ?_, fun b o z hn hb hx => slots b hb o z hn hx, fun b o z hn hx => ?_, fun b o z hx => ?_, fun b xs z => ub.tups _ _ (un.tups _ _ z), fun b o xs z => ub.frzs _ _ _ (un.frzs _ _ _ z), fun b p z => ?_⟩
    · exact gB b o ((b1' b (n3 z)).trans (ub.keep b o (un.keep b o z hn hb hx) (un.free b o z hn hx) hb))
    · obtain ⟨o', z'⟩ := un.there b o z hx
      exact ub.free b o' z' (un.free b o z hn hx)
    · by_cases hb : b ∈ frs X.stack
      · obtain ⟨_, o', z', _⟩ := I3.stack.mem hb
        rw [z] at z'; cases z'
        obtain ⟨l, q⟩ := slots b hb o z (I3.stkFree b hb) hx
        exact ⟨_, q⟩
      · obtain ⟨o', z'⟩ := un.there b o z hx
        obtain ⟨o2, z2⟩ := ub.there b o' z' hb
        exact ⟨o2, gB b o2 ((b1' b (n3 z)).trans z2)⟩
    · obtain ⟨p1, q1⟩ := un.tbls b p z
      obtain ⟨p2, q2⟩ := ub.tbls b _ q1
      exact ⟨p1 ++ p2, by rw [q2, Array.append_assoc]⟩
  have hokG : HOk X.prog X.w H' G := fun b o q => (hokB b o q).stay (fun c v hc z => gB c v ((b1' c fun e => by
      rcases hc with r | r
      · rw [← r, e, nHC] at q; cases q
      · rw [e, nHC] at r; cases r).trans z)) (fun _ z => z) fun _ _ z => z
  have IG : Inv X pins σ H' { s6 with heap := G } := I3.call' (ch := fp) (by show s6.os = s3.os; rw [os]; exact I5.os) u hokG ag fun b hb => ⟨(f3 b hb).1.2.2.2.1, (f3 b hb).1.2.1, (f3 b hb).1.2.2.2.2.1, (f3 b hb).1.2.2.2.2.2⟩
  refine ⟨a, B', { s6 with heap := G }, pins, σ, H', cls, d, rfl, IG, fun b o z hb => ?_, Heap.UpToSlots.of_keeps fun b o z => (og b o z).1, .inr (.inr ?_), na, rfl, ag, w⟩
  · obtain ⟨z1, z2⟩ := og b o z
    rcases z2 with z2 | z2
    · obtain ⟨o', q⟩ := Option.isSome_iff_exists.mp z2
      rw [st3 b o' q] at z1; cases z1
      exact q
    · exact absurd z2 hb
  · rw [hs]; exact held3
abbrev BlkX (X : Cx) (scope : Scope) (s0 : Shared) (H0 : Hp) (C : Addr) (cl : List (Str × Addr)) (fp : List Addr) (pn : List (Addr × Obj)) (xe : Value → Shared → Prop) : Cx := (X.blk s0 H0 scope (compEnvC scope cl C X.env) fp).tr pn xe
theorem lcx_core {X : Cx} {W : WX} {pins : List (Addr × Obj)} {s : Shared} {σ : L2.St} {H : Hp} {Q : VK} {elt tg iter : Expr} {ifs : List Expr} {scope : Scope} {own : List (Str × Nat)} {pos pos' : Pos} {wi : TI} {g : TG} {tt : TT} {te : TE} {use : Option (Value → Sem Unit)} {Qf : Value → Shared → Prop}
    (hc : X.calm = true) (hN : X.N.Nodup) (tk : Takes X W) (hs0 : X.stack = X.env :: X.outer) (hf0 : X.env.frame = some X.env.locals) (I : Inv X pins σ H s) (hi : PI X tg iter wi) (ok : BlkOk X.N X.env.scope scope own)
    (hg : ∀ (s : Shared) (H : Hp) (C : Addr) (cl : List (Str × Addr)) (fp : List Addr), PG (X.blk s H scope (compEnvC scope cl C X.env) fp) tg g) (ht : ∀ (s : Shared) (H : Hp) (C : Addr) (cl : List (Str × Addr)) (fp : List Addr), PTs (X.blk s H scope (compEnvC scope cl C X.env) fp) ifs tt)
    (he : ∀ s0 H0 C cl fp pn xe, (∀ σ', PassesAt (L2.CX X.prog X.w) (BlkX X scope s0 H0 C cl fp pn xe) σ' (fun cls d H' => W cls d σ H')) → PE (BlkX X scope s0 H0 C cl fp pn xe) elt te) (hs : ∀ x, foldedSetIterable iter X.env x = pure x)
    (h : tLc wi g tt te (own.map (·.2)) σ H Q)
    (hRR : ∀ D ce s' m H', Inv X pins σ H' s' → Q (.ref D) H' → s'.heap.Ns ce.locals m → FpOk X pins H' ce.locals → cEnd (model X.prog X.w) X.A X.xe use Qf (.ref D) ce (.ok .next) s') :
    wpAny (model X.prog X.w) X.A (comprehension (.ListComp elt [⟨tg, iter, ifs, 0⟩] scope pos) scope X.env pos' (newList []) false (eval iter X.env) use) Qf X.xe s := by
  have hfree : ∀ y ∈ scope.names, y.2 = .free → ∃ c, X.env.cells.lookup y.1 = some c := by
    intro y hy e
    exact (ok.free y hy e).elim (fun k => I.ok.has _ (.inl k)) fun k => I.ok.has _ (.inr k)
  refine comp_runs (use := use) rfl hs (closure_ok hfree) ok.kind (fun y hy e => by rw [ok.uniq y hy, e]) ?_
  apply thn (hi.run pins s σ H _ I h)
  intro xv t1 hx
  apply thn hx
  rintro itv t2 ⟨it, fp, tn, J, H2, rfl, I2, T, st2, f2, q⟩
  refine wpAny_newObj_type (newEnv_comp ?_) (by show 0 ≤ sizeLine; decide)
  obtain ⟨D, hD⟩ : ∃ D, D = t2.heap.objs.size := ⟨_, rfl⟩
  rw [← hD]
  obtain ⟨W0, ⟨m0, w0⟩, turn⟩ := q D (I2.hok.fresh (Nat.le_of_eq hD.symm))
  generalize hs3 : ({ t2 with heap := t2.heap.push { cls := .type "list", data := .seq ([] : List Value).toArray } } : Shared) = s3
  have e3 : s3.heap = t2.heap.push { cls := .type "list", data := .seq ([] : List Value).toArray } := by rw [← hs3]
  have I3 : Inv X pins σ (upd H2 D (.lst [])) s3 := by
    subst hs3 hD
    exact I2.laid (t' := t2.toks) (fun b o z => Heap.get?_push_of_some _ z) (Nat.le_refl _) ⟨Nat.zero_le _, [], 0, .nil, Heap.get?_push_size _ rfl⟩
  have f3 : ∀ b ∈ fp, FpOk X pins (upd H2 D (.lst [])) b ∧ b < s3.heap.objs.size := by
    intro b hb
    obtain ⟨o, z, _⟩ := T.obj _ _ st2 b hb
    have lt := Heap.lt_size z
    refine ⟨⟨?_, (f2 b hb).2⟩, by rw [e3, Heap.size_push]; exact Nat.lt_succ_of_lt lt⟩
    rw [upd_ne (by rw [hD]; exact Nat.ne_of_lt lt)]
    exact (f2 b hb).1
  have st3 : tn 0 s3.heap := T.keep _ _ _ st2 fun b _ o z => by rw [e3]; exact Heap.get?_push_of_some _ z
  have I4 := block_start I3 ok hN f3
  show codeAny _ _ (.compStart (.ListComp elt [⟨tg, iter, ifs, 0⟩] scope pos) 0 (.ref it) (.ref D) (compEnvC scope (cellsFrom (s3.heap.objs.size + 1) scope.names (cloFrom X.env.cells scope.names [])) s3.heap.objs.size X.env)) (cEnd (model X.prog X.w) X.A X.xe use Qf (.ref D) (compEnvC scope (cellsFrom (s3.heap.objs.size + 1) scope.names (cloFrom X.env.cells scope.names [])) s3.heap.objs.size X.env)) { s3 with heap := pushCells (s3.heap.push { cls := .type "dict", data := .dict #[] }) scope.names }
  generalize cellsFrom (s3.heap.objs.size + 1) scope.names (cloFrom X.env.cells scope.names []) = cl at I4 ⊢
  have pg := hg s3 (upd H2 D (.lst [])) s3.heap.objs.size cl fp
  have pt := ht s3 (upd H2 D (.lst [])) s3.heap.objs.size cl fp
  have px := he s3 (upd H2 D (.lst [])) s3.heap.objs.size cl fp
  unfold BlkX at px
  have pas := fun pn σ' => blk_out (scope := scope) (ce := compEnvC scope cl s3.heap.objs.size X.env) (use := use) (Qf := Qf) (acc := .ref D) tk hs0 hf0 I3 f3 rfl rfl pn σ'
  have n3 : ∀ b ∈ fp, (upd H2 D (.lst [])) b = none := fun b hb => (f3 b hb).1.1
  have cL : (compEnvC scope cl s3.heap.objs.size X.env).locals = s3.heap.objs.size := rfl
  generalize hce : compEnvC scope cl s3.heap.objs.size X.env = ce at I4 pg pt px pas cL ⊢
  generalize upd H2 D (.lst []) = H3 at I3 I4 pg pt px pas w0 n3 f3
  generalize hs4 : ({ s3 with heap := pushCells (s3.heap.push { cls := .type "dict", data := .dict #[] }) scope.names } : Shared) = s4 at I4 ⊢
  have st4 : tn 0 s4.heap := T.keep _ _ _ st3 fun b _ o z => by rw [← hs4]; exact pushCells_keeps _ _ _ _ (Heap.get?_push_of_some _ z)
  have stat : ∀ {σ' : L2.St} {H' : Hp} {s' : Shared}, Inv (X.blk s3 H3 scope ce fp) [] σ' H' s' → (∀ b ∈ fp, H' b = none) → ∀ b ∈ fp, FpOk (X.blk s3 H3 scope ce fp) [] H' b := by
    intro σ' H' s' I' hn b hb
    exact ⟨hn b hb, (I'.ok.exf b hb).1, I'.ok.exfs b hb, .inl hb, fun x c z => (I'.ok.exf b hb).2 x c z, fun p hp => absurd (show p ∈ ([] : List (Addr × Obj)) ++ [] from hp) (by simp)⟩
  have loop : codeAny (model X.prog X.w) X.A (.compLoop (.ListComp elt [⟨tg, iter, ifs, 0⟩] scope pos) 0 (.ref it) (.ref D) ce) (cEnd (model X.prog X.w) X.A X.xe use Qf (.ref D) ce) s4 := by
    apply compLoop_any (fun n s' => ∃ i H', Inv (X.blk s3 H3 scope ce fp) [] (wipe σ (own.map (·.2))) H' s' ∧ tn i s'.heap ∧ (∀ b ∈ fp, H' b = none) ∧ W0 i n H') _ m0 ⟨0, H3, I4, st4, n3, w0⟩
    rintro n s5 ⟨i, H5, I5, st5, n5, w5⟩
    rcases turn i n H5 w5 with ⟨stop, qq⟩ | ⟨go, Nx, hNx, step⟩
    · apply thnF (T.done (X.blk s3 H3 scope ce fp) rfl rfl rfl hc i [] s5 _ H5 (fun _ _ => False) I5 (stat I5 n5) st5 stop)
      rintro r s6 ⟨rfl, I6⟩
      have I7 : Inv X pins σ H5 s6 := I3.call' (ch := fp) I6.os I6.base I6.hok I6.bare fun b hb => ⟨(f3 b hb).1.2.2.2.1, (f3 b hb).1.2.1, (f3 b hb).1.2.2.2.2.1, (f3 b hb).1.2.2.2.2.2⟩
      have nC : H5 ce.locals = none := I6.free
      obtain ⟨m, hn, _⟩ := I6.loc
      exact hRR D ce s6 m H5 I7 qq hn (I3.fpOk (by rw [cL]; exact Nat.le_refl _) nC)
    · apply thnF (T.item (X.blk s3 H3 scope ce fp) rfl rfl rfl hc i [] s5 _ H5 (fun _ _ => False) I5 (stat I5 n5) st5 go)
      rintro r s6 ⟨u, rfl, h6⟩
      apply thnF h6
      rintro _ s7 ⟨x, H7, I7, r7, y7, st7, n7⟩
      apply thnF (pg.run _ s7 _ H7 x u _ (I7.pinned (stat I7 n7) (T.obj _ _ st7)) r7 (step x H7 y7))
      rintro _ s8 ⟨σ8, H8, I8, hw8, q8⟩
      apply thnF (pt.run _ s8 σ8 H8 _ I8 q8)
      rintro b s9 ⟨H9, I9, q9⟩
      have fin : ∀ {s' : Shared} {H' : Hp}, Inv (X.blk s3 H3 scope ce fp) ([] ++ pinsAt fp s7.heap) σ8 H' s' → Nx H' → ∃ m, m < n ∧ ∃ i H', Inv (X.blk s3 H3 scope ce fp) [] (wipe σ (own.map (·.2))) H' s' ∧ tn i s'.heap ∧ (∀ b ∈ fp, H' b = none) ∧ W0 i m H' := by
        intro s' H' I' nx
        obtain ⟨m', hm, w'⟩ := hNx H' nx
        have pin' : ∀ b ∈ fp, ∀ o, s7.heap.get? b = some o → s'.heap.get? b = some o ∧ H' b = none := by
          intro b hb o z
          obtain ⟨z1, z2, _⟩ := I'.pin (b, o) (List.mem_append_right _ (List.mem_append_right _ (mem_pinsAt hb z)))
          exact ⟨z1, z2⟩
        refine ⟨m', hm, i + 1, H', (I'.unpinned (pins := [])).weak (by rw [← hw8, wipe_length]) ?_, T.keep _ _ _ st7 fun b hb o z => (pin' b hb o z).1, ?_, w'⟩
        · intro j v z
          rw [← hw8] at z
          exact (wipe_some z).1
        · intro b hb
          obtain ⟨o, z, _⟩ := T.obj _ _ st7 b hb
          exact (pin' b hb o z).2
      cases b with
      | false =>
        rw [if_neg Bool.false_ne_true] at q9 ⊢
        exact fin I9 q9
      | true =>
        rw [if_pos rfl] at q9 ⊢
        have pe := px _ _ (pas ((X.blk s3 H3 scope ce fp).pn ++ ([] ++ pinsAt fp s7.heap)))
        refine wpAny_mono (pe.run [] s9 σ8 H9 _ (I9.toTry _) q9) ?_ (fun _ _ z => z)
        rintro z s10 ⟨yv, H10, I10, r10, acc, hD10, hz10, nx⟩
        exact app_ok (X := X.blk s3 H3 scope ce fp) (I10.ofTry I9.ok) hD10 hz10 r10 fun s11 I11 => fin I11 nx
  exact codeAny_compStart_list loop (T.self X.A 0 _ _ _ st4 loop)
end Dy

namespace Dy
open PySem PySem.Spec L2
open PyProof.Rows hiding St
open Enc (rep)
open EncA (repA)

def mapR {α β : Type} (f : α → Option (Rz β)) : List α → Option (Rz (List β))
  | [] => some (.ok [])
  | x :: xs => match f x with
    | none => none
    | some (.er e) => some (.er e)
    | some (.ok y) => match mapR f xs with
      | none => none
      | some (.er e) => some (.er e)
      | some (.ok ys) => some (.ok (y :: ys))
def okO {β : Type} (m : Option (Rz β)) : Option β := match m with
  | some (.ok y) => some y
  | _ => none
theorem okO_some {β : Type} {m : Option (Rz β)} {y : β} (h : okO m = some y) : m = some (.ok y) := by
  match m with
  | none => cases h
  | some (.er e) => cases h
  | some (.ok z) => cases h; rfl
theorem mapR_ok {α β : Type} {f : α → Option (Rz β)} : ∀ {xs : List α} {ys : List β}, mapR f xs = some (.ok ys) → mapO (fun x => okO (f x)) xs = some ys
  | [], ys, h => by cases h; rfl
  | x :: xs, ys, h => by
    unfold mapR at h
    cases hx : f x with
    | none => rw [hx] at h; cases h
    | some r => cases r with
      | er e => rw [hx] at h; cases h
      | ok y =>
        rw [hx] at h
        dsimp only at h
        cases hr : mapR f xs with
        | none => rw [hr] at h; cases h
        | some q => cases q with
          | er e => rw [hr] at h; cases h
          | ok zs =>
            rw [hr] at h
            cases h
            have := mapR_ok hr
            unfold mapO at this ⊢
            unfold compO
            rw [Option.bind_some, if_pos rfl, hx]
            show Option.bind (some y) _ = _
            rw [Option.bind_some, this]
            rfl
def ErX (K : PySem.W.Frag) (s : S) (er : Er) : XK := fun cls d H' => ∃ s2 : S, s2.H = H' ∧ Ex s s2 ∧ ExR K s2.F er cls d
section
variable {X : Cx} {σ : L2.St} {s : S} {e : Expr} {es : List Expr} {p0 pos : Pos}
theorem evX_callP {A : Type} [EncA A] {ρ : Type} [Enc ρ] {m : A → Option (Rz ρ)} {n : Str} {k j : Nat} {x : A} {er : Er} {s0 : S} (C : Cal X.prog X.w X.K X.mg X.base (L2.CX X.prog X.w) k n (spR X.K m)) (px : ∀ σ', PassesAt (L2.CX X.prog X.w) X σ' (ErX X.K s0 er)) (k0 : Ex s0 s) (hr : Room j X.A) (hk : k ≤ j)
    (ha : EvA X (e :: es) σ s x) (h : m x = some (.er er)) (hg : Gl X n := by rfl)
    (hdb : (n == ("__debug__" : Str)) = false := by decide) (he : starEach (e :: es) X.env = (false, eval e X.env) :: starEach es X.env := by rfl) (hpl : (backTo pos (starEach es X.env)).any (·.1) = false := by rfl) : EvX X (.Call (.Name n p0) (e :: es) [] pos) σ s := fun s1 k1 Q => by
  obtain ⟨f, fd, ps, F, hm, kp, b⟩ := C.ex
  exact we_of (pe_callS (E := fun _ => ErX X.K s0 er) F (hr.mono hk) hg hm kp b px pa_wa hdb he hpl) (ha s1 k1 _ fun vs s2 k2 r2 => ⟨s2, x, .er er, rfl, r2, h, fun cls d s3 k3 r3 => ⟨s3, rfl, k0.trans ((k1.trans k2).trans k3), r3⟩⟩)
end
section
variable {α β : Type} [Enc α] [Enc β] {X : Cx} {σ : L2.St} {s : S} {elt tg iter c : Expr} {scope : Scope} {own : List (Str × Nat)} {pos : Pos} {W : WX}
abbrev teX (X : Cx) (scope : Scope) (elt : Expr) (s : S) (er : Er) : TE := fun σ H Q => ∀ s0 H0 C cl fp pn xe, (∀ σ', PassesAt (L2.CX X.prog X.w) (BlkX X scope s0 H0 C cl fp pn xe) σ' (ErX X.K s er)) → WE (BlkX X scope s0 H0 C cl fp pn xe) elt σ H Q
theorem comp_readX {xs : List α} {f : α → Option (Rz β)} {er : Er} {g : TG} {B : Hp → α → L2.St → L2.St → Prop} (hi : EvI X tg iter σ s xs) (T : Tgt (α := α) X.K g B) (hf : mapR f xs = some (.er er)) (hz : xs.length ≤ sizeLine)
    (hw : ∀ (F : Hp) (x : α) σ2, B F x (wipe σ (own.map (·.2))) σ2 → wipe σ2 (own.map (·.2)) = wipe σ (own.map (·.2)))
    (he : ∀ (x : α) (y : β) (s1 : S) (σ2 : L2.St), x ∈ xs → Ex s s1 → B s1.F x (wipe σ (own.map (·.2))) σ2 → f x = some (.ok y) → ∀ s0 H0 C cl fp pn xe, Ev (BlkX X scope s0 H0 C cl fp pn xe) elt σ2 s1 y)
    (hx : ∀ (x : α) (s1 : S) (σ2 : L2.St), x ∈ xs → Ex s s1 → B s1.F x (wipe σ (own.map (·.2))) σ2 → f x = some (.er er) → ∀ s0 H0 C cl fp pn xe, (∀ σ', PassesAt (L2.CX X.prog X.w) (BlkX X scope s0 H0 C cl fp pn xe) σ' (ErX X.K s er)) → EvX (BlkX X scope s0 H0 C cl fp pn xe) elt σ2 s1)
    (s1 : S) (k : Ex s s1) (Q : VK) : tLc (WI X tg iter) g tYes (teX X scope elt s er) (own.map (·.2)) σ s1.H Q := by
  refine hi s1 k _ fun J s2 k2 W => ?_
  intro D hD
  refine ⟨fun i m H => ∃ (u : S) (pre : List β) (vs : List V), u.H = H ∧ m = xs.length - i ∧ Ex s2 u ∧ u.F D = none ∧ u.H D = some (.lst vs) ∧ Reps X.K u.F vs pre ∧ vs.length = i ∧ mapR f (xs.drop i) = some (.er er), ⟨xs.length, s2.newO D (.lst []) hD, [], [], rfl, rfl, Ex.newO hD, (fF hD : s2.F D = none), upd_same, trivial, rfl, hf⟩, ?_⟩
  rintro i m H ⟨u, pre, vs, rfl, rfl, ku, n1, n2, n3, n4, h1⟩
  by_cases hi' : i < xs.length
  · right
    have hx' : xs[i]? = some xs[i] := List.getElem?_eq_getElem hi'
    obtain ⟨g1, g2⟩ := W.go i u xs[i] ku.f hx'
    refine ⟨g1, fun H' => ∃ m', m' < xs.length - i ∧ ∃ (u : S) (pre : List β) (vs : List V), u.H = H' ∧ m' = xs.length - (i + 1) ∧ Ex s2 u ∧ u.F D = none ∧ u.H D = some (.lst vs) ∧ Reps X.K u.F vs pre ∧ vs.length = i + 1 ∧ mapR f (xs.drop (i + 1)) = some (.er er), fun H' z => z, fun v H' hy => ?_⟩
    obtain ⟨u', rfl, ku', rv⟩ := g2 v H' hy
    refine T.run u' v xs[i] _ _ rv fun σ2 hB => ⟨hw _ _ _ hB, ?_⟩
    have mem : xs[i] ∈ xs := List.getElem_mem hi'
    have base : Ex s u' := (k.trans k2).trans (ku.trans ku')
    unfold tYes
    dsimp only
    rw [if_pos rfl]
    rw [List.drop_eq_getElem_cons hi'] at h1
    unfold mapR at h1
    intro s0 H0 C cl fp pn xe hp
    cases hfx : f xs[i] with
    | none => rw [hfx] at h1; cases h1
    | some r => cases r with
      | er e2 =>
        rw [hfx] at h1
        cases h1
        exact hx xs[i] u' σ2 mem base hB hfx s0 H0 C cl fp pn xe hp u' (Ex.refl u') _
      | ok y =>
        rw [hfx] at h1
        dsimp only at h1
        have h2 : mapR f (xs.drop (i + 1)) = some (.er er) := by
          cases hr : mapR f (xs.drop (i + 1)) with
          | none => rw [hr] at h1; cases h1
          | some q => cases q with
            | er e2 => rw [hr] at h1; cases h1; rfl
            | ok ys => rw [hr] at h1; cases h1
        refine he xs[i] y u' σ2 mem base hB hfx s0 H0 C cl fp pn xe u' (Ex.refl _) _ fun w u4 k4 r4 => ?_
        have k5 : Ex u u4 := ku'.trans k4
        have hD4 : u4.H D = some (.lst vs) := k5.h _ _ n2
        have hF4 : u4.F D = none := k5.n _ _ n2 n1
        exact ⟨vs, hD4, by omega, _, by omega, u4.put D (.lst (vs ++ [w])) hF4, pre ++ [y], vs ++ [w], rfl, rfl, (ku.trans k5).mu1 (Mx.put hF4) hD, hF4, upd_same, (n3.mono k5.f).snoc r4, by rw [List.length_append, n4]; rfl, h2⟩
  · rw [List.drop_eq_nil_of_le (by omega)] at h1
    cases h1
structure EvLX (X : Cx) (elt tg iter : Expr) (scope : Scope) (σ : L2.St) (s : S) : Prop where
  calm : X.calm = true
  nd : X.N.Nodup
  fs : ∀ x, foldedSetIterable iter X.env x = pure x
  st : X.stack = X.env :: X.outer
  fr : X.env.frame = some X.env.locals
  ex : ∃ (own : List (Str × Nat)) (g : TG) (W : WX) (er : Er), BlkOk X.N X.env.scope scope own ∧ (∀ s0 H0 C cl fp, PG (Blk X scope s0 H0 C cl fp) tg g) ∧ Takes X W ∧ (∀ s2, Ex s s2 → ∀ cls d, ExR X.K s2.F er cls d → W cls d σ s2.H) ∧
    ∀ s1, Ex s s1 → ∀ Q : VK, tLc (WI X tg iter) g tYes (teX X scope elt s er) (own.map (·.2)) σ s1.H Q
theorem EvLX.run {ps : Pos} {use : Option (Value → Sem Unit)} {Qf : Value → Shared → Prop} {pins : List (Addr × Obj)} {sh : Shared} {s1 : S} (h : EvLX X elt tg iter scope σ s) (k : Ex s s1) (I : Inv X pins σ s1.H sh) :
    wpAny (model X.prog X.w) X.A (comprehension (.ListComp elt [⟨tg, iter, [], 0⟩] scope pos) scope X.env ps (newList []) false (eval iter X.env) use) Qf X.xe sh := by
  obtain ⟨own, g, W, er, h1, h2, tk, hw, h4⟩ := h.ex
  have tk' : Takes X (fun cls d σ' H' => σ' = σ ∧ ErX X.K s er cls d H') := tk.imp fun cls d σ' H' z => by
    obtain ⟨rfl, s2, rfl, k2, r⟩ := z
    exact hw s2 k2 cls d r
  refine lcx_core (W := fun cls d σ' H' => σ' = σ ∧ ErX X.K s er cls d H') h.calm h.nd tk' h.st h.fr I pi_wi h1 h2 (fun _ _ _ _ _ => pts_nil) (te := teX X scope elt s er) (fun s0 H0 C cl fp pn xe hp => pe_im fun _ _ _ q => q s0 H0 C cl fp pn xe (fun σ' pins H s' e s'' i c => hp σ' pins H s' e s'' i ?_)) h.fs (h4 s1 k (fun _ _ => False)) (fun D ce s' m H' _ q => q.elim)
  obtain ⟨a, B, H', cls, d, c1, c2, c3, c4, c5, c6, c7, c8⟩ := c
  exact ⟨a, B, H', cls, d, c1, c2, c3, c4, c5, c6, c7, rfl, c8⟩
theorem EvLX.x (h : EvLX X elt tg iter scope σ s) : EvX X (.ListComp elt [⟨tg, iter, [], 0⟩] scope pos) σ s := fun s1 k Q => Hold.mk fun pins sh I => by
  rw [eval_ListComp]
  exact h.run k I
theorem en_compX {xs : List α} {f : α → Option (Rz β)} {er : Er} {j : Nat} {n : Str} {py : Pos} (hc : X.calm = true) (hN : X.N.Nodup) (st : X.stack = X.env :: X.outer) (fr : X.env.frame = some X.env.locals) (tk : Takes X W) (hi : EvI X (.Name n py) iter σ s xs) (ok : BlkOk X.N X.env.scope scope own) (hj : X.N[j]? = some n)
    (hjo : j ∈ own.map (·.2)) (hg : ∀ s0 H0 C cl fp, PG (Blk X scope s0 H0 C cl fp) (.Name n py) (gName j)) (hf : mapR f xs = some (.er er)) (hz : xs.length ≤ sizeLine) (hw : ∀ cls d s2, Ex s s2 → ExR X.K s2.F er cls d → W cls d σ s2.H)
    (he : ∀ (x : α) (y : β) (v : V) (s1 : S), x ∈ xs → Ex s s1 → rep X.K s1.F v x → f x = some (.ok y) → ∀ s0 H0 C cl fp pn xe, Ev (BlkX X scope s0 H0 C cl fp pn xe) elt ((wipe σ (own.map (·.2))).set j (some v)) s1 y)
    (hx : ∀ (x : α) (v : V) (s1 : S), x ∈ xs → Ex s s1 → rep X.K s1.F v x → f x = some (.er er) → ∀ s0 H0 C cl fp pn xe, (∀ σ', PassesAt (L2.CX X.prog X.w) (BlkX X scope s0 H0 C cl fp pn xe) σ' (ErX X.K s er)) → EvX (BlkX X scope s0 H0 C cl fp pn xe) elt ((wipe σ (own.map (·.2))).set j (some v)) s1)
    (hs : ∀ x, foldedSetIterable iter X.env x = pure x := by intro _; rfl) : EvLX X elt (.Name n py) iter scope σ s :=
  ⟨hc, hN, hs, st, fr, own, _, W, er, ok, hg, tk, fun s2 k cls d r => hw cls d s2 k r, fun s1 k Q => comp_readX hi tg_n hf hz (fun F x σ2 ⟨v, _, e⟩ => by rw [e, wipe_set hjo]; exact wipe_wipe fun _ z => z)
    (fun x y s1 σ2 hx' k ⟨v, r, e⟩ hfx => by subst e; exact he x y v s1 hx' k r hfx) (fun x s1 σ2 hx' k ⟨v, r, e⟩ hfx => by subst e; exact hx x v s1 hx' k r hfx) s1 k Q⟩
theorem evX_sum {p0 : Pos} (hm : X.mg "sum" = none) (ha : EvX X elt σ s) (hc : X.calm = true := by rfl) (hg : Gl X "sum" := by rfl) (he : starEach [elt] X.env = (false, eval elt X.env) :: starEach [] X.env := by rfl) (hpl : (backTo pos (starEach [] X.env)).any (·.1) = false := by rfl) : EvX X (.Call (.Name "sum" p0) [elt] [] pos) σ s := fun s1 k Q =>
  we_of (pe_callB (cr_sum hc) hg hm (by decide +kernel) (pa_cons pe_we pa_nil he) (by decide) (by decide) he hpl) (ha s1 k _)
end
section
variable {X : Cx} {σ : L2.St} {s : S} {a b : Expr} {es : List Expr} {pos : Pos}
end
end Dy

set_option maxHeartbeats 1000000
namespace L2
open PySem PySem.Spec PyProof.Rows
abbrev SuT := Addr → Value → Option Addr → TS
def wG (K : PySem.W.Frag) : List (Option Nat × Value × SuT) → WX → Ends → WX
  | [], Wout, _ => Wout
  | (some i, c, ts) :: r, Wout, D => wAs K c i ts (wG K r Wout D) D
  | (none, c, ts) :: r, Wout, D => wOnly K c ts (wG K r Wout D) D
inductive HdsG (X : Cx) : List ExceptHandler → List (Option Nat × Value × SuT) → Prop
  | nil : HdsG X [] []
  | as {x n : Str} {i : Nat} {c : Value} {ts : SuT} {b₀ : Stmt} {suite : List Stmt} {np pos' : Pos} {hds : List ExceptHandler} {l : List (Option Nat × Value × SuT)} (hi : X.N[i]? = some n) (hln : X.env.kindOf n = some .local) (hc : Names X x c)
      (hsu : ∀ (a : Addr) (oe : Obj) (cls : Value) (d : Option Addr) (pn : List (Addr × Obj)), Zc cls d oe → (∃ vs, oe.data = .fields vs) → PSs (X.suite a ((a, oe) :: pn)) (b₀ :: suite) (ts a cls d)) (r : HdsG X hds l) :
      HdsG X (.ExceptHandler (some (.Name x np)) (some n) (b₀ :: suite) pos' :: hds) ((some i, c, ts) :: l)
  | no {x : Str} {c : Value} {ts : SuT} {b₀ : Stmt} {suite : List Stmt} {np pos' : Pos} {hds : List ExceptHandler} {l : List (Option Nat × Value × SuT)} (hc : Names X x c)
      (hsu : ∀ (a : Addr) (oe : Obj) (cls : Value) (d : Option Addr) (pn : List (Addr × Obj)), Zc cls d oe → (∃ vs, oe.data = .fields vs) → PSs (X.suite a ((a, oe) :: pn)) (b₀ :: suite) (ts a cls d)) (r : HdsG X hds l) :
      HdsG X (.ExceptHandler (some (.Name x np)) none (b₀ :: suite) pos' :: hds) ((none, c, ts) :: l)
section
variable {X : Cx} {body : List Stmt} {h₀ : ExceptHandler} {hds : List ExceptHandler} {l : List (Option Nat × Value × SuT)} {pos : Pos} {tb : WX → TS} {Wout : WX}
end
end L2
namespace Dy
open PySem PySem.Spec L2
open PyProof.Rows hiding St
section
variable {X : Cx} {σ : L2.St} {s : S} {D : Ends} {rest : List Stmt} {K : PySem.W.Frag} {c cls : Value} {i : Nat} {ts : SuT} {r : List (Option Nat × Value × SuT)} {Wout : WX} {d : Option Addr} {H : Hp}
abbrev suT (X : Cx) (ss : List Stmt) : SuT := fun a cls d D σ H => ∀ (oe : Obj) (pn : List (Addr × Obj)), Zc cls d oe → (∃ vs, oe.data = .fields vs) → WSs (X.suite a ((a, oe) :: pn)) ss D σ H
end
end Dy

namespace Dy
open PySem PySem.Spec L2
open PyProof.Rows hiding St
open Enc (rep)
open Flat (toV)
open EncA (repA)

section
variable {X : Cx} {σ : L2.St} {s t : S} {e a : Expr} {p1 pos : Pos} {α β : Type} [Enc α] [Enc β] {K : PySem.W.Frag}
def unO {α : Type} : List (Option α) → Option (List α)
  | [] => some []
  | none :: _ => none
  | some x :: r => (unO r).map (x :: ·)
def isL {α β : Type} : α ⊕ β → Bool
  | .inl _ => true
  | .inr _ => false
end
instance {α β γ δ : Type} [Enc α] [Enc β] [Enc γ] [Enc δ] : Arity (T4 α β γ δ) 4 := ⟨fun h => by
  obtain ⟨p, v0, v1, v2, v3, e, h, _⟩ := h
  exact ⟨p, _, e, h, rfl⟩⟩
instance {α β γ δ ε : Type} [Enc α] [Enc β] [Enc γ] [Enc δ] [Enc ε] : Arity (T5 α β γ δ ε) 5 := ⟨fun h => by
  obtain ⟨p, v0, v1, v2, v3, v4, e, h, _⟩ := h
  exact ⟨p, _, e, h, rfl⟩⟩
section
variable {α β γ δ ε : Type} [Enc α] [Enc β] [Enc γ] [Enc δ] [Enc ε] {X : Cx} {σ : L2.St} {s : S} {e tg : Expr} {pos : Pos} {rest : List Stmt} {D : Ends}
end
end Dy

namespace Dy
open PySem PySem.Spec L2
open PyProof.Rows hiding St
open Enc (rep)
open Flat (toV)
open EncA (repA)

structure PK where
  a : Int
  b : Int
instance : Enc PK := ⟨fun K F v x => ∃ p, v = .ref p ∧ F p = some (.tup [.int x.a, .int x.b]), fun e ⟨p, h1, h2⟩ => ⟨p, h1, e _ _ h2⟩⟩
def PK.pr (x : PK) : Int × Int := (x.a, x.b)
def PK.key (x : PK) : List Key := [.inl x.a, .inl x.b]
theorem PK.kinj (x y : Int × Int) : ([.inl x.1, .inl x.2] : List Key) = [.inl y.1, .inl y.2] ↔ x = y := by
  obtain ⟨a, b⟩ := x; obtain ⟨c, d⟩ := y
  simp
def kp (x : Int × Int) : List Key := [.inl x.1, .inl x.2]
theorem kp_dec (a b : Int × Int) : decide (kp a = kp b) = decide (a = b) := decide_eq_decide.mpr (PK.kinj a b)
section
variable {α β : Type} [Enc α] [Enc β] {K : PySem.W.Frag} {F F' : Hp}
def TReps (K : PySem.W.Frag) (F : Hp) : List (List Key × V) → List ((Int × Int) × α) → Prop
  | [], [] => True
  | (k, v) :: r, (j, x) :: xs => k = kp j ∧ rep K F v x ∧ TReps K F r xs
  | _, _ => False
theorem TReps.mono (e : Fle F F') : ∀ {kv : List (List Key × V)} {xs : List ((Int × Int) × α)}, TReps K F kv xs → TReps K F' kv xs
  | [], [], _ => trivial
  | (_, _) :: _, (_, _) :: _, ⟨h1, h2, h3⟩ => ⟨h1, Enc.mono e h2, TReps.mono e h3⟩
  | [], _ :: _, h => h.elim
  | _ :: _, [], h => h.elim
theorem TReps.len : ∀ {kv : List (List Key × V)} {xs : List ((Int × Int) × α)}, TReps K F kv xs → kv.length = xs.length
  | [], [], _ => rfl
  | (_, _) :: _, (_, _) :: _, ⟨_, _, h3⟩ => by rw [List.length_cons, List.length_cons, TReps.len h3]
  | [], _ :: _, h => h.elim
  | _ :: _, [], h => h.elim
theorem TReps.val {k : Int × Int} : ∀ {kv : List (List Key × V)} {xs : List ((Int × Int) × α)}, TReps K F kv xs → (valV kv (kp k)).isSome = (dval xs k).isSome
  | [], [], _ => rfl
  | (j, v) :: r, (i, x) :: xs, ⟨e, h, t⟩ => by
    subst e
    unfold dval valV
    rw [List.find?_cons, List.find?_cons]
    dsimp only
    rw [kp_dec i k]
    cases decide (i = k) with
    | true => rfl
    | false => exact TReps.val (k := k) t
  | [], _ :: _, h => h.elim
  | _ :: _, [], h => h.elim
theorem TReps.any {k : Int × Int} : ∀ {kv : List (List Key × V)} {xs : List ((Int × Int) × α)}, TReps K F kv xs → (kv.any fun z => decide (z.1 = kp k)) = xs.any fun z => decide (z.1 = k)
  | [], [], _ => rfl
  | (j, v) :: r, (i, x) :: xs, ⟨e, h, t⟩ => by
    subst e
    rw [List.any_cons, List.any_cons, TReps.any (k := k) t, kp_dec i k]
  | [], _ :: _, h => h.elim
  | _ :: _, [], h => h.elim
theorem TReps.app : ∀ {kv kw : List (List Key × V)} {xs ys : List ((Int × Int) × α)}, TReps K F kv xs → TReps K F kw ys → TReps K F (kv ++ kw) (xs ++ ys)
  | [], _, [], _, _, h => h
  | _ :: _, _, _ :: _, _, ⟨e, h, t⟩, w => ⟨e, h, TReps.app t w⟩
  | [], _, _ :: _, _, h, _ => h.elim
  | _ :: _, _, [], _, h, _ => h.elim
theorem TReps.repl {k : Int × Int} {v : V} {y : α} (r : rep K F v y) : ∀ {kv : List (List Key × V)} {xs : List ((Int × Int) × α)}, TReps K F kv xs → TReps K F (kv.map fun z => if z.1 = kp k then (z.1, v) else z) (xs.map fun z => if z.1 = k then (z.1, y) else z)
  | [], [], _ => trivial
  | (j, u) :: kv, (i, x) :: xs, ⟨e, h, t⟩ => by
    subst e
    rw [List.map_cons, List.map_cons]
    dsimp only
    by_cases hh : i = k
    · rw [if_pos (show kp i = kp k by rw [hh]), if_pos hh]
      exact ⟨rfl, r, TReps.repl r t⟩
    · rw [if_neg (show ¬ kp i = kp k from fun z => hh ((PK.kinj i k).mp z)), if_neg hh]
      exact ⟨rfl, h, TReps.repl r t⟩
  | [], _ :: _, h => h.elim
  | _ :: _, [], h => h.elim
theorem TReps.put {k : Int × Int} {v : V} {y : α} {kv : List (List Key × V)} {xs : List ((Int × Int) × α)} (h : TReps K F kv xs) (r : rep K F v y) : TReps K F (putK kv (kp k) v) (dput xs k y) := by
  unfold putK dput
  rw [h.any (k := k)]
  split
  · exact h.repl r
  · exact h.app ⟨rfl, r, trivial⟩
end
def odT {α : Type} [Enc α] (p : Addr) (xs : List ((Int × Int) × α)) : OA := ⟨fun K F H P => (∀ a, P a ↔ a = p) ∧ ∃ kv, H p = some (.dT kv) ∧ TReps K F kv xs, fun e ⟨h0, vs, h1, h2⟩ => ⟨h0, vs, h1, h2.mono e⟩,
  fun e ⟨h0, vs, h1, h2⟩ => ⟨h0, vs, by rw [e p ((h0 p).mpr rfl)]; exact h1, h2⟩, fun ⟨h0, vs, h1, h2⟩ q => ⟨_, (congrArg _ ((h0 _).mp q)).trans h1⟩⟩
def OwnDT {α : Type} [Enc α] (K : PySem.W.Frag) (s : S) (p : Addr) (xs : List ((Int × Int) × α)) : Prop := s.F p = none ∧ ∃ kv, s.H p = some (.dT kv) ∧ TReps K s.F kv xs
section
variable {α β : Type} [Enc α] [Enc β] {K : PySem.W.Frag} {P0 : Addr → Prop} {s0 s s1 t : S} {L M R : List OA}
theorem OwnDT.ex {p : Addr} {xs : List ((Int × Int) × α)} (h : OwnDT K s p xs) (e : Ex s t) : OwnDT K t p xs := by
  obtain ⟨h0, kv, h1, h2⟩ := h
  exact ⟨e.n _ _ h1 h0, kv, e.h _ _ h1, h2.mono e.f⟩
theorem Iv.odT (h : Iv K P0 s0 s L) (i : Nat) {p : Addr} {xs : List ((Int × Int) × α)} (e : L[i]? = some (Dy.odT p xs) := by rfl) : OwnDT K s p xs := by
  obtain ⟨P, ⟨h0, kv, h1, h2⟩, h3⟩ := h.at i e
  exact ⟨h3 p ((h0 p).mpr rfl), kv, h1, h2⟩
end
section
variable {α β : Type} [Enc α] [Enc β] {X : Cx} {σ : L2.St} {P0 : Addr → Prop} {s0 s t : S} {L : List OA} {e a b c o i : Expr} {es : List Expr} {pos p0 p1 p2 p3 : Pos} {D : Ends} {rest : List Stmt} {n : Str} {p : Addr}
def EvNT (X : Cx) (e : Expr) (σ : L2.St) (s : S) (xs : List ((Int × Int) × α)) : Prop := ∀ s1, Ex s s1 → ∀ Q : VK, (∀ p s2, Ex s1 s2 → s1.H p = none → OwnDT X.K s2 p xs → Q (.ref p) s2.H) → WE X e σ s1.H Q
end
end Dy

namespace Dy
open PySem PySem.Spec L2
open PyProof.Rows hiding St
open Enc (rep)
open Flat (toV)
open EncA (repA)

section
variable {X : Cx} {α β γ δ ε : Type} [Enc α] [Enc β] [Enc γ] [Enc δ] [Enc ε] {σ : L2.St} {s : S} {a : Expr} {lo hi : Option Expr} {p2 pos : Pos}
end
section
variable {X : Cx} {α β γ : Type} [Enc α] [Enc β] [Enc γ] {P0 : Addr → Prop} {s0 s : S} {L : List OA} {σ : L2.St} {D : Ends} {rest : List Stmt}
end
end Dy

namespace Dy
open PySem PySem.Spec L2
open PyProof.Rows hiding St
open Enc (rep)
open Flat (toV)
open EncA (repA)

section
variable {X : Cx} {α : Type} [Enc α] {σ : L2.St} {s : S} {o e : Expr} {D : Ends} {rest : List Stmt} {p1 p2 p3 : Pos}
end
end Dy

namespace Dy
open PySem PySem.Spec L2
open PyProof.Rows hiding St

def cl (x : Str) : List Nat := x.cps.toList
def isFig (c : Nat) : Bool := decide (48 ≤ c ∧ c ≤ 57)
def numOf (x : Str) : Option Nat := if 1 ≤ x.length ∧ x.length ≤ 60 ∧ (cl x).all isFig = true ∧ ((cl x).head? = some 48 → x.length = 1) then some (NumText.digitsVal (cl x)) else none
end Dy

namespace Dy
open PySem PySem.Spec L2
open PyProof.Rows hiding St
open Enc (rep)
open EncA (repA)
def unR {α β : Type} : List (α ⊕ β) → Option (List β)
  | [] => some []
  | .inl _ :: _ => none
  | .inr x :: r => (unR r).map (x :: ·)
instance {α : Type} [EqD α] : EqD (Option (List α)) := ⟨fun x => match x with | none => .none | some l => EqD.toD l, fun {K F H v x} h f => by
  cases x with
  | none => rw [show v = V.non from h]; exact .non
  | some l => exact EqD.dp (α := List α) h f, fun x y => by
  cases x with
  | none => cases y with
    | none => exact ⟨fun _ => rfl, fun _ => rfl⟩
    | some m => exact ⟨fun h => (by cases (show false = true from h)), fun h => by cases h⟩
  | some l => cases y with
    | none => exact ⟨fun h => (by cases (show false = true from h)), fun h => by cases h⟩
    | some m => exact (EqD.eqv l m).trans ⟨fun h => by rw [h], fun h => Option.some.inj h⟩⟩
instance {α : Type} {n : Nat} [Shp α n] : Shp (Option (List α)) (n + 1) := ⟨fun x => by
  cases x with
  | none => exact ⟨by show PyData.canLay0 .none = true; unfold PyData.canLay0; rfl, by show PyData.depth .none ≤ n + 1; unfold PyData.depth; omega⟩
  | some l => exact Shp.ok (α := List α) l⟩
section
variable {X : Cx} {σ : L2.St} {s : S} {e : Expr} {α β : Type} [Enc α] [Enc β] {K : PySem.W.Frag}
end
end Dy

namespace Dy
open PySem PySem.Spec L2
open PyProof.Rows hiding St
open Enc (rep)
open EncA (repA)
structure LL where
  p : Addr
  q : List Addr
def Cols {α : Type} [Enc α] (K : PySem.W.Frag) (F H : Hp) (qs : List Addr) (xss : List (List α)) : Prop := qs.length = xss.length ∧ ∀ (i : Nat) (q : Addr) (xs : List α), qs[i]? = some q → xss[i]? = some xs → ∃ vs, H q = some (.lst vs) ∧ Reps K F vs xs
def oll {α : Type} [Enc α] (l : LL) (xss : List (List α)) : OA := ⟨fun K F H P => l.q.Nodup ∧ l.p ∉ l.q ∧ (∀ a, P a ↔ (a = l.p ∨ a ∈ l.q)) ∧ H l.p = some (.lst (l.q.map .ref)) ∧ Cols K F H l.q xss,
  fun e ⟨h0, h1, h2, h3, h4, h5⟩ => ⟨h0, h1, h2, h3, h4, fun i q xs a b => by
    obtain ⟨vs, g1, g2⟩ := h5 i q xs a b
    exact ⟨vs, g1, g2.mono e⟩⟩,
  fun e ⟨h0, h1, h2, h3, h4, h5⟩ => ⟨h0, h1, h2, by rw [e _ ((h2 _).mpr (.inl rfl))]; exact h3, h4, fun i q xs a b => by
    obtain ⟨vs, g1, g2⟩ := h5 i q xs a b
    exact ⟨vs, by rw [e q ((h2 q).mpr (.inr (List.mem_of_getElem? a)))]; exact g1, g2⟩⟩,
  fun ⟨h0, h1, h2, h3, h4, h5⟩ q => by
    rcases (h2 _).mp q with rfl | hq
    · exact ⟨_, h3⟩
    · obtain ⟨i, hi⟩ := List.mem_iff_getElem?.mp hq
      have hl : i < xss.length := by rw [← h4]; exact (List.getElem?_eq_some_iff.mp hi).1
      obtain ⟨vs, g1, _⟩ := h5 i _ _ hi (List.getElem?_eq_getElem hl)
      exact ⟨_, g1⟩⟩
structure OwnLL {α : Type} [Enc α] (K : PySem.W.Frag) (s : S) (l : LL) (xss : List (List α)) : Prop where
  nd : l.q.Nodup
  np : l.p ∉ l.q
  fp : s.F l.p = none
  fq : ∀ q ∈ l.q, s.F q = none
  hp : s.H l.p = some (.lst (l.q.map .ref))
  c : Cols K s.F s.H l.q xss
section
variable {α τ : Type} [Enc α] [Enc τ] {K : PySem.W.Frag} {P0 : Addr → Prop} {s0 s s1 t : S} {L : List OA} {l : LL} {xss zss : List (List α)} {xs ys : List α} {i : Nat} {q : Addr}
theorem OwnLL.len (h : OwnLL K s l xss) : l.q.length = xss.length := h.c.1
theorem OwnLL.ref (h : OwnLL K s l xss) (hi : i < xss.length) : ∃ q, l.q[i]? = some q := ⟨l.q[i]'(by rw [h.len]; exact hi), List.getElem?_eq_getElem _⟩
theorem OwnLL.row (h : OwnLL K s l xss) (hq : l.q[i]? = some q) (hx : xss[i]? = some xs) : Own K s q xs := by
  obtain ⟨vs, h1, h2⟩ := h.c.2 i q xs hq hx
  exact ⟨h.fq q (List.mem_of_getElem? hq), vs, h1, h2⟩
theorem OwnLL.ex (h : OwnLL K s l xss) (e : Ex s t) : OwnLL K t l xss := by
  refine ⟨h.nd, h.np, e.n _ _ h.hp h.fp, fun q hq => ?_, e.h _ _ h.hp, h.c.1, fun i q xs a b => ?_⟩
  · obtain ⟨i, hi⟩ := List.mem_iff_getElem?.mp hq
    have hl : i < xss.length := by rw [← h.len]; exact (List.getElem?_eq_some_iff.mp hi).1
    obtain ⟨vs, g1, _⟩ := h.c.2 i _ _ hi (List.getElem?_eq_getElem hl)
    exact e.n _ _ g1 (h.fq q hq)
  · obtain ⟨vs, g1, g2⟩ := h.c.2 i q xs a b
    exact ⟨vs, e.h _ _ g1, g2.mono e.f⟩
theorem Iv.oll (h : Iv K P0 s0 s L) (k : Nat) (e : L[k]? = some (Dy.oll l xss) := by rfl) : OwnLL K s l xss := by
  obtain ⟨P, ⟨h0, h1, h2, h3, h4⟩, h5⟩ := h.at k e
  exact ⟨h0, h1, h5 _ ((h2 _).mpr (.inl rfl)), fun q hq => h5 _ ((h2 _).mpr (.inr hq)), h3, h4⟩
@[reducible] def encIx (l : LL) : Enc Nat := ⟨fun K F v i => ∃ q, l.q[i]? = some q ∧ v = .ref q, fun e h => h⟩
end
section
variable {α τ : Type} [Enc α] [Enc τ] {X : Cx} {σ : L2.St} {P0 : Addr → Prop} {s0 s s1 t : S} {L : List OA} {l : LL} {xss yss : List (List α)} {xs : List α} {e a b c o i elt tg iter : Expr} {ifs : List Expr} {scope : Scope} {own : List (Str × Nat)} {pos p0 p1 : Pos} {D : Ends} {rest : List Stmt}
def RdLL (K : PySem.W.Frag) (s : S) (l : LL) (xss : List (List α)) : Prop := s.H l.p = some (.lst (l.q.map .ref)) ∧ Cols K s.F s.H l.q xss
theorem OwnLL.r {K : PySem.W.Frag} (h : OwnLL K s l xss) : RdLL K s l xss := ⟨h.hp, h.c⟩
theorem RdLL.ex {K : PySem.W.Frag} (h : RdLL K s l xss) (e : Ex s t) : RdLL K t l xss := ⟨e.h _ _ h.1, h.2.1, fun i q xs a b => by
  obtain ⟨vs, g1, g2⟩ := h.2.2 i q xs a b
  exact ⟨vs, e.h _ _ g1, g2.mono e.f⟩⟩
def GLL (l : LL) : S → Prop := fun t => t.H l.p = some (.lst (l.q.map .ref))
structure EvLL (X : Cx) (elt tg iter : Expr) (ifs : List Expr) (scope : Scope) (σ : St) (s : S) (yss : List (List α)) : Prop where
  calm : X.calm = true
  nd : X.N.Nodup
  fs : ∀ x, foldedSetIterable iter X.env x = pure x
  ex : ∃ (own : List (Str × Nat)) (g : TG) (tt : TT), BlkOk X.N X.env.scope scope own ∧ (∀ s0 H0 C cl fp, PG (Blk X scope s0 H0 C cl fp) tg g) ∧ (∀ s0 H0 C cl fp, PTs (Blk X scope s0 H0 C cl fp) ifs tt) ∧
    ∀ s1, Ex s s1 → ∀ Q : VK, (∀ (l : LL) s2, Ex s1 s2 → s1.H l.p = none → (∀ a ∈ l.q, s1.H a = none) → OwnLL X.K s2 l yss → Q (.ref l.p) s2.H) → tLc (WI X tg iter) g tt (fun σ H Q => ∀ s0 H0 C cl fp, WE (Blk X scope s0 H0 C cl fp) elt σ H Q) (own.map (·.2)) σ s1.H Q
end
end Dy

namespace Dy
open PySem PySem.Spec L2
open PyProof.Rows hiding St
open Enc (rep)
open EncA (repA)
instance : Flat (Option Bool) := ⟨fun x => match x with | none => .non | some i => .bl i, fun {K F v x} => by cases x <;> exact Iff.rfl, fun x => by cases x <;> rfl, fun x y => by
  cases x with
  | none => cases y with
    | none => exact ⟨fun _ => rfl, fun _ => rfl⟩
    | some b => cases b <;> exact ⟨fun h => (by cases h), fun h => (by cases h)⟩
  | some a => cases y with
    | none => cases a <;> exact ⟨fun h => (by cases h), fun h => (by cases h)⟩
    | some b => cases a <;> cases b <;> first | exact ⟨fun _ => rfl, fun _ => rfl⟩ | exact ⟨fun h => (by cases h), fun h => (by cases h)⟩⟩
section
variable {α β : Type} [Enc α] [Enc β] {X : Cx} {σ : L2.St} {s : S} {a b : Expr} {px py pt pos : Pos} {rest : List Stmt} {D : Ends}
end
end Dy

namespace Dy
open PySem PySem.Spec L2 PyProof.Rows

def ddS (xs : List Str) : List Str := xs.foldl (fun m x => if x ∈ m then m else m ++ [x]) []
theorem ddS_snoc (xs : List Str) (x : Str) : ddS (xs ++ [x]) = if x ∈ ddS xs then ddS xs else ddS xs ++ [x] := by
  unfold ddS
  rw [List.foldl_append]; rfl
theorem ddS_inv (xs : List Str) : (∀ x, x ∈ ddS xs ↔ x ∈ xs) ∧ (ddS xs).length ≤ xs.length ∧ ((ddS xs).length = xs.length ↔ xs.Nodup) := by
  obtain ⟨n, hn⟩ : ∃ n, n = xs.length := ⟨_, rfl⟩
  induction n generalizing xs with
  | zero =>
    obtain rfl := List.length_eq_zero_iff.mp hn.symm
    simp [ddS]
  | succ n ih =>
    obtain ⟨ys, y, rfl⟩ : ∃ ys y, xs = ys ++ [y] := ⟨xs.dropLast, xs.getLast (fun z => by rw [z] at hn; cases hn), (List.dropLast_concat_getLast _).symm⟩
    rw [List.length_append, List.length_singleton] at hn
    obtain ⟨h1, h2, h3⟩ := ih ys (by omega)
    rw [ddS_snoc]
    by_cases hm : y ∈ ddS ys
    · rw [if_pos hm]
      refine ⟨fun x => ?_, by rw [List.length_append]; omega, fun e => ?_, fun e => ?_⟩
      · rw [List.mem_append, List.mem_singleton, h1]
        exact ⟨.inl, fun z => z.elim id fun z => by rw [z]; exact (h1 y).mp hm⟩
      · rw [List.length_append, List.length_singleton] at e; omega
      · exact absurd rfl ((List.nodup_append.mp e).2.2 y ((h1 y).mp hm) y (List.mem_singleton.mpr rfl))
    · rw [if_neg hm]
      refine ⟨fun x => by rw [List.mem_append, List.mem_append, h1], by rw [List.length_append, List.length_append]; exact Nat.add_le_add_right h2 _, fun e => ?_, fun e => ?_⟩
      · rw [List.length_append, List.length_append] at e
        refine List.nodup_append.mpr ⟨h3.mp (Nat.add_right_cancel e), by simp, fun a ha b hb z => ?_⟩
        rw [List.mem_singleton.mp hb] at z
        exact hm ((h1 y).mpr (z ▸ ha))
      · rw [List.length_append, List.length_append, h3.mpr (List.nodup_append.mp e).1]
section
variable {prog : Program} {w : World} {A : Around} {R : Result → Shared → Prop} {it : Addr} {fp wr : List Addr} {G : Array GenState → Array GenState → Prop} {n : Nat} {P : Nat → Value → Prop} {St : Nat → Shared → Prop}
theorem loopD (W : WalksS prog w A.in1 it fp wr G n P St) (D : Addr) (hD : D ∉ fp) (xs : List Str) (hn : xs.length = n) (hb : n + 1 < scanBound) (hv : ∀ i v, P i v → ∃ t, v = .str (xs.getD i Str.empty) t) : ∀ (d i : Nat) (s : Shared), i + d = n → St i s →
    s.heap.SetOf (PySem.strKind prog w) D (fun y => decide (y ∈ ddS (xs.take i))) (ddS (xs.take i)).length →
    (∀ t, Moved (D :: wr) G s t → t.heap.SetOf (PySem.strKind prog w) D (fun y => decide (y ∈ ddS xs)) (ddS xs).length → R (.ok (.ret .none)) t) → codeAny (model prog w) A (.builtin "set.update.loop" ⟨[.ref D, .ref it], []⟩) R s := by
  have nw : D ∉ wr := fun z => hD (W.sub _ z)
  have up : ∀ b ∈ wr, b ∈ D :: wr := fun b z => List.mem_cons_of_mem _ z
  have mv : ∀ {s t : Shared} {f : Str → Bool} {m : Nat}, Moved wr G s t → s.heap.SetOf (PySem.strKind prog w) D f m → t.heap.SetOf (PySem.strKind prog w) D f m := fun {s t f m} k ⟨o, es, ep, tb, h1, h2⟩ => ⟨o, es, ep, tb, k.heap D _ nw h1, h2⟩
  intro d
  induction d with
  | zero =>
    intro i s e hst hS hR; obtain rfl : i = n := by omega
    refine codeAny_builtin PyProof.Rows.F.entry_set_update_loop ?_; rw [Around.under_plainId PyProof.Rows.F.plain_set_update_loop _]
    show wpAny _ A.in1 (pyNext (.ref it) >>= _) _ _ s
    refine wpAny_bind (W.done s _ _ hst fun t k => ?_); show wpAny _ A.in1 (ret Value.none) _ _ t
    have := mv k hS
    rw [List.take_of_length_le (by omega)] at this
    exact wpAny_pure (hR t (k.mono up) this)
  | succ d ih =>
    intro i s e hst hS hR; have lt : i < n := by omega
    refine codeAny_builtin PyProof.Rows.F.entry_set_update_loop ?_; rw [Around.under_plainId PyProof.Rows.F.plain_set_update_loop _]
    show wpAny _ A.in1 (pyNext (.ref it) >>= _) _ _ s
    refine wpAny_bind (W.item i s _ _ lt hst fun v t hP st' k => ?_); obtain ⟨tk, rfl⟩ := hv i v hP
    have hT := mv k hS
    have hl := (ddS_inv (xs.take i)).2.1
    rw [List.length_take] at hl
    show wpAny _ A.in1 (holding [Value.str (xs.getD i Str.empty) tk] (setAdd D (.str (xs.getD i Str.empty) tk)) >>= _) _ _ t
    refine wpAny_bind (wpAny_holding ?_); unfold setAdd
    refine wpAny_holding (wpAny_bind ((PySem.strKind prog w).pyHash (k := xs.getD i Str.empty) (strKind_is _ _ _ _) ?_))
    refine wpAny_setAddHashed_of (knd := PySem.strKind prog w) (s := { t with toks := t.toks + 1 }) (strKind_is _ _ _ _) rfl hT (by omega) fun h' sb hU => ?_
    have hx : xs[i]? = some (xs.getD i Str.empty) := by rw [List.getD_eq_getElem?_getD, List.getElem?_eq_getElem (by omega)]; rfl
    have e2 : xs.take (i + 1) = xs.take i ++ [xs.getD i Str.empty] := by rw [List.take_add_one, hx]; rfl
    generalize xs.getD i Str.empty = x at *
    have hN : h'.SetOf (PySem.strKind prog w) D (fun y => decide (y ∈ ddS (xs.take (i + 1)))) (ddS (xs.take (i + 1))).length := by
      rw [e2, ddS_snoc]
      refine SetOf_congr hU (fun y => ?_) ?_
      · by_cases hm : x ∈ ddS (xs.take i)
        · rw [if_pos hm]
          by_cases ey : y = x
          · rw [ey, decide_eq_true hm]; rfl
          · rw [decide_eq_false ey, Bool.or_false]
        · rw [if_neg hm, Bool.eq_iff_iff, Bool.or_eq_true, decide_eq_true_iff, decide_eq_true_iff, decide_eq_true_iff, List.mem_append, List.mem_singleton]
      · by_cases hm : x ∈ ddS (xs.take i)
        · rw [if_pos hm, if_pos (decide_eq_true hm)]
        · rw [if_neg hm, if_neg (by rw [decide_eq_true_iff]; exact hm), List.length_append]; rfl
    refine wpAny_pure ⟨plainId_quiet PyProof.Rows.F.plain_set_update_loop _, ih (i + 1) _ (by omega) (W.frame _ t _ _ st' (Nat.le_succ _) fun b z o q => (sb.2 b (fun u : b = D => hD (by rw [← u]; exact z))).trans q) hN fun u ku hu => ?_⟩
    exact hR u (Moved.trans W.gtrans ((k.mono up).then_heap (Nat.le_succ _) fun b o z q => (sb.2 b (fun u : b = D => z (by rw [u]; exact List.mem_cons_self))).trans q) ku) hu
end
section
variable {prog : Program} {w : World} {A : Around} {E : Value → Shared → Prop} {s : Shared}
set_option maxHeartbeats 4000000 in
theorem call_setD {l : Addr} {its : Array Value} {xs : List Str} {Q : Value → Shared → Prop} (hh : A.handled = none) (hl : s.heap.IsList l its) (hi : StrsAre its.toList xs) (hb : xs.length + 1 < scanBound)
    (q : ∀ (h' : Heap) (tk : Nat), h'.SetOf (PySem.strKind prog w) s.heap.objs.size (fun y => decide (y ∈ ddS xs)) (ddS xs).length → (∀ b o, b < s.heap.objs.size → s.heap.get? b = some o → h'.get? b = some o) → Q (.ref s.heap.objs.size) { s with heap := h', toks := tk }) : wpAny (model prog w) A (call (.type "set") [.ref l]) Q E s := by
  obtain ⟨c0, tl0, mro⟩ := PySem.F.called_set.mro; have made := PySem.F.called_set.made; have sub := PySem.F.called_set.sub
  refine wpAny_call (codeAny_of_tree ?_); show wpAny _ _ (callAny (.type "set") _) _ _ _
  refine wpAny_pure ⟨Code.quiet_builtin _ (by decide +kernel), codeAny_builtin PySem.F.entry_type_call ?_⟩; rw [Around.under_plain (weight_type_call_type "set" [.ref l] []) rfl]
  have k1 := PySem.F.called_set.notType; have k2 := PySem.F.called_set.canCreate; have k3 := PySem.F.typeCall_set_1 (.ref l)
  repeat (any_goals (first | assumption | wp_step))
  refine codeAny_mono (code_set_new_1 (.ref l) (E := E) (Q₁ := fun ob t => ∃ led : Bool, ob = .ref s.heap.objs.size ∧ t = { s with heap := s.heap.push { cls := .type "set", dict := none, data := .set #[] 0 (.fresh 0 0 led) } }) fun led => ⟨led, rfl, rfl⟩) fun r t hr => ?_
  rcases r with e | fl
  · exact hr
  cases fl with
  | ret ob =>
    obtain ⟨led, rfl, rfl⟩ := hr
    obtain ⟨so, hso⟩ : ∃ so : Obj, so = { cls := .type "set", dict := none, data := .set #[] 0 (.fresh 0 0 led) } := ⟨_, rfl⟩
    rw [← hso]
    have gS : (s.heap.push so).get? s.heap.objs.size = some so := Heap.get?_push_size _ (by rw [hso]; rfl)
    have gT : Shared.TypeIs { s with heap := s.heap.push so } (.ref s.heap.objs.size) "set" := ⟨_, gS, by rw [hso]⟩
    have k4 := PySem.F.called_set.init.lookup; have k5 := PySem.F.called_set.init.bind (.ref s.heap.objs.size)
    repeat (any_goals (first | assumption | wp_step))
    refine codeAny_mono (codeAny_call_builtin (R := wants (fun r u => r = .none ∧ ∃ h' tk, u = { s with heap := h', toks := tk } ∧ h'.SetOf (PySem.strKind prog w) s.heap.objs.size (fun y => decide (y ∈ ddS xs)) (ddS xs).length ∧ (∀ b o, b < s.heap.objs.size → s.heap.get? b = some o → h'.get? b = some o)) E) PySem.F.called_set.init.plain PySem.F.entry_set_init (check_set_init_1 gT ?_)) fun r2 u hu => ?_
    · obtain ⟨⟨c1, c2, c3, c4⟩, hol, hcl, nl, hdl⟩ := hl
      simp only at hcl hdl; subst hcl; subst hdl
      have hol2 := Heap.get?_push_of_some so hol
      have hsls := PySem.F.sub_list_set; have hslf := PySem.F.sub_list_frozenset; have hne : (Value.type "list" == Value.type "dict") = false := by decide
      have hl1 : (s.heap.push so).IsList l its := ⟨_, hol2, rfl, nl, rfl⟩
      have ll : l < s.heap.objs.size := Heap.lt_size hol
      unfold Builtin.«set.__init__» noKeywords Builtin.Frozenset.updateFrom
      subst hso
      generalize hPI : pyIter = PI; wp_walk; subst hPI
      refine wpAny_pyIter_list hl1 ?_; refine wpAny_bind (wpAny_runValue ?_)
      have hh3 : A.in1.in1.in1.handled = none := by simp [hh]
      have n1 : l ≠ s.heap.objs.size + 1 := Nat.ne_of_lt (Nat.lt_succ_of_lt ll)
      have n2 : s.heap.objs.size ∉ [s.heap.objs.size + 1, l] := fun z => (List.mem_cons.mp z).elim (fun z => absurd z (Nat.ne_of_lt (Nat.lt_succ_self _))) fun z => absurd (List.mem_singleton.mp z) (Nat.ne_of_gt ll)
      have hz : xs.length = its.size := by rw [← StrsAre.len_eq hi, Array.length_toList]
      rw [← Heap.size_push] at n1 n2
      refine loopD ((Walks.list hh3 _ l n1 its).toS) s.heap.objs.size n2 xs hz (by omega) (fun i v hv => SS.strs_at hi i v (by rw [Array.getElem?_toList]; exact hv)) its.size 0 _ (by omega) ⟨⟨_, Heap.get?_push_size _ rfl, rfl, rfl⟩, (hl1.push _)⟩ ?h0 ?h1
      case h0 =>
        refine PyProof.Rows.SetOf_congr ((PyProof.Rows.setObjOf_fresh (knd := PySem.strKind prog w) led).setOf (Heap.get?_push_of_some _ gS) (by unfold scanBound; omega)) (fun y => ?_) rfl
        rw [List.take_zero]; rfl
      case h1 =>
        rintro ⟨h', g', d', tk', os'⟩ hm hS'
        obtain rfl : g' = s.gens := hm.gens
        obtain rfl : d' = s.drawn := hm.drawn
        obtain rfl : os' = s.os := hm.os
        show wpAny _ _ _ _ _ _
        refine wpAny_pure ?_; show wpAny _ _ (ret Value.none) _ _ _
        refine wpAny_pure ⟨rfl, h', tk', rfl, hS', fun b o lb eb => hm.heap b o ?_ (Heap.get?_push_of_some _ (Heap.get?_push_of_some _ eb))⟩
        exact fun z => (List.mem_cons.mp z).elim (fun z => absurd z (Nat.ne_of_lt lb)) fun z => absurd ((List.mem_singleton.mp z).trans (Heap.size_push _ _)) (Nat.ne_of_lt (Nat.lt_succ_of_lt lb))
    · rcases r2 with e | fl2
      · exact hu
      cases fl2 with
      | ret r =>
        obtain ⟨rfl, h', tk, rfl, hS', hk'⟩ := hu
        repeat (any_goals (first | assumption | wp_step))
        exact q _ _ hS' hk'
      | _ => exact hu.elim
  | _ => exact hr.elim
end
section
variable {X : Cx} {a : Expr} {ta : TE} {p p2 q pos : Pos}
def tDszS (K : PySem.W.Frag) (ta : TE) : TE := fun σ H Q => ta σ H fun x H1 => ∃ (l : Addr) (xs : List Str), x = .ref l ∧ SqL K H1 l (xs.map V.str) ∧ xs.length ≤ 4000 ∧ Q (.int (ddS xs).length) H1
theorem pe_dszS (hg : Gl X "len") (hm : X.mg "len" = none) (hg2 : Gl X "set") (hm2 : X.mg "set" = none) (ha : PE X a ta) (hc : X.calm = true := by rfl)
    (na : starEach [a] X.env = (false, eval a X.env) :: starEach [] X.env := by rfl) : PE X (.Call (.Name "len" p) [.Call (.Name "set" p2) [a] [] q] [] pos) (tDszS X.K ta) := by
  refine ⟨fun pins s σ H Q I h => ?_⟩
  refine Call_ (ld_blt I hg hm boot_len (PyProof.Rows.callWith_builtin1 (PyProof.Rows.args_cons (Call_ (ld_blt I hg2 hm2 boot_set (PyProof.Rows.callWith_type1 (PyProof.Rows.args_cons (thn (ha.run pins s σ H _ I h) fun v s1 ⟨x, H1, I1, r1, l, xs, e, hq, hl, q1⟩ => PyProof.Rows.args_nil ?_) na) na rfl))) rfl) rfl rfl))
  subst e; cases r1
  obtain ⟨its, r, pl, hz⟩ := I1.list hq
  refine call_setD (I1.ok.hd hc) pl.isList (by simpa using strsAre_of r) (by unfold scanBound; omega) fun h' tk hS hk => PyProof.Rows.args_nil ?_
  obtain ⟨o, es, ep, t, ho, hex, hd, _, _, _, hf, hn⟩ := hS
  have I2 : Inv X pins σ H1 { s1 with heap := h', toks := tk } := I1.kept fun b o e => hk b o (Heap.lt_size e) e
  have := (ddS_inv xs).2.1
  exact call_len_set ho hex hd hf (by rw [hn] <;> omega) ⟨.int (ddS xs).length, H1, I2.tok _, ⟨_, by rw [hn]⟩, q1⟩
variable {σ : L2.St} {s : S}
theorem ev_dszS {xs : List Str} (hm : X.mg "len" = none) (hm2 : X.mg "set" = none) (ha : EvR X a σ s xs) (hz : xs.length ≤ 4000) (hc : X.calm = true := by rfl) (hg : Gl X "len" := by rfl) (hg2 : Gl X "set" := by rfl) (na : starEach [a] X.env = (false, eval a X.env) :: starEach [] X.env := by rfl) :
    Ev X (.Call (.Name "len" p) [.Call (.Name "set" p2) [a] [] q] [] pos) σ s (((ddS xs).length : Nat) : Int) := fun s1 k Q qq =>
  we_of (pe_dszS hg hm hg2 hm2 pe_we hc na) (ha s1 k _ fun v s2 k2 r2 => by
    obtain ⟨p, vs, rfl, h1, h2⟩ := r2
    obtain rfl := h2.flat
    exact ⟨p, xs, rfl, h1, hz, qq _ s2 k2 rfl⟩)
end
end Dy

namespace Dy
open PySem PySem.Spec L2
open PyProof.Rows hiding St
open Enc (rep)
open EncA (repA)
def WSt (X : Cx) (st : Stmt) : TS := fun D σ H => Hold (∀ (pins : List (Addr × Obj)) (s : Shared), Inv X pins σ H s → wpAny (model X.prog X.w) X.A (exec st X.env) (SP X pins D) X.xe s)
theorem ps_wst {X : Cx} {st : Stmt} : PS X st (WSt X st) := ⟨fun pins s _ _ _ I h => Hold.run h pins s I⟩
theorem wst_of {X : Cx} {st : Stmt} {t : TS} {D : Ends} {σ : L2.St} {H : Hp} (h : PS X st t) (q : t D σ H) : WSt X st D σ H := Hold.mk fun pins s I => h.run pins s σ H D I q
section
variable {α β κ : Type} [Enc α] [Enc β] [DKey κ] [DecidableEq κ] {X : Cx} {σ : L2.St} {P0 : Addr → Prop} {s0 s : S} {L : List OA} {elt tg iter : Expr} {ifs : List Expr} {scope : Scope} {pos : Pos} {p : Addr}
theorem do_setLK (j : Nat) {ys : List β} {n : Str} {py : Pos} {rest : List Stmt} {D : Ends} {spos : Pos} {xs : List (κ × α)} (iv : Iv X.K P0 s0 s L) (i : Nat) (hA : L[i]? = some (Dy.od p xs))
    (h : ∀ (ob : Obj) (kv : List (Key × V)) (s1 : S), Iv X.K P0 s0 s1 (L.set i (Dy.odl p ob kv xs)) → EvL X elt tg iter ifs scope σ s1 ys) (k : ∀ p s1, Ex s s1 → s.H p = none → Own X.K s1 p ys → WSs X rest D (σ.set j (some (.ref p))) s1.H)
    (hk : X.env.scope.kind = .function) (hy : X.env.scope.names.lookup n = some .local)
    (hl : (py.line == pos.line) = true := by rfl) (ha : (scope.names.any fun (m, k) => m == n && (k == .local || k == .cell)) = false := by decide +kernel) (hi : X.N[j]? = some n := by rfl) :
    WSs X (.Assign [.Name n py] (.ListComp elt [⟨tg, iter, ifs, 0⟩] scope pos) spos :: rest) D σ s.H := by
  obtain ⟨hf, kv, h1, h2⟩ := iv.od i hA
  refine do_cons (ps_lock ps_wst) ⟨p, .dK kv, h1, trivial, fun ob => ?_⟩
  obtain ⟨hf1, kx⟩ := lk_ex (ob := ob) hf h1 (Ex.refl s)
  have hv := h ob kv (s.put p (.frz ob (.dK kv)) hf) (iv.lock i ob hA hf h1 h2)
  obtain ⟨own, g, tt, g1, g2, g3, g4⟩ := hv.ex
  refine wst_of (ps_setLc (te := fun σ H Q => ∀ s0 H0 C cl fp, WE (Blk X scope s0 H0 C cl fp) elt σ H Q) hv.calm hv.nd hi hy (sw_true hk hy hl ha) pi_wi g1 g2 g3 (fun s0 H0 C cl fp => pe_im fun _ _ _ h => h s0 H0 C cl fp) hv.fs)
    (g4 _ kx (fun x H1 => H1 p = some (.frz ob (.dK kv)) ∧ WSs X rest D (σ.set j (some x)) (upd H1 p (.dK kv))) fun p2 s2 k2 n2 o2 => ?_)
  obtain ⟨hf2, e1, k3⟩ := lk_back hf1 h1 k2
  refine ⟨e1, ?_⟩
  have ne : p2 ≠ p := fun z => by
    have : upd s.H p (.frz ob (.dK kv)) p2 = none := n2
    rw [z, upd_same] at this; cases this
  have n2' : s.H p2 = none := by
    have : upd s.H p (.frz ob (.dK kv)) p2 = none := n2
    rw [upd_ne ne] at this; exact this
  obtain ⟨o1, vs, o3, o4⟩ := o2
  exact k p2 (s2.put p (.dK kv) hf2) k3 n2' ⟨o1, vs, (upd_ne ne).trans o3, o4⟩
end
end Dy

namespace Dy
open PySem PySem.Spec L2
open PyProof.Rows hiding St
open Enc (rep)
open EncA (repA)
section
variable {X : Cx} {σ : L2.St} {s : S} {D : Ends} {rest A B : List Stmt} {a b : Expr} {pos p2 : Pos}
end
section
variable {X : Cx} {σ : St} {s : S} {D : Ends} {rest : List Stmt} {W : WX} {e : Expr}
theorem do_raiseS {c f : Str} {fd : FuncData} {ps : List Str} {k j : Nat} {i : Str} {p pos pos' : Pos} (T : PayF X.K c f) (gC : X.mg c = some (.ref (He.ga X.K c))) (F1 : FnOk X.prog X.w X.K X.mg X.base CX0 k (He.fAd X.K (c, some "__init__")) fd ps (spInit X.K f)) (hb : Binds X.K fd ps [])
    (tk : Takes X W) (hr : Room j X.A) (hk : k + 1 ≤ j) (ha : Ev X e σ s i) (h : ∀ d s1, Ex s s1 → s1.F d = some (.xd [(f, V.str i)]) → W (.ref (He.ga X.K c)) (some d) σ s1.H)
    (hc : X.calm = true := by rfl) (hg : Gl X c := by rfl) (hdb : (c == ("__debug__" : Str)) = false := by decide) (he : starEach [e] X.env = (false, eval e X.env) :: starEach [] X.env := by rfl) (hpl : (backTo pos (starEach [] X.env)).any (·.1) = false := by rfl) :
    WSs X (.Raise (some (.Call (.Name c p) [e] [] pos)) none pos' :: rest) D σ s.H :=
  do_cons (ps_raise hc tk (pmk_oex T.o T.i T.t F1 (hr.mono hk) hb .nil pass0 hg gC (pa_cons pe_we pa_nil he) hdb he hpl)) (ha s (Ex.refl _) _ fun v s2 k2 r2 => by
    obtain rfl : v = V.str i := r2
    refine ⟨by simp, fun a hna => ⟨a, He.ga X.K c, V.str i, rfl, upd_same, T.o, T.n, fun dx h1 h2 => ?_⟩⟩
    have hdx : s2.H dx = none := by rw [upd_ne h2] at h1; exact h1
    refine ⟨rfl, dx, _, upd_same, by rw [upd_ne h2, upd_same], hdx, ?_⟩
    have eH : upd (del (upd (upd (upd s2.H a (exo a (He.ga X.K c) none)) dx (exd dx [(f, V.str i)])) a (exo a (He.ga X.K c) (some dx))) a) dx (.xd [(f, V.str i)]) = (s2.newF dx (.xd [(f, V.str i)]) hdx).H := by
      funext b
      show _ = upd s2.H dx (.xd [(f, V.str i)]) b
      by_cases hb1 : b = dx
      · subst hb1; rw [upd_same, upd_same]
      · rw [upd_ne hb1, upd_ne hb1]
        by_cases hb2 : b = a
        · subst hb2; rw [del_same, hna]
        · rw [del_ne hb2, upd_ne hb2, upd_ne hb1, upd_ne hb2]
    rw [eH]
    exact h dx _ (k2.trans (Ex.newF hdx)) upd_same)
end
end Dy

namespace Dy
open PySem PySem.Spec L2
open PyProof.Rows hiding St
open Enc (rep)
open EncA (repA)
section
variable {X : Cx} {CX : CXT} {k j : Nat} {o : Expr} {apos pos : Pos} {σ : L2.St} {s : S} {m : Str} {A O : Type} {pre : List V → A → List OA → List OA → Prop} {mm : A → Option O} {ok : List V → A → O → V → List OA → Prop} {er : List V → A → O → Er → List OA → Prop} {x : A} {o' : O} {okv ok' : V → List OA → Prop}
end
end Dy

namespace Dy
open PySem PySem.Spec L2
open PyProof.Rows hiding St
open Enc (rep)
open EncA (repA)
section
variable {α : Type} [Enc α] {X : Cx} {σ : L2.St} {s : S} {D : Ends} {rest : List Stmt} {o : Expr} {p1 p2 p3 : Pos} {p : Addr}
end
end Dy

namespace Dy
open PySem PySem.Spec L2
open PyProof.Rows hiding St
open Enc (rep)
open EncA (repA)
section
variable {X : Cx} {CX : CXT} {k j : Nat} {e : Expr} {es : List Expr} {p0 pos : Pos} {σ : L2.St} {s : S} {n : Str} {A O : Type} {pre : List V → A → List OA → List OA → Prop} {mm : A → Option O} {ok : List V → A → O → V → List OA → Prop} {er : List V → A → O → Er → List OA → Prop} {x : A} {o' : O} {okA : List V → List OA → Prop} {ok' : V → List OA → Prop}
end
end Dy

namespace Dy
open PySem PySem.Spec L2
open PyProof.Rows hiding St
open Enc (rep)
open EncA (repA)
def mrg (A B : OA) : OA := ⟨fun K F H P => ∃ P1 P2, A.p K F H P1 ∧ B.p K F H P2 ∧ (∀ a, P1 a → ¬ P2 a) ∧ ∀ a, P a ↔ (P1 a ∨ P2 a),
  fun e ⟨P1, P2, h1, h2, h3, h4⟩ => ⟨P1, P2, A.mono e h1, B.mono e h2, h3, h4⟩,
  fun e ⟨P1, P2, h1, h2, h3, h4⟩ => ⟨P1, P2, A.loc (fun a z => e a ((h4 a).mpr (.inl z))) h1, B.loc (fun a z => e a ((h4 a).mpr (.inr z))) h2, h3, h4⟩,
  fun ⟨P1, P2, h1, h2, h3, h4⟩ z => by
    rcases (h4 _).mp z with z | z
    · exact A.dom h1 z
    · exact B.dom h2 z⟩
section
variable {α : Type} [Enc α] {K : PySem.W.Frag} {P0 : Addr → Prop} {s0 s s1 t : S} {L : List OA} {l : LL} {xss zss : List (List α)} {xs : List α} {q : Addr}
theorem Iv.merge (h : Iv K P0 s0 s L) (i j : Nat) {A B : OA} (hij : i ≠ j) (hA : L[i]? = some A) (hB : L[j]? = some B) : Iv K P0 s0 s ((L.set i (mrg A B)).set j top) := by
  obtain ⟨φ, h1, h2, h3⟩ := h.o
  have hi : i < L.length := (List.getElem?_eq_some_iff.mp hA).1
  have hj : j < L.length := (List.getElem?_eq_some_iff.mp hB).1
  refine ⟨h.m, fun k a => if k = j then False else if k = i then φ i a ∨ φ j a else φ k a, fun k C hC => ?_, fun k m a => ?_, fun k a => ?_⟩
  · by_cases e : k = j
    · subst e
      rw [List.getElem?_set_self (by rw [List.length_set]; exact hj)] at hC
      cases hC
      intro a
      simp
    · rw [List.getElem?_set_ne (Ne.symm e)] at hC
      by_cases e2 : k = i
      · subst e2
        rw [List.getElem?_set_self hi] at hC
        cases hC
        refine ⟨φ k, φ j, h1 k A hA, h1 j B hB, fun a z w => hij (h2 _ _ _ z w), fun a => ?_⟩
        simp [e]
      · rw [List.getElem?_set_ne (Ne.symm e2)] at hC
        have := h1 k C hC
        simpa [e, e2] using this
  · intro z w
    by_cases e : k = j
    · simp [e] at z
    by_cases e' : m = j
    · simp [e'] at w
    by_cases e2 : k = i <;> by_cases e3 : m = i
    · rw [e2, e3]
    · exfalso
      simp only [e, e', e2, e3, if_true, if_false, hij] at z w
      rcases z with z | z
      · exact e3 (h2 _ _ _ w z)
      · exact e' (h2 _ _ _ w z)
    · exfalso
      simp only [e, e', e2, e3, if_true, if_false, hij] at z w
      rcases w with w | w
      · exact e2 (h2 _ _ _ z w)
      · exact e (h2 _ _ _ z w)
    · simp only [e, e', e2, e3, if_false] at z w
      exact h2 _ _ _ z w
  · intro z
    rw [List.length_set, List.length_set]
    by_cases e : k = j
    · simp [e] at z
    by_cases e2 : k = i
    · simp only [e, e2, if_true, if_false, hij] at z
      rcases z with z | z
      · exact ⟨(h3 i a z).1, (h3 i a z).2.1, by omega⟩
      · exact ⟨(h3 j a z).1, (h3 j a z).2.1, by omega⟩
    · simp only [e, e2, if_false] at z
      exact h3 k a z
theorem RdLL.row (h : RdLL K s l xss) {i : Nat} (hq : l.q[i]? = some q) (hx : xss[i]? = some xs) : RepR K s (.ref q) xs := by
  obtain ⟨vs, g1, g2⟩ := h.2.2 i q xs hq hx
  exact ⟨q, vs, rfl, .inl (.inl g1), g2⟩
def rws (qs : List Addr) : List Rw := qs.map fun q => Rw.mk (.ref q)
theorem rws_reps {F : Hp} : ∀ qs : List Addr, Reps K F (qs.map V.ref) (rws qs)
  | [] => trivial
  | q :: r => ⟨rfl, rws_reps r⟩
theorem OwnLL.rw (h : OwnLL K s l xss) : Own K s l.p (rws l.q) := ⟨h.fp, _, h.hp, rws_reps _⟩
theorem own_rws {p : Addr} {qs : List Addr} (h : Own K s p (rws qs)) : s.H p = some (.lst (qs.map .ref)) := by
  obtain ⟨_, vs, h1, h2⟩ := h
  rw [h1, rw_reps h2]
  unfold rws
  rw [List.map_map]; rfl
theorem Iv.all (h : Iv K P0 s0 s L) (k j : Nat) (m : Mx (· = l.p) s s1) (o : Own K s1 l.p (rws l.q ++ [Rw.mk (.ref q)])) (e : zss = xss ++ [xs]) (hkj : k ≠ j := by decide) (hA : L[k]? = some (Dy.oll l xss) := by rfl) (hB : L[j]? = some (Dy.ol q xs) := by rfl) : Iv K P0 s0 s1 ((L.set k (Dy.oll ⟨l.p, l.q ++ [q]⟩ zss)).set j top) := by
  subst e
  have h' := h.merge k j hkj hA hB
  have hk : k < L.length := (List.getElem?_eq_some_iff.mp hA).1
  have := h'.upd (s1 := s1) (A' := Dy.oll ⟨l.p, l.q ++ [q]⟩ (xss ++ [xs])) k (A := mrg (Dy.oll l xss) (Dy.ol q xs)) (by rw [List.getElem?_set_ne (Ne.symm hkj), List.getElem?_set_self hk]) fun P hP hF => by
    obtain ⟨P1, P2, ⟨h0, h1, h2, h3, h4, h5⟩, ⟨g0, vs, g1, g2⟩, hd, hu⟩ := hP
    have hq : q ∉ l.q := fun z => hd q ((h2 q).mpr (.inr z)) ((g0 q).mpr rfl)
    have hp : q ≠ l.p := fun z => hd q ((h2 q).mpr (.inl z)) ((g0 q).mpr rfl)
    have e1 : rws l.q ++ [Rw.mk (.ref q)] = rws (l.q ++ [q]) := by unfold rws; rw [List.map_append]; rfl
    rw [e1] at o
    refine ⟨P, ⟨?_, ?_, fun a => ?_, own_rws o, ?_, fun j r zs a b => ?_⟩, fun a z => ⟨?_, .inl z⟩, ?_⟩
    · rw [List.nodup_append]
      exact ⟨h0, by simp, fun a ha b hb e => hq (by rw [← List.mem_singleton.mp hb, ← e]; exact ha)⟩
    · intro z
      rcases List.mem_append.mp z with z | z
      · exact h1 z
      · exact hp (List.mem_singleton.mp z).symm
    · rw [hu, h2, g0, List.mem_append, List.mem_singleton, or_assoc]
    · rw [List.length_append, List.length_append, h4]; rfl
    · show ∃ vs, s1.H r = _ ∧ _
      have a : (l.q ++ [q])[j]? = some r := a
      by_cases c : j < l.q.length
      · rw [List.getElem?_append_left c] at a
        rw [List.getElem?_append_left (by rw [← h4]; exact c)] at b
        obtain ⟨ws, w1, w2⟩ := h5 j r zs a b
        exact ⟨ws, m.h _ _ w1 (fun z => h1 (by rw [← z]; exact List.mem_of_getElem? a)), w2.mono m.f⟩
      · have hl := (List.getElem?_eq_some_iff.mp a).1
        rw [List.length_append, List.length_singleton] at hl
        have ej : j = l.q.length := by omega
        subst ej
        rw [List.getElem?_append_right (Nat.le_refl _), Nat.sub_self] at a
        rw [h4, List.getElem?_append_right (Nat.le_refl _), Nat.sub_self] at b
        cases a; cases b
        exact ⟨vs, m.h _ _ g1 hp, g2.mono m.f⟩
    · obtain ⟨u, hu2⟩ := (mrg (Dy.oll l xss) (Dy.ol q xs)).dom ⟨P1, P2, ⟨h0, h1, h2, h3, h4, h5⟩, ⟨g0, vs, g1, g2⟩, hd, hu⟩ z
      exact m.n _ _ hu2 (hF a z)
    · exact ⟨m.f, fun a o z n => m.h a o z fun e => n (by rw [e]; exact (hu _).mpr (.inl ((h2 _).mpr (.inl rfl)))), fun a o z _ w => m.n a o z w, m.d⟩
  rw [List.set_comm _ _ hkj, List.set_set] at this
  rw [List.set_comm _ _ hkj]
  exact this
end
section
variable {α : Type} [Enc α] {X : Cx} {σ : L2.St} {s : S} {D : Ends} {rest : List Stmt} {o : Expr} {p1 p2 p3 : Pos} {p : Addr}
end
end Dy

namespace Dy
open PySem PySem.Spec L2
open PyProof.Rows hiding St
open Enc (rep)
open EncA (repA)
section
variable {α τ β : Type} [Enc α] [Enc τ] [Enc β] {X : Cx} {σ : L2.St} {P0 : Addr → Prop} {s0 s s1 t : S} {L : List OA} {l : LL} {xss : List (List β)} {yss : List (List α)} {xs : List α} {e a b c o i elt tg iter : Expr} {ifs : List Expr} {scope : Scope} {own : List (Str × Nat)} {pos p0 p1 : Pos} {D : Ends} {rest : List Stmt}
end
section
variable {X : Cx} {σ : L2.St} {s t : S} {α : Type} {a b : Expr} {pos : Pos}
end
section
variable {X : Cx} {σ : L2.St} {s t : S} {α : Type} [Enc α] {a b o : Expr} {pos : Pos} {l : LL} {xss : List (List α)} {D : Ends} {rest : List Stmt} {p1 p2 p3 : Pos}
end
section
variable {X : Cx} {σ : L2.St} {s t : S} {α : Type} [Enc α] {e : Expr}
end
end Dy

namespace Dy
open PySem PySem.Spec L2
open PyProof.Rows hiding St

section
variable {prog : Program} {w : World} {A : Around} {E : Value → Shared → Prop} {s : Shared}
end
def ssI (xs : List Int) : List Int := xs.eraseDups.mergeSort (fun x y => decide (x ≤ y))
section
variable {X : Cx} {a : Expr} {ta : TE} {p p2 q pos : Pos}
def tSst (K : PySem.W.Frag) (ta : TE) : TE := fun σ H Q => ta σ H fun x H1 => ∃ (l : Addr) (xs : List Int), x = .ref l ∧ SqL K H1 l (xs.map V.int) ∧ xs.length ≤ 60 ∧ ∀ c, H1 c = none → Q (.ref c) (upd H1 c (.lst ((ssI xs).map V.int)))
variable {σ : L2.St} {s : S}
end
end Dy

namespace Dy
open PySem PySem.Spec L2
open PyProof.Rows hiding St
open Enc (rep)
section
variable {X : Cx} {α β γ δ ε : Type} [Enc α] [Enc β] [Enc γ] [Enc δ] [Enc ε] {σ : L2.St} {s : S} {a : Expr} {lo hi : Option Expr} {p2 pos : Pos}
end
end Dy

namespace Dy
open PySem PySem.Spec L2
open PyProof.Rows hiding St
open Enc (rep)
def sK (k : Str) (v : Value) : Bool := match v with
  | .str n _ => n == k
  | _ => false
section
variable {X : Cx} {a b e e' : Expr} {σ : L2.St} {s : S} {pos p0 p1 : Pos}
def rCntS (K : PySem.W.Frag) : V → List V → Hp → VK → Prop := fun x xs H Q => ∃ (p : Addr) (ys : List Str) (k : Str), x = .ref p ∧ xs = [.str k] ∧ SqL K H p (ys.map V.str) ∧ Q (.int (ys.count k : Nat)) H
def anN : An → Bool
  | .o none => true
  | _ => false
instance : Ty An := ⟨fun x => match x with
  | .b _ => "bool"
  | .i _ => "int"
  | .o none => "NoneType"
  | .o (some _) => "int"
  | .s _ => "str"
  | .l _ => "list"
  | .ls _ => "list"
  | .ts _ => "tuple", fun {K F H v x} h f => by
  cases x with
  | b x => exact Ty.is (α := Bool) h f
  | i x => exact Ty.is (α := Int) h f
  | o x => cases x with
    | none => exact Ty.is (α := Option Int) (x := none) h f
    | some z => exact Ty.is (α := Option Int) (x := some z) h f
  | s x => exact Ty.is (α := Str) h f
  | l x => exact Ty.is (α := List Int) h f
  | ls x => exact Ty.is (α := List Str) h f
  | ts x => exact Ty.is (α := Tu Str) h f⟩
def anT : An → Bool
  | .ts _ => true
  | _ => false
def anSq (x : An) (f : List Int → Option Bool) (g : Tu Str → Option Bool) : Option Bool := match x with
  | .l xs => f xs
  | .ts t => g t
  | _ => none
end
section
variable {α β : Type} [Enc α] [Enc β] {K : PySem.W.Frag} {P0 : Addr → Prop} {s0 s : S} {L : List OA} {p q : Addr} {xs : List α} {ys : List β}
theorem Iv.ne (h : Iv K P0 s0 s L) (i j : Nat) (e1 : L[i]? = some (Dy.ol q ys) := by rfl) (e2 : L[j]? = some (Dy.ol p xs) := by rfl) (hij : i ≠ j := by decide) : q ≠ p := by
  obtain ⟨φ, h1, h2, _⟩ := h.o
  intro e
  exact hij (h2 i j q (((h1 i _ e1).1 q).mpr rfl) (((h1 j _ e2).1 q).mpr e))
end
end Dy

namespace Dy
open PySem PySem.Spec L2
open PyProof.Rows hiding St
open Enc (rep)
open Flat (toV)
open EncA (repA)
def odr {κ α : Type} [DKey κ] [Enc α] (p : Addr) (xs : List (κ × α)) : OA := ⟨fun K F H P => (∀ a, P a ↔ a = p) ∧ ∃ kv, Rd H p (.dK kv) ∧ KReps K F kv xs, fun e ⟨h0, vs, h1, h2⟩ => ⟨h0, vs, h1, h2.mono e⟩,
  fun e ⟨h0, vs, h1, h2⟩ => ⟨h0, vs, h1.elim (fun z => .inl ((e p ((h0 p).mpr rfl)).trans z)) (fun ⟨o, z⟩ => .inr ⟨o, (e p ((h0 p).mpr rfl)).trans z⟩), h2⟩,
  fun ⟨h0, vs, h1, h2⟩ q => h1.elim (fun z => ⟨_, (congrArg _ ((h0 _).mp q)).trans z⟩) (fun ⟨o, z⟩ => ⟨_, (congrArg _ ((h0 _).mp q)).trans z⟩)⟩
def WkO (A B : OA) : Prop := ∀ K F H P, A.p K F H P → B.p K F H P
def Wk : List OA → List OA → Prop
  | [], [] => True
  | A :: R, B :: S => WkO A B ∧ Wk R S
  | _, _ => False
theorem wk_nil : Wk [] [] := trivial
theorem wk_cons {A B : OA} {R S : List OA} (h : WkO A B) (t : Wk R S) : Wk (A :: R) (B :: S) := ⟨h, t⟩
theorem wk_rfl {A : OA} : WkO A A := fun _ _ _ _ h => h
theorem Wk.get : ∀ {R S : List OA} (h : Wk R S) {i : Nat} {B : OA}, S[i]? = some B → ∃ A, R[i]? = some A ∧ WkO A B
  | [], [], _, i, B, e => by simp at e
  | A :: R, C :: S, ⟨h1, h2⟩, 0, B, e => ⟨A, rfl, by cases e; exact h1⟩
  | A :: R, C :: S, ⟨h1, h2⟩, i + 1, B, e => by
    obtain ⟨A', g1, g2⟩ := Wk.get h2 (i := i) (by simpa using e)
    exact ⟨A', by simpa using g1, g2⟩
  | [], _ :: _, h, _, _, _ => h.elim
  | _ :: _, [], h, _, _, _ => h.elim
def LockOk (A : OA) : Prop := ∀ K F H P p ob kv, H p = some (.dK kv) → A.p K F H P → A.p K F (upd H p (.frz ob (.dK kv))) P
def LOs : List OA → Prop
  | [] => True
  | A :: R => LockOk A ∧ LOs R
theorem LOs.get : ∀ {R : List OA} (h : LOs R) {i : Nat} {A : OA}, R[i]? = some A → LockOk A
  | [], _, i, A, e => by simp at e
  | _ :: _, ⟨h1, _⟩, 0, A, e => by cases e; exact h1
  | _ :: _, ⟨_, h2⟩, i + 1, A, e => LOs.get h2 (i := i) (by simpa using e)
structure LkR {κ α : Type} [DKey κ] [Enc α] (K : PySem.W.Frag) (P0 : Addr → Prop) (s0 : S) (p : Addr) (ob : Obj) (kv : List (Key × V)) (xs : List (κ × α)) : Prop where
  h : s0.H p = some (.frz ob (.dK kv))
  n : ¬ P0 p
  r : KReps K s0.F kv xs
section
variable {α β κ : Type} [Enc α] [Enc β] [DKey κ] {K : PySem.W.Frag} {P0 : Addr → Prop} {s0 s s1 t : S} {L M R R' : List OA} {p : Addr}
theorem Ro.wk (h : Ro K P0 s0 R) (w : Wk R R') : Ro K P0 s0 R' := ⟨fun i B e => by
  obtain ⟨A, h1, h2⟩ := w.get e
  obtain ⟨P, g1, g2, g3⟩ := h.o i A h1
  exact ⟨P, h2 _ _ _ _ g1, g2, g3⟩⟩
end
section
variable {α β γ κ τ υ ρ : Type} [Enc α] [Enc β] [Enc γ] [Enc τ] [DKey κ] {X : Cx} {σ : L2.St} {P0 : Addr → Prop} {s0 s t : S} {L R : List OA} {e a b c o i tg iter elt : Expr} {es : List Expr} {pos p0 p1 p2 p3 : Pos} {D : Ends} {rest body A : List Stmt} {n : Str} {p : Addr}
theorem WT.imp {Q Q' : Bool → Hp → Prop} {H : Hp} (h : WT X c σ H Q) (f : ∀ b H, Q b H → Q' b H) : WT X c σ H Q' := Hold.mk fun pins sh I => thn (Hold.run h pins sh I) fun d s1 ⟨H1, I1, q1⟩ => ⟨H1, I1, f _ _ q1⟩
section
variable {GT GF : Hp → Prop} {Φ : V → S → Prop}
end
section
variable {Φ : V → S → Prop}
end
def onlyN {o : Type} (x : Option o) : Option An := match x with
  | none => some (An.o none)
  | some _ => none
end
end Dy

namespace Dy
open PySem PySem.Spec L2
open PyProof.Rows hiding St
open Enc (rep)
open Flat (toV)
open EncA (repA)
def hkv (fs : List (Str × V)) : List (Key × V) := fs.map fun z => (Sum.inr z.1, z.2)
def hd (p : Addr) (fs : List (Str × V)) : OA := ⟨fun K F H P => (∀ a, P a ↔ a = p) ∧ H p = some (.dK (hkv fs)), fun e h => h, fun e ⟨h0, h1⟩ => ⟨h0, by rw [e p ((h0 p).mpr rfl)]; exact h1⟩, fun ⟨h0, h1⟩ q => ⟨_, (congrArg _ ((h0 _).mp q)).trans h1⟩⟩
def hdr (p : Addr) (fs : List (Str × V)) : OA := ⟨fun K F H P => (∀ a, P a ↔ a = p) ∧ Rd H p (.dK (hkv fs)), fun e h => h,
  fun e ⟨h0, h1⟩ => ⟨h0, h1.elim (fun z => .inl ((e p ((h0 p).mpr rfl)).trans z)) (fun ⟨o, z⟩ => .inr ⟨o, (e p ((h0 p).mpr rfl)).trans z⟩)⟩,
  fun ⟨h0, h1⟩ q => h1.elim (fun z => ⟨_, (congrArg _ ((h0 _).mp q)).trans z⟩) (fun ⟨o, z⟩ => ⟨_, (congrArg _ ((h0 _).mp q)).trans z⟩)⟩
def HdAt (s : S) (p : Addr) (fs : List (Str × V)) : Prop := Rd s.H p (.dK (hkv fs))
section
variable {K : PySem.W.Frag} {P0 : Addr → Prop} {s0 s s1 t : S} {L M R : List OA} {p : Addr} {fs : List (Str × V)}
theorem HdAt.ex (h : HdAt s p fs) (e : Ex s t) : HdAt t p fs := Rd.ex h e
theorem Iv.hd (h : Iv K P0 s0 s L) (i : Nat) (e : L[i]? = some (Dy.hd p fs) := by rfl) : HdAt s p fs := by
  obtain ⟨P, ⟨h0, h1⟩, h3⟩ := h.at i e
  exact .inl h1
end
section
variable {α β γ κ : Type} [Enc α] [Enc β] [Enc γ] [DKey κ] {X : Cx} {σ : L2.St} {P0 : Addr → Prop} {s0 s t : S} {L : List OA} {e a b c o ix : Expr} {es : List Expr} {pos p0 p1 p2 p3 : Pos} {D : Ends} {rest : List Stmt} {n : Str} {p : Addr} {fs : List (Str × V)}
def EvPs (X : Cx) (pos : Pos) (keys : List (Option Expr)) (es : List Expr) (σ : L2.St) (s : S) (ks : List Str) (ok : List (Str × V) → List OA → Prop) : Prop :=
  ∃ trs, PPs X pos keys es trs ∧ ∀ s1, Ex s s1 → ∀ Q : List (V × V) → Hp → Prop, (∀ fs s2 L', fs.map (·.1) = ks → ok fs L' → Iv X.K No s1 s2 L' → Q (fs.map fun z => (V.str z.1, z.2)) s2.H) → tPairs trs σ s1.H Q
end
end Dy

namespace Dy
open PySem PySem.Spec L2
open PyProof.Rows hiding St
open Enc (rep)
open Flat (toV)
open EncA (repA)
def slc (p : Addr) (vs : List V) : OA := ⟨fun K F H P => (∀ a, P a ↔ a = p) ∧ H p = some (.lst vs), fun e h => h, fun e ⟨h0, h1⟩ => ⟨h0, by rw [e p ((h0 p).mpr rfl)]; exact h1⟩, fun ⟨h0, h1⟩ q => ⟨_, (congrArg _ ((h0 _).mp q)).trans h1⟩⟩
section
variable {K : PySem.W.Frag} {P0 : Addr → Prop} {s0 s s1 t : S} {L M R : List OA} {p : Addr} {vs : List V}
theorem Iv.slc (h : Iv K P0 s0 s L) (i : Nat) (e : L[i]? = some (Dy.slc p vs) := by rfl) : s.H p = some (.lst vs) := by
  obtain ⟨P, ⟨h0, h1⟩, h3⟩ := h.at i e
  exact h1
end
section
variable {α β γ κ : Type} [Enc α] [Enc β] [Enc γ] {X : Cx} {σ : L2.St} {P0 : Addr → Prop} {s0 s t : S} {L : List OA} {e a b c o ix tg iter : Expr} {es : List Expr} {pos p0 p1 p2 p3 : Pos} {D : Ends} {rest body : List Stmt} {n : Str} {p : Addr} {vs : List V}
abbrev FE (D : Ends) (R : L2.St → S → Prop) : Ends := ⟨fun σ' H' => ∃ u : S, u.H = H' ∧ R σ' u, D.rt, D.nx, fun σ' H' => ∃ u : S, u.H = H' ∧ R σ' u⟩
def FC (X : Cx) (g : TG) (body rest : List Stmt) (D : Ends) (p : Addr) (all : List V) : List V → L2.St → S → Prop
  | [], σ, t => WSs X rest D σ t.H
  | v :: vs, σ, t => g v σ t.H (fun σ2 H2 => WSs X body (FE { D with nx := fun σ' H' => WSs X rest D σ' H' } fun σ' s' => s'.H p = some (.lst all) ∧ FC X g body rest D p all vs σ' s') σ2 H2)
theorem FC.go {g : TG} {all vs : List V} {i : Nat} {v : V} (hv : vs[i]? = some v) (h : FC X g body rest D p all (vs.drop i) σ t) : g v σ t.H (fun σ2 H2 => WSs X body (FE { D with nx := fun σ' H' => WSs X rest D σ' H' } fun σ' s' => s'.H p = some (.lst all) ∧ FC X g body rest D p all (vs.drop (i + 1)) σ' s') σ2 H2) := by
  obtain ⟨hlt, rfl⟩ := List.getElem?_eq_some_iff.mp hv
  rw [List.drop_eq_getElem_cons hlt] at h
  exact h
end
end Dy

namespace Dy
open PySem PySem.Spec L2
open PyProof.Rows hiding St
open Enc (rep)
open Flat (toV)
open EncA (repA)
section
variable {α β γ : Type} [Enc α] [Enc β] [Enc γ] {X : Cx} {σ : L2.St} {s : S} {e tg : Expr} {pos : Pos} {D : Ends} {rest : List Stmt}
end
section
variable {α κ : Type} [DKey κ] [Enc α] {X : Cx} {σ : L2.St} {s : S} {a : Expr} {pos p1 : Pos} {p : Addr}
end
end Dy

namespace Dy
open PySem PySem.Spec L2
open PyProof.Rows hiding St
open Enc (rep)
open EncA (repA)

theorem mark_deep {A : Around} {env : Env} {v : Value} (h : A.handled = some v) : (A.deeper env).mark (some v) = A.deeper env := by
  unfold Around.mark Around.deeper
  rw [h]
  rfl
abbrev SpE := Value → Option Addr → Hp → VK → Prop
structure FnE (P : Program) (w : World) (K : PySem.W.Frag) (mg : Str → Option Value) (base : Heap) (CX : CXT) (k : Nat) (f : Addr) (fd : FuncData) (ps : List Str) (sp : SpE) : Prop where
  len : ps.length = 1
  run : ∀ (A : Around) (outer : List Env) (s : Shared) (H : Hp) (args : Args) (a : Addr) (oe : Obj) (cls : Value) (d : Option Addr) (Q : VK), L2H.RoomH k A → A.handled = some (.ref a) → L2H.PinOk outer H s (a, oe) → Zc cls d oe → (∃ vs, oe.data = .fields vs) → Env0 P w K mg base A outer s H → BindsTo s fd args (ps.zip [.ref a]) → sp cls d H Q →
    codeAny (model P w) A (.call (.ref f) args) (CR CX outer P w H s Q (fun _ _ _ => False)) s
theorem fn_ofE {CX : CXT} {P : Program} {w : World} {K : PySem.W.Frag} {mg : Str → Option Value} {base : Heap} {k : Nat} {f : Addr} {name qual : Str} {params : Arguments} {body : List Stmt} {scope : Scope} {dV kV doc pm cdv ct oc : Value} {an od : Option Addr}
    {osl : Array (Option Value)} {N ps : List Str} {sp : SpE} (lk : K.lookup f = some ⟨oc, od, .func (PySem.W.fnOf name qual params body scope dV kV doc pm an cdv ct), osl⟩) (hcd : PySem.W.codeIn K cdv qual = true) (S : FnScope N ps scope)
    (len : ps.length = 1)
    (hbody : ∀ (A : Around) (outer : List Env) (s : Shared) (H : Hp) (a : Addr) (oe : Obj) (cls : Value) (d : Option Addr) (Q : VK), Zc cls d oe → (∃ vs, oe.data = .fields vs) → sp cls d H Q →
      WSs ((cxOf CX P w K mg base N qual scope f cdv A outer s H (fun _ _ _ => False)).suite a [(a, oe)]) body { nx := fun _ H' => Q .non H', rt := Q } (start N [.ref a]) H) :
    FnE P w K mg base CX (k + 1) f (PySem.W.fnOf name qual params body scope dV kV doc pm an cdv ct) ps sp := by
  refine ⟨len, fun A outer s H args a oe cls d Q hr hh hpin hz hf e0 hb hsp => ?_⟩
  have KX : K.In s.heap := e0.mod.kin.keeps fun b o e => (e0.bs b o e).1
  have lim : s.heap.NoLimit := e0.mod.nolimit.keeps fun b o e => (e0.bs b o e).1
  have hkind : ∀ y ∈ ps.zip [Value.ref a], scope.names.lookup y.1 = some .local ∨ (scope.names.lookup y.1 = some .cell ∧ ((cellsFrom (s.heap.objs.size + 1) scope.names []).lookup y.1).isSome = true) := fun ⟨n, v⟩ hy => by
    rcases S.par n (List.of_mem_zip hy).1 with q | q
    · exact .inl q
    · exact .inr ⟨q, PySem.W.cellsFrom_some _ _ _ (.inl q)⟩
  refine codeAny_call_function hr.depth (KX _ _ lk) rfl S.co S.gen rfl (PySem.W.codeRec_of KX hcd) (hb _ _ _ _ ?_)
  refine wpAny_newFunctionEnv_cells S.kind hkind fun env he s1 x => ?_
  subst he
  refine ⟨lim.keeps x.toInCall.keep, codeAny_func ?_⟩
  have J := L2H.inv_startH (CX := CX) (P := P) (w := w) (K := K) (mg := mg) (base := base) (A := A) (E := fun _ _ _ => False) (vs := [V.ref a]) S hpin e0 (by rw [len]; rfl) (.cons rfl .nil) x
  have I : Inv ((cxOf CX P w K mg base N qual scope f cdv A outer s H (fun _ _ _ => False)).suite a [(a, oe)]) [] (start N [.ref a]) H s1 :=
    ⟨⟨J.ok.mod, J.ok.kind, J.ok.glob, J.ok.blt, J.ok.above, J.ok.inj, J.ok.has, J.ok.cab, (fun z => absurd (show false = true from z) Bool.false_ne_true), J.ok.frames, J.ok.stk, J.ok.exf, J.ok.bs, J.ok.bsz, J.ok.noex, J.ok.exfs, J.ok.funs, J.ok.frf⟩, J.os, J.bare, J.base, J.loc, J.cell, J.free, J.freeC, J.pin, J.hok, J.len⟩
  have ht := (pss_ws (X := (cxOf CX P w K mg base N qual scope f cdv A outer s H (fun _ _ _ => False)).suite a [(a, oe)]) (ss := body)).run [] s1 (start N [.ref a]) H _ I (hbody A outer s H a oe cls d Q hz hf hsp)
  have ea : ((cxOf CX P w K mg base N qual scope f cdv A outer s H (fun _ _ _ => False)).suite a [(a, oe)]).A = A.deeper (envOfC qual scope s.heap.objs.size f cdv) := mark_deep hh
  rw [ea] at ht
  refine wpAny_mono ht (fun fl s' hs => ?_) fun e s' hs => hs.elim
  have fin : ∀ {σ' : St} {H' : Hp} {v : V} {u : Value}, Inv ((cxOf CX P w K mg base N qual scope f cdv A outer s H (fun _ _ _ => False)).suite a [(a, oe)]) [] σ' H' s' → RelV v u → Q v H' → CE outer P w H s Q u s' :=
    fun {σ' H' v u} J rv q => ⟨v, H', J.os, J.bare, J.base, J.hok, rv, q⟩
  cases fl with
  | ret u =>
    obtain ⟨v, σ', H', J, rv, q⟩ := hs
    exact fin J rv q
  | next =>
    obtain ⟨σ', H', J, q⟩ := hs
    exact fin (v := V.non) (u := Value.none) J rfl q
  | brk =>
    obtain ⟨_, _, _, q⟩ := hs
    exact False.elim q
  | cont =>
    obtain ⟨_, _, _, q⟩ := hs
    exact False.elim q
structure CalE (P : Program) (w : World) (K : PySem.W.Frag) (mg : Str → Option Value) (base : Heap) (k : Nat) (x : Str) (q : SpE) : Prop where
  ex : ∃ (f : Addr) (fd : FuncData) (ps : List Str), FnE P w K mg base CX0 k f fd ps q ∧ mg x = some (.ref f) ∧ PySem.W.keepIn K (.ref f) = true ∧ Binds K fd ps []
def spE {ρ : Type} [Enc ρ] (K : PySem.W.Frag) (m : Er → Option ρ) : SpE := fun cls d H Q => ∃ (s : S) (er : Er) (r : ρ), s.H = H ∧ ExR K s.F er cls d ∧ m er = some r ∧ ∀ v s', Ex s s' → rep K s'.F v r → Q v s'.H
section
variable {P : Program} {w : World} {K : PySem.W.Frag} {mg : Str → Option Value} {base : Heap}
theorem mk_calE {ρ : Type} [Enc ρ] {m : Er → Option ρ} {x : Str} {st : Stmt} {f : Addr} {fd : FuncData} {N ps : List Str} {k : Nat} (F : FunP K x st f fd) (hm : mg x = some (.ref f)) (b : Binds K fd ps []) (Sc : FnScope N ps (defScope st)) (len : ps.length = 1)
    (body : ∀ (cdv : Value) (A' : Around) (outer : List Env) (s0 : Shared) (H0 : Hp) (a : Addr) (oe : Obj) (d : Option Addr) (s : S) (er : Er) (r : ρ) (Q : VK), Zc (.ref (He.ga K er.c)) d oe → (∃ vs, oe.data = .fields vs) → ExR K s.F er (.ref (He.ga K er.c)) d → m er = some r →
      (∀ v s', Ex s s' → rep K s'.F v r → Q v s'.H) → WSs ((cxOf CX0 P w K mg base N x (defScope st) f cdv A' outer s0 H0 (fun _ _ _ => False)).suite a [(a, oe)]) (defBody st) (RD Q) (start N [.ref a]) s.H) : CalE P w K mg base (k + 1) x (spE K m) := by
  have kp := F.kp
  obtain ⟨oc, od, dV, kV, doc, pm, an, cdv, ct, osl, rfl, lk, hcd, _, _⟩ := F.ex
  exact ⟨f, _, ps, fn_ofE lk hcd Sc len (fun A outer s H a oe cls d Q hz hf ⟨s1, er, r, e, h1, h2, h3⟩ => by
    have ec := exR_cls h1
    subst ec
    have := body cdv A outer s H a oe d s1 er r Q hz hf h1 h2 h3
    rw [e] at this
    exact this), hm, kp, b⟩
end
section
variable {X : Cx} {σ : St} {s : S} {e : Expr} {p0 pos : Pos} {a : Addr} {oe : Obj} {pn : List (Addr × Obj)} {α : Type} [Enc α]
theorem pe_callE {n : Str} {k j : Nat} {q : SpE} {te : TE} {cls : Value} {d : Option Addr} (C : CalE X.prog X.w X.K X.mg X.base k n q) (hr : Room j X.A) (hk : k ≤ j) (hz : Zc cls d oe) (hf : ∃ vs, oe.data = .fields vs) (ha : PE (X.suite a ((a, oe) :: pn)) e te) (hg : Gl (X.suite a ((a, oe) :: pn)) n)
    (hdb : (n == ("__debug__" : Str)) = false := by decide) (he : starEach [e] X.env = (false, eval e X.env) :: starEach [] X.env := by rfl) (hpl : (backTo pos (starEach [] X.env)).any (·.1) = false := by rfl) :
    PE (X.suite a ((a, oe) :: pn)) (.Call (.Name n p0) [e] [] pos) (fun σ H Q => te σ H fun x H1 => [x] = [V.ref a] ∧ q cls d H1 Q) := by
  obtain ⟨f, fd, ps, F, hm, kp, b⟩ := C.ex
  refine ⟨fun pins s σ H Q I h => ?_⟩
  refine wpAny_Call_Name_kw (ld_glob I hg hm ?_ hdb)
  refine PySem.W.callWith_K (h₀ := X.base) I.ok.mod.kin kp (thn ((pa_cons ha pa_nil he).run pos pins s σ H (fun vs H1 => vs = [V.ref a] ∧ q cls d H1 Q) I h) fun us s1 ⟨vs, H1, I1, r, ex, qq⟩ => ⟨I1.kIn, ?_⟩) he hpl
  subst ex
  obtain ⟨u, rfl, ru⟩ : ∃ u, us = [u] ∧ RelV (V.ref a) u := by
    cases r with
    | cons r1 r2 => cases r2; exact ⟨_, rfl, r1⟩
  obtain rfl : u = Value.ref a := ru
  have P1 := I1.pin (a, oe) (List.mem_append_left _ List.mem_cons_self)
  have hpin : L2H.PinOk (X.suite a ((a, oe) :: pn)).stack H1 s1 (a, oe) := ⟨P1.1, P1.2.1, fun hm => (List.mem_cons.mp (I1.stkSub a hm)).elim P1.2.2.1 P1.2.2.2.1, P1.2.2.2.2⟩
  have bb := b s1 [.ref a] I1.kIn (by rw [List.append_nil]; exact F.len.symm)
  rw [List.append_nil] at bb
  refine wpAny_call (codeAny_mono (F.run (X.suite a ((a, oe) :: pn)).A (X.suite a ((a, oe) :: pn)).stack s1 H1 ⟨[.ref a], []⟩ a oe cls d Q ⟨(hr.mono hk).dp, (hr.mono hk).un⟩ rfl hpin hz hf I1.env0 bb qq) fun r s' hq => ?_)
  cases r with
  | error e => 
    obtain hq := (hq : CX0 _ _ _ _ _ _)
    exact (hq : False).elim
  | ok fl =>
    cases fl with
    | ret u => exact I1.after hq
    | next => exact False.elim hq
    | brk => exact False.elim hq
    | cont => exact False.elim hq
theorem ev_callE {n : Str} {k j : Nat} {m : Er → Option α} {er : Er} {d : Option Addr} {r : α} (C : CalE X.prog X.w X.K X.mg X.base k n (spE X.K m)) (hr : Room j X.A) (hk : k ≤ j) (h : m er = some r) (hz : Zc (.ref (He.ga X.K er.c)) d oe) (hf : ∃ vs, oe.data = .fields vs) (hx : ExR X.K s.F er (.ref (He.ga X.K er.c)) d)
    (ha : Ev (X.suite a ((a, oe) :: pn)) e σ s (Rw.mk (.ref a))) (hg : Gl (X.suite a ((a, oe) :: pn)) n := by rfl) (hdb : (n == ("__debug__" : Str)) = false := by decide) (he : starEach [e] X.env = (false, eval e X.env) :: starEach [] X.env := by rfl) (hpl : (backTo pos (starEach [] X.env)).any (·.1) = false := by rfl) :
    Ev (X.suite a ((a, oe) :: pn)) (.Call (.Name n p0) [e] [] pos) σ s r := fun s1 k1 Q q => by
  refine we_of (pe_callE C hr hk hz hf pe_we hg hdb he hpl) (ha s1 k1 _ fun v s2 k2 r2 => ?_)
  cases (show v = .ref a from r2)
  exact ⟨rfl, s2, er, r, rfl, ExR.mono (k1.trans k2).f hx, h, fun v s3 k3 r3 => q v s3 (k2.trans k3) r3⟩
end
end Dy

set_option maxHeartbeats 4000000
namespace K19
open PySem PySem.Spec L2 Dy
open PyProof.Rows hiding St
open Enc (rep)
open Flat (toV)
open EncA (repA)
def topS (i : Nat) : Stmt := PySem.Challenge.pw_deskpairs_k19_refusals_apart.main.body.getD i (.Pass ⟨0, 0, 0, 0⟩)
def clsS (i j : Nat) : Stmt := match PySem.Challenge.pw_deskpairs_k19_refusals_apart.main.body.getD i (.Pass ⟨0, 0, 0, 0⟩) with | .ClassDef _ _ _ body _ _ _ _ _ _ _ => body.getD j (.Pass ⟨0, 0, 0, 0⟩) | _ => .Pass ⟨0, 0, 0, 0⟩
def c_LETTERS : Str := ("abcdefghijklmnopqrstuvwxyz" : Str)
structure R_Times where
  my_names : (List Str)
  my_rows : (List (List Int))
structure R_Times_0 where

structure R_Times_1 where
  my_names : (List Str)
def tab : ETab := ⟨["NoBars", "NoBreak", "NoTimes", "NoInstrument", "NoLine"], [("NoBreak", "place"), ("NoInstrument", "name"), ("NoLine", "place")], [((("NoBars" : Str), ("NoBars" : Str)), true), ((("NoBars" : Str), ("NoBreak" : Str)), false), ((("NoBars" : Str), ("NoCall" : Str)), false), ((("NoBars" : Str), ("NoInstrument" : Str)), false), ((("NoBars" : Str), ("NoLine" : Str)), false), ((("NoBars" : Str), ("NoName" : Str)), false), ((("NoBars" : Str), ("NoOrder" : Str)), false), ((("NoBars" : Str), ("NoPlace" : Str)), false), ((("NoBars" : Str), ("NoPlayer" : Str)), false), ((("NoBars" : Str), ("NoSeating" : Str)), false), ((("NoBars" : Str), ("NoText" : Str)), false), ((("NoBars" : Str), ("NoTimes" : Str)), false), ((("NoBars" : Str), ("Twice" : Str)), false), ((("NoBars" : Str), ("ValueError" : Str)), true), ((("NoBreak" : Str), ("NoBars" : Str)), false), ((("NoBreak" : Str), ("NoBreak" : Str)), true), ((("NoBreak" : Str), ("NoCall" : Str)), false), ((("NoBreak" : Str), ("NoInstrument" : Str)), false), ((("NoBreak" : Str), ("NoLine" : Str)), false), ((("NoBreak" : Str), ("NoName" : Str)), false), ((("NoBreak" : Str), ("NoOrder" : Str)), false), ((("NoBreak" : Str), ("NoPlace" : Str)), false), ((("NoBreak" : Str), ("NoPlayer" : Str)), false), ((("NoBreak" : Str), ("NoSeating" : Str)), false), ((("NoBreak" : Str), ("NoText" : Str)), false), ((("NoBreak" : Str), ("NoTimes" : Str)), false), ((("NoBreak" : Str), ("Twice" : Str)), false), ((("NoBreak" : Str), ("ValueError" : Str)), true), ((("NoTimes" : Str), ("NoBars" : Str)), false), ((("NoTimes" : Str), ("NoBreak" : Str)), false), ((("NoTimes" : Str), ("NoCall" : Str)), false), ((("NoTimes" : Str), ("NoInstrument" : Str)), false), ((("NoTimes" : Str), ("NoLine" : Str)), false), ((("NoTimes" : Str), ("NoName" : Str)), false), ((("NoTimes" : Str), ("NoOrder" : Str)), false), ((("NoTimes" : Str), ("NoPlace" : Str)), false), ((("NoTimes" : Str), ("NoPlayer" : Str)), false), ((("NoTimes" : Str), ("NoSeating" : Str)), false), ((("NoTimes" : Str), ("NoText" : Str)), false), ((("NoTimes" : Str), ("NoTimes" : Str)), true), ((("NoTimes" : Str), ("Twice" : Str)), false), ((("NoTimes" : Str), ("ValueError" : Str)), true), ((("NoInstrument" : Str), ("NoBars" : Str)), false), ((("NoInstrument" : Str), ("NoBreak" : Str)), false), ((("NoInstrument" : Str), ("NoCall" : Str)), false), ((("NoInstrument" : Str), ("NoInstrument" : Str)), true), ((("NoInstrument" : Str), ("NoLine" : Str)), false), ((("NoInstrument" : Str), ("NoName" : Str)), false), ((("NoInstrument" : Str), ("NoOrder" : Str)), false), ((("NoInstrument" : Str), ("NoPlace" : Str)), false), ((("NoInstrument" : Str), ("NoPlayer" : Str)), false), ((("NoInstrument" : Str), ("NoSeating" : Str)), false), ((("NoInstrument" : Str), ("NoText" : Str)), false), ((("NoInstrument" : Str), ("NoTimes" : Str)), false), ((("NoInstrument" : Str), ("Twice" : Str)), false), ((("NoInstrument" : Str), ("ValueError" : Str)), true), ((("NoLine" : Str), ("NoBars" : Str)), false), ((("NoLine" : Str), ("NoBreak" : Str)), false), ((("NoLine" : Str), ("NoCall" : Str)), false), ((("NoLine" : Str), ("NoInstrument" : Str)), false), ((("NoLine" : Str), ("NoLine" : Str)), true), ((("NoLine" : Str), ("NoName" : Str)), false), ((("NoLine" : Str), ("NoOrder" : Str)), false), ((("NoLine" : Str), ("NoPlace" : Str)), false), ((("NoLine" : Str), ("NoPlayer" : Str)), false), ((("NoLine" : Str), ("NoSeating" : Str)), false), ((("NoLine" : Str), ("NoText" : Str)), false), ((("NoLine" : Str), ("NoTimes" : Str)), false), ((("NoLine" : Str), ("Twice" : Str)), false), ((("NoLine" : Str), ("ValueError" : Str)), true)], [((("NoBars" : Str), ("PairsError" : Str)), true), ((("NoBreak" : Str), ("PairsError" : Str)), true), ((("NoTimes" : Str), ("PairsError" : Str)), true), ((("NoInstrument" : Str), ("PairsError" : Str)), true), ((("NoLine" : Str), ("PairsError" : Str)), true)]⟩
abbrev s_l_cell_at : Stmt := topS 41
abbrev N_l_cell_at : List Str := ["_law_script", "_law_k"]
theorem sc_l_cell_at : FnScope N_l_cell_at ["_law_script", "_law_k"] (defScope s_l_cell_at) := ⟨rfl, rfl, rfl, by decide +kernel, rfl, by decide +kernel, by decide +kernel⟩
noncomputable def m_l_cell_at (script1 : (List Int)) (k4 : Int) : Option Int :=
 (if (decide (k4 < ((script1).length : Int))) = true then
 (bnd (atI script1 k4) fun at13 => (some at13))
 else
 (some (0 : Int)))
noncomputable abbrev a_l_cell_at : (List Int) × Int × Unit → Option Int := fun a => m_l_cell_at a.1 a.2.1
theorem ok_l_cell_at {P : Program} {w : World} {K : PySem.W.Frag} {mg : Str → Option Value} {base : Heap} {f : Addr} {fd : FuncData} (F : FunP K "_law_cell_at" s_l_cell_at f fd) (hmg : mg "_law_cell_at" = some (.ref f)) (z_len : mg "len" = none) : Cal P w K mg base CX0 1 "_law_cell_at" (sp K a_l_cell_at) := by
  refine mk_cal (k := 0) F hmg (F.bindsN fun _ _ _ _ _ _ us hl => match us, hl with | [_, _], _ => rfl) sc_l_cell_at len2 ?_
  rintro cdv A' outer sh0 H0 X0 hr s0 vs ⟨script1, k4, _⟩ r0 Q ⟨v2, _, rfl, r3, v5, _, rfl, r6, rfl⟩ hm hQ
  unfold a_l_cell_at m_l_cell_at at hm
  dsimp only at hm
  have iv7 : Iv K (fun _ => False) s0 s0 [fz v2 (script1 : (List Int)), fz v5 (k4 : Int)] := (Iv.sf (Iv.sf (Iv.tops (K := K) (P0 := (fun _ => False)) 2 s0) 0 (Ex.refl s0) r3 rfl) 1 (Ex.refl s0) r6 rfl)
  refine do_ifR (EvB.t (eb_lt (ev_var 1 rfl (Iv.fz (x := (k4 : Int)) iv7 1)) (ev_len z_len (Ev.r (ev_var 0 rfl (Iv.fz (x := (script1 : (List Int))) iv7 0)))))) (fun hb8 s9 e10 => ?_) (fun hb18 s19 e20 => ?_)
  · have hm11 := iteE1 hm hb8
    have iv12 := Iv.ex iv7 e10
    obtain ⟨at13, h_at13, hm11⟩ := bndE hm11
    obtain rfl := Option.some.inj hm11
    exact do_ret (ev_ix (Ev.r (ev_var 0 rfl (Iv.fz (x := (script1 : (List Int))) iv12 0))) (ev_var 1 rfl (Iv.fz (x := (k4 : Int)) iv12 1)) h_at13) fun v14 s15 e16 r17 => hQ _ _ (Ex.trans (Iv.exx iv12) e16) r17
  · have hm21 := iteE2 hm hb18
    have iv22 := Iv.ex iv7 e20
    obtain rfl := Option.some.inj hm21
    exact do_ret ev_int fun v23 s24 e25 r26 => hQ _ _ (Ex.trans (Iv.exx iv22) e25) r26
abbrev s_is_square : Stmt := topS 37
abbrev N_is_square : List Str := ["names", "rows", "row", "k"]
theorem sc_is_square : FnScope N_is_square ["names", "rows"] (defScope s_is_square) := ⟨rfl, rfl, rfl, by decide +kernel, rfl, by decide +kernel, by decide +kernel⟩
noncomputable def m_is_square (names27 : (List Str)) (rows30 : (List (List Int))) : Option Bool :=
 (if (!decide (((rows30).length : Int) = ((names27).length : Int))) = true then
 (some false)
 else
 (bnd (foldF (ρ := Bool) (fun (b50 : Unit) (x52 : (List Int)) =>
 (bnd (orO (!decide (((x52).length : Int) = ((names27).length : Int))) (bnd (minL x52) fun min76 => (some (decide (min76 < (0 : Int)))))) fun c77 => (if c77 = true then
 (some (Fl.rt false))
 else
 (some (Fl.nx ()))))) () rows30) fun o48 =>
 (Fl.go o48 (fun b104 => (chk (RgB ((names27).length : Int)) (bnd (mapO (fun (x127 : Int) => (bnd (atI rows30 x127) fun at139 => (bnd (atI at139 x127) fun at140 => (some (decide (at140 = (0 : Int))))))) (rng 0 ((names27).length : Int))) fun ys141 => (chk ((ys141).length ≤ sizeLine) (some ((ys141).all id)))))) (fun rr => (some rr)))))
noncomputable abbrev a_is_square : (List Str) × (List (List Int)) × Unit → Option Bool := fun a => m_is_square a.1 a.2.1
theorem ok_is_square {P : Program} {w : World} {K : PySem.W.Frag} {mg : Str → Option Value} {base : Heap} {f : Addr} {fd : FuncData} (F : FunP K "is_square" s_is_square f fd) (hmg : mg "is_square" = some (.ref f)) (z_len : mg "len" = none) (z_min : mg "min" = none) (z_all : mg "all" = none) (z_range : mg "range" = none) : Cal P w K mg base CX0 1 "is_square" (sp K a_is_square) := by
  refine mk_cal (k := 0) F hmg (F.bindsN fun _ _ _ _ _ _ us hl => match us, hl with | [_, _], _ => rfl) sc_is_square len2 ?_
  rintro cdv A' outer sh0 H0 X0 hr s0 vs ⟨names27, rows30, _⟩ r0 Q ⟨v28, _, rfl, r29, v31, _, rfl, r32, rfl⟩ hm hQ
  unfold a_is_square m_is_square at hm
  dsimp only at hm
  have iv33 : Iv K (fun _ => False) s0 s0 [fz v28 (names27 : (List Str)), fz v31 (rows30 : (List (List Int))), top, top] := (Iv.sf (Iv.sf (Iv.tops (K := K) (P0 := (fun _ => False)) 4 s0) 0 (Ex.refl s0) r29 rfl) 1 (Ex.refl s0) r32 rfl)
  refine do_ifR (EvB.t (eb_ne (ev_len z_len (Ev.r (ev_var 1 rfl (Iv.fz (x := (rows30 : (List (List Int)))) iv33 1)))) (ev_len z_len (Ev.r (ev_var 0 rfl (Iv.fz (x := (names27 : (List Str))) iv33 0)))))) (fun hb34 s35 e36 => ?_) (fun hb43 s44 e45 => ?_)
  · have hm37 := iteE1 hm hb34
    have iv38 := Iv.ex iv33 e36
    obtain rfl := Option.some.inj hm37
    exact do_ret ev_bl fun v39 s40 e41 r42 => hQ _ _ (Ex.trans (Iv.exx iv38) e41) r42
  · have hm46 := iteE2 hm hb43
    have iv47 := Iv.ex iv33 e45
    obtain ⟨o48, ho49, hm46⟩ := bndE hm46
    refine do_forF (ρ := Bool) (υ := Unit) PassesOwn.never rfl (ei_list (ev_var 1 rfl (Iv.fz (x := (rows30 : (List (List Int)))) iv47 1))) (pg_name (i := 2) sc_is_square.nd rfl (by first | exact Or.inl rfl | exact Or.inr rfl)) tg_n ho49 (fun (b50 : Unit) (σ' : L2.St) (t' : S) => ∃ (y_row : Option V), σ' = [some v28, some v31, y_row, none] ∧ Iv K (fun _ => False) s0 t' [fz v28 (names27 : (List Str)), fz v31 (rows30 : (List (List Int))), top, top]) (fun s101 k102 => by have iv103 := Iv.ex iv47 k102; exact ⟨_, rfl, Iv.sel iv103 [some 0, some 1, none, none] (by decide +kernel) (by kernel_rfl)⟩) (fun s53 k54 x52 b50 q73 σ63 σ64 t61 t62 hx55 hm56 hq74 fl57 hR58 k59 hB60 => ?_) (fun s95 k96 b104 σ97 t98 ho105 fl99 hR100 => ?_)
    · have hf65 := Fle.trans k54.f fl57
      obtain ⟨y66, rfl, iv67⟩ := hR58
      obtain ⟨v68, r69, rfl⟩ := hB60
      have iv70 := Iv.ex iv67 k59
      have iv71 := Iv.sf iv70 2 (Ex.refl t62) r69 rfl
      have fl72 := Fle.trans (Fle.refl t62.F) (Ex.refl t62).f
      obtain ⟨c77, h_c77, hm56⟩ := bndE hm56
      refine do_ifR (EvW.tt (EvC.w (by skip; exact ec_orO (eb_ne (ev_len z_len (Ev.r (ev_var 2 rfl (Iv.fz (x := (x52 : (List Int))) iv71 2)))) (ev_len z_len (Ev.r (ev_var 0 rfl (Iv.fz (x := (names27 : (List Str))) iv71 0))))) (fun hb78 => (fun hz => (by obtain ⟨min76, h_min76, hz⟩ := bndE hz; obtain rfl := Option.some.inj hz; exact (ec_or1 (eb_lt (ev_min z_min (Ev.r (ev_var 2 rfl (Iv.fz (x := (x52 : (List Int))) iv71 2))) h_min76) ev_int)))) ((orE h_c77).1 hb78)) (orE h_c77).2))) (fun hb79 s80 e81 => ?_) (fun hb89 s90 e91 => ?_)
      · have hm82 := iteE1 hm56 hb79
        have iv83 := Iv.ex iv71 e81
        have fl84 := Fle.trans (Fle.refl t62.F) e81.f
        obtain rfl := Option.some.inj hm82
        obtain rfl := hq74 _ rfl
        obtain rfl := Option.some.inj hm46
        exact do_ret ev_bl fun v85 s86 e87 r88 => hQ _ _ (Ex.trans (Iv.exx iv83) e87) r88
      · have hm92 := iteE2 hm56 hb89
        have iv93 := Iv.ex iv71 e91
        have fl94 := Fle.trans (Fle.refl t62.F) e91.f
        obtain rfl := Option.some.inj hm92
        exact do_nil ⟨s90, rfl, _, rfl, fl94, ⟨_, rfl, Iv.sel iv93 [some 0, some 1, none, none] (by decide +kernel) (by kernel_rfl)⟩⟩
    · subst ho105
      replace hm46 := goN hm46
      have hf106 := Fle.trans k96.f fl99
      obtain ⟨y107, rfl, iv108⟩ := hR100
      obtain ⟨hc126, hm46⟩ := chkE hm46
      obtain ⟨ys141, h_ys141, hm46⟩ := bndE hm46
      obtain ⟨hc142, hm46⟩ := chkE hm46
      obtain rfl := Option.some.inj hm46
      exact do_ret (ev_all z_all (EvN.r (EvL.n (en_comp0 (own := [("k", 3)]) (j := 3) (f := fun (x127 : Int) => (bnd (atI rows30 x127) fun at139 => (bnd (atI at139 x127) fun at140 => (some (decide (at140 = (0 : Int))))))) rfl sc_is_square.nd (ei_range1 z_range (ev_len z_len (Ev.r (ev_var 0 rfl (Iv.fz (x := (names27 : (List Str))) iv108 0)))) hc126) (blkOk_by (own := [("k", 3)]) (N := N_is_square) (sc := defScope s_is_square) (by decide +kernel)) rfl (by decide) (fun _ _ _ _ _ => pg_name (i := 3) sc_is_square.nd rfl (by first | exact Or.inl rfl | exact Or.inr rfl)) h_ys141 hc142 (fun x127 y128 v135 s129 hx131 e130 r136 hf132 _ _ _ _ _ => by have z134 := Enc.mono e130.f (Iv.fz (v := v31) (x := (rows30 : (List (List Int)))) iv108 1); obtain ⟨at139, h_at139, hf132⟩ := bndE hf132; obtain ⟨at140, h_at140, hf132⟩ := bndE hf132; obtain rfl := Option.some.inj hf132; exact (EvB.v (eb_eq (ev_ix (Ev.r (ev_ix (Ev.r (ev_var 1 rfl z134)) (ev_var 3 rfl r136) h_at139)) (ev_var 3 rfl r136) h_at140) ev_int))))))) fun v143 s144 e145 r146 => hQ _ _ (Ex.trans (Iv.exx iv108) e145) r146
abbrev s_is_straight : Stmt := topS 38
abbrev N_is_straight : List Str := ["rows", "one", "middle", "other"]
theorem sc_is_straight : FnScope N_is_straight ["rows"] (defScope s_is_straight) := ⟨rfl, rfl, rfl, by decide +kernel, rfl, by decide +kernel, by decide +kernel⟩
noncomputable def m_is_straight (rows147 : (List (List Int))) : Option Bool :=
 (bnd (foldF (ρ := Bool) (fun (b153 : Unit) (x155 : (List Int)) =>
 (chk (RgB ((rows147).length : Int)) (bnd (foldF (ρ := Bool) (fun (b183 : Unit) (x185 : Int) =>
 (chk (RgB ((rows147).length : Int)) (bnd (foldF (ρ := Bool) (fun (b212 : Unit) (x214 : Int) =>
 (bnd (atI x155 x214) fun at237 => (bnd (atI x155 x185) fun at238 => (bnd (atI rows147 x185) fun at239 => (bnd (atI at239 x214) fun at240 => (if (decide ((at238 + at240) < at237)) = true then
 (some (Fl.rt false))
 else
 (some (Fl.nx ())))))))) () (rng 0 ((rows147).length : Int))) fun o210 =>
 (Fl.go o210 (fun b267 => (some (Fl.nx ()))) (fun rr => (some (Fl.rt rr))))))) () (rng 0 ((rows147).length : Int))) fun o181 =>
 (Fl.go o181 (fun b283 => (some (Fl.nx ()))) (fun rr => (some (Fl.rt rr))))))) () rows147) fun o151 =>
 (Fl.go o151 (fun b299 => (some true)) (fun rr => (some rr))))
noncomputable abbrev a_is_straight : (List (List Int)) × Unit → Option Bool := fun a => m_is_straight a.1
theorem ok_is_straight {P : Program} {w : World} {K : PySem.W.Frag} {mg : Str → Option Value} {base : Heap} {f : Addr} {fd : FuncData} (F : FunP K "is_straight" s_is_straight f fd) (hmg : mg "is_straight" = some (.ref f)) (z_range : mg "range" = none) (z_len : mg "len" = none) : Cal P w K mg base CX0 1 "is_straight" (sp K a_is_straight) := by
  refine mk_cal (k := 0) F hmg (F.bindsN fun _ _ _ _ _ _ us hl => match us, hl with | [_], _ => rfl) sc_is_straight len1 ?_
  rintro cdv A' outer sh0 H0 X0 hr s0 vs ⟨rows147, _⟩ r0 Q ⟨v148, _, rfl, r149, rfl⟩ hm hQ
  unfold a_is_straight m_is_straight at hm
  dsimp only at hm
  have iv150 : Iv K (fun _ => False) s0 s0 [fz v148 (rows147 : (List (List Int))), top, top, top] := (Iv.sf (Iv.tops (K := K) (P0 := (fun _ => False)) 4 s0) 0 (Ex.refl s0) r149 rfl)
  obtain ⟨o151, ho152, hm⟩ := bndE hm
  refine do_forF (ρ := Bool) (υ := Unit) PassesOwn.never rfl (ei_list (ev_var 0 rfl (Iv.fz (x := (rows147 : (List (List Int)))) iv150 0))) (pg_name (i := 1) sc_is_straight.nd rfl (by first | exact Or.inl rfl | exact Or.inr rfl)) tg_n ho152 (fun (b153 : Unit) (σ' : L2.St) (t' : S) => ∃ (y_middle : Option V) (y_other : Option V) (y_one : Option V), σ' = [some v148, y_one, y_middle, y_other] ∧ Iv K (fun _ => False) s0 t' [fz v148 (rows147 : (List (List Int))), top, top, top]) (fun s296 k297 => by have iv298 := Iv.ex iv150 k297; exact ⟨_, _, _, rfl, Iv.sel iv298 [some 0, none, none, none] (by decide +kernel) (by kernel_rfl)⟩) (fun s156 k157 x155 b153 q178 σ166 σ167 t164 t165 hx158 hm159 hq179 fl160 hR161 k162 hB163 => ?_) (fun s290 k291 b299 σ292 t293 ho300 fl294 hR295 => ?_)
  · have hf168 := Fle.trans k157.f fl160
    obtain ⟨y169, y170, y171, rfl, iv172⟩ := hR161
    obtain ⟨v173, r174, rfl⟩ := hB163
    have iv175 := Iv.ex iv172 k162
    have iv176 := Iv.sf iv175 1 (Ex.refl t165) r174 rfl
    have fl177 := Fle.trans (Fle.refl t165.F) (Ex.refl t165).f
    obtain ⟨hc180, hm159⟩ := chkE hm159
    obtain ⟨o181, ho182, hm159⟩ := bndE hm159
    refine do_forF (ρ := Bool) (υ := Unit) PassesOwn.never rfl (ei_range1 z_range (ev_len z_len (Ev.r (ev_var 0 rfl (Iv.fz (x := (rows147 : (List (List Int)))) iv176 0)))) hc180) (pg_name (i := 2) sc_is_straight.nd rfl (by first | exact Or.inl rfl | exact Or.inr rfl)) tg_n ho182 (fun (b183 : Unit) (σ' : L2.St) (t' : S) => ∃ (y_other : Option V) (y_middle : Option V), σ' = [some v148, some v173, y_middle, y_other] ∧ Iv K (fun _ => False) s0 t' [fz v148 (rows147 : (List (List Int))), fz v173 (x155 : (List Int)), top, top]) (fun s279 k280 => by have iv281 := Iv.ex iv176 k280; have fl282 := Fle.trans (Fle.refl t165.F) k280.f; exact ⟨_, _, rfl, Iv.sel iv281 [some 0, some 1, none, none] (by decide +kernel) (by kernel_rfl)⟩) (fun s186 k187 x185 b183 q207 σ196 σ197 t194 t195 hx188 hm189 hq208 fl190 hR191 k192 hB193 => ?_) (fun s273 k274 b283 σ275 t276 ho284 fl277 hR278 => ?_)
    · have hf198 := Fle.trans k187.f fl190
      obtain ⟨y199, y200, rfl, iv201⟩ := hR191
      obtain ⟨v202, r203, rfl⟩ := hB193
      have iv204 := Iv.ex iv201 k192
      have iv205 := Iv.sf iv204 2 (Ex.refl t195) r203 rfl
      have fl206 := Fle.trans (Fle.refl t195.F) (Ex.refl t195).f
      obtain ⟨hc209, hm189⟩ := chkE hm189
      obtain ⟨o210, ho211, hm189⟩ := bndE hm189
      refine do_forF (ρ := Bool) (υ := Unit) PassesOwn.never rfl (ei_range1 z_range (ev_len z_len (Ev.r (ev_var 0 rfl (Iv.fz (x := (rows147 : (List (List Int)))) iv205 0)))) hc209) (pg_name (i := 3) sc_is_straight.nd rfl (by first | exact Or.inl rfl | exact Or.inr rfl)) tg_n ho211 (fun (b212 : Unit) (σ' : L2.St) (t' : S) => ∃ (y_other : Option V), σ' = [some v148, some v173, some v202, y_other] ∧ Iv K (fun _ => False) s0 t' [fz v148 (rows147 : (List (List Int))), fz v173 (x155 : (List Int)), fz v202 (x185 : Int), top]) (fun s263 k264 => by have iv265 := Iv.ex iv205 k264; have fl266 := Fle.trans (Fle.refl t195.F) k264.f; exact ⟨_, rfl, Iv.sel iv265 [some 0, some 1, some 2, none] (by decide +kernel) (by kernel_rfl)⟩) (fun s215 k216 x214 b212 q235 σ225 σ226 t223 t224 hx217 hm218 hq236 fl219 hR220 k221 hB222 => ?_) (fun s257 k258 b267 σ259 t260 ho268 fl261 hR262 => ?_)
      · have hf227 := Fle.trans k216.f fl219
        obtain ⟨y228, rfl, iv229⟩ := hR220
        obtain ⟨v230, r231, rfl⟩ := hB222
        have iv232 := Iv.ex iv229 k221
        have iv233 := Iv.sf iv232 3 (Ex.refl t224) r231 rfl
        have fl234 := Fle.trans (Fle.refl t224.F) (Ex.refl t224).f
        obtain ⟨at237, h_at237, hm218⟩ := bndE hm218
        obtain ⟨at238, h_at238, hm218⟩ := bndE hm218
        obtain ⟨at239, h_at239, hm218⟩ := bndE hm218
        obtain ⟨at240, h_at240, hm218⟩ := bndE hm218
        refine do_ifR (EvB.t (eb_gt (ev_ix (Ev.r (ev_var 1 rfl (Iv.fz (x := (x155 : (List Int))) iv233 1))) (ev_var 3 rfl (Iv.fz (x := (x214 : Int)) iv233 3)) h_at237) (ev_add (ev_ix (Ev.r (ev_var 1 rfl (Iv.fz (x := (x155 : (List Int))) iv233 1))) (ev_var 2 rfl (Iv.fz (x := (x185 : Int)) iv233 2)) h_at238) (ev_ix (Ev.r (ev_ix (Ev.r (ev_var 0 rfl (Iv.fz (x := (rows147 : (List (List Int)))) iv233 0))) (ev_var 2 rfl (Iv.fz (x := (x185 : Int)) iv233 2)) h_at239)) (ev_var 3 rfl (Iv.fz (x := (x214 : Int)) iv233 3)) h_at240)))) (fun hb241 s242 e243 => ?_) (fun hb251 s252 e253 => ?_)
        · have hm244 := iteE1 hm218 hb241
          have iv245 := Iv.ex iv233 e243
          have fl246 := Fle.trans (Fle.refl t224.F) e243.f
          obtain rfl := Option.some.inj hm244
          obtain rfl := hq236 _ rfl
          obtain rfl := Option.some.inj hm189
          obtain rfl := hq208 _ rfl
          obtain rfl := Option.some.inj hm159
          obtain rfl := hq179 _ rfl
          obtain rfl := Option.some.inj hm
          exact do_ret ev_bl fun v247 s248 e249 r250 => hQ _ _ (Ex.trans (Iv.exx iv245) e249) r250
        · have hm254 := iteE2 hm218 hb251
          have iv255 := Iv.ex iv233 e253
          have fl256 := Fle.trans (Fle.refl t224.F) e253.f
          obtain rfl := Option.some.inj hm254
          exact do_nil ⟨s252, rfl, _, rfl, fl256, ⟨_, rfl, Iv.sel iv255 [some 0, some 1, some 2, none] (by decide +kernel) (by kernel_rfl)⟩⟩
      · subst ho268
        replace hm189 := goN hm189
        have hf269 := Fle.trans k258.f fl261
        obtain ⟨y270, rfl, iv271⟩ := hR262
        have fl272 := Fle.trans (Fle.refl t195.F) hf269
        obtain rfl := Option.some.inj hm189
        exact do_nil ⟨t260, rfl, _, rfl, fl272, ⟨_, _, rfl, Iv.sel iv271 [some 0, some 1, none, none] (by decide +kernel) (by kernel_rfl)⟩⟩
    · subst ho284
      replace hm159 := goN hm159
      have hf285 := Fle.trans k274.f fl277
      obtain ⟨y286, y287, rfl, iv288⟩ := hR278
      have fl289 := Fle.trans (Fle.refl t165.F) hf285
      obtain rfl := Option.some.inj hm159
      exact do_nil ⟨t276, rfl, _, rfl, fl289, ⟨_, _, _, rfl, Iv.sel iv288 [some 0, none, none, none] (by decide +kernel) (by kernel_rfl)⟩⟩
  · subst ho300
    replace hm := goN hm
    have hf301 := Fle.trans k291.f fl294
    obtain ⟨y302, y303, y304, rfl, iv305⟩ := hR295
    obtain rfl := Option.some.inj hm
    exact do_ret ev_bl fun v306 s307 e308 r309 => hQ _ _ (Ex.trans (Iv.exx iv305) e308) r309
abbrev s_is_made_of : Stmt := topS 34
abbrev N_is_made_of : List Str := ["text", "signs", "most", "sign"]
theorem sc_is_made_of : FnScope N_is_made_of ["text", "signs", "most"] (defScope s_is_made_of) := ⟨rfl, rfl, rfl, by decide +kernel, rfl, by decide +kernel, by decide +kernel⟩
noncomputable def m_is_made_of (text310 : Str) (signs313 : Str) (most316 : Int) : Option Bool :=
 (chk ((text310).length ≤ sizeLine) (if ((decide (((text310).length : Int) < (1 : Int))) || (decide (most316 < ((text310).length : Int)))) = true then
 (some false)
 else
 (bnd (foldF (ρ := Bool) (fun (b340 : Unit) (x342 : Str) =>
 (if (!inS x342 signs313) = true then
 (some (Fl.rt false))
 else
 (some (Fl.nx ())))) () (chars text310)) fun o338 =>
 (Fl.go o338 (fun b390 => (some true)) (fun rr => (some rr))))))
noncomputable abbrev a_is_made_of : Str × Str × Int × Unit → Option Bool := fun a => m_is_made_of a.1 a.2.1 a.2.2.1
theorem ok_is_made_of {P : Program} {w : World} {K : PySem.W.Frag} {mg : Str → Option Value} {base : Heap} {f : Addr} {fd : FuncData} (F : FunP K "is_made_of" s_is_made_of f fd) (hmg : mg "is_made_of" = some (.ref f)) (z_len : mg "len" = none) : Cal P w K mg base CX0 1 "is_made_of" (sp K a_is_made_of) := by
  refine mk_cal (k := 0) F hmg (F.bindsN fun _ _ _ _ _ _ us hl => match us, hl with | [_, _, _], _ => rfl) sc_is_made_of len3 ?_
  rintro cdv A' outer sh0 H0 X0 hr s0 vs ⟨text310, signs313, most316, _⟩ r0 Q ⟨v311, _, rfl, r312, v314, _, rfl, r315, v317, _, rfl, r318, rfl⟩ hm hQ
  unfold a_is_made_of m_is_made_of at hm
  dsimp only at hm
  have iv319 : Iv K (fun _ => False) s0 s0 [fz v311 (text310 : Str), fz v314 (signs313 : Str), fz v317 (most316 : Int), top] := (Iv.sf (Iv.sf (Iv.sf (Iv.tops (K := K) (P0 := (fun _ => False)) 4 s0) 0 (Ex.refl s0) r312 rfl) 1 (Ex.refl s0) r315 rfl) 2 (Ex.refl s0) r318 rfl)
  obtain ⟨hc322, hm⟩ := chkE hm
  refine do_ifR (EvW.tt (EvC.w (ec_or (eb_lt (ev_lenS z_len hc322 (ev_var 0 rfl (Iv.fz (x := (text310 : Str)) iv319 0))) ev_int) fun _ => (ec_or1 (eb_gt (ev_lenS z_len hc322 (ev_var 0 rfl (Iv.fz (x := (text310 : Str)) iv319 0))) (ev_var 2 rfl (Iv.fz (x := (most316 : Int)) iv319 2))))))) (fun hb324 s325 e326 => ?_) (fun hb333 s334 e335 => ?_)
  · have hm327 := iteE1 hm hb324
    have iv328 := Iv.ex iv319 e326
    obtain rfl := Option.some.inj hm327
    exact do_ret ev_bl fun v329 s330 e331 r332 => hQ _ _ (Ex.trans (Iv.exx iv328) e331) r332
  · have hm336 := iteE2 hm hb333
    have iv337 := Iv.ex iv319 e335
    obtain ⟨o338, ho339, hm336⟩ := bndE hm336
    refine do_forF (ρ := Bool) (υ := Unit) PassesOwn.never rfl (ei_str (ev_var 0 rfl (Iv.fz (x := (text310 : Str)) iv337 0))) (pg_name (i := 3) sc_is_made_of.nd rfl (by first | exact Or.inl rfl | exact Or.inr rfl)) tg_n ho339 (fun (b340 : Unit) (σ' : L2.St) (t' : S) => ∃ (y_sign : Option V), σ' = [some v311, some v314, some v317, y_sign] ∧ Iv K (fun _ => False) s0 t' [fz v311 (text310 : Str), fz v314 (signs313 : Str), fz v317 (most316 : Int), top]) (fun s387 k388 => by have iv389 := Iv.ex iv337 k388; exact ⟨_, rfl, Iv.sel iv389 [some 0, some 1, some 2, none] (by decide +kernel) (by kernel_rfl)⟩) (fun s343 k344 x342 b340 q363 σ353 σ354 t351 t352 hx345 hm346 hq364 fl347 hR348 k349 hB350 => ?_) (fun s381 k382 b390 σ383 t384 ho391 fl385 hR386 => ?_)
    · have hf355 := Fle.trans k344.f fl347
      obtain ⟨y356, rfl, iv357⟩ := hR348
      obtain ⟨v358, r359, rfl⟩ := hB350
      have iv360 := Iv.ex iv357 k349
      have iv361 := Iv.sf iv360 3 (Ex.refl t352) r359 rfl
      have fl362 := Fle.trans (Fle.refl t352.F) (Ex.refl t352).f
      refine do_ifR (EvB.t (eb_notInS (ev_var 3 rfl (Iv.fz (x := (x342 : Str)) iv361 3)) (ev_var 1 rfl (Iv.fz (x := (signs313 : Str)) iv361 1)))) (fun hb365 s366 e367 => ?_) (fun hb375 s376 e377 => ?_)
      · have hm368 := iteE1 hm346 hb365
        have iv369 := Iv.ex iv361 e367
        have fl370 := Fle.trans (Fle.refl t352.F) e367.f
        obtain rfl := Option.some.inj hm368
        obtain rfl := hq364 _ rfl
        obtain rfl := Option.some.inj hm336
        exact do_ret ev_bl fun v371 s372 e373 r374 => hQ _ _ (Ex.trans (Iv.exx iv369) e373) r374
      · have hm378 := iteE2 hm346 hb375
        have iv379 := Iv.ex iv361 e377
        have fl380 := Fle.trans (Fle.refl t352.F) e377.f
        obtain rfl := Option.some.inj hm378
        exact do_nil ⟨s376, rfl, _, rfl, fl380, ⟨_, rfl, Iv.sel iv379 [some 0, some 1, some 2, none] (by decide +kernel) (by kernel_rfl)⟩⟩
    · subst ho391
      replace hm336 := goN hm336
      have hf392 := Fle.trans k382.f fl385
      obtain ⟨y393, rfl, iv394⟩ := hR386
      obtain rfl := Option.some.inj hm336
      exact do_ret ev_bl fun v395 s396 e397 r398 => hQ _ _ (Ex.trans (Iv.exx iv394) e397) r398
abbrev s_is_name : Stmt := topS 35
abbrev N_is_name : List Str := ["text"]
theorem sc_is_name : FnScope N_is_name ["text"] (defScope s_is_name) := ⟨rfl, rfl, rfl, by decide +kernel, rfl, by decide +kernel, by decide +kernel⟩
noncomputable def m_is_name (text399 : Str) : Option Bool :=
 (bnd (m_is_made_of text399 c_LETTERS (10 : Int)) fun is_made_of404 => (some is_made_of404))
noncomputable abbrev a_is_name : Str × Unit → Option Bool := fun a => m_is_name a.1
theorem ok_is_name {P : Program} {w : World} {K : PySem.W.Frag} {mg : Str → Option Value} {base : Heap} {f : Addr} {fd : FuncData} (F : FunP K "is_name" s_is_name f fd) (hmg : mg "is_name" = some (.ref f)) (C_is_made_of : Cal P w K mg base CX0 1 "is_made_of" (sp K a_is_made_of)) (G_LETTERS : ∃ v u, mg "LETTERS" = some u ∧ RelV v u ∧ ∀ F, rep K F v c_LETTERS) : Cal P w K mg base CX0 2 "is_name" (sp K a_is_name) := by
  refine mk_cal (k := 1) F hmg (F.bindsN fun _ _ _ _ _ _ us hl => match us, hl with | [_], _ => rfl) sc_is_name len1 ?_
  rintro cdv A' outer sh0 H0 X0 hr s0 vs ⟨text399, _⟩ r0 Q ⟨v400, _, rfl, r401, rfl⟩ hm hQ
  unfold a_is_name m_is_name at hm
  dsimp only at hm
  have iv402 : Iv K (fun _ => False) s0 s0 [fz v400 (text399 : Str)] := (Iv.sf (Iv.tops (K := K) (P0 := (fun _ => False)) 1 s0) 0 (Ex.refl s0) r401 rfl)
  obtain ⟨is_made_of404, h_is_made_of404, hm⟩ := bndE hm
  obtain rfl := Option.some.inj hm
  exact do_ret (ev_call C_is_made_of hr (by decide) (ea_cons (ev_var 0 rfl (Iv.fz (x := (text399 : Str)) iv402 0)) (ea_cons (ev_glob G_LETTERS) (ea_cons ev_int ea_nil))) h_is_made_of404) fun v405 s406 e407 r408 => hQ _ _ (Ex.trans (Iv.exx iv402) e407) r408
abbrev s_Times_init : Stmt := clsS 39 0
def pre_Times_init : List V → (List Str) × (List (List Int)) × Unit → List OA → List OA → Prop := fun vs x L R => ∃ (aself : Addr) (anames : V) (arows : V), vs = [(.ref aself), anames, arows] ∧ L = [cell aself "Times" [], fz anames (x.1 : (List Str)), fz arows (x.2.1 : (List (List Int)))] ∧ R = []
def ok_Times_init : List V → (List Str) × (List (List Int)) × Unit → Rz (R_Times) → V → List OA → Prop := fun vs x o v L' => ∃ (aself : Addr) (anames : V) (arows : V), vs = [(.ref aself), anames, arows] ∧ ∃ r : (R_Times), o = Rz.ok r ∧ (∃ (bself_my_names : V) (bself_my_rows : V), v = .non ∧ L' = [cell aself "Times" [("my_names", bself_my_names), ("my_rows", bself_my_rows)], fz bself_my_names (r.my_names : (List Str)), fz bself_my_rows (r.my_rows : (List (List Int)))])
def er_Times_init : List V → (List Str) × (List (List Int)) × Unit → Rz (R_Times) → Er → List OA → Prop := fun vs x o e L' => ∃ (aself : Addr) (anames : V) (arows : V), vs = [(.ref aself), anames, arows] ∧ o = Rz.er e ∧ L' = [cell aself "Times" []]
abbrev N_Times_init : List Str := ["self", "names", "rows", "row", "one"]
theorem sc_Times_init : FnScope N_Times_init ["self", "names", "rows"] (defScope s_Times_init) := ⟨rfl, rfl, rfl, by decide +kernel, rfl, by decide +kernel, by decide +kernel⟩
noncomputable def m_Times_init (names409 : (List Str)) (rows410 : (List (List Int))) : Option (Rz (R_Times)) :=
 (bnd (orO (decide (((names409).length : Int) < (1 : Int))) (orO (decide ((12 : Int) < ((names409).length : Int))) (chk ((names409).length ≤ 4000) (some (!decide ((((ddS names409).length : Nat) : Int) = ((names409).length : Int))))))) fun c417 => (if c417 = true then
 (some (Rz.er (Er.pl "NoTimes")))
 else
 (bnd (mapO (fun (x475 : Str) => (bnd (m_is_name x475) fun is_name487 => (some is_name487))) names409) fun ys488 => (chk ((ys488).length ≤ sizeLine) (if (!((ys488).all id)) = true then
 (some (Rz.er (Er.pl "NoTimes")))
 else
 (bnd (m_is_square names409 rows410) fun is_square507 => (bnd (orO (!is_square507) (bnd (m_is_straight rows410) fun is_straight511 => (some (!is_straight511)))) fun c512 => (if c512 = true then
 (some (Rz.er (Er.pl "NoTimes")))
 else
 (chk (((List.map (fun (x530 : (List Int)) => x530) rows410)).length ≤ sizeLine) (some (Rz.ok (⟨names409, (List.map (fun (x530 : (List Int)) => x530) rows410)⟩ : R_Times))))))))))))
noncomputable abbrev a_Times_init : (List Str) × (List (List Int)) × Unit → Option (Rz (R_Times)) := fun x => m_Times_init x.1 x.2.1
theorem ok_Times_init_fn {P : Program} {w : World} {K : PySem.W.Frag} {mg : Str → Option Value} {base : Heap} {f : Addr} {fd : FuncData} (F : FunM K "__init__" "Times.__init__" s_Times_init f fd) (C_is_name : Cal P w K mg base CX0 2 "is_name" (sp K a_is_name)) (C_is_square : Cal P w K mg base CX0 1 "is_square" (sp K a_is_square)) (C_is_straight : Cal P w K mg base CX0 1 "is_straight" (sp K a_is_straight)) (z_len : mg "len" = none) (z_set : mg "set" = none) (z_all : mg "all" = none) (z_list : mg "list" = none) (T_NoTimes : ExcF K mg "NoTimes") (CL_Times : ClsF K "Times" ["my_names", "my_rows"] ["__init__", "names", "time"]) : FnOk P w K mg base (L2.CX P w) 3 f fd ["self", "names", "rows"] (spI K pre_Times_init a_Times_init ok_Times_init er_Times_init) := by
  refine mk_IX (k := 2) F sc_Times_init (fun vs a L R h => by obtain ⟨_, _, _, rfl, _⟩ := h; rfl) ?_
  rintro cdv A' outer sh0 H0 X0 hr s0 P0 L0 R0 vs ⟨names409, rows410, _⟩ o0 Q ⟨aself, anames, arows, rfl, rfl, rfl⟩ iv411 ro hm hQ hE
  unfold a_Times_init m_Times_init at hm
  try dsimp only at hm
  have iv412 : Iv K P0 s0 s0 [cell aself "Times" [], fz anames (names409 : (List Str)), fz arows (rows410 : (List (List Int))), top, top, top, top] := Iv.sel iv411 [some 0, some 1, some 2, none, none, none, none] (by decide +kernel) (by kernel_rfl)
  obtain ⟨c417, h_c417, hm⟩ := bndE hm
  refine do_ifR (EvW.tt (EvC.w (by skip; exact ec_orO (eb_lt (ev_len z_len (Ev.r (ev_var 1 rfl (Iv.fz (x := (names409 : (List Str))) iv412 1)))) ev_int) (fun hb418 => (fun hz => (by skip; exact ec_orO (eb_gt (ev_len z_len (Ev.r (ev_var 1 rfl (Iv.fz (x := (names409 : (List Str))) iv412 1)))) ev_int) (fun hb419 => (fun hz => (by obtain ⟨hc416, hz⟩ := chkE hz; obtain rfl := Option.some.inj hz; exact (ec_or1 (eb_ne (ev_dszS z_len z_set (Ev.r (ev_var 1 rfl (Iv.fz (x := (names409 : (List Str))) iv412 1))) hc416) (ev_len z_len (Ev.r (ev_var 1 rfl (Iv.fz (x := (names409 : (List Str))) iv412 1)))))))) ((orE hz).1 hb419)) (orE hz).2)) ((orE h_c417).1 hb418)) (orE h_c417).2))) (fun hb420 s421 e422 => ?_) (fun hb425 s426 e427 => ?_)
  · have hm423 := iteE1 hm hb420
    have iv424 := Iv.ex iv412 e422
    obtain rfl := Option.some.inj hm423
    exact do_raise0 T_NoTimes (takes_of rfl rfl rfl rfl) (hE _ _ _ _ _ ⟨aself, anames, arows, rfl, rfl, rfl⟩ (Iv.sel iv424 [some 0] (by decide +kernel) (by kernel_rfl)) ⟨rfl, rfl⟩)
  · have hm428 := iteE2 hm hb425
    have iv429 := Iv.ex iv412 e427
    obtain ⟨ys488, h_ys488, hm428⟩ := bndE hm428
    obtain ⟨hc489, hm428⟩ := chkE hm428
    refine do_ifR (EvB.t (eb_not (eb_v (ev_all z_all (EvN.r (EvL.n (en_comp0 (own := [("one", 4)]) (j := 4) (f := fun (x475 : Str) => (bnd (m_is_name x475) fun is_name487 => (some is_name487))) rfl sc_Times_init.nd (ei_list (ev_var 1 rfl (Iv.fz (x := (names409 : (List Str))) iv429 1))) (blkOk_by (own := [("one", 4)]) (N := N_Times_init) (sc := defScope s_Times_init) (by decide +kernel)) rfl (by decide) (fun _ _ _ _ _ => pg_name (i := 4) sc_Times_init.nd rfl (by first | exact Or.inl rfl | exact Or.inr rfl)) h_ys488 hc489 (fun x475 y476 v484 s477 hx479 e478 r485 hf480 _ _ _ _ _ => by obtain ⟨is_name487, h_is_name487, hf480⟩ := bndE hf480; obtain rfl := Option.some.inj hf480; exact (ev_call C_is_name hr (by decide) (ea_cons (ev_var 4 rfl r485) ea_nil) h_is_name487))))))))) (fun hb490 s491 e492 => ?_) (fun hb495 s496 e497 => ?_)
    · have hm493 := iteE1 hm428 hb490
      have iv494 := Iv.ex iv429 e492
      obtain rfl := Option.some.inj hm493
      exact do_raise0 T_NoTimes (takes_of rfl rfl rfl rfl) (hE _ _ _ _ _ ⟨aself, anames, arows, rfl, rfl, rfl⟩ (Iv.sel iv494 [some 0] (by decide +kernel) (by kernel_rfl)) ⟨rfl, rfl⟩)
    · have hm498 := iteE2 hm428 hb495
      have iv499 := Iv.ex iv429 e497
      obtain ⟨is_square507, h_is_square507, hm498⟩ := bndE hm498
      obtain ⟨c512, h_c512, hm498⟩ := bndE hm498
      refine do_ifR (EvW.tt (EvC.w (by skip; exact ec_orO (eb_not (eb_v (ev_call C_is_square hr (by decide) (ea_cons (ev_var 1 rfl (Iv.fz (x := (names409 : (List Str))) iv499 1)) (ea_cons (ev_var 2 rfl (Iv.fz (x := (rows410 : (List (List Int)))) iv499 2)) ea_nil)) h_is_square507))) (fun hb513 => (fun hz => (by obtain ⟨is_straight511, h_is_straight511, hz⟩ := bndE hz; obtain rfl := Option.some.inj hz; exact (ec_or1 (eb_not (eb_v (ev_call C_is_straight hr (by decide) (ea_cons (ev_var 2 rfl (Iv.fz (x := (rows410 : (List (List Int)))) iv499 2)) ea_nil) h_is_straight511)))))) ((orE h_c512).1 hb513)) (orE h_c512).2))) (fun hb514 s515 e516 => ?_) (fun hb519 s520 e521 => ?_)
      · have hm517 := iteE1 hm498 hb514
        have iv518 := Iv.ex iv499 e516
        obtain rfl := Option.some.inj hm517
        exact do_raise0 T_NoTimes (takes_of rfl rfl rfl rfl) (hE _ _ _ _ _ ⟨aself, anames, arows, rfl, rfl, rfl⟩ (Iv.sel iv518 [some 0] (by decide +kernel) (by kernel_rfl)) ⟨rfl, rfl⟩)
      · have hm522 := iteE2 hm498 hb519
        have iv523 := Iv.ex iv499 e521
        refine do_fldG iv523 0 rfl (raw_var 0 rfl) (eg_ev (EvN.ev (en_copy z_list (Ev.r (ev_var 1 rfl (Iv.fz (x := (names409 : (List Str))) iv523 1)))))) CL_Times.cl (CL_Times.na "my_names" (by simp)) (by simp) (fun v524 s525 L526 z528 hf_iv527 iv527 => ?_)
        obtain rfl := z528
        have iv529 : Iv K P0 s0 s525 [cell aself "Times" [("my_names", v524)], fz anames (names409 : (List Str)), fz arows (rows410 : (List (List Int))), top, top, fz v524 (names409 : (List Str)), top] := Iv.sel iv527 [some 0, some 1, some 2, none, none, some 7, none] (by decide +kernel) (by kernel_rfl)
        obtain ⟨hc542, hm522⟩ := chkE hm522
        refine do_fldG iv529 0 rfl (raw_var 0 rfl) (eg_ev (EvN.ev (EvL.n (en_comp0 (own := [("row", 3)]) (j := 3) (f := fun (x530 : (List Int)) => (some x530)) rfl sc_Times_init.nd (ei_list (ev_var 2 rfl (Iv.fz (x := (rows410 : (List (List Int)))) iv529 2))) (blkOk_by (own := [("row", 3)]) (N := N_Times_init) (sc := defScope s_Times_init) (by decide +kernel)) rfl (by decide) (fun _ _ _ _ _ => pg_name (i := 3) sc_Times_init.nd rfl (by first | exact Or.inl rfl | exact Or.inr rfl)) (compO_map (fun (x530 : (List Int)) => x530) rows410) hc542 (fun x530 y531 v540 s532 hx534 e533 r541 hf535 _ _ _ _ _ => by obtain rfl := Option.some.inj hf535; exact (EvN.ev (en_copy z_list (Ev.r (ev_var 3 rfl r541))))))))) CL_Times.cl (CL_Times.na "my_rows" (by simp)) (by simp) (fun v543 s544 L545 z547 hf_iv546 iv546 => ?_)
        obtain rfl := z547
        have iv548 : Iv K P0 s0 s544 [cell aself "Times" [("my_names", v524), ("my_rows", v543)], fz anames (names409 : (List Str)), fz arows (rows410 : (List (List Int))), top, top, fz v524 (names409 : (List Str)), fz v543 ((List.map (fun (x530 : (List Int)) => x530) rows410) : (List (List Int)))] := Iv.sel iv546 [some 0, some 1, some 2, none, none, some 5, some 7] (by decide +kernel) (by kernel_rfl)
        obtain rfl := Option.some.inj hm522
        exact do_nil (hQ _ _ _ ⟨aself, anames, arows, rfl, _, rfl, v524, v543, rfl, rfl⟩ (Iv.sel iv548 [some 0, some 5, some 6] (by decide +kernel) (by kernel_rfl)))
abbrev s_asked_bars : Stmt := topS 16
abbrev N_asked_bars : List Str := ["bars"]
theorem sc_asked_bars : FnScope N_asked_bars ["bars"] (defScope s_asked_bars) := ⟨rfl, rfl, rfl, by decide +kernel, rfl, by decide +kernel, by decide +kernel⟩
noncomputable def m_asked_bars (bars549 : (List Int)) : Option (Rz Bool) :=
 (bnd (orO (decide (((bars549).length : Int) < (1 : Int))) (orO (decide ((200 : Int) < ((bars549).length : Int))) (bnd (minL bars549) fun min554 => (some (decide (min554 < (0 : Int))))))) fun c555 => (if c555 = true then
 (some (Rz.er (Er.pl "NoBars")))
 else
 (some (Rz.ok true))))
noncomputable abbrev a_asked_bars : (List Int) × Unit → Option (Rz Bool) := fun a => m_asked_bars a.1
theorem ok_asked_bars {P : Program} {w : World} {K : PySem.W.Frag} {mg : Str → Option Value} {base : Heap} {f : Addr} {fd : FuncData} (F : FunP K "asked_bars" s_asked_bars f fd) (hmg : mg "asked_bars" = some (.ref f)) (z_len : mg "len" = none) (z_min : mg "min" = none) (T_NoBars : ExcF K mg "NoBars") : Cal P w K mg base (L2.CX P w) 1 "asked_bars" (spR K a_asked_bars) := by
  refine mk_calR (k := 0) F hmg (F.bindsN fun _ _ _ _ _ _ us hl => match us, hl with | [_], _ => rfl) sc_asked_bars len1 ?_
  rintro cdv A' outer sh0 H0 X0 hr s0 vs ⟨bars549, _⟩ r0 Q ⟨v550, _, rfl, r551, rfl⟩ hm hQ
  unfold a_asked_bars m_asked_bars at hm
  dsimp only at hm
  have iv552 : Iv K (fun _ => False) s0 s0 [fz v550 (bars549 : (List Int))] := (Iv.sf (Iv.tops (K := K) (P0 := (fun _ => False)) 1 s0) 0 (Ex.refl s0) r551 rfl)
  obtain ⟨c555, h_c555, hm⟩ := bndE hm
  refine do_ifR (EvW.tt (EvC.w (by skip; exact ec_orO (eb_lt (ev_len z_len (Ev.r (ev_var 0 rfl (Iv.fz (x := (bars549 : (List Int))) iv552 0)))) ev_int) (fun hb556 => (fun hz => (by skip; exact ec_orO (eb_gt (ev_len z_len (Ev.r (ev_var 0 rfl (Iv.fz (x := (bars549 : (List Int))) iv552 0)))) ev_int) (fun hb557 => (fun hz => (by obtain ⟨min554, h_min554, hz⟩ := bndE hz; obtain rfl := Option.some.inj hz; exact (ec_or1 (eb_lt (ev_min z_min (Ev.r (ev_var 0 rfl (Iv.fz (x := (bars549 : (List Int))) iv552 0))) h_min554) ev_int)))) ((orE hz).1 hb557)) (orE hz).2)) ((orE h_c555).1 hb556)) (orE h_c555).2))) (fun hb558 s559 e560 => ?_) (fun hb563 s564 e565 => ?_)
  · have hm561 := iteE1 hm hb558
    have iv562 := Iv.ex iv552 e560
    obtain rfl := Option.some.inj hm561
    exact do_raise0 T_NoBars (takes_of rfl rfl rfl rfl) (hQ _ _ _ (Iv.exx iv562) ⟨rfl, rfl⟩)
  · have hm566 := iteE2 hm hb563
    have iv567 := Iv.ex iv552 e565
    obtain rfl := Option.some.inj hm566
    exact do_ret ev_bl fun v568 s569 e570 r571 => hQ _ _ (Ex.trans (Iv.exx iv567) e570) r571
abbrev s_asked_break : Stmt := topS 17
abbrev N_asked_break : List Str := ["bars", "place"]
theorem sc_asked_break : FnScope N_asked_break ["bars", "place"] (defScope s_asked_break) := ⟨rfl, rfl, rfl, by decide +kernel, rfl, by decide +kernel, by decide +kernel⟩
noncomputable def m_asked_break (bars572 : (List Int)) (place575 : Int) : Option (Rz Unit) :=
 (if ((decide (place575 < (1 : Int))) || (decide (((bars572).length : Int) ≤ place575))) = true then
 (some (Rz.er (Er.pi "NoBreak" "place" place575)))
 else
 (some (Rz.ok ())))
noncomputable abbrev a_asked_break : (List Int) × Int × Unit → Option (Rz Unit) := fun a => m_asked_break a.1 a.2.1
theorem ok_asked_break {P : Program} {w : World} {K : PySem.W.Frag} {mg : Str → Option Value} {base : Heap} {f : Addr} {fd : FuncData} (F : FunP K "asked_break" s_asked_break f fd) (hmg : mg "asked_break" = some (.ref f)) (z_len : mg "len" = none) (N_NoBreak : mg "NoBreak" = some (.ref (He.ga K "NoBreak"))) (P_NoBreak : PayF K "NoBreak" "place") (I_NoBreak : InitOk P w K mg base "NoBreak" "place") : Cal P w K mg base (L2.CX P w) 3 "asked_break" (spR K a_asked_break) := by
  refine mk_calR (k := 2) F hmg (F.bindsN fun _ _ _ _ _ _ us hl => match us, hl with | [_, _], _ => rfl) sc_asked_break len2 ?_
  rintro cdv A' outer sh0 H0 X0 hr s0 vs ⟨bars572, place575, _⟩ r0 Q ⟨v573, _, rfl, r574, v576, _, rfl, r577, rfl⟩ hm hQ
  unfold a_asked_break m_asked_break at hm
  dsimp only at hm
  have iv578 : Iv K (fun _ => False) s0 s0 [fz v573 (bars572 : (List Int)), fz v576 (place575 : Int)] := (Iv.sf (Iv.sf (Iv.tops (K := K) (P0 := (fun _ => False)) 2 s0) 0 (Ex.refl s0) r574 rfl) 1 (Ex.refl s0) r577 rfl)
  refine do_ifR (EvW.tt (EvC.w (ec_or (eb_lt (ev_var 1 rfl (Iv.fz (x := (place575 : Int)) iv578 1)) ev_int) fun _ => (ec_or1 (eb_ge (ev_var 1 rfl (Iv.fz (x := (place575 : Int)) iv578 1)) (ev_len z_len (Ev.r (ev_var 0 rfl (Iv.fz (x := (bars572 : (List Int))) iv578 0))))))))) (fun hb579 s580 e581 => ?_) (fun hb588 s589 e590 => ?_)
  · have hm582 := iteE1 hm hb579
    have iv583 := Iv.ex iv578 e581
    obtain rfl := Option.some.inj hm582
    obtain ⟨fd584, ps585, F586, B587⟩ := I_NoBreak
    exact do_raiseI P_NoBreak N_NoBreak F586 B587 (takes_of rfl rfl rfl rfl) hr (by decide) (ev_var 1 rfl (Iv.fz (x := (place575 : Int)) iv583 1)) (fun d s1 k1 z => hQ _ _ _ (Ex.trans (Iv.exx iv583) k1) ⟨rfl, d, rfl, z⟩)
  · have hm591 := iteE2 hm hb588
    have iv592 := Iv.ex iv578 e590
    obtain rfl := Option.some.inj hm591
    exact do_nil (hQ _ _ (Iv.exx iv592) rfl)
abbrev s_played_in : Stmt := topS 18
abbrev N_played_in : List Str := ["bars", "first", "end"]
theorem sc_played_in : FnScope N_played_in ["bars", "first", "end"] (defScope s_played_in) := ⟨rfl, rfl, rfl, by decide +kernel, rfl, by decide +kernel, by decide +kernel⟩
noncomputable def m_played_in (bars593 : (List Int)) (first596 : Int) (end599 : Int) : Option Int :=
 (some ((cut bars593 (some (max (0 : Int) first596)) (some (max (0 : Int) end599)))).sum)
noncomputable abbrev a_played_in : (List Int) × Int × Int × Unit → Option Int := fun a => m_played_in a.1 a.2.1 a.2.2.1
theorem ok_played_in {P : Program} {w : World} {K : PySem.W.Frag} {mg : Str → Option Value} {base : Heap} {f : Addr} {fd : FuncData} (F : FunP K "played_in" s_played_in f fd) (hmg : mg "played_in" = some (.ref f)) (z_sum : mg "sum" = none) (z_max : mg "max" = none) : Cal P w K mg base CX0 1 "played_in" (sp K a_played_in) := by
  refine mk_cal (k := 0) F hmg (F.bindsN fun _ _ _ _ _ _ us hl => match us, hl with | [_, _, _], _ => rfl) sc_played_in len3 ?_
  rintro cdv A' outer sh0 H0 X0 hr s0 vs ⟨bars593, first596, end599, _⟩ r0 Q ⟨v594, _, rfl, r595, v597, _, rfl, r598, v600, _, rfl, r601, rfl⟩ hm hQ
  unfold a_played_in m_played_in at hm
  dsimp only at hm
  have iv602 : Iv K (fun _ => False) s0 s0 [fz v594 (bars593 : (List Int)), fz v597 (first596 : Int), fz v600 (end599 : Int)] := (Iv.sf (Iv.sf (Iv.sf (Iv.tops (K := K) (P0 := (fun _ => False)) 3 s0) 0 (Ex.refl s0) r595 rfl) 1 (Ex.refl s0) r598 rfl) 2 (Ex.refl s0) r601 rfl)
  obtain rfl := Option.some.inj hm
  exact do_ret (ev_sum z_sum (EvN.r (en_slice (Ev.r (ev_var 0 rfl (Iv.fz (x := (bars593 : (List Int))) iv602 0))) (eo_some (ev_max2 z_max ev_int (ev_var 1 rfl (Iv.fz (x := (first596 : Int)) iv602 1)))) (eo_some (ev_max2 z_max ev_int (ev_var 2 rfl (Iv.fz (x := (end599 : Int)) iv602 2))))))) fun v603 s604 e605 r606 => hQ _ _ (Ex.trans (Iv.exx iv602) e605) r606
abbrev s_window_at : Stmt := topS 19
abbrev N_window_at : List Str := ["bars", "need", "place", "first", "begin"]
theorem sc_window_at : FnScope N_window_at ["bars", "need", "place"] (defScope s_window_at) := ⟨rfl, rfl, rfl, by decide +kernel, rfl, by decide +kernel, by decide +kernel⟩
noncomputable def m_window_at (bars607 : (List Int)) (need610 : Int) (place613 : Int) : Option (Rz (Int × Int)) :=
 (tb (m_asked_bars bars607) (fun er618 => (some (Rz.er er618))) fun asked_bars617 => (tb (m_asked_break bars607 place613) (fun er624 => (some (Rz.er er624))) fun asked_break623 => (lt ((place613 - need610) : Int) fun first629 =>
 (chk (RgB ((place613 - need610) + (1 : Int))) (chk (RgB (place613 + (1 : Int))) (bnd (foldO (fun (b640 : Int) (x642 : Int) =>
 (bnd (m_played_in bars607 x642 (x642 + need610)) fun played_in664 => (bnd (m_played_in bars607 b640 (b640 + need610)) fun played_in665 => (bnd (if (decide (played_in664 < played_in665)) = true then
 (lt (x642 : Int) fun first695 =>
 (some first695))
 else
 (some b640) : Option (Int)) fun b686 =>
 (some b686))))) first629 (rng ((place613 - need610) + (1 : Int)) (place613 + (1 : Int)))) fun o638 =>
 (some (Rz.ok (o638, (o638 + need610))))))))))
noncomputable abbrev a_window_at : (List Int) × Int × Int × Unit → Option (Rz (Int × Int)) := fun a => m_window_at a.1 a.2.1 a.2.2.1
theorem ok_window_at {P : Program} {w : World} {K : PySem.W.Frag} {mg : Str → Option Value} {base : Heap} {f : Addr} {fd : FuncData} (F : FunP K "window_at" s_window_at f fd) (hmg : mg "window_at" = some (.ref f)) (C_asked_bars : Cal P w K mg base (L2.CX P w) 1 "asked_bars" (spR K a_asked_bars)) (C_asked_break : Cal P w K mg base (L2.CX P w) 3 "asked_break" (spR K a_asked_break)) (C_played_in : Cal P w K mg base CX0 1 "played_in" (sp K a_played_in)) (z_range : mg "range" = none) : Cal P w K mg base (L2.CX P w) 4 "window_at" (spR K a_window_at) := by
  refine mk_calR (k := 3) F hmg (F.bindsN fun _ _ _ _ _ _ us hl => match us, hl with | [_, _, _], _ => rfl) sc_window_at len3 ?_
  rintro cdv A' outer sh0 H0 X0 hr s0 vs ⟨bars607, need610, place613, _⟩ r0 Q ⟨v608, _, rfl, r609, v611, _, rfl, r612, v614, _, rfl, r615, rfl⟩ hm hQ
  unfold a_window_at m_window_at at hm
  dsimp only at hm
  have iv616 : Iv K (fun _ => False) s0 s0 [fz v608 (bars607 : (List Int)), fz v611 (need610 : Int), fz v614 (place613 : Int), top, top] := (Iv.sf (Iv.sf (Iv.sf (Iv.tops (K := K) (P0 := (fun _ => False)) 5 s0) 0 (Ex.refl s0) r609 rfl) 1 (Ex.refl s0) r612 rfl) 2 (Ex.refl s0) r615 rfl)
  rcases tbE hm with ⟨er618, he619, hm⟩ | ⟨asked_bars617, h_asked_bars617, hm⟩
  · obtain rfl := Option.some.inj hm
    refine do_dropX (evX_call C_asked_bars (takes_of rfl rfl rfl rfl) hr (by decide) (ea_cons (ev_var 0 rfl (Iv.fz (x := (bars607 : (List Int))) iv616 0)) ea_nil) he619 (fun a1 a2 a3 k2 r2 => hQ a1 a2 a3 (Ex.trans (Iv.exx iv616) k2) r2))
  refine do_drop (ev_callR C_asked_bars hr (by decide) (ea_cons (ev_var 0 rfl (Iv.fz (x := (bars607 : (List Int))) iv616 0)) ea_nil) h_asked_bars617) (fun s620 e621 => ?_)
  have iv622 := Iv.ex iv616 e621
  rcases tbE hm with ⟨er624, he625, hm⟩ | ⟨asked_break623, h_asked_break623, hm⟩
  · obtain rfl := Option.some.inj hm
    refine do_dropX (evX_call C_asked_break (takes_of rfl rfl rfl rfl) hr (by decide) (ea_cons (ev_var 0 rfl (Iv.fz (x := (bars607 : (List Int))) iv622 0)) (ea_cons (ev_var 2 rfl (Iv.fz (x := (place613 : Int)) iv622 2)) ea_nil)) he625 (fun a1 a2 a3 k2 r2 => hQ a1 a2 a3 (Ex.trans (Iv.exx iv622) k2) r2))
  refine do_drop (ev_callR C_asked_break hr (by decide) (ea_cons (ev_var 0 rfl (Iv.fz (x := (bars607 : (List Int))) iv622 0)) (ea_cons (ev_var 2 rfl (Iv.fz (x := (place613 : Int)) iv622 2)) ea_nil)) h_asked_break623) (fun s626 e627 => ?_)
  have iv628 := Iv.ex iv622 e627
  refine do_set 3 (ev_sub (ev_var 2 rfl (Iv.fz (x := (place613 : Int)) iv628 2)) (ev_var 1 rfl (Iv.fz (x := (need610 : Int)) iv628 1))) (fun v633 s631 e632 r634 => ?_) sc_window_at.nd
  obtain ⟨first629, q630, hm⟩ := ltE hm
  have iv635 := Iv.sf iv628 3 e632 r634 q630
  obtain ⟨hc636, hm⟩ := chkE hm
  obtain ⟨hc637, hm⟩ := chkE hm
  obtain ⟨o638, ho639, hm⟩ := bndE hm
  refine do_forO (υ := Int) (passes_of rfl) rfl (ei_range2 z_range (ev_add (ev_sub (ev_var 2 rfl (Iv.fz (x := (place613 : Int)) iv635 2)) (ev_var 1 rfl (Iv.fz (x := (need610 : Int)) iv635 1))) ev_int) (ev_add (ev_var 2 rfl (Iv.fz (x := (place613 : Int)) iv635 2)) ev_int) hc636 hc637) (pg_name (i := 4) sc_window_at.nd rfl (by first | exact Or.inl rfl | exact Or.inr rfl)) tg_n ho639 (fun (b640 : Int) (σ' : L2.St) (t' : S) => ∃ (v_first : V) (y_begin : Option V), σ' = [some v608, some v611, some v614, some v_first, y_begin] ∧ Iv K (fun _ => False) s0 t' [fz v608 (bars607 : (List Int)), fz v611 (need610 : Int), fz v614 (place613 : Int), fz v_first (b640 : Int), top]) (fun s725 k726 => by have iv727 := Iv.ex iv635 k726; exact ⟨v633, _, rfl, Iv.sel iv727 [some 0, some 1, some 2, some 3, none] (by decide +kernel) (by kernel_rfl)⟩) (fun s643 k644 x642 b640 b641 σ653 σ654 t651 t652 hx645 hm646 fl647 hR648 k649 hB650 => ?_) (fun s719 k720 σ721 t722 fl723 hR724 => ?_)
  · have hf655 := Fle.trans k644.f fl647
    obtain ⟨v656, y657, rfl, iv658⟩ := hR648
    obtain ⟨v659, r660, rfl⟩ := hB650
    have iv661 := Iv.ex iv658 k649
    have iv662 := Iv.sf iv661 4 (Ex.refl t652) r660 rfl
    have fl663 := Fle.trans (Fle.refl t652.F) (Ex.refl t652).f
    obtain ⟨played_in664, h_played_in664, hm646⟩ := bndE hm646
    obtain ⟨played_in665, h_played_in665, hm646⟩ := bndE hm646
    obtain ⟨b686, hj687, hm646⟩ := bndE hm646
    refine do_if (EvB.t (eb_lt (ev_call C_played_in hr (by decide) (ea_cons (ev_var 0 rfl (Iv.fz (x := (bars607 : (List Int))) iv662 0)) (ea_cons (ev_var 4 rfl (Iv.fz (x := (x642 : Int)) iv662 4)) (ea_cons (ev_add (ev_var 4 rfl (Iv.fz (x := (x642 : Int)) iv662 4)) (ev_var 1 rfl (Iv.fz (x := (need610 : Int)) iv662 1))) ea_nil))) h_played_in664) (ev_call C_played_in hr (by decide) (ea_cons (ev_var 0 rfl (Iv.fz (x := (bars607 : (List Int))) iv662 0)) (ea_cons (ev_var 3 rfl (Iv.fz (x := (b640 : Int)) iv662 3)) (ea_cons (ev_add (ev_var 3 rfl (Iv.fz (x := (b640 : Int)) iv662 3)) (ev_var 1 rfl (Iv.fz (x := (need610 : Int)) iv662 1))) ea_nil))) h_played_in665))) (fun (σ' : L2.St) (t' : S) => Fle t652.F t'.F ∧ ∃ (v_first : V), σ' = [some v608, some v611, some v614, some v_first, some v659] ∧ Iv K (fun _ => False) s0 t' [fz v608 (bars607 : (List Int)), fz v611 (need610 : Int), fz v614 (place613 : Int), fz v_first (b686 : Int), fz v659 (x642 : Int)]) (fun hb688 s689 e690 => ?_) (fun hb704 s705 e706 => ?_) (fun σ711 s712 hM713 => ?_)
    · have hm691 := iteE1 hj687 hb688
      have iv692 := Iv.ex iv662 e690
      have fl693 := Fle.trans (Fle.refl t652.F) e690.f
      have fl694 := Fle.trans (Fle.refl t652.F) e690.f
      refine do_set 3 (ev_var 4 rfl (Iv.fz (x := (x642 : Int)) iv692 4)) (fun v699 s697 e698 r700 => ?_) sc_window_at.nd
      obtain ⟨first695, q696, hm691⟩ := ltE hm691
      have iv701 := Iv.sf iv692 3 e698 r700 q696
      have fl702 := Fle.trans fl693 e698.f
      have fl703 := Fle.trans fl694 e698.f
      obtain rfl := Option.some.inj hm691
      exact do_nil ⟨s697, rfl, fl703, ⟨v699, rfl, Iv.sel iv701 [some 0, some 1, some 2, some 3, some 4] (by decide +kernel) (by kernel_rfl)⟩⟩
    · have hm707 := iteE2 hj687 hb704
      have iv708 := Iv.ex iv662 e706
      have fl709 := Fle.trans (Fle.refl t652.F) e706.f
      have fl710 := Fle.trans (Fle.refl t652.F) e706.f
      obtain rfl := Option.some.inj hm707
      exact do_nil ⟨s705, rfl, fl710, ⟨v656, rfl, Iv.sel iv708 [some 0, some 1, some 2, some 3, some 4] (by decide +kernel) (by kernel_rfl)⟩⟩
    · obtain ⟨hf714, hR715⟩ := hM713
      obtain ⟨v716, rfl, iv717⟩ := hR715
      have fl718 := Fle.trans (Fle.refl t652.F) hf714
      obtain rfl := Option.some.inj hm646
      exact do_nil ⟨s712, rfl, fl718, ⟨v716, _, rfl, Iv.sel iv717 [some 0, some 1, some 2, some 3, none] (by decide +kernel) (by kernel_rfl)⟩⟩
  · have hf728 := Fle.trans k720.f fl723
    obtain ⟨v729, y730, rfl, iv731⟩ := hR724
    obtain rfl := Option.some.inj hm
    exact do_ret (ev_t2 (ea_cons (ev_var 3 rfl (Iv.fz (x := (o638 : Int)) iv731 3)) (ea_cons (ev_add (ev_var 3 rfl (Iv.fz (x := (o638 : Int)) iv731 3)) (ev_var 1 rfl (Iv.fz (x := (need610 : Int)) iv731 1))) ea_nil))) fun v732 s733 e734 r735 => hQ _ _ (Ex.trans (Iv.exx iv731) e734) r735
abbrev s_loss_at : Stmt := topS 20
abbrev N_loss_at : List Str := ["bars", "need", "place", "first", "end"]
theorem sc_loss_at : FnScope N_loss_at ["bars", "need", "place"] (defScope s_loss_at) := ⟨rfl, rfl, rfl, by decide +kernel, rfl, by decide +kernel, by decide +kernel⟩
noncomputable def m_loss_at (bars736 : (List Int)) (need739 : Int) (place742 : Int) : Option (Rz Int) :=
 (tb (m_window_at bars736 need739 place742) (fun er747 => (some (Rz.er er747))) fun window_at746 => (lt (window_at746 : (Int × Int)) fun u755 =>
 (bnd (m_played_in bars736 u755.1 u755.2) fun played_in759 => (some (Rz.ok played_in759)))))
noncomputable abbrev a_loss_at : (List Int) × Int × Int × Unit → Option (Rz Int) := fun a => m_loss_at a.1 a.2.1 a.2.2.1
theorem ok_loss_at {P : Program} {w : World} {K : PySem.W.Frag} {mg : Str → Option Value} {base : Heap} {f : Addr} {fd : FuncData} (F : FunP K "loss_at" s_loss_at f fd) (hmg : mg "loss_at" = some (.ref f)) (C_window_at : Cal P w K mg base (L2.CX P w) 4 "window_at" (spR K a_window_at)) (C_played_in : Cal P w K mg base CX0 1 "played_in" (sp K a_played_in)) : Cal P w K mg base (L2.CX P w) 5 "loss_at" (spR K a_loss_at) := by
  refine mk_calR (k := 4) F hmg (F.bindsN fun _ _ _ _ _ _ us hl => match us, hl with | [_, _, _], _ => rfl) sc_loss_at len3 ?_
  rintro cdv A' outer sh0 H0 X0 hr s0 vs ⟨bars736, need739, place742, _⟩ r0 Q ⟨v737, _, rfl, r738, v740, _, rfl, r741, v743, _, rfl, r744, rfl⟩ hm hQ
  unfold a_loss_at m_loss_at at hm
  dsimp only at hm
  have iv745 : Iv K (fun _ => False) s0 s0 [fz v737 (bars736 : (List Int)), fz v740 (need739 : Int), fz v743 (place742 : Int), top, top] := (Iv.sf (Iv.sf (Iv.sf (Iv.tops (K := K) (P0 := (fun _ => False)) 5 s0) 0 (Ex.refl s0) r738 rfl) 1 (Ex.refl s0) r741 rfl) 2 (Ex.refl s0) r744 rfl)
  rcases tbE hm with ⟨er747, he748, hm⟩ | ⟨window_at746, h_window_at746, hm⟩
  · obtain rfl := Option.some.inj hm
    refine do_unpX 3 4 (evX_call C_window_at (takes_of rfl rfl rfl rfl) hr (by decide) (ea_cons (ev_var 0 rfl (Iv.fz (x := (bars736 : (List Int))) iv745 0)) (ea_cons (ev_var 1 rfl (Iv.fz (x := (need739 : Int)) iv745 1)) (ea_cons (ev_var 2 rfl (Iv.fz (x := (place742 : Int)) iv745 2)) ea_nil))) he748 (fun a1 a2 a3 k2 r2 => hQ a1 a2 a3 (Ex.trans (Iv.exx iv745) k2) r2)) (pg_tup rfl (pgs_cons (pg_name (i := 3) sc_loss_at.nd rfl (by first | exact Or.inl rfl | exact Or.inr rfl)) (pgs_cons (pg_name (i := 4) sc_loss_at.nd rfl (by first | exact Or.inl rfl | exact Or.inr rfl)) pgs_nil)))
  refine do_unp2 3 4 (ev_callR C_window_at hr (by decide) (ea_cons (ev_var 0 rfl (Iv.fz (x := (bars736 : (List Int))) iv745 0)) (ea_cons (ev_var 1 rfl (Iv.fz (x := (need739 : Int)) iv745 1)) (ea_cons (ev_var 2 rfl (Iv.fz (x := (place742 : Int)) iv745 2)) ea_nil))) h_window_at746) (fun v749 v750 s753 e754 r751 r752 => ?_) (pg_tup rfl (pgs_cons (pg_name (i := 3) sc_loss_at.nd rfl (by first | exact Or.inl rfl | exact Or.inr rfl)) (pgs_cons (pg_name (i := 4) sc_loss_at.nd rfl (by first | exact Or.inl rfl | exact Or.inr rfl)) pgs_nil)))
  obtain ⟨u755, q756, hm⟩ := ltE hm
  rw [← q756] at r751
  have iv757 := Iv.sf iv745 3 e754 r751 rfl
  rw [← q756] at r752
  have iv758 := Iv.sf iv757 4 (Ex.refl s753) r752 rfl
  obtain ⟨played_in759, h_played_in759, hm⟩ := bndE hm
  obtain rfl := Option.some.inj hm
  exact do_ret (ev_call C_played_in hr (by decide) (ea_cons (ev_var 0 rfl (Iv.fz (x := (bars736 : (List Int))) iv758 0)) (ea_cons (ev_var 3 rfl (Iv.fz (x := (u755.1 : Int)) iv758 3)) (ea_cons (ev_var 4 rfl (Iv.fz (x := (u755.2 : Int)) iv758 4)) ea_nil))) h_played_in759) fun v760 s761 e762 r763 => hQ _ _ (Ex.trans (Iv.exx iv758) e762) r763
abbrev s_least_book : Stmt := topS 23
abbrev N_least_book : List Str := ["bars", "most", "need", "many", "prices", "came", "place", "breaks", "begin", "other", "loss"]
theorem sc_least_book : FnScope N_least_book ["bars", "most", "need"] (defScope s_least_book) := ⟨rfl, rfl, rfl, by decide +kernel, rfl, by decide +kernel, by decide +kernel⟩
noncomputable def m_least_book (bars764 : (List Int)) (most767 : Int) (need770 : Int) : Option (Rz (T3 Int (List Int) (List Int))) :=
 (tb (m_asked_bars bars764) (fun er775 => (some (Rz.er er775))) fun asked_bars774 => none)
noncomputable abbrev a_least_book : (List Int) × Int × Int × Unit → Option (Rz (T3 Int (List Int) (List Int))) := fun a => m_least_book a.1 a.2.1 a.2.2.1
theorem ok_least_book {P : Program} {w : World} {K : PySem.W.Frag} {mg : Str → Option Value} {base : Heap} {f : Addr} {fd : FuncData} (F : FunP K "least_book" s_least_book f fd) (hmg : mg "least_book" = some (.ref f)) (C_asked_bars : Cal P w K mg base (L2.CX P w) 1 "asked_bars" (spR K a_asked_bars)) : Cal P w K mg base (L2.CX P w) 6 "least_book" (spR K a_least_book) := by
  refine mk_calR (k := 5) F hmg (F.bindsN fun _ _ _ _ _ _ us hl => match us, hl with | [_, _, _], _ => rfl) sc_least_book len3 ?_
  rintro cdv A' outer sh0 H0 X0 hr s0 vs ⟨bars764, most767, need770, _⟩ r0 Q ⟨v765, _, rfl, r766, v768, _, rfl, r769, v771, _, rfl, r772, rfl⟩ hm hQ
  unfold a_least_book m_least_book at hm
  dsimp only at hm
  have iv773 : Iv K (fun _ => False) s0 s0 [fz v765 (bars764 : (List Int)), fz v768 (most767 : Int), fz v771 (need770 : Int), top, top, top, top, top, top, top, top] := (Iv.sf (Iv.sf (Iv.sf (Iv.tops (K := K) (P0 := (fun _ => False)) 11 s0) 0 (Ex.refl s0) r766 rfl) 1 (Ex.refl s0) r769 rfl) 2 (Ex.refl s0) r772 rfl)
  rcases tbE hm with ⟨er775, he776, hm⟩ | ⟨asked_bars774, h_asked_bars774, hm⟩
  · obtain rfl := Option.some.inj hm
    refine do_dropX (evX_call C_asked_bars (takes_of rfl rfl rfl rfl) hr (by decide) (ea_cons (ev_var 0 rfl (Iv.fz (x := (bars764 : (List Int))) iv773 0)) ea_nil) he776 (fun a1 a2 a3 k2 r2 => hQ a1 a2 a3 (Ex.trans (Iv.exx iv773) k2) r2))
  refine do_drop (ev_callR C_asked_bars hr (by decide) (ea_cons (ev_var 0 rfl (Iv.fz (x := (bars764 : (List Int))) iv773 0)) ea_nil) h_asked_bars774) (fun s777 e778 => ?_)
  have iv779 := Iv.ex iv773 e778
  exact absurd hm (by intro z; cases z)
abbrev s_loss_of : Stmt := topS 22
abbrev N_loss_of : List Str := ["bars", "need", "breaks", "place"]
theorem sc_loss_of : FnScope N_loss_of ["bars", "need", "breaks"] (defScope s_loss_of) := ⟨rfl, rfl, rfl, by decide +kernel, rfl, by decide +kernel, by decide +kernel⟩
noncomputable def m_loss_of (bars780 : (List Int)) (need783 : Int) (breaks786 : (List Int)) : Option (Rz Int) :=
 (tb (m_asked_bars bars780) (fun er791 => (some (Rz.er er791))) fun asked_bars790 => (chk ((breaks786).length ≤ sizeLine) (tb (mapR (fun (x796 : Int) => (m_loss_at bars780 need783 x796)) breaks786) (fun er813 => (some (Rz.er er813))) fun ys811 => (chk ((ys811).length ≤ sizeLine) (some (Rz.ok (ys811).sum))))))
noncomputable abbrev a_loss_of : (List Int) × Int × (List Int) × Unit → Option (Rz Int) := fun a => m_loss_of a.1 a.2.1 a.2.2.1
theorem ok_loss_of {P : Program} {w : World} {K : PySem.W.Frag} {mg : Str → Option Value} {base : Heap} {f : Addr} {fd : FuncData} (F : FunP K "loss_of" s_loss_of f fd) (hmg : mg "loss_of" = some (.ref f)) (C_asked_bars : Cal P w K mg base (L2.CX P w) 1 "asked_bars" (spR K a_asked_bars)) (C_loss_at : Cal P w K mg base (L2.CX P w) 5 "loss_at" (spR K a_loss_at)) (z_sum : mg "sum" = none) : Cal P w K mg base (L2.CX P w) 6 "loss_of" (spR K a_loss_of) := by
  refine mk_calR (k := 5) F hmg (F.bindsN fun _ _ _ _ _ _ us hl => match us, hl with | [_, _, _], _ => rfl) sc_loss_of len3 ?_
  rintro cdv A' outer sh0 H0 X0 hr s0 vs ⟨bars780, need783, breaks786, _⟩ r0 Q ⟨v781, _, rfl, r782, v784, _, rfl, r785, v787, _, rfl, r788, rfl⟩ hm hQ
  unfold a_loss_of m_loss_of at hm
  dsimp only at hm
  have iv789 : Iv K (fun _ => False) s0 s0 [fz v781 (bars780 : (List Int)), fz v784 (need783 : Int), fz v787 (breaks786 : (List Int)), top] := (Iv.sf (Iv.sf (Iv.sf (Iv.tops (K := K) (P0 := (fun _ => False)) 4 s0) 0 (Ex.refl s0) r782 rfl) 1 (Ex.refl s0) r785 rfl) 2 (Ex.refl s0) r788 rfl)
  rcases tbE hm with ⟨er791, he792, hm⟩ | ⟨asked_bars790, h_asked_bars790, hm⟩
  · obtain rfl := Option.some.inj hm
    refine do_dropX (evX_call C_asked_bars (takes_of rfl rfl rfl rfl) hr (by decide) (ea_cons (ev_var 0 rfl (Iv.fz (x := (bars780 : (List Int))) iv789 0)) ea_nil) he792 (fun a1 a2 a3 k2 r2 => hQ a1 a2 a3 (Ex.trans (Iv.exx iv789) k2) r2))
  refine do_drop (ev_callR C_asked_bars hr (by decide) (ea_cons (ev_var 0 rfl (Iv.fz (x := (bars780 : (List Int))) iv789 0)) ea_nil) h_asked_bars790) (fun s793 e794 => ?_)
  have iv795 := Iv.ex iv789 e794
  obtain ⟨hc810, hm⟩ := chkE hm
  rcases tbE hm with ⟨er813, he814, hm⟩ | ⟨ys811, h812, hm⟩
  · obtain rfl := Option.some.inj hm
    refine do_retX (evX_sum z_sum (EvLX.x (en_compX (own := [("place", 3)]) (j := 3) (f := fun (x796 : Int) => (m_loss_at bars780 need783 x796)) rfl sc_loss_of.nd rfl rfl (takes_of rfl rfl rfl rfl) (ei_list (ev_var 2 rfl (Iv.fz (x := (breaks786 : (List Int))) iv795 2))) (blkOk_by (own := [("place", 3)]) (N := N_loss_of) (sc := defScope s_loss_of) (by decide +kernel)) rfl (by decide) (fun _ _ _ _ _ => pg_name (i := 3) sc_loss_of.nd rfl (by first | exact Or.inl rfl | exact Or.inr rfl)) he814 hc810 (fun a1 a2 a3 k2 r2 => hQ a1 a2 a3 (Ex.trans (Iv.exx iv795) k2) r2) (fun x796 y797 v805 s798 hx800 e799 r806 hf801 _ _ _ _ _ _ _ => by have z802 := Enc.mono e799.f (Iv.fz (v := v781) (x := (bars780 : (List Int))) iv795 0); have z803 := Enc.mono e799.f (Iv.fz (v := v784) (x := (need783 : Int)) iv795 1); have h_loss_at807 := hf801; exact (ev_callR C_loss_at hr (by decide) (ea_cons (ev_var 0 rfl z802) (ea_cons (ev_var 1 rfl z803) (ea_cons (ev_var 3 rfl r806) ea_nil))) h_loss_at807)) (fun x796 v805 s798 hx800 e799 r806 hf801 _ _ _ _ _ _ _ hp816 => by have z802 := Enc.mono e799.f (Iv.fz (v := v781) (x := (bars780 : (List Int))) iv795 0); have z803 := Enc.mono e799.f (Iv.fz (v := v784) (x := (need783 : Int)) iv795 1); have h_loss_at807 := hf801; exact (evX_callP C_loss_at hp816 e799 hr (by decide) (ea_cons (ev_var 0 rfl z802) (ea_cons (ev_var 1 rfl z803) (ea_cons (ev_var 3 rfl r806) ea_nil))) h_loss_at807)))))
  obtain ⟨hc815, hm⟩ := chkE hm
  obtain rfl := Option.some.inj hm
  exact do_ret (ev_sum z_sum (EvN.r (EvL.n (en_comp0 (own := [("place", 3)]) (j := 3) (f := fun z => okO ((fun (x796 : Int) => (m_loss_at bars780 need783 x796)) z)) rfl sc_loss_of.nd (ei_list (ev_var 2 rfl (Iv.fz (x := (breaks786 : (List Int))) iv795 2))) (blkOk_by (own := [("place", 3)]) (N := N_loss_of) (sc := defScope s_loss_of) (by decide +kernel)) rfl (by decide) (fun _ _ _ _ _ => pg_name (i := 3) sc_loss_of.nd rfl (by first | exact Or.inl rfl | exact Or.inr rfl)) (mapR_ok h812) hc815 (fun x796 y797 v805 s798 hx800 e799 r806 hf801 _ _ _ _ _ => by have z802 := Enc.mono e799.f (Iv.fz (v := v781) (x := (bars780 : (List Int))) iv795 0); have z803 := Enc.mono e799.f (Iv.fz (v := v784) (x := (need783 : Int)) iv795 1); replace hf801 := okO_some hf801; have h_loss_at807 := hf801; exact (ev_callR C_loss_at hr (by decide) (ea_cons (ev_var 0 rfl z802) (ea_cons (ev_var 1 rfl z803) (ea_cons (ev_var 3 rfl r806) ea_nil))) h_loss_at807)))))) fun v817 s818 e819 r820 => hQ _ _ (Ex.trans (Iv.exx iv795) e819) r820
abbrev s_Times_time : Stmt := clsS 39 2
def pre_Times_time : List V → R_Times × Str × Str × Unit → List OA → List OA → Prop := fun vs x L R => ∃ (aself : Addr) (aself_my_names : V) (aself_my_rows : V) (aone : V) (aother : V), vs = [(.ref aself), aone, aother] ∧ L = [fz aone (x.2.1 : Str), fz aother (x.2.2.1 : Str)] ∧ Wk R [cell aself "Times" [("my_names", aself_my_names), ("my_rows", aself_my_rows)], fz aself_my_names (x.1.my_names : (List Str)), fz aself_my_rows (x.1.my_rows : (List (List Int)))]
def ok_Times_time : List V → R_Times × Str × Str × Unit → Rz (Int) → V → List OA → Prop := fun vs x o v L' => ∃ (aself : Addr) (aself_my_names : V) (aself_my_rows : V) (aone : V) (aother : V), vs = [(.ref aself), aone, aother] ∧ ∃ r : (Int), o = Rz.ok r ∧ (∃ (bres : V), v = bres ∧ L' = [fz bres (r : Int)])
def er_Times_time : List V → R_Times × Str × Str × Unit → Rz (Int) → Er → List OA → Prop := fun vs x o e L' => ∃ (aself : Addr) (aself_my_names : V) (aself_my_rows : V) (aone : V) (aother : V), vs = [(.ref aself), aone, aother] ∧ o = Rz.er e ∧ L' = []
abbrev N_Times_time : List Str := ["self", "one", "other", "name"]
theorem sc_Times_time : FnScope N_Times_time ["self", "one", "other"] (defScope s_Times_time) := ⟨rfl, rfl, rfl, by decide +kernel, rfl, by decide +kernel, by decide +kernel⟩
noncomputable def m_Times_time (self821 : R_Times) (one822 : Str) (other823 : Str) : Option (Rz (Int)) :=
 (bnd (foldF (ρ := (Rz (Int))) (fun (b828 : Unit) (x830 : Str) =>
 (if (!decide (x830 ∈ self821.my_names)) = true then
 (some (Fl.rt (Rz.er (Er.ps "NoInstrument" "name" x830))))
 else
 (some (Fl.nx ())))) () ((⟨[one822, other823]⟩ : Tu Str)).l) fun o826 =>
 (Fl.go o826 (fun b878 => (bnd (ixOf one822 self821.my_names) fun ix883 => (bnd (atI self821.my_rows (ix883 : Int)) fun at884 => (bnd (ixOf other823 self821.my_names) fun ix885 => (bnd (atI at884 (ix885 : Int)) fun at886 => (some (Rz.ok at886))))))) (fun rr => (some rr))))
noncomputable abbrev a_Times_time : R_Times × Str × Str × Unit → Option (Rz (Int)) := fun x => m_Times_time x.1 x.2.1 x.2.2.1
theorem ok_Times_time_fn {P : Program} {w : World} {K : PySem.W.Frag} {mg : Str → Option Value} {base : Heap} {f : Addr} {fd : FuncData} (F : FunM K "time" "Times.time" s_Times_time f fd) (N_NoInstrument : mg "NoInstrument" = some (.ref (He.ga K "NoInstrument"))) (P_NoInstrument : PayF K "NoInstrument" "name") (I_NoInstrument : InitOk P w K mg base "NoInstrument" "name") (CL_Times : ClsF K "Times" ["my_names", "my_rows"] ["__init__", "names", "time"]) : FnOk P w K mg base (L2.CX P w) 3 f fd ["self", "one", "other"] (spI K pre_Times_time a_Times_time ok_Times_time er_Times_time) := by
  refine mk_IX (k := 2) F sc_Times_time (fun vs a L R h => by obtain ⟨_, _, _, _, _, rfl, _⟩ := h; rfl) ?_
  rintro cdv A' outer sh0 H0 X0 hr s0 P0 L0 R0 vs ⟨self821, one822, other823, _⟩ o0 Q ⟨aself, aself_my_names, aself_my_rows, aone, aother, rfl, rfl, wk⟩ iv824 ro hm hQ hE
  replace ro := ro.wk wk
  unfold a_Times_time m_Times_time at hm
  try dsimp only at hm
  have iv825 : Iv K P0 s0 s0 [top, fz aone (one822 : Str), fz aother (other823 : Str), top, top, top] := Iv.sel iv824 [none, some 0, some 1, none, none, none] (by decide +kernel) (by kernel_rfl)
  obtain ⟨o826, ho827, hm⟩ := bndE hm
  refine do_forF (ρ := (Rz (Int))) (υ := Unit) (passes_of rfl) rfl (ei_tup (ev_tu (xs := ([one822, other823] : List Str)) (ee_cons (ev_var 1 rfl (Iv.fz (x := (one822 : Str)) iv825 1)) (ee_cons (ev_var 2 rfl (Iv.fz (x := (other823 : Str)) iv825 2)) ee_nil)) (by simp [sizeLine]))) (pg_name (i := 3) sc_Times_time.nd rfl (by first | exact Or.inl rfl | exact Or.inr rfl)) tg_n ho827 (fun (b828 : Unit) (σ' : L2.St) (t' : S) => ∃ (y_name : Option V), σ' = [some (.ref aself), some aone, some aother, y_name] ∧ Iv K P0 s0 t' [top, fz aone (one822 : Str), fz aother (other823 : Str), top, top, top]) (fun s875 k876 => by have iv877 := Iv.ex iv825 k876; exact ⟨_, rfl, Iv.sel iv877 [none, some 1, some 2, none, none, none] (by decide +kernel) (by kernel_rfl)⟩) (fun s831 k832 x830 b828 q851 σ841 σ842 t839 t840 hx833 hm834 hq852 fl835 hR836 k837 hB838 => ?_) (fun s869 k870 b878 σ871 t872 ho879 fl873 hR874 => ?_)
  · have hf843 := Fle.trans k832.f fl835
    obtain ⟨y844, rfl, iv845⟩ := hR836
    obtain ⟨v846, r847, rfl⟩ := hB838
    have iv848 := Iv.ex iv845 k837
    have iv849 := Iv.sf iv848 3 (Ex.refl t840) r847 rfl
    have fl850 := Fle.trans (Fle.refl t840.F) (Ex.refl t840).f
    refine do_ifR (EvB.t (eb_notIn (ev_var 3 rfl (Iv.fz (x := (x830 : Str)) iv849 3)) (Ev.r (ev_raw (x := (self821.my_names : (List Str))) (raw_fld (raw_var 0 rfl) (Iv.rcell iv849 ro 0) rfl CL_Times.cl (CL_Times.na "my_names" (by simp))) (Iv.rfz (x := (self821.my_names : (List Str))) iv849 ro 1))))) (fun hb853 s854 e855 => ?_) (fun hb863 s864 e865 => ?_)
    · have hm856 := iteE1 hm834 hb853
      have iv857 := Iv.ex iv849 e855
      have fl858 := Fle.trans (Fle.refl t840.F) e855.f
      obtain rfl := Option.some.inj hm856
      obtain rfl := hq852 _ rfl
      obtain rfl := Option.some.inj hm
      obtain ⟨fd859, ps860, F861, B862⟩ := I_NoInstrument
      exact do_raiseS P_NoInstrument N_NoInstrument F861 B862 (takes_of rfl rfl rfl rfl) hr (by decide) (ev_var 3 rfl (Iv.fz (x := (x830 : Str)) iv857 3)) (fun d s1 k1 z => hE _ _ _ _ _ ⟨aself, aself_my_names, aself_my_rows, aone, aother, rfl, rfl, rfl⟩ (Iv.sel (Iv.ex iv857 k1) [] (by decide +kernel) (by kernel_rfl)) ⟨rfl, d, rfl, z⟩)
    · have hm866 := iteE2 hm834 hb863
      have iv867 := Iv.ex iv849 e865
      have fl868 := Fle.trans (Fle.refl t840.F) e865.f
      obtain rfl := Option.some.inj hm866
      exact do_nil ⟨s864, rfl, _, rfl, fl868, ⟨_, rfl, Iv.sel iv867 [none, some 1, some 2, none, none, none] (by decide +kernel) (by kernel_rfl)⟩⟩
  · subst ho879
    replace hm := goN hm
    have hf880 := Fle.trans k870.f fl873
    obtain ⟨y881, rfl, iv882⟩ := hR874
    obtain ⟨ix883, h_ix883, hm⟩ := bndE hm
    obtain ⟨at884, h_at884, hm⟩ := bndE hm
    obtain ⟨ix885, h_ix885, hm⟩ := bndE hm
    obtain ⟨at886, h_at886, hm⟩ := bndE hm
    obtain rfl := Option.some.inj hm
    refine do_retK (ek_of (eg_ev (ev_ix (Ev.r (ev_ix (Ev.r (ev_raw (x := (self821.my_rows : (List (List Int)))) (raw_fld (raw_var 0 rfl) (Iv.rcell iv882 ro 0) rfl CL_Times.cl (CL_Times.na "my_rows" (by simp))) (Iv.rfz (x := (self821.my_rows : (List (List Int)))) iv882 ro 2))) (ev_index (Ev.r (ev_raw (x := (self821.my_names : (List Str))) (raw_fld (raw_var 0 rfl) (Iv.rcell iv882 ro 0) rfl CL_Times.cl (CL_Times.na "my_names" (by simp))) (Iv.rfz (x := (self821.my_names : (List Str))) iv882 ro 1))) (ev_var 1 rfl (Iv.fz (x := (one822 : Str)) iv882 1)) h_ix883) h_at884)) (ev_index (Ev.r (ev_raw (x := (self821.my_names : (List Str))) (raw_fld (raw_var 0 rfl) (Iv.rcell iv882 ro 0) rfl CL_Times.cl (CL_Times.na "my_names" (by simp))) (Iv.rfz (x := (self821.my_names : (List Str))) iv882 ro 1))) (ev_var 2 rfl (Iv.fz (x := (other823 : Str)) iv882 2)) h_ix885) h_at886)) iv882) (fun v887 s889 z => ?_)
    obtain ⟨L890, rfl, _, iv888⟩ := z
    exact hQ _ _ _ ⟨aself, aself_my_names, aself_my_rows, aone, aother, rfl, _, rfl, v887, rfl, rfl⟩ (Iv.sel iv888 [some 6] (by decide +kernel) (by kernel_rfl))
abbrev s_Times_names : Stmt := clsS 39 1
def pre_Times_names : List V → R_Times × Unit → List OA → List OA → Prop := fun vs x L R => ∃ (aself : Addr) (aself_my_names : V) (aself_my_rows : V), vs = [(.ref aself)] ∧ L = [] ∧ Wk R [cell aself "Times" [("my_names", aself_my_names), ("my_rows", aself_my_rows)], fz aself_my_names (x.1.my_names : (List Str)), fz aself_my_rows (x.1.my_rows : (List (List Int)))]
def ok_Times_names : List V → R_Times × Unit → ((List Str)) → V → List OA → Prop := fun vs x r v L' => ∃ (aself : Addr) (aself_my_names : V) (aself_my_rows : V), vs = [(.ref aself)] ∧ (∃ (bres : Addr), v = (.ref bres) ∧ L' = [ol bres (r : (List Str))])
abbrev N_Times_names : List Str := ["self"]
theorem sc_Times_names : FnScope N_Times_names ["self"] (defScope s_Times_names) := ⟨rfl, rfl, rfl, by decide +kernel, rfl, by decide +kernel, by decide +kernel⟩
noncomputable def m_Times_names (self892 : R_Times) : Option ((List Str)) :=
 (some self892.my_names)
noncomputable abbrev a_Times_names : R_Times × Unit → Option ((List Str)) := fun x => m_Times_names x.1
theorem ok_Times_names_fn {P : Program} {w : World} {K : PySem.W.Frag} {mg : Str → Option Value} {base : Heap} {f : Addr} {fd : FuncData} (F : FunM K "names" "Times.names" s_Times_names f fd) (z_list : mg "list" = none) (CL_Times : ClsF K "Times" ["my_names", "my_rows"] ["__init__", "names", "time"]) : FnOk P w K mg base CX0 1 f fd ["self"] (spI K pre_Times_names a_Times_names ok_Times_names noEr) := by
  refine mk_I (k := 0) F sc_Times_names (fun vs a L R h => by obtain ⟨_, _, _, rfl, _⟩ := h; rfl) ?_
  rintro cdv A' outer sh0 H0 X0 hr s0 P0 L0 R0 vs ⟨self892, _⟩ o0 Q ⟨aself, aself_my_names, aself_my_rows, rfl, rfl, wk⟩ iv893 ro hm hQ
  replace ro := ro.wk wk
  unfold a_Times_names m_Times_names at hm
  try dsimp only at hm
  have iv894 : Iv K P0 s0 s0 [top, top, top] := Iv.sel iv893 [none, none, none] (by decide +kernel) (by kernel_rfl)
  obtain rfl := Option.some.inj hm
  refine do_retK (ek_of (eg_new (en_copy z_list (Ev.r (ev_raw (x := (self892.my_names : (List Str))) (raw_fld (raw_var 0 rfl) (Iv.rcell iv894 ro 0) rfl CL_Times.cl (CL_Times.na "my_names" (by simp))) (Iv.rfz (x := (self892.my_names : (List Str))) iv894 ro 1))))) iv894) (fun v899 s897 z => ?_)
  obtain ⟨L898, ⟨p895, rfl, rfl⟩, _, iv896⟩ := z
  exact hQ _ _ _ ⟨aself, aself_my_names, aself_my_rows, rfl, p895, rfl, rfl⟩ (Iv.sel iv896 [some 3] (by decide +kernel) (by kernel_rfl))
abbrev s_asked_lines : Stmt := topS 25
def pre_asked_lines : List V → R_Times × (List (T3 Str Int Int)) × Unit → List OA → List OA → Prop := fun vs x L R => ∃ (atimes : Addr) (atimes_my_names : V) (atimes_my_rows : V) (alines : V), vs = [(.ref atimes), alines] ∧ L = [fz alines (x.2.1 : (List (T3 Str Int Int)))] ∧ Wk R [cell atimes "Times" [("my_names", atimes_my_names), ("my_rows", atimes_my_rows)], fz atimes_my_names (x.1.my_names : (List Str)), fz atimes_my_rows (x.1.my_rows : (List (List Int)))]
def ok_asked_lines : List V → R_Times × (List (T3 Str Int Int)) × Unit → Rz (Bool) → V → List OA → Prop := fun vs x o v L' => ∃ (atimes : Addr) (atimes_my_names : V) (atimes_my_rows : V) (alines : V), vs = [(.ref atimes), alines] ∧ ∃ r : (Bool), o = Rz.ok r ∧ (∃ (bres : V), v = bres ∧ L' = [fz bres (r : Bool)])
def er_asked_lines : List V → R_Times × (List (T3 Str Int Int)) × Unit → Rz (Bool) → Er → List OA → Prop := fun vs x o e L' => ∃ (atimes : Addr) (atimes_my_names : V) (atimes_my_rows : V) (alines : V), vs = [(.ref atimes), alines] ∧ o = Rz.er e ∧ L' = []
abbrev N_asked_lines : List Str := ["times", "lines", "names", "place", "name", "first", "last"]
theorem sc_asked_lines : FnScope N_asked_lines ["times", "lines"] (defScope s_asked_lines) := ⟨rfl, rfl, rfl, by decide +kernel, rfl, by decide +kernel, by decide +kernel⟩
noncomputable def m_asked_lines (times900 : R_Times) (lines901 : (List (T3 Str Int Int))) : Option (Rz (Bool)) :=
 (bnd (a_Times_names ((⟨times900.my_names, times900.my_rows⟩ : R_Times), ())) fun names904 => (lt (names904 : (List Str)) fun names905 =>
 (chk (RgB ((lines901).length : Int)) (bnd (foldF (ρ := (Rz (Bool))) (fun (b915 : Unit) (x917 : Int) =>
 (bnd (atI lines901 x917) fun at943 => (lt (at943 : (T3 Str Int Int)) fun u952 =>
 (if ((decide (u952.b < (0 : Int))) || (decide (u952.c < u952.b))) = true then
 (some (Fl.rt (Rz.er (Er.pi "NoLine" "place" x917))))
 else
 (if (!decide (u952.a ∈ names905)) = true then
 (some (Fl.rt (Rz.er (Er.ps "NoInstrument" "name" u952.a))))
 else
 (some (Fl.nx ()))))))) () (rng 0 ((lines901).length : Int))) fun o913 =>
 (Fl.go o913 (fun b1001 => (some (Rz.ok true))) (fun rr => (some rr)))))))
noncomputable abbrev a_asked_lines : R_Times × (List (T3 Str Int Int)) × Unit → Option (Rz (Bool)) := fun x => m_asked_lines x.1 x.2.1
theorem ok_asked_lines_fn {P : Program} {w : World} {K : PySem.W.Frag} {mg : Str → Option Value} {base : Heap} {f : Addr} {fd : FuncData} (F : FunM K "asked_lines" "asked_lines" s_asked_lines f fd) (C_Times_names : CalM P w K mg base CX0 1 "Times" "names" (spI K pre_Times_names a_Times_names ok_Times_names noEr)) (z_range : mg "range" = none) (z_len : mg "len" = none) (N_NoLine : mg "NoLine" = some (.ref (He.ga K "NoLine"))) (N_NoInstrument : mg "NoInstrument" = some (.ref (He.ga K "NoInstrument"))) (P_NoLine : PayF K "NoLine" "place") (I_NoLine : InitOk P w K mg base "NoLine" "place") (P_NoInstrument : PayF K "NoInstrument" "name") (I_NoInstrument : InitOk P w K mg base "NoInstrument" "name") (CL_Times : ClsF K "Times" ["my_names", "my_rows"] ["__init__", "names", "time"]) : FnOk P w K mg base (L2.CX P w) 3 f fd ["times", "lines"] (spI K pre_asked_lines a_asked_lines ok_asked_lines er_asked_lines) := by
  refine mk_IX (k := 2) F sc_asked_lines (fun vs a L R h => by obtain ⟨_, _, _, _, rfl, _⟩ := h; rfl) ?_
  rintro cdv A' outer sh0 H0 X0 hr s0 P0 L0 R0 vs ⟨times900, lines901, _⟩ o0 Q ⟨atimes, atimes_my_names, atimes_my_rows, alines, rfl, rfl, wk⟩ iv902 ro hm hQ hE
  replace ro := ro.wk wk
  unfold a_asked_lines m_asked_lines at hm
  try dsimp only at hm
  have iv903 : Iv K P0 s0 s0 [top, fz alines (lines901 : (List (T3 Str Int Int))), top, top, top, top, top, top, top] := Iv.sel iv902 [none, some 0, none, none, none, none, none, none, none] (by decide +kernel) (by kernel_rfl)
  obtain ⟨names904, h_names904, hm⟩ := bndE hm
  refine do_set 2 (EvN.ev (en_of_eg (eg_call (ok' := (fun v L' => ∃ (bres : Addr), v = (.ref bres) ∧ L' = [ol bres (names904 : (List Str))])) (ca_meth0 (E := fun _ _ _ _ => False) C_Times_names CL_Times.cl pass00 hr (by decide) (raw_var 0 rfl) (Iv.rcell iv903 ro 0) rfl ) iv903 ro [.inr 0, .inr 1, .inr 2] (fun vs s2 k2 r2 => by obtain ⟨ws, rfl, r3⟩ := r2; obtain rfl := r3; exact ⟨[], ⟨(atimes), (atimes_my_names), (atimes_my_rows), rfl, rfl, (wk_cons wk_rfl (wk_cons wk_rfl (wk_cons wk_rfl wk_nil)))⟩, all_nil, (fun v L' z => by obtain ⟨_, _, _, e, z⟩ := z; cases e; exact z), (fun e L' z => z.elim)⟩) h_names904) (fun v L' z => by obtain ⟨p, rfl, rfl⟩ := z; exact ⟨p, [], rfl, rfl⟩))) (fun v909 s907 e908 r910 => ?_) sc_asked_lines.nd
  obtain ⟨names905, q906, hm⟩ := ltE hm
  have iv911 := Iv.sf iv903 2 e908 r910 q906
  obtain ⟨hc912, hm⟩ := chkE hm
  obtain ⟨o913, ho914, hm⟩ := bndE hm
  refine do_forF (ρ := (Rz (Bool))) (υ := Unit) (passes_of rfl) rfl (ei_range1 z_range (ev_len z_len (Ev.r (ev_var 1 rfl (Iv.fz (x := (lines901 : (List (T3 Str Int Int)))) iv911 1)))) hc912) (pg_name (i := 3) sc_asked_lines.nd rfl (by first | exact Or.inl rfl | exact Or.inr rfl)) tg_n ho914 (fun (b915 : Unit) (σ' : L2.St) (t' : S) => ∃ (y_name : Option V) (y_first : Option V) (y_last : Option V) (y_place : Option V), σ' = [some (.ref atimes), some alines, some v909, y_place, y_name, y_first, y_last] ∧ Iv K P0 s0 t' [top, fz alines (lines901 : (List (T3 Str Int Int))), fz v909 (names905 : (List Str)), top, top, top, top, top, top]) (fun s998 k999 => by have iv1000 := Iv.ex iv911 k999; exact ⟨_, _, _, _, rfl, Iv.sel iv1000 [none, some 1, some 2, none, none, none, none, none, none] (by decide +kernel) (by kernel_rfl)⟩) (fun s918 k919 x917 b915 q941 σ928 σ929 t926 t927 hx920 hm921 hq942 fl922 hR923 k924 hB925 => ?_) (fun s992 k993 b1001 σ994 t995 ho1002 fl996 hR997 => ?_)
  · have hf930 := Fle.trans k919.f fl922
    obtain ⟨y931, y932, y933, y934, rfl, iv935⟩ := hR923
    obtain ⟨v936, r937, rfl⟩ := hB925
    have iv938 := Iv.ex iv935 k924
    have iv939 := Iv.sf iv938 3 (Ex.refl t927) r937 rfl
    have fl940 := Fle.trans (Fle.refl t927.F) (Ex.refl t927).f
    obtain ⟨at943, h_at943, hm921⟩ := bndE hm921
    refine do_unp3 4 5 6 (ev_ix (Ev.r (ev_var 1 rfl (Iv.fz (x := (lines901 : (List (T3 Str Int Int)))) iv939 1))) (ev_var 3 rfl (Iv.fz (x := (x917 : Int)) iv939 3)) h_at943) (fun v944 v945 v946 s950 e951 r947 r948 r949 => ?_) (pg_tup rfl (pgs_cons (pg_name (i := 4) sc_asked_lines.nd rfl (by first | exact Or.inl rfl | exact Or.inr rfl)) (pgs_cons (pg_name (i := 5) sc_asked_lines.nd rfl (by first | exact Or.inl rfl | exact Or.inr rfl)) (pgs_cons (pg_name (i := 6) sc_asked_lines.nd rfl (by first | exact Or.inl rfl | exact Or.inr rfl)) pgs_nil))))
    obtain ⟨u952, q953, hm921⟩ := ltE hm921
    rw [← q953] at r947
    have iv954 := Iv.sf iv939 4 e951 r947 rfl
    have fl955 := Fle.trans (Fle.refl t927.F) e951.f
    rw [← q953] at r948
    have iv956 := Iv.sf iv954 5 (Ex.refl s950) r948 rfl
    have fl957 := Fle.trans fl955 (Ex.refl s950).f
    rw [← q953] at r949
    have iv958 := Iv.sf iv956 6 (Ex.refl s950) r949 rfl
    have fl959 := Fle.trans fl957 (Ex.refl s950).f
    refine do_ifR (EvW.tt (EvC.w (ec_or (eb_lt (ev_var 5 rfl (Iv.fz (x := (u952.b : Int)) iv958 5)) ev_int) fun _ => (ec_or1 (eb_lt (ev_var 6 rfl (Iv.fz (x := (u952.c : Int)) iv958 6)) (ev_var 5 rfl (Iv.fz (x := (u952.b : Int)) iv958 5))))))) (fun hb960 s961 e962 => ?_) (fun hb970 s971 e972 => ?_)
    · have hm963 := iteE1 hm921 hb960
      have iv964 := Iv.ex iv958 e962
      have fl965 := Fle.trans fl959 e962.f
      obtain rfl := Option.some.inj hm963
      obtain rfl := hq942 _ rfl
      obtain rfl := Option.some.inj hm
      obtain ⟨fd966, ps967, F968, B969⟩ := I_NoLine
      exact do_raiseI P_NoLine N_NoLine F968 B969 (takes_of rfl rfl rfl rfl) hr (by decide) (ev_var 3 rfl (Iv.fz (x := (x917 : Int)) iv964 3)) (fun d s1 k1 z => hE _ _ _ _ _ ⟨atimes, atimes_my_names, atimes_my_rows, alines, rfl, rfl, rfl⟩ (Iv.sel (Iv.ex iv964 k1) [] (by decide +kernel) (by kernel_rfl)) ⟨rfl, d, rfl, z⟩)
    · have hm973 := iteE2 hm921 hb970
      have iv974 := Iv.ex iv958 e972
      have fl975 := Fle.trans fl959 e972.f
      refine do_ifR (EvB.t (eb_notIn (ev_var 4 rfl (Iv.fz (x := (u952.a : Str)) iv974 4)) (Ev.r (ev_var 2 rfl (Iv.fz (x := (names905 : (List Str))) iv974 2))))) (fun hb976 s977 e978 => ?_) (fun hb986 s987 e988 => ?_)
      · have hm979 := iteE1 hm973 hb976
        have iv980 := Iv.ex iv974 e978
        have fl981 := Fle.trans fl975 e978.f
        obtain rfl := Option.some.inj hm979
        obtain rfl := hq942 _ rfl
        obtain rfl := Option.some.inj hm
        obtain ⟨fd982, ps983, F984, B985⟩ := I_NoInstrument
        exact do_raiseS P_NoInstrument N_NoInstrument F984 B985 (takes_of rfl rfl rfl rfl) hr (by decide) (ev_var 4 rfl (Iv.fz (x := (u952.a : Str)) iv980 4)) (fun d s1 k1 z => hE _ _ _ _ _ ⟨atimes, atimes_my_names, atimes_my_rows, alines, rfl, rfl, rfl⟩ (Iv.sel (Iv.ex iv980 k1) [] (by decide +kernel) (by kernel_rfl)) ⟨rfl, d, rfl, z⟩)
      · have hm989 := iteE2 hm973 hb986
        have iv990 := Iv.ex iv974 e988
        have fl991 := Fle.trans fl975 e988.f
        obtain rfl := Option.some.inj hm989
        exact do_nil ⟨s987, rfl, _, rfl, fl991, ⟨_, _, _, _, rfl, Iv.sel iv990 [none, some 1, some 2, none, none, none, none, none, none] (by decide +kernel) (by kernel_rfl)⟩⟩
  · subst ho1002
    replace hm := goN hm
    have hf1003 := Fle.trans k993.f fl996
    obtain ⟨y1004, y1005, y1006, y1007, rfl, iv1008⟩ := hR997
    obtain rfl := Option.some.inj hm
    refine do_retK (ek_of (eg_ev ev_bl) iv1008) (fun v1009 s1011 z => ?_)
    obtain ⟨L1012, rfl, _, iv1010⟩ := z
    exact hQ _ _ _ ⟨atimes, atimes_my_names, atimes_my_rows, alines, rfl, _, rfl, v1009, rfl, rfl⟩ (Iv.sel iv1010 [some 9] (by decide +kernel) (by kernel_rfl))
abbrev s_can_follow : Stmt := topS 26
def pre_can_follow : List V → R_Times × (T3 Str Int Int) × (T3 Str Int Int) × Unit → List OA → List OA → Prop := fun vs x L R => ∃ (atimes : Addr) (atimes_my_names : V) (atimes_my_rows : V) (aone : V) (aother : V), vs = [(.ref atimes), aone, aother] ∧ L = [fz aone (x.2.1 : (T3 Str Int Int)), fz aother (x.2.2.1 : (T3 Str Int Int))] ∧ Wk R [cell atimes "Times" [("my_names", atimes_my_names), ("my_rows", atimes_my_rows)], fz atimes_my_names (x.1.my_names : (List Str)), fz atimes_my_rows (x.1.my_rows : (List (List Int)))]
def ok_can_follow : List V → R_Times × (T3 Str Int Int) × (T3 Str Int Int) × Unit → (Bool) → V → List OA → Prop := fun vs x r v L' => ∃ (atimes : Addr) (atimes_my_names : V) (atimes_my_rows : V) (aone : V) (aother : V), vs = [(.ref atimes), aone, aother] ∧ (∃ (bres : V), v = bres ∧ L' = [fz bres (r : Bool)])
abbrev N_can_follow : List Str := ["times", "one", "other"]
theorem sc_can_follow : FnScope N_can_follow ["times", "one", "other"] (defScope s_can_follow) := ⟨rfl, rfl, rfl, by decide +kernel, rfl, by decide +kernel, by decide +kernel⟩
noncomputable def m_can_follow (times1014 : R_Times) (one1015 : (T3 Str Int Int)) (other1016 : (T3 Str Int Int)) : Option (Bool) :=
 (tb (a_Times_time ((⟨times1014.my_names, times1014.my_rows⟩ : R_Times), (one1015).a, (other1016).a, ())) (fun er1024 => none) fun time1023 => (some (decide (time1023 ≤ (((other1016).b - (one1015).c) - (1 : Int))))))
noncomputable abbrev a_can_follow : R_Times × (T3 Str Int Int) × (T3 Str Int Int) × Unit → Option (Bool) := fun x => m_can_follow x.1 x.2.1 x.2.2.1
theorem ok_can_follow_fn {P : Program} {w : World} {K : PySem.W.Frag} {mg : Str → Option Value} {base : Heap} {f : Addr} {fd : FuncData} (F : FunM K "can_follow" "can_follow" s_can_follow f fd) (C_Times_time : CalM P w K mg base (L2.CX P w) 3 "Times" "time" (spI K pre_Times_time a_Times_time ok_Times_time er_Times_time)) (CL_Times : ClsF K "Times" ["my_names", "my_rows"] ["__init__", "names", "time"]) : FnOk P w K mg base CX0 4 f fd ["times", "one", "other"] (spI K pre_can_follow a_can_follow ok_can_follow noEr) := by
  refine mk_I (k := 3) F sc_can_follow (fun vs a L R h => by obtain ⟨_, _, _, _, _, rfl, _⟩ := h; rfl) ?_
  rintro cdv A' outer sh0 H0 X0 hr s0 P0 L0 R0 vs ⟨times1014, one1015, other1016, _⟩ o0 Q ⟨atimes, atimes_my_names, atimes_my_rows, aone, aother, rfl, rfl, wk⟩ iv1017 ro hm hQ
  replace ro := ro.wk wk
  unfold a_can_follow m_can_follow at hm
  try dsimp only at hm
  have iv1018 : Iv K P0 s0 s0 [top, fz aone (one1015 : (T3 Str Int Int)), fz aother (other1016 : (T3 Str Int Int)), top, top] := Iv.sel iv1017 [none, some 0, some 1, none, none] (by decide +kernel) (by kernel_rfl)
  rcases tbE hm with ⟨er1024, he1025, hm⟩ | ⟨time1023, h_time1023, hm⟩
  exact absurd hm (by intro z; cases z)
  obtain rfl := Option.some.inj hm
  refine do_retK (ek_of (eg_ev (EvB.v (eb_ge (ev_sub (ev_sub (ev_ixP (ev_var 2 rfl (Iv.fz (x := (other1016 : (T3 Str Int Int))) iv1018 2)) ev_int p3_1) (ev_ixP (ev_var 1 rfl (Iv.fz (x := (one1015 : (T3 Str Int Int))) iv1018 1)) ev_int p3_2)) ev_int) (ev_of_eg (eg_call (ok' := (fun v L' => ∃ (bres : V), v = bres ∧ L' = [fz bres (time1023 : Int)])) (ca_meth (E := fun _ _ _ _ => False) C_Times_time CL_Times.cl passF hr (by decide) (raw_var 0 rfl) (Iv.rcell iv1018 ro 0) rfl (ea_cons (ev_ixP (ev_var 1 rfl (Iv.fz (x := (one1015 : (T3 Str Int Int))) iv1018 1)) ev_int p3_0) (ea_cons (ev_ixP (ev_var 2 rfl (Iv.fz (x := (other1016 : (T3 Str Int Int))) iv1018 2)) ev_int p3_0) ea_nil))) iv1018 ro [.inr 0, .inr 1, .inr 2] (fun vs s2 k2 r2 => by obtain ⟨ws, rfl, r3⟩ := r2; obtain ⟨v1019, _, rfl, r1020, v1021, _, rfl, r1022, rfl⟩ := r3; exact ⟨[fz v1019 ((one1015).a : Str), fz v1021 ((other1016).a : Str)], ⟨(atimes), (atimes_my_names), (atimes_my_rows), v1019, v1021, rfl, rfl, (wk_cons wk_rfl (wk_cons wk_rfl (wk_cons wk_rfl wk_nil)))⟩, (all_cons r1020 (all_cons r1022 all_nil)), (fun v L' z => by obtain ⟨_, _, _, _, _, e, r, e2, z⟩ := z; cases e; cases e2; exact z), (fun e L' z => by obtain ⟨_, _, _, _, _, _, e2, _⟩ := z; cases e2)⟩) h_time1023) (fun v L' z => by obtain ⟨_, rfl, rfl⟩ := z; exact ⟨[], rfl⟩))))) iv1018) (fun v1026 s1028 z => ?_)
  obtain ⟨L1029, rfl, _, iv1027⟩ := z
  exact hQ _ _ _ ⟨atimes, atimes_my_names, atimes_my_rows, aone, aother, rfl, v1026, rfl, rfl⟩ (Iv.sel iv1027 [some 5] (by decide +kernel) (by kernel_rfl))
abbrev s_behind_by : Stmt := topS 28
def pre_behind_by : List V → R_Times × (List (T3 Str Int Int)) × Unit → List OA → List OA → Prop := fun vs x L R => ∃ (atimes : Addr) (atimes_my_names : V) (atimes_my_rows : V) (alines : V), vs = [(.ref atimes), alines] ∧ L = [fz alines (x.2.1 : (List (T3 Str Int Int)))] ∧ Wk R [cell atimes "Times" [("my_names", atimes_my_names), ("my_rows", atimes_my_rows)], fz atimes_my_names (x.1.my_names : (List Str)), fz atimes_my_rows (x.1.my_rows : (List (List Int)))]
def ok_behind_by : List V → R_Times × (List (T3 Str Int Int)) × Unit → ((List (List Int))) → V → List OA → Prop := fun vs x r v L' => ∃ (atimes : Addr) (atimes_my_names : V) (atimes_my_rows : V) (alines : V), vs = [(.ref atimes), alines] ∧ (∃ (bres : V), v = bres ∧ L' = [fz bres (r : (List (List Int)))])
abbrev N_behind_by : List Str := ["times", "lines", "every", "one", "k"]
theorem sc_behind_by : FnScope N_behind_by ["times", "lines"] (defScope s_behind_by) := ⟨rfl, rfl, rfl, by decide +kernel, rfl, by decide +kernel, by decide +kernel⟩
noncomputable def m_behind_by (times1031 : R_Times) (lines1032 : (List (T3 Str Int Int))) : Option ((List (List Int))) :=
 (chk (RgOk 0 ((lines1032).length : Int)) (lt ((rng 0 ((lines1032).length : Int)) : (List Int)) fun every1036 =>
 (bnd (mapO (fun (x1043 : (T3 Str Int Int)) => (bnd (compO (fun (x1056 : Int) => (bnd (atI lines1032 x1056) fun at1078 => (bnd (a_can_follow ((⟨times1031.my_names, times1031.my_rows⟩ : R_Times), x1043, at1078, ())) fun can_follow1081 => (some can_follow1081)))) (fun (x1056 : Int) => (some x1056)) every1036) fun ys1082 => (chk ((ys1082).length ≤ sizeLine) (some ys1082)))) lines1032) fun ys1085 => (chk ((ys1085).length ≤ sizeLine) (some ys1085)))))
noncomputable abbrev a_behind_by : R_Times × (List (T3 Str Int Int)) × Unit → Option ((List (List Int))) := fun x => m_behind_by x.1 x.2.1
theorem ok_behind_by_fn {P : Program} {w : World} {K : PySem.W.Frag} {mg : Str → Option Value} {base : Heap} {f : Addr} {fd : FuncData} (F : FunM K "behind_by" "behind_by" s_behind_by f fd) (C_can_follow : Cal P w K mg base CX0 4 "can_follow" (spI K pre_can_follow a_can_follow ok_can_follow noEr)) (z_list : mg "list" = none) (z_range : mg "range" = none) (z_len : mg "len" = none) : FnOk P w K mg base CX0 5 f fd ["times", "lines"] (spI K pre_behind_by a_behind_by ok_behind_by noEr) := by
  refine mk_I (k := 4) F sc_behind_by (fun vs a L R h => by obtain ⟨_, _, _, _, rfl, _⟩ := h; rfl) ?_
  rintro cdv A' outer sh0 H0 X0 hr s0 P0 L0 R0 vs ⟨times1031, lines1032, _⟩ o0 Q ⟨atimes, atimes_my_names, atimes_my_rows, alines, rfl, rfl, wk⟩ iv1033 ro hm hQ
  replace ro := ro.wk wk
  unfold a_behind_by m_behind_by at hm
  try dsimp only at hm
  have iv1034 : Iv K P0 s0 s0 [top, fz alines (lines1032 : (List (T3 Str Int Int))), top, top, top, top, top] := Iv.sel iv1033 [none, some 0, none, none, none, none, none] (by decide +kernel) (by kernel_rfl)
  obtain ⟨hc1035, hm⟩ := chkE hm
  refine do_set 2 (EvN.ev (en_listRg1 z_list z_range (ev_len z_len (Ev.r (ev_var 1 rfl (Iv.fz (x := (lines1032 : (List (T3 Str Int Int)))) iv1034 1)))) hc1035)) (fun v1040 s1038 e1039 r1041 => ?_) sc_behind_by.nd
  obtain ⟨every1036, q1037, hm⟩ := ltE hm
  have iv1042 := Iv.sf iv1034 2 e1039 r1041 q1037
  obtain ⟨ys1085, h_ys1085, hm⟩ := bndE hm
  obtain ⟨hc1086, hm⟩ := chkE hm
  obtain rfl := Option.some.inj hm
  refine do_retK (ek_of (eg_ev (EvN.ev (EvL.n (en_comp0 (own := [("one", 3)]) (j := 3) (f := fun (x1043 : (T3 Str Int Int)) => (bnd (compO (fun (x1056 : Int) => (bnd (atI lines1032 x1056) fun at1078 => (bnd (a_can_follow ((⟨times1031.my_names, times1031.my_rows⟩ : R_Times), x1043, at1078, ())) fun can_follow1081 => (some can_follow1081)))) (fun (x1056 : Int) => (some x1056)) every1036) fun ys1082 => (chk ((ys1082).length ≤ sizeLine) (some ys1082)))) rfl sc_behind_by.nd (ei_list (ev_var 1 rfl (Iv.fz (x := (lines1032 : (List (T3 Str Int Int)))) iv1042 1))) (blkOk_by (own := [("one", 3)]) (N := N_behind_by) (sc := defScope s_behind_by) (by decide +kernel)) rfl (by decide) (fun _ _ _ _ _ => pg_name (i := 3) sc_behind_by.nd rfl (by first | exact Or.inl rfl | exact Or.inr rfl)) h_ys1085 hc1086 (fun x1043 y1044 v1054 s1045 hx1047 e1046 r1055 hf1048 _ _ _ _ _ => by have z1052 := Enc.mono e1046.f (Iv.fz (v := alines) (x := (lines1032 : (List (T3 Str Int Int)))) iv1042 1); have z1053 := Enc.mono e1046.f (Iv.fz (v := v1040) (x := (every1036 : (List Int))) iv1042 2); obtain ⟨ys1082, h_ys1082, hf1048⟩ := bndE hf1048; obtain ⟨hc1083, hf1048⟩ := chkE hf1048; obtain rfl := Option.some.inj hf1048; exact (EvN.ev (EvL.n (en_comp1 (own := [("k", 4)]) (j := 4) (t := fun (x1056 : Int) => (bnd (atI lines1032 x1056) fun at1078 => (bnd (a_can_follow ((⟨times1031.my_names, times1031.my_rows⟩ : R_Times), x1043, at1078, ())) fun can_follow1081 => (some can_follow1081)))) (f := fun (x1056 : Int) => (some x1056)) rfl sc_behind_by.nd (ei_list (ev_var 2 rfl z1053)) (blkOk_n (own := [("k", 4)]) (N := N_behind_by) (sc0 := defScope s_behind_by) rfl (by decide +kernel)) rfl (by decide) (fun _ _ _ _ _ => pg_name (i := 4) sc_behind_by.nd rfl (by first | exact Or.inl rfl | exact Or.inr rfl)) h_ys1082 hc1083 (fun x1056 y1057 v1068 s1058 hx1060 e1059 r1069 hf1061 _ _ _ _ _ => by have z1065 := Enc.mono e1059.f z1052; have z1067 := Enc.mono e1059.f r1055; obtain ⟨at1078, h_at1078, hf1061⟩ := bndE hf1061; obtain ⟨can_follow1081, h_can_follow1081, hf1061⟩ := bndE hf1061; obtain rfl := Option.some.inj hf1061; exact (et_v (ev_of_eg (eg_call (ok' := (fun v L' => ∃ (bres : V), v = bres ∧ L' = [fz bres (can_follow1081 : Bool)])) (ca_fn (E := fun _ _ _ _ => False) C_can_follow pass00 hr (by decide) (ea_cons (raw_var 0 rfl) (ea_cons (ev_var 3 rfl z1067) (ea_cons (ev_ix (Ev.r (ev_var 1 rfl z1065)) (ev_var 4 rfl r1069) h_at1078) ea_nil)))) (Iv.ex (Iv.ex iv1042 e1046) e1059) ro [.inr 0, .inr 1, .inr 2] (fun vs s2 k2 r2 => by obtain ⟨_, _, rfl, rfl, v1076, _, rfl, r1077, v1079, _, rfl, r1080, rfl⟩ := r2; exact ⟨[fz v1076 (x1043 : (T3 Str Int Int)), fz v1079 (at1078 : (T3 Str Int Int))], ⟨(atimes), (atimes_my_names), (atimes_my_rows), v1076, v1079, rfl, rfl, (wk_cons wk_rfl (wk_cons wk_rfl (wk_cons wk_rfl wk_nil)))⟩, (all_cons r1077 (all_cons r1080 all_nil)), (fun v L' z => by obtain ⟨_, _, _, _, _, e, z⟩ := z; cases e; exact z), (fun e L' z => z.elim)⟩) h_can_follow1081) (fun v L' z => by obtain ⟨_, rfl, rfl⟩ := z; exact ⟨[], rfl⟩)))) (fun x1056 y1057 v1068 s1058 hx1060 e1059 r1069 ht1084 hf1061 _ _ _ _ _ => by obtain rfl := Option.some.inj hf1061; exact (ev_var 4 rfl r1069)))))))))) iv1042) (fun v1087 s1089 z => ?_)
  obtain ⟨L1090, rfl, _, iv1088⟩ := z
  exact hQ _ _ _ ⟨atimes, atimes_my_names, atimes_my_rows, alines, rfl, v1087, rfl, rfl⟩ (Iv.sel iv1088 [some 7] (by decide +kernel) (by kernel_rfl))
abbrev s_found_ways : Stmt := topS 29
def pre_found_ways : List V → (List (List Int)) × (List (Option Int)) × (List Int) × Unit → List OA → List OA → Prop := fun vs x L R => ∃ (abehind : V) (aahead : Addr) (abegins : V), vs = [abehind, (.ref aahead), abegins] ∧ L = [fz abehind (x.1 : (List (List Int))), fz abegins (x.2.2.1 : (List Int))] ∧ Wk R [ol aahead (x.2.1 : (List (Option Int)))]
def ok_found_ways : List V → (List (List Int)) × (List (Option Int)) × (List Int) × Unit → ((List (Int × Int))) → V → List OA → Prop := fun vs x r v L' => ∃ (abehind : V) (aahead : Addr) (abegins : V), vs = [abehind, (.ref aahead), abegins] ∧ (∃ (bres : Addr), v = (.ref bres) ∧ L' = [od bres (r : (List (Int × Int)))])
abbrev N_found_ways : List Str := ["behind", "ahead", "begins", "came", "row", "at", "place"]
theorem sc_found_ways : FnScope N_found_ways ["behind", "ahead", "begins"] (defScope s_found_ways) := ⟨rfl, rfl, rfl, by decide +kernel, rfl, by decide +kernel, by decide +kernel⟩
noncomputable def m_found_ways (behind1092 : (List (List Int))) (ahead1093 : (List (Option Int))) (begins1094 : (List Int)) : Option ((List (Int × Int))) :=
 (lt (begins1094 : (List Int)) fun row1105 =>
 (lt ((0 : Int) : Int) fun at1113 =>
 (bnd (whileO (fun (b1122 : ((List (Int × Int)) × (List Int) × Int)) => (some (decide (b1122.2.2 < ((b1122.2.1).length : Int))))) (fun (b1122 : ((List (Int × Int)) × (List Int) × Int)) =>
 (bnd (atI b1122.2.1 b1122.2.2) fun at1145 => (bnd (atI behind1092 at1145) fun at1146 => (bnd (foldO (fun (b1149 : ((List (Int × Int)) × (List Int))) (x1151 : Int) =>
 (bnd (if (!(dval b1149.1 x1151).isSome) = true then
 (bnd (atI b1149.2 b1122.2.2) fun at1275 => (chk ((b1149.1).length < sizeLine) (lt ((dput b1149.1 x1151 at1275) : (List (Int × Int))) fun kv1273 =>
 (bnd (atI ahead1093 x1151) fun at1281 => (bnd (if (at1281).isSome = true then
 (bnd (atI ahead1093 x1151) fun at1332 => (bnd at1332 fun got1333 => (chk ((b1149.2).length < sizeLine) (lt ((b1149.2 ++ [got1333]) : (List Int)) fun row1330 =>
 (some row1330)))))
 else
 (some b1149.2) : Option ((List Int))) fun b1312 =>
 (some (kv1273, b1312)))))))
 else
 (some (b1149.1, b1149.2)) : Option (((List (Int × Int)) × (List Int)))) fun b1261 =>
 (some (b1261.1, b1261.2)))) (b1122.1, b1122.2.1) at1146) fun o1147 =>
 (lt ((b1122.2.2 + (1 : Int)) : Int) fun at1383 =>
 (some (o1147.1, o1147.2, at1383))))))) fuel (([] : (List (Int × Int))), row1105, at1113)) fun o1120 =>
 (some o1120.1))))
noncomputable abbrev a_found_ways : (List (List Int)) × (List (Option Int)) × (List Int) × Unit → Option ((List (Int × Int))) := fun x => m_found_ways x.1 x.2.1 x.2.2.1
theorem ok_found_ways_fn {P : Program} {w : World} {K : PySem.W.Frag} {mg : Str → Option Value} {base : Heap} {f : Addr} {fd : FuncData} (F : FunM K "found_ways" "found_ways" s_found_ways f fd) (z_list : mg "list" = none) (z_len : mg "len" = none) : FnOk P w K mg base CX0 1 f fd ["behind", "ahead", "begins"] (spI K pre_found_ways a_found_ways ok_found_ways noEr) := by
  refine mk_I (k := 0) F sc_found_ways (fun vs a L R h => by obtain ⟨_, _, _, rfl, _⟩ := h; rfl) ?_
  rintro cdv A' outer sh0 H0 X0 hr s0 P0 L0 R0 vs ⟨behind1092, ahead1093, begins1094, _⟩ o0 Q ⟨abehind, aahead, abegins, rfl, rfl, wk⟩ iv1095 ro hm hQ
  replace ro := ro.wk wk
  unfold a_found_ways m_found_ways at hm
  try dsimp only at hm
  have iv1096 : Iv K P0 s0 s0 [fz abehind (behind1092 : (List (List Int))), top, fz abegins (begins1094 : (List Int)), top, top, top, top] := Iv.sel iv1095 [some 0, none, some 1, none, none, none, none] (by decide +kernel) (by kernel_rfl)
  refine do_setG 3 (eg_newD (xs := ([] : (List (Int × Int)))) en_dnew) (fun v1098 s1099 L1100 z1103 iv1101 => ?_) sc_found_ways.nd
  obtain ⟨p1097, rfl, rfl⟩ := z1103
  have iv1102 := Iv.add iv1096 iv1101
  have iv1104 : Iv K P0 s0 s1099 [fz abehind (behind1092 : (List (List Int))), top, fz abegins (begins1094 : (List Int)), od p1097 (([] : (List (Int × Int))) : (List (Int × Int))), top, top, top] := Iv.sel iv1102 [some 0, none, some 2, some 7, none, none, none] (by decide +kernel) (by kernel_rfl)
  refine do_setN 4 (en_copy z_list (Ev.r (ev_var 2 rfl (Iv.fz (x := (begins1094 : (List Int))) iv1104 2)))) (fun p1109 s1107 e1108 n1110 o1111 => ?_) sc_found_ways.nd
  obtain ⟨row1105, q1106, hm⟩ := ltE hm
  have iv1112 := Iv.sl iv1104 4 e1108 n1110 o1111 q1106
  refine do_set 5 ev_int (fun v1117 s1115 e1116 r1118 => ?_) sc_found_ways.nd
  obtain ⟨at1113, q1114, hm⟩ := ltE hm
  have iv1119 := Iv.sf iv1112 5 e1116 r1118 q1114
  obtain ⟨o1120, ho1121, hm⟩ := bndE hm
  refine do_whileO (υ := ((List (Int × Int)) × (List Int) × Int)) PassesOwn.never ho1121 (fun (b1122 : ((List (Int × Int)) × (List Int) × Int)) (σ' : L2.St) (t' : S) => ∃ (v_at : V) (y_place : Option V), σ' = [some abehind, some (.ref aahead), some abegins, some (.ref p1097), some (.ref p1109), some v_at, y_place] ∧ Iv K P0 s0 t' [fz abehind (behind1092 : (List (List Int))), top, fz abegins (begins1094 : (List Int)), od p1097 (b1122.1 : (List (Int × Int))), ol p1109 (b1122.2.1 : (List Int)), fz v_at (b1122.2.2 : Int), top]) ⟨v1117, _, rfl, Iv.sel iv1119 [some 0, none, some 2, some 3, some 4, some 5, none] (by decide +kernel) (by kernel_rfl)⟩ (fun b1122 x1128 σ1125 t1124 hm1129 fl1126 hR1127 => ?_) (fun b1122 b1123 σ1135 t1133 t1134 hc1139 hm1140 fl1136 hR1137 k1138 => ?_) (fun σ1391 t1392 t1393 hc1394 fl1395 hR1396 k1397 => ?_)
  · obtain ⟨v1130, y1131, rfl, iv1132⟩ := hR1127
    obtain rfl := Option.some.inj hm1129
    exact (EvB.t (eb_lt (ev_var 5 rfl (Iv.fz (x := (b1122.2.2 : Int)) iv1132 5)) (ev_len z_len (er_raw (xs := (b1122.2.1 : (List Int))) (raw_var 4 rfl) (Own.r (Iv.ol (xs := (b1122.2.1 : (List Int))) iv1132 4))))))
  · obtain ⟨v1141, y1142, rfl, iv1143⟩ := hR1137
    have iv1144 := Iv.ex iv1143 k1138
    obtain ⟨at1145, h_at1145, hm1140⟩ := bndE hm1140
    obtain ⟨at1146, h_at1146, hm1140⟩ := bndE hm1140
    obtain ⟨o1147, ho1148, hm1140⟩ := bndE hm1140
    refine do_forO (υ := ((List (Int × Int)) × (List Int))) PassesOwn.never rfl (ei_list (ev_ix (Ev.r (ev_var 0 rfl (Iv.fz (x := (behind1092 : (List (List Int)))) iv1144 0))) (ev_ix (er_raw (xs := (b1122.2.1 : (List Int))) (raw_var 4 rfl) (Own.r (Iv.ol (xs := (b1122.2.1 : (List Int))) iv1144 4))) (ev_var 5 rfl (Iv.fz (x := (b1122.2.2 : Int)) iv1144 5)) h_at1145) h_at1146)) (pg_name (i := 6) sc_found_ways.nd rfl (by first | exact Or.inl rfl | exact Or.inr rfl)) tg_n ho1148 (fun (b1149 : ((List (Int × Int)) × (List Int))) (σ' : L2.St) (t' : S) => ∃ (y_place : Option V), σ' = [some abehind, some (.ref aahead), some abegins, some (.ref p1097), some (.ref p1109), some v1141, y_place] ∧ Iv K P0 s0 t' [fz abehind (behind1092 : (List (List Int))), top, fz abegins (begins1094 : (List Int)), od p1097 (b1149.1 : (List (Int × Int))), ol p1109 (b1149.2 : (List Int)), fz v1141 (b1122.2.2 : Int), top]) (fun s1375 k1376 => by have iv1377 := Iv.ex iv1144 k1376; have fl1378 := Fle.trans (Fle.refl t1134.F) k1376.f; exact ⟨_, rfl, Iv.sel iv1377 [some 0, none, some 2, some 3, some 4, some 5, none] (by decide +kernel) (by kernel_rfl)⟩) (fun s1152 k1153 x1151 b1149 b1150 σ1162 σ1163 t1160 t1161 hx1154 hm1155 fl1156 hR1157 k1158 hB1159 => ?_) (fun s1369 k1370 σ1371 t1372 fl1373 hR1374 => ?_)
    · have hf1164 := Fle.trans k1153.f fl1156
      obtain ⟨y1165, rfl, iv1166⟩ := hR1157
      obtain ⟨v1167, r1168, rfl⟩ := hB1159
      have iv1169 := Iv.ex iv1166 k1158
      have iv1170 := Iv.sf iv1169 6 (Ex.refl t1161) r1168 rfl
      have fl1171 := Fle.trans (Fle.refl t1161.F) (Ex.refl t1161).f
      obtain ⟨b1261, hj1262, hm1155⟩ := bndE hm1155
      refine do_if (EvB.t (ev_dnotIn hr (ev_var 6 rfl (Iv.fz (x := (x1151 : Int)) iv1170 6)) (raw_var 3 rfl) (OwnD.r (Iv.od (xs := (b1149.1 : (List (Int × Int)))) iv1170 3)))) (fun (σ' : L2.St) (t' : S) => Fle t1161.F t'.F ∧ σ' = [some abehind, some (.ref aahead), some abegins, some (.ref p1097), some (.ref p1109), some v1141, some v1167] ∧ Iv K P0 s0 t' [fz abehind (behind1092 : (List (List Int))), top, fz abegins (begins1094 : (List Int)), od p1097 (b1261.1 : (List (Int × Int))), ol p1109 (b1261.2 : (List Int)), fz v1141 (b1122.2.2 : Int), fz v1167 (x1151 : Int)]) (fun hb1263 s1264 e1265 => ?_) (fun hb1355 s1356 e1357 => ?_) (fun σ1362 s1363 hM1364 => ?_)
      · have hm1266 := iteE1 hj1262 hb1263
        have iv1267 := Iv.ex iv1170 e1265
        have fl1268 := Fle.trans (Fle.refl t1161.F) e1265.f
        have fl1269 := Fle.trans (Fle.refl t1161.F) e1265.f
        obtain ⟨at1275, h_at1275, hm1266⟩ := bndE hm1266
        obtain ⟨hc1276, hm1266⟩ := chkE hm1266
        refine do_dput hr (raw_var 3 rfl) (Iv.od (xs := (b1149.1 : (List (Int × Int)))) iv1267 3) (ev_ix (er_raw (xs := (b1149.2 : (List Int))) (raw_var 4 rfl) (Own.r (Iv.ol (xs := (b1149.2 : (List Int))) iv1267 4))) (ev_var 5 rfl (Iv.fz (x := (b1122.2.2 : Int)) iv1267 5)) h_at1275) (ev_var 6 rfl (Iv.fz (x := (x1151 : Int)) iv1267 6)) hc1276 (fun s1270 m1271 o1272 => ?_)
        obtain ⟨kv1273, q1274, hm1266⟩ := ltE hm1266
        have iv1277 := Iv.md iv1267 3 m1271 o1272 q1274
        have fl1278 := Fle.trans fl1268 m1271.f
        have fl1279 := Fle.trans fl1269 m1271.f
        obtain ⟨at1281, h_at1281, hm1266⟩ := bndE hm1266
        obtain ⟨b1312, hj1313, hm1266⟩ := bndE hm1266
        refine do_if (EvB.t (eb_notN (ev_ix (er_raw (xs := (ahead1093 : (List (Option Int)))) (raw_var 1 rfl) (Iv.rol (xs := (ahead1093 : (List (Option Int)))) iv1277 ro 0)) (ev_var 6 rfl (Iv.fz (x := (x1151 : Int)) iv1277 6)) h_at1281))) (fun (σ' : L2.St) (t' : S) => Fle s1270.F t'.F ∧ σ' = [some abehind, some (.ref aahead), some abegins, some (.ref p1097), some (.ref p1109), some v1141, some v1167] ∧ Iv K P0 s0 t' [fz abehind (behind1092 : (List (List Int))), top, fz abegins (begins1094 : (List Int)), od p1097 (kv1273 : (List (Int × Int))), ol p1109 (b1312 : (List Int)), fz v1141 (b1122.2.2 : Int), fz v1167 (x1151 : Int)]) (fun hb1314 s1315 e1316 => ?_) (fun hb1339 s1340 e1341 => ?_) (fun σ1347 s1348 hM1349 => ?_)
        · have hm1317 := iteE1 hj1313 hb1314
          have iv1318 := Iv.ex iv1277 e1316
          have fl1319 := Fle.trans fl1278 e1316.f
          have fl1320 := Fle.trans fl1279 e1316.f
          have fl1321 := Fle.trans (Fle.refl s1270.F) e1316.f
          obtain ⟨at1332, h_at1332, hm1317⟩ := bndE hm1317
          obtain ⟨got1333, h_got1333, hm1317⟩ := bndE hm1317
          obtain ⟨hc1334, hm1317⟩ := chkE hm1317
          refine do_append 4 rfl (Iv.ol (xs := (b1149.2 : (List Int))) iv1318 4) (ev_some' (ev_ix (er_raw (xs := (ahead1093 : (List (Option Int)))) (raw_var 1 rfl) (Iv.rol (xs := (ahead1093 : (List (Option Int)))) iv1318 ro 0)) (ev_var 6 rfl (Iv.fz (x := (x1151 : Int)) iv1318 6)) h_at1332) h_got1333) hc1334 (fun s1327 m1328 o1329 => ?_)
          obtain ⟨row1330, q1331, hm1317⟩ := ltE hm1317
          have iv1335 := Iv.ml iv1318 4 m1328 o1329 q1331
          have fl1336 := Fle.trans fl1319 m1328.f
          have fl1337 := Fle.trans fl1320 m1328.f
          have fl1338 := Fle.trans fl1321 m1328.f
          obtain rfl := Option.some.inj hm1317
          exact do_nil ⟨s1327, rfl, fl1338, ⟨rfl, Iv.sel iv1335 [some 0, none, some 2, some 3, some 4, some 5, some 6] (by decide +kernel) (by kernel_rfl)⟩⟩
        · have hm1342 := iteE2 hj1313 hb1339
          have iv1343 := Iv.ex iv1277 e1341
          have fl1344 := Fle.trans fl1278 e1341.f
          have fl1345 := Fle.trans fl1279 e1341.f
          have fl1346 := Fle.trans (Fle.refl s1270.F) e1341.f
          obtain rfl := Option.some.inj hm1342
          exact do_nil ⟨s1340, rfl, fl1346, ⟨rfl, Iv.sel iv1343 [some 0, none, some 2, some 3, some 4, some 5, some 6] (by decide +kernel) (by kernel_rfl)⟩⟩
        · obtain ⟨hf1350, hR1351⟩ := hM1349
          obtain ⟨rfl, iv1352⟩ := hR1351
          have fl1353 := Fle.trans fl1278 hf1350
          have fl1354 := Fle.trans fl1279 hf1350
          obtain rfl := Option.some.inj hm1266
          exact do_nil ⟨s1348, rfl, fl1354, ⟨rfl, Iv.sel iv1352 [some 0, none, some 2, some 3, some 4, some 5, some 6] (by decide +kernel) (by kernel_rfl)⟩⟩
      · have hm1358 := iteE2 hj1262 hb1355
        have iv1359 := Iv.ex iv1170 e1357
        have fl1360 := Fle.trans (Fle.refl t1161.F) e1357.f
        have fl1361 := Fle.trans (Fle.refl t1161.F) e1357.f
        obtain rfl := Option.some.inj hm1358
        exact do_nil ⟨s1356, rfl, fl1361, ⟨rfl, Iv.sel iv1359 [some 0, none, some 2, some 3, some 4, some 5, some 6] (by decide +kernel) (by kernel_rfl)⟩⟩
      · obtain ⟨hf1365, hR1366⟩ := hM1364
        obtain ⟨rfl, iv1367⟩ := hR1366
        have fl1368 := Fle.trans (Fle.refl t1161.F) hf1365
        obtain rfl := Option.some.inj hm1155
        exact do_nil ⟨s1363, rfl, fl1368, ⟨_, rfl, Iv.sel iv1367 [some 0, none, some 2, some 3, some 4, some 5, none] (by decide +kernel) (by kernel_rfl)⟩⟩
    · have hf1379 := Fle.trans k1370.f fl1373
      obtain ⟨y1380, rfl, iv1381⟩ := hR1374
      have fl1382 := Fle.trans (Fle.refl t1134.F) hf1379
      refine do_set 5 (ev_add (ev_var 5 rfl (Iv.fz (x := (b1122.2.2 : Int)) iv1381 5)) ev_int) (fun v1387 s1385 e1386 r1388 => ?_) sc_found_ways.nd
      obtain ⟨at1383, q1384, hm1140⟩ := ltE hm1140
      have iv1389 := Iv.sf iv1381 5 e1386 r1388 q1384
      have fl1390 := Fle.trans fl1382 e1386.f
      obtain rfl := Option.some.inj hm1140
      exact do_nil ⟨s1385, rfl, fl1390, ⟨v1387, _, rfl, Iv.sel iv1389 [some 0, none, some 2, some 3, some 4, some 5, none] (by decide +kernel) (by kernel_rfl)⟩⟩
  · obtain ⟨v1398, y1399, rfl, iv1400⟩ := hR1396
    have iv1401 := Iv.ex iv1400 k1397
    obtain rfl := Option.some.inj hm
    refine do_retK (ek_of (eg_raw (raw_var 3 rfl)) iv1401) (fun v1405 s1403 z => ?_)
    obtain ⟨L1404, ⟨rfl, rfl⟩, _, iv1402⟩ := z
    exact hQ _ _ _ ⟨abehind, aahead, abegins, rfl, p1097, rfl, rfl⟩ (Iv.sel iv1402 [some 3] (by decide +kernel) (by kernel_rfl))
abbrev s_paired : Stmt := topS 30
def pre_paired : List V → (List (List Int)) × Unit → List OA → List OA → Prop := fun vs x L R => ∃ (abehind : V), vs = [abehind] ∧ L = [fz abehind (x.1 : (List (List Int)))] ∧ R = []
def ok_paired : List V → (List (List Int)) × Unit → (((List (Option Int)) × (List (Option Int)))) → V → List OA → Prop := fun vs x r v L' => ∃ (abehind : V), vs = [abehind] ∧ (∃ (bres : Addr) (bres_0 : Addr) (bres_1 : Addr), v = (.ref bres) ∧ L' = [tc bres [(.ref bres_0), (.ref bres_1)], ol bres_0 (r.1 : (List (Option Int))), ol bres_1 (r.2 : (List (Option Int)))])
abbrev N_paired : List Str := ["behind", "after", "ahead", "begin", "came", "ends", "place", "one", "left"]
theorem sc_paired : FnScope N_paired ["behind"] (defScope s_paired) := ⟨rfl, rfl, rfl, by decide +kernel, rfl, by decide +kernel, by decide +kernel⟩
noncomputable def m_paired (behind1406 : (List (List Int))) : Option (((List (Option Int)) × (List (Option Int)))) :=
 (chk (RepOk ((behind1406).length : Int) (([none] : List (Option Int))).length) (lt ((repl ((behind1406).length : Int) ([none] : List (Option Int))) : (List (Option Int))) fun after1410 =>
 (chk (RepOk ((behind1406).length : Int) (([none] : List (Option Int))).length) (lt ((repl ((behind1406).length : Int) ([none] : List (Option Int))) : (List (Option Int))) fun ahead1419 =>
 (chk (RgB ((behind1406).length : Int)) (bnd (foldO (fun (b1430 : ((List (Option Int)) × (List (Option Int)))) (x1432 : Int) =>
 (bnd (a_found_ways (behind1406, b1430.2, ([x1432] : List Int), ())) fun found_ways1462 => (bnd (compO (fun (x1476 : Int) => (bnd (atI b1430.2 x1476) fun at1490 => (some (at1490).isNone))) (fun (x1476 : Int) => (some x1476)) (List.map (fun (z : Int × Int) => z.1) found_ways1462)) fun ys1491 => (chk ((ys1491).length ≤ sizeLine) (lt (ys1491 : (List Int)) fun ends1494 =>
 (lt (none : (Option Int)) fun place1508 =>
 (bnd (if (!(ends1494).isEmpty) = true then
 (bnd (atI ends1494 (0 : Int)) fun at1546 => (lt ((some at1546) : (Option Int)) fun place1547 =>
 (some place1547)))
 else
 (some place1508) : Option ((Option Int))) fun b1537 =>
 (bnd (whileO (fun (b1573 : ((List (Option Int)) × (List (Option Int)) × (Option Int))) => (some (b1573.2.2).isSome)) (fun (b1573 : ((List (Option Int)) × (List (Option Int)) × (Option Int))) =>
 (bnd b1573.2.2 fun got1598 => (bnd (dval found_ways1462 got1598) fun got1599 => (lt (got1599 : Int) fun one1600 =>
 (bnd (atI b1573.1 one1600) fun at1608 => (lt (at1608 : (Option Int)) fun left1609 =>
 (bnd (ixN (b1573.1).length one1600) fun j1622 => (lt (((b1573.1).set j1622 b1573.2.2) : (List (Option Int))) fun ls1620 =>
 (bnd b1573.2.2 fun got1630 => (bnd (ixN (b1573.2.1).length got1630) fun j1631 => (lt (((b1573.2.1).set j1631 (some one1600)) : (List (Option Int))) fun ls1628 =>
 (lt (left1609 : (Option Int)) fun place1634 =>
 (some (ls1620, ls1628, place1634)))))))))))))) fuel (b1430.1, b1430.2, b1537)) fun o1571 =>
 (some (o1571.1, o1571.2.1)))))))))) (after1410, ahead1419) (rng 0 ((behind1406).length : Int))) fun o1428 =>
 (some (o1428.1, o1428.2))))))))
noncomputable abbrev a_paired : (List (List Int)) × Unit → Option (((List (Option Int)) × (List (Option Int)))) := fun x => m_paired x.1
theorem ok_paired_fn {P : Program} {w : World} {K : PySem.W.Frag} {mg : Str → Option Value} {base : Heap} {f : Addr} {fd : FuncData} (F : FunM K "paired" "paired" s_paired f fd) (C_found_ways : Cal P w K mg base CX0 1 "found_ways" (spI K pre_found_ways a_found_ways ok_found_ways noEr)) (z_len : mg "len" = none) (z_range : mg "range" = none) : FnOk P w K mg base CX0 2 f fd ["behind"] (spI K pre_paired a_paired ok_paired noEr) := by
  refine mk_I (k := 1) F sc_paired (fun vs a L R h => by obtain ⟨_, rfl, _⟩ := h; rfl) ?_
  rintro cdv A' outer sh0 H0 X0 hr s0 P0 L0 R0 vs ⟨behind1406, _⟩ o0 Q ⟨abehind, rfl, rfl, rfl⟩ iv1407 ro hm hQ
  unfold a_paired m_paired at hm
  try dsimp only at hm
  have iv1408 : Iv K P0 s0 s0 [fz abehind (behind1406 : (List (List Int))), top, top, top, top, top, top, top, top, top, top] := Iv.sel iv1407 [some 0, none, none, none, none, none, none, none, none, none, none] (by decide +kernel) (by kernel_rfl)
  obtain ⟨hc1409, hm⟩ := chkE hm
  refine do_setN 1 (en_rep (en_list (xs := ([none] : List (Option Int))) (ee_cons (ev_nonO (α := Int)) ee_nil) (by simp [sizeLine])) (fun _ hk => Ev.mono (ev_len z_len (Ev.r (ev_var 0 rfl (Iv.fz (x := (behind1406 : (List (List Int)))) iv1408 0)))) hk) hc1409) (fun p1414 s1412 e1413 n1415 o1416 => ?_) sc_paired.nd
  obtain ⟨after1410, q1411, hm⟩ := ltE hm
  have iv1417 := Iv.sl iv1408 1 e1413 n1415 o1416 q1411
  obtain ⟨hc1418, hm⟩ := chkE hm
  refine do_setN 2 (en_rep (en_list (xs := ([none] : List (Option Int))) (ee_cons (ev_nonO (α := Int)) ee_nil) (by simp [sizeLine])) (fun _ hk => Ev.mono (ev_len z_len (Ev.r (ev_var 0 rfl (Iv.fz (x := (behind1406 : (List (List Int)))) iv1417 0)))) hk) hc1418) (fun p1423 s1421 e1422 n1424 o1425 => ?_) sc_paired.nd
  obtain ⟨ahead1419, q1420, hm⟩ := ltE hm
  have iv1426 := Iv.sl iv1417 2 e1422 n1424 o1425 q1420
  obtain ⟨hc1427, hm⟩ := chkE hm
  obtain ⟨o1428, ho1429, hm⟩ := bndE hm
  refine do_forO (υ := ((List (Option Int)) × (List (Option Int)))) PassesOwn.never rfl (ei_range1 z_range (ev_len z_len (Ev.r (ev_var 0 rfl (Iv.fz (x := (behind1406 : (List (List Int)))) iv1426 0)))) hc1427) (pg_name (i := 3) sc_paired.nd rfl (by first | exact Or.inl rfl | exact Or.inr rfl)) tg_n ho1429 (fun (b1430 : ((List (Option Int)) × (List (Option Int)))) (σ' : L2.St) (t' : S) => ∃ (y_came : Option V) (y_ends : Option V) (y_place : Option V) (y_one : Option V) (y_left : Option V) (y_begin : Option V), σ' = [some abehind, some (.ref p1414), some (.ref p1423), y_begin, y_came, y_ends, y_place, y_one, y_left] ∧ Iv K P0 s0 t' [fz abehind (behind1406 : (List (List Int))), ol p1414 (b1430.1 : (List (Option Int))), ol p1423 (b1430.2 : (List (Option Int))), top, top, top, top, top, top, top, top]) (fun s1661 k1662 => by have iv1663 := Iv.ex iv1426 k1662; exact ⟨_, _, _, _, _, _, rfl, Iv.sel iv1663 [some 0, some 1, some 2, none, none, none, none, none, none, none, none] (by decide +kernel) (by kernel_rfl)⟩) (fun s1433 k1434 x1432 b1430 b1431 σ1443 σ1444 t1441 t1442 hx1435 hm1436 fl1437 hR1438 k1439 hB1440 => ?_) (fun s1655 k1656 σ1657 t1658 fl1659 hR1660 => ?_)
  · have hf1445 := Fle.trans k1434.f fl1437
    obtain ⟨y1446, y1447, y1448, y1449, y1450, y1451, rfl, iv1452⟩ := hR1438
    obtain ⟨v1453, r1454, rfl⟩ := hB1440
    have iv1455 := Iv.ex iv1452 k1439
    have iv1456 := Iv.sf iv1455 3 (Ex.refl t1442) r1454 rfl
    have fl1457 := Fle.trans (Fle.refl t1442.F) (Ex.refl t1442).f
    obtain ⟨found_ways1462, h_found_ways1462, hm1436⟩ := bndE hm1436
    refine do_setG 4 (eg_call (ok' := (fun v L' => ∃ (bres : Addr), v = (.ref bres) ∧ L' = [od bres (found_ways1462 : (List (Int × Int)))])) (ca_fn (E := fun _ _ _ _ => False) C_found_ways pass00 hr (by decide) (ea_cons (ev_var 0 rfl (Iv.fz (x := (behind1406 : (List (List Int)))) iv1456 0)) (ea_cons (raw_var 2 rfl) (ea_cons (EvN.ev (en_list (xs := ([x1432] : List Int)) (ee_cons (ev_var 3 rfl (Iv.fz (x := (x1432 : Int)) iv1456 3)) ee_nil) (by simp [sizeLine]))) ea_nil)))) iv1456 ro0 [.inl 2] (fun vs s2 k2 r2 => by obtain ⟨v1458, _, rfl, r1459, _, _, rfl, rfl, v1460, _, rfl, r1461, rfl⟩ := r2; exact ⟨[fz v1458 (behind1406 : (List (List Int))), fz v1460 (([x1432] : List Int) : (List Int))], ⟨v1458, (p1423), v1460, rfl, rfl, (wk_cons wk_rfl wk_nil)⟩, (all_cons r1459 (all_cons r1461 all_nil)), (fun v L' z => by obtain ⟨_, _, _, e, z⟩ := z; cases e; exact z), (fun e L' z => z.elim)⟩) h_found_ways1462) (fun v1464 s1465 L1466 z1469 iv1467 => ?_) sc_paired.nd
    obtain ⟨p1463, rfl, rfl⟩ := z1469
    have iv1468 := Iv.add iv1456 iv1467
    have iv1470 : Iv K P0 s0 s1465 [fz abehind (behind1406 : (List (List Int))), ol p1414 (b1430.1 : (List (Option Int))), ol p1423 (b1430.2 : (List (Option Int))), fz v1453 (x1432 : Int), od p1463 (found_ways1462 : (List (Int × Int))), top, top, top, top, top, top] := Iv.sel iv1468 [some 0, some 1, some 2, some 3, some 11, none, none, none, none, none, none] (by decide +kernel) (by kernel_rfl)
    have fl1471 := Fle.trans (Fle.refl t1442.F) (Ex.f (Iv.exx iv1467))
    obtain ⟨ys1491, h_ys1491, hm1436⟩ := bndE hm1436
    obtain ⟨hc1492, hm1436⟩ := chkE hm1436
    refine do_setLK 5 iv1470 4 rfl (fun ob1472 kv1473 s1474 iv1475 => (en_comp1G (own := [("place", 6)]) (j := 6) (t := fun (x1476 : Int) => (bnd (atI b1430.2 x1476) fun at1490 => (some (at1490).isNone))) (f := fun (x1476 : Int) => (some x1476)) (fun _ _ e h => GD.ex h e) (Iv.gd iv1475 4) rfl sc_paired.nd (ei_keys (raw_var 4 rfl) (Iv.gd iv1475 4)) (blkOk_by (own := [("place", 6)]) (N := N_paired) (sc := defScope s_paired) (by decide +kernel)) rfl (by decide) (fun _ _ _ _ _ => pg_name (i := 6) sc_paired.nd rfl (by first | exact Or.inl rfl | exact Or.inr rfl)) h_ys1491 hc1492 (fun x1476 y1477 v1487 s1478 hx1480 e1479 r1488 hf1481 _ _ _ _ _ => by have z1483 := Own.ex (p := p1423) (xs := (b1430.2 : (List (Option Int)))) (Iv.ol (xs := (b1430.2 : (List (Option Int)))) iv1475 2) e1479; obtain ⟨at1490, h_at1490, hf1481⟩ := bndE hf1481; obtain rfl := Option.some.inj hf1481; exact (EvB.t (eb_isN (ev_ix (er_raw (xs := (b1430.2 : (List (Option Int)))) (raw_var 2 rfl) (Own.r z1483)) (ev_var 6 rfl r1488) h_at1490)))) (fun x1476 y1477 v1487 s1478 hx1480 e1479 r1488 ht1493 hf1481 _ _ _ _ _ => by obtain rfl := Option.some.inj hf1481; exact (ev_var 6 rfl r1488)))) (fun p1500 s1496 e1497 n1501 o1502 => ?_) rfl rfl
    obtain ⟨s1503, hs1504, e1505, r1499⟩ := frz_ex e1497 n1501 o1502
    rw [← hs1504]
    obtain ⟨ends1494, q1495, hm1436⟩ := ltE hm1436
    have iv1506 := Iv.sf iv1470 5 e1505 r1499 q1495
    have fl1507 := Fle.trans fl1471 e1505.f
    refine do_set 6 (ev_nonO (α := Int)) (fun v1512 s1510 e1511 r1513 => ?_) sc_paired.nd
    obtain ⟨place1508, q1509, hm1436⟩ := ltE hm1436
    have iv1514 := Iv.sf iv1506 6 e1511 r1513 q1509
    have fl1515 := Fle.trans fl1507 e1511.f
    obtain ⟨b1537, hj1538, hm1436⟩ := bndE hm1436
    refine do_if (et_tru (Ev.r (ev_var 5 rfl (Iv.fz (x := (ends1494 : (List Int))) iv1514 5)))) (fun (σ' : L2.St) (t' : S) => Fle s1510.F t'.F ∧ ∃ (v_place : V), σ' = [some abehind, some (.ref p1414), some (.ref p1423), some v1453, some (.ref p1463), some (V.ref p1500), some v_place, y1449, y1450] ∧ Iv K P0 s0 t' [fz abehind (behind1406 : (List (List Int))), ol p1414 (b1430.1 : (List (Option Int))), ol p1423 (b1430.2 : (List (Option Int))), fz v1453 (x1432 : Int), od p1463 (found_ways1462 : (List (Int × Int))), fz (V.ref p1500) (ends1494 : (List Int)), fz v_place (b1537 : (Option Int)), top, top, top, top]) (fun hb1539 s1540 e1541 => ?_) (fun hb1556 s1557 e1558 => ?_) (fun σ1563 s1564 hM1565 => ?_)
    · have hm1542 := iteE1 hj1538 hb1539
      have iv1543 := Iv.ex iv1514 e1541
      have fl1544 := Fle.trans fl1515 e1541.f
      have fl1545 := Fle.trans (Fle.refl s1510.F) e1541.f
      obtain ⟨at1546, h_at1546, hm1542⟩ := bndE hm1542
      refine do_set 6 (ev_some (ev_ix (Ev.r (ev_var 5 rfl (Iv.fz (x := (ends1494 : (List Int))) iv1543 5))) ev_int h_at1546)) (fun v1551 s1549 e1550 r1552 => ?_) sc_paired.nd
      obtain ⟨place1547, q1548, hm1542⟩ := ltE hm1542
      have iv1553 := Iv.sf iv1543 6 e1550 r1552 q1548
      have fl1554 := Fle.trans fl1544 e1550.f
      have fl1555 := Fle.trans fl1545 e1550.f
      obtain rfl := Option.some.inj hm1542
      exact do_nil ⟨s1549, rfl, fl1555, ⟨v1551, rfl, Iv.sel iv1553 [some 0, some 1, some 2, some 3, some 4, some 5, some 6, none, none, none, none] (by decide +kernel) (by kernel_rfl)⟩⟩
    · have hm1559 := iteE2 hj1538 hb1556
      have iv1560 := Iv.ex iv1514 e1558
      have fl1561 := Fle.trans fl1515 e1558.f
      have fl1562 := Fle.trans (Fle.refl s1510.F) e1558.f
      obtain rfl := Option.some.inj hm1559
      exact do_nil ⟨s1557, rfl, fl1562, ⟨v1512, rfl, Iv.sel iv1560 [some 0, some 1, some 2, some 3, some 4, some 5, some 6, none, none, none, none] (by decide +kernel) (by kernel_rfl)⟩⟩
    · obtain ⟨hf1566, hR1567⟩ := hM1565
      obtain ⟨v1568, rfl, iv1569⟩ := hR1567
      have fl1570 := Fle.trans fl1515 hf1566
      obtain ⟨o1571, ho1572, hm1436⟩ := bndE hm1436
      refine do_whileO (υ := ((List (Option Int)) × (List (Option Int)) × (Option Int))) PassesOwn.never ho1572 (fun (b1573 : ((List (Option Int)) × (List (Option Int)) × (Option Int))) (σ' : L2.St) (t' : S) => ∃ (v_place : V) (y_one : Option V) (y_left : Option V), σ' = [some abehind, some (.ref p1414), some (.ref p1423), some v1453, some (.ref p1463), some (V.ref p1500), some v_place, y_one, y_left] ∧ Iv K P0 s0 t' [fz abehind (behind1406 : (List (List Int))), ol p1414 (b1573.1 : (List (Option Int))), ol p1423 (b1573.2.1 : (List (Option Int))), fz v1453 (x1432 : Int), od p1463 (found_ways1462 : (List (Int × Int))), fz (V.ref p1500) (ends1494 : (List Int)), fz v_place (b1573.2.2 : (Option Int)), top, top, top, top]) ⟨v1568, _, _, rfl, Iv.sel iv1569 [some 0, some 1, some 2, some 3, some 4, some 5, some 6, none, none, none, none] (by decide +kernel) (by kernel_rfl)⟩ (fun b1573 x1579 σ1576 t1575 hm1580 fl1577 hR1578 => ?_) (fun b1573 b1574 σ1587 t1585 t1586 hc1591 hm1592 fl1588 hR1589 k1590 => ?_) (fun σ1642 t1643 t1644 hc1645 fl1646 hR1647 k1648 => ?_)
      · obtain ⟨v1581, y1582, y1583, rfl, iv1584⟩ := hR1578
        obtain rfl := Option.some.inj hm1580
        exact (EvB.t (eb_notN (ev_var 6 rfl (Iv.fz (x := (b1573.2.2 : (Option Int))) iv1584 6))))
      · obtain ⟨v1593, y1594, y1595, rfl, iv1596⟩ := hR1589
        have iv1597 := Iv.ex iv1596 k1590
        obtain ⟨got1598, h_got1598, hm1592⟩ := bndE hm1592
        obtain ⟨got1599, h_got1599, hm1592⟩ := bndE hm1592
        refine do_set 7 (ev_dget hr (raw_var 4 rfl) (OwnD.r (Iv.od (xs := (found_ways1462 : (List (Int × Int)))) iv1597 4)) (ev_some' (ev_var 6 rfl (Iv.fz (x := (b1573.2.2 : (Option Int))) iv1597 6)) h_got1598) h_got1599) (fun v1604 s1602 e1603 r1605 => ?_) sc_paired.nd
        obtain ⟨one1600, q1601, hm1592⟩ := ltE hm1592
        have iv1606 := Iv.sf iv1597 7 e1603 r1605 q1601
        have fl1607 := Fle.trans (Fle.refl t1586.F) e1603.f
        obtain ⟨at1608, h_at1608, hm1592⟩ := bndE hm1592
        refine do_set 8 (ev_ix (er_raw (xs := (b1573.1 : (List (Option Int)))) (raw_var 1 rfl) (Own.r (Iv.ol (xs := (b1573.1 : (List (Option Int)))) iv1606 1))) (ev_var 7 rfl (Iv.fz (x := (one1600 : Int)) iv1606 7)) h_at1608) (fun v1613 s1611 e1612 r1614 => ?_) sc_paired.nd
        obtain ⟨left1609, q1610, hm1592⟩ := ltE hm1592
        have iv1615 := Iv.sf iv1606 8 e1612 r1614 q1610
        have fl1616 := Fle.trans fl1607 e1612.f
        obtain ⟨j1622, h_j1622, hm1592⟩ := bndE hm1592
        refine do_setItemP (raw_var 1 rfl) (Iv.ol (xs := (b1573.1 : (List (Option Int)))) iv1615 1) (ev_var 6 rfl (Iv.fz (x := (b1573.2.2 : (Option Int))) iv1615 6)) (ev_var 7 rfl (Iv.fz (x := (one1600 : Int)) iv1615 7)) h_j1622 (fun s1617 m1618 o1619 => ?_)
        obtain ⟨ls1620, q1621, hm1592⟩ := ltE hm1592
        have iv1623 := Iv.ml iv1615 1 m1618 o1619 q1621
        have fl1624 := Fle.trans fl1616 m1618.f
        obtain ⟨got1630, h_got1630, hm1592⟩ := bndE hm1592
        obtain ⟨j1631, h_j1631, hm1592⟩ := bndE hm1592
        refine do_setItemP (raw_var 2 rfl) (Iv.ol (xs := (b1573.2.1 : (List (Option Int)))) iv1623 2) (ev_some (ev_var 7 rfl (Iv.fz (x := (one1600 : Int)) iv1623 7))) (ev_some' (ev_var 6 rfl (Iv.fz (x := (b1573.2.2 : (Option Int))) iv1623 6)) h_got1630) h_j1631 (fun s1625 m1626 o1627 => ?_)
        obtain ⟨ls1628, q1629, hm1592⟩ := ltE hm1592
        have iv1632 := Iv.ml iv1623 2 m1626 o1627 q1629
        have fl1633 := Fle.trans fl1624 m1626.f
        refine do_set 6 (ev_var 8 rfl (Iv.fz (x := (left1609 : (Option Int))) iv1632 8)) (fun v1638 s1636 e1637 r1639 => ?_) sc_paired.nd
        obtain ⟨place1634, q1635, hm1592⟩ := ltE hm1592
        have iv1640 := Iv.sf iv1632 6 e1637 r1639 q1635
        have fl1641 := Fle.trans fl1633 e1637.f
        obtain rfl := Option.some.inj hm1592
        exact do_nil ⟨s1636, rfl, fl1641, ⟨v1638, _, _, rfl, Iv.sel iv1640 [some 0, some 1, some 2, some 3, some 4, some 5, some 6, none, none, none, none] (by decide +kernel) (by kernel_rfl)⟩⟩
      · obtain ⟨v1649, y1650, y1651, rfl, iv1652⟩ := hR1647
        have iv1653 := Iv.ex iv1652 k1648
        have fl1654 := Fle.trans (Fle.trans fl1570 fl1646) k1648.f
        obtain rfl := Option.some.inj hm1436
        exact do_nil ⟨t1644, rfl, fl1654, ⟨_, _, _, _, _, _, rfl, Iv.sel iv1653 [some 0, some 1, some 2, none, none, none, none, none, none, none, none] (by decide +kernel) (by kernel_rfl)⟩⟩
  · have hf1664 := Fle.trans k1656.f fl1659
    obtain ⟨y1665, y1666, y1667, y1668, y1669, y1670, rfl, iv1671⟩ := hR1660
    obtain rfl := Option.some.inj hm
    refine do_retK (ek_of (eg_tup (egs_cons (eg_raw (raw_var 1 rfl)) (egs_cons (eg_raw (raw_var 2 rfl)) egs_nil)) (fun vs L' z => by obtain ⟨_, _, _, _, rfl, rfl, ⟨rfl, rfl⟩, ⟨_, _, _, _, rfl, rfl, ⟨rfl, rfl⟩, ⟨rfl, rfl⟩⟩⟩ := z; simp)) iv1671) (fun v1676 s1674 z => ?_)
    obtain ⟨L1675, ⟨p1672, _, _, rfl, ⟨_, _, _, _, rfl, rfl, ⟨rfl, rfl⟩, ⟨_, _, _, _, rfl, rfl, ⟨rfl, rfl⟩, ⟨rfl, rfl⟩⟩⟩, rfl⟩, _, iv1673⟩ := z
    exact hQ _ _ _ ⟨abehind, rfl, p1672, p1414, p1423, rfl, rfl⟩ (Iv.sel iv1673 [some 11, some 1, some 2] (by decide +kernel) (by kernel_rfl))
abbrev s_fewest_hands : Stmt := topS 31
def pre_fewest_hands : List V → R_Times × (List (T3 Str Int Int)) × Unit → List OA → List OA → Prop := fun vs x L R => ∃ (atimes : Addr) (atimes_my_names : V) (atimes_my_rows : V) (alines : V), vs = [(.ref atimes), alines] ∧ L = [fz alines (x.2.1 : (List (T3 Str Int Int)))] ∧ Wk R [cell atimes "Times" [("my_names", atimes_my_names), ("my_rows", atimes_my_rows)], fz atimes_my_names (x.1.my_names : (List Str)), fz atimes_my_rows (x.1.my_rows : (List (List Int)))]
def ok_fewest_hands : List V → R_Times × (List (T3 Str Int Int)) × Unit → Rz (((List (List Int)) × (List Int))) → V → List OA → Prop := fun vs x o v L' => ∃ (atimes : Addr) (atimes_my_names : V) (atimes_my_rows : V) (alines : V), vs = [(.ref atimes), alines] ∧ ∃ r : (((List (List Int)) × (List Int))), o = Rz.ok r ∧ (∃ (bres : V), v = bres ∧ L' = [fz bres (r : ((List (List Int)) × (List Int)))])
def er_fewest_hands : List V → R_Times × (List (T3 Str Int Int)) × Unit → Rz (((List (List Int)) × (List Int))) → Er → List OA → Prop := fun vs x o e L' => ∃ (atimes : Addr) (atimes_my_names : V) (atimes_my_rows : V) (alines : V), vs = [(.ref atimes), alines] ∧ o = Rz.er e ∧ L' = []
abbrev N_fewest_hands : List Str := ["times", "lines", "behind", "hands", "place", "begins", "came", "seen", "apart", "after", "ahead", "hand", "now"]
theorem sc_fewest_hands : FnScope N_fewest_hands ["times", "lines"] (defScope s_fewest_hands) := ⟨rfl, rfl, rfl, by decide +kernel, rfl, by decide +kernel, by decide +kernel⟩
noncomputable def m_fewest_hands (times1677 : R_Times) (lines1678 : (List (T3 Str Int Int))) : Option (Rz (((List (List Int)) × (List Int)))) :=
 (tb (a_asked_lines ((⟨times1677.my_names, times1677.my_rows⟩ : R_Times), lines1678, ())) (fun er1684 => (some (Rz.er er1684))) fun asked_lines1683 => none)
noncomputable abbrev a_fewest_hands : R_Times × (List (T3 Str Int Int)) × Unit → Option (Rz (((List (List Int)) × (List Int)))) := fun x => m_fewest_hands x.1 x.2.1
theorem ok_fewest_hands_fn {P : Program} {w : World} {K : PySem.W.Frag} {mg : Str → Option Value} {base : Heap} {f : Addr} {fd : FuncData} (F : FunM K "fewest_hands" "fewest_hands" s_fewest_hands f fd) (C_asked_lines : Cal P w K mg base (L2.CX P w) 3 "asked_lines" (spI K pre_asked_lines a_asked_lines ok_asked_lines er_asked_lines)) : FnOk P w K mg base (L2.CX P w) 6 f fd ["times", "lines"] (spI K pre_fewest_hands a_fewest_hands ok_fewest_hands er_fewest_hands) := by
  refine mk_IX (k := 5) F sc_fewest_hands (fun vs a L R h => by obtain ⟨_, _, _, _, rfl, _⟩ := h; rfl) ?_
  rintro cdv A' outer sh0 H0 X0 hr s0 P0 L0 R0 vs ⟨times1677, lines1678, _⟩ o0 Q ⟨atimes, atimes_my_names, atimes_my_rows, alines, rfl, rfl, wk⟩ iv1679 ro hm hQ hE
  replace ro := ro.wk wk
  unfold a_fewest_hands m_fewest_hands at hm
  try dsimp only at hm
  have iv1680 : Iv K P0 s0 s0 [top, fz alines (lines1678 : (List (T3 Str Int Int))), top, top, top, top, top, top, top, top, top, top, top, top, top] := Iv.sel iv1679 [none, some 0, none, none, none, none, none, none, none, none, none, none, none, none, none] (by decide +kernel) (by kernel_rfl)
  rcases tbE hm with ⟨er1684, he1685, hm⟩ | ⟨asked_lines1683, h_asked_lines1683, hm⟩
  · obtain rfl := Option.some.inj hm
    refine do_dropX (ex_callG (er' := fun e => e = er1684) (ca_fn (E := L2.WE _) C_asked_lines (fun σ => passAt (takes_of rfl rfl rfl rfl) σ) hr (by decide) (ea_cons (raw_var 0 rfl) (ea_cons (ev_var 1 rfl (Iv.fz (x := (lines1678 : (List (T3 Str Int Int)))) iv1680 1)) ea_nil))) iv1680 ro [.inr 0, .inr 1, .inr 2] (fun vs s2 k2 r2 => by obtain ⟨_, _, rfl, rfl, v1681, _, rfl, r1682, rfl⟩ := r2; exact ⟨[fz v1681 (lines1678 : (List (T3 Str Int Int)))], ⟨(atimes), (atimes_my_names), (atimes_my_rows), v1681, rfl, rfl, (wk_cons wk_rfl (wk_cons wk_rfl (wk_cons wk_rfl wk_nil)))⟩, (all_cons r1682 all_nil), (fun v L' z => by obtain ⟨_, _, _, _, _, r, e2, _⟩ := z; cases e2), (fun e L' z => by obtain ⟨_, _, _, _, _, e2, _⟩ := z; cases e2; rfl)⟩) he1685 (fun e cls d s9 z k9 r9 => by subst z; exact (fun _ _ _ k2 r2 => hE _ _ _ _ _ ⟨atimes, atimes_my_names, atimes_my_rows, alines, rfl, rfl, rfl⟩ (Iv.sel (Iv.ex iv1680 k2) [] (by decide +kernel) (by kernel_rfl)) r2) cls d s9 k9 r9))
  refine do_exprG (eg_call (ok' := (fun v L' => ∃ (bres : V), v = bres ∧ L' = [fz bres (asked_lines1683 : Bool)])) (ca_fn (E := fun _ _ _ _ => False) C_asked_lines passF hr (by decide) (ea_cons (raw_var 0 rfl) (ea_cons (ev_var 1 rfl (Iv.fz (x := (lines1678 : (List (T3 Str Int Int)))) iv1680 1)) ea_nil))) iv1680 ro [.inr 0, .inr 1, .inr 2] (fun vs s2 k2 r2 => by obtain ⟨_, _, rfl, rfl, v1681, _, rfl, r1682, rfl⟩ := r2; exact ⟨[fz v1681 (lines1678 : (List (T3 Str Int Int)))], ⟨(atimes), (atimes_my_names), (atimes_my_rows), v1681, rfl, rfl, (wk_cons wk_rfl (wk_cons wk_rfl (wk_cons wk_rfl wk_nil)))⟩, (all_cons r1682 all_nil), (fun v L' z => by obtain ⟨_, _, _, _, e, r, e2, z⟩ := z; cases e; cases e2; exact z), (fun e L' z => by obtain ⟨_, _, _, _, _, e2, _⟩ := z; cases e2)⟩) h_asked_lines1683) (fun v1686 s1687 L1688 z1689 iv1690 => ?_)
  have iv1692 := Iv.ex iv1680 (Iv.exx iv1690)
  exact absurd hm (by intro z; cases z)
abbrev s_l_deed : Stmt := topS 43
abbrev N_l_deed : List Str := ["_law_sort", "_law_number", "_law_size", "_law_bars", "_law_times", "_law_k"]
theorem sc_l_deed : FnScope N_l_deed ["_law_sort", "_law_number", "_law_size"] (defScope s_l_deed) := ⟨rfl, rfl, rfl, by decide +kernel, rfl, by decide +kernel, by decide +kernel⟩
noncomputable def m_l_deed (sort1693 : Int) (number1696 : Int) (size1699 : Int) : Option (Rz Unit) :=
 (chk (RepOk size1699 (([number1696] : List Int)).length) (lt ((repl size1699 ([number1696] : List Int)) : (List Int)) fun bars1704 =>
 (tb (a_Times_init (([("oboe" : Str), ("cor" : Str)] : List Str), ([([(0 : Int), number1696] : List Int), ([number1696, (0 : Int)] : List Int)] : List (List Int)), ())) (fun er1716 => (some (Rz.er er1716))) fun init1715 => (if (decide (sort1693 = (0 : Int))) = true then
 (chk ((bars1704).length + (([((-(1 : Int)) - number1696)] : List Int)).length ≤ sizeLine) (tb (m_asked_bars (bars1704 ++ ([((-(1 : Int)) - number1696)] : List Int))) (fun er1735 => (some (Rz.er er1735))) fun asked_bars1734 => none))
 else
 (if (decide (sort1693 = (1 : Int))) = true then
 (tb (m_least_book ([] : List Int) size1699 (2 : Int)) (fun er1751 => (some (Rz.er er1751))) fun least_book1750 => none)
 else
 (if (decide (sort1693 = (2 : Int))) = true then
 (tb (m_loss_at bars1704 (2 : Int) (0 : Int)) (fun er1767 => (some (Rz.er er1767))) fun loss_at1766 => none)
 else
 (if (decide (sort1693 = (3 : Int))) = true then
 (tb (m_loss_of bars1704 (2 : Int) ([size1699] : List Int)) (fun er1783 => (some (Rz.er er1783))) fun loss_of1782 => none)
 else
 (if (decide (sort1693 = (4 : Int))) = true then
 (chk (RepOk size1699 (([("oboe" : Str)] : List Str)).length) (chk (RgB size1699) (bnd (mapO (fun (x1802 : Int) => (chk (RepOk size1699 (([(0 : Int)] : List Int)).length) (some (repl size1699 ([(0 : Int)] : List Int))))) (rng 0 size1699)) fun ys1818 => (chk ((ys1818).length ≤ sizeLine) (tb (a_Times_init ((repl size1699 ([("oboe" : Str)] : List Str)), ys1818, ())) (fun er1823 => (some (Rz.er er1823))) fun init1822 => none)))))
 else
 (if (decide (sort1693 = (5 : Int))) = true then
 (tb (a_Times_time ((⟨init1715.my_names, init1715.my_rows⟩ : R_Times), ("oboe" : Str), ("horn" : Str), ())) (fun er1847 => (some (Rz.er er1847))) fun time1846 => none)
 else
 (if (decide (sort1693 = (6 : Int))) = true then
 (chk (RepOk size1699 (([(⟨("oboe" : Str), number1696, number1696⟩ : (T3 Str Int Int))] : List (T3 Str Int Int))).length) (chk (((repl size1699 ([(⟨("oboe" : Str), number1696, number1696⟩ : (T3 Str Int Int))] : List (T3 Str Int Int)))).length + (([(⟨("cor" : Str), (number1696 + (1 : Int)), number1696⟩ : (T3 Str Int Int))] : List (T3 Str Int Int))).length ≤ sizeLine) (tb (a_fewest_hands ((⟨init1715.my_names, init1715.my_rows⟩ : R_Times), ((repl size1699 ([(⟨("oboe" : Str), number1696, number1696⟩ : (T3 Str Int Int))] : List (T3 Str Int Int))) ++ ([(⟨("cor" : Str), (number1696 + (1 : Int)), number1696⟩ : (T3 Str Int Int))] : List (T3 Str Int Int))), ())) (fun er1871 => (some (Rz.er er1871))) fun fewest_hands1870 => none)))
 else
 (if (decide (sort1693 = (7 : Int))) = true then
 (chk (RepOk size1699 (([(⟨("oboe" : Str), number1696, number1696⟩ : (T3 Str Int Int))] : List (T3 Str Int Int))).length) (chk (((repl size1699 ([(⟨("oboe" : Str), number1696, number1696⟩ : (T3 Str Int Int))] : List (T3 Str Int Int)))).length + (([(⟨("horn" : Str), number1696, number1696⟩ : (T3 Str Int Int))] : List (T3 Str Int Int))).length ≤ sizeLine) (tb (a_fewest_hands ((⟨init1715.my_names, init1715.my_rows⟩ : R_Times), ((repl size1699 ([(⟨("oboe" : Str), number1696, number1696⟩ : (T3 Str Int Int))] : List (T3 Str Int Int))) ++ ([(⟨("horn" : Str), number1696, number1696⟩ : (T3 Str Int Int))] : List (T3 Str Int Int))), ())) (fun er1895 => (some (Rz.er er1895))) fun fewest_hands1894 => none)))
 else
 (some (Rz.ok ())))))))))))))
noncomputable abbrev a_l_deed : Int × Int × Int × Unit → Option (Rz Unit) := fun a => m_l_deed a.1 a.2.1 a.2.2.1
theorem ok_l_deed {P : Program} {w : World} {K : PySem.W.Frag} {mg : Str → Option Value} {base : Heap} {f : Addr} {fd : FuncData} (F : FunP K "_law_deed" s_l_deed f fd) (hmg : mg "_law_deed" = some (.ref f)) (C_Times_init : CalC P w K mg base (L2.CX P w) 3 "Times" (spI K pre_Times_init a_Times_init ok_Times_init er_Times_init)) (C_asked_bars : Cal P w K mg base (L2.CX P w) 1 "asked_bars" (spR K a_asked_bars)) (C_least_book : Cal P w K mg base (L2.CX P w) 6 "least_book" (spR K a_least_book)) (C_loss_at : Cal P w K mg base (L2.CX P w) 5 "loss_at" (spR K a_loss_at)) (C_loss_of : Cal P w K mg base (L2.CX P w) 6 "loss_of" (spR K a_loss_of)) (C_Times_time : CalM P w K mg base (L2.CX P w) 3 "Times" "time" (spI K pre_Times_time a_Times_time ok_Times_time er_Times_time)) (C_fewest_hands : Cal P w K mg base (L2.CX P w) 6 "fewest_hands" (spI K pre_fewest_hands a_fewest_hands ok_fewest_hands er_fewest_hands)) (z_range : mg "range" = none) (CL_Times : ClsF K "Times" ["my_names", "my_rows"] ["__init__", "names", "time"]) : Cal P w K mg base (L2.CX P w) 7 "_law_deed" (spR K a_l_deed) := by
  refine mk_calR (k := 6) F hmg (F.bindsN fun _ _ _ _ _ _ us hl => match us, hl with | [_, _, _], _ => rfl) sc_l_deed len3 ?_
  rintro cdv A' outer sh0 H0 X0 hr s0 vs ⟨sort1693, number1696, size1699, _⟩ r0 Q ⟨v1694, _, rfl, r1695, v1697, _, rfl, r1698, v1700, _, rfl, r1701, rfl⟩ hm hQ
  unfold a_l_deed m_l_deed at hm
  dsimp only at hm
  have iv1702 : Iv K (fun _ => False) s0 s0 [fz v1694 (sort1693 : Int), fz v1697 (number1696 : Int), fz v1700 (size1699 : Int), top, top, top, top, top] := (Iv.sf (Iv.sf (Iv.sf (Iv.tops (K := K) (P0 := (fun _ => False)) 8 s0) 0 (Ex.refl s0) r1695 rfl) 1 (Ex.refl s0) r1698 rfl) 2 (Ex.refl s0) r1701 rfl)
  obtain ⟨hc1703, hm⟩ := chkE hm
  refine do_set 3 (EvN.ev (en_rep (en_list (xs := ([number1696] : List Int)) (ee_cons (ev_var 1 rfl (Iv.fz (x := (number1696 : Int)) iv1702 1)) ee_nil) (by simp [sizeLine])) (fun _ hk => Ev.mono (ev_var 2 rfl (Iv.fz (x := (size1699 : Int)) iv1702 2)) hk) hc1703)) (fun v1708 s1706 e1707 r1709 => ?_) sc_l_deed.nd
  obtain ⟨bars1704, q1705, hm⟩ := ltE hm
  have iv1710 := Iv.sf iv1702 3 e1707 r1709 q1705
  rcases tbE hm with ⟨er1716, he1717, hm⟩ | ⟨init1715, h_init1715, hm⟩
  · obtain rfl := Option.some.inj hm
    refine do_setX 4 (ex_make (er' := fun e => e = er1716) (ca_make (E := L2.WE _) C_Times_init (fun σ => passAt (takes_of rfl rfl rfl rfl) σ) hr (by decide) (ea_cons (EvN.ev (en_list (xs := ([("oboe" : Str), ("cor" : Str)] : List Str)) (ee_cons ev_str (ee_cons ev_str ee_nil)) (by simp [sizeLine]))) (ea_cons (EvN.ev (en_list (xs := ([([(0 : Int), number1696] : List Int), ([number1696, (0 : Int)] : List Int)] : List (List Int))) (ee_cons (EvN.ev (en_list (xs := ([(0 : Int), number1696] : List Int)) (ee_cons ev_int (ee_cons (ev_var 1 rfl (Iv.fz (x := (number1696 : Int)) iv1710 1)) ee_nil)) (by simp [sizeLine]))) (ee_cons (EvN.ev (en_list (xs := ([number1696, (0 : Int)] : List Int)) (ee_cons (ev_var 1 rfl (Iv.fz (x := (number1696 : Int)) iv1710 1)) (ee_cons ev_int ee_nil)) (by simp [sizeLine]))) ee_nil)) (by simp [sizeLine]))) ea_nil))) iv1710 ro0 [] (fun vs s2 pnew k2 r2 => by obtain ⟨v1711, _, rfl, r1712, v1713, _, rfl, r1714, rfl⟩ := r2; exact ⟨[fz v1711 (([("oboe" : Str), ("cor" : Str)] : List Str) : (List Str)), fz v1713 (([([(0 : Int), number1696] : List Int), ([number1696, (0 : Int)] : List Int)] : List (List Int)) : (List (List Int)))], ⟨pnew, v1711, v1713, rfl, rfl, rfl⟩, (fun A s3 k3 hA => AllF.ex (all_cons r1712 (all_cons r1714 all_nil)) k3 A hA), (fun v L' z => by obtain ⟨_, _, _, _, r, e2, _⟩ := z; cases e2), (fun e L' z => by obtain ⟨_, _, _, _, e2, _⟩ := z; cases e2; rfl)⟩) he1717 (fun e cls d s2' z k2' r2' => by subst z; exact (fun a1 a2 a3 k2 r2 => hQ a1 a2 a3 (Ex.trans (Iv.exx iv1710) k2) r2) _ _ s2' k2' r2')) sc_l_deed.nd
  refine do_setG 4 (eg_make (ok' := (fun v L' => ∃ pnew : Addr, ∃ (bself_my_names : V) (bself_my_rows : V), v = .ref pnew ∧ L' = [cell pnew "Times" [("my_names", bself_my_names), ("my_rows", bself_my_rows)], fz bself_my_names (init1715.my_names : (List Str)), fz bself_my_rows (init1715.my_rows : (List (List Int)))])) (ca_make (E := fun _ _ _ _ => False) C_Times_init passF hr (by decide) (ea_cons (EvN.ev (en_list (xs := ([("oboe" : Str), ("cor" : Str)] : List Str)) (ee_cons ev_str (ee_cons ev_str ee_nil)) (by simp [sizeLine]))) (ea_cons (EvN.ev (en_list (xs := ([([(0 : Int), number1696] : List Int), ([number1696, (0 : Int)] : List Int)] : List (List Int))) (ee_cons (EvN.ev (en_list (xs := ([(0 : Int), number1696] : List Int)) (ee_cons ev_int (ee_cons (ev_var 1 rfl (Iv.fz (x := (number1696 : Int)) iv1710 1)) ee_nil)) (by simp [sizeLine]))) (ee_cons (EvN.ev (en_list (xs := ([number1696, (0 : Int)] : List Int)) (ee_cons (ev_var 1 rfl (Iv.fz (x := (number1696 : Int)) iv1710 1)) (ee_cons ev_int ee_nil)) (by simp [sizeLine]))) ee_nil)) (by simp [sizeLine]))) ea_nil))) iv1710 ro0 [] (fun vs s2 pnew k2 r2 => by obtain ⟨v1711, _, rfl, r1712, v1713, _, rfl, r1714, rfl⟩ := r2; exact ⟨[fz v1711 (([("oboe" : Str), ("cor" : Str)] : List Str) : (List Str)), fz v1713 (([([(0 : Int), number1696] : List Int), ([number1696, (0 : Int)] : List Int)] : List (List Int)) : (List (List Int)))], ⟨pnew, v1711, v1713, rfl, rfl, rfl⟩, (fun A s3 k3 hA => AllF.ex (all_cons r1712 (all_cons r1714 all_nil)) k3 A hA), (fun v L' z => by obtain ⟨_, _, _, e, r, e2, z⟩ := z; cases e; cases e2; obtain ⟨x0, x1, rfl, z⟩ := z; exact ⟨rfl, _, x0, x1, rfl, z⟩), (fun e L' z => by obtain ⟨_, _, _, _, e2, _⟩ := z; cases e2)⟩) h_init1715) (fun v1721 s1722 L1723 z1726 iv1724 => ?_) sc_l_deed.nd
  obtain ⟨p1718, v1719, v1720, rfl, rfl⟩ := z1726
  have iv1725 := Iv.add iv1710 iv1724
  have iv1727 : Iv K (fun _ => False) s0 s1722 [fz v1694 (sort1693 : Int), fz v1697 (number1696 : Int), fz v1700 (size1699 : Int), fz v1708 (bars1704 : (List Int)), cell p1718 "Times" [("my_names", v1719), ("my_rows", v1720)], top, fz v1719 (init1715.my_names : (List Str)), fz v1720 (init1715.my_rows : (List (List Int)))] := Iv.sel iv1725 [some 0, some 1, some 2, some 3, some 8, none, some 9, some 10] (by decide +kernel) (by kernel_rfl)
  refine do_ifC (EvB.t (eb_eq (ev_var 0 rfl (Iv.fz (x := (sort1693 : Int)) iv1727 0)) ev_int)) (fun hb1728 s1729 e1730 => ?_) (fun hb1740 s1741 e1742 => ?_)
  · have hm1731 := iteE1 hm hb1728
    have iv1732 := Iv.ex iv1727 e1730
    obtain ⟨hc1733, hm1731⟩ := chkE hm1731
    rcases tbE hm1731 with ⟨er1735, he1736, hm1731⟩ | ⟨asked_bars1734, h_asked_bars1734, hm1731⟩
    · obtain rfl := Option.some.inj hm1731
      refine do_dropX (evX_call C_asked_bars (takes_of rfl rfl rfl rfl) hr (by decide) (ea_cons (EvN.ev (en_cat (Ev.r (ev_var 3 rfl (Iv.fz (x := (bars1704 : (List Int))) iv1732 3))) (EvN.r (en_list (xs := ([((-(1 : Int)) - number1696)] : List Int)) (ee_cons (ev_sub (ev_neg ev_int) (ev_var 1 rfl (Iv.fz (x := (number1696 : Int)) iv1732 1))) ee_nil) (by simp [sizeLine]))) hc1733)) ea_nil) he1736 (fun a1 a2 a3 k2 r2 => hQ a1 a2 a3 (Ex.trans (Iv.exx iv1732) k2) r2))
    refine do_drop (ev_callR C_asked_bars hr (by decide) (ea_cons (EvN.ev (en_cat (Ev.r (ev_var 3 rfl (Iv.fz (x := (bars1704 : (List Int))) iv1732 3))) (EvN.r (en_list (xs := ([((-(1 : Int)) - number1696)] : List Int)) (ee_cons (ev_sub (ev_neg ev_int) (ev_var 1 rfl (Iv.fz (x := (number1696 : Int)) iv1732 1))) ee_nil) (by simp [sizeLine]))) hc1733)) ea_nil) h_asked_bars1734) (fun s1737 e1738 => ?_)
    have iv1739 := Iv.ex iv1732 e1738
    exact absurd hm1731 (by intro z; cases z)
  · have hm1743 := iteE2 hm hb1740
    have iv1744 := Iv.ex iv1727 e1742
    refine do_nil (show WSs _ _ _ _ _ from ?_)
    refine do_ifC (EvB.t (eb_eq (ev_var 0 rfl (Iv.fz (x := (sort1693 : Int)) iv1744 0)) ev_int)) (fun hb1745 s1746 e1747 => ?_) (fun hb1756 s1757 e1758 => ?_)
    · have hm1748 := iteE1 hm1743 hb1745
      have iv1749 := Iv.ex iv1744 e1747
      rcases tbE hm1748 with ⟨er1751, he1752, hm1748⟩ | ⟨least_book1750, h_least_book1750, hm1748⟩
      · obtain rfl := Option.some.inj hm1748
        refine do_dropX (evX_call C_least_book (takes_of rfl rfl rfl rfl) hr (by decide) (ea_cons (EvN.ev (en_list (xs := ([] : List Int)) ee_nil (by simp [sizeLine]))) (ea_cons (ev_var 2 rfl (Iv.fz (x := (size1699 : Int)) iv1749 2)) (ea_cons ev_int ea_nil))) he1752 (fun a1 a2 a3 k2 r2 => hQ a1 a2 a3 (Ex.trans (Iv.exx iv1749) k2) r2))
      refine do_drop (ev_callR C_least_book hr (by decide) (ea_cons (EvN.ev (en_list (xs := ([] : List Int)) ee_nil (by simp [sizeLine]))) (ea_cons (ev_var 2 rfl (Iv.fz (x := (size1699 : Int)) iv1749 2)) (ea_cons ev_int ea_nil))) h_least_book1750) (fun s1753 e1754 => ?_)
      have iv1755 := Iv.ex iv1749 e1754
      exact absurd hm1748 (by intro z; cases z)
    · have hm1759 := iteE2 hm1743 hb1756
      have iv1760 := Iv.ex iv1744 e1758
      refine do_nil (show WSs _ _ _ _ _ from ?_)
      refine do_ifC (EvB.t (eb_eq (ev_var 0 rfl (Iv.fz (x := (sort1693 : Int)) iv1760 0)) ev_int)) (fun hb1761 s1762 e1763 => ?_) (fun hb1772 s1773 e1774 => ?_)
      · have hm1764 := iteE1 hm1759 hb1761
        have iv1765 := Iv.ex iv1760 e1763
        rcases tbE hm1764 with ⟨er1767, he1768, hm1764⟩ | ⟨loss_at1766, h_loss_at1766, hm1764⟩
        · obtain rfl := Option.some.inj hm1764
          refine do_dropX (evX_call C_loss_at (takes_of rfl rfl rfl rfl) hr (by decide) (ea_cons (ev_var 3 rfl (Iv.fz (x := (bars1704 : (List Int))) iv1765 3)) (ea_cons ev_int (ea_cons ev_int ea_nil))) he1768 (fun a1 a2 a3 k2 r2 => hQ a1 a2 a3 (Ex.trans (Iv.exx iv1765) k2) r2))
        refine do_drop (ev_callR C_loss_at hr (by decide) (ea_cons (ev_var 3 rfl (Iv.fz (x := (bars1704 : (List Int))) iv1765 3)) (ea_cons ev_int (ea_cons ev_int ea_nil))) h_loss_at1766) (fun s1769 e1770 => ?_)
        have iv1771 := Iv.ex iv1765 e1770
        exact absurd hm1764 (by intro z; cases z)
      · have hm1775 := iteE2 hm1759 hb1772
        have iv1776 := Iv.ex iv1760 e1774
        refine do_nil (show WSs _ _ _ _ _ from ?_)
        refine do_ifC (EvB.t (eb_eq (ev_var 0 rfl (Iv.fz (x := (sort1693 : Int)) iv1776 0)) ev_int)) (fun hb1777 s1778 e1779 => ?_) (fun hb1788 s1789 e1790 => ?_)
        · have hm1780 := iteE1 hm1775 hb1777
          have iv1781 := Iv.ex iv1776 e1779
          rcases tbE hm1780 with ⟨er1783, he1784, hm1780⟩ | ⟨loss_of1782, h_loss_of1782, hm1780⟩
          · obtain rfl := Option.some.inj hm1780
            refine do_dropX (evX_call C_loss_of (takes_of rfl rfl rfl rfl) hr (by decide) (ea_cons (ev_var 3 rfl (Iv.fz (x := (bars1704 : (List Int))) iv1781 3)) (ea_cons ev_int (ea_cons (EvN.ev (en_list (xs := ([size1699] : List Int)) (ee_cons (ev_var 2 rfl (Iv.fz (x := (size1699 : Int)) iv1781 2)) ee_nil) (by simp [sizeLine]))) ea_nil))) he1784 (fun a1 a2 a3 k2 r2 => hQ a1 a2 a3 (Ex.trans (Iv.exx iv1781) k2) r2))
          refine do_drop (ev_callR C_loss_of hr (by decide) (ea_cons (ev_var 3 rfl (Iv.fz (x := (bars1704 : (List Int))) iv1781 3)) (ea_cons ev_int (ea_cons (EvN.ev (en_list (xs := ([size1699] : List Int)) (ee_cons (ev_var 2 rfl (Iv.fz (x := (size1699 : Int)) iv1781 2)) ee_nil) (by simp [sizeLine]))) ea_nil))) h_loss_of1782) (fun s1785 e1786 => ?_)
          have iv1787 := Iv.ex iv1781 e1786
          exact absurd hm1780 (by intro z; cases z)
        · have hm1791 := iteE2 hm1775 hb1788
          have iv1792 := Iv.ex iv1776 e1790
          refine do_nil (show WSs _ _ _ _ _ from ?_)
          refine do_ifC (EvB.t (eb_eq (ev_var 0 rfl (Iv.fz (x := (sort1693 : Int)) iv1792 0)) ev_int)) (fun hb1793 s1794 e1795 => ?_) (fun hb1832 s1833 e1834 => ?_)
          · have hm1796 := iteE1 hm1791 hb1793
            have iv1797 := Iv.ex iv1792 e1795
            obtain ⟨hc1798, hm1796⟩ := chkE hm1796
            obtain ⟨hc1801, hm1796⟩ := chkE hm1796
            obtain ⟨ys1818, h_ys1818, hm1796⟩ := bndE hm1796
            obtain ⟨hc1819, hm1796⟩ := chkE hm1796
            rcases tbE hm1796 with ⟨er1823, he1824, hm1796⟩ | ⟨init1822, h_init1822, hm1796⟩
            · obtain rfl := Option.some.inj hm1796
              refine do_dropX (ex_make (er' := fun e => e = er1823) (ca_make (E := L2.WE _) C_Times_init (fun σ => passAt (takes_of rfl rfl rfl rfl) σ) hr (by decide) (ea_cons (EvN.ev (en_rep (en_list (xs := ([("oboe" : Str)] : List Str)) (ee_cons ev_str ee_nil) (by simp [sizeLine])) (fun _ hk => Ev.mono (ev_var 2 rfl (Iv.fz (x := (size1699 : Int)) iv1797 2)) hk) hc1798)) (ea_cons (EvN.ev (EvL.n (en_comp0 (own := [("_law_k", 5)]) (j := 5) (f := fun (x1802 : Int) => (chk (RepOk size1699 (([(0 : Int)] : List Int)).length) (some (repl size1699 ([(0 : Int)] : List Int))))) rfl sc_l_deed.nd (ei_range1 z_range (ev_var 2 rfl (Iv.fz (x := (size1699 : Int)) iv1797 2)) hc1801) (blkOk_by (own := [("_law_k", 5)]) (N := N_l_deed) (sc := defScope s_l_deed) (by decide +kernel)) rfl (by decide) (fun _ _ _ _ _ => pg_name (i := 5) sc_l_deed.nd rfl (by first | exact Or.inl rfl | exact Or.inr rfl)) h_ys1818 hc1819 (fun x1802 y1803 v1815 s1804 hx1806 e1805 r1816 hf1807 _ _ _ _ _ => by have z1810 := Enc.mono e1805.f (Iv.fz (v := v1700) (x := (size1699 : Int)) iv1797 2); obtain ⟨hc1817, hf1807⟩ := chkE hf1807; obtain rfl := Option.some.inj hf1807; exact (EvN.ev (en_rep (en_list (xs := ([(0 : Int)] : List Int)) (ee_cons ev_int ee_nil) (by simp [sizeLine])) (fun _ hk => Ev.mono (ev_var 2 rfl z1810) hk) hc1817)))))) ea_nil))) iv1797 ro0 [] (fun vs s2 pnew k2 r2 => by obtain ⟨v1799, _, rfl, r1800, v1820, _, rfl, r1821, rfl⟩ := r2; exact ⟨[fz v1799 ((repl size1699 ([("oboe" : Str)] : List Str)) : (List Str)), fz v1820 (ys1818 : (List (List Int)))], ⟨pnew, v1799, v1820, rfl, rfl, rfl⟩, (fun A s3 k3 hA => AllF.ex (all_cons r1800 (all_cons r1821 all_nil)) k3 A hA), (fun v L' z => by obtain ⟨_, _, _, _, r, e2, _⟩ := z; cases e2), (fun e L' z => by obtain ⟨_, _, _, _, e2, _⟩ := z; cases e2; rfl)⟩) he1824 (fun e cls d s2' z k2' r2' => by subst z; exact (fun a1 a2 a3 k2 r2 => hQ a1 a2 a3 (Ex.trans (Iv.exx iv1797) k2) r2) _ _ s2' k2' r2'))
            refine do_exprG (eg_make (ok' := (fun v L' => ∃ pnew : Addr, ∃ (bself_my_names : V) (bself_my_rows : V), v = .ref pnew ∧ L' = [cell pnew "Times" [("my_names", bself_my_names), ("my_rows", bself_my_rows)], fz bself_my_names (init1822.my_names : (List Str)), fz bself_my_rows (init1822.my_rows : (List (List Int)))])) (ca_make (E := fun _ _ _ _ => False) C_Times_init passF hr (by decide) (ea_cons (EvN.ev (en_rep (en_list (xs := ([("oboe" : Str)] : List Str)) (ee_cons ev_str ee_nil) (by simp [sizeLine])) (fun _ hk => Ev.mono (ev_var 2 rfl (Iv.fz (x := (size1699 : Int)) iv1797 2)) hk) hc1798)) (ea_cons (EvN.ev (EvL.n (en_comp0 (own := [("_law_k", 5)]) (j := 5) (f := fun (x1802 : Int) => (chk (RepOk size1699 (([(0 : Int)] : List Int)).length) (some (repl size1699 ([(0 : Int)] : List Int))))) rfl sc_l_deed.nd (ei_range1 z_range (ev_var 2 rfl (Iv.fz (x := (size1699 : Int)) iv1797 2)) hc1801) (blkOk_by (own := [("_law_k", 5)]) (N := N_l_deed) (sc := defScope s_l_deed) (by decide +kernel)) rfl (by decide) (fun _ _ _ _ _ => pg_name (i := 5) sc_l_deed.nd rfl (by first | exact Or.inl rfl | exact Or.inr rfl)) h_ys1818 hc1819 (fun x1802 y1803 v1815 s1804 hx1806 e1805 r1816 hf1807 _ _ _ _ _ => by have z1810 := Enc.mono e1805.f (Iv.fz (v := v1700) (x := (size1699 : Int)) iv1797 2); obtain ⟨hc1817, hf1807⟩ := chkE hf1807; obtain rfl := Option.some.inj hf1807; exact (EvN.ev (en_rep (en_list (xs := ([(0 : Int)] : List Int)) (ee_cons ev_int ee_nil) (by simp [sizeLine])) (fun _ hk => Ev.mono (ev_var 2 rfl z1810) hk) hc1817)))))) ea_nil))) iv1797 ro0 [] (fun vs s2 pnew k2 r2 => by obtain ⟨v1799, _, rfl, r1800, v1820, _, rfl, r1821, rfl⟩ := r2; exact ⟨[fz v1799 ((repl size1699 ([("oboe" : Str)] : List Str)) : (List Str)), fz v1820 (ys1818 : (List (List Int)))], ⟨pnew, v1799, v1820, rfl, rfl, rfl⟩, (fun A s3 k3 hA => AllF.ex (all_cons r1800 (all_cons r1821 all_nil)) k3 A hA), (fun v L' z => by obtain ⟨_, _, _, e, r, e2, z⟩ := z; cases e; cases e2; obtain ⟨x0, x1, rfl, z⟩ := z; exact ⟨rfl, _, x0, x1, rfl, z⟩), (fun e L' z => by obtain ⟨_, _, _, _, e2, _⟩ := z; cases e2)⟩) h_init1822) (fun v1825 s1826 L1827 z1828 iv1829 => ?_)
            have iv1831 := Iv.ex iv1797 (Iv.exx iv1829)
            exact absurd hm1796 (by intro z; cases z)
          · have hm1835 := iteE2 hm1791 hb1832
            have iv1836 := Iv.ex iv1792 e1834
            refine do_nil (show WSs _ _ _ _ _ from ?_)
            refine do_ifC (EvB.t (eb_eq (ev_var 0 rfl (Iv.fz (x := (sort1693 : Int)) iv1836 0)) ev_int)) (fun hb1837 s1838 e1839 => ?_) (fun hb1856 s1857 e1858 => ?_)
            · have hm1840 := iteE1 hm1835 hb1837
              have iv1841 := Iv.ex iv1836 e1839
              rcases tbE hm1840 with ⟨er1847, he1848, hm1840⟩ | ⟨time1846, h_time1846, hm1840⟩
              · obtain rfl := Option.some.inj hm1840
                refine do_dropX (ex_callG (er' := fun e => e = er1847) (ca_meth (E := L2.WE _) C_Times_time CL_Times.cl (fun σ => passAt (takes_of rfl rfl rfl rfl) σ) hr (by decide) (raw_var 4 rfl) (Iv.cell iv1841 4) rfl (ea_cons ev_str (ea_cons ev_str ea_nil))) iv1841 ro0 [.inl 4, .inl 6, .inl 7] (fun vs s2 k2 r2 => by obtain ⟨ws, rfl, r3⟩ := r2; obtain ⟨v1842, _, rfl, r1843, v1844, _, rfl, r1845, rfl⟩ := r3; exact ⟨[fz v1842 (("oboe" : Str) : Str), fz v1844 (("horn" : Str) : Str)], ⟨(p1718), (v1719), (v1720), v1842, v1844, rfl, rfl, (wk_cons wk_rfl (wk_cons wk_rfl (wk_cons wk_rfl wk_nil)))⟩, (all_cons r1843 (all_cons r1845 all_nil)), (fun v L' z => by obtain ⟨_, _, _, _, _, _, r, e2, _⟩ := z; cases e2), (fun e L' z => by obtain ⟨_, _, _, _, _, _, e2, _⟩ := z; cases e2; rfl)⟩) he1848 (fun e cls d s9 z k9 r9 => by subst z; exact (fun a1 a2 a3 k2 r2 => hQ a1 a2 a3 (Ex.trans (Iv.exx iv1841) k2) r2) cls d s9 k9 r9))
              refine do_exprG (eg_call (ok' := (fun v L' => ∃ (bres : V), v = bres ∧ L' = [fz bres (time1846 : Int)])) (ca_meth (E := fun _ _ _ _ => False) C_Times_time CL_Times.cl passF hr (by decide) (raw_var 4 rfl) (Iv.cell iv1841 4) rfl (ea_cons ev_str (ea_cons ev_str ea_nil))) iv1841 ro0 [.inl 4, .inl 6, .inl 7] (fun vs s2 k2 r2 => by obtain ⟨ws, rfl, r3⟩ := r2; obtain ⟨v1842, _, rfl, r1843, v1844, _, rfl, r1845, rfl⟩ := r3; exact ⟨[fz v1842 (("oboe" : Str) : Str), fz v1844 (("horn" : Str) : Str)], ⟨(p1718), (v1719), (v1720), v1842, v1844, rfl, rfl, (wk_cons wk_rfl (wk_cons wk_rfl (wk_cons wk_rfl wk_nil)))⟩, (all_cons r1843 (all_cons r1845 all_nil)), (fun v L' z => by obtain ⟨_, _, _, _, _, e, r, e2, z⟩ := z; cases e; cases e2; exact z), (fun e L' z => by obtain ⟨_, _, _, _, _, _, e2, _⟩ := z; cases e2)⟩) h_time1846) (fun v1849 s1850 L1851 z1852 iv1853 => ?_)
              have iv1855 := Iv.ex iv1841 (Iv.exx iv1853)
              exact absurd hm1840 (by intro z; cases z)
            · have hm1859 := iteE2 hm1835 hb1856
              have iv1860 := Iv.ex iv1836 e1858
              refine do_nil (show WSs _ _ _ _ _ from ?_)
              refine do_ifC (EvB.t (eb_eq (ev_var 0 rfl (Iv.fz (x := (sort1693 : Int)) iv1860 0)) ev_int)) (fun hb1861 s1862 e1863 => ?_) (fun hb1880 s1881 e1882 => ?_)
              · have hm1864 := iteE1 hm1859 hb1861
                have iv1865 := Iv.ex iv1860 e1863
                obtain ⟨hc1866, hm1864⟩ := chkE hm1864
                obtain ⟨hc1867, hm1864⟩ := chkE hm1864
                rcases tbE hm1864 with ⟨er1871, he1872, hm1864⟩ | ⟨fewest_hands1870, h_fewest_hands1870, hm1864⟩
                · obtain rfl := Option.some.inj hm1864
                  refine do_dropX (ex_callG (er' := fun e => e = er1871) (ca_fn (E := L2.WE _) C_fewest_hands (fun σ => passAt (takes_of rfl rfl rfl rfl) σ) hr (by decide) (ea_cons (raw_var 4 rfl) (ea_cons (EvN.ev (en_cat (EvN.r (en_rep (en_list (xs := ([(⟨("oboe" : Str), number1696, number1696⟩ : (T3 Str Int Int))] : List (T3 Str Int Int))) (ee_cons (ev_t3 (ea_cons ev_str (ea_cons (ev_var 1 rfl (Iv.fz (x := (number1696 : Int)) iv1865 1)) (ea_cons (ev_var 1 rfl (Iv.fz (x := (number1696 : Int)) iv1865 1)) ea_nil)))) ee_nil) (by simp [sizeLine])) (fun _ hk => Ev.mono (ev_var 2 rfl (Iv.fz (x := (size1699 : Int)) iv1865 2)) hk) hc1866)) (EvN.r (en_list (xs := ([(⟨("cor" : Str), (number1696 + (1 : Int)), number1696⟩ : (T3 Str Int Int))] : List (T3 Str Int Int))) (ee_cons (ev_t3 (ea_cons ev_str (ea_cons (ev_add (ev_var 1 rfl (Iv.fz (x := (number1696 : Int)) iv1865 1)) ev_int) (ea_cons (ev_var 1 rfl (Iv.fz (x := (number1696 : Int)) iv1865 1)) ea_nil)))) ee_nil) (by simp [sizeLine]))) hc1867)) ea_nil))) iv1865 ro0 [.inl 4, .inl 6, .inl 7] (fun vs s2 k2 r2 => by obtain ⟨_, _, rfl, rfl, v1868, _, rfl, r1869, rfl⟩ := r2; exact ⟨[fz v1868 (((repl size1699 ([(⟨("oboe" : Str), number1696, number1696⟩ : (T3 Str Int Int))] : List (T3 Str Int Int))) ++ ([(⟨("cor" : Str), (number1696 + (1 : Int)), number1696⟩ : (T3 Str Int Int))] : List (T3 Str Int Int))) : (List (T3 Str Int Int)))], ⟨(p1718), (v1719), (v1720), v1868, rfl, rfl, (wk_cons wk_rfl (wk_cons wk_rfl (wk_cons wk_rfl wk_nil)))⟩, (all_cons r1869 all_nil), (fun v L' z => by obtain ⟨_, _, _, _, _, r, e2, _⟩ := z; cases e2), (fun e L' z => by obtain ⟨_, _, _, _, _, e2, _⟩ := z; cases e2; rfl)⟩) he1872 (fun e cls d s9 z k9 r9 => by subst z; exact (fun a1 a2 a3 k2 r2 => hQ a1 a2 a3 (Ex.trans (Iv.exx iv1865) k2) r2) cls d s9 k9 r9))
                refine do_exprG (eg_call (ok' := (fun v L' => ∃ (bres : V), v = bres ∧ L' = [fz bres (fewest_hands1870 : ((List (List Int)) × (List Int)))])) (ca_fn (E := fun _ _ _ _ => False) C_fewest_hands passF hr (by decide) (ea_cons (raw_var 4 rfl) (ea_cons (EvN.ev (en_cat (EvN.r (en_rep (en_list (xs := ([(⟨("oboe" : Str), number1696, number1696⟩ : (T3 Str Int Int))] : List (T3 Str Int Int))) (ee_cons (ev_t3 (ea_cons ev_str (ea_cons (ev_var 1 rfl (Iv.fz (x := (number1696 : Int)) iv1865 1)) (ea_cons (ev_var 1 rfl (Iv.fz (x := (number1696 : Int)) iv1865 1)) ea_nil)))) ee_nil) (by simp [sizeLine])) (fun _ hk => Ev.mono (ev_var 2 rfl (Iv.fz (x := (size1699 : Int)) iv1865 2)) hk) hc1866)) (EvN.r (en_list (xs := ([(⟨("cor" : Str), (number1696 + (1 : Int)), number1696⟩ : (T3 Str Int Int))] : List (T3 Str Int Int))) (ee_cons (ev_t3 (ea_cons ev_str (ea_cons (ev_add (ev_var 1 rfl (Iv.fz (x := (number1696 : Int)) iv1865 1)) ev_int) (ea_cons (ev_var 1 rfl (Iv.fz (x := (number1696 : Int)) iv1865 1)) ea_nil)))) ee_nil) (by simp [sizeLine]))) hc1867)) ea_nil))) iv1865 ro0 [.inl 4, .inl 6, .inl 7] (fun vs s2 k2 r2 => by obtain ⟨_, _, rfl, rfl, v1868, _, rfl, r1869, rfl⟩ := r2; exact ⟨[fz v1868 (((repl size1699 ([(⟨("oboe" : Str), number1696, number1696⟩ : (T3 Str Int Int))] : List (T3 Str Int Int))) ++ ([(⟨("cor" : Str), (number1696 + (1 : Int)), number1696⟩ : (T3 Str Int Int))] : List (T3 Str Int Int))) : (List (T3 Str Int Int)))], ⟨(p1718), (v1719), (v1720), v1868, rfl, rfl, (wk_cons wk_rfl (wk_cons wk_rfl (wk_cons wk_rfl wk_nil)))⟩, (all_cons r1869 all_nil), (fun v L' z => by obtain ⟨_, _, _, _, e, r, e2, z⟩ := z; cases e; cases e2; exact z), (fun e L' z => by obtain ⟨_, _, _, _, _, e2, _⟩ := z; cases e2)⟩) h_fewest_hands1870) (fun v1873 s1874 L1875 z1876 iv1877 => ?_)
                have iv1879 := Iv.ex iv1865 (Iv.exx iv1877)
                exact absurd hm1864 (by intro z; cases z)
              · have hm1883 := iteE2 hm1859 hb1880
                have iv1884 := Iv.ex iv1860 e1882
                refine do_nil (show WSs _ _ _ _ _ from ?_)
                refine do_ifC (EvB.t (eb_eq (ev_var 0 rfl (Iv.fz (x := (sort1693 : Int)) iv1884 0)) ev_int)) (fun hb1885 s1886 e1887 => ?_) (fun hb1904 s1905 e1906 => ?_)
                · have hm1888 := iteE1 hm1883 hb1885
                  have iv1889 := Iv.ex iv1884 e1887
                  obtain ⟨hc1890, hm1888⟩ := chkE hm1888
                  obtain ⟨hc1891, hm1888⟩ := chkE hm1888
                  rcases tbE hm1888 with ⟨er1895, he1896, hm1888⟩ | ⟨fewest_hands1894, h_fewest_hands1894, hm1888⟩
                  · obtain rfl := Option.some.inj hm1888
                    refine do_dropX (ex_callG (er' := fun e => e = er1895) (ca_fn (E := L2.WE _) C_fewest_hands (fun σ => passAt (takes_of rfl rfl rfl rfl) σ) hr (by decide) (ea_cons (raw_var 4 rfl) (ea_cons (EvN.ev (en_cat (EvN.r (en_rep (en_list (xs := ([(⟨("oboe" : Str), number1696, number1696⟩ : (T3 Str Int Int))] : List (T3 Str Int Int))) (ee_cons (ev_t3 (ea_cons ev_str (ea_cons (ev_var 1 rfl (Iv.fz (x := (number1696 : Int)) iv1889 1)) (ea_cons (ev_var 1 rfl (Iv.fz (x := (number1696 : Int)) iv1889 1)) ea_nil)))) ee_nil) (by simp [sizeLine])) (fun _ hk => Ev.mono (ev_var 2 rfl (Iv.fz (x := (size1699 : Int)) iv1889 2)) hk) hc1890)) (EvN.r (en_list (xs := ([(⟨("horn" : Str), number1696, number1696⟩ : (T3 Str Int Int))] : List (T3 Str Int Int))) (ee_cons (ev_t3 (ea_cons ev_str (ea_cons (ev_var 1 rfl (Iv.fz (x := (number1696 : Int)) iv1889 1)) (ea_cons (ev_var 1 rfl (Iv.fz (x := (number1696 : Int)) iv1889 1)) ea_nil)))) ee_nil) (by simp [sizeLine]))) hc1891)) ea_nil))) iv1889 ro0 [.inl 4, .inl 6, .inl 7] (fun vs s2 k2 r2 => by obtain ⟨_, _, rfl, rfl, v1892, _, rfl, r1893, rfl⟩ := r2; exact ⟨[fz v1892 (((repl size1699 ([(⟨("oboe" : Str), number1696, number1696⟩ : (T3 Str Int Int))] : List (T3 Str Int Int))) ++ ([(⟨("horn" : Str), number1696, number1696⟩ : (T3 Str Int Int))] : List (T3 Str Int Int))) : (List (T3 Str Int Int)))], ⟨(p1718), (v1719), (v1720), v1892, rfl, rfl, (wk_cons wk_rfl (wk_cons wk_rfl (wk_cons wk_rfl wk_nil)))⟩, (all_cons r1893 all_nil), (fun v L' z => by obtain ⟨_, _, _, _, _, r, e2, _⟩ := z; cases e2), (fun e L' z => by obtain ⟨_, _, _, _, _, e2, _⟩ := z; cases e2; rfl)⟩) he1896 (fun e cls d s9 z k9 r9 => by subst z; exact (fun a1 a2 a3 k2 r2 => hQ a1 a2 a3 (Ex.trans (Iv.exx iv1889) k2) r2) cls d s9 k9 r9))
                  refine do_exprG (eg_call (ok' := (fun v L' => ∃ (bres : V), v = bres ∧ L' = [fz bres (fewest_hands1894 : ((List (List Int)) × (List Int)))])) (ca_fn (E := fun _ _ _ _ => False) C_fewest_hands passF hr (by decide) (ea_cons (raw_var 4 rfl) (ea_cons (EvN.ev (en_cat (EvN.r (en_rep (en_list (xs := ([(⟨("oboe" : Str), number1696, number1696⟩ : (T3 Str Int Int))] : List (T3 Str Int Int))) (ee_cons (ev_t3 (ea_cons ev_str (ea_cons (ev_var 1 rfl (Iv.fz (x := (number1696 : Int)) iv1889 1)) (ea_cons (ev_var 1 rfl (Iv.fz (x := (number1696 : Int)) iv1889 1)) ea_nil)))) ee_nil) (by simp [sizeLine])) (fun _ hk => Ev.mono (ev_var 2 rfl (Iv.fz (x := (size1699 : Int)) iv1889 2)) hk) hc1890)) (EvN.r (en_list (xs := ([(⟨("horn" : Str), number1696, number1696⟩ : (T3 Str Int Int))] : List (T3 Str Int Int))) (ee_cons (ev_t3 (ea_cons ev_str (ea_cons (ev_var 1 rfl (Iv.fz (x := (number1696 : Int)) iv1889 1)) (ea_cons (ev_var 1 rfl (Iv.fz (x := (number1696 : Int)) iv1889 1)) ea_nil)))) ee_nil) (by simp [sizeLine]))) hc1891)) ea_nil))) iv1889 ro0 [.inl 4, .inl 6, .inl 7] (fun vs s2 k2 r2 => by obtain ⟨_, _, rfl, rfl, v1892, _, rfl, r1893, rfl⟩ := r2; exact ⟨[fz v1892 (((repl size1699 ([(⟨("oboe" : Str), number1696, number1696⟩ : (T3 Str Int Int))] : List (T3 Str Int Int))) ++ ([(⟨("horn" : Str), number1696, number1696⟩ : (T3 Str Int Int))] : List (T3 Str Int Int))) : (List (T3 Str Int Int)))], ⟨(p1718), (v1719), (v1720), v1892, rfl, rfl, (wk_cons wk_rfl (wk_cons wk_rfl (wk_cons wk_rfl wk_nil)))⟩, (all_cons r1893 all_nil), (fun v L' z => by obtain ⟨_, _, _, _, e, r, e2, z⟩ := z; cases e; cases e2; exact z), (fun e L' z => by obtain ⟨_, _, _, _, _, e2, _⟩ := z; cases e2)⟩) h_fewest_hands1894) (fun v1897 s1898 L1899 z1900 iv1901 => ?_)
                  have iv1903 := Iv.ex iv1889 (Iv.exx iv1901)
                  exact absurd hm1888 (by intro z; cases z)
                · have hm1907 := iteE2 hm1883 hb1904
                  have iv1908 := Iv.ex iv1884 e1906
                  refine do_nil (show WSs _ _ _ _ _ from ?_)
                  obtain rfl := Option.some.inj hm1907
                  exact do_nil (hQ _ _ (Iv.exx iv1908) rfl)
abbrev s_l_kinds : Stmt := topS 42
abbrev N_l_kinds : List Str := ["_law_e", "_law_some"]
theorem sc_l_kinds : FnScope N_l_kinds ["_law_e"] (defScope s_l_kinds) := ⟨rfl, rfl, rfl, by decide +kernel, rfl, by decide +kernel, by decide +kernel⟩
noncomputable def m_l_kinds (er1910 : Er) : Option (List Bool) :=
 (bnd (isE tab er1910 "NoBars") fun isE1916 => (bnd (isE tab er1910 "NoBreak") fun isE1918 => (bnd (isE tab er1910 "NoTimes") fun isE1920 => (bnd (isE tab er1910 "NoInstrument") fun isE1922 => (lt (([isE1916, isE1918, isE1920, isE1922] : List Bool) : (List Bool)) fun some1923 =>
 (bnd (isE tab er1910 "NoLine") fun isE1936 => (bnd (isE tab er1910 "NoCall") fun isE1938 => (bnd (isE tab er1910 "NoName") fun isE1940 => (bnd (isE tab er1910 "NoOrder") fun isE1942 => (chk ((some1923).length + (([isE1936, isE1938, isE1940, isE1942] : List Bool)).length ≤ sizeLine) (lt ((some1923 ++ ([isE1936, isE1938, isE1940, isE1942] : List Bool)) : (List Bool)) fun some1944 =>
 (bnd (isE tab er1910 "NoPlace") fun isE1957 => (bnd (isE tab er1910 "NoPlayer") fun isE1959 => (bnd (isE tab er1910 "NoSeating") fun isE1961 => (bnd (isE tab er1910 "NoText") fun isE1963 => (chk ((some1944).length + (([isE1957, isE1959, isE1961, isE1963] : List Bool)).length ≤ sizeLine) (lt ((some1944 ++ ([isE1957, isE1959, isE1961, isE1963] : List Bool)) : (List Bool)) fun some1965 =>
 (bnd (isE tab er1910 "Twice") fun isE1976 => (bnd (isE tab er1910 "ValueError") fun isE1978 => (chk ((some1965).length + (([isE1976, isE1978] : List Bool)).length ≤ sizeLine) (some (some1965 ++ ([isE1976, isE1978] : List Bool)))))))))))))))))))))))
theorem ok_l_kinds {P : Program} {w : World} {K : PySem.W.Frag} {mg : Str → Option Value} {base : Heap} {f : Addr} {fd : FuncData} (F : FunP K "_law_kinds" s_l_kinds f fd) (hmg : mg "_law_kinds" = some (.ref f)) (z_isinstance : mg "isinstance" = none) (z_ValueError : mg "ValueError" = none) (N_NoBars : mg "NoBars" = some (.ref (He.ga K "NoBars"))) (N_NoBreak : mg "NoBreak" = some (.ref (He.ga K "NoBreak"))) (N_NoTimes : mg "NoTimes" = some (.ref (He.ga K "NoTimes"))) (N_NoInstrument : mg "NoInstrument" = some (.ref (He.ga K "NoInstrument"))) (N_NoLine : mg "NoLine" = some (.ref (He.ga K "NoLine"))) (N_NoCall : mg "NoCall" = some (.ref (He.ga K "NoCall"))) (N_NoName : mg "NoName" = some (.ref (He.ga K "NoName"))) (N_NoOrder : mg "NoOrder" = some (.ref (He.ga K "NoOrder"))) (N_NoPlace : mg "NoPlace" = some (.ref (He.ga K "NoPlace"))) (N_NoPlayer : mg "NoPlayer" = some (.ref (He.ga K "NoPlayer"))) (N_NoSeating : mg "NoSeating" = some (.ref (He.ga K "NoSeating"))) (N_NoText : mg "NoText" = some (.ref (He.ga K "NoText"))) (N_Twice : mg "Twice" = some (.ref (He.ga K "Twice"))) (TB : tab.ok K = true) : CalE P w K mg base 1 "_law_kinds" (spE K m_l_kinds) := by
  refine mk_calE (k := 0) F hmg (F.bindsN fun _ _ _ _ _ _ us hl => match us, hl with | [_], _ => rfl) sc_l_kinds rfl ?_
  intro cdv A' outer sh0 H0 a0 oe0 d0 s0 er1910 r0 Q hz0 hf0 hx0 hm hQ
  unfold m_l_kinds at hm
  try dsimp only at hm
  have iv1909 : Iv K (fun _ => False) s0 s0 [top, top] := (Iv.tops (K := K) (P0 := (fun _ => False)) 2 s0)
  obtain ⟨isE1916, h_isE1916, hm⟩ := bndE hm
  obtain ⟨isE1918, h_isE1918, hm⟩ := bndE hm
  obtain ⟨isE1920, h_isE1920, hm⟩ := bndE hm
  obtain ⟨isE1922, h_isE1922, hm⟩ := bndE hm
  refine do_set 1 (EvN.ev (en_list (xs := ([isE1916, isE1918, isE1920, isE1922] : List Bool)) (ee_cons (ev_isE TB h_isE1916 hz0 hf0 hx0 z_isinstance (ev_var 0 rfl (show rep _ _ (V.ref a0) (Rw.mk (V.ref a0)) from rfl)) (ev_cls (.inl ⟨by decide, N_NoBars⟩))) (ee_cons (ev_isE TB h_isE1918 hz0 hf0 hx0 z_isinstance (ev_var 0 rfl (show rep _ _ (V.ref a0) (Rw.mk (V.ref a0)) from rfl)) (ev_cls (.inl ⟨by decide, N_NoBreak⟩))) (ee_cons (ev_isE TB h_isE1920 hz0 hf0 hx0 z_isinstance (ev_var 0 rfl (show rep _ _ (V.ref a0) (Rw.mk (V.ref a0)) from rfl)) (ev_cls (.inl ⟨by decide, N_NoTimes⟩))) (ee_cons (ev_isE TB h_isE1922 hz0 hf0 hx0 z_isinstance (ev_var 0 rfl (show rep _ _ (V.ref a0) (Rw.mk (V.ref a0)) from rfl)) (ev_cls (.inl ⟨by decide, N_NoInstrument⟩))) ee_nil)))) (by simp [sizeLine]))) (fun v1927 s1925 e1926 r1928 => ?_) sc_l_kinds.nd
  obtain ⟨some1923, q1924, hm⟩ := ltE hm
  have iv1929 := Iv.sf iv1909 1 e1926 r1928 q1924
  have r1930 := ExR.mono e1926.f hx0
  obtain ⟨isE1936, h_isE1936, hm⟩ := bndE hm
  obtain ⟨isE1938, h_isE1938, hm⟩ := bndE hm
  obtain ⟨isE1940, h_isE1940, hm⟩ := bndE hm
  obtain ⟨isE1942, h_isE1942, hm⟩ := bndE hm
  obtain ⟨hc1943, hm⟩ := chkE hm
  refine do_set 1 (EvN.ev (en_cat (Ev.r (ev_var 1 rfl (Iv.fz (x := (some1923 : (List Bool))) iv1929 1))) (EvN.r (en_list (xs := ([isE1936, isE1938, isE1940, isE1942] : List Bool)) (ee_cons (ev_isE TB h_isE1936 hz0 hf0 r1930 z_isinstance (ev_var 0 rfl (show rep _ _ (V.ref a0) (Rw.mk (V.ref a0)) from rfl)) (ev_cls (.inl ⟨by decide, N_NoLine⟩))) (ee_cons (ev_isE TB h_isE1938 hz0 hf0 r1930 z_isinstance (ev_var 0 rfl (show rep _ _ (V.ref a0) (Rw.mk (V.ref a0)) from rfl)) (ev_cls (.inl ⟨by decide, N_NoCall⟩))) (ee_cons (ev_isE TB h_isE1940 hz0 hf0 r1930 z_isinstance (ev_var 0 rfl (show rep _ _ (V.ref a0) (Rw.mk (V.ref a0)) from rfl)) (ev_cls (.inl ⟨by decide, N_NoName⟩))) (ee_cons (ev_isE TB h_isE1942 hz0 hf0 r1930 z_isinstance (ev_var 0 rfl (show rep _ _ (V.ref a0) (Rw.mk (V.ref a0)) from rfl)) (ev_cls (.inl ⟨by decide, N_NoOrder⟩))) ee_nil)))) (by simp [sizeLine]))) hc1943)) (fun v1948 s1946 e1947 r1949 => ?_) sc_l_kinds.nd
  obtain ⟨some1944, q1945, hm⟩ := ltE hm
  have iv1950 := Iv.sf iv1929 1 e1947 r1949 q1945
  have r1951 := ExR.mono e1947.f r1930
  obtain ⟨isE1957, h_isE1957, hm⟩ := bndE hm
  obtain ⟨isE1959, h_isE1959, hm⟩ := bndE hm
  obtain ⟨isE1961, h_isE1961, hm⟩ := bndE hm
  obtain ⟨isE1963, h_isE1963, hm⟩ := bndE hm
  obtain ⟨hc1964, hm⟩ := chkE hm
  refine do_set 1 (EvN.ev (en_cat (Ev.r (ev_var 1 rfl (Iv.fz (x := (some1944 : (List Bool))) iv1950 1))) (EvN.r (en_list (xs := ([isE1957, isE1959, isE1961, isE1963] : List Bool)) (ee_cons (ev_isE TB h_isE1957 hz0 hf0 r1951 z_isinstance (ev_var 0 rfl (show rep _ _ (V.ref a0) (Rw.mk (V.ref a0)) from rfl)) (ev_cls (.inl ⟨by decide, N_NoPlace⟩))) (ee_cons (ev_isE TB h_isE1959 hz0 hf0 r1951 z_isinstance (ev_var 0 rfl (show rep _ _ (V.ref a0) (Rw.mk (V.ref a0)) from rfl)) (ev_cls (.inl ⟨by decide, N_NoPlayer⟩))) (ee_cons (ev_isE TB h_isE1961 hz0 hf0 r1951 z_isinstance (ev_var 0 rfl (show rep _ _ (V.ref a0) (Rw.mk (V.ref a0)) from rfl)) (ev_cls (.inl ⟨by decide, N_NoSeating⟩))) (ee_cons (ev_isE TB h_isE1963 hz0 hf0 r1951 z_isinstance (ev_var 0 rfl (show rep _ _ (V.ref a0) (Rw.mk (V.ref a0)) from rfl)) (ev_cls (.inl ⟨by decide, N_NoText⟩))) ee_nil)))) (by simp [sizeLine]))) hc1964)) (fun v1969 s1967 e1968 r1970 => ?_) sc_l_kinds.nd
  obtain ⟨some1965, q1966, hm⟩ := ltE hm
  have iv1971 := Iv.sf iv1950 1 e1968 r1970 q1966
  have r1972 := ExR.mono e1968.f r1951
  obtain ⟨isE1976, h_isE1976, hm⟩ := bndE hm
  obtain ⟨isE1978, h_isE1978, hm⟩ := bndE hm
  obtain ⟨hc1979, hm⟩ := chkE hm
  obtain rfl := Option.some.inj hm
  exact do_ret (EvN.ev (en_cat (Ev.r (ev_var 1 rfl (Iv.fz (x := (some1965 : (List Bool))) iv1971 1))) (EvN.r (en_list (xs := ([isE1976, isE1978] : List Bool)) (ee_cons (ev_isE TB h_isE1976 hz0 hf0 r1972 z_isinstance (ev_var 0 rfl (show rep _ _ (V.ref a0) (Rw.mk (V.ref a0)) from rfl)) (ev_cls (.inl ⟨by decide, N_Twice⟩))) (ee_cons (ev_isE TB h_isE1978 hz0 hf0 r1972 z_isinstance (ev_var 0 rfl (show rep _ _ (V.ref a0) (Rw.mk (V.ref a0)) from rfl)) (ev_cls (.inr ⟨rfl, z_ValueError⟩))) ee_nil)) (by simp [sizeLine]))) hc1979)) fun v1980 s1981 e1982 r1983 => hQ _ _ (Ex.trans (Iv.exx iv1971) e1982) r1983
abbrev s_l_told : Stmt := topS 44
abbrev N_l_told : List Str := ["_law_sort", "_law_number", "_law_size", "_law_kinds_here", "_law_e"]
theorem sc_l_told : FnScope N_l_told ["_law_sort", "_law_number", "_law_size"] (defScope s_l_told) := ⟨rfl, rfl, rfl, by decide +kernel, rfl, by decide +kernel, by decide +kernel⟩
noncomputable def m_l_told (sort1984 : Int) (number1987 : Int) (size1990 : Int) : Option (List Bool) :=
 (lt (([] : List Bool) : (List Bool)) fun kinds_here1994 =>
 (tb (m_l_deed sort1984 number1987 size1990) (fun er2006 => (chk (exE tab er2006 "PairsError" = some true) (bnd (m_l_kinds er2006) fun l_kinds2020 => (lt (l_kinds2020 : (List Bool)) fun kinds_here2021 =>
 (some kinds_here2021))))) fun deed2005 => (some kinds_here1994)))
noncomputable abbrev a_l_told : Int × Int × Int × Unit → Option (List Bool) := fun a => m_l_told a.1 a.2.1 a.2.2.1
theorem ok_l_told {P : Program} {w : World} {K : PySem.W.Frag} {mg : Str → Option Value} {base : Heap} {f : Addr} {fd : FuncData} (F : FunP K "_law_told" s_l_told f fd) (hmg : mg "_law_told" = some (.ref f)) (C_l_deed : Cal P w K mg base (L2.CX P w) 7 "_law_deed" (spR K a_l_deed)) (C_l_kinds : CalE P w K mg base 1 "_law_kinds" (spE K m_l_kinds)) (N_PairsError : mg "PairsError" = some (.ref (He.ga K "PairsError"))) (TB : tab.ok K = true) : Cal P w K mg base CX0 8 "_law_told" (sp K a_l_told) := by
  refine mk_cal (k := 7) F hmg (F.bindsN fun _ _ _ _ _ _ us hl => match us, hl with | [_, _, _], _ => rfl) sc_l_told len3 ?_
  rintro cdv A' outer sh0 H0 X0 hr s0 vs ⟨sort1984, number1987, size1990, _⟩ r0 Q ⟨v1985, _, rfl, r1986, v1988, _, rfl, r1989, v1991, _, rfl, r1992, rfl⟩ hm hQ
  unfold a_l_told m_l_told at hm
  dsimp only at hm
  have iv1993 : Iv K (fun _ => False) s0 s0 [fz v1985 (sort1984 : Int), fz v1988 (number1987 : Int), fz v1991 (size1990 : Int), top, top] := (Iv.sf (Iv.sf (Iv.sf (Iv.tops (K := K) (P0 := (fun _ => False)) 5 s0) 0 (Ex.refl s0) r1986 rfl) 1 (Ex.refl s0) r1989 rfl) 2 (Ex.refl s0) r1992 rfl)
  refine do_set 3 (EvN.ev (en_list (xs := ([] : List Bool)) ee_nil (by simp [sizeLine]))) (fun v1998 s1996 e1997 r1999 => ?_) sc_l_told.nd
  obtain ⟨kinds_here1994, q1995, hm⟩ := ltE hm
  have iv2000 := Iv.sf iv1993 3 e1997 r1999 q1995
  refine do_tryAs 4 sc_l_told.nd (names_of N_PairsError) takes_false (fun pn2001 xe2002 tk2003 po2004 => ?_)
  rcases tbE hm with ⟨er2006, he2007, hm⟩ | ⟨deed2005, h_deed2005, hm⟩
  · obtain ⟨hx2011, hm⟩ := chkE hm
    refine do_dropX (evX_call C_l_deed tk2003 hr (by decide) (ea_cons (ev_var 0 rfl (Iv.fz (x := (sort1984 : Int)) iv2000 0)) (ea_cons (ev_var 1 rfl (Iv.fz (x := (number1987 : Int)) iv2000 1)) (ea_cons (ev_var 2 rfl (Iv.fz (x := (size1990 : Int)) iv2000 2)) ea_nil))) he2007 (fun _ _ s2008 k2009 r2010 => ?_))
    have hb2012 := exE_ok TB r2010 hx2011
    obtain rfl := exR_cls r2010
    refine was_of hb2012 (fun a2013 ha2014 oe2015 pn2016 hz2017 hf2018 => ?_)
    have iv2019 := Iv.ex iv2000 k2009
    obtain ⟨l_kinds2020, h_l_kinds2020, hm⟩ := bndE hm
    refine do_set 3 (ev_callE C_l_kinds hr (by decide) h_l_kinds2020 hz2017 hf2018 r2010 (ev_var 4 rfl (show rep _ _ (V.ref a2013) (Rw.mk (V.ref a2013)) from rfl))) (fun v2025 s2023 e2024 r2026 => ?_) sc_l_told.nd
    obtain ⟨kinds_here2021, q2022, hm⟩ := ltE hm
    have iv2027 := Iv.sf iv2019 3 e2024 r2026 q2022
    have r2028 := ExR.mono e2024.f r2010
    refine do_nil (show WSs _ _ _ _ _ from ?_)
    obtain rfl := Option.some.inj hm
    exact do_ret (ev_var 3 rfl (Iv.fz (x := (kinds_here2021 : (List Bool))) iv2027 3)) fun v2029 s2030 e2031 r2032 => hQ _ _ (Ex.trans (Iv.exx iv2027) e2031) r2032
  refine do_drop (ev_callR C_l_deed hr (by decide) (ea_cons (ev_var 0 rfl (Iv.fz (x := (sort1984 : Int)) iv2000 0)) (ea_cons (ev_var 1 rfl (Iv.fz (x := (number1987 : Int)) iv2000 1)) (ea_cons (ev_var 2 rfl (Iv.fz (x := (size1990 : Int)) iv2000 2)) ea_nil))) h_deed2005) (fun s2033 e2034 => ?_)
  have iv2035 := Iv.ex iv2000 e2034
  refine do_nil (show WSs _ _ _ _ _ from ?_)
  obtain rfl := Option.some.inj hm
  exact do_ret (ev_var 3 rfl (Iv.fz (x := (kinds_here1994 : (List Bool))) iv2035 3)) fun v2036 s2037 e2038 r2039 => hQ _ _ (Ex.trans (Iv.exx iv2035) e2038) r2039
abbrev s_law : Stmt := topS 45
abbrev N_law : List Str := ["_law_script", "_law_first", "_law_k", "_law_sort", "_law_due", "_law_cell"]
theorem sc_law : FnScope N_law ["_law_script"] (defScope s_law) := ⟨rfl, rfl, rfl, by decide +kernel, rfl, by decide +kernel, by decide +kernel⟩
noncomputable def m_law (script2040 : (List Int)) : Option Bool :=
 (bnd (m_l_cell_at script2040 (0 : Int)) fun cell_at2044 => (lt ((cell_at2044 % (8 : Int)) : Int) fun first2045 =>
 (bnd (foldF (ρ := Bool) (fun (b2054 : Unit) (x2056 : Int) =>
 (lt (((first2045 + x2056) % (8 : Int)) : Int) fun sort2083 =>
 (chk (RepOk (13 : Int) (([false] : List Bool)).length) (chk (((repl (13 : Int) ([false] : List Bool))).length + (([true] : List Bool)).length ≤ sizeLine) (lt (((repl (13 : Int) ([false] : List Bool)) ++ ([true] : List Bool)) : (List Bool)) fun due2093 =>
 (bnd (atI ([(0 : Int), (0 : Int), (1 : Int), (1 : Int), (2 : Int), (3 : Int), (4 : Int), (3 : Int)] : List Int) sort2083) fun at2107 => (bnd (ixN (due2093).length at2107) fun j2108 => (lt (((due2093).set j2108 true) : (List Bool)) fun ls2105 =>
 (bnd (m_l_cell_at script2040 ((1 : Int) + x2056)) fun cell_at2111 => (lt (cell_at2111 : Int) fun cell2112 =>
 (bnd (m_l_told sort2083 ((cell2112 / (5 : Int)) % ((10 : Int) ^ ((50 : Int)).toNat)) ((2 : Int) + (cell2112 % (5 : Int)))) fun told2121 => (if (!decide (told2121 = ls2105)) = true then
 (some (Fl.rt false))
 else
 (some (Fl.nx ())))))))))))))) () (rng 0 (8 : Int))) fun o2052 =>
 (Fl.go o2052 (fun b2147 => (some true)) (fun rr => (some rr))))))
noncomputable abbrev a_law : (List Int) × Unit → Option Bool := fun a => m_law a.1
theorem ok_law_fn {P : Program} {w : World} {K : PySem.W.Frag} {mg : Str → Option Value} {base : Heap} {f : Addr} {fd : FuncData} (F : FunP K "law" s_law f fd) (hmg : mg "law" = some (.ref f)) (C_l_cell_at : Cal P w K mg base CX0 1 "_law_cell_at" (sp K a_l_cell_at)) (C_l_told : Cal P w K mg base CX0 8 "_law_told" (sp K a_l_told)) (z_range : mg "range" = none) : FnOk P w K mg base CX0 9 f fd ["_law_script"] (sp K a_law) := by
  refine mk_fn (k := 8) F sc_law len1 ?_
  rintro cdv A' outer sh0 H0 X0 hr s0 vs ⟨script2040, _⟩ r0 Q ⟨v2041, _, rfl, r2042, rfl⟩ hm hQ
  unfold a_law m_law at hm
  dsimp only at hm
  have iv2043 : Iv K (fun _ => False) s0 s0 [fz v2041 (script2040 : (List Int)), top, top, top, top, top] := (Iv.sf (Iv.tops (K := K) (P0 := (fun _ => False)) 6 s0) 0 (Ex.refl s0) r2042 rfl)
  obtain ⟨cell_at2044, h_cell_at2044, hm⟩ := bndE hm
  refine do_set 1 (ev_mod (ev_call C_l_cell_at hr (by decide) (ea_cons (ev_var 0 rfl (Iv.fz (x := (script2040 : (List Int))) iv2043 0)) (ea_cons ev_int ea_nil)) h_cell_at2044) ev_int (by decide)) (fun v2049 s2047 e2048 r2050 => ?_) sc_law.nd
  obtain ⟨first2045, q2046, hm⟩ := ltE hm
  have iv2051 := Iv.sf iv2043 1 e2048 r2050 q2046
  obtain ⟨o2052, ho2053, hm⟩ := bndE hm
  refine do_forF (ρ := Bool) (υ := Unit) PassesOwn.never rfl (ei_range1 z_range ev_int ⟨by omega, by omega⟩) (pg_name (i := 2) sc_law.nd rfl (by first | exact Or.inl rfl | exact Or.inr rfl)) tg_n ho2053 (fun (b2054 : Unit) (σ' : L2.St) (t' : S) => ∃ (y_sort : Option V) (y_due : Option V) (y_cell : Option V) (y_k : Option V), σ' = [some v2041, some v2049, y_k, y_sort, y_due, y_cell] ∧ Iv K (fun _ => False) s0 t' [fz v2041 (script2040 : (List Int)), fz v2049 (first2045 : Int), top, top, top, top]) (fun s2144 k2145 => by have iv2146 := Iv.ex iv2051 k2145; exact ⟨_, _, _, _, rfl, Iv.sel iv2146 [some 0, some 1, none, none, none, none] (by decide +kernel) (by kernel_rfl)⟩) (fun s2057 k2058 x2056 b2054 q2081 σ2067 σ2068 t2065 t2066 hx2059 hm2060 hq2082 fl2061 hR2062 k2063 hB2064 => ?_) (fun s2138 k2139 b2147 σ2140 t2141 ho2148 fl2142 hR2143 => ?_)
  · have hf2069 := Fle.trans k2058.f fl2061
    obtain ⟨y2070, y2071, y2072, y2073, rfl, iv2074⟩ := hR2062
    obtain ⟨v2075, r2076, rfl⟩ := hB2064
    have iv2077 := Iv.ex iv2074 k2063
    have iv2078 := Iv.sf iv2077 2 (Ex.refl t2066) r2076 rfl
    have fl2079 := Fle.trans (Fle.refl t2066.F) (Ex.refl t2066).f
    have q2080 := rng_mem hx2059
    refine do_set 3 (ev_mod (ev_add (ev_var 1 rfl (Iv.fz (x := (first2045 : Int)) iv2078 1)) (ev_var 2 rfl (Iv.fz (x := (x2056 : Int)) iv2078 2))) ev_int (by decide)) (fun v2087 s2085 e2086 r2088 => ?_) sc_law.nd
    obtain ⟨sort2083, q2084, hm2060⟩ := ltE hm2060
    have iv2089 := Iv.sf iv2078 3 e2086 r2088 q2084
    have fl2090 := Fle.trans (Fle.refl t2066.F) e2086.f
    obtain ⟨hc2091, hm2060⟩ := chkE hm2060
    obtain ⟨hc2092, hm2060⟩ := chkE hm2060
    refine do_setN 4 (en_cat (EvN.r (en_rep (en_list (xs := ([false] : List Bool)) (ee_cons ev_bl ee_nil) (by simp [sizeLine])) (fun _ hk => Ev.mono ev_int hk) hc2091)) (EvN.r (en_list (xs := ([true] : List Bool)) (ee_cons ev_bl ee_nil) (by simp [sizeLine]))) hc2092) (fun p2097 s2095 e2096 n2098 o2099 => ?_) sc_law.nd
    obtain ⟨due2093, q2094, hm2060⟩ := ltE hm2060
    have iv2100 := Iv.sl iv2089 4 e2096 n2098 o2099 q2094
    have fl2101 := Fle.trans fl2090 e2096.f
    obtain ⟨at2107, h_at2107, hm2060⟩ := bndE hm2060
    obtain ⟨j2108, h_j2108, hm2060⟩ := bndE hm2060
    refine do_setItemP (raw_var 4 rfl) (Iv.ol (xs := (due2093 : (List Bool))) iv2100 4) ev_bl (ev_ix (EvN.r (en_list (xs := ([(0 : Int), (0 : Int), (1 : Int), (1 : Int), (2 : Int), (3 : Int), (4 : Int), (3 : Int)] : List Int)) (ee_cons ev_int (ee_cons ev_int (ee_cons ev_int (ee_cons ev_int (ee_cons ev_int (ee_cons ev_int (ee_cons ev_int (ee_cons ev_int ee_nil)))))))) (by simp [sizeLine]))) (ev_var 3 rfl (Iv.fz (x := (sort2083 : Int)) iv2100 3)) h_at2107) h_j2108 (fun s2102 m2103 o2104 => ?_)
    obtain ⟨ls2105, q2106, hm2060⟩ := ltE hm2060
    have iv2109 := Iv.ml iv2100 4 m2103 o2104 q2106
    have fl2110 := Fle.trans fl2101 m2103.f
    obtain ⟨cell_at2111, h_cell_at2111, hm2060⟩ := bndE hm2060
    refine do_set 5 (ev_call C_l_cell_at hr (by decide) (ea_cons (ev_var 0 rfl (Iv.fz (x := (script2040 : (List Int))) iv2109 0)) (ea_cons (ev_add ev_int (ev_var 2 rfl (Iv.fz (x := (x2056 : Int)) iv2109 2))) ea_nil)) h_cell_at2111) (fun v2116 s2114 e2115 r2117 => ?_) sc_law.nd
    obtain ⟨cell2112, q2113, hm2060⟩ := ltE hm2060
    have iv2118 := Iv.sf iv2109 5 e2115 r2117 q2113
    have fl2119 := Fle.trans fl2110 e2115.f
    obtain ⟨told2121, h_told2121, hm2060⟩ := bndE hm2060
    refine do_ifR (EvB.t (eb_neL hr (Ev.r (ev_call C_l_told hr (by decide) (ea_cons (ev_var 3 rfl (Iv.fz (x := (sort2083 : Int)) iv2118 3)) (ea_cons (ev_mod (ev_div (ev_var 5 rfl (Iv.fz (x := (cell2112 : Int)) iv2118 5)) ev_int ⟨by decide, by decide +kernel⟩) (ev_pow ev_int ev_int ⟨by decide, by decide, by decide⟩) (by decide)) (ea_cons (ev_add ev_int (ev_mod (ev_var 5 rfl (Iv.fz (x := (cell2112 : Int)) iv2118 5)) ev_int (by decide))) ea_nil))) h_told2121)) (er_raw (xs := (ls2105 : (List Bool))) (raw_var 4 rfl) (Own.r (Iv.ol (xs := (ls2105 : (List Bool))) iv2118 4))) (shp_of _) (shp_of _))) (fun hb2122 s2123 e2124 => ?_) (fun hb2132 s2133 e2134 => ?_)
    · have hm2125 := iteE1 hm2060 hb2122
      have iv2126 := Iv.ex iv2118 e2124
      have fl2127 := Fle.trans fl2119 e2124.f
      obtain rfl := Option.some.inj hm2125
      obtain rfl := hq2082 _ rfl
      obtain rfl := Option.some.inj hm
      exact do_ret ev_bl fun v2128 s2129 e2130 r2131 => hQ _ _ (Ex.trans (Iv.exx iv2126) e2130) r2131
    · have hm2135 := iteE2 hm2060 hb2132
      have iv2136 := Iv.ex iv2118 e2134
      have fl2137 := Fle.trans fl2119 e2134.f
      obtain rfl := Option.some.inj hm2135
      exact do_nil ⟨s2133, rfl, _, rfl, fl2137, ⟨_, _, _, _, rfl, Iv.sel iv2136 [some 0, some 1, none, none, none, none] (by decide +kernel) (by kernel_rfl)⟩⟩
  · subst ho2148
    replace hm := goN hm
    have hf2149 := Fle.trans k2139.f fl2142
    obtain ⟨y2150, y2151, y2152, y2153, rfl, iv2154⟩ := hR2143
    obtain rfl := Option.some.inj hm
    exact do_ret ev_bl fun v2155 s2156 e2157 r2158 => hQ _ _ (Ex.trans (Iv.exx iv2154) e2157) r2158
def d_l_cell_at : He.DefD := ⟨("_law_cell_at", none), "_law_cell_at", "_law_cell_at", defArgs s_l_cell_at, defBody s_l_cell_at, defScope s_l_cell_at, [], []⟩
def d_is_square : He.DefD := ⟨("is_square", none), "is_square", "is_square", defArgs s_is_square, defBody s_is_square, defScope s_is_square, [], []⟩
def d_is_straight : He.DefD := ⟨("is_straight", none), "is_straight", "is_straight", defArgs s_is_straight, defBody s_is_straight, defScope s_is_straight, [], []⟩
def d_is_made_of : He.DefD := ⟨("is_made_of", none), "is_made_of", "is_made_of", defArgs s_is_made_of, defBody s_is_made_of, defScope s_is_made_of, [], []⟩
def d_is_name : He.DefD := ⟨("is_name", none), "is_name", "is_name", defArgs s_is_name, defBody s_is_name, defScope s_is_name, [], []⟩
def d_Times_init : He.DefD := ⟨("Times", some "__init__"), "__init__", "Times.__init__", defArgs s_Times_init, defBody s_Times_init, defScope s_Times_init, [], []⟩
def d_asked_bars : He.DefD := ⟨("asked_bars", none), "asked_bars", "asked_bars", defArgs s_asked_bars, defBody s_asked_bars, defScope s_asked_bars, [], []⟩
def d_asked_break : He.DefD := ⟨("asked_break", none), "asked_break", "asked_break", defArgs s_asked_break, defBody s_asked_break, defScope s_asked_break, [], []⟩
def d_played_in : He.DefD := ⟨("played_in", none), "played_in", "played_in", defArgs s_played_in, defBody s_played_in, defScope s_played_in, [], []⟩
def d_window_at : He.DefD := ⟨("window_at", none), "window_at", "window_at", defArgs s_window_at, defBody s_window_at, defScope s_window_at, [], []⟩
def d_loss_at : He.DefD := ⟨("loss_at", none), "loss_at", "loss_at", defArgs s_loss_at, defBody s_loss_at, defScope s_loss_at, [], []⟩
def d_least_book : He.DefD := ⟨("least_book", none), "least_book", "least_book", defArgs s_least_book, defBody s_least_book, defScope s_least_book, [], []⟩
def d_loss_of : He.DefD := ⟨("loss_of", none), "loss_of", "loss_of", defArgs s_loss_of, defBody s_loss_of, defScope s_loss_of, [], []⟩
def d_Times_time : He.DefD := ⟨("Times", some "time"), "time", "Times.time", defArgs s_Times_time, defBody s_Times_time, defScope s_Times_time, [], []⟩
def d_Times_names : He.DefD := ⟨("Times", some "names"), "names", "Times.names", defArgs s_Times_names, defBody s_Times_names, defScope s_Times_names, [], []⟩
def d_asked_lines : He.DefD := ⟨("asked_lines", none), "asked_lines", "asked_lines", defArgs s_asked_lines, defBody s_asked_lines, defScope s_asked_lines, [], []⟩
def d_can_follow : He.DefD := ⟨("can_follow", none), "can_follow", "can_follow", defArgs s_can_follow, defBody s_can_follow, defScope s_can_follow, [], []⟩
def d_behind_by : He.DefD := ⟨("behind_by", none), "behind_by", "behind_by", defArgs s_behind_by, defBody s_behind_by, defScope s_behind_by, [], []⟩
def d_found_ways : He.DefD := ⟨("found_ways", none), "found_ways", "found_ways", defArgs s_found_ways, defBody s_found_ways, defScope s_found_ways, [], []⟩
def d_paired : He.DefD := ⟨("paired", none), "paired", "paired", defArgs s_paired, defBody s_paired, defScope s_paired, [], []⟩
def d_fewest_hands : He.DefD := ⟨("fewest_hands", none), "fewest_hands", "fewest_hands", defArgs s_fewest_hands, defBody s_fewest_hands, defScope s_fewest_hands, [], []⟩
def d_l_deed : He.DefD := ⟨("_law_deed", none), "_law_deed", "_law_deed", defArgs s_l_deed, defBody s_l_deed, defScope s_l_deed, [], []⟩
def d_l_kinds : He.DefD := ⟨("_law_kinds", none), "_law_kinds", "_law_kinds", defArgs s_l_kinds, defBody s_l_kinds, defScope s_l_kinds, [], []⟩
def d_l_told : He.DefD := ⟨("_law_told", none), "_law_told", "_law_told", defArgs s_l_told, defBody s_l_told, defScope s_l_told, [], []⟩
def d_law : He.DefD := ⟨("law", none), "law", "law", defArgs s_law, defBody s_law, defScope s_law, [], []⟩
abbrev s_NoBreak_init : Stmt := clsS 8 0
def d_NoBreak_init : He.DefD := ⟨("NoBreak", some "__init__"), "__init__", "NoBreak.__init__", defArgs s_NoBreak_init, defBody s_NoBreak_init, defScope s_NoBreak_init, [], []⟩
theorem sc_NoBreak_init : FnScope ["self", "place"] ["self", "place"] (defScope s_NoBreak_init) := ⟨rfl, rfl, rfl, by decide +kernel, rfl, by decide +kernel, by decide +kernel⟩
abbrev s_NoInstrument_init : Stmt := clsS 9 0
def d_NoInstrument_init : He.DefD := ⟨("NoInstrument", some "__init__"), "__init__", "NoInstrument.__init__", defArgs s_NoInstrument_init, defBody s_NoInstrument_init, defScope s_NoInstrument_init, [], []⟩
theorem sc_NoInstrument_init : FnScope ["self", "name"] ["self", "name"] (defScope s_NoInstrument_init) := ⟨rfl, rfl, rfl, by decide +kernel, rfl, by decide +kernel, by decide +kernel⟩
abbrev s_NoLine_init : Stmt := clsS 10 0
def d_NoLine_init : He.DefD := ⟨("NoLine", some "__init__"), "__init__", "NoLine.__init__", defArgs s_NoLine_init, defBody s_NoLine_init, defScope s_NoLine_init, [], []⟩
theorem sc_NoLine_init : FnScope ["self", "place"] ["self", "place"] (defScope s_NoLine_init) := ⟨rfl, rfl, rfl, by decide +kernel, rfl, by decide +kernel, by decide +kernel⟩
def fn : List He.DefD := [d_l_cell_at, d_is_square, d_is_straight, d_is_made_of, d_is_name, d_Times_init, d_asked_bars, d_asked_break, d_played_in, d_window_at, d_loss_at, d_least_book, d_loss_of, d_Times_time, d_Times_names, d_asked_lines, d_can_follow, d_behind_by, d_found_ways, d_paired, d_fewest_hands, d_l_deed, d_l_kinds, d_l_told, d_law, d_NoBreak_init, d_NoInstrument_init, d_NoLine_init]
def gs (K : PySem.W.Frag) : Bool := tab.ok K && payB K "NoBreak" "place" && payB K "NoInstrument" "name" && payB K "NoLine" "place" && clsB K "Times" ["my_names", "my_rows"] ["__init__", "names", "time"]
def fa : List He.Fa := [.glo "_law_cell_at", .glo "is_square", .glo "is_straight", .glo "is_made_of", .glo "is_name", .glo "asked_bars", .glo "asked_break", .glo "played_in", .glo "window_at", .glo "loss_at", .glo "least_book", .glo "loss_of", .glo "asked_lines", .glo "can_follow", .glo "behind_by", .glo "found_ways", .glo "paired", .glo "fewest_hands", .glo "_law_deed", .glo "_law_kinds", .glo "_law_told", .glo "law", .free "len", .free "min", .free "all", .free "range", .free "set", .free "list", .free "sum", .free "max", .free "isinstance", .free "ValueError", .str "LETTERS" ("abcdefghijklmnopqrstuvwxyz" : Str), .glo "NoTimes", .glo "NoBars", .glo "NoBreak", .glo "NoInstrument", .glo "NoLine", .glo "NoCall", .glo "NoName", .glo "NoOrder", .glo "NoPlace", .glo "NoPlayer", .glo "NoSeating", .glo "NoText", .glo "Twice", .glo "PairsError", .exc "NoTimes", .exc "NoBars", .glo "Times"]
abbrev R : PySem.W.OpenRow := PySem.W.OpenLaw.row PySem.Challenge.rw_deskpairs_k19_refusals_apart
abbrev hk : PySem.W.Hook := Dy.hookX 4 fa fn gs
def ob (s : PySem.W.SharedT) : Bool × He.AlD := Dy.obsX 4 fa fn gs (HandSHeadRun.getT s)
theorem ob_eq (s : PySem.W.SharedT) : ob s = hk.obs s.abs := Dy.obsX_eq (HandSHeadRun.getT_eq s)
def loose0 : List Str := ["PairsError", "NoBars", "NoTimes", "NoSeating", "NoOrder", "NoText", "NoCall", "NoBreak", "NoInstrument", "NoLine", "NoPlayer", "NoPlace", "Twice", "NoName", "asked_bars", "asked_break", "played_in", "window_at", "loss_at", "loss_of", "least_book", "asked_lines", "can_follow", "behind_by", "found_ways", "paired", "fewest_hands", "LETTERS", "is_made_of", "is_name"]
def loose1 : List Str := ["is_square", "is_straight", "Times", "_law_cell_at", "_law_kinds", "_law_deed", "_law_told"]
def loose : List Str := loose0 ++ loose1
theorem run (w : World) : HandSHeadRun.RunEq R (PySem.W.view R.prog [45]) hk ob 8240 loose w := by
  intro os
  kernel_rfl
theorem facts {P : Program} {w : World} {K : PySem.W.Frag} {h : Heap} {mg : Str → Option Value} {f : Addr} (X : K.In h) (G : h.Ns mainGlobals mg) (hfa : mg ("law" : Str) = some (.ref f)) (c : He.SaysD fa fn K) (GS : gs K = true) :
    ∃ fd : FuncData, (∀ (s : Shared) (v : Value), BindsTo s fd ⟨[v], []⟩ [("_law_script", v)]) ∧ ∀ base : Heap, K.In base → base.Ns mainGlobals mg → FnOk P w K mg base CX0 9 f fd ["_law_script"] (sp K a_law) := by
  obtain ⟨fd_l_cell_at, F_l_cell_at⟩ := c.def_ 0 (d := d_l_cell_at) rfl
  obtain ⟨fd_is_square, F_is_square⟩ := c.def_ 1 (d := d_is_square) rfl
  obtain ⟨fd_is_straight, F_is_straight⟩ := c.def_ 2 (d := d_is_straight) rfl
  obtain ⟨fd_is_made_of, F_is_made_of⟩ := c.def_ 3 (d := d_is_made_of) rfl
  obtain ⟨fd_is_name, F_is_name⟩ := c.def_ 4 (d := d_is_name) rfl
  obtain ⟨fd_Times_init, F_Times_init⟩ := c.def_ 5 (d := d_Times_init) rfl
  obtain ⟨fd_asked_bars, F_asked_bars⟩ := c.def_ 6 (d := d_asked_bars) rfl
  obtain ⟨fd_asked_break, F_asked_break⟩ := c.def_ 7 (d := d_asked_break) rfl
  obtain ⟨fd_played_in, F_played_in⟩ := c.def_ 8 (d := d_played_in) rfl
  obtain ⟨fd_window_at, F_window_at⟩ := c.def_ 9 (d := d_window_at) rfl
  obtain ⟨fd_loss_at, F_loss_at⟩ := c.def_ 10 (d := d_loss_at) rfl
  obtain ⟨fd_least_book, F_least_book⟩ := c.def_ 11 (d := d_least_book) rfl
  obtain ⟨fd_loss_of, F_loss_of⟩ := c.def_ 12 (d := d_loss_of) rfl
  obtain ⟨fd_Times_time, F_Times_time⟩ := c.def_ 13 (d := d_Times_time) rfl
  obtain ⟨fd_Times_names, F_Times_names⟩ := c.def_ 14 (d := d_Times_names) rfl
  obtain ⟨fd_asked_lines, F_asked_lines⟩ := c.def_ 15 (d := d_asked_lines) rfl
  obtain ⟨fd_can_follow, F_can_follow⟩ := c.def_ 16 (d := d_can_follow) rfl
  obtain ⟨fd_behind_by, F_behind_by⟩ := c.def_ 17 (d := d_behind_by) rfl
  obtain ⟨fd_found_ways, F_found_ways⟩ := c.def_ 18 (d := d_found_ways) rfl
  obtain ⟨fd_paired, F_paired⟩ := c.def_ 19 (d := d_paired) rfl
  obtain ⟨fd_fewest_hands, F_fewest_hands⟩ := c.def_ 20 (d := d_fewest_hands) rfl
  obtain ⟨fd_l_deed, F_l_deed⟩ := c.def_ 21 (d := d_l_deed) rfl
  obtain ⟨fd_l_kinds, F_l_kinds⟩ := c.def_ 22 (d := d_l_kinds) rfl
  obtain ⟨fd_l_told, F_l_told⟩ := c.def_ 23 (d := d_l_told) rfl
  obtain ⟨fd_law, F_law⟩ := c.def_ 24 (d := d_law) rfl
  have g_l_cell_at : mg "_law_cell_at" = some (.ref (He.fAd K ("_law_cell_at", none))) := He.glo_ok X G (c.fact 0 (f := .glo "_law_cell_at") rfl)
  have g_is_square : mg "is_square" = some (.ref (He.fAd K ("is_square", none))) := He.glo_ok X G (c.fact 1 (f := .glo "is_square") rfl)
  have g_is_straight : mg "is_straight" = some (.ref (He.fAd K ("is_straight", none))) := He.glo_ok X G (c.fact 2 (f := .glo "is_straight") rfl)
  have g_is_made_of : mg "is_made_of" = some (.ref (He.fAd K ("is_made_of", none))) := He.glo_ok X G (c.fact 3 (f := .glo "is_made_of") rfl)
  have g_is_name : mg "is_name" = some (.ref (He.fAd K ("is_name", none))) := He.glo_ok X G (c.fact 4 (f := .glo "is_name") rfl)
  have g_asked_bars : mg "asked_bars" = some (.ref (He.fAd K ("asked_bars", none))) := He.glo_ok X G (c.fact 5 (f := .glo "asked_bars") rfl)
  have g_asked_break : mg "asked_break" = some (.ref (He.fAd K ("asked_break", none))) := He.glo_ok X G (c.fact 6 (f := .glo "asked_break") rfl)
  have g_played_in : mg "played_in" = some (.ref (He.fAd K ("played_in", none))) := He.glo_ok X G (c.fact 7 (f := .glo "played_in") rfl)
  have g_window_at : mg "window_at" = some (.ref (He.fAd K ("window_at", none))) := He.glo_ok X G (c.fact 8 (f := .glo "window_at") rfl)
  have g_loss_at : mg "loss_at" = some (.ref (He.fAd K ("loss_at", none))) := He.glo_ok X G (c.fact 9 (f := .glo "loss_at") rfl)
  have g_least_book : mg "least_book" = some (.ref (He.fAd K ("least_book", none))) := He.glo_ok X G (c.fact 10 (f := .glo "least_book") rfl)
  have g_loss_of : mg "loss_of" = some (.ref (He.fAd K ("loss_of", none))) := He.glo_ok X G (c.fact 11 (f := .glo "loss_of") rfl)
  have g_asked_lines : mg "asked_lines" = some (.ref (He.fAd K ("asked_lines", none))) := He.glo_ok X G (c.fact 12 (f := .glo "asked_lines") rfl)
  have g_can_follow : mg "can_follow" = some (.ref (He.fAd K ("can_follow", none))) := He.glo_ok X G (c.fact 13 (f := .glo "can_follow") rfl)
  have g_behind_by : mg "behind_by" = some (.ref (He.fAd K ("behind_by", none))) := He.glo_ok X G (c.fact 14 (f := .glo "behind_by") rfl)
  have g_found_ways : mg "found_ways" = some (.ref (He.fAd K ("found_ways", none))) := He.glo_ok X G (c.fact 15 (f := .glo "found_ways") rfl)
  have g_paired : mg "paired" = some (.ref (He.fAd K ("paired", none))) := He.glo_ok X G (c.fact 16 (f := .glo "paired") rfl)
  have g_fewest_hands : mg "fewest_hands" = some (.ref (He.fAd K ("fewest_hands", none))) := He.glo_ok X G (c.fact 17 (f := .glo "fewest_hands") rfl)
  have g_l_deed : mg "_law_deed" = some (.ref (He.fAd K ("_law_deed", none))) := He.glo_ok X G (c.fact 18 (f := .glo "_law_deed") rfl)
  have g_l_kinds : mg "_law_kinds" = some (.ref (He.fAd K ("_law_kinds", none))) := He.glo_ok X G (c.fact 19 (f := .glo "_law_kinds") rfl)
  have g_l_told : mg "_law_told" = some (.ref (He.fAd K ("_law_told", none))) := He.glo_ok X G (c.fact 20 (f := .glo "_law_told") rfl)
  have g_law : mg "law" = some (.ref (He.fAd K ("law", none))) := He.glo_ok X G (c.fact 21 (f := .glo "law") rfl)
  have z_len : mg "len" = none := He.free_ok X G (c.fact 22 (f := .free "len") rfl)
  have z_min : mg "min" = none := He.free_ok X G (c.fact 23 (f := .free "min") rfl)
  have z_all : mg "all" = none := He.free_ok X G (c.fact 24 (f := .free "all") rfl)
  have z_range : mg "range" = none := He.free_ok X G (c.fact 25 (f := .free "range") rfl)
  have z_set : mg "set" = none := He.free_ok X G (c.fact 26 (f := .free "set") rfl)
  have z_list : mg "list" = none := He.free_ok X G (c.fact 27 (f := .free "list") rfl)
  have z_sum : mg "sum" = none := He.free_ok X G (c.fact 28 (f := .free "sum") rfl)
  have z_max : mg "max" = none := He.free_ok X G (c.fact 29 (f := .free "max") rfl)
  have z_isinstance : mg "isinstance" = none := He.free_ok X G (c.fact 30 (f := .free "isinstance") rfl)
  have z_ValueError : mg "ValueError" = none := He.free_ok X G (c.fact 31 (f := .free "ValueError") rfl)
  have G_LETTERS : ∃ v u, mg "LETTERS" = some u ∧ RelV v u ∧ ∀ F, Enc.rep K F v c_LETTERS := by
    obtain ⟨t, e⟩ := He.str_ok X G (c.fact 32 (f := .str "LETTERS" ("abcdefghijklmnopqrstuvwxyz" : Str)) rfl)
    exact ⟨.str c_LETTERS, _, e, ⟨t, rfl⟩, fun _ => rfl⟩
  unfold gs at GS
  obtain ⟨GS, CB_Times⟩ := He.ba GS
  have CL_Times := clsB_ok CB_Times
  obtain ⟨GS, PB_NoLine⟩ := He.ba GS
  obtain ⟨GS, PB_NoInstrument⟩ := He.ba GS
  obtain ⟨GS, PB_NoBreak⟩ := He.ba GS
  have TB : tab.ok K = true := GS
  have P_NoBreak := payB_ok PB_NoBreak
  obtain ⟨fd_NoBreak_init, F_NoBreak_init⟩ := c.def_ 25 (d := d_NoBreak_init) rfl
  have I_NoBreak : ∀ base : Heap, InitOk P w K mg base "NoBreak" "place" := fun base => ⟨fd_NoBreak_init, _, mk_init (p1 := _) (p2 := _) (p3 := _) (p4 := _) F_NoBreak_init sc_NoBreak_init (fun _ _ _ _ _ _ => ⟨by first | exact Or.inl rfl | exact Or.inr (Or.inl rfl) | exact Or.inr (Or.inr rfl), by first | exact Or.inl rfl | exact Or.inr (Or.inl rfl) | exact Or.inr (Or.inr rfl), rfl⟩), F_NoBreak_init.bindsN fun _ _ _ _ _ _ us hl => match us, hl with | [_, _], _ => rfl⟩
  have P_NoInstrument := payB_ok PB_NoInstrument
  obtain ⟨fd_NoInstrument_init, F_NoInstrument_init⟩ := c.def_ 26 (d := d_NoInstrument_init) rfl
  have I_NoInstrument : ∀ base : Heap, InitOk P w K mg base "NoInstrument" "name" := fun base => ⟨fd_NoInstrument_init, _, mk_init (p1 := _) (p2 := _) (p3 := _) (p4 := _) F_NoInstrument_init sc_NoInstrument_init (fun _ _ _ _ _ _ => ⟨by first | exact Or.inl rfl | exact Or.inr (Or.inl rfl) | exact Or.inr (Or.inr rfl), by first | exact Or.inl rfl | exact Or.inr (Or.inl rfl) | exact Or.inr (Or.inr rfl), rfl⟩), F_NoInstrument_init.bindsN fun _ _ _ _ _ _ us hl => match us, hl with | [_, _], _ => rfl⟩
  have P_NoLine := payB_ok PB_NoLine
  obtain ⟨fd_NoLine_init, F_NoLine_init⟩ := c.def_ 27 (d := d_NoLine_init) rfl
  have I_NoLine : ∀ base : Heap, InitOk P w K mg base "NoLine" "place" := fun base => ⟨fd_NoLine_init, _, mk_init (p1 := _) (p2 := _) (p3 := _) (p4 := _) F_NoLine_init sc_NoLine_init (fun _ _ _ _ _ _ => ⟨by first | exact Or.inl rfl | exact Or.inr (Or.inl rfl) | exact Or.inr (Or.inr rfl), by first | exact Or.inl rfl | exact Or.inr (Or.inl rfl) | exact Or.inr (Or.inr rfl), rfl⟩), F_NoLine_init.bindsN fun _ _ _ _ _ _ us hl => match us, hl with | [_, _], _ => rfl⟩
  have N_NoTimes : mg "NoTimes" = some (.ref (He.ga K "NoTimes")) := He.glo_ok X G (c.fact 33 (f := .glo "NoTimes") rfl)
  have N_NoBars : mg "NoBars" = some (.ref (He.ga K "NoBars")) := He.glo_ok X G (c.fact 34 (f := .glo "NoBars") rfl)
  have N_NoBreak : mg "NoBreak" = some (.ref (He.ga K "NoBreak")) := He.glo_ok X G (c.fact 35 (f := .glo "NoBreak") rfl)
  have N_NoInstrument : mg "NoInstrument" = some (.ref (He.ga K "NoInstrument")) := He.glo_ok X G (c.fact 36 (f := .glo "NoInstrument") rfl)
  have N_NoLine : mg "NoLine" = some (.ref (He.ga K "NoLine")) := He.glo_ok X G (c.fact 37 (f := .glo "NoLine") rfl)
  have N_NoCall : mg "NoCall" = some (.ref (He.ga K "NoCall")) := He.glo_ok X G (c.fact 38 (f := .glo "NoCall") rfl)
  have N_NoName : mg "NoName" = some (.ref (He.ga K "NoName")) := He.glo_ok X G (c.fact 39 (f := .glo "NoName") rfl)
  have N_NoOrder : mg "NoOrder" = some (.ref (He.ga K "NoOrder")) := He.glo_ok X G (c.fact 40 (f := .glo "NoOrder") rfl)
  have N_NoPlace : mg "NoPlace" = some (.ref (He.ga K "NoPlace")) := He.glo_ok X G (c.fact 41 (f := .glo "NoPlace") rfl)
  have N_NoPlayer : mg "NoPlayer" = some (.ref (He.ga K "NoPlayer")) := He.glo_ok X G (c.fact 42 (f := .glo "NoPlayer") rfl)
  have N_NoSeating : mg "NoSeating" = some (.ref (He.ga K "NoSeating")) := He.glo_ok X G (c.fact 43 (f := .glo "NoSeating") rfl)
  have N_NoText : mg "NoText" = some (.ref (He.ga K "NoText")) := He.glo_ok X G (c.fact 44 (f := .glo "NoText") rfl)
  have N_Twice : mg "Twice" = some (.ref (He.ga K "Twice")) := He.glo_ok X G (c.fact 45 (f := .glo "Twice") rfl)
  have N_PairsError : mg "PairsError" = some (.ref (He.ga K "PairsError")) := He.glo_ok X G (c.fact 46 (f := .glo "PairsError") rfl)
  have T_NoTimes : ExcF K mg "NoTimes" := by
    obtain ⟨h1, h2, h3, h4⟩ := He.exc_ok (c.fact 47 (f := .exc "NoTimes") rfl)
    exact ⟨h1, h2, h3, h4, N_NoTimes⟩
  have T_NoBars : ExcF K mg "NoBars" := by
    obtain ⟨h1, h2, h3, h4⟩ := He.exc_ok (c.fact 48 (f := .exc "NoBars") rfl)
    exact ⟨h1, h2, h3, h4, N_NoBars⟩
  have NC_Times : mg "Times" = some (.ref (He.ga K "Times")) := He.glo_ok X G (c.fact 49 (f := .glo "Times") rfl)
  have e := hfa.symm.trans g_law
  cases e
  have b := FunD.bindsA (ps := ["_law_script"]) F_law fun _ _ _ _ _ _ us hl => match us, hl with | [_], _ => rfl
  refine ⟨fd_law, fun s v => b s [v] rfl, fun base _ _ => ?_⟩
  have C_l_cell_at := ok_l_cell_at (P := P) (w := w) (base := base) F_l_cell_at g_l_cell_at z_len
  have C_is_square := ok_is_square (P := P) (w := w) (base := base) F_is_square g_is_square z_len z_min z_all z_range
  have C_is_straight := ok_is_straight (P := P) (w := w) (base := base) F_is_straight g_is_straight z_range z_len
  have C_is_made_of := ok_is_made_of (P := P) (w := w) (base := base) F_is_made_of g_is_made_of z_len
  have C_is_name := ok_is_name (P := P) (w := w) (base := base) F_is_name g_is_name C_is_made_of G_LETTERS
  have C_Times_init : CalC P w K mg base (L2.CX P w) 3 "Times" _ := ⟨⟨_, _, _, (ok_Times_init_fn (P := P) (w := w) (mg := mg) (base := base) F_Times_init C_is_name C_is_square C_is_straight z_len z_set z_all z_list T_NoTimes CL_Times), CL_Times.mkOf (by simp), NC_Times, (F_Times_init.bindsN fun _ _ _ _ _ _ us hl => match us, hl with | [_, _, _], _ => rfl)⟩⟩
  have C_asked_bars := ok_asked_bars (P := P) (w := w) (base := base) F_asked_bars g_asked_bars z_len z_min T_NoBars
  have C_asked_break := ok_asked_break (P := P) (w := w) (base := base) F_asked_break g_asked_break z_len N_NoBreak P_NoBreak (I_NoBreak base)
  have C_played_in := ok_played_in (P := P) (w := w) (base := base) F_played_in g_played_in z_sum z_max
  have C_window_at := ok_window_at (P := P) (w := w) (base := base) F_window_at g_window_at C_asked_bars C_asked_break C_played_in z_range
  have C_loss_at := ok_loss_at (P := P) (w := w) (base := base) F_loss_at g_loss_at C_window_at C_played_in
  have C_least_book := ok_least_book (P := P) (w := w) (base := base) F_least_book g_least_book C_asked_bars
  have C_loss_of := ok_loss_of (P := P) (w := w) (base := base) F_loss_of g_loss_of C_asked_bars C_loss_at z_sum
  have C_Times_time : CalM P w K mg base (L2.CX P w) 3 "Times" "time" _ := ⟨⟨_, _, _, (ok_Times_time_fn (P := P) (w := w) (mg := mg) (base := base) F_Times_time N_NoInstrument P_NoInstrument (I_NoInstrument base) CL_Times), CL_Times.me "time" (by simp), (F_Times_time.bindsN fun _ _ _ _ _ _ us hl => match us, hl with | [_, _, _], _ => rfl)⟩⟩
  have C_Times_names : CalM P w K mg base CX0 1 "Times" "names" _ := ⟨⟨_, _, _, (ok_Times_names_fn (P := P) (w := w) (mg := mg) (base := base) F_Times_names z_list CL_Times), CL_Times.me "names" (by simp), (F_Times_names.bindsN fun _ _ _ _ _ _ us hl => match us, hl with | [_], _ => rfl)⟩⟩
  have C_asked_lines := cal_of (ok_asked_lines_fn (P := P) (w := w) (mg := mg) (base := base) F_asked_lines C_Times_names z_range z_len N_NoLine N_NoInstrument P_NoLine (I_NoLine base) P_NoInstrument (I_NoInstrument base) CL_Times) g_asked_lines F_asked_lines.kp (F_asked_lines.bindsN fun _ _ _ _ _ _ us hl => match us, hl with | [_, _], _ => rfl)
  have C_can_follow := cal_of (ok_can_follow_fn (P := P) (w := w) (mg := mg) (base := base) F_can_follow C_Times_time CL_Times) g_can_follow F_can_follow.kp (F_can_follow.bindsN fun _ _ _ _ _ _ us hl => match us, hl with | [_, _, _], _ => rfl)
  have C_behind_by := cal_of (ok_behind_by_fn (P := P) (w := w) (mg := mg) (base := base) F_behind_by C_can_follow z_list z_range z_len) g_behind_by F_behind_by.kp (F_behind_by.bindsN fun _ _ _ _ _ _ us hl => match us, hl with | [_, _], _ => rfl)
  have C_found_ways := cal_of (ok_found_ways_fn (P := P) (w := w) (mg := mg) (base := base) F_found_ways z_list z_len) g_found_ways F_found_ways.kp (F_found_ways.bindsN fun _ _ _ _ _ _ us hl => match us, hl with | [_, _, _], _ => rfl)
  have C_paired := cal_of (ok_paired_fn (P := P) (w := w) (mg := mg) (base := base) F_paired C_found_ways z_len z_range) g_paired F_paired.kp (F_paired.bindsN fun _ _ _ _ _ _ us hl => match us, hl with | [_], _ => rfl)
  have C_fewest_hands := cal_of (ok_fewest_hands_fn (P := P) (w := w) (mg := mg) (base := base) F_fewest_hands C_asked_lines) g_fewest_hands F_fewest_hands.kp (F_fewest_hands.bindsN fun _ _ _ _ _ _ us hl => match us, hl with | [_, _], _ => rfl)
  have C_l_deed := ok_l_deed (P := P) (w := w) (base := base) F_l_deed g_l_deed C_Times_init C_asked_bars C_least_book C_loss_at C_loss_of C_Times_time C_fewest_hands z_range CL_Times
  have C_l_kinds := ok_l_kinds (P := P) (w := w) (base := base) F_l_kinds g_l_kinds z_isinstance z_ValueError N_NoBars N_NoBreak N_NoTimes N_NoInstrument N_NoLine N_NoCall N_NoName N_NoOrder N_NoPlace N_NoPlayer N_NoSeating N_NoText N_Twice TB
  have C_l_told := ok_l_told (P := P) (w := w) (base := base) F_l_told g_l_told C_l_deed C_l_kinds N_PairsError TB
  exact ok_law_fn (P := P) (w := w) (base := base) F_law g_law C_l_cell_at C_l_told z_range
theorem cell_ok (sc : List Int) {k : Int} (h : 0 ≤ k) : Ok (m_l_cell_at sc k) (fun _ => True) := by
  unfold m_l_cell_at
  exact ok_ite (fun h2 => ok_ret (ok_atI h (of_decide_eq_true h2) fun _ _ => trivial)) (fun _ => ok_some trivial)
theorem i20 : ixN 2 0 = some 0 := by decide
theorem i21 : ixN 2 1 = some 1 := by decide
theorem rg2 : rng 0 2 = [0, 1] := by decide
theorem sq2 {n : Int} (h : 0 ≤ n) : m_is_square ["oboe", "cor"] [[0, n], [n, 0]] = some true := by
  have h1 : ¬ n < 0 := by omega
  have e1 : minL [0, n] = some 0 := by show some (min 0 n) = _; rw [Int.min_eq_left h]
  have e2 : minL [n, 0] = some 0 := by show some (min n 0) = _; rw [Int.min_eq_right h]
  unfold m_is_square
  simp [foldF, e1, e2, bnd, orO, Fl.go, rg2, mapO, compO, atI, i20, i21, chk_pos (show RgB 2 from by unfold RgB; omega), chk_pos (show (2:Nat) ≤ sizeLine from by simp [sizeLine])]
theorem st2 {n : Int} (h : 0 ≤ n) : m_is_straight [[0, n], [n, 0]] = some true := by
  unfold m_is_straight
  have h1 : ¬ (n + n < 0) := by omega
  simp [foldF, bnd, orO, Fl.go, rg2, mapO, compO, atI, i20, i21, chk_pos (show RgB 2 from by unfold RgB; omega), h1]
theorem nm_oboe : m_is_name "oboe" = some true := by
  unfold m_is_name m_is_made_of
  rw [chk_pos (by decide)]
  kernel_rfl
theorem nm_cor : m_is_name "cor" = some true := by
  unfold m_is_name m_is_made_of
  rw [chk_pos (by decide)]
  kernel_rfl
theorem chkT {α : Type} {m : Option α} : chk True m = m := chk_pos trivial
theorem times2 {n : Int} (h : 0 ≤ n) : m_Times_init ["oboe", "cor"] [[0, n], [n, 0]] = some (Rz.ok ⟨["oboe", "cor"], [[0, n], [n, 0]]⟩) := by
  unfold m_Times_init
  have e : ddS ([("oboe" : Str), ("cor" : Str)] : List Str) = [("oboe" : Str), ("cor" : Str)] := by decide +kernel
  simp [bnd, orO, mapO, compO, nm_oboe, nm_cor, sq2 h, st2 h, e, chkT, chk_pos (show (2:Nat) ≤ sizeLine from by simp [sizeLine]), chk_pos (show (2:Nat) ≤ 4000 from by omega)]
theorem twice2 {s : Int} (h1 : 2 ≤ s) (h2 : s ≤ 6) (rs : List (List Int)) : m_Times_init (repl s ["oboe"]) rs = some (Rz.er (Er.pl "NoTimes")) := by
  have hs : s = 2 ∨ s = 3 ∨ s = 4 ∨ s = 5 ∨ s = 6 := by omega
  unfold m_Times_init
  rcases hs with rfl | rfl | rfl | rfl | rfl
  all_goals
    simp only [repl, ddS]
    rw [chk_pos (by decide)]
    rfl

theorem s5 {s : Int} (h1 : 2 ≤ s) (h2 : s ≤ 6) : s = 2 ∨ s = 3 ∨ s = 4 ∨ s = 5 ∨ s = 6 := by omega
theorem repok {s : Int} (h1 : 2 ≤ s) (h2 : s ≤ 6) : RepOk s 1 := ⟨by omega, by omega, by have := sizeLine_eq; omega⟩
theorem repl_mem {α : Type} {s : Int} {x y : α} (h : y ∈ repl s [x]) : y = x := by
  unfold repl at h
  rw [List.flatten_replicate_singleton] at h
  exact (List.mem_replicate.mp h).2
theorem bars_ok {xs : List Int} (h1 : 1 ≤ xs.length) (h2 : xs.length ≤ 200) (h3 : ∀ y ∈ xs, 0 ≤ y) : m_asked_bars xs = some (Rz.ok true) := by
  have : ∃ m, minL xs = some m ∧ 0 ≤ m := by
    cases xs with
    | nil => simp at h1
    | cons x r => exact ⟨_, rfl, h3 _ (foldl_min r x).1⟩
  obtain ⟨m, e, hm⟩ := this
  unfold m_asked_bars
  have g1 : ¬ ((xs.length : Int) < 1) := by omega
  have g2 : ¬ ((200 : Int) < (xs.length : Int)) := by omega
  have g3 : ¬ (m < 0) := by omega
  simp [orO, bnd, e, g1, g2, g3]
theorem bars_no {xs : List Int} (h1 : 1 ≤ xs.length) (h2 : xs.length ≤ 200) {y : Int} (h3 : y ∈ xs) (hy : y < 0) : m_asked_bars xs = some (Rz.er (Er.pl "NoBars")) := by
  have : ∃ m, minL xs = some m ∧ m < 0 := by
    cases xs with
    | nil => simp at h1
    | cons x r => exact ⟨_, rfl, by have := (foldl_min r x).2 y h3; omega⟩
  obtain ⟨m, e, hm⟩ := this
  unfold m_asked_bars
  have g1 : ¬ ((xs.length : Int) < 1) := by omega
  have g2 : ¬ ((200 : Int) < (xs.length : Int)) := by omega
  simp [orO, bnd, e, g1, g2, hm]
theorem loss_no {xs : List Int} (h1 : 1 ≤ xs.length) (h2 : xs.length ≤ 200) (h3 : ∀ y ∈ xs, 0 ≤ y) {n p : Int} (hp : p < 1 ∨ (xs.length : Int) ≤ p) : m_loss_at xs n p = some (Rz.er (Er.pi "NoBreak" "place" p)) := by
  unfold m_loss_at m_window_at m_asked_break
  rw [bars_ok h1 h2 h3]
  have : ((decide (p < (1 : Int))) || (decide (((xs).length : Int) ≤ p))) = true := by
    rcases hp with h | h
    · simp [h]
    · simp [h]
  simp only [tb]
  rw [if_pos this]

theorem times2r {n : Int} (h : 0 ≤ n) : m_Times_time ⟨["oboe", "cor"], [[0, n], [n, 0]]⟩ "oboe" "horn" = some (Rz.er (Er.ps "NoInstrument" "name" "horn")) := by
  have e1 : ("oboe" : Str) ∈ ([("oboe" : Str), ("cor" : Str)] : List Str) := List.mem_cons_self
  have e2 : ¬ ("horn" : Str) ∈ ([("oboe" : Str), ("cor" : Str)] : List Str) := by decide +kernel
  unfold m_Times_time
  simp only [foldF, bnd]
  simp [e1, e2, Fl.go]
theorem rng_snocN (n : Nat) : rng 0 ((n : Int) + 1) = rng 0 n ++ [(n : Int)] := by
  unfold rng
  have e1 : ((n : Int) + 1 - 0).toNat = n + 1 := by omega
  have e2 : ((n : Int) - 0).toNat = n := by omega
  rw [e1, e2, List.range_succ, List.map_append]
  simp
theorem foldF_pre {α ρ : Type} {f : Unit → α → Option (Fl Unit ρ)} {xs : List α} {y : α} {o : Fl Unit ρ} (h1 : ∀ x ∈ xs, f () x = some (Fl.nx ())) (h2 : f () y = some o) : foldF f () (xs ++ [y]) = some o := by
  induction xs with
  | nil =>
    show (f () y).bind _ = _
    rw [h2]
    cases o <;> rfl
  | cons x r ih =>
    show (f () x).bind _ = _
    rw [h1 x List.mem_cons_self]
    exact ih fun z hz => h1 z (List.mem_cons_of_mem _ hz)
theorem lines_no {n s : Int} (hn : 0 ≤ n) (h1 : 2 ≤ s) (h2 : s ≤ 6) {bad : T3 Str Int Int} {er : Er} {k : List Str} (hk : ("oboe" : Str) ∈ k) {rs : List (List Int)}
    (hb : (if ((decide (bad.b < (0 : Int))) || (decide (bad.c < bad.b))) = true then (some (Fl.rt (Rz.er (Er.pi "NoLine" "place" s)))) else (if (!decide (bad.a ∈ k)) = true then (some (Fl.rt (Rz.er (Er.ps "NoInstrument" "name" bad.a)))) else (some (Fl.nx ()))) : Option (Fl Unit (Rz Bool))) = some (Fl.rt (Rz.er er))) :
    m_asked_lines ⟨k, rs⟩ (repl s [(⟨"oboe", n, n⟩ : T3 Str Int Int)] ++ [bad]) = some (Rz.er er) := by
  obtain ⟨m, rfl⟩ : ∃ m : Nat, s = (m : Int) := ⟨s.toNat, by omega⟩
  have el : (repl (m : Int) [(⟨"oboe", n, n⟩ : T3 Str Int Int)]) = List.replicate m ⟨"oboe", n, n⟩ := by
    unfold repl
    rw [List.flatten_replicate_singleton]
    rfl
  rw [el]
  unfold m_asked_lines
  simp only [bnd, lt, m_Times_names, Option.bind_some]
  have e3 : ((List.replicate m (⟨"oboe", n, n⟩ : T3 Str Int Int) ++ [bad]).length : Int) = (m : Int) + 1 := by simp
  rw [e3, rng_snocN, chk_pos (by unfold RgB; omega)]
  rw [foldF_pre (o := Fl.rt (Rz.er er)) (fun x hx => ?a) ?b]
  · rfl
  case a =>
    obtain ⟨x1, x2⟩ := mem_rng.mp hx
    rw [atI_get x1 (by rw [e3]; omega), List.getElem?_append_left (by rw [List.length_replicate]; omega), List.getElem?_replicate, if_pos (by omega)]
    show (if ((decide (n < (0 : Int))) || (decide (n < n))) = true then _ else _) = _
    rw [if_neg (by simp; omega), if_neg (by simp [hk])]
  case b =>
    rw [atI_get (by omega) (by rw [e3]; omega), List.getElem?_append_right (by rw [List.length_replicate]; omega)]
    have e4 : ((m : Int)).toNat - (List.replicate m (⟨"oboe", n, n⟩ : T3 Str Int Int)).length = 0 := by simp
    rw [e4]
    exact hb
theorem isE_c {er : Er} {c q : Str} (h : er.c = c) : isE tab er q = isE tab (.pl c) q := by
  unfold isE
  rw [h]
  rfl
theorem exE_c {er : Er} {c q : Str} (h : er.c = c) : exE tab er q = exE tab (.pl c) q := by
  unfold exE
  rw [h]
  rfl
theorem kinds_NoBars {er : Er} (h : er.c = "NoBars") : m_l_kinds er = some [true, false, false, false, false, false, false, false, false, false, false, false, false, true] := by
  unfold m_l_kinds
  simp only [show isE tab er "NoBars" = some true from (isE_c h).trans (by kernel_rfl), show isE tab er "NoBreak" = some false from (isE_c h).trans (by kernel_rfl), show isE tab er "NoTimes" = some false from (isE_c h).trans (by kernel_rfl), show isE tab er "NoInstrument" = some false from (isE_c h).trans (by kernel_rfl), show isE tab er "NoLine" = some false from (isE_c h).trans (by kernel_rfl), show isE tab er "NoCall" = some false from (isE_c h).trans (by kernel_rfl), show isE tab er "NoName" = some false from (isE_c h).trans (by kernel_rfl), show isE tab er "NoOrder" = some false from (isE_c h).trans (by kernel_rfl), show isE tab er "NoPlace" = some false from (isE_c h).trans (by kernel_rfl), show isE tab er "NoPlayer" = some false from (isE_c h).trans (by kernel_rfl), show isE tab er "NoSeating" = some false from (isE_c h).trans (by kernel_rfl), show isE tab er "NoText" = some false from (isE_c h).trans (by kernel_rfl), show isE tab er "Twice" = some false from (isE_c h).trans (by kernel_rfl), show isE tab er "ValueError" = some true from (isE_c h).trans (by kernel_rfl)]
  simp [bnd, lt, sizeLine_eq, chkT]
theorem pairs_NoBars {er : Er} (h : er.c = "NoBars") : exE tab er "PairsError" = some true := (exE_c h).trans (by kernel_rfl)
theorem told_NoBars {sort n s : Int} {er : Er} (h : er.c = "NoBars") (hd : m_l_deed sort n s = some (.er er)) : m_l_told sort n s = some [true, false, false, false, false, false, false, false, false, false, false, false, false, true] := by
  unfold m_l_told
  rw [hd]
  simp only [lt, tb, pairs_NoBars h, kinds_NoBars h, bnd, Option.bind_some]
  exact chk_pos trivial
theorem kinds_NoBreak {er : Er} (h : er.c = "NoBreak") : m_l_kinds er = some [false, true, false, false, false, false, false, false, false, false, false, false, false, true] := by
  unfold m_l_kinds
  simp only [show isE tab er "NoBars" = some false from (isE_c h).trans (by kernel_rfl), show isE tab er "NoBreak" = some true from (isE_c h).trans (by kernel_rfl), show isE tab er "NoTimes" = some false from (isE_c h).trans (by kernel_rfl), show isE tab er "NoInstrument" = some false from (isE_c h).trans (by kernel_rfl), show isE tab er "NoLine" = some false from (isE_c h).trans (by kernel_rfl), show isE tab er "NoCall" = some false from (isE_c h).trans (by kernel_rfl), show isE tab er "NoName" = some false from (isE_c h).trans (by kernel_rfl), show isE tab er "NoOrder" = some false from (isE_c h).trans (by kernel_rfl), show isE tab er "NoPlace" = some false from (isE_c h).trans (by kernel_rfl), show isE tab er "NoPlayer" = some false from (isE_c h).trans (by kernel_rfl), show isE tab er "NoSeating" = some false from (isE_c h).trans (by kernel_rfl), show isE tab er "NoText" = some false from (isE_c h).trans (by kernel_rfl), show isE tab er "Twice" = some false from (isE_c h).trans (by kernel_rfl), show isE tab er "ValueError" = some true from (isE_c h).trans (by kernel_rfl)]
  simp [bnd, lt, sizeLine_eq, chkT]
theorem pairs_NoBreak {er : Er} (h : er.c = "NoBreak") : exE tab er "PairsError" = some true := (exE_c h).trans (by kernel_rfl)
theorem told_NoBreak {sort n s : Int} {er : Er} (h : er.c = "NoBreak") (hd : m_l_deed sort n s = some (.er er)) : m_l_told sort n s = some [false, true, false, false, false, false, false, false, false, false, false, false, false, true] := by
  unfold m_l_told
  rw [hd]
  simp only [lt, tb, pairs_NoBreak h, kinds_NoBreak h, bnd, Option.bind_some]
  exact chk_pos trivial
theorem kinds_NoTimes {er : Er} (h : er.c = "NoTimes") : m_l_kinds er = some [false, false, true, false, false, false, false, false, false, false, false, false, false, true] := by
  unfold m_l_kinds
  simp only [show isE tab er "NoBars" = some false from (isE_c h).trans (by kernel_rfl), show isE tab er "NoBreak" = some false from (isE_c h).trans (by kernel_rfl), show isE tab er "NoTimes" = some true from (isE_c h).trans (by kernel_rfl), show isE tab er "NoInstrument" = some false from (isE_c h).trans (by kernel_rfl), show isE tab er "NoLine" = some false from (isE_c h).trans (by kernel_rfl), show isE tab er "NoCall" = some false from (isE_c h).trans (by kernel_rfl), show isE tab er "NoName" = some false from (isE_c h).trans (by kernel_rfl), show isE tab er "NoOrder" = some false from (isE_c h).trans (by kernel_rfl), show isE tab er "NoPlace" = some false from (isE_c h).trans (by kernel_rfl), show isE tab er "NoPlayer" = some false from (isE_c h).trans (by kernel_rfl), show isE tab er "NoSeating" = some false from (isE_c h).trans (by kernel_rfl), show isE tab er "NoText" = some false from (isE_c h).trans (by kernel_rfl), show isE tab er "Twice" = some false from (isE_c h).trans (by kernel_rfl), show isE tab er "ValueError" = some true from (isE_c h).trans (by kernel_rfl)]
  simp [bnd, lt, sizeLine_eq, chkT]
theorem pairs_NoTimes {er : Er} (h : er.c = "NoTimes") : exE tab er "PairsError" = some true := (exE_c h).trans (by kernel_rfl)
theorem told_NoTimes {sort n s : Int} {er : Er} (h : er.c = "NoTimes") (hd : m_l_deed sort n s = some (.er er)) : m_l_told sort n s = some [false, false, true, false, false, false, false, false, false, false, false, false, false, true] := by
  unfold m_l_told
  rw [hd]
  simp only [lt, tb, pairs_NoTimes h, kinds_NoTimes h, bnd, Option.bind_some]
  exact chk_pos trivial
theorem kinds_NoInstrument {er : Er} (h : er.c = "NoInstrument") : m_l_kinds er = some [false, false, false, true, false, false, false, false, false, false, false, false, false, true] := by
  unfold m_l_kinds
  simp only [show isE tab er "NoBars" = some false from (isE_c h).trans (by kernel_rfl), show isE tab er "NoBreak" = some false from (isE_c h).trans (by kernel_rfl), show isE tab er "NoTimes" = some false from (isE_c h).trans (by kernel_rfl), show isE tab er "NoInstrument" = some true from (isE_c h).trans (by kernel_rfl), show isE tab er "NoLine" = some false from (isE_c h).trans (by kernel_rfl), show isE tab er "NoCall" = some false from (isE_c h).trans (by kernel_rfl), show isE tab er "NoName" = some false from (isE_c h).trans (by kernel_rfl), show isE tab er "NoOrder" = some false from (isE_c h).trans (by kernel_rfl), show isE tab er "NoPlace" = some false from (isE_c h).trans (by kernel_rfl), show isE tab er "NoPlayer" = some false from (isE_c h).trans (by kernel_rfl), show isE tab er "NoSeating" = some false from (isE_c h).trans (by kernel_rfl), show isE tab er "NoText" = some false from (isE_c h).trans (by kernel_rfl), show isE tab er "Twice" = some false from (isE_c h).trans (by kernel_rfl), show isE tab er "ValueError" = some true from (isE_c h).trans (by kernel_rfl)]
  simp [bnd, lt, sizeLine_eq, chkT]
theorem pairs_NoInstrument {er : Er} (h : er.c = "NoInstrument") : exE tab er "PairsError" = some true := (exE_c h).trans (by kernel_rfl)
theorem told_NoInstrument {sort n s : Int} {er : Er} (h : er.c = "NoInstrument") (hd : m_l_deed sort n s = some (.er er)) : m_l_told sort n s = some [false, false, false, true, false, false, false, false, false, false, false, false, false, true] := by
  unfold m_l_told
  rw [hd]
  simp only [lt, tb, pairs_NoInstrument h, kinds_NoInstrument h, bnd, Option.bind_some]
  exact chk_pos trivial
theorem kinds_NoLine {er : Er} (h : er.c = "NoLine") : m_l_kinds er = some [false, false, false, false, true, false, false, false, false, false, false, false, false, true] := by
  unfold m_l_kinds
  simp only [show isE tab er "NoBars" = some false from (isE_c h).trans (by kernel_rfl), show isE tab er "NoBreak" = some false from (isE_c h).trans (by kernel_rfl), show isE tab er "NoTimes" = some false from (isE_c h).trans (by kernel_rfl), show isE tab er "NoInstrument" = some false from (isE_c h).trans (by kernel_rfl), show isE tab er "NoLine" = some true from (isE_c h).trans (by kernel_rfl), show isE tab er "NoCall" = some false from (isE_c h).trans (by kernel_rfl), show isE tab er "NoName" = some false from (isE_c h).trans (by kernel_rfl), show isE tab er "NoOrder" = some false from (isE_c h).trans (by kernel_rfl), show isE tab er "NoPlace" = some false from (isE_c h).trans (by kernel_rfl), show isE tab er "NoPlayer" = some false from (isE_c h).trans (by kernel_rfl), show isE tab er "NoSeating" = some false from (isE_c h).trans (by kernel_rfl), show isE tab er "NoText" = some false from (isE_c h).trans (by kernel_rfl), show isE tab er "Twice" = some false from (isE_c h).trans (by kernel_rfl), show isE tab er "ValueError" = some true from (isE_c h).trans (by kernel_rfl)]
  simp [bnd, lt, sizeLine_eq, chkT]
theorem pairs_NoLine {er : Er} (h : er.c = "NoLine") : exE tab er "PairsError" = some true := (exE_c h).trans (by kernel_rfl)
theorem told_NoLine {sort n s : Int} {er : Er} (h : er.c = "NoLine") (hd : m_l_deed sort n s = some (.er er)) : m_l_told sort n s = some [false, false, false, false, true, false, false, false, false, false, false, false, false, true] := by
  unfold m_l_told
  rw [hd]
  simp only [lt, tb, pairs_NoLine h, kinds_NoLine h, bnd, Option.bind_some]
  exact chk_pos trivial
theorem repl_rep {α : Type} {s : Int} (x : α) : repl s [x] = List.replicate s.toNat x := by
  unfold repl
  rw [List.flatten_replicate_singleton]
theorem deed_ok {k n s : Int} (hk0 : 0 ≤ k) (hk : k < 8) (hn : 0 ≤ n) (h1 : 2 ≤ s) (h2 : s ≤ 6) : ∃ er, m_l_deed k n s = some (Rz.er er) ∧ er.c = (["NoBars", "NoBars", "NoBreak", "NoBreak", "NoTimes", "NoInstrument", "NoLine", "NoInstrument"] : List Str)[k.toNat]?.getD "" := by
  have hk8 : k = 0 ∨ k = 1 ∨ k = 2 ∨ k = 3 ∨ k = 4 ∨ k = 5 ∨ k = 6 ∨ k = 7 := by omega
  have sl := sizeLine_eq
  unfold m_l_deed
  rw [chk_pos (show RepOk s ([n] : List Int).length from repok h1 h2)]
  simp only [lt, a_Times_init, a_Times_time, a_fewest_hands]
  rw [times2 hn]
  simp only [tb]
  have len : (repl s [n]).length = s.toNat := by rw [repl_rep, List.length_replicate]
  have nn : ∀ y ∈ repl s [n], 0 ≤ y := fun y hy => by rw [repl_mem hy]; exact hn
  rcases hk8 with rfl | rfl | rfl | rfl | rfl | rfl | rfl | rfl
  · rw [if_pos (by decide), chk_pos (by rw [len]; simp; omega), bars_no (y := -1 - n) (by simp) (by simp [len]; omega) (by simp) (by omega)]
    exact ⟨_, rfl, rfl⟩
  · rw [if_neg (by decide), if_pos (by decide)]
    exact ⟨_, rfl, rfl⟩
  · rw [if_neg (by decide), if_neg (by decide), if_pos (by decide), loss_no (by rw [len]; omega) (by rw [len]; omega) nn (.inl (by omega))]
    exact ⟨_, rfl, rfl⟩
  · rw [if_neg (by decide), if_neg (by decide), if_neg (by decide), if_pos (by decide)]
    unfold m_loss_of
    rw [bars_ok (by rw [len]; omega) (by rw [len]; omega) nn]
    simp only [tb]
    rw [chk_pos (by simp; omega)]
    simp only [mapR]
    rw [loss_no (by rw [len]; omega) (by rw [len]; omega) nn (.inr (by rw [len]; omega))]
    exact ⟨_, rfl, rfl⟩
  · rw [if_neg (by decide), if_neg (by decide), if_neg (by decide), if_neg (by decide), if_pos (by decide)]
    rw [chk_pos (show RepOk s ([("oboe" : Str)] : List Str).length from repok h1 h2), chk_pos (by unfold RgB; omega)]
    obtain ⟨ys, e, hl⟩ : ∃ ys, mapO (fun (x : Int) => (chk (RepOk s (([(0 : Int)] : List Int)).length) (some (repl s ([(0 : Int)] : List Int))))) (rng 0 s) = some ys ∧ ys.length = (rng 0 s).length := by
      have : ∀ l : List Int, ∃ ys, mapO (fun (x : Int) => (chk (RepOk s (([(0 : Int)] : List Int)).length) (some (repl s ([(0 : Int)] : List Int))))) l = some ys ∧ ys.length = l.length := fun l => by
        induction l with
        | nil => exact ⟨[], rfl, rfl⟩
        | cons x r ih =>
          obtain ⟨ys, e, hl⟩ := ih
          unfold mapO at e
          refine ⟨repl s [0] :: ys, ?_, by simp [hl]⟩
          unfold mapO compO
          rw [e, chk_pos (show RepOk s ([(0 : Int)] : List Int).length from repok h1 h2)]
          rfl
      exact this _
    simp only [bnd]
    rw [e]
    simp only [Option.bind_some]
    rw [chk_pos (by rw [hl, rng_len_nn (by omega)]; omega)]
    rw [twice2 h1 h2 ys]
    exact ⟨_, rfl, rfl⟩
  · rw [if_neg (by decide), if_neg (by decide), if_neg (by decide), if_neg (by decide), if_neg (by decide), if_pos (by decide)]
    rw [times2r hn]
    exact ⟨_, rfl, rfl⟩
  · rw [if_neg (by decide), if_neg (by decide), if_neg (by decide), if_neg (by decide), if_neg (by decide), if_neg (by decide), if_pos (by decide)]
    simp only [List.length_cons, List.length_nil, Nat.zero_add]
    rw [chk_pos (repok h1 h2), chk_pos (by rw [repl_rep, List.length_replicate]; omega)]
    simp only [m_fewest_hands, a_asked_lines]
    rw [lines_no (er := Er.pi "NoLine" "place" s) hn h1 h2 List.mem_cons_self (by rw [if_pos (by simp; omega)])]
    exact ⟨_, rfl, rfl⟩
  · rw [if_neg (by decide), if_neg (by decide), if_neg (by decide), if_neg (by decide), if_neg (by decide), if_neg (by decide), if_neg (by decide), if_pos (by decide)]
    simp only [List.length_cons, List.length_nil, Nat.zero_add]
    rw [chk_pos (repok h1 h2), chk_pos (by rw [repl_rep, List.length_replicate]; omega)]
    simp only [m_fewest_hands, a_asked_lines]
    rw [lines_no (er := Er.ps "NoInstrument" "name" "horn") hn h1 h2 List.mem_cons_self (by rw [if_neg (by simp; omega), if_pos (show (!decide (("horn" : Str) ∈ ([("oboe" : Str), ("cor" : Str)] : List Str))) = true from by decide +kernel)])]
    exact ⟨_, rfl, rfl⟩
def dueL (k : Int) : List Bool := ((List.replicate 13 false ++ [true]).set (([0, 0, 1, 1, 2, 3, 4, 3] : List Nat)[k.toNat]?.getD 0) true)
theorem told_ok {k n s : Int} (hk0 : 0 ≤ k) (hk : k < 8) (hn : 0 ≤ n) (h1 : 2 ≤ s) (h2 : s ≤ 6) : m_l_told k n s = some (dueL k) := by
  obtain ⟨er, e, hc⟩ := deed_ok hk0 hk hn h1 h2
  have hk8 : k = 0 ∨ k = 1 ∨ k = 2 ∨ k = 3 ∨ k = 4 ∨ k = 5 ∨ k = 6 ∨ k = 7 := by omega
  rcases hk8 with rfl | rfl | rfl | rfl | rfl | rfl | rfl | rfl
  · exact told_NoBars hc e
  · exact told_NoBars hc e
  · exact told_NoBreak hc e
  · exact told_NoBreak hc e
  · exact told_NoTimes hc e
  · exact told_NoInstrument hc e
  · exact told_NoLine hc e
  · exact told_NoInstrument hc e
theorem foldF_all {α ρ : Type} {f : Unit → α → Option (Fl Unit ρ)} {xs : List α} (h : ∀ x ∈ xs, f () x = some (Fl.nx ())) : foldF f () xs = some (Fl.nx ()) := by
  induction xs with
  | nil => rfl
  | cons x r ih =>
    show (f () x).bind _ = _
    rw [h x List.mem_cons_self]
    exact ih fun z hz => h z (List.mem_cons_of_mem _ hz)
theorem law_true : ∀ ns : List Int, ns.length ≤ 63 → a_law (ns, ()) = some true := by
  intro ns _
  show m_law ns = _
  unfold m_law
  obtain ⟨c, ec, _⟩ := cell_ok ns (k := 0) (by omega)
  rw [ec]
  simp only [bnd, lt, Option.bind_some]
  rw [foldF_all]
  · rfl
  · intro x hx
    obtain ⟨x1, x2⟩ := mem_rng.mp hx
    obtain ⟨d, ed, _⟩ := cell_ok ns (k := 1 + x) (by omega)
    rw [ed]
    simp only [Option.bind_some]
    have m0 : 0 ≤ (c % 8 + x) % 8 := Int.emod_nonneg _ (by omega)
    have m1 : (c % 8 + x) % 8 < 8 := Int.emod_lt_of_pos _ (by omega)
    generalize (c % 8 + x) % 8 = k at m0 m1
    rw [told_ok m0 m1 (Int.emod_nonneg _ (by decide)) (by have := Int.emod_nonneg d (b := 5) (by omega); omega) (by have := Int.emod_lt_of_pos d (b := 5) (by omega); omega)]
    rw [chk_pos (show RepOk 13 ([false] : List Bool).length from ⟨by decide, by decide, by have := sizeLine_eq; simp; omega⟩)]
    rw [chk_pos (by have := sizeLine_eq; rw [show (repl 13 [false]).length = 13 from rfl]; simp; omega)]
    have hk8 : k = 0 ∨ k = 1 ∨ k = 2 ∨ k = 3 ∨ k = 4 ∨ k = 5 ∨ k = 6 ∨ k = 7 := by omega
    rcases hk8 with rfl | rfl | rfl | rfl | rfl | rfl | rfl | rfl <;> rfl

end K19

open PySem PySem.W PySem.Calls PyProof.Rows
set_option maxHeartbeats 0 in
theorem PySem.Challenge.cw_deskpairs_k19_refusals_apart_holds : PySem.Challenge.rw_deskpairs_k19_refusals_apart.Holds := by
  w_on; o_law
  refine HandSHeadRun.head_any (r := OpenLaw.row PySem.Challenge.rw_deskpairs_k19_refusals_apart) (q := view (OpenLaw.row PySem.Challenge.rw_deskpairs_k19_refusals_apart).prog [45]) (H := K19.hk) (ob := K19.ob) (M := 8240) (loose := K19.loose) (d := HandSHeadRun.topDef (OpenLaw.row PySem.Challenge.rw_deskpairs_k19_refusals_apart).prog 45) (kwd := []) K19.ob_eq
    (by kernel_rfl) (fun s => by kernel_rfl) K19.run (by kernel_rfl) (by kernel_rfl) (by kernel_rfl) (by rfl) (by first | assumption | decide +kernel) (by decide +kernel) ⟨rfl, rfl, rfl, rfl, rfl, by decide +kernel⟩ ?hw ?hc
  case hw => w_witness2
  case hc =>
    refine L2.walk_ofE (l := PySem.Challenge.rw_deskpairs_k19_refusals_apart) (n := 63) (k := 9) (x := "_law_script") (CX := L2.CX0) rfl (by decide) (by kernel_rfl) ⟨rfl, by decide, by decide⟩ ?F (fun _ _ _ _ z => z)
    intro w mg fa h Y G hmg0
    obtain ⟨K, KX, c, TB⟩ := Y
    have hmg : mg ("law" : PySem.Str) = some (.ref fa) := by
      have e : (HandSHeadRun.topDef (OpenLaw.row PySem.Challenge.rw_deskpairs_k19_refusals_apart).prog 45).name = ("law" : PySem.Str) := by kernel_rfl
      rw [← e]
      exact hmg0
    obtain ⟨fd, hb, hF⟩ := K19.facts (P := (PySem.Challenge.rw_deskpairs_k19_refusals_apart).prog) (w := w) KX G hmg c TB
    exact ⟨K, fd, Dy.spLaw K, KX, hb, fun H a ns hl _ hS => ⟨a, ns, rfl, hS, hl, fun _ => rfl⟩, fun base h1 h2 => Dy.law_of (hF base h1 h2) K19.law_true⟩

