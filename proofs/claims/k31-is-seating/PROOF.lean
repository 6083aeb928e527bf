import PyProof.Rows.All
import Wide.All
import OpenK.AllK
import Wide.FinOn
import HandS.ForMost
import HandS.Codes
import HandS.Wide
import HandS.SortInts
import HandS.Conv
import HandS.IsInst
import HandS.Defaults
import HandS.Head0
import HandS.Head1
import HandS.Head2
import HandS.HeadEnd
import HandS.HeadHook1
import HandS.HeadHook2
import HandS.Zip
import HandS.Exc
import HandS.TryOnly
import HandS.ExcOwn
import HandS.WordsExc
import HandS.ExcInit
import HandS.ExcIs
import HandS.ExcField
import HandS.Style
import HandS.TupAny
import HandS.More
import HandS.Replace
import PySem.Challenge.RW_deskpairs_k31_is_seating
set_option Elab.async false
set_option linter.all false
set_option maxRecDepth 100000
namespace Dy
open PySem PySem.Spec PyProof.Rows L2

structure S where
  F : Hp
  H : Hp
  sub : ∀ a o, F a = some o → H a = some o
abbrev Fle (F F' : Hp) : Prop := ∀ a o, F a = some o → F' a = some o
theorem Fle.refl (F : Hp) : Fle F F := fun _ _ h => h
theorem Fle.trans {F G I : Hp} (a : Fle F G) (b : Fle G I) : Fle F I := fun x o h => b x o (a x o h)
structure Ex (s t : S) : Prop where
  f : Fle s.F t.F
  h : ∀ a o, s.H a = some o → t.H a = some o
  n : ∀ a o, s.H a = some o → s.F a = none → t.F a = none
theorem Ex.refl (s : S) : Ex s s := ⟨fun _ _ h => h, fun _ _ h => h, fun _ _ _ h => h⟩
theorem Ex.trans {s t u : S} (a : Ex s t) (b : Ex t u) : Ex s u :=
  ⟨fun x o h => b.f x o (a.f x o h), fun x o h => b.h x o (a.h x o h), fun x o h n => b.n x o (a.h x o h) (a.n x o h n)⟩
theorem fr_back {s t : S} (e : Ex s t) {p : Addr} (h : t.H p = none) : s.H p = none := by
  cases q : s.H p with
  | none => rfl
  | some o => rw [e.h p o q] at h; cases h
theorem fF {s : S} {p : Addr} (h : s.H p = none) : s.F p = none := by
  cases q : s.F p with
  | none => rfl
  | some o => rw [s.sub p o q] at h; cases h
def S.newF (s : S) (p : Addr) (o : HO) (h : s.H p = none) : S := ⟨upd s.F p o, upd s.H p o, fun a u q => by
  unfold upd at q ⊢
  split
  · rename_i e; rw [if_pos e] at q; exact q
  · rename_i e; rw [if_neg e] at q; exact s.sub a u q⟩
def S.newO (s : S) (p : Addr) (o : HO) (h : s.H p = none) : S := ⟨s.F, upd s.H p o, fun a u q => by
  rw [upd_ne (ne_of_none (s.sub a u q) h)]; exact s.sub a u q⟩
def S.put (s : S) (p : Addr) (o : HO) (h : s.F p = none) : S := ⟨s.F, upd s.H p o, fun a u q => by
  rw [upd_ne (ne_of_none q h)]; exact s.sub a u q⟩
theorem Ex.newF {s : S} {p : Addr} {o : HO} (h : s.H p = none) : Ex s (s.newF p o h) :=
  ⟨fun a u q => by show upd s.F p o a = some u; rw [upd_ne (ne_of_none (s.sub a u q) h)]; exact q,
   fun a u q => by show upd s.H p o a = some u; rw [upd_ne (ne_of_none q h)]; exact q,
   fun a u q n => by show upd s.F p o a = none; rw [upd_ne (ne_of_none q h)]; exact n⟩
theorem Ex.newO {s : S} {p : Addr} {o : HO} (h : s.H p = none) : Ex s (s.newO p o h) :=
  ⟨fun a u q => q, fun a u q => by show upd s.H p o a = some u; rw [upd_ne (ne_of_none q h)]; exact q, fun a u q n => n⟩
structure Mx (P : Addr → Prop) (s t : S) : Prop where
  f : Fle s.F t.F
  h : ∀ a o, s.H a = some o → ¬ P a → t.H a = some o
  n : ∀ a o, s.H a = some o → s.F a = none → t.F a = none
  d : ∀ a o, s.H a = some o → ∃ u, t.H a = some u
theorem Ex.mx {P : Addr → Prop} {s t : S} (e : Ex s t) : Mx P s t := ⟨e.f, fun a o h _ => e.h a o h, e.n, fun a o h => ⟨o, e.h a o h⟩⟩
theorem Mx.trans {P : Addr → Prop} {s t u : S} (a : Mx P s t) (b : Mx P t u) : Mx P s u :=
  ⟨fun x o h => b.f x o (a.f x o h), fun x o h n => b.h x o (a.h x o h n) n,
   fun x o h n => by obtain ⟨v, hv⟩ := a.d x o h; exact b.n x v hv (a.n x o h n),
   fun x o h => by obtain ⟨v, hv⟩ := a.d x o h; exact b.d x v hv⟩
theorem Mx.put {s : S} {p : Addr} {o : HO} (h : s.F p = none) : Mx (· = p) s (s.put p o h) :=
  ⟨fun a u q => q, fun a u q n => by show upd s.H p o a = some u; rw [upd_ne n]; exact q, fun a u q n => n,
   fun a u q => by
    by_cases e : a = p
    · exact ⟨o, by rw [e]; exact upd_same⟩
    · exact ⟨u, by show upd s.H p o a = some u; rw [upd_ne e]; exact q⟩⟩
theorem Mx.fr_back {P : Addr → Prop} {s t : S} (e : Mx P s t) {p : Addr} (h : t.H p = none) : s.H p = none := by
  cases q : s.H p with
  | none => rfl
  | some o => obtain ⟨u, z⟩ := e.d p o q; rw [z] at h; cases h
theorem Ex.mu {s t u : S} {P : Addr → Prop} (a : Ex s t) (b : Mx P t u) (h : ∀ p, P p → s.H p = none) : Ex s u :=
  ⟨fun x o q => b.f x o (a.f x o q), fun x o q => b.h x o (a.h x o q) fun z => (by rw [h x z] at q; cases q), fun x o q n => b.n x o (a.h x o q) (a.n x o q n)⟩
theorem Ex.mu1 {s t u : S} {p : Addr} (a : Ex s t) (b : Mx (· = p) t u) (h : s.H p = none) : Ex s u := a.mu b fun _ e => e ▸ h

class Enc (α : Type) where
  rep : PySem.W.Frag → Hp → V → α → Prop
  mono : ∀ {K : PySem.W.Frag} {F F' : Hp} {v : V} {x : α}, Fle F F' → rep K F v x → rep K F' v x
open Enc (rep)
def Reps {α : Type} [Enc α] (K : PySem.W.Frag) (F : Hp) : List V → List α → Prop
  | [], [] => True
  | v :: vs, x :: xs => rep K F v x ∧ Reps K F vs xs
  | _, _ => False
section
variable {α β : Type} [Enc α] [Enc β] {K : PySem.W.Frag} {F F' : Hp}
theorem Reps.mono (e : Fle F F') : ∀ {vs : List V} {xs : List α}, Reps K F vs xs → Reps K F' vs xs
  | [], [], _ => trivial
  | _ :: _, _ :: _, ⟨h, t⟩ => ⟨Enc.mono e h, Reps.mono e t⟩
  | [], _ :: _, h => h.elim
  | _ :: _, [], h => h.elim
theorem Reps.len : ∀ {vs : List V} {xs : List α}, Reps K F vs xs → vs.length = xs.length
  | [], [], _ => rfl
  | _ :: _, _ :: _, ⟨_, t⟩ => congrArg (· + 1) (Reps.len t)
  | [], _ :: _, h => h.elim
  | _ :: _, [], h => h.elim
theorem Reps.get : ∀ {vs : List V} {xs : List α} {i : Nat} {x : α}, Reps K F vs xs → xs[i]? = some x → ∃ v, vs[i]? = some v ∧ rep K F v x
  | [], [], _, _, _, e => by simp at e
  | v :: _, y :: _, 0, x, ⟨h, _⟩, e => by
    have : y = x := Option.some.inj e
    subst this
    exact ⟨v, rfl, h⟩
  | _ :: vs, _ :: xs, i + 1, x, ⟨_, t⟩, e => by
    obtain ⟨v, h1, h2⟩ := Reps.get (i := i) t (by simpa using e)
    exact ⟨v, by simpa using h1, h2⟩
  | [], _ :: _, _, _, h, _ => h.elim
  | _ :: _, [], _, _, h, _ => h.elim
theorem Reps.get' : ∀ {vs : List V} {xs : List α} {i : Nat} {v : V}, Reps K F vs xs → vs[i]? = some v → ∃ x, xs[i]? = some x ∧ rep K F v x
  | [], [], _, _, _, e => by simp at e
  | v :: _, y :: _, 0, w, ⟨h, _⟩, e => by
    have : v = w := Option.some.inj e
    subst this
    exact ⟨y, rfl, h⟩
  | _ :: vs, _ :: xs, i + 1, w, ⟨_, t⟩, e => by
    obtain ⟨x, h1, h2⟩ := Reps.get' (i := i) t (by simpa using e)
    exact ⟨x, by simpa using h1, h2⟩
  | [], _ :: _, _, _, h, _ => h.elim
  | _ :: _, [], _, _, h, _ => h.elim
theorem Reps.app : ∀ {vs ws : List V} {xs ys : List α}, Reps K F vs xs → Reps K F ws ys → Reps K F (vs ++ ws) (xs ++ ys)
  | [], _, [], _, _, t => t
  | _ :: _, _, _ :: _, _, ⟨h, t⟩, u => ⟨h, Reps.app t u⟩
  | [], _, _ :: _, _, h, _ => h.elim
  | _ :: _, _, [], _, h, _ => h.elim
theorem Reps.snoc {vs : List V} {xs : List α} {v : V} {x : α} (h : Reps K F vs xs) (r : rep K F v x) : Reps K F (vs ++ [v]) (xs ++ [x]) := h.app ⟨r, trivial⟩
theorem Reps.take : ∀ {vs : List V} {xs : List α} (n : Nat), Reps K F vs xs → Reps K F (vs.take n) (xs.take n)
  | _, _, 0, _ => by rw [List.take_zero, List.take_zero]; trivial
  | [], [], _ + 1, _ => trivial
  | _ :: _, _ :: _, n + 1, ⟨h, t⟩ => ⟨h, Reps.take n t⟩
  | [], _ :: _, _ + 1, h => h.elim
  | _ :: _, [], _ + 1, h => h.elim
theorem Reps.drop : ∀ {vs : List V} {xs : List α} (n : Nat), Reps K F vs xs → Reps K F (vs.drop n) (xs.drop n)
  | _, _, 0, h => h
  | [], [], _ + 1, _ => trivial
  | _ :: _, _ :: _, n + 1, ⟨_, t⟩ => Reps.drop n t
  | [], _ :: _, _ + 1, h => h.elim
  | _ :: _, [], _ + 1, h => h.elim
theorem Reps.set : ∀ {vs : List V} {xs : List α} {v : V} {x : α} (i : Nat), Reps K F vs xs → rep K F v x → Reps K F (vs.set i v) (xs.set i x)
  | [], [], _, _, _, _, _ => trivial
  | _ :: _, _ :: _, _, _, 0, ⟨_, t⟩, r => ⟨r, t⟩
  | _ :: _, _ :: _, _, _, i + 1, ⟨h, t⟩, r => ⟨h, Reps.set i t r⟩
  | [], _ :: _, _, _, _, h, _ => h.elim
  | _ :: _, [], _, _, _, h, _ => h.elim
theorem Reps.erase : ∀ {vs : List V} {xs : List α} (i : Nat), Reps K F vs xs → Reps K F (vs.eraseIdx i) (xs.eraseIdx i)
  | [], [], _, _ => trivial
  | _ :: _, _ :: _, 0, ⟨_, t⟩ => t
  | _ :: _, _ :: _, i + 1, ⟨h, t⟩ => ⟨h, Reps.erase i t⟩
  | [], _ :: _, _, h => h.elim
  | _ :: _, [], _, h => h.elim
theorem Reps.rev : ∀ {vs : List V} {xs : List α}, Reps K F vs xs → Reps K F vs.reverse xs.reverse
  | [], [], _ => trivial
  | _ :: _, _ :: _, ⟨h, t⟩ => by rw [List.reverse_cons, List.reverse_cons]; exact (Reps.rev t).snoc h
  | [], _ :: _, h => h.elim
  | _ :: _, [], h => h.elim
theorem Reps.mem : ∀ {vs : List V} {xs : List α} {x : α}, Reps K F vs xs → x ∈ xs → ∃ v, v ∈ vs ∧ rep K F v x
  | v :: _, y :: _, x, ⟨h, t⟩, e => by
    rcases List.mem_cons.mp e with rfl | e
    · exact ⟨v, List.mem_cons_self, h⟩
    · obtain ⟨w, a, b⟩ := Reps.mem t e
      exact ⟨w, List.mem_cons_of_mem _ a, b⟩
  | [], _ :: _, _, h, _ => h.elim
theorem Reps.repl {v : V} {x : α} (r : rep K F v x) : ∀ n : Nat, Reps K F (List.replicate n v) (List.replicate n x)
  | 0 => trivial
  | n + 1 => ⟨r, Reps.repl r n⟩
end
instance : Enc Int := ⟨fun _ _ v x => v = .int x, fun _ h => h⟩
instance : Enc Bool := ⟨fun _ _ v x => v = .bl x, fun _ h => h⟩
instance : Enc Str := ⟨fun _ _ v x => v = .str x, fun _ h => h⟩
instance : Enc Unit := ⟨fun _ _ v _ => v = .non, fun _ h => h⟩
class Opn (α : Type) extends Enc α where
  notNon : ∀ {K : PySem.W.Frag} {F : Hp} {x : α}, ¬ rep K F .non x
instance : Opn Int := ⟨fun {K F x} h => nomatch (show V.non = V.int x from h)⟩
instance : Opn Str := ⟨fun {K F x} h => nomatch (show V.non = V.str x from h)⟩
instance : Opn Bool := ⟨fun {K F x} h => nomatch (show V.non = V.bl x from h)⟩
instance {α : Type} [Enc α] : Enc (Option α) := ⟨fun K F v x => match x with | none => v = .non | some y => rep K F v y, fun {K F F' v x} e h => by
  cases x with
  | none => exact h
  | some y => exact Enc.mono (α := α) e h⟩
theorem sql_mono {K : PySem.W.Frag} {F F' : Hp} {a : Addr} {vs : List V} (e : Fle F F') (h : SqL K F a vs) : SqL K F' a vs := by
  rcases h with (h | ⟨o, h⟩) | h
  · exact .inl (.inl (e _ _ h))
  · exact .inl (.inr ⟨o, e _ _ h⟩)
  · exact .inr h
theorem sqt_mono {K : PySem.W.Frag} {F F' : Hp} {a : Addr} {vs : List V} (e : Fle F F') (h : SqT K F a vs) : SqT K F' a vs := by
  rcases h with (h | ⟨o, h⟩) | h
  · exact .inl (.inl (e _ _ h))
  · exact .inl (.inr ⟨o, e _ _ h⟩)
  · exact .inr h
def RepL {α : Type} [Enc α] (K : PySem.W.Frag) (F : Hp) (v : V) (xs : List α) : Prop := ∃ a vs, v = .ref a ∧ SqL K F a vs ∧ Reps K F vs xs
instance {α : Type} [Enc α] : Enc (List α) := ⟨RepL, fun e h => by
  obtain ⟨a, vs, rfl, h1, h2⟩ := h
  exact ⟨a, vs, rfl, sql_mono e h1, h2.mono e⟩⟩
structure T1 (α : Type) where
  a : α
deriving DecidableEq
structure T3 (α β γ : Type) where
  a : α
  b : β
  c : γ
deriving DecidableEq
structure T4 (α β γ δ : Type) where
  a : α
  b : β
  c : γ
  d : δ
deriving DecidableEq
structure T5 (α β γ δ ε : Type) where
  a : α
  b : β
  c : γ
  d : δ
  e : ε
deriving DecidableEq
structure Tu (α : Type) where
  l : List α
deriving DecidableEq
instance {α β : Type} [Enc α] [Enc β] : Enc (α × β) := ⟨fun K F v x => ∃ p v1 v2, v = .ref p ∧ SqT K F p [v1, v2] ∧ rep K F v1 x.1 ∧ rep K F v2 x.2, fun e h => by
  obtain ⟨p, v1, v2, rfl, h0, h1, h2⟩ := h
  exact ⟨p, v1, v2, rfl, sqt_mono e h0, Enc.mono e h1, Enc.mono e h2⟩⟩
instance {α : Type} [Enc α] : Enc (T1 α) := ⟨fun K F v x => ∃ p v1, v = .ref p ∧ SqT K F p [v1] ∧ rep K F v1 x.a, fun e h => by
  obtain ⟨p, v1, rfl, h0, h1⟩ := h
  exact ⟨p, v1, rfl, sqt_mono e h0, Enc.mono e h1⟩⟩
instance {α β γ : Type} [Enc α] [Enc β] [Enc γ] : Enc (T3 α β γ) := ⟨fun K F v x => ∃ p v1 v2 v3, v = .ref p ∧ SqT K F p [v1, v2, v3] ∧ rep K F v1 x.a ∧ rep K F v2 x.b ∧ rep K F v3 x.c, fun e h => by
  obtain ⟨p, v1, v2, v3, rfl, h0, h1, h2, h3⟩ := h
  exact ⟨p, v1, v2, v3, rfl, sqt_mono e h0, Enc.mono e h1, Enc.mono e h2, Enc.mono e h3⟩⟩
instance {α β γ δ : Type} [Enc α] [Enc β] [Enc γ] [Enc δ] : Enc (T4 α β γ δ) := ⟨fun K F v x => ∃ p v1 v2 v3 v4, v = .ref p ∧ SqT K F p [v1, v2, v3, v4] ∧ rep K F v1 x.a ∧ rep K F v2 x.b ∧ rep K F v3 x.c ∧ rep K F v4 x.d, fun e h => by
  obtain ⟨p, v1, v2, v3, v4, rfl, h0, h1, h2, h3, h4⟩ := h
  exact ⟨p, v1, v2, v3, v4, rfl, sqt_mono e h0, Enc.mono e h1, Enc.mono e h2, Enc.mono e h3, Enc.mono e h4⟩⟩
instance {α β γ δ ε : Type} [Enc α] [Enc β] [Enc γ] [Enc δ] [Enc ε] : Enc (T5 α β γ δ ε) := ⟨fun K F v x => ∃ p v1 v2 v3 v4 v5, v = .ref p ∧ SqT K F p [v1, v2, v3, v4, v5] ∧ rep K F v1 x.a ∧ rep K F v2 x.b ∧ rep K F v3 x.c ∧ rep K F v4 x.d ∧ rep K F v5 x.e, fun e h => by
  obtain ⟨p, v1, v2, v3, v4, v5, rfl, h0, h1, h2, h3, h4, h5⟩ := h
  exact ⟨p, v1, v2, v3, v4, v5, rfl, sqt_mono e h0, Enc.mono e h1, Enc.mono e h2, Enc.mono e h3, Enc.mono e h4, Enc.mono e h5⟩⟩
def RepT {α : Type} [Enc α] (K : PySem.W.Frag) (F : Hp) (v : V) (xs : List α) : Prop := ∃ a vs, v = .ref a ∧ SqT K F a vs ∧ Reps K F vs xs
instance {α : Type} [Enc α] : Enc (Tu α) := ⟨fun K F v x => RepT K F v x.l, fun e h => by
  obtain ⟨a, vs, rfl, h1, h2⟩ := h
  exact ⟨a, vs, rfl, sqt_mono e h1, h2.mono e⟩⟩
instance {α : Type} [Enc α] : Opn (List α) := ⟨fun h => by obtain ⟨_, _, e, _⟩ := h; cases e⟩
instance {α : Type} [Enc α] : Opn (Tu α) := ⟨fun h => by obtain ⟨_, _, e, _⟩ := h; cases e⟩
class Flat (α : Type) extends Enc α where
  toV : α → V
  iff : ∀ {K : PySem.W.Frag} {F : Hp} {v : V} {x : α}, rep K F v x ↔ v = toV x
  flat : ∀ x, flatV (toV x) = true
  inj : ∀ x y, eqV (toV x) (toV y) = true ↔ x = y
open Flat (toV)
instance : Flat Int := ⟨V.int, Iff.rfl, fun _ => rfl, fun x y => by show (x == y) = true ↔ _; simp⟩
instance : Flat Bool := ⟨V.bl, Iff.rfl, fun _ => rfl, fun x y => by show (x == y) = true ↔ _; simp⟩
instance : Flat Str := ⟨V.str, Iff.rfl, fun _ => rfl, fun x y => by show (x == y) = true ↔ _; simp⟩
instance : Flat (Option Int) := ⟨fun x => match x with | none => .non | some i => .int i, fun {K F v x} => by cases x <;> exact Iff.rfl, fun x => by cases x <;> rfl, fun x y => by
  cases x <;> cases y <;> simp [eqV]⟩
instance : Flat (Option Str) := ⟨fun x => match x with | none => .non | some i => .str i, fun {K F v x} => by cases x <;> exact Iff.rfl, fun x => by cases x <;> rfl, fun x y => by
  cases x <;> cases y <;> simp [eqV]⟩
section
variable {α : Type} [Flat α] {K : PySem.W.Frag} {F : Hp}
theorem Reps.flat : ∀ {vs : List V} {xs : List α}, Reps K F vs xs → vs = xs.map toV
  | [], [], _ => rfl
  | _ :: _, _ :: _, ⟨h, t⟩ => by rw [List.map_cons, ← Flat.iff.mp h, ← Reps.flat t]
  | [], _ :: _, h => h.elim
  | _ :: _, [], h => h.elim
theorem Reps.of_flat : ∀ (xs : List α), Reps K F (xs.map toV) xs
  | [] => trivial
  | _ :: xs => ⟨Flat.iff.mpr rfl, Reps.of_flat xs⟩
theorem flat_all (xs : List α) : (xs.map toV).all flatV = true := by
  rw [List.all_eq_true]
  intro v hv
  obtain ⟨x, _, rfl⟩ := List.mem_map.mp hv
  exact Flat.flat x
theorem inV_flat [DecidableEq α] (x : α) (xs : List α) : inV (toV x) (xs.map toV) = decide (x ∈ xs) := by
  rw [Bool.eq_iff_iff, decide_eq_true_eq]
  unfold inV
  rw [List.any_eq_true]
  constructor
  · rintro ⟨v, hv, e⟩
    obtain ⟨y, hy, rfl⟩ := List.mem_map.mp hv
    rw [Flat.inj] at e
    rw [← e]; exact hy
  · intro h
    exact ⟨_, List.mem_map.mpr ⟨x, h, rfl⟩, (Flat.inj x x).mpr rfl⟩
end
end Dy

namespace Dy
open PySem PySem.Spec L2
open PyProof.Rows hiding St
open Enc (rep)
open Flat (toV)

def WE (X : Cx) (e : Expr) : TE := fun σ H Q => ∀ (pins : List (Addr × Obj)) (s : Shared), Inv X pins σ H s → wpAny (model X.prog X.w) X.A (eval e X.env) (EP X pins σ Q) X.xe s
def WT (X : Cx) (e : Expr) : TT := fun σ H Q => ∀ (pins : List (Addr × Obj)) (s : Shared), Inv X pins σ H s → wpAny (model X.prog X.w) X.A (isTrue e X.env (eval e X.env)) (TP X pins σ Q) X.xe s
def WW (X : Cx) (e : Expr) : TT := fun σ H Q => ∀ (whole : Sem Value) (pins : List (Addr × Obj)) (s : Shared), Inv X pins σ H s → wpAny (model X.prog X.w) X.A (isTrue e X.env whole) (TP X pins σ Q) X.xe s
def WA (X : Cx) (es : List Expr) : TA := fun σ H Q => ∀ (pos : Pos) (pins : List (Addr × Obj)) (s : Shared), Inv X pins σ H s → wpAny (model X.prog X.w) X.A (spliced (backTo pos (starEach es X.env))) (AP X pins σ Q) X.xe s
def WSs (X : Cx) (ss : List Stmt) : TS := fun D σ H => ∀ (pins : List (Addr × Obj)) (s : Shared), Inv X pins σ H s → wpAny (model X.prog X.w) X.A (execs ss X.env) (SP X pins D) X.xe s
theorem pe_we {X : Cx} {e : Expr} : PE X e (WE X e) := ⟨fun pins s _ _ _ I h => h pins s I⟩
theorem pt_wt {X : Cx} {e : Expr} : PT X e (WT X e) := ⟨fun pins s _ _ _ I h => h pins s I⟩
theorem pw_ww {X : Cx} {e : Expr} : PW X e (WW X e) := ⟨fun whole pins s _ _ _ I h => h whole pins s I⟩
theorem pa_wa {X : Cx} {es : List Expr} : PA X es (WA X es) := ⟨fun pos pins s _ _ _ I h => h pos pins s I⟩
theorem pss_ws {X : Cx} {ss : List Stmt} : PSs X ss (WSs X ss) := ⟨fun pins s _ _ _ I h => h pins s I⟩
theorem we_of {X : Cx} {e : Expr} {t : TE} {σ : St} {H : Hp} {Q : VK} (h : PE X e t) (q : t σ H Q) : WE X e σ H Q := fun pins s I => h.run pins s σ H Q I q
theorem wt_of {X : Cx} {e : Expr} {t : TT} {σ : St} {H : Hp} {Q : Bool → Hp → Prop} (h : PT X e t) (q : t σ H Q) : WT X e σ H Q := fun pins s I => h.run pins s σ H Q I q
theorem ww_of {X : Cx} {e : Expr} {t : TT} {σ : St} {H : Hp} {Q : Bool → Hp → Prop} (h : PW X e t) (q : t σ H Q) : WW X e σ H Q := fun w pins s I => h.run w pins s σ H Q I q
theorem wa_of {X : Cx} {es : List Expr} {t : TA} {σ : St} {H : Hp} {Q : List V → Hp → Prop} (h : PA X es t) (q : t σ H Q) : WA X es σ H Q := fun pos pins s I => h.run pos pins s σ H Q I q
theorem ws_of {X : Cx} {ss : List Stmt} {t : TS} {D : Ends} {σ : St} {H : Hp} (h : PSs X ss t) (q : t D σ H) : WSs X ss D σ H := fun pins s I => h.run pins s σ H D I q
theorem WSs.imp {X : Cx} {ss : List Stmt} {D D' : Ends} {σ : St} {H : Hp} (h : WSs X ss D σ H) (h1 : ∀ σ H, D.nx σ H → D'.nx σ H) (h2 : ∀ v H, D.rt v H → D'.rt v H) (h3 : ∀ σ H, D.bk σ H → D'.bk σ H) (h4 : ∀ σ H, D.ct σ H → D'.ct σ H) : WSs X ss D' σ H := fun pins s I => thn (h pins s I) fun f s1 q => by
  cases f with
  | next => obtain ⟨a, b, c, d⟩ := q; exact ⟨a, b, c, h1 _ _ d⟩
  | brk => obtain ⟨a, b, c, d⟩ := q; exact ⟨a, b, c, h3 _ _ d⟩
  | cont => obtain ⟨a, b, c, d⟩ := q; exact ⟨a, b, c, h4 _ _ d⟩
  | ret u => obtain ⟨a, b, c, d, e, f⟩ := q; exact ⟨a, b, c, d, e, h2 _ _ f⟩

section
variable {α β γ δ : Type} [Enc α] [Enc β] [Enc γ] [Enc δ]
def Ev (X : Cx) (e : Expr) (σ : St) (s : S) (x : α) : Prop := ∀ s1, Ex s s1 → ∀ Q : VK, (∀ v s2, Ex s1 s2 → rep X.K s2.F v x → Q v s2.H) → WE X e σ s1.H Q
def RepR (K : PySem.W.Frag) (s : S) (v : V) (xs : List α) : Prop := ∃ a vs, v = .ref a ∧ SqL K s.H a vs ∧ Reps K s.F vs xs
def EvR (X : Cx) (e : Expr) (σ : St) (s : S) (xs : List α) : Prop := ∀ s1, Ex s s1 → ∀ Q : VK, (∀ v s2, Ex s1 s2 → RepR X.K s2 v xs → Q v s2.H) → WE X e σ s1.H Q
def Own (K : PySem.W.Frag) (s : S) (p : Addr) (xs : List α) : Prop := s.F p = none ∧ ∃ vs, s.H p = some (.lst vs) ∧ Reps K s.F vs xs
def EvN (X : Cx) (e : Expr) (σ : St) (s : S) (xs : List α) : Prop := ∀ s1, Ex s s1 → ∀ Q : VK, (∀ p s2, Ex s1 s2 → s1.H p = none → Own X.K s2 p xs → Q (.ref p) s2.H) → WE X e σ s1.H Q
def EvT (X : Cx) (e : Expr) (σ : St) (s : S) (b : Bool) : Prop := ∀ s1, Ex s s1 → ∀ Q : Bool → Hp → Prop, (∀ s2, Ex s1 s2 → Q b s2.H) → WT X e σ s1.H Q
def EvW (X : Cx) (e : Expr) (σ : St) (s : S) (b : Bool) : Prop := ∀ s1, Ex s s1 → ∀ Q : Bool → Hp → Prop, (∀ s2, Ex s1 s2 → Q b s2.H) → WW X e σ s1.H Q
structure EvB (X : Cx) (e : Expr) (σ : St) (s : S) (b : Bool) : Prop where
  v : Ev X e σ s b
  t : EvT X e σ s b
structure EvC (X : Cx) (e : Expr) (σ : St) (s : S) (b : Bool) : Prop where
  v : Ev X e σ s b
  w : EvW X e σ s b
end
class EncA (A : Type) where
  repA : PySem.W.Frag → Hp → List V → A → Prop
  monoA : ∀ {K : PySem.W.Frag} {F F' : Hp} {vs : List V} {x : A}, Fle F F' → repA K F vs x → repA K F' vs x
open EncA (repA)
instance : EncA Unit := ⟨fun _ _ vs _ => vs = [], fun _ h => h⟩
instance {α A : Type} [Enc α] [EncA A] : EncA (α × A) := ⟨fun K F vs x => ∃ v r, vs = v :: r ∧ rep K F v x.1 ∧ repA K F r x.2, fun e h => by
  obtain ⟨v, r, rfl, h1, h2⟩ := h
  exact ⟨v, r, rfl, Enc.mono e h1, EncA.monoA e h2⟩⟩
def EvA {A : Type} [EncA A] (X : Cx) (es : List Expr) (σ : St) (s : S) (a : A) : Prop := ∀ s1, Ex s s1 → ∀ Q : List V → Hp → Prop, (∀ vs s2, Ex s1 s2 → repA X.K s2.F vs a → Q vs s2.H) → WA X es σ s1.H Q

section
variable {α β γ δ : Type} [Enc α] [Enc β] [Enc γ] [Enc δ] {X : Cx} {σ : St} {s t : S} {e a b c : Expr} {es : List Expr} {pos p0 p1 p2 p3 : Pos}
theorem Own.frz {K : PySem.W.Frag} {p : Addr} {xs : List α} (h : Own K s p xs) : ∃ s' : S, s'.H = s.H ∧ Fle s.F s'.F ∧ (∀ q, q ≠ p → s'.F q = s.F q) ∧ rep K s'.F (.ref p) xs := by
  obtain ⟨hn, vs, hp, r⟩ := h
  have f : Fle s.F (upd s.F p (.lst vs)) := fun a o q => by rw [upd_ne (ne_of_none q hn)]; exact q
  refine ⟨⟨upd s.F p (.lst vs), s.H, fun a o q => ?_⟩, rfl, f, fun q hq => upd_ne hq, p, vs, rfl, .inl (.inl upd_same), r.mono f⟩
  unfold upd at q
  split at q
  · rename_i e; cases q; rw [e]; exact hp
  · exact s.sub a o q
theorem Own.ex {K : PySem.W.Frag} {p : Addr} {xs : List α} (h : Own K s p xs) (e : Ex s t) : Own K t p xs := by
  obtain ⟨hn, vs, hp, r⟩ := h
  exact ⟨e.n _ _ hp hn, vs, e.h _ _ hp, r.mono e.f⟩
theorem Own.mx {K : PySem.W.Frag} {p : Addr} {P : Addr → Prop} {xs : List α} (h : Own K s p xs) (e : Mx P s t) (n : ¬ P p) : Own K t p xs := by
  obtain ⟨hn, vs, hp, r⟩ := h
  exact ⟨e.n _ _ hp hn, vs, e.h _ _ hp n, r.mono e.f⟩
theorem Own.ne {K : PySem.W.Frag} {p q : Addr} {xs : List α} (h : Own K s p xs) (n : s.H q = none) : p ≠ q := by
  obtain ⟨_, vs, hp, _⟩ := h
  exact ne_of_none hp n
theorem Own.r {K : PySem.W.Frag} {p : Addr} {xs : List α} (h : Own K s p xs) : RepR K s (.ref p) xs := by
  obtain ⟨hn, vs, hp, r⟩ := h
  exact ⟨p, vs, rfl, .inl (.inl hp), r⟩
theorem RepR.ex {K : PySem.W.Frag} {v : V} {xs : List α} (h : RepR K s v xs) (e : Ex s t) : RepR K t v xs := by
  obtain ⟨p, vs, rfl, h1, h2⟩ := h
  exact ⟨p, vs, rfl, sql_mono e.h h1, h2.mono e.f⟩
theorem rep_r {K : PySem.W.Frag} {v : V} {xs : List α} (h : rep K s.F v xs) : RepR K s v xs := by
  obtain ⟨p, vs, rfl, h1, h2⟩ := h
  exact ⟨p, vs, rfl, sql_mono s.sub h1, h2⟩
theorem Ev.mono {x : α} (h : Ev X e σ s x) (k : Ex s t) : Ev X e σ t x := fun s1 k1 Q q => h s1 (k.trans k1) Q q
theorem EvT.mono {x : Bool} (h : EvT X e σ s x) (k : Ex s t) : EvT X e σ t x := fun s1 k1 Q q => h s1 (k.trans k1) Q q
theorem Ev.r {xs : List α} (h : Ev X e σ s xs) : EvR X e σ s xs := fun s1 k Q q => h s1 k Q fun v s2 k2 r => q v s2 k2 (rep_r r)
theorem EvN.r {xs : List α} (h : EvN X e σ s xs) : EvR X e σ s xs := fun s1 k Q q => h s1 k Q fun p s2 k2 _ o => q (.ref p) s2 k2 o.r
theorem frz_ex {K : PySem.W.Frag} {p : Addr} {xs : List α} (k : Ex s t) (n : s.H p = none) (o : Own K t p xs) : ∃ t' : S, t'.H = t.H ∧ Ex s t' ∧ rep K t'.F (.ref p) xs := by
  obtain ⟨t', h1, h2, h3, h4⟩ := o.frz
  refine ⟨t', h1, ⟨k.f.trans h2, fun a u q => by rw [h1]; exact k.h a u q, fun a u q m => ?_⟩, h4⟩
  have : a ≠ p := ne_of_none q n
  rw [h3 a this]
  exact k.n a u q m
theorem EvN.ev {xs : List α} (h : EvN X e σ s xs) : Ev X e σ s xs := fun s1 k Q q => h s1 k Q fun p s2 k2 n o => by
  obtain ⟨t', h1, h2, h3⟩ := frz_ex k2 n o
  rw [← h1]
  exact q _ t' h2 h3
theorem Ev.cast {x y : α} (h : Ev X e σ s x) (k : x = y) : Ev X e σ s y := k ▸ h

theorem ev_var (i : Nat) {v : V} {x : α} {n : Str} (h : σ[i]? = some (some v)) (r : rep X.K s.F v x) (hN : X.N[i]? = some n := by rfl) (hv : Vis X.env.scope n := by first | exact Or.inl rfl | exact Or.inr (Or.inl rfl) | exact Or.inr (Or.inr rfl)) (hd : (n == ("__debug__" : Str)) = false := by decide)
    (hcd : (n == ("__classdict__" : Str)) = false := by decide) : Ev X (.Name n pos) σ s x := fun s1 k Q q => we_of (pe_var hN hv hd hcd) ⟨v, h, q v s1 (Ex.refl _) (Enc.mono k.f r)⟩
theorem ev_varR (i : Nat) {p : Addr} {xs : List α} {n : Str} (h : σ[i]? = some (some (.ref p))) (r : Own X.K s p xs) (hN : X.N[i]? = some n := by rfl) (hv : Vis X.env.scope n := by first | exact Or.inl rfl | exact Or.inr (Or.inl rfl) | exact Or.inr (Or.inr rfl)) (hd : (n == ("__debug__" : Str)) = false := by decide)
    (hcd : (n == ("__classdict__" : Str)) = false := by decide) : EvR X (.Name n pos) σ s xs := fun s1 k Q q => we_of (pe_var hN hv hd hcd) ⟨_, h, q _ s1 (Ex.refl _) (r.ex k).r⟩
theorem ev_int {i : Int} {j} : Ev X (.Constant (.int i) j pos) σ s i := fun s1 k Q q => we_of pe_int (q _ s1 (Ex.refl _) rfl)
theorem ev_bl {i : Bool} {j} : Ev X (.Constant (.bool i) j pos) σ s i := fun s1 k Q q => we_of pe_bl (q _ s1 (Ex.refl _) rfl)
theorem ev_str {i : Str} {j} : Ev X (.Constant (.str i) j pos) σ s i := fun s1 k Q q => we_of pe_str (q _ s1 (Ex.refl _) rfl)
theorem ev_non {j} : Ev X (.Constant .none j pos) σ s () := fun s1 k Q q => we_of pe_non (q _ s1 (Ex.refl _) rfl)
theorem ev_nonO {j} : Ev X (.Constant .none j pos) σ s (none : Option α) := fun s1 k Q q => we_of pe_non (q _ s1 (Ex.refl _) rfl)
theorem ev_some {x : α} (h : Ev X e σ s x) : Ev X e σ s (some x) := h
theorem ev_glob {n : Str} {x : α} (h : ∃ v u, X.mg n = some u ∧ RelV v u ∧ ∀ F, rep X.K F v x) (hg : Gl X n := by rfl) (hd : (n == ("__debug__" : Str)) = false := by decide) : Ev X (.Name n pos) σ s x := fun s1 k Q q => by
  obtain ⟨v, u, h1, h2, h3⟩ := h
  exact we_of (pe_glob hg h1 h2 hd) (q v s1 (Ex.refl _) (h3 _))

theorem ev_op {op : Operator} {r : R2} {x : α} {y : β} {z : γ} (ho : OpR X (binaryOp op) r) (ha : Ev X a σ s x) (hb : Ev X b σ s y)
    (hr : ∀ v u s2, rep X.K s2.F v x → rep X.K s2.F u y → ∀ Q : VK, (∀ v' s3, Ex s2 s3 → rep X.K s3.F v' z → Q v' s3.H) → r v u s2.H Q) : Ev X (.BinOp a op b pos) σ s z := fun s1 k Q q =>
  we_of (pe_op ho pe_we pe_we) (ha s1 k _ fun v s2 k2 r2 => hb s2 (k.trans k2) _ fun u s3 k3 r3 => hr v u s3 (Enc.mono k3.f r2) r3 Q fun w s4 k4 r4 => q w s4 ((k2.trans k3).trans k4) r4)
theorem ev_I0 {op : Operator} {g : Int → Int → V} {x y : Int} {z : γ} (ho : OpR X (binaryOp op) (rI0 g)) (ha : Ev X a σ s x) (hb : Ev X b σ s y) (hz : ∀ K F, rep K F (g x y) z) : Ev X (.BinOp a op b pos) σ s z :=
  ev_op ho ha hb fun v u s2 hv hu Q q => ⟨x, y, hv, hu, q _ s2 (Ex.refl _) (hz _ _)⟩
theorem ev_I {op : Operator} {C : Int → Int → Prop} {g : Int → Int → V} {x y : Int} {z : γ} (ho : OpR X (binaryOp op) (rI C g)) (ha : Ev X a σ s x) (hb : Ev X b σ s y) (hc : C x y) (hz : ∀ K F, rep K F (g x y) z) : Ev X (.BinOp a op b pos) σ s z :=
  ev_op ho ha hb fun v u s2 hv hu Q q => ⟨x, y, hv, hu, hc, q _ s2 (Ex.refl _) (hz _ _)⟩
theorem ev_add {x y : Int} (ha : Ev X a σ s x) (hb : Ev X b σ s y) : Ev X (.BinOp a .Add b pos) σ s (x + y) := ev_I0 op_add ha hb fun _ _ => rfl
theorem ev_sub {x y : Int} (ha : Ev X a σ s x) (hb : Ev X b σ s y) : Ev X (.BinOp a .Sub b pos) σ s (x - y) := ev_I0 op_sub ha hb fun _ _ => rfl
def MulOk (x y : Int) : Prop := CMul x y ∨ CMulW x y
theorem ev_mul {x y : Int} (ha : Ev X a σ s x) (hb : Ev X b σ s y) (hc : MulOk x y) : Ev X (.BinOp a .Mult b pos) σ s (x * y) := by
  rcases hc with hc | hc
  · exact ev_I op_mul ha hb hc fun _ _ => rfl
  · exact ev_I op_mulW ha hb hc fun _ _ => rfl
theorem ev_mod {x y : Int} (ha : Ev X a σ s x) (hb : Ev X b σ s y) (hc : 0 < y) : Ev X (.BinOp a .Mod b pos) σ s (x % y) := ev_I op_mod ha hb hc fun _ _ => rfl
def DivOk (y : Int) : Prop := 0 < y ∧ y.natAbs.log2 < 9000
theorem ev_div {x y : Int} (ha : Ev X a σ s x) (hb : Ev X b σ s y) (hc : DivOk y) : Ev X (.BinOp a .FloorDiv b pos) σ s (x / y) := ev_I op_fdivW ha hb hc fun _ _ => rfl
theorem ev_pow {x y : Int} (ha : Ev X a σ s x) (hb : Ev X b σ s y) (hc : CPow x y) : Ev X (.BinOp a .Pow b pos) σ s (x ^ y.toNat) := ev_I op_pow ha hb hc fun _ _ => rfl
theorem ev_adds {x y : Str} (ha : Ev X a σ s x) (hb : Ev X b σ s y) (hc : x.length + y.length ≤ sizeLine) : Ev X (.BinOp a .Add b pos) σ s (x ++ y) :=
  ev_op op_add_str ha hb fun v u s2 hv hu Q q => ⟨x, y, hv, hu, hc, q _ s2 (Ex.refl _) rfl⟩
theorem ev_neg {x : Int} (ha : Ev X a σ s x) : Ev X (.UnaryOp .USub a pos) σ s (-x) := fun s1 k Q q =>
  we_of (pe_un un_neg pe_we) (ha s1 k _ fun v s2 k2 r2 => ⟨x, r2, q _ s2 k2 rfl⟩)

theorem atI_rep {K : PySem.W.Frag} {F : Hp} {vs : List V} {xs : List α} {i : Int} {x : α} (r : Reps K F vs xs) (h : atI xs i = some x) : ∃ v, atI vs i = some v ∧ rep K F v x := by
  unfold atI at h ⊢
  rw [r.len]
  cases hj : ixN xs.length i with
  | none => rw [hj] at h; cases h
  | some j =>
    rw [hj] at h
    obtain ⟨v, h1, h2⟩ := r.get (i := j) h
    exact ⟨v, h1, h2⟩
theorem ev_ix {xs : List α} {i : Int} {x : α} (ha : EvR X a σ s xs) (hb : Ev X b σ s i) (h : atI xs i = some x) (hp : PlainIx b := by intro _ _; rfl) : Ev X (.Subscript a b pos) σ s x := fun s1 k Q q =>
  we_of (pe_ix ix_list pe_we pe_we hp) (ha s1 k _ fun v s2 k2 r2 => hb s2 (k.trans k2) _ fun u s3 k3 r3 => by
    obtain ⟨p, vs, rfl, h1, h2⟩ := r2.ex k3
    obtain ⟨w, h3, h4⟩ := atI_rep h2 h
    exact ⟨p, vs, i, w, rfl, r3, h1, h3, q w s3 (k2.trans k3) h4⟩)
theorem ev_ixT {xs : Tu α} {i : Int} {x : α} (ha : Ev X a σ s xs) (hb : Ev X b σ s i) (h : atI xs.l i = some x) (hp : PlainIx b := by intro _ _; rfl) : Ev X (.Subscript a b pos) σ s x := fun s1 k Q q =>
  we_of (pe_ix ix_tup pe_we pe_we hp) (ha s1 k _ fun v s2 k2 r2 => hb s2 (k.trans k2) _ fun u s3 k3 r3 => by
    obtain ⟨p, vs, rfl, h1, h2⟩ := Enc.mono (α := Tu α) k3.f r2
    obtain ⟨w, h3, h4⟩ := atI_rep h2 h
    exact ⟨p, vs, i, w, rfl, r3, sqt_mono s3.sub h1, h3, q w s3 (k2.trans k3) h4⟩)
theorem ev_ixP {x : β} {i : Int} {y : α} (ha : Ev X a σ s x) (hb : Ev X b σ s i) (h : ∀ {F : Hp} {v : V}, rep X.K F v x → ∃ p vs w, v = .ref p ∧ SqT X.K F p vs ∧ atI vs i = some w ∧ rep X.K F w y) (hp : PlainIx b := by intro _ _; rfl) : Ev X (.Subscript a b pos) σ s y := fun s1 k Q q =>
  we_of (pe_ix ix_tup pe_we pe_we hp) (ha s1 k _ fun v s2 k2 r2 => hb s2 (k.trans k2) _ fun u s3 k3 r3 => by
    obtain ⟨p, vs, w, rfl, h1, h2, h3⟩ := h (Enc.mono k3.f r2)
    exact ⟨p, vs, i, w, rfl, r3, sqt_mono s3.sub h1, h2, q w s3 (k2.trans k3) h3⟩)
theorem p2_0 {K : PySem.W.Frag} {x : α × β} {F : Hp} {v : V} (h : rep K F v x) : ∃ p vs w, v = .ref p ∧ SqT K F p vs ∧ atI vs 0 = some w ∧ rep K F w x.1 := by
  obtain ⟨p, v1, v2, rfl, h0, h1, h2⟩ := h
  exact ⟨p, _, v1, rfl, h0, rfl, h1⟩
theorem p2_1 {K : PySem.W.Frag} {x : α × β} {F : Hp} {v : V} (h : rep K F v x) : ∃ p vs w, v = .ref p ∧ SqT K F p vs ∧ atI vs 1 = some w ∧ rep K F w x.2 := by
  obtain ⟨p, v1, v2, rfl, h0, h1, h2⟩ := h
  exact ⟨p, _, v2, rfl, h0, rfl, h2⟩
theorem p3_0 {K : PySem.W.Frag} {x : T3 α β γ} {F : Hp} {v : V} (h : rep K F v x) : ∃ p vs w, v = .ref p ∧ SqT K F p vs ∧ atI vs 0 = some w ∧ rep K F w x.a := by
  obtain ⟨p, v1, v2, v3, rfl, h0, h1, h2, h3⟩ := h
  exact ⟨p, _, v1, rfl, h0, rfl, h1⟩
theorem p3_1 {K : PySem.W.Frag} {x : T3 α β γ} {F : Hp} {v : V} (h : rep K F v x) : ∃ p vs w, v = .ref p ∧ SqT K F p vs ∧ atI vs 1 = some w ∧ rep K F w x.b := by
  obtain ⟨p, v1, v2, v3, rfl, h0, h1, h2, h3⟩ := h
  exact ⟨p, _, v2, rfl, h0, rfl, h2⟩
theorem p3_2 {K : PySem.W.Frag} {x : T3 α β γ} {F : Hp} {v : V} (h : rep K F v x) : ∃ p vs w, v = .ref p ∧ SqT K F p vs ∧ atI vs 2 = some w ∧ rep K F w x.c := by
  obtain ⟨p, v1, v2, v3, rfl, h0, h1, h2, h3⟩ := h
  exact ⟨p, _, v3, rfl, h0, rfl, h3⟩
def sgn (x : Str) (i : Int) : Option Str := if x.length ≤ sizeLine then (atI x.cps.toList i).map fun c => ⟨#[c]⟩ else none
theorem ev_ixS {x : Str} {i : Int} {y : Str} (ha : Ev X a σ s x) (hb : Ev X b σ s i) (h : sgn x i = some y) (hp : PlainIx b := by intro _ _; rfl) : Ev X (.Subscript a b pos) σ s y := fun s1 k Q q =>
  we_of (pe_ix ix_str pe_we pe_we hp) (ha s1 k _ fun v s2 k2 r2 => hb s2 (k.trans k2) _ fun u s3 k3 r3 => by
    unfold sgn at h
    split at h
    · rename_i hz
      obtain ⟨c, h1, h2⟩ := Option.map_eq_some_iff.mp h
      exact ⟨x, i, c, r2, r3, hz, h1, q _ s3 (k2.trans k3) (by rw [h2]; rfl)⟩
    · cases h)
end
end Dy

namespace Dy
open PySem PySem.Spec L2
open PyProof.Rows hiding St
open Enc (rep)
open Flat (toV)
open EncA (repA)

section
variable {α β γ δ : Type} [Enc α] [Enc β] [Enc γ] [Enc δ] {X : Cx} {σ : St} {s t : S} {e a b c : Expr} {es : List Expr} {pos p0 p1 p2 p3 : Pos}

theorem et_v {x : Bool} (h : Ev X e σ s x) (he : ∀ whole, isTrue e X.env whole = (do let v ← whole; standAt e.pos; holding [v] (truthy v)) := by intro _; rfl) : EvT X e σ s x := fun s1 k Q q =>
  wt_of (pt_val pe_we he) (h s1 k _ fun v s2 k2 r => ⟨x, r, q s2 k2⟩)
theorem eb_v {x : Bool} (h : Ev X e σ s x) (he : ∀ whole, isTrue e X.env whole = (do let v ← whole; standAt e.pos; holding [v] (truthy v)) := by intro _; rfl) : EvB X e σ s x := ⟨h, et_v h he⟩
theorem EvW.tt {x : Bool} (h : EvW X e σ s x) : EvT X e σ s x := fun s1 k Q q => wt_of pw_ww.pt (h s1 k Q q)
theorem EvC.bb {x : Bool} (h : EvC X e σ s x) : EvB X e σ s x := ⟨h.v, h.w.tt⟩
theorem EvB.cast {x y : Bool} (h : EvB X e σ s x) (k : x = y) : EvB X e σ s y := k ▸ h
theorem ec_and1 {x : Bool} (h : EvB X a σ s x) : EvC X (.BoolOp .And [a] pos) σ s x :=
  ⟨fun s1 k Q q => we_of (pe_one pe_we) (h.v s1 k Q q), fun s1 k Q q => ww_of (pw_and1 pt_wt) (h.t s1 k Q q)⟩
theorem ec_or1 {x : Bool} (h : EvB X a σ s x) : EvC X (.BoolOp .Or [a] pos) σ s x :=
  ⟨fun s1 k Q q => we_of (pe_one pe_we) (h.v s1 k Q q), fun s1 k Q q => ww_of (pw_or1 pt_wt) (h.t s1 k Q q)⟩
theorem ec_and {x y : Bool} (h : EvB X a σ s x) (h2 : x = true → EvC X (.BoolOp .And (b :: es) pos) σ s y) : EvC X (.BoolOp .And (a :: b :: es) pos) σ s (x && y) :=
  ⟨fun s1 k Q q => we_of (pe_and pe_we pe_we) (h.v s1 k _ fun v s2 k2 r => ⟨x, r, by
    cases x with
    | true => exact iteT ((h2 rfl).v s2 (k.trans k2) Q fun v s3 k3 r3 => q v s3 (k2.trans k3) r3)
    | false => exact iteF (q _ s2 k2 rfl)⟩),
   fun s1 k Q q => ww_of (pw_and pt_wt pw_ww) (h.t s1 k _ fun s2 k2 => by
    cases x with
    | true => exact iteT ((h2 rfl).w s2 (k.trans k2) Q fun s3 k3 => q s3 (k2.trans k3))
    | false => exact iteF (q s2 k2))⟩
theorem ec_or {x y : Bool} (h : EvB X a σ s x) (h2 : x = false → EvC X (.BoolOp .Or (b :: es) pos) σ s y) : EvC X (.BoolOp .Or (a :: b :: es) pos) σ s (x || y) :=
  ⟨fun s1 k Q q => we_of (pe_or pe_we pe_we) (h.v s1 k _ fun v s2 k2 r => ⟨x, r, by
    cases x with
    | true => exact iteT (q _ s2 k2 rfl)
    | false => exact iteF ((h2 rfl).v s2 (k.trans k2) Q fun v s3 k3 r3 => q v s3 (k2.trans k3) r3)⟩),
   fun s1 k Q q => ww_of (pw_or pt_wt pw_ww) (h.t s1 k _ fun s2 k2 => by
    cases x with
    | true => exact iteT (q s2 k2)
    | false => exact iteF ((h2 rfl).w s2 (k.trans k2) Q fun s3 k3 => q s3 (k2.trans k3)))⟩
theorem eb_not {x : Bool} (h : EvB X a σ s x) : EvB X (.UnaryOp .Not a pos) σ s (!x) :=
  ⟨fun s1 k Q q => we_of (pe_not pe_we) (h.v s1 k _ fun v s2 k2 r => ⟨x, r, q _ s2 k2 rfl⟩), fun s1 k Q q => wt_of (pt_not pt_wt) (h.t s1 k _ fun s2 k2 => q s2 k2)⟩
theorem ev_ifE {x : Bool} {y z : α} (h : EvT X c σ s x) (h1 : x = true → Ev X a σ s y) (h2 : x = false → Ev X b σ s z) : Ev X (.IfExp c a b pos) σ s (if x = true then y else z) := fun s1 k Q q =>
  we_of (pe_ifExp pt_wt pe_we pe_we) (h s1 k _ fun s2 k2 => by
    cases x with
    | true => exact iteT (h1 rfl s2 (k.trans k2) Q fun v s3 k3 r => q v s3 (k2.trans k3) r)
    | false => exact iteF (h2 rfl s2 (k.trans k2) Q fun v s3 k3 r => q v s3 (k2.trans k3) r))

theorem eb_cmp {op : CmpOp} {r : R2} {x : α} {y : β} {z : Bool} (ho : OpR X (compareOp op) r) (ha : Ev X a σ s x) (hb : Ev X b σ s y)
    (hr : ∀ (v u : V) (s2 : S), rep X.K s2.F v x → rep X.K s2.F u y → ∀ Q : VK, Q (.bl z) s2.H → r v u s2.H Q) (hm : behindInMarks op b = false) : EvB X (.Compare a [op] [b] pos) σ s z :=
  ⟨fun s1 k Q q => we_of (pe_cmpR ho pe_we pe_we hm) (ha s1 k _ fun v s2 k2 r2 => hb s2 (k.trans k2) _ fun u s3 k3 r3 => hr v u s3 (Enc.mono k3.f r2) r3 Q (q _ s3 (k2.trans k3) rfl)),
   fun s1 k Q q => wt_of (pt_cmpR ho pe_we pe_we hm) (ha s1 k _ fun v s2 k2 r2 => hb s2 (k.trans k2) _ fun u s3 k3 r3 => hr v u s3 (Enc.mono k3.f r2) r3 _ ⟨z, rfl, q s3 (k2.trans k3)⟩)⟩
theorem eb_cmpR {op : CmpOp} {r : R2} {x : α} {ys : List β} {z : Bool} (ho : OpR X (compareOp op) r) (ha : Ev X a σ s x) (hb : EvR X b σ s ys)
    (hr : ∀ (v u : V) (s2 : S), rep X.K s2.F v x → RepR X.K s2 u ys → ∀ Q : VK, Q (.bl z) s2.H → r v u s2.H Q) (hm : behindInMarks op b = false) : EvB X (.Compare a [op] [b] pos) σ s z :=
  ⟨fun s1 k Q q => we_of (pe_cmpR ho pe_we pe_we hm) (ha s1 k _ fun v s2 k2 r2 => hb s2 (k.trans k2) _ fun u s3 k3 r3 => hr v u s3 (Enc.mono k3.f r2) r3 Q (q _ s3 (k2.trans k3) rfl)),
   fun s1 k Q q => wt_of (pt_cmpR ho pe_we pe_we hm) (ha s1 k _ fun v s2 k2 r2 => hb s2 (k.trans k2) _ fun u s3 k3 r3 => hr v u s3 (Enc.mono k3.f r2) r3 _ ⟨z, rfl, q s3 (k2.trans k3)⟩)⟩
theorem eb_cmpRR {op : CmpOp} {r : R2} {xs : List α} {ys : List β} {z : Bool} (ho : OpR X (compareOp op) r) (ha : EvR X a σ s xs) (hb : EvR X b σ s ys)
    (hr : ∀ (v u : V) (s2 : S), RepR X.K s2 v xs → RepR X.K s2 u ys → ∀ Q : VK, Q (.bl z) s2.H → r v u s2.H Q) (hm : behindInMarks op b = false) : EvB X (.Compare a [op] [b] pos) σ s z :=
  ⟨fun s1 k Q q => we_of (pe_cmpR ho pe_we pe_we hm) (ha s1 k _ fun v s2 k2 r2 => hb s2 (k.trans k2) _ fun u s3 k3 r3 => hr v u s3 (r2.ex k3) r3 Q (q _ s3 (k2.trans k3) rfl)),
   fun s1 k Q q => wt_of (pt_cmpR ho pe_we pe_we hm) (ha s1 k _ fun v s2 k2 r2 => hb s2 (k.trans k2) _ fun u s3 k3 r3 => hr v u s3 (r2.ex k3) r3 _ ⟨z, rfl, q s3 (k2.trans k3)⟩)⟩
theorem eb_I0 {op : CmpOp} {g : Int → Int → V} {x y : Int} {z : Bool} (ho : OpR X (compareOp op) (rI0 g)) (hg : g x y = .bl z) (hm : behindInMarks op b = false) (ha : Ev X a σ s x) (hb : Ev X b σ s y) : EvB X (.Compare a [op] [b] pos) σ s z :=
  eb_cmp ho ha hb (fun v u s2 hv hu Q q => ⟨x, y, hv, hu, by rw [hg]; exact q⟩) hm
theorem eb_lt {x y : Int} (ha : Ev X a σ s x) (hb : Ev X b σ s y) : EvB X (.Compare a [.Lt] [b] pos) σ s (decide (x < y)) := eb_I0 op_lt rfl (nomark _) ha hb
theorem eb_le {x y : Int} (ha : Ev X a σ s x) (hb : Ev X b σ s y) : EvB X (.Compare a [.LtE] [b] pos) σ s (decide (x ≤ y)) := eb_I0 op_le rfl (nomark _) ha hb
theorem eb_gt {x y : Int} (ha : Ev X a σ s x) (hb : Ev X b σ s y) : EvB X (.Compare a [.Gt] [b] pos) σ s (decide (y < x)) := eb_I0 op_gt rfl (nomark _) ha hb
theorem eb_ge {x y : Int} (ha : Ev X a σ s x) (hb : Ev X b σ s y) : EvB X (.Compare a [.GtE] [b] pos) σ s (decide (y ≤ x)) := eb_I0 op_ge rfl (nomark _) ha hb
class Eqs (α : Type) extends Flat α where
  sc : ∀ x y : α, scal (toV x) (toV y) = true
  ij : ∀ x y : α, toV x = toV y ↔ x = y
instance : Eqs Int := { sc := fun _ _ => rfl, ij := fun x y => by show V.int x = V.int y ↔ _; simp }
instance : Eqs Bool := { sc := fun _ _ => rfl, ij := fun x y => by show V.bl x = V.bl y ↔ _; simp }
instance : Eqs Str := { sc := fun _ _ => rfl, ij := fun x y => by show V.str x = V.str y ↔ _; simp }
theorem eb_eq {ε : Type} [Eqs ε] [DecidableEq ε] {x y : ε} (ha : Ev X a σ s x) (hb : Ev X b σ s y) : EvB X (.Compare a [.Eq] [b] pos) σ s (decide (x = y)) :=
  eb_cmp op_eq ha hb (fun v u s2 hv hu Q q => by
    rw [Flat.iff.mp hv, Flat.iff.mp hu]
    refine ⟨Eqs.sc x y, ?_⟩
    rw [show decide (toV x = toV y) = decide (x = y) from decide_eq_decide.mpr (Eqs.ij x y)]
    exact q) (nomark _)
theorem eb_ne {ε : Type} [Eqs ε] [DecidableEq ε] {x y : ε} (ha : Ev X a σ s x) (hb : Ev X b σ s y) : EvB X (.Compare a [.NotEq] [b] pos) σ s (!decide (x = y)) :=
  eb_cmp op_ne ha hb (fun v u s2 hv hu Q q => by
    rw [Flat.iff.mp hv, Flat.iff.mp hu]
    refine ⟨Eqs.sc x y, ?_⟩
    rw [show decide (toV x = toV y) = decide (x = y) from decide_eq_decide.mpr (Eqs.ij x y)]
    exact q) (nomark _)
theorem eb_isN {o : Type} [Opn o] {x : Option o} {j} (ha : Ev X a σ s x) : EvB X (.Compare a [.Is] [.Constant .none j p1] pos) σ s x.isNone :=
  eb_cmp op_isN ha ev_non (fun v u s2 hv hu Q q => by
    refine ⟨hu, ?_⟩
    have : decide (v = V.non) = x.isNone := by
      cases x with
      | none => cases (show v = V.non from hv); rfl
      | some y => exact decide_eq_false fun z => Opn.notNon (z ▸ (show rep X.K s2.F v y from hv))
    rw [this]; exact q) (nomark _)
theorem eb_notN {o : Type} [Opn o] {x : Option o} {j} (ha : Ev X a σ s x) : EvB X (.Compare a [.IsNot] [.Constant .none j p1] pos) σ s x.isSome :=
  eb_cmp op_notN ha ev_non (fun v u s2 hv hu Q q => by
    refine ⟨hu, ?_⟩
    have : (!decide (v = V.non)) = x.isSome := by
      cases x with
      | none => cases (show v = V.non from hv); rfl
      | some y => rw [decide_eq_false fun z => Opn.notNon (z ▸ (show rep X.K s2.F v y from hv))]; rfl
    rw [this]; exact q) (nomark _)
theorem eb_in {ε : Type} [Eqs ε] [DecidableEq ε] {x : ε} {xs : List ε} (ha : Ev X a σ s x) (hb : EvR X b σ s xs) (hm : behindInMarks .In b = false := by rfl) : EvB X (.Compare a [.In] [b] pos) σ s (decide (x ∈ xs)) :=
  eb_cmpR op_in_seq ha hb (fun v u s2 hv hu Q q => by
    obtain ⟨p, vs, rfl, h1, h2⟩ := hu
    rw [Flat.iff.mp hv]
    obtain rfl := h2.flat
    refine ⟨p, _, rfl, .inl h1, Flat.flat x, flat_all xs, ?_⟩
    rw [inV_flat]; exact q) hm
theorem eb_notIn {ε : Type} [Eqs ε] [DecidableEq ε] {x : ε} {xs : List ε} (ha : Ev X a σ s x) (hb : EvR X b σ s xs) (hm : behindInMarks .NotIn b = false := by rfl) : EvB X (.Compare a [.NotIn] [b] pos) σ s (!decide (x ∈ xs)) :=
  eb_cmpR op_notIn_seq ha hb (fun v u s2 hv hu Q q => by
    obtain ⟨p, vs, rfl, h1, h2⟩ := hu
    rw [Flat.iff.mp hv]
    obtain rfl := h2.flat
    refine ⟨p, _, rfl, .inl h1, Flat.flat x, flat_all xs, ?_⟩
    rw [inV_flat]; exact q) hm
theorem eb_inT {ε : Type} [Eqs ε] [DecidableEq ε] {x : ε} {xs : Tu ε} (ha : Ev X a σ s x) (hb : Ev X b σ s xs) (hm : behindInMarks .In b = false := by rfl) : EvB X (.Compare a [.In] [b] pos) σ s (decide (x ∈ xs.l)) :=
  eb_cmp op_in_seq ha hb (fun v u s2 hv hu Q q => by
    obtain ⟨p, vs, rfl, h1, h2⟩ := hu
    rw [Flat.iff.mp hv]
    obtain rfl := h2.flat
    refine ⟨p, _, rfl, .inr (sqt_mono s2.sub h1), Flat.flat x, flat_all xs.l, ?_⟩
    rw [inV_flat]; exact q) hm
theorem eb_notInT {ε : Type} [Eqs ε] [DecidableEq ε] {x : ε} {xs : Tu ε} (ha : Ev X a σ s x) (hb : Ev X b σ s xs) (hm : behindInMarks .NotIn b = false := by rfl) : EvB X (.Compare a [.NotIn] [b] pos) σ s (!decide (x ∈ xs.l)) :=
  eb_cmp op_notIn_seq ha hb (fun v u s2 hv hu Q q => by
    obtain ⟨p, vs, rfl, h1, h2⟩ := hu
    rw [Flat.iff.mp hv]
    obtain rfl := h2.flat
    refine ⟨p, _, rfl, .inr (sqt_mono s2.sub h1), Flat.flat x, flat_all xs.l, ?_⟩
    rw [inV_flat]; exact q) hm
def inS (x y : Str) : Bool := !(Builtin.Str.occurrences y x 0 y.length 1).isEmpty
theorem eb_inS {x y : Str} (ha : Ev X a σ s x) (hb : Ev X b σ s y) (hm : behindInMarks .In b = false := by rfl) : EvB X (.Compare a [.In] [b] pos) σ s (inS x y) :=
  eb_cmp op_in_str ha hb (fun v u s2 hv hu Q q => ⟨x, y, hv, hu, q⟩) hm
theorem eb_notInS {x y : Str} (ha : Ev X a σ s x) (hb : Ev X b σ s y) (hm : behindInMarks .NotIn b = false := by rfl) : EvB X (.Compare a [.NotIn] [b] pos) σ s (!inS x y) :=
  eb_cmp op_notIn_str ha hb (fun v u s2 hv hu Q q => ⟨x, y, hv, hu, q⟩) hm
theorem eb_chain {op op' : CmpOp} {g g' : Int → Int → V} {x y z : Int} {k1 k2 : Bool} (ho : OpR X (compareOp op) (rI0 g)) (hg : g x y = .bl k1) (ho' : OpR X (compareOp op') (rI0 g')) (hg' : g' y z = .bl k2) (ha : Ev X a σ s x) (hb : Ev X b σ s y) (hc : Ev X c σ s z)
    (hm : lastMarks [op, op'] [b, c] = false := by with_unfolding_all rfl) : EvB X (.Compare a [op, op'] [b, c] pos) σ s (k1 && k2) :=
  ⟨fun s1 k Q q => we_of (pe_chain ho ho' pe_we pe_we pe_we hm) (ha s1 k _ fun v s2 j2 r2 => hb s2 (k.trans j2) _ fun u s3 j3 r3 => ⟨x, y, r2, r3, k1, hg, by
    cases k1 with
    | true => exact iteT (hc s3 ((k.trans j2).trans j3) _ fun w s4 j4 r4 => ⟨y, z, r3, r4, by rw [hg']; exact q _ s4 ((j2.trans j3).trans j4) rfl⟩)
    | false => exact iteF (q _ s3 (j2.trans j3) rfl)⟩),
   fun s1 k Q q => wt_of (pt_chain ho ho' pe_we pe_we pe_we hm) (ha s1 k _ fun v s2 j2 r2 => hb s2 (k.trans j2) _ fun u s3 j3 r3 => ⟨x, y, r2, r3, k1, hg, by
    cases k1 with
    | true => exact iteT (hc s3 ((k.trans j2).trans j3) _ fun w s4 j4 r4 => ⟨y, z, r3, r4, by rw [hg']; exact ⟨_, rfl, q s4 ((j2.trans j3).trans j4)⟩⟩)
    | false => exact iteF ⟨_, rfl, q s3 (j2.trans j3)⟩⟩)⟩

theorem ea_nil : EvA X [] σ s () := fun s1 k Q q => wa_of pa_nil (q [] s1 (Ex.refl _) rfl)
theorem ea_cons {A : Type} [EncA A] {x : α} {r : A} (h : Ev X e σ s x) (hr : EvA X es σ s r) (hs : starEach (e :: es) X.env = (false, eval e X.env) :: starEach es X.env := by rfl) : EvA X (e :: es) σ s (x, r) := fun s1 k Q q =>
  wa_of (pa_cons pe_we pa_wa hs) (h s1 k _ fun v s2 k2 r2 => hr s2 (k.trans k2) _ fun vs s3 k3 r3 => q _ s3 (k2.trans k3) ⟨v, vs, rfl, Enc.mono k3.f r2, r3⟩)
theorem ev_B1 {id : String} {n : Str} {r : List V → Hp → VK → Prop} {x : β} {y : α} (hc : CallR X (.builtin id) r) (hg : Gl X n) (hm : X.mg n = none) (hv : bootBuiltins n = some (.builtin id)) (ha : Ev X e σ s x)
    (hr : ∀ (v : V) (s2 : S), rep X.K s2.F v x → ∀ Q : VK, (∀ w s3, Ex s2 s3 → rep X.K s3.F w y → Q w s3.H) → r [v] s2.H Q) (hn : n ≠ "__name__" := by decide) (hdb : (n == ("__debug__" : Str)) = false := by decide)
    (he : starEach [e] X.env = (false, eval e X.env) :: starEach [] X.env := by rfl) (hpl : (backTo pos (starEach [] X.env)).any (·.1) = false := by rfl) : Ev X (.Call (.Name n p0) [e] [] pos) σ s y := fun s1 k Q q =>
  we_of (pe_callB hc hg hm hv (pa_cons pe_we pa_nil he) hn hdb he hpl) (ha s1 k _ fun v s2 k2 r2 => hr v s2 r2 Q fun w s3 k3 r3 => q w s3 (k2.trans k3) r3)
theorem ev_BR {id : String} {n : Str} {r : List V → Hp → VK → Prop} {xs : List β} {y : α} (hc : CallR X (.builtin id) r) (hg : Gl X n) (hm : X.mg n = none) (hv : bootBuiltins n = some (.builtin id)) (ha : EvR X e σ s xs)
    (hr : ∀ (v : V) (s2 : S), RepR X.K s2 v xs → ∀ Q : VK, (∀ w s3, Ex s2 s3 → rep X.K s3.F w y → Q w s3.H) → r [v] s2.H Q) (hn : n ≠ "__name__" := by decide) (hdb : (n == ("__debug__" : Str)) = false := by decide)
    (he : starEach [e] X.env = (false, eval e X.env) :: starEach [] X.env := by rfl) (hpl : (backTo pos (starEach [] X.env)).any (·.1) = false := by rfl) : Ev X (.Call (.Name n p0) [e] [] pos) σ s y := fun s1 k Q q =>
  we_of (pe_callB hc hg hm hv (pa_cons pe_we pa_nil he) hn hdb he hpl) (ha s1 k _ fun v s2 k2 r2 => hr v s2 r2 Q fun w s3 k3 r3 => q w s3 (k2.trans k3) r3)
theorem ev_len {xs : List β} (hm : X.mg "len" = none) (ha : EvR X e σ s xs) (hg : Gl X "len" := by rfl) (he : starEach [e] X.env = (false, eval e X.env) :: starEach [] X.env := by rfl) (hpl : (backTo pos (starEach [] X.env)).any (·.1) = false := by rfl) : Ev X (.Call (.Name "len" p0) [e] [] pos) σ s (xs.length : Int) :=
  ev_BR call_len_seq hg hm boot_len ha (fun v s2 r2 Q q => by
    obtain ⟨p, vs, rfl, h1, h2⟩ := r2
    exact ⟨p, vs, rfl, .inl h1, q _ s2 (Ex.refl _) (by rw [h2.len]; rfl)⟩) (he := he) (hpl := hpl)
theorem ev_lenT {xs : Tu β} (hm : X.mg "len" = none) (ha : Ev X e σ s xs) (hg : Gl X "len" := by rfl) (he : starEach [e] X.env = (false, eval e X.env) :: starEach [] X.env := by rfl) (hpl : (backTo pos (starEach [] X.env)).any (·.1) = false := by rfl) : Ev X (.Call (.Name "len" p0) [e] [] pos) σ s (xs.l.length : Int) :=
  ev_B1 call_len_seq hg hm boot_len ha (fun v s2 r2 Q q => by
    obtain ⟨p, vs, rfl, h1, h2⟩ := r2
    exact ⟨p, vs, rfl, .inr (sqt_mono s2.sub h1), q _ s2 (Ex.refl _) (by rw [h2.len]; rfl)⟩) (he := he) (hpl := hpl)
theorem ev_lenS {x : Str} (hm : X.mg "len" = none) (hz : x.length ≤ sizeLine) (ha : Ev X e σ s x) (hg : Gl X "len" := by rfl) (he : starEach [e] X.env = (false, eval e X.env) :: starEach [] X.env := by rfl) (hpl : (backTo pos (starEach [] X.env)).any (·.1) = false := by rfl) : Ev X (.Call (.Name "len" p0) [e] [] pos) σ s (x.length : Int) :=
  ev_B1 call_len_str hg hm boot_len ha (fun v s2 r2 Q q => ⟨x, by rw [show v = V.str x from r2], hz, q _ s2 (Ex.refl _) rfl⟩) (he := he) (hpl := hpl)
theorem ev_sum {xs : List Int} (hm : X.mg "sum" = none) (ha : EvR X e σ s xs) (hc : X.calm = true := by rfl) (hg : Gl X "sum" := by rfl) (he : starEach [e] X.env = (false, eval e X.env) :: starEach [] X.env := by rfl) (hpl : (backTo pos (starEach [] X.env)).any (·.1) = false := by rfl) : Ev X (.Call (.Name "sum" p0) [e] [] pos) σ s xs.sum :=
  ev_BR (cr_sum hc) hg hm (by decide +kernel) ha (fun v s2 r2 Q q => by
    obtain ⟨p, vs, rfl, h1, h2⟩ := r2
    rw [h2.flat] at h1
    exact ⟨p, xs, rfl, h1, q _ s2 (Ex.refl _) rfl⟩) (he := he) (hpl := hpl)
theorem ev_all {xs : List Bool} (hm : X.mg "all" = none) (ha : EvR X e σ s xs) (hc : X.calm = true := by rfl) (hg : Gl X "all" := by rfl) (he : starEach [e] X.env = (false, eval e X.env) :: starEach [] X.env := by rfl) (hpl : (backTo pos (starEach [] X.env)).any (·.1) = false := by rfl) : Ev X (.Call (.Name "all" p0) [e] [] pos) σ s (xs.all id) :=
  ev_BR (cr_all hc) hg hm (by decide +kernel) ha (fun v s2 r2 Q q => by
    obtain ⟨p, vs, rfl, h1, h2⟩ := r2
    rw [h2.flat] at h1
    exact ⟨p, xs, rfl, h1, q _ s2 (Ex.refl _) rfl⟩) (he := he) (hpl := hpl)
theorem ev_any {xs : List Bool} (hm : X.mg "any" = none) (ha : EvR X e σ s xs) (hc : X.calm = true := by rfl) (hg : Gl X "any" := by rfl) (he : starEach [e] X.env = (false, eval e X.env) :: starEach [] X.env := by rfl) (hpl : (backTo pos (starEach [] X.env)).any (·.1) = false := by rfl) : Ev X (.Call (.Name "any" p0) [e] [] pos) σ s (xs.any id) :=
  ev_BR (cr_any hc) hg hm (by decide +kernel) ha (fun v s2 r2 Q q => by
    obtain ⟨p, vs, rfl, h1, h2⟩ := r2
    rw [h2.flat] at h1
    exact ⟨p, xs, rfl, h1, q _ s2 (Ex.refl _) rfl⟩) (he := he) (hpl := hpl)
def minL : List Int → Option Int
  | [] => none
  | x :: xs => some (xs.foldl min x)
def maxL : List Int → Option Int
  | [] => none
  | x :: xs => some (xs.foldl max x)
theorem foldl_min (xs : List Int) : ∀ x : Int, (xs.foldl min x ∈ x :: xs) ∧ ∀ y ∈ x :: xs, xs.foldl min x ≤ y := by
  induction xs with
  | nil => intro x; exact ⟨by simp, fun y hy => by simp at hy; simp [hy]⟩
  | cons a r ih =>
    intro x
    obtain ⟨h1, h2⟩ := ih (min x a)
    refine ⟨?_, fun y hy => ?_⟩
    · rw [List.foldl_cons]
      rcases List.mem_cons.mp h1 with h | h
      · rw [h]
        by_cases hx : x ≤ a
        · rw [Int.min_eq_left hx]; exact List.mem_cons_self
        · rw [Int.min_eq_right (by omega)]; exact List.mem_cons_of_mem _ List.mem_cons_self
      · exact List.mem_cons_of_mem _ (List.mem_cons_of_mem _ h)
    · rw [List.foldl_cons]
      have h3 := h2 (min x a) List.mem_cons_self
      rcases List.mem_cons.mp hy with rfl | hy
      · exact Int.le_trans h3 (Int.min_le_left _ _)
      · rcases List.mem_cons.mp hy with rfl | hy
        · exact Int.le_trans h3 (Int.min_le_right _ _)
        · exact h2 y (List.mem_cons_of_mem _ hy)
theorem foldl_max (xs : List Int) : ∀ x : Int, (xs.foldl max x ∈ x :: xs) ∧ ∀ y ∈ x :: xs, y ≤ xs.foldl max x := by
  induction xs with
  | nil => intro x; exact ⟨by simp, fun y hy => by simp at hy; simp [hy]⟩
  | cons a r ih =>
    intro x
    obtain ⟨h1, h2⟩ := ih (max x a)
    refine ⟨?_, fun y hy => ?_⟩
    · rw [List.foldl_cons]
      rcases List.mem_cons.mp h1 with h | h
      · rw [h]
        by_cases hx : a ≤ x
        · rw [Int.max_eq_left hx]; exact List.mem_cons_self
        · rw [Int.max_eq_right (by omega)]; exact List.mem_cons_of_mem _ List.mem_cons_self
      · exact List.mem_cons_of_mem _ (List.mem_cons_of_mem _ h)
    · rw [List.foldl_cons]
      have h3 := h2 (max x a) List.mem_cons_self
      rcases List.mem_cons.mp hy with rfl | hy
      · exact Int.le_trans (Int.le_max_left _ _) h3
      · rcases List.mem_cons.mp hy with rfl | hy
        · exact Int.le_trans (Int.le_max_right _ _) h3
        · exact h2 y (List.mem_cons_of_mem _ hy)
theorem minL_of {xs : List Int} {m : Int} (h1 : m ∈ xs) (h2 : ∀ y ∈ xs, m ≤ y) : minL xs = some m := by
  cases xs with
  | nil => simp at h1
  | cons x r =>
    obtain ⟨h3, h4⟩ := foldl_min r x
    exact congrArg some (Int.le_antisymm (h4 m h1) (h2 _ h3))
theorem maxL_of {xs : List Int} {m : Int} (h1 : m ∈ xs) (h2 : ∀ y ∈ xs, y ≤ m) : maxL xs = some m := by
  cases xs with
  | nil => simp at h1
  | cons x r =>
    obtain ⟨h3, h4⟩ := foldl_max r x
    exact congrArg some (Int.le_antisymm (h2 _ h3) (h4 m h1))
theorem ev_min {xs : List Int} {m : Int} (hm : X.mg "min" = none) (ha : EvR X e σ s xs) (h : minL xs = some m) (hc : X.calm = true := by rfl) (hg : Gl X "min" := by rfl) (he : starEach [e] X.env = (false, eval e X.env) :: starEach [] X.env := by rfl) (hpl : (backTo pos (starEach [] X.env)).any (·.1) = false := by rfl) : Ev X (.Call (.Name "min" p0) [e] [] pos) σ s m :=
  ev_BR (cr_min hc) hg hm (by decide +kernel) ha (fun v s2 r2 Q q => by
    obtain ⟨p, vs, rfl, h1, h2⟩ := r2
    rw [h2.flat] at h1
    refine ⟨p, xs, rfl, h1, ?_, fun z hz1 hz2 => ?_⟩
    · cases xs with
      | nil => cases h
      | cons _ _ => exact Nat.succ_pos _
    · rw [minL_of hz1 hz2] at h
      cases h
      exact q _ s2 (Ex.refl _) rfl) (he := he) (hpl := hpl)
theorem ev_max {xs : List Int} {m : Int} (hm : X.mg "max" = none) (ha : EvR X e σ s xs) (h : maxL xs = some m) (hc : X.calm = true := by rfl) (hg : Gl X "max" := by rfl) (he : starEach [e] X.env = (false, eval e X.env) :: starEach [] X.env := by rfl) (hpl : (backTo pos (starEach [] X.env)).any (·.1) = false := by rfl) : Ev X (.Call (.Name "max" p0) [e] [] pos) σ s m :=
  ev_BR (cr_max hc) hg hm (by decide +kernel) ha (fun v s2 r2 Q q => by
    obtain ⟨p, vs, rfl, h1, h2⟩ := r2
    rw [h2.flat] at h1
    refine ⟨p, xs, rfl, h1, ?_, fun z hz1 hz2 => ?_⟩
    · cases xs with
      | nil => cases h
      | cons _ _ => exact Nat.succ_pos _
    · rw [maxL_of hz1 hz2] at h
      cases h
      exact q _ s2 (Ex.refl _) rfl) (he := he) (hpl := hpl)
theorem ev_min2 {x y : Int} (hm : X.mg "min" = none) (ha : Ev X a σ s x) (hb : Ev X b σ s y) (hc : X.calm = true := by rfl) (hg : Gl X "min" := by rfl) (he : starEach [a, b] X.env = (false, eval a X.env) :: starEach [b] X.env := by rfl) (he2 : starEach [b] X.env = (false, eval b X.env) :: starEach [] X.env := by rfl) (hpl : (backTo pos (starEach [b] X.env)).any (·.1) = false := by rfl) : Ev X (.Call (.Name "min" p0) [a, b] [] pos) σ s (min x y) := fun s1 k Q q =>
  we_of (pe_callB (call_min2 hc) hg hm (by decide +kernel) (pa_cons pe_we (pa_cons pe_we pa_nil he2) he) (he := he) (hpl := hpl)) (ha s1 k _ fun v s2 k2 r2 => hb s2 (k.trans k2) _ fun u s3 k3 r3 =>
    ⟨x, y, by rw [show v = V.int x from r2, show u = V.int y from r3], q _ s3 (k2.trans k3) (by
      show V.int _ = V.int _
      by_cases h : y < x
      · rw [if_pos h, Int.min_eq_right (by omega)]
      · rw [if_neg h, Int.min_eq_left (by omega)])⟩)
theorem ev_max2 {x y : Int} (hm : X.mg "max" = none) (ha : Ev X a σ s x) (hb : Ev X b σ s y) (hc : X.calm = true := by rfl) (hg : Gl X "max" := by rfl) (he : starEach [a, b] X.env = (false, eval a X.env) :: starEach [b] X.env := by rfl) (he2 : starEach [b] X.env = (false, eval b X.env) :: starEach [] X.env := by rfl) (hpl : (backTo pos (starEach [b] X.env)).any (·.1) = false := by rfl) : Ev X (.Call (.Name "max" p0) [a, b] [] pos) σ s (max x y) := fun s1 k Q q =>
  we_of (pe_callB (call_max2 hc) hg hm (by decide +kernel) (pa_cons pe_we (pa_cons pe_we pa_nil he2) he) (he := he) (hpl := hpl)) (ha s1 k _ fun v s2 k2 r2 => hb s2 (k.trans k2) _ fun u s3 k3 r3 =>
    ⟨x, y, by rw [show v = V.int x from r2, show u = V.int y from r3], q _ s3 (k2.trans k3) (by
      show V.int _ = V.int _
      by_cases h : y > x
      · rw [if_pos h, Int.max_eq_right (by omega)]
      · rw [if_neg h, Int.max_eq_left (by omega)])⟩)
theorem ev_T1 {T : String} {n : Str} {r : List V → Hp → VK → Prop} {x : β} {y : α} (hc : CallR X (.type T) r) (hg : Gl X n) (hm : X.mg n = none) (hv : bootBuiltins n = some (.type T)) (ha : Ev X e σ s x)
    (hr : ∀ (v : V) (s2 : S), rep X.K s2.F v x → ∀ Q : VK, (∀ w s3, Ex s2 s3 → rep X.K s3.F w y → Q w s3.H) → r [v] s2.H Q) (hn : n ≠ "__name__" := by decide) (hdb : (n == ("__debug__" : Str)) = false := by decide)
    (he : starEach [e] X.env = (false, eval e X.env) :: starEach [] X.env := by rfl) (hpl : (backTo pos (starEach [] X.env)).any (·.1) = false := by rfl) : Ev X (.Call (.Name n p0) [e] [] pos) σ s y := fun s1 k Q q =>
  we_of (pe_callTy hc hg hm hv (pa_cons pe_we pa_nil he) hn hdb he hpl) (ha s1 k _ fun v s2 k2 r2 => hr v s2 r2 Q fun w s3 k3 r3 => q w s3 (k2.trans k3) r3)
theorem ev_intB {x : Bool} (hm : X.mg "int" = none) (ha : Ev X e σ s x) (hg : Gl X "int" := by rfl) (he : starEach [e] X.env = (false, eval e X.env) :: starEach [] X.env := by rfl) (hpl : (backTo pos (starEach [] X.env)).any (·.1) = false := by rfl) : Ev X (.Call (.Name "int" p0) [e] [] pos) σ s (if x = true then (1 : Int) else 0) :=
  ev_T1 call_int1 hg hm (by decide +kernel) ha (fun v s2 r2 Q q => .inr ⟨x, by rw [show v = V.bl x from r2], q _ s2 (Ex.refl _) rfl⟩) (he := he) (hpl := hpl)
theorem ev_intS {x : Str} {n : Int} (hm : X.mg "int" = none) (ha : Ev X e σ s x) (h : PySem.intText? x = some n) (hl : x.length ≤ 640) (hg : Gl X "int" := by rfl) (he : starEach [e] X.env = (false, eval e X.env) :: starEach [] X.env := by rfl) (hpl : (backTo pos (starEach [] X.env)).any (·.1) = false := by rfl) : Ev X (.Call (.Name "int" p0) [e] [] pos) σ s n :=
  ev_T1 call_int_str hg hm (by decide +kernel) ha (fun v s2 r2 Q q => ⟨x, n, by rw [show v = V.str x from r2], h, hl, q _ s2 (Ex.refl _) rfl⟩) (he := he) (hpl := hpl)
theorem ev_strI {x : Int} (hm : X.mg "str" = none) (h : x.natAbs.log2 < 1920) (ha : Ev X e σ s x) (hg : Gl X "str" := by rfl) (he : starEach [e] X.env = (false, eval e X.env) :: starEach [] X.env := by rfl) (hpl : (backTo pos (starEach [] X.env)).any (·.1) = false := by rfl) : Ev X (.Call (.Name "str" p0) [e] [] pos) σ s (toString x : Str) :=
  ev_T1 call_str_int hg hm (by decide +kernel) ha (fun v s2 r2 Q q => ⟨x, by rw [show v = V.int x from r2], h, q _ s2 (Ex.refl _) rfl⟩) (he := he) (hpl := hpl)
end
end Dy

namespace Dy
open PySem PySem.Spec L2
open PyProof.Rows hiding St
open Enc (rep)
open Flat (toV)
open EncA (repA)

section
variable {α β γ δ ζ : Type} [Enc α] [Enc β] [Enc γ] [Enc δ] [Enc ζ] {X : Cx} {σ : St} {s t : S} {e a b c : Expr} {es : List Expr} {pos p0 p1 p2 p3 : Pos}

def EvE (X : Cx) (es : List Expr) (σ : St) (s : S) (xs : List α) : Prop := ∀ s1, Ex s s1 → ∀ Q : List V → Hp → Prop, (∀ vs s2, Ex s1 s2 → Reps X.K s2.F vs xs → Q vs s2.H) → WA X es σ s1.H Q
theorem ee_nil : EvE X [] σ s ([] : List α) := fun s1 k Q q => wa_of pa_nil (q [] s1 (Ex.refl _) trivial)
theorem ee_cons {x : α} {xs : List α} (h : Ev X e σ s x) (hr : EvE X es σ s xs) (hs : starEach (e :: es) X.env = (false, eval e X.env) :: starEach es X.env := by rfl) : EvE X (e :: es) σ s (x :: xs) := fun s1 k Q q =>
  wa_of (pa_cons pe_we pa_wa hs) (h s1 k _ fun v s2 k2 r2 => hr s2 (k.trans k2) _ fun vs s3 k3 r3 => q _ s3 (k2.trans k3) ⟨Enc.mono k3.f r2, r3⟩)
theorem own_new {K : PySem.W.Frag} {p : Addr} {vs : List V} {xs : List α} (h : s.H p = none) (r : Reps K s.F vs xs) : Own K (s.newO p (.lst vs) h) p xs := ⟨(fF h : s.F p = none), vs, upd_same, r⟩
theorem en_list {xs : List α} (h : EvE X es σ s xs) (hz : xs.length ≤ sizeLine := by decide) : EvN X (.List es pos) σ s xs := fun s1 k Q q =>
  we_of (pe_lst pa_wa) (h s1 k _ fun vs s2 k2 r2 => ⟨by rw [r2.len]; exact hz, fun p hp => q p (s2.newO p (.lst vs) hp) (k2.trans (Ex.newO hp)) (fr_back k2 hp) (own_new hp r2)⟩)
theorem tup_new {K : PySem.W.Frag} {p : Addr} {vs : List V} (h : s.H p = none) : SqT K (s.newF p (.tup vs) h).F p vs := .inl (.inl upd_same)
theorem ev_tu {xs : List α} (h : EvE X es σ s xs) (hz : xs.length ≤ sizeLine := by decide) {n} : Ev X (.Tuple es n pos) σ s (⟨xs⟩ : Tu α) := fun s1 k Q q =>
  we_of (pe_tup pa_wa) (h s1 k _ fun vs s2 k2 r2 => ⟨by rw [r2.len]; exact hz, fun p hp => q _ (s2.newF p (.tup vs) hp) (k2.trans (Ex.newF hp)) ⟨p, vs, rfl, tup_new hp, r2.mono (Ex.newF hp).f⟩⟩)
theorem ev_t1 {x : α} {n} (h : EvA X es σ s (x, ())) : Ev X (.Tuple es n pos) σ s (⟨x⟩ : T1 α) := fun s1 k Q q =>
  we_of (pe_tup pa_wa) (h s1 k _ fun vs s2 k2 r2 => by
    obtain ⟨v1, _, rfl, r1, rfl⟩ := r2
    refine ⟨show _ ≤ 2 ^ 24 by simp, fun p hp => q _ (s2.newF p _ hp) (k2.trans (Ex.newF hp)) ⟨p, v1, rfl, tup_new hp, Enc.mono (Ex.newF hp).f r1⟩⟩)
theorem ev_t2 {x : α} {y : β} {n} (h : EvA X es σ s (x, y, ())) : Ev X (.Tuple es n pos) σ s (x, y) := fun s1 k Q q =>
  we_of (pe_tup pa_wa) (h s1 k _ fun vs s2 k2 r2 => by
    obtain ⟨v1, _, rfl, r1, v2, _, rfl, r2, rfl⟩ := r2
    refine ⟨show _ ≤ 2 ^ 24 by simp, fun p hp => q _ (s2.newF p _ hp) (k2.trans (Ex.newF hp)) ⟨p, v1, v2, rfl, tup_new hp, Enc.mono (Ex.newF hp).f r1, Enc.mono (Ex.newF hp).f r2⟩⟩)
theorem ev_t3 {x : α} {y : β} {z : γ} {n} (h : EvA X es σ s (x, y, z, ())) : Ev X (.Tuple es n pos) σ s (⟨x, y, z⟩ : T3 α β γ) := fun s1 k Q q =>
  we_of (pe_tup pa_wa) (h s1 k _ fun vs s2 k2 r2 => by
    obtain ⟨v1, _, rfl, r1, v2, _, rfl, r2, v3, _, rfl, r3, rfl⟩ := r2
    refine ⟨show _ ≤ 2 ^ 24 by simp, fun p hp => q _ (s2.newF p _ hp) (k2.trans (Ex.newF hp)) ⟨p, v1, v2, v3, rfl, tup_new hp, Enc.mono (Ex.newF hp).f r1, Enc.mono (Ex.newF hp).f r2, Enc.mono (Ex.newF hp).f r3⟩⟩)
theorem ev_t4 {x : α} {y : β} {z : γ} {u : δ} {n} (h : EvA X es σ s (x, y, z, u, ())) : Ev X (.Tuple es n pos) σ s (⟨x, y, z, u⟩ : T4 α β γ δ) := fun s1 k Q q =>
  we_of (pe_tup pa_wa) (h s1 k _ fun vs s2 k2 r2 => by
    obtain ⟨v1, _, rfl, r1, v2, _, rfl, r2, v3, _, rfl, r3, v4, _, rfl, r4, rfl⟩ := r2
    refine ⟨show _ ≤ 2 ^ 24 by simp, fun p hp => q _ (s2.newF p _ hp) (k2.trans (Ex.newF hp)) ⟨p, v1, v2, v3, v4, rfl, tup_new hp, Enc.mono (Ex.newF hp).f r1, Enc.mono (Ex.newF hp).f r2, Enc.mono (Ex.newF hp).f r3, Enc.mono (Ex.newF hp).f r4⟩⟩)
theorem ev_t5 {x : α} {y : β} {z : γ} {u : δ} {w : ζ} {n} (h : EvA X es σ s (x, y, z, u, w, ())) : Ev X (.Tuple es n pos) σ s (⟨x, y, z, u, w⟩ : T5 α β γ δ ζ) := fun s1 k Q q =>
  we_of (pe_tup pa_wa) (h s1 k _ fun vs s2 k2 r2 => by
    obtain ⟨v1, _, rfl, r1, v2, _, rfl, r2, v3, _, rfl, r3, v4, _, rfl, r4, v5, _, rfl, r5, rfl⟩ := r2
    refine ⟨show _ ≤ 2 ^ 24 by simp, fun p hp => q _ (s2.newF p _ hp) (k2.trans (Ex.newF hp)) ⟨p, v1, v2, v3, v4, v5, rfl, tup_new hp, Enc.mono (Ex.newF hp).f r1, Enc.mono (Ex.newF hp).f r2, Enc.mono (Ex.newF hp).f r3, Enc.mono (Ex.newF hp).f r4, Enc.mono (Ex.newF hp).f r5⟩⟩)

theorem en_T1 {n : Str} {T : String} {r : List V → Hp → VK → Prop} {xs : List β} {ys : List α} (hc : CallR X (.type T) r) (hg : Gl X n) (hm : X.mg n = none) (hv : bootBuiltins n = some (.type T)) (ha : EvR X e σ s xs)
    (hr : ∀ (v : V) (s2 : S), RepR X.K s2 v xs → ∀ Q : VK, (∀ p s3, Ex s2 s3 → s2.H p = none → Own X.K s3 p ys → Q (.ref p) s3.H) → r [v] s2.H Q) (hn : n ≠ "__name__" := by decide) (hdb : (n == ("__debug__" : Str)) = false := by decide)
    (he : starEach [e] X.env = (false, eval e X.env) :: starEach [] X.env := by rfl) (hpl : (backTo pos (starEach [] X.env)).any (·.1) = false := by rfl) : EvN X (.Call (.Name n p0) [e] [] pos) σ s ys := fun s1 k Q q =>
  we_of (pe_callTy hc hg hm hv (pa_cons pe_we pa_nil he) hn hdb he hpl) (ha s1 k _ fun v s2 k2 r2 => hr v s2 r2 Q fun w s3 k3 n3 r3 => q w s3 (k2.trans k3) (fr_back k2 n3) r3)
theorem en_copy {xs : List α} (hm : X.mg "list" = none) (ha : EvR X e σ s xs) (hg : Gl X "list" := by rfl) (he : starEach [e] X.env = (false, eval e X.env) :: starEach [] X.env := by rfl) (hpl : (backTo pos (starEach [] X.env)).any (·.1) = false := by rfl) : EvN X (.Call (.Name "list" p0) [e] [] pos) σ s xs :=
  en_T1 call_list_of hg hm (by decide +kernel) ha (fun v s2 r2 Q q => by
    obtain ⟨p, vs, rfl, h1, h2⟩ := r2
    exact ⟨p, vs, rfl, .inl h1, fun l hl => q l (s2.newO l _ hl) (Ex.newO hl) hl (own_new hl h2)⟩) (he := he) (hpl := hpl)
theorem en_copyT {xs : Tu α} (hm : X.mg "list" = none) (ha : Ev X e σ s xs) (hg : Gl X "list" := by rfl) (he : starEach [e] X.env = (false, eval e X.env) :: starEach [] X.env := by rfl) (hpl : (backTo pos (starEach [] X.env)).any (·.1) = false := by rfl) : EvN X (.Call (.Name "list" p0) [e] [] pos) σ s xs.l := fun s1 k Q q =>
  we_of (pe_callTy call_list_of hg hm (by decide +kernel) (pa_cons pe_we pa_nil he) (he := he) (hpl := hpl)) (ha s1 k _ fun v s2 k2 r2 => by
    obtain ⟨p, vs, rfl, h1, h2⟩ := r2
    exact ⟨p, vs, rfl, .inr (sqt_mono s2.sub h1), fun l hl => q l (s2.newO l _ hl) (k2.trans (Ex.newO hl)) (fr_back k2 hl) (own_new hl h2)⟩)
theorem ev_tuple {xs : List α} (hm : X.mg "tuple" = none) (ha : EvR X e σ s xs) (hg : Gl X "tuple" := by rfl) (he : starEach [e] X.env = (false, eval e X.env) :: starEach [] X.env := by rfl) (hpl : (backTo pos (starEach [] X.env)).any (·.1) = false := by rfl) : Ev X (.Call (.Name "tuple" p0) [e] [] pos) σ s (⟨xs⟩ : Tu α) := fun s1 k Q q =>
  we_of (pe_callTy call_tuple_of hg hm (by decide +kernel) (pa_cons pe_we pa_nil he) (he := he) (hpl := hpl)) (ha s1 k _ fun v s2 k2 r2 => by
    obtain ⟨p, vs, rfl, h1, h2⟩ := r2
    exact ⟨p, vs, rfl, .inl ⟨h1, fun l hl => q _ (s2.newF l _ hl) (k2.trans (Ex.newF hl)) ⟨l, vs, rfl, tup_new hl, h2.mono (Ex.newF hl).f⟩⟩⟩)
theorem ev_tupleT {xs : Tu α} (hm : X.mg "tuple" = none) (ha : Ev X e σ s xs) (hg : Gl X "tuple" := by rfl) (he : starEach [e] X.env = (false, eval e X.env) :: starEach [] X.env := by rfl) (hpl : (backTo pos (starEach [] X.env)).any (·.1) = false := by rfl) : Ev X (.Call (.Name "tuple" p0) [e] [] pos) σ s xs := fun s1 k Q q =>
  we_of (pe_callTy call_tuple_of hg hm (by decide +kernel) (pa_cons pe_we pa_nil he) (he := he) (hpl := hpl)) (ha s1 k _ fun v s2 k2 r2 => by
    obtain ⟨p, vs, rfl, h1, h2⟩ := r2
    exact ⟨p, vs, rfl, .inr ⟨sqt_mono s2.sub h1, q _ s2 k2 ⟨p, vs, rfl, h1, h2⟩⟩⟩)
def rng (a b : Int) : List Int := (List.range (b - a).toNat).map fun i : Nat => a + (i : Int)
theorem rgV_rng (a b : Int) : rgV a b = (rng a b).map V.int := by
  unfold rgV rng
  rw [List.map_map]; rfl
theorem en_listRg1 {n : Int} (hm : X.mg "list" = none) (hr : X.mg "range" = none) (ha : Ev X e σ s n) (hz : RgOk 0 n) (hc : X.calm = true := by rfl) (hg : Gl X "list" := by rfl) (hgr : Gl X "range" := by rfl)
    (he : starEach [e] X.env = (false, eval e X.env) :: starEach [] X.env := by rfl) (he2 : starEach [.Call (.Name "range" p1) [e] [] p2] X.env = (false, eval (.Call (.Name "range" p1) [e] [] p2) X.env) :: starEach [] X.env := by rfl) :
    EvN X (.Call (.Name "list" p0) [.Call (.Name "range" p1) [e] [] p2] [] pos) σ s (rng 0 n) := fun s1 k Q q =>
  we_of (pe_listRg hc hg hm (prg_1 hgr hr pe_we he) he2) (ha s1 k _ fun v s2 k2 r2 => ⟨n, r2, hz, fun l hl => q l (s2.newO l _ hl) (k2.trans (Ex.newO hl)) (fr_back k2 hl) (own_new hl (by rw [rgV_rng]; exact Reps.of_flat _))⟩)
theorem en_listRg2 {m n : Int} (hm : X.mg "list" = none) (hr : X.mg "range" = none) (ha : Ev X a σ s m) (hb : Ev X b σ s n) (hz : RgOk m n) (hc : X.calm = true := by rfl) (hg : Gl X "list" := by rfl) (hgr : Gl X "range" := by rfl)
    (he : starEach [a, b] X.env = (false, eval a X.env) :: starEach [b] X.env := by rfl) (heb : starEach [b] X.env = (false, eval b X.env) :: starEach [] X.env := by rfl) (hpl : (backTo p2 (starEach [b] X.env)).any (·.1) = false := by rfl)
    (he2 : starEach [.Call (.Name "range" p1) [a, b] [] p2] X.env = (false, eval (.Call (.Name "range" p1) [a, b] [] p2) X.env) :: starEach [] X.env := by rfl) :
    EvN X (.Call (.Name "list" p0) [.Call (.Name "range" p1) [a, b] [] p2] [] pos) σ s (rng m n) := fun s1 k Q q =>
  we_of (pe_listRg hc hg hm (prg_2 hgr hr pe_we pe_we he heb hpl) he2) (ha s1 k _ fun v s2 k2 r2 => hb s2 (k.trans k2) _ fun u s3 k3 r3 => ⟨m, n, r2, r3, hz, fun l hl => q l (s3.newO l _ hl) ((k2.trans k3).trans (Ex.newO hl)) (fr_back (k2.trans k3) hl) (own_new hl (by rw [rgV_rng]; exact Reps.of_flat _))⟩)
def cut {τ : Type} (xs : List τ) (lo hi : Option Int) : List τ := (xs.drop (HT.sIx xs.length 0 lo)).take (HT.sIx xs.length xs.length hi - HT.sIx xs.length 0 lo)
theorem Reps.cut {K : PySem.W.Frag} {F : Hp} {vs : List V} {xs : List α} (r : Reps K F vs xs) (lo hi : Option Int) : Reps K F (cutV vs lo hi) (Dy.cut xs lo hi) := by
  unfold cutV Dy.cut
  rw [r.len]
  exact (r.drop _).take _
def EvO (X : Cx) (o : Option Expr) (σ : St) (s : S) (x : Option Int) : Prop := match o, x with
  | none, none => True
  | some e, some i => Ev X e σ s i
  | _, _ => False
theorem po_evo {o : Option Expr} {x : Option Int} (h : EvO X o σ s x) : ∃ t, PO X o t ∧ ∀ s1, Ex s s1 → ∀ Q : Option Int → Hp → Prop, (∀ s2, Ex s1 s2 → Q x s2.H) → t σ s1.H Q := by
  cases o with
  | none =>
    cases x with
    | none => exact ⟨_, po_none, fun s1 k Q q => q s1 (Ex.refl _)⟩
    | some i => exact h.elim
  | some e =>
    cases x with
    | none => exact h.elim
    | some i => exact ⟨_, po_some pe_we, fun s1 k Q q => (show Ev X e σ s i from h) s1 k _ fun v s2 k2 r2 => ⟨i, r2, q s2 k2⟩⟩
theorem eo_none : EvO X none σ s none := trivial
theorem eo_some {i : Int} (h : Ev X e σ s i) : EvO X (some e) σ s (some i) := h
theorem en_slice {xs : List α} {lo hi : Option Expr} {l h : Option Int} (ha : EvR X a σ s xs) (hl : EvO X lo σ s l) (hh : EvO X hi σ s h) : EvN X (.Subscript a (.Slice lo hi none p2) pos) σ s (cut xs l h) := fun s1 k Q q => by
  obtain ⟨tl, pl, ql⟩ := po_evo hl
  obtain ⟨th, ph, qh⟩ := po_evo hh
  refine we_of (pe_slice sl_list pe_we pl ph) (ha s1 k _ fun v s2 k2 r2 => ql s2 (k.trans k2) _ fun s3 k3 => qh s3 ((k.trans k2).trans k3) _ fun s4 k4 => ?_)
  obtain ⟨p, vs, rfl, h1, h2⟩ := (r2.ex k3).ex k4
  exact ⟨p, vs, rfl, h1, fun l hl => q l (s4.newO l _ hl) (((k2.trans k3).trans k4).trans (Ex.newO hl)) (fr_back ((k2.trans k3).trans k4) hl) (own_new hl (h2.cut _ _))⟩
theorem ev_sliceS {x : Str} {lo hi : Option Expr} {l h : Option Int} (hz : x.length ≤ sizeLine) (ha : Ev X a σ s x) (hl : EvO X lo σ s l) (hh : EvO X hi σ s h) : Ev X (.Subscript a (.Slice lo hi none p2) pos) σ s (cutS x l h) := fun s1 k Q q => by
  obtain ⟨tl, pl, ql⟩ := po_evo hl
  obtain ⟨th, ph, qh⟩ := po_evo hh
  exact we_of (pe_slice sl_str pe_we pl ph) (ha s1 k _ fun v s2 k2 r2 => ql s2 (k.trans k2) _ fun s3 k3 => qh s3 ((k.trans k2).trans k3) _ fun s4 k4 => ⟨x, r2, hz, q _ s4 ((k2.trans k3).trans k4) rfl⟩)
theorem op_catS : OpR X (binaryOp .Add) (fun x y H Q => ∃ l b xs zs, x = .ref l ∧ y = .ref b ∧ SqL X.K H l xs ∧ SqL X.K H b zs ∧ xs.length + zs.length ≤ sizeLine ∧ ∀ p, H p = none → Q (.ref p) (upd H p (.lst (xs ++ zs)))) := by
  intro pins s σ H x y v u Q I rx ry h
  obtain ⟨l, b, xs, zs, rfl, rfl, hH, hB, hz, q⟩ := h
  cases rx
  cases ry
  obtain ⟨its, r, ⟨⟨cls, dd, data, sl⟩, n, ho, hc, hd0, hd⟩, z1⟩ := I.list hH
  obtain ⟨its2, r2, ⟨⟨cls2, dd2, data2, sl2⟩, n2, ho2, hc2, hd02, hd2⟩, z2⟩ := I.list hB
  simp only at hc hd hc2 hd2 hd0 hd02
  subst hc hd hc2 hd2 hd0 hd02
  have e : its.toArray ++ its2.toArray = (its ++ its2).toArray := by simp
  have h1 := r.length
  have h2 := r2.length
  refine concat_meets ⟨_, ho, rfl⟩ ⟨_, ho2, rfl⟩ noFill_list_add seq_list_add PySem.F.slot_list_add PySem.F.entry_list_add (PySem.F.args_list_add_2 _ _) (list_addW l b its.toArray its2.toArray n n2 none none sl sl2 (by rw [List.size_toArray, List.size_toArray]; omega)) ⟨ho, ho2, ?_⟩
  rw [e]
  exact ⟨.ref _, _, I.lnew (t' := s.toks) (r.append r2) (by rw [List.length_append]; omega), rfl, q _ I.fresh⟩
theorem en_cat {xs ys : List α} (ha : EvR X a σ s xs) (hb : EvR X b σ s ys) (hz : xs.length + ys.length ≤ sizeLine) : EvN X (.BinOp a .Add b pos) σ s (xs ++ ys) := fun s1 k Q q =>
  we_of (pe_op op_catS pe_we pe_we) (ha s1 k _ fun v s2 k2 r2 => hb s2 (k.trans k2) _ fun u s3 k3 r3 => by
    obtain ⟨p, vs, rfl, h1, h2⟩ := r2.ex k3
    obtain ⟨p', ws, rfl, h3, h4⟩ := r3
    exact ⟨p, p', vs, ws, rfl, rfl, h1, h3, by rw [h2.len, h4.len]; exact hz, fun l hl => q l (s3.newO l _ hl) ((k2.trans k3).trans (Ex.newO hl)) (fr_back (k2.trans k3) hl) (own_new hl (h2.app h4))⟩)
def repl {τ : Type} (n : Int) (xs : List τ) : List τ := (List.replicate n.toNat xs).flatten
theorem Reps.repF {K : PySem.W.Frag} {F : Hp} {vs : List V} {xs : List α} (r : Reps K F vs xs) (n : Nat) : Reps K F (List.replicate n vs).flatten (List.replicate n xs).flatten := by
  induction n with
  | zero => exact trivial
  | succ n ih => rw [List.replicate_succ, List.replicate_succ, List.flatten_cons, List.flatten_cons]; exact r.app ih
def RepOk (n : Int) (l : Nat) : Prop := -(2 ^ 63) ≤ n ∧ n < 2 ^ 63 ∧ l * n.toNat ≤ sizeLine
theorem en_rep {xs : List α} {n : Int} (ha : EvN X a σ s xs) (hb : ∀ t, Ex s t → Ev X b σ t n) (hz : RepOk n xs.length) : EvN X (.BinOp a .Mult b pos) σ s (repl n xs) := fun s1 k Q q =>
  we_of (pe_op op_rep pe_we pe_we) (ha s1 k _ fun p s2 k2 n2 o2 => hb s2 (k.trans k2) s2 (Ex.refl _) _ fun u s3 k3 r3 => by
    obtain ⟨_, vs, h1, h2⟩ := o2.ex k3
    exact ⟨p, n, vs, rfl, r3, h1, hz.1, hz.2.1, by rw [h2.len]; exact hz.2.2, fun l hl => q l (s3.newO l _ hl) ((k2.trans k3).trans (Ex.newO hl)) (fr_back (k2.trans k3) hl) (own_new hl (h2.repF _))⟩)
theorem en_sorted {xs : List Int} (hm : X.mg "sorted" = none) (ha : EvR X e σ s xs) (hg : Gl X "sorted" := by rfl) (he : starEach [e] X.env = (false, eval e X.env) :: starEach [] X.env := by rfl) (hpl : (backTo pos (starEach [] X.env)).any (·.1) = false := by rfl) :
    EvN X (.Call (.Name "sorted" p0) [e] [] pos) σ s (xs.mergeSort (fun x y => decide (x ≤ y))) := fun s1 k Q q =>
  we_of (pe_callB cr_sortedI hg hm (by decide +kernel) (pa_cons pe_we pa_nil he) (he := he) (hpl := hpl)) (ha s1 k _ fun v s2 k2 r2 => by
    obtain ⟨p, vs, rfl, h1, h2⟩ := r2
    rw [h2.flat] at h1
    refine ⟨p, xs, rfl, h1, fun ys l hp hs hl => ?_⟩
    have e1 : ys = xs.mergeSort (fun x y => decide (x ≤ y)) := by
      refine List.Perm.eq_of_pairwise (le := fun x y : Int => x ≤ y) (fun a b _ _ h h' => Int.le_antisymm h h') hs ?_ (hp.trans (List.mergeSort_perm _ _).symm)
      have := List.pairwise_mergeSort (le := fun x y : Int => decide (x ≤ y)) (fun a b c h1 h2 => by simp at *; omega) (fun a b => by simp; omega) xs
      exact this.imp (by simp)
    subst e1
    exact q l (s2.newO l _ hl) (k2.trans (Ex.newO hl)) (fr_back k2 hl) (own_new hl (Reps.of_flat _)))
theorem en_split {x y : Str} (ha : Ev X a σ s x) (hb : Ev X b σ s y) (h1 : (y.length == 0) = false) (h2 : x.length + 2 ≤ sizeLine) (hs : starEach [b] X.env = [(false, eval b X.env)] := by rfl) (hbase : attributeBase a "split" X.env (eval a X.env) = eval a X.env := by rfl) (hline : (p1.endLine == pos.line) = true := by rfl) :
    EvN X (.Call (.Attribute a "split" p1) [b] [] pos) σ s (Txt.split x y) := fun s1 k Q q =>
  we_of (pe_split pe_we pe_we hs hbase hline) (ha s1 k _ fun v s2 k2 r2 => ⟨⟨x, r2⟩, hb s2 (k.trans k2) _ fun u s3 k3 r3 => ⟨x, y, r2, by rw [show u = V.str y from r3], h1, h2, fun l hl =>
    q l (s3.newO l _ hl) ((k2.trans k3).trans (Ex.newO hl)) (fr_back (k2.trans k3) hl) (own_new hl (Reps.of_flat _))⟩⟩)
def JnOk (x : Str) (ys : List Str) : Prop := (ys.map (·.length)).sum + ys.length * x.length ≤ 16777216
theorem ev_join {x : Str} {ys : List Str} (ha : Ev X a σ s x) (hb : EvR X b σ s ys) (h : JnOk x ys) (hs : starEach [b] X.env = [(false, eval b X.env)] := by rfl) (hbase : attributeBase a "join" X.env (eval a X.env) = eval a X.env := by rfl) (hline : (p1.endLine == pos.line) = true := by rfl) :
    Ev X (.Call (.Attribute a "join" p1) [b] [] pos) σ s (Txt.join x ys) := fun s1 k Q q =>
  we_of (pe_join pe_we pe_we hs hbase hline) (ha s1 k _ fun v s2 k2 r2 => ⟨⟨x, r2⟩, hb s2 (k.trans k2) _ fun u s3 k3 r3 => by
    obtain ⟨p, vs, rfl, h1, h2⟩ := r3
    obtain rfl := h2.flat
    exact ⟨x, p, ys, r2, rfl, .inl h1, h, q _ s3 (k2.trans k3) rfl⟩⟩)
def ixOf {τ : Type} [DecidableEq τ] (x : τ) : List τ → Option Nat
  | [] => none
  | y :: ys => if y = x then some 0 else (ixOf x ys).map (· + 1)
theorem ixOf_some {τ : Type} [DecidableEq τ] {x : τ} : ∀ {ys : List τ} {j : Nat}, ixOf x ys = some j → ys[j]? = some x ∧ ∀ m z, m < j → ys[m]? = some z → z ≠ x
  | [], _, h => by cases h
  | y :: ys, j, h => by
    unfold ixOf at h
    split at h
    · rename_i e; cases h; exact ⟨by simp [e], fun m z hm => absurd hm (Nat.not_lt_zero _)⟩
    · rename_i e
      obtain ⟨i, h1, rfl⟩ := Option.map_eq_some_iff.mp h
      obtain ⟨h2, h3⟩ := ixOf_some h1
      refine ⟨by simpa using h2, fun m z hm hz => ?_⟩
      cases m with
      | zero => simp at hz; subst hz; exact e
      | succ m => exact h3 m z (by omega) (by simpa using hz)
theorem ev_index {ε : Type} [Eqs ε] [DecidableEq ε] {x : ε} {xs : List ε} {j : Nat} (ha : EvR X a σ s xs) (hb : Ev X b σ s x) (h : ixOf x xs = some j)
    (hbase : attributeBase a "index" X.env (eval a X.env) = eval a X.env := by rfl)
    (hfew : ((backTo pos (starEach [b] X.env)).all (fun x => !x.1) && (backToKw pos (keywordEach [] X.env)).all (fun x => x.1.isSome) && decide (([b] : List Expr).length + ([] : List Keyword).length + (if ([] : List Keyword).isEmpty then 0 else 1) < 30)) = true := by rfl)
    (hline : (p1.endLine == pos.line) = true := by rfl) (hs : starEach [b] X.env = (false, eval b X.env) :: starEach [] X.env := by rfl) (hplain : (backTo pos (starEach [] X.env)).any (·.1) = false := by rfl) :
    Ev X (.Call (.Attribute a "index" p1) [b] [] pos) σ s (j : Int) := fun s1 k Q q =>
  we_of (pe_bm PySem.F.plainAttrs_list PySem.F.slot_list_index PySem.F.type_list_index mt_index pe_we (pa_cons pe_we pa_nil hs) hbase hfew hline hs hplain) (ha s1 k _ fun v s2 k2 r2 => by
    obtain ⟨p, vs, rfl, h1, h2⟩ := r2
    obtain rfl := h2.flat
    refine ⟨.inl ⟨rfl, _, h1⟩, hb s2 (k.trans k2) _ fun u s3 k3 r3 => ?_⟩
    rw [Flat.iff.mp r3]
    obtain ⟨h3, h4⟩ := ixOf_some h
    refine ⟨p, _, toV x, j, toV x, rfl, rfl, sql_mono k3.h h1, Flat.flat x, flat_all xs, by rw [List.getElem?_map, h3]; rfl, (Flat.inj x x).mpr rfl, fun m z hm hz => ?_, q _ s3 (k2.trans k3) rfl⟩
    rw [List.getElem?_map] at hz
    obtain ⟨y, h5, rfl⟩ := Option.map_eq_some_iff.mp hz
    exact Bool.eq_false_iff.mpr fun z => h4 m y hm h5 ((Flat.inj y x).mp z))

structure Cal (P : Program) (w : World) (K : PySem.W.Frag) (mg : Str → Option Value) (base : Heap) (CX : CXT) (k : Nat) (x : Str) (q : Sp) : Prop where
  ex : ∃ (f : Addr) (fd : FuncData) (ps : List Str), FnOk P w K mg base CX k f fd ps q ∧ mg x = some (.ref f) ∧ PySem.W.keepIn K (.ref f) = true ∧ Binds K fd ps []
theorem pe_c0 {n : Str} {k j : Nat} {q : Sp} {ta : TA} (C : Cal X.prog X.w X.K X.mg X.base CX0 k n q) (hr : Room j X.A) (hk : k ≤ j) (hg : Gl X n) (ha : PA X (e :: es) ta) (hdb : (n == ("__debug__" : Str)) = false := by decide)
    (he : starEach (e :: es) X.env = (false, eval e X.env) :: starEach es X.env := by rfl) (hpl : (backTo pos (starEach es X.env)).any (·.1) = false := by rfl) : PE X (.Call (.Name n p0) (e :: es) [] pos) (tCall q [] E0 ta) := by
  obtain ⟨f, fd, ps, F, hm, kp, b⟩ := C.ex
  exact pe_call F (hr.mono hk) hg hm kp b .nil pass0 ha hdb he hpl
def sp {A : Type} [EncA A] {ρ : Type} [Enc ρ] (K : PySem.W.Frag) (m : A → Option ρ) : Sp := fun vs H Q _ => ∃ (s : S) (x : A) (r : ρ), s.H = H ∧ repA K s.F vs x ∧ m x = some r ∧ ∀ v s', Ex s s' → rep K s'.F v r → Q v s'.H
def spN {A : Type} [EncA A] {ρ : Type} [Enc ρ] (K : PySem.W.Frag) (m : A → Option (List ρ)) : Sp := fun vs H Q _ => ∃ (s : S) (x : A) (r : List ρ), s.H = H ∧ repA K s.F vs x ∧ m x = some r ∧ ∀ p s', Ex s s' → s.H p = none → Own K s' p r → Q (.ref p) s'.H
theorem ev_call {A : Type} [EncA A] {m : A → Option α} {n : Str} {k j : Nat} {x : A} {r : α} (C : Cal X.prog X.w X.K X.mg X.base CX0 k n (sp X.K m)) (hr : Room j X.A) (hk : k ≤ j) (ha : EvA X (e :: es) σ s x) (h : m x = some r) (hg : Gl X n := by rfl)
    (hdb : (n == ("__debug__" : Str)) = false := by decide) (he : starEach (e :: es) X.env = (false, eval e X.env) :: starEach es X.env := by rfl) (hpl : (backTo pos (starEach es X.env)).any (·.1) = false := by rfl) : Ev X (.Call (.Name n p0) (e :: es) [] pos) σ s r := fun s1 k1 Q q =>
  we_of (pe_c0 C hr hk hg pa_wa hdb he hpl) (ha s1 k1 _ fun vs s2 k2 r2 => ⟨s2, x, r, rfl, by rw [List.append_nil]; exact r2, h, fun v s3 k3 r3 => q v s3 (k2.trans k3) r3⟩)
theorem en_call {A : Type} [EncA A] {m : A → Option (List α)} {n : Str} {k j : Nat} {x : A} {r : List α} (C : Cal X.prog X.w X.K X.mg X.base CX0 k n (spN X.K m)) (hr : Room j X.A) (hk : k ≤ j) (ha : EvA X (e :: es) σ s x) (h : m x = some r) (hg : Gl X n := by rfl)
    (hdb : (n == ("__debug__" : Str)) = false := by decide) (he : starEach (e :: es) X.env = (false, eval e X.env) :: starEach es X.env := by rfl) (hpl : (backTo pos (starEach es X.env)).any (·.1) = false := by rfl) : EvN X (.Call (.Name n p0) (e :: es) [] pos) σ s r := fun s1 k1 Q q =>
  we_of (pe_c0 C hr hk hg pa_wa hdb he hpl) (ha s1 k1 _ fun vs s2 k2 r2 => ⟨s2, x, r, rfl, by rw [List.append_nil]; exact r2, h, fun v s3 k3 n3 r3 => q v s3 (k2.trans k3) (fr_back k2 n3) r3⟩)
end
end Dy

namespace Dy
open PySem PySem.Spec L2
open PyProof.Rows hiding St
open Enc (rep)
open Flat (toV)
open EncA (repA)

noncomputable def chk {α : Type} (c : Prop) (m : Option α) : Option α := open Classical in if c then m else none
theorem chk_pos {α : Type} {c : Prop} {m : Option α} (h : c) : chk c m = m := by unfold chk; exact if_pos h
theorem chkE {α : Type} {c : Prop} {m : Option α} {r : α} (h : chk c m = some r) : c ∧ m = some r := by
  unfold chk at h
  split at h
  · rename_i hc; exact ⟨hc, h⟩
  · cases h
def lt {α β : Type} (x : α) (f : α → Option β) : Option β := f x
theorem ltE {α β : Type} {x : α} {f : α → Option β} {r : β} (h : lt x f = some r) : ∃ y, y = x ∧ f y = some r := ⟨x, rfl, h⟩
abbrev bnd {α β : Type} (m : Option α) (f : α → Option β) : Option β := m.bind f
theorem bndE {α β : Type} {m : Option α} {f : α → Option β} {r : β} (h : bnd m f = some r) : ∃ y, m = some y ∧ f y = some r := by
  cases m with
  | none => cases h
  | some y => exact ⟨y, rfl, h⟩
theorem iteE1 {α : Type} {b : Bool} {m k : Option α} {r : α} (h : (if b = true then m else k) = some r) (e : b = true) : m = some r := by rw [if_pos e] at h; exact h
theorem iteE2 {α : Type} {b : Bool} {m k : Option α} {r : α} (h : (if b = true then m else k) = some r) (e : b = false) : k = some r := by rw [if_neg (by rw [e]; exact Bool.false_ne_true)] at h; exact h
def andO (a : Bool) (m : Option Bool) : Option Bool := if a = true then m else some false
def orO (a : Bool) (m : Option Bool) : Option Bool := if a = true then some true else m
theorem andE {a r : Bool} {m : Option Bool} (h : andO a m = some r) : (a = true → m = some r) ∧ (a = false → r = false) := by
  unfold andO at h
  cases a with
  | true => exact ⟨fun _ => h, fun z => Bool.noConfusion z⟩
  | false => exact ⟨fun z => Bool.noConfusion z, fun _ => (Option.some.inj h).symm⟩
theorem orE {a r : Bool} {m : Option Bool} (h : orO a m = some r) : (a = false → m = some r) ∧ (a = true → r = true) := by
  unfold orO at h
  cases a with
  | false => exact ⟨fun _ => h, fun z => Bool.noConfusion z⟩
  | true => exact ⟨fun z => Bool.noConfusion z, fun _ => (Option.some.inj h).symm⟩
inductive Fl (β ρ : Type) where
  | nx (b : β)
  | rt (r : ρ)
def foldO {α β : Type} (f : β → α → Option β) : β → List α → Option β
  | b, [] => some b
  | b, x :: r => (f b x).bind fun b' => foldO f b' r
def foldF {α β ρ : Type} (f : β → α → Option (Fl β ρ)) : β → List α → Option (Fl β ρ)
  | b, [] => some (.nx b)
  | b, x :: r => (f b x).bind fun o => match o with
    | .nx b' => foldF f b' r
    | .rt v => some (.rt v)
def whileO {β : Type} (c : β → Option Bool) (f : β → Option β) : Nat → β → Option β
  | 0, _ => none
  | n + 1, b => (c b).bind fun t => if t = true then (f b).bind fun b' => whileO c f n b' else some b
def whileF {β ρ : Type} (c : β → Option Bool) (f : β → Option (Fl β ρ)) : Nat → β → Option (Fl β ρ)
  | 0, _ => none
  | n + 1, b => (c b).bind fun t => if t = true then (f b).bind fun o => (match o with
    | .nx b' => whileF c f n b'
    | .rt v => some (.rt v)) else some (.nx b)
def compO {α β : Type} (t : α → Option Bool) (f : α → Option β) : List α → Option (List β)
  | [] => some []
  | x :: r => (t x).bind fun b => if b = true then (f x).bind fun y => (compO t f r).bind fun ys => some (y :: ys) else compO t f r
theorem compO_pure {α β : Type} (t : α → Bool) (f : α → β) : ∀ xs : List α, compO (fun x => some (t x)) (fun x => some (f x)) xs = some ((xs.filter t).map f)
  | [] => rfl
  | x :: r => by
    unfold compO
    rw [Option.bind_some, compO_pure t f r, List.filter_cons]
    split
    · rfl
    · rfl
theorem compO_map {α β : Type} (f : α → β) : ∀ xs : List α, compO (fun _ => some true) (fun x => some (f x)) xs = some (xs.map f)
  | [] => rfl
  | x :: r => by
    unfold compO
    rw [Option.bind_some, compO_map f r]
    rfl
def mapO {α β : Type} (f : α → Option β) (xs : List α) : Option (List β) := compO (fun _ => some true) f xs

def WI (X : Cx) (tg iter : Expr) : TI := fun σ H R => ∀ (pins : List (Addr × Obj)) (s : Shared), Inv X pins σ H s →
  wpAny (model X.prog X.w) X.A (eval iter X.env) (fun v s1 => wpAny (model X.prog X.w) X.A (pyIter v) (PIE X pins σ tg R) X.xe s1) X.xe s
theorem pi_wi {X : Cx} {tg iter : Expr} : PI X tg iter (WI X tg iter) := ⟨fun pins s _ _ _ I h => h pins s I⟩
theorem wi_of {X : Cx} {tg iter : Expr} {t : TI} {σ : St} {H : Hp} {R : It → Hp → Prop} (h : PI X tg iter t) (q : t σ H R) : WI X tg iter σ H R := fun pins s I => h.run pins s σ H R I q
section
variable {α β γ δ : Type} [Enc α] [Enc β] [Enc γ] [Enc δ] {X : Cx} {σ : St} {s t : S} {e a b c tg : Expr} {es : List Expr} {pos p0 p1 p2 p3 : Pos}
structure Walk (K : PySem.W.Frag) (F : Hp) (J : It) (xs : List α) : Prop where
  go : ∀ (i : Nat) (t : S) (x : α), Fle F t.F → xs[i]? = some x → J.go i t.H ∧ ∀ v H', J.yld i t.H v H' → ∃ t' : S, t'.H = H' ∧ Ex t t' ∧ rep K t'.F v x
  stop : ∀ (i : Nat) (t : S), Fle F t.F → xs.length ≤ i → J.stop i t.H
def EvI (X : Cx) (tg e : Expr) (σ : St) (s : S) (xs : List α) : Prop := ∀ s1, Ex s s1 → ∀ R : It → Hp → Prop, (∀ J s2, Ex s1 s2 → Walk X.K s2.F J xs → R J s2.H) → WI X tg e σ s1.H R
theorem ei_list {xs : List α} (h : Ev X e σ s xs) : EvI X tg e σ s xs := fun s1 k R q =>
  wi_of (pi_list pe_we) (h s1 k _ fun v s2 k2 r2 => by
    obtain ⟨p, vs, rfl, h1, h2⟩ := r2
    refine ⟨p, rfl, ⟨vs, sql_mono s2.sub h1⟩, q _ s2 k2 ⟨fun i t x f hx => ?_, fun i t f hi => ⟨vs, sql_mono t.sub (sql_mono f h1), by rw [h2.len]; exact hi⟩⟩⟩
    obtain ⟨v, h3, h4⟩ := h2.get hx
    refine ⟨⟨vs, v, sql_mono t.sub (sql_mono f h1), h3⟩, fun w H' ⟨e1, hy⟩ => ⟨t, e1.symm, Ex.refl _, ?_⟩⟩
    have := hy vs (sql_mono t.sub (sql_mono f h1))
    rw [h3] at this
    cases this
    exact Enc.mono f h4)
theorem ei_tup {xs : Tu α} (h : Ev X e σ s xs) : EvI X tg e σ s xs.l := fun s1 k R q =>
  wi_of (pi_tup pe_we) (h s1 k _ fun v s2 k2 r2 => by
    obtain ⟨p, vs, rfl, h1, h2⟩ := r2
    refine ⟨p, rfl, ⟨vs, sqt_mono s2.sub h1⟩, q _ s2 k2 ⟨fun i t x f hx => ?_, fun i t f hi => ⟨vs, sqt_mono t.sub (sqt_mono f h1), by rw [h2.len]; exact hi⟩⟩⟩
    obtain ⟨v, h3, h4⟩ := h2.get hx
    refine ⟨⟨vs, v, sqt_mono t.sub (sqt_mono f h1), h3⟩, fun w H' ⟨e1, hy⟩ => ⟨t, e1.symm, Ex.refl _, ?_⟩⟩
    have := hy vs (sqt_mono t.sub (sqt_mono f h1))
    rw [h3] at this
    cases this
    exact Enc.mono f h4)
theorem rng_get {a b : Int} {i : Nat} {x : Int} (h : (rng a b)[i]? = some x) : i < (b - a).toNat ∧ x = a + (i : Int) := by
  unfold rng at h
  rw [List.getElem?_map] at h
  obtain ⟨j, h1, rfl⟩ := Option.map_eq_some_iff.mp h
  obtain ⟨h2, h3⟩ := List.getElem?_eq_some_iff.mp h1
  rw [List.length_range] at h2
  rw [List.getElem_range] at h3
  subst h3
  exact ⟨h2, rfl⟩
theorem rng_len (a b : Int) : (rng a b).length = (b - a).toNat := by unfold rng; rw [List.length_map, List.length_range]
theorem walk_rng {K : PySem.W.Frag} {F : Hp} {a b : Int} : Walk K F (Itr a (b - a).toNat) (rng a b) :=
  ⟨fun i t x f hx => ⟨(rng_get hx).1, fun v H' ⟨e1, e2⟩ => ⟨t, e1.symm, Ex.refl _, by rw [e2, (rng_get hx).2]; rfl⟩⟩, fun i t f hi => by rw [rng_len] at hi; exact hi⟩
def RgB (x : Int) : Prop := -(2 ^ 62) ≤ x ∧ x < 2 ^ 62
theorem ei_range1 {n : Int} (hm : X.mg "range" = none) (h : Ev X e σ s n) (hb : RgB n) (hg : Gl X "range" := by rfl) (hs : starEach [e] X.env = [(false, eval e X.env)] := by rfl) (hs2 : starEach [e] X.env = (false, eval e X.env) :: starEach [] X.env := by rfl) :
    EvI X tg (.Call (.Name "range" p0) [e] [] pos) σ s (rng 0 n) := fun s1 k R q =>
  wi_of (pi_range1 hg hm (pa_cons pe_we pa_nil hs2) hs) (h s1 k _ fun v s2 k2 r2 => ⟨n, by rw [show v = V.int n from r2], hb.1, hb.2, q _ s2 k2 (by
    have := walk_rng (K := X.K) (F := s2.F) (a := 0) (b := n)
    rw [Int.sub_zero] at this
    exact this)⟩)
theorem ei_range2 {m n : Int} (hm : X.mg "range" = none) (ha : Ev X a σ s m) (hb : Ev X b σ s n) (h1 : RgB m) (h2 : RgB n) (hg : Gl X "range" := by rfl) (hs : starEach [a, b] X.env = [(false, eval a X.env), (false, eval b X.env)] := by rfl) (hs2 : starEach [b] X.env = [(false, eval b X.env)] := by rfl)
    (hs3 : starEach [a, b] X.env = (false, eval a X.env) :: starEach [b] X.env := by rfl) (hs4 : starEach [b] X.env = (false, eval b X.env) :: starEach [] X.env := by rfl) :
    EvI X tg (.Call (.Name "range" p0) [a, b] [] pos) σ s (rng m n) := fun s1 k R q =>
  wi_of (pi_range2 hg hm (pa_cons pe_we (pa_cons pe_we pa_nil hs4) hs3) hs hs2) (ha s1 k _ fun v s2 k2 r2 => hb s2 (k.trans k2) _ fun u s3 k3 r3 => ⟨m, n, by rw [show v = V.int m from r2, show u = V.int n from r3], ⟨h1.1, h1.2, h2.1, h2.2⟩, q _ s3 (k2.trans k3) walk_rng⟩)
def chars (x : Str) : List Str := x.cps.toList.map fun c => ⟨#[c]⟩
theorem ei_str {x : Str} (h : Ev X e σ s x) : EvI X tg e σ s (chars x) := fun s1 k R q =>
  wi_of (pi_str pe_we) (h s1 k _ fun v s2 k2 r2 => ⟨x, r2, q _ s2 k2 ⟨fun i t y f hy => by
    unfold chars at hy
    rw [List.getElem?_map] at hy
    obtain ⟨c, h1, rfl⟩ := Option.map_eq_some_iff.mp hy
    have h1' : x.cps[i]? = some c := by simpa using h1
    refine ⟨?_, fun v H' ⟨e1, d, h2, h3⟩ => ⟨t, e1.symm, Ex.refl _, ?_⟩⟩
    · obtain ⟨z, _⟩ := Array.getElem?_eq_some_iff.mp h1'
      exact z
    · rw [h1'] at h2
      cases h2
      exact h3, fun i t f hi => by
    unfold chars at hi
    rw [List.length_map, Array.length_toList] at hi
    exact hi⟩⟩)
end

structure Tgt {α : Type} [Enc α] (K : PySem.W.Frag) (g : TG) (B : Hp → α → St → St → Prop) : Prop where
  run : ∀ (t : S) (v : V) (x : α) (σ : St) (Q : St → Hp → Prop), rep K t.F v x → (∀ σ2, B t.F x σ σ2 → Q σ2 t.H) → g v σ t.H Q
def BN {α : Type} [Enc α] (K : PySem.W.Frag) (j : Nat) : Hp → α → St → St → Prop := fun F x σ σ2 => ∃ v, rep K F v x ∧ σ2 = σ.set j (some v)
def B2 {α β : Type} [Enc α] [Enc β] (K : PySem.W.Frag) (i j : Nat) : Hp → α × β → St → St → Prop := fun F x σ σ2 => ∃ v w, rep K F v x.1 ∧ rep K F w x.2 ∧ σ2 = (σ.set i (some v)).set j (some w)
def B3 {α β γ : Type} [Enc α] [Enc β] [Enc γ] (K : PySem.W.Frag) (i j k : Nat) : Hp → T3 α β γ → St → St → Prop := fun F x σ σ2 => ∃ v w u, rep K F v x.a ∧ rep K F w x.b ∧ rep K F u x.c ∧ σ2 = ((σ.set i (some v)).set j (some w)).set k (some u)
theorem tg_n {α : Type} [Enc α] {K : PySem.W.Frag} {j : Nat} : Tgt (α := α) K (gName j) (BN K j) := ⟨fun t v x σ Q r h => h _ ⟨v, r, rfl⟩⟩
theorem tg_2 {α β : Type} [Enc α] [Enc β] {K : PySem.W.Frag} {i j : Nat} : Tgt (α := α × β) K (gTup K 2 (gCons (gName i) (gCons (gName j) gNil))) (B2 K i j) := ⟨fun t v x σ Q r h => by
  obtain ⟨p, v1, v2, rfl, h0, h1, h2⟩ := r
  exact ⟨p, _, rfl, sqt_mono t.sub h0, rfl, v1, _, rfl, v2, _, rfl, rfl, h _ ⟨v1, v2, h1, h2, rfl⟩⟩⟩
theorem tg_3 {α β γ : Type} [Enc α] [Enc β] [Enc γ] {K : PySem.W.Frag} {i j k : Nat} : Tgt (α := T3 α β γ) K (gTup K 3 (gCons (gName i) (gCons (gName j) (gCons (gName k) gNil)))) (B3 K i j k) := ⟨fun t v x σ Q r h => by
  obtain ⟨p, v1, v2, v3, rfl, h0, h1, h2, h3⟩ := r
  exact ⟨p, _, rfl, sqt_mono t.sub h0, rfl, v1, _, rfl, v2, _, rfl, v3, _, rfl, rfl, h _ ⟨v1, v2, v3, h1, h2, h3, rfl⟩⟩⟩

section
variable {α β : Type} [Enc α] [Enc β] {X : Cx} {σ : St} {s : S} {elt tg iter c : Expr} {ifs : List Expr} {scope : Scope} {own : List (Str × Nat)} {pos : Pos}
abbrev Blk (X : Cx) (scope : Scope) (s0 : Shared) (H0 : Hp) (C : Addr) (cl : List (Str × Addr)) (fp : List Addr) : Cx := X.blk s0 H0 scope (compEnvC scope cl C X.env) fp
theorem comp_read {xs : List α} {ys : List β} {t : α → Option Bool} {f : α → Option β} {g : TG} {B : Hp → α → St → St → Prop} {tt : TT} (hc : X.calm = true) (hN : X.N.Nodup) (hi : EvI X tg iter σ s xs) (ok : BlkOk X.N X.env.scope scope own)
    (hg : ∀ s0 H0 C cl fp, PG (Blk X scope s0 H0 C cl fp) tg g) (T : Tgt (α := α) X.K g B) (htt : ∀ s0 H0 C cl fp, PTs (Blk X scope s0 H0 C cl fp) ifs tt) (hf : compO t f xs = some ys) (hz : ys.length ≤ sizeLine)
    (hw : ∀ (F : Hp) (x : α) σ2, B F x (wipe σ (own.map (·.2))) σ2 → wipe σ2 (own.map (·.2)) = wipe σ (own.map (·.2)))
    (ht : ∀ (x : α) (b : Bool) (s1 : S) (σ2 : St) (Q : Bool → Hp → Prop), x ∈ xs → Ex s s1 → B s1.F x (wipe σ (own.map (·.2))) σ2 → t x = some b → (∀ s2, Ex s1 s2 → Q b s2.H) → tt σ2 s1.H Q)
    (he : ∀ (x : α) (y : β) (s1 : S) (σ2 : St), x ∈ xs → Ex s s1 → B s1.F x (wipe σ (own.map (·.2))) σ2 → t x = some true → f x = some y → ∀ s0 H0 C cl fp, Ev (Blk X scope s0 H0 C cl fp) elt σ2 s1 y)
    (s1 : S) (k : Ex s s1) (Q : VK) (q : ∀ p s2, Ex s1 s2 → s1.H p = none → Own X.K s2 p ys → Q (.ref p) s2.H) : tLc (WI X tg iter) g tt (fun σ H Q => ∀ s0 H0 C cl fp, WE (Blk X scope s0 H0 C cl fp) elt σ H Q) (own.map (·.2)) σ s1.H Q := by
  refine hi s1 k _ fun J s2 k2 W => ?_
  intro D hD
  refine ⟨fun i m H => ∃ (u : S) (pre : List β) (vs : List V), u.H = H ∧ m = xs.length - i ∧ Ex s2 u ∧ u.F D = none ∧ u.H D = some (.lst vs) ∧ Reps X.K u.F vs pre ∧ (∃ suf, compO t f (xs.drop i) = some suf ∧ pre ++ suf = ys), ⟨xs.length, s2.newO D (.lst []) hD, [], [], rfl, rfl, Ex.newO hD, (fF hD : s2.F D = none), upd_same, trivial, ys, hf, rfl⟩, ?_⟩
  rintro i m H ⟨u, pre, vs, rfl, rfl, ku, n1, n2, n3, suf, h1, h2⟩
  by_cases hi' : i < xs.length
  · right
    have hx : xs[i]? = some xs[i] := List.getElem?_eq_getElem hi'
    obtain ⟨g1, g2⟩ := W.go i u xs[i] ku.f hx
    refine ⟨g1, fun H' => ∃ m', m' < xs.length - i ∧ ∃ (u : S) (pre : List β) (vs : List V), u.H = H' ∧ m' = xs.length - (i + 1) ∧ Ex s2 u ∧ u.F D = none ∧ u.H D = some (.lst vs) ∧ Reps X.K u.F vs pre ∧ (∃ suf, compO t f (xs.drop (i + 1)) = some suf ∧ pre ++ suf = ys), fun H' z => z, fun v H' hy => ?_⟩
    obtain ⟨u', rfl, ku', rv⟩ := g2 v H' hy
    refine T.run u' v xs[i] _ _ rv fun σ2 hB => ⟨hw _ _ _ hB, ?_⟩
    rw [List.drop_eq_getElem_cons hi'] at h1
    unfold compO at h1
    cases hb : t xs[i] with
    | none => rw [hb] at h1; cases h1
    | some b =>
      rw [hb, Option.bind_some] at h1
      have mem : xs[i] ∈ xs := List.getElem_mem hi'
      have base : Ex s u' := (k.trans k2).trans (ku.trans ku')
      refine ht xs[i] b u' σ2 _ mem base hB hb fun u3 k3 => ?_
      have hlt : xs.length - (i + 1) < xs.length - i := by omega
      have kk : Ex u u3 := ku'.trans k3
      cases b with
      | false =>
        rw [if_neg Bool.false_ne_true] at h1 ⊢
        exact ⟨_, hlt, u3, pre, vs, rfl, rfl, ku.trans kk, kk.n _ _ n2 n1, kk.h _ _ n2, n3.mono kk.f, suf, h1, h2⟩
      | true =>
        rw [if_pos rfl] at h1 ⊢
        cases hfx : f xs[i] with
        | none => rw [hfx] at h1; cases h1
        | some y =>
          rw [hfx, Option.bind_some] at h1
          cases hr : compO t f (xs.drop (i + 1)) with
          | none => rw [hr] at h1; cases h1
          | some suf' =>
            rw [hr] at h1
            cases h1
            intro s0 H0 C cl fp
            refine he xs[i] y u' σ2 mem base hB hb hfx s0 H0 C cl fp u3 k3 _ fun w u4 k4 r4 => ?_
            have k5 : Ex u u4 := kk.trans k4
            have hD4 : u4.H D = some (.lst vs) := k5.h _ _ n2
            have hF4 : u4.F D = none := k5.n _ _ n2 n1
            have hlen : vs.length < sizeLine := by
              have e1 := n3.len
              have e2 : ys.length = pre.length + (suf'.length + 1) := by rw [← h2, List.length_append, List.length_cons]
              omega
            refine ⟨vs, hD4, hlen, _, hlt, u4.put D (.lst (vs ++ [w])) hF4, pre ++ [y], vs ++ [w], rfl, rfl, (ku.trans k5).mu1 (Mx.put hF4) hD, hF4, upd_same, (n3.mono k5.f).snoc r4, suf', rfl, by rw [List.append_assoc]; exact h2⟩
  · left
    have hd : xs.drop i = [] := List.drop_eq_nil_of_le (by omega)
    rw [hd] at h1
    cases h1
    refine ⟨W.stop i u ku.f (by omega), q D u (k2.trans ku) (fr_back k2 hD) ⟨n1, vs, n2, ?_⟩⟩
    rw [← h2, List.append_nil]
    exact n3
structure EvL (X : Cx) (elt tg iter : Expr) (ifs : List Expr) (scope : Scope) (σ : St) (s : S) (ys : List β) : Prop where
  calm : X.calm = true
  nd : X.N.Nodup
  fs : ∀ x, foldedSetIterable iter X.env x = pure x
  ex : ∃ (own : List (Str × Nat)) (g : TG) (tt : TT), BlkOk X.N X.env.scope scope own ∧ (∀ s0 H0 C cl fp, PG (Blk X scope s0 H0 C cl fp) tg g) ∧ (∀ s0 H0 C cl fp, PTs (Blk X scope s0 H0 C cl fp) ifs tt) ∧
    ∀ s1, Ex s s1 → ∀ Q : VK, (∀ p s2, Ex s1 s2 → s1.H p = none → Own X.K s2 p ys → Q (.ref p) s2.H) → tLc (WI X tg iter) g tt (fun σ H Q => ∀ s0 H0 C cl fp, WE (Blk X scope s0 H0 C cl fp) elt σ H Q) (own.map (·.2)) σ s1.H Q
theorem EvL.n {ys : List β} (h : EvL X elt tg iter ifs scope σ s ys) : EvN X (.ListComp elt [⟨tg, iter, ifs, 0⟩] scope pos) σ s ys := fun s1 k Q q => by
  obtain ⟨own, g, tt, h1, h2, h3, h4⟩ := h.ex
  exact we_of (pe_lc h.calm h.nd pi_wi h1 h2 h3 (fun s0 H0 C cl fp => ⟨fun pins s _ _ _ I h => h s0 H0 C cl fp pins s I⟩) h.fs) (h4 s1 k Q q)
theorem do_setL (i : Nat) {ys : List β} {n : Str} {py : Pos} {rest : List Stmt} {D : Ends} {spos : Pos} (h : EvL X elt tg iter ifs scope σ s ys) (k : ∀ p s1, Ex s s1 → s.H p = none → Own X.K s1 p ys → WSs X rest D (σ.set i (some (.ref p))) s1.H) (hk : X.env.scope.kind = .function) (hy : X.env.scope.names.lookup n = some .local)
    (hl : (py.line == pos.line) = true := by rfl) (ha : (scope.names.any fun (m, k) => m == n && (k == .local || k == .cell)) = false := by decide +kernel) (hi : X.N[i]? = some n := by rfl) :
    WSs X (.Assign [.Name n py] (.ListComp elt [⟨tg, iter, ifs, 0⟩] scope pos) spos :: rest) D σ s.H := by
  obtain ⟨own, g, tt, h1, h2, h3, h4⟩ := h.ex
  exact ws_of (pss_cons (ps_setLc (te := fun σ H Q => ∀ s0 H0 C cl fp, WE (Blk X scope s0 H0 C cl fp) elt σ H Q) h.calm h.nd hi hy (sw_true hk hy hl ha) pi_wi h1 h2 h3 (fun s0 H0 C cl fp => ⟨fun pins s _ _ _ I h => h s0 H0 C cl fp pins s I⟩) h.fs) pss_ws) (h4 s (Ex.refl _) (fun x H1 => WSs X rest D (σ.set i (some x)) H1) fun p s2 k2 n2 o2 => k p s2 k2 n2 o2)
theorem wipe_set {τ : St} {j : Nat} {o : Option V} : ∀ {vs : List Nat}, j ∈ vs → wipe (τ.set j o) vs = wipe τ vs
  | v :: vs, h => by
    show (wipe (τ.set j o) vs).set v none = (wipe τ vs).set v none
    by_cases e : j ∈ vs
    · rw [wipe_set e]
    · have : j = v := by
        rcases List.mem_cons.mp h with z | z
        · exact z
        · exact absurd z e
      subst this
      have : ∀ {ws : List Nat} {τ : St}, j ∉ ws → wipe (τ.set j o) ws = (wipe τ ws).set j o := by
        intro ws
        induction ws with
        | nil => intro τ _; rfl
        | cons a r ih =>
          intro τ h
          show (wipe (τ.set j o) r).set a none = ((wipe τ r).set a none).set j o
          rw [ih fun z => h (List.mem_cons_of_mem _ z), List.set_comm _ _ (fun z => h (by rw [z]; exact List.mem_cons_self))]
      rw [this e, List.set_set]
theorem wipe_wipe {τ : St} : ∀ {vs ws : List Nat}, (∀ v ∈ vs, v ∈ ws) → wipe (wipe τ vs) ws = wipe τ ws
  | [], _, _ => rfl
  | v :: vs, ws, h => by
    show wipe ((wipe τ vs).set v none) ws = wipe τ ws
    rw [wipe_set (h v List.mem_cons_self)]
    exact wipe_wipe fun u hu => h u (List.mem_cons_of_mem _ hu)
theorem en_comp0 {xs : List α} {ys : List β} {f : α → Option β} {j : Nat} {n : Str} {py : Pos} (hc : X.calm = true) (hN : X.N.Nodup) (hi : EvI X (.Name n py) iter σ s xs) (ok : BlkOk X.N X.env.scope scope own) (hj : X.N[j]? = some n)
    (hjo : j ∈ own.map (·.2)) (hg : ∀ s0 H0 C cl fp, PG (Blk X scope s0 H0 C cl fp) (.Name n py) (gName j)) (hf : mapO f xs = some ys) (hz : ys.length ≤ sizeLine)
    (he : ∀ (x : α) (y : β) (v : V) (s1 : S), x ∈ xs → Ex s s1 → rep X.K s1.F v x → f x = some y → ∀ s0 H0 C cl fp, Ev (Blk X scope s0 H0 C cl fp) elt ((wipe σ (own.map (·.2))).set j (some v)) s1 y)
    (hs : ∀ x, foldedSetIterable iter X.env x = pure x := by intro _; rfl) : EvL X elt (.Name n py) iter [] scope σ s ys :=
  ⟨hc, hN, hs, own, _, _, ok, hg, fun _ _ _ _ _ => pts_nil, fun s1 k Q q => comp_read (t := fun _ => some true) hc hN hi ok hg tg_n (fun _ _ _ _ _ => pts_nil) hf hz (fun F x σ2 ⟨v, _, e⟩ => by rw [e, wipe_set hjo]; exact wipe_wipe fun _ z => z)
    (fun x b s1 σ2 Q _ _ _ hb q => by cases hb; exact q s1 (Ex.refl _)) (fun x y s1 σ2 hx k ⟨v, r, e⟩ _ hfx => by subst e; exact he x y v s1 hx k r hfx) s1 k Q q⟩
theorem en_comp1 {xs : List α} {ys : List β} {t : α → Option Bool} {f : α → Option β} {j : Nat} {n : Str} {py : Pos} (hc : X.calm = true) (hN : X.N.Nodup) (hi : EvI X (.Name n py) iter σ s xs) (ok : BlkOk X.N X.env.scope scope own) (hj : X.N[j]? = some n)
    (hjo : j ∈ own.map (·.2)) (hg : ∀ s0 H0 C cl fp, PG (Blk X scope s0 H0 C cl fp) (.Name n py) (gName j)) (hf : compO t f xs = some ys) (hz : ys.length ≤ sizeLine)
    (ht : ∀ (x : α) (b : Bool) (v : V) (s1 : S), x ∈ xs → Ex s s1 → rep X.K s1.F v x → t x = some b → ∀ s0 H0 C cl fp, EvT (Blk X scope s0 H0 C cl fp) c ((wipe σ (own.map (·.2))).set j (some v)) s1 b)
    (he : ∀ (x : α) (y : β) (v : V) (s1 : S), x ∈ xs → Ex s s1 → rep X.K s1.F v x → t x = some true → f x = some y → ∀ s0 H0 C cl fp, Ev (Blk X scope s0 H0 C cl fp) elt ((wipe σ (own.map (·.2))).set j (some v)) s1 y)
    (hs : ∀ x, foldedSetIterable iter X.env x = pure x := by intro _; rfl) : EvL X elt (.Name n py) iter [c] scope σ s ys :=
  ⟨hc, hN, hs, own, _, _, ok, hg, fun s0 H0 C cl fp => pts_one ⟨fun pins s _ _ _ I h => h s0 H0 C cl fp pins s I⟩, fun s1 k Q q => comp_read (tt := fun σ H Q => ∀ s0 H0 C cl fp, WT (Blk X scope s0 H0 C cl fp) c σ H Q) hc hN hi ok hg tg_n (fun s0 H0 C cl fp => pts_one ⟨fun pins s _ _ _ I h => h s0 H0 C cl fp pins s I⟩) hf hz (fun F x σ2 ⟨v, _, e⟩ => by rw [e, wipe_set hjo]; exact wipe_wipe fun _ z => z)
    (fun x b s1 σ2 Q hx k ⟨v, r, e⟩ hb q => by subst e; intro s0 H0 C cl fp; exact ht x b v s1 hx k r hb s0 H0 C cl fp s1 (Ex.refl _) Q q) (fun x y s1 σ2 hx k ⟨v, r, e⟩ htx hfx => by subst e; exact he x y v s1 hx k r htx hfx) s1 k Q q⟩
end
end Dy

namespace Dy
open PySem PySem.Spec L2
open PyProof.Rows hiding St
open Enc (rep)
open Flat (toV)
open EncA (repA)

abbrev MD (D : Ends) (M : St → S → Prop) : Ends := { D with nx := fun σ H => ∃ s : S, s.H = H ∧ M σ s }
abbrev ND (D : Ends) : Ends := { D with nx := fun _ _ => False }
abbrev LD (D : Ends) (M : St → S → Prop) : Ends := { nx := fun σ H => ∃ s : S, s.H = H ∧ M σ s, rt := D.rt }
abbrev RD (Q : VK) : Ends := { nx := fun _ H' => Q .non H', rt := Q }
section
variable {α β γ δ : Type} [Enc α] [Enc β] [Enc γ] [Enc δ] {X : Cx} {σ : St} {s t : S} {e a b c tg iter : Expr} {es : List Expr} {pos p0 p1 p2 p3 : Pos} {D : Ends} {rest A B : List Stmt}
theorem do_nil (h : D.nx σ s.H) : WSs X [] D σ s.H := ws_of pss_nil h
theorem do_cons {st : Stmt} {ts : TS} (h : PS X st ts) (q : ts { D with nx := fun σ' H' => WSs X rest D σ' H' } σ s.H) : WSs X (st :: rest) D σ s.H := ws_of (pss_cons h pss_ws) q
theorem do_set (i : Nat) {x : α} {n : Str} {py : Pos} (h : Ev X e σ s x) (k : ∀ v s1, Ex s s1 → rep X.K s1.F v x → WSs X rest D (σ.set i (some v)) s1.H) (hN : X.N.Nodup) (hx : Loc X.env.scope n := by first | exact Or.inl rfl | exact Or.inr rfl) (hi : X.N[i]? = some n := by rfl)
    (hs : swapsWith e (some (.Name n py)) pos.line X.env = pure false := by rfl) (hf : X.fn n = true ∨ X.env.scope.names.lookup n = some .local := by first | exact .inl rfl | exact .inr rfl) : WSs X (.Assign [.Name n py] e pos :: rest) D σ s.H :=
  do_cons (ps_set hN hi hx pe_we hs hf) (h s (Ex.refl _) _ fun v s1 k1 r => k v s1 k1 r)
theorem do_setN (i : Nat) {xs : List α} {n : Str} {py : Pos} (h : EvN X e σ s xs) (k : ∀ p s1, Ex s s1 → s.H p = none → Own X.K s1 p xs → WSs X rest D (σ.set i (some (.ref p))) s1.H) (hN : X.N.Nodup) (hx : Loc X.env.scope n := by first | exact Or.inl rfl | exact Or.inr rfl) (hi : X.N[i]? = some n := by rfl)
    (hs : swapsWith e (some (.Name n py)) pos.line X.env = pure false := by rfl) (hf : X.fn n = true ∨ X.env.scope.names.lookup n = some .local := by first | exact .inl rfl | exact .inr rfl) : WSs X (.Assign [.Name n py] e pos :: rest) D σ s.H :=
  do_cons (ps_set hN hi hx pe_we hs hf) (h s (Ex.refl _) _ fun v s1 k1 n1 r => k v s1 k1 n1 r)
theorem do_ret {x : α} (h : Ev X e σ s x) (k : ∀ v s1, Ex s s1 → rep X.K s1.F v x → D.rt v s1.H) : WSs X (.Return (some e) pos :: rest) D σ s.H :=
  do_cons (ps_ret pe_we) (h s (Ex.refl _) _ fun v s1 k1 r => k v s1 k1 r)
theorem do_retN {xs : List α} (h : EvN X e σ s xs) (k : ∀ p s1, Ex s s1 → s.H p = none → Own X.K s1 p xs → D.rt (.ref p) s1.H) : WSs X (.Return (some e) pos :: rest) D σ s.H :=
  do_cons (ps_ret pe_we) (h s (Ex.refl _) _ fun v s1 k1 n1 r => k v s1 k1 n1 r)
theorem do_retO (i : Nat) {p : Addr} {n : Str} (h : σ[i]? = some (some (.ref p))) (k : D.rt (.ref p) s.H) (hN : X.N[i]? = some n := by rfl) (hv : Vis X.env.scope n := by first | exact Or.inl rfl | exact Or.inr (Or.inl rfl) | exact Or.inr (Or.inr rfl)) (hd : (n == ("__debug__" : Str)) = false := by decide)
    (hcd : (n == ("__classdict__" : Str)) = false := by decide) : WSs X (.Return (some (.Name n p0)) pos :: rest) D σ s.H :=
  do_cons (ps_ret (pe_var hN hv hd hcd)) ⟨_, h, k⟩
theorem do_if {x : Bool} (hc : EvT X c σ s x) (M : St → S → Prop) (h1 : x = true → ∀ s1, Ex s s1 → WSs X A (MD D M) σ s1.H) (h2 : x = false → ∀ s1, Ex s s1 → WSs X B (MD D M) σ s1.H)
    (h3 : ∀ σ' s', M σ' s' → WSs X rest D σ' s'.H) : WSs X (.If c A B pos :: rest) D σ s.H :=
  do_cons (ps_if pt_wt pss_ws pss_ws) (hc s (Ex.refl _) _ fun s1 k => by
    cases x with
    | true => exact iteT ((h1 rfl s1 k).imp (fun σ' H' ⟨s', e, m⟩ => e ▸ h3 σ' s' m) (fun _ _ q => q) (fun _ _ q => q) fun _ _ q => q)
    | false => exact iteF ((h2 rfl s1 k).imp (fun σ' H' ⟨s', e, m⟩ => e ▸ h3 σ' s' m) (fun _ _ q => q) (fun _ _ q => q) fun _ _ q => q))
theorem do_ifR {x : Bool} (hc : EvT X c σ s x) (h1 : x = true → ∀ s1, Ex s s1 → WSs X A (ND D) σ s1.H) (h2 : x = false → ∀ s1, Ex s s1 → WSs X rest D σ s1.H) : WSs X (.If c A [] pos :: rest) D σ s.H :=
  do_cons (ps_if pt_wt pss_ws pss_nil) (hc s (Ex.refl _) _ fun s1 k => by
    cases x with
    | true => exact iteT ((h1 rfl s1 k).imp (fun _ _ z => z.elim) (fun _ _ q => q) (fun _ _ q => q) fun _ _ q => q)
    | false => exact iteF (h2 rfl s1 k))
theorem do_ifRR {x : Bool} (hc : EvT X c σ s x) (h1 : x = true → ∀ s1, Ex s s1 → WSs X A (ND D) σ s1.H) (h2 : x = false → ∀ s1, Ex s s1 → WSs X B (ND D) σ s1.H) : WSs X (.If c A B pos :: rest) D σ s.H :=
  do_cons (ps_if pt_wt pss_ws pss_ws) (hc s (Ex.refl _) _ fun s1 k => by
    cases x with
    | true => exact iteT ((h1 rfl s1 k).imp (fun _ _ z => z.elim) (fun _ _ q => q) (fun _ _ q => q) fun _ _ q => q)
    | false => exact iteF ((h2 rfl s1 k).imp (fun _ _ z => z.elim) (fun _ _ q => q) (fun _ _ q => q) fun _ _ q => q))

theorem st_set {l : St} {i : Nat} {v : V} (h : l[i]? = some (some v)) : l[i]? = some (some v) := h
theorem do_append (i : Nat) {p : Addr} {n : Str} {xs : List α} {x : α} (hσ : σ[i]? = some (some (.ref p))) (o : Own X.K s p xs) (he : Ev X e σ s x) (hz : xs.length < sizeLine)
    (k : ∀ s1, Mx (· = p) s s1 → Own X.K s1 p (xs ++ [x]) → WSs X rest D σ s1.H)
    (hN : X.N[i]? = some n := by rfl) (hv : Vis X.env.scope n := by first | exact Or.inl rfl | exact Or.inr (Or.inl rfl) | exact Or.inr (Or.inr rfl)) (hd : (n == ("__debug__" : Str)) = false := by decide) (hcd : (n == ("__classdict__" : Str)) = false := by decide)
    (hbase : attributeBase (.Name n p0) "append" X.env (eval (.Name n p0) X.env) = eval (.Name n p0) X.env := by rfl)
    (hfew : ((backTo p2 (starEach [e] X.env)).all (fun x => !x.1) && (backToKw p2 (keywordEach [] X.env)).all (fun x => x.1.isSome) && decide (([e] : List Expr).length + ([] : List Keyword).length + (if ([] : List Keyword).isEmpty then 0 else 1) < 30)) = true := by rfl)
    (hline : (p1.endLine == p2.line) = true := by rfl) (hs : starEach [e] X.env = (false, eval e X.env) :: starEach [] X.env := by rfl) (hplain : (backTo p2 (starEach [] X.env)).any (·.1) = false := by rfl)
    (hsw : swapsWith (.Call (.Attribute (.Name n p0) "append" p1) [e] [] p2) none p3.line X.env = pure false := by rfl) :
    WSs X (.Expr (.Call (.Attribute (.Name n p0) "append" p1) [e] [] p2) p3 :: rest) D σ s.H :=
  do_cons (ps_expr (pe_bm PySem.F.plainAttrs_list PySem.F.slot_list_append PySem.F.type_list_append mt_append (pe_var hN hv hd hcd) (pa_cons pe_we pa_nil hs) hbase hfew hline hs hplain) hsw) (by
    obtain ⟨h1, vs, h2, h3⟩ := id o
    refine ⟨_, hσ, .inl ⟨rfl, vs, .inl (.inl h2)⟩, he s (Ex.refl _) _ fun v s1 k1 r1 => ?_⟩
    have f1 := k1.n _ _ h2 h1
    have g1 := k1.h _ _ h2
    refine ⟨p, vs, v, rfl, rfl, g1, by rw [h3.len]; exact hz, ?_⟩
    exact k (s1.put p (.lst (vs ++ [v])) f1) (k1.mx.trans (Mx.put f1)) ⟨f1, _, upd_same, (h3.mono k1.f).snoc r1⟩)
theorem do_extend (i : Nat) {p : Addr} {n : Str} {xs ys : List α} (hσ : σ[i]? = some (some (.ref p))) (o : Own X.K s p xs) (he : EvN X e σ s ys) (hz : xs.length + ys.length ≤ sizeLine)
    (k : ∀ s1, Mx (· = p) s s1 → Own X.K s1 p (xs ++ ys) → WSs X rest D σ s1.H)
    (hN : X.N[i]? = some n := by rfl) (hv : Vis X.env.scope n := by first | exact Or.inl rfl | exact Or.inr (Or.inl rfl) | exact Or.inr (Or.inr rfl)) (hd : (n == ("__debug__" : Str)) = false := by decide) (hcd : (n == ("__classdict__" : Str)) = false := by decide)
    (hbase : attributeBase (.Name n p0) "extend" X.env (eval (.Name n p0) X.env) = eval (.Name n p0) X.env := by rfl)
    (hfew : ((backTo p2 (starEach [e] X.env)).all (fun x => !x.1) && (backToKw p2 (keywordEach [] X.env)).all (fun x => x.1.isSome) && decide (([e] : List Expr).length + ([] : List Keyword).length + (if ([] : List Keyword).isEmpty then 0 else 1) < 30)) = true := by rfl)
    (hline : (p1.endLine == p2.line) = true := by rfl) (hs : starEach [e] X.env = (false, eval e X.env) :: starEach [] X.env := by rfl) (hplain : (backTo p2 (starEach [] X.env)).any (·.1) = false := by rfl)
    (hsw : swapsWith (.Call (.Attribute (.Name n p0) "extend" p1) [e] [] p2) none p3.line X.env = pure false := by rfl) :
    WSs X (.Expr (.Call (.Attribute (.Name n p0) "extend" p1) [e] [] p2) p3 :: rest) D σ s.H :=
  do_cons (ps_expr (pe_bm PySem.F.plainAttrs_list PySem.F.slot_list_extend PySem.F.type_list_extend mt_extend (pe_var hN hv hd hcd) (pa_cons pe_we pa_nil hs) hbase hfew hline hs hplain) hsw) (by
    obtain ⟨h1, vs, h2, h3⟩ := id o
    refine ⟨_, hσ, .inl ⟨rfl, vs, .inl (.inl h2)⟩, he s (Ex.refl _) _ fun q s1 k1 n1 o1 => ?_⟩
    obtain ⟨_, ws, h4, h5⟩ := o1
    have f1 := k1.n _ _ h2 h1
    have g1 := k1.h _ _ h2
    refine ⟨p, q, vs, ws, rfl, rfl, g1, h4, by rw [h3.len, h5.len]; exact hz, ?_⟩
    exact k (s1.put p (.lst (vs ++ ws)) f1) (k1.mx.trans (Mx.put f1)) ⟨f1, _, upd_same, (h3.mono k1.f).app h5⟩)
theorem do_setItem (i : Nat) {p : Addr} {n : Str} {xs : List α} {x : α} {z : Int} {j : Nat} (hσ : σ[i]? = some (some (.ref p))) (o : Own X.K s p xs) (he : Ev X e σ s x) (hi : Ev X a σ s z) (hj : ixN xs.length z = some j)
    (k : ∀ s1, Mx (· = p) s s1 → Own X.K s1 p (xs.set j x) → WSs X rest D σ s1.H)
    (hN : X.N[i]? = some n := by rfl) (hv : Vis X.env.scope n := by first | exact Or.inl rfl | exact Or.inr (Or.inl rfl) | exact Or.inr (Or.inr rfl)) (hd : (n == ("__debug__" : Str)) = false := by decide) (hcd : (n == ("__classdict__" : Str)) = false := by decide)
    (ha : ∀ v, assign (.Subscript (.Name n p0) a p1) X.env v = (do
      let ov ← holding [v] (eval (.Name n p0) X.env)
      let iv ← holding [v, ov] (eval a X.env)
      standAt p1
      holding [v, ov, iv] (setItem ov iv v)
      release [v, ov, iv] []) := by intro _; rfl)
    (hs : swapsWithSole [.Subscript (.Name n p0) a p1] e pos.line X.env = pure false := by rfl) (hw : swappedStores [.Subscript (.Name n p0) a p1] e X.env = pure none := by rfl)
    (h1 : (assignEach [.Subscript (.Name n p0) a p1] X.env).map (·.2) = [assign (.Subscript (.Name n p0) a p1) X.env] := by rfl) :
    WSs X (.Assign [.Subscript (.Name n p0) a p1] e pos :: rest) D σ s.H :=
  do_cons (ps_asg pe_we (pg_sub (pe_var hN hv hd hcd) pe_we set_list ha) hs hw h1) (by
    obtain ⟨f0, vs, h2, h3⟩ := id o
    refine he s (Ex.refl _) _ fun v s1 k1 r1 => ⟨_, hσ, hi s1 k1 _ fun u s2 k2 r2 => ?_⟩
    have k3 := k1.trans k2
    have f1 := k3.n _ _ h2 f0
    have g1 := k3.h _ _ h2
    refine ⟨p, vs, z, j, rfl, r2, g1, by rw [h3.len]; exact hj, ?_⟩
    exact k (s2.put p (.lst (vs.set j v)) f1) (k3.mx.trans (Mx.put f1)) ⟨f1, _, upd_same, (h3.mono k3.f).set j (Enc.mono k2.f r1)⟩)
theorem do_frz {p : Addr} {xs : List α} {ss : List Stmt} (o : Own X.K s p xs) (k : ∀ s' : S, s'.H = s.H → Fle s.F s'.F → (∀ q, q ≠ p → s'.F q = s.F q) → rep X.K s'.F (.ref p) xs → WSs X ss D σ s'.H) : WSs X ss D σ s.H := by
  obtain ⟨s', h1, h2, h3, h4⟩ := o.frz
  have := k s' h1 h2 h3 h4
  rw [h1] at this
  exact this

theorem foldO_drop {τ υ : Type} {f : υ → τ → Option υ} {b b1 : υ} {xs : List τ} {i : Nat} (hi : i < xs.length) (h : foldO f b (xs.drop i) = some b1) : ∃ b', f b xs[i] = some b' ∧ foldO f b' (xs.drop (i + 1)) = some b1 := by
  rw [List.drop_eq_getElem_cons hi] at h
  exact bndE h
theorem do_for_core {τ : Type} [Enc τ] {xs : List τ} {body : List Stmt} {g : TG} {B : Hp → τ → St → St → Prop} (hp : PassesOwn (model X.prog X.w) X.A X.env X.xe) (hc : X.calm = true) (hi : EvI X tg iter σ s xs) (hg : PG X tg g) (T : Tgt (α := τ) X.K g B)
    (R : Nat → St → S → Prop) (h0 : ∀ s1, Ex s s1 → R 0 σ s1)
    (hb : ∀ s1, Ex s s1 → ∀ (i : Nat) (x : τ) (σ' σ2 : St) (t t' : S), xs[i]? = some x → Fle s1.F t.F → R i σ' t → Ex t t' → B t'.F x σ' σ2 → WSs X body (LD D fun σ s => Fle t'.F s.F ∧ R (i + 1) σ s) σ2 t'.H)
    (hd : ∀ s1, Ex s s1 → ∀ σ' t, Fle s1.F t.F → R xs.length σ' t → WSs X rest D σ' t.H)
    (hs : ∀ x, foldedSetIterable iter X.env x = pure x := by intro _; rfl) : WSs X (.For tg iter body [] pos :: rest) D σ s.H :=
  do_cons (ps_for hp hc pi_wi hg pss_ws hs) (hi s (Ex.refl _) _ fun J s1 k1 W => by
    refine ⟨fun i m σ' H' => ∃ t : S, t.H = H' ∧ m = xs.length - i ∧ i ≤ xs.length ∧ Fle s1.F t.F ∧ R i σ' t, ⟨xs.length, s1, rfl, rfl, Nat.zero_le _, Fle.refl _, h0 s1 k1⟩, ?_⟩
    rintro i m σ' H' ⟨t, rfl, rfl, hle, f, r⟩
    by_cases hlt : i < xs.length
    · right
      obtain ⟨g1, g2⟩ := W.go i t xs[i] f (List.getElem?_eq_getElem hlt)
      refine ⟨g1, fun σ' H' => ∃ u : S, u.H = H' ∧ Fle s1.F u.F ∧ R (i + 1) σ' u, fun σ' H' ⟨u, e1, f1, r1⟩ => ⟨xs.length - (i + 1), by omega, u, e1, rfl, hlt, f1, r1⟩, fun v H' hy => ?_⟩
      obtain ⟨t', rfl, kt, rv⟩ := g2 v H' hy
      refine T.run t' v xs[i] _ _ rv fun σ2 hB => ?_
      have := hb s1 k1 i xs[i] σ' σ2 t t' (List.getElem?_eq_getElem hlt) f r kt hB
      exact this.imp (fun σ3 H3 ⟨u, e1, f1, r1⟩ => ⟨u, e1, (f.trans kt.f).trans f1, r1⟩) (fun _ _ q => q) (fun _ _ q => q.elim) (fun _ _ q => q.elim)
    · left
      have e : i = xs.length := by omega
      subst e
      exact ⟨W.stop _ t f (Nat.le_refl _), hd s1 k1 σ' t f r⟩)
theorem do_forO {τ υ : Type} [Enc τ] {xs : List τ} {f : υ → τ → Option υ} {b0 b1 : υ} {body : List Stmt} {g : TG} {B : Hp → τ → St → St → Prop} (hp : PassesOwn (model X.prog X.w) X.A X.env X.xe) (hc : X.calm = true) (hi : EvI X tg iter σ s xs) (hg : PG X tg g) (T : Tgt (α := τ) X.K g B)
    (hf : foldO f b0 xs = some b1) (R : υ → St → S → Prop) (h0 : ∀ s1, Ex s s1 → R b0 σ s1)
    (hb : ∀ s1, Ex s s1 → ∀ (x : τ) (b b' : υ) (σ' σ2 : St) (t t' : S), x ∈ xs → f b x = some b' → Fle s1.F t.F → R b σ' t → Ex t t' → B t'.F x σ' σ2 → WSs X body (LD D fun σ s => Fle t'.F s.F ∧ R b' σ s) σ2 t'.H)
    (hd : ∀ s1, Ex s s1 → ∀ σ' t, Fle s1.F t.F → R b1 σ' t → WSs X rest D σ' t.H)
    (hs : ∀ x, foldedSetIterable iter X.env x = pure x := by intro _; rfl) : WSs X (.For tg iter body [] pos :: rest) D σ s.H :=
  do_for_core hp hc hi hg T (fun i σ' t => ∃ b, foldO f b (xs.drop i) = some b1 ∧ R b σ' t) (fun s1 k => ⟨b0, hf, h0 s1 k⟩)
    (fun s1 k i x σ' σ2 t t' hx fl ⟨b, h1, h2⟩ kt hB => by
      obtain ⟨hlt, rfl⟩ := List.getElem?_eq_some_iff.mp hx
      obtain ⟨b', h3, h4⟩ := foldO_drop hlt h1
      exact (hb s1 k xs[i] b b' σ' σ2 t t' (List.getElem_mem hlt) h3 fl h2 kt hB).imp (fun σ3 H3 ⟨u, e1, f1, r1⟩ => ⟨u, e1, f1, b', h4, r1⟩) (fun _ _ q => q) (fun _ _ q => q.elim) (fun _ _ q => q.elim))
    (fun s1 k σ' t fl ⟨b, h1, h2⟩ => by
      rw [List.drop_length] at h1
      cases h1
      exact hd s1 k σ' t fl h2) hs
theorem foldF_drop {τ υ ρ : Type} {f : υ → τ → Option (Fl υ ρ)} {b : υ} {o : Fl υ ρ} {xs : List τ} {i : Nat} (hi : i < xs.length) (h : foldF f b (xs.drop i) = some o) : ∃ q, f b xs[i] = some q ∧ (∀ b', q = .nx b' → foldF f b' (xs.drop (i + 1)) = some o) ∧ ∀ r, q = .rt r → o = .rt r := by
  rw [List.drop_eq_getElem_cons hi] at h
  obtain ⟨q, h1, h2⟩ := bndE h
  refine ⟨q, h1, fun b' e => by subst e; exact h2, fun r e => by subst e; exact (Option.some.inj h2).symm⟩
theorem do_forF {τ υ ρ : Type} [Enc τ] {xs : List τ} {f : υ → τ → Option (Fl υ ρ)} {b0 : υ} {o : Fl υ ρ} {body : List Stmt} {g : TG} {B : Hp → τ → St → St → Prop} (hp : PassesOwn (model X.prog X.w) X.A X.env X.xe) (hc : X.calm = true) (hi : EvI X tg iter σ s xs) (hg : PG X tg g) (T : Tgt (α := τ) X.K g B)
    (hf : foldF f b0 xs = some o) (R : υ → St → S → Prop) (h0 : ∀ s1, Ex s s1 → R b0 σ s1)
    (hb : ∀ s1, Ex s s1 → ∀ (x : τ) (b : υ) (q : Fl υ ρ) (σ' σ2 : St) (t t' : S), x ∈ xs → f b x = some q → (∀ r, q = .rt r → o = .rt r) → Fle s1.F t.F → R b σ' t → Ex t t' → B t'.F x σ' σ2 → WSs X body (LD D fun σ s => ∃ b', q = .nx b' ∧ Fle t'.F s.F ∧ R b' σ s) σ2 t'.H)
    (hd : ∀ s1, Ex s s1 → ∀ b1 σ' t, o = .nx b1 → Fle s1.F t.F → R b1 σ' t → WSs X rest D σ' t.H)
    (hs : ∀ x, foldedSetIterable iter X.env x = pure x := by intro _; rfl) : WSs X (.For tg iter body [] pos :: rest) D σ s.H :=
  do_for_core hp hc hi hg T (fun i σ' t => ∃ b, foldF f b (xs.drop i) = some o ∧ R b σ' t) (fun s1 k => ⟨b0, hf, h0 s1 k⟩)
    (fun s1 k i x σ' σ2 t t' hx fl ⟨b, h1, h2⟩ kt hB => by
      obtain ⟨hlt, rfl⟩ := List.getElem?_eq_some_iff.mp hx
      obtain ⟨q, h3, h4, h5⟩ := foldF_drop hlt h1
      exact (hb s1 k xs[i] b q σ' σ2 t t' (List.getElem_mem hlt) h3 h5 fl h2 kt hB).imp (fun σ3 H3 ⟨u, e1, b', e2, f1, r1⟩ => ⟨u, e1, f1, b', h4 b' e2, r1⟩) (fun _ _ q => q) (fun _ _ q => q.elim) (fun _ _ q => q.elim))
    (fun s1 k σ' t fl ⟨b, h1, h2⟩ => by
      rw [List.drop_length] at h1
      cases h1
      exact hd s1 k b σ' t rfl fl h2) hs
theorem do_whileO {υ : Type} {cf : υ → Option Bool} {f : υ → Option υ} {n : Nat} {b0 b1 : υ} {body : List Stmt} (hp : PassesOwn (model X.prog X.w) X.A X.env X.xe) (hf : whileO cf f n b0 = some b1) (R : υ → St → S → Prop) (h0 : R b0 σ s)
    (hc : ∀ (b : υ) (x : Bool) (σ' : St) (t : S), cf b = some x → Fle s.F t.F → R b σ' t → EvT X c σ' t x)
    (hb : ∀ (b b' : υ) (σ' : St) (t t' : S), cf b = some true → f b = some b' → Fle s.F t.F → R b σ' t → Ex t t' → WSs X body (LD D fun σ s => Fle t'.F s.F ∧ R b' σ s) σ' t'.H)
    (hd : ∀ σ' t t', cf b1 = some false → Fle s.F t.F → R b1 σ' t → Ex t t' → WSs X rest D σ' t'.H) : WSs X (.While c body [] pos :: rest) D σ s.H :=
  do_cons (ps_while hp pt_wt pss_ws) (by
    refine ⟨fun m σ' H' => ∃ (t : S) (b : υ), t.H = H' ∧ Fle s.F t.F ∧ whileO cf f m b = some b1 ∧ R b σ' t, ⟨n, s, b0, rfl, Fle.refl _, hf, h0⟩, ?_⟩
    rintro m σ' H' ⟨t, b, rfl, fl, h1, h2⟩
    cases m with
    | zero => cases h1
    | succ m =>
      obtain ⟨x, h3, h4⟩ := bndE h1
      refine hc b x σ' t h3 fl h2 t (Ex.refl _) _ fun t' kt => ?_
      cases x with
      | true =>
        refine iteT ?_
        rw [if_pos rfl] at h4
        obtain ⟨b', h5, h6⟩ := bndE h4
        refine ⟨fun σ3 H3 => ∃ u : S, u.H = H3 ∧ Fle s.F u.F ∧ R b' σ3 u, fun σ3 H3 ⟨u, e1, f1, r1⟩ => ⟨m, Nat.lt_succ_self _, u, b', e1, f1, h6, r1⟩, ?_⟩
        exact (hb b b' σ' t t' h3 h5 fl h2 kt).imp (fun σ3 H3 ⟨u, e1, f1, r1⟩ => ⟨u, e1, (fl.trans kt.f).trans f1, r1⟩) (fun _ _ q => q) (fun _ _ q => q.elim) (fun _ _ q => q.elim)
      | false =>
        refine iteF ?_
        rw [if_neg Bool.false_ne_true] at h4
        cases h4
        exact hd σ' t t' h3 fl h2 kt)
end
end Dy

namespace Dy
open PySem PySem.Spec L2
open PyProof.Rows hiding St
open Enc (rep)
open Flat (toV)
open EncA (repA)

section
variable {P : Program} {w : World} {K : PySem.W.Frag} {mg : Str → Option Value} {base : Heap}
abbrev FunP (K : PySem.W.Frag) (x : Str) (st : Stmt) (f : Addr) (fd : FuncData) : Prop := FunD K x x (defArgs st) (defBody st) (defScope st) [] [] f fd
theorem mk_fn {A ρ : Type} [EncA A] [Enc ρ] {m : A → Option ρ} {x : Str} {st : Stmt} {f : Addr} {fd : FuncData} {N ps : List Str} {k : Nat} (F : FunP K x st f fd) (Sc : FnScope N ps (defScope st))
    (hl : ∀ (F : Hp) (vs : List V) (a : A), repA K F vs a → vs.length = ps.length)
    (body : ∀ (cdv : Value) (A' : Around) (outer : List Env) (s0 : Shared) (H0 : Hp) (E0 : XK), Room k (A'.deeper (envOfC x (defScope st) s0.heap.objs.size f cdv)) → ∀ (s : S) (vs : List V) (a : A) (r : ρ) (Q : VK), repA K s.F vs a → m a = some r →
      (∀ v s', Ex s s' → rep K s'.F v r → Q v s'.H) → WSs (cxOf CX0 P w K mg base N x (defScope st) f cdv A' outer s0 H0 E0).nox (defBody st) (RD Q) (start N vs) s.H) : FnOk P w K mg base CX0 (k + 1) f fd ps (sp K m) :=
  F.ok Sc (fun vs H Q E ⟨s, a, r, _, h, _⟩ => hl s.F vs a h) (fun cdv A' outer s0 H0 vs Q E hr ⟨s, a, r, e, h1, h2, h3⟩ => ⟨_, pss_ws.nox, by
    have := body cdv A' outer s0 H0 E hr s vs a r Q h1 h2 h3
    rw [e] at this
    exact this⟩)
theorem mk_cal {A ρ : Type} [EncA A] [Enc ρ] {m : A → Option ρ} {x : Str} {st : Stmt} {f : Addr} {fd : FuncData} {N ps : List Str} {k : Nat} (F : FunP K x st f fd) (hm : mg x = some (.ref f)) (b : Binds K fd ps []) (Sc : FnScope N ps (defScope st))
    (hl : ∀ (F : Hp) (vs : List V) (a : A), repA K F vs a → vs.length = ps.length)
    (body : ∀ (cdv : Value) (A' : Around) (outer : List Env) (s0 : Shared) (H0 : Hp) (E0 : XK), Room k (A'.deeper (envOfC x (defScope st) s0.heap.objs.size f cdv)) → ∀ (s : S) (vs : List V) (a : A) (r : ρ) (Q : VK), repA K s.F vs a → m a = some r →
      (∀ v s', Ex s s' → rep K s'.F v r → Q v s'.H) → WSs (cxOf CX0 P w K mg base N x (defScope st) f cdv A' outer s0 H0 E0).nox (defBody st) (RD Q) (start N vs) s.H) : Cal P w K mg base CX0 (k + 1) x (sp K m) :=
  ⟨f, fd, ps, F.ok Sc (fun vs H Q E ⟨s, a, r, _, h, _⟩ => hl s.F vs a h) (fun cdv A' outer s0 H0 vs Q E hr ⟨s, a, r, e, h1, h2, h3⟩ => ⟨_, pss_ws.nox, by
    have := body cdv A' outer s0 H0 E hr s vs a r Q h1 h2 h3
    rw [e] at this
    exact this⟩), hm, F.kp, b⟩
theorem mk_calN {A ρ : Type} [EncA A] [Enc ρ] {m : A → Option (List ρ)} {x : Str} {st : Stmt} {f : Addr} {fd : FuncData} {N ps : List Str} {k : Nat} (F : FunP K x st f fd) (hm : mg x = some (.ref f)) (b : Binds K fd ps []) (Sc : FnScope N ps (defScope st))
    (hl : ∀ (F : Hp) (vs : List V) (a : A), repA K F vs a → vs.length = ps.length)
    (body : ∀ (cdv : Value) (A' : Around) (outer : List Env) (s0 : Shared) (H0 : Hp) (E0 : XK), Room k (A'.deeper (envOfC x (defScope st) s0.heap.objs.size f cdv)) → ∀ (s : S) (vs : List V) (a : A) (r : List ρ) (Q : VK), repA K s.F vs a → m a = some r →
      (∀ p s', Ex s s' → s.H p = none → Own K s' p r → Q (.ref p) s'.H) → WSs (cxOf CX0 P w K mg base N x (defScope st) f cdv A' outer s0 H0 E0).nox (defBody st) (RD Q) (start N vs) s.H) : Cal P w K mg base CX0 (k + 1) x (spN K m) :=
  ⟨f, fd, ps, F.ok Sc (fun vs H Q E ⟨s, a, r, _, h, _⟩ => hl s.F vs a h) (fun cdv A' outer s0 H0 vs Q E hr ⟨s, a, r, e, h1, h2, h3⟩ => ⟨_, pss_ws.nox, by
    have := body cdv A' outer s0 H0 E hr s vs a r Q h1 h2 h3
    rw [e] at this
    exact this⟩), hm, F.kp, b⟩
theorem len1 {α : Type} [Enc α] (F : Hp) (vs : List V) (a : α × Unit) (h : repA K F vs a) : vs.length = 1 := by obtain ⟨_, _, rfl, _, rfl⟩ := h; rfl
theorem len2 {α β : Type} [Enc α] [Enc β] (F : Hp) (vs : List V) (a : α × β × Unit) (h : repA K F vs a) : vs.length = 2 := by obtain ⟨_, _, rfl, _, _, _, rfl, _, rfl⟩ := h; rfl
theorem len3 {α β γ : Type} [Enc α] [Enc β] [Enc γ] (F : Hp) (vs : List V) (a : α × β × γ × Unit) (h : repA K F vs a) : vs.length = 3 := by obtain ⟨_, _, rfl, _, _, _, rfl, _, _, _, rfl, _, rfl⟩ := h; rfl
theorem len4 {α β γ δ : Type} [Enc α] [Enc β] [Enc γ] [Enc δ] (F : Hp) (vs : List V) (a : α × β × γ × δ × Unit) (h : repA K F vs a) : vs.length = 4 := by obtain ⟨_, _, rfl, _, _, _, rfl, _, _, _, rfl, _, _, _, rfl, _, rfl⟩ := h; rfl
theorem len5 {α β γ δ ε : Type} [Enc α] [Enc β] [Enc γ] [Enc δ] [Enc ε] (F : Hp) (vs : List V) (a : α × β × γ × δ × ε × Unit) (h : repA K F vs a) : vs.length = 5 := by obtain ⟨_, _, rfl, _, _, _, rfl, _, _, _, rfl, _, _, _, rfl, _, _, _, rfl, _, rfl⟩ := h; rfl
theorem len6 {α β γ δ ε ζ : Type} [Enc α] [Enc β] [Enc γ] [Enc δ] [Enc ε] [Enc ζ] (F : Hp) (vs : List V) (a : α × β × γ × δ × ε × ζ × Unit) (h : repA K F vs a) : vs.length = 6 := by obtain ⟨_, _, rfl, _, _, _, rfl, _, _, _, rfl, _, _, _, rfl, _, _, _, rfl, _, _, _, rfl, _, rfl⟩ := h; rfl
end

class Ty (α : Type) extends Enc α where
  ty : α → String
  is : ∀ {K : PySem.W.Frag} {F H : Hp} {v : V} {x : α}, rep K F v x → Fle F H → TyX K H v (.type (ty x))
theorem sql_ty {K : PySem.W.Frag} {H : Hp} {p : Addr} {vs : List V} (h : SqL K H p vs) : TyX K H (.ref p) (.type "list") := by
  rcases h with (h | ⟨o, h⟩) | ⟨o, its, n, h, hc, _⟩
  · exact .base (.lst h)
  · exact .base (.frz h)
  · exact .kList h hc
theorem sqt_ty {K : PySem.W.Frag} {H : Hp} {p : Addr} {vs : List V} (h : SqT K H p vs) : TyX K H (.ref p) (.type "tuple") := by
  rcases h with (h | ⟨o, h⟩) | ⟨o, its, n, h, hc, _⟩
  · exact .base (.tup h)
  · exact .fTuple h
  · exact .kTuple h hc
instance : Ty Int := ⟨fun _ => "int", fun {K F H v x} h _ => by rw [show v = V.int x from h]; exact .base (.int _)⟩
instance : Ty Bool := ⟨fun _ => "bool", fun {K F H v x} h _ => by rw [show v = V.bl x from h]; exact .base (.bl _)⟩
instance : Ty Str := ⟨fun _ => "str", fun {K F H v x} h _ => by rw [show v = V.str x from h]; exact .base (.str _)⟩
instance {α : Type} [Ty α] : Ty (Option α) := ⟨fun x => match x with | none => "NoneType" | some y => Ty.ty y, fun {K F H v x} h f => by
  cases x with
  | none => rw [show v = V.non from h]; exact .base .non
  | some y => exact Ty.is (α := α) h f⟩
instance {α : Type} [Enc α] : Ty (List α) := ⟨fun _ => "list", fun h f => by
  obtain ⟨p, vs, rfl, h1, _⟩ := h
  exact sql_ty (sql_mono f h1)⟩
instance {α : Type} [Enc α] : Ty (Tu α) := ⟨fun _ => "tuple", fun h f => by
  obtain ⟨p, vs, rfl, h1, _⟩ := h
  exact sqt_ty (sqt_mono f h1)⟩
instance {α β : Type} [Enc α] [Enc β] : Ty (α × β) := ⟨fun _ => "tuple", fun h f => by
  obtain ⟨p, v1, v2, rfl, h1, _⟩ := h
  exact sqt_ty (sqt_mono f h1)⟩
instance {α : Type} [Enc α] : Ty (T1 α) := ⟨fun _ => "tuple", fun h f => by
  obtain ⟨p, v1, rfl, h1, _⟩ := h
  exact sqt_ty (sqt_mono f h1)⟩
instance {α β γ : Type} [Enc α] [Enc β] [Enc γ] : Ty (T3 α β γ) := ⟨fun _ => "tuple", fun h f => by
  obtain ⟨p, v1, v2, v3, rfl, h1, _⟩ := h
  exact sqt_ty (sqt_mono f h1)⟩
instance {α β γ δ : Type} [Enc α] [Enc β] [Enc γ] [Enc δ] : Ty (T4 α β γ δ) := ⟨fun _ => "tuple", fun h f => by
  obtain ⟨p, v1, v2, v3, v4, rfl, h1, _⟩ := h
  exact sqt_ty (sqt_mono f h1)⟩
instance {α β γ δ ε : Type} [Enc α] [Enc β] [Enc γ] [Enc δ] [Enc ε] : Ty (T5 α β γ δ ε) := ⟨fun _ => "tuple", fun h f => by
  obtain ⟨p, v1, v2, v3, v4, v5, rfl, h1, _⟩ := h
  exact sqt_ty (sqt_mono f h1)⟩
section
variable {α β : Type} {X : Cx} {σ : St} {s : S} {a b : Expr} {pos p0 p1 p2 p3 : Pos}
theorem ev_isi [Ty α] {x : α} {n : Str} {T : String} {r : Bool} (hm : X.mg "isinstance" = none) (hn : X.mg n = none) (hv : bootBuiltins n = some (.type T)) (ha : Ev X a σ s x) (h : kitB (Ty.ty x) T = some r)
    (hg : Gl X "isinstance" := by rfl) (hgn : Gl X n := by rfl) (he : starEach [a, .Name n p1] X.env = (false, eval a X.env) :: starEach [.Name n p1] X.env := by rfl) (he2 : starEach [.Name n p1] X.env = (false, eval (.Name n p1) X.env) :: starEach [] X.env := by rfl) (hpl : (backTo pos (starEach [.Name n p1] X.env)).any (·.1) = false := by rfl)
    (hnn : n ≠ "__name__" := by decide) (hnd : (n == ("__debug__" : Str)) = false := by decide) :
    Ev X (.Call (.Name "isinstance" p0) [a, .Name n p1] [] pos) σ s r := fun s1 k Q q =>
  we_of (pe_callB call_isi hg hm (by decide +kernel) (pa_cons pe_we (pa_cons (pe_bltn (v := .ty T) hgn hn hv rfl hnn hnd) pa_nil he2) he) (he := he) (hpl := hpl)) (ha s1 k _ fun v s2 k2 r2 =>
    ⟨v, .ty T, .type (Ty.ty x), .type T, r, rfl, .ty T, Ty.is r2 s2.sub, kit_ty h, q _ s2 k2 rfl⟩)

class EqD (α : Type) extends Enc α where
  toD : α → PyData
  dp : ∀ {K : PySem.W.Frag} {F H : Hp} {v : V} {x : α}, rep K F v x → Fle F H → Dp K H v (toD x)
  eqv : ∀ x y : α, PyData.eqv (toD x) (toD y) = true ↔ x = y
def DpR {α : Type} [EqD α] {K : PySem.W.Frag} {F H : Hp} (f : Fle F H) : ∀ {vs : List V} {xs : List α}, Reps K F vs xs → DpAll K H vs (xs.map EqD.toD)
  | [], [], _ => .nil
  | _ :: _, _ :: _, ⟨h, t⟩ => .cons (EqD.dp h f) (DpR f t)
  | [], _ :: _, h => h.elim
  | _ :: _, [], h => h.elim
theorem eqv_all {α : Type} [EqD α] : ∀ xs ys : List α, PyData.eqvAll (xs.map EqD.toD) (ys.map EqD.toD) = true ↔ xs = ys
  | [], [] => by simp [PyData.eqvAll]
  | [], _ :: _ => by simp [PyData.eqvAll]
  | _ :: _, [] => by simp [PyData.eqvAll]
  | x :: xs, y :: ys => by
    show (PyData.eqv (EqD.toD x) (EqD.toD y) && PyData.eqvAll (xs.map EqD.toD) (ys.map EqD.toD)) = true ↔ _
    rw [Bool.and_eq_true, EqD.eqv, eqv_all xs ys]
    simp
instance : EqD Int := ⟨PyData.int, fun {K F H v x} h _ => by rw [show v = V.int x from h]; exact .int _, fun x y => by show (x == y) = true ↔ _; simp⟩
instance : EqD Bool := ⟨PyData.bool, fun {K F H v x} h _ => by rw [show v = V.bl x from h]; exact .bl _, fun x y => by show (x == y) = true ↔ _; simp⟩
instance : EqD Str := ⟨PyData.str, fun {K F H v x} h _ => by rw [show v = V.str x from h]; exact .str _, fun x y => by show (x == y) = true ↔ _; simp⟩
instance : EqD (Option Int) := ⟨fun x => match x with | none => .none | some i => .int i, fun {K F H v x} h _ => by
  cases x with
  | none => rw [show v = V.non from h]; exact .non
  | some i => rw [show v = V.int i from h]; exact .int _, fun x y => by cases x <;> cases y <;> simp [PyData.eqv]⟩
instance : EqD (Option Str) := ⟨fun x => match x with | none => .none | some i => .str i, fun {K F H v x} h _ => by
  cases x with
  | none => rw [show v = V.non from h]; exact .non
  | some i => rw [show v = V.str i from h]; exact .str _, fun x y => by cases x <;> cases y <;> simp [PyData.eqv]⟩
instance {α : Type} [EqD α] : EqD (List α) := ⟨fun xs => .list (xs.map EqD.toD), fun h f => by
  obtain ⟨p, vs, rfl, h1, h2⟩ := h
  exact .lst (sql_mono f h1) (DpR f h2), fun x y => eqv_all x y⟩
instance {α : Type} [EqD α] : EqD (Tu α) := ⟨fun xs => .tuple (xs.l.map EqD.toD), fun h f => by
  obtain ⟨p, vs, rfl, h1, h2⟩ := h
  exact .tup (sqt_mono f h1) (DpR f h2), fun x y => by
    obtain ⟨x⟩ := x
    obtain ⟨y⟩ := y
    show PyData.eqvAll _ _ = true ↔ _
    rw [eqv_all]; simp⟩
instance {α β : Type} [EqD α] [EqD β] : EqD (α × β) := ⟨fun x => .tuple [EqD.toD x.1, EqD.toD x.2], fun h f => by
  obtain ⟨p, v1, v2, rfl, h0, h1, h2⟩ := h
  exact .tup (sqt_mono f h0) (.cons (EqD.dp h1 f) (.cons (EqD.dp h2 f) .nil)), fun x y => by
    obtain ⟨x1, x2⟩ := x
    obtain ⟨y1, y2⟩ := y
    show (PyData.eqv _ _ && (PyData.eqv _ _ && true)) = true ↔ _
    rw [Bool.and_eq_true, Bool.and_eq_true, EqD.eqv, EqD.eqv]; simp⟩
instance {α β γ : Type} [EqD α] [EqD β] [EqD γ] : EqD (T3 α β γ) := ⟨fun x => .tuple [EqD.toD x.a, EqD.toD x.b, EqD.toD x.c], fun h f => by
  obtain ⟨p, v1, v2, v3, rfl, h0, h1, h2, h3⟩ := h
  exact .tup (sqt_mono f h0) (.cons (EqD.dp h1 f) (.cons (EqD.dp h2 f) (.cons (EqD.dp h3 f) .nil))), fun x y => by
    obtain ⟨x1, x2, x3⟩ := x
    obtain ⟨y1, y2, y3⟩ := y
    show (PyData.eqv _ _ && (PyData.eqv _ _ && (PyData.eqv _ _ && true))) = true ↔ _
    rw [Bool.and_eq_true, Bool.and_eq_true, Bool.and_eq_true, EqD.eqv, EqD.eqv, EqD.eqv]; simp⟩
instance {α : Type} [EqD α] : EqD (T1 α) := ⟨fun x => .tuple [EqD.toD x.a], fun h f => by
  obtain ⟨p, v1, rfl, h0, h1⟩ := h
  exact .tup (sqt_mono f h0) (.cons (EqD.dp h1 f) .nil), fun x y => by
    obtain ⟨x1⟩ := x
    obtain ⟨y1⟩ := y
    show (PyData.eqv _ _ && true) = true ↔ _
    rw [Bool.and_eq_true, EqD.eqv]; simp⟩
def shp {α : Type} [EqD α] (x : α) : Prop := SeqAt.shaped (EqD.toD x) = true
theorem eqv_dec {α : Type} [EqD α] [DecidableEq α] (x y : α) : PyData.eqv (EqD.toD x) (EqD.toD y) = decide (x = y) := by
  rw [Bool.eq_iff_iff, EqD.eqv, decide_eq_true_eq]
theorem repR_d {α : Type} [EqD α] {K : PySem.W.Frag} {v : V} {xs : List α} (h : RepR K s v xs) : Dp K s.H v (EqD.toD xs) := by
  obtain ⟨p, vs, rfl, h1, h2⟩ := h
  exact .lst h1 (DpR s.sub h2)
theorem hu64 {j : Nat} (hr : Room j X.A) : X.A.units + 64 < cLine := by
  have := hr.un
  omega
theorem eb_eqD [EqD α] [DecidableEq α] {x y : α} {j : Nat} (hr : Room j X.A) (ha : Ev X a σ s x) (hb : Ev X b σ s y) (h1 : shp x) (h2 : shp y) : EvB X (.Compare a [.Eq] [b] pos) σ s (decide (x = y)) :=
  eb_cmp (op_eqD (hu64 hr)) ha hb (fun v u s2 hv hu Q q => ⟨_, _, EqD.dp hv s2.sub, EqD.dp hu s2.sub, h1, h2, by rw [eqv_dec]; exact q⟩) (nomark _)
theorem eb_neD [EqD α] [DecidableEq α] {x y : α} {j : Nat} (hr : Room j X.A) (ha : Ev X a σ s x) (hb : Ev X b σ s y) (h1 : shp x) (h2 : shp y) : EvB X (.Compare a [.NotEq] [b] pos) σ s (!decide (x = y)) :=
  eb_cmp (op_neD (hu64 hr)) ha hb (fun v u s2 hv hu Q q => ⟨_, _, EqD.dp hv s2.sub, EqD.dp hu s2.sub, h1, h2, by rw [eqv_dec]; exact q⟩) (nomark _)
theorem eb_eqL [EqD α] [DecidableEq α] {x y : List α} {j : Nat} (hr : Room j X.A) (ha : EvR X a σ s x) (hb : EvR X b σ s y) (h1 : shp x) (h2 : shp y) : EvB X (.Compare a [.Eq] [b] pos) σ s (decide (x = y)) :=
  eb_cmpRR (op_eqD (hu64 hr)) ha hb (fun v u s2 hv hu Q q => ⟨_, _, repR_d hv, repR_d hu, h1, h2, by rw [eqv_dec]; exact q⟩) (nomark _)
theorem eb_neL [EqD α] [DecidableEq α] {x y : List α} {j : Nat} (hr : Room j X.A) (ha : EvR X a σ s x) (hb : EvR X b σ s y) (h1 : shp x) (h2 : shp y) : EvB X (.Compare a [.NotEq] [b] pos) σ s (!decide (x = y)) :=
  eb_cmpRR (op_neD (hu64 hr)) ha hb (fun v u s2 hv hu Q q => ⟨_, _, repR_d hv, repR_d hu, h1, h2, by rw [eqv_dec]; exact q⟩) (nomark _)
end

class Shp (α : Type) (n : outParam Nat) extends EqD α where
  ok : ∀ x : α, PyData.canLay0 (EqD.toD x) = true ∧ PyData.depth (EqD.toD x) ≤ n
theorem shp_all {α : Type} {n : Nat} [Shp α n] : ∀ xs : List α, PyData.canLayAll0 (xs.map EqD.toD) = true ∧ PyData.depthAll (xs.map EqD.toD) ≤ n
  | [] => ⟨by simp [PyData.canLayAll0], by simp [PyData.depthAll]⟩
  | x :: xs => by
    obtain ⟨h1, h2⟩ := shp_all xs
    obtain ⟨h3, h4⟩ := Shp.ok x
    refine ⟨?_, ?_⟩
    · show PyData.canLayAll0 (EqD.toD x :: xs.map EqD.toD) = true
      unfold PyData.canLayAll0
      rw [h3, h1]; rfl
    · show PyData.depthAll (EqD.toD x :: xs.map EqD.toD) ≤ n
      unfold PyData.depthAll
      omega
instance : Shp Int 0 := ⟨fun x => ⟨by show PyData.canLay0 (.int x) = true; unfold PyData.canLay0; rfl, by show PyData.depth (.int x) ≤ 0; unfold PyData.depth; omega⟩⟩
instance : Shp Bool 0 := ⟨fun x => ⟨by show PyData.canLay0 (.bool x) = true; unfold PyData.canLay0; rfl, by show PyData.depth (.bool x) ≤ 0; unfold PyData.depth; omega⟩⟩
instance : Shp (Option Int) 0 := ⟨fun x => by
  cases x with
  | none => exact ⟨by show PyData.canLay0 .none = true; unfold PyData.canLay0; rfl, by show PyData.depth .none ≤ 0; unfold PyData.depth; omega⟩
  | some i => exact ⟨by show PyData.canLay0 (.int i) = true; unfold PyData.canLay0; rfl, by show PyData.depth (.int i) ≤ 0; unfold PyData.depth; omega⟩⟩
instance {α : Type} {n : Nat} [Shp α n] : Shp (List α) (n + 1) := ⟨fun x => by
  obtain ⟨h1, h2⟩ := shp_all x
  refine ⟨?_, ?_⟩
  · show PyData.canLay0 (.list (x.map EqD.toD)) = true
    unfold PyData.canLay0; exact h1
  · show PyData.depth (.list (x.map EqD.toD)) ≤ n + 1
    unfold PyData.depth; omega⟩
instance {α : Type} {n : Nat} [Shp α n] : Shp (Tu α) (n + 1) := ⟨fun x => by
  obtain ⟨h1, h2⟩ := shp_all x.l
  refine ⟨?_, ?_⟩
  · show PyData.canLay0 (.tuple (x.l.map EqD.toD)) = true
    unfold PyData.canLay0; exact h1
  · show PyData.depth (.tuple (x.l.map EqD.toD)) ≤ n + 1
    unfold PyData.depth; omega⟩
instance {α β : Type} {n m : Nat} [Shp α n] [Shp β m] : Shp (α × β) (n + m + 1) := ⟨fun x => by
  obtain ⟨h1, h2⟩ := Shp.ok x.1
  obtain ⟨h3, h4⟩ := Shp.ok x.2
  refine ⟨?_, ?_⟩
  · show PyData.canLay0 (.tuple [EqD.toD x.1, EqD.toD x.2]) = true
    simp [PyData.canLay0, PyData.canLayAll0, h1, h3]
  · show PyData.depth (.tuple [EqD.toD x.1, EqD.toD x.2]) ≤ n + m + 1
    simp [PyData.depth, PyData.depthAll]
    omega⟩
instance {α : Type} {n : Nat} [Shp α n] : Shp (T1 α) (n + 1) := ⟨fun x => by
  obtain ⟨h1, h2⟩ := Shp.ok x.a
  refine ⟨?_, ?_⟩
  · show PyData.canLay0 (.tuple [EqD.toD x.a]) = true
    simp [PyData.canLay0, PyData.canLayAll0, h1]
  · show PyData.depth (.tuple [EqD.toD x.a]) ≤ n + 1
    simp [PyData.depth, PyData.depthAll]
    omega⟩
theorem shp_of {α : Type} {n : Nat} [Shp α n] (x : α) (h : n ≤ 64 := by decide) : shp x := by
  obtain ⟨h1, h2⟩ := Shp.ok x
  unfold shp SeqAt.shaped
  rw [h1, decide_eq_true (Nat.le_trans h2 h)]; rfl

def spLaw (K : PySem.W.Frag) : Sp := fun vs H Q _ => ∃ (a : Addr) (ns : List Int), vs = [.ref a] ∧ SqL K H a (ns.map V.int) ∧ ns.length ≤ 63 ∧ ∀ H', Q (.bl true) H'
theorem law_of {P : Program} {w : World} {K : PySem.W.Frag} {mg : Str → Option Value} {base : Heap} {CX : CXT} {k : Nat} {f : Addr} {fd : FuncData} {ps : List Str} {m : List Int × Unit → Option Bool} (F : FnOk P w K mg base CX k f fd ps (sp K m)) (h : ∀ ns : List Int, ns.length ≤ 63 → m (ns, ()) = some true) : FnOk P w K mg base CX k f fd ps (spLaw K) :=
  F.imp fun vs H Q E ⟨a, ns, e, hs, hl, q⟩ => by
    subst e
    exact ⟨⟨H, H, fun _ _ h => h⟩, (ns, ()), true, rfl, ⟨.ref a, [], rfl, ⟨a, ns.map V.int, rfl, hs, Reps.of_flat ns⟩, rfl⟩, h ns hl, fun v s' _ r => by rw [show v = V.bl true from r]; exact q _⟩
end Dy

namespace Dy
open PySem PySem.Spec L2
open PyProof.Rows hiding St
open Enc (rep)
open Flat (toV)
open EncA (repA)

def strI (x : Int) : Str := toString x
noncomputable def sortI (xs : List Int) : List Int := xs.mergeSort (fun x y => decide (x ≤ y))
def Fl.go {β ρ γ : Type} (o : Fl β ρ) (k : β → γ) (e : ρ → γ) : γ := match o with
  | .nx b => k b
  | .rt r => e r
@[irreducible] def fuel : Nat := 1000000
theorem rng_mem {a b x : Int} (h : x ∈ rng a b) : a ≤ x ∧ x < b := by
  obtain ⟨i, hi⟩ := List.mem_iff_getElem?.mp h
  obtain ⟨h1, h2⟩ := rng_get hi
  omega
theorem frzE {s0 s s' : S} {p : Addr} (E : Ex s0 s) (n : s0.H p = none) (h1 : s'.H = s.H) (h2 : Fle s.F s'.F) (h3 : ∀ q, q ≠ p → s'.F q = s.F q) : Ex s0 s' :=
  ⟨E.f.trans h2, fun a o h => by rw [h1]; exact E.h a o h, fun a o h m => by rw [h3 a (ne_of_none h n)]; exact E.n a o h m⟩
theorem ownFrz {α : Type} [Enc α] {K : PySem.W.Frag} {s s' : S} {p q : Addr} {xs : List α} (o : Own K s q xs) (hne : q ≠ p) (h1 : s'.H = s.H) (h2 : Fle s.F s'.F) (h3 : ∀ q, q ≠ p → s'.F q = s.F q) : Own K s' q xs := by
  obtain ⟨hn, vs, hp, r⟩ := o
  exact ⟨by rw [h3 q hne]; exact hn, vs, by rw [h1]; exact hp, r.mono h2⟩
section
variable {α β γ δ ε : Type} [Enc α] [Enc β] [Enc γ] [Enc δ] [Enc ε] {X : Cx} {σ : St} {s t : S} {e a b c tg iter : Expr} {es : List Expr} {pos p0 p1 p2 p3 : Pos} {D : Ends} {rest A B body : List Stmt}
theorem ec_andO {x r : Bool} (h : EvB X a σ s x) (h2 : x = true → EvC X (.BoolOp .And (b :: es) pos) σ s r) (h3 : x = false → r = false) : EvC X (.BoolOp .And (a :: b :: es) pos) σ s r := by
  cases x with
  | true => exact (ec_and h h2 : EvC X _ σ s (true && r))
  | false =>
    have := ec_and (y := false) (es := es) (b := b) (pos := pos) h (fun z => Bool.noConfusion z)
    rw [h3 rfl]
    exact this
theorem ec_orO {x r : Bool} (h : EvB X a σ s x) (h2 : x = false → EvC X (.BoolOp .Or (b :: es) pos) σ s r) (h3 : x = true → r = true) : EvC X (.BoolOp .Or (a :: b :: es) pos) σ s r := by
  cases x with
  | false => exact (ec_or h h2 : EvC X _ σ s (false || r))
  | true =>
    have := ec_or (y := true) (es := es) (b := b) (pos := pos) h (fun z => Bool.noConfusion z)
    rw [h3 rfl]
    exact this
theorem et_tru {xs : List α} (h : EvR X e σ s xs) (he : ∀ whole, isTrue e X.env whole = (do let v ← whole; standAt e.pos; holding [v] (truthy v)) := by intro _; rfl) : EvT X e σ s (!xs.isEmpty) := fun s1 k Q q =>
  wt_of (pt_truth pe_we he) (h s1 k _ fun v s2 k2 r => by
    obtain ⟨p, vs, rfl, h1, h2⟩ := r
    refine ⟨_, .inl ⟨vs, h1, ?_⟩, q s2 k2⟩
    have := h2.len
    cases vs <;> cases xs <;> simp at this ⊢)
theorem isi_optT {τ : Type} [Ty τ] (x : Option τ) {T : String} (h1 : ∀ y : τ, kitB (Ty.ty y) T = some true) (h2 : kitB "NoneType" T = some false) : kitB (Ty.ty x) T = some x.isSome := by
  cases x with
  | none => exact h2
  | some y => exact h1 y
theorem isi_optF {τ : Type} [Ty τ] (x : Option τ) {T : String} (h1 : ∀ y : τ, kitB (Ty.ty y) T = some false) (h2 : kitB "NoneType" T = some false) : kitB (Ty.ty x) T = some false := by
  cases x with
  | none => exact h2
  | some y => exact h1 y
theorem en_rev {xs : List α} {k q1 q2 q3} (ha : EvR X e σ s xs) : EvN X (.Subscript e (.Slice none none (some (.UnaryOp .USub (.Constant (.int 1) k q1) q2)) q3) pos) σ s xs.reverse := fun s1 k1 Q q =>
  we_of (pe_revL pe_we) (ha s1 k1 _ fun v s2 k2 r2 => by
    obtain ⟨p, vs, rfl, h1, h2⟩ := r2
    exact ⟨p, vs, rfl, h1, fun l hl => q l (s2.newO l _ hl) (k2.trans (Ex.newO hl)) (fr_back k2 hl) (own_new hl h2.rev)⟩)
theorem do_drop {x : α} (h : Ev X e σ s x) (k : ∀ s1, Ex s s1 → WSs X rest D σ s1.H) (hs : swapsWith e none pos.line X.env = pure false := by rfl) : WSs X (.Expr e pos :: rest) D σ s.H :=
  do_cons (ps_expr pe_we hs) (h s (Ex.refl _) _ fun v s1 k1 r => k s1 k1)
theorem do_unp2 (i j : Nat) {x : α × β} (h : Ev X e σ s x) (k : ∀ v w s1, Ex s s1 → rep X.K s1.F v x.1 → rep X.K s1.F w x.2 → WSs X rest D ((σ.set i (some v)).set j (some w)) s1.H)
    (hg : PG X tg (gTup X.K 2 (gCons (gName i) (gCons (gName j) gNil)))) (hs : swapsWithSole [tg] e pos.line X.env = pure false := by rfl) (hw : swappedStores [tg] e X.env = pure none := by rfl)
    (h1 : (assignEach [tg] X.env).map (·.2) = [assign tg X.env] := by rfl) : WSs X (.Assign [tg] e pos :: rest) D σ s.H :=
  do_cons (ps_asg pe_we hg hs hw h1) (h s (Ex.refl _) _ fun v s1 k1 r => by
    obtain ⟨p, v1, v2, rfl, h0, h1, h2⟩ := r
    exact ⟨p, _, rfl, sqt_mono s1.sub h0, rfl, v1, _, rfl, v2, _, rfl, rfl, k v1 v2 s1 k1 h1 h2⟩)
theorem do_unp3 (i j l : Nat) {x : T3 α β γ} (h : Ev X e σ s x) (k : ∀ v w u s1, Ex s s1 → rep X.K s1.F v x.a → rep X.K s1.F w x.b → rep X.K s1.F u x.c → WSs X rest D (((σ.set i (some v)).set j (some w)).set l (some u)) s1.H)
    (hg : PG X tg (gTup X.K 3 (gCons (gName i) (gCons (gName j) (gCons (gName l) gNil))))) (hs : swapsWithSole [tg] e pos.line X.env = pure false := by rfl) (hw : swappedStores [tg] e X.env = pure none := by rfl)
    (h1 : (assignEach [tg] X.env).map (·.2) = [assign tg X.env] := by rfl) : WSs X (.Assign [tg] e pos :: rest) D σ s.H :=
  do_cons (ps_asg pe_we hg hs hw h1) (h s (Ex.refl _) _ fun v s1 k1 r => by
    obtain ⟨p, v1, v2, v3, rfl, h0, h1, h2, h3⟩ := r
    exact ⟨p, _, rfl, sqt_mono s1.sub h0, rfl, v1, _, rfl, v2, _, rfl, v3, _, rfl, rfl, k v1 v2 v3 s1 k1 h1 h2 h3⟩)
theorem do_whileF {υ ρ : Type} {cf : υ → Option Bool} {f : υ → Option (Fl υ ρ)} {n : Nat} {b0 : υ} {o : Fl υ ρ} (hp : PassesOwn (model X.prog X.w) X.A X.env X.xe) (hf : whileF cf f n b0 = some o) (R : υ → St → S → Prop) (h0 : R b0 σ s)
    (hc : ∀ (b : υ) (x : Bool) (σ' : St) (t : S), cf b = some x → Fle s.F t.F → R b σ' t → EvT X c σ' t x)
    (hb : ∀ (b : υ) (q : Fl υ ρ) (σ' : St) (t t' : S), cf b = some true → f b = some q → (∀ r, q = .rt r → o = .rt r) → Fle s.F t.F → R b σ' t → Ex t t' → WSs X body (LD D fun σ s => ∃ b', q = .nx b' ∧ Fle t'.F s.F ∧ R b' σ s) σ' t'.H)
    (hd : ∀ b1 σ' t t', o = .nx b1 → cf b1 = some false → Fle s.F t.F → R b1 σ' t → Ex t t' → WSs X rest D σ' t'.H) : WSs X (.While c body [] pos :: rest) D σ s.H :=
  do_cons (ps_while hp pt_wt pss_ws) (by
    refine ⟨fun m σ' H' => ∃ (t : S) (b : υ), t.H = H' ∧ Fle s.F t.F ∧ whileF cf f m b = some o ∧ R b σ' t, ⟨n, s, b0, rfl, Fle.refl _, hf, h0⟩, ?_⟩
    rintro m σ' H' ⟨t, b, rfl, fl, h1, h2⟩
    cases m with
    | zero => cases h1
    | succ m =>
      obtain ⟨x, h3, h4⟩ := bndE h1
      refine hc b x σ' t h3 fl h2 t (Ex.refl _) _ fun t' kt => ?_
      cases x with
      | true =>
        refine iteT ?_
        rw [if_pos rfl] at h4
        obtain ⟨q, h5, h6⟩ := bndE h4
        refine ⟨fun σ3 H3 => ∃ b', q = .nx b' ∧ ∃ u : S, u.H = H3 ∧ Fle s.F u.F ∧ R b' σ3 u, fun σ3 H3 ⟨b', e0, u, e1, f1, r1⟩ => ⟨m, Nat.lt_succ_self _, u, b', e1, f1, by subst e0; exact h6, r1⟩, ?_⟩
        exact (hb b q σ' t t' h3 h5 (fun r e0 => by subst e0; exact (Option.some.inj h6).symm) fl h2 kt).imp (fun σ3 H3 ⟨u, e1, b', e2, f1, r1⟩ => ⟨b', e2, u, e1, (fl.trans kt.f).trans f1, r1⟩) (fun _ _ q => q) (fun _ _ q => q.elim) (fun _ _ q => q.elim)
      | false =>
        refine iteF ?_
        rw [if_neg Bool.false_ne_true] at h4
        cases h4
        exact hd b σ' t t' rfl h3 fl h2 kt)
end
end Dy

namespace Dy
open PySem PySem.Spec L2
open PyProof.Rows hiding St

def Ok {α : Type} (m : Option α) (P : α → Prop) : Prop := ∃ r, m = some r ∧ P r
section
variable {α β γ ρ : Type}
theorem Ok.imp {m : Option α} {P Q : α → Prop} (h : Ok m P) (k : ∀ r, P r → Q r) : Ok m Q := let ⟨r, e, p⟩ := h; ⟨r, e, k r p⟩
theorem Ok.eq {m : Option α} {x : α} (h : Ok m (· = x)) : m = some x := by obtain ⟨r, e, rfl⟩ := h; exact e
theorem ok_eq {m : Option α} {x : α} {P : α → Prop} (h : m = some x) (p : P x) : Ok m P := ⟨x, h, p⟩
theorem ok_some {x : α} {P : α → Prop} (p : P x) : Ok (some x) P := ⟨x, rfl, p⟩
theorem ok_bnd {m : Option α} {f : α → Option β} {P : α → Prop} {Q : β → Prop} (h : Ok m P) (k : ∀ r, P r → Ok (f r) Q) : Ok (bnd m f) Q := by
  obtain ⟨r, e, p⟩ := h
  subst e
  exact k r p
theorem ok_chk {c : Prop} {m : Option α} {Q : α → Prop} (h : c) (k : Ok m Q) : Ok (chk c m) Q := by rw [chk_pos h]; exact k
theorem ok_lt {x : α} {f : α → Option β} {Q : β → Prop} (k : ∀ y, y = x → Ok (f y) Q) : Ok (lt x f) Q := k x rfl
theorem ok_ite {b : Bool} {m k : Option α} {Q : α → Prop} (h1 : b = true → Ok m Q) (h2 : b = false → Ok k Q) : Ok (if b = true then m else k) Q := by
  cases b with
  | true => exact h1 rfl
  | false => exact h2 rfl
theorem ok_andO {a : Bool} {m : Option Bool} {Q : Bool → Prop} (h1 : a = true → Ok m Q) (h2 : a = false → Q false) : Ok (andO a m) Q := by
  cases a with
  | true => exact h1 rfl
  | false => exact ⟨false, rfl, h2 rfl⟩
theorem ok_orO {a : Bool} {m : Option Bool} {Q : Bool → Prop} (h1 : a = false → Ok m Q) (h2 : a = true → Q true) : Ok (orO a m) Q := by
  cases a with
  | false => exact h1 rfl
  | true => exact ⟨true, rfl, h2 rfl⟩
theorem ok_foldO {f : β → α → Option β} (I : Nat → β → Prop) : ∀ {xs : List α} {b : β} {Q : β → Prop}, I 0 b → (∀ i b x, xs[i]? = some x → I i b → Ok (f b x) (I (i + 1))) → (∀ b, I xs.length b → Q b) → Ok (foldO f b xs) Q := by
  have key : ∀ (xs : List α) (b : β) (k : Nat), I k b → (∀ i b x, xs[i]? = some x → I (k + i) b → Ok (f b x) (I (k + i + 1))) → Ok (foldO f b xs) (I (k + xs.length)) := by
    intro xs
    induction xs with
    | nil => intro b k h _; exact ⟨b, rfl, h⟩
    | cons x r ih =>
      intro b k h hs
      refine ok_bnd (hs 0 b x rfl h) fun b' h' => ?_
      have := ih b' (k + 1) h' (fun i b y hy hI => by
        have := hs (i + 1) b y (by simpa using hy) (by rw [show k + (i + 1) = k + 1 + i by omega]; exact hI)
        rw [show k + (i + 1) + 1 = k + 1 + i + 1 by omega] at this
        exact this)
      rw [List.length_cons, show k + (r.length + 1) = k + 1 + r.length by omega]
      exact this
  intro xs b Q h0 hs hd
  have := key xs b 0 h0 (fun i b x hx hI => by
    have := hs i b x hx (by rw [Nat.zero_add] at hI; exact hI)
    rw [Nat.zero_add]; exact this)
  rw [Nat.zero_add] at this
  exact this.imp hd
theorem ok_foldF {f : β → α → Option (Fl β ρ)} (I : Nat → β → Prop) (Rr : ρ → Prop) : ∀ {xs : List α} {b : β} {Q : Fl β ρ → Prop}, I 0 b → (∀ i b x, xs[i]? = some x → I i b → Ok (f b x) (fun o => match o with | .nx b' => I (i + 1) b' | .rt r => Rr r)) →
    (∀ b, I xs.length b → Q (.nx b)) → (∀ r, Rr r → Q (.rt r)) → Ok (foldF f b xs) Q := by
  have key : ∀ (xs : List α) (b : β) (k : Nat), I k b → (∀ i b x, xs[i]? = some x → I (k + i) b → Ok (f b x) (fun o => match o with | .nx b' => I (k + i + 1) b' | .rt r => Rr r)) → Ok (foldF f b xs) (fun o => match o with | .nx b' => I (k + xs.length) b' | .rt r => Rr r) := by
    intro xs
    induction xs with
    | nil => intro b k h _; exact ⟨.nx b, rfl, h⟩
    | cons x r ih =>
      intro b k h hs
      refine ok_bnd (hs 0 b x rfl h) fun o h' => ?_
      cases o with
      | rt r => exact ⟨.rt r, rfl, h'⟩
      | nx b' =>
        have := ih b' (k + 1) h' (fun i b y hy hI => by
          have := hs (i + 1) b y (by simpa using hy) (by rw [show k + (i + 1) = k + 1 + i by omega]; exact hI)
          rw [show k + (i + 1) + 1 = k + 1 + i + 1 by omega] at this
          exact this)
        rw [List.length_cons, show k + (r.length + 1) = k + 1 + r.length by omega]
        exact this
  intro xs b Q h0 hs hd hr
  have := key xs b 0 h0 (fun i b x hx hI => by
    have := hs i b x hx (by rw [Nat.zero_add] at hI; exact hI)
    rw [Nat.zero_add]; exact this)
  rw [Nat.zero_add] at this
  refine this.imp fun o h => ?_
  cases o with
  | nx b => exact hd b h
  | rt r => exact hr r h
theorem ok_go {o : Fl β ρ} {k : β → Option γ} {e : ρ → Option γ} {Q : γ → Prop} (h1 : ∀ b, o = .nx b → Ok (k b) Q) (h2 : ∀ r, o = .rt r → Ok (e r) Q) : Ok (o.go k e) Q := by
  cases o with
  | nx b => exact h1 b rfl
  | rt r => exact h2 r rfl
theorem ok_compO {t : α → Option Bool} {f : α → Option β} {P : α → β → Prop} {T : α → Bool} : ∀ {xs : List α}, (∀ x ∈ xs, Ok (t x) (· = T x)) → (∀ x ∈ xs, T x = true → Ok (f x) (P x)) → Ok (compO t f xs) (fun ys => ys.length = (xs.filter T).length ∧ ∀ (i : Nat) (y : β), ys[i]? = some y → ∃ x, (xs.filter T)[i]? = some x ∧ P x y)
  | [], _, _ => ⟨[], rfl, rfl, fun i y h => by simp at h⟩
  | x :: r, h1, h2 => by
    unfold compO
    refine ok_bnd (h1 x List.mem_cons_self) fun b hb => ?_
    subst hb
    have ih := ok_compO (xs := r) (fun z hz => h1 z (List.mem_cons_of_mem _ hz)) (fun z hz => h2 z (List.mem_cons_of_mem _ hz))
    refine ok_ite (fun hb => ?_) (fun hb => ?_)
    · refine ok_bnd (h2 x List.mem_cons_self hb) fun y hy => ?_
      refine ok_bnd ih fun ys ⟨e1, e2⟩ => ok_some ?_
      rw [List.filter_cons, if_pos hb]
      refine ⟨by simp [e1], fun i z hz => ?_⟩
      cases i with
      | zero => simp at hz; subst hz; exact ⟨x, rfl, hy⟩
      | succ i => exact e2 i z (by simpa using hz)
    · rw [List.filter_cons, if_neg (by rw [hb]; exact Bool.false_ne_true)]
      exact ih
theorem ok_mapO {f : α → Option β} {P : α → β → Prop} {xs : List α} (h : ∀ x ∈ xs, Ok (f x) (P x)) : Ok (mapO f xs) (fun ys => ys.length = xs.length ∧ ∀ (i : Nat) (y : β), ys[i]? = some y → ∃ x, xs[i]? = some x ∧ P x y) := by
  have := ok_compO (t := fun _ => some true) (T := fun _ => true) (xs := xs) (fun x _ => ok_some rfl) (fun x hx _ => h x hx)
  rw [show xs.filter (fun _ => true) = xs from List.filter_eq_self.mpr (fun _ _ => rfl)] at this
  exact this
theorem mapO_eq {f : α → Option β} {g : α → β} : ∀ {xs : List α}, (∀ x ∈ xs, f x = some (g x)) → mapO f xs = some (xs.map g)
  | [], _ => rfl
  | x :: r, h => by
    have ih := mapO_eq (xs := r) (fun z hz => h z (List.mem_cons_of_mem _ hz))
    unfold mapO at ih ⊢
    unfold compO
    rw [Option.bind_some, if_pos rfl, h x List.mem_cons_self, Option.bind_some, ih]
    rfl
theorem compO_eq {t : α → Option Bool} {T : α → Bool} {f : α → Option β} {g : α → β} : ∀ {xs : List α}, (∀ x ∈ xs, t x = some (T x)) → (∀ x ∈ xs, T x = true → f x = some (g x)) → compO t f xs = some ((xs.filter T).map g)
  | [], _, _ => rfl
  | x :: r, h1, h2 => by
    have ih := compO_eq (xs := r) (fun z hz => h1 z (List.mem_cons_of_mem _ hz)) (fun z hz => h2 z (List.mem_cons_of_mem _ hz))
    unfold compO
    rw [h1 x List.mem_cons_self, Option.bind_some, List.filter_cons]
    cases hT : T x with
    | true => rw [if_pos rfl, if_pos rfl, h2 x List.mem_cons_self hT, Option.bind_some, ih]; rfl
    | false => rw [if_neg Bool.false_ne_true, if_neg Bool.false_ne_true, ih]
theorem foldO_eq {f : β → α → Option β} {g : β → α → β} : ∀ {xs : List α} {b : β}, (∀ b, ∀ x ∈ xs, f b x = some (g b x)) → foldO f b xs = some (xs.foldl g b)
  | [], _, _ => rfl
  | x :: r, b, h => by
    unfold foldO
    rw [h b x List.mem_cons_self, Option.bind_some, foldO_eq (xs := r) (fun b z hz => h b z (List.mem_cons_of_mem _ hz))]
    rfl
theorem ok_whileO {c : β → Option Bool} {f : β → Option β} (I : β → Prop) (μ : β → Nat) {Q : β → Prop} (hc : ∀ b, I b → Ok (c b) (fun t => if t = true then Ok (f b) (fun b' => I b' ∧ μ b' < μ b) else Q b)) : ∀ (n : Nat) (b : β), I b → μ b < n → Ok (whileO c f n b) Q
  | 0, b, _, h => absurd h (Nat.not_lt_zero _)
  | n + 1, b, hI, h => by
    unfold whileO
    refine ok_bnd (hc b hI) fun t ht => ?_
    cases t with
    | true =>
      rw [if_pos rfl] at ht ⊢
      exact ok_bnd ht fun b' ⟨h1, h2⟩ => ok_whileO I μ hc n b' h1 (by omega)
    | false =>
      rw [if_neg Bool.false_ne_true] at ht ⊢
      exact ok_some ht
theorem ok_whileF {c : β → Option Bool} {f : β → Option (Fl β ρ)} (I : β → Prop) (μ : β → Nat) {Q : Fl β ρ → Prop} (hc : ∀ b, I b → Ok (c b) (fun t => if t = true then Ok (f b) (fun o => match o with | .nx b' => I b' ∧ μ b' < μ b | .rt r => Q (.rt r)) else Q (.nx b))) : ∀ (n : Nat) (b : β), I b → μ b < n → Ok (whileF c f n b) Q
  | 0, b, _, h => absurd h (Nat.not_lt_zero _)
  | n + 1, b, hI, h => by
    unfold whileF
    refine ok_bnd (hc b hI) fun t ht => ?_
    cases t with
    | true =>
      rw [if_pos rfl] at ht ⊢
      refine ok_bnd ht fun o ho => ?_
      cases o with
      | nx b' => exact ok_whileF I μ hc n b' ho.1 (by have := ho.2; omega)
      | rt r => exact ok_some ho
    | false =>
      rw [if_neg Bool.false_ne_true] at ht ⊢
      exact ok_some ht
theorem fuel_eq : fuel = 1000000 := by unfold fuel; rfl
theorem mul_l {x y : Int} (h1 : -1000000000000000000 < x) (h2 : x < 1000000000000000000) : MulOk x y := .inl (.inl ⟨by omega, by omega⟩)
theorem mul_r {x y : Int} (h1 : -1000000000000000000 < y) (h2 : y < 1000000000000000000) : MulOk x y := .inl (.inr ⟨by omega, by omega⟩)
set_option exponentiation.threshold 10000 in
theorem div_small {y : Int} (h1 : 0 < y) (h2 : y < 1000000000000000000) : DivOk y := ⟨h1, PySem.Flt.log2_lt_of (by decide) (show y.natAbs < 2 ^ 9000 from Nat.lt_of_lt_of_le (show y.natAbs < 2 ^ 64 by omega) (Nat.pow_le_pow_right (by decide) (by decide)))⟩
theorem szl : sizeLine = 16777216 := rfl
theorem atI_get {xs : List α} {i : Int} (h0 : 0 ≤ i) (h1 : i < xs.length) : atI xs i = xs[i.toNat]? := by
  unfold atI ixN
  rw [if_pos h0, if_pos h1]; rfl
theorem ok_atI {xs : List α} {i : Int} {Q : α → Prop} (h0 : 0 ≤ i) (h1 : i < xs.length) (h : ∀ x, xs[i.toNat]? = some x → Q x) : Ok (atI xs i) Q := by
  rw [atI_get h0 h1]
  have hl : i.toNat < xs.length := by omega
  exact ⟨xs[i.toNat], List.getElem?_eq_getElem hl, h _ (List.getElem?_eq_getElem hl)⟩
theorem cut_len_le (xs : List α) (lo hi : Option Int) : (cut xs lo hi).length ≤ xs.length := by
  unfold cut
  rw [List.length_take, List.length_drop]
  omega
theorem cut_hi (xs : List α) (n : Nat) : cut xs none (some (n : Int)) = xs.take n := by
  unfold cut
  rw [HT.sIx_none, show HT.sIx xs.length xs.length (some (n : Int)) = min n xs.length from HT.sIx_nat xs.length xs.length n]
  simp only [List.drop_zero, Nat.sub_zero]
  by_cases h : n ≤ xs.length
  · rw [Nat.min_eq_left h]
  · rw [Nat.min_eq_right (by omega), List.take_of_length_le (Nat.le_refl _), List.take_of_length_le (by omega)]
theorem rng_len_nn {n : Int} (h : 0 ≤ n) : (rng 0 n).length = n.toNat := by rw [rng_len]; congr 1; omega
theorem rng_at {a b : Int} {i : Nat} {x : Int} (h : (rng a b)[i]? = some x) : x = a + (i : Int) ∧ a + (i : Int) < b := by
  obtain ⟨h1, h2⟩ := rng_get h
  omega
end
theorem chars_len (x : Str) : (chars x).length = x.length := by
  unfold chars
  rw [List.length_map, Array.length_toList]; rfl
theorem join_len0 (ys : List Str) : (Txt.join ("" : Str) ys).length = (ys.map (·.length)).sum := by
  have h : ∀ z : Str, z.length = (TL.tl z).length := fun z => by show z.cps.size = z.cps.toList.length; rw [Array.length_toList]
  have key : ∀ ps : List (List Nat), (TL.joinL [] ps).length = (ps.map List.length).sum := by
    intro ps
    induction ps with
    | nil => rfl
    | cons p r ih =>
      cases r with
      | nil => simp [TL.joinL]
      | cons q r =>
        have e : TL.joinL [] (p :: q :: r) = p ++ ([] ++ TL.joinL [] (q :: r)) := by simp [TL.joinL]
        rw [e, List.nil_append, List.length_append, ih]; rfl
  rw [h, TL.join_eq, TL.tl_join, show TL.tl ("" : Str) = [] from rfl, key, List.map_map]
  exact congrArg List.sum (List.map_congr_left fun z _ => (h z).symm)
theorem sum_ones {ys : List Str} (h : ∀ y ∈ ys, y.length = 1) : (ys.map (·.length)).sum = ys.length := by
  induction ys with
  | nil => rfl
  | cons y r ih =>
    rw [List.map_cons, List.sum_cons, ih fun z hz => h z (List.mem_cons_of_mem _ hz), h y List.mem_cons_self, List.length_cons]
    omega
theorem foldF_any {α ρ : Type} {p : α → Bool} {f : Unit → α → Option (Fl Unit ρ)} {r : ρ} (h : ∀ x, f () x = if p x = true then some (.rt r) else some (.nx ())) : ∀ xs : List α, foldF f () xs = some (if xs.any p = true then .rt r else .nx ())
  | [] => rfl
  | x :: xs => by
    unfold foldF
    rw [h x, List.any_cons]
    cases hp : p x with
    | true => rfl
    | false =>
      rw [if_neg Bool.false_ne_true]
      show foldF f () xs = _
      rw [foldF_any h xs, Bool.false_or]
end Dy

namespace Dy
open PySem PySem.Spec L2
open PyProof.Rows hiding St
open Enc (rep)
open Flat (toV)
open EncA (repA)

section
variable {α β γ δ : Type} [Enc α] [Enc β] [Enc γ] [Enc δ] {X : Cx} {σ : St} {s t : S} {e a b c tg iter : Expr} {es : List Expr} {pos p0 p1 p2 p3 : Pos} {D : Ends} {rest A B body : List Stmt}
def RepS (x : Str) (n : Int) : Prop := PySem.MulOk x n
def replS (x : Str) (n : Int) : Str := Txt.mul x n
theorem op_repStr : OpR X (binaryOp .Mult) (fun x y H Q => ∃ z n, x = .str z ∧ y = .int n ∧ RepS z n ∧ Q (.str (replS z n)) H) := by
  intro pins s σ H x y v u Q I rx ry h
  obtain ⟨z, n, rfl, rfl, hok, q⟩ := h
  obtain ⟨t, rfl⟩ := rx
  obtain ⟨t', rfl⟩ := ry
  exact PySem.SB.mul hok fun t' k => ⟨.str _, H, I.tok _, ⟨_, rfl⟩, q⟩
theorem ev_repS {x : Str} {n : Int} (ha : Ev X a σ s x) (hb : Ev X b σ s n) (h : RepS x n) : Ev X (.BinOp a .Mult b pos) σ s (replS x n) :=
  ev_op op_repStr ha hb fun v u s2 hv hu Q q => ⟨x, n, hv, hu, h, q _ s2 (Ex.refl _) rfl⟩
theorem repS_small {x : Str} {n : Int} (h0 : x.length ≤ 1000) (h1 : n ≤ 1000) (h2 : -1000 ≤ n) : RepS x n := by
  refine ⟨by rw [Bool.or_eq_false_iff]; exact ⟨decide_eq_false (by omega), decide_eq_false (by omega)⟩, fun h3 _ => ?_, fun h3 _ => ?_⟩
  · intro h
    have : (2 ^ 63 - 1) / n ≥ 1000 := by
      refine (Int.le_ediv_iff_mul_le (by omega)).mpr ?_
      omega
    omega
  · unfold Builtin.Str.tooLong
    have : x.length * n.toNat ≤ 1000 * 1000 := Nat.mul_le_mul h0 (by omega)
    refine decide_eq_false ?_
    have := szl
    omega
def stepN (a b c : Int) : Nat := if a < b then ((b - a - 1) / c + 1).toNat else 0
def rngS (a b c : Int) : List Int := (List.range (stepN a b c)).map fun i : Nat => a + (i : Int) * c
def RgS (a b c : Int) : Prop := (-(2 ^ 61) ≤ a ∧ a < 2 ^ 61) ∧ (-(2 ^ 61) ≤ b ∧ b < 2 ^ 61) ∧ 0 < c ∧ c < 1000000
theorem rgC_of {a b c : Int} (h : RgS a b c) : RgC a b c (stepN a b c) := by
  obtain ⟨⟨h1, h2⟩, ⟨h3, h4⟩, h5, h6⟩ := h
  have hs : Builtin.Range.rangeSize a b c = (stepN a b c : Nat) := by
    unfold Builtin.Range.rangeSize stepN
    rw [if_pos h5]
    split
    · have : 0 ≤ (b - a - 1) / c := Int.ediv_nonneg (by omega) (by omega)
      omega
    · rfl
  refine ⟨by omega, by omega, ?_, hs⟩
  have e1 : a < b → c * ((b - a - 1) / c) ≤ b - a - 1 := fun _ => Int.mul_ediv_self_le (by omega)
  have e2 : a < b → 0 ≤ (b - a - 1) / c := fun _ => Int.ediv_nonneg (by omega) (by omega)
  have e3 : a < b → (b - a - 1) / c ≤ b - a - 1 := fun _ => by
    refine Int.ediv_le_self _ (by omega)
  unfold Builtin.Range.small
  unfold Builtin.Range.rangeSize
  simp only [Builtin.Range.rangeFitsLong, Bool.and_eq_true, Bool.or_eq_true, decide_eq_true_eq, beq_iff_eq, if_pos h5]
  split
  · rename_i hlt
    have e1 := e1 hlt
    have e2 := e2 hlt
    have e3 := e3 hlt
    generalize hq : (b - a - 1) / c = q at *
    have e4 : c * q = q * c := Int.mul_comm _ _
    have e5 : (q + 1) * c = q * c + c := by rw [Int.add_mul]; omega
    have e6 : 0 ≤ c * q := Int.mul_nonneg (by omega) e2
    refine ⟨?_, ?_⟩ <;> omega
  · omega
theorem rngS_get {a b c : Int} {i : Nat} {x : Int} (h : (rngS a b c)[i]? = some x) : i < stepN a b c ∧ x = a + (i : Int) * c := by
  unfold rngS at h
  rw [List.getElem?_map] at h
  obtain ⟨j, h1, rfl⟩ := Option.map_eq_some_iff.mp h
  obtain ⟨h2, h3⟩ := List.getElem?_eq_some_iff.mp h1
  rw [List.length_range] at h2
  rw [List.getElem_range] at h3
  subst h3
  exact ⟨h2, rfl⟩
theorem rngS_len (a b c : Int) : (rngS a b c).length = stepN a b c := by unfold rngS; rw [List.length_map, List.length_range]
theorem ei_range3 {x y z : Int} (hm : X.mg "range" = none) (ha : Ev X a σ s x) (hb : Ev X b σ s y) (hc : Ev X c σ s z) (h : RgS x y z) (hg : Gl X "range" := by rfl)
    (hs : starEach [a, b, c] X.env = (false, eval a X.env) :: starEach [b, c] X.env := by rfl) (hs2 : starEach [b, c] X.env = (false, eval b X.env) :: starEach [c] X.env := by rfl) (hs3 : starEach [c] X.env = (false, eval c X.env) :: starEach [] X.env := by rfl) (hpl : (backTo pos (starEach [b, c] X.env)).any (·.1) = false := by rfl) :
    EvI X tg (.Call (.Name "range" p0) [a, b, c] [] pos) σ s (rngS x y z) := fun s1 k R q =>
  wi_of (pi_range3 hg hm (pa_cons pe_we (pa_cons pe_we (pa_cons pe_we pa_nil hs3) hs2) hs) hs hpl) (ha s1 k _ fun v s2 k2 r2 => hb s2 (k.trans k2) _ fun u s3 k3 r3 => hc s3 ((k.trans k2).trans k3) _ fun w s4 k4 r4 =>
    ⟨x, y, z, stepN x y z, by rw [show v = V.int x from r2, show u = V.int y from r3, show w = V.int z from r4], rgC_of h, q _ s4 ((k2.trans k3).trans k4) ⟨fun i t w f hw => ⟨(rngS_get hw).1, fun v' H' ⟨e1, e2⟩ => ⟨t, e1.symm, Ex.refl _, by rw [e2, (rngS_get hw).2]; rfl⟩⟩, fun i t f hi => by rw [rngS_len] at hi; exact hi⟩⟩)
theorem ev_isiR {xs : List α} {n : Str} {T : String} {r : Bool} (hm : X.mg "isinstance" = none) (hn : X.mg n = none) (hv : bootBuiltins n = some (.type T)) (ha : EvR X a σ s xs) (h : kitB "list" T = some r)
    (hg : Gl X "isinstance" := by rfl) (hgn : Gl X n := by rfl) (he : starEach [a, .Name n p1] X.env = (false, eval a X.env) :: starEach [.Name n p1] X.env := by rfl) (he2 : starEach [.Name n p1] X.env = (false, eval (.Name n p1) X.env) :: starEach [] X.env := by rfl) (hpl : (backTo pos (starEach [.Name n p1] X.env)).any (·.1) = false := by rfl)
    (hnn : n ≠ "__name__" := by decide) (hnd : (n == ("__debug__" : Str)) = false := by decide) :
    Ev X (.Call (.Name "isinstance" p0) [a, .Name n p1] [] pos) σ s r := fun s1 k Q q =>
  we_of (pe_callB call_isi hg hm (by decide +kernel) (pa_cons pe_we (pa_cons (pe_bltn (v := .ty T) hgn hn hv rfl hnn hnd) pa_nil he2) he) (he := he) (hpl := hpl)) (ha s1 k _ fun v s2 k2 r2 => by
    obtain ⟨p, vs, rfl, h1, _⟩ := r2
    exact ⟨.ref p, .ty T, .type "list", .type T, r, rfl, .ty T, sql_ty h1, kit_ty h, q _ s2 k2 rfl⟩)
theorem eb_isB {x y : Bool} (ha : Ev X a σ s x) (hb : Ev X b σ s y) : EvB X (.Compare a [.Is] [b] pos) σ s (decide (x = y)) :=
  eb_cmp op_isBl ha hb (fun v u s2 hv hu Q q => ⟨x, y, hv, hu, q⟩) (nomark _)
theorem eb_isnotB {x y : Bool} (ha : Ev X a σ s x) (hb : Ev X b σ s y) : EvB X (.Compare a [.IsNot] [b] pos) σ s (!decide (x = y)) :=
  eb_cmp op_notBl ha hb (fun v u s2 hv hu Q q => ⟨x, y, hv, hu, q⟩) (nomark _)
theorem ev_sliceT {x : Tu α} {lo hi : Option Expr} {l h : Option Int} (ha : Ev X a σ s x) (hl : EvO X lo σ s l) (hh : EvO X hi σ s h) : Ev X (.Subscript a (.Slice lo hi none p2) pos) σ s (Tu.mk (cut x.l l h)) := fun s1 k Q q => by
  obtain ⟨tl, pl, ql⟩ := po_evo hl
  obtain ⟨th, ph, qh⟩ := po_evo hh
  refine we_of (pe_slice sl_tupA pe_we pl ph) (ha s1 k _ fun v s2 k2 r2 => ql s2 (k.trans k2) _ fun s3 k3 => qh s3 ((k.trans k2).trans k3) _ fun s4 k4 => ?_)
  obtain ⟨p, vs, rfl, h1, h2⟩ := Enc.mono (α := Tu α) (k3.trans k4).f r2
  have kk := (k2.trans k3).trans k4
  refine ⟨p, vs, rfl, sqt_mono s4.sub h1, fun hw => ?_, fun _ l hl => q _ (s4.newF l _ hl) (kk.trans (Ex.newF hl)) ⟨l, _, rfl, tup_new hl, (h2.cut _ _).mono (Ex.newF hl).f⟩⟩
  refine q _ s4 kk ⟨p, vs, rfl, h1, ?_⟩
  have e : cut x.l l h = x.l := by
    unfold cut
    rw [← h2.len, hw.1, hw.2, List.drop_zero, Nat.sub_zero, h2.len, List.take_length]
  show Reps _ _ vs (cut x.l l h)
  rw [e]; exact h2
def popN (n : Nat) (i : Int) : Option Nat := if -(2 ^ 63) ≤ i ∧ i < 2 ^ 63 then seqIndex? i n else none
theorem seqIx_lt {n : Nat} {i : Int} {k : Nat} (h : seqIndex? i n = some k) : k < n := by
  unfold seqIndex? at h
  dsimp only at h
  split at h <;> split at h
  all_goals first | (rename_i h2; simp only [Bool.and_eq_true, decide_eq_true_eq] at h2; cases h; omega) | cases h
theorem do_popAt (i : Nat) {p : Addr} {n : Str} {xs : List α} {z : Int} {j : Nat} (hσ : σ[i]? = some (some (.ref p))) (o : Own X.K s p xs) (he : Ev X e σ s z) (hj : popN xs.length z = some j)
    (k : ∀ s1, Mx (· = p) s s1 → Own X.K s1 p (xs.eraseIdx j) → WSs X rest D σ s1.H)
    (hN : X.N[i]? = some n := by rfl) (hv : Vis X.env.scope n := by first | exact Or.inl rfl | exact Or.inr (Or.inl rfl) | exact Or.inr (Or.inr rfl)) (hd : (n == ("__debug__" : Str)) = false := by decide) (hcd : (n == ("__classdict__" : Str)) = false := by decide)
    (hbase : attributeBase (.Name n p0) "pop" X.env (eval (.Name n p0) X.env) = eval (.Name n p0) X.env := by rfl)
    (hfew : ((backTo p2 (starEach [e] X.env)).all (fun x => !x.1) && (backToKw p2 (keywordEach [] X.env)).all (fun x => x.1.isSome) && decide (([e] : List Expr).length + ([] : List Keyword).length + (if ([] : List Keyword).isEmpty then 0 else 1) < 30)) = true := by rfl)
    (hline : (p1.endLine == p2.line) = true := by rfl) (hs : starEach [e] X.env = (false, eval e X.env) :: starEach [] X.env := by rfl) (hplain : (backTo p2 (starEach [] X.env)).any (·.1) = false := by rfl)
    (hsw : swapsWith (.Call (.Attribute (.Name n p0) "pop" p1) [e] [] p2) none p3.line X.env = pure false := by rfl) :
    WSs X (.Expr (.Call (.Attribute (.Name n p0) "pop" p1) [e] [] p2) p3 :: rest) D σ s.H :=
  do_cons (ps_expr (pe_bm PySem.F.plainAttrs_list PySem.F.slot_list_pop PySem.F.type_list_pop mt_popAt (pe_var hN hv hd hcd) (pa_cons pe_we pa_nil hs) hbase hfew hline hs hplain) hsw) (by
    obtain ⟨h1, vs, h2, h3⟩ := id o
    refine ⟨_, hσ, .inl ⟨rfl, vs, .inl (.inl h2)⟩, he s (Ex.refl _) _ fun v s1 k1 r1 => ?_⟩
    have f1 := k1.n _ _ h2 h1
    have g1 := k1.h _ _ h2
    unfold popN at hj
    split at hj
    · rename_i hb
      have hlt : j < vs.length := by rw [h3.len]; exact seqIx_lt hj
      refine ⟨p, vs, z, j, vs[j], rfl, by rw [show v = V.int z from r1], g1, hb.1, hb.2, by rw [h3.len]; exact hj, List.getElem?_eq_getElem hlt, ?_⟩
      exact k (s1.put p (.lst (vs.eraseIdx j)) f1) (k1.mx.trans (Mx.put f1)) ⟨f1, _, upd_same, (h3.mono k1.f).erase j⟩
    · cases hj)
def InsOk (i : Int) (n : Nat) : Prop := 0 ≤ i ∧ i < 2 ^ 63 ∧ n < sizeLine
def insI {τ : Type} (xs : List τ) (i : Int) (x : τ) : List τ := xs.take i.toNat ++ [x] ++ xs.drop i.toNat
theorem do_insert (i : Nat) {p : Addr} {n : Str} {xs : List α} {z : Int} {x : α} (hσ : σ[i]? = some (some (.ref p))) (o : Own X.K s p xs) (ha : Ev X a σ s z) (hb : Ev X b σ s x) (hj : InsOk z xs.length)
    (k : ∀ s1, Mx (· = p) s s1 → Own X.K s1 p (insI xs z x) → WSs X rest D σ s1.H)
    (hN : X.N[i]? = some n := by rfl) (hv : Vis X.env.scope n := by first | exact Or.inl rfl | exact Or.inr (Or.inl rfl) | exact Or.inr (Or.inr rfl)) (hd : (n == ("__debug__" : Str)) = false := by decide) (hcd : (n == ("__classdict__" : Str)) = false := by decide)
    (hbase : attributeBase (.Name n p0) "insert" X.env (eval (.Name n p0) X.env) = eval (.Name n p0) X.env := by rfl)
    (hfew : ((backTo p2 (starEach [a, b] X.env)).all (fun x => !x.1) && (backToKw p2 (keywordEach [] X.env)).all (fun x => x.1.isSome) && decide (([a, b] : List Expr).length + ([] : List Keyword).length + (if ([] : List Keyword).isEmpty then 0 else 1) < 30)) = true := by rfl)
    (hline : (p1.endLine == p2.line) = true := by rfl) (hs : starEach [a, b] X.env = (false, eval a X.env) :: starEach [b] X.env := by rfl) (hs2 : starEach [b] X.env = (false, eval b X.env) :: starEach [] X.env := by rfl) (hplain : (backTo p2 (starEach [b] X.env)).any (·.1) = false := by rfl)
    (hsw : swapsWith (.Call (.Attribute (.Name n p0) "insert" p1) [a, b] [] p2) none p3.line X.env = pure false := by rfl) :
    WSs X (.Expr (.Call (.Attribute (.Name n p0) "insert" p1) [a, b] [] p2) p3 :: rest) D σ s.H :=
  do_cons (ps_expr (pe_bm PySem.F.plainAttrs_list PySem.F.slot_list_insert PySem.F.type_list_insert mt_insert (pe_var hN hv hd hcd) (pa_cons pe_we (pa_cons pe_we pa_nil hs2) hs) hbase hfew hline hs hplain) hsw) (by
    obtain ⟨h1, vs, h2, h3⟩ := id o
    refine ⟨_, hσ, .inl ⟨rfl, vs, .inl (.inl h2)⟩, ha s (Ex.refl _) _ fun u s1 k1 r1 => hb s1 k1 _ fun v s2 k2 r2 => ?_⟩
    have kk := k1.trans k2
    have f1 := kk.n _ _ h2 h1
    have g1 := kk.h _ _ h2
    refine ⟨p, vs, z, v, rfl, by rw [show u = V.int z from r1], g1, by rw [h3.len]; exact hj.2.2, hj.1, hj.2.1, ?_⟩
    exact k (s2.put p (.lst (vs.take z.toNat ++ [v] ++ vs.drop z.toNat)) f1) (kk.mx.trans (Mx.put f1)) ⟨f1, _, upd_same, (((h3.mono kk.f).take _).snoc r2).app ((h3.mono kk.f).drop _)⟩)
theorem do_reverse (i : Nat) {p : Addr} {n : Str} {xs : List α} (hσ : σ[i]? = some (some (.ref p))) (o : Own X.K s p xs)
    (k : ∀ s1, Mx (· = p) s s1 → Own X.K s1 p xs.reverse → WSs X rest D σ s1.H)
    (hN : X.N[i]? = some n := by rfl) (hv : Vis X.env.scope n := by first | exact Or.inl rfl | exact Or.inr (Or.inl rfl) | exact Or.inr (Or.inr rfl)) (hd : (n == ("__debug__" : Str)) = false := by decide) (hcd : (n == ("__classdict__" : Str)) = false := by decide)
    (hbase : attributeBase (.Name n p0) "reverse" X.env (eval (.Name n p0) X.env) = eval (.Name n p0) X.env := by rfl) (hline : (p1.endLine == p2.line) = true := by rfl)
    (hsw : swapsWith (.Call (.Attribute (.Name n p0) "reverse" p1) [] [] p2) none p3.line X.env = pure false := by rfl) :
    WSs X (.Expr (.Call (.Attribute (.Name n p0) "reverse" p1) [] [] p2) p3 :: rest) D σ s.H :=
  do_cons (ps_expr (pe_bm0 PySem.F.plainAttrs_list PySem.F.slot_list_reverse PySem.F.type_list_reverse mt_reverse (pe_var hN hv hd hcd) hbase hline) hsw) (by
    obtain ⟨h1, vs, h2, h3⟩ := id o
    refine ⟨_, hσ, .inl ⟨rfl, vs, .inl (.inl h2)⟩, p, vs, rfl, rfl, h2, ?_⟩
    exact k (s.put p (.lst vs.reverse) h1) (Mx.put h1) ⟨h1, _, upd_same, h3.rev⟩)
theorem do_clear (i : Nat) {p : Addr} {n : Str} {xs : List α} (hσ : σ[i]? = some (some (.ref p))) (o : Own X.K s p xs)
    (k : ∀ s1, Mx (· = p) s s1 → Own X.K s1 p ([] : List α) → WSs X rest D σ s1.H)
    (hN : X.N[i]? = some n := by rfl) (hv : Vis X.env.scope n := by first | exact Or.inl rfl | exact Or.inr (Or.inl rfl) | exact Or.inr (Or.inr rfl)) (hd : (n == ("__debug__" : Str)) = false := by decide) (hcd : (n == ("__classdict__" : Str)) = false := by decide)
    (hbase : attributeBase (.Name n p0) "clear" X.env (eval (.Name n p0) X.env) = eval (.Name n p0) X.env := by rfl) (hline : (p1.endLine == p2.line) = true := by rfl)
    (hsw : swapsWith (.Call (.Attribute (.Name n p0) "clear" p1) [] [] p2) none p3.line X.env = pure false := by rfl) :
    WSs X (.Expr (.Call (.Attribute (.Name n p0) "clear" p1) [] [] p2) p3 :: rest) D σ s.H :=
  do_cons (ps_expr (pe_bm0 PySem.F.plainAttrs_list PySem.F.slot_list_clear PySem.F.type_list_clear mt_clear (pe_var hN hv hd hcd) hbase hline) hsw) (by
    obtain ⟨h1, vs, h2, h3⟩ := id o
    refine ⟨_, hσ, .inl ⟨rfl, vs, .inl (.inl h2)⟩, p, vs, rfl, rfl, h2, ?_⟩
    exact k (s.put p (.lst []) h1) (Mx.put h1) ⟨h1, _, upd_same, trivial⟩)
theorem ev_catT {x y : Tu α} (ha : Ev X a σ s x) (hb : Ev X b σ s y) (hz : x.l.length + y.l.length ≤ sizeLine) : Ev X (.BinOp a .Add b pos) σ s (Tu.mk (x.l ++ y.l)) := fun s1 k Q q =>
  we_of (pe_op op_catA pe_we pe_we) (ha s1 k _ fun v s2 k2 r2 => hb s2 (k.trans k2) _ fun u s3 k3 r3 => by
    obtain ⟨p, vs, rfl, h1, h2⟩ := Enc.mono (α := Tu α) k3.f r2
    obtain ⟨p', ws, rfl, h3, h4⟩ := r3
    have kk := k2.trans k3
    refine ⟨p, p', vs, ws, rfl, rfl, sqt_mono s3.sub h1, sqt_mono s3.sub h3, by rw [h2.len, h4.len]; exact hz, fun e => ?_, fun _ e => ?_, fun _ _ l hl => q _ (s3.newF l _ hl) (kk.trans (Ex.newF hl)) ⟨l, _, rfl, tup_new hl, (h2.app h4).mono (Ex.newF hl).f⟩⟩
    · refine q _ s3 kk ⟨p', ws, rfl, h3, ?_⟩
      subst e
      have e2 : x.l = [] := List.length_eq_zero_iff.mp h2.len.symm
      show Reps _ _ ws (x.l ++ y.l)
      rw [e2]; exact h4
    · refine q _ s3 kk ⟨p, vs, rfl, h1, ?_⟩
      subst e
      have e2 : y.l = [] := List.length_eq_zero_iff.mp h4.len.symm
      show Reps _ _ vs (x.l ++ y.l)
      rw [e2, List.append_nil]; exact h2)
end
theorem foldO_app {α β : Type} {N : Nat} {f : List β → α → Option (List β)} {g : α → β} : ∀ {xs : List α} {b : List β}, (∀ b x, b.length < N → x ∈ xs → f b x = some (b ++ [g x])) → b.length + xs.length ≤ N → foldO f b xs = some (b ++ xs.map g)
  | [], b, _, _ => by simp [foldO]
  | x :: r, b, h, hl => by
    rw [List.length_cons] at hl
    unfold foldO
    rw [h b x (by omega) List.mem_cons_self, Option.bind_some, foldO_app (xs := r) (b := b ++ [g x]) (fun b y hb hy => h b y hb (List.mem_cons_of_mem _ hy)) (by rw [List.length_append, List.length_singleton]; omega)]
    simp
theorem atI_map {α β : Type} {f : α → β} {xs : List α} {i : Int} {x : α} (h : atI xs i = some x) : atI (xs.map f) i = some (f x) := by
  unfold atI at h ⊢
  rw [List.length_map]
  cases hj : ixN xs.length i with
  | none => rw [hj] at h; cases h
  | some j =>
    rw [hj] at h
    show (xs.map f)[j]? = _
    rw [List.getElem?_map]
    have : xs[j]? = some x := h
    rw [this]; rfl
theorem foldF_none {α ρ : Type} {f : Unit → α → Option (Fl Unit ρ)} : ∀ {xs : List α}, (∀ x ∈ xs, f () x = some (.nx ())) → foldF f () xs = some (.nx ())
  | [], _ => rfl
  | x :: r, h => by
    unfold foldF
    rw [h x List.mem_cons_self]
    exact foldF_none fun y hy => h y (List.mem_cons_of_mem _ hy)
theorem foldF_ok {α ρ : Type} {f : Unit → α → Option (Fl Unit ρ)} {xs : List α} {Q : Fl Unit ρ → Prop} (h : ∀ x ∈ xs, Ok (f () x) (· = .nx ())) (q : Q (.nx ())) : Ok (foldF f () xs) Q :=
  ⟨_, foldF_none fun x hx => (h x hx).eq, q⟩
def Drawn (sizes ds : List Int) : Prop := ds.length = sizes.length ∧ ∀ (j : Nat) (d n : Int), ds[j]? = some d → sizes[j]? = some n → 0 ≤ d ∧ d < n
theorem ok_draw {sizes ds : List Int} (h : Drawn sizes ds) (k : Nat) {n : Int} (hk : sizes[k]? = some n) {Q : Int → Prop} (q : ∀ d, 0 ≤ d → d < n → Q d) : Ok (atI ds (k : Int)) Q := by
  obtain ⟨h1, h2⟩ := h
  have hlt : k < ds.length := by rw [h1]; exact (List.getElem?_eq_some_iff.mp hk).1
  refine ok_atI (by omega) (by omega) fun d hd => ?_
  rw [show (k : Int).toNat = k by omega] at hd
  obtain ⟨a, b⟩ := h2 k d n hd hk
  exact q d a b
theorem ok_sgn {x : Str} {i : Int} {Q : Str → Prop} (hz : x.length ≤ sizeLine) (h0 : 0 ≤ i) (h1 : i < x.length) (h : ∀ c, x.cps.toList[i.toNat]? = some c → Q ⟨#[c]⟩) : Ok (sgn x i) Q := by
  unfold sgn
  rw [if_pos hz]
  have hl : i.toNat < x.cps.toList.length := by
    rw [Array.length_toList]
    show i.toNat < x.length
    omega
  rw [atI_get h0 (by rw [Array.length_toList]; show i < (x.length : Int); exact h1), List.getElem?_eq_getElem hl]
  exact ok_some (h _ (List.getElem?_eq_getElem hl))
theorem bnd_some {α : Type} (m : Option α) : (bnd m fun x => some x) = m := by cases m <;> rfl
theorem ok_ret {α : Type} {m : Option α} {P : α → Prop} (h : Ok m P) : Ok (bnd m fun x => some x) P := by rw [bnd_some]; exact h
def txt (x : Str) : Prop := PyData.strOk x = true
theorem shp_strs {xs : List Str} (h : ∀ x ∈ xs, txt x) : shp xs := by
  unfold shp SeqAt.shaped
  have h1 : PyData.canLay0 (EqD.toD xs) = true := by
    show PyData.canLay0 (.list (xs.map PyData.str)) = true
    unfold PyData.canLay0
    induction xs with
    | nil => simp [PyData.canLayAll0]
    | cons x r ih =>
      rw [List.map_cons]
      unfold PyData.canLayAll0
      rw [ih fun y hy => h y (List.mem_cons_of_mem _ hy)]
      show (PyData.canLay0 (.str x) && true) = true
      unfold PyData.canLay0
      rw [show PyData.strOk x = true from h x List.mem_cons_self]; rfl
  have h2 : PyData.depth (EqD.toD xs) ≤ 64 := by
    show PyData.depth (.list (xs.map PyData.str)) ≤ 64
    unfold PyData.depth
    have : PyData.depthAll (xs.map PyData.str) = 0 := by
      clear h h1
      induction xs with
      | nil => simp [PyData.depthAll]
      | cons x r ih => rw [List.map_cons]; unfold PyData.depthAll; rw [ih]; simp [PyData.depth]
    omega
  rw [h1, decide_eq_true h2]; rfl
end Dy

namespace Dy
open PySem PySem.Spec L2
open PyProof.Rows hiding St
open Enc (rep)
open Flat (toV)
open EncA (repA)

def S.back (s t : S) (h : Fle s.F t.F) : S := ⟨s.F, t.H, fun a o q => t.sub a o (h a o q)⟩
theorem backE {s0 s t : S} (h : Fle s.F t.F) (E : Ex s0 s) (E' : Ex s0 t) : Ex s0 (s.back t h) := ⟨E.f, E'.h, E.n⟩
theorem backOwn {α : Type} [Enc α] {K : PySem.W.Frag} {s s1 t : S} {p : Addr} {xs : List α} (h : Fle s.F t.F) (o : Own K s p xs) (h1 : s1.F p = s.H p) (h2 : Fle s1.F t.F) : Own K (s.back t h) p xs := by
  obtain ⟨n, vs, e, r⟩ := o
  exact ⟨n, vs, t.sub _ _ (h2 _ _ (h1.trans e)), r⟩
theorem backOwn2 {α : Type} [Flat α] {K : PySem.W.Frag} {s t : S} {q : Addr} {xs : List α} (h : Fle s.F t.F) (o : Own K t q xs) : Own K (s.back t h) q xs := by
  obtain ⟨n, vs, e, r⟩ := o
  refine ⟨?_, vs, e, ?_⟩
  · show s.F q = none
    cases z : s.F q with
    | none => rfl
    | some u => rw [h _ _ z] at n; cases n
  · rw [r.flat]; exact Reps.of_flat xs
theorem backFlat {α : Type} [Flat α] {K : PySem.W.Frag} {s t : S} {v : V} {x : α} (h : Fle s.F t.F) (r : rep K t.F v x) : rep K (s.back t h).F v x := Flat.iff.mpr (Flat.iff.mp r)
section
variable {α β γ δ : Type} [Enc α] [Enc β] [Enc γ] [Enc δ] {X : Cx} {σ : St} {s t : S} {e a b c tg iter : Expr} {es : List Expr} {pos p0 p1 p2 p3 p4 p5 : Pos} {D : Ends} {rest A B body : List Stmt}
theorem do_frz2 {p : Addr} {xs : List α} {ss : List Stmt} (o : Own X.K s p xs) (k : ∀ s' : S, s'.H = s.H → Fle s.F s'.F → (∀ q, q ≠ p → s'.F q = s.F q) → rep X.K s'.F (.ref p) xs → s'.F p = s.H p → WSs X ss D σ s'.H) : WSs X ss D σ s.H := by
  obtain ⟨hn, vs, hp, r⟩ := o
  have f : Fle s.F (upd s.F p (.lst vs)) := fun a o q => by rw [upd_ne (ne_of_none q hn)]; exact q
  exact k ⟨upd s.F p (.lst vs), s.H, fun a o q => by
    unfold upd at q
    split at q
    · rename_i e; cases q; rw [e]; exact hp
    · exact s.sub a o q⟩ rfl f (fun q hq => upd_ne hq) ⟨p, vs, rfl, .inl (.inl upd_same), r.mono f⟩ (by show upd s.F p (.lst vs) p = _; rw [upd_same, hp])
theorem do_back {ss : List Stmt} (s : S) {t : S} (h : Fle s.F t.F) (k : WSs X ss D σ (s.back t h).H) : WSs X ss D σ t.H := k

section
variable {p : Addr} {n : Str} {xs : List α}
theorem we_pop (i : Nat) {z : Int} {j : Nat} {y : α} {Q : VK} (hσ : σ[i]? = some (some (.ref p))) (o : Own X.K s p xs) (he : Ev X e σ s z) (hj : popN xs.length z = some j) (hy : xs[j]? = some y)
    (k : ∀ v s1, Mx (· = p) s s1 → Own X.K s1 p (xs.eraseIdx j) → rep X.K s1.F v y → Q v s1.H)
    (hN : X.N[i]? = some n := by rfl) (hv : Vis X.env.scope n := by first | exact Or.inl rfl | exact Or.inr (Or.inl rfl) | exact Or.inr (Or.inr rfl)) (hd : (n == ("__debug__" : Str)) = false := by decide) (hcd : (n == ("__classdict__" : Str)) = false := by decide)
    (hbase : attributeBase (.Name n p0) "pop" X.env (eval (.Name n p0) X.env) = eval (.Name n p0) X.env := by rfl)
    (hfew : ((backTo p2 (starEach [e] X.env)).all (fun x => !x.1) && (backToKw p2 (keywordEach [] X.env)).all (fun x => x.1.isSome) && decide (([e] : List Expr).length + ([] : List Keyword).length + (if ([] : List Keyword).isEmpty then 0 else 1) < 30)) = true := by rfl)
    (hline : (p1.endLine == p2.line) = true := by rfl) (hs : starEach [e] X.env = (false, eval e X.env) :: starEach [] X.env := by rfl) (hplain : (backTo p2 (starEach [] X.env)).any (·.1) = false := by rfl) :
    WE X (.Call (.Attribute (.Name n p0) "pop" p1) [e] [] p2) σ s.H Q :=
  we_of (pe_bm PySem.F.plainAttrs_list PySem.F.slot_list_pop PySem.F.type_list_pop mt_popAt (pe_var hN hv hd hcd) (pa_cons pe_we pa_nil hs) hbase hfew hline hs hplain) (by
    obtain ⟨h1, vs, h2, h3⟩ := id o
    refine ⟨_, hσ, .inl ⟨rfl, vs, .inl (.inl h2)⟩, he s (Ex.refl _) _ fun v s1 k1 r1 => ?_⟩
    have f1 := k1.n _ _ h2 h1
    have g1 := k1.h _ _ h2
    unfold popN at hj
    split at hj
    · rename_i hb
      obtain ⟨w, hw, rw'⟩ := (h3.mono k1.f).get hy
      refine ⟨p, vs, z, j, w, rfl, by rw [show v = V.int z from r1], g1, hb.1, hb.2, by rw [h3.len]; exact hj, hw, ?_⟩
      exact k w (s1.put p (.lst (vs.eraseIdx j)) f1) (k1.mx.trans (Mx.put f1)) ⟨f1, _, upd_same, (h3.mono k1.f).erase j⟩ rw'
    · cases hj)
end
def popAt {τ : Type} (xs : List τ) (z : Int) : Option (τ × List τ) := (popN xs.length z).bind fun j => (xs[j]?).map fun y => (y, xs.eraseIdx j)
theorem popAt_some {τ : Type} {xs ys : List τ} {z : Int} {y : τ} (h : popAt xs z = some (y, ys)) : ∃ j, popN xs.length z = some j ∧ xs[j]? = some y ∧ ys = xs.eraseIdx j := by
  unfold popAt at h
  obtain ⟨j, h1, h2⟩ := bndE h
  obtain ⟨w, h3, h4⟩ := Option.map_eq_some_iff.mp h2
  cases h4
  exact ⟨j, h1, h3, rfl⟩
theorem do_setPop (i l : Nat) {p : Addr} {n m : Str} {xs ys : List α} {z : Int} {y : α} {py : Pos} (hσ : σ[i]? = some (some (.ref p))) (o : Own X.K s p xs) (he : Ev X e σ s z) (hj : popAt xs z = some (y, ys))
    (k : ∀ v s1, Mx (· = p) s s1 → Own X.K s1 p ys → rep X.K s1.F v y → WSs X rest D (σ.set l (some v)) s1.H)
    (hnd : X.N.Nodup) (hN : X.N[i]? = some n := by rfl) (hv : Vis X.env.scope n := by first | exact Or.inl rfl | exact Or.inr (Or.inl rfl) | exact Or.inr (Or.inr rfl)) (hd : (n == ("__debug__" : Str)) = false := by decide) (hcd : (n == ("__classdict__" : Str)) = false := by decide)
    (hbase : attributeBase (.Name n p0) "pop" X.env (eval (.Name n p0) X.env) = eval (.Name n p0) X.env := by rfl)
    (hfew : ((backTo p2 (starEach [e] X.env)).all (fun x => !x.1) && (backToKw p2 (keywordEach [] X.env)).all (fun x => x.1.isSome) && decide (([e] : List Expr).length + ([] : List Keyword).length + (if ([] : List Keyword).isEmpty then 0 else 1) < 30)) = true := by rfl)
    (hline : (p1.endLine == p2.line) = true := by rfl) (hs : starEach [e] X.env = (false, eval e X.env) :: starEach [] X.env := by rfl) (hplain : (backTo p2 (starEach [] X.env)).any (·.1) = false := by rfl)
    (hx : Loc X.env.scope m := by first | exact Or.inl rfl | exact Or.inr rfl) (hi : X.N[l]? = some m := by rfl)
    (hsw : swapsWith (.Call (.Attribute (.Name n p0) "pop" p1) [e] [] p2) (some (.Name m py)) pos.line X.env = pure false := by rfl) (hf : X.fn m = true ∨ X.env.scope.names.lookup m = some .local := by first | exact .inl rfl | exact .inr rfl) :
    WSs X (.Assign [.Name m py] (.Call (.Attribute (.Name n p0) "pop" p1) [e] [] p2) pos :: rest) D σ s.H := by
  obtain ⟨j, h1, h2, rfl⟩ := popAt_some hj
  exact do_cons (ps_set hnd hi hx pe_we hsw hf) (we_pop i hσ o he h1 h2 (fun v s1 m1 o1 r1 => k v s1 m1 o1 r1) hN hv hd hcd hbase hfew hline hs hplain)
theorem do_appPop (i l : Nat) {p q : Addr} {n m : Str} {xs ys zs : List α} {z : Int} {y : α} {py : Pos} (hσ : σ[i]? = some (some (.ref p))) (hσ2 : σ[l]? = some (some (.ref q))) (hpq : q ≠ p) (o : Own X.K s p xs) (o2 : Own X.K s q zs) (hz : zs.length < sizeLine) (he : Ev X e σ s z) (hj : popAt xs z = some (y, ys))
    (k : ∀ s1, Mx (fun a => a = p ∨ a = q) s s1 → Own X.K s1 p ys → Own X.K s1 q (zs ++ [y]) → WSs X rest D σ s1.H)
    (hN : X.N[i]? = some n := by rfl) (hv : Vis X.env.scope n := by first | exact Or.inl rfl | exact Or.inr (Or.inl rfl) | exact Or.inr (Or.inr rfl)) (hd : (n == ("__debug__" : Str)) = false := by decide) (hcd : (n == ("__classdict__" : Str)) = false := by decide)
    (hbase : attributeBase (.Name n p0) "pop" X.env (eval (.Name n p0) X.env) = eval (.Name n p0) X.env := by rfl)
    (hfew : ((backTo p2 (starEach [e] X.env)).all (fun x => !x.1) && (backToKw p2 (keywordEach [] X.env)).all (fun x => x.1.isSome) && decide (([e] : List Expr).length + ([] : List Keyword).length + (if ([] : List Keyword).isEmpty then 0 else 1) < 30)) = true := by rfl)
    (hline : (p1.endLine == p2.line) = true := by rfl) (hs : starEach [e] X.env = (false, eval e X.env) :: starEach [] X.env := by rfl) (hplain : (backTo p2 (starEach [] X.env)).any (·.1) = false := by rfl)
    (hN2 : X.N[l]? = some m := by rfl) (hv2 : Vis X.env.scope m := by first | exact Or.inl rfl | exact Or.inr (Or.inl rfl) | exact Or.inr (Or.inr rfl)) (hd2 : (m == ("__debug__" : Str)) = false := by decide) (hcd2 : (m == ("__classdict__" : Str)) = false := by decide)
    (hbase2 : attributeBase (.Name m py) "append" X.env (eval (.Name m py) X.env) = eval (.Name m py) X.env := by rfl)
    (hfew2 : ((backTo p4 (starEach [.Call (.Attribute (.Name n p0) "pop" p1) [e] [] p2] X.env)).all (fun x => !x.1) && (backToKw p4 (keywordEach [] X.env)).all (fun x => x.1.isSome) && decide (([.Call (.Attribute (.Name n p0) "pop" p1) [e] [] p2] : List Expr).length + ([] : List Keyword).length + (if ([] : List Keyword).isEmpty then 0 else 1) < 30)) = true := by rfl)
    (hline2 : (p3.endLine == p4.line) = true := by rfl) (hs2 : starEach [.Call (.Attribute (.Name n p0) "pop" p1) [e] [] p2] X.env = (false, eval (.Call (.Attribute (.Name n p0) "pop" p1) [e] [] p2) X.env) :: starEach [] X.env := by rfl) (hplain2 : (backTo p4 (starEach [] X.env)).any (·.1) = false := by rfl)
    (hsw : swapsWith (.Call (.Attribute (.Name m py) "append" p3) [.Call (.Attribute (.Name n p0) "pop" p1) [e] [] p2] [] p4) none p5.line X.env = pure false := by rfl) :
    WSs X (.Expr (.Call (.Attribute (.Name m py) "append" p3) [.Call (.Attribute (.Name n p0) "pop" p1) [e] [] p2] [] p4) p5 :: rest) D σ s.H := by
  obtain ⟨j, h1, h2, rfl⟩ := popAt_some hj
  refine do_cons (ps_expr (pe_bm PySem.F.plainAttrs_list PySem.F.slot_list_append PySem.F.type_list_append mt_append (pe_var hN2 hv2 hd2 hcd2) (pa_cons pe_we pa_nil hs2) hbase2 hfew2 hline2 hs2 hplain2) hsw) ?_
  obtain ⟨g1, vs, g2, g3⟩ := id o2
  refine ⟨_, hσ2, .inl ⟨rfl, vs, .inl (.inl g2)⟩, we_pop i hσ o he h1 h2 (fun v s1 m1 o1 r1 => ?_) hN hv hd hcd hbase hfew hline hs hplain⟩
  obtain ⟨f1, ws, f2, f3⟩ := o2.mx m1 hpq
  refine ⟨q, ws, v, rfl, rfl, f2, by rw [f3.len]; exact hz, ?_⟩
  have m2 : Mx (fun a => a = p ∨ a = q) s1 (s1.put q (.lst (ws ++ [v])) f1) := ⟨(Mx.put f1).f, fun a u h nn => (Mx.put f1).h a u h fun z => nn (.inr z), (Mx.put f1).n, (Mx.put f1).d⟩
  have m0 : Mx (fun a => a = p ∨ a = q) s s1 := ⟨m1.f, fun a u h nn => m1.h a u h fun z => nn (.inl z), m1.n, m1.d⟩
  refine k (s1.put q (.lst (ws ++ [v])) f1) (m0.trans m2) (o1.mx (Mx.put f1) fun z => hpq z.symm) ⟨f1, _, upd_same, f3.snoc r1⟩
theorem Ex.mu2 {s t u : S} {p q : Addr} (a : Ex s t) (b : Mx (fun a => a = p ∨ a = q) t u) (h : s.H p = none) (h2 : s.H q = none) : Ex s u := a.mu b fun _ e => e.elim (fun z => z ▸ h) fun z => z ▸ h2
def popAll {σ τ : Type} (f : List τ → σ → Option Int) : List τ → List σ → Option (List τ)
  | _, [] => some []
  | l, x :: r => (f l x).bind fun z => (popAt l z).bind fun y => (popAll f y.2 r).bind fun ys => some (y.1 :: ys)
theorem do_retPop (i j : Nat) {τ : Type} [Enc τ] {zs : List τ} {xs ys : List α} {f : List α → τ → Option Int} {p : Addr} {n x : Str} {px : Pos} {ie : Expr} {scope : Scope} {own : List (Str × Nat)} (hc : X.calm = true) (hN : X.N.Nodup) (hi : EvI X (.Name x px) iter σ s zs) (o : Own X.K s p xs) (ok : BlkOk X.N X.env.scope scope own)
    (hj : X.N[j]? = some x) (hjo : j ∈ own.map (·.2)) (hg : ∀ s0 H0 C cl fp, PG (Blk X scope s0 H0 C cl fp) (.Name x px) (gName j)) (hσ : ∀ v, ((wipe σ (own.map (·.2))).set j (some v))[i]? = some (some (.ref p))) (hf : popAll f xs zs = some ys) (hz : ys.length ≤ sizeLine)
    (he : ∀ (l : List α) (y : τ) (z : Int) (v : V) (s1 : S), y ∈ zs → Mx (· = p) s s1 → Own X.K s1 p l → rep X.K s1.F v y → f l y = some z → ∀ s0 H0 C cl fp, Ev (Blk X scope s0 H0 C cl fp) ie ((wipe σ (own.map (·.2))).set j (some v)) s1 z)
    (k : ∀ q s1, Mx (· = p) s s1 → s.H q = none → Own X.K s1 q ys → D.rt (.ref q) s1.H)
    (hNi : X.N[i]? = some n := by rfl)
    (hv : ∀ s0 H0 C cl fp, Vis (Blk X scope s0 H0 C cl fp).env.scope n := by intros; first | exact Or.inl rfl | exact Or.inr (Or.inl rfl) | exact Or.inr (Or.inr rfl)) (hd : (n == ("__debug__" : Str)) = false := by decide) (hcd : (n == ("__classdict__" : Str)) = false := by decide)
    (hbase : ∀ s0 H0 C cl fp, attributeBase (.Name n p0) "pop" (Blk X scope s0 H0 C cl fp).env (eval (.Name n p0) (Blk X scope s0 H0 C cl fp).env) = eval (.Name n p0) (Blk X scope s0 H0 C cl fp).env := by intros; rfl)
    (hfew : ∀ s0 H0 C cl fp, ((backTo p2 (starEach [ie] (Blk X scope s0 H0 C cl fp).env)).all (fun x => !x.1) && (backToKw p2 (keywordEach [] (Blk X scope s0 H0 C cl fp).env)).all (fun x => x.1.isSome) && decide (([ie] : List Expr).length + ([] : List Keyword).length + (if ([] : List Keyword).isEmpty then 0 else 1) < 30)) = true := by intros; rfl)
    (hline : (p1.endLine == p2.line) = true := by rfl) (hs1 : ∀ s0 H0 C cl fp, starEach [ie] (Blk X scope s0 H0 C cl fp).env = (false, eval ie (Blk X scope s0 H0 C cl fp).env) :: starEach [] (Blk X scope s0 H0 C cl fp).env := by intros; rfl) (hplain : ∀ s0 H0 C cl fp, (backTo p2 (starEach [] (Blk X scope s0 H0 C cl fp).env)).any (·.1) = false := by intros; rfl)
    (hs : ∀ x, foldedSetIterable iter X.env x = pure x := by intro _; rfl) : WSs X (.Return (some (.ListComp (.Call (.Attribute (.Name n p0) "pop" p1) [ie] [] p2) [⟨.Name x px, iter, [], 0⟩] scope p3)) pos :: rest) D σ s.H := by
  have hpe : PE X (.ListComp (.Call (.Attribute (.Name n p0) "pop" p1) [ie] [] p2) [⟨.Name x px, iter, [], 0⟩] scope p3) (tLc (WI X (.Name x px) iter) (gName j) tYes (fun σ H Q => ∀ s0 H0 C cl fp, WE (Blk X scope s0 H0 C cl fp) (.Call (.Attribute (.Name n p0) "pop" p1) [ie] [] p2) σ H Q) (own.map (·.2))) :=
    pe_lc hc hN pi_wi ok hg (fun s0 H0 C cl fp => pts_nil) (fun s0 H0 C cl fp => ⟨fun pins s _ _ _ I h => h s0 H0 C cl fp pins s I⟩) hs
  refine do_cons (ps_ret hpe) ?_
  refine (show EvI X (.Name x px) iter σ s zs from hi) s (Ex.refl _) _ fun J s2 k2 W => ?_
  intro Dd hD
  have o2 : Own X.K s2 p xs := o.ex k2
  have hne : p ≠ Dd := Own.ne o2 hD
  refine ⟨fun i m H => ∃ (u : S) (pre l : List α) (vs : List V), u.H = H ∧ m = zs.length - i ∧ Mx (· = p) s2 u ∧ Own X.K u p l ∧ u.F Dd = none ∧ u.H Dd = some (.lst vs) ∧ Reps X.K u.F vs pre ∧ (∃ suf, popAll f l (zs.drop i) = some suf ∧ pre ++ suf = ys), ⟨zs.length, s2.newO Dd (.lst []) hD, [], xs, [], rfl, rfl, (Ex.newO hD).mx, o2.ex (Ex.newO hD), (fF hD : s2.F Dd = none), upd_same, trivial, ys, hf, rfl⟩, ?_⟩
  rintro i' m H ⟨u, pre, l, vs, rfl, rfl, ku, ol, n1, n2, n3, suf, h1, h2⟩
  by_cases hi' : i' < zs.length
  · right
    obtain ⟨g1, g2⟩ := W.go i' u zs[i'] ku.f (List.getElem?_eq_getElem hi')
    refine ⟨g1, fun H' => ∃ m', m' < zs.length - i' ∧ ∃ (u : S) (pre l : List α) (vs : List V), u.H = H' ∧ m' = zs.length - (i' + 1) ∧ Mx (· = p) s2 u ∧ Own X.K u p l ∧ u.F Dd = none ∧ u.H Dd = some (.lst vs) ∧ Reps X.K u.F vs pre ∧ (∃ suf, popAll f l (zs.drop (i' + 1)) = some suf ∧ pre ++ suf = ys), fun H' z => z, fun v H' hy => ?_⟩
    obtain ⟨u', rfl, ku', rv⟩ := g2 v H' hy
    refine ⟨by show wipe ((wipe σ (own.map (·.2))).set j (some v)) (own.map (·.2)) = _; rw [wipe_set hjo]; exact wipe_wipe fun _ z => z, ?_⟩
    unfold tYes
    dsimp only
    rw [if_pos rfl]
    rw [List.drop_eq_getElem_cons hi'] at h1
    unfold popAll at h1
    obtain ⟨z, hz1, h1⟩ := bndE h1
    obtain ⟨⟨y, l'⟩, hz2, h1⟩ := bndE h1
    obtain ⟨suf', hz3, h1⟩ := bndE h1
    cases h1
    obtain ⟨jj, e1, e2, e3⟩ := popAt_some hz2
    subst e3
    have kk : Mx (· = p) s u' := (k2.mx.trans ku).trans ku'.mx
    intro s0 H0 C cl fp
    refine we_pop (X := Blk X scope s0 H0 C cl fp) (e := ie) i (hσ v) (ol.ex ku') (he l zs[i'] z v u' (List.getElem_mem hi') kk (ol.ex ku') rv hz1 s0 H0 C cl fp) e1 e2 (fun w u4 m4 o4 r4 => ?_) hNi (hv s0 H0 C cl fp) hd hcd (hbase s0 H0 C cl fp) (hfew s0 H0 C cl fp) hline (hs1 s0 H0 C cl fp) (hplain s0 H0 C cl fp)
    have k5 : Mx (· = p) u u4 := ku'.mx.trans m4
    have hD4 : u4.H Dd = some (.lst vs) := k5.h _ _ n2 fun z => hne z.symm
    have hF4 : u4.F Dd = none := k5.n _ _ n2 n1
    have hlen : vs.length < sizeLine := by
      have e1 := n3.len
      have e2 : ys.length = pre.length + (suf'.length + 1) := by rw [← h2, List.length_append, List.length_cons]
      omega
    have hlt : zs.length - (i' + 1) < zs.length - i' := by omega
    have md : Mx (· = p) s2 (u4.put Dd (.lst (vs ++ [w])) hF4) := ⟨(ku.trans k5).f, fun a ob h nn => by
      show upd u4.H Dd _ a = some ob
      rw [upd_ne (ne_of_none h hD)]; exact (ku.trans k5).h a ob h nn, (ku.trans k5).n, fun a ob h => by
      obtain ⟨ob', h'⟩ := (ku.trans k5).d a ob h
      exact ⟨ob', by show upd u4.H Dd _ a = some ob'; rw [upd_ne (ne_of_none h hD)]; exact h'⟩⟩
    exact ⟨vs, hD4, hlen, _, hlt, u4.put Dd (.lst (vs ++ [w])) hF4, pre ++ [y], _, vs ++ [w], rfl, rfl, md, o4.mx (Mx.put hF4) hne, hF4, upd_same, (n3.mono k5.f).snoc r4, suf', hz3, by rw [List.append_assoc]; exact h2⟩
  · left
    have hd : zs.drop i' = [] := List.drop_eq_nil_of_le (by omega)
    rw [hd] at h1
    cases h1
    refine ⟨W.stop i' u ku.f (by omega), k Dd u (k2.mx.trans ku) (fr_back k2 hD) ⟨n1, vs, n2, ?_⟩⟩
    rw [← h2, List.append_nil]
    exact n3
end
end Dy

namespace Dy
open PySem PySem.Spec L2
open PyProof.Rows hiding St

theorem php : ∀ (n : Nat) (l : List Nat), l.Nodup → (∀ x ∈ l, x < n) → l.length ≤ n
  | 0, [], _, _ => Nat.le_refl _
  | 0, x :: _, _, h => absurd (h x List.mem_cons_self) (Nat.not_lt_zero _)
  | n + 1, l, hn, h => by
    by_cases hm : n ∈ l
    · have h1 := php n (l.erase n) (hn.erase n) (fun x hx => by
        have h2 := h x (List.mem_of_mem_erase hx)
        have h3 : x ≠ n := (hn.mem_erase_iff.mp hx).1
        omega)
      rw [List.length_erase_of_mem hm] at h1
      omega
    · have := php n l hn (fun x hx => by
        have h2 := h x hx
        have h3 : x ≠ n := fun e => hm (e ▸ hx)
        omega)
      omega
theorem mem_rng {a b x : Int} : x ∈ rng a b ↔ a ≤ x ∧ x < b := by
  constructor
  · exact rng_mem
  · intro ⟨h1, h2⟩
    unfold rng
    refine List.mem_map.mpr ⟨(x - a).toNat, List.mem_range.mpr (by omega), by omega⟩
theorem rng_nodup (a b : Int) : (rng a b).Nodup := by
  unfold rng
  refine List.Pairwise.map _ (fun x y h e => h (by omega)) List.nodup_range
theorem rng_sorted (a b : Int) : (rng a b).Pairwise (· ≤ ·) := by
  unfold rng
  refine List.Pairwise.map _ (fun x y h => ?_) List.pairwise_lt_range
  omega
theorem sort_perm (xs : List Int) : (sortI xs).Perm xs := List.mergeSort_perm _ _
theorem sort_of_perm {xs ys : List Int} (h : xs.Perm ys) (hs : ys.Pairwise (· ≤ ·)) : sortI xs = ys := by
  refine List.Perm.eq_of_pairwise (le := fun x y : Int => x ≤ y) (fun a b _ _ h h' => Int.le_antisymm h h') ?_ hs ((sort_perm xs).trans h)
  have := List.pairwise_mergeSort (le := fun x y : Int => decide (x ≤ y)) (fun a b c h1 h2 => by simp at *; omega) (fun a b => by simp; omega) xs
  exact this.imp (by simp)
theorem perm_rng {l : List Int} {n : Nat} (h1 : l.Nodup) (h2 : l.length = n) (h3 : ∀ x ∈ l, 0 ≤ x ∧ x < n) : l.Perm (rng 0 n) := by
  refine (List.perm_ext_iff_of_nodup h1 (rng_nodup 0 n)).mpr fun a => ⟨fun h => mem_rng.mpr (h3 a h), fun h => ?_⟩
  obtain ⟨a0, a1⟩ := mem_rng.mp h
  refine Classical.byContradiction fun hn => ?_
  have h4 : ((a :: l).map Int.toNat).Nodup := by
    refine List.Pairwise.map (R := fun x y => x ≠ y ∧ 0 ≤ x ∧ 0 ≤ y) _ (fun x y ⟨h, p, q⟩ e => h (by omega)) ?_
    refine List.pairwise_cons.mpr ⟨fun x hx => ⟨fun e => hn (e ▸ hx), a0, (h3 x hx).1⟩, ?_⟩
    refine List.Pairwise.imp_of_mem (fun {x y} hx hy h => ⟨h, (h3 x hx).1, (h3 y hy).1⟩) h1
  have h5 := php n _ h4 (fun x hx => by
    obtain ⟨y, hy, rfl⟩ := List.mem_map.mp hx
    rcases List.mem_cons.mp hy with rfl | hy
    · omega
    · have := h3 y hy; omega)
  simp at h5
  omega
def nxt (o : List Int) (x : Int) : Int := o.getD x.toNat 0
def it (o : List Int) : Nat → Int → Int
  | 0, x => x
  | k + 1, x => nxt o (it o k x)
theorem it_add (o : List Int) (a b : Nat) (x : Int) : it o (a + b) x = it o a (it o b x) := by
  induction a with
  | zero => rw [Nat.zero_add]; rfl
  | succ a ih => rw [Nat.succ_add]; show nxt o _ = nxt o _; rw [ih]
theorem it_one (o : List Int) (x : Int) : it o 1 x = nxt o x := rfl
theorem it_comm (o : List Int) (a b : Nat) (x : Int) : it o a (it o b x) = it o b (it o a x) := by rw [← it_add, ← it_add, Nat.add_comm]
structure IsOrd (o : List Int) : Prop where
  l1 : 1 ≤ o.length
  l2 : o.length ≤ 40
  pm : o.Perm (rng 0 o.length)
theorem isOrd_sort {o : List Int} (h1 : 1 ≤ o.length) (h2 : o.length ≤ 40) (h3 : sortI o = rng 0 o.length) : IsOrd o := ⟨h1, h2, by rw [← h3]; exact (sort_perm o).symm⟩
section
variable {o : List Int}
theorem IsOrd.sort (h : IsOrd o) : sortI o = rng 0 o.length := sort_of_perm h.pm (rng_sorted _ _)
theorem IsOrd.nd (h : IsOrd o) : o.Nodup := h.pm.nodup_iff.mpr (rng_nodup _ _)
theorem IsOrd.mem (h : IsOrd o) {x : Int} : x ∈ o ↔ 0 ≤ x ∧ x < o.length := h.pm.mem_iff.trans mem_rng
theorem nxt_get {x : Int} (h0 : 0 ≤ x) (h1 : x < o.length) : o[x.toNat]? = some (nxt o x) := by
  unfold nxt
  have : x.toNat < o.length := by omega
  rw [List.getElem?_eq_getElem this, List.getD_eq_getElem?_getD, List.getElem?_eq_getElem this]; rfl
theorem nxt_at {x : Int} (h0 : 0 ≤ x) (h1 : x < o.length) : atI o x = some (nxt o x) := by rw [atI_get h0 h1, nxt_get h0 h1]
theorem IsOrd.nxt (h : IsOrd o) {x : Int} (h0 : 0 ≤ x) (h1 : x < o.length) : 0 ≤ Dy.nxt o x ∧ Dy.nxt o x < o.length := h.mem.mp (List.mem_of_getElem? (nxt_get h0 h1))
theorem IsOrd.it (h : IsOrd o) {x : Int} (h0 : 0 ≤ x) (h1 : x < o.length) : ∀ k, 0 ≤ Dy.it o k x ∧ Dy.it o k x < o.length
  | 0 => ⟨h0, h1⟩
  | k + 1 => h.nxt (h.it h0 h1 k).1 (h.it h0 h1 k).2
theorem IsOrd.inj (h : IsOrd o) {x y : Int} (x0 : 0 ≤ x) (x1 : x < o.length) (y0 : 0 ≤ y) (y1 : y < o.length) (e : Dy.nxt o x = Dy.nxt o y) : x = y := by
  have h1 := nxt_get x0 x1
  have h2 := nxt_get y0 y1
  rw [← e] at h2
  obtain ⟨a1, b1⟩ := List.getElem?_eq_some_iff.mp h1
  obtain ⟨a2, b2⟩ := List.getElem?_eq_some_iff.mp h2
  have := (List.getElem_inj h.nd (i := x.toNat) (j := y.toNat) (h₀ := a1) (h₁ := a2)).mp (b1.trans b2.symm)
  omega
theorem IsOrd.itInj (h : IsOrd o) : ∀ (k : Nat) {x y : Int}, 0 ≤ x → x < o.length → 0 ≤ y → y < o.length → Dy.it o k x = Dy.it o k y → x = y
  | 0, _, _, _, _, _, _, e => e
  | k + 1, _, _, x0, x1, y0, y1, e => h.itInj k x0 x1 y0 y1 (h.inj (h.it x0 x1 k).1 (h.it x0 x1 k).2 (h.it y0 y1 k).1 (h.it y0 y1 k).2 e)
theorem least {p : Nat → Prop} : ∀ n, p n → ∃ m, m ≤ n ∧ p m ∧ ∀ k, k < m → ¬ p k := by
  intro n
  induction n using Nat.strongRecOn with
  | _ n ih =>
    intro h
    by_cases hk : ∃ k, k < n ∧ p k
    · obtain ⟨k, h1, h2⟩ := hk
      obtain ⟨m, h3, h4, h5⟩ := ih k h1 h2
      exact ⟨m, by omega, h4, h5⟩
    · exact ⟨n, Nat.le_refl _, h, fun k hk' hp => hk ⟨k, hk', hp⟩⟩
theorem IsOrd.cycle (h : IsOrd o) {x : Int} (h0 : 0 ≤ x) (h1 : x < o.length) : ∃ L, 1 ≤ L ∧ L ≤ o.length ∧ Dy.it o L x = x ∧ ∀ k, 0 < k → k < L → Dy.it o k x ≠ x := by
  have ex : ∃ L, 1 ≤ L ∧ L ≤ o.length ∧ Dy.it o L x = x := by
    refine Classical.byContradiction fun hn => ?_
    have hne : ∀ i j, i < j → j ≤ o.length → Dy.it o i x ≠ Dy.it o j x := fun i j hij hj e => by
      refine hn ⟨j - i, by omega, by omega, ?_⟩
      have e2 : Dy.it o i x = Dy.it o i (Dy.it o (j - i) x) := by rw [← it_add, show i + (j - i) = j by omega]; exact e
      have := h.it h0 h1 (j - i)
      exact (h.itInj i h0 h1 this.1 this.2 e2).symm
    have h2 : ((List.range (o.length + 1)).map fun k => (Dy.it o k x).toNat).Nodup := by
      refine List.Pairwise.map (R := fun a b => a < b ∧ b ≤ o.length) _ (fun a b ⟨p, q⟩ e => ?_) ?_
      · have e1 := h.it h0 h1 a
        have e2 := h.it h0 h1 b
        exact hne a b p q (by omega)
      · refine List.Pairwise.imp_of_mem (fun {a b} ha hb hlt => ⟨hlt, by have := List.mem_range.mp hb; omega⟩) List.pairwise_lt_range
    have h3 := php o.length _ h2 (fun y hy => by
      obtain ⟨k, _, rfl⟩ := List.mem_map.mp hy
      have := h.it h0 h1 k
      omega)
    rw [List.length_map, List.length_range] at h3
    omega
  obtain ⟨L, a, b, c⟩ := ex
  obtain ⟨m, m1, ⟨m2, m3, m4⟩, m5⟩ := least (p := fun L => 1 ≤ L ∧ L ≤ o.length ∧ Dy.it o L x = x) L ⟨a, b, c⟩
  exact ⟨m, m2, m3, m4, fun k k0 k1 e => m5 k k1 ⟨by omega, by omega, e⟩⟩
theorem it_mul {L : Nat} {x : Int} (h : Dy.it o L x = x) : ∀ q, Dy.it o (L * q) x = x
  | 0 => rfl
  | q + 1 => by rw [Nat.mul_succ, it_add, h, it_mul h q]
theorem it_mod {L : Nat} {x : Int} (h : Dy.it o L x = x) (m : Nat) : Dy.it o (m % L) x = Dy.it o m x := by
  conv => rhs; rw [← Nat.mod_add_div m L, it_add, it_mul h]
def srv (o : List Int) (m : Nat) : List Int := (rng 0 o.length).map (Dy.it o m)
theorem srv_len (o : List Int) (m : Nat) : (srv o m).length = o.length := by unfold srv; rw [List.length_map, rng_len]; omega
theorem rng_getE {a b : Int} {i : Nat} (h : i < (b - a).toNat) : (rng a b)[i]? = some (a + (i : Int)) := by
  unfold rng
  rw [List.getElem?_map, List.getElem?_range h]; rfl
theorem srv_at {m : Nat} {x : Int} (h0 : 0 ≤ x) (h1 : x < o.length) : atI (srv o m) x = some (Dy.it o m x) := by
  rw [atI_get h0 (by rw [srv_len]; exact h1)]
  unfold srv
  rw [List.getElem?_map, rng_getE (by omega)]
  show some (Dy.it o m (0 + (x.toNat : Int))) = _
  rw [show (0 : Int) + (x.toNat : Int) = x by omega]
theorem srv_perm (h : IsOrd o) (m : Nat) : (srv o m).Perm (rng 0 o.length) := by
  refine perm_rng ?_ (srv_len o m) (fun x hx => ?_)
  · refine List.Pairwise.map (R := fun (a b : Int) => a ≠ b ∧ (0 ≤ a ∧ a < (o.length : Int)) ∧ 0 ≤ b ∧ b < (o.length : Int)) _ (fun a b ⟨p, q, r⟩ e => p (h.itInj m q.1 q.2 r.1 r.2 e)) ?_
    exact List.Pairwise.imp_of_mem (fun {a b} ha hb hne => ⟨hne, mem_rng.mp ha, mem_rng.mp hb⟩) (rng_nodup _ _)
  · obtain ⟨y, hy, rfl⟩ := List.mem_map.mp hx
    obtain ⟨a, b⟩ := mem_rng.mp hy
    exact h.it a b m
theorem srv_mem (h : IsOrd o) {m : Nat} {x : Int} (hx : x ∈ srv o m) : 0 ≤ x ∧ x < o.length := mem_rng.mp ((srv_perm h m).mem_iff.mp hx)
theorem srv_zero (o : List Int) : srv o 0 = rng 0 o.length := by
  unfold srv
  have : (Dy.it o 0 : Int → Int) = id := by funext x; rfl
  rw [this, List.map_id]
theorem srv_one (o : List Int) : srv o 1 = o := by
  refine List.ext_getElem? fun i => ?_
  unfold srv
  rw [List.getElem?_map]
  by_cases h : i < o.length
  · rw [rng_getE (by omega)]
    show some (Dy.nxt o (0 + (i : Int))) = _
    have := nxt_get (o := o) (x := (i : Int)) (by omega) (by omega)
    rw [show (0 : Int) + (i : Int) = (i : Int) by omega, ← this]
    congr 1
  · rw [List.getElem?_eq_none (by rw [rng_len]; omega), List.getElem?_eq_none (by omega)]; rfl
theorem srv_add (a b : Nat) : (srv o a).map (Dy.it o b) = srv o (b + a) := by
  unfold srv
  rw [List.map_map]
  exact List.map_congr_left fun x _ => (it_add o b a x).symm
end
theorem erase_perm {τ : Type} : ∀ (l : List τ) (i : Nat) (h : i < l.length), (l[i] :: l.eraseIdx i).Perm l
  | [], i, h => absurd h (Nat.not_lt_zero _)
  | x :: xs, 0, _ => List.Perm.refl _
  | x :: xs, i + 1, h => (List.Perm.swap x _ _).trans (List.Perm.cons x (erase_perm xs i (Nat.lt_of_succ_lt_succ h)))
theorem popAt_ok {τ : Type} {l : List τ} {z : Int} (h0 : 0 ≤ z) (h1 : z < l.length) (h2 : l.length < 1000000) : Ok (popAt l z) (fun r => (r.1 :: r.2).Perm l) := by
  unfold popAt popN seqIndex?
  have hl : z.toNat < l.length := by omega
  rw [if_pos ⟨by omega, by omega⟩]
  simp only
  rw [show (if z < 0 then z + (l.length : Int) else z) = z from if_neg (by omega), if_pos (by rw [Bool.and_eq_true]; exact ⟨decide_eq_true h0, decide_eq_true h1⟩), Option.bind_some, List.getElem?_eq_getElem hl]
  exact ok_some (erase_perm l _ hl)
theorem ok_popAll {σ τ : Type} {f : List τ → σ → Option Int} : ∀ {xs : List σ} {l : List τ}, (∀ l' x, l' ≠ [] → l'.length ≤ l.length → x ∈ xs → Ok (f l' x) (fun z => 0 ≤ z ∧ z < l'.length)) → xs.length ≤ l.length → l.length < 1000000 → Ok (popAll f l xs) (fun ys => ys.length = xs.length ∧ ∃ r, (ys ++ r).Perm l)
  | [], l, _, _, _ => ⟨[], rfl, rfl, l, List.Perm.refl _⟩
  | x :: xs, l, h, hl, hz => by
    rw [List.length_cons] at hl
    have hne : l ≠ [] := fun e => by subst e; simp at hl
    unfold popAll
    refine ok_bnd (h l x hne (Nat.le_refl _) List.mem_cons_self) fun z ⟨z0, z1⟩ => ok_bnd (popAt_ok z0 z1 hz) fun r hr => ?_
    have hlen : r.2.length + 1 = l.length := by have := hr.length_eq; rw [List.length_cons] at this; exact this
    refine ok_bnd (ok_popAll (fun l' y hn hl' hy => h l' y hn (by omega) (List.mem_cons_of_mem _ hy)) (by omega) (by omega)) fun ys ⟨e1, r', e2⟩ => ok_some ⟨by rw [List.length_cons, List.length_cons, e1], r', ?_⟩
    exact (List.Perm.cons r.1 e2).trans hr
theorem repl_one {τ : Type} (n : Int) (x : τ) : repl n [x] = List.replicate n.toNat x := by
  unfold repl
  exact List.flatten_replicate_singleton
end Dy

namespace Dy
open PySem PySem.Spec L2
open PyProof.Rows hiding St
instance {α β : Type} [Enc α] [Enc β] : Opn (α × β) := ⟨fun h => by obtain ⟨_, _, _, e, _⟩ := h; cases e⟩
instance {α β γ : Type} [Enc α] [Enc β] [Enc γ] : Opn (T3 α β γ) := ⟨fun h => by obtain ⟨_, _, _, _, e, _⟩ := h; cases e⟩
instance {α β γ : Type} {n m k : Nat} [Shp α n] [Shp β m] [Shp γ k] : Shp (T3 α β γ) (n + m + k + 1) := ⟨fun x => by
  obtain ⟨h1, h2⟩ := Shp.ok x.a
  obtain ⟨h3, h4⟩ := Shp.ok x.b
  obtain ⟨h5, h6⟩ := Shp.ok x.c
  refine ⟨?_, ?_⟩
  · show PyData.canLay0 (.tuple [EqD.toD x.a, EqD.toD x.b, EqD.toD x.c]) = true
    simp [PyData.canLay0, PyData.canLayAll0, h1, h3, h5]
  · show PyData.depth (.tuple [EqD.toD x.a, EqD.toD x.b, EqD.toD x.c]) ≤ n + m + k + 1
    simp [PyData.depth, PyData.depthAll]
    omega⟩
section
variable {X : Cx} {K : PySem.W.Frag} {a b e : Expr} {σ : St} {s : S} {p0 p1 p2 pos : Pos} {α β : Type} [Enc α] [Enc β]
def ixS (x y : Str) : Option Nat := (Builtin.Str.occurrences y x 0 y.length 1).head?
theorem ev_indexS {x y : Str} {j : Nat} (ha : Ev X a σ s y) (hb : Ev X b σ s x) (h : ixS x y = some j)
    (hs : starEach [b] X.env = [(false, eval b X.env)] := by rfl) (hbase : attributeBase a "index" X.env (eval a X.env) = eval a X.env := by rfl) (hline : (p1.endLine == pos.line) = true := by rfl) :
    Ev X (.Call (.Attribute a "index" p1) [b] [] pos) σ s (j : Int) := fun s1 k Q q =>
  we_of (pe_m1 PySem.F.slot_str_index PySem.F.type_str_index mt_sindex pe_we pe_we hs hbase hline) (ha s1 k _ fun v s2 k2 r2 => ⟨⟨y, r2⟩, hb s2 (k.trans k2) _ fun u s3 k3 r3 => by
    unfold ixS at h
    obtain ⟨rest, hr⟩ : ∃ rest, Builtin.Str.occurrences y x 0 y.length 1 = j :: rest := by
      cases ho : Builtin.Str.occurrences y x 0 y.length 1 with
      | nil => rw [ho] at h; cases h
      | cons i rest => rw [ho] at h; cases h; exact ⟨rest, rfl⟩
    exact ⟨y, x, j, rest, r2, by rw [show u = V.str x from r3], hr, q _ s3 (k2.trans k3) rfl⟩⟩)
end
section
variable {α α' α'' β : Type} [Enc α] [Enc α'] [Enc α''] [Enc β] {X : Cx} {σ : St} {s : S} {elt tg iter c : Expr} {ifs : List Expr} {scope : Scope} {own : List (Str × Nat)} {pos : Pos}
theorem ev_some' {e : Expr} {x : Option α} {y : α} (ha : Ev X e σ s x) (h : x = some y) : Ev X e σ s y := fun s1 k Q q => by
  subst h
  exact ha s1 k Q fun v s2 k2 r2 => q v s2 k2 r2
theorem en_comp0P {xs : List (α × α')} {ys : List β} {f : α × α' → Option β} {i j : Nat} (hc : X.calm = true) (hN : X.N.Nodup) (hi : EvI X tg iter σ s xs) (ok : BlkOk X.N X.env.scope scope own)
    (hio : i ∈ own.map (·.2)) (hjo : j ∈ own.map (·.2)) (hg : ∀ s0 H0 C cl fp, PG (Blk X scope s0 H0 C cl fp) tg (gTup X.K 2 (gCons (gName i) (gCons (gName j) gNil)))) (hf : mapO f xs = some ys) (hz : ys.length ≤ sizeLine)
    (he : ∀ (x : α × α') (y : β) (v u : V) (s1 : S), x ∈ xs → Ex s s1 → Enc.rep X.K s1.F v x.1 → Enc.rep X.K s1.F u x.2 → f x = some y → ∀ s0 H0 C cl fp, Ev (Blk X scope s0 H0 C cl fp) elt (((wipe σ (own.map (·.2))).set i (some v)).set j (some u)) s1 y)
    (hs : ∀ x, foldedSetIterable iter X.env x = pure x := by intro _; rfl) : EvL X elt tg iter [] scope σ s ys :=
  ⟨hc, hN, hs, own, _, _, ok, hg, fun _ _ _ _ _ => pts_nil, fun s1 k Q q => comp_read (t := fun _ => some true) hc hN hi ok hg tg_2 (fun _ _ _ _ _ => pts_nil) hf hz (fun F x σ2 ⟨v, u, _, _, e⟩ => by rw [e, wipe_set hjo, wipe_set hio]; exact wipe_wipe fun _ z => z)
    (fun x b s1 σ2 Q _ _ _ hb q => by cases hb; exact q s1 (Ex.refl _)) (fun x y s1 σ2 hx k ⟨v, u, r, r', e⟩ _ hfx => by subst e; exact he x y v u s1 hx k r r' hfx) s1 k Q q⟩
theorem en_comp1P {xs : List (α × α')} {ys : List β} {t : α × α' → Option Bool} {f : α × α' → Option β} {i j : Nat} (hc : X.calm = true) (hN : X.N.Nodup) (hi : EvI X tg iter σ s xs) (ok : BlkOk X.N X.env.scope scope own)
    (hio : i ∈ own.map (·.2)) (hjo : j ∈ own.map (·.2)) (hg : ∀ s0 H0 C cl fp, PG (Blk X scope s0 H0 C cl fp) tg (gTup X.K 2 (gCons (gName i) (gCons (gName j) gNil)))) (hf : compO t f xs = some ys) (hz : ys.length ≤ sizeLine)
    (ht : ∀ (x : α × α') (b : Bool) (v u : V) (s1 : S), x ∈ xs → Ex s s1 → Enc.rep X.K s1.F v x.1 → Enc.rep X.K s1.F u x.2 → t x = some b → ∀ s0 H0 C cl fp, EvT (Blk X scope s0 H0 C cl fp) c (((wipe σ (own.map (·.2))).set i (some v)).set j (some u)) s1 b)
    (he : ∀ (x : α × α') (y : β) (v u : V) (s1 : S), x ∈ xs → Ex s s1 → Enc.rep X.K s1.F v x.1 → Enc.rep X.K s1.F u x.2 → t x = some true → f x = some y → ∀ s0 H0 C cl fp, Ev (Blk X scope s0 H0 C cl fp) elt (((wipe σ (own.map (·.2))).set i (some v)).set j (some u)) s1 y)
    (hs : ∀ x, foldedSetIterable iter X.env x = pure x := by intro _; rfl) : EvL X elt tg iter [c] scope σ s ys :=
  ⟨hc, hN, hs, own, _, _, ok, hg, fun s0 H0 C cl fp => pts_one ⟨fun pins s _ _ _ I h => h s0 H0 C cl fp pins s I⟩, fun s1 k Q q => comp_read (tt := fun σ H Q => ∀ s0 H0 C cl fp, WT (Blk X scope s0 H0 C cl fp) c σ H Q) hc hN hi ok hg tg_2 (fun s0 H0 C cl fp => pts_one ⟨fun pins s _ _ _ I h => h s0 H0 C cl fp pins s I⟩) hf hz (fun F x σ2 ⟨v, u, _, _, e⟩ => by rw [e, wipe_set hjo, wipe_set hio]; exact wipe_wipe fun _ z => z)
    (fun x b s1 σ2 Q hx k ⟨v, u, r, r', e⟩ hb q => by subst e; intro s0 H0 C cl fp; exact ht x b v u s1 hx k r r' hb s0 H0 C cl fp s1 (Ex.refl _) Q q) (fun x y s1 σ2 hx k ⟨v, u, r, r', e⟩ htx hfx => by subst e; exact he x y v u s1 hx k r r' htx hfx) s1 k Q q⟩
end
end Dy

namespace Dy
open PySem PySem.Spec L2
open PyProof.Rows hiding St
open Enc (rep)
open EncA (repA)

inductive Er where
  | pl (c : Str)
  | pi (c f : Str) (i : Int)
  | ps (c f x : Str)
def Er.c : Er → Str
  | .pl c => c
  | .pi c _ _ => c
  | .ps c _ _ => c
inductive Rz (ρ : Type) where
  | ok (r : ρ)
  | er (e : Er)
def tb {α β : Type} (m : Option (Rz α)) (h : Er → Option β) (k : α → Option β) : Option β := match m with
  | none => none
  | some (.ok r) => k r
  | some (.er e) => h e
theorem tbE {α β : Type} {m : Option (Rz α)} {h : Er → Option β} {k : α → Option β} {o : β} (hm : tb m h k = some o) : (∃ e, m = some (.er e) ∧ h e = some o) ∨ ∃ r, m = some (.ok r) ∧ k r = some o := by
  cases m with
  | none => cases hm
  | some x => cases x with
    | ok r => exact .inr ⟨r, rfl, hm⟩
    | er e => exact .inl ⟨e, rfl, hm⟩
def ExR (K : PySem.W.Frag) (F : Hp) (e : Er) (cls : Value) (d : Option Addr) : Prop := match e with
  | .pl c => cls = .ref (He.ga K c) ∧ d = none
  | .pi c f i => cls = .ref (He.ga K c) ∧ ∃ dd, d = some dd ∧ F dd = some (.xd [(f, V.int i)])
  | .ps c f x => cls = .ref (He.ga K c) ∧ ∃ dd, d = some dd ∧ F dd = some (.xd [(f, V.str x)])
theorem exR_cls {K : PySem.W.Frag} {F : Hp} {e : Er} {cls : Value} {d : Option Addr} (h : ExR K F e cls d) : cls = .ref (He.ga K e.c) := by
  cases e with
  | pl c => exact h.1
  | pi c f i => exact h.1
  | ps c f x => exact h.1
theorem ExR.mono {K : PySem.W.Frag} {F F' : Hp} {e : Er} {cls : Value} {d : Option Addr} (k : Fle F F') (h : ExR K F e cls d) : ExR K F' e cls d := by
  cases e with
  | pl c => exact h
  | pi c f i => obtain ⟨h1, dd, h2, h3⟩ := h; exact ⟨h1, dd, h2, k _ _ h3⟩
  | ps c f x => obtain ⟨h1, dd, h2, h3⟩ := h; exact ⟨h1, dd, h2, k _ _ h3⟩
def RzQ {ρ : Type} [Enc ρ] (K : PySem.W.Frag) (s : S) (o : Rz ρ) (Q : VK) (E : XK) : Prop := match o with
  | .ok r => ∀ v s', Ex s s' → rep K s'.F v r → Q v s'.H
  | .er e => ∀ cls d s', Ex s s' → ExR K s'.F e cls d → E cls d s'.H
def spR {A : Type} [EncA A] {ρ : Type} [Enc ρ] (K : PySem.W.Frag) (m : A → Option (Rz ρ)) : Sp := fun vs H Q E => ∃ (s : S) (x : A) (o : Rz ρ), s.H = H ∧ repA K s.F vs x ∧ m x = some o ∧ RzQ K s o Q E
section
variable {X : Cx} {σ : St} {s : S} {e : Expr} {es : List Expr} {p0 p1 p2 pos : Pos} {α : Type} [Enc α]
theorem ev_callR {A : Type} [EncA A] {m : A → Option (Rz α)} {n : Str} {k j : Nat} {x : A} {r : α} (C : Cal X.prog X.w X.K X.mg X.base (L2.CX X.prog X.w) k n (spR X.K m)) (hr : Room j X.A) (hk : k ≤ j) (ha : EvA X (e :: es) σ s x) (h : m x = some (.ok r)) (hg : Gl X n := by rfl)
    (hdb : (n == ("__debug__" : Str)) = false := by decide) (he : starEach (e :: es) X.env = (false, eval e X.env) :: starEach es X.env := by rfl) (hpl : (backTo pos (starEach es X.env)).any (·.1) = false := by rfl) : Ev X (.Call (.Name n p0) (e :: es) [] pos) σ s r := fun s1 k1 Q q => by
  obtain ⟨f, fd, ps, F, hm, kp, b⟩ := C.ex
  refine we_of (pe_callS (E := fun _ _ _ _ => False) F (hr.mono hk) hg hm kp b (fun σ' pins H sh ev s' I c => ?_) pa_wa hdb he hpl) (ha s1 k1 _ fun vs s2 k2 r2 => ⟨s2, x, .ok r, rfl, r2, h, fun v s3 k3 r3 => q v s3 (k2.trans k3) r3⟩)
  obtain ⟨_, _, _, _, _, _, _, _, _, _, _, _, hf⟩ := c
  exact hf.elim
def EvX (X : Cx) (e : Expr) (σ : St) (s : S) : Prop := ∀ s1, Ex s s1 → ∀ Q, WE X e σ s1.H Q
theorem EvX.ev (h : EvX X e σ s) (x : α) : Ev X e σ s x := fun s1 k Q _ => h s1 k Q
theorem evX_call {A : Type} [EncA A] {ρ : Type} [Enc ρ] {m : A → Option (Rz ρ)} {n : Str} {k j : Nat} {x : A} {er : Er} {W : WX} (C : Cal X.prog X.w X.K X.mg X.base (L2.CX X.prog X.w) k n (spR X.K m)) (tk : Takes X W) (hr : Room j X.A) (hk : k ≤ j) (ha : EvA X (e :: es) σ s x) (h : m x = some (.er er))
    (hw : ∀ cls d s2, Ex s s2 → ExR X.K s2.F er cls d → W cls d σ s2.H) (hg : Gl X n := by rfl)
    (hdb : (n == ("__debug__" : Str)) = false := by decide) (he : starEach (e :: es) X.env = (false, eval e X.env) :: starEach es X.env := by rfl) (hpl : (backTo pos (starEach es X.env)).any (·.1) = false := by rfl) : EvX X (.Call (.Name n p0) (e :: es) [] pos) σ s := fun s1 k1 Q => by
  obtain ⟨f, fd, ps, F, hm, kp, b⟩ := C.ex
  exact we_of (pe_callS (E := L2.WE W) F (hr.mono hk) hg hm kp b (fun σ' => passAt tk σ') pa_wa hdb he hpl) (ha s1 k1 _ fun vs s2 k2 r2 => ⟨s2, x, .er er, rfl, r2, h, fun cls d s3 k3 r3 => hw cls d s3 ((k1.trans k2).trans k3) r3⟩)
inductive Nv where
  | nv
instance : Enc Nv := ⟨fun _ _ _ _ => False, fun _ h => h⟩
theorem nv_elim {K : PySem.W.Frag} {F : Hp} {v : V} {x : Nv} {p : Prop} (h : rep K F v x) : p := (show False from h).elim
theorem nv2_elim {β : Type} [Enc β] {K : PySem.W.Frag} {F : Hp} {v : V} {x : β × Nv} {p : Prop} (h : rep K F v x) : p := by
  obtain ⟨_, _, _, _, _, _, h⟩ := h
  exact (show False from h).elim
end
section
variable {P : Program} {w : World} {K : PySem.W.Frag} {mg : Str → Option Value} {base : Heap}
theorem mk_calR {A ρ : Type} [EncA A] [Enc ρ] {m : A → Option (Rz ρ)} {x : Str} {st : Stmt} {f : Addr} {fd : FuncData} {N ps : List Str} {k : Nat} (F : FunP K x st f fd) (hm : mg x = some (.ref f)) (b : Binds K fd ps []) (Sc : FnScope N ps (defScope st))
    (hl : ∀ (F : Hp) (vs : List V) (a : A), repA K F vs a → vs.length = ps.length)
    (body : ∀ (cdv : Value) (A' : Around) (outer : List Env) (s0 : Shared) (H0 : Hp) (E0 : XK), Room k (A'.deeper (envOfC x (defScope st) s0.heap.objs.size f cdv)) → ∀ (s : S) (vs : List V) (a : A) (o : Rz ρ) (Q : VK), repA K s.F vs a → m a = some o →
      RzQ K s o Q E0 → WSs (cxOf (L2.CX P w) P w K mg base N x (defScope st) f cdv A' outer s0 H0 E0) (defBody st) (RD Q) (start N vs) s.H) : Cal P w K mg base (L2.CX P w) (k + 1) x (spR K m) :=
  ⟨f, fd, ps, F.ok Sc (fun vs H Q E ⟨s, a, r, _, h, _⟩ => hl s.F vs a h) (fun cdv A' outer s0 H0 vs Q E hr ⟨s, a, o, e, h1, h2, h3⟩ => ⟨_, pss_ws, by
    have := body cdv A' outer s0 H0 E hr s vs a o Q h1 h2 h3
    rw [e] at this
    exact this⟩), hm, F.kp, b⟩
end
structure ExcF (K : PySem.W.Frag) (mg : Str → Option Value) (c : Str) : Prop where
  q : PySem.W.excIn K (He.ga K c) He.veBase "ValueError.__new__" = true
  kp : PySem.W.keepIn K (.ref (He.ga K c)) = true
  sb : PySem.W.subIn K (.ref (He.ga K c)) (.type "BaseException") = some true
  ty : PySem.W.typeIn K (.ref (He.ga K c)) = some (.type "type")
  gl : mg c = some (.ref (He.ga K c))
section
variable {X : Cx} {σ : St} {s : S} {D : Ends} {rest : List Stmt} {W : WX}
theorem do_raise0 {c m : Str} {j : Nat} {p p2 pos pos' : Pos} (T : ExcF X.K X.mg c) (tk : Takes X W) (h : W (.ref (He.ga X.K c)) none σ s.H) (hc : X.calm = true := by rfl) (hg : Gl X c := by rfl) (hdb : (c == ("__debug__" : Str)) = false := by decide) :
    WSs X (.Raise (some (.Call (.Name c p) [.Constant (.str m) j p2] [] pos)) none pos' :: rest) D σ s.H :=
  do_cons (ps_raise hc tk (pmk_own F.excBase_ValueError T.q T.gl T.kp (raises_own T.sb T.ty) hg hdb)) h
theorem do_tryAs (i : Nat) {x n : Str} {c : Value} {body suite : List Stmt} {b₀ : Stmt} {np pos pos' : Pos} {Wout : WX} (hN : X.N.Nodup) (hcN : Names X x c) (tk : Takes X Wout)
    (h : ∀ pn xe, Takes (X.tr pn xe) (wAs X.K c i (fun a cls d D σ H => ∀ (oe : Obj) (pn : List (Addr × Obj)), Zc cls d oe → (∃ vs, oe.data = .fields vs) → WSs (X.suite a ((a, oe) :: pn)) (b₀ :: suite) D σ H) Wout { D with nx := fun σ' H' => WSs X rest D σ' H' }) → PassesOwn (model X.prog X.w) X.A X.env xe →
      WSs (X.tr pn xe) body { D with nx := fun σ' H' => WSs X rest D σ' H' } σ s.H)
    (hs : X.stack = X.env :: X.outer := by rfl) (hf : X.env.frame = some X.env.locals := by rfl) (hi : X.N[i]? = some n := by rfl) (hln : X.env.kindOf n = some .local := by rfl) :
    WSs X (.Try body [.ExceptHandler (some (.Name x np)) (some n) (b₀ :: suite) pos'] [] [] pos :: rest) D σ s.H :=
  do_cons (ps_try_as (tb := fun W D σ H => ∀ pn xe, Takes (X.tr pn xe) W → PassesOwn (model X.prog X.w) X.A X.env xe → WSs (X.tr pn xe) body D σ H) (ts := fun a cls d D σ H => ∀ (oe : Obj) (pn : List (Addr × Obj)), Zc cls d oe → (∃ vs, oe.data = .fields vs) → WSs (X.suite a ((a, oe) :: pn)) (b₀ :: suite) D σ H)
    hs hf hN hi hln hcN tk (fun W pn xe t po => ⟨fun pins sh σ H D I hh => hh pn xe t po pins sh I⟩) (fun a oe cls d pn hz hv => ⟨fun pins sh σ H D I hh => hh oe pn hz hv pins sh I⟩)) h
end
end Dy

namespace Dy
open PySem PySem.Spec L2
open PyProof.Rows hiding St
open Enc (rep)
open EncA (repA)

section
open PySem.W PySem.Calls
variable {prog : Program} {w : World} {A : Around} {E : Value → Shared → Prop} {K : Frag} {x D : Addr} {ox : Obj} {od : Option Obj}
theorem cls_bind (T : ExcC K D) : findObj K D od "__class__" = some (.bind (.builtin "getset_descriptor.__get__") (.builtin "object.__class__")) := by
  obtain ⟨cd, hc⟩ := Option.isSome_iff_exists.mp (show (clsIn K D).isSome = true by obtain ⟨cd, hc, _⟩ := any_some T.hd; rw [hc]; rfl)
  unfold findObj
  rw [hc, Option.bind_some, T.ha, Option.bind_some]
  simp [T.hn, T.ht]
theorem asks_cls {s : Shared} {Q : Option Value → Shared → Prop} (T : ExcC K D) (X : K.In s.heap) (I : PySem.W.InstAt s.heap x ox D od) (h : Q (some (.ref D)) { s with toks := s.toks + 1 }) : wpAny (model prog w) A (getAttr? (.ref x) "__class__") Q E s := by
  obtain ⟨hp, g, d, t, os⟩ := s
  have l0 := I.type (M := model prog w)
  have l1 := looks_findIn (M := model prog w) X T.hg
  have l2 := looks_findIn (M := model prog w) X T.hk
  have l3 := looks_find (M := model prog w) X I (cls_bind T)
  have sub : Looks (model prog w) hp (isInstance (.ref x) (.type "BaseException")) true := l0.andThen (looks_subIn X T.hs)
  unfold getAttr? getAttrBy? getAttrBy
  refine wpAny_bind (wpAny_mkText (wpAny_bind (wpAny_attempt (wpAny_holding (wpAny_bind (l0.at (wpAny_bind (l1.at ?_))))))))
  have no : (onTheHeap (Value.ref D) && Value.builtin "BaseException.__getattribute__" == Value.builtin "object.__getattribute__") = false := by
    rw [show (Value.builtin "BaseException.__getattribute__" == Value.builtin "object.__getattribute__") = false by decide +kernel]; rfl
  show wpAny _ _ (if (onTheHeap (Value.ref D) && Value.builtin "BaseException.__getattribute__" == Value.builtin "object.__getattribute__") = true then _ else _) _ _ _
  rw [no, if_neg Bool.false_ne_true]
  unfold getAttrByItsOwn hookBefore
  refine wpAny_bind ?_
  rw [if_pos (show onTheHeap (Value.ref D) = true from rfl)]
  refine l2.at (wpAny_bind (wpAny_attempt (wpAny_holding ?_)))
  unfold callGetattribute
  rw [show (false && onTheHeap (Value.builtin "BaseException.__getattribute__")) = false from rfl, if_neg Bool.false_ne_true]
  unfold boundAndCalled
  rw [PySem.F.excAttr_ValueError.ga.bind (.ref x)]
  refine wpAny_bind (wpAny_pure ?_)
  show wpAny _ _ (call (.builtin "BaseException.__getattribute__") [.ref x, .str "__class__" t]) _ _ _
  refine wpAny_call (codeAny_call_builtin PySem.F.excAttr_ValueError.ga.plain PySem.F.entry_bexc_ga ?_)
  refine @check_slot (model prog w) _ _ ⟨hp, g, d, t + 1, os⟩ "BaseException.__getattribute__" "BaseException" "__getattribute__" (.ref x) [.str "__class__" t] [] _ (by decide +kernel) (by decide +kernel) sub (PySem.F.args_bexc_ga (.ref x) (.str "__class__" t)) ?_
  unfold Builtin.«object.__getattribute__»
  refine wpAny_bind (wpAny_of_eq (a := ((Value.ref x : Value), [Value.str "__class__" t])) (by first | rfl | (simp only [slotArgs]; rfl)) ?_)
  refine wpAny_bind (wpAny_pure (wpAny_bind (l0.at (wpAny_bind (l3.at ?_)))))
  show wpAny _ _ (holding [Value.builtin "object.__class__"] (call (.builtin "getset_descriptor.__get__") [.builtin "object.__class__", .ref x, .ref D]) >>= ret) _ _ _
  refine wpAny_bind (wpAny_holding (wpAny_call (class_get (s := ⟨hp, g, d, t + 1, os⟩) (ox := ox) (od := od) X I T.hm (wpAny_pure ?_))))
  show wpAny _ _ (handedOut (.ref D)) _ _ _
  rw [handedOut_of (v := .ref D) rfl]
  first
    | exact wpAny_pure (wpAny_pure h)
    | exact wpAny_pure h
    | exact wpAny_pure (wpAny_bind (wpAny_pure (wpAny_pure h)))
theorem cls_at (T : ExcC K D) : ∃ c' d' cd' sl', K.lookup D = some ⟨c', d', .cls cd', sl'⟩ := by
  obtain ⟨cd, hc, _⟩ := any_some T.hd
  unfold clsIn at hc
  split at hc
  · rename_i c' d' cd' sl' ho
    exact ⟨c', d', cd', sl', ho⟩
  · cases hc
def InstE (a D : Addr) (oe : Obj) : Heap → Prop := fun h => ∃ od, PySem.W.InstAt h a oe D od
theorem kit_exc (T : ExcC K D) : KitX K (.ref x) (.ref D) (InstE x D ox) where
  ty := fun _ _ _ ⟨_, I⟩ => I.type
  it := fun _ _ X _ => by
    obtain ⟨_, _, _, _, ho⟩ := cls_at T
    intro A' Q' E' s' k q
    unfold isType loadHead
    exact wpAny_bind (wpAny_loadPart (k _ _ (X _ _ ho)) (wpAny_pure q))
  ne := fun h tp dd its n sl X htp => by
    obtain ⟨_, _, _, _, ho⟩ := cls_at T
    refine Bool.eq_false_iff.mpr fun q => ?_
    obtain rfl : D = tp := Value.ref.inj (beq_iff_eq.mp q)
    cases (X _ _ ho).symm.trans htp
  ca := fun X ⟨_, I⟩ k => asks_cls T X I k
end

structure Rw where
  v : V
instance : Enc Rw := ⟨fun _ _ v x => v = x.v, fun _ h => h⟩
theorem rw_reps {K : PySem.W.Frag} {F : Hp} : ∀ {vs : List V} {xs : List Rw}, Reps K F vs xs → vs = xs.map (·.v)
  | [], [], _ => rfl
  | _ :: _, _ :: _, ⟨h, t⟩ => by rw [List.map_cons, ← rw_reps t, show _ = _ from h]
  | [], _ :: _, h => h.elim
  | _ :: _, [], h => h.elim
def clsR (K : PySem.W.Frag) (c : Str) : V := if c = ("ValueError" : Str) then .ty "ValueError" else .ref (He.ga K c)
def clsV (K : PySem.W.Frag) (c : Str) : Value := if c = ("ValueError" : Str) then .type "ValueError" else .ref (He.ga K c)
theorem cls_cv (K : PySem.W.Frag) (c : Str) : ClsV (clsR K c) (clsV K c) := by
  unfold clsR clsV
  split
  · exact .ty _
  · exact .own _
theorem cls_all (K : PySem.W.Frag) : ∀ cs : List Str, Paired ClsV (cs.map (clsR K)) (cs.map (clsV K))
  | [] => .nil
  | c :: cs => .cons (cls_cv K c) (cls_all K cs)
def excCB (K : PySem.W.Frag) (D : Addr) : Bool := xfB K D && (He.eqO (PySem.W.findIn K (.ref D) "__class__") (some (some (.builtin "object.__class__"))) && (He.eqO (PySem.W.specialIn K (.builtin "object.__class__") "__get__") (some (some (.builtin "getset_descriptor.__get__"))) &&
  (decide (PySem.W.takesIn K (.builtin "object.__class__") = some true) && decide (PySem.W.mroIn K D (.type "object") = some true))))
theorem excCB_ok {K : PySem.W.Frag} {D : Addr} (h : excCB K D = true) : ExcC K D := by
  unfold excCB at h
  obtain ⟨h0, h⟩ := He.ba h
  obtain ⟨h5, h⟩ := He.ba h
  obtain ⟨h6, h⟩ := He.ba h
  obtain ⟨h7, h8⟩ := He.ba h
  unfold xfB at h0
  obtain ⟨h1, h0⟩ := He.ba h0
  obtain ⟨h2, h0⟩ := He.ba h0
  obtain ⟨h3, h4⟩ := He.ba h0
  exact ⟨of_decide_eq_true h1, of_decide_eq_true h2, of_decide_eq_true h3, h4, He.eqO_ok h5, He.eqO_ok h6, of_decide_eq_true h7, of_decide_eq_true h8⟩
structure ETab where
  ds : List Str
  fl : List (Str × Str)
  is : List ((Str × Str) × Bool)
  ex : List ((Str × Str) × Bool)
def lk (d c : Str) : List ((Str × Str) × Bool) → Option Bool
  | [] => none
  | q :: r => if q.1 = (d, c) then some q.2 else lk d c r
theorem lk_mem {d c : Str} {b : Bool} : ∀ {l : List ((Str × Str) × Bool)}, lk d c l = some b → ((d, c), b) ∈ l
  | [], h => by cases h
  | q :: r, h => by
    unfold lk at h
    split at h
    · rename_i e
      cases h
      rw [← e]
      exact List.mem_cons_self
    · exact List.mem_cons_of_mem _ (lk_mem h)
def ETab.ok (t : ETab) (K : PySem.W.Frag) : Bool := ((t.ds.all fun d => excCB K (He.ga K d)) && t.fl.all fun q => He.eqO (PySem.W.findIn K (.ref (He.ga K q.1)) q.2) (some none)) && ((t.is.all fun q => decide (PySem.W.kitOne K (.ref (He.ga K q.1.1)) (clsV K q.1.2) = some q.2)) && t.ex.all fun q => decide (PySem.W.exmOne K (.ref (He.ga K q.1.1)) (clsV K q.1.2) = some q.2))
def isE (t : ETab) (e : Er) (c : Str) : Option Bool := if e.c ∈ t.ds then lk e.c c t.is else none
def isEs (t : ETab) (e : Er) : List Str → Option Bool
  | [] => some false
  | c :: r => (isE t e c).bind fun b => if b = true then some true else isEs t e r
def exE (t : ETab) (e : Er) (c : Str) : Option Bool := lk e.c c t.ex
def erI (t : ETab) (e : Er) (f : Str) : Option Int := match e with
  | .pi c g i => if g = f ∧ (c, g) ∈ t.fl ∧ c ∈ t.ds then some i else none
  | _ => none
def erS (t : ETab) (e : Er) (f : Str) : Option Str := match e with
  | .ps c g x => if g = f ∧ (c, g) ∈ t.fl ∧ c ∈ t.ds then some x else none
  | _ => none
section
variable {K : PySem.W.Frag} {t : ETab}
theorem ETab.ds_ok (h : t.ok K = true) {d : Str} (hd : d ∈ t.ds) : ExcC K (He.ga K d) := by
  unfold ETab.ok at h
  exact excCB_ok (List.all_eq_true.mp (He.ba (He.ba h).1).1 d hd)
theorem ETab.xf_ok (h : t.ok K = true) {d : Str} (hd : d ∈ t.ds) : XfC K (He.ga K d) := by
  unfold ETab.ok at h
  have := List.all_eq_true.mp (He.ba (He.ba h).1).1 d hd
  unfold excCB at this
  exact xfB_ok (He.ba this).1
theorem ETab.fl_ok (h : t.ok K = true) {d f : Str} (hd : (d, f) ∈ t.fl) : PySem.W.findIn K (.ref (He.ga K d)) f = some none := by
  unfold ETab.ok at h
  exact He.eqO_ok (List.all_eq_true.mp (He.ba (He.ba h).1).2 _ hd)
theorem ETab.is_ok (h : t.ok K = true) {d c : Str} {b : Bool} (hl : lk d c t.is = some b) : PySem.W.kitOne K (.ref (He.ga K d)) (clsV K c) = some b := by
  unfold ETab.ok at h
  exact of_decide_eq_true (List.all_eq_true.mp (He.ba (He.ba h).2).1 _ (lk_mem hl))
theorem ETab.ex_ok (h : t.ok K = true) {d c : Str} {b : Bool} (hl : lk d c t.ex = some b) : PySem.W.exmOne K (.ref (He.ga K d)) (clsV K c) = some b := by
  unfold ETab.ok at h
  exact of_decide_eq_true (List.all_eq_true.mp (He.ba (He.ba h).2).2 _ (lk_mem hl))
theorem exE_ok (h : t.ok K = true) {e : Er} {c : Str} {b : Bool} {cls : Value} {d : Option Addr} {F : Hp} (he : ExR K F e cls d) (hl : exE t e c = some b) : PySem.W.exmOne K cls (clsV K c) = some b := by
  rw [exR_cls he]
  exact ETab.ex_ok h hl
end
section
variable {X : Cx} {σ : St} {s : S} {e : Expr} {es : List Expr} {p0 p1 p2 p3 pos : Pos} {a : Addr} {oe : Obj} {pn : List (Addr × Obj)}
theorem exc_inst {D : Addr} {d : Option Addr} {pins : List (Addr × Obj)} {σ : St} {H : Hp} {sh : Shared} (hz : Zc (.ref D) d oe) (hf : ∃ vs, oe.data = .fields vs) (hd : ∀ dd, d = some dd → ∃ fs, H dd = some (.xd fs)) (I : Inv (X.suite a ((a, oe) :: pn)) pins σ H sh) : InstE a D oe sh.heap := by
  obtain ⟨hget, _⟩ := I.pin (a, oe) (List.mem_append.mpr (.inl List.mem_cons_self))
  obtain ⟨vs, hv⟩ := hf
  cases d with
  | none =>
    exact ⟨none, hget, hz.1, by unfold PySem.W.notCls; rw [hv], by rw [hz.2]; trivial⟩
  | some dd =>
    obtain ⟨fs, he⟩ := hd dd rfl
    obtain ⟨mA, hns, _⟩ := (show ObjOk X.prog X.w H sh.heap dd (.xd fs) from I.hok dd _ he)
    obtain ⟨od, ho, _⟩ := lookIn_ns hns
    exact ⟨some od, hget, hz.1, by unfold PySem.W.notCls; rw [hv], by rw [hz.2]; exact ho⟩
theorem call_isE1 {D : Addr} {d : Option Addr} (C : ExcC X.K D) (hz : Zc (.ref D) d oe) (hf : ∃ vs, oe.data = .fields vs) : CallR (X.suite a ((a, oe) :: pn)) (.builtin "isinstance") (fun xs H Q => (∀ dd, d = some dd → ∃ fs, H dd = some (.xd fs)) ∧ ∃ (c : V) (cv : Value) (b : Bool), xs = [.ref a, c] ∧ ClsV c cv ∧ PySem.W.kitOne X.K (.ref D) cv = some b ∧ Q (.bl b) H) := by
  intro pins s σ H xs us Q I r h
  obtain ⟨hd, c, cv, b, rfl, k, e, q⟩ := h
  obtain ⟨u1, u2, rfl, r1, r2⟩ := vals2 r
  cases (show u1 = Value.ref a from r1)
  have e2 := k.eq r2
  subst e2
  exact PySem.W.kia_one (kit_exc C) I.kIn (exc_inst hz hf hd I) e (fun z => nomatch z) fun tk => ⟨.bl b, H, I.kept (t' := tk) fun _ _ z => z, rfl, q⟩
theorem call_isET {D : Addr} {d : Option Addr} (C : ExcC X.K D) (hz : Zc (.ref D) d oe) (hf : ∃ vs, oe.data = .fields vs) : CallR (X.suite a ((a, oe) :: pn)) (.builtin "isinstance") (fun xs H Q => (∀ dd, d = some dd → ∃ fs, H dd = some (.xd fs)) ∧ ∃ (tp : Addr) (cs : List V) (us : List Value) (b : Bool), xs = [.ref a, .ref tp] ∧ H tp = some (.tup cs) ∧ Paired ClsV cs us ∧ PySem.W.kitAny X.K (.ref D) us = some b ∧ Q (.bl b) H) := by
  intro pins s σ H xs us Q I r h
  obtain ⟨hd, tp, cs, ws, b, rfl, hT, k, e, q⟩ := h
  obtain ⟨u1, u2, rfl, r1, r2⟩ := vals2 r
  cases (show u1 = Value.ref a from r1)
  cases (show u2 = Value.ref tp from r2)
  obtain ⟨_, its, rv, o, h1, h2, n, h3⟩ := (show ObjOk X.prog X.w H s.heap tp (.tup cs) from I.hok tp _ hT)
  have e3 := ClsV.all k rv
  subst e3
  obtain ⟨oc, od, dt, sl⟩ := o
  simp only at h2 h3
  subst h2 h3
  exact PySem.W.kia_tup (kit_exc C) I.kIn (exc_inst hz hf hd I) h1 e (fun z => nomatch z) fun tk => ⟨.bl b, H, I.kept (t' := tk) fun _ _ z => z, rfl, q⟩
theorem exR_xd {K : PySem.W.Frag} {F : Hp} {e : Er} {cls : Value} {d : Option Addr} (h : ExR K F e cls d) : ∀ dd, d = some dd → ∃ fs, F dd = some (.xd fs) := fun dd e1 => by
  cases e with
  | pl c => rw [h.2] at e1; cases e1
  | pi c f i => obtain ⟨_, d2, h2, h3⟩ := h; rw [h2] at e1; cases e1; exact ⟨_, h3⟩
  | ps c f x => obtain ⟨_, d2, h2, h3⟩ := h; rw [h2] at e1; cases e1; exact ⟨_, h3⟩
theorem kit_any {K : PySem.W.Frag} {t : ETab} (h : t.ok K = true) {er : Er} : ∀ {cs : List Str} {b : Bool}, isEs t er cs = some b → PySem.W.kitAny K (.ref (He.ga K er.c)) (cs.map (clsV K)) = some b
  | [], b, e => e
  | c :: r, b, e => by
    unfold isEs isE at e
    by_cases hd : er.c ∈ t.ds
    · rw [if_pos hd] at e
      cases hl : lk er.c c t.is with
      | none => rw [hl] at e; cases e
      | some b1 =>
        rw [hl] at e
        have k1 := ETab.is_ok h hl
        rw [List.map_cons]
        unfold PySem.W.kitAny
        rw [k1]
        cases b1 with
        | true => exact e
        | false => exact kit_any h e
    · rw [if_neg hd] at e; cases e
theorem ev_cls {c : Str} (h : (c ≠ ("ValueError" : Str) ∧ X.mg c = some (.ref (He.ga X.K c))) ∨ (c = ("ValueError" : Str) ∧ X.mg c = none)) (hg : Gl X c := by rfl) (hd : (c == ("__debug__" : Str)) = false := by decide) : Ev X (.Name c pos) σ s (Rw.mk (clsR X.K c)) := by
  rcases h with ⟨h1, h2⟩ | ⟨h1, h2⟩
  · have : clsR X.K c = .ref (He.ga X.K c) := if_neg h1
    rw [this]
    exact ev_glob ⟨.ref (He.ga X.K c), _, h2, rfl, fun _ => rfl⟩ hg hd
  · subst h1
    exact fun s1 k Q q => we_of (pe_bltn (v := .ty "ValueError") hg h2 PyProof.Rows.Boot.«ValueError» rfl (by decide) (by decide)) (q _ s1 (Ex.refl _) rfl)
theorem ev_isE {c : Str} {er : Er} {d : Option Addr} {b : Bool} {t : ETab} (h : t.ok X.K = true) (hl : isE t er c = some b) (hz : Zc (.ref (He.ga X.K er.c)) d oe) (hf : ∃ vs, oe.data = .fields vs) (hx : ExR X.K s.F er (.ref (He.ga X.K er.c)) d) (hm : X.mg "isinstance" = none)
    (ha : Ev (X.suite a ((a, oe) :: pn)) e σ s (Rw.mk (.ref a))) (hb : Ev (X.suite a ((a, oe) :: pn)) (.Name c p1) σ s (Rw.mk (clsR X.K c))) (hg : Gl (X.suite a ((a, oe) :: pn)) "isinstance" := by rfl)
    (he : starEach [e, .Name c p1] X.env = (false, eval e X.env) :: starEach [.Name c p1] X.env := by rfl) (he2 : starEach [.Name c p1] X.env = (false, eval (.Name c p1) X.env) :: starEach [] X.env := by rfl) (hpl : (backTo pos (starEach [.Name c p1] X.env)).any (·.1) = false := by rfl) :
    Ev (X.suite a ((a, oe) :: pn)) (.Call (.Name "isinstance" p0) [e, .Name c p1] [] pos) σ s b := fun s1 k Q q => by
  unfold isE at hl
  by_cases hd : er.c ∈ t.ds
  · rw [if_pos hd] at hl
    refine we_of (pe_callB (call_isE1 (d := d) (ETab.ds_ok h hd) hz hf) hg hm (by decide +kernel) (pa_cons pe_we (pa_cons pe_we pa_nil he2) he) (he := he) (hpl := hpl)) (ha s1 k _ fun v s2 k2 r2 => hb s2 (k.trans k2) _ fun u s3 k3 r3 => ?_)
    cases (show v = .ref a from r2)
    cases (show u = clsR X.K c from r3)
    exact ⟨fun dd e1 => by
      obtain ⟨fs, z⟩ := exR_xd hx dd e1
      exact ⟨fs, s3.sub _ _ (((k.trans k2).trans k3).f _ _ z)⟩, clsR X.K c, clsV X.K c, b, rfl, cls_cv X.K c, ETab.is_ok h hl, q _ s3 (k2.trans k3) rfl⟩
  · rw [if_neg hd] at hl; cases hl
theorem ev_xfI {f : Str} {er : Er} {d : Option Addr} {i : Int} {t : ETab} (h : t.ok X.K = true) (hl : erI t er f = some i) (hz : Zc (.ref (He.ga X.K er.c)) d oe) (hf : ∃ vs, oe.data = .fields vs) (hx : ExR X.K s.F er (.ref (He.ga X.K er.c)) d)
    (ha : Ev (X.suite a ((a, oe) :: pn)) e σ s (Rw.mk (.ref a))) (hb : attributeBase e f X.env (eval e X.env) = eval e X.env := by rfl) : Ev (X.suite a ((a, oe) :: pn)) (.Attribute e f pos) σ s i := fun s1 k Q q => by
  cases er with
  | pl c => cases hl
  | ps c g x => cases hl
  | pi c g j =>
    unfold erI at hl
    dsimp only at hl
    split at hl
    · rename_i hh
      obtain ⟨rfl, h2, h3⟩ := hh
      cases hl
      obtain ⟨_, dd, rfl, h5⟩ := hx
      refine we_of (pe_xf (ETab.xf_ok h h3) (ETab.fl_ok h h2) hz hf pe_we hb) (ha s1 k _ fun v s2 k2 r2 => ?_)
      cases (show v = .ref a from r2)
      exact ⟨rfl, rfl, dd, _, _, rfl, s2.sub _ _ ((k.trans k2).f _ _ h5), by simp, q _ s2 k2 rfl⟩
    · cases hl
theorem ev_xfS {f : Str} {er : Er} {d : Option Addr} {x : Str} {t : ETab} (h : t.ok X.K = true) (hl : erS t er f = some x) (hz : Zc (.ref (He.ga X.K er.c)) d oe) (hf : ∃ vs, oe.data = .fields vs) (hx : ExR X.K s.F er (.ref (He.ga X.K er.c)) d)
    (ha : Ev (X.suite a ((a, oe) :: pn)) e σ s (Rw.mk (.ref a))) (hb : attributeBase e f X.env (eval e X.env) = eval e X.env := by rfl) : Ev (X.suite a ((a, oe) :: pn)) (.Attribute e f pos) σ s x := fun s1 k Q q => by
  cases er with
  | pl c => cases hl
  | pi c g x => cases hl
  | ps c g j =>
    unfold erS at hl
    dsimp only at hl
    split at hl
    · rename_i hh
      obtain ⟨rfl, h2, h3⟩ := hh
      cases hl
      obtain ⟨_, dd, rfl, h5⟩ := hx
      refine we_of (pe_xf (ETab.xf_ok h h3) (ETab.fl_ok h h2) hz hf pe_we hb) (ha s1 k _ fun v s2 k2 r2 => ?_)
      cases (show v = .ref a from r2)
      exact ⟨rfl, rfl, dd, _, _, rfl, s2.sub _ _ ((k.trans k2).f _ _ h5), by simp, q _ s2 k2 rfl⟩
    · cases hl
theorem isEs_ds {t : ETab} {er : Er} {c : Str} {r : List Str} {b : Bool} (h : isEs t er (c :: r) = some b) : er.c ∈ t.ds := by
  unfold isEs isE at h
  by_cases hd : er.c ∈ t.ds
  · exact hd
  · rw [if_neg hd] at h; cases h
theorem names_of {c : Str} (h : X.mg c = some (.ref (He.ga X.K c))) (hg : Gl X c := by rfl) (hd : (c == ("__debug__" : Str)) = false := by decide) (hv : c ≠ ("ValueError" : Str) := by decide) : Names X c (clsV X.K c) := ⟨hg, hd, .inl (by rw [h]; exact congrArg some (if_neg hv).symm)⟩
theorem takes_false : Takes X (fun _ _ _ _ => False) := fun u s' ⟨_, _, _, _, _, _, _, _, _, _, _, _, _, _, _, _, h⟩ => h.elim
theorem ev_isEs {c0 : Str} {cr : List Str} {er : Er} {d : Option Addr} {cs : List Str} {b : Bool} {t : ETab} {n} (h : t.ok X.K = true) (hl : isEs t er cs = some b) (hz : Zc (.ref (He.ga X.K er.c)) d oe) (hf : ∃ vs, oe.data = .fields vs) (hx : ExR X.K s.F er (.ref (He.ga X.K er.c)) d) (hm : X.mg "isinstance" = none)
    (ha : Ev (X.suite a ((a, oe) :: pn)) e σ s (Rw.mk (.ref a))) (hb : EvE (X.suite a ((a, oe) :: pn)) es σ s (cs.map fun c => Rw.mk (clsR X.K c))) (hc : cs.length ≤ 1000) (e0 : cs = c0 :: cr := by rfl) (hg : Gl (X.suite a ((a, oe) :: pn)) "isinstance" := by rfl)
    (he : starEach [e, .Tuple es n p1] X.env = (false, eval e X.env) :: starEach [.Tuple es n p1] X.env := by rfl) (he2 : starEach [.Tuple es n p1] X.env = (false, eval (.Tuple es n p1) X.env) :: starEach [] X.env := by rfl) (hpl : (backTo pos (starEach [.Tuple es n p1] X.env)).any (·.1) = false := by rfl) :
    Ev (X.suite a ((a, oe) :: pn)) (.Call (.Name "isinstance" p0) [e, .Tuple es n p1] [] pos) σ s b := fun s1 k Q q =>
  we_of (pe_callB (call_isET (d := d) (ETab.ds_ok h (isEs_ds (by rw [e0] at hl; exact hl))) hz hf) hg hm (by decide +kernel) (pa_cons pe_we (pa_cons (pe_tup pa_wa) pa_nil he2) he) (he := he) (hpl := hpl)) (ha s1 k _ fun v s2 k2 r2 => hb s2 (k.trans k2) _ fun us s3 k3 r3 => by
    cases (show v = .ref a from r2)
    have e := rw_reps r3
    have e2 : us = cs.map (clsR X.K) := by rw [e, List.map_map]; rfl
    subst e2
    refine ⟨by rw [List.length_map, sizeLine_eq]; omega, fun p hp => ⟨fun dd e1 => ?_, p, _, cs.map (clsV X.K), b, rfl, upd_same, cls_all X.K cs, kit_any h hl, q _ (s3.newF p (.tup (cs.map (clsR X.K))) hp) ((k2.trans k3).trans (Ex.newF hp)) rfl⟩⟩
    obtain ⟨fs, z⟩ := exR_xd hx dd e1
    exact ⟨fs, (s3.newF p _ hp).sub _ _ ((((k.trans k2).trans k3).trans (Ex.newF hp)).f _ _ z)⟩)
end
section
variable {X : Cx} {σ : St} {s : S} {D : Ends} {rest : List Stmt} {e : Expr} {pos : Pos}
theorem do_dropX (h : EvX X e σ s) (hs : swapsWith e none pos.line X.env = pure false := by rfl) : WSs X (.Expr e pos :: rest) D σ s.H :=
  do_cons (ps_expr pe_we hs) (h s (Ex.refl _) _)
theorem do_retX (h : EvX X e σ s) : WSs X (.Return (some e) pos :: rest) D σ s.H := do_cons (ps_ret pe_we) (h s (Ex.refl _) _)
theorem do_setX (i : Nat) {n : Str} {py : Pos} (h : EvX X e σ s) (hN : X.N.Nodup) (hx : Loc X.env.scope n := by first | exact Or.inl rfl | exact Or.inr rfl) (hi : X.N[i]? = some n := by rfl)
    (hs : swapsWith e (some (.Name n py)) pos.line X.env = pure false := by rfl) (hf : X.fn n = true ∨ X.env.scope.names.lookup n = some .local := by first | exact .inl rfl | exact .inr rfl) : WSs X (.Assign [.Name n py] e pos :: rest) D σ s.H :=
  do_cons (ps_set hN hi hx pe_we hs hf) (h s (Ex.refl _) _)
theorem do_unpX (i j : Nat) {tg : Expr} (h : EvX X e σ s) (hg : PG X tg (gTup X.K 2 (gCons (gName i) (gCons (gName j) gNil)))) (hs : swapsWithSole [tg] e pos.line X.env = pure false := by rfl) (hw : swappedStores [tg] e X.env = pure none := by rfl)
    (h1 : (assignEach [tg] X.env).map (·.2) = [assign tg X.env] := by rfl) : WSs X (.Assign [tg] e pos :: rest) D σ s.H :=
  do_cons (ps_asg pe_we hg hs hw h1) (h s (Ex.refl _) _)
theorem was_of {K : PySem.W.Frag} {c : Value} {i : Nat} {ts : Addr → Value → Option Addr → TS} {Wout : WX} {cls : Value} {d : Option Addr} {σ : St} {H : Hp} (h1 : PySem.W.exmOne K cls c = some true)
    (h2 : ∀ a, H a = none → ts a cls d { nx := fun σ' H' => D.nx (σ'.set i none) H', rt := D.rt, bk := fun σ' H' => D.bk (σ'.set i none) H', ct := fun σ' H' => D.ct (σ'.set i none) H' } (σ.set i (some (.ref a))) H) : wAs K c i ts Wout D cls d σ H := ⟨true, h1, fun _ => h2, fun z => nomatch z⟩
theorem do_ifC {c : Expr} {A B : List Stmt} {x : Bool} (hc : EvT X c σ s x) (h1 : x = true → ∀ s1, Ex s s1 → WSs X A { D with nx := fun σ' H' => WSs X rest D σ' H' } σ s1.H) (h2 : x = false → ∀ s1, Ex s s1 → WSs X B { D with nx := fun σ' H' => WSs X rest D σ' H' } σ s1.H) : WSs X (.If c A B pos :: rest) D σ s.H :=
  do_cons (ps_if pt_wt pss_ws pss_ws) (hc s (Ex.refl _) _ fun s1 k => by
    cases x with
    | true => exact iteT (h1 rfl s1 k)
    | false => exact iteF (h2 rfl s1 k))
end

section
variable {α : Type} [Enc α] {X : Cx} {σ : St} {s : S} {a b : Expr} {pos : Pos}
theorem en_repO {p : Addr} {xs : List α} {n : Int} (ha : Ev X a σ s (Rw.mk (.ref p))) (o : Own X.K s p xs) (hb : ∀ t, Ex s t → Ev X b σ t n) (hz : RepOk n xs.length) : EvN X (.BinOp a .Mult b pos) σ s (repl n xs) := fun s1 k Q q =>
  we_of (pe_op op_rep pe_we pe_we) (ha s1 k _ fun v s2 k2 r2 => by
    cases (show v = V.ref p from r2)
    exact hb s2 (k.trans k2) s2 (Ex.refl _) _ fun u s3 k3 r3 => by
      obtain ⟨_, vs, h1, h2⟩ := o.ex ((k.trans k2).trans k3)
      exact ⟨p, n, vs, rfl, r3, h1, hz.1, hz.2.1, by rw [h2.len]; exact hz.2.2, fun l hl => q l (s3.newO l _ hl) ((k2.trans k3).trans (Ex.newO hl)) (fr_back (k2.trans k3) hl) (own_new hl (h2.repF _))⟩)
end
theorem goN {β ρ γ : Type} {b : β} {k : β → γ} {e : ρ → γ} {r : γ} (h : Fl.go (Fl.nx b) k e = r) : k b = r := h
def obsX (n : Nat) (fa : List He.Fa) (fn : List He.DefD) (gs : PySem.W.Frag → Bool) (g : Addr → Option Obj) : Bool × He.AlD := (gs (He.frG g (He.asD g n)), He.obsDG n fa fn g)
def hookX (n : Nat) (fa : List He.Fa) (fn : List He.DefD) (gs : PySem.W.Frag → Bool) : PySem.W.Hook where
  α := Bool × He.AlD
  obs := fun s => obsX n fa fn gs s.heap.get?
  val := fun _ => (true, He.valD fn)
  says := fun _ h => ∃ K : PySem.W.Frag, K.In h ∧ He.SaysD fa fn K ∧ gs K = true
  of := fun _ _ e => ⟨_, He.frG_in, congrArg (fun z : Bool × He.AlD => z.2) e, congrArg (fun z : Bool × He.AlD => z.1) e⟩
  keeps := fun _ _ _ ⟨K, hK, c, d⟩ k => ⟨K, PySem.W.Frag.In.keeps hK k, c, d⟩
theorem obsX_eq {n : Nat} {fa : List He.Fa} {fn : List He.DefD} {gs : PySem.W.Frag → Bool} {g : Addr → Option Obj} {s : Shared} (h : ∀ a, g a = s.heap.get? a) : obsX n fa fn gs g = (hookX n fa fn gs).obs s := by
  have e : g = s.heap.get? := funext h
  rw [e] <;> rfl
end Dy

namespace Dy
open PySem PySem.Spec L2
open PyProof.Rows hiding St
open Enc (rep)
open EncA (repA)

def oexB (K : PySem.W.Frag) (C : Addr) : Bool := match K.lookup C with
  | some ⟨.type "type", _, .cls cd, sl⟩ => (match cd.mro, sl.toList with
    | .ref C' :: bm, [_, _, _, _, some (.builtin n), _] => C' == C && (n == "ValueError.__new__" && (!cd.hasDel && (cd.hasDict && PySem.HandSPX.refsVE bm)))
    | _, _ => false)
  | _ => false
theorem oexB_ok {K : PySem.W.Frag} {C : Addr} (h : oexB K C = true) : ∃ nm q N bs bm sn sub ab col dd k0 k1 k2 k3 k5, K.lookup C = some (excClassObj nm q C N bs bm true sn sub ab col dd k0 k1 k2 k3 k5 "ValueError.__new__") ∧ PySem.HandSPX.refsVE bm = true := by
  unfold oexB at h
  split at h
  · rename_i dd cd sl ho
    split at h
    · rename_i C' bm k0 k1 k2 k3 n k5 hm hs
      simp only [Bool.and_eq_true, beq_iff_eq, Bool.not_eq_true'] at h
      obtain ⟨rfl, rfl, h1, h2, h3⟩ := h
      obtain ⟨nm, bs, mro, ns, qn, hd, sn, sub, ab, col, del⟩ := cd
      dsimp only at hm h1 h2
      subst hm h1 h2
      obtain ⟨l⟩ := sl
      simp only at hs
      subst hs
      exact ⟨nm, qn, ns, bs, bm, sn, sub, ab, col, dd, k0, k1, k2, k3, k5, ho, h3⟩
    · cases h
  · cases h
def payB (K : PySem.W.Frag) (c f : Str) : Bool := oexB K (He.ga K c) && (He.eqO (PySem.W.findIn K (.ref (He.ga K c)) "__setattr__") (some (some (.builtin "object.__setattr__"))) && (decide (PySem.W.subIn K (.ref (He.ga K c)) (.type "BaseException") = some true) && (decide (PySem.W.typeIn K (.ref (He.ga K c)) = some (.type "type")) &&
  (PySem.W.keepIn K (.ref (He.ga K c)) && (He.eqO (PySem.W.findIn K (.ref (He.ga K c)) "__init__") (some (some (.ref (He.fAd K (c, some "__init__"))))) && (decide (PySem.W.typeIn K (.ref (He.fAd K (c, some "__init__"))) = some (.type "function")) && He.eqO (PySem.W.findIn K (.ref (He.ga K c)) f) (some none)))))))
structure PayF (K : PySem.W.Frag) (c f : Str) : Prop where
  o : OexC K (He.ga K c)
  i : PySem.W.findIn K (.ref (He.ga K c)) "__init__" = some (some (.ref (He.fAd K (c, some "__init__"))))
  t : PySem.W.typeIn K (.ref (He.fAd K (c, some "__init__"))) = some (.type "function")
  n : PySem.W.findIn K (.ref (He.ga K c)) f = some none
theorem payB_ok {K : PySem.W.Frag} {c f : Str} (h : payB K c f = true) : PayF K c f := by
  unfold payB at h
  obtain ⟨h1, h⟩ := He.ba h
  obtain ⟨h2, h⟩ := He.ba h
  obtain ⟨h3, h⟩ := He.ba h
  obtain ⟨h4, h⟩ := He.ba h
  obtain ⟨h5, h⟩ := He.ba h
  obtain ⟨h6, h⟩ := He.ba h
  obtain ⟨h7, h8⟩ := He.ba h
  exact ⟨⟨oexB_ok h1, He.eqO_ok h2, of_decide_eq_true h3, of_decide_eq_true h4, h5⟩, He.eqO_ok h6, of_decide_eq_true h7, He.eqO_ok h8⟩
def spInit (K : PySem.W.Frag) (f : Str) : Sp := fun vs H Q _ => ∃ (a C : Addr) (v : V), vs = [.ref a, v] ∧ H a = some (exo a C none) ∧ OexC K C ∧ PySem.W.findIn K (.ref C) f = some none ∧ ∀ dx, H dx = none → dx ≠ a → Q .non (upd (upd H dx (exd dx [(f, v)])) a (exo a C (some dx)))
section
variable {P : Program} {w : World} {K : PySem.W.Frag} {mg : Str → Option Value} {base : Heap}
theorem mk_init {f x : Str} {ar : Arguments} {sc : Scope} {q : Str} {fI : Addr} {fd : FuncData} {k : Nat} {p1 p2 p3 p4 : Pos} (F : FunD K "__init__" q ar [.Assign [.Attribute (.Name "self" p1) f p2] (.Name x p3) p4] sc [] [] fI fd) (Sc : FnScope ["self", x] ["self", x] sc)
    (hv : ∀ (cdv : Value) (A' : Around) (outer : List Env) (s0 : Shared) (H0 : Hp) (E0 : XK), Vis (cxOf CX0 P w K mg base ["self", x] q sc fI cdv A' outer s0 H0 E0).nox.env.scope "self" ∧ Vis (cxOf CX0 P w K mg base ["self", x] q sc fI cdv A' outer s0 H0 E0).nox.env.scope x ∧
      swapsWith (.Name x p3) (some (.Attribute (.Name "self" p1) f p2)) p4.line (cxOf CX0 P w K mg base ["self", x] q sc fI cdv A' outer s0 H0 E0).nox.env = pure false)
    (hx : (x == ("__debug__" : Str)) = false := by decide) (hx2 : (x == ("__classdict__" : Str)) = false := by decide) : FnOk P w K mg base CX0 (k + 1) fI fd ["self", x] (spInit K f) :=
  F.ok Sc (fun vs H Q E ⟨a, C, v, e, _⟩ => by rw [e]; rfl) (fun cdv A' outer s0 H0 vs Q E hr ⟨a, C, v, e, h1, h2, h3, h4⟩ => by
    obtain ⟨v1, v2, v3⟩ := hv cdv A' outer s0 H0 E
    subst e
    exact ⟨_, PSs.nox (pss_cons (ps_ost (pe_var (i := 0) rfl v1 (by decide) (by decide)) (pe_var (i := 1) rfl v2 hx hx2) v3) pss_nil), v, rfl, .ref a, rfl, a, C, rfl, h2, h3, .inl ⟨h1, fun dx n ne => h4 dx n ne⟩⟩)
end
section
variable {X : Cx} {σ : St} {s : S} {D : Ends} {rest : List Stmt} {W : WX} {e : Expr}
theorem do_raiseI {c f : Str} {fd : FuncData} {ps : List Str} {k j : Nat} {i : Int} {p pos pos' : Pos} (T : PayF X.K c f) (gC : X.mg c = some (.ref (He.ga X.K c))) (F1 : FnOk X.prog X.w X.K X.mg X.base CX0 k (He.fAd X.K (c, some "__init__")) fd ps (spInit X.K f)) (hb : Binds X.K fd ps [])
    (tk : Takes X W) (hr : Room j X.A) (hk : k + 1 ≤ j) (ha : Ev X e σ s i) (h : ∀ d s1, Ex s s1 → s1.F d = some (.xd [(f, V.int i)]) → W (.ref (He.ga X.K c)) (some d) σ s1.H)
    (hc : X.calm = true := by rfl) (hg : Gl X c := by rfl) (hdb : (c == ("__debug__" : Str)) = false := by decide) (he : starEach [e] X.env = (false, eval e X.env) :: starEach [] X.env := by rfl) (hpl : (backTo pos (starEach [] X.env)).any (·.1) = false := by rfl) :
    WSs X (.Raise (some (.Call (.Name c p) [e] [] pos)) none pos' :: rest) D σ s.H :=
  do_cons (ps_raise hc tk (pmk_oex T.o T.i T.t F1 (hr.mono hk) hb .nil pass0 hg gC (pa_cons pe_we pa_nil he) hdb he hpl)) (ha s (Ex.refl _) _ fun v s2 k2 r2 => by
    obtain rfl : v = V.int i := r2
    refine ⟨by simp, fun a hna => ⟨a, He.ga X.K c, V.int i, rfl, upd_same, T.o, T.n, fun dx h1 h2 => ?_⟩⟩
    have hdx : s2.H dx = none := by rw [upd_ne h2] at h1; exact h1
    refine ⟨rfl, dx, _, upd_same, by rw [upd_ne h2, upd_same], hdx, ?_⟩
    have eH : upd (del (upd (upd (upd s2.H a (exo a (He.ga X.K c) none)) dx (exd dx [(f, V.int i)])) a (exo a (He.ga X.K c) (some dx))) a) dx (.xd [(f, V.int i)]) = (s2.newF dx (.xd [(f, V.int i)]) hdx).H := by
      funext b
      show _ = upd s2.H dx (.xd [(f, V.int i)]) b
      by_cases hb1 : b = dx
      · subst hb1; rw [upd_same, upd_same]
      · rw [upd_ne hb1, upd_ne hb1]
        by_cases hb2 : b = a
        · subst hb2; rw [del_same, hna]
        · rw [del_ne hb2, upd_ne hb2, upd_ne hb1, upd_ne hb2]
    rw [eH]
    exact h dx _ (k2.trans (Ex.newF hdx)) upd_same)
end
def InitOk (P : Program) (w : World) (K : PySem.W.Frag) (mg : Str → Option Value) (base : Heap) (c f : Str) : Prop := ∃ (fd : FuncData) (ps : List Str), FnOk P w K mg base CX0 1 (He.fAd K (c, some "__init__")) fd ps (spInit K f) ∧ Binds K fd ps []
section
variable {α : Type} [Enc α] {X : Cx} {σ : St} {s : S} {e : Expr}
theorem ev_t2u {x : α × α} (h : Ev X e σ s x) : Ev X e σ s (⟨[x.1, x.2]⟩ : Tu α) := fun s1 k Q q => h s1 k Q fun v s2 k2 r => q v s2 k2 (by
  obtain ⟨p, v1, v2, rfl, h0, h1, h2⟩ := r
  exact ⟨p, [v1, v2], rfl, h0, h1, h2, trivial⟩)
end
class Arity (α : Type) (n : outParam Nat) extends Enc α where
  ar : ∀ {K : PySem.W.Frag} {F : Hp} {v : V} {x : α}, rep K F v x → ∃ p vs, v = .ref p ∧ SqT K F p vs ∧ vs.length = n
instance {α β : Type} [Enc α] [Enc β] : Arity (α × β) 2 := ⟨fun h => by
  obtain ⟨p, v1, v2, e, h, _⟩ := h
  exact ⟨p, _, e, h, rfl⟩⟩
instance {α β γ : Type} [Enc α] [Enc β] [Enc γ] : Arity (T3 α β γ) 3 := ⟨fun h => by
  obtain ⟨p, v1, v2, v3, e, h, _⟩ := h
  exact ⟨p, _, e, h, rfl⟩⟩
section
variable {α : Type} {X : Cx} {σ : St} {s : S} {e : Expr} {p0 pos : Pos}
theorem ev_lenA {n : Nat} [Arity α n] {x : α} (hm : X.mg "len" = none) (ha : Ev X e σ s x) (hg : Gl X "len" := by rfl) (he : starEach [e] X.env = (false, eval e X.env) :: starEach [] X.env := by rfl) (hpl : (backTo pos (starEach [] X.env)).any (·.1) = false := by rfl) : Ev X (.Call (.Name "len" p0) [e] [] pos) σ s (n : Int) :=
  ev_B1 call_len_seq hg hm boot_len ha (fun v s2 r2 Q q => by
    obtain ⟨p, vs, rfl, h1, h2⟩ := Arity.ar r2
    exact ⟨p, vs, rfl, .inr (sqt_mono s2.sub h1), q _ s2 (Ex.refl _) (by rw [h2]; rfl)⟩) (he := he) (hpl := hpl)
end
end Dy

namespace Dy
open PySem PySem.Spec L2
open PyProof.Rows hiding St
open Enc (rep)

def dsz (ns : List Int) : Nat := (PyProof.Rows.firstMet (fun i => ns.getD i 0) ns.length).length
section
variable {X : Cx} {a : Expr} {ta : TE} {p p2 q pos : Pos}
def tDsz (K : PySem.W.Frag) (ta : TE) : TE := fun σ H Q => ta σ H fun x H1 => ∃ (l : Addr) (ns : List Int), x = .ref l ∧ SqL K H1 l (ns.map V.int) ∧ ns.length ≤ 4000 ∧ dsz ns ≤ ns.length ∧ Q (.int (dsz ns : Nat)) H1
theorem pe_dsz (hg : Gl X "len") (hm : X.mg "len" = none) (hg2 : Gl X "set") (hm2 : X.mg "set" = none) (ha : PE X a ta) (hc : X.calm = true := by rfl)
    (na : starEach [a] X.env = (false, eval a X.env) :: starEach [] X.env := by rfl) : PE X (.Call (.Name "len" p) [.Call (.Name "set" p2) [a] [] q] [] pos) (tDsz X.K ta) := by
  refine ⟨fun pins s σ H Q I h => ?_⟩
  refine Call_ (ld_blt I hg hm boot_len (PyProof.Rows.callWith_builtin1 (PyProof.Rows.args_cons (Call_ (ld_blt I hg2 hm2 boot_set (PyProof.Rows.callWith_type1 (PyProof.Rows.args_cons (thn (ha.run pins s σ H _ I h) fun v s1 ⟨x, H1, I1, r1, l, ns, e, hq, hl, hd0, q1⟩ => PyProof.Rows.args_nil ?_) na) na rfl))) rfl) rfl rfl))
  subst e
  cases r1
  obtain ⟨its, r, pl, hz⟩ := I1.list hq
  have hlen : its.toArray.size = ns.length := by rw [List.size_toArray, ← r.length, List.length_map]
  refine call_set_list (I1.ok.hd hc) pl.isList (by simpa using RZ.intsAre_vals r) (by rw [hlen]; unfold scanBound; omega) fun h' tk hS hk => PyProof.Rows.args_nil ?_
  rw [hlen] at hS
  obtain ⟨o, es, ep, t, ho, hex, hd, _, _, _, hf, hn⟩ := hS
  have I2 : Inv X pins σ H1 { s1 with heap := h', toks := tk } := I1.kept fun b o e => hk b o (Heap.lt_size e) e
  unfold dsz at hd0 q1
  exact call_len_set ho hex hd hf (by rw [hn] <;> omega) ⟨.int (dsz ns : Nat), H1, I2.tok _, ⟨_, by rw [hn]; rfl⟩, q1⟩
theorem dsz_le (ns : List Int) : dsz ns ≤ ns.length := PyProof.Rows.firstMet_length_le _ _
variable {σ : St} {s : S}
theorem ev_dsz {xs : List Int} (hm : X.mg "len" = none) (hm2 : X.mg "set" = none) (ha : EvR X a σ s xs) (hz : xs.length ≤ 4000) (hc : X.calm = true := by rfl) (hg : Gl X "len" := by rfl) (hg2 : Gl X "set" := by rfl) (na : starEach [a] X.env = (false, eval a X.env) :: starEach [] X.env := by rfl) :
    Ev X (.Call (.Name "len" p) [.Call (.Name "set" p2) [a] [] q] [] pos) σ s ((dsz xs : Nat) : Int) := fun s1 k Q qq =>
  we_of (pe_dsz hg hm hg2 hm2 pe_we hc na) (ha s1 k _ fun v s2 k2 r2 => by
    obtain ⟨p, vs, rfl, h1, h2⟩ := r2
    obtain rfl := h2.flat
    exact ⟨p, xs, rfl, h1, hz, dsz_le xs, qq _ s2 k2 rfl⟩)
end
theorem fm_inv (ns : List Int) : ∀ i, i ≤ ns.length → (∀ x, x ∈ PyProof.Rows.firstMet (fun i => ns.getD i 0) i ↔ x ∈ ns.take i) ∧ ((PyProof.Rows.firstMet (fun i => ns.getD i 0) i).length = i ↔ (ns.take i).Nodup)
  | 0, _ => by
    rw [PyProof.Rows.firstMet_zero]
    simp
  | i + 1, h => by
    obtain ⟨h1, h2⟩ := fm_inv ns i (by omega)
    have h3 := PyProof.Rows.firstMet_length_le (fun i => ns.getD i 0) i
    have e1 : ns.getD i 0 = ns[i] := by rw [List.getD_eq_getElem?_getD, List.getElem?_eq_getElem (by omega)]; rfl
    have e2 : ns.take (i + 1) = ns.take i ++ [ns[i]] := by rw [List.take_add_one, List.getElem?_eq_getElem (by omega)]; rfl
    rw [PyProof.Rows.firstMet_succ, e2]
    generalize PyProof.Rows.firstMet (fun i => ns.getD i 0) i = m at *
    have e3 : PyProof.Rows.step_dedup m (ns.getD i 0) = if ns[i] ∈ m then m else m ++ [ns[i]] := by
      unfold PyProof.Rows.step_dedup
      rw [e1]
      have e4 : (m.any fun x => x == ns[i]) = true ↔ ns[i] ∈ m := by
        rw [List.any_eq_true]
        exact ⟨fun ⟨y, hy, ey⟩ => eq_of_beq ey ▸ hy, fun hm => ⟨_, hm, beq_self_eq_true _⟩⟩
      by_cases hm : ns[i] ∈ m
      · rw [if_pos hm, if_pos (e4.mpr hm)]
      · rw [if_neg hm, if_neg (fun z => hm (e4.mp z))]
    show (∀ x, x ∈ PyProof.Rows.step_dedup m (ns.getD i 0) ↔ _) ∧ ((PyProof.Rows.step_dedup m (ns.getD i 0)).length = i + 1 ↔ _)
    rw [e3]
    by_cases hm : ns[i] ∈ m
    · rw [if_pos hm]
      have hm2 := (h1 _).mp hm
      refine ⟨fun x => ?_, fun e => by omega, fun hn => ?_⟩
      · rw [List.mem_append, h1, List.mem_singleton]
        exact ⟨.inl, fun z => z.elim id fun z => z ▸ hm2⟩
      · exact absurd rfl ((List.nodup_append.mp hn).2.2 _ hm2 _ (List.mem_singleton.mpr rfl))
    · rw [if_neg hm]
      have hm2 : ns[i] ∉ ns.take i := fun z => hm ((h1 _).mpr z)
      refine ⟨fun x => by rw [List.mem_append, List.mem_append, h1], fun e => ?_, fun hn => ?_⟩
      · rw [List.length_append, List.length_singleton] at e
        refine List.nodup_append.mpr ⟨h2.mp (by omega), by simp, fun a ha b hb e => ?_⟩
        rw [List.mem_singleton.mp hb] at e
        exact hm2 (e ▸ ha)
      · rw [List.length_append, List.length_singleton, h2.mpr (List.nodup_append.mp hn).1]
theorem dsz_eq (ns : List Int) : dsz ns = ns.length ↔ ns.Nodup := by
  have := (fm_inv ns ns.length (Nat.le_refl _)).2
  rw [List.take_length] at this
  exact this
structure HL2 (α β : Type) where
  a : α
  b : β
deriving DecidableEq
instance {α β : Type} [Enc α] [Enc β] : Enc (HL2 α β) := ⟨fun K F v x => ∃ p v1 v2, v = .ref p ∧ SqL K F p [v1, v2] ∧ rep K F v1 x.a ∧ rep K F v2 x.b, fun e h => by
  obtain ⟨p, v1, v2, rfl, h0, h1, h2⟩ := h
  exact ⟨p, v1, v2, rfl, sql_mono e h0, Enc.mono e h1, Enc.mono e h2⟩⟩
instance {α β : Type} [EqD α] [EqD β] : EqD (HL2 α β) := ⟨fun x => .list [EqD.toD x.a, EqD.toD x.b], fun h f => by
  obtain ⟨p, v1, v2, rfl, h0, h1, h2⟩ := h
  exact .lst (sql_mono f h0) (.cons (EqD.dp h1 f) (.cons (EqD.dp h2 f) .nil)), fun x y => by
    obtain ⟨x1, x2⟩ := x
    obtain ⟨y1, y2⟩ := y
    show (PyData.eqv _ _ && (PyData.eqv _ _ && true)) = true ↔ _
    rw [Bool.and_eq_true, Bool.and_eq_true, EqD.eqv, EqD.eqv]; simp⟩
section
variable {α β : Type} [Enc α] [Enc β] {X : Cx} {σ : St} {s : S} {es : List Expr} {pos : Pos}
theorem ev_hl2 {x : α} {y : β} (h : EvA X es σ s (x, y, ())) : Ev X (.List es pos) σ s (⟨x, y⟩ : HL2 α β) := fun s1 k Q q =>
  we_of (pe_lst pa_wa) (h s1 k _ fun vs s2 k2 r2 => by
    obtain ⟨v1, _, rfl, r1, v2, _, rfl, r2, rfl⟩ := r2
    exact ⟨show _ ≤ 2 ^ 24 by simp, fun p hp => q _ (s2.newF p (.lst [v1, v2]) hp) (k2.trans (Ex.newF hp)) ⟨p, v1, v2, rfl, .inl (.inl upd_same), Enc.mono (Ex.newF hp).f r1, Enc.mono (Ex.newF hp).f r2⟩⟩)
end
def relS (scope sc : Scope) : Scope := { scope with names := scope.names.map fun (n, k) => if (k == .free && sc.kind == .function && sc.names.lookup n == some .cell) then (n, .cell) else (n, k) }
theorem blkOk_n {N : List Str} {scope1 sc0 scope : Scope} {env : Env} {own : List (Str × Nat)} (e : env.scope = sc0) (h : blkC N (relS scope1 sc0) scope own = true) : BlkOk N (relabel scope1 env) scope own := by
  have : relabel scope1 env = relS scope1 sc0 := by subst e; rfl
  rw [this]
  exact blkOk_by h
end Dy

set_option maxHeartbeats 4000000
namespace K31
open PySem PySem.Spec L2 Dy
open PyProof.Rows hiding St
open Enc (rep)
open Flat (toV)
open EncA (repA)
def topS (i : Nat) : Stmt := PySem.Challenge.pw_deskpairs_k31_is_seating.main.body.getD i (.Pass ⟨0, 0, 0, 0⟩)
def clsS (i j : Nat) : Stmt := match PySem.Challenge.pw_deskpairs_k31_is_seating.main.body.getD i (.Pass ⟨0, 0, 0, 0⟩) with | .ClassDef _ _ _ body _ _ _ _ _ _ _ => body.getD j (.Pass ⟨0, 0, 0, 0⟩) | _ => .Pass ⟨0, 0, 0, 0⟩
abbrev s_l_draws : Stmt := topS 5
abbrev N_l_draws : List Str := ["_law_cell", "_law_sizes", "_law_found", "_law_digits", "_law_k", "_law_mixed"]
theorem sc_l_draws : FnScope N_l_draws ["_law_cell", "_law_sizes"] (defScope s_l_draws) := ⟨rfl, rfl, rfl, by decide +kernel, rfl, by decide +kernel, by decide +kernel⟩
noncomputable def m_l_draws (cell1 : Int) (sizes4 : (List Int)) : Option (List Int) :=
 (lt (([] : List Int) : (List Int)) fun found8 =>
 (lt ((cell1 / (2 : Int)) : Int) fun digits19 =>
 (chk (RgB ((sizes4).length : Int)) (bnd (foldO (fun (b32 : ((List Int) × Int)) (x34 : Int) =>
 (chk (MulOk x34 x34) (lt (((((cell1 % (1000003 : Int)) + (1 : Int)) * ((x34 * x34) + (48271 : Int))) % (65537 : Int)) : Int) fun mixed64 =>
 (lt ((((((mixed64 * mixed64) + ((7919 : Int) * x34)) + (11 : Int)) * (30269 : Int)) % (999983 : Int)) : Int) fun mixed77 =>
 (bnd (if (decide ((cell1 % (2 : Int)) = (0 : Int))) = true then
 (lt (b32.2 : Int) fun mixed106 =>
 (some mixed106))
 else
 (some mixed77) : Option Int) fun b91 =>
 (bnd (atI sizes4 x34) fun at152 => (chk (0 < at152) (chk ((b32.1).length < sizeLine) (lt ((b32.1 ++ [(b91 % at152)]) : (List Int)) fun found150 =>
 (bnd (atI sizes4 x34) fun at162 => (chk (DivOk at162) (lt ((b32.2 / at162) : Int) fun digits164 =>
 (some (found150, digits164)))))))))))))) (found8, digits19) (rng 0 ((sizes4).length : Int))) fun o30 =>
 (some o30.1)))))
noncomputable abbrev a_l_draws : Int × (List Int) × Unit → Option (List Int) := fun a => m_l_draws a.1 a.2.1
theorem ok_l_draws {P : Program} {w : World} {K : PySem.W.Frag} {mg : Str → Option Value} {base : Heap} {f : Addr} {fd : FuncData} (F : FunP K "_law_draws" s_l_draws f fd) (hmg : mg "_law_draws" = some (.ref f)) (z_range : mg "range" = none) (z_len : mg "len" = none) : Cal P w K mg base CX0 1 "_law_draws" (spN K a_l_draws) := by
  refine mk_calN (k := 0) F hmg (F.bindsN fun _ _ _ _ _ _ us hl => match us, hl with | [_, _], _ => rfl) sc_l_draws len2 ?_
  rintro cdv A' outer sh0 H0 X0 hr s0 vs ⟨cell1, sizes4, _⟩ r0 Q ⟨v2, _, rfl, r3, v5, _, rfl, r6, rfl⟩ hm hQ
  have E7 := Ex.refl s0
  unfold a_l_draws m_l_draws at hm
  dsimp only at hm
  refine do_setN 2 (en_list (xs := ([] : List Int)) ee_nil (by simp [sizeLine])) (fun p12 s10 e11 n13 o14 => ?_) sc_l_draws.nd
  have n15 := fr_back E7 n13
  have E16 := E7.trans e11
  have r17 := Enc.mono e11.f r3
  have r18 := Enc.mono e11.f r6
  obtain ⟨found8, q9, hm⟩ := ltE hm
  rw [← q9] at o14
  refine do_set 3 (ev_div (ev_var 0 rfl r17) ev_int ⟨by decide, by decide +kernel⟩) (fun v23 s21 e22 r24 => ?_) sc_l_draws.nd
  have E25 := E16.trans e22
  have r26 := Enc.mono e22.f r17
  have r27 := Enc.mono e22.f r18
  have o28 := Own.ex o14 e22
  obtain ⟨digits19, q20, hm⟩ := ltE hm
  rw [← q20] at r24
  obtain ⟨hc29, hm⟩ := chkE hm
  obtain ⟨o30, ho31, hm⟩ := bndE hm
  refine do_forO (υ := ((List Int) × Int)) PassesOwn.never rfl (ei_range1 z_range (ev_len z_len (Ev.r (ev_var 1 rfl r27))) hc29) (pg_name (i := 4) sc_l_draws.nd rfl (by first | exact Or.inl rfl | exact Or.inr rfl)) tg_n ho31 (fun (b32 : ((List Int) × Int)) (σ' : L2.St) (t' : S) => Ex s0 t' ∧ ∃ (v_digits : V) (y_mixed : Option V) (y_k : Option V), σ' = [some v2, some v5, some (.ref p12), some v_digits, y_k, y_mixed] ∧ Own K t' p12 (b32.1 : (List Int)) ∧ rep K t'.F v_digits (b32.2 : Int)) (fun s183 k184 => by have E185 := E25.trans k184; have r186 := Enc.mono k184.f r26; have r187 := Enc.mono k184.f r27; have o188 := Own.ex o28 k184; have r189 := Enc.mono k184.f r24; exact ⟨E185, v23, _, _, rfl, o188, r189⟩) (fun s35 k36 x34 b32 b33 σ45 σ46 t43 t44 hx37 hm38 fl39 hR40 k41 hB42 => ?_) (fun s177 k178 σ179 t180 fl181 hR182 => ?_)
  · have hf47 := Fle.trans k36.f fl39
    obtain ⟨E48, v49, y50, y51, rfl, o52, r53⟩ := hR40
    have r54 := Enc.mono hf47 r26
    have r55 := Enc.mono hf47 r27
    obtain ⟨v56, r57, rfl⟩ := hB42
    have E58 := E48.trans k41
    have o59 := Own.ex o52 k41
    have r60 := Enc.mono k41.f r53
    have r61 := Enc.mono k41.f r54
    have r62 := Enc.mono k41.f r55
    obtain ⟨hc63, hm38⟩ := chkE hm38
    refine do_set 5 (ev_mod (ev_mul (ev_add (ev_mod (ev_var 0 rfl r61) ev_int (by decide)) ev_int) (ev_add (ev_mul (ev_var 4 rfl r57) (ev_var 4 rfl r57) hc63) ev_int) (Or.inl (Or.inl ⟨by omega, by omega⟩))) ev_int (by decide)) (fun v68 s66 e67 r69 => ?_) sc_l_draws.nd
    have E70 := E58.trans e67
    have fl71 := Fle.trans (Fle.refl t44.F) e67.f
    have o72 := Own.ex o59 e67
    have r73 := Enc.mono e67.f r60
    have r74 := Enc.mono e67.f r61
    have r75 := Enc.mono e67.f r62
    have r76 := Enc.mono e67.f r57
    obtain ⟨mixed64, q65, hm38⟩ := ltE hm38
    rw [← q65] at r69
    refine do_set 5 (ev_mod (ev_mul (ev_add (ev_add (ev_mul (ev_var 5 rfl r69) (ev_var 5 rfl r69) (Or.inl (Or.inl ⟨by omega, by omega⟩))) (ev_mul ev_int (ev_var 4 rfl r76) (Or.inl (Or.inl ⟨by omega, by omega⟩)))) ev_int) ev_int (Or.inl (Or.inr ⟨by decide, by decide⟩))) ev_int (by decide)) (fun v81 s79 e80 r82 => ?_) sc_l_draws.nd
    have E83 := E70.trans e80
    have fl84 := Fle.trans fl71 e80.f
    have o85 := Own.ex o72 e80
    have r86 := Enc.mono e80.f r73
    have r87 := Enc.mono e80.f r74
    have r88 := Enc.mono e80.f r75
    have r89 := Enc.mono e80.f r76
    obtain ⟨mixed77, q78, hm38⟩ := ltE hm38
    rw [← q78] at r82
    obtain ⟨b91, hj92, hm38⟩ := bndE hm38
    refine do_if (EvB.t (eb_eq (ev_mod (ev_var 0 rfl r87) ev_int (by decide)) ev_int)) (fun (σ' : L2.St) (t' : S) => Fle s79.F t'.F ∧ Ex s0 t' ∧ ∃ (v_mixed : V), σ' = [some v2, some v5, some (.ref p12), some v49, some v56, some v_mixed] ∧ rep K t'.F v_mixed (b91 : Int) ∧ Own K t' p12 (b32.1 : (List Int))) (fun hb93 s94 e95 => ?_) (fun hb120 s121 e122 => ?_) (fun σ133 s134 hM135 => ?_)
    · have hm96 := iteE1 hj92 hb93
      have E97 := E83.trans e95
      have fl98 := Fle.trans fl84 e95.f
      have fl99 := Fle.trans (Fle.refl s79.F) e95.f
      have o100 := Own.ex o85 e95
      have r101 := Enc.mono e95.f r86
      have r102 := Enc.mono e95.f r87
      have r103 := Enc.mono e95.f r88
      have r104 := Enc.mono e95.f r89
      have r105 := Enc.mono e95.f r82
      refine do_set 5 (ev_var 3 rfl r101) (fun v110 s108 e109 r111 => ?_) sc_l_draws.nd
      have E112 := E97.trans e109
      have fl113 := Fle.trans fl98 e109.f
      have fl114 := Fle.trans fl99 e109.f
      have o115 := Own.ex o100 e109
      have r116 := Enc.mono e109.f r101
      have r117 := Enc.mono e109.f r102
      have r118 := Enc.mono e109.f r103
      have r119 := Enc.mono e109.f r104
      obtain ⟨mixed106, q107, hm96⟩ := ltE hm96
      rw [← q107] at r111
      obtain rfl := Option.some.inj hm96
      exact do_nil ⟨s108, rfl, fl114, ⟨E112, v110, rfl, r111, o115⟩⟩
    · have hm123 := iteE2 hj92 hb120
      have E124 := E83.trans e122
      have fl125 := Fle.trans fl84 e122.f
      have fl126 := Fle.trans (Fle.refl s79.F) e122.f
      have o127 := Own.ex o85 e122
      have r128 := Enc.mono e122.f r86
      have r129 := Enc.mono e122.f r87
      have r130 := Enc.mono e122.f r88
      have r131 := Enc.mono e122.f r89
      have r132 := Enc.mono e122.f r82
      obtain rfl := Option.some.inj hm123
      exact do_nil ⟨s121, rfl, fl126, ⟨E124, v81, rfl, r132, o127⟩⟩
    · obtain ⟨hf136, hR137⟩ := hM135
      obtain ⟨E138, v139, rfl, r140, o141⟩ := hR137
      have r142 := Enc.mono hf136 r86
      have r143 := Enc.mono hf136 r87
      have r144 := Enc.mono hf136 r88
      have r145 := Enc.mono hf136 r89
      have fl146 := Fle.trans fl84 hf136
      obtain ⟨at152, h_at152, hm38⟩ := bndE hm38
      obtain ⟨hc153, hm38⟩ := chkE hm38
      obtain ⟨hc154, hm38⟩ := chkE hm38
      refine do_append 2 rfl o141 (ev_mod (ev_var 5 rfl r140) (ev_ix (Ev.r (ev_var 1 rfl r144)) (ev_var 4 rfl r145) h_at152) hc153) hc154 (fun s147 m148 o149 => ?_)
      have E155 := Ex.mu1 E138 m148 n15
      have fl156 := Fle.trans fl146 m148.f
      have r157 := Enc.mono m148.f r140
      have r158 := Enc.mono m148.f r142
      have r159 := Enc.mono m148.f r143
      have r160 := Enc.mono m148.f r144
      have r161 := Enc.mono m148.f r145
      obtain ⟨found150, q151, hm38⟩ := ltE hm38
      rw [← q151] at o149
      obtain ⟨at162, h_at162, hm38⟩ := bndE hm38
      obtain ⟨hc163, hm38⟩ := chkE hm38
      refine do_set 3 (ev_div (ev_var 3 rfl r158) (ev_ix (Ev.r (ev_var 1 rfl r160)) (ev_var 4 rfl r161) h_at162) hc163) (fun v168 s166 e167 r169 => ?_) sc_l_draws.nd
      have E170 := E155.trans e167
      have fl171 := Fle.trans fl156 e167.f
      have r172 := Enc.mono e167.f r157
      have r173 := Enc.mono e167.f r159
      have r174 := Enc.mono e167.f r160
      have r175 := Enc.mono e167.f r161
      have o176 := Own.ex o149 e167
      obtain ⟨digits164, q165, hm38⟩ := ltE hm38
      rw [← q165] at r169
      obtain rfl := Option.some.inj hm38
      exact do_nil ⟨s166, rfl, fl171, ⟨E170, v168, _, _, rfl, o176, r169⟩⟩
  · have hf190 := Fle.trans k178.f fl181
    obtain ⟨E191, v192, y193, y194, rfl, o195, r196⟩ := hR182
    have r197 := Enc.mono hf190 r26
    have r198 := Enc.mono hf190 r27
    obtain rfl := Option.some.inj hm
    exact do_retO 2 rfl (hQ _ _ E191 n15 o195)
abbrev s_l_tools : Stmt := topS 6
abbrev N_l_tools : List Str := ["_law_way"]
theorem sc_l_tools : FnScope N_l_tools ["_law_way"] (defScope s_l_tools) := ⟨rfl, rfl, rfl, by decide +kernel, rfl, by decide +kernel, by decide +kernel⟩
noncomputable def m_l_tools (way199 : Int) : Option (List Str) :=
 (if (decide (way199 = (0 : Int))) = true then
 (some ([("a" : Str), ("ab" : Str), ("abc" : Str), ("b" : Str), ("ba" : Str)] : List Str))
 else
 (if (decide (way199 = (1 : Int))) = true then
 (some ([("viola" : Str), ("v" : Str), ("harp" : Str), ("oboe" : Str), ("violas" : Str)] : List Str))
 else
 (some ([("horn" : Str), ("ho" : Str), ("zink" : Str), ("c" : Str), ("cornetto" : Str)] : List Str))))
noncomputable abbrev a_l_tools : Int × Unit → Option (List Str) := fun a => m_l_tools a.1
theorem ok_l_tools {P : Program} {w : World} {K : PySem.W.Frag} {mg : Str → Option Value} {base : Heap} {f : Addr} {fd : FuncData} (F : FunP K "_law_tools" s_l_tools f fd) (hmg : mg "_law_tools" = some (.ref f))  : Cal P w K mg base CX0 1 "_law_tools" (sp K a_l_tools) := by
  refine mk_cal (k := 0) F hmg (F.bindsN fun _ _ _ _ _ _ us hl => match us, hl with | [_], _ => rfl) sc_l_tools len1 ?_
  rintro cdv A' outer sh0 H0 X0 hr s0 vs ⟨way199, _⟩ r0 Q ⟨v200, _, rfl, r201, rfl⟩ hm hQ
  have E202 := Ex.refl s0
  unfold a_l_tools m_l_tools at hm
  dsimp only at hm
  refine do_ifR (EvB.t (eb_eq (ev_var 0 rfl r201) ev_int)) (fun hb204 s205 e206 => ?_) (fun hb214 s215 e216 => ?_)
  · have hm207 := iteE1 hm hb204
    have E208 := E202.trans e206
    have r209 := Enc.mono e206.f r201
    obtain rfl := Option.some.inj hm207
    exact do_ret (EvN.ev (en_list (xs := ([("a" : Str), ("ab" : Str), ("abc" : Str), ("b" : Str), ("ba" : Str)] : List Str)) (ee_cons ev_str (ee_cons ev_str (ee_cons ev_str (ee_cons ev_str (ee_cons ev_str ee_nil))))) (by simp [sizeLine]))) fun v210 s211 e212 r213 => hQ _ _ (E208.trans e212) r213
  · have hm217 := iteE2 hm hb214
    have E218 := E202.trans e216
    have r219 := Enc.mono e216.f r201
    refine do_ifR (EvB.t (eb_eq (ev_var 0 rfl r219) ev_int)) (fun hb221 s222 e223 => ?_) (fun hb231 s232 e233 => ?_)
    · have hm224 := iteE1 hm217 hb221
      have E225 := E218.trans e223
      have r226 := Enc.mono e223.f r219
      obtain rfl := Option.some.inj hm224
      exact do_ret (EvN.ev (en_list (xs := ([("viola" : Str), ("v" : Str), ("harp" : Str), ("oboe" : Str), ("violas" : Str)] : List Str)) (ee_cons ev_str (ee_cons ev_str (ee_cons ev_str (ee_cons ev_str (ee_cons ev_str ee_nil))))) (by simp [sizeLine]))) fun v227 s228 e229 r230 => hQ _ _ (E225.trans e229) r230
    · have hm234 := iteE2 hm217 hb231
      have E235 := E218.trans e233
      have r236 := Enc.mono e233.f r219
      obtain rfl := Option.some.inj hm234
      exact do_ret (EvN.ev (en_list (xs := ([("horn" : Str), ("ho" : Str), ("zink" : Str), ("c" : Str), ("cornetto" : Str)] : List Str)) (ee_cons ev_str (ee_cons ev_str (ee_cons ev_str (ee_cons ev_str (ee_cons ev_str ee_nil))))) (by simp [sizeLine]))) fun v237 s238 e239 r240 => hQ _ _ (E235.trans e239) r240
abbrev s_l_title : Stmt := topS 7
abbrev N_l_title : List Str := ["_law_k", "_law_way", "_law_letters", "_law_word"]
theorem sc_l_title : FnScope N_l_title ["_law_k", "_law_way"] (defScope s_l_title) := ⟨rfl, rfl, rfl, by decide +kernel, rfl, by decide +kernel, by decide +kernel⟩
noncomputable def m_l_title (k241 : Int) (way244 : Int) : Option Str :=
 (lt (("abcdefghijklmnopqrstuvwxyz" : Str) : Str) fun letters248 =>
 (bnd (sgn letters248 (k241 / (2 : Int))) fun at257 => (chk (RepS ("x" : Str) (k241 % (2 : Int))) (chk ((at257).length + ((replS ("x" : Str) (k241 % (2 : Int)))).length ≤ sizeLine) (lt ((at257 ++ (replS ("x" : Str) (k241 % (2 : Int)))) : Str) fun word260 =>
 (if (decide (way244 = (0 : Int))) = true then
 (some word260)
 else
 (bnd (atI ([("" : Str), ("q" : Str), ("zz" : Str)] : List Str) way244) fun at293 => (chk ((at293).length + (word260).length ≤ sizeLine) (bnd (sgn letters248 (k241 % (7 : Int))) fun at295 => (chk (RepS at295 (2 : Int)) (chk (((at293 ++ word260)).length + ((replS at295 (2 : Int))).length ≤ sizeLine) (some ((at293 ++ word260) ++ (replS at295 (2 : Int)))))))))))))))
noncomputable abbrev a_l_title : Int × Int × Unit → Option Str := fun a => m_l_title a.1 a.2.1
theorem ok_l_title {P : Program} {w : World} {K : PySem.W.Frag} {mg : Str → Option Value} {base : Heap} {f : Addr} {fd : FuncData} (F : FunP K "_law_title" s_l_title f fd) (hmg : mg "_law_title" = some (.ref f))  : Cal P w K mg base CX0 1 "_law_title" (sp K a_l_title) := by
  refine mk_cal (k := 0) F hmg (F.bindsN fun _ _ _ _ _ _ us hl => match us, hl with | [_, _], _ => rfl) sc_l_title len2 ?_
  rintro cdv A' outer sh0 H0 X0 hr s0 vs ⟨k241, way244, _⟩ r0 Q ⟨v242, _, rfl, r243, v245, _, rfl, r246, rfl⟩ hm hQ
  have E247 := Ex.refl s0
  unfold a_l_title m_l_title at hm
  dsimp only at hm
  refine do_set 2 ev_str (fun v252 s250 e251 r253 => ?_) sc_l_title.nd
  have E254 := E247.trans e251
  have r255 := Enc.mono e251.f r243
  have r256 := Enc.mono e251.f r246
  obtain ⟨letters248, q249, hm⟩ := ltE hm
  rw [← q249] at r253
  obtain ⟨at257, h_at257, hm⟩ := bndE hm
  obtain ⟨hc258, hm⟩ := chkE hm
  obtain ⟨hc259, hm⟩ := chkE hm
  refine do_set 3 (ev_adds (ev_ixS (ev_var 2 rfl r253) (ev_div (ev_var 0 rfl r255) ev_int ⟨by decide, by decide +kernel⟩) h_at257) (ev_repS ev_str (ev_mod (ev_var 0 rfl r255) ev_int (by decide)) hc258) hc259) (fun v264 s262 e263 r265 => ?_) sc_l_title.nd
  have E266 := E254.trans e263
  have r267 := Enc.mono e263.f r255
  have r268 := Enc.mono e263.f r256
  have r269 := Enc.mono e263.f r253
  obtain ⟨word260, q261, hm⟩ := ltE hm
  rw [← q261] at r265
  refine do_ifR (EvB.t (eb_eq (ev_var 1 rfl r268) ev_int)) (fun hb271 s272 e273 => ?_) (fun hb284 s285 e286 => ?_)
  · have hm274 := iteE1 hm hb271
    have E275 := E266.trans e273
    have r276 := Enc.mono e273.f r267
    have r277 := Enc.mono e273.f r268
    have r278 := Enc.mono e273.f r269
    have r279 := Enc.mono e273.f r265
    obtain rfl := Option.some.inj hm274
    exact do_ret (ev_var 3 rfl r279) fun v280 s281 e282 r283 => hQ _ _ (E275.trans e282) r283
  · have hm287 := iteE2 hm hb284
    have E288 := E266.trans e286
    have r289 := Enc.mono e286.f r267
    have r290 := Enc.mono e286.f r268
    have r291 := Enc.mono e286.f r269
    have r292 := Enc.mono e286.f r265
    obtain ⟨at293, h_at293, hm287⟩ := bndE hm287
    obtain ⟨hc294, hm287⟩ := chkE hm287
    obtain ⟨at295, h_at295, hm287⟩ := bndE hm287
    obtain ⟨hc296, hm287⟩ := chkE hm287
    obtain ⟨hc297, hm287⟩ := chkE hm287
    obtain rfl := Option.some.inj hm287
    exact do_ret (ev_adds (ev_adds (ev_ix (EvN.r (en_list (xs := ([("" : Str), ("q" : Str), ("zz" : Str)] : List Str)) (ee_cons ev_str (ee_cons ev_str (ee_cons ev_str ee_nil))) (by simp [sizeLine]))) (ev_var 1 rfl r290) h_at293) (ev_var 3 rfl r292) hc294) (ev_repS (ev_ixS (ev_var 2 rfl r291) (ev_mod (ev_var 0 rfl r289) ev_int (by decide)) h_at295) ev_int hc296) hc297) fun v298 s299 e300 r301 => hQ _ _ (E288.trans e300) r301
abbrev s_l_player : Stmt := topS 10
abbrev N_l_player : List Str := ["_law_k", "_law_mask", "_law_turned", "_law_tools_here", "_law_way", "_law_some", "_law_j"]
theorem sc_l_player : FnScope N_l_player ["_law_k", "_law_mask", "_law_turned", "_law_tools_here", "_law_way"] (defScope s_l_player) := ⟨rfl, rfl, rfl, by decide +kernel, rfl, by decide +kernel, by decide +kernel⟩
noncomputable def m_l_player (k302 : Int) (mask305 : Int) (turned308 : Int) (tools_here311 : (List Str)) (way314 : Int) : Option (Str × (Tu Str)) :=
 (bnd (compO (fun (x318 : Int) => (bnd (atI ([(1 : Int), (2 : Int), (4 : Int), (8 : Int), (16 : Int)] : List Int) x318) fun at332 => (chk (DivOk at332) (some (decide (((mask305 / at332) % (2 : Int)) = (1 : Int))))))) (fun (x318 : Int) => (bnd (atI tools_here311 x318) fun at331 => (some at331))) (rng 0 (5 : Int))) fun ys334 => (chk ((ys334).length ≤ sizeLine) (lt (ys334 : (List Str)) fun some337 =>
 (bnd (if (decide (turned308 = (1 : Int))) = true then
 (lt ((some337).reverse : (List Str)) fun some370 =>
 (some some370))
 else
 (some some337) : Option (List Str)) fun b356 =>
 (bnd (m_l_title k302 way314) fun title408 => (some (title408, (⟨b356⟩ : Tu Str))))))))
noncomputable abbrev a_l_player : Int × Int × Int × (List Str) × Int × Unit → Option (Str × (Tu Str)) := fun a => m_l_player a.1 a.2.1 a.2.2.1 a.2.2.2.1 a.2.2.2.2.1
theorem ok_l_player {P : Program} {w : World} {K : PySem.W.Frag} {mg : Str → Option Value} {base : Heap} {f : Addr} {fd : FuncData} (F : FunP K "_law_player" s_l_player f fd) (hmg : mg "_law_player" = some (.ref f)) (C_l_title : Cal P w K mg base CX0 1 "_law_title" (sp K a_l_title)) (z_range : mg "range" = none) (z_tuple : mg "tuple" = none) : Cal P w K mg base CX0 2 "_law_player" (sp K a_l_player) := by
  refine mk_cal (k := 1) F hmg (F.bindsN fun _ _ _ _ _ _ us hl => match us, hl with | [_, _, _, _, _], _ => rfl) sc_l_player len5 ?_
  rintro cdv A' outer sh0 H0 X0 hr s0 vs ⟨k302, mask305, turned308, tools_here311, way314, _⟩ r0 Q ⟨v303, _, rfl, r304, v306, _, rfl, r307, v309, _, rfl, r310, v312, _, rfl, r313, v315, _, rfl, r316, rfl⟩ hm hQ
  have E317 := Ex.refl s0
  unfold a_l_player m_l_player at hm
  dsimp only at hm
  obtain ⟨ys334, h_ys334, hm⟩ := bndE hm
  obtain ⟨hc335, hm⟩ := chkE hm
  refine do_setL 5 (en_comp1 (own := [("_law_j", 6)]) (j := 6) (t := fun (x318 : Int) => (bnd (atI ([(1 : Int), (2 : Int), (4 : Int), (8 : Int), (16 : Int)] : List Int) x318) fun at332 => (chk (DivOk at332) (some (decide (((mask305 / at332) % (2 : Int)) = (1 : Int))))))) (f := fun (x318 : Int) => (bnd (atI tools_here311 x318) fun at331 => (some at331))) rfl sc_l_player.nd (ei_range1 z_range ev_int ⟨by omega, by omega⟩) (blkOk_by (own := [("_law_j", 6)]) (N := N_l_player) (sc := defScope s_l_player) (by decide +kernel)) rfl (by decide) (fun _ _ _ _ _ => pg_name (i := 6) sc_l_player.nd rfl (by first | exact Or.inl rfl | exact Or.inr rfl)) h_ys334 hc335 (fun x318 y319 v329 s320 hx322 e321 r330 hf323 _ _ _ _ _ => by have r325 := Enc.mono e321.f r307; obtain ⟨at332, h_at332, hf323⟩ := bndE hf323; obtain ⟨hc333, hf323⟩ := chkE hf323; obtain rfl := Option.some.inj hf323; exact (EvB.t (eb_eq (ev_mod (ev_div (ev_var 1 rfl r325) (ev_ix (EvN.r (en_list (xs := ([(1 : Int), (2 : Int), (4 : Int), (8 : Int), (16 : Int)] : List Int)) (ee_cons ev_int (ee_cons ev_int (ee_cons ev_int (ee_cons ev_int (ee_cons ev_int ee_nil))))) (by simp [sizeLine]))) (ev_var 6 rfl r330) h_at332) hc333) ev_int (by decide)) ev_int))) (fun x318 y319 v329 s320 hx322 e321 r330 ht336 hf323 _ _ _ _ _ => by have r327 := Enc.mono e321.f r313; obtain ⟨at331, h_at331, hf323⟩ := bndE hf323; obtain rfl := Option.some.inj hf323; exact (ev_ix (Ev.r (ev_var 3 rfl r327)) (ev_var 6 rfl r330) h_at331))) (fun p343 s339 e340 n344 o345 => ?_) rfl rfl
  obtain ⟨s346, hs347, e348, r342⟩ := frz_ex e340 n344 o345
  rw [← hs347]
  have E349 := E317.trans e348
  have r350 := Enc.mono e348.f r304
  have r351 := Enc.mono e348.f r307
  have r352 := Enc.mono e348.f r310
  have r353 := Enc.mono e348.f r313
  have r354 := Enc.mono e348.f r316
  obtain ⟨some337, q338, hm⟩ := ltE hm
  rw [← q338] at r342
  obtain ⟨b356, hj357, hm⟩ := bndE hm
  refine do_if (EvB.t (eb_eq (ev_var 2 rfl r352) ev_int)) (fun (σ' : L2.St) (t' : S) => Fle s346.F t'.F ∧ Ex s0 t' ∧ ∃ (v_some : V), σ' = [some v303, some v306, some v309, some v312, some v315, some v_some, none] ∧ rep K t'.F v_some (b356 : (List Str))) (fun hb358 s359 e360 => ?_) (fun hb383 s384 e385 => ?_) (fun σ395 s396 hM397 => ?_)
  · have hm361 := iteE1 hj357 hb358
    have E362 := E349.trans e360
    have fl363 := Fle.trans (Fle.refl s346.F) e360.f
    have r364 := Enc.mono e360.f r350
    have r365 := Enc.mono e360.f r351
    have r366 := Enc.mono e360.f r352
    have r367 := Enc.mono e360.f r353
    have r368 := Enc.mono e360.f r354
    have r369 := Enc.mono e360.f r342
    refine do_set 5 (EvN.ev (en_rev (Ev.r (ev_var 5 rfl r369)))) (fun v374 s372 e373 r375 => ?_) sc_l_player.nd
    have E376 := E362.trans e373
    have fl377 := Fle.trans fl363 e373.f
    have r378 := Enc.mono e373.f r364
    have r379 := Enc.mono e373.f r365
    have r380 := Enc.mono e373.f r366
    have r381 := Enc.mono e373.f r367
    have r382 := Enc.mono e373.f r368
    obtain ⟨some370, q371, hm361⟩ := ltE hm361
    rw [← q371] at r375
    obtain rfl := Option.some.inj hm361
    exact do_nil ⟨s372, rfl, fl377, ⟨E376, v374, rfl, r375⟩⟩
  · have hm386 := iteE2 hj357 hb383
    have E387 := E349.trans e385
    have fl388 := Fle.trans (Fle.refl s346.F) e385.f
    have r389 := Enc.mono e385.f r350
    have r390 := Enc.mono e385.f r351
    have r391 := Enc.mono e385.f r352
    have r392 := Enc.mono e385.f r353
    have r393 := Enc.mono e385.f r354
    have r394 := Enc.mono e385.f r342
    obtain rfl := Option.some.inj hm386
    exact do_nil ⟨s384, rfl, fl388, ⟨E387, (V.ref p343), rfl, r394⟩⟩
  · obtain ⟨hf398, hR399⟩ := hM397
    obtain ⟨E400, v401, rfl, r402⟩ := hR399
    have r403 := Enc.mono hf398 r350
    have r404 := Enc.mono hf398 r351
    have r405 := Enc.mono hf398 r352
    have r406 := Enc.mono hf398 r353
    have r407 := Enc.mono hf398 r354
    obtain ⟨title408, h_title408, hm⟩ := bndE hm
    obtain rfl := Option.some.inj hm
    exact do_ret (ev_t2 (ea_cons (ev_call C_l_title hr (by decide) (ea_cons (ev_var 0 rfl r403) (ea_cons (ev_var 4 rfl r407) ea_nil)) h_title408) (ea_cons (ev_tuple z_tuple (Ev.r (ev_var 5 rfl r402))) ea_nil))) fun v409 s410 e411 r412 => hQ _ _ (E400.trans e411) r412
abbrev s_l_players : Stmt := topS 11
abbrev N_l_players : List Str := ["_law_cell", "_law_most", "_law_tools_here", "_law_way", "_law_ds", "_law_k"]
theorem sc_l_players : FnScope N_l_players ["_law_cell", "_law_most", "_law_tools_here", "_law_way"] (defScope s_l_players) := ⟨rfl, rfl, rfl, by decide +kernel, rfl, by decide +kernel, by decide +kernel⟩
noncomputable def m_l_players (cell413 : Int) (most416 : Int) (tools_here419 : (List Str)) (way422 : Int) : Option (List (Str × (Tu Str))) :=
 (chk (RepOk most416 (([(32 : Int), (2 : Int)] : List Int)).length) (chk ((([(most416 + (1 : Int))] : List Int)).length + ((repl most416 ([(32 : Int), (2 : Int)] : List Int))).length ≤ sizeLine) (bnd (m_l_draws cell413 (([(most416 + (1 : Int))] : List Int) ++ (repl most416 ([(32 : Int), (2 : Int)] : List Int)))) fun draws428 => (lt (draws428 : (List Int)) fun ds429 =>
 (bnd (atI ds429 (0 : Int)) fun at440 => (chk (RgB at440) (bnd (mapO (fun (x442 : Int) => (bnd (atI ds429 ((1 : Int) + ((2 : Int) * x442))) fun at455 => (bnd (atI ds429 ((2 : Int) + ((2 : Int) * x442))) fun at456 => (bnd (m_l_player x442 at455 at456 tools_here419 way422) fun player457 => (some player457))))) (rng 0 at440)) fun ys458 => (chk ((ys458).length ≤ sizeLine) (some ys458)))))))))
noncomputable abbrev a_l_players : Int × Int × (List Str) × Int × Unit → Option (List (Str × (Tu Str))) := fun a => m_l_players a.1 a.2.1 a.2.2.1 a.2.2.2.1
theorem ok_l_players {P : Program} {w : World} {K : PySem.W.Frag} {mg : Str → Option Value} {base : Heap} {f : Addr} {fd : FuncData} (F : FunP K "_law_players" s_l_players f fd) (hmg : mg "_law_players" = some (.ref f)) (C_l_draws : Cal P w K mg base CX0 1 "_law_draws" (spN K a_l_draws)) (C_l_player : Cal P w K mg base CX0 2 "_law_player" (sp K a_l_player)) (z_range : mg "range" = none) : Cal P w K mg base CX0 3 "_law_players" (sp K a_l_players) := by
  refine mk_cal (k := 2) F hmg (F.bindsN fun _ _ _ _ _ _ us hl => match us, hl with | [_, _, _, _], _ => rfl) sc_l_players len4 ?_
  rintro cdv A' outer sh0 H0 X0 hr s0 vs ⟨cell413, most416, tools_here419, way422, _⟩ r0 Q ⟨v414, _, rfl, r415, v417, _, rfl, r418, v420, _, rfl, r421, v423, _, rfl, r424, rfl⟩ hm hQ
  have E425 := Ex.refl s0
  unfold a_l_players m_l_players at hm
  dsimp only at hm
  obtain ⟨hc426, hm⟩ := chkE hm
  obtain ⟨hc427, hm⟩ := chkE hm
  obtain ⟨draws428, h_draws428, hm⟩ := bndE hm
  refine do_set 4 (EvN.ev (en_call C_l_draws hr (by decide) (ea_cons (ev_var 0 rfl r415) (ea_cons (EvN.ev (en_cat (EvN.r (en_list (xs := ([(most416 + (1 : Int))] : List Int)) (ee_cons (ev_add (ev_var 1 rfl r418) ev_int) ee_nil) (by simp [sizeLine]))) (EvN.r (en_rep (en_list (xs := ([(32 : Int), (2 : Int)] : List Int)) (ee_cons ev_int (ee_cons ev_int ee_nil)) (by simp [sizeLine])) (fun _ hk => Ev.mono (ev_var 1 rfl r418) hk) hc426)) hc427)) ea_nil)) h_draws428)) (fun v433 s431 e432 r434 => ?_) sc_l_players.nd
  have E435 := E425.trans e432
  have r436 := Enc.mono e432.f r415
  have r437 := Enc.mono e432.f r418
  have r438 := Enc.mono e432.f r421
  have r439 := Enc.mono e432.f r424
  obtain ⟨ds429, q430, hm⟩ := ltE hm
  rw [← q430] at r434
  obtain ⟨at440, h_at440, hm⟩ := bndE hm
  obtain ⟨hc441, hm⟩ := chkE hm
  obtain ⟨ys458, h_ys458, hm⟩ := bndE hm
  obtain ⟨hc459, hm⟩ := chkE hm
  obtain rfl := Option.some.inj hm
  exact do_ret (EvN.ev (EvL.n (en_comp0 (own := [("_law_k", 5)]) (j := 5) (f := fun (x442 : Int) => (bnd (atI ds429 ((1 : Int) + ((2 : Int) * x442))) fun at455 => (bnd (atI ds429 ((2 : Int) + ((2 : Int) * x442))) fun at456 => (bnd (m_l_player x442 at455 at456 tools_here419 way422) fun player457 => (some player457))))) rfl sc_l_players.nd (ei_range1 z_range (ev_ix (Ev.r (ev_var 4 rfl r434)) ev_int h_at440) hc441) (blkOk_by (own := [("_law_k", 5)]) (N := N_l_players) (sc := defScope s_l_players) (by decide +kernel)) rfl (by decide) (fun _ _ _ _ _ => pg_name (i := 5) sc_l_players.nd rfl (by first | exact Or.inl rfl | exact Or.inr rfl)) h_ys458 hc459 (fun x442 y443 v453 s444 hx446 e445 r454 hf447 _ _ _ _ _ => by have r450 := Enc.mono e445.f r438; have r451 := Enc.mono e445.f r439; have r452 := Enc.mono e445.f r434; obtain ⟨at455, h_at455, hf447⟩ := bndE hf447; obtain ⟨at456, h_at456, hf447⟩ := bndE hf447; obtain ⟨player457, h_player457, hf447⟩ := bndE hf447; obtain rfl := Option.some.inj hf447; exact (ev_call C_l_player hr (by decide) (ea_cons (ev_var 5 rfl r454) (ea_cons (ev_ix (Ev.r (ev_var 4 rfl r452)) (ev_add ev_int (ev_mul ev_int (ev_var 5 rfl r454) (Or.inl (Or.inl ⟨by omega, by omega⟩)))) h_at455) (ea_cons (ev_ix (Ev.r (ev_var 4 rfl r452)) (ev_add ev_int (ev_mul ev_int (ev_var 5 rfl r454) (Or.inl (Or.inl ⟨by omega, by omega⟩)))) h_at456) (ea_cons (ev_var 2 rfl r450) (ea_cons (ev_var 3 rfl r451) ea_nil))))) h_player457))))) fun v460 s461 e462 r463 => hQ _ _ (E435.trans e462) r463
abbrev s_l_seat : Stmt := topS 8
abbrev N_l_seat : List Str := ["_law_first", "_law_more", "_law_step", "_law_tools_here", "_law_many", "_law_j"]
theorem sc_l_seat : FnScope N_l_seat ["_law_first", "_law_more", "_law_step", "_law_tools_here"] (defScope s_l_seat) := ⟨rfl, rfl, rfl, by decide +kernel, rfl, by decide +kernel, by decide +kernel⟩
noncomputable def m_l_seat (first464 : Int) (more467 : Int) (step470 : Int) (tools_here473 : (List Str)) : Option (Tu Str) :=
 (bnd (atI ([(1 : Int), (1 : Int), (1 : Int), (1 : Int), (2 : Int), (2 : Int), (3 : Int), (4 : Int)] : List Int) more467) fun at477 => (lt (at477 : Int) fun many478 =>
 (chk (RgB many478) (bnd (mapO (fun (x490 : Int) => (chk (MulOk x490 ((1 : Int) + step470)) (bnd (atI tools_here473 ((first464 + (x490 * ((1 : Int) + step470))) % (5 : Int))) fun at504 => (some at504)))) (rng 0 many478)) fun ys505 => (chk ((ys505).length ≤ sizeLine) (some (⟨ys505⟩ : Tu Str)))))))
noncomputable abbrev a_l_seat : Int × Int × Int × (List Str) × Unit → Option (Tu Str) := fun a => m_l_seat a.1 a.2.1 a.2.2.1 a.2.2.2.1
theorem ok_l_seat {P : Program} {w : World} {K : PySem.W.Frag} {mg : Str → Option Value} {base : Heap} {f : Addr} {fd : FuncData} (F : FunP K "_law_seat" s_l_seat f fd) (hmg : mg "_law_seat" = some (.ref f)) (z_tuple : mg "tuple" = none) (z_range : mg "range" = none) : Cal P w K mg base CX0 1 "_law_seat" (sp K a_l_seat) := by
  refine mk_cal (k := 0) F hmg (F.bindsN fun _ _ _ _ _ _ us hl => match us, hl with | [_, _, _, _], _ => rfl) sc_l_seat len4 ?_
  rintro cdv A' outer sh0 H0 X0 hr s0 vs ⟨first464, more467, step470, tools_here473, _⟩ r0 Q ⟨v465, _, rfl, r466, v468, _, rfl, r469, v471, _, rfl, r472, v474, _, rfl, r475, rfl⟩ hm hQ
  have E476 := Ex.refl s0
  unfold a_l_seat m_l_seat at hm
  dsimp only at hm
  obtain ⟨at477, h_at477, hm⟩ := bndE hm
  refine do_set 4 (ev_ix (EvN.r (en_list (xs := ([(1 : Int), (1 : Int), (1 : Int), (1 : Int), (2 : Int), (2 : Int), (3 : Int), (4 : Int)] : List Int)) (ee_cons ev_int (ee_cons ev_int (ee_cons ev_int (ee_cons ev_int (ee_cons ev_int (ee_cons ev_int (ee_cons ev_int (ee_cons ev_int ee_nil)))))))) (by simp [sizeLine]))) (ev_var 1 rfl r469) h_at477) (fun v482 s480 e481 r483 => ?_) sc_l_seat.nd
  have E484 := E476.trans e481
  have r485 := Enc.mono e481.f r466
  have r486 := Enc.mono e481.f r469
  have r487 := Enc.mono e481.f r472
  have r488 := Enc.mono e481.f r475
  obtain ⟨many478, q479, hm⟩ := ltE hm
  rw [← q479] at r483
  obtain ⟨hc489, hm⟩ := chkE hm
  obtain ⟨ys505, h_ys505, hm⟩ := bndE hm
  obtain ⟨hc506, hm⟩ := chkE hm
  obtain rfl := Option.some.inj hm
  exact do_ret (ev_tuple z_tuple (EvN.r (EvL.n (en_comp0 (own := [("_law_j", 5)]) (j := 5) (f := fun (x490 : Int) => (chk (MulOk x490 ((1 : Int) + step470)) (bnd (atI tools_here473 ((first464 + (x490 * ((1 : Int) + step470))) % (5 : Int))) fun at504 => (some at504)))) rfl sc_l_seat.nd (ei_range1 z_range (ev_var 4 rfl r483) hc489) (blkOk_by (own := [("_law_j", 5)]) (N := N_l_seat) (sc := defScope s_l_seat) (by decide +kernel)) rfl (by decide) (fun _ _ _ _ _ => pg_name (i := 5) sc_l_seat.nd rfl (by first | exact Or.inl rfl | exact Or.inr rfl)) h_ys505 hc506 (fun x490 y491 v501 s492 hx494 e493 r502 hf495 _ _ _ _ _ => by have r496 := Enc.mono e493.f r485; have r498 := Enc.mono e493.f r487; have r499 := Enc.mono e493.f r488; obtain ⟨hc503, hf495⟩ := chkE hf495; obtain ⟨at504, h_at504, hf495⟩ := bndE hf495; obtain rfl := Option.some.inj hf495; exact (ev_ix (Ev.r (ev_var 3 rfl r499)) (ev_mod (ev_add (ev_var 0 rfl r496) (ev_mul (ev_var 5 rfl r502) (ev_add ev_int (ev_var 2 rfl r498)) hc503)) ev_int (by decide)) h_at504)))))) fun v507 s508 e509 r510 => hQ _ _ (E484.trans e509) r510
abbrev s_l_seats : Stmt := topS 9
abbrev N_l_seats : List Str := ["_law_cell", "_law_most", "_law_tools_here", "_law_ds", "_law_k"]
theorem sc_l_seats : FnScope N_l_seats ["_law_cell", "_law_most", "_law_tools_here"] (defScope s_l_seats) := ⟨rfl, rfl, rfl, by decide +kernel, rfl, by decide +kernel, by decide +kernel⟩
noncomputable def m_l_seats (cell511 : Int) (most514 : Int) (tools_here517 : (List Str)) : Option (List (Tu Str)) :=
 (chk (RepOk most514 (([(5 : Int), (8 : Int), (4 : Int)] : List Int)).length) (chk ((([(most514 + (1 : Int))] : List Int)).length + ((repl most514 ([(5 : Int), (8 : Int), (4 : Int)] : List Int))).length ≤ sizeLine) (bnd (m_l_draws cell511 (([(most514 + (1 : Int))] : List Int) ++ (repl most514 ([(5 : Int), (8 : Int), (4 : Int)] : List Int)))) fun draws523 => (lt (draws523 : (List Int)) fun ds524 =>
 (bnd (atI ds524 (0 : Int)) fun at534 => (chk (RgB at534) (bnd (mapO (fun (x536 : Int) => (bnd (atI ds524 ((1 : Int) + ((3 : Int) * x536))) fun at548 => (bnd (atI ds524 ((2 : Int) + ((3 : Int) * x536))) fun at549 => (bnd (atI ds524 ((3 : Int) + ((3 : Int) * x536))) fun at550 => (bnd (m_l_seat at548 at549 at550 tools_here517) fun seat551 => (some seat551)))))) (rng 0 at534)) fun ys552 => (chk ((ys552).length ≤ sizeLine) (some ys552)))))))))
noncomputable abbrev a_l_seats : Int × Int × (List Str) × Unit → Option (List (Tu Str)) := fun a => m_l_seats a.1 a.2.1 a.2.2.1
theorem ok_l_seats {P : Program} {w : World} {K : PySem.W.Frag} {mg : Str → Option Value} {base : Heap} {f : Addr} {fd : FuncData} (F : FunP K "_law_seats" s_l_seats f fd) (hmg : mg "_law_seats" = some (.ref f)) (C_l_draws : Cal P w K mg base CX0 1 "_law_draws" (spN K a_l_draws)) (C_l_seat : Cal P w K mg base CX0 1 "_law_seat" (sp K a_l_seat)) (z_range : mg "range" = none) : Cal P w K mg base CX0 2 "_law_seats" (sp K a_l_seats) := by
  refine mk_cal (k := 1) F hmg (F.bindsN fun _ _ _ _ _ _ us hl => match us, hl with | [_, _, _], _ => rfl) sc_l_seats len3 ?_
  rintro cdv A' outer sh0 H0 X0 hr s0 vs ⟨cell511, most514, tools_here517, _⟩ r0 Q ⟨v512, _, rfl, r513, v515, _, rfl, r516, v518, _, rfl, r519, rfl⟩ hm hQ
  have E520 := Ex.refl s0
  unfold a_l_seats m_l_seats at hm
  dsimp only at hm
  obtain ⟨hc521, hm⟩ := chkE hm
  obtain ⟨hc522, hm⟩ := chkE hm
  obtain ⟨draws523, h_draws523, hm⟩ := bndE hm
  refine do_set 3 (EvN.ev (en_call C_l_draws hr (by decide) (ea_cons (ev_var 0 rfl r513) (ea_cons (EvN.ev (en_cat (EvN.r (en_list (xs := ([(most514 + (1 : Int))] : List Int)) (ee_cons (ev_add (ev_var 1 rfl r516) ev_int) ee_nil) (by simp [sizeLine]))) (EvN.r (en_rep (en_list (xs := ([(5 : Int), (8 : Int), (4 : Int)] : List Int)) (ee_cons ev_int (ee_cons ev_int (ee_cons ev_int ee_nil))) (by simp [sizeLine])) (fun _ hk => Ev.mono (ev_var 1 rfl r516) hk) hc521)) hc522)) ea_nil)) h_draws523)) (fun v528 s526 e527 r529 => ?_) sc_l_seats.nd
  have E530 := E520.trans e527
  have r531 := Enc.mono e527.f r513
  have r532 := Enc.mono e527.f r516
  have r533 := Enc.mono e527.f r519
  obtain ⟨ds524, q525, hm⟩ := ltE hm
  rw [← q525] at r529
  obtain ⟨at534, h_at534, hm⟩ := bndE hm
  obtain ⟨hc535, hm⟩ := chkE hm
  obtain ⟨ys552, h_ys552, hm⟩ := bndE hm
  obtain ⟨hc553, hm⟩ := chkE hm
  obtain rfl := Option.some.inj hm
  exact do_ret (EvN.ev (EvL.n (en_comp0 (own := [("_law_k", 4)]) (j := 4) (f := fun (x536 : Int) => (bnd (atI ds524 ((1 : Int) + ((3 : Int) * x536))) fun at548 => (bnd (atI ds524 ((2 : Int) + ((3 : Int) * x536))) fun at549 => (bnd (atI ds524 ((3 : Int) + ((3 : Int) * x536))) fun at550 => (bnd (m_l_seat at548 at549 at550 tools_here517) fun seat551 => (some seat551)))))) rfl sc_l_seats.nd (ei_range1 z_range (ev_ix (Ev.r (ev_var 3 rfl r529)) ev_int h_at534) hc535) (blkOk_by (own := [("_law_k", 4)]) (N := N_l_seats) (sc := defScope s_l_seats) (by decide +kernel)) rfl (by decide) (fun _ _ _ _ _ => pg_name (i := 4) sc_l_seats.nd rfl (by first | exact Or.inl rfl | exact Or.inr rfl)) h_ys552 hc553 (fun x536 y537 v546 s538 hx540 e539 r547 hf541 _ _ _ _ _ => by have r544 := Enc.mono e539.f r533; have r545 := Enc.mono e539.f r529; obtain ⟨at548, h_at548, hf541⟩ := bndE hf541; obtain ⟨at549, h_at549, hf541⟩ := bndE hf541; obtain ⟨at550, h_at550, hf541⟩ := bndE hf541; obtain ⟨seat551, h_seat551, hf541⟩ := bndE hf541; obtain rfl := Option.some.inj hf541; exact (ev_call C_l_seat hr (by decide) (ea_cons (ev_ix (Ev.r (ev_var 3 rfl r545)) (ev_add ev_int (ev_mul ev_int (ev_var 4 rfl r547) (Or.inl (Or.inl ⟨by omega, by omega⟩)))) h_at548) (ea_cons (ev_ix (Ev.r (ev_var 3 rfl r545)) (ev_add ev_int (ev_mul ev_int (ev_var 4 rfl r547) (Or.inl (Or.inl ⟨by omega, by omega⟩)))) h_at549) (ea_cons (ev_ix (Ev.r (ev_var 3 rfl r545)) (ev_add ev_int (ev_mul ev_int (ev_var 4 rfl r547) (Or.inl (Or.inl ⟨by omega, by omega⟩)))) h_at550) (ea_cons (ev_var 2 rfl r544) ea_nil)))) h_seat551))))) fun v554 s555 e556 r557 => hQ _ _ (E530.trans e556) r557
abbrev s_l_cell_at : Stmt := topS 4
abbrev N_l_cell_at : List Str := ["_law_script", "_law_k"]
theorem sc_l_cell_at : FnScope N_l_cell_at ["_law_script", "_law_k"] (defScope s_l_cell_at) := ⟨rfl, rfl, rfl, by decide +kernel, rfl, by decide +kernel, by decide +kernel⟩
noncomputable def m_l_cell_at (script558 : (List Int)) (k561 : Int) : Option Int :=
 (if (decide (k561 < ((script558).length : Int))) = true then
 (bnd (atI script558 k561) fun at573 => (some at573))
 else
 (some (0 : Int)))
noncomputable abbrev a_l_cell_at : (List Int) × Int × Unit → Option Int := fun a => m_l_cell_at a.1 a.2.1
theorem ok_l_cell_at {P : Program} {w : World} {K : PySem.W.Frag} {mg : Str → Option Value} {base : Heap} {f : Addr} {fd : FuncData} (F : FunP K "_law_cell_at" s_l_cell_at f fd) (hmg : mg "_law_cell_at" = some (.ref f)) (z_len : mg "len" = none) : Cal P w K mg base CX0 1 "_law_cell_at" (sp K a_l_cell_at) := by
  refine mk_cal (k := 0) F hmg (F.bindsN fun _ _ _ _ _ _ us hl => match us, hl with | [_, _], _ => rfl) sc_l_cell_at len2 ?_
  rintro cdv A' outer sh0 H0 X0 hr s0 vs ⟨script558, k561, _⟩ r0 Q ⟨v559, _, rfl, r560, v562, _, rfl, r563, rfl⟩ hm hQ
  have E564 := Ex.refl s0
  unfold a_l_cell_at m_l_cell_at at hm
  dsimp only at hm
  refine do_ifR (EvB.t (eb_lt (ev_var 1 rfl r563) (ev_len z_len (Ev.r (ev_var 0 rfl r560))))) (fun hb566 s567 e568 => ?_) (fun hb578 s579 e580 => ?_)
  · have hm569 := iteE1 hm hb566
    have E570 := E564.trans e568
    have r571 := Enc.mono e568.f r560
    have r572 := Enc.mono e568.f r563
    obtain ⟨at573, h_at573, hm569⟩ := bndE hm569
    obtain rfl := Option.some.inj hm569
    exact do_ret (ev_ix (Ev.r (ev_var 0 rfl r571)) (ev_var 1 rfl r572) h_at573) fun v574 s575 e576 r577 => hQ _ _ (E570.trans e576) r577
  · have hm581 := iteE2 hm hb578
    have E582 := E564.trans e580
    have r583 := Enc.mono e580.f r560
    have r584 := Enc.mono e580.f r563
    obtain rfl := Option.some.inj hm581
    exact do_ret ev_int fun v585 s586 e587 r588 => hQ _ _ (E582.trans e587) r588
abbrev s_l_row : Stmt := topS 13
abbrev N_l_row : List Str := ["_law_cell", "_law_players_here", "_law_seats_here", "_law_ds", "_law_many", "_law_row_here", "_law_place"]
theorem sc_l_row : FnScope N_l_row ["_law_cell", "_law_players_here", "_law_seats_here"] (defScope s_l_row) := ⟨rfl, rfl, rfl, by decide +kernel, rfl, by decide +kernel, by decide +kernel⟩
noncomputable def m_l_row (cell589 : Int) (players_here592 : (List (Str × (Tu Str)))) (seats_here595 : (List (Tu Str))) : Option (List Int) :=
 (chk (RepOk (6 : Int) (([(((players_here592).length : Int) + (2 : Int))] : List Int)).length) (chk ((([(4 : Int), (8 : Int)] : List Int)).length + ((repl (6 : Int) ([(((players_here592).length : Int) + (2 : Int))] : List Int))).length ≤ sizeLine) (bnd (m_l_draws cell589 (([(4 : Int), (8 : Int)] : List Int) ++ (repl (6 : Int) ([(((players_here592).length : Int) + (2 : Int))] : List Int)))) fun draws601 => (lt (draws601 : (List Int)) fun ds602 =>
 (bnd (atI ds602 (0 : Int)) fun at612 => (bnd (atI ([(0 : Int), (0 : Int), (1 : Int), (-(1 : Int))] : List Int) at612) fun at613 => (lt ((max (0 : Int) (((seats_here595).length : Int) + at613)) : Int) fun many614 =>
 (chk (((List.map (fun (x625 : Int) => (x625 - (1 : Int))) (cut ds602 (some (2 : Int)) (some ((2 : Int) + many614))))).length ≤ sizeLine) (lt ((List.map (fun (x625 : Int) => (x625 - (1 : Int))) (cut ds602 (some (2 : Int)) (some ((2 : Int) + many614)))) : (List Int)) fun row_here639 =>
 (bnd (atI ds602 (1 : Int)) fun at653 => (bnd (if ((decide (at653 = (0 : Int))) && (!decide (row_here639 = ([] : List Int)))) = true then
 (bnd (atI ([((10 : Int) ^ ((59 : Int)).toNat), ((0 : Int) - ((10 : Int) ^ ((59 : Int)).toNat))] : List Int) (cell589 % (2 : Int))) fun at669 => (bnd (ixN (row_here639).length (0 : Int)) fun j670 => (lt ((row_here639).set j670 at669) fun row_here674 =>
 (some row_here674))))
 else
 (some row_here639) : Option (List Int)) fun b655 =>
 (some b655))))))))))))
noncomputable abbrev a_l_row : Int × (List (Str × (Tu Str))) × (List (Tu Str)) × Unit → Option (List Int) := fun a => m_l_row a.1 a.2.1 a.2.2.1
theorem ok_l_row {P : Program} {w : World} {K : PySem.W.Frag} {mg : Str → Option Value} {base : Heap} {f : Addr} {fd : FuncData} (F : FunP K "_law_row" s_l_row f fd) (hmg : mg "_law_row" = some (.ref f)) (C_l_draws : Cal P w K mg base CX0 1 "_law_draws" (spN K a_l_draws)) (z_len : mg "len" = none) (z_max : mg "max" = none) : Cal P w K mg base CX0 2 "_law_row" (spN K a_l_row) := by
  refine mk_calN (k := 1) F hmg (F.bindsN fun _ _ _ _ _ _ us hl => match us, hl with | [_, _, _], _ => rfl) sc_l_row len3 ?_
  rintro cdv A' outer sh0 H0 X0 hr s0 vs ⟨cell589, players_here592, seats_here595, _⟩ r0 Q ⟨v590, _, rfl, r591, v593, _, rfl, r594, v596, _, rfl, r597, rfl⟩ hm hQ
  have E598 := Ex.refl s0
  unfold a_l_row m_l_row at hm
  dsimp only at hm
  obtain ⟨hc599, hm⟩ := chkE hm
  obtain ⟨hc600, hm⟩ := chkE hm
  obtain ⟨draws601, h_draws601, hm⟩ := bndE hm
  refine do_set 3 (EvN.ev (en_call C_l_draws hr (by decide) (ea_cons (ev_var 0 rfl r591) (ea_cons (EvN.ev (en_cat (EvN.r (en_list (xs := ([(4 : Int), (8 : Int)] : List Int)) (ee_cons ev_int (ee_cons ev_int ee_nil)) (by simp [sizeLine]))) (EvN.r (en_rep (en_list (xs := ([(((players_here592).length : Int) + (2 : Int))] : List Int)) (ee_cons (ev_add (ev_len z_len (Ev.r (ev_var 1 rfl r594))) ev_int) ee_nil) (by simp [sizeLine])) (fun _ hk => Ev.mono ev_int hk) hc599)) hc600)) ea_nil)) h_draws601)) (fun v606 s604 e605 r607 => ?_) sc_l_row.nd
  have E608 := E598.trans e605
  have r609 := Enc.mono e605.f r591
  have r610 := Enc.mono e605.f r594
  have r611 := Enc.mono e605.f r597
  obtain ⟨ds602, q603, hm⟩ := ltE hm
  rw [← q603] at r607
  obtain ⟨at612, h_at612, hm⟩ := bndE hm
  obtain ⟨at613, h_at613, hm⟩ := bndE hm
  refine do_set 4 (ev_max2 z_max ev_int (ev_add (ev_len z_len (Ev.r (ev_var 2 rfl r611))) (ev_ix (EvN.r (en_list (xs := ([(0 : Int), (0 : Int), (1 : Int), (-(1 : Int))] : List Int)) (ee_cons ev_int (ee_cons ev_int (ee_cons ev_int (ee_cons (ev_neg ev_int) ee_nil)))) (by simp [sizeLine]))) (ev_ix (Ev.r (ev_var 3 rfl r607)) ev_int h_at612) h_at613))) (fun v618 s616 e617 r619 => ?_) sc_l_row.nd
  have E620 := E608.trans e617
  have r621 := Enc.mono e617.f r609
  have r622 := Enc.mono e617.f r610
  have r623 := Enc.mono e617.f r611
  have r624 := Enc.mono e617.f r607
  obtain ⟨many614, q615, hm⟩ := ltE hm
  rw [← q615] at r619
  obtain ⟨hc638, hm⟩ := chkE hm
  refine do_setL 5 (en_comp0 (own := [("_law_place", 6)]) (j := 6) (f := fun (x625 : Int) => some (x625 - (1 : Int))) rfl sc_l_row.nd (ei_list (EvN.ev (en_slice (Ev.r (ev_var 3 rfl r624)) (eo_some ev_int) (eo_some (ev_add ev_int (ev_var 4 rfl r619)))))) (blkOk_by (own := [("_law_place", 6)]) (N := N_l_row) (sc := defScope s_l_row) (by decide +kernel)) rfl (by decide) (fun _ _ _ _ _ => pg_name (i := 6) sc_l_row.nd rfl (by first | exact Or.inl rfl | exact Or.inr rfl)) (compO_map (fun (x625 : Int) => (x625 - (1 : Int))) (cut ds602 (some (2 : Int)) (some ((2 : Int) + many614)))) hc638 (fun x625 y626 v636 s627 hx629 e628 r637 hf630 _ _ _ _ _ => by obtain rfl := Option.some.inj hf630; exact (ev_sub (ev_var 6 rfl r637) ev_int))) (fun p643 s641 e642 n644 o645 => ?_) rfl rfl
  have n646 := fr_back E620 n644
  have E647 := E620.trans e642
  have r648 := Enc.mono e642.f r621
  have r649 := Enc.mono e642.f r622
  have r650 := Enc.mono e642.f r623
  have r651 := Enc.mono e642.f r624
  have r652 := Enc.mono e642.f r619
  obtain ⟨row_here639, q640, hm⟩ := ltE hm
  rw [← q640] at o645
  obtain ⟨at653, h_at653, hm⟩ := bndE hm
  obtain ⟨b655, hj656, hm⟩ := bndE hm
  refine do_if (EvW.tt (EvC.w (ec_and (eb_eq (ev_ix (Ev.r (ev_var 3 rfl r651)) ev_int h_at653) ev_int) fun _ => (ec_and1 (eb_neL hr (ev_varR 5 rfl o645) (EvN.r (en_list (xs := ([] : List Int)) ee_nil (by simp [sizeLine]))) (shp_of _) (shp_of _)))))) (fun (σ' : L2.St) (t' : S) => Fle s641.F t'.F ∧ Ex s0 t' ∧ σ' = [some v590, some v593, some v596, some v606, some v618, some (.ref p643), none] ∧ Own K t' p643 (b655 : (List Int))) (fun hb657 s658 e659 => ?_) (fun hb683 s684 e685 => ?_) (fun σ695 s696 hM697 => ?_)
  · have hm660 := iteE1 hj656 hb657
    have E661 := E647.trans e659
    have fl662 := Fle.trans (Fle.refl s641.F) e659.f
    have r663 := Enc.mono e659.f r648
    have r664 := Enc.mono e659.f r649
    have r665 := Enc.mono e659.f r650
    have r666 := Enc.mono e659.f r651
    have r667 := Enc.mono e659.f r652
    have o668 := Own.ex o645 e659
    obtain ⟨at669, h_at669, hm660⟩ := bndE hm660
    obtain ⟨j670, h_j670, hm660⟩ := bndE hm660
    refine do_setItem 5 rfl o668 (ev_ix (EvN.r (en_list (xs := ([((10 : Int) ^ ((59 : Int)).toNat), ((0 : Int) - ((10 : Int) ^ ((59 : Int)).toNat))] : List Int)) (ee_cons (ev_pow ev_int ev_int ⟨by decide, by decide, by decide⟩) (ee_cons (ev_sub ev_int (ev_pow ev_int ev_int ⟨by decide, by decide, by decide⟩)) ee_nil)) (by simp [sizeLine]))) (ev_mod (ev_var 0 rfl r663) ev_int (by decide)) h_at669) ev_int h_j670 (fun s671 m672 o673 => ?_)
    have E676 := Ex.mu1 E661 m672 n646
    have fl677 := Fle.trans fl662 m672.f
    have r678 := Enc.mono m672.f r663
    have r679 := Enc.mono m672.f r664
    have r680 := Enc.mono m672.f r665
    have r681 := Enc.mono m672.f r666
    have r682 := Enc.mono m672.f r667
    obtain ⟨row_here674, q675, hm660⟩ := ltE hm660
    rw [← q675] at o673
    obtain rfl := Option.some.inj hm660
    exact do_nil ⟨s671, rfl, fl677, ⟨E676, rfl, o673⟩⟩
  · have hm686 := iteE2 hj656 hb683
    have E687 := E647.trans e685
    have fl688 := Fle.trans (Fle.refl s641.F) e685.f
    have r689 := Enc.mono e685.f r648
    have r690 := Enc.mono e685.f r649
    have r691 := Enc.mono e685.f r650
    have r692 := Enc.mono e685.f r651
    have r693 := Enc.mono e685.f r652
    have o694 := Own.ex o645 e685
    obtain rfl := Option.some.inj hm686
    exact do_nil ⟨s684, rfl, fl688, ⟨E687, rfl, o694⟩⟩
  · obtain ⟨hf698, hR699⟩ := hM697
    obtain ⟨E700, rfl, o701⟩ := hR699
    have r702 := Enc.mono hf698 r648
    have r703 := Enc.mono hf698 r649
    have r704 := Enc.mono hf698 r650
    have r705 := Enc.mono hf698 r651
    have r706 := Enc.mono hf698 r652
    obtain rfl := Option.some.inj hm
    exact do_retO 5 rfl (hQ _ _ E700 n646 o701)
abbrev s_can_sit : Stmt := topS 1
abbrev N_can_sit : List Str := ["player", "seat", "one"]
theorem sc_can_sit : FnScope N_can_sit ["player", "seat"] (defScope s_can_sit) := ⟨rfl, rfl, rfl, by decide +kernel, rfl, by decide +kernel, by decide +kernel⟩
noncomputable def m_can_sit (player707 : (Str × (Tu Str))) (seat710 : (Tu Str)) : Option Bool :=
 (bnd (foldF (ρ := Bool) (fun (b716 : Unit) (x718 : Str) =>
 (if (!decide (x718 ∈ ((player707).2).l)) = true then
 (some (Fl.rt false))
 else
 (some (Fl.nx ())))) () (seat710).l) fun o714 =>
 (Fl.go o714 (fun b777 => (some true)) (fun rr => (some rr))))
noncomputable abbrev a_can_sit : (Str × (Tu Str)) × (Tu Str) × Unit → Option Bool := fun a => m_can_sit a.1 a.2.1
theorem ok_can_sit {P : Program} {w : World} {K : PySem.W.Frag} {mg : Str → Option Value} {base : Heap} {f : Addr} {fd : FuncData} (F : FunP K "can_sit" s_can_sit f fd) (hmg : mg "can_sit" = some (.ref f))  : Cal P w K mg base CX0 1 "can_sit" (sp K a_can_sit) := by
  refine mk_cal (k := 0) F hmg (F.bindsN fun _ _ _ _ _ _ us hl => match us, hl with | [_, _], _ => rfl) sc_can_sit len2 ?_
  rintro cdv A' outer sh0 H0 X0 hr s0 vs ⟨player707, seat710, _⟩ r0 Q ⟨v708, _, rfl, r709, v711, _, rfl, r712, rfl⟩ hm hQ
  have E713 := Ex.refl s0
  unfold a_can_sit m_can_sit at hm
  dsimp only at hm
  obtain ⟨o714, ho715, hm⟩ := bndE hm
  refine do_forF (ρ := Bool) (υ := Unit) PassesOwn.never rfl (ei_tup (ev_var 1 rfl r712)) (pg_name (i := 2) sc_can_sit.nd rfl (by first | exact Or.inl rfl | exact Or.inr rfl)) tg_n ho715 (fun (b716 : Unit) (σ' : L2.St) (t' : S) => Ex s0 t' ∧ ∃ (y_one : Option V), σ' = [some v708, some v711, y_one]) (fun s772 k773 => by have E774 := E713.trans k773; have r775 := Enc.mono k773.f r709; have r776 := Enc.mono k773.f r712; exact ⟨E774, _, rfl⟩) (fun s719 k720 x718 b716 q741 σ729 σ730 t727 t728 hx721 hm722 hq742 fl723 hR724 k725 hB726 => ?_) (fun s766 k767 b777 σ768 t769 ho778 fl770 hR771 => ?_)
  · have hf731 := Fle.trans k720.f fl723
    obtain ⟨E732, y733, rfl⟩ := hR724
    have r734 := Enc.mono hf731 r709
    have r735 := Enc.mono hf731 r712
    obtain ⟨v736, r737, rfl⟩ := hB726
    have E738 := E732.trans k725
    have r739 := Enc.mono k725.f r734
    have r740 := Enc.mono k725.f r735
    refine do_ifR (EvB.t (eb_notInT (ev_var 2 rfl r737) (ev_ixP (ev_var 0 rfl r739) ev_int p2_1))) (fun hb744 s745 e746 => ?_) (fun hb757 s758 e759 => ?_)
    · have hm747 := iteE1 hm722 hb744
      have E748 := E738.trans e746
      have fl749 := Fle.trans (Fle.refl t728.F) e746.f
      have r750 := Enc.mono e746.f r739
      have r751 := Enc.mono e746.f r740
      have r752 := Enc.mono e746.f r737
      obtain rfl := Option.some.inj hm747
      obtain rfl := hq742 _ rfl
      obtain rfl := Option.some.inj hm
      exact do_ret ev_bl fun v753 s754 e755 r756 => hQ _ _ (E748.trans e755) r756
    · have hm760 := iteE2 hm722 hb757
      have E761 := E738.trans e759
      have fl762 := Fle.trans (Fle.refl t728.F) e759.f
      have r763 := Enc.mono e759.f r739
      have r764 := Enc.mono e759.f r740
      have r765 := Enc.mono e759.f r737
      obtain rfl := Option.some.inj hm760
      exact do_nil ⟨s758, rfl, _, rfl, fl762, ⟨E761, _, rfl⟩⟩
  · subst ho778
    replace hm := goN hm
    have hf779 := Fle.trans k767.f fl770
    obtain ⟨E780, y781, rfl⟩ := hR771
    have r782 := Enc.mono hf779 r709
    have r783 := Enc.mono hf779 r712
    obtain rfl := Option.some.inj hm
    exact do_ret ev_bl fun v784 s785 e786 r787 => hQ _ _ (E780.trans e786) r787
abbrev s_is_seating : Stmt := topS 2
abbrev N_is_seating : List Str := ["players", "seats", "row", "k"]
theorem sc_is_seating : FnScope N_is_seating ["players", "seats", "row"] (defScope s_is_seating) := ⟨rfl, rfl, rfl, by decide +kernel, rfl, by decide +kernel, by decide +kernel⟩
noncomputable def m_is_seating (players788 : (List (Str × (Tu Str)))) (seats791 : (List (Tu Str))) (row794 : (List Int)) : Option Bool :=
 (bnd (orO (!decide (((row794).length : Int) = ((seats791).length : Int))) (chk ((row794).length ≤ 4000) (some (!decide (((dsz row794 : Nat) : Int) = ((row794).length : Int)))))) fun c799 => (if c799 = true then
 (some false)
 else
 (chk (RgB ((row794).length : Int)) (bnd (foldF (ρ := Bool) (fun (b825 : Unit) (x827 : Int) =>
 (bnd (atI row794 x827) fun at854 => (bnd (orO (decide (at854 < (0 : Int))) (bnd (atI row794 x827) fun at855 => (orO (decide (((players788).length : Int) ≤ at855)) (bnd (atI row794 x827) fun at856 => (bnd (atI players788 at856) fun at857 => (bnd (atI seats791 x827) fun at858 => (bnd (m_can_sit at857 at858) fun can_sit859 => (some (!can_sit859))))))))) fun c860 => (if c860 = true then
 (some (Fl.rt false))
 else
 (some (Fl.nx ())))))) () (rng 0 ((row794).length : Int))) fun o823 =>
 (Fl.go o823 (fun b900 => (some true)) (fun rr => (some rr)))))))
noncomputable abbrev a_is_seating : (List (Str × (Tu Str))) × (List (Tu Str)) × (List Int) × Unit → Option Bool := fun a => m_is_seating a.1 a.2.1 a.2.2.1
theorem ok_is_seating {P : Program} {w : World} {K : PySem.W.Frag} {mg : Str → Option Value} {base : Heap} {f : Addr} {fd : FuncData} (F : FunP K "is_seating" s_is_seating f fd) (hmg : mg "is_seating" = some (.ref f)) (C_can_sit : Cal P w K mg base CX0 1 "can_sit" (sp K a_can_sit)) (z_len : mg "len" = none) (z_set : mg "set" = none) (z_range : mg "range" = none) : Cal P w K mg base CX0 2 "is_seating" (sp K a_is_seating) := by
  refine mk_cal (k := 1) F hmg (F.bindsN fun _ _ _ _ _ _ us hl => match us, hl with | [_, _, _], _ => rfl) sc_is_seating len3 ?_
  rintro cdv A' outer sh0 H0 X0 hr s0 vs ⟨players788, seats791, row794, _⟩ r0 Q ⟨v789, _, rfl, r790, v792, _, rfl, r793, v795, _, rfl, r796, rfl⟩ hm hQ
  have E797 := Ex.refl s0
  unfold a_is_seating m_is_seating at hm
  dsimp only at hm
  obtain ⟨c799, h_c799, hm⟩ := bndE hm
  refine do_ifR (EvW.tt (EvC.w (by skip; exact ec_orO (eb_ne (ev_len z_len (Ev.r (ev_var 2 rfl r796))) (ev_len z_len (Ev.r (ev_var 1 rfl r793)))) (fun hb800 => (fun hz => (by obtain ⟨hc798, hz⟩ := chkE hz; obtain rfl := Option.some.inj hz; exact (ec_or1 (eb_ne (ev_dsz z_len z_set (Ev.r (ev_var 2 rfl r796)) hc798) (ev_len z_len (Ev.r (ev_var 2 rfl r796))))))) ((orE h_c799).1 hb800)) (orE h_c799).2))) (fun hb802 s803 e804 => ?_) (fun hb814 s815 e816 => ?_)
  · have hm805 := iteE1 hm hb802
    have E806 := E797.trans e804
    have r807 := Enc.mono e804.f r790
    have r808 := Enc.mono e804.f r793
    have r809 := Enc.mono e804.f r796
    obtain rfl := Option.some.inj hm805
    exact do_ret ev_bl fun v810 s811 e812 r813 => hQ _ _ (E806.trans e812) r813
  · have hm817 := iteE2 hm hb814
    have E818 := E797.trans e816
    have r819 := Enc.mono e816.f r790
    have r820 := Enc.mono e816.f r793
    have r821 := Enc.mono e816.f r796
    obtain ⟨hc822, hm817⟩ := chkE hm817
    obtain ⟨o823, ho824, hm817⟩ := bndE hm817
    refine do_forF (ρ := Bool) (υ := Unit) PassesOwn.never rfl (ei_range1 z_range (ev_len z_len (Ev.r (ev_var 2 rfl r821))) hc822) (pg_name (i := 3) sc_is_seating.nd rfl (by first | exact Or.inl rfl | exact Or.inr rfl)) tg_n ho824 (fun (b825 : Unit) (σ' : L2.St) (t' : S) => Ex s0 t' ∧ ∃ (y_k : Option V), σ' = [some v789, some v792, some v795, y_k]) (fun s894 k895 => by have E896 := E818.trans k895; have r897 := Enc.mono k895.f r819; have r898 := Enc.mono k895.f r820; have r899 := Enc.mono k895.f r821; exact ⟨E896, _, rfl⟩) (fun s828 k829 x827 b825 q852 σ838 σ839 t836 t837 hx830 hm831 hq853 fl832 hR833 k834 hB835 => ?_) (fun s888 k889 b900 σ890 t891 ho901 fl892 hR893 => ?_)
    · have hf840 := Fle.trans k829.f fl832
      obtain ⟨E841, y842, rfl⟩ := hR833
      have r843 := Enc.mono hf840 r819
      have r844 := Enc.mono hf840 r820
      have r845 := Enc.mono hf840 r821
      obtain ⟨v846, r847, rfl⟩ := hB835
      have E848 := E841.trans k834
      have r849 := Enc.mono k834.f r843
      have r850 := Enc.mono k834.f r844
      have r851 := Enc.mono k834.f r845
      obtain ⟨at854, h_at854, hm831⟩ := bndE hm831
      obtain ⟨c860, h_c860, hm831⟩ := bndE hm831
      refine do_ifR (EvW.tt (EvC.w (by skip; exact ec_orO (eb_lt (ev_ix (Ev.r (ev_var 2 rfl r851)) (ev_var 3 rfl r847) h_at854) ev_int) (fun hb861 => (fun hz => (by obtain ⟨at855, h_at855, hz⟩ := bndE hz; exact ec_orO (eb_ge (ev_ix (Ev.r (ev_var 2 rfl r851)) (ev_var 3 rfl r847) h_at855) (ev_len z_len (Ev.r (ev_var 0 rfl r849)))) (fun hb862 => (fun hz => (by obtain ⟨at856, h_at856, hz⟩ := bndE hz; obtain ⟨at857, h_at857, hz⟩ := bndE hz; obtain ⟨at858, h_at858, hz⟩ := bndE hz; obtain ⟨can_sit859, h_can_sit859, hz⟩ := bndE hz; obtain rfl := Option.some.inj hz; exact (ec_or1 (eb_not (eb_v (ev_call C_can_sit hr (by decide) (ea_cons (ev_ix (Ev.r (ev_var 0 rfl r849)) (ev_ix (Ev.r (ev_var 2 rfl r851)) (ev_var 3 rfl r847) h_at856) h_at857) (ea_cons (ev_ix (Ev.r (ev_var 1 rfl r850)) (ev_var 3 rfl r847) h_at858) ea_nil)) h_can_sit859)))))) ((orE hz).1 hb862)) (orE hz).2)) ((orE h_c860).1 hb861)) (orE h_c860).2))) (fun hb864 s865 e866 => ?_) (fun hb878 s879 e880 => ?_)
      · have hm867 := iteE1 hm831 hb864
        have E868 := E848.trans e866
        have fl869 := Fle.trans (Fle.refl t837.F) e866.f
        have r870 := Enc.mono e866.f r849
        have r871 := Enc.mono e866.f r850
        have r872 := Enc.mono e866.f r851
        have r873 := Enc.mono e866.f r847
        obtain rfl := Option.some.inj hm867
        obtain rfl := hq853 _ rfl
        obtain rfl := Option.some.inj hm817
        exact do_ret ev_bl fun v874 s875 e876 r877 => hQ _ _ (E868.trans e876) r877
      · have hm881 := iteE2 hm831 hb878
        have E882 := E848.trans e880
        have fl883 := Fle.trans (Fle.refl t837.F) e880.f
        have r884 := Enc.mono e880.f r849
        have r885 := Enc.mono e880.f r850
        have r886 := Enc.mono e880.f r851
        have r887 := Enc.mono e880.f r847
        obtain rfl := Option.some.inj hm881
        exact do_nil ⟨s879, rfl, _, rfl, fl883, ⟨E882, _, rfl⟩⟩
    · subst ho901
      replace hm817 := goN hm817
      have hf902 := Fle.trans k889.f fl892
      obtain ⟨E903, y904, rfl⟩ := hR893
      have r905 := Enc.mono hf902 r819
      have r906 := Enc.mono hf902 r820
      have r907 := Enc.mono hf902 r821
      obtain rfl := Option.some.inj hm817
      exact do_ret ev_bl fun v908 s909 e910 r911 => hQ _ _ (E903.trans e910) r911
abbrev s_l_first_row : Stmt := topS 14
abbrev N_l_first_row : List Str := ["_law_players_here", "_law_seats_here", "_law_row_here", "_law_seat_here", "_law_free", "_law_some", "_law_k", "_law_one"]
theorem sc_l_first_row : FnScope N_l_first_row ["_law_players_here", "_law_seats_here"] (defScope s_l_first_row) := ⟨rfl, rfl, rfl, by decide +kernel, rfl, by decide +kernel, by decide +kernel⟩
noncomputable def m_l_first_row (players_here912 : (List (Str × (Tu Str)))) (seats_here915 : (List (Tu Str))) : Option (List Int) :=
 (lt (([] : List Int) : (List Int)) fun row_here919 =>
 (bnd (foldO (fun (b932 : (List Int)) (x934 : (Tu Str)) =>
 (chk (RgB ((players_here912).length : Int)) (chk (((List.map (fun (x962 : Int) => x962) (List.filter (fun (x962 : Int) => (!decide (x962 ∈ b932))) (rng 0 ((players_here912).length : Int))))).length ≤ sizeLine) (lt ((List.map (fun (x962 : Int) => x962) (List.filter (fun (x962 : Int) => (!decide (x962 ∈ b932))) (rng 0 ((players_here912).length : Int)))) : (List Int)) fun free976 =>
 (bnd (compO (fun (x994 : Int) => (bnd (compO (fun (x1007 : Str) => (bnd (atI players_here912 x994) fun at1021 => (some (!decide (x1007 ∈ ((at1021).2).l))))) (fun (x1007 : Str) => some x1007) (x934).l) fun ys1022 => (chk ((ys1022).length ≤ sizeLine) (chk (shp ys1022) (chk (shp ([] : List Str)) (some (decide (ys1022 = ([] : List Str))))))))) (fun (x994 : Int) => some x994) free976) fun ys1027 => (chk ((ys1027).length ≤ sizeLine) (lt (ys1027 : (List Int)) fun some1030 =>
 (chk ((b932).length + ((cut some1030 none (some (1 : Int)))).length ≤ sizeLine) (lt ((b932 ++ (cut some1030 none (some (1 : Int)))) : (List Int)) fun row_here1052 =>
 (some row_here1052)))))))))) row_here919 seats_here915) fun o930 =>
 (some o930)))
noncomputable abbrev a_l_first_row : (List (Str × (Tu Str))) × (List (Tu Str)) × Unit → Option (List Int) := fun a => m_l_first_row a.1 a.2.1
theorem ok_l_first_row {P : Program} {w : World} {K : PySem.W.Frag} {mg : Str → Option Value} {base : Heap} {f : Addr} {fd : FuncData} (F : FunP K "_law_first_row" s_l_first_row f fd) (hmg : mg "_law_first_row" = some (.ref f)) (z_range : mg "range" = none) (z_len : mg "len" = none) : Cal P w K mg base CX0 1 "_law_first_row" (spN K a_l_first_row) := by
  refine mk_calN (k := 0) F hmg (F.bindsN fun _ _ _ _ _ _ us hl => match us, hl with | [_, _], _ => rfl) sc_l_first_row len2 ?_
  rintro cdv A' outer sh0 H0 X0 hr s0 vs ⟨players_here912, seats_here915, _⟩ r0 Q ⟨v913, _, rfl, r914, v916, _, rfl, r917, rfl⟩ hm hQ
  have E918 := Ex.refl s0
  unfold a_l_first_row m_l_first_row at hm
  dsimp only at hm
  refine do_setN 2 (en_list (xs := ([] : List Int)) ee_nil (by simp [sizeLine])) (fun p923 s921 e922 n924 o925 => ?_) sc_l_first_row.nd
  have n926 := fr_back E918 n924
  have E927 := E918.trans e922
  have r928 := Enc.mono e922.f r914
  have r929 := Enc.mono e922.f r917
  obtain ⟨row_here919, q920, hm⟩ := ltE hm
  rw [← q920] at o925
  obtain ⟨o930, ho931, hm⟩ := bndE hm
  refine do_forO (υ := (List Int)) PassesOwn.never rfl (ei_list (ev_var 1 rfl r929)) (pg_name (i := 3) sc_l_first_row.nd rfl (by first | exact Or.inl rfl | exact Or.inr rfl)) tg_n ho931 (fun (b932 : (List Int)) (σ' : L2.St) (t' : S) => Ex s0 t' ∧ ∃ (y_free : Option V) (y_some : Option V) (y_seat_here : Option V), σ' = [some v913, some v916, some (.ref p923), y_seat_here, y_free, y_some, none, none] ∧ Own K t' p923 (b932 : (List Int))) (fun s1068 k1069 => by have E1070 := E927.trans k1069; have r1071 := Enc.mono k1069.f r928; have r1072 := Enc.mono k1069.f r929; have o1073 := Own.ex o925 k1069; exact ⟨E1070, _, _, _, rfl, o1073⟩) (fun s935 k936 x934 b932 b933 σ945 σ946 t943 t944 hx937 hm938 fl939 hR940 k941 hB942 => ?_) (fun s1062 k1063 σ1064 t1065 fl1066 hR1067 => ?_)
  · have hf947 := Fle.trans k936.f fl939
    obtain ⟨E948, y949, y950, y951, rfl, o952⟩ := hR940
    have r953 := Enc.mono hf947 r928
    have r954 := Enc.mono hf947 r929
    obtain ⟨v955, r956, rfl⟩ := hB942
    have E957 := E948.trans k941
    have o958 := Own.ex o952 k941
    have r959 := Enc.mono k941.f r953
    have r960 := Enc.mono k941.f r954
    obtain ⟨hc961, hm938⟩ := chkE hm938
    obtain ⟨hc974, hm938⟩ := chkE hm938
    refine do_setL 4 (en_comp1 (own := [("_law_k", 6)]) (j := 6) (t := fun (x962 : Int) => some (!decide (x962 ∈ b932))) (f := fun (x962 : Int) => some x962) rfl sc_l_first_row.nd (ei_range1 z_range (ev_len z_len (Ev.r (ev_var 0 rfl r959))) hc961) (blkOk_by (own := [("_law_k", 6)]) (N := N_l_first_row) (sc := defScope s_l_first_row) (by decide +kernel)) rfl (by decide) (fun _ _ _ _ _ => pg_name (i := 6) sc_l_first_row.nd rfl (by first | exact Or.inl rfl | exact Or.inr rfl)) (compO_pure (fun (x962 : Int) => (!decide (x962 ∈ b932))) (fun (x962 : Int) => x962) (rng 0 ((players_here912).length : Int))) hc974 (fun x962 y963 v972 s964 hx966 e965 r973 hf967 _ _ _ _ _ => by have o968 := (o958).ex e965; obtain rfl := Option.some.inj hf967; exact (EvB.t (eb_notIn (ev_var 6 rfl r973) (ev_varR 2 rfl o968)))) (fun x962 y963 v972 s964 hx966 e965 r973 ht975 hf967 _ _ _ _ _ => by obtain rfl := Option.some.inj hf967; exact (ev_var 6 rfl r973))) (fun p982 s978 e979 n983 o984 => ?_) rfl rfl
    obtain ⟨s985, hs986, e987, r981⟩ := frz_ex e979 n983 o984
    rw [← hs986]
    have E988 := E957.trans e987
    have fl989 := Fle.trans (Fle.refl t944.F) e987.f
    have o990 := Own.ex o958 e987
    have r991 := Enc.mono e987.f r959
    have r992 := Enc.mono e987.f r960
    have r993 := Enc.mono e987.f r956
    obtain ⟨free976, q977, hm938⟩ := ltE hm938
    rw [← q977] at r981
    obtain ⟨ys1027, h_ys1027, hm938⟩ := bndE hm938
    obtain ⟨hc1028, hm938⟩ := chkE hm938
    refine do_setL 5 (en_comp1 (own := [("_law_k", 6)]) (j := 6) (t := fun (x994 : Int) => (bnd (compO (fun (x1007 : Str) => (bnd (atI players_here912 x994) fun at1021 => (some (!decide (x1007 ∈ ((at1021).2).l))))) (fun (x1007 : Str) => some x1007) (x934).l) fun ys1022 => (chk ((ys1022).length ≤ sizeLine) (chk (shp ys1022) (chk (shp ([] : List Str)) (some (decide (ys1022 = ([] : List Str))))))))) (f := fun (x994 : Int) => some x994) rfl sc_l_first_row.nd (ei_list (ev_var 4 rfl r981)) (blkOk_by (own := [("_law_k", 6)]) (N := N_l_first_row) (sc := defScope s_l_first_row) (by decide +kernel)) rfl (by decide) (fun _ _ _ _ _ => pg_name (i := 6) sc_l_first_row.nd rfl (by first | exact Or.inl rfl | exact Or.inr rfl)) h_ys1027 hc1028 (fun x994 y995 v1005 s996 hx998 e997 r1006 hf999 _ _ _ _ _ => by have r1001 := Enc.mono e997.f r991; have r1003 := Enc.mono e997.f r993; obtain ⟨ys1022, h_ys1022, hf999⟩ := bndE hf999; obtain ⟨hc1023, hf999⟩ := chkE hf999; obtain ⟨hc1025, hf999⟩ := chkE hf999; obtain ⟨hc1026, hf999⟩ := chkE hf999; obtain rfl := Option.some.inj hf999; exact (EvB.t (eb_eqL hr (EvN.r (EvL.n (en_comp1 (own := [("_law_one", 7)]) (j := 7) (t := fun (x1007 : Str) => (bnd (atI players_here912 x994) fun at1021 => (some (!decide (x1007 ∈ ((at1021).2).l))))) (f := fun (x1007 : Str) => some x1007) rfl sc_l_first_row.nd (ei_tup (ev_var 3 rfl r1003)) (blkOk_n (own := [("_law_one", 7)]) (N := N_l_first_row) (sc0 := defScope s_l_first_row) rfl (by decide +kernel)) rfl (by decide) (fun _ _ _ _ _ => pg_name (i := 7) sc_l_first_row.nd rfl (by first | exact Or.inl rfl | exact Or.inr rfl)) h_ys1022 hc1023 (fun x1007 y1008 v1019 s1009 hx1011 e1010 r1020 hf1012 _ _ _ _ _ => by have r1014 := Enc.mono e1010.f r1001; have r1018 := Enc.mono e1010.f r1006; obtain ⟨at1021, h_at1021, hf1012⟩ := bndE hf1012; obtain rfl := Option.some.inj hf1012; exact (EvB.t (eb_notInT (ev_var 7 rfl r1020) (ev_ixP (ev_ix (Ev.r (ev_var 0 rfl r1014)) (ev_var 6 rfl r1018) h_at1021) ev_int p2_1)))) (fun x1007 y1008 v1019 s1009 hx1011 e1010 r1020 ht1024 hf1012 _ _ _ _ _ => by obtain rfl := Option.some.inj hf1012; exact (ev_var 7 rfl r1020))))) (EvN.r (en_list (xs := ([] : List Str)) ee_nil (by simp [sizeLine]))) hc1025 hc1026))) (fun x994 y995 v1005 s996 hx998 e997 r1006 ht1029 hf999 _ _ _ _ _ => by obtain rfl := Option.some.inj hf999; exact (ev_var 6 rfl r1006))) (fun p1036 s1032 e1033 n1037 o1038 => ?_) rfl rfl
    obtain ⟨s1039, hs1040, e1041, r1035⟩ := frz_ex e1033 n1037 o1038
    rw [← hs1040]
    have E1042 := E988.trans e1041
    have fl1043 := Fle.trans fl989 e1041.f
    have o1044 := Own.ex o990 e1041
    have r1045 := Enc.mono e1041.f r991
    have r1046 := Enc.mono e1041.f r992
    have r1047 := Enc.mono e1041.f r993
    have r1048 := Enc.mono e1041.f r981
    obtain ⟨some1030, q1031, hm938⟩ := ltE hm938
    rw [← q1031] at r1035
    obtain ⟨hc1054, hm938⟩ := chkE hm938
    refine do_extend 2 rfl o1044 (en_slice (Ev.r (ev_var 5 rfl r1035)) eo_none (eo_some ev_int)) hc1054 (fun s1049 m1050 o1051 => ?_)
    have E1055 := Ex.mu1 E1042 m1050 n926
    have fl1056 := Fle.trans fl1043 m1050.f
    have r1057 := Enc.mono m1050.f r1045
    have r1058 := Enc.mono m1050.f r1046
    have r1059 := Enc.mono m1050.f r1047
    have r1060 := Enc.mono m1050.f r1048
    have r1061 := Enc.mono m1050.f r1035
    obtain ⟨row_here1052, q1053, hm938⟩ := ltE hm938
    rw [← q1053] at o1051
    obtain rfl := Option.some.inj hm938
    exact do_nil ⟨s1049, rfl, fl1056, ⟨E1055, _, _, _, rfl, o1051⟩⟩
  · have hf1074 := Fle.trans k1063.f fl1066
    obtain ⟨E1075, y1076, y1077, y1078, rfl, o1079⟩ := hR1067
    have r1080 := Enc.mono hf1074 r928
    have r1081 := Enc.mono hf1074 r929
    obtain rfl := Option.some.inj hm
    exact do_retO 2 rfl (hQ _ _ E1075 n926 o1079)
abbrev s_l_right : Stmt := topS 12
abbrev N_l_right : List Str := ["_law_players_here", "_law_seats_here", "_law_row_here", "_law_k", "_law_one"]
theorem sc_l_right : FnScope N_l_right ["_law_players_here", "_law_seats_here", "_law_row_here"] (defScope s_l_right) := ⟨rfl, rfl, rfl, by decide +kernel, rfl, by decide +kernel, by decide +kernel⟩
noncomputable def m_l_right (players_here1082 : (List (Str × (Tu Str)))) (seats_here1085 : (List (Tu Str))) (row_here1088 : (List Int)) : Option Bool :=
 (if (!decide (((row_here1088).length : Int) = ((seats_here1085).length : Int))) = true then
 (some false)
 else
 (chk (RgB ((row_here1088).length : Int)) (bnd (foldF (ρ := Bool) (fun (b1116 : Unit) (x1118 : Int) =>
 (bnd (atI row_here1088 x1118) fun at1145 => (bnd (orO (!(decide ((0 : Int) ≤ at1145) && decide (at1145 < ((players_here1082).length : Int)))) (bnd (atI row_here1088 x1118) fun at1146 => (some (decide (at1146 ∈ (cut row_here1088 none (some x1118))))))) fun c1147 => (if c1147 = true then
 (some (Fl.rt false))
 else
 (bnd (atI seats_here1085 x1118) fun at1174 => (bnd (compO (fun (x1175 : Str) => (bnd (atI row_here1088 x1118) fun at1187 => (bnd (atI players_here1082 at1187) fun at1188 => (some (!decide (x1175 ∈ ((at1188).2).l)))))) (fun (x1175 : Str) => some x1175) (at1174).l) fun ys1189 => (chk ((ys1189).length ≤ sizeLine) (chk (shp ys1189) (chk (shp ([] : List Str)) (if (!decide (ys1189 = ([] : List Str))) = true then
 (some (Fl.rt false))
 else
 (some (Fl.nx ())))))))))))) () (rng 0 ((row_here1088).length : Int))) fun o1114 =>
 (Fl.go o1114 (fun b1231 => (some true)) (fun rr => (some rr))))))
noncomputable abbrev a_l_right : (List (Str × (Tu Str))) × (List (Tu Str)) × (List Int) × Unit → Option Bool := fun a => m_l_right a.1 a.2.1 a.2.2.1
theorem ok_l_right {P : Program} {w : World} {K : PySem.W.Frag} {mg : Str → Option Value} {base : Heap} {f : Addr} {fd : FuncData} (F : FunP K "_law_right" s_l_right f fd) (hmg : mg "_law_right" = some (.ref f)) (z_len : mg "len" = none) (z_range : mg "range" = none) : Cal P w K mg base CX0 1 "_law_right" (sp K a_l_right) := by
  refine mk_cal (k := 0) F hmg (F.bindsN fun _ _ _ _ _ _ us hl => match us, hl with | [_, _, _], _ => rfl) sc_l_right len3 ?_
  rintro cdv A' outer sh0 H0 X0 hr s0 vs ⟨players_here1082, seats_here1085, row_here1088, _⟩ r0 Q ⟨v1083, _, rfl, r1084, v1086, _, rfl, r1087, v1089, _, rfl, r1090, rfl⟩ hm hQ
  have E1091 := Ex.refl s0
  unfold a_l_right m_l_right at hm
  dsimp only at hm
  refine do_ifR (EvB.t (eb_ne (ev_len z_len (Ev.r (ev_var 2 rfl r1090))) (ev_len z_len (Ev.r (ev_var 1 rfl r1087))))) (fun hb1093 s1094 e1095 => ?_) (fun hb1105 s1106 e1107 => ?_)
  · have hm1096 := iteE1 hm hb1093
    have E1097 := E1091.trans e1095
    have r1098 := Enc.mono e1095.f r1084
    have r1099 := Enc.mono e1095.f r1087
    have r1100 := Enc.mono e1095.f r1090
    obtain rfl := Option.some.inj hm1096
    exact do_ret ev_bl fun v1101 s1102 e1103 r1104 => hQ _ _ (E1097.trans e1103) r1104
  · have hm1108 := iteE2 hm hb1105
    have E1109 := E1091.trans e1107
    have r1110 := Enc.mono e1107.f r1084
    have r1111 := Enc.mono e1107.f r1087
    have r1112 := Enc.mono e1107.f r1090
    obtain ⟨hc1113, hm1108⟩ := chkE hm1108
    obtain ⟨o1114, ho1115, hm1108⟩ := bndE hm1108
    refine do_forF (ρ := Bool) (υ := Unit) PassesOwn.never rfl (ei_range1 z_range (ev_len z_len (Ev.r (ev_var 2 rfl r1112))) hc1113) (pg_name (i := 3) sc_l_right.nd rfl (by first | exact Or.inl rfl | exact Or.inr rfl)) tg_n ho1115 (fun (b1116 : Unit) (σ' : L2.St) (t' : S) => Ex s0 t' ∧ ∃ (y_k : Option V), σ' = [some v1083, some v1086, some v1089, y_k, none]) (fun s1225 k1226 => by have E1227 := E1109.trans k1226; have r1228 := Enc.mono k1226.f r1110; have r1229 := Enc.mono k1226.f r1111; have r1230 := Enc.mono k1226.f r1112; exact ⟨E1227, _, rfl⟩) (fun s1119 k1120 x1118 b1116 q1143 σ1129 σ1130 t1127 t1128 hx1121 hm1122 hq1144 fl1123 hR1124 k1125 hB1126 => ?_) (fun s1219 k1220 b1231 σ1221 t1222 ho1232 fl1223 hR1224 => ?_)
    · have hf1131 := Fle.trans k1120.f fl1123
      obtain ⟨E1132, y1133, rfl⟩ := hR1124
      have r1134 := Enc.mono hf1131 r1110
      have r1135 := Enc.mono hf1131 r1111
      have r1136 := Enc.mono hf1131 r1112
      obtain ⟨v1137, r1138, rfl⟩ := hB1126
      have E1139 := E1132.trans k1125
      have r1140 := Enc.mono k1125.f r1134
      have r1141 := Enc.mono k1125.f r1135
      have r1142 := Enc.mono k1125.f r1136
      obtain ⟨at1145, h_at1145, hm1122⟩ := bndE hm1122
      obtain ⟨c1147, h_c1147, hm1122⟩ := bndE hm1122
      refine do_ifR (EvW.tt (EvC.w (by skip; exact ec_orO (eb_not (eb_chain op_le rfl op_lt rfl ev_int (ev_ix (Ev.r (ev_var 2 rfl r1142)) (ev_var 3 rfl r1138) h_at1145) (ev_len z_len (Ev.r (ev_var 0 rfl r1140))))) (fun hb1148 => (fun hz => (by obtain ⟨at1146, h_at1146, hz⟩ := bndE hz; obtain rfl := Option.some.inj hz; exact (ec_or1 (eb_in (ev_ix (Ev.r (ev_var 2 rfl r1142)) (ev_var 3 rfl r1138) h_at1146) (EvN.r (en_slice (Ev.r (ev_var 2 rfl r1142)) eo_none (eo_some (ev_var 3 rfl r1138)))))))) ((orE h_c1147).1 hb1148)) (orE h_c1147).2))) (fun hb1150 s1151 e1152 => ?_) (fun hb1164 s1165 e1166 => ?_)
      · have hm1153 := iteE1 hm1122 hb1150
        have E1154 := E1139.trans e1152
        have fl1155 := Fle.trans (Fle.refl t1128.F) e1152.f
        have r1156 := Enc.mono e1152.f r1140
        have r1157 := Enc.mono e1152.f r1141
        have r1158 := Enc.mono e1152.f r1142
        have r1159 := Enc.mono e1152.f r1138
        obtain rfl := Option.some.inj hm1153
        obtain rfl := hq1144 _ rfl
        obtain rfl := Option.some.inj hm1108
        exact do_ret ev_bl fun v1160 s1161 e1162 r1163 => hQ _ _ (E1154.trans e1162) r1163
      · have hm1167 := iteE2 hm1122 hb1164
        have E1168 := E1139.trans e1166
        have fl1169 := Fle.trans (Fle.refl t1128.F) e1166.f
        have r1170 := Enc.mono e1166.f r1140
        have r1171 := Enc.mono e1166.f r1141
        have r1172 := Enc.mono e1166.f r1142
        have r1173 := Enc.mono e1166.f r1138
        obtain ⟨at1174, h_at1174, hm1167⟩ := bndE hm1167
        obtain ⟨ys1189, h_ys1189, hm1167⟩ := bndE hm1167
        obtain ⟨hc1190, hm1167⟩ := chkE hm1167
        obtain ⟨hc1192, hm1167⟩ := chkE hm1167
        obtain ⟨hc1193, hm1167⟩ := chkE hm1167
        refine do_ifR (EvB.t (eb_neL hr (EvN.r (EvL.n (en_comp1 (own := [("_law_one", 4)]) (j := 4) (t := fun (x1175 : Str) => (bnd (atI row_here1088 x1118) fun at1187 => (bnd (atI players_here1082 at1187) fun at1188 => (some (!decide (x1175 ∈ ((at1188).2).l)))))) (f := fun (x1175 : Str) => some x1175) rfl sc_l_right.nd (ei_tup (ev_ix (Ev.r (ev_var 1 rfl r1171)) (ev_var 3 rfl r1173) h_at1174)) (blkOk_by (own := [("_law_one", 4)]) (N := N_l_right) (sc := defScope s_l_right) (by decide +kernel)) rfl (by decide) (fun _ _ _ _ _ => pg_name (i := 4) sc_l_right.nd rfl (by first | exact Or.inl rfl | exact Or.inr rfl)) h_ys1189 hc1190 (fun x1175 y1176 v1185 s1177 hx1179 e1178 r1186 hf1180 _ _ _ _ _ => by have r1181 := Enc.mono e1178.f r1170; have r1183 := Enc.mono e1178.f r1172; have r1184 := Enc.mono e1178.f r1173; obtain ⟨at1187, h_at1187, hf1180⟩ := bndE hf1180; obtain ⟨at1188, h_at1188, hf1180⟩ := bndE hf1180; obtain rfl := Option.some.inj hf1180; exact (EvB.t (eb_notInT (ev_var 4 rfl r1186) (ev_ixP (ev_ix (Ev.r (ev_var 0 rfl r1181)) (ev_ix (Ev.r (ev_var 2 rfl r1183)) (ev_var 3 rfl r1184) h_at1187) h_at1188) ev_int p2_1)))) (fun x1175 y1176 v1185 s1177 hx1179 e1178 r1186 ht1191 hf1180 _ _ _ _ _ => by obtain rfl := Option.some.inj hf1180; exact (ev_var 4 rfl r1186))))) (EvN.r (en_list (xs := ([] : List Str)) ee_nil (by simp [sizeLine]))) hc1192 hc1193)) (fun hb1195 s1196 e1197 => ?_) (fun hb1209 s1210 e1211 => ?_)
        · have hm1198 := iteE1 hm1167 hb1195
          have E1199 := E1168.trans e1197
          have fl1200 := Fle.trans fl1169 e1197.f
          have r1201 := Enc.mono e1197.f r1170
          have r1202 := Enc.mono e1197.f r1171
          have r1203 := Enc.mono e1197.f r1172
          have r1204 := Enc.mono e1197.f r1173
          obtain rfl := Option.some.inj hm1198
          obtain rfl := hq1144 _ rfl
          obtain rfl := Option.some.inj hm1108
          exact do_ret ev_bl fun v1205 s1206 e1207 r1208 => hQ _ _ (E1199.trans e1207) r1208
        · have hm1212 := iteE2 hm1167 hb1209
          have E1213 := E1168.trans e1211
          have fl1214 := Fle.trans fl1169 e1211.f
          have r1215 := Enc.mono e1211.f r1170
          have r1216 := Enc.mono e1211.f r1171
          have r1217 := Enc.mono e1211.f r1172
          have r1218 := Enc.mono e1211.f r1173
          obtain rfl := Option.some.inj hm1212
          exact do_nil ⟨s1210, rfl, _, rfl, fl1214, ⟨E1213, _, rfl⟩⟩
    · subst ho1232
      replace hm1108 := goN hm1108
      have hf1233 := Fle.trans k1220.f fl1223
      obtain ⟨E1234, y1235, rfl⟩ := hR1224
      have r1236 := Enc.mono hf1233 r1110
      have r1237 := Enc.mono hf1233 r1111
      have r1238 := Enc.mono hf1233 r1112
      obtain rfl := Option.some.inj hm1108
      exact do_ret ev_bl fun v1239 s1240 e1241 r1242 => hQ _ _ (E1234.trans e1241) r1242
abbrev s_law : Stmt := topS 15
abbrev N_law : List Str := ["_law_script", "_law_ds", "_law_tools_here", "_law_players_here", "_law_seats_here", "_law_kept", "_law_rows", "_law_row_here", "_law_handed", "_law_found", "_law_cell"]
theorem sc_law : FnScope N_law ["_law_script"] (defScope s_law) := ⟨rfl, rfl, rfl, by decide +kernel, rfl, by decide +kernel, by decide +kernel⟩
noncomputable def m_law (script1243 : (List Int)) : Option Bool :=
 (bnd (m_l_cell_at script1243 (0 : Int)) fun cell_at1247 => (bnd (m_l_draws cell_at1247 ([(3 : Int), (3 : Int)] : List Int)) fun draws1248 => (lt (draws1248 : (List Int)) fun ds1249 =>
 (bnd (atI ds1249 (0 : Int)) fun at1257 => (bnd (m_l_tools at1257) fun tools1258 => (lt (tools1258 : (List Str)) fun tools_here1259 =>
 (bnd (m_l_cell_at script1243 (1 : Int)) fun cell_at1268 => (bnd (atI ds1249 (1 : Int)) fun at1269 => (bnd (m_l_players cell_at1268 (8 : Int) tools_here1259 at1269) fun players1270 => (lt (players1270 : (List (Str × (Tu Str)))) fun players_here1271 =>
 (bnd (m_l_cell_at script1243 (2 : Int)) fun cell_at1281 => (bnd (m_l_seats cell_at1281 (5 : Int) tools_here1259) fun seats1282 => (lt (seats1282 : (List (Tu Str))) fun seats_here1283 =>
 (lt ((⟨players_here1271, seats_here1283⟩ : HL2 (List (Str × (Tu Str))) (List (Tu Str))) : (HL2 (List (Str × (Tu Str))) (List (Tu Str)))) fun kept1294 =>
 (bnd (mapO (fun (x1306 : Int) => (bnd (m_l_row x1306 players_here1271 seats_here1283) fun row1320 => (some row1320))) (cut script1243 (some (3 : Int)) (some (33 : Int)))) fun ys1321 => (chk ((ys1321).length ≤ sizeLine) (lt (ys1321 : (List (List Int))) fun rows1323 =>
 (bnd (m_l_first_row players_here1271 seats_here1283) fun first_row1344 => (chk (RgOk 0 ((seats_here1283).length : Int)) (chk ((([first_row1344, (rng 0 ((seats_here1283).length : Int))] : List (List Int))).length + (rows1323).length ≤ sizeLine) (bnd (foldF (ρ := Bool) (fun (b1349 : Unit) (x1351 : (List Int)) =>
 (lt (x1351 : (List Int)) fun handed1388 =>
 (bnd (m_is_seating players_here1271 seats_here1283 handed1388) fun is_seating1404 => (lt (is_seating1404 : Bool) fun found1405 =>
 (bnd (orO (!true) (bnd (m_l_right players_here1271 seats_here1283 x1351) fun right1422 => (orO (!decide (found1405 = right1422)) (some (!decide (handed1388 = x1351)))))) fun c1423 => (if c1423 = true then
 (some (Fl.rt false))
 else
 (some (Fl.nx ())))))))) () (([first_row1344, (rng 0 ((seats_here1283).length : Int))] : List (List Int)) ++ rows1323)) fun o1347 =>
 (Fl.go o1347 (fun b1479 => (chk (shp (⟨players_here1271, seats_here1283⟩ : HL2 (List (Str × (Tu Str))) (List (Tu Str)))) (chk (shp kept1294) (some (decide ((⟨players_here1271, seats_here1283⟩ : HL2 (List (Str × (Tu Str))) (List (Tu Str))) = kept1294)))))) (fun rr => (some rr))))))))))))))))))))))))
noncomputable abbrev a_law : (List Int) × Unit → Option Bool := fun a => m_law a.1
theorem ok_law_fn {P : Program} {w : World} {K : PySem.W.Frag} {mg : Str → Option Value} {base : Heap} {f : Addr} {fd : FuncData} (F : FunP K "law" s_law f fd) (hmg : mg "law" = some (.ref f)) (C_l_draws : Cal P w K mg base CX0 1 "_law_draws" (spN K a_l_draws)) (C_l_cell_at : Cal P w K mg base CX0 1 "_law_cell_at" (sp K a_l_cell_at)) (C_l_tools : Cal P w K mg base CX0 1 "_law_tools" (sp K a_l_tools)) (C_l_players : Cal P w K mg base CX0 3 "_law_players" (sp K a_l_players)) (C_l_seats : Cal P w K mg base CX0 2 "_law_seats" (sp K a_l_seats)) (C_l_row : Cal P w K mg base CX0 2 "_law_row" (spN K a_l_row)) (C_l_first_row : Cal P w K mg base CX0 1 "_law_first_row" (spN K a_l_first_row)) (C_is_seating : Cal P w K mg base CX0 2 "is_seating" (sp K a_is_seating)) (C_l_right : Cal P w K mg base CX0 1 "_law_right" (sp K a_l_right)) (z_list : mg "list" = none) (z_range : mg "range" = none) (z_len : mg "len" = none) (z_isinstance : mg "isinstance" = none) (z_bool : mg "bool" = none) : FnOk P w K mg base CX0 4 f fd ["_law_script"] (sp K a_law) := by
  refine mk_fn (k := 3) F sc_law len1 ?_
  rintro cdv A' outer sh0 H0 X0 hr s0 vs ⟨script1243, _⟩ r0 Q ⟨v1244, _, rfl, r1245, rfl⟩ hm hQ
  have E1246 := Ex.refl s0
  unfold a_law m_law at hm
  dsimp only at hm
  obtain ⟨cell_at1247, h_cell_at1247, hm⟩ := bndE hm
  obtain ⟨draws1248, h_draws1248, hm⟩ := bndE hm
  refine do_set 1 (EvN.ev (en_call C_l_draws hr (by decide) (ea_cons (ev_call C_l_cell_at hr (by decide) (ea_cons (ev_var 0 rfl r1245) (ea_cons ev_int ea_nil)) h_cell_at1247) (ea_cons (EvN.ev (en_list (xs := ([(3 : Int), (3 : Int)] : List Int)) (ee_cons ev_int (ee_cons ev_int ee_nil)) (by simp [sizeLine]))) ea_nil)) h_draws1248)) (fun v1253 s1251 e1252 r1254 => ?_) sc_law.nd
  have E1255 := E1246.trans e1252
  have r1256 := Enc.mono e1252.f r1245
  obtain ⟨ds1249, q1250, hm⟩ := ltE hm
  rw [← q1250] at r1254
  obtain ⟨at1257, h_at1257, hm⟩ := bndE hm
  obtain ⟨tools1258, h_tools1258, hm⟩ := bndE hm
  refine do_set 2 (ev_call C_l_tools hr (by decide) (ea_cons (ev_ix (Ev.r (ev_var 1 rfl r1254)) ev_int h_at1257) ea_nil) h_tools1258) (fun v1263 s1261 e1262 r1264 => ?_) sc_law.nd
  have E1265 := E1255.trans e1262
  have r1266 := Enc.mono e1262.f r1256
  have r1267 := Enc.mono e1262.f r1254
  obtain ⟨tools_here1259, q1260, hm⟩ := ltE hm
  rw [← q1260] at r1264
  obtain ⟨cell_at1268, h_cell_at1268, hm⟩ := bndE hm
  obtain ⟨at1269, h_at1269, hm⟩ := bndE hm
  obtain ⟨players1270, h_players1270, hm⟩ := bndE hm
  refine do_set 3 (ev_call C_l_players hr (by decide) (ea_cons (ev_call C_l_cell_at hr (by decide) (ea_cons (ev_var 0 rfl r1266) (ea_cons ev_int ea_nil)) h_cell_at1268) (ea_cons ev_int (ea_cons (ev_var 2 rfl r1264) (ea_cons (ev_ix (Ev.r (ev_var 1 rfl r1267)) ev_int h_at1269) ea_nil)))) h_players1270) (fun v1275 s1273 e1274 r1276 => ?_) sc_law.nd
  have E1277 := E1265.trans e1274
  have r1278 := Enc.mono e1274.f r1266
  have r1279 := Enc.mono e1274.f r1267
  have r1280 := Enc.mono e1274.f r1264
  obtain ⟨players_here1271, q1272, hm⟩ := ltE hm
  rw [← q1272] at r1276
  obtain ⟨cell_at1281, h_cell_at1281, hm⟩ := bndE hm
  obtain ⟨seats1282, h_seats1282, hm⟩ := bndE hm
  refine do_set 4 (ev_call C_l_seats hr (by decide) (ea_cons (ev_call C_l_cell_at hr (by decide) (ea_cons (ev_var 0 rfl r1278) (ea_cons ev_int ea_nil)) h_cell_at1281) (ea_cons ev_int (ea_cons (ev_var 2 rfl r1280) ea_nil))) h_seats1282) (fun v1287 s1285 e1286 r1288 => ?_) sc_law.nd
  have E1289 := E1277.trans e1286
  have r1290 := Enc.mono e1286.f r1278
  have r1291 := Enc.mono e1286.f r1279
  have r1292 := Enc.mono e1286.f r1280
  have r1293 := Enc.mono e1286.f r1276
  obtain ⟨seats_here1283, q1284, hm⟩ := ltE hm
  rw [← q1284] at r1288
  refine do_set 5 (ev_hl2 (ea_cons (EvN.ev (en_copy z_list (Ev.r (ev_var 3 rfl r1293)))) (ea_cons (EvN.ev (en_copy z_list (Ev.r (ev_var 4 rfl r1288)))) ea_nil))) (fun v1298 s1296 e1297 r1299 => ?_) sc_law.nd
  have E1300 := E1289.trans e1297
  have r1301 := Enc.mono e1297.f r1290
  have r1302 := Enc.mono e1297.f r1291
  have r1303 := Enc.mono e1297.f r1292
  have r1304 := Enc.mono e1297.f r1293
  have r1305 := Enc.mono e1297.f r1288
  obtain ⟨kept1294, q1295, hm⟩ := ltE hm
  rw [← q1295] at r1299
  obtain ⟨ys1321, h_ys1321, hm⟩ := bndE hm
  obtain ⟨hc1322, hm⟩ := chkE hm
  refine do_setL 6 (en_comp0 (own := [("_law_cell", 10)]) (j := 10) (f := fun (x1306 : Int) => (bnd (m_l_row x1306 players_here1271 seats_here1283) fun row1320 => (some row1320))) rfl sc_law.nd (ei_list (EvN.ev (en_slice (Ev.r (ev_var 0 rfl r1301)) (eo_some ev_int) (eo_some ev_int)))) (blkOk_by (own := [("_law_cell", 10)]) (N := N_law) (sc := defScope s_law) (by decide +kernel)) rfl (by decide) (fun _ _ _ _ _ => pg_name (i := 10) sc_law.nd rfl (by first | exact Or.inl rfl | exact Or.inr rfl)) h_ys1321 hc1322 (fun x1306 y1307 v1318 s1308 hx1310 e1309 r1319 hf1311 _ _ _ _ _ => by have r1315 := Enc.mono e1309.f r1304; have r1316 := Enc.mono e1309.f r1305; obtain ⟨row1320, h_row1320, hf1311⟩ := bndE hf1311; obtain rfl := Option.some.inj hf1311; exact (EvN.ev (en_call C_l_row hr (by decide) (ea_cons (ev_var 10 rfl r1319) (ea_cons (ev_var 3 rfl r1315) (ea_cons (ev_var 4 rfl r1316) ea_nil))) h_row1320)))) (fun p1329 s1325 e1326 n1330 o1331 => ?_) rfl rfl
  obtain ⟨s1332, hs1333, e1334, r1328⟩ := frz_ex e1326 n1330 o1331
  rw [← hs1333]
  have E1335 := E1300.trans e1334
  have r1336 := Enc.mono e1334.f r1301
  have r1337 := Enc.mono e1334.f r1302
  have r1338 := Enc.mono e1334.f r1303
  have r1339 := Enc.mono e1334.f r1304
  have r1340 := Enc.mono e1334.f r1305
  have r1341 := Enc.mono e1334.f r1299
  obtain ⟨rows1323, q1324, hm⟩ := ltE hm
  rw [← q1324] at r1328
  obtain ⟨first_row1344, h_first_row1344, hm⟩ := bndE hm
  obtain ⟨hc1345, hm⟩ := chkE hm
  obtain ⟨hc1346, hm⟩ := chkE hm
  obtain ⟨o1347, ho1348, hm⟩ := bndE hm
  refine do_forF (ρ := Bool) (υ := Unit) PassesOwn.never rfl (ei_list (EvN.ev (en_cat (EvN.r (en_list (xs := ([first_row1344, (rng 0 ((seats_here1283).length : Int))] : List (List Int))) (ee_cons (EvN.ev (en_call C_l_first_row hr (by decide) (ea_cons (ev_var 3 rfl r1339) (ea_cons (ev_var 4 rfl r1340) ea_nil)) h_first_row1344)) (ee_cons (EvN.ev (en_listRg1 z_list z_range (ev_len z_len (Ev.r (ev_var 4 rfl r1340))) hc1345)) ee_nil)) (by simp [sizeLine]))) (Ev.r (ev_var 6 rfl r1328)) hc1346))) (pg_name (i := 7) sc_law.nd rfl (by first | exact Or.inl rfl | exact Or.inr rfl)) tg_n ho1348 (fun (b1349 : Unit) (σ' : L2.St) (t' : S) => Ex s0 t' ∧ ∃ (y_handed : Option V) (y_found : Option V) (y_row_here : Option V), σ' = [some v1244, some v1253, some v1263, some v1275, some v1287, some v1298, some (V.ref p1329), y_row_here, y_handed, y_found, none]) (fun s1469 k1470 => by have E1471 := E1335.trans k1470; have r1472 := Enc.mono k1470.f r1336; have r1473 := Enc.mono k1470.f r1337; have r1474 := Enc.mono k1470.f r1338; have r1475 := Enc.mono k1470.f r1339; have r1476 := Enc.mono k1470.f r1340; have r1477 := Enc.mono k1470.f r1341; have r1478 := Enc.mono k1470.f r1328; exact ⟨E1471, _, _, _, rfl⟩) (fun s1352 k1353 x1351 b1349 q1386 σ1362 σ1363 t1360 t1361 hx1354 hm1355 hq1387 fl1356 hR1357 k1358 hB1359 => ?_) (fun s1463 k1464 b1479 σ1465 t1466 ho1480 fl1467 hR1468 => ?_)
  · have hf1364 := Fle.trans k1353.f fl1356
    obtain ⟨E1365, y1366, y1367, y1368, rfl⟩ := hR1357
    have r1369 := Enc.mono hf1364 r1336
    have r1370 := Enc.mono hf1364 r1337
    have r1371 := Enc.mono hf1364 r1338
    have r1372 := Enc.mono hf1364 r1339
    have r1373 := Enc.mono hf1364 r1340
    have r1374 := Enc.mono hf1364 r1341
    have r1375 := Enc.mono hf1364 r1328
    obtain ⟨v1376, r1377, rfl⟩ := hB1359
    have E1378 := E1365.trans k1358
    have r1379 := Enc.mono k1358.f r1369
    have r1380 := Enc.mono k1358.f r1370
    have r1381 := Enc.mono k1358.f r1371
    have r1382 := Enc.mono k1358.f r1372
    have r1383 := Enc.mono k1358.f r1373
    have r1384 := Enc.mono k1358.f r1374
    have r1385 := Enc.mono k1358.f r1375
    refine do_set 8 (EvN.ev (en_copy z_list (Ev.r (ev_var 7 rfl r1377)))) (fun v1392 s1390 e1391 r1393 => ?_) sc_law.nd
    have E1394 := E1378.trans e1391
    have fl1395 := Fle.trans (Fle.refl t1361.F) e1391.f
    have r1396 := Enc.mono e1391.f r1379
    have r1397 := Enc.mono e1391.f r1380
    have r1398 := Enc.mono e1391.f r1381
    have r1399 := Enc.mono e1391.f r1382
    have r1400 := Enc.mono e1391.f r1383
    have r1401 := Enc.mono e1391.f r1384
    have r1402 := Enc.mono e1391.f r1385
    have r1403 := Enc.mono e1391.f r1377
    obtain ⟨handed1388, q1389, hm1355⟩ := ltE hm1355
    rw [← q1389] at r1393
    obtain ⟨is_seating1404, h_is_seating1404, hm1355⟩ := bndE hm1355
    refine do_set 9 (ev_call C_is_seating hr (by decide) (ea_cons (ev_var 3 rfl r1399) (ea_cons (ev_var 4 rfl r1400) (ea_cons (ev_var 8 rfl r1393) ea_nil))) h_is_seating1404) (fun v1409 s1407 e1408 r1410 => ?_) sc_law.nd
    have E1411 := E1394.trans e1408
    have fl1412 := Fle.trans fl1395 e1408.f
    have r1413 := Enc.mono e1408.f r1396
    have r1414 := Enc.mono e1408.f r1397
    have r1415 := Enc.mono e1408.f r1398
    have r1416 := Enc.mono e1408.f r1399
    have r1417 := Enc.mono e1408.f r1400
    have r1418 := Enc.mono e1408.f r1401
    have r1419 := Enc.mono e1408.f r1402
    have r1420 := Enc.mono e1408.f r1403
    have r1421 := Enc.mono e1408.f r1393
    obtain ⟨found1405, q1406, hm1355⟩ := ltE hm1355
    rw [← q1406] at r1410
    obtain ⟨c1423, h_c1423, hm1355⟩ := bndE hm1355
    refine do_ifR (EvW.tt (EvC.w (by skip; exact ec_orO (eb_not (eb_v (ev_isi (T := "bool") (r := true) z_isinstance z_bool (by decide +kernel) (ev_var 9 rfl r1410) (by show kitB "bool" "bool" = _; decide +kernel)))) (fun hb1424 => (fun hz => (by obtain ⟨right1422, h_right1422, hz⟩ := bndE hz; exact ec_orO (eb_ne (ev_var 9 rfl r1410) (ev_call C_l_right hr (by decide) (ea_cons (ev_var 3 rfl r1416) (ea_cons (ev_var 4 rfl r1417) (ea_cons (ev_var 7 rfl r1420) ea_nil))) h_right1422)) (fun hb1425 => (fun hz => (by skip; obtain rfl := Option.some.inj hz; exact (ec_or1 (eb_neL hr (Ev.r (ev_var 8 rfl r1421)) (Ev.r (ev_var 7 rfl r1420)) (shp_of _) (shp_of _))))) ((orE hz).1 hb1425)) (orE hz).2)) ((orE h_c1423).1 hb1424)) (orE h_c1423).2))) (fun hb1427 s1428 e1429 => ?_) (fun hb1447 s1448 e1449 => ?_)
    · have hm1430 := iteE1 hm1355 hb1427
      have E1431 := E1411.trans e1429
      have fl1432 := Fle.trans fl1412 e1429.f
      have r1433 := Enc.mono e1429.f r1413
      have r1434 := Enc.mono e1429.f r1414
      have r1435 := Enc.mono e1429.f r1415
      have r1436 := Enc.mono e1429.f r1416
      have r1437 := Enc.mono e1429.f r1417
      have r1438 := Enc.mono e1429.f r1418
      have r1439 := Enc.mono e1429.f r1419
      have r1440 := Enc.mono e1429.f r1420
      have r1441 := Enc.mono e1429.f r1421
      have r1442 := Enc.mono e1429.f r1410
      obtain rfl := Option.some.inj hm1430
      obtain rfl := hq1387 _ rfl
      obtain rfl := Option.some.inj hm
      exact do_ret ev_bl fun v1443 s1444 e1445 r1446 => hQ _ _ (E1431.trans e1445) r1446
    · have hm1450 := iteE2 hm1355 hb1447
      have E1451 := E1411.trans e1449
      have fl1452 := Fle.trans fl1412 e1449.f
      have r1453 := Enc.mono e1449.f r1413
      have r1454 := Enc.mono e1449.f r1414
      have r1455 := Enc.mono e1449.f r1415
      have r1456 := Enc.mono e1449.f r1416
      have r1457 := Enc.mono e1449.f r1417
      have r1458 := Enc.mono e1449.f r1418
      have r1459 := Enc.mono e1449.f r1419
      have r1460 := Enc.mono e1449.f r1420
      have r1461 := Enc.mono e1449.f r1421
      have r1462 := Enc.mono e1449.f r1410
      obtain rfl := Option.some.inj hm1450
      exact do_nil ⟨s1448, rfl, _, rfl, fl1452, ⟨E1451, _, _, _, rfl⟩⟩
  · subst ho1480
    replace hm := goN hm
    have hf1481 := Fle.trans k1464.f fl1467
    obtain ⟨E1482, y1483, y1484, y1485, rfl⟩ := hR1468
    have r1486 := Enc.mono hf1481 r1336
    have r1487 := Enc.mono hf1481 r1337
    have r1488 := Enc.mono hf1481 r1338
    have r1489 := Enc.mono hf1481 r1339
    have r1490 := Enc.mono hf1481 r1340
    have r1491 := Enc.mono hf1481 r1341
    have r1492 := Enc.mono hf1481 r1328
    obtain ⟨hc1493, hm⟩ := chkE hm
    obtain ⟨hc1494, hm⟩ := chkE hm
    obtain rfl := Option.some.inj hm
    exact do_ret (EvB.v (eb_eqD hr (ev_hl2 (ea_cons (ev_var 3 rfl r1489) (ea_cons (ev_var 4 rfl r1490) ea_nil))) (ev_var 5 rfl r1491) hc1493 hc1494)) fun v1495 s1496 e1497 r1498 => hQ _ _ (E1482.trans e1497) r1498
def d_l_draws : He.DefD := ⟨("_law_draws", none), "_law_draws", "_law_draws", defArgs s_l_draws, defBody s_l_draws, defScope s_l_draws, [], []⟩
def d_l_tools : He.DefD := ⟨("_law_tools", none), "_law_tools", "_law_tools", defArgs s_l_tools, defBody s_l_tools, defScope s_l_tools, [], []⟩
def d_l_title : He.DefD := ⟨("_law_title", none), "_law_title", "_law_title", defArgs s_l_title, defBody s_l_title, defScope s_l_title, [], []⟩
def d_l_player : He.DefD := ⟨("_law_player", none), "_law_player", "_law_player", defArgs s_l_player, defBody s_l_player, defScope s_l_player, [], []⟩
def d_l_players : He.DefD := ⟨("_law_players", none), "_law_players", "_law_players", defArgs s_l_players, defBody s_l_players, defScope s_l_players, [], []⟩
def d_l_seat : He.DefD := ⟨("_law_seat", none), "_law_seat", "_law_seat", defArgs s_l_seat, defBody s_l_seat, defScope s_l_seat, [], []⟩
def d_l_seats : He.DefD := ⟨("_law_seats", none), "_law_seats", "_law_seats", defArgs s_l_seats, defBody s_l_seats, defScope s_l_seats, [], []⟩
def d_l_cell_at : He.DefD := ⟨("_law_cell_at", none), "_law_cell_at", "_law_cell_at", defArgs s_l_cell_at, defBody s_l_cell_at, defScope s_l_cell_at, [], []⟩
def d_l_row : He.DefD := ⟨("_law_row", none), "_law_row", "_law_row", defArgs s_l_row, defBody s_l_row, defScope s_l_row, [], []⟩
def d_can_sit : He.DefD := ⟨("can_sit", none), "can_sit", "can_sit", defArgs s_can_sit, defBody s_can_sit, defScope s_can_sit, [], []⟩
def d_is_seating : He.DefD := ⟨("is_seating", none), "is_seating", "is_seating", defArgs s_is_seating, defBody s_is_seating, defScope s_is_seating, [], []⟩
def d_l_first_row : He.DefD := ⟨("_law_first_row", none), "_law_first_row", "_law_first_row", defArgs s_l_first_row, defBody s_l_first_row, defScope s_l_first_row, [], []⟩
def d_l_right : He.DefD := ⟨("_law_right", none), "_law_right", "_law_right", defArgs s_l_right, defBody s_l_right, defScope s_l_right, [], []⟩
def d_law : He.DefD := ⟨("law", none), "law", "law", defArgs s_law, defBody s_law, defScope s_law, [], []⟩
def fn : List He.DefD := [d_l_draws, d_l_tools, d_l_title, d_l_player, d_l_players, d_l_seat, d_l_seats, d_l_cell_at, d_l_row, d_can_sit, d_is_seating, d_l_first_row, d_l_right, d_law]
def fa : List He.Fa := [.glo "_law_draws", .glo "_law_tools", .glo "_law_title", .glo "_law_player", .glo "_law_players", .glo "_law_seat", .glo "_law_seats", .glo "_law_cell_at", .glo "_law_row", .glo "can_sit", .glo "is_seating", .glo "_law_first_row", .glo "_law_right", .glo "law", .free "range", .free "len", .free "tuple", .free "max", .free "set", .free "list", .free "isinstance", .free "bool"]
abbrev R : PySem.W.OpenRow := PySem.W.OpenLaw.row PySem.Challenge.rw_deskpairs_k31_is_seating
abbrev hk : PySem.W.Hook := He.hookD 4 fa fn
def ob (s : PySem.W.SharedT) : He.AlD := He.obsDG 4 fa fn (HandSHeadRun.getT s)
theorem ob_eq (s : PySem.W.SharedT) : ob s = hk.obs s.abs := He.obsDG_eq (HandSHeadRun.getT_eq s)
def loose0 : List Str := ["can_sit", "is_seating", "_law_cell_at", "_law_draws", "_law_tools", "_law_title", "_law_seat", "_law_seats", "_law_player", "_law_players", "_law_right", "_law_row", "_law_first_row"]
def loose : List Str := loose0
theorem run (w : World) : HandSHeadRun.RunEq R (PySem.W.view R.prog [15]) hk ob 1040 loose w := by
  intro os
  kernel_rfl
theorem facts {P : Program} {w : World} {K : PySem.W.Frag} {h : Heap} {mg : Str → Option Value} {f : Addr} (X : K.In h) (G : h.Ns mainGlobals mg) (hfa : mg ("law" : Str) = some (.ref f)) (c : He.SaysD fa fn K) :
    ∃ fd : FuncData, (∀ (s : Shared) (v : Value), BindsTo s fd ⟨[v], []⟩ [("_law_script", v)]) ∧ ∀ base : Heap, K.In base → base.Ns mainGlobals mg → FnOk P w K mg base CX0 4 f fd ["_law_script"] (sp K a_law) := by
  obtain ⟨fd_l_draws, F_l_draws⟩ := c.def_ 0 (d := d_l_draws) rfl
  have g_l_draws : mg "_law_draws" = some (.ref (He.fAd K ("_law_draws", none))) := He.glo_ok X G (c.fact 0 (f := .glo "_law_draws") rfl)
  obtain ⟨fd_l_tools, F_l_tools⟩ := c.def_ 1 (d := d_l_tools) rfl
  have g_l_tools : mg "_law_tools" = some (.ref (He.fAd K ("_law_tools", none))) := He.glo_ok X G (c.fact 1 (f := .glo "_law_tools") rfl)
  obtain ⟨fd_l_title, F_l_title⟩ := c.def_ 2 (d := d_l_title) rfl
  have g_l_title : mg "_law_title" = some (.ref (He.fAd K ("_law_title", none))) := He.glo_ok X G (c.fact 2 (f := .glo "_law_title") rfl)
  obtain ⟨fd_l_player, F_l_player⟩ := c.def_ 3 (d := d_l_player) rfl
  have g_l_player : mg "_law_player" = some (.ref (He.fAd K ("_law_player", none))) := He.glo_ok X G (c.fact 3 (f := .glo "_law_player") rfl)
  obtain ⟨fd_l_players, F_l_players⟩ := c.def_ 4 (d := d_l_players) rfl
  have g_l_players : mg "_law_players" = some (.ref (He.fAd K ("_law_players", none))) := He.glo_ok X G (c.fact 4 (f := .glo "_law_players") rfl)
  obtain ⟨fd_l_seat, F_l_seat⟩ := c.def_ 5 (d := d_l_seat) rfl
  have g_l_seat : mg "_law_seat" = some (.ref (He.fAd K ("_law_seat", none))) := He.glo_ok X G (c.fact 5 (f := .glo "_law_seat") rfl)
  obtain ⟨fd_l_seats, F_l_seats⟩ := c.def_ 6 (d := d_l_seats) rfl
  have g_l_seats : mg "_law_seats" = some (.ref (He.fAd K ("_law_seats", none))) := He.glo_ok X G (c.fact 6 (f := .glo "_law_seats") rfl)
  obtain ⟨fd_l_cell_at, F_l_cell_at⟩ := c.def_ 7 (d := d_l_cell_at) rfl
  have g_l_cell_at : mg "_law_cell_at" = some (.ref (He.fAd K ("_law_cell_at", none))) := He.glo_ok X G (c.fact 7 (f := .glo "_law_cell_at") rfl)
  obtain ⟨fd_l_row, F_l_row⟩ := c.def_ 8 (d := d_l_row) rfl
  have g_l_row : mg "_law_row" = some (.ref (He.fAd K ("_law_row", none))) := He.glo_ok X G (c.fact 8 (f := .glo "_law_row") rfl)
  obtain ⟨fd_can_sit, F_can_sit⟩ := c.def_ 9 (d := d_can_sit) rfl
  have g_can_sit : mg "can_sit" = some (.ref (He.fAd K ("can_sit", none))) := He.glo_ok X G (c.fact 9 (f := .glo "can_sit") rfl)
  obtain ⟨fd_is_seating, F_is_seating⟩ := c.def_ 10 (d := d_is_seating) rfl
  have g_is_seating : mg "is_seating" = some (.ref (He.fAd K ("is_seating", none))) := He.glo_ok X G (c.fact 10 (f := .glo "is_seating") rfl)
  obtain ⟨fd_l_first_row, F_l_first_row⟩ := c.def_ 11 (d := d_l_first_row) rfl
  have g_l_first_row : mg "_law_first_row" = some (.ref (He.fAd K ("_law_first_row", none))) := He.glo_ok X G (c.fact 11 (f := .glo "_law_first_row") rfl)
  obtain ⟨fd_l_right, F_l_right⟩ := c.def_ 12 (d := d_l_right) rfl
  have g_l_right : mg "_law_right" = some (.ref (He.fAd K ("_law_right", none))) := He.glo_ok X G (c.fact 12 (f := .glo "_law_right") rfl)
  obtain ⟨fd_law, F_law⟩ := c.def_ 13 (d := d_law) rfl
  have g_law : mg "law" = some (.ref (He.fAd K ("law", none))) := He.glo_ok X G (c.fact 13 (f := .glo "law") rfl)
  have z_range : mg "range" = none := He.free_ok X G (c.fact 14 (f := .free "range") rfl)
  have z_len : mg "len" = none := He.free_ok X G (c.fact 15 (f := .free "len") rfl)
  have z_tuple : mg "tuple" = none := He.free_ok X G (c.fact 16 (f := .free "tuple") rfl)
  have z_max : mg "max" = none := He.free_ok X G (c.fact 17 (f := .free "max") rfl)
  have z_set : mg "set" = none := He.free_ok X G (c.fact 18 (f := .free "set") rfl)
  have z_list : mg "list" = none := He.free_ok X G (c.fact 19 (f := .free "list") rfl)
  have z_isinstance : mg "isinstance" = none := He.free_ok X G (c.fact 20 (f := .free "isinstance") rfl)
  have z_bool : mg "bool" = none := He.free_ok X G (c.fact 21 (f := .free "bool") rfl)
  have e := hfa.symm.trans g_law
  cases e
  have b := FunD.bindsA (ps := ["_law_script"]) F_law fun _ _ _ _ _ _ us hl => match us, hl with | [_], _ => rfl
  refine ⟨fd_law, fun s v => b s [v] rfl, fun base _ _ => ?_⟩
  have C_l_draws := ok_l_draws (P := P) (w := w) (base := base) F_l_draws g_l_draws z_range z_len
  have C_l_tools := ok_l_tools (P := P) (w := w) (base := base) F_l_tools g_l_tools 
  have C_l_title := ok_l_title (P := P) (w := w) (base := base) F_l_title g_l_title 
  have C_l_player := ok_l_player (P := P) (w := w) (base := base) F_l_player g_l_player C_l_title z_range z_tuple
  have C_l_players := ok_l_players (P := P) (w := w) (base := base) F_l_players g_l_players C_l_draws C_l_player z_range
  have C_l_seat := ok_l_seat (P := P) (w := w) (base := base) F_l_seat g_l_seat z_tuple z_range
  have C_l_seats := ok_l_seats (P := P) (w := w) (base := base) F_l_seats g_l_seats C_l_draws C_l_seat z_range
  have C_l_cell_at := ok_l_cell_at (P := P) (w := w) (base := base) F_l_cell_at g_l_cell_at z_len
  have C_l_row := ok_l_row (P := P) (w := w) (base := base) F_l_row g_l_row C_l_draws z_len z_max
  have C_can_sit := ok_can_sit (P := P) (w := w) (base := base) F_can_sit g_can_sit 
  have C_is_seating := ok_is_seating (P := P) (w := w) (base := base) F_is_seating g_is_seating C_can_sit z_len z_set z_range
  have C_l_first_row := ok_l_first_row (P := P) (w := w) (base := base) F_l_first_row g_l_first_row z_range z_len
  have C_l_right := ok_l_right (P := P) (w := w) (base := base) F_l_right g_l_right z_len z_range
  exact ok_law_fn (P := P) (w := w) (base := base) F_law g_law C_l_draws C_l_cell_at C_l_tools C_l_players C_l_seats C_l_row C_l_first_row C_is_seating C_l_right z_list z_range z_len z_isinstance z_bool
theorem tb_ok {α β : Type} {r : α} {h : Er → Option β} {k : α → Option β} : tb (some (Rz.ok r)) h k = k r := rfl
theorem tb_er {α β : Type} {e : Er} {h : Er → Option β} {k : α → Option β} : tb (some (Rz.er e)) h k = h e := rfl
theorem lt_eq {α β : Type} {x : α} {f : α → Option β} : lt x f = f x := rfl
theorem go_nx {β ρ γ : Type} {b : β} {k : β → γ} {e : ρ → γ} : Fl.go (Fl.nx b) k e = k b := rfl
theorem cell_ok (sc : List Int) {k : Int} (h : 0 ≤ k) : Ok (m_l_cell_at sc k) (fun _ => True) := by
  unfold m_l_cell_at
  exact ok_ite (fun h2 => ok_ret (ok_atI h (of_decide_eq_true h2) fun _ _ => trivial)) (fun _ => ok_some trivial)
theorem draws_ok {cell : Int} {sizes : List Int} (h1 : ∀ n ∈ sizes, 0 < n ∧ n < 100000000) (h2 : sizes.length ≤ 1000) : Ok (m_l_draws cell sizes) (Drawn sizes) := by
  unfold m_l_draws
  have hz := szl
  refine ok_lt fun f hf => ok_lt fun n _ => ok_chk ⟨by omega, by omega⟩ (ok_bnd (P := fun b => Drawn sizes b.1) (ok_foldO (fun i b => b.1.length = i ∧ ∀ (j : Nat) (d n : Int), b.1[j]? = some d → sizes[j]? = some n → 0 ≤ d ∧ d < n) ⟨by rw [hf]; rfl, by rw [hf]; simp⟩ ?_ ?_) ?_)
  · rintro i ⟨b1, b2⟩ x hx ⟨hl, hm⟩
    obtain ⟨e1, e2⟩ := rng_at hx
    dsimp only at hl hm ⊢
    have hi : i < sizes.length := by omega
    have hs : sizes[i]? = some sizes[i] := List.getElem?_eq_getElem hi
    obtain ⟨p1, p2⟩ := h1 sizes[i] (List.getElem_mem hi)
    have hat : atI sizes x = some sizes[i] := by
      rw [e1, Int.zero_add, atI_nat hs]
    refine ok_chk (mul_l (by omega) (by omega)) (ok_lt fun m1 _ => ok_lt fun m2 _ => ?_)
    refine ok_bnd (P := fun _ => True) (ok_ite (fun _ => ok_lt fun _ _ => ok_some trivial) (fun _ => ok_some trivial)) fun v _ => ?_
    refine ok_bnd (P := fun s => s = sizes[i]) (ok_eq hat rfl) fun s hs1 => ?_
    subst hs1
    refine ok_chk p1 (ok_chk (by omega) (ok_lt fun y hy => ok_bnd (P := fun s => s = sizes[i]) (ok_eq hat rfl) fun s hs1 => ?_))
    subst hs1
    refine ok_chk (div_small p1 (by omega)) (ok_lt fun w _ => ok_some ?_)
    subst hy
    refine ⟨by rw [List.length_append, hl]; rfl, fun j d n hd hn => ?_⟩
    by_cases hj : j < i
    · rw [List.getElem?_append_left (by omega)] at hd
      exact hm j d n hd hn
    · by_cases hji : j = i
      · subst hji
        rw [List.getElem?_append_right (by omega), hl, Nat.sub_self] at hd
        rw [hs] at hn
        cases hn
        have e : v % sizes[j] = d := Option.some.inj hd
        rw [← e]
        exact ⟨Int.emod_nonneg _ (by omega), Int.emod_lt_of_pos _ p1⟩
      · rw [List.getElem?_eq_none (by rw [List.length_append, hl, List.length_singleton]; omega)] at hd
        cases hd
  · rintro b ⟨hl, hm⟩
    exact ⟨by rw [hl, rng_len_nn (by omega)]; omega, hm⟩
  · exact fun b hb => ok_some hb
theorem txt_app {a b : Str} (ha : txt a) (hb : txt b) : txt (a ++ b) := by
  unfold txt PyData.strOk at *
  show (a.cps ++ b.cps).all _ = true
  rw [Array.all_append, ha, hb]; rfl
theorem txt_rep {x : Str} (h : txt x) (n : Int) : txt (replS x n) := by
  unfold replS Txt.mul
  split
  · show PyData.strOk _ = true; decide +kernel
  · split
    · first | exact h | (show PyData.strOk _ = true; decide +kernel)
    · have : ∀ (k : Nat) (a : Array Nat), a.all (· < 0x110000) = true → ((List.replicate k x.cps).foldl (· ++ ·) a).all (· < 0x110000) = true := by
        intro k
        induction k with
        | zero => intro a ha; exact ha
        | succ k ih =>
          intro a ha
          rw [List.replicate_succ, List.foldl_cons]
          refine ih _ ?_
          rw [Array.all_append, ha]
          exact h
      exact this _ _ (by simp)
theorem txt_one {x : Str} {c : Nat} (h : txt x) (hc : c ∈ x.cps.toList) : txt ⟨#[c]⟩ := by
  unfold txt PyData.strOk at *
  rw [Array.all_eq_true_iff_forall_mem] at h
  have := h c (Array.mem_toList_iff.mp hc)
  simpa using this
def Good (x : Str) : Prop := txt x ∧ x.length ≤ 20
theorem tools_ok (w : Int) : Ok (m_l_tools w) (fun t => t.length = 5 ∧ ∀ x ∈ t, Good x) := by
  unfold m_l_tools
  have key : ∀ t ∈ [([("a" : Str), ("ab" : Str), ("abc" : Str), ("b" : Str), ("ba" : Str)] : List Str), [("viola" : Str), ("v" : Str), ("harp" : Str), ("oboe" : Str), ("violas" : Str)], [("horn" : Str), ("ho" : Str), ("zink" : Str), ("c" : Str), ("cornetto" : Str)]], t.length = 5 ∧ ∀ x ∈ t, Good x := by
    unfold Good txt
    decide +kernel
  refine ok_ite (fun _ => ok_some (key _ (by simp))) (fun _ => ok_ite (fun _ => ok_some (key _ (by simp))) (fun _ => ok_some (key _ (by simp))))
theorem repl_len {x : Str} {n : Int} (h0 : 0 ≤ n) : (replS x n).length ≤ x.length * n.toNat := by
  unfold replS Txt.mul
  split
  · exact Nat.zero_le _
  · split
    · rename_i h1 h2
      simp only [Bool.or_eq_true, beq_iff_eq] at h2
      rcases h2 with h2 | h2
      · subst h2; simp
      · rw [h2]; simp
    · have : ∀ (k : Nat) (a : Array Nat), ((List.replicate k x.cps).foldl (· ++ ·) a).size = a.size + x.cps.size * k := by
        intro k
        induction k with
        | zero => intro a; simp
        | succ k ih => intro a; rw [List.replicate_succ, List.foldl_cons, ih, Array.size_append, Nat.mul_succ]; omega
      show Array.size _ ≤ _
      rw [this]
      show 0 + x.cps.size * n.toNat ≤ x.cps.size * n.toNat
      omega
theorem title_ok {k w : Int} (h0 : 0 ≤ k) (h1 : k < 26) (w0 : 0 ≤ w) (w1 : w < 3) : Ok (m_l_title k w) txt := by
  unfold m_l_title
  have hz := szl
  refine ok_lt fun ls hls => ?_
  have hl : ls.length = 26 := by rw [hls]; decide
  have e1 := @repl_len ("x" : Str) (k % 2) (by omega)
  have e0 : ("x" : Str).length = 1 := by decide
  rw [e0] at e1
  have tl : txt ls := by rw [hls]; unfold txt; decide +kernel
  have tx : txt ("x" : Str) := by unfold txt; decide +kernel
  refine ok_bnd (P := fun y => y.length = 1 ∧ txt y) (ok_sgn (by omega) (by omega) (by omega) fun c hc => ⟨rfl, txt_one tl (List.mem_of_getElem? hc)⟩) fun y ⟨hy, ty⟩ => ?_
  refine ok_chk (repS_small (by rw [e0]; omega) (by omega) (by omega)) (ok_chk (by omega) (ok_lt fun wd hwd => ?_))
  have lw : wd.length ≤ 2 := by
    rw [hwd]
    show (Str.append _ _).length ≤ 2
    show (y.cps ++ (replS ("x" : Str) (k % 2)).cps).size ≤ 2
    rw [Array.size_append]
    show y.length + (replS ("x" : Str) (k % 2)).length ≤ 2
    omega
  have tw : txt wd := by rw [hwd]; exact txt_app ty (txt_rep tx _)
  refine ok_ite (fun _ => ok_some tw) (fun _ => ?_)
  refine ok_bnd (P := fun z => z.length ≤ 2 ∧ txt z) (ok_atI (by omega) (by simp; omega) fun z hz => ?_) fun z ⟨hz2, tz⟩ => ?_
  · have : z ∈ [("" : Str), ("q" : Str), ("zz" : Str)] := List.mem_of_getElem? hz
    simp only [List.mem_cons, List.not_mem_nil, or_false] at this
    rcases this with rfl | rfl | rfl <;> exact ⟨by decide, by unfold txt; decide +kernel⟩
  · refine ok_chk (by omega) (ok_bnd (P := fun y => y.length = 1 ∧ txt y) (ok_sgn (by omega) (by omega) (by omega) fun c hc => ⟨rfl, txt_one tl (List.mem_of_getElem? hc)⟩) fun u ⟨hu, tu⟩ => ?_)
    refine ok_chk (repS_small (by omega) (by omega) (by omega)) (ok_chk ?_ (ok_some (txt_app (txt_app tz tw) (txt_rep tu _))))
    have e2 := @repl_len u 2 (by omega)
    rw [hu] at e2
    have e3 : (z ++ wd).length = z.length + wd.length := by
      show (z.cps ++ wd.cps).size = _
      rw [Array.size_append]; rfl
    have : (1 * (2 : Int).toNat) = 2 := by decide
    omega
theorem player_ok {k m t w : Int} {ts : List Str} (h0 : 0 ≤ k) (h1 : k < 26) (w0 : 0 ≤ w) (w1 : w < 3) (ht : ts.length = 5) (hg : ∀ x ∈ ts, Good x) : Ok (m_l_player k m t ts w) (fun p => p.2.l.length ≤ 5 ∧ txt p.1 ∧ ∀ x ∈ p.2.l, txt x) := by
  unfold m_l_player
  have hz := szl
  refine ok_bnd (ok_compO (T := fun x => decide ((m / (2 ^ x.toNat : Int)) % 2 = 1)) (P := fun _ y => txt y) (fun x hx => ?_) (fun x hx _ => ?_)) fun ys ⟨y1, y2⟩ => ?_
  · obtain ⟨a, b⟩ := rng_mem hx
    have : x = 0 ∨ x = 1 ∨ x = 2 ∨ x = 3 ∨ x = 4 := by omega
    rcases this with rfl | rfl | rfl | rfl | rfl <;> exact ok_bnd (P := fun z => z = _) (ok_eq rfl rfl) fun z hz => ok_chk (div_small (by rw [hz]; decide) (by rw [hz]; decide)) (ok_some (by rw [hz]; rfl))
  · obtain ⟨a, b⟩ := rng_mem hx
    exact ok_ret (ok_atI a (by omega) fun y hy => (hg y (List.mem_of_getElem? hy)).1)
  · have hy : ys.length ≤ 5 := by
      rw [y1]
      exact Nat.le_trans (List.length_filter_le _ _) (by rw [rng_len]; decide)
    have hall : ∀ y ∈ ys, txt y := fun y hy2 => by
      obtain ⟨i, hi⟩ := List.mem_iff_getElem?.mp hy2
      obtain ⟨_, _, h⟩ := y2 i y hi
      exact h
    refine ok_chk (by omega) (ok_lt fun sm hs => ok_bnd (P := fun b => b.length ≤ 5 ∧ ∀ y ∈ b, txt y) (ok_ite (fun _ => ok_lt fun z hz => ok_some ?_) (fun _ => ok_some ?_)) fun b hb => ok_bnd (title_ok h0 h1 w0 w1) fun ti hti => ok_some ⟨hb.1, hti, hb.2⟩)
    · rw [hz, hs]; exact ⟨by rw [List.length_reverse]; exact hy, fun y h => hall y (List.mem_reverse.mp h)⟩
    · rw [hs]; exact ⟨hy, hall⟩
theorem seat_ok {a b c : Int} {ts : List Str} (b0 : 0 ≤ b) (b1 : b < 8) (c0 : 0 ≤ c) (c1 : c < 4) (ht : ts.length = 5) (hg : ∀ x ∈ ts, Good x) : Ok (m_l_seat a b c ts) (fun s => s.l.length ≤ 4 ∧ ∀ x ∈ s.l, Good x) := by
  unfold m_l_seat
  have hz := szl
  refine ok_bnd (P := fun n => 1 ≤ n ∧ n ≤ 4) (ok_atI b0 (by simp; omega) fun n hn => ?_) fun n hn => ok_lt fun many hm => ?_
  · have : n ∈ ([1, 1, 1, 1, 2, 2, 3, 4] : List Int) := List.mem_of_getElem? hn
    simp only [List.mem_cons, List.not_mem_nil, or_false] at this
    omega
  · subst hm
    refine ok_chk ⟨by omega, by omega⟩ (ok_bnd (ok_mapO (P := fun _ y => Good y) fun x hx => ?_) fun ys ⟨y1, y2⟩ => ?_)
    · obtain ⟨u, v⟩ := rng_mem hx
      refine ok_chk (mul_l (by omega) (by omega)) (ok_ret (ok_atI (by omega) (by omega) fun y hy => hg y (List.mem_of_getElem? hy)))
    · rw [rng_len_nn (by omega)] at y1
      refine ok_chk (by omega) (ok_some ⟨by show ys.length ≤ 4; omega, fun y hy => ?_⟩)
      obtain ⟨i, hi⟩ := List.mem_iff_getElem?.mp hy
      obtain ⟨_, _, h⟩ := y2 i y hi
      exact h
def can (p : Str × Tu Str) (s : Tu Str) : Bool := !s.l.any fun x => !decide (x ∈ p.2.l)
theorem can_eq (p : Str × Tu Str) (s : Tu Str) : m_can_sit p s = some (can p s) := by
  unfold m_can_sit can
  rw [foldF_any (p := fun x => !decide (x ∈ p.2.l)) (r := false) (fun x => rfl)]
  cases s.l.any (fun x => !decide (x ∈ p.2.l)) <;> rfl
theorem foldF_anyM {α ρ : Type} {p : α → Bool} {f : Unit → α → Option (Fl Unit ρ)} {r : ρ} : ∀ {xs : List α}, (∀ x ∈ xs, f () x = if p x = true then some (.rt r) else some (.nx ())) → foldF f () xs = some (if xs.any p = true then .rt r else .nx ())
  | [], _ => rfl
  | x :: xs, h => by
    unfold foldF
    rw [h x List.mem_cons_self, List.any_cons]
    cases hp : p x with
    | true => rfl
    | false => exact foldF_anyM fun y hy => h y (List.mem_cons_of_mem _ hy)
def bad (ps : List (Str × Tu Str)) (ss : List (Tu Str)) (row : List Int) (k : Int) : Bool :=
  match atI row k, atI ss k with
  | some j, some s => decide (j < 0) || (decide ((ps.length : Int) ≤ j) || (match atI ps j with
    | some p => !can p s
    | none => true))
  | _, _ => true
theorem at_in {α : Type} {xs : List α} {k : Int} (h0 : 0 ≤ k) (h1 : k < xs.length) : ∃ x, atI xs k = some x ∧ x ∈ xs ∧ xs[k.toNat]? = some x := by
  have h2 : k.toNat < xs.length := by omega
  exact ⟨xs[k.toNat], by rw [atI_get h0 h1, List.getElem?_eq_getElem h2], List.getElem_mem h2, List.getElem?_eq_getElem h2⟩
theorem seating_eq {ps : List (Str × Tu Str)} {ss : List (Tu Str)} {row : List Int} (hl : row.length ≤ 1000) : m_is_seating ps ss row = some (decide (row.length = ss.length) && (decide row.Nodup && !(rng 0 row.length).any (bad ps ss row))) := by
  refine Ok.eq ?_
  unfold m_is_seating
  have e1 : decide ((row.length : Int) = (ss.length : Int)) = decide (row.length = ss.length) := by
    rw [Bool.eq_iff_iff, decide_eq_true_iff, decide_eq_true_iff]; omega
  have e2 : decide (((dsz row : Nat) : Int) = (row.length : Int)) = decide row.Nodup := by
    rw [Bool.eq_iff_iff, decide_eq_true_iff, decide_eq_true_iff, ← dsz_eq]; omega
  rw [e1]
  by_cases hls : row.length = ss.length
  · rw [decide_eq_true hls]
    show Ok (bnd (chk _ _) _) _
    rw [chk_pos (by omega), e2]
    by_cases hn : row.Nodup
    · rw [decide_eq_true hn]
      show Ok (chk _ (bnd (foldF _ _ _) _)) _
      refine ok_chk ⟨by omega, by omega⟩ ?_
      rw [foldF_anyM (p := bad ps ss row) (r := false) fun k hk => ?_]
      · cases (rng 0 (row.length : Int)).any (bad ps ss row)
        · exact ok_some rfl
        · exact ok_some rfl
      · obtain ⟨k0, k1⟩ := mem_rng.mp hk
        obtain ⟨j, hj, _, _⟩ := at_in k0 k1
        obtain ⟨s, hs, _, _⟩ := at_in (xs := ss) k0 (by omega)
        have eb : bad ps ss row k = (decide (j < 0) || (decide ((ps.length : Int) ≤ j) || (match atI ps j with
          | some p => !can p s
          | none => true))) := by unfold bad; rw [hj, hs]
        rw [eb, hj, hs]
        show bnd (orO (decide (j < 0)) (orO (decide ((ps.length : Int) ≤ j)) (bnd (atI ps j) _))) _ = _
        by_cases h1 : j < 0
        · rw [decide_eq_true h1]; rfl
        · rw [decide_eq_false h1]
          by_cases h2 : (ps.length : Int) ≤ j
          · rw [decide_eq_true h2]; rfl
          · rw [decide_eq_false h2]
            obtain ⟨p, hp, _, _⟩ := at_in (xs := ps) (k := j) (by omega) (by omega)
            rw [hp]
            show bnd (bnd (m_can_sit p s) _) _ = if (false || (false || !can p s)) = true then some (Fl.rt false) else some (Fl.nx ())
            rw [can_eq]
            cases can p s <;> rfl
    · rw [decide_eq_false hn]
      exact ok_some rfl
  · rw [decide_eq_false hls]
    exact ok_some rfl
theorem nodup_take {row : List Int} : row.Nodup ↔ ∀ k : Nat, ∀ x, row[k]? = some x → x ∉ row.take k := by
  constructor
  · intro h k x hk hx
    obtain ⟨i, hi⟩ := List.mem_iff_getElem?.mp hx
    rw [List.getElem?_take] at hi
    split at hi
    · rename_i hik
      obtain ⟨a1, b1⟩ := List.getElem?_eq_some_iff.mp hk
      obtain ⟨a2, b2⟩ := List.getElem?_eq_some_iff.mp hi
      have := (List.getElem_inj h (h₀ := a1) (h₁ := a2)).mp (b1.trans b2.symm)
      omega
    · cases hi
  · intro h
    refine List.pairwise_iff_getElem.mpr fun i j hi hj hij e => ?_
    refine h j row[j] (List.getElem?_eq_getElem hj) ?_
    rw [← e]
    exact List.mem_iff_getElem?.mpr ⟨i, by rw [List.getElem?_take, if_pos hij, List.getElem?_eq_getElem hi]⟩
theorem right_eq {ps : List (Str × Tu Str)} {ss : List (Tu Str)} {row : List Int} (hl : row.length ≤ 1000) (hg : ∀ s ∈ ss, s.l.length ≤ 4 ∧ ∀ x ∈ s.l, txt x) : m_l_right ps ss row = some (decide (row.length = ss.length) && (decide row.Nodup && !(rng 0 row.length).any (bad ps ss row))) := by
  refine Ok.eq ?_
  unfold m_l_right
  have hz := szl
  have e1 : decide ((row.length : Int) = (ss.length : Int)) = decide (row.length = ss.length) := by
    rw [Bool.eq_iff_iff, decide_eq_true_iff, decide_eq_true_iff]; omega
  rw [e1]
  by_cases hls : row.length = ss.length
  · rw [decide_eq_true hls]
    show Ok (chk _ (bnd (foldF _ _ _) _)) _
    refine ok_chk ⟨by omega, by omega⟩ ?_
    rw [foldF_anyM (p := fun k => bad ps ss row k || (match atI row k with
      | some j => decide (j ∈ row.take k.toNat)
      | none => true)) (r := false) fun k hk => ?_]
    · have e3 : ((rng 0 (row.length : Int)).any fun k => bad ps ss row k || (match atI row k with
          | some j => decide (j ∈ row.take k.toNat)
          | none => true)) = !(decide row.Nodup && !(rng 0 (row.length : Int)).any (bad ps ss row)) := by
        rw [Bool.eq_iff_iff, Bool.not_and, Bool.not_not, Bool.or_eq_true, Bool.not_eq_true', decide_eq_false_iff_not, List.any_eq_true, List.any_eq_true, nodup_take]
        constructor
        · rintro ⟨k, hk, h⟩
          rw [Bool.or_eq_true] at h
          rcases h with h | h
          · exact .inr ⟨k, hk, h⟩
          · obtain ⟨k0, k1⟩ := mem_rng.mp hk
            obtain ⟨j, hj, _, hj2⟩ := at_in k0 k1
            rw [hj] at h
            exact .inl fun z => z k.toNat j hj2 (of_decide_eq_true h)
        · rintro (h | ⟨k, hk, h⟩)
          · refine Classical.byContradiction fun hc => h fun k x hx hx2 => hc ⟨(k : Int), ?_, ?_⟩
            · have := (List.getElem?_eq_some_iff.mp hx).1
              exact mem_rng.mpr ⟨by omega, by omega⟩
            · have h5 := (List.getElem?_eq_some_iff.mp hx).1
              have : atI row (k : Int) = some x := by rw [atI_get (by omega) (by omega), Int.toNat_natCast]; exact hx
              rw [this, Int.toNat_natCast, Bool.or_eq_true]
              exact .inr (decide_eq_true hx2)
          · exact ⟨k, hk, by rw [h]; rfl⟩
      rw [e3]
      cases (decide row.Nodup && !(rng 0 (row.length : Int)).any (bad ps ss row))
      · exact ok_some rfl
      · exact ok_some rfl
    · obtain ⟨k0, k1⟩ := mem_rng.mp hk
      obtain ⟨j, hj, _, _⟩ := at_in k0 k1
      obtain ⟨s, hs, hsm, _⟩ := at_in (xs := ss) k0 (by omega)
      have hcut : cut row none (some k) = row.take k.toNat := by
        have := cut_hi row k.toNat
        rw [show ((k.toNat : Nat) : Int) = k by omega] at this
        exact this
      have eb : bad ps ss row k = (decide (j < 0) || (decide ((ps.length : Int) ≤ j) || (match atI ps j with
        | some p => !can p s
        | none => true))) := by unfold bad; rw [hj, hs]
      rw [eb, hj, hs, hcut]
      show bnd (orO (!(decide ((0 : Int) ≤ j) && decide (j < (ps.length : Int)))) (some (decide (j ∈ row.take k.toNat)))) _ = _
      by_cases h1 : j < 0
      · rw [decide_eq_false (show ¬ (0 : Int) ≤ j by omega), decide_eq_true h1]; rfl
      · by_cases h2 : (ps.length : Int) ≤ j
        · rw [decide_eq_false (show ¬ j < (ps.length : Int) by omega), Bool.and_false, decide_eq_false h1, decide_eq_true h2]; rfl
        · rw [decide_eq_true (show (0 : Int) ≤ j by omega), decide_eq_true (show j < (ps.length : Int) by omega), decide_eq_false h1, decide_eq_false h2]
          obtain ⟨p, hp, _, _⟩ := at_in (xs := ps) (k := j) (by omega) (by omega)
          rw [hp]
          show bnd (some (decide (j ∈ row.take k.toNat))) _ = if ((false || (false || !can p s)) || decide (j ∈ row.take k.toNat)) = true then some (Fl.rt false) else some (Fl.nx ())
          by_cases h3 : j ∈ row.take k.toNat
          · rw [decide_eq_true h3]
            cases can p s <;> rfl
          · rw [decide_eq_false h3]
            show bnd (compO _ _ s.l) _ = _
            have hg2 := hg s hsm
            have hfl := List.length_filter_le (fun x => !decide (x ∈ p.2.l)) s.l
            have hc := compO_eq (xs := s.l) (t := fun x1 : Str => bnd (some j) fun a1 => bnd (atI ps a1) fun a2 => some (!decide (x1 ∈ a2.2.l))) (f := fun x : Str => some x) (T := fun x => !decide (x ∈ p.2.l)) (g := fun x => x) (fun x _ => by show bnd (atI ps j) _ = _; rw [hp]; rfl) (fun x _ _ => rfl)
            rw [hc]
            show chk _ (chk _ (chk _ _)) = _
            rw [List.map_id', chk_pos (by omega), chk_pos (shp_strs fun x hx => hg2.2 x (List.mem_filter.mp hx).1), chk_pos (shp_strs fun x hx => by simp at hx)]
            have e5 : decide (s.l.filter (fun x => !decide (x ∈ p.2.l)) = []) = can p s := by
              unfold can
              rw [Bool.eq_iff_iff, decide_eq_true_iff, List.filter_eq_nil_iff, Bool.not_eq_true', List.any_eq_false]
            rw [e5]
            cases can p s <;> rfl
  · rw [decide_eq_false hls]
    exact ok_some rfl
theorem players_ok (cell : Int) {w : Int} {ts : List Str} (w0 : 0 ≤ w) (w1 : w < 3) (ht : ts.length = 5) (hg : ∀ x ∈ ts, Good x) : Ok (m_l_players cell 8 ts w) (fun ps => ps.length ≤ 8 ∧ ∀ p ∈ ps, p.2.l.length ≤ 5 ∧ txt p.1 ∧ ∀ x ∈ p.2.l, txt x) := by
  unfold m_l_players
  have hz := szl
  refine ok_chk ⟨by decide, by decide, by decide⟩ (ok_chk (by decide) (ok_bnd (draws_ok (by decide) (by decide)) fun ds hds => ok_lt fun ds' h => ?_))
  subst h
  have k1 : ∀ k, k < 8 → (([(8 + 1 : Int)] : List Int) ++ repl 8 [32, 2])[1 + 2 * k]? = some 32 := by decide
  have k2 : ∀ k, k < 8 → (([(8 + 1 : Int)] : List Int) ++ repl 8 [32, 2])[2 + 2 * k]? = some 2 := by decide
  refine ok_bnd (ok_draw hds 0 rfl (Q := fun d => 0 ≤ d ∧ d < 9) fun d a b => ⟨a, b⟩) fun d ⟨d0, d1⟩ => ok_chk ⟨by omega, by omega⟩ (ok_bnd (ok_mapO (P := fun _ p => p.2.l.length ≤ 5 ∧ txt p.1 ∧ ∀ x ∈ p.2.l, txt x) fun x hx => ?_) fun ys ⟨y1, y2⟩ => ?_)
  · obtain ⟨x0, x1⟩ := mem_rng.mp hx
    obtain ⟨k, rfl⟩ : ∃ k : Nat, x = (k : Int) := ⟨x.toNat, by omega⟩
    have a1 := ok_draw hds (1 + 2 * k) (k1 k (by omega)) (Q := fun d => 0 ≤ d ∧ d < 32) fun d a b => ⟨a, b⟩
    have a2 := ok_draw hds (2 + 2 * k) (k2 k (by omega)) (Q := fun d => 0 ≤ d ∧ d < 2) fun d a b => ⟨a, b⟩
    rw [show ((1 + 2 * k : Nat) : Int) = 1 + 2 * (k : Int) by omega] at a1
    rw [show ((2 + 2 * k : Nat) : Int) = 2 + 2 * (k : Int) by omega] at a2
    exact ok_bnd a1 fun m hm => ok_bnd a2 fun t ht2 => ok_ret (player_ok (by omega) (by omega) w0 w1 ht hg)
  · rw [rng_len_nn d0] at y1
    refine ok_chk (by omega) (ok_some ⟨by omega, fun p hp => ?_⟩)
    obtain ⟨i, hi⟩ := List.mem_iff_getElem?.mp hp
    obtain ⟨_, _, h⟩ := y2 i p hi
    exact h
theorem seats_ok (cell : Int) {ts : List Str} (ht : ts.length = 5) (hg : ∀ x ∈ ts, Good x) : Ok (m_l_seats cell 5 ts) (fun ss => ss.length ≤ 5 ∧ ∀ s ∈ ss, s.l.length ≤ 4 ∧ ∀ x ∈ s.l, txt x) := by
  unfold m_l_seats
  have hz := szl
  refine ok_chk ⟨by decide, by decide, by decide⟩ (ok_chk (by decide) (ok_bnd (draws_ok (by decide) (by decide)) fun ds hds => ok_lt fun ds' h => ?_))
  subst h
  have k1 : ∀ k, k < 5 → (([(5 + 1 : Int)] : List Int) ++ repl 5 [5, 8, 4])[1 + 3 * k]? = some 5 := by decide
  have k2 : ∀ k, k < 5 → (([(5 + 1 : Int)] : List Int) ++ repl 5 [5, 8, 4])[2 + 3 * k]? = some 8 := by decide
  have k3 : ∀ k, k < 5 → (([(5 + 1 : Int)] : List Int) ++ repl 5 [5, 8, 4])[3 + 3 * k]? = some 4 := by decide
  refine ok_bnd (ok_draw hds 0 rfl (Q := fun d => 0 ≤ d ∧ d < 6) fun d a b => ⟨a, b⟩) fun d ⟨d0, d1⟩ => ok_chk ⟨by omega, by omega⟩ (ok_bnd (ok_mapO (P := fun _ s => s.l.length ≤ 4 ∧ ∀ x ∈ s.l, txt x) fun x hx => ?_) fun ys ⟨y1, y2⟩ => ?_)
  · obtain ⟨x0, x1⟩ := mem_rng.mp hx
    obtain ⟨k, rfl⟩ : ∃ k : Nat, x = (k : Int) := ⟨x.toNat, by omega⟩
    have a1 := ok_draw hds (1 + 3 * k) (k1 k (by omega)) (Q := fun d => 0 ≤ d ∧ d < 5) fun d a b => ⟨a, b⟩
    have a2 := ok_draw hds (2 + 3 * k) (k2 k (by omega)) (Q := fun d => 0 ≤ d ∧ d < 8) fun d a b => ⟨a, b⟩
    have a3 := ok_draw hds (3 + 3 * k) (k3 k (by omega)) (Q := fun d => 0 ≤ d ∧ d < 4) fun d a b => ⟨a, b⟩
    rw [show ((1 + 3 * k : Nat) : Int) = 1 + 3 * (k : Int) by omega] at a1
    rw [show ((2 + 3 * k : Nat) : Int) = 2 + 3 * (k : Int) by omega] at a2
    rw [show ((3 + 3 * k : Nat) : Int) = 3 + 3 * (k : Int) by omega] at a3
    exact ok_bnd a1 fun a ha => ok_bnd a2 fun b hb => ok_bnd a3 fun c hc => ok_ret ((seat_ok hb.1 hb.2 hc.1 hc.2 ht hg).imp fun s ⟨h1, h2⟩ => ⟨h1, fun x hx => (h2 x hx).1⟩)
  · rw [rng_len_nn d0] at y1
    refine ok_chk (by omega) (ok_some ⟨by omega, fun p hp => ?_⟩)
    obtain ⟨i, hi⟩ := List.mem_iff_getElem?.mp hp
    obtain ⟨_, _, h⟩ := y2 i p hi
    exact h
theorem row_ok {cell : Int} {ps : List (Str × Tu Str)} {ss : List (Tu Str)} (hp : ps.length ≤ 8) (hs : ss.length ≤ 5) : Ok (m_l_row cell ps ss) (fun r => r.length ≤ 1000) := by
  unfold m_l_row
  have hz := szl
  have e : repl 6 [(ps.length : Int) + 2] = List.replicate 6 ((ps.length : Int) + 2) := repl_one _ _
  rw [e]
  refine ok_chk ⟨by decide, by decide, by show 1 * 6 ≤ _; omega⟩ (ok_chk (by show 2 + 6 ≤ _; omega) (ok_bnd (draws_ok (fun n hn => ?_) (by show 8 ≤ 1000; omega)) fun ds hds => ok_lt fun ds' h => ?_))
  · rcases List.mem_append.mp hn with h | h
    · simp only [List.mem_cons, List.not_mem_nil, or_false] at h
      omega
    · have := (List.mem_replicate.mp h).2
      omega
  subst h
  have hdl : ds'.length = 8 := hds.1
  have hcl := cut_len_le ds'
  refine ok_bnd (ok_draw hds 0 rfl (Q := fun d => 0 ≤ d ∧ d < 4) fun d a b => ⟨a, b⟩) fun d ⟨d0, d1⟩ => ok_bnd (P := fun _ => True) (ok_atI d0 (by simp; omega) fun _ _ => trivial) fun z _ => ok_lt fun many hm => ?_
  have hc2 := hcl (some 2) (some (2 + many))
  refine ok_chk (by rw [List.length_map]; omega) (ok_lt fun row hrow => ok_bnd (ok_draw hds 1 rfl (Q := fun _ => True) fun _ _ _ => trivial) fun f _ => ok_bnd (P := fun r => r.length ≤ 1000) (ok_ite (fun hcond => ?_) (fun _ => ok_some ?_)) fun r hr => ok_some hr)
  · rw [Bool.and_eq_true, Bool.not_eq_true', decide_eq_false_iff_not] at hcond
    have hpos : 0 < row.length := List.length_pos_iff.mpr hcond.2
    refine ok_bnd (P := fun _ => True) (ok_atI (by omega) (by simp; omega) fun _ _ => trivial) fun v _ => ok_bnd (P := fun _ => True) ⟨0, ?_, trivial⟩ fun j _ => ok_lt fun r hr => ok_some ?_
    · unfold ixN
      rw [if_pos (Int.le_refl 0), if_pos (by omega)]
      rfl
    · rw [hr, List.length_set, hrow, List.length_map]; omega
  · rw [hrow, List.length_map]; omega
theorem first_ok {ps : List (Str × Tu Str)} {ss : List (Tu Str)} (hp : ps.length ≤ 8) (hs : ss.length ≤ 5) (hg : ∀ s ∈ ss, s.l.length ≤ 4 ∧ ∀ x ∈ s.l, txt x) : Ok (m_l_first_row ps ss) (fun r => r.length ≤ 1000) := by
  unfold m_l_first_row
  have hz := szl
  refine ok_lt fun r0 hr0 => ok_bnd (P := fun r => r.length ≤ 1000) (ok_foldO (fun i b => b.length ≤ i) (by rw [hr0]; exact Nat.le_refl _) ?_ (fun b hb => by omega)) fun b hb => ok_some hb
  intro i b s hsi hb
  have hsm := List.mem_of_getElem? hsi
  have hi := (List.getElem?_eq_some_iff.mp hsi).1
  obtain ⟨g1, g2⟩ := hg s hsm
  have hfl := List.length_filter_le (fun x : Int => !decide (x ∈ b)) (rng 0 (ps.length : Int))
  rw [rng_len] at hfl
  refine ok_chk ⟨by omega, by omega⟩ (ok_chk (by rw [List.length_map]; omega) (ok_lt fun fr hfr => ?_))
  have hfrl : fr.length ≤ 8 := by rw [hfr, List.length_map]; omega
  refine ok_bnd (ok_compO (T := fun k => match atI ps k with
    | some p => decide (s.l.filter (fun x => !decide (x ∈ p.2.l)) = [])
    | none => false) (P := fun _ _ => True) (fun k hk => ?_) (fun k _ _ => ok_some trivial)) fun ys ⟨y1, _⟩ => ?_
  · rw [hfr, List.map_id'] at hk
    obtain ⟨k0, k1⟩ := mem_rng.mp (List.mem_filter.mp hk).1
    obtain ⟨p, hpk, _, _⟩ := at_in k0 k1
    have hfl2 := List.length_filter_le (fun x => !decide (x ∈ p.2.l)) s.l
    have hc := compO_eq (xs := s.l) (t := fun x1 : Str => bnd (atI ps k) fun a2 => some (!decide (x1 ∈ a2.2.l))) (f := fun x : Str => some x) (T := fun x => !decide (x ∈ p.2.l)) (g := fun x => x) (fun x _ => by rw [hpk]; rfl) (fun x _ _ => rfl)
    rw [hc]
    refine ok_bnd (P := fun y => y = (s.l.filter (fun x => !decide (x ∈ p.2.l))).map fun x => x) (ok_some rfl) fun y hy => ?_
    rw [List.map_id'] at hy
    rw [hy, hpk]
    exact ok_chk (by omega) (ok_chk (shp_strs fun x hx => g2 x (List.mem_filter.mp hx).1) (ok_chk (shp_strs fun x hx => by simp at hx) (ok_some rfl)))
  · have h5 := List.length_filter_le (fun k => match atI ps k with
      | some p => decide (s.l.filter (fun x => !decide (x ∈ p.2.l)) = [])
      | none => false) fr
    have h6 : (cut ys none (some 1)).length ≤ 1 := by
      have := cut_hi ys 1
      rw [show ((1 : Nat) : Int) = 1 by rfl] at this
      rw [this, List.length_take]; omega
    refine ok_chk (by omega) (ok_lt fun sm hsm2 => ?_)
    subst hsm2
    refine ok_chk (by omega) (ok_lt fun r hr => ok_some ?_)
    rw [hr, List.length_append]; omega
theorem lay_strs {xs : List Str} (h : ∀ x ∈ xs, txt x) : PyData.canLayAll0 (xs.map PyData.str) = true ∧ PyData.depthAll (xs.map PyData.str) = 0 := by
  induction xs with
  | nil => simp [PyData.canLayAll0, PyData.depthAll]
  | cons x r ih =>
    obtain ⟨i1, i2⟩ := ih fun y hy => h y (List.mem_cons_of_mem _ hy)
    rw [List.map_cons]
    have hx : PyData.strOk x = true := h x List.mem_cons_self
    refine ⟨?_, ?_⟩
    · unfold PyData.canLayAll0 PyData.canLay0
      rw [i1, hx]; rfl
    · unfold PyData.depthAll
      rw [i2]; simp [PyData.depth]
theorem lay_all {α : Type} [EqD α] {n : Nat} : ∀ {xs : List α}, (∀ x ∈ xs, PyData.canLay0 (EqD.toD x) = true ∧ PyData.depth (EqD.toD x) ≤ n) → PyData.canLayAll0 (xs.map EqD.toD) = true ∧ PyData.depthAll (xs.map EqD.toD) ≤ n
  | [], _ => by simp [PyData.canLayAll0, PyData.depthAll]
  | x :: r, h => by
    obtain ⟨i1, i2⟩ := lay_all fun y hy => h y (List.mem_cons_of_mem _ hy)
    obtain ⟨j1, j2⟩ := h x List.mem_cons_self
    rw [List.map_cons]
    refine ⟨?_, ?_⟩
    · unfold PyData.canLayAll0
      rw [i1, j1]; rfl
    · unfold PyData.depthAll
      omega
theorem law_true : ∀ ns : List Int, ns.length ≤ 63 → a_law (ns, ()) = some true := by
  intro ns hn
  refine Ok.eq ?_
  show Ok (m_law ns) _
  unfold m_law
  have hz := szl
  have hcl := cut_len_le ns (some 3) (some 33)
  refine ok_bnd (cell_ok ns (by decide)) fun c0 _ => ok_bnd (draws_ok (by decide) (by decide)) fun ds hds => ok_lt fun ds' h => ?_
  subst h
  refine ok_bnd (ok_draw hds 0 rfl (Q := fun d => 0 ≤ d ∧ d < 3) fun d a b => ⟨a, b⟩) fun d0 _ => ok_bnd (tools_ok d0) fun ts ⟨ht1, ht2⟩ => ok_lt fun ts' h => ?_
  subst h
  refine ok_bnd (cell_ok ns (by decide)) fun c1 _ => ok_bnd (ok_draw hds 1 rfl (Q := fun d => 0 ≤ d ∧ d < 3) fun d a b => ⟨a, b⟩) fun d1 hd1 => ok_bnd (players_ok c1 hd1.1 hd1.2 ht1 ht2) fun ps ⟨hp1, hp2⟩ => ok_lt fun ps' h => ?_
  subst h
  refine ok_bnd (cell_ok ns (by decide)) fun c2 _ => ok_bnd (seats_ok c2 ht1 ht2) fun ss ⟨hs1, hs2⟩ => ok_lt fun ss' h => ok_lt fun kept hk => ?_
  subst h
  refine ok_bnd (ok_mapO (P := fun _ r => r.length ≤ 1000) fun x _ => ok_ret (row_ok hp1 hs1)) fun rows ⟨r1, r2⟩ => ok_chk (by omega) (ok_lt fun rows' h => ?_)
  subst h
  have hrows : ∀ r ∈ rows', r.length ≤ 1000 := fun r hr => by
    obtain ⟨i, hi⟩ := List.mem_iff_getElem?.mp hr
    obtain ⟨_, _, h⟩ := r2 i r hi
    exact h
  refine ok_bnd (first_ok hp1 hs1 hs2) fun fr hfr => ok_chk ⟨by omega, by omega⟩ (ok_chk (by show 2 + _ ≤ _; omega) (ok_bnd (P := fun q => q = .nx ()) (foldF_ok (fun row hrow => ?_) rfl) fun q hq => ?_))
  · have hl : row.length ≤ 1000 := by
      rcases List.mem_append.mp hrow with h | h
      · simp only [List.mem_cons, List.not_mem_nil, or_false] at h
        rcases h with rfl | rfl
        · exact hfr
        · rw [rng_len]; omega
      · exact hrows row h
    refine ok_lt fun handed hh => ?_
    subst hh
    rw [seating_eq hl, right_eq hl hs2]
    refine ok_bnd (P := fun y => y = _) (ok_some rfl) fun y hy => ok_lt fun found hf => ?_
    subst hf hy
    refine ok_bnd (P := fun c => c = false) (ok_orO (fun _ => ok_bnd (P := fun z => z = _) (ok_some rfl) fun z hz2 => ?_) (fun h => Bool.noConfusion h)) fun c hc => by subst hc; exact ok_some rfl
    subst hz2
    rw [decide_eq_true rfl]
    exact ok_some (by rw [decide_eq_true rfl]; rfl)
  · subst hq hk
    rw [go_nx]
    have hsh : shp (⟨ps', ss'⟩ : HL2 (List (Str × Tu Str)) (List (Tu Str))) := by
      have hp3 : ∀ p ∈ ps', PyData.canLay0 (EqD.toD p) = true ∧ PyData.depth (EqD.toD p) ≤ 2 := fun p hp => by
        obtain ⟨_, t1, t2⟩ := hp2 p hp
        obtain ⟨l1, l2⟩ := lay_strs t2
        show PyData.canLay0 (.tuple [.str p.1, .tuple (p.2.l.map PyData.str)]) = true ∧ PyData.depth (.tuple [.str p.1, .tuple (p.2.l.map PyData.str)]) ≤ 2
        have t1 : PyData.strOk p.1 = true := t1
        refine ⟨by simp [PyData.canLay0, PyData.canLayAll0, l1, t1], by simp [PyData.depth, PyData.depthAll, l2]⟩
      have hs3 : ∀ s ∈ ss', PyData.canLay0 (EqD.toD s) = true ∧ PyData.depth (EqD.toD s) ≤ 2 := fun s hs => by
        obtain ⟨l1, l2⟩ := lay_strs (hs2 s hs).2
        show PyData.canLay0 (.tuple (s.l.map PyData.str)) = true ∧ PyData.depth (.tuple (s.l.map PyData.str)) ≤ 2
        refine ⟨by simp [PyData.canLay0, l1], by simp [PyData.depth, l2]⟩
      obtain ⟨p1, p2⟩ := lay_all hp3
      obtain ⟨s1, s2⟩ := lay_all hs3
      unfold shp SeqAt.shaped
      show (PyData.canLay0 (.list [.list (ps'.map EqD.toD), .list (ss'.map EqD.toD)]) && decide (PyData.depth (.list [.list (ps'.map EqD.toD), .list (ss'.map EqD.toD)]) ≤ 64)) = true
      rw [Bool.and_eq_true, decide_eq_true_iff]
      refine ⟨by simp [PyData.canLay0, PyData.canLayAll0, p1, s1], by simp only [PyData.depth, PyData.depthAll]; omega⟩
    exact ok_chk hsh (ok_chk hsh (ok_some (decide_eq_true rfl)))

end K31

open PySem PySem.W PySem.Calls PyProof.Rows
set_option maxHeartbeats 0 in
theorem PySem.Challenge.cw_deskpairs_k31_is_seating_holds : PySem.Challenge.rw_deskpairs_k31_is_seating.Holds := by
  w_on; o_law
  refine HandSHeadRun.head_any (r := OpenLaw.row PySem.Challenge.rw_deskpairs_k31_is_seating) (q := view (OpenLaw.row PySem.Challenge.rw_deskpairs_k31_is_seating).prog [15]) (H := K31.hk) (ob := K31.ob) (M := 1040) (loose := K31.loose) (d := HandSHeadRun.topDef (OpenLaw.row PySem.Challenge.rw_deskpairs_k31_is_seating).prog 15) (kwd := []) K31.ob_eq
    (by kernel_rfl) (fun s => by kernel_rfl) K31.run (by kernel_rfl) (by kernel_rfl) (by kernel_rfl) (by rfl) (by first | assumption | decide +kernel) (by decide +kernel) ⟨rfl, rfl, rfl, rfl, rfl, by decide +kernel⟩ ?hw ?hc
  case hw => w_witness2
  case hc =>
    refine L2.walk_ofE (l := PySem.Challenge.rw_deskpairs_k31_is_seating) (n := 63) (k := 4) (x := "_law_script") (CX := L2.CX0) rfl (by decide) (by kernel_rfl) ⟨rfl, by decide, by decide⟩ ?F (fun _ _ _ _ z => z)
    intro w mg fa h Y G hmg0
    obtain ⟨K, KX, c⟩ := Y
    have hmg : mg ("law" : PySem.Str) = some (.ref fa) := by
      have e : (HandSHeadRun.topDef (OpenLaw.row PySem.Challenge.rw_deskpairs_k31_is_seating).prog 15).name = ("law" : PySem.Str) := by kernel_rfl
      rw [← e]
      exact hmg0
    obtain ⟨fd, hb, hF⟩ := K31.facts (P := (PySem.Challenge.rw_deskpairs_k31_is_seating).prog) (w := w) KX G hmg c
    exact ⟨K, fd, Dy.spLaw K, KX, hb, fun H a ns hl _ hS => ⟨a, ns, rfl, hS, hl, fun _ => rfl⟩, fun base h1 h2 => Dy.law_of (hF base h1 h2) K31.law_true⟩

