import PyProof.Rows.All
import Wide.All
import OpenK.AllK
import Wide.FinOn
import HandS.ForMost
import HandS.Codes
import HandS.Wide
import HandS.SortInts
import HandS.Conv
import HandS.IsInst
import HandS.Defaults
import HandS.Head0
import HandS.Head1
import HandS.Head2
import HandS.HeadEnd
import HandS.HeadHook1
import HandS.HeadHook2
import HandS.Zip
import HandS.Exc
import HandS.TryOnly
import HandS.ExcOwn
import HandS.WordsExc
import HandS.ExcInit
import HandS.ExcIs
import HandS.ExcField
import HandS.Style
import HandS.TupAny
import HandS.More
import HandS.Replace
import PySem.Challenge.RW_deskpairs_k02_numbers
set_option Elab.async false
set_option linter.all false
set_option maxRecDepth 100000
namespace Dy
open PySem PySem.Spec PyProof.Rows L2

structure S where
  F : Hp
  H : Hp
  sub : ∀ a o, F a = some o → H a = some o
abbrev Fle (F F' : Hp) : Prop := ∀ a o, F a = some o → F' a = some o
theorem Fle.refl (F : Hp) : Fle F F := fun _ _ h => h
theorem Fle.trans {F G I : Hp} (a : Fle F G) (b : Fle G I) : Fle F I := fun x o h => b x o (a x o h)
structure Ex (s t : S) : Prop where
  f : Fle s.F t.F
  h : ∀ a o, s.H a = some o → t.H a = some o
  n : ∀ a o, s.H a = some o → s.F a = none → t.F a = none
theorem Ex.refl (s : S) : Ex s s := ⟨fun _ _ h => h, fun _ _ h => h, fun _ _ _ h => h⟩
theorem Ex.trans {s t u : S} (a : Ex s t) (b : Ex t u) : Ex s u :=
  ⟨fun x o h => b.f x o (a.f x o h), fun x o h => b.h x o (a.h x o h), fun x o h n => b.n x o (a.h x o h) (a.n x o h n)⟩
theorem fr_back {s t : S} (e : Ex s t) {p : Addr} (h : t.H p = none) : s.H p = none := by
  cases q : s.H p with
  | none => rfl
  | some o => rw [e.h p o q] at h; cases h
theorem fF {s : S} {p : Addr} (h : s.H p = none) : s.F p = none := by
  cases q : s.F p with
  | none => rfl
  | some o => rw [s.sub p o q] at h; cases h
def S.newF (s : S) (p : Addr) (o : HO) (h : s.H p = none) : S := ⟨upd s.F p o, upd s.H p o, fun a u q => by
  unfold upd at q ⊢
  split
  · rename_i e; rw [if_pos e] at q; exact q
  · rename_i e; rw [if_neg e] at q; exact s.sub a u q⟩
def S.newO (s : S) (p : Addr) (o : HO) (h : s.H p = none) : S := ⟨s.F, upd s.H p o, fun a u q => by
  rw [upd_ne (ne_of_none (s.sub a u q) h)]; exact s.sub a u q⟩
def S.put (s : S) (p : Addr) (o : HO) (h : s.F p = none) : S := ⟨s.F, upd s.H p o, fun a u q => by
  rw [upd_ne (ne_of_none q h)]; exact s.sub a u q⟩
theorem Ex.newF {s : S} {p : Addr} {o : HO} (h : s.H p = none) : Ex s (s.newF p o h) :=
  ⟨fun a u q => by show upd s.F p o a = some u; rw [upd_ne (ne_of_none (s.sub a u q) h)]; exact q,
   fun a u q => by show upd s.H p o a = some u; rw [upd_ne (ne_of_none q h)]; exact q,
   fun a u q n => by show upd s.F p o a = none; rw [upd_ne (ne_of_none q h)]; exact n⟩
theorem Ex.newO {s : S} {p : Addr} {o : HO} (h : s.H p = none) : Ex s (s.newO p o h) :=
  ⟨fun a u q => q, fun a u q => by show upd s.H p o a = some u; rw [upd_ne (ne_of_none q h)]; exact q, fun a u q n => n⟩
structure Mx (P : Addr → Prop) (s t : S) : Prop where
  f : Fle s.F t.F
  h : ∀ a o, s.H a = some o → ¬ P a → t.H a = some o
  n : ∀ a o, s.H a = some o → s.F a = none → t.F a = none
  d : ∀ a o, s.H a = some o → ∃ u, t.H a = some u
theorem Ex.mx {P : Addr → Prop} {s t : S} (e : Ex s t) : Mx P s t := ⟨e.f, fun a o h _ => e.h a o h, e.n, fun a o h => ⟨o, e.h a o h⟩⟩
theorem Mx.trans {P : Addr → Prop} {s t u : S} (a : Mx P s t) (b : Mx P t u) : Mx P s u :=
  ⟨fun x o h => b.f x o (a.f x o h), fun x o h n => b.h x o (a.h x o h n) n,
   fun x o h n => by obtain ⟨v, hv⟩ := a.d x o h; exact b.n x v hv (a.n x o h n),
   fun x o h => by obtain ⟨v, hv⟩ := a.d x o h; exact b.d x v hv⟩
theorem Mx.put {s : S} {p : Addr} {o : HO} (h : s.F p = none) : Mx (· = p) s (s.put p o h) :=
  ⟨fun a u q => q, fun a u q n => by show upd s.H p o a = some u; rw [upd_ne n]; exact q, fun a u q n => n,
   fun a u q => by
    by_cases e : a = p
    · exact ⟨o, by rw [e]; exact upd_same⟩
    · exact ⟨u, by show upd s.H p o a = some u; rw [upd_ne e]; exact q⟩⟩
theorem Mx.fr_back {P : Addr → Prop} {s t : S} (e : Mx P s t) {p : Addr} (h : t.H p = none) : s.H p = none := by
  cases q : s.H p with
  | none => rfl
  | some o => obtain ⟨u, z⟩ := e.d p o q; rw [z] at h; cases h
theorem Ex.mu {s t u : S} {P : Addr → Prop} (a : Ex s t) (b : Mx P t u) (h : ∀ p, P p → s.H p = none) : Ex s u :=
  ⟨fun x o q => b.f x o (a.f x o q), fun x o q => b.h x o (a.h x o q) fun z => (by rw [h x z] at q; cases q), fun x o q n => b.n x o (a.h x o q) (a.n x o q n)⟩
theorem Ex.mu1 {s t u : S} {p : Addr} (a : Ex s t) (b : Mx (· = p) t u) (h : s.H p = none) : Ex s u := a.mu b fun _ e => e ▸ h

class Enc (α : Type) where
  rep : PySem.W.Frag → Hp → V → α → Prop
  mono : ∀ {K : PySem.W.Frag} {F F' : Hp} {v : V} {x : α}, Fle F F' → rep K F v x → rep K F' v x
open Enc (rep)
def Reps {α : Type} [Enc α] (K : PySem.W.Frag) (F : Hp) : List V → List α → Prop
  | [], [] => True
  | v :: vs, x :: xs => rep K F v x ∧ Reps K F vs xs
  | _, _ => False
section
variable {α β : Type} [Enc α] [Enc β] {K : PySem.W.Frag} {F F' : Hp}
theorem Reps.mono (e : Fle F F') : ∀ {vs : List V} {xs : List α}, Reps K F vs xs → Reps K F' vs xs
  | [], [], _ => trivial
  | _ :: _, _ :: _, ⟨h, t⟩ => ⟨Enc.mono e h, Reps.mono e t⟩
  | [], _ :: _, h => h.elim
  | _ :: _, [], h => h.elim
theorem Reps.len : ∀ {vs : List V} {xs : List α}, Reps K F vs xs → vs.length = xs.length
  | [], [], _ => rfl
  | _ :: _, _ :: _, ⟨_, t⟩ => congrArg (· + 1) (Reps.len t)
  | [], _ :: _, h => h.elim
  | _ :: _, [], h => h.elim
theorem Reps.get : ∀ {vs : List V} {xs : List α} {i : Nat} {x : α}, Reps K F vs xs → xs[i]? = some x → ∃ v, vs[i]? = some v ∧ rep K F v x
  | [], [], _, _, _, e => by simp at e
  | v :: _, y :: _, 0, x, ⟨h, _⟩, e => by
    have : y = x := Option.some.inj e
    subst this
    exact ⟨v, rfl, h⟩
  | _ :: vs, _ :: xs, i + 1, x, ⟨_, t⟩, e => by
    obtain ⟨v, h1, h2⟩ := Reps.get (i := i) t (by simpa using e)
    exact ⟨v, by simpa using h1, h2⟩
  | [], _ :: _, _, _, h, _ => h.elim
  | _ :: _, [], _, _, h, _ => h.elim
theorem Reps.get' : ∀ {vs : List V} {xs : List α} {i : Nat} {v : V}, Reps K F vs xs → vs[i]? = some v → ∃ x, xs[i]? = some x ∧ rep K F v x
  | [], [], _, _, _, e => by simp at e
  | v :: _, y :: _, 0, w, ⟨h, _⟩, e => by
    have : v = w := Option.some.inj e
    subst this
    exact ⟨y, rfl, h⟩
  | _ :: vs, _ :: xs, i + 1, w, ⟨_, t⟩, e => by
    obtain ⟨x, h1, h2⟩ := Reps.get' (i := i) t (by simpa using e)
    exact ⟨x, by simpa using h1, h2⟩
  | [], _ :: _, _, _, h, _ => h.elim
  | _ :: _, [], _, _, h, _ => h.elim
theorem Reps.app : ∀ {vs ws : List V} {xs ys : List α}, Reps K F vs xs → Reps K F ws ys → Reps K F (vs ++ ws) (xs ++ ys)
  | [], _, [], _, _, t => t
  | _ :: _, _, _ :: _, _, ⟨h, t⟩, u => ⟨h, Reps.app t u⟩
  | [], _, _ :: _, _, h, _ => h.elim
  | _ :: _, _, [], _, h, _ => h.elim
theorem Reps.snoc {vs : List V} {xs : List α} {v : V} {x : α} (h : Reps K F vs xs) (r : rep K F v x) : Reps K F (vs ++ [v]) (xs ++ [x]) := h.app ⟨r, trivial⟩
theorem Reps.take : ∀ {vs : List V} {xs : List α} (n : Nat), Reps K F vs xs → Reps K F (vs.take n) (xs.take n)
  | _, _, 0, _ => by rw [List.take_zero, List.take_zero]; trivial
  | [], [], _ + 1, _ => trivial
  | _ :: _, _ :: _, n + 1, ⟨h, t⟩ => ⟨h, Reps.take n t⟩
  | [], _ :: _, _ + 1, h => h.elim
  | _ :: _, [], _ + 1, h => h.elim
theorem Reps.drop : ∀ {vs : List V} {xs : List α} (n : Nat), Reps K F vs xs → Reps K F (vs.drop n) (xs.drop n)
  | _, _, 0, h => h
  | [], [], _ + 1, _ => trivial
  | _ :: _, _ :: _, n + 1, ⟨_, t⟩ => Reps.drop n t
  | [], _ :: _, _ + 1, h => h.elim
  | _ :: _, [], _ + 1, h => h.elim
theorem Reps.set : ∀ {vs : List V} {xs : List α} {v : V} {x : α} (i : Nat), Reps K F vs xs → rep K F v x → Reps K F (vs.set i v) (xs.set i x)
  | [], [], _, _, _, _, _ => trivial
  | _ :: _, _ :: _, _, _, 0, ⟨_, t⟩, r => ⟨r, t⟩
  | _ :: _, _ :: _, _, _, i + 1, ⟨h, t⟩, r => ⟨h, Reps.set i t r⟩
  | [], _ :: _, _, _, _, h, _ => h.elim
  | _ :: _, [], _, _, _, h, _ => h.elim
theorem Reps.erase : ∀ {vs : List V} {xs : List α} (i : Nat), Reps K F vs xs → Reps K F (vs.eraseIdx i) (xs.eraseIdx i)
  | [], [], _, _ => trivial
  | _ :: _, _ :: _, 0, ⟨_, t⟩ => t
  | _ :: _, _ :: _, i + 1, ⟨h, t⟩ => ⟨h, Reps.erase i t⟩
  | [], _ :: _, _, h => h.elim
  | _ :: _, [], _, h => h.elim
theorem Reps.rev : ∀ {vs : List V} {xs : List α}, Reps K F vs xs → Reps K F vs.reverse xs.reverse
  | [], [], _ => trivial
  | _ :: _, _ :: _, ⟨h, t⟩ => by rw [List.reverse_cons, List.reverse_cons]; exact (Reps.rev t).snoc h
  | [], _ :: _, h => h.elim
  | _ :: _, [], h => h.elim
theorem Reps.mem : ∀ {vs : List V} {xs : List α} {x : α}, Reps K F vs xs → x ∈ xs → ∃ v, v ∈ vs ∧ rep K F v x
  | v :: _, y :: _, x, ⟨h, t⟩, e => by
    rcases List.mem_cons.mp e with rfl | e
    · exact ⟨v, List.mem_cons_self, h⟩
    · obtain ⟨w, a, b⟩ := Reps.mem t e
      exact ⟨w, List.mem_cons_of_mem _ a, b⟩
  | [], _ :: _, _, h, _ => h.elim
theorem Reps.repl {v : V} {x : α} (r : rep K F v x) : ∀ n : Nat, Reps K F (List.replicate n v) (List.replicate n x)
  | 0 => trivial
  | n + 1 => ⟨r, Reps.repl r n⟩
end
instance : Enc Int := ⟨fun _ _ v x => v = .int x, fun _ h => h⟩
instance : Enc Bool := ⟨fun _ _ v x => v = .bl x, fun _ h => h⟩
instance : Enc Str := ⟨fun _ _ v x => v = .str x, fun _ h => h⟩
instance : Enc Unit := ⟨fun _ _ v _ => v = .non, fun _ h => h⟩
class Opn (α : Type) extends Enc α where
  notNon : ∀ {K : PySem.W.Frag} {F : Hp} {x : α}, ¬ rep K F .non x
instance : Opn Int := ⟨fun {K F x} h => nomatch (show V.non = V.int x from h)⟩
instance : Opn Str := ⟨fun {K F x} h => nomatch (show V.non = V.str x from h)⟩
instance : Opn Bool := ⟨fun {K F x} h => nomatch (show V.non = V.bl x from h)⟩
instance {α : Type} [Enc α] : Enc (Option α) := ⟨fun K F v x => match x with | none => v = .non | some y => rep K F v y, fun {K F F' v x} e h => by
  cases x with
  | none => exact h
  | some y => exact Enc.mono (α := α) e h⟩
theorem sql_mono {K : PySem.W.Frag} {F F' : Hp} {a : Addr} {vs : List V} (e : Fle F F') (h : SqL K F a vs) : SqL K F' a vs := by
  rcases h with (h | ⟨o, h⟩) | h
  · exact .inl (.inl (e _ _ h))
  · exact .inl (.inr ⟨o, e _ _ h⟩)
  · exact .inr h
theorem sqt_mono {K : PySem.W.Frag} {F F' : Hp} {a : Addr} {vs : List V} (e : Fle F F') (h : SqT K F a vs) : SqT K F' a vs := by
  rcases h with (h | ⟨o, h⟩) | h
  · exact .inl (.inl (e _ _ h))
  · exact .inl (.inr ⟨o, e _ _ h⟩)
  · exact .inr h
def RepL {α : Type} [Enc α] (K : PySem.W.Frag) (F : Hp) (v : V) (xs : List α) : Prop := ∃ a vs, v = .ref a ∧ SqL K F a vs ∧ Reps K F vs xs
instance {α : Type} [Enc α] : Enc (List α) := ⟨RepL, fun e h => by
  obtain ⟨a, vs, rfl, h1, h2⟩ := h
  exact ⟨a, vs, rfl, sql_mono e h1, h2.mono e⟩⟩
structure T1 (α : Type) where
  a : α
deriving DecidableEq
structure T3 (α β γ : Type) where
  a : α
  b : β
  c : γ
deriving DecidableEq
structure T4 (α β γ δ : Type) where
  a : α
  b : β
  c : γ
  d : δ
deriving DecidableEq
structure T5 (α β γ δ ε : Type) where
  a : α
  b : β
  c : γ
  d : δ
  e : ε
deriving DecidableEq
structure Tu (α : Type) where
  l : List α
deriving DecidableEq
instance {α β : Type} [Enc α] [Enc β] : Enc (α × β) := ⟨fun K F v x => ∃ p v1 v2, v = .ref p ∧ SqT K F p [v1, v2] ∧ rep K F v1 x.1 ∧ rep K F v2 x.2, fun e h => by
  obtain ⟨p, v1, v2, rfl, h0, h1, h2⟩ := h
  exact ⟨p, v1, v2, rfl, sqt_mono e h0, Enc.mono e h1, Enc.mono e h2⟩⟩
instance {α : Type} [Enc α] : Enc (T1 α) := ⟨fun K F v x => ∃ p v1, v = .ref p ∧ SqT K F p [v1] ∧ rep K F v1 x.a, fun e h => by
  obtain ⟨p, v1, rfl, h0, h1⟩ := h
  exact ⟨p, v1, rfl, sqt_mono e h0, Enc.mono e h1⟩⟩
instance {α β γ : Type} [Enc α] [Enc β] [Enc γ] : Enc (T3 α β γ) := ⟨fun K F v x => ∃ p v1 v2 v3, v = .ref p ∧ SqT K F p [v1, v2, v3] ∧ rep K F v1 x.a ∧ rep K F v2 x.b ∧ rep K F v3 x.c, fun e h => by
  obtain ⟨p, v1, v2, v3, rfl, h0, h1, h2, h3⟩ := h
  exact ⟨p, v1, v2, v3, rfl, sqt_mono e h0, Enc.mono e h1, Enc.mono e h2, Enc.mono e h3⟩⟩
instance {α β γ δ : Type} [Enc α] [Enc β] [Enc γ] [Enc δ] : Enc (T4 α β γ δ) := ⟨fun K F v x => ∃ p v1 v2 v3 v4, v = .ref p ∧ SqT K F p [v1, v2, v3, v4] ∧ rep K F v1 x.a ∧ rep K F v2 x.b ∧ rep K F v3 x.c ∧ rep K F v4 x.d, fun e h => by
  obtain ⟨p, v1, v2, v3, v4, rfl, h0, h1, h2, h3, h4⟩ := h
  exact ⟨p, v1, v2, v3, v4, rfl, sqt_mono e h0, Enc.mono e h1, Enc.mono e h2, Enc.mono e h3, Enc.mono e h4⟩⟩
instance {α β γ δ ε : Type} [Enc α] [Enc β] [Enc γ] [Enc δ] [Enc ε] : Enc (T5 α β γ δ ε) := ⟨fun K F v x => ∃ p v1 v2 v3 v4 v5, v = .ref p ∧ SqT K F p [v1, v2, v3, v4, v5] ∧ rep K F v1 x.a ∧ rep K F v2 x.b ∧ rep K F v3 x.c ∧ rep K F v4 x.d ∧ rep K F v5 x.e, fun e h => by
  obtain ⟨p, v1, v2, v3, v4, v5, rfl, h0, h1, h2, h3, h4, h5⟩ := h
  exact ⟨p, v1, v2, v3, v4, v5, rfl, sqt_mono e h0, Enc.mono e h1, Enc.mono e h2, Enc.mono e h3, Enc.mono e h4, Enc.mono e h5⟩⟩
def RepT {α : Type} [Enc α] (K : PySem.W.Frag) (F : Hp) (v : V) (xs : List α) : Prop := ∃ a vs, v = .ref a ∧ SqT K F a vs ∧ Reps K F vs xs
instance {α : Type} [Enc α] : Enc (Tu α) := ⟨fun K F v x => RepT K F v x.l, fun e h => by
  obtain ⟨a, vs, rfl, h1, h2⟩ := h
  exact ⟨a, vs, rfl, sqt_mono e h1, h2.mono e⟩⟩
instance {α : Type} [Enc α] : Opn (List α) := ⟨fun h => by obtain ⟨_, _, e, _⟩ := h; cases e⟩
instance {α : Type} [Enc α] : Opn (Tu α) := ⟨fun h => by obtain ⟨_, _, e, _⟩ := h; cases e⟩
class Flat (α : Type) extends Enc α where
  toV : α → V
  iff : ∀ {K : PySem.W.Frag} {F : Hp} {v : V} {x : α}, rep K F v x ↔ v = toV x
  flat : ∀ x, flatV (toV x) = true
  inj : ∀ x y, eqV (toV x) (toV y) = true ↔ x = y
open Flat (toV)
instance : Flat Int := ⟨V.int, Iff.rfl, fun _ => rfl, fun x y => by show (x == y) = true ↔ _; simp⟩
instance : Flat Bool := ⟨V.bl, Iff.rfl, fun _ => rfl, fun x y => by show (x == y) = true ↔ _; simp⟩
instance : Flat Str := ⟨V.str, Iff.rfl, fun _ => rfl, fun x y => by show (x == y) = true ↔ _; simp⟩
instance : Flat (Option Int) := ⟨fun x => match x with | none => .non | some i => .int i, fun {K F v x} => by cases x <;> exact Iff.rfl, fun x => by cases x <;> rfl, fun x y => by
  cases x <;> cases y <;> simp [eqV]⟩
instance : Flat (Option Str) := ⟨fun x => match x with | none => .non | some i => .str i, fun {K F v x} => by cases x <;> exact Iff.rfl, fun x => by cases x <;> rfl, fun x y => by
  cases x <;> cases y <;> simp [eqV]⟩
section
variable {α : Type} [Flat α] {K : PySem.W.Frag} {F : Hp}
theorem Reps.flat : ∀ {vs : List V} {xs : List α}, Reps K F vs xs → vs = xs.map toV
  | [], [], _ => rfl
  | _ :: _, _ :: _, ⟨h, t⟩ => by rw [List.map_cons, ← Flat.iff.mp h, ← Reps.flat t]
  | [], _ :: _, h => h.elim
  | _ :: _, [], h => h.elim
theorem Reps.of_flat : ∀ (xs : List α), Reps K F (xs.map toV) xs
  | [] => trivial
  | _ :: xs => ⟨Flat.iff.mpr rfl, Reps.of_flat xs⟩
theorem flat_all (xs : List α) : (xs.map toV).all flatV = true := by
  rw [List.all_eq_true]
  intro v hv
  obtain ⟨x, _, rfl⟩ := List.mem_map.mp hv
  exact Flat.flat x
theorem inV_flat [DecidableEq α] (x : α) (xs : List α) : inV (toV x) (xs.map toV) = decide (x ∈ xs) := by
  rw [Bool.eq_iff_iff, decide_eq_true_eq]
  unfold inV
  rw [List.any_eq_true]
  constructor
  · rintro ⟨v, hv, e⟩
    obtain ⟨y, hy, rfl⟩ := List.mem_map.mp hv
    rw [Flat.inj] at e
    rw [← e]; exact hy
  · intro h
    exact ⟨_, List.mem_map.mpr ⟨x, h, rfl⟩, (Flat.inj x x).mpr rfl⟩
end
end Dy

namespace Dy
open PySem PySem.Spec L2
open PyProof.Rows hiding St
open Enc (rep)
open Flat (toV)

def WE (X : Cx) (e : Expr) : TE := fun σ H Q => ∀ (pins : List (Addr × Obj)) (s : Shared), Inv X pins σ H s → wpAny (model X.prog X.w) X.A (eval e X.env) (EP X pins σ Q) X.xe s
def WT (X : Cx) (e : Expr) : TT := fun σ H Q => ∀ (pins : List (Addr × Obj)) (s : Shared), Inv X pins σ H s → wpAny (model X.prog X.w) X.A (isTrue e X.env (eval e X.env)) (TP X pins σ Q) X.xe s
def WW (X : Cx) (e : Expr) : TT := fun σ H Q => ∀ (whole : Sem Value) (pins : List (Addr × Obj)) (s : Shared), Inv X pins σ H s → wpAny (model X.prog X.w) X.A (isTrue e X.env whole) (TP X pins σ Q) X.xe s
def WA (X : Cx) (es : List Expr) : TA := fun σ H Q => ∀ (pos : Pos) (pins : List (Addr × Obj)) (s : Shared), Inv X pins σ H s → wpAny (model X.prog X.w) X.A (spliced (backTo pos (starEach es X.env))) (AP X pins σ Q) X.xe s
def WSs (X : Cx) (ss : List Stmt) : TS := fun D σ H => ∀ (pins : List (Addr × Obj)) (s : Shared), Inv X pins σ H s → wpAny (model X.prog X.w) X.A (execs ss X.env) (SP X pins D) X.xe s
theorem pe_we {X : Cx} {e : Expr} : PE X e (WE X e) := ⟨fun pins s _ _ _ I h => h pins s I⟩
theorem pt_wt {X : Cx} {e : Expr} : PT X e (WT X e) := ⟨fun pins s _ _ _ I h => h pins s I⟩
theorem pw_ww {X : Cx} {e : Expr} : PW X e (WW X e) := ⟨fun whole pins s _ _ _ I h => h whole pins s I⟩
theorem pa_wa {X : Cx} {es : List Expr} : PA X es (WA X es) := ⟨fun pos pins s _ _ _ I h => h pos pins s I⟩
theorem pss_ws {X : Cx} {ss : List Stmt} : PSs X ss (WSs X ss) := ⟨fun pins s _ _ _ I h => h pins s I⟩
theorem we_of {X : Cx} {e : Expr} {t : TE} {σ : St} {H : Hp} {Q : VK} (h : PE X e t) (q : t σ H Q) : WE X e σ H Q := fun pins s I => h.run pins s σ H Q I q
theorem wt_of {X : Cx} {e : Expr} {t : TT} {σ : St} {H : Hp} {Q : Bool → Hp → Prop} (h : PT X e t) (q : t σ H Q) : WT X e σ H Q := fun pins s I => h.run pins s σ H Q I q
theorem ww_of {X : Cx} {e : Expr} {t : TT} {σ : St} {H : Hp} {Q : Bool → Hp → Prop} (h : PW X e t) (q : t σ H Q) : WW X e σ H Q := fun w pins s I => h.run w pins s σ H Q I q
theorem wa_of {X : Cx} {es : List Expr} {t : TA} {σ : St} {H : Hp} {Q : List V → Hp → Prop} (h : PA X es t) (q : t σ H Q) : WA X es σ H Q := fun pos pins s I => h.run pos pins s σ H Q I q
theorem ws_of {X : Cx} {ss : List Stmt} {t : TS} {D : Ends} {σ : St} {H : Hp} (h : PSs X ss t) (q : t D σ H) : WSs X ss D σ H := fun pins s I => h.run pins s σ H D I q
theorem WSs.imp {X : Cx} {ss : List Stmt} {D D' : Ends} {σ : St} {H : Hp} (h : WSs X ss D σ H) (h1 : ∀ σ H, D.nx σ H → D'.nx σ H) (h2 : ∀ v H, D.rt v H → D'.rt v H) (h3 : ∀ σ H, D.bk σ H → D'.bk σ H) (h4 : ∀ σ H, D.ct σ H → D'.ct σ H) : WSs X ss D' σ H := fun pins s I => thn (h pins s I) fun f s1 q => by
  cases f with
  | next => obtain ⟨a, b, c, d⟩ := q; exact ⟨a, b, c, h1 _ _ d⟩
  | brk => obtain ⟨a, b, c, d⟩ := q; exact ⟨a, b, c, h3 _ _ d⟩
  | cont => obtain ⟨a, b, c, d⟩ := q; exact ⟨a, b, c, h4 _ _ d⟩
  | ret u => obtain ⟨a, b, c, d, e, f⟩ := q; exact ⟨a, b, c, d, e, h2 _ _ f⟩

section
variable {α β γ δ : Type} [Enc α] [Enc β] [Enc γ] [Enc δ]
def Ev (X : Cx) (e : Expr) (σ : St) (s : S) (x : α) : Prop := ∀ s1, Ex s s1 → ∀ Q : VK, (∀ v s2, Ex s1 s2 → rep X.K s2.F v x → Q v s2.H) → WE X e σ s1.H Q
def RepR (K : PySem.W.Frag) (s : S) (v : V) (xs : List α) : Prop := ∃ a vs, v = .ref a ∧ SqL K s.H a vs ∧ Reps K s.F vs xs
def EvR (X : Cx) (e : Expr) (σ : St) (s : S) (xs : List α) : Prop := ∀ s1, Ex s s1 → ∀ Q : VK, (∀ v s2, Ex s1 s2 → RepR X.K s2 v xs → Q v s2.H) → WE X e σ s1.H Q
def Own (K : PySem.W.Frag) (s : S) (p : Addr) (xs : List α) : Prop := s.F p = none ∧ ∃ vs, s.H p = some (.lst vs) ∧ Reps K s.F vs xs
def EvN (X : Cx) (e : Expr) (σ : St) (s : S) (xs : List α) : Prop := ∀ s1, Ex s s1 → ∀ Q : VK, (∀ p s2, Ex s1 s2 → s1.H p = none → Own X.K s2 p xs → Q (.ref p) s2.H) → WE X e σ s1.H Q
def EvT (X : Cx) (e : Expr) (σ : St) (s : S) (b : Bool) : Prop := ∀ s1, Ex s s1 → ∀ Q : Bool → Hp → Prop, (∀ s2, Ex s1 s2 → Q b s2.H) → WT X e σ s1.H Q
def EvW (X : Cx) (e : Expr) (σ : St) (s : S) (b : Bool) : Prop := ∀ s1, Ex s s1 → ∀ Q : Bool → Hp → Prop, (∀ s2, Ex s1 s2 → Q b s2.H) → WW X e σ s1.H Q
structure EvB (X : Cx) (e : Expr) (σ : St) (s : S) (b : Bool) : Prop where
  v : Ev X e σ s b
  t : EvT X e σ s b
structure EvC (X : Cx) (e : Expr) (σ : St) (s : S) (b : Bool) : Prop where
  v : Ev X e σ s b
  w : EvW X e σ s b
end
class EncA (A : Type) where
  repA : PySem.W.Frag → Hp → List V → A → Prop
  monoA : ∀ {K : PySem.W.Frag} {F F' : Hp} {vs : List V} {x : A}, Fle F F' → repA K F vs x → repA K F' vs x
open EncA (repA)
instance : EncA Unit := ⟨fun _ _ vs _ => vs = [], fun _ h => h⟩
instance {α A : Type} [Enc α] [EncA A] : EncA (α × A) := ⟨fun K F vs x => ∃ v r, vs = v :: r ∧ rep K F v x.1 ∧ repA K F r x.2, fun e h => by
  obtain ⟨v, r, rfl, h1, h2⟩ := h
  exact ⟨v, r, rfl, Enc.mono e h1, EncA.monoA e h2⟩⟩
def EvA {A : Type} [EncA A] (X : Cx) (es : List Expr) (σ : St) (s : S) (a : A) : Prop := ∀ s1, Ex s s1 → ∀ Q : List V → Hp → Prop, (∀ vs s2, Ex s1 s2 → repA X.K s2.F vs a → Q vs s2.H) → WA X es σ s1.H Q

section
variable {α β γ δ : Type} [Enc α] [Enc β] [Enc γ] [Enc δ] {X : Cx} {σ : St} {s t : S} {e a b c : Expr} {es : List Expr} {pos p0 p1 p2 p3 : Pos}
theorem Own.frz {K : PySem.W.Frag} {p : Addr} {xs : List α} (h : Own K s p xs) : ∃ s' : S, s'.H = s.H ∧ Fle s.F s'.F ∧ (∀ q, q ≠ p → s'.F q = s.F q) ∧ rep K s'.F (.ref p) xs := by
  obtain ⟨hn, vs, hp, r⟩ := h
  have f : Fle s.F (upd s.F p (.lst vs)) := fun a o q => by rw [upd_ne (ne_of_none q hn)]; exact q
  refine ⟨⟨upd s.F p (.lst vs), s.H, fun a o q => ?_⟩, rfl, f, fun q hq => upd_ne hq, p, vs, rfl, .inl (.inl upd_same), r.mono f⟩
  unfold upd at q
  split at q
  · rename_i e; cases q; rw [e]; exact hp
  · exact s.sub a o q
theorem Own.ex {K : PySem.W.Frag} {p : Addr} {xs : List α} (h : Own K s p xs) (e : Ex s t) : Own K t p xs := by
  obtain ⟨hn, vs, hp, r⟩ := h
  exact ⟨e.n _ _ hp hn, vs, e.h _ _ hp, r.mono e.f⟩
theorem Own.mx {K : PySem.W.Frag} {p : Addr} {P : Addr → Prop} {xs : List α} (h : Own K s p xs) (e : Mx P s t) (n : ¬ P p) : Own K t p xs := by
  obtain ⟨hn, vs, hp, r⟩ := h
  exact ⟨e.n _ _ hp hn, vs, e.h _ _ hp n, r.mono e.f⟩
theorem Own.ne {K : PySem.W.Frag} {p q : Addr} {xs : List α} (h : Own K s p xs) (n : s.H q = none) : p ≠ q := by
  obtain ⟨_, vs, hp, _⟩ := h
  exact ne_of_none hp n
theorem Own.r {K : PySem.W.Frag} {p : Addr} {xs : List α} (h : Own K s p xs) : RepR K s (.ref p) xs := by
  obtain ⟨hn, vs, hp, r⟩ := h
  exact ⟨p, vs, rfl, .inl (.inl hp), r⟩
theorem RepR.ex {K : PySem.W.Frag} {v : V} {xs : List α} (h : RepR K s v xs) (e : Ex s t) : RepR K t v xs := by
  obtain ⟨p, vs, rfl, h1, h2⟩ := h
  exact ⟨p, vs, rfl, sql_mono e.h h1, h2.mono e.f⟩
theorem rep_r {K : PySem.W.Frag} {v : V} {xs : List α} (h : rep K s.F v xs) : RepR K s v xs := by
  obtain ⟨p, vs, rfl, h1, h2⟩ := h
  exact ⟨p, vs, rfl, sql_mono s.sub h1, h2⟩
theorem Ev.mono {x : α} (h : Ev X e σ s x) (k : Ex s t) : Ev X e σ t x := fun s1 k1 Q q => h s1 (k.trans k1) Q q
theorem EvT.mono {x : Bool} (h : EvT X e σ s x) (k : Ex s t) : EvT X e σ t x := fun s1 k1 Q q => h s1 (k.trans k1) Q q
theorem Ev.r {xs : List α} (h : Ev X e σ s xs) : EvR X e σ s xs := fun s1 k Q q => h s1 k Q fun v s2 k2 r => q v s2 k2 (rep_r r)
theorem EvN.r {xs : List α} (h : EvN X e σ s xs) : EvR X e σ s xs := fun s1 k Q q => h s1 k Q fun p s2 k2 _ o => q (.ref p) s2 k2 o.r
theorem frz_ex {K : PySem.W.Frag} {p : Addr} {xs : List α} (k : Ex s t) (n : s.H p = none) (o : Own K t p xs) : ∃ t' : S, t'.H = t.H ∧ Ex s t' ∧ rep K t'.F (.ref p) xs := by
  obtain ⟨t', h1, h2, h3, h4⟩ := o.frz
  refine ⟨t', h1, ⟨k.f.trans h2, fun a u q => by rw [h1]; exact k.h a u q, fun a u q m => ?_⟩, h4⟩
  have : a ≠ p := ne_of_none q n
  rw [h3 a this]
  exact k.n a u q m
theorem EvN.ev {xs : List α} (h : EvN X e σ s xs) : Ev X e σ s xs := fun s1 k Q q => h s1 k Q fun p s2 k2 n o => by
  obtain ⟨t', h1, h2, h3⟩ := frz_ex k2 n o
  rw [← h1]
  exact q _ t' h2 h3
theorem Ev.cast {x y : α} (h : Ev X e σ s x) (k : x = y) : Ev X e σ s y := k ▸ h

theorem ev_var (i : Nat) {v : V} {x : α} {n : Str} (h : σ[i]? = some (some v)) (r : rep X.K s.F v x) (hN : X.N[i]? = some n := by rfl) (hv : Vis X.env.scope n := by first | exact Or.inl rfl | exact Or.inr (Or.inl rfl) | exact Or.inr (Or.inr rfl)) (hd : (n == ("__debug__" : Str)) = false := by decide)
    (hcd : (n == ("__classdict__" : Str)) = false := by decide) : Ev X (.Name n pos) σ s x := fun s1 k Q q => we_of (pe_var hN hv hd hcd) ⟨v, h, q v s1 (Ex.refl _) (Enc.mono k.f r)⟩
theorem ev_varR (i : Nat) {p : Addr} {xs : List α} {n : Str} (h : σ[i]? = some (some (.ref p))) (r : Own X.K s p xs) (hN : X.N[i]? = some n := by rfl) (hv : Vis X.env.scope n := by first | exact Or.inl rfl | exact Or.inr (Or.inl rfl) | exact Or.inr (Or.inr rfl)) (hd : (n == ("__debug__" : Str)) = false := by decide)
    (hcd : (n == ("__classdict__" : Str)) = false := by decide) : EvR X (.Name n pos) σ s xs := fun s1 k Q q => we_of (pe_var hN hv hd hcd) ⟨_, h, q _ s1 (Ex.refl _) (r.ex k).r⟩
theorem ev_int {i : Int} {j} : Ev X (.Constant (.int i) j pos) σ s i := fun s1 k Q q => we_of pe_int (q _ s1 (Ex.refl _) rfl)
theorem ev_bl {i : Bool} {j} : Ev X (.Constant (.bool i) j pos) σ s i := fun s1 k Q q => we_of pe_bl (q _ s1 (Ex.refl _) rfl)
theorem ev_str {i : Str} {j} : Ev X (.Constant (.str i) j pos) σ s i := fun s1 k Q q => we_of pe_str (q _ s1 (Ex.refl _) rfl)
theorem ev_non {j} : Ev X (.Constant .none j pos) σ s () := fun s1 k Q q => we_of pe_non (q _ s1 (Ex.refl _) rfl)
theorem ev_nonO {j} : Ev X (.Constant .none j pos) σ s (none : Option α) := fun s1 k Q q => we_of pe_non (q _ s1 (Ex.refl _) rfl)
theorem ev_some {x : α} (h : Ev X e σ s x) : Ev X e σ s (some x) := h
theorem ev_glob {n : Str} {x : α} (h : ∃ v u, X.mg n = some u ∧ RelV v u ∧ ∀ F, rep X.K F v x) (hg : Gl X n := by rfl) (hd : (n == ("__debug__" : Str)) = false := by decide) : Ev X (.Name n pos) σ s x := fun s1 k Q q => by
  obtain ⟨v, u, h1, h2, h3⟩ := h
  exact we_of (pe_glob hg h1 h2 hd) (q v s1 (Ex.refl _) (h3 _))

theorem ev_op {op : Operator} {r : R2} {x : α} {y : β} {z : γ} (ho : OpR X (binaryOp op) r) (ha : Ev X a σ s x) (hb : Ev X b σ s y)
    (hr : ∀ v u s2, rep X.K s2.F v x → rep X.K s2.F u y → ∀ Q : VK, (∀ v' s3, Ex s2 s3 → rep X.K s3.F v' z → Q v' s3.H) → r v u s2.H Q) : Ev X (.BinOp a op b pos) σ s z := fun s1 k Q q =>
  we_of (pe_op ho pe_we pe_we) (ha s1 k _ fun v s2 k2 r2 => hb s2 (k.trans k2) _ fun u s3 k3 r3 => hr v u s3 (Enc.mono k3.f r2) r3 Q fun w s4 k4 r4 => q w s4 ((k2.trans k3).trans k4) r4)
theorem ev_I0 {op : Operator} {g : Int → Int → V} {x y : Int} {z : γ} (ho : OpR X (binaryOp op) (rI0 g)) (ha : Ev X a σ s x) (hb : Ev X b σ s y) (hz : ∀ K F, rep K F (g x y) z) : Ev X (.BinOp a op b pos) σ s z :=
  ev_op ho ha hb fun v u s2 hv hu Q q => ⟨x, y, hv, hu, q _ s2 (Ex.refl _) (hz _ _)⟩
theorem ev_I {op : Operator} {C : Int → Int → Prop} {g : Int → Int → V} {x y : Int} {z : γ} (ho : OpR X (binaryOp op) (rI C g)) (ha : Ev X a σ s x) (hb : Ev X b σ s y) (hc : C x y) (hz : ∀ K F, rep K F (g x y) z) : Ev X (.BinOp a op b pos) σ s z :=
  ev_op ho ha hb fun v u s2 hv hu Q q => ⟨x, y, hv, hu, hc, q _ s2 (Ex.refl _) (hz _ _)⟩
theorem ev_add {x y : Int} (ha : Ev X a σ s x) (hb : Ev X b σ s y) : Ev X (.BinOp a .Add b pos) σ s (x + y) := ev_I0 op_add ha hb fun _ _ => rfl
theorem ev_sub {x y : Int} (ha : Ev X a σ s x) (hb : Ev X b σ s y) : Ev X (.BinOp a .Sub b pos) σ s (x - y) := ev_I0 op_sub ha hb fun _ _ => rfl
def MulOk (x y : Int) : Prop := CMul x y ∨ CMulW x y
theorem ev_mul {x y : Int} (ha : Ev X a σ s x) (hb : Ev X b σ s y) (hc : MulOk x y) : Ev X (.BinOp a .Mult b pos) σ s (x * y) := by
  rcases hc with hc | hc
  · exact ev_I op_mul ha hb hc fun _ _ => rfl
  · exact ev_I op_mulW ha hb hc fun _ _ => rfl
theorem ev_mod {x y : Int} (ha : Ev X a σ s x) (hb : Ev X b σ s y) (hc : 0 < y) : Ev X (.BinOp a .Mod b pos) σ s (x % y) := ev_I op_mod ha hb hc fun _ _ => rfl
def DivOk (y : Int) : Prop := 0 < y ∧ y.natAbs.log2 < 9000
theorem ev_div {x y : Int} (ha : Ev X a σ s x) (hb : Ev X b σ s y) (hc : DivOk y) : Ev X (.BinOp a .FloorDiv b pos) σ s (x / y) := ev_I op_fdivW ha hb hc fun _ _ => rfl
theorem ev_pow {x y : Int} (ha : Ev X a σ s x) (hb : Ev X b σ s y) (hc : CPow x y) : Ev X (.BinOp a .Pow b pos) σ s (x ^ y.toNat) := ev_I op_pow ha hb hc fun _ _ => rfl
theorem ev_adds {x y : Str} (ha : Ev X a σ s x) (hb : Ev X b σ s y) (hc : x.length + y.length ≤ sizeLine) : Ev X (.BinOp a .Add b pos) σ s (x ++ y) :=
  ev_op op_add_str ha hb fun v u s2 hv hu Q q => ⟨x, y, hv, hu, hc, q _ s2 (Ex.refl _) rfl⟩
theorem ev_neg {x : Int} (ha : Ev X a σ s x) : Ev X (.UnaryOp .USub a pos) σ s (-x) := fun s1 k Q q =>
  we_of (pe_un un_neg pe_we) (ha s1 k _ fun v s2 k2 r2 => ⟨x, r2, q _ s2 k2 rfl⟩)

theorem atI_rep {K : PySem.W.Frag} {F : Hp} {vs : List V} {xs : List α} {i : Int} {x : α} (r : Reps K F vs xs) (h : atI xs i = some x) : ∃ v, atI vs i = some v ∧ rep K F v x := by
  unfold atI at h ⊢
  rw [r.len]
  cases hj : ixN xs.length i with
  | none => rw [hj] at h; cases h
  | some j =>
    rw [hj] at h
    obtain ⟨v, h1, h2⟩ := r.get (i := j) h
    exact ⟨v, h1, h2⟩
theorem ev_ix {xs : List α} {i : Int} {x : α} (ha : EvR X a σ s xs) (hb : Ev X b σ s i) (h : atI xs i = some x) (hp : PlainIx b := by intro _ _; rfl) : Ev X (.Subscript a b pos) σ s x := fun s1 k Q q =>
  we_of (pe_ix ix_list pe_we pe_we hp) (ha s1 k _ fun v s2 k2 r2 => hb s2 (k.trans k2) _ fun u s3 k3 r3 => by
    obtain ⟨p, vs, rfl, h1, h2⟩ := r2.ex k3
    obtain ⟨w, h3, h4⟩ := atI_rep h2 h
    exact ⟨p, vs, i, w, rfl, r3, h1, h3, q w s3 (k2.trans k3) h4⟩)
theorem ev_ixT {xs : Tu α} {i : Int} {x : α} (ha : Ev X a σ s xs) (hb : Ev X b σ s i) (h : atI xs.l i = some x) (hp : PlainIx b := by intro _ _; rfl) : Ev X (.Subscript a b pos) σ s x := fun s1 k Q q =>
  we_of (pe_ix ix_tup pe_we pe_we hp) (ha s1 k _ fun v s2 k2 r2 => hb s2 (k.trans k2) _ fun u s3 k3 r3 => by
    obtain ⟨p, vs, rfl, h1, h2⟩ := Enc.mono (α := Tu α) k3.f r2
    obtain ⟨w, h3, h4⟩ := atI_rep h2 h
    exact ⟨p, vs, i, w, rfl, r3, sqt_mono s3.sub h1, h3, q w s3 (k2.trans k3) h4⟩)
theorem ev_ixP {x : β} {i : Int} {y : α} (ha : Ev X a σ s x) (hb : Ev X b σ s i) (h : ∀ {F : Hp} {v : V}, rep X.K F v x → ∃ p vs w, v = .ref p ∧ SqT X.K F p vs ∧ atI vs i = some w ∧ rep X.K F w y) (hp : PlainIx b := by intro _ _; rfl) : Ev X (.Subscript a b pos) σ s y := fun s1 k Q q =>
  we_of (pe_ix ix_tup pe_we pe_we hp) (ha s1 k _ fun v s2 k2 r2 => hb s2 (k.trans k2) _ fun u s3 k3 r3 => by
    obtain ⟨p, vs, w, rfl, h1, h2, h3⟩ := h (Enc.mono k3.f r2)
    exact ⟨p, vs, i, w, rfl, r3, sqt_mono s3.sub h1, h2, q w s3 (k2.trans k3) h3⟩)
theorem p2_0 {K : PySem.W.Frag} {x : α × β} {F : Hp} {v : V} (h : rep K F v x) : ∃ p vs w, v = .ref p ∧ SqT K F p vs ∧ atI vs 0 = some w ∧ rep K F w x.1 := by
  obtain ⟨p, v1, v2, rfl, h0, h1, h2⟩ := h
  exact ⟨p, _, v1, rfl, h0, rfl, h1⟩
theorem p2_1 {K : PySem.W.Frag} {x : α × β} {F : Hp} {v : V} (h : rep K F v x) : ∃ p vs w, v = .ref p ∧ SqT K F p vs ∧ atI vs 1 = some w ∧ rep K F w x.2 := by
  obtain ⟨p, v1, v2, rfl, h0, h1, h2⟩ := h
  exact ⟨p, _, v2, rfl, h0, rfl, h2⟩
theorem p3_0 {K : PySem.W.Frag} {x : T3 α β γ} {F : Hp} {v : V} (h : rep K F v x) : ∃ p vs w, v = .ref p ∧ SqT K F p vs ∧ atI vs 0 = some w ∧ rep K F w x.a := by
  obtain ⟨p, v1, v2, v3, rfl, h0, h1, h2, h3⟩ := h
  exact ⟨p, _, v1, rfl, h0, rfl, h1⟩
theorem p3_1 {K : PySem.W.Frag} {x : T3 α β γ} {F : Hp} {v : V} (h : rep K F v x) : ∃ p vs w, v = .ref p ∧ SqT K F p vs ∧ atI vs 1 = some w ∧ rep K F w x.b := by
  obtain ⟨p, v1, v2, v3, rfl, h0, h1, h2, h3⟩ := h
  exact ⟨p, _, v2, rfl, h0, rfl, h2⟩
theorem p3_2 {K : PySem.W.Frag} {x : T3 α β γ} {F : Hp} {v : V} (h : rep K F v x) : ∃ p vs w, v = .ref p ∧ SqT K F p vs ∧ atI vs 2 = some w ∧ rep K F w x.c := by
  obtain ⟨p, v1, v2, v3, rfl, h0, h1, h2, h3⟩ := h
  exact ⟨p, _, v3, rfl, h0, rfl, h3⟩
def sgn (x : Str) (i : Int) : Option Str := if x.length ≤ sizeLine then (atI x.cps.toList i).map fun c => ⟨#[c]⟩ else none
theorem ev_ixS {x : Str} {i : Int} {y : Str} (ha : Ev X a σ s x) (hb : Ev X b σ s i) (h : sgn x i = some y) (hp : PlainIx b := by intro _ _; rfl) : Ev X (.Subscript a b pos) σ s y := fun s1 k Q q =>
  we_of (pe_ix ix_str pe_we pe_we hp) (ha s1 k _ fun v s2 k2 r2 => hb s2 (k.trans k2) _ fun u s3 k3 r3 => by
    unfold sgn at h
    split at h
    · rename_i hz
      obtain ⟨c, h1, h2⟩ := Option.map_eq_some_iff.mp h
      exact ⟨x, i, c, r2, r3, hz, h1, q _ s3 (k2.trans k3) (by rw [h2]; rfl)⟩
    · cases h)
end
end Dy

namespace Dy
open PySem PySem.Spec L2
open PyProof.Rows hiding St
open Enc (rep)
open Flat (toV)
open EncA (repA)

section
variable {α β γ δ : Type} [Enc α] [Enc β] [Enc γ] [Enc δ] {X : Cx} {σ : St} {s t : S} {e a b c : Expr} {es : List Expr} {pos p0 p1 p2 p3 : Pos}

theorem et_v {x : Bool} (h : Ev X e σ s x) (he : ∀ whole, isTrue e X.env whole = (do let v ← whole; standAt e.pos; holding [v] (truthy v)) := by intro _; rfl) : EvT X e σ s x := fun s1 k Q q =>
  wt_of (pt_val pe_we he) (h s1 k _ fun v s2 k2 r => ⟨x, r, q s2 k2⟩)
theorem eb_v {x : Bool} (h : Ev X e σ s x) (he : ∀ whole, isTrue e X.env whole = (do let v ← whole; standAt e.pos; holding [v] (truthy v)) := by intro _; rfl) : EvB X e σ s x := ⟨h, et_v h he⟩
theorem EvW.tt {x : Bool} (h : EvW X e σ s x) : EvT X e σ s x := fun s1 k Q q => wt_of pw_ww.pt (h s1 k Q q)
theorem EvC.bb {x : Bool} (h : EvC X e σ s x) : EvB X e σ s x := ⟨h.v, h.w.tt⟩
theorem EvB.cast {x y : Bool} (h : EvB X e σ s x) (k : x = y) : EvB X e σ s y := k ▸ h
theorem ec_and1 {x : Bool} (h : EvB X a σ s x) : EvC X (.BoolOp .And [a] pos) σ s x :=
  ⟨fun s1 k Q q => we_of (pe_one pe_we) (h.v s1 k Q q), fun s1 k Q q => ww_of (pw_and1 pt_wt) (h.t s1 k Q q)⟩
theorem ec_or1 {x : Bool} (h : EvB X a σ s x) : EvC X (.BoolOp .Or [a] pos) σ s x :=
  ⟨fun s1 k Q q => we_of (pe_one pe_we) (h.v s1 k Q q), fun s1 k Q q => ww_of (pw_or1 pt_wt) (h.t s1 k Q q)⟩
theorem ec_and {x y : Bool} (h : EvB X a σ s x) (h2 : x = true → EvC X (.BoolOp .And (b :: es) pos) σ s y) : EvC X (.BoolOp .And (a :: b :: es) pos) σ s (x && y) :=
  ⟨fun s1 k Q q => we_of (pe_and pe_we pe_we) (h.v s1 k _ fun v s2 k2 r => ⟨x, r, by
    cases x with
    | true => exact iteT ((h2 rfl).v s2 (k.trans k2) Q fun v s3 k3 r3 => q v s3 (k2.trans k3) r3)
    | false => exact iteF (q _ s2 k2 rfl)⟩),
   fun s1 k Q q => ww_of (pw_and pt_wt pw_ww) (h.t s1 k _ fun s2 k2 => by
    cases x with
    | true => exact iteT ((h2 rfl).w s2 (k.trans k2) Q fun s3 k3 => q s3 (k2.trans k3))
    | false => exact iteF (q s2 k2))⟩
theorem ec_or {x y : Bool} (h : EvB X a σ s x) (h2 : x = false → EvC X (.BoolOp .Or (b :: es) pos) σ s y) : EvC X (.BoolOp .Or (a :: b :: es) pos) σ s (x || y) :=
  ⟨fun s1 k Q q => we_of (pe_or pe_we pe_we) (h.v s1 k _ fun v s2 k2 r => ⟨x, r, by
    cases x with
    | true => exact iteT (q _ s2 k2 rfl)
    | false => exact iteF ((h2 rfl).v s2 (k.trans k2) Q fun v s3 k3 r3 => q v s3 (k2.trans k3) r3)⟩),
   fun s1 k Q q => ww_of (pw_or pt_wt pw_ww) (h.t s1 k _ fun s2 k2 => by
    cases x with
    | true => exact iteT (q s2 k2)
    | false => exact iteF ((h2 rfl).w s2 (k.trans k2) Q fun s3 k3 => q s3 (k2.trans k3)))⟩
theorem eb_not {x : Bool} (h : EvB X a σ s x) : EvB X (.UnaryOp .Not a pos) σ s (!x) :=
  ⟨fun s1 k Q q => we_of (pe_not pe_we) (h.v s1 k _ fun v s2 k2 r => ⟨x, r, q _ s2 k2 rfl⟩), fun s1 k Q q => wt_of (pt_not pt_wt) (h.t s1 k _ fun s2 k2 => q s2 k2)⟩
theorem ev_ifE {x : Bool} {y z : α} (h : EvT X c σ s x) (h1 : x = true → Ev X a σ s y) (h2 : x = false → Ev X b σ s z) : Ev X (.IfExp c a b pos) σ s (if x = true then y else z) := fun s1 k Q q =>
  we_of (pe_ifExp pt_wt pe_we pe_we) (h s1 k _ fun s2 k2 => by
    cases x with
    | true => exact iteT (h1 rfl s2 (k.trans k2) Q fun v s3 k3 r => q v s3 (k2.trans k3) r)
    | false => exact iteF (h2 rfl s2 (k.trans k2) Q fun v s3 k3 r => q v s3 (k2.trans k3) r))

theorem eb_cmp {op : CmpOp} {r : R2} {x : α} {y : β} {z : Bool} (ho : OpR X (compareOp op) r) (ha : Ev X a σ s x) (hb : Ev X b σ s y)
    (hr : ∀ (v u : V) (s2 : S), rep X.K s2.F v x → rep X.K s2.F u y → ∀ Q : VK, Q (.bl z) s2.H → r v u s2.H Q) (hm : behindInMarks op b = false) : EvB X (.Compare a [op] [b] pos) σ s z :=
  ⟨fun s1 k Q q => we_of (pe_cmpR ho pe_we pe_we hm) (ha s1 k _ fun v s2 k2 r2 => hb s2 (k.trans k2) _ fun u s3 k3 r3 => hr v u s3 (Enc.mono k3.f r2) r3 Q (q _ s3 (k2.trans k3) rfl)),
   fun s1 k Q q => wt_of (pt_cmpR ho pe_we pe_we hm) (ha s1 k _ fun v s2 k2 r2 => hb s2 (k.trans k2) _ fun u s3 k3 r3 => hr v u s3 (Enc.mono k3.f r2) r3 _ ⟨z, rfl, q s3 (k2.trans k3)⟩)⟩
theorem eb_cmpR {op : CmpOp} {r : R2} {x : α} {ys : List β} {z : Bool} (ho : OpR X (compareOp op) r) (ha : Ev X a σ s x) (hb : EvR X b σ s ys)
    (hr : ∀ (v u : V) (s2 : S), rep X.K s2.F v x → RepR X.K s2 u ys → ∀ Q : VK, Q (.bl z) s2.H → r v u s2.H Q) (hm : behindInMarks op b = false) : EvB X (.Compare a [op] [b] pos) σ s z :=
  ⟨fun s1 k Q q => we_of (pe_cmpR ho pe_we pe_we hm) (ha s1 k _ fun v s2 k2 r2 => hb s2 (k.trans k2) _ fun u s3 k3 r3 => hr v u s3 (Enc.mono k3.f r2) r3 Q (q _ s3 (k2.trans k3) rfl)),
   fun s1 k Q q => wt_of (pt_cmpR ho pe_we pe_we hm) (ha s1 k _ fun v s2 k2 r2 => hb s2 (k.trans k2) _ fun u s3 k3 r3 => hr v u s3 (Enc.mono k3.f r2) r3 _ ⟨z, rfl, q s3 (k2.trans k3)⟩)⟩
theorem eb_cmpRR {op : CmpOp} {r : R2} {xs : List α} {ys : List β} {z : Bool} (ho : OpR X (compareOp op) r) (ha : EvR X a σ s xs) (hb : EvR X b σ s ys)
    (hr : ∀ (v u : V) (s2 : S), RepR X.K s2 v xs → RepR X.K s2 u ys → ∀ Q : VK, Q (.bl z) s2.H → r v u s2.H Q) (hm : behindInMarks op b = false) : EvB X (.Compare a [op] [b] pos) σ s z :=
  ⟨fun s1 k Q q => we_of (pe_cmpR ho pe_we pe_we hm) (ha s1 k _ fun v s2 k2 r2 => hb s2 (k.trans k2) _ fun u s3 k3 r3 => hr v u s3 (r2.ex k3) r3 Q (q _ s3 (k2.trans k3) rfl)),
   fun s1 k Q q => wt_of (pt_cmpR ho pe_we pe_we hm) (ha s1 k _ fun v s2 k2 r2 => hb s2 (k.trans k2) _ fun u s3 k3 r3 => hr v u s3 (r2.ex k3) r3 _ ⟨z, rfl, q s3 (k2.trans k3)⟩)⟩
theorem eb_I0 {op : CmpOp} {g : Int → Int → V} {x y : Int} {z : Bool} (ho : OpR X (compareOp op) (rI0 g)) (hg : g x y = .bl z) (hm : behindInMarks op b = false) (ha : Ev X a σ s x) (hb : Ev X b σ s y) : EvB X (.Compare a [op] [b] pos) σ s z :=
  eb_cmp ho ha hb (fun v u s2 hv hu Q q => ⟨x, y, hv, hu, by rw [hg]; exact q⟩) hm
theorem eb_lt {x y : Int} (ha : Ev X a σ s x) (hb : Ev X b σ s y) : EvB X (.Compare a [.Lt] [b] pos) σ s (decide (x < y)) := eb_I0 op_lt rfl (nomark _) ha hb
theorem eb_le {x y : Int} (ha : Ev X a σ s x) (hb : Ev X b σ s y) : EvB X (.Compare a [.LtE] [b] pos) σ s (decide (x ≤ y)) := eb_I0 op_le rfl (nomark _) ha hb
theorem eb_gt {x y : Int} (ha : Ev X a σ s x) (hb : Ev X b σ s y) : EvB X (.Compare a [.Gt] [b] pos) σ s (decide (y < x)) := eb_I0 op_gt rfl (nomark _) ha hb
theorem eb_ge {x y : Int} (ha : Ev X a σ s x) (hb : Ev X b σ s y) : EvB X (.Compare a [.GtE] [b] pos) σ s (decide (y ≤ x)) := eb_I0 op_ge rfl (nomark _) ha hb
class Eqs (α : Type) extends Flat α where
  sc : ∀ x y : α, scal (toV x) (toV y) = true
  ij : ∀ x y : α, toV x = toV y ↔ x = y
instance : Eqs Int := { sc := fun _ _ => rfl, ij := fun x y => by show V.int x = V.int y ↔ _; simp }
instance : Eqs Bool := { sc := fun _ _ => rfl, ij := fun x y => by show V.bl x = V.bl y ↔ _; simp }
instance : Eqs Str := { sc := fun _ _ => rfl, ij := fun x y => by show V.str x = V.str y ↔ _; simp }
theorem eb_eq {ε : Type} [Eqs ε] [DecidableEq ε] {x y : ε} (ha : Ev X a σ s x) (hb : Ev X b σ s y) : EvB X (.Compare a [.Eq] [b] pos) σ s (decide (x = y)) :=
  eb_cmp op_eq ha hb (fun v u s2 hv hu Q q => by
    rw [Flat.iff.mp hv, Flat.iff.mp hu]
    refine ⟨Eqs.sc x y, ?_⟩
    rw [show decide (toV x = toV y) = decide (x = y) from decide_eq_decide.mpr (Eqs.ij x y)]
    exact q) (nomark _)
theorem eb_ne {ε : Type} [Eqs ε] [DecidableEq ε] {x y : ε} (ha : Ev X a σ s x) (hb : Ev X b σ s y) : EvB X (.Compare a [.NotEq] [b] pos) σ s (!decide (x = y)) :=
  eb_cmp op_ne ha hb (fun v u s2 hv hu Q q => by
    rw [Flat.iff.mp hv, Flat.iff.mp hu]
    refine ⟨Eqs.sc x y, ?_⟩
    rw [show decide (toV x = toV y) = decide (x = y) from decide_eq_decide.mpr (Eqs.ij x y)]
    exact q) (nomark _)
theorem eb_isN {o : Type} [Opn o] {x : Option o} {j} (ha : Ev X a σ s x) : EvB X (.Compare a [.Is] [.Constant .none j p1] pos) σ s x.isNone :=
  eb_cmp op_isN ha ev_non (fun v u s2 hv hu Q q => by
    refine ⟨hu, ?_⟩
    have : decide (v = V.non) = x.isNone := by
      cases x with
      | none => cases (show v = V.non from hv); rfl
      | some y => exact decide_eq_false fun z => Opn.notNon (z ▸ (show rep X.K s2.F v y from hv))
    rw [this]; exact q) (nomark _)
theorem eb_notN {o : Type} [Opn o] {x : Option o} {j} (ha : Ev X a σ s x) : EvB X (.Compare a [.IsNot] [.Constant .none j p1] pos) σ s x.isSome :=
  eb_cmp op_notN ha ev_non (fun v u s2 hv hu Q q => by
    refine ⟨hu, ?_⟩
    have : (!decide (v = V.non)) = x.isSome := by
      cases x with
      | none => cases (show v = V.non from hv); rfl
      | some y => rw [decide_eq_false fun z => Opn.notNon (z ▸ (show rep X.K s2.F v y from hv))]; rfl
    rw [this]; exact q) (nomark _)
theorem eb_in {ε : Type} [Eqs ε] [DecidableEq ε] {x : ε} {xs : List ε} (ha : Ev X a σ s x) (hb : EvR X b σ s xs) (hm : behindInMarks .In b = false := by rfl) : EvB X (.Compare a [.In] [b] pos) σ s (decide (x ∈ xs)) :=
  eb_cmpR op_in_seq ha hb (fun v u s2 hv hu Q q => by
    obtain ⟨p, vs, rfl, h1, h2⟩ := hu
    rw [Flat.iff.mp hv]
    obtain rfl := h2.flat
    refine ⟨p, _, rfl, .inl h1, Flat.flat x, flat_all xs, ?_⟩
    rw [inV_flat]; exact q) hm
theorem eb_notIn {ε : Type} [Eqs ε] [DecidableEq ε] {x : ε} {xs : List ε} (ha : Ev X a σ s x) (hb : EvR X b σ s xs) (hm : behindInMarks .NotIn b = false := by rfl) : EvB X (.Compare a [.NotIn] [b] pos) σ s (!decide (x ∈ xs)) :=
  eb_cmpR op_notIn_seq ha hb (fun v u s2 hv hu Q q => by
    obtain ⟨p, vs, rfl, h1, h2⟩ := hu
    rw [Flat.iff.mp hv]
    obtain rfl := h2.flat
    refine ⟨p, _, rfl, .inl h1, Flat.flat x, flat_all xs, ?_⟩
    rw [inV_flat]; exact q) hm
theorem eb_inT {ε : Type} [Eqs ε] [DecidableEq ε] {x : ε} {xs : Tu ε} (ha : Ev X a σ s x) (hb : Ev X b σ s xs) (hm : behindInMarks .In b = false := by rfl) : EvB X (.Compare a [.In] [b] pos) σ s (decide (x ∈ xs.l)) :=
  eb_cmp op_in_seq ha hb (fun v u s2 hv hu Q q => by
    obtain ⟨p, vs, rfl, h1, h2⟩ := hu
    rw [Flat.iff.mp hv]
    obtain rfl := h2.flat
    refine ⟨p, _, rfl, .inr (sqt_mono s2.sub h1), Flat.flat x, flat_all xs.l, ?_⟩
    rw [inV_flat]; exact q) hm
theorem eb_notInT {ε : Type} [Eqs ε] [DecidableEq ε] {x : ε} {xs : Tu ε} (ha : Ev X a σ s x) (hb : Ev X b σ s xs) (hm : behindInMarks .NotIn b = false := by rfl) : EvB X (.Compare a [.NotIn] [b] pos) σ s (!decide (x ∈ xs.l)) :=
  eb_cmp op_notIn_seq ha hb (fun v u s2 hv hu Q q => by
    obtain ⟨p, vs, rfl, h1, h2⟩ := hu
    rw [Flat.iff.mp hv]
    obtain rfl := h2.flat
    refine ⟨p, _, rfl, .inr (sqt_mono s2.sub h1), Flat.flat x, flat_all xs.l, ?_⟩
    rw [inV_flat]; exact q) hm
def inS (x y : Str) : Bool := !(Builtin.Str.occurrences y x 0 y.length 1).isEmpty
theorem eb_inS {x y : Str} (ha : Ev X a σ s x) (hb : Ev X b σ s y) (hm : behindInMarks .In b = false := by rfl) : EvB X (.Compare a [.In] [b] pos) σ s (inS x y) :=
  eb_cmp op_in_str ha hb (fun v u s2 hv hu Q q => ⟨x, y, hv, hu, q⟩) hm
theorem eb_notInS {x y : Str} (ha : Ev X a σ s x) (hb : Ev X b σ s y) (hm : behindInMarks .NotIn b = false := by rfl) : EvB X (.Compare a [.NotIn] [b] pos) σ s (!inS x y) :=
  eb_cmp op_notIn_str ha hb (fun v u s2 hv hu Q q => ⟨x, y, hv, hu, q⟩) hm
theorem eb_chain {op op' : CmpOp} {g g' : Int → Int → V} {x y z : Int} {k1 k2 : Bool} (ho : OpR X (compareOp op) (rI0 g)) (hg : g x y = .bl k1) (ho' : OpR X (compareOp op') (rI0 g')) (hg' : g' y z = .bl k2) (ha : Ev X a σ s x) (hb : Ev X b σ s y) (hc : Ev X c σ s z)
    (hm : lastMarks [op, op'] [b, c] = false := by with_unfolding_all rfl) : EvB X (.Compare a [op, op'] [b, c] pos) σ s (k1 && k2) :=
  ⟨fun s1 k Q q => we_of (pe_chain ho ho' pe_we pe_we pe_we hm) (ha s1 k _ fun v s2 j2 r2 => hb s2 (k.trans j2) _ fun u s3 j3 r3 => ⟨x, y, r2, r3, k1, hg, by
    cases k1 with
    | true => exact iteT (hc s3 ((k.trans j2).trans j3) _ fun w s4 j4 r4 => ⟨y, z, r3, r4, by rw [hg']; exact q _ s4 ((j2.trans j3).trans j4) rfl⟩)
    | false => exact iteF (q _ s3 (j2.trans j3) rfl)⟩),
   fun s1 k Q q => wt_of (pt_chain ho ho' pe_we pe_we pe_we hm) (ha s1 k _ fun v s2 j2 r2 => hb s2 (k.trans j2) _ fun u s3 j3 r3 => ⟨x, y, r2, r3, k1, hg, by
    cases k1 with
    | true => exact iteT (hc s3 ((k.trans j2).trans j3) _ fun w s4 j4 r4 => ⟨y, z, r3, r4, by rw [hg']; exact ⟨_, rfl, q s4 ((j2.trans j3).trans j4)⟩⟩)
    | false => exact iteF ⟨_, rfl, q s3 (j2.trans j3)⟩⟩)⟩

theorem ea_nil : EvA X [] σ s () := fun s1 k Q q => wa_of pa_nil (q [] s1 (Ex.refl _) rfl)
theorem ea_cons {A : Type} [EncA A] {x : α} {r : A} (h : Ev X e σ s x) (hr : EvA X es σ s r) (hs : starEach (e :: es) X.env = (false, eval e X.env) :: starEach es X.env := by rfl) : EvA X (e :: es) σ s (x, r) := fun s1 k Q q =>
  wa_of (pa_cons pe_we pa_wa hs) (h s1 k _ fun v s2 k2 r2 => hr s2 (k.trans k2) _ fun vs s3 k3 r3 => q _ s3 (k2.trans k3) ⟨v, vs, rfl, Enc.mono k3.f r2, r3⟩)
theorem ev_B1 {id : String} {n : Str} {r : List V → Hp → VK → Prop} {x : β} {y : α} (hc : CallR X (.builtin id) r) (hg : Gl X n) (hm : X.mg n = none) (hv : bootBuiltins n = some (.builtin id)) (ha : Ev X e σ s x)
    (hr : ∀ (v : V) (s2 : S), rep X.K s2.F v x → ∀ Q : VK, (∀ w s3, Ex s2 s3 → rep X.K s3.F w y → Q w s3.H) → r [v] s2.H Q) (hn : n ≠ "__name__" := by decide) (hdb : (n == ("__debug__" : Str)) = false := by decide)
    (he : starEach [e] X.env = (false, eval e X.env) :: starEach [] X.env := by rfl) (hpl : (backTo pos (starEach [] X.env)).any (·.1) = false := by rfl) : Ev X (.Call (.Name n p0) [e] [] pos) σ s y := fun s1 k Q q =>
  we_of (pe_callB hc hg hm hv (pa_cons pe_we pa_nil he) hn hdb he hpl) (ha s1 k _ fun v s2 k2 r2 => hr v s2 r2 Q fun w s3 k3 r3 => q w s3 (k2.trans k3) r3)
theorem ev_BR {id : String} {n : Str} {r : List V → Hp → VK → Prop} {xs : List β} {y : α} (hc : CallR X (.builtin id) r) (hg : Gl X n) (hm : X.mg n = none) (hv : bootBuiltins n = some (.builtin id)) (ha : EvR X e σ s xs)
    (hr : ∀ (v : V) (s2 : S), RepR X.K s2 v xs → ∀ Q : VK, (∀ w s3, Ex s2 s3 → rep X.K s3.F w y → Q w s3.H) → r [v] s2.H Q) (hn : n ≠ "__name__" := by decide) (hdb : (n == ("__debug__" : Str)) = false := by decide)
    (he : starEach [e] X.env = (false, eval e X.env) :: starEach [] X.env := by rfl) (hpl : (backTo pos (starEach [] X.env)).any (·.1) = false := by rfl) : Ev X (.Call (.Name n p0) [e] [] pos) σ s y := fun s1 k Q q =>
  we_of (pe_callB hc hg hm hv (pa_cons pe_we pa_nil he) hn hdb he hpl) (ha s1 k _ fun v s2 k2 r2 => hr v s2 r2 Q fun w s3 k3 r3 => q w s3 (k2.trans k3) r3)
theorem ev_len {xs : List β} (hm : X.mg "len" = none) (ha : EvR X e σ s xs) (hg : Gl X "len" := by rfl) (he : starEach [e] X.env = (false, eval e X.env) :: starEach [] X.env := by rfl) (hpl : (backTo pos (starEach [] X.env)).any (·.1) = false := by rfl) : Ev X (.Call (.Name "len" p0) [e] [] pos) σ s (xs.length : Int) :=
  ev_BR call_len_seq hg hm boot_len ha (fun v s2 r2 Q q => by
    obtain ⟨p, vs, rfl, h1, h2⟩ := r2
    exact ⟨p, vs, rfl, .inl h1, q _ s2 (Ex.refl _) (by rw [h2.len]; rfl)⟩) (he := he) (hpl := hpl)
theorem ev_lenT {xs : Tu β} (hm : X.mg "len" = none) (ha : Ev X e σ s xs) (hg : Gl X "len" := by rfl) (he : starEach [e] X.env = (false, eval e X.env) :: starEach [] X.env := by rfl) (hpl : (backTo pos (starEach [] X.env)).any (·.1) = false := by rfl) : Ev X (.Call (.Name "len" p0) [e] [] pos) σ s (xs.l.length : Int) :=
  ev_B1 call_len_seq hg hm boot_len ha (fun v s2 r2 Q q => by
    obtain ⟨p, vs, rfl, h1, h2⟩ := r2
    exact ⟨p, vs, rfl, .inr (sqt_mono s2.sub h1), q _ s2 (Ex.refl _) (by rw [h2.len]; rfl)⟩) (he := he) (hpl := hpl)
theorem ev_lenS {x : Str} (hm : X.mg "len" = none) (hz : x.length ≤ sizeLine) (ha : Ev X e σ s x) (hg : Gl X "len" := by rfl) (he : starEach [e] X.env = (false, eval e X.env) :: starEach [] X.env := by rfl) (hpl : (backTo pos (starEach [] X.env)).any (·.1) = false := by rfl) : Ev X (.Call (.Name "len" p0) [e] [] pos) σ s (x.length : Int) :=
  ev_B1 call_len_str hg hm boot_len ha (fun v s2 r2 Q q => ⟨x, by rw [show v = V.str x from r2], hz, q _ s2 (Ex.refl _) rfl⟩) (he := he) (hpl := hpl)
theorem ev_sum {xs : List Int} (hm : X.mg "sum" = none) (ha : EvR X e σ s xs) (hc : X.calm = true := by rfl) (hg : Gl X "sum" := by rfl) (he : starEach [e] X.env = (false, eval e X.env) :: starEach [] X.env := by rfl) (hpl : (backTo pos (starEach [] X.env)).any (·.1) = false := by rfl) : Ev X (.Call (.Name "sum" p0) [e] [] pos) σ s xs.sum :=
  ev_BR (cr_sum hc) hg hm (by decide +kernel) ha (fun v s2 r2 Q q => by
    obtain ⟨p, vs, rfl, h1, h2⟩ := r2
    rw [h2.flat] at h1
    exact ⟨p, xs, rfl, h1, q _ s2 (Ex.refl _) rfl⟩) (he := he) (hpl := hpl)
theorem ev_all {xs : List Bool} (hm : X.mg "all" = none) (ha : EvR X e σ s xs) (hc : X.calm = true := by rfl) (hg : Gl X "all" := by rfl) (he : starEach [e] X.env = (false, eval e X.env) :: starEach [] X.env := by rfl) (hpl : (backTo pos (starEach [] X.env)).any (·.1) = false := by rfl) : Ev X (.Call (.Name "all" p0) [e] [] pos) σ s (xs.all id) :=
  ev_BR (cr_all hc) hg hm (by decide +kernel) ha (fun v s2 r2 Q q => by
    obtain ⟨p, vs, rfl, h1, h2⟩ := r2
    rw [h2.flat] at h1
    exact ⟨p, xs, rfl, h1, q _ s2 (Ex.refl _) rfl⟩) (he := he) (hpl := hpl)
theorem ev_any {xs : List Bool} (hm : X.mg "any" = none) (ha : EvR X e σ s xs) (hc : X.calm = true := by rfl) (hg : Gl X "any" := by rfl) (he : starEach [e] X.env = (false, eval e X.env) :: starEach [] X.env := by rfl) (hpl : (backTo pos (starEach [] X.env)).any (·.1) = false := by rfl) : Ev X (.Call (.Name "any" p0) [e] [] pos) σ s (xs.any id) :=
  ev_BR (cr_any hc) hg hm (by decide +kernel) ha (fun v s2 r2 Q q => by
    obtain ⟨p, vs, rfl, h1, h2⟩ := r2
    rw [h2.flat] at h1
    exact ⟨p, xs, rfl, h1, q _ s2 (Ex.refl _) rfl⟩) (he := he) (hpl := hpl)
def minL : List Int → Option Int
  | [] => none
  | x :: xs => some (xs.foldl min x)
def maxL : List Int → Option Int
  | [] => none
  | x :: xs => some (xs.foldl max x)
theorem foldl_min (xs : List Int) : ∀ x : Int, (xs.foldl min x ∈ x :: xs) ∧ ∀ y ∈ x :: xs, xs.foldl min x ≤ y := by
  induction xs with
  | nil => intro x; exact ⟨by simp, fun y hy => by simp at hy; simp [hy]⟩
  | cons a r ih =>
    intro x
    obtain ⟨h1, h2⟩ := ih (min x a)
    refine ⟨?_, fun y hy => ?_⟩
    · rw [List.foldl_cons]
      rcases List.mem_cons.mp h1 with h | h
      · rw [h]
        by_cases hx : x ≤ a
        · rw [Int.min_eq_left hx]; exact List.mem_cons_self
        · rw [Int.min_eq_right (by omega)]; exact List.mem_cons_of_mem _ List.mem_cons_self
      · exact List.mem_cons_of_mem _ (List.mem_cons_of_mem _ h)
    · rw [List.foldl_cons]
      have h3 := h2 (min x a) List.mem_cons_self
      rcases List.mem_cons.mp hy with rfl | hy
      · exact Int.le_trans h3 (Int.min_le_left _ _)
      · rcases List.mem_cons.mp hy with rfl | hy
        · exact Int.le_trans h3 (Int.min_le_right _ _)
        · exact h2 y (List.mem_cons_of_mem _ hy)
theorem foldl_max (xs : List Int) : ∀ x : Int, (xs.foldl max x ∈ x :: xs) ∧ ∀ y ∈ x :: xs, y ≤ xs.foldl max x := by
  induction xs with
  | nil => intro x; exact ⟨by simp, fun y hy => by simp at hy; simp [hy]⟩
  | cons a r ih =>
    intro x
    obtain ⟨h1, h2⟩ := ih (max x a)
    refine ⟨?_, fun y hy => ?_⟩
    · rw [List.foldl_cons]
      rcases List.mem_cons.mp h1 with h | h
      · rw [h]
        by_cases hx : a ≤ x
        · rw [Int.max_eq_left hx]; exact List.mem_cons_self
        · rw [Int.max_eq_right (by omega)]; exact List.mem_cons_of_mem _ List.mem_cons_self
      · exact List.mem_cons_of_mem _ (List.mem_cons_of_mem _ h)
    · rw [List.foldl_cons]
      have h3 := h2 (max x a) List.mem_cons_self
      rcases List.mem_cons.mp hy with rfl | hy
      · exact Int.le_trans (Int.le_max_left _ _) h3
      · rcases List.mem_cons.mp hy with rfl | hy
        · exact Int.le_trans (Int.le_max_right _ _) h3
        · exact h2 y (List.mem_cons_of_mem _ hy)
theorem minL_of {xs : List Int} {m : Int} (h1 : m ∈ xs) (h2 : ∀ y ∈ xs, m ≤ y) : minL xs = some m := by
  cases xs with
  | nil => simp at h1
  | cons x r =>
    obtain ⟨h3, h4⟩ := foldl_min r x
    exact congrArg some (Int.le_antisymm (h4 m h1) (h2 _ h3))
theorem maxL_of {xs : List Int} {m : Int} (h1 : m ∈ xs) (h2 : ∀ y ∈ xs, y ≤ m) : maxL xs = some m := by
  cases xs with
  | nil => simp at h1
  | cons x r =>
    obtain ⟨h3, h4⟩ := foldl_max r x
    exact congrArg some (Int.le_antisymm (h2 _ h3) (h4 m h1))
theorem ev_min {xs : List Int} {m : Int} (hm : X.mg "min" = none) (ha : EvR X e σ s xs) (h : minL xs = some m) (hc : X.calm = true := by rfl) (hg : Gl X "min" := by rfl) (he : starEach [e] X.env = (false, eval e X.env) :: starEach [] X.env := by rfl) (hpl : (backTo pos (starEach [] X.env)).any (·.1) = false := by rfl) : Ev X (.Call (.Name "min" p0) [e] [] pos) σ s m :=
  ev_BR (cr_min hc) hg hm (by decide +kernel) ha (fun v s2 r2 Q q => by
    obtain ⟨p, vs, rfl, h1, h2⟩ := r2
    rw [h2.flat] at h1
    refine ⟨p, xs, rfl, h1, ?_, fun z hz1 hz2 => ?_⟩
    · cases xs with
      | nil => cases h
      | cons _ _ => exact Nat.succ_pos _
    · rw [minL_of hz1 hz2] at h
      cases h
      exact q _ s2 (Ex.refl _) rfl) (he := he) (hpl := hpl)
theorem ev_max {xs : List Int} {m : Int} (hm : X.mg "max" = none) (ha : EvR X e σ s xs) (h : maxL xs = some m) (hc : X.calm = true := by rfl) (hg : Gl X "max" := by rfl) (he : starEach [e] X.env = (false, eval e X.env) :: starEach [] X.env := by rfl) (hpl : (backTo pos (starEach [] X.env)).any (·.1) = false := by rfl) : Ev X (.Call (.Name "max" p0) [e] [] pos) σ s m :=
  ev_BR (cr_max hc) hg hm (by decide +kernel) ha (fun v s2 r2 Q q => by
    obtain ⟨p, vs, rfl, h1, h2⟩ := r2
    rw [h2.flat] at h1
    refine ⟨p, xs, rfl, h1, ?_, fun z hz1 hz2 => ?_⟩
    · cases xs with
      | nil => cases h
      | cons _ _ => exact Nat.succ_pos _
    · rw [maxL_of hz1 hz2] at h
      cases h
      exact q _ s2 (Ex.refl _) rfl) (he := he) (hpl := hpl)
theorem ev_min2 {x y : Int} (hm : X.mg "min" = none) (ha : Ev X a σ s x) (hb : Ev X b σ s y) (hc : X.calm = true := by rfl) (hg : Gl X "min" := by rfl) (he : starEach [a, b] X.env = (false, eval a X.env) :: starEach [b] X.env := by rfl) (he2 : starEach [b] X.env = (false, eval b X.env) :: starEach [] X.env := by rfl) (hpl : (backTo pos (starEach [b] X.env)).any (·.1) = false := by rfl) : Ev X (.Call (.Name "min" p0) [a, b] [] pos) σ s (min x y) := fun s1 k Q q =>
  we_of (pe_callB (call_min2 hc) hg hm (by decide +kernel) (pa_cons pe_we (pa_cons pe_we pa_nil he2) he) (he := he) (hpl := hpl)) (ha s1 k _ fun v s2 k2 r2 => hb s2 (k.trans k2) _ fun u s3 k3 r3 =>
    ⟨x, y, by rw [show v = V.int x from r2, show u = V.int y from r3], q _ s3 (k2.trans k3) (by
      show V.int _ = V.int _
      by_cases h : y < x
      · rw [if_pos h, Int.min_eq_right (by omega)]
      · rw [if_neg h, Int.min_eq_left (by omega)])⟩)
theorem ev_max2 {x y : Int} (hm : X.mg "max" = none) (ha : Ev X a σ s x) (hb : Ev X b σ s y) (hc : X.calm = true := by rfl) (hg : Gl X "max" := by rfl) (he : starEach [a, b] X.env = (false, eval a X.env) :: starEach [b] X.env := by rfl) (he2 : starEach [b] X.env = (false, eval b X.env) :: starEach [] X.env := by rfl) (hpl : (backTo pos (starEach [b] X.env)).any (·.1) = false := by rfl) : Ev X (.Call (.Name "max" p0) [a, b] [] pos) σ s (max x y) := fun s1 k Q q =>
  we_of (pe_callB (call_max2 hc) hg hm (by decide +kernel) (pa_cons pe_we (pa_cons pe_we pa_nil he2) he) (he := he) (hpl := hpl)) (ha s1 k _ fun v s2 k2 r2 => hb s2 (k.trans k2) _ fun u s3 k3 r3 =>
    ⟨x, y, by rw [show v = V.int x from r2, show u = V.int y from r3], q _ s3 (k2.trans k3) (by
      show V.int _ = V.int _
      by_cases h : y > x
      · rw [if_pos h, Int.max_eq_right (by omega)]
      · rw [if_neg h, Int.max_eq_left (by omega)])⟩)
theorem ev_T1 {T : String} {n : Str} {r : List V → Hp → VK → Prop} {x : β} {y : α} (hc : CallR X (.type T) r) (hg : Gl X n) (hm : X.mg n = none) (hv : bootBuiltins n = some (.type T)) (ha : Ev X e σ s x)
    (hr : ∀ (v : V) (s2 : S), rep X.K s2.F v x → ∀ Q : VK, (∀ w s3, Ex s2 s3 → rep X.K s3.F w y → Q w s3.H) → r [v] s2.H Q) (hn : n ≠ "__name__" := by decide) (hdb : (n == ("__debug__" : Str)) = false := by decide)
    (he : starEach [e] X.env = (false, eval e X.env) :: starEach [] X.env := by rfl) (hpl : (backTo pos (starEach [] X.env)).any (·.1) = false := by rfl) : Ev X (.Call (.Name n p0) [e] [] pos) σ s y := fun s1 k Q q =>
  we_of (pe_callTy hc hg hm hv (pa_cons pe_we pa_nil he) hn hdb he hpl) (ha s1 k _ fun v s2 k2 r2 => hr v s2 r2 Q fun w s3 k3 r3 => q w s3 (k2.trans k3) r3)
theorem ev_intB {x : Bool} (hm : X.mg "int" = none) (ha : Ev X e σ s x) (hg : Gl X "int" := by rfl) (he : starEach [e] X.env = (false, eval e X.env) :: starEach [] X.env := by rfl) (hpl : (backTo pos (starEach [] X.env)).any (·.1) = false := by rfl) : Ev X (.Call (.Name "int" p0) [e] [] pos) σ s (if x = true then (1 : Int) else 0) :=
  ev_T1 call_int1 hg hm (by decide +kernel) ha (fun v s2 r2 Q q => .inr ⟨x, by rw [show v = V.bl x from r2], q _ s2 (Ex.refl _) rfl⟩) (he := he) (hpl := hpl)
theorem ev_intS {x : Str} {n : Int} (hm : X.mg "int" = none) (ha : Ev X e σ s x) (h : PySem.intText? x = some n) (hl : x.length ≤ 640) (hg : Gl X "int" := by rfl) (he : starEach [e] X.env = (false, eval e X.env) :: starEach [] X.env := by rfl) (hpl : (backTo pos (starEach [] X.env)).any (·.1) = false := by rfl) : Ev X (.Call (.Name "int" p0) [e] [] pos) σ s n :=
  ev_T1 call_int_str hg hm (by decide +kernel) ha (fun v s2 r2 Q q => ⟨x, n, by rw [show v = V.str x from r2], h, hl, q _ s2 (Ex.refl _) rfl⟩) (he := he) (hpl := hpl)
theorem ev_strI {x : Int} (hm : X.mg "str" = none) (h : x.natAbs.log2 < 1920) (ha : Ev X e σ s x) (hg : Gl X "str" := by rfl) (he : starEach [e] X.env = (false, eval e X.env) :: starEach [] X.env := by rfl) (hpl : (backTo pos (starEach [] X.env)).any (·.1) = false := by rfl) : Ev X (.Call (.Name "str" p0) [e] [] pos) σ s (toString x : Str) :=
  ev_T1 call_str_int hg hm (by decide +kernel) ha (fun v s2 r2 Q q => ⟨x, by rw [show v = V.int x from r2], h, q _ s2 (Ex.refl _) rfl⟩) (he := he) (hpl := hpl)
end
end Dy

namespace Dy
open PySem PySem.Spec L2
open PyProof.Rows hiding St
open Enc (rep)
open Flat (toV)
open EncA (repA)

section
variable {α β γ δ ζ : Type} [Enc α] [Enc β] [Enc γ] [Enc δ] [Enc ζ] {X : Cx} {σ : St} {s t : S} {e a b c : Expr} {es : List Expr} {pos p0 p1 p2 p3 : Pos}

def EvE (X : Cx) (es : List Expr) (σ : St) (s : S) (xs : List α) : Prop := ∀ s1, Ex s s1 → ∀ Q : List V → Hp → Prop, (∀ vs s2, Ex s1 s2 → Reps X.K s2.F vs xs → Q vs s2.H) → WA X es σ s1.H Q
theorem ee_nil : EvE X [] σ s ([] : List α) := fun s1 k Q q => wa_of pa_nil (q [] s1 (Ex.refl _) trivial)
theorem ee_cons {x : α} {xs : List α} (h : Ev X e σ s x) (hr : EvE X es σ s xs) (hs : starEach (e :: es) X.env = (false, eval e X.env) :: starEach es X.env := by rfl) : EvE X (e :: es) σ s (x :: xs) := fun s1 k Q q =>
  wa_of (pa_cons pe_we pa_wa hs) (h s1 k _ fun v s2 k2 r2 => hr s2 (k.trans k2) _ fun vs s3 k3 r3 => q _ s3 (k2.trans k3) ⟨Enc.mono k3.f r2, r3⟩)
theorem own_new {K : PySem.W.Frag} {p : Addr} {vs : List V} {xs : List α} (h : s.H p = none) (r : Reps K s.F vs xs) : Own K (s.newO p (.lst vs) h) p xs := ⟨(fF h : s.F p = none), vs, upd_same, r⟩
theorem en_list {xs : List α} (h : EvE X es σ s xs) (hz : xs.length ≤ sizeLine := by decide) : EvN X (.List es pos) σ s xs := fun s1 k Q q =>
  we_of (pe_lst pa_wa) (h s1 k _ fun vs s2 k2 r2 => ⟨by rw [r2.len]; exact hz, fun p hp => q p (s2.newO p (.lst vs) hp) (k2.trans (Ex.newO hp)) (fr_back k2 hp) (own_new hp r2)⟩)
theorem tup_new {K : PySem.W.Frag} {p : Addr} {vs : List V} (h : s.H p = none) : SqT K (s.newF p (.tup vs) h).F p vs := .inl (.inl upd_same)
theorem ev_tu {xs : List α} (h : EvE X es σ s xs) (hz : xs.length ≤ sizeLine := by decide) {n} : Ev X (.Tuple es n pos) σ s (⟨xs⟩ : Tu α) := fun s1 k Q q =>
  we_of (pe_tup pa_wa) (h s1 k _ fun vs s2 k2 r2 => ⟨by rw [r2.len]; exact hz, fun p hp => q _ (s2.newF p (.tup vs) hp) (k2.trans (Ex.newF hp)) ⟨p, vs, rfl, tup_new hp, r2.mono (Ex.newF hp).f⟩⟩)
theorem ev_t1 {x : α} {n} (h : EvA X es σ s (x, ())) : Ev X (.Tuple es n pos) σ s (⟨x⟩ : T1 α) := fun s1 k Q q =>
  we_of (pe_tup pa_wa) (h s1 k _ fun vs s2 k2 r2 => by
    obtain ⟨v1, _, rfl, r1, rfl⟩ := r2
    refine ⟨show _ ≤ 2 ^ 24 by simp, fun p hp => q _ (s2.newF p _ hp) (k2.trans (Ex.newF hp)) ⟨p, v1, rfl, tup_new hp, Enc.mono (Ex.newF hp).f r1⟩⟩)
theorem ev_t2 {x : α} {y : β} {n} (h : EvA X es σ s (x, y, ())) : Ev X (.Tuple es n pos) σ s (x, y) := fun s1 k Q q =>
  we_of (pe_tup pa_wa) (h s1 k _ fun vs s2 k2 r2 => by
    obtain ⟨v1, _, rfl, r1, v2, _, rfl, r2, rfl⟩ := r2
    refine ⟨show _ ≤ 2 ^ 24 by simp, fun p hp => q _ (s2.newF p _ hp) (k2.trans (Ex.newF hp)) ⟨p, v1, v2, rfl, tup_new hp, Enc.mono (Ex.newF hp).f r1, Enc.mono (Ex.newF hp).f r2⟩⟩)
theorem ev_t3 {x : α} {y : β} {z : γ} {n} (h : EvA X es σ s (x, y, z, ())) : Ev X (.Tuple es n pos) σ s (⟨x, y, z⟩ : T3 α β γ) := fun s1 k Q q =>
  we_of (pe_tup pa_wa) (h s1 k _ fun vs s2 k2 r2 => by
    obtain ⟨v1, _, rfl, r1, v2, _, rfl, r2, v3, _, rfl, r3, rfl⟩ := r2
    refine ⟨show _ ≤ 2 ^ 24 by simp, fun p hp => q _ (s2.newF p _ hp) (k2.trans (Ex.newF hp)) ⟨p, v1, v2, v3, rfl, tup_new hp, Enc.mono (Ex.newF hp).f r1, Enc.mono (Ex.newF hp).f r2, Enc.mono (Ex.newF hp).f r3⟩⟩)
theorem ev_t4 {x : α} {y : β} {z : γ} {u : δ} {n} (h : EvA X es σ s (x, y, z, u, ())) : Ev X (.Tuple es n pos) σ s (⟨x, y, z, u⟩ : T4 α β γ δ) := fun s1 k Q q =>
  we_of (pe_tup pa_wa) (h s1 k _ fun vs s2 k2 r2 => by
    obtain ⟨v1, _, rfl, r1, v2, _, rfl, r2, v3, _, rfl, r3, v4, _, rfl, r4, rfl⟩ := r2
    refine ⟨show _ ≤ 2 ^ 24 by simp, fun p hp => q _ (s2.newF p _ hp) (k2.trans (Ex.newF hp)) ⟨p, v1, v2, v3, v4, rfl, tup_new hp, Enc.mono (Ex.newF hp).f r1, Enc.mono (Ex.newF hp).f r2, Enc.mono (Ex.newF hp).f r3, Enc.mono (Ex.newF hp).f r4⟩⟩)
theorem ev_t5 {x : α} {y : β} {z : γ} {u : δ} {w : ζ} {n} (h : EvA X es σ s (x, y, z, u, w, ())) : Ev X (.Tuple es n pos) σ s (⟨x, y, z, u, w⟩ : T5 α β γ δ ζ) := fun s1 k Q q =>
  we_of (pe_tup pa_wa) (h s1 k _ fun vs s2 k2 r2 => by
    obtain ⟨v1, _, rfl, r1, v2, _, rfl, r2, v3, _, rfl, r3, v4, _, rfl, r4, v5, _, rfl, r5, rfl⟩ := r2
    refine ⟨show _ ≤ 2 ^ 24 by simp, fun p hp => q _ (s2.newF p _ hp) (k2.trans (Ex.newF hp)) ⟨p, v1, v2, v3, v4, v5, rfl, tup_new hp, Enc.mono (Ex.newF hp).f r1, Enc.mono (Ex.newF hp).f r2, Enc.mono (Ex.newF hp).f r3, Enc.mono (Ex.newF hp).f r4, Enc.mono (Ex.newF hp).f r5⟩⟩)

theorem en_T1 {n : Str} {T : String} {r : List V → Hp → VK → Prop} {xs : List β} {ys : List α} (hc : CallR X (.type T) r) (hg : Gl X n) (hm : X.mg n = none) (hv : bootBuiltins n = some (.type T)) (ha : EvR X e σ s xs)
    (hr : ∀ (v : V) (s2 : S), RepR X.K s2 v xs → ∀ Q : VK, (∀ p s3, Ex s2 s3 → s2.H p = none → Own X.K s3 p ys → Q (.ref p) s3.H) → r [v] s2.H Q) (hn : n ≠ "__name__" := by decide) (hdb : (n == ("__debug__" : Str)) = false := by decide)
    (he : starEach [e] X.env = (false, eval e X.env) :: starEach [] X.env := by rfl) (hpl : (backTo pos (starEach [] X.env)).any (·.1) = false := by rfl) : EvN X (.Call (.Name n p0) [e] [] pos) σ s ys := fun s1 k Q q =>
  we_of (pe_callTy hc hg hm hv (pa_cons pe_we pa_nil he) hn hdb he hpl) (ha s1 k _ fun v s2 k2 r2 => hr v s2 r2 Q fun w s3 k3 n3 r3 => q w s3 (k2.trans k3) (fr_back k2 n3) r3)
theorem en_copy {xs : List α} (hm : X.mg "list" = none) (ha : EvR X e σ s xs) (hg : Gl X "list" := by rfl) (he : starEach [e] X.env = (false, eval e X.env) :: starEach [] X.env := by rfl) (hpl : (backTo pos (starEach [] X.env)).any (·.1) = false := by rfl) : EvN X (.Call (.Name "list" p0) [e] [] pos) σ s xs :=
  en_T1 call_list_of hg hm (by decide +kernel) ha (fun v s2 r2 Q q => by
    obtain ⟨p, vs, rfl, h1, h2⟩ := r2
    exact ⟨p, vs, rfl, .inl h1, fun l hl => q l (s2.newO l _ hl) (Ex.newO hl) hl (own_new hl h2)⟩) (he := he) (hpl := hpl)
theorem en_copyT {xs : Tu α} (hm : X.mg "list" = none) (ha : Ev X e σ s xs) (hg : Gl X "list" := by rfl) (he : starEach [e] X.env = (false, eval e X.env) :: starEach [] X.env := by rfl) (hpl : (backTo pos (starEach [] X.env)).any (·.1) = false := by rfl) : EvN X (.Call (.Name "list" p0) [e] [] pos) σ s xs.l := fun s1 k Q q =>
  we_of (pe_callTy call_list_of hg hm (by decide +kernel) (pa_cons pe_we pa_nil he) (he := he) (hpl := hpl)) (ha s1 k _ fun v s2 k2 r2 => by
    obtain ⟨p, vs, rfl, h1, h2⟩ := r2
    exact ⟨p, vs, rfl, .inr (sqt_mono s2.sub h1), fun l hl => q l (s2.newO l _ hl) (k2.trans (Ex.newO hl)) (fr_back k2 hl) (own_new hl h2)⟩)
theorem ev_tuple {xs : List α} (hm : X.mg "tuple" = none) (ha : EvR X e σ s xs) (hg : Gl X "tuple" := by rfl) (he : starEach [e] X.env = (false, eval e X.env) :: starEach [] X.env := by rfl) (hpl : (backTo pos (starEach [] X.env)).any (·.1) = false := by rfl) : Ev X (.Call (.Name "tuple" p0) [e] [] pos) σ s (⟨xs⟩ : Tu α) := fun s1 k Q q =>
  we_of (pe_callTy call_tuple_of hg hm (by decide +kernel) (pa_cons pe_we pa_nil he) (he := he) (hpl := hpl)) (ha s1 k _ fun v s2 k2 r2 => by
    obtain ⟨p, vs, rfl, h1, h2⟩ := r2
    exact ⟨p, vs, rfl, .inl ⟨h1, fun l hl => q _ (s2.newF l _ hl) (k2.trans (Ex.newF hl)) ⟨l, vs, rfl, tup_new hl, h2.mono (Ex.newF hl).f⟩⟩⟩)
theorem ev_tupleT {xs : Tu α} (hm : X.mg "tuple" = none) (ha : Ev X e σ s xs) (hg : Gl X "tuple" := by rfl) (he : starEach [e] X.env = (false, eval e X.env) :: starEach [] X.env := by rfl) (hpl : (backTo pos (starEach [] X.env)).any (·.1) = false := by rfl) : Ev X (.Call (.Name "tuple" p0) [e] [] pos) σ s xs := fun s1 k Q q =>
  we_of (pe_callTy call_tuple_of hg hm (by decide +kernel) (pa_cons pe_we pa_nil he) (he := he) (hpl := hpl)) (ha s1 k _ fun v s2 k2 r2 => by
    obtain ⟨p, vs, rfl, h1, h2⟩ := r2
    exact ⟨p, vs, rfl, .inr ⟨sqt_mono s2.sub h1, q _ s2 k2 ⟨p, vs, rfl, h1, h2⟩⟩⟩)
def rng (a b : Int) : List Int := (List.range (b - a).toNat).map fun i : Nat => a + (i : Int)
theorem rgV_rng (a b : Int) : rgV a b = (rng a b).map V.int := by
  unfold rgV rng
  rw [List.map_map]; rfl
theorem en_listRg1 {n : Int} (hm : X.mg "list" = none) (hr : X.mg "range" = none) (ha : Ev X e σ s n) (hz : RgOk 0 n) (hc : X.calm = true := by rfl) (hg : Gl X "list" := by rfl) (hgr : Gl X "range" := by rfl)
    (he : starEach [e] X.env = (false, eval e X.env) :: starEach [] X.env := by rfl) (he2 : starEach [.Call (.Name "range" p1) [e] [] p2] X.env = (false, eval (.Call (.Name "range" p1) [e] [] p2) X.env) :: starEach [] X.env := by rfl) :
    EvN X (.Call (.Name "list" p0) [.Call (.Name "range" p1) [e] [] p2] [] pos) σ s (rng 0 n) := fun s1 k Q q =>
  we_of (pe_listRg hc hg hm (prg_1 hgr hr pe_we he) he2) (ha s1 k _ fun v s2 k2 r2 => ⟨n, r2, hz, fun l hl => q l (s2.newO l _ hl) (k2.trans (Ex.newO hl)) (fr_back k2 hl) (own_new hl (by rw [rgV_rng]; exact Reps.of_flat _))⟩)
theorem en_listRg2 {m n : Int} (hm : X.mg "list" = none) (hr : X.mg "range" = none) (ha : Ev X a σ s m) (hb : Ev X b σ s n) (hz : RgOk m n) (hc : X.calm = true := by rfl) (hg : Gl X "list" := by rfl) (hgr : Gl X "range" := by rfl)
    (he : starEach [a, b] X.env = (false, eval a X.env) :: starEach [b] X.env := by rfl) (heb : starEach [b] X.env = (false, eval b X.env) :: starEach [] X.env := by rfl) (hpl : (backTo p2 (starEach [b] X.env)).any (·.1) = false := by rfl)
    (he2 : starEach [.Call (.Name "range" p1) [a, b] [] p2] X.env = (false, eval (.Call (.Name "range" p1) [a, b] [] p2) X.env) :: starEach [] X.env := by rfl) :
    EvN X (.Call (.Name "list" p0) [.Call (.Name "range" p1) [a, b] [] p2] [] pos) σ s (rng m n) := fun s1 k Q q =>
  we_of (pe_listRg hc hg hm (prg_2 hgr hr pe_we pe_we he heb hpl) he2) (ha s1 k _ fun v s2 k2 r2 => hb s2 (k.trans k2) _ fun u s3 k3 r3 => ⟨m, n, r2, r3, hz, fun l hl => q l (s3.newO l _ hl) ((k2.trans k3).trans (Ex.newO hl)) (fr_back (k2.trans k3) hl) (own_new hl (by rw [rgV_rng]; exact Reps.of_flat _))⟩)
def cut {τ : Type} (xs : List τ) (lo hi : Option Int) : List τ := (xs.drop (HT.sIx xs.length 0 lo)).take (HT.sIx xs.length xs.length hi - HT.sIx xs.length 0 lo)
theorem Reps.cut {K : PySem.W.Frag} {F : Hp} {vs : List V} {xs : List α} (r : Reps K F vs xs) (lo hi : Option Int) : Reps K F (cutV vs lo hi) (Dy.cut xs lo hi) := by
  unfold cutV Dy.cut
  rw [r.len]
  exact (r.drop _).take _
def EvO (X : Cx) (o : Option Expr) (σ : St) (s : S) (x : Option Int) : Prop := match o, x with
  | none, none => True
  | some e, some i => Ev X e σ s i
  | _, _ => False
theorem po_evo {o : Option Expr} {x : Option Int} (h : EvO X o σ s x) : ∃ t, PO X o t ∧ ∀ s1, Ex s s1 → ∀ Q : Option Int → Hp → Prop, (∀ s2, Ex s1 s2 → Q x s2.H) → t σ s1.H Q := by
  cases o with
  | none =>
    cases x with
    | none => exact ⟨_, po_none, fun s1 k Q q => q s1 (Ex.refl _)⟩
    | some i => exact h.elim
  | some e =>
    cases x with
    | none => exact h.elim
    | some i => exact ⟨_, po_some pe_we, fun s1 k Q q => (show Ev X e σ s i from h) s1 k _ fun v s2 k2 r2 => ⟨i, r2, q s2 k2⟩⟩
theorem eo_none : EvO X none σ s none := trivial
theorem eo_some {i : Int} (h : Ev X e σ s i) : EvO X (some e) σ s (some i) := h
theorem en_slice {xs : List α} {lo hi : Option Expr} {l h : Option Int} (ha : EvR X a σ s xs) (hl : EvO X lo σ s l) (hh : EvO X hi σ s h) : EvN X (.Subscript a (.Slice lo hi none p2) pos) σ s (cut xs l h) := fun s1 k Q q => by
  obtain ⟨tl, pl, ql⟩ := po_evo hl
  obtain ⟨th, ph, qh⟩ := po_evo hh
  refine we_of (pe_slice sl_list pe_we pl ph) (ha s1 k _ fun v s2 k2 r2 => ql s2 (k.trans k2) _ fun s3 k3 => qh s3 ((k.trans k2).trans k3) _ fun s4 k4 => ?_)
  obtain ⟨p, vs, rfl, h1, h2⟩ := (r2.ex k3).ex k4
  exact ⟨p, vs, rfl, h1, fun l hl => q l (s4.newO l _ hl) (((k2.trans k3).trans k4).trans (Ex.newO hl)) (fr_back ((k2.trans k3).trans k4) hl) (own_new hl (h2.cut _ _))⟩
theorem ev_sliceS {x : Str} {lo hi : Option Expr} {l h : Option Int} (hz : x.length ≤ sizeLine) (ha : Ev X a σ s x) (hl : EvO X lo σ s l) (hh : EvO X hi σ s h) : Ev X (.Subscript a (.Slice lo hi none p2) pos) σ s (cutS x l h) := fun s1 k Q q => by
  obtain ⟨tl, pl, ql⟩ := po_evo hl
  obtain ⟨th, ph, qh⟩ := po_evo hh
  exact we_of (pe_slice sl_str pe_we pl ph) (ha s1 k _ fun v s2 k2 r2 => ql s2 (k.trans k2) _ fun s3 k3 => qh s3 ((k.trans k2).trans k3) _ fun s4 k4 => ⟨x, r2, hz, q _ s4 ((k2.trans k3).trans k4) rfl⟩)
theorem op_catS : OpR X (binaryOp .Add) (fun x y H Q => ∃ l b xs zs, x = .ref l ∧ y = .ref b ∧ SqL X.K H l xs ∧ SqL X.K H b zs ∧ xs.length + zs.length ≤ sizeLine ∧ ∀ p, H p = none → Q (.ref p) (upd H p (.lst (xs ++ zs)))) := by
  intro pins s σ H x y v u Q I rx ry h
  obtain ⟨l, b, xs, zs, rfl, rfl, hH, hB, hz, q⟩ := h
  cases rx
  cases ry
  obtain ⟨its, r, ⟨⟨cls, dd, data, sl⟩, n, ho, hc, hd0, hd⟩, z1⟩ := I.list hH
  obtain ⟨its2, r2, ⟨⟨cls2, dd2, data2, sl2⟩, n2, ho2, hc2, hd02, hd2⟩, z2⟩ := I.list hB
  simp only at hc hd hc2 hd2 hd0 hd02
  subst hc hd hc2 hd2 hd0 hd02
  have e : its.toArray ++ its2.toArray = (its ++ its2).toArray := by simp
  have h1 := r.length
  have h2 := r2.length
  refine concat_meets ⟨_, ho, rfl⟩ ⟨_, ho2, rfl⟩ noFill_list_add seq_list_add PySem.F.slot_list_add PySem.F.entry_list_add (PySem.F.args_list_add_2 _ _) (list_addW l b its.toArray its2.toArray n n2 none none sl sl2 (by rw [List.size_toArray, List.size_toArray]; omega)) ⟨ho, ho2, ?_⟩
  rw [e]
  exact ⟨.ref _, _, I.lnew (t' := s.toks) (r.append r2) (by rw [List.length_append]; omega), rfl, q _ I.fresh⟩
theorem en_cat {xs ys : List α} (ha : EvR X a σ s xs) (hb : EvR X b σ s ys) (hz : xs.length + ys.length ≤ sizeLine) : EvN X (.BinOp a .Add b pos) σ s (xs ++ ys) := fun s1 k Q q =>
  we_of (pe_op op_catS pe_we pe_we) (ha s1 k _ fun v s2 k2 r2 => hb s2 (k.trans k2) _ fun u s3 k3 r3 => by
    obtain ⟨p, vs, rfl, h1, h2⟩ := r2.ex k3
    obtain ⟨p', ws, rfl, h3, h4⟩ := r3
    exact ⟨p, p', vs, ws, rfl, rfl, h1, h3, by rw [h2.len, h4.len]; exact hz, fun l hl => q l (s3.newO l _ hl) ((k2.trans k3).trans (Ex.newO hl)) (fr_back (k2.trans k3) hl) (own_new hl (h2.app h4))⟩)
def repl {τ : Type} (n : Int) (xs : List τ) : List τ := (List.replicate n.toNat xs).flatten
theorem Reps.repF {K : PySem.W.Frag} {F : Hp} {vs : List V} {xs : List α} (r : Reps K F vs xs) (n : Nat) : Reps K F (List.replicate n vs).flatten (List.replicate n xs).flatten := by
  induction n with
  | zero => exact trivial
  | succ n ih => rw [List.replicate_succ, List.replicate_succ, List.flatten_cons, List.flatten_cons]; exact r.app ih
def RepOk (n : Int) (l : Nat) : Prop := -(2 ^ 63) ≤ n ∧ n < 2 ^ 63 ∧ l * n.toNat ≤ sizeLine
theorem en_rep {xs : List α} {n : Int} (ha : EvN X a σ s xs) (hb : ∀ t, Ex s t → Ev X b σ t n) (hz : RepOk n xs.length) : EvN X (.BinOp a .Mult b pos) σ s (repl n xs) := fun s1 k Q q =>
  we_of (pe_op op_rep pe_we pe_we) (ha s1 k _ fun p s2 k2 n2 o2 => hb s2 (k.trans k2) s2 (Ex.refl _) _ fun u s3 k3 r3 => by
    obtain ⟨_, vs, h1, h2⟩ := o2.ex k3
    exact ⟨p, n, vs, rfl, r3, h1, hz.1, hz.2.1, by rw [h2.len]; exact hz.2.2, fun l hl => q l (s3.newO l _ hl) ((k2.trans k3).trans (Ex.newO hl)) (fr_back (k2.trans k3) hl) (own_new hl (h2.repF _))⟩)
theorem en_sorted {xs : List Int} (hm : X.mg "sorted" = none) (ha : EvR X e σ s xs) (hg : Gl X "sorted" := by rfl) (he : starEach [e] X.env = (false, eval e X.env) :: starEach [] X.env := by rfl) (hpl : (backTo pos (starEach [] X.env)).any (·.1) = false := by rfl) :
    EvN X (.Call (.Name "sorted" p0) [e] [] pos) σ s (xs.mergeSort (fun x y => decide (x ≤ y))) := fun s1 k Q q =>
  we_of (pe_callB cr_sortedI hg hm (by decide +kernel) (pa_cons pe_we pa_nil he) (he := he) (hpl := hpl)) (ha s1 k _ fun v s2 k2 r2 => by
    obtain ⟨p, vs, rfl, h1, h2⟩ := r2
    rw [h2.flat] at h1
    refine ⟨p, xs, rfl, h1, fun ys l hp hs hl => ?_⟩
    have e1 : ys = xs.mergeSort (fun x y => decide (x ≤ y)) := by
      refine List.Perm.eq_of_pairwise (le := fun x y : Int => x ≤ y) (fun a b _ _ h h' => Int.le_antisymm h h') hs ?_ (hp.trans (List.mergeSort_perm _ _).symm)
      have := List.pairwise_mergeSort (le := fun x y : Int => decide (x ≤ y)) (fun a b c h1 h2 => by simp at *; omega) (fun a b => by simp; omega) xs
      exact this.imp (by simp)
    subst e1
    exact q l (s2.newO l _ hl) (k2.trans (Ex.newO hl)) (fr_back k2 hl) (own_new hl (Reps.of_flat _)))
theorem en_split {x y : Str} (ha : Ev X a σ s x) (hb : Ev X b σ s y) (h1 : (y.length == 0) = false) (h2 : x.length + 2 ≤ sizeLine) (hs : starEach [b] X.env = [(false, eval b X.env)] := by rfl) (hbase : attributeBase a "split" X.env (eval a X.env) = eval a X.env := by rfl) (hline : (p1.endLine == pos.line) = true := by rfl) :
    EvN X (.Call (.Attribute a "split" p1) [b] [] pos) σ s (Txt.split x y) := fun s1 k Q q =>
  we_of (pe_split pe_we pe_we hs hbase hline) (ha s1 k _ fun v s2 k2 r2 => ⟨⟨x, r2⟩, hb s2 (k.trans k2) _ fun u s3 k3 r3 => ⟨x, y, r2, by rw [show u = V.str y from r3], h1, h2, fun l hl =>
    q l (s3.newO l _ hl) ((k2.trans k3).trans (Ex.newO hl)) (fr_back (k2.trans k3) hl) (own_new hl (Reps.of_flat _))⟩⟩)
def JnOk (x : Str) (ys : List Str) : Prop := (ys.map (·.length)).sum + ys.length * x.length ≤ 16777216
theorem ev_join {x : Str} {ys : List Str} (ha : Ev X a σ s x) (hb : EvR X b σ s ys) (h : JnOk x ys) (hs : starEach [b] X.env = [(false, eval b X.env)] := by rfl) (hbase : attributeBase a "join" X.env (eval a X.env) = eval a X.env := by rfl) (hline : (p1.endLine == pos.line) = true := by rfl) :
    Ev X (.Call (.Attribute a "join" p1) [b] [] pos) σ s (Txt.join x ys) := fun s1 k Q q =>
  we_of (pe_join pe_we pe_we hs hbase hline) (ha s1 k _ fun v s2 k2 r2 => ⟨⟨x, r2⟩, hb s2 (k.trans k2) _ fun u s3 k3 r3 => by
    obtain ⟨p, vs, rfl, h1, h2⟩ := r3
    obtain rfl := h2.flat
    exact ⟨x, p, ys, r2, rfl, .inl h1, h, q _ s3 (k2.trans k3) rfl⟩⟩)
def ixOf {τ : Type} [DecidableEq τ] (x : τ) : List τ → Option Nat
  | [] => none
  | y :: ys => if y = x then some 0 else (ixOf x ys).map (· + 1)
theorem ixOf_some {τ : Type} [DecidableEq τ] {x : τ} : ∀ {ys : List τ} {j : Nat}, ixOf x ys = some j → ys[j]? = some x ∧ ∀ m z, m < j → ys[m]? = some z → z ≠ x
  | [], _, h => by cases h
  | y :: ys, j, h => by
    unfold ixOf at h
    split at h
    · rename_i e; cases h; exact ⟨by simp [e], fun m z hm => absurd hm (Nat.not_lt_zero _)⟩
    · rename_i e
      obtain ⟨i, h1, rfl⟩ := Option.map_eq_some_iff.mp h
      obtain ⟨h2, h3⟩ := ixOf_some h1
      refine ⟨by simpa using h2, fun m z hm hz => ?_⟩
      cases m with
      | zero => simp at hz; subst hz; exact e
      | succ m => exact h3 m z (by omega) (by simpa using hz)
theorem ev_index {ε : Type} [Eqs ε] [DecidableEq ε] {x : ε} {xs : List ε} {j : Nat} (ha : EvR X a σ s xs) (hb : Ev X b σ s x) (h : ixOf x xs = some j)
    (hbase : attributeBase a "index" X.env (eval a X.env) = eval a X.env := by rfl)
    (hfew : ((backTo pos (starEach [b] X.env)).all (fun x => !x.1) && (backToKw pos (keywordEach [] X.env)).all (fun x => x.1.isSome) && decide (([b] : List Expr).length + ([] : List Keyword).length + (if ([] : List Keyword).isEmpty then 0 else 1) < 30)) = true := by rfl)
    (hline : (p1.endLine == pos.line) = true := by rfl) (hs : starEach [b] X.env = (false, eval b X.env) :: starEach [] X.env := by rfl) (hplain : (backTo pos (starEach [] X.env)).any (·.1) = false := by rfl) :
    Ev X (.Call (.Attribute a "index" p1) [b] [] pos) σ s (j : Int) := fun s1 k Q q =>
  we_of (pe_bm PySem.F.plainAttrs_list PySem.F.slot_list_index PySem.F.type_list_index mt_index pe_we (pa_cons pe_we pa_nil hs) hbase hfew hline hs hplain) (ha s1 k _ fun v s2 k2 r2 => by
    obtain ⟨p, vs, rfl, h1, h2⟩ := r2
    obtain rfl := h2.flat
    refine ⟨.inl ⟨rfl, _, h1⟩, hb s2 (k.trans k2) _ fun u s3 k3 r3 => ?_⟩
    rw [Flat.iff.mp r3]
    obtain ⟨h3, h4⟩ := ixOf_some h
    refine ⟨p, _, toV x, j, toV x, rfl, rfl, sql_mono k3.h h1, Flat.flat x, flat_all xs, by rw [List.getElem?_map, h3]; rfl, (Flat.inj x x).mpr rfl, fun m z hm hz => ?_, q _ s3 (k2.trans k3) rfl⟩
    rw [List.getElem?_map] at hz
    obtain ⟨y, h5, rfl⟩ := Option.map_eq_some_iff.mp hz
    exact Bool.eq_false_iff.mpr fun z => h4 m y hm h5 ((Flat.inj y x).mp z))

structure Cal (P : Program) (w : World) (K : PySem.W.Frag) (mg : Str → Option Value) (base : Heap) (CX : CXT) (k : Nat) (x : Str) (q : Sp) : Prop where
  ex : ∃ (f : Addr) (fd : FuncData) (ps : List Str), FnOk P w K mg base CX k f fd ps q ∧ mg x = some (.ref f) ∧ PySem.W.keepIn K (.ref f) = true ∧ Binds K fd ps []
theorem pe_c0 {n : Str} {k j : Nat} {q : Sp} {ta : TA} (C : Cal X.prog X.w X.K X.mg X.base CX0 k n q) (hr : Room j X.A) (hk : k ≤ j) (hg : Gl X n) (ha : PA X (e :: es) ta) (hdb : (n == ("__debug__" : Str)) = false := by decide)
    (he : starEach (e :: es) X.env = (false, eval e X.env) :: starEach es X.env := by rfl) (hpl : (backTo pos (starEach es X.env)).any (·.1) = false := by rfl) : PE X (.Call (.Name n p0) (e :: es) [] pos) (tCall q [] E0 ta) := by
  obtain ⟨f, fd, ps, F, hm, kp, b⟩ := C.ex
  exact pe_call F (hr.mono hk) hg hm kp b .nil pass0 ha hdb he hpl
def sp {A : Type} [EncA A] {ρ : Type} [Enc ρ] (K : PySem.W.Frag) (m : A → Option ρ) : Sp := fun vs H Q _ => ∃ (s : S) (x : A) (r : ρ), s.H = H ∧ repA K s.F vs x ∧ m x = some r ∧ ∀ v s', Ex s s' → rep K s'.F v r → Q v s'.H
def spN {A : Type} [EncA A] {ρ : Type} [Enc ρ] (K : PySem.W.Frag) (m : A → Option (List ρ)) : Sp := fun vs H Q _ => ∃ (s : S) (x : A) (r : List ρ), s.H = H ∧ repA K s.F vs x ∧ m x = some r ∧ ∀ p s', Ex s s' → s.H p = none → Own K s' p r → Q (.ref p) s'.H
theorem ev_call {A : Type} [EncA A] {m : A → Option α} {n : Str} {k j : Nat} {x : A} {r : α} (C : Cal X.prog X.w X.K X.mg X.base CX0 k n (sp X.K m)) (hr : Room j X.A) (hk : k ≤ j) (ha : EvA X (e :: es) σ s x) (h : m x = some r) (hg : Gl X n := by rfl)
    (hdb : (n == ("__debug__" : Str)) = false := by decide) (he : starEach (e :: es) X.env = (false, eval e X.env) :: starEach es X.env := by rfl) (hpl : (backTo pos (starEach es X.env)).any (·.1) = false := by rfl) : Ev X (.Call (.Name n p0) (e :: es) [] pos) σ s r := fun s1 k1 Q q =>
  we_of (pe_c0 C hr hk hg pa_wa hdb he hpl) (ha s1 k1 _ fun vs s2 k2 r2 => ⟨s2, x, r, rfl, by rw [List.append_nil]; exact r2, h, fun v s3 k3 r3 => q v s3 (k2.trans k3) r3⟩)
theorem en_call {A : Type} [EncA A] {m : A → Option (List α)} {n : Str} {k j : Nat} {x : A} {r : List α} (C : Cal X.prog X.w X.K X.mg X.base CX0 k n (spN X.K m)) (hr : Room j X.A) (hk : k ≤ j) (ha : EvA X (e :: es) σ s x) (h : m x = some r) (hg : Gl X n := by rfl)
    (hdb : (n == ("__debug__" : Str)) = false := by decide) (he : starEach (e :: es) X.env = (false, eval e X.env) :: starEach es X.env := by rfl) (hpl : (backTo pos (starEach es X.env)).any (·.1) = false := by rfl) : EvN X (.Call (.Name n p0) (e :: es) [] pos) σ s r := fun s1 k1 Q q =>
  we_of (pe_c0 C hr hk hg pa_wa hdb he hpl) (ha s1 k1 _ fun vs s2 k2 r2 => ⟨s2, x, r, rfl, by rw [List.append_nil]; exact r2, h, fun v s3 k3 n3 r3 => q v s3 (k2.trans k3) (fr_back k2 n3) r3⟩)
end
end Dy

namespace Dy
open PySem PySem.Spec L2
open PyProof.Rows hiding St
open Enc (rep)
open Flat (toV)
open EncA (repA)

noncomputable def chk {α : Type} (c : Prop) (m : Option α) : Option α := open Classical in if c then m else none
theorem chk_pos {α : Type} {c : Prop} {m : Option α} (h : c) : chk c m = m := by unfold chk; exact if_pos h
theorem chkE {α : Type} {c : Prop} {m : Option α} {r : α} (h : chk c m = some r) : c ∧ m = some r := by
  unfold chk at h
  split at h
  · rename_i hc; exact ⟨hc, h⟩
  · cases h
def lt {α β : Type} (x : α) (f : α → Option β) : Option β := f x
theorem ltE {α β : Type} {x : α} {f : α → Option β} {r : β} (h : lt x f = some r) : ∃ y, y = x ∧ f y = some r := ⟨x, rfl, h⟩
abbrev bnd {α β : Type} (m : Option α) (f : α → Option β) : Option β := m.bind f
theorem bndE {α β : Type} {m : Option α} {f : α → Option β} {r : β} (h : bnd m f = some r) : ∃ y, m = some y ∧ f y = some r := by
  cases m with
  | none => cases h
  | some y => exact ⟨y, rfl, h⟩
theorem iteE1 {α : Type} {b : Bool} {m k : Option α} {r : α} (h : (if b = true then m else k) = some r) (e : b = true) : m = some r := by rw [if_pos e] at h; exact h
theorem iteE2 {α : Type} {b : Bool} {m k : Option α} {r : α} (h : (if b = true then m else k) = some r) (e : b = false) : k = some r := by rw [if_neg (by rw [e]; exact Bool.false_ne_true)] at h; exact h
def andO (a : Bool) (m : Option Bool) : Option Bool := if a = true then m else some false
def orO (a : Bool) (m : Option Bool) : Option Bool := if a = true then some true else m
theorem andE {a r : Bool} {m : Option Bool} (h : andO a m = some r) : (a = true → m = some r) ∧ (a = false → r = false) := by
  unfold andO at h
  cases a with
  | true => exact ⟨fun _ => h, fun z => Bool.noConfusion z⟩
  | false => exact ⟨fun z => Bool.noConfusion z, fun _ => (Option.some.inj h).symm⟩
theorem orE {a r : Bool} {m : Option Bool} (h : orO a m = some r) : (a = false → m = some r) ∧ (a = true → r = true) := by
  unfold orO at h
  cases a with
  | false => exact ⟨fun _ => h, fun z => Bool.noConfusion z⟩
  | true => exact ⟨fun z => Bool.noConfusion z, fun _ => (Option.some.inj h).symm⟩
inductive Fl (β ρ : Type) where
  | nx (b : β)
  | rt (r : ρ)
def foldO {α β : Type} (f : β → α → Option β) : β → List α → Option β
  | b, [] => some b
  | b, x :: r => (f b x).bind fun b' => foldO f b' r
def foldF {α β ρ : Type} (f : β → α → Option (Fl β ρ)) : β → List α → Option (Fl β ρ)
  | b, [] => some (.nx b)
  | b, x :: r => (f b x).bind fun o => match o with
    | .nx b' => foldF f b' r
    | .rt v => some (.rt v)
def whileO {β : Type} (c : β → Option Bool) (f : β → Option β) : Nat → β → Option β
  | 0, _ => none
  | n + 1, b => (c b).bind fun t => if t = true then (f b).bind fun b' => whileO c f n b' else some b
def whileF {β ρ : Type} (c : β → Option Bool) (f : β → Option (Fl β ρ)) : Nat → β → Option (Fl β ρ)
  | 0, _ => none
  | n + 1, b => (c b).bind fun t => if t = true then (f b).bind fun o => (match o with
    | .nx b' => whileF c f n b'
    | .rt v => some (.rt v)) else some (.nx b)
def compO {α β : Type} (t : α → Option Bool) (f : α → Option β) : List α → Option (List β)
  | [] => some []
  | x :: r => (t x).bind fun b => if b = true then (f x).bind fun y => (compO t f r).bind fun ys => some (y :: ys) else compO t f r
theorem compO_pure {α β : Type} (t : α → Bool) (f : α → β) : ∀ xs : List α, compO (fun x => some (t x)) (fun x => some (f x)) xs = some ((xs.filter t).map f)
  | [] => rfl
  | x :: r => by
    unfold compO
    rw [Option.bind_some, compO_pure t f r, List.filter_cons]
    split
    · rfl
    · rfl
theorem compO_map {α β : Type} (f : α → β) : ∀ xs : List α, compO (fun _ => some true) (fun x => some (f x)) xs = some (xs.map f)
  | [] => rfl
  | x :: r => by
    unfold compO
    rw [Option.bind_some, compO_map f r]
    rfl
def mapO {α β : Type} (f : α → Option β) (xs : List α) : Option (List β) := compO (fun _ => some true) f xs

def WI (X : Cx) (tg iter : Expr) : TI := fun σ H R => ∀ (pins : List (Addr × Obj)) (s : Shared), Inv X pins σ H s →
  wpAny (model X.prog X.w) X.A (eval iter X.env) (fun v s1 => wpAny (model X.prog X.w) X.A (pyIter v) (PIE X pins σ tg R) X.xe s1) X.xe s
theorem pi_wi {X : Cx} {tg iter : Expr} : PI X tg iter (WI X tg iter) := ⟨fun pins s _ _ _ I h => h pins s I⟩
theorem wi_of {X : Cx} {tg iter : Expr} {t : TI} {σ : St} {H : Hp} {R : It → Hp → Prop} (h : PI X tg iter t) (q : t σ H R) : WI X tg iter σ H R := fun pins s I => h.run pins s σ H R I q
section
variable {α β γ δ : Type} [Enc α] [Enc β] [Enc γ] [Enc δ] {X : Cx} {σ : St} {s t : S} {e a b c tg : Expr} {es : List Expr} {pos p0 p1 p2 p3 : Pos}
structure Walk (K : PySem.W.Frag) (F : Hp) (J : It) (xs : List α) : Prop where
  go : ∀ (i : Nat) (t : S) (x : α), Fle F t.F → xs[i]? = some x → J.go i t.H ∧ ∀ v H', J.yld i t.H v H' → ∃ t' : S, t'.H = H' ∧ Ex t t' ∧ rep K t'.F v x
  stop : ∀ (i : Nat) (t : S), Fle F t.F → xs.length ≤ i → J.stop i t.H
def EvI (X : Cx) (tg e : Expr) (σ : St) (s : S) (xs : List α) : Prop := ∀ s1, Ex s s1 → ∀ R : It → Hp → Prop, (∀ J s2, Ex s1 s2 → Walk X.K s2.F J xs → R J s2.H) → WI X tg e σ s1.H R
theorem ei_list {xs : List α} (h : Ev X e σ s xs) : EvI X tg e σ s xs := fun s1 k R q =>
  wi_of (pi_list pe_we) (h s1 k _ fun v s2 k2 r2 => by
    obtain ⟨p, vs, rfl, h1, h2⟩ := r2
    refine ⟨p, rfl, ⟨vs, sql_mono s2.sub h1⟩, q _ s2 k2 ⟨fun i t x f hx => ?_, fun i t f hi => ⟨vs, sql_mono t.sub (sql_mono f h1), by rw [h2.len]; exact hi⟩⟩⟩
    obtain ⟨v, h3, h4⟩ := h2.get hx
    refine ⟨⟨vs, v, sql_mono t.sub (sql_mono f h1), h3⟩, fun w H' ⟨e1, hy⟩ => ⟨t, e1.symm, Ex.refl _, ?_⟩⟩
    have := hy vs (sql_mono t.sub (sql_mono f h1))
    rw [h3] at this
    cases this
    exact Enc.mono f h4)
theorem ei_tup {xs : Tu α} (h : Ev X e σ s xs) : EvI X tg e σ s xs.l := fun s1 k R q =>
  wi_of (pi_tup pe_we) (h s1 k _ fun v s2 k2 r2 => by
    obtain ⟨p, vs, rfl, h1, h2⟩ := r2
    refine ⟨p, rfl, ⟨vs, sqt_mono s2.sub h1⟩, q _ s2 k2 ⟨fun i t x f hx => ?_, fun i t f hi => ⟨vs, sqt_mono t.sub (sqt_mono f h1), by rw [h2.len]; exact hi⟩⟩⟩
    obtain ⟨v, h3, h4⟩ := h2.get hx
    refine ⟨⟨vs, v, sqt_mono t.sub (sqt_mono f h1), h3⟩, fun w H' ⟨e1, hy⟩ => ⟨t, e1.symm, Ex.refl _, ?_⟩⟩
    have := hy vs (sqt_mono t.sub (sqt_mono f h1))
    rw [h3] at this
    cases this
    exact Enc.mono f h4)
theorem rng_get {a b : Int} {i : Nat} {x : Int} (h : (rng a b)[i]? = some x) : i < (b - a).toNat ∧ x = a + (i : Int) := by
  unfold rng at h
  rw [List.getElem?_map] at h
  obtain ⟨j, h1, rfl⟩ := Option.map_eq_some_iff.mp h
  obtain ⟨h2, h3⟩ := List.getElem?_eq_some_iff.mp h1
  rw [List.length_range] at h2
  rw [List.getElem_range] at h3
  subst h3
  exact ⟨h2, rfl⟩
theorem rng_len (a b : Int) : (rng a b).length = (b - a).toNat := by unfold rng; rw [List.length_map, List.length_range]
theorem walk_rng {K : PySem.W.Frag} {F : Hp} {a b : Int} : Walk K F (Itr a (b - a).toNat) (rng a b) :=
  ⟨fun i t x f hx => ⟨(rng_get hx).1, fun v H' ⟨e1, e2⟩ => ⟨t, e1.symm, Ex.refl _, by rw [e2, (rng_get hx).2]; rfl⟩⟩, fun i t f hi => by rw [rng_len] at hi; exact hi⟩
def RgB (x : Int) : Prop := -(2 ^ 62) ≤ x ∧ x < 2 ^ 62
theorem ei_range1 {n : Int} (hm : X.mg "range" = none) (h : Ev X e σ s n) (hb : RgB n) (hg : Gl X "range" := by rfl) (hs : starEach [e] X.env = [(false, eval e X.env)] := by rfl) (hs2 : starEach [e] X.env = (false, eval e X.env) :: starEach [] X.env := by rfl) :
    EvI X tg (.Call (.Name "range" p0) [e] [] pos) σ s (rng 0 n) := fun s1 k R q =>
  wi_of (pi_range1 hg hm (pa_cons pe_we pa_nil hs2) hs) (h s1 k _ fun v s2 k2 r2 => ⟨n, by rw [show v = V.int n from r2], hb.1, hb.2, q _ s2 k2 (by
    have := walk_rng (K := X.K) (F := s2.F) (a := 0) (b := n)
    rw [Int.sub_zero] at this
    exact this)⟩)
theorem ei_range2 {m n : Int} (hm : X.mg "range" = none) (ha : Ev X a σ s m) (hb : Ev X b σ s n) (h1 : RgB m) (h2 : RgB n) (hg : Gl X "range" := by rfl) (hs : starEach [a, b] X.env = [(false, eval a X.env), (false, eval b X.env)] := by rfl) (hs2 : starEach [b] X.env = [(false, eval b X.env)] := by rfl)
    (hs3 : starEach [a, b] X.env = (false, eval a X.env) :: starEach [b] X.env := by rfl) (hs4 : starEach [b] X.env = (false, eval b X.env) :: starEach [] X.env := by rfl) :
    EvI X tg (.Call (.Name "range" p0) [a, b] [] pos) σ s (rng m n) := fun s1 k R q =>
  wi_of (pi_range2 hg hm (pa_cons pe_we (pa_cons pe_we pa_nil hs4) hs3) hs hs2) (ha s1 k _ fun v s2 k2 r2 => hb s2 (k.trans k2) _ fun u s3 k3 r3 => ⟨m, n, by rw [show v = V.int m from r2, show u = V.int n from r3], ⟨h1.1, h1.2, h2.1, h2.2⟩, q _ s3 (k2.trans k3) walk_rng⟩)
def chars (x : Str) : List Str := x.cps.toList.map fun c => ⟨#[c]⟩
theorem ei_str {x : Str} (h : Ev X e σ s x) : EvI X tg e σ s (chars x) := fun s1 k R q =>
  wi_of (pi_str pe_we) (h s1 k _ fun v s2 k2 r2 => ⟨x, r2, q _ s2 k2 ⟨fun i t y f hy => by
    unfold chars at hy
    rw [List.getElem?_map] at hy
    obtain ⟨c, h1, rfl⟩ := Option.map_eq_some_iff.mp hy
    have h1' : x.cps[i]? = some c := by simpa using h1
    refine ⟨?_, fun v H' ⟨e1, d, h2, h3⟩ => ⟨t, e1.symm, Ex.refl _, ?_⟩⟩
    · obtain ⟨z, _⟩ := Array.getElem?_eq_some_iff.mp h1'
      exact z
    · rw [h1'] at h2
      cases h2
      exact h3, fun i t f hi => by
    unfold chars at hi
    rw [List.length_map, Array.length_toList] at hi
    exact hi⟩⟩)
end

structure Tgt {α : Type} [Enc α] (K : PySem.W.Frag) (g : TG) (B : Hp → α → St → St → Prop) : Prop where
  run : ∀ (t : S) (v : V) (x : α) (σ : St) (Q : St → Hp → Prop), rep K t.F v x → (∀ σ2, B t.F x σ σ2 → Q σ2 t.H) → g v σ t.H Q
def BN {α : Type} [Enc α] (K : PySem.W.Frag) (j : Nat) : Hp → α → St → St → Prop := fun F x σ σ2 => ∃ v, rep K F v x ∧ σ2 = σ.set j (some v)
def B2 {α β : Type} [Enc α] [Enc β] (K : PySem.W.Frag) (i j : Nat) : Hp → α × β → St → St → Prop := fun F x σ σ2 => ∃ v w, rep K F v x.1 ∧ rep K F w x.2 ∧ σ2 = (σ.set i (some v)).set j (some w)
def B3 {α β γ : Type} [Enc α] [Enc β] [Enc γ] (K : PySem.W.Frag) (i j k : Nat) : Hp → T3 α β γ → St → St → Prop := fun F x σ σ2 => ∃ v w u, rep K F v x.a ∧ rep K F w x.b ∧ rep K F u x.c ∧ σ2 = ((σ.set i (some v)).set j (some w)).set k (some u)
theorem tg_n {α : Type} [Enc α] {K : PySem.W.Frag} {j : Nat} : Tgt (α := α) K (gName j) (BN K j) := ⟨fun t v x σ Q r h => h _ ⟨v, r, rfl⟩⟩
theorem tg_2 {α β : Type} [Enc α] [Enc β] {K : PySem.W.Frag} {i j : Nat} : Tgt (α := α × β) K (gTup K 2 (gCons (gName i) (gCons (gName j) gNil))) (B2 K i j) := ⟨fun t v x σ Q r h => by
  obtain ⟨p, v1, v2, rfl, h0, h1, h2⟩ := r
  exact ⟨p, _, rfl, sqt_mono t.sub h0, rfl, v1, _, rfl, v2, _, rfl, rfl, h _ ⟨v1, v2, h1, h2, rfl⟩⟩⟩
theorem tg_3 {α β γ : Type} [Enc α] [Enc β] [Enc γ] {K : PySem.W.Frag} {i j k : Nat} : Tgt (α := T3 α β γ) K (gTup K 3 (gCons (gName i) (gCons (gName j) (gCons (gName k) gNil)))) (B3 K i j k) := ⟨fun t v x σ Q r h => by
  obtain ⟨p, v1, v2, v3, rfl, h0, h1, h2, h3⟩ := r
  exact ⟨p, _, rfl, sqt_mono t.sub h0, rfl, v1, _, rfl, v2, _, rfl, v3, _, rfl, rfl, h _ ⟨v1, v2, v3, h1, h2, h3, rfl⟩⟩⟩

section
variable {α β : Type} [Enc α] [Enc β] {X : Cx} {σ : St} {s : S} {elt tg iter c : Expr} {ifs : List Expr} {scope : Scope} {own : List (Str × Nat)} {pos : Pos}
abbrev Blk (X : Cx) (scope : Scope) (s0 : Shared) (H0 : Hp) (C : Addr) (cl : List (Str × Addr)) (fp : List Addr) : Cx := X.blk s0 H0 scope (compEnvC scope cl C X.env) fp
theorem comp_read {xs : List α} {ys : List β} {t : α → Option Bool} {f : α → Option β} {g : TG} {B : Hp → α → St → St → Prop} {tt : TT} (hc : X.calm = true) (hN : X.N.Nodup) (hi : EvI X tg iter σ s xs) (ok : BlkOk X.N X.env.scope scope own)
    (hg : ∀ s0 H0 C cl fp, PG (Blk X scope s0 H0 C cl fp) tg g) (T : Tgt (α := α) X.K g B) (htt : ∀ s0 H0 C cl fp, PTs (Blk X scope s0 H0 C cl fp) ifs tt) (hf : compO t f xs = some ys) (hz : ys.length ≤ sizeLine)
    (hw : ∀ (F : Hp) (x : α) σ2, B F x (wipe σ (own.map (·.2))) σ2 → wipe σ2 (own.map (·.2)) = wipe σ (own.map (·.2)))
    (ht : ∀ (x : α) (b : Bool) (s1 : S) (σ2 : St) (Q : Bool → Hp → Prop), x ∈ xs → Ex s s1 → B s1.F x (wipe σ (own.map (·.2))) σ2 → t x = some b → (∀ s2, Ex s1 s2 → Q b s2.H) → tt σ2 s1.H Q)
    (he : ∀ (x : α) (y : β) (s1 : S) (σ2 : St), x ∈ xs → Ex s s1 → B s1.F x (wipe σ (own.map (·.2))) σ2 → t x = some true → f x = some y → ∀ s0 H0 C cl fp, Ev (Blk X scope s0 H0 C cl fp) elt σ2 s1 y)
    (s1 : S) (k : Ex s s1) (Q : VK) (q : ∀ p s2, Ex s1 s2 → s1.H p = none → Own X.K s2 p ys → Q (.ref p) s2.H) : tLc (WI X tg iter) g tt (fun σ H Q => ∀ s0 H0 C cl fp, WE (Blk X scope s0 H0 C cl fp) elt σ H Q) (own.map (·.2)) σ s1.H Q := by
  refine hi s1 k _ fun J s2 k2 W => ?_
  intro D hD
  refine ⟨fun i m H => ∃ (u : S) (pre : List β) (vs : List V), u.H = H ∧ m = xs.length - i ∧ Ex s2 u ∧ u.F D = none ∧ u.H D = some (.lst vs) ∧ Reps X.K u.F vs pre ∧ (∃ suf, compO t f (xs.drop i) = some suf ∧ pre ++ suf = ys), ⟨xs.length, s2.newO D (.lst []) hD, [], [], rfl, rfl, Ex.newO hD, (fF hD : s2.F D = none), upd_same, trivial, ys, hf, rfl⟩, ?_⟩
  rintro i m H ⟨u, pre, vs, rfl, rfl, ku, n1, n2, n3, suf, h1, h2⟩
  by_cases hi' : i < xs.length
  · right
    have hx : xs[i]? = some xs[i] := List.getElem?_eq_getElem hi'
    obtain ⟨g1, g2⟩ := W.go i u xs[i] ku.f hx
    refine ⟨g1, fun H' => ∃ m', m' < xs.length - i ∧ ∃ (u : S) (pre : List β) (vs : List V), u.H = H' ∧ m' = xs.length - (i + 1) ∧ Ex s2 u ∧ u.F D = none ∧ u.H D = some (.lst vs) ∧ Reps X.K u.F vs pre ∧ (∃ suf, compO t f (xs.drop (i + 1)) = some suf ∧ pre ++ suf = ys), fun H' z => z, fun v H' hy => ?_⟩
    obtain ⟨u', rfl, ku', rv⟩ := g2 v H' hy
    refine T.run u' v xs[i] _ _ rv fun σ2 hB => ⟨hw _ _ _ hB, ?_⟩
    rw [List.drop_eq_getElem_cons hi'] at h1
    unfold compO at h1
    cases hb : t xs[i] with
    | none => rw [hb] at h1; cases h1
    | some b =>
      rw [hb, Option.bind_some] at h1
      have mem : xs[i] ∈ xs := List.getElem_mem hi'
      have base : Ex s u' := (k.trans k2).trans (ku.trans ku')
      refine ht xs[i] b u' σ2 _ mem base hB hb fun u3 k3 => ?_
      have hlt : xs.length - (i + 1) < xs.length - i := by omega
      have kk : Ex u u3 := ku'.trans k3
      cases b with
      | false =>
        rw [if_neg Bool.false_ne_true] at h1 ⊢
        exact ⟨_, hlt, u3, pre, vs, rfl, rfl, ku.trans kk, kk.n _ _ n2 n1, kk.h _ _ n2, n3.mono kk.f, suf, h1, h2⟩
      | true =>
        rw [if_pos rfl] at h1 ⊢
        cases hfx : f xs[i] with
        | none => rw [hfx] at h1; cases h1
        | some y =>
          rw [hfx, Option.bind_some] at h1
          cases hr : compO t f (xs.drop (i + 1)) with
          | none => rw [hr] at h1; cases h1
          | some suf' =>
            rw [hr] at h1
            cases h1
            intro s0 H0 C cl fp
            refine he xs[i] y u' σ2 mem base hB hb hfx s0 H0 C cl fp u3 k3 _ fun w u4 k4 r4 => ?_
            have k5 : Ex u u4 := kk.trans k4
            have hD4 : u4.H D = some (.lst vs) := k5.h _ _ n2
            have hF4 : u4.F D = none := k5.n _ _ n2 n1
            have hlen : vs.length < sizeLine := by
              have e1 := n3.len
              have e2 : ys.length = pre.length + (suf'.length + 1) := by rw [← h2, List.length_append, List.length_cons]
              omega
            refine ⟨vs, hD4, hlen, _, hlt, u4.put D (.lst (vs ++ [w])) hF4, pre ++ [y], vs ++ [w], rfl, rfl, (ku.trans k5).mu1 (Mx.put hF4) hD, hF4, upd_same, (n3.mono k5.f).snoc r4, suf', rfl, by rw [List.append_assoc]; exact h2⟩
  · left
    have hd : xs.drop i = [] := List.drop_eq_nil_of_le (by omega)
    rw [hd] at h1
    cases h1
    refine ⟨W.stop i u ku.f (by omega), q D u (k2.trans ku) (fr_back k2 hD) ⟨n1, vs, n2, ?_⟩⟩
    rw [← h2, List.append_nil]
    exact n3
structure EvL (X : Cx) (elt tg iter : Expr) (ifs : List Expr) (scope : Scope) (σ : St) (s : S) (ys : List β) : Prop where
  calm : X.calm = true
  nd : X.N.Nodup
  fs : ∀ x, foldedSetIterable iter X.env x = pure x
  ex : ∃ (own : List (Str × Nat)) (g : TG) (tt : TT), BlkOk X.N X.env.scope scope own ∧ (∀ s0 H0 C cl fp, PG (Blk X scope s0 H0 C cl fp) tg g) ∧ (∀ s0 H0 C cl fp, PTs (Blk X scope s0 H0 C cl fp) ifs tt) ∧
    ∀ s1, Ex s s1 → ∀ Q : VK, (∀ p s2, Ex s1 s2 → s1.H p = none → Own X.K s2 p ys → Q (.ref p) s2.H) → tLc (WI X tg iter) g tt (fun σ H Q => ∀ s0 H0 C cl fp, WE (Blk X scope s0 H0 C cl fp) elt σ H Q) (own.map (·.2)) σ s1.H Q
theorem EvL.n {ys : List β} (h : EvL X elt tg iter ifs scope σ s ys) : EvN X (.ListComp elt [⟨tg, iter, ifs, 0⟩] scope pos) σ s ys := fun s1 k Q q => by
  obtain ⟨own, g, tt, h1, h2, h3, h4⟩ := h.ex
  exact we_of (pe_lc h.calm h.nd pi_wi h1 h2 h3 (fun s0 H0 C cl fp => ⟨fun pins s _ _ _ I h => h s0 H0 C cl fp pins s I⟩) h.fs) (h4 s1 k Q q)
theorem do_setL (i : Nat) {ys : List β} {n : Str} {py : Pos} {rest : List Stmt} {D : Ends} {spos : Pos} (h : EvL X elt tg iter ifs scope σ s ys) (k : ∀ p s1, Ex s s1 → s.H p = none → Own X.K s1 p ys → WSs X rest D (σ.set i (some (.ref p))) s1.H) (hk : X.env.scope.kind = .function) (hy : X.env.scope.names.lookup n = some .local)
    (hl : (py.line == pos.line) = true := by rfl) (ha : (scope.names.any fun (m, k) => m == n && (k == .local || k == .cell)) = false := by decide +kernel) (hi : X.N[i]? = some n := by rfl) :
    WSs X (.Assign [.Name n py] (.ListComp elt [⟨tg, iter, ifs, 0⟩] scope pos) spos :: rest) D σ s.H := by
  obtain ⟨own, g, tt, h1, h2, h3, h4⟩ := h.ex
  exact ws_of (pss_cons (ps_setLc (te := fun σ H Q => ∀ s0 H0 C cl fp, WE (Blk X scope s0 H0 C cl fp) elt σ H Q) h.calm h.nd hi hy (sw_true hk hy hl ha) pi_wi h1 h2 h3 (fun s0 H0 C cl fp => ⟨fun pins s _ _ _ I h => h s0 H0 C cl fp pins s I⟩) h.fs) pss_ws) (h4 s (Ex.refl _) (fun x H1 => WSs X rest D (σ.set i (some x)) H1) fun p s2 k2 n2 o2 => k p s2 k2 n2 o2)
theorem wipe_set {τ : St} {j : Nat} {o : Option V} : ∀ {vs : List Nat}, j ∈ vs → wipe (τ.set j o) vs = wipe τ vs
  | v :: vs, h => by
    show (wipe (τ.set j o) vs).set v none = (wipe τ vs).set v none
    by_cases e : j ∈ vs
    · rw [wipe_set e]
    · have : j = v := by
        rcases List.mem_cons.mp h with z | z
        · exact z
        · exact absurd z e
      subst this
      have : ∀ {ws : List Nat} {τ : St}, j ∉ ws → wipe (τ.set j o) ws = (wipe τ ws).set j o := by
        intro ws
        induction ws with
        | nil => intro τ _; rfl
        | cons a r ih =>
          intro τ h
          show (wipe (τ.set j o) r).set a none = ((wipe τ r).set a none).set j o
          rw [ih fun z => h (List.mem_cons_of_mem _ z), List.set_comm _ _ (fun z => h (by rw [z]; exact List.mem_cons_self))]
      rw [this e, List.set_set]
theorem wipe_wipe {τ : St} : ∀ {vs ws : List Nat}, (∀ v ∈ vs, v ∈ ws) → wipe (wipe τ vs) ws = wipe τ ws
  | [], _, _ => rfl
  | v :: vs, ws, h => by
    show wipe ((wipe τ vs).set v none) ws = wipe τ ws
    rw [wipe_set (h v List.mem_cons_self)]
    exact wipe_wipe fun u hu => h u (List.mem_cons_of_mem _ hu)
theorem en_comp0 {xs : List α} {ys : List β} {f : α → Option β} {j : Nat} {n : Str} {py : Pos} (hc : X.calm = true) (hN : X.N.Nodup) (hi : EvI X (.Name n py) iter σ s xs) (ok : BlkOk X.N X.env.scope scope own) (hj : X.N[j]? = some n)
    (hjo : j ∈ own.map (·.2)) (hg : ∀ s0 H0 C cl fp, PG (Blk X scope s0 H0 C cl fp) (.Name n py) (gName j)) (hf : mapO f xs = some ys) (hz : ys.length ≤ sizeLine)
    (he : ∀ (x : α) (y : β) (v : V) (s1 : S), x ∈ xs → Ex s s1 → rep X.K s1.F v x → f x = some y → ∀ s0 H0 C cl fp, Ev (Blk X scope s0 H0 C cl fp) elt ((wipe σ (own.map (·.2))).set j (some v)) s1 y)
    (hs : ∀ x, foldedSetIterable iter X.env x = pure x := by intro _; rfl) : EvL X elt (.Name n py) iter [] scope σ s ys :=
  ⟨hc, hN, hs, own, _, _, ok, hg, fun _ _ _ _ _ => pts_nil, fun s1 k Q q => comp_read (t := fun _ => some true) hc hN hi ok hg tg_n (fun _ _ _ _ _ => pts_nil) hf hz (fun F x σ2 ⟨v, _, e⟩ => by rw [e, wipe_set hjo]; exact wipe_wipe fun _ z => z)
    (fun x b s1 σ2 Q _ _ _ hb q => by cases hb; exact q s1 (Ex.refl _)) (fun x y s1 σ2 hx k ⟨v, r, e⟩ _ hfx => by subst e; exact he x y v s1 hx k r hfx) s1 k Q q⟩
theorem en_comp1 {xs : List α} {ys : List β} {t : α → Option Bool} {f : α → Option β} {j : Nat} {n : Str} {py : Pos} (hc : X.calm = true) (hN : X.N.Nodup) (hi : EvI X (.Name n py) iter σ s xs) (ok : BlkOk X.N X.env.scope scope own) (hj : X.N[j]? = some n)
    (hjo : j ∈ own.map (·.2)) (hg : ∀ s0 H0 C cl fp, PG (Blk X scope s0 H0 C cl fp) (.Name n py) (gName j)) (hf : compO t f xs = some ys) (hz : ys.length ≤ sizeLine)
    (ht : ∀ (x : α) (b : Bool) (v : V) (s1 : S), x ∈ xs → Ex s s1 → rep X.K s1.F v x → t x = some b → ∀ s0 H0 C cl fp, EvT (Blk X scope s0 H0 C cl fp) c ((wipe σ (own.map (·.2))).set j (some v)) s1 b)
    (he : ∀ (x : α) (y : β) (v : V) (s1 : S), x ∈ xs → Ex s s1 → rep X.K s1.F v x → t x = some true → f x = some y → ∀ s0 H0 C cl fp, Ev (Blk X scope s0 H0 C cl fp) elt ((wipe σ (own.map (·.2))).set j (some v)) s1 y)
    (hs : ∀ x, foldedSetIterable iter X.env x = pure x := by intro _; rfl) : EvL X elt (.Name n py) iter [c] scope σ s ys :=
  ⟨hc, hN, hs, own, _, _, ok, hg, fun s0 H0 C cl fp => pts_one ⟨fun pins s _ _ _ I h => h s0 H0 C cl fp pins s I⟩, fun s1 k Q q => comp_read (tt := fun σ H Q => ∀ s0 H0 C cl fp, WT (Blk X scope s0 H0 C cl fp) c σ H Q) hc hN hi ok hg tg_n (fun s0 H0 C cl fp => pts_one ⟨fun pins s _ _ _ I h => h s0 H0 C cl fp pins s I⟩) hf hz (fun F x σ2 ⟨v, _, e⟩ => by rw [e, wipe_set hjo]; exact wipe_wipe fun _ z => z)
    (fun x b s1 σ2 Q hx k ⟨v, r, e⟩ hb q => by subst e; intro s0 H0 C cl fp; exact ht x b v s1 hx k r hb s0 H0 C cl fp s1 (Ex.refl _) Q q) (fun x y s1 σ2 hx k ⟨v, r, e⟩ htx hfx => by subst e; exact he x y v s1 hx k r htx hfx) s1 k Q q⟩
end
end Dy

namespace Dy
open PySem PySem.Spec L2
open PyProof.Rows hiding St
open Enc (rep)
open Flat (toV)
open EncA (repA)

abbrev MD (D : Ends) (M : St → S → Prop) : Ends := { D with nx := fun σ H => ∃ s : S, s.H = H ∧ M σ s }
abbrev ND (D : Ends) : Ends := { D with nx := fun _ _ => False }
abbrev LD (D : Ends) (M : St → S → Prop) : Ends := { nx := fun σ H => ∃ s : S, s.H = H ∧ M σ s, rt := D.rt }
abbrev RD (Q : VK) : Ends := { nx := fun _ H' => Q .non H', rt := Q }
section
variable {α β γ δ : Type} [Enc α] [Enc β] [Enc γ] [Enc δ] {X : Cx} {σ : St} {s t : S} {e a b c tg iter : Expr} {es : List Expr} {pos p0 p1 p2 p3 : Pos} {D : Ends} {rest A B : List Stmt}
theorem do_nil (h : D.nx σ s.H) : WSs X [] D σ s.H := ws_of pss_nil h
theorem do_cons {st : Stmt} {ts : TS} (h : PS X st ts) (q : ts { D with nx := fun σ' H' => WSs X rest D σ' H' } σ s.H) : WSs X (st :: rest) D σ s.H := ws_of (pss_cons h pss_ws) q
theorem do_set (i : Nat) {x : α} {n : Str} {py : Pos} (h : Ev X e σ s x) (k : ∀ v s1, Ex s s1 → rep X.K s1.F v x → WSs X rest D (σ.set i (some v)) s1.H) (hN : X.N.Nodup) (hx : Loc X.env.scope n := by first | exact Or.inl rfl | exact Or.inr rfl) (hi : X.N[i]? = some n := by rfl)
    (hs : swapsWith e (some (.Name n py)) pos.line X.env = pure false := by rfl) (hf : X.fn n = true ∨ X.env.scope.names.lookup n = some .local := by first | exact .inl rfl | exact .inr rfl) : WSs X (.Assign [.Name n py] e pos :: rest) D σ s.H :=
  do_cons (ps_set hN hi hx pe_we hs hf) (h s (Ex.refl _) _ fun v s1 k1 r => k v s1 k1 r)
theorem do_setN (i : Nat) {xs : List α} {n : Str} {py : Pos} (h : EvN X e σ s xs) (k : ∀ p s1, Ex s s1 → s.H p = none → Own X.K s1 p xs → WSs X rest D (σ.set i (some (.ref p))) s1.H) (hN : X.N.Nodup) (hx : Loc X.env.scope n := by first | exact Or.inl rfl | exact Or.inr rfl) (hi : X.N[i]? = some n := by rfl)
    (hs : swapsWith e (some (.Name n py)) pos.line X.env = pure false := by rfl) (hf : X.fn n = true ∨ X.env.scope.names.lookup n = some .local := by first | exact .inl rfl | exact .inr rfl) : WSs X (.Assign [.Name n py] e pos :: rest) D σ s.H :=
  do_cons (ps_set hN hi hx pe_we hs hf) (h s (Ex.refl _) _ fun v s1 k1 n1 r => k v s1 k1 n1 r)
theorem do_ret {x : α} (h : Ev X e σ s x) (k : ∀ v s1, Ex s s1 → rep X.K s1.F v x → D.rt v s1.H) : WSs X (.Return (some e) pos :: rest) D σ s.H :=
  do_cons (ps_ret pe_we) (h s (Ex.refl _) _ fun v s1 k1 r => k v s1 k1 r)
theorem do_retN {xs : List α} (h : EvN X e σ s xs) (k : ∀ p s1, Ex s s1 → s.H p = none → Own X.K s1 p xs → D.rt (.ref p) s1.H) : WSs X (.Return (some e) pos :: rest) D σ s.H :=
  do_cons (ps_ret pe_we) (h s (Ex.refl _) _ fun v s1 k1 n1 r => k v s1 k1 n1 r)
theorem do_retO (i : Nat) {p : Addr} {n : Str} (h : σ[i]? = some (some (.ref p))) (k : D.rt (.ref p) s.H) (hN : X.N[i]? = some n := by rfl) (hv : Vis X.env.scope n := by first | exact Or.inl rfl | exact Or.inr (Or.inl rfl) | exact Or.inr (Or.inr rfl)) (hd : (n == ("__debug__" : Str)) = false := by decide)
    (hcd : (n == ("__classdict__" : Str)) = false := by decide) : WSs X (.Return (some (.Name n p0)) pos :: rest) D σ s.H :=
  do_cons (ps_ret (pe_var hN hv hd hcd)) ⟨_, h, k⟩
theorem do_if {x : Bool} (hc : EvT X c σ s x) (M : St → S → Prop) (h1 : x = true → ∀ s1, Ex s s1 → WSs X A (MD D M) σ s1.H) (h2 : x = false → ∀ s1, Ex s s1 → WSs X B (MD D M) σ s1.H)
    (h3 : ∀ σ' s', M σ' s' → WSs X rest D σ' s'.H) : WSs X (.If c A B pos :: rest) D σ s.H :=
  do_cons (ps_if pt_wt pss_ws pss_ws) (hc s (Ex.refl _) _ fun s1 k => by
    cases x with
    | true => exact iteT ((h1 rfl s1 k).imp (fun σ' H' ⟨s', e, m⟩ => e ▸ h3 σ' s' m) (fun _ _ q => q) (fun _ _ q => q) fun _ _ q => q)
    | false => exact iteF ((h2 rfl s1 k).imp (fun σ' H' ⟨s', e, m⟩ => e ▸ h3 σ' s' m) (fun _ _ q => q) (fun _ _ q => q) fun _ _ q => q))
theorem do_ifR {x : Bool} (hc : EvT X c σ s x) (h1 : x = true → ∀ s1, Ex s s1 → WSs X A (ND D) σ s1.H) (h2 : x = false → ∀ s1, Ex s s1 → WSs X rest D σ s1.H) : WSs X (.If c A [] pos :: rest) D σ s.H :=
  do_cons (ps_if pt_wt pss_ws pss_nil) (hc s (Ex.refl _) _ fun s1 k => by
    cases x with
    | true => exact iteT ((h1 rfl s1 k).imp (fun _ _ z => z.elim) (fun _ _ q => q) (fun _ _ q => q) fun _ _ q => q)
    | false => exact iteF (h2 rfl s1 k))
theorem do_ifRR {x : Bool} (hc : EvT X c σ s x) (h1 : x = true → ∀ s1, Ex s s1 → WSs X A (ND D) σ s1.H) (h2 : x = false → ∀ s1, Ex s s1 → WSs X B (ND D) σ s1.H) : WSs X (.If c A B pos :: rest) D σ s.H :=
  do_cons (ps_if pt_wt pss_ws pss_ws) (hc s (Ex.refl _) _ fun s1 k => by
    cases x with
    | true => exact iteT ((h1 rfl s1 k).imp (fun _ _ z => z.elim) (fun _ _ q => q) (fun _ _ q => q) fun _ _ q => q)
    | false => exact iteF ((h2 rfl s1 k).imp (fun _ _ z => z.elim) (fun _ _ q => q) (fun _ _ q => q) fun _ _ q => q))

theorem st_set {l : St} {i : Nat} {v : V} (h : l[i]? = some (some v)) : l[i]? = some (some v) := h
theorem do_append (i : Nat) {p : Addr} {n : Str} {xs : List α} {x : α} (hσ : σ[i]? = some (some (.ref p))) (o : Own X.K s p xs) (he : Ev X e σ s x) (hz : xs.length < sizeLine)
    (k : ∀ s1, Mx (· = p) s s1 → Own X.K s1 p (xs ++ [x]) → WSs X rest D σ s1.H)
    (hN : X.N[i]? = some n := by rfl) (hv : Vis X.env.scope n := by first | exact Or.inl rfl | exact Or.inr (Or.inl rfl) | exact Or.inr (Or.inr rfl)) (hd : (n == ("__debug__" : Str)) = false := by decide) (hcd : (n == ("__classdict__" : Str)) = false := by decide)
    (hbase : attributeBase (.Name n p0) "append" X.env (eval (.Name n p0) X.env) = eval (.Name n p0) X.env := by rfl)
    (hfew : ((backTo p2 (starEach [e] X.env)).all (fun x => !x.1) && (backToKw p2 (keywordEach [] X.env)).all (fun x => x.1.isSome) && decide (([e] : List Expr).length + ([] : List Keyword).length + (if ([] : List Keyword).isEmpty then 0 else 1) < 30)) = true := by rfl)
    (hline : (p1.endLine == p2.line) = true := by rfl) (hs : starEach [e] X.env = (false, eval e X.env) :: starEach [] X.env := by rfl) (hplain : (backTo p2 (starEach [] X.env)).any (·.1) = false := by rfl)
    (hsw : swapsWith (.Call (.Attribute (.Name n p0) "append" p1) [e] [] p2) none p3.line X.env = pure false := by rfl) :
    WSs X (.Expr (.Call (.Attribute (.Name n p0) "append" p1) [e] [] p2) p3 :: rest) D σ s.H :=
  do_cons (ps_expr (pe_bm PySem.F.plainAttrs_list PySem.F.slot_list_append PySem.F.type_list_append mt_append (pe_var hN hv hd hcd) (pa_cons pe_we pa_nil hs) hbase hfew hline hs hplain) hsw) (by
    obtain ⟨h1, vs, h2, h3⟩ := id o
    refine ⟨_, hσ, .inl ⟨rfl, vs, .inl (.inl h2)⟩, he s (Ex.refl _) _ fun v s1 k1 r1 => ?_⟩
    have f1 := k1.n _ _ h2 h1
    have g1 := k1.h _ _ h2
    refine ⟨p, vs, v, rfl, rfl, g1, by rw [h3.len]; exact hz, ?_⟩
    exact k (s1.put p (.lst (vs ++ [v])) f1) (k1.mx.trans (Mx.put f1)) ⟨f1, _, upd_same, (h3.mono k1.f).snoc r1⟩)
theorem do_extend (i : Nat) {p : Addr} {n : Str} {xs ys : List α} (hσ : σ[i]? = some (some (.ref p))) (o : Own X.K s p xs) (he : EvN X e σ s ys) (hz : xs.length + ys.length ≤ sizeLine)
    (k : ∀ s1, Mx (· = p) s s1 → Own X.K s1 p (xs ++ ys) → WSs X rest D σ s1.H)
    (hN : X.N[i]? = some n := by rfl) (hv : Vis X.env.scope n := by first | exact Or.inl rfl | exact Or.inr (Or.inl rfl) | exact Or.inr (Or.inr rfl)) (hd : (n == ("__debug__" : Str)) = false := by decide) (hcd : (n == ("__classdict__" : Str)) = false := by decide)
    (hbase : attributeBase (.Name n p0) "extend" X.env (eval (.Name n p0) X.env) = eval (.Name n p0) X.env := by rfl)
    (hfew : ((backTo p2 (starEach [e] X.env)).all (fun x => !x.1) && (backToKw p2 (keywordEach [] X.env)).all (fun x => x.1.isSome) && decide (([e] : List Expr).length + ([] : List Keyword).length + (if ([] : List Keyword).isEmpty then 0 else 1) < 30)) = true := by rfl)
    (hline : (p1.endLine == p2.line) = true := by rfl) (hs : starEach [e] X.env = (false, eval e X.env) :: starEach [] X.env := by rfl) (hplain : (backTo p2 (starEach [] X.env)).any (·.1) = false := by rfl)
    (hsw : swapsWith (.Call (.Attribute (.Name n p0) "extend" p1) [e] [] p2) none p3.line X.env = pure false := by rfl) :
    WSs X (.Expr (.Call (.Attribute (.Name n p0) "extend" p1) [e] [] p2) p3 :: rest) D σ s.H :=
  do_cons (ps_expr (pe_bm PySem.F.plainAttrs_list PySem.F.slot_list_extend PySem.F.type_list_extend mt_extend (pe_var hN hv hd hcd) (pa_cons pe_we pa_nil hs) hbase hfew hline hs hplain) hsw) (by
    obtain ⟨h1, vs, h2, h3⟩ := id o
    refine ⟨_, hσ, .inl ⟨rfl, vs, .inl (.inl h2)⟩, he s (Ex.refl _) _ fun q s1 k1 n1 o1 => ?_⟩
    obtain ⟨_, ws, h4, h5⟩ := o1
    have f1 := k1.n _ _ h2 h1
    have g1 := k1.h _ _ h2
    refine ⟨p, q, vs, ws, rfl, rfl, g1, h4, by rw [h3.len, h5.len]; exact hz, ?_⟩
    exact k (s1.put p (.lst (vs ++ ws)) f1) (k1.mx.trans (Mx.put f1)) ⟨f1, _, upd_same, (h3.mono k1.f).app h5⟩)
theorem do_setItem (i : Nat) {p : Addr} {n : Str} {xs : List α} {x : α} {z : Int} {j : Nat} (hσ : σ[i]? = some (some (.ref p))) (o : Own X.K s p xs) (he : Ev X e σ s x) (hi : Ev X a σ s z) (hj : ixN xs.length z = some j)
    (k : ∀ s1, Mx (· = p) s s1 → Own X.K s1 p (xs.set j x) → WSs X rest D σ s1.H)
    (hN : X.N[i]? = some n := by rfl) (hv : Vis X.env.scope n := by first | exact Or.inl rfl | exact Or.inr (Or.inl rfl) | exact Or.inr (Or.inr rfl)) (hd : (n == ("__debug__" : Str)) = false := by decide) (hcd : (n == ("__classdict__" : Str)) = false := by decide)
    (ha : ∀ v, assign (.Subscript (.Name n p0) a p1) X.env v = (do
      let ov ← holding [v] (eval (.Name n p0) X.env)
      let iv ← holding [v, ov] (eval a X.env)
      standAt p1
      holding [v, ov, iv] (setItem ov iv v)
      release [v, ov, iv] []) := by intro _; rfl)
    (hs : swapsWithSole [.Subscript (.Name n p0) a p1] e pos.line X.env = pure false := by rfl) (hw : swappedStores [.Subscript (.Name n p0) a p1] e X.env = pure none := by rfl)
    (h1 : (assignEach [.Subscript (.Name n p0) a p1] X.env).map (·.2) = [assign (.Subscript (.Name n p0) a p1) X.env] := by rfl) :
    WSs X (.Assign [.Subscript (.Name n p0) a p1] e pos :: rest) D σ s.H :=
  do_cons (ps_asg pe_we (pg_sub (pe_var hN hv hd hcd) pe_we set_list ha) hs hw h1) (by
    obtain ⟨f0, vs, h2, h3⟩ := id o
    refine he s (Ex.refl _) _ fun v s1 k1 r1 => ⟨_, hσ, hi s1 k1 _ fun u s2 k2 r2 => ?_⟩
    have k3 := k1.trans k2
    have f1 := k3.n _ _ h2 f0
    have g1 := k3.h _ _ h2
    refine ⟨p, vs, z, j, rfl, r2, g1, by rw [h3.len]; exact hj, ?_⟩
    exact k (s2.put p (.lst (vs.set j v)) f1) (k3.mx.trans (Mx.put f1)) ⟨f1, _, upd_same, (h3.mono k3.f).set j (Enc.mono k2.f r1)⟩)
theorem do_frz {p : Addr} {xs : List α} {ss : List Stmt} (o : Own X.K s p xs) (k : ∀ s' : S, s'.H = s.H → Fle s.F s'.F → (∀ q, q ≠ p → s'.F q = s.F q) → rep X.K s'.F (.ref p) xs → WSs X ss D σ s'.H) : WSs X ss D σ s.H := by
  obtain ⟨s', h1, h2, h3, h4⟩ := o.frz
  have := k s' h1 h2 h3 h4
  rw [h1] at this
  exact this

theorem foldO_drop {τ υ : Type} {f : υ → τ → Option υ} {b b1 : υ} {xs : List τ} {i : Nat} (hi : i < xs.length) (h : foldO f b (xs.drop i) = some b1) : ∃ b', f b xs[i] = some b' ∧ foldO f b' (xs.drop (i + 1)) = some b1 := by
  rw [List.drop_eq_getElem_cons hi] at h
  exact bndE h
theorem do_for_core {τ : Type} [Enc τ] {xs : List τ} {body : List Stmt} {g : TG} {B : Hp → τ → St → St → Prop} (hp : PassesOwn (model X.prog X.w) X.A X.env X.xe) (hc : X.calm = true) (hi : EvI X tg iter σ s xs) (hg : PG X tg g) (T : Tgt (α := τ) X.K g B)
    (R : Nat → St → S → Prop) (h0 : ∀ s1, Ex s s1 → R 0 σ s1)
    (hb : ∀ s1, Ex s s1 → ∀ (i : Nat) (x : τ) (σ' σ2 : St) (t t' : S), xs[i]? = some x → Fle s1.F t.F → R i σ' t → Ex t t' → B t'.F x σ' σ2 → WSs X body (LD D fun σ s => Fle t'.F s.F ∧ R (i + 1) σ s) σ2 t'.H)
    (hd : ∀ s1, Ex s s1 → ∀ σ' t, Fle s1.F t.F → R xs.length σ' t → WSs X rest D σ' t.H)
    (hs : ∀ x, foldedSetIterable iter X.env x = pure x := by intro _; rfl) : WSs X (.For tg iter body [] pos :: rest) D σ s.H :=
  do_cons (ps_for hp hc pi_wi hg pss_ws hs) (hi s (Ex.refl _) _ fun J s1 k1 W => by
    refine ⟨fun i m σ' H' => ∃ t : S, t.H = H' ∧ m = xs.length - i ∧ i ≤ xs.length ∧ Fle s1.F t.F ∧ R i σ' t, ⟨xs.length, s1, rfl, rfl, Nat.zero_le _, Fle.refl _, h0 s1 k1⟩, ?_⟩
    rintro i m σ' H' ⟨t, rfl, rfl, hle, f, r⟩
    by_cases hlt : i < xs.length
    · right
      obtain ⟨g1, g2⟩ := W.go i t xs[i] f (List.getElem?_eq_getElem hlt)
      refine ⟨g1, fun σ' H' => ∃ u : S, u.H = H' ∧ Fle s1.F u.F ∧ R (i + 1) σ' u, fun σ' H' ⟨u, e1, f1, r1⟩ => ⟨xs.length - (i + 1), by omega, u, e1, rfl, hlt, f1, r1⟩, fun v H' hy => ?_⟩
      obtain ⟨t', rfl, kt, rv⟩ := g2 v H' hy
      refine T.run t' v xs[i] _ _ rv fun σ2 hB => ?_
      have := hb s1 k1 i xs[i] σ' σ2 t t' (List.getElem?_eq_getElem hlt) f r kt hB
      exact this.imp (fun σ3 H3 ⟨u, e1, f1, r1⟩ => ⟨u, e1, (f.trans kt.f).trans f1, r1⟩) (fun _ _ q => q) (fun _ _ q => q.elim) (fun _ _ q => q.elim)
    · left
      have e : i = xs.length := by omega
      subst e
      exact ⟨W.stop _ t f (Nat.le_refl _), hd s1 k1 σ' t f r⟩)
theorem do_forO {τ υ : Type} [Enc τ] {xs : List τ} {f : υ → τ → Option υ} {b0 b1 : υ} {body : List Stmt} {g : TG} {B : Hp → τ → St → St → Prop} (hp : PassesOwn (model X.prog X.w) X.A X.env X.xe) (hc : X.calm = true) (hi : EvI X tg iter σ s xs) (hg : PG X tg g) (T : Tgt (α := τ) X.K g B)
    (hf : foldO f b0 xs = some b1) (R : υ → St → S → Prop) (h0 : ∀ s1, Ex s s1 → R b0 σ s1)
    (hb : ∀ s1, Ex s s1 → ∀ (x : τ) (b b' : υ) (σ' σ2 : St) (t t' : S), x ∈ xs → f b x = some b' → Fle s1.F t.F → R b σ' t → Ex t t' → B t'.F x σ' σ2 → WSs X body (LD D fun σ s => Fle t'.F s.F ∧ R b' σ s) σ2 t'.H)
    (hd : ∀ s1, Ex s s1 → ∀ σ' t, Fle s1.F t.F → R b1 σ' t → WSs X rest D σ' t.H)
    (hs : ∀ x, foldedSetIterable iter X.env x = pure x := by intro _; rfl) : WSs X (.For tg iter body [] pos :: rest) D σ s.H :=
  do_for_core hp hc hi hg T (fun i σ' t => ∃ b, foldO f b (xs.drop i) = some b1 ∧ R b σ' t) (fun s1 k => ⟨b0, hf, h0 s1 k⟩)
    (fun s1 k i x σ' σ2 t t' hx fl ⟨b, h1, h2⟩ kt hB => by
      obtain ⟨hlt, rfl⟩ := List.getElem?_eq_some_iff.mp hx
      obtain ⟨b', h3, h4⟩ := foldO_drop hlt h1
      exact (hb s1 k xs[i] b b' σ' σ2 t t' (List.getElem_mem hlt) h3 fl h2 kt hB).imp (fun σ3 H3 ⟨u, e1, f1, r1⟩ => ⟨u, e1, f1, b', h4, r1⟩) (fun _ _ q => q) (fun _ _ q => q.elim) (fun _ _ q => q.elim))
    (fun s1 k σ' t fl ⟨b, h1, h2⟩ => by
      rw [List.drop_length] at h1
      cases h1
      exact hd s1 k σ' t fl h2) hs
theorem foldF_drop {τ υ ρ : Type} {f : υ → τ → Option (Fl υ ρ)} {b : υ} {o : Fl υ ρ} {xs : List τ} {i : Nat} (hi : i < xs.length) (h : foldF f b (xs.drop i) = some o) : ∃ q, f b xs[i] = some q ∧ (∀ b', q = .nx b' → foldF f b' (xs.drop (i + 1)) = some o) ∧ ∀ r, q = .rt r → o = .rt r := by
  rw [List.drop_eq_getElem_cons hi] at h
  obtain ⟨q, h1, h2⟩ := bndE h
  refine ⟨q, h1, fun b' e => by subst e; exact h2, fun r e => by subst e; exact (Option.some.inj h2).symm⟩
theorem do_forF {τ υ ρ : Type} [Enc τ] {xs : List τ} {f : υ → τ → Option (Fl υ ρ)} {b0 : υ} {o : Fl υ ρ} {body : List Stmt} {g : TG} {B : Hp → τ → St → St → Prop} (hp : PassesOwn (model X.prog X.w) X.A X.env X.xe) (hc : X.calm = true) (hi : EvI X tg iter σ s xs) (hg : PG X tg g) (T : Tgt (α := τ) X.K g B)
    (hf : foldF f b0 xs = some o) (R : υ → St → S → Prop) (h0 : ∀ s1, Ex s s1 → R b0 σ s1)
    (hb : ∀ s1, Ex s s1 → ∀ (x : τ) (b : υ) (q : Fl υ ρ) (σ' σ2 : St) (t t' : S), x ∈ xs → f b x = some q → (∀ r, q = .rt r → o = .rt r) → Fle s1.F t.F → R b σ' t → Ex t t' → B t'.F x σ' σ2 → WSs X body (LD D fun σ s => ∃ b', q = .nx b' ∧ Fle t'.F s.F ∧ R b' σ s) σ2 t'.H)
    (hd : ∀ s1, Ex s s1 → ∀ b1 σ' t, o = .nx b1 → Fle s1.F t.F → R b1 σ' t → WSs X rest D σ' t.H)
    (hs : ∀ x, foldedSetIterable iter X.env x = pure x := by intro _; rfl) : WSs X (.For tg iter body [] pos :: rest) D σ s.H :=
  do_for_core hp hc hi hg T (fun i σ' t => ∃ b, foldF f b (xs.drop i) = some o ∧ R b σ' t) (fun s1 k => ⟨b0, hf, h0 s1 k⟩)
    (fun s1 k i x σ' σ2 t t' hx fl ⟨b, h1, h2⟩ kt hB => by
      obtain ⟨hlt, rfl⟩ := List.getElem?_eq_some_iff.mp hx
      obtain ⟨q, h3, h4, h5⟩ := foldF_drop hlt h1
      exact (hb s1 k xs[i] b q σ' σ2 t t' (List.getElem_mem hlt) h3 h5 fl h2 kt hB).imp (fun σ3 H3 ⟨u, e1, b', e2, f1, r1⟩ => ⟨u, e1, f1, b', h4 b' e2, r1⟩) (fun _ _ q => q) (fun _ _ q => q.elim) (fun _ _ q => q.elim))
    (fun s1 k σ' t fl ⟨b, h1, h2⟩ => by
      rw [List.drop_length] at h1
      cases h1
      exact hd s1 k b σ' t rfl fl h2) hs
theorem do_whileO {υ : Type} {cf : υ → Option Bool} {f : υ → Option υ} {n : Nat} {b0 b1 : υ} {body : List Stmt} (hp : PassesOwn (model X.prog X.w) X.A X.env X.xe) (hf : whileO cf f n b0 = some b1) (R : υ → St → S → Prop) (h0 : R b0 σ s)
    (hc : ∀ (b : υ) (x : Bool) (σ' : St) (t : S), cf b = some x → Fle s.F t.F → R b σ' t → EvT X c σ' t x)
    (hb : ∀ (b b' : υ) (σ' : St) (t t' : S), cf b = some true → f b = some b' → Fle s.F t.F → R b σ' t → Ex t t' → WSs X body (LD D fun σ s => Fle t'.F s.F ∧ R b' σ s) σ' t'.H)
    (hd : ∀ σ' t t', cf b1 = some false → Fle s.F t.F → R b1 σ' t → Ex t t' → WSs X rest D σ' t'.H) : WSs X (.While c body [] pos :: rest) D σ s.H :=
  do_cons (ps_while hp pt_wt pss_ws) (by
    refine ⟨fun m σ' H' => ∃ (t : S) (b : υ), t.H = H' ∧ Fle s.F t.F ∧ whileO cf f m b = some b1 ∧ R b σ' t, ⟨n, s, b0, rfl, Fle.refl _, hf, h0⟩, ?_⟩
    rintro m σ' H' ⟨t, b, rfl, fl, h1, h2⟩
    cases m with
    | zero => cases h1
    | succ m =>
      obtain ⟨x, h3, h4⟩ := bndE h1
      refine hc b x σ' t h3 fl h2 t (Ex.refl _) _ fun t' kt => ?_
      cases x with
      | true =>
        refine iteT ?_
        rw [if_pos rfl] at h4
        obtain ⟨b', h5, h6⟩ := bndE h4
        refine ⟨fun σ3 H3 => ∃ u : S, u.H = H3 ∧ Fle s.F u.F ∧ R b' σ3 u, fun σ3 H3 ⟨u, e1, f1, r1⟩ => ⟨m, Nat.lt_succ_self _, u, b', e1, f1, h6, r1⟩, ?_⟩
        exact (hb b b' σ' t t' h3 h5 fl h2 kt).imp (fun σ3 H3 ⟨u, e1, f1, r1⟩ => ⟨u, e1, (fl.trans kt.f).trans f1, r1⟩) (fun _ _ q => q) (fun _ _ q => q.elim) (fun _ _ q => q.elim)
      | false =>
        refine iteF ?_
        rw [if_neg Bool.false_ne_true] at h4
        cases h4
        exact hd σ' t t' h3 fl h2 kt)
end
end Dy

namespace Dy
open PySem PySem.Spec L2
open PyProof.Rows hiding St
open Enc (rep)
open Flat (toV)
open EncA (repA)

section
variable {P : Program} {w : World} {K : PySem.W.Frag} {mg : Str → Option Value} {base : Heap}
abbrev FunP (K : PySem.W.Frag) (x : Str) (st : Stmt) (f : Addr) (fd : FuncData) : Prop := FunD K x x (defArgs st) (defBody st) (defScope st) [] [] f fd
theorem mk_fn {A ρ : Type} [EncA A] [Enc ρ] {m : A → Option ρ} {x : Str} {st : Stmt} {f : Addr} {fd : FuncData} {N ps : List Str} {k : Nat} (F : FunP K x st f fd) (Sc : FnScope N ps (defScope st))
    (hl : ∀ (F : Hp) (vs : List V) (a : A), repA K F vs a → vs.length = ps.length)
    (body : ∀ (cdv : Value) (A' : Around) (outer : List Env) (s0 : Shared) (H0 : Hp) (E0 : XK), Room k (A'.deeper (envOfC x (defScope st) s0.heap.objs.size f cdv)) → ∀ (s : S) (vs : List V) (a : A) (r : ρ) (Q : VK), repA K s.F vs a → m a = some r →
      (∀ v s', Ex s s' → rep K s'.F v r → Q v s'.H) → WSs (cxOf CX0 P w K mg base N x (defScope st) f cdv A' outer s0 H0 E0).nox (defBody st) (RD Q) (start N vs) s.H) : FnOk P w K mg base CX0 (k + 1) f fd ps (sp K m) :=
  F.ok Sc (fun vs H Q E ⟨s, a, r, _, h, _⟩ => hl s.F vs a h) (fun cdv A' outer s0 H0 vs Q E hr ⟨s, a, r, e, h1, h2, h3⟩ => ⟨_, pss_ws.nox, by
    have := body cdv A' outer s0 H0 E hr s vs a r Q h1 h2 h3
    rw [e] at this
    exact this⟩)
theorem mk_cal {A ρ : Type} [EncA A] [Enc ρ] {m : A → Option ρ} {x : Str} {st : Stmt} {f : Addr} {fd : FuncData} {N ps : List Str} {k : Nat} (F : FunP K x st f fd) (hm : mg x = some (.ref f)) (b : Binds K fd ps []) (Sc : FnScope N ps (defScope st))
    (hl : ∀ (F : Hp) (vs : List V) (a : A), repA K F vs a → vs.length = ps.length)
    (body : ∀ (cdv : Value) (A' : Around) (outer : List Env) (s0 : Shared) (H0 : Hp) (E0 : XK), Room k (A'.deeper (envOfC x (defScope st) s0.heap.objs.size f cdv)) → ∀ (s : S) (vs : List V) (a : A) (r : ρ) (Q : VK), repA K s.F vs a → m a = some r →
      (∀ v s', Ex s s' → rep K s'.F v r → Q v s'.H) → WSs (cxOf CX0 P w K mg base N x (defScope st) f cdv A' outer s0 H0 E0).nox (defBody st) (RD Q) (start N vs) s.H) : Cal P w K mg base CX0 (k + 1) x (sp K m) :=
  ⟨f, fd, ps, F.ok Sc (fun vs H Q E ⟨s, a, r, _, h, _⟩ => hl s.F vs a h) (fun cdv A' outer s0 H0 vs Q E hr ⟨s, a, r, e, h1, h2, h3⟩ => ⟨_, pss_ws.nox, by
    have := body cdv A' outer s0 H0 E hr s vs a r Q h1 h2 h3
    rw [e] at this
    exact this⟩), hm, F.kp, b⟩
theorem mk_calN {A ρ : Type} [EncA A] [Enc ρ] {m : A → Option (List ρ)} {x : Str} {st : Stmt} {f : Addr} {fd : FuncData} {N ps : List Str} {k : Nat} (F : FunP K x st f fd) (hm : mg x = some (.ref f)) (b : Binds K fd ps []) (Sc : FnScope N ps (defScope st))
    (hl : ∀ (F : Hp) (vs : List V) (a : A), repA K F vs a → vs.length = ps.length)
    (body : ∀ (cdv : Value) (A' : Around) (outer : List Env) (s0 : Shared) (H0 : Hp) (E0 : XK), Room k (A'.deeper (envOfC x (defScope st) s0.heap.objs.size f cdv)) → ∀ (s : S) (vs : List V) (a : A) (r : List ρ) (Q : VK), repA K s.F vs a → m a = some r →
      (∀ p s', Ex s s' → s.H p = none → Own K s' p r → Q (.ref p) s'.H) → WSs (cxOf CX0 P w K mg base N x (defScope st) f cdv A' outer s0 H0 E0).nox (defBody st) (RD Q) (start N vs) s.H) : Cal P w K mg base CX0 (k + 1) x (spN K m) :=
  ⟨f, fd, ps, F.ok Sc (fun vs H Q E ⟨s, a, r, _, h, _⟩ => hl s.F vs a h) (fun cdv A' outer s0 H0 vs Q E hr ⟨s, a, r, e, h1, h2, h3⟩ => ⟨_, pss_ws.nox, by
    have := body cdv A' outer s0 H0 E hr s vs a r Q h1 h2 h3
    rw [e] at this
    exact this⟩), hm, F.kp, b⟩
theorem len1 {α : Type} [Enc α] (F : Hp) (vs : List V) (a : α × Unit) (h : repA K F vs a) : vs.length = 1 := by obtain ⟨_, _, rfl, _, rfl⟩ := h; rfl
theorem len2 {α β : Type} [Enc α] [Enc β] (F : Hp) (vs : List V) (a : α × β × Unit) (h : repA K F vs a) : vs.length = 2 := by obtain ⟨_, _, rfl, _, _, _, rfl, _, rfl⟩ := h; rfl
theorem len3 {α β γ : Type} [Enc α] [Enc β] [Enc γ] (F : Hp) (vs : List V) (a : α × β × γ × Unit) (h : repA K F vs a) : vs.length = 3 := by obtain ⟨_, _, rfl, _, _, _, rfl, _, _, _, rfl, _, rfl⟩ := h; rfl
theorem len4 {α β γ δ : Type} [Enc α] [Enc β] [Enc γ] [Enc δ] (F : Hp) (vs : List V) (a : α × β × γ × δ × Unit) (h : repA K F vs a) : vs.length = 4 := by obtain ⟨_, _, rfl, _, _, _, rfl, _, _, _, rfl, _, _, _, rfl, _, rfl⟩ := h; rfl
theorem len5 {α β γ δ ε : Type} [Enc α] [Enc β] [Enc γ] [Enc δ] [Enc ε] (F : Hp) (vs : List V) (a : α × β × γ × δ × ε × Unit) (h : repA K F vs a) : vs.length = 5 := by obtain ⟨_, _, rfl, _, _, _, rfl, _, _, _, rfl, _, _, _, rfl, _, _, _, rfl, _, rfl⟩ := h; rfl
theorem len6 {α β γ δ ε ζ : Type} [Enc α] [Enc β] [Enc γ] [Enc δ] [Enc ε] [Enc ζ] (F : Hp) (vs : List V) (a : α × β × γ × δ × ε × ζ × Unit) (h : repA K F vs a) : vs.length = 6 := by obtain ⟨_, _, rfl, _, _, _, rfl, _, _, _, rfl, _, _, _, rfl, _, _, _, rfl, _, _, _, rfl, _, rfl⟩ := h; rfl
end

class Ty (α : Type) extends Enc α where
  ty : α → String
  is : ∀ {K : PySem.W.Frag} {F H : Hp} {v : V} {x : α}, rep K F v x → Fle F H → TyX K H v (.type (ty x))
theorem sql_ty {K : PySem.W.Frag} {H : Hp} {p : Addr} {vs : List V} (h : SqL K H p vs) : TyX K H (.ref p) (.type "list") := by
  rcases h with (h | ⟨o, h⟩) | ⟨o, its, n, h, hc, _⟩
  · exact .base (.lst h)
  · exact .base (.frz h)
  · exact .kList h hc
theorem sqt_ty {K : PySem.W.Frag} {H : Hp} {p : Addr} {vs : List V} (h : SqT K H p vs) : TyX K H (.ref p) (.type "tuple") := by
  rcases h with (h | ⟨o, h⟩) | ⟨o, its, n, h, hc, _⟩
  · exact .base (.tup h)
  · exact .fTuple h
  · exact .kTuple h hc
instance : Ty Int := ⟨fun _ => "int", fun {K F H v x} h _ => by rw [show v = V.int x from h]; exact .base (.int _)⟩
instance : Ty Bool := ⟨fun _ => "bool", fun {K F H v x} h _ => by rw [show v = V.bl x from h]; exact .base (.bl _)⟩
instance : Ty Str := ⟨fun _ => "str", fun {K F H v x} h _ => by rw [show v = V.str x from h]; exact .base (.str _)⟩
instance {α : Type} [Ty α] : Ty (Option α) := ⟨fun x => match x with | none => "NoneType" | some y => Ty.ty y, fun {K F H v x} h f => by
  cases x with
  | none => rw [show v = V.non from h]; exact .base .non
  | some y => exact Ty.is (α := α) h f⟩
instance {α : Type} [Enc α] : Ty (List α) := ⟨fun _ => "list", fun h f => by
  obtain ⟨p, vs, rfl, h1, _⟩ := h
  exact sql_ty (sql_mono f h1)⟩
instance {α : Type} [Enc α] : Ty (Tu α) := ⟨fun _ => "tuple", fun h f => by
  obtain ⟨p, vs, rfl, h1, _⟩ := h
  exact sqt_ty (sqt_mono f h1)⟩
instance {α β : Type} [Enc α] [Enc β] : Ty (α × β) := ⟨fun _ => "tuple", fun h f => by
  obtain ⟨p, v1, v2, rfl, h1, _⟩ := h
  exact sqt_ty (sqt_mono f h1)⟩
instance {α : Type} [Enc α] : Ty (T1 α) := ⟨fun _ => "tuple", fun h f => by
  obtain ⟨p, v1, rfl, h1, _⟩ := h
  exact sqt_ty (sqt_mono f h1)⟩
instance {α β γ : Type} [Enc α] [Enc β] [Enc γ] : Ty (T3 α β γ) := ⟨fun _ => "tuple", fun h f => by
  obtain ⟨p, v1, v2, v3, rfl, h1, _⟩ := h
  exact sqt_ty (sqt_mono f h1)⟩
instance {α β γ δ : Type} [Enc α] [Enc β] [Enc γ] [Enc δ] : Ty (T4 α β γ δ) := ⟨fun _ => "tuple", fun h f => by
  obtain ⟨p, v1, v2, v3, v4, rfl, h1, _⟩ := h
  exact sqt_ty (sqt_mono f h1)⟩
instance {α β γ δ ε : Type} [Enc α] [Enc β] [Enc γ] [Enc δ] [Enc ε] : Ty (T5 α β γ δ ε) := ⟨fun _ => "tuple", fun h f => by
  obtain ⟨p, v1, v2, v3, v4, v5, rfl, h1, _⟩ := h
  exact sqt_ty (sqt_mono f h1)⟩
section
variable {α β : Type} {X : Cx} {σ : St} {s : S} {a b : Expr} {pos p0 p1 p2 p3 : Pos}
theorem ev_isi [Ty α] {x : α} {n : Str} {T : String} {r : Bool} (hm : X.mg "isinstance" = none) (hn : X.mg n = none) (hv : bootBuiltins n = some (.type T)) (ha : Ev X a σ s x) (h : kitB (Ty.ty x) T = some r)
    (hg : Gl X "isinstance" := by rfl) (hgn : Gl X n := by rfl) (he : starEach [a, .Name n p1] X.env = (false, eval a X.env) :: starEach [.Name n p1] X.env := by rfl) (he2 : starEach [.Name n p1] X.env = (false, eval (.Name n p1) X.env) :: starEach [] X.env := by rfl) (hpl : (backTo pos (starEach [.Name n p1] X.env)).any (·.1) = false := by rfl)
    (hnn : n ≠ "__name__" := by decide) (hnd : (n == ("__debug__" : Str)) = false := by decide) :
    Ev X (.Call (.Name "isinstance" p0) [a, .Name n p1] [] pos) σ s r := fun s1 k Q q =>
  we_of (pe_callB call_isi hg hm (by decide +kernel) (pa_cons pe_we (pa_cons (pe_bltn (v := .ty T) hgn hn hv rfl hnn hnd) pa_nil he2) he) (he := he) (hpl := hpl)) (ha s1 k _ fun v s2 k2 r2 =>
    ⟨v, .ty T, .type (Ty.ty x), .type T, r, rfl, .ty T, Ty.is r2 s2.sub, kit_ty h, q _ s2 k2 rfl⟩)

class EqD (α : Type) extends Enc α where
  toD : α → PyData
  dp : ∀ {K : PySem.W.Frag} {F H : Hp} {v : V} {x : α}, rep K F v x → Fle F H → Dp K H v (toD x)
  eqv : ∀ x y : α, PyData.eqv (toD x) (toD y) = true ↔ x = y
def DpR {α : Type} [EqD α] {K : PySem.W.Frag} {F H : Hp} (f : Fle F H) : ∀ {vs : List V} {xs : List α}, Reps K F vs xs → DpAll K H vs (xs.map EqD.toD)
  | [], [], _ => .nil
  | _ :: _, _ :: _, ⟨h, t⟩ => .cons (EqD.dp h f) (DpR f t)
  | [], _ :: _, h => h.elim
  | _ :: _, [], h => h.elim
theorem eqv_all {α : Type} [EqD α] : ∀ xs ys : List α, PyData.eqvAll (xs.map EqD.toD) (ys.map EqD.toD) = true ↔ xs = ys
  | [], [] => by simp [PyData.eqvAll]
  | [], _ :: _ => by simp [PyData.eqvAll]
  | _ :: _, [] => by simp [PyData.eqvAll]
  | x :: xs, y :: ys => by
    show (PyData.eqv (EqD.toD x) (EqD.toD y) && PyData.eqvAll (xs.map EqD.toD) (ys.map EqD.toD)) = true ↔ _
    rw [Bool.and_eq_true, EqD.eqv, eqv_all xs ys]
    simp
instance : EqD Int := ⟨PyData.int, fun {K F H v x} h _ => by rw [show v = V.int x from h]; exact .int _, fun x y => by show (x == y) = true ↔ _; simp⟩
instance : EqD Bool := ⟨PyData.bool, fun {K F H v x} h _ => by rw [show v = V.bl x from h]; exact .bl _, fun x y => by show (x == y) = true ↔ _; simp⟩
instance : EqD Str := ⟨PyData.str, fun {K F H v x} h _ => by rw [show v = V.str x from h]; exact .str _, fun x y => by show (x == y) = true ↔ _; simp⟩
instance : EqD (Option Int) := ⟨fun x => match x with | none => .none | some i => .int i, fun {K F H v x} h _ => by
  cases x with
  | none => rw [show v = V.non from h]; exact .non
  | some i => rw [show v = V.int i from h]; exact .int _, fun x y => by cases x <;> cases y <;> simp [PyData.eqv]⟩
instance : EqD (Option Str) := ⟨fun x => match x with | none => .none | some i => .str i, fun {K F H v x} h _ => by
  cases x with
  | none => rw [show v = V.non from h]; exact .non
  | some i => rw [show v = V.str i from h]; exact .str _, fun x y => by cases x <;> cases y <;> simp [PyData.eqv]⟩
instance {α : Type} [EqD α] : EqD (List α) := ⟨fun xs => .list (xs.map EqD.toD), fun h f => by
  obtain ⟨p, vs, rfl, h1, h2⟩ := h
  exact .lst (sql_mono f h1) (DpR f h2), fun x y => eqv_all x y⟩
instance {α : Type} [EqD α] : EqD (Tu α) := ⟨fun xs => .tuple (xs.l.map EqD.toD), fun h f => by
  obtain ⟨p, vs, rfl, h1, h2⟩ := h
  exact .tup (sqt_mono f h1) (DpR f h2), fun x y => by
    obtain ⟨x⟩ := x
    obtain ⟨y⟩ := y
    show PyData.eqvAll _ _ = true ↔ _
    rw [eqv_all]; simp⟩
instance {α β : Type} [EqD α] [EqD β] : EqD (α × β) := ⟨fun x => .tuple [EqD.toD x.1, EqD.toD x.2], fun h f => by
  obtain ⟨p, v1, v2, rfl, h0, h1, h2⟩ := h
  exact .tup (sqt_mono f h0) (.cons (EqD.dp h1 f) (.cons (EqD.dp h2 f) .nil)), fun x y => by
    obtain ⟨x1, x2⟩ := x
    obtain ⟨y1, y2⟩ := y
    show (PyData.eqv _ _ && (PyData.eqv _ _ && true)) = true ↔ _
    rw [Bool.and_eq_true, Bool.and_eq_true, EqD.eqv, EqD.eqv]; simp⟩
instance {α β γ : Type} [EqD α] [EqD β] [EqD γ] : EqD (T3 α β γ) := ⟨fun x => .tuple [EqD.toD x.a, EqD.toD x.b, EqD.toD x.c], fun h f => by
  obtain ⟨p, v1, v2, v3, rfl, h0, h1, h2, h3⟩ := h
  exact .tup (sqt_mono f h0) (.cons (EqD.dp h1 f) (.cons (EqD.dp h2 f) (.cons (EqD.dp h3 f) .nil))), fun x y => by
    obtain ⟨x1, x2, x3⟩ := x
    obtain ⟨y1, y2, y3⟩ := y
    show (PyData.eqv _ _ && (PyData.eqv _ _ && (PyData.eqv _ _ && true))) = true ↔ _
    rw [Bool.and_eq_true, Bool.and_eq_true, Bool.and_eq_true, EqD.eqv, EqD.eqv, EqD.eqv]; simp⟩
instance {α : Type} [EqD α] : EqD (T1 α) := ⟨fun x => .tuple [EqD.toD x.a], fun h f => by
  obtain ⟨p, v1, rfl, h0, h1⟩ := h
  exact .tup (sqt_mono f h0) (.cons (EqD.dp h1 f) .nil), fun x y => by
    obtain ⟨x1⟩ := x
    obtain ⟨y1⟩ := y
    show (PyData.eqv _ _ && true) = true ↔ _
    rw [Bool.and_eq_true, EqD.eqv]; simp⟩
def shp {α : Type} [EqD α] (x : α) : Prop := SeqAt.shaped (EqD.toD x) = true
theorem eqv_dec {α : Type} [EqD α] [DecidableEq α] (x y : α) : PyData.eqv (EqD.toD x) (EqD.toD y) = decide (x = y) := by
  rw [Bool.eq_iff_iff, EqD.eqv, decide_eq_true_eq]
theorem repR_d {α : Type} [EqD α] {K : PySem.W.Frag} {v : V} {xs : List α} (h : RepR K s v xs) : Dp K s.H v (EqD.toD xs) := by
  obtain ⟨p, vs, rfl, h1, h2⟩ := h
  exact .lst h1 (DpR s.sub h2)
theorem hu64 {j : Nat} (hr : Room j X.A) : X.A.units + 64 < cLine := by
  have := hr.un
  omega
theorem eb_eqD [EqD α] [DecidableEq α] {x y : α} {j : Nat} (hr : Room j X.A) (ha : Ev X a σ s x) (hb : Ev X b σ s y) (h1 : shp x) (h2 : shp y) : EvB X (.Compare a [.Eq] [b] pos) σ s (decide (x = y)) :=
  eb_cmp (op_eqD (hu64 hr)) ha hb (fun v u s2 hv hu Q q => ⟨_, _, EqD.dp hv s2.sub, EqD.dp hu s2.sub, h1, h2, by rw [eqv_dec]; exact q⟩) (nomark _)
theorem eb_neD [EqD α] [DecidableEq α] {x y : α} {j : Nat} (hr : Room j X.A) (ha : Ev X a σ s x) (hb : Ev X b σ s y) (h1 : shp x) (h2 : shp y) : EvB X (.Compare a [.NotEq] [b] pos) σ s (!decide (x = y)) :=
  eb_cmp (op_neD (hu64 hr)) ha hb (fun v u s2 hv hu Q q => ⟨_, _, EqD.dp hv s2.sub, EqD.dp hu s2.sub, h1, h2, by rw [eqv_dec]; exact q⟩) (nomark _)
theorem eb_eqL [EqD α] [DecidableEq α] {x y : List α} {j : Nat} (hr : Room j X.A) (ha : EvR X a σ s x) (hb : EvR X b σ s y) (h1 : shp x) (h2 : shp y) : EvB X (.Compare a [.Eq] [b] pos) σ s (decide (x = y)) :=
  eb_cmpRR (op_eqD (hu64 hr)) ha hb (fun v u s2 hv hu Q q => ⟨_, _, repR_d hv, repR_d hu, h1, h2, by rw [eqv_dec]; exact q⟩) (nomark _)
theorem eb_neL [EqD α] [DecidableEq α] {x y : List α} {j : Nat} (hr : Room j X.A) (ha : EvR X a σ s x) (hb : EvR X b σ s y) (h1 : shp x) (h2 : shp y) : EvB X (.Compare a [.NotEq] [b] pos) σ s (!decide (x = y)) :=
  eb_cmpRR (op_neD (hu64 hr)) ha hb (fun v u s2 hv hu Q q => ⟨_, _, repR_d hv, repR_d hu, h1, h2, by rw [eqv_dec]; exact q⟩) (nomark _)
end

class Shp (α : Type) (n : outParam Nat) extends EqD α where
  ok : ∀ x : α, PyData.canLay0 (EqD.toD x) = true ∧ PyData.depth (EqD.toD x) ≤ n
theorem shp_all {α : Type} {n : Nat} [Shp α n] : ∀ xs : List α, PyData.canLayAll0 (xs.map EqD.toD) = true ∧ PyData.depthAll (xs.map EqD.toD) ≤ n
  | [] => ⟨by simp [PyData.canLayAll0], by simp [PyData.depthAll]⟩
  | x :: xs => by
    obtain ⟨h1, h2⟩ := shp_all xs
    obtain ⟨h3, h4⟩ := Shp.ok x
    refine ⟨?_, ?_⟩
    · show PyData.canLayAll0 (EqD.toD x :: xs.map EqD.toD) = true
      unfold PyData.canLayAll0
      rw [h3, h1]; rfl
    · show PyData.depthAll (EqD.toD x :: xs.map EqD.toD) ≤ n
      unfold PyData.depthAll
      omega
instance : Shp Int 0 := ⟨fun x => ⟨by show PyData.canLay0 (.int x) = true; unfold PyData.canLay0; rfl, by show PyData.depth (.int x) ≤ 0; unfold PyData.depth; omega⟩⟩
instance : Shp Bool 0 := ⟨fun x => ⟨by show PyData.canLay0 (.bool x) = true; unfold PyData.canLay0; rfl, by show PyData.depth (.bool x) ≤ 0; unfold PyData.depth; omega⟩⟩
instance : Shp (Option Int) 0 := ⟨fun x => by
  cases x with
  | none => exact ⟨by show PyData.canLay0 .none = true; unfold PyData.canLay0; rfl, by show PyData.depth .none ≤ 0; unfold PyData.depth; omega⟩
  | some i => exact ⟨by show PyData.canLay0 (.int i) = true; unfold PyData.canLay0; rfl, by show PyData.depth (.int i) ≤ 0; unfold PyData.depth; omega⟩⟩
instance {α : Type} {n : Nat} [Shp α n] : Shp (List α) (n + 1) := ⟨fun x => by
  obtain ⟨h1, h2⟩ := shp_all x
  refine ⟨?_, ?_⟩
  · show PyData.canLay0 (.list (x.map EqD.toD)) = true
    unfold PyData.canLay0; exact h1
  · show PyData.depth (.list (x.map EqD.toD)) ≤ n + 1
    unfold PyData.depth; omega⟩
instance {α : Type} {n : Nat} [Shp α n] : Shp (Tu α) (n + 1) := ⟨fun x => by
  obtain ⟨h1, h2⟩ := shp_all x.l
  refine ⟨?_, ?_⟩
  · show PyData.canLay0 (.tuple (x.l.map EqD.toD)) = true
    unfold PyData.canLay0; exact h1
  · show PyData.depth (.tuple (x.l.map EqD.toD)) ≤ n + 1
    unfold PyData.depth; omega⟩
instance {α β : Type} {n m : Nat} [Shp α n] [Shp β m] : Shp (α × β) (n + m + 1) := ⟨fun x => by
  obtain ⟨h1, h2⟩ := Shp.ok x.1
  obtain ⟨h3, h4⟩ := Shp.ok x.2
  refine ⟨?_, ?_⟩
  · show PyData.canLay0 (.tuple [EqD.toD x.1, EqD.toD x.2]) = true
    simp [PyData.canLay0, PyData.canLayAll0, h1, h3]
  · show PyData.depth (.tuple [EqD.toD x.1, EqD.toD x.2]) ≤ n + m + 1
    simp [PyData.depth, PyData.depthAll]
    omega⟩
instance {α : Type} {n : Nat} [Shp α n] : Shp (T1 α) (n + 1) := ⟨fun x => by
  obtain ⟨h1, h2⟩ := Shp.ok x.a
  refine ⟨?_, ?_⟩
  · show PyData.canLay0 (.tuple [EqD.toD x.a]) = true
    simp [PyData.canLay0, PyData.canLayAll0, h1]
  · show PyData.depth (.tuple [EqD.toD x.a]) ≤ n + 1
    simp [PyData.depth, PyData.depthAll]
    omega⟩
theorem shp_of {α : Type} {n : Nat} [Shp α n] (x : α) (h : n ≤ 64 := by decide) : shp x := by
  obtain ⟨h1, h2⟩ := Shp.ok x
  unfold shp SeqAt.shaped
  rw [h1, decide_eq_true (Nat.le_trans h2 h)]; rfl

def spLaw (K : PySem.W.Frag) : Sp := fun vs H Q _ => ∃ (a : Addr) (ns : List Int), vs = [.ref a] ∧ SqL K H a (ns.map V.int) ∧ ns.length ≤ 63 ∧ ∀ H', Q (.bl true) H'
theorem law_of {P : Program} {w : World} {K : PySem.W.Frag} {mg : Str → Option Value} {base : Heap} {CX : CXT} {k : Nat} {f : Addr} {fd : FuncData} {ps : List Str} {m : List Int × Unit → Option Bool} (F : FnOk P w K mg base CX k f fd ps (sp K m)) (h : ∀ ns : List Int, ns.length ≤ 63 → m (ns, ()) = some true) : FnOk P w K mg base CX k f fd ps (spLaw K) :=
  F.imp fun vs H Q E ⟨a, ns, e, hs, hl, q⟩ => by
    subst e
    exact ⟨⟨H, H, fun _ _ h => h⟩, (ns, ()), true, rfl, ⟨.ref a, [], rfl, ⟨a, ns.map V.int, rfl, hs, Reps.of_flat ns⟩, rfl⟩, h ns hl, fun v s' _ r => by rw [show v = V.bl true from r]; exact q _⟩
end Dy

namespace Dy
open PySem PySem.Spec L2
open PyProof.Rows hiding St
open Enc (rep)
open Flat (toV)
open EncA (repA)

def strI (x : Int) : Str := toString x
noncomputable def sortI (xs : List Int) : List Int := xs.mergeSort (fun x y => decide (x ≤ y))
def Fl.go {β ρ γ : Type} (o : Fl β ρ) (k : β → γ) (e : ρ → γ) : γ := match o with
  | .nx b => k b
  | .rt r => e r
@[irreducible] def fuel : Nat := 1000000
theorem rng_mem {a b x : Int} (h : x ∈ rng a b) : a ≤ x ∧ x < b := by
  obtain ⟨i, hi⟩ := List.mem_iff_getElem?.mp h
  obtain ⟨h1, h2⟩ := rng_get hi
  omega
theorem frzE {s0 s s' : S} {p : Addr} (E : Ex s0 s) (n : s0.H p = none) (h1 : s'.H = s.H) (h2 : Fle s.F s'.F) (h3 : ∀ q, q ≠ p → s'.F q = s.F q) : Ex s0 s' :=
  ⟨E.f.trans h2, fun a o h => by rw [h1]; exact E.h a o h, fun a o h m => by rw [h3 a (ne_of_none h n)]; exact E.n a o h m⟩
theorem ownFrz {α : Type} [Enc α] {K : PySem.W.Frag} {s s' : S} {p q : Addr} {xs : List α} (o : Own K s q xs) (hne : q ≠ p) (h1 : s'.H = s.H) (h2 : Fle s.F s'.F) (h3 : ∀ q, q ≠ p → s'.F q = s.F q) : Own K s' q xs := by
  obtain ⟨hn, vs, hp, r⟩ := o
  exact ⟨by rw [h3 q hne]; exact hn, vs, by rw [h1]; exact hp, r.mono h2⟩
section
variable {α β γ δ ε : Type} [Enc α] [Enc β] [Enc γ] [Enc δ] [Enc ε] {X : Cx} {σ : St} {s t : S} {e a b c tg iter : Expr} {es : List Expr} {pos p0 p1 p2 p3 : Pos} {D : Ends} {rest A B body : List Stmt}
theorem ec_andO {x r : Bool} (h : EvB X a σ s x) (h2 : x = true → EvC X (.BoolOp .And (b :: es) pos) σ s r) (h3 : x = false → r = false) : EvC X (.BoolOp .And (a :: b :: es) pos) σ s r := by
  cases x with
  | true => exact (ec_and h h2 : EvC X _ σ s (true && r))
  | false =>
    have := ec_and (y := false) (es := es) (b := b) (pos := pos) h (fun z => Bool.noConfusion z)
    rw [h3 rfl]
    exact this
theorem ec_orO {x r : Bool} (h : EvB X a σ s x) (h2 : x = false → EvC X (.BoolOp .Or (b :: es) pos) σ s r) (h3 : x = true → r = true) : EvC X (.BoolOp .Or (a :: b :: es) pos) σ s r := by
  cases x with
  | false => exact (ec_or h h2 : EvC X _ σ s (false || r))
  | true =>
    have := ec_or (y := true) (es := es) (b := b) (pos := pos) h (fun z => Bool.noConfusion z)
    rw [h3 rfl]
    exact this
theorem et_tru {xs : List α} (h : EvR X e σ s xs) (he : ∀ whole, isTrue e X.env whole = (do let v ← whole; standAt e.pos; holding [v] (truthy v)) := by intro _; rfl) : EvT X e σ s (!xs.isEmpty) := fun s1 k Q q =>
  wt_of (pt_truth pe_we he) (h s1 k _ fun v s2 k2 r => by
    obtain ⟨p, vs, rfl, h1, h2⟩ := r
    refine ⟨_, .inl ⟨vs, h1, ?_⟩, q s2 k2⟩
    have := h2.len
    cases vs <;> cases xs <;> simp at this ⊢)
theorem isi_optT {τ : Type} [Ty τ] (x : Option τ) {T : String} (h1 : ∀ y : τ, kitB (Ty.ty y) T = some true) (h2 : kitB "NoneType" T = some false) : kitB (Ty.ty x) T = some x.isSome := by
  cases x with
  | none => exact h2
  | some y => exact h1 y
theorem isi_optF {τ : Type} [Ty τ] (x : Option τ) {T : String} (h1 : ∀ y : τ, kitB (Ty.ty y) T = some false) (h2 : kitB "NoneType" T = some false) : kitB (Ty.ty x) T = some false := by
  cases x with
  | none => exact h2
  | some y => exact h1 y
theorem en_rev {xs : List α} {k q1 q2 q3} (ha : EvR X e σ s xs) : EvN X (.Subscript e (.Slice none none (some (.UnaryOp .USub (.Constant (.int 1) k q1) q2)) q3) pos) σ s xs.reverse := fun s1 k1 Q q =>
  we_of (pe_revL pe_we) (ha s1 k1 _ fun v s2 k2 r2 => by
    obtain ⟨p, vs, rfl, h1, h2⟩ := r2
    exact ⟨p, vs, rfl, h1, fun l hl => q l (s2.newO l _ hl) (k2.trans (Ex.newO hl)) (fr_back k2 hl) (own_new hl h2.rev)⟩)
theorem do_drop {x : α} (h : Ev X e σ s x) (k : ∀ s1, Ex s s1 → WSs X rest D σ s1.H) (hs : swapsWith e none pos.line X.env = pure false := by rfl) : WSs X (.Expr e pos :: rest) D σ s.H :=
  do_cons (ps_expr pe_we hs) (h s (Ex.refl _) _ fun v s1 k1 r => k s1 k1)
theorem do_unp2 (i j : Nat) {x : α × β} (h : Ev X e σ s x) (k : ∀ v w s1, Ex s s1 → rep X.K s1.F v x.1 → rep X.K s1.F w x.2 → WSs X rest D ((σ.set i (some v)).set j (some w)) s1.H)
    (hg : PG X tg (gTup X.K 2 (gCons (gName i) (gCons (gName j) gNil)))) (hs : swapsWithSole [tg] e pos.line X.env = pure false := by rfl) (hw : swappedStores [tg] e X.env = pure none := by rfl)
    (h1 : (assignEach [tg] X.env).map (·.2) = [assign tg X.env] := by rfl) : WSs X (.Assign [tg] e pos :: rest) D σ s.H :=
  do_cons (ps_asg pe_we hg hs hw h1) (h s (Ex.refl _) _ fun v s1 k1 r => by
    obtain ⟨p, v1, v2, rfl, h0, h1, h2⟩ := r
    exact ⟨p, _, rfl, sqt_mono s1.sub h0, rfl, v1, _, rfl, v2, _, rfl, rfl, k v1 v2 s1 k1 h1 h2⟩)
theorem do_unp3 (i j l : Nat) {x : T3 α β γ} (h : Ev X e σ s x) (k : ∀ v w u s1, Ex s s1 → rep X.K s1.F v x.a → rep X.K s1.F w x.b → rep X.K s1.F u x.c → WSs X rest D (((σ.set i (some v)).set j (some w)).set l (some u)) s1.H)
    (hg : PG X tg (gTup X.K 3 (gCons (gName i) (gCons (gName j) (gCons (gName l) gNil))))) (hs : swapsWithSole [tg] e pos.line X.env = pure false := by rfl) (hw : swappedStores [tg] e X.env = pure none := by rfl)
    (h1 : (assignEach [tg] X.env).map (·.2) = [assign tg X.env] := by rfl) : WSs X (.Assign [tg] e pos :: rest) D σ s.H :=
  do_cons (ps_asg pe_we hg hs hw h1) (h s (Ex.refl _) _ fun v s1 k1 r => by
    obtain ⟨p, v1, v2, v3, rfl, h0, h1, h2, h3⟩ := r
    exact ⟨p, _, rfl, sqt_mono s1.sub h0, rfl, v1, _, rfl, v2, _, rfl, v3, _, rfl, rfl, k v1 v2 v3 s1 k1 h1 h2 h3⟩)
theorem do_whileF {υ ρ : Type} {cf : υ → Option Bool} {f : υ → Option (Fl υ ρ)} {n : Nat} {b0 : υ} {o : Fl υ ρ} (hp : PassesOwn (model X.prog X.w) X.A X.env X.xe) (hf : whileF cf f n b0 = some o) (R : υ → St → S → Prop) (h0 : R b0 σ s)
    (hc : ∀ (b : υ) (x : Bool) (σ' : St) (t : S), cf b = some x → Fle s.F t.F → R b σ' t → EvT X c σ' t x)
    (hb : ∀ (b : υ) (q : Fl υ ρ) (σ' : St) (t t' : S), cf b = some true → f b = some q → (∀ r, q = .rt r → o = .rt r) → Fle s.F t.F → R b σ' t → Ex t t' → WSs X body (LD D fun σ s => ∃ b', q = .nx b' ∧ Fle t'.F s.F ∧ R b' σ s) σ' t'.H)
    (hd : ∀ b1 σ' t t', o = .nx b1 → cf b1 = some false → Fle s.F t.F → R b1 σ' t → Ex t t' → WSs X rest D σ' t'.H) : WSs X (.While c body [] pos :: rest) D σ s.H :=
  do_cons (ps_while hp pt_wt pss_ws) (by
    refine ⟨fun m σ' H' => ∃ (t : S) (b : υ), t.H = H' ∧ Fle s.F t.F ∧ whileF cf f m b = some o ∧ R b σ' t, ⟨n, s, b0, rfl, Fle.refl _, hf, h0⟩, ?_⟩
    rintro m σ' H' ⟨t, b, rfl, fl, h1, h2⟩
    cases m with
    | zero => cases h1
    | succ m =>
      obtain ⟨x, h3, h4⟩ := bndE h1
      refine hc b x σ' t h3 fl h2 t (Ex.refl _) _ fun t' kt => ?_
      cases x with
      | true =>
        refine iteT ?_
        rw [if_pos rfl] at h4
        obtain ⟨q, h5, h6⟩ := bndE h4
        refine ⟨fun σ3 H3 => ∃ b', q = .nx b' ∧ ∃ u : S, u.H = H3 ∧ Fle s.F u.F ∧ R b' σ3 u, fun σ3 H3 ⟨b', e0, u, e1, f1, r1⟩ => ⟨m, Nat.lt_succ_self _, u, b', e1, f1, by subst e0; exact h6, r1⟩, ?_⟩
        exact (hb b q σ' t t' h3 h5 (fun r e0 => by subst e0; exact (Option.some.inj h6).symm) fl h2 kt).imp (fun σ3 H3 ⟨u, e1, b', e2, f1, r1⟩ => ⟨b', e2, u, e1, (fl.trans kt.f).trans f1, r1⟩) (fun _ _ q => q) (fun _ _ q => q.elim) (fun _ _ q => q.elim)
      | false =>
        refine iteF ?_
        rw [if_neg Bool.false_ne_true] at h4
        cases h4
        exact hd b σ' t t' rfl h3 fl h2 kt)
end
end Dy

namespace Dy
open PySem PySem.Spec L2
open PyProof.Rows hiding St

def Ok {α : Type} (m : Option α) (P : α → Prop) : Prop := ∃ r, m = some r ∧ P r
section
variable {α β γ ρ : Type}
theorem Ok.imp {m : Option α} {P Q : α → Prop} (h : Ok m P) (k : ∀ r, P r → Q r) : Ok m Q := let ⟨r, e, p⟩ := h; ⟨r, e, k r p⟩
theorem Ok.eq {m : Option α} {x : α} (h : Ok m (· = x)) : m = some x := by obtain ⟨r, e, rfl⟩ := h; exact e
theorem ok_eq {m : Option α} {x : α} {P : α → Prop} (h : m = some x) (p : P x) : Ok m P := ⟨x, h, p⟩
theorem ok_some {x : α} {P : α → Prop} (p : P x) : Ok (some x) P := ⟨x, rfl, p⟩
theorem ok_bnd {m : Option α} {f : α → Option β} {P : α → Prop} {Q : β → Prop} (h : Ok m P) (k : ∀ r, P r → Ok (f r) Q) : Ok (bnd m f) Q := by
  obtain ⟨r, e, p⟩ := h
  subst e
  exact k r p
theorem ok_chk {c : Prop} {m : Option α} {Q : α → Prop} (h : c) (k : Ok m Q) : Ok (chk c m) Q := by rw [chk_pos h]; exact k
theorem ok_lt {x : α} {f : α → Option β} {Q : β → Prop} (k : ∀ y, y = x → Ok (f y) Q) : Ok (lt x f) Q := k x rfl
theorem ok_ite {b : Bool} {m k : Option α} {Q : α → Prop} (h1 : b = true → Ok m Q) (h2 : b = false → Ok k Q) : Ok (if b = true then m else k) Q := by
  cases b with
  | true => exact h1 rfl
  | false => exact h2 rfl
theorem ok_andO {a : Bool} {m : Option Bool} {Q : Bool → Prop} (h1 : a = true → Ok m Q) (h2 : a = false → Q false) : Ok (andO a m) Q := by
  cases a with
  | true => exact h1 rfl
  | false => exact ⟨false, rfl, h2 rfl⟩
theorem ok_orO {a : Bool} {m : Option Bool} {Q : Bool → Prop} (h1 : a = false → Ok m Q) (h2 : a = true → Q true) : Ok (orO a m) Q := by
  cases a with
  | false => exact h1 rfl
  | true => exact ⟨true, rfl, h2 rfl⟩
theorem ok_foldO {f : β → α → Option β} (I : Nat → β → Prop) : ∀ {xs : List α} {b : β} {Q : β → Prop}, I 0 b → (∀ i b x, xs[i]? = some x → I i b → Ok (f b x) (I (i + 1))) → (∀ b, I xs.length b → Q b) → Ok (foldO f b xs) Q := by
  have key : ∀ (xs : List α) (b : β) (k : Nat), I k b → (∀ i b x, xs[i]? = some x → I (k + i) b → Ok (f b x) (I (k + i + 1))) → Ok (foldO f b xs) (I (k + xs.length)) := by
    intro xs
    induction xs with
    | nil => intro b k h _; exact ⟨b, rfl, h⟩
    | cons x r ih =>
      intro b k h hs
      refine ok_bnd (hs 0 b x rfl h) fun b' h' => ?_
      have := ih b' (k + 1) h' (fun i b y hy hI => by
        have := hs (i + 1) b y (by simpa using hy) (by rw [show k + (i + 1) = k + 1 + i by omega]; exact hI)
        rw [show k + (i + 1) + 1 = k + 1 + i + 1 by omega] at this
        exact this)
      rw [List.length_cons, show k + (r.length + 1) = k + 1 + r.length by omega]
      exact this
  intro xs b Q h0 hs hd
  have := key xs b 0 h0 (fun i b x hx hI => by
    have := hs i b x hx (by rw [Nat.zero_add] at hI; exact hI)
    rw [Nat.zero_add]; exact this)
  rw [Nat.zero_add] at this
  exact this.imp hd
theorem ok_foldF {f : β → α → Option (Fl β ρ)} (I : Nat → β → Prop) (Rr : ρ → Prop) : ∀ {xs : List α} {b : β} {Q : Fl β ρ → Prop}, I 0 b → (∀ i b x, xs[i]? = some x → I i b → Ok (f b x) (fun o => match o with | .nx b' => I (i + 1) b' | .rt r => Rr r)) →
    (∀ b, I xs.length b → Q (.nx b)) → (∀ r, Rr r → Q (.rt r)) → Ok (foldF f b xs) Q := by
  have key : ∀ (xs : List α) (b : β) (k : Nat), I k b → (∀ i b x, xs[i]? = some x → I (k + i) b → Ok (f b x) (fun o => match o with | .nx b' => I (k + i + 1) b' | .rt r => Rr r)) → Ok (foldF f b xs) (fun o => match o with | .nx b' => I (k + xs.length) b' | .rt r => Rr r) := by
    intro xs
    induction xs with
    | nil => intro b k h _; exact ⟨.nx b, rfl, h⟩
    | cons x r ih =>
      intro b k h hs
      refine ok_bnd (hs 0 b x rfl h) fun o h' => ?_
      cases o with
      | rt r => exact ⟨.rt r, rfl, h'⟩
      | nx b' =>
        have := ih b' (k + 1) h' (fun i b y hy hI => by
          have := hs (i + 1) b y (by simpa using hy) (by rw [show k + (i + 1) = k + 1 + i by omega]; exact hI)
          rw [show k + (i + 1) + 1 = k + 1 + i + 1 by omega] at this
          exact this)
        rw [List.length_cons, show k + (r.length + 1) = k + 1 + r.length by omega]
        exact this
  intro xs b Q h0 hs hd hr
  have := key xs b 0 h0 (fun i b x hx hI => by
    have := hs i b x hx (by rw [Nat.zero_add] at hI; exact hI)
    rw [Nat.zero_add]; exact this)
  rw [Nat.zero_add] at this
  refine this.imp fun o h => ?_
  cases o with
  | nx b => exact hd b h
  | rt r => exact hr r h
theorem ok_go {o : Fl β ρ} {k : β → Option γ} {e : ρ → Option γ} {Q : γ → Prop} (h1 : ∀ b, o = .nx b → Ok (k b) Q) (h2 : ∀ r, o = .rt r → Ok (e r) Q) : Ok (o.go k e) Q := by
  cases o with
  | nx b => exact h1 b rfl
  | rt r => exact h2 r rfl
theorem ok_compO {t : α → Option Bool} {f : α → Option β} {P : α → β → Prop} {T : α → Bool} : ∀ {xs : List α}, (∀ x ∈ xs, Ok (t x) (· = T x)) → (∀ x ∈ xs, T x = true → Ok (f x) (P x)) → Ok (compO t f xs) (fun ys => ys.length = (xs.filter T).length ∧ ∀ (i : Nat) (y : β), ys[i]? = some y → ∃ x, (xs.filter T)[i]? = some x ∧ P x y)
  | [], _, _ => ⟨[], rfl, rfl, fun i y h => by simp at h⟩
  | x :: r, h1, h2 => by
    unfold compO
    refine ok_bnd (h1 x List.mem_cons_self) fun b hb => ?_
    subst hb
    have ih := ok_compO (xs := r) (fun z hz => h1 z (List.mem_cons_of_mem _ hz)) (fun z hz => h2 z (List.mem_cons_of_mem _ hz))
    refine ok_ite (fun hb => ?_) (fun hb => ?_)
    · refine ok_bnd (h2 x List.mem_cons_self hb) fun y hy => ?_
      refine ok_bnd ih fun ys ⟨e1, e2⟩ => ok_some ?_
      rw [List.filter_cons, if_pos hb]
      refine ⟨by simp [e1], fun i z hz => ?_⟩
      cases i with
      | zero => simp at hz; subst hz; exact ⟨x, rfl, hy⟩
      | succ i => exact e2 i z (by simpa using hz)
    · rw [List.filter_cons, if_neg (by rw [hb]; exact Bool.false_ne_true)]
      exact ih
theorem ok_mapO {f : α → Option β} {P : α → β → Prop} {xs : List α} (h : ∀ x ∈ xs, Ok (f x) (P x)) : Ok (mapO f xs) (fun ys => ys.length = xs.length ∧ ∀ (i : Nat) (y : β), ys[i]? = some y → ∃ x, xs[i]? = some x ∧ P x y) := by
  have := ok_compO (t := fun _ => some true) (T := fun _ => true) (xs := xs) (fun x _ => ok_some rfl) (fun x hx _ => h x hx)
  rw [show xs.filter (fun _ => true) = xs from List.filter_eq_self.mpr (fun _ _ => rfl)] at this
  exact this
theorem mapO_eq {f : α → Option β} {g : α → β} : ∀ {xs : List α}, (∀ x ∈ xs, f x = some (g x)) → mapO f xs = some (xs.map g)
  | [], _ => rfl
  | x :: r, h => by
    have ih := mapO_eq (xs := r) (fun z hz => h z (List.mem_cons_of_mem _ hz))
    unfold mapO at ih ⊢
    unfold compO
    rw [Option.bind_some, if_pos rfl, h x List.mem_cons_self, Option.bind_some, ih]
    rfl
theorem compO_eq {t : α → Option Bool} {T : α → Bool} {f : α → Option β} {g : α → β} : ∀ {xs : List α}, (∀ x ∈ xs, t x = some (T x)) → (∀ x ∈ xs, T x = true → f x = some (g x)) → compO t f xs = some ((xs.filter T).map g)
  | [], _, _ => rfl
  | x :: r, h1, h2 => by
    have ih := compO_eq (xs := r) (fun z hz => h1 z (List.mem_cons_of_mem _ hz)) (fun z hz => h2 z (List.mem_cons_of_mem _ hz))
    unfold compO
    rw [h1 x List.mem_cons_self, Option.bind_some, List.filter_cons]
    cases hT : T x with
    | true => rw [if_pos rfl, if_pos rfl, h2 x List.mem_cons_self hT, Option.bind_some, ih]; rfl
    | false => rw [if_neg Bool.false_ne_true, if_neg Bool.false_ne_true, ih]
theorem foldO_eq {f : β → α → Option β} {g : β → α → β} : ∀ {xs : List α} {b : β}, (∀ b, ∀ x ∈ xs, f b x = some (g b x)) → foldO f b xs = some (xs.foldl g b)
  | [], _, _ => rfl
  | x :: r, b, h => by
    unfold foldO
    rw [h b x List.mem_cons_self, Option.bind_some, foldO_eq (xs := r) (fun b z hz => h b z (List.mem_cons_of_mem _ hz))]
    rfl
theorem ok_whileO {c : β → Option Bool} {f : β → Option β} (I : β → Prop) (μ : β → Nat) {Q : β → Prop} (hc : ∀ b, I b → Ok (c b) (fun t => if t = true then Ok (f b) (fun b' => I b' ∧ μ b' < μ b) else Q b)) : ∀ (n : Nat) (b : β), I b → μ b < n → Ok (whileO c f n b) Q
  | 0, b, _, h => absurd h (Nat.not_lt_zero _)
  | n + 1, b, hI, h => by
    unfold whileO
    refine ok_bnd (hc b hI) fun t ht => ?_
    cases t with
    | true =>
      rw [if_pos rfl] at ht ⊢
      exact ok_bnd ht fun b' ⟨h1, h2⟩ => ok_whileO I μ hc n b' h1 (by omega)
    | false =>
      rw [if_neg Bool.false_ne_true] at ht ⊢
      exact ok_some ht
theorem ok_whileF {c : β → Option Bool} {f : β → Option (Fl β ρ)} (I : β → Prop) (μ : β → Nat) {Q : Fl β ρ → Prop} (hc : ∀ b, I b → Ok (c b) (fun t => if t = true then Ok (f b) (fun o => match o with | .nx b' => I b' ∧ μ b' < μ b | .rt r => Q (.rt r)) else Q (.nx b))) : ∀ (n : Nat) (b : β), I b → μ b < n → Ok (whileF c f n b) Q
  | 0, b, _, h => absurd h (Nat.not_lt_zero _)
  | n + 1, b, hI, h => by
    unfold whileF
    refine ok_bnd (hc b hI) fun t ht => ?_
    cases t with
    | true =>
      rw [if_pos rfl] at ht ⊢
      refine ok_bnd ht fun o ho => ?_
      cases o with
      | nx b' => exact ok_whileF I μ hc n b' ho.1 (by have := ho.2; omega)
      | rt r => exact ok_some ho
    | false =>
      rw [if_neg Bool.false_ne_true] at ht ⊢
      exact ok_some ht
theorem fuel_eq : fuel = 1000000 := by unfold fuel; rfl
theorem mul_l {x y : Int} (h1 : -1000000000000000000 < x) (h2 : x < 1000000000000000000) : MulOk x y := .inl (.inl ⟨by omega, by omega⟩)
theorem mul_r {x y : Int} (h1 : -1000000000000000000 < y) (h2 : y < 1000000000000000000) : MulOk x y := .inl (.inr ⟨by omega, by omega⟩)
set_option exponentiation.threshold 10000 in
theorem div_small {y : Int} (h1 : 0 < y) (h2 : y < 1000000000000000000) : DivOk y := ⟨h1, PySem.Flt.log2_lt_of (by decide) (show y.natAbs < 2 ^ 9000 from Nat.lt_of_lt_of_le (show y.natAbs < 2 ^ 64 by omega) (Nat.pow_le_pow_right (by decide) (by decide)))⟩
theorem szl : sizeLine = 16777216 := rfl
theorem atI_get {xs : List α} {i : Int} (h0 : 0 ≤ i) (h1 : i < xs.length) : atI xs i = xs[i.toNat]? := by
  unfold atI ixN
  rw [if_pos h0, if_pos h1]; rfl
theorem ok_atI {xs : List α} {i : Int} {Q : α → Prop} (h0 : 0 ≤ i) (h1 : i < xs.length) (h : ∀ x, xs[i.toNat]? = some x → Q x) : Ok (atI xs i) Q := by
  rw [atI_get h0 h1]
  have hl : i.toNat < xs.length := by omega
  exact ⟨xs[i.toNat], List.getElem?_eq_getElem hl, h _ (List.getElem?_eq_getElem hl)⟩
theorem cut_len_le (xs : List α) (lo hi : Option Int) : (cut xs lo hi).length ≤ xs.length := by
  unfold cut
  rw [List.length_take, List.length_drop]
  omega
theorem cut_hi (xs : List α) (n : Nat) : cut xs none (some (n : Int)) = xs.take n := by
  unfold cut
  rw [HT.sIx_none, show HT.sIx xs.length xs.length (some (n : Int)) = min n xs.length from HT.sIx_nat xs.length xs.length n]
  simp only [List.drop_zero, Nat.sub_zero]
  by_cases h : n ≤ xs.length
  · rw [Nat.min_eq_left h]
  · rw [Nat.min_eq_right (by omega), List.take_of_length_le (Nat.le_refl _), List.take_of_length_le (by omega)]
theorem rng_len_nn {n : Int} (h : 0 ≤ n) : (rng 0 n).length = n.toNat := by rw [rng_len]; congr 1; omega
theorem rng_at {a b : Int} {i : Nat} {x : Int} (h : (rng a b)[i]? = some x) : x = a + (i : Int) ∧ a + (i : Int) < b := by
  obtain ⟨h1, h2⟩ := rng_get h
  omega
end
theorem chars_len (x : Str) : (chars x).length = x.length := by
  unfold chars
  rw [List.length_map, Array.length_toList]; rfl
theorem join_len0 (ys : List Str) : (Txt.join ("" : Str) ys).length = (ys.map (·.length)).sum := by
  have h : ∀ z : Str, z.length = (TL.tl z).length := fun z => by show z.cps.size = z.cps.toList.length; rw [Array.length_toList]
  have key : ∀ ps : List (List Nat), (TL.joinL [] ps).length = (ps.map List.length).sum := by
    intro ps
    induction ps with
    | nil => rfl
    | cons p r ih =>
      cases r with
      | nil => simp [TL.joinL]
      | cons q r =>
        have e : TL.joinL [] (p :: q :: r) = p ++ ([] ++ TL.joinL [] (q :: r)) := by simp [TL.joinL]
        rw [e, List.nil_append, List.length_append, ih]; rfl
  rw [h, TL.join_eq, TL.tl_join, show TL.tl ("" : Str) = [] from rfl, key, List.map_map]
  exact congrArg List.sum (List.map_congr_left fun z _ => (h z).symm)
theorem sum_ones {ys : List Str} (h : ∀ y ∈ ys, y.length = 1) : (ys.map (·.length)).sum = ys.length := by
  induction ys with
  | nil => rfl
  | cons y r ih =>
    rw [List.map_cons, List.sum_cons, ih fun z hz => h z (List.mem_cons_of_mem _ hz), h y List.mem_cons_self, List.length_cons]
    omega
theorem foldF_any {α ρ : Type} {p : α → Bool} {f : Unit → α → Option (Fl Unit ρ)} {r : ρ} (h : ∀ x, f () x = if p x = true then some (.rt r) else some (.nx ())) : ∀ xs : List α, foldF f () xs = some (if xs.any p = true then .rt r else .nx ())
  | [] => rfl
  | x :: xs => by
    unfold foldF
    rw [h x, List.any_cons]
    cases hp : p x with
    | true => rfl
    | false =>
      rw [if_neg Bool.false_ne_true]
      show foldF f () xs = _
      rw [foldF_any h xs, Bool.false_or]
end Dy

namespace Dy
open PySem PySem.Spec L2
open PyProof.Rows hiding St
open Enc (rep)
open Flat (toV)
open EncA (repA)

section
variable {α β γ δ : Type} [Enc α] [Enc β] [Enc γ] [Enc δ] {X : Cx} {σ : St} {s t : S} {e a b c tg iter : Expr} {es : List Expr} {pos p0 p1 p2 p3 : Pos} {D : Ends} {rest A B body : List Stmt}
def RepS (x : Str) (n : Int) : Prop := PySem.MulOk x n
def replS (x : Str) (n : Int) : Str := Txt.mul x n
theorem op_repStr : OpR X (binaryOp .Mult) (fun x y H Q => ∃ z n, x = .str z ∧ y = .int n ∧ RepS z n ∧ Q (.str (replS z n)) H) := by
  intro pins s σ H x y v u Q I rx ry h
  obtain ⟨z, n, rfl, rfl, hok, q⟩ := h
  obtain ⟨t, rfl⟩ := rx
  obtain ⟨t', rfl⟩ := ry
  exact PySem.SB.mul hok fun t' k => ⟨.str _, H, I.tok _, ⟨_, rfl⟩, q⟩
theorem ev_repS {x : Str} {n : Int} (ha : Ev X a σ s x) (hb : Ev X b σ s n) (h : RepS x n) : Ev X (.BinOp a .Mult b pos) σ s (replS x n) :=
  ev_op op_repStr ha hb fun v u s2 hv hu Q q => ⟨x, n, hv, hu, h, q _ s2 (Ex.refl _) rfl⟩
theorem repS_small {x : Str} {n : Int} (h0 : x.length ≤ 1000) (h1 : n ≤ 1000) (h2 : -1000 ≤ n) : RepS x n := by
  refine ⟨by rw [Bool.or_eq_false_iff]; exact ⟨decide_eq_false (by omega), decide_eq_false (by omega)⟩, fun h3 _ => ?_, fun h3 _ => ?_⟩
  · intro h
    have : (2 ^ 63 - 1) / n ≥ 1000 := by
      refine (Int.le_ediv_iff_mul_le (by omega)).mpr ?_
      omega
    omega
  · unfold Builtin.Str.tooLong
    have : x.length * n.toNat ≤ 1000 * 1000 := Nat.mul_le_mul h0 (by omega)
    refine decide_eq_false ?_
    have := szl
    omega
def stepN (a b c : Int) : Nat := if a < b then ((b - a - 1) / c + 1).toNat else 0
def rngS (a b c : Int) : List Int := (List.range (stepN a b c)).map fun i : Nat => a + (i : Int) * c
def RgS (a b c : Int) : Prop := (-(2 ^ 61) ≤ a ∧ a < 2 ^ 61) ∧ (-(2 ^ 61) ≤ b ∧ b < 2 ^ 61) ∧ 0 < c ∧ c < 1000000
theorem rgC_of {a b c : Int} (h : RgS a b c) : RgC a b c (stepN a b c) := by
  obtain ⟨⟨h1, h2⟩, ⟨h3, h4⟩, h5, h6⟩ := h
  have hs : Builtin.Range.rangeSize a b c = (stepN a b c : Nat) := by
    unfold Builtin.Range.rangeSize stepN
    rw [if_pos h5]
    split
    · have : 0 ≤ (b - a - 1) / c := Int.ediv_nonneg (by omega) (by omega)
      omega
    · rfl
  refine ⟨by omega, by omega, ?_, hs⟩
  have e1 : a < b → c * ((b - a - 1) / c) ≤ b - a - 1 := fun _ => Int.mul_ediv_self_le (by omega)
  have e2 : a < b → 0 ≤ (b - a - 1) / c := fun _ => Int.ediv_nonneg (by omega) (by omega)
  have e3 : a < b → (b - a - 1) / c ≤ b - a - 1 := fun _ => by
    refine Int.ediv_le_self _ (by omega)
  unfold Builtin.Range.small
  unfold Builtin.Range.rangeSize
  simp only [Builtin.Range.rangeFitsLong, Bool.and_eq_true, Bool.or_eq_true, decide_eq_true_eq, beq_iff_eq, if_pos h5]
  split
  · rename_i hlt
    have e1 := e1 hlt
    have e2 := e2 hlt
    have e3 := e3 hlt
    generalize hq : (b - a - 1) / c = q at *
    have e4 : c * q = q * c := Int.mul_comm _ _
    have e5 : (q + 1) * c = q * c + c := by rw [Int.add_mul]; omega
    have e6 : 0 ≤ c * q := Int.mul_nonneg (by omega) e2
    refine ⟨?_, ?_⟩ <;> omega
  · omega
theorem rngS_get {a b c : Int} {i : Nat} {x : Int} (h : (rngS a b c)[i]? = some x) : i < stepN a b c ∧ x = a + (i : Int) * c := by
  unfold rngS at h
  rw [List.getElem?_map] at h
  obtain ⟨j, h1, rfl⟩ := Option.map_eq_some_iff.mp h
  obtain ⟨h2, h3⟩ := List.getElem?_eq_some_iff.mp h1
  rw [List.length_range] at h2
  rw [List.getElem_range] at h3
  subst h3
  exact ⟨h2, rfl⟩
theorem rngS_len (a b c : Int) : (rngS a b c).length = stepN a b c := by unfold rngS; rw [List.length_map, List.length_range]
theorem ei_range3 {x y z : Int} (hm : X.mg "range" = none) (ha : Ev X a σ s x) (hb : Ev X b σ s y) (hc : Ev X c σ s z) (h : RgS x y z) (hg : Gl X "range" := by rfl)
    (hs : starEach [a, b, c] X.env = (false, eval a X.env) :: starEach [b, c] X.env := by rfl) (hs2 : starEach [b, c] X.env = (false, eval b X.env) :: starEach [c] X.env := by rfl) (hs3 : starEach [c] X.env = (false, eval c X.env) :: starEach [] X.env := by rfl) (hpl : (backTo pos (starEach [b, c] X.env)).any (·.1) = false := by rfl) :
    EvI X tg (.Call (.Name "range" p0) [a, b, c] [] pos) σ s (rngS x y z) := fun s1 k R q =>
  wi_of (pi_range3 hg hm (pa_cons pe_we (pa_cons pe_we (pa_cons pe_we pa_nil hs3) hs2) hs) hs hpl) (ha s1 k _ fun v s2 k2 r2 => hb s2 (k.trans k2) _ fun u s3 k3 r3 => hc s3 ((k.trans k2).trans k3) _ fun w s4 k4 r4 =>
    ⟨x, y, z, stepN x y z, by rw [show v = V.int x from r2, show u = V.int y from r3, show w = V.int z from r4], rgC_of h, q _ s4 ((k2.trans k3).trans k4) ⟨fun i t w f hw => ⟨(rngS_get hw).1, fun v' H' ⟨e1, e2⟩ => ⟨t, e1.symm, Ex.refl _, by rw [e2, (rngS_get hw).2]; rfl⟩⟩, fun i t f hi => by rw [rngS_len] at hi; exact hi⟩⟩)
theorem ev_isiR {xs : List α} {n : Str} {T : String} {r : Bool} (hm : X.mg "isinstance" = none) (hn : X.mg n = none) (hv : bootBuiltins n = some (.type T)) (ha : EvR X a σ s xs) (h : kitB "list" T = some r)
    (hg : Gl X "isinstance" := by rfl) (hgn : Gl X n := by rfl) (he : starEach [a, .Name n p1] X.env = (false, eval a X.env) :: starEach [.Name n p1] X.env := by rfl) (he2 : starEach [.Name n p1] X.env = (false, eval (.Name n p1) X.env) :: starEach [] X.env := by rfl) (hpl : (backTo pos (starEach [.Name n p1] X.env)).any (·.1) = false := by rfl)
    (hnn : n ≠ "__name__" := by decide) (hnd : (n == ("__debug__" : Str)) = false := by decide) :
    Ev X (.Call (.Name "isinstance" p0) [a, .Name n p1] [] pos) σ s r := fun s1 k Q q =>
  we_of (pe_callB call_isi hg hm (by decide +kernel) (pa_cons pe_we (pa_cons (pe_bltn (v := .ty T) hgn hn hv rfl hnn hnd) pa_nil he2) he) (he := he) (hpl := hpl)) (ha s1 k _ fun v s2 k2 r2 => by
    obtain ⟨p, vs, rfl, h1, _⟩ := r2
    exact ⟨.ref p, .ty T, .type "list", .type T, r, rfl, .ty T, sql_ty h1, kit_ty h, q _ s2 k2 rfl⟩)
theorem eb_isB {x y : Bool} (ha : Ev X a σ s x) (hb : Ev X b σ s y) : EvB X (.Compare a [.Is] [b] pos) σ s (decide (x = y)) :=
  eb_cmp op_isBl ha hb (fun v u s2 hv hu Q q => ⟨x, y, hv, hu, q⟩) (nomark _)
theorem eb_isnotB {x y : Bool} (ha : Ev X a σ s x) (hb : Ev X b σ s y) : EvB X (.Compare a [.IsNot] [b] pos) σ s (!decide (x = y)) :=
  eb_cmp op_notBl ha hb (fun v u s2 hv hu Q q => ⟨x, y, hv, hu, q⟩) (nomark _)
theorem ev_sliceT {x : Tu α} {lo hi : Option Expr} {l h : Option Int} (ha : Ev X a σ s x) (hl : EvO X lo σ s l) (hh : EvO X hi σ s h) : Ev X (.Subscript a (.Slice lo hi none p2) pos) σ s (Tu.mk (cut x.l l h)) := fun s1 k Q q => by
  obtain ⟨tl, pl, ql⟩ := po_evo hl
  obtain ⟨th, ph, qh⟩ := po_evo hh
  refine we_of (pe_slice sl_tupA pe_we pl ph) (ha s1 k _ fun v s2 k2 r2 => ql s2 (k.trans k2) _ fun s3 k3 => qh s3 ((k.trans k2).trans k3) _ fun s4 k4 => ?_)
  obtain ⟨p, vs, rfl, h1, h2⟩ := Enc.mono (α := Tu α) (k3.trans k4).f r2
  have kk := (k2.trans k3).trans k4
  refine ⟨p, vs, rfl, sqt_mono s4.sub h1, fun hw => ?_, fun _ l hl => q _ (s4.newF l _ hl) (kk.trans (Ex.newF hl)) ⟨l, _, rfl, tup_new hl, (h2.cut _ _).mono (Ex.newF hl).f⟩⟩
  refine q _ s4 kk ⟨p, vs, rfl, h1, ?_⟩
  have e : cut x.l l h = x.l := by
    unfold cut
    rw [← h2.len, hw.1, hw.2, List.drop_zero, Nat.sub_zero, h2.len, List.take_length]
  show Reps _ _ vs (cut x.l l h)
  rw [e]; exact h2
def popN (n : Nat) (i : Int) : Option Nat := if -(2 ^ 63) ≤ i ∧ i < 2 ^ 63 then seqIndex? i n else none
theorem seqIx_lt {n : Nat} {i : Int} {k : Nat} (h : seqIndex? i n = some k) : k < n := by
  unfold seqIndex? at h
  dsimp only at h
  split at h <;> split at h
  all_goals first | (rename_i h2; simp only [Bool.and_eq_true, decide_eq_true_eq] at h2; cases h; omega) | cases h
theorem do_popAt (i : Nat) {p : Addr} {n : Str} {xs : List α} {z : Int} {j : Nat} (hσ : σ[i]? = some (some (.ref p))) (o : Own X.K s p xs) (he : Ev X e σ s z) (hj : popN xs.length z = some j)
    (k : ∀ s1, Mx (· = p) s s1 → Own X.K s1 p (xs.eraseIdx j) → WSs X rest D σ s1.H)
    (hN : X.N[i]? = some n := by rfl) (hv : Vis X.env.scope n := by first | exact Or.inl rfl | exact Or.inr (Or.inl rfl) | exact Or.inr (Or.inr rfl)) (hd : (n == ("__debug__" : Str)) = false := by decide) (hcd : (n == ("__classdict__" : Str)) = false := by decide)
    (hbase : attributeBase (.Name n p0) "pop" X.env (eval (.Name n p0) X.env) = eval (.Name n p0) X.env := by rfl)
    (hfew : ((backTo p2 (starEach [e] X.env)).all (fun x => !x.1) && (backToKw p2 (keywordEach [] X.env)).all (fun x => x.1.isSome) && decide (([e] : List Expr).length + ([] : List Keyword).length + (if ([] : List Keyword).isEmpty then 0 else 1) < 30)) = true := by rfl)
    (hline : (p1.endLine == p2.line) = true := by rfl) (hs : starEach [e] X.env = (false, eval e X.env) :: starEach [] X.env := by rfl) (hplain : (backTo p2 (starEach [] X.env)).any (·.1) = false := by rfl)
    (hsw : swapsWith (.Call (.Attribute (.Name n p0) "pop" p1) [e] [] p2) none p3.line X.env = pure false := by rfl) :
    WSs X (.Expr (.Call (.Attribute (.Name n p0) "pop" p1) [e] [] p2) p3 :: rest) D σ s.H :=
  do_cons (ps_expr (pe_bm PySem.F.plainAttrs_list PySem.F.slot_list_pop PySem.F.type_list_pop mt_popAt (pe_var hN hv hd hcd) (pa_cons pe_we pa_nil hs) hbase hfew hline hs hplain) hsw) (by
    obtain ⟨h1, vs, h2, h3⟩ := id o
    refine ⟨_, hσ, .inl ⟨rfl, vs, .inl (.inl h2)⟩, he s (Ex.refl _) _ fun v s1 k1 r1 => ?_⟩
    have f1 := k1.n _ _ h2 h1
    have g1 := k1.h _ _ h2
    unfold popN at hj
    split at hj
    · rename_i hb
      have hlt : j < vs.length := by rw [h3.len]; exact seqIx_lt hj
      refine ⟨p, vs, z, j, vs[j], rfl, by rw [show v = V.int z from r1], g1, hb.1, hb.2, by rw [h3.len]; exact hj, List.getElem?_eq_getElem hlt, ?_⟩
      exact k (s1.put p (.lst (vs.eraseIdx j)) f1) (k1.mx.trans (Mx.put f1)) ⟨f1, _, upd_same, (h3.mono k1.f).erase j⟩
    · cases hj)
def InsOk (i : Int) (n : Nat) : Prop := 0 ≤ i ∧ i < 2 ^ 63 ∧ n < sizeLine
def insI {τ : Type} (xs : List τ) (i : Int) (x : τ) : List τ := xs.take i.toNat ++ [x] ++ xs.drop i.toNat
theorem do_insert (i : Nat) {p : Addr} {n : Str} {xs : List α} {z : Int} {x : α} (hσ : σ[i]? = some (some (.ref p))) (o : Own X.K s p xs) (ha : Ev X a σ s z) (hb : Ev X b σ s x) (hj : InsOk z xs.length)
    (k : ∀ s1, Mx (· = p) s s1 → Own X.K s1 p (insI xs z x) → WSs X rest D σ s1.H)
    (hN : X.N[i]? = some n := by rfl) (hv : Vis X.env.scope n := by first | exact Or.inl rfl | exact Or.inr (Or.inl rfl) | exact Or.inr (Or.inr rfl)) (hd : (n == ("__debug__" : Str)) = false := by decide) (hcd : (n == ("__classdict__" : Str)) = false := by decide)
    (hbase : attributeBase (.Name n p0) "insert" X.env (eval (.Name n p0) X.env) = eval (.Name n p0) X.env := by rfl)
    (hfew : ((backTo p2 (starEach [a, b] X.env)).all (fun x => !x.1) && (backToKw p2 (keywordEach [] X.env)).all (fun x => x.1.isSome) && decide (([a, b] : List Expr).length + ([] : List Keyword).length + (if ([] : List Keyword).isEmpty then 0 else 1) < 30)) = true := by rfl)
    (hline : (p1.endLine == p2.line) = true := by rfl) (hs : starEach [a, b] X.env = (false, eval a X.env) :: starEach [b] X.env := by rfl) (hs2 : starEach [b] X.env = (false, eval b X.env) :: starEach [] X.env := by rfl) (hplain : (backTo p2 (starEach [b] X.env)).any (·.1) = false := by rfl)
    (hsw : swapsWith (.Call (.Attribute (.Name n p0) "insert" p1) [a, b] [] p2) none p3.line X.env = pure false := by rfl) :
    WSs X (.Expr (.Call (.Attribute (.Name n p0) "insert" p1) [a, b] [] p2) p3 :: rest) D σ s.H :=
  do_cons (ps_expr (pe_bm PySem.F.plainAttrs_list PySem.F.slot_list_insert PySem.F.type_list_insert mt_insert (pe_var hN hv hd hcd) (pa_cons pe_we (pa_cons pe_we pa_nil hs2) hs) hbase hfew hline hs hplain) hsw) (by
    obtain ⟨h1, vs, h2, h3⟩ := id o
    refine ⟨_, hσ, .inl ⟨rfl, vs, .inl (.inl h2)⟩, ha s (Ex.refl _) _ fun u s1 k1 r1 => hb s1 k1 _ fun v s2 k2 r2 => ?_⟩
    have kk := k1.trans k2
    have f1 := kk.n _ _ h2 h1
    have g1 := kk.h _ _ h2
    refine ⟨p, vs, z, v, rfl, by rw [show u = V.int z from r1], g1, by rw [h3.len]; exact hj.2.2, hj.1, hj.2.1, ?_⟩
    exact k (s2.put p (.lst (vs.take z.toNat ++ [v] ++ vs.drop z.toNat)) f1) (kk.mx.trans (Mx.put f1)) ⟨f1, _, upd_same, (((h3.mono kk.f).take _).snoc r2).app ((h3.mono kk.f).drop _)⟩)
theorem do_reverse (i : Nat) {p : Addr} {n : Str} {xs : List α} (hσ : σ[i]? = some (some (.ref p))) (o : Own X.K s p xs)
    (k : ∀ s1, Mx (· = p) s s1 → Own X.K s1 p xs.reverse → WSs X rest D σ s1.H)
    (hN : X.N[i]? = some n := by rfl) (hv : Vis X.env.scope n := by first | exact Or.inl rfl | exact Or.inr (Or.inl rfl) | exact Or.inr (Or.inr rfl)) (hd : (n == ("__debug__" : Str)) = false := by decide) (hcd : (n == ("__classdict__" : Str)) = false := by decide)
    (hbase : attributeBase (.Name n p0) "reverse" X.env (eval (.Name n p0) X.env) = eval (.Name n p0) X.env := by rfl) (hline : (p1.endLine == p2.line) = true := by rfl)
    (hsw : swapsWith (.Call (.Attribute (.Name n p0) "reverse" p1) [] [] p2) none p3.line X.env = pure false := by rfl) :
    WSs X (.Expr (.Call (.Attribute (.Name n p0) "reverse" p1) [] [] p2) p3 :: rest) D σ s.H :=
  do_cons (ps_expr (pe_bm0 PySem.F.plainAttrs_list PySem.F.slot_list_reverse PySem.F.type_list_reverse mt_reverse (pe_var hN hv hd hcd) hbase hline) hsw) (by
    obtain ⟨h1, vs, h2, h3⟩ := id o
    refine ⟨_, hσ, .inl ⟨rfl, vs, .inl (.inl h2)⟩, p, vs, rfl, rfl, h2, ?_⟩
    exact k (s.put p (.lst vs.reverse) h1) (Mx.put h1) ⟨h1, _, upd_same, h3.rev⟩)
theorem do_clear (i : Nat) {p : Addr} {n : Str} {xs : List α} (hσ : σ[i]? = some (some (.ref p))) (o : Own X.K s p xs)
    (k : ∀ s1, Mx (· = p) s s1 → Own X.K s1 p ([] : List α) → WSs X rest D σ s1.H)
    (hN : X.N[i]? = some n := by rfl) (hv : Vis X.env.scope n := by first | exact Or.inl rfl | exact Or.inr (Or.inl rfl) | exact Or.inr (Or.inr rfl)) (hd : (n == ("__debug__" : Str)) = false := by decide) (hcd : (n == ("__classdict__" : Str)) = false := by decide)
    (hbase : attributeBase (.Name n p0) "clear" X.env (eval (.Name n p0) X.env) = eval (.Name n p0) X.env := by rfl) (hline : (p1.endLine == p2.line) = true := by rfl)
    (hsw : swapsWith (.Call (.Attribute (.Name n p0) "clear" p1) [] [] p2) none p3.line X.env = pure false := by rfl) :
    WSs X (.Expr (.Call (.Attribute (.Name n p0) "clear" p1) [] [] p2) p3 :: rest) D σ s.H :=
  do_cons (ps_expr (pe_bm0 PySem.F.plainAttrs_list PySem.F.slot_list_clear PySem.F.type_list_clear mt_clear (pe_var hN hv hd hcd) hbase hline) hsw) (by
    obtain ⟨h1, vs, h2, h3⟩ := id o
    refine ⟨_, hσ, .inl ⟨rfl, vs, .inl (.inl h2)⟩, p, vs, rfl, rfl, h2, ?_⟩
    exact k (s.put p (.lst []) h1) (Mx.put h1) ⟨h1, _, upd_same, trivial⟩)
theorem ev_catT {x y : Tu α} (ha : Ev X a σ s x) (hb : Ev X b σ s y) (hz : x.l.length + y.l.length ≤ sizeLine) : Ev X (.BinOp a .Add b pos) σ s (Tu.mk (x.l ++ y.l)) := fun s1 k Q q =>
  we_of (pe_op op_catA pe_we pe_we) (ha s1 k _ fun v s2 k2 r2 => hb s2 (k.trans k2) _ fun u s3 k3 r3 => by
    obtain ⟨p, vs, rfl, h1, h2⟩ := Enc.mono (α := Tu α) k3.f r2
    obtain ⟨p', ws, rfl, h3, h4⟩ := r3
    have kk := k2.trans k3
    refine ⟨p, p', vs, ws, rfl, rfl, sqt_mono s3.sub h1, sqt_mono s3.sub h3, by rw [h2.len, h4.len]; exact hz, fun e => ?_, fun _ e => ?_, fun _ _ l hl => q _ (s3.newF l _ hl) (kk.trans (Ex.newF hl)) ⟨l, _, rfl, tup_new hl, (h2.app h4).mono (Ex.newF hl).f⟩⟩
    · refine q _ s3 kk ⟨p', ws, rfl, h3, ?_⟩
      subst e
      have e2 : x.l = [] := List.length_eq_zero_iff.mp h2.len.symm
      show Reps _ _ ws (x.l ++ y.l)
      rw [e2]; exact h4
    · refine q _ s3 kk ⟨p, vs, rfl, h1, ?_⟩
      subst e
      have e2 : y.l = [] := List.length_eq_zero_iff.mp h4.len.symm
      show Reps _ _ vs (x.l ++ y.l)
      rw [e2, List.append_nil]; exact h2)
end
theorem foldO_app {α β : Type} {N : Nat} {f : List β → α → Option (List β)} {g : α → β} : ∀ {xs : List α} {b : List β}, (∀ b x, b.length < N → x ∈ xs → f b x = some (b ++ [g x])) → b.length + xs.length ≤ N → foldO f b xs = some (b ++ xs.map g)
  | [], b, _, _ => by simp [foldO]
  | x :: r, b, h, hl => by
    rw [List.length_cons] at hl
    unfold foldO
    rw [h b x (by omega) List.mem_cons_self, Option.bind_some, foldO_app (xs := r) (b := b ++ [g x]) (fun b y hb hy => h b y hb (List.mem_cons_of_mem _ hy)) (by rw [List.length_append, List.length_singleton]; omega)]
    simp
theorem atI_map {α β : Type} {f : α → β} {xs : List α} {i : Int} {x : α} (h : atI xs i = some x) : atI (xs.map f) i = some (f x) := by
  unfold atI at h ⊢
  rw [List.length_map]
  cases hj : ixN xs.length i with
  | none => rw [hj] at h; cases h
  | some j =>
    rw [hj] at h
    show (xs.map f)[j]? = _
    rw [List.getElem?_map]
    have : xs[j]? = some x := h
    rw [this]; rfl
theorem foldF_none {α ρ : Type} {f : Unit → α → Option (Fl Unit ρ)} : ∀ {xs : List α}, (∀ x ∈ xs, f () x = some (.nx ())) → foldF f () xs = some (.nx ())
  | [], _ => rfl
  | x :: r, h => by
    unfold foldF
    rw [h x List.mem_cons_self]
    exact foldF_none fun y hy => h y (List.mem_cons_of_mem _ hy)
theorem foldF_ok {α ρ : Type} {f : Unit → α → Option (Fl Unit ρ)} {xs : List α} {Q : Fl Unit ρ → Prop} (h : ∀ x ∈ xs, Ok (f () x) (· = .nx ())) (q : Q (.nx ())) : Ok (foldF f () xs) Q :=
  ⟨_, foldF_none fun x hx => (h x hx).eq, q⟩
def Drawn (sizes ds : List Int) : Prop := ds.length = sizes.length ∧ ∀ (j : Nat) (d n : Int), ds[j]? = some d → sizes[j]? = some n → 0 ≤ d ∧ d < n
theorem ok_draw {sizes ds : List Int} (h : Drawn sizes ds) (k : Nat) {n : Int} (hk : sizes[k]? = some n) {Q : Int → Prop} (q : ∀ d, 0 ≤ d → d < n → Q d) : Ok (atI ds (k : Int)) Q := by
  obtain ⟨h1, h2⟩ := h
  have hlt : k < ds.length := by rw [h1]; exact (List.getElem?_eq_some_iff.mp hk).1
  refine ok_atI (by omega) (by omega) fun d hd => ?_
  rw [show (k : Int).toNat = k by omega] at hd
  obtain ⟨a, b⟩ := h2 k d n hd hk
  exact q d a b
theorem ok_sgn {x : Str} {i : Int} {Q : Str → Prop} (hz : x.length ≤ sizeLine) (h0 : 0 ≤ i) (h1 : i < x.length) (h : ∀ c, x.cps.toList[i.toNat]? = some c → Q ⟨#[c]⟩) : Ok (sgn x i) Q := by
  unfold sgn
  rw [if_pos hz]
  have hl : i.toNat < x.cps.toList.length := by
    rw [Array.length_toList]
    show i.toNat < x.length
    omega
  rw [atI_get h0 (by rw [Array.length_toList]; show i < (x.length : Int); exact h1), List.getElem?_eq_getElem hl]
  exact ok_some (h _ (List.getElem?_eq_getElem hl))
theorem bnd_some {α : Type} (m : Option α) : (bnd m fun x => some x) = m := by cases m <;> rfl
theorem ok_ret {α : Type} {m : Option α} {P : α → Prop} (h : Ok m P) : Ok (bnd m fun x => some x) P := by rw [bnd_some]; exact h
def txt (x : Str) : Prop := PyData.strOk x = true
theorem shp_strs {xs : List Str} (h : ∀ x ∈ xs, txt x) : shp xs := by
  unfold shp SeqAt.shaped
  have h1 : PyData.canLay0 (EqD.toD xs) = true := by
    show PyData.canLay0 (.list (xs.map PyData.str)) = true
    unfold PyData.canLay0
    induction xs with
    | nil => simp [PyData.canLayAll0]
    | cons x r ih =>
      rw [List.map_cons]
      unfold PyData.canLayAll0
      rw [ih fun y hy => h y (List.mem_cons_of_mem _ hy)]
      show (PyData.canLay0 (.str x) && true) = true
      unfold PyData.canLay0
      rw [show PyData.strOk x = true from h x List.mem_cons_self]; rfl
  have h2 : PyData.depth (EqD.toD xs) ≤ 64 := by
    show PyData.depth (.list (xs.map PyData.str)) ≤ 64
    unfold PyData.depth
    have : PyData.depthAll (xs.map PyData.str) = 0 := by
      clear h h1
      induction xs with
      | nil => simp [PyData.depthAll]
      | cons x r ih => rw [List.map_cons]; unfold PyData.depthAll; rw [ih]; simp [PyData.depth]
    omega
  rw [h1, decide_eq_true h2]; rfl
end Dy

namespace Dy
open PySem PySem.Spec L2
open PyProof.Rows hiding St
open Enc (rep)
open Flat (toV)
open EncA (repA)

def S.back (s t : S) (h : Fle s.F t.F) : S := ⟨s.F, t.H, fun a o q => t.sub a o (h a o q)⟩
theorem backE {s0 s t : S} (h : Fle s.F t.F) (E : Ex s0 s) (E' : Ex s0 t) : Ex s0 (s.back t h) := ⟨E.f, E'.h, E.n⟩
theorem backOwn {α : Type} [Enc α] {K : PySem.W.Frag} {s s1 t : S} {p : Addr} {xs : List α} (h : Fle s.F t.F) (o : Own K s p xs) (h1 : s1.F p = s.H p) (h2 : Fle s1.F t.F) : Own K (s.back t h) p xs := by
  obtain ⟨n, vs, e, r⟩ := o
  exact ⟨n, vs, t.sub _ _ (h2 _ _ (h1.trans e)), r⟩
theorem backOwn2 {α : Type} [Flat α] {K : PySem.W.Frag} {s t : S} {q : Addr} {xs : List α} (h : Fle s.F t.F) (o : Own K t q xs) : Own K (s.back t h) q xs := by
  obtain ⟨n, vs, e, r⟩ := o
  refine ⟨?_, vs, e, ?_⟩
  · show s.F q = none
    cases z : s.F q with
    | none => rfl
    | some u => rw [h _ _ z] at n; cases n
  · rw [r.flat]; exact Reps.of_flat xs
theorem backFlat {α : Type} [Flat α] {K : PySem.W.Frag} {s t : S} {v : V} {x : α} (h : Fle s.F t.F) (r : rep K t.F v x) : rep K (s.back t h).F v x := Flat.iff.mpr (Flat.iff.mp r)
section
variable {α β γ δ : Type} [Enc α] [Enc β] [Enc γ] [Enc δ] {X : Cx} {σ : St} {s t : S} {e a b c tg iter : Expr} {es : List Expr} {pos p0 p1 p2 p3 p4 p5 : Pos} {D : Ends} {rest A B body : List Stmt}
theorem do_frz2 {p : Addr} {xs : List α} {ss : List Stmt} (o : Own X.K s p xs) (k : ∀ s' : S, s'.H = s.H → Fle s.F s'.F → (∀ q, q ≠ p → s'.F q = s.F q) → rep X.K s'.F (.ref p) xs → s'.F p = s.H p → WSs X ss D σ s'.H) : WSs X ss D σ s.H := by
  obtain ⟨hn, vs, hp, r⟩ := o
  have f : Fle s.F (upd s.F p (.lst vs)) := fun a o q => by rw [upd_ne (ne_of_none q hn)]; exact q
  exact k ⟨upd s.F p (.lst vs), s.H, fun a o q => by
    unfold upd at q
    split at q
    · rename_i e; cases q; rw [e]; exact hp
    · exact s.sub a o q⟩ rfl f (fun q hq => upd_ne hq) ⟨p, vs, rfl, .inl (.inl upd_same), r.mono f⟩ (by show upd s.F p (.lst vs) p = _; rw [upd_same, hp])
theorem do_back {ss : List Stmt} (s : S) {t : S} (h : Fle s.F t.F) (k : WSs X ss D σ (s.back t h).H) : WSs X ss D σ t.H := k

section
variable {p : Addr} {n : Str} {xs : List α}
theorem we_pop (i : Nat) {z : Int} {j : Nat} {y : α} {Q : VK} (hσ : σ[i]? = some (some (.ref p))) (o : Own X.K s p xs) (he : Ev X e σ s z) (hj : popN xs.length z = some j) (hy : xs[j]? = some y)
    (k : ∀ v s1, Mx (· = p) s s1 → Own X.K s1 p (xs.eraseIdx j) → rep X.K s1.F v y → Q v s1.H)
    (hN : X.N[i]? = some n := by rfl) (hv : Vis X.env.scope n := by first | exact Or.inl rfl | exact Or.inr (Or.inl rfl) | exact Or.inr (Or.inr rfl)) (hd : (n == ("__debug__" : Str)) = false := by decide) (hcd : (n == ("__classdict__" : Str)) = false := by decide)
    (hbase : attributeBase (.Name n p0) "pop" X.env (eval (.Name n p0) X.env) = eval (.Name n p0) X.env := by rfl)
    (hfew : ((backTo p2 (starEach [e] X.env)).all (fun x => !x.1) && (backToKw p2 (keywordEach [] X.env)).all (fun x => x.1.isSome) && decide (([e] : List Expr).length + ([] : List Keyword).length + (if ([] : List Keyword).isEmpty then 0 else 1) < 30)) = true := by rfl)
    (hline : (p1.endLine == p2.line) = true := by rfl) (hs : starEach [e] X.env = (false, eval e X.env) :: starEach [] X.env := by rfl) (hplain : (backTo p2 (starEach [] X.env)).any (·.1) = false := by rfl) :
    WE X (.Call (.Attribute (.Name n p0) "pop" p1) [e] [] p2) σ s.H Q :=
  we_of (pe_bm PySem.F.plainAttrs_list PySem.F.slot_list_pop PySem.F.type_list_pop mt_popAt (pe_var hN hv hd hcd) (pa_cons pe_we pa_nil hs) hbase hfew hline hs hplain) (by
    obtain ⟨h1, vs, h2, h3⟩ := id o
    refine ⟨_, hσ, .inl ⟨rfl, vs, .inl (.inl h2)⟩, he s (Ex.refl _) _ fun v s1 k1 r1 => ?_⟩
    have f1 := k1.n _ _ h2 h1
    have g1 := k1.h _ _ h2
    unfold popN at hj
    split at hj
    · rename_i hb
      obtain ⟨w, hw, rw'⟩ := (h3.mono k1.f).get hy
      refine ⟨p, vs, z, j, w, rfl, by rw [show v = V.int z from r1], g1, hb.1, hb.2, by rw [h3.len]; exact hj, hw, ?_⟩
      exact k w (s1.put p (.lst (vs.eraseIdx j)) f1) (k1.mx.trans (Mx.put f1)) ⟨f1, _, upd_same, (h3.mono k1.f).erase j⟩ rw'
    · cases hj)
end
def popAt {τ : Type} (xs : List τ) (z : Int) : Option (τ × List τ) := (popN xs.length z).bind fun j => (xs[j]?).map fun y => (y, xs.eraseIdx j)
theorem popAt_some {τ : Type} {xs ys : List τ} {z : Int} {y : τ} (h : popAt xs z = some (y, ys)) : ∃ j, popN xs.length z = some j ∧ xs[j]? = some y ∧ ys = xs.eraseIdx j := by
  unfold popAt at h
  obtain ⟨j, h1, h2⟩ := bndE h
  obtain ⟨w, h3, h4⟩ := Option.map_eq_some_iff.mp h2
  cases h4
  exact ⟨j, h1, h3, rfl⟩
theorem do_setPop (i l : Nat) {p : Addr} {n m : Str} {xs ys : List α} {z : Int} {y : α} {py : Pos} (hσ : σ[i]? = some (some (.ref p))) (o : Own X.K s p xs) (he : Ev X e σ s z) (hj : popAt xs z = some (y, ys))
    (k : ∀ v s1, Mx (· = p) s s1 → Own X.K s1 p ys → rep X.K s1.F v y → WSs X rest D (σ.set l (some v)) s1.H)
    (hnd : X.N.Nodup) (hN : X.N[i]? = some n := by rfl) (hv : Vis X.env.scope n := by first | exact Or.inl rfl | exact Or.inr (Or.inl rfl) | exact Or.inr (Or.inr rfl)) (hd : (n == ("__debug__" : Str)) = false := by decide) (hcd : (n == ("__classdict__" : Str)) = false := by decide)
    (hbase : attributeBase (.Name n p0) "pop" X.env (eval (.Name n p0) X.env) = eval (.Name n p0) X.env := by rfl)
    (hfew : ((backTo p2 (starEach [e] X.env)).all (fun x => !x.1) && (backToKw p2 (keywordEach [] X.env)).all (fun x => x.1.isSome) && decide (([e] : List Expr).length + ([] : List Keyword).length + (if ([] : List Keyword).isEmpty then 0 else 1) < 30)) = true := by rfl)
    (hline : (p1.endLine == p2.line) = true := by rfl) (hs : starEach [e] X.env = (false, eval e X.env) :: starEach [] X.env := by rfl) (hplain : (backTo p2 (starEach [] X.env)).any (·.1) = false := by rfl)
    (hx : Loc X.env.scope m := by first | exact Or.inl rfl | exact Or.inr rfl) (hi : X.N[l]? = some m := by rfl)
    (hsw : swapsWith (.Call (.Attribute (.Name n p0) "pop" p1) [e] [] p2) (some (.Name m py)) pos.line X.env = pure false := by rfl) (hf : X.fn m = true ∨ X.env.scope.names.lookup m = some .local := by first | exact .inl rfl | exact .inr rfl) :
    WSs X (.Assign [.Name m py] (.Call (.Attribute (.Name n p0) "pop" p1) [e] [] p2) pos :: rest) D σ s.H := by
  obtain ⟨j, h1, h2, rfl⟩ := popAt_some hj
  exact do_cons (ps_set hnd hi hx pe_we hsw hf) (we_pop i hσ o he h1 h2 (fun v s1 m1 o1 r1 => k v s1 m1 o1 r1) hN hv hd hcd hbase hfew hline hs hplain)
theorem do_appPop (i l : Nat) {p q : Addr} {n m : Str} {xs ys zs : List α} {z : Int} {y : α} {py : Pos} (hσ : σ[i]? = some (some (.ref p))) (hσ2 : σ[l]? = some (some (.ref q))) (hpq : q ≠ p) (o : Own X.K s p xs) (o2 : Own X.K s q zs) (hz : zs.length < sizeLine) (he : Ev X e σ s z) (hj : popAt xs z = some (y, ys))
    (k : ∀ s1, Mx (fun a => a = p ∨ a = q) s s1 → Own X.K s1 p ys → Own X.K s1 q (zs ++ [y]) → WSs X rest D σ s1.H)
    (hN : X.N[i]? = some n := by rfl) (hv : Vis X.env.scope n := by first | exact Or.inl rfl | exact Or.inr (Or.inl rfl) | exact Or.inr (Or.inr rfl)) (hd : (n == ("__debug__" : Str)) = false := by decide) (hcd : (n == ("__classdict__" : Str)) = false := by decide)
    (hbase : attributeBase (.Name n p0) "pop" X.env (eval (.Name n p0) X.env) = eval (.Name n p0) X.env := by rfl)
    (hfew : ((backTo p2 (starEach [e] X.env)).all (fun x => !x.1) && (backToKw p2 (keywordEach [] X.env)).all (fun x => x.1.isSome) && decide (([e] : List Expr).length + ([] : List Keyword).length + (if ([] : List Keyword).isEmpty then 0 else 1) < 30)) = true := by rfl)
    (hline : (p1.endLine == p2.line) = true := by rfl) (hs : starEach [e] X.env = (false, eval e X.env) :: starEach [] X.env := by rfl) (hplain : (backTo p2 (starEach [] X.env)).any (·.1) = false := by rfl)
    (hN2 : X.N[l]? = some m := by rfl) (hv2 : Vis X.env.scope m := by first | exact Or.inl rfl | exact Or.inr (Or.inl rfl) | exact Or.inr (Or.inr rfl)) (hd2 : (m == ("__debug__" : Str)) = false := by decide) (hcd2 : (m == ("__classdict__" : Str)) = false := by decide)
    (hbase2 : attributeBase (.Name m py) "append" X.env (eval (.Name m py) X.env) = eval (.Name m py) X.env := by rfl)
    (hfew2 : ((backTo p4 (starEach [.Call (.Attribute (.Name n p0) "pop" p1) [e] [] p2] X.env)).all (fun x => !x.1) && (backToKw p4 (keywordEach [] X.env)).all (fun x => x.1.isSome) && decide (([.Call (.Attribute (.Name n p0) "pop" p1) [e] [] p2] : List Expr).length + ([] : List Keyword).length + (if ([] : List Keyword).isEmpty then 0 else 1) < 30)) = true := by rfl)
    (hline2 : (p3.endLine == p4.line) = true := by rfl) (hs2 : starEach [.Call (.Attribute (.Name n p0) "pop" p1) [e] [] p2] X.env = (false, eval (.Call (.Attribute (.Name n p0) "pop" p1) [e] [] p2) X.env) :: starEach [] X.env := by rfl) (hplain2 : (backTo p4 (starEach [] X.env)).any (·.1) = false := by rfl)
    (hsw : swapsWith (.Call (.Attribute (.Name m py) "append" p3) [.Call (.Attribute (.Name n p0) "pop" p1) [e] [] p2] [] p4) none p5.line X.env = pure false := by rfl) :
    WSs X (.Expr (.Call (.Attribute (.Name m py) "append" p3) [.Call (.Attribute (.Name n p0) "pop" p1) [e] [] p2] [] p4) p5 :: rest) D σ s.H := by
  obtain ⟨j, h1, h2, rfl⟩ := popAt_some hj
  refine do_cons (ps_expr (pe_bm PySem.F.plainAttrs_list PySem.F.slot_list_append PySem.F.type_list_append mt_append (pe_var hN2 hv2 hd2 hcd2) (pa_cons pe_we pa_nil hs2) hbase2 hfew2 hline2 hs2 hplain2) hsw) ?_
  obtain ⟨g1, vs, g2, g3⟩ := id o2
  refine ⟨_, hσ2, .inl ⟨rfl, vs, .inl (.inl g2)⟩, we_pop i hσ o he h1 h2 (fun v s1 m1 o1 r1 => ?_) hN hv hd hcd hbase hfew hline hs hplain⟩
  obtain ⟨f1, ws, f2, f3⟩ := o2.mx m1 hpq
  refine ⟨q, ws, v, rfl, rfl, f2, by rw [f3.len]; exact hz, ?_⟩
  have m2 : Mx (fun a => a = p ∨ a = q) s1 (s1.put q (.lst (ws ++ [v])) f1) := ⟨(Mx.put f1).f, fun a u h nn => (Mx.put f1).h a u h fun z => nn (.inr z), (Mx.put f1).n, (Mx.put f1).d⟩
  have m0 : Mx (fun a => a = p ∨ a = q) s s1 := ⟨m1.f, fun a u h nn => m1.h a u h fun z => nn (.inl z), m1.n, m1.d⟩
  refine k (s1.put q (.lst (ws ++ [v])) f1) (m0.trans m2) (o1.mx (Mx.put f1) fun z => hpq z.symm) ⟨f1, _, upd_same, f3.snoc r1⟩
theorem Ex.mu2 {s t u : S} {p q : Addr} (a : Ex s t) (b : Mx (fun a => a = p ∨ a = q) t u) (h : s.H p = none) (h2 : s.H q = none) : Ex s u := a.mu b fun _ e => e.elim (fun z => z ▸ h) fun z => z ▸ h2
def popAll {σ τ : Type} (f : List τ → σ → Option Int) : List τ → List σ → Option (List τ)
  | _, [] => some []
  | l, x :: r => (f l x).bind fun z => (popAt l z).bind fun y => (popAll f y.2 r).bind fun ys => some (y.1 :: ys)
theorem do_retPop (i j : Nat) {τ : Type} [Enc τ] {zs : List τ} {xs ys : List α} {f : List α → τ → Option Int} {p : Addr} {n x : Str} {px : Pos} {ie : Expr} {scope : Scope} {own : List (Str × Nat)} (hc : X.calm = true) (hN : X.N.Nodup) (hi : EvI X (.Name x px) iter σ s zs) (o : Own X.K s p xs) (ok : BlkOk X.N X.env.scope scope own)
    (hj : X.N[j]? = some x) (hjo : j ∈ own.map (·.2)) (hg : ∀ s0 H0 C cl fp, PG (Blk X scope s0 H0 C cl fp) (.Name x px) (gName j)) (hσ : ∀ v, ((wipe σ (own.map (·.2))).set j (some v))[i]? = some (some (.ref p))) (hf : popAll f xs zs = some ys) (hz : ys.length ≤ sizeLine)
    (he : ∀ (l : List α) (y : τ) (z : Int) (v : V) (s1 : S), y ∈ zs → Mx (· = p) s s1 → Own X.K s1 p l → rep X.K s1.F v y → f l y = some z → ∀ s0 H0 C cl fp, Ev (Blk X scope s0 H0 C cl fp) ie ((wipe σ (own.map (·.2))).set j (some v)) s1 z)
    (k : ∀ q s1, Mx (· = p) s s1 → s.H q = none → Own X.K s1 q ys → D.rt (.ref q) s1.H)
    (hNi : X.N[i]? = some n := by rfl)
    (hv : ∀ s0 H0 C cl fp, Vis (Blk X scope s0 H0 C cl fp).env.scope n := by intros; first | exact Or.inl rfl | exact Or.inr (Or.inl rfl) | exact Or.inr (Or.inr rfl)) (hd : (n == ("__debug__" : Str)) = false := by decide) (hcd : (n == ("__classdict__" : Str)) = false := by decide)
    (hbase : ∀ s0 H0 C cl fp, attributeBase (.Name n p0) "pop" (Blk X scope s0 H0 C cl fp).env (eval (.Name n p0) (Blk X scope s0 H0 C cl fp).env) = eval (.Name n p0) (Blk X scope s0 H0 C cl fp).env := by intros; rfl)
    (hfew : ∀ s0 H0 C cl fp, ((backTo p2 (starEach [ie] (Blk X scope s0 H0 C cl fp).env)).all (fun x => !x.1) && (backToKw p2 (keywordEach [] (Blk X scope s0 H0 C cl fp).env)).all (fun x => x.1.isSome) && decide (([ie] : List Expr).length + ([] : List Keyword).length + (if ([] : List Keyword).isEmpty then 0 else 1) < 30)) = true := by intros; rfl)
    (hline : (p1.endLine == p2.line) = true := by rfl) (hs1 : ∀ s0 H0 C cl fp, starEach [ie] (Blk X scope s0 H0 C cl fp).env = (false, eval ie (Blk X scope s0 H0 C cl fp).env) :: starEach [] (Blk X scope s0 H0 C cl fp).env := by intros; rfl) (hplain : ∀ s0 H0 C cl fp, (backTo p2 (starEach [] (Blk X scope s0 H0 C cl fp).env)).any (·.1) = false := by intros; rfl)
    (hs : ∀ x, foldedSetIterable iter X.env x = pure x := by intro _; rfl) : WSs X (.Return (some (.ListComp (.Call (.Attribute (.Name n p0) "pop" p1) [ie] [] p2) [⟨.Name x px, iter, [], 0⟩] scope p3)) pos :: rest) D σ s.H := by
  have hpe : PE X (.ListComp (.Call (.Attribute (.Name n p0) "pop" p1) [ie] [] p2) [⟨.Name x px, iter, [], 0⟩] scope p3) (tLc (WI X (.Name x px) iter) (gName j) tYes (fun σ H Q => ∀ s0 H0 C cl fp, WE (Blk X scope s0 H0 C cl fp) (.Call (.Attribute (.Name n p0) "pop" p1) [ie] [] p2) σ H Q) (own.map (·.2))) :=
    pe_lc hc hN pi_wi ok hg (fun s0 H0 C cl fp => pts_nil) (fun s0 H0 C cl fp => ⟨fun pins s _ _ _ I h => h s0 H0 C cl fp pins s I⟩) hs
  refine do_cons (ps_ret hpe) ?_
  refine (show EvI X (.Name x px) iter σ s zs from hi) s (Ex.refl _) _ fun J s2 k2 W => ?_
  intro Dd hD
  have o2 : Own X.K s2 p xs := o.ex k2
  have hne : p ≠ Dd := Own.ne o2 hD
  refine ⟨fun i m H => ∃ (u : S) (pre l : List α) (vs : List V), u.H = H ∧ m = zs.length - i ∧ Mx (· = p) s2 u ∧ Own X.K u p l ∧ u.F Dd = none ∧ u.H Dd = some (.lst vs) ∧ Reps X.K u.F vs pre ∧ (∃ suf, popAll f l (zs.drop i) = some suf ∧ pre ++ suf = ys), ⟨zs.length, s2.newO Dd (.lst []) hD, [], xs, [], rfl, rfl, (Ex.newO hD).mx, o2.ex (Ex.newO hD), (fF hD : s2.F Dd = none), upd_same, trivial, ys, hf, rfl⟩, ?_⟩
  rintro i' m H ⟨u, pre, l, vs, rfl, rfl, ku, ol, n1, n2, n3, suf, h1, h2⟩
  by_cases hi' : i' < zs.length
  · right
    obtain ⟨g1, g2⟩ := W.go i' u zs[i'] ku.f (List.getElem?_eq_getElem hi')
    refine ⟨g1, fun H' => ∃ m', m' < zs.length - i' ∧ ∃ (u : S) (pre l : List α) (vs : List V), u.H = H' ∧ m' = zs.length - (i' + 1) ∧ Mx (· = p) s2 u ∧ Own X.K u p l ∧ u.F Dd = none ∧ u.H Dd = some (.lst vs) ∧ Reps X.K u.F vs pre ∧ (∃ suf, popAll f l (zs.drop (i' + 1)) = some suf ∧ pre ++ suf = ys), fun H' z => z, fun v H' hy => ?_⟩
    obtain ⟨u', rfl, ku', rv⟩ := g2 v H' hy
    refine ⟨by show wipe ((wipe σ (own.map (·.2))).set j (some v)) (own.map (·.2)) = _; rw [wipe_set hjo]; exact wipe_wipe fun _ z => z, ?_⟩
    unfold tYes
    dsimp only
    rw [if_pos rfl]
    rw [List.drop_eq_getElem_cons hi'] at h1
    unfold popAll at h1
    obtain ⟨z, hz1, h1⟩ := bndE h1
    obtain ⟨⟨y, l'⟩, hz2, h1⟩ := bndE h1
    obtain ⟨suf', hz3, h1⟩ := bndE h1
    cases h1
    obtain ⟨jj, e1, e2, e3⟩ := popAt_some hz2
    subst e3
    have kk : Mx (· = p) s u' := (k2.mx.trans ku).trans ku'.mx
    intro s0 H0 C cl fp
    refine we_pop (X := Blk X scope s0 H0 C cl fp) (e := ie) i (hσ v) (ol.ex ku') (he l zs[i'] z v u' (List.getElem_mem hi') kk (ol.ex ku') rv hz1 s0 H0 C cl fp) e1 e2 (fun w u4 m4 o4 r4 => ?_) hNi (hv s0 H0 C cl fp) hd hcd (hbase s0 H0 C cl fp) (hfew s0 H0 C cl fp) hline (hs1 s0 H0 C cl fp) (hplain s0 H0 C cl fp)
    have k5 : Mx (· = p) u u4 := ku'.mx.trans m4
    have hD4 : u4.H Dd = some (.lst vs) := k5.h _ _ n2 fun z => hne z.symm
    have hF4 : u4.F Dd = none := k5.n _ _ n2 n1
    have hlen : vs.length < sizeLine := by
      have e1 := n3.len
      have e2 : ys.length = pre.length + (suf'.length + 1) := by rw [← h2, List.length_append, List.length_cons]
      omega
    have hlt : zs.length - (i' + 1) < zs.length - i' := by omega
    have md : Mx (· = p) s2 (u4.put Dd (.lst (vs ++ [w])) hF4) := ⟨(ku.trans k5).f, fun a ob h nn => by
      show upd u4.H Dd _ a = some ob
      rw [upd_ne (ne_of_none h hD)]; exact (ku.trans k5).h a ob h nn, (ku.trans k5).n, fun a ob h => by
      obtain ⟨ob', h'⟩ := (ku.trans k5).d a ob h
      exact ⟨ob', by show upd u4.H Dd _ a = some ob'; rw [upd_ne (ne_of_none h hD)]; exact h'⟩⟩
    exact ⟨vs, hD4, hlen, _, hlt, u4.put Dd (.lst (vs ++ [w])) hF4, pre ++ [y], _, vs ++ [w], rfl, rfl, md, o4.mx (Mx.put hF4) hne, hF4, upd_same, (n3.mono k5.f).snoc r4, suf', hz3, by rw [List.append_assoc]; exact h2⟩
  · left
    have hd : zs.drop i' = [] := List.drop_eq_nil_of_le (by omega)
    rw [hd] at h1
    cases h1
    refine ⟨W.stop i' u ku.f (by omega), k Dd u (k2.mx.trans ku) (fr_back k2 hD) ⟨n1, vs, n2, ?_⟩⟩
    rw [← h2, List.append_nil]
    exact n3
end
end Dy

namespace Dy
open PySem PySem.Spec L2
open PyProof.Rows hiding St

theorem php : ∀ (n : Nat) (l : List Nat), l.Nodup → (∀ x ∈ l, x < n) → l.length ≤ n
  | 0, [], _, _ => Nat.le_refl _
  | 0, x :: _, _, h => absurd (h x List.mem_cons_self) (Nat.not_lt_zero _)
  | n + 1, l, hn, h => by
    by_cases hm : n ∈ l
    · have h1 := php n (l.erase n) (hn.erase n) (fun x hx => by
        have h2 := h x (List.mem_of_mem_erase hx)
        have h3 : x ≠ n := (hn.mem_erase_iff.mp hx).1
        omega)
      rw [List.length_erase_of_mem hm] at h1
      omega
    · have := php n l hn (fun x hx => by
        have h2 := h x hx
        have h3 : x ≠ n := fun e => hm (e ▸ hx)
        omega)
      omega
theorem mem_rng {a b x : Int} : x ∈ rng a b ↔ a ≤ x ∧ x < b := by
  constructor
  · exact rng_mem
  · intro ⟨h1, h2⟩
    unfold rng
    refine List.mem_map.mpr ⟨(x - a).toNat, List.mem_range.mpr (by omega), by omega⟩
theorem rng_nodup (a b : Int) : (rng a b).Nodup := by
  unfold rng
  refine List.Pairwise.map _ (fun x y h e => h (by omega)) List.nodup_range
theorem rng_sorted (a b : Int) : (rng a b).Pairwise (· ≤ ·) := by
  unfold rng
  refine List.Pairwise.map _ (fun x y h => ?_) List.pairwise_lt_range
  omega
theorem sort_perm (xs : List Int) : (sortI xs).Perm xs := List.mergeSort_perm _ _
theorem sort_of_perm {xs ys : List Int} (h : xs.Perm ys) (hs : ys.Pairwise (· ≤ ·)) : sortI xs = ys := by
  refine List.Perm.eq_of_pairwise (le := fun x y : Int => x ≤ y) (fun a b _ _ h h' => Int.le_antisymm h h') ?_ hs ((sort_perm xs).trans h)
  have := List.pairwise_mergeSort (le := fun x y : Int => decide (x ≤ y)) (fun a b c h1 h2 => by simp at *; omega) (fun a b => by simp; omega) xs
  exact this.imp (by simp)
theorem perm_rng {l : List Int} {n : Nat} (h1 : l.Nodup) (h2 : l.length = n) (h3 : ∀ x ∈ l, 0 ≤ x ∧ x < n) : l.Perm (rng 0 n) := by
  refine (List.perm_ext_iff_of_nodup h1 (rng_nodup 0 n)).mpr fun a => ⟨fun h => mem_rng.mpr (h3 a h), fun h => ?_⟩
  obtain ⟨a0, a1⟩ := mem_rng.mp h
  refine Classical.byContradiction fun hn => ?_
  have h4 : ((a :: l).map Int.toNat).Nodup := by
    refine List.Pairwise.map (R := fun x y => x ≠ y ∧ 0 ≤ x ∧ 0 ≤ y) _ (fun x y ⟨h, p, q⟩ e => h (by omega)) ?_
    refine List.pairwise_cons.mpr ⟨fun x hx => ⟨fun e => hn (e ▸ hx), a0, (h3 x hx).1⟩, ?_⟩
    refine List.Pairwise.imp_of_mem (fun {x y} hx hy h => ⟨h, (h3 x hx).1, (h3 y hy).1⟩) h1
  have h5 := php n _ h4 (fun x hx => by
    obtain ⟨y, hy, rfl⟩ := List.mem_map.mp hx
    rcases List.mem_cons.mp hy with rfl | hy
    · omega
    · have := h3 y hy; omega)
  simp at h5
  omega
def nxt (o : List Int) (x : Int) : Int := o.getD x.toNat 0
def it (o : List Int) : Nat → Int → Int
  | 0, x => x
  | k + 1, x => nxt o (it o k x)
theorem it_add (o : List Int) (a b : Nat) (x : Int) : it o (a + b) x = it o a (it o b x) := by
  induction a with
  | zero => rw [Nat.zero_add]; rfl
  | succ a ih => rw [Nat.succ_add]; show nxt o _ = nxt o _; rw [ih]
theorem it_one (o : List Int) (x : Int) : it o 1 x = nxt o x := rfl
theorem it_comm (o : List Int) (a b : Nat) (x : Int) : it o a (it o b x) = it o b (it o a x) := by rw [← it_add, ← it_add, Nat.add_comm]
structure IsOrd (o : List Int) : Prop where
  l1 : 1 ≤ o.length
  l2 : o.length ≤ 40
  pm : o.Perm (rng 0 o.length)
theorem isOrd_sort {o : List Int} (h1 : 1 ≤ o.length) (h2 : o.length ≤ 40) (h3 : sortI o = rng 0 o.length) : IsOrd o := ⟨h1, h2, by rw [← h3]; exact (sort_perm o).symm⟩
section
variable {o : List Int}
theorem IsOrd.sort (h : IsOrd o) : sortI o = rng 0 o.length := sort_of_perm h.pm (rng_sorted _ _)
theorem IsOrd.nd (h : IsOrd o) : o.Nodup := h.pm.nodup_iff.mpr (rng_nodup _ _)
theorem IsOrd.mem (h : IsOrd o) {x : Int} : x ∈ o ↔ 0 ≤ x ∧ x < o.length := h.pm.mem_iff.trans mem_rng
theorem nxt_get {x : Int} (h0 : 0 ≤ x) (h1 : x < o.length) : o[x.toNat]? = some (nxt o x) := by
  unfold nxt
  have : x.toNat < o.length := by omega
  rw [List.getElem?_eq_getElem this, List.getD_eq_getElem?_getD, List.getElem?_eq_getElem this]; rfl
theorem nxt_at {x : Int} (h0 : 0 ≤ x) (h1 : x < o.length) : atI o x = some (nxt o x) := by rw [atI_get h0 h1, nxt_get h0 h1]
theorem IsOrd.nxt (h : IsOrd o) {x : Int} (h0 : 0 ≤ x) (h1 : x < o.length) : 0 ≤ Dy.nxt o x ∧ Dy.nxt o x < o.length := h.mem.mp (List.mem_of_getElem? (nxt_get h0 h1))
theorem IsOrd.it (h : IsOrd o) {x : Int} (h0 : 0 ≤ x) (h1 : x < o.length) : ∀ k, 0 ≤ Dy.it o k x ∧ Dy.it o k x < o.length
  | 0 => ⟨h0, h1⟩
  | k + 1 => h.nxt (h.it h0 h1 k).1 (h.it h0 h1 k).2
theorem IsOrd.inj (h : IsOrd o) {x y : Int} (x0 : 0 ≤ x) (x1 : x < o.length) (y0 : 0 ≤ y) (y1 : y < o.length) (e : Dy.nxt o x = Dy.nxt o y) : x = y := by
  have h1 := nxt_get x0 x1
  have h2 := nxt_get y0 y1
  rw [← e] at h2
  obtain ⟨a1, b1⟩ := List.getElem?_eq_some_iff.mp h1
  obtain ⟨a2, b2⟩ := List.getElem?_eq_some_iff.mp h2
  have := (List.getElem_inj h.nd (i := x.toNat) (j := y.toNat) (h₀ := a1) (h₁ := a2)).mp (b1.trans b2.symm)
  omega
theorem IsOrd.itInj (h : IsOrd o) : ∀ (k : Nat) {x y : Int}, 0 ≤ x → x < o.length → 0 ≤ y → y < o.length → Dy.it o k x = Dy.it o k y → x = y
  | 0, _, _, _, _, _, _, e => e
  | k + 1, _, _, x0, x1, y0, y1, e => h.itInj k x0 x1 y0 y1 (h.inj (h.it x0 x1 k).1 (h.it x0 x1 k).2 (h.it y0 y1 k).1 (h.it y0 y1 k).2 e)
theorem least {p : Nat → Prop} : ∀ n, p n → ∃ m, m ≤ n ∧ p m ∧ ∀ k, k < m → ¬ p k := by
  intro n
  induction n using Nat.strongRecOn with
  | _ n ih =>
    intro h
    by_cases hk : ∃ k, k < n ∧ p k
    · obtain ⟨k, h1, h2⟩ := hk
      obtain ⟨m, h3, h4, h5⟩ := ih k h1 h2
      exact ⟨m, by omega, h4, h5⟩
    · exact ⟨n, Nat.le_refl _, h, fun k hk' hp => hk ⟨k, hk', hp⟩⟩
theorem IsOrd.cycle (h : IsOrd o) {x : Int} (h0 : 0 ≤ x) (h1 : x < o.length) : ∃ L, 1 ≤ L ∧ L ≤ o.length ∧ Dy.it o L x = x ∧ ∀ k, 0 < k → k < L → Dy.it o k x ≠ x := by
  have ex : ∃ L, 1 ≤ L ∧ L ≤ o.length ∧ Dy.it o L x = x := by
    refine Classical.byContradiction fun hn => ?_
    have hne : ∀ i j, i < j → j ≤ o.length → Dy.it o i x ≠ Dy.it o j x := fun i j hij hj e => by
      refine hn ⟨j - i, by omega, by omega, ?_⟩
      have e2 : Dy.it o i x = Dy.it o i (Dy.it o (j - i) x) := by rw [← it_add, show i + (j - i) = j by omega]; exact e
      have := h.it h0 h1 (j - i)
      exact (h.itInj i h0 h1 this.1 this.2 e2).symm
    have h2 : ((List.range (o.length + 1)).map fun k => (Dy.it o k x).toNat).Nodup := by
      refine List.Pairwise.map (R := fun a b => a < b ∧ b ≤ o.length) _ (fun a b ⟨p, q⟩ e => ?_) ?_
      · have e1 := h.it h0 h1 a
        have e2 := h.it h0 h1 b
        exact hne a b p q (by omega)
      · refine List.Pairwise.imp_of_mem (fun {a b} ha hb hlt => ⟨hlt, by have := List.mem_range.mp hb; omega⟩) List.pairwise_lt_range
    have h3 := php o.length _ h2 (fun y hy => by
      obtain ⟨k, _, rfl⟩ := List.mem_map.mp hy
      have := h.it h0 h1 k
      omega)
    rw [List.length_map, List.length_range] at h3
    omega
  obtain ⟨L, a, b, c⟩ := ex
  obtain ⟨m, m1, ⟨m2, m3, m4⟩, m5⟩ := least (p := fun L => 1 ≤ L ∧ L ≤ o.length ∧ Dy.it o L x = x) L ⟨a, b, c⟩
  exact ⟨m, m2, m3, m4, fun k k0 k1 e => m5 k k1 ⟨by omega, by omega, e⟩⟩
theorem it_mul {L : Nat} {x : Int} (h : Dy.it o L x = x) : ∀ q, Dy.it o (L * q) x = x
  | 0 => rfl
  | q + 1 => by rw [Nat.mul_succ, it_add, h, it_mul h q]
theorem it_mod {L : Nat} {x : Int} (h : Dy.it o L x = x) (m : Nat) : Dy.it o (m % L) x = Dy.it o m x := by
  conv => rhs; rw [← Nat.mod_add_div m L, it_add, it_mul h]
def srv (o : List Int) (m : Nat) : List Int := (rng 0 o.length).map (Dy.it o m)
theorem srv_len (o : List Int) (m : Nat) : (srv o m).length = o.length := by unfold srv; rw [List.length_map, rng_len]; omega
theorem rng_getE {a b : Int} {i : Nat} (h : i < (b - a).toNat) : (rng a b)[i]? = some (a + (i : Int)) := by
  unfold rng
  rw [List.getElem?_map, List.getElem?_range h]; rfl
theorem srv_at {m : Nat} {x : Int} (h0 : 0 ≤ x) (h1 : x < o.length) : atI (srv o m) x = some (Dy.it o m x) := by
  rw [atI_get h0 (by rw [srv_len]; exact h1)]
  unfold srv
  rw [List.getElem?_map, rng_getE (by omega)]
  show some (Dy.it o m (0 + (x.toNat : Int))) = _
  rw [show (0 : Int) + (x.toNat : Int) = x by omega]
theorem srv_perm (h : IsOrd o) (m : Nat) : (srv o m).Perm (rng 0 o.length) := by
  refine perm_rng ?_ (srv_len o m) (fun x hx => ?_)
  · refine List.Pairwise.map (R := fun (a b : Int) => a ≠ b ∧ (0 ≤ a ∧ a < (o.length : Int)) ∧ 0 ≤ b ∧ b < (o.length : Int)) _ (fun a b ⟨p, q, r⟩ e => p (h.itInj m q.1 q.2 r.1 r.2 e)) ?_
    exact List.Pairwise.imp_of_mem (fun {a b} ha hb hne => ⟨hne, mem_rng.mp ha, mem_rng.mp hb⟩) (rng_nodup _ _)
  · obtain ⟨y, hy, rfl⟩ := List.mem_map.mp hx
    obtain ⟨a, b⟩ := mem_rng.mp hy
    exact h.it a b m
theorem srv_mem (h : IsOrd o) {m : Nat} {x : Int} (hx : x ∈ srv o m) : 0 ≤ x ∧ x < o.length := mem_rng.mp ((srv_perm h m).mem_iff.mp hx)
theorem srv_zero (o : List Int) : srv o 0 = rng 0 o.length := by
  unfold srv
  have : (Dy.it o 0 : Int → Int) = id := by funext x; rfl
  rw [this, List.map_id]
theorem srv_one (o : List Int) : srv o 1 = o := by
  refine List.ext_getElem? fun i => ?_
  unfold srv
  rw [List.getElem?_map]
  by_cases h : i < o.length
  · rw [rng_getE (by omega)]
    show some (Dy.nxt o (0 + (i : Int))) = _
    have := nxt_get (o := o) (x := (i : Int)) (by omega) (by omega)
    rw [show (0 : Int) + (i : Int) = (i : Int) by omega, ← this]
    congr 1
  · rw [List.getElem?_eq_none (by rw [rng_len]; omega), List.getElem?_eq_none (by omega)]; rfl
theorem srv_add (a b : Nat) : (srv o a).map (Dy.it o b) = srv o (b + a) := by
  unfold srv
  rw [List.map_map]
  exact List.map_congr_left fun x _ => (it_add o b a x).symm
end
theorem erase_perm {τ : Type} : ∀ (l : List τ) (i : Nat) (h : i < l.length), (l[i] :: l.eraseIdx i).Perm l
  | [], i, h => absurd h (Nat.not_lt_zero _)
  | x :: xs, 0, _ => List.Perm.refl _
  | x :: xs, i + 1, h => (List.Perm.swap x _ _).trans (List.Perm.cons x (erase_perm xs i (Nat.lt_of_succ_lt_succ h)))
theorem popAt_ok {τ : Type} {l : List τ} {z : Int} (h0 : 0 ≤ z) (h1 : z < l.length) (h2 : l.length < 1000000) : Ok (popAt l z) (fun r => (r.1 :: r.2).Perm l) := by
  unfold popAt popN seqIndex?
  have hl : z.toNat < l.length := by omega
  rw [if_pos ⟨by omega, by omega⟩]
  simp only
  rw [show (if z < 0 then z + (l.length : Int) else z) = z from if_neg (by omega), if_pos (by rw [Bool.and_eq_true]; exact ⟨decide_eq_true h0, decide_eq_true h1⟩), Option.bind_some, List.getElem?_eq_getElem hl]
  exact ok_some (erase_perm l _ hl)
theorem ok_popAll {σ τ : Type} {f : List τ → σ → Option Int} : ∀ {xs : List σ} {l : List τ}, (∀ l' x, l' ≠ [] → l'.length ≤ l.length → x ∈ xs → Ok (f l' x) (fun z => 0 ≤ z ∧ z < l'.length)) → xs.length ≤ l.length → l.length < 1000000 → Ok (popAll f l xs) (fun ys => ys.length = xs.length ∧ ∃ r, (ys ++ r).Perm l)
  | [], l, _, _, _ => ⟨[], rfl, rfl, l, List.Perm.refl _⟩
  | x :: xs, l, h, hl, hz => by
    rw [List.length_cons] at hl
    have hne : l ≠ [] := fun e => by subst e; simp at hl
    unfold popAll
    refine ok_bnd (h l x hne (Nat.le_refl _) List.mem_cons_self) fun z ⟨z0, z1⟩ => ok_bnd (popAt_ok z0 z1 hz) fun r hr => ?_
    have hlen : r.2.length + 1 = l.length := by have := hr.length_eq; rw [List.length_cons] at this; exact this
    refine ok_bnd (ok_popAll (fun l' y hn hl' hy => h l' y hn (by omega) (List.mem_cons_of_mem _ hy)) (by omega) (by omega)) fun ys ⟨e1, r', e2⟩ => ok_some ⟨by rw [List.length_cons, List.length_cons, e1], r', ?_⟩
    exact (List.Perm.cons r.1 e2).trans hr
theorem repl_one {τ : Type} (n : Int) (x : τ) : repl n [x] = List.replicate n.toNat x := by
  unfold repl
  exact List.flatten_replicate_singleton
end Dy

namespace Dy
open PySem PySem.Spec L2
open PyProof.Rows hiding St
section
variable {X : Cx} {K : PySem.W.Frag} {a b e : Expr} {σ : St} {s : S} {p0 p1 p2 pos : Pos} {α β : Type} [Enc α] [Enc β]
def ixS (x y : Str) : Option Nat := (Builtin.Str.occurrences y x 0 y.length 1).head?
theorem ev_indexS {x y : Str} {j : Nat} (ha : Ev X a σ s y) (hb : Ev X b σ s x) (h : ixS x y = some j)
    (hs : starEach [b] X.env = [(false, eval b X.env)] := by rfl) (hbase : attributeBase a "index" X.env (eval a X.env) = eval a X.env := by rfl) (hline : (p1.endLine == pos.line) = true := by rfl) :
    Ev X (.Call (.Attribute a "index" p1) [b] [] pos) σ s (j : Int) := fun s1 k Q q =>
  we_of (pe_m1 PySem.F.slot_str_index PySem.F.type_str_index mt_sindex pe_we pe_we hs hbase hline) (ha s1 k _ fun v s2 k2 r2 => ⟨⟨y, r2⟩, hb s2 (k.trans k2) _ fun u s3 k3 r3 => by
    unfold ixS at h
    obtain ⟨rest, hr⟩ : ∃ rest, Builtin.Str.occurrences y x 0 y.length 1 = j :: rest := by
      cases ho : Builtin.Str.occurrences y x 0 y.length 1 with
      | nil => rw [ho] at h; cases h
      | cons i rest => rw [ho] at h; cases h; exact ⟨rest, rfl⟩
    exact ⟨y, x, j, rest, r2, by rw [show u = V.str x from r3], hr, q _ s3 (k2.trans k3) rfl⟩⟩)
end
end Dy

set_option maxHeartbeats 4000000
namespace K02
open PySem PySem.Spec L2 Dy
open PyProof.Rows hiding St
open Enc (rep)
open Flat (toV)
open EncA (repA)
def topS (i : Nat) : Stmt := PySem.Challenge.pw_deskpairs_k02_numbers.main.body.getD i (.Pass ⟨0, 0, 0, 0⟩)
def c_FIGURES : Str := ("0123456789" : Str)
abbrev s_l_row : Stmt := topS 5
abbrev N_l_row : List Str := ["_law_cell", "_law_many", "_law_count", "_law_found", "_law_number", "_law_k", "_law_mixed"]
theorem sc_l_row : FnScope N_l_row ["_law_cell", "_law_many", "_law_count"] (defScope s_l_row) := ⟨rfl, rfl, rfl, by decide +kernel, rfl, by decide +kernel, by decide +kernel⟩
noncomputable def m_l_row (cell1 : Int) (many4 : Int) (count7 : Int) : Option (List Int) :=
 (lt (([] : List Int) : (List Int)) fun found11 =>
 (lt ((cell1 / (2 : Int)) : Int) fun number23 =>
 (chk (RgB count7) (bnd (foldO (fun (b37 : ((List Int) × Int)) (x39 : Int) =>
 (bnd (if (decide ((cell1 % (2 : Int)) = (0 : Int))) = true then
 (chk (0 < many4) (chk ((b37.1).length < sizeLine) (lt ((b37.1 ++ [(b37.2 % many4)]) : (List Int)) fun found89 =>
 (chk (DivOk many4) (lt ((b37.2 / many4) : Int) fun number102 =>
 (some (found89, number102)))))))
 else
 (chk (MulOk x39 x39) (lt (((((cell1 % (1000003 : Int)) + (1 : Int)) * ((x39 * x39) + (48271 : Int))) % (65537 : Int)) : Int) fun mixed130 =>
 (chk (0 < many4) (chk ((b37.1).length < sizeLine) (lt ((b37.1 ++ [((((mixed130 * mixed130) + ((30269 : Int) * x39)) % (65521 : Int)) % many4)]) : (List Int)) fun found148 =>
 (some (found148, b37.2))))))) : Option ((List Int) × Int)) fun b71 =>
 (some (b71.1, b71.2)))) (found11, number23) (rng 0 count7)) fun o35 =>
 (some o35.1)))))
noncomputable abbrev a_l_row : Int × Int × Int × Unit → Option (List Int) := fun a => m_l_row a.1 a.2.1 a.2.2.1
theorem ok_l_row {P : Program} {w : World} {K : PySem.W.Frag} {mg : Str → Option Value} {base : Heap} {f : Addr} {fd : FuncData} (F : FunP K "_law_row" s_l_row f fd) (hmg : mg "_law_row" = some (.ref f)) (z_range : mg "range" = none) : Cal P w K mg base CX0 1 "_law_row" (spN K a_l_row) := by
  refine mk_calN (k := 0) F hmg (F.bindsN fun _ _ _ _ _ _ us hl => match us, hl with | [_, _, _], _ => rfl) sc_l_row len3 ?_
  rintro cdv A' outer sh0 H0 X0 hr s0 vs ⟨cell1, many4, count7, _⟩ r0 Q ⟨v2, _, rfl, r3, v5, _, rfl, r6, v8, _, rfl, r9, rfl⟩ hm hQ
  have E10 := Ex.refl s0
  unfold a_l_row m_l_row at hm
  dsimp only at hm
  refine do_setN 3 (en_list (xs := ([] : List Int)) ee_nil (by simp [sizeLine])) (fun p15 s13 e14 n16 o17 => ?_) sc_l_row.nd
  have n18 := fr_back E10 n16
  have E19 := E10.trans e14
  have r20 := Enc.mono e14.f r3
  have r21 := Enc.mono e14.f r6
  have r22 := Enc.mono e14.f r9
  obtain ⟨found11, q12, hm⟩ := ltE hm
  rw [← q12] at o17
  refine do_set 4 (ev_div (ev_var 0 rfl r20) ev_int ⟨by decide, by decide +kernel⟩) (fun v27 s25 e26 r28 => ?_) sc_l_row.nd
  have E29 := E19.trans e26
  have r30 := Enc.mono e26.f r20
  have r31 := Enc.mono e26.f r21
  have r32 := Enc.mono e26.f r22
  have o33 := Own.ex o17 e26
  obtain ⟨number23, q24, hm⟩ := ltE hm
  rw [← q24] at r28
  obtain ⟨hc34, hm⟩ := chkE hm
  obtain ⟨o35, ho36, hm⟩ := bndE hm
  refine do_forO (υ := ((List Int) × Int)) PassesOwn.never rfl (ei_range1 z_range (ev_var 2 rfl r32) hc34) (pg_name (i := 5) sc_l_row.nd rfl (by first | exact Or.inl rfl | exact Or.inr rfl)) tg_n ho36 (fun (b37 : ((List Int) × Int)) (σ' : L2.St) (t' : S) => Ex s0 t' ∧ ∃ (v_number : V) (y_mixed : Option V) (y_k : Option V), σ' = [some v2, some v5, some v8, some (.ref p15), some v_number, y_k, y_mixed] ∧ Own K t' p15 (b37.1 : (List Int)) ∧ rep K t'.F v_number (b37.2 : Int)) (fun s182 k183 => by have E184 := E29.trans k183; have r185 := Enc.mono k183.f r30; have r186 := Enc.mono k183.f r31; have r187 := Enc.mono k183.f r32; have o188 := Own.ex o33 k183; have r189 := Enc.mono k183.f r28; exact ⟨E184, v27, _, _, rfl, o188, r189⟩) (fun s40 k41 x39 b37 b38 σ50 σ51 t48 t49 hx42 hm43 fl44 hR45 k46 hB47 => ?_) (fun s176 k177 σ178 t179 fl180 hR181 => ?_)
  · have hf52 := Fle.trans k41.f fl44
    obtain ⟨E53, v54, y55, y56, rfl, o57, r58⟩ := hR45
    have r59 := Enc.mono hf52 r30
    have r60 := Enc.mono hf52 r31
    have r61 := Enc.mono hf52 r32
    obtain ⟨v62, r63, rfl⟩ := hB47
    have E64 := E53.trans k46
    have o65 := Own.ex o57 k46
    have r66 := Enc.mono k46.f r58
    have r67 := Enc.mono k46.f r59
    have r68 := Enc.mono k46.f r60
    have r69 := Enc.mono k46.f r61
    obtain ⟨b71, hj72, hm43⟩ := bndE hm43
    refine do_if (EvB.t (eb_eq (ev_mod (ev_var 0 rfl r67) ev_int (by decide)) ev_int)) (fun (σ' : L2.St) (t' : S) => Fle t49.F t'.F ∧ Ex s0 t' ∧ ∃ (v_number : V) (y_mixed : Option V), σ' = [some v2, some v5, some v8, some (.ref p15), some v_number, some v62, y_mixed] ∧ Own K t' p15 (b71.1 : (List Int)) ∧ rep K t'.F v_number (b71.2 : Int)) (fun hb73 s74 e75 => ?_) (fun hb116 s117 e118 => ?_) (fun σ161 s162 hM163 => ?_)
    · have hm76 := iteE1 hj72 hb73
      have E77 := E64.trans e75
      have fl78 := Fle.trans (Fle.refl t49.F) e75.f
      have fl79 := Fle.trans (Fle.refl t49.F) e75.f
      have o80 := Own.ex o65 e75
      have r81 := Enc.mono e75.f r66
      have r82 := Enc.mono e75.f r67
      have r83 := Enc.mono e75.f r68
      have r84 := Enc.mono e75.f r69
      have r85 := Enc.mono e75.f r63
      obtain ⟨hc91, hm76⟩ := chkE hm76
      obtain ⟨hc92, hm76⟩ := chkE hm76
      refine do_append 3 rfl o80 (ev_mod (ev_var 4 rfl r81) (ev_var 1 rfl r83) hc91) hc92 (fun s86 m87 o88 => ?_)
      have E93 := Ex.mu1 E77 m87 n18
      have fl94 := Fle.trans fl78 m87.f
      have fl95 := Fle.trans fl79 m87.f
      have r96 := Enc.mono m87.f r81
      have r97 := Enc.mono m87.f r82
      have r98 := Enc.mono m87.f r83
      have r99 := Enc.mono m87.f r84
      have r100 := Enc.mono m87.f r85
      obtain ⟨found89, q90, hm76⟩ := ltE hm76
      rw [← q90] at o88
      obtain ⟨hc101, hm76⟩ := chkE hm76
      refine do_set 4 (ev_div (ev_var 4 rfl r96) (ev_var 1 rfl r98) hc101) (fun v106 s104 e105 r107 => ?_) sc_l_row.nd
      have E108 := E93.trans e105
      have fl109 := Fle.trans fl94 e105.f
      have fl110 := Fle.trans fl95 e105.f
      have r111 := Enc.mono e105.f r97
      have r112 := Enc.mono e105.f r98
      have r113 := Enc.mono e105.f r99
      have r114 := Enc.mono e105.f r100
      have o115 := Own.ex o88 e105
      obtain ⟨number102, q103, hm76⟩ := ltE hm76
      rw [← q103] at r107
      obtain rfl := Option.some.inj hm76
      exact do_nil ⟨s104, rfl, fl110, ⟨E108, v106, _, rfl, o115, r107⟩⟩
    · have hm119 := iteE2 hj72 hb116
      have E120 := E64.trans e118
      have fl121 := Fle.trans (Fle.refl t49.F) e118.f
      have fl122 := Fle.trans (Fle.refl t49.F) e118.f
      have o123 := Own.ex o65 e118
      have r124 := Enc.mono e118.f r66
      have r125 := Enc.mono e118.f r67
      have r126 := Enc.mono e118.f r68
      have r127 := Enc.mono e118.f r69
      have r128 := Enc.mono e118.f r63
      obtain ⟨hc129, hm119⟩ := chkE hm119
      refine do_set 6 (ev_mod (ev_mul (ev_add (ev_mod (ev_var 0 rfl r125) ev_int (by decide)) ev_int) (ev_add (ev_mul (ev_var 5 rfl r128) (ev_var 5 rfl r128) hc129) ev_int) (Or.inl (Or.inl ⟨by omega, by omega⟩))) ev_int (by decide)) (fun v134 s132 e133 r135 => ?_) sc_l_row.nd
      have E136 := E120.trans e133
      have fl137 := Fle.trans fl121 e133.f
      have fl138 := Fle.trans fl122 e133.f
      have o139 := Own.ex o123 e133
      have r140 := Enc.mono e133.f r124
      have r141 := Enc.mono e133.f r125
      have r142 := Enc.mono e133.f r126
      have r143 := Enc.mono e133.f r127
      have r144 := Enc.mono e133.f r128
      obtain ⟨mixed130, q131, hm119⟩ := ltE hm119
      rw [← q131] at r135
      obtain ⟨hc150, hm119⟩ := chkE hm119
      obtain ⟨hc151, hm119⟩ := chkE hm119
      refine do_append 3 rfl o139 (ev_mod (ev_mod (ev_add (ev_mul (ev_var 6 rfl r135) (ev_var 6 rfl r135) (Or.inl (Or.inl ⟨by omega, by omega⟩))) (ev_mul ev_int (ev_var 5 rfl r144) (Or.inl (Or.inl ⟨by omega, by omega⟩)))) ev_int (by decide)) (ev_var 1 rfl r142) hc150) hc151 (fun s145 m146 o147 => ?_)
      have E152 := Ex.mu1 E136 m146 n18
      have fl153 := Fle.trans fl137 m146.f
      have fl154 := Fle.trans fl138 m146.f
      have r155 := Enc.mono m146.f r140
      have r156 := Enc.mono m146.f r141
      have r157 := Enc.mono m146.f r142
      have r158 := Enc.mono m146.f r143
      have r159 := Enc.mono m146.f r144
      have r160 := Enc.mono m146.f r135
      obtain ⟨found148, q149, hm119⟩ := ltE hm119
      rw [← q149] at o147
      obtain rfl := Option.some.inj hm119
      exact do_nil ⟨s145, rfl, fl154, ⟨E152, v54, _, rfl, o147, r155⟩⟩
    · obtain ⟨hf164, hR165⟩ := hM163
      obtain ⟨E166, v167, y168, rfl, o169, r170⟩ := hR165
      have r171 := Enc.mono hf164 r67
      have r172 := Enc.mono hf164 r68
      have r173 := Enc.mono hf164 r69
      have r174 := Enc.mono hf164 r63
      have fl175 := Fle.trans (Fle.refl t49.F) hf164
      obtain rfl := Option.some.inj hm43
      exact do_nil ⟨s162, rfl, fl175, ⟨E166, v167, _, _, rfl, o169, r170⟩⟩
  · have hf190 := Fle.trans k177.f fl180
    obtain ⟨E191, v192, y193, y194, rfl, o195, r196⟩ := hR181
    have r197 := Enc.mono hf190 r30
    have r198 := Enc.mono hf190 r31
    have r199 := Enc.mono hf190 r32
    obtain rfl := Option.some.inj hm
    exact do_retO 3 rfl (hQ _ _ E191 n18 o195)
abbrev s_l_text : Stmt := topS 6
abbrev N_l_text : List Str := ["_law_cell", "_law_signs", "_law_size", "_law_many", "_law_one"]
theorem sc_l_text : FnScope N_l_text ["_law_cell"] (defScope s_l_text) := ⟨rfl, rfl, rfl, by decide +kernel, rfl, by decide +kernel, by decide +kernel⟩
noncomputable def m_l_text (cell200 : Int) : Option Str :=
 (lt (("0123456789 -+_.x\nae," : Str) : Str) fun signs204 =>
 (lt ((cell200 % (64 : Int)) : Int) fun size212 =>
 (bnd (atI ([(10 : Int), (10 : Int), (20 : Int)] : List Int) ((cell200 / (64 : Int)) % (3 : Int))) fun at221 => (lt (at221 : Int) fun many222 =>
 (bnd (m_l_row (cell200 / (192 : Int)) many222 size212) fun row232 => (bnd (mapO (fun (x233 : Int) => (bnd (sgn signs204 x233) fun at245 => (some at245))) row232) fun ys246 => (chk ((ys246).length ≤ sizeLine) (chk (JnOk ("" : Str) ys246) (some (Txt.join ("" : Str) ys246))))))))))
noncomputable abbrev a_l_text : Int × Unit → Option Str := fun a => m_l_text a.1
theorem ok_l_text {P : Program} {w : World} {K : PySem.W.Frag} {mg : Str → Option Value} {base : Heap} {f : Addr} {fd : FuncData} (F : FunP K "_law_text" s_l_text f fd) (hmg : mg "_law_text" = some (.ref f)) (C_l_row : Cal P w K mg base CX0 1 "_law_row" (spN K a_l_row)) : Cal P w K mg base CX0 2 "_law_text" (sp K a_l_text) := by
  refine mk_cal (k := 1) F hmg (F.bindsN fun _ _ _ _ _ _ us hl => match us, hl with | [_], _ => rfl) sc_l_text len1 ?_
  rintro cdv A' outer sh0 H0 X0 hr s0 vs ⟨cell200, _⟩ r0 Q ⟨v201, _, rfl, r202, rfl⟩ hm hQ
  have E203 := Ex.refl s0
  unfold a_l_text m_l_text at hm
  dsimp only at hm
  refine do_set 1 ev_str (fun v208 s206 e207 r209 => ?_) sc_l_text.nd
  have E210 := E203.trans e207
  have r211 := Enc.mono e207.f r202
  obtain ⟨signs204, q205, hm⟩ := ltE hm
  rw [← q205] at r209
  refine do_set 2 (ev_mod (ev_var 0 rfl r211) ev_int (by decide)) (fun v216 s214 e215 r217 => ?_) sc_l_text.nd
  have E218 := E210.trans e215
  have r219 := Enc.mono e215.f r211
  have r220 := Enc.mono e215.f r209
  obtain ⟨size212, q213, hm⟩ := ltE hm
  rw [← q213] at r217
  obtain ⟨at221, h_at221, hm⟩ := bndE hm
  refine do_set 3 (ev_ix (EvN.r (en_list (xs := ([(10 : Int), (10 : Int), (20 : Int)] : List Int)) (ee_cons ev_int (ee_cons ev_int (ee_cons ev_int ee_nil))) (by simp [sizeLine]))) (ev_mod (ev_div (ev_var 0 rfl r219) ev_int ⟨by decide, by decide +kernel⟩) ev_int (by decide)) h_at221) (fun v226 s224 e225 r227 => ?_) sc_l_text.nd
  have E228 := E218.trans e225
  have r229 := Enc.mono e225.f r219
  have r230 := Enc.mono e225.f r220
  have r231 := Enc.mono e225.f r217
  obtain ⟨many222, q223, hm⟩ := ltE hm
  rw [← q223] at r227
  obtain ⟨row232, h_row232, hm⟩ := bndE hm
  obtain ⟨ys246, h_ys246, hm⟩ := bndE hm
  obtain ⟨hc247, hm⟩ := chkE hm
  obtain ⟨hc248, hm⟩ := chkE hm
  obtain rfl := Option.some.inj hm
  exact do_ret (ev_join ev_str (EvN.r (EvL.n (en_comp0 (own := [("_law_one", 4)]) (j := 4) (f := fun (x233 : Int) => (bnd (sgn signs204 x233) fun at245 => (some at245))) rfl sc_l_text.nd (ei_list (EvN.ev (en_call C_l_row hr (by decide) (ea_cons (ev_div (ev_var 0 rfl r229) ev_int ⟨by decide, by decide +kernel⟩) (ea_cons (ev_var 3 rfl r227) (ea_cons (ev_var 2 rfl r231) ea_nil))) h_row232))) (blkOk_by (own := [("_law_one", 4)]) (N := N_l_text) (sc := defScope s_l_text) (by decide +kernel)) rfl (by decide) (fun _ _ _ _ _ => pg_name (i := 4) sc_l_text.nd rfl (by first | exact Or.inl rfl | exact Or.inr rfl)) h_ys246 hc247 (fun x233 y234 v243 s235 hx237 e236 r244 hf238 _ _ _ _ _ => by have r240 := Enc.mono e236.f r230; obtain ⟨at245, h_at245, hf238⟩ := bndE hf238; obtain rfl := Option.some.inj hf238; exact (ev_ixS (ev_var 1 rfl r240) (ev_var 4 rfl r244) h_at245))))) hc248) fun v249 s250 e251 r252 => hQ _ _ (E228.trans e251) r252
abbrev s_l_worth : Stmt := topS 7
abbrev N_l_worth : List Str := ["_law_text_here", "_law_number", "_law_sign"]
theorem sc_l_worth : FnScope N_l_worth ["_law_text_here"] (defScope s_l_worth) := ⟨rfl, rfl, rfl, by decide +kernel, rfl, by decide +kernel, by decide +kernel⟩
noncomputable def m_l_worth (text_here253 : Str) : Option (Option Int) :=
 (chk ((text_here253).length ≤ sizeLine) (bnd (orO (decide (((text_here253).length : Int) < (1 : Int))) (chk ((text_here253).length ≤ sizeLine) (orO (decide ((60 : Int) < ((text_here253).length : Int))) (bnd (sgn text_here253 (0 : Int)) fun at259 => (chk ((text_here253).length ≤ sizeLine) (some ((decide (at259 = ("0" : Str))) && (decide ((1 : Int) < ((text_here253).length : Int)))))))))) fun c261 => (if c261 = true then
 (some none)
 else
 (lt ((0 : Int) : Int) fun number281 =>
 (bnd (foldF (ρ := (Option Int)) (fun (b291 : Int) (x293 : Str) =>
 (if (!inS x293 ("0123456789" : Str)) = true then
 (some (Fl.rt none))
 else
 (bnd (ixS x293 ("0123456789" : Str)) fun ix342 => (lt ((((10 : Int) * b291) + (ix342 : Int)) : Int) fun number343 =>
 (some (Fl.nx number343)))))) number281 (chars text_here253)) fun o289 =>
 (Fl.go o289 (fun b364 => (some (some b364))) (fun rr => (some rr))))))))
noncomputable abbrev a_l_worth : Str × Unit → Option (Option Int) := fun a => m_l_worth a.1
theorem ok_l_worth {P : Program} {w : World} {K : PySem.W.Frag} {mg : Str → Option Value} {base : Heap} {f : Addr} {fd : FuncData} (F : FunP K "_law_worth" s_l_worth f fd) (hmg : mg "_law_worth" = some (.ref f)) (z_len : mg "len" = none) : Cal P w K mg base CX0 1 "_law_worth" (sp K a_l_worth) := by
  refine mk_cal (k := 0) F hmg (F.bindsN fun _ _ _ _ _ _ us hl => match us, hl with | [_], _ => rfl) sc_l_worth len1 ?_
  rintro cdv A' outer sh0 H0 X0 hr s0 vs ⟨text_here253, _⟩ r0 Q ⟨v254, _, rfl, r255, rfl⟩ hm hQ
  have E256 := Ex.refl s0
  unfold a_l_worth m_l_worth at hm
  dsimp only at hm
  obtain ⟨hc257, hm⟩ := chkE hm
  obtain ⟨c261, h_c261, hm⟩ := bndE hm
  refine do_ifR (EvW.tt (EvC.w (by skip; exact ec_orO (eb_lt (ev_lenS z_len hc257 (ev_var 0 rfl r255)) ev_int) (fun hb262 => (fun hz => (by obtain ⟨hc258, hz⟩ := chkE hz; exact ec_orO (eb_gt (ev_lenS z_len hc258 (ev_var 0 rfl r255)) ev_int) (fun hb263 => (fun hz => (by obtain ⟨at259, h_at259, hz⟩ := bndE hz; obtain ⟨hc260, hz⟩ := chkE hz; obtain rfl := Option.some.inj hz; exact (ec_or1 (EvC.bb (ec_and (eb_eq (ev_ixS (ev_var 0 rfl r255) ev_int h_at259) ev_str) fun _ => (ec_and1 (eb_gt (ev_lenS z_len hc260 (ev_var 0 rfl r255)) ev_int))))))) ((orE hz).1 hb263)) (orE hz).2)) ((orE h_c261).1 hb262)) (orE h_c261).2))) (fun hb265 s266 e267 => ?_) (fun hb275 s276 e277 => ?_)
  · have hm268 := iteE1 hm hb265
    have E269 := E256.trans e267
    have r270 := Enc.mono e267.f r255
    obtain rfl := Option.some.inj hm268
    exact do_ret ev_nonO fun v271 s272 e273 r274 => hQ _ _ (E269.trans e273) r274
  · have hm278 := iteE2 hm hb275
    have E279 := E256.trans e277
    have r280 := Enc.mono e277.f r255
    refine do_set 1 ev_int (fun v285 s283 e284 r286 => ?_) sc_l_worth.nd
    have E287 := E279.trans e284
    have r288 := Enc.mono e284.f r280
    obtain ⟨number281, q282, hm278⟩ := ltE hm278
    rw [← q282] at r286
    obtain ⟨o289, ho290, hm278⟩ := bndE hm278
    refine do_forF (ρ := (Option Int)) (υ := Int) PassesOwn.never rfl (ei_str (ev_var 0 rfl r288)) (pg_name (i := 2) sc_l_worth.nd rfl (by first | exact Or.inl rfl | exact Or.inr rfl)) tg_n ho290 (fun (b291 : Int) (σ' : L2.St) (t' : S) => Ex s0 t' ∧ ∃ (v_number : V) (y_sign : Option V), σ' = [some v254, some v_number, y_sign] ∧ rep K t'.F v_number (b291 : Int)) (fun s359 k360 => by have E361 := E287.trans k360; have r362 := Enc.mono k360.f r288; have r363 := Enc.mono k360.f r286; exact ⟨E361, v285, _, rfl, r363⟩) (fun s294 k295 x293 b291 q317 σ304 σ305 t302 t303 hx296 hm297 hq318 fl298 hR299 k300 hB301 => ?_) (fun s353 k354 b364 σ355 t356 ho365 fl357 hR358 => ?_)
    · have hf306 := Fle.trans k295.f fl298
      obtain ⟨E307, v308, y309, rfl, r310⟩ := hR299
      have r311 := Enc.mono hf306 r288
      obtain ⟨v312, r313, rfl⟩ := hB301
      have E314 := E307.trans k300
      have r315 := Enc.mono k300.f r310
      have r316 := Enc.mono k300.f r311
      refine do_ifR (EvB.t (eb_notInS (ev_var 2 rfl r313) ev_str)) (fun hb320 s321 e322 => ?_) (fun hb333 s334 e335 => ?_)
      · have hm323 := iteE1 hm297 hb320
        have E324 := E314.trans e322
        have fl325 := Fle.trans (Fle.refl t303.F) e322.f
        have r326 := Enc.mono e322.f r315
        have r327 := Enc.mono e322.f r316
        have r328 := Enc.mono e322.f r313
        obtain rfl := Option.some.inj hm323
        obtain rfl := hq318 _ rfl
        obtain rfl := Option.some.inj hm278
        exact do_ret ev_nonO fun v329 s330 e331 r332 => hQ _ _ (E324.trans e331) r332
      · have hm336 := iteE2 hm297 hb333
        have E337 := E314.trans e335
        have fl338 := Fle.trans (Fle.refl t303.F) e335.f
        have r339 := Enc.mono e335.f r315
        have r340 := Enc.mono e335.f r316
        have r341 := Enc.mono e335.f r313
        obtain ⟨ix342, h_ix342, hm336⟩ := bndE hm336
        refine do_set 1 (ev_add (ev_mul ev_int (ev_var 1 rfl r339) (Or.inl (Or.inl ⟨by omega, by omega⟩))) (ev_indexS ev_str (ev_var 2 rfl r341) h_ix342)) (fun v347 s345 e346 r348 => ?_) sc_l_worth.nd
        have E349 := E337.trans e346
        have fl350 := Fle.trans fl338 e346.f
        have r351 := Enc.mono e346.f r340
        have r352 := Enc.mono e346.f r341
        obtain ⟨number343, q344, hm336⟩ := ltE hm336
        rw [← q344] at r348
        obtain rfl := Option.some.inj hm336
        exact do_nil ⟨s345, rfl, _, rfl, fl350, ⟨E349, v347, _, rfl, r348⟩⟩
    · subst ho365
      have hf366 := Fle.trans k354.f fl357
      obtain ⟨E367, v368, y369, rfl, r370⟩ := hR358
      have r371 := Enc.mono hf366 r288
      obtain rfl := Option.some.inj hm278
      exact do_ret (ev_some (ev_var 1 rfl r370)) fun v372 s373 e374 r375 => hQ _ _ (E367.trans e374) r375
abbrev s_is_made_of : Stmt := topS 2
abbrev N_is_made_of : List Str := ["text", "signs", "most", "sign"]
theorem sc_is_made_of : FnScope N_is_made_of ["text", "signs", "most"] (defScope s_is_made_of) := ⟨rfl, rfl, rfl, by decide +kernel, rfl, by decide +kernel, by decide +kernel⟩
noncomputable def m_is_made_of (text376 : Str) (signs379 : Str) (most382 : Int) : Option Bool :=
 (chk ((text376).length ≤ sizeLine) (if ((decide (((text376).length : Int) < (1 : Int))) || (decide (most382 < ((text376).length : Int)))) = true then
 (some false)
 else
 (bnd (foldF (ρ := Bool) (fun (b411 : Unit) (x413 : Str) =>
 (if (!inS x413 signs379) = true then
 (some (Fl.rt false))
 else
 (some (Fl.nx ())))) () (chars text376)) fun o409 =>
 (Fl.go o409 (fun b477 => (some true)) (fun rr => (some rr))))))
noncomputable abbrev a_is_made_of : Str × Str × Int × Unit → Option Bool := fun a => m_is_made_of a.1 a.2.1 a.2.2.1
theorem ok_is_made_of {P : Program} {w : World} {K : PySem.W.Frag} {mg : Str → Option Value} {base : Heap} {f : Addr} {fd : FuncData} (F : FunP K "is_made_of" s_is_made_of f fd) (hmg : mg "is_made_of" = some (.ref f)) (z_len : mg "len" = none) : Cal P w K mg base CX0 1 "is_made_of" (sp K a_is_made_of) := by
  refine mk_cal (k := 0) F hmg (F.bindsN fun _ _ _ _ _ _ us hl => match us, hl with | [_, _, _], _ => rfl) sc_is_made_of len3 ?_
  rintro cdv A' outer sh0 H0 X0 hr s0 vs ⟨text376, signs379, most382, _⟩ r0 Q ⟨v377, _, rfl, r378, v380, _, rfl, r381, v383, _, rfl, r384, rfl⟩ hm hQ
  have E385 := Ex.refl s0
  unfold a_is_made_of m_is_made_of at hm
  dsimp only at hm
  obtain ⟨hc386, hm⟩ := chkE hm
  refine do_ifR (EvW.tt (EvC.w (ec_or (eb_lt (ev_lenS z_len hc386 (ev_var 0 rfl r378)) ev_int) fun _ => (ec_or1 (eb_gt (ev_lenS z_len hc386 (ev_var 0 rfl r378)) (ev_var 2 rfl r384)))))) (fun hb389 s390 e391 => ?_) (fun hb401 s402 e403 => ?_)
  · have hm392 := iteE1 hm hb389
    have E393 := E385.trans e391
    have r394 := Enc.mono e391.f r378
    have r395 := Enc.mono e391.f r381
    have r396 := Enc.mono e391.f r384
    obtain rfl := Option.some.inj hm392
    exact do_ret ev_bl fun v397 s398 e399 r400 => hQ _ _ (E393.trans e399) r400
  · have hm404 := iteE2 hm hb401
    have E405 := E385.trans e403
    have r406 := Enc.mono e403.f r378
    have r407 := Enc.mono e403.f r381
    have r408 := Enc.mono e403.f r384
    obtain ⟨o409, ho410, hm404⟩ := bndE hm404
    refine do_forF (ρ := Bool) (υ := Unit) PassesOwn.never rfl (ei_str (ev_var 0 rfl r406)) (pg_name (i := 3) sc_is_made_of.nd rfl (by first | exact Or.inl rfl | exact Or.inr rfl)) tg_n ho410 (fun (b411 : Unit) (σ' : L2.St) (t' : S) => Ex s0 t' ∧ ∃ (y_sign : Option V), σ' = [some v377, some v380, some v383, y_sign]) (fun s471 k472 => by have E473 := E405.trans k472; have r474 := Enc.mono k472.f r406; have r475 := Enc.mono k472.f r407; have r476 := Enc.mono k472.f r408; exact ⟨E473, _, rfl⟩) (fun s414 k415 x413 b411 q438 σ424 σ425 t422 t423 hx416 hm417 hq439 fl418 hR419 k420 hB421 => ?_) (fun s465 k466 b477 σ467 t468 ho478 fl469 hR470 => ?_)
    · have hf426 := Fle.trans k415.f fl418
      obtain ⟨E427, y428, rfl⟩ := hR419
      have r429 := Enc.mono hf426 r406
      have r430 := Enc.mono hf426 r407
      have r431 := Enc.mono hf426 r408
      obtain ⟨v432, r433, rfl⟩ := hB421
      have E434 := E427.trans k420
      have r435 := Enc.mono k420.f r429
      have r436 := Enc.mono k420.f r430
      have r437 := Enc.mono k420.f r431
      refine do_ifR (EvB.t (eb_notInS (ev_var 3 rfl r433) (ev_var 1 rfl r436))) (fun hb441 s442 e443 => ?_) (fun hb455 s456 e457 => ?_)
      · have hm444 := iteE1 hm417 hb441
        have E445 := E434.trans e443
        have fl446 := Fle.trans (Fle.refl t423.F) e443.f
        have r447 := Enc.mono e443.f r435
        have r448 := Enc.mono e443.f r436
        have r449 := Enc.mono e443.f r437
        have r450 := Enc.mono e443.f r433
        obtain rfl := Option.some.inj hm444
        obtain rfl := hq439 _ rfl
        obtain rfl := Option.some.inj hm404
        exact do_ret ev_bl fun v451 s452 e453 r454 => hQ _ _ (E445.trans e453) r454
      · have hm458 := iteE2 hm417 hb455
        have E459 := E434.trans e457
        have fl460 := Fle.trans (Fle.refl t423.F) e457.f
        have r461 := Enc.mono e457.f r435
        have r462 := Enc.mono e457.f r436
        have r463 := Enc.mono e457.f r437
        have r464 := Enc.mono e457.f r433
        obtain rfl := Option.some.inj hm458
        exact do_nil ⟨s456, rfl, _, rfl, fl460, ⟨E459, _, rfl⟩⟩
    · subst ho478
      have hf479 := Fle.trans k466.f fl469
      obtain ⟨E480, y481, rfl⟩ := hR470
      have r482 := Enc.mono hf479 r406
      have r483 := Enc.mono hf479 r407
      have r484 := Enc.mono hf479 r408
      obtain rfl := Option.some.inj hm404
      exact do_ret ev_bl fun v485 s486 e487 r488 => hQ _ _ (E480.trans e487) r488
abbrev s_number_of : Stmt := topS 3
abbrev N_number_of : List Str := ["text"]
theorem sc_number_of : FnScope N_number_of ["text"] (defScope s_number_of) := ⟨rfl, rfl, rfl, by decide +kernel, rfl, by decide +kernel, by decide +kernel⟩
noncomputable def m_number_of (text489 : Str) : Option (Option Int) :=
 (bnd (m_is_made_of text489 c_FIGURES (60 : Int)) fun is_made_of493 => (bnd (orO (!is_made_of493) (bnd (sgn text489 (0 : Int)) fun at494 => (some ((decide (at494 = ("0" : Str))) && (!decide (text489 = ("0" : Str))))))) fun c495 => (if c495 = true then
 (some none)
 else
 (bnd (PySem.intText? text489) fun n514 => (chk ((text489).length ≤ 640) (some (some n514)))))))
noncomputable abbrev a_number_of : Str × Unit → Option (Option Int) := fun a => m_number_of a.1
theorem ok_number_of {P : Program} {w : World} {K : PySem.W.Frag} {mg : Str → Option Value} {base : Heap} {f : Addr} {fd : FuncData} (F : FunP K "number_of" s_number_of f fd) (hmg : mg "number_of" = some (.ref f)) (C_is_made_of : Cal P w K mg base CX0 1 "is_made_of" (sp K a_is_made_of)) (z_int : mg "int" = none) (G_FIGURES : ∃ v u, mg "FIGURES" = some u ∧ RelV v u ∧ ∀ F, rep K F v c_FIGURES) : Cal P w K mg base CX0 2 "number_of" (sp K a_number_of) := by
  refine mk_cal (k := 1) F hmg (F.bindsN fun _ _ _ _ _ _ us hl => match us, hl with | [_], _ => rfl) sc_number_of len1 ?_
  rintro cdv A' outer sh0 H0 X0 hr s0 vs ⟨text489, _⟩ r0 Q ⟨v490, _, rfl, r491, rfl⟩ hm hQ
  have E492 := Ex.refl s0
  unfold a_number_of m_number_of at hm
  dsimp only at hm
  obtain ⟨is_made_of493, h_is_made_of493, hm⟩ := bndE hm
  obtain ⟨c495, h_c495, hm⟩ := bndE hm
  refine do_ifR (EvW.tt (EvC.w (by skip; exact ec_orO (eb_not (eb_v (ev_call C_is_made_of hr (by decide) (ea_cons (ev_var 0 rfl r491) (ea_cons (ev_glob G_FIGURES) (ea_cons ev_int ea_nil))) h_is_made_of493))) (fun hb496 => (fun hz => (by obtain ⟨at494, h_at494, hz⟩ := bndE hz; obtain rfl := Option.some.inj hz; exact (ec_or1 (EvC.bb (ec_and (eb_eq (ev_ixS (ev_var 0 rfl r491) ev_int h_at494) ev_str) fun _ => (ec_and1 (eb_ne (ev_var 0 rfl r491) ev_str))))))) ((orE h_c495).1 hb496)) (orE h_c495).2))) (fun hb498 s499 e500 => ?_) (fun hb508 s509 e510 => ?_)
  · have hm501 := iteE1 hm hb498
    have E502 := E492.trans e500
    have r503 := Enc.mono e500.f r491
    obtain rfl := Option.some.inj hm501
    exact do_ret ev_nonO fun v504 s505 e506 r507 => hQ _ _ (E502.trans e506) r507
  · have hm511 := iteE2 hm hb508
    have E512 := E492.trans e510
    have r513 := Enc.mono e510.f r491
    obtain ⟨n514, h_n514, hm511⟩ := bndE hm511
    obtain ⟨hc515, hm511⟩ := chkE hm511
    obtain rfl := Option.some.inj hm511
    exact do_ret (ev_some (ev_intS z_int (ev_var 0 rfl r513) h_n514 hc515)) fun v516 s517 e518 r519 => hQ _ _ (E512.trans e518) r519
abbrev s_l_right : Stmt := topS 8
abbrev N_l_right : List Str := ["_law_text_here", "_law_due", "_law_found"]
theorem sc_l_right : FnScope N_l_right ["_law_text_here"] (defScope s_l_right) := ⟨rfl, rfl, rfl, by decide +kernel, rfl, by decide +kernel, by decide +kernel⟩
noncomputable def m_l_right (text_here520 : Str) : Option Bool :=
 (bnd (m_l_worth text_here520) fun worth524 => (lt (worth524 : (Option Int)) fun due525 =>
 (bnd (m_number_of text_here520) fun number_of533 => (lt (number_of533 : (Option Int)) fun found534 =>
 (if (due525).isNone = true then
 (some (found534).isNone)
 else
 (some ((found534).isSome && ((!false) && (decide (found534 = due525))))))))))
noncomputable abbrev a_l_right : Str × Unit → Option Bool := fun a => m_l_right a.1
theorem ok_l_right {P : Program} {w : World} {K : PySem.W.Frag} {mg : Str → Option Value} {base : Heap} {f : Addr} {fd : FuncData} (F : FunP K "_law_right" s_l_right f fd) (hmg : mg "_law_right" = some (.ref f)) (C_l_worth : Cal P w K mg base CX0 1 "_law_worth" (sp K a_l_worth)) (C_number_of : Cal P w K mg base CX0 2 "number_of" (sp K a_number_of)) (z_isinstance : mg "isinstance" = none) (z_int : mg "int" = none) (z_bool : mg "bool" = none) : Cal P w K mg base CX0 3 "_law_right" (sp K a_l_right) := by
  refine mk_cal (k := 2) F hmg (F.bindsN fun _ _ _ _ _ _ us hl => match us, hl with | [_], _ => rfl) sc_l_right len1 ?_
  rintro cdv A' outer sh0 H0 X0 hr s0 vs ⟨text_here520, _⟩ r0 Q ⟨v521, _, rfl, r522, rfl⟩ hm hQ
  have E523 := Ex.refl s0
  unfold a_l_right m_l_right at hm
  dsimp only at hm
  obtain ⟨worth524, h_worth524, hm⟩ := bndE hm
  refine do_set 1 (ev_call C_l_worth hr (by decide) (ea_cons (ev_var 0 rfl r522) ea_nil) h_worth524) (fun v529 s527 e528 r530 => ?_) sc_l_right.nd
  have E531 := E523.trans e528
  have r532 := Enc.mono e528.f r522
  obtain ⟨due525, q526, hm⟩ := ltE hm
  rw [← q526] at r530
  obtain ⟨number_of533, h_number_of533, hm⟩ := bndE hm
  refine do_set 2 (ev_call C_number_of hr (by decide) (ea_cons (ev_var 0 rfl r532) ea_nil) h_number_of533) (fun v538 s536 e537 r539 => ?_) sc_l_right.nd
  have E540 := E531.trans e537
  have r541 := Enc.mono e537.f r532
  have r542 := Enc.mono e537.f r530
  obtain ⟨found534, q535, hm⟩ := ltE hm
  rw [← q535] at r539
  refine do_ifR (EvB.t (eb_isN (ev_var 1 rfl r542))) (fun hb544 s545 e546 => ?_) (fun hb556 s557 e558 => ?_)
  · have hm547 := iteE1 hm hb544
    have E548 := E540.trans e546
    have r549 := Enc.mono e546.f r541
    have r550 := Enc.mono e546.f r542
    have r551 := Enc.mono e546.f r539
    obtain rfl := Option.some.inj hm547
    exact do_ret (EvB.v (eb_isN (ev_var 2 rfl r551))) fun v552 s553 e554 r555 => hQ _ _ (E548.trans e554) r555
  · have hm559 := iteE2 hm hb556
    have E560 := E540.trans e558
    have r561 := Enc.mono e558.f r541
    have r562 := Enc.mono e558.f r542
    have r563 := Enc.mono e558.f r539
    obtain rfl := Option.some.inj hm559
    exact do_ret (EvC.v (ec_and (eb_v (ev_isi (T := "int") z_isinstance z_int (by decide +kernel) (ev_var 2 rfl r563) (isi_optT _ (fun _ => by show kitB "int" "int" = _; decide +kernel) (by decide +kernel)))) fun _ => (ec_and (eb_not (eb_v (ev_isi (T := "bool") z_isinstance z_bool (by decide +kernel) (ev_var 2 rfl r563) (isi_optF _ (fun _ => by show kitB "int" "bool" = _; decide +kernel) (by decide +kernel))))) fun _ => (ec_and1 (eb_eqD hr (ev_var 2 rfl r563) (ev_var 1 rfl r562) (shp_of _) (shp_of _)))))) fun v564 s565 e566 r567 => hQ _ _ (E560.trans e566) r567
abbrev s_law : Stmt := topS 9
abbrev N_law : List Str := ["_law_script", "_law_cell", "_law_number", "_law_text_here"]
theorem sc_law : FnScope N_law ["_law_script"] (defScope s_law) := ⟨rfl, rfl, rfl, by decide +kernel, rfl, by decide +kernel, by decide +kernel⟩
noncomputable def m_law (script568 : (List Int)) : Option Bool :=
 (chk ((([(0 : Int)] : List Int)).length + ((cut script568 none (some (20 : Int)))).length ≤ sizeLine) (bnd (foldF (ρ := Bool) (fun (b575 : Unit) (x577 : Int) =>
 (lt ((x577 % ((10 : Int) ^ ((60 : Int)).toNat)) : Int) fun number602 =>
 (bnd (m_l_text x577) fun text612 => (chk ((number602).natAbs.log2 < 1920) (chk ((number602).natAbs.log2 < 1920) (chk ((("0" : Str)).length + ((strI number602)).length ≤ sizeLine) (bnd (foldF (ρ := Bool) (fun (b618 : Unit) (x620 : Str) =>
 (bnd (m_l_right x620) fun right647 => (if (!right647) = true then
 (some (Fl.rt false))
 else
 (some (Fl.nx ()))))) () ([text612, (strI number602), (("0" : Str) ++ (strI number602)), ("" : Str), ("0" : Str)] : List Str)) fun o616 =>
 (Fl.go o616 (fun b686 => (some (Fl.nx ()))) (fun rr => (some (Fl.rt rr))))))))))) () (([(0 : Int)] : List Int) ++ (cut script568 none (some (20 : Int))))) fun o573 =>
 (Fl.go o573 (fun b705 => (some true)) (fun rr => (some rr)))))
noncomputable abbrev a_law : (List Int) × Unit → Option Bool := fun a => m_law a.1
theorem ok_law_fn {P : Program} {w : World} {K : PySem.W.Frag} {mg : Str → Option Value} {base : Heap} {f : Addr} {fd : FuncData} (F : FunP K "law" s_law f fd) (hmg : mg "law" = some (.ref f)) (C_l_text : Cal P w K mg base CX0 2 "_law_text" (sp K a_l_text)) (C_l_right : Cal P w K mg base CX0 3 "_law_right" (sp K a_l_right)) (z_str : mg "str" = none) : FnOk P w K mg base CX0 4 f fd ["_law_script"] (sp K a_law) := by
  refine mk_fn (k := 3) F sc_law len1 ?_
  rintro cdv A' outer sh0 H0 X0 hr s0 vs ⟨script568, _⟩ r0 Q ⟨v569, _, rfl, r570, rfl⟩ hm hQ
  have E571 := Ex.refl s0
  unfold a_law m_law at hm
  dsimp only at hm
  obtain ⟨hc572, hm⟩ := chkE hm
  obtain ⟨o573, ho574, hm⟩ := bndE hm
  refine do_forF (ρ := Bool) (υ := Unit) PassesOwn.never rfl (ei_list (EvN.ev (en_cat (EvN.r (en_list (xs := ([(0 : Int)] : List Int)) (ee_cons ev_int ee_nil) (by simp [sizeLine]))) (EvN.r (en_slice (Ev.r (ev_var 0 rfl r570)) eo_none (eo_some ev_int))) hc572))) (pg_name (i := 1) sc_law.nd rfl (by first | exact Or.inl rfl | exact Or.inr rfl)) tg_n ho574 (fun (b575 : Unit) (σ' : L2.St) (t' : S) => Ex s0 t' ∧ ∃ (y_number : Option V) (y_text_here : Option V) (y_cell : Option V), σ' = [some v569, y_cell, y_number, y_text_here]) (fun s701 k702 => by have E703 := E571.trans k702; have r704 := Enc.mono k702.f r570; exact ⟨E703, _, _, _, rfl⟩) (fun s578 k579 x577 b575 q600 σ588 σ589 t586 t587 hx580 hm581 hq601 fl582 hR583 k584 hB585 => ?_) (fun s695 k696 b705 σ697 t698 ho706 fl699 hR700 => ?_)
  · have hf590 := Fle.trans k579.f fl582
    obtain ⟨E591, y592, y593, y594, rfl⟩ := hR583
    have r595 := Enc.mono hf590 r570
    obtain ⟨v596, r597, rfl⟩ := hB585
    have E598 := E591.trans k584
    have r599 := Enc.mono k584.f r595
    refine do_set 2 (ev_mod (ev_var 1 rfl r597) (ev_pow ev_int ev_int ⟨by decide, by decide, by decide⟩) (by decide)) (fun v606 s604 e605 r607 => ?_) sc_law.nd
    have E608 := E598.trans e605
    have fl609 := Fle.trans (Fle.refl t587.F) e605.f
    have r610 := Enc.mono e605.f r599
    have r611 := Enc.mono e605.f r597
    obtain ⟨number602, q603, hm581⟩ := ltE hm581
    rw [← q603] at r607
    obtain ⟨text612, h_text612, hm581⟩ := bndE hm581
    obtain ⟨hc613, hm581⟩ := chkE hm581
    obtain ⟨hc614, hm581⟩ := chkE hm581
    obtain ⟨hc615, hm581⟩ := chkE hm581
    obtain ⟨o616, ho617, hm581⟩ := bndE hm581
    refine do_forF (ρ := Bool) (υ := Unit) PassesOwn.never rfl (ei_list (EvN.ev (en_list (xs := ([text612, (strI number602), (("0" : Str) ++ (strI number602)), ("" : Str), ("0" : Str)] : List Str)) (ee_cons (ev_call C_l_text hr (by decide) (ea_cons (ev_var 1 rfl r611) ea_nil) h_text612) (ee_cons (ev_strI z_str hc613 (ev_var 2 rfl r607)) (ee_cons (ev_adds ev_str (ev_strI z_str hc614 (ev_var 2 rfl r607)) hc615) (ee_cons ev_str (ee_cons ev_str ee_nil))))) (by simp [sizeLine])))) (pg_name (i := 3) sc_law.nd rfl (by first | exact Or.inl rfl | exact Or.inr rfl)) tg_n ho617 (fun (b618 : Unit) (σ' : L2.St) (t' : S) => Ex s0 t' ∧ ∃ (y_text_here : Option V), σ' = [some v569, some v596, some v606, y_text_here]) (fun s679 k680 => by have E681 := E608.trans k680; have fl682 := Fle.trans fl609 k680.f; have r683 := Enc.mono k680.f r610; have r684 := Enc.mono k680.f r611; have r685 := Enc.mono k680.f r607; exact ⟨E681, _, rfl⟩) (fun s621 k622 x620 b618 q645 σ631 σ632 t629 t630 hx623 hm624 hq646 fl625 hR626 k627 hB628 => ?_) (fun s673 k674 b686 σ675 t676 ho687 fl677 hR678 => ?_)
    · have hf633 := Fle.trans k622.f fl625
      obtain ⟨E634, y635, rfl⟩ := hR626
      have r636 := Enc.mono hf633 r610
      have r637 := Enc.mono hf633 r611
      have r638 := Enc.mono hf633 r607
      obtain ⟨v639, r640, rfl⟩ := hB628
      have E641 := E634.trans k627
      have r642 := Enc.mono k627.f r636
      have r643 := Enc.mono k627.f r637
      have r644 := Enc.mono k627.f r638
      obtain ⟨right647, h_right647, hm624⟩ := bndE hm624
      refine do_ifR (EvB.t (eb_not (eb_v (ev_call C_l_right hr (by decide) (ea_cons (ev_var 3 rfl r640) ea_nil) h_right647)))) (fun hb649 s650 e651 => ?_) (fun hb663 s664 e665 => ?_)
      · have hm652 := iteE1 hm624 hb649
        have E653 := E641.trans e651
        have fl654 := Fle.trans (Fle.refl t630.F) e651.f
        have r655 := Enc.mono e651.f r642
        have r656 := Enc.mono e651.f r643
        have r657 := Enc.mono e651.f r644
        have r658 := Enc.mono e651.f r640
        obtain rfl := Option.some.inj hm652
        obtain rfl := hq646 _ rfl
        obtain rfl := Option.some.inj hm581
        obtain rfl := hq601 _ rfl
        obtain rfl := Option.some.inj hm
        exact do_ret ev_bl fun v659 s660 e661 r662 => hQ _ _ (E653.trans e661) r662
      · have hm666 := iteE2 hm624 hb663
        have E667 := E641.trans e665
        have fl668 := Fle.trans (Fle.refl t630.F) e665.f
        have r669 := Enc.mono e665.f r642
        have r670 := Enc.mono e665.f r643
        have r671 := Enc.mono e665.f r644
        have r672 := Enc.mono e665.f r640
        obtain rfl := Option.some.inj hm666
        exact do_nil ⟨s664, rfl, _, rfl, fl668, ⟨E667, _, rfl⟩⟩
    · subst ho687
      have hf688 := Fle.trans k674.f fl677
      obtain ⟨E689, y690, rfl⟩ := hR678
      have r691 := Enc.mono hf688 r610
      have r692 := Enc.mono hf688 r611
      have r693 := Enc.mono hf688 r607
      have fl694 := Fle.trans fl609 hf688
      obtain rfl := Option.some.inj hm581
      exact do_nil ⟨t676, rfl, _, rfl, fl694, ⟨E689, _, _, _, rfl⟩⟩
  · subst ho706
    have hf707 := Fle.trans k696.f fl699
    obtain ⟨E708, y709, y710, y711, rfl⟩ := hR700
    have r712 := Enc.mono hf707 r570
    obtain rfl := Option.some.inj hm
    exact do_ret ev_bl fun v713 s714 e715 r716 => hQ _ _ (E708.trans e715) r716
def d_l_row : He.DefD := ⟨("_law_row", none), "_law_row", "_law_row", defArgs s_l_row, defBody s_l_row, defScope s_l_row, [], []⟩
def d_l_text : He.DefD := ⟨("_law_text", none), "_law_text", "_law_text", defArgs s_l_text, defBody s_l_text, defScope s_l_text, [], []⟩
def d_l_worth : He.DefD := ⟨("_law_worth", none), "_law_worth", "_law_worth", defArgs s_l_worth, defBody s_l_worth, defScope s_l_worth, [], []⟩
def d_is_made_of : He.DefD := ⟨("is_made_of", none), "is_made_of", "is_made_of", defArgs s_is_made_of, defBody s_is_made_of, defScope s_is_made_of, [], []⟩
def d_number_of : He.DefD := ⟨("number_of", none), "number_of", "number_of", defArgs s_number_of, defBody s_number_of, defScope s_number_of, [], []⟩
def d_l_right : He.DefD := ⟨("_law_right", none), "_law_right", "_law_right", defArgs s_l_right, defBody s_l_right, defScope s_l_right, [], []⟩
def d_law : He.DefD := ⟨("law", none), "law", "law", defArgs s_law, defBody s_law, defScope s_law, [], []⟩
def fn : List He.DefD := [d_l_row, d_l_text, d_l_worth, d_is_made_of, d_number_of, d_l_right, d_law]
def fa : List He.Fa := [.glo "_law_row", .glo "_law_text", .glo "_law_worth", .glo "is_made_of", .glo "number_of", .glo "_law_right", .glo "law", .free "range", .free "len", .free "int", .free "isinstance", .free "bool", .free "str", .str "FIGURES" ("0123456789" : Str)]
abbrev R : PySem.W.OpenRow := PySem.W.OpenLaw.row PySem.Challenge.rw_deskpairs_k02_numbers
abbrev hk : PySem.W.Hook := He.hookD 4 fa fn
def ob (s : PySem.W.SharedT) : He.AlD := He.obsDG 4 fa fn (HandSHeadRun.getT s)
theorem ob_eq (s : PySem.W.SharedT) : ob s = hk.obs s.abs := He.obsDG_eq (HandSHeadRun.getT_eq s)
def loose0 : List Str := ["FIGURES", "is_made_of", "number_of", "_law_row", "_law_text", "_law_worth", "_law_right"]
def loose : List Str := loose0
theorem run (w : World) : HandSHeadRun.RunEq R (PySem.W.view R.prog [9]) hk ob 800 loose w := by
  intro os
  kernel_rfl
theorem facts {P : Program} {w : World} {K : PySem.W.Frag} {h : Heap} {mg : Str → Option Value} {f : Addr} (X : K.In h) (G : h.Ns mainGlobals mg) (hfa : mg ("law" : Str) = some (.ref f)) (c : He.SaysD fa fn K) :
    ∃ fd : FuncData, (∀ (s : Shared) (v : Value), BindsTo s fd ⟨[v], []⟩ [("_law_script", v)]) ∧ ∀ base : Heap, K.In base → base.Ns mainGlobals mg → FnOk P w K mg base CX0 4 f fd ["_law_script"] (sp K a_law) := by
  obtain ⟨fd_l_row, F_l_row⟩ := c.def_ 0 (d := d_l_row) rfl
  have g_l_row : mg "_law_row" = some (.ref (He.fAd K ("_law_row", none))) := He.glo_ok X G (c.fact 0 (f := .glo "_law_row") rfl)
  obtain ⟨fd_l_text, F_l_text⟩ := c.def_ 1 (d := d_l_text) rfl
  have g_l_text : mg "_law_text" = some (.ref (He.fAd K ("_law_text", none))) := He.glo_ok X G (c.fact 1 (f := .glo "_law_text") rfl)
  obtain ⟨fd_l_worth, F_l_worth⟩ := c.def_ 2 (d := d_l_worth) rfl
  have g_l_worth : mg "_law_worth" = some (.ref (He.fAd K ("_law_worth", none))) := He.glo_ok X G (c.fact 2 (f := .glo "_law_worth") rfl)
  obtain ⟨fd_is_made_of, F_is_made_of⟩ := c.def_ 3 (d := d_is_made_of) rfl
  have g_is_made_of : mg "is_made_of" = some (.ref (He.fAd K ("is_made_of", none))) := He.glo_ok X G (c.fact 3 (f := .glo "is_made_of") rfl)
  obtain ⟨fd_number_of, F_number_of⟩ := c.def_ 4 (d := d_number_of) rfl
  have g_number_of : mg "number_of" = some (.ref (He.fAd K ("number_of", none))) := He.glo_ok X G (c.fact 4 (f := .glo "number_of") rfl)
  obtain ⟨fd_l_right, F_l_right⟩ := c.def_ 5 (d := d_l_right) rfl
  have g_l_right : mg "_law_right" = some (.ref (He.fAd K ("_law_right", none))) := He.glo_ok X G (c.fact 5 (f := .glo "_law_right") rfl)
  obtain ⟨fd_law, F_law⟩ := c.def_ 6 (d := d_law) rfl
  have g_law : mg "law" = some (.ref (He.fAd K ("law", none))) := He.glo_ok X G (c.fact 6 (f := .glo "law") rfl)
  have z_range : mg "range" = none := He.free_ok X G (c.fact 7 (f := .free "range") rfl)
  have z_len : mg "len" = none := He.free_ok X G (c.fact 8 (f := .free "len") rfl)
  have z_int : mg "int" = none := He.free_ok X G (c.fact 9 (f := .free "int") rfl)
  have z_isinstance : mg "isinstance" = none := He.free_ok X G (c.fact 10 (f := .free "isinstance") rfl)
  have z_bool : mg "bool" = none := He.free_ok X G (c.fact 11 (f := .free "bool") rfl)
  have z_str : mg "str" = none := He.free_ok X G (c.fact 12 (f := .free "str") rfl)
  have G_FIGURES : ∃ v u, mg "FIGURES" = some u ∧ RelV v u ∧ ∀ F, Enc.rep K F v c_FIGURES := by
    obtain ⟨t, e⟩ := He.str_ok X G (c.fact 13 (f := .str "FIGURES" ("0123456789" : Str)) rfl)
    exact ⟨.str c_FIGURES, _, e, ⟨t, rfl⟩, fun _ => rfl⟩
  have e := hfa.symm.trans g_law
  cases e
  have b := FunD.bindsA (ps := ["_law_script"]) F_law fun _ _ _ _ _ _ us hl => match us, hl with | [_], _ => rfl
  refine ⟨fd_law, fun s v => b s [v] rfl, fun base _ _ => ?_⟩
  have C_l_row := ok_l_row (P := P) (w := w) (base := base) F_l_row g_l_row z_range
  have C_l_text := ok_l_text (P := P) (w := w) (base := base) F_l_text g_l_text C_l_row
  have C_l_worth := ok_l_worth (P := P) (w := w) (base := base) F_l_worth g_l_worth z_len
  have C_is_made_of := ok_is_made_of (P := P) (w := w) (base := base) F_is_made_of g_is_made_of z_len
  have C_number_of := ok_number_of (P := P) (w := w) (base := base) F_number_of g_number_of C_is_made_of z_int G_FIGURES
  have C_l_right := ok_l_right (P := P) (w := w) (base := base) F_l_right g_l_right C_l_worth C_number_of z_isinstance z_int z_bool
  exact ok_law_fn (P := P) (w := w) (base := base) F_law g_law C_l_text C_l_right z_str
theorem row_ok {cell many count : Int} (h1 : 0 < many) (h2 : many < 100000000) (h3 : 0 ≤ count) (h4 : count ≤ 1000) : Ok (m_l_row cell many count) (fun r => (r.length : Int) = count ∧ ∀ x ∈ r, 0 ≤ x ∧ x < many) := by
  unfold m_l_row
  refine ok_lt fun f hf => ok_lt fun n _ => ok_chk ⟨by omega, by omega⟩ (ok_bnd (P := fun b => (b.1.length : Int) = count ∧ ∀ x ∈ b.1, 0 ≤ x ∧ x < many) (ok_foldO (fun i b => b.1.length = i ∧ ∀ x ∈ b.1, 0 ≤ x ∧ x < many) ⟨by rw [hf]; rfl, by rw [hf]; simp⟩ ?_ ?_) ?_)
  · rintro i ⟨b1, b2⟩ x hx ⟨hl, hm⟩
    obtain ⟨e1, e2⟩ := rng_at hx
    dsimp only at hl hm ⊢
    have hz := szl
    have key : ∀ v : Int, (b1 ++ [v % many]).length = i + 1 ∧ ∀ z ∈ b1 ++ [v % many], 0 ≤ z ∧ z < many := fun v => by
      refine ⟨by rw [List.length_append, hl]; rfl, fun z hz => ?_⟩
      rcases List.mem_append.mp hz with h | h
      · exact hm z h
      · rw [List.mem_singleton.mp h]
        exact ⟨Int.emod_nonneg _ (by omega), Int.emod_lt_of_pos _ h1⟩
    refine ok_bnd (P := fun b => b.1.length = i + 1 ∧ ∀ z ∈ b.1, 0 ≤ z ∧ z < many) (ok_ite (fun _ => ?_) (fun _ => ?_)) (fun r hr => ok_some hr)
    · refine ok_chk h1 (ok_chk (by omega) (ok_lt fun y hy => ok_chk (div_small h1 (by omega)) (ok_lt fun _ _ => ok_some ?_)))
      rw [hy]; exact key _
    · refine ok_chk (mul_l (by omega) (by omega)) (ok_lt fun w _ => ok_chk h1 (ok_chk (by omega) (ok_lt fun y hy => ok_some ?_)))
      rw [hy]; exact key _
  · rintro b ⟨hl, hm⟩
    exact ⟨by rw [hl, rng_len_nn h3]; omega, hm⟩
  · exact fun b hb => ok_some hb
theorem made_eq (t s : Str) (m : Int) (h : t.length ≤ sizeLine) : m_is_made_of t s m = some (!(decide ((t.length : Int) < 1) || decide (m < (t.length : Int))) && !(chars t).any (fun x => !inS x s)) := by
  unfold m_is_made_of
  rw [chk_pos h]
  split
  · rename_i e
    rw [e]; rfl
  · rename_i e
    rw [Bool.not_eq_true] at e
    rw [e, foldF_any (p := fun x => !inS x s) (r := false) (fun x => rfl)]
    cases (chars t).any (fun x => !inS x s) <;> rfl

theorem fig_list : ("0123456789" : Str).cps.toList = [48, 49, 50, 51, 52, 53, 54, 55, 56, 57] := by decide +kernel
theorem in_fig (c : Nat) : inS ⟨#[c]⟩ ("0123456789" : Str) = decide (48 ≤ c ∧ c ≤ 57) := by
  unfold inS
  rw [StrLaws.found_one, fig_list, Bool.eq_iff_iff, decide_eq_true_iff, decide_eq_true_iff]
  simp only [List.mem_cons, List.not_mem_nil, or_false]
  omega
theorem ix_fig {c : Nat} (h : 48 ≤ c ∧ c ≤ 57) : ixS ⟨#[c]⟩ ("0123456789" : Str) = some (c - 48) := by
  have : c = 48 ∨ c = 49 ∨ c = 50 ∨ c = 51 ∨ c = 52 ∨ c = 53 ∨ c = 54 ∨ c = 55 ∨ c = 56 ∨ c = 57 := by omega
  rcases this with rfl | rfl | rfl | rfl | rfl | rfl | rfl | rfl | rfl | rfl <;> decide +kernel
theorem fold_fig {f : Int → Str → Option (Fl Int (Option Int))} (hf : ∀ b x, f b x = if (!inS x ("0123456789" : Str)) = true then some (.rt none) else bnd (ixS x ("0123456789" : Str)) fun j => lt (10 * b + (j : Int)) fun n => some (.nx n)) : ∀ (cs : List Nat) (a : Nat), foldF f (a : Int) (cs.map fun c => (⟨#[c]⟩ : Str)) = some (if cs.all (fun c => decide (48 ≤ c ∧ c ≤ 57)) = true then .nx ((cs.foldl (fun acc c => acc * 10 + (c - 48)) a : Nat) : Int) else .rt none)
  | [], a => rfl
  | c :: cs, a => by
    rw [List.map_cons]
    unfold foldF
    rw [hf, in_fig]
    by_cases h : 48 ≤ c ∧ c ≤ 57
    · rw [decide_eq_true h, ix_fig h, List.all_cons, decide_eq_true h, List.foldl_cons]
      have e : (10 * (a : Int) + ((c - 48 : Nat) : Int)) = ((a * 10 + (c - 48) : Nat) : Int) := by omega
      show (Option.bind (some (Fl.nx (10 * (a : Int) + ((c - 48 : Nat) : Int)))) _) = _
      rw [e]
      exact fold_fig hf cs _
    · rw [decide_eq_false h, List.all_cons, decide_eq_false h]
      rfl
theorem zero_one (x : Str) (c : Nat) (r : List Nat) (e : x.cps.toList = c :: r) : decide (x = ("0" : Str)) = (decide ((⟨#[c]⟩ : Str) = ("0" : Str)) && !decide ((1 : Int) < (x.length : Int))) := by
  have hz : ("0" : Str).cps.toList = [48] := by decide +kernel
  have hx : ∀ y z : Str, y = z ↔ y.cps.toList = z.cps.toList := fun y z => ⟨fun h => by rw [h], fun h => by
    cases y; cases z
    congr 1
    exact Array.toList_inj.mp h⟩
  have hl : x.length = r.length + 1 := by
    show x.cps.size = _
    rw [← Array.length_toList, e]; rfl
  rw [Bool.eq_iff_iff, Bool.and_eq_true, Bool.not_eq_true', decide_eq_true_iff, decide_eq_true_iff, decide_eq_false_iff_not, hx, hx, e, hz, hl]
  show c :: r = [48] ↔ [c] = [48] ∧ _
  constructor
  · intro h; cases h; exact ⟨rfl, by simp⟩
  · rintro ⟨h1, h2⟩
    cases h1
    have : r = [] := List.length_eq_zero_iff.mp (by omega)
    rw [this]
theorem sgn0 (x : Str) (c : Nat) (r : List Nat) (e : x.cps.toList = c :: r) (h : x.length ≤ sizeLine) : sgn x 0 = some ⟨#[c]⟩ := by
  unfold sgn
  rw [if_pos h, e, atI_get (Int.le_refl _) (by rw [List.length_cons]; omega)]
  rfl
theorem any_fig (x : Str) : (!(chars x).any (fun y => !inS y c_FIGURES)) = x.cps.toList.all (fun c => decide (48 ≤ c ∧ c ≤ 57)) := by
  unfold chars
  rw [List.any_map]
  generalize x.cps.toList = cs
  induction cs with
  | nil => rfl
  | cons c cs ih =>
    rw [List.any_cons, List.all_cons, Bool.not_or, ih]
    congr 1
    show (!(!inS ⟨#[c]⟩ ("0123456789" : Str))) = _
    rw [in_fig, Bool.not_not]
theorem right_ok (x : Str) (h : x.length ≤ 63) : m_l_right x = some true := by
  refine Ok.eq ?_
  have hz := szl
  have hs : x.length ≤ sizeLine := by omega
  have key : ∃ o, m_l_worth x = some o ∧ m_number_of x = some o := by
    unfold m_l_worth m_number_of
    simp only [chk_pos hs]
    rw [made_eq x _ _ hs]
    by_cases h1 : (x.length : Int) < 1
    · refine ⟨none, ?_, ?_⟩
      · rw [decide_eq_true h1]; rfl
      · rw [decide_eq_true h1]; rfl
    · rw [decide_eq_false h1]
      by_cases h2 : (60 : Int) < x.length
      · refine ⟨none, ?_, ?_⟩
        · rw [decide_eq_true h2]; rfl
        · rw [decide_eq_true h2]; rfl
      · rw [decide_eq_false h2]
        have hne : x.cps.toList ≠ [] := fun e => by
          have : x.length = x.cps.toList.length := Array.length_toList.symm
          rw [e] at this
          simp at this
          omega
        obtain ⟨c, r, e⟩ := List.exists_cons_of_ne_nil hne
        rw [sgn0 x c r e hs]
        have e5 : (!(false || false) && !(chars x).any fun y => !inS y c_FIGURES) = x.cps.toList.all (fun c => decide (48 ≤ c ∧ c ≤ 57)) := by rw [any_fig]; rfl
        rw [e5]
        by_cases h3 : (decide ((⟨#[c]⟩ : Str) = ("0" : Str)) && decide ((1 : Int) < (x.length : Int))) = true
        · refine ⟨none, ?_, ?_⟩
          · show bnd (bnd (some _) fun at1 => some (decide (at1 = ("0" : Str)) && decide ((1 : Int) < (x.length : Int)))) _ = _
            show bnd (some (decide ((⟨#[c]⟩ : Str) = ("0" : Str)) && decide ((1 : Int) < (x.length : Int)))) _ = _
            rw [h3]; rfl
          · show bnd (orO (!_) (some (decide ((⟨#[c]⟩ : Str) = ("0" : Str)) && !decide (x = ("0" : Str))))) _ = _
            rw [zero_one x c r e]
            rw [Bool.and_eq_true] at h3
            rw [h3.1, h3.2]
            cases x.cps.toList.all (fun c => decide (48 ≤ c ∧ c ≤ 57)) <;> rfl
        · rw [Bool.not_eq_true] at h3
          have h4 : (decide ((⟨#[c]⟩ : Str) = ("0" : Str)) && !decide (x = ("0" : Str))) = false := by
            rw [zero_one x c r e]
            cases hd : decide ((⟨#[c]⟩ : Str) = ("0" : Str))
            · rfl
            · rw [hd] at h3
              rw [Bool.true_and] at h3
              rw [h3]; rfl
          refine ⟨if x.cps.toList.all (fun c => decide (48 ≤ c ∧ c ≤ 57)) = true then some ((NumText.digitsVal x.cps.toList : Nat) : Int) else none, ?_, ?_⟩
          · show bnd (some (decide ((⟨#[c]⟩ : Str) = ("0" : Str)) && decide ((1 : Int) < (x.length : Int)))) _ = _
            rw [h3]
            show bnd (foldF _ _ (x.cps.toList.map fun c => (⟨#[c]⟩ : Str))) _ = _
            rw [show (0 : Int) = ((0 : Nat) : Int) from rfl, fold_fig (fun b x => rfl) x.cps.toList 0]
            by_cases ha : x.cps.toList.all (fun c => decide (48 ≤ c ∧ c ≤ 57)) = true
            · rw [if_pos ha, if_pos ha]; rfl
            · rw [if_neg ha, if_neg ha]; rfl
          · show bnd (orO (!_) (some (decide ((⟨#[c]⟩ : Str) = ("0" : Str)) && !decide (x = ("0" : Str))))) _ = _
            rw [h4]
            by_cases ha : x.cps.toList.all (fun c => decide (48 ≤ c ∧ c ≤ 57)) = true
            · rw [if_pos ha, ha]
              show bnd (PySem.intText? x) _ = _
              have hd : NumText.AllDigits x.cps.toList := fun d hd => of_decide_eq_true (List.all_eq_true.mp ha d hd)
              rw [PySem.intText_digits hd hne (by omega)]
              show chk _ _ = _
              rw [chk_pos (by omega)]
            · rw [if_neg ha]
              rw [Bool.not_eq_true] at ha
              rw [ha]; rfl
  obtain ⟨o, k1, k2⟩ := key
  unfold m_l_right
  rw [k1, k2]
  refine ok_bnd (P := fun y => y = o) (ok_some rfl) fun y hy => ok_lt fun y1 hy1 => ok_bnd (P := fun z => z = o) (ok_some rfl) fun z hz1 => ok_lt fun z1 hz2 => ?_
  subst hy hy1 hz1 hz2
  cases z1 with
  | none => exact ok_some rfl
  | some n => exact ok_some (by simp)
theorem text_ok (cell : Int) : Ok (m_l_text cell) (fun t => t.length ≤ 63) := by
  unfold m_l_text
  refine ok_lt fun sg hsg => ok_lt fun size hs => ok_bnd (P := fun x => x = 10 ∨ x = 20) (ok_atI (by omega) (by simp; omega) fun x hx => ?_) fun at1 h1 => ok_lt fun many hm => ?_
  · have h : x ∈ ([10, 10, 20] : List Int) := List.mem_of_getElem? hx
    simp only [List.mem_cons, List.not_mem_nil, or_false] at h
    omega
  · have hs1 : 0 ≤ size ∧ size ≤ 63 := by omega
    have hl : sg.cps.toList.length = 20 := by rw [hsg]; rfl
    have hz : sg.length ≤ sizeLine := by rw [hsg]; decide
    refine ok_bnd (row_ok (by omega) (by omega) hs1.1 (by omega)) fun row ⟨r1, r2⟩ => ?_
    refine ok_bnd (ok_mapO (P := fun _ y => y.length = 1) fun x hx => ?_) fun ys ⟨y1, y2⟩ => ?_
    · obtain ⟨h3, h4⟩ := r2 x hx
      refine ok_bnd (P := fun y => y.length = 1) ?_ fun y hy => ok_some hy
      unfold sgn
      rw [if_pos hz]
      obtain ⟨c, hc⟩ : ∃ c, atI sg.cps.toList x = some c := ⟨_, (ok_atI (Q := fun _ => True) h3 (by rw [hl]; omega) fun _ _ => trivial).choose_spec.1⟩
      rw [hc]
      exact ok_some rfl
    · have one : ∀ y ∈ ys, y.length = 1 := fun y hy => by
        obtain ⟨i, hi⟩ := List.mem_iff_getElem?.mp hy
        obtain ⟨_, _, h⟩ := y2 i y hi
        exact h
      have hlen : ys.length ≤ 63 := by omega
      refine ok_chk (by have := szl; omega) (ok_chk ?_ (ok_some ?_))
      · unfold Dy.JnOk
        rw [sum_ones one]
        show ys.length + ys.length * 0 ≤ 16777216
        omega
      · rw [join_len0, sum_ones one]; exact hlen
theorem str_len {n : Int} (h0 : 0 ≤ n) (h1 : n < 10 ^ 60) : (strI n).length ≤ 60 := by
  show (Str.ofString (toString n)).length ≤ 60
  exact toString_length_le h0 (by decide) h1
theorem law_true : ∀ ns : List Int, ns.length ≤ 63 → a_law (ns, ()) = some true := by
  intro ns hn
  refine Ok.eq ?_
  show Ok (m_law ns) _
  unfold m_law
  have hc := cut_len_le ns none (some 20)
  have hz := szl
  refine ok_chk (by show 1 + _ ≤ _; omega) (ok_bnd (P := fun q => q = .nx ()) (foldF_ok (fun x hx => ?_) rfl) fun q hq => by subst hq; exact ok_some rfl)
  refine ok_lt fun n hnn => ok_bnd (text_ok x) fun t ht => ?_
  have n0 : 0 ≤ n := by rw [hnn]; exact Int.emod_nonneg _ (by decide)
  have n1 : n < 10 ^ 60 := by rw [hnn]; exact Int.emod_lt_of_pos _ (by decide)
  have hlog : n.natAbs.log2 < 1920 := PySem.Flt.log2_lt_of (by decide) (Nat.lt_of_lt_of_le (show n.natAbs < 10 ^ 60 by omega) (by decide +kernel))
  have hl := str_len n0 n1
  have h01 : ("0" : Str).length = 1 := by decide
  refine ok_chk hlog (ok_chk hlog (ok_chk (by omega) (ok_bnd (P := fun q => q = .nx ()) (foldF_ok (fun y hy => ?_) rfl) fun q hq => by subst hq; exact ok_some rfl)))
  have : y.length ≤ 63 := by
    simp only [List.mem_cons, List.not_mem_nil, or_false] at hy
    rcases hy with rfl | rfl | rfl | rfl | rfl
    · exact ht
    · omega
    · show ((("0" : Str).cps ++ (strI n).cps).size) ≤ 63
      rw [Array.size_append]
      show ("0" : Str).length + (strI n).length ≤ 63
      omega
    · decide
    · decide
  rw [right_ok y this]
  exact ok_some rfl

end K02

open PySem PySem.W PySem.Calls PyProof.Rows
set_option maxHeartbeats 0 in
theorem PySem.Challenge.cw_deskpairs_k02_numbers_holds : PySem.Challenge.rw_deskpairs_k02_numbers.Holds := by
  w_on; o_law
  refine HandSHeadRun.head_any (r := OpenLaw.row PySem.Challenge.rw_deskpairs_k02_numbers) (q := view (OpenLaw.row PySem.Challenge.rw_deskpairs_k02_numbers).prog [9]) (H := K02.hk) (ob := K02.ob) (M := 800) (loose := K02.loose) (d := HandSHeadRun.topDef (OpenLaw.row PySem.Challenge.rw_deskpairs_k02_numbers).prog 9) (kwd := []) K02.ob_eq
    (by kernel_rfl) (fun s => by kernel_rfl) K02.run (by kernel_rfl) (by kernel_rfl) (by kernel_rfl) (by rfl) (by first | assumption | decide +kernel) (by decide +kernel) ⟨rfl, rfl, rfl, rfl, rfl, by decide +kernel⟩ ?hw ?hc
  case hw => w_witness2
  case hc =>
    refine L2.walk_ofE (l := PySem.Challenge.rw_deskpairs_k02_numbers) (n := 63) (k := 4) (x := "_law_script") (CX := L2.CX0) rfl (by decide) (by kernel_rfl) ⟨rfl, by decide, by decide⟩ ?F (fun _ _ _ _ z => z)
    intro w mg fa h Y G hmg0
    obtain ⟨K, KX, c⟩ := Y
    have hmg : mg ("law" : PySem.Str) = some (.ref fa) := by
      have e : (HandSHeadRun.topDef (OpenLaw.row PySem.Challenge.rw_deskpairs_k02_numbers).prog 9).name = ("law" : PySem.Str) := by kernel_rfl
      rw [← e]
      exact hmg0
    obtain ⟨fd, hb, hF⟩ := K02.facts (P := (PySem.Challenge.rw_deskpairs_k02_numbers).prog) (w := w) KX G hmg c
    exact ⟨K, fd, Dy.spLaw K, KX, hb, fun H a ns hl _ hS => ⟨a, ns, rfl, hS, hl, fun _ => rfl⟩, fun base h1 h2 => Dy.law_of (hF base h1 h2) K02.law_true⟩

