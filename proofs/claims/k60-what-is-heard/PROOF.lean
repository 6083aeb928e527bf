import PyProof.Rows.All
import Wide.All
import OpenK.AllK
import Wide.FinOn
import HandS.ForMost
import HandS.Codes
import HandS.Wide
import HandS.SortInts
import HandS.Conv
import HandS.IsInst
import HandS.Defaults
import HandS.Head0
import HandS.Head1
import HandS.Head2
import HandS.HeadEnd
import HandS.HeadHook1
import HandS.HeadHook2
import HandS.Zip
import HandS.Exc
import HandS.TryOnly
import HandS.ExcOwn
import HandS.WordsExc
import HandS.ExcInit
import HandS.ExcIs
import HandS.ExcField
import HandS.Style
import HandS.TupAny
import HandS.More
import HandS.Replace
import PySem.Challenge.RW_deskpairs_k60_what_is_heard
set_option Elab.async false
set_option linter.all false
set_option maxRecDepth 100000
namespace Dy
open PySem PySem.Spec PyProof.Rows L2

structure S where
  F : Hp
  H : Hp
  sub : ∀ a o, F a = some o → H a = some o
abbrev Fle (F F' : Hp) : Prop := ∀ a o, F a = some o → F' a = some o
theorem Fle.refl (F : Hp) : Fle F F := fun _ _ h => h
theorem Fle.trans {F G I : Hp} (a : Fle F G) (b : Fle G I) : Fle F I := fun x o h => b x o (a x o h)
structure Ex (s t : S) : Prop where
  f : Fle s.F t.F
  h : ∀ a o, s.H a = some o → t.H a = some o
  n : ∀ a o, s.H a = some o → s.F a = none → t.F a = none
theorem Ex.refl (s : S) : Ex s s := ⟨fun _ _ h => h, fun _ _ h => h, fun _ _ _ h => h⟩
theorem Ex.trans {s t u : S} (a : Ex s t) (b : Ex t u) : Ex s u :=
  ⟨fun x o h => b.f x o (a.f x o h), fun x o h => b.h x o (a.h x o h), fun x o h n => b.n x o (a.h x o h) (a.n x o h n)⟩
theorem fr_back {s t : S} (e : Ex s t) {p : Addr} (h : t.H p = none) : s.H p = none := by
  cases q : s.H p with
  | none => rfl
  | some o => rw [e.h p o q] at h; cases h
theorem fF {s : S} {p : Addr} (h : s.H p = none) : s.F p = none := by
  cases q : s.F p with
  | none => rfl
  | some o => rw [s.sub p o q] at h; cases h
def S.newF (s : S) (p : Addr) (o : HO) (h : s.H p = none) : S := ⟨upd s.F p o, upd s.H p o, fun a u q => by
  unfold upd at q ⊢
  split
  · rename_i e; rw [if_pos e] at q; exact q
  · rename_i e; rw [if_neg e] at q; exact s.sub a u q⟩
def S.newO (s : S) (p : Addr) (o : HO) (h : s.H p = none) : S := ⟨s.F, upd s.H p o, fun a u q => by
  rw [upd_ne (ne_of_none (s.sub a u q) h)]; exact s.sub a u q⟩
def S.put (s : S) (p : Addr) (o : HO) (h : s.F p = none) : S := ⟨s.F, upd s.H p o, fun a u q => by
  rw [upd_ne (ne_of_none q h)]; exact s.sub a u q⟩
theorem Ex.newF {s : S} {p : Addr} {o : HO} (h : s.H p = none) : Ex s (s.newF p o h) :=
  ⟨fun a u q => by show upd s.F p o a = some u; rw [upd_ne (ne_of_none (s.sub a u q) h)]; exact q,
   fun a u q => by show upd s.H p o a = some u; rw [upd_ne (ne_of_none q h)]; exact q,
   fun a u q n => by show upd s.F p o a = none; rw [upd_ne (ne_of_none q h)]; exact n⟩
theorem Ex.newO {s : S} {p : Addr} {o : HO} (h : s.H p = none) : Ex s (s.newO p o h) :=
  ⟨fun a u q => q, fun a u q => by show upd s.H p o a = some u; rw [upd_ne (ne_of_none q h)]; exact q, fun a u q n => n⟩
structure Mx (P : Addr → Prop) (s t : S) : Prop where
  f : Fle s.F t.F
  h : ∀ a o, s.H a = some o → ¬ P a → t.H a = some o
  n : ∀ a o, s.H a = some o → s.F a = none → t.F a = none
  d : ∀ a o, s.H a = some o → ∃ u, t.H a = some u
theorem Ex.mx {P : Addr → Prop} {s t : S} (e : Ex s t) : Mx P s t := ⟨e.f, fun a o h _ => e.h a o h, e.n, fun a o h => ⟨o, e.h a o h⟩⟩
theorem Mx.trans {P : Addr → Prop} {s t u : S} (a : Mx P s t) (b : Mx P t u) : Mx P s u :=
  ⟨fun x o h => b.f x o (a.f x o h), fun x o h n => b.h x o (a.h x o h n) n,
   fun x o h n => by obtain ⟨v, hv⟩ := a.d x o h; exact b.n x v hv (a.n x o h n),
   fun x o h => by obtain ⟨v, hv⟩ := a.d x o h; exact b.d x v hv⟩
theorem Mx.put {s : S} {p : Addr} {o : HO} (h : s.F p = none) : Mx (· = p) s (s.put p o h) :=
  ⟨fun a u q => q, fun a u q n => by show upd s.H p o a = some u; rw [upd_ne n]; exact q, fun a u q n => n,
   fun a u q => by
    by_cases e : a = p
    · exact ⟨o, by rw [e]; exact upd_same⟩
    · exact ⟨u, by show upd s.H p o a = some u; rw [upd_ne e]; exact q⟩⟩
theorem Mx.fr_back {P : Addr → Prop} {s t : S} (e : Mx P s t) {p : Addr} (h : t.H p = none) : s.H p = none := by
  cases q : s.H p with
  | none => rfl
  | some o => obtain ⟨u, z⟩ := e.d p o q; rw [z] at h; cases h
theorem Ex.mu {s t u : S} {P : Addr → Prop} (a : Ex s t) (b : Mx P t u) (h : ∀ p, P p → s.H p = none) : Ex s u :=
  ⟨fun x o q => b.f x o (a.f x o q), fun x o q => b.h x o (a.h x o q) fun z => (by rw [h x z] at q; cases q), fun x o q n => b.n x o (a.h x o q) (a.n x o q n)⟩
theorem Ex.mu1 {s t u : S} {p : Addr} (a : Ex s t) (b : Mx (· = p) t u) (h : s.H p = none) : Ex s u := a.mu b fun _ e => e ▸ h

class Enc (α : Type) where
  rep : PySem.W.Frag → Hp → V → α → Prop
  mono : ∀ {K : PySem.W.Frag} {F F' : Hp} {v : V} {x : α}, Fle F F' → rep K F v x → rep K F' v x
open Enc (rep)
def Reps {α : Type} [Enc α] (K : PySem.W.Frag) (F : Hp) : List V → List α → Prop
  | [], [] => True
  | v :: vs, x :: xs => rep K F v x ∧ Reps K F vs xs
  | _, _ => False
section
variable {α β : Type} [Enc α] [Enc β] {K : PySem.W.Frag} {F F' : Hp}
theorem Reps.mono (e : Fle F F') : ∀ {vs : List V} {xs : List α}, Reps K F vs xs → Reps K F' vs xs
  | [], [], _ => trivial
  | _ :: _, _ :: _, ⟨h, t⟩ => ⟨Enc.mono e h, Reps.mono e t⟩
  | [], _ :: _, h => h.elim
  | _ :: _, [], h => h.elim
theorem Reps.len : ∀ {vs : List V} {xs : List α}, Reps K F vs xs → vs.length = xs.length
  | [], [], _ => rfl
  | _ :: _, _ :: _, ⟨_, t⟩ => congrArg (· + 1) (Reps.len t)
  | [], _ :: _, h => h.elim
  | _ :: _, [], h => h.elim
theorem Reps.get : ∀ {vs : List V} {xs : List α} {i : Nat} {x : α}, Reps K F vs xs → xs[i]? = some x → ∃ v, vs[i]? = some v ∧ rep K F v x
  | [], [], _, _, _, e => by simp at e
  | v :: _, y :: _, 0, x, ⟨h, _⟩, e => by
    have : y = x := Option.some.inj e
    subst this
    exact ⟨v, rfl, h⟩
  | _ :: vs, _ :: xs, i + 1, x, ⟨_, t⟩, e => by
    obtain ⟨v, h1, h2⟩ := Reps.get (i := i) t (by simpa using e)
    exact ⟨v, by simpa using h1, h2⟩
  | [], _ :: _, _, _, h, _ => h.elim
  | _ :: _, [], _, _, h, _ => h.elim
theorem Reps.get' : ∀ {vs : List V} {xs : List α} {i : Nat} {v : V}, Reps K F vs xs → vs[i]? = some v → ∃ x, xs[i]? = some x ∧ rep K F v x
  | [], [], _, _, _, e => by simp at e
  | v :: _, y :: _, 0, w, ⟨h, _⟩, e => by
    have : v = w := Option.some.inj e
    subst this
    exact ⟨y, rfl, h⟩
  | _ :: vs, _ :: xs, i + 1, w, ⟨_, t⟩, e => by
    obtain ⟨x, h1, h2⟩ := Reps.get' (i := i) t (by simpa using e)
    exact ⟨x, by simpa using h1, h2⟩
  | [], _ :: _, _, _, h, _ => h.elim
  | _ :: _, [], _, _, h, _ => h.elim
theorem Reps.app : ∀ {vs ws : List V} {xs ys : List α}, Reps K F vs xs → Reps K F ws ys → Reps K F (vs ++ ws) (xs ++ ys)
  | [], _, [], _, _, t => t
  | _ :: _, _, _ :: _, _, ⟨h, t⟩, u => ⟨h, Reps.app t u⟩
  | [], _, _ :: _, _, h, _ => h.elim
  | _ :: _, _, [], _, h, _ => h.elim
theorem Reps.snoc {vs : List V} {xs : List α} {v : V} {x : α} (h : Reps K F vs xs) (r : rep K F v x) : Reps K F (vs ++ [v]) (xs ++ [x]) := h.app ⟨r, trivial⟩
theorem Reps.take : ∀ {vs : List V} {xs : List α} (n : Nat), Reps K F vs xs → Reps K F (vs.take n) (xs.take n)
  | _, _, 0, _ => by rw [List.take_zero, List.take_zero]; trivial
  | [], [], _ + 1, _ => trivial
  | _ :: _, _ :: _, n + 1, ⟨h, t⟩ => ⟨h, Reps.take n t⟩
  | [], _ :: _, _ + 1, h => h.elim
  | _ :: _, [], _ + 1, h => h.elim
theorem Reps.drop : ∀ {vs : List V} {xs : List α} (n : Nat), Reps K F vs xs → Reps K F (vs.drop n) (xs.drop n)
  | _, _, 0, h => h
  | [], [], _ + 1, _ => trivial
  | _ :: _, _ :: _, n + 1, ⟨_, t⟩ => Reps.drop n t
  | [], _ :: _, _ + 1, h => h.elim
  | _ :: _, [], _ + 1, h => h.elim
theorem Reps.set : ∀ {vs : List V} {xs : List α} {v : V} {x : α} (i : Nat), Reps K F vs xs → rep K F v x → Reps K F (vs.set i v) (xs.set i x)
  | [], [], _, _, _, _, _ => trivial
  | _ :: _, _ :: _, _, _, 0, ⟨_, t⟩, r => ⟨r, t⟩
  | _ :: _, _ :: _, _, _, i + 1, ⟨h, t⟩, r => ⟨h, Reps.set i t r⟩
  | [], _ :: _, _, _, _, h, _ => h.elim
  | _ :: _, [], _, _, _, h, _ => h.elim
theorem Reps.erase : ∀ {vs : List V} {xs : List α} (i : Nat), Reps K F vs xs → Reps K F (vs.eraseIdx i) (xs.eraseIdx i)
  | [], [], _, _ => trivial
  | _ :: _, _ :: _, 0, ⟨_, t⟩ => t
  | _ :: _, _ :: _, i + 1, ⟨h, t⟩ => ⟨h, Reps.erase i t⟩
  | [], _ :: _, _, h => h.elim
  | _ :: _, [], _, h => h.elim
theorem Reps.rev : ∀ {vs : List V} {xs : List α}, Reps K F vs xs → Reps K F vs.reverse xs.reverse
  | [], [], _ => trivial
  | _ :: _, _ :: _, ⟨h, t⟩ => by rw [List.reverse_cons, List.reverse_cons]; exact (Reps.rev t).snoc h
  | [], _ :: _, h => h.elim
  | _ :: _, [], h => h.elim
theorem Reps.mem : ∀ {vs : List V} {xs : List α} {x : α}, Reps K F vs xs → x ∈ xs → ∃ v, v ∈ vs ∧ rep K F v x
  | v :: _, y :: _, x, ⟨h, t⟩, e => by
    rcases List.mem_cons.mp e with rfl | e
    · exact ⟨v, List.mem_cons_self, h⟩
    · obtain ⟨w, a, b⟩ := Reps.mem t e
      exact ⟨w, List.mem_cons_of_mem _ a, b⟩
  | [], _ :: _, _, h, _ => h.elim
theorem Reps.repl {v : V} {x : α} (r : rep K F v x) : ∀ n : Nat, Reps K F (List.replicate n v) (List.replicate n x)
  | 0 => trivial
  | n + 1 => ⟨r, Reps.repl r n⟩
end
instance : Enc Int := ⟨fun _ _ v x => v = .int x, fun _ h => h⟩
instance : Enc Bool := ⟨fun _ _ v x => v = .bl x, fun _ h => h⟩
instance : Enc Str := ⟨fun _ _ v x => v = .str x, fun _ h => h⟩
instance : Enc Unit := ⟨fun _ _ v _ => v = .non, fun _ h => h⟩
class Opn (α : Type) extends Enc α where
  notNon : ∀ {K : PySem.W.Frag} {F : Hp} {x : α}, ¬ rep K F .non x
instance : Opn Int := ⟨fun {K F x} h => nomatch (show V.non = V.int x from h)⟩
instance : Opn Str := ⟨fun {K F x} h => nomatch (show V.non = V.str x from h)⟩
instance : Opn Bool := ⟨fun {K F x} h => nomatch (show V.non = V.bl x from h)⟩
instance {α : Type} [Enc α] : Enc (Option α) := ⟨fun K F v x => match x with | none => v = .non | some y => rep K F v y, fun {K F F' v x} e h => by
  cases x with
  | none => exact h
  | some y => exact Enc.mono (α := α) e h⟩
theorem sql_mono {K : PySem.W.Frag} {F F' : Hp} {a : Addr} {vs : List V} (e : Fle F F') (h : SqL K F a vs) : SqL K F' a vs := by
  rcases h with (h | ⟨o, h⟩) | h
  · exact .inl (.inl (e _ _ h))
  · exact .inl (.inr ⟨o, e _ _ h⟩)
  · exact .inr h
theorem sqt_mono {K : PySem.W.Frag} {F F' : Hp} {a : Addr} {vs : List V} (e : Fle F F') (h : SqT K F a vs) : SqT K F' a vs := by
  rcases h with (h | ⟨o, h⟩) | h
  · exact .inl (.inl (e _ _ h))
  · exact .inl (.inr ⟨o, e _ _ h⟩)
  · exact .inr h
def RepL {α : Type} [Enc α] (K : PySem.W.Frag) (F : Hp) (v : V) (xs : List α) : Prop := ∃ a vs, v = .ref a ∧ SqL K F a vs ∧ Reps K F vs xs
instance {α : Type} [Enc α] : Enc (List α) := ⟨RepL, fun e h => by
  obtain ⟨a, vs, rfl, h1, h2⟩ := h
  exact ⟨a, vs, rfl, sql_mono e h1, h2.mono e⟩⟩
structure T1 (α : Type) where
  a : α
deriving DecidableEq
structure T3 (α β γ : Type) where
  a : α
  b : β
  c : γ
deriving DecidableEq
structure T4 (α β γ δ : Type) where
  a : α
  b : β
  c : γ
  d : δ
deriving DecidableEq
structure T5 (α β γ δ ε : Type) where
  a : α
  b : β
  c : γ
  d : δ
  e : ε
deriving DecidableEq
structure Tu (α : Type) where
  l : List α
deriving DecidableEq
instance {α β : Type} [Enc α] [Enc β] : Enc (α × β) := ⟨fun K F v x => ∃ p v1 v2, v = .ref p ∧ SqT K F p [v1, v2] ∧ rep K F v1 x.1 ∧ rep K F v2 x.2, fun e h => by
  obtain ⟨p, v1, v2, rfl, h0, h1, h2⟩ := h
  exact ⟨p, v1, v2, rfl, sqt_mono e h0, Enc.mono e h1, Enc.mono e h2⟩⟩
instance {α : Type} [Enc α] : Enc (T1 α) := ⟨fun K F v x => ∃ p v1, v = .ref p ∧ SqT K F p [v1] ∧ rep K F v1 x.a, fun e h => by
  obtain ⟨p, v1, rfl, h0, h1⟩ := h
  exact ⟨p, v1, rfl, sqt_mono e h0, Enc.mono e h1⟩⟩
instance {α β γ : Type} [Enc α] [Enc β] [Enc γ] : Enc (T3 α β γ) := ⟨fun K F v x => ∃ p v1 v2 v3, v = .ref p ∧ SqT K F p [v1, v2, v3] ∧ rep K F v1 x.a ∧ rep K F v2 x.b ∧ rep K F v3 x.c, fun e h => by
  obtain ⟨p, v1, v2, v3, rfl, h0, h1, h2, h3⟩ := h
  exact ⟨p, v1, v2, v3, rfl, sqt_mono e h0, Enc.mono e h1, Enc.mono e h2, Enc.mono e h3⟩⟩
instance {α β γ δ : Type} [Enc α] [Enc β] [Enc γ] [Enc δ] : Enc (T4 α β γ δ) := ⟨fun K F v x => ∃ p v1 v2 v3 v4, v = .ref p ∧ SqT K F p [v1, v2, v3, v4] ∧ rep K F v1 x.a ∧ rep K F v2 x.b ∧ rep K F v3 x.c ∧ rep K F v4 x.d, fun e h => by
  obtain ⟨p, v1, v2, v3, v4, rfl, h0, h1, h2, h3, h4⟩ := h
  exact ⟨p, v1, v2, v3, v4, rfl, sqt_mono e h0, Enc.mono e h1, Enc.mono e h2, Enc.mono e h3, Enc.mono e h4⟩⟩
instance {α β γ δ ε : Type} [Enc α] [Enc β] [Enc γ] [Enc δ] [Enc ε] : Enc (T5 α β γ δ ε) := ⟨fun K F v x => ∃ p v1 v2 v3 v4 v5, v = .ref p ∧ SqT K F p [v1, v2, v3, v4, v5] ∧ rep K F v1 x.a ∧ rep K F v2 x.b ∧ rep K F v3 x.c ∧ rep K F v4 x.d ∧ rep K F v5 x.e, fun e h => by
  obtain ⟨p, v1, v2, v3, v4, v5, rfl, h0, h1, h2, h3, h4, h5⟩ := h
  exact ⟨p, v1, v2, v3, v4, v5, rfl, sqt_mono e h0, Enc.mono e h1, Enc.mono e h2, Enc.mono e h3, Enc.mono e h4, Enc.mono e h5⟩⟩
def RepT {α : Type} [Enc α] (K : PySem.W.Frag) (F : Hp) (v : V) (xs : List α) : Prop := ∃ a vs, v = .ref a ∧ SqT K F a vs ∧ Reps K F vs xs
instance {α : Type} [Enc α] : Enc (Tu α) := ⟨fun K F v x => RepT K F v x.l, fun e h => by
  obtain ⟨a, vs, rfl, h1, h2⟩ := h
  exact ⟨a, vs, rfl, sqt_mono e h1, h2.mono e⟩⟩
instance {α : Type} [Enc α] : Opn (List α) := ⟨fun h => by obtain ⟨_, _, e, _⟩ := h; cases e⟩
instance {α : Type} [Enc α] : Opn (Tu α) := ⟨fun h => by obtain ⟨_, _, e, _⟩ := h; cases e⟩
class Flat (α : Type) extends Enc α where
  toV : α → V
  iff : ∀ {K : PySem.W.Frag} {F : Hp} {v : V} {x : α}, rep K F v x ↔ v = toV x
  flat : ∀ x, flatV (toV x) = true
  inj : ∀ x y, eqV (toV x) (toV y) = true ↔ x = y
open Flat (toV)
instance : Flat Int := ⟨V.int, Iff.rfl, fun _ => rfl, fun x y => by show (x == y) = true ↔ _; simp⟩
instance : Flat Bool := ⟨V.bl, Iff.rfl, fun _ => rfl, fun x y => by show (x == y) = true ↔ _; simp⟩
instance : Flat Str := ⟨V.str, Iff.rfl, fun _ => rfl, fun x y => by show (x == y) = true ↔ _; simp⟩
instance : Flat (Option Int) := ⟨fun x => match x with | none => .non | some i => .int i, fun {K F v x} => by cases x <;> exact Iff.rfl, fun x => by cases x <;> rfl, fun x y => by
  cases x <;> cases y <;> simp [eqV]⟩
instance : Flat (Option Str) := ⟨fun x => match x with | none => .non | some i => .str i, fun {K F v x} => by cases x <;> exact Iff.rfl, fun x => by cases x <;> rfl, fun x y => by
  cases x <;> cases y <;> simp [eqV]⟩
section
variable {α : Type} [Flat α] {K : PySem.W.Frag} {F : Hp}
theorem Reps.flat : ∀ {vs : List V} {xs : List α}, Reps K F vs xs → vs = xs.map toV
  | [], [], _ => rfl
  | _ :: _, _ :: _, ⟨h, t⟩ => by rw [List.map_cons, ← Flat.iff.mp h, ← Reps.flat t]
  | [], _ :: _, h => h.elim
  | _ :: _, [], h => h.elim
theorem Reps.of_flat : ∀ (xs : List α), Reps K F (xs.map toV) xs
  | [] => trivial
  | _ :: xs => ⟨Flat.iff.mpr rfl, Reps.of_flat xs⟩
theorem flat_all (xs : List α) : (xs.map toV).all flatV = true := by
  rw [List.all_eq_true]
  intro v hv
  obtain ⟨x, _, rfl⟩ := List.mem_map.mp hv
  exact Flat.flat x
theorem inV_flat [DecidableEq α] (x : α) (xs : List α) : inV (toV x) (xs.map toV) = decide (x ∈ xs) := by
  rw [Bool.eq_iff_iff, decide_eq_true_eq]
  unfold inV
  rw [List.any_eq_true]
  constructor
  · rintro ⟨v, hv, e⟩
    obtain ⟨y, hy, rfl⟩ := List.mem_map.mp hv
    rw [Flat.inj] at e
    rw [← e]; exact hy
  · intro h
    exact ⟨_, List.mem_map.mpr ⟨x, h, rfl⟩, (Flat.inj x x).mpr rfl⟩
end
end Dy

namespace Dy
open PySem PySem.Spec L2
open PyProof.Rows hiding St
open Enc (rep)
open Flat (toV)

def WE (X : Cx) (e : Expr) : TE := fun σ H Q => ∀ (pins : List (Addr × Obj)) (s : Shared), Inv X pins σ H s → wpAny (model X.prog X.w) X.A (eval e X.env) (EP X pins σ Q) X.xe s
def WT (X : Cx) (e : Expr) : TT := fun σ H Q => ∀ (pins : List (Addr × Obj)) (s : Shared), Inv X pins σ H s → wpAny (model X.prog X.w) X.A (isTrue e X.env (eval e X.env)) (TP X pins σ Q) X.xe s
def WW (X : Cx) (e : Expr) : TT := fun σ H Q => ∀ (whole : Sem Value) (pins : List (Addr × Obj)) (s : Shared), Inv X pins σ H s → wpAny (model X.prog X.w) X.A (isTrue e X.env whole) (TP X pins σ Q) X.xe s
def WA (X : Cx) (es : List Expr) : TA := fun σ H Q => ∀ (pos : Pos) (pins : List (Addr × Obj)) (s : Shared), Inv X pins σ H s → wpAny (model X.prog X.w) X.A (spliced (backTo pos (starEach es X.env))) (AP X pins σ Q) X.xe s
def WSs (X : Cx) (ss : List Stmt) : TS := fun D σ H => ∀ (pins : List (Addr × Obj)) (s : Shared), Inv X pins σ H s → wpAny (model X.prog X.w) X.A (execs ss X.env) (SP X pins D) X.xe s
theorem pe_we {X : Cx} {e : Expr} : PE X e (WE X e) := ⟨fun pins s _ _ _ I h => h pins s I⟩
theorem pt_wt {X : Cx} {e : Expr} : PT X e (WT X e) := ⟨fun pins s _ _ _ I h => h pins s I⟩
theorem pw_ww {X : Cx} {e : Expr} : PW X e (WW X e) := ⟨fun whole pins s _ _ _ I h => h whole pins s I⟩
theorem pa_wa {X : Cx} {es : List Expr} : PA X es (WA X es) := ⟨fun pos pins s _ _ _ I h => h pos pins s I⟩
theorem pss_ws {X : Cx} {ss : List Stmt} : PSs X ss (WSs X ss) := ⟨fun pins s _ _ _ I h => h pins s I⟩
theorem we_of {X : Cx} {e : Expr} {t : TE} {σ : St} {H : Hp} {Q : VK} (h : PE X e t) (q : t σ H Q) : WE X e σ H Q := fun pins s I => h.run pins s σ H Q I q
theorem wt_of {X : Cx} {e : Expr} {t : TT} {σ : St} {H : Hp} {Q : Bool → Hp → Prop} (h : PT X e t) (q : t σ H Q) : WT X e σ H Q := fun pins s I => h.run pins s σ H Q I q
theorem ww_of {X : Cx} {e : Expr} {t : TT} {σ : St} {H : Hp} {Q : Bool → Hp → Prop} (h : PW X e t) (q : t σ H Q) : WW X e σ H Q := fun w pins s I => h.run w pins s σ H Q I q
theorem wa_of {X : Cx} {es : List Expr} {t : TA} {σ : St} {H : Hp} {Q : List V → Hp → Prop} (h : PA X es t) (q : t σ H Q) : WA X es σ H Q := fun pos pins s I => h.run pos pins s σ H Q I q
theorem ws_of {X : Cx} {ss : List Stmt} {t : TS} {D : Ends} {σ : St} {H : Hp} (h : PSs X ss t) (q : t D σ H) : WSs X ss D σ H := fun pins s I => h.run pins s σ H D I q
theorem WSs.imp {X : Cx} {ss : List Stmt} {D D' : Ends} {σ : St} {H : Hp} (h : WSs X ss D σ H) (h1 : ∀ σ H, D.nx σ H → D'.nx σ H) (h2 : ∀ v H, D.rt v H → D'.rt v H) (h3 : ∀ σ H, D.bk σ H → D'.bk σ H) (h4 : ∀ σ H, D.ct σ H → D'.ct σ H) : WSs X ss D' σ H := fun pins s I => thn (h pins s I) fun f s1 q => by
  cases f with
  | next => obtain ⟨a, b, c, d⟩ := q; exact ⟨a, b, c, h1 _ _ d⟩
  | brk => obtain ⟨a, b, c, d⟩ := q; exact ⟨a, b, c, h3 _ _ d⟩
  | cont => obtain ⟨a, b, c, d⟩ := q; exact ⟨a, b, c, h4 _ _ d⟩
  | ret u => obtain ⟨a, b, c, d, e, f⟩ := q; exact ⟨a, b, c, d, e, h2 _ _ f⟩

section
variable {α β γ δ : Type} [Enc α] [Enc β] [Enc γ] [Enc δ]
def Ev (X : Cx) (e : Expr) (σ : St) (s : S) (x : α) : Prop := ∀ s1, Ex s s1 → ∀ Q : VK, (∀ v s2, Ex s1 s2 → rep X.K s2.F v x → Q v s2.H) → WE X e σ s1.H Q
def RepR (K : PySem.W.Frag) (s : S) (v : V) (xs : List α) : Prop := ∃ a vs, v = .ref a ∧ SqL K s.H a vs ∧ Reps K s.F vs xs
def EvR (X : Cx) (e : Expr) (σ : St) (s : S) (xs : List α) : Prop := ∀ s1, Ex s s1 → ∀ Q : VK, (∀ v s2, Ex s1 s2 → RepR X.K s2 v xs → Q v s2.H) → WE X e σ s1.H Q
def Own (K : PySem.W.Frag) (s : S) (p : Addr) (xs : List α) : Prop := s.F p = none ∧ ∃ vs, s.H p = some (.lst vs) ∧ Reps K s.F vs xs
def EvN (X : Cx) (e : Expr) (σ : St) (s : S) (xs : List α) : Prop := ∀ s1, Ex s s1 → ∀ Q : VK, (∀ p s2, Ex s1 s2 → s1.H p = none → Own X.K s2 p xs → Q (.ref p) s2.H) → WE X e σ s1.H Q
def EvT (X : Cx) (e : Expr) (σ : St) (s : S) (b : Bool) : Prop := ∀ s1, Ex s s1 → ∀ Q : Bool → Hp → Prop, (∀ s2, Ex s1 s2 → Q b s2.H) → WT X e σ s1.H Q
def EvW (X : Cx) (e : Expr) (σ : St) (s : S) (b : Bool) : Prop := ∀ s1, Ex s s1 → ∀ Q : Bool → Hp → Prop, (∀ s2, Ex s1 s2 → Q b s2.H) → WW X e σ s1.H Q
structure EvB (X : Cx) (e : Expr) (σ : St) (s : S) (b : Bool) : Prop where
  v : Ev X e σ s b
  t : EvT X e σ s b
structure EvC (X : Cx) (e : Expr) (σ : St) (s : S) (b : Bool) : Prop where
  v : Ev X e σ s b
  w : EvW X e σ s b
end
class EncA (A : Type) where
  repA : PySem.W.Frag → Hp → List V → A → Prop
  monoA : ∀ {K : PySem.W.Frag} {F F' : Hp} {vs : List V} {x : A}, Fle F F' → repA K F vs x → repA K F' vs x
open EncA (repA)
instance : EncA Unit := ⟨fun _ _ vs _ => vs = [], fun _ h => h⟩
instance {α A : Type} [Enc α] [EncA A] : EncA (α × A) := ⟨fun K F vs x => ∃ v r, vs = v :: r ∧ rep K F v x.1 ∧ repA K F r x.2, fun e h => by
  obtain ⟨v, r, rfl, h1, h2⟩ := h
  exact ⟨v, r, rfl, Enc.mono e h1, EncA.monoA e h2⟩⟩
def EvA {A : Type} [EncA A] (X : Cx) (es : List Expr) (σ : St) (s : S) (a : A) : Prop := ∀ s1, Ex s s1 → ∀ Q : List V → Hp → Prop, (∀ vs s2, Ex s1 s2 → repA X.K s2.F vs a → Q vs s2.H) → WA X es σ s1.H Q

section
variable {α β γ δ : Type} [Enc α] [Enc β] [Enc γ] [Enc δ] {X : Cx} {σ : St} {s t : S} {e a b c : Expr} {es : List Expr} {pos p0 p1 p2 p3 : Pos}
theorem Own.frz {K : PySem.W.Frag} {p : Addr} {xs : List α} (h : Own K s p xs) : ∃ s' : S, s'.H = s.H ∧ Fle s.F s'.F ∧ (∀ q, q ≠ p → s'.F q = s.F q) ∧ rep K s'.F (.ref p) xs := by
  obtain ⟨hn, vs, hp, r⟩ := h
  have f : Fle s.F (upd s.F p (.lst vs)) := fun a o q => by rw [upd_ne (ne_of_none q hn)]; exact q
  refine ⟨⟨upd s.F p (.lst vs), s.H, fun a o q => ?_⟩, rfl, f, fun q hq => upd_ne hq, p, vs, rfl, .inl (.inl upd_same), r.mono f⟩
  unfold upd at q
  split at q
  · rename_i e; cases q; rw [e]; exact hp
  · exact s.sub a o q
theorem Own.ex {K : PySem.W.Frag} {p : Addr} {xs : List α} (h : Own K s p xs) (e : Ex s t) : Own K t p xs := by
  obtain ⟨hn, vs, hp, r⟩ := h
  exact ⟨e.n _ _ hp hn, vs, e.h _ _ hp, r.mono e.f⟩
theorem Own.mx {K : PySem.W.Frag} {p : Addr} {P : Addr → Prop} {xs : List α} (h : Own K s p xs) (e : Mx P s t) (n : ¬ P p) : Own K t p xs := by
  obtain ⟨hn, vs, hp, r⟩ := h
  exact ⟨e.n _ _ hp hn, vs, e.h _ _ hp n, r.mono e.f⟩
theorem Own.ne {K : PySem.W.Frag} {p q : Addr} {xs : List α} (h : Own K s p xs) (n : s.H q = none) : p ≠ q := by
  obtain ⟨_, vs, hp, _⟩ := h
  exact ne_of_none hp n
theorem Own.r {K : PySem.W.Frag} {p : Addr} {xs : List α} (h : Own K s p xs) : RepR K s (.ref p) xs := by
  obtain ⟨hn, vs, hp, r⟩ := h
  exact ⟨p, vs, rfl, .inl (.inl hp), r⟩
theorem RepR.ex {K : PySem.W.Frag} {v : V} {xs : List α} (h : RepR K s v xs) (e : Ex s t) : RepR K t v xs := by
  obtain ⟨p, vs, rfl, h1, h2⟩ := h
  exact ⟨p, vs, rfl, sql_mono e.h h1, h2.mono e.f⟩
theorem rep_r {K : PySem.W.Frag} {v : V} {xs : List α} (h : rep K s.F v xs) : RepR K s v xs := by
  obtain ⟨p, vs, rfl, h1, h2⟩ := h
  exact ⟨p, vs, rfl, sql_mono s.sub h1, h2⟩
theorem Ev.mono {x : α} (h : Ev X e σ s x) (k : Ex s t) : Ev X e σ t x := fun s1 k1 Q q => h s1 (k.trans k1) Q q
theorem EvT.mono {x : Bool} (h : EvT X e σ s x) (k : Ex s t) : EvT X e σ t x := fun s1 k1 Q q => h s1 (k.trans k1) Q q
theorem Ev.r {xs : List α} (h : Ev X e σ s xs) : EvR X e σ s xs := fun s1 k Q q => h s1 k Q fun v s2 k2 r => q v s2 k2 (rep_r r)
theorem EvN.r {xs : List α} (h : EvN X e σ s xs) : EvR X e σ s xs := fun s1 k Q q => h s1 k Q fun p s2 k2 _ o => q (.ref p) s2 k2 o.r
theorem frz_ex {K : PySem.W.Frag} {p : Addr} {xs : List α} (k : Ex s t) (n : s.H p = none) (o : Own K t p xs) : ∃ t' : S, t'.H = t.H ∧ Ex s t' ∧ rep K t'.F (.ref p) xs := by
  obtain ⟨t', h1, h2, h3, h4⟩ := o.frz
  refine ⟨t', h1, ⟨k.f.trans h2, fun a u q => by rw [h1]; exact k.h a u q, fun a u q m => ?_⟩, h4⟩
  have : a ≠ p := ne_of_none q n
  rw [h3 a this]
  exact k.n a u q m
theorem EvN.ev {xs : List α} (h : EvN X e σ s xs) : Ev X e σ s xs := fun s1 k Q q => h s1 k Q fun p s2 k2 n o => by
  obtain ⟨t', h1, h2, h3⟩ := frz_ex k2 n o
  rw [← h1]
  exact q _ t' h2 h3
theorem Ev.cast {x y : α} (h : Ev X e σ s x) (k : x = y) : Ev X e σ s y := k ▸ h

theorem ev_var (i : Nat) {v : V} {x : α} {n : Str} (h : σ[i]? = some (some v)) (r : rep X.K s.F v x) (hN : X.N[i]? = some n := by rfl) (hv : Vis X.env.scope n := by first | exact Or.inl rfl | exact Or.inr (Or.inl rfl) | exact Or.inr (Or.inr rfl)) (hd : (n == ("__debug__" : Str)) = false := by decide)
    (hcd : (n == ("__classdict__" : Str)) = false := by decide) : Ev X (.Name n pos) σ s x := fun s1 k Q q => we_of (pe_var hN hv hd hcd) ⟨v, h, q v s1 (Ex.refl _) (Enc.mono k.f r)⟩
theorem ev_varR (i : Nat) {p : Addr} {xs : List α} {n : Str} (h : σ[i]? = some (some (.ref p))) (r : Own X.K s p xs) (hN : X.N[i]? = some n := by rfl) (hv : Vis X.env.scope n := by first | exact Or.inl rfl | exact Or.inr (Or.inl rfl) | exact Or.inr (Or.inr rfl)) (hd : (n == ("__debug__" : Str)) = false := by decide)
    (hcd : (n == ("__classdict__" : Str)) = false := by decide) : EvR X (.Name n pos) σ s xs := fun s1 k Q q => we_of (pe_var hN hv hd hcd) ⟨_, h, q _ s1 (Ex.refl _) (r.ex k).r⟩
theorem ev_int {i : Int} {j} : Ev X (.Constant (.int i) j pos) σ s i := fun s1 k Q q => we_of pe_int (q _ s1 (Ex.refl _) rfl)
theorem ev_bl {i : Bool} {j} : Ev X (.Constant (.bool i) j pos) σ s i := fun s1 k Q q => we_of pe_bl (q _ s1 (Ex.refl _) rfl)
theorem ev_str {i : Str} {j} : Ev X (.Constant (.str i) j pos) σ s i := fun s1 k Q q => we_of pe_str (q _ s1 (Ex.refl _) rfl)
theorem ev_non {j} : Ev X (.Constant .none j pos) σ s () := fun s1 k Q q => we_of pe_non (q _ s1 (Ex.refl _) rfl)
theorem ev_nonO {j} : Ev X (.Constant .none j pos) σ s (none : Option α) := fun s1 k Q q => we_of pe_non (q _ s1 (Ex.refl _) rfl)
theorem ev_some {x : α} (h : Ev X e σ s x) : Ev X e σ s (some x) := h
theorem ev_glob {n : Str} {x : α} (h : ∃ v u, X.mg n = some u ∧ RelV v u ∧ ∀ F, rep X.K F v x) (hg : Gl X n := by rfl) (hd : (n == ("__debug__" : Str)) = false := by decide) : Ev X (.Name n pos) σ s x := fun s1 k Q q => by
  obtain ⟨v, u, h1, h2, h3⟩ := h
  exact we_of (pe_glob hg h1 h2 hd) (q v s1 (Ex.refl _) (h3 _))

theorem ev_op {op : Operator} {r : R2} {x : α} {y : β} {z : γ} (ho : OpR X (binaryOp op) r) (ha : Ev X a σ s x) (hb : Ev X b σ s y)
    (hr : ∀ v u s2, rep X.K s2.F v x → rep X.K s2.F u y → ∀ Q : VK, (∀ v' s3, Ex s2 s3 → rep X.K s3.F v' z → Q v' s3.H) → r v u s2.H Q) : Ev X (.BinOp a op b pos) σ s z := fun s1 k Q q =>
  we_of (pe_op ho pe_we pe_we) (ha s1 k _ fun v s2 k2 r2 => hb s2 (k.trans k2) _ fun u s3 k3 r3 => hr v u s3 (Enc.mono k3.f r2) r3 Q fun w s4 k4 r4 => q w s4 ((k2.trans k3).trans k4) r4)
theorem ev_I0 {op : Operator} {g : Int → Int → V} {x y : Int} {z : γ} (ho : OpR X (binaryOp op) (rI0 g)) (ha : Ev X a σ s x) (hb : Ev X b σ s y) (hz : ∀ K F, rep K F (g x y) z) : Ev X (.BinOp a op b pos) σ s z :=
  ev_op ho ha hb fun v u s2 hv hu Q q => ⟨x, y, hv, hu, q _ s2 (Ex.refl _) (hz _ _)⟩
theorem ev_I {op : Operator} {C : Int → Int → Prop} {g : Int → Int → V} {x y : Int} {z : γ} (ho : OpR X (binaryOp op) (rI C g)) (ha : Ev X a σ s x) (hb : Ev X b σ s y) (hc : C x y) (hz : ∀ K F, rep K F (g x y) z) : Ev X (.BinOp a op b pos) σ s z :=
  ev_op ho ha hb fun v u s2 hv hu Q q => ⟨x, y, hv, hu, hc, q _ s2 (Ex.refl _) (hz _ _)⟩
theorem ev_add {x y : Int} (ha : Ev X a σ s x) (hb : Ev X b σ s y) : Ev X (.BinOp a .Add b pos) σ s (x + y) := ev_I0 op_add ha hb fun _ _ => rfl
theorem ev_sub {x y : Int} (ha : Ev X a σ s x) (hb : Ev X b σ s y) : Ev X (.BinOp a .Sub b pos) σ s (x - y) := ev_I0 op_sub ha hb fun _ _ => rfl
def MulOk (x y : Int) : Prop := CMul x y ∨ CMulW x y
theorem ev_mul {x y : Int} (ha : Ev X a σ s x) (hb : Ev X b σ s y) (hc : MulOk x y) : Ev X (.BinOp a .Mult b pos) σ s (x * y) := by
  rcases hc with hc | hc
  · exact ev_I op_mul ha hb hc fun _ _ => rfl
  · exact ev_I op_mulW ha hb hc fun _ _ => rfl
theorem ev_mod {x y : Int} (ha : Ev X a σ s x) (hb : Ev X b σ s y) (hc : 0 < y) : Ev X (.BinOp a .Mod b pos) σ s (x % y) := ev_I op_mod ha hb hc fun _ _ => rfl
def DivOk (y : Int) : Prop := 0 < y ∧ y.natAbs.log2 < 9000
theorem ev_div {x y : Int} (ha : Ev X a σ s x) (hb : Ev X b σ s y) (hc : DivOk y) : Ev X (.BinOp a .FloorDiv b pos) σ s (x / y) := ev_I op_fdivW ha hb hc fun _ _ => rfl
theorem ev_pow {x y : Int} (ha : Ev X a σ s x) (hb : Ev X b σ s y) (hc : CPow x y) : Ev X (.BinOp a .Pow b pos) σ s (x ^ y.toNat) := ev_I op_pow ha hb hc fun _ _ => rfl
theorem ev_adds {x y : Str} (ha : Ev X a σ s x) (hb : Ev X b σ s y) (hc : x.length + y.length ≤ sizeLine) : Ev X (.BinOp a .Add b pos) σ s (x ++ y) :=
  ev_op op_add_str ha hb fun v u s2 hv hu Q q => ⟨x, y, hv, hu, hc, q _ s2 (Ex.refl _) rfl⟩
theorem ev_neg {x : Int} (ha : Ev X a σ s x) : Ev X (.UnaryOp .USub a pos) σ s (-x) := fun s1 k Q q =>
  we_of (pe_un un_neg pe_we) (ha s1 k _ fun v s2 k2 r2 => ⟨x, r2, q _ s2 k2 rfl⟩)

theorem atI_rep {K : PySem.W.Frag} {F : Hp} {vs : List V} {xs : List α} {i : Int} {x : α} (r : Reps K F vs xs) (h : atI xs i = some x) : ∃ v, atI vs i = some v ∧ rep K F v x := by
  unfold atI at h ⊢
  rw [r.len]
  cases hj : ixN xs.length i with
  | none => rw [hj] at h; cases h
  | some j =>
    rw [hj] at h
    obtain ⟨v, h1, h2⟩ := r.get (i := j) h
    exact ⟨v, h1, h2⟩
theorem ev_ix {xs : List α} {i : Int} {x : α} (ha : EvR X a σ s xs) (hb : Ev X b σ s i) (h : atI xs i = some x) (hp : PlainIx b := by intro _ _; rfl) : Ev X (.Subscript a b pos) σ s x := fun s1 k Q q =>
  we_of (pe_ix ix_list pe_we pe_we hp) (ha s1 k _ fun v s2 k2 r2 => hb s2 (k.trans k2) _ fun u s3 k3 r3 => by
    obtain ⟨p, vs, rfl, h1, h2⟩ := r2.ex k3
    obtain ⟨w, h3, h4⟩ := atI_rep h2 h
    exact ⟨p, vs, i, w, rfl, r3, h1, h3, q w s3 (k2.trans k3) h4⟩)
theorem ev_ixT {xs : Tu α} {i : Int} {x : α} (ha : Ev X a σ s xs) (hb : Ev X b σ s i) (h : atI xs.l i = some x) (hp : PlainIx b := by intro _ _; rfl) : Ev X (.Subscript a b pos) σ s x := fun s1 k Q q =>
  we_of (pe_ix ix_tup pe_we pe_we hp) (ha s1 k _ fun v s2 k2 r2 => hb s2 (k.trans k2) _ fun u s3 k3 r3 => by
    obtain ⟨p, vs, rfl, h1, h2⟩ := Enc.mono (α := Tu α) k3.f r2
    obtain ⟨w, h3, h4⟩ := atI_rep h2 h
    exact ⟨p, vs, i, w, rfl, r3, sqt_mono s3.sub h1, h3, q w s3 (k2.trans k3) h4⟩)
theorem ev_ixP {x : β} {i : Int} {y : α} (ha : Ev X a σ s x) (hb : Ev X b σ s i) (h : ∀ {F : Hp} {v : V}, rep X.K F v x → ∃ p vs w, v = .ref p ∧ SqT X.K F p vs ∧ atI vs i = some w ∧ rep X.K F w y) (hp : PlainIx b := by intro _ _; rfl) : Ev X (.Subscript a b pos) σ s y := fun s1 k Q q =>
  we_of (pe_ix ix_tup pe_we pe_we hp) (ha s1 k _ fun v s2 k2 r2 => hb s2 (k.trans k2) _ fun u s3 k3 r3 => by
    obtain ⟨p, vs, w, rfl, h1, h2, h3⟩ := h (Enc.mono k3.f r2)
    exact ⟨p, vs, i, w, rfl, r3, sqt_mono s3.sub h1, h2, q w s3 (k2.trans k3) h3⟩)
theorem p2_0 {K : PySem.W.Frag} {x : α × β} {F : Hp} {v : V} (h : rep K F v x) : ∃ p vs w, v = .ref p ∧ SqT K F p vs ∧ atI vs 0 = some w ∧ rep K F w x.1 := by
  obtain ⟨p, v1, v2, rfl, h0, h1, h2⟩ := h
  exact ⟨p, _, v1, rfl, h0, rfl, h1⟩
theorem p2_1 {K : PySem.W.Frag} {x : α × β} {F : Hp} {v : V} (h : rep K F v x) : ∃ p vs w, v = .ref p ∧ SqT K F p vs ∧ atI vs 1 = some w ∧ rep K F w x.2 := by
  obtain ⟨p, v1, v2, rfl, h0, h1, h2⟩ := h
  exact ⟨p, _, v2, rfl, h0, rfl, h2⟩
theorem p3_0 {K : PySem.W.Frag} {x : T3 α β γ} {F : Hp} {v : V} (h : rep K F v x) : ∃ p vs w, v = .ref p ∧ SqT K F p vs ∧ atI vs 0 = some w ∧ rep K F w x.a := by
  obtain ⟨p, v1, v2, v3, rfl, h0, h1, h2, h3⟩ := h
  exact ⟨p, _, v1, rfl, h0, rfl, h1⟩
theorem p3_1 {K : PySem.W.Frag} {x : T3 α β γ} {F : Hp} {v : V} (h : rep K F v x) : ∃ p vs w, v = .ref p ∧ SqT K F p vs ∧ atI vs 1 = some w ∧ rep K F w x.b := by
  obtain ⟨p, v1, v2, v3, rfl, h0, h1, h2, h3⟩ := h
  exact ⟨p, _, v2, rfl, h0, rfl, h2⟩
theorem p3_2 {K : PySem.W.Frag} {x : T3 α β γ} {F : Hp} {v : V} (h : rep K F v x) : ∃ p vs w, v = .ref p ∧ SqT K F p vs ∧ atI vs 2 = some w ∧ rep K F w x.c := by
  obtain ⟨p, v1, v2, v3, rfl, h0, h1, h2, h3⟩ := h
  exact ⟨p, _, v3, rfl, h0, rfl, h3⟩
def sgn (x : Str) (i : Int) : Option Str := if x.length ≤ sizeLine then (atI x.cps.toList i).map fun c => ⟨#[c]⟩ else none
theorem ev_ixS {x : Str} {i : Int} {y : Str} (ha : Ev X a σ s x) (hb : Ev X b σ s i) (h : sgn x i = some y) (hp : PlainIx b := by intro _ _; rfl) : Ev X (.Subscript a b pos) σ s y := fun s1 k Q q =>
  we_of (pe_ix ix_str pe_we pe_we hp) (ha s1 k _ fun v s2 k2 r2 => hb s2 (k.trans k2) _ fun u s3 k3 r3 => by
    unfold sgn at h
    split at h
    · rename_i hz
      obtain ⟨c, h1, h2⟩ := Option.map_eq_some_iff.mp h
      exact ⟨x, i, c, r2, r3, hz, h1, q _ s3 (k2.trans k3) (by rw [h2]; rfl)⟩
    · cases h)
end
end Dy

namespace Dy
open PySem PySem.Spec L2
open PyProof.Rows hiding St
open Enc (rep)
open Flat (toV)
open EncA (repA)

section
variable {α β γ δ : Type} [Enc α] [Enc β] [Enc γ] [Enc δ] {X : Cx} {σ : St} {s t : S} {e a b c : Expr} {es : List Expr} {pos p0 p1 p2 p3 : Pos}

theorem et_v {x : Bool} (h : Ev X e σ s x) (he : ∀ whole, isTrue e X.env whole = (do let v ← whole; standAt e.pos; holding [v] (truthy v)) := by intro _; rfl) : EvT X e σ s x := fun s1 k Q q =>
  wt_of (pt_val pe_we he) (h s1 k _ fun v s2 k2 r => ⟨x, r, q s2 k2⟩)
theorem eb_v {x : Bool} (h : Ev X e σ s x) (he : ∀ whole, isTrue e X.env whole = (do let v ← whole; standAt e.pos; holding [v] (truthy v)) := by intro _; rfl) : EvB X e σ s x := ⟨h, et_v h he⟩
theorem EvW.tt {x : Bool} (h : EvW X e σ s x) : EvT X e σ s x := fun s1 k Q q => wt_of pw_ww.pt (h s1 k Q q)
theorem EvC.bb {x : Bool} (h : EvC X e σ s x) : EvB X e σ s x := ⟨h.v, h.w.tt⟩
theorem EvB.cast {x y : Bool} (h : EvB X e σ s x) (k : x = y) : EvB X e σ s y := k ▸ h
theorem ec_and1 {x : Bool} (h : EvB X a σ s x) : EvC X (.BoolOp .And [a] pos) σ s x :=
  ⟨fun s1 k Q q => we_of (pe_one pe_we) (h.v s1 k Q q), fun s1 k Q q => ww_of (pw_and1 pt_wt) (h.t s1 k Q q)⟩
theorem ec_or1 {x : Bool} (h : EvB X a σ s x) : EvC X (.BoolOp .Or [a] pos) σ s x :=
  ⟨fun s1 k Q q => we_of (pe_one pe_we) (h.v s1 k Q q), fun s1 k Q q => ww_of (pw_or1 pt_wt) (h.t s1 k Q q)⟩
theorem ec_and {x y : Bool} (h : EvB X a σ s x) (h2 : x = true → EvC X (.BoolOp .And (b :: es) pos) σ s y) : EvC X (.BoolOp .And (a :: b :: es) pos) σ s (x && y) :=
  ⟨fun s1 k Q q => we_of (pe_and pe_we pe_we) (h.v s1 k _ fun v s2 k2 r => ⟨x, r, by
    cases x with
    | true => exact iteT ((h2 rfl).v s2 (k.trans k2) Q fun v s3 k3 r3 => q v s3 (k2.trans k3) r3)
    | false => exact iteF (q _ s2 k2 rfl)⟩),
   fun s1 k Q q => ww_of (pw_and pt_wt pw_ww) (h.t s1 k _ fun s2 k2 => by
    cases x with
    | true => exact iteT ((h2 rfl).w s2 (k.trans k2) Q fun s3 k3 => q s3 (k2.trans k3))
    | false => exact iteF (q s2 k2))⟩
theorem ec_or {x y : Bool} (h : EvB X a σ s x) (h2 : x = false → EvC X (.BoolOp .Or (b :: es) pos) σ s y) : EvC X (.BoolOp .Or (a :: b :: es) pos) σ s (x || y) :=
  ⟨fun s1 k Q q => we_of (pe_or pe_we pe_we) (h.v s1 k _ fun v s2 k2 r => ⟨x, r, by
    cases x with
    | true => exact iteT (q _ s2 k2 rfl)
    | false => exact iteF ((h2 rfl).v s2 (k.trans k2) Q fun v s3 k3 r3 => q v s3 (k2.trans k3) r3)⟩),
   fun s1 k Q q => ww_of (pw_or pt_wt pw_ww) (h.t s1 k _ fun s2 k2 => by
    cases x with
    | true => exact iteT (q s2 k2)
    | false => exact iteF ((h2 rfl).w s2 (k.trans k2) Q fun s3 k3 => q s3 (k2.trans k3)))⟩
theorem eb_not {x : Bool} (h : EvB X a σ s x) : EvB X (.UnaryOp .Not a pos) σ s (!x) :=
  ⟨fun s1 k Q q => we_of (pe_not pe_we) (h.v s1 k _ fun v s2 k2 r => ⟨x, r, q _ s2 k2 rfl⟩), fun s1 k Q q => wt_of (pt_not pt_wt) (h.t s1 k _ fun s2 k2 => q s2 k2)⟩
theorem ev_ifE {x : Bool} {y z : α} (h : EvT X c σ s x) (h1 : x = true → Ev X a σ s y) (h2 : x = false → Ev X b σ s z) : Ev X (.IfExp c a b pos) σ s (if x = true then y else z) := fun s1 k Q q =>
  we_of (pe_ifExp pt_wt pe_we pe_we) (h s1 k _ fun s2 k2 => by
    cases x with
    | true => exact iteT (h1 rfl s2 (k.trans k2) Q fun v s3 k3 r => q v s3 (k2.trans k3) r)
    | false => exact iteF (h2 rfl s2 (k.trans k2) Q fun v s3 k3 r => q v s3 (k2.trans k3) r))

theorem eb_cmp {op : CmpOp} {r : R2} {x : α} {y : β} {z : Bool} (ho : OpR X (compareOp op) r) (ha : Ev X a σ s x) (hb : Ev X b σ s y)
    (hr : ∀ (v u : V) (s2 : S), rep X.K s2.F v x → rep X.K s2.F u y → ∀ Q : VK, Q (.bl z) s2.H → r v u s2.H Q) (hm : behindInMarks op b = false) : EvB X (.Compare a [op] [b] pos) σ s z :=
  ⟨fun s1 k Q q => we_of (pe_cmpR ho pe_we pe_we hm) (ha s1 k _ fun v s2 k2 r2 => hb s2 (k.trans k2) _ fun u s3 k3 r3 => hr v u s3 (Enc.mono k3.f r2) r3 Q (q _ s3 (k2.trans k3) rfl)),
   fun s1 k Q q => wt_of (pt_cmpR ho pe_we pe_we hm) (ha s1 k _ fun v s2 k2 r2 => hb s2 (k.trans k2) _ fun u s3 k3 r3 => hr v u s3 (Enc.mono k3.f r2) r3 _ ⟨z, rfl, q s3 (k2.trans k3)⟩)⟩
theorem eb_cmpR {op : CmpOp} {r : R2} {x : α} {ys : List β} {z : Bool} (ho : OpR X (compareOp op) r) (ha : Ev X a σ s x) (hb : EvR X b σ s ys)
    (hr : ∀ (v u : V) (s2 : S), rep X.K s2.F v x → RepR X.K s2 u ys → ∀ Q : VK, Q (.bl z) s2.H → r v u s2.H Q) (hm : behindInMarks op b = false) : EvB X (.Compare a [op] [b] pos) σ s z :=
  ⟨fun s1 k Q q => we_of (pe_cmpR ho pe_we pe_we hm) (ha s1 k _ fun v s2 k2 r2 => hb s2 (k.trans k2) _ fun u s3 k3 r3 => hr v u s3 (Enc.mono k3.f r2) r3 Q (q _ s3 (k2.trans k3) rfl)),
   fun s1 k Q q => wt_of (pt_cmpR ho pe_we pe_we hm) (ha s1 k _ fun v s2 k2 r2 => hb s2 (k.trans k2) _ fun u s3 k3 r3 => hr v u s3 (Enc.mono k3.f r2) r3 _ ⟨z, rfl, q s3 (k2.trans k3)⟩)⟩
theorem eb_cmpRR {op : CmpOp} {r : R2} {xs : List α} {ys : List β} {z : Bool} (ho : OpR X (compareOp op) r) (ha : EvR X a σ s xs) (hb : EvR X b σ s ys)
    (hr : ∀ (v u : V) (s2 : S), RepR X.K s2 v xs → RepR X.K s2 u ys → ∀ Q : VK, Q (.bl z) s2.H → r v u s2.H Q) (hm : behindInMarks op b = false) : EvB X (.Compare a [op] [b] pos) σ s z :=
  ⟨fun s1 k Q q => we_of (pe_cmpR ho pe_we pe_we hm) (ha s1 k _ fun v s2 k2 r2 => hb s2 (k.trans k2) _ fun u s3 k3 r3 => hr v u s3 (r2.ex k3) r3 Q (q _ s3 (k2.trans k3) rfl)),
   fun s1 k Q q => wt_of (pt_cmpR ho pe_we pe_we hm) (ha s1 k _ fun v s2 k2 r2 => hb s2 (k.trans k2) _ fun u s3 k3 r3 => hr v u s3 (r2.ex k3) r3 _ ⟨z, rfl, q s3 (k2.trans k3)⟩)⟩
theorem eb_I0 {op : CmpOp} {g : Int → Int → V} {x y : Int} {z : Bool} (ho : OpR X (compareOp op) (rI0 g)) (hg : g x y = .bl z) (hm : behindInMarks op b = false) (ha : Ev X a σ s x) (hb : Ev X b σ s y) : EvB X (.Compare a [op] [b] pos) σ s z :=
  eb_cmp ho ha hb (fun v u s2 hv hu Q q => ⟨x, y, hv, hu, by rw [hg]; exact q⟩) hm
theorem eb_lt {x y : Int} (ha : Ev X a σ s x) (hb : Ev X b σ s y) : EvB X (.Compare a [.Lt] [b] pos) σ s (decide (x < y)) := eb_I0 op_lt rfl (nomark _) ha hb
theorem eb_le {x y : Int} (ha : Ev X a σ s x) (hb : Ev X b σ s y) : EvB X (.Compare a [.LtE] [b] pos) σ s (decide (x ≤ y)) := eb_I0 op_le rfl (nomark _) ha hb
theorem eb_gt {x y : Int} (ha : Ev X a σ s x) (hb : Ev X b σ s y) : EvB X (.Compare a [.Gt] [b] pos) σ s (decide (y < x)) := eb_I0 op_gt rfl (nomark _) ha hb
theorem eb_ge {x y : Int} (ha : Ev X a σ s x) (hb : Ev X b σ s y) : EvB X (.Compare a [.GtE] [b] pos) σ s (decide (y ≤ x)) := eb_I0 op_ge rfl (nomark _) ha hb
class Eqs (α : Type) extends Flat α where
  sc : ∀ x y : α, scal (toV x) (toV y) = true
  ij : ∀ x y : α, toV x = toV y ↔ x = y
instance : Eqs Int := { sc := fun _ _ => rfl, ij := fun x y => by show V.int x = V.int y ↔ _; simp }
instance : Eqs Bool := { sc := fun _ _ => rfl, ij := fun x y => by show V.bl x = V.bl y ↔ _; simp }
instance : Eqs Str := { sc := fun _ _ => rfl, ij := fun x y => by show V.str x = V.str y ↔ _; simp }
theorem eb_eq {ε : Type} [Eqs ε] [DecidableEq ε] {x y : ε} (ha : Ev X a σ s x) (hb : Ev X b σ s y) : EvB X (.Compare a [.Eq] [b] pos) σ s (decide (x = y)) :=
  eb_cmp op_eq ha hb (fun v u s2 hv hu Q q => by
    rw [Flat.iff.mp hv, Flat.iff.mp hu]
    refine ⟨Eqs.sc x y, ?_⟩
    rw [show decide (toV x = toV y) = decide (x = y) from decide_eq_decide.mpr (Eqs.ij x y)]
    exact q) (nomark _)
theorem eb_ne {ε : Type} [Eqs ε] [DecidableEq ε] {x y : ε} (ha : Ev X a σ s x) (hb : Ev X b σ s y) : EvB X (.Compare a [.NotEq] [b] pos) σ s (!decide (x = y)) :=
  eb_cmp op_ne ha hb (fun v u s2 hv hu Q q => by
    rw [Flat.iff.mp hv, Flat.iff.mp hu]
    refine ⟨Eqs.sc x y, ?_⟩
    rw [show decide (toV x = toV y) = decide (x = y) from decide_eq_decide.mpr (Eqs.ij x y)]
    exact q) (nomark _)
theorem eb_isN {o : Type} [Opn o] {x : Option o} {j} (ha : Ev X a σ s x) : EvB X (.Compare a [.Is] [.Constant .none j p1] pos) σ s x.isNone :=
  eb_cmp op_isN ha ev_non (fun v u s2 hv hu Q q => by
    refine ⟨hu, ?_⟩
    have : decide (v = V.non) = x.isNone := by
      cases x with
      | none => cases (show v = V.non from hv); rfl
      | some y => exact decide_eq_false fun z => Opn.notNon (z ▸ (show rep X.K s2.F v y from hv))
    rw [this]; exact q) (nomark _)
theorem eb_notN {o : Type} [Opn o] {x : Option o} {j} (ha : Ev X a σ s x) : EvB X (.Compare a [.IsNot] [.Constant .none j p1] pos) σ s x.isSome :=
  eb_cmp op_notN ha ev_non (fun v u s2 hv hu Q q => by
    refine ⟨hu, ?_⟩
    have : (!decide (v = V.non)) = x.isSome := by
      cases x with
      | none => cases (show v = V.non from hv); rfl
      | some y => rw [decide_eq_false fun z => Opn.notNon (z ▸ (show rep X.K s2.F v y from hv))]; rfl
    rw [this]; exact q) (nomark _)
theorem eb_in {ε : Type} [Eqs ε] [DecidableEq ε] {x : ε} {xs : List ε} (ha : Ev X a σ s x) (hb : EvR X b σ s xs) (hm : behindInMarks .In b = false := by rfl) : EvB X (.Compare a [.In] [b] pos) σ s (decide (x ∈ xs)) :=
  eb_cmpR op_in_seq ha hb (fun v u s2 hv hu Q q => by
    obtain ⟨p, vs, rfl, h1, h2⟩ := hu
    rw [Flat.iff.mp hv]
    obtain rfl := h2.flat
    refine ⟨p, _, rfl, .inl h1, Flat.flat x, flat_all xs, ?_⟩
    rw [inV_flat]; exact q) hm
theorem eb_notIn {ε : Type} [Eqs ε] [DecidableEq ε] {x : ε} {xs : List ε} (ha : Ev X a σ s x) (hb : EvR X b σ s xs) (hm : behindInMarks .NotIn b = false := by rfl) : EvB X (.Compare a [.NotIn] [b] pos) σ s (!decide (x ∈ xs)) :=
  eb_cmpR op_notIn_seq ha hb (fun v u s2 hv hu Q q => by
    obtain ⟨p, vs, rfl, h1, h2⟩ := hu
    rw [Flat.iff.mp hv]
    obtain rfl := h2.flat
    refine ⟨p, _, rfl, .inl h1, Flat.flat x, flat_all xs, ?_⟩
    rw [inV_flat]; exact q) hm
theorem eb_inT {ε : Type} [Eqs ε] [DecidableEq ε] {x : ε} {xs : Tu ε} (ha : Ev X a σ s x) (hb : Ev X b σ s xs) (hm : behindInMarks .In b = false := by rfl) : EvB X (.Compare a [.In] [b] pos) σ s (decide (x ∈ xs.l)) :=
  eb_cmp op_in_seq ha hb (fun v u s2 hv hu Q q => by
    obtain ⟨p, vs, rfl, h1, h2⟩ := hu
    rw [Flat.iff.mp hv]
    obtain rfl := h2.flat
    refine ⟨p, _, rfl, .inr (sqt_mono s2.sub h1), Flat.flat x, flat_all xs.l, ?_⟩
    rw [inV_flat]; exact q) hm
theorem eb_notInT {ε : Type} [Eqs ε] [DecidableEq ε] {x : ε} {xs : Tu ε} (ha : Ev X a σ s x) (hb : Ev X b σ s xs) (hm : behindInMarks .NotIn b = false := by rfl) : EvB X (.Compare a [.NotIn] [b] pos) σ s (!decide (x ∈ xs.l)) :=
  eb_cmp op_notIn_seq ha hb (fun v u s2 hv hu Q q => by
    obtain ⟨p, vs, rfl, h1, h2⟩ := hu
    rw [Flat.iff.mp hv]
    obtain rfl := h2.flat
    refine ⟨p, _, rfl, .inr (sqt_mono s2.sub h1), Flat.flat x, flat_all xs.l, ?_⟩
    rw [inV_flat]; exact q) hm
def inS (x y : Str) : Bool := !(Builtin.Str.occurrences y x 0 y.length 1).isEmpty
theorem eb_inS {x y : Str} (ha : Ev X a σ s x) (hb : Ev X b σ s y) (hm : behindInMarks .In b = false := by rfl) : EvB X (.Compare a [.In] [b] pos) σ s (inS x y) :=
  eb_cmp op_in_str ha hb (fun v u s2 hv hu Q q => ⟨x, y, hv, hu, q⟩) hm
theorem eb_notInS {x y : Str} (ha : Ev X a σ s x) (hb : Ev X b σ s y) (hm : behindInMarks .NotIn b = false := by rfl) : EvB X (.Compare a [.NotIn] [b] pos) σ s (!inS x y) :=
  eb_cmp op_notIn_str ha hb (fun v u s2 hv hu Q q => ⟨x, y, hv, hu, q⟩) hm
theorem eb_chain {op op' : CmpOp} {g g' : Int → Int → V} {x y z : Int} {k1 k2 : Bool} (ho : OpR X (compareOp op) (rI0 g)) (hg : g x y = .bl k1) (ho' : OpR X (compareOp op') (rI0 g')) (hg' : g' y z = .bl k2) (ha : Ev X a σ s x) (hb : Ev X b σ s y) (hc : Ev X c σ s z)
    (hm : lastMarks [op, op'] [b, c] = false := by with_unfolding_all rfl) : EvB X (.Compare a [op, op'] [b, c] pos) σ s (k1 && k2) :=
  ⟨fun s1 k Q q => we_of (pe_chain ho ho' pe_we pe_we pe_we hm) (ha s1 k _ fun v s2 j2 r2 => hb s2 (k.trans j2) _ fun u s3 j3 r3 => ⟨x, y, r2, r3, k1, hg, by
    cases k1 with
    | true => exact iteT (hc s3 ((k.trans j2).trans j3) _ fun w s4 j4 r4 => ⟨y, z, r3, r4, by rw [hg']; exact q _ s4 ((j2.trans j3).trans j4) rfl⟩)
    | false => exact iteF (q _ s3 (j2.trans j3) rfl)⟩),
   fun s1 k Q q => wt_of (pt_chain ho ho' pe_we pe_we pe_we hm) (ha s1 k _ fun v s2 j2 r2 => hb s2 (k.trans j2) _ fun u s3 j3 r3 => ⟨x, y, r2, r3, k1, hg, by
    cases k1 with
    | true => exact iteT (hc s3 ((k.trans j2).trans j3) _ fun w s4 j4 r4 => ⟨y, z, r3, r4, by rw [hg']; exact ⟨_, rfl, q s4 ((j2.trans j3).trans j4)⟩⟩)
    | false => exact iteF ⟨_, rfl, q s3 (j2.trans j3)⟩⟩)⟩

theorem ea_nil : EvA X [] σ s () := fun s1 k Q q => wa_of pa_nil (q [] s1 (Ex.refl _) rfl)
theorem ea_cons {A : Type} [EncA A] {x : α} {r : A} (h : Ev X e σ s x) (hr : EvA X es σ s r) (hs : starEach (e :: es) X.env = (false, eval e X.env) :: starEach es X.env := by rfl) : EvA X (e :: es) σ s (x, r) := fun s1 k Q q =>
  wa_of (pa_cons pe_we pa_wa hs) (h s1 k _ fun v s2 k2 r2 => hr s2 (k.trans k2) _ fun vs s3 k3 r3 => q _ s3 (k2.trans k3) ⟨v, vs, rfl, Enc.mono k3.f r2, r3⟩)
theorem ev_B1 {id : String} {n : Str} {r : List V → Hp → VK → Prop} {x : β} {y : α} (hc : CallR X (.builtin id) r) (hg : Gl X n) (hm : X.mg n = none) (hv : bootBuiltins n = some (.builtin id)) (ha : Ev X e σ s x)
    (hr : ∀ (v : V) (s2 : S), rep X.K s2.F v x → ∀ Q : VK, (∀ w s3, Ex s2 s3 → rep X.K s3.F w y → Q w s3.H) → r [v] s2.H Q) (hn : n ≠ "__name__" := by decide) (hdb : (n == ("__debug__" : Str)) = false := by decide)
    (he : starEach [e] X.env = (false, eval e X.env) :: starEach [] X.env := by rfl) (hpl : (backTo pos (starEach [] X.env)).any (·.1) = false := by rfl) : Ev X (.Call (.Name n p0) [e] [] pos) σ s y := fun s1 k Q q =>
  we_of (pe_callB hc hg hm hv (pa_cons pe_we pa_nil he) hn hdb he hpl) (ha s1 k _ fun v s2 k2 r2 => hr v s2 r2 Q fun w s3 k3 r3 => q w s3 (k2.trans k3) r3)
theorem ev_BR {id : String} {n : Str} {r : List V → Hp → VK → Prop} {xs : List β} {y : α} (hc : CallR X (.builtin id) r) (hg : Gl X n) (hm : X.mg n = none) (hv : bootBuiltins n = some (.builtin id)) (ha : EvR X e σ s xs)
    (hr : ∀ (v : V) (s2 : S), RepR X.K s2 v xs → ∀ Q : VK, (∀ w s3, Ex s2 s3 → rep X.K s3.F w y → Q w s3.H) → r [v] s2.H Q) (hn : n ≠ "__name__" := by decide) (hdb : (n == ("__debug__" : Str)) = false := by decide)
    (he : starEach [e] X.env = (false, eval e X.env) :: starEach [] X.env := by rfl) (hpl : (backTo pos (starEach [] X.env)).any (·.1) = false := by rfl) : Ev X (.Call (.Name n p0) [e] [] pos) σ s y := fun s1 k Q q =>
  we_of (pe_callB hc hg hm hv (pa_cons pe_we pa_nil he) hn hdb he hpl) (ha s1 k _ fun v s2 k2 r2 => hr v s2 r2 Q fun w s3 k3 r3 => q w s3 (k2.trans k3) r3)
theorem ev_len {xs : List β} (hm : X.mg "len" = none) (ha : EvR X e σ s xs) (hg : Gl X "len" := by rfl) (he : starEach [e] X.env = (false, eval e X.env) :: starEach [] X.env := by rfl) (hpl : (backTo pos (starEach [] X.env)).any (·.1) = false := by rfl) : Ev X (.Call (.Name "len" p0) [e] [] pos) σ s (xs.length : Int) :=
  ev_BR call_len_seq hg hm boot_len ha (fun v s2 r2 Q q => by
    obtain ⟨p, vs, rfl, h1, h2⟩ := r2
    exact ⟨p, vs, rfl, .inl h1, q _ s2 (Ex.refl _) (by rw [h2.len]; rfl)⟩) (he := he) (hpl := hpl)
theorem ev_lenT {xs : Tu β} (hm : X.mg "len" = none) (ha : Ev X e σ s xs) (hg : Gl X "len" := by rfl) (he : starEach [e] X.env = (false, eval e X.env) :: starEach [] X.env := by rfl) (hpl : (backTo pos (starEach [] X.env)).any (·.1) = false := by rfl) : Ev X (.Call (.Name "len" p0) [e] [] pos) σ s (xs.l.length : Int) :=
  ev_B1 call_len_seq hg hm boot_len ha (fun v s2 r2 Q q => by
    obtain ⟨p, vs, rfl, h1, h2⟩ := r2
    exact ⟨p, vs, rfl, .inr (sqt_mono s2.sub h1), q _ s2 (Ex.refl _) (by rw [h2.len]; rfl)⟩) (he := he) (hpl := hpl)
theorem ev_lenS {x : Str} (hm : X.mg "len" = none) (hz : x.length ≤ sizeLine) (ha : Ev X e σ s x) (hg : Gl X "len" := by rfl) (he : starEach [e] X.env = (false, eval e X.env) :: starEach [] X.env := by rfl) (hpl : (backTo pos (starEach [] X.env)).any (·.1) = false := by rfl) : Ev X (.Call (.Name "len" p0) [e] [] pos) σ s (x.length : Int) :=
  ev_B1 call_len_str hg hm boot_len ha (fun v s2 r2 Q q => ⟨x, by rw [show v = V.str x from r2], hz, q _ s2 (Ex.refl _) rfl⟩) (he := he) (hpl := hpl)
theorem ev_sum {xs : List Int} (hm : X.mg "sum" = none) (ha : EvR X e σ s xs) (hc : X.calm = true := by rfl) (hg : Gl X "sum" := by rfl) (he : starEach [e] X.env = (false, eval e X.env) :: starEach [] X.env := by rfl) (hpl : (backTo pos (starEach [] X.env)).any (·.1) = false := by rfl) : Ev X (.Call (.Name "sum" p0) [e] [] pos) σ s xs.sum :=
  ev_BR (cr_sum hc) hg hm (by decide +kernel) ha (fun v s2 r2 Q q => by
    obtain ⟨p, vs, rfl, h1, h2⟩ := r2
    rw [h2.flat] at h1
    exact ⟨p, xs, rfl, h1, q _ s2 (Ex.refl _) rfl⟩) (he := he) (hpl := hpl)
theorem ev_all {xs : List Bool} (hm : X.mg "all" = none) (ha : EvR X e σ s xs) (hc : X.calm = true := by rfl) (hg : Gl X "all" := by rfl) (he : starEach [e] X.env = (false, eval e X.env) :: starEach [] X.env := by rfl) (hpl : (backTo pos (starEach [] X.env)).any (·.1) = false := by rfl) : Ev X (.Call (.Name "all" p0) [e] [] pos) σ s (xs.all id) :=
  ev_BR (cr_all hc) hg hm (by decide +kernel) ha (fun v s2 r2 Q q => by
    obtain ⟨p, vs, rfl, h1, h2⟩ := r2
    rw [h2.flat] at h1
    exact ⟨p, xs, rfl, h1, q _ s2 (Ex.refl _) rfl⟩) (he := he) (hpl := hpl)
theorem ev_any {xs : List Bool} (hm : X.mg "any" = none) (ha : EvR X e σ s xs) (hc : X.calm = true := by rfl) (hg : Gl X "any" := by rfl) (he : starEach [e] X.env = (false, eval e X.env) :: starEach [] X.env := by rfl) (hpl : (backTo pos (starEach [] X.env)).any (·.1) = false := by rfl) : Ev X (.Call (.Name "any" p0) [e] [] pos) σ s (xs.any id) :=
  ev_BR (cr_any hc) hg hm (by decide +kernel) ha (fun v s2 r2 Q q => by
    obtain ⟨p, vs, rfl, h1, h2⟩ := r2
    rw [h2.flat] at h1
    exact ⟨p, xs, rfl, h1, q _ s2 (Ex.refl _) rfl⟩) (he := he) (hpl := hpl)
def minL : List Int → Option Int
  | [] => none
  | x :: xs => some (xs.foldl min x)
def maxL : List Int → Option Int
  | [] => none
  | x :: xs => some (xs.foldl max x)
theorem foldl_min (xs : List Int) : ∀ x : Int, (xs.foldl min x ∈ x :: xs) ∧ ∀ y ∈ x :: xs, xs.foldl min x ≤ y := by
  induction xs with
  | nil => intro x; exact ⟨by simp, fun y hy => by simp at hy; simp [hy]⟩
  | cons a r ih =>
    intro x
    obtain ⟨h1, h2⟩ := ih (min x a)
    refine ⟨?_, fun y hy => ?_⟩
    · rw [List.foldl_cons]
      rcases List.mem_cons.mp h1 with h | h
      · rw [h]
        by_cases hx : x ≤ a
        · rw [Int.min_eq_left hx]; exact List.mem_cons_self
        · rw [Int.min_eq_right (by omega)]; exact List.mem_cons_of_mem _ List.mem_cons_self
      · exact List.mem_cons_of_mem _ (List.mem_cons_of_mem _ h)
    · rw [List.foldl_cons]
      have h3 := h2 (min x a) List.mem_cons_self
      rcases List.mem_cons.mp hy with rfl | hy
      · exact Int.le_trans h3 (Int.min_le_left _ _)
      · rcases List.mem_cons.mp hy with rfl | hy
        · exact Int.le_trans h3 (Int.min_le_right _ _)
        · exact h2 y (List.mem_cons_of_mem _ hy)
theorem foldl_max (xs : List Int) : ∀ x : Int, (xs.foldl max x ∈ x :: xs) ∧ ∀ y ∈ x :: xs, y ≤ xs.foldl max x := by
  induction xs with
  | nil => intro x; exact ⟨by simp, fun y hy => by simp at hy; simp [hy]⟩
  | cons a r ih =>
    intro x
    obtain ⟨h1, h2⟩ := ih (max x a)
    refine ⟨?_, fun y hy => ?_⟩
    · rw [List.foldl_cons]
      rcases List.mem_cons.mp h1 with h | h
      · rw [h]
        by_cases hx : a ≤ x
        · rw [Int.max_eq_left hx]; exact List.mem_cons_self
        · rw [Int.max_eq_right (by omega)]; exact List.mem_cons_of_mem _ List.mem_cons_self
      · exact List.mem_cons_of_mem _ (List.mem_cons_of_mem _ h)
    · rw [List.foldl_cons]
      have h3 := h2 (max x a) List.mem_cons_self
      rcases List.mem_cons.mp hy with rfl | hy
      · exact Int.le_trans (Int.le_max_left _ _) h3
      · rcases List.mem_cons.mp hy with rfl | hy
        · exact Int.le_trans (Int.le_max_right _ _) h3
        · exact h2 y (List.mem_cons_of_mem _ hy)
theorem minL_of {xs : List Int} {m : Int} (h1 : m ∈ xs) (h2 : ∀ y ∈ xs, m ≤ y) : minL xs = some m := by
  cases xs with
  | nil => simp at h1
  | cons x r =>
    obtain ⟨h3, h4⟩ := foldl_min r x
    exact congrArg some (Int.le_antisymm (h4 m h1) (h2 _ h3))
theorem maxL_of {xs : List Int} {m : Int} (h1 : m ∈ xs) (h2 : ∀ y ∈ xs, y ≤ m) : maxL xs = some m := by
  cases xs with
  | nil => simp at h1
  | cons x r =>
    obtain ⟨h3, h4⟩ := foldl_max r x
    exact congrArg some (Int.le_antisymm (h2 _ h3) (h4 m h1))
theorem ev_min {xs : List Int} {m : Int} (hm : X.mg "min" = none) (ha : EvR X e σ s xs) (h : minL xs = some m) (hc : X.calm = true := by rfl) (hg : Gl X "min" := by rfl) (he : starEach [e] X.env = (false, eval e X.env) :: starEach [] X.env := by rfl) (hpl : (backTo pos (starEach [] X.env)).any (·.1) = false := by rfl) : Ev X (.Call (.Name "min" p0) [e] [] pos) σ s m :=
  ev_BR (cr_min hc) hg hm (by decide +kernel) ha (fun v s2 r2 Q q => by
    obtain ⟨p, vs, rfl, h1, h2⟩ := r2
    rw [h2.flat] at h1
    refine ⟨p, xs, rfl, h1, ?_, fun z hz1 hz2 => ?_⟩
    · cases xs with
      | nil => cases h
      | cons _ _ => exact Nat.succ_pos _
    · rw [minL_of hz1 hz2] at h
      cases h
      exact q _ s2 (Ex.refl _) rfl) (he := he) (hpl := hpl)
theorem ev_max {xs : List Int} {m : Int} (hm : X.mg "max" = none) (ha : EvR X e σ s xs) (h : maxL xs = some m) (hc : X.calm = true := by rfl) (hg : Gl X "max" := by rfl) (he : starEach [e] X.env = (false, eval e X.env) :: starEach [] X.env := by rfl) (hpl : (backTo pos (starEach [] X.env)).any (·.1) = false := by rfl) : Ev X (.Call (.Name "max" p0) [e] [] pos) σ s m :=
  ev_BR (cr_max hc) hg hm (by decide +kernel) ha (fun v s2 r2 Q q => by
    obtain ⟨p, vs, rfl, h1, h2⟩ := r2
    rw [h2.flat] at h1
    refine ⟨p, xs, rfl, h1, ?_, fun z hz1 hz2 => ?_⟩
    · cases xs with
      | nil => cases h
      | cons _ _ => exact Nat.succ_pos _
    · rw [maxL_of hz1 hz2] at h
      cases h
      exact q _ s2 (Ex.refl _) rfl) (he := he) (hpl := hpl)
theorem ev_min2 {x y : Int} (hm : X.mg "min" = none) (ha : Ev X a σ s x) (hb : Ev X b σ s y) (hc : X.calm = true := by rfl) (hg : Gl X "min" := by rfl) (he : starEach [a, b] X.env = (false, eval a X.env) :: starEach [b] X.env := by rfl) (he2 : starEach [b] X.env = (false, eval b X.env) :: starEach [] X.env := by rfl) (hpl : (backTo pos (starEach [b] X.env)).any (·.1) = false := by rfl) : Ev X (.Call (.Name "min" p0) [a, b] [] pos) σ s (min x y) := fun s1 k Q q =>
  we_of (pe_callB (call_min2 hc) hg hm (by decide +kernel) (pa_cons pe_we (pa_cons pe_we pa_nil he2) he) (he := he) (hpl := hpl)) (ha s1 k _ fun v s2 k2 r2 => hb s2 (k.trans k2) _ fun u s3 k3 r3 =>
    ⟨x, y, by rw [show v = V.int x from r2, show u = V.int y from r3], q _ s3 (k2.trans k3) (by
      show V.int _ = V.int _
      by_cases h : y < x
      · rw [if_pos h, Int.min_eq_right (by omega)]
      · rw [if_neg h, Int.min_eq_left (by omega)])⟩)
theorem ev_max2 {x y : Int} (hm : X.mg "max" = none) (ha : Ev X a σ s x) (hb : Ev X b σ s y) (hc : X.calm = true := by rfl) (hg : Gl X "max" := by rfl) (he : starEach [a, b] X.env = (false, eval a X.env) :: starEach [b] X.env := by rfl) (he2 : starEach [b] X.env = (false, eval b X.env) :: starEach [] X.env := by rfl) (hpl : (backTo pos (starEach [b] X.env)).any (·.1) = false := by rfl) : Ev X (.Call (.Name "max" p0) [a, b] [] pos) σ s (max x y) := fun s1 k Q q =>
  we_of (pe_callB (call_max2 hc) hg hm (by decide +kernel) (pa_cons pe_we (pa_cons pe_we pa_nil he2) he) (he := he) (hpl := hpl)) (ha s1 k _ fun v s2 k2 r2 => hb s2 (k.trans k2) _ fun u s3 k3 r3 =>
    ⟨x, y, by rw [show v = V.int x from r2, show u = V.int y from r3], q _ s3 (k2.trans k3) (by
      show V.int _ = V.int _
      by_cases h : y > x
      · rw [if_pos h, Int.max_eq_right (by omega)]
      · rw [if_neg h, Int.max_eq_left (by omega)])⟩)
theorem ev_T1 {T : String} {n : Str} {r : List V → Hp → VK → Prop} {x : β} {y : α} (hc : CallR X (.type T) r) (hg : Gl X n) (hm : X.mg n = none) (hv : bootBuiltins n = some (.type T)) (ha : Ev X e σ s x)
    (hr : ∀ (v : V) (s2 : S), rep X.K s2.F v x → ∀ Q : VK, (∀ w s3, Ex s2 s3 → rep X.K s3.F w y → Q w s3.H) → r [v] s2.H Q) (hn : n ≠ "__name__" := by decide) (hdb : (n == ("__debug__" : Str)) = false := by decide)
    (he : starEach [e] X.env = (false, eval e X.env) :: starEach [] X.env := by rfl) (hpl : (backTo pos (starEach [] X.env)).any (·.1) = false := by rfl) : Ev X (.Call (.Name n p0) [e] [] pos) σ s y := fun s1 k Q q =>
  we_of (pe_callTy hc hg hm hv (pa_cons pe_we pa_nil he) hn hdb he hpl) (ha s1 k _ fun v s2 k2 r2 => hr v s2 r2 Q fun w s3 k3 r3 => q w s3 (k2.trans k3) r3)
theorem ev_intB {x : Bool} (hm : X.mg "int" = none) (ha : Ev X e σ s x) (hg : Gl X "int" := by rfl) (he : starEach [e] X.env = (false, eval e X.env) :: starEach [] X.env := by rfl) (hpl : (backTo pos (starEach [] X.env)).any (·.1) = false := by rfl) : Ev X (.Call (.Name "int" p0) [e] [] pos) σ s (if x = true then (1 : Int) else 0) :=
  ev_T1 call_int1 hg hm (by decide +kernel) ha (fun v s2 r2 Q q => .inr ⟨x, by rw [show v = V.bl x from r2], q _ s2 (Ex.refl _) rfl⟩) (he := he) (hpl := hpl)
theorem ev_intS {x : Str} {n : Int} (hm : X.mg "int" = none) (ha : Ev X e σ s x) (h : PySem.intText? x = some n) (hl : x.length ≤ 640) (hg : Gl X "int" := by rfl) (he : starEach [e] X.env = (false, eval e X.env) :: starEach [] X.env := by rfl) (hpl : (backTo pos (starEach [] X.env)).any (·.1) = false := by rfl) : Ev X (.Call (.Name "int" p0) [e] [] pos) σ s n :=
  ev_T1 call_int_str hg hm (by decide +kernel) ha (fun v s2 r2 Q q => ⟨x, n, by rw [show v = V.str x from r2], h, hl, q _ s2 (Ex.refl _) rfl⟩) (he := he) (hpl := hpl)
theorem ev_strI {x : Int} (hm : X.mg "str" = none) (h : x.natAbs.log2 < 1920) (ha : Ev X e σ s x) (hg : Gl X "str" := by rfl) (he : starEach [e] X.env = (false, eval e X.env) :: starEach [] X.env := by rfl) (hpl : (backTo pos (starEach [] X.env)).any (·.1) = false := by rfl) : Ev X (.Call (.Name "str" p0) [e] [] pos) σ s (toString x : Str) :=
  ev_T1 call_str_int hg hm (by decide +kernel) ha (fun v s2 r2 Q q => ⟨x, by rw [show v = V.int x from r2], h, q _ s2 (Ex.refl _) rfl⟩) (he := he) (hpl := hpl)
end
end Dy

namespace Dy
open PySem PySem.Spec L2
open PyProof.Rows hiding St
open Enc (rep)
open Flat (toV)
open EncA (repA)

section
variable {α β γ δ ζ : Type} [Enc α] [Enc β] [Enc γ] [Enc δ] [Enc ζ] {X : Cx} {σ : St} {s t : S} {e a b c : Expr} {es : List Expr} {pos p0 p1 p2 p3 : Pos}

def EvE (X : Cx) (es : List Expr) (σ : St) (s : S) (xs : List α) : Prop := ∀ s1, Ex s s1 → ∀ Q : List V → Hp → Prop, (∀ vs s2, Ex s1 s2 → Reps X.K s2.F vs xs → Q vs s2.H) → WA X es σ s1.H Q
theorem ee_nil : EvE X [] σ s ([] : List α) := fun s1 k Q q => wa_of pa_nil (q [] s1 (Ex.refl _) trivial)
theorem ee_cons {x : α} {xs : List α} (h : Ev X e σ s x) (hr : EvE X es σ s xs) (hs : starEach (e :: es) X.env = (false, eval e X.env) :: starEach es X.env := by rfl) : EvE X (e :: es) σ s (x :: xs) := fun s1 k Q q =>
  wa_of (pa_cons pe_we pa_wa hs) (h s1 k _ fun v s2 k2 r2 => hr s2 (k.trans k2) _ fun vs s3 k3 r3 => q _ s3 (k2.trans k3) ⟨Enc.mono k3.f r2, r3⟩)
theorem own_new {K : PySem.W.Frag} {p : Addr} {vs : List V} {xs : List α} (h : s.H p = none) (r : Reps K s.F vs xs) : Own K (s.newO p (.lst vs) h) p xs := ⟨(fF h : s.F p = none), vs, upd_same, r⟩
theorem en_list {xs : List α} (h : EvE X es σ s xs) (hz : xs.length ≤ sizeLine := by decide) : EvN X (.List es pos) σ s xs := fun s1 k Q q =>
  we_of (pe_lst pa_wa) (h s1 k _ fun vs s2 k2 r2 => ⟨by rw [r2.len]; exact hz, fun p hp => q p (s2.newO p (.lst vs) hp) (k2.trans (Ex.newO hp)) (fr_back k2 hp) (own_new hp r2)⟩)
theorem tup_new {K : PySem.W.Frag} {p : Addr} {vs : List V} (h : s.H p = none) : SqT K (s.newF p (.tup vs) h).F p vs := .inl (.inl upd_same)
theorem ev_tu {xs : List α} (h : EvE X es σ s xs) (hz : xs.length ≤ sizeLine := by decide) {n} : Ev X (.Tuple es n pos) σ s (⟨xs⟩ : Tu α) := fun s1 k Q q =>
  we_of (pe_tup pa_wa) (h s1 k _ fun vs s2 k2 r2 => ⟨by rw [r2.len]; exact hz, fun p hp => q _ (s2.newF p (.tup vs) hp) (k2.trans (Ex.newF hp)) ⟨p, vs, rfl, tup_new hp, r2.mono (Ex.newF hp).f⟩⟩)
theorem ev_t1 {x : α} {n} (h : EvA X es σ s (x, ())) : Ev X (.Tuple es n pos) σ s (⟨x⟩ : T1 α) := fun s1 k Q q =>
  we_of (pe_tup pa_wa) (h s1 k _ fun vs s2 k2 r2 => by
    obtain ⟨v1, _, rfl, r1, rfl⟩ := r2
    refine ⟨show _ ≤ 2 ^ 24 by simp, fun p hp => q _ (s2.newF p _ hp) (k2.trans (Ex.newF hp)) ⟨p, v1, rfl, tup_new hp, Enc.mono (Ex.newF hp).f r1⟩⟩)
theorem ev_t2 {x : α} {y : β} {n} (h : EvA X es σ s (x, y, ())) : Ev X (.Tuple es n pos) σ s (x, y) := fun s1 k Q q =>
  we_of (pe_tup pa_wa) (h s1 k _ fun vs s2 k2 r2 => by
    obtain ⟨v1, _, rfl, r1, v2, _, rfl, r2, rfl⟩ := r2
    refine ⟨show _ ≤ 2 ^ 24 by simp, fun p hp => q _ (s2.newF p _ hp) (k2.trans (Ex.newF hp)) ⟨p, v1, v2, rfl, tup_new hp, Enc.mono (Ex.newF hp).f r1, Enc.mono (Ex.newF hp).f r2⟩⟩)
theorem ev_t3 {x : α} {y : β} {z : γ} {n} (h : EvA X es σ s (x, y, z, ())) : Ev X (.Tuple es n pos) σ s (⟨x, y, z⟩ : T3 α β γ) := fun s1 k Q q =>
  we_of (pe_tup pa_wa) (h s1 k _ fun vs s2 k2 r2 => by
    obtain ⟨v1, _, rfl, r1, v2, _, rfl, r2, v3, _, rfl, r3, rfl⟩ := r2
    refine ⟨show _ ≤ 2 ^ 24 by simp, fun p hp => q _ (s2.newF p _ hp) (k2.trans (Ex.newF hp)) ⟨p, v1, v2, v3, rfl, tup_new hp, Enc.mono (Ex.newF hp).f r1, Enc.mono (Ex.newF hp).f r2, Enc.mono (Ex.newF hp).f r3⟩⟩)
theorem ev_t4 {x : α} {y : β} {z : γ} {u : δ} {n} (h : EvA X es σ s (x, y, z, u, ())) : Ev X (.Tuple es n pos) σ s (⟨x, y, z, u⟩ : T4 α β γ δ) := fun s1 k Q q =>
  we_of (pe_tup pa_wa) (h s1 k _ fun vs s2 k2 r2 => by
    obtain ⟨v1, _, rfl, r1, v2, _, rfl, r2, v3, _, rfl, r3, v4, _, rfl, r4, rfl⟩ := r2
    refine ⟨show _ ≤ 2 ^ 24 by simp, fun p hp => q _ (s2.newF p _ hp) (k2.trans (Ex.newF hp)) ⟨p, v1, v2, v3, v4, rfl, tup_new hp, Enc.mono (Ex.newF hp).f r1, Enc.mono (Ex.newF hp).f r2, Enc.mono (Ex.newF hp).f r3, Enc.mono (Ex.newF hp).f r4⟩⟩)
theorem ev_t5 {x : α} {y : β} {z : γ} {u : δ} {w : ζ} {n} (h : EvA X es σ s (x, y, z, u, w, ())) : Ev X (.Tuple es n pos) σ s (⟨x, y, z, u, w⟩ : T5 α β γ δ ζ) := fun s1 k Q q =>
  we_of (pe_tup pa_wa) (h s1 k _ fun vs s2 k2 r2 => by
    obtain ⟨v1, _, rfl, r1, v2, _, rfl, r2, v3, _, rfl, r3, v4, _, rfl, r4, v5, _, rfl, r5, rfl⟩ := r2
    refine ⟨show _ ≤ 2 ^ 24 by simp, fun p hp => q _ (s2.newF p _ hp) (k2.trans (Ex.newF hp)) ⟨p, v1, v2, v3, v4, v5, rfl, tup_new hp, Enc.mono (Ex.newF hp).f r1, Enc.mono (Ex.newF hp).f r2, Enc.mono (Ex.newF hp).f r3, Enc.mono (Ex.newF hp).f r4, Enc.mono (Ex.newF hp).f r5⟩⟩)

theorem en_T1 {n : Str} {T : String} {r : List V → Hp → VK → Prop} {xs : List β} {ys : List α} (hc : CallR X (.type T) r) (hg : Gl X n) (hm : X.mg n = none) (hv : bootBuiltins n = some (.type T)) (ha : EvR X e σ s xs)
    (hr : ∀ (v : V) (s2 : S), RepR X.K s2 v xs → ∀ Q : VK, (∀ p s3, Ex s2 s3 → s2.H p = none → Own X.K s3 p ys → Q (.ref p) s3.H) → r [v] s2.H Q) (hn : n ≠ "__name__" := by decide) (hdb : (n == ("__debug__" : Str)) = false := by decide)
    (he : starEach [e] X.env = (false, eval e X.env) :: starEach [] X.env := by rfl) (hpl : (backTo pos (starEach [] X.env)).any (·.1) = false := by rfl) : EvN X (.Call (.Name n p0) [e] [] pos) σ s ys := fun s1 k Q q =>
  we_of (pe_callTy hc hg hm hv (pa_cons pe_we pa_nil he) hn hdb he hpl) (ha s1 k _ fun v s2 k2 r2 => hr v s2 r2 Q fun w s3 k3 n3 r3 => q w s3 (k2.trans k3) (fr_back k2 n3) r3)
theorem en_copy {xs : List α} (hm : X.mg "list" = none) (ha : EvR X e σ s xs) (hg : Gl X "list" := by rfl) (he : starEach [e] X.env = (false, eval e X.env) :: starEach [] X.env := by rfl) (hpl : (backTo pos (starEach [] X.env)).any (·.1) = false := by rfl) : EvN X (.Call (.Name "list" p0) [e] [] pos) σ s xs :=
  en_T1 call_list_of hg hm (by decide +kernel) ha (fun v s2 r2 Q q => by
    obtain ⟨p, vs, rfl, h1, h2⟩ := r2
    exact ⟨p, vs, rfl, .inl h1, fun l hl => q l (s2.newO l _ hl) (Ex.newO hl) hl (own_new hl h2)⟩) (he := he) (hpl := hpl)
theorem en_copyT {xs : Tu α} (hm : X.mg "list" = none) (ha : Ev X e σ s xs) (hg : Gl X "list" := by rfl) (he : starEach [e] X.env = (false, eval e X.env) :: starEach [] X.env := by rfl) (hpl : (backTo pos (starEach [] X.env)).any (·.1) = false := by rfl) : EvN X (.Call (.Name "list" p0) [e] [] pos) σ s xs.l := fun s1 k Q q =>
  we_of (pe_callTy call_list_of hg hm (by decide +kernel) (pa_cons pe_we pa_nil he) (he := he) (hpl := hpl)) (ha s1 k _ fun v s2 k2 r2 => by
    obtain ⟨p, vs, rfl, h1, h2⟩ := r2
    exact ⟨p, vs, rfl, .inr (sqt_mono s2.sub h1), fun l hl => q l (s2.newO l _ hl) (k2.trans (Ex.newO hl)) (fr_back k2 hl) (own_new hl h2)⟩)
theorem ev_tuple {xs : List α} (hm : X.mg "tuple" = none) (ha : EvR X e σ s xs) (hg : Gl X "tuple" := by rfl) (he : starEach [e] X.env = (false, eval e X.env) :: starEach [] X.env := by rfl) (hpl : (backTo pos (starEach [] X.env)).any (·.1) = false := by rfl) : Ev X (.Call (.Name "tuple" p0) [e] [] pos) σ s (⟨xs⟩ : Tu α) := fun s1 k Q q =>
  we_of (pe_callTy call_tuple_of hg hm (by decide +kernel) (pa_cons pe_we pa_nil he) (he := he) (hpl := hpl)) (ha s1 k _ fun v s2 k2 r2 => by
    obtain ⟨p, vs, rfl, h1, h2⟩ := r2
    exact ⟨p, vs, rfl, .inl ⟨h1, fun l hl => q _ (s2.newF l _ hl) (k2.trans (Ex.newF hl)) ⟨l, vs, rfl, tup_new hl, h2.mono (Ex.newF hl).f⟩⟩⟩)
theorem ev_tupleT {xs : Tu α} (hm : X.mg "tuple" = none) (ha : Ev X e σ s xs) (hg : Gl X "tuple" := by rfl) (he : starEach [e] X.env = (false, eval e X.env) :: starEach [] X.env := by rfl) (hpl : (backTo pos (starEach [] X.env)).any (·.1) = false := by rfl) : Ev X (.Call (.Name "tuple" p0) [e] [] pos) σ s xs := fun s1 k Q q =>
  we_of (pe_callTy call_tuple_of hg hm (by decide +kernel) (pa_cons pe_we pa_nil he) (he := he) (hpl := hpl)) (ha s1 k _ fun v s2 k2 r2 => by
    obtain ⟨p, vs, rfl, h1, h2⟩ := r2
    exact ⟨p, vs, rfl, .inr ⟨sqt_mono s2.sub h1, q _ s2 k2 ⟨p, vs, rfl, h1, h2⟩⟩⟩)
def rng (a b : Int) : List Int := (List.range (b - a).toNat).map fun i : Nat => a + (i : Int)
theorem rgV_rng (a b : Int) : rgV a b = (rng a b).map V.int := by
  unfold rgV rng
  rw [List.map_map]; rfl
theorem en_listRg1 {n : Int} (hm : X.mg "list" = none) (hr : X.mg "range" = none) (ha : Ev X e σ s n) (hz : RgOk 0 n) (hc : X.calm = true := by rfl) (hg : Gl X "list" := by rfl) (hgr : Gl X "range" := by rfl)
    (he : starEach [e] X.env = (false, eval e X.env) :: starEach [] X.env := by rfl) (he2 : starEach [.Call (.Name "range" p1) [e] [] p2] X.env = (false, eval (.Call (.Name "range" p1) [e] [] p2) X.env) :: starEach [] X.env := by rfl) :
    EvN X (.Call (.Name "list" p0) [.Call (.Name "range" p1) [e] [] p2] [] pos) σ s (rng 0 n) := fun s1 k Q q =>
  we_of (pe_listRg hc hg hm (prg_1 hgr hr pe_we he) he2) (ha s1 k _ fun v s2 k2 r2 => ⟨n, r2, hz, fun l hl => q l (s2.newO l _ hl) (k2.trans (Ex.newO hl)) (fr_back k2 hl) (own_new hl (by rw [rgV_rng]; exact Reps.of_flat _))⟩)
theorem en_listRg2 {m n : Int} (hm : X.mg "list" = none) (hr : X.mg "range" = none) (ha : Ev X a σ s m) (hb : Ev X b σ s n) (hz : RgOk m n) (hc : X.calm = true := by rfl) (hg : Gl X "list" := by rfl) (hgr : Gl X "range" := by rfl)
    (he : starEach [a, b] X.env = (false, eval a X.env) :: starEach [b] X.env := by rfl) (heb : starEach [b] X.env = (false, eval b X.env) :: starEach [] X.env := by rfl) (hpl : (backTo p2 (starEach [b] X.env)).any (·.1) = false := by rfl)
    (he2 : starEach [.Call (.Name "range" p1) [a, b] [] p2] X.env = (false, eval (.Call (.Name "range" p1) [a, b] [] p2) X.env) :: starEach [] X.env := by rfl) :
    EvN X (.Call (.Name "list" p0) [.Call (.Name "range" p1) [a, b] [] p2] [] pos) σ s (rng m n) := fun s1 k Q q =>
  we_of (pe_listRg hc hg hm (prg_2 hgr hr pe_we pe_we he heb hpl) he2) (ha s1 k _ fun v s2 k2 r2 => hb s2 (k.trans k2) _ fun u s3 k3 r3 => ⟨m, n, r2, r3, hz, fun l hl => q l (s3.newO l _ hl) ((k2.trans k3).trans (Ex.newO hl)) (fr_back (k2.trans k3) hl) (own_new hl (by rw [rgV_rng]; exact Reps.of_flat _))⟩)
def cut {τ : Type} (xs : List τ) (lo hi : Option Int) : List τ := (xs.drop (HT.sIx xs.length 0 lo)).take (HT.sIx xs.length xs.length hi - HT.sIx xs.length 0 lo)
theorem Reps.cut {K : PySem.W.Frag} {F : Hp} {vs : List V} {xs : List α} (r : Reps K F vs xs) (lo hi : Option Int) : Reps K F (cutV vs lo hi) (Dy.cut xs lo hi) := by
  unfold cutV Dy.cut
  rw [r.len]
  exact (r.drop _).take _
def EvO (X : Cx) (o : Option Expr) (σ : St) (s : S) (x : Option Int) : Prop := match o, x with
  | none, none => True
  | some e, some i => Ev X e σ s i
  | _, _ => False
theorem po_evo {o : Option Expr} {x : Option Int} (h : EvO X o σ s x) : ∃ t, PO X o t ∧ ∀ s1, Ex s s1 → ∀ Q : Option Int → Hp → Prop, (∀ s2, Ex s1 s2 → Q x s2.H) → t σ s1.H Q := by
  cases o with
  | none =>
    cases x with
    | none => exact ⟨_, po_none, fun s1 k Q q => q s1 (Ex.refl _)⟩
    | some i => exact h.elim
  | some e =>
    cases x with
    | none => exact h.elim
    | some i => exact ⟨_, po_some pe_we, fun s1 k Q q => (show Ev X e σ s i from h) s1 k _ fun v s2 k2 r2 => ⟨i, r2, q s2 k2⟩⟩
theorem eo_none : EvO X none σ s none := trivial
theorem eo_some {i : Int} (h : Ev X e σ s i) : EvO X (some e) σ s (some i) := h
theorem en_slice {xs : List α} {lo hi : Option Expr} {l h : Option Int} (ha : EvR X a σ s xs) (hl : EvO X lo σ s l) (hh : EvO X hi σ s h) : EvN X (.Subscript a (.Slice lo hi none p2) pos) σ s (cut xs l h) := fun s1 k Q q => by
  obtain ⟨tl, pl, ql⟩ := po_evo hl
  obtain ⟨th, ph, qh⟩ := po_evo hh
  refine we_of (pe_slice sl_list pe_we pl ph) (ha s1 k _ fun v s2 k2 r2 => ql s2 (k.trans k2) _ fun s3 k3 => qh s3 ((k.trans k2).trans k3) _ fun s4 k4 => ?_)
  obtain ⟨p, vs, rfl, h1, h2⟩ := (r2.ex k3).ex k4
  exact ⟨p, vs, rfl, h1, fun l hl => q l (s4.newO l _ hl) (((k2.trans k3).trans k4).trans (Ex.newO hl)) (fr_back ((k2.trans k3).trans k4) hl) (own_new hl (h2.cut _ _))⟩
theorem ev_sliceS {x : Str} {lo hi : Option Expr} {l h : Option Int} (hz : x.length ≤ sizeLine) (ha : Ev X a σ s x) (hl : EvO X lo σ s l) (hh : EvO X hi σ s h) : Ev X (.Subscript a (.Slice lo hi none p2) pos) σ s (cutS x l h) := fun s1 k Q q => by
  obtain ⟨tl, pl, ql⟩ := po_evo hl
  obtain ⟨th, ph, qh⟩ := po_evo hh
  exact we_of (pe_slice sl_str pe_we pl ph) (ha s1 k _ fun v s2 k2 r2 => ql s2 (k.trans k2) _ fun s3 k3 => qh s3 ((k.trans k2).trans k3) _ fun s4 k4 => ⟨x, r2, hz, q _ s4 ((k2.trans k3).trans k4) rfl⟩)
theorem op_catS : OpR X (binaryOp .Add) (fun x y H Q => ∃ l b xs zs, x = .ref l ∧ y = .ref b ∧ SqL X.K H l xs ∧ SqL X.K H b zs ∧ xs.length + zs.length ≤ sizeLine ∧ ∀ p, H p = none → Q (.ref p) (upd H p (.lst (xs ++ zs)))) := by
  intro pins s σ H x y v u Q I rx ry h
  obtain ⟨l, b, xs, zs, rfl, rfl, hH, hB, hz, q⟩ := h
  cases rx
  cases ry
  obtain ⟨its, r, ⟨⟨cls, dd, data, sl⟩, n, ho, hc, hd0, hd⟩, z1⟩ := I.list hH
  obtain ⟨its2, r2, ⟨⟨cls2, dd2, data2, sl2⟩, n2, ho2, hc2, hd02, hd2⟩, z2⟩ := I.list hB
  simp only at hc hd hc2 hd2 hd0 hd02
  subst hc hd hc2 hd2 hd0 hd02
  have e : its.toArray ++ its2.toArray = (its ++ its2).toArray := by simp
  have h1 := r.length
  have h2 := r2.length
  refine concat_meets ⟨_, ho, rfl⟩ ⟨_, ho2, rfl⟩ noFill_list_add seq_list_add PySem.F.slot_list_add PySem.F.entry_list_add (PySem.F.args_list_add_2 _ _) (list_addW l b its.toArray its2.toArray n n2 none none sl sl2 (by rw [List.size_toArray, List.size_toArray]; omega)) ⟨ho, ho2, ?_⟩
  rw [e]
  exact ⟨.ref _, _, I.lnew (t' := s.toks) (r.append r2) (by rw [List.length_append]; omega), rfl, q _ I.fresh⟩
theorem en_cat {xs ys : List α} (ha : EvR X a σ s xs) (hb : EvR X b σ s ys) (hz : xs.length + ys.length ≤ sizeLine) : EvN X (.BinOp a .Add b pos) σ s (xs ++ ys) := fun s1 k Q q =>
  we_of (pe_op op_catS pe_we pe_we) (ha s1 k _ fun v s2 k2 r2 => hb s2 (k.trans k2) _ fun u s3 k3 r3 => by
    obtain ⟨p, vs, rfl, h1, h2⟩ := r2.ex k3
    obtain ⟨p', ws, rfl, h3, h4⟩ := r3
    exact ⟨p, p', vs, ws, rfl, rfl, h1, h3, by rw [h2.len, h4.len]; exact hz, fun l hl => q l (s3.newO l _ hl) ((k2.trans k3).trans (Ex.newO hl)) (fr_back (k2.trans k3) hl) (own_new hl (h2.app h4))⟩)
def repl {τ : Type} (n : Int) (xs : List τ) : List τ := (List.replicate n.toNat xs).flatten
theorem Reps.repF {K : PySem.W.Frag} {F : Hp} {vs : List V} {xs : List α} (r : Reps K F vs xs) (n : Nat) : Reps K F (List.replicate n vs).flatten (List.replicate n xs).flatten := by
  induction n with
  | zero => exact trivial
  | succ n ih => rw [List.replicate_succ, List.replicate_succ, List.flatten_cons, List.flatten_cons]; exact r.app ih
def RepOk (n : Int) (l : Nat) : Prop := -(2 ^ 63) ≤ n ∧ n < 2 ^ 63 ∧ l * n.toNat ≤ sizeLine
theorem en_rep {xs : List α} {n : Int} (ha : EvN X a σ s xs) (hb : ∀ t, Ex s t → Ev X b σ t n) (hz : RepOk n xs.length) : EvN X (.BinOp a .Mult b pos) σ s (repl n xs) := fun s1 k Q q =>
  we_of (pe_op op_rep pe_we pe_we) (ha s1 k _ fun p s2 k2 n2 o2 => hb s2 (k.trans k2) s2 (Ex.refl _) _ fun u s3 k3 r3 => by
    obtain ⟨_, vs, h1, h2⟩ := o2.ex k3
    exact ⟨p, n, vs, rfl, r3, h1, hz.1, hz.2.1, by rw [h2.len]; exact hz.2.2, fun l hl => q l (s3.newO l _ hl) ((k2.trans k3).trans (Ex.newO hl)) (fr_back (k2.trans k3) hl) (own_new hl (h2.repF _))⟩)
theorem en_sorted {xs : List Int} (hm : X.mg "sorted" = none) (ha : EvR X e σ s xs) (hg : Gl X "sorted" := by rfl) (he : starEach [e] X.env = (false, eval e X.env) :: starEach [] X.env := by rfl) (hpl : (backTo pos (starEach [] X.env)).any (·.1) = false := by rfl) :
    EvN X (.Call (.Name "sorted" p0) [e] [] pos) σ s (xs.mergeSort (fun x y => decide (x ≤ y))) := fun s1 k Q q =>
  we_of (pe_callB cr_sortedI hg hm (by decide +kernel) (pa_cons pe_we pa_nil he) (he := he) (hpl := hpl)) (ha s1 k _ fun v s2 k2 r2 => by
    obtain ⟨p, vs, rfl, h1, h2⟩ := r2
    rw [h2.flat] at h1
    refine ⟨p, xs, rfl, h1, fun ys l hp hs hl => ?_⟩
    have e1 : ys = xs.mergeSort (fun x y => decide (x ≤ y)) := by
      refine List.Perm.eq_of_pairwise (le := fun x y : Int => x ≤ y) (fun a b _ _ h h' => Int.le_antisymm h h') hs ?_ (hp.trans (List.mergeSort_perm _ _).symm)
      have := List.pairwise_mergeSort (le := fun x y : Int => decide (x ≤ y)) (fun a b c h1 h2 => by simp at *; omega) (fun a b => by simp; omega) xs
      exact this.imp (by simp)
    subst e1
    exact q l (s2.newO l _ hl) (k2.trans (Ex.newO hl)) (fr_back k2 hl) (own_new hl (Reps.of_flat _)))
theorem en_split {x y : Str} (ha : Ev X a σ s x) (hb : Ev X b σ s y) (h1 : (y.length == 0) = false) (h2 : x.length + 2 ≤ sizeLine) (hs : starEach [b] X.env = [(false, eval b X.env)] := by rfl) (hbase : attributeBase a "split" X.env (eval a X.env) = eval a X.env := by rfl) (hline : (p1.endLine == pos.line) = true := by rfl) :
    EvN X (.Call (.Attribute a "split" p1) [b] [] pos) σ s (Txt.split x y) := fun s1 k Q q =>
  we_of (pe_split pe_we pe_we hs hbase hline) (ha s1 k _ fun v s2 k2 r2 => ⟨⟨x, r2⟩, hb s2 (k.trans k2) _ fun u s3 k3 r3 => ⟨x, y, r2, by rw [show u = V.str y from r3], h1, h2, fun l hl =>
    q l (s3.newO l _ hl) ((k2.trans k3).trans (Ex.newO hl)) (fr_back (k2.trans k3) hl) (own_new hl (Reps.of_flat _))⟩⟩)
def JnOk (x : Str) (ys : List Str) : Prop := (ys.map (·.length)).sum + ys.length * x.length ≤ 16777216
theorem ev_join {x : Str} {ys : List Str} (ha : Ev X a σ s x) (hb : EvR X b σ s ys) (h : JnOk x ys) (hs : starEach [b] X.env = [(false, eval b X.env)] := by rfl) (hbase : attributeBase a "join" X.env (eval a X.env) = eval a X.env := by rfl) (hline : (p1.endLine == pos.line) = true := by rfl) :
    Ev X (.Call (.Attribute a "join" p1) [b] [] pos) σ s (Txt.join x ys) := fun s1 k Q q =>
  we_of (pe_join pe_we pe_we hs hbase hline) (ha s1 k _ fun v s2 k2 r2 => ⟨⟨x, r2⟩, hb s2 (k.trans k2) _ fun u s3 k3 r3 => by
    obtain ⟨p, vs, rfl, h1, h2⟩ := r3
    obtain rfl := h2.flat
    exact ⟨x, p, ys, r2, rfl, .inl h1, h, q _ s3 (k2.trans k3) rfl⟩⟩)
def ixOf {τ : Type} [DecidableEq τ] (x : τ) : List τ → Option Nat
  | [] => none
  | y :: ys => if y = x then some 0 else (ixOf x ys).map (· + 1)
theorem ixOf_some {τ : Type} [DecidableEq τ] {x : τ} : ∀ {ys : List τ} {j : Nat}, ixOf x ys = some j → ys[j]? = some x ∧ ∀ m z, m < j → ys[m]? = some z → z ≠ x
  | [], _, h => by cases h
  | y :: ys, j, h => by
    unfold ixOf at h
    split at h
    · rename_i e; cases h; exact ⟨by simp [e], fun m z hm => absurd hm (Nat.not_lt_zero _)⟩
    · rename_i e
      obtain ⟨i, h1, rfl⟩ := Option.map_eq_some_iff.mp h
      obtain ⟨h2, h3⟩ := ixOf_some h1
      refine ⟨by simpa using h2, fun m z hm hz => ?_⟩
      cases m with
      | zero => simp at hz; subst hz; exact e
      | succ m => exact h3 m z (by omega) (by simpa using hz)
theorem ev_index {ε : Type} [Eqs ε] [DecidableEq ε] {x : ε} {xs : List ε} {j : Nat} (ha : EvR X a σ s xs) (hb : Ev X b σ s x) (h : ixOf x xs = some j)
    (hbase : attributeBase a "index" X.env (eval a X.env) = eval a X.env := by rfl)
    (hfew : ((backTo pos (starEach [b] X.env)).all (fun x => !x.1) && (backToKw pos (keywordEach [] X.env)).all (fun x => x.1.isSome) && decide (([b] : List Expr).length + ([] : List Keyword).length + (if ([] : List Keyword).isEmpty then 0 else 1) < 30)) = true := by rfl)
    (hline : (p1.endLine == pos.line) = true := by rfl) (hs : starEach [b] X.env = (false, eval b X.env) :: starEach [] X.env := by rfl) (hplain : (backTo pos (starEach [] X.env)).any (·.1) = false := by rfl) :
    Ev X (.Call (.Attribute a "index" p1) [b] [] pos) σ s (j : Int) := fun s1 k Q q =>
  we_of (pe_bm PySem.F.plainAttrs_list PySem.F.slot_list_index PySem.F.type_list_index mt_index pe_we (pa_cons pe_we pa_nil hs) hbase hfew hline hs hplain) (ha s1 k _ fun v s2 k2 r2 => by
    obtain ⟨p, vs, rfl, h1, h2⟩ := r2
    obtain rfl := h2.flat
    refine ⟨.inl ⟨rfl, _, h1⟩, hb s2 (k.trans k2) _ fun u s3 k3 r3 => ?_⟩
    rw [Flat.iff.mp r3]
    obtain ⟨h3, h4⟩ := ixOf_some h
    refine ⟨p, _, toV x, j, toV x, rfl, rfl, sql_mono k3.h h1, Flat.flat x, flat_all xs, by rw [List.getElem?_map, h3]; rfl, (Flat.inj x x).mpr rfl, fun m z hm hz => ?_, q _ s3 (k2.trans k3) rfl⟩
    rw [List.getElem?_map] at hz
    obtain ⟨y, h5, rfl⟩ := Option.map_eq_some_iff.mp hz
    exact Bool.eq_false_iff.mpr fun z => h4 m y hm h5 ((Flat.inj y x).mp z))

structure Cal (P : Program) (w : World) (K : PySem.W.Frag) (mg : Str → Option Value) (base : Heap) (CX : CXT) (k : Nat) (x : Str) (q : Sp) : Prop where
  ex : ∃ (f : Addr) (fd : FuncData) (ps : List Str), FnOk P w K mg base CX k f fd ps q ∧ mg x = some (.ref f) ∧ PySem.W.keepIn K (.ref f) = true ∧ Binds K fd ps []
theorem pe_c0 {n : Str} {k j : Nat} {q : Sp} {ta : TA} (C : Cal X.prog X.w X.K X.mg X.base CX0 k n q) (hr : Room j X.A) (hk : k ≤ j) (hg : Gl X n) (ha : PA X (e :: es) ta) (hdb : (n == ("__debug__" : Str)) = false := by decide)
    (he : starEach (e :: es) X.env = (false, eval e X.env) :: starEach es X.env := by rfl) (hpl : (backTo pos (starEach es X.env)).any (·.1) = false := by rfl) : PE X (.Call (.Name n p0) (e :: es) [] pos) (tCall q [] E0 ta) := by
  obtain ⟨f, fd, ps, F, hm, kp, b⟩ := C.ex
  exact pe_call F (hr.mono hk) hg hm kp b .nil pass0 ha hdb he hpl
def sp {A : Type} [EncA A] {ρ : Type} [Enc ρ] (K : PySem.W.Frag) (m : A → Option ρ) : Sp := fun vs H Q _ => ∃ (s : S) (x : A) (r : ρ), s.H = H ∧ repA K s.F vs x ∧ m x = some r ∧ ∀ v s', Ex s s' → rep K s'.F v r → Q v s'.H
def spN {A : Type} [EncA A] {ρ : Type} [Enc ρ] (K : PySem.W.Frag) (m : A → Option (List ρ)) : Sp := fun vs H Q _ => ∃ (s : S) (x : A) (r : List ρ), s.H = H ∧ repA K s.F vs x ∧ m x = some r ∧ ∀ p s', Ex s s' → s.H p = none → Own K s' p r → Q (.ref p) s'.H
theorem ev_call {A : Type} [EncA A] {m : A → Option α} {n : Str} {k j : Nat} {x : A} {r : α} (C : Cal X.prog X.w X.K X.mg X.base CX0 k n (sp X.K m)) (hr : Room j X.A) (hk : k ≤ j) (ha : EvA X (e :: es) σ s x) (h : m x = some r) (hg : Gl X n := by rfl)
    (hdb : (n == ("__debug__" : Str)) = false := by decide) (he : starEach (e :: es) X.env = (false, eval e X.env) :: starEach es X.env := by rfl) (hpl : (backTo pos (starEach es X.env)).any (·.1) = false := by rfl) : Ev X (.Call (.Name n p0) (e :: es) [] pos) σ s r := fun s1 k1 Q q =>
  we_of (pe_c0 C hr hk hg pa_wa hdb he hpl) (ha s1 k1 _ fun vs s2 k2 r2 => ⟨s2, x, r, rfl, by rw [List.append_nil]; exact r2, h, fun v s3 k3 r3 => q v s3 (k2.trans k3) r3⟩)
theorem en_call {A : Type} [EncA A] {m : A → Option (List α)} {n : Str} {k j : Nat} {x : A} {r : List α} (C : Cal X.prog X.w X.K X.mg X.base CX0 k n (spN X.K m)) (hr : Room j X.A) (hk : k ≤ j) (ha : EvA X (e :: es) σ s x) (h : m x = some r) (hg : Gl X n := by rfl)
    (hdb : (n == ("__debug__" : Str)) = false := by decide) (he : starEach (e :: es) X.env = (false, eval e X.env) :: starEach es X.env := by rfl) (hpl : (backTo pos (starEach es X.env)).any (·.1) = false := by rfl) : EvN X (.Call (.Name n p0) (e :: es) [] pos) σ s r := fun s1 k1 Q q =>
  we_of (pe_c0 C hr hk hg pa_wa hdb he hpl) (ha s1 k1 _ fun vs s2 k2 r2 => ⟨s2, x, r, rfl, by rw [List.append_nil]; exact r2, h, fun v s3 k3 n3 r3 => q v s3 (k2.trans k3) (fr_back k2 n3) r3⟩)
end
end Dy

namespace Dy
open PySem PySem.Spec L2
open PyProof.Rows hiding St
open Enc (rep)
open Flat (toV)
open EncA (repA)

noncomputable def chk {α : Type} (c : Prop) (m : Option α) : Option α := open Classical in if c then m else none
theorem chk_pos {α : Type} {c : Prop} {m : Option α} (h : c) : chk c m = m := by unfold chk; exact if_pos h
theorem chkE {α : Type} {c : Prop} {m : Option α} {r : α} (h : chk c m = some r) : c ∧ m = some r := by
  unfold chk at h
  split at h
  · rename_i hc; exact ⟨hc, h⟩
  · cases h
def lt {α β : Type} (x : α) (f : α → Option β) : Option β := f x
theorem ltE {α β : Type} {x : α} {f : α → Option β} {r : β} (h : lt x f = some r) : ∃ y, y = x ∧ f y = some r := ⟨x, rfl, h⟩
abbrev bnd {α β : Type} (m : Option α) (f : α → Option β) : Option β := m.bind f
theorem bndE {α β : Type} {m : Option α} {f : α → Option β} {r : β} (h : bnd m f = some r) : ∃ y, m = some y ∧ f y = some r := by
  cases m with
  | none => cases h
  | some y => exact ⟨y, rfl, h⟩
theorem iteE1 {α : Type} {b : Bool} {m k : Option α} {r : α} (h : (if b = true then m else k) = some r) (e : b = true) : m = some r := by rw [if_pos e] at h; exact h
theorem iteE2 {α : Type} {b : Bool} {m k : Option α} {r : α} (h : (if b = true then m else k) = some r) (e : b = false) : k = some r := by rw [if_neg (by rw [e]; exact Bool.false_ne_true)] at h; exact h
def andO (a : Bool) (m : Option Bool) : Option Bool := if a = true then m else some false
def orO (a : Bool) (m : Option Bool) : Option Bool := if a = true then some true else m
theorem andE {a r : Bool} {m : Option Bool} (h : andO a m = some r) : (a = true → m = some r) ∧ (a = false → r = false) := by
  unfold andO at h
  cases a with
  | true => exact ⟨fun _ => h, fun z => Bool.noConfusion z⟩
  | false => exact ⟨fun z => Bool.noConfusion z, fun _ => (Option.some.inj h).symm⟩
theorem orE {a r : Bool} {m : Option Bool} (h : orO a m = some r) : (a = false → m = some r) ∧ (a = true → r = true) := by
  unfold orO at h
  cases a with
  | false => exact ⟨fun _ => h, fun z => Bool.noConfusion z⟩
  | true => exact ⟨fun z => Bool.noConfusion z, fun _ => (Option.some.inj h).symm⟩
inductive Fl (β ρ : Type) where
  | nx (b : β)
  | rt (r : ρ)
def foldO {α β : Type} (f : β → α → Option β) : β → List α → Option β
  | b, [] => some b
  | b, x :: r => (f b x).bind fun b' => foldO f b' r
def foldF {α β ρ : Type} (f : β → α → Option (Fl β ρ)) : β → List α → Option (Fl β ρ)
  | b, [] => some (.nx b)
  | b, x :: r => (f b x).bind fun o => match o with
    | .nx b' => foldF f b' r
    | .rt v => some (.rt v)
def whileO {β : Type} (c : β → Option Bool) (f : β → Option β) : Nat → β → Option β
  | 0, _ => none
  | n + 1, b => (c b).bind fun t => if t = true then (f b).bind fun b' => whileO c f n b' else some b
def whileF {β ρ : Type} (c : β → Option Bool) (f : β → Option (Fl β ρ)) : Nat → β → Option (Fl β ρ)
  | 0, _ => none
  | n + 1, b => (c b).bind fun t => if t = true then (f b).bind fun o => (match o with
    | .nx b' => whileF c f n b'
    | .rt v => some (.rt v)) else some (.nx b)
def compO {α β : Type} (t : α → Option Bool) (f : α → Option β) : List α → Option (List β)
  | [] => some []
  | x :: r => (t x).bind fun b => if b = true then (f x).bind fun y => (compO t f r).bind fun ys => some (y :: ys) else compO t f r
theorem compO_pure {α β : Type} (t : α → Bool) (f : α → β) : ∀ xs : List α, compO (fun x => some (t x)) (fun x => some (f x)) xs = some ((xs.filter t).map f)
  | [] => rfl
  | x :: r => by
    unfold compO
    rw [Option.bind_some, compO_pure t f r, List.filter_cons]
    split
    · rfl
    · rfl
theorem compO_map {α β : Type} (f : α → β) : ∀ xs : List α, compO (fun _ => some true) (fun x => some (f x)) xs = some (xs.map f)
  | [] => rfl
  | x :: r => by
    unfold compO
    rw [Option.bind_some, compO_map f r]
    rfl
def mapO {α β : Type} (f : α → Option β) (xs : List α) : Option (List β) := compO (fun _ => some true) f xs

def WI (X : Cx) (tg iter : Expr) : TI := fun σ H R => ∀ (pins : List (Addr × Obj)) (s : Shared), Inv X pins σ H s →
  wpAny (model X.prog X.w) X.A (eval iter X.env) (fun v s1 => wpAny (model X.prog X.w) X.A (pyIter v) (PIE X pins σ tg R) X.xe s1) X.xe s
theorem pi_wi {X : Cx} {tg iter : Expr} : PI X tg iter (WI X tg iter) := ⟨fun pins s _ _ _ I h => h pins s I⟩
theorem wi_of {X : Cx} {tg iter : Expr} {t : TI} {σ : St} {H : Hp} {R : It → Hp → Prop} (h : PI X tg iter t) (q : t σ H R) : WI X tg iter σ H R := fun pins s I => h.run pins s σ H R I q
section
variable {α β γ δ : Type} [Enc α] [Enc β] [Enc γ] [Enc δ] {X : Cx} {σ : St} {s t : S} {e a b c tg : Expr} {es : List Expr} {pos p0 p1 p2 p3 : Pos}
structure Walk (K : PySem.W.Frag) (F : Hp) (J : It) (xs : List α) : Prop where
  go : ∀ (i : Nat) (t : S) (x : α), Fle F t.F → xs[i]? = some x → J.go i t.H ∧ ∀ v H', J.yld i t.H v H' → ∃ t' : S, t'.H = H' ∧ Ex t t' ∧ rep K t'.F v x
  stop : ∀ (i : Nat) (t : S), Fle F t.F → xs.length ≤ i → J.stop i t.H
def EvI (X : Cx) (tg e : Expr) (σ : St) (s : S) (xs : List α) : Prop := ∀ s1, Ex s s1 → ∀ R : It → Hp → Prop, (∀ J s2, Ex s1 s2 → Walk X.K s2.F J xs → R J s2.H) → WI X tg e σ s1.H R
theorem ei_list {xs : List α} (h : Ev X e σ s xs) : EvI X tg e σ s xs := fun s1 k R q =>
  wi_of (pi_list pe_we) (h s1 k _ fun v s2 k2 r2 => by
    obtain ⟨p, vs, rfl, h1, h2⟩ := r2
    refine ⟨p, rfl, ⟨vs, sql_mono s2.sub h1⟩, q _ s2 k2 ⟨fun i t x f hx => ?_, fun i t f hi => ⟨vs, sql_mono t.sub (sql_mono f h1), by rw [h2.len]; exact hi⟩⟩⟩
    obtain ⟨v, h3, h4⟩ := h2.get hx
    refine ⟨⟨vs, v, sql_mono t.sub (sql_mono f h1), h3⟩, fun w H' ⟨e1, hy⟩ => ⟨t, e1.symm, Ex.refl _, ?_⟩⟩
    have := hy vs (sql_mono t.sub (sql_mono f h1))
    rw [h3] at this
    cases this
    exact Enc.mono f h4)
theorem ei_tup {xs : Tu α} (h : Ev X e σ s xs) : EvI X tg e σ s xs.l := fun s1 k R q =>
  wi_of (pi_tup pe_we) (h s1 k _ fun v s2 k2 r2 => by
    obtain ⟨p, vs, rfl, h1, h2⟩ := r2
    refine ⟨p, rfl, ⟨vs, sqt_mono s2.sub h1⟩, q _ s2 k2 ⟨fun i t x f hx => ?_, fun i t f hi => ⟨vs, sqt_mono t.sub (sqt_mono f h1), by rw [h2.len]; exact hi⟩⟩⟩
    obtain ⟨v, h3, h4⟩ := h2.get hx
    refine ⟨⟨vs, v, sqt_mono t.sub (sqt_mono f h1), h3⟩, fun w H' ⟨e1, hy⟩ => ⟨t, e1.symm, Ex.refl _, ?_⟩⟩
    have := hy vs (sqt_mono t.sub (sqt_mono f h1))
    rw [h3] at this
    cases this
    exact Enc.mono f h4)
theorem rng_get {a b : Int} {i : Nat} {x : Int} (h : (rng a b)[i]? = some x) : i < (b - a).toNat ∧ x = a + (i : Int) := by
  unfold rng at h
  rw [List.getElem?_map] at h
  obtain ⟨j, h1, rfl⟩ := Option.map_eq_some_iff.mp h
  obtain ⟨h2, h3⟩ := List.getElem?_eq_some_iff.mp h1
  rw [List.length_range] at h2
  rw [List.getElem_range] at h3
  subst h3
  exact ⟨h2, rfl⟩
theorem rng_len (a b : Int) : (rng a b).length = (b - a).toNat := by unfold rng; rw [List.length_map, List.length_range]
theorem walk_rng {K : PySem.W.Frag} {F : Hp} {a b : Int} : Walk K F (Itr a (b - a).toNat) (rng a b) :=
  ⟨fun i t x f hx => ⟨(rng_get hx).1, fun v H' ⟨e1, e2⟩ => ⟨t, e1.symm, Ex.refl _, by rw [e2, (rng_get hx).2]; rfl⟩⟩, fun i t f hi => by rw [rng_len] at hi; exact hi⟩
def RgB (x : Int) : Prop := -(2 ^ 62) ≤ x ∧ x < 2 ^ 62
theorem ei_range1 {n : Int} (hm : X.mg "range" = none) (h : Ev X e σ s n) (hb : RgB n) (hg : Gl X "range" := by rfl) (hs : starEach [e] X.env = [(false, eval e X.env)] := by rfl) (hs2 : starEach [e] X.env = (false, eval e X.env) :: starEach [] X.env := by rfl) :
    EvI X tg (.Call (.Name "range" p0) [e] [] pos) σ s (rng 0 n) := fun s1 k R q =>
  wi_of (pi_range1 hg hm (pa_cons pe_we pa_nil hs2) hs) (h s1 k _ fun v s2 k2 r2 => ⟨n, by rw [show v = V.int n from r2], hb.1, hb.2, q _ s2 k2 (by
    have := walk_rng (K := X.K) (F := s2.F) (a := 0) (b := n)
    rw [Int.sub_zero] at this
    exact this)⟩)
theorem ei_range2 {m n : Int} (hm : X.mg "range" = none) (ha : Ev X a σ s m) (hb : Ev X b σ s n) (h1 : RgB m) (h2 : RgB n) (hg : Gl X "range" := by rfl) (hs : starEach [a, b] X.env = [(false, eval a X.env), (false, eval b X.env)] := by rfl) (hs2 : starEach [b] X.env = [(false, eval b X.env)] := by rfl)
    (hs3 : starEach [a, b] X.env = (false, eval a X.env) :: starEach [b] X.env := by rfl) (hs4 : starEach [b] X.env = (false, eval b X.env) :: starEach [] X.env := by rfl) :
    EvI X tg (.Call (.Name "range" p0) [a, b] [] pos) σ s (rng m n) := fun s1 k R q =>
  wi_of (pi_range2 hg hm (pa_cons pe_we (pa_cons pe_we pa_nil hs4) hs3) hs hs2) (ha s1 k _ fun v s2 k2 r2 => hb s2 (k.trans k2) _ fun u s3 k3 r3 => ⟨m, n, by rw [show v = V.int m from r2, show u = V.int n from r3], ⟨h1.1, h1.2, h2.1, h2.2⟩, q _ s3 (k2.trans k3) walk_rng⟩)
def chars (x : Str) : List Str := x.cps.toList.map fun c => ⟨#[c]⟩
theorem ei_str {x : Str} (h : Ev X e σ s x) : EvI X tg e σ s (chars x) := fun s1 k R q =>
  wi_of (pi_str pe_we) (h s1 k _ fun v s2 k2 r2 => ⟨x, r2, q _ s2 k2 ⟨fun i t y f hy => by
    unfold chars at hy
    rw [List.getElem?_map] at hy
    obtain ⟨c, h1, rfl⟩ := Option.map_eq_some_iff.mp hy
    have h1' : x.cps[i]? = some c := by simpa using h1
    refine ⟨?_, fun v H' ⟨e1, d, h2, h3⟩ => ⟨t, e1.symm, Ex.refl _, ?_⟩⟩
    · obtain ⟨z, _⟩ := Array.getElem?_eq_some_iff.mp h1'
      exact z
    · rw [h1'] at h2
      cases h2
      exact h3, fun i t f hi => by
    unfold chars at hi
    rw [List.length_map, Array.length_toList] at hi
    exact hi⟩⟩)
end

structure Tgt {α : Type} [Enc α] (K : PySem.W.Frag) (g : TG) (B : Hp → α → St → St → Prop) : Prop where
  run : ∀ (t : S) (v : V) (x : α) (σ : St) (Q : St → Hp → Prop), rep K t.F v x → (∀ σ2, B t.F x σ σ2 → Q σ2 t.H) → g v σ t.H Q
def BN {α : Type} [Enc α] (K : PySem.W.Frag) (j : Nat) : Hp → α → St → St → Prop := fun F x σ σ2 => ∃ v, rep K F v x ∧ σ2 = σ.set j (some v)
def B2 {α β : Type} [Enc α] [Enc β] (K : PySem.W.Frag) (i j : Nat) : Hp → α × β → St → St → Prop := fun F x σ σ2 => ∃ v w, rep K F v x.1 ∧ rep K F w x.2 ∧ σ2 = (σ.set i (some v)).set j (some w)
def B3 {α β γ : Type} [Enc α] [Enc β] [Enc γ] (K : PySem.W.Frag) (i j k : Nat) : Hp → T3 α β γ → St → St → Prop := fun F x σ σ2 => ∃ v w u, rep K F v x.a ∧ rep K F w x.b ∧ rep K F u x.c ∧ σ2 = ((σ.set i (some v)).set j (some w)).set k (some u)
theorem tg_n {α : Type} [Enc α] {K : PySem.W.Frag} {j : Nat} : Tgt (α := α) K (gName j) (BN K j) := ⟨fun t v x σ Q r h => h _ ⟨v, r, rfl⟩⟩
theorem tg_2 {α β : Type} [Enc α] [Enc β] {K : PySem.W.Frag} {i j : Nat} : Tgt (α := α × β) K (gTup K 2 (gCons (gName i) (gCons (gName j) gNil))) (B2 K i j) := ⟨fun t v x σ Q r h => by
  obtain ⟨p, v1, v2, rfl, h0, h1, h2⟩ := r
  exact ⟨p, _, rfl, sqt_mono t.sub h0, rfl, v1, _, rfl, v2, _, rfl, rfl, h _ ⟨v1, v2, h1, h2, rfl⟩⟩⟩
theorem tg_3 {α β γ : Type} [Enc α] [Enc β] [Enc γ] {K : PySem.W.Frag} {i j k : Nat} : Tgt (α := T3 α β γ) K (gTup K 3 (gCons (gName i) (gCons (gName j) (gCons (gName k) gNil)))) (B3 K i j k) := ⟨fun t v x σ Q r h => by
  obtain ⟨p, v1, v2, v3, rfl, h0, h1, h2, h3⟩ := r
  exact ⟨p, _, rfl, sqt_mono t.sub h0, rfl, v1, _, rfl, v2, _, rfl, v3, _, rfl, rfl, h _ ⟨v1, v2, v3, h1, h2, h3, rfl⟩⟩⟩

section
variable {α β : Type} [Enc α] [Enc β] {X : Cx} {σ : St} {s : S} {elt tg iter c : Expr} {ifs : List Expr} {scope : Scope} {own : List (Str × Nat)} {pos : Pos}
abbrev Blk (X : Cx) (scope : Scope) (s0 : Shared) (H0 : Hp) (C : Addr) (cl : List (Str × Addr)) (fp : List Addr) : Cx := X.blk s0 H0 scope (compEnvC scope cl C X.env) fp
theorem comp_read {xs : List α} {ys : List β} {t : α → Option Bool} {f : α → Option β} {g : TG} {B : Hp → α → St → St → Prop} {tt : TT} (hc : X.calm = true) (hN : X.N.Nodup) (hi : EvI X tg iter σ s xs) (ok : BlkOk X.N X.env.scope scope own)
    (hg : ∀ s0 H0 C cl fp, PG (Blk X scope s0 H0 C cl fp) tg g) (T : Tgt (α := α) X.K g B) (htt : ∀ s0 H0 C cl fp, PTs (Blk X scope s0 H0 C cl fp) ifs tt) (hf : compO t f xs = some ys) (hz : ys.length ≤ sizeLine)
    (hw : ∀ (F : Hp) (x : α) σ2, B F x (wipe σ (own.map (·.2))) σ2 → wipe σ2 (own.map (·.2)) = wipe σ (own.map (·.2)))
    (ht : ∀ (x : α) (b : Bool) (s1 : S) (σ2 : St) (Q : Bool → Hp → Prop), x ∈ xs → Ex s s1 → B s1.F x (wipe σ (own.map (·.2))) σ2 → t x = some b → (∀ s2, Ex s1 s2 → Q b s2.H) → tt σ2 s1.H Q)
    (he : ∀ (x : α) (y : β) (s1 : S) (σ2 : St), x ∈ xs → Ex s s1 → B s1.F x (wipe σ (own.map (·.2))) σ2 → t x = some true → f x = some y → ∀ s0 H0 C cl fp, Ev (Blk X scope s0 H0 C cl fp) elt σ2 s1 y)
    (s1 : S) (k : Ex s s1) (Q : VK) (q : ∀ p s2, Ex s1 s2 → s1.H p = none → Own X.K s2 p ys → Q (.ref p) s2.H) : tLc (WI X tg iter) g tt (fun σ H Q => ∀ s0 H0 C cl fp, WE (Blk X scope s0 H0 C cl fp) elt σ H Q) (own.map (·.2)) σ s1.H Q := by
  refine hi s1 k _ fun J s2 k2 W => ?_
  intro D hD
  refine ⟨fun i m H => ∃ (u : S) (pre : List β) (vs : List V), u.H = H ∧ m = xs.length - i ∧ Ex s2 u ∧ u.F D = none ∧ u.H D = some (.lst vs) ∧ Reps X.K u.F vs pre ∧ (∃ suf, compO t f (xs.drop i) = some suf ∧ pre ++ suf = ys), ⟨xs.length, s2.newO D (.lst []) hD, [], [], rfl, rfl, Ex.newO hD, (fF hD : s2.F D = none), upd_same, trivial, ys, hf, rfl⟩, ?_⟩
  rintro i m H ⟨u, pre, vs, rfl, rfl, ku, n1, n2, n3, suf, h1, h2⟩
  by_cases hi' : i < xs.length
  · right
    have hx : xs[i]? = some xs[i] := List.getElem?_eq_getElem hi'
    obtain ⟨g1, g2⟩ := W.go i u xs[i] ku.f hx
    refine ⟨g1, fun H' => ∃ m', m' < xs.length - i ∧ ∃ (u : S) (pre : List β) (vs : List V), u.H = H' ∧ m' = xs.length - (i + 1) ∧ Ex s2 u ∧ u.F D = none ∧ u.H D = some (.lst vs) ∧ Reps X.K u.F vs pre ∧ (∃ suf, compO t f (xs.drop (i + 1)) = some suf ∧ pre ++ suf = ys), fun H' z => z, fun v H' hy => ?_⟩
    obtain ⟨u', rfl, ku', rv⟩ := g2 v H' hy
    refine T.run u' v xs[i] _ _ rv fun σ2 hB => ⟨hw _ _ _ hB, ?_⟩
    rw [List.drop_eq_getElem_cons hi'] at h1
    unfold compO at h1
    cases hb : t xs[i] with
    | none => rw [hb] at h1; cases h1
    | some b =>
      rw [hb, Option.bind_some] at h1
      have mem : xs[i] ∈ xs := List.getElem_mem hi'
      have base : Ex s u' := (k.trans k2).trans (ku.trans ku')
      refine ht xs[i] b u' σ2 _ mem base hB hb fun u3 k3 => ?_
      have hlt : xs.length - (i + 1) < xs.length - i := by omega
      have kk : Ex u u3 := ku'.trans k3
      cases b with
      | false =>
        rw [if_neg Bool.false_ne_true] at h1 ⊢
        exact ⟨_, hlt, u3, pre, vs, rfl, rfl, ku.trans kk, kk.n _ _ n2 n1, kk.h _ _ n2, n3.mono kk.f, suf, h1, h2⟩
      | true =>
        rw [if_pos rfl] at h1 ⊢
        cases hfx : f xs[i] with
        | none => rw [hfx] at h1; cases h1
        | some y =>
          rw [hfx, Option.bind_some] at h1
          cases hr : compO t f (xs.drop (i + 1)) with
          | none => rw [hr] at h1; cases h1
          | some suf' =>
            rw [hr] at h1
            cases h1
            intro s0 H0 C cl fp
            refine he xs[i] y u' σ2 mem base hB hb hfx s0 H0 C cl fp u3 k3 _ fun w u4 k4 r4 => ?_
            have k5 : Ex u u4 := kk.trans k4
            have hD4 : u4.H D = some (.lst vs) := k5.h _ _ n2
            have hF4 : u4.F D = none := k5.n _ _ n2 n1
            have hlen : vs.length < sizeLine := by
              have e1 := n3.len
              have e2 : ys.length = pre.length + (suf'.length + 1) := by rw [← h2, List.length_append, List.length_cons]
              omega
            refine ⟨vs, hD4, hlen, _, hlt, u4.put D (.lst (vs ++ [w])) hF4, pre ++ [y], vs ++ [w], rfl, rfl, (ku.trans k5).mu1 (Mx.put hF4) hD, hF4, upd_same, (n3.mono k5.f).snoc r4, suf', rfl, by rw [List.append_assoc]; exact h2⟩
  · left
    have hd : xs.drop i = [] := List.drop_eq_nil_of_le (by omega)
    rw [hd] at h1
    cases h1
    refine ⟨W.stop i u ku.f (by omega), q D u (k2.trans ku) (fr_back k2 hD) ⟨n1, vs, n2, ?_⟩⟩
    rw [← h2, List.append_nil]
    exact n3
structure EvL (X : Cx) (elt tg iter : Expr) (ifs : List Expr) (scope : Scope) (σ : St) (s : S) (ys : List β) : Prop where
  calm : X.calm = true
  nd : X.N.Nodup
  fs : ∀ x, foldedSetIterable iter X.env x = pure x
  ex : ∃ (own : List (Str × Nat)) (g : TG) (tt : TT), BlkOk X.N X.env.scope scope own ∧ (∀ s0 H0 C cl fp, PG (Blk X scope s0 H0 C cl fp) tg g) ∧ (∀ s0 H0 C cl fp, PTs (Blk X scope s0 H0 C cl fp) ifs tt) ∧
    ∀ s1, Ex s s1 → ∀ Q : VK, (∀ p s2, Ex s1 s2 → s1.H p = none → Own X.K s2 p ys → Q (.ref p) s2.H) → tLc (WI X tg iter) g tt (fun σ H Q => ∀ s0 H0 C cl fp, WE (Blk X scope s0 H0 C cl fp) elt σ H Q) (own.map (·.2)) σ s1.H Q
theorem EvL.n {ys : List β} (h : EvL X elt tg iter ifs scope σ s ys) : EvN X (.ListComp elt [⟨tg, iter, ifs, 0⟩] scope pos) σ s ys := fun s1 k Q q => by
  obtain ⟨own, g, tt, h1, h2, h3, h4⟩ := h.ex
  exact we_of (pe_lc h.calm h.nd pi_wi h1 h2 h3 (fun s0 H0 C cl fp => ⟨fun pins s _ _ _ I h => h s0 H0 C cl fp pins s I⟩) h.fs) (h4 s1 k Q q)
theorem do_setL (i : Nat) {ys : List β} {n : Str} {py : Pos} {rest : List Stmt} {D : Ends} {spos : Pos} (h : EvL X elt tg iter ifs scope σ s ys) (k : ∀ p s1, Ex s s1 → s.H p = none → Own X.K s1 p ys → WSs X rest D (σ.set i (some (.ref p))) s1.H) (hk : X.env.scope.kind = .function) (hy : X.env.scope.names.lookup n = some .local)
    (hl : (py.line == pos.line) = true := by rfl) (ha : (scope.names.any fun (m, k) => m == n && (k == .local || k == .cell)) = false := by decide +kernel) (hi : X.N[i]? = some n := by rfl) :
    WSs X (.Assign [.Name n py] (.ListComp elt [⟨tg, iter, ifs, 0⟩] scope pos) spos :: rest) D σ s.H := by
  obtain ⟨own, g, tt, h1, h2, h3, h4⟩ := h.ex
  exact ws_of (pss_cons (ps_setLc (te := fun σ H Q => ∀ s0 H0 C cl fp, WE (Blk X scope s0 H0 C cl fp) elt σ H Q) h.calm h.nd hi hy (sw_true hk hy hl ha) pi_wi h1 h2 h3 (fun s0 H0 C cl fp => ⟨fun pins s _ _ _ I h => h s0 H0 C cl fp pins s I⟩) h.fs) pss_ws) (h4 s (Ex.refl _) (fun x H1 => WSs X rest D (σ.set i (some x)) H1) fun p s2 k2 n2 o2 => k p s2 k2 n2 o2)
theorem wipe_set {τ : St} {j : Nat} {o : Option V} : ∀ {vs : List Nat}, j ∈ vs → wipe (τ.set j o) vs = wipe τ vs
  | v :: vs, h => by
    show (wipe (τ.set j o) vs).set v none = (wipe τ vs).set v none
    by_cases e : j ∈ vs
    · rw [wipe_set e]
    · have : j = v := by
        rcases List.mem_cons.mp h with z | z
        · exact z
        · exact absurd z e
      subst this
      have : ∀ {ws : List Nat} {τ : St}, j ∉ ws → wipe (τ.set j o) ws = (wipe τ ws).set j o := by
        intro ws
        induction ws with
        | nil => intro τ _; rfl
        | cons a r ih =>
          intro τ h
          show (wipe (τ.set j o) r).set a none = ((wipe τ r).set a none).set j o
          rw [ih fun z => h (List.mem_cons_of_mem _ z), List.set_comm _ _ (fun z => h (by rw [z]; exact List.mem_cons_self))]
      rw [this e, List.set_set]
theorem wipe_wipe {τ : St} : ∀ {vs ws : List Nat}, (∀ v ∈ vs, v ∈ ws) → wipe (wipe τ vs) ws = wipe τ ws
  | [], _, _ => rfl
  | v :: vs, ws, h => by
    show wipe ((wipe τ vs).set v none) ws = wipe τ ws
    rw [wipe_set (h v List.mem_cons_self)]
    exact wipe_wipe fun u hu => h u (List.mem_cons_of_mem _ hu)
theorem en_comp0 {xs : List α} {ys : List β} {f : α → Option β} {j : Nat} {n : Str} {py : Pos} (hc : X.calm = true) (hN : X.N.Nodup) (hi : EvI X (.Name n py) iter σ s xs) (ok : BlkOk X.N X.env.scope scope own) (hj : X.N[j]? = some n)
    (hjo : j ∈ own.map (·.2)) (hg : ∀ s0 H0 C cl fp, PG (Blk X scope s0 H0 C cl fp) (.Name n py) (gName j)) (hf : mapO f xs = some ys) (hz : ys.length ≤ sizeLine)
    (he : ∀ (x : α) (y : β) (v : V) (s1 : S), x ∈ xs → Ex s s1 → rep X.K s1.F v x → f x = some y → ∀ s0 H0 C cl fp, Ev (Blk X scope s0 H0 C cl fp) elt ((wipe σ (own.map (·.2))).set j (some v)) s1 y)
    (hs : ∀ x, foldedSetIterable iter X.env x = pure x := by intro _; rfl) : EvL X elt (.Name n py) iter [] scope σ s ys :=
  ⟨hc, hN, hs, own, _, _, ok, hg, fun _ _ _ _ _ => pts_nil, fun s1 k Q q => comp_read (t := fun _ => some true) hc hN hi ok hg tg_n (fun _ _ _ _ _ => pts_nil) hf hz (fun F x σ2 ⟨v, _, e⟩ => by rw [e, wipe_set hjo]; exact wipe_wipe fun _ z => z)
    (fun x b s1 σ2 Q _ _ _ hb q => by cases hb; exact q s1 (Ex.refl _)) (fun x y s1 σ2 hx k ⟨v, r, e⟩ _ hfx => by subst e; exact he x y v s1 hx k r hfx) s1 k Q q⟩
theorem en_comp1 {xs : List α} {ys : List β} {t : α → Option Bool} {f : α → Option β} {j : Nat} {n : Str} {py : Pos} (hc : X.calm = true) (hN : X.N.Nodup) (hi : EvI X (.Name n py) iter σ s xs) (ok : BlkOk X.N X.env.scope scope own) (hj : X.N[j]? = some n)
    (hjo : j ∈ own.map (·.2)) (hg : ∀ s0 H0 C cl fp, PG (Blk X scope s0 H0 C cl fp) (.Name n py) (gName j)) (hf : compO t f xs = some ys) (hz : ys.length ≤ sizeLine)
    (ht : ∀ (x : α) (b : Bool) (v : V) (s1 : S), x ∈ xs → Ex s s1 → rep X.K s1.F v x → t x = some b → ∀ s0 H0 C cl fp, EvT (Blk X scope s0 H0 C cl fp) c ((wipe σ (own.map (·.2))).set j (some v)) s1 b)
    (he : ∀ (x : α) (y : β) (v : V) (s1 : S), x ∈ xs → Ex s s1 → rep X.K s1.F v x → t x = some true → f x = some y → ∀ s0 H0 C cl fp, Ev (Blk X scope s0 H0 C cl fp) elt ((wipe σ (own.map (·.2))).set j (some v)) s1 y)
    (hs : ∀ x, foldedSetIterable iter X.env x = pure x := by intro _; rfl) : EvL X elt (.Name n py) iter [c] scope σ s ys :=
  ⟨hc, hN, hs, own, _, _, ok, hg, fun s0 H0 C cl fp => pts_one ⟨fun pins s _ _ _ I h => h s0 H0 C cl fp pins s I⟩, fun s1 k Q q => comp_read (tt := fun σ H Q => ∀ s0 H0 C cl fp, WT (Blk X scope s0 H0 C cl fp) c σ H Q) hc hN hi ok hg tg_n (fun s0 H0 C cl fp => pts_one ⟨fun pins s _ _ _ I h => h s0 H0 C cl fp pins s I⟩) hf hz (fun F x σ2 ⟨v, _, e⟩ => by rw [e, wipe_set hjo]; exact wipe_wipe fun _ z => z)
    (fun x b s1 σ2 Q hx k ⟨v, r, e⟩ hb q => by subst e; intro s0 H0 C cl fp; exact ht x b v s1 hx k r hb s0 H0 C cl fp s1 (Ex.refl _) Q q) (fun x y s1 σ2 hx k ⟨v, r, e⟩ htx hfx => by subst e; exact he x y v s1 hx k r htx hfx) s1 k Q q⟩
end
end Dy

namespace Dy
open PySem PySem.Spec L2
open PyProof.Rows hiding St
open Enc (rep)
open Flat (toV)
open EncA (repA)

abbrev MD (D : Ends) (M : St → S → Prop) : Ends := { D with nx := fun σ H => ∃ s : S, s.H = H ∧ M σ s }
abbrev ND (D : Ends) : Ends := { D with nx := fun _ _ => False }
abbrev LD (D : Ends) (M : St → S → Prop) : Ends := { nx := fun σ H => ∃ s : S, s.H = H ∧ M σ s, rt := D.rt }
abbrev RD (Q : VK) : Ends := { nx := fun _ H' => Q .non H', rt := Q }
section
variable {α β γ δ : Type} [Enc α] [Enc β] [Enc γ] [Enc δ] {X : Cx} {σ : St} {s t : S} {e a b c tg iter : Expr} {es : List Expr} {pos p0 p1 p2 p3 : Pos} {D : Ends} {rest A B : List Stmt}
theorem do_nil (h : D.nx σ s.H) : WSs X [] D σ s.H := ws_of pss_nil h
theorem do_cons {st : Stmt} {ts : TS} (h : PS X st ts) (q : ts { D with nx := fun σ' H' => WSs X rest D σ' H' } σ s.H) : WSs X (st :: rest) D σ s.H := ws_of (pss_cons h pss_ws) q
theorem do_set (i : Nat) {x : α} {n : Str} {py : Pos} (h : Ev X e σ s x) (k : ∀ v s1, Ex s s1 → rep X.K s1.F v x → WSs X rest D (σ.set i (some v)) s1.H) (hN : X.N.Nodup) (hx : Loc X.env.scope n := by first | exact Or.inl rfl | exact Or.inr rfl) (hi : X.N[i]? = some n := by rfl)
    (hs : swapsWith e (some (.Name n py)) pos.line X.env = pure false := by rfl) (hf : X.fn n = true ∨ X.env.scope.names.lookup n = some .local := by first | exact .inl rfl | exact .inr rfl) : WSs X (.Assign [.Name n py] e pos :: rest) D σ s.H :=
  do_cons (ps_set hN hi hx pe_we hs hf) (h s (Ex.refl _) _ fun v s1 k1 r => k v s1 k1 r)
theorem do_setN (i : Nat) {xs : List α} {n : Str} {py : Pos} (h : EvN X e σ s xs) (k : ∀ p s1, Ex s s1 → s.H p = none → Own X.K s1 p xs → WSs X rest D (σ.set i (some (.ref p))) s1.H) (hN : X.N.Nodup) (hx : Loc X.env.scope n := by first | exact Or.inl rfl | exact Or.inr rfl) (hi : X.N[i]? = some n := by rfl)
    (hs : swapsWith e (some (.Name n py)) pos.line X.env = pure false := by rfl) (hf : X.fn n = true ∨ X.env.scope.names.lookup n = some .local := by first | exact .inl rfl | exact .inr rfl) : WSs X (.Assign [.Name n py] e pos :: rest) D σ s.H :=
  do_cons (ps_set hN hi hx pe_we hs hf) (h s (Ex.refl _) _ fun v s1 k1 n1 r => k v s1 k1 n1 r)
theorem do_ret {x : α} (h : Ev X e σ s x) (k : ∀ v s1, Ex s s1 → rep X.K s1.F v x → D.rt v s1.H) : WSs X (.Return (some e) pos :: rest) D σ s.H :=
  do_cons (ps_ret pe_we) (h s (Ex.refl _) _ fun v s1 k1 r => k v s1 k1 r)
theorem do_retN {xs : List α} (h : EvN X e σ s xs) (k : ∀ p s1, Ex s s1 → s.H p = none → Own X.K s1 p xs → D.rt (.ref p) s1.H) : WSs X (.Return (some e) pos :: rest) D σ s.H :=
  do_cons (ps_ret pe_we) (h s (Ex.refl _) _ fun v s1 k1 n1 r => k v s1 k1 n1 r)
theorem do_retO (i : Nat) {p : Addr} {n : Str} (h : σ[i]? = some (some (.ref p))) (k : D.rt (.ref p) s.H) (hN : X.N[i]? = some n := by rfl) (hv : Vis X.env.scope n := by first | exact Or.inl rfl | exact Or.inr (Or.inl rfl) | exact Or.inr (Or.inr rfl)) (hd : (n == ("__debug__" : Str)) = false := by decide)
    (hcd : (n == ("__classdict__" : Str)) = false := by decide) : WSs X (.Return (some (.Name n p0)) pos :: rest) D σ s.H :=
  do_cons (ps_ret (pe_var hN hv hd hcd)) ⟨_, h, k⟩
theorem do_if {x : Bool} (hc : EvT X c σ s x) (M : St → S → Prop) (h1 : x = true → ∀ s1, Ex s s1 → WSs X A (MD D M) σ s1.H) (h2 : x = false → ∀ s1, Ex s s1 → WSs X B (MD D M) σ s1.H)
    (h3 : ∀ σ' s', M σ' s' → WSs X rest D σ' s'.H) : WSs X (.If c A B pos :: rest) D σ s.H :=
  do_cons (ps_if pt_wt pss_ws pss_ws) (hc s (Ex.refl _) _ fun s1 k => by
    cases x with
    | true => exact iteT ((h1 rfl s1 k).imp (fun σ' H' ⟨s', e, m⟩ => e ▸ h3 σ' s' m) (fun _ _ q => q) (fun _ _ q => q) fun _ _ q => q)
    | false => exact iteF ((h2 rfl s1 k).imp (fun σ' H' ⟨s', e, m⟩ => e ▸ h3 σ' s' m) (fun _ _ q => q) (fun _ _ q => q) fun _ _ q => q))
theorem do_ifR {x : Bool} (hc : EvT X c σ s x) (h1 : x = true → ∀ s1, Ex s s1 → WSs X A (ND D) σ s1.H) (h2 : x = false → ∀ s1, Ex s s1 → WSs X rest D σ s1.H) : WSs X (.If c A [] pos :: rest) D σ s.H :=
  do_cons (ps_if pt_wt pss_ws pss_nil) (hc s (Ex.refl _) _ fun s1 k => by
    cases x with
    | true => exact iteT ((h1 rfl s1 k).imp (fun _ _ z => z.elim) (fun _ _ q => q) (fun _ _ q => q) fun _ _ q => q)
    | false => exact iteF (h2 rfl s1 k))
theorem do_ifRR {x : Bool} (hc : EvT X c σ s x) (h1 : x = true → ∀ s1, Ex s s1 → WSs X A (ND D) σ s1.H) (h2 : x = false → ∀ s1, Ex s s1 → WSs X B (ND D) σ s1.H) : WSs X (.If c A B pos :: rest) D σ s.H :=
  do_cons (ps_if pt_wt pss_ws pss_ws) (hc s (Ex.refl _) _ fun s1 k => by
    cases x with
    | true => exact iteT ((h1 rfl s1 k).imp (fun _ _ z => z.elim) (fun _ _ q => q) (fun _ _ q => q) fun _ _ q => q)
    | false => exact iteF ((h2 rfl s1 k).imp (fun _ _ z => z.elim) (fun _ _ q => q) (fun _ _ q => q) fun _ _ q => q))

theorem st_set {l : St} {i : Nat} {v : V} (h : l[i]? = some (some v)) : l[i]? = some (some v) := h
theorem do_append (i : Nat) {p : Addr} {n : Str} {xs : List α} {x : α} (hσ : σ[i]? = some (some (.ref p))) (o : Own X.K s p xs) (he : Ev X e σ s x) (hz : xs.length < sizeLine)
    (k : ∀ s1, Mx (· = p) s s1 → Own X.K s1 p (xs ++ [x]) → WSs X rest D σ s1.H)
    (hN : X.N[i]? = some n := by rfl) (hv : Vis X.env.scope n := by first | exact Or.inl rfl | exact Or.inr (Or.inl rfl) | exact Or.inr (Or.inr rfl)) (hd : (n == ("__debug__" : Str)) = false := by decide) (hcd : (n == ("__classdict__" : Str)) = false := by decide)
    (hbase : attributeBase (.Name n p0) "append" X.env (eval (.Name n p0) X.env) = eval (.Name n p0) X.env := by rfl)
    (hfew : ((backTo p2 (starEach [e] X.env)).all (fun x => !x.1) && (backToKw p2 (keywordEach [] X.env)).all (fun x => x.1.isSome) && decide (([e] : List Expr).length + ([] : List Keyword).length + (if ([] : List Keyword).isEmpty then 0 else 1) < 30)) = true := by rfl)
    (hline : (p1.endLine == p2.line) = true := by rfl) (hs : starEach [e] X.env = (false, eval e X.env) :: starEach [] X.env := by rfl) (hplain : (backTo p2 (starEach [] X.env)).any (·.1) = false := by rfl)
    (hsw : swapsWith (.Call (.Attribute (.Name n p0) "append" p1) [e] [] p2) none p3.line X.env = pure false := by rfl) :
    WSs X (.Expr (.Call (.Attribute (.Name n p0) "append" p1) [e] [] p2) p3 :: rest) D σ s.H :=
  do_cons (ps_expr (pe_bm PySem.F.plainAttrs_list PySem.F.slot_list_append PySem.F.type_list_append mt_append (pe_var hN hv hd hcd) (pa_cons pe_we pa_nil hs) hbase hfew hline hs hplain) hsw) (by
    obtain ⟨h1, vs, h2, h3⟩ := id o
    refine ⟨_, hσ, .inl ⟨rfl, vs, .inl (.inl h2)⟩, he s (Ex.refl _) _ fun v s1 k1 r1 => ?_⟩
    have f1 := k1.n _ _ h2 h1
    have g1 := k1.h _ _ h2
    refine ⟨p, vs, v, rfl, rfl, g1, by rw [h3.len]; exact hz, ?_⟩
    exact k (s1.put p (.lst (vs ++ [v])) f1) (k1.mx.trans (Mx.put f1)) ⟨f1, _, upd_same, (h3.mono k1.f).snoc r1⟩)
theorem do_extend (i : Nat) {p : Addr} {n : Str} {xs ys : List α} (hσ : σ[i]? = some (some (.ref p))) (o : Own X.K s p xs) (he : EvN X e σ s ys) (hz : xs.length + ys.length ≤ sizeLine)
    (k : ∀ s1, Mx (· = p) s s1 → Own X.K s1 p (xs ++ ys) → WSs X rest D σ s1.H)
    (hN : X.N[i]? = some n := by rfl) (hv : Vis X.env.scope n := by first | exact Or.inl rfl | exact Or.inr (Or.inl rfl) | exact Or.inr (Or.inr rfl)) (hd : (n == ("__debug__" : Str)) = false := by decide) (hcd : (n == ("__classdict__" : Str)) = false := by decide)
    (hbase : attributeBase (.Name n p0) "extend" X.env (eval (.Name n p0) X.env) = eval (.Name n p0) X.env := by rfl)
    (hfew : ((backTo p2 (starEach [e] X.env)).all (fun x => !x.1) && (backToKw p2 (keywordEach [] X.env)).all (fun x => x.1.isSome) && decide (([e] : List Expr).length + ([] : List Keyword).length + (if ([] : List Keyword).isEmpty then 0 else 1) < 30)) = true := by rfl)
    (hline : (p1.endLine == p2.line) = true := by rfl) (hs : starEach [e] X.env = (false, eval e X.env) :: starEach [] X.env := by rfl) (hplain : (backTo p2 (starEach [] X.env)).any (·.1) = false := by rfl)
    (hsw : swapsWith (.Call (.Attribute (.Name n p0) "extend" p1) [e] [] p2) none p3.line X.env = pure false := by rfl) :
    WSs X (.Expr (.Call (.Attribute (.Name n p0) "extend" p1) [e] [] p2) p3 :: rest) D σ s.H :=
  do_cons (ps_expr (pe_bm PySem.F.plainAttrs_list PySem.F.slot_list_extend PySem.F.type_list_extend mt_extend (pe_var hN hv hd hcd) (pa_cons pe_we pa_nil hs) hbase hfew hline hs hplain) hsw) (by
    obtain ⟨h1, vs, h2, h3⟩ := id o
    refine ⟨_, hσ, .inl ⟨rfl, vs, .inl (.inl h2)⟩, he s (Ex.refl _) _ fun q s1 k1 n1 o1 => ?_⟩
    obtain ⟨_, ws, h4, h5⟩ := o1
    have f1 := k1.n _ _ h2 h1
    have g1 := k1.h _ _ h2
    refine ⟨p, q, vs, ws, rfl, rfl, g1, h4, by rw [h3.len, h5.len]; exact hz, ?_⟩
    exact k (s1.put p (.lst (vs ++ ws)) f1) (k1.mx.trans (Mx.put f1)) ⟨f1, _, upd_same, (h3.mono k1.f).app h5⟩)
theorem do_setItem (i : Nat) {p : Addr} {n : Str} {xs : List α} {x : α} {z : Int} {j : Nat} (hσ : σ[i]? = some (some (.ref p))) (o : Own X.K s p xs) (he : Ev X e σ s x) (hi : Ev X a σ s z) (hj : ixN xs.length z = some j)
    (k : ∀ s1, Mx (· = p) s s1 → Own X.K s1 p (xs.set j x) → WSs X rest D σ s1.H)
    (hN : X.N[i]? = some n := by rfl) (hv : Vis X.env.scope n := by first | exact Or.inl rfl | exact Or.inr (Or.inl rfl) | exact Or.inr (Or.inr rfl)) (hd : (n == ("__debug__" : Str)) = false := by decide) (hcd : (n == ("__classdict__" : Str)) = false := by decide)
    (ha : ∀ v, assign (.Subscript (.Name n p0) a p1) X.env v = (do
      let ov ← holding [v] (eval (.Name n p0) X.env)
      let iv ← holding [v, ov] (eval a X.env)
      standAt p1
      holding [v, ov, iv] (setItem ov iv v)
      release [v, ov, iv] []) := by intro _; rfl)
    (hs : swapsWithSole [.Subscript (.Name n p0) a p1] e pos.line X.env = pure false := by rfl) (hw : swappedStores [.Subscript (.Name n p0) a p1] e X.env = pure none := by rfl)
    (h1 : (assignEach [.Subscript (.Name n p0) a p1] X.env).map (·.2) = [assign (.Subscript (.Name n p0) a p1) X.env] := by rfl) :
    WSs X (.Assign [.Subscript (.Name n p0) a p1] e pos :: rest) D σ s.H :=
  do_cons (ps_asg pe_we (pg_sub (pe_var hN hv hd hcd) pe_we set_list ha) hs hw h1) (by
    obtain ⟨f0, vs, h2, h3⟩ := id o
    refine he s (Ex.refl _) _ fun v s1 k1 r1 => ⟨_, hσ, hi s1 k1 _ fun u s2 k2 r2 => ?_⟩
    have k3 := k1.trans k2
    have f1 := k3.n _ _ h2 f0
    have g1 := k3.h _ _ h2
    refine ⟨p, vs, z, j, rfl, r2, g1, by rw [h3.len]; exact hj, ?_⟩
    exact k (s2.put p (.lst (vs.set j v)) f1) (k3.mx.trans (Mx.put f1)) ⟨f1, _, upd_same, (h3.mono k3.f).set j (Enc.mono k2.f r1)⟩)
theorem do_frz {p : Addr} {xs : List α} {ss : List Stmt} (o : Own X.K s p xs) (k : ∀ s' : S, s'.H = s.H → Fle s.F s'.F → (∀ q, q ≠ p → s'.F q = s.F q) → rep X.K s'.F (.ref p) xs → WSs X ss D σ s'.H) : WSs X ss D σ s.H := by
  obtain ⟨s', h1, h2, h3, h4⟩ := o.frz
  have := k s' h1 h2 h3 h4
  rw [h1] at this
  exact this

theorem foldO_drop {τ υ : Type} {f : υ → τ → Option υ} {b b1 : υ} {xs : List τ} {i : Nat} (hi : i < xs.length) (h : foldO f b (xs.drop i) = some b1) : ∃ b', f b xs[i] = some b' ∧ foldO f b' (xs.drop (i + 1)) = some b1 := by
  rw [List.drop_eq_getElem_cons hi] at h
  exact bndE h
theorem do_for_core {τ : Type} [Enc τ] {xs : List τ} {body : List Stmt} {g : TG} {B : Hp → τ → St → St → Prop} (hp : PassesOwn (model X.prog X.w) X.A X.env X.xe) (hc : X.calm = true) (hi : EvI X tg iter σ s xs) (hg : PG X tg g) (T : Tgt (α := τ) X.K g B)
    (R : Nat → St → S → Prop) (h0 : ∀ s1, Ex s s1 → R 0 σ s1)
    (hb : ∀ s1, Ex s s1 → ∀ (i : Nat) (x : τ) (σ' σ2 : St) (t t' : S), xs[i]? = some x → Fle s1.F t.F → R i σ' t → Ex t t' → B t'.F x σ' σ2 → WSs X body (LD D fun σ s => Fle t'.F s.F ∧ R (i + 1) σ s) σ2 t'.H)
    (hd : ∀ s1, Ex s s1 → ∀ σ' t, Fle s1.F t.F → R xs.length σ' t → WSs X rest D σ' t.H)
    (hs : ∀ x, foldedSetIterable iter X.env x = pure x := by intro _; rfl) : WSs X (.For tg iter body [] pos :: rest) D σ s.H :=
  do_cons (ps_for hp hc pi_wi hg pss_ws hs) (hi s (Ex.refl _) _ fun J s1 k1 W => by
    refine ⟨fun i m σ' H' => ∃ t : S, t.H = H' ∧ m = xs.length - i ∧ i ≤ xs.length ∧ Fle s1.F t.F ∧ R i σ' t, ⟨xs.length, s1, rfl, rfl, Nat.zero_le _, Fle.refl _, h0 s1 k1⟩, ?_⟩
    rintro i m σ' H' ⟨t, rfl, rfl, hle, f, r⟩
    by_cases hlt : i < xs.length
    · right
      obtain ⟨g1, g2⟩ := W.go i t xs[i] f (List.getElem?_eq_getElem hlt)
      refine ⟨g1, fun σ' H' => ∃ u : S, u.H = H' ∧ Fle s1.F u.F ∧ R (i + 1) σ' u, fun σ' H' ⟨u, e1, f1, r1⟩ => ⟨xs.length - (i + 1), by omega, u, e1, rfl, hlt, f1, r1⟩, fun v H' hy => ?_⟩
      obtain ⟨t', rfl, kt, rv⟩ := g2 v H' hy
      refine T.run t' v xs[i] _ _ rv fun σ2 hB => ?_
      have := hb s1 k1 i xs[i] σ' σ2 t t' (List.getElem?_eq_getElem hlt) f r kt hB
      exact this.imp (fun σ3 H3 ⟨u, e1, f1, r1⟩ => ⟨u, e1, (f.trans kt.f).trans f1, r1⟩) (fun _ _ q => q) (fun _ _ q => q.elim) (fun _ _ q => q.elim)
    · left
      have e : i = xs.length := by omega
      subst e
      exact ⟨W.stop _ t f (Nat.le_refl _), hd s1 k1 σ' t f r⟩)
theorem do_forO {τ υ : Type} [Enc τ] {xs : List τ} {f : υ → τ → Option υ} {b0 b1 : υ} {body : List Stmt} {g : TG} {B : Hp → τ → St → St → Prop} (hp : PassesOwn (model X.prog X.w) X.A X.env X.xe) (hc : X.calm = true) (hi : EvI X tg iter σ s xs) (hg : PG X tg g) (T : Tgt (α := τ) X.K g B)
    (hf : foldO f b0 xs = some b1) (R : υ → St → S → Prop) (h0 : ∀ s1, Ex s s1 → R b0 σ s1)
    (hb : ∀ s1, Ex s s1 → ∀ (x : τ) (b b' : υ) (σ' σ2 : St) (t t' : S), x ∈ xs → f b x = some b' → Fle s1.F t.F → R b σ' t → Ex t t' → B t'.F x σ' σ2 → WSs X body (LD D fun σ s => Fle t'.F s.F ∧ R b' σ s) σ2 t'.H)
    (hd : ∀ s1, Ex s s1 → ∀ σ' t, Fle s1.F t.F → R b1 σ' t → WSs X rest D σ' t.H)
    (hs : ∀ x, foldedSetIterable iter X.env x = pure x := by intro _; rfl) : WSs X (.For tg iter body [] pos :: rest) D σ s.H :=
  do_for_core hp hc hi hg T (fun i σ' t => ∃ b, foldO f b (xs.drop i) = some b1 ∧ R b σ' t) (fun s1 k => ⟨b0, hf, h0 s1 k⟩)
    (fun s1 k i x σ' σ2 t t' hx fl ⟨b, h1, h2⟩ kt hB => by
      obtain ⟨hlt, rfl⟩ := List.getElem?_eq_some_iff.mp hx
      obtain ⟨b', h3, h4⟩ := foldO_drop hlt h1
      exact (hb s1 k xs[i] b b' σ' σ2 t t' (List.getElem_mem hlt) h3 fl h2 kt hB).imp (fun σ3 H3 ⟨u, e1, f1, r1⟩ => ⟨u, e1, f1, b', h4, r1⟩) (fun _ _ q => q) (fun _ _ q => q.elim) (fun _ _ q => q.elim))
    (fun s1 k σ' t fl ⟨b, h1, h2⟩ => by
      rw [List.drop_length] at h1
      cases h1
      exact hd s1 k σ' t fl h2) hs
theorem foldF_drop {τ υ ρ : Type} {f : υ → τ → Option (Fl υ ρ)} {b : υ} {o : Fl υ ρ} {xs : List τ} {i : Nat} (hi : i < xs.length) (h : foldF f b (xs.drop i) = some o) : ∃ q, f b xs[i] = some q ∧ (∀ b', q = .nx b' → foldF f b' (xs.drop (i + 1)) = some o) ∧ ∀ r, q = .rt r → o = .rt r := by
  rw [List.drop_eq_getElem_cons hi] at h
  obtain ⟨q, h1, h2⟩ := bndE h
  refine ⟨q, h1, fun b' e => by subst e; exact h2, fun r e => by subst e; exact (Option.some.inj h2).symm⟩
theorem do_forF {τ υ ρ : Type} [Enc τ] {xs : List τ} {f : υ → τ → Option (Fl υ ρ)} {b0 : υ} {o : Fl υ ρ} {body : List Stmt} {g : TG} {B : Hp → τ → St → St → Prop} (hp : PassesOwn (model X.prog X.w) X.A X.env X.xe) (hc : X.calm = true) (hi : EvI X tg iter σ s xs) (hg : PG X tg g) (T : Tgt (α := τ) X.K g B)
    (hf : foldF f b0 xs = some o) (R : υ → St → S → Prop) (h0 : ∀ s1, Ex s s1 → R b0 σ s1)
    (hb : ∀ s1, Ex s s1 → ∀ (x : τ) (b : υ) (q : Fl υ ρ) (σ' σ2 : St) (t t' : S), x ∈ xs → f b x = some q → (∀ r, q = .rt r → o = .rt r) → Fle s1.F t.F → R b σ' t → Ex t t' → B t'.F x σ' σ2 → WSs X body (LD D fun σ s => ∃ b', q = .nx b' ∧ Fle t'.F s.F ∧ R b' σ s) σ2 t'.H)
    (hd : ∀ s1, Ex s s1 → ∀ b1 σ' t, o = .nx b1 → Fle s1.F t.F → R b1 σ' t → WSs X rest D σ' t.H)
    (hs : ∀ x, foldedSetIterable iter X.env x = pure x := by intro _; rfl) : WSs X (.For tg iter body [] pos :: rest) D σ s.H :=
  do_for_core hp hc hi hg T (fun i σ' t => ∃ b, foldF f b (xs.drop i) = some o ∧ R b σ' t) (fun s1 k => ⟨b0, hf, h0 s1 k⟩)
    (fun s1 k i x σ' σ2 t t' hx fl ⟨b, h1, h2⟩ kt hB => by
      obtain ⟨hlt, rfl⟩ := List.getElem?_eq_some_iff.mp hx
      obtain ⟨q, h3, h4, h5⟩ := foldF_drop hlt h1
      exact (hb s1 k xs[i] b q σ' σ2 t t' (List.getElem_mem hlt) h3 h5 fl h2 kt hB).imp (fun σ3 H3 ⟨u, e1, b', e2, f1, r1⟩ => ⟨u, e1, f1, b', h4 b' e2, r1⟩) (fun _ _ q => q) (fun _ _ q => q.elim) (fun _ _ q => q.elim))
    (fun s1 k σ' t fl ⟨b, h1, h2⟩ => by
      rw [List.drop_length] at h1
      cases h1
      exact hd s1 k b σ' t rfl fl h2) hs
theorem do_whileO {υ : Type} {cf : υ → Option Bool} {f : υ → Option υ} {n : Nat} {b0 b1 : υ} {body : List Stmt} (hp : PassesOwn (model X.prog X.w) X.A X.env X.xe) (hf : whileO cf f n b0 = some b1) (R : υ → St → S → Prop) (h0 : R b0 σ s)
    (hc : ∀ (b : υ) (x : Bool) (σ' : St) (t : S), cf b = some x → Fle s.F t.F → R b σ' t → EvT X c σ' t x)
    (hb : ∀ (b b' : υ) (σ' : St) (t t' : S), cf b = some true → f b = some b' → Fle s.F t.F → R b σ' t → Ex t t' → WSs X body (LD D fun σ s => Fle t'.F s.F ∧ R b' σ s) σ' t'.H)
    (hd : ∀ σ' t t', cf b1 = some false → Fle s.F t.F → R b1 σ' t → Ex t t' → WSs X rest D σ' t'.H) : WSs X (.While c body [] pos :: rest) D σ s.H :=
  do_cons (ps_while hp pt_wt pss_ws) (by
    refine ⟨fun m σ' H' => ∃ (t : S) (b : υ), t.H = H' ∧ Fle s.F t.F ∧ whileO cf f m b = some b1 ∧ R b σ' t, ⟨n, s, b0, rfl, Fle.refl _, hf, h0⟩, ?_⟩
    rintro m σ' H' ⟨t, b, rfl, fl, h1, h2⟩
    cases m with
    | zero => cases h1
    | succ m =>
      obtain ⟨x, h3, h4⟩ := bndE h1
      refine hc b x σ' t h3 fl h2 t (Ex.refl _) _ fun t' kt => ?_
      cases x with
      | true =>
        refine iteT ?_
        rw [if_pos rfl] at h4
        obtain ⟨b', h5, h6⟩ := bndE h4
        refine ⟨fun σ3 H3 => ∃ u : S, u.H = H3 ∧ Fle s.F u.F ∧ R b' σ3 u, fun σ3 H3 ⟨u, e1, f1, r1⟩ => ⟨m, Nat.lt_succ_self _, u, b', e1, f1, h6, r1⟩, ?_⟩
        exact (hb b b' σ' t t' h3 h5 fl h2 kt).imp (fun σ3 H3 ⟨u, e1, f1, r1⟩ => ⟨u, e1, (fl.trans kt.f).trans f1, r1⟩) (fun _ _ q => q) (fun _ _ q => q.elim) (fun _ _ q => q.elim)
      | false =>
        refine iteF ?_
        rw [if_neg Bool.false_ne_true] at h4
        cases h4
        exact hd σ' t t' h3 fl h2 kt)
end
end Dy

namespace Dy
open PySem PySem.Spec L2
open PyProof.Rows hiding St
open Enc (rep)
open Flat (toV)
open EncA (repA)

section
variable {P : Program} {w : World} {K : PySem.W.Frag} {mg : Str → Option Value} {base : Heap}
abbrev FunP (K : PySem.W.Frag) (x : Str) (st : Stmt) (f : Addr) (fd : FuncData) : Prop := FunD K x x (defArgs st) (defBody st) (defScope st) [] [] f fd
theorem mk_fn {A ρ : Type} [EncA A] [Enc ρ] {m : A → Option ρ} {x : Str} {st : Stmt} {f : Addr} {fd : FuncData} {N ps : List Str} {k : Nat} (F : FunP K x st f fd) (Sc : FnScope N ps (defScope st))
    (hl : ∀ (F : Hp) (vs : List V) (a : A), repA K F vs a → vs.length = ps.length)
    (body : ∀ (cdv : Value) (A' : Around) (outer : List Env) (s0 : Shared) (H0 : Hp) (E0 : XK), Room k (A'.deeper (envOfC x (defScope st) s0.heap.objs.size f cdv)) → ∀ (s : S) (vs : List V) (a : A) (r : ρ) (Q : VK), repA K s.F vs a → m a = some r →
      (∀ v s', Ex s s' → rep K s'.F v r → Q v s'.H) → WSs (cxOf CX0 P w K mg base N x (defScope st) f cdv A' outer s0 H0 E0).nox (defBody st) (RD Q) (start N vs) s.H) : FnOk P w K mg base CX0 (k + 1) f fd ps (sp K m) :=
  F.ok Sc (fun vs H Q E ⟨s, a, r, _, h, _⟩ => hl s.F vs a h) (fun cdv A' outer s0 H0 vs Q E hr ⟨s, a, r, e, h1, h2, h3⟩ => ⟨_, pss_ws.nox, by
    have := body cdv A' outer s0 H0 E hr s vs a r Q h1 h2 h3
    rw [e] at this
    exact this⟩)
theorem mk_cal {A ρ : Type} [EncA A] [Enc ρ] {m : A → Option ρ} {x : Str} {st : Stmt} {f : Addr} {fd : FuncData} {N ps : List Str} {k : Nat} (F : FunP K x st f fd) (hm : mg x = some (.ref f)) (b : Binds K fd ps []) (Sc : FnScope N ps (defScope st))
    (hl : ∀ (F : Hp) (vs : List V) (a : A), repA K F vs a → vs.length = ps.length)
    (body : ∀ (cdv : Value) (A' : Around) (outer : List Env) (s0 : Shared) (H0 : Hp) (E0 : XK), Room k (A'.deeper (envOfC x (defScope st) s0.heap.objs.size f cdv)) → ∀ (s : S) (vs : List V) (a : A) (r : ρ) (Q : VK), repA K s.F vs a → m a = some r →
      (∀ v s', Ex s s' → rep K s'.F v r → Q v s'.H) → WSs (cxOf CX0 P w K mg base N x (defScope st) f cdv A' outer s0 H0 E0).nox (defBody st) (RD Q) (start N vs) s.H) : Cal P w K mg base CX0 (k + 1) x (sp K m) :=
  ⟨f, fd, ps, F.ok Sc (fun vs H Q E ⟨s, a, r, _, h, _⟩ => hl s.F vs a h) (fun cdv A' outer s0 H0 vs Q E hr ⟨s, a, r, e, h1, h2, h3⟩ => ⟨_, pss_ws.nox, by
    have := body cdv A' outer s0 H0 E hr s vs a r Q h1 h2 h3
    rw [e] at this
    exact this⟩), hm, F.kp, b⟩
theorem mk_calN {A ρ : Type} [EncA A] [Enc ρ] {m : A → Option (List ρ)} {x : Str} {st : Stmt} {f : Addr} {fd : FuncData} {N ps : List Str} {k : Nat} (F : FunP K x st f fd) (hm : mg x = some (.ref f)) (b : Binds K fd ps []) (Sc : FnScope N ps (defScope st))
    (hl : ∀ (F : Hp) (vs : List V) (a : A), repA K F vs a → vs.length = ps.length)
    (body : ∀ (cdv : Value) (A' : Around) (outer : List Env) (s0 : Shared) (H0 : Hp) (E0 : XK), Room k (A'.deeper (envOfC x (defScope st) s0.heap.objs.size f cdv)) → ∀ (s : S) (vs : List V) (a : A) (r : List ρ) (Q : VK), repA K s.F vs a → m a = some r →
      (∀ p s', Ex s s' → s.H p = none → Own K s' p r → Q (.ref p) s'.H) → WSs (cxOf CX0 P w K mg base N x (defScope st) f cdv A' outer s0 H0 E0).nox (defBody st) (RD Q) (start N vs) s.H) : Cal P w K mg base CX0 (k + 1) x (spN K m) :=
  ⟨f, fd, ps, F.ok Sc (fun vs H Q E ⟨s, a, r, _, h, _⟩ => hl s.F vs a h) (fun cdv A' outer s0 H0 vs Q E hr ⟨s, a, r, e, h1, h2, h3⟩ => ⟨_, pss_ws.nox, by
    have := body cdv A' outer s0 H0 E hr s vs a r Q h1 h2 h3
    rw [e] at this
    exact this⟩), hm, F.kp, b⟩
theorem len1 {α : Type} [Enc α] (F : Hp) (vs : List V) (a : α × Unit) (h : repA K F vs a) : vs.length = 1 := by obtain ⟨_, _, rfl, _, rfl⟩ := h; rfl
theorem len2 {α β : Type} [Enc α] [Enc β] (F : Hp) (vs : List V) (a : α × β × Unit) (h : repA K F vs a) : vs.length = 2 := by obtain ⟨_, _, rfl, _, _, _, rfl, _, rfl⟩ := h; rfl
theorem len3 {α β γ : Type} [Enc α] [Enc β] [Enc γ] (F : Hp) (vs : List V) (a : α × β × γ × Unit) (h : repA K F vs a) : vs.length = 3 := by obtain ⟨_, _, rfl, _, _, _, rfl, _, _, _, rfl, _, rfl⟩ := h; rfl
theorem len4 {α β γ δ : Type} [Enc α] [Enc β] [Enc γ] [Enc δ] (F : Hp) (vs : List V) (a : α × β × γ × δ × Unit) (h : repA K F vs a) : vs.length = 4 := by obtain ⟨_, _, rfl, _, _, _, rfl, _, _, _, rfl, _, _, _, rfl, _, rfl⟩ := h; rfl
theorem len5 {α β γ δ ε : Type} [Enc α] [Enc β] [Enc γ] [Enc δ] [Enc ε] (F : Hp) (vs : List V) (a : α × β × γ × δ × ε × Unit) (h : repA K F vs a) : vs.length = 5 := by obtain ⟨_, _, rfl, _, _, _, rfl, _, _, _, rfl, _, _, _, rfl, _, _, _, rfl, _, rfl⟩ := h; rfl
theorem len6 {α β γ δ ε ζ : Type} [Enc α] [Enc β] [Enc γ] [Enc δ] [Enc ε] [Enc ζ] (F : Hp) (vs : List V) (a : α × β × γ × δ × ε × ζ × Unit) (h : repA K F vs a) : vs.length = 6 := by obtain ⟨_, _, rfl, _, _, _, rfl, _, _, _, rfl, _, _, _, rfl, _, _, _, rfl, _, _, _, rfl, _, rfl⟩ := h; rfl
end

class Ty (α : Type) extends Enc α where
  ty : α → String
  is : ∀ {K : PySem.W.Frag} {F H : Hp} {v : V} {x : α}, rep K F v x → Fle F H → TyX K H v (.type (ty x))
theorem sql_ty {K : PySem.W.Frag} {H : Hp} {p : Addr} {vs : List V} (h : SqL K H p vs) : TyX K H (.ref p) (.type "list") := by
  rcases h with (h | ⟨o, h⟩) | ⟨o, its, n, h, hc, _⟩
  · exact .base (.lst h)
  · exact .base (.frz h)
  · exact .kList h hc
theorem sqt_ty {K : PySem.W.Frag} {H : Hp} {p : Addr} {vs : List V} (h : SqT K H p vs) : TyX K H (.ref p) (.type "tuple") := by
  rcases h with (h | ⟨o, h⟩) | ⟨o, its, n, h, hc, _⟩
  · exact .base (.tup h)
  · exact .fTuple h
  · exact .kTuple h hc
instance : Ty Int := ⟨fun _ => "int", fun {K F H v x} h _ => by rw [show v = V.int x from h]; exact .base (.int _)⟩
instance : Ty Bool := ⟨fun _ => "bool", fun {K F H v x} h _ => by rw [show v = V.bl x from h]; exact .base (.bl _)⟩
instance : Ty Str := ⟨fun _ => "str", fun {K F H v x} h _ => by rw [show v = V.str x from h]; exact .base (.str _)⟩
instance {α : Type} [Ty α] : Ty (Option α) := ⟨fun x => match x with | none => "NoneType" | some y => Ty.ty y, fun {K F H v x} h f => by
  cases x with
  | none => rw [show v = V.non from h]; exact .base .non
  | some y => exact Ty.is (α := α) h f⟩
instance {α : Type} [Enc α] : Ty (List α) := ⟨fun _ => "list", fun h f => by
  obtain ⟨p, vs, rfl, h1, _⟩ := h
  exact sql_ty (sql_mono f h1)⟩
instance {α : Type} [Enc α] : Ty (Tu α) := ⟨fun _ => "tuple", fun h f => by
  obtain ⟨p, vs, rfl, h1, _⟩ := h
  exact sqt_ty (sqt_mono f h1)⟩
instance {α β : Type} [Enc α] [Enc β] : Ty (α × β) := ⟨fun _ => "tuple", fun h f => by
  obtain ⟨p, v1, v2, rfl, h1, _⟩ := h
  exact sqt_ty (sqt_mono f h1)⟩
instance {α : Type} [Enc α] : Ty (T1 α) := ⟨fun _ => "tuple", fun h f => by
  obtain ⟨p, v1, rfl, h1, _⟩ := h
  exact sqt_ty (sqt_mono f h1)⟩
instance {α β γ : Type} [Enc α] [Enc β] [Enc γ] : Ty (T3 α β γ) := ⟨fun _ => "tuple", fun h f => by
  obtain ⟨p, v1, v2, v3, rfl, h1, _⟩ := h
  exact sqt_ty (sqt_mono f h1)⟩
instance {α β γ δ : Type} [Enc α] [Enc β] [Enc γ] [Enc δ] : Ty (T4 α β γ δ) := ⟨fun _ => "tuple", fun h f => by
  obtain ⟨p, v1, v2, v3, v4, rfl, h1, _⟩ := h
  exact sqt_ty (sqt_mono f h1)⟩
instance {α β γ δ ε : Type} [Enc α] [Enc β] [Enc γ] [Enc δ] [Enc ε] : Ty (T5 α β γ δ ε) := ⟨fun _ => "tuple", fun h f => by
  obtain ⟨p, v1, v2, v3, v4, v5, rfl, h1, _⟩ := h
  exact sqt_ty (sqt_mono f h1)⟩
section
variable {α β : Type} {X : Cx} {σ : St} {s : S} {a b : Expr} {pos p0 p1 p2 p3 : Pos}
theorem ev_isi [Ty α] {x : α} {n : Str} {T : String} {r : Bool} (hm : X.mg "isinstance" = none) (hn : X.mg n = none) (hv : bootBuiltins n = some (.type T)) (ha : Ev X a σ s x) (h : kitB (Ty.ty x) T = some r)
    (hg : Gl X "isinstance" := by rfl) (hgn : Gl X n := by rfl) (he : starEach [a, .Name n p1] X.env = (false, eval a X.env) :: starEach [.Name n p1] X.env := by rfl) (he2 : starEach [.Name n p1] X.env = (false, eval (.Name n p1) X.env) :: starEach [] X.env := by rfl) (hpl : (backTo pos (starEach [.Name n p1] X.env)).any (·.1) = false := by rfl)
    (hnn : n ≠ "__name__" := by decide) (hnd : (n == ("__debug__" : Str)) = false := by decide) :
    Ev X (.Call (.Name "isinstance" p0) [a, .Name n p1] [] pos) σ s r := fun s1 k Q q =>
  we_of (pe_callB call_isi hg hm (by decide +kernel) (pa_cons pe_we (pa_cons (pe_bltn (v := .ty T) hgn hn hv rfl hnn hnd) pa_nil he2) he) (he := he) (hpl := hpl)) (ha s1 k _ fun v s2 k2 r2 =>
    ⟨v, .ty T, .type (Ty.ty x), .type T, r, rfl, .ty T, Ty.is r2 s2.sub, kit_ty h, q _ s2 k2 rfl⟩)

class EqD (α : Type) extends Enc α where
  toD : α → PyData
  dp : ∀ {K : PySem.W.Frag} {F H : Hp} {v : V} {x : α}, rep K F v x → Fle F H → Dp K H v (toD x)
  eqv : ∀ x y : α, PyData.eqv (toD x) (toD y) = true ↔ x = y
def DpR {α : Type} [EqD α] {K : PySem.W.Frag} {F H : Hp} (f : Fle F H) : ∀ {vs : List V} {xs : List α}, Reps K F vs xs → DpAll K H vs (xs.map EqD.toD)
  | [], [], _ => .nil
  | _ :: _, _ :: _, ⟨h, t⟩ => .cons (EqD.dp h f) (DpR f t)
  | [], _ :: _, h => h.elim
  | _ :: _, [], h => h.elim
theorem eqv_all {α : Type} [EqD α] : ∀ xs ys : List α, PyData.eqvAll (xs.map EqD.toD) (ys.map EqD.toD) = true ↔ xs = ys
  | [], [] => by simp [PyData.eqvAll]
  | [], _ :: _ => by simp [PyData.eqvAll]
  | _ :: _, [] => by simp [PyData.eqvAll]
  | x :: xs, y :: ys => by
    show (PyData.eqv (EqD.toD x) (EqD.toD y) && PyData.eqvAll (xs.map EqD.toD) (ys.map EqD.toD)) = true ↔ _
    rw [Bool.and_eq_true, EqD.eqv, eqv_all xs ys]
    simp
instance : EqD Int := ⟨PyData.int, fun {K F H v x} h _ => by rw [show v = V.int x from h]; exact .int _, fun x y => by show (x == y) = true ↔ _; simp⟩
instance : EqD Bool := ⟨PyData.bool, fun {K F H v x} h _ => by rw [show v = V.bl x from h]; exact .bl _, fun x y => by show (x == y) = true ↔ _; simp⟩
instance : EqD Str := ⟨PyData.str, fun {K F H v x} h _ => by rw [show v = V.str x from h]; exact .str _, fun x y => by show (x == y) = true ↔ _; simp⟩
instance : EqD (Option Int) := ⟨fun x => match x with | none => .none | some i => .int i, fun {K F H v x} h _ => by
  cases x with
  | none => rw [show v = V.non from h]; exact .non
  | some i => rw [show v = V.int i from h]; exact .int _, fun x y => by cases x <;> cases y <;> simp [PyData.eqv]⟩
instance : EqD (Option Str) := ⟨fun x => match x with | none => .none | some i => .str i, fun {K F H v x} h _ => by
  cases x with
  | none => rw [show v = V.non from h]; exact .non
  | some i => rw [show v = V.str i from h]; exact .str _, fun x y => by cases x <;> cases y <;> simp [PyData.eqv]⟩
instance {α : Type} [EqD α] : EqD (List α) := ⟨fun xs => .list (xs.map EqD.toD), fun h f => by
  obtain ⟨p, vs, rfl, h1, h2⟩ := h
  exact .lst (sql_mono f h1) (DpR f h2), fun x y => eqv_all x y⟩
instance {α : Type} [EqD α] : EqD (Tu α) := ⟨fun xs => .tuple (xs.l.map EqD.toD), fun h f => by
  obtain ⟨p, vs, rfl, h1, h2⟩ := h
  exact .tup (sqt_mono f h1) (DpR f h2), fun x y => by
    obtain ⟨x⟩ := x
    obtain ⟨y⟩ := y
    show PyData.eqvAll _ _ = true ↔ _
    rw [eqv_all]; simp⟩
instance {α β : Type} [EqD α] [EqD β] : EqD (α × β) := ⟨fun x => .tuple [EqD.toD x.1, EqD.toD x.2], fun h f => by
  obtain ⟨p, v1, v2, rfl, h0, h1, h2⟩ := h
  exact .tup (sqt_mono f h0) (.cons (EqD.dp h1 f) (.cons (EqD.dp h2 f) .nil)), fun x y => by
    obtain ⟨x1, x2⟩ := x
    obtain ⟨y1, y2⟩ := y
    show (PyData.eqv _ _ && (PyData.eqv _ _ && true)) = true ↔ _
    rw [Bool.and_eq_true, Bool.and_eq_true, EqD.eqv, EqD.eqv]; simp⟩
instance {α β γ : Type} [EqD α] [EqD β] [EqD γ] : EqD (T3 α β γ) := ⟨fun x => .tuple [EqD.toD x.a, EqD.toD x.b, EqD.toD x.c], fun h f => by
  obtain ⟨p, v1, v2, v3, rfl, h0, h1, h2, h3⟩ := h
  exact .tup (sqt_mono f h0) (.cons (EqD.dp h1 f) (.cons (EqD.dp h2 f) (.cons (EqD.dp h3 f) .nil))), fun x y => by
    obtain ⟨x1, x2, x3⟩ := x
    obtain ⟨y1, y2, y3⟩ := y
    show (PyData.eqv _ _ && (PyData.eqv _ _ && (PyData.eqv _ _ && true))) = true ↔ _
    rw [Bool.and_eq_true, Bool.and_eq_true, Bool.and_eq_true, EqD.eqv, EqD.eqv, EqD.eqv]; simp⟩
instance {α : Type} [EqD α] : EqD (T1 α) := ⟨fun x => .tuple [EqD.toD x.a], fun h f => by
  obtain ⟨p, v1, rfl, h0, h1⟩ := h
  exact .tup (sqt_mono f h0) (.cons (EqD.dp h1 f) .nil), fun x y => by
    obtain ⟨x1⟩ := x
    obtain ⟨y1⟩ := y
    show (PyData.eqv _ _ && true) = true ↔ _
    rw [Bool.and_eq_true, EqD.eqv]; simp⟩
def shp {α : Type} [EqD α] (x : α) : Prop := SeqAt.shaped (EqD.toD x) = true
theorem eqv_dec {α : Type} [EqD α] [DecidableEq α] (x y : α) : PyData.eqv (EqD.toD x) (EqD.toD y) = decide (x = y) := by
  rw [Bool.eq_iff_iff, EqD.eqv, decide_eq_true_eq]
theorem repR_d {α : Type} [EqD α] {K : PySem.W.Frag} {v : V} {xs : List α} (h : RepR K s v xs) : Dp K s.H v (EqD.toD xs) := by
  obtain ⟨p, vs, rfl, h1, h2⟩ := h
  exact .lst h1 (DpR s.sub h2)
theorem hu64 {j : Nat} (hr : Room j X.A) : X.A.units + 64 < cLine := by
  have := hr.un
  omega
theorem eb_eqD [EqD α] [DecidableEq α] {x y : α} {j : Nat} (hr : Room j X.A) (ha : Ev X a σ s x) (hb : Ev X b σ s y) (h1 : shp x) (h2 : shp y) : EvB X (.Compare a [.Eq] [b] pos) σ s (decide (x = y)) :=
  eb_cmp (op_eqD (hu64 hr)) ha hb (fun v u s2 hv hu Q q => ⟨_, _, EqD.dp hv s2.sub, EqD.dp hu s2.sub, h1, h2, by rw [eqv_dec]; exact q⟩) (nomark _)
theorem eb_neD [EqD α] [DecidableEq α] {x y : α} {j : Nat} (hr : Room j X.A) (ha : Ev X a σ s x) (hb : Ev X b σ s y) (h1 : shp x) (h2 : shp y) : EvB X (.Compare a [.NotEq] [b] pos) σ s (!decide (x = y)) :=
  eb_cmp (op_neD (hu64 hr)) ha hb (fun v u s2 hv hu Q q => ⟨_, _, EqD.dp hv s2.sub, EqD.dp hu s2.sub, h1, h2, by rw [eqv_dec]; exact q⟩) (nomark _)
theorem eb_eqL [EqD α] [DecidableEq α] {x y : List α} {j : Nat} (hr : Room j X.A) (ha : EvR X a σ s x) (hb : EvR X b σ s y) (h1 : shp x) (h2 : shp y) : EvB X (.Compare a [.Eq] [b] pos) σ s (decide (x = y)) :=
  eb_cmpRR (op_eqD (hu64 hr)) ha hb (fun v u s2 hv hu Q q => ⟨_, _, repR_d hv, repR_d hu, h1, h2, by rw [eqv_dec]; exact q⟩) (nomark _)
theorem eb_neL [EqD α] [DecidableEq α] {x y : List α} {j : Nat} (hr : Room j X.A) (ha : EvR X a σ s x) (hb : EvR X b σ s y) (h1 : shp x) (h2 : shp y) : EvB X (.Compare a [.NotEq] [b] pos) σ s (!decide (x = y)) :=
  eb_cmpRR (op_neD (hu64 hr)) ha hb (fun v u s2 hv hu Q q => ⟨_, _, repR_d hv, repR_d hu, h1, h2, by rw [eqv_dec]; exact q⟩) (nomark _)
end

class Shp (α : Type) (n : outParam Nat) extends EqD α where
  ok : ∀ x : α, PyData.canLay0 (EqD.toD x) = true ∧ PyData.depth (EqD.toD x) ≤ n
theorem shp_all {α : Type} {n : Nat} [Shp α n] : ∀ xs : List α, PyData.canLayAll0 (xs.map EqD.toD) = true ∧ PyData.depthAll (xs.map EqD.toD) ≤ n
  | [] => ⟨by simp [PyData.canLayAll0], by simp [PyData.depthAll]⟩
  | x :: xs => by
    obtain ⟨h1, h2⟩ := shp_all xs
    obtain ⟨h3, h4⟩ := Shp.ok x
    refine ⟨?_, ?_⟩
    · show PyData.canLayAll0 (EqD.toD x :: xs.map EqD.toD) = true
      unfold PyData.canLayAll0
      rw [h3, h1]; rfl
    · show PyData.depthAll (EqD.toD x :: xs.map EqD.toD) ≤ n
      unfold PyData.depthAll
      omega
instance : Shp Int 0 := ⟨fun x => ⟨by show PyData.canLay0 (.int x) = true; unfold PyData.canLay0; rfl, by show PyData.depth (.int x) ≤ 0; unfold PyData.depth; omega⟩⟩
instance : Shp Bool 0 := ⟨fun x => ⟨by show PyData.canLay0 (.bool x) = true; unfold PyData.canLay0; rfl, by show PyData.depth (.bool x) ≤ 0; unfold PyData.depth; omega⟩⟩
instance : Shp (Option Int) 0 := ⟨fun x => by
  cases x with
  | none => exact ⟨by show PyData.canLay0 .none = true; unfold PyData.canLay0; rfl, by show PyData.depth .none ≤ 0; unfold PyData.depth; omega⟩
  | some i => exact ⟨by show PyData.canLay0 (.int i) = true; unfold PyData.canLay0; rfl, by show PyData.depth (.int i) ≤ 0; unfold PyData.depth; omega⟩⟩
instance {α : Type} {n : Nat} [Shp α n] : Shp (List α) (n + 1) := ⟨fun x => by
  obtain ⟨h1, h2⟩ := shp_all x
  refine ⟨?_, ?_⟩
  · show PyData.canLay0 (.list (x.map EqD.toD)) = true
    unfold PyData.canLay0; exact h1
  · show PyData.depth (.list (x.map EqD.toD)) ≤ n + 1
    unfold PyData.depth; omega⟩
instance {α : Type} {n : Nat} [Shp α n] : Shp (Tu α) (n + 1) := ⟨fun x => by
  obtain ⟨h1, h2⟩ := shp_all x.l
  refine ⟨?_, ?_⟩
  · show PyData.canLay0 (.tuple (x.l.map EqD.toD)) = true
    unfold PyData.canLay0; exact h1
  · show PyData.depth (.tuple (x.l.map EqD.toD)) ≤ n + 1
    unfold PyData.depth; omega⟩
instance {α β : Type} {n m : Nat} [Shp α n] [Shp β m] : Shp (α × β) (n + m + 1) := ⟨fun x => by
  obtain ⟨h1, h2⟩ := Shp.ok x.1
  obtain ⟨h3, h4⟩ := Shp.ok x.2
  refine ⟨?_, ?_⟩
  · show PyData.canLay0 (.tuple [EqD.toD x.1, EqD.toD x.2]) = true
    simp [PyData.canLay0, PyData.canLayAll0, h1, h3]
  · show PyData.depth (.tuple [EqD.toD x.1, EqD.toD x.2]) ≤ n + m + 1
    simp [PyData.depth, PyData.depthAll]
    omega⟩
instance {α : Type} {n : Nat} [Shp α n] : Shp (T1 α) (n + 1) := ⟨fun x => by
  obtain ⟨h1, h2⟩ := Shp.ok x.a
  refine ⟨?_, ?_⟩
  · show PyData.canLay0 (.tuple [EqD.toD x.a]) = true
    simp [PyData.canLay0, PyData.canLayAll0, h1]
  · show PyData.depth (.tuple [EqD.toD x.a]) ≤ n + 1
    simp [PyData.depth, PyData.depthAll]
    omega⟩
theorem shp_of {α : Type} {n : Nat} [Shp α n] (x : α) (h : n ≤ 64 := by decide) : shp x := by
  obtain ⟨h1, h2⟩ := Shp.ok x
  unfold shp SeqAt.shaped
  rw [h1, decide_eq_true (Nat.le_trans h2 h)]; rfl

def spLaw (K : PySem.W.Frag) : Sp := fun vs H Q _ => ∃ (a : Addr) (ns : List Int), vs = [.ref a] ∧ SqL K H a (ns.map V.int) ∧ ns.length ≤ 63 ∧ ∀ H', Q (.bl true) H'
theorem law_of {P : Program} {w : World} {K : PySem.W.Frag} {mg : Str → Option Value} {base : Heap} {CX : CXT} {k : Nat} {f : Addr} {fd : FuncData} {ps : List Str} {m : List Int × Unit → Option Bool} (F : FnOk P w K mg base CX k f fd ps (sp K m)) (h : ∀ ns : List Int, ns.length ≤ 63 → m (ns, ()) = some true) : FnOk P w K mg base CX k f fd ps (spLaw K) :=
  F.imp fun vs H Q E ⟨a, ns, e, hs, hl, q⟩ => by
    subst e
    exact ⟨⟨H, H, fun _ _ h => h⟩, (ns, ()), true, rfl, ⟨.ref a, [], rfl, ⟨a, ns.map V.int, rfl, hs, Reps.of_flat ns⟩, rfl⟩, h ns hl, fun v s' _ r => by rw [show v = V.bl true from r]; exact q _⟩
end Dy

namespace Dy
open PySem PySem.Spec L2
open PyProof.Rows hiding St
open Enc (rep)
open Flat (toV)
open EncA (repA)

def strI (x : Int) : Str := toString x
noncomputable def sortI (xs : List Int) : List Int := xs.mergeSort (fun x y => decide (x ≤ y))
def Fl.go {β ρ γ : Type} (o : Fl β ρ) (k : β → γ) (e : ρ → γ) : γ := match o with
  | .nx b => k b
  | .rt r => e r
@[irreducible] def fuel : Nat := 1000000
theorem rng_mem {a b x : Int} (h : x ∈ rng a b) : a ≤ x ∧ x < b := by
  obtain ⟨i, hi⟩ := List.mem_iff_getElem?.mp h
  obtain ⟨h1, h2⟩ := rng_get hi
  omega
theorem frzE {s0 s s' : S} {p : Addr} (E : Ex s0 s) (n : s0.H p = none) (h1 : s'.H = s.H) (h2 : Fle s.F s'.F) (h3 : ∀ q, q ≠ p → s'.F q = s.F q) : Ex s0 s' :=
  ⟨E.f.trans h2, fun a o h => by rw [h1]; exact E.h a o h, fun a o h m => by rw [h3 a (ne_of_none h n)]; exact E.n a o h m⟩
theorem ownFrz {α : Type} [Enc α] {K : PySem.W.Frag} {s s' : S} {p q : Addr} {xs : List α} (o : Own K s q xs) (hne : q ≠ p) (h1 : s'.H = s.H) (h2 : Fle s.F s'.F) (h3 : ∀ q, q ≠ p → s'.F q = s.F q) : Own K s' q xs := by
  obtain ⟨hn, vs, hp, r⟩ := o
  exact ⟨by rw [h3 q hne]; exact hn, vs, by rw [h1]; exact hp, r.mono h2⟩
section
variable {α β γ δ ε : Type} [Enc α] [Enc β] [Enc γ] [Enc δ] [Enc ε] {X : Cx} {σ : St} {s t : S} {e a b c tg iter : Expr} {es : List Expr} {pos p0 p1 p2 p3 : Pos} {D : Ends} {rest A B body : List Stmt}
theorem ec_andO {x r : Bool} (h : EvB X a σ s x) (h2 : x = true → EvC X (.BoolOp .And (b :: es) pos) σ s r) (h3 : x = false → r = false) : EvC X (.BoolOp .And (a :: b :: es) pos) σ s r := by
  cases x with
  | true => exact (ec_and h h2 : EvC X _ σ s (true && r))
  | false =>
    have := ec_and (y := false) (es := es) (b := b) (pos := pos) h (fun z => Bool.noConfusion z)
    rw [h3 rfl]
    exact this
theorem ec_orO {x r : Bool} (h : EvB X a σ s x) (h2 : x = false → EvC X (.BoolOp .Or (b :: es) pos) σ s r) (h3 : x = true → r = true) : EvC X (.BoolOp .Or (a :: b :: es) pos) σ s r := by
  cases x with
  | false => exact (ec_or h h2 : EvC X _ σ s (false || r))
  | true =>
    have := ec_or (y := true) (es := es) (b := b) (pos := pos) h (fun z => Bool.noConfusion z)
    rw [h3 rfl]
    exact this
theorem et_tru {xs : List α} (h : EvR X e σ s xs) (he : ∀ whole, isTrue e X.env whole = (do let v ← whole; standAt e.pos; holding [v] (truthy v)) := by intro _; rfl) : EvT X e σ s (!xs.isEmpty) := fun s1 k Q q =>
  wt_of (pt_truth pe_we he) (h s1 k _ fun v s2 k2 r => by
    obtain ⟨p, vs, rfl, h1, h2⟩ := r
    refine ⟨_, .inl ⟨vs, h1, ?_⟩, q s2 k2⟩
    have := h2.len
    cases vs <;> cases xs <;> simp at this ⊢)
theorem isi_optT {τ : Type} [Ty τ] (x : Option τ) {T : String} (h1 : ∀ y : τ, kitB (Ty.ty y) T = some true) (h2 : kitB "NoneType" T = some false) : kitB (Ty.ty x) T = some x.isSome := by
  cases x with
  | none => exact h2
  | some y => exact h1 y
theorem isi_optF {τ : Type} [Ty τ] (x : Option τ) {T : String} (h1 : ∀ y : τ, kitB (Ty.ty y) T = some false) (h2 : kitB "NoneType" T = some false) : kitB (Ty.ty x) T = some false := by
  cases x with
  | none => exact h2
  | some y => exact h1 y
theorem en_rev {xs : List α} {k q1 q2 q3} (ha : EvR X e σ s xs) : EvN X (.Subscript e (.Slice none none (some (.UnaryOp .USub (.Constant (.int 1) k q1) q2)) q3) pos) σ s xs.reverse := fun s1 k1 Q q =>
  we_of (pe_revL pe_we) (ha s1 k1 _ fun v s2 k2 r2 => by
    obtain ⟨p, vs, rfl, h1, h2⟩ := r2
    exact ⟨p, vs, rfl, h1, fun l hl => q l (s2.newO l _ hl) (k2.trans (Ex.newO hl)) (fr_back k2 hl) (own_new hl h2.rev)⟩)
theorem do_drop {x : α} (h : Ev X e σ s x) (k : ∀ s1, Ex s s1 → WSs X rest D σ s1.H) (hs : swapsWith e none pos.line X.env = pure false := by rfl) : WSs X (.Expr e pos :: rest) D σ s.H :=
  do_cons (ps_expr pe_we hs) (h s (Ex.refl _) _ fun v s1 k1 r => k s1 k1)
theorem do_unp2 (i j : Nat) {x : α × β} (h : Ev X e σ s x) (k : ∀ v w s1, Ex s s1 → rep X.K s1.F v x.1 → rep X.K s1.F w x.2 → WSs X rest D ((σ.set i (some v)).set j (some w)) s1.H)
    (hg : PG X tg (gTup X.K 2 (gCons (gName i) (gCons (gName j) gNil)))) (hs : swapsWithSole [tg] e pos.line X.env = pure false := by rfl) (hw : swappedStores [tg] e X.env = pure none := by rfl)
    (h1 : (assignEach [tg] X.env).map (·.2) = [assign tg X.env] := by rfl) : WSs X (.Assign [tg] e pos :: rest) D σ s.H :=
  do_cons (ps_asg pe_we hg hs hw h1) (h s (Ex.refl _) _ fun v s1 k1 r => by
    obtain ⟨p, v1, v2, rfl, h0, h1, h2⟩ := r
    exact ⟨p, _, rfl, sqt_mono s1.sub h0, rfl, v1, _, rfl, v2, _, rfl, rfl, k v1 v2 s1 k1 h1 h2⟩)
theorem do_unp3 (i j l : Nat) {x : T3 α β γ} (h : Ev X e σ s x) (k : ∀ v w u s1, Ex s s1 → rep X.K s1.F v x.a → rep X.K s1.F w x.b → rep X.K s1.F u x.c → WSs X rest D (((σ.set i (some v)).set j (some w)).set l (some u)) s1.H)
    (hg : PG X tg (gTup X.K 3 (gCons (gName i) (gCons (gName j) (gCons (gName l) gNil))))) (hs : swapsWithSole [tg] e pos.line X.env = pure false := by rfl) (hw : swappedStores [tg] e X.env = pure none := by rfl)
    (h1 : (assignEach [tg] X.env).map (·.2) = [assign tg X.env] := by rfl) : WSs X (.Assign [tg] e pos :: rest) D σ s.H :=
  do_cons (ps_asg pe_we hg hs hw h1) (h s (Ex.refl _) _ fun v s1 k1 r => by
    obtain ⟨p, v1, v2, v3, rfl, h0, h1, h2, h3⟩ := r
    exact ⟨p, _, rfl, sqt_mono s1.sub h0, rfl, v1, _, rfl, v2, _, rfl, v3, _, rfl, rfl, k v1 v2 v3 s1 k1 h1 h2 h3⟩)
theorem do_whileF {υ ρ : Type} {cf : υ → Option Bool} {f : υ → Option (Fl υ ρ)} {n : Nat} {b0 : υ} {o : Fl υ ρ} (hp : PassesOwn (model X.prog X.w) X.A X.env X.xe) (hf : whileF cf f n b0 = some o) (R : υ → St → S → Prop) (h0 : R b0 σ s)
    (hc : ∀ (b : υ) (x : Bool) (σ' : St) (t : S), cf b = some x → Fle s.F t.F → R b σ' t → EvT X c σ' t x)
    (hb : ∀ (b : υ) (q : Fl υ ρ) (σ' : St) (t t' : S), cf b = some true → f b = some q → (∀ r, q = .rt r → o = .rt r) → Fle s.F t.F → R b σ' t → Ex t t' → WSs X body (LD D fun σ s => ∃ b', q = .nx b' ∧ Fle t'.F s.F ∧ R b' σ s) σ' t'.H)
    (hd : ∀ b1 σ' t t', o = .nx b1 → cf b1 = some false → Fle s.F t.F → R b1 σ' t → Ex t t' → WSs X rest D σ' t'.H) : WSs X (.While c body [] pos :: rest) D σ s.H :=
  do_cons (ps_while hp pt_wt pss_ws) (by
    refine ⟨fun m σ' H' => ∃ (t : S) (b : υ), t.H = H' ∧ Fle s.F t.F ∧ whileF cf f m b = some o ∧ R b σ' t, ⟨n, s, b0, rfl, Fle.refl _, hf, h0⟩, ?_⟩
    rintro m σ' H' ⟨t, b, rfl, fl, h1, h2⟩
    cases m with
    | zero => cases h1
    | succ m =>
      obtain ⟨x, h3, h4⟩ := bndE h1
      refine hc b x σ' t h3 fl h2 t (Ex.refl _) _ fun t' kt => ?_
      cases x with
      | true =>
        refine iteT ?_
        rw [if_pos rfl] at h4
        obtain ⟨q, h5, h6⟩ := bndE h4
        refine ⟨fun σ3 H3 => ∃ b', q = .nx b' ∧ ∃ u : S, u.H = H3 ∧ Fle s.F u.F ∧ R b' σ3 u, fun σ3 H3 ⟨b', e0, u, e1, f1, r1⟩ => ⟨m, Nat.lt_succ_self _, u, b', e1, f1, by subst e0; exact h6, r1⟩, ?_⟩
        exact (hb b q σ' t t' h3 h5 (fun r e0 => by subst e0; exact (Option.some.inj h6).symm) fl h2 kt).imp (fun σ3 H3 ⟨u, e1, b', e2, f1, r1⟩ => ⟨b', e2, u, e1, (fl.trans kt.f).trans f1, r1⟩) (fun _ _ q => q) (fun _ _ q => q.elim) (fun _ _ q => q.elim)
      | false =>
        refine iteF ?_
        rw [if_neg Bool.false_ne_true] at h4
        cases h4
        exact hd b σ' t t' rfl h3 fl h2 kt)
end
end Dy

namespace Dy
open PySem PySem.Spec L2
open PyProof.Rows hiding St

def Ok {α : Type} (m : Option α) (P : α → Prop) : Prop := ∃ r, m = some r ∧ P r
section
variable {α β γ ρ : Type}
theorem Ok.imp {m : Option α} {P Q : α → Prop} (h : Ok m P) (k : ∀ r, P r → Q r) : Ok m Q := let ⟨r, e, p⟩ := h; ⟨r, e, k r p⟩
theorem Ok.eq {m : Option α} {x : α} (h : Ok m (· = x)) : m = some x := by obtain ⟨r, e, rfl⟩ := h; exact e
theorem ok_eq {m : Option α} {x : α} {P : α → Prop} (h : m = some x) (p : P x) : Ok m P := ⟨x, h, p⟩
theorem ok_some {x : α} {P : α → Prop} (p : P x) : Ok (some x) P := ⟨x, rfl, p⟩
theorem ok_bnd {m : Option α} {f : α → Option β} {P : α → Prop} {Q : β → Prop} (h : Ok m P) (k : ∀ r, P r → Ok (f r) Q) : Ok (bnd m f) Q := by
  obtain ⟨r, e, p⟩ := h
  subst e
  exact k r p
theorem ok_chk {c : Prop} {m : Option α} {Q : α → Prop} (h : c) (k : Ok m Q) : Ok (chk c m) Q := by rw [chk_pos h]; exact k
theorem ok_lt {x : α} {f : α → Option β} {Q : β → Prop} (k : ∀ y, y = x → Ok (f y) Q) : Ok (lt x f) Q := k x rfl
theorem ok_ite {b : Bool} {m k : Option α} {Q : α → Prop} (h1 : b = true → Ok m Q) (h2 : b = false → Ok k Q) : Ok (if b = true then m else k) Q := by
  cases b with
  | true => exact h1 rfl
  | false => exact h2 rfl
theorem ok_andO {a : Bool} {m : Option Bool} {Q : Bool → Prop} (h1 : a = true → Ok m Q) (h2 : a = false → Q false) : Ok (andO a m) Q := by
  cases a with
  | true => exact h1 rfl
  | false => exact ⟨false, rfl, h2 rfl⟩
theorem ok_orO {a : Bool} {m : Option Bool} {Q : Bool → Prop} (h1 : a = false → Ok m Q) (h2 : a = true → Q true) : Ok (orO a m) Q := by
  cases a with
  | false => exact h1 rfl
  | true => exact ⟨true, rfl, h2 rfl⟩
theorem ok_foldO {f : β → α → Option β} (I : Nat → β → Prop) : ∀ {xs : List α} {b : β} {Q : β → Prop}, I 0 b → (∀ i b x, xs[i]? = some x → I i b → Ok (f b x) (I (i + 1))) → (∀ b, I xs.length b → Q b) → Ok (foldO f b xs) Q := by
  have key : ∀ (xs : List α) (b : β) (k : Nat), I k b → (∀ i b x, xs[i]? = some x → I (k + i) b → Ok (f b x) (I (k + i + 1))) → Ok (foldO f b xs) (I (k + xs.length)) := by
    intro xs
    induction xs with
    | nil => intro b k h _; exact ⟨b, rfl, h⟩
    | cons x r ih =>
      intro b k h hs
      refine ok_bnd (hs 0 b x rfl h) fun b' h' => ?_
      have := ih b' (k + 1) h' (fun i b y hy hI => by
        have := hs (i + 1) b y (by simpa using hy) (by rw [show k + (i + 1) = k + 1 + i by omega]; exact hI)
        rw [show k + (i + 1) + 1 = k + 1 + i + 1 by omega] at this
        exact this)
      rw [List.length_cons, show k + (r.length + 1) = k + 1 + r.length by omega]
      exact this
  intro xs b Q h0 hs hd
  have := key xs b 0 h0 (fun i b x hx hI => by
    have := hs i b x hx (by rw [Nat.zero_add] at hI; exact hI)
    rw [Nat.zero_add]; exact this)
  rw [Nat.zero_add] at this
  exact this.imp hd
theorem ok_foldF {f : β → α → Option (Fl β ρ)} (I : Nat → β → Prop) (Rr : ρ → Prop) : ∀ {xs : List α} {b : β} {Q : Fl β ρ → Prop}, I 0 b → (∀ i b x, xs[i]? = some x → I i b → Ok (f b x) (fun o => match o with | .nx b' => I (i + 1) b' | .rt r => Rr r)) →
    (∀ b, I xs.length b → Q (.nx b)) → (∀ r, Rr r → Q (.rt r)) → Ok (foldF f b xs) Q := by
  have key : ∀ (xs : List α) (b : β) (k : Nat), I k b → (∀ i b x, xs[i]? = some x → I (k + i) b → Ok (f b x) (fun o => match o with | .nx b' => I (k + i + 1) b' | .rt r => Rr r)) → Ok (foldF f b xs) (fun o => match o with | .nx b' => I (k + xs.length) b' | .rt r => Rr r) := by
    intro xs
    induction xs with
    | nil => intro b k h _; exact ⟨.nx b, rfl, h⟩
    | cons x r ih =>
      intro b k h hs
      refine ok_bnd (hs 0 b x rfl h) fun o h' => ?_
      cases o with
      | rt r => exact ⟨.rt r, rfl, h'⟩
      | nx b' =>
        have := ih b' (k + 1) h' (fun i b y hy hI => by
          have := hs (i + 1) b y (by simpa using hy) (by rw [show k + (i + 1) = k + 1 + i by omega]; exact hI)
          rw [show k + (i + 1) + 1 = k + 1 + i + 1 by omega] at this
          exact this)
        rw [List.length_cons, show k + (r.length + 1) = k + 1 + r.length by omega]
        exact this
  intro xs b Q h0 hs hd hr
  have := key xs b 0 h0 (fun i b x hx hI => by
    have := hs i b x hx (by rw [Nat.zero_add] at hI; exact hI)
    rw [Nat.zero_add]; exact this)
  rw [Nat.zero_add] at this
  refine this.imp fun o h => ?_
  cases o with
  | nx b => exact hd b h
  | rt r => exact hr r h
theorem ok_go {o : Fl β ρ} {k : β → Option γ} {e : ρ → Option γ} {Q : γ → Prop} (h1 : ∀ b, o = .nx b → Ok (k b) Q) (h2 : ∀ r, o = .rt r → Ok (e r) Q) : Ok (o.go k e) Q := by
  cases o with
  | nx b => exact h1 b rfl
  | rt r => exact h2 r rfl
theorem ok_compO {t : α → Option Bool} {f : α → Option β} {P : α → β → Prop} {T : α → Bool} : ∀ {xs : List α}, (∀ x ∈ xs, Ok (t x) (· = T x)) → (∀ x ∈ xs, T x = true → Ok (f x) (P x)) → Ok (compO t f xs) (fun ys => ys.length = (xs.filter T).length ∧ ∀ (i : Nat) (y : β), ys[i]? = some y → ∃ x, (xs.filter T)[i]? = some x ∧ P x y)
  | [], _, _ => ⟨[], rfl, rfl, fun i y h => by simp at h⟩
  | x :: r, h1, h2 => by
    unfold compO
    refine ok_bnd (h1 x List.mem_cons_self) fun b hb => ?_
    subst hb
    have ih := ok_compO (xs := r) (fun z hz => h1 z (List.mem_cons_of_mem _ hz)) (fun z hz => h2 z (List.mem_cons_of_mem _ hz))
    refine ok_ite (fun hb => ?_) (fun hb => ?_)
    · refine ok_bnd (h2 x List.mem_cons_self hb) fun y hy => ?_
      refine ok_bnd ih fun ys ⟨e1, e2⟩ => ok_some ?_
      rw [List.filter_cons, if_pos hb]
      refine ⟨by simp [e1], fun i z hz => ?_⟩
      cases i with
      | zero => simp at hz; subst hz; exact ⟨x, rfl, hy⟩
      | succ i => exact e2 i z (by simpa using hz)
    · rw [List.filter_cons, if_neg (by rw [hb]; exact Bool.false_ne_true)]
      exact ih
theorem ok_mapO {f : α → Option β} {P : α → β → Prop} {xs : List α} (h : ∀ x ∈ xs, Ok (f x) (P x)) : Ok (mapO f xs) (fun ys => ys.length = xs.length ∧ ∀ (i : Nat) (y : β), ys[i]? = some y → ∃ x, xs[i]? = some x ∧ P x y) := by
  have := ok_compO (t := fun _ => some true) (T := fun _ => true) (xs := xs) (fun x _ => ok_some rfl) (fun x hx _ => h x hx)
  rw [show xs.filter (fun _ => true) = xs from List.filter_eq_self.mpr (fun _ _ => rfl)] at this
  exact this
theorem mapO_eq {f : α → Option β} {g : α → β} : ∀ {xs : List α}, (∀ x ∈ xs, f x = some (g x)) → mapO f xs = some (xs.map g)
  | [], _ => rfl
  | x :: r, h => by
    have ih := mapO_eq (xs := r) (fun z hz => h z (List.mem_cons_of_mem _ hz))
    unfold mapO at ih ⊢
    unfold compO
    rw [Option.bind_some, if_pos rfl, h x List.mem_cons_self, Option.bind_some, ih]
    rfl
theorem compO_eq {t : α → Option Bool} {T : α → Bool} {f : α → Option β} {g : α → β} : ∀ {xs : List α}, (∀ x ∈ xs, t x = some (T x)) → (∀ x ∈ xs, T x = true → f x = some (g x)) → compO t f xs = some ((xs.filter T).map g)
  | [], _, _ => rfl
  | x :: r, h1, h2 => by
    have ih := compO_eq (xs := r) (fun z hz => h1 z (List.mem_cons_of_mem _ hz)) (fun z hz => h2 z (List.mem_cons_of_mem _ hz))
    unfold compO
    rw [h1 x List.mem_cons_self, Option.bind_some, List.filter_cons]
    cases hT : T x with
    | true => rw [if_pos rfl, if_pos rfl, h2 x List.mem_cons_self hT, Option.bind_some, ih]; rfl
    | false => rw [if_neg Bool.false_ne_true, if_neg Bool.false_ne_true, ih]
theorem foldO_eq {f : β → α → Option β} {g : β → α → β} : ∀ {xs : List α} {b : β}, (∀ b, ∀ x ∈ xs, f b x = some (g b x)) → foldO f b xs = some (xs.foldl g b)
  | [], _, _ => rfl
  | x :: r, b, h => by
    unfold foldO
    rw [h b x List.mem_cons_self, Option.bind_some, foldO_eq (xs := r) (fun b z hz => h b z (List.mem_cons_of_mem _ hz))]
    rfl
theorem ok_whileO {c : β → Option Bool} {f : β → Option β} (I : β → Prop) (μ : β → Nat) {Q : β → Prop} (hc : ∀ b, I b → Ok (c b) (fun t => if t = true then Ok (f b) (fun b' => I b' ∧ μ b' < μ b) else Q b)) : ∀ (n : Nat) (b : β), I b → μ b < n → Ok (whileO c f n b) Q
  | 0, b, _, h => absurd h (Nat.not_lt_zero _)
  | n + 1, b, hI, h => by
    unfold whileO
    refine ok_bnd (hc b hI) fun t ht => ?_
    cases t with
    | true =>
      rw [if_pos rfl] at ht ⊢
      exact ok_bnd ht fun b' ⟨h1, h2⟩ => ok_whileO I μ hc n b' h1 (by omega)
    | false =>
      rw [if_neg Bool.false_ne_true] at ht ⊢
      exact ok_some ht
theorem ok_whileF {c : β → Option Bool} {f : β → Option (Fl β ρ)} (I : β → Prop) (μ : β → Nat) {Q : Fl β ρ → Prop} (hc : ∀ b, I b → Ok (c b) (fun t => if t = true then Ok (f b) (fun o => match o with | .nx b' => I b' ∧ μ b' < μ b | .rt r => Q (.rt r)) else Q (.nx b))) : ∀ (n : Nat) (b : β), I b → μ b < n → Ok (whileF c f n b) Q
  | 0, b, _, h => absurd h (Nat.not_lt_zero _)
  | n + 1, b, hI, h => by
    unfold whileF
    refine ok_bnd (hc b hI) fun t ht => ?_
    cases t with
    | true =>
      rw [if_pos rfl] at ht ⊢
      refine ok_bnd ht fun o ho => ?_
      cases o with
      | nx b' => exact ok_whileF I μ hc n b' ho.1 (by have := ho.2; omega)
      | rt r => exact ok_some ho
    | false =>
      rw [if_neg Bool.false_ne_true] at ht ⊢
      exact ok_some ht
theorem fuel_eq : fuel = 1000000 := by unfold fuel; rfl
theorem mul_l {x y : Int} (h1 : -1000000000000000000 < x) (h2 : x < 1000000000000000000) : MulOk x y := .inl (.inl ⟨by omega, by omega⟩)
theorem mul_r {x y : Int} (h1 : -1000000000000000000 < y) (h2 : y < 1000000000000000000) : MulOk x y := .inl (.inr ⟨by omega, by omega⟩)
set_option exponentiation.threshold 10000 in
theorem div_small {y : Int} (h1 : 0 < y) (h2 : y < 1000000000000000000) : DivOk y := ⟨h1, PySem.Flt.log2_lt_of (by decide) (show y.natAbs < 2 ^ 9000 from Nat.lt_of_lt_of_le (show y.natAbs < 2 ^ 64 by omega) (Nat.pow_le_pow_right (by decide) (by decide)))⟩
theorem szl : sizeLine = 16777216 := rfl
theorem atI_get {xs : List α} {i : Int} (h0 : 0 ≤ i) (h1 : i < xs.length) : atI xs i = xs[i.toNat]? := by
  unfold atI ixN
  rw [if_pos h0, if_pos h1]; rfl
theorem ok_atI {xs : List α} {i : Int} {Q : α → Prop} (h0 : 0 ≤ i) (h1 : i < xs.length) (h : ∀ x, xs[i.toNat]? = some x → Q x) : Ok (atI xs i) Q := by
  rw [atI_get h0 h1]
  have hl : i.toNat < xs.length := by omega
  exact ⟨xs[i.toNat], List.getElem?_eq_getElem hl, h _ (List.getElem?_eq_getElem hl)⟩
theorem cut_len_le (xs : List α) (lo hi : Option Int) : (cut xs lo hi).length ≤ xs.length := by
  unfold cut
  rw [List.length_take, List.length_drop]
  omega
theorem cut_hi (xs : List α) (n : Nat) : cut xs none (some (n : Int)) = xs.take n := by
  unfold cut
  rw [HT.sIx_none, show HT.sIx xs.length xs.length (some (n : Int)) = min n xs.length from HT.sIx_nat xs.length xs.length n]
  simp only [List.drop_zero, Nat.sub_zero]
  by_cases h : n ≤ xs.length
  · rw [Nat.min_eq_left h]
  · rw [Nat.min_eq_right (by omega), List.take_of_length_le (Nat.le_refl _), List.take_of_length_le (by omega)]
theorem rng_len_nn {n : Int} (h : 0 ≤ n) : (rng 0 n).length = n.toNat := by rw [rng_len]; congr 1; omega
theorem rng_at {a b : Int} {i : Nat} {x : Int} (h : (rng a b)[i]? = some x) : x = a + (i : Int) ∧ a + (i : Int) < b := by
  obtain ⟨h1, h2⟩ := rng_get h
  omega
end
theorem chars_len (x : Str) : (chars x).length = x.length := by
  unfold chars
  rw [List.length_map, Array.length_toList]; rfl
theorem join_len0 (ys : List Str) : (Txt.join ("" : Str) ys).length = (ys.map (·.length)).sum := by
  have h : ∀ z : Str, z.length = (TL.tl z).length := fun z => by show z.cps.size = z.cps.toList.length; rw [Array.length_toList]
  have key : ∀ ps : List (List Nat), (TL.joinL [] ps).length = (ps.map List.length).sum := by
    intro ps
    induction ps with
    | nil => rfl
    | cons p r ih =>
      cases r with
      | nil => simp [TL.joinL]
      | cons q r =>
        have e : TL.joinL [] (p :: q :: r) = p ++ ([] ++ TL.joinL [] (q :: r)) := by simp [TL.joinL]
        rw [e, List.nil_append, List.length_append, ih]; rfl
  rw [h, TL.join_eq, TL.tl_join, show TL.tl ("" : Str) = [] from rfl, key, List.map_map]
  exact congrArg List.sum (List.map_congr_left fun z _ => (h z).symm)
theorem sum_ones {ys : List Str} (h : ∀ y ∈ ys, y.length = 1) : (ys.map (·.length)).sum = ys.length := by
  induction ys with
  | nil => rfl
  | cons y r ih =>
    rw [List.map_cons, List.sum_cons, ih fun z hz => h z (List.mem_cons_of_mem _ hz), h y List.mem_cons_self, List.length_cons]
    omega
theorem foldF_any {α ρ : Type} {p : α → Bool} {f : Unit → α → Option (Fl Unit ρ)} {r : ρ} (h : ∀ x, f () x = if p x = true then some (.rt r) else some (.nx ())) : ∀ xs : List α, foldF f () xs = some (if xs.any p = true then .rt r else .nx ())
  | [] => rfl
  | x :: xs => by
    unfold foldF
    rw [h x, List.any_cons]
    cases hp : p x with
    | true => rfl
    | false =>
      rw [if_neg Bool.false_ne_true]
      show foldF f () xs = _
      rw [foldF_any h xs, Bool.false_or]
end Dy

namespace Dy
open PySem PySem.Spec L2
open PyProof.Rows hiding St
open Enc (rep)
open Flat (toV)
open EncA (repA)

section
variable {α β γ δ : Type} [Enc α] [Enc β] [Enc γ] [Enc δ] {X : Cx} {σ : St} {s t : S} {e a b c tg iter : Expr} {es : List Expr} {pos p0 p1 p2 p3 : Pos} {D : Ends} {rest A B body : List Stmt}
def RepS (x : Str) (n : Int) : Prop := PySem.MulOk x n
def replS (x : Str) (n : Int) : Str := Txt.mul x n
theorem op_repStr : OpR X (binaryOp .Mult) (fun x y H Q => ∃ z n, x = .str z ∧ y = .int n ∧ RepS z n ∧ Q (.str (replS z n)) H) := by
  intro pins s σ H x y v u Q I rx ry h
  obtain ⟨z, n, rfl, rfl, hok, q⟩ := h
  obtain ⟨t, rfl⟩ := rx
  obtain ⟨t', rfl⟩ := ry
  exact PySem.SB.mul hok fun t' k => ⟨.str _, H, I.tok _, ⟨_, rfl⟩, q⟩
theorem ev_repS {x : Str} {n : Int} (ha : Ev X a σ s x) (hb : Ev X b σ s n) (h : RepS x n) : Ev X (.BinOp a .Mult b pos) σ s (replS x n) :=
  ev_op op_repStr ha hb fun v u s2 hv hu Q q => ⟨x, n, hv, hu, h, q _ s2 (Ex.refl _) rfl⟩
theorem repS_small {x : Str} {n : Int} (h0 : x.length ≤ 1000) (h1 : n ≤ 1000) (h2 : -1000 ≤ n) : RepS x n := by
  refine ⟨by rw [Bool.or_eq_false_iff]; exact ⟨decide_eq_false (by omega), decide_eq_false (by omega)⟩, fun h3 _ => ?_, fun h3 _ => ?_⟩
  · intro h
    have : (2 ^ 63 - 1) / n ≥ 1000 := by
      refine (Int.le_ediv_iff_mul_le (by omega)).mpr ?_
      omega
    omega
  · unfold Builtin.Str.tooLong
    have : x.length * n.toNat ≤ 1000 * 1000 := Nat.mul_le_mul h0 (by omega)
    refine decide_eq_false ?_
    have := szl
    omega
def stepN (a b c : Int) : Nat := if a < b then ((b - a - 1) / c + 1).toNat else 0
def rngS (a b c : Int) : List Int := (List.range (stepN a b c)).map fun i : Nat => a + (i : Int) * c
def RgS (a b c : Int) : Prop := (-(2 ^ 61) ≤ a ∧ a < 2 ^ 61) ∧ (-(2 ^ 61) ≤ b ∧ b < 2 ^ 61) ∧ 0 < c ∧ c < 1000000
theorem rgC_of {a b c : Int} (h : RgS a b c) : RgC a b c (stepN a b c) := by
  obtain ⟨⟨h1, h2⟩, ⟨h3, h4⟩, h5, h6⟩ := h
  have hs : Builtin.Range.rangeSize a b c = (stepN a b c : Nat) := by
    unfold Builtin.Range.rangeSize stepN
    rw [if_pos h5]
    split
    · have : 0 ≤ (b - a - 1) / c := Int.ediv_nonneg (by omega) (by omega)
      omega
    · rfl
  refine ⟨by omega, by omega, ?_, hs⟩
  have e1 : a < b → c * ((b - a - 1) / c) ≤ b - a - 1 := fun _ => Int.mul_ediv_self_le (by omega)
  have e2 : a < b → 0 ≤ (b - a - 1) / c := fun _ => Int.ediv_nonneg (by omega) (by omega)
  have e3 : a < b → (b - a - 1) / c ≤ b - a - 1 := fun _ => by
    refine Int.ediv_le_self _ (by omega)
  unfold Builtin.Range.small
  unfold Builtin.Range.rangeSize
  simp only [Builtin.Range.rangeFitsLong, Bool.and_eq_true, Bool.or_eq_true, decide_eq_true_eq, beq_iff_eq, if_pos h5]
  split
  · rename_i hlt
    have e1 := e1 hlt
    have e2 := e2 hlt
    have e3 := e3 hlt
    generalize hq : (b - a - 1) / c = q at *
    have e4 : c * q = q * c := Int.mul_comm _ _
    have e5 : (q + 1) * c = q * c + c := by rw [Int.add_mul]; omega
    have e6 : 0 ≤ c * q := Int.mul_nonneg (by omega) e2
    refine ⟨?_, ?_⟩ <;> omega
  · omega
theorem rngS_get {a b c : Int} {i : Nat} {x : Int} (h : (rngS a b c)[i]? = some x) : i < stepN a b c ∧ x = a + (i : Int) * c := by
  unfold rngS at h
  rw [List.getElem?_map] at h
  obtain ⟨j, h1, rfl⟩ := Option.map_eq_some_iff.mp h
  obtain ⟨h2, h3⟩ := List.getElem?_eq_some_iff.mp h1
  rw [List.length_range] at h2
  rw [List.getElem_range] at h3
  subst h3
  exact ⟨h2, rfl⟩
theorem rngS_len (a b c : Int) : (rngS a b c).length = stepN a b c := by unfold rngS; rw [List.length_map, List.length_range]
theorem ei_range3 {x y z : Int} (hm : X.mg "range" = none) (ha : Ev X a σ s x) (hb : Ev X b σ s y) (hc : Ev X c σ s z) (h : RgS x y z) (hg : Gl X "range" := by rfl)
    (hs : starEach [a, b, c] X.env = (false, eval a X.env) :: starEach [b, c] X.env := by rfl) (hs2 : starEach [b, c] X.env = (false, eval b X.env) :: starEach [c] X.env := by rfl) (hs3 : starEach [c] X.env = (false, eval c X.env) :: starEach [] X.env := by rfl) (hpl : (backTo pos (starEach [b, c] X.env)).any (·.1) = false := by rfl) :
    EvI X tg (.Call (.Name "range" p0) [a, b, c] [] pos) σ s (rngS x y z) := fun s1 k R q =>
  wi_of (pi_range3 hg hm (pa_cons pe_we (pa_cons pe_we (pa_cons pe_we pa_nil hs3) hs2) hs) hs hpl) (ha s1 k _ fun v s2 k2 r2 => hb s2 (k.trans k2) _ fun u s3 k3 r3 => hc s3 ((k.trans k2).trans k3) _ fun w s4 k4 r4 =>
    ⟨x, y, z, stepN x y z, by rw [show v = V.int x from r2, show u = V.int y from r3, show w = V.int z from r4], rgC_of h, q _ s4 ((k2.trans k3).trans k4) ⟨fun i t w f hw => ⟨(rngS_get hw).1, fun v' H' ⟨e1, e2⟩ => ⟨t, e1.symm, Ex.refl _, by rw [e2, (rngS_get hw).2]; rfl⟩⟩, fun i t f hi => by rw [rngS_len] at hi; exact hi⟩⟩)
theorem ev_isiR {xs : List α} {n : Str} {T : String} {r : Bool} (hm : X.mg "isinstance" = none) (hn : X.mg n = none) (hv : bootBuiltins n = some (.type T)) (ha : EvR X a σ s xs) (h : kitB "list" T = some r)
    (hg : Gl X "isinstance" := by rfl) (hgn : Gl X n := by rfl) (he : starEach [a, .Name n p1] X.env = (false, eval a X.env) :: starEach [.Name n p1] X.env := by rfl) (he2 : starEach [.Name n p1] X.env = (false, eval (.Name n p1) X.env) :: starEach [] X.env := by rfl) (hpl : (backTo pos (starEach [.Name n p1] X.env)).any (·.1) = false := by rfl)
    (hnn : n ≠ "__name__" := by decide) (hnd : (n == ("__debug__" : Str)) = false := by decide) :
    Ev X (.Call (.Name "isinstance" p0) [a, .Name n p1] [] pos) σ s r := fun s1 k Q q =>
  we_of (pe_callB call_isi hg hm (by decide +kernel) (pa_cons pe_we (pa_cons (pe_bltn (v := .ty T) hgn hn hv rfl hnn hnd) pa_nil he2) he) (he := he) (hpl := hpl)) (ha s1 k _ fun v s2 k2 r2 => by
    obtain ⟨p, vs, rfl, h1, _⟩ := r2
    exact ⟨.ref p, .ty T, .type "list", .type T, r, rfl, .ty T, sql_ty h1, kit_ty h, q _ s2 k2 rfl⟩)
theorem eb_isB {x y : Bool} (ha : Ev X a σ s x) (hb : Ev X b σ s y) : EvB X (.Compare a [.Is] [b] pos) σ s (decide (x = y)) :=
  eb_cmp op_isBl ha hb (fun v u s2 hv hu Q q => ⟨x, y, hv, hu, q⟩) (nomark _)
theorem eb_isnotB {x y : Bool} (ha : Ev X a σ s x) (hb : Ev X b σ s y) : EvB X (.Compare a [.IsNot] [b] pos) σ s (!decide (x = y)) :=
  eb_cmp op_notBl ha hb (fun v u s2 hv hu Q q => ⟨x, y, hv, hu, q⟩) (nomark _)
theorem ev_sliceT {x : Tu α} {lo hi : Option Expr} {l h : Option Int} (ha : Ev X a σ s x) (hl : EvO X lo σ s l) (hh : EvO X hi σ s h) : Ev X (.Subscript a (.Slice lo hi none p2) pos) σ s (Tu.mk (cut x.l l h)) := fun s1 k Q q => by
  obtain ⟨tl, pl, ql⟩ := po_evo hl
  obtain ⟨th, ph, qh⟩ := po_evo hh
  refine we_of (pe_slice sl_tupA pe_we pl ph) (ha s1 k _ fun v s2 k2 r2 => ql s2 (k.trans k2) _ fun s3 k3 => qh s3 ((k.trans k2).trans k3) _ fun s4 k4 => ?_)
  obtain ⟨p, vs, rfl, h1, h2⟩ := Enc.mono (α := Tu α) (k3.trans k4).f r2
  have kk := (k2.trans k3).trans k4
  refine ⟨p, vs, rfl, sqt_mono s4.sub h1, fun hw => ?_, fun _ l hl => q _ (s4.newF l _ hl) (kk.trans (Ex.newF hl)) ⟨l, _, rfl, tup_new hl, (h2.cut _ _).mono (Ex.newF hl).f⟩⟩
  refine q _ s4 kk ⟨p, vs, rfl, h1, ?_⟩
  have e : cut x.l l h = x.l := by
    unfold cut
    rw [← h2.len, hw.1, hw.2, List.drop_zero, Nat.sub_zero, h2.len, List.take_length]
  show Reps _ _ vs (cut x.l l h)
  rw [e]; exact h2
def popN (n : Nat) (i : Int) : Option Nat := if -(2 ^ 63) ≤ i ∧ i < 2 ^ 63 then seqIndex? i n else none
theorem seqIx_lt {n : Nat} {i : Int} {k : Nat} (h : seqIndex? i n = some k) : k < n := by
  unfold seqIndex? at h
  dsimp only at h
  split at h <;> split at h
  all_goals first | (rename_i h2; simp only [Bool.and_eq_true, decide_eq_true_eq] at h2; cases h; omega) | cases h
theorem do_popAt (i : Nat) {p : Addr} {n : Str} {xs : List α} {z : Int} {j : Nat} (hσ : σ[i]? = some (some (.ref p))) (o : Own X.K s p xs) (he : Ev X e σ s z) (hj : popN xs.length z = some j)
    (k : ∀ s1, Mx (· = p) s s1 → Own X.K s1 p (xs.eraseIdx j) → WSs X rest D σ s1.H)
    (hN : X.N[i]? = some n := by rfl) (hv : Vis X.env.scope n := by first | exact Or.inl rfl | exact Or.inr (Or.inl rfl) | exact Or.inr (Or.inr rfl)) (hd : (n == ("__debug__" : Str)) = false := by decide) (hcd : (n == ("__classdict__" : Str)) = false := by decide)
    (hbase : attributeBase (.Name n p0) "pop" X.env (eval (.Name n p0) X.env) = eval (.Name n p0) X.env := by rfl)
    (hfew : ((backTo p2 (starEach [e] X.env)).all (fun x => !x.1) && (backToKw p2 (keywordEach [] X.env)).all (fun x => x.1.isSome) && decide (([e] : List Expr).length + ([] : List Keyword).length + (if ([] : List Keyword).isEmpty then 0 else 1) < 30)) = true := by rfl)
    (hline : (p1.endLine == p2.line) = true := by rfl) (hs : starEach [e] X.env = (false, eval e X.env) :: starEach [] X.env := by rfl) (hplain : (backTo p2 (starEach [] X.env)).any (·.1) = false := by rfl)
    (hsw : swapsWith (.Call (.Attribute (.Name n p0) "pop" p1) [e] [] p2) none p3.line X.env = pure false := by rfl) :
    WSs X (.Expr (.Call (.Attribute (.Name n p0) "pop" p1) [e] [] p2) p3 :: rest) D σ s.H :=
  do_cons (ps_expr (pe_bm PySem.F.plainAttrs_list PySem.F.slot_list_pop PySem.F.type_list_pop mt_popAt (pe_var hN hv hd hcd) (pa_cons pe_we pa_nil hs) hbase hfew hline hs hplain) hsw) (by
    obtain ⟨h1, vs, h2, h3⟩ := id o
    refine ⟨_, hσ, .inl ⟨rfl, vs, .inl (.inl h2)⟩, he s (Ex.refl _) _ fun v s1 k1 r1 => ?_⟩
    have f1 := k1.n _ _ h2 h1
    have g1 := k1.h _ _ h2
    unfold popN at hj
    split at hj
    · rename_i hb
      have hlt : j < vs.length := by rw [h3.len]; exact seqIx_lt hj
      refine ⟨p, vs, z, j, vs[j], rfl, by rw [show v = V.int z from r1], g1, hb.1, hb.2, by rw [h3.len]; exact hj, List.getElem?_eq_getElem hlt, ?_⟩
      exact k (s1.put p (.lst (vs.eraseIdx j)) f1) (k1.mx.trans (Mx.put f1)) ⟨f1, _, upd_same, (h3.mono k1.f).erase j⟩
    · cases hj)
def InsOk (i : Int) (n : Nat) : Prop := 0 ≤ i ∧ i < 2 ^ 63 ∧ n < sizeLine
def insI {τ : Type} (xs : List τ) (i : Int) (x : τ) : List τ := xs.take i.toNat ++ [x] ++ xs.drop i.toNat
theorem do_insert (i : Nat) {p : Addr} {n : Str} {xs : List α} {z : Int} {x : α} (hσ : σ[i]? = some (some (.ref p))) (o : Own X.K s p xs) (ha : Ev X a σ s z) (hb : Ev X b σ s x) (hj : InsOk z xs.length)
    (k : ∀ s1, Mx (· = p) s s1 → Own X.K s1 p (insI xs z x) → WSs X rest D σ s1.H)
    (hN : X.N[i]? = some n := by rfl) (hv : Vis X.env.scope n := by first | exact Or.inl rfl | exact Or.inr (Or.inl rfl) | exact Or.inr (Or.inr rfl)) (hd : (n == ("__debug__" : Str)) = false := by decide) (hcd : (n == ("__classdict__" : Str)) = false := by decide)
    (hbase : attributeBase (.Name n p0) "insert" X.env (eval (.Name n p0) X.env) = eval (.Name n p0) X.env := by rfl)
    (hfew : ((backTo p2 (starEach [a, b] X.env)).all (fun x => !x.1) && (backToKw p2 (keywordEach [] X.env)).all (fun x => x.1.isSome) && decide (([a, b] : List Expr).length + ([] : List Keyword).length + (if ([] : List Keyword).isEmpty then 0 else 1) < 30)) = true := by rfl)
    (hline : (p1.endLine == p2.line) = true := by rfl) (hs : starEach [a, b] X.env = (false, eval a X.env) :: starEach [b] X.env := by rfl) (hs2 : starEach [b] X.env = (false, eval b X.env) :: starEach [] X.env := by rfl) (hplain : (backTo p2 (starEach [b] X.env)).any (·.1) = false := by rfl)
    (hsw : swapsWith (.Call (.Attribute (.Name n p0) "insert" p1) [a, b] [] p2) none p3.line X.env = pure false := by rfl) :
    WSs X (.Expr (.Call (.Attribute (.Name n p0) "insert" p1) [a, b] [] p2) p3 :: rest) D σ s.H :=
  do_cons (ps_expr (pe_bm PySem.F.plainAttrs_list PySem.F.slot_list_insert PySem.F.type_list_insert mt_insert (pe_var hN hv hd hcd) (pa_cons pe_we (pa_cons pe_we pa_nil hs2) hs) hbase hfew hline hs hplain) hsw) (by
    obtain ⟨h1, vs, h2, h3⟩ := id o
    refine ⟨_, hσ, .inl ⟨rfl, vs, .inl (.inl h2)⟩, ha s (Ex.refl _) _ fun u s1 k1 r1 => hb s1 k1 _ fun v s2 k2 r2 => ?_⟩
    have kk := k1.trans k2
    have f1 := kk.n _ _ h2 h1
    have g1 := kk.h _ _ h2
    refine ⟨p, vs, z, v, rfl, by rw [show u = V.int z from r1], g1, by rw [h3.len]; exact hj.2.2, hj.1, hj.2.1, ?_⟩
    exact k (s2.put p (.lst (vs.take z.toNat ++ [v] ++ vs.drop z.toNat)) f1) (kk.mx.trans (Mx.put f1)) ⟨f1, _, upd_same, (((h3.mono kk.f).take _).snoc r2).app ((h3.mono kk.f).drop _)⟩)
theorem do_reverse (i : Nat) {p : Addr} {n : Str} {xs : List α} (hσ : σ[i]? = some (some (.ref p))) (o : Own X.K s p xs)
    (k : ∀ s1, Mx (· = p) s s1 → Own X.K s1 p xs.reverse → WSs X rest D σ s1.H)
    (hN : X.N[i]? = some n := by rfl) (hv : Vis X.env.scope n := by first | exact Or.inl rfl | exact Or.inr (Or.inl rfl) | exact Or.inr (Or.inr rfl)) (hd : (n == ("__debug__" : Str)) = false := by decide) (hcd : (n == ("__classdict__" : Str)) = false := by decide)
    (hbase : attributeBase (.Name n p0) "reverse" X.env (eval (.Name n p0) X.env) = eval (.Name n p0) X.env := by rfl) (hline : (p1.endLine == p2.line) = true := by rfl)
    (hsw : swapsWith (.Call (.Attribute (.Name n p0) "reverse" p1) [] [] p2) none p3.line X.env = pure false := by rfl) :
    WSs X (.Expr (.Call (.Attribute (.Name n p0) "reverse" p1) [] [] p2) p3 :: rest) D σ s.H :=
  do_cons (ps_expr (pe_bm0 PySem.F.plainAttrs_list PySem.F.slot_list_reverse PySem.F.type_list_reverse mt_reverse (pe_var hN hv hd hcd) hbase hline) hsw) (by
    obtain ⟨h1, vs, h2, h3⟩ := id o
    refine ⟨_, hσ, .inl ⟨rfl, vs, .inl (.inl h2)⟩, p, vs, rfl, rfl, h2, ?_⟩
    exact k (s.put p (.lst vs.reverse) h1) (Mx.put h1) ⟨h1, _, upd_same, h3.rev⟩)
theorem do_clear (i : Nat) {p : Addr} {n : Str} {xs : List α} (hσ : σ[i]? = some (some (.ref p))) (o : Own X.K s p xs)
    (k : ∀ s1, Mx (· = p) s s1 → Own X.K s1 p ([] : List α) → WSs X rest D σ s1.H)
    (hN : X.N[i]? = some n := by rfl) (hv : Vis X.env.scope n := by first | exact Or.inl rfl | exact Or.inr (Or.inl rfl) | exact Or.inr (Or.inr rfl)) (hd : (n == ("__debug__" : Str)) = false := by decide) (hcd : (n == ("__classdict__" : Str)) = false := by decide)
    (hbase : attributeBase (.Name n p0) "clear" X.env (eval (.Name n p0) X.env) = eval (.Name n p0) X.env := by rfl) (hline : (p1.endLine == p2.line) = true := by rfl)
    (hsw : swapsWith (.Call (.Attribute (.Name n p0) "clear" p1) [] [] p2) none p3.line X.env = pure false := by rfl) :
    WSs X (.Expr (.Call (.Attribute (.Name n p0) "clear" p1) [] [] p2) p3 :: rest) D σ s.H :=
  do_cons (ps_expr (pe_bm0 PySem.F.plainAttrs_list PySem.F.slot_list_clear PySem.F.type_list_clear mt_clear (pe_var hN hv hd hcd) hbase hline) hsw) (by
    obtain ⟨h1, vs, h2, h3⟩ := id o
    refine ⟨_, hσ, .inl ⟨rfl, vs, .inl (.inl h2)⟩, p, vs, rfl, rfl, h2, ?_⟩
    exact k (s.put p (.lst []) h1) (Mx.put h1) ⟨h1, _, upd_same, trivial⟩)
theorem ev_catT {x y : Tu α} (ha : Ev X a σ s x) (hb : Ev X b σ s y) (hz : x.l.length + y.l.length ≤ sizeLine) : Ev X (.BinOp a .Add b pos) σ s (Tu.mk (x.l ++ y.l)) := fun s1 k Q q =>
  we_of (pe_op op_catA pe_we pe_we) (ha s1 k _ fun v s2 k2 r2 => hb s2 (k.trans k2) _ fun u s3 k3 r3 => by
    obtain ⟨p, vs, rfl, h1, h2⟩ := Enc.mono (α := Tu α) k3.f r2
    obtain ⟨p', ws, rfl, h3, h4⟩ := r3
    have kk := k2.trans k3
    refine ⟨p, p', vs, ws, rfl, rfl, sqt_mono s3.sub h1, sqt_mono s3.sub h3, by rw [h2.len, h4.len]; exact hz, fun e => ?_, fun _ e => ?_, fun _ _ l hl => q _ (s3.newF l _ hl) (kk.trans (Ex.newF hl)) ⟨l, _, rfl, tup_new hl, (h2.app h4).mono (Ex.newF hl).f⟩⟩
    · refine q _ s3 kk ⟨p', ws, rfl, h3, ?_⟩
      subst e
      have e2 : x.l = [] := List.length_eq_zero_iff.mp h2.len.symm
      show Reps _ _ ws (x.l ++ y.l)
      rw [e2]; exact h4
    · refine q _ s3 kk ⟨p, vs, rfl, h1, ?_⟩
      subst e
      have e2 : y.l = [] := List.length_eq_zero_iff.mp h4.len.symm
      show Reps _ _ vs (x.l ++ y.l)
      rw [e2, List.append_nil]; exact h2)
end
theorem foldO_app {α β : Type} {N : Nat} {f : List β → α → Option (List β)} {g : α → β} : ∀ {xs : List α} {b : List β}, (∀ b x, b.length < N → x ∈ xs → f b x = some (b ++ [g x])) → b.length + xs.length ≤ N → foldO f b xs = some (b ++ xs.map g)
  | [], b, _, _ => by simp [foldO]
  | x :: r, b, h, hl => by
    rw [List.length_cons] at hl
    unfold foldO
    rw [h b x (by omega) List.mem_cons_self, Option.bind_some, foldO_app (xs := r) (b := b ++ [g x]) (fun b y hb hy => h b y hb (List.mem_cons_of_mem _ hy)) (by rw [List.length_append, List.length_singleton]; omega)]
    simp
theorem atI_map {α β : Type} {f : α → β} {xs : List α} {i : Int} {x : α} (h : atI xs i = some x) : atI (xs.map f) i = some (f x) := by
  unfold atI at h ⊢
  rw [List.length_map]
  cases hj : ixN xs.length i with
  | none => rw [hj] at h; cases h
  | some j =>
    rw [hj] at h
    show (xs.map f)[j]? = _
    rw [List.getElem?_map]
    have : xs[j]? = some x := h
    rw [this]; rfl
theorem foldF_none {α ρ : Type} {f : Unit → α → Option (Fl Unit ρ)} : ∀ {xs : List α}, (∀ x ∈ xs, f () x = some (.nx ())) → foldF f () xs = some (.nx ())
  | [], _ => rfl
  | x :: r, h => by
    unfold foldF
    rw [h x List.mem_cons_self]
    exact foldF_none fun y hy => h y (List.mem_cons_of_mem _ hy)
theorem foldF_ok {α ρ : Type} {f : Unit → α → Option (Fl Unit ρ)} {xs : List α} {Q : Fl Unit ρ → Prop} (h : ∀ x ∈ xs, Ok (f () x) (· = .nx ())) (q : Q (.nx ())) : Ok (foldF f () xs) Q :=
  ⟨_, foldF_none fun x hx => (h x hx).eq, q⟩
def Drawn (sizes ds : List Int) : Prop := ds.length = sizes.length ∧ ∀ (j : Nat) (d n : Int), ds[j]? = some d → sizes[j]? = some n → 0 ≤ d ∧ d < n
theorem ok_draw {sizes ds : List Int} (h : Drawn sizes ds) (k : Nat) {n : Int} (hk : sizes[k]? = some n) {Q : Int → Prop} (q : ∀ d, 0 ≤ d → d < n → Q d) : Ok (atI ds (k : Int)) Q := by
  obtain ⟨h1, h2⟩ := h
  have hlt : k < ds.length := by rw [h1]; exact (List.getElem?_eq_some_iff.mp hk).1
  refine ok_atI (by omega) (by omega) fun d hd => ?_
  rw [show (k : Int).toNat = k by omega] at hd
  obtain ⟨a, b⟩ := h2 k d n hd hk
  exact q d a b
theorem ok_sgn {x : Str} {i : Int} {Q : Str → Prop} (hz : x.length ≤ sizeLine) (h0 : 0 ≤ i) (h1 : i < x.length) (h : ∀ c, x.cps.toList[i.toNat]? = some c → Q ⟨#[c]⟩) : Ok (sgn x i) Q := by
  unfold sgn
  rw [if_pos hz]
  have hl : i.toNat < x.cps.toList.length := by
    rw [Array.length_toList]
    show i.toNat < x.length
    omega
  rw [atI_get h0 (by rw [Array.length_toList]; show i < (x.length : Int); exact h1), List.getElem?_eq_getElem hl]
  exact ok_some (h _ (List.getElem?_eq_getElem hl))
theorem bnd_some {α : Type} (m : Option α) : (bnd m fun x => some x) = m := by cases m <;> rfl
theorem ok_ret {α : Type} {m : Option α} {P : α → Prop} (h : Ok m P) : Ok (bnd m fun x => some x) P := by rw [bnd_some]; exact h
def txt (x : Str) : Prop := PyData.strOk x = true
theorem shp_strs {xs : List Str} (h : ∀ x ∈ xs, txt x) : shp xs := by
  unfold shp SeqAt.shaped
  have h1 : PyData.canLay0 (EqD.toD xs) = true := by
    show PyData.canLay0 (.list (xs.map PyData.str)) = true
    unfold PyData.canLay0
    induction xs with
    | nil => simp [PyData.canLayAll0]
    | cons x r ih =>
      rw [List.map_cons]
      unfold PyData.canLayAll0
      rw [ih fun y hy => h y (List.mem_cons_of_mem _ hy)]
      show (PyData.canLay0 (.str x) && true) = true
      unfold PyData.canLay0
      rw [show PyData.strOk x = true from h x List.mem_cons_self]; rfl
  have h2 : PyData.depth (EqD.toD xs) ≤ 64 := by
    show PyData.depth (.list (xs.map PyData.str)) ≤ 64
    unfold PyData.depth
    have : PyData.depthAll (xs.map PyData.str) = 0 := by
      clear h h1
      induction xs with
      | nil => simp [PyData.depthAll]
      | cons x r ih => rw [List.map_cons]; unfold PyData.depthAll; rw [ih]; simp [PyData.depth]
    omega
  rw [h1, decide_eq_true h2]; rfl
end Dy

namespace Dy
open PySem PySem.Spec L2
open PyProof.Rows hiding St
open Enc (rep)
open Flat (toV)
open EncA (repA)

def S.back (s t : S) (h : Fle s.F t.F) : S := ⟨s.F, t.H, fun a o q => t.sub a o (h a o q)⟩
theorem backE {s0 s t : S} (h : Fle s.F t.F) (E : Ex s0 s) (E' : Ex s0 t) : Ex s0 (s.back t h) := ⟨E.f, E'.h, E.n⟩
theorem backOwn {α : Type} [Enc α] {K : PySem.W.Frag} {s s1 t : S} {p : Addr} {xs : List α} (h : Fle s.F t.F) (o : Own K s p xs) (h1 : s1.F p = s.H p) (h2 : Fle s1.F t.F) : Own K (s.back t h) p xs := by
  obtain ⟨n, vs, e, r⟩ := o
  exact ⟨n, vs, t.sub _ _ (h2 _ _ (h1.trans e)), r⟩
theorem backOwn2 {α : Type} [Flat α] {K : PySem.W.Frag} {s t : S} {q : Addr} {xs : List α} (h : Fle s.F t.F) (o : Own K t q xs) : Own K (s.back t h) q xs := by
  obtain ⟨n, vs, e, r⟩ := o
  refine ⟨?_, vs, e, ?_⟩
  · show s.F q = none
    cases z : s.F q with
    | none => rfl
    | some u => rw [h _ _ z] at n; cases n
  · rw [r.flat]; exact Reps.of_flat xs
theorem backFlat {α : Type} [Flat α] {K : PySem.W.Frag} {s t : S} {v : V} {x : α} (h : Fle s.F t.F) (r : rep K t.F v x) : rep K (s.back t h).F v x := Flat.iff.mpr (Flat.iff.mp r)
section
variable {α β γ δ : Type} [Enc α] [Enc β] [Enc γ] [Enc δ] {X : Cx} {σ : St} {s t : S} {e a b c tg iter : Expr} {es : List Expr} {pos p0 p1 p2 p3 p4 p5 : Pos} {D : Ends} {rest A B body : List Stmt}
theorem do_frz2 {p : Addr} {xs : List α} {ss : List Stmt} (o : Own X.K s p xs) (k : ∀ s' : S, s'.H = s.H → Fle s.F s'.F → (∀ q, q ≠ p → s'.F q = s.F q) → rep X.K s'.F (.ref p) xs → s'.F p = s.H p → WSs X ss D σ s'.H) : WSs X ss D σ s.H := by
  obtain ⟨hn, vs, hp, r⟩ := o
  have f : Fle s.F (upd s.F p (.lst vs)) := fun a o q => by rw [upd_ne (ne_of_none q hn)]; exact q
  exact k ⟨upd s.F p (.lst vs), s.H, fun a o q => by
    unfold upd at q
    split at q
    · rename_i e; cases q; rw [e]; exact hp
    · exact s.sub a o q⟩ rfl f (fun q hq => upd_ne hq) ⟨p, vs, rfl, .inl (.inl upd_same), r.mono f⟩ (by show upd s.F p (.lst vs) p = _; rw [upd_same, hp])
theorem do_back {ss : List Stmt} (s : S) {t : S} (h : Fle s.F t.F) (k : WSs X ss D σ (s.back t h).H) : WSs X ss D σ t.H := k

section
variable {p : Addr} {n : Str} {xs : List α}
theorem we_pop (i : Nat) {z : Int} {j : Nat} {y : α} {Q : VK} (hσ : σ[i]? = some (some (.ref p))) (o : Own X.K s p xs) (he : Ev X e σ s z) (hj : popN xs.length z = some j) (hy : xs[j]? = some y)
    (k : ∀ v s1, Mx (· = p) s s1 → Own X.K s1 p (xs.eraseIdx j) → rep X.K s1.F v y → Q v s1.H)
    (hN : X.N[i]? = some n := by rfl) (hv : Vis X.env.scope n := by first | exact Or.inl rfl | exact Or.inr (Or.inl rfl) | exact Or.inr (Or.inr rfl)) (hd : (n == ("__debug__" : Str)) = false := by decide) (hcd : (n == ("__classdict__" : Str)) = false := by decide)
    (hbase : attributeBase (.Name n p0) "pop" X.env (eval (.Name n p0) X.env) = eval (.Name n p0) X.env := by rfl)
    (hfew : ((backTo p2 (starEach [e] X.env)).all (fun x => !x.1) && (backToKw p2 (keywordEach [] X.env)).all (fun x => x.1.isSome) && decide (([e] : List Expr).length + ([] : List Keyword).length + (if ([] : List Keyword).isEmpty then 0 else 1) < 30)) = true := by rfl)
    (hline : (p1.endLine == p2.line) = true := by rfl) (hs : starEach [e] X.env = (false, eval e X.env) :: starEach [] X.env := by rfl) (hplain : (backTo p2 (starEach [] X.env)).any (·.1) = false := by rfl) :
    WE X (.Call (.Attribute (.Name n p0) "pop" p1) [e] [] p2) σ s.H Q :=
  we_of (pe_bm PySem.F.plainAttrs_list PySem.F.slot_list_pop PySem.F.type_list_pop mt_popAt (pe_var hN hv hd hcd) (pa_cons pe_we pa_nil hs) hbase hfew hline hs hplain) (by
    obtain ⟨h1, vs, h2, h3⟩ := id o
    refine ⟨_, hσ, .inl ⟨rfl, vs, .inl (.inl h2)⟩, he s (Ex.refl _) _ fun v s1 k1 r1 => ?_⟩
    have f1 := k1.n _ _ h2 h1
    have g1 := k1.h _ _ h2
    unfold popN at hj
    split at hj
    · rename_i hb
      obtain ⟨w, hw, rw'⟩ := (h3.mono k1.f).get hy
      refine ⟨p, vs, z, j, w, rfl, by rw [show v = V.int z from r1], g1, hb.1, hb.2, by rw [h3.len]; exact hj, hw, ?_⟩
      exact k w (s1.put p (.lst (vs.eraseIdx j)) f1) (k1.mx.trans (Mx.put f1)) ⟨f1, _, upd_same, (h3.mono k1.f).erase j⟩ rw'
    · cases hj)
end
def popAt {τ : Type} (xs : List τ) (z : Int) : Option (τ × List τ) := (popN xs.length z).bind fun j => (xs[j]?).map fun y => (y, xs.eraseIdx j)
theorem popAt_some {τ : Type} {xs ys : List τ} {z : Int} {y : τ} (h : popAt xs z = some (y, ys)) : ∃ j, popN xs.length z = some j ∧ xs[j]? = some y ∧ ys = xs.eraseIdx j := by
  unfold popAt at h
  obtain ⟨j, h1, h2⟩ := bndE h
  obtain ⟨w, h3, h4⟩ := Option.map_eq_some_iff.mp h2
  cases h4
  exact ⟨j, h1, h3, rfl⟩
theorem do_setPop (i l : Nat) {p : Addr} {n m : Str} {xs ys : List α} {z : Int} {y : α} {py : Pos} (hσ : σ[i]? = some (some (.ref p))) (o : Own X.K s p xs) (he : Ev X e σ s z) (hj : popAt xs z = some (y, ys))
    (k : ∀ v s1, Mx (· = p) s s1 → Own X.K s1 p ys → rep X.K s1.F v y → WSs X rest D (σ.set l (some v)) s1.H)
    (hnd : X.N.Nodup) (hN : X.N[i]? = some n := by rfl) (hv : Vis X.env.scope n := by first | exact Or.inl rfl | exact Or.inr (Or.inl rfl) | exact Or.inr (Or.inr rfl)) (hd : (n == ("__debug__" : Str)) = false := by decide) (hcd : (n == ("__classdict__" : Str)) = false := by decide)
    (hbase : attributeBase (.Name n p0) "pop" X.env (eval (.Name n p0) X.env) = eval (.Name n p0) X.env := by rfl)
    (hfew : ((backTo p2 (starEach [e] X.env)).all (fun x => !x.1) && (backToKw p2 (keywordEach [] X.env)).all (fun x => x.1.isSome) && decide (([e] : List Expr).length + ([] : List Keyword).length + (if ([] : List Keyword).isEmpty then 0 else 1) < 30)) = true := by rfl)
    (hline : (p1.endLine == p2.line) = true := by rfl) (hs : starEach [e] X.env = (false, eval e X.env) :: starEach [] X.env := by rfl) (hplain : (backTo p2 (starEach [] X.env)).any (·.1) = false := by rfl)
    (hx : Loc X.env.scope m := by first | exact Or.inl rfl | exact Or.inr rfl) (hi : X.N[l]? = some m := by rfl)
    (hsw : swapsWith (.Call (.Attribute (.Name n p0) "pop" p1) [e] [] p2) (some (.Name m py)) pos.line X.env = pure false := by rfl) (hf : X.fn m = true ∨ X.env.scope.names.lookup m = some .local := by first | exact .inl rfl | exact .inr rfl) :
    WSs X (.Assign [.Name m py] (.Call (.Attribute (.Name n p0) "pop" p1) [e] [] p2) pos :: rest) D σ s.H := by
  obtain ⟨j, h1, h2, rfl⟩ := popAt_some hj
  exact do_cons (ps_set hnd hi hx pe_we hsw hf) (we_pop i hσ o he h1 h2 (fun v s1 m1 o1 r1 => k v s1 m1 o1 r1) hN hv hd hcd hbase hfew hline hs hplain)
theorem do_appPop (i l : Nat) {p q : Addr} {n m : Str} {xs ys zs : List α} {z : Int} {y : α} {py : Pos} (hσ : σ[i]? = some (some (.ref p))) (hσ2 : σ[l]? = some (some (.ref q))) (hpq : q ≠ p) (o : Own X.K s p xs) (o2 : Own X.K s q zs) (hz : zs.length < sizeLine) (he : Ev X e σ s z) (hj : popAt xs z = some (y, ys))
    (k : ∀ s1, Mx (fun a => a = p ∨ a = q) s s1 → Own X.K s1 p ys → Own X.K s1 q (zs ++ [y]) → WSs X rest D σ s1.H)
    (hN : X.N[i]? = some n := by rfl) (hv : Vis X.env.scope n := by first | exact Or.inl rfl | exact Or.inr (Or.inl rfl) | exact Or.inr (Or.inr rfl)) (hd : (n == ("__debug__" : Str)) = false := by decide) (hcd : (n == ("__classdict__" : Str)) = false := by decide)
    (hbase : attributeBase (.Name n p0) "pop" X.env (eval (.Name n p0) X.env) = eval (.Name n p0) X.env := by rfl)
    (hfew : ((backTo p2 (starEach [e] X.env)).all (fun x => !x.1) && (backToKw p2 (keywordEach [] X.env)).all (fun x => x.1.isSome) && decide (([e] : List Expr).length + ([] : List Keyword).length + (if ([] : List Keyword).isEmpty then 0 else 1) < 30)) = true := by rfl)
    (hline : (p1.endLine == p2.line) = true := by rfl) (hs : starEach [e] X.env = (false, eval e X.env) :: starEach [] X.env := by rfl) (hplain : (backTo p2 (starEach [] X.env)).any (·.1) = false := by rfl)
    (hN2 : X.N[l]? = some m := by rfl) (hv2 : Vis X.env.scope m := by first | exact Or.inl rfl | exact Or.inr (Or.inl rfl) | exact Or.inr (Or.inr rfl)) (hd2 : (m == ("__debug__" : Str)) = false := by decide) (hcd2 : (m == ("__classdict__" : Str)) = false := by decide)
    (hbase2 : attributeBase (.Name m py) "append" X.env (eval (.Name m py) X.env) = eval (.Name m py) X.env := by rfl)
    (hfew2 : ((backTo p4 (starEach [.Call (.Attribute (.Name n p0) "pop" p1) [e] [] p2] X.env)).all (fun x => !x.1) && (backToKw p4 (keywordEach [] X.env)).all (fun x => x.1.isSome) && decide (([.Call (.Attribute (.Name n p0) "pop" p1) [e] [] p2] : List Expr).length + ([] : List Keyword).length + (if ([] : List Keyword).isEmpty then 0 else 1) < 30)) = true := by rfl)
    (hline2 : (p3.endLine == p4.line) = true := by rfl) (hs2 : starEach [.Call (.Attribute (.Name n p0) "pop" p1) [e] [] p2] X.env = (false, eval (.Call (.Attribute (.Name n p0) "pop" p1) [e] [] p2) X.env) :: starEach [] X.env := by rfl) (hplain2 : (backTo p4 (starEach [] X.env)).any (·.1) = false := by rfl)
    (hsw : swapsWith (.Call (.Attribute (.Name m py) "append" p3) [.Call (.Attribute (.Name n p0) "pop" p1) [e] [] p2] [] p4) none p5.line X.env = pure false := by rfl) :
    WSs X (.Expr (.Call (.Attribute (.Name m py) "append" p3) [.Call (.Attribute (.Name n p0) "pop" p1) [e] [] p2] [] p4) p5 :: rest) D σ s.H := by
  obtain ⟨j, h1, h2, rfl⟩ := popAt_some hj
  refine do_cons (ps_expr (pe_bm PySem.F.plainAttrs_list PySem.F.slot_list_append PySem.F.type_list_append mt_append (pe_var hN2 hv2 hd2 hcd2) (pa_cons pe_we pa_nil hs2) hbase2 hfew2 hline2 hs2 hplain2) hsw) ?_
  obtain ⟨g1, vs, g2, g3⟩ := id o2
  refine ⟨_, hσ2, .inl ⟨rfl, vs, .inl (.inl g2)⟩, we_pop i hσ o he h1 h2 (fun v s1 m1 o1 r1 => ?_) hN hv hd hcd hbase hfew hline hs hplain⟩
  obtain ⟨f1, ws, f2, f3⟩ := o2.mx m1 hpq
  refine ⟨q, ws, v, rfl, rfl, f2, by rw [f3.len]; exact hz, ?_⟩
  have m2 : Mx (fun a => a = p ∨ a = q) s1 (s1.put q (.lst (ws ++ [v])) f1) := ⟨(Mx.put f1).f, fun a u h nn => (Mx.put f1).h a u h fun z => nn (.inr z), (Mx.put f1).n, (Mx.put f1).d⟩
  have m0 : Mx (fun a => a = p ∨ a = q) s s1 := ⟨m1.f, fun a u h nn => m1.h a u h fun z => nn (.inl z), m1.n, m1.d⟩
  refine k (s1.put q (.lst (ws ++ [v])) f1) (m0.trans m2) (o1.mx (Mx.put f1) fun z => hpq z.symm) ⟨f1, _, upd_same, f3.snoc r1⟩
theorem Ex.mu2 {s t u : S} {p q : Addr} (a : Ex s t) (b : Mx (fun a => a = p ∨ a = q) t u) (h : s.H p = none) (h2 : s.H q = none) : Ex s u := a.mu b fun _ e => e.elim (fun z => z ▸ h) fun z => z ▸ h2
def popAll {σ τ : Type} (f : List τ → σ → Option Int) : List τ → List σ → Option (List τ)
  | _, [] => some []
  | l, x :: r => (f l x).bind fun z => (popAt l z).bind fun y => (popAll f y.2 r).bind fun ys => some (y.1 :: ys)
theorem do_retPop (i j : Nat) {τ : Type} [Enc τ] {zs : List τ} {xs ys : List α} {f : List α → τ → Option Int} {p : Addr} {n x : Str} {px : Pos} {ie : Expr} {scope : Scope} {own : List (Str × Nat)} (hc : X.calm = true) (hN : X.N.Nodup) (hi : EvI X (.Name x px) iter σ s zs) (o : Own X.K s p xs) (ok : BlkOk X.N X.env.scope scope own)
    (hj : X.N[j]? = some x) (hjo : j ∈ own.map (·.2)) (hg : ∀ s0 H0 C cl fp, PG (Blk X scope s0 H0 C cl fp) (.Name x px) (gName j)) (hσ : ∀ v, ((wipe σ (own.map (·.2))).set j (some v))[i]? = some (some (.ref p))) (hf : popAll f xs zs = some ys) (hz : ys.length ≤ sizeLine)
    (he : ∀ (l : List α) (y : τ) (z : Int) (v : V) (s1 : S), y ∈ zs → Mx (· = p) s s1 → Own X.K s1 p l → rep X.K s1.F v y → f l y = some z → ∀ s0 H0 C cl fp, Ev (Blk X scope s0 H0 C cl fp) ie ((wipe σ (own.map (·.2))).set j (some v)) s1 z)
    (k : ∀ q s1, Mx (· = p) s s1 → s.H q = none → Own X.K s1 q ys → D.rt (.ref q) s1.H)
    (hNi : X.N[i]? = some n := by rfl)
    (hv : ∀ s0 H0 C cl fp, Vis (Blk X scope s0 H0 C cl fp).env.scope n := by intros; first | exact Or.inl rfl | exact Or.inr (Or.inl rfl) | exact Or.inr (Or.inr rfl)) (hd : (n == ("__debug__" : Str)) = false := by decide) (hcd : (n == ("__classdict__" : Str)) = false := by decide)
    (hbase : ∀ s0 H0 C cl fp, attributeBase (.Name n p0) "pop" (Blk X scope s0 H0 C cl fp).env (eval (.Name n p0) (Blk X scope s0 H0 C cl fp).env) = eval (.Name n p0) (Blk X scope s0 H0 C cl fp).env := by intros; rfl)
    (hfew : ∀ s0 H0 C cl fp, ((backTo p2 (starEach [ie] (Blk X scope s0 H0 C cl fp).env)).all (fun x => !x.1) && (backToKw p2 (keywordEach [] (Blk X scope s0 H0 C cl fp).env)).all (fun x => x.1.isSome) && decide (([ie] : List Expr).length + ([] : List Keyword).length + (if ([] : List Keyword).isEmpty then 0 else 1) < 30)) = true := by intros; rfl)
    (hline : (p1.endLine == p2.line) = true := by rfl) (hs1 : ∀ s0 H0 C cl fp, starEach [ie] (Blk X scope s0 H0 C cl fp).env = (false, eval ie (Blk X scope s0 H0 C cl fp).env) :: starEach [] (Blk X scope s0 H0 C cl fp).env := by intros; rfl) (hplain : ∀ s0 H0 C cl fp, (backTo p2 (starEach [] (Blk X scope s0 H0 C cl fp).env)).any (·.1) = false := by intros; rfl)
    (hs : ∀ x, foldedSetIterable iter X.env x = pure x := by intro _; rfl) : WSs X (.Return (some (.ListComp (.Call (.Attribute (.Name n p0) "pop" p1) [ie] [] p2) [⟨.Name x px, iter, [], 0⟩] scope p3)) pos :: rest) D σ s.H := by
  have hpe : PE X (.ListComp (.Call (.Attribute (.Name n p0) "pop" p1) [ie] [] p2) [⟨.Name x px, iter, [], 0⟩] scope p3) (tLc (WI X (.Name x px) iter) (gName j) tYes (fun σ H Q => ∀ s0 H0 C cl fp, WE (Blk X scope s0 H0 C cl fp) (.Call (.Attribute (.Name n p0) "pop" p1) [ie] [] p2) σ H Q) (own.map (·.2))) :=
    pe_lc hc hN pi_wi ok hg (fun s0 H0 C cl fp => pts_nil) (fun s0 H0 C cl fp => ⟨fun pins s _ _ _ I h => h s0 H0 C cl fp pins s I⟩) hs
  refine do_cons (ps_ret hpe) ?_
  refine (show EvI X (.Name x px) iter σ s zs from hi) s (Ex.refl _) _ fun J s2 k2 W => ?_
  intro Dd hD
  have o2 : Own X.K s2 p xs := o.ex k2
  have hne : p ≠ Dd := Own.ne o2 hD
  refine ⟨fun i m H => ∃ (u : S) (pre l : List α) (vs : List V), u.H = H ∧ m = zs.length - i ∧ Mx (· = p) s2 u ∧ Own X.K u p l ∧ u.F Dd = none ∧ u.H Dd = some (.lst vs) ∧ Reps X.K u.F vs pre ∧ (∃ suf, popAll f l (zs.drop i) = some suf ∧ pre ++ suf = ys), ⟨zs.length, s2.newO Dd (.lst []) hD, [], xs, [], rfl, rfl, (Ex.newO hD).mx, o2.ex (Ex.newO hD), (fF hD : s2.F Dd = none), upd_same, trivial, ys, hf, rfl⟩, ?_⟩
  rintro i' m H ⟨u, pre, l, vs, rfl, rfl, ku, ol, n1, n2, n3, suf, h1, h2⟩
  by_cases hi' : i' < zs.length
  · right
    obtain ⟨g1, g2⟩ := W.go i' u zs[i'] ku.f (List.getElem?_eq_getElem hi')
    refine ⟨g1, fun H' => ∃ m', m' < zs.length - i' ∧ ∃ (u : S) (pre l : List α) (vs : List V), u.H = H' ∧ m' = zs.length - (i' + 1) ∧ Mx (· = p) s2 u ∧ Own X.K u p l ∧ u.F Dd = none ∧ u.H Dd = some (.lst vs) ∧ Reps X.K u.F vs pre ∧ (∃ suf, popAll f l (zs.drop (i' + 1)) = some suf ∧ pre ++ suf = ys), fun H' z => z, fun v H' hy => ?_⟩
    obtain ⟨u', rfl, ku', rv⟩ := g2 v H' hy
    refine ⟨by show wipe ((wipe σ (own.map (·.2))).set j (some v)) (own.map (·.2)) = _; rw [wipe_set hjo]; exact wipe_wipe fun _ z => z, ?_⟩
    unfold tYes
    dsimp only
    rw [if_pos rfl]
    rw [List.drop_eq_getElem_cons hi'] at h1
    unfold popAll at h1
    obtain ⟨z, hz1, h1⟩ := bndE h1
    obtain ⟨⟨y, l'⟩, hz2, h1⟩ := bndE h1
    obtain ⟨suf', hz3, h1⟩ := bndE h1
    cases h1
    obtain ⟨jj, e1, e2, e3⟩ := popAt_some hz2
    subst e3
    have kk : Mx (· = p) s u' := (k2.mx.trans ku).trans ku'.mx
    intro s0 H0 C cl fp
    refine we_pop (X := Blk X scope s0 H0 C cl fp) (e := ie) i (hσ v) (ol.ex ku') (he l zs[i'] z v u' (List.getElem_mem hi') kk (ol.ex ku') rv hz1 s0 H0 C cl fp) e1 e2 (fun w u4 m4 o4 r4 => ?_) hNi (hv s0 H0 C cl fp) hd hcd (hbase s0 H0 C cl fp) (hfew s0 H0 C cl fp) hline (hs1 s0 H0 C cl fp) (hplain s0 H0 C cl fp)
    have k5 : Mx (· = p) u u4 := ku'.mx.trans m4
    have hD4 : u4.H Dd = some (.lst vs) := k5.h _ _ n2 fun z => hne z.symm
    have hF4 : u4.F Dd = none := k5.n _ _ n2 n1
    have hlen : vs.length < sizeLine := by
      have e1 := n3.len
      have e2 : ys.length = pre.length + (suf'.length + 1) := by rw [← h2, List.length_append, List.length_cons]
      omega
    have hlt : zs.length - (i' + 1) < zs.length - i' := by omega
    have md : Mx (· = p) s2 (u4.put Dd (.lst (vs ++ [w])) hF4) := ⟨(ku.trans k5).f, fun a ob h nn => by
      show upd u4.H Dd _ a = some ob
      rw [upd_ne (ne_of_none h hD)]; exact (ku.trans k5).h a ob h nn, (ku.trans k5).n, fun a ob h => by
      obtain ⟨ob', h'⟩ := (ku.trans k5).d a ob h
      exact ⟨ob', by show upd u4.H Dd _ a = some ob'; rw [upd_ne (ne_of_none h hD)]; exact h'⟩⟩
    exact ⟨vs, hD4, hlen, _, hlt, u4.put Dd (.lst (vs ++ [w])) hF4, pre ++ [y], _, vs ++ [w], rfl, rfl, md, o4.mx (Mx.put hF4) hne, hF4, upd_same, (n3.mono k5.f).snoc r4, suf', hz3, by rw [List.append_assoc]; exact h2⟩
  · left
    have hd : zs.drop i' = [] := List.drop_eq_nil_of_le (by omega)
    rw [hd] at h1
    cases h1
    refine ⟨W.stop i' u ku.f (by omega), k Dd u (k2.mx.trans ku) (fr_back k2 hD) ⟨n1, vs, n2, ?_⟩⟩
    rw [← h2, List.append_nil]
    exact n3
end
end Dy

namespace Dy
open PySem PySem.Spec L2
open PyProof.Rows hiding St

theorem php : ∀ (n : Nat) (l : List Nat), l.Nodup → (∀ x ∈ l, x < n) → l.length ≤ n
  | 0, [], _, _ => Nat.le_refl _
  | 0, x :: _, _, h => absurd (h x List.mem_cons_self) (Nat.not_lt_zero _)
  | n + 1, l, hn, h => by
    by_cases hm : n ∈ l
    · have h1 := php n (l.erase n) (hn.erase n) (fun x hx => by
        have h2 := h x (List.mem_of_mem_erase hx)
        have h3 : x ≠ n := (hn.mem_erase_iff.mp hx).1
        omega)
      rw [List.length_erase_of_mem hm] at h1
      omega
    · have := php n l hn (fun x hx => by
        have h2 := h x hx
        have h3 : x ≠ n := fun e => hm (e ▸ hx)
        omega)
      omega
theorem mem_rng {a b x : Int} : x ∈ rng a b ↔ a ≤ x ∧ x < b := by
  constructor
  · exact rng_mem
  · intro ⟨h1, h2⟩
    unfold rng
    refine List.mem_map.mpr ⟨(x - a).toNat, List.mem_range.mpr (by omega), by omega⟩
theorem rng_nodup (a b : Int) : (rng a b).Nodup := by
  unfold rng
  refine List.Pairwise.map _ (fun x y h e => h (by omega)) List.nodup_range
theorem rng_sorted (a b : Int) : (rng a b).Pairwise (· ≤ ·) := by
  unfold rng
  refine List.Pairwise.map _ (fun x y h => ?_) List.pairwise_lt_range
  omega
theorem sort_perm (xs : List Int) : (sortI xs).Perm xs := List.mergeSort_perm _ _
theorem sort_of_perm {xs ys : List Int} (h : xs.Perm ys) (hs : ys.Pairwise (· ≤ ·)) : sortI xs = ys := by
  refine List.Perm.eq_of_pairwise (le := fun x y : Int => x ≤ y) (fun a b _ _ h h' => Int.le_antisymm h h') ?_ hs ((sort_perm xs).trans h)
  have := List.pairwise_mergeSort (le := fun x y : Int => decide (x ≤ y)) (fun a b c h1 h2 => by simp at *; omega) (fun a b => by simp; omega) xs
  exact this.imp (by simp)
theorem perm_rng {l : List Int} {n : Nat} (h1 : l.Nodup) (h2 : l.length = n) (h3 : ∀ x ∈ l, 0 ≤ x ∧ x < n) : l.Perm (rng 0 n) := by
  refine (List.perm_ext_iff_of_nodup h1 (rng_nodup 0 n)).mpr fun a => ⟨fun h => mem_rng.mpr (h3 a h), fun h => ?_⟩
  obtain ⟨a0, a1⟩ := mem_rng.mp h
  refine Classical.byContradiction fun hn => ?_
  have h4 : ((a :: l).map Int.toNat).Nodup := by
    refine List.Pairwise.map (R := fun x y => x ≠ y ∧ 0 ≤ x ∧ 0 ≤ y) _ (fun x y ⟨h, p, q⟩ e => h (by omega)) ?_
    refine List.pairwise_cons.mpr ⟨fun x hx => ⟨fun e => hn (e ▸ hx), a0, (h3 x hx).1⟩, ?_⟩
    refine List.Pairwise.imp_of_mem (fun {x y} hx hy h => ⟨h, (h3 x hx).1, (h3 y hy).1⟩) h1
  have h5 := php n _ h4 (fun x hx => by
    obtain ⟨y, hy, rfl⟩ := List.mem_map.mp hx
    rcases List.mem_cons.mp hy with rfl | hy
    · omega
    · have := h3 y hy; omega)
  simp at h5
  omega
def nxt (o : List Int) (x : Int) : Int := o.getD x.toNat 0
def it (o : List Int) : Nat → Int → Int
  | 0, x => x
  | k + 1, x => nxt o (it o k x)
theorem it_add (o : List Int) (a b : Nat) (x : Int) : it o (a + b) x = it o a (it o b x) := by
  induction a with
  | zero => rw [Nat.zero_add]; rfl
  | succ a ih => rw [Nat.succ_add]; show nxt o _ = nxt o _; rw [ih]
theorem it_one (o : List Int) (x : Int) : it o 1 x = nxt o x := rfl
theorem it_comm (o : List Int) (a b : Nat) (x : Int) : it o a (it o b x) = it o b (it o a x) := by rw [← it_add, ← it_add, Nat.add_comm]
structure IsOrd (o : List Int) : Prop where
  l1 : 1 ≤ o.length
  l2 : o.length ≤ 40
  pm : o.Perm (rng 0 o.length)
theorem isOrd_sort {o : List Int} (h1 : 1 ≤ o.length) (h2 : o.length ≤ 40) (h3 : sortI o = rng 0 o.length) : IsOrd o := ⟨h1, h2, by rw [← h3]; exact (sort_perm o).symm⟩
section
variable {o : List Int}
theorem IsOrd.sort (h : IsOrd o) : sortI o = rng 0 o.length := sort_of_perm h.pm (rng_sorted _ _)
theorem IsOrd.nd (h : IsOrd o) : o.Nodup := h.pm.nodup_iff.mpr (rng_nodup _ _)
theorem IsOrd.mem (h : IsOrd o) {x : Int} : x ∈ o ↔ 0 ≤ x ∧ x < o.length := h.pm.mem_iff.trans mem_rng
theorem nxt_get {x : Int} (h0 : 0 ≤ x) (h1 : x < o.length) : o[x.toNat]? = some (nxt o x) := by
  unfold nxt
  have : x.toNat < o.length := by omega
  rw [List.getElem?_eq_getElem this, List.getD_eq_getElem?_getD, List.getElem?_eq_getElem this]; rfl
theorem nxt_at {x : Int} (h0 : 0 ≤ x) (h1 : x < o.length) : atI o x = some (nxt o x) := by rw [atI_get h0 h1, nxt_get h0 h1]
theorem IsOrd.nxt (h : IsOrd o) {x : Int} (h0 : 0 ≤ x) (h1 : x < o.length) : 0 ≤ Dy.nxt o x ∧ Dy.nxt o x < o.length := h.mem.mp (List.mem_of_getElem? (nxt_get h0 h1))
theorem IsOrd.it (h : IsOrd o) {x : Int} (h0 : 0 ≤ x) (h1 : x < o.length) : ∀ k, 0 ≤ Dy.it o k x ∧ Dy.it o k x < o.length
  | 0 => ⟨h0, h1⟩
  | k + 1 => h.nxt (h.it h0 h1 k).1 (h.it h0 h1 k).2
theorem IsOrd.inj (h : IsOrd o) {x y : Int} (x0 : 0 ≤ x) (x1 : x < o.length) (y0 : 0 ≤ y) (y1 : y < o.length) (e : Dy.nxt o x = Dy.nxt o y) : x = y := by
  have h1 := nxt_get x0 x1
  have h2 := nxt_get y0 y1
  rw [← e] at h2
  obtain ⟨a1, b1⟩ := List.getElem?_eq_some_iff.mp h1
  obtain ⟨a2, b2⟩ := List.getElem?_eq_some_iff.mp h2
  have := (List.getElem_inj h.nd (i := x.toNat) (j := y.toNat) (h₀ := a1) (h₁ := a2)).mp (b1.trans b2.symm)
  omega
theorem IsOrd.itInj (h : IsOrd o) : ∀ (k : Nat) {x y : Int}, 0 ≤ x → x < o.length → 0 ≤ y → y < o.length → Dy.it o k x = Dy.it o k y → x = y
  | 0, _, _, _, _, _, _, e => e
  | k + 1, _, _, x0, x1, y0, y1, e => h.itInj k x0 x1 y0 y1 (h.inj (h.it x0 x1 k).1 (h.it x0 x1 k).2 (h.it y0 y1 k).1 (h.it y0 y1 k).2 e)
theorem least {p : Nat → Prop} : ∀ n, p n → ∃ m, m ≤ n ∧ p m ∧ ∀ k, k < m → ¬ p k := by
  intro n
  induction n using Nat.strongRecOn with
  | _ n ih =>
    intro h
    by_cases hk : ∃ k, k < n ∧ p k
    · obtain ⟨k, h1, h2⟩ := hk
      obtain ⟨m, h3, h4, h5⟩ := ih k h1 h2
      exact ⟨m, by omega, h4, h5⟩
    · exact ⟨n, Nat.le_refl _, h, fun k hk' hp => hk ⟨k, hk', hp⟩⟩
theorem IsOrd.cycle (h : IsOrd o) {x : Int} (h0 : 0 ≤ x) (h1 : x < o.length) : ∃ L, 1 ≤ L ∧ L ≤ o.length ∧ Dy.it o L x = x ∧ ∀ k, 0 < k → k < L → Dy.it o k x ≠ x := by
  have ex : ∃ L, 1 ≤ L ∧ L ≤ o.length ∧ Dy.it o L x = x := by
    refine Classical.byContradiction fun hn => ?_
    have hne : ∀ i j, i < j → j ≤ o.length → Dy.it o i x ≠ Dy.it o j x := fun i j hij hj e => by
      refine hn ⟨j - i, by omega, by omega, ?_⟩
      have e2 : Dy.it o i x = Dy.it o i (Dy.it o (j - i) x) := by rw [← it_add, show i + (j - i) = j by omega]; exact e
      have := h.it h0 h1 (j - i)
      exact (h.itInj i h0 h1 this.1 this.2 e2).symm
    have h2 : ((List.range (o.length + 1)).map fun k => (Dy.it o k x).toNat).Nodup := by
      refine List.Pairwise.map (R := fun a b => a < b ∧ b ≤ o.length) _ (fun a b ⟨p, q⟩ e => ?_) ?_
      · have e1 := h.it h0 h1 a
        have e2 := h.it h0 h1 b
        exact hne a b p q (by omega)
      · refine List.Pairwise.imp_of_mem (fun {a b} ha hb hlt => ⟨hlt, by have := List.mem_range.mp hb; omega⟩) List.pairwise_lt_range
    have h3 := php o.length _ h2 (fun y hy => by
      obtain ⟨k, _, rfl⟩ := List.mem_map.mp hy
      have := h.it h0 h1 k
      omega)
    rw [List.length_map, List.length_range] at h3
    omega
  obtain ⟨L, a, b, c⟩ := ex
  obtain ⟨m, m1, ⟨m2, m3, m4⟩, m5⟩ := least (p := fun L => 1 ≤ L ∧ L ≤ o.length ∧ Dy.it o L x = x) L ⟨a, b, c⟩
  exact ⟨m, m2, m3, m4, fun k k0 k1 e => m5 k k1 ⟨by omega, by omega, e⟩⟩
theorem it_mul {L : Nat} {x : Int} (h : Dy.it o L x = x) : ∀ q, Dy.it o (L * q) x = x
  | 0 => rfl
  | q + 1 => by rw [Nat.mul_succ, it_add, h, it_mul h q]
theorem it_mod {L : Nat} {x : Int} (h : Dy.it o L x = x) (m : Nat) : Dy.it o (m % L) x = Dy.it o m x := by
  conv => rhs; rw [← Nat.mod_add_div m L, it_add, it_mul h]
def srv (o : List Int) (m : Nat) : List Int := (rng 0 o.length).map (Dy.it o m)
theorem srv_len (o : List Int) (m : Nat) : (srv o m).length = o.length := by unfold srv; rw [List.length_map, rng_len]; omega
theorem rng_getE {a b : Int} {i : Nat} (h : i < (b - a).toNat) : (rng a b)[i]? = some (a + (i : Int)) := by
  unfold rng
  rw [List.getElem?_map, List.getElem?_range h]; rfl
theorem srv_at {m : Nat} {x : Int} (h0 : 0 ≤ x) (h1 : x < o.length) : atI (srv o m) x = some (Dy.it o m x) := by
  rw [atI_get h0 (by rw [srv_len]; exact h1)]
  unfold srv
  rw [List.getElem?_map, rng_getE (by omega)]
  show some (Dy.it o m (0 + (x.toNat : Int))) = _
  rw [show (0 : Int) + (x.toNat : Int) = x by omega]
theorem srv_perm (h : IsOrd o) (m : Nat) : (srv o m).Perm (rng 0 o.length) := by
  refine perm_rng ?_ (srv_len o m) (fun x hx => ?_)
  · refine List.Pairwise.map (R := fun (a b : Int) => a ≠ b ∧ (0 ≤ a ∧ a < (o.length : Int)) ∧ 0 ≤ b ∧ b < (o.length : Int)) _ (fun a b ⟨p, q, r⟩ e => p (h.itInj m q.1 q.2 r.1 r.2 e)) ?_
    exact List.Pairwise.imp_of_mem (fun {a b} ha hb hne => ⟨hne, mem_rng.mp ha, mem_rng.mp hb⟩) (rng_nodup _ _)
  · obtain ⟨y, hy, rfl⟩ := List.mem_map.mp hx
    obtain ⟨a, b⟩ := mem_rng.mp hy
    exact h.it a b m
theorem srv_mem (h : IsOrd o) {m : Nat} {x : Int} (hx : x ∈ srv o m) : 0 ≤ x ∧ x < o.length := mem_rng.mp ((srv_perm h m).mem_iff.mp hx)
theorem srv_zero (o : List Int) : srv o 0 = rng 0 o.length := by
  unfold srv
  have : (Dy.it o 0 : Int → Int) = id := by funext x; rfl
  rw [this, List.map_id]
theorem srv_one (o : List Int) : srv o 1 = o := by
  refine List.ext_getElem? fun i => ?_
  unfold srv
  rw [List.getElem?_map]
  by_cases h : i < o.length
  · rw [rng_getE (by omega)]
    show some (Dy.nxt o (0 + (i : Int))) = _
    have := nxt_get (o := o) (x := (i : Int)) (by omega) (by omega)
    rw [show (0 : Int) + (i : Int) = (i : Int) by omega, ← this]
    congr 1
  · rw [List.getElem?_eq_none (by rw [rng_len]; omega), List.getElem?_eq_none (by omega)]; rfl
theorem srv_add (a b : Nat) : (srv o a).map (Dy.it o b) = srv o (b + a) := by
  unfold srv
  rw [List.map_map]
  exact List.map_congr_left fun x _ => (it_add o b a x).symm
end
theorem erase_perm {τ : Type} : ∀ (l : List τ) (i : Nat) (h : i < l.length), (l[i] :: l.eraseIdx i).Perm l
  | [], i, h => absurd h (Nat.not_lt_zero _)
  | x :: xs, 0, _ => List.Perm.refl _
  | x :: xs, i + 1, h => (List.Perm.swap x _ _).trans (List.Perm.cons x (erase_perm xs i (Nat.lt_of_succ_lt_succ h)))
theorem popAt_ok {τ : Type} {l : List τ} {z : Int} (h0 : 0 ≤ z) (h1 : z < l.length) (h2 : l.length < 1000000) : Ok (popAt l z) (fun r => (r.1 :: r.2).Perm l) := by
  unfold popAt popN seqIndex?
  have hl : z.toNat < l.length := by omega
  rw [if_pos ⟨by omega, by omega⟩]
  simp only
  rw [show (if z < 0 then z + (l.length : Int) else z) = z from if_neg (by omega), if_pos (by rw [Bool.and_eq_true]; exact ⟨decide_eq_true h0, decide_eq_true h1⟩), Option.bind_some, List.getElem?_eq_getElem hl]
  exact ok_some (erase_perm l _ hl)
theorem ok_popAll {σ τ : Type} {f : List τ → σ → Option Int} : ∀ {xs : List σ} {l : List τ}, (∀ l' x, l' ≠ [] → l'.length ≤ l.length → x ∈ xs → Ok (f l' x) (fun z => 0 ≤ z ∧ z < l'.length)) → xs.length ≤ l.length → l.length < 1000000 → Ok (popAll f l xs) (fun ys => ys.length = xs.length ∧ ∃ r, (ys ++ r).Perm l)
  | [], l, _, _, _ => ⟨[], rfl, rfl, l, List.Perm.refl _⟩
  | x :: xs, l, h, hl, hz => by
    rw [List.length_cons] at hl
    have hne : l ≠ [] := fun e => by subst e; simp at hl
    unfold popAll
    refine ok_bnd (h l x hne (Nat.le_refl _) List.mem_cons_self) fun z ⟨z0, z1⟩ => ok_bnd (popAt_ok z0 z1 hz) fun r hr => ?_
    have hlen : r.2.length + 1 = l.length := by have := hr.length_eq; rw [List.length_cons] at this; exact this
    refine ok_bnd (ok_popAll (fun l' y hn hl' hy => h l' y hn (by omega) (List.mem_cons_of_mem _ hy)) (by omega) (by omega)) fun ys ⟨e1, r', e2⟩ => ok_some ⟨by rw [List.length_cons, List.length_cons, e1], r', ?_⟩
    exact (List.Perm.cons r.1 e2).trans hr
theorem repl_one {τ : Type} (n : Int) (x : τ) : repl n [x] = List.replicate n.toNat x := by
  unfold repl
  exact List.flatten_replicate_singleton
end Dy

namespace Dy
open PySem PySem.Spec L2
open PyProof.Rows hiding St
instance {α β : Type} [Enc α] [Enc β] : Opn (α × β) := ⟨fun h => by obtain ⟨_, _, _, e, _⟩ := h; cases e⟩
instance {α β γ : Type} [Enc α] [Enc β] [Enc γ] : Opn (T3 α β γ) := ⟨fun h => by obtain ⟨_, _, _, _, e, _⟩ := h; cases e⟩
instance {α β γ : Type} {n m k : Nat} [Shp α n] [Shp β m] [Shp γ k] : Shp (T3 α β γ) (n + m + k + 1) := ⟨fun x => by
  obtain ⟨h1, h2⟩ := Shp.ok x.a
  obtain ⟨h3, h4⟩ := Shp.ok x.b
  obtain ⟨h5, h6⟩ := Shp.ok x.c
  refine ⟨?_, ?_⟩
  · show PyData.canLay0 (.tuple [EqD.toD x.a, EqD.toD x.b, EqD.toD x.c]) = true
    simp [PyData.canLay0, PyData.canLayAll0, h1, h3, h5]
  · show PyData.depth (.tuple [EqD.toD x.a, EqD.toD x.b, EqD.toD x.c]) ≤ n + m + k + 1
    simp [PyData.depth, PyData.depthAll]
    omega⟩
section
variable {X : Cx} {K : PySem.W.Frag} {a b e : Expr} {σ : St} {s : S} {p0 p1 p2 pos : Pos} {α β : Type} [Enc α] [Enc β]
def ixS (x y : Str) : Option Nat := (Builtin.Str.occurrences y x 0 y.length 1).head?
theorem ev_indexS {x y : Str} {j : Nat} (ha : Ev X a σ s y) (hb : Ev X b σ s x) (h : ixS x y = some j)
    (hs : starEach [b] X.env = [(false, eval b X.env)] := by rfl) (hbase : attributeBase a "index" X.env (eval a X.env) = eval a X.env := by rfl) (hline : (p1.endLine == pos.line) = true := by rfl) :
    Ev X (.Call (.Attribute a "index" p1) [b] [] pos) σ s (j : Int) := fun s1 k Q q =>
  we_of (pe_m1 PySem.F.slot_str_index PySem.F.type_str_index mt_sindex pe_we pe_we hs hbase hline) (ha s1 k _ fun v s2 k2 r2 => ⟨⟨y, r2⟩, hb s2 (k.trans k2) _ fun u s3 k3 r3 => by
    unfold ixS at h
    obtain ⟨rest, hr⟩ : ∃ rest, Builtin.Str.occurrences y x 0 y.length 1 = j :: rest := by
      cases ho : Builtin.Str.occurrences y x 0 y.length 1 with
      | nil => rw [ho] at h; cases h
      | cons i rest => rw [ho] at h; cases h; exact ⟨rest, rfl⟩
    exact ⟨y, x, j, rest, r2, by rw [show u = V.str x from r3], hr, q _ s3 (k2.trans k3) rfl⟩⟩)
end
section
variable {α α' α'' β : Type} [Enc α] [Enc α'] [Enc α''] [Enc β] {X : Cx} {σ : St} {s : S} {elt tg iter c : Expr} {ifs : List Expr} {scope : Scope} {own : List (Str × Nat)} {pos : Pos}
theorem ev_some' {e : Expr} {x : Option α} {y : α} (ha : Ev X e σ s x) (h : x = some y) : Ev X e σ s y := fun s1 k Q q => by
  subst h
  exact ha s1 k Q fun v s2 k2 r2 => q v s2 k2 r2
theorem en_comp0P {xs : List (α × α')} {ys : List β} {f : α × α' → Option β} {i j : Nat} (hc : X.calm = true) (hN : X.N.Nodup) (hi : EvI X tg iter σ s xs) (ok : BlkOk X.N X.env.scope scope own)
    (hio : i ∈ own.map (·.2)) (hjo : j ∈ own.map (·.2)) (hg : ∀ s0 H0 C cl fp, PG (Blk X scope s0 H0 C cl fp) tg (gTup X.K 2 (gCons (gName i) (gCons (gName j) gNil)))) (hf : mapO f xs = some ys) (hz : ys.length ≤ sizeLine)
    (he : ∀ (x : α × α') (y : β) (v u : V) (s1 : S), x ∈ xs → Ex s s1 → Enc.rep X.K s1.F v x.1 → Enc.rep X.K s1.F u x.2 → f x = some y → ∀ s0 H0 C cl fp, Ev (Blk X scope s0 H0 C cl fp) elt (((wipe σ (own.map (·.2))).set i (some v)).set j (some u)) s1 y)
    (hs : ∀ x, foldedSetIterable iter X.env x = pure x := by intro _; rfl) : EvL X elt tg iter [] scope σ s ys :=
  ⟨hc, hN, hs, own, _, _, ok, hg, fun _ _ _ _ _ => pts_nil, fun s1 k Q q => comp_read (t := fun _ => some true) hc hN hi ok hg tg_2 (fun _ _ _ _ _ => pts_nil) hf hz (fun F x σ2 ⟨v, u, _, _, e⟩ => by rw [e, wipe_set hjo, wipe_set hio]; exact wipe_wipe fun _ z => z)
    (fun x b s1 σ2 Q _ _ _ hb q => by cases hb; exact q s1 (Ex.refl _)) (fun x y s1 σ2 hx k ⟨v, u, r, r', e⟩ _ hfx => by subst e; exact he x y v u s1 hx k r r' hfx) s1 k Q q⟩
theorem en_comp1P {xs : List (α × α')} {ys : List β} {t : α × α' → Option Bool} {f : α × α' → Option β} {i j : Nat} (hc : X.calm = true) (hN : X.N.Nodup) (hi : EvI X tg iter σ s xs) (ok : BlkOk X.N X.env.scope scope own)
    (hio : i ∈ own.map (·.2)) (hjo : j ∈ own.map (·.2)) (hg : ∀ s0 H0 C cl fp, PG (Blk X scope s0 H0 C cl fp) tg (gTup X.K 2 (gCons (gName i) (gCons (gName j) gNil)))) (hf : compO t f xs = some ys) (hz : ys.length ≤ sizeLine)
    (ht : ∀ (x : α × α') (b : Bool) (v u : V) (s1 : S), x ∈ xs → Ex s s1 → Enc.rep X.K s1.F v x.1 → Enc.rep X.K s1.F u x.2 → t x = some b → ∀ s0 H0 C cl fp, EvT (Blk X scope s0 H0 C cl fp) c (((wipe σ (own.map (·.2))).set i (some v)).set j (some u)) s1 b)
    (he : ∀ (x : α × α') (y : β) (v u : V) (s1 : S), x ∈ xs → Ex s s1 → Enc.rep X.K s1.F v x.1 → Enc.rep X.K s1.F u x.2 → t x = some true → f x = some y → ∀ s0 H0 C cl fp, Ev (Blk X scope s0 H0 C cl fp) elt (((wipe σ (own.map (·.2))).set i (some v)).set j (some u)) s1 y)
    (hs : ∀ x, foldedSetIterable iter X.env x = pure x := by intro _; rfl) : EvL X elt tg iter [c] scope σ s ys :=
  ⟨hc, hN, hs, own, _, _, ok, hg, fun s0 H0 C cl fp => pts_one ⟨fun pins s _ _ _ I h => h s0 H0 C cl fp pins s I⟩, fun s1 k Q q => comp_read (tt := fun σ H Q => ∀ s0 H0 C cl fp, WT (Blk X scope s0 H0 C cl fp) c σ H Q) hc hN hi ok hg tg_2 (fun s0 H0 C cl fp => pts_one ⟨fun pins s _ _ _ I h => h s0 H0 C cl fp pins s I⟩) hf hz (fun F x σ2 ⟨v, u, _, _, e⟩ => by rw [e, wipe_set hjo, wipe_set hio]; exact wipe_wipe fun _ z => z)
    (fun x b s1 σ2 Q hx k ⟨v, u, r, r', e⟩ hb q => by subst e; intro s0 H0 C cl fp; exact ht x b v u s1 hx k r r' hb s0 H0 C cl fp s1 (Ex.refl _) Q q) (fun x y s1 σ2 hx k ⟨v, u, r, r', e⟩ htx hfx => by subst e; exact he x y v u s1 hx k r r' htx hfx) s1 k Q q⟩
end
end Dy

set_option maxHeartbeats 4000000
namespace K60
open PySem PySem.Spec L2 Dy
open PyProof.Rows hiding St
open Enc (rep)
open Flat (toV)
open EncA (repA)
def topS (i : Nat) : Stmt := PySem.Challenge.pw_deskpairs_k60_what_is_heard.main.body.getD i (.Pass ⟨0, 0, 0, 0⟩)
abbrev s_l_digits : Stmt := topS 16
abbrev N_l_digits : List Str := ["_law_number_here", "_law_many", "_law_size", "_law_found", "_law_k"]
theorem sc_l_digits : FnScope N_l_digits ["_law_number_here", "_law_many", "_law_size"] (defScope s_l_digits) := ⟨rfl, rfl, rfl, by decide +kernel, rfl, by decide +kernel, by decide +kernel⟩
noncomputable def m_l_digits (number_here1 : Int) (many4 : Int) (size7 : Int) : Option (List Int) :=
 (lt (([] : List Int) : (List Int)) fun found11 =>
 (chk (RgB many4) (bnd (foldO (fun (b26 : ((List Int) × Int)) (x28 : Int) =>
 (chk (0 < size7) (chk ((b26.1).length < sizeLine) (lt ((b26.1 ++ [(b26.2 % size7)]) : (List Int)) fun found59 =>
 (chk (DivOk size7) (lt ((b26.2 / size7) : Int) fun number_here70 =>
 (some (found59, number_here70)))))))) (found11, number_here1) (rng 0 many4)) fun o24 =>
 (some o24.1))))
noncomputable abbrev a_l_digits : Int × Int × Int × Unit → Option (List Int) := fun a => m_l_digits a.1 a.2.1 a.2.2.1
theorem ok_l_digits {P : Program} {w : World} {K : PySem.W.Frag} {mg : Str → Option Value} {base : Heap} {f : Addr} {fd : FuncData} (F : FunP K "_law_digits" s_l_digits f fd) (hmg : mg "_law_digits" = some (.ref f)) (z_range : mg "range" = none) : Cal P w K mg base CX0 1 "_law_digits" (spN K a_l_digits) := by
  refine mk_calN (k := 0) F hmg (F.bindsN fun _ _ _ _ _ _ us hl => match us, hl with | [_, _, _], _ => rfl) sc_l_digits len3 ?_
  rintro cdv A' outer sh0 H0 X0 hr s0 vs ⟨number_here1, many4, size7, _⟩ r0 Q ⟨v2, _, rfl, r3, v5, _, rfl, r6, v8, _, rfl, r9, rfl⟩ hm hQ
  have E10 := Ex.refl s0
  unfold a_l_digits m_l_digits at hm
  dsimp only at hm
  refine do_setN 3 (en_list (xs := ([] : List Int)) ee_nil (by simp [sizeLine])) (fun p15 s13 e14 n16 o17 => ?_) sc_l_digits.nd
  have n18 := fr_back E10 n16
  have E19 := E10.trans e14
  have r20 := Enc.mono e14.f r3
  have r21 := Enc.mono e14.f r6
  have r22 := Enc.mono e14.f r9
  obtain ⟨found11, q12, hm⟩ := ltE hm
  rw [← q12] at o17
  obtain ⟨hc23, hm⟩ := chkE hm
  obtain ⟨o24, ho25, hm⟩ := bndE hm
  refine do_forO (υ := ((List Int) × Int)) PassesOwn.never rfl (ei_range1 z_range (ev_var 1 rfl r21) hc23) (pg_name (i := 4) sc_l_digits.nd rfl (by first | exact Or.inl rfl | exact Or.inr rfl)) tg_n ho25 (fun (b26 : ((List Int) × Int)) (σ' : L2.St) (t' : S) => Ex s0 t' ∧ ∃ (v_number_here : V) (y_k : Option V), σ' = [some v_number_here, some v5, some v8, some (.ref p15), y_k] ∧ Own K t' p15 (b26.1 : (List Int)) ∧ rep K t'.F v_number_here (b26.2 : Int)) (fun s88 k89 => by have E90 := E19.trans k89; have r91 := Enc.mono k89.f r20; have r92 := Enc.mono k89.f r21; have r93 := Enc.mono k89.f r22; have o94 := Own.ex o17 k89; exact ⟨E90, v2, _, rfl, o94, r91⟩) (fun s29 k30 x28 b26 b27 σ39 σ40 t37 t38 hx31 hm32 fl33 hR34 k35 hB36 => ?_) (fun s82 k83 σ84 t85 fl86 hR87 => ?_)
  · have hf41 := Fle.trans k30.f fl33
    obtain ⟨E42, v43, y44, rfl, o45, r46⟩ := hR34
    have r47 := Enc.mono hf41 r21
    have r48 := Enc.mono hf41 r22
    obtain ⟨v49, r50, rfl⟩ := hB36
    have E51 := E42.trans k35
    have o52 := Own.ex o45 k35
    have r53 := Enc.mono k35.f r46
    have r54 := Enc.mono k35.f r47
    have r55 := Enc.mono k35.f r48
    obtain ⟨hc61, hm32⟩ := chkE hm32
    obtain ⟨hc62, hm32⟩ := chkE hm32
    refine do_append 3 rfl o52 (ev_mod (ev_var 0 rfl r53) (ev_var 2 rfl r55) hc61) hc62 (fun s56 m57 o58 => ?_)
    have E63 := Ex.mu1 E51 m57 n18
    have fl64 := Fle.trans (Fle.refl t38.F) m57.f
    have r65 := Enc.mono m57.f r53
    have r66 := Enc.mono m57.f r54
    have r67 := Enc.mono m57.f r55
    have r68 := Enc.mono m57.f r50
    obtain ⟨found59, q60, hm32⟩ := ltE hm32
    rw [← q60] at o58
    obtain ⟨hc69, hm32⟩ := chkE hm32
    refine do_set 0 (ev_div (ev_var 0 rfl r65) (ev_var 2 rfl r67) hc69) (fun v74 s72 e73 r75 => ?_) sc_l_digits.nd
    have E76 := E63.trans e73
    have fl77 := Fle.trans fl64 e73.f
    have r78 := Enc.mono e73.f r66
    have r79 := Enc.mono e73.f r67
    have r80 := Enc.mono e73.f r68
    have o81 := Own.ex o58 e73
    obtain ⟨number_here70, q71, hm32⟩ := ltE hm32
    rw [← q71] at r75
    obtain rfl := Option.some.inj hm32
    exact do_nil ⟨s72, rfl, fl77, ⟨E76, v74, _, rfl, o81, r75⟩⟩
  · have hf95 := Fle.trans k83.f fl86
    obtain ⟨E96, v97, y98, rfl, o99, r100⟩ := hR87
    have r101 := Enc.mono hf95 r21
    have r102 := Enc.mono hf95 r22
    obtain rfl := Option.some.inj hm
    exact do_retO 3 rfl (hQ _ _ E96 n18 o99)
abbrev s_l_window : Stmt := topS 17
abbrev N_l_window : List Str := ["_law_bars", "_law_need", "_law_place", "_law_best", "_law_first", "_law_played", "_law_k"]
theorem sc_l_window : FnScope N_l_window ["_law_bars", "_law_need", "_law_place"] (defScope s_l_window) := ⟨rfl, rfl, rfl, by decide +kernel, rfl, by decide +kernel, by decide +kernel⟩
noncomputable def m_l_window (bars103 : (List Int)) (need106 : Int) (place109 : Int) : Option (T3 Int Int Int) :=
 (lt (none : (Option (T3 Int Int Int))) fun best113 =>
 (chk (RgB (place109 - need106)) (chk (RgB (place109 + (1 : Int))) (bnd (foldO (fun (b127 : (Option (T3 Int Int Int))) (x129 : Int) =>
 (lt ((0 : Int) : Int) fun played159 =>
 (chk (RgB x129) (chk (RgB (x129 + need106)) (bnd (foldO (fun (b176 : Int) (x178 : Int) =>
 (bnd (if ((decide ((0 : Int) ≤ x178)) && (decide (x178 < ((bars103).length : Int)))) = true then
 (bnd (atI bars103 x178) fun at227 => (lt ((b176 + at227) : Int) fun played228 =>
 (some played228)))
 else
 (some b176) : Option Int) fun b211 =>
 (some b211))) played159 (rng x129 (x129 + need106))) fun o174 =>
 (bnd (orO (b127).isNone (bnd b127 fun got299 => (some (decide (o174 < (got299).a))))) fun c300 => (bnd (if c300 = true then
 (lt ((some (⟨o174, x129, (x129 + need106)⟩ : (T3 Int Int Int))) : (Option (T3 Int Int Int))) fun best318 =>
 (some best318))
 else
 (some b127) : Option (Option (T3 Int Int Int))) fun b303 =>
 (some b303)))))))) best113 (rng (place109 - need106) (place109 + (1 : Int)))) fun o125 =>
 (bnd o125 fun got382 => (some got382))))))
noncomputable abbrev a_l_window : (List Int) × Int × Int × Unit → Option (T3 Int Int Int) := fun a => m_l_window a.1 a.2.1 a.2.2.1
theorem ok_l_window {P : Program} {w : World} {K : PySem.W.Frag} {mg : Str → Option Value} {base : Heap} {f : Addr} {fd : FuncData} (F : FunP K "_law_window" s_l_window f fd) (hmg : mg "_law_window" = some (.ref f)) (z_range : mg "range" = none) (z_len : mg "len" = none) : Cal P w K mg base CX0 1 "_law_window" (sp K a_l_window) := by
  refine mk_cal (k := 0) F hmg (F.bindsN fun _ _ _ _ _ _ us hl => match us, hl with | [_, _, _], _ => rfl) sc_l_window len3 ?_
  rintro cdv A' outer sh0 H0 X0 hr s0 vs ⟨bars103, need106, place109, _⟩ r0 Q ⟨v104, _, rfl, r105, v107, _, rfl, r108, v110, _, rfl, r111, rfl⟩ hm hQ
  have E112 := Ex.refl s0
  unfold a_l_window m_l_window at hm
  dsimp only at hm
  refine do_set 3 (ev_nonO (α := (T3 Int Int Int))) (fun v117 s115 e116 r118 => ?_) sc_l_window.nd
  have E119 := E112.trans e116
  have r120 := Enc.mono e116.f r105
  have r121 := Enc.mono e116.f r108
  have r122 := Enc.mono e116.f r111
  obtain ⟨best113, q114, hm⟩ := ltE hm
  rw [← q114] at r118
  obtain ⟨hc123, hm⟩ := chkE hm
  obtain ⟨hc124, hm⟩ := chkE hm
  obtain ⟨o125, ho126, hm⟩ := bndE hm
  refine do_forO (υ := (Option (T3 Int Int Int))) PassesOwn.never rfl (ei_range2 z_range (ev_sub (ev_var 2 rfl r122) (ev_var 1 rfl r121)) (ev_add (ev_var 2 rfl r122) ev_int) hc123 hc124) (pg_name (i := 4) sc_l_window.nd rfl (by first | exact Or.inl rfl | exact Or.inr rfl)) tg_n ho126 (fun (b127 : (Option (T3 Int Int Int))) (σ' : L2.St) (t' : S) => Ex s0 t' ∧ ∃ (v_best : V) (y_played : Option V) (y_k : Option V) (y_first : Option V), σ' = [some v104, some v107, some v110, some v_best, y_first, y_played, y_k] ∧ rep K t'.F v_best (b127 : (Option (T3 Int Int Int)))) (fun s365 k366 => by have E367 := E119.trans k366; have r368 := Enc.mono k366.f r120; have r369 := Enc.mono k366.f r121; have r370 := Enc.mono k366.f r122; have r371 := Enc.mono k366.f r118; exact ⟨E367, v117, _, _, _, rfl, r371⟩) (fun s130 k131 x129 b127 b128 σ140 σ141 t138 t139 hx132 hm133 fl134 hR135 k136 hB137 => ?_) (fun s359 k360 σ361 t362 fl363 hR364 => ?_)
  · have hf142 := Fle.trans k131.f fl134
    obtain ⟨E143, v144, y145, y146, y147, rfl, r148⟩ := hR135
    have r149 := Enc.mono hf142 r120
    have r150 := Enc.mono hf142 r121
    have r151 := Enc.mono hf142 r122
    obtain ⟨v152, r153, rfl⟩ := hB137
    have E154 := E143.trans k136
    have r155 := Enc.mono k136.f r148
    have r156 := Enc.mono k136.f r149
    have r157 := Enc.mono k136.f r150
    have r158 := Enc.mono k136.f r151
    refine do_set 5 ev_int (fun v163 s161 e162 r164 => ?_) sc_l_window.nd
    have E165 := E154.trans e162
    have fl166 := Fle.trans (Fle.refl t139.F) e162.f
    have r167 := Enc.mono e162.f r155
    have r168 := Enc.mono e162.f r156
    have r169 := Enc.mono e162.f r157
    have r170 := Enc.mono e162.f r158
    have r171 := Enc.mono e162.f r153
    obtain ⟨played159, q160, hm133⟩ := ltE hm133
    rw [← q160] at r164
    obtain ⟨hc172, hm133⟩ := chkE hm133
    obtain ⟨hc173, hm133⟩ := chkE hm133
    obtain ⟨o174, ho175, hm133⟩ := bndE hm133
    refine do_forO (υ := Int) PassesOwn.never rfl (ei_range2 z_range (ev_var 4 rfl r171) (ev_add (ev_var 4 rfl r171) (ev_var 1 rfl r169)) hc172 hc173) (pg_name (i := 6) sc_l_window.nd rfl (by first | exact Or.inl rfl | exact Or.inr rfl)) tg_n ho175 (fun (b176 : Int) (σ' : L2.St) (t' : S) => Ex s0 t' ∧ ∃ (v_played : V) (y_k : Option V), σ' = [some v104, some v107, some v110, some v144, some v152, some v_played, y_k] ∧ rep K t'.F v_played (b176 : Int)) (fun s278 k279 => by have E280 := E165.trans k279; have fl281 := Fle.trans fl166 k279.f; have r282 := Enc.mono k279.f r167; have r283 := Enc.mono k279.f r168; have r284 := Enc.mono k279.f r169; have r285 := Enc.mono k279.f r170; have r286 := Enc.mono k279.f r171; have r287 := Enc.mono k279.f r164; exact ⟨E280, v163, _, rfl, r287⟩) (fun s179 k180 x178 b176 b177 σ189 σ190 t187 t188 hx181 hm182 fl183 hR184 k185 hB186 => ?_) (fun s272 k273 σ274 t275 fl276 hR277 => ?_)
    · have hf191 := Fle.trans k180.f fl183
      obtain ⟨E192, v193, y194, rfl, r195⟩ := hR184
      have r196 := Enc.mono hf191 r167
      have r197 := Enc.mono hf191 r168
      have r198 := Enc.mono hf191 r169
      have r199 := Enc.mono hf191 r170
      have r200 := Enc.mono hf191 r171
      obtain ⟨v201, r202, rfl⟩ := hB186
      have E203 := E192.trans k185
      have r204 := Enc.mono k185.f r195
      have r205 := Enc.mono k185.f r196
      have r206 := Enc.mono k185.f r197
      have r207 := Enc.mono k185.f r198
      have r208 := Enc.mono k185.f r199
      have r209 := Enc.mono k185.f r200
      obtain ⟨b211, hj212, hm182⟩ := bndE hm182
      refine do_if (EvW.tt (EvC.w (ec_and (eb_ge (ev_var 6 rfl r202) ev_int) fun _ => (ec_and1 (eb_lt (ev_var 6 rfl r202) (ev_len z_len (Ev.r (ev_var 0 rfl r206)))))))) (fun (σ' : L2.St) (t' : S) => Fle t188.F t'.F ∧ Ex s0 t' ∧ ∃ (v_played : V), σ' = [some v104, some v107, some v110, some v144, some v152, some v_played, some v201] ∧ rep K t'.F v_played (b211 : Int)) (fun hb213 s214 e215 => ?_) (fun hb243 s244 e245 => ?_) (fun σ257 s258 hM259 => ?_)
      · have hm216 := iteE1 hj212 hb213
        have E217 := E203.trans e215
        have fl218 := Fle.trans (Fle.refl t188.F) e215.f
        have fl219 := Fle.trans (Fle.refl t188.F) e215.f
        have r220 := Enc.mono e215.f r204
        have r221 := Enc.mono e215.f r205
        have r222 := Enc.mono e215.f r206
        have r223 := Enc.mono e215.f r207
        have r224 := Enc.mono e215.f r208
        have r225 := Enc.mono e215.f r209
        have r226 := Enc.mono e215.f r202
        obtain ⟨at227, h_at227, hm216⟩ := bndE hm216
        refine do_set 5 (ev_add (ev_var 5 rfl r220) (ev_ix (Ev.r (ev_var 0 rfl r222)) (ev_var 6 rfl r226) h_at227)) (fun v232 s230 e231 r233 => ?_) sc_l_window.nd
        have E234 := E217.trans e231
        have fl235 := Fle.trans fl218 e231.f
        have fl236 := Fle.trans fl219 e231.f
        have r237 := Enc.mono e231.f r221
        have r238 := Enc.mono e231.f r222
        have r239 := Enc.mono e231.f r223
        have r240 := Enc.mono e231.f r224
        have r241 := Enc.mono e231.f r225
        have r242 := Enc.mono e231.f r226
        obtain ⟨played228, q229, hm216⟩ := ltE hm216
        rw [← q229] at r233
        obtain rfl := Option.some.inj hm216
        exact do_nil ⟨s230, rfl, fl236, ⟨E234, v232, rfl, r233⟩⟩
      · have hm246 := iteE2 hj212 hb243
        have E247 := E203.trans e245
        have fl248 := Fle.trans (Fle.refl t188.F) e245.f
        have fl249 := Fle.trans (Fle.refl t188.F) e245.f
        have r250 := Enc.mono e245.f r204
        have r251 := Enc.mono e245.f r205
        have r252 := Enc.mono e245.f r206
        have r253 := Enc.mono e245.f r207
        have r254 := Enc.mono e245.f r208
        have r255 := Enc.mono e245.f r209
        have r256 := Enc.mono e245.f r202
        obtain rfl := Option.some.inj hm246
        exact do_nil ⟨s244, rfl, fl249, ⟨E247, v193, rfl, r250⟩⟩
      · obtain ⟨hf260, hR261⟩ := hM259
        obtain ⟨E262, v263, rfl, r264⟩ := hR261
        have r265 := Enc.mono hf260 r205
        have r266 := Enc.mono hf260 r206
        have r267 := Enc.mono hf260 r207
        have r268 := Enc.mono hf260 r208
        have r269 := Enc.mono hf260 r209
        have r270 := Enc.mono hf260 r202
        have fl271 := Fle.trans (Fle.refl t188.F) hf260
        obtain rfl := Option.some.inj hm182
        exact do_nil ⟨s258, rfl, fl271, ⟨E262, v263, _, rfl, r264⟩⟩
    · have hf288 := Fle.trans k273.f fl276
      obtain ⟨E289, v290, y291, rfl, r292⟩ := hR277
      have r293 := Enc.mono hf288 r167
      have r294 := Enc.mono hf288 r168
      have r295 := Enc.mono hf288 r169
      have r296 := Enc.mono hf288 r170
      have r297 := Enc.mono hf288 r171
      have fl298 := Fle.trans fl166 hf288
      obtain ⟨c300, h_c300, hm133⟩ := bndE hm133
      obtain ⟨b303, hj304, hm133⟩ := bndE hm133
      refine do_if (EvW.tt (EvC.w (by skip; exact ec_orO (eb_isN (ev_var 3 rfl r293)) (fun hb301 => (fun hz => (by obtain ⟨got299, h_got299, hz⟩ := bndE hz; obtain rfl := Option.some.inj hz; exact (ec_or1 (eb_lt (ev_var 5 rfl r292) (ev_ixP (ev_some' (ev_var 3 rfl r293) h_got299) ev_int p3_0))))) ((orE h_c300).1 hb301)) (orE h_c300).2))) (fun (σ' : L2.St) (t' : S) => Fle t275.F t'.F ∧ Ex s0 t' ∧ ∃ (v_best : V), σ' = [some v104, some v107, some v110, some v_best, some v152, some v290, y291] ∧ rep K t'.F v_best (b303 : (Option (T3 Int Int Int)))) (fun hb305 s306 e307 => ?_) (fun hb332 s333 e334 => ?_) (fun σ345 s346 hM347 => ?_)
      · have hm308 := iteE1 hj304 hb305
        have E309 := E289.trans e307
        have fl310 := Fle.trans fl298 e307.f
        have fl311 := Fle.trans (Fle.refl t275.F) e307.f
        have r312 := Enc.mono e307.f r292
        have r313 := Enc.mono e307.f r293
        have r314 := Enc.mono e307.f r294
        have r315 := Enc.mono e307.f r295
        have r316 := Enc.mono e307.f r296
        have r317 := Enc.mono e307.f r297
        refine do_set 3 (ev_some (ev_t3 (ea_cons (ev_var 5 rfl r312) (ea_cons (ev_var 4 rfl r317) (ea_cons (ev_add (ev_var 4 rfl r317) (ev_var 1 rfl r315)) ea_nil))))) (fun v322 s320 e321 r323 => ?_) sc_l_window.nd
        have E324 := E309.trans e321
        have fl325 := Fle.trans fl310 e321.f
        have fl326 := Fle.trans fl311 e321.f
        have r327 := Enc.mono e321.f r312
        have r328 := Enc.mono e321.f r314
        have r329 := Enc.mono e321.f r315
        have r330 := Enc.mono e321.f r316
        have r331 := Enc.mono e321.f r317
        obtain ⟨best318, q319, hm308⟩ := ltE hm308
        rw [← q319] at r323
        obtain rfl := Option.some.inj hm308
        exact do_nil ⟨s320, rfl, fl326, ⟨E324, v322, rfl, r323⟩⟩
      · have hm335 := iteE2 hj304 hb332
        have E336 := E289.trans e334
        have fl337 := Fle.trans fl298 e334.f
        have fl338 := Fle.trans (Fle.refl t275.F) e334.f
        have r339 := Enc.mono e334.f r292
        have r340 := Enc.mono e334.f r293
        have r341 := Enc.mono e334.f r294
        have r342 := Enc.mono e334.f r295
        have r343 := Enc.mono e334.f r296
        have r344 := Enc.mono e334.f r297
        obtain rfl := Option.some.inj hm335
        exact do_nil ⟨s333, rfl, fl338, ⟨E336, v144, rfl, r340⟩⟩
      · obtain ⟨hf348, hR349⟩ := hM347
        obtain ⟨E350, v351, rfl, r352⟩ := hR349
        have r353 := Enc.mono hf348 r292
        have r354 := Enc.mono hf348 r294
        have r355 := Enc.mono hf348 r295
        have r356 := Enc.mono hf348 r296
        have r357 := Enc.mono hf348 r297
        have fl358 := Fle.trans fl298 hf348
        obtain rfl := Option.some.inj hm133
        exact do_nil ⟨s346, rfl, fl358, ⟨E350, v351, _, _, _, rfl, r352⟩⟩
  · have hf372 := Fle.trans k360.f fl363
    obtain ⟨E373, v374, y375, y376, y377, rfl, r378⟩ := hR364
    have r379 := Enc.mono hf372 r120
    have r380 := Enc.mono hf372 r121
    have r381 := Enc.mono hf372 r122
    obtain ⟨got382, h_got382, hm⟩ := bndE hm
    obtain rfl := Option.some.inj hm
    exact do_ret (ev_some' (ev_var 3 rfl r378) h_got382) fun v383 s384 e385 r386 => hQ _ _ (E373.trans e385) r386
abbrev s_l_due : Stmt := topS 18
abbrev N_l_due : List Str := ["_law_bars", "_law_need", "_law_breaks", "_law_hands", "_law_spots", "_law_due_here", "_law_k", "_law_within", "_law_many", "_law_place", "_law_spot"]
theorem sc_l_due : FnScope N_l_due ["_law_bars", "_law_need", "_law_breaks", "_law_hands"] (defScope s_l_due) := ⟨rfl, rfl, rfl, by decide +kernel, rfl, by decide +kernel, by decide +kernel⟩
noncomputable def m_l_due (bars387 : (List Int)) (need390 : Int) (breaks393 : (List Int)) (hands396 : Int) : Option (List Int) :=
 (bnd (mapO (fun (x400 : Int) => (bnd (m_l_window bars387 need390 x400) fun window412 => (some window412))) breaks393) fun ys413 => (chk ((ys413).length ≤ sizeLine) (lt (ys413 : (List (T3 Int Int Int))) fun spots415 =>
 (lt (([] : List Int) : (List Int)) fun due_here432 =>
 (chk (RgB ((bars387).length : Int)) (bnd (foldO (fun (b449 : (List Int)) (x451 : Int) =>
 (chk (((List.map (fun (x484 : (T3 Int Int Int)) => x484) (List.filter (fun (x484 : (T3 Int Int Int)) => ((decide ((x484).b ≤ x451)) && (decide (x451 < (x484).c)))) spots415))).length ≤ sizeLine) (lt ((List.map (fun (x484 : (T3 Int Int Int)) => x484) (List.filter (fun (x484 : (T3 Int Int Int)) => ((decide ((x484).b ≤ x451)) && (decide (x451 < (x484).c)))) spots415)) : (List (T3 Int Int Int))) fun within501 =>
 (lt (hands396 : Int) fun many522 =>
 (bnd (if (!decide (within501 = ([] : List (T3 Int Int Int)))) = true then
 (lt ((hands396 / (2 : Int)) : Int) fun many557 =>
 (some many557))
 else
 (some many522) : Option Int) fun b539 =>
 (bnd (atI bars387 x451) fun at607 => (bnd (if (decide (at607 = (0 : Int))) = true then
 (lt ((0 : Int) : Int) fun many627 =>
 (some many627))
 else
 (some b539) : Option Int) fun b609 =>
 (chk ((b449).length < sizeLine) (lt ((b449 ++ [b609]) : (List Int)) fun due_here680 =>
 (some due_here680)))))))))) due_here432 (rng 0 ((bars387).length : Int))) fun o447 =>
 (some o447)))))))
noncomputable abbrev a_l_due : (List Int) × Int × (List Int) × Int × Unit → Option (List Int) := fun a => m_l_due a.1 a.2.1 a.2.2.1 a.2.2.2.1
theorem ok_l_due {P : Program} {w : World} {K : PySem.W.Frag} {mg : Str → Option Value} {base : Heap} {f : Addr} {fd : FuncData} (F : FunP K "_law_due" s_l_due f fd) (hmg : mg "_law_due" = some (.ref f)) (C_l_window : Cal P w K mg base CX0 1 "_law_window" (sp K a_l_window)) (z_range : mg "range" = none) (z_len : mg "len" = none) : Cal P w K mg base CX0 2 "_law_due" (spN K a_l_due) := by
  refine mk_calN (k := 1) F hmg (F.bindsN fun _ _ _ _ _ _ us hl => match us, hl with | [_, _, _, _], _ => rfl) sc_l_due len4 ?_
  rintro cdv A' outer sh0 H0 X0 hr s0 vs ⟨bars387, need390, breaks393, hands396, _⟩ r0 Q ⟨v388, _, rfl, r389, v391, _, rfl, r392, v394, _, rfl, r395, v397, _, rfl, r398, rfl⟩ hm hQ
  have E399 := Ex.refl s0
  unfold a_l_due m_l_due at hm
  dsimp only at hm
  obtain ⟨ys413, h_ys413, hm⟩ := bndE hm
  obtain ⟨hc414, hm⟩ := chkE hm
  refine do_setL 4 (en_comp0 (own := [("_law_place", 9)]) (j := 9) (f := fun (x400 : Int) => (bnd (m_l_window bars387 need390 x400) fun window412 => (some window412))) rfl sc_l_due.nd (ei_list (ev_var 2 rfl r395)) (blkOk_by (own := [("_law_place", 9)]) (N := N_l_due) (sc := defScope s_l_due) (by decide +kernel)) rfl (by decide) (fun _ _ _ _ _ => pg_name (i := 9) sc_l_due.nd rfl (by first | exact Or.inl rfl | exact Or.inr rfl)) h_ys413 hc414 (fun x400 y401 v410 s402 hx404 e403 r411 hf405 _ _ _ _ _ => by have r406 := Enc.mono e403.f r389; have r407 := Enc.mono e403.f r392; obtain ⟨window412, h_window412, hf405⟩ := bndE hf405; obtain rfl := Option.some.inj hf405; exact (ev_call C_l_window hr (by decide) (ea_cons (ev_var 0 rfl r406) (ea_cons (ev_var 1 rfl r407) (ea_cons (ev_var 9 rfl r411) ea_nil))) h_window412))) (fun p421 s417 e418 n422 o423 => ?_) rfl rfl
  obtain ⟨s424, hs425, e426, r420⟩ := frz_ex e418 n422 o423
  rw [← hs425]
  have E427 := E399.trans e426
  have r428 := Enc.mono e426.f r389
  have r429 := Enc.mono e426.f r392
  have r430 := Enc.mono e426.f r395
  have r431 := Enc.mono e426.f r398
  obtain ⟨spots415, q416, hm⟩ := ltE hm
  rw [← q416] at r420
  refine do_setN 5 (en_list (xs := ([] : List Int)) ee_nil (by simp [sizeLine])) (fun p436 s434 e435 n437 o438 => ?_) sc_l_due.nd
  have n439 := fr_back E427 n437
  have E440 := E427.trans e435
  have r441 := Enc.mono e435.f r428
  have r442 := Enc.mono e435.f r429
  have r443 := Enc.mono e435.f r430
  have r444 := Enc.mono e435.f r431
  have r445 := Enc.mono e435.f r420
  obtain ⟨due_here432, q433, hm⟩ := ltE hm
  rw [← q433] at o438
  obtain ⟨hc446, hm⟩ := chkE hm
  obtain ⟨o447, ho448, hm⟩ := bndE hm
  refine do_forO (υ := (List Int)) PassesOwn.never rfl (ei_range1 z_range (ev_len z_len (Ev.r (ev_var 0 rfl r441))) hc446) (pg_name (i := 6) sc_l_due.nd rfl (by first | exact Or.inl rfl | exact Or.inr rfl)) tg_n ho448 (fun (b449 : (List Int)) (σ' : L2.St) (t' : S) => Ex s0 t' ∧ ∃ (y_within : Option V) (y_many : Option V) (y_k : Option V), σ' = [some v388, some v391, some v394, some v397, some (V.ref p421), some (.ref p436), y_k, y_within, y_many, none, none] ∧ Own K t' p436 (b449 : (List Int))) (fun s699 k700 => by have E701 := E440.trans k700; have r702 := Enc.mono k700.f r441; have r703 := Enc.mono k700.f r442; have r704 := Enc.mono k700.f r443; have r705 := Enc.mono k700.f r444; have r706 := Enc.mono k700.f r445; have o707 := Own.ex o438 k700; exact ⟨E701, _, _, _, rfl, o707⟩) (fun s452 k453 x451 b449 b450 σ462 σ463 t460 t461 hx454 hm455 fl456 hR457 k458 hB459 => ?_) (fun s693 k694 σ695 t696 fl697 hR698 => ?_)
  · have hf464 := Fle.trans k453.f fl456
    obtain ⟨E465, y466, y467, y468, rfl, o469⟩ := hR457
    have r470 := Enc.mono hf464 r441
    have r471 := Enc.mono hf464 r442
    have r472 := Enc.mono hf464 r443
    have r473 := Enc.mono hf464 r444
    have r474 := Enc.mono hf464 r445
    obtain ⟨v475, r476, rfl⟩ := hB459
    have E477 := E465.trans k458
    have o478 := Own.ex o469 k458
    have r479 := Enc.mono k458.f r470
    have r480 := Enc.mono k458.f r471
    have r481 := Enc.mono k458.f r472
    have r482 := Enc.mono k458.f r473
    have r483 := Enc.mono k458.f r474
    obtain ⟨hc499, hm455⟩ := chkE hm455
    refine do_setL 7 (en_comp1 (own := [("_law_spot", 10)]) (j := 10) (t := fun (x484 : (T3 Int Int Int)) => some ((decide ((x484).b ≤ x451)) && (decide (x451 < (x484).c)))) (f := fun (x484 : (T3 Int Int Int)) => some x484) rfl sc_l_due.nd (ei_list (ev_var 4 rfl r483)) (blkOk_by (own := [("_law_spot", 10)]) (N := N_l_due) (sc := defScope s_l_due) (by decide +kernel)) rfl (by decide) (fun _ _ _ _ _ => pg_name (i := 10) sc_l_due.nd rfl (by first | exact Or.inl rfl | exact Or.inr rfl)) (compO_pure (fun (x484 : (T3 Int Int Int)) => ((decide ((x484).b ≤ x451)) && (decide (x451 < (x484).c)))) (fun (x484 : (T3 Int Int Int)) => x484) spots415) hc499 (fun x484 y485 v497 s486 hx488 e487 r498 hf489 _ _ _ _ _ => by have r496 := Enc.mono e487.f r476; obtain rfl := Option.some.inj hf489; exact (EvW.tt (EvC.w (ec_and (eb_le (ev_ixP (ev_var 10 rfl r498) ev_int p3_1) (ev_var 6 rfl r496)) fun _ => (ec_and1 (eb_lt (ev_var 6 rfl r496) (ev_ixP (ev_var 10 rfl r498) ev_int p3_2))))))) (fun x484 y485 v497 s486 hx488 e487 r498 ht500 hf489 _ _ _ _ _ => by obtain rfl := Option.some.inj hf489; exact (ev_var 10 rfl r498))) (fun p507 s503 e504 n508 o509 => ?_) rfl rfl
    obtain ⟨s510, hs511, e512, r506⟩ := frz_ex e504 n508 o509
    rw [← hs511]
    have E513 := E477.trans e512
    have fl514 := Fle.trans (Fle.refl t461.F) e512.f
    have o515 := Own.ex o478 e512
    have r516 := Enc.mono e512.f r479
    have r517 := Enc.mono e512.f r480
    have r518 := Enc.mono e512.f r481
    have r519 := Enc.mono e512.f r482
    have r520 := Enc.mono e512.f r483
    have r521 := Enc.mono e512.f r476
    obtain ⟨within501, q502, hm455⟩ := ltE hm455
    rw [← q502] at r506
    refine do_set 8 (ev_var 3 rfl r519) (fun v526 s524 e525 r527 => ?_) sc_l_due.nd
    have E528 := E513.trans e525
    have fl529 := Fle.trans fl514 e525.f
    have o530 := Own.ex o515 e525
    have r531 := Enc.mono e525.f r516
    have r532 := Enc.mono e525.f r517
    have r533 := Enc.mono e525.f r518
    have r534 := Enc.mono e525.f r519
    have r535 := Enc.mono e525.f r520
    have r536 := Enc.mono e525.f r521
    have r537 := Enc.mono e525.f r506
    obtain ⟨many522, q523, hm455⟩ := ltE hm455
    rw [← q523] at r527
    obtain ⟨b539, hj540, hm455⟩ := bndE hm455
    refine do_if (EvB.t (eb_neL hr (Ev.r (ev_var 7 rfl r537)) (EvN.r (en_list (xs := ([] : List (T3 Int Int Int))) ee_nil (by simp [sizeLine]))) (shp_of _) (shp_of _))) (fun (σ' : L2.St) (t' : S) => Fle s524.F t'.F ∧ Ex s0 t' ∧ ∃ (v_many : V), σ' = [some v388, some v391, some v394, some v397, some (V.ref p421), some (.ref p436), some v475, some (V.ref p507), some v_many, none, none] ∧ rep K t'.F v_many (b539 : Int) ∧ Own K t' p436 (b449 : (List Int))) (fun hb541 s542 e543 => ?_) (fun hb574 s575 e576 => ?_) (fun σ590 s591 hM592 => ?_)
    · have hm544 := iteE1 hj540 hb541
      have E545 := E528.trans e543
      have fl546 := Fle.trans fl529 e543.f
      have fl547 := Fle.trans (Fle.refl s524.F) e543.f
      have o548 := Own.ex o530 e543
      have r549 := Enc.mono e543.f r531
      have r550 := Enc.mono e543.f r532
      have r551 := Enc.mono e543.f r533
      have r552 := Enc.mono e543.f r534
      have r553 := Enc.mono e543.f r535
      have r554 := Enc.mono e543.f r536
      have r555 := Enc.mono e543.f r537
      have r556 := Enc.mono e543.f r527
      refine do_set 8 (ev_div (ev_var 3 rfl r552) ev_int ⟨by decide, by decide +kernel⟩) (fun v561 s559 e560 r562 => ?_) sc_l_due.nd
      have E563 := E545.trans e560
      have fl564 := Fle.trans fl546 e560.f
      have fl565 := Fle.trans fl547 e560.f
      have o566 := Own.ex o548 e560
      have r567 := Enc.mono e560.f r549
      have r568 := Enc.mono e560.f r550
      have r569 := Enc.mono e560.f r551
      have r570 := Enc.mono e560.f r552
      have r571 := Enc.mono e560.f r553
      have r572 := Enc.mono e560.f r554
      have r573 := Enc.mono e560.f r555
      obtain ⟨many557, q558, hm544⟩ := ltE hm544
      rw [← q558] at r562
      obtain rfl := Option.some.inj hm544
      exact do_nil ⟨s559, rfl, fl565, ⟨E563, v561, rfl, r562, o566⟩⟩
    · have hm577 := iteE2 hj540 hb574
      have E578 := E528.trans e576
      have fl579 := Fle.trans fl529 e576.f
      have fl580 := Fle.trans (Fle.refl s524.F) e576.f
      have o581 := Own.ex o530 e576
      have r582 := Enc.mono e576.f r531
      have r583 := Enc.mono e576.f r532
      have r584 := Enc.mono e576.f r533
      have r585 := Enc.mono e576.f r534
      have r586 := Enc.mono e576.f r535
      have r587 := Enc.mono e576.f r536
      have r588 := Enc.mono e576.f r537
      have r589 := Enc.mono e576.f r527
      obtain rfl := Option.some.inj hm577
      exact do_nil ⟨s575, rfl, fl580, ⟨E578, v526, rfl, r589, o581⟩⟩
    · obtain ⟨hf593, hR594⟩ := hM592
      obtain ⟨E595, v596, rfl, r597, o598⟩ := hR594
      have r599 := Enc.mono hf593 r531
      have r600 := Enc.mono hf593 r532
      have r601 := Enc.mono hf593 r533
      have r602 := Enc.mono hf593 r534
      have r603 := Enc.mono hf593 r535
      have r604 := Enc.mono hf593 r536
      have r605 := Enc.mono hf593 r537
      have fl606 := Fle.trans fl529 hf593
      obtain ⟨at607, h_at607, hm455⟩ := bndE hm455
      obtain ⟨b609, hj610, hm455⟩ := bndE hm455
      refine do_if (EvB.t (eb_eq (ev_ix (Ev.r (ev_var 0 rfl r599)) (ev_var 6 rfl r604) h_at607) ev_int)) (fun (σ' : L2.St) (t' : S) => Fle s591.F t'.F ∧ Ex s0 t' ∧ ∃ (v_many : V), σ' = [some v388, some v391, some v394, some v397, some (V.ref p421), some (.ref p436), some v475, some (V.ref p507), some v_many, none, none] ∧ rep K t'.F v_many (b609 : Int) ∧ Own K t' p436 (b449 : (List Int))) (fun hb611 s612 e613 => ?_) (fun hb644 s645 e646 => ?_) (fun σ660 s661 hM662 => ?_)
      · have hm614 := iteE1 hj610 hb611
        have E615 := E595.trans e613
        have fl616 := Fle.trans fl606 e613.f
        have fl617 := Fle.trans (Fle.refl s591.F) e613.f
        have r618 := Enc.mono e613.f r597
        have o619 := Own.ex o598 e613
        have r620 := Enc.mono e613.f r599
        have r621 := Enc.mono e613.f r600
        have r622 := Enc.mono e613.f r601
        have r623 := Enc.mono e613.f r602
        have r624 := Enc.mono e613.f r603
        have r625 := Enc.mono e613.f r604
        have r626 := Enc.mono e613.f r605
        refine do_set 8 ev_int (fun v631 s629 e630 r632 => ?_) sc_l_due.nd
        have E633 := E615.trans e630
        have fl634 := Fle.trans fl616 e630.f
        have fl635 := Fle.trans fl617 e630.f
        have o636 := Own.ex o619 e630
        have r637 := Enc.mono e630.f r620
        have r638 := Enc.mono e630.f r621
        have r639 := Enc.mono e630.f r622
        have r640 := Enc.mono e630.f r623
        have r641 := Enc.mono e630.f r624
        have r642 := Enc.mono e630.f r625
        have r643 := Enc.mono e630.f r626
        obtain ⟨many627, q628, hm614⟩ := ltE hm614
        rw [← q628] at r632
        obtain rfl := Option.some.inj hm614
        exact do_nil ⟨s629, rfl, fl635, ⟨E633, v631, rfl, r632, o636⟩⟩
      · have hm647 := iteE2 hj610 hb644
        have E648 := E595.trans e646
        have fl649 := Fle.trans fl606 e646.f
        have fl650 := Fle.trans (Fle.refl s591.F) e646.f
        have r651 := Enc.mono e646.f r597
        have o652 := Own.ex o598 e646
        have r653 := Enc.mono e646.f r599
        have r654 := Enc.mono e646.f r600
        have r655 := Enc.mono e646.f r601
        have r656 := Enc.mono e646.f r602
        have r657 := Enc.mono e646.f r603
        have r658 := Enc.mono e646.f r604
        have r659 := Enc.mono e646.f r605
        obtain rfl := Option.some.inj hm647
        exact do_nil ⟨s645, rfl, fl650, ⟨E648, v596, rfl, r651, o652⟩⟩
      · obtain ⟨hf663, hR664⟩ := hM662
        obtain ⟨E665, v666, rfl, r667, o668⟩ := hR664
        have r669 := Enc.mono hf663 r599
        have r670 := Enc.mono hf663 r600
        have r671 := Enc.mono hf663 r601
        have r672 := Enc.mono hf663 r602
        have r673 := Enc.mono hf663 r603
        have r674 := Enc.mono hf663 r604
        have r675 := Enc.mono hf663 r605
        have fl676 := Fle.trans fl606 hf663
        obtain ⟨hc682, hm455⟩ := chkE hm455
        refine do_append 5 rfl o668 (ev_var 8 rfl r667) hc682 (fun s677 m678 o679 => ?_)
        have E683 := Ex.mu1 E665 m678 n439
        have fl684 := Fle.trans fl676 m678.f
        have r685 := Enc.mono m678.f r667
        have r686 := Enc.mono m678.f r669
        have r687 := Enc.mono m678.f r670
        have r688 := Enc.mono m678.f r671
        have r689 := Enc.mono m678.f r672
        have r690 := Enc.mono m678.f r673
        have r691 := Enc.mono m678.f r674
        have r692 := Enc.mono m678.f r675
        obtain ⟨due_here680, q681, hm455⟩ := ltE hm455
        rw [← q681] at o679
        obtain rfl := Option.some.inj hm455
        exact do_nil ⟨s677, rfl, fl684, ⟨E683, _, _, _, rfl, o679⟩⟩
  · have hf708 := Fle.trans k694.f fl697
    obtain ⟨E709, y710, y711, y712, rfl, o713⟩ := hR698
    have r714 := Enc.mono hf708 r441
    have r715 := Enc.mono hf708 r442
    have r716 := Enc.mono hf708 r443
    have r717 := Enc.mono hf708 r444
    have r718 := Enc.mono hf708 r445
    obtain rfl := Option.some.inj hm
    exact do_retO 5 rfl (hQ _ _ E709 n439 o713)
abbrev s_asked_bars : Stmt := topS 7
abbrev N_asked_bars : List Str := ["bars"]
theorem sc_asked_bars : FnScope N_asked_bars ["bars"] (defScope s_asked_bars) := ⟨rfl, rfl, rfl, by decide +kernel, rfl, by decide +kernel, by decide +kernel⟩
noncomputable def m_asked_bars (bars719 : (List Int)) : Option Bool :=
 (bnd (orO (decide (((bars719).length : Int) < (1 : Int))) (orO (decide ((200 : Int) < ((bars719).length : Int))) (bnd (minL bars719) fun min723 => (some (decide (min723 < (0 : Int))))))) fun c724 => (if c724 = true then
 none
 else
 (some true)))
noncomputable abbrev a_asked_bars : (List Int) × Unit → Option Bool := fun a => m_asked_bars a.1
theorem ok_asked_bars {P : Program} {w : World} {K : PySem.W.Frag} {mg : Str → Option Value} {base : Heap} {f : Addr} {fd : FuncData} (F : FunP K "asked_bars" s_asked_bars f fd) (hmg : mg "asked_bars" = some (.ref f)) (z_len : mg "len" = none) (z_min : mg "min" = none) : Cal P w K mg base CX0 1 "asked_bars" (sp K a_asked_bars) := by
  refine mk_cal (k := 0) F hmg (F.bindsN fun _ _ _ _ _ _ us hl => match us, hl with | [_], _ => rfl) sc_asked_bars len1 ?_
  rintro cdv A' outer sh0 H0 X0 hr s0 vs ⟨bars719, _⟩ r0 Q ⟨v720, _, rfl, r721, rfl⟩ hm hQ
  have E722 := Ex.refl s0
  unfold a_asked_bars m_asked_bars at hm
  dsimp only at hm
  obtain ⟨c724, h_c724, hm⟩ := bndE hm
  refine do_ifR (EvW.tt (EvC.w (by skip; exact ec_orO (eb_lt (ev_len z_len (Ev.r (ev_var 0 rfl r721))) ev_int) (fun hb725 => (fun hz => (by skip; exact ec_orO (eb_gt (ev_len z_len (Ev.r (ev_var 0 rfl r721))) ev_int) (fun hb726 => (fun hz => (by obtain ⟨min723, h_min723, hz⟩ := bndE hz; obtain rfl := Option.some.inj hz; exact (ec_or1 (eb_lt (ev_min z_min (Ev.r (ev_var 0 rfl r721)) h_min723) ev_int)))) ((orE hz).1 hb726)) (orE hz).2)) ((orE h_c724).1 hb725)) (orE h_c724).2))) (fun hb728 s729 e730 => ?_) (fun hb734 s735 e736 => ?_)
  · have hm731 := iteE1 hm hb728
    have E732 := E722.trans e730
    have r733 := Enc.mono e730.f r721
    exact absurd hm731 (by intro z; cases z)
  · have hm737 := iteE2 hm hb734
    have E738 := E722.trans e736
    have r739 := Enc.mono e736.f r721
    obtain rfl := Option.some.inj hm737
    exact do_ret ev_bl fun v740 s741 e742 r743 => hQ _ _ (E738.trans e742) r743
abbrev s_asked_break : Stmt := topS 8
abbrev N_asked_break : List Str := ["bars", "place"]
theorem sc_asked_break : FnScope N_asked_break ["bars", "place"] (defScope s_asked_break) := ⟨rfl, rfl, rfl, by decide +kernel, rfl, by decide +kernel, by decide +kernel⟩
noncomputable def m_asked_break (bars744 : (List Int)) (place747 : Int) : Option Unit :=
 (if ((decide (place747 < (1 : Int))) || (decide (((bars744).length : Int) ≤ place747))) = true then
 none
 else
 (some ()))
noncomputable abbrev a_asked_break : (List Int) × Int × Unit → Option Unit := fun a => m_asked_break a.1 a.2.1
theorem ok_asked_break {P : Program} {w : World} {K : PySem.W.Frag} {mg : Str → Option Value} {base : Heap} {f : Addr} {fd : FuncData} (F : FunP K "asked_break" s_asked_break f fd) (hmg : mg "asked_break" = some (.ref f)) (z_len : mg "len" = none) : Cal P w K mg base CX0 1 "asked_break" (sp K a_asked_break) := by
  refine mk_cal (k := 0) F hmg (F.bindsN fun _ _ _ _ _ _ us hl => match us, hl with | [_, _], _ => rfl) sc_asked_break len2 ?_
  rintro cdv A' outer sh0 H0 X0 hr s0 vs ⟨bars744, place747, _⟩ r0 Q ⟨v745, _, rfl, r746, v748, _, rfl, r749, rfl⟩ hm hQ
  have E750 := Ex.refl s0
  unfold a_asked_break m_asked_break at hm
  dsimp only at hm
  refine do_ifR (EvW.tt (EvC.w (ec_or (eb_lt (ev_var 1 rfl r749) ev_int) fun _ => (ec_or1 (eb_ge (ev_var 1 rfl r749) (ev_len z_len (Ev.r (ev_var 0 rfl r746)))))))) (fun hb752 s753 e754 => ?_) (fun hb759 s760 e761 => ?_)
  · have hm755 := iteE1 hm hb752
    have E756 := E750.trans e754
    have r757 := Enc.mono e754.f r746
    have r758 := Enc.mono e754.f r749
    exact absurd hm755 (by intro z; cases z)
  · have hm762 := iteE2 hm hb759
    have E763 := E750.trans e761
    have r764 := Enc.mono e761.f r746
    have r765 := Enc.mono e761.f r749
    obtain rfl := Option.some.inj hm762
    exact do_nil (hQ _ _ E763 rfl)
abbrev s_played_in : Stmt := topS 9
abbrev N_played_in : List Str := ["bars", "first", "end"]
theorem sc_played_in : FnScope N_played_in ["bars", "first", "end"] (defScope s_played_in) := ⟨rfl, rfl, rfl, by decide +kernel, rfl, by decide +kernel, by decide +kernel⟩
noncomputable def m_played_in (bars766 : (List Int)) (first769 : Int) (end772 : Int) : Option Int :=
 (some ((cut bars766 (some (max (0 : Int) first769)) (some (max (0 : Int) end772)))).sum)
noncomputable abbrev a_played_in : (List Int) × Int × Int × Unit → Option Int := fun a => m_played_in a.1 a.2.1 a.2.2.1
theorem ok_played_in {P : Program} {w : World} {K : PySem.W.Frag} {mg : Str → Option Value} {base : Heap} {f : Addr} {fd : FuncData} (F : FunP K "played_in" s_played_in f fd) (hmg : mg "played_in" = some (.ref f)) (z_sum : mg "sum" = none) (z_max : mg "max" = none) : Cal P w K mg base CX0 1 "played_in" (sp K a_played_in) := by
  refine mk_cal (k := 0) F hmg (F.bindsN fun _ _ _ _ _ _ us hl => match us, hl with | [_, _, _], _ => rfl) sc_played_in len3 ?_
  rintro cdv A' outer sh0 H0 X0 hr s0 vs ⟨bars766, first769, end772, _⟩ r0 Q ⟨v767, _, rfl, r768, v770, _, rfl, r771, v773, _, rfl, r774, rfl⟩ hm hQ
  have E775 := Ex.refl s0
  unfold a_played_in m_played_in at hm
  dsimp only at hm
  obtain rfl := Option.some.inj hm
  exact do_ret (ev_sum z_sum (EvN.r (en_slice (Ev.r (ev_var 0 rfl r768)) (eo_some (ev_max2 z_max ev_int (ev_var 1 rfl r771))) (eo_some (ev_max2 z_max ev_int (ev_var 2 rfl r774)))))) fun v776 s777 e778 r779 => hQ _ _ (E775.trans e778) r779
abbrev s_window_at : Stmt := topS 10
abbrev N_window_at : List Str := ["bars", "need", "place", "first", "begin"]
theorem sc_window_at : FnScope N_window_at ["bars", "need", "place"] (defScope s_window_at) := ⟨rfl, rfl, rfl, by decide +kernel, rfl, by decide +kernel, by decide +kernel⟩
noncomputable def m_window_at (bars780 : (List Int)) (need783 : Int) (place786 : Int) : Option (Int × Int) :=
 (bnd (m_asked_bars bars780) fun asked_bars790 => (bnd (m_asked_break bars780 place786) fun asked_break797 => (lt ((place786 - need783) : Int) fun first804 =>
 (chk (RgB ((place786 - need783) + (1 : Int))) (chk (RgB (place786 + (1 : Int))) (bnd (foldO (fun (b818 : Int) (x820 : Int) =>
 (bnd (m_played_in bars780 x820 (x820 + need783)) fun played_in848 => (bnd (m_played_in bars780 b818 (b818 + need783)) fun played_in849 => (bnd (if (decide (played_in848 < played_in849)) = true then
 (lt (x820 : Int) fun first865 =>
 (some first865))
 else
 (some b818) : Option Int) fun b851 =>
 (some b851))))) first804 (rng ((place786 - need783) + (1 : Int)) (place786 + (1 : Int)))) fun o816 =>
 (some (o816, (o816 + need783)))))))))
noncomputable abbrev a_window_at : (List Int) × Int × Int × Unit → Option (Int × Int) := fun a => m_window_at a.1 a.2.1 a.2.2.1
theorem ok_window_at {P : Program} {w : World} {K : PySem.W.Frag} {mg : Str → Option Value} {base : Heap} {f : Addr} {fd : FuncData} (F : FunP K "window_at" s_window_at f fd) (hmg : mg "window_at" = some (.ref f)) (C_asked_bars : Cal P w K mg base CX0 1 "asked_bars" (sp K a_asked_bars)) (C_asked_break : Cal P w K mg base CX0 1 "asked_break" (sp K a_asked_break)) (C_played_in : Cal P w K mg base CX0 1 "played_in" (sp K a_played_in)) (z_range : mg "range" = none) : Cal P w K mg base CX0 2 "window_at" (sp K a_window_at) := by
  refine mk_cal (k := 1) F hmg (F.bindsN fun _ _ _ _ _ _ us hl => match us, hl with | [_, _, _], _ => rfl) sc_window_at len3 ?_
  rintro cdv A' outer sh0 H0 X0 hr s0 vs ⟨bars780, need783, place786, _⟩ r0 Q ⟨v781, _, rfl, r782, v784, _, rfl, r785, v787, _, rfl, r788, rfl⟩ hm hQ
  have E789 := Ex.refl s0
  unfold a_window_at m_window_at at hm
  dsimp only at hm
  obtain ⟨asked_bars790, h_asked_bars790, hm⟩ := bndE hm
  refine do_drop (ev_call C_asked_bars hr (by decide) (ea_cons (ev_var 0 rfl r782) ea_nil) h_asked_bars790) (fun s791 e792 => ?_)
  have E793 := E789.trans e792
  have r794 := Enc.mono e792.f r782
  have r795 := Enc.mono e792.f r785
  have r796 := Enc.mono e792.f r788
  obtain ⟨asked_break797, h_asked_break797, hm⟩ := bndE hm
  refine do_drop (ev_call C_asked_break hr (by decide) (ea_cons (ev_var 0 rfl r794) (ea_cons (ev_var 2 rfl r796) ea_nil)) h_asked_break797) (fun s798 e799 => ?_)
  have E800 := E793.trans e799
  have r801 := Enc.mono e799.f r794
  have r802 := Enc.mono e799.f r795
  have r803 := Enc.mono e799.f r796
  refine do_set 3 (ev_sub (ev_var 2 rfl r803) (ev_var 1 rfl r802)) (fun v808 s806 e807 r809 => ?_) sc_window_at.nd
  have E810 := E800.trans e807
  have r811 := Enc.mono e807.f r801
  have r812 := Enc.mono e807.f r802
  have r813 := Enc.mono e807.f r803
  obtain ⟨first804, q805, hm⟩ := ltE hm
  rw [← q805] at r809
  obtain ⟨hc814, hm⟩ := chkE hm
  obtain ⟨hc815, hm⟩ := chkE hm
  obtain ⟨o816, ho817, hm⟩ := bndE hm
  refine do_forO (υ := Int) PassesOwn.never rfl (ei_range2 z_range (ev_add (ev_sub (ev_var 2 rfl r813) (ev_var 1 rfl r812)) ev_int) (ev_add (ev_var 2 rfl r813) ev_int) hc814 hc815) (pg_name (i := 4) sc_window_at.nd rfl (by first | exact Or.inl rfl | exact Or.inr rfl)) tg_n ho817 (fun (b818 : Int) (σ' : L2.St) (t' : S) => Ex s0 t' ∧ ∃ (v_first : V) (y_begin : Option V), σ' = [some v781, some v784, some v787, some v_first, y_begin] ∧ rep K t'.F v_first (b818 : Int)) (fun s909 k910 => by have E911 := E810.trans k910; have r912 := Enc.mono k910.f r811; have r913 := Enc.mono k910.f r812; have r914 := Enc.mono k910.f r813; have r915 := Enc.mono k910.f r809; exact ⟨E911, v808, _, rfl, r915⟩) (fun s821 k822 x820 b818 b819 σ831 σ832 t829 t830 hx823 hm824 fl825 hR826 k827 hB828 => ?_) (fun s903 k904 σ905 t906 fl907 hR908 => ?_)
  · have hf833 := Fle.trans k822.f fl825
    obtain ⟨E834, v835, y836, rfl, r837⟩ := hR826
    have r838 := Enc.mono hf833 r811
    have r839 := Enc.mono hf833 r812
    have r840 := Enc.mono hf833 r813
    obtain ⟨v841, r842, rfl⟩ := hB828
    have E843 := E834.trans k827
    have r844 := Enc.mono k827.f r837
    have r845 := Enc.mono k827.f r838
    have r846 := Enc.mono k827.f r839
    have r847 := Enc.mono k827.f r840
    obtain ⟨played_in848, h_played_in848, hm824⟩ := bndE hm824
    obtain ⟨played_in849, h_played_in849, hm824⟩ := bndE hm824
    obtain ⟨b851, hj852, hm824⟩ := bndE hm824
    refine do_if (EvB.t (eb_lt (ev_call C_played_in hr (by decide) (ea_cons (ev_var 0 rfl r845) (ea_cons (ev_var 4 rfl r842) (ea_cons (ev_add (ev_var 4 rfl r842) (ev_var 1 rfl r846)) ea_nil))) h_played_in848) (ev_call C_played_in hr (by decide) (ea_cons (ev_var 0 rfl r845) (ea_cons (ev_var 3 rfl r844) (ea_cons (ev_add (ev_var 3 rfl r844) (ev_var 1 rfl r846)) ea_nil))) h_played_in849))) (fun (σ' : L2.St) (t' : S) => Fle t830.F t'.F ∧ Ex s0 t' ∧ ∃ (v_first : V), σ' = [some v781, some v784, some v787, some v_first, some v841] ∧ rep K t'.F v_first (b851 : Int)) (fun hb853 s854 e855 => ?_) (fun hb878 s879 e880 => ?_) (fun σ890 s891 hM892 => ?_)
    · have hm856 := iteE1 hj852 hb853
      have E857 := E843.trans e855
      have fl858 := Fle.trans (Fle.refl t830.F) e855.f
      have fl859 := Fle.trans (Fle.refl t830.F) e855.f
      have r860 := Enc.mono e855.f r844
      have r861 := Enc.mono e855.f r845
      have r862 := Enc.mono e855.f r846
      have r863 := Enc.mono e855.f r847
      have r864 := Enc.mono e855.f r842
      refine do_set 3 (ev_var 4 rfl r864) (fun v869 s867 e868 r870 => ?_) sc_window_at.nd
      have E871 := E857.trans e868
      have fl872 := Fle.trans fl858 e868.f
      have fl873 := Fle.trans fl859 e868.f
      have r874 := Enc.mono e868.f r861
      have r875 := Enc.mono e868.f r862
      have r876 := Enc.mono e868.f r863
      have r877 := Enc.mono e868.f r864
      obtain ⟨first865, q866, hm856⟩ := ltE hm856
      rw [← q866] at r870
      obtain rfl := Option.some.inj hm856
      exact do_nil ⟨s867, rfl, fl873, ⟨E871, v869, rfl, r870⟩⟩
    · have hm881 := iteE2 hj852 hb878
      have E882 := E843.trans e880
      have fl883 := Fle.trans (Fle.refl t830.F) e880.f
      have fl884 := Fle.trans (Fle.refl t830.F) e880.f
      have r885 := Enc.mono e880.f r844
      have r886 := Enc.mono e880.f r845
      have r887 := Enc.mono e880.f r846
      have r888 := Enc.mono e880.f r847
      have r889 := Enc.mono e880.f r842
      obtain rfl := Option.some.inj hm881
      exact do_nil ⟨s879, rfl, fl884, ⟨E882, v835, rfl, r885⟩⟩
    · obtain ⟨hf893, hR894⟩ := hM892
      obtain ⟨E895, v896, rfl, r897⟩ := hR894
      have r898 := Enc.mono hf893 r845
      have r899 := Enc.mono hf893 r846
      have r900 := Enc.mono hf893 r847
      have r901 := Enc.mono hf893 r842
      have fl902 := Fle.trans (Fle.refl t830.F) hf893
      obtain rfl := Option.some.inj hm824
      exact do_nil ⟨s891, rfl, fl902, ⟨E895, v896, _, rfl, r897⟩⟩
  · have hf916 := Fle.trans k904.f fl907
    obtain ⟨E917, v918, y919, rfl, r920⟩ := hR908
    have r921 := Enc.mono hf916 r811
    have r922 := Enc.mono hf916 r812
    have r923 := Enc.mono hf916 r813
    obtain rfl := Option.some.inj hm
    exact do_ret (ev_t2 (ea_cons (ev_var 3 rfl r920) (ea_cons (ev_add (ev_var 3 rfl r920) (ev_var 1 rfl r922)) ea_nil))) fun v924 s925 e926 r927 => hQ _ _ (E917.trans e926) r927
abbrev s_desks_of : Stmt := topS 5
abbrev N_desks_of : List Str := ["many", "found", "place"]
theorem sc_desks_of : FnScope N_desks_of ["many"] (defScope s_desks_of) := ⟨rfl, rfl, rfl, by decide +kernel, rfl, by decide +kernel, by decide +kernel⟩
noncomputable def m_desks_of (many928 : Int) : Option (List (Tu Int)) :=
 (lt (([] : List (Tu Int)) : (List (Tu Int))) fun found932 =>
 (chk (RgS (0 : Int) many928 (2 : Int)) (bnd (foldO (fun (b945 : (List (Tu Int))) (x947 : Int) =>
 (bnd (if (decide ((x947 + (1 : Int)) < many928)) = true then
 (chk ((b945).length < sizeLine) (lt ((b945 ++ [(⟨[x947, (x947 + (1 : Int))]⟩ : Tu Int)]) : (List (Tu Int))) fun found986 =>
 (some found986)))
 else
 (chk ((b945).length < sizeLine) (lt ((b945 ++ [(⟨[x947]⟩ : Tu Int)]) : (List (Tu Int))) fun found1007 =>
 (some found1007))) : Option (List (Tu Int))) fun b971 =>
 (some b971))) found932 (rngS (0 : Int) many928 (2 : Int))) fun o943 =>
 (some o943))))
noncomputable abbrev a_desks_of : Int × Unit → Option (List (Tu Int)) := fun a => m_desks_of a.1
theorem ok_desks_of {P : Program} {w : World} {K : PySem.W.Frag} {mg : Str → Option Value} {base : Heap} {f : Addr} {fd : FuncData} (F : FunP K "desks_of" s_desks_of f fd) (hmg : mg "desks_of" = some (.ref f)) (z_range : mg "range" = none) : Cal P w K mg base CX0 1 "desks_of" (spN K a_desks_of) := by
  refine mk_calN (k := 0) F hmg (F.bindsN fun _ _ _ _ _ _ us hl => match us, hl with | [_], _ => rfl) sc_desks_of len1 ?_
  rintro cdv A' outer sh0 H0 X0 hr s0 vs ⟨many928, _⟩ r0 Q ⟨v929, _, rfl, r930, rfl⟩ hm hQ
  have E931 := Ex.refl s0
  unfold a_desks_of m_desks_of at hm
  dsimp only at hm
  refine do_setN 1 (en_list (xs := ([] : List (Tu Int))) ee_nil (by simp [sizeLine])) (fun p936 s934 e935 n937 o938 => ?_) sc_desks_of.nd
  have n939 := fr_back E931 n937
  have E940 := E931.trans e935
  have r941 := Enc.mono e935.f r930
  obtain ⟨found932, q933, hm⟩ := ltE hm
  rw [← q933] at o938
  obtain ⟨hc942, hm⟩ := chkE hm
  obtain ⟨o943, ho944, hm⟩ := bndE hm
  refine do_forO (υ := (List (Tu Int))) PassesOwn.never rfl (ei_range3 z_range ev_int (ev_var 0 rfl r941) ev_int hc942) (pg_name (i := 2) sc_desks_of.nd rfl (by first | exact Or.inl rfl | exact Or.inr rfl)) tg_n ho944 (fun (b945 : (List (Tu Int))) (σ' : L2.St) (t' : S) => Ex s0 t' ∧ ∃ (y_place : Option V), σ' = [some v929, some (.ref p936), y_place] ∧ Own K t' p936 (b945 : (List (Tu Int)))) (fun s1031 k1032 => by have E1033 := E940.trans k1032; have r1034 := Enc.mono k1032.f r941; have o1035 := Own.ex o938 k1032; exact ⟨E1033, _, rfl, o1035⟩) (fun s948 k949 x947 b945 b946 σ958 σ959 t956 t957 hx950 hm951 fl952 hR953 k954 hB955 => ?_) (fun s1025 k1026 σ1027 t1028 fl1029 hR1030 => ?_)
  · have hf960 := Fle.trans k949.f fl952
    obtain ⟨E961, y962, rfl, o963⟩ := hR953
    have r964 := Enc.mono hf960 r941
    obtain ⟨v965, r966, rfl⟩ := hB955
    have E967 := E961.trans k954
    have o968 := Own.ex o963 k954
    have r969 := Enc.mono k954.f r964
    obtain ⟨b971, hj972, hm951⟩ := bndE hm951
    refine do_if (EvB.t (eb_lt (ev_add (ev_var 2 rfl r966) ev_int) (ev_var 0 rfl r969))) (fun (σ' : L2.St) (t' : S) => Fle t957.F t'.F ∧ Ex s0 t' ∧ σ' = [some v929, some (.ref p936), some v965] ∧ Own K t' p936 (b971 : (List (Tu Int)))) (fun hb973 s974 e975 => ?_) (fun hb994 s995 e996 => ?_) (fun σ1015 s1016 hM1017 => ?_)
    · have hm976 := iteE1 hj972 hb973
      have E977 := E967.trans e975
      have fl978 := Fle.trans (Fle.refl t957.F) e975.f
      have fl979 := Fle.trans (Fle.refl t957.F) e975.f
      have o980 := Own.ex o968 e975
      have r981 := Enc.mono e975.f r969
      have r982 := Enc.mono e975.f r966
      obtain ⟨hc988, hm976⟩ := chkE hm976
      refine do_append 1 rfl o980 (ev_tu (xs := ([x947, (x947 + (1 : Int))] : List Int)) (ee_cons (ev_var 2 rfl r982) (ee_cons (ev_add (ev_var 2 rfl r982) ev_int) ee_nil)) (by simp [sizeLine])) hc988 (fun s983 m984 o985 => ?_)
      have E989 := Ex.mu1 E977 m984 n939
      have fl990 := Fle.trans fl978 m984.f
      have fl991 := Fle.trans fl979 m984.f
      have r992 := Enc.mono m984.f r981
      have r993 := Enc.mono m984.f r982
      obtain ⟨found986, q987, hm976⟩ := ltE hm976
      rw [← q987] at o985
      obtain rfl := Option.some.inj hm976
      exact do_nil ⟨s983, rfl, fl991, ⟨E989, rfl, o985⟩⟩
    · have hm997 := iteE2 hj972 hb994
      have E998 := E967.trans e996
      have fl999 := Fle.trans (Fle.refl t957.F) e996.f
      have fl1000 := Fle.trans (Fle.refl t957.F) e996.f
      have o1001 := Own.ex o968 e996
      have r1002 := Enc.mono e996.f r969
      have r1003 := Enc.mono e996.f r966
      obtain ⟨hc1009, hm997⟩ := chkE hm997
      refine do_append 1 rfl o1001 (ev_tu (xs := ([x947] : List Int)) (ee_cons (ev_var 2 rfl r1003) ee_nil) (by simp [sizeLine])) hc1009 (fun s1004 m1005 o1006 => ?_)
      have E1010 := Ex.mu1 E998 m1005 n939
      have fl1011 := Fle.trans fl999 m1005.f
      have fl1012 := Fle.trans fl1000 m1005.f
      have r1013 := Enc.mono m1005.f r1002
      have r1014 := Enc.mono m1005.f r1003
      obtain ⟨found1007, q1008, hm997⟩ := ltE hm997
      rw [← q1008] at o1006
      obtain rfl := Option.some.inj hm997
      exact do_nil ⟨s1004, rfl, fl1012, ⟨E1010, rfl, o1006⟩⟩
    · obtain ⟨hf1018, hR1019⟩ := hM1017
      obtain ⟨E1020, rfl, o1021⟩ := hR1019
      have r1022 := Enc.mono hf1018 r969
      have r1023 := Enc.mono hf1018 r966
      have fl1024 := Fle.trans (Fle.refl t957.F) hf1018
      obtain rfl := Option.some.inj hm951
      exact do_nil ⟨s1016, rfl, fl1024, ⟨E1020, _, rfl, o1021⟩⟩
  · have hf1036 := Fle.trans k1026.f fl1029
    obtain ⟨E1037, y1038, rfl, o1039⟩ := hR1030
    have r1040 := Enc.mono hf1036 r941
    obtain rfl := Option.some.inj hm
    exact do_retO 1 rfl (hQ _ _ E1037 n939 o1039)
abbrev s_heard_by : Stmt := topS 12
abbrev N_heard_by : List Str := ["bars", "need", "breaks", "hands", "spots", "turning", "told", "k", "many", "place", "first", "end"]
theorem sc_heard_by : FnScope N_heard_by ["bars", "need", "breaks", "hands"] (defScope s_heard_by) := ⟨rfl, rfl, rfl, by decide +kernel, rfl, by decide +kernel, by decide +kernel⟩
noncomputable def m_heard_by (bars1041 : (List Int)) (need1044 : Int) (breaks1047 : (List Int)) (hands1050 : Int) : Option (List Int) :=
 (bnd (m_asked_bars bars1041) fun asked_bars1054 => (bnd (mapO (fun (x1062 : Int) => (bnd (m_window_at bars1041 need1044 x1062) fun window_at1074 => (some window_at1074))) breaks1047) fun ys1075 => (chk ((ys1075).length ≤ sizeLine) (lt (ys1075 : (List (Int × Int))) fun spots1077 =>
 (bnd (m_desks_of hands1050) fun desks_of1094 => (lt (((desks_of1094).length : Int) : Int) fun turning1095 =>
 (lt (([] : List Int) : (List Int)) fun told1107 =>
 (chk (RgB ((bars1041).length : Int)) (bnd (foldO (fun (b1125 : (List Int)) (x1127 : Int) =>
 (lt (hands1050 : Int) fun many1161 =>
 (bnd (atI bars1041 x1127) fun at1177 => (bnd (if (decide (at1177 = (0 : Int))) = true then
 (lt ((0 : Int) : Int) fun many1197 =>
 (some many1197))
 else
 (chk (((List.map (fun (x1230 : (Int × Int)) => (decide (x1230.1 ≤ x1127) && decide (x1127 < x1230.2))) spots1077)).length ≤ sizeLine) (bnd (if (((List.map (fun (x1230 : (Int × Int)) => (decide (x1230.1 ≤ x1127) && decide (x1127 < x1230.2))) spots1077)).any id) = true then
 (lt ((hands1050 - turning1095) : Int) fun many1270 =>
 (some many1270))
 else
 (some many1161) : Option Int) fun b1251 =>
 (some b1251))) : Option Int) fun b1179 =>
 (chk ((b1125).length < sizeLine) (lt ((b1125 ++ [b1179]) : (List Int)) fun told1343 =>
 (some told1343))))))) told1107 (rng 0 ((bars1041).length : Int))) fun o1123 =>
 (some o1123))))))))))
noncomputable abbrev a_heard_by : (List Int) × Int × (List Int) × Int × Unit → Option (List Int) := fun a => m_heard_by a.1 a.2.1 a.2.2.1 a.2.2.2.1
theorem ok_heard_by {P : Program} {w : World} {K : PySem.W.Frag} {mg : Str → Option Value} {base : Heap} {f : Addr} {fd : FuncData} (F : FunP K "heard_by" s_heard_by f fd) (hmg : mg "heard_by" = some (.ref f)) (C_asked_bars : Cal P w K mg base CX0 1 "asked_bars" (sp K a_asked_bars)) (C_window_at : Cal P w K mg base CX0 2 "window_at" (sp K a_window_at)) (C_desks_of : Cal P w K mg base CX0 1 "desks_of" (spN K a_desks_of)) (z_len : mg "len" = none) (z_range : mg "range" = none) (z_any : mg "any" = none) : Cal P w K mg base CX0 3 "heard_by" (spN K a_heard_by) := by
  refine mk_calN (k := 2) F hmg (F.bindsN fun _ _ _ _ _ _ us hl => match us, hl with | [_, _, _, _], _ => rfl) sc_heard_by len4 ?_
  rintro cdv A' outer sh0 H0 X0 hr s0 vs ⟨bars1041, need1044, breaks1047, hands1050, _⟩ r0 Q ⟨v1042, _, rfl, r1043, v1045, _, rfl, r1046, v1048, _, rfl, r1049, v1051, _, rfl, r1052, rfl⟩ hm hQ
  have E1053 := Ex.refl s0
  unfold a_heard_by m_heard_by at hm
  dsimp only at hm
  obtain ⟨asked_bars1054, h_asked_bars1054, hm⟩ := bndE hm
  refine do_drop (ev_call C_asked_bars hr (by decide) (ea_cons (ev_var 0 rfl r1043) ea_nil) h_asked_bars1054) (fun s1055 e1056 => ?_)
  have E1057 := E1053.trans e1056
  have r1058 := Enc.mono e1056.f r1043
  have r1059 := Enc.mono e1056.f r1046
  have r1060 := Enc.mono e1056.f r1049
  have r1061 := Enc.mono e1056.f r1052
  obtain ⟨ys1075, h_ys1075, hm⟩ := bndE hm
  obtain ⟨hc1076, hm⟩ := chkE hm
  refine do_setL 4 (en_comp0 (own := [("place", 9)]) (j := 9) (f := fun (x1062 : Int) => (bnd (m_window_at bars1041 need1044 x1062) fun window_at1074 => (some window_at1074))) rfl sc_heard_by.nd (ei_list (ev_var 2 rfl r1060)) (blkOk_by (own := [("place", 9)]) (N := N_heard_by) (sc := defScope s_heard_by) (by decide +kernel)) rfl (by decide) (fun _ _ _ _ _ => pg_name (i := 9) sc_heard_by.nd rfl (by first | exact Or.inl rfl | exact Or.inr rfl)) h_ys1075 hc1076 (fun x1062 y1063 v1072 s1064 hx1066 e1065 r1073 hf1067 _ _ _ _ _ => by have r1068 := Enc.mono e1065.f r1058; have r1069 := Enc.mono e1065.f r1059; obtain ⟨window_at1074, h_window_at1074, hf1067⟩ := bndE hf1067; obtain rfl := Option.some.inj hf1067; exact (ev_call C_window_at hr (by decide) (ea_cons (ev_var 0 rfl r1068) (ea_cons (ev_var 1 rfl r1069) (ea_cons (ev_var 9 rfl r1073) ea_nil))) h_window_at1074))) (fun p1083 s1079 e1080 n1084 o1085 => ?_) rfl rfl
  obtain ⟨s1086, hs1087, e1088, r1082⟩ := frz_ex e1080 n1084 o1085
  rw [← hs1087]
  have E1089 := E1057.trans e1088
  have r1090 := Enc.mono e1088.f r1058
  have r1091 := Enc.mono e1088.f r1059
  have r1092 := Enc.mono e1088.f r1060
  have r1093 := Enc.mono e1088.f r1061
  obtain ⟨spots1077, q1078, hm⟩ := ltE hm
  rw [← q1078] at r1082
  obtain ⟨desks_of1094, h_desks_of1094, hm⟩ := bndE hm
  refine do_set 5 (ev_len z_len (EvN.r (en_call C_desks_of hr (by decide) (ea_cons (ev_var 3 rfl r1093) ea_nil) h_desks_of1094))) (fun v1099 s1097 e1098 r1100 => ?_) sc_heard_by.nd
  have E1101 := E1089.trans e1098
  have r1102 := Enc.mono e1098.f r1090
  have r1103 := Enc.mono e1098.f r1091
  have r1104 := Enc.mono e1098.f r1092
  have r1105 := Enc.mono e1098.f r1093
  have r1106 := Enc.mono e1098.f r1082
  obtain ⟨turning1095, q1096, hm⟩ := ltE hm
  rw [← q1096] at r1100
  refine do_setN 6 (en_list (xs := ([] : List Int)) ee_nil (by simp [sizeLine])) (fun p1111 s1109 e1110 n1112 o1113 => ?_) sc_heard_by.nd
  have n1114 := fr_back E1101 n1112
  have E1115 := E1101.trans e1110
  have r1116 := Enc.mono e1110.f r1102
  have r1117 := Enc.mono e1110.f r1103
  have r1118 := Enc.mono e1110.f r1104
  have r1119 := Enc.mono e1110.f r1105
  have r1120 := Enc.mono e1110.f r1106
  have r1121 := Enc.mono e1110.f r1100
  obtain ⟨told1107, q1108, hm⟩ := ltE hm
  rw [← q1108] at o1113
  obtain ⟨hc1122, hm⟩ := chkE hm
  obtain ⟨o1123, ho1124, hm⟩ := bndE hm
  refine do_forO (υ := (List Int)) PassesOwn.never rfl (ei_range1 z_range (ev_len z_len (Ev.r (ev_var 0 rfl r1116))) hc1122) (pg_name (i := 7) sc_heard_by.nd rfl (by first | exact Or.inl rfl | exact Or.inr rfl)) tg_n ho1124 (fun (b1125 : (List Int)) (σ' : L2.St) (t' : S) => Ex s0 t' ∧ ∃ (y_many : Option V) (y_k : Option V), σ' = [some v1042, some v1045, some v1048, some v1051, some (V.ref p1083), some v1099, some (.ref p1111), y_k, y_many, none, none, none] ∧ Own K t' p1111 (b1125 : (List Int))) (fun s1362 k1363 => by have E1364 := E1115.trans k1363; have r1365 := Enc.mono k1363.f r1116; have r1366 := Enc.mono k1363.f r1117; have r1367 := Enc.mono k1363.f r1118; have r1368 := Enc.mono k1363.f r1119; have r1369 := Enc.mono k1363.f r1120; have r1370 := Enc.mono k1363.f r1121; have o1371 := Own.ex o1113 k1363; exact ⟨E1364, _, _, rfl, o1371⟩) (fun s1128 k1129 x1127 b1125 b1126 σ1138 σ1139 t1136 t1137 hx1130 hm1131 fl1132 hR1133 k1134 hB1135 => ?_) (fun s1356 k1357 σ1358 t1359 fl1360 hR1361 => ?_)
  · have hf1140 := Fle.trans k1129.f fl1132
    obtain ⟨E1141, y1142, y1143, rfl, o1144⟩ := hR1133
    have r1145 := Enc.mono hf1140 r1116
    have r1146 := Enc.mono hf1140 r1117
    have r1147 := Enc.mono hf1140 r1118
    have r1148 := Enc.mono hf1140 r1119
    have r1149 := Enc.mono hf1140 r1120
    have r1150 := Enc.mono hf1140 r1121
    obtain ⟨v1151, r1152, rfl⟩ := hB1135
    have E1153 := E1141.trans k1134
    have o1154 := Own.ex o1144 k1134
    have r1155 := Enc.mono k1134.f r1145
    have r1156 := Enc.mono k1134.f r1146
    have r1157 := Enc.mono k1134.f r1147
    have r1158 := Enc.mono k1134.f r1148
    have r1159 := Enc.mono k1134.f r1149
    have r1160 := Enc.mono k1134.f r1150
    refine do_set 8 (ev_var 3 rfl r1158) (fun v1165 s1163 e1164 r1166 => ?_) sc_heard_by.nd
    have E1167 := E1153.trans e1164
    have fl1168 := Fle.trans (Fle.refl t1137.F) e1164.f
    have o1169 := Own.ex o1154 e1164
    have r1170 := Enc.mono e1164.f r1155
    have r1171 := Enc.mono e1164.f r1156
    have r1172 := Enc.mono e1164.f r1157
    have r1173 := Enc.mono e1164.f r1158
    have r1174 := Enc.mono e1164.f r1159
    have r1175 := Enc.mono e1164.f r1160
    have r1176 := Enc.mono e1164.f r1152
    obtain ⟨many1161, q1162, hm1131⟩ := ltE hm1131
    rw [← q1162] at r1166
    obtain ⟨at1177, h_at1177, hm1131⟩ := bndE hm1131
    obtain ⟨b1179, hj1180, hm1131⟩ := bndE hm1131
    refine do_if (EvB.t (eb_eq (ev_ix (Ev.r (ev_var 0 rfl r1170)) (ev_var 7 rfl r1176) h_at1177) ev_int)) (fun (σ' : L2.St) (t' : S) => Fle s1163.F t'.F ∧ Ex s0 t' ∧ ∃ (v_many : V), σ' = [some v1042, some v1045, some v1048, some v1051, some (V.ref p1083), some v1099, some (.ref p1111), some v1151, some v_many, none, none, none] ∧ rep K t'.F v_many (b1179 : Int) ∧ Own K t' p1111 (b1125 : (List Int))) (fun hb1181 s1182 e1183 => ?_) (fun hb1214 s1215 e1216 => ?_) (fun σ1323 s1324 hM1325 => ?_)
    · have hm1184 := iteE1 hj1180 hb1181
      have E1185 := E1167.trans e1183
      have fl1186 := Fle.trans fl1168 e1183.f
      have fl1187 := Fle.trans (Fle.refl s1163.F) e1183.f
      have o1188 := Own.ex o1169 e1183
      have r1189 := Enc.mono e1183.f r1170
      have r1190 := Enc.mono e1183.f r1171
      have r1191 := Enc.mono e1183.f r1172
      have r1192 := Enc.mono e1183.f r1173
      have r1193 := Enc.mono e1183.f r1174
      have r1194 := Enc.mono e1183.f r1175
      have r1195 := Enc.mono e1183.f r1176
      have r1196 := Enc.mono e1183.f r1166
      refine do_set 8 ev_int (fun v1201 s1199 e1200 r1202 => ?_) sc_heard_by.nd
      have E1203 := E1185.trans e1200
      have fl1204 := Fle.trans fl1186 e1200.f
      have fl1205 := Fle.trans fl1187 e1200.f
      have o1206 := Own.ex o1188 e1200
      have r1207 := Enc.mono e1200.f r1189
      have r1208 := Enc.mono e1200.f r1190
      have r1209 := Enc.mono e1200.f r1191
      have r1210 := Enc.mono e1200.f r1192
      have r1211 := Enc.mono e1200.f r1193
      have r1212 := Enc.mono e1200.f r1194
      have r1213 := Enc.mono e1200.f r1195
      obtain ⟨many1197, q1198, hm1184⟩ := ltE hm1184
      rw [← q1198] at r1202
      obtain rfl := Option.some.inj hm1184
      exact do_nil ⟨s1199, rfl, fl1205, ⟨E1203, v1201, rfl, r1202, o1206⟩⟩
    · have hm1217 := iteE2 hj1180 hb1214
      have E1218 := E1167.trans e1216
      have fl1219 := Fle.trans fl1168 e1216.f
      have fl1220 := Fle.trans (Fle.refl s1163.F) e1216.f
      have o1221 := Own.ex o1169 e1216
      have r1222 := Enc.mono e1216.f r1170
      have r1223 := Enc.mono e1216.f r1171
      have r1224 := Enc.mono e1216.f r1172
      have r1225 := Enc.mono e1216.f r1173
      have r1226 := Enc.mono e1216.f r1174
      have r1227 := Enc.mono e1216.f r1175
      have r1228 := Enc.mono e1216.f r1176
      have r1229 := Enc.mono e1216.f r1166
      obtain ⟨hc1249, hm1217⟩ := chkE hm1217
      obtain ⟨b1251, hj1252, hm1217⟩ := bndE hm1217
      refine do_if (et_v (ev_any z_any (EvN.r (EvL.n (en_comp0P (own := [("first", 10), ("end", 11)]) (i := 10) (j := 11) (f := fun (x1230 : (Int × Int)) => some (decide (x1230.1 ≤ x1127) && decide (x1127 < x1230.2))) rfl sc_heard_by.nd (ei_list (ev_var 4 rfl r1226)) (blkOk_by (own := [("first", 10), ("end", 11)]) (N := N_heard_by) (sc := defScope s_heard_by) (by decide +kernel)) (by decide) (by decide) (fun _ _ _ _ _ => pg_tup rfl (pgs_cons (pg_name (i := 10) sc_heard_by.nd rfl (by first | exact Or.inl rfl | exact Or.inr rfl)) (pgs_cons (pg_name (i := 11) sc_heard_by.nd rfl (by first | exact Or.inl rfl | exact Or.inr rfl)) pgs_nil))) (compO_map (fun (x1230 : (Int × Int)) => (decide (x1230.1 ≤ x1127) && decide (x1127 < x1230.2))) spots1077) hc1249 (fun x1230 y1231 v1245 v1246 s1232 hx1234 e1233 r1247 r1248 hf1235 _ _ _ _ _ => by have r1243 := Enc.mono e1233.f r1228; obtain rfl := Option.some.inj hf1235; exact (EvB.v (eb_chain op_le rfl op_lt rfl (ev_var 10 rfl r1247) (ev_var 7 rfl r1243) (ev_var 11 rfl r1248))))))))) (fun (σ' : L2.St) (t' : S) => Fle s1215.F t'.F ∧ Ex s0 t' ∧ ∃ (v_many : V), σ' = [some v1042, some v1045, some v1048, some v1051, some (V.ref p1083), some v1099, some (.ref p1111), some v1151, some v_many, none, none, none] ∧ rep K t'.F v_many (b1251 : Int) ∧ Own K t' p1111 (b1125 : (List Int))) (fun hb1253 s1254 e1255 => ?_) (fun hb1288 s1289 e1290 => ?_) (fun σ1305 s1306 hM1307 => ?_)
      · have hm1256 := iteE1 hj1252 hb1253
        have E1257 := E1218.trans e1255
        have fl1258 := Fle.trans fl1219 e1255.f
        have fl1259 := Fle.trans fl1220 e1255.f
        have fl1260 := Fle.trans (Fle.refl s1215.F) e1255.f
        have o1261 := Own.ex o1221 e1255
        have r1262 := Enc.mono e1255.f r1222
        have r1263 := Enc.mono e1255.f r1223
        have r1264 := Enc.mono e1255.f r1224
        have r1265 := Enc.mono e1255.f r1225
        have r1266 := Enc.mono e1255.f r1226
        have r1267 := Enc.mono e1255.f r1227
        have r1268 := Enc.mono e1255.f r1228
        have r1269 := Enc.mono e1255.f r1229
        refine do_set 8 (ev_sub (ev_var 3 rfl r1265) (ev_var 5 rfl r1267)) (fun v1274 s1272 e1273 r1275 => ?_) sc_heard_by.nd
        have E1276 := E1257.trans e1273
        have fl1277 := Fle.trans fl1258 e1273.f
        have fl1278 := Fle.trans fl1259 e1273.f
        have fl1279 := Fle.trans fl1260 e1273.f
        have o1280 := Own.ex o1261 e1273
        have r1281 := Enc.mono e1273.f r1262
        have r1282 := Enc.mono e1273.f r1263
        have r1283 := Enc.mono e1273.f r1264
        have r1284 := Enc.mono e1273.f r1265
        have r1285 := Enc.mono e1273.f r1266
        have r1286 := Enc.mono e1273.f r1267
        have r1287 := Enc.mono e1273.f r1268
        obtain ⟨many1270, q1271, hm1256⟩ := ltE hm1256
        rw [← q1271] at r1275
        obtain rfl := Option.some.inj hm1256
        exact do_nil ⟨s1272, rfl, fl1279, ⟨E1276, v1274, rfl, r1275, o1280⟩⟩
      · have hm1291 := iteE2 hj1252 hb1288
        have E1292 := E1218.trans e1290
        have fl1293 := Fle.trans fl1219 e1290.f
        have fl1294 := Fle.trans fl1220 e1290.f
        have fl1295 := Fle.trans (Fle.refl s1215.F) e1290.f
        have o1296 := Own.ex o1221 e1290
        have r1297 := Enc.mono e1290.f r1222
        have r1298 := Enc.mono e1290.f r1223
        have r1299 := Enc.mono e1290.f r1224
        have r1300 := Enc.mono e1290.f r1225
        have r1301 := Enc.mono e1290.f r1226
        have r1302 := Enc.mono e1290.f r1227
        have r1303 := Enc.mono e1290.f r1228
        have r1304 := Enc.mono e1290.f r1229
        obtain rfl := Option.some.inj hm1291
        exact do_nil ⟨s1289, rfl, fl1295, ⟨E1292, v1165, rfl, r1304, o1296⟩⟩
      · obtain ⟨hf1308, hR1309⟩ := hM1307
        obtain ⟨E1310, v1311, rfl, r1312, o1313⟩ := hR1309
        have r1314 := Enc.mono hf1308 r1222
        have r1315 := Enc.mono hf1308 r1223
        have r1316 := Enc.mono hf1308 r1224
        have r1317 := Enc.mono hf1308 r1225
        have r1318 := Enc.mono hf1308 r1226
        have r1319 := Enc.mono hf1308 r1227
        have r1320 := Enc.mono hf1308 r1228
        have fl1321 := Fle.trans fl1219 hf1308
        have fl1322 := Fle.trans fl1220 hf1308
        obtain rfl := Option.some.inj hm1217
        exact do_nil ⟨s1306, rfl, fl1322, ⟨E1310, v1311, rfl, r1312, o1313⟩⟩
    · obtain ⟨hf1326, hR1327⟩ := hM1325
      obtain ⟨E1328, v1329, rfl, r1330, o1331⟩ := hR1327
      have r1332 := Enc.mono hf1326 r1170
      have r1333 := Enc.mono hf1326 r1171
      have r1334 := Enc.mono hf1326 r1172
      have r1335 := Enc.mono hf1326 r1173
      have r1336 := Enc.mono hf1326 r1174
      have r1337 := Enc.mono hf1326 r1175
      have r1338 := Enc.mono hf1326 r1176
      have fl1339 := Fle.trans fl1168 hf1326
      obtain ⟨hc1345, hm1131⟩ := chkE hm1131
      refine do_append 6 rfl o1331 (ev_var 8 rfl r1330) hc1345 (fun s1340 m1341 o1342 => ?_)
      have E1346 := Ex.mu1 E1328 m1341 n1114
      have fl1347 := Fle.trans fl1339 m1341.f
      have r1348 := Enc.mono m1341.f r1330
      have r1349 := Enc.mono m1341.f r1332
      have r1350 := Enc.mono m1341.f r1333
      have r1351 := Enc.mono m1341.f r1334
      have r1352 := Enc.mono m1341.f r1335
      have r1353 := Enc.mono m1341.f r1336
      have r1354 := Enc.mono m1341.f r1337
      have r1355 := Enc.mono m1341.f r1338
      obtain ⟨told1343, q1344, hm1131⟩ := ltE hm1131
      rw [← q1344] at o1342
      obtain rfl := Option.some.inj hm1131
      exact do_nil ⟨s1340, rfl, fl1347, ⟨E1346, _, _, rfl, o1342⟩⟩
  · have hf1372 := Fle.trans k1357.f fl1360
    obtain ⟨E1373, y1374, y1375, rfl, o1376⟩ := hR1361
    have r1377 := Enc.mono hf1372 r1116
    have r1378 := Enc.mono hf1372 r1117
    have r1379 := Enc.mono hf1372 r1118
    have r1380 := Enc.mono hf1372 r1119
    have r1381 := Enc.mono hf1372 r1120
    have r1382 := Enc.mono hf1372 r1121
    obtain rfl := Option.some.inj hm
    exact do_retO 6 rfl (hQ _ _ E1373 n1114 o1376)
abbrev s_l_same : Stmt := topS 19
abbrev N_l_same : List Str := ["_law_found", "_law_due_here", "_law_one"]
theorem sc_l_same : FnScope N_l_same ["_law_found", "_law_due_here"] (defScope s_l_same) := ⟨rfl, rfl, rfl, by decide +kernel, rfl, by decide +kernel, by decide +kernel⟩
noncomputable def m_l_same (found1383 : (List Int)) (due_here1386 : (List Int)) : Option Bool :=
 (if ((!true) || (!decide (found1383 = due_here1386))) = true then
 (some false)
 else
 (chk (((List.map (fun (x1409 : Int) => x1409) (List.filter (fun (x1409 : Int) => (false || (!true))) found1383))).length ≤ sizeLine) (some (decide ((List.map (fun (x1409 : Int) => x1409) (List.filter (fun (x1409 : Int) => (false || (!true))) found1383)) = ([] : List Int))))))
noncomputable abbrev a_l_same : (List Int) × (List Int) × Unit → Option Bool := fun a => m_l_same a.1 a.2.1
theorem ok_l_same {P : Program} {w : World} {K : PySem.W.Frag} {mg : Str → Option Value} {base : Heap} {f : Addr} {fd : FuncData} (F : FunP K "_law_same" s_l_same f fd) (hmg : mg "_law_same" = some (.ref f)) (z_isinstance : mg "isinstance" = none) (z_list : mg "list" = none) (z_bool : mg "bool" = none) (z_int : mg "int" = none) : Cal P w K mg base CX0 1 "_law_same" (sp K a_l_same) := by
  refine mk_cal (k := 0) F hmg (F.bindsN fun _ _ _ _ _ _ us hl => match us, hl with | [_, _], _ => rfl) sc_l_same len2 ?_
  rintro cdv A' outer sh0 H0 X0 hr s0 vs ⟨found1383, due_here1386, _⟩ r0 Q ⟨v1384, _, rfl, r1385, v1387, _, rfl, r1388, rfl⟩ hm hQ
  have E1389 := Ex.refl s0
  unfold a_l_same m_l_same at hm
  dsimp only at hm
  refine do_ifR (EvW.tt (EvC.w (ec_or (eb_not (eb_v (ev_isi (T := "list") (r := true) z_isinstance z_list (by decide +kernel) (ev_var 0 rfl r1385) (by show kitB "list" "list" = _; decide +kernel)))) fun _ => (ec_or1 (eb_neL hr (Ev.r (ev_var 0 rfl r1385)) (Ev.r (ev_var 1 rfl r1388)) (shp_of _) (shp_of _)))))) (fun hb1391 s1392 e1393 => ?_) (fun hb1402 s1403 e1404 => ?_)
  · have hm1394 := iteE1 hm hb1391
    have E1395 := E1389.trans e1393
    have r1396 := Enc.mono e1393.f r1385
    have r1397 := Enc.mono e1393.f r1388
    obtain rfl := Option.some.inj hm1394
    exact do_ret ev_bl fun v1398 s1399 e1400 r1401 => hQ _ _ (E1395.trans e1400) r1401
  · have hm1405 := iteE2 hm hb1402
    have E1406 := E1389.trans e1404
    have r1407 := Enc.mono e1404.f r1385
    have r1408 := Enc.mono e1404.f r1388
    obtain ⟨hc1419, hm1405⟩ := chkE hm1405
    obtain rfl := Option.some.inj hm1405
    exact do_ret (EvB.v (eb_eqL hr (EvN.r (EvL.n (en_comp1 (own := [("_law_one", 2)]) (j := 2) (t := fun (x1409 : Int) => some (false || (!true))) (f := fun (x1409 : Int) => some x1409) rfl sc_l_same.nd (ei_list (ev_var 0 rfl r1407)) (blkOk_by (own := [("_law_one", 2)]) (N := N_l_same) (sc := defScope s_l_same) (by decide +kernel)) rfl (by decide) (fun _ _ _ _ _ => pg_name (i := 2) sc_l_same.nd rfl (by first | exact Or.inl rfl | exact Or.inr rfl)) (compO_pure (fun (x1409 : Int) => (false || (!true))) (fun (x1409 : Int) => x1409) found1383) hc1419 (fun x1409 y1410 v1417 s1411 hx1413 e1412 r1418 hf1414 _ _ _ _ _ => by obtain rfl := Option.some.inj hf1414; exact (EvW.tt (EvC.w (ec_or (eb_v (ev_isi (T := "bool") (r := false) z_isinstance z_bool (by decide +kernel) (ev_var 2 rfl r1418) (by show kitB "int" "bool" = _; decide +kernel))) fun _ => (ec_or1 (eb_not (eb_v (ev_isi (T := "int") (r := true) z_isinstance z_int (by decide +kernel) (ev_var 2 rfl r1418) (by show kitB "int" "int" = _; decide +kernel))))))))) (fun x1409 y1410 v1417 s1411 hx1413 e1412 r1418 ht1420 hf1414 _ _ _ _ _ => by obtain rfl := Option.some.inj hf1414; exact (ev_var 2 rfl r1418))))) (EvN.r (en_list (xs := ([] : List Int)) ee_nil (by simp [sizeLine]))) (shp_of _) (shp_of _))) fun v1421 s1422 e1423 r1424 => hQ _ _ (E1406.trans e1423) r1424
abbrev s_l_cell_at : Stmt := topS 14
abbrev N_l_cell_at : List Str := ["_law_script", "_law_k"]
theorem sc_l_cell_at : FnScope N_l_cell_at ["_law_script", "_law_k"] (defScope s_l_cell_at) := ⟨rfl, rfl, rfl, by decide +kernel, rfl, by decide +kernel, by decide +kernel⟩
noncomputable def m_l_cell_at (script1425 : (List Int)) (k1428 : Int) : Option Int :=
 (if (decide (k1428 < ((script1425).length : Int))) = true then
 (bnd (atI script1425 k1428) fun at1440 => (some at1440))
 else
 (some (0 : Int)))
noncomputable abbrev a_l_cell_at : (List Int) × Int × Unit → Option Int := fun a => m_l_cell_at a.1 a.2.1
theorem ok_l_cell_at {P : Program} {w : World} {K : PySem.W.Frag} {mg : Str → Option Value} {base : Heap} {f : Addr} {fd : FuncData} (F : FunP K "_law_cell_at" s_l_cell_at f fd) (hmg : mg "_law_cell_at" = some (.ref f)) (z_len : mg "len" = none) : Cal P w K mg base CX0 1 "_law_cell_at" (sp K a_l_cell_at) := by
  refine mk_cal (k := 0) F hmg (F.bindsN fun _ _ _ _ _ _ us hl => match us, hl with | [_, _], _ => rfl) sc_l_cell_at len2 ?_
  rintro cdv A' outer sh0 H0 X0 hr s0 vs ⟨script1425, k1428, _⟩ r0 Q ⟨v1426, _, rfl, r1427, v1429, _, rfl, r1430, rfl⟩ hm hQ
  have E1431 := Ex.refl s0
  unfold a_l_cell_at m_l_cell_at at hm
  dsimp only at hm
  refine do_ifR (EvB.t (eb_lt (ev_var 1 rfl r1430) (ev_len z_len (Ev.r (ev_var 0 rfl r1427))))) (fun hb1433 s1434 e1435 => ?_) (fun hb1445 s1446 e1447 => ?_)
  · have hm1436 := iteE1 hm hb1433
    have E1437 := E1431.trans e1435
    have r1438 := Enc.mono e1435.f r1427
    have r1439 := Enc.mono e1435.f r1430
    obtain ⟨at1440, h_at1440, hm1436⟩ := bndE hm1436
    obtain rfl := Option.some.inj hm1436
    exact do_ret (ev_ix (Ev.r (ev_var 0 rfl r1438)) (ev_var 1 rfl r1439) h_at1440) fun v1441 s1442 e1443 r1444 => hQ _ _ (E1437.trans e1443) r1444
  · have hm1448 := iteE2 hm hb1445
    have E1449 := E1431.trans e1447
    have r1450 := Enc.mono e1447.f r1427
    have r1451 := Enc.mono e1447.f r1430
    obtain rfl := Option.some.inj hm1448
    exact do_ret ev_int fun v1452 s1453 e1454 r1455 => hQ _ _ (E1449.trans e1454) r1455
abbrev s_l_number : Stmt := topS 15
abbrev N_l_number : List Str := ["_law_script", "_law_k", "_law_cell", "_law_one", "_law_two", "_law_three"]
theorem sc_l_number : FnScope N_l_number ["_law_script", "_law_k"] (defScope s_l_number) := ⟨rfl, rfl, rfl, by decide +kernel, rfl, by decide +kernel, by decide +kernel⟩
noncomputable def m_l_number (script1456 : (List Int)) (k1459 : Int) : Option Int :=
 (bnd (m_l_cell_at script1456 k1459) fun cell_at1463 => (lt (cell_at1463 : Int) fun cell1464 =>
 (bnd (m_l_cell_at script1456 (0 : Int)) fun cell_at1473 => (if (decide ((cell_at1473 % (2 : Int)) = (1 : Int))) = true then
 (some cell1464)
 else
 (chk (MulOk k1459 k1459) (lt (((((cell1464 % (1000003 : Int)) + (1 : Int)) * ((k1459 * k1459) + (48271 : Int))) % (65537 : Int)) : Int) fun one1496 =>
 (lt (((((one1496 * one1496) + k1459) * (30269 : Int)) % (65521 : Int)) : Int) fun two1506 =>
 (lt (((((two1506 * two1506) + one1496) * (40503 : Int)) % (65519 : Int)) : Int) fun three1517 =>
 (some ((((three1517 * (65521 : Int)) + two1506) * (65537 : Int)) + one1496))))))))))
noncomputable abbrev a_l_number : (List Int) × Int × Unit → Option Int := fun a => m_l_number a.1 a.2.1
theorem ok_l_number {P : Program} {w : World} {K : PySem.W.Frag} {mg : Str → Option Value} {base : Heap} {f : Addr} {fd : FuncData} (F : FunP K "_law_number" s_l_number f fd) (hmg : mg "_law_number" = some (.ref f)) (C_l_cell_at : Cal P w K mg base CX0 1 "_law_cell_at" (sp K a_l_cell_at)) : Cal P w K mg base CX0 2 "_law_number" (sp K a_l_number) := by
  refine mk_cal (k := 1) F hmg (F.bindsN fun _ _ _ _ _ _ us hl => match us, hl with | [_, _], _ => rfl) sc_l_number len2 ?_
  rintro cdv A' outer sh0 H0 X0 hr s0 vs ⟨script1456, k1459, _⟩ r0 Q ⟨v1457, _, rfl, r1458, v1460, _, rfl, r1461, rfl⟩ hm hQ
  have E1462 := Ex.refl s0
  unfold a_l_number m_l_number at hm
  dsimp only at hm
  obtain ⟨cell_at1463, h_cell_at1463, hm⟩ := bndE hm
  refine do_set 2 (ev_call C_l_cell_at hr (by decide) (ea_cons (ev_var 0 rfl r1458) (ea_cons (ev_var 1 rfl r1461) ea_nil)) h_cell_at1463) (fun v1468 s1466 e1467 r1469 => ?_) sc_l_number.nd
  have E1470 := E1462.trans e1467
  have r1471 := Enc.mono e1467.f r1458
  have r1472 := Enc.mono e1467.f r1461
  obtain ⟨cell1464, q1465, hm⟩ := ltE hm
  rw [← q1465] at r1469
  obtain ⟨cell_at1473, h_cell_at1473, hm⟩ := bndE hm
  refine do_ifR (EvB.t (eb_eq (ev_mod (ev_call C_l_cell_at hr (by decide) (ea_cons (ev_var 0 rfl r1471) (ea_cons ev_int ea_nil)) h_cell_at1473) ev_int (by decide)) ev_int)) (fun hb1475 s1476 e1477 => ?_) (fun hb1487 s1488 e1489 => ?_)
  · have hm1478 := iteE1 hm hb1475
    have E1479 := E1470.trans e1477
    have r1480 := Enc.mono e1477.f r1471
    have r1481 := Enc.mono e1477.f r1472
    have r1482 := Enc.mono e1477.f r1469
    obtain rfl := Option.some.inj hm1478
    exact do_ret (ev_var 2 rfl r1482) fun v1483 s1484 e1485 r1486 => hQ _ _ (E1479.trans e1485) r1486
  · have hm1490 := iteE2 hm hb1487
    have E1491 := E1470.trans e1489
    have r1492 := Enc.mono e1489.f r1471
    have r1493 := Enc.mono e1489.f r1472
    have r1494 := Enc.mono e1489.f r1469
    obtain ⟨hc1495, hm1490⟩ := chkE hm1490
    refine do_set 3 (ev_mod (ev_mul (ev_add (ev_mod (ev_var 2 rfl r1494) ev_int (by decide)) ev_int) (ev_add (ev_mul (ev_var 1 rfl r1493) (ev_var 1 rfl r1493) hc1495) ev_int) (Or.inl (Or.inl ⟨by omega, by omega⟩))) ev_int (by decide)) (fun v1500 s1498 e1499 r1501 => ?_) sc_l_number.nd
    have E1502 := E1491.trans e1499
    have r1503 := Enc.mono e1499.f r1492
    have r1504 := Enc.mono e1499.f r1493
    have r1505 := Enc.mono e1499.f r1494
    obtain ⟨one1496, q1497, hm1490⟩ := ltE hm1490
    rw [← q1497] at r1501
    refine do_set 4 (ev_mod (ev_mul (ev_add (ev_mul (ev_var 3 rfl r1501) (ev_var 3 rfl r1501) (Or.inl (Or.inl ⟨by omega, by omega⟩))) (ev_var 1 rfl r1504)) ev_int (Or.inl (Or.inr ⟨by decide, by decide⟩))) ev_int (by decide)) (fun v1510 s1508 e1509 r1511 => ?_) sc_l_number.nd
    have E1512 := E1502.trans e1509
    have r1513 := Enc.mono e1509.f r1503
    have r1514 := Enc.mono e1509.f r1504
    have r1515 := Enc.mono e1509.f r1505
    have r1516 := Enc.mono e1509.f r1501
    obtain ⟨two1506, q1507, hm1490⟩ := ltE hm1490
    rw [← q1507] at r1511
    refine do_set 5 (ev_mod (ev_mul (ev_add (ev_mul (ev_var 4 rfl r1511) (ev_var 4 rfl r1511) (Or.inl (Or.inl ⟨by omega, by omega⟩))) (ev_var 3 rfl r1516)) ev_int (Or.inl (Or.inr ⟨by decide, by decide⟩))) ev_int (by decide)) (fun v1521 s1519 e1520 r1522 => ?_) sc_l_number.nd
    have E1523 := E1512.trans e1520
    have r1524 := Enc.mono e1520.f r1513
    have r1525 := Enc.mono e1520.f r1514
    have r1526 := Enc.mono e1520.f r1515
    have r1527 := Enc.mono e1520.f r1516
    have r1528 := Enc.mono e1520.f r1511
    obtain ⟨three1517, q1518, hm1490⟩ := ltE hm1490
    rw [← q1518] at r1522
    obtain rfl := Option.some.inj hm1490
    exact do_ret (ev_add (ev_mul (ev_add (ev_mul (ev_var 5 rfl r1522) ev_int (Or.inl (Or.inr ⟨by decide, by decide⟩))) (ev_var 4 rfl r1528)) ev_int (Or.inl (Or.inr ⟨by decide, by decide⟩))) (ev_var 3 rfl r1527)) fun v1529 s1530 e1531 r1532 => hQ _ _ (E1523.trans e1531) r1532
abbrev s_law : Stmt := topS 20
abbrev N_law : List Str := ["_law_script", "_law_sizes", "_law_many", "_law_factor", "_law_bars", "_law_k", "_law_need", "_law_hands", "_law_breaks", "_law_handed", "_law_due_here", "_law_found", "_law_turned", "_law_one"]
theorem sc_law : FnScope N_law ["_law_script"] (defScope s_law) := ⟨rfl, rfl, rfl, by decide +kernel, rfl, by decide +kernel, by decide +kernel⟩
noncomputable def m_law (script1533 : (List Int)) : Option Bool :=
 (bnd (m_l_number script1533 (1 : Int)) fun number1537 => (bnd (m_l_digits number1537 (4 : Int) (10007 : Int)) fun digits1538 => (lt (digits1538 : (List Int)) fun sizes1539 =>
 (bnd (atI sizes1539 (0 : Int)) fun at1547 => (lt (((1 : Int) + (at1547 % (30 : Int))) : Int) fun many1548 =>
 (bnd (atI sizes1539 (1 : Int)) fun at1557 => (bnd (if (decide ((at1557 % (16 : Int)) = (3 : Int))) = true then
 (lt ((200 : Int) : Int) fun many1570 =>
 (some many1570))
 else
 (some many1548) : Option Int) fun b1559 =>
 (lt ((1 : Int) : Int) fun factor1599 =>
 (bnd (atI sizes1539 (1 : Int)) fun at1609 => (bnd (if (decide (((at1609 / (16 : Int)) % (2 : Int)) = (1 : Int))) = true then
 (bnd (m_l_cell_at script1533 (2 : Int)) fun cell_at1623 => (lt (((1 : Int) + (cell_at1623 % ((10 : Int) ^ ((59 : Int)).toNat))) : Int) fun factor1624 =>
 (some factor1624)))
 else
 (some factor1599) : Option Int) fun b1611 =>
 (bnd (m_l_number script1533 (3 : Int)) fun number1656 => (bnd (m_l_digits number1656 (min b1559 (60 : Int)) (4 : Int)) fun digits1657 => (bnd (mapO (fun (x1658 : Int) => (chk (MulOk x1658 b1611) (some (x1658 * b1611)))) digits1657) fun ys1671 => (chk ((ys1671).length ≤ sizeLine) (lt (ys1671 : (List Int)) fun bars1673 =>
 (chk (RgB b1559) (bnd (foldO (fun (b1689 : (List Int)) (x1691 : Int) =>
 (bnd (atI sizes1539 (0 : Int)) fun at1725 => (chk ((b1689).length < sizeLine) (lt ((b1689 ++ [(b1611 * (((x1691 * ((1 : Int) + (at1725 % (7 : Int)))) % (5 : Int)) / (2 : Int)))]) : (List Int)) fun bars1723 =>
 (some bars1723))))) bars1673 (rng (60 : Int) b1559)) fun o1687 =>
 (bnd (atI sizes1539 (2 : Int)) fun at1756 => (lt ((at1756 % (13 : Int)) : Int) fun need1757 =>
 (bnd (atI sizes1539 (2 : Int)) fun at1769 => (lt (((1 : Int) + ((at1769 / (13 : Int)) % (40 : Int))) : Int) fun hands1770 =>
 (lt (([] : List Int) : (List Int)) fun breaks1783 =>
 (bnd (if (decide ((1 : Int) < b1559)) = true then
 (bnd (m_l_number script1533 (4 : Int)) fun number1814 => (bnd (atI sizes1539 (3 : Int)) fun at1815 => (bnd (m_l_digits number1814 (at1815 % (13 : Int)) (b1559 - (1 : Int))) fun digits1816 => (chk (((List.map (fun (x1817 : Int) => ((1 : Int) + x1817)) digits1816)).length ≤ sizeLine) (lt ((List.map (fun (x1817 : Int) => ((1 : Int) + x1817)) digits1816) : (List Int)) fun breaks1834 =>
 (some breaks1834))))))
 else
 (some breaks1783) : Option (List Int)) fun b1798 =>
 (lt (([o1687, b1798] : List (List Int)) : (List (List Int))) fun handed1884 =>
 (bnd (m_l_due o1687 need1757 b1798 hands1770) fun due1914 => (lt (due1914 : (List Int)) fun due_here1915 =>
 (bnd (atI handed1884 (0 : Int)) fun at1933 => (bnd (atI handed1884 (1 : Int)) fun at1934 => (bnd (m_heard_by at1933 need1757 at1934 hands1770) fun heard_by1935 => (lt (heard_by1935 : (List Int)) fun found1936 =>
 (bnd (m_l_same found1936 due_here1915) fun same1976 => (if ((!same1976) || (!decide (handed1884 = ([o1687, b1798] : List (List Int))))) = true then
 (some false)
 else
 (chk ((found1936).length < sizeLine) (lt ((found1936 ++ [(7 : Int)]) : (List Int)) fun found2037 =>
 (bnd (ixN (found2037).length (0 : Int)) fun j2053 => (lt ((found2037).set j2053 (-(1 : Int))) fun found2057 =>
 (chk (((b1798).reverse).length + ((cut b1798 none (some (1 : Int)))).length ≤ sizeLine) (lt (((b1798).reverse ++ (cut b1798 none (some (1 : Int)))) : (List Int)) fun turned2073 =>
 (bnd (m_heard_by o1687 need1757 turned2073 hands1770) fun heard_by2093 => (bnd (m_l_same heard_by2093 due_here1915) fun same2094 => (if (!same2094) = true then
 (some false)
 else
 (bnd (atI handed1884 (0 : Int)) fun at2138 => (bnd (m_heard_by at2138 need1757 ([] : List Int) hands1770) fun heard_by2139 => (bnd (m_l_due o1687 need1757 ([] : List Int) hands1770) fun due2140 => (bnd (m_l_same heard_by2139 due2140) fun same2141 => (some same2141))))))))))))))))))))))))))))))))))))))))))))))
noncomputable abbrev a_law : (List Int) × Unit → Option Bool := fun a => m_law a.1
theorem ok_law_fn {P : Program} {w : World} {K : PySem.W.Frag} {mg : Str → Option Value} {base : Heap} {f : Addr} {fd : FuncData} (F : FunP K "law" s_law f fd) (hmg : mg "law" = some (.ref f)) (C_l_digits : Cal P w K mg base CX0 1 "_law_digits" (spN K a_l_digits)) (C_l_number : Cal P w K mg base CX0 2 "_law_number" (sp K a_l_number)) (C_l_cell_at : Cal P w K mg base CX0 1 "_law_cell_at" (sp K a_l_cell_at)) (C_l_due : Cal P w K mg base CX0 2 "_law_due" (spN K a_l_due)) (C_heard_by : Cal P w K mg base CX0 3 "heard_by" (spN K a_heard_by)) (C_l_same : Cal P w K mg base CX0 1 "_law_same" (sp K a_l_same)) (z_min : mg "min" = none) (z_range : mg "range" = none) (z_list : mg "list" = none) : FnOk P w K mg base CX0 4 f fd ["_law_script"] (sp K a_law) := by
  refine mk_fn (k := 3) F sc_law len1 ?_
  rintro cdv A' outer sh0 H0 X0 hr s0 vs ⟨script1533, _⟩ r0 Q ⟨v1534, _, rfl, r1535, rfl⟩ hm hQ
  have E1536 := Ex.refl s0
  unfold a_law m_law at hm
  dsimp only at hm
  obtain ⟨number1537, h_number1537, hm⟩ := bndE hm
  obtain ⟨digits1538, h_digits1538, hm⟩ := bndE hm
  refine do_set 1 (EvN.ev (en_call C_l_digits hr (by decide) (ea_cons (ev_call C_l_number hr (by decide) (ea_cons (ev_var 0 rfl r1535) (ea_cons ev_int ea_nil)) h_number1537) (ea_cons ev_int (ea_cons ev_int ea_nil))) h_digits1538)) (fun v1543 s1541 e1542 r1544 => ?_) sc_law.nd
  have E1545 := E1536.trans e1542
  have r1546 := Enc.mono e1542.f r1535
  obtain ⟨sizes1539, q1540, hm⟩ := ltE hm
  rw [← q1540] at r1544
  obtain ⟨at1547, h_at1547, hm⟩ := bndE hm
  refine do_set 2 (ev_add ev_int (ev_mod (ev_ix (Ev.r (ev_var 1 rfl r1544)) ev_int h_at1547) ev_int (by decide))) (fun v1552 s1550 e1551 r1553 => ?_) sc_law.nd
  have E1554 := E1545.trans e1551
  have r1555 := Enc.mono e1551.f r1546
  have r1556 := Enc.mono e1551.f r1544
  obtain ⟨many1548, q1549, hm⟩ := ltE hm
  rw [← q1549] at r1553
  obtain ⟨at1557, h_at1557, hm⟩ := bndE hm
  obtain ⟨b1559, hj1560, hm⟩ := bndE hm
  refine do_if (EvB.t (eb_eq (ev_mod (ev_ix (Ev.r (ev_var 1 rfl r1556)) ev_int h_at1557) ev_int (by decide)) ev_int)) (fun (σ' : L2.St) (t' : S) => Fle s1550.F t'.F ∧ Ex s0 t' ∧ ∃ (v_many : V), σ' = [some v1534, some v1543, some v_many, none, none, none, none, none, none, none, none, none, none, none] ∧ rep K t'.F v_many (b1559 : Int)) (fun hb1561 s1562 e1563 => ?_) (fun hb1580 s1581 e1582 => ?_) (fun σ1589 s1590 hM1591 => ?_)
  · have hm1564 := iteE1 hj1560 hb1561
    have E1565 := E1554.trans e1563
    have fl1566 := Fle.trans (Fle.refl s1550.F) e1563.f
    have r1567 := Enc.mono e1563.f r1555
    have r1568 := Enc.mono e1563.f r1556
    have r1569 := Enc.mono e1563.f r1553
    refine do_set 2 ev_int (fun v1574 s1572 e1573 r1575 => ?_) sc_law.nd
    have E1576 := E1565.trans e1573
    have fl1577 := Fle.trans fl1566 e1573.f
    have r1578 := Enc.mono e1573.f r1567
    have r1579 := Enc.mono e1573.f r1568
    obtain ⟨many1570, q1571, hm1564⟩ := ltE hm1564
    rw [← q1571] at r1575
    obtain rfl := Option.some.inj hm1564
    exact do_nil ⟨s1572, rfl, fl1577, ⟨E1576, v1574, rfl, r1575⟩⟩
  · have hm1583 := iteE2 hj1560 hb1580
    have E1584 := E1554.trans e1582
    have fl1585 := Fle.trans (Fle.refl s1550.F) e1582.f
    have r1586 := Enc.mono e1582.f r1555
    have r1587 := Enc.mono e1582.f r1556
    have r1588 := Enc.mono e1582.f r1553
    obtain rfl := Option.some.inj hm1583
    exact do_nil ⟨s1581, rfl, fl1585, ⟨E1584, v1552, rfl, r1588⟩⟩
  · obtain ⟨hf1592, hR1593⟩ := hM1591
    obtain ⟨E1594, v1595, rfl, r1596⟩ := hR1593
    have r1597 := Enc.mono hf1592 r1555
    have r1598 := Enc.mono hf1592 r1556
    refine do_set 3 ev_int (fun v1603 s1601 e1602 r1604 => ?_) sc_law.nd
    have E1605 := E1594.trans e1602
    have r1606 := Enc.mono e1602.f r1596
    have r1607 := Enc.mono e1602.f r1597
    have r1608 := Enc.mono e1602.f r1598
    obtain ⟨factor1599, q1600, hm⟩ := ltE hm
    rw [← q1600] at r1604
    obtain ⟨at1609, h_at1609, hm⟩ := bndE hm
    obtain ⟨b1611, hj1612, hm⟩ := bndE hm
    refine do_if (EvB.t (eb_eq (ev_mod (ev_div (ev_ix (Ev.r (ev_var 1 rfl r1608)) ev_int h_at1609) ev_int ⟨by decide, by decide +kernel⟩) ev_int (by decide)) ev_int)) (fun (σ' : L2.St) (t' : S) => Fle s1601.F t'.F ∧ Ex s0 t' ∧ ∃ (v_factor : V), σ' = [some v1534, some v1543, some v1595, some v_factor, none, none, none, none, none, none, none, none, none, none] ∧ rep K t'.F v_factor (b1611 : Int)) (fun hb1613 s1614 e1615 => ?_) (fun hb1635 s1636 e1637 => ?_) (fun σ1645 s1646 hM1647 => ?_)
    · have hm1616 := iteE1 hj1612 hb1613
      have E1617 := E1605.trans e1615
      have fl1618 := Fle.trans (Fle.refl s1601.F) e1615.f
      have r1619 := Enc.mono e1615.f r1606
      have r1620 := Enc.mono e1615.f r1607
      have r1621 := Enc.mono e1615.f r1608
      have r1622 := Enc.mono e1615.f r1604
      obtain ⟨cell_at1623, h_cell_at1623, hm1616⟩ := bndE hm1616
      refine do_set 3 (ev_add ev_int (ev_mod (ev_call C_l_cell_at hr (by decide) (ea_cons (ev_var 0 rfl r1620) (ea_cons ev_int ea_nil)) h_cell_at1623) (ev_pow ev_int ev_int ⟨by decide, by decide, by decide⟩) (by decide))) (fun v1628 s1626 e1627 r1629 => ?_) sc_law.nd
      have E1630 := E1617.trans e1627
      have fl1631 := Fle.trans fl1618 e1627.f
      have r1632 := Enc.mono e1627.f r1619
      have r1633 := Enc.mono e1627.f r1620
      have r1634 := Enc.mono e1627.f r1621
      obtain ⟨factor1624, q1625, hm1616⟩ := ltE hm1616
      rw [← q1625] at r1629
      obtain rfl := Option.some.inj hm1616
      exact do_nil ⟨s1626, rfl, fl1631, ⟨E1630, v1628, rfl, r1629⟩⟩
    · have hm1638 := iteE2 hj1612 hb1635
      have E1639 := E1605.trans e1637
      have fl1640 := Fle.trans (Fle.refl s1601.F) e1637.f
      have r1641 := Enc.mono e1637.f r1606
      have r1642 := Enc.mono e1637.f r1607
      have r1643 := Enc.mono e1637.f r1608
      have r1644 := Enc.mono e1637.f r1604
      obtain rfl := Option.some.inj hm1638
      exact do_nil ⟨s1636, rfl, fl1640, ⟨E1639, v1603, rfl, r1644⟩⟩
    · obtain ⟨hf1648, hR1649⟩ := hM1647
      obtain ⟨E1650, v1651, rfl, r1652⟩ := hR1649
      have r1653 := Enc.mono hf1648 r1606
      have r1654 := Enc.mono hf1648 r1607
      have r1655 := Enc.mono hf1648 r1608
      obtain ⟨number1656, h_number1656, hm⟩ := bndE hm
      obtain ⟨digits1657, h_digits1657, hm⟩ := bndE hm
      obtain ⟨ys1671, h_ys1671, hm⟩ := bndE hm
      obtain ⟨hc1672, hm⟩ := chkE hm
      refine do_setL 4 (en_comp0 (own := [("_law_one", 13)]) (j := 13) (f := fun (x1658 : Int) => (chk (MulOk x1658 b1611) (some (x1658 * b1611)))) rfl sc_law.nd (ei_list (EvN.ev (en_call C_l_digits hr (by decide) (ea_cons (ev_call C_l_number hr (by decide) (ea_cons (ev_var 0 rfl r1654) (ea_cons ev_int ea_nil)) h_number1656) (ea_cons (ev_min2 z_min (ev_var 2 rfl r1653) ev_int) (ea_cons ev_int ea_nil))) h_digits1657))) (blkOk_by (own := [("_law_one", 13)]) (N := N_law) (sc := defScope s_law) (by decide +kernel)) rfl (by decide) (fun _ _ _ _ _ => pg_name (i := 13) sc_law.nd rfl (by first | exact Or.inl rfl | exact Or.inr rfl)) h_ys1671 hc1672 (fun x1658 y1659 v1668 s1660 hx1662 e1661 r1669 hf1663 _ _ _ _ _ => by have r1664 := Enc.mono e1661.f r1652; obtain ⟨hc1670, hf1663⟩ := chkE hf1663; obtain rfl := Option.some.inj hf1663; exact (ev_mul (ev_var 13 rfl r1669) (ev_var 3 rfl r1664) hc1670))) (fun p1677 s1675 e1676 n1678 o1679 => ?_) rfl rfl
      have n1680 := fr_back E1650 n1678
      have E1681 := E1650.trans e1676
      have r1682 := Enc.mono e1676.f r1652
      have r1683 := Enc.mono e1676.f r1653
      have r1684 := Enc.mono e1676.f r1654
      have r1685 := Enc.mono e1676.f r1655
      obtain ⟨bars1673, q1674, hm⟩ := ltE hm
      rw [← q1674] at o1679
      obtain ⟨hc1686, hm⟩ := chkE hm
      obtain ⟨o1687, ho1688, hm⟩ := bndE hm
      refine do_forO (υ := (List Int)) PassesOwn.never rfl (ei_range2 z_range ev_int (ev_var 2 rfl r1683) ⟨by omega, by omega⟩ hc1686) (pg_name (i := 5) sc_law.nd rfl (by first | exact Or.inl rfl | exact Or.inr rfl)) tg_n ho1688 (fun (b1689 : (List Int)) (σ' : L2.St) (t' : S) => Ex s0 t' ∧ ∃ (y_k : Option V), σ' = [some v1534, some v1543, some v1595, some v1651, some (.ref p1677), y_k, none, none, none, none, none, none, none, none] ∧ Own K t' p1677 (b1689 : (List Int))) (fun s1740 k1741 => by have E1742 := E1681.trans k1741; have r1743 := Enc.mono k1741.f r1682; have r1744 := Enc.mono k1741.f r1683; have r1745 := Enc.mono k1741.f r1684; have r1746 := Enc.mono k1741.f r1685; have o1747 := Own.ex o1679 k1741; exact ⟨E1742, _, rfl, o1747⟩) (fun s1692 k1693 x1691 b1689 b1690 σ1702 σ1703 t1700 t1701 hx1694 hm1695 fl1696 hR1697 k1698 hB1699 => ?_) (fun s1734 k1735 σ1736 t1737 fl1738 hR1739 => ?_)
      · have hf1704 := Fle.trans k1693.f fl1696
        obtain ⟨E1705, y1706, rfl, o1707⟩ := hR1697
        have r1708 := Enc.mono hf1704 r1682
        have r1709 := Enc.mono hf1704 r1683
        have r1710 := Enc.mono hf1704 r1684
        have r1711 := Enc.mono hf1704 r1685
        obtain ⟨v1712, r1713, rfl⟩ := hB1699
        have E1714 := E1705.trans k1698
        have o1715 := Own.ex o1707 k1698
        have r1716 := Enc.mono k1698.f r1708
        have r1717 := Enc.mono k1698.f r1709
        have r1718 := Enc.mono k1698.f r1710
        have r1719 := Enc.mono k1698.f r1711
        obtain ⟨at1725, h_at1725, hm1695⟩ := bndE hm1695
        obtain ⟨hc1726, hm1695⟩ := chkE hm1695
        refine do_append 4 rfl o1715 (ev_mul (ev_var 3 rfl r1716) (ev_div (ev_mod (ev_mul (ev_var 5 rfl r1713) (ev_add ev_int (ev_mod (ev_ix (Ev.r (ev_var 1 rfl r1719)) ev_int h_at1725) ev_int (by decide))) (Or.inl (Or.inr ⟨by omega, by omega⟩))) ev_int (by decide)) ev_int ⟨by decide, by decide +kernel⟩) (Or.inl (Or.inr ⟨by omega, by omega⟩))) hc1726 (fun s1720 m1721 o1722 => ?_)
        have E1727 := Ex.mu1 E1714 m1721 n1680
        have fl1728 := Fle.trans (Fle.refl t1701.F) m1721.f
        have r1729 := Enc.mono m1721.f r1716
        have r1730 := Enc.mono m1721.f r1717
        have r1731 := Enc.mono m1721.f r1718
        have r1732 := Enc.mono m1721.f r1719
        have r1733 := Enc.mono m1721.f r1713
        obtain ⟨bars1723, q1724, hm1695⟩ := ltE hm1695
        rw [← q1724] at o1722
        obtain rfl := Option.some.inj hm1695
        exact do_nil ⟨s1720, rfl, fl1728, ⟨E1727, _, rfl, o1722⟩⟩
      · have hf1748 := Fle.trans k1735.f fl1738
        obtain ⟨E1749, y1750, rfl, o1751⟩ := hR1739
        have r1752 := Enc.mono hf1748 r1682
        have r1753 := Enc.mono hf1748 r1683
        have r1754 := Enc.mono hf1748 r1684
        have r1755 := Enc.mono hf1748 r1685
        obtain ⟨at1756, h_at1756, hm⟩ := bndE hm
        refine do_set 6 (ev_mod (ev_ix (Ev.r (ev_var 1 rfl r1755)) ev_int h_at1756) ev_int (by decide)) (fun v1761 s1759 e1760 r1762 => ?_) sc_law.nd
        have E1763 := E1749.trans e1760
        have o1764 := Own.ex o1751 e1760
        have r1765 := Enc.mono e1760.f r1752
        have r1766 := Enc.mono e1760.f r1753
        have r1767 := Enc.mono e1760.f r1754
        have r1768 := Enc.mono e1760.f r1755
        obtain ⟨need1757, q1758, hm⟩ := ltE hm
        rw [← q1758] at r1762
        obtain ⟨at1769, h_at1769, hm⟩ := bndE hm
        refine do_set 7 (ev_add ev_int (ev_mod (ev_div (ev_ix (Ev.r (ev_var 1 rfl r1768)) ev_int h_at1769) ev_int ⟨by decide, by decide +kernel⟩) ev_int (by decide))) (fun v1774 s1772 e1773 r1775 => ?_) sc_law.nd
        have E1776 := E1763.trans e1773
        have o1777 := Own.ex o1764 e1773
        have r1778 := Enc.mono e1773.f r1765
        have r1779 := Enc.mono e1773.f r1766
        have r1780 := Enc.mono e1773.f r1767
        have r1781 := Enc.mono e1773.f r1768
        have r1782 := Enc.mono e1773.f r1762
        obtain ⟨hands1770, q1771, hm⟩ := ltE hm
        rw [← q1771] at r1775
        refine do_set 8 (EvN.ev (en_list (xs := ([] : List Int)) ee_nil (by simp [sizeLine]))) (fun v1787 s1785 e1786 r1788 => ?_) sc_law.nd
        have E1789 := E1776.trans e1786
        have o1790 := Own.ex o1777 e1786
        have r1791 := Enc.mono e1786.f r1778
        have r1792 := Enc.mono e1786.f r1779
        have r1793 := Enc.mono e1786.f r1780
        have r1794 := Enc.mono e1786.f r1781
        have r1795 := Enc.mono e1786.f r1782
        have r1796 := Enc.mono e1786.f r1775
        obtain ⟨breaks1783, q1784, hm⟩ := ltE hm
        rw [← q1784] at r1788
        obtain ⟨b1798, hj1799, hm⟩ := bndE hm
        refine do_if (EvB.t (eb_gt (ev_var 2 rfl r1792) ev_int)) (fun (σ' : L2.St) (t' : S) => Fle s1785.F t'.F ∧ Ex s0 t' ∧ ∃ (v_breaks : V), σ' = [some v1534, some v1543, some v1595, some v1651, some (.ref p1677), y1750, some v1761, some v1774, some v_breaks, none, none, none, none, none] ∧ rep K t'.F v_breaks (b1798 : (List Int)) ∧ Own K t' p1677 (o1687 : (List Int))) (fun hb1800 s1801 e1802 => ?_) (fun hb1855 s1856 e1857 => ?_) (fun σ1869 s1870 hM1871 => ?_)
        · have hm1803 := iteE1 hj1799 hb1800
          have E1804 := E1789.trans e1802
          have fl1805 := Fle.trans (Fle.refl s1785.F) e1802.f
          have o1806 := Own.ex o1790 e1802
          have r1807 := Enc.mono e1802.f r1791
          have r1808 := Enc.mono e1802.f r1792
          have r1809 := Enc.mono e1802.f r1793
          have r1810 := Enc.mono e1802.f r1794
          have r1811 := Enc.mono e1802.f r1795
          have r1812 := Enc.mono e1802.f r1796
          have r1813 := Enc.mono e1802.f r1788
          obtain ⟨number1814, h_number1814, hm1803⟩ := bndE hm1803
          obtain ⟨at1815, h_at1815, hm1803⟩ := bndE hm1803
          obtain ⟨digits1816, h_digits1816, hm1803⟩ := bndE hm1803
          obtain ⟨hc1833, hm1803⟩ := chkE hm1803
          refine do_setL 8 (en_comp0 (own := [("_law_one", 13)]) (j := 13) (f := fun (x1817 : Int) => some ((1 : Int) + x1817)) rfl sc_law.nd (ei_list (EvN.ev (en_call C_l_digits hr (by decide) (ea_cons (ev_call C_l_number hr (by decide) (ea_cons (ev_var 0 rfl r1809) (ea_cons ev_int ea_nil)) h_number1814) (ea_cons (ev_mod (ev_ix (Ev.r (ev_var 1 rfl r1810)) ev_int h_at1815) ev_int (by decide)) (ea_cons (ev_sub (ev_var 2 rfl r1808) ev_int) ea_nil))) h_digits1816))) (blkOk_by (own := [("_law_one", 13)]) (N := N_law) (sc := defScope s_law) (by decide +kernel)) rfl (by decide) (fun _ _ _ _ _ => pg_name (i := 13) sc_law.nd rfl (by first | exact Or.inl rfl | exact Or.inr rfl)) (compO_map (fun (x1817 : Int) => ((1 : Int) + x1817)) digits1816) hc1833 (fun x1817 y1818 v1831 s1819 hx1821 e1820 r1832 hf1822 _ _ _ _ _ => by obtain rfl := Option.some.inj hf1822; exact (ev_add ev_int (ev_var 13 rfl r1832)))) (fun p1840 s1836 e1837 n1841 o1842 => ?_) rfl rfl
          obtain ⟨s1843, hs1844, e1845, r1839⟩ := frz_ex e1837 n1841 o1842
          rw [← hs1844]
          have E1846 := E1804.trans e1845
          have fl1847 := Fle.trans fl1805 e1845.f
          have o1848 := Own.ex o1806 e1845
          have r1849 := Enc.mono e1845.f r1807
          have r1850 := Enc.mono e1845.f r1808
          have r1851 := Enc.mono e1845.f r1809
          have r1852 := Enc.mono e1845.f r1810
          have r1853 := Enc.mono e1845.f r1811
          have r1854 := Enc.mono e1845.f r1812
          obtain ⟨breaks1834, q1835, hm1803⟩ := ltE hm1803
          rw [← q1835] at r1839
          obtain rfl := Option.some.inj hm1803
          exact do_nil ⟨s1843, rfl, fl1847, ⟨E1846, (V.ref p1840), rfl, r1839, o1848⟩⟩
        · have hm1858 := iteE2 hj1799 hb1855
          have E1859 := E1789.trans e1857
          have fl1860 := Fle.trans (Fle.refl s1785.F) e1857.f
          have o1861 := Own.ex o1790 e1857
          have r1862 := Enc.mono e1857.f r1791
          have r1863 := Enc.mono e1857.f r1792
          have r1864 := Enc.mono e1857.f r1793
          have r1865 := Enc.mono e1857.f r1794
          have r1866 := Enc.mono e1857.f r1795
          have r1867 := Enc.mono e1857.f r1796
          have r1868 := Enc.mono e1857.f r1788
          obtain rfl := Option.some.inj hm1858
          exact do_nil ⟨s1856, rfl, fl1860, ⟨E1859, v1787, rfl, r1868, o1861⟩⟩
        · obtain ⟨hf1872, hR1873⟩ := hM1871
          obtain ⟨E1874, v1875, rfl, r1876, o1877⟩ := hR1873
          have r1878 := Enc.mono hf1872 r1791
          have r1879 := Enc.mono hf1872 r1792
          have r1880 := Enc.mono hf1872 r1793
          have r1881 := Enc.mono hf1872 r1794
          have r1882 := Enc.mono hf1872 r1795
          have r1883 := Enc.mono hf1872 r1796
          refine do_set 9 (EvN.ev (en_list (xs := ([o1687, b1798] : List (List Int))) (ee_cons (EvN.ev (en_copy z_list (ev_varR 4 rfl o1877))) (ee_cons (EvN.ev (en_copy z_list (Ev.r (ev_var 8 rfl r1876)))) ee_nil)) (by simp [sizeLine]))) (fun v1888 s1886 e1887 r1889 => ?_) sc_law.nd
          have E1890 := E1874.trans e1887
          have r1891 := Enc.mono e1887.f r1876
          have o1892 := Own.ex o1877 e1887
          have r1893 := Enc.mono e1887.f r1878
          have r1894 := Enc.mono e1887.f r1879
          have r1895 := Enc.mono e1887.f r1880
          have r1896 := Enc.mono e1887.f r1881
          have r1897 := Enc.mono e1887.f r1882
          have r1898 := Enc.mono e1887.f r1883
          obtain ⟨handed1884, q1885, hm⟩ := ltE hm
          rw [← q1885] at r1889
          refine do_frz2 o1892 fun s1899 hs1900 hf1901 hg1902 r1903 hx1904 => ?_
          have E1905 := frzE E1890 n1680 hs1900 hf1901 hg1902
          have r1906 := Enc.mono hf1901 r1891
          have r1907 := Enc.mono hf1901 r1893
          have r1908 := Enc.mono hf1901 r1894
          have r1909 := Enc.mono hf1901 r1895
          have r1910 := Enc.mono hf1901 r1896
          have r1911 := Enc.mono hf1901 r1897
          have r1912 := Enc.mono hf1901 r1898
          have r1913 := Enc.mono hf1901 r1889
          obtain ⟨due1914, h_due1914, hm⟩ := bndE hm
          refine do_set 10 (EvN.ev (en_call C_l_due hr (by decide) (ea_cons (ev_var 4 rfl r1903) (ea_cons (ev_var 6 rfl r1911) (ea_cons (ev_var 8 rfl r1906) (ea_cons (ev_var 7 rfl r1912) ea_nil)))) h_due1914)) (fun v1919 s1917 e1918 r1920 => ?_) sc_law.nd
          have E1921 := E1905.trans e1918
          have fl1922 := Fle.trans hf1901 e1918.f
          have fl1923 := Fle.trans (Fle.refl s1899.F) e1918.f
          have r1924 := Enc.mono e1918.f r1906
          have r1925 := Enc.mono e1918.f r1903
          have r1926 := Enc.mono e1918.f r1907
          have r1927 := Enc.mono e1918.f r1908
          have r1928 := Enc.mono e1918.f r1909
          have r1929 := Enc.mono e1918.f r1910
          have r1930 := Enc.mono e1918.f r1911
          have r1931 := Enc.mono e1918.f r1912
          have r1932 := Enc.mono e1918.f r1913
          obtain ⟨due_here1915, q1916, hm⟩ := ltE hm
          rw [← q1916] at r1920
          obtain ⟨at1933, h_at1933, hm⟩ := bndE hm
          obtain ⟨at1934, h_at1934, hm⟩ := bndE hm
          obtain ⟨heard_by1935, h_heard_by1935, hm⟩ := bndE hm
          refine do_setN 11 (en_call C_heard_by hr (by decide) (ea_cons (ev_ix (Ev.r (ev_var 9 rfl r1932)) ev_int h_at1933) (ea_cons (ev_var 6 rfl r1930) (ea_cons (ev_ix (Ev.r (ev_var 9 rfl r1932)) ev_int h_at1934) (ea_cons (ev_var 7 rfl r1931) ea_nil)))) h_heard_by1935) (fun p1940 s1938 e1939 n1941 o1942 => ?_) sc_law.nd
          have n1943 := fr_back E1921 n1941
          have E1944 := E1921.trans e1939
          have fl1945 := Fle.trans fl1922 e1939.f
          have fl1946 := Fle.trans fl1923 e1939.f
          have r1947 := Enc.mono e1939.f r1924
          have r1948 := Enc.mono e1939.f r1925
          have r1949 := Enc.mono e1939.f r1926
          have r1950 := Enc.mono e1939.f r1927
          have r1951 := Enc.mono e1939.f r1928
          have r1952 := Enc.mono e1939.f r1929
          have r1953 := Enc.mono e1939.f r1930
          have r1954 := Enc.mono e1939.f r1931
          have r1955 := Enc.mono e1939.f r1932
          have r1956 := Enc.mono e1939.f r1920
          obtain ⟨found1936, q1937, hm⟩ := ltE hm
          rw [← q1937] at o1942
          refine do_frz2 o1942 fun s1957 hs1958 hf1959 hg1960 r1961 hx1962 => ?_
          have E1963 := frzE E1944 n1943 hs1958 hf1959 hg1960
          have fl1964 := Fle.trans fl1945 hf1959
          have fl1965 := Fle.trans fl1946 hf1959
          have r1966 := Enc.mono hf1959 r1947
          have r1967 := Enc.mono hf1959 r1948
          have r1968 := Enc.mono hf1959 r1949
          have r1969 := Enc.mono hf1959 r1950
          have r1970 := Enc.mono hf1959 r1951
          have r1971 := Enc.mono hf1959 r1952
          have r1972 := Enc.mono hf1959 r1953
          have r1973 := Enc.mono hf1959 r1954
          have r1974 := Enc.mono hf1959 r1955
          have r1975 := Enc.mono hf1959 r1956
          obtain ⟨same1976, h_same1976, hm⟩ := bndE hm
          refine do_ifR (EvW.tt (EvC.w (ec_or (eb_not (eb_v (ev_call C_l_same hr (by decide) (ea_cons (ev_var 11 rfl r1961) (ea_cons (ev_var 10 rfl r1975) ea_nil)) h_same1976))) fun _ => (ec_or1 (eb_neL hr (Ev.r (ev_var 9 rfl r1974)) (EvN.r (en_list (xs := ([o1687, b1798] : List (List Int))) (ee_cons (ev_var 4 rfl r1967) (ee_cons (ev_var 8 rfl r1966) ee_nil)) (by simp [sizeLine]))) (shp_of _) (shp_of _)))))) (fun hb1978 s1979 e1980 => ?_) (fun hb2002 s2003 e2004 => ?_)
          · have hm1981 := iteE1 hm hb1978
            have E1982 := E1963.trans e1980
            have fl1983 := Fle.trans fl1964 e1980.f
            have fl1984 := Fle.trans fl1965 e1980.f
            have fl1985 := Fle.trans hf1959 e1980.f
            have fl1986 := Fle.trans (Fle.refl s1957.F) e1980.f
            have r1987 := Enc.mono e1980.f r1966
            have r1988 := Enc.mono e1980.f r1967
            have r1989 := Enc.mono e1980.f r1968
            have r1990 := Enc.mono e1980.f r1969
            have r1991 := Enc.mono e1980.f r1970
            have r1992 := Enc.mono e1980.f r1971
            have r1993 := Enc.mono e1980.f r1972
            have r1994 := Enc.mono e1980.f r1973
            have r1995 := Enc.mono e1980.f r1974
            have r1996 := Enc.mono e1980.f r1975
            have r1997 := Enc.mono e1980.f r1961
            obtain rfl := Option.some.inj hm1981
            exact do_ret ev_bl fun v1998 s1999 e2000 r2001 => hQ _ _ (E1982.trans e2000) r2001
          · have hm2005 := iteE2 hm hb2002
            have E2006 := E1963.trans e2004
            have fl2007 := Fle.trans fl1964 e2004.f
            have fl2008 := Fle.trans fl1965 e2004.f
            have fl2009 := Fle.trans hf1959 e2004.f
            have fl2010 := Fle.trans (Fle.refl s1957.F) e2004.f
            have r2011 := Enc.mono e2004.f r1966
            have r2012 := Enc.mono e2004.f r1967
            have r2013 := Enc.mono e2004.f r1968
            have r2014 := Enc.mono e2004.f r1969
            have r2015 := Enc.mono e2004.f r1970
            have r2016 := Enc.mono e2004.f r1971
            have r2017 := Enc.mono e2004.f r1972
            have r2018 := Enc.mono e2004.f r1973
            have r2019 := Enc.mono e2004.f r1974
            have r2020 := Enc.mono e2004.f r1975
            have r2021 := Enc.mono e2004.f r1961
            refine do_back s1938 fl2009 ?_
            have E2022 := backE fl2009 E1944 E2006
            have o2023 := backOwn fl2009 o1942 hx1962 fl2010
            have r2024 : rep K (S.back s1938 s2003 fl2009).F v1875 (b1798 : (List Int)) := r1947
            have r2025 : rep K (S.back s1938 s2003 fl2009).F (V.ref p1677) (o1687 : (List Int)) := r1948
            have r2026 : rep K (S.back s1938 s2003 fl2009).F v1651 (b1611 : Int) := r1949
            have r2027 : rep K (S.back s1938 s2003 fl2009).F v1595 (b1559 : Int) := r1950
            have r2028 : rep K (S.back s1938 s2003 fl2009).F v1534 (script1533 : (List Int)) := r1951
            have r2029 : rep K (S.back s1938 s2003 fl2009).F v1543 (sizes1539 : (List Int)) := r1952
            have r2030 : rep K (S.back s1938 s2003 fl2009).F v1761 (need1757 : Int) := r1953
            have r2031 : rep K (S.back s1938 s2003 fl2009).F v1774 (hands1770 : Int) := r1954
            have r2032 : rep K (S.back s1938 s2003 fl2009).F v1888 (handed1884 : (List (List Int))) := r1955
            have r2033 : rep K (S.back s1938 s2003 fl2009).F v1919 (due_here1915 : (List Int)) := r1956
            obtain ⟨hc2039, hm2005⟩ := chkE hm2005
            refine do_append 11 rfl o2023 ev_int hc2039 (fun s2034 m2035 o2036 => ?_)
            have E2040 := Ex.mu1 E2022 m2035 n1943
            have fl2041 := Fle.trans fl1945 m2035.f
            have fl2042 := Fle.trans fl1946 m2035.f
            have r2043 := Enc.mono m2035.f r2024
            have r2044 := Enc.mono m2035.f r2025
            have r2045 := Enc.mono m2035.f r2026
            have r2046 := Enc.mono m2035.f r2027
            have r2047 := Enc.mono m2035.f r2028
            have r2048 := Enc.mono m2035.f r2029
            have r2049 := Enc.mono m2035.f r2030
            have r2050 := Enc.mono m2035.f r2031
            have r2051 := Enc.mono m2035.f r2032
            have r2052 := Enc.mono m2035.f r2033
            obtain ⟨found2037, q2038, hm2005⟩ := ltE hm2005
            rw [← q2038] at o2036
            obtain ⟨j2053, h_j2053, hm2005⟩ := bndE hm2005
            refine do_setItem 11 rfl o2036 (ev_neg ev_int) ev_int h_j2053 (fun s2054 m2055 o2056 => ?_)
            have E2059 := Ex.mu1 E2040 m2055 n1943
            have fl2060 := Fle.trans fl2041 m2055.f
            have fl2061 := Fle.trans fl2042 m2055.f
            have r2062 := Enc.mono m2055.f r2043
            have r2063 := Enc.mono m2055.f r2044
            have r2064 := Enc.mono m2055.f r2045
            have r2065 := Enc.mono m2055.f r2046
            have r2066 := Enc.mono m2055.f r2047
            have r2067 := Enc.mono m2055.f r2048
            have r2068 := Enc.mono m2055.f r2049
            have r2069 := Enc.mono m2055.f r2050
            have r2070 := Enc.mono m2055.f r2051
            have r2071 := Enc.mono m2055.f r2052
            obtain ⟨found2057, q2058, hm2005⟩ := ltE hm2005
            rw [← q2058] at o2056
            obtain ⟨hc2072, hm2005⟩ := chkE hm2005
            refine do_set 12 (EvN.ev (en_cat (EvN.r (en_rev (Ev.r (ev_var 8 rfl r2062)))) (EvN.r (en_slice (Ev.r (ev_var 8 rfl r2062)) eo_none (eo_some ev_int))) hc2072)) (fun v2077 s2075 e2076 r2078 => ?_) sc_law.nd
            have E2079 := E2059.trans e2076
            have fl2080 := Fle.trans fl2060 e2076.f
            have fl2081 := Fle.trans fl2061 e2076.f
            have r2082 := Enc.mono e2076.f r2062
            have r2083 := Enc.mono e2076.f r2063
            have r2084 := Enc.mono e2076.f r2064
            have r2085 := Enc.mono e2076.f r2065
            have r2086 := Enc.mono e2076.f r2066
            have r2087 := Enc.mono e2076.f r2067
            have r2088 := Enc.mono e2076.f r2068
            have r2089 := Enc.mono e2076.f r2069
            have r2090 := Enc.mono e2076.f r2070
            have r2091 := Enc.mono e2076.f r2071
            have o2092 := Own.ex o2056 e2076
            obtain ⟨turned2073, q2074, hm2005⟩ := ltE hm2005
            rw [← q2074] at r2078
            obtain ⟨heard_by2093, h_heard_by2093, hm2005⟩ := bndE hm2005
            obtain ⟨same2094, h_same2094, hm2005⟩ := bndE hm2005
            refine do_ifR (EvB.t (eb_not (eb_v (ev_call C_l_same hr (by decide) (ea_cons (EvN.ev (en_call C_heard_by hr (by decide) (ea_cons (ev_var 4 rfl r2083) (ea_cons (ev_var 6 rfl r2088) (ea_cons (ev_var 12 rfl r2078) (ea_cons (ev_var 7 rfl r2089) ea_nil)))) h_heard_by2093)) (ea_cons (ev_var 10 rfl r2091) ea_nil)) h_same2094)))) (fun hb2096 s2097 e2098 => ?_) (fun hb2119 s2120 e2121 => ?_)
            · have hm2099 := iteE1 hm2005 hb2096
              have E2100 := E2079.trans e2098
              have fl2101 := Fle.trans fl2080 e2098.f
              have fl2102 := Fle.trans fl2081 e2098.f
              have r2103 := Enc.mono e2098.f r2082
              have r2104 := Enc.mono e2098.f r2083
              have r2105 := Enc.mono e2098.f r2084
              have r2106 := Enc.mono e2098.f r2085
              have r2107 := Enc.mono e2098.f r2086
              have r2108 := Enc.mono e2098.f r2087
              have r2109 := Enc.mono e2098.f r2088
              have r2110 := Enc.mono e2098.f r2089
              have r2111 := Enc.mono e2098.f r2090
              have r2112 := Enc.mono e2098.f r2091
              have o2113 := Own.ex o2092 e2098
              have r2114 := Enc.mono e2098.f r2078
              obtain rfl := Option.some.inj hm2099
              exact do_ret ev_bl fun v2115 s2116 e2117 r2118 => hQ _ _ (E2100.trans e2117) r2118
            · have hm2122 := iteE2 hm2005 hb2119
              have E2123 := E2079.trans e2121
              have fl2124 := Fle.trans fl2080 e2121.f
              have fl2125 := Fle.trans fl2081 e2121.f
              have r2126 := Enc.mono e2121.f r2082
              have r2127 := Enc.mono e2121.f r2083
              have r2128 := Enc.mono e2121.f r2084
              have r2129 := Enc.mono e2121.f r2085
              have r2130 := Enc.mono e2121.f r2086
              have r2131 := Enc.mono e2121.f r2087
              have r2132 := Enc.mono e2121.f r2088
              have r2133 := Enc.mono e2121.f r2089
              have r2134 := Enc.mono e2121.f r2090
              have r2135 := Enc.mono e2121.f r2091
              have o2136 := Own.ex o2092 e2121
              have r2137 := Enc.mono e2121.f r2078
              obtain ⟨at2138, h_at2138, hm2122⟩ := bndE hm2122
              obtain ⟨heard_by2139, h_heard_by2139, hm2122⟩ := bndE hm2122
              obtain ⟨due2140, h_due2140, hm2122⟩ := bndE hm2122
              obtain ⟨same2141, h_same2141, hm2122⟩ := bndE hm2122
              obtain rfl := Option.some.inj hm2122
              exact do_ret (ev_call C_l_same hr (by decide) (ea_cons (EvN.ev (en_call C_heard_by hr (by decide) (ea_cons (ev_ix (Ev.r (ev_var 9 rfl r2134)) ev_int h_at2138) (ea_cons (ev_var 6 rfl r2132) (ea_cons (EvN.ev (en_list (xs := ([] : List Int)) ee_nil (by simp [sizeLine]))) (ea_cons (ev_var 7 rfl r2133) ea_nil)))) h_heard_by2139)) (ea_cons (EvN.ev (en_call C_l_due hr (by decide) (ea_cons (ev_var 4 rfl r2127) (ea_cons (ev_var 6 rfl r2132) (ea_cons (EvN.ev (en_list (xs := ([] : List Int)) ee_nil (by simp [sizeLine]))) (ea_cons (ev_var 7 rfl r2133) ea_nil)))) h_due2140)) ea_nil)) h_same2141) fun v2142 s2143 e2144 r2145 => hQ _ _ (E2123.trans e2144) r2145
def d_l_digits : He.DefD := ⟨("_law_digits", none), "_law_digits", "_law_digits", defArgs s_l_digits, defBody s_l_digits, defScope s_l_digits, [], []⟩
def d_l_window : He.DefD := ⟨("_law_window", none), "_law_window", "_law_window", defArgs s_l_window, defBody s_l_window, defScope s_l_window, [], []⟩
def d_l_due : He.DefD := ⟨("_law_due", none), "_law_due", "_law_due", defArgs s_l_due, defBody s_l_due, defScope s_l_due, [], []⟩
def d_asked_bars : He.DefD := ⟨("asked_bars", none), "asked_bars", "asked_bars", defArgs s_asked_bars, defBody s_asked_bars, defScope s_asked_bars, [], []⟩
def d_asked_break : He.DefD := ⟨("asked_break", none), "asked_break", "asked_break", defArgs s_asked_break, defBody s_asked_break, defScope s_asked_break, [], []⟩
def d_played_in : He.DefD := ⟨("played_in", none), "played_in", "played_in", defArgs s_played_in, defBody s_played_in, defScope s_played_in, [], []⟩
def d_window_at : He.DefD := ⟨("window_at", none), "window_at", "window_at", defArgs s_window_at, defBody s_window_at, defScope s_window_at, [], []⟩
def d_desks_of : He.DefD := ⟨("desks_of", none), "desks_of", "desks_of", defArgs s_desks_of, defBody s_desks_of, defScope s_desks_of, [], []⟩
def d_heard_by : He.DefD := ⟨("heard_by", none), "heard_by", "heard_by", defArgs s_heard_by, defBody s_heard_by, defScope s_heard_by, [], []⟩
def d_l_same : He.DefD := ⟨("_law_same", none), "_law_same", "_law_same", defArgs s_l_same, defBody s_l_same, defScope s_l_same, [], []⟩
def d_l_cell_at : He.DefD := ⟨("_law_cell_at", none), "_law_cell_at", "_law_cell_at", defArgs s_l_cell_at, defBody s_l_cell_at, defScope s_l_cell_at, [], []⟩
def d_l_number : He.DefD := ⟨("_law_number", none), "_law_number", "_law_number", defArgs s_l_number, defBody s_l_number, defScope s_l_number, [], []⟩
def d_law : He.DefD := ⟨("law", none), "law", "law", defArgs s_law, defBody s_law, defScope s_law, [], []⟩
def fn : List He.DefD := [d_l_digits, d_l_window, d_l_due, d_asked_bars, d_asked_break, d_played_in, d_window_at, d_desks_of, d_heard_by, d_l_same, d_l_cell_at, d_l_number, d_law]
def fa : List He.Fa := [.glo "_law_digits", .glo "_law_window", .glo "_law_due", .glo "asked_bars", .glo "asked_break", .glo "played_in", .glo "window_at", .glo "desks_of", .glo "heard_by", .glo "_law_same", .glo "_law_cell_at", .glo "_law_number", .glo "law", .free "range", .free "len", .free "min", .free "sum", .free "max", .free "any", .free "isinstance", .free "list", .free "bool", .free "int"]
abbrev R : PySem.W.OpenRow := PySem.W.OpenLaw.row PySem.Challenge.rw_deskpairs_k60_what_is_heard
abbrev hk : PySem.W.Hook := He.hookD 4 fa fn
def ob (s : PySem.W.SharedT) : He.AlD := He.obsDG 4 fa fn (HandSHeadRun.getT s)
theorem ob_eq (s : PySem.W.SharedT) : ob s = hk.obs s.abs := He.obsDG_eq (HandSHeadRun.getT_eq s)
def loose0 : List Str := ["PairsError", "NoBars", "NoBreak", "desks_of", "asked_bars", "asked_break", "played_in", "window_at", "heard_by", "_law_cell_at", "_law_number", "_law_digits", "_law_window", "_law_due", "_law_same"]
def loose : List Str := loose0
theorem run (w : World) : HandSHeadRun.RunEq R (PySem.W.view R.prog [20]) hk ob 1240 loose w := by
  intro os
  kernel_rfl
theorem facts {P : Program} {w : World} {K : PySem.W.Frag} {h : Heap} {mg : Str → Option Value} {f : Addr} (X : K.In h) (G : h.Ns mainGlobals mg) (hfa : mg ("law" : Str) = some (.ref f)) (c : He.SaysD fa fn K) :
    ∃ fd : FuncData, (∀ (s : Shared) (v : Value), BindsTo s fd ⟨[v], []⟩ [("_law_script", v)]) ∧ ∀ base : Heap, K.In base → base.Ns mainGlobals mg → FnOk P w K mg base CX0 4 f fd ["_law_script"] (sp K a_law) := by
  obtain ⟨fd_l_digits, F_l_digits⟩ := c.def_ 0 (d := d_l_digits) rfl
  have g_l_digits : mg "_law_digits" = some (.ref (He.fAd K ("_law_digits", none))) := He.glo_ok X G (c.fact 0 (f := .glo "_law_digits") rfl)
  obtain ⟨fd_l_window, F_l_window⟩ := c.def_ 1 (d := d_l_window) rfl
  have g_l_window : mg "_law_window" = some (.ref (He.fAd K ("_law_window", none))) := He.glo_ok X G (c.fact 1 (f := .glo "_law_window") rfl)
  obtain ⟨fd_l_due, F_l_due⟩ := c.def_ 2 (d := d_l_due) rfl
  have g_l_due : mg "_law_due" = some (.ref (He.fAd K ("_law_due", none))) := He.glo_ok X G (c.fact 2 (f := .glo "_law_due") rfl)
  obtain ⟨fd_asked_bars, F_asked_bars⟩ := c.def_ 3 (d := d_asked_bars) rfl
  have g_asked_bars : mg "asked_bars" = some (.ref (He.fAd K ("asked_bars", none))) := He.glo_ok X G (c.fact 3 (f := .glo "asked_bars") rfl)
  obtain ⟨fd_asked_break, F_asked_break⟩ := c.def_ 4 (d := d_asked_break) rfl
  have g_asked_break : mg "asked_break" = some (.ref (He.fAd K ("asked_break", none))) := He.glo_ok X G (c.fact 4 (f := .glo "asked_break") rfl)
  obtain ⟨fd_played_in, F_played_in⟩ := c.def_ 5 (d := d_played_in) rfl
  have g_played_in : mg "played_in" = some (.ref (He.fAd K ("played_in", none))) := He.glo_ok X G (c.fact 5 (f := .glo "played_in") rfl)
  obtain ⟨fd_window_at, F_window_at⟩ := c.def_ 6 (d := d_window_at) rfl
  have g_window_at : mg "window_at" = some (.ref (He.fAd K ("window_at", none))) := He.glo_ok X G (c.fact 6 (f := .glo "window_at") rfl)
  obtain ⟨fd_desks_of, F_desks_of⟩ := c.def_ 7 (d := d_desks_of) rfl
  have g_desks_of : mg "desks_of" = some (.ref (He.fAd K ("desks_of", none))) := He.glo_ok X G (c.fact 7 (f := .glo "desks_of") rfl)
  obtain ⟨fd_heard_by, F_heard_by⟩ := c.def_ 8 (d := d_heard_by) rfl
  have g_heard_by : mg "heard_by" = some (.ref (He.fAd K ("heard_by", none))) := He.glo_ok X G (c.fact 8 (f := .glo "heard_by") rfl)
  obtain ⟨fd_l_same, F_l_same⟩ := c.def_ 9 (d := d_l_same) rfl
  have g_l_same : mg "_law_same" = some (.ref (He.fAd K ("_law_same", none))) := He.glo_ok X G (c.fact 9 (f := .glo "_law_same") rfl)
  obtain ⟨fd_l_cell_at, F_l_cell_at⟩ := c.def_ 10 (d := d_l_cell_at) rfl
  have g_l_cell_at : mg "_law_cell_at" = some (.ref (He.fAd K ("_law_cell_at", none))) := He.glo_ok X G (c.fact 10 (f := .glo "_law_cell_at") rfl)
  obtain ⟨fd_l_number, F_l_number⟩ := c.def_ 11 (d := d_l_number) rfl
  have g_l_number : mg "_law_number" = some (.ref (He.fAd K ("_law_number", none))) := He.glo_ok X G (c.fact 11 (f := .glo "_law_number") rfl)
  obtain ⟨fd_law, F_law⟩ := c.def_ 12 (d := d_law) rfl
  have g_law : mg "law" = some (.ref (He.fAd K ("law", none))) := He.glo_ok X G (c.fact 12 (f := .glo "law") rfl)
  have z_range : mg "range" = none := He.free_ok X G (c.fact 13 (f := .free "range") rfl)
  have z_len : mg "len" = none := He.free_ok X G (c.fact 14 (f := .free "len") rfl)
  have z_min : mg "min" = none := He.free_ok X G (c.fact 15 (f := .free "min") rfl)
  have z_sum : mg "sum" = none := He.free_ok X G (c.fact 16 (f := .free "sum") rfl)
  have z_max : mg "max" = none := He.free_ok X G (c.fact 17 (f := .free "max") rfl)
  have z_any : mg "any" = none := He.free_ok X G (c.fact 18 (f := .free "any") rfl)
  have z_isinstance : mg "isinstance" = none := He.free_ok X G (c.fact 19 (f := .free "isinstance") rfl)
  have z_list : mg "list" = none := He.free_ok X G (c.fact 20 (f := .free "list") rfl)
  have z_bool : mg "bool" = none := He.free_ok X G (c.fact 21 (f := .free "bool") rfl)
  have z_int : mg "int" = none := He.free_ok X G (c.fact 22 (f := .free "int") rfl)
  have e := hfa.symm.trans g_law
  cases e
  have b := FunD.bindsA (ps := ["_law_script"]) F_law fun _ _ _ _ _ _ us hl => match us, hl with | [_], _ => rfl
  refine ⟨fd_law, fun s v => b s [v] rfl, fun base _ _ => ?_⟩
  have C_l_digits := ok_l_digits (P := P) (w := w) (base := base) F_l_digits g_l_digits z_range
  have C_l_window := ok_l_window (P := P) (w := w) (base := base) F_l_window g_l_window z_range z_len
  have C_l_due := ok_l_due (P := P) (w := w) (base := base) F_l_due g_l_due C_l_window z_range z_len
  have C_asked_bars := ok_asked_bars (P := P) (w := w) (base := base) F_asked_bars g_asked_bars z_len z_min
  have C_asked_break := ok_asked_break (P := P) (w := w) (base := base) F_asked_break g_asked_break z_len
  have C_played_in := ok_played_in (P := P) (w := w) (base := base) F_played_in g_played_in z_sum z_max
  have C_window_at := ok_window_at (P := P) (w := w) (base := base) F_window_at g_window_at C_asked_bars C_asked_break C_played_in z_range
  have C_desks_of := ok_desks_of (P := P) (w := w) (base := base) F_desks_of g_desks_of z_range
  have C_heard_by := ok_heard_by (P := P) (w := w) (base := base) F_heard_by g_heard_by C_asked_bars C_window_at C_desks_of z_len z_range z_any
  have C_l_same := ok_l_same (P := P) (w := w) (base := base) F_l_same g_l_same z_isinstance z_list z_bool z_int
  have C_l_cell_at := ok_l_cell_at (P := P) (w := w) (base := base) F_l_cell_at g_l_cell_at z_len
  have C_l_number := ok_l_number (P := P) (w := w) (base := base) F_l_number g_l_number C_l_cell_at
  exact ok_law_fn (P := P) (w := w) (base := base) F_law g_law C_l_digits C_l_number C_l_cell_at C_l_due C_heard_by C_l_same z_min z_range z_list
def val (l : List Int) (k : Int) : Int := if 0 ≤ k ∧ k < l.length then l.getD k.toNat 0 else 0
def spr (l : List Int) (b : Int) : Int := (l.take b.toNat).sum
theorem isum_append : ∀ xs ys : List Int, (xs ++ ys).sum = xs.sum + ys.sum
  | [], ys => by simp
  | x :: xs, ys => by
    rw [List.cons_append, List.sum_cons, List.sum_cons, isum_append xs ys]; omega
theorem take_min (l : List Int) (k : Nat) : l.take (min k l.length) = l.take k := by
  by_cases h : k ≤ l.length
  · rw [Nat.min_eq_left h]
  · rw [Nat.min_eq_right (by omega), List.take_of_length_le (Nat.le_refl _), List.take_of_length_le (by omega)]
theorem part_sum (l : List Int) {i j : Nat} (h : i ≤ j) : ((l.drop i).take (j - i)).sum = (l.take j).sum - (l.take i).sum := by
  have : l.take j = l.take i ++ (l.drop i).take (j - i) := by rw [← List.take_add, Nat.add_sub_cancel' h]
  rw [this, isum_append]; omega
theorem cut_sum (l : List Int) {a b : Int} (h : a ≤ b) : (cut l (some (max 0 a)) (some (max 0 b))).sum = spr l b - spr l a := by
  unfold cut spr
  rw [show max 0 a = ((a.toNat : Nat) : Int) by omega, show max 0 b = ((b.toNat : Nat) : Int) by omega, HT.sIx_nat, HT.sIx_nat, part_sum l (by omega), take_min, take_min]
theorem spr_step (l : List Int) (b : Int) : spr l (b + 1) = spr l b + val l b := by
  unfold spr val
  by_cases h0 : 0 ≤ b
  · by_cases h1 : b < l.length
    · have h2 : b.toNat < l.length := by omega
      rw [if_pos ⟨h0, h1⟩, show (b + 1).toNat = b.toNat + 1 by omega, List.take_succ_eq_append_getElem h2, isum_append, List.getD_eq_getElem?_getD, List.getElem?_eq_getElem h2]
      simp
    · rw [if_neg (fun h => h1 h.2), List.take_of_length_le (by omega), List.take_of_length_le (by omega)]; omega
  · rw [if_neg (fun h => h0 h.1), show (b + 1).toNat = b.toNat by omega]; omega
theorem spr_mono {l : List Int} (h : ∀ x ∈ l, 0 ≤ x) (a : Int) : ∀ n : Nat, spr l a ≤ spr l (a + n)
  | 0 => by rw [show a + ((0 : Nat) : Int) = a by omega]; exact Int.le_refl _
  | n + 1 => by
    have h1 := spr_mono h a n
    have h2 := spr_step l (a + n)
    have h3 : 0 ≤ val l (a + n) := by
      unfold val
      split
      · rename_i h5
        rw [List.getD_eq_getElem?_getD, List.getElem?_eq_getElem (by omega)]
        exact h _ (List.getElem_mem _)
      · exact Int.le_refl _
    rw [show a + ((n + 1 : Nat) : Int) = a + n + 1 by omega]
    omega
theorem rng_cons {a b : Int} (h : a < b) : rng a b = a :: rng (a + 1) b := by
  unfold rng
  rw [show (b - a).toNat = (b - (a + 1)).toNat + 1 by omega, List.range_succ_eq_map, List.map_cons, List.map_map]
  congr 1
  · omega
  · refine List.map_congr_left fun i _ => ?_
    show a + ((i + 1 : Nat) : Int) = a + 1 + (i : Int)
    omega
theorem fold_val (l : List Int) {f : Int → Int → Option Int} (hf : ∀ c k, f c k = some (c + val l k)) {a b : Int} (h : a ≤ b) (c : Int) : foldO f c (rng a b) = some (c + (spr l b - spr l a)) := by
  refine Ok.eq (ok_foldO (fun i x => x = c + (spr l (a + i) - spr l a)) (by simp) (fun i x k hk e => ?_) (fun x e => ?_))
  · obtain ⟨e1, e2⟩ := rng_at hk
    subst e e1
    rw [hf]
    refine ok_some ?_
    have := spr_step l (a + i)
    rw [show a + ((i + 1 : Nat) : Int) = a + i + 1 by omega]
    omega
  · rw [e, rng_len, show a + (((b - a).toNat : Nat) : Int) = b by omega]
theorem foldO_emb {β γ τ : Type} {f : γ → τ → Option γ} {g : β → τ → β} (em : β → γ) : ∀ {xs : List τ} {b : β}, (∀ b x, x ∈ xs → f (em b) x = some (em (g b x))) → foldO f (em b) xs = some (em (xs.foldl g b))
  | [], b, _ => rfl
  | x :: xs, b, h => by
    unfold foldO
    rw [h b x List.mem_cons_self, Option.bind_some, List.foldl_cons]
    exact foldO_emb em (fun b y hy => h b y (List.mem_cons_of_mem _ hy))
def wn (l : List Int) (need a : Int) : Int := spr l (a + need) - spr l a
def better (l : List Int) (need : Int) (b x : Int) : Int := if wn l need x < wn l need b then x else b
def wat (l : List Int) (need place : Int) : Int := (rng (place - need + 1) (place + 1)).foldl (better l need) (place - need)
def Bars (l : List Int) : Prop := 1 ≤ l.length ∧ l.length ≤ 200 ∧ ∀ x ∈ l, 0 ≤ x
theorem minL_ok {l : List Int} (h : Bars l) : Ok (minL l) (fun m => 0 ≤ m) := by
  obtain ⟨h1, _, h2⟩ := h
  cases l with
  | nil => simp at h1
  | cons x xs =>
    show Ok (some (xs.foldl min x)) _
    refine ok_some ?_
    obtain ⟨h3, _⟩ := foldl_min xs x
    exact h2 _ h3
theorem asked_ok {l : List Int} (h : Bars l) : m_asked_bars l = some true := by
  refine Ok.eq ?_
  unfold m_asked_bars
  have h1 := h.1
  have h2 := h.2.1
  refine ok_bnd (P := fun c => c = false) (ok_orO (fun _ => ok_orO (fun _ => ok_bnd (minL_ok h) fun m hm => ok_some (decide_eq_false (by omega))) (fun hc => ?_)) (fun hc => ?_)) fun c hc => by subst hc; exact ok_some rfl
  · have := of_decide_eq_true hc; omega
  · have := of_decide_eq_true hc; omega
theorem brk_ok {l : List Int} {p : Int} (h1 : 1 ≤ p) (h2 : p < l.length) : m_asked_break l p = some () := by
  unfold m_asked_break
  rw [decide_eq_false (show ¬ p < 1 by omega), decide_eq_false (show ¬ (l.length : Int) ≤ p by omega)]
  rfl
theorem played_eq (l : List Int) {a need : Int} (h : 0 ≤ need) : m_played_in l a (a + need) = some (wn l need a) := by
  unfold m_played_in wn
  rw [cut_sum l (by omega)]
theorem window_eq {l : List Int} (h : Bars l) {need p : Int} (n0 : 0 ≤ need) (n1 : need ≤ 12) (h1 : 1 ≤ p) (h2 : p < l.length) : m_window_at l need p = some (wat l need p, wat l need p + need) := by
  refine Ok.eq ?_
  unfold m_window_at
  have h3 := h.2.1
  rw [asked_ok h, brk_ok h1 h2]
  refine ok_bnd (ok_some (P := fun _ => True) trivial) fun _ _ => ok_bnd (ok_some (P := fun _ => True) trivial) fun _ _ => ok_lt fun f hf => ok_chk ⟨by omega, by omega⟩ (ok_chk ⟨by omega, by omega⟩ (ok_bnd (P := fun b => b = wat l need p) (ok_eq (foldO_eq (g := better l need) fun b x _ => ?_) (by rw [hf]; rfl)) fun b hb => ok_some (by rw [hb])))
  rw [played_eq l n0, played_eq l n0]
  unfold better
  by_cases hw : wn l need x < wn l need b
  · rw [if_pos hw]
    show bnd (if decide (wn l need x < wn l need b) = true then _ else _) _ = _
    rw [decide_eq_true hw]; rfl
  · rw [if_neg hw]
    show bnd (if decide (wn l need x < wn l need b) = true then _ else _) _ = _
    rw [decide_eq_false hw]; rfl
def dsk (many x : Int) : Tu Int := if x + 1 < many then ⟨[x, x + 1]⟩ else ⟨[x]⟩
theorem desks_eq {many : Int} (h0 : 0 ≤ many) (h1 : many ≤ 1000) : m_desks_of many = some ((rngS 0 many 2).map (dsk many)) := by
  unfold m_desks_of
  have hz := szl
  have hN : stepN 0 many 2 ≤ 1000 := by unfold stepN; split <;> omega
  show chk _ _ = _
  rw [chk_pos ⟨⟨by omega, by omega⟩, ⟨by omega, by omega⟩, by omega, by omega⟩, foldO_app (N := 1000) (g := dsk many) ?_ (by rw [rngS_len]; simpa using hN)]
  · rfl
  · intro b x hb _
    unfold dsk
    by_cases h : x + 1 < many
    · rw [if_pos h, decide_eq_true h]
      show bnd (chk _ _) _ = _
      rw [chk_pos (show b.length < sizeLine by omega)]; rfl
    · rw [if_neg h, decide_eq_false h]
      show bnd (chk _ _) _ = _
      rw [chk_pos (show b.length < sizeLine by omega)]; rfl

def inw (l : List Int) (need k p : Int) : Bool := decide (wat l need p ≤ k) && decide (k < wat l need p + need)
def dueL (l : List Int) (need : Int) (bs : List Int) (hands : Int) : List Int := (rng 0 l.length).map fun k => if l.getD k.toNat 0 = 0 then 0 else if bs.any (inw l need k) = true then hands / 2 else hands
theorem at_bar {l : List Int} {k : Int} (h : k ∈ rng 0 l.length) : atI l k = some (l.getD k.toNat 0) := by
  obtain ⟨h0, h1⟩ := mem_rng.mp h
  rw [atI_get h0 h1, List.getD_eq_getElem?_getD, List.getElem?_eq_getElem (by omega)]; rfl
theorem heard_eq {l : List Int} (h : Bars l) {need hands : Int} {bs : List Int} (n0 : 0 ≤ need) (n1 : need ≤ 12) (hb : ∀ p ∈ bs, 1 ≤ p ∧ p < l.length) (hl : bs.length ≤ 1000) (m0 : 0 ≤ hands) (m1 : hands ≤ 1000) : m_heard_by l need bs hands = some (dueL l need bs hands) := by
  refine Ok.eq ?_
  unfold m_heard_by
  have hz := szl
  have h2 := h.2.1
  rw [asked_ok h, desks_eq m0 m1]
  refine ok_bnd (ok_some (P := fun _ => True) trivial) fun _ _ => ok_bnd (P := fun ys => ys = bs.map fun p => (wat l need p, wat l need p + need)) (ok_eq (mapO_eq fun p hp => by rw [window_eq h n0 n1 (hb p hp).1 (hb p hp).2]; rfl) rfl) fun ys hys => ok_chk (by rw [hys, List.length_map]; omega) (ok_lt fun sp hsp => ok_bnd (P := fun d => (d.length : Int) = (hands + 1) / 2) (ok_some ?_) fun d hd => ok_lt fun tn htn => ok_lt fun td htd => ok_chk ⟨by omega, by omega⟩ ?_)
  · rw [List.length_map, rngS_len]
    unfold stepN
    split <;> omega
  · subst hys hsp htn htd
    rw [foldO_app (N := 1000) (g := fun k => if l.getD k.toNat 0 = 0 then 0 else if bs.any (inw l need k) = true then hands / 2 else hands) ?_ (by rw [rng_len_nn (by omega)]; simp; omega)]
    · exact ok_some rfl
    · intro b k hbl hk
      have e : ((bs.map fun p => (wat l need p, wat l need p + need)).map (fun x : Int × Int => decide (x.1 ≤ k) && decide (k < x.2))).any id = bs.any (inw l need k) := by
        rw [List.map_map, List.any_map]; rfl
      show bnd (atI l k) _ = _
      rw [at_bar hk, e]
      show bnd (if decide (l.getD k.toNat 0 = 0) = true then _ else _) _ = _
      by_cases h0 : l.getD k.toNat 0 = 0
      · rw [decide_eq_true h0, if_pos rfl]
        simp only [if_pos h0]
        show chk _ _ = _
        rw [chk_pos (by omega)]; rfl
      · rw [decide_eq_false h0, if_neg Bool.false_ne_true, chk_pos (by rw [List.length_map, List.length_map]; omega)]
        simp only [if_neg h0]
        cases ha : bs.any (inw l need k)
        · show chk _ _ = _
          rw [chk_pos (by omega)]; rfl
        · show chk _ _ = _
          rw [chk_pos (by omega), if_pos rfl]
          have : hands - (d.length : Int) = hands / 2 := by omega
          rw [this]; rfl
theorem lwin_eq {l : List Int} (h2 : l.length ≤ 200) {need p : Int} (n0 : 0 ≤ need) (n1 : need ≤ 12) (h0 : 1 ≤ p) (h1 : p < l.length) : m_l_window l need p = some ⟨wn l need (wat l need p), wat l need p, wat l need p + need⟩ := by
  refine Ok.eq ?_
  unfold m_l_window
  refine ok_lt fun be hbe => ok_chk ⟨by omega, by omega⟩ (ok_chk ⟨by omega, by omega⟩ ?_)
  subst hbe
  have played : ∀ x, p - need ≤ x → x ≤ p → ∀ (g : Int → Option (Option (T3 Int Int Int))), (chk (RgB x) (chk (RgB (x + need)) (bnd (foldO (fun (c : Int) (k : Int) => (bnd (if ((decide ((0 : Int) ≤ k)) && (decide (k < (l.length : Int)))) = true then (bnd (atI l k) fun a => (lt ((c + a) : Int) fun q => (some q))) else (some c) : Option Int) fun b => (some b))) 0 (rng x (x + need))) g))) = g (wn l need x) := by
    intro x x0 x1 g
    rw [chk_pos ⟨by omega, by omega⟩, chk_pos ⟨by omega, by omega⟩, fold_val l (fun c k => ?_) (by omega)]
    · show g (0 + wn l need x) = _
      rw [Int.zero_add]
    · unfold val
      by_cases hk : 0 ≤ k ∧ k < l.length
      · rw [decide_eq_true hk.1, decide_eq_true hk.2, if_pos hk, at_bar (mem_rng.mpr hk)]; rfl
      · rw [if_neg hk, Int.add_zero]
        by_cases h0 : 0 ≤ k
        · rw [decide_eq_false (show ¬ k < l.length from fun h => hk ⟨h0, h⟩), Bool.and_false]; rfl
        · rw [decide_eq_false h0]; rfl
  rw [rng_cons (show p - need < p + 1 by omega)]
  unfold foldO
  refine ok_bnd (P := fun o => o = some ⟨wn l need (wat l need p), wat l need p, wat l need p + need⟩) ?_ fun o ho => by subst ho; exact ok_some rfl
  show Ok (Option.bind (chk _ (chk _ (bnd (foldO _ 0 _) _))) _) _
  rw [played (p - need) (by omega) (by omega)]
  show Ok (foldO _ (some (⟨wn l need (p - need), p - need, p - need + need⟩ : T3 Int Int Int)) _) _
  refine ok_eq (foldO_emb (g := better l need) (em := fun b => some (⟨wn l need b, b, b + need⟩ : T3 Int Int Int)) fun b x hx => ?_) rfl
  obtain ⟨x0, x1⟩ := mem_rng.mp hx
  show chk _ (chk _ (bnd (foldO _ 0 _) _)) = _
  rw [played x (by omega) (by omega)]
  unfold better
  show bnd (orO false (some (decide (wn l need x < wn l need b)))) _ = _
  by_cases hw : wn l need x < wn l need b
  · rw [if_pos hw, decide_eq_true hw]; rfl
  · rw [if_neg hw, decide_eq_false hw]; rfl
theorem ldue_eq {l : List Int} (h2 : l.length ≤ 200) {need hands : Int} {bs : List Int} (n0 : 0 ≤ need) (n1 : need ≤ 12) (hb : ∀ p ∈ bs, 1 ≤ p ∧ p < l.length) (hl : bs.length ≤ 1000) : m_l_due l need bs hands = some (dueL l need bs hands) := by
  refine Ok.eq ?_
  unfold m_l_due
  have hz := szl
  refine ok_bnd (P := fun ys => ys = bs.map fun p => (⟨wn l need (wat l need p), wat l need p, wat l need p + need⟩ : T3 Int Int Int)) (ok_eq (mapO_eq fun p hp => by rw [lwin_eq h2 n0 n1 (hb p hp).1 (hb p hp).2]; rfl) rfl) fun ys hys => ok_chk (by rw [hys, List.length_map]; omega) (ok_lt fun sp hsp => ok_lt fun td htd => ok_chk ⟨by omega, by omega⟩ ?_)
  subst hys hsp htd
  rw [foldO_app (N := 1000) (g := fun k => if l.getD k.toNat 0 = 0 then 0 else if bs.any (inw l need k) = true then hands / 2 else hands) ?_ (by rw [rng_len_nn (by omega)]; simp; omega)]
  · exact ok_some rfl
  · intro b k hbl hk
    have e : (!decide (List.map (fun x => x) (List.filter (fun x : T3 Int Int Int => decide (x.b ≤ k) && decide (k < x.c)) (bs.map fun p => (⟨wn l need (wat l need p), wat l need p, wat l need p + need⟩ : T3 Int Int Int))) = [])) = bs.any (inw l need k) := by
      rw [List.map_id', Bool.eq_iff_iff, Bool.not_eq_true', decide_eq_false_iff_not, List.filter_eq_nil_iff, List.any_eq_true]
      constructor
      · intro hn
        refine Classical.byContradiction fun hc => hn fun x hx hx2 => ?_
        obtain ⟨p, hp, rfl⟩ := List.mem_map.mp hx
        exact hc ⟨p, hp, hx2⟩
      · rintro ⟨p, hp, hx⟩ hn
        exact hn _ (List.mem_map_of_mem hp) hx
    have hfl := List.length_filter_le (fun x : T3 Int Int Int => decide (x.b ≤ k) && decide (k < x.c)) (bs.map fun p => (⟨wn l need (wat l need p), wat l need p, wat l need p + need⟩ : T3 Int Int Int))
    rw [List.length_map] at hfl
    show chk _ (lt _ _) = _
    rw [chk_pos (by rw [List.length_map]; omega)]
    unfold lt
    dsimp only
    rw [e, at_bar hk]
    by_cases h0 : l.getD k.toNat 0 = 0
    · simp only [if_pos h0]
      cases ha : bs.any (inw l need k)
      · show bnd (if decide (l.getD k.toNat 0 = 0) = true then _ else _) _ = _
        rw [decide_eq_true h0]
        show chk _ _ = _
        rw [chk_pos (by omega)]
      · show bnd (if decide (l.getD k.toNat 0 = 0) = true then _ else _) _ = _
        rw [decide_eq_true h0]
        show chk _ _ = _
        rw [chk_pos (by omega)]
    · simp only [if_neg h0]
      cases ha : bs.any (inw l need k)
      · show bnd (if decide (l.getD k.toNat 0 = 0) = true then _ else _) _ = _
        rw [decide_eq_false h0]
        show chk _ _ = _
        rw [chk_pos (by omega)]; rfl
      · show bnd (if decide (l.getD k.toNat 0 = 0) = true then _ else _) _ = _
        rw [decide_eq_false h0]
        show chk _ _ = _
        rw [chk_pos (by omega), if_pos rfl]
theorem same_ok {a b : List Int} (h : a = b) : m_l_same a b = some true := by
  subst h
  unfold m_l_same
  rw [decide_eq_true rfl]
  have e : List.filter (fun (_ : Int) => (false || !true)) a = [] := List.filter_eq_nil_iff.mpr (by simp)
  rw [e]
  show chk _ _ = _
  rw [chk_pos (by rw [szl]; exact Nat.zero_le _)]
  rfl
theorem due_turn (l : List Int) (need hands : Int) {bs cs : List Int} (h : ∀ x, x ∈ cs ↔ x ∈ bs) : dueL l need cs hands = dueL l need bs hands := by
  unfold dueL
  refine List.map_congr_left fun k _ => ?_
  have : cs.any (inw l need k) = bs.any (inw l need k) := by
    rw [Bool.eq_iff_iff, List.any_eq_true, List.any_eq_true]
    exact ⟨fun ⟨x, h1, h2⟩ => ⟨x, (h x).mp h1, h2⟩, fun ⟨x, h1, h2⟩ => ⟨x, (h x).mpr h1, h2⟩⟩
  rw [this]
theorem cell_ok (sc : List Int) {k : Int} (h : 0 ≤ k) : Ok (m_l_cell_at sc k) (fun _ => True) := by
  unfold m_l_cell_at
  exact ok_ite (fun h2 => ok_ret (ok_atI h (of_decide_eq_true h2) fun _ _ => trivial)) (fun _ => ok_some trivial)
theorem number_ok (sc : List Int) {k : Int} (h : 0 ≤ k) (h1 : k ≤ 100) : Ok (m_l_number sc k) (fun _ => True) := by
  unfold m_l_number
  refine ok_bnd (cell_ok sc h) fun c _ => ok_lt fun c' _ => ok_bnd (cell_ok sc (Int.le_refl _)) fun d _ => ok_ite (fun _ => ok_some trivial) fun _ => ok_chk (mul_l (by omega) (by omega)) (ok_lt fun _ _ => ok_lt fun _ _ => ok_lt fun _ _ => ok_some trivial)
theorem digits_ok {n many size : Int} (h0 : 0 ≤ many) (h1 : many ≤ 1000) (s0 : 0 < size) (s1 : size < 100000) : Ok (m_l_digits n many size) (fun ds => (ds.length : Int) = many ∧ ∀ x ∈ ds, 0 ≤ x ∧ x < size) := by
  unfold m_l_digits
  have hz := szl
  refine ok_lt fun f hf => ok_chk ⟨by omega, by omega⟩ (ok_bnd (P := fun b => (b.1.length : Int) = many ∧ ∀ x ∈ b.1, 0 ≤ x ∧ x < size) (ok_foldO (fun i b => b.1.length = i ∧ ∀ x ∈ b.1, 0 ≤ x ∧ x < size) ⟨by rw [hf]; rfl, by rw [hf]; simp⟩ ?_ ?_) fun b hb => ok_some hb)
  · rintro i ⟨b1, b2⟩ x hx ⟨hl, hm⟩
    obtain ⟨e1, e2⟩ := rng_at hx
    dsimp only at hl hm ⊢
    refine ok_chk s0 (ok_chk (by omega) (ok_lt fun f2 hf2 => ok_chk (div_small s0 (by omega)) (ok_lt fun n2 _ => ok_some ?_)))
    subst hf2
    refine ⟨by rw [List.length_append, hl]; rfl, fun y hy => ?_⟩
    rcases List.mem_append.mp hy with hy | hy
    · exact hm y hy
    · rw [List.mem_singleton.mp hy]
      exact ⟨Int.emod_nonneg _ (by omega), Int.emod_lt_of_pos _ s0⟩
  · rintro b ⟨hl, hm⟩
    exact ⟨by rw [hl, rng_len_nn h0]; omega, hm⟩
theorem law_true : ∀ ns : List Int, ns.length ≤ 63 → a_law (ns, ()) = some true := by
  intro ns hn
  refine Ok.eq ?_
  show Ok (m_law ns) _
  unfold m_law
  have hz := szl
  refine ok_bnd (number_ok ns (by decide) (by decide)) fun n1 _ => ok_bnd (digits_ok (by decide) (by decide) (by decide) (by decide)) fun sz ⟨sz1, sz2⟩ => ok_lt fun sizes h => ?_
  subst h
  have hat : ∀ k : Int, 0 ≤ k → k < 4 → Ok (atI sizes k) (fun x : Int => 0 ≤ x ∧ x < 10007) := fun k k0 k1 => ok_atI k0 (by omega) fun x hx => sz2 x (List.mem_of_getElem? hx)
  refine ok_bnd (hat 0 (by decide) (by decide)) fun s0 hs0 => ok_lt fun many hmany => ok_bnd (hat 1 (by decide) (by decide)) fun s1 hs1 => ok_bnd (P := fun m => 1 ≤ m ∧ m ≤ 200) (ok_ite (fun _ => ok_lt fun m hm => ok_some (by omega)) fun _ => ok_some (by omega)) fun m ⟨m0, m1⟩ => ok_lt fun fa hfa => ok_bnd (hat 1 (by decide) (by decide)) fun s1' hs1' => ?_
  refine ok_bnd (P := fun fa => 0 ≤ fa) (ok_ite (fun _ => ok_bnd (cell_ok ns (by decide)) fun c _ => ok_lt fun f hf => ok_some ?_) fun _ => ok_some (by omega)) fun fa2 hfa2 => ?_
  · have := Int.emod_nonneg c (b := (10 : Int) ^ ((59 : Int)).toNat) (by decide)
    omega
  refine ok_bnd (number_ok ns (by decide) (by decide)) fun n3 _ => ok_bnd (digits_ok (by omega) (by omega) (by decide) (by decide)) fun dg ⟨dg1, dg2⟩ => ?_
  refine ok_bnd (P := fun ys => ys.length = dg.length ∧ ∀ y ∈ ys, 0 ≤ y) ?_ fun ys ⟨ys1, ys2⟩ => ok_chk (by omega) (ok_lt fun bars0 hb0 => ok_chk ⟨by omega, by omega⟩ ?_)
  · refine Ok.imp (ok_mapO (P := fun _ y => 0 ≤ y) fun x hx => ok_chk (mul_l (by have := dg2 x hx; omega) (by have := dg2 x hx; omega)) (ok_some (Int.mul_nonneg (dg2 x hx).1 hfa2))) fun ys ⟨h1, h2⟩ => ⟨h1, fun y hy => ?_⟩
    obtain ⟨i, hi⟩ := List.mem_iff_getElem?.mp hy
    obtain ⟨_, _, h⟩ := h2 i y hi
    exact h
  have ys1 : bars0.length = dg.length := by rw [hb0, ys1]
  have ys2 : ∀ y ∈ bars0, 0 ≤ y := by rw [hb0]; exact ys2
  refine ok_bnd (P := fun l => Bars l ∧ (l.length : Int) = m) (ok_foldO (fun i b => b.length = bars0.length + i ∧ ∀ y ∈ b, 0 ≤ y) ⟨rfl, ys2⟩ ?_ ?_) fun l ⟨hl, hlm⟩ => ?_
  · rintro i b x hx ⟨hb1, hb2⟩
    obtain ⟨e1, e2⟩ := rng_at hx
    refine ok_bnd (hat 0 (by decide) (by decide)) fun s0' hs0' => ok_chk (by omega) (ok_lt fun b2 hb2' => ok_some ?_)
    subst hb2'
    refine ⟨by rw [List.length_append, hb1]; rfl, fun y hy => ?_⟩
    rcases List.mem_append.mp hy with hy | hy
    · exact hb2 y hy
    · rw [List.mem_singleton.mp hy]
      refine Int.mul_nonneg hfa2 ?_
      have := Int.emod_nonneg (x * (1 + s0' % 7)) (b := 5) (by decide)
      omega
  · rintro b ⟨hb1, hb2⟩
    rw [rng_len] at hb1
    have : (b.length : Int) = m := by omega
    exact ⟨⟨by omega, by omega, hb2⟩, this⟩
  refine ok_bnd (hat 2 (by decide) (by decide)) fun s2 hs2 => ok_lt fun need hneed => ok_bnd (hat 2 (by decide) (by decide)) fun s2' hs2' => ok_lt fun hands hhands => ok_lt fun br0 hbr0 => ?_
  refine ok_bnd (P := fun bs => (∀ p ∈ bs, 1 ≤ p ∧ p < (l.length : Int)) ∧ bs.length ≤ 12) (ok_ite (fun hm => ok_bnd (number_ok ns (by decide) (by decide)) fun n4 _ => ok_bnd (hat 3 (by decide) (by decide)) fun s3 hs3 => ?_) fun _ => ok_some (by rw [hbr0]; exact ⟨fun p hp => by simp at hp, Nat.zero_le _⟩)) fun bs ⟨hb1, hb2⟩ => ?_
  · have hm := of_decide_eq_true hm
    refine ok_bnd (digits_ok (by omega) (by omega) (by omega) (by omega)) fun ds ⟨d1, d2⟩ => ok_chk (by rw [List.length_map]; omega) (ok_lt fun br hbr => ok_some ?_)
    rw [hbr]
    refine ⟨fun p hp => ?_, by rw [List.length_map]; omega⟩
    obtain ⟨y, hy, rfl⟩ := List.mem_map.mp hp
    have := d2 y hy
    omega
  have n0 : 0 ≤ need := by omega
  have n1 : need ≤ 12 := by omega
  have hl2 := hl.2.1
  have hall : ∀ bs', (∀ x, x ∈ bs' → x ∈ bs) → bs'.length ≤ 1000 → m_heard_by l need bs' hands = some (dueL l need bs' hands) := fun bs' h1 h2 => heard_eq hl n0 n1 (fun p hp => hb1 p (h1 p hp)) h2 (by omega) (by omega)
  have hall2 : ∀ bs', (∀ x, x ∈ bs' → x ∈ bs) → bs'.length ≤ 1000 → m_l_due l need bs' hands = some (dueL l need bs' hands) := fun bs' h1 h2 => ldue_eq hl2 n0 n1 (fun p hp => hb1 p (h1 p hp)) h2
  refine ok_lt fun handed hha => ?_
  subst hha
  rw [hall2 bs (fun _ h => h) (by omega)]
  refine ok_bnd (P := fun x => x = _) (ok_some rfl) fun du hdu => ok_lt fun due hdue => ?_
  subst hdu hdue
  refine ok_bnd (P := fun x => x = l) (ok_eq rfl rfl) fun l2 e => ?_
  subst e
  refine ok_bnd (P := fun x => x = bs) (ok_eq rfl rfl) fun bs2 e => ?_
  subst e
  rw [hall bs2 (fun _ h => h) (by omega)]
  refine ok_bnd (P := fun x => x = _) (ok_some rfl) fun fo hfo => ok_lt fun found hfo2 => ?_
  subst hfo hfo2
  rw [same_ok rfl]
  refine ok_bnd (P := fun x => x = true) (ok_some rfl) fun sa hsa => ?_
  subst hsa
  rw [decide_eq_true rfl]
  refine ok_ite (fun h => Bool.noConfusion h) fun _ => ?_
  have hdl : (dueL l2 need bs2 hands).length ≤ 200 := by unfold dueL; rw [List.length_map, rng_len_nn (by omega)]; omega
  have hrl := cut_len_le bs2 none (some 1)
  refine ok_chk (by omega) (ok_lt fun f2 hf2 => ok_bnd (P := fun _ => True) ?_ fun j hj => ok_lt fun f3 hf3 => ok_chk (by rw [List.length_reverse]; omega) (ok_lt fun turned htu => ?_))
  · have : f2.length = (dueL l2 need bs2 hands).length + 1 := by rw [hf2, List.length_append]; rfl
    refine ⟨0, ?_, trivial⟩
    unfold ixN
    rw [this, if_pos (Int.le_refl 0), if_pos (by omega)]
    rfl
  subst htu
  have hmem : ∀ x, x ∈ bs2.reverse ++ cut bs2 none (some 1) ↔ x ∈ bs2 := fun x => by
    rw [List.mem_append, List.mem_reverse]
    refine ⟨fun h => h.elim id fun h => ?_, .inl⟩
    unfold cut at h
    exact List.mem_of_mem_drop (List.mem_of_mem_take h)
  rw [hall _ (fun x h => (hmem x).mp h) (by rw [List.length_append, List.length_reverse]; omega), due_turn l2 need hands hmem]
  refine ok_bnd (P := fun x => x = _) (ok_some rfl) fun fo hfo => ?_
  subst hfo
  rw [same_ok rfl]
  refine ok_bnd (P := fun x => x = true) (ok_some rfl) fun sa hsa => ?_
  subst hsa
  refine ok_ite (fun h => Bool.noConfusion h) fun _ => ok_bnd (P := fun x => x = l2) (ok_eq rfl rfl) fun l3 e => ?_
  subst e
  rw [hall [] (fun _ h => by simp at h) (by decide), hall2 [] (fun _ h => by simp at h) (by decide)]
  refine ok_bnd (P := fun x => x = _) (ok_some rfl) fun a ha => ok_bnd (P := fun x => x = _) (ok_some rfl) fun b hb => ?_
  subst ha hb
  rw [same_ok rfl]
  exact ok_some rfl

end K60

open PySem PySem.W PySem.Calls PyProof.Rows
set_option maxHeartbeats 0 in
theorem PySem.Challenge.cw_deskpairs_k60_what_is_heard_holds : PySem.Challenge.rw_deskpairs_k60_what_is_heard.Holds := by
  w_on; o_law
  refine HandSHeadRun.head_any (r := OpenLaw.row PySem.Challenge.rw_deskpairs_k60_what_is_heard) (q := view (OpenLaw.row PySem.Challenge.rw_deskpairs_k60_what_is_heard).prog [20]) (H := K60.hk) (ob := K60.ob) (M := 1240) (loose := K60.loose) (d := HandSHeadRun.topDef (OpenLaw.row PySem.Challenge.rw_deskpairs_k60_what_is_heard).prog 20) (kwd := []) K60.ob_eq
    (by kernel_rfl) (fun s => by kernel_rfl) K60.run (by kernel_rfl) (by kernel_rfl) (by kernel_rfl) (by rfl) (by first | assumption | decide +kernel) (by decide +kernel) ⟨rfl, rfl, rfl, rfl, rfl, by decide +kernel⟩ ?hw ?hc
  case hw => w_witness2
  case hc =>
    refine L2.walk_ofE (l := PySem.Challenge.rw_deskpairs_k60_what_is_heard) (n := 63) (k := 4) (x := "_law_script") (CX := L2.CX0) rfl (by decide) (by kernel_rfl) ⟨rfl, by decide, by decide⟩ ?F (fun _ _ _ _ z => z)
    intro w mg fa h Y G hmg0
    obtain ⟨K, KX, c⟩ := Y
    have hmg : mg ("law" : PySem.Str) = some (.ref fa) := by
      have e : (HandSHeadRun.topDef (OpenLaw.row PySem.Challenge.rw_deskpairs_k60_what_is_heard).prog 20).name = ("law" : PySem.Str) := by kernel_rfl
      rw [← e]
      exact hmg0
    obtain ⟨fd, hb, hF⟩ := K60.facts (P := (PySem.Challenge.rw_deskpairs_k60_what_is_heard).prog) (w := w) KX G hmg c
    exact ⟨K, fd, Dy.spLaw K, KX, hb, fun H a ns hl _ hS => ⟨a, ns, rfl, hS, hl, fun _ => rfl⟩, fun base h1 h2 => Dy.law_of (hF base h1 h2) K60.law_true⟩

